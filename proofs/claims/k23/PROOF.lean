import PyProof.Rows.All
import Wide.All
import OpenK.AllK
import Wide.FinOn
import HandS.ForMost
import HandS.ForExc
import HandS.Walk
import HandS.Text
import HandS.Strs
import HandS.ExcIs
import HandS.ExcField
import KE.SortData
import HandS.CallSlots
import HandS.NoneIn
import HandS.TupAny
import HandS.Deep
import HandS.IsInst
import HandS.Style
import HandS.Iter
import HandS.Zip
import KE.GoesMore
import KE.GoesEnum
import PyProof.StrOps2
import KE.KRevSl
import HandS.SortInts
import HandS.Conv
import HandS.Wide
import PyProof.ReprRoads
import HandS.RaiseMore
import HandS.More
import HandS.Dict
import PyProof.MaxThree
import PyProof.LongRange
import HandS.SetKeys
import KE.KExcIs
import HandS.TryOnly
import HandS.Small
import HandS.ExcInit
import HandS.ExcValue
import HandS.TryElse
import KE.KEqDict
import PyProof.P3Eq
import HandS.Set
import HandS.Ends
import PySem.Challenge.RW_sawtrunk_k23_refusals_made
set_option Elab.async false
set_option linter.all false
set_option maxRecDepth 100000
set_option maxHeartbeats 4000000
/-! DLa: data, stores, worlds, what stands for what. -/
namespace DL
open PySem PySem.Spec PyProof.Rows L2

/-- data; loc: a cell of the store -/
inductive D where
  | non | bl (b : Bool) | int (i : Int) | str (x : Str)
  | tup (xs : List D) | lst (xs : List D)
  | dK (kvs : List (Key × D)) | dT (kvs : List (List Key × D))
  | loc (n : Nat)
  /-- the script -/
  | scr (ns : List Int)
  /-- a tuple of the module's top -/
  | ctp (xs : List D)
  /-- a def of the text -/
  | fn (x : Str)
  /-- an exception: its class, the names of the classes of which it is one, its fields -/
  | exn (c : Str) (ups : List Str) (fs : List (Str × D))

mutual
def D.pure : D → Bool
  | .non => true
  | .bl _ => true
  | .int _ => true
  | .str _ => true
  | .tup xs => D.pureL xs
  | .lst xs => D.pureL xs
  | .dK kvs => D.pureK kvs
  | .dT kvs => D.pureT kvs
  | .loc _ => false
  | .scr _ => true
  | .ctp xs => D.pureL xs
  | .fn _ => true
  | .exn _ _ fs => D.pureF fs
def D.pureF : List (Str × D) → Bool
  | [] => true
  | (_, x) :: r => D.pure x && D.pureF r
def D.pureL : List D → Bool
  | [] => true
  | x :: r => D.pure x && D.pureL r
def D.pureK : List (Key × D) → Bool
  | [] => true
  | (_, x) :: r => D.pure x && D.pureK r
def D.pureT : List (List Key × D) → Bool
  | [] => true
  | (_, x) :: r => D.pure x && D.pureT r
end

mutual
/-- what is known of no dict is forgotten -/
def D.weak : D → D
  | .tup xs => .tup (D.weakL xs)
  | .ctp xs => .tup (D.weakL xs)
  | .lst xs => .lst (D.weakL xs)
  | d => d
def D.weakL : List D → List D
  | [] => []
  | x :: r => D.weak x :: D.weakL r
end
inductive Cell where
  | lst (xs : List D)
  | dK (kvs : List (Key × D)) | dT (kvs : List (List Key × D))
  | ins (c : Str) (fs : List (Str × D))
  /-- a dict that is walked: read, not written -/
  | fK (kvs : List (Key × D))
abbrev Store := List (Option Cell)

/-- what stands for good (G), where the cells are (m), how many there are -/
structure Wd where
  G : Hp
  m : Nat → Addr
  N : Nat
  fa : Str → Option Value

/-- a dict that nobody writes any more, known to the object: it may be walked -/
def RdD (G : Hp) (a : Addr) (kvs : List (Key × V)) : Prop := ∃ o : Obj, G a = some (.frz o (.dK kvs))
def RdT (G : Hp) (a : Addr) (kvs : List (List Key × V)) : Prop := Rd G a (.dT kvs)

/-- a tuple of the module's top -/
def TupK (K : PySem.W.Frag) (a : Addr) (vs : List V) : Prop := ∃ (o : Obj) (its : Array Value) (n : Nat), K.lookup a = some o ∧ o.cls = .type "tuple" ∧ o.dict = none ∧ o.data = .seq its n ∧ its.size ≤ sizeLine ∧ Vals vs its.toList
theorem TupK.sq {K : PySem.W.Frag} {a : Addr} {vs : List V} (h : TupK K a vs) (H : Hp) : SqT K H a vs := let ⟨o, its, n, h1, h2, _, h4, h5, h6⟩ := h; .inr ⟨o, its, n, h1, h2, h4, h5, h6⟩
/-- a tuple that is known to have no dict of its own -/
def TupN (K : PySem.W.Frag) (G : Hp) (a : Addr) (vs : List V) : Prop := TupK K a vs ∨ ∃ o : Obj, G a = some (.frz o (.tup vs)) ∧ o.cls = .type "tuple" ∧ o.dict = none
theorem TupN.sq {K : PySem.W.Frag} {G : Hp} {a : Addr} {vs : List V} (h : TupN K G a vs) : SqT K G a vs := by
  rcases h with h | ⟨o, h, _⟩
  · exact h.sq G
  · exact .inl (.inr ⟨o, h⟩)
/-! ### exceptions -/
def xNames : List Str := ["SawError", "TooThick", "NoBlock", "TooBroad", "TooLong", "Stacked", "Overhang", "NotStacked", "Beneath", "Taken", "NoTrunk", "NoBoard", "NoOrder", "NoGrade", "Misfit", "NoDeed", "NoDay", "Hindered", "NoEntry", "NoLine", "NoRow"]
def fNames : List Str := ["deep", "breadth", "long", "stack", "name", "names", "word", "entry", "refusal", "line"]
/-- what is known of a class of exceptions: C, one of all that ups names -/
structure XcOk (K : PySem.W.Frag) (fa : Str → Option Value) (ups : List Str) (C : Addr) : Prop where
  ec : ExcC K C
  xf : XfC K C
  sub : ∀ c' C', c' ∈ xNames → fa c' = some (.ref C') → PySem.W.kitOne K (.ref C) (.ref C') = some (decide (c' ∈ ups)) ∧ PySem.W.exmOne K (.ref C) (.ref C') = some (decide (c' ∈ ups))
  ve : PySem.W.kitOne K (.ref C) (.type "ValueError") = some true
  no : ∀ f, f ∈ fNames → PySem.W.findIn K (.ref C) f = some none
/-- the exception object at a, of the class cls, its own dict at d -/
def ExV (cls : Value) (d : Option Addr) (a : Addr) : HO := .ext fun h => ∃ (oe : Obj) (vs : Array Value), h.get? a = some oe ∧ Zc cls d oe ∧ oe.data = .fields vs
theorem exV_ok {P : Program} {w : World} {H : Hp} {h : Heap} {a : Addr} {cls : Value} {d : Option Addr} {oe : Obj} {vs : Array Value} (e : h.get? a = some oe) (z : Zc cls d oe) (q : oe.data = .fields vs) : ObjOk P w H h a (ExV cls d a) :=
  ⟨⟨oe, vs, e, z, q⟩, ⟨oe, e⟩, fun _ _ ⟨o, us, e1, z1, q1⟩ k => ⟨o, us, k o e1, z1, q1⟩⟩
mutual
inductive Rep (K : PySem.W.Frag) (w : Wd) : D → V → Prop
  | non : Rep K w .non .non
  | bl (b : Bool) : Rep K w (.bl b) (.bl b)
  | int (i : Int) : Rep K w (.int i) (.int i)
  | str (x : Str) : Rep K w (.str x) (.str x)
  | tup {a : Addr} {ds : List D} {vs : List V} : SqT K w.G a vs → Reps K w ds vs → Rep K w (.tup ds) (.ref a)
  | ctp {a : Addr} {ds : List D} {vs : List V} : TupN K w.G a vs → Reps K w ds vs → Rep K w (.ctp ds) (.ref a)
  | fn {x : Str} {a : Addr} : w.fa x = some (.ref a) → Rep K w (.fn x) (.ref a)
  | lst {a : Addr} {ds : List D} {vs : List V} : w.G a = some (.lst vs) → Reps K w ds vs → Rep K w (.lst ds) (.ref a)
  | dK {a : Addr} {ks : List (Key × D)} {ws : List (Key × V)} : RdD w.G a ws → RepK K w ks ws → Rep K w (.dK ks) (.ref a)
  | dT {a : Addr} {ks : List (List Key × D)} {ws : List (List Key × V)} : RdT w.G a ws → RepT K w ks ws → Rep K w (.dT ks) (.ref a)
  | loc {n : Nat} : n < w.N → Rep K w (.loc n) (.ref (w.m n))
  | scr {a : Addr} {ns : List Int} : SqL K w.G a (ns.map V.int) → Rep K w (.scr ns) (.ref a)
  | exn0 {a C : Addr} {c : Str} {ups : List Str} : w.fa c = some (.ref C) → XcOk K w.fa ups C → w.G a = some (ExV (.ref C) none a) → Rep K w (.exn c ups []) (.ref a)
  | exn {a C ad : Addr} {c : Str} {ups : List Str} {fs : List (Str × D)} {ws : List (Str × V)} : w.fa c = some (.ref C) → XcOk K w.fa ups C → w.G a = some (ExV (.ref C) (some ad) a) → w.G ad = some (.xd ws) → RepF K w fs ws → Rep K w (.exn c ups fs) (.ref a)
inductive Reps (K : PySem.W.Frag) (w : Wd) : List D → List V → Prop
  | nil : Reps K w [] []
  | cons {d : D} {v : V} {ds : List D} {vs : List V} : Rep K w d v → Reps K w ds vs → Reps K w (d :: ds) (v :: vs)
inductive RepK (K : PySem.W.Frag) (w : Wd) : List (Key × D) → List (Key × V) → Prop
  | nil : RepK K w [] []
  | cons {k : Key} {d : D} {v : V} {ds : List (Key × D)} {vs : List (Key × V)} : Rep K w d v → RepK K w ds vs → RepK K w ((k, d) :: ds) ((k, v) :: vs)
inductive RepF (K : PySem.W.Frag) (w : Wd) : List (Str × D) → List (Str × V) → Prop
  | nil : RepF K w [] []
  | cons {k : Str} {d : D} {v : V} {ds : List (Str × D)} {vs : List (Str × V)} : Rep K w d v → RepF K w ds vs → RepF K w ((k, d) :: ds) ((k, v) :: vs)
inductive RepT (K : PySem.W.Frag) (w : Wd) : List (List Key × D) → List (List Key × V) → Prop
  | nil : RepT K w [] []
  | cons {k : List Key} {d : D} {v : V} {ds : List (List Key × D)} {vs : List (List Key × V)} : Rep K w d v → RepT K w ds vs → RepT K w ((k, d) :: ds) ((k, v) :: vs)
end

/-- what reads as a list, a tuple, a dict still does -/
structure GLe (G G' : Hp) : Prop where
  lst : ∀ a xs, G a = some (.lst xs) → G' a = some (.lst xs)
  fzl : ∀ a o xs, G a = some (.frz o (.lst xs)) → G' a = some (.frz o (.lst xs))
  tup : ∀ a xs, G a = some (.tup xs) → G' a = some (.tup xs)
  fzt : ∀ a o xs, G a = some (.frz o (.tup xs)) → G' a = some (.frz o (.tup xs))
  dK : ∀ a xs, RdD G a xs → RdD G' a xs
  dT : ∀ a xs, Rd G a (.dT xs) → Rd G' a (.dT xs)
  ex : ∀ a φ, G a = some (.ext φ) → G' a = some (.ext φ)
  xd : ∀ a fs, G a = some (.xd fs) → G' a = some (.xd fs)
theorem GLe.refl (G : Hp) : GLe G G := ⟨fun _ _ h => h, fun _ _ _ h => h, fun _ _ h => h, fun _ _ _ h => h, fun _ _ h => h, fun _ _ h => h, fun _ _ h => h, fun _ _ h => h⟩
theorem GLe.trans {G G' G2 : Hp} (a : GLe G G') (b : GLe G' G2) : GLe G G2 :=
  ⟨fun x y h => b.lst x y (a.lst x y h), fun x o y h => b.fzl x o y (a.fzl x o y h), fun x y h => b.tup x y (a.tup x y h), fun x o y h => b.fzt x o y (a.fzt x o y h), fun x y h => b.dK x y (a.dK x y h), fun x y h => b.dT x y (a.dT x y h), fun x y h => b.ex x y (a.ex x y h), fun x y h => b.xd x y (a.xd x y h)⟩
theorem Rd.same {G G' : Hp} {a : Addr} {u : HO} (e : Same G G') (h : Rd G a u) : Rd G' a u := by
  rcases h with h | ⟨o, h⟩
  · exact .inl (e _ _ h)
  · exact .inr ⟨o, e _ _ h⟩
theorem GLe.same {G G' : Hp} (e : Same G G') : GLe G G' := ⟨fun _ _ h => e _ _ h, fun _ _ _ h => e _ _ h, fun _ _ h => e _ _ h, fun _ _ _ h => e _ _ h, fun _ _ ⟨o, h⟩ => ⟨o, e _ _ h⟩, fun _ _ h => Rd.same e h, fun _ _ h => e _ _ h, fun _ _ h => e _ _ h⟩
theorem GLe.seqL {K : PySem.W.Frag} {G G' : Hp} {a : Addr} {xs : List V} (e : GLe G G') (h : SqL K G a xs) : SqL K G' a xs := by
  rcases h with (h | ⟨o, h⟩) | h
  · exact .inl (.inl (e.lst _ _ h))
  · exact .inl (.inr ⟨o, e.fzl _ _ _ h⟩)
  · exact .inr h
theorem GLe.tupN {K : PySem.W.Frag} {G G' : Hp} {a : Addr} {xs : List V} (e : GLe G G') (h : TupN K G a xs) : TupN K G' a xs := by
  rcases h with h | ⟨o, h, q⟩
  · exact .inl h
  · exact .inr ⟨o, e.fzt _ _ _ h, q⟩
theorem GLe.seqT {K : PySem.W.Frag} {G G' : Hp} {a : Addr} {xs : List V} (e : GLe G G') (h : SqT K G a xs) : SqT K G' a xs := by
  rcases h with (h | ⟨o, h⟩) | h
  · exact .inl (.inl (e.tup _ _ h))
  · exact .inl (.inr ⟨o, e.fzt _ _ _ h⟩)
  · exact .inr h

structure Wd.Le (w w' : Wd) : Prop where
  g : GLe w.G w'.G
  n : w.N ≤ w'.N
  m : ∀ i, i < w.N → w'.m i = w.m i
  f : w'.fa = w.fa
theorem Wd.Le.refl (w : Wd) : Wd.Le w w := ⟨GLe.refl _, Nat.le_refl _, fun _ _ => rfl, rfl⟩
theorem Wd.Le.trans {a b c : Wd} (x : Wd.Le a b) (y : Wd.Le b c) : Wd.Le a c := ⟨x.g.trans y.g, Nat.le_trans x.n y.n, fun i h => (y.m i (Nat.lt_of_lt_of_le h x.n)).trans (x.m i h), y.f.trans x.f⟩

section
variable {K : PySem.W.Frag} {w w' : Wd}
mutual
theorem Rep.mono (e : Wd.Le w w') : ∀ {d : D} {v : V}, Rep K w d v → Rep K w' d v
  | _, _, .non => .non
  | _, _, .bl b => .bl b
  | _, _, .int b => .int b
  | _, _, .str b => .str b
  | _, _, .tup h r => .tup (e.g.seqT h) (Reps.mono e r)
  | _, _, .ctp h r => .ctp (e.g.tupN h) (Reps.mono e r)
  | _, _, .exn0 h1 h2 h3 => .exn0 (by rw [e.f]; exact h1) (by rw [e.f]; exact h2) (e.g.ex _ _ h3)
  | _, _, .exn h1 h2 h3 h4 r => .exn (by rw [e.f]; exact h1) (by rw [e.f]; exact h2) (e.g.ex _ _ h3) (e.g.xd _ _ h4) (RepF.mono e r)
  | _, _, .fn h => .fn (by rw [e.f]; exact h)
  | _, _, .lst h r => .lst (e.g.lst _ _ h) (Reps.mono e r)
  | _, _, .scr h => .scr (e.g.seqL h)
  | _, _, .dK h r => .dK (e.g.dK _ _ h) (RepK.mono e r)
  | _, _, .dT h r => .dT (e.g.dT _ _ h) (RepT.mono e r)
  | _, _, .loc h => by rw [← e.m _ h]; exact .loc (Nat.lt_of_lt_of_le h e.n)
theorem Reps.mono (e : Wd.Le w w') : ∀ {d : List D} {v : List V}, Reps K w d v → Reps K w' d v
  | _, _, .nil => .nil
  | _, _, .cons h r => .cons (Rep.mono e h) (Reps.mono e r)
theorem RepK.mono (e : Wd.Le w w') : ∀ {d : List (Key × D)} {v : List (Key × V)}, RepK K w d v → RepK K w' d v
  | _, _, .nil => .nil
  | _, _, .cons h r => .cons (Rep.mono e h) (RepK.mono e r)
theorem RepF.mono (e : Wd.Le w w') : ∀ {d : List (Str × D)} {v : List (Str × V)}, RepF K w d v → RepF K w' d v
  | _, _, .nil => .nil
  | _, _, .cons h r => .cons (Rep.mono e h) (RepF.mono e r)
theorem RepT.mono (e : Wd.Le w w') : ∀ {d : List (List Key × D)} {v : List (List Key × V)}, RepT K w d v → RepT K w' d v
  | _, _, .nil => .nil
  | _, _, .cons h r => .cons (Rep.mono e h) (RepT.mono e r)
end
mutual
theorem Rep.weak : ∀ {d : D} {v : V}, Rep K w d v → Rep K w d.weak v
  | _, _, .non => .non
  | _, _, .bl b => .bl b
  | _, _, .int b => .int b
  | _, _, .str b => .str b
  | _, _, .tup h r => .tup h (Reps.weak r)
  | _, _, .ctp h r => .tup h.sq (Reps.weak r)
  | _, _, .lst h r => .lst h (Reps.weak r)
  | _, _, .exn0 h1 h2 h3 => .exn0 h1 h2 h3
  | _, _, .exn h1 h2 h3 h4 r => .exn h1 h2 h3 h4 r
  | _, _, .fn h => .fn h
  | _, _, .scr h => .scr h
  | _, _, .dK h r => .dK h r
  | _, _, .dT h r => .dT h r
  | _, _, .loc h => .loc h
theorem Reps.weak : ∀ {d : List D} {v : List V}, Reps K w d v → Reps K w (D.weakL d) v
  | _, _, .nil => .nil
  | _, _, .cons h r => .cons (Rep.weak h) (Reps.weak r)
end
mutual
theorem Rep.ofPure (e : GLe w.G w'.G) (f : w'.fa = w.fa) : ∀ {d : D} {v : V}, d.pure = true → Rep K w d v → Rep K w' d v
  | _, _, _, .non => .non
  | _, _, _, .bl b => .bl b
  | _, _, _, .int b => .int b
  | _, _, _, .str b => .str b
  | _, _, p, .tup h r => .tup (e.seqT h) (Reps.ofPure e f (by simpa [D.pure] using p) r)
  | _, _, _, .fn h => .fn (by rw [f]; exact h)
  | _, _, p, .ctp h r => .ctp (e.tupN h) (Reps.ofPure e f (by simpa [D.pure] using p) r)
  | _, _, _, .exn0 h1 h2 h3 => .exn0 (by rw [f]; exact h1) (by rw [f]; exact h2) (e.ex _ _ h3)
  | _, _, p, .exn h1 h2 h3 h4 r => .exn (by rw [f]; exact h1) (by rw [f]; exact h2) (e.ex _ _ h3) (e.xd _ _ h4) (RepF.ofPure e f (by simpa [D.pure] using p) r)
  | _, _, _, .scr h => .scr (e.seqL h)
  | _, _, p, .lst h r => .lst (e.lst _ _ h) (Reps.ofPure e f (by simpa [D.pure] using p) r)
  | _, _, p, .dK h r => .dK (e.dK _ _ h) (RepK.ofPure e f (by simpa [D.pure] using p) r)
  | _, _, p, .dT h r => .dT (e.dT _ _ h) (RepT.ofPure e f (by simpa [D.pure] using p) r)
  | _, _, p, .loc h => by simp [D.pure] at p
theorem Reps.ofPure (e : GLe w.G w'.G) (f : w'.fa = w.fa) : ∀ {d : List D} {v : List V}, D.pureL d = true → Reps K w d v → Reps K w' d v
  | _, _, _, .nil => .nil
  | _, _, p, .cons h r => by
    simp only [D.pureL, Bool.and_eq_true] at p
    exact .cons (Rep.ofPure e f p.1 h) (Reps.ofPure e f p.2 r)
theorem RepK.ofPure (e : GLe w.G w'.G) (f : w'.fa = w.fa) : ∀ {d : List (Key × D)} {v : List (Key × V)}, D.pureK d = true → RepK K w d v → RepK K w' d v
  | _, _, _, .nil => .nil
  | _, _, p, .cons h r => by
    simp only [D.pureK, Bool.and_eq_true] at p
    exact .cons (Rep.ofPure e f p.1 h) (RepK.ofPure e f p.2 r)
theorem RepF.ofPure (e : GLe w.G w'.G) (f : w'.fa = w.fa) : ∀ {d : List (Str × D)} {v : List (Str × V)}, D.pureF d = true → RepF K w d v → RepF K w' d v
  | _, _, _, .nil => .nil
  | _, _, p, .cons h r => by
    simp only [D.pureF, Bool.and_eq_true] at p
    exact .cons (Rep.ofPure e f p.1 h) (RepF.ofPure e f p.2 r)
theorem RepT.ofPure (e : GLe w.G w'.G) (f : w'.fa = w.fa) : ∀ {d : List (List Key × D)} {v : List (List Key × V)}, D.pureT d = true → RepT K w d v → RepT K w' d v
  | _, _, _, .nil => .nil
  | _, _, p, .cons h r => by
    simp only [D.pureT, Bool.and_eq_true] at p
    exact .cons (Rep.ofPure e f p.1 h) (RepT.ofPure e f p.2 r)
end
theorem Reps.length : ∀ {d : List D} {v : List V}, Reps K w d v → d.length = v.length
  | _, _, .nil => rfl
  | _, _, .cons _ r => by rw [List.length_cons, List.length_cons, Reps.length r]
theorem Reps.get : ∀ {ds : List D} {vs : List V} {i : Nat} {d : D}, Reps K w ds vs → ds[i]? = some d → ∃ v, vs[i]? = some v ∧ Rep K w d v
  | _, _, _, _, .nil, e => by simp at e
  | _, _, 0, _, .cons r _, e => by simp at e; subst e; exact ⟨_, rfl, r⟩
  | _, _, i + 1, d, .cons _ t, e => by
    obtain ⟨u, h1, h2⟩ := Reps.get (i := i) (d := d) t (by simpa using e)
    exact ⟨u, by simpa using h1, h2⟩
theorem Reps.getV : ∀ {ds : List D} {vs : List V} {i : Nat} {v : V}, Reps K w ds vs → vs[i]? = some v → ∃ d, ds[i]? = some d ∧ Rep K w d v
  | _, _, _, _, .nil, e => by simp at e
  | _, _, 0, _, .cons r _, e => by simp at e; subst e; exact ⟨_, rfl, r⟩
  | _, _, i + 1, d, .cons _ t, e => by
    obtain ⟨u, h1, h2⟩ := Reps.getV (i := i) (v := d) t (by simpa using e)
    exact ⟨u, by simpa using h1, h2⟩
theorem Reps.set {d : D} {v : V} (r : Rep K w d v) : ∀ {xs : List D} {us : List V} (i : Nat), Reps K w xs us → Reps K w (xs.set i d) (us.set i v)
  | _, _, _, .nil => .nil
  | _, _, 0, .cons _ t => .cons r t
  | _, _, i + 1, .cons q t => .cons q (Reps.set r i t)
theorem Reps.append : ∀ {xs ys : List D} {us ws : List V}, Reps K w xs us → Reps K w ys ws → Reps K w (xs ++ ys) (us ++ ws)
  | _, _, _, _, .nil, s => s
  | _, _, _, _, .cons r t, s => .cons r (Reps.append t s)
theorem Reps.take : ∀ {xs : List D} {us : List V} (n : Nat), Reps K w xs us → Reps K w (xs.take n) (us.take n)
  | _, _, 0, _ => .nil
  | _, _, _ + 1, .nil => .nil
  | _, _, n + 1, .cons r t => .cons r (Reps.take n t)
theorem Reps.drop : ∀ {xs : List D} {us : List V} (n : Nat), Reps K w xs us → Reps K w (xs.drop n) (us.drop n)
  | _, _, 0, r => r
  | _, _, _ + 1, .nil => .nil
  | _, _, n + 1, .cons _ t => Reps.drop n t
theorem Reps.eraseIdx : ∀ {xs : List D} {us : List V} (i : Nat), Reps K w xs us → Reps K w (xs.eraseIdx i) (us.eraseIdx i)
  | _, _, _, .nil => .nil
  | _, _, 0, .cons _ t => t
  | _, _, i + 1, .cons q t => .cons q (Reps.eraseIdx i t)
theorem Reps.dropLast {xs : List D} {us : List V} (h : Reps K w xs us) : Reps K w xs.dropLast us.dropLast := by
  rw [List.dropLast_eq_take, List.dropLast_eq_take, h.length]
  exact h.take _
theorem Reps.reverse : ∀ {xs : List D} {us : List V}, Reps K w xs us → Reps K w xs.reverse us.reverse
  | _, _, .nil => .nil
  | _, _, .cons r t => by
    rw [List.reverse_cons, List.reverse_cons]
    exact (Reps.reverse t).append (.cons r .nil)
theorem Reps.ints : ∀ {ns : List Int} {vs : List V}, Reps K w (ns.map D.int) vs → vs = ns.map V.int
  | [], _, h => by cases h; rfl
  | n :: ns, _, h => by
    cases h with
    | cons h r =>
      cases h
      rw [Reps.ints r]
      rfl
theorem Reps.bls : ∀ {ns : List Bool} {vs : List V}, Reps K w (ns.map D.bl) vs → vs = ns.map V.bl
  | [], _, h => by cases h; rfl
  | n :: ns, _, h => by
    cases h with
    | cons h r =>
      cases h
      rw [Reps.bls r]
      rfl
theorem Reps.strs : ∀ {ns : List Str} {vs : List V}, Reps K w (ns.map D.str) vs → vs = ns.map V.str
  | [], _, h => by cases h; rfl
  | n :: ns, _, h => by
    cases h with
    | cons h r =>
      cases h
      rw [Reps.strs r]
      rfl
end

/-! ### objects of the text's own classes -/
/-- the names of their fields -/
def iNames : List Str := ["by_stack", "where_by", "slept", "measures", "today", "trunks", "lumber", "named", "unfilled", "ordered", "sold", "heaps", "rows", "yards", "trunk", "prices", "thicks", "worths", "firsts", "mill"]
/-- what is known of such a class -/
structure InsC (K : PySem.W.Frag) (C : Addr) : Prop where
  cl : Cls K C
  no : ∀ f, f ∈ iNames → NoAttr K C f
/-! ### a cell, the store -/
def CellOk (K : PySem.W.Frag) (mg : Str → Option Value) (w : Wd) (H : Hp) (a : Addr) : Cell → HO → Prop
  | .lst ds, o => ∃ vs, o = .lst vs ∧ Reps K w ds vs
  | .dK ks, o => ∃ ws, o = .dK ws ∧ RepK K w ks ws
  | .dT ks, o => ∃ ws, o = .dT ws ∧ RepT K w ks ws
  | .ins c fs, o => ∃ C dx ws, o = .ins C dx ws ∧ w.fa c = some (.ref C) ∧ InsC K C ∧ RepF K w fs ws
  | .fK ks, o => ∃ ws od, o = .frz od (.dK ws) ∧ RepK K w ks ws
theorem CellOk.mono {K : PySem.W.Frag} {mg : Str → Option Value} {w w' : Wd} {H H' : Hp} {a : Addr} {c : Cell} {o : HO} (e : Wd.Le w w') (h : CellOk K mg w H a c o) : CellOk K mg w' H' a c o := by
  cases c with
  | lst ds => obtain ⟨vs, q, r⟩ := h; exact ⟨vs, q, r.mono e⟩
  | dK ds => obtain ⟨vs, q, r⟩ := h; exact ⟨vs, q, r.mono e⟩
  | dT ds => obtain ⟨vs, q, r⟩ := h; exact ⟨vs, q, r.mono e⟩
  | ins c fs => obtain ⟨C, dx, ws, q, hc, hi, r⟩ := h; exact ⟨C, dx, ws, q, by rw [e.f]; exact hc, hi, r.mono e⟩
  | fK ds => obtain ⟨vs, od, q, r⟩ := h; exact ⟨vs, od, q, r.mono e⟩

def Live (S : Store) (n : Nat) : Prop := ∃ c, S[n]? = some (some c)
structure Sim (K : PySem.W.Frag) (mg : Str → Option Value) (w : Wd) (S : Store) (H : Hp) : Prop where
  len : S.length = w.N
  le : Same w.G H
  cell : ∀ n c, S[n]? = some (some c) → ∃ o, H (w.m n) = some o ∧ CellOk K mg w H (w.m n) c o
  inj : ∀ i j, Live S i → Live S j → w.m i = w.m j → i = j
  apart : ∀ n, Live S n → w.G (w.m n) = none
  fa : w.fa = mg
/-- a dict that is walked -/
def Frz (S : Store) (n : Nat) : Prop := ∃ ks, S[n]? = some (some (.fK ks))
/-- from one state to a later one -/
structure Ext0 (K : PySem.W.Frag) (mg : Str → Option Value) (w : Wd) (S : Store) (H : Hp) (w' : Wd) (S' : Store) (H' : Hp) : Prop where
  sim : Sim K mg w' S' H'
  wle : Wd.Le w w'
  keep : ∀ a o, H a = some o → (∀ n, Live S n → w.m n ≠ a) → H' a = some o
  gfree : ∀ a, w'.G a ≠ none → w.G a ≠ none ∨ H a = none ∨ ∃ n, Live S n ∧ w.m n = a
  newc : ∀ n, Live S' n → Live S n ∨ (S.length ≤ n ∧ H (w'.m n) = none)
  trk : ∀ a, H a ≠ none → H' a ≠ none
/-- .. and what is walked is as it was -/
structure Ext (K : PySem.W.Frag) (mg : Str → Option Value) (w : Wd) (S : Store) (H : Hp) (w' : Wd) (S' : Store) (H' : Hp) : Prop where
  e : Ext0 K mg w S H w' S' H'
  fz : ∀ n, Frz S n → S'[n]? = S[n]? ∧ H' (w.m n) = H (w.m n)
section
variable {K : PySem.W.Frag} {mg : Str → Option Value} {w w' : Wd} {S S' : Store} {H H' : Hp}
theorem Ext.sim (x : Ext K mg w S H w' S' H') : Sim K mg w' S' H' := x.e.sim
theorem Ext.wle (x : Ext K mg w S H w' S' H') : Wd.Le w w' := x.e.wle
theorem Ext.keep (x : Ext K mg w S H w' S' H') : ∀ a o, H a = some o → (∀ n, Live S n → w.m n ≠ a) → H' a = some o := x.e.keep
theorem Ext.gfree (x : Ext K mg w S H w' S' H') : ∀ a, w'.G a ≠ none → w.G a ≠ none ∨ H a = none ∨ ∃ n, Live S n ∧ w.m n = a := x.e.gfree
theorem Ext.newc (x : Ext K mg w S H w' S' H') : ∀ n, Live S' n → Live S n ∨ (S.length ≤ n ∧ H (w'.m n) = none) := x.e.newc
theorem Ext.trk (x : Ext K mg w S H w' S' H') : ∀ a, H a ≠ none → H' a ≠ none := x.e.trk
theorem Frz.live {n : Nat} (h : Frz S n) : Live S n := let ⟨ks, e⟩ := h; ⟨_, e⟩
end

section
variable {K : PySem.W.Frag} {mg : Str → Option Value} {w w1 w2 : Wd} {S S1 S2 : Store} {H H1 H2 : Hp}
theorem Live.lt {n : Nat} (h : Live S n) : n < S.length := by
  obtain ⟨c, e⟩ := h
  exact (List.getElem?_eq_some_iff.mp e).1
theorem Ext.refl (s : Sim K mg w S H) : Ext K mg w S H w S H := ⟨⟨s, Wd.Le.refl _, fun _ _ h _ => h, fun _ h => .inl h, fun _ h => .inl h, fun _ h => h⟩, fun _ _ => ⟨rfl, rfl⟩⟩
theorem Ext0.trans (s : Sim K mg w S H) (x : Ext0 K mg w S H w1 S1 H1) (y : Ext0 K mg w1 S1 H1 w2 S2 H2) : Ext0 K mg w S H w2 S2 H2 := by
  have old : ∀ n, Live S n → w1.m n = w.m n := fun n h => x.wle.m n (by rw [← s.len]; exact h.lt)
  have nl : ∀ a o, H a = some o → (∀ n, Live S n → w.m n ≠ a) → ∀ n, Live S1 n → w1.m n ≠ a := fun a o e h n hn z => by
    rcases x.newc n hn with q | ⟨_, q⟩
    · exact h n q ((old n q).symm.trans z)
    · rw [z, e] at q; cases q
  refine ⟨y.sim, x.wle.trans y.wle, fun a o e h => y.keep a o (x.keep a o e h) (nl a o e h), fun a h => ?_, fun n h => ?_, fun a h => y.trk a (x.trk a h)⟩
  · rcases y.gfree a h with q | q | ⟨n, hn, q⟩
    · exact x.gfree a q
    · cases e : H a with
      | none => exact .inr (.inl rfl)
      | some o =>
        by_cases z : ∃ n, Live S n ∧ w.m n = a
        · exact .inr (.inr z)
        · have := x.keep a o e fun n hn ez => z ⟨n, hn, ez⟩
          rw [q] at this; cases this
    · rcases x.newc n hn with z | ⟨_, z⟩
      · exact .inr (.inr ⟨n, z, (old n z).symm.trans q⟩)
      · rw [q] at z; exact .inr (.inl z)
  · rcases y.newc n h with q | ⟨h1, q⟩
    · rcases x.newc n q with z | ⟨z1, z2⟩
      · exact .inl z
      · refine .inr ⟨z1, ?_⟩
        rw [y.wle.m n (by rw [← x.sim.len]; exact q.lt)]
        exact z2
    · refine .inr ⟨by have := x.wle.n; rw [← x.sim.len, ← s.len] at this; omega, ?_⟩
      cases e : H (w2.m n) with
      | none => rfl
      | some o => exact absurd q (x.trk _ (by rw [e]; simp))
theorem Ext.trans (s : Sim K mg w S H) (x : Ext K mg w S H w1 S1 H1) (y : Ext K mg w1 S1 H1 w2 S2 H2) : Ext K mg w S H w2 S2 H2 := by
  refine ⟨x.e.trans s y.e, fun n h => ?_⟩
  obtain ⟨a1, a2⟩ := x.fz n h
  have h1 : Frz S1 n := let ⟨ks, e⟩ := h; ⟨ks, a1.trans e⟩
  obtain ⟨b1, b2⟩ := y.fz n h1
  rw [x.wle.m n (by rw [← s.len]; exact h.live.lt)] at b2
  exact ⟨b1.trans a1, b2.trans a2⟩
end
end DL

/-! DLb: the small language and what it means. -/
namespace DL
open PySem PySem.Spec PyProof.Rows L2

/-! ### results -/
structure Exn where
  cls : Str
  ups : List Str
  fs : List (Str × D)
inductive Res (α : Type) where
  | ok (a : α) (S : Store) | exc (e : Exn) (S : Store) | bad
def Res.bind {α β : Type} (r : Res α) (f : α → Store → Res β) : Res β := match r with
  | .ok a S => f a S
  | .exc e S => .exc e S
  | .bad => .bad
theorem Res.ok_bind {α β : Type} (a : α) (S : Store) (f : α → Store → Res β) : (Res.ok a S).bind f = f a S := rfl
theorem Res.exc_bind {α β : Type} (e : Exn) (S : Store) (f : α → Store → Res β) : (Res.exc e S : Res α).bind f = .exc e S := rfl
abbrev EnvD := List (Option D)
abbrev EF := EnvD → Store → Res D
inductive SR where
  | nx (ρ : EnvD) (S : Store) | rt (d : D) (S : Store) | bk (ρ : EnvD) (S : Store) | ct (ρ : EnvD) (S : Store) | exc (e : Exn) (ρ : EnvD) (S : Store) | bad
abbrev SF := EnvD → Store → SR
abbrev Fn := List D → Store → Res D

/-! ### values -/
def lineOk (n : Nat) : Bool := decide (n ≤ 16777216)
/-- a new list: a cell (c), or for good -/
def mkL (c : Bool) (xs : List D) (S : Store) : Res D :=
  if lineOk xs.length then (if c then .ok (.loc S.length) (S ++ [some (.lst xs)]) else .ok (.lst xs) S) else .bad
def D.list? (S : Store) : D → Option (List D)
  | .lst xs => some xs
  | .scr ns => some (ns.map D.int)
  | .loc n => match S[n]? with
    | some (some (.lst xs)) => some xs
    | _ => none
  | _ => none
/-- .. not the script -/
def D.listH? (S : Store) : D → Option (List D)
  | .scr _ => none
  | d => d.list? S
mutual
def D.toP : D → Option PyData
  | .non => some .none
  | .bl b => some (.bool b)
  | .int i => some (.int i)
  | .str x => some (.str x)
  | .tup xs => match D.toPs xs with
    | some ys => some (.tuple ys)
    | none => none
  | .lst xs => match D.toPs xs with
    | some ys => some (.list ys)
    | none => none
  | .dK _ => none
  | .dT _ => none
  | .loc _ => none
  | .scr _ => none
  | .ctp _ => none
  | .fn _ => none
  | .exn _ _ _ => none
def D.toPs : List D → Option (List PyData)
  | [] => some []
  | x :: r => match D.toP x, D.toPs r with
    | some y, some s => some (y :: s)
    | _, _ => none
end
/-- .. a cell read -/
def D.toPS (S : Store) : D → Option PyData
  | .loc n => match S[n]? with
    | some (some (.lst xs)) => match D.toPs xs with
      | some ys => some (.list ys)
      | none => none
    | _ => none
  | d => d.toP
/-- a dict's entries -/
def dictC (S : Store) : D → Option (List (Key × D))
  | .dK ks => some ks
  | .loc n => match S[n]? with
    | some (some (.dK ks)) => some ks
    | some (some (.fK ks)) => some ks
    | _ => none
  | _ => none
def keyD : D → Option Key
  | .int i => some (.inl i)
  | .str x => some (.inr x)
  | _ => none
def dKey : Key → D
  | .inl i => .int i
  | .inr x => .str x
def valD (kvs : List (Key × D)) (k : Key) : Option D := (kvs.find? fun kv => decide (kv.1 = k)).map (·.2)
def putD (kvs : List (Key × D)) (k : Key) (v : D) : List (Key × D) :=
  if (kvs.any fun kv => decide (kv.1 = k)) = true then kvs.map (fun kv => if kv.1 = k then (kv.1, v) else kv) else kvs ++ [(k, v)]
def dropD (kvs : List (Key × D)) (k : Key) : List (Key × D) := kvs.filter fun kv => decide (kv.1 ≠ k)
def dgetEv (x y : D) (S : Store) : Res D := match dictC S x, keyD y with
  | some ks, some k => match valD ks k with
    | some d => .ok d S
    | none => .bad
  | _, _ => .bad
def dinEv (neg : Bool) (y x : D) (S : Store) : Res D := match dictC S x, keyD y with
  | some ks, some k => .ok (.bl (if neg then !(valD ks k).isSome else (valD ks k).isSome)) S
  | _, _ => .bad
def dputEv (x y v : D) (S : Store) : Res Unit := match x, keyD y with
  | .loc n, some k => match S[n]? with
    | some (some (.dK ks)) => if lineOk (ks.length + 1) then .ok () (S.set n (some (.dK (putD ks k v)))) else .bad
    | _ => .bad
  | _, _ => .bad
/-- a field of an object -/
def fldEv (x : D) (f : Str) (S : Store) : Res D := match x with
  | .loc n => match S[n]? with
    | some (some (.ins _ fs)) => if f ∈ iNames then (match fs.lookup f with
      | some d => .ok d S
      | none => .bad) else .bad
    | _ => .bad
  | _ => .bad
def putFD (f : Str) (d : D) : List (Str × D) → List (Str × D)
  | [] => [(f, d)]
  | (g, x) :: r => if g = f then (g, d) :: r else (g, x) :: putFD f d r
def fputEv (x : D) (f : Str) (v : D) (S : Store) : Res Unit := match x with
  | .loc n => match S[n]? with
    | some (some (.ins c fs)) => if f ∈ iNames ∧ fs.length < 100 then .ok () (S.set n (some (.ins c (putFD f v fs)))) else .bad
    | _ => .bad
  | _ => .bad
/-- d.get(k), d.pop(k) -/
inductive DM1 where
  | get | pop
def DM1.ev (m : DM1) (x y : D) (S : Store) : Res D := match m with
  | .get => match dictC S x, keyD y with
    | some ks, some k => .ok ((valD ks k).getD .non) S
    | _, _ => .bad
  | .pop => match x, keyD y with
    | .loc n, some k => match S[n]? with
      | some (some (.dK ks)) => match valD ks k with
        | some d => .ok d (S.set n (some (.dK (dropD ks k))))
        | none => .bad
      | _ => .bad
    | _, _ => .bad
/-- d.get(k, x), d.pop(k, x), d.setdefault(k, x) -/
inductive DM2 where
  | get | pop | setd
def DM2.ev (m : DM2) (x y z : D) (S : Store) : Res D := match m with
  | .get => match dictC S x, keyD y with
    | some ks, some k => .ok ((valD ks k).getD z) S
    | _, _ => .bad
  | .pop => match x, keyD y with
    | .loc n, some k => match S[n]? with
      | some (some (.dK ks)) => match valD ks k with
        | some d => .ok d (S.set n (some (.dK (dropD ks k))))
        | none => .ok z S
      | _ => .bad
    | _, _ => .bad
  | .setd => match x, keyD y with
    | .loc n, some k => match S[n]? with
      | some (some (.dK ks)) => match valD ks k with
        | some d => if lineOk (ks.length + 1) then .ok d S else .bad
        | none => if lineOk (ks.length + 1) then .ok z (S.set n (some (.dK (putD ks k z)))) else .bad
      | _ => .bad
    | _, _ => .bad
/-- a text k times -/
def strRep (x : Str) (k : Nat) : Str := ⟨(List.replicate k x.cps).foldl (· ++ ·) #[]⟩
/-- the items of a list or a tuple, as plain data -/
def seqP (S : Store) : D → Option (List PyData)
  | .tup xs => D.toPs xs
  | .ctp xs => D.toPs xs
  | d => match d.toPS S with
    | some (.list ps) => some ps
    | _ => none
def memEv (x y : D) (S : Store) : Option Bool := match y with
  | .str z => match x with
    | .str c => match c.cps.toList with
      | [k] => some (decide (k ∈ z.cps.toList))
      | _ => none
    | _ => none
  | y => match seqP S y, x.toPS S with
    | some ps, some p => if SeqAt.shaped p && SeqAt.shaped (.list ps) then some (ps.any fun z => PyData.eqv z p) else none
    | _, _ => none
inductive BOp where
  | add | sub | mul | fdiv | mod | pow | shl
def BOp.ev (o : BOp) (c : Bool) (x y : D) (S : Store) : Res D := match o, x, y with
  | .add, .int i, .int j => .ok (.int (i + j)) S
  | .sub, .int i, .int j => .ok (.int (i - j)) S
  | .mul, .int i, .int j => if (-18446744073709551616 < i ∧ i < 18446744073709551616) ∨ (-18446744073709551616 < j ∧ j < 18446744073709551616) then .ok (.int (i * j)) S else .bad
  | .fdiv, .int i, .int j => if 0 < j ∧ j < 18446744073709551616 then .ok (.int (i / j)) S else .bad
  | .mod, .int i, .int j => if 0 < j then .ok (.int (i % j)) S else .bad
  | .pow, .int i, .int j => if 0 ≤ j ∧ j ≤ 1000000 ∧ i.natAbs < 18446744073709551616 then .ok (.int (i ^ j.toNat)) S else .bad
  | .shl, .int i, .int j => if 0 ≤ j ∧ j ≤ 1000000 ∧ i.natAbs < 18446744073709551616 then .ok (.int (i * 2 ^ j.toNat)) S else .bad
  | .add, .str i, .str j => if lineOk (i.length + j.length) then .ok (.str (i ++ j)) S else .bad
  | .add, .tup xs, .tup ys => if lineOk (xs.length + ys.length) then .ok (.tup (xs ++ ys)) S else .bad
  | .add, .ctp xs, .ctp ys => if lineOk (xs.length + ys.length) then .ok (.ctp (xs ++ ys)) S else .bad
  | .add, .ctp xs, .tup ys => if lineOk (xs.length + ys.length) && !ys.isEmpty then .ok (.tup (xs ++ ys)) S else .bad
  | .add, x, y => match x.listH? S, y.listH? S with
    | some xs, some ys => mkL c (xs ++ ys) S
    | _, _ => .bad
  | .mul, .str a, .int k => if 0 ≤ k ∧ k < 16777216 ∧ a.length * k.toNat ≤ 16777216 then .ok (.str (strRep a k.toNat)) S else .bad
  | .mul, x, .int k => match x.listH? S with
    | some xs => if -9223372036854775808 ≤ k ∧ k < 9223372036854775808 then mkL c (List.replicate k.toNat xs).flatten S else .bad
    | _ => .bad
  | _, _, _ => .bad
inductive COp where
  | eq | ne | lt | le | gt | ge | isN | notN | inn | nin | isB | notB
def COp.ev (o : COp) (x y : D) (S : Store) : Res D := match o with
  | .eq => match x, y with
    | .str a, .str b => .ok (.bl (decide (a = b))) S
    | x, y => match x.toPS S, y.toPS S with
      | some p, some q => if SeqAt.shaped p && SeqAt.shaped q then .ok (.bl (PyData.eqv p q)) S else .bad
      | _, _ => .bad
  | .ne => match x, y with
    | .str a, .str b => .ok (.bl (!decide (a = b))) S
    | x, y => match x.toPS S, y.toPS S with
      | some p, some q => if SeqAt.shaped p && SeqAt.shaped q then .ok (.bl (!PyData.eqv p q)) S else .bad
      | _, _ => .bad
  | .lt => match x, y with
    | .int i, .int j => .ok (.bl (decide (i < j))) S
    | .str a, .str b => .ok (.bl (decide (a.cps.toList < b.cps.toList))) S
    | _, _ => .bad
  | .le => match x, y with
    | .int i, .int j => .ok (.bl (decide (i ≤ j))) S
    | _, _ => .bad
  | .gt => match x, y with
    | .int i, .int j => .ok (.bl (decide (j < i))) S
    | _, _ => .bad
  | .ge => match x, y with
    | .int i, .int j => .ok (.bl (decide (j ≤ i))) S
    | _, _ => .bad
  | .isN => match x with
    | .non => .ok (.bl true) S
    | _ => .ok (.bl false) S
  | .notN => match x with
    | .non => .ok (.bl false) S
    | _ => .ok (.bl true) S
  | .inn => match memEv x y S with
    | some b => .ok (.bl b) S
    | none => .bad
  | .nin => match memEv x y S with
    | some b => .ok (.bl (!b)) S
    | none => .bad
  | .isB => match x, y with
    | .bl a, .bl b => .ok (.bl (decide (a = b))) S
    | _, _ => .bad
  | .notB => match x, y with
    | .bl a, .bl b => .ok (.bl (!decide (a = b))) S
    | _, _ => .bad
/-! dicts alike -/
def dPairs (S : Store) : List (Key × D) → Option (List (Key × PyData))
  | [] => some []
  | (k, d) :: r => match d.toPS S, dPairs S r with
    | some p, some s => some ((k, p) :: s)
    | _, _ => none
def valP (kvs : List (Key × PyData)) (k : Key) : Option PyData := (kvs.find? fun kv => decide (kv.1 = k)).map (·.2)
def hitsB (qs : List (Key × PyData)) : List (Key × PyData) → Bool
  | [] => true
  | (k, p) :: r => match valP qs k with
    | none => false
    | some q => PyData.eqv p q && hitsB qs r
def eqK (ps qs : List (Key × PyData)) : Bool := ps.length == qs.length && hitsB qs ps
def deqEv (neg : Bool) (x y : D) (S : Store) : Res D := match dictC S x, dictC S y with
  | some ks, some ls => match dPairs S ks, dPairs S ls with
    | some ps, some qs => if (ps.all fun p => SeqAt.shaped p.2) && (qs.all fun p => SeqAt.shaped p.2) then .ok (.bl (if neg then !eqK ps qs else eqK ps qs)) S else .bad
    | _, _ => .bad
  | _, _ => .bad
/-- an item by its place -/
def ixEv (x i : D) (S : Store) : Res D := match i with
  | .int k => match x with
    | .tup xs => match atI xs k with
      | some d => .ok d S
      | none => .bad
    | .ctp xs => match atI xs k with
      | some d => .ok d S
      | none => .bad
    | .str z => if lineOk z.length then (match atI z.cps.toList k with
      | some c => .ok (.str ⟨#[c]⟩) S
      | none => .bad) else .bad
    | x => match x.list? S with
      | some xs => match atI xs k with
        | some d => .ok d S
        | none => .bad
      | none => .bad
  | _ => .bad
def cutD (xs : List D) (lo hi : Option Int) : List D := (xs.drop (HT.sIx xs.length 0 lo)).take (HT.sIx xs.length xs.length hi - HT.sIx xs.length 0 lo)
def slcEv (c : Bool) (x : D) (lo hi : Option Int) (S : Store) : Res D := match x with
  | .tup xs => .ok (.tup (cutD xs lo hi)) S
  | .ctp xs => .ok (.ctp (cutD xs lo hi)) S
  | .str z => if lineOk z.length then .ok (.str (cutS z lo hi)) S else .bad
  | x => match x.list? S with
    | some xs => mkL c (cutD xs lo hi) S
    | none => .bad

/-- x[::-1] -/
def revEv (c : Bool) (x : D) (S : Store) : Res D := match x with
  | .tup xs => .ok (.tup xs.reverse) S
  | x => match x.list? S with
    | some xs => mkL c xs.reverse S
    | none => .bad

/-! sorted, of plain data -/
def encD (d : D) : PyData := (d.toP).getD .none
structure SortOk (ys : List D) : Prop where
  enc : ∀ y ∈ ys, y.toP = some (encD y)
  alike : PySem.W.AllAlike (ys.map encD)
  sortable : PySem.W.Sortable (ys.map encD)
  depth : ∀ y ∈ ys, (encD y).depth ≤ 60
  len : ys.length ≤ 16777216
def sortDs (ys : List D) : List D := ys.mergeSort (PySem.W.dataLe false encD)
def tupB : PyData → Bool
  | .tuple (_ :: _) => true
  | _ => false
def othB : PyData → Bool
  | .none => false
  | .tuple _ => false
  | _ => true
def sortOkB (ys : List D) : Bool := ys.all (fun y => y.toP.isSome) && (ys.all (fun y => ys.all fun y' => PySem.W.alike (encD y) (encD y')) && ((ys.all (fun y => tupB (encD y)) || ys.all (fun y => othB (encD y))) && (ys.all (fun y => decide ((encD y).depth ≤ 60)) && decide (ys.length ≤ 16777216))))
theorem tupB_iff {d : PyData} : tupB d = true ↔ ∃ x r, d = .tuple (x :: r) := by
  unfold tupB
  split
  · exact ⟨fun _ => ⟨_, _, rfl⟩, fun _ => rfl⟩
  · rename_i h
    exact ⟨fun q => (by cases q), fun ⟨x, r, e⟩ => absurd e (h x r)⟩
theorem othB_iff {d : PyData} : othB d = true ↔ (d ≠ .none ∧ ∀ xs, d ≠ .tuple xs) := by
  cases d <;> simp [othB]
theorem sortOk_iff {ys : List D} : sortOkB ys = true ↔ SortOk ys := by
  have hm : ∀ {P : PyData → Prop}, (∀ d ∈ ys.map encD, P d) ↔ ∀ y ∈ ys, P (encD y) := fun {P} => ⟨fun h y q => h _ (List.mem_map.2 ⟨y, q, rfl⟩), fun h d q => by
    obtain ⟨y, hy, rfl⟩ := List.mem_map.1 q
    exact h y hy⟩
  unfold sortOkB
  simp only [Bool.and_eq_true, Bool.or_eq_true, List.all_eq_true, decide_eq_true_eq, tupB_iff, othB_iff]
  constructor
  · rintro ⟨h1, h2, h3, h4, h5⟩
    refine ⟨fun y q => ?_, ?_, ?_, h4, h5⟩
    · have := h1 y q
      unfold encD
      cases e : y.toP with
      | none => rw [e] at this; cases this
      | some p => rfl
    · intro d hd d' hd'
      obtain ⟨y, hy, rfl⟩ := List.mem_map.1 hd
      obtain ⟨y', hy', rfl⟩ := List.mem_map.1 hd'
      exact h2 y hy y' hy'
    · rcases h3 with h3 | h3
      · exact .inl (hm.2 h3)
      · exact .inr (hm.2 h3)
  · intro h
    refine ⟨fun y q => by rw [h.enc y q]; rfl, fun y q y' q' => h.alike _ (List.mem_map.2 ⟨y, q, rfl⟩) _ (List.mem_map.2 ⟨y', q', rfl⟩), ?_, h.depth, h.len⟩
    rcases h.sortable with h3 | h3
    · exact .inl (hm.1 h3)
    · exact .inr (hm.1 h3)
def sortDEv (c : Bool) (x : D) (S : Store) : Res D := match x.list? S with
  | some ys => if sortOkB ys then mkL c (sortDs ys) S else .bad
  | none => .bad
/-! keys: of lists, of sets -/
def asKeys : List D → Option (List Key)
  | [] => some []
  | d :: r => match keyD d, asKeys r with
    | some k, some s => some (k :: s)
    | _, _ => none
def addK (ks : List Key) (k : Key) : List Key := if (ks.any fun x => decide (x = k)) = true then ks else ks ++ [k]
def dedupK (ks : List Key) : List Key := ks.foldl addK []
def leK : Key → Key → Bool
  | .inl i, .inl j => decide (i ≤ j)
  | .inr x, .inr y => decide (x.cps.toList ≤ y.cps.toList)
  | .inl _, .inr _ => true
  | .inr _, .inl _ => false
def sortK (ks : List Key) : List Key := ks.mergeSort leK
def isInl : Key → Bool
  | .inl _ => true
  | .inr _ => false
/-- all ints, or all texts -/
def alikeK (ks : List Key) : Bool := ks.all isInl || ks.all fun k => !isInl k
/-- the pairs of a list, as a dict's entries -/
def pairsK : List D → Option (List (Key × D))
  | [] => some []
  | .tup [k, v] :: r => match keyD k, pairsK r with
    | some k', some s => some ((k', v) :: s)
    | _, _ => none
  | _ :: _ => none
def mergeD (kvs more : List (Key × D)) : List (Key × D) := more.foldl (fun acc kv => putD acc kv.1 kv.2) kvs
/-- x[::k] of a list, k 1 or -1 -/
def stpEv (c : Bool) (x y : D) (S : Store) : Res D := match x.list? S, y with
  | some xs, .int k => if k = 1 then mkL c xs S else if k = -1 then mkL c xs.reverse S else .bad
  | _, _ => .bad
/-- key, value, key, value .. -/
def unpairD : List D → Option (List (Key × D))
  | [] => some []
  | [_] => none
  | k :: v :: r => match keyD k, unpairD r with
    | some k', some s => some ((k', v) :: s)
    | _, _ => none
/-- built-in functions -/
inductive BI where
  | dictD | dictP | listD | sortK | repr | tupn | sortD | sortI | dlen | len | abs | max3 | max2 | min2 | maxL | minL | sumL | anyL | allL | tuple | list | int
def asInts : List D → Option (List Int)
  | [] => some []
  | .int i :: r => match asInts r with
    | some s => some (i :: s)
    | none => none
  | _ :: _ => none
def asBls : List D → Option (List Bool)
  | [] => some []
  | .bl i :: r => match asBls r with
    | some s => some (i :: s)
    | none => none
  | _ :: _ => none
def maxI : List Int → Int
  | [] => 0
  | [a] => a
  | a :: r => max a (maxI r)
def minI : List Int → Int
  | [] => 0
  | [a] => a
  | a :: r => min a (minI r)
/-- a list sorted -/
def insI (x : Int) : List Int → List Int
  | [] => [x]
  | y :: r => if x ≤ y then x :: y :: r else y :: insI x r
def sortInts : List Int → List Int
  | [] => []
  | x :: r => insI x (sortInts r)
/-- data that repr shows: lists and tuples of plain data, numbers -/
def shownOk : PyData → Bool
  | .int i => (PyData.int i).showable
  | .list xs => SeqAt.shaped (.list xs) && (PyData.list xs).showable && lineOk (PyData.list xs).shown.length
  | .tuple xs => SeqAt.shaped (.tuple xs) && (PyData.tuple xs).showable && lineOk (PyData.tuple xs).shown.length
  | _ => false
def BI.ev (f : BI) (c : Bool) (xs : List D) (S : Store) : Res D := match f, xs with
  | .repr, [x] => match x.toPS S with
    | some p => if shownOk p then .ok (.str p.shown) S else .bad
    | none => .bad
  | .dictD, [x] => match dictC S x with
    | some ks => .ok (.loc S.length) (S ++ [some (.dK ks)])
    | none => .bad
  | .dictP, [x] => match x.list? S with
    | some ys => match pairsK ys with
      | some ks => .ok (.loc S.length) (S ++ [some (.dK (mergeD [] ks))])
      | none => .bad
    | none => .bad
  | .listD, [x] => match dictC S x with
    | some ks => mkL c (ks.map fun kv => dKey kv.1) S
    | none => .bad
  | .sortK, [x] => match dictC S x with
    | some ks => if (ks.all fun kv => !isInl kv.1) && decide (ks.length < 64) then mkL c ((DL.sortK (ks.map (·.1))).map dKey) S else .bad
    | none => .bad
  | .dlen, [x] => match dictC S x with
    | some ks => .ok (.int ks.length) S
    | none => .bad
  | .len, [.tup ys] => .ok (.int ys.length) S
  | .len, [.ctp ys] => .ok (.int ys.length) S
  | .len, [.str z] => if lineOk z.length then .ok (.int z.length) S else .bad
  | .len, [.dK ys] => .ok (.int ys.length) S
  | .len, [x] => match x.list? S with
    | some ys => .ok (.int ys.length) S
    | none => .bad
  | .abs, [.int i] => .ok (.int (if i < 0 then -i else i)) S
  | .max3, [.int i, .int j, .int k] => .ok (.int (if j > i then (if k > j then k else j) else (if k > i then k else i))) S
  | .max2, [.int i, .int j] => .ok (.int (if j > i then j else i)) S
  | .min2, [.int i, .int j] => .ok (.int (if j < i then j else i)) S
  | .maxL, [x] => match x.list? S with
    | some ys => match asInts ys with
      | some ns => if 0 < ns.length then .ok (.int (maxI ns)) S else .bad
      | none => .bad
    | none => .bad
  | .minL, [x] => match x.list? S with
    | some ys => match asInts ys with
      | some ns => if 0 < ns.length then .ok (.int (minI ns)) S else .bad
      | none => .bad
    | none => .bad
  | .sumL, [x] => match x.list? S with
    | some ys => match asInts ys with
      | some ns => .ok (.int ns.sum) S
      | none => .bad
    | none => .bad
  | .anyL, [x] => match x.list? S with
    | some ys => match asBls ys with
      | some ns => .ok (.bl (ns.any id)) S
      | none => .bad
    | none => .bad
  | .allL, [x] => match x.list? S with
    | some ys => match asBls ys with
      | some ns => .ok (.bl (ns.all id)) S
      | none => .bad
    | none => .bad
  | .tupn, [x] => match x.list? S with
    | some ys => .ok (.ctp ys) S
    | none => .bad
  | .sortD, [x] => sortDEv c x S
  | .sortI, [x] => match x.list? S with
    | some ys => match asInts ys with
      | some ns => mkL c ((sortInts ns).map D.int) S
      | none => .bad
    | none => .bad
  | .tuple, [.tup ys] => .ok (.tup ys) S
  | .tuple, [x] => match x.list? S with
    | some ys => .ok (.tup ys) S
    | none => .bad
  | .list, [.tup ys] => mkL c ys S
  | .list, [x] => match x.list? S with
    | some ys => mkL c ys S
    | none => .bad
  | .int, [.int i] => .ok (.int i) S
  | .int, [.bl b] => .ok (.int (if b then 1 else 0)) S
  | _, _ => .bad
/-- built-in methods of lists -/
inductive MI where
  | split | count | tcount | append | extend | pop | popAt | insert | reverse | index | tindex | join
def setCell (n : Nat) (c : Cell) (S : Store) : Store := S.set n (some c)
def asStrs : List D → Option (List Str)
  | [] => some []
  | .str i :: r => match asStrs r with
    | some s => some (i :: s)
    | none => none
  | _ :: _ => none
def seqD (S : Store) : D → Option (List D)
  | .tup xs => some xs
  | .ctp xs => some xs
  | d => d.list? S
def MI.ev (m : MI) (x : D) (xs : List D) (S : Store) : Res D := match m, x, xs with
  | .append, .loc n, [y] => match S[n]? with
    | some (some (.lst ys)) => if lineOk (ys.length + 1) then .ok .non (setCell n (.lst (ys ++ [y])) S) else .bad
    | _ => .bad
  | .extend, .loc n, [y] => match S[n]?, y.listH? S with
    | some (some (.lst ys)), some zs => if lineOk (ys.length + zs.length) then .ok .non (setCell n (.lst (ys ++ zs)) S) else .bad
    | _, _ => .bad
  | .pop, .loc n, [] => match S[n]? with
    | some (some (.lst ys)) => match ys[ys.length - 1]? with
      | some d => .ok d (setCell n (.lst ys.dropLast) S)
      | none => .bad
    | _ => .bad
  | .insert, .loc n, [.int k, y] => match S[n]? with
    | some (some (.lst ys)) => if lineOk (ys.length + 1) && decide (0 ≤ k ∧ k < 9223372036854775808) then .ok .non (setCell n (.lst (ys.take k.toNat ++ [y] ++ ys.drop k.toNat)) S) else .bad
    | _ => .bad
  | .popAt, .loc n, [.int k] => match S[n]? with
    | some (some (.lst ys)) => match ixN ys.length k with
      | some j => if lineOk ys.length then (match ys[j]? with
        | some d => .ok d (setCell n (.lst (ys.eraseIdx j)) S)
        | none => .bad) else .bad
      | none => .bad
    | _ => .bad
  | .split, .str a, [.str b] => if !(b.length == 0) && decide (a.length + 2 ≤ 16777216) then mkL false ((Txt.split a b).map D.str) S else .bad
  | .index, x, [y] => match x.toPS S, y.toPS S with
    | some (.list ds), some d => if SeqAt.shaped (.list ds) && SeqAt.shaped d then (match ds.findIdx? fun z => PyData.eqv z d with
      | some j => .ok (.int (j : Nat)) S
      | none => .bad) else .bad
    | _, _ => .bad
  | .count, x, [y] => match x.toPS S, y.toPS S with
    | some (.list ds), some d => if SeqAt.shaped (.list ds) && SeqAt.shaped d then .ok (.int (ds.countP fun z => PyData.eqv z d : Nat)) S else .bad
    | _, _ => .bad
  | .tcount, .ctp xs, [y] => match D.toPs xs, y.toPS S with
    | some ds, some d => if SeqAt.shaped (.list ds) && SeqAt.shaped d then .ok (.int (ds.countP fun z => PyData.eqv z d : Nat)) S else .bad
    | _, _ => .bad
  | .tindex, .ctp xs, [.str z] => match asStrs xs with
    | some ys => match ys.findIdx? fun y => y == z with
      | some j => .ok (.int (j : Nat)) S
      | none => .bad
    | none => .bad
  | .join, .str a, [y] => match seqD S y with
    | some xs => match asStrs xs with
      | some ys => if (ys.map (·.length)).sum + ys.length * a.length ≤ 16777216 then .ok (.str (Txt.join a ys)) S else .bad
      | none => .bad
    | none => .bad
  | _, _, _ => .bad
/-- the receiver is of the method's kind -/
def MI.recv (m : MI) (x : D) (S : Store) : Bool := match m with
  | .join => match x with
    | .str _ => true
    | _ => false
  | .split => match x with
    | .str _ => true
    | _ => false
  | .tindex => match x with
    | .ctp _ => true
    | _ => false
  | .tcount => match x with
    | .ctp _ => true
    | _ => false
  | _ => (x.list? S).isSome
def setIxEv (o i v : D) (S : Store) : Res Unit := match o, i with
  | .loc n, .int k => match S[n]? with
    | some (some (.lst ys)) => match ixN ys.length k with
      | some j => .ok () (setCell n (.lst (ys.set j v)) S)
      | none => .bad
    | _ => .bad
  | _, _ => .bad
/-- isinstance of a built-in type -/
inductive Ty where
  | int | bool | str | tuple | list | dict
  deriving DecidableEq
def tyEv (S : Store) (t : Ty) : D → Option Bool
  | .non => some false
  | .bl _ => some (decide (t = .bool ∨ t = .int))
  | .int _ => some (decide (t = .int))
  | .str _ => some (decide (t = .str))
  | .tup _ => some (decide (t = .tuple))
  | .lst _ => some (decide (t = .list))
  | .dK _ => some (decide (t = .dict))
  | .dT _ => none
  | .loc n => match S[n]? with
    | some (some (.lst _)) => some (decide (t = .list))
    | some (some (.dK _)) => some (decide (t = .dict))
    | _ => none
  | .scr _ => some (decide (t = .list))
  | .ctp _ => none
  | .fn _ => none
  | .exn _ _ _ => none
def tyEvs (S : Store) : List Ty → D → Option Bool
  | [], _ => some false
  | t :: ts, x => match tyEv S t x with
    | some true => some true
    | some false => tyEvs S ts x
    | none => none

/-! ### the small language -/
inductive Tg where
  | nm (i : Nat) | tup (ts : List Tg)
/-- how a class of exceptions makes its fields: none, of the arguments, of one list -/
inductive Ini where
  | no | args (fs : List Str) | lst (f : Str)
  deriving DecidableEq
def Ini.ev (k : Ini) (ds : List D) (S : Store) : Option (List (Str × D)) := match k with
  | .no => if ds.length = 1 then some [] else none
  | .args fs => if fs.length = ds.length ∧ fs.length ≤ 10 then some (fs.zip ds).reverse else none
  | .lst f => match ds with
    | [x] => match x.list? S with
      | some ys => some [(f, .lst ys)]
      | none => none
    | _ => none
mutual
inductive Ex where
  | var (i : Nat) | frz (i : Nat) | int (n : Int) | str (x : Str) | bl (b : Bool) | non | glob (j : Nat)
  | tup (es : List Ex) | lst (c : Bool) (es : List Ex)
  | bin (o : BOp) (c : Bool) (a b : Ex) | neg (a : Ex) | not (a : Ex)
  | boo (isAnd : Bool) (es : List Ex)
  | cmp (o : COp) (a b : Ex) | chain (o o' : COp) (a b c : Ex)
  | ife (t a b : Ex)
  | ix (a b : Ex) | slc (c : Bool) (a : Ex) (lo hi : Option Ex) | rev (c : Bool) (a : Ex)
  | call (j : Nat) (es : List Ex)
  | lenSet (a : Ex) | sortSet (c : Bool) (a : Ex)
  | mkX (c : Str) (ups : List Str) (k : Ini) (es : List Ex)
  | isX (cs : List Str) (a : Ex) | isVE (a : Ex) | attr (a : Ex) (f : Str)
  /-- a display of a dict: key, value, key, value .. -/
  | ddispE (es : List Ex)
  /-- a[::s] of a list, s 1 or -1 -/
  | stp (c : Bool) (a s : Ex)
  | ddisp (ks : List Key) (es : List Ex) | lrng (c : Bool) (lo hi : Ex)
  | tupN (es : List Ex) | weak (a : Ex)
  /-- a field, a method of an object of the class c, such an object made -/
  | deq (neg : Bool) (a b : Ex)
  | fld (a : Ex) (f : Str) | mcall (c m : Str) (j : Nat) (o : Ex) (es : List Ex) | make (c : Str) (j : Nat) (es : List Ex)
  | fnv (x : Str) | callv (f : Ex) (js : List (Str × Nat)) (es : List Ex)
  | bi (f : BI) (c : Bool) (es : List Ex)
  | dnew | dget (a b : Ex) | din (neg : Bool) (a b : Ex) | dm1 (m : DM1) (o a : Ex) | dm2 (m : DM2) (o a b : Ex) | lock (d a : Ex)
  | isi (t : Ty) (a : Ex) | isiT (ts : List Ty) (a : Ex)
  | meth (m : MI) (o : Ex) (es : List Ex)
  | lc (c : Bool) (tg : Tg) (src : Src) (ifs : List Ex) (elt : Ex) (own : List Nat)
inductive Src where
  | ex (e : Ex) | keys (e : Ex) | vals (e : Ex) | rng1 (a : Ex) | rng2 (a b : Ex) | rng3 (a b c : Ex) | enum (a : Ex) | zip (a b : Ex)
end
inductive Sm where
  | raiseX (c : Str) (ups : List Str) (k : Ini) (es : List Ex)
  /-- try: body / except c as i: j = i -/
  | tryNote (body : List Sm) (c : Str) (i j : Nat)
  /-- try: body / except c: suite -/
  | tryOnly (body : List Sm) (c : Str) (suite : List Sm)
  /-- try: body / except c: suite / else: els -/
  | tryElse (body : List Sm) (c : Str) (suite els : List Sm)
  | tryTwo (body : List Sm) (c1 z1 c2 : Str) (i j : Nat) (z f : Str)
  | asg (tg : Tg) (e : Ex)
  | setIx (o i e : Ex)
  | setIx2 (o i o2 i2 e : Ex)
  | dput (o i e : Ex) | lock (d : Ex) (s : Sm)
  | fput (o : Ex) (f : Str) (e : Ex)
  | expr (e : Ex)
  | ret (e : Option Ex)
  | ife (c : Ex) (a b : List Sm)
  | for (tg : Tg) (src : Src) (body : List Sm)
  | while (c : Ex) (body : List Sm)
  | pass | brk | cont | raise

/-! ### its meaning -/
structure Gm where
  tab : List Fn
  glob : List D
  /-- methods -/
  mt : List Fn
mutual
def bindTg : Tg → D → EnvD → Option EnvD
  | .nm i, d, ρ => some (ρ.set i (some d))
  | .tup ts, d, ρ => match d with
    | .tup ds => bindTgs ts ds ρ
    | .lst ds => bindTgs ts ds ρ
    | _ => none
def bindTgs : List Tg → List D → EnvD → Option EnvD
  | [], [], ρ => some ρ
  | t :: ts, d :: ds, ρ => match bindTg t d ρ with
    | some ρ1 => bindTgs ts ds ρ1
    | none => none
  | _, _, _ => none
end
def wipeD (ρ : EnvD) : List Nat → EnvD
  | [] => ρ
  | v :: vs => (wipeD ρ vs).set v none
def rngD (lo hi : Int) : List D := (List.range (hi - lo).toNat).map fun i => D.int (lo + (i : Nat))
/-- what is walked: the items, the cell that must stay -/
def walkOf (d : D) (S : Store) : Option (List D × Option Nat) := match d with
  | .tup xs => some (xs, none)
  | .ctp xs => some (xs, none)
  | .lst xs => some (xs, none)
  | .scr ns => some (ns.map D.int, none)
  | .str z => some (z.cps.toList.map fun c => D.str ⟨#[c]⟩, none)
  | .loc n => match S[n]? with
    | some (some (.lst xs)) => some (xs, some n)
    | _ => none
  | _ => none
def isTupD : D → Bool
  | .tup _ => true | .ctp _ => true | _ => false
def isLstD : D → Bool
  | .lst _ => true | .scr _ => true | .loc _ => true | _ => false
def enD (xs : List D) : List D := xs.zipIdx.map fun p => D.tup [.int (p.2 : Nat), p.1]
def ziD (xs ys : List D) : List D := (xs.zip ys).map fun p => D.tup [p.1, p.2]
def isStrD : D → Bool
  | .str _ => true | _ => false
def enumOf (d : D) (S : Store) : Option (List D × Option Nat) := if isTupD d || isLstD d || isStrD d then (match walkOf d S with
  | some p => some (enD p.1, p.2)
  | none => none) else none
def zipOf (x y : D) (S : Store) : Option (List D × Option Nat) := if (isTupD x && isTupD y) || (isLstD x && isLstD y) then (match walkOf x S, walkOf y S with
  | some (xs, none), some (ys, g) => some (ziD xs ys, g)
  | some (xs, some n), some (ys, none) => some (ziD xs ys, some n)
  | _, _ => none) else none
/-- the cell is as it was -/
def Still (g : Option Nat) (S S' : Store) : Prop := ∀ n, g = some n → S'[n]? = S[n]?
open Classical in
/-- the turns of a loop; S₀: the store ahead of it -/
noncomputable def forEach (bind : D → EnvD → Option EnvD) (body : SF) (g : Option Nat) (S₀ : Store) : List D → SF
  | [], ρ, S => .nx ρ S
  | x :: r, ρ, S => match bind x ρ with
    | none => .bad
    | some ρ1 => match body ρ1 S with
      | .nx ρ2 S2 => if Still g S₀ S2 then forEach bind body g S₀ r ρ2 S2 else .bad
      | .ct ρ2 S2 => if Still g S₀ S2 then forEach bind body g S₀ r ρ2 S2 else .bad
      | .bk ρ2 S2 => .nx ρ2 S2
      | .rt d S2 => .rt d S2
      | .exc e ρ2 S2 => .exc e ρ2 S2
      | .bad => .bad
open Classical in
noncomputable def lcEach (bind : D → EnvD → Option EnvD) (test : EnvD → Store → Res Bool) (elt : EF) (g : Option Nat) (S₀ : Store) (ρ : EnvD) : List D → List D → Store → Res (List D)
  | [], acc, S => .ok acc S
  | x :: r, acc, S => match bind x ρ with
    | none => .bad
    | some ρ1 => match test ρ1 S with
      | .ok true S1 => match elt ρ1 S1 with
        | .ok y S2 => if lineOk (acc.length + 1) then (if Still g S₀ S2 then lcEach bind test elt g S₀ ρ r (acc ++ [y]) S2 else .bad) else .bad
        | _ => .bad
      | .ok false S1 => if Still g S₀ S1 then lcEach bind test elt g S₀ ρ r acc S1 else .bad
      | _ => .bad
def whileN (c : EnvD → Store → Res Bool) (body : SF) : Nat → SF
  | 0, _, _ => .bad
  | n + 1, ρ, S => match c ρ S with
    | .ok true S1 => match body ρ S1 with
      | .nx ρ2 S2 => whileN c body n ρ2 S2
      | .ct ρ2 S2 => whileN c body n ρ2 S2
      | .bk ρ2 S2 => .nx ρ2 S2
      | .rt d S2 => .rt d S2
      | .exc e ρ2 S2 => .exc e ρ2 S2
      | .bad => .bad
    | .ok false S1 => .nx ρ S1
    | .exc e S1 => .exc e ρ S1
    | .bad => .bad
def asBl (r : Res D) : Res Bool := match r with
  | .ok (.bl b) S => .ok b S
  | .ok _ _ => .bad
  | .exc e S => .exc e S
  | .bad => .bad
/-- what is locked while something is walked -/
def lockOf (r : Res D) (S : Store) : Option (Nat × List (Key × D)) := match r with
  | .ok (.loc n) _ => match S[n]? with
    | some (some (.dK ks)) => some (n, ks)
    | _ => none
  | _ => none
def unlkE (n : Nat) (ks : List (Key × D)) : Res D → Res D
  | .ok d S => .ok d (S.set n (some (.dK ks)))
  | _ => .bad
def unlkS (n : Nat) (ks : List (Key × D)) : SR → SR
  | .nx ρ S => .nx ρ (S.set n (some (.dK ks)))
  | .rt d S => .rt d (S.set n (some (.dK ks)))
  | .bk ρ S => .bk ρ (S.set n (some (.dK ks)))
  | .ct ρ S => .ct ρ (S.set n (some (.dK ks)))
  | _ => .bad
def keysOf (d : D) (S : Store) : Option (List D × Option Nat) := match d with
  | .dK ks => some (ks.map fun p => dKey p.1, none)
  | .loc n => match S[n]? with
    | some (some (.fK ks)) => some (ks.map fun p => dKey p.1, some n)
    | _ => none
  | _ => none
def valsOf (d : D) (S : Store) : Option (List D × Option Nat) := match d with
  | .dK ks => some (ks.map fun p => p.2, none)
  | .loc n => match S[n]? with
    | some (some (.fK ks)) => some (ks.map fun p => p.2, some n)
    | _ => none
  | _ => none
/-- a range by steps -/
def stepD (i : Int) (c : Int) (n : Nat) : List D := (List.range n).map fun k => D.int (i + (k : Nat) * c)
/-- a cell read for good: it is a list that nobody writes any more -/
def frzEv (o : Option (Option D)) (S : Store) : Res D := match o with
  | some (some (.loc n)) => match S[n]? with
    | some (some (.lst xs)) => .ok (.lst xs) (S.set n none)
    | some (some (.dK ks)) => .ok (.dK ks) (S.set n none)
    | _ => .bad
  | some (some d) => .ok d S
  | _ => .bad
mutual
noncomputable def sem (Γ : Gm) : Ex → EF
  | .var i, ρ, S => match ρ[i]? with
    | some (some d) => .ok d S
    | _ => .bad
  | .frz i, ρ, S => frzEv ρ[i]? S
  | .int n, _, S => .ok (.int n) S
  | .str x, _, S => .ok (.str x) S
  | .bl b, _, S => .ok (.bl b) S
  | .non, _, S => .ok .non S
  | .glob j, _, S => match Γ.glob[j]? with
    | some d => .ok d S
    | none => .bad
  | .tup es, ρ, S => (semL Γ es ρ S).bind fun ds S1 => if lineOk ds.length then .ok (.tup ds) S1 else .bad
  | .tupN es, ρ, S => (semL Γ es ρ S).bind fun ds S1 => if lineOk ds.length then .ok (.ctp ds) S1 else .bad
  | .weak a, ρ, S => (sem Γ a ρ S).bind fun x S1 => .ok x.weak S1
  | .lst c es, ρ, S => (semL Γ es ρ S).bind fun ds S1 => mkL c ds S1
  | .bin o c a b, ρ, S => (sem Γ a ρ S).bind fun x S1 => (sem Γ b ρ S1).bind fun y S2 => o.ev c x y S2
  | .neg a, ρ, S => (sem Γ a ρ S).bind fun x S1 => match x with
    | .int i => .ok (.int (-i)) S1
    | _ => .bad
  | .not a, ρ, S => (asBl (sem Γ a ρ S)).bind fun b S1 => .ok (.bl (!b)) S1
  | .boo k es, ρ, S => semB Γ k es ρ S
  | .cmp o a b, ρ, S => (sem Γ a ρ S).bind fun x S1 => (sem Γ b ρ S1).bind fun y S2 => o.ev x y S2
  | .chain o o' a b c, ρ, S => (sem Γ a ρ S).bind fun x S1 => (sem Γ b ρ S1).bind fun y S2 => (asBl (o.ev x y S2)).bind fun k S3 =>
      if k then (sem Γ c ρ S3).bind fun z S4 => o'.ev y z S4 else .ok (.bl false) S3
  | .ife t a b, ρ, S => (asBl (sem Γ t ρ S)).bind fun k S1 => if k then sem Γ a ρ S1 else sem Γ b ρ S1
  | .ix a b, ρ, S => (sem Γ a ρ S).bind fun x S1 => (sem Γ b ρ S1).bind fun y S2 => ixEv x y S2
  | .slc c a lo hi, ρ, S => (sem Γ a ρ S).bind fun x S1 => (semO Γ lo ρ S1).bind fun l S2 => (semO Γ hi ρ S2).bind fun h S3 => slcEv c x l h S3
  | .rev c a, ρ, S => (sem Γ a ρ S).bind fun x S1 => revEv c x S1
  | .stp c a s, ρ, S => (sem Γ a ρ S).bind fun x S1 => (sem Γ s ρ S1).bind fun y S2 => stpEv c x y S2
  | .call j es, ρ, S => (semL Γ es ρ S).bind fun ds S1 => match Γ.tab[j]? with
    | some f => f ds S1
    | none => .bad
  | .deq neg a b, ρ, S => (sem Γ a ρ S).bind fun x S1 => (sem Γ b ρ S1).bind fun y S2 => deqEv neg x y S2
  | .fld a f, ρ, S => (sem Γ a ρ S).bind fun x S1 => fldEv x f S1
  | .mcall c m j o es, ρ, S => (sem Γ o ρ S).bind fun x S1 => match x with
    | .loc n => match S1[n]? with
      | some (some (.ins c' fs)) => if c' = c ∧ fs.lookup m = none then (semL Γ es ρ S1).bind fun ds S2 => match Γ.mt[j]? with
        | some f => f (.loc n :: ds) S2
        | none => .bad
        else .bad
      | _ => .bad
    | _ => .bad
  | .make c j es, ρ, S => (semL Γ es ρ S).bind fun ds S1 => match Γ.mt[j]? with
    | some f => (f (.loc S1.length :: ds) (S1 ++ [some (.ins c [])])).bind fun v S2 => match v with
      | .non => .ok (.loc S1.length) S2
      | _ => .bad
    | none => .bad
  | .fnv x, _, S => .ok (.fn x) S
  | .lenSet a, ρ, S => (sem Γ a ρ S).bind fun x S1 => match seqD S1 x with
    | some ys => match asKeys ys with
      | some ks => if ks.length < 4000 then .ok (.int (dedupK ks).length) S1 else .bad
      | none => .bad
    | none => .bad
  | .sortSet c a, ρ, S => (sem Γ a ρ S).bind fun x S1 => match seqD S1 x with
    | some ys => match asKeys ys with
      | some ks => if ks.length < 4000 ∧ alikeK ks = true then mkL c ((sortK (dedupK ks)).map dKey) S1 else .bad
      | none => .bad
    | none => .bad
  | .mkX c ups k es, ρ, S => (semL Γ es ρ S).bind fun ds S1 => match k.ev ds S1 with
    | some fs => .ok (.exn c ups fs) S1
    | none => .bad
  | .isX cs a, ρ, S => (sem Γ a ρ S).bind fun x S1 => match x with
    | .exn _ ups _ => if cs.all (fun c => decide (c ∈ xNames)) && !cs.isEmpty then .ok (.bl (cs.any fun c => decide (c ∈ ups))) S1 else .bad
    | _ => .bad
  | .isVE a, ρ, S => (sem Γ a ρ S).bind fun x S1 => match x with
    | .exn _ _ _ => .ok (.bl true) S1
    | _ => .bad
  | .attr a f, ρ, S => (sem Γ a ρ S).bind fun x S1 => match x with
    | .exn _ _ fs => if f ∈ fNames then (match fs.lookup f with
      | some d => .ok d S1
      | none => .bad) else .bad
    | _ => .bad
  | .ddispE es, ρ, S => (semL Γ es ρ (S ++ [some (.dK [])])).bind fun ds S1 => match S1[S.length]?, unpairD ds with
    | some (some (.dK [])), some kvs => if (kvs.map (·.1)).Nodup ∧ kvs.length ≤ 15 ∧ 0 < kvs.length then .ok (.loc S.length) (S1.set S.length (some (.dK kvs))) else .bad
    | _, _ => .bad
  | .ddisp ks es, ρ, S => (semL Γ es ρ (S ++ [some (.dK [])])).bind fun ds S1 => match S1[S.length]? with
    | some (some (.dK [])) => if ks.Nodup ∧ ks.length = ds.length ∧ ks.length ≤ 15 ∧ 0 < ks.length then .ok (.loc S.length) (S1.set S.length (some (.dK (ks.zip ds)))) else .bad
    | _ => .bad
  | .lrng c a b, ρ, S => (sem Γ a ρ S).bind fun x S1 => (sem Γ b ρ S1).bind fun y S2 => match x, y with
    | .int i, .int j => if -4611686018427387904 ≤ i ∧ i < 4611686018427387904 ∧ -4611686018427387904 ≤ j ∧ j < 4611686018427387904 then mkL c (rngD i j) S2 else .bad
    | _, _ => .bad
  | .dnew, _, S => .ok (.loc S.length) (S ++ [some (.dK [])])
  | .dget a b, ρ, S => (sem Γ a ρ S).bind fun x S1 => (sem Γ b ρ S1).bind fun y S2 => dgetEv x y S2
  | .din neg a b, ρ, S => (sem Γ a ρ S).bind fun x S1 => (sem Γ b ρ S1).bind fun y S2 => dinEv neg x y S2
  | .dm1 m o a, ρ, S => (sem Γ o ρ S).bind fun x S1 => if (dictC S1 x).isSome then (sem Γ a ρ S1).bind fun y S2 => m.ev x y S2 else .bad
  | .dm2 m o a b, ρ, S => (sem Γ o ρ S).bind fun x S1 => if (dictC S1 x).isSome then (sem Γ a ρ S1).bind fun y S2 => (sem Γ b ρ S2).bind fun z S3 => m.ev x y z S3 else .bad
  | .lock d a, ρ, S => match lockOf (sem Γ d ρ S) S with
    | some (n, ks) => unlkE n ks (sem Γ a ρ (S.set n (some (.fK ks))))
    | none => .bad
  | .callv fe js es, ρ, S => (sem Γ fe ρ S).bind fun v S0 => match v with
    | .fn x => match js.lookup x with
      | some j => (semL Γ es ρ S0).bind fun ds S1 => match Γ.tab[j]? with
        | some f => f ds S1
        | none => .bad
      | none => .bad
    | _ => .bad
  | .bi f c es, ρ, S => (semL Γ es ρ S).bind fun ds S1 => f.ev c ds S1
  | .isi t a, ρ, S => (sem Γ a ρ S).bind fun x S1 => match tyEv S1 t x with
    | some b => .ok (.bl b) S1
    | none => .bad
  | .isiT ts a, ρ, S => (sem Γ a ρ S).bind fun x S1 => match tyEvs S1 ts x with
    | some b => .ok (.bl b) S1
    | none => .bad
  | .meth m o es, ρ, S => (sem Γ o ρ S).bind fun x S1 => if m.recv x S1 then (semL Γ es ρ S1).bind fun ds S2 => m.ev x ds S2 else .bad
  | .lc c tg src ifs elt own, ρ, S => (semSrc Γ src ρ S).bind fun p S1 =>
      (lcEach (bindTg tg) (fun ρ1 S2 => semIfs Γ ifs ρ1 S2) (fun ρ1 S2 => sem Γ elt ρ1 S2) p.2 S1 (wipeD ρ own) p.1 [] S1).bind fun ds S3 => mkL c ds S3
noncomputable def semL (Γ : Gm) : List Ex → EnvD → Store → Res (List D)
  | [], _, S => .ok [] S
  | e :: r, ρ, S => (sem Γ e ρ S).bind fun d S1 => (semL Γ r ρ S1).bind fun ds S2 => .ok (d :: ds) S2
noncomputable def semB (Γ : Gm) (k : Bool) : List Ex → EF
  | [], _, _ => .bad
  | [e], ρ, S => sem Γ e ρ S
  | e :: r, ρ, S => (asBl (sem Γ e ρ S)).bind fun b S1 => if b = k then semB Γ k r ρ S1 else .ok (.bl b) S1
noncomputable def semO (Γ : Gm) : Option Ex → EnvD → Store → Res (Option Int)
  | none, _, S => .ok none S
  | some e, ρ, S => (sem Γ e ρ S).bind fun d S1 => match d with
    | .int i => .ok (some i) S1
    | _ => .bad
noncomputable def semIfs (Γ : Gm) : List Ex → EnvD → Store → Res Bool
  | [], _, S => .ok true S
  | [e], ρ, S => asBl (sem Γ e ρ S)
  | _ :: _ :: _, _, _ => .bad
noncomputable def semSrc (Γ : Gm) : Src → EnvD → Store → Res (List D × Option Nat)
  | .ex e, ρ, S => (sem Γ e ρ S).bind fun d S1 => match walkOf d S1 with
    | some p => .ok p S1
    | none => .bad
  | .keys e, ρ, S => (sem Γ e ρ S).bind fun d S1 => match keysOf d S1 with
    | some p => .ok p S1
    | none => .bad
  | .vals e, ρ, S => (sem Γ e ρ S).bind fun d S1 => match valsOf d S1 with
    | some p => .ok p S1
    | none => .bad
  | .rng1 a, ρ, S => (sem Γ a ρ S).bind fun x S1 => match x with
    | .int j => .ok (rngD 0 j, none) S1
    | _ => .bad
  | .rng2 a b, ρ, S => (sem Γ a ρ S).bind fun x S1 => (sem Γ b ρ S1).bind fun y S2 => match x, y with
    | .int i, .int j => .ok (rngD i j, none) S2
    | _, _ => .bad
  | .rng3 a b c, ρ, S => (sem Γ a ρ S).bind fun x S1 => (sem Γ b ρ S1).bind fun y S2 => (sem Γ c ρ S2).bind fun z S3 => match x, y, z with
    | .int i, .int j, .int k => if k ≠ 0 ∧ k.natAbs < 1073741824 ∧ Builtin.Range.small i j k = true ∧ Builtin.Range.rangeSize i j k = ((Builtin.Range.rangeSize i j k).toNat : Int) then .ok (stepD i k (Builtin.Range.rangeSize i j k).toNat, none) S3 else .bad
    | _, _, _ => .bad
  | .enum a, ρ, S => (sem Γ a ρ S).bind fun x S1 => match enumOf x S1 with
    | some p => .ok p S1
    | none => .bad
  | .zip a b, ρ, S => (sem Γ a ρ S).bind fun x S1 => (sem Γ b ρ S1).bind fun y S2 => match zipOf x y S2 with
    | some p => .ok p S2
    | none => .bad
end
def SR.ofE {α : Type} (ρ : EnvD) (r : Res α) (f : α → Store → SR) : SR := match r with
  | .ok a S => f a S
  | .exc e S => .exc e ρ S
  | .bad => .bad
/-- two clauses: x = (z1,); x = (z, e.f) -/
def twoR (c1 z1 c2 : Str) (i j : Nat) (z f : Str) : SR → SR
  | .exc e ρ1 S1 => if c1 ∈ e.ups then .nx (ρ1.set j (some (.tup [.str z1]))) S1 else if c2 ∈ e.ups then (if i ≠ j ∧ i < ρ1.length ∧ j < ρ1.length ∧ f ∈ fNames then (match e.fs.lookup f with
    | some d => .nx ((ρ1.set j (some (.tup [.str z, d]))).set i none) S1
    | none => .bad) else .bad) else .exc e ρ1 S1
  | r => r
def fuel : Nat := 10000000000
mutual
noncomputable def run (Γ : Gm) : Sm → SF
  | .asg tg e, ρ, S => SR.ofE ρ (sem Γ e ρ S) fun d S1 => match bindTg tg d ρ with
    | some ρ1 => .nx ρ1 S1
    | none => .bad
  | .setIx o i e, ρ, S => SR.ofE ρ (sem Γ e ρ S) fun v S1 => SR.ofE ρ (sem Γ o ρ S1) fun x S2 => SR.ofE ρ (sem Γ i ρ S2) fun k S3 => SR.ofE ρ (setIxEv x k v S3) fun _ S4 => .nx ρ S4
  | .dput o i e, ρ, S => SR.ofE ρ (sem Γ e ρ S) fun v S1 => SR.ofE ρ (sem Γ o ρ S1) fun x S2 => SR.ofE ρ (sem Γ i ρ S2) fun k S3 => SR.ofE ρ (dputEv x k v S3) fun _ S4 => .nx ρ S4
  | .fput o f e, ρ, S => SR.ofE ρ (sem Γ e ρ S) fun v S1 => SR.ofE ρ (sem Γ o ρ S1) fun x S2 => SR.ofE ρ (fputEv x f v S2) fun _ S3 => .nx ρ S3
  | .lock d s, ρ, S => match lockOf (sem Γ d ρ S) S with
    | some (n, ks) => unlkS n ks (run Γ s ρ (S.set n (some (.fK ks))))
    | none => .bad
  | .setIx2 o i o2 i2 e, ρ, S => SR.ofE ρ (sem Γ e ρ S) fun v S1 => match v with
    | .tup [a, b] => SR.ofE ρ (sem Γ o ρ S1) fun x S2 => SR.ofE ρ (sem Γ i ρ S2) fun k S3 => SR.ofE ρ (setIxEv x k a S3) fun _ S4 =>
        SR.ofE ρ (sem Γ o2 ρ S4) fun x2 S5 => SR.ofE ρ (sem Γ i2 ρ S5) fun k2 S6 => SR.ofE ρ (setIxEv x2 k2 b S6) fun _ S7 => .nx ρ S7
    | _ => .bad
  | .expr e, ρ, S => SR.ofE ρ (sem Γ e ρ S) fun _ S1 => .nx ρ S1
  | .ret none, _, S => .rt .non S
  | .ret (some e), ρ, S => SR.ofE ρ (sem Γ e ρ S) fun d S1 => .rt d S1
  | .ife c a b, ρ, S => SR.ofE ρ (asBl (sem Γ c ρ S)) fun k S1 => if k then runs Γ a ρ S1 else runs Γ b ρ S1
  | .for tg src body, ρ, S => SR.ofE ρ (semSrc Γ src ρ S) fun p S1 => forEach (bindTg tg) (fun ρ1 S2 => runs Γ body ρ1 S2) p.2 S1 p.1 ρ S1
  | .while c body, ρ, S => whileN (fun ρ1 S1 => asBl (sem Γ c ρ1 S1)) (fun ρ1 S1 => runs Γ body ρ1 S1) fuel ρ S
  | .pass, ρ, S => .nx ρ S
  | .brk, ρ, S => .bk ρ S
  | .cont, ρ, S => .ct ρ S
  | .raise, _, _ => .bad
  | .raiseX c ups k es, ρ, S => SR.ofE ρ (semL Γ es ρ S) fun ds S1 => match k.ev ds S1 with
    | some fs => .exc ⟨c, ups, fs⟩ ρ S1
    | none => .bad
  | .tryNote body c i j, ρ, S => match runs Γ body ρ S with
    | .exc e ρ1 S1 => if c ∈ e.ups then (if i ≠ j ∧ i < ρ1.length ∧ j < ρ1.length then .nx ((ρ1.set j (some (.exn e.cls e.ups e.fs))).set i none) S1 else .bad) else .exc e ρ1 S1
    | r => r
  | .tryOnly body c suite, ρ, S => match runs Γ body ρ S with
    | .exc e ρ1 S1 => if c ∈ e.ups then runs Γ suite ρ1 S1 else .exc e ρ1 S1
    | r => r
  | .tryElse body c suite els, ρ, S => match runs Γ body ρ S with
    | .exc e ρ1 S1 => if c ∈ e.ups then runs Γ suite ρ1 S1 else .exc e ρ1 S1
    | .nx ρ1 S1 => runs Γ els ρ1 S1
    | r => r
  | .tryTwo body c1 z1 c2 i j z f, ρ, S => twoR c1 z1 c2 i j z f (runs Γ body ρ S)
noncomputable def runs (Γ : Gm) : List Sm → SF
  | [], ρ, S => .nx ρ S
  | s :: r, ρ, S => match run Γ s ρ S with
    | .nx ρ1 S1 => runs Γ r ρ1 S1
    | x => x
end
/-- a def: n names in all, p of them parameters -/
noncomputable def fnOf (Γ : Gm) (n p : Nat) (body : List Sm) : Fn := fun ds S =>
  if ds.length = p then (match runs Γ body (ds.map some ++ List.replicate (n - p) none) S with
    | .nx _ S1 => .ok .non S1
    | .rt d S1 => .ok d S1
    | .exc e _ S1 => .exc e S1
    | _ => .bad) else .bad
/-- a def that hands on no cells -/
def pureFn (f : Fn) : Fn := fun ds S =>
  if D.pureL ds then (match f ds [] with
    | .ok d _ => if d.pure then .ok d S else .bad
    | .exc e _ => if e.fs.all (fun p => p.2.pure) then .exc e S else .bad
    | .bad => .bad) else .bad
end DL

/-! DLc: what a meaning promises of the run. -/
namespace DL
open PySem PySem.Spec PyProof.Rows L2

structure EnvRep (K : PySem.W.Frag) (w : Wd) (ρ : EnvD) (σ : L2.St) : Prop where
  len : ρ.length = σ.length
  get : ∀ (i : Nat) (d : D), ρ[i]? = some (some d) → ∃ v, σ[i]? = some (some v) ∧ Rep K w d v
theorem EnvRep.mono {K : PySem.W.Frag} {w w' : Wd} {ρ : EnvD} {σ : L2.St} (e : Wd.Le w w') (h : EnvRep K w ρ σ) : EnvRep K w' ρ σ :=
  ⟨h.len, fun i d q => let ⟨v, a, b⟩ := h.get i d q; ⟨v, a, b.mono e⟩⟩
theorem EnvRep.set {K : PySem.W.Frag} {w : Wd} {ρ : EnvD} {σ : L2.St} (h : EnvRep K w ρ σ) (i : Nat) {d : D} {v : V} (r : Rep K w d v) : EnvRep K w (ρ.set i (some d)) (σ.set i (some v)) := by
  refine ⟨by simpa using h.len, fun j e q => ?_⟩
  by_cases hj : j = i
  · subst hj
    by_cases hl : j < ρ.length
    · rw [List.getElem?_set_self hl] at q
      cases q
      exact ⟨v, List.getElem?_set_self (by rw [← h.len]; exact hl), r⟩
    · rw [List.getElem?_eq_none (by simpa using hl)] at q; cases q
  · rw [List.getElem?_set_ne (Ne.symm hj)] at q ⊢
    exact h.get j e q
theorem EnvRep.unset {K : PySem.W.Frag} {w : Wd} {ρ : EnvD} {σ : L2.St} (h : EnvRep K w ρ σ) (i : Nat) : EnvRep K w (ρ.set i none) (σ.set i none) := by
  refine ⟨by simpa using h.len, fun j e q => ?_⟩
  by_cases hj : j = i
  · subst hj
    by_cases hl : j < ρ.length
    · rw [List.getElem?_set_self hl] at q
      cases q
    · rw [List.getElem?_eq_none (by simpa using hl)] at q; cases q
  · rw [List.getElem?_set_ne (Ne.symm hj)] at q ⊢
    exact h.get j e q
theorem EnvRep.wipe {K : PySem.W.Frag} {w : Wd} {ρ : EnvD} {σ : L2.St} (h : EnvRep K w ρ σ) : ∀ vs : List Nat, EnvRep K w (wipeD ρ vs) (L2.wipe σ vs)
  | [] => h
  | v :: vs => (EnvRep.wipe h vs).unset v

/-! ### exceptions -/
/-- the exception of this class with these fields -/
def RepX (K : PySem.W.Frag) (mg : Str → Option Value) (w : Wd) (H : Hp) (e : Exn) (cls : Value) (d : Option Addr) : Prop :=
  ∃ C, cls = .ref C ∧ mg e.cls = some (.ref C) ∧ XcOk K mg e.ups C ∧ ((e.fs = [] ∧ d = none) ∨ ∃ a ws, d = some a ∧ w.G a = some (.xd ws) ∧ RepF K w e.fs ws)

/-! ### behind a run -/
section
variable {K : PySem.W.Frag} {mg : Str → Option Value} {Wx : WX} {σ : L2.St} {w w1 w2 : Wd} {S S1 S2 : Store} {H H1 H2 : Hp} {α β : Type}
def After (K : PySem.W.Frag) (mg : Str → Option Value) (Wx : WX) (σ : L2.St) (w : Wd) (S : Store) (H : Hp) (R : Res α) (P : α → Wd → Store → Hp → Prop) : Prop := match R with
  | .ok a S' => ∀ w' H', Ext K mg w S H w' S' H' → P a w' S' H'
  | .exc e S' => ∀ w' H' cls d, Ext K mg w S H w' S' H' → RepX K mg w' H' e cls d → Wx cls d σ H'
  | .bad => False
theorem After.move {R : Res α} {P : α → Wd → Store → Hp → Prop} (s : Sim K mg w S H) (x : Ext K mg w S H w1 S1 H1) (h : After K mg Wx σ w S H R P) : After K mg Wx σ w1 S1 H1 R P := by
  cases R with
  | ok a S' => exact fun w' H' y => h w' H' (x.trans s y)
  | exc e S' => exact fun w' H' cls d y => h w' H' cls d (x.trans s y)
  | bad => exact h
theorem After.imp {R : Res α} {P P' : α → Wd → Store → Hp → Prop} (h : After K mg Wx σ w S H R P) (hp : ∀ a w' S' H', R = .ok a S' → Ext K mg w S H w' S' H' → P a w' S' H' → P' a w' S' H') : After K mg Wx σ w S H R P' := by
  cases R with
  | ok a S' => exact fun w' H' y => hp a w' S' H' rfl y (h w' H' y)
  | exc e S' => exact h
  | bad => exact h
/-- the first part of a run, then the rest -/
theorem After.split {R : Res α} {f : α → Store → Res β} {P : β → Wd → Store → Hp → Prop} (s : Sim K mg w S H) (h : After K mg Wx σ w S H (R.bind f) P) :
    After K mg Wx σ w S H R fun a w' S' H' => Ext K mg w S H w' S' H' ∧ After K mg Wx σ w' S' H' (f a S') P := by
  cases R with
  | ok a S' => exact fun w' H' y => ⟨y, After.move s y h⟩
  | exc e S' => exact h
  | bad => exact h
/-- nothing more is run -/
theorem After.here {a : α} {P : α → Wd → Store → Hp → Prop} (s : Sim K mg w S H) (h : After K mg Wx σ w S H (.ok a S) P) : P a w S H := h w H (Ext.refl s)
end

/-- the reading of a meaning: from a state that stands for the data -/
def dTE (K : PySem.W.Frag) (mg : Str → Option Value) (Wx : WX) (F : EF) : TE := fun σ H Q => ∃ ρ w S, Sim K mg w S H ∧ EnvRep K w ρ σ ∧ After K mg Wx σ w S H (F ρ S) fun d w' _ H' => ∀ v, Rep K w' d v → Q v H'
def dTT (K : PySem.W.Frag) (mg : Str → Option Value) (Wx : WX) (F : EnvD → Store → Res Bool) : TT := fun σ H Q => ∃ ρ w S, Sim K mg w S H ∧ EnvRep K w ρ σ ∧ After K mg Wx σ w S H (F ρ S) fun b _ _ H' => Q b H'
def dTA (K : PySem.W.Frag) (mg : Str → Option Value) (Wx : WX) (F : EnvD → Store → Res (List D)) : TA := fun σ H Q => ∃ ρ w S, Sim K mg w S H ∧ EnvRep K w ρ σ ∧ After K mg Wx σ w S H (F ρ S) fun ds w' _ H' => ∀ vs, Reps K w' ds vs → Q vs H'
structure IterOf (K : PySem.W.Frag) (mg : Str → Option Value) (w : Wd) (S : Store) (H : Hp) (J : It) (xs : List D) (g : Option Nat) : Prop where
  go : ∀ i w' S' H', i < xs.length → Ext K mg w S H w' S' H' → Still g S S' → J.go i H'
  stop : ∀ w' S' H', Ext K mg w S H w' S' H' → Still g S S' → J.stop xs.length H'
  yld : ∀ i w' S' H' x H2, i < xs.length → Ext K mg w S H w' S' H' → Still g S S' → J.yld i H' x H2 → ∃ d w2, xs[i]? = some d ∧ Ext K mg w' S' H' w2 S' H2 ∧ Rep K w2 d x
def dTI (K : PySem.W.Frag) (mg : Str → Option Value) (Wx : WX) (F : EnvD → Store → Res (List D × Option Nat)) : TI := fun σ H R => ∃ ρ w S, Sim K mg w S H ∧ EnvRep K w ρ σ ∧ After K mg Wx σ w S H (F ρ S) fun p w' S' H' => ∀ J, IterOf K mg w' S' H' J p.1 p.2 → R J H'
def AfterS (K : PySem.W.Frag) (mg : Str → Option Value) (Wx : WX) (Dn : Ends) (w : Wd) (S : Store) (H : Hp) : SR → Prop
  | .nx ρ' S' => ∀ w' H' σ', Ext K mg w S H w' S' H' → EnvRep K w' ρ' σ' → Dn.nx σ' H'
  | .bk ρ' S' => ∀ w' H' σ', Ext K mg w S H w' S' H' → EnvRep K w' ρ' σ' → Dn.bk σ' H'
  | .ct ρ' S' => ∀ w' H' σ', Ext K mg w S H w' S' H' → EnvRep K w' ρ' σ' → Dn.ct σ' H'
  | .rt d S' => ∀ w' H' v, Ext K mg w S H w' S' H' → Rep K w' d v → Dn.rt v H'
  | .exc e ρ' S' => ∀ w' H' σ' cls d, Ext K mg w S H w' S' H' → EnvRep K w' ρ' σ' → RepX K mg w' H' e cls d → Wx cls d σ' H'
  | .bad => False
theorem AfterS.move {K : PySem.W.Frag} {mg : Str → Option Value} {Wx : WX} {Dn : Ends} {w w1 : Wd} {S S1 : Store} {H H1 : Hp} {R : SR} (s : Sim K mg w S H) (x : Ext K mg w S H w1 S1 H1) (h : AfterS K mg Wx Dn w S H R) : AfterS K mg Wx Dn w1 S1 H1 R := by
  cases R with
  | nx ρ' S' => exact fun w' H' σ' y r => h w' H' σ' (x.trans s y) r
  | bk ρ' S' => exact fun w' H' σ' y r => h w' H' σ' (x.trans s y) r
  | ct ρ' S' => exact fun w' H' σ' y r => h w' H' σ' (x.trans s y) r
  | rt d S' => exact fun w' H' σ' y r => h w' H' σ' (x.trans s y) r
  | exc e ρ' S' => exact fun w' H' σ' cls d y r => h w' H' σ' cls d (x.trans s y) r
  | bad => exact h
def dTS (K : PySem.W.Frag) (mg : Str → Option Value) (Wx : WX) (F : SF) : TS := fun Dn σ H => ∃ ρ w S, Sim K mg w S H ∧ EnvRep K w ρ σ ∧ AfterS K mg Wx Dn w S H (F ρ S)
/-- an expression within a statement -/
theorem AfterS.split {K : PySem.W.Frag} {mg : Str → Option Value} {Wx : WX} {Dn : Ends} {σ : L2.St} {w : Wd} {S : Store} {H : Hp} {α : Type} {R : Res α} {ρ : EnvD} {f : α → Store → SR} (s : Sim K mg w S H) (r : EnvRep K w ρ σ)
    (h : AfterS K mg Wx Dn w S H (SR.ofE ρ R f)) : After K mg Wx σ w S H R fun a w' S' H' => Ext K mg w S H w' S' H' ∧ AfterS K mg Wx Dn w' S' H' (f a S') := by
  cases R with
  | ok a S' => exact fun w' H' y => ⟨y, AfterS.move s y h⟩
  | exc e S' => exact fun w' H' cls d y q => h w' H' σ cls d y (r.mono y.wle) q
  | bad => exact h

/-! ### weaker readings -/
section
variable {X : Cx} {e : Expr} {es : List Expr} {st : Stmt} {sts : List Stmt}
theorem PE_imp {t t' : TE} (h : PE X e t) (hi : ∀ σ H Q, t' σ H Q → t σ H Q) : PE X e t' := ⟨fun pins s σ H Q I q => h.run pins s σ H Q I (hi _ _ _ q)⟩
theorem PT_imp {t t' : TT} (h : PT X e t) (hi : ∀ σ H Q, t' σ H Q → t σ H Q) : PT X e t' := ⟨fun pins s σ H Q I q => h.run pins s σ H Q I (hi _ _ _ q)⟩
theorem PW_imp {t t' : TT} (h : PW X e t) (hi : ∀ σ H Q, t' σ H Q → t σ H Q) : PW X e t' := ⟨fun wh pins s σ H Q I q => h.run wh pins s σ H Q I (hi _ _ _ q)⟩
theorem PA_imp {t t' : TA} (h : PA X es t) (hi : ∀ σ H Q, t' σ H Q → t σ H Q) : PA X es t' := ⟨fun pos pins s σ H Q I q => h.run pos pins s σ H Q I (hi _ _ _ q)⟩
theorem PI_imp {tg : Expr} {t t' : TI} (h : PI X tg e t) (hi : ∀ σ H Q, t' σ H Q → t σ H Q) : PI X tg e t' := ⟨fun pins s σ H Q I q => h.run pins s σ H Q I (hi _ _ _ q)⟩
theorem PS_imp {t t' : TS} (h : PS X st t) (hi : ∀ D σ H, t' D σ H → t D σ H) : PS X st t' := ⟨fun pins s σ H D I q => h.run pins s σ H D I (hi _ _ _ q)⟩
theorem PSs_imp {t t' : TS} (h : PSs X sts t) (hi : ∀ D σ H, t' D σ H → t D σ H) : PSs X sts t' := ⟨fun pins s σ H D I q => h.run pins s σ H D I (hi _ _ _ q)⟩
end

/-! ### objects laid, written -/
section
variable {K : PySem.W.Frag} {mg : Str → Option Value} {w w1 : Wd} {S S1 : Store} {H H1 : Hp}
theorem same_up {G : Hp} {p : Addr} {o : HO} (h : G p = none) : Same G (upd G p o) := fun b x e => by rw [upd_ne (ne_of_none e h)]; exact e
theorem same_up2 {G H : Hp} {p : Addr} {o : HO} (e : Same G H) (h : H p = none) : Same (upd G p o) (upd H p o) := fun b x q => by
  by_cases hb : b = p
  · subst hb; rw [upd_same] at q ⊢; exact q
  · rw [upd_ne hb] at q ⊢; exact e b x q
theorem same_up3 {G H : Hp} {p : Addr} {o : HO} (e : Same G H) (h : G p = none) : Same G (upd H p o) := fun b x q => by
  rw [upd_ne (ne_of_none q h)]; exact e b x q
/-- a new thing, for good -/
def Wd.put (w : Wd) (p : Addr) (o : HO) : Wd := { w with G := upd w.G p o }
theorem Sim.free (s : Sim K mg w S H) {p : Addr} (h : H p = none) : w.G p = none := s.le.free h
theorem Sim.ne (s : Sim K mg w S H) {p : Addr} (h : H p = none) {n : Nat} (l : Live S n) : w.m n ≠ p := fun e => by
  obtain ⟨c, hc⟩ := l
  obtain ⟨o, e1, _⟩ := s.cell n c hc
  rw [e, h] at e1; cases e1
theorem Wd.put_le {p : Addr} {o : HO} (h : w.G p = none) : Wd.Le w (w.put p o) := ⟨GLe.same (same_up h), Nat.le_refl _, fun _ _ => rfl, rfl⟩
theorem ext_put0 (s : Sim K mg w S H) {p : Addr} {o : HO} (h : H p = none) : Ext0 K mg w S H (w.put p o) S (upd H p o) := by
  have hg := s.free h
  refine ⟨⟨s.len, same_up2 s.le h, fun n c hc => ?_, s.inj, fun n l => ?_, s.fa⟩, Wd.put_le hg, fun a u e _ => ?_, fun a e => ?_, fun n l => .inl l, fun a e => ?_⟩
  · obtain ⟨u, e1, r⟩ := s.cell n c hc
    refine ⟨u, ?_, r.mono (Wd.put_le hg)⟩
    show upd H p o (w.m n) = _
    rw [upd_ne (s.ne h ⟨c, hc⟩)]
    exact e1
  · show upd w.G p o (w.m n) = none
    rw [upd_ne (s.ne h l)]
    exact s.apart n l
  · rw [upd_ne (ne_of_none e h)]; exact e
  · by_cases ha : a = p
    · subst ha; exact .inr (.inl h)
    · refine .inl ?_
      have e' : upd w.G p o a ≠ none := e
      rwa [upd_ne ha] at e'
  · by_cases ha : a = p
    · subst ha; rw [upd_same]; simp
    · rwa [upd_ne ha]
theorem ext_put (s : Sim K mg w S H) {p : Addr} {o : HO} (h : H p = none) : Ext K mg w S H (w.put p o) S (upd H p o) := ⟨ext_put0 s h, fun n z => ⟨rfl, upd_ne (s.ne h z.live)⟩⟩
/-- a new cell -/
def Wd.cell (w : Wd) (p : Addr) : Wd := { w with m := fun i => if i = w.N then p else w.m i, N := w.N + 1 }
theorem Wd.cell_le {p : Addr} : Wd.Le w (w.cell p) := ⟨GLe.refl _, Nat.le_succ _, fun i h => by show (if i = w.N then p else w.m i) = _; rw [if_neg (Nat.ne_of_lt h)], rfl⟩
theorem Wd.cell_m {p : Addr} : (w.cell p).m w.N = p := if_pos rfl
theorem live_app {c : Cell} {n : Nat} (h : Live (S ++ [some c]) n) : Live S n ∨ n = S.length := by
  obtain ⟨d, e⟩ := h
  by_cases hn : n < S.length
  · rw [List.getElem?_append_left hn] at e
    exact .inl ⟨d, e⟩
  · refine .inr ?_
    have := (List.getElem?_eq_some_iff.mp e).1
    simp at this
    omega
theorem ext_cell0 (s : Sim K mg w S H) {p : Addr} {o : HO} {c : Cell} (h : H p = none) (hc : CellOk K mg w H p c o) : Ext0 K mg w S H (w.cell p) (S ++ [some c]) (upd H p o) := by
  have hl := s.len
  have hm : ∀ n, Live S n → (w.cell p).m n = w.m n := fun n l => Wd.cell_le.m n (by rw [← hl]; exact l.lt)
  have hN : (w.cell p).m S.length = p := by rw [hl]; exact Wd.cell_m
  refine ⟨⟨?_, same_up3 s.le (s.free h), fun n c' e => ?_, fun i j li lj e => ?_, fun n l => ?_, s.fa⟩, Wd.cell_le, fun a u e _ => ?_, fun a e => .inl e, fun n l => ?_, fun a e => ?_⟩
  · show (S ++ [some c]).length = w.N + 1
    rw [List.length_append, hl]; rfl
  · by_cases hn : n < S.length
    · rw [List.getElem?_append_left hn] at e
      obtain ⟨u, e1, r⟩ := s.cell n c' e
      rw [hm n ⟨c', e⟩]
      refine ⟨u, ?_, r.mono Wd.cell_le⟩
      rw [upd_ne (s.ne h ⟨c', e⟩)]
      exact e1
    · have hn' : n = S.length := by
        have := (List.getElem?_eq_some_iff.mp e).1
        simp at this
        omega
      subst hn'
      rw [List.getElem?_append_right (Nat.le_refl _), Nat.sub_self] at e
      cases e
      rw [hN]
      exact ⟨o, upd_same, hc.mono Wd.cell_le⟩
  · rcases live_app li with li | rfl <;> rcases live_app lj with lj | rfl
    · rw [hm i li, hm j lj] at e; exact s.inj i j li lj e
    · rw [hm i li, hN] at e; exact absurd e (s.ne h li)
    · rw [hm j lj, hN] at e; exact absurd e.symm (s.ne h lj)
    · rfl
  · rcases live_app l with l | rfl
    · rw [hm n l]; exact s.apart n l
    · rw [hN]; exact s.free h
  · rw [upd_ne (ne_of_none e h)]; exact e
  · rcases live_app l with l | rfl
    · exact .inl l
    · exact .inr ⟨Nat.le_refl _, by rw [hN]; exact h⟩
  · by_cases ha : a = p
    · subst ha; rw [upd_same]; simp
    · rwa [upd_ne ha]
theorem ext_cell (s : Sim K mg w S H) {p : Addr} {o : HO} {c : Cell} (h : H p = none) (hc : CellOk K mg w H p c o) : Ext K mg w S H (w.cell p) (S ++ [some c]) (upd H p o) := ⟨ext_cell0 s h hc, fun n z => ⟨List.getElem?_append_left z.live.lt, upd_ne (s.ne h z.live)⟩⟩
/-- a cell written -/
theorem ext_set0 (s : Sim K mg w S H) {n : Nat} {c c' : Cell} {o : HO} (hn : S[n]? = some (some c)) (hc : CellOk K mg w H (w.m n) c' o) : Ext0 K mg w S H w (S.set n (some c')) (upd H (w.m n) o) := by
  have ln : Live S n := ⟨c, hn⟩
  have lv : ∀ k, Live (S.set n (some c')) k → Live S k := fun k ⟨d, e⟩ => by
    by_cases hk : k = n
    · subst hk; exact ln
    · rw [List.getElem?_set_ne (Ne.symm hk)] at e; exact ⟨d, e⟩
  refine ⟨⟨by rw [List.length_set]; exact s.len, same_up3 s.le (s.apart n ln), fun k d e => ?_, fun i j li lj e => s.inj i j (lv i li) (lv j lj) e, fun k l => s.apart k (lv k l), s.fa⟩, Wd.Le.refl _, fun a u e hk => ?_, fun a e => .inl e, fun k l => .inl (lv k l), fun a e => ?_⟩
  · by_cases hk : k = n
    · subst hk
      rw [List.getElem?_set_self ln.lt] at e
      cases e
      exact ⟨o, upd_same, hc.mono (Wd.Le.refl _)⟩
    · rw [List.getElem?_set_ne (Ne.symm hk)] at e
      obtain ⟨u, e1, r⟩ := s.cell k d e
      refine ⟨u, ?_, r.mono (Wd.Le.refl _)⟩
      rw [upd_ne fun z => hk (s.inj k n ⟨d, e⟩ ln z)]
      exact e1
  · rw [upd_ne fun z => hk n ln z.symm]; exact e
  · by_cases ha : a = w.m n
    · subst ha; rw [upd_same]; simp
    · rwa [upd_ne ha]
theorem ext_set (s : Sim K mg w S H) {n : Nat} {c c' : Cell} {o : HO} (hn : S[n]? = some (some c)) (hc : CellOk K mg w H (w.m n) c' o) (hz : ∀ ks, c ≠ .fK ks := by intro _ z; cases z) : Ext K mg w S H w (S.set n (some c')) (upd H (w.m n) o) := ⟨ext_set0 s hn hc, fun k z => by
    have hk : k ≠ n := fun e => by
      subst e
      obtain ⟨ks, e⟩ := z
      rw [hn] at e
      cases e
      exact hz ks rfl
    exact ⟨List.getElem?_set_ne (Ne.symm hk), upd_ne fun e => hk (s.inj k n z.live ⟨c, hn⟩ e)⟩⟩
/-- a cell given up: what it held stands for good -/
theorem ext_frz0 (s : Sim K mg w S H) {n : Nat} {c : Cell} {o : HO} (hn : S[n]? = some (some c)) (ho : H (w.m n) = some o) : Ext0 K mg w S H (w.put (w.m n) o) (S.set n none) H := by
  have ln : Live S n := ⟨c, hn⟩
  have g0 := s.apart n ln
  have le : Wd.Le w (w.put (w.m n) o) := Wd.put_le g0
  have lv : ∀ k, Live (S.set n none) k → Live S k ∧ k ≠ n := fun k ⟨d, e⟩ => by
    by_cases hk : k = n
    · subst hk
      rw [List.getElem?_set_self ln.lt] at e
      cases e
    · rw [List.getElem?_set_ne (Ne.symm hk)] at e; exact ⟨⟨d, e⟩, hk⟩
  refine ⟨⟨by rw [List.length_set]; exact s.len, fun a u e => ?_, fun k d e => ?_, fun i j li lj e => s.inj i j (lv i li).1 (lv j lj).1 e, fun k l => ?_, s.fa⟩, le, fun a u e _ => e, fun a e => ?_, fun k l => .inl (lv k l).1, fun a e => e⟩
  · have e : upd w.G (w.m n) o a = some u := e
    by_cases ha : a = w.m n
    · subst ha; rw [upd_same] at e; cases e; exact ho
    · rw [upd_ne ha] at e; exact s.le a u e
  · obtain ⟨l1, l2⟩ := lv k ⟨d, e⟩
    rw [List.getElem?_set_ne (Ne.symm l2)] at e
    obtain ⟨u, e1, r⟩ := s.cell k d e
    exact ⟨u, e1, r.mono le⟩
  · obtain ⟨l1, l2⟩ := lv k l
    show upd w.G (w.m n) o (w.m k) = none
    rw [upd_ne fun z => l2 (s.inj k n l1 ln z)]
    exact s.apart k l1
  · have e : upd w.G (w.m n) o a ≠ none := e
    by_cases ha : a = w.m n
    · exact .inr (.inr ⟨n, ln, ha.symm⟩)
    · rw [upd_ne ha] at e; exact .inl e
theorem ext_frz (s : Sim K mg w S H) {n : Nat} {c : Cell} {o : HO} (hn : S[n]? = some (some c)) (ho : H (w.m n) = some o) (hz : ∀ ks, c ≠ .fK ks := by intro _ z; cases z) : Ext K mg w S H (w.put (w.m n) o) (S.set n none) H := ⟨ext_frz0 s hn ho, fun k z => by
    have hk : k ≠ n := fun e => by
      subst e
      obtain ⟨ks, e⟩ := z
      rw [hn] at e
      cases e
      exact hz ks rfl
    exact ⟨List.getElem?_set_ne (Ne.symm hk), rfl⟩⟩
/-- a dict is locked for a walk; behind it, it is as before -/
theorem ext_lock (s : Sim K mg w S H) {n : Nat} {ks : List (Key × D)} {ws : List (Key × V)} {od : Obj} (hn : S[n]? = some (some (.dK ks))) (r : RepK K w ks ws) : Ext0 K mg w S H w (S.set n (some (.fK ks))) (upd H (w.m n) (.frz od (.dK ws))) :=
  ext_set0 (c' := .fK ks) s hn ⟨ws, od, rfl, r⟩
theorem ext_unlock (s : Sim K mg w S H) {n : Nat} {ks : List (Key × D)} {ws : List (Key × V)} {od : Obj} {w' : Wd} {S' : Store} {H' : Hp} (hn : S[n]? = some (some (.dK ks))) (r : RepK K w ks ws)
    (x : Ext K mg w (S.set n (some (.fK ks))) (upd H (w.m n) (.frz od (.dK ws))) w' S' H') : H' (w.m n) = some (.frz od (.dK ws)) ∧ Ext K mg w S H w' (S'.set n (some (.dK ks))) (upd H' (w.m n) (.dK ws)) := by
  have ln : Live S n := ⟨_, hn⟩
  have h1 : (S.set n (some (.fK ks)))[n]? = some (some (.fK ks)) := List.getElem?_set_self ln.lt
  obtain ⟨a1, a2⟩ := x.fz n ⟨ks, h1⟩
  rw [h1] at a1
  rw [upd_same] at a2
  have x0 := ext_lock (od := od) s hn r
  have em : w'.m n = w.m n := x.wle.m n (by rw [← s.len]; exact ln.lt)
  have x3 : Ext0 K mg w' S' H' w' (S'.set n (some (.dK ks))) (upd H' (w'.m n) (.dK ws)) := ext_set0 (c' := .dK ks) x.sim a1 ⟨ws, rfl, r.mono x.wle⟩
  rw [em] at x3
  refine ⟨a2, ⟨x0.trans s (x.e.trans x0.sim x3), fun k z => ?_⟩⟩
  have hk : k ≠ n := fun e => by
    subst e
    obtain ⟨ks', e⟩ := z
    rw [hn] at e
    cases e
  have hm : w.m k ≠ w.m n := fun e => hk (s.inj k n z.live ln e)
  have z1 : Frz (S.set n (some (.fK ks))) k := let ⟨ks', e⟩ := z; ⟨ks', by rw [List.getElem?_set_ne (Ne.symm hk)]; exact e⟩
  obtain ⟨b1, b2⟩ := x.fz k z1
  rw [List.getElem?_set_ne (Ne.symm hk)] at b1
  rw [upd_ne hm] at b2
  exact ⟨by rw [List.getElem?_set_ne (Ne.symm hk)]; exact b1, by rw [upd_ne hm]; exact b2⟩
/-- a dict given up: it stands for good, and may be walked -/
theorem ext_frzD (s : Sim K mg w S H) {n : Nat} {ks : List (Key × D)} {ws : List (Key × V)} {od : Obj} (hn : S[n]? = some (some (.dK ks))) (r : RepK K w ks ws) :
    Ext K mg w S H (w.put (w.m n) (.frz od (.dK ws))) (S.set n none) (upd H (w.m n) (.frz od (.dK ws))) := by
  have ln : Live S n := ⟨_, hn⟩
  have x0 := ext_lock (od := od) s hn r
  have x1 := ext_frz0 x0.sim (n := n) (c := .fK ks) (o := .frz od (.dK ws)) (List.getElem?_set_self ln.lt) upd_same
  rw [List.set_set] at x1
  refine ⟨x0.trans s x1, fun k z => ?_⟩
  have hk : k ≠ n := fun e => by
    subst e
    obtain ⟨ks', e⟩ := z
    rw [hn] at e
    cases e
  exact ⟨List.getElem?_set_ne (Ne.symm hk), upd_ne fun e => hk (s.inj k n z.live ln e)⟩
/-- a thing tracked that is none of ours -/
theorem ext_own0 (s : Sim K mg w S H) {p : Addr} {o : HO} (h : H p = none) : Ext0 K mg w S H w S (upd H p o) := by
  refine ⟨⟨s.len, same_up3 s.le (s.free h), fun n c hc => ?_, s.inj, s.apart, s.fa⟩, Wd.Le.refl _, fun a u e _ => ?_, fun a e => .inl e, fun n l => .inl l, fun a e => ?_⟩
  · obtain ⟨u, e1, r⟩ := s.cell n c hc
    exact ⟨u, by rw [upd_ne (s.ne h ⟨c, hc⟩)]; exact e1, r.mono (Wd.Le.refl _)⟩
  · rw [upd_ne (ne_of_none e h)]; exact e
  · by_cases ha : a = p
    · subst ha; rw [upd_same]; simp
    · rwa [upd_ne ha]

theorem ext_own (s : Sim K mg w S H) {p : Addr} {o : HO} (h : H p = none) : Ext K mg w S H w S (upd H p o) := ⟨ext_own0 s h, fun n z => ⟨rfl, upd_ne (s.ne h z.live)⟩⟩
theorem reps_ints : ∀ ns : List Int, Reps K w (ns.map D.int) (ns.map V.int)
  | [] => .nil
  | n :: ns => .cons (.int n) (reps_ints ns)
/-- a list of data: where it is -/
theorem list_at (s : Sim K mg w S H) {x : D} {v : V} {xs : List D} (r : Rep K w x v) (h : x.list? S = some xs) : ∃ a vs, v = .ref a ∧ SqL K H a vs ∧ Reps K w xs vs := by
  cases r with
  | lst q r =>
    rw [show (D.lst _).list? S = some _ from rfl] at h
    cases h
    exact ⟨_, _, rfl, .of (s.le _ _ q), r⟩
  | scr q =>
    rw [show (D.scr _).list? S = some _ from rfl] at h
    cases h
    exact ⟨_, _, rfl, s.le.seq q, reps_ints _⟩
  | loc hn =>
    rename_i n
    simp only [D.list?] at h
    split at h
    · rename_i ys e
      cases h
      obtain ⟨o, e1, vs, rfl, r⟩ := s.cell n _ e
      exact ⟨_, vs, rfl, .of e1, r⟩
    · cases h
  | _ => cases h
/-- .. tracked -/
theorem list_atH (s : Sim K mg w S H) {x : D} {v : V} {xs : List D} (r : Rep K w x v) (h : x.listH? S = some xs) : ∃ a vs, v = .ref a ∧ H a = some (.lst vs) ∧ Reps K w xs vs := by
  cases r with
  | lst q r =>
    rw [show (D.lst _).listH? S = some _ from rfl] at h
    cases h
    exact ⟨_, _, rfl, s.le _ _ q, r⟩
  | loc hn =>
    rename_i n
    simp only [D.listH?, D.list?] at h
    split at h
    · rename_i ys e
      cases h
      obtain ⟨o, e1, vs, rfl, r⟩ := s.cell n _ e
      exact ⟨_, vs, rfl, e1, r⟩
    · cases h
  | _ => cases h
/-- a new list -/
theorem new_list (s : Sim K mg w S H) {c : Bool} {xs : List D} {vs : List V} {P : D → Wd → Store → Hp → Prop} {Wx : WX} {σ : L2.St} (r : Reps K w xs vs) (h : After K mg Wx σ w S H (mkL c xs S) P) :
    vs.length ≤ sizeLine ∧ ∀ p, H p = none → ∃ d w' S', P d w' S' (upd H p (.lst vs)) ∧ Rep K w' d (.ref p) := by
  unfold mkL at h
  split at h
  · rename_i hl
    have hl' : vs.length ≤ sizeLine := by
      rw [← r.length, sizeLine_eq]
      exact of_decide_eq_true hl
    refine ⟨hl', fun p hp => ?_⟩
    cases c with
    | true =>
      rw [if_pos rfl] at h
      refine ⟨_, _, _, h _ _ (ext_cell s hp ⟨vs, rfl, r⟩), ?_⟩
      have := Rep.loc (K := K) (w := w.cell p) (n := S.length) (by show S.length < w.N + 1; rw [s.len]; exact Nat.lt_succ_self _)
      rwa [s.len, Wd.cell_m, ← s.len] at this
    | false =>
      rw [if_neg (by decide)] at h
      exact ⟨_, _, _, h _ _ (ext_put s hp), .lst upd_same (r.mono (Wd.put_le (s.free hp)))⟩
  · exact h.elim
/-- a new tuple -/
theorem new_tup (s : Sim K mg w S H) {xs : List D} {vs : List V} {P : D → Wd → Store → Hp → Prop} {Wx : WX} {σ : L2.St} (r : Reps K w xs vs) (h : After K mg Wx σ w S H (.ok (.tup xs) S) P) :
    ∀ p, H p = none → ∃ w', P (.tup xs) w' S (upd H p (.tup vs)) ∧ Rep K w' (.tup xs) (.ref p) := fun p hp =>
  ⟨_, h _ _ (ext_put s hp), .tup (.of upd_same) (r.mono (Wd.put_le (s.free hp)))⟩
/-! ### dicts -/
theorem keyD_v {w : Wd} {y : D} {v : V} {k : Key} (h : keyD y = some k) (r : Rep K w y v) : v = kV k := by
  cases y with
  | int i => cases h; cases r; rfl
  | str i => cases h; cases r; rfl
  | _ => cases h
theorem dKey_rep {w : Wd} (k : Key) : Rep K w (dKey k) (kV k) := by
  cases k with
  | inl i => exact .int i
  | inr x => exact .str x
theorem dict_at (s : Sim K mg w S H) {x : D} {v : V} {ks : List (Key × D)} (r : Rep K w x v) (h : dictC S x = some ks) : ∃ a ws, v = .ref a ∧ Rd H a (.dK ws) ∧ RepK K w ks ws := by
  cases r with
  | dK q r =>
    cases h
    obtain ⟨o, q⟩ := q
    exact ⟨_, _, rfl, .inr ⟨o, s.le _ _ q⟩, r⟩
  | loc hn =>
    simp only [dictC] at h
    split at h
    · rename_i e
      cases h
      obtain ⟨o, e1, ws, rfl, r⟩ := s.cell _ _ e
      exact ⟨_, ws, rfl, .inl e1, r⟩
    · rename_i e
      cases h
      obtain ⟨o, e1, ws, od, rfl, r⟩ := s.cell _ _ e
      exact ⟨_, ws, rfl, .inr ⟨od, e1⟩, r⟩
    · cases h
  | _ => cases h
theorem dcell_at (s : Sim K mg w S H) {n : Nat} {ks : List (Key × D)} (e : S[n]? = some (some (.dK ks))) : ∃ ws, H (w.m n) = some (.dK ws) ∧ RepK K w ks ws := by
  obtain ⟨o, e1, ws, rfl, r⟩ := s.cell _ _ e
  exact ⟨ws, e1, r⟩
theorem RepK.val {w : Wd} {k : Key} : ∀ {ks : List (Key × D)} {ws : List (Key × V)}, RepK K w ks ws → (∃ d v, valD ks k = some d ∧ valV ws k = some v ∧ Rep K w d v) ∨ (valD ks k = none ∧ valV ws k = none)
  | _, _, .nil => .inr ⟨rfl, rfl⟩
  | _, _, @RepK.cons _ _ k' d v ks ws r t => by
    by_cases e : k' = k
    · refine .inl ⟨d, v, ?_, valV_pos (p := (k', v)) e, r⟩
      simp [valD, List.find?_cons, e]
    · rcases RepK.val (k := k) t with ⟨d2, v2, h1, h2, h3⟩ | ⟨h1, h2⟩
      · refine .inl ⟨d2, v2, ?_, (valV_neg (p := (k', v)) e).trans h2, h3⟩
        rw [← h1]
        simp [valD, List.find?_cons, e]
      · refine .inr ⟨?_, (valV_neg (p := (k', v)) e).trans h2⟩
        rw [← h1]
        simp [valD, List.find?_cons, e]
theorem RepK.any {w : Wd} {k : Key} : ∀ {ks : List (Key × D)} {ws : List (Key × V)}, RepK K w ks ws → (ks.any fun kv => decide (kv.1 = k)) = ws.any fun kv => decide (kv.1 = k)
  | _, _, .nil => rfl
  | _, _, .cons r t => by rw [List.any_cons, List.any_cons, RepK.any t]
theorem RepK.repl {w : Wd} {k : Key} {d : D} {v : V} (rd : Rep K w d v) : ∀ {ks : List (Key × D)} {ws : List (Key × V)}, RepK K w ks ws → RepK K w (ks.map fun kv => if kv.1 = k then (kv.1, d) else kv) (ws.map fun kv => if kv.1 = k then (kv.1, v) else kv)
  | _, _, .nil => .nil
  | _, _, @RepK.cons _ _ k' d' v' ks ws r t => by
    rw [List.map_cons, List.map_cons]
    by_cases e : k' = k
    · simp only [e, if_true]
      exact .cons rd (RepK.repl rd t)
    · simp only [e, if_false]
      exact .cons r (RepK.repl rd t)
theorem RepK.snoc {w : Wd} {k : Key} {d : D} {v : V} (rd : Rep K w d v) : ∀ {ks : List (Key × D)} {ws : List (Key × V)}, RepK K w ks ws → RepK K w (ks ++ [(k, d)]) (ws ++ [(k, v)])
  | _, _, .nil => .cons rd .nil
  | _, _, .cons r t => .cons r (RepK.snoc rd t)
theorem RepK.put {w : Wd} {k : Key} {d : D} {v : V} (rd : Rep K w d v) {ks : List (Key × D)} {ws : List (Key × V)} (r : RepK K w ks ws) : RepK K w (putD ks k d) (putK ws k v) := by
  unfold putD putK
  rw [r.any]
  split
  · exact r.repl rd
  · exact r.snoc rd
theorem RepK.drop {w : Wd} {k : Key} : ∀ {ks : List (Key × D)} {ws : List (Key × V)}, RepK K w ks ws → RepK K w (dropD ks k) (dropK ws k)
  | _, _, .nil => .nil
  | _, _, @RepK.cons _ _ k' d' v' ks ws r t => by
    unfold dropD dropK
    rw [List.filter_cons, List.filter_cons]
    by_cases e : k' = k
    · simp only [e, ne_eq, not_true_eq_false, decide_false, Bool.false_eq_true, if_false]
      exact RepK.drop t
    · simp only [e, ne_eq, not_false_eq_true, decide_true, if_true]
      exact .cons r (RepK.drop t)
theorem RepK.len {w : Wd} : ∀ {ks : List (Key × D)} {ws : List (Key × V)}, RepK K w ks ws → ks.length = ws.length
  | _, _, .nil => rfl
  | _, _, .cons r t => by rw [List.length_cons, List.length_cons, RepK.len t]
theorem RepK.getV {w : Wd} : ∀ {ks : List (Key × D)} {ws : List (Key × V)} {i : Nat} {k : Key} {v : V}, RepK K w ks ws → ws[i]? = some (k, v) → ∃ d, ks[i]? = some (k, d) ∧ Rep K w d v
  | _, _, _, _, _, .nil, e => by simp at e
  | _, _, 0, _, _, .cons r t, e => by simp at e; obtain ⟨rfl, rfl⟩ := e; exact ⟨_, rfl, r⟩
  | _, _, i + 1, _, _, .cons r t, e => by
    obtain ⟨d, h1, h2⟩ := RepK.getV (i := i) t (by simpa using e)
    exact ⟨d, by simpa using h1, h2⟩
end
end DL

/-! DLt: enumerate over a tuple, over a text. -/
namespace DL
open PySem PySem.Spec PyProof.Rows L2
set_option maxHeartbeats 1000000 in
theorem meets_enum1 {v : Value} {o : Obj} {HH : Heap → Prop} (B : Begins v o HH) : Meets (Builtin.«enumerate.__new__» ⟨[.type "enumerate", v], []⟩) (fun _ R s => HH s.heap ∧
      R (.ok (.ret (.ref (s.heap.push o).objs.size))) { s with heap := (s.heap.push o).push { cls := .type "enumerate", data := .fields #[.none, .bool false, .ref s.heap.objs.size, rawInt 0, .none, .none] } }) :=
  .of_wp fun pg wo Ar R s h => by
    obtain ⟨hp, gl, dd, tk, os⟩ := s
    obtain ⟨z1, z2⟩ := h
    have hsub := sub_enumerate
    have q1 : ∀ {Ar' : Around} {E Q : Value → Shared → Prop}, Q (.ref hp.objs.size) ⟨hp.push o, gl, dd, tk, os⟩ → wpAny (model pg wo) Ar' (pyIter v) Q E ⟨hp, gl, dd, tk, os⟩ :=
      fun q => B.iter pg wo _ _ ⟨hp, gl, dd, tk, os⟩ _ z1 q
    wp_walk using q1
    refine wpAny_stack_any fun _ => wpAny_pure ?_
    split
    · rename_i c _ _ _ _ _
      cases (c == Value.type "enumerate") <;> (wp_walk using q1; exact ⟨_, rfl, z2⟩)
    · wp_walk using q1
      exact ⟨_, rfl, z2⟩
section
variable {prog : Program} {w : World} {A : Around} {E : Value → Shared → Prop} {s : Shared}
theorem enum1 {v : Value} {o : Obj} {HH : Heap → Prop} {Q : Value → Shared → Prop} (B : Begins v o HH) (z1 : HH s.heap)
    (h : ∀ h', IsEnum h' (s.heap.objs.size + 1) s.heap.objs.size 0 .none → h'.get? s.heap.objs.size = some o → (∀ b u, s.heap.get? b = some u → h'.get? b = some u) → Q (.ref (s.heap.objs.size + 1)) { s with heap := h' }) :
    wpAny (model prog w) A (call (.type "enumerate") [v]) Q E s := by
  refine callType_new F.called_enumerate (by decide) (F.typeCall_enumerate_1 _) (F.newCall_enumerate_1 _) (fun ob => F.args_object_init_2 ob _) F.entry_enumerate_new (meets_enum1 B) ⟨z1, ?_⟩
  have hz : (s.heap.push o).objs.size = s.heap.objs.size + 1 := Heap.size_push ..
  show _ ∧ _
  rw [hz]
  have he := Heap.get?_push_size (s.heap.push o) (o := { cls := .type "enumerate", data := .fields #[.none, .bool false, .ref s.heap.objs.size, rawInt 0, .none, .none] }) rfl
  rw [hz] at he
  exact ⟨⟨_, he, rfl⟩, h _ he (Heap.get?_push_of_some _ (Heap.get?_push_size _ B.free)) fun b u x => Heap.get?_push_of_some _ (Heap.get?_push_of_some _ x)⟩
end
/-- the tuple at a, each item in a new pair -/
def IteT (K : PySem.W.Frag) (a : Addr) : It :=
  ⟨fun i H => ∃ xs x, SqT K H a xs ∧ xs[i]? = some x, fun i H v H' => ∃ T x, v = .ref T ∧ H T = none ∧ H' = upd H T (.tup [.int (i : Nat), x]) ∧ ∀ ys, SqT K H a ys → ys[i]? = some x, fun i H => ∃ ys : List V, SqT K H a ys ∧ ys.length = i⟩
theorem turn_enumT {P : Program} {w : World} {K : PySem.W.Frag} {elts : List Expr} {kk : Nat} {tpos : Pos} (a e it : Addr) :
    Turn P w K (.Tuple elts kk tpos) (IteT K a) [e, it] e (fun i h => (∃ old, IsEnum h e it ((i : Nat) : Int) old) ∧ h.IsTupleIter it a i ∧ e ≠ it ∧ a ≠ it ∧ a ≠ e) where
  mem := by simp
  obj := fun i h st b hb => by
    obtain ⟨⟨old, he⟩, ⟨o, ho, _, hd⟩, _⟩ := st
    have z : b = e ∨ b = it := by simpa using hb
    rcases z with rfl | rfl
    · exact ⟨_, he, fun v q => nomatch q⟩
    · exact ⟨o, ho, fun v q => by rw [hd] at q; cases q⟩
  keep := fun i h h' st k => by
    obtain ⟨⟨old, he⟩, hi, hne⟩ := st
    exact ⟨⟨old, k e (by simp) _ he⟩, hi.at fun o q => k it (by simp) o q, hne⟩
  item := by
    intro X hP hw hK hc i pins s σ H E I hf st hg
    subst hP hw hK
    obtain ⟨⟨old, he⟩, hit, hne, hai, hae⟩ := st
    obtain ⟨xs, x, hq, hx⟩ := hg
    obtain ⟨its, rv, p, hz⟩ := I.tuple hq
    obtain ⟨u, hu, ru⟩ := rv.get hx
    have hel : e < s.heap.objs.size := Heap.lt_size he
    have hil : it < s.heap.objs.size := by obtain ⟨_, q, _⟩ := hit; exact Heap.lt_size q
    have hh : X.A.in1.handled = none := I.ok.hd hc
    have hlt : i < its.toArray.size := by
      have := (List.getElem?_eq_some_iff.1 hu).1
      simpa using this
    have D := Draws.tuple (prog := X.prog) (w := X.w) hh it a hai its.toArray
    refine wpAny_pyNext_enum_itemD D he ⟨hit, p⟩ hlt hne (by simp [hne, Ne.symm hae]) fun y h' tk hP ho hst hT hsz hk => ?_
    have hy : y = u := by
      have q : its.toArray[i]? = some y := hP
      have : its[i]? = some y := by simpa using q
      rw [hu] at this
      exact (Option.some.inj this).symm
    subst hy
    refine ⟨_, rfl, wpAny_letOwnedTupleGo_enum (s := { s with heap := h', toks := tk + 1 }) ho fun h2 he2 sb => ?_⟩
    have hT2 := (sb.2 _ (Nat.ne_of_gt hel)).trans hT
    have new : ObjOk X.prog X.w (upd H s.heap.objs.size (.tup [.int (i : Nat), x])) h2 s.heap.objs.size (.tup [.int (i : Nat), x]) := by
      refine ⟨?_, [.int i tk, y], .cons ⟨_, rfl⟩ (.cons ru .nil), ⟨_, hT2, rfl, _, rfl⟩⟩
      show 2 ≤ sizeLine
      decide
    have I1 := I.turnedNew (t' := tk + 1) (ch := [e, it]) (fun b ob hb q => (sb.2 b (fun z => hb (by simp [z]))).trans (hk b ob (fun z => hb (by simp [z])) (fun z => hb (by simp [z])) q)) hf (Nat.le_refl _) new
    refine ⟨.ref s.heap.objs.size, _, I1, rfl, ⟨_, x, rfl, I.hok.fresh (Nat.le_refl _), rfl, fun ys hys => by rw [I.tuple_inj hys hq]; exact hx⟩, ⟨⟨y, ?_⟩, hst.1.at fun o q => (sb.2 it (Ne.symm hne)).trans q, hne, hai, hae⟩, fun b hb => ?_⟩
    · rw [show ((i + 1 : Nat) : Int) = (i : Int) + 1 by omega]
      exact he2
    · have hb' : b < s.heap.objs.size := by
        have z : b = e ∨ b = it := by simpa using hb
        rcases z with rfl | rfl
        · exact hel
        · exact hil
      rw [upd_ne (Nat.ne_of_lt hb')]
      exact (hf b hb).1
  done := by
    intro X hP hw hK hc i pins s σ H E I hf st hg
    subst hP hw hK
    obtain ⟨⟨old, he⟩, hit, hne, hai, hae⟩ := st
    obtain ⟨xs, hq, hx⟩ := hg
    obtain ⟨its, rv, p, hz⟩ := I.tuple hq
    obtain ⟨f0, f1, f2, f3, f4, f5⟩ := hf it (by simp)
    have hl := rv.length
    have hh : X.A.in1.handled = none := I.ok.hd hc
    have hn : its.toArray.size = i := by rw [List.size_toArray]; omega
    subst hn
    exact wpAny_pyNext_enum_endD (Draws.tuple (prog := X.prog) (w := X.w) hh it a hai its.toArray) he ⟨hit, p⟩ fun h' eb => ⟨rfl, I.turned (t' := s.toks) (fun b o hb q => eb b o hb q) f0 f1 f3 f4 f5⟩
  self := fun A i s Q E st h => by
    obtain ⟨⟨_, he⟩, _⟩ := st
    exact wpAny_pyIter_enum he h
def iEnumT (K : PySem.W.Frag) (ta : TA) : TI := fun σ H R => ta σ H fun vs H1 => ∃ a xs, vs = [.ref a] ∧ SqT K H1 a xs ∧ R (IteT K a) H1
theorem pi_enumT {X : Cx} {e : Expr} {ta : TA} {p pos tpos : Pos} {elts : List Expr} {kk : Nat} (hg : Gl X "enumerate") (hm : X.mg "enumerate" = none) (ha : PA X [e] ta) (hs : starEach [e] X.env = [(false, eval e X.env)]) :
    PI X (.Tuple elts kk tpos) (.Call (.Name "enumerate" p) [e] [] pos) (iEnumT X.K ta) := by
  refine ⟨fun pins s σ H R I h => ?_⟩
  refine Call_ (ld_blt I hg hm boot_enumerate (PyProof.Rows.callWith_type1 (thn (ha.run pos pins s σ H _ I h) fun us s1 ⟨vs, H1, I1, r1, q1⟩ => ?_) hs rfl))
  obtain ⟨a, xs, rfl, hq, q⟩ := q1
  cases r1 with
  | cons r rr =>
    cases rr
    cases r
    obtain ⟨its, rv, p', hz⟩ := I1.tuple hq
    have hal : a < s1.heap.objs.size := by obtain ⟨o, ho, _⟩ := p'; exact Heap.lt_size ho
    refine enum1 (begins_tuple a its.toArray) p' fun h' he hit hk => wpAny_pyIter_enum he ?_
    have I2 : Inv X pins σ H1 { s1 with heap := h' } := I1.kept (t' := s1.toks) hk
    refine ⟨s1.heap.objs.size + 1, [s1.heap.objs.size + 1, s1.heap.objs.size], _, _, H1, rfl, I2, turn_enumT a (s1.heap.objs.size + 1) s1.heap.objs.size, ⟨⟨.none, he⟩, ⟨_, hit, rfl, rfl⟩, Nat.succ_ne_self _, Nat.ne_of_lt hal, Nat.ne_of_lt (Nat.lt_succ_of_lt hal)⟩, fun b hb => ?_, q⟩
    have z : b = s1.heap.objs.size + 1 ∨ b = s1.heap.objs.size := by simpa using hb
    have hle : s1.heap.objs.size ≤ b := by rcases z with rfl | rfl <;> omega
    exact I1.fpOk hle (I1.hok.fresh hle)
/-- the signs of a text, each in a new pair -/
def IteS (x : Str) : It :=
  ⟨fun i _ => i < x.cps.size, fun i H v H' => ∃ T c, v = .ref T ∧ H T = none ∧ H' = upd H T (.tup [.int (i : Nat), .str ⟨#[c]⟩]) ∧ x.cps[i]? = some c, fun i _ => x.cps.size = i⟩
theorem turn_enumS {P : Program} {w : World} {K : PySem.W.Frag} {elts : List Expr} {kk : Nat} {tpos : Pos} (x : Str) (t : Tok) (e it : Addr) :
    Turn P w K (.Tuple elts kk tpos) (IteS x) [e, it] e (fun i h => (∃ old, IsEnum h e it ((i : Nat) : Int) old) ∧ h.IsStrIter it (strIterType x) x t i ∧ e ≠ it) where
  mem := by simp
  obj := fun i h st b hb => by
    obtain ⟨⟨old, he⟩, ⟨o, ho, _, hd⟩, _⟩ := st
    rcases (show b = e ∨ b = it by simpa using hb) with rfl | rfl
    · exact ⟨_, he, fun v q => nomatch q⟩
    · exact ⟨o, ho, fun v q => by rw [hd] at q; cases q⟩
  keep := fun i h h' st k => by
    obtain ⟨⟨old, he⟩, ⟨o, ho, r⟩, hne⟩ := st
    exact ⟨⟨old, k e (by simp) _ he⟩, ⟨o, k it (by simp) o ho, r⟩, hne⟩
  item := by
    intro X hP hw hK hc i pins s σ H E I hf st hg
    subst hP hw hK
    obtain ⟨⟨old, he⟩, hit, hne⟩ := st
    have hel : e < s.heap.objs.size := Heap.lt_size he
    have hil : it < s.heap.objs.size := let ⟨_, q, _⟩ := hit; Heap.lt_size q
    have hh : X.A.in1.handled = none := I.ok.hd hc
    refine wpAny_pyNext_enum_itemD (Draws.text (prog := X.prog) (w := X.w) hh it x t) he hit hg hne (by simp [hne]) fun y h' tk hP ho hst hT hsz hk => ?_
    obtain ⟨c, u, hcx, rfl⟩ := hP
    refine ⟨_, rfl, wpAny_letOwnedTupleGo_enum (s := { s with heap := h', toks := tk + 1 }) ho fun h2 he2 sb => ?_⟩
    have hT2 := (sb.2 _ (Nat.ne_of_gt hel)).trans hT
    have new : ObjOk X.prog X.w (upd H s.heap.objs.size (.tup [.int (i : Nat), .str ⟨#[c]⟩])) h2 s.heap.objs.size (.tup [.int (i : Nat), .str ⟨#[c]⟩]) :=
      ⟨(show 2 ≤ sizeLine by decide), [.int i tk, .str ⟨#[c]⟩ u], .cons ⟨_, rfl⟩ (.cons ⟨_, rfl⟩ .nil), ⟨_, hT2, rfl, _, rfl⟩⟩
    have I1 := I.turnedNew (t' := tk + 1) (ch := [e, it]) (fun b ob hb q => (sb.2 b (fun z => hb (by simp [z]))).trans (hk b ob (fun z => hb (by simp [z])) (fun z => hb (by simp [z])) q)) hf (Nat.le_refl _) new
    obtain ⟨oi, hoi, ri⟩ := hst
    refine ⟨.ref s.heap.objs.size, _, I1, rfl, ⟨_, c, rfl, I.hok.fresh (Nat.le_refl _), rfl, hcx⟩, ⟨⟨.str ⟨#[c]⟩ u, ?_⟩, ⟨oi, (sb.2 it (Ne.symm hne)).trans hoi, ri⟩, hne⟩, fun b hb => ?_⟩
    · rw [show ((i + 1 : Nat) : Int) = (i : Int) + 1 by omega]
      exact he2
    · have hb' : b < s.heap.objs.size := by
        rcases (show b = e ∨ b = it by simpa using hb) with rfl | rfl
        · exact hel
        · exact hil
      rw [upd_ne (Nat.ne_of_lt hb')]
      exact (hf b hb).1
  done := by
    intro X hP hw hK hc i pins s σ H E I hf st hg
    subst hP hw hK
    obtain ⟨⟨old, he⟩, hit, hne⟩ := st
    obtain ⟨f0, f1, f2, f3, f4, f5⟩ := hf it (by simp)
    have hh : X.A.in1.handled = none := I.ok.hd hc
    have hn : x.cps.size = i := hg
    subst hn
    exact wpAny_pyNext_enum_endD (Draws.text (prog := X.prog) (w := X.w) hh it x t) he hit fun h' eb => ⟨rfl, I.turned (t' := s.toks) (fun b o hb q => eb b o hb q) f0 f1 f3 f4 f5⟩
  self := fun A i s Q E st h => let ⟨⟨_, he⟩, _⟩ := st; wpAny_pyIter_enum he h
def iEnumS (ta : TA) : TI := fun σ H R => ta σ H fun vs H1 => ∃ x, vs = [.str x] ∧ R (IteS x) H1
theorem pi_enumS {X : Cx} {e : Expr} {ta : TA} {p pos tpos : Pos} {elts : List Expr} {kk : Nat} (hg : Gl X "enumerate") (hm : X.mg "enumerate" = none) (ha : PA X [e] ta) (hs : starEach [e] X.env = [(false, eval e X.env)]) :
    PI X (.Tuple elts kk tpos) (.Call (.Name "enumerate" p) [e] [] pos) (iEnumS ta) := by
  refine ⟨fun pins s σ H R I h => ?_⟩
  refine Call_ (ld_blt I hg hm boot_enumerate (PyProof.Rows.callWith_type1 (thn (ha.run pos pins s σ H _ I h) fun us s1 ⟨vs, H1, I1, r1, q1⟩ => ?_) hs rfl))
  obtain ⟨x, rfl, q⟩ := q1
  cases r1 with
  | cons r rr =>
    cases rr
    obtain ⟨t, rfl⟩ := r
    refine enum1 (begins_text x t) trivial fun h' he hit hk => wpAny_pyIter_enum he ?_
    have I2 : Inv X pins σ H1 { s1 with heap := h' } := I1.kept (t' := s1.toks) hk
    refine ⟨s1.heap.objs.size + 1, [s1.heap.objs.size + 1, s1.heap.objs.size], _, _, H1, rfl, I2, turn_enumS x t (s1.heap.objs.size + 1) s1.heap.objs.size, ⟨⟨.none, he⟩, ⟨_, hit, rfl, rfl⟩, Nat.succ_ne_self _⟩, fun b hb => ?_, q⟩
    have hle : s1.heap.objs.size ≤ b := by
      rcases (show b = s1.heap.objs.size + 1 ∨ b = s1.heap.objs.size by simpa using hb) with rfl | rfl
      · exact Nat.le_succ _
      · exact Nat.le_refl _
    exact I1.fpOk hle (I1.hok.fresh hle)
end DL

/-! DLu: operations of my own over the kit's rules: in and not in of data, a text so many times. -/
namespace DL
open PySem PySem.Spec PyProof.Rows L2
section
variable {X : Cx}
/-- x in a list or tuple of data -/
def rMem (K : PySem.W.Frag) (neg : Bool) : R2 := fun x y H Q => ∃ d ds, Dp K H x d ∧ (Dp K H y (.list ds) ∨ Dp K H y (.tuple ds)) ∧ SeqAt.shaped d = true ∧ SeqAt.shaped (.list ds) = true ∧ Q (.bl (if neg then !(ds.any fun z => PyData.eqv z d) else ds.any fun z => PyData.eqv z d)) H
theorem op_mem (hu : X.A.units + 65 < cLine) : OpR X (compareOp .In) (rMem X.K false) := by
  intro pins s σ H x y v u Q I rx ry h
  obtain ⟨d, ds, hd, he, sd, se, q⟩ := h
  obtain ⟨as, r1⟩ := Dp.reads I d x v hd rx
  have sh := SeqAt.canLay_of_shaped se
  rcases he with he | he
  · obtain ⟨bs, r2⟩ := Dp.reads I (.list ds) y u he ry
    exact SeqAt.in_list_reads r2 r1 sh (SeqAt.canLay_of_shaped sd) (room_in_shaped sd hu) ⟨.bl _, H, I, rfl, q⟩
  · obtain ⟨bs, r2⟩ := Dp.reads I (.tuple ds) y u he ry
    exact SeqAt.in_tuple_reads r2 r1 sh (SeqAt.canLay_of_shaped sd) (room_in_shaped sd hu) ⟨.bl _, H, I, rfl, q⟩
theorem op_nmem (hu : X.A.units + 65 < cLine) : OpR X (compareOp .NotIn) (rMem X.K true) := by
  intro pins s σ H x y v u Q I rx ry h
  obtain ⟨d, ds, hd, he, sd, se, q⟩ := h
  obtain ⟨as, r1⟩ := Dp.reads I d x v hd rx
  have sh := SeqAt.canLay_of_shaped se
  rcases he with he | he
  · obtain ⟨bs, r2⟩ := Dp.reads I (.list ds) y u he ry
    exact SeqAt.notIn_list_reads r2 r1 sh (SeqAt.canLay_of_shaped sd) (room_in_shaped sd hu) ⟨.bl _, H, I, rfl, q⟩
  · obtain ⟨bs, r2⟩ := Dp.reads I (.tuple ds) y u he ry
    exact SeqAt.notIn_tuple_reads r2 r1 sh (SeqAt.canLay_of_shaped sd) (room_in_shaped sd hu) ⟨.bl _, H, I, rfl, q⟩
/-- how often x stands in a list, in a tuple of data -/
def rCnt (K : PySem.W.Frag) (tup : Bool) : V → List V → Hp → VK → Prop := fun x xs H Q => ∃ y d ds, xs = [y] ∧ Dp K H y d ∧ Dp K H x (if tup then .tuple ds else .list ds) ∧ SeqAt.shaped (.list ds) = true ∧ SeqAt.shaped d = true ∧ Q (.int (ds.countP fun z => PyData.eqv z d : Nat)) H
theorem cnt_eq {h : Heap} {ds : List PyData} {its : List Value} {d : PyData} (e : its.map (SeqAt.readOf h) = ds) : (its.countP fun u => PyData.eqv (SeqAt.readOf h u) d) = ds.countP fun z => PyData.eqv z d := by
  subst e
  rw [List.countP_map]
  rfl
theorem mt_countD (hu : X.A.units + 65 < cLine) : MtR X "list.count" (rCnt X.K false) := by
  intro pins s σ H x xs v us Q I rx rxs h
  obtain ⟨y, d, ds, rfl, hy, hl, sl, sd, q⟩ := h
  rw [if_neg (by decide)] at hl
  cases rxs with
  | cons ry rt =>
    rename_i uy ut
    cases rt
    obtain ⟨bs, r1⟩ := Dp.reads I d y uy hy ry
    have hxs : PyData.canLayAll0 ds = true := SeqAt.canLay_of_shaped sl
    have hroom : X.A.units + 1 + min (PyData.depthAll ds) d.depth < cLine := room_in_shaped sd hu
    cases hl with
    | lst hs ha =>
      cases rx
      obtain ⟨its, rv, ⟨⟨cls, dd, data, sls⟩, n, ho, hc, hdn, hdt⟩, hlen⟩ := I.list hs
      simp only at hc hdt
      subst hc hdt
      obtain ⟨as, h4⟩ := Dp.readsAll I ds _ its ha rv
      have hmap : its.map (SeqAt.readOf s.heap) = ds := SeqAt.readsAll_map ds its as hxs h4
      refine call_meets PySem.F.slot_list_count ⟨_, ho, rfl⟩ PySem.F.entry_list_count (PySem.F.args_list_count_2 _ _)
        (SeqAt.list_countAt _ its.toArray n dd sls uy (fun u => PyData.eqv (SeqAt.readOf s.heap u) d)) ⟨ho, fun u hu2 => ?_, ?_⟩
      · exact SeqAt.items_eqAt (vs := its.toArray) (show ReadsAll s.heap its.toArray.toList ds as from h4) r1 hxs (SeqAt.canLay_of_shaped sd) hroom u hu2
      · have e := cnt_eq (d := d) hmap
        exact ⟨.int (ds.countP fun z => PyData.eqv z d : Nat), H, I.tok _, ⟨s.toks, by rw [← e]⟩, q⟩
theorem mt_tcountD (hu : X.A.units + 65 < cLine) : MtR X "tuple.count" (rCnt X.K true) := by
  intro pins s σ H x xs v us Q I rx rxs h
  obtain ⟨y, d, ds, rfl, hy, hl, sl, sd, q⟩ := h
  rw [if_pos rfl] at hl
  cases rxs with
  | cons ry rt =>
    rename_i uy ut
    cases rt
    obtain ⟨bs, r1⟩ := Dp.reads I d y uy hy ry
    have hxs : PyData.canLayAll0 ds = true := SeqAt.canLay_of_shaped sl
    have hroom : X.A.units + 1 + min (PyData.depthAll ds) d.depth < cLine := room_in_shaped sd hu
    cases hl with
    | tup hs ha =>
      cases rx
      obtain ⟨its, rv, ⟨⟨cls, dd, data, sls⟩, ho, hc, n, hdt⟩, hlen⟩ := I.tuple hs
      simp only at hc hdt
      subst hc hdt
      obtain ⟨as, h4⟩ := Dp.readsAll I ds _ its ha rv
      have hmap : its.map (SeqAt.readOf s.heap) = ds := SeqAt.readsAll_map ds its as hxs h4
      refine call_meets PySem.F.slot_tuple_count ⟨_, ho, rfl⟩ PySem.F.entry_tuple_count (PySem.F.args_tuple_count_2 _ _)
        (SeqAt.tuple_countAt _ its.toArray n dd sls uy (fun u => PyData.eqv (SeqAt.readOf s.heap u) d)) ⟨ho, fun u hu2 => ?_, ?_⟩
      · exact SeqAt.items_eqAt (vs := its.toArray) (show ReadsAll s.heap its.toArray.toList ds as from h4) r1 hxs (SeqAt.canLay_of_shaped sd) hroom u hu2
      · have e := cnt_eq (d := d) hmap
        exact ⟨.int (ds.countP fun z => PyData.eqv z d : Nat), H, I.tok _, ⟨s.toks, by rw [← e]⟩, q⟩
/-- a method's receiver, tuples of the heap too -/
def tyN (K : PySem.W.Frag) (T : String) (x : V) (H : Hp) : Prop := tyV K T x H ∨ (T = "tuple" ∧ ∃ p o xs, x = .ref p ∧ H p = some (.frz o (.tup xs)) ∧ o.cls = .type "tuple" ∧ o.dict = none)
theorem tyN_is {pins : List (Addr × Obj)} {σ : L2.St} {H : Hp} {s : Shared} {T : String} {x : V} {v : Value} (I : Inv X pins σ H s) (r : RelV x v) (ty : tyN X.K T x H) :
    s.TypeIs v T ∧ ∀ a, v = .ref a → ∃ ob, s.heap.get? a = some ob ∧ ob.dict = none := by
  rcases ty with ty | ⟨rfl, p, o, xs, rfl, h, hc, hd⟩
  · exact tyV_is I r ty
  · obtain ⟨e, _⟩ := I.hok p _ h
    cases r
    refine ⟨⟨o, e, hc⟩, fun a ea => ?_⟩
    cases ea
    exact ⟨o, e, hd⟩
def tBMn0 (K : PySem.W.Frag) (T : String) (r : V → List V → Hp → VK → Prop) (to : TE) : TE := fun σ H Q => to σ H fun x H1 => tyN K T x H1 ∧ r x [] H1 Q
theorem pe_bm0N {o : Expr} {to : TE} {name : Str} {apos cpos : Pos} {T id : String} {r : V → List V → Hp → VK → Prop} (pa : PlainAttrs T) (slot : Slot T name id) (hty : typeOf (.builtin id) = pure (.type "method_descriptor")) (hm : MtR X id r) (ho : PE X o to)
    (hbase : attributeBase o name X.env (eval o X.env) = eval o X.env := by rfl) (hline : (apos.endLine == cpos.line) = true := by rfl) : PE X (.Call (.Attribute o name apos) [] [] cpos) (tBMn0 X.K T r to) := by
  refine ⟨fun pins s σ H Q I h => ?_⟩
  refine wpAny_Call_method0_late hbase hline (thn (ho.run pins s σ H _ I h) fun v s1 ⟨x, H1, I1, r1, ty, q1⟩ => ?_)
  obtain ⟨h1, h2⟩ := tyN_is I1 r1 ty
  exact ⟨T, id, pa, slot, hty, h1, h2, Calls.callWith_builtin rfl (PySem.evalArgs_none (hm pins s1 σ H1 x [] v [] Q I1 r1 .nil q1))⟩
def tBMn (K : PySem.W.Frag) (T : String) (r : V → List V → Hp → VK → Prop) (to : TE) (t : TA) : TE := fun σ H Q => to σ H fun x H1 => tyN K T x H1 ∧ t σ H1 fun xs H2 => r x xs H2 Q
theorem pe_bmN {o e : Expr} {es : List Expr} {to : TE} {t : TA} {name : Str} {apos cpos : Pos} {T id : String} {r : V → List V → Hp → VK → Prop} (pa : PlainAttrs T) (slot : Slot T name id) (hty : typeOf (.builtin id) = pure (.type "method_descriptor")) (hm : MtR X id r) (ho : PE X o to) (ha : PA X (e :: es) t)
    (hbase : attributeBase o name X.env (eval o X.env) = eval o X.env := by rfl)
    (hfew : ((backTo cpos (starEach (e :: es) X.env)).all (fun x => !x.1) && (backToKw cpos (keywordEach [] X.env)).all (fun x => x.1.isSome)
      && decide ((e :: es).length + ([] : List Keyword).length + (if ([] : List Keyword).isEmpty then 0 else 1) < 30)) = true := by rfl)
    (hline : (apos.endLine == cpos.line) = true := by rfl) (hs : starEach (e :: es) X.env = (false, eval e X.env) :: starEach es X.env := by rfl) (hplain : (backTo cpos (starEach es X.env)).any (·.1) = false := by rfl) :
    PE X (.Call (.Attribute o name apos) (e :: es) [] cpos) (tBMn X.K T r to t) := by
  refine ⟨fun pins s σ H Q I h => ?_⟩
  refine wpAny_Call_method_late hbase hfew hline rfl (thn (ho.run pins s σ H _ I h) fun v s1 ⟨x, H1, I1, r1, ty, q1⟩ => ?_)
  obtain ⟨h1, h2⟩ := tyN_is I1 r1 ty
  refine ⟨T, id, pa, slot, hty, h1, h2, ?_⟩
  have hA := ha.run cpos pins s1 σ H1 _ I1 q1
  rw [hs] at hA ⊢
  refine Calls.callWith_builtin (by show (false || (backTo cpos (starEach es X.env)).any (·.1)) = false; rw [hplain] <;> rfl) (Calls.evalArgs_plain ?_)
  exact thn hA fun us s2 ⟨vs, H2, I2, r2, q2⟩ => hm pins s2 σ H2 x vs v us Q I2 r1 r2 q2
theorem rep_fold (c : Array Nat) : ∀ (k : Nat) (b : Array Nat), ((List.replicate k c).foldl (· ++ ·) b).size = b.size + k * c.size ∧ (c = #[] → (List.replicate k c).foldl (· ++ ·) b = b)
  | 0, b => ⟨by simp, fun _ => rfl⟩
  | k + 1, b => by
    rw [List.replicate_succ, List.foldl_cons]
    obtain ⟨h1, h2⟩ := rep_fold c k (b ++ c)
    refine ⟨by rw [h1, Array.size_append, Nat.succ_mul]; omega, fun e => ?_⟩
    rw [h2 e, e, Array.append_empty]
def rRepS : R2 := fun x y H Q => ∃ (a : Str) (n : Int), x = .str a ∧ y = .int n ∧ 0 ≤ n ∧ n < 16777216 ∧ a.length * n.toNat ≤ 16777216 ∧ Q (.str (strRep a n.toNat)) H
theorem op_repS : OpR X (binaryOp .Mult) rRepS := by
  intro pins s σ H x y v u Q I rx ry h
  obtain ⟨a, n, rfl, rfl, h0, h1, h2, q⟩ := h
  obtain ⟨t, rfl⟩ := rx
  obtain ⟨t', rfl⟩ := ry
  refine PySem.P.mul_str (by rw [decide_eq_false (by omega), decide_eq_false (by omega)]; rfl) (fun h3 _ => ?_) (fun h3 _ => ?_) ?_
  · intro h4
    have e : ((n.toNat : Nat) : Int) = n := by omega
    have h7 : ((a.length * n.toNat : Nat) : Int) ≤ 16777216 := by omega
    rw [Int.natCast_mul, e] at h7
    have h5 : (2 ^ 63 - 1 : Int) / n < a.length := h4
    have h6 := Int.ediv_lt_iff_lt_mul (by omega : 0 < n) |>.1 h5
    omega
  · unfold Builtin.Str.tooLong
    simp only [decide_eq_false_iff_not]
    have := sizeLine_eq
    omega
  · have sz : (strRep a n.toNat).length ≤ sizeLine := by
      have := (rep_fold a.cps n.toNat #[]).1
      rw [sizeLine_eq]
      show ((List.replicate n.toNat a.cps).foldl (· ++ ·) #[]).size ≤ _
      rw [this]
      have e : n.toNat * a.cps.size = a.length * n.toNat := Nat.mul_comm _ _
      have z : (#[] : Array Nat).size = 0 := rfl
      omega
    by_cases c1 : n < 1
    · rw [if_pos c1]
      have e : n.toNat = 0 := by omega
      rw [e] at q
      exact ⟨by decide, .str _, H, I.tok _, ⟨_, rfl⟩, q⟩
    · rw [if_neg c1]
      by_cases c2 : (n == 1 || a.length == 0) = true
      · rw [if_pos c2]
        have e : strRep a n.toNat = a := by
          rw [Bool.or_eq_true, beq_iff_eq, beq_iff_eq] at c2
          rcases c2 with c2 | c2
          · subst c2
            show (⟨#[] ++ a.cps⟩ : Str) = a
            rw [Array.empty_append]
          · have e0 : a.cps = #[] := Array.eq_empty_of_size_eq_zero c2
            show (⟨(List.replicate n.toNat a.cps).foldl (· ++ ·) #[]⟩ : Str) = a
            rw [(rep_fold a.cps n.toNat #[]).2 e0]
            cases a
            cases e0
            rfl
        rw [e] at q
        exact ⟨.str _, H, I, ⟨_, rfl⟩, q⟩
      · rw [if_neg c2]
        exact ⟨sz, .str _, H, I.tok _, ⟨_, rfl⟩, q⟩
end
/-! ### t[::-1] -/
section
variable {prog : Program} {w : World} {A : Around} {E : Value → Shared → Prop} {s : Shared}
theorem part_is {v : Value} {o : Option Int} {Q : Option Int → Shared → Prop} (p : IsPart v o) (h : Q o s) : wpAny (model prog w) A (Builtin.Slice.slicePartIndex v) Q E s := HT.slicePart_ p h
theorem adjust_rev (n : Nat) : Builtin.Slice.sliceAdjust none none (-1) (n : Int) = ((n : Int) - 1, -1) := rfl
theorem places_rev (n : Nat) : Builtin.Slice.slicePlaces ((n : Int) - 1) (-1) (-1) = n := by
  unfold Builtin.Slice.slicePlaces
  rw [if_neg (by decide)]
  by_cases h : (n : Int) - 1 > -1
  · rw [if_pos h, show (-(-1) : Int) = 1 by decide, Int.ediv_one]
    omega
  · rw [if_neg h]
    omega
theorem sliceApplied_rev {sl : Addr} {vl vu vs : Value} {n : Nat} {Q : Int × Int × Nat → Shared → Prop} (hs : s.heap.IsSliceOf sl vl vu vs) (pl : IsPart vl none) (pu : IsPart vu none) (ps : IsPart vs (some (-1))) (h : Q ((n : Int) - 1, -1, n) s) :
    wpAny (model prog w) A (Builtin.Slice.sliceApplied (.ref sl) (pure (n : Int))) Q E s := by
  obtain ⟨os, z1, z2, z3⟩ := id hs
  unfold Builtin.Slice.sliceApplied Builtin.Slice.sliceFields
  refine wpAny_bind (wpAny_bind (wpAny_field z1 z3 (x := vl) rfl (wpAny_bind (wpAny_field z1 z3 (x := vu) rfl (wpAny_bind (wpAny_field z1 z3 (x := vs) rfl (wpAny_pure ?_)))))))
  refine wpAny_bind (part_is ps ?_)
  show wpAny _ _ (if ((-1 : Int) == 0) = true then _ else _) _ _ s
  rw [if_neg (by decide)]
  refine wpAny_bind (part_is pl (wpAny_bind (part_is pu (wpAny_bind (wpAny_pure ?_)))))
  show wpAny _ _ (match Builtin.Slice.sliceAdjust none none (-1) (n : Int) with | (lo, hi) => pure (lo, (-1 : Int), Builtin.Slice.slicePlaces lo hi (-1))) _ _ s
  rw [adjust_rev n]
  show wpAny _ _ (pure ((n : Int) - 1, (-1 : Int), Builtin.Slice.slicePlaces ((n : Int) - 1) (-1) (-1))) _ _ s
  rw [places_rev]
  exact wpAny_pure h
theorem pick_rev (xs : Array Value) : ((List.range xs.size).filterMap fun (m : Nat) => xs[(((xs.size : Int) - 1) + (m : Int) * (-1)).toNat]?).toArray = xs.toList.reverse.toArray := by
  congr 1
  have e : (fun (m : Nat) => xs[(((xs.size : Int) - 1) + (m : Int) * (-1)).toNat]?) = (xs[·]?) ∘ fun m => xs.size - 1 - m := by
    funext m
    show xs[(((xs.size : Int) - 1) + (m : Int) * (-1)).toNat]? = xs[xs.size - 1 - m]?
    rw [show (((xs.size : Int) - 1) + (m : Int) * (-1)).toNat = xs.size - 1 - m by omega]
  rw [e, ← List.filterMap_map, PySem.W.krv_range, List.filterMap_reverse, PySem.W.krv_all]
theorem tuple_rev {t sl : Addr} {items : Array Value} {vl vu vs : Value} {Q : Value → Shared → Prop} (ht : IsTup s.heap t items) (hs : s.heap.IsSliceOf sl vl vu vs) (pl : IsPart vl none) (pu : IsPart vu none) (ps : IsPart vs (some (-1))) (hsz : items.size ≤ sizeLine)
    (h : Q (.ref s.heap.objs.size) { s with heap := s.heap.push { cls := .type "tuple", data := .seq items.toList.reverse.toArray } }) : wpAny (model prog w) A (getItem (.ref t) (.ref sl)) Q E s := by
  have hfit : sizeOk (.seq items.toList.reverse.toArray) := by
    show items.toList.reverse.toArray.size ≤ sizeLine
    simpa using hsz
  obtain ⟨os, z1, z2, z3⟩ := id hs
  have hTs : s.TypeIs (.ref sl) "slice" := ⟨os, z1, z2⟩
  unfold getItem
  try with_reducible refine wpAny_holding ?_
  first | refine wpAny_bind (wpAny_pure ?_) | skip
  refine wpAny_bind (wpAny_sequenceKey ht.typeIs (by decide) (wpAny_bind (wpAny_callSpecial?_slot (name := Str.ofString "__getitem__") ht.typeIs PyProof.Rows.slot_tuple_getitem
    (wpAny_call_entry PyProof.Rows.slot_tuple_getitem ht.typeIs entry_tuple_getitem ?_ (args_tuple_getitem _ _)))))
  show wpAny _ _ (Builtin.Tuple.tupleItemsOf (.ref t) >>= _) _ _ s
  refine wpAny_bind (tupleItemsOf_ ht (wpAny_bind (wpAny_typeOf hTs ?_)))
  rw [if_pos (by decide)]
  refine wpAny_bind (sliceApplied_rev hs pl pu ps ?_)
  show wpAny _ _ (if (((items.size : Int) - 1) == 0 && (-1 : Int) == 1 && items.size == items.size) = true then _ else _) _ _ s
  rw [if_neg (by rw [show ((-1 : Int) == 1) = false from rfl, Bool.and_false, Bool.false_and]; exact Bool.false_ne_true), pick_rev]
  first
    | exact wpAny_bind (m := Builtin.Tuple.tupleExact _) (wpAny_newObj_type (wpAny_pure ⟨_, rfl, wpAny_pure h⟩) hfit)
    | exact wpAny_bind (m := Builtin.Tuple.tupleExact _) (wpAny_newObj_type (wpAny_bind (wpAny_pure (wpAny_pure ⟨_, rfl, wpAny_pure h⟩))) hfit)
    | exact wpAny_bind (wpAny_bind (m := Builtin.Tuple.tupleExact _) (wpAny_newObj_type (wpAny_pure (wpAny_pure ⟨_, rfl, wpAny_pure h⟩)) hfit))
    | exact wpAny_bind (wpAny_bind (m := Builtin.Tuple.tupleExact _) (wpAny_newObj_type (wpAny_pure ⟨_, rfl, wpAny_pure h⟩) hfit))
end
section
variable {X : Cx}
/-- x[::-1] of a list, of a tuple -/
def tRev2 (K : PySem.W.Frag) (te : TE) : TE := fun σ H Q => te σ H fun x H1 => ∃ a xs, x = .ref a ∧ ((SqL K H1 a xs ∧ ∀ p, H1 p = none → Q (.ref p) (upd H1 p (.lst xs.reverse))) ∨ (SqT K H1 a xs ∧ ∀ p, H1 p = none → Q (.ref p) (upd H1 p (.tup xs.reverse))))
theorem pe_rev2 {te : TE} {e : Expr} {k : Nat} {p1 p2 p3 pos : Pos} (he : PE X e te) : PE X (.Subscript e (.Slice none none (some (.UnaryOp .USub (.Constant (.int 1) k p1) p2)) p3) pos) (tRev2 X.K te) := by
  refine ⟨fun pins s σ H Q I h => Subscript_ (thn (he.run pins s σ H _ I h) fun v s1 ⟨x, H1, I1, r1, q1⟩ => ?_)⟩
  obtain ⟨a, xs, rfl, q⟩ := q1
  cases r1
  have step : PO X (some (.UnaryOp .USub (.Constant (.int 1) k p1) p2)) (tPart (tUn (rU fun i => .int (-i)) (tC (.int 1)))) := po_some (pe_un un_neg pe_int)
  refine wpAny_Slice (thn (po_none.run pins s1 σ H1 (fun o H2 => o = none ∧ H2 = H1) I1 ⟨rfl, rfl⟩) fun vl s2 ⟨l, H2, I2, pl, z1, z2⟩ => ?_)
  subst z1 z2
  refine thn (po_none.run pins s2 σ H2 (fun o H3 => o = none ∧ H3 = H2) I2 ⟨rfl, rfl⟩) fun vu s3 ⟨u, H3, I3, pu, z1, z2⟩ => ?_
  subst z1 z2
  refine thn (step.run pins s3 σ H3 (fun o H4 => o = some (-1) ∧ H4 = H3) I3 ⟨1, rfl, -1, rfl, rfl, rfl⟩) fun vs s4 ⟨o, H4, I4, ps, z1, z2⟩ => ?_
  subst z1 z2
  have I5 : Inv X pins σ H4 { s4 with heap := s4.heap.push { cls := .type "slice", data := .fields #[vl, vu, vs] } } := I4.kept (t' := s4.toks) fun b ob z => Heap.get?_push_of_some _ z
  show wpAny (model X.prog X.w) X.A (subscriptTail e (.Slice none none (some (.UnaryOp .USub (.Constant (.int 1) k p1) p2)) p3) (.ref a) (.ref s4.heap.objs.size)) (EP X pins σ Q) X.xe _
  rcases q with ⟨hx, q⟩ | ⟨hx, q⟩
  · obtain ⟨its, r, ht, hz⟩ := I5.list hx
    have hlen := r.length
    refine tail_any (ops := [.ref a, .ref s4.heap.objs.size]) ht.isList.typeIs (PySem.slot_list_getitem.lookup) ?_ (by with_unfolding_all rfl)
    refine wpAny_getItem_list_slice ht.isList (Heap.IsSliceOf.new _ vl vu vs) pl pu ps (by decide) ?_ (by rw [List.size_toArray]; omega)
    rw [PySem.W.krv_pick]
    refine ⟨.ref _, _, I5.laid (t' := s4.toks) (o := .lst xs.reverse) (fun b ob z => Heap.get?_push_of_some _ z) (Nat.le_refl _) ?_, rfl, q _ (I5.hok.fresh (Nat.le_refl _))⟩
    exact ⟨by rw [List.length_reverse]; exact hz, _, 0, r.reverse, Heap.get?_push_size _ rfl⟩
  · obtain ⟨its, r, ht, hz⟩ := I5.tuple hx
    have hlen := r.length
    refine tail_any (ops := [.ref a, .ref s4.heap.objs.size]) ht.typeIs (PyProof.Rows.slot_tuple_getitem.lookup) ?_ (by with_unfolding_all rfl)
    refine tuple_rev ht (Heap.IsSliceOf.new _ vl vu vs) pl pu ps (by rw [List.size_toArray]; omega) ?_
    refine ⟨.ref _, _, I5.laid (t' := s4.toks) (o := .tup xs.reverse) (fun b ob z => Heap.get?_push_of_some _ z) (Nat.le_refl _) ?_, rfl, q _ (I5.hok.fresh (Nat.le_refl _))⟩
    exact ⟨by rw [List.length_reverse]; exact hz, _, r.reverse, IsTup.new _ _⟩
end
end DL

/-! DLd: expressions. -/
namespace DL
open PySem PySem.Spec PyProof.Rows L2

abbrev xE (X : Cx) (Wx : WX) (F : EF) : TE := dTE X.K X.mg Wx F
abbrev xT (X : Cx) (Wx : WX) (F : EnvD → Store → Res Bool) : TT := dTT X.K X.mg Wx F
abbrev xA (X : Cx) (Wx : WX) (F : EnvD → Store → Res (List D)) : TA := dTA X.K X.mg Wx F

section
variable {X : Cx} {Wx : WX} {Γ : Gm} {pos : Pos}

theorem pe_varD {i : Nat} {x : Str} (hN : X.N[i]? = some x) (hv : Vis X.env.scope x) (hd : (x == ("__debug__" : Str)) = false) (hcd : (x == ("__classdict__" : Str)) = false) :
    PE X (.Name x pos) (xE X Wx (sem Γ (.var i))) := PE_imp (pe_var hN hv hd hcd) fun σ H Q ⟨ρ, w, S, s, r, h⟩ => by
  simp only [sem] at h
  split at h
  · rename_i d e
    obtain ⟨v, e1, rv⟩ := r.get i d e
    exact ⟨v, e1, After.here s h v rv⟩
  · exact h.elim
theorem pe_frzD {i : Nat} {x : Str} (hN : X.N[i]? = some x) (hv : Vis X.env.scope x) (hd : (x == ("__debug__" : Str)) = false) (hcd : (x == ("__classdict__" : Str)) = false) :
    PE X (.Name x pos) (xE X Wx (sem Γ (.frz i))) := ⟨fun pins st σ H Q I ⟨ρ, w, S, s, r, h⟩ => by
  have V := pe_var (X := X) (pos := pos) hN hv hd hcd
  simp only [sem] at h
  cases e : ρ[i]? with
  | none => rw [e] at h; exact h.elim
  | some o => cases o with
    | none => rw [e] at h; exact h.elim
    | some d =>
      rw [e] at h
      obtain ⟨v, e1, rv⟩ := r.get i d e
      cases d with
      | loc n =>
        simp only [frzEv] at h
        split at h
        · rename_i xs ex
          cases rv with
          | loc hn =>
            obtain ⟨o, e2, vs, rfl, rvs⟩ := s.cell n _ ex
            have x := ext_frz s ex e2
            exact V.run pins st σ H Q I ⟨_, e1, h _ _ x _ (.lst (show upd w.G (w.m n) _ (w.m n) = _ from upd_same) (rvs.mono x.wle))⟩
        · rename_i ks ex
          cases rv with
          | loc hn =>
            obtain ⟨o, e2, ws, rfl, rks⟩ := s.cell n _ ex
            refine thn (V.run pins st σ H (fun v' H' => v' = .ref (w.m n) ∧ H' = H) I ⟨_, e1, rfl, rfl⟩) fun u s1 ⟨y, H1, I1, r1, ey, eH⟩ => ?_
            subst ey eH
            obtain ⟨od, I2⟩ := I1.lock e2 trivial
            have x := ext_frzD (od := od) s ex rks
            exact ⟨_, _, I2, r1, h _ _ x _ (.dK ⟨od, show upd w.G (w.m n) _ (w.m n) = _ from upd_same⟩ (rks.mono x.wle))⟩
        · exact h.elim
      | _ => exact V.run pins st σ H Q I ⟨v, e1, After.here s h v rv⟩⟩
theorem pe_intD {n : Int} {j} : PE X (.Constant (.int n) j pos) (xE X Wx (sem Γ (.int n))) := PE_imp pe_int fun σ H Q ⟨ρ, w, S, s, r, h⟩ => by
  simp only [sem] at h
  exact After.here s h _ (.int n)
theorem pe_strD {n : Str} {j} : PE X (.Constant (.str n) j pos) (xE X Wx (sem Γ (.str n))) := PE_imp pe_str fun σ H Q ⟨ρ, w, S, s, r, h⟩ => by
  simp only [sem] at h
  exact After.here s h _ (.str n)
theorem pe_blD {n : Bool} {j} : PE X (.Constant (.bool n) j pos) (xE X Wx (sem Γ (.bl n))) := PE_imp pe_bl fun σ H Q ⟨ρ, w, S, s, r, h⟩ => by
  simp only [sem] at h
  exact After.here s h _ (.bl n)
theorem pe_nonD {j} : PE X (.Constant .none j pos) (xE X Wx (sem Γ .non)) := PE_imp pe_non fun σ H Q ⟨ρ, w, S, s, r, h⟩ => by
  simp only [sem] at h
  exact After.here s h _ .non
theorem pe_globD {j : Nat} {x : Str} {d : D} {u : Value} {v : V} (hg : Gl X x) (hm : X.mg x = some u) (rv : RelV v u) (hd : (x == ("__debug__" : Str)) = false) (hj : Γ.glob[j]? = some d) (rd : ∀ w, Rep X.K w d v) :
    PE X (.Name x pos) (xE X Wx (sem Γ (.glob j))) := PE_imp (pe_glob hg hm rv hd) fun σ H Q ⟨ρ, w, S, s, r, h⟩ => by
  simp only [sem, hj] at h
  exact After.here s h _ (rd w)

theorem pe_fnvD {x : Str} {fa : Addr} (hg : Gl X x) (hm : X.mg x = some (.ref fa)) (hd : (x == ("__debug__" : Str)) = false) : PE X (.Name x pos) (xE X Wx (sem Γ (.fnv x))) := PE_imp (pe_glob (v := .ref fa) hg hm rfl hd) fun σ H Q ⟨ρ, w, S, s, r, h⟩ => by
  simp only [sem] at h
  exact After.here s h _ (.fn (by rw [s.fa]; exact hm))

/-! ### arguments -/
theorem pa_nilD : PA X [] (xA X Wx (semL Γ [])) := PA_imp pa_nil fun σ H Q ⟨ρ, w, S, s, r, h⟩ => by
  simp only [semL] at h
  exact After.here s h _ .nil
theorem pa_consD {e : Expr} {es : List Expr} {a : Ex} {as : List Ex} (ha : PE X e (xE X Wx (sem Γ a))) (hr : PA X es (xA X Wx (semL Γ as))) (hs : starEach (e :: es) X.env = (false, eval e X.env) :: starEach es X.env) :
    PA X (e :: es) (xA X Wx (semL Γ (a :: as))) := PA_imp (pa_cons ha hr hs) fun σ H Q ⟨ρ, w, S, s, r, h⟩ => by
  simp only [semL] at h
  refine ⟨ρ, w, S, s, r, (After.split s h).imp fun d w1 S1 H1 _ x1 ⟨_, h1⟩ v rv => ?_⟩
  refine ⟨ρ, w1, S1, x1.sim, r.mono x1.wle, (After.split x1.sim h1).imp fun ds w2 S2 H2 _ x2 ⟨_, h2⟩ vs rvs => ?_⟩
  exact After.here x2.sim h2 _ (.cons (rv.mono x2.wle) rvs)

/-! ### displays -/
theorem pe_tupD {es : List Expr} {as : List Ex} {k} (ha : PA X es (xA X Wx (semL Γ as))) : PE X (.Tuple es k pos) (xE X Wx (sem Γ (.tup as))) := PE_imp (pe_tup ha) fun σ H Q ⟨ρ, w, S, s, r, h⟩ => by
  simp only [sem] at h
  refine ⟨ρ, w, S, s, r, (After.split s h).imp fun ds w1 S1 H1 _ x1 ⟨_, h1⟩ vs rvs => ?_⟩
  split at h1
  · rename_i hl
    refine ⟨by rw [← rvs.length, sizeLine_eq]; exact of_decide_eq_true hl, fun p hp => ?_⟩
    obtain ⟨w2, q, rq⟩ := new_tup x1.sim rvs h1 p hp
    exact q _ rq
  · exact h1.elim
/-- a tuple of written items, known to have no dict -/
theorem pe_tupN {es : List Expr} {t : TA} {k} (h : PA X es t) : PE X (.Tuple es k pos) (fun σ H Q => t σ H fun xs H1 => xs.length ≤ sizeLine ∧ ∀ p o, H1 p = none → o.cls = .type "tuple" → o.dict = none → Q (.ref p) (upd H1 p (.frz o (.tup xs)))) := by
  refine ⟨fun pins s σ H Q I hq => ?_⟩
  refine wpAny_Tuple_spliced (thn (h.run pos pins s σ H _ I hq) fun us s1 ⟨xs, H1, I1, r, z, q⟩ => ⟨by rw [← r.length]; exact z, ?_⟩)
  have hf : H1 s1.heap.objs.size = none := I1.hok.fresh (Nat.le_refl _)
  refine ⟨.ref s1.heap.objs.size, upd H1 s1.heap.objs.size (.frz { cls := .type "tuple", data := .seq us.toArray } (.tup xs)), I1.laid (t' := s1.toks) (fun b u e => Heap.get?_push_of_some _ e) (Nat.le_refl _) ?_, rfl, q _ _ hf rfl rfl⟩
  exact ⟨Heap.get?_push_size _ rfl, z, us, r, IsTup.new _ _⟩
theorem pe_tupND {es : List Expr} {as : List Ex} {k} (ha : PA X es (xA X Wx (semL Γ as))) : PE X (.Tuple es k pos) (xE X Wx (sem Γ (.tupN as))) := PE_imp (pe_tupN ha) fun σ H Q ⟨ρ, w, S, s, r, h⟩ => by
  simp only [sem] at h
  refine ⟨ρ, w, S, s, r, (After.split s h).imp fun ds w1 S1 H1 _ x1 ⟨_, h1⟩ vs rvs => ?_⟩
  split at h1
  · rename_i hl
    refine ⟨by rw [← rvs.length, sizeLine_eq]; exact of_decide_eq_true hl, fun p o hp h2 h3 => ?_⟩
    exact h1 _ _ (ext_put x1.sim hp) _ (.ctp (.inr ⟨o, upd_same, h2, h3⟩) (rvs.mono (Wd.put_le (x1.sim.free hp))))
  · exact h1.elim
theorem pe_weakD {e : Expr} {a : Ex} (ha : PE X e (xE X Wx (sem Γ a))) : PE X e (xE X Wx (sem Γ (.weak a))) := PE_imp ha fun σ H Q ⟨ρ, w, S, s, r, h⟩ => by
  simp only [sem] at h
  refine ⟨ρ, w, S, s, r, (After.split s h).imp fun d w1 S1 H1 _ x1 ⟨_, h1⟩ v rv => ?_⟩
  exact After.here x1.sim h1 _ rv.weak
theorem pe_lstD {es : List Expr} {as : List Ex} {c : Bool} (ha : PA X es (xA X Wx (semL Γ as))) : PE X (.List es pos) (xE X Wx (sem Γ (.lst c as))) := PE_imp (pe_lst ha) fun σ H Q ⟨ρ, w, S, s, r, h⟩ => by
  simp only [sem] at h
  refine ⟨ρ, w, S, s, r, (After.split s h).imp fun ds w1 S1 H1 _ x1 ⟨_, h1⟩ vs rvs => ?_⟩
  obtain ⟨hl, q⟩ := new_list x1.sim rvs h1
  refine ⟨hl, fun p hp => ?_⟩
  obtain ⟨d, w', S', q1, q2⟩ := q p hp
  exact q1 _ q2

/-! ### operators -/
/-- what an operator's rule asks is answered by its meaning on data -/
def OpD (X : Cx) (Wx : WX) (r : R2) (f : D → D → Store → Res D) : Prop := ∀ (σ : L2.St) (w : Wd) (S : Store) (H : Hp) (x y : D) (v u : V) (Q : VK), Sim X.K X.mg w S H → Rep X.K w x v → Rep X.K w y u →
  After X.K X.mg Wx σ w S H (f x y S) (fun d w' _ H' => ∀ v, Rep X.K w' d v → Q v H') → r v u H Q
theorem op_two {r : R2} {f : D → D → Store → Res D} {σ : L2.St} {H : Hp} {Q : VK} {a b : Ex} (hd : OpD X Wx r f) (h : dTE X.K X.mg Wx (fun ρ S => (sem Γ a ρ S).bind fun x S1 => (sem Γ b ρ S1).bind fun y S2 => f x y S2) σ H Q) :
    tOp r (xE X Wx (sem Γ a)) (xE X Wx (sem Γ b)) σ H Q := by
  obtain ⟨ρ, w, S, s, r, h⟩ := h
  refine ⟨ρ, w, S, s, r, (After.split s h).imp fun d w1 S1 H1 _ x1 ⟨_, h1⟩ v rv => ?_⟩
  refine ⟨ρ, w1, S1, x1.sim, r.mono x1.wle, (After.split x1.sim h1).imp fun e w2 S2 H2 _ x2 ⟨_, h2⟩ u ru => ?_⟩
  exact hd σ w2 S2 H2 d e v u Q x2.sim (rv.mono x2.wle) ru h2
theorem pe_binD {op : Operator} {r : R2} {o : BOp} {c : Bool} {e e' : Expr} {a b : Ex} (ho : OpR X (binaryOp op) r) (hd : OpD X Wx r (o.ev c)) (ha : PE X e (xE X Wx (sem Γ a))) (hb : PE X e' (xE X Wx (sem Γ b))) :
    PE X (.BinOp e op e' pos) (xE X Wx (sem Γ (.bin o c a b))) := PE_imp (pe_op ho ha hb) fun σ H Q h => op_two hd (by
  obtain ⟨ρ, w, S, s, r, h⟩ := h
  simp only [sem] at h
  exact ⟨ρ, w, S, s, r, h⟩)
theorem OpD.or {r r' : R2} {f : D → D → Store → Res D} (p : D → D → Prop) (h : ∀ σ w S H x y v u Q, p x y → Sim X.K X.mg w S H → Rep X.K w x v → Rep X.K w y u →
    After X.K X.mg Wx σ w S H (f x y S) (fun d w' _ H' => ∀ v, Rep X.K w' d v → Q v H') → r v u H Q) (h' : ∀ σ w S H x y v u Q, ¬ p x y → Sim X.K X.mg w S H → Rep X.K w x v → Rep X.K w y u →
    After X.K X.mg Wx σ w S H (f x y S) (fun d w' _ H' => ∀ v, Rep X.K w' d v → Q v H') → r' v u H Q) : OpD X Wx (fun x y H Q => r x y H Q ∨ r' x y H Q) f := fun σ w S H x y v u Q s rx ry q => by
  by_cases hp : p x y
  · exact .inl (h σ w S H x y v u Q hp s rx ry q)
  · exact .inr (h' σ w S H x y v u Q hp s rx ry q)

theorem SqT_same {K : PySem.W.Frag} {G G' : Hp} {a : Addr} {vs : List V} (e : Same G G') (h : SqT K G a vs) : SqT K G' a vs := (GLe.same e).seqT h
def rAdds0 (K : PySem.W.Frag) : R2 := fun x y H Q => (((∃ i j, x = .int i ∧ y = .int j ∧ Q (.int (i + j)) H) ∨ (∃ i j, x = .str i ∧ y = .str j ∧ i.length + j.length ≤ sizeLine ∧ Q (.str (i ++ j)) H)) ∨ rCatA K x y H Q) ∨ rCat x y H Q
/-- t + u, both known to have no dict -/
def rCatN (K : PySem.W.Frag) : R2 := fun x y H Q => ∃ a b xs ys, x = .ref a ∧ y = .ref b ∧ SqT K H a xs ∧ SqT K H b ys ∧ xs.length + ys.length ≤ sizeLine ∧
  (xs = [] → Q (.ref b) H) ∧ (xs ≠ [] → ys = [] → Q (.ref a) H) ∧ (xs ≠ [] → ys ≠ [] → ∀ p o, H p = none → o.cls = .type "tuple" → o.dict = none → Q (.ref p) (upd H p (.frz o (.tup (xs ++ ys)))))
theorem op_catN : OpR X (binaryOp .Add) (rCatN X.K) := by
  intro pins s σ H x y v u Q I rx ry h
  obtain ⟨a, b, xs, ys, rfl, rfl, ha, hb, hz, q0, q1, q2⟩ := h
  by_cases hx : xs = []
  · exact op_catA pins s σ H _ _ v u Q I rx ry ⟨a, b, xs, ys, rfl, rfl, ha, hb, hz, q0, q1, fun z => absurd hx z⟩
  cases rx
  cases ry
  obtain ⟨its, r1, p1, _⟩ := I.tuple ha
  obtain ⟨its2, r2, p2, _⟩ := I.tuple hb
  have n1 : its ≠ [] := fun z => hx (r1.nil_iff.mp z)
  refine HT.cat_tup p1 p2 n1 (fun z => ⟨.ref a, H, I, rfl, q1 hx (r2.nil_iff.mp z)⟩) (fun z => ?_) (by rw [← r1.length, ← r2.length]; exact hz)
  have n2 : ys ≠ [] := fun w => z (r2.nil_iff.mpr w)
  refine ⟨.ref s.heap.objs.size, _, I.laid (t' := s.toks) (o := .frz { cls := .type "tuple", data := .seq (its ++ its2).toArray } (.tup (xs ++ ys))) (fun b ob q => Heap.get?_push_of_some _ q) (Nat.le_refl _) ?_, rfl, q2 hx n2 _ _ (I.hok.fresh (Nat.le_refl _)) rfl rfl⟩
  exact ⟨Heap.get?_push_size _ rfl, by rw [List.length_append]; exact hz, _, r1.append r2, IsTup.new _ _⟩
def rAdds (K : PySem.W.Frag) : R2 := fun x y H Q => rAdds0 K x y H Q ∨ rCatN K x y H Q
theorem op_adds : OpR X (binaryOp .Add) (rAdds X.K) := (((op_add.or op_add_str).or op_catA).or op_cat).or op_catN
theorem opd_add0 {c : Bool} {σ : L2.St} {w : Wd} {S : Store} {H : Hp} {x y : D} {v u : V} {Q : VK} (hn : ¬ ∃ xs ys, x = .ctp xs ∧ y = .ctp ys) (s : Sim X.K X.mg w S H) (rx : Rep X.K w x v) (ry : Rep X.K w y u)
    (h : After X.K X.mg Wx σ w S H (BOp.ev .add c x y S) (fun d w' _ H' => ∀ v, Rep X.K w' d v → Q v H')) : rAdds0 X.K v u H Q := by
  have lists : ∀ {x y : D}, Rep X.K w x v → Rep X.K w y u → After X.K X.mg Wx σ w S H (match x.listH? S, y.listH? S with | some xs, some ys => mkL c (xs ++ ys) S | _, _ => .bad) (fun d w' _ H' => ∀ v, Rep X.K w' d v → Q v H') → rAdds0 X.K v u H Q := fun {x y} rx ry h => by
    split at h
    · rename_i xs ys ex ey
      obtain ⟨a, vs, rfl, ha, rvs⟩ := list_atH s rx ex
      obtain ⟨b, us, rfl, hb, rus⟩ := list_atH s ry ey
      obtain ⟨hl, q⟩ := new_list s (rvs.append rus) h
      refine .inr ⟨a, b, vs, us, rfl, rfl, ha, hb, by simpa using hl, fun p hp => ?_⟩
      obtain ⟨d, w', S', q1, q2⟩ := q p hp
      exact q1 _ q2
    · exact h.elim
  unfold BOp.ev at h
  cases rx with
  | int i =>
    cases ry with
    | int j => exact .inl (.inl (.inl ⟨i, j, rfl, rfl, After.here s h _ (.int _)⟩))
    | _ => simp only [D.listH?, D.list?] at h; exact h.elim
  | str i =>
    cases ry with
    | str j =>
      simp only at h
      split at h
      · rename_i hl
        exact .inl (.inl (.inr ⟨i, j, rfl, rfl, by rw [sizeLine_eq]; exact of_decide_eq_true hl, After.here s h _ (.str _)⟩))
      · exact h.elim
    | _ => simp only [D.listH?, D.list?] at h; exact h.elim
  | tup qa ra =>
    cases ry with
    | tup qb rb =>
      simp only at h
      split at h
      · rename_i hl
        refine .inl (.inr ⟨_, _, _, _, rfl, rfl, SqT_same s.le qa, SqT_same s.le qb, ?_, fun e => ?_, fun _ e => ?_, fun _ _ p hp => ?_⟩)
        · rw [← ra.length, ← rb.length, sizeLine_eq]; exact of_decide_eq_true hl
        · subst e
          cases ra
          exact After.here s h _ (.tup qb rb)
        · subst e
          cases rb
          rw [List.append_nil] at h
          exact After.here s h _ (.tup qa ra)
        · obtain ⟨w', q1, q2⟩ := new_tup s (ra.append rb) h p hp
          exact q1 _ q2
      · exact h.elim
    | _ => simp only [D.listH?, D.list?] at h; exact h.elim
  | lst q r => exact lists (.lst q r) ry (by cases ry <;> exact h)
  | loc q => exact lists (.loc q) ry (by cases ry <;> exact h)
  | non => simp only [D.listH?, D.list?] at h; exact h.elim
  | bl b => simp only [D.listH?, D.list?] at h; exact h.elim
  | dK q r => simp only [D.listH?, D.list?] at h; exact h.elim
  | dT q r => simp only [D.listH?, D.list?] at h; exact h.elim
  | scr q => simp only [D.listH?, D.list?] at h; exact h.elim
  | ctp qa ra =>
    cases ry with
    | tup qb rb =>
      simp only at h
      split at h
      · rename_i hl
        rw [Bool.and_eq_true] at hl
        refine .inl (.inr ⟨_, _, _, _, rfl, rfl, SqT_same s.le qa.sq, SqT_same s.le qb, ?_, fun e => ?_, fun _ e => ?_, fun _ _ p hp => ?_⟩)
        · rw [← ra.length, ← rb.length, sizeLine_eq]; exact of_decide_eq_true hl.1
        · subst e
          cases ra
          exact After.here s h _ (.tup qb rb)
        · subst e
          cases rb
          exact absurd hl.2 (by decide)
        · obtain ⟨w', q1, q2⟩ := new_tup s (ra.append rb) h p hp
          exact q1 _ q2
      · exact h.elim
    | ctp qb rb => exact absurd ⟨_, _, rfl, rfl⟩ hn
    | _ => simp only [D.listH?, D.list?] at h; exact h.elim
  | fn q => simp only [D.listH?, D.list?] at h; exact h.elim
  | exn0 _ _ _ => simp only [D.listH?, D.list?] at h; exact h.elim
  | exn _ _ _ _ _ => simp only [D.listH?, D.list?] at h; exact h.elim

theorem opd_add {c : Bool} : OpD X Wx (rAdds X.K) (BOp.ev .add c) := fun σ w S H x y v u Q s rx ry h => by
  by_cases hn : ∃ xs ys, x = .ctp xs ∧ y = .ctp ys
  · obtain ⟨xs, ys, rfl, rfl⟩ := hn
    cases rx with
    | ctp qa ra =>
      cases ry with
      | ctp qb rb =>
        unfold BOp.ev at h
        simp only at h
        split at h
        · rename_i hl
          refine .inr ⟨_, _, _, _, rfl, rfl, SqT_same s.le qa.sq, SqT_same s.le qb.sq, ?_, fun e => ?_, fun _ e => ?_, fun _ _ p o hp h1 h2 => ?_⟩
          · rw [← ra.length, ← rb.length, sizeLine_eq]; exact of_decide_eq_true hl
          · subst e
            cases ra
            exact After.here s h _ (.ctp qb rb)
          · subst e
            cases rb
            rw [List.append_nil] at h
            exact After.here s h _ (.ctp qa ra)
          · exact h _ _ (ext_put s hp) _ (.ctp (.inr ⟨o, upd_same, h1, h2⟩) ((ra.append rb).mono (Wd.put_le (s.free hp))))
        · exact h.elim
  · exact .inl (opd_add0 hn s rx ry h)
theorem opd_sub {c : Bool} : OpD X Wx (rI0 fun i j => .int (i - j)) (BOp.ev .sub c) := fun σ w S H x y v u Q s rx ry h => by
  unfold BOp.ev at h
  cases rx <;> cases ry <;> first
    | exact ⟨_, _, rfl, rfl, After.here s h _ (.int _)⟩
    | exact h.elim
theorem log2_64 {j : Int} (h0 : 0 < j) (h1 : j < 18446744073709551616) : j.natAbs.log2 < 9000 := by
  have h : j.natAbs ≠ 0 := by omega
  have : j.natAbs.log2 < 64 := (Nat.log2_lt h).2 (by omega)
  omega
theorem opd_fdiv {c : Bool} : OpD X Wx (rI CDivW fun i j => .int (i / j)) (BOp.ev .fdiv c) := fun σ w S H x y v u Q s rx ry h => by
  unfold BOp.ev at h
  cases rx <;> cases ry <;> first
    | (simp only at h
       split at h
       · rename_i hc
         exact ⟨_, _, rfl, rfl, ⟨hc.1, log2_64 hc.1 hc.2⟩, After.here s h _ (.int _)⟩
       · exact h.elim)
    | exact h.elim
theorem opd_mod {c : Bool} : OpD X Wx (rI (fun _ j => 0 < j) fun i j => .int (i % j)) (BOp.ev .mod c) := fun σ w S H x y v u Q s rx ry h => by
  unfold BOp.ev at h
  cases rx <;> cases ry <;> first
    | (simp only at h
       split at h
       · rename_i hc
         exact ⟨_, _, rfl, rfl, hc, After.here s h _ (.int _)⟩
       · exact h.elim)
    | exact h.elim
theorem opd_pow {c : Bool} : OpD X Wx (rI CPow fun i j => .int (i ^ j.toNat)) (BOp.ev .pow c) := fun σ w S H x y v u Q s rx ry h => by
  unfold BOp.ev at h
  cases rx <;> cases ry <;> first
    | (simp only at h
       split at h
       · rename_i hc
         exact ⟨_, _, rfl, rfl, hc, After.here s h _ (.int _)⟩
       · exact h.elim)
    | exact h.elim
theorem opd_shl {c : Bool} : OpD X Wx (rI CPow fun i j => .int (i * 2 ^ j.toNat)) (BOp.ev .shl c) := fun σ w S H x y v u Q s rx ry h => by
  unfold BOp.ev at h
  cases rx <;> cases ry <;> first
    | (simp only at h
       split at h
       · rename_i hc
         exact ⟨_, _, rfl, rfl, hc, After.here s h _ (.int _)⟩
       · exact h.elim)
    | exact h.elim
def rMuls : R2 := fun x y H Q => ((∃ i j, x = .int i ∧ y = .int j ∧ CMul i j ∧ Q (.int (i * j)) H) ∨ rRep x y H Q) ∨ rRepS x y H Q
theorem op_muls : OpR X (binaryOp .Mult) rMuls := (op_mul.or op_rep).or op_repS
theorem Reps.rep {K : PySem.W.Frag} {w : Wd} {xs : List D} {vs : List V} (h : Reps K w xs vs) : ∀ k : Nat, Reps K w (List.replicate k xs).flatten (List.replicate k vs).flatten
  | 0 => .nil
  | k + 1 => by
    rw [List.replicate_succ, List.replicate_succ, List.flatten_cons, List.flatten_cons]
    exact h.append (Reps.rep h k)
theorem opd_mul {c : Bool} : OpD X Wx rMuls (BOp.ev .mul c) := fun σ w S H x y v u Q s rx ry h => by
  have lists : ∀ {x : D} {k : Int}, Rep X.K w x v → u = .int k → After X.K X.mg Wx σ w S H (match x.listH? S with | some xs => if -9223372036854775808 ≤ k ∧ k < 9223372036854775808 then mkL c (List.replicate k.toNat xs).flatten S else .bad | _ => .bad)
      (fun d w' _ H' => ∀ v, Rep X.K w' d v → Q v H') → rMuls v u H Q := fun {x k} rx e h => by
    split at h
    · rename_i xs ex
      split at h
      · rename_i hk
        obtain ⟨a, vs, rfl, ha, rvs⟩ := list_atH s rx ex
        obtain ⟨hl, q⟩ := new_list s (rvs.rep k.toNat) h
        refine .inl (.inr ⟨a, k, vs, rfl, e, ha, hk.1, hk.2, ?_, fun p hp => ?_⟩)
        · simpa [Nat.mul_comm] using hl
        · obtain ⟨d, w', S', q1, q2⟩ := q p hp
          exact q1 _ q2
      · exact h.elim
    · exact h.elim
  unfold BOp.ev at h
  cases ry with
  | int k =>
    cases rx with
    | int i =>
      simp only at h
      split at h
      · rename_i hc
        exact .inl (.inl ⟨_, _, rfl, rfl, hc, After.here s h _ (.int _)⟩)
      · exact h.elim
    | str z =>
      simp only at h
      split at h
      · rename_i hc
        exact .inr ⟨_, _, rfl, rfl, hc.1, hc.2.1, hc.2.2, After.here s h _ (.str _)⟩
      · exact h.elim
    | lst q r => exact lists (.lst q r) rfl h
    | loc q => exact lists (.loc q) rfl h
    | _ => exact h.elim
  | _ => cases rx <;> exact h.elim
theorem pe_negD {e : Expr} {a : Ex} (ha : PE X e (xE X Wx (sem Γ a))) : PE X (.UnaryOp .USub e pos) (xE X Wx (sem Γ (.neg a))) := PE_imp (pe_un un_neg ha) fun σ H Q ⟨ρ, w, S, s, r, h⟩ => by
  simp only [sem] at h
  refine ⟨ρ, w, S, s, r, (After.split s h).imp fun d w1 S1 H1 _ x1 ⟨_, h1⟩ v rv => ?_⟩
  cases rv with
  | int i => exact ⟨i, rfl, After.here x1.sim h1 _ (.int _)⟩
  | _ => exact h1.elim

/-! ### comparisons -/
mutual
theorem Dp_of {K : PySem.W.Frag} {w : Wd} {G : Hp} (e : Same w.G G) : ∀ {d : D} {v : V} {p : PyData}, Rep K w d v → d.toP = some p → Dp K G v p
  | _, _, _, .non, h => by cases h; exact .non
  | _, _, _, .bl b, h => by cases h; exact .bl b
  | _, _, _, .int b, h => by cases h; exact .int b
  | _, _, _, .str b, h => by cases h; exact .str b
  | _, _, _, .tup q r, h => by
    simp only [D.toP] at h
    split at h
    · rename_i ys ey
      cases h
      exact .tup (SqT_same e q) (DpAll_of e r ey)
    · cases h
  | _, _, _, .lst q r, h => by
    simp only [D.toP] at h
    split at h
    · rename_i ys ey
      cases h
      exact .lst (.of (e _ _ q)) (DpAll_of e r ey)
    · cases h
  | _, _, _, .dK _ _, h => by cases h
  | _, _, _, .dT _ _, h => by cases h
  | _, _, _, .loc _, h => by cases h
  | _, _, _, .scr _, h => by cases h
  | _, _, _, .ctp _ _, h => by cases h
  | _, _, _, .fn _, h => by cases h
  | _, _, _, .exn0 _ _ _, h => by cases h
  | _, _, _, .exn _ _ _ _ _, h => by cases h
theorem DpAll_of {K : PySem.W.Frag} {w : Wd} {G : Hp} (e : Same w.G G) : ∀ {d : List D} {v : List V} {p : List PyData}, Reps K w d v → D.toPs d = some p → DpAll K G v p
  | _, _, _, .nil, h => by cases h; exact .nil
  | _, _, _, .cons q r, h => by
    simp only [D.toPs] at h
    split at h
    · rename_i y s e1 e2
      cases h
      exact .cons (Dp_of e q e1) (DpAll_of e r e2)
    · cases h
end
theorem Dp_ofS {K : PySem.W.Frag} {mg : Str → Option Value} {w : Wd} {S : Store} {H : Hp} (s : Sim K mg w S H) {d : D} {v : V} {p : PyData} (r : Rep K w d v) (h : d.toPS S = some p) : Dp K H v p := by
  cases r with
  | loc hn =>
    simp only [D.toPS] at h
    split at h
    · rename_i xs e
      split at h
      · rename_i ys ey
        cases h
        obtain ⟨o, e1, vs, rfl, r⟩ := s.cell _ _ e
        exact .lst (.of e1) (DpAll_of s.le r ey)
      · cases h
    · cases h
  | _ => exact Dp_of s.le (by constructor <;> assumption) h
def rEqS (K : PySem.W.Frag) : R2 := fun x y H Q => rEqD K x y H Q ∨ rEq x y H Q
theorem opd_eq : OpD X Wx (rEqS X.K) (COp.ev .eq) := fun σ w S H x y v u Q s rx ry h => by
  unfold COp.ev at h
  simp only at h
  have main : After X.K X.mg Wx σ w S H (match x.toPS S, y.toPS S with | some p, some q => if SeqAt.shaped p && SeqAt.shaped q then .ok (.bl (PyData.eqv p q)) S else .bad | _, _ => .bad) (fun d w' _ H' => ∀ v, Rep X.K w' d v → Q v H') → rEqS X.K v u H Q := fun h => by
    split at h
    · rename_i p q ep eq
      split at h
      · rename_i hs
        rw [Bool.and_eq_true] at hs
        exact .inl ⟨p, q, Dp_ofS s rx ep, Dp_ofS s ry eq, hs.1, hs.2, After.here s h _ (.bl _)⟩
      · exact h.elim
    · exact h.elim
  cases x with
  | str a =>
    cases y with
    | str b =>
      cases rx
      cases ry
      refine .inr ⟨rfl, ?_⟩
      rw [show decide (V.str a = V.str b) = decide (a = b) by simp]
      exact After.here s h _ (.bl _)
    | _ => exact main h
  | _ => exact main h
def rNeS (K : PySem.W.Frag) : R2 := fun x y H Q => rNeD K x y H Q ∨ rNe x y H Q
theorem opd_ne : OpD X Wx (rNeS X.K) (COp.ev .ne) := fun σ w S H x y v u Q s rx ry h => by
  unfold COp.ev at h
  simp only at h
  have main : After X.K X.mg Wx σ w S H (match x.toPS S, y.toPS S with | some p, some q => if SeqAt.shaped p && SeqAt.shaped q then .ok (.bl (!PyData.eqv p q)) S else .bad | _, _ => .bad) (fun d w' _ H' => ∀ v, Rep X.K w' d v → Q v H') → rNeS X.K v u H Q := fun h => by
    split at h
    · rename_i p q ep eq
      split at h
      · rename_i hs
        rw [Bool.and_eq_true] at hs
        exact .inl ⟨p, q, Dp_ofS s rx ep, Dp_ofS s ry eq, hs.1, hs.2, After.here s h _ (.bl _)⟩
      · exact h.elim
    · exact h.elim
  cases x with
  | str a =>
    cases y with
    | str b =>
      cases rx
      cases ry
      refine .inr ⟨rfl, ?_⟩
      rw [show decide (V.str a = V.str b) = decide (a = b) by simp]
      exact After.here s h _ (.bl _)
    | _ => exact main h
  | _ => exact main h
def rLtS : R2 := fun x y H Q => (rI0 fun i j => .bl (decide (i < j))) x y H Q ∨ ∃ i j, x = .str i ∧ y = .str j ∧ Q (.bl (decide (i.cps.toList < j.cps.toList))) H
theorem opd_lt : OpD X Wx rLtS (COp.ev .lt) := fun σ w S H x y v u Q s rx ry h => by
  unfold COp.ev at h
  cases rx <;> cases ry <;> first
    | exact .inl ⟨_, _, rfl, rfl, After.here s h _ (.bl _)⟩
    | exact .inr ⟨_, _, rfl, rfl, After.here s h _ (.bl _)⟩
    | exact h.elim
theorem opd_le : OpD X Wx (rI0 fun i j => .bl (decide (i ≤ j))) (COp.ev .le) := fun σ w S H x y v u Q s rx ry h => by
  unfold COp.ev at h
  cases rx <;> cases ry <;> first
    | exact ⟨_, _, rfl, rfl, After.here s h _ (.bl _)⟩
    | exact h.elim
theorem opd_gt : OpD X Wx (rI0 fun i j => .bl (decide (j < i))) (COp.ev .gt) := fun σ w S H x y v u Q s rx ry h => by
  unfold COp.ev at h
  cases rx <;> cases ry <;> first
    | exact ⟨_, _, rfl, rfl, After.here s h _ (.bl _)⟩
    | exact h.elim
theorem opd_ge : OpD X Wx (rI0 fun i j => .bl (decide (j ≤ i))) (COp.ev .ge) := fun σ w S H x y v u Q s rx ry h => by
  unfold COp.ev at h
  cases rx <;> cases ry <;> first
    | exact ⟨_, _, rfl, rfl, After.here s h _ (.bl _)⟩
    | exact h.elim
def rInn (K : PySem.W.Frag) : R2 := fun x y H Q => rMem K false x y H Q ∨ (∃ (c : Nat) (z : Str), x = .str ⟨#[c]⟩ ∧ y = .str z ∧ Q (.bl (decide (c ∈ z.cps.toList))) H)
def rNin (K : PySem.W.Frag) : R2 := fun x y H Q => rMem K true x y H Q ∨ (∃ (c : Nat) (z : Str), x = .str ⟨#[c]⟩ ∧ y = .str z ∧ Q (.bl (!decide (c ∈ z.cps.toList))) H)
theorem seqP_at {w : Wd} {S : Store} {H : Hp} {y : D} {u : V} {ps : List PyData} (s : Sim X.K X.mg w S H) (ry : Rep X.K w y u) (h : seqP S y = some ps) : Dp X.K H u (.list ps) ∨ Dp X.K H u (.tuple ps) := by
  unfold seqP at h
  split at h
  · cases ry with
    | tup q r => exact .inr (.tup (SqT_same s.le q) (DpAll_of s.le r h))
  · cases ry with
    | ctp q r => exact .inr (.tup (SqT_same s.le q.sq) (DpAll_of s.le r h))
  · split at h
    · rename_i e
      cases h
      exact .inl (Dp_ofS s ry e)
    · cases h
theorem mem_at {w : Wd} {S : Store} {H : Hp} {x y : D} {v u : V} {b : Bool} (s : Sim X.K X.mg w S H) (rx : Rep X.K w x v) (ry : Rep X.K w y u) (h : memEv x y S = some b) :
    (∃ d ds, Dp X.K H v d ∧ (Dp X.K H u (.list ds) ∨ Dp X.K H u (.tuple ds)) ∧ SeqAt.shaped d = true ∧ SeqAt.shaped (.list ds) = true ∧ b = ds.any fun z => PyData.eqv z d) ∨ ∃ (c : Nat) (z : Str), v = .str ⟨#[c]⟩ ∧ u = .str z ∧ b = decide (c ∈ z.cps.toList) := by
  unfold memEv at h
  split at h
  · split at h
    · split at h
      · rename_i c _ k e
        cases h
        cases rx
        cases ry
        refine .inr ⟨k, _, ?_, rfl, rfl⟩
        have : c.cps = #[k] := by rw [← Array.toList_inj, e]
        cases c
        cases this
        rfl
      · cases h
    · cases h
  · split at h
    · rename_i ps p e1 e2
      split at h
      · rename_i hs
        cases h
        rw [Bool.and_eq_true] at hs
        exact .inl ⟨p, ps, Dp_ofS s rx e2, seqP_at s ry e1, hs.1, hs.2, rfl⟩
      · cases h
    · cases h
theorem opd_inn : OpD X Wx (rInn X.K) (COp.ev .inn) := fun σ w S H x y v u Q s rx ry h => by
  unfold COp.ev at h
  simp only at h
  split at h
  · rename_i b e
    rcases mem_at s rx ry e with ⟨d, ds, h1, h2, h3, h4, rfl⟩ | ⟨c, z, h1, h2, rfl⟩
    · exact .inl ⟨d, ds, h1, h2, h3, h4, After.here s h _ (.bl _)⟩
    · exact .inr ⟨c, z, h1, h2, After.here s h _ (.bl _)⟩
  · exact h.elim
theorem opd_nin : OpD X Wx (rNin X.K) (COp.ev .nin) := fun σ w S H x y v u Q s rx ry h => by
  unfold COp.ev at h
  simp only at h
  split at h
  · rename_i b e
    rcases mem_at s rx ry e with ⟨d, ds, h1, h2, h3, h4, rfl⟩ | ⟨c, z, h1, h2, rfl⟩
    · exact .inl ⟨d, ds, h1, h2, h3, h4, After.here s h _ (.bl _)⟩
    · exact .inr ⟨c, z, h1, h2, After.here s h _ (.bl _)⟩
  · exact h.elim
/-- the operator of a sign, its rule -/
def COp.op : COp → CmpOp
  | .eq => .Eq | .ne => .NotEq | .lt => .Lt | .le => .LtE | .gt => .Gt | .ge => .GtE | .isN => .Is | .notN => .IsNot | .inn => .In | .nin => .NotIn | .isB => .Is | .notB => .IsNot
/-- is, of two truths -/
theorem opd_isB : OpD X Wx rIsB (COp.ev .isB) := fun σ w S H x y v u Q s rx ry h => by
  unfold COp.ev at h
  cases rx <;> cases ry <;> first
    | exact ⟨_, _, rfl, rfl, After.here s h _ (.bl _)⟩
    | exact h.elim
theorem opd_notB : OpD X Wx rNotB (COp.ev .notB) := fun σ w S H x y v u Q s rx ry h => by
  unfold COp.ev at h
  cases rx <;> cases ry <;> first
    | exact ⟨_, _, rfl, rfl, After.here s h _ (.bl _)⟩
    | exact h.elim
/-- where an operator has a rule -/
theorem cop_rule (hu : X.A.units + 65 < cLine) : ∀ o : COp, o ≠ .isN → o ≠ .notN → ∃ r, OpR X (compareOp o.op) r ∧ OpD X Wx r o.ev
  | .eq, _, _ => ⟨_, (op_eqD (by omega)).or op_eq, opd_eq⟩
  | .ne, _, _ => ⟨_, (op_neD (by omega)).or op_ne, opd_ne⟩
  | .lt, _, _ => ⟨_, op_lt.or op_lt_str, opd_lt⟩
  | .le, _, _ => ⟨_, op_le, opd_le⟩
  | .gt, _, _ => ⟨_, op_gt, opd_gt⟩
  | .ge, _, _ => ⟨_, op_ge, opd_ge⟩
  | .isN, h, _ => absurd rfl h
  | .notN, _, h => absurd rfl h
  | .inn, _, _ => ⟨_, (op_mem hu).or op_in_sign, opd_inn⟩
  | .nin, _, _ => ⟨_, (op_nmem hu).or op_notIn_sign, opd_nin⟩
  | .isB, _, _ => ⟨_, op_isBl, opd_isB⟩
  | .notB, _, _ => ⟨_, op_notBl, opd_notB⟩
theorem cmp_sem {σ : L2.St} {H : Hp} {Q : VK} {o : COp} {a b : Ex} (h : xE X Wx (sem Γ (.cmp o a b)) σ H Q) : dTE X.K X.mg Wx (fun ρ S => (sem Γ a ρ S).bind fun x S1 => (sem Γ b ρ S1).bind fun y S2 => o.ev x y S2) σ H Q := by
  obtain ⟨ρ, w, S, s, r, h⟩ := h
  simp only [sem] at h
  exact ⟨ρ, w, S, s, r, h⟩
theorem pe_cmpD {r : R2} {o : COp} {e e' : Expr} {a b : Ex} (ho : OpR X (compareOp o.op) r) (hd : OpD X Wx r o.ev) (ha : PE X e (xE X Wx (sem Γ a))) (hb : PE X e' (xE X Wx (sem Γ b))) (hm : behindInMarks o.op e' = false) :
    PE X (.Compare e [o.op] [e'] pos) (xE X Wx (sem Γ (.cmp o a b))) := PE_imp (pe_cmpR ho ha hb hm) fun σ H Q h => op_two hd (cmp_sem h)
/-- as a test: from the reading of a value -/
theorem tt_of {F : EF} {t : TE} (hi : ∀ σ H Q, xE X Wx F σ H Q → t σ H Q) {σ : L2.St} {H : Hp} {Q : Bool → Hp → Prop} (h : xT X Wx (fun ρ S => asBl (F ρ S)) σ H Q) : tTest t σ H Q := by
  obtain ⟨ρ, w, S, s, r, h⟩ := h
  refine hi σ H _ ⟨ρ, w, S, s, r, ?_⟩
  simp only at h
  cases e : F ρ S with
  | ok d S' =>
    rw [e] at h
    cases d with
    | bl b =>
      intro w' H' x v rv
      cases rv
      exact ⟨b, rfl, h w' H' x⟩
    | _ => exact h.elim
  | exc x S' =>
    rw [e] at h
    exact h
  | bad =>
    rw [e] at h
    exact h
theorem pt_cmpD {r : R2} {o : COp} {e e' : Expr} {a b : Ex} (ho : OpR X (compareOp o.op) r) (hd : OpD X Wx r o.ev) (ha : PE X e (xE X Wx (sem Γ a))) (hb : PE X e' (xE X Wx (sem Γ b))) (hm : behindInMarks o.op e' = false) :
    PT X (.Compare e [o.op] [e'] pos) (xT X Wx (fun ρ S => asBl (sem Γ (.cmp o a b) ρ S))) := PT_imp (pt_cmpR ho ha hb hm) fun σ H Q h => tt_of (F := sem Γ (.cmp o a b)) (fun σ H Q h => op_two hd (cmp_sem h)) h
/-- an expression of any kind as a test -/
theorem pt_valD {e : Expr} {a : Ex} (ha : PE X e (xE X Wx (sem Γ a))) (he : ∀ whole, isTrue e X.env whole = (do let v ← whole; standAt e.pos; holding [v] (truthy v))) :
    PT X e (xT X Wx (fun ρ S => asBl (sem Γ a ρ S))) := PT_imp (pt_val ha he) fun σ H Q h => tt_of (F := sem Γ a) (fun _ _ _ h => h) h
/-- is None -/
theorem isN_ev {x y : D} {S : Store} {v : V} {K : PySem.W.Frag} {w : Wd} (r : Rep K w x v) : COp.ev .isN x y S = .ok (.bl (decide (v = .non))) S := by
  cases r <;> simp [COp.ev]
theorem notN_ev {x y : D} {S : Store} {v : V} {K : PySem.W.Frag} {w : Wd} (r : Rep K w x v) : COp.ev .notN x y S = .ok (.bl (!decide (v = .non))) S := by
  cases r <;> simp [COp.ev]
theorem isN_sem {σ : L2.St} {H : Hp} {Q : VK} {a : Ex} (h : xE X Wx (sem Γ (.cmp .isN a .non)) σ H Q) : tIsN (xE X Wx (sem Γ a)) σ H Q := by
  obtain ⟨ρ, w, S, s, r, h⟩ := h
  simp only [sem] at h
  refine ⟨ρ, w, S, s, r, (After.split s h).imp fun d w1 S1 H1 _ x1 ⟨_, h1⟩ v rv => ?_⟩
  rw [Res.ok_bind, isN_ev rv] at h1
  exact After.here x1.sim h1 _ (.bl _)
theorem notN_sem {σ : L2.St} {H : Hp} {Q : VK} {a : Ex} (h : xE X Wx (sem Γ (.cmp .notN a .non)) σ H Q) : tNotN (xE X Wx (sem Γ a)) σ H Q := by
  obtain ⟨ρ, w, S, s, r, h⟩ := h
  simp only [sem] at h
  refine ⟨ρ, w, S, s, r, (After.split s h).imp fun d w1 S1 H1 _ x1 ⟨_, h1⟩ v rv => ?_⟩
  rw [Res.ok_bind, notN_ev rv] at h1
  exact After.here x1.sim h1 _ (.bl _)
theorem tB_test {t : TE} {σ : L2.St} {H : Hp} {Q : Bool → Hp → Prop} (h : tTest t σ H Q) : tB t σ H Q := h
theorem pe_isND {e : Expr} {a : Ex} {j pos'} (ha : PE X e (xE X Wx (sem Γ a))) : PE X (.Compare e [.Is] [.Constant .none j pos'] pos) (xE X Wx (sem Γ (.cmp .isN a .non))) := PE_imp (pe_cmp (pc_isN ha)) fun σ H Q h => isN_sem h
theorem pe_notND {e : Expr} {a : Ex} {j pos'} (ha : PE X e (xE X Wx (sem Γ a))) : PE X (.Compare e [.IsNot] [.Constant .none j pos'] pos) (xE X Wx (sem Γ (.cmp .notN a .non))) := PE_imp (pe_cmp (pc_notN ha)) fun σ H Q h => notN_sem h
theorem pt_isND {e : Expr} {a : Ex} {j pos'} (ha : PE X e (xE X Wx (sem Γ a))) : PT X (.Compare e [.Is] [.Constant .none j pos'] pos) (xT X Wx (fun ρ S => asBl (sem Γ (.cmp .isN a .non) ρ S))) :=
  PT_imp (pt_cmp (pc_isN ha)) fun σ H Q h => tB_test (tt_of (F := sem Γ (.cmp .isN a .non)) (fun _ _ _ h => isN_sem h) h)
theorem pt_notND {e : Expr} {a : Ex} {j pos'} (ha : PE X e (xE X Wx (sem Γ a))) : PT X (.Compare e [.IsNot] [.Constant .none j pos'] pos) (xT X Wx (fun ρ S => asBl (sem Γ (.cmp .notN a .non) ρ S))) :=
  PT_imp (pt_cmp (pc_notN ha)) fun σ H Q h => tB_test (tt_of (F := sem Γ (.cmp .notN a .non)) (fun _ _ _ h => notN_sem h) h)
/-- a chain -/
theorem chain_sem {r r' : R2} {o o' : COp} {σ : L2.St} {H : Hp} {Q : VK} {a b c : Ex} (hd : OpD X Wx r o.ev) (hd' : OpD X Wx r' o'.ev) (h : xE X Wx (sem Γ (.chain o o' a b c)) σ H Q) :
    tChain r r' (xE X Wx (sem Γ a)) (xE X Wx (sem Γ b)) (xE X Wx (sem Γ c)) σ H Q := by
  obtain ⟨ρ, w, S, s, r, h⟩ := h
  simp only [sem] at h
  refine ⟨ρ, w, S, s, r, (After.split s h).imp fun d w1 S1 H1 _ x1 ⟨_, h1⟩ v rv => ?_⟩
  refine ⟨ρ, w1, S1, x1.sim, r.mono x1.wle, (After.split x1.sim h1).imp fun e w2 S2 H2 _ x2 ⟨_, h2⟩ u ru => ?_⟩
  have r2 := r.mono (x1.wle.trans x2.wle)
  refine hd σ w2 S2 H2 d e v u _ x2.sim (rv.mono x2.wle) ru ?_
  cases eo : o.ev d e S2 with
  | ok z S3 =>
    rw [eo] at h2
    cases z with
    | bl k =>
      intro w3 H3 x3 z' rz
      cases rz
      refine ⟨k, rfl, ?_⟩
      have h3 := After.move x2.sim x3 h2
      simp only [asBl, Res.ok_bind] at h3
      cases k with
      | true =>
        rw [if_pos rfl] at h3 ⊢
        refine ⟨ρ, w3, S3, x3.sim, r2.mono x3.wle, (After.split x3.sim h3).imp fun f w4 S4 H4 _ x4 ⟨_, h4⟩ t rt => ?_⟩
        exact hd' σ w4 S4 H4 e f u t Q x4.sim (ru.mono (x3.wle.trans x4.wle)) rt h4
      | false =>
        rw [if_neg (by decide)] at h3 ⊢
        exact After.here x3.sim h3 _ (.bl _)
    | _ => exact h2.elim
  | exc x S3 =>
    rw [eo] at h2
    exact h2
  | bad =>
    rw [eo] at h2
    exact h2
theorem pe_chainD {r r' : R2} {o o' : COp} {e e' e2 : Expr} {a b c : Ex} (ho : OpR X (compareOp o.op) r) (hd : OpD X Wx r o.ev) (ho' : OpR X (compareOp o'.op) r') (hd' : OpD X Wx r' o'.ev) (ha : PE X e (xE X Wx (sem Γ a))) (hb : PE X e' (xE X Wx (sem Γ b))) (hc : PE X e2 (xE X Wx (sem Γ c)))
    (hm : lastMarks [o.op, o'.op] [e', e2] = false) : PE X (.Compare e [o.op, o'.op] [e', e2] pos) (xE X Wx (sem Γ (.chain o o' a b c))) := PE_imp (pe_chain ho ho' ha hb hc hm) fun σ H Q h => chain_sem hd hd' h
theorem pt_chainD {r r' : R2} {o o' : COp} {e e' e2 : Expr} {a b c : Ex} (ho : OpR X (compareOp o.op) r) (hd : OpD X Wx r o.ev) (ho' : OpR X (compareOp o'.op) r') (hd' : OpD X Wx r' o'.ev) (ha : PE X e (xE X Wx (sem Γ a))) (hb : PE X e' (xE X Wx (sem Γ b))) (hc : PE X e2 (xE X Wx (sem Γ c)))
    (hm : lastMarks [o.op, o'.op] [e', e2] = false) : PT X (.Compare e [o.op, o'.op] [e', e2] pos) (xT X Wx (fun ρ S => asBl (sem Γ (.chain o o' a b c) ρ S))) :=
  PT_imp (pt_chain ho ho' ha hb hc hm) fun σ H Q h => tt_of (F := sem Γ (.chain o o' a b c)) (fun _ _ _ h => chain_sem hd hd' h) h
end
end DL

/-! DLga: defs that are called while nothing is being shown (repr asks for that). -/
namespace DL
open PySem PySem.Spec PyProof.Rows L2
/-- nothing is being shown -/
def Clr (A : Around) : Prop := A.guards = some []
theorem Clr.deeper {A : Around} (h : Clr A) (env : Env) : Clr (A.deeper env) := h
/-- as FnOk, for calls where nothing is being shown -/
structure FnG (P : Program) (w : World) (K : PySem.W.Frag) (mg : Str → Option Value) (base : Heap) (k : Nat) (f : Addr) (fd : FuncData) (ps : List Str) (sp : Sp) : Prop where
  len : ∀ vs H Q E, sp vs H Q E → vs.length = ps.length
  go : ∀ (A : Around) (fr : List Env) (s : Shared) (H : Hp) (ar : Args) (us : List Value) (vs : List V) (Q : VK) (E : XK),
    Clr A → Room k A → Env0 P w K mg base A fr s H → BindsTo s fd ar (ps.zip us) → Vals vs us → sp vs H Q E → codeAny (model P w) A (.call (.ref f) ar) (CR (L2.CX P w) fr P w H s Q E) s
section
variable {P : Program} {w : World} {K : PySem.W.Frag} {mg : Str → Option Value} {base : Heap} {j k : Nat} {f : Addr} {fd : FuncData} {ps : List Str} {sp sp' : Sp}
theorem FnG.mono (F : FnG P w K mg base j f fd ps sp) (h : j ≤ k) : FnG P w K mg base k f fd ps sp :=
  ⟨F.len, fun A fr s H ar us vs Q E c r => F.go A fr s H ar us vs Q E c (r.mono h)⟩
theorem FnG.imp (F : FnG P w K mg base k f fd ps sp) (h : ∀ vs H Q E, sp' vs H Q E → sp vs H Q E) : FnG P w K mg base k f fd ps sp' :=
  ⟨fun vs H Q E z => F.len vs H Q E (h vs H Q E z), fun A fr s H ar us vs Q E c r e b v z => F.go A fr s H ar us vs Q E c r e b v (h vs H Q E z)⟩
end
section
variable {X : Cx} {k : Nat} {f : Addr} {fd : FuncData} {ps : List Str} {sp : Sp} {dvs : List V} {ds : List Value} {E : L2.St → XK} {x : Str} {p pos : Pos} {e : Expr} {es : List Expr} {t : TA}
theorem run_fnG {pins : List (Addr × Obj)} {σ : L2.St} {H : Hp} {s : Shared} {Q : VK} {us : List Value} {vs : List V} (F : FnG X.prog X.w X.K X.mg X.base k f fd ps sp) (hc : Clr X.A) (hr : Room k X.A)
    (hb : Binds X.K fd ps ds) (hd : Vals dvs ds) (hx : PassesAt (L2.CX X.prog X.w) X σ (E σ)) (I : Inv X pins σ H s) (hv : Vals vs us) (h : sp (vs ++ dvs) H Q (E σ)) :
    wpAny (model X.prog X.w) X.A (call (.ref f) us) (EP X pins σ Q) X.xe s := by
  have hv2 := hv.append hd
  have hn : (us ++ ds).length = ps.length := hv2.length.symm.trans (F.len _ _ _ _ h)
  refine wpAny_call (codeAny_mono (F.go X.A X.stack s H ⟨us, []⟩ _ _ Q (E σ) hc hr I.env0 (hb s us I.kIn hn) hv2 h) ?_)
  intro r s' hq
  match r, hq with
  | .error e, hq => exact hx pins H s e s' I hq
  | .ok (.ret u), hq => exact I.after hq
  | .ok .next, hq => exact hq.elim
  | .ok .brk, hq => exact hq.elim
  | .ok .cont, hq => exact hq.elim
theorem pe_callG (F : FnG X.prog X.w X.K X.mg X.base k f fd ps sp) (hc : Clr X.A) (hr : Room k X.A) (hg : Gl X x) (hm : X.mg x = some (.ref f)) (hk : PySem.W.keepIn X.K (.ref f) = true) (hb : Binds X.K fd ps ds) (hd : Vals dvs ds)
    (hx : ∀ σ, PassesAt (L2.CX X.prog X.w) X σ (E σ)) (ha : PA X (e :: es) t) (hdb : (x == ("__debug__" : Str)) = false) (he : starEach (e :: es) X.env = (false, eval e X.env) :: starEach es X.env)
    (hpl : (backTo pos (starEach es X.env)).any (·.1) = false) : PE X (.Call (.Name x p) (e :: es) [] pos) (tCallSD sp dvs E t) := by
  constructor
  intro pins s σ H Q I h
  refine wpAny_Call_Name_kw (ld_glob I hg hm (PySem.W.callWith_K (h₀ := X.base) I.ok.mod.kin hk (thn (ha.run pos pins s σ H _ I h) ?_) he hpl) hdb)
  rintro us s1 ⟨vs, H1, I1, r, q⟩
  exact ⟨I1.kIn, run_fnG F hc hr hb hd (hx σ) I1 r q⟩
end
section
variable {P : Program} {w : World} {K : PySem.W.Frag} {mg : Str → Option Value} {base : Heap} {x qual : Str} {st : Stmt} {f : Addr} {fd : FuncData} {N ps : List Str} {k : Nat} {sp : Sp}
/-- a def by its body -/
theorem FnG.of (F : Fun K x qual st f fd) (S : FnScope N ps (defScope st)) (len : ∀ vs H Q E, sp vs H Q E → vs.length = ps.length)
    (body : ∀ (cdv : Value) (A : Around) (fr : List Env) (s : Shared) (H : Hp) (vs : List V) (Q : VK) (E : XK), Clr (A.deeper (envOfC qual (defScope st) s.heap.objs.size f cdv)) → Room k (A.deeper (envOfC qual (defScope st) s.heap.objs.size f cdv)) → sp vs H Q E →
      ∃ t, PSs (cxOf (L2.CX P w) P w K mg base N qual (defScope st) f cdv A fr s H E) (defBody st) t ∧ t { nx := fun _ H' => Q .non H', rt := Q } (start N vs) H) : FnG P w K mg base (k + 1) f fd ps sp := by
  obtain ⟨oc, od, kV, doc, pm, an, cdv, ct, osl, rfl, lk, hcd⟩ := F.ex
  refine ⟨len, ?_⟩
  intro A fr s H ar us vs Q E hc hr e0 hb hv hs
  have hlen := len _ _ _ _ hs
  have inK : K.In s.heap := e0.mod.kin.keeps fun b o q => (e0.bs b o q).1
  have nolim : s.heap.NoLimit := e0.mod.nolimit.keeps fun b o q => (e0.bs b o q).1
  have kinds : ∀ y ∈ ps.zip us, (defScope st).names.lookup y.1 = some .local ∨ ((defScope st).names.lookup y.1 = some .cell ∧ ((cellsFrom (s.heap.objs.size + 1) (defScope st).names []).lookup y.1).isSome = true) := by
    rintro ⟨n, v⟩ hy
    exact (S.par n (List.of_mem_zip hy).1).imp id fun q => ⟨q, PySem.W.cellsFrom_some _ _ _ (.inl q)⟩
  refine codeAny_call_function hr.depth (inK _ _ lk) rfl S.co S.gen rfl (PySem.W.codeRec_of inK hcd) (hb _ _ _ _ ?_)
  refine wpAny_newFunctionEnv_cells S.kind kinds fun env he s1 q => ?_
  subst he
  refine ⟨nolim.keeps q.toInCall.keep, codeAny_func ?_⟩
  obtain ⟨t, ht, hq⟩ := body cdv A fr s H vs Q E (hc.deeper _) (hr.deeper _) hs
  have I := inv_start (CX := L2.CX P w) (E := E) S hr.hd e0 hlen hv q
  refine wpAny_mono (ht.run [] s1 (start N vs) H _ I hq) ?_ fun _ _ z => z
  intro fl s' z
  have fin : ∀ {σ' : L2.St} {H' : Hp} {v : V} {u : Value}, Inv (cxOf (L2.CX P w) P w K mg base N qual (defScope st) f cdv A fr s H E) [] σ' H' s' → RelV v u → Q v H' → CE fr P w H s Q u s' :=
    fun {_ H' v _} J rv qv => ⟨v, H', J.os, J.bare, J.base, J.hok, rv, qv⟩
  match fl, z with
  | .ret u, ⟨_, _, _, J, rv, qv⟩ => exact fin J rv qv
  | .next, ⟨_, _, J, qv⟩ => exact fin (v := V.non) (u := Value.none) J rfl qv
  | .brk, ⟨_, _, _, qv⟩ => exact qv.elim
  | .cont, ⟨_, _, _, qv⟩ => exact qv.elim
end
end DL

/-! DLe: subscripts, calls, truth. -/
namespace DL
open PySem PySem.Spec PyProof.Rows L2

section
variable {K : PySem.W.Frag} {mg : Str → Option Value} {w : Wd} {S : Store} {H : Hp}
theorem atI_reps {ds : List D} {vs : List V} {k : Int} {d : D} (r : Reps K w ds vs) (h : atI ds k = some d) : ∃ v, atI vs k = some v ∧ Rep K w d v := by
  unfold atI at h ⊢
  rw [r.length] at h
  cases e : ixN vs.length k with
  | none => rw [e] at h; cases h
  | some j =>
    rw [e] at h
    obtain ⟨v, a, b⟩ := r.get (show ds[j]? = some d from h)
    exact ⟨v, a, b⟩
theorem cut_reps {ds : List D} {vs : List V} {lo hi : Option Int} (r : Reps K w ds vs) : Reps K w (cutD ds lo hi) (cutV vs lo hi) := by
  unfold cutD cutV
  rw [r.length]
  exact (r.drop _).take _
end

section
variable {X : Cx} {Wx : WX} {Γ : Gm} {pos : Pos}
theorem opd_ix : OpD X Wx (rIx X.K) ixEv := fun σ w S H x y v u Q s rx ry h => by
  unfold ixEv at h
  cases ry with
  | int k =>
    simp only at h
    have lists : ∀ {x : D}, Rep X.K w x v → After X.K X.mg Wx σ w S H (match x.list? S with | some xs => (match atI xs k with | some d => Res.ok d S | none => .bad) | none => .bad) (fun d w' _ H' => ∀ v, Rep X.K w' d v → Q v H') → rIx X.K v (.int k) H Q := fun {x} rx h => by
      split at h
      · rename_i xs ex
        split at h
        · rename_i d ed
          obtain ⟨a, vs, rfl, ha, rvs⟩ := list_at s rx ex
          obtain ⟨z, ez, rz⟩ := atI_reps rvs ed
          exact .inl ⟨a, vs, k, z, rfl, rfl, ha, ez, After.here s h _ rz⟩
        · exact h.elim
      · exact h.elim
    cases rx with
    | tup q r =>
      simp only at h
      split at h
      · rename_i d ed
        obtain ⟨z, ez, rz⟩ := atI_reps r ed
        exact .inr (.inl ⟨_, _, k, z, rfl, rfl, SqT_same s.le q, ez, After.here s h _ rz⟩)
      · exact h.elim
    | ctp q r =>
      simp only at h
      split at h
      · rename_i d ed
        obtain ⟨z, ez, rz⟩ := atI_reps r ed
        exact .inr (.inl ⟨_, _, k, z, rfl, rfl, SqT_same s.le q.sq, ez, After.here s h _ rz⟩)
      · exact h.elim
    | str z =>
      simp only at h
      split at h
      · rename_i hl
        split at h
        · rename_i c ec
          exact .inr (.inr ⟨z, k, c, rfl, rfl, by rw [sizeLine_eq]; exact of_decide_eq_true hl, ec, After.here s h _ (.str _)⟩)
        · exact h.elim
      · exact h.elim
    | lst q r => exact lists (.lst q r) h
    | loc q => exact lists (.loc q) h
    | scr q => exact lists (.scr q) h
    | _ => exact h.elim
  | _ => exact h.elim
theorem pe_ixD {e e' : Expr} {a b : Ex} (ha : PE X e (xE X Wx (sem Γ a))) (hb : PE X e' (xE X Wx (sem Γ b))) (hs : PlainIx e') : PE X (.Subscript e e' pos) (xE X Wx (sem Γ (.ix a b))) := PE_imp (pe_ix ix_seq ha hb hs) fun σ H Q ⟨ρ, w, S, s, r, h⟩ => by
  simp only [sem] at h
  exact op_two opd_ix ⟨ρ, w, S, s, r, h⟩

/-! ### slices -/
def xO (X : Cx) (Wx : WX) (F : EnvD → Store → Res (Option Int)) : TO := fun σ H Q => ∃ ρ w S, Sim X.K X.mg w S H ∧ EnvRep X.K w ρ σ ∧ After X.K X.mg Wx σ w S H (F ρ S) fun i _ _ H' => Q i H'
theorem PO_imp {e : Option Expr} {t t' : TO} (h : PO X e t) (hi : ∀ σ H Q, t' σ H Q → t σ H Q) : PO X e t' := ⟨fun pins s σ H Q I q => h.run pins s σ H Q I (hi _ _ _ q)⟩
theorem po_noneD : PO X none (xO X Wx (semO Γ none)) := PO_imp po_none fun σ H Q ⟨ρ, w, S, s, r, h⟩ => by
  simp only [semO] at h
  exact After.here s h
theorem po_someD {e : Expr} {a : Ex} (ha : PE X e (xE X Wx (sem Γ a))) : PO X (some e) (xO X Wx (semO Γ (some a))) := PO_imp (po_some ha) fun σ H Q ⟨ρ, w, S, s, r, h⟩ => by
  simp only [semO] at h
  refine ⟨ρ, w, S, s, r, (After.split s h).imp fun d w1 S1 H1 _ x1 ⟨_, h1⟩ v rv => ?_⟩
  cases rv with
  | int i => exact ⟨i, rfl, After.here x1.sim h1⟩
  | _ => exact h1.elim
/-- t[lo:hi], t known to have no dict -/
def rSlN (K : PySem.W.Frag) : V → Option Int → Option Int → Hp → VK → Prop := fun x lo hi H Q => ∃ a xs, x = .ref a ∧ SqT K H a xs ∧
  (HT.sIx xs.length 0 lo = 0 ∧ HT.sIx xs.length xs.length hi = xs.length → Q (.ref a) H) ∧
  (¬ (HT.sIx xs.length 0 lo = 0 ∧ HT.sIx xs.length xs.length hi = xs.length) → ∀ p o, H p = none → o.cls = .type "tuple" → o.dict = none → Q (.ref p) (upd H p (.frz o (.tup (cutV xs lo hi)))))
theorem sl_tupN : SlR X (rSlN X.K) := by
  intro pins s σ H x v vl vu lo hi sl Q I rx hs pl pu h
  obtain ⟨a, xs, rfl, hx, q1, q2⟩ := h
  by_cases hw : HT.sIx xs.length 0 lo = 0 ∧ HT.sIx xs.length xs.length hi = xs.length
  · exact sl_tupA pins s σ H _ v vl vu lo hi sl Q I rx hs pl pu ⟨a, xs, rfl, hx, q1, fun z => absurd hw z⟩
  cases rx
  obtain ⟨its, r, ht, hz⟩ := I.tuple hx
  have hn : its.toArray.size = xs.length := r.length.symm
  refine ⟨"tuple", _, PyProof.Rows.slot_tuple_getitem.lookup, ht.typeIs, HT.getItem_tuple_cut ht hs pl pu (by rw [hn]; exact hw) ?_ (by rw [hn]; exact hz)⟩
  rw [hn]
  refine ⟨.ref s.heap.objs.size, _, I.laid (t' := s.toks) (o := .frz { cls := .type "tuple", data := .seq ((its.drop (HT.sIx xs.length 0 lo)).take (HT.sIx xs.length xs.length hi - HT.sIx xs.length 0 lo)).toArray } (.tup (cutV xs lo hi))) (fun b ob q => Heap.get?_push_of_some _ q) (Nat.le_refl _) ?_, rfl, q2 hw _ _ (I.hok.fresh (Nat.le_refl _)) rfl rfl⟩
  exact ⟨Heap.get?_push_size _ rfl, Nat.le_trans (cutV_length xs lo hi) hz, _, (r.drop (HT.sIx xs.length 0 lo)).take (HT.sIx xs.length xs.length hi - HT.sIx xs.length 0 lo), IsTup.new _ _⟩
theorem rSl_of {σ : L2.St} {w : Wd} {S : Store} {H : Hp} {x : D} {v : V} {lo hi : Option Int} {c : Bool} {Q : VK} (s : Sim X.K X.mg w S H) (rx : Rep X.K w x v) (h : After X.K X.mg Wx σ w S H (slcEv c x lo hi S) fun d w' _ H' => ∀ v, Rep X.K w' d v → Q v H') :
    ((rSlA X.K v lo hi H Q ∨ rSlL X.K v lo hi H Q) ∨ rSlS v lo hi H Q) ∨ rSlN X.K v lo hi H Q := by
  have lists : ∀ {x : D}, Rep X.K w x v → After X.K X.mg Wx σ w S H (match x.list? S with | some xs => mkL c (cutD xs lo hi) S | none => .bad) (fun d w' _ H' => ∀ v, Rep X.K w' d v → Q v H') → rSlL X.K v lo hi H Q := fun {x} rx h => by
    split at h
    · rename_i xs ex
      obtain ⟨a, vs, rfl, ha, rvs⟩ := list_at s rx ex
      obtain ⟨hl, q⟩ := new_list s (cut_reps (lo := lo) (hi := hi) rvs) h
      refine ⟨a, vs, rfl, ha, fun p hp => ?_⟩
      obtain ⟨d, w', S', q1, q2⟩ := q p hp
      exact q1 _ q2
    · exact h.elim
  unfold slcEv at h
  cases x with
  | tup ds =>
    cases rx with
    | tup q r =>
      simp only at h
      refine .inl (.inl (.inl ⟨_, _, rfl, SqT_same s.le q, fun e => ?_, fun _ p hp => ?_⟩))
      · have e2 : ∀ {α : Type} {l : List α} {n : Nat}, n = l.length → (l.drop 0).take (n - 0) = l := fun {α l n} e => by rw [List.drop_zero, Nat.sub_zero, e, List.take_length]
        have : cutD ds lo hi = ds := by
          unfold cutD
          rw [r.length, e.1, e.2]
          exact e2 r.length.symm
        rw [this] at h
        exact After.here s h _ (.tup q r)
      · obtain ⟨w', q1, q2⟩ := new_tup s (cut_reps (lo := lo) (hi := hi) r) h p hp
        exact q1 _ q2
  | str z =>
    cases rx
    simp only at h
    split at h
    · rename_i hl
      exact .inl (.inr ⟨z, rfl, by rw [sizeLine_eq]; exact of_decide_eq_true hl, After.here s h _ (.str _)⟩)
    · exact h.elim
  | ctp ds =>
    cases rx with
    | ctp q r =>
      simp only at h
      refine .inr ⟨_, _, rfl, SqT_same s.le q.sq, fun e => ?_, fun _ p o hp h1 h2 => ?_⟩
      · have e2 : ∀ {α : Type} {l : List α} {n : Nat}, n = l.length → (l.drop 0).take (n - 0) = l := fun {α l n} e => by rw [List.drop_zero, Nat.sub_zero, e, List.take_length]
        have : cutD ds lo hi = ds := by
          unfold cutD
          rw [r.length, e.1, e.2]
          exact e2 r.length.symm
        rw [this] at h
        exact After.here s h _ (.ctp q r)
      · exact h _ _ (ext_put s hp) _ (.ctp (.inr ⟨o, upd_same, h1, h2⟩) ((cut_reps (lo := lo) (hi := hi) r).mono (Wd.put_le (s.free hp))))
  | _ => exact .inl (.inl (.inr (lists rx h)))
theorem pe_slcD {e : Expr} {l u : Option Expr} {a : Ex} {lo hi : Option Ex} {c : Bool} {p2 : Pos} (ha : PE X e (xE X Wx (sem Γ a))) (hl : PO X l (xO X Wx (semO Γ lo))) (hu : PO X u (xO X Wx (semO Γ hi))) :
    PE X (.Subscript e (.Slice l u none p2) pos) (xE X Wx (sem Γ (.slc c a lo hi))) := PE_imp (pe_slice (((sl_tupA.or sl_list).or sl_str).or sl_tupN) ha hl hu) fun σ H Q ⟨ρ, w, S, s, r, h⟩ => by
  simp only [sem] at h
  refine ⟨ρ, w, S, s, r, (After.split s h).imp fun d w1 S1 H1 _ x1 ⟨_, h1⟩ v rv => ?_⟩
  refine ⟨ρ, w1, S1, x1.sim, r.mono x1.wle, (After.split x1.sim h1).imp fun i w2 S2 H2 _ x2 ⟨_, h2⟩ => ?_⟩
  refine ⟨ρ, w2, S2, x2.sim, r.mono (x1.wle.trans x2.wle), (After.split x2.sim h2).imp fun j w3 S3 H3 _ x3 ⟨_, h3⟩ => ?_⟩
  exact rSl_of x3.sim (rv.mono (x2.wle.trans x3.wle)) h3

/-! ### x[::-1] -/
theorem pe_revD {e : Expr} {a : Ex} {c : Bool} {k : Nat} {p1 p2 p3 : Pos} (ha : PE X e (xE X Wx (sem Γ a))) : PE X (.Subscript e (.Slice none none (some (.UnaryOp .USub (.Constant (.int 1) k p1) p2)) p3) pos) (xE X Wx (sem Γ (.rev c a))) := PE_imp (pe_rev2 ha) fun σ H Q ⟨ρ, w, S, s, r, h⟩ => by
  simp only [sem] at h
  refine ⟨ρ, w, S, s, r, (After.split s h).imp fun d w1 S1 H1 _ x1 ⟨_, h1⟩ v rv => ?_⟩
  have lists : ∀ {x : D}, Rep X.K w1 x v → After X.K X.mg Wx σ w1 S1 H1 (match x.list? S1 with | some xs => mkL c xs.reverse S1 | none => .bad) (fun d w' _ H' => ∀ v, Rep X.K w' d v → Q v H') →
      ∃ a xs, v = .ref a ∧ ((SqL X.K H1 a xs ∧ ∀ p, H1 p = none → Q (.ref p) (upd H1 p (.lst xs.reverse))) ∨ (SqT X.K H1 a xs ∧ ∀ p, H1 p = none → Q (.ref p) (upd H1 p (.tup xs.reverse)))) := fun {x} rx h => by
    split at h
    · rename_i xs ex
      obtain ⟨a, vs, rfl, ha, rvs⟩ := list_at x1.sim rx ex
      obtain ⟨hl, q⟩ := new_list x1.sim rvs.reverse h
      refine ⟨a, vs, rfl, .inl ⟨ha, fun p hp => ?_⟩⟩
      obtain ⟨d, w', S', q1, q2⟩ := q p hp
      exact q1 _ q2
    · exact h.elim
  unfold revEv at h1
  cases d with
  | tup ds =>
    cases rv with
    | tup q r =>
      simp only at h1
      refine ⟨_, _, rfl, .inr ⟨SqT_same x1.sim.le q, fun p hp => ?_⟩⟩
      obtain ⟨w', q1, q2⟩ := new_tup x1.sim r.reverse h1 p hp
      exact q1 _ q2
  | _ => exact lists rv h1

/-! ### truth -/
theorem not_sem {F : EF} {G : EnvD → Store → Res Bool} {t : TT} (hi : ∀ σ H Q, xT X Wx G σ H Q → t σ H Q) {σ : L2.St} {H : Hp} {Q : Bool → Hp → Prop}
    (h : xT X Wx (fun ρ S => asBl ((G ρ S).bind fun b S1 => .ok (.bl (!b)) S1)) σ H Q) : tNot t σ H Q := by
  obtain ⟨ρ, w, S, s, r, h⟩ := h
  refine hi σ H _ ⟨ρ, w, S, s, r, ?_⟩
  simp only at h
  cases e : G ρ S with
  | ok b S' =>
    rw [e] at h
    exact fun w' H' x => h w' H' x
  | exc x S' =>
    rw [e] at h
    exact h
  | bad =>
    rw [e] at h
    exact h
theorem pt_notD {e : Expr} {a : Ex} (ha : PT X e (xT X Wx fun ρ S => asBl (sem Γ a ρ S))) : PT X (.UnaryOp .Not e pos) (xT X Wx fun ρ S => asBl (sem Γ (.not a) ρ S)) := PT_imp (pt_not ha) fun σ H Q h => by
  refine not_sem (F := sem Γ a) (G := fun ρ S => asBl (sem Γ a ρ S)) (fun _ _ _ h => h) ?_
  obtain ⟨ρ, w, S, s, r, h⟩ := h
  simp only [sem] at h
  exact ⟨ρ, w, S, s, r, h⟩
theorem pe_notD {e : Expr} {a : Ex} (ha : PE X e (xE X Wx (sem Γ a))) : PE X (.UnaryOp .Not e pos) (xE X Wx (sem Γ (.not a))) := PE_imp (pe_not ha) fun σ H Q ⟨ρ, w, S, s, r, h⟩ => by
  simp only [sem] at h
  refine ⟨ρ, w, S, s, r, ?_⟩
  cases e : sem Γ a ρ S with
  | ok d S' =>
    rw [e] at h
    cases d with
    | bl b =>
      intro w' H' x v rv
      cases rv
      exact ⟨b, rfl, h w' H' x _ (.bl _)⟩
    | _ => exact h.elim
  | exc x S' =>
    rw [e] at h
    exact h
  | bad =>
    rw [e] at h
    exact h
/-- and, or: as values -/
theorem pe_boo1 {op : BoolOp} {e : Expr} {k : Bool} {a : Ex} (ha : PE X e (xE X Wx (sem Γ a))) : PE X (.BoolOp op [e] pos) (xE X Wx (semB Γ k [a])) := PE_imp (pe_one ha) fun σ H Q ⟨ρ, w, S, s, r, h⟩ => by
  simp only [semB] at h
  exact ⟨ρ, w, S, s, r, h⟩
/-- how a first part goes on -/
theorem boo_split {F : EF} {k : Bool} {G : EF} {σ : L2.St} {H : Hp} {P : D → Wd → Store → Hp → Prop} {ρ : EnvD} {w : Wd} {S : Store} (s : Sim X.K X.mg w S H) (h : After X.K X.mg Wx σ w S H ((asBl (F ρ S)).bind fun b S1 => if b = k then G ρ S1 else .ok (.bl b) S1) P) :
    After X.K X.mg Wx σ w S H (F ρ S) fun d w1 S1 H1 => ∃ b, d = .bl b ∧ Ext X.K X.mg w S H w1 S1 H1 ∧ if b = k then After X.K X.mg Wx σ w1 S1 H1 (G ρ S1) P else P (.bl b) w1 S1 H1 := by
  cases e : F ρ S with
  | ok d S' =>
    rw [e] at h
    cases d with
    | bl b =>
      intro w' H' x
      refine ⟨b, rfl, x, ?_⟩
      have h : After X.K X.mg Wx σ w S H (if b = k then G ρ S' else .ok (.bl b) S') P := h
      split
      · rename_i hb
        rw [if_pos hb] at h
        exact After.move s x h
      · rename_i hb
        rw [if_neg hb] at h
        exact h w' H' x
    | _ => exact h.elim
  | exc x S' =>
    rw [e] at h
    exact h
  | bad =>
    rw [e] at h
    exact h
theorem pe_andD {e e' : Expr} {es : List Expr} {a b : Ex} {as : List Ex} (ha : PE X e (xE X Wx (sem Γ a))) (hb : PE X (.BoolOp .And (e' :: es) pos) (xE X Wx (semB Γ true (b :: as)))) : PE X (.BoolOp .And (e :: e' :: es) pos) (xE X Wx (semB Γ true (a :: b :: as))) := PE_imp (pe_and ha hb) fun σ H Q ⟨ρ, w, S, s, r, h⟩ => by
  simp only [semB] at h
  refine ⟨ρ, w, S, s, r, (boo_split (F := sem Γ a) s h).imp fun d w1 S1 H1 _ x1 ⟨k, e, _, h1⟩ v rv => ?_⟩
  subst e
  cases rv
  refine ⟨k, rfl, ?_⟩
  cases k with
  | true => exact ⟨ρ, w1, S1, x1.sim, r.mono x1.wle, h1⟩
  | false => exact h1 _ (.bl _)
theorem pe_orD {e e' : Expr} {es : List Expr} {a b : Ex} {as : List Ex} (ha : PE X e (xE X Wx (sem Γ a))) (hb : PE X (.BoolOp .Or (e' :: es) pos) (xE X Wx (semB Γ false (b :: as)))) : PE X (.BoolOp .Or (e :: e' :: es) pos) (xE X Wx (semB Γ false (a :: b :: as))) := PE_imp (pe_or ha hb) fun σ H Q ⟨ρ, w, S, s, r, h⟩ => by
  simp only [semB] at h
  refine ⟨ρ, w, S, s, r, (boo_split (F := sem Γ a) s h).imp fun d w1 S1 H1 _ x1 ⟨k, e, _, h1⟩ v rv => ?_⟩
  subst e
  cases rv
  refine ⟨k, rfl, ?_⟩
  cases k with
  | false => exact ⟨ρ, w1, S1, x1.sim, r.mono x1.wle, h1⟩
  | true => exact h1 _ (.bl _)
/-- .. as tests -/
theorem asBl_boo {σ : L2.St} {w : Wd} {S : Store} {H : Hp} {ρ : EnvD} {k : Bool} {a b : Ex} {as : List Ex} {Q : Bool → Hp → Prop} (h : After X.K X.mg Wx σ w S H (asBl (semB Γ k (a :: b :: as) ρ S)) fun b _ _ H' => Q b H') :
    After X.K X.mg Wx σ w S H ((asBl (sem Γ a ρ S)).bind fun c S1 => if c = k then asBl (semB Γ k (b :: as) ρ S1) else .ok c S1) fun b _ _ H' => Q b H' := by
  simp only [semB] at h
  cases e : asBl (sem Γ a ρ S) with
  | ok c S1 =>
    rw [e] at h
    simp only [Res.ok_bind] at h ⊢
    split
    · rename_i hc
      rw [if_pos hc] at h
      exact h
    · rename_i hc
      rw [if_neg hc] at h
      exact h
  | exc x S' =>
    rw [e] at h
    exact h
  | bad =>
    rw [e] at h
    exact h
theorem boo_sem {F G : EnvD → Store → Res Bool} {k : Bool} {t u : TT} {σ : L2.St} {H : Hp} {Q : Bool → Hp → Prop} (hi : ∀ σ H Q, xT X Wx F σ H Q → t σ H Q) (hj : ∀ σ H Q, xT X Wx G σ H Q → u σ H Q) {ρ : EnvD} {w : Wd} {S : Store} (s : Sim X.K X.mg w S H) (r : EnvRep X.K w ρ σ)
    (h : After X.K X.mg Wx σ w S H ((F ρ S).bind fun c S1 => if c = k then G ρ S1 else .ok c S1) fun b _ _ H' => Q b H') : t σ H fun c H1 => if c = k then u σ H1 Q else Q c H1 := by
  refine hi σ H _ ⟨ρ, w, S, s, r, (After.split s h).imp fun c w1 S1 H1 _ x1 ⟨_, h1⟩ => ?_⟩
  show if c = k then u σ H1 Q else Q c H1
  split
  · rename_i hc
    rw [if_pos hc] at h1
    exact hj σ H1 Q ⟨ρ, w1, S1, x1.sim, r.mono x1.wle, h1⟩
  · rename_i hc
    rw [if_neg hc] at h1
    exact After.here x1.sim h1
theorem pw_and1D {e : Expr} {a : Ex} (ha : PT X e (xT X Wx fun ρ S => asBl (sem Γ a ρ S))) : PW X (.BoolOp .And [e] pos) (xT X Wx fun ρ S => asBl (semB Γ true [a] ρ S)) := PW_imp (pw_and1 ha) fun σ H Q ⟨ρ, w, S, s, r, h⟩ => by
  simp only [semB] at h
  exact ⟨ρ, w, S, s, r, h⟩
theorem pw_or1D {e : Expr} {a : Ex} (ha : PT X e (xT X Wx fun ρ S => asBl (sem Γ a ρ S))) : PW X (.BoolOp .Or [e] pos) (xT X Wx fun ρ S => asBl (semB Γ false [a] ρ S)) := PW_imp (pw_or1 ha) fun σ H Q ⟨ρ, w, S, s, r, h⟩ => by
  simp only [semB] at h
  exact ⟨ρ, w, S, s, r, h⟩
theorem pw_andD {e e' : Expr} {es : List Expr} {a b : Ex} {as : List Ex} (ha : PT X e (xT X Wx fun ρ S => asBl (sem Γ a ρ S))) (hb : PW X (.BoolOp .And (e' :: es) pos) (xT X Wx fun ρ S => asBl (semB Γ true (b :: as) ρ S))) :
    PW X (.BoolOp .And (e :: e' :: es) pos) (xT X Wx fun ρ S => asBl (semB Γ true (a :: b :: as) ρ S)) := PW_imp (pw_and ha hb) fun σ H Q ⟨ρ, w, S, s, r, h⟩ => by
  have q := boo_sem (F := fun ρ S => asBl (sem Γ a ρ S)) (G := fun ρ S => asBl (semB Γ true (b :: as) ρ S)) (k := true) (fun _ _ _ h => h) (fun _ _ _ h => h) s r (asBl_boo h)
  show dTT _ _ _ _ σ H _
  obtain ⟨ρ', w', S', s', r', h'⟩ := q
  refine ⟨ρ', w', S', s', r', h'.imp fun c w1 S1 H1 _ _ q1 => ?_⟩
  cases c <;> exact q1
theorem pw_orD {e e' : Expr} {es : List Expr} {a b : Ex} {as : List Ex} (ha : PT X e (xT X Wx fun ρ S => asBl (sem Γ a ρ S))) (hb : PW X (.BoolOp .Or (e' :: es) pos) (xT X Wx fun ρ S => asBl (semB Γ false (b :: as) ρ S))) :
    PW X (.BoolOp .Or (e :: e' :: es) pos) (xT X Wx fun ρ S => asBl (semB Γ false (a :: b :: as) ρ S)) := PW_imp (pw_or ha hb) fun σ H Q ⟨ρ, w, S, s, r, h⟩ => by
  have q := boo_sem (F := fun ρ S => asBl (sem Γ a ρ S)) (G := fun ρ S => asBl (semB Γ false (b :: as) ρ S)) (k := false) (fun _ _ _ h => h) (fun _ _ _ h => h) s r (asBl_boo h)
  show dTT _ _ _ _ σ H _
  obtain ⟨ρ', w', S', s', r', h'⟩ := q
  refine ⟨ρ', w', S', s', r', h'.imp fun c w1 S1 H1 _ _ q1 => ?_⟩
  cases c with
  | true => rwa [if_neg (by decide)] at q1
  | false => rwa [if_pos rfl] at q1
/-- a if t else b -/
theorem pe_ifeD {c e e' : Expr} {t a b : Ex} (ht : PT X c (xT X Wx fun ρ S => asBl (sem Γ t ρ S))) (ha : PE X e (xE X Wx (sem Γ a))) (hb : PE X e' (xE X Wx (sem Γ b))) : PE X (.IfExp c e e' pos) (xE X Wx (sem Γ (.ife t a b))) := PE_imp (pe_ifExp ht ha hb) fun σ H Q ⟨ρ, w, S, s, r, h⟩ => by
  simp only [sem] at h
  refine ⟨ρ, w, S, s, r, (After.split s h).imp fun k w1 S1 H1 _ x1 ⟨_, h1⟩ => ?_⟩
  cases k with
  | true => exact ⟨ρ, w1, S1, x1.sim, r.mono x1.wle, h1⟩
  | false => exact ⟨ρ, w1, S1, x1.sim, r.mono x1.wle, h1⟩

/-! ### a def of the text -/
/-- a def's promise: it does what its meaning tells -/
def spF (K : PySem.W.Frag) (mg : Str → Option Value) (n : Nat) (f : Fn) : Sp := fun vs H Q E => vs.length = n ∧ ∃ w S ds, Sim K mg w S H ∧ Reps K w ds vs ∧
  After K mg (fun cls d _ H' => E cls d H') [] w S H (f ds S) fun d w' _ H' => ∀ v, Rep K w' d v → Q v H'
structure CallOk (X : Cx) (x : Str) (f : Fn) : Prop where
  ex : ∃ (fa : Addr) (fd : FuncData) (ps : List Str) (k n : Nat), FnG X.prog X.w X.K X.mg X.base k fa fd ps (spF X.K X.mg n f) ∧ (Clr X.A ∧ Room k X.A) ∧ X.mg x = some (.ref fa) ∧ PySem.W.keepIn X.K (.ref fa) = true ∧ Binds X.K fd ps [] ∧ (∀ ds S, f ds S ≠ .bad → ds.length = n)
theorem pe_callD {e : Expr} {es : List Expr} {a : Ex} {as : List Ex} {x : Str} {p : Pos} {j : Nat} {f : Fn} (tk : Takes X Wx) (ok : CallOk X x f) (hj : Γ.tab[j]? = some f) (hg : Gl X x) (ha : PA X (e :: es) (xA X Wx (semL Γ (a :: as)))) (hdb : (x == ("__debug__" : Str)) = false)
    (he : starEach (e :: es) X.env = (false, eval e X.env) :: starEach es X.env) (hpl : (backTo pos (starEach es X.env)).any (·.1) = false) : PE X (.Call (.Name x p) (e :: es) [] pos) (xE X Wx (sem Γ (.call j (a :: as)))) := by
  obtain ⟨fa, fd, ps, k, n, F, hr, hm, hk, hb, hn⟩ := ok.ex
  refine PE_imp (pe_callG F hr.1 hr.2 hg hm hk hb .nil (passAt tk) ha hdb he hpl) fun σ H Q ⟨ρ, w, S, s, r, h⟩ => ?_
  simp only [sem, hj] at h
  refine ⟨ρ, w, S, s, r, (After.split s h).imp fun ds w1 S1 H1 _ x1 ⟨_, h1⟩ vs rvs => ?_⟩
  show spF X.K X.mg n f (vs ++ []) H1 Q (WE Wx σ)
  rw [List.append_nil]
  have hne : f ds S1 ≠ .bad := fun z => by rw [z] at h1; exact h1
  refine ⟨by rw [← rvs.length]; exact hn ds S1 hne, w1, S1, ds, x1.sim, rvs, ?_⟩
  cases e : f ds S1 with
  | ok d S2 => rw [e] at h1; exact h1
  | exc d S2 => rw [e] at h1; exact h1
  | bad => exact absurd e hne

def notAttr : Expr → Bool
  | .Attribute .. => false
  | _ => true
theorem call_plain {f : Expr} {es : List Expr} {env : Env} {pos : Pos} (h : notAttr f = true) : eval (.Call f es [] pos) env = (do
    callWith pos (← eval f env) [] (backTo pos (starEach es env)) (backToKw pos (keywordEach [] env))) := by
  cases f <;> first | rfl | cases h
/-- a call of a value that is a def -/
theorem pe_callvD {fe : Expr} {f0 : Ex} {e : Expr} {es : List Expr} {a : Ex} {as : List Ex} {js : List (Str × Nat)} (tk : Takes X Wx) (hf : PE X fe (xE X Wx (sem Γ f0))) (na : notAttr fe = true) (ok : ∀ y j, js.lookup y = some j → ∃ f, Γ.tab[j]? = some f ∧ CallOk X y f)
    (ha : PA X (e :: es) (xA X Wx (semL Γ (a :: as)))) (he : starEach (e :: es) X.env = (false, eval e X.env) :: starEach es X.env) (hpl : (backTo pos (starEach es X.env)).any (·.1) = false) :
    PE X (.Call fe (e :: es) [] pos) (xE X Wx (sem Γ (.callv f0 js (a :: as)))) := by
  refine ⟨fun pins s σ H Q I ⟨ρ, w, S, sm, r, h⟩ => ?_⟩
  simp only [sem] at h
  rw [call_plain na]
  refine wpAny_bind (thn (hf.run pins s σ H (fun v H1 => ∃ fa fd ps k n f, v = .ref fa ∧ FnG X.prog X.w X.K X.mg X.base k fa fd ps (spF X.K X.mg n f) ∧ (Clr X.A ∧ Room k X.A) ∧ PySem.W.keepIn X.K (.ref fa) = true ∧ Binds X.K fd ps [] ∧
    xA X Wx (semL Γ (a :: as)) σ H1 fun vs H2 => spF X.K X.mg n f (vs ++ []) H2 Q (WE Wx σ)) I ?_) fun u s1 ⟨v, H1, I1, r1, fa, fd, ps, k, n, f, ev, F, hr, hk, hb, q1⟩ => ?_)
  · refine ⟨ρ, w, S, sm, r, (After.split sm h).imp fun v w0 S0 H0 _ x0 ⟨_, h⟩ u rv => ?_⟩
    cases v with
    | fn y =>
      simp only at h
      cases ej : js.lookup y with
      | none => rw [ej] at h; exact h.elim
      | some j =>
        obtain ⟨f, ef, ⟨fa, fd, ps, k, n, F, hr, hm, hk, hb, hn⟩⟩ := ok y j ej
        simp only [ej, ef] at h
        cases rv with
        | fn hq =>
          rw [x0.sim.fa, hm] at hq
          cases hq
          refine ⟨fa, fd, ps, k, n, f, rfl, F, hr, hk, hb, ρ, w0, S0, x0.sim, r.mono x0.wle, (After.split x0.sim h).imp fun ds w1 S1 H1 _ x1 ⟨_, h1⟩ vs rvs => ?_⟩
          show spF X.K X.mg n f (vs ++ []) H1 Q (WE Wx σ)
          rw [List.append_nil]
          have hne : f ds S1 ≠ .bad := fun z => by rw [z] at h1; exact h1
          refine ⟨by rw [← rvs.length]; exact hn ds S1 hne, w1, S1, ds, x1.sim, rvs, ?_⟩
          cases e : f ds S1 with
          | ok d S2 => rw [e] at h1; exact h1
          | exc d S2 => rw [e] at h1; exact h1
          | bad => exact absurd e hne
    | _ => exact h.elim
  · subst ev
    cases r1
    refine PySem.W.callWith_K (h₀ := X.base) I.ok.mod.kin hk (thn (ha.run pos pins s1 σ H1 _ I1 q1) fun us s2 ⟨vs, H2, I2, r2, q2⟩ => ⟨I2.kIn, ?_⟩) he hpl
    exact run_fnG F hr.1 hr.2 hb .nil (passAt tk σ) I2 r2 q2

/-! ### built-in functions -/
/-- what a built-in's rule asks is answered by its meaning -/
def CallD (X : Cx) (Wx : WX) (r : List V → Hp → VK → Prop) (f : List D → Store → Res D) : Prop := ∀ (σ : L2.St) (w : Wd) (S : Store) (H : Hp) (ds : List D) (vs : List V) (Q : VK), Sim X.K X.mg w S H → Reps X.K w ds vs →
  After X.K X.mg Wx σ w S H (f ds S) (fun d w' _ H' => ∀ v, Rep X.K w' d v → Q v H') → r vs H Q
theorem call_args {r : List V → Hp → VK → Prop} {f : List D → Store → Res D} {as : List Ex} {σ : L2.St} {H : Hp} {Q : VK} (hd : CallD X Wx r f) (h : dTE X.K X.mg Wx (fun ρ S => (semL Γ as ρ S).bind fun ds S1 => f ds S1) σ H Q) :
    xA X Wx (semL Γ as) σ H fun vs H1 => r vs H1 Q := by
  obtain ⟨ρ, w, S, s, q, h⟩ := h
  refine ⟨ρ, w, S, s, q, (After.split s h).imp fun ds w1 S1 H1 _ x1 ⟨_, h1⟩ vs rvs => ?_⟩
  exact hd σ w1 S1 H1 ds vs Q x1.sim rvs h1
theorem pe_biB {r : List V → Hp → VK → Prop} {f : BI} {c : Bool} {id : String} {e : Expr} {es : List Expr} {as : List Ex} {x : Str} {p : Pos} (hc : CallR X (.builtin id) r) (hd : CallD X Wx r (f.ev c)) (hg : Gl X x) (hm : X.mg x = none) (hv : bootBuiltins x = some (.builtin id)) (ha : PA X (e :: es) (xA X Wx (semL Γ as)))
    (hn : x ≠ "__name__") (hdb : (x == ("__debug__" : Str)) = false) (he : starEach (e :: es) X.env = (false, eval e X.env) :: starEach es X.env) (hpl : (backTo pos (starEach es X.env)).any (·.1) = false) :
    PE X (.Call (.Name x p) (e :: es) [] pos) (xE X Wx (sem Γ (.bi f c as))) := PE_imp (pe_callB hc hg hm hv ha hn hdb he hpl) fun σ H Q ⟨ρ, w, S, s, r, h⟩ => by
  simp only [sem] at h
  exact call_args hd ⟨ρ, w, S, s, r, h⟩
theorem pe_biT {r : List V → Hp → VK → Prop} {f : BI} {c : Bool} {T : String} {e : Expr} {es : List Expr} {as : List Ex} {x : Str} {p : Pos} (hc : CallR X (.type T) r) (hd : CallD X Wx r (f.ev c)) (hg : Gl X x) (hm : X.mg x = none) (hv : bootBuiltins x = some (.type T)) (ha : PA X (e :: es) (xA X Wx (semL Γ as)))
    (hn : x ≠ "__name__") (hdb : (x == ("__debug__" : Str)) = false) (he : starEach (e :: es) X.env = (false, eval e X.env) :: starEach es X.env) (hpl : (backTo pos (starEach es X.env)).any (·.1) = false) :
    PE X (.Call (.Name x p) (e :: es) [] pos) (xE X Wx (sem Γ (.bi f c as))) := PE_imp (pe_callTy hc hg hm hv ha hn hdb he hpl) fun σ H Q ⟨ρ, w, S, s, r, h⟩ => by
  simp only [sem] at h
  exact call_args hd ⟨ρ, w, S, s, r, h⟩
end
end DL

/-! DLf: built-in functions, methods, what is walked, comprehensions. -/
namespace DL
open PySem PySem.Spec PyProof.Rows L2

theorem asInts_eq : ∀ {ds : List D} {ns : List Int}, asInts ds = some ns → ds = ns.map D.int
  | [], _, h => by cases h; rfl
  | d :: r, ns, h => by
    cases d with
    | int i =>
      simp only [asInts] at h
      split at h
      · rename_i s e
        cases h
        rw [asInts_eq e]
        rfl
      · cases h
    | _ => cases h
theorem asBls_eq : ∀ {ds : List D} {ns : List Bool}, asBls ds = some ns → ds = ns.map D.bl
  | [], _, h => by cases h; rfl
  | d :: r, ns, h => by
    cases d with
    | bl i =>
      simp only [asBls] at h
      split at h
      · rename_i s e
        cases h
        rw [asBls_eq e]
        rfl
      · cases h
    | _ => cases h
theorem maxI_spec : ∀ (ns : List Int) (m : Int), m ∈ ns → (∀ y, y ∈ ns → y ≤ m) → maxI ns = m
  | [], m, h, _ => by cases h
  | [a], m, h, hm => by
    have : m = a := by simpa using h
    rw [this]; rfl
  | a :: b :: r, m, h, hm => by
    show max a (maxI (b :: r)) = m
    have ha : a ≤ m := hm a (by simp)
    have hr : ∀ y, y ∈ b :: r → y ≤ m := fun y hy => hm y (List.mem_cons_of_mem _ hy)
    have hx : ∀ l : List Int, l ≠ [] → maxI l ∈ l := by
      intro l
      induction l with
      | nil => intro z; exact absurd rfl z
      | cons x t ih =>
        intro _
        cases t with
        | nil => simp [maxI]
        | cons y t' =>
          show max x (maxI (y :: t')) ∈ _
          rcases Int.le_total x (maxI (y :: t')) with q | q
          · rw [Int.max_eq_right q]; exact List.mem_cons_of_mem _ (ih (by simp))
          · rw [Int.max_eq_left q]; simp
    rcases List.mem_cons.mp h with e | e
    · subst e
      have := hr _ (hx (b :: r) (by simp))
      omega
    · rw [maxI_spec (b :: r) m e hr]; omega
theorem minI_spec : ∀ (ns : List Int) (m : Int), m ∈ ns → (∀ y, y ∈ ns → m ≤ y) → minI ns = m
  | [], m, h, _ => by cases h
  | [a], m, h, hm => by
    have : m = a := by simpa using h
    rw [this]; rfl
  | a :: b :: r, m, h, hm => by
    show min a (minI (b :: r)) = m
    have ha : m ≤ a := hm a (by simp)
    have hr : ∀ y, y ∈ b :: r → m ≤ y := fun y hy => hm y (List.mem_cons_of_mem _ hy)
    have hx : ∀ l : List Int, l ≠ [] → minI l ∈ l := by
      intro l
      induction l with
      | nil => intro z; exact absurd rfl z
      | cons x t ih =>
        intro _
        cases t with
        | nil => simp [minI]
        | cons y t' =>
          show min x (minI (y :: t')) ∈ _
          rcases Int.le_total x (minI (y :: t')) with q | q
          · rw [Int.min_eq_left q]; simp
          · rw [Int.min_eq_right q]; exact List.mem_cons_of_mem _ (ih (by simp))
    rcases List.mem_cons.mp h with e | e
    · subst e
      have := hr _ (hx (b :: r) (by simp))
      omega
    · rw [minI_spec (b :: r) m e hr]; omega

section
variable {X : Cx} {Wx : WX} {Γ : Gm} {pos : Pos}
theorem reps1 {K : PySem.W.Frag} {w : Wd} {d : D} {vs : List V} (r : Reps K w [d] vs) : ∃ v, vs = [v] ∧ Rep K w d v := by
  cases r with
  | cons a b => cases b; exact ⟨_, rfl, a⟩
theorem reps2 {K : PySem.W.Frag} {w : Wd} {d e : D} {vs : List V} (r : Reps K w [d, e] vs) : ∃ v u, vs = [v, u] ∧ Rep K w d v ∧ Rep K w e u := by
  cases r with
  | cons a b => obtain ⟨u, rfl, c⟩ := reps1 b; exact ⟨_, _, rfl, a, c⟩
def rLen (K : PySem.W.Frag) : List V → Hp → VK → Prop := fun xs H Q => (∃ x n, xs = [x] ∧ LenV K x H n ∧ Q (.int n) H) ∨ ∃ a kvs, xs = [.ref a] ∧ Rd H a (.dK kvs) ∧ Q (.int kvs.length) H
theorem call_lenD : CallR X (.builtin "len") (rLen X.K) := CallR.or call_len (by
  intro pins s σ H xs us Q I r h
  obtain ⟨a, kvs, rfl, e, q⟩ := h
  obtain ⟨u, rfl, r1⟩ := Vals.one r
  obtain rfl : u = Value.ref a := r1
  exact d_len I e fun t s' I' => ⟨.int kvs.length, H, I', ⟨t, rfl⟩, q⟩)
theorem RepK.length {K : PySem.W.Frag} {w : Wd} : ∀ {d : List (Key × D)} {v : List (Key × V)}, RepK K w d v → d.length = v.length
  | _, _, .nil => rfl
  | _, _, .cons _ r => by rw [List.length_cons, List.length_cons, RepK.length r]
theorem cd_len {c : Bool} : CallD X Wx (rLen X.K) (BI.ev .len c) := fun σ w S H ds vs Q s rs h => by
  have lists : ∀ {x : D} {v : V}, Rep X.K w x v → After X.K X.mg Wx σ w S H (match x.list? S with | some ys => .ok (.int ys.length) S | none => .bad) (fun d w' _ H' => ∀ v, Rep X.K w' d v → Q v H') → rLen X.K [v] H Q := fun {x v} rx h => by
    split at h
    · rename_i xs ex
      obtain ⟨a, vs, rfl, ha, rvs⟩ := list_at s rx ex
      exact .inl ⟨_, vs.length, rfl, .inl ⟨vs, ha, rfl⟩, by rw [← rvs.length]; exact After.here s h _ (.int _)⟩
    · exact h.elim
  match ds, rs with
  | [], _ => exact h.elim
  | x :: y :: t, _ => cases x <;> exact h.elim
  | [x], rs =>
    obtain ⟨v, rfl, rx⟩ := reps1 rs
    unfold BI.ev at h
    cases x with
    | tup ys =>
      cases rx with
      | tup q r => exact .inl ⟨_, _, rfl, .inr ⟨_, SqT_same s.le q, rfl⟩, by rw [← r.length]; exact After.here s h _ (.int _)⟩
    | ctp ys =>
      cases rx with
      | ctp q r => exact .inl ⟨_, _, rfl, .inr ⟨_, SqT_same s.le q.sq, rfl⟩, by rw [← r.length]; exact After.here s h _ (.int _)⟩
    | str z =>
      cases rx
      simp only at h
      split at h
      · rename_i hl
        exact .inl ⟨_, _, rfl, ⟨by rw [sizeLine_eq]; exact of_decide_eq_true hl, rfl⟩, After.here s h _ (.int _)⟩
      · exact h.elim
    | dK ys =>
      cases rx with
      | dK q r =>
        obtain ⟨o, q⟩ := q
        exact .inr ⟨_, _, rfl, .inr ⟨o, s.le _ _ q⟩, by rw [← r.length]; exact After.here s h _ (.int _)⟩
    | _ => exact lists rx h
theorem cd_dlen {c : Bool} : CallD X Wx (rLen X.K) (BI.ev .dlen c) := fun σ w S H ds vs Q s rs h => by
  match ds, rs with
  | [], _ => exact h.elim
  | x :: y :: t, _ => exact h.elim
  | [x], rs =>
    obtain ⟨v, rfl, rx⟩ := reps1 rs
    unfold BI.ev at h
    simp only at h
    split at h
    · rename_i ks e
      obtain ⟨a, ws, rfl, hd, rk⟩ := dict_at s rx e
      exact .inr ⟨a, ws, rfl, hd, by rw [← rk.len]; exact After.here s h _ (.int _)⟩
    · exact h.elim
theorem cd_abs {c : Bool} : CallD X Wx (fun xs H Q => ∃ i, xs = [.int i] ∧ Q (.int (if i < 0 then -i else i)) H) (BI.ev .abs c) := fun σ w S H ds vs Q s rs h => by
  match ds, rs with
  | [], _ => exact h.elim
  | x :: y :: t, _ => cases x <;> exact h.elim
  | [x], rs =>
    obtain ⟨v, rfl, rx⟩ := reps1 rs
    cases x with
    | int i =>
      cases rx
      exact ⟨i, rfl, After.here s h _ (.int _)⟩
    | _ => exact h.elim
theorem reps3 {K : PySem.W.Frag} {w : Wd} {d e f : D} {vs : List V} (r : Reps K w [d, e, f] vs) : ∃ v u t, vs = [v, u, t] ∧ Rep K w d v ∧ Rep K w e u ∧ Rep K w f t := by
  cases r with
  | cons r1 r2 =>
    obtain ⟨v, u, rfl, r3, r4⟩ := reps2 r2
    exact ⟨_, v, u, rfl, r1, r3, r4⟩
theorem vals3' {x y z : V} {us : List Value} (r : Vals [x, y, z] us) : ∃ u w' t', us = [u, w', t'] ∧ RelV x u ∧ RelV y w' ∧ RelV z t' := by
  cases r with
  | cons r1 r2 =>
    obtain ⟨u, w', rfl, r3, r4⟩ := vals2 r2
    exact ⟨_, u, w', rfl, r1, r3, r4⟩
def max3I (i j k : Int) : Int := if j > i then (if k > j then k else j) else (if k > i then k else i)
theorem call_max3 (hc : X.calm = true) : CallR X (.builtin "max") (fun xs H Q => ∃ i j k, xs = [.int i, .int j, .int k] ∧ Q (.int (max3I i j k)) H) := by
  intro pins s σ H xs us Q I r h
  obtain ⟨i, j, k, rfl, q⟩ := h
  obtain ⟨u, w', t', rfl, ⟨t, rfl⟩, ⟨t1, rfl⟩, ⟨t2, rfl⟩⟩ := vals3' r
  refine max_three_ints (I.ok.hd hc) fun h' tk kp => ⟨_, H, I.kept kp, ?_, q⟩
  unfold max3I
  by_cases h1 : j > i <;> by_cases h2 : k > j <;> by_cases h3 : k > i <;> simp only [h1, h2, h3, if_true, if_false] <;> exact ⟨_, rfl⟩
theorem cd_max3 {c : Bool} : CallD X Wx (fun xs H Q => ∃ i j k, xs = [.int i, .int j, .int k] ∧ Q (.int (max3I i j k)) H) (BI.ev .max3 c) := fun σ w S H ds vs Q s rs h => by
  match ds, rs with
  | [], _ => exact h.elim
  | [x], _ => cases x <;> exact h.elim
  | [x, y], _ => cases x <;> cases y <;> exact h.elim
  | x :: y :: z :: t :: r, _ => cases x <;> cases y <;> cases z <;> exact h.elim
  | [x, y, z], rs =>
    obtain ⟨v, u, t, rfl, rx, ry, rz⟩ := reps3 rs
    cases x with
    | int i =>
      cases y with
      | int j =>
        cases z with
        | int k =>
          cases rx
          cases ry
          cases rz
          exact ⟨i, j, k, rfl, After.here s h _ (.int _)⟩
        | _ => exact h.elim
      | _ => exact h.elim
    | _ => exact h.elim
theorem cd_max2 {c : Bool} : CallD X Wx (fun xs H Q => ∃ i j, xs = [.int i, .int j] ∧ Q (.int (if j > i then j else i)) H) (BI.ev .max2 c) := fun σ w S H ds vs Q s rs h => by
  match ds, rs with
  | [], _ => exact h.elim
  | [x], _ => cases x <;> exact h.elim
  | x :: y :: z :: t, _ => cases x <;> cases y <;> exact h.elim
  | [x, y], rs =>
    obtain ⟨v, u, rfl, rx, ry⟩ := reps2 rs
    cases x with
    | int i =>
      cases y with
      | int j =>
        cases rx
        cases ry
        exact ⟨i, j, rfl, After.here s h _ (.int _)⟩
      | _ => exact h.elim
    | _ => exact h.elim
theorem cd_min2 {c : Bool} : CallD X Wx (fun xs H Q => ∃ i j, xs = [.int i, .int j] ∧ Q (.int (if j < i then j else i)) H) (BI.ev .min2 c) := fun σ w S H ds vs Q s rs h => by
  match ds, rs with
  | [], _ => exact h.elim
  | [x], _ => cases x <;> exact h.elim
  | x :: y :: z :: t, _ => cases x <;> cases y <;> exact h.elim
  | [x, y], rs =>
    obtain ⟨v, u, rfl, rx, ry⟩ := reps2 rs
    cases x with
    | int i =>
      cases y with
      | int j =>
        cases rx
        cases ry
        exact ⟨i, j, rfl, After.here s h _ (.int _)⟩
      | _ => exact h.elim
    | _ => exact h.elim
/-- a list of numbers, of truths, where it is -/
theorem ints_at {K : PySem.W.Frag} {mg : Str → Option Value} {w : Wd} {S : Store} {H : Hp} (s : Sim K mg w S H) {x : D} {v : V} {ys : List D} {ns : List Int} (rx : Rep K w x v) (e : x.list? S = some ys) (e2 : asInts ys = some ns) : ∃ a, v = .ref a ∧ SqL K H a (ns.map V.int) := by
  obtain ⟨a, vs, rfl, ha, rvs⟩ := list_at s rx e
  rw [asInts_eq e2] at rvs
  rw [rvs.ints] at ha
  exact ⟨a, rfl, ha⟩
theorem bls_at {K : PySem.W.Frag} {mg : Str → Option Value} {w : Wd} {S : Store} {H : Hp} (s : Sim K mg w S H) {x : D} {v : V} {ys : List D} {ns : List Bool} (rx : Rep K w x v) (e : x.list? S = some ys) (e2 : asBls ys = some ns) : ∃ a, v = .ref a ∧ SqL K H a (ns.map V.bl) := by
  obtain ⟨a, vs, rfl, ha, rvs⟩ := list_at s rx e
  rw [asBls_eq e2] at rvs
  rw [rvs.bls] at ha
  exact ⟨a, rfl, ha⟩
theorem cd_maxL {c : Bool} : CallD X Wx (rMax X.K) (BI.ev .maxL c) := fun σ w S H ds vs Q s rs h => by
  match ds, rs with
  | [], _ => exact h.elim
  | x :: y :: t, _ => exact h.elim
  | [x], rs =>
    obtain ⟨v, rfl, rx⟩ := reps1 rs
    unfold BI.ev at h
    simp only at h
    split at h
    · rename_i ys e
      split at h
      · rename_i ns e2
        split at h
        · rename_i hn
          obtain ⟨a, rfl, ha⟩ := ints_at s rx e e2
          exact ⟨a, ns, rfl, ha, hn, fun m hm hy => by rw [← maxI_spec ns m hm hy]; exact After.here s h _ (.int _)⟩
        · exact h.elim
      · exact h.elim
    · exact h.elim
theorem cd_minL {c : Bool} : CallD X Wx (rMin X.K) (BI.ev .minL c) := fun σ w S H ds vs Q s rs h => by
  match ds, rs with
  | [], _ => exact h.elim
  | x :: y :: t, _ => exact h.elim
  | [x], rs =>
    obtain ⟨v, rfl, rx⟩ := reps1 rs
    unfold BI.ev at h
    simp only at h
    split at h
    · rename_i ys e
      split at h
      · rename_i ns e2
        split at h
        · rename_i hn
          obtain ⟨a, rfl, ha⟩ := ints_at s rx e e2
          exact ⟨a, ns, rfl, ha, hn, fun m hm hy => by rw [← minI_spec ns m hm hy]; exact After.here s h _ (.int _)⟩
        · exact h.elim
      · exact h.elim
    · exact h.elim
theorem cd_sumL {c : Bool} : CallD X Wx (rSum X.K) (BI.ev .sumL c) := fun σ w S H ds vs Q s rs h => by
  match ds, rs with
  | [], _ => exact h.elim
  | x :: y :: t, _ => exact h.elim
  | [x], rs =>
    obtain ⟨v, rfl, rx⟩ := reps1 rs
    unfold BI.ev at h
    simp only at h
    split at h
    · rename_i ys e
      split at h
      · rename_i ns e2
        obtain ⟨a, rfl, ha⟩ := ints_at s rx e e2
        exact ⟨a, ns, rfl, ha, After.here s h _ (.int _)⟩
      · exact h.elim
    · exact h.elim
theorem cd_anyL {c : Bool} : CallD X Wx (rAny X.K) (BI.ev .anyL c) := fun σ w S H ds vs Q s rs h => by
  match ds, rs with
  | [], _ => exact h.elim
  | x :: y :: t, _ => exact h.elim
  | [x], rs =>
    obtain ⟨v, rfl, rx⟩ := reps1 rs
    unfold BI.ev at h
    simp only at h
    split at h
    · rename_i ys e
      split at h
      · rename_i ns e2
        obtain ⟨a, rfl, ha⟩ := bls_at s rx e e2
        exact ⟨a, ns, rfl, ha, After.here s h _ (.bl _)⟩
      · exact h.elim
    · exact h.elim
theorem cd_allL {c : Bool} : CallD X Wx (rAll X.K) (BI.ev .allL c) := fun σ w S H ds vs Q s rs h => by
  match ds, rs with
  | [], _ => exact h.elim
  | x :: y :: t, _ => exact h.elim
  | [x], rs =>
    obtain ⟨v, rfl, rx⟩ := reps1 rs
    unfold BI.ev at h
    simp only at h
    split at h
    · rename_i ys e
      split at h
      · rename_i ns e2
        obtain ⟨a, rfl, ha⟩ := bls_at s rx e e2
        exact ⟨a, ns, rfl, ha, After.here s h _ (.bl _)⟩
      · exact h.elim
    · exact h.elim
theorem cd_tuple {c : Bool} : CallD X Wx (fun xs H Q => ∃ p ys, xs = [.ref p] ∧ ((SqL X.K H p ys ∧ ∀ l, H l = none → Q (.ref l) (upd H l (.tup ys))) ∨ (SqT X.K H p ys ∧ Q (.ref p) H))) (BI.ev .tuple c) := fun σ w S H ds vs Q s rs h => by
  match ds, rs with
  | [], _ => exact h.elim
  | x :: y :: t, _ => cases x <;> exact h.elim
  | [x], rs =>
    obtain ⟨v, rfl, rx⟩ := reps1 rs
    have lists : After X.K X.mg Wx σ w S H (match x.list? S with | some ys => .ok (.tup ys) S | none => .bad) (fun d w' _ H' => ∀ v, Rep X.K w' d v → Q v H') → ∃ p ys, [v] = [V.ref p] ∧ ((SqL X.K H p ys ∧ ∀ l, H l = none → Q (.ref l) (upd H l (.tup ys))) ∨ (SqT X.K H p ys ∧ Q (.ref p) H)) := fun h => by
      split at h
      · rename_i ys e
        obtain ⟨a, us, rfl, ha, rvs⟩ := list_at s rx e
        refine ⟨a, us, rfl, .inl ⟨ha, fun p hp => ?_⟩⟩
        obtain ⟨w', q1, q2⟩ := new_tup s rvs h p hp
        exact q1 _ q2
      · exact h.elim
    cases x with
    | tup ys =>
      cases rx with
      | tup q r => exact ⟨_, _, rfl, .inr ⟨SqT_same s.le q, After.here s h _ (.tup q r)⟩⟩
    | _ => exact lists h
theorem cd_list {c : Bool} : CallD X Wx (fun xs H Q => ∃ p ys, xs = [.ref p] ∧ (SqL X.K H p ys ∨ SqT X.K H p ys) ∧ ∀ l, H l = none → Q (.ref l) (upd H l (.lst ys))) (BI.ev .list c) := fun σ w S H ds vs Q s rs h => by
  match ds, rs with
  | [], _ => exact h.elim
  | x :: y :: t, _ => cases x <;> exact h.elim
  | [x], rs =>
    obtain ⟨v, rfl, rx⟩ := reps1 rs
    have fin : ∀ {ys : List D} {us : List V}, Reps X.K w ys us → After X.K X.mg Wx σ w S H (mkL c ys S) (fun d w' _ H' => ∀ v, Rep X.K w' d v → Q v H') → ∀ l, H l = none → Q (.ref l) (upd H l (.lst us)) := fun {ys us} r h p hp => by
      obtain ⟨d, w', S', q1, q2⟩ := (new_list s r h).2 p hp
      exact q1 _ q2
    have lists : After X.K X.mg Wx σ w S H (match x.list? S with | some ys => mkL c ys S | none => .bad) (fun d w' _ H' => ∀ v, Rep X.K w' d v → Q v H') → ∃ p ys, [v] = [V.ref p] ∧ (SqL X.K H p ys ∨ SqT X.K H p ys) ∧ ∀ l, H l = none → Q (.ref l) (upd H l (.lst ys)) := fun h => by
      split at h
      · rename_i ys e
        obtain ⟨a, us, rfl, ha, rvs⟩ := list_at s rx e
        exact ⟨a, us, rfl, .inl ha, fin rvs h⟩
      · exact h.elim
    cases x with
    | tup ys =>
      cases rx with
      | tup q r => exact ⟨_, _, rfl, .inr (SqT_same s.le q), fin r h⟩
    | _ => exact lists h
theorem cd_int {c : Bool} : CallD X Wx (fun xs H Q => (∃ i, xs = [.int i] ∧ Q (.int i) H) ∨ ∃ k, xs = [.bl k] ∧ Q (.int (if k then 1 else 0)) H) (BI.ev .int c) := fun σ w S H ds vs Q s rs h => by
  match ds, rs with
  | [], _ => exact h.elim
  | x :: y :: t, _ => cases x <;> exact h.elim
  | [x], rs =>
    obtain ⟨v, rfl, rx⟩ := reps1 rs
    cases x with
    | int i =>
      cases rx
      exact .inl ⟨i, rfl, After.here s h _ (.int _)⟩
    | bl i =>
      cases rx
      exact .inr ⟨i, rfl, After.here s h _ (.int _)⟩
    | _ => exact h.elim

/-- a tuple of a list's items, known to have no dict -/
theorem call_tupleN : CallR X (.type "tuple") (fun xs H Q => ∃ p ys, xs = [.ref p] ∧ SqL X.K H p ys ∧ ∀ l o, H l = none → o.cls = .type "tuple" → o.dict = none → Q (.ref l) (upd H l (.frz o (.tup ys)))) := by
  intro pins s σ H xs us Q I r h
  obtain ⟨p, ys, rfl, hq, q⟩ := h
  obtain ⟨u, rfl, rx⟩ := vals1 r
  cases rx
  obtain ⟨its, r', pl, hz⟩ := I.list hq
  have hlen := r'.length
  refine call_tuple_list pl.isList (fun h' kp => ?_) (by simp only [List.size_toArray] <;> omega)
  have I1 : Inv X pins σ H { s with heap := h' } := I.kept (t' := s.toks) kp
  have I2 : Inv X pins σ (upd H h'.objs.size (.frz { cls := .type "tuple", data := .seq its.toArray } (.tup ys))) { s with heap := h'.push { cls := .type "tuple", data := .seq its.toArray } } :=
    I1.laid (t' := s.toks) (fun b o e => Heap.get?_push_of_some _ e) (Nat.le_refl _) (show ObjOk X.prog X.w _ _ _ (.frz _ (.tup ys)) from ⟨Heap.get?_push_size h' rfl, hz, its, r', IsTup.new _ _⟩)
  exact ⟨.ref h'.objs.size, _, I2, rfl, q _ _ (I1.hok.fresh (Nat.le_refl _)) rfl rfl⟩
theorem cd_tupn {c : Bool} : CallD X Wx (fun xs H Q => ∃ p ys, xs = [.ref p] ∧ SqL X.K H p ys ∧ ∀ l o, H l = none → o.cls = .type "tuple" → o.dict = none → Q (.ref l) (upd H l (.frz o (.tup ys)))) (BI.ev .tupn c) := fun σ w S H ds vs Q s rs h => by
  match ds, rs with
  | [], _ => exact h.elim
  | x :: y :: t, _ => exact h.elim
  | [x], rs =>
    obtain ⟨v, rfl, rx⟩ := reps1 rs
    unfold BI.ev at h
    simp only at h
    split at h
    · rename_i ys e
      obtain ⟨a, us, rfl, ha, rvs⟩ := list_at s rx e
      refine ⟨a, us, rfl, ha, fun p o hp h1 h2 => ?_⟩
      exact h _ _ (ext_put s hp) _ (.ctp (.inr ⟨o, upd_same, h1, h2⟩) (rvs.mono (Wd.put_le (s.free hp))))
    · exact h.elim
theorem insI_perm (x : Int) : ∀ l : List Int, (insI x l).Perm (x :: l)
  | [] => List.Perm.refl _
  | y :: r => by
    unfold insI
    split
    · exact List.Perm.refl _
    · exact ((insI_perm x r).cons y).trans (List.Perm.swap x y r)
theorem sortInts_perm : ∀ l : List Int, (sortInts l).Perm l
  | [] => List.Perm.refl _
  | x :: r => (insI_perm x _).trans ((sortInts_perm r).cons x)
theorem insI_sorted {x : Int} : ∀ {l : List Int}, l.Pairwise (· ≤ ·) → (insI x l).Pairwise (· ≤ ·)
  | [], _ => by simp [insI]
  | y :: r, h => by
    unfold insI
    obtain ⟨h1, h2⟩ := List.pairwise_cons.1 h
    split
    · rename_i hx
      refine List.pairwise_cons.2 ⟨fun z hz => ?_, h⟩
      rcases List.mem_cons.1 hz with e | hz
      · omega
      · exact Int.le_trans hx (h1 z hz)
    · rename_i hx
      refine List.pairwise_cons.2 ⟨fun z hz => ?_, insI_sorted h2⟩
      rcases List.mem_cons.1 ((insI_perm x r).mem_iff.1 hz) with e | hz
      · omega
      · exact h1 z hz
theorem sortInts_sorted : ∀ l : List Int, (sortInts l).Pairwise (· ≤ ·)
  | [] => List.Pairwise.nil
  | _ :: r => insI_sorted (sortInts_sorted r)
theorem sorted_eq : ∀ {a b : List Int}, a.Pairwise (· ≤ ·) → b.Pairwise (· ≤ ·) → a.Perm b → a = b
  | [], b, _, _, p => (List.nil_perm.1 p).symm
  | x :: r, [], _, _, p => absurd p.symm (by simp)
  | x :: r, y :: t, ha, hb, p => by
    obtain ⟨h1, h2⟩ := List.pairwise_cons.1 ha
    obtain ⟨h3, h4⟩ := List.pairwise_cons.1 hb
    have e : x = y := by
      have m1 : x ∈ y :: t := p.mem_iff.1 (by simp)
      have m2 : y ∈ x :: r := p.mem_iff.2 (by simp)
      rcases List.mem_cons.1 m1 with e | m1
      · exact e
      · rcases List.mem_cons.1 m2 with e | m2
        · exact e.symm
        · have := h1 y m2; have := h3 x m1; omega
    subst e
    rw [sorted_eq h2 h4 (List.Perm.cons_inv p)]
theorem cd_sortI {c : Bool} : CallD X Wx (rSortedI X.K) (BI.ev .sortI c) := fun σ w S H ds vs Q s rs h => by
  match ds, rs with
  | [], _ => exact h.elim
  | x :: y :: t, _ => exact h.elim
  | [x], rs =>
    obtain ⟨v, rfl, rx⟩ := reps1 rs
    unfold BI.ev at h
    simp only at h
    split at h
    · rename_i ys e
      split at h
      · rename_i ns e2
        obtain ⟨a, rfl, ha⟩ := ints_at s rx e e2
        refine ⟨a, ns, rfl, ha, fun ns' p hp hs hn => ?_⟩
        have e3 : ns' = sortInts ns := sorted_eq hs (sortInts_sorted ns) (hp.trans (sortInts_perm ns).symm)
        subst e3
        obtain ⟨d, w', S', q1, q2⟩ := (new_list s (reps_ints (K := X.K) (w := w) (sortInts ns)) h).2 p hn
        exact q1 _ q2
      · exact h.elim
    · exact h.elim
/-- repr of plain data -/
theorem call_reprD (hg : Clr X.A) (hu : X.A.units + 70 < cLine) : CallR X (.builtin "repr") (fun xs H Q => ∃ y d, xs = [y] ∧ Dp X.K H y d ∧ shownOk d = true ∧ Q (.str d.shown) H) := by
  intro pins s σ H xs us Q I r h
  obtain ⟨y, d, rfl, hd, hs, q⟩ := h
  obtain ⟨u, rfl, ry⟩ := vals1 r
  have big : ∀ {d : PyData} {b : Addr}, RelV (.ref b) u → Dp X.K H (.ref b) d → SeqAt.shaped d = true → d.showable = true → lineOk d.shown.length = true → Q (.str d.shown) H → wpAny (model X.prog X.w) X.A (call (.builtin "repr") [u]) (EP X pins σ Q) X.xe s := by
    intro d b rb hb h1 h2 h3 q
    cases rb
    obtain ⟨as, rd⟩ := Dp.reads I d _ _ hb rfl
    have dep : d.depth ≤ 64 := by
      unfold SeqAt.shaped at h1
      rw [Bool.and_eq_true, decide_eq_true_eq] at h1
      exact h1.2
    refine repr_of_reads' (h₀ := s.heap) rd h2 (PyData.noDict_hsm (PyData.hasDict_of_canLay d (SeqAt.canLay_of_shaped h1))) hg (by omega) (fun _ _ z => z) (fun h' u' tk kp => ?_) (by rw [sizeLine_eq]; exact of_decide_eq_true h3)
    exact ⟨.str d.shown, H, I.kept (t' := tk) kp, ⟨_, rfl⟩, q⟩
  cases hd with
  | int i =>
    obtain ⟨t, rfl⟩ := ry
    exact PySem.P.repr_of_int (of_decide_eq_true hs) ⟨.str _, H, I.tok _, ⟨_, rfl⟩, q⟩
  | lst a b =>
    simp only [shownOk, Bool.and_eq_true] at hs
    exact big ry (.lst a b) hs.1.1 hs.1.2 hs.2 q
  | tup a b =>
    simp only [shownOk, Bool.and_eq_true] at hs
    exact big ry (.tup a b) hs.1.1 hs.1.2 hs.2 q
  | _ => cases hs
theorem cd_repr {c : Bool} : CallD X Wx (fun xs H Q => ∃ y d, xs = [y] ∧ Dp X.K H y d ∧ shownOk d = true ∧ Q (.str d.shown) H) (BI.ev .repr c) := fun σ w S H ds vs Q s rs h => by
  match ds, rs with
  | [], _ => exact h.elim
  | x :: y :: t, _ => exact h.elim
  | [x], rs =>
    obtain ⟨v, rfl, rx⟩ := reps1 rs
    unfold BI.ev at h
    simp only at h
    split at h
    · rename_i p e
      split at h
      · rename_i hs
        exact ⟨v, p, rfl, Dp_ofS s rx e, hs, After.here s h _ (.str _)⟩
      · exact h.elim
    · exact h.elim
def rSortedD (K : PySem.W.Frag) : List V → Hp → VK → Prop := fun vs H Q => ∃ (a : Addr) (xs : List V) (bs : List D), vs = [V.ref a] ∧ SqL K H a xs ∧ PySem.W.EachIs (fun x b => Dp K H x (encD b)) xs bs ∧ SortOk bs ∧
  ∀ ys p, PySem.W.EachIs (fun y b => (y, b) ∈ xs.zip bs) ys (sortDs bs) → H p = none → Q (.ref p) (upd H p (.lst ys))
theorem each_vals {xs : List V} {bs : List D} : ∀ {its : List Value} {xs' : List V} {bs' : List D}, Vals xs' its → PySem.W.EachIs (fun (_ : V) (_ : D) => True) xs' bs' → (∀ p ∈ xs'.zip bs', p ∈ xs.zip bs) → PySem.W.EachIs (fun v b => ∃ x, RelV x v ∧ (x, b) ∈ xs.zip bs) its bs'
  | _, [], [], r, _, _ => by cases r; exact .nil
  | _, x :: xs', b :: bs', r, e, h => by
    cases r with
    | cons r1 r2 =>
      cases e with
      | cons _ e2 => exact .cons ⟨x, r1, h (x, b) (by simp)⟩ (each_vals r2 e2 fun p hp => h p (by simp [hp]))
  | _, [], _ :: _, _, e, _ => by cases e
  | _, _ :: _, [], _, e, _ => by cases e
theorem vals_each {R : V → D → Prop} : ∀ {out : List Value} {bs : List D}, PySem.W.EachIs (fun v b => ∃ x, RelV x v ∧ R x b) out bs → ∃ ys, Vals ys out ∧ PySem.W.EachIs R ys bs
  | _, _, .nil => ⟨[], .nil, .nil⟩
  | _, _, .cons ⟨x, h1, h2⟩ t => by
    obtain ⟨ys, v, e⟩ := vals_each t
    exact ⟨x :: ys, .cons h1 v, .cons h2 e⟩
theorem each_dp {K : PySem.W.Frag} {w : Wd} {H : Hp} (e : Same w.G H) : ∀ {ys : List D} {us : List V}, Reps K w ys us → (∀ y ∈ ys, y.toP = some (encD y)) → PySem.W.EachIs (fun x b => Dp K H x (encD b)) us ys
  | _, _, .nil, _ => .nil
  | _, _, .cons r t, h => .cons (Dp_of e r (h _ (List.mem_cons_self ..))) (each_dp e t fun y q => h y (List.mem_cons_of_mem _ q))
theorem reps_zip {K : PySem.W.Frag} {w : Wd} : ∀ {ys : List D} {us : List V}, Reps K w ys us → ∀ p ∈ us.zip ys, Rep K w p.2 p.1
  | _, _, .nil, p, hp => by simp at hp
  | _, _, .cons r t, p, hp => by
    rw [List.zip_cons_cons] at hp
    rcases List.mem_cons.1 hp with rfl | hp
    · exact r
    · exact reps_zip t p hp
theorem reps_each {K : PySem.W.Frag} {w : Wd} {us : List V} {ys : List D} (h : ∀ p ∈ us.zip ys, Rep K w p.2 p.1) : ∀ {zs : List V} {ds : List D}, PySem.W.EachIs (fun y b => (y, b) ∈ us.zip ys) zs ds → Reps K w ds zs
  | _, _, .nil => .nil
  | _, _, .cons a t => .cons (h _ a) (reps_each h t)
theorem call_sortD (hu : X.A.units + 70 < cLine) : CallR X (.builtin "sorted") (rSortedD X.K) := by
  intro pins s σ H vs us Q I r h
  obtain ⟨a, xs, bs, rfl, hs, he, hok, q⟩ := h
  obtain ⟨its, rv, hl, hz⟩ := I.list hs
  rw [Vals.ref1 r]
  have hlen : its.length = bs.length := by rw [← rv.length, he.length]
  have e1 : PySem.W.EachIs (fun v b => ∃ x, RelV x v ∧ (x, b) ∈ xs.zip bs) its bs := each_vals rv (he.mono fun _ _ _ => trivial) fun p hp => hp
  refine PySem.W.sorted_data (bs := bs) (enc := encD) hl.isList e1 ?_ hok.alike hok.sortable (by rw [sizeLine_eq]; exact hok.len) (fun b hb => by have := hok.depth b hb; omega) fun out ho heo => ?_
  · refine e1.mono fun v b hx => ?_
    obtain ⟨x, rx, hm⟩ := hx
    exact Dp.reads I _ _ _ (he.zip _ hm) rx
  · obtain ⟨ys, vy, ey⟩ := vals_each heo
    obtain ⟨ep, he'⟩ := PyProof.Rows.sortedAll_at s.heap its out.toArray
    have hly : ys.length ≤ sizeLine := by
      rw [vy.length, ho, sizeLine_eq]
      exact hok.len
    exact ⟨.ref _, upd H (s.heap.objs.size + 1) (.lst ys), I.laid (t' := s.toks) (fun _ _ => PyProof.Rows.sortedAll_old) (Nat.le_succ _) ⟨hly, out, ep, vy, he'⟩, rfl, q _ _ ey (I.hok.fresh (Nat.le_succ _))⟩
theorem cd_sortD {c : Bool} : CallD X Wx (rSortedD X.K) (BI.ev .sortD c) := fun σ w S H ds vs Q s rs h => by
  match ds, rs with
  | [], _ => exact h.elim
  | x :: y :: t, _ => exact h.elim
  | [x], rs =>
    obtain ⟨v, rfl, rx⟩ := reps1 rs
    unfold BI.ev at h
    simp only at h
    unfold sortDEv at h
    split at h
    · rename_i ys e
      split at h
      · rename_i hok
        replace hok := sortOk_iff.1 hok
        obtain ⟨a, us, rfl, ha, rvs⟩ := list_at s rx e
        refine ⟨a, us, ys, rfl, ha, each_dp s.le rvs hok.enc, hok, fun zs p hz hp => ?_⟩
        obtain ⟨d, w', S', q1, q2⟩ := (new_list s (reps_each (reps_zip rvs) hz) h).2 p hp
        exact q1 _ q2
      · exact h.elim
    · exact h.elim
/-! dicts copied, made of pairs, their keys -/
theorem cd_dictD {c : Bool} : CallD X Wx (fun xs H Q => ∃ (a : Addr) (kvs : List (Key × V)), xs = [.ref a] ∧ Rd H a (.dK kvs) ∧ ∀ p, H p = none → Q (.ref p) (upd H p (.dK kvs))) (BI.ev .dictD c) := fun σ w S H ds vs Q s rs h => by
  match ds, rs with
  | [], _ => exact h.elim
  | x :: y :: t, _ => exact h.elim
  | [x], rs =>
    obtain ⟨v, rfl, rx⟩ := reps1 rs
    unfold BI.ev at h
    simp only at h
    split at h
    · rename_i ks e
      obtain ⟨a, ws, rfl, hd, rk⟩ := dict_at s rx e
      refine ⟨a, ws, rfl, hd, fun p hp => h _ _ (ext_cell (c := .dK ks) s hp ⟨ws, rfl, rk⟩) _ ?_⟩
      have := Rep.loc (K := X.K) (w := w.cell p) (n := S.length) (by show S.length < w.N + 1; rw [s.len]; exact Nat.lt_succ_self _)
      rwa [s.len, Wd.cell_m, ← s.len] at this
    · exact h.elim
theorem merge_rep {w : Wd} : ∀ {more : List (Key × D)} {ms : List (Key × V)} {ks : List (Key × D)} {ws : List (Key × V)}, RepK X.K w more ms → RepK X.K w ks ws → RepK X.K w (mergeD ks more) (mergeK ws ms)
  | _, _, _, _, .nil, r => r
  | _, _, ks, ws, @RepK.cons _ _ k d' v' ds vs rd t, r => by
    show RepK X.K w (mergeD (putD ks k d') ds) (mergeK (putK ws k v') vs)
    exact merge_rep t (r.put rd)
theorem pairs_at {w : Wd} {S : Store} {H : Hp} (s : Sim X.K X.mg w S H) : ∀ {ys : List D} {us : List V} {ks : List (Key × D)}, Reps X.K w ys us → pairsK ys = some ks →
    ∃ (ps : List Addr) (kvs : List (Key × V)), us = ps.map V.ref ∧ Paired (fun p kv => SqT X.K H p [kV kv.1, kv.2]) ps kvs ∧ RepK X.K w ks kvs
  | _, _, _, .nil, e => by
    simp only [pairsK] at e
    cases e
    exact ⟨[], [], rfl, .nil, .nil⟩
  | _, _, _, .cons (d := d) r t, e => by
    unfold pairsK at e
    split at e
    · rename_i h; cases h
    · rename_i k v rest h
      cases h
      split at e
      · rename_i k' s' e1 e2
        cases e
        obtain ⟨ps, kvs, rfl, q1, q2⟩ := pairs_at s t e2
        cases r with
        | tup hq rr =>
          rename_i a vs
          cases rr with
          | cons rk rr =>
            cases rr with
            | cons rv rr =>
              cases rr
              have ek := keyD_v e1 rk
              subst ek
              rename_i vv
              exact ⟨a :: ps, (k', vv) :: kvs, rfl, .cons (SqT_same s.le hq) q1, .cons rv q2⟩
      · cases e
    · cases e
theorem cd_dictP {c : Bool} : CallD X Wx (fun xs H Q => ∃ (a : Addr) (ps : List Addr) (kvs : List (Key × V)), xs = [.ref a] ∧ SqL X.K H a (ps.map V.ref) ∧ Paired (fun p kv => SqT X.K H p [kV kv.1, kv.2]) ps kvs ∧ ∀ p, H p = none → Q (.ref p) (upd H p (.dK (mergeK [] kvs)))) (BI.ev .dictP c) := fun σ w S H ds vs Q s rs h => by
  match ds, rs with
  | [], _ => exact h.elim
  | x :: y :: t, _ => exact h.elim
  | [x], rs =>
    obtain ⟨v, rfl, rx⟩ := reps1 rs
    unfold BI.ev at h
    simp only at h
    split at h
    · rename_i ys e
      split at h
      · rename_i ks e2
        obtain ⟨a, us, rfl, ha, rvs⟩ := list_at s rx e
        obtain ⟨ps, kvs, rfl, q1, q2⟩ := pairs_at s rvs e2
        refine ⟨a, ps, kvs, rfl, ha, q1, fun p hp => h _ _ (ext_cell (c := .dK (mergeD [] ks)) s hp ⟨_, rfl, merge_rep q2 .nil⟩) _ ?_⟩
        have := Rep.loc (K := X.K) (w := w.cell p) (n := S.length) (by show S.length < w.N + 1; rw [s.len]; exact Nat.lt_succ_self _)
        rwa [s.len, Wd.cell_m, ← s.len] at this
      · exact h.elim
    · exact h.elim
theorem keys_rep {w : Wd} : ∀ {ks : List (Key × D)} {ws : List (Key × V)}, RepK X.K w ks ws → Reps X.K w (ks.map fun kv => dKey kv.1) (ws.map fun kv => kV kv.1)
  | _, _, .nil => .nil
  | _, _, .cons _ t => .cons (dKey_rep _) (keys_rep t)
theorem cd_listD {c : Bool} : CallD X Wx (fun xs H Q => ∃ (a : Addr) (kvs : List (Key × V)), xs = [.ref a] ∧ Rd H a (.dK kvs) ∧ ∀ p, H p = none → Q (.ref p) (upd H p (.lst (kvs.map fun kv => kV kv.1)))) (BI.ev .listD c) := fun σ w S H ds vs Q s rs h => by
  match ds, rs with
  | [], _ => exact h.elim
  | x :: y :: t, _ => exact h.elim
  | [x], rs =>
    obtain ⟨v, rfl, rx⟩ := reps1 rs
    unfold BI.ev at h
    simp only at h
    split at h
    · rename_i ks e
      obtain ⟨a, ws, rfl, hd, rk⟩ := dict_at s rx e
      refine ⟨a, ws, rfl, hd, fun p hp => ?_⟩
      obtain ⟨d, w', S', q1, q2⟩ := (new_list s (keys_rep rk) h).2 p hp
      exact q1 _ q2
    · exact h.elim
theorem leK_trans (a b c : Key) (h1 : leK a b = true) (h2 : leK b c = true) : leK a c = true := by
  cases a <;> cases b <;> cases c <;> simp only [leK, decide_eq_true_eq, Bool.false_eq_true] at h1 h2 ⊢
  · omega
  · exact List.le_trans h1 h2
theorem leK_total (a b : Key) : (leK a b || leK b a) = true := by
  cases a with
  | inl i =>
    cases b with
    | inl j => simp only [leK, Bool.or_eq_true, decide_eq_true_eq]; omega
    | inr y => rfl
  | inr x =>
    cases b with
    | inl j => rfl
    | inr y =>
      simp only [leK, Bool.or_eq_true, decide_eq_true_eq]
      exact List.le_total _ _
theorem leK_anti {a b : Key} (h1 : leK a b = true) (h2 : leK b a = true) : a = b := by
  cases a <;> cases b <;> simp only [leK, decide_eq_true_eq, Bool.false_eq_true] at h1 h2
  · congr 1; omega
  · rename_i x y
    have e := List.le_antisymm h1 h2
    have : x.cps = y.cps := Array.toList_inj.1 e
    cases x; cases y; cases this; rfl
theorem sortK_sorted (ks : List Key) : (sortK ks).Pairwise fun a b => leK a b = true := List.pairwise_mergeSort leK_trans (fun a b => leK_total a b) ks
theorem sortK_perm (ks : List Key) : (sortK ks).Perm ks := List.mergeSort_perm ks leK
theorem sortK_uniq : ∀ {a b : List Key}, (a.Pairwise fun a b => leK a b = true) → (b.Pairwise fun a b => leK a b = true) → a.Perm b → a = b
  | [], b, _, _, p => (List.nil_perm.1 p).symm
  | x :: r, [], _, _, p => absurd p.symm (by simp)
  | x :: r, y :: t, ha, hb, p => by
    obtain ⟨h1, h2⟩ := List.pairwise_cons.1 ha
    obtain ⟨h3, h4⟩ := List.pairwise_cons.1 hb
    have e : x = y := by
      have m1 : x ∈ y :: t := p.mem_iff.1 (by simp)
      have m2 : y ∈ x :: r := p.mem_iff.2 (by simp)
      rcases List.mem_cons.1 m1 with e | m1
      · exact e
      · rcases List.mem_cons.1 m2 with e | m2
        · exact e.symm
        · exact leK_anti (h1 y m2) (h3 x m1)
    subst e
    rw [sortK_uniq h2 h4 (List.Perm.cons_inv p)]
theorem sortK_eq {a b : List Key} (p : a.Perm b) : sortK a = sortK b := sortK_uniq (sortK_sorted a) (sortK_sorted b) ((sortK_perm a).trans (p.trans (sortK_perm b).symm))
theorem not_ltCps {x y : List Nat} (h : (!ltCps y x) = true) : x ≤ y := by
  rw [PyProof.Rows.ltCps_eq] at h
  exact List.not_lt.mp (by simpa using h)
theorem risingS_pw : ∀ (x : Str) (r : List Str), PyProof.Rows.sortedS (x :: r) = true → (∀ y ∈ r, x.cps.toList ≤ y.cps.toList) ∧ PyProof.Rows.sortedS r = true
  | x, [], _ => ⟨fun y q => by simp at q, rfl⟩
  | x, y :: r, h => by
    have h : PyProof.Rows.risingS x (y :: r) = true := h
    unfold PyProof.Rows.risingS at h
    rw [Bool.and_eq_true] at h
    obtain ⟨h1, h2⟩ : x.cps.toList ≤ y.cps.toList ∧ PyProof.Rows.sortedS (y :: r) = true := ⟨not_ltCps h.1, h.2⟩
    obtain ⟨h3, h4⟩ := risingS_pw y r h2
    refine ⟨fun z q => ?_, h2⟩
    rcases List.mem_cons.1 q with rfl | q
    · exact h1
    · exact List.le_trans h1 (h3 z q)
theorem sortedS_pw : ∀ (ys : List Str), PyProof.Rows.sortedS ys = true → (ys.map Sum.inr : List Key).Pairwise fun a b => leK a b = true
  | [], _ => .nil
  | x :: r, h => by
    obtain ⟨h1, h2⟩ := risingS_pw x r h
    rw [List.map_cons]
    refine List.pairwise_cons.2 ⟨fun b q => ?_, sortedS_pw r h2⟩
    obtain ⟨y, m, rfl⟩ := List.mem_map.1 q
    exact decide_eq_true (h1 y m)
theorem strs_of_keys : ∀ (ks : List Key), (ks.all fun k => !isInl k) = true → ∃ ss : List Str, ks = ss.map Sum.inr
  | [], _ => ⟨[], rfl⟩
  | .inl i :: r, h => by simp [isInl] at h
  | .inr x :: r, h => by
    simp only [List.all_cons, Bool.and_eq_true] at h
    obtain ⟨ss, e⟩ := strs_of_keys r h.2
    exact ⟨x :: ss, by rw [e]; rfl⟩
theorem keys_same {w : Wd} : ∀ {ks : List (Key × D)} {ws : List (Key × V)}, RepK X.K w ks ws → ks.map (·.1) = ws.map (·.1)
  | _, _, .nil => rfl
  | _, _, .cons _ t => by rw [List.map_cons, List.map_cons, keys_same t]
theorem cd_sortK {c : Bool} : CallD X Wx (fun xs H Q => ∃ (a : Addr) (kvs : List (Key × V)) (ks : List Str), xs = [.ref a] ∧ Rd H a (.dK kvs) ∧ kvs.map (·.1) = ks.map Sum.inr ∧ ks.length < 64 ∧
    ∀ ys p, ys.Perm ks → PyProof.Rows.sortedS ys = true → H p = none → Q (.ref p) (upd H p (.lst (ys.map V.str)))) (BI.ev .sortK c) := fun σ w S H ds vs Q s rs h => by
  match ds, rs with
  | [], _ => exact h.elim
  | x :: y :: t, _ => exact h.elim
  | [x], rs =>
    obtain ⟨v, rfl, rx⟩ := reps1 rs
    unfold BI.ev at h
    simp only at h
    split at h
    · rename_i ks e
      obtain ⟨a, ws, rfl, hd, rk⟩ := dict_at s rx e
      split at h
      · rename_i hc
        simp only [Bool.and_eq_true, decide_eq_true_eq] at hc
        have e1 := keys_same rk
        obtain ⟨ss, e2⟩ := strs_of_keys (ks.map (·.1)) (by rw [List.all_map]; exact hc.1)
        refine ⟨a, ws, ss, rfl, hd, by rw [← e1, e2], by rw [← List.length_map (f := Sum.inr (α := Int)), ← e2, List.length_map]; exact hc.2, fun ys p hp hso hn => ?_⟩
        have e3 : DL.sortK (ks.map (·.1)) = ys.map Sum.inr := by
          rw [e2]
          exact sortK_uniq (sortK_sorted _) (sortedS_pw ys hso) ((sortK_perm _).trans (hp.symm.map _))
        rw [e3, List.map_map] at h
        obtain ⟨d, w', S', q1, q2⟩ := (new_list s (vs := ys.map V.str) (by
          clear e3 hso hp h
          induction ys with
          | nil => exact .nil
          | cons y r ih => exact .cons (.str y) ih) h).2 p hn
        exact q1 _ q2
      · exact h.elim
    · exact h.elim
/-- the name of a built-in function, what it is -/
def BI.nm : BI → Str
  | .dictD => "dict" | .dictP => "dict" | .listD => "list" | .sortK => "sorted" | .repr => "repr" | .tupn => "tuple" | .sortI => "sorted" | .sortD => "sorted" | .dlen => "len" | .len => "len" | .abs => "abs" | .max3 => "max" | .max2 => "max" | .min2 => "min" | .maxL => "max" | .minL => "min" | .sumL => "sum" | .anyL => "any" | .allL => "all" | .tuple => "tuple" | .list => "list" | .int => "int"
theorem bi_rule (hc : X.calm = true) (hg : Clr X.A) (hu : X.A.units + 70 < cLine) (f : BI) (c : Bool) : (∃ id r, CallR X (.builtin id) r ∧ CallD X Wx r (f.ev c) ∧ bootBuiltins f.nm = some (.builtin id)) ∨ (∃ T r, CallR X (.type T) r ∧ CallD X Wx r (f.ev c) ∧ bootBuiltins f.nm = some (.type T)) := by
  cases f with
  | dictD => exact .inr ⟨_, _, call_dictD, cd_dictD, by decide +kernel⟩
  | dictP => exact .inr ⟨_, _, call_dictP hc, cd_dictP, by decide +kernel⟩
  | listD => exact .inr ⟨_, _, call_listD hc, cd_listD, by decide +kernel⟩
  | sortK => exact .inl ⟨_, _, L2.call_sortedD hc, cd_sortK, by decide +kernel⟩
  | repr => exact .inl ⟨_, _, call_reprD hg hu, cd_repr, by decide +kernel⟩
  | tupn => exact .inr ⟨_, _, call_tupleN, cd_tupn, by decide +kernel⟩
  | sortD => exact .inl ⟨_, _, call_sortD hu, cd_sortD, by decide +kernel⟩
  | sortI => exact .inl ⟨_, _, cr_sortedI, cd_sortI, by decide +kernel⟩
  | dlen => exact .inl ⟨_, _, call_lenD, cd_dlen, PySem.boot_len⟩
  | len => exact .inl ⟨_, _, call_lenD, cd_len, PySem.boot_len⟩
  | abs => exact .inl ⟨_, _, call_abs, cd_abs, by decide +kernel⟩
  | max3 => exact .inl ⟨_, _, call_max3 hc, cd_max3, by decide +kernel⟩
  | max2 => exact .inl ⟨_, _, call_max2 hc, cd_max2, by decide +kernel⟩
  | min2 => exact .inl ⟨_, _, call_min2 hc, cd_min2, by decide +kernel⟩
  | maxL => exact .inl ⟨_, _, cr_max hc, cd_maxL, by decide +kernel⟩
  | minL => exact .inl ⟨_, _, cr_min hc, cd_minL, by decide +kernel⟩
  | sumL => exact .inl ⟨_, _, cr_sum hc, cd_sumL, by decide +kernel⟩
  | anyL => exact .inl ⟨_, _, cr_any hc, cd_anyL, by decide +kernel⟩
  | allL => exact .inl ⟨_, _, cr_all hc, cd_allL, by decide +kernel⟩
  | tuple => exact .inr ⟨_, _, call_tuple_of, cd_tuple, by decide +kernel⟩
  | list => exact .inr ⟨_, _, call_list_of, cd_list, by decide +kernel⟩
  | int => exact .inr ⟨_, _, call_int1, cd_int, by decide +kernel⟩
theorem bi_plain (f : BI) : f.nm ≠ "__name__" ∧ (f.nm == ("__debug__" : Str)) = false := by
  cases f <;> exact ⟨by decide, by decide⟩

/-! ### isinstance -/
def Ty.nm : Ty → Str
  | .int => "int" | .bool => "bool" | .str => "str" | .tuple => "tuple" | .list => "list" | .dict => "dict"
def Ty.st : Ty → String
  | .int => "int" | .bool => "bool" | .str => "str" | .tuple => "tuple" | .list => "list" | .dict => "dict"
theorem Ty.boot (t : Ty) : bootBuiltins t.nm = some (.type t.st) := by cases t <;> decide +kernel
theorem Ty.plain (t : Ty) : t.nm ≠ "__name__" ∧ (t.nm == ("__debug__" : Str)) = false := by cases t <;> exact ⟨by decide, by decide⟩
theorem tyX_of {K : PySem.W.Frag} {mg : Str → Option Value} {w : Wd} {S : Store} {H : Hp} (s : Sim K mg w S H) {x : D} {v : V} {t : Ty} {b : Bool} (rx : Rep K w x v) (h : tyEv S t x = some b) :
    ∃ T : String, TyX K H v (.type T) ∧ ∀ (t : Ty) (b : Bool), tyEv S t x = some b → PySem.W.kitOne K (.type T) (.type t.st) = some b := by
  cases x with
  | non => cases rx; exact ⟨"NoneType", .base .non, fun t b h => by cases h; exact kit_ty (a := "NoneType") (by cases t <;> decide +kernel)⟩
  | bl y => cases rx; exact ⟨"bool", .base (.bl y), fun t b h => by cases h; exact kit_ty (a := "bool") (by cases t <;> decide +kernel)⟩
  | int i => cases rx; exact ⟨"int", .base (.int i), fun t b h => by cases h; exact kit_ty (a := "int") (by cases t <;> decide +kernel)⟩
  | str i => cases rx; exact ⟨"str", .base (.str i), fun t b h => by cases h; exact kit_ty (a := "str") (by cases t <;> decide +kernel)⟩
  | tup i =>
    have k : ∀ (t : Ty) (b : Bool), tyEv S t (.tup i) = some b → PySem.W.kitOne K (.type "tuple") (.type t.st) = some b := fun t b h => by cases h; exact kit_ty (a := "tuple") (by cases t <;> decide +kernel)
    cases rx with
    | tup q r =>
      rcases SqT_same s.le q with (q | ⟨o, q⟩) | ⟨o, its, n, q, hc, _⟩
      · exact ⟨"tuple", .base (.tup q), k⟩
      · exact ⟨"tuple", .fTuple q, k⟩
      · exact ⟨"tuple", .kTuple q hc, k⟩
  | lst i =>
    cases rx with
    | lst q r => exact ⟨"list", .base (.lst (s.le _ _ q)), fun t b h => by cases h; exact kit_ty (a := "list") (by cases t <;> decide +kernel)⟩
  | dK i =>
    have k : ∀ (t : Ty) (b : Bool), tyEv S t (.dK i) = some b → PySem.W.kitOne K (.type "dict") (.type t.st) = some b := fun t b h => by cases h; exact kit_ty (a := "dict") (by cases t <;> decide +kernel)
    cases rx with
    | dK q r =>
      obtain ⟨o, q⟩ := q
      exact ⟨"dict", .fDict (s.le _ _ q), k⟩
  | scr i =>
    have k : ∀ (t : Ty) (b : Bool), tyEv S t (.scr i) = some b → PySem.W.kitOne K (.type "list") (.type t.st) = some b := fun t b h => by cases h; exact kit_ty (a := "list") (by cases t <;> decide +kernel)
    cases rx with
    | scr q =>
      rcases s.le.seq q with (q | ⟨o, q⟩) | ⟨o, its, n, q, hc, _⟩
      · exact ⟨"list", .base (.lst q), k⟩
      · exact ⟨"list", .base (.frz q), k⟩
      · exact ⟨"list", .kList q hc, k⟩
  | loc n =>
    simp only [tyEv] at h
    split at h
    · rename_i xs e
      have k : ∀ (t : Ty) (b : Bool), tyEv S t (.loc n) = some b → PySem.W.kitOne K (.type "list") (.type t.st) = some b := fun t b h => by
        simp only [tyEv, e] at h
        cases h
        exact kit_ty (a := "list") (by cases t <;> decide +kernel)
      cases rx with
      | loc hn =>
        obtain ⟨o, e1, vs, rfl, r⟩ := s.cell n _ e
        exact ⟨"list", .base (.lst e1), k⟩
    · rename_i kvs e
      have k : ∀ (t : Ty) (b : Bool), tyEv S t (.loc n) = some b → PySem.W.kitOne K (.type "dict") (.type t.st) = some b := fun t b h => by
        simp only [tyEv, e] at h
        cases h
        exact kit_ty (a := "dict") (by cases t <;> decide +kernel)
      cases rx with
      | loc hn =>
        obtain ⟨o, e1, vs, rfl, r⟩ := s.cell n _ e
        exact ⟨"dict", .base (.dK e1), k⟩
    · cases h
  | _ => cases h
theorem tyX_all {K : PySem.W.Frag} {mg : Str → Option Value} {w : Wd} {S : Store} {H : Hp} (s : Sim K mg w S H) {x : D} {v : V} (rx : Rep K w x v) {t0 : Ty} {ts0 : List Ty} {b : Bool} (h : tyEvs S (t0 :: ts0) x = some b) :
    ∃ T : String, TyX K H v (.type T) ∧ PySem.W.kitAny K (.type T) ((t0 :: ts0).map fun t => Value.type t.st) = some b := by
  have one : ∃ b0, tyEv S t0 x = some b0 := by
    simp only [tyEvs] at h
    split at h
    · exact ⟨_, by assumption⟩
    · exact ⟨_, by assumption⟩
    · cases h
  obtain ⟨b0, h0⟩ := one
  obtain ⟨T, ty, all⟩ := tyX_of s rx h0
  refine ⟨T, ty, ?_⟩
  have key : ∀ (ts : List Ty) (b : Bool), tyEvs S ts x = some b → PySem.W.kitAny K (.type T) (ts.map fun t => Value.type t.st) = some b := by
    intro ts
    induction ts with
    | nil => intro b h; cases h; exact kitAny_nil
    | cons t ts ih =>
      intro b h
      simp only [tyEvs] at h
      split at h
      · rename_i e
        cases h
        exact kitAny_cons (all _ _ e) (fun z => nomatch z) fun _ => rfl
      · rename_i e
        exact kitAny_cons (all _ _ e) (fun _ => ih b h) fun z => nomatch z
      · cases h
  exact key _ b h
theorem pe_isiD {e : Expr} {a : Ex} {t : Ty} {p : Pos} {p2 : Pos} (ha : PE X e (xE X Wx (sem Γ a))) (hg : Gl X "isinstance") (hm : X.mg "isinstance" = none) (hg2 : Gl X t.nm) (hm2 : X.mg t.nm = none)
    (he : starEach [e, .Name t.nm p2] X.env = (false, eval e X.env) :: starEach [.Name t.nm p2] X.env) : PE X (.Call (.Name "isinstance" p) [e, .Name t.nm p2] [] pos) (xE X Wx (sem Γ (.isi t a))) := by
  have h2 : PE X (.Name t.nm p2) (tC (.ty t.st)) := pe_bltn hg2 hm2 t.boot rfl t.plain.1 t.plain.2
  refine PE_imp (pe_callB call_isi hg hm (by decide +kernel) (pa_cons ha (pa_cons h2 pa_nil rfl) he) (by decide) (by decide) he rfl) fun σ H Q ⟨ρ, w, S, s, r, h⟩ => ?_
  simp only [sem] at h
  refine ⟨ρ, w, S, s, r, (After.split s h).imp fun d w1 S1 H1 _ x1 ⟨_, h1⟩ v rv => ?_⟩
  split at h1
  · rename_i b eb
    obtain ⟨T, ty, k⟩ := tyX_of x1.sim rv eb
    exact ⟨v, .ty t.st, _, _, b, rfl, .ty _, ty, k _ _ eb, After.here x1.sim h1 _ (.bl _)⟩
  · exact h1.elim
/-- the names of types, as arguments -/
def isTys : List Ty → List Expr → Prop
  | [], [] => True
  | t :: ts, .Name x _ :: es => x = t.nm ∧ Gl X x ∧ X.mg x = none ∧ isTys ts es
  | _, _ => False
theorem pa_tys : ∀ {ts : List Ty} {es : List Expr}, isTys (X := X) ts es → PA X es fun _ H Q => Q (ts.map fun t => V.ty t.st) H
  | [], [], _ => PA_imp pa_nil fun _ _ _ h => h
  | t :: ts, .Name x p :: es, h => by
    obtain ⟨rfl, h2, h3, h4⟩ := h
    have h5 : PE X (.Name t.nm p) (tC (.ty t.st)) := pe_bltn h2 h3 t.boot rfl t.plain.1 t.plain.2
    exact PA_imp (pa_cons h5 (pa_tys h4) rfl) fun _ _ _ h => h
theorem paired_tys : ∀ ts : List Ty, Paired ClsV (ts.map fun t => V.ty t.st) (ts.map fun t => Value.type t.st)
  | [] => .nil
  | t :: ts => .cons (.ty _) (paired_tys ts)
theorem pe_isiTD {e : Expr} {es : List Expr} {a : Ex} {t0 : Ty} {ts0 : List Ty} {p p2 : Pos} {k} (ha : PE X e (xE X Wx (sem Γ a))) (hg : Gl X "isinstance") (hm : X.mg "isinstance" = none) (hl : (t0 :: ts0).length ≤ sizeLine) (ht : isTys (X := X) (t0 :: ts0) es)
    (he : starEach [e, .Tuple es k p2] X.env = (false, eval e X.env) :: starEach [.Tuple es k p2] X.env) : PE X (.Call (.Name "isinstance" p) [e, .Tuple es k p2] [] pos) (xE X Wx (sem Γ (.isiT (t0 :: ts0) a))) := by
  refine PE_imp (pe_callB call_isiT hg hm (by decide +kernel) (pa_cons ha (pa_cons (pe_tup (pa_tys ht)) pa_nil rfl) he) (by decide) (by decide) he rfl) fun σ H Q ⟨ρ, w, S, s, r, h⟩ => ?_
  simp only [sem] at h
  refine ⟨ρ, w, S, s, r, (After.split s h).imp fun d w1 S1 H1 _ x1 ⟨_, h1⟩ v rv => ?_⟩
  split at h1
  · rename_i b eb
    refine ⟨by simpa using hl, fun q hq => ?_⟩
    have x2 := ext_own (o := .tup ((t0 :: ts0).map fun t => V.ty t.st)) x1.sim hq
    obtain ⟨T, ty, kk⟩ := tyX_all x2.sim (rv.mono x2.wle) eb
    exact ⟨v, q, _, _, _, b, rfl, upd_same, paired_tys _, ty, kk, h1 _ _ x2 _ (.bl _)⟩
  · exact h1.elim
end
end DL

/-! DLr: ranges of any numbers. -/
namespace DL
open PySem PySem.Spec PyProof.Rows L2
theorem turn_long {P : Program} {w : World} {K : PySem.W.Frag} {tg : Expr} (it : Addr) (lo : Int) (n : Nat) : Turn P w K tg (Itr lo n) [it] it (fun i h => IsLongIter h it (lo + (i : Nat) * 1) ((n : Int) - (i : Nat)) 1) where
  mem := by simp
  obj := fun i h st b hb => by
    have e : b = it := by simpa using hb
    subst e
    exact ⟨_, st, fun v z => by
      have z' : Data.fields _ = Data.cell v := z
      cases z'⟩
  keep := fun i h h' st k => k it (by simp) _ st
  item := by
    intro X hP hw hK hc i pins s σ H E I hf st hg
    subst hP hw hK
    obtain ⟨f0, f1, f2, f3, f4, f5⟩ := hf it (by simp)
    have W := Walks.longrange (prog := X.prog) (w := X.w) (I.ok.hd hc) it lo 1 n
    refine W.item i s _ _ hg st fun v h' tk hv st' kk => ?_
    obtain ⟨t, rfl⟩ := hv
    have I1 : Inv X pins σ H { s with heap := h', toks := tk } := I.turned (fun b o hb e => kk b o (by simpa using hb) e) f0 f1 f3 f4 f5
    refine ⟨_, rfl, go_of (s := { s with heap := h', toks := tk }) (n := "longrange_iterator") st' rfl rfl (by decide) ⟨.int (lo + i), H, I1, ⟨t, ?_⟩, ⟨rfl, rfl⟩, st', fun b hb => (hf b hb).1⟩⟩
    rw [Int.mul_one]
  done := by
    intro X hP hw hK hc i pins s σ H E I hf st hg
    subst hP hw hK
    obtain ⟨f0, f1, f2, f3, f4, f5⟩ := hf it (by simp)
    exact wpAny_pyNext_long_end (I.ok.hd hc) st (by have : n ≤ i := hg; omega) fun h' eb => ⟨rfl, I.turned (t' := s.toks) (fun b o hb e => eb b o hb e) f0 f1 f3 f4 f5⟩
  self := fun _ _ _ _ _ st h => wpAny_pyIter_longiter st h
section
variable {X : Cx} {tg : Expr}
theorem range_itW {pins : List (Addr × Obj)} {σ : L2.St} {H : Hp} {s : Shared} {R : It → Hp → Prop} {E : Value → Shared → Prop} {lo hi : Int} {t u v : Tok} {tk : Nat} (I : Inv X pins σ H s)
    (q : R (Itr lo (hi - lo).toNat) H) : wpAny (model X.prog X.w) X.A (pyIter (.ref s.heap.objs.size)) (PIE X pins σ tg R) E { s with heap := s.heap.push { cls := .type "range", data := .fields #[.int lo t, .int hi u, .int 1 v] }, toks := tk } := by
  have I1 : Inv X pins σ H { s with heap := s.heap.push { cls := .type "range", data := .fields #[.int lo t, .int hi u, .int 1 v] }, toks := tk } := I.kept fun b o e => Heap.get?_push_of_some _ e
  have e1 : lo + ((0 : Nat) : Int) * 1 = lo := by simp
  have e2 : (((hi - lo).toNat : Nat) : Int) - ((0 : Nat) : Int) = Builtin.Range.rangeSize lo hi 1 := by rw [rangeSize_one]; split <;> omega
  cases hs : Builtin.Range.small lo hi 1 with
  | true =>
    refine wpAny_pyIter_range (IsRange.new ..) hs ?_
    refine ⟨(s.heap.push { cls := .type "range", data := .fields #[.int lo t, .int hi u, .int 1 v] }).objs.size, [(s.heap.push { cls := .type "range", data := .fields #[.int lo t, .int hi u, .int 1 v] }).objs.size], _, _, H, rfl,
      I1.kept (t' := tk) fun b o e => Heap.get?_push_of_some _ e, turn_range _ lo (hi - lo).toNat, ?_, fun b hb => ?_, q⟩
    · show IsRangeIter _ _ (lo + ((0 : Nat) : Int) * 1) ((((hi - lo).toNat : Nat) : Int) - ((0 : Nat) : Int)) 1
      rw [e1, e2]
      exact Heap.get?_push_size _ rfl
    · have e : b = (s.heap.push { cls := .type "range", data := .fields #[.int lo t, .int hi u, .int 1 v] }).objs.size := by simpa using hb
      subst e
      exact I1.fpOk (Nat.le_refl _) (I1.hok.fresh (Nat.le_refl _))
  | false =>
    refine wpAny_pyIter_longrange (IsRange.new ..) hs ?_
    refine ⟨(s.heap.push { cls := .type "range", data := .fields #[.int lo t, .int hi u, .int 1 v] }).objs.size, [(s.heap.push { cls := .type "range", data := .fields #[.int lo t, .int hi u, .int 1 v] }).objs.size], _, _, H, rfl,
      I1.kept (t' := tk) fun b o e => Heap.get?_push_of_some _ e, turn_long _ lo (hi - lo).toNat, ?_, fun b hb => ?_, q⟩
    · show IsLongIter _ _ (lo + ((0 : Nat) : Int) * 1) ((((hi - lo).toNat : Nat) : Int) - ((0 : Nat) : Int)) 1
      rw [e1, e2]
      exact Heap.get?_push_size _ rfl
    · have e : b = (s.heap.push { cls := .type "range", data := .fields #[.int lo t, .int hi u, .int 1 v] }).objs.size := by simpa using hb
      subst e
      exact I1.fpOk (Nat.le_refl _) (I1.hok.fresh (Nat.le_refl _))
def iRng1W (ta : TA) : TI := fun σ H R => ta σ H fun vs H1 => ∃ j : Int, vs = [.int j] ∧ R (Itr 0 j.toNat) H1
def iRng2W (ta : TA) : TI := fun σ H R => ta σ H fun vs H1 => ∃ i j : Int, vs = [.int i, .int j] ∧ R (Itr i (j - i).toNat) H1
theorem pi_range1W {a : Expr} {ta : TA} {p pos : Pos} (hg : Gl X "range") (hm : X.mg "range" = none) (ha : PA X [a] ta) (hs : starEach [a] X.env = [(false, eval a X.env)] := by rfl) : PI X tg (.Call (.Name "range" p) [a] [] pos) (iRng1W ta) := by
  refine ⟨fun pins s σ H R I h => ?_⟩
  refine Call_ (ld_blt I hg hm boot_range (PyProof.Rows.callWith_type1 (thn (ha.run pos pins s σ H _ I h) fun us s1 ⟨vs, H1, I1, r1, q1⟩ => ?_) hs rfl))
  obtain ⟨j, e, q⟩ := q1
  subst e
  cases r1 with
  | cons r rr =>
    cases rr
    obtain ⟨t, rfl⟩ := r
    exact call_range_1 (range_itW I1 (by simpa using q))
theorem pi_range2W {a b : Expr} {ta : TA} {p pos : Pos} (hg : Gl X "range") (hm : X.mg "range" = none) (ha : PA X [a, b] ta) (hs : starEach [a, b] X.env = [(false, eval a X.env), (false, eval b X.env)] := by rfl) (hs2 : starEach [b] X.env = [(false, eval b X.env)] := by rfl) :
    PI X tg (.Call (.Name "range" p) [a, b] [] pos) (iRng2W ta) := by
  refine ⟨fun pins s σ H R I h => ?_⟩
  refine Call_ (ld_blt I hg hm boot_range (PyProof.Rows.callWith_type1 (thn (ha.run pos pins s σ H _ I h) fun us s1 ⟨vs, H1, I1, r1, q1⟩ => ?_) (by rw [hs, hs2]) (by rw [hs2]; rfl)))
  obtain ⟨i, j, e, q⟩ := q1
  subst e
  cases r1 with
  | cons r rr =>
    cases rr with
    | cons r' rr =>
      cases rr
      obtain ⟨t, rfl⟩ := r
      obtain ⟨t', rfl⟩ := r'
      exact call_range_2 (range_itW I1 q)
end
end DL

/-! DLg: methods, targets, what is walked. -/
namespace DL
open PySem PySem.Spec PyProof.Rows L2

section
variable {X : Cx} {Wx : WX} {Γ : Gm} {pos : Pos}
/-! ### methods -/
def MtD (X : Cx) (Wx : WX) (r : V → List V → Hp → VK → Prop) (f : D → List D → Store → Res D) : Prop := ∀ (σ : L2.St) (w : Wd) (S : Store) (H : Hp) (x : D) (ds : List D) (v : V) (vs : List V) (Q : VK), Sim X.K X.mg w S H → Rep X.K w x v → Reps X.K w ds vs →
  After X.K X.mg Wx σ w S H (f x ds S) (fun d w' _ H' => ∀ v, Rep X.K w' d v → Q v H') → r v vs H Q
theorem cell_at {K : PySem.W.Frag} {mg : Str → Option Value} {w : Wd} {S : Store} {H : Hp} (s : Sim K mg w S H) {n : Nat} {ys : List D} (e : S[n]? = some (some (.lst ys))) : ∃ vs, H (w.m n) = some (.lst vs) ∧ Reps K w ys vs := by
  obtain ⟨o, e1, vs, rfl, r⟩ := s.cell n _ e
  exact ⟨vs, e1, r⟩
theorem md_append : MtD X Wx rAppend (MI.ev .append) := fun σ w S H x ds v vs Q s rx rs h => by
  unfold MI.ev at h
  split at h <;> first | exact h.elim | skip
  all_goals first | (rename_i q; cases q; done) | skip
  rename_i n y
  split at h
  · rename_i ys e
    split at h
    · rename_i hl
      cases rx
      obtain ⟨u, rfl, ry⟩ := reps1 rs
      obtain ⟨us, e1, r⟩ := cell_at s e
      have hl := of_decide_eq_true hl
      refine ⟨_, us, u, rfl, rfl, e1, by rw [← r.length, sizeLine_eq]; omega, ?_⟩
      exact h _ _ (ext_set s e ⟨_, rfl, r.append (.cons ry .nil)⟩) _ .non
    · exact h.elim
  · exact h.elim
theorem md_extend : MtD X Wx rExtend (MI.ev .extend) := fun σ w S H x ds v vs Q s rx rs h => by
  unfold MI.ev at h
  split at h <;> first | exact h.elim | skip
  all_goals first | (rename_i q; cases q; done) | skip
  rename_i n y
  split at h
  · rename_i ys zs e e2
    split at h
    · rename_i hl
      cases rx
      obtain ⟨u, rfl, ry⟩ := reps1 rs
      obtain ⟨us, e1, r⟩ := cell_at s e
      obtain ⟨b, ws, rfl, hb, rb⟩ := list_atH s ry e2
      have hl := of_decide_eq_true hl
      refine ⟨_, b, us, ws, rfl, rfl, e1, hb, by rw [← r.length, ← rb.length, sizeLine_eq]; exact hl, ?_⟩
      exact h _ _ (ext_set s e ⟨_, rfl, r.append rb⟩) _ .non
    · exact h.elim
  · exact h.elim
/-- a method's type, its name -/
def MI.nm : MI → Str
  | .split => "split" | .count => "count" | .tcount => "count" | .append => "append" | .extend => "extend" | .pop => "pop" | .popAt => "pop" | .insert => "insert" | .reverse => "reverse" | .index => "index" | .tindex => "index" | .join => "join"
structure MtOk (X : Cx) (Wx : WX) (m : MI) : Prop where
  ex : ∃ (T id : String) (r : V → List V → Hp → VK → Prop), PlainAttrs T ∧ Slot T m.nm id ∧ typeOf (.builtin id) = pure (.type "method_descriptor") ∧ MtR X id r ∧ MtD X Wx r m.ev ∧
    ∀ w S H x v, Sim X.K X.mg w S H → Rep X.K w x v → m.recv x S = true → tyN X.K T v H
theorem recv_list {w : Wd} {S : Store} {H : Hp} {x : D} {v : V} (s : Sim X.K X.mg w S H) (rx : Rep X.K w x v) (h : (x.list? S).isSome = true) : tyN X.K "list" v H := by
  obtain ⟨ys, e⟩ := Option.isSome_iff_exists.mp h
  obtain ⟨a, vs, rfl, ha, _⟩ := list_at s rx e
  exact .inl (.inl ⟨rfl, vs, ha⟩)
def MI.known : MI → Bool
  | .split => true | .pop => true | .popAt => true | .insert => true | .count => true | .tcount => true | .append => true | .extend => true | .index => true | .tindex => true | .join => true | _ => false
theorem md_index : MtD X Wx (rIndexD X.K) (MI.ev .index) := fun σ w S H x ds v vs Q s rx rs h => by
  have key : ∀ y : D, ds = [y] → After X.K X.mg Wx σ w S H (match x.toPS S, y.toPS S with
    | some (.list es), some d => if SeqAt.shaped (.list es) && SeqAt.shaped d then (match es.findIdx? fun z => PyData.eqv z d with
      | some j => Res.ok (.int (j : Nat)) S
      | none => .bad) else .bad
    | _, _ => .bad) (fun d w' _ H' => ∀ v, Rep X.K w' d v → Q v H') → rIndexD X.K v vs H Q := fun y ey h => by
    rename_i h0
    clear h0
    subst ey
    obtain ⟨u, rfl, ry⟩ := reps1 rs
    split at h
    · rename_i es d e1 e2
      split at h
      · rename_i hs
        rw [Bool.and_eq_true] at hs
        split at h
        · rename_i j ej
          obtain ⟨hj, h1, h2⟩ := List.findIdx?_eq_some_iff_getElem.1 ej
          have hd := Dp_ofS s rx e1
          obtain ⟨a, rfl⟩ : ∃ a, v = V.ref a := by cases hd; exact ⟨_, rfl⟩
          refine ⟨a, u, d, es, j, es[j], rfl, rfl, hd, Dp_ofS s ry e2, hs.1, hs.2, List.getElem?_eq_getElem hj, h1, fun m z' hm hz => ?_, After.here s h _ (.int _)⟩
          obtain ⟨hml, hz⟩ := List.getElem?_eq_some_iff.1 hz
          have := h2 m hm
          rw [hz] at this
          simpa using this
        · exact h.elim
      · exact h.elim
    · exact h.elim
  unfold MI.ev at h
  split at h <;> first | exact h.elim | skip
  all_goals first | (rename_i q; cases q; done) | skip
  exact key _ rfl h
theorem strs_of : ∀ {xs : List D} {ys : List Str}, asStrs xs = some ys → xs = ys.map D.str
  | [], ys, h => by unfold asStrs at h; cases h; rfl
  | x :: r, ys, h => by
    cases x with
    | str i =>
      rw [asStrs] at h
      cases e : asStrs r with
      | none => rw [e] at h; cases h
      | some s =>
        rw [e] at h
        cases h
        rw [List.map_cons, strs_of e]
    | _ => simp [asStrs] at h
theorem seqD_at {w : Wd} {S : Store} {H : Hp} {y : D} {u : V} {xs : List D} (s : Sim X.K X.mg w S H) (ry : Rep X.K w y u) (h : seqD S y = some xs) : ∃ p vs, u = .ref p ∧ (SqL X.K H p vs ∨ SqT X.K H p vs) ∧ Reps X.K w xs vs := by
  unfold seqD at h
  split at h
  · cases h
    cases ry with
    | tup q r => exact ⟨_, _, rfl, .inr (SqT_same s.le q), r⟩
  · cases h
    cases ry with
    | ctp q r => exact ⟨_, _, rfl, .inr (SqT_same s.le q.sq), r⟩
  · obtain ⟨a, vs, rfl, ha, rvs⟩ := list_at s ry h
    exact ⟨a, vs, rfl, .inl ha, rvs⟩
theorem md_join : MtD X Wx (fun x xs H Q => ∃ a p, ∃ ys : List Str, x = .str a ∧ xs = [.ref p] ∧ (SqL X.K H p (ys.map V.str) ∨ SqT X.K H p (ys.map V.str)) ∧
    (ys.map (·.length)).sum + ys.length * a.length ≤ 16777216 ∧ Q (.str (Txt.join a ys)) H) (MI.ev .join) := fun σ w S H x ds v vs Q s rx rs h => by
  cases rx with
  | str a => _
  | _ => rcases ds with _ | ⟨y, _ | ⟨z, r⟩⟩ <;> exact h.elim
  rcases ds with _ | ⟨y, _ | ⟨z, r⟩⟩
  · exact h.elim
  rotate_left
  · exact h.elim
  simp only [MI.ev] at h
  split at h
  · rename_i xs e1
    split at h
    · rename_i ys e2
      split at h
      · rename_i hl
        obtain ⟨u, rfl, ry⟩ := reps1 rs
        obtain ⟨p, us, rfl, hp, r⟩ := seqD_at s ry e1
        have e3 := strs_of e2
        subst e3
        have e4 := r.strs
        subst e4
        exact ⟨a, p, ys, rfl, rfl, hp, hl, After.here s h _ (.str _)⟩
      · exact h.elim
    · exact h.elim
  · exact h.elim
theorem recv_str {w : Wd} {S : Store} {H : Hp} {x : D} {v : V} (rx : Rep X.K w x v) (h : MI.recv .join x S = true) : tyN X.K "str" v H := by
  cases rx <;> first | exact .inl rfl | (cases h; done)
theorem md_tindex : MtD X Wx (fun x xs H Q => ∃ p, ∃ ys : List Str, ∃ z j, x = .ref p ∧ xs = [.str z] ∧ SqT X.K H p (ys.map V.str) ∧ ys[j]? = some z ∧ (∀ m, m < j → ys[m]? ≠ some z) ∧ Q (.int (j : Nat)) H) (MI.ev .tindex) := fun σ w S H x ds v vs Q s rx rs h => by
  cases x with
  | ctp xs =>
    rcases ds with _ | ⟨y, _ | ⟨z, r⟩⟩
    · exact h.elim
    rotate_left
    · cases y <;> exact h.elim
    cases y with
    | str z =>
      simp only [MI.ev] at h
      split at h
      · rename_i ys e1
        split at h
        · rename_i j ej
          obtain ⟨hj, h1, h2⟩ := List.findIdx?_eq_some_iff_getElem.1 ej
          cases rx with
          | ctp q rr =>
            have e3 := strs_of e1
            subst e3
            have e4 := rr.strs
            subst e4
            obtain ⟨u, rfl, ru⟩ := reps1 rs
            cases ru
            refine ⟨_, ys, z, j, rfl, rfl, SqT_same s.le q.sq, ?_, fun m hm e => ?_, After.here s h _ (.int _)⟩
            · rw [List.getElem?_eq_getElem hj]
              simpa using h1
            · have := h2 m hm
              obtain ⟨hml, e⟩ := List.getElem?_eq_some_iff.1 e
              rw [e] at this
              simp at this
        · exact h.elim
      · exact h.elim
    | _ => exact h.elim
  | _ => rcases ds with _ | ⟨y, _ | ⟨z, r⟩⟩ <;> exact h.elim
theorem recv_ctp {w : Wd} {S : Store} {H : Hp} {a : Addr} {vs : List V} (s : Sim X.K X.mg w S H) (q : TupN X.K w.G a vs) : tyN X.K "tuple" (.ref a) H := by
  rcases q with ⟨o, its, n, h1, h2, h3, _⟩ | ⟨o, h1, h2, h3⟩
  · exact .inl (.inr (.inl ⟨rfl, o, h1, h2, h3⟩))
  · exact .inr ⟨rfl, a, o, vs, rfl, s.le _ _ h1, h2, h3⟩
theorem md_count : MtD X Wx (rCnt X.K false) (MI.ev .count) := fun σ w S H x ds v vs Q s rx rs h => by
  rcases ds with _ | ⟨y, _ | ⟨z, r⟩⟩
  · cases x <;> exact h.elim
  rotate_left
  · cases x <;> exact h.elim
  simp only [MI.ev] at h
  split at h
  · rename_i es d e1 e2
    split at h
    · rename_i hs
      rw [Bool.and_eq_true] at hs
      obtain ⟨u, rfl, ry⟩ := reps1 rs
      exact ⟨u, d, es, rfl, Dp_ofS s ry e2, Dp_ofS s rx e1, hs.1, hs.2, After.here s h _ (.int _)⟩
    · exact h.elim
  · exact h.elim
theorem md_tcount : MtD X Wx (rCnt X.K true) (MI.ev .tcount) := fun σ w S H x ds v vs Q s rx rs h => by
  cases x with
  | ctp xs =>
    rcases ds with _ | ⟨y, _ | ⟨z, r⟩⟩
    · exact h.elim
    rotate_left
    · exact h.elim
    simp only [MI.ev] at h
    split at h
    · rename_i es d e1 e2
      split at h
      · rename_i hs
        rw [Bool.and_eq_true] at hs
        obtain ⟨u, rfl, ry⟩ := reps1 rs
        cases rx with
        | ctp q rr => exact ⟨u, d, es, rfl, Dp_ofS s ry e2, .tup (SqT_same s.le q.sq) (DpAll_of s.le rr e1), hs.1, hs.2, After.here s h _ (.int _)⟩
      · exact h.elim
    · exact h.elim
  | _ => rcases ds with _ | ⟨y, _ | ⟨z, r⟩⟩ <;> exact h.elim
theorem md_pop : MtD X Wx rPop (MI.ev .pop) := fun σ w S H x ds v vs Q s rx rs h => by
  cases x with
  | loc n =>
    rcases ds with _ | ⟨y, r⟩
    · simp only [MI.ev] at h
      split at h
      · rename_i ys e
        split at h
        · rename_i d ed
          cases rx
          cases rs
          obtain ⟨us, e1, r⟩ := cell_at s e
          obtain ⟨u, h1, h2⟩ := r.get ed
          refine ⟨_, us, u, rfl, rfl, e1, by rw [← r.length]; exact h1, ?_⟩
          have x1 := ext_set s e (c' := .lst ys.dropLast) ⟨us.dropLast, rfl, r.dropLast⟩
          exact h _ _ x1 _ (h2.mono x1.wle)
        · exact h.elim
      · exact h.elim
    · exact h.elim
  | _ => rcases ds with _ | ⟨y, r⟩ <;> exact h.elim
theorem md_popAt : MtD X Wx rPopAt (MI.ev .popAt) := fun σ w S H x ds v vs Q s rx rs h => by
  cases x with
  | loc n =>
    rcases ds with _ | ⟨y, _ | ⟨z, r⟩⟩
    · exact h.elim
    rotate_left
    · cases y <;> exact h.elim
    cases y with
    | int k =>
      simp only [MI.ev] at h
      split at h
      · rename_i ys e
        split at h
        · rename_i j ej
          split at h
          · rename_i hl
            split at h
            · rename_i d ed
              cases rx
              obtain ⟨uk, rfl, rk⟩ := reps1 rs
              cases rk
              obtain ⟨us, e1, r⟩ := cell_at s e
              obtain ⟨u, h1, h2⟩ := r.get ed
              obtain ⟨i1, i2, i3, i4⟩ := ixN_seq ej
              have hl := of_decide_eq_true hl
              refine ⟨_, us, k, j, u, rfl, rfl, e1, by omega, by omega, by rw [← r.length]; exact i1, h1, ?_⟩
              have x1 := ext_set s e (c' := .lst (ys.eraseIdx j)) ⟨us.eraseIdx j, rfl, r.eraseIdx j⟩
              exact h _ _ x1 _ (h2.mono x1.wle)
            · exact h.elim
          · exact h.elim
        · exact h.elim
      · exact h.elim
    | _ => exact h.elim
  | _ => rcases ds with _ | ⟨y, _ | ⟨z, r⟩⟩ <;> first | exact h.elim | (cases y <;> exact h.elim)
theorem md_insert : MtD X Wx (fun x vs H Q => ∃ (l : Addr) (xs : List V) (i : Int) (y : V), x = .ref l ∧ vs = [.int i, y] ∧ H l = some (.lst xs) ∧ xs.length < sizeLine ∧ 0 ≤ i ∧ i < 2 ^ 63 ∧ Q .non (upd H l (.lst (xs.take i.toNat ++ [y] ++ xs.drop i.toNat)))) (MI.ev .insert) := fun σ w S H x ds v vs Q s rx rs h => by
  cases x with
  | loc n =>
    rcases ds with _ | ⟨y, _ | ⟨z, _ | ⟨u, r⟩⟩⟩
    · exact h.elim
    · cases y <;> exact h.elim
    · cases y with
      | int k =>
        simp only [MI.ev] at h
        split at h
        · rename_i ys e
          split at h
          · rename_i hl
            rw [Bool.and_eq_true] at hl
            have h1 := of_decide_eq_true hl.1
            have h2 := of_decide_eq_true hl.2
            cases rx
            obtain ⟨uk, uz, rfl, rk, rz⟩ := reps2 rs
            cases rk
            obtain ⟨us, e1, r⟩ := cell_at s e
            refine ⟨_, us, k, uz, rfl, rfl, e1, by rw [← r.length, sizeLine_eq]; omega, h2.1, h2.2, ?_⟩
            have x1 := ext_set s e (c' := .lst (ys.take k.toNat ++ [z] ++ ys.drop k.toNat)) ⟨us.take k.toNat ++ [uz] ++ us.drop k.toNat, rfl, ((r.take _).append (.cons rz .nil)).append (r.drop _)⟩
            exact h _ _ x1 _ .non
          · exact h.elim
        · exact h.elim
      | _ => exact h.elim
    · cases y <;> exact h.elim
  | _ =>
    rcases ds with _ | ⟨y, _ | ⟨z, _ | ⟨u, r⟩⟩⟩
    · exact h.elim
    · cases y <;> exact h.elim
    · cases y <;> exact h.elim
    · cases y <;> exact h.elim
theorem reps_txts {K : PySem.W.Frag} {w : Wd} : ∀ ns : List Str, Reps K w (ns.map D.str) (ns.map V.str)
  | [] => .nil
  | n :: ns => .cons (.str n) (reps_txts ns)
theorem md_split : MtD X Wx (fun x xs H Q => ∃ a b, x = .str a ∧ xs = [.str b] ∧ (b.length == 0) = false ∧ a.length + 2 ≤ sizeLine ∧ rNewStrs (Txt.split a b) H Q) (MI.ev .split) := fun σ w S H x ds v vs Q s rx rs h => by
  cases x with
  | str a =>
    rcases ds with _ | ⟨y, _ | ⟨z, r⟩⟩
    · exact h.elim
    rotate_left
    · cases y <;> exact h.elim
    cases y with
    | str b =>
      simp only [MI.ev] at h
      split at h
      · rename_i hc
        rw [Bool.and_eq_true, Bool.not_eq_true', decide_eq_true_eq] at hc
        cases rx
        obtain ⟨u, rfl, ru⟩ := reps1 rs
        cases ru
        refine ⟨a, b, rfl, rfl, hc.1, by rw [sizeLine_eq]; exact hc.2, fun p hp => ?_⟩
        obtain ⟨d, w', S', q1, q2⟩ := (new_list s (reps_txts (K := X.K) (w := w) (Txt.split a b)) h).2 p hp
        exact q1 _ q2
      · exact h.elim
    | _ => exact h.elim
  | _ => rcases ds with _ | ⟨y, _ | ⟨z, r⟩⟩ <;> first | exact h.elim | (cases y <;> exact h.elim)
theorem recv_str2 {w : Wd} {S : Store} {H : Hp} {x : D} {v : V} (rx : Rep X.K w x v) (h : MI.recv .split x S = true) : tyN X.K "str" v H := by
  cases rx <;> first | exact .inl rfl | (cases h; done)
theorem mt_ok (hu : X.A.units + 65 < cLine) (m : MI) (hm : m.known = true) : MtOk X Wx m := by
  cases m with
  | pop => exact ⟨_, _, _, PySem.F.plainAttrs_list, PySem.F.slot_list_pop, PySem.F.type_list_pop, mt_pop, md_pop, fun w S H x v s r h => recv_list s r h⟩
  | insert => exact ⟨_, _, _, PySem.F.plainAttrs_list, PySem.F.slot_list_insert, PySem.F.type_list_insert, L2.mt_insert, md_insert, fun w S H x v s r h => recv_list s r h⟩
  | popAt => exact ⟨_, _, _, PySem.F.plainAttrs_list, PySem.F.slot_list_pop, PySem.F.type_list_pop, mt_popAt, md_popAt, fun w S H x v s r h => recv_list s r h⟩
  | split => exact ⟨_, _, _, PySem.F.plainAttrs_str, PySem.F.slot_str_split, PySem.F.type_str_split, mt_split, md_split, fun w S H x v s r h => recv_str2 r h⟩
  | append => exact ⟨_, _, _, PySem.F.plainAttrs_list, PySem.F.slot_list_append, PySem.F.type_list_append, mt_append, md_append, fun w S H x v s r h => recv_list s r h⟩
  | extend => exact ⟨_, _, _, PySem.F.plainAttrs_list, PySem.F.slot_list_extend, PySem.F.type_list_extend, mt_extend, md_extend, fun w S H x v s r h => recv_list s r h⟩
  | index => exact ⟨_, _, _, PySem.F.plainAttrs_list, PySem.F.slot_list_index, PySem.F.type_list_index, mt_indexD hu, md_index, fun w S H x v s r h => recv_list s r h⟩
  | tindex => exact ⟨_, _, _, PySem.F.plainAttrs_tuple, PySem.F.slot_tuple_index, PySem.F.type_tuple_index, L2.mt_tup_index, md_tindex, fun w S H x v s r h => by
    cases r with
    | ctp q rr => exact recv_ctp s q
    | _ => cases h⟩
  | count => exact ⟨_, _, _, PySem.F.plainAttrs_list, PySem.F.slot_list_count, PySem.F.type_list_count, mt_countD hu, md_count, fun w S H x v s r h => recv_list s r h⟩
  | tcount => exact ⟨_, _, _, PySem.F.plainAttrs_tuple, PySem.F.slot_tuple_count, PySem.F.type_tuple_count, mt_tcountD hu, md_tcount, fun w S H x v s r h => by
    cases r with
    | ctp q rr => exact recv_ctp s q
    | _ => cases h⟩
  | join => exact ⟨_, _, _, PySem.F.plainAttrs_str, PySem.F.slot_str_join, PySem.F.type_str_join, mt_join, md_join, fun w S H x v s r h => recv_str r h⟩
  | _ => cases hm
theorem pe_methD {o e : Expr} {es : List Expr} {m : MI} {a b : Ex} {as : List Ex} {apos cpos : Pos} (mo : MtOk X Wx m) (ho : PE X o (xE X Wx (sem Γ a))) (ha : PA X (e :: es) (xA X Wx (semL Γ (b :: as)))) (hbase : attributeBase o m.nm X.env (eval o X.env) = eval o X.env)
    (hfew : ((backTo cpos (starEach (e :: es) X.env)).all (fun x => !x.1) && (backToKw cpos (keywordEach [] X.env)).all (fun x => x.1.isSome) && decide ((e :: es).length + ([] : List Keyword).length + (if ([] : List Keyword).isEmpty then 0 else 1) < 30)) = true)
    (hline : (apos.endLine == cpos.line) = true) (hs : starEach (e :: es) X.env = (false, eval e X.env) :: starEach es X.env) (hplain : (backTo cpos (starEach es X.env)).any (·.1) = false) :
    PE X (.Call (.Attribute o m.nm apos) (e :: es) [] cpos) (xE X Wx (sem Γ (.meth m a (b :: as)))) := by
  obtain ⟨T, id, r, pa, sl, ty, mr, md, hv⟩ := mo.ex
  refine PE_imp (pe_bmN pa sl ty mr ho ha hbase hfew hline hs hplain) fun σ H Q ⟨ρ, w, S, s, q, h⟩ => ?_
  simp only [sem] at h
  refine ⟨ρ, w, S, s, q, (After.split s h).imp fun d w1 S1 H1 _ x1 ⟨_, h1⟩ v rv => ?_⟩
  split at h1
  · rename_i hr
    refine ⟨hv _ _ _ _ _ x1.sim rv hr, ρ, w1, S1, x1.sim, q.mono x1.wle, (After.split x1.sim h1).imp fun ds w2 S2 H2 _ x2 ⟨_, h2⟩ vs rvs => ?_⟩
    exact md σ w2 S2 H2 d ds v vs Q x2.sim (rv.mono x2.wle) rvs h2
  · exact h1.elim
theorem pe_meth0D {o : Expr} {m : MI} {a : Ex} {apos cpos : Pos} (mo : MtOk X Wx m) (ho : PE X o (xE X Wx (sem Γ a))) (hbase : attributeBase o m.nm X.env (eval o X.env) = eval o X.env)
    (hline : (apos.endLine == cpos.line) = true) : PE X (.Call (.Attribute o m.nm apos) [] [] cpos) (xE X Wx (sem Γ (.meth m a []))) := by
  obtain ⟨T, id, r, pa, sl, ty, mr, md, hv⟩ := mo.ex
  refine PE_imp (pe_bm0N pa sl ty mr ho hbase hline) fun σ H Q ⟨ρ, w, S, s, q, h⟩ => ?_
  simp only [sem] at h
  refine ⟨ρ, w, S, s, q, (After.split s h).imp fun d w1 S1 H1 _ x1 ⟨_, h1⟩ v rv => ?_⟩
  split at h1
  · rename_i hr
    refine ⟨hv _ _ _ _ _ x1.sim rv hr, ?_⟩
    simp only [semL, Res.ok_bind] at h1
    exact md σ w1 S1 H1 d [] v [] Q x1.sim rv .nil h1
  · exact h1.elim

/-! ### targets -/
mutual
def Tg.slots : Tg → List Nat
  | .nm i => [i]
  | .tup ts => Tg.slotsL ts
def Tg.slotsL : List Tg → List Nat
  | [] => []
  | t :: ts => Tg.slots t ++ Tg.slotsL ts
end
/-- alike but for some slots -/
def SameSt (is : List Nat) (σ σ' : L2.St) : Prop := σ'.length = σ.length ∧ ∀ j, j ∉ is → σ'[j]? = σ[j]?
theorem SameSt.refl (is : List Nat) (σ : L2.St) : SameSt is σ σ := ⟨rfl, fun _ _ => rfl⟩
theorem SameSt.trans {is js : List Nat} {σ σ1 σ2 : L2.St} (a : SameSt is σ σ1) (b : SameSt js σ1 σ2) : SameSt (is ++ js) σ σ2 :=
  ⟨b.1.trans a.1, fun j h => (b.2 j fun z => h (List.mem_append_right _ z)).trans (a.2 j fun z => h (List.mem_append_left _ z))⟩
def xG (X : Cx) (tg : Tg) : TG := fun v σ H Q => ∃ d ρ w S ρ1, Sim X.K X.mg w S H ∧ EnvRep X.K w ρ σ ∧ Rep X.K w d v ∧ bindTg tg d ρ = some ρ1 ∧ ∀ σ', EnvRep X.K w ρ1 σ' → SameSt tg.slots σ σ' → Q σ' H
def xGs (X : Cx) (tgs : List Tg) : TGs := fun vs σ H Q => ∃ ds ρ w S ρ1, Sim X.K X.mg w S H ∧ EnvRep X.K w ρ σ ∧ Reps X.K w ds vs ∧ bindTgs tgs ds ρ = some ρ1 ∧ ∀ σ', EnvRep X.K w ρ1 σ' → SameSt (Tg.slotsL tgs) σ σ' → Q σ' H
theorem PG_imp {tg : Expr} {t t' : TG} (h : PG X tg t) (hi : ∀ v σ H Q, t' v σ H Q → t v σ H Q) : PG X tg t' := ⟨fun pins s σ H v u Q I r q => h.run pins s σ H v u Q I r (hi _ _ _ _ q)⟩
theorem PGs_imp {tg : List Expr} {t t' : TGs} (h : PGs X tg t) (hi : ∀ v σ H Q, t' v σ H Q → t v σ H Q) : PGs X tg t' := ⟨fun pins s σ H v u Q I r q => h.run pins s σ H v u Q I r (hi _ _ _ _ q)⟩
theorem PG_or {tg : Expr} {t t' : TG} (h : PG X tg t) (h' : PG X tg t') : PG X tg (fun v σ H Q => t v σ H Q ∨ t' v σ H Q) := ⟨fun pins s σ H v u Q I r q => q.elim (h.run pins s σ H v u Q I r) (h'.run pins s σ H v u Q I r)⟩
theorem pg_nmD {i : Nat} {x : Str} (hN : X.N.Nodup) (hi : X.N[i]? = some x) (hx : Loc X.env.scope x) (hf : X.fn x = true ∨ X.env.scope.names.lookup x = some .local) : PG X (.Name x pos) (xG X (.nm i)) := PG_imp (pg_name hN hi hx hf) fun v σ H Q ⟨d, ρ, w, S, ρ1, s, r, rv, e, q⟩ => by
  simp only [bindTg] at e
  cases e
  exact q _ (r.set i rv) ⟨by simp, fun j h => List.getElem?_set_ne fun z => h (by simp [Tg.slots, z])⟩
theorem pgs_nilD : PGs X [] (xGs X []) := PGs_imp pgs_nil fun vs σ H Q ⟨ds, ρ, w, S, ρ1, s, r, rv, e, q⟩ => by
  cases rv with
  | nil => cases e; exact ⟨rfl, q σ r (.refl _ _)⟩
  | cons a b => cases e
theorem pgs_consD {e : Expr} {es : List Expr} {t : Tg} {ts : List Tg} (h1 : PG X e (xG X t)) (h2 : PGs X es (xGs X ts)) (hs : (assignEach (e :: es) X.env).map (·.2) = assign e X.env :: (assignEach es X.env).map (·.2)) :
    PGs X (e :: es) (xGs X (t :: ts)) := PGs_imp (pgs_cons h1 h2 hs) fun vs σ H Q ⟨ds, ρ, w, S, ρ1, s, r, rv, e, q⟩ => by
  cases rv with
  | nil => cases e
  | @cons d v ds vs a b =>
    simp only [bindTgs] at e
    split at e
    · rename_i ρ2 e2
      exact ⟨v, vs, rfl, d, ρ, w, S, ρ2, s, r, a, e2, fun σ' r' k => ⟨ds, ρ2, w, S, ρ1, s, r', b, e, fun σ2 r2 k2 => q σ2 r2 (by rw [Tg.slotsL]; exact k.trans k2)⟩⟩
    · cases e
theorem bindTgs_length : ∀ {ts : List Tg} {ds : List D} {ρ ρ1 : EnvD}, bindTgs ts ds ρ = some ρ1 → ts.length = ds.length
  | [], [], _, _, _ => rfl
  | [], _ :: _, _, _, h => by cases h
  | _ :: _, [], _, _, h => by cases h
  | t :: ts, d :: ds, ρ, ρ1, h => by
    simp only [bindTgs] at h
    split at h
    · rw [List.length_cons, List.length_cons, bindTgs_length h]
    · cases h
theorem pg_tupD {es : List Expr} {k : Nat} {ts : List Tg} (hc : X.calm = true) (h : PGs X es (xGs X ts)) (hn : (assignEach es X.env).length = ts.length) (hst : (assignEach es X.env).findIdx? (·.1) = none) :
    PG X (.Tuple es k pos) (xG X (.tup ts)) := PG_imp (PG_or (pg_tup (n := ts.length) hc h hn hst) (pg_unl (n := ts.length) hc h hn hst)) fun v σ H Q ⟨d, ρ, w, S, ρ1, s, r, rv, e, q⟩ => by
  simp only [bindTg] at e
  have q : ∀ σ', EnvRep X.K w ρ1 σ' → SameSt (Tg.slotsL ts) σ σ' → Q σ' H := fun σ' a b => q σ' a (by rw [Tg.slots]; exact b)
  split at e
  · rename_i ds
    cases rv with
    | tup qa ra => exact .inl ⟨_, _, rfl, SqT_same s.le qa, by rw [← ra.length]; exact (bindTgs_length e).symm, ds, ρ, w, S, ρ1, s, r, ra, e, q⟩
  · rename_i ds
    cases rv with
    | lst qa ra => exact .inr ⟨_, _, rfl, .of (s.le _ _ qa), by rw [← ra.length]; exact (bindTgs_length e).symm, ds, ρ, w, S, ρ1, s, r, ra, e, q⟩
  · cases e

/-! ### what is walked -/
abbrev xI (X : Cx) (Wx : WX) (F : EnvD → Store → Res (List D × Option Nat)) : TI := dTI X.K X.mg Wx F
theorem PI_or {tg e : Expr} {t t' : TI} (h : PI X tg e t) (h' : PI X tg e t') : PI X tg e (fun σ H R => t σ H R ∨ t' σ H R) := ⟨fun pins s σ H R I q => q.elim (h.run pins s σ H R I) (h'.run pins s σ H R I)⟩
theorem iter_list {K : PySem.W.Frag} {mg : Str → Option Value} {w : Wd} {S : Store} {H : Hp} (s : Sim K mg w S H) {x : D} {v : V} {xs : List D} {g : Option Nat} (rx : Rep K w x v) (h : x.list? S = some xs) (hw : walkOf x S = some (xs, g)) : ∃ a, v = .ref a ∧ (∃ vs, SqL K H a vs) ∧ IterOf K mg w S H (Itl K a) xs g := by
  obtain ⟨a, vs, rfl, ha, rvs⟩ := list_at s rx h
  refine ⟨a, rfl, ⟨vs, ha⟩, ?_⟩
  -- at each later state it stands
  have stand : ∀ w' S' H', Ext K mg w S H w' S' H' → Still g S S' → ∃ us, SqL K H' a us ∧ Reps K w' xs us := fun w' S' H' x' st => by
    cases rx with
    | lst q r =>
      have e2 : xs = _ := Option.some.inj (h.symm.trans (show (D.lst _).list? S = some _ from rfl))
      subst e2
      exact ⟨_, .of (x'.sim.le _ _ (x'.wle.g.lst _ _ q)), r.mono x'.wle⟩
    | scr q =>
      have e2 : xs = _ := Option.some.inj (h.symm.trans (show (D.scr _).list? S = some _ from rfl))
      subst e2
      exact ⟨_, x'.sim.le.seq (x'.wle.g.seqL q), reps_ints _⟩
    | loc hn =>
      rename_i n
      simp only [walkOf] at hw
      split at hw
      · rename_i ys ey
        cases hw
        have e3 := st n rfl
        rw [ey] at e3
        obtain ⟨us, e1, r⟩ := cell_at x'.sim e3
        rw [x'.wle.m n hn] at e1
        exact ⟨us, .of e1, r⟩
      · cases hw
    | _ => cases h
  refine ⟨fun i w' S' H' hi x' st => ?_, fun w' S' H' x' st => ?_, fun i w' S' H' y H2 hi x' st hy => ?_⟩
  · obtain ⟨us, q, r⟩ := stand w' S' H' x' st
    have : i < us.length := by rw [← r.length]; exact hi
    exact ⟨us, us[i], q, by simp [this]⟩
  · obtain ⟨us, q, r⟩ := stand w' S' H' x' st
    exact ⟨us, q, by rw [← r.length]; exact Nat.le_refl _⟩
  · obtain ⟨us, q, r⟩ := stand w' S' H' x' st
    obtain ⟨rfl, hy⟩ := hy
    obtain ⟨d, e1, e2⟩ := r.getV (hy us q)
    exact ⟨d, w', e1, Ext.refl x'.sim, e2⟩
theorem iter_tup {K : PySem.W.Frag} {mg : Str → Option Value} {w : Wd} {S : Store} {H : Hp} (s : Sim K mg w S H) {a : Addr} {xs : List D} {vs : List V} (q : SqT K w.G a vs) (r : Reps K w xs vs) : IterOf K mg w S H (Itt K a) xs none := by
  have stand : ∀ w' S' H', Ext K mg w S H w' S' H' → SqT K H' a vs ∧ Reps K w' xs vs := fun w' S' H' x' => ⟨(GLe.same x'.sim.le).seqT (x'.wle.g.seqT q), r.mono x'.wle⟩
  refine ⟨fun i w' S' H' hi x' st => ?_, fun w' S' H' x' st => ?_, fun i w' S' H' y H2 hi x' st hy => ?_⟩
  · obtain ⟨q, r⟩ := stand w' S' H' x'
    have : i < vs.length := by rw [← r.length]; exact hi
    exact ⟨vs, vs[i], q, by simp [this]⟩
  · obtain ⟨q, r⟩ := stand w' S' H' x'
    exact ⟨vs, q, by rw [← r.length]; exact Nat.le_refl _⟩
  · obtain ⟨q, r⟩ := stand w' S' H' x'
    obtain ⟨rfl, hy⟩ := hy
    obtain ⟨d, e1, e2⟩ := r.getV (hy vs q)
    exact ⟨d, w', e1, Ext.refl x'.sim, e2⟩
theorem iter_rng {K : PySem.W.Frag} {mg : Str → Option Value} {w : Wd} {S : Store} {H : Hp} {lo hi : Int} : IterOf K mg w S H (Itr lo (hi - lo).toNat) (rngD lo hi) none := by
  have hl : (rngD lo hi).length = (hi - lo).toNat := by unfold rngD; rw [List.length_map, List.length_range]
  refine ⟨fun i w' S' H' hi x' st => ?_, fun w' S' H' x' st => ?_, fun i w' S' H' y H2 hi x' st hy => ?_⟩
  · rw [hl] at hi; exact hi
  · rw [hl]; exact Nat.le_refl _
  · obtain ⟨rfl, rfl⟩ := hy
    rw [hl] at hi
    refine ⟨.int (lo + (i : Nat)), w', ?_, Ext.refl x'.sim, .int _⟩
    unfold rngD
    rw [List.getElem?_map, List.getElem?_range hi]
    rfl
theorem iter_str {K : PySem.W.Frag} {mg : Str → Option Value} {w : Wd} {S : Store} {H : Hp} {z : Str} : IterOf K mg w S H (Its z) (z.cps.toList.map fun c => D.str ⟨#[c]⟩) none := by
  have hl : (z.cps.toList.map fun c => D.str ⟨#[c]⟩).length = z.cps.size := by rw [List.length_map, Array.length_toList]
  refine ⟨fun i w' S' H' hi x' st => ?_, fun w' S' H' x' st => ?_, fun i w' S' H' y H2 hi x' st hy => ?_⟩
  · rw [hl] at hi; exact hi
  · rw [hl]; exact Nat.le_refl _
  · obtain ⟨rfl, c, ec, rfl⟩ := hy
    refine ⟨.str ⟨#[c]⟩, w', ?_, Ext.refl x'.sim, .str _⟩
    rw [List.getElem?_map, Array.getElem?_toList, ec]
    rfl
theorem pi_exD {tg e : Expr} {a : Ex} (ha : PE X e (xE X Wx (sem Γ a))) : PI X tg e (xI X Wx (semSrc Γ (.ex a))) := PI_imp (PI_or (pi_list ha) (PI_or (pi_tup ha) (pi_str ha))) fun σ H R ⟨ρ, w, S, s, r, h⟩ => by
  simp only [semSrc] at h
  cases e : sem Γ a ρ S with
  | ok d S1 =>
    rw [e, Res.ok_bind] at h
    have lists : ∀ xs, d.list? S1 = some xs → (iList X.K (xE X Wx (sem Γ a)) σ H R) := fun xs ex => by
      refine ⟨ρ, w, S, s, r, ?_⟩
      rw [e]
      intro w1 H1 x1 v rv
      have h1 := After.move s x1 h
      cases ew : walkOf d S1 with
      | none => rw [ew] at h1; exact h1.elim
      | some p =>
        obtain ⟨ys, g⟩ := p
        rw [ew] at h1
        have : ys = xs := by
          cases d with
          | lst zs => cases ew; cases ex; rfl
          | scr zs => cases ew; cases ex; rfl
          | loc n =>
            simp only [walkOf] at ew
            simp only [D.list?] at ex
            split at ew
            · rename_i zs ez
              rw [ez] at ex
              cases ew; cases ex; rfl
            · cases ew
          | _ => cases ex
        subst this
        obtain ⟨b, rfl, hb, it⟩ := iter_list x1.sim rv ex ew
        exact ⟨b, rfl, hb, After.here x1.sim h1 _ it⟩
    cases d with
    | tup xs =>
      refine .inr (.inl ⟨ρ, w, S, s, r, ?_⟩)
      rw [e]
      intro w1 H1 x1 v rv
      have h1 := After.move s x1 h
      cases rv with
      | tup q rr => exact ⟨_, rfl, ⟨_, SqT_same x1.sim.le q⟩, After.here x1.sim h1 _ (iter_tup x1.sim q rr)⟩
    | ctp xs =>
      refine .inr (.inl ⟨ρ, w, S, s, r, ?_⟩)
      rw [e]
      intro w1 H1 x1 v rv
      have h1 := After.move s x1 h
      cases rv with
      | ctp q rr => exact ⟨_, rfl, ⟨_, SqT_same x1.sim.le q.sq⟩, After.here x1.sim h1 _ (iter_tup x1.sim q.sq rr)⟩
    | str z =>
      refine .inr (.inr ⟨ρ, w, S, s, r, ?_⟩)
      rw [e]
      intro w1 H1 x1 v rv
      have h1 := After.move s x1 h
      cases rv
      exact ⟨z, rfl, After.here x1.sim h1 _ iter_str⟩
    | lst xs => exact .inl (lists xs rfl)
    | scr xs => exact .inl (lists _ rfl)
    | loc n =>
      cases el : (D.loc n).list? S1 with
      | some xs => exact .inl (lists xs el)
      | none =>
        simp only [D.list?] at el
        simp only [walkOf] at h
        split at h
        · rename_i p ep
          split at ep
          · rename_i zs ez
            rw [ez] at el
            cases el
          · cases ep
        · exact h.elim
    | _ => exact h.elim
  | exc x S1 =>
    refine .inl ⟨ρ, w, S, s, r, ?_⟩
    rw [e] at h ⊢
    exact h
  | bad => rw [e] at h; exact h.elim
theorem pi_rng1D {tg e : Expr} {a : Ex} {p : Pos} (hg : Gl X "range") (hm : X.mg "range" = none) (ha : PE X e (xE X Wx (sem Γ a))) (hs : starEach [e] X.env = [(false, eval e X.env)]) : PI X tg (.Call (.Name "range" p) [e] [] pos) (xI X Wx (semSrc Γ (.rng1 a))) :=
  PI_imp (pi_range1W hg hm (pa_cons ha pa_nil hs) hs) fun σ H R ⟨ρ, w, S, s, r, h⟩ => by
    simp only [semSrc] at h
    refine ⟨ρ, w, S, s, r, (After.split s h).imp fun d w1 S1 H1 _ x1 ⟨_, h1⟩ v rv => ?_⟩
    cases rv with
    | int j =>
      simp only at h1
      refine ⟨j, rfl, After.here x1.sim h1 _ ?_⟩
      have := iter_rng (K := X.K) (mg := X.mg) (w := w1) (S := S1) (H := H1) (lo := 0) (hi := j)
      rwa [Int.sub_zero] at this
    | _ => exact h1.elim
theorem pi_rng2D {tg e e' : Expr} {a b : Ex} {p : Pos} (hg : Gl X "range") (hm : X.mg "range" = none) (ha : PE X e (xE X Wx (sem Γ a))) (hb : PE X e' (xE X Wx (sem Γ b))) (hs : starEach [e, e'] X.env = [(false, eval e X.env), (false, eval e' X.env)]) (hs2 : starEach [e'] X.env = [(false, eval e' X.env)]) :
    PI X tg (.Call (.Name "range" p) [e, e'] [] pos) (xI X Wx (semSrc Γ (.rng2 a b))) :=
  PI_imp (pi_range2W hg hm (pa_cons ha (pa_cons hb pa_nil hs2) (by rw [hs, hs2])) hs hs2) fun σ H R ⟨ρ, w, S, s, r, h⟩ => by
    simp only [semSrc] at h
    refine ⟨ρ, w, S, s, r, (After.split s h).imp fun d w1 S1 H1 _ x1 ⟨_, h1⟩ v rv => ?_⟩
    refine ⟨ρ, w1, S1, x1.sim, r.mono x1.wle, (After.split x1.sim h1).imp fun f w2 S2 H2 _ x2 ⟨_, h2⟩ u ru => ?_⟩
    cases rv with
    | int i =>
      cases ru with
      | int j =>
        simp only at h2
        exact ⟨i, j, rfl, After.here x2.sim h2 _ iter_rng⟩
      | _ => exact h2.elim
    | _ => cases ru <;> exact h2.elim

theorem iter_step {K : PySem.W.Frag} {mg : Str → Option Value} {w : Wd} {S : Store} {H : Hp} {i c : Int} {n : Nat} : IterOf K mg w S H (Itc i c n) (stepD i c n) none := by
  have hl : (stepD i c n).length = n := by unfold stepD; simp
  refine ⟨fun k w' S' H' hi x' st => ?_, fun w' S' H' x' st => ?_, fun k w' S' H' y H2 hi x' st hy => ?_⟩
  · rw [hl] at hi; exact hi
  · show n ≤ _
    rw [hl]; exact Nat.le_refl _
  · obtain ⟨rfl, rfl⟩ := hy
    rw [hl] at hi
    refine ⟨.int (i + (k : Nat) * c), w', ?_, Ext.refl x'.sim, .int _⟩
    unfold stepD
    rw [List.getElem?_map, List.getElem?_range hi]
    rfl
theorem pi_rng3D {tg e e' e2 : Expr} {a b c : Ex} {p : Pos} (hg : Gl X "range") (hm : X.mg "range" = none) (ha : PE X e (xE X Wx (sem Γ a))) (hb : PE X e' (xE X Wx (sem Γ b))) (hc : PE X e2 (xE X Wx (sem Γ c)))
    (hs : starEach [e, e', e2] X.env = (false, eval e X.env) :: starEach [e', e2] X.env) (hs2 : starEach [e', e2] X.env = (false, eval e' X.env) :: starEach [e2] X.env) (hs3 : starEach [e2] X.env = [(false, eval e2 X.env)]) :
    PI X tg (.Call (.Name "range" p) [e, e', e2] [] pos) (xI X Wx (semSrc Γ (.rng3 a b c))) :=
  PI_imp (pi_range3 hg hm (pa_cons ha (pa_cons hb (pa_cons hc pa_nil hs3) hs2) hs) hs (by rw [hs2, hs3]; rfl)) fun σ H R ⟨ρ, w, S, s, r, h⟩ => by
    simp only [semSrc] at h
    refine ⟨ρ, w, S, s, r, (After.split s h).imp fun d w1 S1 H1 _ x1 ⟨_, h1⟩ v rv => ?_⟩
    refine ⟨ρ, w1, S1, x1.sim, r.mono x1.wle, (After.split x1.sim h1).imp fun f w2 S2 H2 _ x2 ⟨_, h2⟩ u ru => ?_⟩
    refine ⟨ρ, w2, S2, x2.sim, (r.mono x1.wle).mono x2.wle, (After.split x2.sim h2).imp fun g w3 S3 H3 _ x3 ⟨_, h3⟩ t rt => ?_⟩
    split at h3
    · cases rv
      cases ru
      cases rt
      split at h3
      · rename_i hc
        exact ⟨_, _, _, _, rfl, hc, After.here x3.sim h3 _ iter_step⟩
      · exact h3.elim
    · exact h3.elim

/-! ### enumerate, zip -/
theorem stand_list {K : PySem.W.Frag} {mg : Str → Option Value} {w : Wd} {S : Store} {H : Hp} (s : Sim K mg w S H) {x : D} {v : V} {xs : List D} {g : Option Nat} (rx : Rep K w x v) (hk : isLstD x = true) (hw : walkOf x S = some (xs, g)) :
    ∃ a, v = .ref a ∧ ∀ w' S' H', Ext K mg w S H w' S' H' → Still g S S' → ∃ us, SqL K H' a us ∧ Reps K w' xs us := by
  cases rx with
  | lst q r =>
    cases hw
    exact ⟨_, rfl, fun w' S' H' x' _ => ⟨_, .of (x'.sim.le _ _ (x'.wle.g.lst _ _ q)), r.mono x'.wle⟩⟩
  | scr q =>
    cases hw
    exact ⟨_, rfl, fun w' S' H' x' _ => ⟨_, x'.sim.le.seq (x'.wle.g.seqL q), reps_ints _⟩⟩
  | loc hn =>
    rename_i n
    simp only [walkOf] at hw
    split at hw
    · rename_i ys ey
      cases hw
      refine ⟨_, rfl, fun w' S' H' x' st => ?_⟩
      have e3 := st n rfl
      rw [ey] at e3
      obtain ⟨us, e1, r⟩ := cell_at x'.sim e3
      rw [x'.wle.m n hn] at e1
      exact ⟨us, .of e1, r⟩
    · cases hw
  | _ => cases hk
theorem stand_tup {K : PySem.W.Frag} {mg : Str → Option Value} {w : Wd} {S : Store} {H : Hp} (s : Sim K mg w S H) {x : D} {v : V} {xs : List D} {g : Option Nat} (rx : Rep K w x v) (hk : isTupD x = true) (hw : walkOf x S = some (xs, g)) :
    g = none ∧ ∃ a, v = .ref a ∧ ∀ w' S' H', Ext K mg w S H w' S' H' → ∃ us, SqT K H' a us ∧ Reps K w' xs us := by
  cases rx with
  | tup q r =>
    cases hw
    exact ⟨rfl, _, rfl, fun w' S' H' x' => ⟨_, (GLe.same x'.sim.le).seqT (x'.wle.g.seqT q), r.mono x'.wle⟩⟩
  | ctp q r =>
    cases hw
    exact ⟨rfl, _, rfl, fun w' S' H' x' => ⟨_, (GLe.same x'.sim.le).seqT (x'.wle.g.seqT q.sq), r.mono x'.wle⟩⟩
  | _ => cases hk
theorem enD_len (xs : List D) : (enD xs).length = xs.length := by unfold enD; simp
theorem enD_get {xs : List D} {i : Nat} {d : D} (h : xs[i]? = some d) : (enD xs)[i]? = some (.tup [.int (i : Nat), d]) := by
  unfold enD
  rw [List.getElem?_map, List.getElem?_zipIdx, h]
  simp
theorem ziD_len (xs ys : List D) : (ziD xs ys).length = min xs.length ys.length := by unfold ziD; simp
theorem ziD_get {xs ys : List D} {i : Nat} {d e : D} (h : xs[i]? = some d) (h2 : ys[i]? = some e) : (ziD xs ys)[i]? = some (.tup [d, e]) := by
  unfold ziD
  rw [List.getElem?_map, (List.getElem?_zip_eq_some (z := (d, e))).2 ⟨h, h2⟩]
  rfl
/-- a new pair -/
theorem pair_new {K : PySem.W.Frag} {mg : Str → Option Value} {w : Wd} {S : Store} {H : Hp} (s : Sim K mg w S H) {T : Addr} {d e : D} {u v : V} (hT : H T = none) (r : Rep K w d u) (r2 : Rep K w e v) :
    ∃ w2, Ext K mg w S H w2 S (upd H T (.tup [u, v])) ∧ Rep K w2 (.tup [d, e]) (.ref T) := by
  have hl := Wd.put_le (o := .tup [u, v]) (s.free hT)
  refine ⟨_, ext_put s hT, .tup (.of (show (upd w.G T _) T = _ from upd_same)) (.cons (r.mono hl) (.cons (r2.mono hl) .nil))⟩
theorem iter_enum {K : PySem.W.Frag} {mg : Str → Option Value} {w : Wd} {S : Store} {H : Hp} {a : Addr} {xs : List D} {g : Option Nat} (stand : ∀ w' S' H', Ext K mg w S H w' S' H' → Still g S S' → ∃ us, SqL K H' a us ∧ Reps K w' xs us) : IterOf K mg w S H (Ite K a) (enD xs) g := by
  refine ⟨fun i w' S' H' hi x' st => ?_, fun w' S' H' x' st => ?_, fun i w' S' H' y H2 hi x' st hy => ?_⟩
  · obtain ⟨us, q, r⟩ := stand w' S' H' x' st
    have : i < us.length := by rw [← r.length, ← enD_len]; exact hi
    exact ⟨us, us[i], q, by simp [this]⟩
  · obtain ⟨us, q, r⟩ := stand w' S' H' x' st
    exact ⟨us, q, by rw [enD_len, ← r.length]; exact Nat.le_refl _⟩
  · obtain ⟨us, q, r⟩ := stand w' S' H' x' st
    obtain ⟨T, z, rfl, hT, rfl, hz⟩ := hy
    obtain ⟨d, e1, e2⟩ := r.getV (hz us q)
    obtain ⟨w2, x2, r2⟩ := pair_new x'.sim hT (.int (i : Nat)) e2
    exact ⟨_, w2, enD_get e1, x2, r2⟩
theorem iter_enumT {K : PySem.W.Frag} {mg : Str → Option Value} {w : Wd} {S : Store} {H : Hp} {a : Addr} {xs : List D} (stand : ∀ w' S' H', Ext K mg w S H w' S' H' → ∃ us, SqT K H' a us ∧ Reps K w' xs us) : IterOf K mg w S H (IteT K a) (enD xs) none := by
  refine ⟨fun i w' S' H' hi x' st => ?_, fun w' S' H' x' st => ?_, fun i w' S' H' y H2 hi x' st hy => ?_⟩
  · obtain ⟨us, q, r⟩ := stand w' S' H' x'
    have : i < us.length := by rw [← r.length, ← enD_len]; exact hi
    exact ⟨us, us[i], q, by simp [this]⟩
  · obtain ⟨us, q, r⟩ := stand w' S' H' x'
    exact ⟨us, q, by rw [enD_len, ← r.length]⟩
  · obtain ⟨us, q, r⟩ := stand w' S' H' x'
    obtain ⟨T, z, rfl, hT, rfl, hz⟩ := hy
    obtain ⟨d, e1, e2⟩ := r.getV (hz us q)
    obtain ⟨w2, x2, r2⟩ := pair_new x'.sim hT (.int (i : Nat)) e2
    exact ⟨_, w2, enD_get e1, x2, r2⟩
theorem iter_zip {K : PySem.W.Frag} {mg : Str → Option Value} {w : Wd} {S : Store} {H : Hp} {a b : Addr} {xs ys : List D} {g : Option Nat} (stand : ∀ w' S' H', Ext K mg w S H w' S' H' → Still g S S' → (∃ us, SqL K H' a us ∧ Reps K w' xs us) ∧ ∃ us, SqL K H' b us ∧ Reps K w' ys us) : IterOf K mg w S H (Itz K a b) (ziD xs ys) g := by
  refine ⟨fun i w' S' H' hi x' st => ?_, fun w' S' H' x' st => ?_, fun i w' S' H' y H2 hi x' st hy => ?_⟩
  · obtain ⟨⟨us, q, r⟩, vs, q2, r2⟩ := stand w' S' H' x' st
    rw [ziD_len, r.length, r2.length] at hi
    have h1 : i < us.length := by omega
    have h2 : i < vs.length := by omega
    exact ⟨us, vs, us[i], vs[i], q, q2, by simp [h1], by simp [h2]⟩
  · obtain ⟨⟨us, q, r⟩, vs, q2, r2⟩ := stand w' S' H' x' st
    exact ⟨us, vs, q, q2, by rw [ziD_len, r.length, r2.length]; omega⟩
  · obtain ⟨⟨us, q, r⟩, vs, q2, r2⟩ := stand w' S' H' x' st
    obtain ⟨T, z, z2, rfl, hT, rfl, hz, hz2⟩ := hy
    obtain ⟨d, e1, e2⟩ := r.getV (hz us q)
    obtain ⟨d2, f1, f2⟩ := r2.getV (hz2 vs q2)
    obtain ⟨w2, x2, r3⟩ := pair_new x'.sim hT e2 f2
    exact ⟨_, w2, ziD_get e1 f1, x2, r3⟩
theorem iter_zipT {K : PySem.W.Frag} {mg : Str → Option Value} {w : Wd} {S : Store} {H : Hp} {a b : Addr} {xs ys : List D} (stand : ∀ w' S' H', Ext K mg w S H w' S' H' → (∃ us, SqT K H' a us ∧ Reps K w' xs us) ∧ ∃ us, SqT K H' b us ∧ Reps K w' ys us) : IterOf K mg w S H (RZ.ItzT K a b) (ziD xs ys) none := by
  refine ⟨fun i w' S' H' hi x' st => ?_, fun w' S' H' x' st => ?_, fun i w' S' H' y H2 hi x' st hy => ?_⟩
  · obtain ⟨⟨us, q, r⟩, vs, q2, r2⟩ := stand w' S' H' x'
    rw [ziD_len, r.length, r2.length] at hi
    have h1 : i < us.length := by omega
    have h2 : i < vs.length := by omega
    exact ⟨us, vs, us[i], vs[i], q, q2, by simp [h1], by simp [h2]⟩
  · obtain ⟨⟨us, q, r⟩, vs, q2, r2⟩ := stand w' S' H' x'
    exact ⟨us, vs, q, q2, by rw [ziD_len, r.length, r2.length]; omega⟩
  · obtain ⟨⟨us, q, r⟩, vs, q2, r2⟩ := stand w' S' H' x'
    obtain ⟨T, z, z2, rfl, hT, rfl, hz, hz2⟩ := hy
    obtain ⟨d, e1, e2⟩ := r.getV (hz us q)
    obtain ⟨d2, f1, f2⟩ := r2.getV (hz2 vs q2)
    obtain ⟨w2, x2, r3⟩ := pair_new x'.sim hT e2 f2
    exact ⟨_, w2, ziD_get e1 f1, x2, r3⟩
theorem iter_enumS {K : PySem.W.Frag} {mg : Str → Option Value} {w : Wd} {S : Store} {H : Hp} {x : Str} : IterOf K mg w S H (IteS x) (enD (x.cps.toList.map fun c => D.str ⟨#[c]⟩)) none := by
  refine ⟨fun i w' S' H' hi x' st => ?_, fun w' S' H' x' st => ?_, fun i w' S' H' y H2 hi x' st hy => ?_⟩
  · rw [enD_len, List.length_map, Array.length_toList] at hi
    exact hi
  · show x.cps.size = _
    rw [enD_len, List.length_map, Array.length_toList]
  · obtain ⟨T, c, rfl, hT, rfl, hc⟩ := hy
    obtain ⟨w2, x2, r2⟩ := pair_new x'.sim hT (.int (i : Nat)) (.str ⟨#[c]⟩)
    refine ⟨_, w2, enD_get (d := .str ⟨#[c]⟩) ?_, x2, r2⟩
    rw [List.getElem?_map, Array.getElem?_toList, hc]
    rfl
theorem Still.refl {g : Option Nat} {S : Store} : Still g S S := fun _ _ => rfl
theorem pi_enumD {e : Expr} {a : Ex} {p tpos : Pos} {elts : List Expr} {kk : Nat} (hg : Gl X "enumerate") (hm : X.mg "enumerate" = none) (ha : PE X e (xE X Wx (sem Γ a))) (hs : starEach [e] X.env = [(false, eval e X.env)]) :
    PI X (.Tuple elts kk tpos) (.Call (.Name "enumerate" p) [e] [] pos) (xI X Wx (semSrc Γ (.enum a))) :=
  PI_imp (PI_or (PI_or (pi_enum hg hm (pa_consD ha pa_nilD hs) hs) (pi_enumT hg hm (pa_consD ha pa_nilD hs) hs)) (pi_enumS hg hm (pa_consD ha pa_nilD hs) hs)) fun σ H R ⟨ρ, w, S, s, r, h⟩ => by
    simp only [semSrc] at h
    have one : semL Γ [a] ρ S = (sem Γ a ρ S).bind fun d S1 => .ok [d] S1 := by simp only [semL, Res.ok_bind]
    cases e : sem Γ a ρ S with
    | bad => rw [e] at h; exact h.elim
    | exc x S1 =>
      rw [e, Res.exc_bind] at h
      refine .inl (.inl ⟨ρ, w, S, s, r, ?_⟩)
      rw [one, e]
      exact h
    | ok d S1 =>
      rw [e, Res.ok_bind] at h
      rw [e] at one
      unfold enumOf at h
      cases hk : isLstD d with
      | true =>
        rw [hk, Bool.or_true, Bool.true_or, if_pos rfl] at h
        refine .inl (.inl ⟨ρ, w, S, s, r, ?_⟩)
        rw [one]
        intro w1 H1 x1 vs rvs
        obtain ⟨v, rfl, rv⟩ := reps1 rvs
        cases ew : walkOf d S1 with
        | none => rw [ew] at h; exact h.elim
        | some q =>
          rw [ew] at h
          obtain ⟨xs, g⟩ := q
          obtain ⟨b, rfl, st⟩ := stand_list x1.sim rv hk ew
          obtain ⟨us, q, _⟩ := st _ _ _ (Ext.refl x1.sim) Still.refl
          exact ⟨b, us, rfl, q, h w1 H1 x1 _ (iter_enum st)⟩
      | false =>
        cases hk2 : isTupD d with
        | false =>
          rw [hk, hk2, Bool.false_or, Bool.false_or] at h
          cases d with
          | str z =>
            rw [if_pos (show isStrD (.str z) = true from rfl)] at h
            refine .inr ⟨ρ, w, S, s, r, ?_⟩
            rw [one]
            intro w1 H1 x1 vs rvs
            obtain ⟨v, rfl, rv⟩ := reps1 rvs
            cases rv
            exact ⟨z, rfl, h w1 H1 x1 _ iter_enumS⟩
          | _ => exact h.elim
        | true =>
          rw [hk2, Bool.true_or, Bool.true_or, if_pos rfl] at h
          refine .inl (.inr ⟨ρ, w, S, s, r, ?_⟩)
          rw [one]
          intro w1 H1 x1 vs rvs
          obtain ⟨v, rfl, rv⟩ := reps1 rvs
          cases ew : walkOf d S1 with
          | none => rw [ew] at h; exact h.elim
          | some q =>
            rw [ew] at h
            obtain ⟨xs, g⟩ := q
            obtain ⟨rfl, b, rfl, st⟩ := stand_tup x1.sim rv hk2 ew
            obtain ⟨us, q, _⟩ := st _ _ _ (Ext.refl x1.sim)
            exact ⟨b, us, rfl, q, h w1 H1 x1 _ (iter_enumT st)⟩
theorem zip_both {w : Wd} {S : Store} {H : Hp} {x y : D} {v u : V} {xs : List D} {g : Option Nat} {R : It → Hp → Prop} (s : Sim X.K X.mg w S H) (rx : Rep X.K w x v) (ry : Rep X.K w y u) (hz : zipOf x y S = some (xs, g))
    (h : ∀ J, IterOf X.K X.mg w S H J xs g → R J H) : ∃ a b as bs, [v, u] = [V.ref a, V.ref b] ∧ ((SqL X.K H a as ∧ SqL X.K H b bs ∧ R (Itz X.K a b) H) ∨ (SqT X.K H a as ∧ SqT X.K H b bs ∧ R (RZ.ItzT X.K a b) H)) := by
  unfold zipOf at hz
  split at hz
  · rename_i hk
    have two : ∃ as g1 bs g2, walkOf x S = some (as, g1) ∧ walkOf y S = some (bs, g2) ∧ xs = ziD as bs ∧ ((g1 = none ∧ g = g2) ∨ (g2 = none ∧ g = g1)) := by
      split at hz
      · cases hz; exact ⟨_, _, _, _, by assumption, by assumption, rfl, .inl ⟨rfl, rfl⟩⟩
      · cases hz; exact ⟨_, _, _, _, by assumption, by assumption, rfl, .inr ⟨rfl, rfl⟩⟩
      · cases hz
    obtain ⟨as, g1, bs, g2, e1, e2, rfl, hgg⟩ := two
    rw [Bool.or_eq_true, Bool.and_eq_true, Bool.and_eq_true] at hk
    rcases hk with ⟨k1, k2⟩ | ⟨k1, k2⟩
    · obtain ⟨rfl, a, rfl, st⟩ := stand_tup s rx k1 e1
      obtain ⟨rfl, b, rfl, st2⟩ := stand_tup s ry k2 e2
      have hg0 : g = none := by rcases hgg with ⟨_, e⟩ | ⟨_, e⟩ <;> exact e
      subst hg0
      obtain ⟨us, q, _⟩ := st _ _ _ (Ext.refl s)
      obtain ⟨vs, q2, _⟩ := st2 _ _ _ (Ext.refl s)
      exact ⟨a, b, us, vs, rfl, .inr ⟨q, q2, h _ (iter_zipT fun w' S' H' x' => ⟨st w' S' H' x', st2 w' S' H' x'⟩)⟩⟩
    · obtain ⟨a, rfl, st⟩ := stand_list s rx k1 e1
      obtain ⟨b, rfl, st2⟩ := stand_list s ry k2 e2
      obtain ⟨us, q, _⟩ := st _ _ _ (Ext.refl s) Still.refl
      obtain ⟨vs, q2, _⟩ := st2 _ _ _ (Ext.refl s) Still.refl
      refine ⟨a, b, us, vs, rfl, .inl ⟨q, q2, h _ (iter_zip fun w' S' H' x' sl => ⟨st w' S' H' x' ?_, st2 w' S' H' x' ?_⟩)⟩⟩
      · rcases hgg with ⟨e, e3⟩ | ⟨e, e3⟩
        · subst e; exact fun n z => by cases z
        · rw [← e3]; exact sl
      · rcases hgg with ⟨e, e3⟩ | ⟨e, e3⟩
        · rw [← e3]; exact sl
        · subst e; exact fun n z => by cases z
  · cases hz
theorem pi_zipD {e e2 : Expr} {a b : Ex} {p tpos : Pos} {elts : List Expr} {kk : Nat} (hg : Gl X "zip") (hm : X.mg "zip" = none) (ha : PE X e (xE X Wx (sem Γ a))) (hb : PE X e2 (xE X Wx (sem Γ b))) (hs : starEach [e, e2] X.env = (false, eval e X.env) :: starEach [e2] X.env) (hs2 : starEach [e2] X.env = [(false, eval e2 X.env)]) :
    PI X (.Tuple elts kk tpos) (.Call (.Name "zip" p) [e, e2] [] pos) (xI X Wx (semSrc Γ (.zip a b))) :=
  PI_imp (RZ.pi_zipA hg hm (pa_consD ha (pa_consD hb pa_nilD hs2) hs) hs (by rw [hs2]; rfl)) fun σ H R ⟨ρ, w, S, s, r, h⟩ => by
    simp only [semSrc] at h
    refine ⟨ρ, w, S, s, r, ?_⟩
    have two : semL Γ [a, b] ρ S = (sem Γ a ρ S).bind fun x S1 => (sem Γ b ρ S1).bind fun y S2 => .ok [x, y] S2 := by
      simp only [semL, Res.ok_bind]
      cases sem Γ a ρ S with
      | ok x S1 =>
        simp only [Res.ok_bind]
        cases sem Γ b ρ S1 <;> rfl
      | _ => rfl
    rw [two]
    have h' : After X.K X.mg Wx σ w S H ((sem Γ a ρ S).bind fun x S1 => (sem Γ b ρ S1).bind fun y S2 => .ok [x, y] S2) fun ds w' S' H' => ∀ vs, Reps X.K w' ds vs → ∃ a b as bs, vs = [V.ref a, V.ref b] ∧ ((SqL X.K H' a as ∧ SqL X.K H' b bs ∧ R (Itz X.K a b) H') ∨ (SqT X.K H' a as ∧ SqT X.K H' b bs ∧ R (RZ.ItzT X.K a b) H')) := by
      cases e1 : sem Γ a ρ S with
      | bad => rw [e1] at h; exact h.elim
      | exc x S1 => rw [e1] at h; exact h
      | ok x S1 =>
        rw [e1, Res.ok_bind] at h
        rw [Res.ok_bind]
        cases e2 : sem Γ b ρ S1 with
        | bad => rw [e2] at h; exact h.elim
        | exc x S1 => rw [e2] at h; exact h
        | ok y S2 =>
          rw [e2, Res.ok_bind] at h
          rw [Res.ok_bind]
          intro w1 H1 x1 vs rvs
          obtain ⟨v, u, rfl, rv, ru⟩ := reps2 rvs
          cases ez : zipOf x y S2 with
          | none => rw [ez] at h; exact h.elim
          | some q =>
            rw [ez] at h
            exact zip_both x1.sim rv ru ez (h w1 H1 x1)
    exact h'
/-! ### what is ours alone: a list that is being made -/
structure Priv (w : Wd) (S : Store) (H : Hp) (p : Addr) (vs : List V) : Prop where
  at_ : H p = some (.lst vs)
  g : w.G p = none
  m : ∀ n, Live S n → w.m n ≠ p
theorem Priv.ext {K : PySem.W.Frag} {mg : Str → Option Value} {w w1 : Wd} {S S1 : Store} {H H1 : Hp} {p : Addr} {vs : List V} (s : Sim K mg w S H) (x : Ext K mg w S H w1 S1 H1) (h : Priv w S H p vs) : Priv w1 S1 H1 p vs := by
  refine ⟨x.keep p _ h.at_ h.m, ?_, fun n l e => ?_⟩
  · cases q : w1.G p with
    | none => rfl
    | some o =>
      rcases x.gfree p (by rw [q]; simp) with z | z | ⟨n, l, z⟩
      · exact absurd h.g z
      · rw [h.at_] at z; cases z
      · exact absurd z (h.m n l)
  · rcases x.newc n l with z | ⟨_, z⟩
    · rw [x.wle.m n (by rw [← s.len]; exact z.lt)] at e
      exact h.m n z e
    · rw [e, h.at_] at z; cases z
/-- .. it is changed -/
theorem Ext.priv {K : PySem.W.Frag} {mg : Str → Option Value} {w w1 : Wd} {S S1 : Store} {H H1 : Hp} {p : Addr} {vs : List V} {o : HO} (hn : H p = none) (x : Ext K mg w S H w1 S1 H1) (h : Priv w1 S1 H1 p vs) : Ext K mg w S H w1 S1 (upd H1 p o) := by
  refine ⟨⟨⟨x.sim.len, same_up3 x.sim.le h.g, fun n c e => ?_, x.sim.inj, x.sim.apart, x.sim.fa⟩, x.wle, fun a u e l => ?_, x.gfree, x.newc, fun a e => ?_⟩, fun n z => ?_⟩
  · obtain ⟨u, e1, r⟩ := x.sim.cell n c e
    exact ⟨u, by rw [upd_ne (h.m n ⟨c, e⟩)]; exact e1, r.mono (Wd.Le.refl _)⟩
  · rw [upd_ne (ne_of_none e hn)]; exact x.keep a u e l
  · by_cases ha : a = p
    · subst ha; rw [upd_same]; simp
    · rw [upd_ne ha]; exact x.trk a e
  · obtain ⟨a1, a2⟩ := x.fz n z
    have hp : w.m n ≠ p := fun e => by
      rw [e, h.at_, hn] at a2
      cases a2
    exact ⟨a1, by rw [upd_ne hp]; exact a2⟩
/-- .. it is for good -/
theorem Ext.give {K : PySem.W.Frag} {mg : Str → Option Value} {w w1 : Wd} {S S1 : Store} {H H1 : Hp} {p : Addr} {vs : List V} (hn : H p = none) (x : Ext K mg w S H w1 S1 H1) (h : Priv w1 S1 H1 p vs) : Ext K mg w S H (w1.put p (.lst vs)) S1 H1 := by
  have le : Wd.Le w1 (w1.put p (.lst vs)) := Wd.put_le h.g
  refine ⟨⟨⟨x.sim.len, fun a u e => ?_, fun n c e => ?_, x.sim.inj, fun n l => ?_, x.sim.fa⟩, x.wle.trans le, x.keep, fun a e => ?_, x.newc, x.trk⟩, x.fz⟩
  · have e : upd w1.G p (.lst vs) a = some u := e
    by_cases ha : a = p
    · subst ha; rw [upd_same] at e; cases e; exact h.at_
    · rw [upd_ne ha] at e; exact x.sim.le a u e
  · obtain ⟨u, e1, r⟩ := x.sim.cell n c e
    exact ⟨u, e1, r.mono le⟩
  · show upd w1.G p _ (w1.m n) = none
    rw [upd_ne (h.m n l)]
    exact x.sim.apart n l
  · have e : upd w1.G p (.lst vs) a ≠ none := e
    by_cases ha : a = p
    · subst ha; exact .inr (.inl hn)
    · rw [upd_ne ha] at e; exact x.gfree a e
/-- .. it is a cell -/
theorem Ext.giveC {K : PySem.W.Frag} {mg : Str → Option Value} {w w1 : Wd} {S S1 : Store} {H H1 : Hp} {p : Addr} {vs : List V} {ds : List D} (sl : Sim K mg w S H) (hn : H p = none) (x : Ext K mg w S H w1 S1 H1) (h : Priv w1 S1 H1 p vs) (r : Reps K w1 ds vs) : Ext K mg w S H (w1.cell p) (S1 ++ [some (.lst ds)]) H1 := by
  have hl := x.sim.len
  have hm : ∀ n, Live S1 n → (w1.cell p).m n = w1.m n := fun n l => Wd.cell_le.m n (by rw [← hl]; exact l.lt)
  have hN : (w1.cell p).m S1.length = p := by rw [hl]; exact Wd.cell_m
  refine ⟨⟨⟨?_, x.sim.le, fun n c' e => ?_, fun i j li lj e => ?_, fun n l => ?_, x.sim.fa⟩, x.wle.trans Wd.cell_le, x.keep, x.gfree, fun n l => ?_, x.trk⟩, fun n z => ⟨(List.getElem?_append_left (by obtain ⟨ks, e1⟩ := z; exact (List.getElem?_eq_some_iff.1 ((x.fz n ⟨ks, e1⟩).1.trans e1)).1)).trans (x.fz n z).1, (x.fz n z).2⟩⟩
  · show (S1 ++ [some (Cell.lst ds)]).length = w1.N + 1
    rw [List.length_append, hl]; rfl
  · by_cases hn : n < S1.length
    · rw [List.getElem?_append_left hn] at e
      obtain ⟨u, e1, r⟩ := x.sim.cell n c' e
      rw [hm n ⟨c', e⟩]
      exact ⟨u, e1, r.mono Wd.cell_le⟩
    · have hn' : n = S1.length := by
        have := (List.getElem?_eq_some_iff.mp e).1
        simp at this
        omega
      subst hn'
      rw [List.getElem?_append_right (Nat.le_refl _), Nat.sub_self] at e
      cases e
      rw [hN]
      exact ⟨_, h.at_, vs, rfl, r.mono Wd.cell_le⟩
  · rcases live_app li with li | rfl <;> rcases live_app lj with lj | rfl
    · rw [hm i li, hm j lj] at e; exact x.sim.inj i j li lj e
    · rw [hm i li, hN] at e; exact absurd e (h.m i li)
    · rw [hm j lj, hN] at e; exact absurd e.symm (h.m j lj)
    · rfl
  · rcases live_app l with l | rfl
    · rw [hm n l]; exact x.sim.apart n l
    · rw [hN]; exact h.g
  · rcases live_app l with l | rfl
    · rcases x.newc n l with z | ⟨z1, z2⟩
      · exact .inl z
      · exact .inr ⟨z1, by rw [hm n l]; exact z2⟩
    · refine .inr ⟨?_, by rw [hN]; exact hn⟩
      have := x.wle.n
      rw [← x.sim.len, ← sl.len] at this
      exact this
end
end DL

/-! DLh: comprehensions, statements. -/
namespace DL
open PySem PySem.Spec PyProof.Rows L2

theorem wipe_get {σ : L2.St} {j : Nat} : ∀ {vs : List Nat}, (L2.wipe σ vs)[j]? = if j ∈ vs then (if j < σ.length then some none else none) else σ[j]?
  | [] => by simp [L2.wipe]
  | v :: vs => by
    unfold L2.wipe
    by_cases hj : v = j
    · subst hj
      rw [List.getElem?_set, if_pos rfl, L2.wipe_length, if_pos List.mem_cons_self]
    · rw [List.getElem?_set_ne hj, wipe_get (vs := vs)]
      by_cases hm : j ∈ vs
      · rw [if_pos hm, if_pos (List.mem_cons_of_mem _ hm)]
      · rw [if_neg hm, if_neg (by simp only [List.mem_cons, not_or]; exact ⟨fun e => hj e.symm, hm⟩)]
theorem wipe_same {is vs : List Nat} {σ σ' : L2.St} (h : SameSt is (L2.wipe σ vs) σ') (hs : ∀ i ∈ is, i ∈ vs) : L2.wipe σ' vs = L2.wipe σ vs := by
  apply List.ext_getElem?
  intro j
  rw [wipe_get, wipe_get, h.1, L2.wipe_length]
  by_cases hj : j ∈ vs
  · rw [if_pos hj, if_pos hj]
  · rw [if_neg hj, if_neg hj, h.2 j fun z => hj (hs j z), wipe_get, if_neg hj]

abbrev W0 : WX := fun _ _ _ _ => False
section
variable {X : Cx} {Wx : WX} {Γ : Gm} {pos : Pos}
theorem lc_sem {tgx : Tg} {src : Src} {ifx : List Ex} {ex : Ex} {c : Bool} {vs : List Nat} {σ : L2.St} {H : Hp} {Q : VK} (hv : ∀ i ∈ tgx.slots, i ∈ vs) (h : xE X Wx (sem Γ (.lc c tgx src ifx ex vs)) σ H Q) :
    tLc (xI X Wx (semSrc Γ src)) (xG X tgx) (dTT X.K X.mg W0 (fun ρ S => semIfs Γ ifx ρ S)) (dTE X.K X.mg W0 (sem Γ ex)) vs σ H Q := by
  obtain ⟨ρ, w, S, s, r, h⟩ := h
  simp only [sem] at h
  refine ⟨ρ, w, S, s, r, (After.split s h).imp fun p w1 S1 H1 _ x1 ⟨_, h1⟩ J it => ?_⟩
  obtain ⟨xs, g⟩ := p
  intro D hD
  have s1 := x1.sim
  let Pv : Nat → Hp → Prop := fun i H2 => ∃ w2 S2 acc us, Ext X.K X.mg w1 S1 H1 w2 S2 H2 ∧ Still g S1 S2 ∧ Priv w2 S2 H2 D us ∧ Reps X.K w2 acc us ∧
    After X.K X.mg Wx σ w1 S1 H1 ((lcEach (bindTg tgx) (fun ρ1 S2 => semIfs Γ ifx ρ1 S2) (fun ρ1 S2 => sem Γ ex ρ1 S2) g S1 (wipeD ρ vs) (xs.drop i) acc S2).bind fun ds S3 => mkL c ds S3) (fun d w' _ H' => ∀ v, Rep X.K w' d v → Q v H')
  refine ⟨fun i m H2 => m = xs.length - i ∧ i ≤ xs.length ∧ Pv i H2, ⟨xs.length, by simp, Nat.zero_le _, ?_⟩, ?_⟩
  · exact ⟨w1, S1, [], [], ext_own s1 hD, fun _ _ => rfl, ⟨upd_same, s1.free hD, fun n l => s1.ne hD l⟩, .nil, h1⟩
  rintro i m H2 ⟨rfl, hi, w2, S2, acc, us, x2, st, pr, ra, h2⟩
  by_cases hlt : i < xs.length
  · refine .inr ⟨it.go i w2 S2 H2 hlt x2 st, Pv (i + 1), fun H' q => ⟨xs.length - (i + 1), by omega, rfl, hlt, q⟩, fun x H' hy => ?_⟩
    obtain ⟨d, w3, ed, x3, rd⟩ := it.yld i w2 S2 H2 x H' hlt x2 st hy
    have pr3 := pr.ext x2.sim x3
    have x13 := x2.trans s1 x3
    rw [List.drop_eq_getElem_cons hlt, show xs[i] = d from by rw [List.getElem?_eq_getElem hlt] at ed; exact Option.some.inj ed] at h2
    rw [lcEach] at h2
    cases eb : bindTg tgx d (wipeD ρ vs) with
    | none => rw [eb] at h2; exact h2.elim
    | some ρ1 =>
      rw [eb] at h2
      refine ⟨d, wipeD ρ vs, w3, S2, ρ1, x3.sim, (r.mono (x1.wle.trans x13.wle)).wipe vs, rd, eb, fun σ2 r2 k2 => ⟨wipe_same k2 hv, ρ1, w3, S2, x3.sim, r2, ?_⟩⟩
      simp only at h2
      cases et : semIfs Γ ifx ρ1 S2 with
      | ok b S4 =>
        rw [et] at h2
        show After X.K X.mg W0 σ2 w3 S2 H' (semIfs Γ ifx ρ1 S2) _
        rw [et]
        intro w4 H4 x4
        have x14 := x13.trans s1 x4
        have pr4 := pr3.ext x3.sim x4
        cases b with
        | true =>
          refine ⟨ρ1, w4, S4, x4.sim, r2.mono x4.wle, ?_⟩
          simp only at h2
          cases ee : sem Γ ex ρ1 S4 with
          | ok y S5 =>
            rw [ee] at h2
            intro w5 H5 x5 yv ry
            have x15 := x14.trans s1 x5
            have pr5 := pr4.ext x4.sim x5
            simp only at h2
            split at h2
            · rename_i hl
              have hl := of_decide_eq_true hl
              split at h2
              · rename_i st5
                have ra5 := ra.mono (x3.wle.trans (x4.wle.trans x5.wle))
                refine ⟨us, pr5.at_, by rw [← ra.length, sizeLine_eq]; omega, w5, S5, acc ++ [y], us ++ [yv], x15.priv hD pr5, st5, ⟨upd_same, pr5.g, pr5.m⟩, ra5.append (.cons ry .nil), h2⟩
              · exact h2.elim
            · exact h2.elim
          | exc x S5 => rw [ee] at h2; exact h2.elim
          | bad => rw [ee] at h2; exact h2.elim
        | false =>
          simp only at h2
          split at h2
          · rename_i st4
            exact ⟨w4, S4, acc, us, x14, st4, pr4, ra.mono (x3.wle.trans x4.wle), h2⟩
          · exact h2.elim
      | exc x S4 => rw [et] at h2; exact h2.elim
      | bad => rw [et] at h2; exact h2.elim
  · have e : i = xs.length := by omega
    subst e
    refine .inl ⟨it.stop w2 S2 H2 x2 st, ?_⟩
    rw [List.drop_length, lcEach, Res.ok_bind] at h2
    unfold mkL at h2
    split at h2
    · cases c with
      | true =>
        rw [if_pos rfl] at h2
        refine h2 _ _ (x2.giveC s1 hD pr ra) _ ?_
        have := Rep.loc (K := X.K) (w := w2.cell D) (n := S2.length) (by show S2.length < w2.N + 1; rw [x2.sim.len]; exact Nat.lt_succ_self _)
        rwa [x2.sim.len, Wd.cell_m, ← x2.sim.len] at this
      | false =>
        rw [if_neg (by decide)] at h2
        exact h2 _ _ (x2.give hD pr) _ (.lst upd_same (ra.mono (Wd.put_le pr.g)))
    · exact h2.elim
theorem pe_lcD {elt tg iter : Expr} {ifs : List Expr} {scope : Scope} {own : List (Str × Nat)} {tgx : Tg} {src : Src} {ifx : List Ex} {ex : Ex} {c : Bool} (hc : X.calm = true) (hN : X.N.Nodup) (hi : PI X tg iter (xI X Wx (semSrc Γ src))) (ok : BlkOk X.N X.env.scope scope own)
    (hg : ∀ (s : Shared) (H : Hp) (C : Addr) (cl : List (Str × Addr)) (fp : List Addr), PG (X.blk s H scope (compEnvC scope cl C X.env) fp) tg (xG X tgx))
    (ht : ∀ (s : Shared) (H : Hp) (C : Addr) (cl : List (Str × Addr)) (fp : List Addr), PTs (X.blk s H scope (compEnvC scope cl C X.env) fp) ifs (dTT X.K X.mg W0 (fun ρ S => semIfs Γ ifx ρ S)))
    (he : ∀ (s : Shared) (H : Hp) (C : Addr) (cl : List (Str × Addr)) (fp : List Addr), PE (X.blk s H scope (compEnvC scope cl C X.env) fp) elt (dTE X.K X.mg W0 (sem Γ ex))) (hs : ∀ x, foldedSetIterable iter X.env x = pure x) (hv : ∀ i ∈ tgx.slots, i ∈ own.map (·.2)) :
    PE X (.ListComp elt [⟨tg, iter, ifs, 0⟩] scope pos) (xE X Wx (sem Γ (.lc c tgx src ifx ex (own.map (·.2))))) := PE_imp (pe_lc hc hN hi ok hg ht he hs) fun σ H Q h => lc_sem hv h

/-! ### statements -/
abbrev xS (X : Cx) (Wx : WX) (F : SF) : TS := dTS X.K X.mg Wx F
theorem pss_nilD : PSs X [] (xS X Wx (runs Γ [])) := PSs_imp pss_nil fun Dn σ H ⟨ρ, w, S, s, r, h⟩ => by
  simp only [runs] at h
  exact h w H σ (Ext.refl s) r
theorem pss_consD {st : Stmt} {sts : List Stmt} {a : Sm} {as : List Sm} (h1 : PS X st (xS X Wx (run Γ a))) (h2 : PSs X sts (xS X Wx (runs Γ as))) : PSs X (st :: sts) (xS X Wx (runs Γ (a :: as))) := PSs_imp (pss_cons h1 h2) fun Dn σ H ⟨ρ, w, S, s, r, h⟩ => by
  simp only [runs] at h
  refine ⟨ρ, w, S, s, r, ?_⟩
  cases e : run Γ a ρ S with
  | nx ρ1 S1 =>
    rw [e] at h
    intro w' H' σ' x r'
    exact ⟨ρ1, w', S1, x.sim, r', AfterS.move s x h⟩
  | rt d S1 => rw [e] at h; exact h
  | bk ρ1 S1 => rw [e] at h; exact h
  | ct ρ1 S1 => rw [e] at h; exact h
  | exc x ρ1 S1 => rw [e] at h; exact h
  | bad => rw [e] at h; exact h
theorem ps_passD : PS X (.Pass pos) (xS X Wx (run Γ .pass)) := PS_imp ps_pass fun Dn σ H ⟨ρ, w, S, s, r, h⟩ => by
  simp only [run] at h
  exact h w H σ (Ext.refl s) r
theorem ps_brkD : PS X (.Break pos) (xS X Wx (run Γ .brk)) := PS_imp ps_break fun Dn σ H ⟨ρ, w, S, s, r, h⟩ => by
  simp only [run] at h
  exact h w H σ (Ext.refl s) r
theorem ps_contD : PS X (.Continue pos) (xS X Wx (run Γ .cont)) := PS_imp ps_continue fun Dn σ H ⟨ρ, w, S, s, r, h⟩ => by
  simp only [run] at h
  exact h w H σ (Ext.refl s) r
theorem ps_exprD {e : Expr} {a : Ex} (he : PE X e (xE X Wx (sem Γ a))) (hs : swapsWith e none pos.line X.env = pure false) : PS X (.Expr e pos) (xS X Wx (run Γ (.expr a))) := PS_imp (ps_expr he hs) fun Dn σ H ⟨ρ, w, S, s, r, h⟩ => by
  simp only [run] at h
  refine ⟨ρ, w, S, s, r, (AfterS.split s r h).imp fun d w1 S1 H1 _ x1 ⟨_, h1⟩ v rv => ?_⟩
  exact h1 w1 H1 σ (Ext.refl x1.sim) (r.mono x1.wle)
theorem ps_retD {e : Expr} {a : Ex} (he : PE X e (xE X Wx (sem Γ a))) : PS X (.Return (some e) pos) (xS X Wx (run Γ (.ret (some a)))) := PS_imp (ps_ret he) fun Dn σ H ⟨ρ, w, S, s, r, h⟩ => by
  simp only [run] at h
  refine ⟨ρ, w, S, s, r, (AfterS.split s r h).imp fun d w1 S1 H1 _ x1 ⟨_, h1⟩ v rv => ?_⟩
  exact h1 w1 H1 v (Ext.refl x1.sim) rv
theorem ps_retND : PS X (.Return none pos) (xS X Wx (run Γ (.ret none))) := PS_imp ps_retN fun Dn σ H ⟨ρ, w, S, s, r, h⟩ => by
  simp only [run] at h
  exact h w H .non (Ext.refl s) .non
theorem ps_ifD {c : Expr} {a b : List Stmt} {t : Ex} {as bs : List Sm} (hc : PT X c (xT X Wx fun ρ S => asBl (sem Γ t ρ S))) (ha : PSs X a (xS X Wx (runs Γ as))) (hb : PSs X b (xS X Wx (runs Γ bs))) : PS X (.If c a b pos) (xS X Wx (run Γ (.ife t as bs))) := PS_imp (ps_if hc ha hb) fun Dn σ H ⟨ρ, w, S, s, r, h⟩ => by
  simp only [run] at h
  refine ⟨ρ, w, S, s, r, (AfterS.split s r h).imp fun k w1 S1 H1 _ x1 ⟨_, h1⟩ => ?_⟩
  cases k with
  | true => exact ⟨ρ, w1, S1, x1.sim, r.mono x1.wle, h1⟩
  | false => exact ⟨ρ, w1, S1, x1.sim, r.mono x1.wle, h1⟩
/-- target = value -/
theorem asg_sem {tg : Tg} {a : Ex} {Dn : Ends} {σ : L2.St} {H : Hp} (h : xS X Wx (run Γ (.asg tg a)) Dn σ H) : tAsg (xE X Wx (sem Γ a)) (xG X tg) Dn σ H := by
  obtain ⟨ρ, w, S, s, r, h⟩ := h
  simp only [run] at h
  refine ⟨ρ, w, S, s, r, (AfterS.split s r h).imp fun d w1 S1 H1 _ x1 ⟨_, h1⟩ v rv => ?_⟩
  split at h1
  · rename_i ρ1 e
    exact ⟨d, ρ, w1, S1, ρ1, x1.sim, r.mono x1.wle, rv, e, fun σ' r' _ => h1 w1 H1 σ' (Ext.refl x1.sim) r'⟩
  · exact h1.elim
theorem ps_asgD {tge e : Expr} {tg : Tg} {a : Ex} (he : PE X e (xE X Wx (sem Γ a))) (hg : PG X tge (xG X tg)) (hs : swapsWithSole [tge] e pos.line X.env = pure false) (hw : swappedStores [tge] e X.env = pure none) (h1 : (assignEach [tge] X.env).map (·.2) = [assign tge X.env]) :
    PS X (.Assign [tge] e pos) (xS X Wx (run Γ (.asg tg a))) := PS_imp (ps_asg he hg hs hw h1) fun Dn σ H h => asg_sem h
/-- name = [..] on one line -/
theorem ps_setLcD {i : Nat} {y : Str} {py spos : Pos} {elt tg iter : Expr} {ifs : List Expr} {scope : Scope} {own : List (Str × Nat)} {tgx : Tg} {src : Src} {ifx : List Ex} {ex : Ex} {c : Bool} (hc : X.calm = true) (hN : X.N.Nodup) (hy : X.N[i]? = some y) (hyl : X.env.scope.names.lookup y = some .local)
    (hsw : swapsWith (.ListComp elt [⟨tg, iter, ifs, 0⟩] scope pos) (some (.Name y py)) spos.line X.env = pure true) (hi : PI X tg iter (xI X Wx (semSrc Γ src))) (ok : BlkOk X.N X.env.scope scope own)
    (hg : ∀ (s : Shared) (H : Hp) (C : Addr) (cl : List (Str × Addr)) (fp : List Addr), PG (X.blk s H scope (compEnvC scope cl C X.env) fp) tg (xG X tgx))
    (ht : ∀ (s : Shared) (H : Hp) (C : Addr) (cl : List (Str × Addr)) (fp : List Addr), PTs (X.blk s H scope (compEnvC scope cl C X.env) fp) ifs (dTT X.K X.mg W0 (fun ρ S => semIfs Γ ifx ρ S)))
    (he : ∀ (s : Shared) (H : Hp) (C : Addr) (cl : List (Str × Addr)) (fp : List Addr), PE (X.blk s H scope (compEnvC scope cl C X.env) fp) elt (dTE X.K X.mg W0 (sem Γ ex))) (hs : ∀ x, foldedSetIterable iter X.env x = pure x) (hv : ∀ i ∈ tgx.slots, i ∈ own.map (·.2)) :
    PS X (.Assign [.Name y py] (.ListComp elt [⟨tg, iter, ifs, 0⟩] scope pos) spos) (xS X Wx (run Γ (.asg (.nm i) (.lc c tgx src ifx ex (own.map (·.2)))))) := PS_imp (ps_setLc hc hN hy hyl hsw hi ok hg ht he hs) fun Dn σ H ⟨ρ, w, S, s, r, h⟩ => by
  simp only [run] at h
  refine lc_sem hv ⟨ρ, w, S, s, r, (AfterS.split s r h).imp fun d w1 S1 H1 _ x1 ⟨_, h1⟩ v rv => ?_⟩
  simp only [bindTg] at h1
  exact h1 w1 H1 _ (Ext.refl x1.sim) ((r.mono x1.wle).set i rv)
/-- a, b = x, y -/
theorem par_sem {ts : List Tg} {as : List Ex} {Dn : Ends} {σ : L2.St} {H : Hp} (h : xS X Wx (run Γ (.asg (.tup ts) (.tup as))) Dn σ H) : xA X Wx (semL Γ as) σ H fun vs H1 => ∃ ds ρ w S ρ1, Sim X.K X.mg w S H1 ∧ EnvRep X.K w ρ σ ∧ Reps X.K w ds vs ∧ bindTgs ts ds ρ = some ρ1 ∧ ∀ σ', EnvRep X.K w ρ1 σ' → Dn.nx σ' H1 := by
  obtain ⟨ρ, w, S, s, r, h⟩ := h
  simp only [run, sem] at h
  have h : AfterS X.K X.mg Wx Dn w S H (SR.ofE ρ (semL Γ as ρ S) fun ds S1 => SR.ofE ρ (if lineOk ds.length then Res.ok (D.tup ds) S1 else .bad) fun d S2 => match bindTg (.tup ts) d ρ with | some ρ1 => .nx ρ1 S2 | none => .bad) := by
    cases e : semL Γ as ρ S with
    | ok ds S1 => rw [e] at h; exact h
    | exc x S1 => rw [e] at h; exact h
    | bad => rw [e] at h; exact h
  refine ⟨ρ, w, S, s, r, (AfterS.split s r h).imp fun ds w1 S1 H1 _ x1 ⟨_, h1⟩ vs rvs => ?_⟩
  split at h1
  · simp only [SR.ofE, bindTg] at h1
    split at h1
    · rename_i ρ1 e
      exact ⟨ds, ρ, w1, S1, ρ1, x1.sim, r.mono x1.wle, rvs, e, fun σ' r' => h1 w1 H1 σ' (Ext.refl x1.sim) r'⟩
    · exact h1.elim
  · exact h1.elim
theorem ps_parD {i j : Nat} {x y : Str} {a b : Expr} {c d : Ex} {px py pt : Pos} {kt k2 pt2} (hc : X.calm = true) (hN : X.N.Nodup) (hi : X.N[i]? = some x) (hj : X.N[j]? = some y) (hij : i ≠ j) (hx : X.env.scope.names.lookup x = some .local) (hy : X.env.scope.names.lookup y = some .local)
    (ha : PA X [a, b] (xA X Wx (semL Γ [c, d]))) (hw : swappedStores [.Tuple [.Name x px, .Name y py] kt pt] (.Tuple [a, b] k2 pt2) X.env = pure (some [x, y])) (hs : swapsWithSole [.Tuple [.Name x px, .Name y py] kt pt] (.Tuple [a, b] k2 pt2) pos.line X.env = pure false) :
    PS X (.Assign [.Tuple [.Name x px, .Name y py] kt pt] (.Tuple [a, b] k2 pt2) pos) (xS X Wx (run Γ (.asg (.tup [.nm i, .nm j]) (.tup [c, d])))) := PS_imp (ps_par hc hN hi hj hij hx hy ha hw hs) fun Dn σ H h => by
  obtain ⟨ρ, w, S, s, r, h⟩ := par_sem h
  refine ⟨ρ, w, S, s, r, h.imp fun ds w1 S1 H1 _ x1 q vs rvs => ?_⟩
  obtain ⟨ds', ρ', w', S', ρ1, s', r', rvs', e, q⟩ := q vs rvs
  cases rvs' with
  | nil => cases e
  | cons a1 b1 =>
    cases b1 with
    | nil => simp only [bindTgs, bindTg] at e; cases e
    | cons a2 b2 =>
      cases b2 with
      | nil =>
        simp only [bindTgs, bindTg] at e
        cases e
        exact ⟨_, _, rfl, q _ ((r'.set i a1).set j a2)⟩
      | cons a3 b3 => simp only [bindTgs, bindTg] at e; cases e
theorem ps_par3D {i j l : Nat} {x y z : Str} {a b c : Expr} {a' b' c' : Ex} {px py pz pt : Pos} {kt k2 pt2} (hc : X.calm = true) (hN : X.N.Nodup) (hi : X.N[i]? = some x) (hj : X.N[j]? = some y) (hl : X.N[l]? = some z) (hij : i ≠ j) (hil : i ≠ l) (hjl : j ≠ l) (hx : X.env.scope.names.lookup x = some .local)
    (hy : X.env.scope.names.lookup y = some .local) (hz : X.env.scope.names.lookup z = some .local) (ha : PA X [a, b, c] (xA X Wx (semL Γ [a', b', c']))) (hw : swappedStores [.Tuple [.Name x px, .Name y py, .Name z pz] kt pt] (.Tuple [a, b, c] k2 pt2) X.env = pure (some [x, y, z]))
    (hs : swapsWithSole [.Tuple [.Name x px, .Name y py, .Name z pz] kt pt] (.Tuple [a, b, c] k2 pt2) pos.line X.env = pure false) :
    PS X (.Assign [.Tuple [.Name x px, .Name y py, .Name z pz] kt pt] (.Tuple [a, b, c] k2 pt2) pos) (xS X Wx (run Γ (.asg (.tup [.nm i, .nm j, .nm l]) (.tup [a', b', c'])))) := PS_imp (ps_par3 hc hN hi hj hl hij hil hjl hx hy hz ha hw hs) fun Dn σ H h => by
  obtain ⟨ρ, w, S, s, r, h⟩ := par_sem h
  refine ⟨ρ, w, S, s, r, h.imp fun ds w1 S1 H1 _ x1 q vs rvs => ?_⟩
  obtain ⟨ds', ρ', w', S', ρ1, s', r', rvs', e, q⟩ := q vs rvs
  cases rvs' with
  | nil => cases e
  | cons a1 b1 =>
    cases b1 with
    | nil => simp only [bindTgs, bindTg] at e; cases e
    | cons a2 b2 =>
      cases b2 with
      | nil => simp only [bindTgs, bindTg] at e; cases e
      | cons a3 b3 =>
        cases b3 with
        | nil =>
          simp only [bindTgs, bindTg] at e
          cases e
          exact ⟨_, _, _, rfl, q _ (((r'.set i a1).set j a2).set l a3)⟩
        | cons a4 b4 => simp only [bindTgs, bindTg] at e; cases e
/-- o[i] = .. -/
theorem sub_sem {o i : Ex} {Dn : Ends} {σ : L2.St} {w : Wd} {S : Store} {H : Hp} {ρ : EnvD} {d : D} {v : V} {F : Store → SR} {Q : L2.St → Hp → Prop} (s : Sim X.K X.mg w S H) (r : EnvRep X.K w ρ σ) (rv : Rep X.K w d v)
    (h : AfterS X.K X.mg Wx Dn w S H (SR.ofE ρ (sem Γ o ρ S) fun x S2 => SR.ofE ρ (sem Γ i ρ S2) fun k S3 => SR.ofE ρ (setIxEv x k d S3) fun _ S4 => F S4))
    (next : ∀ w' S' H', Ext X.K X.mg w S H w' S' H' → AfterS X.K X.mg Wx Dn w' S' H' (F S') → Q σ H') : gSub (xE X Wx (sem Γ o)) (xE X Wx (sem Γ i)) rSetL v σ H Q := by
  refine ⟨ρ, w, S, s, r, (AfterS.split s r h).imp fun x w2 S2 H2 _ x2 ⟨_, h2⟩ xv rx => ?_⟩
  have r2 := r.mono x2.wle
  refine ⟨ρ, w2, S2, x2.sim, r2, (AfterS.split x2.sim r2 h2).imp fun k w3 S3 H3 _ x3 ⟨_, h3⟩ kv rk => ?_⟩
  have rx3 := rx.mono x3.wle
  have rd3 := rv.mono (x2.wle.trans x3.wle)
  unfold setIxEv at h3
  cases x with
  | loc n =>
    cases k with
    | int k =>
      simp only at h3
      cases rk
      split at h3
      · rename_i ys e1
        split at h3
        · rename_i j ej
          obtain ⟨us, e2, ru⟩ := cell_at x3.sim e1
          cases rx3
          refine ⟨_, us, k, j, rfl, rfl, e2, by rw [← ru.length]; exact ej, ?_⟩
          have x4 := ext_set (c' := .lst (ys.set j d)) x3.sim e1 ⟨_, rfl, Reps.set rd3 j ru⟩
          exact next _ _ _ ((x2.trans s x3).trans s x4) (AfterS.move x3.sim x4 h3)
        · exact h3.elim
      · exact h3.elim
    | _ => exact h3.elim
  | _ => exact h3.elim
/-- o[i] = e -/
theorem setIx_sem {o i e : Ex} {Dn : Ends} {σ : L2.St} {H : Hp} (h : xS X Wx (run Γ (.setIx o i e)) Dn σ H) : tAsg (xE X Wx (sem Γ e)) (gSub (xE X Wx (sem Γ o)) (xE X Wx (sem Γ i)) rSetL) Dn σ H := by
  obtain ⟨ρ, w, S, s, r, h⟩ := h
  simp only [run] at h
  refine ⟨ρ, w, S, s, r, (AfterS.split s r h).imp fun d w1 S1 H1 _ x1 ⟨_, h1⟩ v rv => ?_⟩
  have r1 := r.mono x1.wle
  exact sub_sem x1.sim r1 rv h1 fun w' S' H' x h => h _ _ _ (Ext.refl x.sim) (r1.mono x.wle)
/-- o[i], o2[i2] = a, b -/
theorem setIx2_sem {o i o2 i2 e : Ex} {Dn : Ends} {σ : L2.St} {H : Hp} (h : xS X Wx (run Γ (.setIx2 o i o2 i2 e)) Dn σ H) :
    tAsg (xE X Wx (sem Γ e)) (gTup X.K 2 (gCons (gSub (xE X Wx (sem Γ o)) (xE X Wx (sem Γ i)) rSetL) (gCons (gSub (xE X Wx (sem Γ o2)) (xE X Wx (sem Γ i2)) rSetL) gNil))) Dn σ H := by
  obtain ⟨ρ, w, S, s, r, h⟩ := h
  simp only [run] at h
  refine ⟨ρ, w, S, s, r, (AfterS.split s r h).imp fun d w1 S1 H1 _ x1 ⟨_, h1⟩ v rv => ?_⟩
  have r1 := r.mono x1.wle
  split at h1
  · cases rv with
    | tup q rr =>
      cases rr with
      | cons ra rr => cases rr with
        | cons rb rr =>
          cases rr
          refine ⟨_, _, rfl, SqT_same x1.sim.le q, rfl, _, _, rfl, sub_sem x1.sim r1 ra h1 fun w' S' H' x h => ?_⟩
          have r2 := r1.mono x.wle
          exact ⟨_, _, rfl, sub_sem x.sim r2 (rb.mono x.wle) h fun w2 S2 H2 x2 h => ⟨rfl, h _ _ _ (Ext.refl x2.sim) (r2.mono x2.wle)⟩⟩
  · exact h1.elim
theorem ps_setIx2D {o i o2 i2 e : Expr} {a b a2 b2 c : Ex} {p2 p3 p4 : Pos} {k : Nat} (hc : X.calm = true) (ho : PE X o (xE X Wx (sem Γ a))) (hi : PE X i (xE X Wx (sem Γ b))) (ho2 : PE X o2 (xE X Wx (sem Γ a2))) (hi2 : PE X i2 (xE X Wx (sem Γ b2))) (he : PE X e (xE X Wx (sem Γ c)))
    (hs : swapsWithSole [.Tuple [.Subscript o i p2, .Subscript o2 i2 p3] k p4] e pos.line X.env = pure false) (hw : swappedStores [.Tuple [.Subscript o i p2, .Subscript o2 i2 p3] k p4] e X.env = pure none)
    (ha : ∀ v, assign (.Subscript o i p2) X.env v = (do
      let ov ← holding [v] (eval o X.env)
      let iv ← holding [v, ov] (eval i X.env)
      standAt p2
      holding [v, ov, iv] (setItem ov iv v)
      release [v, ov, iv] []))
    (ha2 : ∀ v, assign (.Subscript o2 i2 p3) X.env v = (do
      let ov ← holding [v] (eval o2 X.env)
      let iv ← holding [v, ov] (eval i2 X.env)
      standAt p3
      holding [v, ov, iv] (setItem ov iv v)
      release [v, ov, iv] [])) :
    PS X (.Assign [.Tuple [.Subscript o i p2, .Subscript o2 i2 p3] k p4] e pos) (xS X Wx (run Γ (.setIx2 a b a2 b2 c))) :=
  PS_imp (ps_asg he (pg_tup hc (pgs_cons (pg_sub ho hi set_list ha) (pgs_cons (pg_sub ho2 hi2 set_list ha2) pgs_nil)) rfl rfl) hs hw rfl) fun Dn σ H h => setIx2_sem h
theorem ps_setIxD {o i e : Expr} {a b c : Ex} {p2 : Pos} (ho : PE X o (xE X Wx (sem Γ a))) (hi : PE X i (xE X Wx (sem Γ b))) (he : PE X e (xE X Wx (sem Γ c))) (hs : swapsWithSole [.Subscript o i p2] e pos.line X.env = pure false)
    (ha : ∀ v, assign (.Subscript o i p2) X.env v = (do
      let ov ← holding [v] (eval o X.env)
      let iv ← holding [v, ov] (eval i X.env)
      standAt p2
      holding [v, ov, iv] (setItem ov iv v)
      release [v, ov, iv] [])) :
    PS X (.Assign [.Subscript o i p2] e pos) (xS X Wx (run Γ (.setIx a b c))) := PS_imp (ps_asg he (pg_sub ho hi set_list ha) hs rfl rfl) fun Dn σ H h => setIx_sem h

/-! ### loops -/
theorem for_sem {tg : Tg} {src : Src} {body : List Sm} {Dn : Ends} {σ : L2.St} {H : Hp} (h : xS X Wx (run Γ (.for tg src body)) Dn σ H) : tFor (xI X Wx (semSrc Γ src)) (xG X tg) (xS X Wx (runs Γ body)) Dn σ H := by
  obtain ⟨ρ, w, S, s, r, h⟩ := h
  simp only [run] at h
  refine ⟨ρ, w, S, s, r, (AfterS.split s r h).imp fun p w1 S1 H1 _ x1 ⟨_, h1⟩ J it => ?_⟩
  obtain ⟨xs, g⟩ := p
  have s1 := x1.sim
  let Pv : Nat → L2.St → Hp → Prop := fun i σ2 H2 => ∃ ρ2 w2 S2, Ext X.K X.mg w1 S1 H1 w2 S2 H2 ∧ Still g S1 S2 ∧ EnvRep X.K w2 ρ2 σ2 ∧ AfterS X.K X.mg Wx Dn w2 S2 H2 (forEach (bindTg tg) (fun ρ1 S2 => runs Γ body ρ1 S2) g S1 (xs.drop i) ρ2 S2)
  refine ⟨fun i m σ2 H2 => m = xs.length - i ∧ i ≤ xs.length ∧ Pv i σ2 H2, ⟨xs.length, by simp, Nat.zero_le _, ρ, w1, S1, Ext.refl s1, fun _ _ => rfl, r.mono x1.wle, h1⟩, ?_⟩
  rintro i m σ2 H2 ⟨rfl, hi, ρ2, w2, S2, x2, st, r2, h2⟩
  by_cases hlt : i < xs.length
  · refine .inr ⟨it.go i w2 S2 H2 hlt x2 st, Pv (i + 1), fun σ' H' q => ⟨xs.length - (i + 1), by omega, rfl, hlt, q⟩, fun x H' hy => ?_⟩
    obtain ⟨d, w3, ed, x3, rd⟩ := it.yld i w2 S2 H2 x H' hlt x2 st hy
    have x13 := x2.trans s1 x3
    have h3 := AfterS.move x2.sim x3 h2
    rw [List.drop_eq_getElem_cons hlt, show xs[i] = d from by rw [List.getElem?_eq_getElem hlt] at ed; exact Option.some.inj ed] at h3
    rw [forEach] at h3
    cases eb : bindTg tg d ρ2 with
    | none => rw [eb] at h3; exact h3.elim
    | some ρ3 =>
      rw [eb] at h3
      refine ⟨d, ρ2, w3, S2, ρ3, x3.sim, r2.mono x3.wle, rd, eb, fun σ3 r3 _ => ⟨ρ3, w3, S2, x3.sim, r3, ?_⟩⟩
      simp only at h3
      cases er : runs Γ body ρ3 S2 with
      | nx ρ4 S4 =>
        rw [er] at h3
        simp only at h3
        split at h3
        · rename_i st4
          exact fun w4 H4 σ4 x4 r4 => ⟨ρ4, w4, S4, x13.trans s1 x4, st4, r4, AfterS.move x3.sim x4 h3⟩
        · exact h3.elim
      | ct ρ4 S4 =>
        rw [er] at h3
        simp only at h3
        split at h3
        · rename_i st4
          exact fun w4 H4 σ4 x4 r4 => ⟨ρ4, w4, S4, x13.trans s1 x4, st4, r4, AfterS.move x3.sim x4 h3⟩
        · exact h3.elim
      | bk ρ4 S4 => rw [er] at h3; exact h3
      | rt d4 S4 => rw [er] at h3; exact h3
      | exc x4 ρ4 S4 => rw [er] at h3; exact h3
      | bad => rw [er] at h3; exact h3
  · have e : i = xs.length := by omega
    subst e
    refine .inl ⟨it.stop w2 S2 H2 x2 st, ?_⟩
    rw [List.drop_length, forEach] at h2
    exact h2 w2 H2 σ2 (Ext.refl x2.sim) r2
theorem ps_forD {tge iter : Expr} {bs : List Stmt} {tg : Tg} {src : Src} {body : List Sm} (hp : PassesOwn (model X.prog X.w) X.A X.env X.xe) (hc : X.calm = true) (hi : PI X tge iter (xI X Wx (semSrc Γ src))) (hg : PG X tge (xG X tg)) (hb : PSs X bs (xS X Wx (runs Γ body)))
    (hs : ∀ x, foldedSetIterable iter X.env x = pure x) : PS X (.For tge iter bs [] pos) (xS X Wx (run Γ (.for tg src body))) := PS_imp (ps_for hp hc hi hg hb hs) fun Dn σ H h => for_sem h
end
end DL

/-! DLy: dicts. -/
namespace DL
open PySem PySem.Spec PyProof.Rows L2

section
variable {X : Cx} {Wx : WX} {Γ : Gm} {pos : Pos}
theorem pe_dnewD : PE X (.Dict [] [] pos) (xE X Wx (sem Γ .dnew)) := PE_imp pe_dnewK fun σ H Q ⟨ρ, w, S, s, r, h⟩ p hp => by
  simp only [sem] at h
  refine h _ _ (ext_cell (c := .dK []) s hp ⟨[], rfl, .nil⟩) _ ?_
  have := Rep.loc (K := X.K) (w := w.cell p) (n := S.length) (by show S.length < w.N + 1; rw [s.len]; exact Nat.lt_succ_self _)
  rwa [s.len, Wd.cell_m, ← s.len] at this
def rDG : R2 := fun x y H Q => ∃ a v, x = .ref a ∧ DGet H a y (some v) ∧ Q v H
theorem opd_dget : OpD X Wx rDG dgetEv := fun σ w S H x y v u Q s rx ry h => by
  unfold dgetEv at h
  split at h
  · rename_i ks k e1 e2
    obtain ⟨a, ws, rfl, hd, rk⟩ := dict_at s rx e1
    have ek := keyD_v e2 ry
    subst ek
    rcases rk.val (k := k) with ⟨d, z, h1, h2, h3⟩ | ⟨h1, h2⟩
    · rw [h1] at h
      exact ⟨a, z, rfl, .inl ⟨ws, k, hd, rfl, h2.symm⟩, After.here s h _ h3⟩
    · rw [h1] at h
      exact h.elim
  · exact h.elim
theorem pe_dgetD {e e' : Expr} {a b : Ex} (hu : X.A.units + 1 < cLine) (ha : PE X e (xE X Wx (sem Γ a))) (hb : PE X e' (xE X Wx (sem Γ b))) (hs : NoSl e') : PE X (.Subscript e e' pos) (xE X Wx (sem Γ (.dget a b))) := PE_imp (pe_dget hu ha hb hs) fun σ H Q ⟨ρ, w, S, s, r, h⟩ => by
  simp only [sem] at h
  exact op_two opd_dget ⟨ρ, w, S, s, r, h⟩
def rDI (neg : Bool) : R2 := fun y x H Q => ∃ a o, x = .ref a ∧ DGet H a y o ∧ Q (.bl (if neg then !o.isSome else o.isSome)) H
theorem opd_din {neg : Bool} : OpD X Wx (rDI neg) (dinEv neg) := fun σ w S H y x u v Q s ry rx h => by
  unfold dinEv at h
  split at h
  · rename_i ks k e1 e2
    obtain ⟨a, ws, rfl, hd, rk⟩ := dict_at s rx e1
    have ek := keyD_v e2 ry
    subst ek
    refine ⟨a, valV ws k, rfl, .inl ⟨ws, k, hd, rfl, rfl⟩, ?_⟩
    have he : (valD ks k).isSome = (valV ws k).isSome := by
      rcases rk.val (k := k) with ⟨d, z, h1, h2, h3⟩ | ⟨h1, h2⟩ <;> rw [h1, h2] <;> rfl
    rw [he] at h
    exact After.here s h _ (.bl _)
  · exact h.elim
theorem din_sem {neg : Bool} {σ : L2.St} {H : Hp} {Q : VK} {a b : Ex} (h : xE X Wx (sem Γ (.din neg a b)) σ H Q) : tOp (rDI neg) (xE X Wx (sem Γ a)) (xE X Wx (sem Γ b)) σ H Q := by
  obtain ⟨ρ, w, S, s, r, h⟩ := h
  simp only [sem] at h
  exact op_two opd_din ⟨ρ, w, S, s, r, h⟩
theorem pe_dinD {e e' : Expr} {a b : Ex} (hu : X.A.units + 1 < cLine) (ha : PE X e (xE X Wx (sem Γ a))) (hb : PE X e' (xE X Wx (sem Γ b))) (hm : behindInMarks .In e' = false) : PE X (.Compare e [.In] [e'] pos) (xE X Wx (sem Γ (.din false a b))) := PE_imp (pe_cmp (pc_din hu ha hb) hm) fun σ H Q h => din_sem h
theorem pe_dninD {e e' : Expr} {a b : Ex} (hu : X.A.units + 1 < cLine) (ha : PE X e (xE X Wx (sem Γ a))) (hb : PE X e' (xE X Wx (sem Γ b))) (hm : behindInMarks .NotIn e' = false) : PE X (.Compare e [.NotIn] [e'] pos) (xE X Wx (sem Γ (.din true a b))) := PE_imp (pe_cmp (pc_dnotin hu ha hb) hm) fun σ H Q h => din_sem h
theorem pt_dinD {e e' : Expr} {a b : Ex} (hu : X.A.units + 1 < cLine) (ha : PE X e (xE X Wx (sem Γ a))) (hb : PE X e' (xE X Wx (sem Γ b))) (hm : behindInMarks .In e' = false) : PT X (.Compare e [.In] [e'] pos) (xT X Wx fun ρ S => asBl (sem Γ (.din false a b) ρ S)) :=
  PT_imp (pt_cmp (pc_din hu ha hb) hm) fun σ H Q h => tB_test (tt_of (F := sem Γ (.din false a b)) (fun _ _ _ h => din_sem h) h)
theorem pt_dninD {e e' : Expr} {a b : Ex} (hu : X.A.units + 1 < cLine) (ha : PE X e (xE X Wx (sem Γ a))) (hb : PE X e' (xE X Wx (sem Γ b))) (hm : behindInMarks .NotIn e' = false) : PT X (.Compare e [.NotIn] [e'] pos) (xT X Wx fun ρ S => asBl (sem Γ (.din true a b) ρ S)) :=
  PT_imp (pt_cmp (pc_dnotin hu ha hb) hm) fun σ H Q h => tB_test (tt_of (F := sem Γ (.din true a b)) (fun _ _ _ h => din_sem h) h)
def DM1.nm : DM1 → Str
  | .get => "get" | .pop => "pop"
def DM2.nm : DM2 → Str
  | .get => "get" | .pop => "pop" | .setd => "setdefault"
theorem isD_of {w : Wd} {S : Store} {H : Hp} {x : D} {v : V} (s : Sim X.K X.mg w S H) (rx : Rep X.K w x v) (h : (dictC S x).isSome = true) : ∃ a, v = .ref a ∧ IsD H a := by
  obtain ⟨ks, e⟩ := Option.isSome_iff_exists.1 h
  obtain ⟨a, ws, rfl, hd, _⟩ := dict_at s rx e
  exact ⟨a, rfl, .inl ⟨ws, hd⟩⟩
theorem getD_rep {w : Wd} {k : Key} {ks : List (Key × D)} {ws : List (Key × V)} {z : D} {v : V} (rk : RepK X.K w ks ws) (rz : Rep X.K w z v) : Rep X.K w ((valD ks k).getD z) ((valV ws k).getD v) := by
  rcases rk.val (k := k) with ⟨d, u, h1, h2, h3⟩ | ⟨h1, h2⟩
  · rw [h1, h2]; exact h3
  · rw [h1, h2]; exact rz
theorem pe_dm1D {m : DM1} {o e : Expr} {a b : Ex} {apos cpos : Pos} (hu : X.A.units + 1 < cLine) (ho : PE X o (xE X Wx (sem Γ a))) (he : PE X e (xE X Wx (sem Γ b))) (m1 : M1 X o m.nm apos e cpos) : PE X (.Call (.Attribute o m.nm apos) [e] [] cpos) (xE X Wx (sem Γ (.dm1 m a b))) := by
  cases m with
  | get =>
    refine PE_imp (pe_dget1 hu ho he m1) fun σ H Q ⟨ρ, w, S, s, q, h⟩ => ?_
    simp only [sem] at h
    refine ⟨ρ, w, S, s, q, (After.split s h).imp fun x w1 S1 H1 _ x1 ⟨_, h1⟩ v rx => ?_⟩
    split at h1
    · rename_i hd
      obtain ⟨p, rfl, isd⟩ := isD_of x1.sim rx hd
      refine ⟨p, rfl, isd, ρ, w1, S1, x1.sim, q.mono x1.wle, (After.split x1.sim h1).imp fun y w2 S2 H2 _ x2 ⟨_, h2⟩ u ry => ?_⟩
      unfold DM1.ev at h2
      simp only at h2
      split at h2
      · rename_i ks k e1 e2
        obtain ⟨p', ws, ep, hd2, rk⟩ := dict_at x2.sim (rx.mono x2.wle) e1
        cases ep
        have ek := keyD_v e2 ry
        subst ek
        exact ⟨valV ws k, .inl ⟨ws, k, hd2, rfl, rfl⟩, After.here x2.sim h2 _ (getD_rep rk .non)⟩
      · exact h2.elim
    · exact h1.elim
  | pop =>
    refine PE_imp (pe_dpop1 ho he m1) fun σ H Q ⟨ρ, w, S, s, q, h⟩ => ?_
    simp only [sem] at h
    refine ⟨ρ, w, S, s, q, (After.split s h).imp fun x w1 S1 H1 _ x1 ⟨_, h1⟩ v rx => ?_⟩
    split at h1
    · rename_i hd
      obtain ⟨p, rfl, isd⟩ := isD_of x1.sim rx hd
      refine ⟨p, rfl, isd, ρ, w1, S1, x1.sim, q.mono x1.wle, (After.split x1.sim h1).imp fun y w2 S2 H2 _ x2 ⟨_, h2⟩ u ry => ?_⟩
      unfold DM1.ev at h2
      simp only at h2
      obtain ⟨n, k, rfl, e2⟩ : ∃ n k, x = .loc n ∧ keyD y = some k := by
        cases x with
        | loc n => cases e2 : keyD y with
          | none => rw [e2] at h2; exact h2.elim
          | some k => exact ⟨n, k, rfl, rfl⟩
        | _ => exact h2.elim
      rw [e2] at h2
      simp only at h2
      · have ek := keyD_v e2 ry
        subst ek
        split at h2
        · rename_i ks e1
          obtain ⟨ws, e3, rk⟩ := dcell_at x2.sim e1
          have rx2 := rx.mono x2.wle
          cases rx2
          rcases rk.val (k := k) with ⟨d, z, q1, q2, q3⟩ | ⟨q1, q2⟩
          · rw [q1] at h2
            exact ⟨ws, k, z, e3, rfl, q2, h2 _ _ (ext_set (c' := .dK (dropD ks k)) x2.sim e1 ⟨_, rfl, rk.drop⟩) _ q3⟩
          · rw [q1] at h2
            exact h2.elim
        · exact h2.elim
    · exact h1.elim
theorem pe_dm2D {m : DM2} {o e f : Expr} {a b c : Ex} {apos cpos : Pos} (hu : X.A.units + 1 < cLine) (ho : PE X o (xE X Wx (sem Γ a))) (he : PE X e (xE X Wx (sem Γ b))) (hf : PE X f (xE X Wx (sem Γ c))) (m1 : M2 X o m.nm apos e f cpos) : PE X (.Call (.Attribute o m.nm apos) [e, f] [] cpos) (xE X Wx (sem Γ (.dm2 m a b c))) := by
  have go : ∀ {t : TE}, PE X (.Call (.Attribute o m.nm apos) [e, f] [] cpos) t → (∀ (x y z : D) (w : Wd) (S : Store) (H : Hp) (p : Addr) (u v : V) (σ : L2.St) (Q : VK), Sim X.K X.mg w S H → Rep X.K w x (.ref p) → Rep X.K w y u → Rep X.K w z v → After X.K X.mg Wx σ w S H (m.ev x y z S) (fun d w' _ H' => ∀ v, Rep X.K w' d v → Q v H') → True) → True := fun _ _ => trivial
  cases m with
  | get =>
    refine PE_imp (pe_dget2 hu ho he hf m1) fun σ H Q ⟨ρ, w, S, s, q, h⟩ => ?_
    simp only [sem] at h
    refine ⟨ρ, w, S, s, q, (After.split s h).imp fun x w1 S1 H1 _ x1 ⟨_, h1⟩ v rx => ?_⟩
    split at h1
    · rename_i hd
      obtain ⟨p, rfl, isd⟩ := isD_of x1.sim rx hd
      refine ⟨p, rfl, isd, ρ, w1, S1, x1.sim, q.mono x1.wle, (After.split x1.sim h1).imp fun y w2 S2 H2 _ x2 ⟨_, h2⟩ u ry => ?_⟩
      refine ⟨ρ, w2, S2, x2.sim, (q.mono x1.wle).mono x2.wle, (After.split x2.sim h2).imp fun z w3 S3 H3 _ x3 ⟨_, h3⟩ zv rz => ?_⟩
      unfold DM2.ev at h3
      simp only at h3
      split at h3
      · rename_i ks k e1 e2
        obtain ⟨p', ws, ep, hd2, rk⟩ := dict_at x3.sim ((rx.mono x2.wle).mono x3.wle) e1
        cases ep
        have ek := keyD_v e2 ry
        subst ek
        exact ⟨valV ws k, .inl ⟨ws, k, hd2, rfl, rfl⟩, After.here x3.sim h3 _ (getD_rep rk rz)⟩
      · exact h3.elim
    · exact h1.elim
  | pop =>
    refine PE_imp (pe_dpop2 ho he hf m1) fun σ H Q ⟨ρ, w, S, s, q, h⟩ => ?_
    simp only [sem] at h
    refine ⟨ρ, w, S, s, q, (After.split s h).imp fun x w1 S1 H1 _ x1 ⟨_, h1⟩ v rx => ?_⟩
    split at h1
    · rename_i hd
      obtain ⟨p, rfl, isd⟩ := isD_of x1.sim rx hd
      refine ⟨p, rfl, isd, ρ, w1, S1, x1.sim, q.mono x1.wle, (After.split x1.sim h1).imp fun y w2 S2 H2 _ x2 ⟨_, h2⟩ u ry => ?_⟩
      refine ⟨ρ, w2, S2, x2.sim, (q.mono x1.wle).mono x2.wle, (After.split x2.sim h2).imp fun z w3 S3 H3 _ x3 ⟨_, h3⟩ zv rz => ?_⟩
      unfold DM2.ev at h3
      simp only at h3
      obtain ⟨n, k, rfl, e2⟩ : ∃ n k, x = .loc n ∧ keyD y = some k := by
        cases x with
        | loc n => cases e2 : keyD y with
          | none => rw [e2] at h3; exact h3.elim
          | some k => exact ⟨n, k, rfl, rfl⟩
        | _ => exact h3.elim
      rw [e2] at h3
      simp only at h3
      · have ek := keyD_v e2 ry
        subst ek
        split at h3
        · rename_i ks e1
          obtain ⟨ws, e3, rk⟩ := dcell_at x3.sim e1
          have rx2 := (rx.mono x2.wle).mono x3.wle
          cases rx2
          refine ⟨ws, k, e3, rfl, fun v' hv => ?_, fun hv => ?_⟩
          · rcases rk.val (k := k) with ⟨d, z', q1, q2, q3⟩ | ⟨q1, q2⟩
            · rw [q2] at hv
              cases hv
              rw [q1] at h3
              exact h3 _ _ (ext_set (c' := .dK (dropD ks k)) x3.sim e1 ⟨_, rfl, rk.drop⟩) _ q3
            · rw [q2] at hv
              cases hv
          · rcases rk.val (k := k) with ⟨d, z', q1, q2, q3⟩ | ⟨q1, q2⟩
            · rw [q2] at hv
              cases hv
            · rw [q1] at h3
              exact After.here x3.sim h3 _ rz
        · exact h3.elim
    · exact h1.elim
  | setd =>
    refine PE_imp (pe_dsetd ho he hf m1) fun σ H Q ⟨ρ, w, S, s, q, h⟩ => ?_
    simp only [sem] at h
    refine ⟨ρ, w, S, s, q, (After.split s h).imp fun x w1 S1 H1 _ x1 ⟨_, h1⟩ v rx => ?_⟩
    split at h1
    · rename_i hd
      obtain ⟨p, rfl, isd⟩ := isD_of x1.sim rx hd
      refine ⟨p, rfl, isd, ρ, w1, S1, x1.sim, q.mono x1.wle, (After.split x1.sim h1).imp fun y w2 S2 H2 _ x2 ⟨_, h2⟩ u ry => ?_⟩
      refine ⟨ρ, w2, S2, x2.sim, (q.mono x1.wle).mono x2.wle, (After.split x2.sim h2).imp fun z w3 S3 H3 _ x3 ⟨_, h3⟩ zv rz => ?_⟩
      unfold DM2.ev at h3
      simp only at h3
      obtain ⟨n, k, rfl, e2⟩ : ∃ n k, x = .loc n ∧ keyD y = some k := by
        cases x with
        | loc n => cases e2 : keyD y with
          | none => rw [e2] at h3; exact h3.elim
          | some k => exact ⟨n, k, rfl, rfl⟩
        | _ => exact h3.elim
      rw [e2] at h3
      simp only at h3
      · have ek := keyD_v e2 ry
        subst ek
        split at h3
        · rename_i ks e1
          obtain ⟨ws, e3, rk⟩ := dcell_at x3.sim e1
          have rx2 := (rx.mono x2.wle).mono x3.wle
          cases rx2
          have hl : lineOk (ks.length + 1) = true := by
            by_cases hl : lineOk (ks.length + 1) = true
            · exact hl
            · cases e4 : valD ks k with
              | some d => rw [e4] at h3; simp only [hl, if_false] at h3; exact h3.elim
              | none => rw [e4] at h3; simp only [hl, if_false] at h3; exact h3.elim
          have hl2 := of_decide_eq_true hl
          refine ⟨ws, k, e3, rfl, by rw [← rk.len, sizeLine_eq]; omega, fun v' hv => ?_, fun hv => ?_⟩
          · rcases rk.val (k := k) with ⟨d, z', q1, q2, q3⟩ | ⟨q1, q2⟩
            · rw [q2] at hv
              cases hv
              rw [q1] at h3
              simp only [hl, if_true] at h3
              exact After.here x3.sim h3 _ q3
            · rw [q2] at hv
              cases hv
          · rcases rk.val (k := k) with ⟨d, z', q1, q2, q3⟩ | ⟨q1, q2⟩
            · rw [q2] at hv
              cases hv
            · rw [q1] at h3
              simp only [hl, if_true] at h3
              exact h3 _ _ (ext_set (c' := .dK (putD ks k z)) x3.sim e1 ⟨_, rfl, rk.put rz⟩) _ rz
        · exact h3.elim
    · exact h1.elim
/-- d[k] = e -/
theorem ps_dputD {o i e : Expr} {a b c : Ex} {p2 : Pos} (hu : X.A.units + 1 < cLine) (ho : PE X o (xE X Wx (sem Γ a))) (hi : PE X i (xE X Wx (sem Γ b))) (he : PE X e (xE X Wx (sem Γ c))) (hs : swapsWith e (some (.Subscript o i p2)) pos.line X.env = pure false) :
    PS X (.Assign [.Subscript o i p2] e pos) (xS X Wx (run Γ (.dput a b c))) := PS_imp (ps_dput hu ho hi he hs) fun Dn σ H h => by
  obtain ⟨ρ, w, S, s, r, h⟩ := h
  simp only [run] at h
  refine ⟨ρ, w, S, s, r, (AfterS.split s r h).imp fun d w1 S1 H1 _ x1 ⟨_, h1⟩ v rv => ?_⟩
  have r1 := r.mono x1.wle
  refine ⟨ρ, w1, S1, x1.sim, r1, (AfterS.split x1.sim r1 h1).imp fun x w2 S2 H2 _ x2 ⟨_, h2⟩ xv rx => ?_⟩
  have r2 := r1.mono x2.wle
  refine ⟨ρ, w2, S2, x2.sim, r2, (AfterS.split x2.sim r2 h2).imp fun y w3 S3 H3 _ x3 ⟨_, h3⟩ yv ry => ?_⟩
  have rx3 := rx.mono x3.wle
  have rd3 := rv.mono (x2.wle.trans x3.wle)
  have r3 := r2.mono x3.wle
  unfold dputEv at h3
  obtain ⟨n, k, rfl, e2⟩ : ∃ n k, x = .loc n ∧ keyD y = some k := by
    cases x with
    | loc n => cases e2 : keyD y with
      | none => rw [e2] at h3; exact h3.elim
      | some k => exact ⟨n, k, rfl, rfl⟩
    | _ => exact h3.elim
  rw [e2] at h3
  simp only at h3
  · have ek := keyD_v e2 ry
    subst ek
    split at h3
    · rename_i ks e1
      obtain ⟨ws, e3, rk⟩ := dcell_at x3.sim e1
      cases rx3
      split at h3
      · rename_i hl
        have hl2 := of_decide_eq_true hl
        exact ⟨_, _, rfl, .inl ⟨ws, k, e3, rfl, by rw [← rk.len, sizeLine_eq]; omega, rfl⟩, h3 _ _ σ (ext_set (c' := .dK (putD ks k d)) x3.sim e1 ⟨_, rfl, rk.put rd3⟩) r3⟩
      · exact h3.elim
    · exact h3.elim
/-! ### walks -/
theorem lock_at {r : Res D} {S : Store} {n : Nat} {ks : List (Key × D)} (h : lockOf r S = some (n, ks)) : S[n]? = some (some (.dK ks)) := by
  unfold lockOf at h
  split at h
  · split at h
    · rename_i e
      cases h
      exact e
    · cases h
  · cases h
theorem pe_lockD {e : Expr} {d a : Ex} (ha : PE X e (xE X Wx (sem Γ a))) : PE X e (xE X Wx (sem Γ (.lock d a))) := PE_imp (pe_lock ha) fun σ H Q ⟨ρ, w, S, s, r, h⟩ => by
  simp only [sem] at h
  cases el : lockOf (sem Γ d ρ S) S with
  | none => rw [el] at h; exact h.elim
  | some p =>
    obtain ⟨n, ks⟩ := p
    rw [el] at h
    simp only at h
    have hn := lock_at el
    obtain ⟨ws, e1, rk⟩ := dcell_at s hn
    refine ⟨w.m n, .dK ws, e1, trivial, fun od => ?_⟩
    have x0 := ext_lock (od := od) s hn rk
    refine ⟨ρ, w, S.set n (some (.fK ks)), x0.sim, r, ?_⟩
    cases er : sem Γ a ρ (S.set n (some (.fK ks))) with
    | ok v S' =>
      rw [er] at h
      intro w' H' x u ru
      obtain ⟨q1, q2⟩ := ext_unlock s hn rk x
      exact ⟨q1, h w' _ q2 u ru⟩
    | exc v S' => rw [er] at h; exact h.elim
    | bad => rw [er] at h; exact h.elim
theorem ps_lockD {st : Stmt} {d : Ex} {a : Sm} (ha : PS X st (xS X Wx (run Γ a))) : PS X st (xS X Wx (run Γ (.lock d a))) := PS_imp (ps_lock ha) fun Dn σ H ⟨ρ, w, S, s, r, h⟩ => by
  simp only [run] at h
  cases el : lockOf (sem Γ d ρ S) S with
  | none => rw [el] at h; exact h.elim
  | some p =>
    obtain ⟨n, ks⟩ := p
    rw [el] at h
    simp only at h
    have hn := lock_at el
    obtain ⟨ws, e1, rk⟩ := dcell_at s hn
    refine ⟨w.m n, .dK ws, e1, trivial, fun od => ?_⟩
    have x0 := ext_lock (od := od) s hn rk
    refine ⟨ρ, w, S.set n (some (.fK ks)), x0.sim, r, ?_⟩
    cases er : run Γ a ρ (S.set n (some (.fK ks))) with
    | nx ρ' S' =>
      rw [er] at h
      intro w' H' σ' x ru
      obtain ⟨q1, q2⟩ := ext_unlock s hn rk x
      exact ⟨q1, h w' _ σ' q2 ru⟩
    | rt v S' =>
      rw [er] at h
      intro w' H' u x ru
      obtain ⟨q1, q2⟩ := ext_unlock s hn rk x
      exact ⟨q1, h w' _ u q2 ru⟩
    | bk ρ' S' =>
      rw [er] at h
      intro w' H' σ' x ru
      obtain ⟨q1, q2⟩ := ext_unlock s hn rk x
      exact ⟨q1, h w' _ σ' q2 ru⟩
    | ct ρ' S' =>
      rw [er] at h
      intro w' H' σ' x ru
      obtain ⟨q1, q2⟩ := ext_unlock s hn rk x
      exact ⟨q1, h w' _ σ' q2 ru⟩
    | exc v ρ' S' => rw [er] at h; exact h.elim
    | bad => rw [er] at h; exact h.elim
theorem pi_keysD {tg e : Expr} {a : Ex} (ha : PE X e (xE X Wx (sem Γ a))) : PI X tg e (xI X Wx (semSrc Γ (.keys a))) := PI_imp (pi_keys ha) fun σ H R ⟨ρ, w, S, s, r, h⟩ => by
  simp only [semSrc] at h
  refine ⟨ρ, w, S, s, r, (After.split s h).imp fun d w1 S1 H1 _ x1 ⟨_, h1⟩ v rv => ?_⟩
  unfold keysOf at h1
  cases d with
  | loc n =>
    simp only at h1
    cases e1 : S1[n]? with
    | none => rw [e1] at h1; exact h1.elim
    | some o =>
      cases o with
      | none => rw [e1] at h1; exact h1.elim
      | some c =>
        cases c with
        | fK ks =>
          rw [e1] at h1
          have s1 := x1.sim
          obtain ⟨o, e2, ws, od, rfl, rk⟩ := s1.cell n _ e1
          cases rv
          refine ⟨w1.m n, od, rfl, .inl ⟨ws, e2, After.here s1 h1 _ ?_⟩⟩
          have stand : ∀ w' S' H', Ext X.K X.mg w1 S1 H1 w' S' H' → H' (w1.m n) = some (.frz od (.dK ws)) := fun w' S' H' x' => (x'.fz n ⟨ks, e1⟩).2.trans e2
          refine ⟨fun i w' S' H' hi x' st => ⟨stand w' S' H' x', ?_⟩, fun w' S' H' x' st => ⟨stand w' S' H' x', ?_⟩, fun i w' S' H' y H2 hi x' st hy => ?_⟩
          · rw [List.length_map] at hi; rw [← rk.len]; exact hi
          · rw [List.length_map, rk.len]; exact Nat.le_refl _
          · obtain ⟨rfl, k, z, ek, rfl⟩ := hy
            obtain ⟨d, ed, _⟩ := rk.getV ek
            refine ⟨dKey k, w', ?_, Ext.refl x'.sim, dKey_rep k⟩
            rw [List.getElem?_map, ed]
            rfl
        | _ => rw [e1] at h1; exact h1.elim
  | dK ks =>
    simp only at h1
    have s1 := x1.sim
    cases rv with
    | dK q rk =>
      obtain ⟨od, q⟩ := q
      rename_i a ws
      have e2 := s1.le _ _ q
      refine ⟨a, od, rfl, .inl ⟨ws, e2, After.here s1 h1 _ ?_⟩⟩
      have stand : ∀ w' S' H', Ext X.K X.mg w1 S1 H1 w' S' H' → H' a = some (.frz od (.dK ws)) := fun w' S' H' x' => x'.keep _ _ e2 fun n l z => by
        have := s1.apart n l
        rw [z, q] at this
        cases this
      refine ⟨fun i w' S' H' hi x' st => ⟨stand w' S' H' x', ?_⟩, fun w' S' H' x' st => ⟨stand w' S' H' x', ?_⟩, fun i w' S' H' y H2 hi x' st hy => ?_⟩
      · rw [List.length_map] at hi; rw [← rk.len]; exact hi
      · rw [List.length_map, rk.len]; exact Nat.le_refl _
      · obtain ⟨rfl, k, z, ek, rfl⟩ := hy
        obtain ⟨d, ed, _⟩ := rk.getV ek
        refine ⟨dKey k, w', ?_, Ext.refl x'.sim, dKey_rep k⟩
        rw [List.getElem?_map, ed]
        rfl
  | _ => exact h1.elim
end
end DL

/-! DLx: exceptions: made, raised, caught and noted, looked at. -/
namespace DL
open PySem PySem.Spec PyProof.Rows L2

section
variable {X : Cx} {Wx : WX} {Γ : Gm} {pos : Pos}
/-- a tracked exception: its object, its own dict -/
def Exc1 (K : PySem.W.Frag) (H : Hp) (a C : Addr) (dd : Option Addr) (fs : List (Str × V)) : Prop := H a = some (ExV (.ref C) dd a) ∧ ((dd = none ∧ fs = []) ∨ ∃ ad, dd = some ad ∧ H ad = some (.xd fs))
theorem exc1_of {w : Wd} {S : Store} {H : Hp} {c : Str} {ups : List Str} {fs : List (Str × D)} {v : V} (s : Sim X.K X.mg w S H) (r : Rep X.K w (.exn c ups fs) v) :
    ∃ a C dd ws, v = .ref a ∧ X.mg c = some (.ref C) ∧ XcOk X.K X.mg ups C ∧ Exc1 X.K H a C dd ws ∧ RepF X.K w fs ws := by
  cases r with
  | exn0 h1 h2 h3 => exact ⟨_, _, none, [], rfl, by rw [← s.fa]; exact h1, by rw [← s.fa]; exact h2, ⟨s.le _ _ h3, .inl ⟨rfl, rfl⟩⟩, .nil⟩
  | exn h1 h2 h3 h4 r => exact ⟨_, _, _, _, rfl, by rw [← s.fa]; exact h1, by rw [← s.fa]; exact h2, ⟨s.le _ _ h3, .inr ⟨_, rfl, s.le _ _ h4⟩⟩, r⟩
theorem exc1_inst {pins : List (Addr × Obj)} {σ : L2.St} {H : Hp} {s : Shared} {a C : Addr} {dd : Option Addr} {fs : List (Str × V)} (I : Inv X pins σ H s) (h : Exc1 X.K H a C dd fs) :
    ∃ oe od, PySem.W.InstAt s.heap a oe C od ∧ ∀ f v, fs.lookup f = some v → ∃ (o' : Obj) (u : Value), od = some o' ∧ PySem.W.lookIn f o' = some (some u) ∧ L2.RelV v u := by
  obtain ⟨h1, h2⟩ := h
  obtain ⟨⟨oe, vs, ha, hz, hd⟩, _⟩ := I.hok a _ h1
  rcases h2 with ⟨rfl, rfl⟩ | ⟨ad, rfl, h2⟩
  · refine ⟨oe, none, ?_, fun f v e => by cases e⟩
    obtain ⟨oc, odd, oda, osl⟩ := oe
    obtain ⟨h1, h2⟩ := hz
    dsimp only at h1 h2 hd
    subst h1 h2 hd
    exact ⟨ha, rfl, rfl, trivial⟩
  · obtain ⟨mA, hns, hr⟩ := I.hok ad _ h2
    obtain ⟨od, ho, hl⟩ := lookIn_ns hns
    refine ⟨oe, some od, ⟨ha, hz.1, by unfold PySem.W.notCls; rw [hd] <;> rfl, by rw [hz.2]; exact ho⟩, fun f v e => ?_⟩
    obtain ⟨u, hu, ru⟩ := RelO.some_of (v := v) (o := mA f) (by rw [← e]; exact hr f)
    exact ⟨od, u, rfl, by rw [hl, hu], ru⟩
theorem xc_kitx {K : PySem.W.Frag} {fa : Str → Option Value} {ups : List Str} {C x : Addr} {ox : Obj} {od : Option Obj} (T : XcOk K fa ups C) : PySem.W.KitX K (.ref x) (.ref C) (fun h => PySem.W.InstAt h x ox C od) :=
  PySem.W.kitx_exc (gt := none) (by obtain ⟨cd, hc, _⟩ := PySem.W.any_some T.ec.hd; rw [hc]; rfl) T.ec.hg T.ec.hk T.ec.hs T.ec.ha T.ec.hn T.ec.ht T.ec.hm
/-- isinstance(e, c) -/
def rIsx (K : PySem.W.Frag) (mg : Str → Option Value) : List V → Hp → VK → Prop := fun xs H Q => ∃ (a C : Addr) (dd : Option Addr) (fs : List (Str × V)) (ups : List Str) (c : V) (cv : Value) (b : Bool), xs = [.ref a, c] ∧ XcOk K mg ups C ∧ Exc1 K H a C dd fs ∧ (∀ u, L2.RelV c u → u = cv) ∧ PySem.W.kitOne K (.ref C) cv = some b ∧ Q (.bl b) H
theorem call_isx : CallR X (.builtin "isinstance") (rIsx X.K X.mg) := by
  intro pins s σ H xs us Q I r h
  obtain ⟨a, C, dd, fs, ups, c, cv, b, rfl, T, e, hcv, k, q⟩ := h
  cases r with
  | cons rx rr =>
    cases rr with
    | cons rt rr =>
      cases rr
      cases rx
      have ec := hcv _ rt
      subst ec
      obtain ⟨oe, od, J, _⟩ := exc1_inst I e
      exact PySem.W.kia_one (xc_kitx T) I.kIn J k (fun z => nomatch z) fun tk => ⟨.bl b, H, I.kept (t' := tk) fun _ _ z => z, rfl, q⟩
/-- isinstance(e, (c, ..)) -/
def rIsxT (K : PySem.W.Frag) (mg : Str → Option Value) : List V → Hp → VK → Prop := fun xs H Q => ∃ (a C tp : Addr) (dd : Option Addr) (fs : List (Str × V)) (ups : List Str) (cs : List V) (cvs : List Value) (b : Bool), xs = [.ref a, .ref tp] ∧ XcOk K mg ups C ∧ Exc1 K H a C dd fs ∧ H tp = some (.tup cs) ∧ (∀ us, Vals cs us → us = cvs) ∧ PySem.W.kitAny K (.ref C) cvs = some b ∧ Q (.bl b) H
theorem call_isxT : CallR X (.builtin "isinstance") (rIsxT X.K X.mg) := by
  intro pins s σ H xs us Q I r h
  obtain ⟨a, C, tp, dd, fs, ups, cs, cvs, b, rfl, T, e, ht, hcv, k, q⟩ := h
  cases r with
  | cons rx rr =>
    cases rr with
    | cons rt rr =>
      cases rr
      cases rx
      cases rt
      obtain ⟨oe, od, J, _⟩ := exc1_inst I e
      obtain ⟨hl, its, r', ⟨⟨oc, odd, oda, osl⟩, h1, h2, n, h3⟩⟩ := I.hok tp _ ht
      dsimp only at h2 h3
      subst h2 h3
      have ec := hcv _ r'
      subst ec
      exact PySem.W.kia_tup (xc_kitx T) I.kIn J h1 k (fun z => nomatch z) fun tk => ⟨.bl b, H, I.kept (t' := tk) fun _ _ z => z, rfl, q⟩
/-- the classes that a tuple names -/
def isCls (X : Cx) : List Str → List Expr → Prop
  | [], [] => True
  | c :: cs, .Name x _ :: es => x = c ∧ Gl X c ∧ (c == ("__debug__" : Str)) = false ∧ (∃ C, X.mg c = some (.ref C)) ∧ isCls X cs es
  | _, _ => False
theorem pa_cls : ∀ {cs : List Str} {es : List Expr}, isCls X cs es → ∃ As : List Addr, cs.map X.mg = As.map (fun A => some (.ref A)) ∧ PA X es fun _ H Q => Q (As.map V.ref) H
  | [], [], _ => ⟨[], rfl, PA_imp pa_nil fun _ _ _ h => h⟩
  | c :: cs, .Name x p :: es, ⟨e, hg, hd, ⟨C, hC⟩, h⟩ => by
    subst e
    obtain ⟨As, e1, q⟩ := pa_cls h
    exact ⟨C :: As, by rw [List.map_cons, List.map_cons, hC, e1], PA_imp (pa_cons (pe_glob (v := .ref C) hg hC rfl hd) q rfl) fun _ _ _ h => h⟩
  | [], _ :: _, h => h.elim
  | _ :: _, [], h => h.elim
theorem kit_cls {ups : List Str} {C : Addr} (T : XcOk X.K X.mg ups C) : ∀ {cs : List Str} {As : List Addr}, cs.all (fun c => decide (c ∈ xNames)) = true → cs.map X.mg = As.map (fun A => some (.ref A)) → PySem.W.kitAny X.K (.ref C) (As.map Value.ref) = some (cs.any fun c => decide (c ∈ ups))
  | [], [], _, _ => kitAny_nil
  | c :: cs, A :: As, h, e => by
    rw [List.map_cons, List.map_cons, List.cons.injEq] at e
    rw [List.all_cons, Bool.and_eq_true, decide_eq_true_eq] at h
    have e1 := (T.sub c A h.1 e.1).1
    have e2 := kit_cls T h.2 e.2
    rw [List.map_cons, List.any_cons]
    cases hb : decide (c ∈ ups) with
    | true => rw [hb] at e1; exact kitAny_cons e1 (fun z => nomatch z) fun _ => rfl
    | false => rw [hb] at e1; exact kitAny_cons e1 (fun _ => e2) fun z => nomatch z
  | [], _ :: _, _, e => by cases e
  | _ :: _, [], _, e => by cases e
theorem pe_isXD {e : Expr} {a : Ex} {c : Str} {p p2 : Pos} {C' : Addr} (ha : PE X e (xE X Wx (sem Γ a))) (hg : Gl X "isinstance") (hm : X.mg "isinstance" = none) (hg2 : Gl X c) (hd : (c == ("__debug__" : Str)) = false) (hC : X.mg c = some (.ref C'))
    (he : starEach [e, .Name c p2] X.env = (false, eval e X.env) :: starEach [.Name c p2] X.env) : PE X (.Call (.Name "isinstance" p) [e, .Name c p2] [] pos) (xE X Wx (sem Γ (.isX [c] a))) := by
  have h2 : PE X (.Name c p2) (tC (.ref C')) := pe_glob (v := .ref C') hg2 hC rfl hd
  refine PE_imp (pe_callB call_isx hg hm (by decide +kernel) (pa_cons ha (pa_cons h2 pa_nil rfl) he) (by decide) (by decide) he rfl) fun σ H Q ⟨ρ, w, S, s, r, h⟩ => ?_
  simp only [sem] at h
  refine ⟨ρ, w, S, s, r, (After.split s h).imp fun d w1 S1 H1 _ x1 ⟨_, h1⟩ v rv => ?_⟩
  cases d with
  | exn cn ups fs =>
    simp only at h1
    split at h1
    · rename_i hx
      simp only [List.all_cons, List.all_nil, Bool.and_true, Bool.and_eq_true, decide_eq_true_eq] at hx
      obtain ⟨b, C, dd, ws, rfl, hm2, T, E, _⟩ := exc1_of x1.sim rv
      refine ⟨b, C, dd, ws, ups, .ref C', .ref C', decide (c ∈ ups), rfl, T, E, fun u z => z, (T.sub c C' hx.1 hC).1, ?_⟩
      simp only [List.any_cons, List.any_nil, Bool.or_false] at h1
      exact After.here x1.sim h1 _ (.bl _)
    · exact h1.elim
  | _ => exact h1.elim
theorem refs_eq : ∀ {As : List Addr} {us : List Value}, Vals (As.map V.ref) us → us = As.map Value.ref
  | [], _, h => by cases h; rfl
  | A :: As, _, h => by
    cases h with
    | cons z1 z2 => obtain rfl := z1; rw [List.map_cons, refs_eq z2]
theorem pe_isXTD {e : Expr} {es : List Expr} {a : Ex} {cs : List Str} {p p2 : Pos} {k} (ha : PE X e (xE X Wx (sem Γ a))) (hg : Gl X "isinstance") (hm : X.mg "isinstance" = none) (hl : cs.length ≤ sizeLine) (hc : isCls X cs es)
    (he : starEach [e, .Tuple es k p2] X.env = (false, eval e X.env) :: starEach [.Tuple es k p2] X.env) : PE X (.Call (.Name "isinstance" p) [e, .Tuple es k p2] [] pos) (xE X Wx (sem Γ (.isX cs a))) := by
  obtain ⟨As, e1, q1⟩ := pa_cls hc
  refine PE_imp (pe_callB call_isxT hg hm (by decide +kernel) (pa_cons ha (pa_cons (pe_tup q1) pa_nil rfl) he) (by decide) (by decide) he rfl) fun σ H Q ⟨ρ, w, S, s, r, h⟩ => ?_
  simp only [sem] at h
  refine ⟨ρ, w, S, s, r, (After.split s h).imp fun d w1 S1 H1 _ x1 ⟨_, h1⟩ v rv => ?_⟩
  cases d with
  | exn cn ups fs =>
    simp only at h1
    split at h1
    · rename_i hx
      rw [Bool.and_eq_true] at hx
      have el : cs.length = As.length := by simpa using congrArg List.length e1
      refine ⟨by simpa [← el] using hl, fun q hq => ?_⟩
      have x2 := ext_own (o := .tup (As.map V.ref)) x1.sim hq
      obtain ⟨b, C, dd, ws, rfl, hm2, T, E, _⟩ := exc1_of x2.sim (rv.mono x2.wle)
      refine ⟨b, C, q, dd, ws, ups, As.map V.ref, As.map Value.ref, _, rfl, T, E, upd_same, fun us z => refs_eq z, kit_cls T hx.1 e1, h1 _ _ x2 _ (.bl _)⟩
    · exact h1.elim
  | _ => exact h1.elim
theorem pe_isVED {e : Expr} {a : Ex} {p p2 : Pos} (ha : PE X e (xE X Wx (sem Γ a))) (hg : Gl X "isinstance") (hm : X.mg "isinstance" = none) (hg2 : Gl X "ValueError") (hm2 : X.mg "ValueError" = none)
    (he : starEach [e, .Name "ValueError" p2] X.env = (false, eval e X.env) :: starEach [.Name "ValueError" p2] X.env) : PE X (.Call (.Name "isinstance" p) [e, .Name "ValueError" p2] [] pos) (xE X Wx (sem Γ (.isVE a))) := by
  have h2 : PE X (.Name "ValueError" p2) (tC (.ty "ValueError")) := pe_bltn hg2 hm2 (by decide +kernel) rfl (by decide) (by decide)
  refine PE_imp (pe_callB call_isx hg hm (by decide +kernel) (pa_cons ha (pa_cons h2 pa_nil rfl) he) (by decide) (by decide) he rfl) fun σ H Q ⟨ρ, w, S, s, r, h⟩ => ?_
  simp only [sem] at h
  refine ⟨ρ, w, S, s, r, (After.split s h).imp fun d w1 S1 H1 _ x1 ⟨_, h1⟩ v rv => ?_⟩
  cases d with
  | exn cn ups fs =>
    simp only at h1
    obtain ⟨b, C, dd, ws, rfl, _, T, E, _⟩ := exc1_of x1.sim rv
    exact ⟨b, C, dd, ws, ups, .ty "ValueError", .type "ValueError", true, rfl, T, E, fun u z => z, T.ve, After.here x1.sim h1 _ (.bl _)⟩
  | _ => exact h1.elim
/-! ### e.f -/
theorem repF_look {K : PySem.W.Frag} {w : Wd} {f : Str} : ∀ {fs : List (Str × D)} {ws : List (Str × V)}, RepF K w fs ws → ∀ {d : D}, fs.lookup f = some d → ∃ v, ws.lookup f = some v ∧ Rep K w d v
  | _, _, .nil, d, e => by cases e
  | _, _, @RepF.cons _ _ k d' v' ds vs r t, d, e => by
    rw [List.lookup_cons] at e ⊢
    cases h : f == k with
    | true => rw [h] at e; cases e; exact ⟨v', rfl, r⟩
    | false => rw [h] at e; exact repF_look t e
def tXat (K : PySem.W.Frag) (mg : Str → Option Value) (f : Str) (te : TE) : TE := fun σ H Q => te σ H fun x H1 => ∃ (a C : Addr) (dd : Option Addr) (fs : List (Str × V)) (ups : List Str) (v : V), x = .ref a ∧ XcOk K mg ups C ∧ Exc1 K H1 a C dd fs ∧ f ∈ fNames ∧ fs.lookup f = some v ∧ Q v H1
theorem pe_xat {e : Expr} {te : TE} {f : Str} (he : PE X e te) (hb : attributeBase e f X.env (eval e X.env) = eval e X.env) : PE X (.Attribute e f pos) (tXat X.K X.mg f te) := by
  refine ⟨fun pins s σ H Q I h => ?_⟩
  refine attr_of hb (thn (he.run pins s σ H _ I h) fun u s1 hh => ?_)
  obtain ⟨x, H1, I1, rx, a, C, dd, fs, ups, v, rfl, T, E, hf, l, q⟩ := hh
  cases rx
  obtain ⟨oe, od, J, hl⟩ := exc1_inst I1 E
  obtain ⟨o', u, rfl, hu, ru⟩ := hl f v l
  exact HandSPX.exc_get I1.kIn J T.xf.ga T.xf.gg T.xf.exC (PySem.W.findObj_own T.xf.hdC (T.no f hf) rfl hu) (handed_of ru) ⟨v, H1, I1.tok _, ru, q⟩
theorem pe_attrD {e : Expr} {a : Ex} {f : Str} (ha : PE X e (xE X Wx (sem Γ a))) (hb : attributeBase e f X.env (eval e X.env) = eval e X.env) : PE X (.Attribute e f pos) (xE X Wx (sem Γ (.attr a f))) := PE_imp (pe_xat ha hb) fun σ H Q ⟨ρ, w, S, s, r, h⟩ => by
  simp only [sem] at h
  refine ⟨ρ, w, S, s, r, (After.split s h).imp fun d w1 S1 H1 _ x1 ⟨_, h1⟩ v rv => ?_⟩
  cases d with
  | exn cn ups fs =>
    simp only at h1
    split at h1
    · rename_i hf
      split at h1
      · rename_i d ed
        obtain ⟨b, C, dd, ws, rfl, _, T, E, rf⟩ := exc1_of x1.sim rv
        obtain ⟨v, ev, rv⟩ := repF_look rf ed
        exact ⟨b, C, dd, ws, ups, v, rfl, T, E, hf, ev, After.here x1.sim h1 _ rv⟩
      · exact h1.elim
    · exact h1.elim
  | _ => exact h1.elim
end
end DL

/-! DLz: try and raise. -/
namespace DL
open PySem PySem.Spec PyProof.Rows L2

section
variable {X : Cx} {pins : List (Addr × Obj)} {σ : L2.St} {H : Hp} {s : Shared}
/-- an object of ours that nobody tracked yet is tracked from here on -/
theorem adopt {a : Addr} {o : HO} (I : Inv X pins σ H s) (hn : H a = none) (h0 : X.s_0.heap.get? a = none) (nL : a ≠ X.env.locals) (hp : ∀ p ∈ X.pn ++ pins, p.1 ≠ a) (hc : ∀ x c, X.env.cells.lookup x = some c → c ≠ a)
    (new : ObjOk X.prog X.w (upd H a o) s.heap a o) : Inv X pins σ (upd H a o) s where
  ok := I.ok
  os := I.os
  bare := I.bare
  base := ⟨I.base.keep, I.base.slot, fun b ob e n hx => by
      rw [upd_ne fun z => by rw [z, h0] at e; cases e]
      exact I.base.free b ob e n hx, I.base.there, fun b xs e => by
      have q := I.base.tups b xs e
      rw [upd_ne (ne_of_none q hn)]; exact q, fun b ob u e => by
      have q := I.base.frzs b ob u e
      rw [upd_ne (ne_of_none q hn)]; exact q, fun b ps e => by
      obtain ⟨m, q⟩ := I.base.tbls b ps e
      exact ⟨m, by rw [upd_ne (ne_of_none q hn)]; exact q⟩⟩
  loc := I.loc
  cell := I.cell
  free := by rw [upd_ne (Ne.symm nL)]; exact I.free
  freeC := fun x c e => by rw [upd_ne (hc x c e)]; exact I.freeC x c e
  pin := fun p h => by
    obtain ⟨e1, e2, e3⟩ := I.pin p h
    exact ⟨e1, by rw [upd_ne (hp p h)]; exact e2, e3⟩
  hok := HOk.laidN I.hok (fun _ _ e => e) hn new
  len := I.len
/-- behind a try whose suite ran: the exception is tracked -/
def wNot (K : PySem.W.Frag) (c : Value) (i : Nat) (ts : Addr → Value → Option Addr → TS) (Wout : WX) (D : Ends) : WX := fun cls d σ H =>
  ∃ b, PySem.W.exmOne K cls c = some b ∧ (b = false → Wout cls d σ H) ∧ (b = true → ∀ a, H a = none →
    ts a cls d { nx := fun σ' H' => D.nx (σ'.set i none) (upd H' a (ExV cls d a)), rt := fun v H' => D.rt v (upd H' a (ExV cls d a)), bk := fun σ' H' => D.bk (σ'.set i none) (upd H' a (ExV cls d a)), ct := fun σ' H' => D.ct (σ'.set i none) (upd H' a (ExV cls d a)) } (σ.set i (some (.ref a))) H)
variable {x n : Str} {c : Value} {i : Nat} {body suite : List Stmt} {b₀ : Stmt} {np pos pos' : Pos} {tb : WX → TS} {ts : Addr → Value → Option Addr → TS} {Wout : WX}
/-- what is known where an exception has come down to the frame of X -/
theorem landed {a : Addr} {B : Heap} {sI : Shared} {σ' : L2.St} {H' : Hp} {cls : Value} {d : Option Addr} {oe : Obj} {vs : Array Value} {h : Heap} (hs : X.stack = X.env :: X.outer) (hf : X.env.frame = some X.env.locals) (hx : X.ex = []) (J : Inv X pins σ' H' sI)
    (nb : ∀ b o, sI.heap.get? b = some o → b ∉ frs X.stack → B.get? b = some o) (fl : HandSPX.FlyingZ B (X.env :: X.outer) a (Zc cls d) h) (he : h.get? a = some oe) (hd : oe.data = .fields vs) :
    (a ≠ X.env.locals ∧ a ∉ X.fs) ∧ X.s_0.heap.get? a = none ∧ (∀ p ∈ X.pn ++ pins, p.1 ≠ a) := by
  have nfr : a ∉ frs (X.env :: X.outer) := fun hm => by
    obtain ⟨_, o', e', hnf⟩ := fl.2.2.1.mem hm
    rw [he] at e'
    cases e'
    exact hnf _ hd
  have nI : sI.heap.get? a = none := by
    cases q : sI.heap.get? a with
    | none => rfl
    | some o =>
      have := nb a o q (by rw [hs]; exact nfr)
      rw [fl.2.1] at this
      cases this
  refine ⟨⟨fun z => nfr (List.mem_filterMap.mpr ⟨X.env, List.mem_cons_self, by rw [hf, z]⟩), fun hm => ?_⟩, ?_, fun p hp z => ?_⟩
  · obtain ⟨e, h1, h2⟩ := List.mem_filterMap.mp hm
    exact nfr (List.mem_filterMap.mpr ⟨e, List.mem_cons_of_mem _ h1, h2⟩)
  · cases q : X.s_0.heap.get? a with
    | none => rfl
    | some o =>
      obtain ⟨o', e⟩ := J.base.there a o q (by rw [hx]; simp)
      rw [nI] at e
      cases e
  · have := (J.pin p hp).1
    rw [z, nI] at this
    cases this
theorem ps_try_noted (hs : X.stack = X.env :: X.outer) (hf : X.env.frame = some X.env.locals) (hx : X.ex = []) (hN : X.N.Nodup) (hi : X.N[i]? = some n) (hln : X.env.kindOf n = some .local) (hc : Names X x c) (tk : Takes X Wout)
    (hb : ∀ (W : WX) (pn : List (Addr × Obj)) (xe : Value → Shared → Prop), Takes (X.tr pn xe) W → PassesOwn (model X.prog X.w) X.A X.env xe → PSs (X.tr pn xe) body (tb W))
    (hsu : ∀ (a : Addr) (oe : Obj) (cls : Value) (d : Option Addr) (pn : List (Addr × Obj)), Zc cls d oe → (∃ vs, oe.data = .fields vs) → PSs (X.suite a ((a, oe) :: pn)) (b₀ :: suite) (ts a cls d)) :
    PS X (.Try body [.ExceptHandler (some (.Name x np)) (some n) (b₀ :: suite) pos'] [] [] pos) (fun D σ H => tb (wNot X.K c i ts Wout D) D σ H) := by
  constructor
  intro pins s σ H D I hh
  have ok := I.ok
  have frames : X.A.frames = some (X.env :: X.outer) := ok.frames.trans (by rw [hs])
  let M := model X.prog X.w
  let hds : List ExceptHandler := [.ExceptHandler (some (.Name x np)) (some n) (b₀ :: suite) pos']
  let xeT : Value → Shared → Prop := fun e s₁ => wpAny M X.A (noteFrame e X.env) (fun _ s₂ => wpAny M X.A (setFlight e none) (fun _ s₃ => wpAny M X.A (handleBy e X.env hds) (SP X pins D) X.xe s₃) X.xe s₂) X.xe s₁
  have caught : Takes (X.tr (X.pn ++ pins) xeT) (wNot X.K c i ts Wout D) := by
    rintro u s' ⟨a, B, sI, pins', σ', H', cls, d, rfl, J0, nb, up, sky, na, os, ag, b, hb1, hno, hyes⟩
    have J : Inv X pins σ' H' sI := J0.ofTry ok
    refine Sky.land Zc.steady frames hf (show Sky B (X.env :: X.outer) a (Zc cls d) X.env.locals s'.heap by rw [← hs]; exact sky) fun h3 fl3 up3 => ?_
    obtain ⟨oe3, vs3, he3, hz3, hd3⟩ := fl3.there
    have J3 : Inv X pins σ' H' { s' with heap := h3 } := J.landed nb fl3.1 (up.trans up3) os ag
    obtain ⟨⟨nL, nF⟩, n0, npin⟩ := landed hs hf hx J nb fl3 he3 hd3
    have S3 := J3.suite he3 hd3 na nL nF
    refine wpAny_handleBy_cons (codeAny_handlers_test ?_) (by intro q; cases q)
    have LT : PySem.W.Looks M h3 (typeOf (.ref a)) cls := fun A Q E s k q => wpAny_typeOf_ref (k _ _ he3) (by rw [hz3.1]; exact q)
    have name : ∀ {Q E : Value → Shared → Prop}, Q c { s' with heap := h3 } → wpAny M (X.A.mark (some (.ref a))) (eval (.Name x np) X.env) Q E { s' with heap := h3 } := fun {Q E} q => by
      rcases hc with ⟨g1, g2, hm | ⟨hm, hv, hnn⟩⟩
      · exact ld_glob (X := X.suite a ((a, oe3) :: (X.pn ++ pins))) S3 g1 hm q g2
      · exact ld_blt (X := X.suite a ((a, oe3) :: (X.pn ++ pins))) S3 g1 hm hv q hnn g2
    refine name ((PySem.W.exm_one (M := M) J3.kIn LT hb1).here ?_)
    cases b with
    | false =>
      show wpAny _ X.A (handleBy (.ref a) X.env []) _ _ _
      refine wpAny_handleBy_nil ?_
      obtain ⟨k1, k2, k3, oe, vs, T, oT, ts', he, hz, hd, h1, hr⟩ := id fl3
      unfold PySem.passOn
      refine wpAny_bind (wpAny_field he hd h1 ?_)
      rw [if_neg (show ¬ ((Value.ref T == Value.none) = true) from by simp)]
      have on : wpAny M X.A (setFlight (.ref a) X.env.frame) (fun _ s4 => wpAny M X.A (throw (.ref a) : Sem Flow) (SP X pins D) X.xe s4) X.xe { s' with heap := h3 } := by
        rw [hf]
        refine HandSPX.setFlight_upZ fl3 fun h4 hh4 up4 => wpAny_throw (tk _ _ ?_)
        exact ⟨a, B, sI, pins, σ', H', cls, d, rfl, J, nb, (up.trans up3).trans up4, .inr (.inr (by rw [hs]; exact hh4)), na, os, ag, hno rfl⟩
      first
        | exact wpAny_bind (wpAny_pure (wpAny_bind on))
        | exact wpAny_bind on
    | true =>
      refine codeAny_handlers_suite_as ?_
      refine HandSPX.lands_againZ fl3 fun h4 fl4 up4 => ?_
      obtain ⟨oe4, vs4, he4, hz4, hd4⟩ := fl4.there
      have J4 : Inv X pins σ' H' { s' with heap := h4 } := J.landed nb fl4.1 ((up.trans up3).trans up4) os ag
      have S4 := J4.suite he4 hd4 na nL nF
      refine store_ok (X := X.suite a ((a, oe4) :: (X.pn ++ pins))) (v := .ref a) S4 hN hi (.inl hln) rfl (fun s5 S5 => ?_) (.inr hln)
      refine wpAny_mono ((hsu a oe4 cls d (X.pn ++ pins) hz4 ⟨_, hd4⟩).run [] s5 _ H' _ S5 (hyes rfl a na)) (fun f s6 hsp => ?_) (fun _ _ z => z.elim)
      -- the name goes, the exception is tracked
      have leave : ∀ {σ6 : L2.St} {H6 : Hp} {Q : Shared → Prop}, Inv (X.suite a ((a, oe4) :: (X.pn ++ pins))) [] σ6 H6 s6 → (∀ s7, Inv X pins (σ6.set i none) (upd H6 a (ExV cls d a)) s7 → Q s7) →
          wpAny M X.A (do bindName X.env n .none; unbindBehindTheSuite X.env n pos') (fun _ s7 => Q s7) X.xe s6 := fun {σ6 H6 Q} S6 hq => by
        obtain ⟨p1, p2, _⟩ := S6.pin (a, oe4) (List.mem_append_left _ List.mem_cons_self)
        have J6 := S6.unsuite ok
        refine gone_ok (adopt J6 p2 n0 nL npin (fun y cc e => ?_) (exV_ok p1 hz4 hd4)) hN hi hln hq
        obtain ⟨v, o, e1, e2⟩ := J6.cell y cc e
        rintro rfl
        rw [p1] at e1
        cases e1
        rw [hd4] at e2
        cases e2
      cases f with
      | next => obtain ⟨σ6, H6, S6, q6⟩ := hsp; exact leave S6 fun s7 J7 => ⟨_, _, J7, q6⟩
      | brk => obtain ⟨σ6, H6, S6, q6⟩ := hsp; exact leave S6 fun s7 J7 => ⟨_, _, J7, q6⟩
      | cont => obtain ⟨σ6, H6, S6, q6⟩ := hsp; exact leave S6 fun s7 J7 => ⟨_, _, J7, q6⟩
      | ret u => obtain ⟨v6, σ6, H6, S6, r6, q6⟩ := hsp; exact leave S6 fun s7 J7 => ⟨_, _, _, J7, r6, q6⟩
  refine wpAny_Try_except (wpAny_mono ((hb _ (X.pn ++ pins) xeT caught PassesOwn.looking).run [] s σ H D (I.toTry _) hh) (fun f s1 hsp => ?_) (fun e s1 he => he))
  cases f with
  | next => obtain ⟨σ', H', J', q⟩ := hsp; exact wpAny_execs_nil ⟨σ', H', J'.ofTry ok, q⟩
  | brk => obtain ⟨σ', H', J', q⟩ := hsp; exact ⟨σ', H', J'.ofTry ok, q⟩
  | cont => obtain ⟨σ', H', J', q⟩ := hsp; exact ⟨σ', H', J'.ofTry ok, q⟩
  | ret u => obtain ⟨v, σ', H', J', r, q⟩ := hsp; exact ⟨v, σ', H', J'.ofTry ok, r, q⟩
end
end DL

/-! DLw: try, raise, dict displays, list(range): what they mean is true of the run. -/
namespace DL
open PySem PySem.Spec PyProof.Rows L2

section
variable {X : Cx} {Wx : WX} {Γ : Gm} {pos : Pos}
/-! ### list(range(a, b)) -/
theorem rg_reps {K : PySem.W.Frag} {w : Wd} (i j : Int) : Reps K w (rngD i j) (rgV i j) := by
  have e1 : rngD i j = ((List.range (j - i).toNat).map fun k => i + ((k : Nat) : Int)).map D.int := by unfold rngD; rw [List.map_map]; rfl
  have e2 : rgV i j = ((List.range (j - i).toNat).map fun k => i + ((k : Nat) : Int)).map V.int := by unfold rgV; rw [List.map_map]; rfl
  rw [e1, e2]
  exact reps_ints _
theorem lrng_at {σ : L2.St} {w : Wd} {S : Store} {H : Hp} {c : Bool} {x y : D} {v u : V} {Q : VK} (s : Sim X.K X.mg w S H) (rx : Rep X.K w x v) (ry : Rep X.K w y u)
    (h : After X.K X.mg Wx σ w S H (match x, y with
      | .int i, .int j => if -4611686018427387904 ≤ i ∧ i < 4611686018427387904 ∧ -4611686018427387904 ≤ j ∧ j < 4611686018427387904 then mkL c (rngD i j) S else .bad
      | _, _ => .bad) fun d w' _ H' => ∀ v, Rep X.K w' d v → Q v H') : ∃ i j, v = .int i ∧ u = .int j ∧ RgOk i j ∧ ∀ q, H q = none → Q (.ref q) (upd H q (.lst (rgV i j))) := by
  cases x with
  | int i =>
    cases y with
    | int j =>
      simp only at h
      split at h
      · rename_i hb
        cases rx
        cases ry
        obtain ⟨hl, q⟩ := new_list s (rg_reps i j) h
        rw [rgV_length, sizeLine_eq] at hl
        refine ⟨i, j, rfl, rfl, ⟨by omega, by omega, by omega, by omega, by omega⟩, fun p hp => ?_⟩
        obtain ⟨d, w', S', q1, q2⟩ := q p hp
        exact q1 _ q2
      · exact h.elim
    | _ => exact h.elim
  | _ => exact h.elim
theorem pe_lrng1D {e : Expr} {c : Bool} {b : Ex} {p p2 p3 : Pos} (hc : X.calm = true) (hg : Gl X "list") (hm : X.mg "list" = none) (hg2 : Gl X "range") (hm2 : X.mg "range" = none) (hb : PE X e (xE X Wx (sem Γ b)))
    (na : starEach [e] X.env = (false, eval e X.env) :: starEach [] X.env) : PE X (.Call (.Name "list" p) [.Call (.Name "range" p2) [e] [] p3] [] pos) (xE X Wx (sem Γ (.lrng c (.int 0) b))) := PE_imp (pe_listRg hc hg hm (prg_1 hg2 hm2 hb na) rfl) fun σ H Q ⟨ρ, w, S, s, r, h⟩ => by
  simp only [sem, Res.ok_bind] at h
  refine ⟨ρ, w, S, s, r, (After.split s h).imp fun d w1 S1 H1 _ x1 ⟨_, h1⟩ v rv => ?_⟩
  obtain ⟨i, j, e1, rfl, q⟩ := lrng_at (x := .int 0) x1.sim (.int 0) rv h1
  cases e1
  exact ⟨j, rfl, q⟩
theorem pe_lrng2D {e f : Expr} {c : Bool} {a b : Ex} {p p2 p3 : Pos} (hc : X.calm = true) (hg : Gl X "list") (hm : X.mg "list" = none) (hg2 : Gl X "range") (hm2 : X.mg "range" = none) (ha : PE X e (xE X Wx (sem Γ a))) (hb : PE X f (xE X Wx (sem Γ b)))
    (na : starEach [e, f] X.env = (false, eval e X.env) :: starEach [f] X.env) (nb : starEach [f] X.env = (false, eval f X.env) :: starEach [] X.env) (hp : (backTo p3 (starEach [f] X.env)).any (·.1) = false) :
    PE X (.Call (.Name "list" p) [.Call (.Name "range" p2) [e, f] [] p3] [] pos) (xE X Wx (sem Γ (.lrng c a b))) := PE_imp (pe_listRg hc hg hm (prg_2 hg2 hm2 ha hb na nb hp) rfl) fun σ H Q ⟨ρ, w, S, s, r, h⟩ => by
  simp only [sem] at h
  refine ⟨ρ, w, S, s, r, (After.split s h).imp fun d w1 S1 H1 _ x1 ⟨_, h1⟩ v rv => ?_⟩
  refine ⟨ρ, w1, S1, x1.sim, r.mono x1.wle, (After.split x1.sim h1).imp fun d2 w2 S2 H2 _ x2 ⟨_, h2⟩ u ru => ?_⟩
  exact lrng_at x2.sim (rv.mono x2.wle) ru h2
/-! ### dict displays -/
theorem merge_nil : ∀ {more acc : List (Key × V)}, ((acc ++ more).map (·.1)).Nodup → more.foldl (fun acc kv => putK acc kv.1 kv.2) acc = acc ++ more
  | [], acc, _ => by simp
  | kv :: r, acc, h => by
    have hn : (acc.any fun p => decide (p.1 = kv.1)) = false := by
      rw [List.any_eq_false]
      intro p hp
      simp only [decide_eq_true_eq]
      intro e
      rw [List.map_append, List.nodup_append] at h
      exact h.2.2 p.1 (List.mem_map.2 ⟨p, hp, rfl⟩) kv.1 (by simp) e
    rw [List.foldl_cons, show putK acc kv.1 kv.2 = acc ++ [kv] by unfold putK; rw [hn]; rfl, merge_nil (by rw [List.append_assoc]; exact h), List.append_assoc]
    rfl
/-- the keys of a display -/
def keyE : Key → Expr → Prop
  | .inl i, .Constant (.int j) _ _ => i = j
  | .inr x, .Constant (.str y) _ _ => x = y
  | _, _ => False
theorem pe_keyE {k : Key} {e : Expr} (h : keyE k e) : PE X e (tC (kV k)) := by
  cases k with
  | inl i =>
    cases e with
    | Constant c _ _ => cases c with
      | int j => cases h; exact pe_int
      | _ => exact h.elim
    | _ => exact h.elim
  | inr x =>
    cases e with
    | Constant c _ _ => cases c with
      | str j => cases h; exact pe_str
      | _ => exact h.elim
    | _ => exact h.elim
def keysE : List Key → List (Option Expr) → Prop
  | [], [] => True
  | k :: ks, some e :: es => keyE k e ∧ keysE ks es
  | _, _ => False
inductive PEs (X : Cx) (Wx : WX) (Γ : Gm) : List Expr → List Ex → Prop
  | nil : PEs X Wx Γ [] []
  | cons {e : Expr} {es : List Expr} {a : Ex} {as : List Ex} : PE X e (xE X Wx (sem Γ a)) → PEs X Wx Γ es as → PEs X Wx Γ (e :: es) (a :: as)
theorem pps_D {pos : Pos} : ∀ {ks : List Key} {kes : List (Option Expr)} {es : List Expr} {as : List Ex}, keysE ks kes → PEs X Wx Γ es as → ks.length = as.length →
    ∃ trs, PPs X pos kes es trs ∧ ∀ σ ρ w S H Q, Sim X.K X.mg w S H → EnvRep X.K w ρ σ → After X.K X.mg Wx σ w S H (semL Γ as ρ S) (fun ds w' _ H' => ∀ vs, Reps X.K w' ds vs → Q (((ks.zip vs).map fun p => (kV p.1, p.2))) H') → tPairs trs σ H Q
  | [], [], _, _, _, .nil, _ => ⟨[], pps_nil, fun σ ρ w S H Q s r h => by
    simp only [semL] at h
    exact After.here s h [] .nil⟩
  | k :: ks, some ke :: kes, _, _, ⟨h1, h2⟩, @PEs.cons _ _ _ e es a as he t, hl => by
    obtain ⟨trs, P, q⟩ := pps_D (pos := pos) h2 t (by simpa using hl)
    refine ⟨(tC (kV k), xE X Wx (sem Γ a)) :: trs, pps_cons (pe_keyE h1) he P, fun σ ρ w S H Q s r h => ?_⟩
    simp only [semL] at h
    refine ⟨ρ, w, S, s, r, (After.split s h).imp fun d w1 S1 H1 _ x1 ⟨_, h1⟩ v rv => ?_⟩
    refine q σ ρ w1 S1 H1 _ x1.sim (r.mono x1.wle) ((After.split x1.sim h1).imp fun ds w2 S2 H2 _ x2 ⟨_, h2⟩ vs rvs => ?_)
    exact After.here x2.sim h2 (v :: vs) (.cons (rv.mono x2.wle) rvs)
  | [], _ :: _, _, _, h, _, _ => h.elim
  | _ :: _, [], _, _, h, _, _ => h.elim
  | _ :: _, none :: _, _, _, h, _, _ => h.elim
  | [], [], _, _, _, .cons _ _, hl => by simp at hl
  | _ :: _, some _ :: _, _, _, _, .nil, hl => by simp at hl
theorem keysE_ok : ∀ {ks : List Key} {kes : List (Option Expr)}, keysE ks kes → kes.all (·.isSome) = true ∧ kes.length = ks.length
  | [], [], _ => ⟨rfl, rfl⟩
  | k :: ks, some ke :: kes, ⟨_, h2⟩ => by
    obtain ⟨a, b⟩ := keysE_ok h2
    exact ⟨by simpa using a, by simp [b]⟩
  | [], _ :: _, h => h.elim
  | _ :: _, [], h => h.elim
  | _ :: _, none :: _, h => h.elim
theorem PEs.len {es : List Expr} {as : List Ex} (h : PEs X Wx Γ es as) : es.length = as.length := by
  induction h with
  | nil => rfl
  | cons _ _ ih => simp [ih]
theorem zip_repK {K : PySem.W.Frag} {w : Wd} : ∀ {ks : List Key} {ds : List D} {vs : List V}, Reps K w ds vs → RepK K w (ks.zip ds) (ks.zip vs)
  | [], _, _, _ => by simp only [List.zip_nil_left]; exact .nil
  | k :: ks, _, _, .nil => .nil
  | k :: ks, _, _, .cons r t => .cons r (zip_repK t)
theorem pe_ddispD {kes : List (Option Expr)} {es : List Expr} {ks : List Key} {as : List Ex} (hk : keysE ks kes) (he : PEs X Wx Γ es as) (hl : ks.length = as.length) (h0 : 0 < ks.length) (h15 : ks.length ≤ 15) :
    PE X (.Dict kes es pos) (xE X Wx (sem Γ (.ddisp ks as))) := by
  obtain ⟨trs, P, q⟩ := pps_D (pos := pos) hk he hl
  obtain ⟨k1, k2⟩ := keysE_ok hk
  refine PE_imp (pe_disp P k1 (by rw [k2, he.len, hl]) (by intro z; rw [z] at k2; simp at k2; omega) (by omega)) fun σ H Q ⟨ρ, w, S, s, r, h⟩ p hp => ?_
  simp only [sem] at h
  have x0 := ext_cell (c := .dK []) s hp ⟨[], rfl, .nil⟩
  have hx := (After.move s x0 h)
  refine q σ ρ _ _ _ _ x0.sim (r.mono x0.wle) ((After.split x0.sim hx).imp fun ds w1 S1 H1 _ x1 ⟨_, h1⟩ vs rvs => ?_)
  split at h1
  · rename_i e1
    split at h1
    · rename_i hb
      obtain ⟨n1, n2, n3, n4⟩ := hb
      have hn : S.length < w.N + 1 := by rw [s.len]; exact Nat.lt_succ_self _
      have em : w1.m S.length = p := by
        rw [x1.wle.m S.length (by show S.length < w.N + 1; exact hn)]
        show (if S.length = w.N then p else w.m S.length) = p
        rw [if_pos s.len]
      obtain ⟨o, e2, ws, rfl, rk⟩ := x1.sim.cell _ _ e1
      rw [em] at e2
      cases rk
      have hlen := rvs.length
      have z1 : (ks.zip vs).map (·.1) = ks := by rw [List.map_fst_zip]; omega
      have x2 := ext_set x1.sim e1 (c' := .dK (ks.zip ds)) (o := .dK (ks.zip vs)) ⟨_, rfl, zip_repK rvs⟩
      refine ⟨e2, ks.zip vs, rfl, by rw [List.length_zip]; omega, ?_⟩
      have e3 : mergeK [] (ks.zip vs) = ks.zip vs := by
        show (ks.zip vs).foldl _ [] = _
        rw [merge_nil (by rw [List.nil_append, z1]; exact n1), List.nil_append]
      rw [e3]
      rw [em] at x2
      have := h1 w1 _ x2 (.ref p) (by
        have := Rep.loc (K := X.K) (w := w1) (n := S.length) (Nat.lt_of_lt_of_le hn x1.wle.n)
        rw [em] at this
        exact this)
      exact this
    · exact h1.elim
  · exact h1.elim
/-! a display with keys that are reckoned -/
inductive PKs (X : Cx) (Wx : WX) (Γ : Gm) : List (Option Expr) → List Expr → List Ex → Prop
  | nil : PKs X Wx Γ [] [] []
  | cons {ke e : Expr} {kes : List (Option Expr)} {es : List Expr} {ka a : Ex} {as : List Ex} : PE X ke (xE X Wx (sem Γ ka)) → PE X e (xE X Wx (sem Γ a)) → PKs X Wx Γ kes es as → PKs X Wx Γ (some ke :: kes) (e :: es) (ka :: a :: as)
theorem PKs.fit {kes : List (Option Expr)} {es : List Expr} {as : List Ex} (h : PKs X Wx Γ kes es as) : kes.all (·.isSome) = true ∧ kes.length = es.length ∧ as.length = 2 * es.length := by
  induction h with
  | nil => exact ⟨rfl, rfl, rfl⟩
  | cons _ _ _ ih => obtain ⟨a, b, c⟩ := ih; exact ⟨by simpa using a, by simp [b], by simp [c]; omega⟩
theorem rep_key {K : PySem.W.Frag} {w : Wd} {d : D} {v : V} {k : Key} (r : Rep K w d v) (h : keyD d = some k) : v = kV k := by
  cases r with
  | int i => cases h; rfl
  | str x => cases h; rfl
  | _ => cases h
theorem unpair_cons {x y : D} {ds : List D} {kvs : List (Key × D)} (h : unpairD (x :: y :: ds) = some kvs) : ∃ k r, keyD x = some k ∧ unpairD ds = some r ∧ kvs = (k, y) :: r := by
  unfold unpairD at h
  split at h
  · rename_i k r h1 h2
    cases h
    exact ⟨k, r, h1, h2, rfl⟩
  · cases h
theorem res_assoc {α β γ : Type} (r : Res α) (f : α → Store → Res β) (g : β → Store → Res γ) : (r.bind f).bind g = r.bind fun a S => (f a S).bind g := by cases r <;> rfl
theorem pps_E {pos : Pos} {kes : List (Option Expr)} {es : List Expr} {as : List Ex} (P : PKs X Wx Γ kes es as) :
    ∃ trs, PPs X pos kes es trs ∧ ∀ σ ρ w S H Q, Sim X.K X.mg w S H → EnvRep X.K w ρ σ → After X.K X.mg Wx σ w S H (semL Γ as ρ S) (fun ds w' _ H' => ∀ vs, Reps X.K w' ds vs → ∃ kvs, unpairD ds = some kvs ∧ ∀ us, RepK X.K w' kvs us → Q (us.map fun p => (kV p.1, p.2)) H') → tPairs trs σ H Q := by
  induction P with
  | nil => exact ⟨[], pps_nil, fun σ ρ w S H Q s r h => by
      simp only [semL] at h
      obtain ⟨kvs, e, q⟩ := After.here s h [] .nil
      cases e
      exact q [] .nil⟩
  | @cons ke e kes es ka a as hk he t ih =>
    obtain ⟨trs, P, q⟩ := ih
    refine ⟨(xE X Wx (sem Γ ka), xE X Wx (sem Γ a)) :: trs, pps_cons hk he P, fun σ ρ w S H Q s r h => ?_⟩
    simp only [semL] at h
    simp only [res_assoc, Res.ok_bind] at h
    refine ⟨ρ, w, S, s, r, (After.split s h).imp fun d w1 S1 H1 _ x1 ⟨_, h1⟩ v rv => ?_⟩
    refine ⟨ρ, w1, S1, x1.sim, r.mono x1.wle, (After.split x1.sim h1).imp fun d2 w2 S2 H2 _ x2 ⟨_, h2⟩ v2 rv2 => ?_⟩
    refine q σ ρ w2 S2 H2 _ x2.sim ((r.mono x1.wle).mono x2.wle) ((After.split x2.sim h2).imp fun ds w3 S3 H3 _ x3 ⟨_, h3⟩ vs rvs => ?_)
    obtain ⟨kvs, e1, q1⟩ := After.here x3.sim h3 (v :: v2 :: vs) (.cons ((rv.mono x2.wle).mono x3.wle) (.cons (rv2.mono x3.wle) rvs))
    obtain ⟨k, kr, hk1, hk2, rfl⟩ := unpair_cons e1
    refine ⟨kr, hk2, fun us ru => ?_⟩
    have := q1 ((k, v2) :: us) (.cons (rv2.mono x3.wle) ru)
    rw [rep_key rv hk1]
    exact this
theorem repK_len {K : PySem.W.Frag} {w : Wd} : ∀ {ks : List (Key × D)} {us : List (Key × V)}, RepK K w ks us → ks.length = us.length ∧ us.map (·.1) = ks.map (·.1)
  | _, _, .nil => ⟨rfl, rfl⟩
  | _, _, .cons _ t => by obtain ⟨a, b⟩ := repK_len t; exact ⟨by simp [a], by simp [b]⟩
theorem pe_ddispED {kes : List (Option Expr)} {es : List Expr} {as : List Ex} (P : PKs X Wx Γ kes es as) (h0 : 0 < es.length) (h15 : es.length ≤ 15) :
    PE X (.Dict kes es pos) (xE X Wx (sem Γ (.ddispE as))) := by
  obtain ⟨trs, PP, q⟩ := pps_E (pos := pos) P
  obtain ⟨k1, k2, k3⟩ := P.fit
  refine PE_imp (pe_disp PP k1 k2 (by intro z; rw [z] at k2; simp at k2; omega) (by omega)) fun σ H Q ⟨ρ, w, S, s, r, h⟩ p hp => ?_
  simp only [sem] at h
  have x0 := ext_cell (c := .dK []) s hp ⟨[], rfl, .nil⟩
  have hx := (After.move s x0 h)
  refine q σ ρ _ _ _ _ x0.sim (r.mono x0.wle) ((After.split x0.sim hx).imp fun ds w1 S1 H1 _ x1 ⟨_, h1⟩ vs rvs => ?_)
  split at h1
  · rename_i kvs e1 e4
    split at h1
    · rename_i hb
      obtain ⟨n1, n3, n4⟩ := hb
      have hn : S.length < w.N + 1 := by rw [s.len]; exact Nat.lt_succ_self _
      have em : w1.m S.length = p := by
        rw [x1.wle.m S.length (by show S.length < w.N + 1; exact hn)]
        show (if S.length = w.N then p else w.m S.length) = p
        rw [if_pos s.len]
      obtain ⟨o, e2, ws, rfl, rk⟩ := x1.sim.cell _ _ e1
      rw [em] at e2
      cases rk
      refine ⟨kvs, e4, fun us ru => ?_⟩
      obtain ⟨l1, l2⟩ := repK_len ru
      have x2 := ext_set x1.sim e1 (c' := .dK kvs) (o := .dK us) ⟨_, rfl, ru⟩
      refine ⟨e2, us, rfl, by omega, ?_⟩
      have e3 : mergeK [] us = us := by
        show us.foldl _ [] = _
        rw [merge_nil (by rw [List.nil_append, l2]; exact n1), List.nil_append]
      rw [e3]
      rw [em] at x2
      have := h1 w1 _ x2 (.ref p) (by
        have := Rep.loc (K := X.K) (w := w1) (n := S.length) (Nat.lt_of_lt_of_le hn x1.wle.n)
        rw [em] at this
        exact this)
      exact this
    · exact h1.elim
  · exact h1.elim
/-- keys and values one after the other -/
def mixE : List (Option Expr) → List Expr → Option (List Expr)
  | [], [] => some []
  | some k :: ks, e :: es => match mixE ks es with
    | some r => some (k :: e :: r)
    | none => none
  | _, _ => none
theorem pks_of : ∀ {kes : List (Option Expr)} {es r : List Expr} {as : List Ex}, mixE kes es = some r → PEs X Wx Γ r as → PKs X Wx Γ kes es as
  | [], [], _, _, h, p => by cases h; cases p; exact .nil
  | some k :: ks, e :: es, r, as, h, p => by
    unfold mixE at h
    split at h
    · rename_i r' h'
      cases h
      cases p with
      | cons p1 p => cases p with
        | cons p2 p => exact .cons p1 p2 (pks_of h' p)
    · cases h
  | [], _ :: _, _, _, h, _ => by cases h
  | none :: _, _, _, _, h, _ => by cases h
  | some _ :: _, [], _, _, h, _ => by cases h
/-! x[::k] of a list, k 1 or -1 -/
theorem stp_pick1 (items : Array Value) : slicePick items none none (some 1) = items.toList.toArray := by
  unfold slicePick
  have hb : sliceBounds none none (some 1) items.size = (0, (items.size : Int), 1) := rfl
  rw [hb]
  show ((sliceRange 0 (items.size : Int) 1).filterMap (items[·]?)).toArray = _
  have hr : sliceRange 0 (items.size : Int) 1 = List.range items.size := by
    unfold sliceRange
    by_cases h : (0 : Int) < (items.size : Int)
    · have h0 : 0 < items.size := by omega
      simp [h0]
    · have : items.size = 0 := by omega
      rw [this]
      simp
  rw [hr, PySem.W.krv_all]
def tStp (K : PySem.W.Frag) (te : TE) (ts : TO) : TE := fun σ H Q => te σ H fun x H1 => ts σ H1 fun o H2 => ∃ a xs k, x = .ref a ∧ o = some k ∧ SqL K H2 a xs ∧ ((k = 1 ∧ ∀ p, H2 p = none → Q (.ref p) (upd H2 p (.lst xs))) ∨ (k = -1 ∧ ∀ p, H2 p = none → Q (.ref p) (upd H2 p (.lst xs.reverse))))
theorem pe_stp {te : TE} {ts : TO} {e es : Expr} {p3 pos : Pos} (he : PE X e te) (step : PO X (some es) ts) : PE X (.Subscript e (.Slice none none (some es) p3) pos) (tStp X.K te ts) := by
  refine ⟨fun pins s σ H Q I h => Subscript_ (thn (he.run pins s σ H _ I h) fun v s1 ⟨x, H1, I1, r1, q1⟩ => ?_)⟩
  refine wpAny_Slice (thn (po_none.run pins s1 σ H1 (fun o H2 => o = none ∧ H2 = H1) I1 ⟨rfl, rfl⟩) fun vl s2 ⟨l, H2, I2, pl, z1, z2⟩ => ?_)
  subst z1 z2
  refine thn (po_none.run pins s2 σ H2 (fun o H3 => o = none ∧ H3 = H2) I2 ⟨rfl, rfl⟩) fun vu s3 ⟨u, H3, I3, pu, z1, z2⟩ => ?_
  subst z1 z2
  refine thn (step.run pins s3 σ H3 _ I3 q1) fun vs s4 ⟨o, H4, I4, ps, q2⟩ => ?_
  obtain ⟨a, xs, k, rfl, rfl, hx, q⟩ := q2
  cases r1
  have I5 : Inv X pins σ H4 { s4 with heap := s4.heap.push { cls := .type "slice", data := .fields #[vl, vu, vs] } } := I4.kept (t' := s4.toks) fun b ob z => Heap.get?_push_of_some _ z
  show wpAny (model X.prog X.w) X.A (subscriptTail e (.Slice none none (some es) p3) (.ref a) (.ref s4.heap.objs.size)) (EP X pins σ Q) X.xe _
  obtain ⟨its, r, ht, hz⟩ := I5.list hx
  have hlen := r.length
  refine tail_any (ops := [.ref a, .ref s4.heap.objs.size]) ht.isList.typeIs (PySem.slot_list_getitem.lookup) ?_ (by with_unfolding_all rfl)
  rcases q with ⟨rfl, q⟩ | ⟨rfl, q⟩
  · refine wpAny_getItem_list_slice ht.isList (Heap.IsSliceOf.new _ vl vu vs) pl pu ps (by decide) ?_ (by rw [List.size_toArray]; omega)
    rw [stp_pick1]
    refine ⟨.ref _, _, I5.laid (t' := s4.toks) (o := .lst xs) (fun b ob z => Heap.get?_push_of_some _ z) (Nat.le_refl _) ?_, rfl, q _ (I5.hok.fresh (Nat.le_refl _))⟩
    exact ⟨hz, _, 0, r, Heap.get?_push_size _ rfl⟩
  · refine wpAny_getItem_list_slice ht.isList (Heap.IsSliceOf.new _ vl vu vs) pl pu ps (by decide) ?_ (by rw [List.size_toArray]; omega)
    rw [PySem.W.krv_pick]
    refine ⟨.ref _, _, I5.laid (t' := s4.toks) (o := .lst xs.reverse) (fun b ob z => Heap.get?_push_of_some _ z) (Nat.le_refl _) ?_, rfl, q _ (I5.hok.fresh (Nat.le_refl _))⟩
    exact ⟨by rw [List.length_reverse]; exact hz, _, 0, r.reverse, Heap.get?_push_size _ rfl⟩
theorem pe_stpD {e es : Expr} {a b : Ex} {c : Bool} {p3 : Pos} (ha : PE X e (xE X Wx (sem Γ a))) (hb : PE X es (xE X Wx (sem Γ b))) : PE X (.Subscript e (.Slice none none (some es) p3) pos) (xE X Wx (sem Γ (.stp c a b))) := PE_imp (pe_stp ha (po_some hb)) fun σ H Q ⟨ρ, w, S, s, r, h⟩ => by
  simp only [sem] at h
  refine ⟨ρ, w, S, s, r, (After.split s h).imp fun d w1 S1 H1 _ x1 ⟨_, h1⟩ v rv => ?_⟩
  refine ⟨ρ, w1, S1, x1.sim, r.mono x1.wle, (After.split x1.sim h1).imp fun d2 w2 S2 H2 _ x2 ⟨_, h2⟩ v2 rv2 => ?_⟩
  have rx := rv.mono x2.wle
  unfold stpEv at h2
  split at h2
  · rename_i xs k ex _ _
    cases rv2
    obtain ⟨a, vs, rfl, ha, rvs⟩ := list_at x2.sim rx ex
    refine ⟨_, rfl, a, vs, _, rfl, rfl, ha, ?_⟩
    split at h2
    · rename_i hk
      obtain ⟨hl, q⟩ := new_list x2.sim rvs h2
      refine .inl ⟨hk, fun p hp => ?_⟩
      obtain ⟨d, w', S', q1, q2⟩ := q p hp
      exact q1 _ q2
    · split at h2
      · rename_i hk
        obtain ⟨hl, q⟩ := new_list x2.sim rvs.reverse h2
        refine .inr ⟨hk, fun p hp => ?_⟩
        obtain ⟨d, w', S', q1, q2⟩ := q p hp
        exact q1 _ q2
      · exact h2.elim
  · exact h2.elim
end
end DL

/-! DLn: try and raise: what they mean is true of the run. -/
namespace DL
open PySem PySem.Spec PyProof.Rows L2

section
variable {X : Cx} {Wx : WX} {Γ : Gm} {pos : Pos}
/-- an exception that is caught stands for its data -/
theorem rep_caught {w : Wd} {S : Store} {H : Hp} {e : Exn} {cls : Value} {d : Option Addr} {a : Addr} (s : Sim X.K X.mg w S H) (rx : RepX X.K X.mg w H e cls d) (ha : H a = none) :
    Ext X.K X.mg w S H (w.put a (ExV cls d a)) S (upd H a (ExV cls d a)) ∧ Rep X.K (w.put a (ExV cls d a)) (.exn e.cls e.ups e.fs) (.ref a) := by
  have x := ext_put (o := ExV cls d a) s ha
  refine ⟨x, ?_⟩
  obtain ⟨C, rfl, h1, T, h2⟩ := rx
  have f1 : w.fa e.cls = some (.ref C) := by rw [s.fa]; exact h1
  have T1 : XcOk X.K w.fa e.ups C := by rw [s.fa]; exact T
  rcases h2 with ⟨hf, rfl⟩ | ⟨ad, ws, rfl, hg, rf⟩
  · rw [hf]
    exact .exn0 f1 T1 upd_same
  · exact .exn f1 T1 upd_same (x.wle.g.xd _ _ hg) (rf.mono x.wle)
theorem ps_tryNoteD {body : List Stmt} {bs : List Sm} {c n m : Str} {i j : Nat} {C' : Addr} {np pm pa pn' pos' : Pos} (hs : X.stack = X.env :: X.outer) (hf : X.env.frame = some X.env.locals) (hx : X.ex = []) (hN : X.N.Nodup) (hi : X.N[i]? = some n) (hln : X.env.kindOf n = some .local)
    (hj : X.N[j]? = some m) (hlm : X.env.scope.names.lookup m = some .local) (hvn : Vis X.env.scope n) (hd1 : (n == ("__debug__" : Str)) = false) (hd2 : (n == ("__classdict__" : Str)) = false) (hcx : c ∈ xNames) (hC : X.mg c = some (.ref C')) (hgc : Gl X c) (hdc : (c == ("__debug__" : Str)) = false) (tk : Takes X Wx)
    (hb : ∀ (W : WX) (pn : List (Addr × Obj)) (xe : Value → Shared → Prop), Takes (X.tr pn xe) W → PassesOwn (model X.prog X.w) X.A X.env xe → PSs (X.tr pn xe) body (xS X W (runs Γ bs))) :
    PS X (.Try body [.ExceptHandler (some (.Name c np)) (some n) [.Assign [.Name m pm] (.Name n pn') pa] pos'] [] [] pos) (xS X Wx (run Γ (.tryNote bs c i j))) := by
  have suite : ∀ (a : Addr) (oe : Obj) (cls : Value) (d : Option Addr) (pn : List (Addr × Obj)), Zc cls d oe → (∃ vs, oe.data = .fields vs) → PSs (X.suite a ((a, oe) :: pn)) [.Assign [.Name m pm] (.Name n pn') pa] (tAsg (tVar i) (gName j)) := fun a oe cls d pn _ _ =>
    pss_one (ps_set (X := X.suite a ((a, oe) :: pn)) hN hj (.inl hlm) (pe_var hi hvn hd1 hd2) rfl (.inr hlm))
  refine PS_imp (ps_try_noted (ts := fun _ _ _ => tAsg (tVar i) (gName j)) (tb := fun W => xS X W (runs Γ bs)) (Wout := Wx) hs hf hx hN hi hln ⟨hgc, hdc, .inl hC⟩ tk hb suite) fun Dn σ H h => ?_
  obtain ⟨ρ, w, S, s, r, h⟩ := h
  refine ⟨ρ, w, S, s, r, ?_⟩
  simp only [run] at h
  cases er : runs Γ bs ρ S with
  | exc e ρ1 S1 =>
    rw [er] at h
    intro w' H' σ' cls d x' r' rx
    obtain ⟨C, hcls, hmg, T, hfs⟩ := id rx
    refine ⟨decide (c ∈ e.ups), by rw [hcls]; exact (T.sub c C' hcx hC).2, fun hno => ?_, fun hyes a ha => ?_⟩
    · have hn : ¬ c ∈ e.ups := of_decide_eq_false hno
      simp only [if_neg hn] at h
      exact h w' H' σ' cls d x' r' rx
    · have hy : c ∈ e.ups := of_decide_eq_true hyes
      simp only [if_pos hy] at h
      split at h
      · rename_i hij
        obtain ⟨x2, r2⟩ := rep_caught x'.sim rx ha
        have r3 := r'.mono x2.wle
        have hil : i < σ'.length := by rw [← r'.len]; exact hij.2.1
        refine ⟨.ref a, List.getElem?_set_self hil, ?_⟩
        refine h _ _ _ (x'.trans s x2) ?_
        have r4 := ((r3.set i r2).set j r2).unset i
        have e1 : ((ρ1.set i (some (.exn e.cls e.ups e.fs))).set j (some (.exn e.cls e.ups e.fs))).set i none = (ρ1.set j (some (.exn e.cls e.ups e.fs))).set i none := by
          rw [List.set_comm _ _ hij.1, List.set_set]
        rw [e1] at r4
        exact r4
      · exact h.elim
  | nx ρ1 S1 => rw [er] at h; exact h
  | rt d S1 => rw [er] at h; exact h
  | bk ρ1 S1 => rw [er] at h; exact h
  | ct ρ1 S1 => rw [er] at h; exact h
  | bad => rw [er] at h; exact h
theorem ps_tryOnlyD {body suite : List Stmt} {b₀ : Stmt} {bs ss : List Sm} {c : Str} {C' : Addr} {np pos' : Pos} (hs : X.stack = X.env :: X.outer) (hf : X.env.frame = some X.env.locals) (hcx : c ∈ xNames) (hC : X.mg c = some (.ref C')) (hgc : Gl X c) (hdc : (c == ("__debug__" : Str)) = false) (tk : Takes X Wx)
    (hb : ∀ (W : WX) (pn : List (Addr × Obj)) (xe : Value → Shared → Prop), Takes (X.tr pn xe) W → PassesOwn (model X.prog X.w) X.A X.env xe → PSs (X.tr pn xe) body (xS X W (runs Γ bs)))
    (hsu : ∀ (a : Addr) (oe : Obj) (pn : List (Addr × Obj)), PSs (X.suite a ((a, oe) :: pn)) (b₀ :: suite) (xS X (fun _ _ _ _ => False) (runs Γ ss))) (hno : ∀ ρ S e ρ' S', runs Γ ss ρ S ≠ .exc e ρ' S') :
    PS X (.Try body [.ExceptHandler (some (.Name c np)) none (b₀ :: suite) pos'] [] [] pos) (xS X Wx (run Γ (.tryOnly bs c ss))) := by
  refine PS_imp (ps_try_only (ts := fun _ _ _ => xS X (fun _ _ _ _ => False) (runs Γ ss)) (tb := fun W => xS X W (runs Γ bs)) (Wout := Wx) hs hf ⟨hgc, hdc, .inl hC⟩ tk hb fun a oe cls d pn _ _ => hsu a oe pn) fun Dn σ H h => ?_
  obtain ⟨ρ, w, S, s, r, h⟩ := h
  refine ⟨ρ, w, S, s, r, ?_⟩
  simp only [run] at h
  cases er : runs Γ bs ρ S with
  | exc e ρ1 S1 =>
    rw [er] at h
    intro w' H' σ' cls d x' r' rx
    obtain ⟨C, hcls, hmg, T, hfs⟩ := id rx
    refine ⟨decide (c ∈ e.ups), by rw [hcls]; exact (T.sub c C' hcx hC).2, fun hyes a ha => ?_, fun hn => ?_⟩
    · have hy : c ∈ e.ups := of_decide_eq_true hyes
      simp only [if_pos hy] at h
      have h2 := AfterS.move s x' h
      refine ⟨ρ1, w', S1, x'.sim, r', ?_⟩
      cases es : runs Γ ss ρ1 S1 with
      | exc e2 ρ2 S2 => exact absurd es (hno _ _ _ _ _)
      | nx ρ2 S2 => rw [es] at h2; exact h2
      | rt d S2 => rw [es] at h2; exact h2
      | bk ρ2 S2 => rw [es] at h2; exact h2
      | ct ρ2 S2 => rw [es] at h2; exact h2
      | bad => rw [es] at h2; exact h2
    · have hn : ¬ c ∈ e.ups := of_decide_eq_false hn
      simp only [if_neg hn] at h
      exact h w' H' σ' cls d x' r' rx
  | nx ρ1 S1 => rw [er] at h; exact h
  | rt d S1 => rw [er] at h; exact h
  | bk ρ1 S1 => rw [er] at h; exact h
  | ct ρ1 S1 => rw [er] at h; exact h
  | bad => rw [er] at h; exact h

theorem ps_tryElseD {body suite orelse : List Stmt} {b₀ : Stmt} {bs ss es : List Sm} {c : Str} {C' : Addr} {np pos' : Pos} (hs : X.stack = X.env :: X.outer) (hf : X.env.frame = some X.env.locals) (hcx : c ∈ xNames) (hC : X.mg c = some (.ref C')) (hgc : Gl X c) (hdc : (c == ("__debug__" : Str)) = false) (tk : Takes X Wx)
    (hb : ∀ (W : WX) (pn : List (Addr × Obj)) (xe : Value → Shared → Prop), Takes (X.tr pn xe) W → PassesOwn (model X.prog X.w) X.A X.env xe → PSs (X.tr pn xe) body (xS X W (runs Γ bs)))
    (hsu : ∀ (a : Addr) (oe : Obj) (pn : List (Addr × Obj)), PSs (X.suite a ((a, oe) :: pn)) (b₀ :: suite) (xS X (fun _ _ _ _ => False) (runs Γ ss))) (hno : ∀ ρ S e ρ' S', runs Γ ss ρ S ≠ .exc e ρ' S') (ho : PSs X orelse (xS X Wx (runs Γ es))) :
    PS X (.Try body [.ExceptHandler (some (.Name c np)) none (b₀ :: suite) pos'] orelse [] pos) (xS X Wx (run Γ (.tryElse bs c ss es))) := by
  refine PS_imp (ps_try_onlyE (ts := fun _ _ _ => xS X (fun _ _ _ _ => False) (runs Γ ss)) (tb := fun W => xS X W (runs Γ bs)) (Wout := Wx) ho hs hf ⟨hgc, hdc, .inl hC⟩ tk hb fun a oe cls d pn _ _ => hsu a oe pn) fun Dn σ H h => ?_
  obtain ⟨ρ, w, S, s, r, h⟩ := h
  refine ⟨ρ, w, S, s, r, ?_⟩
  simp only [run] at h
  cases er : runs Γ bs ρ S with
  | exc e ρ1 S1 =>
    rw [er] at h
    intro w' H' σ' cls d x' r' rx
    obtain ⟨C, hcls, hmg, T, hfs⟩ := id rx
    refine ⟨decide (c ∈ e.ups), by rw [hcls]; exact (T.sub c C' hcx hC).2, fun hyes a ha => ?_, fun hn => ?_⟩
    · have hy : c ∈ e.ups := of_decide_eq_true hyes
      simp only [if_pos hy] at h
      have h2 := AfterS.move s x' h
      refine ⟨ρ1, w', S1, x'.sim, r', ?_⟩
      cases es : runs Γ ss ρ1 S1 with
      | exc e2 ρ2 S2 => exact absurd es (hno _ _ _ _ _)
      | nx ρ2 S2 => rw [es] at h2; exact h2
      | rt d S2 => rw [es] at h2; exact h2
      | bk ρ2 S2 => rw [es] at h2; exact h2
      | ct ρ2 S2 => rw [es] at h2; exact h2
      | bad => rw [es] at h2; exact h2
    · have hn : ¬ c ∈ e.ups := of_decide_eq_false hn
      simp only [if_neg hn] at h
      exact h w' H' σ' cls d x' r' rx
  | nx ρ1 S1 =>
    rw [er] at h
    exact fun w' H' σ' x' r' => ⟨ρ1, w', S1, x'.sim, r', AfterS.move s x' h⟩
  | rt d S1 => rw [er] at h; exact h
  | bk ρ1 S1 => rw [er] at h; exact h
  | ct ρ1 S1 => rw [er] at h; exact h
  | bad => rw [er] at h; exact h

/-! ### exceptions made -/
/-- what a class's own __init__ does with the new exception at a -/
def spIni (K : PySem.W.Frag) (C : Addr) (k : Ini) : Sp := fun vs H Q _ => ∃ (a : Addr) (us : List V), vs = .ref a :: us ∧ H a = some (exo a C none) ∧ (match k with
  | .no => False
  | .args fs => us.length = fs.length ∧ ∀ dx, H dx = none → dx ≠ a → Q .non (upd (upd H dx (exd dx (fs.zip us).reverse)) a (exo a C (some dx)))
  | .lst f => ∃ p ys, us = [.ref p] ∧ SqL K H p ys ∧ ∀ l dx, H l = none → H dx = none → dx ≠ a → l ≠ a → l ≠ dx → Q .non (upd (upd (upd H l (.lst ys)) dx (exd dx [(f, .ref l)])) a (exo a C (some dx))))
def Ini.many : Ini → Nat
  | .no => 0 | .args fs => fs.length | .lst _ => 1
/-- what is known of a class whose exceptions are raised -/
structure Maker (P : Program) (w : World) (K : PySem.W.Frag) (mg : Str → Option Value) (base : Heap) (k : Nat) (c : Str) (ups : List Str) (ini : Ini) : Prop where
  ex : ∃ C, mg c = some (.ref C) ∧ XcOk K mg ups C ∧ PySem.W.keepIn K (.ref C) = true ∧ PySem.W.subIn K (.ref C) (.type "BaseException") = some true ∧ PySem.W.typeIn K (.ref C) = some (.type "type") ∧
    ((ini = .no ∧ ∃ (B newId initId : String) (bmB : List Value), ExcBaseFacts B newId initId bmB ∧ PySem.W.excIn K C bmB newId = true) ∨
     (ini ≠ .no ∧ OexC K C ∧ ∃ (fI : Addr) (fd : FuncData) (ps : List Str), PySem.W.findIn K (.ref C) "__init__" = some (some (.ref fI)) ∧ PySem.W.typeIn K (.ref fI) = some (.type "function") ∧ FnOk P w K mg base (L2.CX P w) k fI fd ps (spIni K C ini) ∧ Binds K fd ps []))
structure MakeOk (X : Cx) (c : Str) (ups : List Str) (ini : Ini) : Prop where
  ex : ∃ k, Maker X.prog X.w X.K X.mg X.base k c ups ini ∧ Room (k + 1) X.A
theorem RepF.append {K : PySem.W.Frag} {w : Wd} : ∀ {xs ys : List (Str × D)} {us ws : List (Str × V)}, RepF K w xs us → RepF K w ys ws → RepF K w (xs ++ ys) (us ++ ws)
  | _, _, _, _, .nil, s => s
  | _, _, _, _, .cons r t, s => .cons r (RepF.append t s)
theorem RepF.reverse {K : PySem.W.Frag} {w : Wd} : ∀ {xs : List (Str × D)} {us : List (Str × V)}, RepF K w xs us → RepF K w xs.reverse us.reverse
  | _, _, .nil => .nil
  | _, _, .cons r t => by
    rw [List.reverse_cons, List.reverse_cons]
    exact (RepF.reverse t).append (.cons r .nil)
theorem repF_zip {K : PySem.W.Frag} {w : Wd} : ∀ {fs : List Str} {ds : List D} {vs : List V}, Reps K w ds vs → RepF K w (fs.zip ds) (fs.zip vs)
  | [], _, _, _ => by simp only [List.zip_nil_left]; exact .nil
  | _ :: _, _, _, .nil => .nil
  | f :: fs, _, _, .cons r t => .cons r (repF_zip t)
/-- the heap behind the making: the exception is gone, its dict is there -/
theorem made_eq {H : Hp} {a dx : Addr} {x y z u : HO} (ha : H a = none) (hd : dx ≠ a) : upd (del (upd (upd (upd H a x) dx y) a z) a) dx u = upd H dx u := by
  funext b
  by_cases hb : b = dx
  · subst hb; rw [upd_same, upd_same]
  · rw [upd_ne hb, upd_ne hb]
    by_cases hba : b = a
    · subst hba; rw [del_same, ha]
    · rw [del_ne hba, upd_ne hba, upd_ne hb, upd_ne hba]
theorem made_eq2 {H : Hp} {a l dx : Addr} {x o y z u : HO} (ha : H a = none) (hd : dx ≠ a) (hl : l ≠ a) : upd (del (upd (upd (upd (upd H a x) l o) dx y) a z) a) dx u = upd (upd H l o) dx u := by
  funext b
  by_cases hb : b = dx
  · subst hb; rw [upd_same, upd_same]
  · rw [upd_ne hb, upd_ne hb]
    by_cases hba : b = a
    · subst hba; rw [del_same, upd_ne (Ne.symm hl), ha]
    · rw [del_ne hba, upd_ne hba, upd_ne hb]
      by_cases hbl : b = l
      · subst hbl; rw [upd_same, upd_same]
      · rw [upd_ne hbl, upd_ne hbl, upd_ne hba]
theorem ps_raiseXD {e : Expr} {es : List Expr} {as : List Ex} {c : Str} {ups : List Str} {ini : Ini} {p pos' : Pos} (mk : MakeOk X c ups ini) (hc : X.calm = true) (tk : Takes X Wx) (hg : Gl X c) (hdb : (c == ("__debug__" : Str)) = false) (ha : PA X (e :: es) (xA X Wx (semL Γ as)))
    (he : starEach (e :: es) X.env = (false, eval e X.env) :: starEach es X.env) (hpl : (backTo pos' (starEach es X.env)).any (·.1) = false) : PS X (.Raise (some (.Call (.Name c p) (e :: es) [] pos')) none pos) (xS X Wx (run Γ (.raiseX c ups ini as))) := by
  obtain ⟨k, mk, hr⟩ := mk.ex
  obtain ⟨C, hm, T, kC, eC, tC, h⟩ := mk.ex
  rcases h with ⟨rfl, B, nI, iI, bm, F, q⟩ | ⟨hne, O, fI, fd, ps, i1, i2, F1, hB⟩
  · refine PS_imp (ps_raise hc tk (pmk_ownA F q hm kC (raises_own eC tC) hg ha hdb he hpl)) fun Dn σ H ⟨ρ, w, S, s, r, h⟩ => ?_
    simp only [run] at h
    refine ⟨ρ, w, S, s, r, (AfterS.split s r h).imp fun ds w1 S1 H1 _ x1 ⟨_, h1⟩ vs rvs => ?_⟩
    simp only [Ini.ev] at h1
    split at h1
    · rename_i fs ef
      split at ef
      · rename_i hl
        cases ef
        refine ⟨by rw [← rvs.length, hl, sizeLine_eq]; omega, ?_⟩
        exact h1 w1 H1 σ (.ref C) none (Ext.refl x1.sim) (r.mono x1.wle) ⟨C, rfl, hm, T, .inl ⟨rfl, rfl⟩⟩
      · cases ef
    · exact h1.elim
  · refine PS_imp (ps_raise hc tk (pmk_oex O i1 i2 F1 hr hB .nil (passes_call (W := Wx) tk (E := fun _ _ _ => False) fun _ _ _ _ z => z.elim) hg hm ha hdb he hpl)) fun Dn σ H ⟨ρ, w, S, s, r, h⟩ => ?_
    simp only [run] at h
    refine ⟨ρ, w, S, s, r, (AfterS.split s r h).imp fun ds w1 S1 H1 _ x1 ⟨_, h1⟩ vs rvs => ?_⟩
    cases ini with
    | no => exact absurd rfl hne
    | args fs =>
      simp only [Ini.ev] at h1
      split at h1
      · rename_i gs ef
        split at ef
        · rename_i hl
          cases ef
          have hvl := rvs.length
          refine ⟨by omega, fun a ha => ⟨a, vs ++ [], rfl, upd_same, by rw [List.append_nil]; omega, fun dx hdx hda => ⟨rfl, dx, (fs.zip vs).reverse, upd_same, ?_, ?_, ?_⟩⟩⟩
          · rw [List.append_nil, upd_ne hda, upd_same]
          · rwa [upd_ne hda] at hdx
          · have hd1 : H1 dx = none := by rwa [upd_ne hda] at hdx
            rw [List.append_nil, made_eq ha hda]
            have x2 := ext_put (o := .xd (fs.zip vs).reverse) x1.sim hd1
            exact h1 _ _ σ (.ref C) (some dx) x2 ((r.mono x1.wle).mono x2.wle) ⟨C, rfl, hm, T, .inr ⟨dx, _, rfl, upd_same, (repF_zip (rvs.mono x2.wle)).reverse⟩⟩
        · cases ef
      · exact h1.elim
    | lst f =>
      simp only [Ini.ev] at h1
      split at h1
      · rename_i gs ef
        split at ef
        · rename_i x
          split at ef
          · rename_i ys ey
            cases ef
            obtain ⟨v, rfl, rx⟩ := reps1 rvs
            obtain ⟨q, us, rfl, hq, rus⟩ := list_at x1.sim rx ey
            refine ⟨by simp, fun a ha => ⟨a, [.ref q], rfl, upd_same, q, us, rfl, (GLe.same (same_up ha)).seqL hq, fun l dx hl hdx hda hla hld => ⟨rfl, dx, [(f, .ref l)], upd_same, ?_, ?_, ?_⟩⟩⟩
            · rw [upd_ne hda, upd_same]
            · rwa [upd_ne hda] at hdx
            · have hd1 : H1 dx = none := by rwa [upd_ne hda] at hdx
              have hl1 : H1 l = none := by rwa [upd_ne hla] at hl
              rw [made_eq2 ha hda hla]
              have x2 := ext_put (o := .lst us) x1.sim hl1
              have x3 := ext_put (o := .xd [(f, .ref l)]) x2.sim (p := dx) (by rw [upd_ne (Ne.symm hld)]; exact hd1)
              have x4 := x2.trans x1.sim x3
              exact h1 _ _ σ (.ref C) (some dx) x4 ((r.mono x1.wle).mono x4.wle) ⟨C, rfl, hm, T, .inr ⟨dx, _, rfl, upd_same, .cons (.lst (x3.wle.g.lst _ _ upd_same) (rus.mono x4.wle)) .nil⟩⟩
          · cases ef
        · cases ef
      · exact h1.elim
end
end DL

/-! DLtt: try with two clauses, the second one with a name. -/
namespace DL
open PySem PySem.Spec PyProof.Rows L2

section
variable {X : Cx} {Wx : WX} {Γ : Gm}
/-- what the two clauses wish -/
def wTwo (K : PySem.W.Frag) (c1 c2 : Value) (i : Nat) (t1 t2 : Addr → Value → Option Addr → TS) (Wout : WX) (D : Ends) : WX := fun cls d σ H =>
  ∃ b, PySem.W.exmOne K cls c1 = some b ∧ (b = true → ∀ a, H a = none → t1 a cls d D σ H) ∧ (b = false → wAs K c2 i t2 Wout D cls d σ H)
variable {x1 x2 n : Str} {c1 c2 : Value} {i : Nat} {body u1 u2 : List Stmt} {b1 b2 : Stmt} {np1 np2 pos q1 q2 : Pos} {tb : WX → TS} {t1 t2 : Addr → Value → Option Addr → TS} {Wout : WX}
theorem ps_try_two (hs : X.stack = X.env :: X.outer) (hf : X.env.frame = some X.env.locals) (hx : X.ex = []) (hN : X.N.Nodup) (hi : X.N[i]? = some n) (hln : X.env.kindOf n = some .local) (hc1 : Names X x1 c1) (hc2 : Names X x2 c2) (tk : Takes X Wout)
    (hb : ∀ (W : WX) (pn : List (Addr × Obj)) (xe : Value → Shared → Prop), Takes (X.tr pn xe) W → PassesOwn (model X.prog X.w) X.A X.env xe → PSs (X.tr pn xe) body (tb W))
    (hu1 : ∀ (a : Addr) (oe : Obj) (cls : Value) (d : Option Addr) (pn : List (Addr × Obj)), Zc cls d oe → (∃ vs, oe.data = .fields vs) → PSs (X.suite a ((a, oe) :: pn)) (b1 :: u1) (t1 a cls d))
    (hu2 : ∀ (a : Addr) (oe : Obj) (cls : Value) (d : Option Addr) (pn : List (Addr × Obj)), Zc cls d oe → (∃ vs, oe.data = .fields vs) → PSs (X.suite a ((a, oe) :: pn)) (b2 :: u2) (t2 a cls d)) :
    PS X (.Try body [.ExceptHandler (some (.Name x1 np1)) none (b1 :: u1) q1, .ExceptHandler (some (.Name x2 np2)) (some n) (b2 :: u2) q2] [] [] pos) (fun D σ H => tb (wTwo X.K c1 c2 i t1 t2 Wout D) D σ H) := by
  constructor
  intro pins s σ H D I hh
  have ok := I.ok
  have frames : X.A.frames = some (X.env :: X.outer) := ok.frames.trans (by rw [hs])
  let M := model X.prog X.w
  let h2 : ExceptHandler := .ExceptHandler (some (.Name x2 np2)) (some n) (b2 :: u2) q2
  let hds : List ExceptHandler := [.ExceptHandler (some (.Name x1 np1)) none (b1 :: u1) q1, h2]
  let xeT : Value → Shared → Prop := fun e s₁ => wpAny M X.A (noteFrame e X.env) (fun _ s₂ => wpAny M X.A (setFlight e none) (fun _ s₃ => wpAny M X.A (handleBy e X.env hds) (SP X pins D) X.xe s₃) X.xe s₂) X.xe s₁
  have caught : Takes (X.tr (X.pn ++ pins) xeT) (wTwo X.K c1 c2 i t1 t2 Wout D) := by
    rintro u s' ⟨a, B, sI, pins', σ', H', cls, d, rfl, J0, nb, up, sky, na, os, ag, b, hb1, hyes, hno⟩
    have J : Inv X pins σ' H' sI := J0.ofTry ok
    refine Sky.land Zc.steady frames hf (show Sky B (X.env :: X.outer) a (Zc cls d) X.env.locals s'.heap by rw [← hs]; exact sky) fun h3 fl3 up3 => ?_
    obtain ⟨oe3, vs3, he3, hz3, hd3⟩ := fl3.there
    have J3 : Inv X pins σ' H' { s' with heap := h3 } := J.landed nb fl3.1 (up.trans up3) os ag
    obtain ⟨⟨nL, nF⟩, n0, npin⟩ := landed hs hf hx J nb fl3 he3 hd3
    have S3 := J3.suite he3 hd3 na nL nF
    have LT : PySem.W.Looks M h3 (typeOf (.ref a)) cls := fun A Q E s k q => wpAny_typeOf_ref (k _ _ he3) (by rw [hz3.1]; exact q)
    have name : ∀ {x : Str} {c : Value} {np : Pos} {Q E : Value → Shared → Prop}, Names X x c → Q c { s' with heap := h3 } → wpAny M (X.A.mark (some (.ref a))) (eval (.Name x np) X.env) Q E { s' with heap := h3 } := fun {x c np Q E} hc q => by
      rcases hc with ⟨g1, g2, hm | ⟨hm, hv, hnn⟩⟩
      · exact ld_glob (X := X.suite a ((a, oe3) :: (X.pn ++ pins))) S3 g1 hm q g2
      · exact ld_blt (X := X.suite a ((a, oe3) :: (X.pn ++ pins))) S3 g1 hm hv q hnn g2
    refine wpAny_handleBy_cons (codeAny_handlers_test ?_) (by intro q; cases q)
    refine name hc1 ((PySem.W.exm_one (M := M) J3.kIn LT hb1).here ?_)
    cases b with
    | true =>
      refine codeAny_handlers_suite ?_
      refine HandSPX.lands_againZ fl3 fun h4 fl4 up4 => ?_
      obtain ⟨oe4, vs4, he4, hz4, hd4⟩ := fl4.there
      have J4 : Inv X pins σ' H' { s' with heap := h4 } := J.landed nb fl4.1 ((up.trans up3).trans up4) os ag
      have S4 := J4.suite he4 hd4 na nL nF
      refine wpAny_mono ((hu1 a oe4 cls d (X.pn ++ pins) hz4 ⟨_, hd4⟩).run [] _ _ H' _ S4 (hyes rfl a na)) (fun f s6 hsp => ?_) (fun _ _ z => z.elim)
      cases f with
      | next => obtain ⟨σ6, H6, S6, q6⟩ := hsp; exact ⟨_, _, S6.unsuite ok, q6⟩
      | brk => obtain ⟨σ6, H6, S6, q6⟩ := hsp; exact ⟨_, _, S6.unsuite ok, q6⟩
      | cont => obtain ⟨σ6, H6, S6, q6⟩ := hsp; exact ⟨_, _, S6.unsuite ok, q6⟩
      | ret u => obtain ⟨v6, σ6, H6, S6, r6, q6⟩ := hsp; exact ⟨_, _, _, S6.unsuite ok, r6, q6⟩
    | false =>
      show wpAny _ X.A (handleBy (.ref a) X.env [h2]) _ _ _
      obtain ⟨b, hb2, hyes2, hno2⟩ := hno rfl
      refine wpAny_handleBy_cons (codeAny_handlers_test ?_) (by intro q; cases q)
      refine name hc2 ((PySem.W.exm_one (M := M) J3.kIn LT hb2).here ?_)
      cases b with
      | false =>
        show wpAny _ X.A (handleBy (.ref a) X.env []) _ _ _
        refine wpAny_handleBy_nil ?_
        obtain ⟨k1, k2, k3, oe, vs, T, oT, ts', he, hz, hd, h1, hr⟩ := id fl3
        unfold PySem.passOn
        refine wpAny_bind (wpAny_field he hd h1 ?_)
        rw [if_neg (show ¬ ((Value.ref T == Value.none) = true) from by simp)]
        have on : wpAny M X.A (setFlight (.ref a) X.env.frame) (fun _ s4 => wpAny M X.A (throw (.ref a) : Sem Flow) (SP X pins D) X.xe s4) X.xe { s' with heap := h3 } := by
          rw [hf]
          refine HandSPX.setFlight_upZ fl3 fun h4 hh4 up4 => wpAny_throw (tk _ _ ?_)
          exact ⟨a, B, sI, pins, σ', H', cls, d, rfl, J, nb, (up.trans up3).trans up4, .inr (.inr (by rw [hs]; exact hh4)), na, os, ag, hno2 rfl⟩
        first
          | exact wpAny_bind (wpAny_pure (wpAny_bind on))
          | exact wpAny_bind on
      | true =>
        refine codeAny_handlers_suite_as ?_
        refine HandSPX.lands_againZ fl3 fun h4 fl4 up4 => ?_
        obtain ⟨oe4, vs4, he4, hz4, hd4⟩ := fl4.there
        have J4 : Inv X pins σ' H' { s' with heap := h4 } := J.landed nb fl4.1 ((up.trans up3).trans up4) os ag
        have S4 := J4.suite he4 hd4 na nL nF
        refine store_ok (X := X.suite a ((a, oe4) :: (X.pn ++ pins))) (v := .ref a) S4 hN hi (.inl hln) rfl (fun s5 S5 => ?_) (.inr hln)
        refine wpAny_mono ((hu2 a oe4 cls d (X.pn ++ pins) hz4 ⟨_, hd4⟩).run [] s5 _ H' _ S5 (hyes2 rfl a na)) (fun f s6 hsp => ?_) (fun _ _ z => z.elim)
        have leave : ∀ {σ6 : L2.St} {H6 : Hp} {Q : Shared → Prop}, Inv (X.suite a ((a, oe4) :: (X.pn ++ pins))) [] σ6 H6 s6 → (∀ s7, Inv X pins (σ6.set i none) H6 s7 → Q s7) →
            wpAny M X.A (do bindName X.env n .none; unbindBehindTheSuite X.env n q2) (fun _ s7 => Q s7) X.xe s6 := fun {σ6 H6 Q} S6 hq => gone_ok (S6.unsuite ok) hN hi hln hq
        cases f with
        | next => obtain ⟨σ6, H6, S6, q6⟩ := hsp; exact leave S6 fun s7 J7 => ⟨_, _, J7, q6⟩
        | brk => obtain ⟨σ6, H6, S6, q6⟩ := hsp; exact leave S6 fun s7 J7 => ⟨_, _, J7, q6⟩
        | cont => obtain ⟨σ6, H6, S6, q6⟩ := hsp; exact leave S6 fun s7 J7 => ⟨_, _, J7, q6⟩
        | ret u => obtain ⟨v6, σ6, H6, S6, r6, q6⟩ := hsp; exact leave S6 fun s7 J7 => ⟨_, _, _, J7, r6, q6⟩
  refine wpAny_Try_except (wpAny_mono ((hb _ (X.pn ++ pins) xeT caught PassesOwn.looking).run [] s σ H D (I.toTry _) hh) (fun f s1 hsp => ?_) (fun e s1 he => he))
  cases f with
  | next => obtain ⟨σ', H', J', q⟩ := hsp; exact wpAny_execs_nil ⟨σ', H', J'.ofTry ok, q⟩
  | brk => obtain ⟨σ', H', J', q⟩ := hsp; exact ⟨σ', H', J'.ofTry ok, q⟩
  | cont => obtain ⟨σ', H', J', q⟩ := hsp; exact ⟨σ', H', J'.ofTry ok, q⟩
  | ret u => obtain ⟨v, σ', H', J', r, q⟩ := hsp; exact ⟨v, σ', H', J'.ofTry ok, r, q⟩
end
/-! ### over the layer -/
/-- the field f of the exception that the name i holds -/
def tXv (K : PySem.W.Frag) (a : Addr) (cls : Value) (d : Option Addr) (i : Nat) (f : Str) : TE := fun σ H Q => ∃ C, cls = .ref C ∧ XfC K C ∧ PySem.W.findIn K (.ref C) f = some none ∧ tXf a cls d C f (tVar i) σ H Q
section
variable {X : Cx} {Wx : WX} {Γ : Gm}
theorem pe_xv {a : Addr} {oe : Obj} {cls : Value} {d : Option Addr} {pn : List (Addr × Obj)} {i : Nat} {n f : Str} {p1 p2 : Pos} (hi : X.N[i]? = some n) (hvn : Vis X.env.scope n) (hd1 : (n == ("__debug__" : Str)) = false) (hd2 : (n == ("__classdict__" : Str)) = false)
    (hz : Zc cls d oe) (hf : ∃ vs, oe.data = .fields vs) : PE (X.suite a ((a, oe) :: pn)) (.Attribute (.Name n p1) f p2) (tXv X.K a cls d i f) := by
  refine ⟨fun pins s σ H Q I h => ?_⟩
  obtain ⟨C, hC, T, hno, h⟩ := h
  exact (pe_xf (C := C) T hno hz hf (pe_var (X := X.suite a ((a, oe) :: pn)) hi hvn hd1 hd2)).run pins s σ H Q I h
theorem ps_tryTwoD {body : List Stmt} {bs : List Sm} {c1 c2 n m z1 z f : Str} {i j : Nat} {C1 C2 : Addr} {np1 np2 pm1 pa1 pt1 pz1 pm pa pt pz pn' pf pos q1 q2 : Pos} {k1 k2 j1 j2 : Nat} (hs : X.stack = X.env :: X.outer) (hf : X.env.frame = some X.env.locals) (hx : X.ex = []) (hN : X.N.Nodup) (hi : X.N[i]? = some n) (hln : X.env.kindOf n = some .local)
    (hj : X.N[j]? = some m) (hlm : X.env.scope.names.lookup m = some .local) (hvn : Vis X.env.scope n) (hd1 : (n == ("__debug__" : Str)) = false) (hd2 : (n == ("__classdict__" : Str)) = false)
    (hx1 : c1 ∈ xNames) (hC1 : X.mg c1 = some (.ref C1)) (hg1 : Gl X c1) (hn1 : (c1 == ("__debug__" : Str)) = false) (hx2 : c2 ∈ xNames) (hC2 : X.mg c2 = some (.ref C2)) (hg2 : Gl X c2) (hn2 : (c2 == ("__debug__" : Str)) = false) (tk : Takes X Wx)
    (hb : ∀ (W : WX) (pn : List (Addr × Obj)) (xe : Value → Shared → Prop), Takes (X.tr pn xe) W → PassesOwn (model X.prog X.w) X.A X.env xe → PSs (X.tr pn xe) body (xS X W (runs Γ bs))) :
    PS X (.Try body [.ExceptHandler (some (.Name c1 np1)) none [.Assign [.Name m pm1] (.Tuple [.Constant (.str z1) j1 pz1] k1 pt1) pa1] q1, .ExceptHandler (some (.Name c2 np2)) (some n) [.Assign [.Name m pm] (.Tuple [.Constant (.str z) j2 pz, .Attribute (.Name n pn') f pf] k2 pt) pa] q2] [] [] pos) (xS X Wx (run Γ (.tryTwo bs c1 z1 c2 i j z f))) := by
  refine PS_imp (ps_try_two (t1 := fun _ _ _ => tAsg (tTup (tCons (tC (.str z1)) tNil)) (gName j)) (t2 := fun a cls d => tAsg (tTup (tCons (tC (.str z)) (tCons (tXv X.K a cls d i f) tNil))) (gName j)) (tb := fun W => xS X W (runs Γ bs)) (Wout := Wx) hs hf hx hN hi hln ⟨hg1, hn1, .inl hC1⟩ ⟨hg2, hn2, .inl hC2⟩ tk hb
    (fun a oe cls d pn _ _ => pss_one (ps_set (X := X.suite a ((a, oe) :: pn)) hN hj (.inl hlm) (pe_tup (pa_cons pe_str pa_nil)) rfl (.inr hlm)))
    (fun a oe cls d pn hz hv => pss_one (ps_set (X := X.suite a ((a, oe) :: pn)) hN hj (.inl hlm) (pe_tup (pa_cons pe_str (pa_cons (pe_xv hi hvn hd1 hd2 hz hv) pa_nil))) rfl (.inr hlm)))) fun Dn σ H h => ?_
  obtain ⟨ρ, w, S, s, r, h⟩ := h
  refine ⟨ρ, w, S, s, r, ?_⟩
  simp only [run] at h
  cases er : runs Γ bs ρ S with
  | exc e ρ1 S1 =>
    rw [er] at h
    intro w' H' σ' cls d x' r' rx
    obtain ⟨C, hcls, hmg, T, hfs⟩ := id rx
    simp only [twoR] at h
    refine ⟨decide (c1 ∈ e.ups), by rw [hcls]; exact (T.sub c1 C1 hx1 hC1).2, fun hyes a ha => ?_, fun hno => ?_⟩
    · have hy : c1 ∈ e.ups := of_decide_eq_true hyes
      rw [if_pos hy] at h
      refine ⟨by show 1 ≤ sizeLine; decide, fun p hp => ?_⟩
      have x2 := ext_put (o := .tup [V.str z1]) x'.sim hp
      have r2 : Rep X.K (w'.put p (.tup [V.str z1])) (.tup [.str z1]) (.ref p) := .tup (.of upd_same) (.cons (.str _) .nil)
      exact h _ _ _ (x'.trans s x2) ((r'.mono x2.wle).set j r2)
    · have hn : ¬ c1 ∈ e.ups := of_decide_eq_false hno
      rw [if_neg hn] at h
      refine ⟨decide (c2 ∈ e.ups), by rw [hcls]; exact (T.sub c2 C2 hx2 hC2).2, fun hyes a ha => ?_, fun hno2 => ?_⟩
      · have hy : c2 ∈ e.ups := of_decide_eq_true hyes
        rw [if_pos hy] at h
        split at h
        · rename_i hij
          split at h
          · rename_i dd ed
            rcases hfs with ⟨hf0, rfl⟩ | ⟨ad, ws, rfl, hg, rf⟩
            · rw [hf0] at ed; cases ed
            · obtain ⟨v, ev, rv⟩ := repF_look rf ed
              have hil : i < σ'.length := by rw [← r'.len]; exact hij.2.1
              refine ⟨C, hcls, T.xf, T.no f hij.2.2.2, .ref a, List.getElem?_set_self hil, rfl, hcls, ad, ws, v, rfl, x'.sim.le _ _ hg, ev, ?_⟩
              refine ⟨by show 2 ≤ sizeLine; decide, fun p hp => ?_⟩
              have x2 := ext_put (o := .tup [V.str z, v]) x'.sim hp
              have r2 : Rep X.K (w'.put p (.tup [V.str z, v])) (.tup [.str z, dd]) (.ref p) := .tup (.of upd_same) (.cons (.str _) (.cons (rv.mono x2.wle) .nil))
              have e1 : (((σ'.set i (some (.ref a))).set j (some (.ref p))).set i none) = (σ'.set j (some (.ref p))).set i none := by
                rw [List.set_comm _ _ hij.1, List.set_set]
              show Dn.nx (((σ'.set i (some (.ref a))).set j (some (.ref p))).set i none) _
              rw [e1]
              exact h _ _ _ (x'.trans s x2) (((r'.mono x2.wle).set j r2).unset i)
          · exact h.elim
        · exact h.elim
      · have hn2' : ¬ c2 ∈ e.ups := of_decide_eq_false hno2
        rw [if_neg hn2'] at h
        exact h w' H' σ' cls d x' r' rx
  | nx ρ1 S1 => rw [er] at h; exact h
  | rt d S1 => rw [er] at h; exact h
  | bk ρ1 S1 => rw [er] at h; exact h
  | ct ρ1 S1 => rw [er] at h; exact h
  | bad => rw [er] at h; exact h
end
end DL

/-! DLob: objects of the text's own classes: fields, methods, making. -/
namespace DL
open PySem PySem.Spec PyProof.Rows L2

/-! ### dicts alike -/
section
variable {X : Cx} {Wx : WX} {Γ : Gm} {pos : Pos}
inductive DPs (K : PySem.W.Frag) (H : Hp) : List (Key × V) → List (Key × PyData) → Prop
  | nil : DPs K H [] []
  | cons {k : Key} {v : V} {p : PyData} {vs : List (Key × V)} {ps : List (Key × PyData)} : Dp K H v p → DPs K H vs ps → DPs K H ((k, v) :: vs) ((k, p) :: ps)
inductive RPs (h : Heap) : List (Key × Value) → List (Key × PyData) → Prop
  | nil : RPs h [] []
  | cons {k : Key} {v : Value} {p : PyData} {as : List Addr} {vs : List (Key × Value)} {ps : List (Key × PyData)} : Reads h v p as → RPs h vs ps → RPs h ((k, v) :: vs) ((k, p) :: ps)
theorem dps_of {K : PySem.W.Frag} {mg : Str → Option Value} {w : Wd} {S : Store} {H : Hp} (s : Sim K mg w S H) : ∀ {ks : List (Key × D)} {ws : List (Key × V)} {ps : List (Key × PyData)}, RepK K w ks ws → dPairs S ks = some ps → DPs K H ws ps
  | _, _, _, .nil, h => by cases h; exact .nil
  | _, _, _, .cons r t, h => by
    simp only [dPairs] at h
    split at h
    · rename_i p q e1 e2
      cases h
      exact .cons (Dp_ofS s r e1) (dps_of s t e2)
    · cases h
theorem rps_of {pins : List (Addr × Obj)} {σ : L2.St} {H : Hp} {s : Shared} (I : Inv X pins σ H s) : ∀ {ws : List (Key × V)} {ps : List (Key × PyData)} {us : List (Key × Value)}, DPs X.K H ws ps → KV ws us → RPs s.heap us ps
  | _, _, _, .nil, r => by cases r; exact .nil
  | _, _, _, .cons d t, r => by
    cases r with
    | @cons _ b _ _ h r =>
      obtain ⟨k', u⟩ := b
      obtain ⟨e, rv⟩ := h
      cases e
      obtain ⟨as, q⟩ := Dp.reads I _ _ _ d rv
      exact .cons q (rps_of I t r)
theorem rps_len {h : Heap} : ∀ {us : List (Key × Value)} {ps : List (Key × PyData)}, RPs h us ps → us.length = ps.length
  | _, _, .nil => rfl
  | _, _, .cons _ t => by rw [List.length_cons, List.length_cons, rps_len t]
theorem rps_val {h : Heap} {k : Key} : ∀ {us : List (Key × Value)} {ps : List (Key × PyData)}, RPs h us ps → (∃ v p as, valueAt us k = some v ∧ valP ps k = some p ∧ Reads h v p as ∧ (k, p) ∈ ps) ∨ (valueAt us k = none ∧ valP ps k = none)
  | _, _, .nil => .inr ⟨rfl, rfl⟩
  | _, _, @RPs.cons _ k' v p as vs ps r t => by
    by_cases e : k' = k
    · subst e
      exact .inl ⟨v, p, as, by simp [valueAt], by simp [valP], r, List.mem_cons_self⟩
    · rcases rps_val (k := k) t with ⟨v', p', as', h1, h2, h3, h4⟩ | ⟨h1, h2⟩
      · exact .inl ⟨v', p', as', by simpa [valueAt, e] using h1, by simpa [valP, e] using h2, h3, List.mem_cons_of_mem _ h4⟩
      · exact .inr ⟨by simpa [valueAt, e] using h1, by simpa [valP, e] using h2⟩
theorem rps_hits {A : Around} {s : Shared} {ub : List (Key × Value)} {qs : List (Key × PyData)} (hu : A.units + 64 < cLine) (hb : RPs s.heap ub qs) (sb : (qs.all fun p => SeqAt.shaped p.2) = true) : ∀ {us : List (Key × Value)} {ps : List (Key × PyData)}, RPs s.heap us ps → (ps.all fun p => SeqAt.shaped p.2) = true → PySem.W.KeqHits A s ub us (hitsB qs ps)
  | _, _, .nil, _ => .nil
  | _, _, @RPs.cons _ k v p as vs ps r t, hs => by
    simp only [List.all_cons, Bool.and_eq_true] at hs
    unfold hitsB
    rcases rps_val (k := k) hb with ⟨v', p', as', h1, h2, h3, h4⟩ | ⟨h1, h2⟩
    · rw [h2]
      have sp := List.all_eq_true.1 sb _ h4
      exact .hit h1 (SeqAt.eqAt_reads p p' A s v v' as as' r h3 (SeqAt.canLay_of_shaped hs.1) (SeqAt.canLay_of_shaped sp) (SeqAt.room_of_shaped hs.1 hu)) (rps_hits hu hb sb t hs.2)
    · rw [h2]
      exact .miss h1
def rDQ (K : PySem.W.Frag) (neg : Bool) : R2 := fun x y H Q => ∃ (a b : Addr) (ka kb : List (Key × V)) (pa pb : List (Key × PyData)), x = .ref a ∧ y = .ref b ∧ Rd H a (.dK ka) ∧ Rd H b (.dK kb) ∧ DPs K H ka pa ∧ DPs K H kb pb ∧
  (pa.all fun p => SeqAt.shaped p.2) = true ∧ (pb.all fun p => SeqAt.shaped p.2) = true ∧ Q (.bl (if neg then !eqK pa pb else eqK pa pb)) H
theorem op_dq (hu : X.A.units + 66 < cLine) : OpR X (compareOp .Eq) (rDQ X.K false) := by
  rintro pins s σ H x y v u Q I rx ry ⟨a, b, ka, kb, pa, pb, rfl, rfl, ha, hb, da, db, sa, sb, q⟩
  obtain rfl : v = Value.ref a := rx
  obtain rfl : u = Value.ref b := ry
  obtain ⟨_, na, va, kva, dva⟩ := (show ObjOk X.prog X.w H s.heap a (.dK ka) from ha.ok I.hok)
  obtain ⟨_, nb, vb, kvb, dvb⟩ := (show ObjOk X.prog X.w H s.heap b (.dK kb) from hb.ok I.hok)
  have ra := rps_of I da kva
  have rb := rps_of I db kvb
  refine PySem.W.keq_eq na nb dva dvb (by omega) (fun _ => rps_hits (A := X.A.in1) (by show X.A.units + 1 + 64 < cLine; omega) rb sb ra sa) ⟨.bl (va.length == vb.length && hitsB pb pa), H, I, rfl, ?_⟩
  rw [rps_len ra, rps_len rb]
  exact q
theorem op_dnq (hu : X.A.units + 66 < cLine) : OpR X (compareOp .NotEq) (rDQ X.K true) := by
  rintro pins s σ H x y v u Q I rx ry ⟨a, b, ka, kb, pa, pb, rfl, rfl, ha, hb, da, db, sa, sb, q⟩
  obtain rfl : v = Value.ref a := rx
  obtain rfl : u = Value.ref b := ry
  obtain ⟨_, na, va, kva, dva⟩ := (show ObjOk X.prog X.w H s.heap a (.dK ka) from ha.ok I.hok)
  obtain ⟨_, nb, vb, kvb, dvb⟩ := (show ObjOk X.prog X.w H s.heap b (.dK kb) from hb.ok I.hok)
  have ra := rps_of I da kva
  have rb := rps_of I db kvb
  refine PySem.W.keq_ne na nb dva dvb (by omega) (fun _ => rps_hits (A := X.A.in1) (by show X.A.units + 1 + 64 < cLine; omega) rb sb ra sa) ⟨.bl (!(va.length == vb.length && hitsB pb pa)), H, I, rfl, ?_⟩
  rw [rps_len ra, rps_len rb]
  exact q
theorem opd_dq {neg : Bool} : OpD X Wx (rDQ X.K neg) (deqEv neg) := fun σ w S H x y v u Q s rx ry h => by
  unfold deqEv at h
  split at h
  · rename_i ks ls e1 e2
    split at h
    · rename_i ps qs e3 e4
      split at h
      · rename_i hs
        rw [Bool.and_eq_true] at hs
        obtain ⟨a, wa, rfl, ha, ra⟩ := dict_at s rx e1
        obtain ⟨b, wb, rfl, hb, rb⟩ := dict_at s ry e2
        exact ⟨a, b, wa, wb, ps, qs, rfl, rfl, ha, hb, dps_of s ra e3, dps_of s rb e4, hs.1, hs.2, After.here s h _ (.bl _)⟩
      · exact h.elim
    · exact h.elim
  · exact h.elim
theorem deq_sem {neg : Bool} {σ : L2.St} {H : Hp} {Q : VK} {a b : Ex} (h : xE X Wx (sem Γ (.deq neg a b)) σ H Q) : dTE X.K X.mg Wx (fun ρ S => (sem Γ a ρ S).bind fun x S1 => (sem Γ b ρ S1).bind fun y S2 => deqEv neg x y S2) σ H Q := by
  obtain ⟨ρ, w, S, s, r, h⟩ := h
  simp only [sem] at h
  exact ⟨ρ, w, S, s, r, h⟩
theorem pe_deqD {e e' : Expr} {a b : Ex} (hu : X.A.units + 66 < cLine) (ha : PE X e (xE X Wx (sem Γ a))) (hb : PE X e' (xE X Wx (sem Γ b))) (hm : behindInMarks .Eq e' = false) : PE X (.Compare e [.Eq] [e'] pos) (xE X Wx (sem Γ (.deq false a b))) := PE_imp (pe_cmpR (op_dq hu) ha hb hm) fun σ H Q h => op_two opd_dq (deq_sem h)
theorem pe_dneqD {e e' : Expr} {a b : Ex} (hu : X.A.units + 66 < cLine) (ha : PE X e (xE X Wx (sem Γ a))) (hb : PE X e' (xE X Wx (sem Γ b))) (hm : behindInMarks .NotEq e' = false) : PE X (.Compare e [.NotEq] [e'] pos) (xE X Wx (sem Γ (.deq true a b))) := PE_imp (pe_cmpR (op_dnq hu) ha hb hm) fun σ H Q h => op_two opd_dq (deq_sem h)
theorem pt_deqD {e e' : Expr} {a b : Ex} (hu : X.A.units + 66 < cLine) (ha : PE X e (xE X Wx (sem Γ a))) (hb : PE X e' (xE X Wx (sem Γ b))) (hm : behindInMarks .Eq e' = false) : PT X (.Compare e [.Eq] [e'] pos) (xT X Wx fun ρ S => asBl (sem Γ (.deq false a b) ρ S)) :=
  PT_imp (pt_cmpR (op_dq hu) ha hb hm) fun σ H Q h => tt_of (F := sem Γ (.deq false a b)) (fun σ H Q h => op_two opd_dq (deq_sem h)) h
theorem pt_dneqD {e e' : Expr} {a b : Ex} (hu : X.A.units + 66 < cLine) (ha : PE X e (xE X Wx (sem Γ a))) (hb : PE X e' (xE X Wx (sem Γ b))) (hm : behindInMarks .NotEq e' = false) : PT X (.Compare e [.NotEq] [e'] pos) (xT X Wx fun ρ S => asBl (sem Γ (.deq true a b) ρ S)) :=
  PT_imp (pt_cmpR (op_dnq hu) ha hb hm) fun σ H Q h => tt_of (F := sem Γ (.deq true a b)) (fun σ H Q h => op_two opd_dq (deq_sem h)) h
/-! ### a dict's values -/
theorem pi_valsD {tg e : Expr} {a : Ex} {apos cpos : Pos} (ha : PE X e (xE X Wx (sem Γ a))) (hbase : attributeBase e "values" X.env (eval e X.env) = eval e X.env) (hline : (apos.endLine == cpos.line) = true) : PI X tg (.Call (.Attribute e "values" apos) [] [] cpos) (xI X Wx (semSrc Γ (.vals a))) := PI_imp (pi_values ha hbase hline) fun σ H R ⟨ρ, w, S, s, r, h⟩ => by
  simp only [semSrc] at h
  refine ⟨ρ, w, S, s, r, (After.split s h).imp fun d w1 S1 H1 _ x1 ⟨_, h1⟩ v rv => ?_⟩
  unfold valsOf at h1
  cases d with
  | loc n =>
    simp only at h1
    cases e1 : S1[n]? with
    | none => rw [e1] at h1; exact h1.elim
    | some o =>
      cases o with
      | none => rw [e1] at h1; exact h1.elim
      | some c =>
        cases c with
        | fK ks =>
          rw [e1] at h1
          have s1 := x1.sim
          obtain ⟨o, e2, ws, od, rfl, rk⟩ := s1.cell n _ e1
          cases rv
          refine ⟨w1.m n, od, ws, rfl, e2, After.here s1 h1 _ ?_⟩
          have stand : ∀ w' S' H', Ext X.K X.mg w1 S1 H1 w' S' H' → H' (w1.m n) = some (.frz od (.dK ws)) := fun w' S' H' x' => (x'.fz n ⟨ks, e1⟩).2.trans e2
          refine ⟨fun i w' S' H' hi x' st => ⟨stand w' S' H' x', ?_⟩, fun w' S' H' x' st => ⟨stand w' S' H' x', ?_⟩, fun i w' S' H' y H2 hi x' st hy => ?_⟩
          · rw [List.length_map] at hi; rw [← rk.len]; exact hi
          · rw [List.length_map, rk.len]; exact Nat.le_refl _
          · obtain ⟨rfl, k, ek⟩ := hy
            obtain ⟨d, ed, rd⟩ := rk.getV ek
            refine ⟨d, w', ?_, Ext.refl x'.sim, rd.mono x'.wle⟩
            rw [List.getElem?_map, ed]
            rfl
        | _ => rw [e1] at h1; exact h1.elim
  | dK ks =>
    simp only at h1
    have s1 := x1.sim
    cases rv with
    | dK q rk =>
      obtain ⟨od, q⟩ := q
      rename_i a ws
      have e2 := s1.le _ _ q
      refine ⟨a, od, ws, rfl, e2, After.here s1 h1 _ ?_⟩
      have stand : ∀ w' S' H', Ext X.K X.mg w1 S1 H1 w' S' H' → H' a = some (.frz od (.dK ws)) := fun w' S' H' x' => x'.keep _ _ e2 fun n l z => by
        have := s1.apart n l
        rw [z, q] at this
        cases this
      refine ⟨fun i w' S' H' hi x' st => ⟨stand w' S' H' x', ?_⟩, fun w' S' H' x' st => ⟨stand w' S' H' x', ?_⟩, fun i w' S' H' y H2 hi x' st hy => ?_⟩
      · rw [List.length_map] at hi; rw [← rk.len]; exact hi
      · rw [List.length_map, rk.len]; exact Nat.le_refl _
      · obtain ⟨rfl, k, ek⟩ := hy
        obtain ⟨d, ed, rd⟩ := rk.getV ek
        refine ⟨d, w', ?_, Ext.refl x'.sim, rd.mono x'.wle⟩
        rw [List.getElem?_map, ed]
        rfl
  | _ => exact h1.elim
end

section
variable {K : PySem.W.Frag} {w : Wd}
theorem repF_none {f : Str} : ∀ {fs : List (Str × D)} {ws : List (Str × V)}, RepF K w fs ws → fs.lookup f = none → ws.lookup f = none
  | _, _, .nil, _ => rfl
  | _, _, @RepF.cons _ _ k d' v' ds vs r t, e => by
    rw [List.lookup_cons] at e ⊢
    cases h : f == k with
    | true => rw [h] at e; cases e
    | false => rw [h] at e; exact repF_none t e
theorem repF_put {f : Str} {d : D} {v : V} (rd : Rep K w d v) : ∀ {fs : List (Str × D)} {ws : List (Str × V)}, RepF K w fs ws → RepF K w (putFD f d fs) (putF f v ws)
  | _, _, .nil => .cons rd .nil
  | _, _, @RepF.cons _ _ k d' v' ds vs r t => by
    show RepF K w (if k = f then _ else _) (if k = f then _ else _)
    by_cases h : k = f
    · rw [if_pos h, if_pos h]; exact .cons rd t
    · rw [if_neg h, if_neg h]; exact .cons r (repF_put rd t)
theorem repF_len : ∀ {fs : List (Str × D)} {ws : List (Str × V)}, RepF K w fs ws → fs.length = ws.length
  | _, _, .nil => rfl
  | _, _, .cons _ t => by rw [List.length_cons, List.length_cons, repF_len t]
theorem ins_at {mg : Str → Option Value} {S : Store} {H : Hp} {n : Nat} {c : Str} {fs : List (Str × D)} (s : Sim K mg w S H) (h : S[n]? = some (some (.ins c fs))) :
    ∃ C dx ws, H (w.m n) = some (.ins C dx ws) ∧ mg c = some (.ref C) ∧ InsC K C ∧ RepF K w fs ws := by
  obtain ⟨o, e, C, dx, ws, rfl, hc, hi, r⟩ := s.cell n _ h
  exact ⟨C, dx, ws, e, by rw [← s.fa]; exact hc, hi, r⟩
end

/-! ### a method, a class that is made -/
/-- the method m of the class c: what it means is true of it -/
structure CalleeM (P : Program) (w : World) (K : PySem.W.Frag) (mg : Str → Option Value) (base : Heap) (k : Nat) (c m : Str) (f : Fn) : Prop where
  ex : ∃ (C fa : Addr) (fd : FuncData) (ps : List Str) (n : Nat), FnG P w K mg base k fa fd ps (spF K mg n f) ∧ mg c = some (.ref C) ∧ Meth K C m fa ∧ (m = "__init__" → Mk K C fa ∧ InsC K C) ∧ Binds K fd ps [] ∧ ∀ ds S, f ds S ≠ .bad → ds.length = n
theorem CalleeM.mono {P : Program} {w : World} {K : PySem.W.Frag} {mg : Str → Option Value} {base : Heap} {j k : Nat} {c m : Str} {f : Fn} (h : CalleeM P w K mg base j c m f) (l : j ≤ k) : CalleeM P w K mg base k c m f := by
  obtain ⟨C, fa, fd, ps, n, F, r⟩ := h.ex
  exact ⟨C, fa, fd, ps, n, F.mono l, r⟩
structure MethOk (X : Cx) (c m : Str) (f : Fn) : Prop where
  ex : ∃ k, CalleeM X.prog X.w X.K X.mg X.base k c m f ∧ Clr X.A ∧ Room (k + 1) X.A

section
variable {X : Cx} {Wx : WX} {Γ : Gm} {pos : Pos}
/-! ### e.f -/
theorem pe_fldD {e : Expr} {a : Ex} {f : Str} (ha : PE X e (xE X Wx (sem Γ a))) (hb : attributeBase e f X.env (eval e X.env) = eval e X.env) : PE X (.Attribute e f pos) (xE X Wx (sem Γ (.fld a f))) := PE_imp (pe_fld ha hb) fun σ H Q ⟨ρ, w, S, s, r, h⟩ => by
  simp only [sem] at h
  refine ⟨ρ, w, S, s, r, (After.split s h).imp fun d w1 S1 H1 _ x1 ⟨_, h1⟩ v rv => ?_⟩
  unfold fldEv at h1
  cases d with
  | loc n =>
    simp only at h1
    split at h1
    · rename_i c fs e
      split at h1
      · rename_i hf
        split at h1
        · rename_i d ed
          obtain ⟨C, dx, ws, e1, _, hi, rf⟩ := ins_at x1.sim e
          cases rv
          obtain ⟨v, ev, rv⟩ := repF_look rf ed
          exact ⟨_, C, dx, ws, v, rfl, e1, hi.cl, hi.no f hf, ev, After.here x1.sim h1 _ rv⟩
        · exact h1.elim
      · exact h1.elim
    · exact h1.elim
  | _ => exact h1.elim
/-! ### e.f = v -/
theorem ps_fputD {o e : Expr} {a b : Ex} {f : Str} {p2 : Pos} (ho : PE X o (xE X Wx (sem Γ a))) (he : PE X e (xE X Wx (sem Γ b))) (hs : swapsWith e (some (.Attribute o f p2)) pos.line X.env = pure false) :
    PS X (.Assign [.Attribute o f p2] e pos) (xS X Wx (run Γ (.fput a f b))) := PS_imp (ps_fld ho he hs) fun Dn σ H h => by
  obtain ⟨ρ, w, S, s, r, h⟩ := h
  simp only [run] at h
  refine ⟨ρ, w, S, s, r, (AfterS.split s r h).imp fun d w1 S1 H1 _ x1 ⟨_, h1⟩ v rv => ?_⟩
  have r1 := r.mono x1.wle
  refine ⟨ρ, w1, S1, x1.sim, r1, (AfterS.split x1.sim r1 h1).imp fun x w2 S2 H2 _ x2 ⟨_, h2⟩ xv rx => ?_⟩
  have r2 := r1.mono x2.wle
  have rv2 := rv.mono x2.wle
  unfold fputEv at h2
  cases x with
  | loc n =>
    simp only at h2
    split at h2
    · rename_i c fs e1
      split at h2
      · rename_i hf
        obtain ⟨C, dx, ws, e2, hc, hi, rf⟩ := ins_at x2.sim e1
        cases rx
        refine ⟨_, C, dx, ws, rfl, e2, hi.cl, hi.no f hf.1, by have := repF_len rf; have := hf.2; omega, ?_⟩
        exact h2 _ _ σ (ext_set (c' := .ins c (putFD f d fs)) x2.sim e1 ⟨C, dx, _, rfl, by rw [x2.sim.fa]; exact hc, hi, repF_put rv2 rf⟩) r2
      · exact h2.elim
    · exact h2.elim
  | _ => exact h2.elim
/-! ### o.m(..) -/
def tMethG (C : Addr) (m : Str) (sp : Sp) (E : L2.St → XK) (ta : TE) (t : TA) : TE := fun σ H Q => ta σ H fun x H1 => ∃ a dx fs, x = .ref a ∧ H1 a = some (.ins C dx fs) ∧ fs.lookup m = none ∧ t σ H1 fun vs H2 => sp (x :: vs) H2 Q (E σ)
theorem eval_mcall {o : Expr} {m : Str} {apos pos : Pos} {es : List Expr} {env : Env} (hb : attributeBase o m env (eval o env) = eval o env) (hline : (apos.endLine == pos.line) = true)
    (hfew : methodCallForm (es.length + ([] : List Keyword).length) (backTo pos (starEach es env)) (backToKw pos (keywordEach [] env)) = true) {prog : Program} {w : World} {A : Around} {Q : Value → Shared → Prop} {E : Value → Shared → Prop} {s : Shared}
    (h : wpAny (model prog w) A (eval o env) (fun ov s₁ => wpAny (model prog w) A (getMethod ov m (do return (← importBound o env).getD true)) (fun fx s₂ => wpAny (model prog w) A (callWith pos fx.1 fx.2 (backTo pos (starEach es env)) (backToKw pos (keywordEach [] env))) Q E s₂) E s₁) E s) :
    wpAny (model prog w) A (eval (.Call (.Attribute o m apos) es [] pos) env) Q E s := by
  rw [arm_eval_Call, hb]
  refine wpAny_bind (wpAny_mono h (fun ov s₁ h₁ => ?_) fun _ _ e => e)
  refine wpAny_bind (wpAny_standAt ?_)
  have hpos : methodCallPos true o env apos pos = pure pos := by unfold methodCallPos; simp [hline]
  unfold methodCall
  rw [hfew]
  refine wpAny_bind (wpAny_holding (wpAny_mono h₁ (fun fx s₂ h₂ => ?_) fun _ _ e => e))
  exact wpAny_bind (wpAny_of_eq hpos h₂)
theorem pe_methG {k : Nat} {C f : Addr} {fd : FuncData} {ps : List Str} {sp : Sp} {E : L2.St → XK} {m : Str} {o e : Expr} {es : List Expr} {ta : TE} {t : TA} {apos : Pos} (he : PE X o ta) (c : Cls X.K C) (hm : Meth X.K C m f) (F : FnG X.prog X.w X.K X.mg X.base k f fd ps sp) (hc : Clr X.A) (hr : Room k X.A) (hb : Binds X.K fd ps [])
    (hx : ∀ σ, PassesAt (L2.CX X.prog X.w) X σ (E σ)) (ha : PA X (e :: es) t) (hbase : attributeBase o m X.env (eval o X.env) = eval o X.env) (hline : (apos.endLine == pos.line) = true)
    (hfew : methodCallForm ((e :: es).length + ([] : List Keyword).length) (backTo pos (starEach (e :: es) X.env)) (backToKw pos (keywordEach [] X.env)) = true)
    (hst : starEach (e :: es) X.env = (false, eval e X.env) :: starEach es X.env) (hpl : (backTo pos (starEach es X.env)).any (·.1) = false) :
    PE X (.Call (.Attribute o m apos) (e :: es) [] pos) (tMethG C m sp E ta t) := by
  refine ⟨fun pins s σ H Q I h => ?_⟩
  refine eval_mcall hbase hline hfew (thn (he.run pins s σ H _ I h) fun u s1 ⟨x, H1, I1, rx, a, dx, fs, ex, ea, l, q⟩ => ?_)
  subst ex
  obtain rfl : u = Value.ref a := rx
  refine getmeth_ok I1 ea c hm l ?_
  refine PySem.W.callWith_K (first := [.ref a]) (h₀ := X.base) I.ok.mod.kin hm.kp (thn (ha.run pos pins s1 σ H1 _ I1 q) fun us s2 ⟨vs, H2, I2, r, q2⟩ => ⟨I2.kIn, ?_⟩) hst hpl
  have q3 : sp ((V.ref a :: vs) ++ []) H2 Q (E σ) := by rw [List.append_nil]; exact q2
  exact run_fnG (us := .ref a :: us) (vs := .ref a :: vs) F hc hr hb .nil (hx σ) I2 (.cons rfl r) q3
theorem pe_methG0 {k : Nat} {C f : Addr} {fd : FuncData} {ps : List Str} {sp : Sp} {E : L2.St → XK} {m : Str} {o : Expr} {ta : TE} {apos : Pos} (he : PE X o ta) (c : Cls X.K C) (hm : Meth X.K C m f) (F : FnG X.prog X.w X.K X.mg X.base k f fd ps sp) (hc : Clr X.A) (hr : Room k X.A) (hb : Binds X.K fd ps [])
    (hx : ∀ σ, PassesAt (L2.CX X.prog X.w) X σ (E σ)) (hbase : attributeBase o m X.env (eval o X.env) = eval o X.env) (hline : (apos.endLine == pos.line) = true) :
    PE X (.Call (.Attribute o m apos) [] [] pos) (tMethG C m sp E ta tNil) := by
  refine ⟨fun pins s σ H Q I h => ?_⟩
  refine eval_mcall hbase hline rfl (thn (he.run pins s σ H _ I h) fun u s1 ⟨x, H1, I1, rx, a, dx, fs, ex, ea, l, q⟩ => ?_)
  subst ex
  obtain rfl : u = Value.ref a := rx
  refine getmeth_ok I1 ea c hm l ?_
  have q3 : sp ([V.ref a] ++ []) H1 Q (E σ) := q
  exact PySem.W.callWith_K0 (first := [.ref a]) I1.kIn hm.kp (run_fnG (us := [.ref a]) (vs := [.ref a]) F hc hr hb .nil (hx σ) I1 (.cons rfl .nil) q3)
/-- what a call of a method asks -/
theorem mcall_sem {c m : Str} {j : Nat} {f : Fn} {a : Ex} {as : List Ex} {σ : L2.St} {H : Hp} {Q : VK} {C : Addr} {n : Nat} (hC : X.mg c = some (.ref C)) (hj : Γ.mt[j]? = some f) (hn : ∀ ds S, f ds S ≠ .bad → ds.length = n)
    (h : xE X Wx (sem Γ (.mcall c m j a as)) σ H Q) : tMethG C m (spF X.K X.mg n f) (WE Wx) (xE X Wx (sem Γ a)) (xA X Wx (semL Γ as)) σ H Q := by
  obtain ⟨ρ, w, S, s, r, h⟩ := h
  simp only [sem] at h
  refine ⟨ρ, w, S, s, r, (After.split s h).imp fun d w1 S1 H1 _ x1 ⟨_, h1⟩ v rv => ?_⟩
  cases d with
  | loc i =>
    simp only at h1
    split at h1
    · rename_i c' fs e1
      split at h1
      · rename_i hcm
        obtain ⟨rfl, hl⟩ := hcm
        obtain ⟨C', dx, ws, e2, hc', hi, rf⟩ := ins_at x1.sim e1
        rw [hC] at hc'
        cases hc'
        have rv0 := rv
        cases rv
        refine ⟨_, dx, ws, rfl, e2, repF_none rf hl, ρ, w1, S1, x1.sim, r.mono x1.wle, (After.split x1.sim h1).imp fun ds w2 S2 H2 _ x2 ⟨_, h2⟩ vs rvs => ?_⟩
        rw [hj] at h2
        simp only at h2
        have hne : f (.loc i :: ds) S2 ≠ .bad := fun z => by rw [z] at h2; exact h2
        have rl : Reps X.K w2 (.loc i :: ds) (.ref (w1.m i) :: vs) := .cons (rv0.mono x2.wle) rvs
        refine ⟨by rw [← rl.length]; exact hn _ S2 hne, w2, S2, _, x2.sim, rl, ?_⟩
        cases e : f (.loc i :: ds) S2 with
        | ok d S3 => rw [e] at h2; exact h2
        | exc d S3 => rw [e] at h2; exact h2
        | bad => exact absurd e hne
      · exact h1.elim
    · exact h1.elim
  | _ => exact h1.elim
theorem pe_mcallD {c m : Str} {j : Nat} {f : Fn} {o e : Expr} {es : List Expr} {a b : Ex} {as : List Ex} {apos : Pos} (tk : Takes X Wx) (ok : MethOk X c m f) (ok2 : ∃ C, X.mg c = some (.ref C) ∧ Cls X.K C) (hj : Γ.mt[j]? = some f) (ho : PE X o (xE X Wx (sem Γ a))) (ha : PA X (e :: es) (xA X Wx (semL Γ (b :: as))))
    (hbase : attributeBase o m X.env (eval o X.env) = eval o X.env) (hline : (apos.endLine == pos.line) = true)
    (hfew : methodCallForm ((e :: es).length + ([] : List Keyword).length) (backTo pos (starEach (e :: es) X.env)) (backToKw pos (keywordEach [] X.env)) = true)
    (hst : starEach (e :: es) X.env = (false, eval e X.env) :: starEach es X.env) (hpl : (backTo pos (starEach es X.env)).any (·.1) = false) :
    PE X (.Call (.Attribute o m apos) (e :: es) [] pos) (xE X Wx (sem Γ (.mcall c m j a (b :: as)))) := by
  obtain ⟨k, M, hc, hr⟩ := ok.ex
  obtain ⟨C, fa, fd, ps, n, F, hC, hm, _, hb, hn⟩ := M.ex
  obtain ⟨C2, hC2, hcl⟩ := ok2
  rw [hC] at hC2
  cases hC2
  exact PE_imp (pe_methG ho hcl hm F hc (hr.mono (Nat.le_succ _)) hb (passAt tk) ha hbase hline hfew hst hpl) fun σ H Q h => mcall_sem hC hj hn h
theorem pe_mcall0D {c m : Str} {j : Nat} {f : Fn} {o : Expr} {a : Ex} {apos : Pos} (tk : Takes X Wx) (ok : MethOk X c m f) (ok2 : ∃ C, X.mg c = some (.ref C) ∧ Cls X.K C) (hj : Γ.mt[j]? = some f) (ho : PE X o (xE X Wx (sem Γ a)))
    (hbase : attributeBase o m X.env (eval o X.env) = eval o X.env) (hline : (apos.endLine == pos.line) = true) :
    PE X (.Call (.Attribute o m apos) [] [] pos) (xE X Wx (sem Γ (.mcall c m j a []))) := by
  obtain ⟨k, M, hc, hr⟩ := ok.ex
  obtain ⟨C, fa, fd, ps, n, F, hC, hm, _, hb, hn⟩ := M.ex
  obtain ⟨C2, hC2, hcl⟩ := ok2
  rw [hC] at hC2
  cases hC2
  refine PE_imp (pe_methG0 ho hcl hm F hc (hr.mono (Nat.le_succ _)) hb (passAt tk) hbase hline) fun σ H Q h => ?_
  obtain ⟨ρ, w, S, s, r, h⟩ := mcall_sem hC hj hn h
  refine ⟨ρ, w, S, s, r, h.imp fun d w1 S1 H1 _ x1 h1 v rv => ?_⟩
  obtain ⟨b, dx, fs, ev, e1, l, ρ1, w2, S2, s2, r2, h2⟩ := h1 v rv
  refine ⟨b, dx, fs, ev, e1, l, ?_⟩
  simp only [semL] at h2
  exact After.here s2 h2 _ .nil
/-! ### C(..) -/
def tMakeG (C : Addr) (sp : Sp) (E : L2.St → XK) (t : TA) : TE := fun σ H Q => t σ H fun vs H1 => ∀ x dx, H1 x = none → H1 dx = none → dx ≠ x →
  sp (.ref x :: vs) (upd (upd H1 dx (.own x)) x (.ins C dx [])) (fun v H2 => v = .non ∧ Q (.ref x) H2) (E σ)
theorem run_makeG {k : Nat} {C f : Addr} {fd : FuncData} {ps : List Str} {sp : Sp} {E : XK} {pins : List (Addr × Obj)} {σ : L2.St} {H : Hp} {s : Shared} {Q : VK} {us : List Value} {vs : List V} (M : Mk X.K C f) (F : FnG X.prog X.w X.K X.mg X.base k f fd ps sp) (hc : Clr X.A) (hr : Room (k + 1) X.A) (hb : Binds X.K fd ps [])
    (hx : PassesAt (L2.CX X.prog X.w) X σ E) (I : Inv X pins σ H s) (r : Vals vs us)
    (h : ∀ x dx, H x = none → H dx = none → dx ≠ x → sp (.ref x :: vs) (upd (upd H dx (.own x)) x (.ins C dx [])) (fun v H2 => v = .non ∧ Q (.ref x) H2) E) :
    wpAny (model X.prog X.w) X.A (call (.ref C) us) (EP X pins σ Q) X.xe s := by
  have hq := h (s.heap.objs.size + 1) s.heap.objs.size (I.hok.fresh (Nat.le_succ _)) (I.hok.fresh (Nat.le_refl _)) (Nat.ne_of_lt (Nat.lt_succ_self _))
  have I2 := Inv.made (C := C) I
  have r2 : Vals (V.ref (s.heap.objs.size + 1) :: vs) (Value.ref (s.heap.objs.size + 1) :: us) := .cons rfl r
  have hl : (Value.ref (s.heap.objs.size + 1) :: us ++ []).length = ps.length := by
    have e := r2.length
    rw [F.len _ _ _ _ hq] at e
    rw [List.append_nil]
    exact e.symm
  have hb2 := hb _ (Value.ref (s.heap.objs.size + 1) :: us) I2.kIn hl
  rw [List.append_nil] at hb2
  refine wpAny_call (make_map (f := f) I.kIn M.makes M.init (beq_iff_eq.mp M.fn) (codeAny_mono (F.go _ X.stack _ _ ⟨Value.ref (s.heap.objs.size + 1) :: us, []⟩ (Value.ref (s.heap.objs.size + 1) :: us) _ _ E hc (hr.make C us [])
    (I2.env0.make C us []) hb2 r2 hq) fun r s' hq' => ?_))
  cases r with
  | error e => exact hx pins _ _ e s' I2 hq'
  | ok fl =>
    cases fl with
    | ret u =>
      obtain ⟨v, H', I3, rv, ev, q3⟩ := I2.after hq'
      subst ev
      exact ⟨rv, ⟨V.ref (s.heap.objs.size + 1), H', I3, rfl, q3⟩⟩
    | next => exact False.elim hq'
    | brk => exact False.elim hq'
    | cont => exact False.elim hq'
theorem make_sem {c : Str} {j : Nat} {f : Fn} {as : List Ex} {σ : L2.St} {H : Hp} {Q : VK} {C : Addr} {n : Nat} (hC : X.mg c = some (.ref C)) (hi : InsC X.K C) (hj : Γ.mt[j]? = some f) (hn : ∀ ds S, f ds S ≠ .bad → ds.length = n)
    (h : xE X Wx (sem Γ (.make c j as)) σ H Q) : tMakeG C (spF X.K X.mg n f) (WE Wx) (xA X Wx (semL Γ as)) σ H Q := by
  obtain ⟨ρ, w, S, s, r, h⟩ := h
  simp only [sem] at h
  refine ⟨ρ, w, S, s, r, (After.split s h).imp fun ds w1 S1 H1 _ x1 ⟨_, h1⟩ vs rvs x dx hx hdx ne => ?_⟩
  rw [hj] at h1
  simp only at h1
  have y1 := ext_own (o := .own x) x1.sim hdx
  have hx2 : (upd H1 dx (.own x)) x = none := by rw [upd_ne (Ne.symm ne)]; exact hx
  have hc : CellOk X.K X.mg w1 (upd H1 dx (.own x)) x (.ins c []) (.ins C dx []) := ⟨C, dx, [], rfl, by rw [x1.sim.fa]; exact hC, hi, .nil⟩
  have y2 := ext_cell (c := .ins c []) y1.sim hx2 hc
  have y3 := y1.trans x1.sim y2
  have rl : Rep X.K (w1.cell x) (.loc S1.length) (.ref x) := by
    have := Rep.loc (K := X.K) (w := w1.cell x) (n := S1.length) (by show S1.length < w1.N + 1; rw [x1.sim.len]; exact Nat.lt_succ_self _)
    rwa [x1.sim.len, Wd.cell_m, ← x1.sim.len] at this
  have h2 := After.move x1.sim y3 h1
  have hne : f (.loc S1.length :: ds) (S1 ++ [some (.ins c [])]) ≠ .bad := fun z => by rw [z] at h2; exact h2
  have rls : Reps X.K (w1.cell x) (.loc S1.length :: ds) (.ref x :: vs) := .cons rl (rvs.mono y3.wle)
  refine ⟨by rw [← rls.length]; exact hn _ _ hne, w1.cell x, _, _, y3.sim, rls, ?_⟩
  cases e : f (.loc S1.length :: ds) (S1 ++ [some (.ins c [])]) with
  | ok d S3 =>
    rw [e] at h2
    intro w3 H3 x3 v rv
    cases d with
    | non =>
      cases rv
      refine ⟨rfl, ?_⟩
      exact h2 w3 H3 x3 _ (rl.mono x3.wle)
    | _ => exact h2.elim
  | exc d S3 => rw [e] at h2; exact h2
  | bad => exact absurd e hne
theorem pe_makeD {c : Str} {j : Nat} {f : Fn} {e : Expr} {es : List Expr} {b : Ex} {as : List Ex} {p : Pos} (tk : Takes X Wx) (ok : MethOk X c "__init__" f) (hj : Γ.mt[j]? = some f) (hg : Gl X c) (ha : PA X (e :: es) (xA X Wx (semL Γ (b :: as)))) (hdb : (c == ("__debug__" : Str)) = false)
    (hst : starEach (e :: es) X.env = (false, eval e X.env) :: starEach es X.env) (hpl : (backTo pos (starEach es X.env)).any (·.1) = false) :
    PE X (.Call (.Name c p) (e :: es) [] pos) (xE X Wx (sem Γ (.make c j (b :: as)))) := by
  obtain ⟨k, M, hc, hr⟩ := ok.ex
  obtain ⟨C, fa, fd, ps, n, F, hC, hm, hM, hb, hn⟩ := M.ex
  obtain ⟨mk, hi⟩ := hM rfl
  refine ⟨fun pins s σ H Q I h => ?_⟩
  have h := make_sem hC hi hj hn h
  refine wpAny_Call_Name_kw (ld_glob I hg hC ?_ hdb)
  refine PySem.W.callWith_K (h₀ := X.base) I.ok.mod.kin mk.kp (thn (ha.run pos pins s σ H _ I h) fun us s1 ⟨vs, H1, I1, r, q⟩ => ⟨I1.kIn, ?_⟩) hst hpl
  exact run_makeG mk F hc hr hb (passAt tk σ) I1 r q
theorem pe_make0D {c : Str} {j : Nat} {f : Fn} {p : Pos} (tk : Takes X Wx) (ok : MethOk X c "__init__" f) (hj : Γ.mt[j]? = some f) (hg : Gl X c) (hdb : (c == ("__debug__" : Str)) = false) :
    PE X (.Call (.Name c p) [] [] pos) (xE X Wx (sem Γ (.make c j []))) := by
  obtain ⟨k, M, hc, hr⟩ := ok.ex
  obtain ⟨C, fa, fd, ps, n, F, hC, hm, hM, hb, hn⟩ := M.ex
  obtain ⟨mk, hi⟩ := hM rfl
  refine ⟨fun pins s σ H Q I h => ?_⟩
  obtain ⟨ρ, w, S, s0, r, h⟩ := make_sem hC hi hj hn h
  simp only [semL] at h
  have h := After.here s0 h _ .nil
  refine wpAny_Call_Name_kw (ld_glob I hg hC ?_ hdb)
  exact PySem.W.callWith_K0 I.kIn mk.kp (run_makeG (us := []) mk F hc hr hb (passAt tk σ) I .nil h)
end
end DL

/-! DLmx: an exception that is made and not raised. -/
namespace DL
open PySem PySem.Spec PyProof.Rows L2
section
variable {X : Cx} {Wx : WX} {Γ : Gm} {pos : Pos}
theorem pe_made {e : Expr} {t : L2.St → Hp → XK → Prop} (h : PMk X e t) : PE X e (fun σ H Q => t σ H fun cls d H' => ∀ a, H' a = none → Q (.ref a) (upd H' a (ExV cls d a))) := by
  refine ⟨fun pins s σ H Q I q => wpAny_mono (h pins s σ H _ I q) (fun u s1 hu => ?_) fun _ _ x => x⟩
  obtain ⟨a, oe, vs, sI, H', cls, d, rfl, J, k, hne, ha, hz, hd, h1, na, os, ag, r, q⟩ := hu
  have J2 := J.laidN (h' := s1.heap) (t' := sI.toks) k hne na (exV_ok ha hz hd)
  have J3 : Inv X pins σ (upd H' a (ExV cls d a)) s1 := J2.landed (B := s1.heap) (fun b o e _ => e) (fun _ _ e => e) (fun b o e _ => ⟨o.slots, e⟩) os ag
  exact ⟨.ref a, _, J3, rfl, q a na⟩
theorem pe_mkXD {e : Expr} {es : List Expr} {as : List Ex} {c : Str} {ups : List Str} {ini : Ini} {p : Pos} (mk : MakeOk X c ups ini) (hc : X.calm = true) (tk : Takes X Wx) (hg : Gl X c) (hdb : (c == ("__debug__" : Str)) = false) (ha : PA X (e :: es) (xA X Wx (semL Γ as)))
    (he : starEach (e :: es) X.env = (false, eval e X.env) :: starEach es X.env) (hpl : (backTo pos (starEach es X.env)).any (·.1) = false) : PE X (.Call (.Name c p) (e :: es) [] pos) (xE X Wx (sem Γ (.mkX c ups ini as))) := by
  obtain ⟨k, mk, hr⟩ := mk.ex
  obtain ⟨C, hm, T, kC, eC, tC, h⟩ := mk.ex
  rcases h with ⟨rfl, B, nI, iI, bm, F, q⟩ | ⟨hne, O, fI, fd, ps, i1, i2, F1, hB⟩
  · refine PE_imp (pe_made (pmk_ownA F q hm kC (raises_own eC tC) hg ha hdb he hpl)) fun σ H Q ⟨ρ, w, S, s, r, h⟩ => ?_
    simp only [sem] at h
    refine ⟨ρ, w, S, s, r, (After.split s h).imp fun ds w1 S1 H1 _ x1 ⟨_, h1⟩ vs rvs => ?_⟩
    simp only [Ini.ev] at h1
    split at h1
    · rename_i fs ef
      split at ef
      · rename_i hl
        cases ef
        refine ⟨by rw [← rvs.length, hl, sizeLine_eq]; omega, fun a ha => ?_⟩
        have x2 := ext_put (o := ExV (.ref C) none a) x1.sim ha
        exact h1 _ _ x2 _ (.exn0 (by rw [x2.sim.fa]; exact hm) (by rw [x2.sim.fa]; exact T) upd_same)
      · cases ef
    · exact h1.elim
  · refine PE_imp (pe_made (pmk_oex O i1 i2 F1 hr hB .nil (passes_call (W := Wx) tk (E := fun _ _ _ => False) fun _ _ _ _ z => z.elim) hg hm ha hdb he hpl)) fun σ H Q ⟨ρ, w, S, s, r, h⟩ => ?_
    simp only [sem] at h
    refine ⟨ρ, w, S, s, r, (After.split s h).imp fun ds w1 S1 H1 _ x1 ⟨_, h1⟩ vs rvs => ?_⟩
    cases ini with
    | no => exact absurd rfl hne
    | args fs =>
      simp only [Ini.ev] at h1
      split at h1
      · rename_i gs ef
        split at ef
        · rename_i hl
          cases ef
          have hvl := rvs.length
          refine ⟨by omega, fun a ha => ⟨a, vs ++ [], rfl, upd_same, by rw [List.append_nil]; omega, fun dx hdx hda => ⟨rfl, dx, (fs.zip vs).reverse, upd_same, ?_, ?_, fun b hb => ?_⟩⟩⟩
          · rw [List.append_nil, upd_ne hda, upd_same]
          · rwa [upd_ne hda] at hdx
          · have hd1 : H1 dx = none := by rwa [upd_ne hda] at hdx
            rw [List.append_nil, made_eq ha hda] at hb ⊢
            have x2 := ext_put (o := .xd (fs.zip vs).reverse) x1.sim hd1
            have x3 := ext_put (o := ExV (.ref C) (some dx) b) x2.sim hb
            have hbd : b ≠ dx := fun z => by subst z; rw [upd_same] at hb; cases hb
            refine h1 _ _ (x2.trans x1.sim x3) _ (.exn (by rw [x3.sim.fa]; exact hm) (by rw [x3.sim.fa]; exact T) upd_same ?_ ((repF_zip ((rvs.mono x2.wle).mono x3.wle)).reverse))
            exact x3.wle.g.xd _ _ upd_same
        · cases ef
      · exact h1.elim
    | lst f =>
      simp only [Ini.ev] at h1
      split at h1
      · rename_i gs ef
        split at ef
        · rename_i x
          split at ef
          · rename_i ys ey
            cases ef
            obtain ⟨v, rfl, rx⟩ := reps1 rvs
            obtain ⟨q, us, rfl, hq, rus⟩ := list_at x1.sim rx ey
            refine ⟨by simp, fun a ha => ⟨a, [.ref q], rfl, upd_same, q, us, rfl, (GLe.same (same_up ha)).seqL hq, fun l dx hl hdx hda hla hld => ⟨rfl, dx, [(f, .ref l)], upd_same, ?_, ?_, fun b hb => ?_⟩⟩⟩
            · rw [upd_ne hda, upd_same]
            · rwa [upd_ne hda] at hdx
            · have hl1 : H1 l = none := by rwa [upd_ne hla] at hl
              have hd1 : H1 dx = none := by rwa [upd_ne hda] at hdx
              rw [made_eq2 ha hda hla] at hb ⊢
              have x2 := ext_put (o := .lst us) x1.sim hl1
              have hd2 : upd H1 l (.lst us) dx = none := by rw [upd_ne (Ne.symm hld)]; exact hd1
              have x3 := ext_put (o := .xd [(f, .ref l)]) x2.sim hd2
              have x4 := ext_put (o := ExV (.ref C) (some dx) b) x3.sim hb
              have rl : Rep X.K ((w1.put l (.lst us)).put dx (.xd [(f, .ref l)])) (.lst ys) (.ref l) := Rep.mono x3.wle (.lst upd_same (rus.mono x2.wle))
              exact h1 _ _ ((x2.trans x1.sim x3).trans x1.sim x4) _ (.exn (by rw [x4.sim.fa]; exact hm) (by rw [x4.sim.fa]; exact T) upd_same (x4.wle.g.xd _ _ upd_same) ((RepF.cons rl .nil).mono x4.wle))
          · cases ef
        · cases ef
      · exact h1.elim
end
end DL

/-! DLst: sets of keys made of a list or a tuple: how many, sorted. -/
namespace DL
open PySem PySem.Spec PyProof.Rows L2
/-- the key that an entry holds -/
def keyOfE (e : Int × Value) : Key := match e.2 with
  | .int i _ => .inl i
  | .str x _ => .inr x
  | _ => .inl 0
section
variable {P : Program} {w : World} {h h' : Heap} {a : Addr} {ks : List Key} {K : PySem.W.Frag}
theorem is_keyE {v : Int × Value} {k0 k : Key} (g : (mixKind P w).is k0 v.2 = true) : (mixKind P w).is k v.2 = true ↔ keyOfE v = k := by
  have g' : keyIs k0 v.2 = true := g
  show keyIs k v.2 = true ↔ _
  unfold keyOfE
  rcases keyIs_shape g' with ⟨i, t, rfl, e⟩ | ⟨x, t, rfl, e⟩
  · rw [e]
    constructor
    · intro q
      rcases keyIs_shape q with ⟨j, u, rfl, e2⟩ | ⟨y, u, rfl, e2⟩
      · cases e2; rfl
      · cases e2
    · rintro rfl
      exact keyIs_int i t
  · rw [e]
    constructor
    · intro q
      rcases keyIs_shape q with ⟨j, u, rfl, e2⟩ | ⟨y, u, rfl, e2⟩
      · cases e2
      · cases e2; rfl
    · rintro rfl
      exact keyIs_str x t
/-- the set at a: its members in some order; its table can be walked -/
def SetM (P : Program) (w : World) (h : Heap) (a : Addr) (ks : List Key) : Prop :=
  ∃ (o : Obj) (es : Array (Int × Value)) (ep : Nat) (t : SetTable), h.get? a = some o ∧ o.ExactSet ∧ o.data = .set es ep t ∧ ElemsOf (mixKind P w) es.toList ∧ (es.toList.map keyOfE).Nodup ∧ (es.toList.map keyOfE).Perm ks ∧
    es.size < scanBound ∧ t.fits es.size = true ∧ Ris t.place.toList ∧ (w.params.followText "set-order" = true ∨ t.led = true)
theorem SetM.at (R : SetM P w h a ks) (q : ∀ o, h.get? a = some o → h'.get? a = some o) : SetM P w h' a ks :=
  let ⟨o, es, ep, t, e, r⟩ := R
  ⟨o, es, ep, t, q o e, r⟩
theorem elems_mem {l : List (Int × Value)} (g : ElemsOf (mixKind P w) l) (k : Key) : k ∈ l.map keyOfE ↔ ∃ e ∈ l, (mixKind P w).is k e.2 = true := by
  rw [List.mem_map]
  refine ⟨fun ⟨e, m, q⟩ => ⟨e, m, ?_⟩, fun ⟨e, m, q⟩ => ⟨e, m, ?_⟩⟩
  · obtain ⟨⟨k0, g0, _⟩, _⟩ := g e m
    exact (is_keyE g0).2 q
  · exact (is_keyE q).1 q
theorem any_mem {ks : List Key} {k : Key} : (ks.any fun x => decide (x = k)) = true ↔ k ∈ ks := by
  rw [List.any_eq_true]
  constructor
  · rintro ⟨x, m, q⟩
    have := of_decide_eq_true q
    subst this
    exact m
  · exact fun m => ⟨k, m, decide_eq_true rfl⟩
theorem SetM.len (R : SetM P w h a ks) : ks.length < scanBound := by
  obtain ⟨o, es, ep, t, _, _, _, _, _, p, z, _⟩ := R
  rw [← p.length_eq, List.length_map, Array.length_toList]
  exact z
end
section
variable {P : Program} {w : World} {A : Around} {E : Value → Shared → Prop} {s : Shared} {a : Addr} {ks : List Key}
theorem setM_tail {g : Bool → Sem Unit} (hg : ∀ (b : Bool) (s₁ : Shared) (Q' : Unit → Shared → Prop), Q' () s₁ → wpAny (model P w) A (g b) Q' E s₁)
    {o : Obj} {es es1 : Array (Int × Value)} {ep : Nat} {t t2 : SetTable} (e1 : s.heap.get? a = some o) (e2 : o.ExactSet) (e3 : o.data = .set es ep t)
    (g1 : ElemsOf (mixKind P w) es1.toList) (d1 : (es1.toList.map keyOfE).Nodup) (p1 : (es1.toList.map keyOfE).Perm ks)
    (b1 : es1.size < scanBound) (f2 : t2.fits es1.size = true) (r2 : Ris t2.place.toList) (l2 : w.params.followText "set-order" = true ∨ t2.led = true) {wd : Bool} {R : Option Bool → Shared → Prop}
    (hR : ∀ h', Heap.SameBut a s.heap h' → SetM P w h' a ks → R (some true) { s with heap := h' }) :
    wpAny (model P w) A (do
        storeSet a es1 t2
        if (!wd && t2.tooFull) = true then do
            g (relayAll t2 es1 (SetTable.grown es1.size)).2.2
            storeSet a (relayAll t2 es1 (SetTable.grown es1.size)).1 (relayAll t2 es1 (SetTable.grown es1.size)).2.1
            pure (some true)
          else pure (some true)) R E s := by
  refine wpAny_bind (wpAny_storeSet_of e1 e3 ?_ (fits_of_scanBound b1))
  have q1 := store_at (es' := es1) (t' := t2) e1 e3
  have sb := Heap.SameBut.update s.heap a (Obj.putSet es1 t2)
  split
  · have rp := relayAll_perm t2 es1 (SetTable.grown es1.size)
    have rf := relayAll_fits t2 es1 (SetTable.grown es1.size)
    have rr := relayAll_ris t2 es1 (SetTable.grown es1.size)
    have rl := relayAll_led t2 es1 (SetTable.grown es1.size)
    generalize relayAll t2 es1 (SetTable.grown es1.size) = Z at rp rf rr rl ⊢
    obtain ⟨es2, t3, gave⟩ := Z
    dsimp only at rp rf rr rl ⊢
    have z2 : es2.size = es1.size := by rw [← Array.length_toList, rp.length_eq, Array.length_toList]
    have b2 : es2.size < scanBound := by rw [z2]; exact b1
    refine wpAny_bind (hg _ _ _ (wpAny_bind (wpAny_storeSet_of q1 rfl ?_ (fits_of_scanBound b2))))
    have q2 := store_at (es' := es2) (t' := t3) q1 rfl
    refine wpAny_pure (hR _ (sb.trans (Heap.SameBut.update _ a _)) ⟨_, es2, _, t3, q2, e2, rfl, g1.perm rp, (rp.map keyOfE).nodup_iff.mpr d1, (rp.map keyOfE).trans p1, b2, rf, rr, l2.imp id fun z => by rw [rl]; exact z⟩)
  · exact wpAny_pure (hR _ sb ⟨_, es1, _, t2, q1, e2, rfl, g1, d1, p1, b1, f2, r2, l2⟩)
theorem setM_hashed {k : Key} {u : Value} {Q : Bool → Shared → Prop} (hk : (mixKind P w).is k u = true) (hs : u.scannable = true) (R : SetM P w s.heap a ks) (room : ks.length + 1 < scanBound)
    (hQ : ∀ h' b, Heap.SameBut a s.heap h' → SetM P w h' a (addK ks k) → Q b { s with heap := h' }) :
    wpAny (model P w) A (setAddHashed a u ((mixKind P w).hash k)) Q E s := by
  obtain ⟨o, es, ep, t, e1, e2, e3, g, d, p, b, f, r, l⟩ := R
  unfold setAddHashed setAddHashedIn
  refine wpAny_holding (wpAny_bind (wpAny_setState_of e1 e3 f ?_)); dsimp only
  rw [byScan_of hs b g]; simp only [↓reduceIte]
  unfold setAddByScan
  refine wpAny_bind (wpAny_bind (wpAny_rule (wpAny_bind (wpAny_setScan_of hk e1 e3 f g ?_))))
  cases hfi : List.findIdx? (fun e => (mixKind P w).is k e.2) es.toList with
  | some j =>
    dsimp only
    obtain ⟨hj, pj, _⟩ := List.findIdx?_eq_some_iff_getElem.mp hfi
    have m : k ∈ ks := p.mem_iff.1 ((elems_mem (P := P) (w := w) g k).2 ⟨es.toList[j], List.getElem_mem hj, pj⟩)
    have ek : addK ks k = ks := by unfold addK; rw [if_pos (any_mem.2 m)]
    exact wpAny_pure (wpAny_pure (hQ s.heap _ (Heap.SameBut.refl a s.heap) (by rw [ek]; exact ⟨o, es, ep, t, e1, e2, e3, g, d, p, b, f, r, l⟩)))
  | none =>
    dsimp only
    have nk : k ∉ es.toList.map keyOfE := fun z => by
      obtain ⟨e, m, q⟩ := (elems_mem (P := P) (w := w) g k).1 z
      have c := List.findIdx?_eq_none_iff.mp hfi e m
      rw [q] at c; cases c
    have nm : k ∉ ks := fun z => nk (p.mem_iff.2 z)
    have ek : addK ks k = ks ++ [k] := by unfold addK; rw [if_neg (fun z => nm (any_mem.1 z))]
    have gw : ∀ (b : Bool) {s₁ : Shared} {Q' : Unit → Shared → Prop}, Q' () s₁ → wpAny (model P w) A (match b with | true => rule "set.scan.the-table-gave-way" | false => pure ()) Q' E s₁ :=
      fun b s₁ Q' q => (by cases b <;> first | exact wpAny_pure q | exact wpAny_rule q)
    have np := layNew_perm t es ((mixKind P w).hash k) u
    have nf := layNew_fits t es ((mixKind P w).hash k) u
    have nr := layNew_ris t es ((mixKind P w).hash k) u r
    have nl := layNew_led t es ((mixKind P w).hash k) u
    generalize layNew t es ((mixKind P w).hash k) u = Z at np nf nr nl ⊢
    obtain ⟨es1, t1, wd, gave⟩ := Z
    dsimp only at np nf nr nl ⊢
    rw [Array.toList_push] at np
    have g1 : ElemsOf (mixKind P w) es1.toList := (g.push hk hs).perm np
    have kk : keyOfE ((mixKind P w).hash k, u) = k := (is_keyE (v := ((mixKind P w).hash k, u)) hk).1 hk
    have pk : (es1.toList.map keyOfE).Perm (es.toList.map keyOfE ++ [k]) := by
      have z := np.map keyOfE
      rw [List.map_append, List.map_cons, kk] at z
      exact z
    have d1 : (es1.toList.map keyOfE).Nodup := pk.nodup_iff.mpr (List.nodup_append.mpr ⟨d, by simp, fun x hx y hy e => by
      rw [List.mem_singleton] at hy
      exact nk (by rw [← hy, ← e]; exact hx)⟩)
    have p1 : (es1.toList.map keyOfE).Perm (addK ks k) := by rw [ek]; exact pk.trans (p.append_right _)
    have z1 : es1.size = ks.length + 1 := by rw [← Array.length_toList, ← List.length_map (f := keyOfE), p1.length_eq, ek, List.length_append]; rfl
    have b1 : es1.size < scanBound := by rw [z1]; exact room
    have ld : w.params.followText "set-order" = true ∨ t1.led = true := l.imp id fun z => by rw [nl]; exact z
    refine wpAny_bind (gw _ ?_)
    split
    · refine wpAny_bind ?_
      rw [hashByValue_scannable 8 hs]
      refine wpAny_pure (setM_tail (fun b s₁ Q' q => by cases b <;> first | exact wpAny_pure q | exact wpAny_rule q) e1 e2 e3 g1 d1 p1 b1 ?_ ?_ ?_ fun h' sb z => ?_)
      · first | (split <;> first | exact nf | exact SetTable.fits_plain_off nf) | exact nf
      · first | (split <;> exact nr) | exact nr
      · first | (split <;> exact ld) | exact ld
      · dsimp only; exact wpAny_pure (hQ h' _ sb z)
    · refine wpAny_bind (wpAny_pure ?_); simp only [↓reduceIte]
      exact setM_tail (fun b s₁ Q' q => by cases b <;> first | exact wpAny_pure q | exact wpAny_rule q) e1 e2 e3 g1 d1 p1 b1 nf nr ld fun h' sb z => by dsimp only; exact wpAny_pure (hQ h' _ sb z)
end
/-! ### set(xs) -/
theorem dedup_snoc (ks : List Key) (k : Key) : dedupK (ks ++ [k]) = addK (dedupK ks) k := by
  unfold dedupK
  rw [List.foldl_append]
  rfl
theorem addK_len {ks : List Key} {k : Key} : (addK ks k).length ≤ ks.length + 1 := by
  unfold addK
  split
  · omega
  · simp
theorem dedup_len (ks : List Key) : (dedupK ks).length ≤ ks.length := by
  suffices h : ∀ (l acc : List Key), (l.foldl addK acc).length ≤ acc.length + l.length by
    have := h ks []
    simpa [dedupK] using this
  intro l
  induction l with
  | nil => intro acc; simp
  | cons x r ih =>
    intro acc
    have h1 := ih (addK acc x)
    have h2 := addK_len (ks := acc) (k := x)
    simp only [List.foldl_cons, List.length_cons]
    omega
section
variable {prog : Program} {w : World} {A : Around} {R : Result → Shared → Prop} {I : Addr} {fp wr : List Addr} {G : Array GenState → Array GenState → Prop} {n : Nat} {Pv : Nat → Value → Prop} {St : Nat → Shared → Prop}
theorem loopM (W : WalksS prog w A.in1 I fp wr G n Pv St) (D : Addr) (hD : D ∉ fp) (ks : List Key) (hn : ks.length = n) (hb : n + 1 < scanBound)
    (hval : ∀ i v, Pv i v → ∃ k, ks[i]? = some k ∧ (mixKind prog w).is k v = true ∧ v.scannable = true) :
    ∀ (f i : Nat) (s : Shared), n - i = f → i ≤ n → St i s → SetM prog w s.heap D (dedupK (ks.take i)) →
      (∀ s', Moved (D :: wr) G s s' → SetM prog w s'.heap D (dedupK ks) → R (.ok (.ret .none)) s') → codeAny (model prog w) A (.builtin "set.update.loop" ⟨[.ref D, .ref I], []⟩) R s := by
  have hw : D ∉ wr := fun z => hD (W.sub _ z)
  have sub : ∀ b ∈ wr, b ∈ D :: wr := fun b z => List.mem_cons_of_mem _ z
  intro f
  induction f with
  | zero =>
    intro i s hf hi hst hS hR
    have e : i = n := by omega
    subst e
    refine codeAny_builtin PyProof.Rows.F.entry_set_update_loop ?_
    rw [Around.under_plainId PyProof.Rows.F.plain_set_update_loop _]
    show wpAny _ A.in1 (pyNext (.ref I) >>= _) _ _ s
    refine wpAny_bind (W.done s _ _ hst fun s' hm => wpAny_pure (hR s' (hm.mono sub) ?_))
    rw [← hn, List.take_length] at hS
    exact hS.at fun o e => hm.heap D _ hw e
  | succ f ih =>
    intro i s hf hi hst hS hR
    have lt : i < n := by omega
    refine codeAny_builtin PyProof.Rows.F.entry_set_update_loop ?_
    rw [Around.under_plainId PyProof.Rows.F.plain_set_update_loop _]
    show wpAny _ A.in1 (pyNext (.ref I) >>= _) _ _ s
    refine wpAny_bind (W.item i s _ _ lt hst fun v s' hP hst' hm => ?_)
    obtain ⟨k, ek, is, sc⟩ := hval i v hP
    have hS' := hS.at (h' := s'.heap) fun o e => hm.heap D _ hw e
    show wpAny _ A.in1 (holding [v] (setAdd D v) >>= _) _ _ s'
    refine wpAny_bind (wpAny_holding ?_); unfold setAdd
    refine wpAny_holding (wpAny_bind ((mixKind prog w).pyHash is ?_))
    have rm : (dedupK (ks.take i)).length + 1 < scanBound := by
      have := dedup_len (ks.take i)
      rw [List.length_take] at this
      omega
    refine setM_hashed (s := { s' with toks := s'.toks + 1 }) is sc hS' rm fun h' b sb hN => ?_
    have e1 : ks.take (i + 1) = ks.take i ++ [k] := by
      rw [List.take_succ, ek]; rfl
    rw [← dedup_snoc, ← e1] at hN
    refine wpAny_pure ⟨plainId_quiet PyProof.Rows.F.plain_set_update_loop _, ih (i + 1) _ (by omega) lt (W.frame _ s' _ _ hst' (Nat.le_succ _) fun b hb o e => ?_) hN fun s2 m2 z => hR s2 (Moved.trans W.gtrans ((hm.mono sub).then_heap (Nat.le_succ _) fun b o hb e => ?_) m2) z⟩
    · rw [sb.2 b (fun z : b = D => hD (by rw [← z]; exact hb))]; exact e
    · rw [sb.2 b (fun z : b = D => hb (by rw [z]; exact List.mem_cons_self))]; exact e
end
section
variable {P : Program} {w : World} {A : Around} {E : Value → Shared → Prop} {s : Shared}
/-- an empty set, as iter is to fill it -/
def freshSet (w : World) : Obj := { cls := .type "set", dict := none, data := .set #[] 0 (.fresh 0 0 (!w.params.followText "set-order")) }
theorem code_setL (v : Value) {Q : Value → Shared → Prop} (h : Q (.ref s.heap.objs.size) { s with heap := s.heap.push (freshSet w) }) : codeAny (model P w) A (.call (.builtin "set.__new__") ⟨[.type "set", v], []⟩) (wants Q E) s := by
  refine codeAny_of_tree ?_
  show wpAny _ A.in1 (do checkBuiltinCall "set.__new__" ⟨[.type "set", v], []⟩; again (.builtin "set.__new__" ⟨[.type "set", v], []⟩)) _ _ s
  refine wpAny_bind (wpAny_of_eq (PySem.F.newCall_set_1 v) (wpAny_pure ⟨plainId_quiet F.plain_set_new _, codeAny_builtin F.entry_set_new ?_⟩))
  rw [Around.under_plainId F.plain_set_new _]; unfold Builtin.«set.__new__» Builtin.Frozenset.newClass
  have hsub := sub_set_self
  obtain ⟨hp, gl, dd, tk, os⟩ := s
  dsimp only; wp_walk
  refine wpAny_askSetting (wpAny_pure ?_); dsimp only; simp only [newObj]
  exact wpAny_bind (wpAny_alloc (wpAny_pure (wpAny_pure h)))
theorem setM_fresh {h : Heap} : SetM P w (h.push (freshSet w)) h.objs.size [] :=
  ⟨_, #[], 0, _, Heap.get?_push_size _ rfl, ⟨rfl, rfl, rfl⟩, rfl, (fun e he => by simp at he), (by simp), (by simp), (by decide), (by rfl), List.Pairwise.nil, by
    show _ ∨ (!w.params.followText "set-order") = true
    cases w.params.followText "set-order" <;> simp⟩
set_option maxHeartbeats 3200000 in
theorem call_set_listM {l : Addr} {its : Array Value} {ks : List Key} {Q : Value → Shared → Prop} (hh : A.handled = none) (hl : s.heap.IsList l its) (hn : ks.length = its.size) (hb : ks.length + 1 < scanBound)
    (hv : ∀ (i : Nat) (v : Value), its[i]? = some v → ∃ k, ks[i]? = some k ∧ (mixKind P w).is k v = true ∧ v.scannable = true)
    (h : ∀ (h' : Heap) (tk : Nat), SetM P w h' s.heap.objs.size (dedupK ks) → (∀ b o, s.heap.get? b = some o → h'.get? b = some o) → Q (.ref s.heap.objs.size) { s with heap := h', toks := tk }) :
    wpAny (model P w) A (call (.type "set") [.ref l]) Q E s := by
  obtain ⟨c, tl, hmro⟩ := PySem.F.called_set.mro
  have k1 := PySem.F.called_set.made
  have k2 := PySem.F.called_set.sub
  refine wpAny_call (codeAny_of_tree ?_)
  show wpAny _ _ (callAny (.type "set") _) _ _ _
  refine wpAny_pure ⟨Code.quiet_builtin _ (by decide +kernel), codeAny_builtin PySem.F.entry_type_call ?_⟩
  rw [Around.under_plain (weight_type_call_type "set" [.ref l] []) rfl]
  have k3 := PySem.F.called_set.notType
  have k4 := PySem.F.called_set.canCreate
  have k5 := PySem.F.typeCall_set_1 (.ref l)
  (repeat (any_goals (first | assumption | wp_step)))
  refine codeAny_mono (code_setL (.ref l) (E := E) (Q := fun ob s₁ => ob = .ref s.heap.objs.size ∧ s₁ = { s with heap := s.heap.push (freshSet w) }) ⟨rfl, rfl⟩) fun r s₁ hr => ?_
  match r, hr with
  | .error e, hr => exact hr
  | .ok .next, hr => exact hr.elim
  | .ok .brk, hr => exact hr.elim
  | .ok .cont, hr => exact hr.elim
  | .ok (.ret ob), hr =>
    obtain ⟨rfl, rfl⟩ := hr
    have hS : (s.heap.push (freshSet w)).get? s.heap.objs.size = some (freshSet w) := Heap.get?_push_size _ rfl
    have hT : Shared.TypeIs { s with heap := s.heap.push (freshSet w) } (.ref s.heap.objs.size) "set" := ⟨_, hS, rfl⟩
    have k6 := PySem.F.called_set.init.lookup
    have k7 := PySem.F.called_set.init.bind (.ref s.heap.objs.size)
    (repeat (any_goals (first | assumption | wp_step)))
    refine codeAny_mono (codeAny_call_builtin (R := wants (fun r s₂ => r = .none ∧ ∃ h' tk, s₂ = { s with heap := h', toks := tk } ∧ SetM P w h' s.heap.objs.size (dedupK ks) ∧ (∀ b o, s.heap.get? b = some o → h'.get? b = some o)) E)
      PySem.F.called_set.init.plain PySem.F.entry_set_init (check_set_init_1 hT ?_)) fun r₂ s₂ hr₂ => ?_
    · obtain ⟨⟨ocls, odict, odata, oslots⟩, hol, hcl, nl, hdl⟩ := hl
      simp only at hcl hdl
      subst hcl hdl
      have ol : (s.heap.push (freshSet w)).get? l = some { cls := .type "list", dict := odict, data := .seq its nl, slots := oslots } := Heap.get?_push_of_some _ hol
      have k8 := PySem.F.sub_list_set
      have k9 := PySem.F.sub_list_frozenset
      have k10 : (Value.type "list" == Value.type "dict") = false := by decide
      have hl1 : (s.heap.push (freshSet w)).IsList l its := ⟨_, ol, rfl, nl, rfl⟩
      unfold Builtin.«set.__init__» noKeywords Builtin.Frozenset.updateFrom; generalize hPI : pyIter = PI
      wp_walk
      subst hPI
      refine wpAny_pyIter_list hl1 (wpAny_bind (wpAny_runValue ?_))
      have lt : l < s.heap.objs.size := Heap.lt_size hol
      have hh3 : A.in1.in1.in1.handled = none := by simp [hh]
      have z1 : (s.heap.push (freshSet w)).objs.size = s.heap.objs.size + 1 := Heap.size_push ..
      have n1 : l ≠ (s.heap.push (freshSet w)).objs.size := fun e => by
        have e : @Eq Nat l (s.heap.push (freshSet w)).objs.size := e
        have lt : @LT.lt Nat _ l s.heap.objs.size := lt
        omega
      have n2 : s.heap.objs.size ∉ [(s.heap.push (freshSet w)).objs.size, l] := by
        simp only [List.mem_cons, List.not_mem_nil, or_false, not_or]
        refine ⟨fun e => ?_, fun e => ?_⟩
        · have e : @Eq Nat s.heap.objs.size (s.heap.push (freshSet w)).objs.size := e
          omega
        · have e : @Eq Nat s.heap.objs.size l := e
          have lt : @LT.lt Nat _ l s.heap.objs.size := lt
          omega
      refine loopM ((Walks.list hh3 _ l n1 its).toS) s.heap.objs.size n2 ks hn (by rw [← hn]; exact hb) hv (its.size - 0) 0 _ (by omega) (Nat.zero_le _) ⟨⟨_, Heap.get?_push_size _ rfl, rfl, rfl⟩, (hl1.push _)⟩
        ((setM_fresh (P := P)).at fun o e => Heap.get?_push_of_some _ e) ?_
      intro s' hm hS'
      obtain ⟨h', g', d', tk', os'⟩ := s'
      have eg : g' = s.gens := hm.gens
      have ed : d' = s.drawn := hm.drawn
      have eo : os' = s.os := hm.os
      subst eg ed eo
      refine wpAny_pure (wpAny_pure ⟨rfl, h', tk', rfl, hS', fun b o e => ?_⟩)
      have hb0 := Heap.lt_size e
      refine hm.heap b o ?_ (Heap.get?_push_of_some _ (Heap.get?_push_of_some _ e))
      simp only [List.mem_cons, List.not_mem_nil, or_false, not_or]
      have hb0 : @LT.lt Nat _ b s.heap.objs.size := hb0
      refine ⟨fun e => ?_, fun e => ?_⟩
      · have e : @Eq Nat b s.heap.objs.size := e
        omega
      · have e : @Eq Nat b (s.heap.push (freshSet w)).objs.size := e
        omega
    · match r₂, hr₂ with
      | .error e, hr₂ => exact hr₂
      | .ok .next, hr₂ => exact hr₂.elim
      | .ok .brk, hr₂ => exact hr₂.elim
      | .ok .cont, hr₂ => exact hr₂.elim
      | .ok (.ret r), hr₂ =>
        obtain ⟨rfl, h', tk, rfl, hS', hk'⟩ := hr₂
        (repeat (any_goals (first | assumption | wp_step)))
        exact h _ _ hS' hk'
set_option maxHeartbeats 3200000 in
theorem call_set_tupleM {l : Addr} {its : Array Value} {ks : List Key} {Q : Value → Shared → Prop} (hh : A.handled = none) (hl : s.heap.IsTuple l its) (hn : ks.length = its.size) (hb : ks.length + 1 < scanBound)
    (hv : ∀ (i : Nat) (v : Value), its[i]? = some v → ∃ k, ks[i]? = some k ∧ (mixKind P w).is k v = true ∧ v.scannable = true)
    (h : ∀ (h' : Heap) (tk : Nat), SetM P w h' s.heap.objs.size (dedupK ks) → (∀ b o, s.heap.get? b = some o → h'.get? b = some o) → Q (.ref s.heap.objs.size) { s with heap := h', toks := tk }) :
    wpAny (model P w) A (call (.type "set") [.ref l]) Q E s := by
  obtain ⟨c, tl, hmro⟩ := PySem.F.called_set.mro
  have k1 := PySem.F.called_set.made
  have k2 := PySem.F.called_set.sub
  refine wpAny_call (codeAny_of_tree ?_)
  show wpAny _ _ (callAny (.type "set") _) _ _ _
  refine wpAny_pure ⟨Code.quiet_builtin _ (by decide +kernel), codeAny_builtin PySem.F.entry_type_call ?_⟩
  rw [Around.under_plain (weight_type_call_type "set" [.ref l] []) rfl]
  have k3 := PySem.F.called_set.notType
  have k4 := PySem.F.called_set.canCreate
  have k5 := PySem.F.typeCall_set_1 (.ref l)
  (repeat (any_goals (first | assumption | wp_step)))
  refine codeAny_mono (code_setL (.ref l) (E := E) (Q := fun ob s₁ => ob = .ref s.heap.objs.size ∧ s₁ = { s with heap := s.heap.push (freshSet w) }) ⟨rfl, rfl⟩) fun r s₁ hr => ?_
  match r, hr with
  | .error e, hr => exact hr
  | .ok .next, hr => exact hr.elim
  | .ok .brk, hr => exact hr.elim
  | .ok .cont, hr => exact hr.elim
  | .ok (.ret ob), hr =>
    obtain ⟨rfl, rfl⟩ := hr
    have hS : (s.heap.push (freshSet w)).get? s.heap.objs.size = some (freshSet w) := Heap.get?_push_size _ rfl
    have hT : Shared.TypeIs { s with heap := s.heap.push (freshSet w) } (.ref s.heap.objs.size) "set" := ⟨_, hS, rfl⟩
    have k6 := PySem.F.called_set.init.lookup
    have k7 := PySem.F.called_set.init.bind (.ref s.heap.objs.size)
    (repeat (any_goals (first | assumption | wp_step)))
    refine codeAny_mono (codeAny_call_builtin (R := wants (fun r s₂ => r = .none ∧ ∃ h' tk, s₂ = { s with heap := h', toks := tk } ∧ SetM P w h' s.heap.objs.size (dedupK ks) ∧ (∀ b o, s.heap.get? b = some o → h'.get? b = some o)) E)
      PySem.F.called_set.init.plain PySem.F.entry_set_init (check_set_init_1 hT ?_)) fun r₂ s₂ hr₂ => ?_
    · obtain ⟨⟨ocls, odict, odata, oslots⟩, hol, hcl, nl, hdl⟩ := hl
      simp only at hcl hdl
      subst hcl hdl
      have ol : (s.heap.push (freshSet w)).get? l = some { cls := .type "tuple", dict := odict, data := .seq its nl, slots := oslots } := Heap.get?_push_of_some _ hol
      have k8 := PySem.F.sub_tuple_set
      have k9 := PySem.F.sub_tuple_frozenset
      have k10 : (Value.type "tuple" == Value.type "dict") = false := by decide
      have hl1 : (s.heap.push (freshSet w)).IsTuple l its := ⟨_, ol, rfl, nl, rfl⟩
      unfold Builtin.«set.__init__» noKeywords Builtin.Frozenset.updateFrom; generalize hPI : pyIter = PI
      wp_walk
      subst hPI
      refine wpAny_pyIter_tuple hl1 (wpAny_bind (wpAny_runValue ?_))
      have lt : l < s.heap.objs.size := Heap.lt_size hol
      have hh3 : A.in1.in1.in1.handled = none := by simp [hh]
      have z1 : (s.heap.push (freshSet w)).objs.size = s.heap.objs.size + 1 := Heap.size_push ..
      have n1 : l ≠ (s.heap.push (freshSet w)).objs.size := fun e => by
        have e : @Eq Nat l (s.heap.push (freshSet w)).objs.size := e
        have lt : @LT.lt Nat _ l s.heap.objs.size := lt
        omega
      have n2 : s.heap.objs.size ∉ [(s.heap.push (freshSet w)).objs.size, l] := by
        simp only [List.mem_cons, List.not_mem_nil, or_false, not_or]
        refine ⟨fun e => ?_, fun e => ?_⟩
        · have e : @Eq Nat s.heap.objs.size (s.heap.push (freshSet w)).objs.size := e
          omega
        · have e : @Eq Nat s.heap.objs.size l := e
          have lt : @LT.lt Nat _ l s.heap.objs.size := lt
          omega
      refine loopM ((Walks.tuple hh3 _ l n1 its).toS) s.heap.objs.size n2 ks hn (by rw [← hn]; exact hb) hv (its.size - 0) 0 _ (by omega) (Nat.zero_le _) ⟨⟨_, Heap.get?_push_size _ rfl, rfl, rfl⟩, (hl1.push _)⟩
        ((setM_fresh (P := P)).at fun o e => Heap.get?_push_of_some _ e) ?_
      intro s' hm hS'
      obtain ⟨h', g', d', tk', os'⟩ := s'
      have eg : g' = s.gens := hm.gens
      have ed : d' = s.drawn := hm.drawn
      have eo : os' = s.os := hm.os
      subst eg ed eo
      refine wpAny_pure (wpAny_pure ⟨rfl, h', tk', rfl, hS', fun b o e => ?_⟩)
      have hb0 := Heap.lt_size e
      refine hm.heap b o ?_ (Heap.get?_push_of_some _ (Heap.get?_push_of_some _ e))
      simp only [List.mem_cons, List.not_mem_nil, or_false, not_or]
      have hb0 : @LT.lt Nat _ b s.heap.objs.size := hb0
      refine ⟨fun e => ?_, fun e => ?_⟩
      · have e : @Eq Nat b s.heap.objs.size := e
        omega
      · have e : @Eq Nat b (s.heap.push (freshSet w)).objs.size := e
        omega
    · match r₂, hr₂ with
      | .error e, hr₂ => exact hr₂
      | .ok .next, hr₂ => exact hr₂.elim
      | .ok .brk, hr₂ => exact hr₂.elim
      | .ok .cont, hr₂ => exact hr₂.elim
      | .ok (.ret r), hr₂ =>
        obtain ⟨rfl, h', tk, rfl, hS', hk'⟩ := hr₂
        (repeat (any_goals (first | assumption | wp_step)))
        exact h _ _ hS' hk'
end
/-! ### sorted -/
def keyV : Value → Key
  | .int i _ => .inl i
  | .str x _ => .inr x
  | _ => .inl 0
def encKey : Key → PyData
  | .inl i => .int i
  | .inr x => .str x
theorem alike_keys {ks : List Key} (h : alikeK ks = true) : ∀ a ∈ ks, ∀ b ∈ ks, isInl a = isInl b := by
  intro a ha b hb
  unfold alikeK at h
  rw [Bool.or_eq_true, List.all_eq_true, List.all_eq_true] at h
  rcases h with h | h
  · rw [h a ha, h b hb]
  · have h1 := h a ha
    have h2 := h b hb
    simp only [Bool.not_eq_true'] at h1 h2
    rw [h1, h2]
theorem le_keys {a b : Key} (h : isInl a = isInl b) : PySem.W.dataLe false encKey a b = leK a b := by
  cases a with
  | inl i =>
    cases b with
    | inl j => exact congrFun (congrFun (PySem.W.dataLe_int (fun i : Int => i)) i) j
    | inr y => cases h
  | inr x =>
    cases b with
    | inl j => cases h
    | inr y => exact congrFun (congrFun (PySem.W.dataLe_str (fun x : Str => x)) x) y
theorem sort_keys {ks : List Key} (h : alikeK ks = true) : ks.mergeSort (PySem.W.dataLe false encKey) = sortK ks := by
  have e := List.map_mergeSort (r := PySem.W.dataLe false encKey) (s := leK) (f := id) (l := ks) fun a ha b hb => le_keys (alike_keys h a ha b hb)
  rw [List.map_id, List.map_id] at e
  exact e
theorem alike_perm {a b : List Key} (p : a.Perm b) (h : alikeK b = true) : alikeK a = true := by
  unfold alikeK at h ⊢
  rw [Bool.or_eq_true, List.all_eq_true, List.all_eq_true] at h ⊢
  exact h.imp (fun q x m => q x (p.mem_iff.1 m)) fun q x m => q x (p.mem_iff.1 m)
theorem each_keyV : ∀ {vs : List Value}, (∀ v ∈ vs, ∃ k, keyIs k v = true) → PySem.W.EachIs (fun v k => RelV (kV k) v) vs (vs.map keyV)
  | [], _ => .nil
  | v :: vs, h => by
    refine .cons ?_ (each_keyV fun u m => h u (List.mem_cons_of_mem _ m))
    obtain ⟨k, hk⟩ := h v List.mem_cons_self
    rcases keyIs_shape hk with ⟨i, t, rfl, rfl⟩ | ⟨x, t, rfl, rfl⟩
    · exact ⟨t, rfl⟩
    · exact ⟨t, rfl⟩
theorem each_vals2 : ∀ {out : List Value} {ks : List Key}, PySem.W.EachIs (fun v k => RelV (kV k) v) out ks → Vals (ks.map kV) out
  | _, _, .nil => .nil
  | _, _, .cons a t => .cons a (each_vals2 t)
section
variable {P : Program} {w : World} {A : Around} {E : Value → Shared → Prop} {s : Shared} {a : Addr} {ks : List Key}
theorem sorted_setM {Q : Value → Shared → Prop} (R : SetM P w s.heap a ks) (hh : A.handled = none) (al : alikeK ks = true) (hu : A.units + 4 < cLine)
    (hQ : ∀ (s' : Shared) (p : Addr) (out : Array Value) (c : Nat), (∀ b o, s.heap.get? b = some o → s'.heap.get? b = some o) → s'.gens = s.gens → s'.os = s.os → s.heap.objs.size ≤ p →
      s'.heap.get? p = some (seqObj "list" out c) → Vals ((sortK ks).map kV) out.toList → Q (.ref p) s') : wpAny (model P w) A (call (.builtin "sorted") [.ref a]) Q E s := by
  obtain ⟨o, es, ep, t, e1, e2, e3, g, d, p, b, f, r, l⟩ := R
  refine Calls.call_function_entry kind_sorted plain_sorted entry_sorted (args_sorted1 _) ?_
  unfold Builtin.«sorted»
  refine wpAny_bind (m := checkCount "sorted" 1 1 _) (wpAny_pure (wpAny_bind (collect_set (A := A.in1) hh ⟨o, e1, e2.1, e3⟩ f b r l fun s1 vs k1 hz g1 o1 pm => ?_)))
  have hvl : vs.length = es.size := by rw [pm.length_eq, List.length_map, Array.length_toList]
  have hsh : ∀ v ∈ vs, ∃ k, keyIs k v = true := fun v hv => by
    obtain ⟨e, he, q⟩ := List.mem_map.mp (pm.mem_iff.mp hv)
    obtain ⟨⟨k, hk, _⟩, _⟩ := g e he
    exact ⟨k, by rw [← q]; exact hk⟩
  have pk : (vs.map keyV).Perm ks := by
    have q := pm.map keyV
    rw [List.map_map] at q
    exact q.trans p
  have b' : es.size < 4096 := b
  refine wpAny_bind (wpAny_newList ?_ (by rw [hvl, sizeLine_eq]; omega))
  have hoL : (s1.heap.push (seqObj "list" vs.toArray 0)).get? s1.heap.objs.size = some (seqObj "list" vs.toArray 0) := Heap.get?_push_size _ rfl
  have ee := each_keyV hsh
  have al2 := alike_perm pk al
  refine wpAny_bind (wpAny_holding (PySem.W.list_sort_data (enc := encKey) (s := { s1 with heap := s1.heap.push (seqObj "list" vs.toArray 0) }) hoL ee (ee.mono fun v k q => ?_) ?_ ?_ (by rw [List.length_map, hvl, sizeLine_eq]; omega) (fun k hk => ?_) fun out hl he => ?_))
  · cases k with
    | inl i => obtain ⟨t, rfl⟩ := q; exact ⟨[], .int _ _, by simp⟩
    | inr x => obtain ⟨t, rfl⟩ := q; exact ⟨[], .str _ _, by simp⟩
  · intro d hd d' hd'
    obtain ⟨k, m, rfl⟩ := List.mem_map.1 hd
    obtain ⟨k', m', rfl⟩ := List.mem_map.1 hd'
    have q := alike_keys al2 k m k' m'
    cases k <;> cases k' <;> first | rfl | cases q
  · exact .inr fun d hd => by
      obtain ⟨k, m, rfl⟩ := List.mem_map.1 hd
      cases k <;> exact ⟨by simp [encKey], by simp [encKey]⟩
  · have : A.in1.units = A.units + 1 := rfl
    cases k <;> (simp only [encKey, PyData.depth]; omega)
  · rw [sort_keys al2, sortK_eq pk] at he
    obtain ⟨c, hc⟩ := sortedHeap_at (vs := vs) (out := out.toArray) hoL
    refine wpAny_pure ⟨_, rfl, hQ _ s1.heap.objs.size out.toArray c (fun b u e => ?_) g1 o1 hz hc (by simpa using each_vals2 he)⟩
    have q := k1 b u e
    have lt := Heap.lt_size q
    show (sortedHeap (s1.heap.push (seqObj "list" vs.toArray 0)) s1.heap.objs.size vs out.toArray).get? b = some u
    rw [sortedHeap_old (Nat.ne_of_lt lt) (by rw [size_push']; exact Nat.lt_succ_of_lt lt)]
    exact Heap.get?_push_of_some _ q
end
/-! ### over the layer -/
theorem asKeys_at {K : PySem.W.Frag} {w : Wd} : ∀ {ys : List D} {us : List V} {ks : List Key}, Reps K w ys us → asKeys ys = some ks → us = ks.map kV
  | _, _, _, .nil, e => by
    simp only [asKeys] at e
    cases e
    rfl
  | _, _, _, @Reps.cons _ _ d v ds vs r t, e => by
    unfold asKeys at e
    split at e
    · rename_i k s' e1 e2
      cases e
      rw [keyD_v e1 r, asKeys_at t e2]
      rfl
    · cases e
theorem seqDk_at {K : PySem.W.Frag} {mg : Str → Option Value} {w : Wd} {S : Store} {H : Hp} (s : Sim K mg w S H) {x : D} {v : V} {xs : List D} (r : Rep K w x v) (h : seqD S x = some xs) : ∃ a vs, v = .ref a ∧ (SqL K H a vs ∨ SqT K H a vs) ∧ Reps K w xs vs := by
  unfold seqD at h
  split at h
  · cases h
    cases r with
    | tup q rr => exact ⟨_, _, rfl, .inr (SqT_same s.le q), rr⟩
  · cases h
    cases r with
    | ctp q rr => exact ⟨_, _, rfl, .inr (SqT_same s.le q.sq), rr⟩
  · obtain ⟨a, vs, e, q, rr⟩ := list_at s r h
    exact ⟨a, vs, e, .inl q, rr⟩
theorem vals_keys {P : Program} {w : World} {ks : List Key} {its : List Value} (r : Vals (ks.map kV) its) (i : Nat) (v : Value) (e : its[i]? = some v) : ∃ k, ks[i]? = some k ∧ (mixKind P w).is k v = true ∧ v.scannable = true := by
  have hl := r.length
  rw [List.length_map] at hl
  have hi : i < ks.length := by
    have := (List.getElem?_eq_some_iff.1 e).1
    omega
  obtain ⟨u, hu, ru⟩ := r.get (i := i) (x := kV ks[i]) (by rw [List.getElem?_map, List.getElem?_eq_getElem hi]; rfl)
  rw [e] at hu
  cases hu
  exact ⟨ks[i], List.getElem?_eq_getElem hi, kV_is ru, key_scan ru⟩
section
variable {X : Cx} {Wx : WX} {Γ : Gm}
theorem set_of {a : Expr} {ta : TE} {p2 q : Pos} {pins : List (Addr × Obj)} {σ : L2.St} {H : Hp} {s : Shared} {Q : VK} {B : Value → Shared → Prop} (hc : X.calm = true) (hg2 : Gl X "set") (hm2 : X.mg "set" = none) (ha : PE X a ta)
    (na : starEach [a] X.env = (false, eval a X.env) :: starEach [] X.env) (I : Inv X pins σ H s)
    (h : ta σ H fun x H1 => ∃ (l : Addr) (ks : List Key), x = .ref l ∧ (SqL X.K H1 l (ks.map kV) ∨ SqT X.K H1 l (ks.map kV)) ∧ ks.length < 4000 ∧ Q (.int ks.length) H1 ∧
      ∀ (s1 : Shared) (h' : Heap) (tk : Nat) (b : Addr), Inv X pins σ H1 { s1 with heap := h', toks := tk } → H1 b = none → SetM X.prog X.w h' b (dedupK ks) → B (.ref b) { s1 with heap := h', toks := tk }) :
    wpAny (model X.prog X.w) X.A (eval (.Call (.Name "set" p2) [a] [] q) X.env) B X.xe s := by
  refine Call_ (ld_blt I hg2 hm2 boot_set ?_)
  refine PyProof.Rows.callWith_type1 (PyProof.Rows.args_cons (thn (ha.run pins s σ H _ I h) fun v s1 ⟨x, H1, I1, r1, q1⟩ => PyProof.Rows.args_nil ?_) na) na rfl
  obtain ⟨l, ks, rfl, hq, hl, _, q1⟩ := q1
  cases r1
  have hn : ∀ (its : List Value), Vals (ks.map kV) its → ks.length = its.toArray.size := fun its r => by
    rw [List.size_toArray, ← r.length, List.length_map]
  have hb : ks.length + 1 < scanBound := by unfold scanBound; omega
  have fin : ∀ (h' : Heap) (tk : Nat), SetM X.prog X.w h' s1.heap.objs.size (dedupK ks) → (∀ b o, s1.heap.get? b = some o → h'.get? b = some o) → B (.ref s1.heap.objs.size) { s1 with heap := h', toks := tk } :=
    fun h' tk hS hk => q1 s1 h' tk _ (I1.kept hk) (I1.hok.fresh (Nat.le_refl _)) hS
  rcases hq with hq | hq
  · obtain ⟨its, r, pl, hz⟩ := I1.list hq
    exact call_set_listM (I1.ok.hd hc) pl.isList (hn its r) hb (fun i v e => vals_keys r i v (by simpa using e)) fin
  · obtain ⟨its, r, pl, hz⟩ := I1.tuple hq
    exact call_set_tupleM (I1.ok.hd hc) pl (hn its r) hb (fun i v e => vals_keys r i v (by simpa using e)) fin
theorem pe_lenSetD {a : Expr} {e : Ex} {p p2 q pos : Pos} (hc : X.calm = true) (hg : Gl X "len") (hm : X.mg "len" = none) (hg2 : Gl X "set") (hm2 : X.mg "set" = none) (ha : PE X a (xE X Wx (sem Γ e))) (na : starEach [a] X.env = (false, eval a X.env) :: starEach [] X.env) :
    PE X (.Call (.Name "len" p) [.Call (.Name "set" p2) [a] [] q] [] pos) (xE X Wx (sem Γ (.lenSet e))) := by
  refine ⟨fun pins s σ H Q I ⟨ρ, w, S, sm, r, h⟩ => ?_⟩
  refine Call_ (ld_blt I hg hm boot_len ?_)
  refine PyProof.Rows.callWith_builtin1 (PyProof.Rows.args_cons ?_ rfl) rfl rfl
  simp only [sem] at h
  refine set_of (Q := fun _ _ => True) hc hg2 hm2 ha na I ⟨ρ, w, S, sm, r, (After.split sm h).imp fun d w1 S1 H1 _ x1 ⟨_, h1⟩ v rv => ?_⟩
  split at h1
  · rename_i ys e1
    split at h1
    · rename_i ks e2
      split at h1
      · rename_i hl
        obtain ⟨l, vs, rfl, hq, rr⟩ := seqDk_at x1.sim rv e1
        have ev := asKeys_at rr e2
        subst ev
        refine ⟨l, ks, rfl, hq, hl, trivial, fun s1 h' tk b I2 hb hS => PyProof.Rows.args_nil ?_⟩
        obtain ⟨o, es, ep, t, ho, hex, hd, g, nd, pm, hz, hf, _⟩ := hS
        have en : es.size = (dedupK ks).length := by rw [← pm.length_eq, List.length_map, Array.length_toList]
        have hz' : es.size < 4096 := hz
        refine call_len_set ho hex hd hf (by omega) ⟨.int (dedupK ks).length, H1, I2.tok _, ⟨_, by rw [en]⟩, After.here x1.sim h1 _ (.int _)⟩
      · exact h1.elim
    · exact h1.elim
  · exact h1.elim
theorem dkey_reps {w : Wd} : ∀ (ks : List Key), Reps X.K w (ks.map dKey) (ks.map kV)
  | [] => .nil
  | k :: r => .cons (dKey_rep k) (dkey_reps r)
theorem pe_sortSetD {a : Expr} {e : Ex} {c : Bool} {p p2 q pos : Pos} (hc : X.calm = true) (hu : X.A.units + 70 < cLine) (hg : Gl X "sorted") (hm : X.mg "sorted" = none) (hg2 : Gl X "set") (hm2 : X.mg "set" = none) (ha : PE X a (xE X Wx (sem Γ e))) (na : starEach [a] X.env = (false, eval a X.env) :: starEach [] X.env) :
    PE X (.Call (.Name "sorted" p) [.Call (.Name "set" p2) [a] [] q] [] pos) (xE X Wx (sem Γ (.sortSet c e))) := by
  refine ⟨fun pins s σ H Q I ⟨ρ, w, S, sm, r, h⟩ => ?_⟩
  refine Call_ (ld_blt I hg hm (by decide +kernel : bootBuiltins "sorted" = some (.builtin "sorted")) ?_)
  refine PyProof.Rows.callWith_builtin1 (PyProof.Rows.args_cons ?_ rfl) rfl rfl
  simp only [sem] at h
  refine set_of (Q := fun _ _ => True) hc hg2 hm2 ha na I ⟨ρ, w, S, sm, r, (After.split sm h).imp fun d w1 S1 H1 _ x1 ⟨_, h1⟩ v rv => ?_⟩
  split at h1
  · rename_i ys e1
    split at h1
    · rename_i ks e2
      split at h1
      · rename_i hl
        obtain ⟨l, vs, rfl, hq, rr⟩ := seqDk_at x1.sim rv e1
        have ev := asKeys_at rr e2
        subst ev
        refine ⟨l, ks, rfl, hq, hl.1, trivial, fun s1 h' tk b I2 hb hS => PyProof.Rows.args_nil ?_⟩
        have al : alikeK (dedupK ks) = true := by
          have sub : ∀ (l acc : List Key), (∀ x ∈ acc, x ∈ ks) → (∀ x ∈ l, x ∈ ks) → ∀ x ∈ l.foldl addK acc, x ∈ ks := by
            intro l
            induction l with
            | nil => intro acc h1 _ x m; exact h1 x m
            | cons y t ih =>
              intro acc h1 h2 x m
              refine ih (addK acc y) (fun z mz => ?_) (fun z mz => h2 z (List.mem_cons_of_mem _ mz)) x m
              unfold addK at mz
              split at mz
              · exact h1 z mz
              · rcases List.mem_append.1 mz with mz | mz
                · exact h1 z mz
                · rw [List.mem_singleton.1 mz]; exact h2 y List.mem_cons_self
          have sub := sub ks [] (fun x m => by simp at m) (fun x m => m)
          have h2 := hl.2
          unfold alikeK at h2 ⊢
          rw [Bool.or_eq_true, List.all_eq_true, List.all_eq_true] at h2 ⊢
          exact h2.imp (fun q x m => q x (sub x m)) fun q x m => q x (sub x m)
        refine sorted_setM hS (I2.ok.hd hc) al (by omega) fun s' p out c' kp g o hp hg2 hv => ?_
        have hlen : ((sortK (dedupK ks)).map kV).length ≤ sizeLine := by
          have := dedup_len ks
          rw [List.length_map, (sortK_perm _).length_eq, sizeLine_eq]
          omega
        have hn : H1 p = none := I2.hok.fresh hp
        have J : Inv X pins σ (upd H1 p (.lst ((sortK (dedupK ks)).map kV))) { ({ s1 with heap := h', toks := tk } : Shared) with heap := s'.heap, gens := s'.gens, drawn := s'.drawn, toks := s'.toks } :=
          I2.call (ch := []) (Un.laid kp hp hn) (I2.hok.laid kp hp ⟨hlen, out.toList, c', hv, hg2⟩) (by rw [g]; exact I2.bare) (fun _ z => nomatch z)
        have e : s' = { ({ s1 with heap := h', toks := tk } : Shared) with heap := s'.heap, gens := s'.gens, drawn := s'.drawn, toks := s'.toks } := by
          cases s'
          cases o
          rfl
        rw [e]
        obtain ⟨d2, w', S', q1, q2⟩ := (new_list x1.sim (dkey_reps (sortK (dedupK ks))) h1).2 p hn
        exact ⟨.ref p, _, J, rfl, q1 _ q2⟩
      · exact h1.elim
    · exact h1.elim
  · exact h1.elim
end
end DL

/-! DLi: the text held against the small language: expressions. -/
namespace DL
open PySem PySem.Spec PyProof.Rows L2

section
variable {X : Cx} {Wx : WX} {Γ : Gm} {pos : Pos}
theorem while_sem {c : Ex} {body : List Sm} {Dn : Ends} {σ : L2.St} {H : Hp} (h : xS X Wx (run Γ (.while c body)) Dn σ H) : tWhile (xT X Wx fun ρ S => asBl (sem Γ c ρ S)) (xS X Wx (runs Γ body)) Dn σ H := by
  obtain ⟨ρ, w, S, s, r, h⟩ := h
  simp only [run] at h
  refine ⟨fun m σ2 H2 => ∃ ρ2 w2 S2, Sim X.K X.mg w2 S2 H2 ∧ EnvRep X.K w2 ρ2 σ2 ∧ AfterS X.K X.mg Wx Dn w2 S2 H2 (whileN (fun ρ1 S1 => asBl (sem Γ c ρ1 S1)) (fun ρ1 S1 => runs Γ body ρ1 S1) m ρ2 S2), ⟨fuel, ρ, w, S, s, r, h⟩, ?_⟩
  rintro m σ2 H2 ⟨ρ2, w2, S2, s2, r2, h2⟩
  cases m with
  | zero => exact h2.elim
  | succ m =>
    refine ⟨ρ2, w2, S2, s2, r2, ?_⟩
    rw [whileN] at h2
    cases ec : asBl (sem Γ c ρ2 S2) with
    | ok b S3 =>
      simp only [ec] at h2 ⊢
      intro w3 H3 x3
      have r3 := r2.mono x3.wle
      cases b with
      | true =>
        simp only at h2
        rw [if_pos rfl]
        refine ⟨fun σ' H' => ∃ ρ2 w2 S2, Sim X.K X.mg w2 S2 H' ∧ EnvRep X.K w2 ρ2 σ' ∧ AfterS X.K X.mg Wx Dn w2 S2 H' (whileN (fun ρ1 S1 => asBl (sem Γ c ρ1 S1)) (fun ρ1 S1 => runs Γ body ρ1 S1) m ρ2 S2), fun σ' H' q => ⟨m, Nat.lt_succ_self _, q⟩, ρ2, w3, S3, x3.sim, r3, ?_⟩
        have h3 := AfterS.move s2 x3 h2
        cases er : runs Γ body ρ2 S3 with
        | nx ρ4 S4 =>
          rw [er] at h3
          exact fun w4 H4 σ4 x4 r4 => ⟨ρ4, w4, S4, x4.sim, r4, AfterS.move x3.sim x4 h3⟩
        | ct ρ4 S4 =>
          rw [er] at h3
          exact fun w4 H4 σ4 x4 r4 => ⟨ρ4, w4, S4, x4.sim, r4, AfterS.move x3.sim x4 h3⟩
        | bk ρ4 S4 => rw [er] at h3; exact h3
        | rt d4 S4 => rw [er] at h3; exact h3
        | exc x4 ρ4 S4 => rw [er] at h3; exact h3
        | bad => rw [er] at h3; exact h3
      | false =>
        rw [if_neg (by decide)]
        exact h2 w3 H3 σ2 x3 r3
    | exc x S3 =>
      simp only [ec] at h2 ⊢
      exact fun w' H' cls d y q => h2 w' H' σ2 cls d y (r2.mono y.wle) q
    | bad => rw [ec] at h2; exact h2.elim
theorem ps_whileD {c : Expr} {bs : List Stmt} {t : Ex} {body : List Sm} (hp : PassesOwn (model X.prog X.w) X.A X.env X.xe) (hc : PT X c (xT X Wx fun ρ S => asBl (sem Γ t ρ S))) (hb : PSs X bs (xS X Wx (runs Γ body))) : PS X (.While c bs [] pos) (xS X Wx (run Γ (.while t body))) := PS_imp (ps_while hp hc hb) fun Dn σ H h => while_sem h
end

/-! ### what is known of the text around -/
abbrev Nms := List (Str × NameKind)
structure Gs where
  N : List Str
  tabN : List Str
  globN : List Str
  bn : List Str
  /-- the classes whose exceptions are raised; classes that are named -/
  xs : List (Str × List Str × Ini) := []
  xn : List Str := []
  /-- methods: class, name -/
  ms : List (Str × Str) := []
structure CtxOk (X : Cx) (g : Gs) (names : Nms) (Γ : Gm) (Wx : WX) : Prop where
  N : X.N = g.N
  nd : g.N.Nodup
  loc : ∀ x, names.lookup x = some .local → X.env.scope.names.lookup x = some .local
  cell : ∀ x, names.lookup x = some .cell → X.env.scope.names.lookup x = some .cell
  free : ∀ x, names.lookup x = some .free → X.env.scope.names.lookup x = some .free ∨ X.env.scope.names.lookup x = some .cell
  glob : ∀ x, names.lookup x = some .globalImplicit → X.env.scope.names.lookup x = some .globalImplicit
  fnc : ∀ x, names.lookup x = some .cell → X.fn x = true
  calm : X.calm = true
  hu : X.A.units + 70 < cLine
  gd : Clr X.A
  takes : Takes X Wx
  tab : ∀ (j : Nat) (x : Str) (f : Fn), g.tabN[j]? = some x → Γ.tab[j]? = some f → CallOk X x f
  tabl : g.tabN.length = Γ.tab.length
  gl : ∀ (j : Nat) (x : Str) (d : D), g.globN[j]? = some x → Γ.glob[j]? = some d → ∃ u v, X.mg x = some u ∧ RelV v u ∧ ∀ w, Rep X.K w d v
  gll : g.globN.length = Γ.glob.length
  bn : ∀ x, x ∈ g.bn → X.mg x = none
  xs : ∀ c ups k, (c, ups, k) ∈ g.xs → MakeOk X c ups k
  xn : ∀ c, c ∈ g.xn → ∃ C, X.mg c = some (.ref C)
  mt : ∀ (j : Nat) (c m : Str) (f : Fn), g.ms[j]? = some (c, m) → Γ.mt[j]? = some f → MethOk X c m f ∧ ∃ C, X.mg c = some (.ref C) ∧ Cls X.K C
  mtl : g.ms.length = Γ.mt.length
def visB (names : Nms) (x : Str) : Bool := match names.lookup x with
  | some .local => true
  | some .cell => true
  | some .free => true
  | _ => false
def locB (names : Nms) (x : Str) : Bool := match names.lookup x with
  | some .local => true
  | some .cell => true
  | _ => false
def glB (names : Nms) (x : Str) : Bool := match names.lookup x with
  | some .globalImplicit => true
  | _ => false
def okNm (x : Str) : Bool := !(x == ("__debug__" : Str)) && !(x == ("__classdict__" : Str))
section
variable {X : Cx} {g : Gs} {names : Nms} {Γ : Gm} {Wx : WX}
theorem CtxOk.vis (C : CtxOk X g names Γ Wx) {x : Str} (h : visB names x = true) : Vis X.env.scope x := by
  unfold visB at h
  split at h
  · exact .inl (C.loc x (by assumption))
  · exact .inr (.inl (C.cell x (by assumption)))
  · rcases C.free x (by assumption) with q | q
    · exact .inr (.inr q)
    · exact .inr (.inl q)
  · cases h
theorem CtxOk.locs (C : CtxOk X g names Γ Wx) {x : Str} (h : locB names x = true) : Loc X.env.scope x ∧ (X.fn x = true ∨ X.env.scope.names.lookup x = some .local) := by
  unfold locB at h
  split at h
  · exact ⟨.inl (C.loc x (by assumption)), .inr (C.loc x (by assumption))⟩
  · exact ⟨.inr (C.cell x (by assumption)), .inl (C.fnc x (by assumption))⟩
  · cases h
theorem CtxOk.gls (C : CtxOk X g names Γ Wx) {x : Str} (h : glB names x = true) : Gl X x := by
  unfold glB at h
  split at h
  · exact C.glob x (by assumption)
  · cases h
theorem okNm_1 {x : Str} (h : okNm x = true) : (x == ("__debug__" : Str)) = false := by
  simp only [okNm, Bool.and_eq_true, Bool.not_eq_true'] at h
  exact h.1
theorem okNm_2 {x : Str} (h : okNm x = true) : (x == ("__classdict__" : Str)) = false := by
  simp only [okNm, Bool.and_eq_true, Bool.not_eq_true'] at h
  exact h.2
end

/-! ### the shapes of the text -/
def notStar : Expr → Bool
  | .Starred .. => false
  | _ => true
def notSlice : Expr → Bool
  | .Slice .. => false
  | _ => true
def notSet : Expr → Bool
  | .Set .. => false
  | _ => true
def notComp : Expr → Bool
  | .ListComp .. => false | .SetComp .. => false | .DictComp .. => false
  | _ => true
def notCall0 : Expr → Bool
  | .Call (.Name _ _) [] [] _ => false
  | _ => true
theorem star_of {e : Expr} {es : List Expr} {env : Env} (h : notStar e = true) : starEach (e :: es) env = (false, eval e env) :: starEach es env := by cases e <;> first | rfl | cases h
theorem star_any {es : List Expr} {env : Env} {pos : Pos} (h : es.all notStar = true) : (backTo pos (starEach es env)).any (·.1) = false := by
  induction es with
  | nil => rfl
  | cons e es ih =>
    simp only [List.all_cons, Bool.and_eq_true] at h
    rw [star_of h.1]
    have := ih h.2
    simpa [backTo] using this
theorem star_all {es : List Expr} {env : Env} {pos : Pos} (h : es.all notStar = true) : (backTo pos (starEach es env)).all (fun x => !x.1) = true := by
  induction es with
  | nil => rfl
  | cons e es ih =>
    simp only [List.all_cons, Bool.and_eq_true] at h
    rw [star_of h.1]
    have := ih h.2
    simpa [backTo] using this
theorem plain_of {e : Expr} (h : notSlice e = true) : PlainIx e := by
  intro o i
  cases e <;> first | rfl | cases h
theorem fold_of {e : Expr} {env : Env} (h : notSet e = true) : ∀ x, foldedSetIterable e env x = pure x := by
  intro x
  cases e <;> first | rfl | cases h
theorem mark_of {e : Expr} {op : CmpOp} (h : notSet e = true) : behindInMarks op e = false := by cases e <;> first | rfl | cases h
theorem marks_of {e e' : Expr} {op op' : CmpOp} (h : notSet e' = true) : lastMarks [op, op'] [e, e'] = false := by
  show behindInMarks op' e' = false
  exact mark_of h
theorem base_of {e : Expr} {x : Str} {env : Env} {t : Sem Value} (h : notCall0 e = true) : attributeBase e x env t = t := by
  cases e with
  | Call f as ks p =>
    cases f with
    | Name y q =>
      cases as with
      | nil =>
        cases ks with
        | nil => cases h
        | cons a b => rfl
      | cons a b => rfl
    | _ => rfl
  | _ => rfl
def tstAst : Expr → Bool
  | .Name .. => true | .Call .. => true | .Constant .. => true | .Subscript .. => true | .Attribute .. => true | .BinOp .. => true
  | _ => false
theorem tst_of {e : Expr} {env : Env} (h : tstAst e = true) : ∀ whole, isTrue e env whole = (do let v ← whole; standAt e.pos; holding [v] (truthy v)) := by
  intro w
  cases e <;> first | rfl | cases h

/-! ### held against the text -/
def BOp.is : BOp → Operator → Bool
  | .add, .Add => true | .sub, .Sub => true | .mul, .Mult => true | .fdiv, .FloorDiv => true | .mod, .Mod => true | .pow, .Pow => true | .shl, .LShift => true
  | _, _ => false
def COp.is : COp → CmpOp → Bool
  | .eq, .Eq => true | .ne, .NotEq => true | .lt, .Lt => true | .le, .LtE => true | .gt, .Gt => true | .ge, .GtE => true | .inn, .In => true | .nin, .NotIn => true | .isB, .Is => true | .notB, .IsNot => true
  | _, _ => false
theorem COp.is_op {o : COp} {op : CmpOp} (h : o.is op = true) : op = o.op ∧ o ≠ .isN ∧ o ≠ .notN := by
  cases o <;> cases op <;> first | (cases h; done) | exact ⟨rfl, nofun, nofun⟩
def isIn : CmpOp → Bool
  | .In => true | _ => false
def isNin : CmpOp → Bool
  | .NotIn => true | _ => false
def isEqO : CmpOp → Bool
  | .Eq => true | _ => false
def isNe : CmpOp → Bool
  | .NotEq => true | _ => false
def isTupE : Expr → Bool
  | .Tuple .. => true | _ => false
def isIs : CmpOp → Bool
  | .Is => true | _ => false
def isNot : CmpOp → Bool
  | .IsNot => true | _ => false
def isNonC : Expr → Bool
  | .Constant .none _ _ => true | _ => false
def isNonE : Ex → Bool
  | .non => true | _ => false
mutual
def chkTg (g : Gs) (names : Nms) : Tg → Expr → Bool
  | .nm i => fun a => match a with
    | .Name x _ => decide (g.N[i]? = some x) && locB names x
    | _ => false
  | .tup ts => fun a => match a with
    | .Tuple es _ _ => chkTgs g names ts es
    | _ => false
def chkTgs (g : Gs) (names : Nms) : List Tg → List Expr → Bool
  | [] => fun es => match es with
    | [] => true
    | _ => false
  | t :: ts => fun es => match es with
    | e :: es => notStar e && chkTg g names t e && chkTgs g names ts es
    | _ => false
end
def chkTys (g : Gs) (names : Nms) : List Ty → List Expr → Bool
  | [], [] => true
  | t :: ts, .Name x _ :: es => decide (x = t.nm) && decide (x ∈ g.bn) && glB names x && chkTys g names ts es
  | _, _ => false
def chkCls (g : Gs) (names : Nms) : List Str → List Expr → Bool
  | [], [] => true
  | c :: cs, .Name x _ :: es => decide (x = c) && decide (c ∈ g.xn) && glB names c && okNm c && chkCls g names cs es
  | _, _ => false
def chkKeys : List Key → List (Option Expr) → Bool
  | [], [] => true
  | .inl i :: ks, some (.Constant (.int j) _ _) :: es => decide (i = j) && chkKeys ks es
  | .inr x :: ks, some (.Constant (.str y) _ _) :: es => decide (x = y) && chkKeys ks es
  | _, _ => false
theorem chkKeys_ok : ∀ {ks : List Key} {es : List (Option Expr)}, chkKeys ks es = true → keysE ks es
  | [], [], _ => trivial
  | .inl i :: ks, some (.Constant (.int j) _ _) :: es, h => by
    simp only [chkKeys, Bool.and_eq_true, decide_eq_true_eq] at h
    exact ⟨h.1, chkKeys_ok h.2⟩
  | .inr x :: ks, some (.Constant (.str y) _ _) :: es, h => by
    simp only [chkKeys, Bool.and_eq_true, decide_eq_true_eq] at h
    exact ⟨h.1, chkKeys_ok h.2⟩
mutual
/-- an expression that may be a test -/
def tstOk : Ex → Bool
  | .ife _ _ _ => false
  | .lock _ _ => false
  | .not a => tstOk a
  | .boo _ es => tstOkL es
  | _ => true
def tstOkL : List Ex → Bool
  | [] => true
  | e :: es => tstOk e && tstOkL es
end
mutual
def chkE (g : Gs) (names : Nms) : Ex → Expr → Bool
  | .var i => fun a => match a with
    | .Name x _ => decide (g.N[i]? = some x) && visB names x && okNm x
    | _ => false
  | .frz i => fun a => match a with
    | .Name x _ => decide (g.N[i]? = some x) && visB names x && okNm x
    | _ => false
  | .int n => fun a => match a with
    | .Constant (.int m) _ _ => n == m
    | _ => false
  | .str n => fun a => match a with
    | .Constant (.str m) _ _ => decide (n = m)
    | _ => false
  | .bl n => fun a => match a with
    | .Constant (.bool m) _ _ => n == m
    | _ => false
  | .non => fun a => match a with
    | .Constant .none _ _ => true
    | _ => false
  | .glob j => fun a => match a with
    | .Name x _ => decide (g.globN[j]? = some x) && glB names x && okNm x
    | _ => false
  | .tup es => fun a => match a with
    | .Tuple as _ _ => chkL g names es as
    | _ => false
  | .tupN es => fun a => match a with
    | .Tuple as _ _ => chkL g names es as
    | _ => false
  | .weak e => fun a => tstAst a && chkE g names e a
  | .lst _ es => fun a => match a with
    | .List as _ => chkL g names es as
    | _ => false
  | .bin o _ a b => fun x => match x with
    | .BinOp l op r _ => o.is op && chkE g names a l && chkE g names b r
    | _ => false
  | .neg a => fun x => match x with
    | .UnaryOp .USub e _ => chkE g names a e
    | _ => false
  | .not a => fun x => match x with
    | .UnaryOp .Not e _ => chkE g names a e
    | _ => false
  | .boo k es => fun x => match x with
    | .BoolOp .And as _ => k && chkB g names es as
    | .BoolOp .Or as _ => !k && chkB g names es as
    | _ => false
  | .cmp o a b => fun x => match x with
    | .Compare l [op] [r] _ => chkE g names a l && (match o with
      | .isN => isIs op && isNonC r && isNonE b
      | .notN => isNot op && isNonC r && isNonE b
      | _ => o.is op && notSet r && chkE g names b r)
    | _ => false
  | .chain o o' a b c => fun x => match x with
    | .Compare l [op, op'] [r, r'] _ => o.is op && o'.is op' && notSet r' && chkE g names a l && chkE g names b r && chkE g names c r'
    | _ => false
  | .ife t a b => fun x => match x with
    | .IfExp c e e' _ => tstOk t && chkE g names t c && chkE g names a e && chkE g names b e'
    | _ => false
  | .ix a b => fun x => match x with
    | .Subscript e i _ => notSlice i && chkE g names a e && chkE g names b i
    | _ => false
  | .slc _ a lo hi => fun x => match x with
    | .Subscript e (.Slice l u none _) _ => chkE g names a e && chkO g names lo l && chkO g names hi u
    | _ => false
  | .rev _ a => fun x => match x with
    | .Subscript e (.Slice none none (some (.UnaryOp .USub (.Constant (.int n) _ _) _)) _) _ => decide (n = 1) && chkE g names a e
    | _ => false
  | .call j es => fun x => match x with
    | .Call (.Name y _) as [] _ => decide (g.tabN[j]? = some y) && glB names y && okNm y && !as.isEmpty && chkL g names es as
    | _ => false
  | .dnew => fun a => match a with
    | .Dict [] [] _ => true
    | _ => false
  | .dget a b => fun x => match x with
    | .Subscript e i _ => notSlice i && chkE g names a e && chkE g names b i
    | _ => false
  | .din neg a b => fun x => match x with
    | .Compare l [op] [r] _ => (if neg then isNin op else isIn op) && notSet r && chkE g names a l && chkE g names b r
    | _ => false
  | .dm1 m o a => fun x => match x with
    | .Call (.Attribute oe y apos) [e] [] cpos => decide (y = m.nm) && (apos.endLine == cpos.line) && notCall0 oe && notStar e && chkE g names o oe && chkE g names a e
    | _ => false
  | .dm2 m o a b => fun x => match x with
    | .Call (.Attribute oe y apos) [e, f] [] cpos => decide (y = m.nm) && (apos.endLine == cpos.line) && notCall0 oe && notStar e && notStar f && chkE g names o oe && chkE g names a e && chkE g names b f
    | _ => false
  | .lock _ a => fun x => chkE g names a x
  | .lenSet a => fun x => match x with
    | .Call (.Name y _) [.Call (.Name z _) [e] [] _] [] _ => decide (y = "len") && decide (y ∈ g.bn) && glB names y && decide (z = "set") && decide (z ∈ g.bn) && glB names z && notStar e && chkE g names a e
    | _ => false
  | .sortSet _ a => fun x => match x with
    | .Call (.Name y _) [.Call (.Name z _) [e] [] _] [] _ => decide (y = "sorted") && decide (y ∈ g.bn) && glB names y && decide (z = "set") && decide (z ∈ g.bn) && glB names z && notStar e && chkE g names a e
    | _ => false
  | .mkX c ups k es => fun x => match x with
    | .Call (.Name y _) as [] _ => decide (y = c) && decide ((c, ups, k) ∈ g.xs) && glB names c && okNm c && !as.isEmpty && chkL g names es as
    | _ => false
  | .isX cs a => fun x => match x with
    | .Call (.Name y _) [e, .Name z _] [] _ => decide (y = "isinstance") && decide (y ∈ g.bn) && glB names y && decide (cs = [z]) && decide (z ∈ g.xn) && glB names z && okNm z && notStar e && chkE g names a e
    | .Call (.Name y _) [e, .Tuple as _ _] [] _ => decide (y = "isinstance") && decide (y ∈ g.bn) && glB names y && chkCls g names cs as && decide (cs.length < 100) && notStar e && chkE g names a e
    | _ => false
  | .isVE a => fun x => match x with
    | .Call (.Name y _) [e, .Name z _] [] _ => decide (y = "isinstance") && decide (y ∈ g.bn) && glB names y && decide (z = "ValueError") && decide (z ∈ g.bn) && glB names z && notStar e && chkE g names a e
    | _ => false
  | .attr a f => fun x => match x with
    | .Attribute e y _ => decide (y = f) && notCall0 e && chkE g names a e
    | _ => false
  | .stp _ a b => fun x => match x with
    | .Subscript e (.Slice none none (some es) _) _ => chkE g names a e && chkE g names b es
    | _ => false
  | .ddispE es => fun x => match x with
    | .Dict kes es' _ => decide (0 < es'.length) && decide (es'.length ≤ 15) && (match mixE kes es' with
      | some r => chkL g names es r
      | none => false)
    | _ => false
  | .ddisp ks es => fun x => match x with
    | .Dict kes es' _ => chkKeys ks kes && decide (ks.length = es.length) && decide (0 < ks.length) && decide (ks.length ≤ 15) && chkL g names es es'
    | _ => false
  | .lrng _ lo hi => fun x => match x with
    | .Call (.Name y _) [.Call (.Name z _) [e] [] _] [] _ => decide (y = "list") && decide (y ∈ g.bn) && glB names y && decide (z = "range") && decide (z ∈ g.bn) && glB names z && (match lo with | .int 0 => true | _ => false) && notStar e && chkE g names hi e
    | .Call (.Name y _) [.Call (.Name z _) [e, f] [] _] [] _ => decide (y = "list") && decide (y ∈ g.bn) && glB names y && decide (z = "range") && decide (z ∈ g.bn) && glB names z && notStar e && notStar f && chkE g names lo e && chkE g names hi f
    | _ => false
  | .deq neg a b => fun x => match x with
    | .Compare l [op] [r] _ => (if neg then isNe op else isEqO op) && notSet r && chkE g names a l && chkE g names b r
    | _ => false
  | .fld a f => fun x => match x with
    | .Attribute e y _ => decide (y = f) && notCall0 e && chkE g names a e
    | _ => false
  | .mcall c m j o es => fun x => match x with
    | .Call (.Attribute oe y apos) as [] cpos => decide (y = m) && decide (g.ms[j]? = some (c, m)) && (apos.endLine == cpos.line) && notCall0 oe && decide (as.length < 30) && chkE g names o oe && chkL g names es as
    | _ => false
  | .make c j es => fun x => match x with
    | .Call (.Name y _) as [] _ => decide (y = c) && decide (g.ms[j]? = some (c, ("__init__" : Str))) && glB names y && okNm y && chkL g names es as
    | _ => false
  | .fnv x => fun a => match a with
    | .Name y _ => decide (y = x) && decide (y ∈ g.tabN) && glB names y && okNm y
    | _ => false
  | .callv f js es => fun x => match x with
    | .Call fe as [] _ => notAttr fe && chkE g names f fe && js.all (fun p => decide (g.tabN[p.2]? = some p.1)) && !as.isEmpty && chkL g names es as
    | _ => false
  | .bi f _ es => fun x => match x with
    | .Call (.Name y _) as [] _ => decide (y = f.nm) && decide (y ∈ g.bn) && glB names y && !as.isEmpty && chkL g names es as
    | _ => false
  | .isi t a => fun x => match x with
    | .Call (.Name y _) [e, .Name z _] [] _ => decide (y = "isinstance") && decide (y ∈ g.bn) && glB names y && decide (z = t.nm) && decide (z ∈ g.bn) && glB names z && notStar e && chkE g names a e
    | _ => false
  | .isiT ts a => fun x => match x with
    | .Call (.Name y _) [e, .Tuple as _ _] [] _ => decide (y = "isinstance") && decide (y ∈ g.bn) && glB names y && chkTys g names ts as && !ts.isEmpty && decide (ts.length < 100) && notStar e && chkE g names a e
    | _ => false
  | .meth m o es => fun x => match x with
    | .Call (.Attribute oe y apos) as [] cpos => m.known && decide (y = m.nm) && (apos.endLine == cpos.line) && notCall0 oe && decide (as.length < 30) && chkE g names o oe && chkL g names es as
    | _ => false
  | .lc _ tg src ifs elt own => fun x => match x with
    | .ListComp e [⟨tge, it, ifs', a⟩] scope _ => decide (a = 0) && blkC g.N ⟨.function, names, false, false, []⟩ scope (own.map fun i => (g.N.getD i "", i)) && notSet it && decide (∀ i ∈ tg.slots, i ∈ own) && chkTg g scope.names tg tge && chkSrc g names src tge it && chkIfs g scope.names ifs ifs' && chkE g scope.names elt e
    | _ => false
def chkL (g : Gs) (names : Nms) : List Ex → List Expr → Bool
  | [] => fun as => match as with
    | [] => true
    | _ => false
  | e :: es => fun as => match as with
    | a :: as => notStar a && chkE g names e a && chkL g names es as
    | _ => false
/-- the parts of and, or: one at least -/
def chkB (g : Gs) (names : Nms) : List Ex → List Expr → Bool
  | [] => fun _ => false
  | [e] => fun as => match as with
    | [a] => chkE g names e a
    | _ => false
  | e :: es => fun as => match as with
    | a :: as => chkE g names e a && chkB g names es as
    | _ => false
def chkO (g : Gs) (names : Nms) : Option Ex → Option Expr → Bool
  | none => fun a => a.isNone
  | some e => fun a => match a with
    | some a => chkE g names e a
    | _ => false
def chkIfs (g : Gs) (names : Nms) : List Ex → List Expr → Bool
  | [] => fun as => as.isEmpty
  | [e] => fun as => match as with
    | [a] => tstOk e && chkE g names e a
    | _ => false
  | _ => fun _ => false
def chkSrc (g : Gs) (names : Nms) : Src → Expr → Expr → Bool
  | .ex e => fun _ a => chkE g names e a
  | .keys e => fun _ a => chkE g names e a
  | .vals e => fun _ a => match a with
    | .Call (.Attribute oe y apos) [] [] cpos => decide (y = "values") && (apos.endLine == cpos.line) && notCall0 oe && chkE g names e oe
    | _ => false
  | .rng1 e => fun _ a => match a with
    | .Call (.Name y _) [x] [] _ => decide (y = "range") && decide (y ∈ g.bn) && glB names y && notStar x && chkE g names e x
    | _ => false
  | .rng2 e f => fun _ a => match a with
    | .Call (.Name y _) [x, z] [] _ => decide (y = "range") && decide (y ∈ g.bn) && glB names y && notStar x && notStar z && chkE g names e x && chkE g names f z
    | _ => false
  | .rng3 e f h => fun _ a => match a with
    | .Call (.Name y _) [x, z, u] [] _ => decide (y = "range") && decide (y ∈ g.bn) && glB names y && notStar x && notStar z && notStar u && chkE g names e x && chkE g names f z && chkE g names h u
    | _ => false
  | .enum e => fun t a => match a with
    | .Call (.Name y _) [x] [] _ => isTupE t && decide (y = "enumerate") && decide (y ∈ g.bn) && glB names y && notStar x && chkE g names e x
    | _ => false
  | .zip e f => fun t a => match a with
    | .Call (.Name y _) [x, z] [] _ => isTupE t && decide (y = "zip") && decide (y ∈ g.bn) && glB names y && notStar x && notStar z && chkE g names e x && chkE g names f z
    | _ => false
end
end DL

/-! DLj: what was held against the text is true of the run: expressions. -/
namespace DL
open PySem PySem.Spec PyProof.Rows L2

section
variable {X : Cx} {g : Gs} {names : Nms} {Γ : Gm} {Wx : WX}
theorem asg_one {e : Expr} {es : List Expr} {env : Env} (h : notStar e = true) : assignEach (e :: es) env = (false, assign e env) :: assignEach es env := by cases e <;> first | rfl | cases h
mutual
theorem okTg : ∀ (t : Tg) {a : Expr}, CtxOk X g names Γ Wx → chkTg g names t a = true → PG X a (xG X t)
  | .nm i, a, C, h => by
    simp only [chkTg] at h
    split at h
    · simp only [Bool.and_eq_true, decide_eq_true_eq] at h
      obtain ⟨hl, hf⟩ := C.locs h.2
      exact pg_nmD (by rw [C.N]; exact C.nd) (by rw [C.N]; exact h.1) hl hf
    · cases h
  | .tup ts, a, C, h => by
    simp only [chkTg] at h
    split at h
    · obtain ⟨h1, h2, h3⟩ := okTgs ts C h
      exact pg_tupD C.calm h1 h2 h3
    · cases h
theorem okTgs : ∀ (ts : List Tg) {as : List Expr}, CtxOk X g names Γ Wx → chkTgs g names ts as = true → PGs X as (xGs X ts) ∧ (assignEach as X.env).length = ts.length ∧ (assignEach as X.env).findIdx? (·.1) = none
  | [], as, C, h => by
    simp only [chkTgs] at h
    split at h
    · exact ⟨pgs_nilD, rfl, rfl⟩
    · cases h
  | t :: ts, as, C, h => by
    simp only [chkTgs] at h
    split at h
    · rename_i a as
      simp only [Bool.and_eq_true] at h
      obtain ⟨h1, h2, h3⟩ := okTgs ts C h.2
      have e := asg_one (es := as) (env := X.env) h.1.1
      refine ⟨pgs_consD (okTg t C h.1.2) h1 (by rw [e]; rfl), by rw [e, List.length_cons, h2, List.length_cons], ?_⟩
      rw [e, List.findIdx?_cons]
      simp [h3]
    · cases h
end
theorem lookup_relabel {env : Env} : ∀ {ns : Nms} {x : Str} {k : NameKind}, ns.lookup x = some k →
    (ns.map fun (n, k) => if (k == NameKind.free && env.scope.kind == .function && env.kindOf n == some .cell) then (n, NameKind.cell) else (n, k)).lookup x = some k ∨
      (k = .free ∧ (ns.map fun (n, k) => if (k == NameKind.free && env.scope.kind == .function && env.kindOf n == some .cell) then (n, NameKind.cell) else (n, k)).lookup x = some .cell)
  | [], _, _, h => by simp at h
  | (n, k₀) :: r, x, k, h => by
    have ih := @lookup_relabel env r x k
    show List.lookup x ((if (k₀ == NameKind.free && env.scope.kind == .function && env.kindOf n == some .cell) = true then (n, NameKind.cell) else (n, k₀)) :: _) = _ ∨ (_ ∧ List.lookup x ((if (k₀ == NameKind.free && env.scope.kind == .function && env.kindOf n == some .cell) = true then (n, NameKind.cell) else (n, k₀)) :: _) = _)
    cases hx : x == n with
    | true =>
      simp only [List.lookup_cons, hx] at h
      cases h
      by_cases hc : (k₀ == NameKind.free && env.scope.kind == .function && env.kindOf n == some .cell) = true
      · rw [if_pos hc]
        simp only [Bool.and_eq_true, beq_iff_eq] at hc
        exact .inr ⟨hc.1.1, by simp only [List.lookup_cons, hx]⟩
      · rw [if_neg hc]
        exact .inl (by simp only [List.lookup_cons, hx])
    | false =>
      simp only [List.lookup_cons, hx] at h
      by_cases hc : (k₀ == NameKind.free && env.scope.kind == .function && env.kindOf n == some .cell) = true
      · rw [if_pos hc]; simp only [List.lookup_cons, hx]; exact ih h
      · rw [if_neg hc]; simp only [List.lookup_cons, hx]; exact ih h
theorem ctx_blk (C : CtxOk X g names Γ Wx) (s : Shared) (H : Hp) (scope : Scope) (Ca : Addr) (cl : List (Str × Addr)) (fp : List Addr) : CtxOk (X.blk s H scope (compEnvC scope cl Ca X.env) fp) g scope.names Γ W0 where
  N := C.N
  nd := C.nd
  loc := fun x h => (lookup_relabel (env := X.env) h).elim id fun z => nomatch z.1
  cell := fun x h => (lookup_relabel (env := X.env) h).elim id fun z => nomatch z.1
  free := fun x h => (lookup_relabel (env := X.env) h).imp id fun z => z.2
  glob := fun x h => (lookup_relabel (env := X.env) h).elim id fun z => nomatch z.1
  fnc := fun x h => by
    show (scope.names.lookup x == some .cell) = true
    rw [h]; rfl
  calm := C.calm
  hu := C.hu
  gd := C.gd
  takes := fun u s' ⟨_, _, _, _, _, _, _, _, _, _, _, _, _, _, _, _, z⟩ => z.elim
  tab := fun j x f a b => ⟨(C.tab j x f a b).ex⟩
  tabl := C.tabl
  gl := C.gl
  gll := C.gll
  bn := C.bn
  xs := fun c ups k h => ⟨(C.xs c ups k h).ex⟩
  xn := C.xn
  mt := fun j c m f a b => ⟨⟨(C.mt j c m f a b).1.ex⟩, (C.mt j c m f a b).2⟩
  mtl := C.mtl
theorem PTs_imp {ifs : List Expr} {t t' : TT} (h : PTs X ifs t) (hi : ∀ σ H Q, t' σ H Q → t σ H Q) : PTs X ifs t' := ⟨fun pins s σ H Q I q => h.run pins s σ H Q I (hi _ _ _ q)⟩
theorem get_of_len {α β : Type} {xs : List α} {ys : List β} {j : Nat} {x : α} (h : xs.length = ys.length) (e : xs[j]? = some x) : ∃ y, ys[j]? = some y := by
  have := (List.getElem?_eq_some_iff.mp e).1
  exact ⟨ys[j]'(by omega), by simp [show j < ys.length by omega]⟩
theorem bop_rule {o : BOp} {op : Operator} {c : Bool} (h : o.is op = true) : ∃ r, OpR X (binaryOp op) r ∧ OpD X Wx r (o.ev c) := by
  cases o <;> cases op <;> first
    | (cases h; done)
    | exact ⟨_, op_adds, opd_add⟩
    | exact ⟨_, op_sub, opd_sub⟩
    | exact ⟨_, op_muls, opd_mul⟩
    | exact ⟨_, op_fdivW, opd_fdiv⟩
    | exact ⟨_, op_mod, opd_mod⟩
    | exact ⟨_, op_pow, opd_pow⟩
    | exact ⟨_, op_shl, opd_shl⟩
end

theorem isTys_of {X : Cx} {g : Gs} {names : Nms} {Γ : Gm} {Wx : WX} (C : CtxOk X g names Γ Wx) : ∀ {ts : List Ty} {es : List Expr}, chkTys g names ts es = true → isTys (X := X) ts es
  | [], [], _ => trivial
  | t :: ts, .Name x p :: es, h => by
    simp only [chkTys, Bool.and_eq_true, decide_eq_true_eq] at h
    exact ⟨h.1.1.1, C.gls h.1.2, C.bn _ h.1.1.2, isTys_of C h.2⟩
  | [], e :: es, h => by simp [chkTys] at h
  | t :: ts, [], h => by simp [chkTys] at h
theorem isCls_of {X : Cx} {g : Gs} {names : Nms} {Γ : Gm} {Wx : WX} (C : CtxOk X g names Γ Wx) : ∀ {cs : List Str} {es : List Expr}, chkCls g names cs es = true → isCls X cs es
  | [], [], _ => trivial
  | c :: cs, .Name x p :: es, h => by
    simp only [chkCls, Bool.and_eq_true, decide_eq_true_eq] at h
    exact ⟨h.1.1.1.1, C.gls h.1.1.2, okNm_1 h.1.2, C.xn _ h.1.1.1.2, isCls_of C h.2⟩
  | [], e :: es, h => by simp [chkCls] at h
  | c :: cs, [], h => by simp [chkCls] at h
/-- a value, and as a test -/
def Both (X : Cx) (Wx : WX) (Γ : Gm) (e : Ex) (a : Expr) : Prop := PE X a (xE X Wx (sem Γ e)) ∧ (tstOk e = true → PT X a (xT X Wx fun ρ S => asBl (sem Γ e ρ S)))
theorem both_of {X : Cx} {Wx : WX} {Γ : Gm} {e : Ex} {a : Expr} (h : PE X a (xE X Wx (sem Γ e))) (ht : tstAst a = true) : Both X Wx Γ e a := ⟨h, fun _ => pt_valD h (tst_of ht)⟩
theorem both_no {X : Cx} {Wx : WX} {Γ : Gm} {e : Ex} {a : Expr} (h : PE X a (xE X Wx (sem Γ e))) (ht : ∀ w, isTrue a X.env w = (do let v ← w; standAt a.pos; holding [v] (truthy v))) : Both X Wx Γ e a := ⟨h, fun _ => pt_valD h ht⟩

mutual
theorem okE {g : Gs} {Γ : Gm} : ∀ (e : Ex) {X : Cx} {names : Nms} {Wx : WX} {a : Expr}, CtxOk X g names Γ Wx → chkE g names e a = true → Both X Wx Γ e a
  | .var i, X, names, Wx, a, C, h => by
    simp only [chkE] at h
    split at h
    · simp only [Bool.and_eq_true, decide_eq_true_eq] at h
      exact both_of (pe_varD (by rw [C.N]; exact h.1.1) (C.vis h.1.2) (okNm_1 h.2) (okNm_2 h.2)) rfl
    · cases h
  | .frz i, X, names, Wx, a, C, h => by
    simp only [chkE] at h
    split at h
    · simp only [Bool.and_eq_true, decide_eq_true_eq] at h
      exact both_of (pe_frzD (by rw [C.N]; exact h.1.1) (C.vis h.1.2) (okNm_1 h.2) (okNm_2 h.2)) rfl
    · cases h
  | .int n, X, names, Wx, a, C, h => by
    simp only [chkE] at h
    split at h
    · simp only [beq_iff_eq] at h
      subst h
      exact both_of pe_intD rfl
    · cases h
  | .str n, X, names, Wx, a, C, h => by
    simp only [chkE] at h
    split at h
    · simp only [decide_eq_true_eq] at h
      subst h
      exact both_of pe_strD rfl
    · cases h
  | .bl n, X, names, Wx, a, C, h => by
    simp only [chkE] at h
    split at h
    · simp only [beq_iff_eq] at h
      subst h
      exact both_of pe_blD rfl
    · cases h
  | .non, X, names, Wx, a, C, h => by
    simp only [chkE] at h
    split at h
    · exact both_of pe_nonD rfl
    · cases h
  | .glob j, X, names, Wx, a, C, h => by
    simp only [chkE] at h
    split at h
    · simp only [Bool.and_eq_true, decide_eq_true_eq] at h
      obtain ⟨d, hd⟩ := get_of_len C.gll h.1.1
      obtain ⟨u, v, hm, rv, rd⟩ := C.gl j _ d h.1.1 hd
      exact both_of (pe_globD (C.gls h.1.2) hm rv (okNm_1 h.2) hd rd) rfl
    · cases h
  | .tup es, X, names, Wx, a, C, h => by
    simp only [chkE] at h
    split at h
    · exact both_no (pe_tupD (okL es C h).1) fun _ => rfl
    · cases h
  | .tupN es, X, names, Wx, a, C, h => by
    simp only [chkE] at h
    split at h
    · exact both_no (pe_tupND (okL es C h).1) fun _ => rfl
    · cases h
  | .weak e, X, names, Wx, a, C, h => by
    simp only [chkE, Bool.and_eq_true] at h
    exact both_of (pe_weakD (okE e C h.2).1) h.1
  | .lst c es, X, names, Wx, a, C, h => by
    simp only [chkE] at h
    split at h
    · exact both_no (pe_lstD (okL es C h).1) fun _ => rfl
    · cases h
  | .bin o c a b, X, names, Wx, x, C, h => by
    simp only [chkE] at h
    split at h
    · simp only [Bool.and_eq_true] at h
      obtain ⟨r, h1, h2⟩ := bop_rule (X := X) (Wx := Wx) (c := c) h.1.1
      exact both_of (pe_binD h1 h2 (okE a C h.1.2).1 (okE b C h.2).1) rfl
    · cases h
  | .neg a, X, names, Wx, x, C, h => by
    simp only [chkE] at h
    split at h
    · exact both_no (pe_negD (okE a C h).1) fun _ => rfl
    · cases h
  | .not a, X, names, Wx, x, C, h => by
    simp only [chkE] at h
    split at h
    · exact ⟨pe_notD (okE a C h).1, fun t => pt_notD ((okE a C h).2 (by simpa [tstOk] using t))⟩
    · cases h
  | .boo k es, X, names, Wx, x, C, h => by
    simp only [chkE] at h
    split at h
    · rename_i as p
      simp only [Bool.and_eq_true] at h
      obtain ⟨rfl, h⟩ := h
      have q := okBA es (pos := p) C h
      exact ⟨PE_imp q.1 fun σ H Q ⟨ρ, w, S, s, r, z⟩ => ⟨ρ, w, S, s, r, by simpa only [sem] using z⟩, fun t => PT_imp (q.2 (by simpa [tstOk] using t)).pt fun σ H Q ⟨ρ, w, S, s, r, z⟩ => ⟨ρ, w, S, s, r, by simpa only [sem] using z⟩⟩
    · rename_i as p
      simp only [Bool.and_eq_true, Bool.not_eq_true'] at h
      obtain ⟨rfl, h⟩ := h
      have q := okBO es (pos := p) C h
      exact ⟨PE_imp q.1 fun σ H Q ⟨ρ, w, S, s, r, z⟩ => ⟨ρ, w, S, s, r, by simpa only [sem] using z⟩, fun t => PT_imp (q.2 (by simpa [tstOk] using t)).pt fun σ H Q ⟨ρ, w, S, s, r, z⟩ => ⟨ρ, w, S, s, r, by simpa only [sem] using z⟩⟩
    · cases h
  | .cmp o a b, X, names, Wx, x, C, h => by
    simp only [chkE] at h
    split at h
    · rename_i l op r p
      simp only [Bool.and_eq_true] at h
      obtain ⟨h0, h⟩ := h
      have other : (o.is op && notSet r && chkE g names b r) = true → Both X Wx Γ (.cmp o a b) (.Compare l [op] [r] p) := fun h => by
        simp only [Bool.and_eq_true] at h
        obtain ⟨rfl, h1, h2⟩ := COp.is_op h.1.1
        obtain ⟨r', q1, q2⟩ := cop_rule (X := X) (Wx := Wx) (by have := C.hu; omega) o h1 h2
        have hm := mark_of (op := o.op) h.1.2
        exact ⟨pe_cmpD q1 q2 (okE a C h0).1 (okE b C h.2).1 hm, fun _ => pt_cmpD q1 q2 (okE a C h0).1 (okE b C h.2).1 hm⟩
      cases o with
      | isN =>
        simp only [Bool.and_eq_true] at h
        obtain ⟨⟨h1, h2⟩, h3⟩ := h
        unfold isIs at h1
        split at h1
        · unfold isNonC at h2
          split at h2
          · unfold isNonE at h3
            split at h3
            · exact ⟨pe_isND (okE a C h0).1, fun _ => pt_isND (okE a C h0).1⟩
            · cases h3
          · cases h2
        · cases h1
      | notN =>
        simp only [Bool.and_eq_true] at h
        obtain ⟨⟨h1, h2⟩, h3⟩ := h
        unfold isNot at h1
        split at h1
        · unfold isNonC at h2
          split at h2
          · unfold isNonE at h3
            split at h3
            · exact ⟨pe_notND (okE a C h0).1, fun _ => pt_notND (okE a C h0).1⟩
            · cases h3
          · cases h2
        · cases h1
      | _ => exact other h
    · cases h
  | .chain o o' a b c, X, names, Wx, x, C, h => by
    simp only [chkE] at h
    split at h
    · simp only [Bool.and_eq_true] at h
      obtain ⟨⟨⟨⟨⟨h0, h0'⟩, hm⟩, ha⟩, hb⟩, hc⟩ := h
      obtain ⟨rfl, h1, h2⟩ := COp.is_op h0
      obtain ⟨rfl, h1', h2'⟩ := COp.is_op h0'
      obtain ⟨r, q1, q2⟩ := cop_rule (X := X) (Wx := Wx) (by have := C.hu; omega) o h1 h2
      obtain ⟨r', q1', q2'⟩ := cop_rule (X := X) (Wx := Wx) (by have := C.hu; omega) o' h1' h2'
      exact ⟨pe_chainD q1 q2 q1' q2' (okE a C ha).1 (okE b C hb).1 (okE c C hc).1 (marks_of hm), fun _ => pt_chainD q1 q2 q1' q2' (okE a C ha).1 (okE b C hb).1 (okE c C hc).1 (marks_of hm)⟩
    · cases h
  | .ife t a b, X, names, Wx, x, C, h => by
    simp only [chkE] at h
    split at h
    · simp only [Bool.and_eq_true] at h
      exact ⟨pe_ifeD ((okE t C h.1.1.2).2 h.1.1.1) (okE a C h.1.2).1 (okE b C h.2).1, fun z => by simp [tstOk] at z⟩
    · cases h
  | .ix a b, X, names, Wx, x, C, h => by
    simp only [chkE] at h
    split at h
    · simp only [Bool.and_eq_true] at h
      exact both_of (pe_ixD (okE a C h.1.2).1 (okE b C h.2).1 (plain_of h.1.1)) rfl
    · cases h
  | .slc c a lo hi, X, names, Wx, x, C, h => by
    simp only [chkE] at h
    split at h
    · simp only [Bool.and_eq_true] at h
      exact both_of (pe_slcD (okE a C h.1.1).1 (okO lo C h.1.2) (okO hi C h.2)) rfl
    · cases h
  | .rev c a, X, names, Wx, x, C, h => by
    simp only [chkE] at h
    split at h
    · simp only [Bool.and_eq_true, decide_eq_true_eq] at h
      obtain ⟨rfl, h⟩ := h
      exact both_of (pe_revD (okE a C h).1) rfl
    · cases h
  | .call j es, X, names, Wx, x, C, h => by
    simp only [chkE] at h
    split at h
    · simp only [Bool.and_eq_true, decide_eq_true_eq] at h
      obtain ⟨⟨⟨⟨h1, h2⟩, h3⟩, h4⟩, h5⟩ := h
      obtain ⟨f, hf⟩ := get_of_len C.tabl h1
      obtain ⟨q1, q2⟩ := okL es C h5
      cases es with
      | nil =>
        simp only [chkL] at h5
        split at h5
        · simp at h4
        · cases h5
      | cons e es =>
        rename_i as _
        cases as with
        | nil => simp at h4
        | cons a as =>
          simp only [List.all_cons, Bool.and_eq_true] at q2
          exact both_of (pe_callD C.takes (C.tab j _ f h1 hf) hf (C.gls h2) q1 (okNm_1 h3) (star_of q2.1) (star_any q2.2)) rfl
    · cases h
  | .dnew, X, names, Wx, a, C, h => by
    simp only [chkE] at h
    split at h
    · exact both_no pe_dnewD fun _ => rfl
    · cases h
  | .dget a b, X, names, Wx, x, C, h => by
    simp only [chkE] at h
    split at h
    · simp only [Bool.and_eq_true] at h
      exact both_of (pe_dgetD (by have := C.hu; omega) (okE a C h.1.2).1 (okE b C h.2).1 (plain_of h.1.1)) rfl
    · cases h
  | .din neg a b, X, names, Wx, x, C, h => by
    simp only [chkE] at h
    split at h
    · rename_i l op r p
      simp only [Bool.and_eq_true] at h
      obtain ⟨⟨⟨h0, h1⟩, h2⟩, h3⟩ := h
      have hu : X.A.units + 1 < cLine := by have := C.hu; omega
      cases neg with
      | false =>
        cases op with
        | In => exact ⟨pe_dinD hu (okE a C h2).1 (okE b C h3).1 (mark_of h1), fun _ => pt_dinD hu (okE a C h2).1 (okE b C h3).1 (mark_of h1)⟩
        | _ => cases h0
      | true =>
        cases op with
        | NotIn => exact ⟨pe_dninD hu (okE a C h2).1 (okE b C h3).1 (mark_of h1), fun _ => pt_dninD hu (okE a C h2).1 (okE b C h3).1 (mark_of h1)⟩
        | _ => cases h0
    · cases h
  | .deq neg a b, X, names, Wx, x, C, h => by
    simp only [chkE] at h
    split at h
    · rename_i l op r p
      simp only [Bool.and_eq_true] at h
      obtain ⟨⟨⟨h0, h1⟩, h2⟩, h3⟩ := h
      have hu : X.A.units + 66 < cLine := by have := C.hu; omega
      cases neg with
      | false =>
        cases op with
        | Eq => exact ⟨pe_deqD hu (okE a C h2).1 (okE b C h3).1 (mark_of h1), fun _ => pt_deqD hu (okE a C h2).1 (okE b C h3).1 (mark_of h1)⟩
        | _ => cases h0
      | true =>
        cases op with
        | NotEq => exact ⟨pe_dneqD hu (okE a C h2).1 (okE b C h3).1 (mark_of h1), fun _ => pt_dneqD hu (okE a C h2).1 (okE b C h3).1 (mark_of h1)⟩
        | _ => cases h0
    · cases h
  | .dm1 m o a, X, names, Wx, x, C, h => by
    simp only [chkE] at h
    split at h
    · rename_i oe y apos e cpos
      simp only [Bool.and_eq_true, decide_eq_true_eq] at h
      obtain ⟨⟨⟨⟨⟨rfl, h2⟩, h3⟩, h4⟩, h5⟩, h6⟩ := h
      refine both_of (pe_dm1D (by have := C.hu; omega) (okE o C h5).1 (okE a C h6).1 ⟨base_of h3, ?_, h2, ?_⟩) rfl
      · rw [Bool.and_eq_true, Bool.and_eq_true]
        exact ⟨⟨star_all (by simp [h4]), rfl⟩, rfl⟩
      · rw [star_of h4]; rfl
    · cases h
  | .dm2 m o a b, X, names, Wx, x, C, h => by
    simp only [chkE] at h
    split at h
    · rename_i oe y apos e f cpos
      simp only [Bool.and_eq_true, decide_eq_true_eq] at h
      obtain ⟨⟨⟨⟨⟨⟨⟨rfl, h2⟩, h3⟩, h4⟩, h5⟩, h6⟩, h7⟩, h8⟩ := h
      refine both_of (pe_dm2D (by have := C.hu; omega) (okE o C h6).1 (okE a C h7).1 (okE b C h8).1 ⟨base_of h3, ?_, h2, ?_⟩) rfl
      · rw [Bool.and_eq_true, Bool.and_eq_true]
        exact ⟨⟨star_all (by simp [h4, h5]), rfl⟩, rfl⟩
      · rw [star_of h4, star_of h5]; rfl
    · cases h
  | .lock d a, X, names, Wx, x, C, h => by
    simp only [chkE] at h
    exact ⟨pe_lockD (okE a C h).1, fun z => by simp [tstOk] at z⟩
  | .lenSet b, X, names, Wx, a, C, h => by
    simp only [chkE] at h
    split at h
    · simp only [Bool.and_eq_true, decide_eq_true_eq] at h
      obtain ⟨⟨⟨⟨⟨⟨⟨h1, h2⟩, h3⟩, h4⟩, h5⟩, h6⟩, h7⟩, h8⟩ := h
      subst h1 h4
      exact both_of (pe_lenSetD C.calm (C.gls h3) (C.bn _ h2) (C.gls h6) (C.bn _ h5) (okE b C h8).1 (star_of h7)) rfl
    · cases h
  | .sortSet c b, X, names, Wx, a, C, h => by
    simp only [chkE] at h
    split at h
    · simp only [Bool.and_eq_true, decide_eq_true_eq] at h
      obtain ⟨⟨⟨⟨⟨⟨⟨h1, h2⟩, h3⟩, h4⟩, h5⟩, h6⟩, h7⟩, h8⟩ := h
      subst h1 h4
      exact both_of (pe_sortSetD C.calm C.hu (C.gls h3) (C.bn _ h2) (C.gls h6) (C.bn _ h5) (okE b C h8).1 (star_of h7)) rfl
    · cases h
  | .mkX c ups k es, X, names, Wx, a, C, h => by
    simp only [chkE] at h
    split at h
    · rename_i y p as pos
      simp only [Bool.and_eq_true, decide_eq_true_eq] at h
      obtain ⟨⟨⟨⟨⟨h1, h2⟩, h3⟩, h4⟩, h5⟩, h6⟩ := h
      subst h1
      obtain ⟨q1, q2⟩ := okL es C h6
      cases as with
      | nil => cases h5
      | cons a as =>
        simp only [List.all_cons, Bool.and_eq_true] at q2
        exact both_of (pe_mkXD (C.xs _ _ _ h2) C.calm C.takes (C.gls h3) (okNm_1 h4) q1 (star_of q2.1) (star_any q2.2)) rfl
    · cases h
  | .isX cs b, X, names, Wx, a, C, h => by
    simp only [chkE] at h
    split at h
    · simp only [Bool.and_eq_true, decide_eq_true_eq] at h
      obtain ⟨⟨⟨⟨⟨⟨⟨⟨h1, h2⟩, h3⟩, h4⟩, h5⟩, h6⟩, h7⟩, h8⟩, h9⟩ := h
      subst h1 h4
      obtain ⟨C', hC⟩ := C.xn _ h5
      exact both_of (pe_isXD (okE b C h9).1 (C.gls h3) (C.bn _ h2) (C.gls h6) (okNm_1 h7) hC (star_of h8)) rfl
    · simp only [Bool.and_eq_true, decide_eq_true_eq] at h
      obtain ⟨⟨⟨⟨⟨⟨h1, h2⟩, h3⟩, h4⟩, h5⟩, h6⟩, h7⟩ := h
      subst h1
      exact both_of (pe_isXTD (okE b C h7).1 (C.gls h3) (C.bn _ h2) (by rw [sizeLine_eq]; omega) (isCls_of C h4) (star_of h6)) rfl
    · cases h
  | .isVE b, X, names, Wx, a, C, h => by
    simp only [chkE] at h
    split at h
    · simp only [Bool.and_eq_true, decide_eq_true_eq] at h
      obtain ⟨⟨⟨⟨⟨⟨⟨h1, h2⟩, h3⟩, h4⟩, h5⟩, h6⟩, h7⟩, h8⟩ := h
      subst h1 h4
      exact both_of (pe_isVED (okE b C h8).1 (C.gls h3) (C.bn _ h2) (C.gls h6) (C.bn _ h5) (star_of h7)) rfl
    · cases h
  | .attr b f, X, names, Wx, a, C, h => by
    simp only [chkE] at h
    split at h
    · simp only [Bool.and_eq_true, decide_eq_true_eq] at h
      obtain ⟨⟨h1, h2⟩, h3⟩ := h
      subst h1
      exact both_of (pe_attrD (okE b C h3).1 (base_of h2)) rfl
    · cases h
  | .stp c a b, X, names, Wx, z, C, h => by
    simp only [chkE] at h
    split at h
    · simp only [Bool.and_eq_true] at h
      exact both_of (pe_stpD (okE a C h.1).1 (okE b C h.2).1) rfl
    · cases h
  | .ddispE es, X, names, Wx, a, C, h => by
    simp only [chkE] at h
    split at h
    · simp only [Bool.and_eq_true, decide_eq_true_eq] at h
      obtain ⟨⟨h1, h2⟩, h3⟩ := h
      split at h3
      · rename_i r hr
        exact both_no (pe_ddispED (pks_of hr (okPEs es C h3)) h1 h2) fun _ => rfl
      · cases h3
    · cases h
  | .ddisp ks es, X, names, Wx, a, C, h => by
    simp only [chkE] at h
    split at h
    · simp only [Bool.and_eq_true, decide_eq_true_eq] at h
      obtain ⟨⟨⟨⟨h1, h2⟩, h3⟩, h4⟩, h5⟩ := h
      exact both_no (pe_ddispD (chkKeys_ok h1) (okPEs es C h5) h2 h3 h4) fun _ => rfl
    · cases h
  | .lrng c lo hi, X, names, Wx, a, C, h => by
    simp only [chkE] at h
    split at h
    · simp only [Bool.and_eq_true, decide_eq_true_eq] at h
      obtain ⟨⟨⟨⟨⟨⟨⟨⟨h1, h2⟩, h3⟩, h4⟩, h5⟩, h6⟩, h7⟩, h8⟩, h9⟩ := h
      subst h1 h4
      split at h7
      · exact both_of (pe_lrng1D C.calm (C.gls h3) (C.bn _ h2) (C.gls h6) (C.bn _ h5) (okE hi C h9).1 (star_of h8)) rfl
      · cases h7
    · simp only [Bool.and_eq_true, decide_eq_true_eq] at h
      obtain ⟨⟨⟨⟨⟨⟨⟨⟨⟨h1, h2⟩, h3⟩, h4⟩, h5⟩, h6⟩, h7⟩, h8⟩, h9⟩, h10⟩ := h
      subst h1 h4
      exact both_of (pe_lrng2D C.calm (C.gls h3) (C.bn _ h2) (C.gls h6) (C.bn _ h5) (okE lo C h9).1 (okE hi C h10).1 (star_of h7) (star_of h8) (star_any (by simp [h8]))) rfl
    · cases h
  | .fld b f, X, names, Wx, a, C, h => by
    simp only [chkE] at h
    split at h
    · simp only [Bool.and_eq_true, decide_eq_true_eq] at h
      obtain ⟨⟨h1, h2⟩, h3⟩ := h
      subst h1
      exact both_of (pe_fldD (okE b C h3).1 (base_of h2)) rfl
    · cases h
  | .mcall c m j o es, X, names, Wx, x, C, h => by
    simp only [chkE] at h
    split at h
    · simp only [Bool.and_eq_true, decide_eq_true_eq] at h
      obtain ⟨⟨⟨⟨⟨⟨h1, h2⟩, h3⟩, h4⟩, h5⟩, h6⟩, h7⟩ := h
      obtain ⟨q1, q2⟩ := okL es C h7
      subst h1
      obtain ⟨f, hf⟩ := get_of_len C.mtl h2
      obtain ⟨M, M2⟩ := C.mt j c _ f h2 hf
      rename_i as cpos
      cases es with
      | nil =>
        cases as with
        | nil => exact both_of (pe_mcall0D C.takes M M2 hf (okE o C h6).1 (base_of h4) h3) rfl
        | cons a as => simp [chkL] at h7
      | cons e es =>
        cases as with
        | nil => simp [chkL] at h7
        | cons a as =>
          have q3 := q2
          simp only [List.all_cons, Bool.and_eq_true] at q2
          refine both_of (pe_mcallD C.takes M M2 hf (okE o C h6).1 q1 (base_of h4) h3 ?_ (star_of q2.1) (star_any q2.2)) rfl
          have hfew : ((backTo cpos (starEach (a :: as) X.env)).all (fun x => !x.1) && (backToKw cpos (keywordEach [] X.env)).all (fun x => x.1.isSome) && decide ((a :: as).length + ([] : List Keyword).length + (if ([] : List Keyword).isEmpty then 0 else 1) < 30)) = true := by
            rw [Bool.and_eq_true, Bool.and_eq_true]
            exact ⟨⟨star_all q3, rfl⟩, decide_eq_true (by simpa using h5)⟩
          exact hfew
    · cases h
  | .make c j es, X, names, Wx, x, C, h => by
    simp only [chkE] at h
    split at h
    · simp only [Bool.and_eq_true, decide_eq_true_eq] at h
      obtain ⟨⟨⟨⟨h1, h2⟩, h3⟩, h4⟩, h5⟩ := h
      obtain ⟨q1, q2⟩ := okL es C h5
      subst h1
      obtain ⟨f, hf⟩ := get_of_len C.mtl h2
      obtain ⟨M, M2⟩ := C.mt j _ _ f h2 hf
      rename_i as _
      cases es with
      | nil =>
        cases as with
        | nil => exact both_of (pe_make0D C.takes M hf (C.gls h3) (okNm_1 h4)) rfl
        | cons a as => simp [chkL] at h5
      | cons e es =>
        cases as with
        | nil => simp [chkL] at h5
        | cons a as =>
          simp only [List.all_cons, Bool.and_eq_true] at q2
          exact both_of (pe_makeD C.takes M hf (C.gls h3) q1 (okNm_1 h4) (star_of q2.1) (star_any q2.2)) rfl
    · cases h
  | .fnv x, X, names, Wx, a, C, h => by
    simp only [chkE] at h
    split at h
    · simp only [Bool.and_eq_true, decide_eq_true_eq] at h
      obtain ⟨⟨⟨rfl, h2⟩, h3⟩, h4⟩ := h
      obtain ⟨j, hj⟩ := List.getElem?_of_mem h2
      obtain ⟨f, hf⟩ := get_of_len C.tabl hj
      obtain ⟨fa, fd, ps, k, n, F, hr, hm, hk, hb, hn⟩ := (C.tab j _ f hj hf).ex
      exact both_of (pe_fnvD (C.gls h3) hm (okNm_1 h4)) rfl
    · cases h
  | .callv f0 js es, X, names, Wx, x, C, h => by
    simp only [chkE] at h
    split at h
    · simp only [Bool.and_eq_true, List.all_eq_true, decide_eq_true_eq] at h
      obtain ⟨⟨⟨⟨h1, h2⟩, h3⟩, h4⟩, h5⟩ := h
      obtain ⟨q1, q2⟩ := okL es C h5
      have ok : ∀ y j, js.lookup y = some j → ∃ f, Γ.tab[j]? = some f ∧ CallOk X y f := fun y j e => by
        have hm : (y, j) ∈ js := by
          clear h3
          induction js with
          | nil => cases e
          | cons p ps ih =>
            rw [List.lookup_cons] at e
            split at e
            · rename_i he
              cases e
              have : y = p.1 := by simpa using he
              subst this
              exact List.mem_cons_self
            · exact List.mem_cons_of_mem _ (ih e)
        have hj := h3 _ hm
        obtain ⟨f, hf⟩ := get_of_len C.tabl hj
        exact ⟨f, hf, C.tab j _ f hj hf⟩
      cases es with
      | nil =>
        simp only [chkL] at h5
        split at h5
        · simp at h4
        · cases h5
      | cons e es =>
        rename_i as _
        cases as with
        | nil => simp at h4
        | cons a as =>
          simp only [List.all_cons, Bool.and_eq_true] at q2
          exact both_of (pe_callvD C.takes (okE f0 C h2).1 h1 ok q1 (star_of q2.1) (star_any q2.2)) rfl
    · cases h
  | .bi f c es, X, names, Wx, x, C, h => by
    simp only [chkE] at h
    split at h
    · simp only [Bool.and_eq_true, decide_eq_true_eq] at h
      obtain ⟨⟨⟨⟨h1, h2⟩, h3⟩, h4⟩, h5⟩ := h
      obtain ⟨q1, q2⟩ := okL es C h5
      rename_i as _
      cases as with
      | nil => simp at h4
      | cons a as =>
        simp only [List.all_cons, Bool.and_eq_true] at q2
        subst h1
        rcases bi_rule (X := X) (Wx := Wx) C.calm C.gd C.hu f c with ⟨id, r, k1, k2, k3⟩ | ⟨T, r, k1, k2, k3⟩
        · exact both_of (pe_biB k1 k2 (C.gls h3) (C.bn _ h2) k3 q1 (bi_plain f).1 (bi_plain f).2 (star_of q2.1) (star_any q2.2)) rfl
        · exact both_of (pe_biT k1 k2 (C.gls h3) (C.bn _ h2) k3 q1 (bi_plain f).1 (bi_plain f).2 (star_of q2.1) (star_any q2.2)) rfl
    · cases h
  | .isi t a, X, names, Wx, x, C, h => by
    simp only [chkE] at h
    split at h
    · simp only [Bool.and_eq_true, decide_eq_true_eq] at h
      obtain ⟨⟨⟨⟨⟨⟨⟨h1, h2⟩, h3⟩, h4⟩, h5⟩, h6⟩, h7⟩, h8⟩ := h
      subst h1 h4
      exact both_of (pe_isiD (okE a C h8).1 (C.gls h3) (C.bn _ h2) (C.gls h6) (C.bn _ h5) (star_of h7)) rfl
    · cases h
  | .isiT ts a, X, names, Wx, x, C, h => by
    simp only [chkE] at h
    split at h
    · simp only [Bool.and_eq_true, decide_eq_true_eq] at h
      obtain ⟨⟨⟨⟨⟨⟨⟨h1, h2⟩, h3⟩, h4⟩, h5⟩, h6⟩, h7⟩, h8⟩ := h
      subst h1
      cases ts with
      | nil => simp at h5
      | cons t ts => exact both_of (pe_isiTD (okE a C h8).1 (C.gls h3) (C.bn _ h2) (by rw [sizeLine_eq]; omega) (isTys_of C h4) (star_of h7)) rfl
    · cases h
  | .meth m o es, X, names, Wx, x, C, h => by
    simp only [chkE] at h
    split at h
    · simp only [Bool.and_eq_true, decide_eq_true_eq] at h
      obtain ⟨⟨⟨⟨⟨⟨h1, h2⟩, h3⟩, h4⟩, h5⟩, h6⟩, h7⟩ := h
      obtain ⟨q1, q2⟩ := okL es C h7
      subst h2
      rename_i as _
      cases es with
      | nil =>
        cases as with
        | nil => exact both_of (pe_meth0D (mt_ok (by have := C.hu; omega) m h1) (okE o C h6).1 (base_of h4) h3) rfl
        | cons a as => simp [chkL] at h7
      | cons e es =>
        cases as with
        | nil => simp [chkL] at h7
        | cons a as =>
          have q3 := q2
          simp only [List.all_cons, Bool.and_eq_true] at q2
          refine both_of (pe_methD (mt_ok (by have := C.hu; omega) m h1) (okE o C h6).1 q1 (base_of h4) ?_ h3 (star_of q2.1) (star_any q2.2)) rfl
          rw [Bool.and_eq_true, Bool.and_eq_true]
          exact ⟨⟨star_all q3, rfl⟩, decide_eq_true (by simpa using h5)⟩
    · cases h
  | .lc c tg src ifs elt own, X, names, Wx, x, C, h => by
    simp only [chkE] at h
    split at h
    · rename_i e tge it ifs' a scope p
      simp only [Bool.and_eq_true, decide_eq_true_eq] at h
      obtain ⟨⟨⟨⟨⟨⟨⟨h1, h2⟩, h3⟩, h4⟩, h5⟩, h6⟩, h7⟩, h8⟩ := h
      subst h1
      have eo : (own.map fun i => (g.N.getD i "", i)).map (·.2) = own := by
        rw [List.map_map]
        exact List.map_id' own
      have B := blkOk_by h2
      have B' : BlkOk X.N X.env.scope scope (own.map fun i => (g.N.getD i "", i)) := by
        refine ⟨B.kind, B.uniq, by rw [C.N]; exact B.ix, fun y hy e => ?_, by rw [C.N]; exact B.own⟩
        rcases B.free y hy e with q | q
        · exact .inl (C.cell _ q)
        · rcases C.free _ q with z | z
          · exact .inr z
          · exact .inl z
      have main := pe_lcD (Wx := Wx) (Γ := Γ) (pos := p) (tgx := tg) (src := src) (ifx := ifs) (ex := elt) (c := c) (own := own.map fun i => (g.N.getD i "", i)) (tg := tge) C.calm (by rw [C.N]; exact C.nd) (okSrc src C h6) B' (fun s H Ca cl fp => okTg tg (ctx_blk C s H scope Ca cl fp) h5)
        (fun s H Ca cl fp => okIfs ifs (ctx_blk C s H scope Ca cl fp) h7) (fun s H Ca cl fp => (okE elt (ctx_blk C s H scope Ca cl fp) h8).1) (fold_of h3) (by rw [eo]; exact h4)
      rw [eo] at main
      exact both_no main fun _ => rfl
    · cases h
theorem okPEs {g : Gs} {Γ : Gm} : ∀ (es : List Ex) {X : Cx} {names : Nms} {Wx : WX} {as : List Expr}, CtxOk X g names Γ Wx → chkL g names es as = true → PEs X Wx Γ as es
  | [], X, names, Wx, as, C, h => by
    simp only [chkL] at h
    split at h
    · exact .nil
    · cases h
  | e :: es, X, names, Wx, as, C, h => by
    simp only [chkL] at h
    split at h
    · simp only [Bool.and_eq_true] at h
      exact .cons (okE e C h.1.2).1 (okPEs es C h.2)
    · cases h
theorem okL {g : Gs} {Γ : Gm} : ∀ (es : List Ex) {X : Cx} {names : Nms} {Wx : WX} {as : List Expr}, CtxOk X g names Γ Wx → chkL g names es as = true → PA X as (xA X Wx (semL Γ es)) ∧ as.all notStar = true
  | [], X, names, Wx, as, C, h => by
    simp only [chkL] at h
    split at h
    · exact ⟨pa_nilD, rfl⟩
    · cases h
  | e :: es, X, names, Wx, as, C, h => by
    simp only [chkL] at h
    split at h
    · simp only [Bool.and_eq_true] at h
      obtain ⟨q1, q2⟩ := okL es C h.2
      exact ⟨pa_consD (okE e C h.1.2).1 q1 (star_of h.1.1), by rw [List.all_cons, h.1.1, q2]; rfl⟩
    · cases h
theorem okBA {g : Gs} {Γ : Gm} : ∀ (es : List Ex) {X : Cx} {names : Nms} {Wx : WX} {as : List Expr} {pos : Pos}, CtxOk X g names Γ Wx → chkB g names es as = true → PE X (.BoolOp .And as pos) (xE X Wx (semB Γ true es)) ∧ (tstOkL es = true → PW X (.BoolOp .And as pos) (xT X Wx fun ρ S => asBl (semB Γ true es ρ S)))
  | [], X, names, Wx, as, pos, C, h => by simp [chkB] at h
  | [e], X, names, Wx, as, pos, C, h => by
    simp only [chkB] at h
    split at h
    · exact ⟨pe_boo1 (okE e C h).1, fun t => pw_and1D ((okE e C h).2 (by simpa [tstOkL] using t))⟩
    · cases h
  | e :: f :: es, X, names, Wx, as, pos, C, h => by
    simp only [chkB] at h
    split at h
    · rename_i a as
      simp only [Bool.and_eq_true] at h
      have q := okBA (f :: es) (pos := pos) C h.2
      cases as with
      | nil => cases es <;> simp [chkB] at h
      | cons b bs => exact ⟨pe_andD (okE e C h.1).1 q.1, fun t => by
          simp only [tstOkL, Bool.and_eq_true] at t
          exact pw_andD ((okE e C h.1).2 t.1) (q.2 (by simp only [tstOkL, Bool.and_eq_true]; exact t.2))⟩
    · cases h
theorem okBO {g : Gs} {Γ : Gm} : ∀ (es : List Ex) {X : Cx} {names : Nms} {Wx : WX} {as : List Expr} {pos : Pos}, CtxOk X g names Γ Wx → chkB g names es as = true → PE X (.BoolOp .Or as pos) (xE X Wx (semB Γ false es)) ∧ (tstOkL es = true → PW X (.BoolOp .Or as pos) (xT X Wx fun ρ S => asBl (semB Γ false es ρ S)))
  | [], X, names, Wx, as, pos, C, h => by simp [chkB] at h
  | [e], X, names, Wx, as, pos, C, h => by
    simp only [chkB] at h
    split at h
    · exact ⟨pe_boo1 (okE e C h).1, fun t => pw_or1D ((okE e C h).2 (by simpa [tstOkL] using t))⟩
    · cases h
  | e :: f :: es, X, names, Wx, as, pos, C, h => by
    simp only [chkB] at h
    split at h
    · rename_i a as
      simp only [Bool.and_eq_true] at h
      have q := okBO (f :: es) (pos := pos) C h.2
      cases as with
      | nil => cases es <;> simp [chkB] at h
      | cons b bs => exact ⟨pe_orD (okE e C h.1).1 q.1, fun t => by
          simp only [tstOkL, Bool.and_eq_true] at t
          exact pw_orD ((okE e C h.1).2 t.1) (q.2 (by simp only [tstOkL, Bool.and_eq_true]; exact t.2))⟩
    · cases h
theorem okO {g : Gs} {Γ : Gm} : ∀ (e : Option Ex) {X : Cx} {names : Nms} {Wx : WX} {a : Option Expr}, CtxOk X g names Γ Wx → chkO g names e a = true → PO X a (xO X Wx (semO Γ e))
  | none, X, names, Wx, a, C, h => by
    simp only [chkO] at h
    cases a with
    | none => exact po_noneD
    | some a => cases h
  | some e, X, names, Wx, a, C, h => by
    simp only [chkO] at h
    split at h
    · exact po_someD (okE e C h).1
    · cases h
theorem okIfs {g : Gs} {Γ : Gm} : ∀ (es : List Ex) {X : Cx} {names : Nms} {Wx : WX} {as : List Expr}, CtxOk X g names Γ Wx → chkIfs g names es as = true → PTs X as (dTT X.K X.mg Wx fun ρ S => semIfs Γ es ρ S)
  | [], X, names, Wx, as, C, h => by
    simp only [chkIfs] at h
    cases as with
    | nil =>
      exact PTs_imp pts_nil fun σ H Q ⟨ρ, w, S, s, r, z⟩ => by
        simp only [semIfs] at z
        exact After.here s z
    | cons a b => cases h
  | [e], X, names, Wx, as, C, h => by
    simp only [chkIfs] at h
    split at h
    · simp only [Bool.and_eq_true] at h
      exact PTs_imp (pts_one ((okE e C h.2).2 h.1)) fun σ H Q ⟨ρ, w, S, s, r, z⟩ => by
        simp only [semIfs] at z
        exact ⟨ρ, w, S, s, r, z⟩
    · cases h
  | _ :: _ :: _, X, names, Wx, as, C, h => by simp [chkIfs] at h
theorem okSrc {g : Gs} {Γ : Gm} : ∀ (e : Src) {X : Cx} {names : Nms} {Wx : WX} {a tg : Expr}, CtxOk X g names Γ Wx → chkSrc g names e tg a = true → PI X tg a (xI X Wx (semSrc Γ e))
  | .ex e, X, names, Wx, a, tg, C, h => by
    simp only [chkSrc] at h
    exact pi_exD (okE e C h).1
  | .keys e, X, names, Wx, a, tg, C, h => by
    simp only [chkSrc] at h
    exact pi_keysD (okE e C h).1
  | .vals e, X, names, Wx, a, tg, C, h => by
    simp only [chkSrc] at h
    split at h
    · simp only [Bool.and_eq_true, decide_eq_true_eq] at h
      obtain ⟨⟨⟨rfl, h1⟩, h2⟩, h3⟩ := h
      exact pi_valsD (okE e C h3).1 (base_of h2) h1
    · cases h
  | .rng1 e, X, names, Wx, a, tg, C, h => by
    simp only [chkSrc] at h
    split at h
    · simp only [Bool.and_eq_true, decide_eq_true_eq] at h
      obtain ⟨⟨⟨⟨h1, h2⟩, h3⟩, h4⟩, h5⟩ := h
      subst h1
      exact pi_rng1D (C.gls h3) (C.bn _ h2) (okE e C h5).1 (by rw [star_of h4]; rfl)
    · cases h
  | .rng2 e f, X, names, Wx, a, tg, C, h => by
    simp only [chkSrc] at h
    split at h
    · simp only [Bool.and_eq_true, decide_eq_true_eq] at h
      obtain ⟨⟨⟨⟨⟨⟨h1, h2⟩, h3⟩, h4⟩, h5⟩, h6⟩, h7⟩ := h
      subst h1
      exact pi_rng2D (C.gls h3) (C.bn _ h2) (okE e C h6).1 (okE f C h7).1 (by rw [star_of h4, star_of h5]; rfl) (by rw [star_of h5]; rfl)
    · cases h
  | .rng3 e f d, X, names, Wx, a, tg, C, h => by
    simp only [chkSrc] at h
    split at h
    · simp only [Bool.and_eq_true, decide_eq_true_eq] at h
      obtain ⟨⟨⟨⟨⟨⟨⟨⟨h1, h2⟩, h3⟩, h4⟩, h5⟩, h6⟩, h7⟩, h8⟩, h9⟩ := h
      subst h1
      exact pi_rng3D (C.gls h3) (C.bn _ h2) (okE e C h7).1 (okE f C h8).1 (okE d C h9).1 (star_of h4) (star_of h5) (by rw [star_of h6]; rfl)
    · cases h
  | .enum e, X, names, Wx, a, tg, C, h => by
    simp only [chkSrc] at h
    split at h
    · simp only [Bool.and_eq_true, decide_eq_true_eq] at h
      obtain ⟨⟨⟨⟨⟨h0, h1⟩, h2⟩, h3⟩, h4⟩, h5⟩ := h
      subst h1
      cases tg with
      | Tuple es k p => exact pi_enumD (C.gls h3) (C.bn _ h2) (okE e C h5).1 (by rw [star_of h4]; rfl)
      | _ => cases h0
    · cases h
  | .zip e f, X, names, Wx, a, tg, C, h => by
    simp only [chkSrc] at h
    split at h
    · simp only [Bool.and_eq_true, decide_eq_true_eq] at h
      obtain ⟨⟨⟨⟨⟨⟨⟨h0, h1⟩, h2⟩, h3⟩, h4⟩, h5⟩, h6⟩, h7⟩ := h
      subst h1
      cases tg with
      | Tuple es k p => exact pi_zipD (C.gls h3) (C.bn _ h2) (okE e C h6).1 (okE f C h7).1 (by rw [star_of h4]) (by rw [star_of h5]; rfl)
      | _ => cases h0
    · cases h
end
end DL

/-! DLk: what was held against the text is true of the run: statements, defs, the law. -/
namespace DL
open PySem PySem.Spec PyProof.Rows L2

structure StOk (X : Cx) (g : Gs) (names : Nms) (Γ : Gm) (Wx : WX) : Prop where
  ctx : CtxOk X g names Γ Wx
  look : ∀ x, X.env.kindOf x = names.lookup x
  kind : X.env.scope.kind = .function
  own : PassesOwn (model X.prog X.w) X.A X.env X.xe
  stk : X.stack = X.env :: X.outer
  fr : X.env.frame = some X.env.locals
  ex : X.ex = []
def isLoc (names : Nms) (x : Str) : Bool := names.lookup x == some .local
def swPlan (names : Nms) (ts vs : List Expr) : Option (Option (List Str)) :=
  if (!(ts.length == 2 || ts.length == 3) || vs.length != ts.length) then some none
  else if vs.any (fun | .Starred .. => true | _ => false) then some none
  else
    let line := (ts.head?.map (·.pos.line)).getD 0
    let nms := ts.filterMap fun
      | .Name id pos => if names.lookup id == some .local && pos.line == line then some id else none
      | _ => none
    if nms.length != ts.length || nms.eraseDups.length != nms.length then some none
    else if vs.all (foldedForSure 8) then some none
    else if vs.all (constantsAlone 8) then none
    else some (some nms)
theorem swPlan_ok {names : Nms} {ts vs : List Expr} {env : Env} {o : Option (List Str)} {k k2 : Nat} {p p2 : Pos} (hl : ∀ x, env.kindOf x = names.lookup x) (hb : env.scope.kind = .function) (h : swPlan names ts vs = some o) :
    swappedStores [.Tuple ts k p] (.Tuple vs k2 p2) env = pure o := by
  have hb' : env.blockKind = .function := by unfold Env.blockKind; rw [hb]; rfl
  unfold swPlan at h
  unfold swappedStores
  simp only [hb', hl]
  split at h
  · rename_i c
    cases h
    refine (if_pos (by simp only [bne_self_eq_false, Bool.or_false]; exact c)).trans rfl
  · rename_i c
    refine (if_neg (by simp only [bne_self_eq_false, Bool.or_false]; exact c)).trans ?_
    split at h
    · rename_i c2
      cases h
      exact (if_pos c2).trans rfl
    · rename_i c2
      refine (if_neg c2).trans ?_
      simp only at h
      split at h
      · rename_i c3
        cases h
        exact (if_pos c3).trans rfl
      · rename_i c3
        refine (if_neg c3).trans ?_
        split at h
        · rename_i c4
          cases h
          exact (if_pos c4).trans rfl
        · rename_i c4
          refine (if_neg c4).trans ?_
          split at h
          · cases h
          · rename_i c5
            cases h
            exact (if_neg c5).trans rfl
theorem noswap {t v : Expr} {l : Nat} {env : Env} (h : notComp v = true) : swapsWithSole [t] v l env = pure false := by
  cases v <;> first | rfl | cases h
theorem noswapT {ts : List Expr} {v : Expr} {l k : Nat} {p : Pos} {env : Env} : swapsWithSole [.Tuple ts k p] v l env = pure false := by
  cases v <;> rfl
theorem noswapS {o i : Expr} {v : Expr} {l : Nat} {p : Pos} {env : Env} : swapsWithSole [.Subscript o i p] v l env = pure false := by
  cases v <;> rfl
theorem nostoreN {x : Str} {p : Pos} {v : Expr} {env : Env} : swappedStores [.Name x p] v env = pure none := rfl
def notTup : Expr → Bool
  | .Tuple .. => false
  | _ => true
theorem nostoreT {ts : List Expr} {k : Nat} {p : Pos} {v : Expr} {env : Env} (h : notTup v = true) : swappedStores [.Tuple ts k p] v env = pure none := by
  cases v <;> first | rfl | cases h
theorem nostoreS {o i o2 i2 v : Expr} {p p2 p3 : Pos} {k : Nat} {env : Env} : swappedStores [.Tuple [.Subscript o i p, .Subscript o2 i2 p2] k p3] v env = pure none := by
  cases v with
  | Tuple vs k2 q =>
    unfold swappedStores
    by_cases h1 : (!(([Expr.Subscript o i p, Expr.Subscript o2 i2 p2].length == 2 || [Expr.Subscript o i p, Expr.Subscript o2 i2 p2].length == 3)) || vs.length != [Expr.Subscript o i p, Expr.Subscript o2 i2 p2].length || env.blockKind != .function) = true
    · exact (if_pos h1).trans rfl
    · refine (if_neg h1).trans ?_
      by_cases h2 : (vs.any fun | .Starred .. => true | _ => false) = true
      · exact (if_pos h2).trans rfl
      · exact (if_neg h2).trans rfl
  | _ => rfl
/-- y = [..]: stored within the comprehension -/
def swLc (names : Nms) (y : Str) (py : Pos) (scope : Scope) (p : Pos) : Bool :=
  isLoc names y && (py.line == p.line) && !(scope.names.any fun (n, k) => n == y && (k == .local || k == .cell))
/-- o[i] = .. where i is no slice -/
def setPlain (i : Expr) : Bool := match i with
  | .Slice .. => false
  | _ => true
def notLock : Ex → Bool
  | .lock _ _ => false
  | .tupN _ => false
  | _ => true
/-- a suite that neither calls nor raises -/
def simpU : Ex → Bool
  | .non => true | .bl _ => true | .int _ => true | .str _ => true | .var _ => true
  | _ => false
def suOk : List Sm → Bool
  | [] => true
  | .asg (.nm _) e :: ss => simpU e && suOk ss
  | [.ret none] => true
  | [.ret (some e)] => simpU e
  | [.cont] => true
  | [.brk] => true
  | [.pass] => true
  | _ => false
mutual
def chkS (g : Gs) (names : Nms) : Sm → Stmt → Bool
  | .asg tg e => fun s => match s with
    | .Assign [t] v pos => notLock e && chkTg g names tg t && chkE g names e v && (match t with
      | .Name y py => (match v with
        | .ListComp _ _ scope p => true
        | v => notComp v)
      | .Tuple ts _ _ => (match v with
        | .Tuple vs _ _ => (match swPlan names ts vs with
          | none => false
          | some none => true
          | some (some _) => true)
        | v => true)
      | _ => false)
    | _ => false
  | .setIx o i e => fun s => match s with
    | .Assign [.Subscript o' i' _] v _ => setPlain i' && chkE g names o o' && chkE g names i i' && chkE g names e v
    | _ => false
  | .dput o i e => fun s => match s with
    | .Assign [.Subscript o' i' _] v _ => chkE g names o o' && chkE g names i i' && chkE g names e v
    | _ => false
  | .fput o f e => fun s => match s with
    | .Assign [.Attribute o' y _] v _ => decide (y = f) && chkE g names o o' && chkE g names e v
    | _ => false
  | .lock _ a => fun s => chkS g names a s
  | .setIx2 o i o2 i2 e => fun s => match s with
    | .Assign [.Tuple [.Subscript o' i' _, .Subscript o2' i2' _] _ _] v _ => setPlain i' && setPlain i2' && chkE g names o o' && chkE g names i i' && chkE g names o2 o2' && chkE g names i2 i2' && chkE g names e v
    | _ => false
  | .expr e => fun s => match s with
    | .Expr v _ => notComp v && chkE g names e v
    | _ => false
  | .ret none => fun s => match s with
    | .Return none _ => true
    | _ => false
  | .ret (some e) => fun s => match s with
    | .Return (some v) _ => chkE g names e v
    | _ => false
  | .ife c a b => fun s => match s with
    | .If t x y _ => tstOk c && chkE g names c t && chkSs g names a x && chkSs g names b y
    | _ => false
  | .for tg src body => fun s => match s with
    | .For t it b [] _ => notSet it && chkTg g names tg t && chkSrc g names src t it && chkSs g names body b
    | _ => false
  | .while c body => fun s => match s with
    | .While t b [] _ => tstOk c && chkE g names c t && chkSs g names body b
    | _ => false
  | .pass => fun s => match s with
    | .Pass _ => true
    | _ => false
  | .brk => fun s => match s with
    | .Break _ => true
    | _ => false
  | .cont => fun s => match s with
    | .Continue _ => true
    | _ => false
  | .raise => fun s => match s with
    | .Raise .. => true
    | _ => false
  | .raiseX c ups k es => fun s => match s with
    | .Raise (some (.Call (.Name y _) as [] _)) none _ => decide (y = c) && decide ((c, ups, k) ∈ g.xs) && glB names c && okNm c && !as.isEmpty && chkL g names es as
    | _ => false
  | .tryNote body c i j => fun s => match s with
    | .Try b [.ExceptHandler (some (.Name y _)) (some n) [.Assign [.Name m _] (.Name n' _) _] _] [] [] _ => decide (y = c) && decide (c ∈ g.xn) && decide (c ∈ xNames) && glB names c && okNm c && decide (g.N[i]? = some n) && isLoc names n && okNm n && decide (n' = n) && decide (g.N[j]? = some m) && isLoc names m && chkSs g names body b
    | _ => false
  | .tryElse body c suite els => fun s => match s with
    | .Try b [.ExceptHandler (some (.Name y _)) none st _] els' [] _ => decide (y = c) && decide (c ∈ g.xn) && decide (c ∈ xNames) && glB names c && okNm c && !st.isEmpty && suOk suite && chkSs g names body b && chkSs g names suite st && chkSs g names els els'
    | _ => false
  | .tryTwo body c1 z1 c2 i j z f => fun s => match s with
    | .Try b [.ExceptHandler (some (.Name y1 _)) none [.Assign [.Name m1 _] (.Tuple [.Constant (.str w1) _ _] _ _) _] _, .ExceptHandler (some (.Name y2 _)) (some n) [.Assign [.Name m _] (.Tuple [.Constant (.str w) _ _, .Attribute (.Name n' _) f' _] _ _) _] _] [] [] _ => decide (y1 = c1) && decide (y2 = c2) && decide (w1 = z1) && decide (w = z) && decide (f' = f) && decide (n' = n) && decide (m1 = m) && decide (c1 ∈ g.xn) && decide (c2 ∈ g.xn) && decide (c1 ∈ xNames) && decide (c2 ∈ xNames) && glB names c1 && glB names c2 && okNm c1 && okNm c2 && decide (g.N[i]? = some n) && isLoc names n && okNm n && decide (g.N[j]? = some m) && (isLoc names m && chkSs g names body b)
    | _ => false
  | .tryOnly body c suite => fun s => match s with
    | .Try b [.ExceptHandler (some (.Name y _)) none st _] [] [] _ => decide (y = c) && decide (c ∈ g.xn) && decide (c ∈ xNames) && glB names c && okNm c && !st.isEmpty && suOk suite && chkSs g names body b && chkSs g names suite st
    | _ => false
def chkSs (g : Gs) (names : Nms) : List Sm → List Stmt → Bool
  | [] => fun ss => match ss with
    | [] => true
    | _ => false
  | a :: as => fun ss => match ss with
    | s :: ss => chkS g names a s && chkSs g names as ss
    | _ => false
end
theorem nodup_at {N : List Str} (h : N.Nodup) {i j : Nat} {x y : Str} (hi : N[i]? = some x) (hj : N[j]? = some y) (ne : x ≠ y) : i ≠ j := fun e => by
  subst e
  rw [hi] at hj
  exact ne (Option.some.inj hj)
theorem filter_names {names : Nms} {line : Nat} : ∀ {ts : List Expr} {nms : List Str}, ts.filterMap (fun | .Name id pos => if names.lookup id == some .local && pos.line == line then some id else none | _ => none) = nms → nms.length = ts.length →
    Paired (fun t n => ∃ p, t = Expr.Name n p ∧ names.lookup n = some .local) ts nms
  | [], nms, h, hl => by cases h; exact .nil
  | t :: ts, nms, h, hl => by
    rw [List.filterMap_cons] at h
    split at h
    · have := List.length_filterMap_le (fun | .Name id pos => if names.lookup id == some .local && pos.line == line then some id else none | _ => none : Expr → Option Str) ts
      rw [h, hl] at this
      simp at this
      omega
    · rename_i n e
      subst h
      rw [List.length_cons, List.length_cons] at hl
      refine .cons ?_ (filter_names rfl (by omega))
      split at e
      · split at e
        · rename_i c
          cases e
          simp only [Bool.and_eq_true, beq_iff_eq] at c
          exact ⟨_, rfl, c.1⟩
        · cases e
      · cases e
theorem nodup_of_dups {l : List Str} (h : l.eraseDups.length = l.length) : l.Nodup := by
  have key : ∀ (n : Nat) (l : List Str), l.length ≤ n → l.eraseDups.length ≤ l.length ∧ (l.eraseDups.length = l.length → l.Nodup) := by
    intro n
    induction n with
    | zero =>
      intro l hl
      have : l = [] := List.length_eq_zero_iff.mp (by omega)
      subst this
      exact ⟨by simp, fun _ => List.nodup_nil⟩
    | succ n ih =>
      intro l hl
      cases l with
      | nil => exact ⟨by simp, fun _ => List.nodup_nil⟩
      | cons a t =>
        rw [List.eraseDups_cons]
        have h1 := List.length_filter_le (fun b => !b == a) t
        have h2 := ih (t.filter fun b => !b == a) (by simp at hl; omega)
        simp only [List.length_cons]
        refine ⟨by omega, fun e => ?_⟩
        have e1 : (t.filter fun b => !b == a).length = t.length := by omega
        have e2 : t.filter (fun b => !b == a) = t := List.filter_eq_self.mpr (by
          have := List.length_filter_eq_length_iff.mp e1
          exact this)
        rw [e2] at h2
        refine List.nodup_cons.mpr ⟨fun ha => ?_, h2.2 (by rw [e2] at e; omega)⟩
        have := List.filter_eq_self.mp e2 a ha
        simp at this
  exact (key l.length l (Nat.le_refl _)).2 h

section
variable {g : Gs} {names : Nms} {Γ : Gm}
theorem okAsg {tg : Tg} {e : Ex} {t v : Expr} {pos : Pos} {X : Cx} {Wx : WX} (C : StOk X g names Γ Wx) (h : chkS g names (.asg tg e) (.Assign [t] v pos) = true) : PS X (.Assign [t] v pos) (xS X Wx (run Γ (.asg tg e))) := by
  simp only [chkS, Bool.and_eq_true] at h
  obtain ⟨⟨⟨hlk, ht⟩, hv⟩, h⟩ := h
  have G := okTg tg C.ctx ht
  have V := (okE e C.ctx hv).1
  cases t with
  | Name y py =>
    simp only at h
    by_cases hc : notComp v = true
    · exact ps_asgD V G (noswap hc) nostoreN rfl
    · cases v with
      | ListComp elt gens scope p =>
        by_cases hs : swLc names y py scope p = true
        · -- stored within
          simp only [swLc, Bool.and_eq_true, isLoc, beq_iff_eq] at hs
          cases tg with
          | tup ts => simp [chkTg] at ht
          | nm i =>
            simp only [chkTg, Bool.and_eq_true, decide_eq_true_eq] at ht
            cases e with
            | lc c tgx src ifs elx own =>
              simp only [chkE] at hv
              split at hv
              · rename_i e' tge it ifs' a scope' p' eq
                cases eq
                simp only [Bool.and_eq_true, decide_eq_true_eq] at hv
                obtain ⟨⟨⟨⟨⟨⟨⟨h1, h2⟩, h3⟩, h4⟩, h5⟩, h6⟩, h7⟩, h8⟩ := hv
                subst h1
                have eo : (own.map fun i => (g.N.getD i "", i)).map (·.2) = own := by
                  rw [List.map_map]
                  exact List.map_id' own
                have B := blkOk_by h2
                have B' : BlkOk X.N X.env.scope scope (own.map fun i => (g.N.getD i "", i)) := by
                  refine ⟨B.kind, B.uniq, by rw [C.ctx.N]; exact B.ix, fun y hy e => ?_, by rw [C.ctx.N]; exact B.own⟩
                  rcases B.free y hy e with q | q
                  · exact .inl (C.ctx.cell _ q)
                  · rcases C.ctx.free _ q with z | z
                    · exact .inr z
                    · exact .inl z
                have main := ps_setLcD (Wx := Wx) (Γ := Γ) (pos := p) (spos := pos) (py := py) (tgx := tgx) (src := src) (ifx := ifs) (ex := elx) (c := c) (own := own.map fun i => (g.N.getD i "", i)) (tg := tge) C.ctx.calm (by rw [C.ctx.N]; exact C.ctx.nd) (by rw [C.ctx.N]; exact ht.1)
                  (by have := C.look y; rw [hs.1.1] at this; exact this) (sw_true C.kind (by have := C.look y; rw [hs.1.1] at this; exact this) (by simpa using hs.1.2) (by simpa using hs.2)) (okSrc src C.ctx h6) B' (fun s H Ca cl fp => okTg tgx (ctx_blk C.ctx s H scope Ca cl fp) h5)
                  (fun s H Ca cl fp => okIfs ifs (ctx_blk C.ctx s H scope Ca cl fp) h7) (fun s H Ca cl fp => (okE elx (ctx_blk C.ctx s H scope Ca cl fp) h8).1) (fold_of h3) (by rw [eo]; exact h4)
                rw [eo] at main
                exact main
              · cases hv
            | lock _ _ => cases hlk
            | tupN _ => cases hlk
            | _ => simp [chkE, tstAst] at hv
        · -- an ordinary store
          refine ps_asgD V G ?_ nostoreN rfl
          have hb' : X.env.blockKind = .function := by unfold Env.blockKind; rw [C.kind]; rfl
          show swapsWith (.ListComp elt gens scope p) (some (.Name y py)) pos.line X.env = pure false
          unfold swapsWith
          simp only [hb', C.look, Expr.pos]
          have : swLc names y py scope p = false := by simpa using hs
          simp only [swLc, isLoc] at this
          show pure (_ && _ && _) = _
          simp only [beq_self_eq_true, Bool.true_and]
          rw [this]
      | SetComp _ _ _ _ => simp at h; exact absurd h hc
      | DictComp _ _ _ _ _ => simp at h; exact absurd h hc
      | _ => exact absurd rfl hc
  | Tuple ts k p =>
    simp only at h
    by_cases hn : notTup v = true
    · exact ps_asgD V G noswapT (nostoreT hn) rfl
    · cases v with
      | Tuple vs k2 p2 =>
        simp only at h
        split at h
        · cases h
        · rename_i hp
          exact ps_asgD V G noswapT (swPlan_ok C.look C.kind hp) rfl
        · rename_i nms hp
          have hw := swPlan_ok (k := k) (p := p) (k2 := k2) (p2 := p2) C.look C.kind hp
          -- the names
          unfold swPlan at hp
          split at hp
          · cases hp
          · rename_i c1
            split at hp
            · cases hp
            · simp only at hp
              split at hp
              · cases hp
              · rename_i c3
                split at hp
                · cases hp
                · split at hp
                  · cases hp
                  · cases hp
                    simp only [Bool.or_eq_true, bne_iff_ne, ne_eq, not_or, Decidable.not_not] at c3
                    have pr := filter_names rfl c3.1
                    have nd := nodup_of_dups c3.2
                    generalize ts.filterMap _ = nms at pr nd c3 hw
                    simp only [Bool.or_eq_true, Bool.not_eq_true', bne_iff_ne, ne_eq, not_or, Decidable.not_not, Bool.not_eq_false, beq_iff_eq] at c1
                    obtain ⟨cl, cv⟩ := c1
                    have nl : ∀ {x : Str}, names.lookup x = some .local → X.env.scope.names.lookup x = some .local := fun {x} e => (C.look x).trans e
                    cases tg with
                    | nm i => simp [chkTg] at ht
                    | tup tgs =>
                      simp only [chkTg] at ht
                      cases e with
                      | tup es =>
                        simp only [chkE] at hv
                        have A := (okL es C.ctx hv).1
                        rcases cl with cl | cl
                        · match ts, nms, pr, nd, cl with
                          | [t1, t2], _, .cons ⟨p1, e1, l1⟩ (.cons ⟨p2', e2, l2⟩ .nil), nd, _ =>
                            subst e1 e2
                            match vs, cv with
                            | [v1, v2], _ =>
                              match tgs, ht with
                              | [g1, g2], ht =>
                                match g1, g2, ht with
                                | .nm i, .nm j, ht =>
                                  simp only [chkTgs, chkTg, Bool.and_eq_true, decide_eq_true_eq] at ht
                                  match es, hv, A, V, G with
                                  | [x1, x2], hv, A, V, G =>
                                    have hi := ht.1.2.1
                                    have hj := ht.2.1.2.1
                                    exact ps_parD C.ctx.calm (by rw [C.ctx.N]; exact C.ctx.nd) (by rw [C.ctx.N]; exact hi) (by rw [C.ctx.N]; exact hj) (nodup_at C.ctx.nd hi hj (by simpa using nd)) (nl l1) (nl l2) A hw noswapT
                                  | [], hv, _, _, _ => simp [chkL] at hv
                                  | [_], hv, _, _, _ => simp [chkL] at hv
                                  | _ :: _ :: _ :: _, hv, _, _, _ => simp [chkL] at hv
                                | .tup _, _, ht => simp [chkTgs, chkTg] at ht
                                | .nm _, .tup _, ht => simp [chkTgs, chkTg] at ht
                              | [], ht => simp [chkTgs] at ht
                              | [_], ht => simp [chkTgs] at ht
                              | _ :: _ :: _ :: _, ht => simp [chkTgs] at ht
                        · match ts, nms, pr, nd, cl with
                          | [t1, t2, t3], _, .cons ⟨p1, e1, l1⟩ (.cons ⟨p2', e2, l2⟩ (.cons ⟨p3, e3, l3⟩ .nil)), nd, _ =>
                            subst e1 e2 e3
                            match vs, cv with
                            | [v1, v2, v3], _ =>
                              match tgs, ht with
                              | [g1, g2, g3], ht =>
                                match g1, g2, g3, ht with
                                | .nm i, .nm j, .nm l, ht =>
                                  simp only [chkTgs, chkTg, Bool.and_eq_true, decide_eq_true_eq] at ht
                                  match es, hv, A, V, G with
                                  | [x1, x2, x3], hv, A, V, G =>
                                    have hi := ht.1.2.1
                                    have hj := ht.2.1.2.1
                                    have hl := ht.2.2.1.2.1
                                    simp only [List.nodup_cons, List.mem_cons, List.not_mem_nil, or_false, not_or] at nd
                                    exact ps_par3D C.ctx.calm (by rw [C.ctx.N]; exact C.ctx.nd) (by rw [C.ctx.N]; exact hi) (by rw [C.ctx.N]; exact hj) (by rw [C.ctx.N]; exact hl) (nodup_at C.ctx.nd hi hj nd.1.1) (nodup_at C.ctx.nd hi hl nd.1.2) (nodup_at C.ctx.nd hj hl nd.2.1) (nl l1) (nl l2) (nl l3) A hw noswapT
                                  | [], hv, _, _, _ => simp [chkL] at hv
                                  | [_], hv, _, _, _ => simp [chkL] at hv
                                  | [_, _], hv, _, _, _ => simp [chkL] at hv
                                  | _ :: _ :: _ :: _ :: _, hv, _, _, _ => simp [chkL] at hv
                                | .tup _, _, _, ht => simp [chkTgs, chkTg] at ht
                                | .nm _, .tup _, _, ht => simp [chkTgs, chkTg] at ht
                                | .nm _, .nm _, .tup _, ht => simp [chkTgs, chkTg] at ht
                              | [], ht => simp [chkTgs] at ht
                              | [_], ht => simp [chkTgs] at ht
                              | [_, _], ht => simp [chkTgs] at ht
                              | _ :: _ :: _ :: _ :: _, ht => simp [chkTgs] at ht
                      | lock _ _ => cases hlk
                      | tupN _ => cases hlk
                      | _ => simp [chkE, tstAst] at hv
      | _ => exact absurd rfl hn
  | _ => cases h
end
end DL

/-! DLl: statements, defs, the law. -/
namespace DL
open PySem PySem.Spec PyProof.Rows L2

theorem asg_sub {o i : Expr} {p : Pos} {env : Env} (h : setPlain i = true) : ∀ v, assign (.Subscript o i p) env v = (do
      let ov ← holding [v] (eval o env)
      let iv ← holding [v, ov] (eval i env)
      standAt p
      holding [v, ov, iv] (setItem ov iv v)
      release [v, ov, iv] []) := by
  intro v
  cases i <;> first | rfl | cases h
theorem noswapE {v : Expr} {l : Nat} {env : Env} (h : notComp v = true) : swapsWith v none l env = pure false := by
  cases v <;> first | rfl | cases h
theorem noswapD {o i v : Expr} {p : Pos} {l : Nat} {env : Env} : swapsWith v (some (.Subscript o i p)) l env = pure false := by
  cases v <;> rfl
theorem noswapA {o v : Expr} {f : Str} {p : Pos} {l : Nat} {env : Env} : swapsWith v (some (.Attribute o f p)) l env = pure false := by
  cases v <;> rfl
theorem StOk.tr {X : Cx} {g : Gs} {names : Nms} {Γ : Gm} {Wx W : WX} {pn : List (Addr × Obj)} {xe : Value → Shared → Prop} (C : StOk X g names Γ Wx) (tk : Takes (X.tr pn xe) W) (po : PassesOwn (model X.prog X.w) X.A X.env xe) : StOk (X.tr pn xe) g names Γ W where
  ctx := ⟨C.ctx.N, C.ctx.nd, C.ctx.loc, C.ctx.cell, C.ctx.free, C.ctx.glob, C.ctx.fnc, C.ctx.calm, C.ctx.hu, C.ctx.gd, tk, fun j x f a b => ⟨(C.ctx.tab j x f a b).ex⟩, C.ctx.tabl, C.ctx.gl, C.ctx.gll, C.ctx.bn, fun c ups k h => ⟨(C.ctx.xs c ups k h).ex⟩, C.ctx.xn, fun j c m f a b => ⟨⟨(C.ctx.mt j c m f a b).1.ex⟩, (C.ctx.mt j c m f a b).2⟩, C.ctx.mtl⟩
  look := C.look
  kind := C.kind
  own := po
  stk := C.stk
  fr := C.fr
  ex := C.ex
/-! ### suites that neither call nor raise -/
section
variable {X : Cx} {g : Gs} {names : Nms} {Γ : Gm} {Wx : WX} {Y : Cx}
theorem okU (C : CtxOk X g names Γ Wx) (e : Ex) (hN : Y.N = X.N) (he : Y.env = X.env) {a : Expr} (hs : simpU e = true) (h : chkE g names e a = true) : PE Y a (xE Y W0 (sem Γ e)) := by
  cases e with
  | non =>
    simp only [chkE] at h
    split at h
    · exact pe_nonD
    · cases h
  | bl b =>
    simp only [chkE] at h
    split at h
    · simp only [beq_iff_eq] at h; subst h; exact pe_blD
    · cases h
  | int b =>
    simp only [chkE] at h
    split at h
    · simp only [beq_iff_eq] at h; subst h; exact pe_intD
    · cases h
  | str b =>
    simp only [chkE] at h
    split at h
    · simp only [decide_eq_true_eq] at h; subst h; exact pe_strD
    · cases h
  | var i =>
    simp only [chkE] at h
    split at h
    · simp only [Bool.and_eq_true, decide_eq_true_eq] at h
      exact pe_varD (by rw [hN, C.N]; exact h.1.1) (by rw [he]; exact C.vis h.1.2) (okNm_1 h.2) (okNm_2 h.2)
    · cases h
  | _ => cases hs
theorem okSu (C : StOk X g names Γ Wx) (hN : Y.N = X.N) (he : Y.env = X.env) (hf : Y.fn = X.fn) : ∀ (ss : List Sm) {sts : List Stmt}, suOk ss = true → chkSs g names ss sts = true → PSs Y sts (xS Y W0 (runs Γ ss))
  | [], sts, _, h => by
    simp only [chkSs] at h
    split at h
    · exact pss_nilD
    · cases h
  | .asg (.nm i) e :: ss, sts, hs, h => by
    simp only [suOk, Bool.and_eq_true] at hs
    simp only [chkSs] at h
    split at h
    · simp only [Bool.and_eq_true] at h
      refine pss_consD ?_ (okSu C hN he hf ss hs.2 h.2)
      have h1 := h.1
      simp only [chkS] at h1
      split at h1
      · simp only [Bool.and_eq_true] at h1
        obtain ⟨⟨⟨hlk, ht⟩, hv⟩, hlast⟩ := h1
        have V := okU (Y := Y) C.ctx e hN he hs.1 hv
        rename_i t v pos
        cases t with
        | Name y py =>
          simp only [chkTg, Bool.and_eq_true, decide_eq_true_eq] at ht
          have hl := C.ctx.locs ht.2
          have G : PG Y (.Name y py) (xG Y (.nm i)) := pg_nmD (by rw [hN, C.ctx.N]; exact C.ctx.nd) (by rw [hN, C.ctx.N]; exact ht.1) (by rw [he]; exact hl.1) (by rw [hf, he]; exact hl.2)
          have hnc : notComp v = true := by
            cases e <;> first | (cases hs.1; done) | (cases v <;> first | rfl | (simp [chkE] at hv; done))
          exact ps_asgD V G (noswap hnc) nostoreN rfl
        | _ => simp [chkTg] at ht
      · cases h1
    · cases h
  | [.ret none], sts, _, h => by
    simp only [chkSs, chkS] at h
    split at h
    · simp only [Bool.and_eq_true] at h
      refine pss_consD ?_ ?_
      · have h1 := h.1
        split at h1
        · exact ps_retND
        · cases h1
      · have h1 := h.2
        split at h1
        · exact pss_nilD
        · cases h1
    · cases h
  | [.ret (some e)], sts, hs, h => by
    simp only [chkSs, chkS] at h
    split at h
    · simp only [Bool.and_eq_true] at h
      refine pss_consD ?_ ?_
      · have h1 := h.1
        split at h1
        · exact ps_retD (okU (Y := Y) C.ctx e hN he hs h1)
        · cases h1
      · have h1 := h.2
        split at h1
        · exact pss_nilD
        · cases h1
    · cases h
  | [.cont], sts, _, h => by
    simp only [chkSs, chkS] at h
    split at h
    · simp only [Bool.and_eq_true] at h
      refine pss_consD ?_ ?_
      · have h1 := h.1
        split at h1
        · exact ps_contD
        · cases h1
      · have h1 := h.2
        split at h1
        · exact pss_nilD
        · cases h1
    · cases h
  | [.brk], sts, _, h => by
    simp only [chkSs, chkS] at h
    split at h
    · simp only [Bool.and_eq_true] at h
      refine pss_consD ?_ ?_
      · have h1 := h.1
        split at h1
        · exact ps_brkD
        · cases h1
      · have h1 := h.2
        split at h1
        · exact pss_nilD
        · cases h1
    · cases h
  | [.pass], sts, _, h => by
    simp only [chkSs, chkS] at h
    split at h
    · simp only [Bool.and_eq_true] at h
      refine pss_consD ?_ ?_
      · have h1 := h.1
        split at h1
        · exact ps_passD
        · cases h1
      · have h1 := h.2
        split at h1
        · exact pss_nilD
        · cases h1
    · cases h
theorem simp_noexc {e : Ex} {ρ : EnvD} {S : Store} (hs : simpU e = true) : ∀ x S', sem Γ e ρ S ≠ .exc x S' := by
  intro x S' z
  cases e with
  | non => simp only [sem] at z; cases z
  | bl b => simp only [sem] at z; cases z
  | int b => simp only [sem] at z; cases z
  | str b => simp only [sem] at z; cases z
  | var i =>
    simp only [sem] at z
    split at z <;> cases z
  | _ => cases hs
theorem su_noexc : ∀ (ss : List Sm), suOk ss = true → ∀ ρ S e ρ' S', runs Γ ss ρ S ≠ .exc e ρ' S'
  | [], _, ρ, S, e, ρ', S', z => by simp only [runs] at z; cases z
  | .asg (.nm i) x :: ss, hs, ρ, S, e, ρ', S', z => by
    simp only [suOk, Bool.and_eq_true] at hs
    simp only [runs, run] at z
    have q := simp_noexc (Γ := Γ) (ρ := ρ) (S := S) hs.1
    cases h : sem Γ x ρ S with
    | ok d S1 =>
      rw [h] at z
      simp only [SR.ofE, bindTg] at z
      exact su_noexc ss hs.2 _ _ _ _ _ z
    | exc y S1 => exact q _ _ h
    | bad => rw [h] at z; simp only [SR.ofE] at z; cases z
  | [.ret none], _, ρ, S, e, ρ', S', z => by simp only [runs, run] at z; cases z
  | [.ret (some x)], hs, ρ, S, e, ρ', S', z => by
    simp only [runs, run] at z
    have q := simp_noexc (Γ := Γ) (ρ := ρ) (S := S) hs
    cases h : sem Γ x ρ S with
    | ok d S1 => rw [h] at z; simp only [SR.ofE] at z; cases z
    | exc y S1 => exact q _ _ h
    | bad => rw [h] at z; simp only [SR.ofE] at z; cases z
  | [.cont], _, ρ, S, e, ρ', S', z => by simp only [runs, run] at z; cases z
  | [.brk], _, ρ, S, e, ρ', S', z => by simp only [runs, run] at z; cases z
  | [.pass], _, ρ, S, e, ρ', S', z => by simp only [runs, run] at z; cases z
end
mutual
theorem okS {g : Gs} {names : Nms} {Γ : Gm} : ∀ (s : Sm) {X : Cx} {Wx : WX} {st : Stmt}, StOk X g names Γ Wx → chkS g names s st = true → PS X st (xS X Wx (run Γ s))
  | .asg tg e, X, Wx, st, C, h => by
    have h0 := h
    simp only [chkS] at h
    split at h
    · exact okAsg C h0
    · cases h
  | .setIx o i e, X, Wx, st, C, h => by
    simp only [chkS] at h
    split at h
    · simp only [Bool.and_eq_true] at h
      exact ps_setIxD (okE o C.ctx h.1.1.2).1 (okE i C.ctx h.1.2).1 (okE e C.ctx h.2).1 noswapS (asg_sub h.1.1.1)
    · cases h
  | .dput o i e, X, Wx, st, C, h => by
    simp only [chkS] at h
    split at h
    · simp only [Bool.and_eq_true] at h
      exact ps_dputD (by have := C.ctx.hu; omega) (okE o C.ctx h.1.1).1 (okE i C.ctx h.1.2).1 (okE e C.ctx h.2).1 noswapD
    · cases h
  | .fput o f e, X, Wx, st, C, h => by
    simp only [chkS] at h
    split at h
    · simp only [Bool.and_eq_true, decide_eq_true_eq] at h
      obtain ⟨⟨rfl, h1⟩, h2⟩ := h
      exact ps_fputD (okE o C.ctx h1).1 (okE e C.ctx h2).1 noswapA
    · cases h
  | .lock d a, X, Wx, st, C, h => by
    simp only [chkS] at h
    exact ps_lockD (okS a C h)
  | .setIx2 o i o2 i2 e, X, Wx, st, C, h => by
    simp only [chkS] at h
    split at h
    · simp only [Bool.and_eq_true] at h
      exact ps_setIx2D C.ctx.calm (okE o C.ctx h.1.1.1.1.2).1 (okE i C.ctx h.1.1.1.2).1 (okE o2 C.ctx h.1.1.2).1 (okE i2 C.ctx h.1.2).1 (okE e C.ctx h.2).1 noswapT nostoreS (asg_sub h.1.1.1.1.1.1) (asg_sub h.1.1.1.1.1.2)
    · cases h
  | .expr e, X, Wx, st, C, h => by
    simp only [chkS] at h
    split at h
    · simp only [Bool.and_eq_true] at h
      exact ps_exprD (okE e C.ctx h.2).1 (noswapE h.1)
    · cases h
  | .ret none, X, Wx, st, C, h => by
    simp only [chkS] at h
    split at h
    · exact ps_retND
    · cases h
  | .ret (some e), X, Wx, st, C, h => by
    simp only [chkS] at h
    split at h
    · exact ps_retD (okE e C.ctx h).1
    · cases h
  | .ife c a b, X, Wx, st, C, h => by
    simp only [chkS] at h
    split at h
    · simp only [Bool.and_eq_true] at h
      exact ps_ifD ((okE c C.ctx h.1.1.2).2 h.1.1.1) (okSs a C h.1.2) (okSs b C h.2)
    · cases h
  | .for tg src body, X, Wx, st, C, h => by
    simp only [chkS] at h
    split at h
    · simp only [Bool.and_eq_true] at h
      exact ps_forD C.own C.ctx.calm (okSrc src C.ctx h.1.2) (okTg tg C.ctx h.1.1.2) (okSs body C h.2) (fold_of h.1.1.1)
    · cases h
  | .while c body, X, Wx, st, C, h => by
    simp only [chkS] at h
    split at h
    · simp only [Bool.and_eq_true] at h
      exact ps_whileD C.own ((okE c C.ctx h.1.2).2 h.1.1) (okSs body C h.2)
    · cases h
  | .pass, X, Wx, st, C, h => by
    simp only [chkS] at h
    split at h
    · exact ps_passD
    · cases h
  | .brk, X, Wx, st, C, h => by
    simp only [chkS] at h
    split at h
    · exact ps_brkD
    · cases h
  | .cont, X, Wx, st, C, h => by
    simp only [chkS] at h
    split at h
    · exact ps_contD
    · cases h
  | .raiseX c ups k es, X, Wx, st, C, h => by
    simp only [chkS] at h
    split at h
    · rename_i y p as pos' pos
      simp only [Bool.and_eq_true, decide_eq_true_eq] at h
      obtain ⟨⟨⟨⟨⟨h1, h2⟩, h3⟩, h4⟩, h5⟩, h6⟩ := h
      subst h1
      obtain ⟨q1, q2⟩ := okL es C.ctx h6
      cases as with
      | nil => cases h5
      | cons a as =>
        simp only [List.all_cons, Bool.and_eq_true] at q2
        exact ps_raiseXD (C.ctx.xs _ _ _ h2) C.ctx.calm C.ctx.takes (C.ctx.gls h3) (okNm_1 h4) q1 (star_of q2.1) (star_any q2.2)
    · cases h
  | .tryNote body c i j, X, Wx, st, C, h => by
    simp only [chkS] at h
    split at h
    · simp only [Bool.and_eq_true, decide_eq_true_eq, isLoc, beq_iff_eq] at h
      obtain ⟨⟨⟨⟨⟨⟨⟨⟨⟨⟨⟨h1, h2⟩, h3⟩, h4⟩, h5⟩, h6⟩, h7⟩, h8⟩, h9⟩, h10⟩, h11⟩, h12⟩ := h
      subst h1 h9
      obtain ⟨C', hC⟩ := C.ctx.xn _ h2
      exact ps_tryNoteD C.stk C.fr C.ex (by rw [C.ctx.N]; exact C.ctx.nd) (by rw [C.ctx.N]; exact h6) ((C.look _).trans h7) (by rw [C.ctx.N]; exact h10) (C.ctx.loc _ h11) (.inl (C.ctx.loc _ h7)) (okNm_1 h8) (okNm_2 h8) h3 hC (C.ctx.gls h4) (okNm_1 h5) C.ctx.takes fun W pn xe t po => okSs body (C.tr t po) h12
    · cases h
  | .tryTwo body c1 z1 c2 i j z f, X, Wx, st, C, h => by
    simp only [chkS] at h
    split at h
    · simp only [Bool.and_eq_true, decide_eq_true_eq, isLoc, beq_iff_eq] at h
      obtain ⟨⟨⟨⟨⟨⟨⟨⟨⟨⟨⟨⟨⟨⟨⟨⟨⟨⟨⟨h1, h2⟩, h3⟩, h4⟩, h5⟩, h6⟩, h7⟩, h8⟩, h9⟩, h10⟩, h11⟩, h12⟩, h13⟩, h14⟩, h15⟩, h16⟩, h17⟩, h18⟩, h19⟩, h20, h21⟩ := h
      subst h1 h2 h3 h4 h5 h6 h7
      obtain ⟨C1, hC1⟩ := C.ctx.xn _ h8
      obtain ⟨C2, hC2⟩ := C.ctx.xn _ h9
      exact ps_tryTwoD C.stk C.fr C.ex (by rw [C.ctx.N]; exact C.ctx.nd) (by rw [C.ctx.N]; exact h16) ((C.look _).trans h17) (by rw [C.ctx.N]; exact h19) (C.ctx.loc _ h20) (.inl (C.ctx.loc _ h17)) (okNm_1 h18) (okNm_2 h18) h10 hC1 (C.ctx.gls h12) (okNm_1 h14) h11 hC2 (C.ctx.gls h13) (okNm_1 h15) C.ctx.takes fun W pn xe t po => okSs body (C.tr t po) h21
    · cases h
  | .tryOnly body c suite, X, Wx, st, C, h => by
    simp only [chkS] at h
    split at h
    · rename_i b y np st' pos' pos
      simp only [Bool.and_eq_true, decide_eq_true_eq] at h
      obtain ⟨⟨⟨⟨⟨⟨⟨⟨h1, h2⟩, h3⟩, h4⟩, h5⟩, h6⟩, h7⟩, h8⟩, h9⟩ := h
      subst h1
      obtain ⟨C', hC⟩ := C.ctx.xn _ h2
      cases st' with
      | nil => cases h6
      | cons b₀ st' => exact ps_tryOnlyD C.stk C.fr h3 hC (C.ctx.gls h4) (okNm_1 h5) C.ctx.takes (fun W pn xe t po => okSs body (C.tr t po) h8) (fun a oe pn => okSu (Y := X.suite a ((a, oe) :: pn)) C rfl rfl rfl suite h7 h9) (su_noexc suite h7)
    · cases h
  | .tryElse body c suite els, X, Wx, st, C, h => by
    simp only [chkS] at h
    split at h
    · rename_i b y np st' pos' els' pos
      simp only [Bool.and_eq_true, decide_eq_true_eq] at h
      obtain ⟨⟨⟨⟨⟨⟨⟨⟨⟨h1, h2⟩, h3⟩, h4⟩, h5⟩, h6⟩, h7⟩, h8⟩, h9⟩, h10⟩ := h
      subst h1
      obtain ⟨C', hC⟩ := C.ctx.xn _ h2
      cases st' with
      | nil => cases h6
      | cons b₀ st' => exact ps_tryElseD C.stk C.fr h3 hC (C.ctx.gls h4) (okNm_1 h5) C.ctx.takes (fun W pn xe t po => okSs body (C.tr t po) h8) (fun a oe pn => okSu (Y := X.suite a ((a, oe) :: pn)) C rfl rfl rfl suite h7 h9) (su_noexc suite h7) (okSs els C h10)
    · cases h
  | .raise, X, Wx, st, C, h => ⟨fun pins s σ H D I q => by
    obtain ⟨ρ, w, S, s, r, q⟩ := q
    simp only [run] at q
    exact q.elim⟩
theorem okSs {g : Gs} {names : Nms} {Γ : Gm} : ∀ (ss : List Sm) {X : Cx} {Wx : WX} {sts : List Stmt}, StOk X g names Γ Wx → chkSs g names ss sts = true → PSs X sts (xS X Wx (runs Γ ss))
  | [], X, Wx, sts, C, h => by
    simp only [chkSs] at h
    split at h
    · exact pss_nilD
    · cases h
  | s :: ss, X, Wx, sts, C, h => by
    simp only [chkSs] at h
    split at h
    · simp only [Bool.and_eq_true] at h
      exact pss_consD (okS s C h.1) (okSs ss C h.2)
    · cases h
end

/-! ### defs -/
section
variable {P : Program} {w : World} {K : PySem.W.Frag} {mg : Str → Option Value} {base : Heap}
/-- a def by its name: what it means is true of it -/
structure Callee (P : Program) (w : World) (K : PySem.W.Frag) (mg : Str → Option Value) (base : Heap) (k : Nat) (x : Str) (f : Fn) : Prop where
  ex : ∃ (fa : Addr) (fd : FuncData) (ps : List Str) (n : Nat), FnG P w K mg base k fa fd ps (spF K mg n f) ∧ mg x = some (.ref fa) ∧ PySem.W.keepIn K (.ref fa) = true ∧ Binds K fd ps [] ∧ ∀ ds S, f ds S ≠ .bad → ds.length = n
theorem Callee.mono {j k : Nat} {x : Str} {f : Fn} (h : Callee P w K mg base j x f) (l : j ≤ k) : Callee P w K mg base k x f := by
  obtain ⟨fa, fd, ps, n, F, r⟩ := h.ex
  exact ⟨fa, fd, ps, n, F.mono l, r⟩
/-- what stands around a def: callees, constants, built-ins -/
structure Around1 (P : Program) (w : World) (K : PySem.W.Frag) (mg : Str → Option Value) (base : Heap) (k : Nat) (g : Gs) (Γ : Gm) : Prop where
  tab : ∀ (j : Nat) (x : Str) (f : Fn), g.tabN[j]? = some x → Γ.tab[j]? = some f → Callee P w K mg base k x f
  tabl : g.tabN.length = Γ.tab.length
  gl : ∀ (j : Nat) (x : Str) (d : D), g.globN[j]? = some x → Γ.glob[j]? = some d → ∃ u v, mg x = some u ∧ RelV v u ∧ ∀ w, Rep K w d v
  gll : g.globN.length = Γ.glob.length
  bn : ∀ x, x ∈ g.bn → mg x = none
  xs : ∀ c ups ini, (c, ups, ini) ∈ g.xs → ∃ j, j + 1 ≤ k ∧ Maker P w K mg base j c ups ini
  xn : ∀ c, c ∈ g.xn → ∃ C, mg c = some (.ref C)
  mt : ∀ (j : Nat) (c m : Str) (f : Fn), g.ms[j]? = some (c, m) → Γ.mt[j]? = some f → (∃ i, i + 1 ≤ k ∧ CalleeM P w K mg base i c m f) ∧ ∃ C, mg c = some (.ref C) ∧ Cls K C
  mtl : g.ms.length = Γ.mt.length
/-- the def's names, its body held against the text -/
def scopeB (N ps : List Str) (sc : Scope) : Bool :=
  (match sc.kind with | .function => true | _ => false) && !sc.isCoroutine && !sc.isGenerator && decide N.Nodup && decide (N.take ps.length = ps) && ps.all (fun x => locB sc.names x) && sc.names.all (fun y => match y.2 with | .free => false | _ => true)
theorem scope_of {N ps : List Str} {sc : Scope} (h : scopeB N ps sc = true) : FnScope N ps sc := by
  simp only [scopeB, Bool.and_eq_true, Bool.not_eq_true', decide_eq_true_eq, List.all_eq_true] at h
  obtain ⟨⟨⟨⟨⟨⟨h1, h2⟩, h3⟩, h4⟩, h5⟩, h6⟩, h7⟩ := h
  refine ⟨?_, h2, h3, h4, h5, fun x hx => ?_, fun y hy e => ?_⟩
  · split at h1
    · assumption
    · cases h1
  · have := h6 x hx
    unfold locB at this
    split at this
    · exact .inl (by assumption)
    · exact .inr (by assumption)
    · cases this
  · have := h7 y hy
    rw [e] at this
    cases this
theorem reps_start {K : PySem.W.Frag} {w : Wd} {ds : List D} {vs : List V} {n : Nat} (r : Reps K w ds vs) : EnvRep K w (ds.map some ++ List.replicate n none) (vs.map some ++ List.replicate n none) := by
  refine ⟨by simp [r.length], fun i d e => ?_⟩
  by_cases hi : i < ds.length
  · rw [List.getElem?_append_left (by simpa using hi), List.getElem?_map] at e
    cases q : ds[i]? with
    | none => rw [q] at e; cases e
    | some d' =>
      rw [q] at e
      cases e
      obtain ⟨v, e1, e2⟩ := r.get q
      refine ⟨v, ?_, e2⟩
      rw [List.getElem?_append_left (by rw [List.length_map, ← r.length]; exact hi), List.getElem?_map, e1]
      rfl
  · rw [List.getElem?_append_right (by simpa using hi), List.getElem?_replicate] at e
    split at e <;> cases e
theorem def_ok {x qual : Str} {st : Stmt} {f : Addr} {fd : FuncData} {ps : List Str} {k : Nat} {g : Gs} {Γ : Gm} {body : List Sm} (F : Fun K x qual st f fd) (A : Around1 P w K mg base k g Γ) (hs : scopeB g.N ps (defScope st) = true)
    (hb : chkSs g (defScope st).names body (defBody st) = true) : FnG P w K mg base (k + 1) f fd ps (spF K mg ps.length (fnOf Γ g.N.length ps.length body)) := by
  have S := scope_of hs
  refine FnG.of F S (fun vs H Q E h => h.1) fun cdv Ar outer s H vs Q E hc hr h => ?_
  obtain ⟨hl, w0, S0, ds, sim, reps, h⟩ := h
  let X := cxOf (L2.CX P w) P w K mg base g.N qual (defScope st) f cdv Ar outer s H E
  have C : StOk X g (defScope st).names Γ (fun cls d _ H' => E cls d H') := by
    refine ⟨⟨rfl, S.nd, fun x e => e, fun x e => e, fun x e => .inl e, fun x e => e, fun _ _ => rfl, rfl, ?_, hc, takes_of rfl rfl rfl rfl, fun j x fn a b => ?_, A.tabl, A.gl, A.gll, A.bn, fun c ups ini h => (A.xs c ups ini h).elim fun j q => ⟨⟨j, q.2, hr.mono q.1⟩⟩, A.xn, fun j c m fn a b => ?_, A.mtl⟩, fun _ => rfl, S.kind, passes_of (X := X) rfl, rfl, rfl, rfl⟩
    · have := hr.un
      show (Ar.deeper _).units + 70 < cLine
      omega
    · obtain ⟨fa, fd', ps', n, F', hm, hk, hb, hn⟩ := (A.tab j x fn a b).ex
      exact ⟨fa, fd', ps', k, n, F', ⟨hc, hr⟩, hm, hk, hb, hn⟩
    · obtain ⟨⟨i, hi, M⟩, q⟩ := A.mt j c m fn a b
      exact ⟨⟨i, M, hc, hr.mono hi⟩, q⟩
  refine ⟨_, okSs body C hb, _, w0, S0, sim, reps_start (n := g.N.length - vs.length) reps, ?_⟩
  have hl2 : ds.length = ps.length := reps.length.trans hl
  unfold fnOf at h
  rw [if_pos hl2] at h
  rw [show g.N.length - vs.length = g.N.length - ps.length from by rw [hl]]
  cases e : runs Γ body (ds.map some ++ List.replicate (g.N.length - ps.length) none) S0 with
  | nx ρ1 S1 =>
    rw [e] at h
    exact fun w' H' σ' y r => h w' H' y _ .non
  | rt d S1 =>
    rw [e] at h
    exact fun w' H' v y r => h w' H' y _ r
  | exc x ρ1 S1 =>
    rw [e] at h
    exact fun w' H' σ' cls d y r q => h w' H' cls d y q
  | bk ρ1 S1 => rw [e] at h; exact h.elim
  | ct ρ1 S1 => rw [e] at h; exact h.elim
  | bad => rw [e] at h; exact h.elim

/-! ### defs that hand on no cells -/
theorem repF_pure {w w' : Wd} (e : GLe w.G w'.G) (f : w'.fa = w.fa) : ∀ {fs : List (Str × D)} {ws : List (Str × V)}, fs.all (fun p => p.2.pure) = true → RepF K w fs ws → RepF K w' fs ws
  | _, _, _, .nil => .nil
  | _, _, p, .cons h r => by
    simp only [List.all_cons, Bool.and_eq_true] at p
    exact .cons (h.ofPure e f p.1) (repF_pure e f p.2 r)
theorem sp_pure {n : Nat} {f : Fn} {vs : List V} {H : Hp} {Q : VK} {E : XK} (h : spF K mg n (pureFn f) vs H Q E) : spF K mg n f vs H Q E := by
  obtain ⟨hl, w, S, ds, sim, reps, h⟩ := h
  let w0 : Wd := { G := w.G, m := w.m, N := 0, fa := w.fa }
  have nolive : ∀ n, ¬ Live [] n := fun n ⟨c, e⟩ => by simp at e
  have sim0 : Sim K mg w0 [] H := ⟨rfl, sim.le, fun n c e => by simp at e, fun i j l _ => (nolive i l).elim, fun n l => (nolive n l).elim, sim.fa⟩
  -- back to the caller's world
  have back : ∀ (w' : Wd) (S' : Store) (H' : Hp), Ext K mg w0 [] H w' S' H' → Ext K mg w S H { G := w'.G, m := w.m, N := w.N, fa := w.fa } S H' := fun w' S' H' x => by
    have le : Wd.Le w { G := w'.G, m := w.m, N := w.N, fa := w.fa } := ⟨x.wle.g, Nat.le_refl _, fun _ _ => rfl, rfl⟩
    have kp : ∀ a o, H a = some o → H' a = some o := fun a o e => x.keep a o e fun n l => (nolive n l).elim
    refine ⟨⟨⟨sim.len, x.sim.le, fun n c e => ?_, sim.inj, fun n l => ?_, sim.fa⟩, le, fun a o e _ => kp a o e, fun a e => ?_, fun n l => .inl l, x.trk⟩, fun n z => ⟨rfl, by
      obtain ⟨ks, e⟩ := z
      obtain ⟨o, e1, _⟩ := sim.cell n _ e
      rw [kp _ _ e1, e1]⟩⟩
    · obtain ⟨o, e1, r⟩ := sim.cell n c e
      exact ⟨o, kp _ _ e1, r.mono le⟩
    · cases q : w'.G (w.m n) with
      | none => rfl
      | some o =>
        obtain ⟨c, hc⟩ := l
        obtain ⟨o2, e1, _⟩ := sim.cell n c hc
        rcases x.gfree _ (show w'.G (w.m n) ≠ none by rw [q]; simp) with z | z | ⟨m, l, _⟩
        · exact absurd (sim.apart n ⟨c, hc⟩) z
        · rw [e1] at z; cases z
        · exact (nolive m l).elim
    · rcases x.gfree a e with z | z | ⟨m, l, _⟩
      · exact .inl z
      · exact .inr (.inl z)
      · exact (nolive m l).elim
  unfold pureFn at h
  split at h
  · rename_i hp
    refine ⟨hl, w0, [], ds, sim0, Reps.ofPure (w := w) (w' := w0) (GLe.refl w.G) rfl hp reps, ?_⟩
    cases e : f ds [] with
    | ok d S' =>
      rw [e] at h
      simp only at h
      split at h
      · rename_i hd
        intro w' H' x v rv
        exact h _ _ (back w' S' H' x) v (Rep.ofPure (w := w') (w' := { G := w'.G, m := w.m, N := w.N, fa := w.fa }) (GLe.refl w'.G) x.wle.f.symm hd rv)
      · exact h.elim
    | exc e' S' =>
      rw [e] at h
      simp only at h
      split at h
      · rename_i hd
        intro w' H' cls d x rx
        refine h _ _ cls d (back w' S' H' x) ?_
        obtain ⟨C, h1, h2, hT, h3⟩ := rx
        refine ⟨C, h1, h2, hT, h3.imp id fun ⟨a, ws, q1, q2, q3⟩ => ⟨a, ws, q1, q2, repF_pure (w := w') (w' := { G := w'.G, m := w.m, N := w.N, fa := w.fa }) (GLe.refl w'.G) x.wle.f.symm hd q3⟩⟩
      · exact h.elim
    | bad =>
      rw [e] at h
      exact h.elim
  · exact h.elim
theorem callee_def {x : Str} {st : Stmt} {f : Addr} {fd : FuncData} {ps : List Str} {k : Nat} {g : Gs} {Γ : Gm} {body : List Sm} (F : Fun K x x st f fd) (hm : mg x = some (.ref f)) (A : Around1 P w K mg base k g Γ) (hs : scopeB g.N ps (defScope st) = true)
    (hb : chkSs g (defScope st).names body (defBody st) = true) (hB : Binds K fd ps []) : Callee P w K mg base (k + 1) x (fnOf Γ g.N.length ps.length body) :=
  ⟨f, fd, ps, ps.length, def_ok F A hs hb, hm, F.kp, hB, fun ds S h => by
    unfold fnOf at h
    split at h
    · assumption
    · exact absurd rfl h⟩
theorem Callee.pure {k : Nat} {x : Str} {f : Fn} (h : Callee P w K mg base k x f) : Callee P w K mg base k x (pureFn f) := by
  obtain ⟨fa, fd, ps, n, F, hm, hk, hB, hn⟩ := h.ex
  refine ⟨fa, fd, ps, n, F.imp fun vs H Q E q => sp_pure q, hm, hk, hB, fun ds S z => hn ds [] fun e => ?_⟩
  unfold pureFn at z
  rw [e] at z
  split at z <;> exact z rfl

/-- nothing is promised -/
theorem Callee.none {x : Str} {st : Stmt} {f : Addr} {fd : FuncData} {ps : List Str} {k : Nat} (F : Fun K x x st f fd) (hm : mg x = some (.ref f)) (hB : Binds K fd ps []) : Callee P w K mg base k x (fun _ _ => .bad) :=
  ⟨f, fd, ps, ps.length, ⟨fun vs H Q E ⟨hl, _⟩ => hl, fun A outer s H args us vs Q E _ _ _ _ _ ⟨_, w, S, ds, _, _, h⟩ => h.elim⟩, hm, F.kp, hB, fun ds S h => absurd rfl h⟩

/-! ### the law -/
/-- the law's promise: of any script it hands on True -/
def spLaw (K : PySem.W.Frag) : Sp := fun vs H Q _ => ∃ (a : Addr) (ns : List Int), vs = [.ref a] ∧ SqL K H a (ns.map V.int) ∧ ns.length ≤ 63 ∧ ∀ H', Q (.bl true) H'
theorem law_of {k : Nat} {f : Addr} {fd : FuncData} {ps : List Str} {fn : Fn} (F : FnG P w K mg base k f fd ps (spF K mg 1 fn)) (h : ∀ ns : List Int, ns.length ≤ 63 → ∃ S', fn [.scr ns] [] = .ok (.bl true) S') :
    FnG P w K mg base k f fd ps (spLaw K) := F.imp fun vs H Q E ⟨a, ns, e, hs, hl, q⟩ => by
  subst e
  let G : Hp := fun b => if b = a then H b else none
  have sG : Same G H := fun b o e => by
    have e : (if b = a then H b else none) = some o := e
    split at e
    · exact e
    · cases e
  have ga : G a = H a := if_pos rfl
  let w0 : Wd := { G := G, m := fun _ => 0, N := 0, fa := mg }
  have sim : Sim K mg w0 [] H := ⟨rfl, sG, fun n c e => by simp at e, fun i j ⟨c, e⟩ _ => by simp at e, fun n ⟨c, e⟩ => by simp at e, rfl⟩
  have rs : SqL K w0.G a (ns.map V.int) := by
    rcases hs with (z | ⟨o, z⟩) | z
    · exact .inl (.inl (by rw [← z]; exact ga))
    · exact .inl (.inr ⟨o, by rw [← z]; exact ga⟩)
    · exact .inr z
  obtain ⟨S', e⟩ := h ns hl
  refine ⟨rfl, w0, [], [.scr ns], sim, .cons (.scr rs) .nil, ?_⟩
  rw [e]
  intro w' H' x v rv
  cases rv
  exact q H'
theorem cx_none {H : Hp} {s : Shared} {e : Value} {s' : Shared} (h : L2.CX P w [] H s (fun _ _ _ => False) e s') : False := by
  obtain ⟨_, _, _, _, _, _, _, _, _, _, _, _, z⟩ := h
  exact z
end
end DL

/-! DLgb: the end of a law whose defs are called while nothing is being shown. -/
namespace DL
open PySem PySem.Spec PyProof.Rows L2
section
variable {P : Program} {w : World} {K : PySem.W.Frag} {mg mb : Str → Option Value} {k : Nat} {fa a : Addr} {fd : FuncData} {x : Str} {sp : Sp} {s1 : Shared} {vs : List Value} {ns : List Int}
/-- how the law's run ends -/
def Done (s1 : Shared) (r : Result) (s2 : Shared) : Prop := r = .ok (.ret (.bool true)) ∧ OldK s1.heap s2.heap ∧ s2.os = s1.os ∧ AllBare s2.gens
/-- nothing but the script is tracked -/
structure Scr1 (K : PySem.W.Frag) (H : Hp) (a : Addr) : Prop where
  only : Only H
  self : ∀ b, H b ≠ none → b = a
  free : H a ≠ none → K.lookup a = none
/-- what is hidden is not a dict's or a fragment's place -/
theorem Scr1.none_of {H : Hp} (t : Scr1 K H a) {b : Addr} (h : b = a → False ∨ K.lookup a ≠ none) : H b = none := by
  cases q : H b with
  | none => rfl
  | some u =>
    have n : H b ≠ none := fun z => by rw [q] at z; cases z
    have e := t.self b n
    subst e
    rcases h rfl with z | z
    · exact z.elim
    · exact absurd (t.free n) z
theorem law_run {H : Hp} (t : Scr1 K H a) (inK : K.In s1.heap) (nG : s1.heap.Ns mainGlobals mg) (nB : s1.heap.Ns builtinsNs mb) (bB : ∀ x : Str, x ≠ "__name__" → mb x = bootBuiltins x) (nL : s1.heap.NoLimit) (g0 : s1.gens = #[])
    (oa : s1.heap.get? a = some { cls := .type "list", data := .seq vs.toArray }) (room : Room k callerA) (hok : HOk P w H s1.heap)
    (F : ∀ base : Heap, K.In base → base.Ns mainGlobals mg → FnG P w K mg base k fa fd [x] sp) (bnd : ∀ (s : Shared) (u : Value), BindsTo s fd ⟨[u], []⟩ [(x, u)])
    (S : sp [.ref a] H (fun v _ => v = .bl true) fun _ _ _ => False) (noE : ∀ e s2, (L2.CX P w) [] H s1 (fun _ _ _ => False) e s2 → False) :
    codeAny (model P w) callerA (.call (.ref fa) ⟨[.ref a], []⟩) (Done s1) s1 := by
  have ns : ∀ {b : Addr} {m : Str → Option Value}, s1.heap.Ns b m → (hidT s1.heap H).Ns b m := by
    rintro b m ⟨o, es, ep, e, d, r⟩
    refine ⟨o, es, ep, hidT_get e (t.none_of fun z => .inl ?_), d, r⟩
    subst z
    rw [oa] at e
    cases e
    cases (show Data.seq vs.toArray _ = Data.dict es ep from d)
  have inB : K.In (hidT s1.heap H) := fun b o e => hidT_get (inK b o e) (t.none_of fun z => .inr fun q => by subst z; rw [q] at e; cases e)
  obtain ⟨mc, l1, l2⟩ := nL
  have M : Mod K mg (hidT s1.heap H) := ⟨inB, ns nG, ⟨mb, ns nB, bB⟩, ⟨mc, ns l1, l2⟩⟩
  have E0 : Env0 P w K mg (hidT s1.heap H) callerA [] s1 H := { frames := rfl, mod := M, bs := fun _ _ => of_hidT, bsz := Nat.le_of_eq (hidT_size _ _), funs := trivial, frf := fun b z => (List.not_mem_nil (show b ∈ ([] : List Addr) from z)).elim, hok := hok, bare := .of_eq g0 }
  refine codeAny_mono ((F _ inB (ns nG)).go callerA [] s1 H _ [.ref a] [.ref a] _ _ rfl room E0 (bnd s1 _) (.cons rfl .nil) S) ?_
  intro r s2 z
  match r, z with
  | .error e, z => exact (noE e s2 z).elim
  | .ok .next, z => exact z.elim
  | .ok .brk, z => exact z.elim
  | .ok .cont, z => exact z.elim
  | .ok (.ret u), ⟨v, H2, os, bare, un, ok2, rv, q⟩ =>
    cases (show v = V.bl true from q)
    cases (show u = Value.bool true from rv)
    refine ⟨rfl, OldK.of_keep fun b o e => ?_, os, bare⟩
    rcases t.only b with n | ⟨ob, xs, n⟩
    · exact un.keep b o e n (fun z => (List.not_mem_nil (show b ∈ ([] : List Addr) from z)).elim) (fun z => (List.not_mem_nil z).elim)
    · obtain ⟨p1, _⟩ := hok b _ n
      obtain ⟨p2, _⟩ := ok2 b _ (un.frzs b ob _ n)
      rw [p1] at e
      cases e
      exact p2
theorem law_callG (inK : K.In s1.heap) (nG : s1.heap.Ns mainGlobals mg) (nB : s1.heap.Ns builtinsNs mb) (bB : ∀ x : Str, x ≠ "__name__" → mb x = bootBuiltins x) (nL : s1.heap.NoLimit) (g0 : s1.gens = #[])
    (oa : s1.heap.get? a = some { cls := .type "list", data := .seq vs.toArray }) (hi : IntsAre vs ns) (hl : ns.length ≤ sizeLine) (room : Room k callerA)
    (F : ∀ base : Heap, K.In base → base.Ns mainGlobals mg → FnG P w K mg base k fa fd [x] sp) (bnd : ∀ (s : Shared) (u : Value), BindsTo s fd ⟨[u], []⟩ [(x, u)])
    (S : ∀ H : Hp, Only H → SqL K H a (ns.map V.int) → sp [.ref a] H (fun v _ => v = .bl true) fun _ _ _ => False) (noE : ∀ H e s2, (L2.CX P w) [] H s1 (fun _ _ _ => False) e s2 → False) :
    codeAny (model P w) callerA (.call (.ref fa) ⟨[.ref a], []⟩) (Done s1) s1 := by
  have rv := vals_ints hi
  have lv : vs.length = ns.length := hi.length
  cases hk : K.lookup a with
  | some o =>
    have e := inK a o hk
    rw [oa] at e
    cases e
    refine law_run (H := fun _ => none) ⟨fun _ => .inl rfl, fun _ z => (z rfl).elim, fun z => (z rfl).elim⟩ inK nG nB bB nL g0 oa room (fun b u z => nomatch (show (none : Option HO) = some u from z)) F bnd (S _ (fun _ => .inl rfl) ?_) (noE _)
    exact .inr ⟨_, vs.toArray, _, hk, rfl, rfl, rfl, by rw [List.size_toArray, lv]; exact hl, by simpa using rv⟩
  | none =>
    let u0 : HO := .frz { cls := .type "list", data := .seq vs.toArray } (.lst (ns.map V.int))
    have yes : ∀ {b : Addr} {z : HO}, (if b = a then some u0 else none) = some z → b = a ∧ z = u0 := fun {b z} h => by
      split at h
      · cases h; exact ⟨by assumption, rfl⟩
      · cases h
    have only : Only fun b => if b = a then some u0 else none := fun b => by
      by_cases h : b = a
      · exact .inr ⟨_, _, if_pos h⟩
      · exact .inl (if_neg h)
    refine law_run (H := fun b => if b = a then some u0 else none) ⟨only, fun b z => Classical.byContradiction fun h => z (if_neg h), fun _ => hk⟩ inK nG nB bB nL g0 oa room ?_ F bnd (S _ only (.inl (.inr ⟨_, if_pos rfl⟩))) (noE _)
    intro b z h
    obtain ⟨rfl, rfl⟩ := yes h
    exact ⟨oa, by rw [List.length_map]; exact hl, vs, _, rv, oa⟩
end
/-- the goal that k_head leaves, from the promise of the law's def -/
theorem walk_ofG {l : PySem.W.OpenLaw} {n k : Nat} {q : Program} {loose : List Str} {XP : (Str → Option Value) → Heap → Prop} {YP : World → Heap → Prop} {d : DefRec} {K : Params → PySem.W.Frag} {sp : World → Sp} {x : Str}
    (hn : l.most = some n) (hs : n ≤ sizeLine) (hd : d.params.defaults = []) (room : Room k callerA) (hY : ∀ (w : World) (h : Heap), YP w h → (K w.params).In h)
    (F : ∀ (w : World) (mg : Str → Option Value) (fa : Addr) (h : Heap), (K w.params).In h → h.Ns mainGlobals mg → mg d.name = some (.ref fa) →
      ∃ fd : FuncData, (∀ (s : Shared) (u : Value), BindsTo s fd ⟨[u], []⟩ [(x, u)]) ∧ ∀ base : Heap, (K w.params).In base → base.Ns mainGlobals mg → FnG l.prog w (K w.params) mg base k fa fd [x] (sp w))
    (S : ∀ (w : World) (H : Hp) (a : Addr) (ns : List Int), ns.length ≤ n → Only H → SqL (K w.params) H a (ns.map V.int) → sp w [.ref a] H (fun v _ => v = .bl true) fun _ _ _ => False)
    (noE : ∀ (w : World) (H : Hp) (s : Shared) (e : Value) (s2 : Shared), (L2.CX l.prog w) [] H s (fun _ _ _ => False) e s2 → False) :
    PySem.W.WalkO q loose XP YP l.row.toRowW d [] (fun f vs => PySem.call f vs) := by
  refine Att.attach_call hn hd ?_
  intro w s0 s1 mg mb fa o pm cd doc a vs ns G Y ho hd2 hcd hmg oa hi hl g0
  have inK := hY w _ Y
  obtain ⟨fd, bnd, F2⟩ := F w mg fa _ inK G.T.g hmg
  exact law_callG inK G.T.g G.T.b G.T.builtins G.T.nolimit g0 oa hi (Nat.le_trans hl hs) room F2 bnd (fun H hO hS => S w H a ns hl hO hS) fun H e s2 => noE w H s1 e s2
end DL

/-! DLm: lists of what is known around a def. -/
namespace DL
open PySem PySem.Spec PyProof.Rows L2
section
variable {P : Program} {w : World} {K : PySem.W.Frag} {mg : Str → Option Value} {base : Heap}
inductive TabOk (P : Program) (w : World) (K : PySem.W.Frag) (mg : Str → Option Value) (base : Heap) (k : Nat) : List Str → List Fn → Prop
  | nil : TabOk P w K mg base k [] []
  | cons {x : Str} {f : Fn} {xs : List Str} {fs : List Fn} : Callee P w K mg base k x f → TabOk P w K mg base k xs fs → TabOk P w K mg base k (x :: xs) (f :: fs)
inductive GlOk (K : PySem.W.Frag) (mg : Str → Option Value) : List Str → List D → Prop
  | nil : GlOk K mg [] []
  | cons {x : Str} {d : D} {xs : List Str} {ds : List D} : (∃ u v, mg x = some u ∧ RelV v u ∧ ∀ w, Rep K w d v) → GlOk K mg xs ds → GlOk K mg (x :: xs) (d :: ds)
inductive BnOk (mg : Str → Option Value) : List Str → Prop
  | nil : BnOk mg []
  | cons {x : Str} {xs : List Str} : mg x = none → BnOk mg xs → BnOk mg (x :: xs)
theorem TabOk.len {k : Nat} {xs : List Str} {fs : List Fn} (h : TabOk P w K mg base k xs fs) : xs.length = fs.length := by
  induction h with
  | nil => rfl
  | cons _ _ ih => rw [List.length_cons, List.length_cons, ih]
theorem TabOk.get {k : Nat} {xs : List Str} {fs : List Fn} (h : TabOk P w K mg base k xs fs) : ∀ (j : Nat) (x : Str) (f : Fn), xs[j]? = some x → fs[j]? = some f → Callee P w K mg base k x f := by
  induction h with
  | nil => intro j x f a b; simp at a
  | cons c _ ih =>
    intro j x f a b
    cases j with
    | zero => simp at a b; subst a b; exact c
    | succ j => exact ih j x f (by simpa using a) (by simpa using b)
theorem GlOk.len {xs : List Str} {fs : List D} (h : GlOk K mg xs fs) : xs.length = fs.length := by
  induction h with
  | nil => rfl
  | cons _ _ ih => rw [List.length_cons, List.length_cons, ih]
theorem GlOk.get {xs : List Str} {fs : List D} (h : GlOk K mg xs fs) : ∀ (j : Nat) (x : Str) (d : D), xs[j]? = some x → fs[j]? = some d → ∃ u v, mg x = some u ∧ RelV v u ∧ ∀ w, Rep K w d v := by
  induction h with
  | nil => intro j x f a b; simp at a
  | cons c _ ih =>
    intro j x f a b
    cases j with
    | zero => simp at a b; subst a b; exact c
    | succ j => exact ih j x f (by simpa using a) (by simpa using b)
theorem BnOk.get {xs : List Str} (h : BnOk mg xs) : ∀ x, x ∈ xs → mg x = none := by
  induction h with
  | nil => intro x a; simp at a
  | cons c _ ih =>
    intro x a
    rcases List.mem_cons.mp a with e | e
    · subst e; exact c
    · exact ih x e
inductive XsOk (P : Program) (w : World) (K : PySem.W.Frag) (mg : Str → Option Value) (base : Heap) (k : Nat) : List (Str × List Str × Ini) → Prop
  | nil : XsOk P w K mg base k []
  | cons {j : Nat} {c : Str} {ups : List Str} {ini : Ini} {xs : List (Str × List Str × Ini)} : Maker P w K mg base j c ups ini → j + 1 ≤ k → XsOk P w K mg base k xs → XsOk P w K mg base k ((c, ups, ini) :: xs)
theorem XsOk.get {k : Nat} {xs : List (Str × List Str × Ini)} (h : XsOk P w K mg base k xs) : ∀ c ups ini, (c, ups, ini) ∈ xs → ∃ j, j + 1 ≤ k ∧ Maker P w K mg base j c ups ini := by
  induction h with
  | nil => intro c u i a; simp at a
  | cons m l _ ih =>
    intro c u i a
    rcases List.mem_cons.mp a with e | e
    · cases e; exact ⟨_, l, m⟩
    · exact ih c u i e
inductive XnOk (mg : Str → Option Value) : List Str → Prop
  | nil : XnOk mg []
  | cons {c : Str} {xs : List Str} : (∃ C, mg c = some (.ref C)) → XnOk mg xs → XnOk mg (c :: xs)
theorem XnOk.get {xs : List Str} (h : XnOk mg xs) : ∀ c, c ∈ xs → ∃ C, mg c = some (.ref C) := by
  induction h with
  | nil => intro x a; simp at a
  | cons c _ ih =>
    intro x a
    rcases List.mem_cons.mp a with e | e
    · subst e; exact c
    · exact ih x e
inductive MtsOk (P : Program) (w : World) (K : PySem.W.Frag) (mg : Str → Option Value) (base : Heap) (k : Nat) : List (Str × Str) → List Fn → Prop
  | nil : MtsOk P w K mg base k [] []
  | cons {i : Nat} {c m : Str} {f : Fn} {C : Addr} {xs : List (Str × Str)} {fs : List Fn} : CalleeM P w K mg base i c m f → i + 1 ≤ k → mg c = some (.ref C) → Cls K C → MtsOk P w K mg base k xs fs → MtsOk P w K mg base k ((c, m) :: xs) (f :: fs)
theorem MtsOk.len {k : Nat} {xs : List (Str × Str)} {fs : List Fn} (h : MtsOk P w K mg base k xs fs) : xs.length = fs.length := by
  induction h with
  | nil => rfl
  | cons _ _ _ _ _ ih => rw [List.length_cons, List.length_cons, ih]
theorem MtsOk.get {k : Nat} {xs : List (Str × Str)} {fs : List Fn} (h : MtsOk P w K mg base k xs fs) : ∀ (j : Nat) (c m : Str) (f : Fn), xs[j]? = some (c, m) → fs[j]? = some f → (∃ i, i + 1 ≤ k ∧ CalleeM P w K mg base i c m f) ∧ ∃ C, mg c = some (.ref C) ∧ Cls K C := by
  induction h with
  | nil => intro j c m f a b; simp at a
  | cons q l hc hC _ ih =>
    intro j c m f a b
    cases j with
    | zero => simp at a b; obtain ⟨rfl, rfl⟩ := a; subst b; exact ⟨⟨_, l, q⟩, _, hc, hC⟩
    | succ j => exact ih j c m f (by simpa using a) (by simpa using b)
theorem around_ofM {k : Nat} {N tabN globN bn xn : List Str} {xs : List (Str × List Str × Ini)} {ms : List (Str × Str)} {tab mt : List Fn} {gl : List D} (a : TabOk P w K mg base k tabN tab) (b : GlOk K mg globN gl) (c : BnOk mg bn) (d : XsOk P w K mg base k xs) (e : XnOk mg xn) (f : MtsOk P w K mg base k ms mt) : Around1 P w K mg base k ⟨N, tabN, globN, bn, xs, xn, ms⟩ ⟨tab, gl, mt⟩ :=
  ⟨a.get, a.len, b.get, b.len, c.get, d.get, e.get, f.get, f.len⟩
theorem fnok_pure {k n : Nat} {f : Addr} {fd : FuncData} {ps : List Str} {fn : Fn} (F : FnG P w K mg base k f fd ps (spF K mg n fn)) : FnG P w K mg base k f fd ps (spF K mg n (pureFn fn)) := F.imp fun _ _ _ _ q => sp_pure q
theorem end_of {l : PySem.W.OpenLaw} {k : Nat} {f : Addr} {x : Str} {fn : Fn} (h : ∀ ns : List Int, ns.length ≤ 63 → ∃ S', fn [.scr ns] [] = .ok (.bl true) S')
    (A : ∃ fd : FuncData, (∀ (s : Shared) (v : Value), BindsTo s fd ⟨[v], []⟩ [(x, v)]) ∧ ∀ base : Heap, K.In base → base.Ns mainGlobals mg → FnG l.prog w K mg base k f fd [x] (spF K mg 1 fn)) :
    ∃ fd : FuncData, (∀ (s : Shared) (v : Value), BindsTo s fd ⟨[v], []⟩ [(x, v)]) ∧ ∀ base : Heap, K.In base → base.Ns mainGlobals mg → FnG l.prog w K mg base k f fd [x] (spLaw K) := by
  obtain ⟨fd, a, b⟩ := A
  exact ⟨fd, a, fun base x y => law_of (b base x y) h⟩
end
/-! ### a tuple of texts at the module's top -/
end DL

/-! DLo: what a text does, asked backwards. -/
namespace DL
open PySem PySem.Spec PyProof.Rows L2

/-! ### likeness of data -/
mutual
def eqD : D → D → Bool
  | .non, .non => true
  | .bl a, .bl b => a == b
  | .bl a, .int j => (if a then 1 else 0) == j
  | .int i, .bl b => i == (if b then 1 else 0)
  | .int i, .int j => decide (i = j)
  | .str x, .str y => x == y
  | .lst xs, .lst ys => eqDs xs ys
  | .tup xs, .tup ys => eqDs xs ys
  | _, _ => false
def eqDs : List D → List D → Bool
  | [], [] => true
  | x :: xs, y :: ys => eqD x y && eqDs xs ys
  | _, _ => false
end
mutual
/-- plain data, of no more than so deep -/
def D.shp : Nat → D → Bool
  | _, .non => true
  | _, .bl _ => true
  | _, .int _ => true
  | _, .str x => PyData.strOk x
  | n + 1, .tup xs => D.shps n xs
  | n + 1, .lst xs => D.shps n xs
  | _, _ => false
def D.shps : Nat → List D → Bool
  | _, [] => true
  | n, x :: r => D.shp n x && D.shps n r
end
mutual
theorem shp_toP : ∀ (n : Nat) (d : D), D.shp n d = true → ∃ p, D.toP d = some p ∧ p.canLay0 = true ∧ p.depth ≤ n
  | n, .non, _ => ⟨_, by unfold D.toP; rfl, by simp [PyData.canLay0], by simp [PyData.depth]⟩
  | n, .bl _, _ => ⟨_, by unfold D.toP; rfl, by simp [PyData.canLay0], by simp [PyData.depth]⟩
  | n, .int _, _ => ⟨_, by unfold D.toP; rfl, by simp [PyData.canLay0], by simp [PyData.depth]⟩
  | n, .str _, h => ⟨_, by unfold D.toP; rfl, by simpa [PyData.canLay0, D.shp] using h, by simp [PyData.depth]⟩
  | 0, .tup xs, h => by simp [D.shp] at h
  | n + 1, .tup xs, h => by
    rw [D.shp] at h
    obtain ⟨ps, e, c, l⟩ := shps_toPs n xs h
    exact ⟨.tuple ps, by unfold D.toP; rw [e], by simpa [PyData.canLay0] using c, by simp [PyData.depth]; omega⟩
  | 0, .lst xs, h => by simp [D.shp] at h
  | n + 1, .lst xs, h => by
    rw [D.shp] at h
    obtain ⟨ps, e, c, l⟩ := shps_toPs n xs h
    exact ⟨.list ps, by unfold D.toP; rw [e], by simpa [PyData.canLay0] using c, by simp [PyData.depth]; omega⟩
  | n, .dK _, h => by simp [D.shp] at h
  | n, .dT _, h => by simp [D.shp] at h
  | n, .loc _, h => by simp [D.shp] at h
  | n, .scr _, h => by simp [D.shp] at h
  | n, .ctp _, h => by simp [D.shp] at h
theorem shps_toPs : ∀ (n : Nat) (xs : List D), D.shps n xs = true → ∃ ps, D.toPs xs = some ps ∧ PyData.canLayAll0 ps = true ∧ PyData.depthAll ps ≤ n
  | n, [], _ => ⟨[], by unfold D.toPs; rfl, by simp [PyData.canLayAll0], by simp [PyData.depthAll]⟩
  | n, x :: r, h => by
    rw [D.shps, Bool.and_eq_true] at h
    obtain ⟨p, e, c, l⟩ := shp_toP n x h.1
    obtain ⟨ps, e2, c2, l2⟩ := shps_toPs n r h.2
    exact ⟨p :: ps, by unfold D.toPs; rw [e, e2], by simp [PyData.canLayAll0, c, c2], by simp [PyData.depthAll]; omega⟩
end
theorem toP_tup {xs : List D} {p : PyData} (h : D.toP (.tup xs) = some p) : ∃ ps, D.toPs xs = some ps ∧ p = .tuple ps := by
  unfold D.toP at h
  cases e : D.toPs xs with
  | none => rw [e] at h; cases h
  | some ps => rw [e] at h; cases h; exact ⟨_, rfl, rfl⟩
theorem toP_lst {xs : List D} {p : PyData} (h : D.toP (.lst xs) = some p) : ∃ ps, D.toPs xs = some ps ∧ p = .list ps := by
  unfold D.toP at h
  cases e : D.toPs xs with
  | none => rw [e] at h; cases h
  | some ps => rw [e] at h; cases h; exact ⟨_, rfl, rfl⟩
theorem toPs_nil {p : List PyData} (h : D.toPs [] = some p) : p = [] := by unfold D.toPs at h; cases h; rfl
theorem toPs_cons {x : D} {r : List D} {p : List PyData} (h : D.toPs (x :: r) = some p) : ∃ q qs, D.toP x = some q ∧ D.toPs r = some qs ∧ p = q :: qs := by
  unfold D.toPs at h
  cases e : D.toP x with
  | none => rw [e] at h; cases h
  | some q => cases e2 : D.toPs r with
    | none => rw [e, e2] at h; cases h
    | some qs => rw [e, e2] at h; cases h; exact ⟨_, _, rfl, rfl, rfl⟩
theorem toP_kind {y : D} {q : PyData} (h : D.toP y = some q) : (y = .non ∧ q = .none) ∨ (∃ b, y = .bl b ∧ q = .bool b) ∨ (∃ b, y = .int b ∧ q = .int b) ∨ (∃ b, y = .str b ∧ q = .str b) ∨ (∃ xs ps, y = .tup xs ∧ q = .tuple ps) ∨ ∃ xs ps, y = .lst xs ∧ q = .list ps := by
  cases y with
  | tup xs => obtain ⟨ps, _, rfl⟩ := toP_tup h; simp
  | lst xs => obtain ⟨ps, _, rfl⟩ := toP_lst h; simp
  | _ => unfold D.toP at h; cases h <;> simp
mutual
theorem eqv_D : ∀ (x y : D) (p q : PyData), D.toP x = some p → D.toP y = some q → PyData.eqv p q = eqD x y
  | .tup xs, y, p, q, hx, hy => by
    obtain ⟨ps, e, rfl⟩ := toP_tup hx
    cases y with
    | tup ys =>
      obtain ⟨qs, e2, rfl⟩ := toP_tup hy
      rw [PyData.eqv, eqD, eqvs_D xs ys ps qs e e2]
    | lst ys =>
      obtain ⟨qs, e2, rfl⟩ := toP_lst hy
      simp [PyData.eqv, eqD]
    | _ => (simp only [D.toP, Option.some.injEq, reduceCtorEq] at hy) <;> (subst hy; simp [PyData.eqv, eqD])
  | .lst xs, y, p, q, hx, hy => by
    obtain ⟨ps, e, rfl⟩ := toP_lst hx
    cases y with
    | lst ys =>
      obtain ⟨qs, e2, rfl⟩ := toP_lst hy
      rw [PyData.eqv, eqD, eqvs_D xs ys ps qs e e2]
    | tup ys =>
      obtain ⟨qs, e2, rfl⟩ := toP_tup hy
      simp [PyData.eqv, eqD]
    | _ => (simp only [D.toP, Option.some.injEq, reduceCtorEq] at hy) <;> (subst hy; simp [PyData.eqv, eqD])
  | .non, y, p, q, hx, hy => by
    unfold D.toP at hx; cases hx
    rcases toP_kind hy with ⟨rfl, rfl⟩ | ⟨_, rfl, rfl⟩ | ⟨_, rfl, rfl⟩ | ⟨_, rfl, rfl⟩ | ⟨_, _, rfl, rfl⟩ | ⟨_, _, rfl, rfl⟩ <;> simp [PyData.eqv, eqD]
  | .bl b, y, p, q, hx, hy => by
    unfold D.toP at hx; cases hx
    rcases toP_kind hy with ⟨rfl, rfl⟩ | ⟨_, rfl, rfl⟩ | ⟨_, rfl, rfl⟩ | ⟨_, rfl, rfl⟩ | ⟨_, _, rfl, rfl⟩ | ⟨_, _, rfl, rfl⟩ <;> simp [PyData.eqv, eqD] <;> rfl
  | .int b, y, p, q, hx, hy => by
    unfold D.toP at hx; cases hx
    rcases toP_kind hy with ⟨rfl, rfl⟩ | ⟨_, rfl, rfl⟩ | ⟨_, rfl, rfl⟩ | ⟨_, rfl, rfl⟩ | ⟨_, _, rfl, rfl⟩ | ⟨_, _, rfl, rfl⟩ <;> simp [PyData.eqv, eqD] <;> rfl
  | .str b, y, p, q, hx, hy => by
    unfold D.toP at hx; cases hx
    rcases toP_kind hy with ⟨rfl, rfl⟩ | ⟨_, rfl, rfl⟩ | ⟨_, rfl, rfl⟩ | ⟨_, rfl, rfl⟩ | ⟨_, _, rfl, rfl⟩ | ⟨_, _, rfl, rfl⟩ <;> simp [PyData.eqv, eqD] <;> rfl
  | .dK _, y, p, q, hx, hy => by unfold D.toP at hx; cases hx
  | .dT _, y, p, q, hx, hy => by unfold D.toP at hx; cases hx
  | .loc _, y, p, q, hx, hy => by unfold D.toP at hx; cases hx
  | .scr _, y, p, q, hx, hy => by unfold D.toP at hx; cases hx
  | .ctp _, y, p, q, hx, hy => by unfold D.toP at hx; cases hx
theorem eqvs_D : ∀ (xs ys : List D) (p q : List PyData), D.toPs xs = some p → D.toPs ys = some q → PyData.eqvAll p q = eqDs xs ys
  | [], [], p, q, hx, hy => by
    cases toPs_nil hx; cases toPs_nil hy; simp [PyData.eqvAll, eqDs]
  | [], y :: ys, p, q, hx, hy => by
    cases toPs_nil hx
    obtain ⟨_, _, _, _, rfl⟩ := toPs_cons hy
    simp [PyData.eqvAll, eqDs]
  | x :: xs, [], p, q, hx, hy => by
    cases toPs_nil hy
    obtain ⟨_, _, _, _, rfl⟩ := toPs_cons hx
    simp [PyData.eqvAll, eqDs]
  | x :: xs, y :: ys, p, q, hx, hy => by
    obtain ⟨a, as, e1, e2, rfl⟩ := toPs_cons hx
    obtain ⟨b, bs, e3, e4, rfl⟩ := toPs_cons hy
    rw [PyData.eqvAll, eqDs, eqv_D x y a b e1 e3, eqvs_D xs ys as bs e2 e4]
end

theorem eqDs_ints : ∀ (xs ys : List Int), eqDs (xs.map D.int) (ys.map D.int) = decide (xs = ys)
  | [], [] => by simp [eqDs]
  | [], y :: ys => by simp [eqDs]
  | x :: xs, [] => by simp [eqDs]
  | x :: xs, y :: ys => by
    rw [List.map_cons, List.map_cons, eqDs, eqD, eqDs_ints xs ys]
    by_cases h : x = y <;> simp [h]
theorem shps_ints (n : Nat) : ∀ (xs : List Int), D.shps n (xs.map D.int) = true
  | [] => by simp [D.shps]
  | x :: xs => by rw [List.map_cons, D.shps, D.shp, shps_ints n xs]; rfl
theorem shp_int (n : Nat) (i : Int) : D.shp n (.int i) = true := by cases n <;> rfl
theorem shp_bl (n : Nat) (i : Bool) : D.shp n (.bl i) = true := by cases n <;> rfl
theorem shp_non (n : Nat) : D.shp n .non = true := by cases n <;> rfl
theorem shp_str (n : Nat) (x : Str) : D.shp n (.str x) = PyData.strOk x := by cases n <;> rfl
theorem shp_tup (n : Nat) (xs : List D) : D.shp (n + 1) (.tup xs) = D.shps n xs := rfl
theorem shp_lst (n : Nat) (xs : List D) : D.shp (n + 1) (.lst xs) = D.shps n xs := rfl
theorem shps_nil (n : Nat) : D.shps n [] = true := by cases n <;> rfl
theorem shps_cons (n : Nat) (x : D) (r : List D) : D.shps n (x :: r) = (D.shp n x && D.shps n r) := by cases n <;> rfl
theorem eqDs_nil : eqDs [] [] = true := rfl
theorem eqDs_cons (x y : D) (r t : List D) : eqDs (x :: r) (y :: t) = (eqD x y && eqDs r t) := rfl
theorem eqDs_cn (x : D) (r : List D) : eqDs (x :: r) [] = false := rfl
theorem eqDs_nc (x : D) (r : List D) : eqDs [] (x :: r) = false := rfl
theorem eqD_int (a b : Int) : eqD (.int a) (.int b) = decide (a = b) := rfl
theorem eqD_bl (a b : Bool) : eqD (.bl a) (.bl b) = decide (a = b) := by cases a <;> cases b <;> rfl
theorem eqD_str (a b : Str) : eqD (.str a) (.str b) = decide (a = b) := by
  show (a == b) = _
  by_cases h : a = b
  · subst h; simp
  · rw [decide_eq_false h, beq_eq_false_iff_ne]; exact h
theorem eqD_tup (a b : List D) : eqD (.tup a) (.tup b) = eqDs a b := rfl
theorem eqD_lst (a b : List D) : eqD (.lst a) (.lst b) = eqDs a b := rfl
theorem eqD_non : eqD .non .non = true := rfl
theorem eqD_nt (a : List D) : eqD .non (.tup a) = false := rfl
theorem eqD_tn (a : List D) : eqD (.tup a) .non = false := rfl
theorem eqD_ni (a : Int) : eqD .non (.int a) = false := rfl
theorem eqD_in (a : Int) : eqD (.int a) .non = false := rfl

/-! ### what must be so -/
open Classical in
noncomputable def grd {α : Type} (c : Prop) (R : Res α) : Res α := if c then R else .bad
theorem grd_ite {α : Type} {c : Prop} [Decidable c] {R : Res α} : (if c then R else .bad) = grd c R := by unfold grd; by_cases h : c <;> simp [h]
theorem grd_t {α : Type} {R : Res α} : grd True R = R := if_pos trivial
theorem grd_of {α : Type} {c : Prop} {R : Res α} (h : c) : grd c R = R := if_pos h
theorem grd_grd {α : Type} {c c' : Prop} {R : Res α} : grd c (grd c' R) = grd (c ∧ c') R := by
  unfold grd; by_cases h : c <;> by_cases h' : c' <;> simp [h, h']

/-- it ends so -/
def Res.satx {α : Type} (R : Res α) (X : Exn → Store → Prop) (Q : α → Store → Prop) : Prop := match R with
  | .ok a S => Q a S
  | .exc e S => X e S
  | .bad => False
structure Po where
  N : EnvD → Store → Prop
  B : EnvD → Store → Prop
  C : EnvD → Store → Prop
  T : D → Store → Prop
  X : Exn → EnvD → Store → Prop
def noX : Exn → Store → Prop := fun _ _ => False
def noE : EnvD → Store → Prop := fun _ _ => False
def SR.satp (R : SR) (P : Po) : Prop := match R with
  | .nx ρ S => P.N ρ S
  | .rt d S => P.T d S
  | .bk ρ S => P.B ρ S
  | .ct ρ S => P.C ρ S
  | .exc e ρ S => P.X e ρ S
  | .bad => False
section
variable {α β : Type} {X : Exn → Store → Prop} {Q : α → Store → Prop} {Γ : Gm} {ρ : EnvD} {S : Store} {P : Po}
theorem x_ok {a : α} : (Res.ok a S).satx X Q = Q a S := rfl
theorem x_exc {e : Exn} : (Res.exc e S : Res α).satx X Q = X e S := rfl
theorem x_bad : (Res.bad : Res α).satx X Q = False := rfl
theorem x_grd {c : Prop} {R : Res α} : (grd c R).satx X Q = (c ∧ R.satx X Q) := by
  unfold grd; by_cases h : c <;> simp [h, Res.satx]
theorem x_bind {R : Res β} {f : β → Store → Res α} : (R.bind f).satx X Q = R.satx X fun a S => (f a S).satx X Q := by cases R <;> rfl
theorem x_ite {c : Prop} [Decidable c] {A B : Res α} : (if c then A else B).satx X Q = if c then A.satx X Q else B.satx X Q := by split <;> rfl
theorem x_imp {R : Res α} {X' : Exn → Store → Prop} {Q' : α → Store → Prop} (h : R.satx X Q) (hq : ∀ a S, Q a S → Q' a S) (hx : ∀ e S, X e S → X' e S) : R.satx X' Q' := by
  cases R with
  | ok a S => exact hq _ _ h
  | exc e S => exact hx _ _ h
  | bad => exact h
theorem x_impn {R : Res α} {Q' : α → Store → Prop} (h : R.satx noX Q) (hq : ∀ a S, Q a S → Q' a S) : R.satx X Q' := x_imp h hq fun _ _ h => h.elim
theorem s_ofE {R : Res α} {f : α → Store → SR} : (SR.ofE ρ R f).satp P = R.satx (fun e S => P.X e ρ S) fun a S => (f a S).satp P := by cases R <;> rfl
theorem s_imp {R : SR} {P' : Po} (h : R.satp P) (hn : ∀ ρ S, P.N ρ S → P'.N ρ S) (hb : ∀ ρ S, P.B ρ S → P'.B ρ S) (hc : ∀ ρ S, P.C ρ S → P'.C ρ S) (ht : ∀ ρ S, P.T ρ S → P'.T ρ S) (hx : ∀ e ρ S, P.X e ρ S → P'.X e ρ S) : R.satp P' := by
  cases R with
  | nx ρ S => exact hn _ _ h
  | rt d S => exact ht _ _ h
  | bk d S => exact hb _ _ h
  | ct d S => exact hc _ _ h
  | exc e ρ S => exact hx _ _ _ h
  | bad => exact h
theorem s_cons {s : Sm} {r : List Sm} : (runs Γ (s :: r) ρ S).satp P = (DL.run Γ s ρ S).satp { P with N := fun ρ1 S1 => (runs Γ r ρ1 S1).satp P } := by
  simp only [runs]
  cases DL.run Γ s ρ S <;> rfl
theorem s_nil : (runs Γ [] ρ S).satp P = P.N ρ S := by
  simp only [runs] <;> rfl
end
/-- the list xs of a place -/
noncomputable def lkR (o : Option (Option D)) (S : Store) : Res D := match o with
  | some (some d) => .ok d S
  | _ => .bad
theorem lkR_s (d : D) (S : Store) : lkR (some (some d)) S = .ok d S := rfl
/-- .. a place in it -/
def gvR (o : Option D) (S : Store) : Res D := match o with
  | some d => .ok d S
  | none => .bad
theorem gvR_s (d : D) (S : Store) : gvR (some d) S = .ok d S := rfl
/-- a def of the table -/
def cfR (o : Option Fn) (ds : List D) (S : Store) : Res D := match o with
  | some f => f ds S
  | none => .bad
theorem cfR_s (f : Fn) (ds : List D) (S : Store) : cfR (some f) ds S = f ds S := rfl
/-- the items of a cell -/
def clR {α : Type} (o : Option (Option Cell)) (f : List D → Res α) : Res α := match o with
  | some (some (.lst xs)) => f xs
  | _ => .bad
theorem clR_s {α : Type} (xs : List D) (f : List D → Res α) : clR (some (some (.lst xs))) f = f xs := rfl
def negR (x : D) (S : Store) : Res D := match x with
  | .int i => .ok (.int (-i)) S
  | _ => .bad
def tyR (o : Option Bool) (S : Store) : Res D := match o with
  | some b => .ok (.bl b) S
  | none => .bad
def inR (d : D) (S : Store) : Res (Option Int) := match d with
  | .int i => .ok (some i) S
  | _ => .bad
def wkR (d : D) (S : Store) : Res (List D × Option Nat) := match walkOf d S with
  | some p => .ok p S
  | none => .bad
def rgR (x y : D) (S : Store) : Res (List D × Option Nat) := match x, y with
  | .int i, .int j => .ok (rngD i j, none) S
  | _, _ => .bad
noncomputable def ForR (Γ : Gm) (tg : Tg) (body : List Sm) (g : Option Nat) (S₀ : Store) (xs : List D) : SF := forEach (bindTg tg) (fun ρ S => runs Γ body ρ S) g S₀ xs
noncomputable def WhR (Γ : Gm) (c : Ex) (body : List Sm) : SF := fun ρ S => whileN (fun ρ S => asBl (sem Γ c ρ S)) (fun ρ S => runs Γ body ρ S) fuel ρ S
noncomputable def LcR (Γ : Gm) (tg : Tg) (ifs : List Ex) (elt : Ex) (g : Option Nat) (S₀ : Store) (ρ : EnvD) (xs : List D) (S : Store) : Res (List D) := lcEach (bindTg tg) (fun ρ S => semIfs Γ ifs ρ S) (fun ρ S => sem Γ elt ρ S) g S₀ ρ xs [] S
/-! ### backwards; what is still to do stands as data (k..) -/
abbrev QD := D → Store → Prop
abbrev XD := Exn → Store → Prop
noncomputable def W (Γ : Gm) (e : Ex) (ρ : EnvD) (S : Store) (X : XD) (Q : QD) : Prop := (sem Γ e ρ S).satx X Q
noncomputable def WL (Γ : Gm) (es : List Ex) (ρ : EnvD) (S : Store) (X : XD) (Q : List D → Store → Prop) : Prop := (semL Γ es ρ S).satx X Q
noncomputable def WB (Γ : Gm) (k : Bool) (es : List Ex) (ρ : EnvD) (S : Store) (X : XD) (Q : QD) : Prop := (semB Γ k es ρ S).satx X Q
noncomputable def WO (Γ : Gm) (o : Option Ex) (ρ : EnvD) (S : Store) (X : XD) (Q : Option Int → Store → Prop) : Prop := (semO Γ o ρ S).satx X Q
noncomputable def WR (Γ : Gm) (r : Src) (ρ : EnvD) (S : Store) (X : XD) (Q : List D × Option Nat → Store → Prop) : Prop := (semSrc Γ r ρ S).satx X Q
noncomputable def WI (Γ : Gm) (is : List Ex) (ρ : EnvD) (S : Store) (X : XD) (Q : Bool → Store → Prop) : Prop := (semIfs Γ is ρ S).satx X Q
noncomputable def W1 (Γ : Gm) (s : Sm) (ρ : EnvD) (S : Store) (P : Po) : Prop := (DL.run Γ s ρ S).satp P
noncomputable def Ws (Γ : Gm) (ss : List Sm) (ρ : EnvD) (S : Store) (P : Po) : Prop := (runs Γ ss ρ S).satp P
def lkW (o : Option (Option D)) (S : Store) (Q : QD) : Prop := match o with
  | some (some d) => Q d S
  | _ => False
def kTupN (Q : QD) : List D → Store → Prop := fun ds S => ds.length ≤ 16777216 ∧ Q (.ctp ds) S
def kWeak (Q : QD) : QD := fun x S => Q x.weak S
def kTup (Q : QD) : List D → Store → Prop := fun ds S => ds.length ≤ 16777216 ∧ Q (.tup ds) S
def kMk (c : Bool) (X : XD) (Q : QD) : List D → Store → Prop := fun ds S => (mkL c ds S).satx X Q
def kL2 (d : D) (Q : List D → Store → Prop) : List D → Store → Prop := fun ds S => Q (d :: ds) S
noncomputable def kL1 (Γ : Gm) (r : List Ex) (ρ : EnvD) (X : XD) (Q : List D → Store → Prop) : QD := fun d S => WL Γ r ρ S X (kL2 d Q)
def kBin2 (o : BOp) (c : Bool) (x : D) (X : XD) (Q : QD) : QD := fun y S => (o.ev c x y S).satx X Q
noncomputable def kBin1 (Γ : Gm) (o : BOp) (c : Bool) (b : Ex) (ρ : EnvD) (X : XD) (Q : QD) : QD := fun x S => W Γ b ρ S X (kBin2 o c x X Q)
def kCmp2 (o : COp) (x : D) (X : XD) (Q : QD) : QD := fun y S => (o.ev x y S).satx X Q
noncomputable def kCmp1 (Γ : Gm) (o : COp) (b : Ex) (ρ : EnvD) (X : XD) (Q : QD) : QD := fun x S => W Γ b ρ S X (kCmp2 o x X Q)
def kIx2 (x : D) (X : XD) (Q : QD) : QD := fun y S => (ixEv x y S).satx X Q
noncomputable def kIx1 (Γ : Gm) (b : Ex) (ρ : EnvD) (X : XD) (Q : QD) : QD := fun x S => W Γ b ρ S X (kIx2 x X Q)
def kRev (c : Bool) (X : XD) (Q : QD) : QD := fun x S => (revEv c x S).satx X Q
def enR (d : D) (S : Store) : Res (List D × Option Nat) := match enumOf d S with
  | some p => .ok p S
  | none => .bad
def ziR (x y : D) (S : Store) : Res (List D × Option Nat) := match zipOf x y S with
  | some p => .ok p S
  | none => .bad
def kEn (X : XD) (Q : List D × Option Nat → Store → Prop) : QD := fun d S => (enR d S).satx X Q
def kZi2 (x : D) (X : XD) (Q : List D × Option Nat → Store → Prop) : QD := fun y S => (ziR x y S).satx X Q
noncomputable def kZi1 (Γ : Gm) (b : Ex) (ρ : EnvD) (X : XD) (Q : List D × Option Nat → Store → Prop) : QD := fun x S => W Γ b ρ S X (kZi2 x X Q)
def kNeg (X : XD) (Q : QD) : QD := fun x S => (negR x S).satx X Q
def kBl (Q : Bool → Store → Prop) : QD := fun d S => match d with
  | .bl b => Q b S
  | _ => False
def kNot (Q : QD) : QD := kBl fun b S => Q (.bl (!b)) S
noncomputable def iteK (b k : Bool) (Γ : Gm) (r : List Ex) (ρ : EnvD) (S : Store) (X : XD) (Q : QD) : Prop := (b = k → WB Γ k r ρ S X Q) ∧ (¬ b = k → Q (.bl b) S)
noncomputable def iteC (b : Bool) (Γ : Gm) (o' : COp) (y : D) (c : Ex) (ρ : EnvD) (S : Store) (X : XD) (Q : QD) : Prop := (b = true → W Γ c ρ S X (kCmp2 o' y X Q)) ∧ (b = false → Q (.bl false) S)
noncomputable def iteW (t : Bool) (Γ : Gm) (a b : Ex) (ρ : EnvD) (S : Store) (X : XD) (Q : QD) : Prop := (t = true → W Γ a ρ S X Q) ∧ (t = false → W Γ b ρ S X Q)
noncomputable def iteS (t : Bool) (Γ : Gm) (a b : List Sm) (ρ : EnvD) (S : Store) (P : Po) : Prop := (t = true → Ws Γ a ρ S P) ∧ (t = false → Ws Γ b ρ S P)
noncomputable def kBoo (Γ : Gm) (k : Bool) (r : List Ex) (ρ : EnvD) (X : XD) (Q : QD) : QD := kBl fun b S => iteK b k Γ r ρ S X Q
noncomputable def kCh3 (Γ : Gm) (o' : COp) (y : D) (c : Ex) (ρ : EnvD) (X : XD) (Q : QD) : QD := kBl fun b S => iteC b Γ o' y c ρ S X Q
noncomputable def kCh2 (Γ : Gm) (o o' : COp) (x : D) (c : Ex) (ρ : EnvD) (X : XD) (Q : QD) : QD := fun y S => (o.ev x y S).satx X (kCh3 Γ o' y c ρ X Q)
noncomputable def kCh1 (Γ : Gm) (o o' : COp) (b c : Ex) (ρ : EnvD) (X : XD) (Q : QD) : QD := fun x S => W Γ b ρ S X (kCh2 Γ o o' x c ρ X Q)
noncomputable def kIfe (Γ : Gm) (a b : Ex) (ρ : EnvD) (X : XD) (Q : QD) : QD := kBl fun t S => iteW t Γ a b ρ S X Q
def kSl3 (c : Bool) (x : D) (l : Option Int) (X : XD) (Q : QD) : Option Int → Store → Prop := fun h S => (slcEv c x l h S).satx X Q
noncomputable def kSl2 (Γ : Gm) (c : Bool) (x : D) (hi : Option Ex) (ρ : EnvD) (X : XD) (Q : QD) : Option Int → Store → Prop := fun l S => WO Γ hi ρ S X (kSl3 c x l X Q)
noncomputable def kSl1 (Γ : Gm) (c : Bool) (lo hi : Option Ex) (ρ : EnvD) (X : XD) (Q : QD) : QD := fun x S => WO Γ lo ρ S X (kSl2 Γ c x hi ρ X Q)
noncomputable def kCall (Γ : Gm) (j : Nat) (X : XD) (Q : QD) : List D → Store → Prop := fun ds S => (cfR Γ.tab[j]? ds S).satx X Q
def kX (P : Po) (ρ : EnvD) : XD := fun e S => P.X e ρ S
def kS4 (ρ : EnvD) (P : Po) : Unit → Store → Prop := fun _ S => P.N ρ S
def dcR {α : Type} (o : Option (Option Cell)) (f : List (Key × D) → Res α) : Res α := match o with
  | some (some (.dK ks)) => f ks
  | some (some (.fK ks)) => f ks
  | _ => .bad
def dwR {α : Type} (o : Option (Option Cell)) (f : List (Key × D) → Res α) : Res α := match o with
  | some (some (.dK ks)) => f ks
  | _ => .bad
def kDg2 (x : D) (X : XD) (Q : QD) : QD := fun y S => (dgetEv x y S).satx X Q
noncomputable def kDg1 (Γ : Gm) (b : Ex) (ρ : EnvD) (X : XD) (Q : QD) : QD := fun x S => W Γ b ρ S X (kDg2 x X Q)
def kDi2 (neg : Bool) (x : D) (X : XD) (Q : QD) : QD := fun y S => (dinEv neg x y S).satx X Q
noncomputable def kDi1 (Γ : Gm) (neg : Bool) (b : Ex) (ρ : EnvD) (X : XD) (Q : QD) : QD := fun x S => W Γ b ρ S X (kDi2 neg x X Q)
def kM12 (m : DM1) (x : D) (X : XD) (Q : QD) : QD := fun y S => (m.ev x y S).satx X Q
noncomputable def kM11 (Γ : Gm) (m : DM1) (b : Ex) (ρ : EnvD) (X : XD) (Q : QD) : QD := fun x S => (dictC S x).isSome = true ∧ W Γ b ρ S X (kM12 m x X Q)
def kM23 (m : DM2) (x y : D) (X : XD) (Q : QD) : QD := fun z S => (m.ev x y z S).satx X Q
noncomputable def kM22 (Γ : Gm) (m : DM2) (x : D) (c : Ex) (ρ : EnvD) (X : XD) (Q : QD) : QD := fun y S => W Γ c ρ S X (kM23 m x y X Q)
noncomputable def kM21 (Γ : Gm) (m : DM2) (b c : Ex) (ρ : EnvD) (X : XD) (Q : QD) : QD := fun x S => (dictC S x).isSome = true ∧ W Γ b ρ S X (kM22 Γ m x c ρ X Q)
def kUnE (n : Nat) (ks : List (Key × D)) (Q : QD) : QD := fun d S => Q d (S.set n (some (.dK ks)))
def kUnS (n : Nat) (ks : List (Key × D)) (P : Po) : Po := ⟨fun ρ S => P.N ρ (S.set n (some (.dK ks))), fun ρ S => P.B ρ (S.set n (some (.dK ks))), fun ρ S => P.C ρ (S.set n (some (.dK ks))), fun d S => P.T d (S.set n (some (.dK ks))), fun _ _ _ => False⟩
def lkC (n : Nat) (o : Option (Option Cell)) (f : Nat → List (Key × D) → Prop) : Prop := match o with
  | some (some (.dK ks)) => f n ks
  | _ => False
/-- a variable that holds a dict -/
def lkD (o : Option (Option D)) (S : Store) (f : Nat → List (Key × D) → Prop) : Prop := match o with
  | some (some (.loc n)) => lkC n S[n]? f
  | _ => False
def kyR (d : D) (S : Store) : Res (List D × Option Nat) := match keysOf d S with
  | some p => .ok p S
  | none => .bad
def kKy (X : XD) (Q : List D × Option Nat → Store → Prop) : QD := fun d S => (kyR d S).satx X Q
def kyC (n : Nat) (o : Option (Option Cell)) (S : Store) : Res (List D × Option Nat) := match o with
  | some (some (.fK ks)) => .ok (ks.map fun p => dKey p.1, some n) S
  | _ => .bad
def kP3 (x v : D) (ρ : EnvD) (P : Po) : QD := fun k S => (dputEv x k v S).satx (kX P ρ) (kS4 ρ P)
noncomputable def kP2 (Γ : Gm) (i : Ex) (v : D) (ρ : EnvD) (P : Po) : QD := fun x S => W Γ i ρ S (kX P ρ) (kP3 x v ρ P)
noncomputable def kP1 (Γ : Gm) (o i : Ex) (ρ : EnvD) (P : Po) : QD := fun v S => W Γ o ρ S (kX P ρ) (kP2 Γ i v ρ P)
def jvR (o : Option Nat) (p : Nat → Prop) : Prop := match o with
  | some j => p j
  | none => False
noncomputable def kCv (Γ : Gm) (js : List (Str × Nat)) (es : List Ex) (ρ : EnvD) (X : XD) (Q : QD) : QD := fun v S => match v with
  | .fn x => jvR (js.lookup x) fun j => WL Γ es ρ S X (kCall Γ j X Q)
  | _ => False
def kBi (f : BI) (c : Bool) (X : XD) (Q : QD) : List D → Store → Prop := fun ds S => (f.ev c ds S).satx X Q
def kIsi (t : Ty) (X : XD) (Q : QD) : QD := fun x S => (tyR (tyEv S t x) S).satx X Q
def kIsiT (ts : List Ty) (X : XD) (Q : QD) : QD := fun x S => (tyR (tyEvs S ts x) S).satx X Q
def kMe2 (m : MI) (x : D) (X : XD) (Q : QD) : List D → Store → Prop := fun ds S => (m.ev x ds S).satx X Q
noncomputable def kMe1 (Γ : Gm) (m : MI) (es : List Ex) (ρ : EnvD) (X : XD) (Q : QD) : QD := fun x S => m.recv x S = true ∧ WL Γ es ρ S X (kMe2 m x X Q)
noncomputable def kLc (Γ : Gm) (c : Bool) (tg : Tg) (ifs : List Ex) (elt : Ex) (own : List Nat) (ρ : EnvD) (X : XD) (Q : QD) : List D × Option Nat → Store → Prop := fun p S => (LcR Γ tg ifs elt p.2 S (wipeD ρ own) p.1 S).satx X (kMk c X Q)
def kIn (X : XD) (Q : Option Int → Store → Prop) : QD := fun d S => (inR d S).satx X Q
def kWk (X : XD) (Q : List D × Option Nat → Store → Prop) : QD := fun d S => (wkR d S).satx X Q
def kRg2 (x : D) (X : XD) (Q : List D × Option Nat → Store → Prop) : QD := fun y S => (rgR x y S).satx X Q
noncomputable def kRg1 (Γ : Gm) (b : Ex) (ρ : EnvD) (X : XD) (Q : List D × Option Nat → Store → Prop) : QD := fun x S => W Γ b ρ S X (kRg2 x X Q)
def btW (o : Option EnvD) (S : Store) (P : Po) : Prop := match o with
  | some ρ => P.N ρ S
  | none => False
def kAsg (tg : Tg) (ρ : EnvD) (P : Po) : QD := fun d S => btW (bindTg tg d ρ) S P
def kS3 (x v : D) (ρ : EnvD) (P : Po) : QD := fun k S => (setIxEv x k v S).satx (kX P ρ) (kS4 ρ P)
noncomputable def kS2 (Γ : Gm) (i : Ex) (v : D) (ρ : EnvD) (P : Po) : QD := fun x S => W Γ i ρ S (kX P ρ) (kS3 x v ρ P)
noncomputable def kS1 (Γ : Gm) (o i : Ex) (ρ : EnvD) (P : Po) : QD := fun v S => W Γ o ρ S (kX P ρ) (kS2 Γ i v ρ P)
noncomputable def kTwo (Γ : Gm) (o i : Ex) (b : D) (P : Po) : Po := { P with N := fun ρ S => kS1 Γ o i ρ P b S }
noncomputable def kT2 (Γ : Gm) (o i o2 i2 : Ex) (ρ : EnvD) (P : Po) : QD := fun v S => match v with
  | .tup [a, b] => kS1 Γ o i ρ (kTwo Γ o2 i2 b P) a S
  | _ => False
def kExp (ρ : EnvD) (P : Po) : QD := fun _ S => P.N ρ S
def kRet (P : Po) : QD := fun d S => P.T d S
noncomputable def kIf (Γ : Gm) (a b : List Sm) (ρ : EnvD) (P : Po) : QD := kBl fun t S => iteS t Γ a b ρ S P
noncomputable def kFor (Γ : Gm) (tg : Tg) (b : List Sm) (ρ : EnvD) (P : Po) : List D × Option Nat → Store → Prop := fun p S => (ForR Γ tg b p.2 S p.1 ρ S).satp P
noncomputable def kSeq (Γ : Gm) (r : List Sm) (P : Po) : Po := { P with N := fun ρ S => Ws Γ r ρ S P }
def kFn (X : XD) (Q : QD) : Po := ⟨fun _ S => Q .non S, noE, noE, Q, fun e _ S => X e S⟩
def kLoop (P : Po) (J : EnvD → Store → Prop) : Po := { P with N := J, B := P.N, C := J }
section
variable {Γ : Gm} {ρ : EnvD} {S : Store} {c : Bool} {X : XD} {Q : QD} {P : Po}
theorem lkW_s {d : D} : lkW (some (some d)) S Q = Q d S := rfl
theorem w_var {i : Nat} : W Γ (.var i) ρ S X Q = lkW ρ[i]? S Q := by
  unfold W lkW; simp only [sem]; cases ρ[i]? with
  | none => rfl
  | some o => cases o <;> rfl
theorem w_frz {i : Nat} : W Γ (.frz i) ρ S X Q = (frzEv ρ[i]? S).satx X Q := by unfold W; simp only [sem]
theorem w_revx {a : Ex} : W Γ (.rev c a) ρ S X Q = W Γ a ρ S X (kRev c X Q) := by
  simp only [W, sem, x_bind] <;> rfl
theorem wr_enum {a : Ex} {Q : List D × Option Nat → Store → Prop} : WR Γ (.enum a) ρ S X Q = W Γ a ρ S X (kEn X Q) := by
  simp only [WR, semSrc, x_bind] <;> rfl
theorem wr_zip {a b : Ex} {Q : List D × Option Nat → Store → Prop} : WR Γ (.zip a b) ρ S X Q = W Γ a ρ S X (kZi1 Γ b ρ X Q) := by
  simp only [WR, semSrc, x_bind] <;> rfl
theorem k_rev {x : D} : kRev c X Q x S = (revEv c x S).satx X Q := rfl
theorem k_en {x : D} {Q : List D × Option Nat → Store → Prop} : kEn X Q x S = (enR x S).satx X Q := rfl
theorem k_zi2 {x y : D} {Q : List D × Option Nat → Store → Prop} : kZi2 x X Q y S = (ziR x y S).satx X Q := rfl
theorem k_zi1 {x : D} {b : Ex} {Q : List D × Option Nat → Store → Prop} : kZi1 Γ b ρ X Q x S = W Γ b ρ S X (kZi2 x X Q) := rfl
theorem w_int {n : Int} : W Γ (.int n) ρ S X Q = Q (.int n) S := by unfold W; simp only [sem] <;> rfl
theorem w_str {n : Str} : W Γ (.str n) ρ S X Q = Q (.str n) S := by unfold W; simp only [sem] <;> rfl
theorem w_bl {n : Bool} : W Γ (.bl n) ρ S X Q = Q (.bl n) S := by unfold W; simp only [sem] <;> rfl
theorem w_non : W Γ .non ρ S X Q = Q .non S := by unfold W; simp only [sem] <;> rfl
theorem w_glob {j : Nat} : W Γ (.glob j) ρ S X Q = (gvR Γ.glob[j]? S).satx X Q := by unfold W gvR; simp only [sem] <;> rfl
theorem w_tupN {es : List Ex} : W Γ (.tupN es) ρ S X Q = WL Γ es ρ S X (kTupN Q) := by
  unfold W; simp only [sem, x_bind, lineOk, grd_ite, decide_eq_true_eq, x_grd, x_ok] <;> rfl
theorem w_weak {a : Ex} : W Γ (.weak a) ρ S X Q = W Γ a ρ S X (kWeak Q) := by
  simp only [W, sem, x_bind] <;> rfl
theorem w_tup {es : List Ex} : W Γ (.tup es) ρ S X Q = WL Γ es ρ S X (kTup Q) := by
  unfold W; simp only [sem, x_bind, lineOk, grd_ite, decide_eq_true_eq, x_grd, x_ok] <;> rfl
theorem w_lst {es : List Ex} : W Γ (.lst c es) ρ S X Q = WL Γ es ρ S X (kMk c X Q) := by unfold W; simp only [sem, x_bind] <;> rfl
theorem w_bin {o : BOp} {a b : Ex} : W Γ (.bin o c a b) ρ S X Q = W Γ a ρ S X (kBin1 Γ o c b ρ X Q) := by
  simp only [W, sem, x_bind] <;> rfl
theorem w_cmp {o : COp} {a b : Ex} : W Γ (.cmp o a b) ρ S X Q = W Γ a ρ S X (kCmp1 Γ o b ρ X Q) := by
  simp only [W, sem, x_bind] <;> rfl
theorem w_ix {a b : Ex} : W Γ (.ix a b) ρ S X Q = W Γ a ρ S X (kIx1 Γ b ρ X Q) := by
  simp only [W, sem, x_bind] <;> rfl
theorem w_neg {a : Ex} : W Γ (.neg a) ρ S X Q = W Γ a ρ S X (kNeg X Q) := by
  simp only [W, sem, x_bind] <;> rfl
theorem x_asBl2 {R : Res D} {Q : Bool → Store → Prop} : (asBl R).satx X Q = R.satx X (kBl Q) := by
  cases R with
  | ok d S => cases d <;> rfl
  | exc e S => rfl
  | bad => rfl
theorem w_not {a : Ex} : W Γ (.not a) ρ S X Q = W Γ a ρ S X (kNot Q) := by
  simp only [W, sem, x_bind, x_asBl2] <;> rfl
theorem w_boo {k : Bool} {es : List Ex} : W Γ (.boo k es) ρ S X Q = WB Γ k es ρ S X Q := by simp only [W, sem] <;> rfl
theorem wb_one {k : Bool} {e : Ex} : WB Γ k [e] ρ S X Q = W Γ e ρ S X Q := by simp only [WB, semB] <;> rfl
theorem x_tf {R R' : Res D} {p : Prop} [Decidable p] : (if p then R else R').satx X Q = ((p → R.satx X Q) ∧ (¬ p → R'.satx X Q)) := by
  by_cases h : p <;> simp [h]
theorem wb_cons {k : Bool} {e e2 : Ex} {r : List Ex} : WB Γ k (e :: e2 :: r) ρ S X Q = W Γ e ρ S X (kBoo Γ k (e2 :: r) ρ X Q) := by
  simp only [WB, W, semB, x_bind, x_asBl2, x_tf, x_ok] <;> rfl
theorem w_chain {o o' : COp} {a b c : Ex} : W Γ (.chain o o' a b c) ρ S X Q = W Γ a ρ S X (kCh1 Γ o o' b c ρ X Q) := by
  simp only [W, sem, x_bind, x_asBl2, x_tf, x_ok, Bool.not_eq_true] <;> rfl
theorem w_ife {t a b : Ex} : W Γ (.ife t a b) ρ S X Q = W Γ t ρ S X (kIfe Γ a b ρ X Q) := by
  simp only [W, sem, x_bind, x_asBl2, x_tf, Bool.not_eq_true] <;> rfl
theorem w_slc {a : Ex} {lo hi : Option Ex} : W Γ (.slc c a lo hi) ρ S X Q = W Γ a ρ S X (kSl1 Γ c lo hi ρ X Q) := by
  simp only [W, sem, x_bind] <;> rfl
theorem w_call {j : Nat} {es : List Ex} : W Γ (.call j es) ρ S X Q = WL Γ es ρ S X (kCall Γ j X Q) := by
  simp only [W, sem, x_bind] <;> rfl
theorem dcR_d {α : Type} {ks : List (Key × D)} (f : List (Key × D) → Res α) : dcR (some (some (.dK ks))) f = f ks := rfl
theorem dcR_f {α : Type} {ks : List (Key × D)} (f : List (Key × D) → Res α) : dcR (some (some (.fK ks))) f = f ks := rfl
theorem dwR_d {α : Type} {ks : List (Key × D)} (f : List (Key × D) → Res α) : dwR (some (some (.dK ks))) f = f ks := rfl
theorem w_dnew : W Γ .dnew ρ S X Q = Q (.loc S.length) (S ++ [some (.dK [])]) := by unfold W; simp only [sem] <;> rfl
theorem w_dget {a b : Ex} : W Γ (.dget a b) ρ S X Q = W Γ a ρ S X (kDg1 Γ b ρ X Q) := by
  simp only [W, sem, x_bind] <;> rfl
theorem w_din {neg : Bool} {a b : Ex} : W Γ (.din neg a b) ρ S X Q = W Γ a ρ S X (kDi1 Γ neg b ρ X Q) := by
  simp only [W, sem, x_bind] <;> rfl
theorem w_dm1 {m : DM1} {a b : Ex} : W Γ (.dm1 m a b) ρ S X Q = W Γ a ρ S X (kM11 Γ m b ρ X Q) := by
  simp only [W, sem, x_bind, grd_ite, x_grd] <;> rfl
theorem w_dm2 {m : DM2} {a b c : Ex} : W Γ (.dm2 m a b c) ρ S X Q = W Γ a ρ S X (kM21 Γ m b c ρ X Q) := by
  simp only [W, sem, x_bind, grd_ite, x_grd] <;> rfl
theorem x_unl {n : Nat} {ks : List (Key × D)} {R : Res D} : (unlkE n ks R).satx X Q = R.satx noX (kUnE n ks Q) := by
  cases R <;> rfl
theorem w_lockv {i : Nat} {a : Ex} : W Γ (.lock (.var i) a) ρ S X Q = lkD ρ[i]? S fun n ks => W Γ a ρ (S.set n (some (.fK ks))) noX (kUnE n ks Q) := by
  unfold W lkD
  simp only [sem]
  cases ρ[i]? with
  | none => rfl
  | some o => cases o with
    | none => rfl
    | some d => cases d with
      | loc n =>
        simp only [lockOf]
        cases S[n]? with
        | none => rfl
        | some o => cases o with
          | none => rfl
          | some c => cases c with
            | dK ks => exact x_unl
            | _ => rfl
      | _ => rfl
theorem lkD_l {n : Nat} {f : Nat → List (Key × D) → Prop} : lkD (some (some (.loc n))) S f = lkC n S[n]? f := rfl
theorem lkC_d {n : Nat} {ks : List (Key × D)} {f : Nat → List (Key × D) → Prop} : lkC n (some (some (.dK ks))) f = f n ks := rfl
theorem wr_keys {a : Ex} {Q : List D × Option Nat → Store → Prop} : WR Γ (.keys a) ρ S X Q = W Γ a ρ S X (kKy X Q) := by
  simp only [WR, semSrc, x_bind] <;> rfl
theorem k_ky {d : D} {Q : List D × Option Nat → Store → Prop} : kKy X Q d S = (kyR d S).satx X Q := rfl
theorem ky_l {n : Nat} : kyR (.loc n) S = kyC n S[n]? S := by
  unfold kyR kyC keysOf; simp only []
  cases S[n]? with
  | none => rfl
  | some o => cases o with
    | none => rfl
    | some c => cases c <;> rfl
theorem kyC_f {n : Nat} {ks : List (Key × D)} : kyC n (some (some (.fK ks))) S = .ok (ks.map fun p => dKey p.1, some n) S := rfl
theorem k_dg1 {b : Ex} {x : D} : kDg1 Γ b ρ X Q x S = W Γ b ρ S X (kDg2 x X Q) := rfl
theorem k_dg2 {x y : D} : kDg2 x X Q y S = (dgetEv x y S).satx X Q := rfl
theorem k_di1 {neg : Bool} {b : Ex} {x : D} : kDi1 Γ neg b ρ X Q x S = W Γ b ρ S X (kDi2 neg x X Q) := rfl
theorem k_di2 {neg : Bool} {x y : D} : kDi2 neg x X Q y S = (dinEv neg x y S).satx X Q := rfl
theorem k_m11 {m : DM1} {b : Ex} {x : D} : kM11 Γ m b ρ X Q x S = ((dictC S x).isSome = true ∧ W Γ b ρ S X (kM12 m x X Q)) := rfl
theorem k_m12 {m : DM1} {x y : D} : kM12 m x X Q y S = (m.ev x y S).satx X Q := rfl
theorem k_m21 {m : DM2} {b c : Ex} {x : D} : kM21 Γ m b c ρ X Q x S = ((dictC S x).isSome = true ∧ W Γ b ρ S X (kM22 Γ m x c ρ X Q)) := rfl
theorem k_m22 {m : DM2} {c : Ex} {x y : D} : kM22 Γ m x c ρ X Q y S = W Γ c ρ S X (kM23 m x y X Q) := rfl
theorem k_m23 {m : DM2} {x y z : D} : kM23 m x y X Q z S = (m.ev x y z S).satx X Q := rfl
theorem k_unE {n : Nat} {ks : List (Key × D)} {d : D} : kUnE n ks Q d S = Q d (S.set n (some (.dK ks))) := rfl
def dcO (o : Option (Option Cell)) : Option (List (Key × D)) := match o with
  | some (some (.dK ks)) => some ks
  | some (some (.fK ks)) => some ks
  | _ => none
theorem dict_cO {n : Nat} : dictC S (.loc n) = dcO S[n]? := rfl
theorem dcO_d {ks : List (Key × D)} : dcO (some (some (.dK ks))) = some ks := rfl
theorem dcO_f {ks : List (Key × D)} : dcO (some (some (.fK ks))) = some ks := rfl
theorem dg_c {n : Nat} {y : D} : dgetEv (.loc n) y S = dcR S[n]? fun ks => dgetEv (.dK ks) y S := by
  unfold dgetEv dcR
  rw [dict_cO]
  cases S[n]? with
  | none => cases keyD y <;> rfl
  | some o => cases o with
    | none => cases keyD y <;> rfl
    | some c => cases c <;> cases keyD y <;> rfl
theorem dg_i {ks : List (Key × D)} {i : Int} : dgetEv (.dK ks) (.int i) S = gvR (valD ks (.inl i)) S := by
  unfold dgetEv gvR; simp only [dictC, keyD] <;> rfl
theorem dg_s {ks : List (Key × D)} {z : Str} : dgetEv (.dK ks) (.str z) S = gvR (valD ks (.inr z)) S := by
  unfold dgetEv gvR; simp only [dictC, keyD] <;> rfl
theorem di_c {n : Nat} {neg : Bool} {y : D} : dinEv neg y (.loc n) S = dcR S[n]? fun ks => dinEv neg y (.dK ks) S := by
  unfold dinEv dcR
  rw [dict_cO]
  cases S[n]? with
  | none => cases keyD y <;> rfl
  | some o => cases o with
    | none => cases keyD y <;> rfl
    | some c => cases c <;> cases keyD y <;> rfl
theorem di_i {ks : List (Key × D)} {neg : Bool} {i : Int} : dinEv neg (.int i) (.dK ks) S = .ok (.bl (if neg then !(valD ks (.inl i)).isSome else (valD ks (.inl i)).isSome)) S := rfl
theorem di_s {ks : List (Key × D)} {neg : Bool} {i : Str} : dinEv neg (.str i) (.dK ks) S = .ok (.bl (if neg then !(valD ks (.inr i)).isSome else (valD ks (.inr i)).isSome)) S := rfl
theorem m1_get {n : Nat} {y : D} : DM1.ev .get (.loc n) y S = dcR S[n]? fun ks => DM1.ev .get (.dK ks) y S := by
  unfold DM1.ev dcR
  simp only [dict_cO]
  cases S[n]? with
  | none => cases keyD y <;> rfl
  | some o => cases o with
    | none => cases keyD y <;> rfl
    | some c => cases c <;> cases keyD y <;> rfl
theorem m1_gi {ks : List (Key × D)} {i : Int} : DM1.ev .get (.dK ks) (.int i) S = .ok ((valD ks (.inl i)).getD .non) S := rfl
theorem m1_gs {ks : List (Key × D)} {i : Str} : DM1.ev .get (.dK ks) (.str i) S = .ok ((valD ks (.inr i)).getD .non) S := rfl
def popR (o : Option D) (S S' : Store) (z : Option D) : Res D := match o with
  | some d => .ok d S'
  | none => match z with
    | some d => .ok d S
    | none => .bad
theorem m1_pi {n : Nat} {i : Int} : DM1.ev .pop (.loc n) (.int i) S = dwR S[n]? fun ks => popR (valD ks (.inl i)) S (S.set n (some (.dK (dropD ks (.inl i))))) none := by
  simp only [DM1.ev, keyD]
  cases S[n]? with
  | none => rfl
  | some o => cases o with
    | none => rfl
    | some c => cases c with
      | dK ks => (simp only [dwR, popR]) <;> (cases valD ks (.inl i) <;> rfl)
      | _ => rfl
theorem m1_ps {n : Nat} {i : Str} : DM1.ev .pop (.loc n) (.str i) S = dwR S[n]? fun ks => popR (valD ks (.inr i)) S (S.set n (some (.dK (dropD ks (.inr i))))) none := by
  simp only [DM1.ev, keyD]
  cases S[n]? with
  | none => rfl
  | some o => cases o with
    | none => rfl
    | some c => cases c with
      | dK ks => (simp only [dwR, popR]) <;> (cases valD ks (.inr i) <;> rfl)
      | _ => rfl
theorem m2_get {n : Nat} {y z : D} : DM2.ev .get (.loc n) y z S = dcR S[n]? fun ks => DM2.ev .get (.dK ks) y z S := by
  unfold DM2.ev dcR
  simp only [dict_cO]
  cases S[n]? with
  | none => cases keyD y <;> rfl
  | some o => cases o with
    | none => cases keyD y <;> rfl
    | some c => cases c <;> cases keyD y <;> rfl
theorem m2_gi {ks : List (Key × D)} {i : Int} {z : D} : DM2.ev .get (.dK ks) (.int i) z S = .ok ((valD ks (.inl i)).getD z) S := rfl
theorem m2_gs {ks : List (Key × D)} {i : Str} {z : D} : DM2.ev .get (.dK ks) (.str i) z S = .ok ((valD ks (.inr i)).getD z) S := rfl
theorem m2_pi {n : Nat} {i : Int} {z : D} : DM2.ev .pop (.loc n) (.int i) z S = dwR S[n]? fun ks => popR (valD ks (.inl i)) S (S.set n (some (.dK (dropD ks (.inl i))))) (some z) := by
  simp only [DM2.ev, keyD]
  cases S[n]? with
  | none => rfl
  | some o => cases o with
    | none => rfl
    | some c => cases c with
      | dK ks => (simp only [dwR, popR]) <;> (cases valD ks (.inl i) <;> rfl)
      | _ => rfl
theorem m2_ps {n : Nat} {i : Str} {z : D} : DM2.ev .pop (.loc n) (.str i) z S = dwR S[n]? fun ks => popR (valD ks (.inr i)) S (S.set n (some (.dK (dropD ks (.inr i))))) (some z) := by
  simp only [DM2.ev, keyD]
  cases S[n]? with
  | none => rfl
  | some o => cases o with
    | none => rfl
    | some c => cases c with
      | dK ks => (simp only [dwR, popR]) <;> (cases valD ks (.inr i) <;> rfl)
      | _ => rfl
def sdR (o : Option D) (n : Nat) (ks : List (Key × D)) (k : Key) (z : D) (S : Store) : Res D := match o with
  | some d => .ok d S
  | none => .ok z (S.set n (some (.dK (putD ks k z))))
theorem sdR_s {d : D} {n : Nat} {ks : List (Key × D)} {k : Key} {z : D} : sdR (some d) n ks k z S = .ok d S := rfl
theorem sdR_n {n : Nat} {ks : List (Key × D)} {k : Key} {z : D} : sdR none n ks k z S = .ok z (S.set n (some (.dK (putD ks k z)))) := rfl
theorem m2_si {n : Nat} {i : Int} {z : D} : DM2.ev .setd (.loc n) (.int i) z S = dwR S[n]? fun ks => grd (ks.length + 1 ≤ 16777216) (sdR (valD ks (.inl i)) n ks (.inl i) z S) := by
  simp only [DM2.ev, keyD, lineOk, grd_ite, decide_eq_true_eq]
  cases S[n]? with
  | none => rfl
  | some o => cases o with
    | none => rfl
    | some c => cases c with
      | dK ks => simp only [dwR, sdR]; cases valD ks (.inl i) <;> rfl
      | _ => rfl
theorem m2_ss {n : Nat} {i : Str} {z : D} : DM2.ev .setd (.loc n) (.str i) z S = dwR S[n]? fun ks => grd (ks.length + 1 ≤ 16777216) (sdR (valD ks (.inr i)) n ks (.inr i) z S) := by
  simp only [DM2.ev, keyD, lineOk, grd_ite, decide_eq_true_eq]
  cases S[n]? with
  | none => rfl
  | some o => cases o with
    | none => rfl
    | some c => cases c with
      | dK ks => simp only [dwR, sdR]; cases valD ks (.inr i) <;> rfl
      | _ => rfl
theorem dp_i {n : Nat} {i : Int} {v : D} : dputEv (.loc n) (.int i) v S = dwR S[n]? fun ks => grd (ks.length + 1 ≤ 16777216) (.ok () (S.set n (some (.dK (putD ks (.inl i) v))))) := by
  simp only [dputEv, keyD, lineOk, grd_ite, decide_eq_true_eq]
  cases S[n]? with
  | none => rfl
  | some o => cases o with
    | none => rfl
    | some c => cases c <;> rfl
theorem dp_s {n : Nat} {i : Str} {v : D} : dputEv (.loc n) (.str i) v S = dwR S[n]? fun ks => grd (ks.length + 1 ≤ 16777216) (.ok () (S.set n (some (.dK (putD ks (.inr i) v))))) := by
  simp only [dputEv, keyD, lineOk, grd_ite, decide_eq_true_eq]
  cases S[n]? with
  | none => rfl
  | some o => cases o with
    | none => rfl
    | some c => cases c <;> rfl
theorem dl_c {c : Bool} {n : Nat} : BI.ev .dlen c [.loc n] S = dcR S[n]? fun ks => .ok (.int ks.length) S := by
  simp only [BI.ev, dict_cO]
  cases S[n]? with
  | none => rfl
  | some o => cases o with
    | none => rfl
    | some c => cases c <;> rfl
theorem w_fnv {x : Str} : W Γ (.fnv x) ρ S X Q = Q (.fn x) S := by unfold W; simp only [sem] <;> rfl
theorem w_callv {f : Ex} {js : List (Str × Nat)} {es : List Ex} : W Γ (.callv f js es) ρ S X Q = W Γ f ρ S X (kCv Γ js es ρ X Q) := by
  simp only [W, sem, x_bind]; congr; funext v S1
  cases v with
  | fn x =>
    simp only [kCv]
    cases js.lookup x with
    | none => rfl
    | some j => simp only [x_bind, jvR] <;> rfl
  | _ => rfl
theorem k_cv {js : List (Str × Nat)} {es : List Ex} {x : Str} : kCv Γ js es ρ X Q (.fn x) S = jvR (js.lookup x) fun j => WL Γ es ρ S X (kCall Γ j X Q) := rfl
theorem jvR_s {p : Nat → Prop} {j : Nat} : jvR (some j) p = p j := rfl
theorem w_bi {f : BI} {es : List Ex} : W Γ (.bi f c es) ρ S X Q = WL Γ es ρ S X (kBi f c X Q) := by
  simp only [W, sem, x_bind] <;> rfl
theorem w_isi {t : Ty} {a : Ex} : W Γ (.isi t a) ρ S X Q = W Γ a ρ S X (kIsi t X Q) := by
  simp only [W, sem, x_bind] <;> rfl
theorem w_isiT {t : List Ty} {a : Ex} : W Γ (.isiT t a) ρ S X Q = W Γ a ρ S X (kIsiT t X Q) := by
  simp only [W, sem, x_bind] <;> rfl
theorem w_meth {m : MI} {o : Ex} {es : List Ex} : W Γ (.meth m o es) ρ S X Q = W Γ o ρ S X (kMe1 Γ m es ρ X Q) := by
  simp only [W, sem, x_bind, grd_ite, x_grd] <;> rfl
theorem w_lc {tg : Tg} {src : Src} {ifs : List Ex} {elt : Ex} {own : List Nat} : W Γ (.lc c tg src ifs elt own) ρ S X Q = WR Γ src ρ S X (kLc Γ c tg ifs elt own ρ X Q) := by
  simp only [W, sem, x_bind] <;> rfl
theorem wl_nil {Q : List D → Store → Prop} : WL Γ [] ρ S X Q = Q [] S := by simp only [WL, semL] <;> rfl
theorem wl_cons {e : Ex} {r : List Ex} {Q : List D → Store → Prop} : WL Γ (e :: r) ρ S X Q = W Γ e ρ S X (kL1 Γ r ρ X Q) := by
  simp only [WL, semL, x_bind] <;> rfl
theorem wo_none {Q : Option Int → Store → Prop} : WO Γ none ρ S X Q = Q none S := by simp only [WO, semO] <;> rfl
theorem wo_some {e : Ex} {Q : Option Int → Store → Prop} : WO Γ (some e) ρ S X Q = W Γ e ρ S X (kIn X Q) := by
  simp only [WO, semO, x_bind] <;> rfl
theorem wi_nil {Q : Bool → Store → Prop} : WI Γ [] ρ S X Q = Q true S := by simp only [WI, semIfs] <;> rfl
theorem wi_one {e : Ex} {Q : Bool → Store → Prop} : WI Γ [e] ρ S X Q = W Γ e ρ S X (kBl Q) := by simp only [WI, semIfs, x_asBl2] <;> rfl
theorem wr_ex {e : Ex} {Q : List D × Option Nat → Store → Prop} : WR Γ (.ex e) ρ S X Q = W Γ e ρ S X (kWk X Q) := by
  simp only [WR, semSrc, x_bind] <;> rfl
theorem wr_rng1 {a : Ex} {Q : List D × Option Nat → Store → Prop} : WR Γ (.rng1 a) ρ S X Q = W Γ a ρ S X (kRg2 (.int 0) X Q) := by
  simp only [WR, semSrc, x_bind, W]; congr; funext x S1; cases x <;> rfl
theorem wr_rng2 {a b : Ex} {Q : List D × Option Nat → Store → Prop} : WR Γ (.rng2 a b) ρ S X Q = W Γ a ρ S X (kRg1 Γ b ρ X Q) := by
  simp only [WR, semSrc, x_bind] <;> rfl
theorem k_tupN {ds : List D} : kTupN Q ds S = (ds.length ≤ 16777216 ∧ Q (.ctp ds) S) := rfl
theorem k_weak {x : D} : kWeak Q x S = Q x.weak S := rfl
theorem k_tup {ds : List D} : kTup Q ds S = (ds.length ≤ 16777216 ∧ Q (.tup ds) S) := rfl
theorem k_mkf {ds : List D} : kMk false X Q ds S = (ds.length ≤ 16777216 ∧ Q (.lst ds) S) := by
  simp only [kMk, mkL, lineOk, grd_ite, decide_eq_true_eq, x_grd, x_ok, Bool.false_eq_true, if_false]
theorem k_mkt {ds : List D} : kMk true X Q ds S = (ds.length ≤ 16777216 ∧ Q (.loc S.length) (S ++ [some (.lst ds)])) := by
  simp only [kMk, mkL, lineOk, grd_ite, decide_eq_true_eq, x_grd, x_ok, if_true]
theorem x_mkf {ds : List D} : (mkL false ds S).satx X Q = (ds.length ≤ 16777216 ∧ Q (.lst ds) S) := k_mkf
theorem x_mkt {ds : List D} : (mkL true ds S).satx X Q = (ds.length ≤ 16777216 ∧ Q (.loc S.length) (S ++ [some (.lst ds)])) := k_mkt
theorem k_l2 {d : D} {Q : List D → Store → Prop} {ds : List D} : kL2 d Q ds S = Q (d :: ds) S := rfl
theorem k_l1 {r : List Ex} {Q : List D → Store → Prop} {d : D} : kL1 Γ r ρ X Q d S = WL Γ r ρ S X (kL2 d Q) := rfl
theorem k_bin2 {o : BOp} {x y : D} : kBin2 o c x X Q y S = (o.ev c x y S).satx X Q := rfl
theorem k_bin1 {o : BOp} {b : Ex} {x : D} : kBin1 Γ o c b ρ X Q x S = W Γ b ρ S X (kBin2 o c x X Q) := rfl
theorem k_cmp2 {o : COp} {x y : D} : kCmp2 o x X Q y S = (o.ev x y S).satx X Q := rfl
theorem k_cmp1 {o : COp} {b : Ex} {x : D} : kCmp1 Γ o b ρ X Q x S = W Γ b ρ S X (kCmp2 o x X Q) := rfl
theorem k_ix2 {x y : D} : kIx2 x X Q y S = (ixEv x y S).satx X Q := rfl
theorem k_ix1 {b : Ex} {x : D} : kIx1 Γ b ρ X Q x S = W Γ b ρ S X (kIx2 x X Q) := rfl
theorem k_neg {i : Int} : kNeg X Q (.int i) S = Q (.int (-i)) S := rfl
theorem k_bl {Q : Bool → Store → Prop} {b : Bool} : kBl Q (.bl b) S = Q b S := rfl
theorem k_not {b : Bool} : kNot Q (.bl b) S = Q (.bl (!b)) S := rfl
theorem k_boo {k : Bool} {r : List Ex} {b : Bool} : kBoo Γ k r ρ X Q (.bl b) S = iteK b k Γ r ρ S X Q := rfl
theorem k_ch3 {o' : COp} {y : D} {d : Ex} {b : Bool} : kCh3 Γ o' y d ρ X Q (.bl b) S = iteC b Γ o' y d ρ S X Q := rfl
theorem k_ch2 {o o' : COp} {x y : D} {d : Ex} : kCh2 Γ o o' x d ρ X Q y S = (o.ev x y S).satx X (kCh3 Γ o' y d ρ X Q) := rfl
theorem k_ch1 {o o' : COp} {x : D} {b d : Ex} : kCh1 Γ o o' b d ρ X Q x S = W Γ b ρ S X (kCh2 Γ o o' x d ρ X Q) := rfl
theorem k_ife {a b : Ex} {t : Bool} : kIfe Γ a b ρ X Q (.bl t) S = iteW t Γ a b ρ S X Q := rfl
theorem k_sl3 {x : D} {l h : Option Int} : kSl3 c x l X Q h S = (slcEv c x l h S).satx X Q := rfl
theorem k_sl2 {x : D} {l : Option Int} {hi : Option Ex} : kSl2 Γ c x hi ρ X Q l S = WO Γ hi ρ S X (kSl3 c x l X Q) := rfl
theorem k_sl1 {x : D} {lo hi : Option Ex} : kSl1 Γ c lo hi ρ X Q x S = WO Γ lo ρ S X (kSl2 Γ c x hi ρ X Q) := rfl
theorem k_call {j : Nat} {ds : List D} : kCall Γ j X Q ds S = (cfR Γ.tab[j]? ds S).satx X Q := rfl
theorem k_bi {f : BI} {ds : List D} : kBi f c X Q ds S = (f.ev c ds S).satx X Q := rfl
theorem k_isi {t : Ty} {x : D} : kIsi t X Q x S = (tyR (tyEv S t x) S).satx X Q := rfl
theorem k_isiT {t : List Ty} {x : D} : kIsiT t X Q x S = (tyR (tyEvs S t x) S).satx X Q := rfl
theorem k_me2 {m : MI} {x : D} {ds : List D} : kMe2 m x X Q ds S = (m.ev x ds S).satx X Q := rfl
theorem k_me1 {m : MI} {x : D} {es : List Ex} : kMe1 Γ m es ρ X Q x S = (m.recv x S = true ∧ WL Γ es ρ S X (kMe2 m x X Q)) := rfl
theorem k_lc {tg : Tg} {ifs : List Ex} {elt : Ex} {own : List Nat} {xs : List D} {g : Option Nat} : kLc Γ c tg ifs elt own ρ X Q (xs, g) S = (LcR Γ tg ifs elt g S (wipeD ρ own) xs S).satx X (kMk c X Q) := rfl
theorem k_in {i : Int} {Q : Option Int → Store → Prop} : kIn X Q (.int i) S = Q (some i) S := rfl
theorem k_wk {d : D} {Q : List D × Option Nat → Store → Prop} : kWk X Q d S = (wkR d S).satx X Q := rfl
theorem k_rg2 {x y : D} {Q : List D × Option Nat → Store → Prop} : kRg2 x X Q y S = (rgR x y S).satx X Q := rfl
theorem k_rg1 {x : D} {b : Ex} {Q : List D × Option Nat → Store → Prop} : kRg1 Γ b ρ X Q x S = W Γ b ρ S X (kRg2 x X Q) := rfl
theorem k_x {e : Exn} : kX P ρ e S = P.X e ρ S := rfl
theorem btW_s : btW (some ρ) S P = P.N ρ S := rfl
theorem k_asg {tg : Tg} {d : D} : kAsg tg ρ P d S = btW (bindTg tg d ρ) S P := rfl
theorem k_s4 {u : Unit} : kS4 ρ P u S = P.N ρ S := rfl
theorem k_s3 {x v k : D} : kS3 x v ρ P k S = (setIxEv x k v S).satx (kX P ρ) (kS4 ρ P) := rfl
theorem k_s2 {i : Ex} {v x : D} : kS2 Γ i v ρ P x S = W Γ i ρ S (kX P ρ) (kS3 x v ρ P) := rfl
theorem k_s1 {o i : Ex} {v : D} : kS1 Γ o i ρ P v S = W Γ o ρ S (kX P ρ) (kS2 Γ i v ρ P) := rfl
theorem k_t2 {o i o2 i2 : Ex} {a b : D} : kT2 Γ o i o2 i2 ρ P (.tup [a, b]) S = kS1 Γ o i ρ (kTwo Γ o2 i2 b P) a S := rfl
theorem k_two {o i : Ex} {b : D} : (kTwo Γ o i b P).N ρ S = kS1 Γ o i ρ P b S := rfl
theorem k_twoX {o i : Ex} {b : D} {e : Exn} : (kTwo Γ o i b P).X e ρ S = P.X e ρ S := rfl
theorem k_exp {d : D} : kExp ρ P d S = P.N ρ S := rfl
theorem k_ret {d : D} : kRet P d S = P.T d S := rfl
theorem k_if {a b : List Sm} {t : Bool} : kIf Γ a b ρ P (.bl t) S = iteS t Γ a b ρ S P := rfl
theorem k_Kt {k : Bool} {r : List Ex} : iteK k k Γ r ρ S X Q = WB Γ k r ρ S X Q := by simp [iteK]
theorem k_Ktf {r : List Ex} : iteK true false Γ r ρ S X Q = Q (.bl true) S := by simp [iteK]
theorem k_Kft {r : List Ex} : iteK false true Γ r ρ S X Q = Q (.bl false) S := by simp [iteK]
theorem k_Ct {o' : COp} {y : D} {d : Ex} : iteC true Γ o' y d ρ S X Q = W Γ d ρ S X (kCmp2 o' y X Q) := by simp [iteC]
theorem k_Cf {o' : COp} {y : D} {d : Ex} : iteC false Γ o' y d ρ S X Q = Q (.bl false) S := by simp [iteC]
theorem k_Wt {a b : Ex} : iteW true Γ a b ρ S X Q = W Γ a ρ S X Q := by simp [iteW]
theorem k_Wf {a b : Ex} : iteW false Γ a b ρ S X Q = W Γ b ρ S X Q := by simp [iteW]
theorem k_St {a b : List Sm} : iteS true Γ a b ρ S P = Ws Γ a ρ S P := by simp [iteS]
theorem k_Sf {a b : List Sm} : iteS false Γ a b ρ S P = Ws Γ b ρ S P := by simp [iteS]
theorem it_Kt {b : Bool} {r : List Ex} (h1 : b = true → WB Γ true r ρ S X Q) (h2 : b = false → Q (.bl false) S) : iteK b true Γ r ρ S X Q := by
  cases b <;> simp_all [iteK]
theorem it_Kf {b : Bool} {r : List Ex} (h1 : b = false → WB Γ false r ρ S X Q) (h2 : b = true → Q (.bl true) S) : iteK b false Γ r ρ S X Q := by
  cases b <;> simp_all [iteK]
theorem it_C {b : Bool} {o' : COp} {y : D} {d : Ex} (h1 : b = true → W Γ d ρ S X (kCmp2 o' y X Q)) (h2 : b = false → Q (.bl false) S) : iteC b Γ o' y d ρ S X Q := ⟨h1, h2⟩
theorem it_W {t : Bool} {a b : Ex} (h1 : t = true → W Γ a ρ S X Q) (h2 : t = false → W Γ b ρ S X Q) : iteW t Γ a b ρ S X Q := ⟨h1, h2⟩
theorem it_S {t : Bool} {a b : List Sm} (h1 : t = true → Ws Γ a ρ S P) (h2 : t = false → Ws Γ b ρ S P) : iteS t Γ a b ρ S P := ⟨h1, h2⟩
theorem k_for {tg : Tg} {b : List Sm} {xs : List D} {g : Option Nat} : kFor Γ tg b ρ P (xs, g) S = (ForR Γ tg b g S xs ρ S).satp P := rfl
theorem q_N {r : List Sm} : (kSeq Γ r P).N ρ S = Ws Γ r ρ S P := rfl
theorem q_B {r : List Sm} : (kSeq Γ r P).B = P.B := rfl
theorem q_C {r : List Sm} : (kSeq Γ r P).C = P.C := rfl
theorem q_T {r : List Sm} : (kSeq Γ r P).T = P.T := rfl
theorem q_X {r : List Sm} : (kSeq Γ r P).X = P.X := rfl
theorem f_N : (kFn X Q).N ρ S = Q .non S := rfl
theorem f_T : (kFn X Q).T = Q := rfl
theorem f_X {e : Exn} : (kFn X Q).X e ρ S = X e S := rfl
theorem o_N {J : EnvD → Store → Prop} : (kLoop P J).N = J := rfl
theorem o_B {J : EnvD → Store → Prop} : (kLoop P J).B = P.N := rfl
theorem o_C {J : EnvD → Store → Prop} : (kLoop P J).C = J := rfl
theorem o_T {J : EnvD → Store → Prop} : (kLoop P J).T = P.T := rfl
theorem o_X {J : EnvD → Store → Prop} : (kLoop P J).X = P.X := rfl
theorem ws_cons {s : Sm} {r : List Sm} : Ws Γ (s :: r) ρ S P = W1 Γ s ρ S (kSeq Γ r P) := s_cons
theorem ws_nil : Ws Γ [] ρ S P = P.N ρ S := s_nil
theorem w1_asg {tg : Tg} {e : Ex} : W1 Γ (.asg tg e) ρ S P = W Γ e ρ S (kX P ρ) (kAsg tg ρ P) := by
  unfold W1; simp only [DL.run, s_ofE]; unfold W; congr; funext d S1; unfold kAsg btW; cases bindTg tg d ρ <;> rfl
theorem w1_set {o i e : Ex} : W1 Γ (.setIx o i e) ρ S P = W Γ e ρ S (kX P ρ) (kS1 Γ o i ρ P) := by
  unfold W1; simp only [DL.run, s_ofE] <;> rfl
theorem k_p1 {o i : Ex} {v : D} : kP1 Γ o i ρ P v S = W Γ o ρ S (kX P ρ) (kP2 Γ i v ρ P) := rfl
theorem k_p2 {i : Ex} {v x : D} : kP2 Γ i v ρ P x S = W Γ i ρ S (kX P ρ) (kP3 x v ρ P) := rfl
theorem k_p3 {x v k : D} : kP3 x v ρ P k S = (dputEv x k v S).satx (kX P ρ) (kS4 ρ P) := rfl
theorem w1_dput {o i e : Ex} : W1 Γ (.dput o i e) ρ S P = W Γ e ρ S (kX P ρ) (kP1 Γ o i ρ P) := by
  unfold W1; simp only [DL.run, s_ofE] <;> rfl
theorem s_unl {n : Nat} {ks : List (Key × D)} {R : SR} : (unlkS n ks R).satp P = R.satp (kUnS n ks P) := by
  cases R <;> rfl
theorem w1_lockv {i : Nat} {a : Sm} : W1 Γ (.lock (.var i) a) ρ S P = lkD ρ[i]? S fun n ks => W1 Γ a ρ (S.set n (some (.fK ks))) (kUnS n ks P) := by
  unfold W1 lkD
  simp only [DL.run, sem]
  cases ρ[i]? with
  | none => rfl
  | some o => cases o with
    | none => rfl
    | some d => cases d with
      | loc n =>
        simp only [lockOf]
        cases S[n]? with
        | none => rfl
        | some o => cases o with
          | none => rfl
          | some c => cases c with
            | dK ks => exact s_unl
            | _ => rfl
      | _ => rfl
theorem u_N {n : Nat} {ks : List (Key × D)} : (kUnS n ks P).N ρ S = P.N ρ (S.set n (some (.dK ks))) := rfl
theorem u_T {n : Nat} {ks : List (Key × D)} {d : D} : (kUnS n ks P).T d S = P.T d (S.set n (some (.dK ks))) := rfl
theorem u_B {n : Nat} {ks : List (Key × D)} : (kUnS n ks P).B ρ S = P.B ρ (S.set n (some (.dK ks))) := rfl
theorem u_C {n : Nat} {ks : List (Key × D)} : (kUnS n ks P).C ρ S = P.C ρ (S.set n (some (.dK ks))) := rfl
theorem w1_set2 {o i o2 i2 e : Ex} : W1 Γ (.setIx2 o i o2 i2 e) ρ S P = W Γ e ρ S (kX P ρ) (kT2 Γ o i o2 i2 ρ P) := by
  unfold W1; simp only [DL.run, s_ofE]; unfold W; congr; funext d S1
  cases d with
  | tup xs => rcases xs with _ | ⟨a, _ | ⟨b, _ | ⟨c, r⟩⟩⟩ <;> first | rfl | (simp only [s_ofE]; rfl)
  | _ => rfl
theorem w1_expr {e : Ex} : W1 Γ (.expr e) ρ S P = W Γ e ρ S (kX P ρ) (kExp ρ P) := by
  unfold W1; simp only [DL.run, s_ofE] <;> rfl
theorem w1_ret0 : W1 Γ (.ret none) ρ S P = P.T .non S := by unfold W1; simp only [DL.run] <;> rfl
theorem w1_ret {e : Ex} : W1 Γ (.ret (some e)) ρ S P = W Γ e ρ S (kX P ρ) (kRet P) := by
  unfold W1; simp only [DL.run, s_ofE] <;> rfl
theorem s_tf {R R' : SR} {p : Prop} [Decidable p] : (if p then R else R').satp P = ((p → R.satp P) ∧ (¬ p → R'.satp P)) := by
  by_cases h : p <;> simp [h]
theorem w1_ife {e : Ex} {a b : List Sm} : W1 Γ (.ife e a b) ρ S P = W Γ e ρ S (kX P ρ) (kIf Γ a b ρ P) := by
  unfold W1; simp only [DL.run, s_ofE, x_asBl2, s_tf, Bool.not_eq_true] <;> rfl
theorem w1_for {tg : Tg} {src : Src} {b : List Sm} : W1 Γ (.for tg src b) ρ S P = WR Γ src ρ S (kX P ρ) (kFor Γ tg b ρ P) := by
  unfold W1; simp only [DL.run, s_ofE] <;> rfl
theorem w1_while {e : Ex} {b : List Sm} : W1 Γ (.while e b) ρ S P = (WhR Γ e b ρ S).satp P := by unfold W1; simp only [DL.run] <;> rfl
theorem w1_pass : W1 Γ .pass ρ S P = P.N ρ S := by unfold W1; simp only [DL.run] <;> rfl
theorem w1_brk : W1 Γ .brk ρ S P = P.B ρ S := by unfold W1; simp only [DL.run] <;> rfl
theorem w1_raise : W1 Γ .raise ρ S P = False := by unfold W1; simp only [DL.run] <;> rfl
theorem w1_cont : W1 Γ .cont ρ S P = P.C ρ S := by unfold W1; simp only [DL.run] <;> rfl
/-! ### exceptions -/
def upB (c : Str) (ups : List Str) : Bool := decide (c ∈ ups)
def upsB (cs ups : List Str) : Bool := cs.any fun c => decide (c ∈ ups)
def isxR (cs : List Str) (x : D) (S : Store) : Res D := match x with
  | .exn _ ups _ => if cs.all (fun c => decide (c ∈ xNames)) && !cs.isEmpty then .ok (.bl (upsB cs ups)) S else .bad
  | _ => .bad
theorem isx_e {cs ups : List Str} {c : Str} {fs : List (Str × D)} : isxR cs (.exn c ups fs) S = grd ((cs.all (fun c => decide (c ∈ xNames)) && !cs.isEmpty) = true) (.ok (.bl (upsB cs ups)) S) := grd_ite
def isvR (x : D) (S : Store) : Res D := match x with
  | .exn _ _ _ => .ok (.bl true) S
  | _ => .bad
theorem isv_e {ups : List Str} {c : Str} {fs : List (Str × D)} : isvR (.exn c ups fs) S = .ok (.bl true) S := rfl
def atR (f : Str) (x : D) (S : Store) : Res D := match x with
  | .exn _ _ fs => if f ∈ fNames then gvR (fs.lookup f) S else .bad
  | _ => .bad
def kIsX (cs : List Str) (X : XD) (Q : QD) : QD := fun x S => (isxR cs x S).satx X Q
def kIsVE (X : XD) (Q : QD) : QD := fun x S => (isvR x S).satx X Q
def kAt (f : Str) (X : XD) (Q : QD) : QD := fun x S => (atR f x S).satx X Q
theorem k_isX {cs : List Str} {x : D} : kIsX cs X Q x S = (isxR cs x S).satx X Q := rfl
theorem k_isVE {x : D} : kIsVE X Q x S = (isvR x S).satx X Q := rfl
theorem k_at {f : Str} {x : D} : kAt f X Q x S = (atR f x S).satx X Q := rfl
theorem w_isX {cs : List Str} {a : Ex} : W Γ (.isX cs a) ρ S X Q = W Γ a ρ S X (kIsX cs X Q) := by
  simp only [W, sem, x_bind] <;> rfl
theorem w_isVE {a : Ex} : W Γ (.isVE a) ρ S X Q = W Γ a ρ S X (kIsVE X Q) := by
  simp only [W, sem, x_bind] <;> rfl
theorem w_attr {a : Ex} {f : Str} : W Γ (.attr a f) ρ S X Q = W Γ a ρ S X (kAt f X Q) := by
  simp only [W, sem, x_bind] <;> rfl
/-! ### dicts alike, values -/
def kDq2 (neg : Bool) (x : D) (X : XD) (Q : QD) : QD := fun y S => (deqEv neg x y S).satx X Q
noncomputable def kDq1 (Γ : Gm) (neg : Bool) (b : Ex) (ρ : EnvD) (X : XD) (Q : QD) : QD := fun x S => W Γ b ρ S X (kDq2 neg x X Q)
theorem k_dq2 {neg : Bool} {x y : D} : kDq2 neg x X Q y S = (deqEv neg x y S).satx X Q := rfl
theorem k_dq1 {neg : Bool} {b : Ex} {x : D} : kDq1 Γ neg b ρ X Q x S = W Γ b ρ S X (kDq2 neg x X Q) := rfl
theorem w_deq {neg : Bool} {a b : Ex} : W Γ (.deq neg a b) ρ S X Q = W Γ a ρ S X (kDq1 Γ neg b ρ X Q) := by
  simp only [W, sem, x_bind] <;> rfl
def vyR (d : D) (S : Store) : Res (List D × Option Nat) := match valsOf d S with
  | some p => .ok p S
  | none => .bad
def vyC (n : Nat) (o : Option (Option Cell)) (S : Store) : Res (List D × Option Nat) := match o with
  | some (some (.fK ks)) => .ok (ks.map fun p => p.2, some n) S
  | _ => .bad
def kVy (X : XD) (Q : List D × Option Nat → Store → Prop) : QD := fun d S => (vyR d S).satx X Q
theorem k_vy {d : D} {Q : List D × Option Nat → Store → Prop} : kVy X Q d S = (vyR d S).satx X Q := rfl
theorem wr_vals {a : Ex} {Q : List D × Option Nat → Store → Prop} : WR Γ (.vals a) ρ S X Q = W Γ a ρ S X (kVy X Q) := by
  simp only [WR, semSrc, x_bind] <;> rfl
theorem vy_l {n : Nat} : vyR (.loc n) S = vyC n S[n]? S := by
  unfold vyR vyC valsOf; simp only []
  cases S[n]? with
  | none => rfl
  | some o => cases o with
    | none => rfl
    | some c => cases c <;> rfl
theorem vyC_f {n : Nat} {ks : List (Key × D)} : vyC n (some (some (.fK ks))) S = .ok (ks.map fun p => p.2, some n) S := rfl
theorem e_insert {n : Nat} {k : Int} {y : D} : MI.ev .insert (.loc n) [.int k, y] S = clR S[n]? fun ys => grd ((ys.length + 1 ≤ 16777216) ∧ 0 ≤ k ∧ k < 9223372036854775808) (.ok .non (S.set n (some (.lst (ys.take k.toNat ++ [y] ++ ys.drop k.toNat))))) := by
  simp only [MI.ev, lineOk, ← grd_ite, Bool.and_eq_true, decide_eq_true_eq, setCell]
  unfold clR
  cases S[n]? with
  | none => rfl
  | some o => cases o with
    | none => rfl
    | some c => cases c <;> rfl
theorem e_rc_insert {x : D} : MI.recv .insert x S = (x.list? S).isSome := rfl
/-! ### objects -/
def icR {α : Type} (o : Option (Option Cell)) (f : Str → List (Str × D) → Res α) : Res α := match o with
  | some (some (.ins c fs)) => f c fs
  | _ => .bad
theorem icR_s {α : Type} {c : Str} {fs : List (Str × D)} {f : Str → List (Str × D) → Res α} : icR (some (some (.ins c fs))) f = f c fs := rfl
def fldR (f : Str) (fs : List (Str × D)) (S : Store) : Res D := if f ∈ iNames then gvR (fs.lookup f) S else .bad
theorem fld_loc {n : Nat} {f : Str} : fldEv (.loc n) f S = icR S[n]? fun _ fs => fldR f fs S := by
  unfold fldEv icR; simp only []
  cases S[n]? with
  | none => rfl
  | some o => cases o with
    | none => rfl
    | some c => cases c with
      | ins c fs =>
        unfold fldR
        by_cases h : f ∈ iNames
        · simp only [if_pos h]
          cases fs.lookup f <;> rfl
        · simp only [if_neg h]
      | _ => rfl
def kFld (f : Str) (X : XD) (Q : QD) : QD := fun x S => (fldEv x f S).satx X Q
theorem k_fld {f : Str} {x : D} : kFld f X Q x S = (fldEv x f S).satx X Q := rfl
theorem w_fld {a : Ex} {f : Str} : W Γ (.fld a f) ρ S X Q = W Γ a ρ S X (kFld f X Q) := by
  simp only [W, sem, x_bind] <;> rfl
def mkfR (c : Str) (n : Nat) (f : Str) (v : D) (fs : List (Str × D)) (S : Store) : Res Unit := if f ∈ iNames ∧ fs.length < 100 then .ok () (S.set n (some (.ins c (putFD f v fs)))) else .bad
theorem fput_loc {n : Nat} {f : Str} {v : D} : fputEv (.loc n) f v S = icR S[n]? fun c fs => mkfR c n f v fs S := by
  unfold fputEv icR; simp only []
  cases S[n]? with
  | none => rfl
  | some o => cases o with
    | none => rfl
    | some c => cases c <;> rfl
def kFp2 (f : Str) (v : D) (ρ : EnvD) (P : Po) : QD := fun x S => (fputEv x f v S).satx (kX P ρ) (kS4 ρ P)
noncomputable def kFp1 (Γ : Gm) (o : Ex) (f : Str) (ρ : EnvD) (P : Po) : QD := fun v S => W Γ o ρ S (kX P ρ) (kFp2 f v ρ P)
theorem k_fp2 {f : Str} {v x : D} : kFp2 f v ρ P x S = (fputEv x f v S).satx (kX P ρ) (kS4 ρ P) := rfl
theorem k_fp1 {o : Ex} {f : Str} {v : D} : kFp1 Γ o f ρ P v S = W Γ o ρ S (kX P ρ) (kFp2 f v ρ P) := rfl
theorem w1_fput {o e : Ex} {f : Str} : W1 Γ (.fput o f e) ρ S P = W Γ e ρ S (kX P ρ) (kFp1 Γ o f ρ P) := by
  unfold W1; simp only [DL.run, s_ofE] <;> rfl
def icW (o : Option (Option Cell)) (f : Str → List (Str × D) → Prop) : Prop := match o with
  | some (some (.ins c fs)) => f c fs
  | _ => False
theorem icW_s {c : Str} {fs : List (Str × D)} {f : Str → List (Str × D) → Prop} : icW (some (some (.ins c fs))) f = f c fs := rfl
def kMc2 (Γ : Gm) (j n : Nat) (X : XD) (Q : QD) : List D → Store → Prop := fun ds S => (cfR Γ.mt[j]? (.loc n :: ds) S).satx X Q
noncomputable def mcW (Γ : Gm) (c m : Str) (j : Nat) (es : List Ex) (ρ : EnvD) (X : XD) (Q : QD) (x : D) (S : Store) : Prop := match x with
  | .loc n => icW S[n]? fun c' fs => (c' = c ∧ fs.lookup m = none) ∧ WL Γ es ρ S X (kMc2 Γ j n X Q)
  | _ => False
theorem mc_loc {c m : Str} {j n : Nat} {es : List Ex} : mcW Γ c m j es ρ X Q (.loc n) S = icW S[n]? fun c' fs => (c' = c ∧ fs.lookup m = none) ∧ WL Γ es ρ S X (kMc2 Γ j n X Q) := rfl
noncomputable def kMc1 (Γ : Gm) (c m : Str) (j : Nat) (es : List Ex) (ρ : EnvD) (X : XD) (Q : QD) : QD := fun x S => mcW Γ c m j es ρ X Q x S
theorem k_mc2 {j n : Nat} {ds : List D} : kMc2 Γ j n X Q ds S = (cfR Γ.mt[j]? (.loc n :: ds) S).satx X Q := rfl
theorem k_mc1 {c m : Str} {j : Nat} {es : List Ex} {x : D} : kMc1 Γ c m j es ρ X Q x S = mcW Γ c m j es ρ X Q x S := rfl
theorem w_mcall {c m : Str} {j : Nat} {o : Ex} {es : List Ex} : W Γ (.mcall c m j o es) ρ S X Q = W Γ o ρ S X (kMc1 Γ c m j es ρ X Q) := by
  simp only [W, sem, x_bind]
  congr
  funext x S1
  unfold kMc1 mcW
  cases x with
  | loc n =>
    simp only [icW]
    cases S1[n]? with
    | none => rfl
    | some o => cases o with
      | none => rfl
      | some cl => cases cl with
        | ins c' fs =>
          simp only
          by_cases h : c' = c ∧ fs.lookup m = none
          · rw [if_pos h]
            have e : (c' = c ∧ fs.lookup m = none) = True := eq_true h
            rw [e, true_and, x_bind]
            unfold WL kMc2
            congr <;> (funext ds S2; cases Γ.mt[j]? <;> rfl)
          · have e : (c' = c ∧ fs.lookup m = none) = False := eq_false h
            simp only [e, if_false, false_and, x_bad]
        | _ => rfl
  | _ => rfl
def nonW (Q : Store → Prop) : D → Store → Prop := fun v S => match v with
  | .non => Q S
  | _ => False
theorem nonW_n {Q : Store → Prop} : nonW Q .non S = Q S := rfl
def kMke (Γ : Gm) (c : Str) (j : Nat) (X : XD) (Q : QD) : List D → Store → Prop := fun ds S => (cfR Γ.mt[j]? (.loc S.length :: ds) (S ++ [some (.ins c [])])).satx X (nonW (Q (.loc S.length)))
theorem k_mke {c : Str} {j : Nat} {ds : List D} : kMke Γ c j X Q ds S = (cfR Γ.mt[j]? (.loc S.length :: ds) (S ++ [some (.ins c [])])).satx X (nonW (Q (.loc S.length))) := rfl
theorem w_make {c : Str} {j : Nat} {es : List Ex} : W Γ (.make c j es) ρ S X Q = WL Γ es ρ S X (kMke Γ c j X Q) := by
  simp only [W, sem, x_bind]
  unfold WL kMke
  congr
  funext ds S1
  cases Γ.mt[j]? with
  | none => rfl
  | some f =>
    simp only [cfR, x_bind]
    congr
    funext v S2
    cases v <;> rfl
/-- a dict that is found by an expression, walked -/
def lkE (d : D) (S : Store) (f : Nat → List (Key × D) → Prop) : Prop := match d with
  | .loc n => lkC n S[n]? f
  | _ => False
noncomputable def kLkS (Γ : Gm) (a : Sm) (ρ : EnvD) (S : Store) (P : Po) : QD := fun x _ => lkE x S fun n ks => W1 Γ a ρ (S.set n (some (.fK ks))) (kUnS n ks P)
noncomputable def kLkE (Γ : Gm) (a : Ex) (ρ : EnvD) (S : Store) (Q : QD) : QD := fun x _ => lkE x S fun n ks => W Γ a ρ (S.set n (some (.fK ks))) noX (kUnE n ks Q)
theorem k_lkS {a : Sm} {n : Nat} {S' : Store} : kLkS Γ a ρ S P (.loc n) S' = lkC n S[n]? fun n ks => W1 Γ a ρ (S.set n (some (.fK ks))) (kUnS n ks P) := rfl
theorem k_lkE {a : Ex} {n : Nat} {S' : Store} : kLkE Γ a ρ S Q (.loc n) S' = lkC n S[n]? fun n ks => W Γ a ρ (S.set n (some (.fK ks))) noX (kUnE n ks Q) := rfl
theorem lock_sat {r : Res D} {S : Store} {f : Nat → List (Key × D) → Prop} : (match lockOf r S with | some (n, ks) => f n ks | none => False) = r.satx noX fun x _ => lkE x S f := by
  cases r with
  | ok d S1 =>
    cases d with
    | loc n =>
      simp only [lockOf, x_ok, lkE]
      cases S[n]? with
      | none => rfl
      | some o => cases o with
        | none => rfl
        | some c => cases c <;> rfl
    | _ => rfl
  | exc e S1 => rfl
  | bad => rfl
theorem w1_lockd {d : Ex} {a : Sm} : W1 Γ (.lock d a) ρ S P = W Γ d ρ S noX (kLkS Γ a ρ S P) := by
  unfold W kLkS
  rw [← lock_sat]
  unfold W1
  simp only [DL.run]
  cases lockOf (sem Γ d ρ S) S with
  | none => rfl
  | some p => exact s_unl
theorem w_lockd {d a : Ex} : W Γ (.lock d a) ρ S X Q = W Γ d ρ S noX (kLkE Γ a ρ S Q) := by
  rw [show W Γ d ρ S noX (kLkE Γ a ρ S Q) = _ from lock_sat.symm]
  unfold W
  simp only [sem]
  cases lockOf (sem Γ d ρ S) S with
  | none => rfl
  | some p =>
    obtain ⟨n, ks⟩ := p
    simp only
    cases sem Γ a ρ (S.set n (some (.fK ks))) <;> rfl
theorem w1_lockf {b : Ex} {f : Str} {a : Sm} : W1 Γ (.lock (.fld b f) a) ρ S P = W Γ (.fld b f) ρ S noX (kLkS Γ a ρ S P) := w1_lockd
theorem w_lockf {b a : Ex} {f : Str} : W Γ (.lock (.fld b f) a) ρ S X Q = W Γ (.fld b f) ρ S noX (kLkE Γ a ρ S Q) := w_lockd
theorem w1_lockg {b k : Ex} {a : Sm} : W1 Γ (.lock (.dget b k) a) ρ S P = W Γ (.dget b k) ρ S noX (kLkS Γ a ρ S P) := w1_lockd
theorem w_lockg {b k a : Ex} : W Γ (.lock (.dget b k) a) ρ S X Q = W Γ (.dget b k) ρ S noX (kLkE Γ a ρ S Q) := w_lockd
theorem w1_lockx {b k : Ex} {a : Sm} : W1 Γ (.lock (.ix b k) a) ρ S P = W Γ (.ix b k) ρ S noX (kLkS Γ a ρ S P) := w1_lockd
theorem w_lockx {b k a : Ex} : W Γ (.lock (.ix b k) a) ρ S X Q = W Γ (.ix b k) ρ S noX (kLkE Γ a ρ S Q) := w_lockd
/-! ### dict displays, list(range) -/
def ddR (n : Nat) (ks : List Key) (ds : List D) (o : Option (Option Cell)) (S : Store) : Res D := match o with
  | some (some (.dK [])) => if ks.Nodup ∧ ks.length = ds.length ∧ ks.length ≤ 15 ∧ 0 < ks.length then .ok (.loc n) (S.set n (some (.dK (ks.zip ds)))) else .bad
  | _ => .bad
theorem dd_s {n : Nat} {ks : List Key} {ds : List D} : ddR n ks ds (some (some (.dK []))) S = grd (ks.Nodup ∧ ks.length = ds.length ∧ ks.length ≤ 15 ∧ 0 < ks.length) (.ok (.loc n) (S.set n (some (.dK (ks.zip ds))))) := grd_ite
def kDd (n : Nat) (ks : List Key) (X : XD) (Q : QD) : List D → Store → Prop := fun ds S => (ddR n ks ds S[n]? S).satx X Q
theorem k_dd {n : Nat} {ks : List Key} {ds : List D} : kDd n ks X Q ds S = (ddR n ks ds S[n]? S).satx X Q := rfl
def kSt2 (c : Bool) (x : D) (X : XD) (Q : QD) : QD := fun y S => (stpEv c x y S).satx X Q
noncomputable def kSt1 (Γ : Gm) (c : Bool) (b : Ex) (ρ : EnvD) (X : XD) (Q : QD) : QD := fun x S => W Γ b ρ S X (kSt2 c x X Q)
theorem k_st2 {c : Bool} {x y : D} : kSt2 c x X Q y S = (stpEv c x y S).satx X Q := rfl
theorem k_st1 {c : Bool} {b : Ex} {x : D} : kSt1 Γ c b ρ X Q x S = W Γ b ρ S X (kSt2 c x X Q) := rfl
theorem w_stp {c : Bool} {a b : Ex} : W Γ (.stp c a b) ρ S X Q = W Γ a ρ S X (kSt1 Γ c b ρ X Q) := by
  simp only [W, sem, x_bind] <;> rfl
def deR (n : Nat) (o : Option (Option Cell)) (k : Option (List (Key × D))) (S : Store) : Res D := match o, k with
  | some (some (.dK [])), some kvs => if (kvs.map (·.1)).Nodup ∧ kvs.length ≤ 15 ∧ 0 < kvs.length then .ok (.loc n) (S.set n (some (.dK kvs))) else .bad
  | _, _ => .bad
theorem de_s {n : Nat} {kvs : List (Key × D)} : deR n (some (some (.dK []))) (some kvs) S = grd ((kvs.map (·.1)).Nodup ∧ kvs.length ≤ 15 ∧ 0 < kvs.length) (.ok (.loc n) (S.set n (some (.dK kvs)))) := grd_ite
def kDe (n : Nat) (X : XD) (Q : QD) : List D → Store → Prop := fun ds S => (deR n S[n]? (unpairD ds) S).satx X Q
theorem k_de {n : Nat} {ds : List D} : kDe n X Q ds S = (deR n S[n]? (unpairD ds) S).satx X Q := rfl
theorem un_nil : unpairD [] = some [] := rfl
theorem un_s {x : Str} {v : D} {r : List D} : unpairD (.str x :: v :: r) = (unpairD r).map fun s => (.inr x, v) :: s := by
  rw [unpairD]
  simp only [keyD]
  cases unpairD r <;> rfl
theorem un_i {x : Int} {v : D} {r : List D} : unpairD (.int x :: v :: r) = (unpairD r).map fun s => (.inl x, v) :: s := by
  rw [unpairD]
  simp only [keyD]
  cases unpairD r <;> rfl
theorem w_ddispE {es : List Ex} : W Γ (.ddispE es) ρ S X Q = WL Γ es ρ (S ++ [some (.dK [])]) X (kDe S.length X Q) := by
  simp only [W, sem, x_bind]
  rfl
theorem w_ddisp {ks : List Key} {es : List Ex} : W Γ (.ddisp ks es) ρ S X Q = WL Γ es ρ (S ++ [some (.dK [])]) X (kDd S.length ks X Q) := by
  simp only [W, sem, x_bind] <;> rfl
def lrR (c : Bool) (x y : D) (S : Store) : Res D := match x, y with
  | .int i, .int j => if -4611686018427387904 ≤ i ∧ i < 4611686018427387904 ∧ -4611686018427387904 ≤ j ∧ j < 4611686018427387904 then mkL c (rngD i j) S else .bad
  | _, _ => .bad
theorem lr_ii {c : Bool} {i j : Int} : lrR c (.int i) (.int j) S = grd (-4611686018427387904 ≤ i ∧ i < 4611686018427387904 ∧ -4611686018427387904 ≤ j ∧ j < 4611686018427387904) (mkL c (rngD i j) S) := grd_ite
def kLr2 (c : Bool) (x : D) (X : XD) (Q : QD) : QD := fun y S => (lrR c x y S).satx X Q
noncomputable def kLr1 (Γ : Gm) (c : Bool) (b : Ex) (ρ : EnvD) (X : XD) (Q : QD) : QD := fun x S => W Γ b ρ S X (kLr2 c x X Q)
theorem k_lr2 {c : Bool} {x y : D} : kLr2 c x X Q y S = (lrR c x y S).satx X Q := rfl
theorem k_lr1 {c : Bool} {b : Ex} {x : D} : kLr1 Γ c b ρ X Q x S = W Γ b ρ S X (kLr2 c x X Q) := rfl
theorem w_lrng {c : Bool} {a b : Ex} : W Γ (.lrng c a b) ρ S X Q = W Γ a ρ S X (kLr1 Γ c b ρ X Q) := by
  simp only [W, sem, x_bind] <;> rfl
/-! ### raise, try -/
def iniQ (o : Option (List (Str × D))) (f : List (Str × D) → Prop) : Prop := match o with
  | some fs => f fs
  | none => False
def kRs (c : Str) (ups : List Str) (k : Ini) (ρ : EnvD) (P : Po) : List D → Store → Prop := fun ds S => iniQ (k.ev ds S) fun fs => P.X ⟨c, ups, fs⟩ ρ S
theorem k_rs {c : Str} {ups : List Str} {k : Ini} {ds : List D} : kRs c ups k ρ P ds S = iniQ (k.ev ds S) fun fs => P.X ⟨c, ups, fs⟩ ρ S := rfl
theorem ini_no {d : D} {f : List (Str × D) → Prop} : iniQ (Ini.ev .no [d] S) f = f [] := rfl
theorem ini_1 {a : Str} {d : D} {f : List (Str × D) → Prop} : iniQ (Ini.ev (.args [a]) [d] S) f = f [(a, d)] := rfl
theorem ini_2 {a b : Str} {d e : D} {f : List (Str × D) → Prop} : iniQ (Ini.ev (.args [a, b]) [d, e] S) f = f [(b, e), (a, d)] := rfl
theorem ini_l {a : Str} {xs : List D} {f : List (Str × D) → Prop} : iniQ (Ini.ev (.lst a) [.lst xs] S) f = f [(a, .lst xs)] := rfl
theorem w1_raiseX {c : Str} {ups : List Str} {k : Ini} {es : List Ex} : W1 Γ (.raiseX c ups k es) ρ S P = WL Γ es ρ S (kX P ρ) (kRs c ups k ρ P) := by
  unfold W1
  simp only [DL.run, s_ofE]
  show (semL Γ es ρ S).satx _ _ = (semL Γ es ρ S).satx _ _
  congr
  funext ds S1
  unfold kRs iniQ
  cases k.ev ds S1 <;> rfl
def ixX (b : Bool) (A B : Prop) : Prop := match b with
  | true => A
  | false => B
theorem ixx_t {A B : Prop} : ixX true A B = A := rfl
theorem ixx_f {A B : Prop} : ixX false A B = B := rfl
def kTn (c : Str) (i j : Nat) (P : Po) : Po := { P with X := fun e ρ1 S1 => ixX (upB c e.ups) (i ≠ j ∧ i < ρ1.length ∧ j < ρ1.length ∧ P.N ((ρ1.set j (some (.exn e.cls e.ups e.fs))).set i none) S1) (P.X e ρ1 S1) }
noncomputable def kTo (Γ : Gm) (c : Str) (ss : List Sm) (P : Po) : Po := { P with X := fun e ρ1 S1 => ixX (upB c e.ups) (Ws Γ ss ρ1 S1 P) (P.X e ρ1 S1) }
section
variable {c : Str} {i j : Nat} {ss : List Sm} {d : D}
theorem tn_N : (kTn c i j P).N ρ S = P.N ρ S := rfl
theorem tn_B : (kTn c i j P).B ρ S = P.B ρ S := rfl
theorem tn_C : (kTn c i j P).C ρ S = P.C ρ S := rfl
theorem tn_T : (kTn c i j P).T d S = P.T d S := rfl
theorem tn_X {n : Str} {ups : List Str} {fs : List (Str × D)} : (kTn c i j P).X ⟨n, ups, fs⟩ ρ S = ixX (upB c ups) (i ≠ j ∧ i < ρ.length ∧ j < ρ.length ∧ P.N ((ρ.set j (some (.exn n ups fs))).set i none) S) (P.X ⟨n, ups, fs⟩ ρ S) := rfl
theorem to_N : (kTo Γ c ss P).N ρ S = P.N ρ S := rfl
theorem to_B : (kTo Γ c ss P).B ρ S = P.B ρ S := rfl
theorem to_C : (kTo Γ c ss P).C ρ S = P.C ρ S := rfl
theorem to_T : (kTo Γ c ss P).T d S = P.T d S := rfl
theorem to_X {n : Str} {ups : List Str} {fs : List (Str × D)} : (kTo Γ c ss P).X ⟨n, ups, fs⟩ ρ S = ixX (upB c ups) (Ws Γ ss ρ S P) (P.X ⟨n, ups, fs⟩ ρ S) := rfl
end
theorem w1_tryNote {body : List Sm} {c : Str} {i j : Nat} : W1 Γ (.tryNote body c i j) ρ S P = Ws Γ body ρ S (kTn c i j P) := by
  unfold W1 Ws
  simp only [DL.run]
  cases runs Γ body ρ S with
  | exc e ρ1 S1 =>
    simp only [SR.satp, kTn, upB]
    by_cases h : c ∈ e.ups
    · rw [if_pos h, decide_eq_true h]
      simp only [ixX]
      by_cases h2 : i ≠ j ∧ i < ρ1.length ∧ j < ρ1.length
      · rw [if_pos h2]
        exact propext ⟨fun z => ⟨h2.1, h2.2.1, h2.2.2, z⟩, fun z => z.2.2.2⟩
      · rw [if_neg h2]
        exact propext ⟨fun z => z.elim, fun z => h2 ⟨z.1, z.2.1, z.2.2.1⟩⟩
    · rw [if_neg h, decide_eq_false h]
      rfl
  | _ => rfl
theorem w1_tryOnly {body ss : List Sm} {c : Str} : W1 Γ (.tryOnly body c ss) ρ S P = Ws Γ body ρ S (kTo Γ c ss P) := by
  unfold W1 Ws
  simp only [DL.run]
  cases runs Γ body ρ S with
  | exc e ρ1 S1 =>
    simp only [SR.satp, kTo, upB]
    by_cases h : c ∈ e.ups
    · rw [if_pos h, decide_eq_true h]
      rfl
    · rw [if_neg h, decide_eq_false h]
      rfl
  | _ => rfl
def ttF : Option D → (D → Prop) → Prop
  | some d, q => q d
  | none, _ => False
theorem ttF_s {d : D} {q : D → Prop} : ttF (some d) q = q d := rfl
def kTt (c1 z1 c2 : Str) (i j : Nat) (z f : Str) (P : Po) : Po := { P with X := fun e ρ1 S1 => ixX (upB c1 e.ups) (P.N (ρ1.set j (some (.tup [.str z1]))) S1) (ixX (upB c2 e.ups) (i ≠ j ∧ i < ρ1.length ∧ j < ρ1.length ∧ f ∈ fNames ∧ ttF (e.fs.lookup f) fun d => P.N ((ρ1.set j (some (.tup [.str z, d]))).set i none) S1) (P.X e ρ1 S1)) }
section
variable {c1 z1 c2 z f : Str} {i j : Nat} {d : D}
theorem tt_N : (kTt c1 z1 c2 i j z f P).N ρ S = P.N ρ S := rfl
theorem tt_B : (kTt c1 z1 c2 i j z f P).B ρ S = P.B ρ S := rfl
theorem tt_C : (kTt c1 z1 c2 i j z f P).C ρ S = P.C ρ S := rfl
theorem tt_T : (kTt c1 z1 c2 i j z f P).T d S = P.T d S := rfl
theorem tt_X {n : Str} {ups : List Str} {fs : List (Str × D)} : (kTt c1 z1 c2 i j z f P).X ⟨n, ups, fs⟩ ρ S = ixX (upB c1 ups) (P.N (ρ.set j (some (.tup [.str z1]))) S) (ixX (upB c2 ups) (i ≠ j ∧ i < ρ.length ∧ j < ρ.length ∧ f ∈ fNames ∧ ttF (fs.lookup f) fun d => P.N ((ρ.set j (some (.tup [.str z, d]))).set i none) S) (P.X ⟨n, ups, fs⟩ ρ S)) := rfl
end
theorem w1_tryTwo {body : List Sm} {c1 z1 c2 z f : Str} {i j : Nat} : W1 Γ (.tryTwo body c1 z1 c2 i j z f) ρ S P = Ws Γ body ρ S (kTt c1 z1 c2 i j z f P) := by
  unfold W1 Ws
  simp only [DL.run]
  cases runs Γ body ρ S with
  | exc e ρ1 S1 =>
    simp only [SR.satp, kTt, upB, twoR]
    by_cases h : c1 ∈ e.ups
    · rw [if_pos h, decide_eq_true h]
      rfl
    · rw [if_neg h, decide_eq_false h]
      simp only [ixX]
      by_cases h2 : c2 ∈ e.ups
      · rw [if_pos h2, decide_eq_true h2]
        simp only [ixX]
        by_cases h3 : i ≠ j ∧ i < ρ1.length ∧ j < ρ1.length ∧ f ∈ fNames
        · rw [if_pos h3]
          cases e.fs.lookup f with
          | none => exact propext ⟨fun z => z.elim, fun z => z.2.2.2.2⟩
          | some d => exact propext ⟨fun z => ⟨h3.1, h3.2.1, h3.2.2.1, h3.2.2.2, z⟩, fun z => z.2.2.2.2⟩
        · rw [if_neg h3]
          exact propext ⟨fun z => z.elim, fun z => h3 ⟨z.1, z.2.1, z.2.2.1, z.2.2.2.1⟩⟩
      · rw [if_neg h2, decide_eq_false h2]
  | _ => rfl
noncomputable def kTe (Γ : Gm) (c : Str) (ss es : List Sm) (P : Po) : Po := { P with N := fun ρ1 S1 => Ws Γ es ρ1 S1 P, X := fun e ρ1 S1 => ixX (upB c e.ups) (Ws Γ ss ρ1 S1 P) (P.X e ρ1 S1) }
section
variable {c : Str} {ss es : List Sm} {d : D}
theorem te_N : (kTe Γ c ss es P).N ρ S = Ws Γ es ρ S P := rfl
theorem te_B : (kTe Γ c ss es P).B ρ S = P.B ρ S := rfl
theorem te_C : (kTe Γ c ss es P).C ρ S = P.C ρ S := rfl
theorem te_T : (kTe Γ c ss es P).T d S = P.T d S := rfl
theorem te_X {n : Str} {ups : List Str} {fs : List (Str × D)} : (kTe Γ c ss es P).X ⟨n, ups, fs⟩ ρ S = ixX (upB c ups) (Ws Γ ss ρ S P) (P.X ⟨n, ups, fs⟩ ρ S) := rfl
end
theorem w1_tryElse {body ss es : List Sm} {c : Str} : W1 Γ (.tryElse body c ss es) ρ S P = Ws Γ body ρ S (kTe Γ c ss es P) := by
  unfold W1 Ws
  simp only [DL.run]
  cases runs Γ body ρ S with
  | exc e ρ1 S1 =>
    simp only [SR.satp, kTe, upB]
    by_cases h : c ∈ e.ups
    · rw [if_pos h, decide_eq_true h]
      rfl
    · rw [if_neg h, decide_eq_false h]
      rfl
  | _ => rfl
/-! ### sets of keys, ranges by steps -/
def skR {α : Type} (o : Option (List Key)) (f : List Key → Res α) : Res α := match o with
  | some ks => f ks
  | none => .bad
theorem skR_s {α : Type} {ks : List Key} (f : List Key → Res α) : skR (some ks) f = f ks := rfl
def sqR {α : Type} (o : Option (List D)) (f : List D → Res α) : Res α := match o with
  | some ks => f ks
  | none => .bad
theorem sqR_s {α : Type} {ks : List D} (f : List D → Res α) : sqR (some ks) f = f ks := rfl
def lsR (x : D) (S : Store) : Res D := match seqD S x with
  | some ys => match asKeys ys with
    | some ks => if ks.length < 4000 then .ok (.int (dedupK ks).length) S else .bad
    | none => .bad
  | none => .bad
def ssR (c : Bool) (x : D) (S : Store) : Res D := match seqD S x with
  | some ys => match asKeys ys with
    | some ks => if ks.length < 4000 ∧ alikeK ks = true then mkL c ((sortK (dedupK ks)).map dKey) S else .bad
    | none => .bad
  | none => .bad
theorem ls_e {x : D} : lsR x S = sqR (seqD S x) fun ys => skR (asKeys ys) fun ks => grd (ks.length < 4000) (.ok (.int (dedupK ks).length) S) := by
  unfold lsR sqR skR
  cases seqD S x with
  | none => rfl
  | some ys =>
    dsimp only
    cases asKeys ys with
    | none => rfl
    | some ks => exact grd_ite
theorem ss_e {x : D} : ssR c x S = sqR (seqD S x) fun ys => skR (asKeys ys) fun ks => grd (ks.length < 4000 ∧ alikeK ks = true) (mkL c ((sortK (dedupK ks)).map dKey) S) := by
  unfold ssR sqR skR
  cases seqD S x with
  | none => rfl
  | some ys =>
    dsimp only
    cases asKeys ys with
    | none => rfl
    | some ks => exact grd_ite
theorem sd_t {xs : List D} : seqD S (.tup xs) = some xs := rfl
theorem sd_l {xs : List D} : seqD S (.lst xs) = some xs := rfl
theorem sd_x {c : Nat} {xs : List D} (h : S[c]? = some (some (.lst xs))) : seqD S (.loc c) = some xs := by simp only [seqD, D.list?, h]
theorem asKeys_strs : ∀ zs : List Str, asKeys (zs.map D.str) = some (zs.map Sum.inr)
  | [] => rfl
  | z :: r => by rw [List.map_cons, asKeys, asKeys_strs r]; rfl
theorem asKeys_ints : ∀ zs : List Int, asKeys (zs.map D.int) = some (zs.map Sum.inl)
  | [] => rfl
  | z :: r => by rw [List.map_cons, asKeys, asKeys_ints r]; rfl
def kLs (X : XD) (Q : QD) : QD := fun x S => (lsR x S).satx X Q
def kSs (c : Bool) (X : XD) (Q : QD) : QD := fun x S => (ssR c x S).satx X Q
theorem k_ls {x : D} : kLs X Q x S = (lsR x S).satx X Q := rfl
theorem k_ss {x : D} : kSs c X Q x S = (ssR c x S).satx X Q := rfl
theorem w_lenSet {a : Ex} : W Γ (.lenSet a) ρ S X Q = W Γ a ρ S X (kLs X Q) := by
  simp only [W, sem, x_bind] <;> rfl
theorem w_sortSet {a : Ex} : W Γ (.sortSet c a) ρ S X Q = W Γ a ρ S X (kSs c X Q) := by
  simp only [W, sem, x_bind] <;> rfl
def r3R (x y z : D) (S : Store) : Res (List D × Option Nat) := match x, y, z with
  | .int i, .int j, .int k => if k ≠ 0 ∧ k.natAbs < 1073741824 ∧ Builtin.Range.small i j k = true ∧ Builtin.Range.rangeSize i j k = ((Builtin.Range.rangeSize i j k).toNat : Int) then .ok (stepD i k (Builtin.Range.rangeSize i j k).toNat, none) S else .bad
  | _, _, _ => .bad
def kR33 (x y : D) (X : XD) (Q : List D × Option Nat → Store → Prop) : QD := fun z S => (r3R x y z S).satx X Q
noncomputable def kR32 (Γ : Gm) (x : D) (c : Ex) (ρ : EnvD) (X : XD) (Q : List D × Option Nat → Store → Prop) : QD := fun y S => W Γ c ρ S X (kR33 x y X Q)
noncomputable def kR31 (Γ : Gm) (b c : Ex) (ρ : EnvD) (X : XD) (Q : List D × Option Nat → Store → Prop) : QD := fun x S => W Γ b ρ S X (kR32 Γ x c ρ X Q)
theorem k_r33 {x y z : D} {Q : List D × Option Nat → Store → Prop} : kR33 x y X Q z S = (r3R x y z S).satx X Q := rfl
theorem k_r32 {x y : D} {c : Ex} {Q : List D × Option Nat → Store → Prop} : kR32 Γ x c ρ X Q y S = W Γ c ρ S X (kR33 x y X Q) := rfl
theorem k_r31 {x : D} {b c : Ex} {Q : List D × Option Nat → Store → Prop} : kR31 Γ b c ρ X Q x S = W Γ b ρ S X (kR32 Γ x c ρ X Q) := rfl
theorem wr_rng3 {a b c : Ex} {Q : List D × Option Nat → Store → Prop} : WR Γ (.rng3 a b c) ρ S X Q = W Γ a ρ S X (kR31 Γ b c ρ X Q) := by
  simp only [WR, semSrc, x_bind] <;> rfl
/-- what an expression is, by what it does -/
theorem w_eq {e : Ex} {d : D} (h : W Γ e ρ S noX fun r S' => r = d ∧ S' = S) : sem Γ e ρ S = .ok d S := by
  unfold W at h
  cases q : sem Γ e ρ S with
  | ok r S' => rw [q] at h; obtain ⟨rfl, rfl⟩ := h; rfl
  | exc x S' => rw [q] at h; exact h.elim
  | bad => rw [q] at h; exact h.elim
theorem wi_eq {is : List Ex} {d : Bool} (h : WI Γ is ρ S noX fun r S' => r = d ∧ S' = S) : semIfs Γ is ρ S = .ok d S := by
  unfold WI at h
  cases q : semIfs Γ is ρ S with
  | ok r S' => rw [q] at h; obtain ⟨rfl, rfl⟩ := h; rfl
  | exc x S' => rw [q] at h; exact h.elim
  | bad => rw [q] at h; exact h.elim
end
end DL

/-! DLp: operations, one rule for each shape of operands; loops. -/
namespace DL
open PySem PySem.Spec PyProof.Rows L2
section
variable {S : Store} {c : Bool} {xs ys : List D} {i j k : Int} {n m : Nat} {ns ms : List Int} {x y z : D} {a b : Bool} {s t : Str}
def clq (o : Option (Option Cell)) : Option (List D) := match o with
  | some (some (.lst xs)) => some xs
  | _ => none
theorem clq_s : clq (some (some (.lst xs))) = some xs := rfl
def pxR {α : Type} (o : Option Nat) (f : Nat → Res α) : Res α := match o with
  | some xs => f xs
  | none => .bad
theorem pxR_s {α : Type} (f : Nat → Res α) : pxR (some m) f = f m := rfl
theorem toPS_of {d : D} (h : D.shp 60 d = true) : ∃ p, D.toPS S d = some p ∧ D.toP d = some p ∧ SeqAt.shaped p = true := by
  obtain ⟨p, e, cl, l⟩ := shp_toP 60 d h
  refine ⟨p, ?_, e, by unfold SeqAt.shaped; rw [cl, Bool.true_and, decide_eq_true_eq]; omega⟩
  cases d with
  | loc n => simp [D.toP] at e
  | _ => exact e

theorem e_add_ii : BOp.ev .add c (.int i) (.int j) S = .ok (.int (i + j)) S := rfl
theorem e_sub_ii : BOp.ev .sub c (.int i) (.int j) S = .ok (.int (i - j)) S := rfl
theorem e_mul_ii : BOp.ev .mul c (.int i) (.int j) S = grd ((-18446744073709551616 < i ∧ i < 18446744073709551616) ∨ (-18446744073709551616 < j ∧ j < 18446744073709551616)) (.ok (.int (i * j)) S) := by
  show (if _ then _ else _) = _
  exact grd_ite
theorem e_fdiv_ii : BOp.ev .fdiv c (.int i) (.int j) S = grd (0 < j ∧ j < 18446744073709551616) (.ok (.int (i / j)) S) := by
  show (if _ then _ else _) = _
  exact grd_ite
theorem e_mod_ii : BOp.ev .mod c (.int i) (.int j) S = grd (0 < j) (.ok (.int (i % j)) S) := by
  show (if _ then _ else _) = _
  exact grd_ite
theorem e_pow_ii : BOp.ev .pow c (.int i) (.int j) S = grd (0 ≤ j ∧ j ≤ 1000000 ∧ i.natAbs < 18446744073709551616) (.ok (.int (i ^ j.toNat)) S) := by
  show (if _ then _ else _) = _
  exact grd_ite
theorem e_shl_ii : BOp.ev .shl c (.int i) (.int j) S = grd (0 ≤ j ∧ j ≤ 1000000 ∧ i.natAbs < 18446744073709551616) (.ok (.int (i * 2 ^ j.toNat)) S) := by
  show (if _ then _ else _) = _
  exact grd_ite
theorem e_add_ss : BOp.ev .add c (.str s) (.str t) S = grd (s.length + t.length ≤ 16777216) (.ok (.str (s ++ t)) S) := by
  show (if lineOk _ = true then _ else _) = _
  simp only [lineOk, decide_eq_true_eq]; exact grd_ite
theorem e_add_tt : BOp.ev .add c (.tup xs) (.tup ys) S = grd (xs.length + ys.length ≤ 16777216) (.ok (.tup (xs ++ ys)) S) := by
  show (if lineOk _ = true then _ else _) = _
  simp only [lineOk, decide_eq_true_eq]; exact grd_ite
theorem e_add_ll : BOp.ev .add c (.lst xs) (.lst ys) S = mkL c (xs ++ ys) S := rfl
theorem e_add_cl : BOp.ev .add c (.loc n) (.lst ys) S = clR S[n]? fun xs => mkL c (xs ++ ys) S := by
  simp only [BOp.ev, D.listH?, D.list?, clR]
  all_goals
    cases S[n]? with
    | none => rfl
    | some o => cases o with
      | none => rfl
      | some u => cases u <;> rfl
theorem e_add_lc : BOp.ev .add c (.lst xs) (.loc n) S = clR S[n]? fun ys => mkL c (xs ++ ys) S := by
  simp only [BOp.ev, D.listH?, D.list?, clR]
  all_goals
    cases S[n]? with
    | none => rfl
    | some o => cases o with
      | none => rfl
      | some u => cases u <;> rfl
theorem e_add_cc : BOp.ev .add c (.loc n) (.loc m) S = clR S[n]? fun xs => clR S[m]? fun ys => mkL c (xs ++ ys) S := by
  simp only [BOp.ev, D.listH?, D.list?, clR]
  cases S[n]? with
  | none => rfl
  | some o => cases o with
    | none => rfl
    | some u => cases u with
      | lst xs => cases S[m]? with
        | none => rfl
        | some o => cases o with
          | none => rfl
          | some u => cases u <;> rfl
      | _ => rfl
theorem e_mul_li : BOp.ev .mul c (.lst xs) (.int k) S = grd (-9223372036854775808 ≤ k ∧ k < 9223372036854775808) (mkL c (List.replicate k.toNat xs).flatten S) := by
  show (if _ then _ else _) = _
  exact grd_ite
theorem e_lt : COp.ev .lt (.int i) (.int j) S = .ok (.bl (decide (i < j))) S := rfl
theorem e_le : COp.ev .le (.int i) (.int j) S = .ok (.bl (decide (i ≤ j))) S := rfl
theorem e_gt : COp.ev .gt (.int i) (.int j) S = .ok (.bl (decide (j < i))) S := rfl
theorem e_ge : COp.ev .ge (.int i) (.int j) S = .ok (.bl (decide (j ≤ i))) S := rfl
theorem e_eq_ii : COp.ev .eq (.int i) (.int j) S = .ok (.bl (decide (i = j))) S := by
  simp [COp.ev, D.toPS, D.toP, SeqAt.shaped, PyData.canLay0, PyData.depth, PyData.eqv]; rfl
theorem e_ne_ii : COp.ev .ne (.int i) (.int j) S = .ok (.bl (!decide (i = j))) S := by
  simp [COp.ev, D.toPS, D.toP, SeqAt.shaped, PyData.canLay0, PyData.depth, PyData.eqv]; rfl
theorem e_eq_ss : COp.ev .eq (.str s) (.str t) S = .ok (.bl (decide (s = t))) S := rfl
theorem e_eq (hx : D.shp 60 x = true) (hy : D.shp 60 y = true) : COp.ev .eq x y S = .ok (.bl (eqD x y)) S := by
  obtain ⟨p, e, e', s1⟩ := toPS_of (S := S) hx
  obtain ⟨q, f, f', s2⟩ := toPS_of (S := S) hy
  have main : (match x.toPS S, y.toPS S with | some p, some q => if SeqAt.shaped p && SeqAt.shaped q then Res.ok (D.bl (PyData.eqv p q)) S else .bad | _, _ => .bad) = .ok (.bl (eqD x y)) S := by
    simp only [e, f]
    rw [s1, s2, eqv_D x y p q e' f']
    rfl
  cases x with
  | str a =>
    cases y with
    | str b => rw [eqD_str]; rfl
    | _ => exact main
  | _ => exact main
theorem e_ne_ss : COp.ev .ne (.str s) (.str t) S = .ok (.bl (!decide (s = t))) S := rfl
theorem e_ne (hx : D.shp 60 x = true) (hy : D.shp 60 y = true) : COp.ev .ne x y S = .ok (.bl (!eqD x y)) S := by
  obtain ⟨p, e, e', s1⟩ := toPS_of (S := S) hx
  obtain ⟨q, f, f', s2⟩ := toPS_of (S := S) hy
  have main : (match x.toPS S, y.toPS S with | some p, some q => if SeqAt.shaped p && SeqAt.shaped q then Res.ok (D.bl (!PyData.eqv p q)) S else .bad | _, _ => .bad) = .ok (.bl (!eqD x y)) S := by
    simp only [e, f]
    rw [s1, s2, eqv_D x y p q e' f']
    rfl
  cases x with
  | str a =>
    cases y with
    | str b => rw [eqD_str]; rfl
    | _ => exact main
  | _ => exact main
theorem e_isN_n : COp.ev .isN .non x S = .ok (.bl true) S := rfl
theorem e_isN_i : COp.ev .isN (.int i) x S = .ok (.bl false) S := rfl
theorem e_isN_b : COp.ev .isN (.bl a) x S = .ok (.bl false) S := rfl
theorem e_isN_s : COp.ev .isN (.str s) x S = .ok (.bl false) S := rfl
theorem e_isN_t : COp.ev .isN (.tup xs) x S = .ok (.bl false) S := rfl
theorem e_isN_l : COp.ev .isN (.lst xs) x S = .ok (.bl false) S := rfl
theorem e_isN_c : COp.ev .isN (.loc n) x S = .ok (.bl false) S := rfl
theorem e_notN_n : COp.ev .notN .non x S = .ok (.bl false) S := rfl
theorem e_notN_i : COp.ev .notN (.int i) x S = .ok (.bl true) S := rfl
theorem e_notN_b : COp.ev .notN (.bl a) x S = .ok (.bl true) S := rfl
theorem e_notN_s : COp.ev .notN (.str s) x S = .ok (.bl true) S := rfl
theorem e_notN_t : COp.ev .notN (.tup xs) x S = .ok (.bl true) S := rfl
theorem e_notN_l : COp.ev .notN (.lst xs) x S = .ok (.bl true) S := rfl
theorem e_notN_c : COp.ev .notN (.loc n) x S = .ok (.bl true) S := rfl
theorem e_ix_t : ixEv (.tup xs) (.int k) S = gvR (atI xs k) S := rfl
theorem e_ix_ct : ixEv (.ctp xs) (.int k) S = gvR (atI xs k) S := rfl
theorem e_ix_l : ixEv (.lst xs) (.int k) S = gvR (atI xs k) S := rfl
theorem e_ix_s : ixEv (.scr ns) (.int k) S = gvR (atI (ns.map D.int) k) S := rfl
/-- a sign of a text -/
def gsR (o : Option Nat) (S : Store) : Res D := match o with
  | some c => .ok (.str ⟨#[c]⟩) S
  | none => .bad
theorem gsR_s : gsR (some n) S = .ok (.str ⟨#[n]⟩) S := rfl
theorem e_ix_x : ixEv (.str s) (.int k) S = grd (s.length ≤ 16777216) (gsR (atI s.cps.toList k) S) := by
  show (if lineOk _ = true then _ else _) = _
  simp only [lineOk, decide_eq_true_eq]; exact grd_ite
theorem e_ix_c : ixEv (.loc n) (.int k) S = clR S[n]? fun xs => gvR (atI xs k) S := by
  simp only [ixEv, D.list?, clR, gvR, wkR, walkOf]
  all_goals
    cases S[n]? with
    | none => rfl
    | some o => cases o with
      | none => rfl
      | some u => cases u <;> rfl
theorem e_sl_x {lo hi : Option Int} : slcEv c (.str s) lo hi S = grd (s.length ≤ 16777216) (.ok (.str (cutS s lo hi)) S) := by
  show (if lineOk _ = true then _ else _) = _
  simp only [lineOk, decide_eq_true_eq]; exact grd_ite
theorem e_mul_si : BOp.ev .mul c (.str s) (.int k) S = grd (0 ≤ k ∧ k < 16777216 ∧ s.length * k.toNat ≤ 16777216) (.ok (.str (strRep s k.toNat)) S) := by
  show (if _ then _ else _) = _
  exact grd_ite
theorem e_add_ccp : BOp.ev .add c (.ctp xs) (.ctp ys) S = grd (xs.length + ys.length ≤ 16777216) (.ok (.ctp (xs ++ ys)) S) := by
  show (if lineOk _ = true then _ else _) = _
  simp only [lineOk, decide_eq_true_eq]; exact grd_ite
theorem e_sl_ctp {lo hi : Option Int} : slcEv c (.ctp xs) lo hi S = .ok (.ctp (cutD xs lo hi)) S := rfl
/-- what repr shows -/
def reprD (d : D) : Str := match d.toP with
  | some p => p.shown
  | none => ⟨#[]⟩
def ShowOk (d : D) : Prop := ∃ p, D.toP d = some p ∧ shownOk p = true
theorem e_repr (h : ShowOk x) : BI.ev .repr c [x] S = .ok (.str (reprD x)) S := by
  obtain ⟨p, e, ok⟩ := h
  have e2 : x.toPS S = some p := by
    cases x with
    | loc n => simp [D.toP] at e
    | _ => exact e
  simp only [BI.ev, e2, ok, if_true, reprD, e]
theorem e_repr_i : BI.ev .repr c [.int i] S = grd (i.natAbs.log2 < 1920) (.ok (.str (reprD (.int i))) S) := by
  show (if shownOk (.int i) = true then _ else _) = _
  simp only [shownOk, PyData.showable, decide_eq_true_eq]; exact grd_ite
def poR (o : Option D) (S S' : Store) : Res D := match o with
  | some d => .ok d S'
  | none => .bad
theorem poR_s {d : D} {S' : Store} : poR (some d) S S' = .ok d S' := rfl
theorem e_pop_c : MI.ev .pop (.loc n) [] S = clR S[n]? fun xs => poR xs[xs.length - 1]? S (S.set n (some (.lst xs.dropLast))) := by
  simp only [MI.ev, clR, poR, setCell]
  all_goals
    cases S[n]? with
    | none => rfl
    | some o => cases o with
      | none => rfl
      | some u => cases u with
        | lst xs => simp only <;> (cases xs[xs.length - 1]? <;> rfl)
        | _ => rfl
theorem e_split : MI.ev .split (.str s) [.str t] S = grd ((!(t.length == 0) && decide (s.length + 2 ≤ 16777216)) = true) (mkL false ((Txt.split s t).map D.str) S) := by
  show (if _ then _ else _) = _
  exact grd_ite
theorem e_rc_pop_c : MI.recv .pop (.loc n) S = (D.list? S (.loc n)).isSome := rfl
theorem e_rc_split : MI.recv .split (.str s) S = true := rfl
theorem e_rev_t : revEv c (.tup xs) S = .ok (.tup xs.reverse) S := rfl
theorem e_rev_l : revEv c (.lst xs) S = mkL c xs.reverse S := rfl
theorem e_rev_s : revEv c (.scr ns) S = mkL c (ns.map D.int).reverse S := rfl
theorem e_rev_c : revEv c (.loc n) S = clR S[n]? fun xs => mkL c xs.reverse S := by
  simp only [revEv, D.list?, clR, gvR, wkR, walkOf]
  all_goals
    cases S[n]? with
    | none => rfl
    | some o => cases o with
      | none => rfl
      | some u => cases u <;> rfl
/-- a cell read for good -/
def frR (o : Option (Option Cell)) (n : Nat) (S : Store) : Res D := match o with
  | some (some (.lst xs)) => .ok (.lst xs) (S.set n none)
  | some (some (.dK ks)) => .ok (.dK ks) (S.set n none)
  | _ => .bad
theorem frR_l : frR (some (some (.lst xs))) n S = .ok (.lst xs) (S.set n none) := rfl
theorem frR_d {ks : List (Key × D)} : frR (some (some (.dK ks))) n S = .ok (.dK ks) (S.set n none) := rfl
theorem e_frz_c : frzEv (some (some (.loc n))) S = frR S[n]? n S := by
  simp only [frzEv, frR]
  all_goals
    cases S[n]? with
    | none => rfl
    | some o => cases o with
      | none => rfl
      | some u => cases u <;> rfl
theorem e_frz_d {ks : List (Key × D)} : frzEv (some (some (.dK ks))) S = .ok (.dK ks) S := rfl
theorem e_dictD_c : BI.ev .dictD c [.loc n] S = dcR S[n]? fun ks => .ok (.loc S.length) (S ++ [some (.dK ks)]) := by
  simp only [BI.ev, dictC, dcR]
  all_goals
    cases S[n]? with
    | none => rfl
    | some o => cases o with
      | none => rfl
      | some u => cases u <;> rfl
theorem e_dictD_d {ks : List (Key × D)} : BI.ev .dictD c [.dK ks] S = .ok (.loc S.length) (S ++ [some (.dK ks)]) := rfl
theorem e_listD_c : BI.ev .listD c [.loc n] S = dcR S[n]? fun ks => mkL c (ks.map fun kv => dKey kv.1) S := by
  simp only [BI.ev, dictC, dcR]
  all_goals
    cases S[n]? with
    | none => rfl
    | some o => cases o with
      | none => rfl
      | some u => cases u <;> rfl
theorem e_listD_d {ks : List (Key × D)} : BI.ev .listD c [.dK ks] S = mkL c (ks.map fun kv => dKey kv.1) S := rfl
theorem e_sortK_d {ks : List (Key × D)} : BI.ev .sortK c [.dK ks] S = grd ((ks.all fun kv => !isInl kv.1) = true ∧ ks.length < 64) (mkL c ((DL.sortK (ks.map (·.1))).map dKey) S) := by
  simp only [BI.ev, dictC, grd_ite, Bool.and_eq_true, decide_eq_true_eq]
theorem e_sortK_c : BI.ev .sortK c [.loc n] S = dcR S[n]? fun ks => grd ((ks.all fun kv => !isInl kv.1) = true ∧ ks.length < 64) (mkL c ((DL.sortK (ks.map (·.1))).map dKey) S) := by
  simp only [BI.ev, dictC, dcR, grd_ite, Bool.and_eq_true, decide_eq_true_eq]
  all_goals
    cases S[n]? with
    | none => rfl
    | some o => cases o with
      | none => rfl
      | some u => cases u <;> rfl
def dpR {α : Type} (o : Option (List (Key × D))) (f : List (Key × D) → Res α) : Res α := match o with
  | some ks => f ks
  | none => .bad
theorem dpR_s {α : Type} {ks : List (Key × D)} (f : List (Key × D) → Res α) : dpR (some ks) f = f ks := rfl
theorem e_dictP_l : BI.ev .dictP c [.lst xs] S = dpR (pairsK xs) fun ks => .ok (.loc S.length) (S ++ [some (.dK (mergeD [] ks))]) := by
  simp only [BI.ev, D.list?, dpR] <;> (cases pairsK xs <;> rfl)
theorem e_lt_ss : COp.ev .lt (.str s) (.str t) S = .ok (.bl (decide (s.cps.toList < t.cps.toList))) S := rfl
theorem e_en_x : enR (.str s) S = .ok (enD (s.cps.toList.map fun k => D.str ⟨#[k]⟩), none) S := rfl
theorem e_ky_d {ks : List (Key × D)} : kyR (.dK ks) S = .ok (ks.map fun p => dKey p.1, none) S := rfl
theorem e_dlen_d {ks : List (Key × D)} : BI.ev .dlen c [.dK ks] S = .ok (.int ks.length) S := rfl
theorem e_dc_d {ks : List (Key × D)} : dictC S (.dK ks) = some ks := rfl
theorem e_frz_l : frzEv (some (some (.lst xs))) S = .ok (.lst xs) S := rfl
theorem e_frz_t : frzEv (some (some (.tup xs))) S = .ok (.tup xs) S := rfl
theorem e_frz_i : frzEv (some (some (.int i))) S = .ok (.int i) S := rfl
theorem e_frz_x : frzEv (some (some (.str s))) S = .ok (.str s) S := rfl
theorem e_frz_n : frzEv (some (some (.non))) S = .ok (.non) S := rfl
theorem e_frz_b : frzEv (some (some (.bl a))) S = .ok (.bl a) S := rfl
theorem e_frz_s : frzEv (some (some (.scr ns))) S = .ok (.scr ns) S := rfl
theorem e_en_t : enR (.tup xs) S = .ok (enD xs, none) S := rfl
theorem e_en_ct : enR (.ctp xs) S = .ok (enD xs, none) S := rfl
theorem e_en_l : enR (.lst xs) S = .ok (enD xs, none) S := rfl
theorem e_en_c : enR (.loc n) S = clR S[n]? fun xs => .ok (enD xs, some n) S := by
  simp only [enR, enumOf, isTupD, isLstD, walkOf, clR, Bool.false_or, if_true]
  all_goals
    cases S[n]? with
    | none => rfl
    | some o => cases o with
      | none => rfl
      | some u => cases u <;> rfl
theorem e_zi_tt : ziR (.tup xs) (.tup ys) S = .ok (ziD xs ys, none) S := rfl
theorem e_zi_ll : ziR (.lst xs) (.lst ys) S = .ok (ziD xs ys, none) S := rfl
theorem toPs_any {x : D} {p : PyData} (hx : D.toP x = some p) : ∀ {ys : List D} {ps : List PyData}, D.toPs ys = some ps → (ps.any fun z => PyData.eqv z p) = ys.any fun z => eqD z x
  | [], ps, h => by cases toPs_nil h; rfl
  | y :: ys, ps, h => by
    obtain ⟨q, qs, e1, e2, rfl⟩ := toPs_cons h
    rw [List.any_cons, List.any_cons, eqv_D y x q p e1 hx, toPs_any hx e2]
theorem toPs_find {x : D} {p : PyData} (hx : D.toP x = some p) : ∀ {ys : List D} {ps : List PyData}, D.toPs ys = some ps → (ps.findIdx? fun z => PyData.eqv z p) = ys.findIdx? fun z => eqD z x
  | [], ps, h => by cases toPs_nil h; rfl
  | y :: ys, ps, h => by
    obtain ⟨q, qs, e1, e2, rfl⟩ := toPs_cons h
    rw [List.findIdx?_cons, List.findIdx?_cons, eqv_D y x q p e1 hx, toPs_find hx e2]
theorem shps_data {ys : List D} (h : D.shps 59 ys = true) : ∃ ps, D.toPs ys = some ps ∧ SeqAt.shaped (.list ps) = true := by
  obtain ⟨ps, e, cl, l⟩ := shps_toPs 59 ys h
  refine ⟨ps, e, ?_⟩
  unfold SeqAt.shaped
  rw [Bool.and_eq_true]
  exact ⟨by simpa [PyData.canLay0] using cl, decide_eq_true (by simp [PyData.depth]; omega)⟩
theorem mem_lst (hx : D.shp 60 x = true) (hy : D.shps 59 ys = true) : memEv x (.lst ys) S = some (ys.any fun z => eqD z x) := by
  obtain ⟨p, e, e', s1⟩ := toPS_of (S := S) hx
  obtain ⟨ps, f, s2⟩ := shps_data hy
  have g : seqP S (.lst ys) = some ps := by unfold seqP; simp only [D.toPS]; unfold D.toP; rw [f]
  unfold memEv
  simp only [g, e]
  rw [s1, s2, toPs_any e' f]
  rfl
theorem mem_tup (hx : D.shp 60 x = true) (hy : D.shps 59 ys = true) : memEv x (.tup ys) S = some (ys.any fun z => eqD z x) := by
  obtain ⟨p, e, e', s1⟩ := toPS_of (S := S) hx
  obtain ⟨ps, f, s2⟩ := shps_data hy
  have g : seqP S (.tup ys) = some ps := by unfold seqP; exact f
  unfold memEv
  simp only [g, e]
  rw [s1, s2, toPs_any e' f]
  rfl
theorem e_inn_l (hx : D.shp 60 x = true) (hy : D.shps 59 ys = true) : COp.ev .inn x (.lst ys) S = .ok (.bl (ys.any fun z => eqD z x)) S := by
  simp only [COp.ev, mem_lst hx hy]
theorem e_nin_l (hx : D.shp 60 x = true) (hy : D.shps 59 ys = true) : COp.ev .nin x (.lst ys) S = .ok (.bl (!ys.any fun z => eqD z x)) S := by
  simp only [COp.ev, mem_lst hx hy]
theorem mem_ctp (hx : D.shp 60 x = true) (hy : D.shps 59 ys = true) : memEv x (.ctp ys) S = some (ys.any fun z => eqD z x) := by
  obtain ⟨p, e, e', s1⟩ := toPS_of (S := S) hx
  obtain ⟨ps, f, s2⟩ := shps_data hy
  have g : seqP S (.ctp ys) = some ps := by unfold seqP; exact f
  unfold memEv
  simp only [g, e]
  rw [s1, s2, toPs_any e' f]
  rfl
theorem e_inn_c (hx : D.shp 60 x = true) (hy : D.shps 59 ys = true) : COp.ev .inn x (.ctp ys) S = .ok (.bl (ys.any fun z => eqD z x)) S := by
  simp only [COp.ev, mem_ctp hx hy]
theorem e_nin_c (hx : D.shp 60 x = true) (hy : D.shps 59 ys = true) : COp.ev .nin x (.ctp ys) S = .ok (.bl (!ys.any fun z => eqD z x)) S := by
  simp only [COp.ev, mem_ctp hx hy]
theorem toPs_cnt {x : D} {p : PyData} (hx : D.toP x = some p) : ∀ {ys : List D} {ps : List PyData}, D.toPs ys = some ps → (ps.countP fun z => PyData.eqv z p) = ys.countP fun z => eqD z x
  | [], ps, h => by cases toPs_nil h; rfl
  | y :: ys, ps, h => by
    obtain ⟨q, qs, e1, e2, rfl⟩ := toPs_cons h
    rw [List.countP_cons, List.countP_cons, eqv_D y x q p e1 hx, toPs_cnt hx e2]
theorem e_cnt_c (hx : D.shp 60 x = true) (hy : D.shps 59 ys = true) : MI.ev .tcount (.ctp ys) [x] S = .ok (.int (ys.countP fun z => eqD z x : Nat)) S := by
  obtain ⟨p, e, e', s1⟩ := toPS_of (S := S) hx
  obtain ⟨ps, f, s2⟩ := shps_data hy
  simp only [MI.ev, e, f]
  rw [s1, s2, toPs_cnt e' f]
  rfl
theorem e_cnt_l (hx : D.shp 60 x = true) (hy : D.shps 59 ys = true) : MI.ev .count (.lst ys) [x] S = .ok (.int (ys.countP fun z => eqD z x : Nat)) S := by
  obtain ⟨p, e, e', s1⟩ := toPS_of (S := S) hx
  obtain ⟨ps, f, s2⟩ := shps_data hy
  have g : D.toPS S (.lst ys) = some (.list ps) := by simp only [D.toPS]; unfold D.toP; rw [f]
  simp only [MI.ev, e, g]
  rw [s1, s2, toPs_cnt e' f]
  rfl
theorem e_inn_t (hx : D.shp 60 x = true) (hy : D.shps 59 ys = true) : COp.ev .inn x (.tup ys) S = .ok (.bl (ys.any fun z => eqD z x)) S := by
  simp only [COp.ev, mem_tup hx hy]
theorem e_nin_t (hx : D.shp 60 x = true) (hy : D.shps 59 ys = true) : COp.ev .nin x (.tup ys) S = .ok (.bl (!ys.any fun z => eqD z x)) S := by
  simp only [COp.ev, mem_tup hx hy]
theorem seqP_loc (h : S[n]? = some (some (.lst ys))) : seqP S (.loc n) = seqP S (.lst ys) := by
  unfold seqP
  simp only [D.toPS, h]
  unfold D.toP
  rfl
theorem nin_loc (h : S[n]? = some (some (.lst ys))) : COp.ev .nin x (.loc n) S = COp.ev .nin x (.lst ys) S := by
  simp only [COp.ev, memEv, seqP_loc h]
theorem e_idx_l (hx : D.shp 60 x = true) (hy : D.shps 59 ys = true) : MI.ev .index (.lst ys) [x] S = pxR (ys.findIdx? fun z => eqD z x) fun j => .ok (.int (j : Nat)) S := by
  obtain ⟨p, e, e', s1⟩ := toPS_of (S := S) hx
  obtain ⟨ps, f, s2⟩ := shps_data hy
  have g : D.toPS S (.lst ys) = some (.list ps) := by simp only [D.toPS]; unfold D.toP; rw [f]
  simp only [MI.ev, g, e]
  rw [s1, s2, toPs_find e' f]
  unfold pxR
  cases ys.findIdx? fun z => eqD z x <;> rfl
/-- texts of a list -/
def nsR {α : Type} (o : Option (List Str)) (f : List Str → Res α) : Res α := match o with
  | some xs => f xs
  | none => .bad
theorem nsR_s {α : Type} {zs : List Str} (f : List Str → Res α) : nsR (some zs) f = f zs := rfl
theorem asStrs_map : ∀ zs : List Str, asStrs (zs.map D.str) = some zs
  | [] => rfl
  | i :: r => by rw [List.map_cons, asStrs, asStrs_map r]
theorem e_join_l : MI.ev .join (.str s) [.lst xs] S = nsR (asStrs xs) fun zs => grd ((zs.map (·.length)).sum + zs.length * s.length ≤ 16777216) (.ok (.str (Txt.join s zs)) S) := by
  simp only [MI.ev, seqD, D.list?, nsR, grd_ite] <;> (cases asStrs _ <;> rfl)
theorem any_strs {x : Str} : ∀ zs : List Str, ((zs.map D.str).any fun z => eqD z (.str x)) = decide (x ∈ zs)
  | [] => rfl
  | z :: r => by
    rw [List.map_cons, List.any_cons, any_strs r, eqD]
    by_cases h : x = z
    · subst h; simp
    · have : ¬ z = x := fun e => h e.symm
      simp [h, this]
theorem shps_strs (m : Nat) : ∀ zs : List Str, D.shps m (zs.map D.str) = zs.all PyData.strOk
  | [] => shps_nil m
  | z :: r => by rw [List.map_cons, shps_cons, shps_strs m r, shp_str]; rfl
theorem e_sl_t {lo hi : Option Int} : slcEv c (.tup xs) lo hi S = .ok (.tup (cutD xs lo hi)) S := rfl
theorem e_sl_l {lo hi : Option Int} : slcEv c (.lst xs) lo hi S = mkL c (cutD xs lo hi) S := rfl
theorem e_sl_s {lo hi : Option Int} : slcEv c (.scr ns) lo hi S = mkL c (cutD (ns.map D.int) lo hi) S := rfl
theorem e_sl_c {lo hi : Option Int} : slcEv c (.loc n) lo hi S = clR S[n]? fun xs => mkL c (cutD xs lo hi) S := by
  simp only [slcEv, D.list?, clR, gvR, wkR, walkOf]
  all_goals
    cases S[n]? with
    | none => rfl
    | some o => cases o with
      | none => rfl
      | some u => cases u <;> rfl
theorem e_len_t : BI.ev .len c [.tup xs] S = .ok (.int xs.length) S := rfl
theorem e_len_l : BI.ev .len c [.lst xs] S = .ok (.int xs.length) S := rfl
theorem e_len_s : BI.ev .len c [.scr ns] S = .ok (.int (ns.map D.int).length) S := rfl
theorem e_len_c : BI.ev .len c [.loc n] S = clR S[n]? fun xs => .ok (.int xs.length) S := by
  simp only [BI.ev, D.list?, clR, gvR, wkR, walkOf]
  all_goals
    cases S[n]? with
    | none => rfl
    | some o => cases o with
      | none => rfl
      | some u => cases u <;> rfl
theorem e_len_x : BI.ev .len c [.str s] S = grd (s.length ≤ 16777216) (.ok (.int s.length) S) := by
  show (if lineOk _ = true then _ else _) = _
  simp only [lineOk, decide_eq_true_eq]; exact grd_ite
theorem e_abs : BI.ev .abs c [.int i] S = .ok (.int (if i < 0 then -i else i)) S := rfl
theorem e_max2 : BI.ev .max2 c [.int i, .int j] S = .ok (.int (max i j)) S := by
  show Res.ok (D.int (if j > i then j else i)) S = _
  rw [show (if j > i then j else i) = max i j by omega]
theorem e_max3 : BI.ev .max3 c [.int i, .int j, .int k] S = .ok (.int (max (max i j) k)) S := by
  show Res.ok (D.int (if j > i then (if k > j then k else j) else (if k > i then k else i))) S = _
  rw [show (if j > i then (if k > j then k else j) else (if k > i then k else i)) = max (max i j) k by omega]
theorem e_min2 : BI.ev .min2 c [.int i, .int j] S = .ok (.int (min i j)) S := by
  show Res.ok (D.int (if j < i then j else i)) S = _
  rw [show (if j < i then j else i) = min i j by omega]
theorem e_tupn_l : BI.ev .tupn c [.lst xs] S = .ok (.ctp xs) S := rfl
theorem e_len_c2 : BI.ev .len c [.ctp xs] S = .ok (.int xs.length) S := rfl
theorem asInts_mapx : ∀ ns : List Int, asInts (ns.map D.int) = some ns
  | [] => rfl
  | n :: r => by rw [List.map_cons, asInts, asInts_mapx r]
theorem e_sortI_l : BI.ev .sortI c [.lst (ns.map D.int)] S = mkL c ((sortInts ns).map D.int) S := by
  simp only [BI.ev, D.list?, asInts_mapx]
theorem e_tuple_t : BI.ev .tuple c [.tup xs] S = .ok (.tup xs) S := rfl
theorem e_tuple_l : BI.ev .tuple c [.lst xs] S = .ok (.tup xs) S := rfl
theorem e_tuple_s : BI.ev .tuple c [.scr ns] S = .ok (.tup (ns.map D.int)) S := rfl
theorem e_tuple_c : BI.ev .tuple c [.loc n] S = clR S[n]? fun xs => .ok (.tup xs) S := by
  simp only [BI.ev, D.list?, clR, gvR, wkR, walkOf]
  all_goals
    cases S[n]? with
    | none => rfl
    | some o => cases o with
      | none => rfl
      | some u => cases u <;> rfl
theorem e_list_t : BI.ev .list c [.tup xs] S = mkL c xs S := rfl
theorem e_list_l : BI.ev .list c [.lst xs] S = mkL c xs S := rfl
theorem e_list_s : BI.ev .list c [.scr ns] S = mkL c (ns.map D.int) S := rfl
theorem e_list_c : BI.ev .list c [.loc n] S = clR S[n]? fun xs => mkL c xs S := by
  simp only [BI.ev, D.list?, clR, gvR, wkR, walkOf]
  all_goals
    cases S[n]? with
    | none => rfl
    | some o => cases o with
      | none => rfl
      | some u => cases u <;> rfl
theorem e_int_i : BI.ev .int c [.int i] S = .ok (.int i) S := rfl
theorem e_int_b : BI.ev .int c [.bl a] S = .ok (.int (if a then 1 else 0)) S := rfl
theorem asInts_map : ∀ ns : List Int, asInts (ns.map D.int) = some ns
  | [] => rfl
  | i :: r => by rw [List.map_cons, asInts, asInts_map r]
theorem asBls_map : ∀ ns : List Bool, asBls (ns.map D.bl) = some ns
  | [] => rfl
  | i :: r => by rw [List.map_cons, asBls, asBls_map r]
/-- numbers of a list -/
def niR {α : Type} (o : Option (List Int)) (f : List Int → Res α) : Res α := match o with
  | some xs => f xs
  | none => .bad
theorem niR_s {α : Type} (f : List Int → Res α) : niR (some ns) f = f ns := rfl
def nbR {α : Type} (o : Option (List Bool)) (f : List Bool → Res α) : Res α := match o with
  | some xs => f xs
  | none => .bad
theorem nbR_s {α : Type} {bs : List Bool} (f : List Bool → Res α) : nbR (some bs) f = f bs := rfl
theorem asInts_nil : asInts [] = some [] := rfl
theorem asInts_cons : asInts (.int i :: xs) = (asInts xs).map (i :: ·) := by
  rw [asInts]; cases asInts xs <;> rfl
theorem asBls_nil : asBls [] = some [] := rfl
theorem asBls_cons : asBls (.bl a :: xs) = (asBls xs).map (a :: ·) := by
  rw [asBls]; cases asBls xs <;> rfl
theorem omap_some {α β : Type} (f : α → β) (x : α) : (some x).map f = some (f x) := rfl
theorem e_maxL_l : BI.ev .maxL c [.lst xs] S = niR (asInts xs) fun ns => grd (0 < ns.length) (.ok (.int (maxI ns)) S) := by
  simp only [BI.ev, D.list?, niR, grd_ite] <;> (cases asInts _ <;> rfl)
theorem e_maxL_s : BI.ev .maxL c [.scr ms] S = niR (asInts (ms.map D.int)) fun ns => grd (0 < ns.length) (.ok (.int (maxI ns)) S) := by
  simp only [BI.ev, D.list?, niR, grd_ite] <;> (cases asInts _ <;> rfl)
theorem e_maxL_c : BI.ev .maxL c [.loc n] S = clR S[n]? fun xs => niR (asInts xs) fun ns => grd (0 < ns.length) (.ok (.int (maxI ns)) S) := by
  simp only [BI.ev, D.list?, niR, clR, grd_ite]
  all_goals
    cases S[n]? with
    | none => rfl
    | some o => cases o with
      | none => rfl
      | some u => cases u with
        | lst xs => simp only <;> (cases asInts _ <;> rfl)
        | _ => rfl
theorem e_minL_l : BI.ev .minL c [.lst xs] S = niR (asInts xs) fun ns => grd (0 < ns.length) (.ok (.int (minI ns)) S) := by
  simp only [BI.ev, D.list?, niR, grd_ite] <;> (cases asInts _ <;> rfl)
theorem e_minL_s : BI.ev .minL c [.scr ms] S = niR (asInts (ms.map D.int)) fun ns => grd (0 < ns.length) (.ok (.int (minI ns)) S) := by
  simp only [BI.ev, D.list?, niR, grd_ite] <;> (cases asInts _ <;> rfl)
theorem e_minL_c : BI.ev .minL c [.loc n] S = clR S[n]? fun xs => niR (asInts xs) fun ns => grd (0 < ns.length) (.ok (.int (minI ns)) S) := by
  simp only [BI.ev, D.list?, niR, clR, grd_ite]
  all_goals
    cases S[n]? with
    | none => rfl
    | some o => cases o with
      | none => rfl
      | some u => cases u with
        | lst xs => simp only <;> (cases asInts _ <;> rfl)
        | _ => rfl
theorem e_sumL_l : BI.ev .sumL c [.lst xs] S = niR (asInts xs) fun ns => .ok (.int ns.sum) S := by
  simp only [BI.ev, D.list?, niR] <;> (cases asInts _ <;> rfl)
theorem e_sumL_s : BI.ev .sumL c [.scr ms] S = niR (asInts (ms.map D.int)) fun ns => .ok (.int ns.sum) S := by
  simp only [BI.ev, D.list?, niR] <;> (cases asInts _ <;> rfl)
theorem e_sumL_c : BI.ev .sumL c [.loc n] S = clR S[n]? fun xs => niR (asInts xs) fun ns => .ok (.int ns.sum) S := by
  simp only [BI.ev, D.list?, niR, clR]
  all_goals
    cases S[n]? with
    | none => rfl
    | some o => cases o with
      | none => rfl
      | some u => cases u with
        | lst xs => simp only <;> (cases asInts _ <;> rfl)
        | _ => rfl
theorem e_anyL_l : BI.ev .anyL c [.lst xs] S = nbR (asBls xs) fun ns => .ok (.bl (ns.any id)) S := by
  simp only [BI.ev, D.list?, nbR] <;> (cases asBls _ <;> rfl)
theorem e_anyL_s : BI.ev .anyL c [.scr ms] S = nbR (asBls (ms.map D.int)) fun ns => .ok (.bl (ns.any id)) S := by
  simp only [BI.ev, D.list?, nbR] <;> (cases asBls _ <;> rfl)
theorem e_anyL_c : BI.ev .anyL c [.loc n] S = clR S[n]? fun xs => nbR (asBls xs) fun ns => .ok (.bl (ns.any id)) S := by
  simp only [BI.ev, D.list?, nbR, clR]
  all_goals
    cases S[n]? with
    | none => rfl
    | some o => cases o with
      | none => rfl
      | some u => cases u with
        | lst xs => simp only <;> (cases asBls _ <;> rfl)
        | _ => rfl
theorem e_allL_l : BI.ev .allL c [.lst xs] S = nbR (asBls xs) fun ns => .ok (.bl (ns.all id)) S := by
  simp only [BI.ev, D.list?, nbR] <;> (cases asBls _ <;> rfl)
theorem e_allL_s : BI.ev .allL c [.scr ms] S = nbR (asBls (ms.map D.int)) fun ns => .ok (.bl (ns.all id)) S := by
  simp only [BI.ev, D.list?, nbR] <;> (cases asBls _ <;> rfl)
theorem e_allL_c : BI.ev .allL c [.loc n] S = clR S[n]? fun xs => nbR (asBls xs) fun ns => .ok (.bl (ns.all id)) S := by
  simp only [BI.ev, D.list?, nbR, clR]
  all_goals
    cases S[n]? with
    | none => rfl
    | some o => cases o with
      | none => rfl
      | some u => cases u with
        | lst xs => simp only <;> (cases asBls _ <;> rfl)
        | _ => rfl
theorem e_app : MI.ev .append (.loc n) [y] S = clR S[n]? fun xs => grd (xs.length + 1 ≤ 16777216) (.ok .non (S.set n (some (.lst (xs ++ [y]))))) := by
  simp only [MI.ev, clR, setCell, lineOk, grd_ite, decide_eq_true_eq]
  all_goals
    cases S[n]? with
    | none => rfl
    | some o => cases o with
      | none => rfl
      | some u => cases u <;> rfl
theorem e_ext_l : MI.ev .extend (.loc n) [.lst ys] S = clR S[n]? fun xs => grd (xs.length + ys.length ≤ 16777216) (.ok .non (S.set n (some (.lst (xs ++ ys))))) := by
  simp only [MI.ev, clR, setCell, lineOk, grd_ite, decide_eq_true_eq, D.listH?, D.list?]
  all_goals
    cases S[n]? with
    | none => rfl
    | some o => cases o with
      | none => rfl
      | some u => cases u <;> rfl
theorem e_rc_append_c : MI.recv .append (.loc n) S = (D.list? S (.loc n)).isSome := rfl
theorem e_rc_append_l : MI.recv .append (.lst xs) S = true := rfl
theorem e_rc_extend_c : MI.recv .extend (.loc n) S = (D.list? S (.loc n)).isSome := rfl
theorem e_rc_extend_l : MI.recv .extend (.lst xs) S = true := rfl
theorem e_rc_index_c : MI.recv .index (.loc n) S = (D.list? S (.loc n)).isSome := rfl
theorem e_rc_index_l : MI.recv .index (.lst xs) S = true := rfl
theorem e_rc_tcnt : MI.recv .tcount (.ctp xs) S = true := rfl
theorem e_rc_count_l : MI.recv .count (.lst xs) S = true := rfl
theorem e_rc_join : MI.recv .join (.str s) S = true := rfl
theorem e_lc : D.list? S (.loc n) = clq S[n]? := rfl
theorem e_set : setIxEv (.loc n) (.int k) y S = clR S[n]? fun xs => pxR (ixN xs.length k) fun j => .ok () (S.set n (some (.lst (xs.set j y)))) := by
  simp only [setIxEv, clR, setCell, pxR]
  all_goals
    cases S[n]? with
    | none => rfl
    | some o => cases o with
      | none => rfl
      | some u => cases u <;> rfl
theorem e_wk_t : wkR (.tup xs) S = .ok (xs, none) S := rfl
theorem e_wk_ct : wkR (.ctp xs) S = .ok (xs, none) S := rfl
theorem e_wk_l : wkR (.lst xs) S = .ok (xs, none) S := rfl
theorem e_wk_s : wkR (.scr ns) S = .ok (ns.map D.int, none) S := rfl
theorem e_wk_c : wkR (.loc n) S = clR S[n]? fun xs => .ok (xs, some n) S := by
  simp only [wkR, D.list?, clR, gvR, wkR, walkOf]
  all_goals
    cases S[n]? with
    | none => rfl
    | some o => cases o with
      | none => rfl
      | some u => cases u <;> rfl
theorem e_rg : rgR (.int i) (.int j) S = .ok (rngD i j, none) S := rfl
theorem rng00 : rngD 0 0 = [] := rfl
theorem rng01 : rngD 0 1 = [.int 0] := rfl
theorem rng02 : rngD 0 2 = [.int 0, .int 1] := rfl
theorem rng03 : rngD 0 3 = [.int 0, .int 1, .int 2] := rfl
theorem rng04 : rngD 0 4 = [.int 0, .int 1, .int 2, .int 3] := rfl
theorem rng05 : rngD 0 5 = [.int 0, .int 1, .int 2, .int 3, .int 4] := rfl
theorem rng06 : rngD 0 6 = [.int 0, .int 1, .int 2, .int 3, .int 4, .int 5] := rfl
theorem at0 : atI (y :: xs) 0 = some y := by
  unfold atI ixN
  simp only [List.length_cons]
  rw [if_pos (by omega), if_pos (by omega)]
  rfl
theorem at1 {x0 : D} : atI (x0 :: y :: xs) 1 = some y := by
  unfold atI ixN
  simp only [List.length_cons]
  rw [if_pos (by omega), if_pos (by omega)]
  rfl
theorem at2 {x0 : D} {x1 : D} : atI (x0 :: x1 :: y :: xs) 2 = some y := by
  unfold atI ixN
  simp only [List.length_cons]
  rw [if_pos (by omega), if_pos (by omega)]
  rfl
theorem at3 {x0 : D} {x1 : D} {x2 : D} : atI (x0 :: x1 :: x2 :: y :: xs) 3 = some y := by
  unfold atI ixN
  simp only [List.length_cons]
  rw [if_pos (by omega), if_pos (by omega)]
  rfl
theorem at4 {x0 : D} {x1 : D} {x2 : D} {x3 : D} : atI (x0 :: x1 :: x2 :: x3 :: y :: xs) 4 = some y := by
  unfold atI ixN
  simp only [List.length_cons]
  rw [if_pos (by omega), if_pos (by omega)]
  rfl
theorem at5 {x0 : D} {x1 : D} {x2 : D} {x3 : D} {x4 : D} : atI (x0 :: x1 :: x2 :: x3 :: x4 :: y :: xs) 5 = some y := by
  unfold atI ixN
  simp only [List.length_cons]
  rw [if_pos (by omega), if_pos (by omega)]
  rfl
theorem at6 {x0 : D} {x1 : D} {x2 : D} {x3 : D} {x4 : D} {x5 : D} : atI (x0 :: x1 :: x2 :: x3 :: x4 :: x5 :: y :: xs) 6 = some y := by
  unfold atI ixN
  simp only [List.length_cons]
  rw [if_pos (by omega), if_pos (by omega)]
  rfl
theorem at7 {x0 : D} {x1 : D} {x2 : D} {x3 : D} {x4 : D} {x5 : D} {x6 : D} : atI (x0 :: x1 :: x2 :: x3 :: x4 :: x5 :: x6 :: y :: xs) 7 = some y := by
  unfold atI ixN
  simp only [List.length_cons]
  rw [if_pos (by omega), if_pos (by omega)]
  rfl
theorem px1_0 : ixN 1 0 = some 0 := rfl
theorem pxm1 : ixN 1 (-1) = some 0 := rfl
theorem px2_0 : ixN 2 0 = some 0 := rfl
theorem px2_1 : ixN 2 1 = some 1 := rfl
theorem pxm2 : ixN 2 (-1) = some 1 := rfl
theorem px3_0 : ixN 3 0 = some 0 := rfl
theorem px3_1 : ixN 3 1 = some 1 := rfl
theorem px3_2 : ixN 3 2 = some 2 := rfl
theorem pxm3 : ixN 3 (-1) = some 2 := rfl
theorem px4_0 : ixN 4 0 = some 0 := rfl
theorem px4_1 : ixN 4 1 = some 1 := rfl
theorem px4_2 : ixN 4 2 = some 2 := rfl
theorem px4_3 : ixN 4 3 = some 3 := rfl
theorem pxm4 : ixN 4 (-1) = some 3 := rfl
theorem px5_0 : ixN 5 0 = some 0 := rfl
theorem px5_1 : ixN 5 1 = some 1 := rfl
theorem px5_2 : ixN 5 2 = some 2 := rfl
theorem px5_3 : ixN 5 3 = some 3 := rfl
theorem px5_4 : ixN 5 4 = some 4 := rfl
theorem pxm5 : ixN 5 (-1) = some 4 := rfl
theorem px6_0 : ixN 6 0 = some 0 := rfl
theorem px6_1 : ixN 6 1 = some 1 := rfl
theorem px6_2 : ixN 6 2 = some 2 := rfl
theorem px6_3 : ixN 6 3 = some 3 := rfl
theorem px6_4 : ixN 6 4 = some 4 := rfl
theorem px6_5 : ixN 6 5 = some 5 := rfl
theorem pxm6 : ixN 6 (-1) = some 5 := rfl
theorem px7_0 : ixN 7 0 = some 0 := rfl
theorem px7_1 : ixN 7 1 = some 1 := rfl
theorem px7_2 : ixN 7 2 = some 2 := rfl
theorem px7_3 : ixN 7 3 = some 3 := rfl
theorem px7_4 : ixN 7 4 = some 4 := rfl
theorem px7_5 : ixN 7 5 = some 5 := rfl
theorem px7_6 : ixN 7 6 = some 6 := rfl
theorem pxm7 : ixN 7 (-1) = some 6 := rfl
theorem atm1 : atI (xs ++ [y]) (-1) = some y := by
  unfold atI ixN
  rw [if_neg (by omega), if_pos (by simp; omega)]
  simp only [List.length_append, List.length_singleton, Option.bind_some]
  rw [show ((-1 : Int) + ((xs.length + 1 : Nat) : Int)).toNat = xs.length by omega]
  simp
theorem e_pow18 : BOp.ev .pow c (.int 10) (.int 18) S = .ok (.int 1000000000000000000) S := by rw [e_pow_ii]; rw [grd_of (by decide)]; rfl
theorem neg_i : negR (.int i) S = .ok (.int (-i)) S := rfl
theorem in_i : inR (.int i) S = .ok (some i) S := rfl
theorem ty_s : tyR (some a) S = .ok (.bl a) S := rfl
def btsR (o : Option EnvD) (ts : List Tg) (ds : List D) : Option EnvD := match o with
  | some ρ1 => bindTgs ts ds ρ1
  | none => none
theorem nc_0 : ((0 : Nat) : Int) = 0 := rfl
theorem nc_1 : ((1 : Nat) : Int) = 1 := rfl
theorem nc_2 : ((2 : Nat) : Int) = 2 := rfl
theorem nc_3 : ((3 : Nat) : Int) = 3 := rfl
theorem nc_4 : ((4 : Nat) : Int) = 4 := rfl
theorem nc_5 : ((5 : Nat) : Int) = 5 := rfl
theorem nc_6 : ((6 : Nat) : Int) = 6 := rfl
theorem nc_7 : ((7 : Nat) : Int) = 7 := rfl
theorem nc_8 : ((8 : Nat) : Int) = 8 := rfl
theorem nc_9 : ((9 : Nat) : Int) = 9 := rfl
theorem nc_10 : ((10 : Nat) : Int) = 10 := rfl
theorem nc_11 : ((11 : Nat) : Int) = 11 := rfl
theorem nc_12 : ((12 : Nat) : Int) = 12 := rfl
theorem bt_nm {ρ : EnvD} : bindTg (.nm n) x ρ = some (ρ.set n (some x)) := by simp only [bindTg]
theorem bt_tt {ρ : EnvD} {ts : List Tg} : bindTg (.tup ts) (.tup xs) ρ = bindTgs ts xs ρ := by simp only [bindTg]
theorem bt_tl {ρ : EnvD} {ts : List Tg} : bindTg (.tup ts) (.lst xs) ρ = bindTgs ts xs ρ := by simp only [bindTg]
theorem bts_n {ρ : EnvD} : bindTgs [] [] ρ = some ρ := by simp only [bindTgs]
theorem bts_c {ρ : EnvD} {tg : Tg} {ts : List Tg} : bindTgs (tg :: ts) (x :: xs) ρ = btsR (bindTg tg x ρ) ts xs := by simp only [bindTgs, btsR] <;> rfl
theorem btsR_s {ρ : EnvD} {ts : List Tg} : btsR (some ρ) ts xs = bindTgs ts xs ρ := rfl
theorem e_isB : COp.ev .isB (.bl a) (.bl b) S = .ok (.bl (decide (a = b))) S := rfl
theorem e_notB : COp.ev .notB (.bl a) (.bl b) S = .ok (.bl (!decide (a = b))) S := rfl
theorem ty_locD {t : Ty} {n : Nat} {kvs : List (Key × D)} (h : S[n]? = some (some (.dK kvs))) : tyEv S t (.loc n) = some (decide (t = .dict)) := by simp only [tyEv, h]
theorem weak_t : D.weak (.tup xs) = .tup (D.weakL xs) := rfl
theorem weak_c : D.weak (.ctp xs) = .tup (D.weakL xs) := rfl
theorem weak_l : D.weak (.lst xs) = .lst (D.weakL xs) := rfl
theorem weak_i {i : Int} : D.weak (.int i) = .int i := rfl
theorem weak_s {s : Str} : D.weak (.str s) = .str s := rfl
theorem weak_n : D.weak .non = .non := rfl
theorem weak_b {b : Bool} : D.weak (.bl b) = .bl b := rfl
theorem weakL_n : D.weakL [] = [] := rfl
theorem weakL_c : D.weakL (x :: xs) = D.weak x :: D.weakL xs := rfl
theorem ty_loc {t : Ty} {n : Nat} (h : S[n]? = some (some (.lst xs))) : tyEv S t (.loc n) = some (decide (t = .list)) := by simp only [tyEv, h]
theorem ty_n {t : Ty} : tyEv S t .non = some false := rfl
theorem ty_b {t : Ty} : tyEv S t (.bl a) = some (decide (t = .bool ∨ t = .int)) := rfl
theorem ty_i {t : Ty} : tyEv S t (.int i) = some (decide (t = .int)) := rfl
theorem ty_st {t : Ty} : tyEv S t (.str s) = some (decide (t = .str)) := rfl
theorem ty_t {t : Ty} : tyEv S t (.tup xs) = some (decide (t = .tuple)) := rfl
theorem ty_l {t : Ty} : tyEv S t (.lst xs) = some (decide (t = .list)) := rfl
theorem ty_x {t : Ty} : tyEv S t (.scr ns) = some (decide (t = .list)) := rfl
def tyoR (o r : Option Bool) : Option Bool := match o with
  | some true => some true
  | some false => r
  | none => none
theorem tys_n : tyEvs S [] x = some false := rfl
theorem tys_c {t : Ty} {ts : List Ty} : tyEvs S (t :: ts) x = tyoR (tyEv S t x) (tyEvs S ts x) := by
  simp only [tyEvs, tyoR] <;> rfl
theorem tyo_t {o : Option Bool} : tyoR (some true) o = some true := rfl
theorem tyo_f {o : Option Bool} : tyoR (some false) o = o := rfl
theorem e_pow2 : BOp.ev .pow c (.int i) (.int 2) S = grd (i.natAbs < 18446744073709551616) (.ok (.int (i * i)) S) := by
  rw [e_pow_ii]
  have : (0 ≤ (2 : Int) ∧ (2 : Int) ≤ 1000000 ∧ i.natAbs < 18446744073709551616) = (i.natAbs < 18446744073709551616) := by simp
  rw [this]
  congr 2
  show D.int (i ^ 2) = _
  rw [Int.pow_succ, Int.pow_succ, Int.pow_zero, Int.one_mul]
theorem e_pow6 : BOp.ev .pow c (.int 10) (.int 6) S = .ok (.int 1000000) S := by rw [e_pow_ii]; rw [grd_of (by decide)]; rfl
theorem e_pow12 : BOp.ev .pow c (.int 10) (.int 12) S = .ok (.int 1000000000000) S := by rw [e_pow_ii]; rw [grd_of (by decide)]; rfl
theorem e_pow30 : BOp.ev .pow c (.int 10) (.int 30) S = .ok (.int 1000000000000000000000000000000) S := by rw [e_pow_ii]; rw [grd_of (by decide)]; rfl
theorem e_pow57 : BOp.ev .pow c (.int 10) (.int 57) S = .ok (.int 1000000000000000000000000000000000000000000000000000000000) S := by rw [e_pow_ii]; rw [grd_of (by decide)]; rfl
theorem e_pow60 : BOp.ev .pow c (.int 10) (.int 60) S = .ok (.int 1000000000000000000000000000000000000000000000000000000000000) S := by rw [e_pow_ii]; rw [grd_of (by decide)]; rfl
end
/-! ### statements -/
theorem pr_sat {f : Fn} {ds : List D} {S : Store} {d : D} (hp : D.pureL ds = true) (hd : d.pure = true) (h : (f ds []).satx noX fun r _ => r = d) : pureFn f ds S = .ok d S := by
  unfold pureFn
  rw [if_pos hp]
  cases e : f ds [] with
  | ok r S' =>
    rw [e] at h
    have h : r = d := h
    subst h
    simp only
    rw [if_pos hd]
  | exc x S' => rw [e] at h; exact h.elim
  | bad => rw [e] at h; exact h.elim
/-- a def by what its body does -/
theorem fn_sx {Γ : Gm} {n p : Nat} {body : List Sm} {ds : List D} {S : Store} {X : Exn → Store → Prop} {Q : D → Store → Prop} (hl : ds.length = p) (h : Ws Γ body (ds.map some ++ List.replicate (n - p) none) S (kFn X Q)) : (fnOf Γ n p body ds S).satx X Q := by
  unfold Ws kFn at h
  unfold fnOf
  rw [if_pos hl]
  cases e : runs Γ body (ds.map some ++ List.replicate (n - p) none) S with
  | nx ρ S1 => rw [e] at h; exact h
  | rt d S1 => rw [e] at h; exact h
  | bk ρ S1 => rw [e] at h; exact h.elim
  | ct ρ S1 => rw [e] at h; exact h.elim
  | exc x ρ S1 => rw [e] at h; exact h
  | bad => rw [e] at h; exact h.elim
/-! ### loops -/
section
variable {Γ : Gm} {tg : Tg} {body : List Sm} {g : Option Nat} {S₀ : Store} {P : Po}
theorem still_no {S S' : Store} : Still none S S' := fun _ h => by cases h
theorem still_eq {n : Nat} {S S' : Store} : Still (some n) S S' = (S'[n]? = S[n]?) := by
  unfold Still
  exact propext ⟨fun h => h n rfl, fun h m e => by cases e; exact h⟩
theorem for_nil {ρ : EnvD} {S : Store} : (ForR Γ tg body g S₀ [] ρ S).satp P = P.N ρ S := by
  unfold ForR; rw [forEach]; rfl
theorem for_cons {x : D} {xs : List D} {ρ ρ1 : EnvD} {S : Store} (hb : bindTg tg x ρ = some ρ1) (h : Ws Γ body ρ1 S (kLoop P fun ρ2 S2 => Still g S₀ S2 ∧ (ForR Γ tg body g S₀ xs ρ2 S2).satp P)) : (ForR Γ tg body g S₀ (x :: xs) ρ S).satp P := by
  unfold Ws kLoop at h
  unfold ForR at h ⊢
  rw [forEach, hb]
  simp only
  cases e : runs Γ body ρ1 S with
  | nx ρ2 S2 => rw [e] at h; simp only; rw [if_pos h.1]; exact h.2
  | ct ρ2 S2 => rw [e] at h; simp only; rw [if_pos h.1]; exact h.2
  | bk ρ2 S2 => rw [e] at h; exact h
  | rt d S2 => rw [e] at h; exact h
  | exc x ρ2 S2 => rw [e] at h; exact h
  | bad => rw [e] at h; exact h
/-- a for by an invariant over the turns -/
theorem for_inv {xs : List D} (I : Nat → EnvD → Store → Prop)
    (hs : ∀ i x ρ S, xs[i]? = some x → I i ρ S → ∃ ρ1, bindTg tg x ρ = some ρ1 ∧ Ws Γ body ρ1 S (kLoop P fun ρ2 S2 => Still g S₀ S2 ∧ I (i + 1) ρ2 S2))
    (hd : ∀ ρ S, I xs.length ρ S → P.N ρ S) {ρ : EnvD} {S : Store} (h : I 0 ρ S) : (ForR Γ tg body g S₀ xs ρ S).satp P := by
  have key : ∀ (k : Nat) (i : Nat) ρ S, k + i = xs.length → I i ρ S → (ForR Γ tg body g S₀ (xs.drop i) ρ S).satp P := by
    intro k
    induction k with
    | zero =>
      intro i ρ S hk hI
      have : i = xs.length := by omega
      subst this
      rw [List.drop_length, for_nil]
      exact hd ρ S hI
    | succ k ih =>
      intro i ρ S hk hI
      have hi : i < xs.length := by omega
      rw [List.drop_eq_getElem_cons hi]
      obtain ⟨ρ1, eb, h⟩ := hs i xs[i] ρ S (List.getElem?_eq_getElem hi) hI
      exact for_cons eb (s_imp h (fun ρ2 S2 h => ⟨h.1, ih (i + 1) ρ2 S2 (by omega) h.2⟩) (fun _ _ h => h) (fun ρ2 S2 h => ⟨h.1, ih (i + 1) ρ2 S2 (by omega) h.2⟩) (fun _ _ h => h) fun _ _ _ h => h)
  have := key xs.length 0 ρ S (by omega) h
  rwa [List.drop_zero] at this
/-- a while, by an invariant and a measure -/
theorem while_inv {e : Ex} (I : EnvD → Store → Prop) (μ : EnvD → Store → Nat)
    (hs : ∀ ρ S, I ρ S → W Γ e ρ S (kX P ρ) (kBl fun b S1 => (b = true → Ws Γ body ρ S1 (kLoop P fun ρ2 S2 => I ρ2 S2 ∧ μ ρ2 S2 < μ ρ S)) ∧ (b = false → P.N ρ S1)))
    {ρ : EnvD} {S : Store} (h : I ρ S) (hm : μ ρ S < 10000000000) : (WhR Γ e body ρ S).satp P := by
  have key : ∀ (n : Nat) ρ S, I ρ S → μ ρ S < n → (whileN (fun ρ S => asBl (sem Γ e ρ S)) (fun ρ S => runs Γ body ρ S) n ρ S).satp P := by
    intro n
    induction n with
    | zero => intro ρ S _ h; omega
    | succ n ih =>
      intro ρ S hI hn
      have h := hs ρ S hI
      unfold W at h
      rw [← x_asBl2] at h
      rw [whileN]
      cases ec : asBl (sem Γ e ρ S) with
      | ok b S1 =>
        rw [ec] at h
        cases b with
        | true =>
          replace h : Ws _ _ _ _ _ := h.1 rfl
          unfold Ws kLoop at h
          simp only
          cases eb : runs Γ body ρ S1 with
          | nx ρ2 S2 => rw [eb] at h; exact ih ρ2 S2 h.1 (by have := h.2; omega)
          | ct ρ2 S2 => rw [eb] at h; exact ih ρ2 S2 h.1 (by have := h.2; omega)
          | bk ρ2 S2 => rw [eb] at h; exact h
          | rt d S2 => rw [eb] at h; exact h
          | exc x ρ2 S2 => rw [eb] at h; exact h
          | bad => rw [eb] at h; exact h.elim
        | false =>
          exact h.2 rfl
      | exc x S1 => rw [ec] at h; exact h
      | bad => rw [ec] at h; exact h.elim
  exact key fuel ρ S h hm
variable {ifs : List Ex} {elt : Ex}
/-- .. of items that are alike made -/
theorem lc_mapped {α : Type} {ρ : EnvD} {S : Store} {mk : α → D} (p : α → Bool) (f : α → D) {xs : List α} (hl : xs.length ≤ 16777216)
    (h : ∀ x ∈ xs, ∃ ρ1, bindTg tg (mk x) ρ = some ρ1 ∧ WI Γ ifs ρ1 S noX (fun r S' => r = p x ∧ S' = S) ∧ (p x = true → W Γ elt ρ1 S noX fun r S' => r = f x ∧ S' = S)) : LcR Γ tg ifs elt g S ρ (xs.map mk) S = .ok ((xs.filter p).map f) S := by
  have key : ∀ (xs : List α) (acc : List D), acc.length + xs.length ≤ 16777216 → (∀ x ∈ xs, ∃ ρ1, bindTg tg (mk x) ρ = some ρ1 ∧ semIfs Γ ifs ρ1 S = .ok (p x) S ∧ (p x = true → sem Γ elt ρ1 S = .ok (f x) S)) → lcEach (bindTg tg) (fun ρ S => semIfs Γ ifs ρ S) (fun ρ S => sem Γ elt ρ S) g S ρ (xs.map mk) acc S = .ok (acc ++ (xs.filter p).map f) S := by
    intro xs
    induction xs with
    | nil => intro acc _ _; simp [lcEach]
    | cons x r ih =>
      intro acc hl h
      obtain ⟨ρ1, e1, e2, e3⟩ := h x (by simp)
      rw [List.map_cons, lcEach, e1]
      simp only [e2]
      simp only [List.length_cons] at hl
      have st : Still g S S := fun _ _ => rfl
      cases hp : p x with
      | true =>
        simp only [e3 hp]
        rw [if_pos (show lineOk (acc.length + 1) = true from decide_eq_true (by omega)), if_pos st, ih (acc ++ [f x]) (by simp; omega) fun y hy => h y (List.mem_cons_of_mem _ hy)]
        simp [List.filter_cons, hp]
      | false =>
        simp only
        rw [if_pos st, ih acc (by omega) fun y hy => h y (List.mem_cons_of_mem _ hy)]
        simp [List.filter_cons, hp]
  have := key xs [] (by simpa using hl) fun x hx => (h x hx).imp fun ρ1 a => ⟨a.1, wi_eq a.2.1, fun e => w_eq (a.2.2 e)⟩
  unfold LcR
  simpa using this
/-- a comprehension, by an invariant -/
theorem lc_inv {ρ : EnvD} {X : Exn → Store → Prop} {Q : List D → Store → Prop} {xs : List D} (I : Nat → List D → Store → Prop)
    (hs : ∀ i x acc S, xs[i]? = some x → I i acc S → ∃ ρ1, bindTg tg x ρ = some ρ1 ∧ WI Γ ifs ρ1 S noX fun b S1 => (b = true → W Γ elt ρ1 S1 noX fun y S2 => acc.length < 16777216 ∧ Still g S₀ S2 ∧ I (i + 1) (acc ++ [y]) S2) ∧ (b = false → Still g S₀ S1 ∧ I (i + 1) acc S1))
    (hd : ∀ acc S, I xs.length acc S → Q acc S) {S : Store} (h : I 0 [] S) : (LcR Γ tg ifs elt g S₀ ρ xs S).satx X Q := by
  have key : ∀ (k : Nat) (i : Nat) acc S, k + i = xs.length → I i acc S → (lcEach (bindTg tg) (fun ρ S => semIfs Γ ifs ρ S) (fun ρ S => sem Γ elt ρ S) g S₀ ρ (xs.drop i) acc S).satx X Q := by
    intro k
    induction k with
    | zero =>
      intro i acc S hk hI
      have : i = xs.length := by omega
      subst this
      rw [List.drop_length, lcEach]
      exact hd acc S hI
    | succ k ih =>
      intro i acc S hk hI
      have hi : i < xs.length := by omega
      rw [List.drop_eq_getElem_cons hi, lcEach]
      obtain ⟨ρ1, eb, h⟩ := hs i xs[i] acc S (List.getElem?_eq_getElem hi) hI
      rw [eb]
      unfold WI at h
      simp only
      cases et : semIfs Γ ifs ρ1 S with
      | ok b S1 =>
        rw [et] at h
        cases b with
        | true =>
          replace h : W _ _ _ _ _ _ := h.1 rfl
          unfold W at h
          simp only
          cases ee : sem Γ elt ρ1 S1 with
          | ok y S2 =>
            rw [ee] at h
            obtain ⟨h1, h2, h3⟩ := h
            simp only
            rw [if_pos (show lineOk (acc.length + 1) = true from decide_eq_true (by omega)), if_pos h2]
            exact ih (i + 1) _ S2 (by omega) h3
          | exc e S2 => rw [ee] at h; exact h.elim
          | bad => rw [ee] at h; exact h.elim
        | false =>
          replace h := h.2 rfl
          simp only
          rw [if_pos h.1]
          exact ih (i + 1) acc S1 (by omega) h.2
      | exc e S1 => rw [et] at h; exact h.elim
      | bad => rw [et] at h; exact h.elim
  have := key xs.length 0 [] S (by omega) h
  rwa [List.drop_zero] at this
/-- .. turn by turn, as far as it is written out -/
theorem lc_nil {ρ : EnvD} {S : Store} : LcR Γ tg ifs elt g S₀ ρ [] S = .ok [] S := by unfold LcR; rw [lcEach]
end
def rngI (lo hi : Int) : List Int := (List.range (hi - lo).toNat).map fun i => lo + (i : Nat)
theorem rngD_eq (lo hi : Int) : rngD lo hi = (rngI lo hi).map D.int := by unfold rngD rngI; rw [List.map_map]; rfl
theorem mem_rngI {lo hi i : Int} : i ∈ rngI lo hi ↔ lo ≤ i ∧ i < hi := by
  unfold rngI
  simp only [List.mem_map, List.mem_range]
  constructor
  · rintro ⟨a, h, rfl⟩; omega
  · intro h; exact ⟨(i - lo).toNat, by omega, by omega⟩
theorem len_rngI {lo hi : Int} : (rngI lo hi).length = (hi - lo).toNat := by unfold rngI; simp

section
variable {Γ : Gm} {tg : Tg} {ifs : List Ex} {elt : Ex} {g : Option Nat} {ρ : EnvD} {S : Store} {X : XD} {Q : List D → Store → Prop}
theorem lc_mapd {α : Type} {mk : α → D} (p : α → Bool) (f : α → D) {xs : List α} (hl : xs.length ≤ 16777216)
    (h : ∀ x ∈ xs, ∃ ρ1, bindTg tg (mk x) ρ = some ρ1 ∧ WI Γ ifs ρ1 S noX (fun r S' => r = p x ∧ S' = S) ∧ (p x = true → W Γ elt ρ1 S noX fun r S' => r = f x ∧ S' = S)) (q : Q ((xs.filter p).map f) S) : (LcR Γ tg ifs elt g S ρ (xs.map mk) S).satx X Q := by
  rw [lc_mapped p f hl h]; exact q
end
/-! ### written out -/
noncomputable def LcW (Γ : Gm) (tg : Tg) (ifs : List Ex) (elt : Ex) (g : Option Nat) (S₀ : Store) (ρ : EnvD) (xs acc : List D) (S : Store) (X : XD) (Q : List D → Store → Prop) : Prop :=
  (lcEach (bindTg tg) (fun ρ S => semIfs Γ ifs ρ S) (fun ρ S => sem Γ elt ρ S) g S₀ ρ xs acc S).satx X Q
noncomputable def kLv (Γ : Gm) (tg : Tg) (ifs : List Ex) (elt : Ex) (g : Option Nat) (S₀ : Store) (ρ : EnvD) (xs acc : List D) (X : XD) (Q : List D → Store → Prop) : QD :=
  fun y S => acc.length + 1 ≤ 16777216 ∧ Still g S₀ S ∧ LcW Γ tg ifs elt g S₀ ρ xs (acc ++ [y]) S X Q
noncomputable def iteL (b : Bool) (Γ : Gm) (tg : Tg) (ifs : List Ex) (elt : Ex) (g : Option Nat) (S₀ : Store) (ρ : EnvD) (xs acc : List D) (X : XD) (Q : List D → Store → Prop) (ρ1 : EnvD) (S : Store) : Prop :=
  (b = true → W Γ elt ρ1 S noX (kLv Γ tg ifs elt g S₀ ρ xs acc X Q)) ∧ (b = false → Still g S₀ S ∧ LcW Γ tg ifs elt g S₀ ρ xs acc S X Q)
noncomputable def kLu (Γ : Gm) (tg : Tg) (ifs : List Ex) (elt : Ex) (g : Option Nat) (S₀ : Store) (ρ : EnvD) (xs acc : List D) (X : XD) (Q : List D → Store → Prop) (ρ1 : EnvD) : Bool → Store → Prop :=
  fun b S => iteL b Γ tg ifs elt g S₀ ρ xs acc X Q ρ1 S
noncomputable def btL (o : Option EnvD) (Γ : Gm) (tg : Tg) (ifs : List Ex) (elt : Ex) (g : Option Nat) (S₀ : Store) (ρ : EnvD) (xs acc : List D) (S : Store) (X : XD) (Q : List D → Store → Prop) : Prop := match o with
  | some ρ1 => WI Γ ifs ρ1 S noX (kLu Γ tg ifs elt g S₀ ρ xs acc X Q ρ1)
  | none => False
noncomputable def kFo (Γ : Gm) (tg : Tg) (body : List Sm) (g : Option Nat) (S₀ : Store) (xs : List D) (P : Po) : Po := kLoop P fun ρ2 S2 => Still g S₀ S2 ∧ (ForR Γ tg body g S₀ xs ρ2 S2).satp P
noncomputable def btF (o : Option EnvD) (Γ : Gm) (tg : Tg) (body : List Sm) (g : Option Nat) (S₀ : Store) (xs : List D) (S : Store) (P : Po) : Prop := match o with
  | some ρ1 => Ws Γ body ρ1 S (kFo Γ tg body g S₀ xs P)
  | none => False
section
variable {Γ : Gm} {tg : Tg} {ifs : List Ex} {elt : Ex} {g : Option Nat} {S₀ : Store} {ρ ρ1 : EnvD} {x : D} {xs acc : List D} {S : Store} {X : XD} {Q : List D → Store → Prop} {body : List Sm} {P : Po}
theorem u_lc : (LcR Γ tg ifs elt g S₀ ρ (x :: xs) S).satx X Q = LcW Γ tg ifs elt g S₀ ρ (x :: xs) [] S X Q := rfl
theorem u_nil : LcW Γ tg ifs elt g S₀ ρ [] acc S X Q = Q acc S := by unfold LcW; rw [lcEach]; rfl
theorem u_bt : btL (some ρ1) Γ tg ifs elt g S₀ ρ xs acc S X Q = WI Γ ifs ρ1 S noX (kLu Γ tg ifs elt g S₀ ρ xs acc X Q ρ1) := rfl
theorem u_kv : kLv Γ tg ifs elt g S₀ ρ xs acc X Q x S = (acc.length + 1 ≤ 16777216 ∧ Still g S₀ S ∧ LcW Γ tg ifs elt g S₀ ρ xs (acc ++ [x]) S X Q) := rfl
theorem u_ku {b : Bool} : kLu Γ tg ifs elt g S₀ ρ xs acc X Q ρ1 b S = iteL b Γ tg ifs elt g S₀ ρ xs acc X Q ρ1 S := rfl
theorem u_kut : iteL true Γ tg ifs elt g S₀ ρ xs acc X Q ρ1 S = W Γ elt ρ1 S noX (kLv Γ tg ifs elt g S₀ ρ xs acc X Q) := by simp [iteL]
theorem u_kuf : iteL false Γ tg ifs elt g S₀ ρ xs acc X Q ρ1 S = (Still g S₀ S ∧ LcW Γ tg ifs elt g S₀ ρ xs acc S X Q) := by simp [iteL]
theorem it_L {b : Bool} (h1 : b = true → W Γ elt ρ1 S noX (kLv Γ tg ifs elt g S₀ ρ xs acc X Q)) (h2 : b = false → Still g S₀ S ∧ LcW Γ tg ifs elt g S₀ ρ xs acc S X Q) : iteL b Γ tg ifs elt g S₀ ρ xs acc X Q ρ1 S := ⟨h1, h2⟩
theorem u_cons : LcW Γ tg ifs elt g S₀ ρ (x :: xs) acc S X Q = btL (bindTg tg x ρ) Γ tg ifs elt g S₀ ρ xs acc S X Q := by
  unfold LcW
  rw [lcEach]
  unfold btL
  cases e : bindTg tg x ρ with
  | none => rfl
  | some ρ1 =>
    simp only
    unfold WI
    cases e1 : semIfs Γ ifs ρ1 S with
    | exc e S1 => rfl
    | bad => rfl
    | ok b S1 => cases b with
      | true =>
        rw [x_ok, u_ku, u_kut]
        simp only
        unfold W
        cases e2 : sem Γ elt ρ1 S1 with
        | exc e S2 => rfl
        | bad => rfl
        | ok y S2 =>
          rw [x_ok, u_kv]
          simp only [lineOk, grd_ite, decide_eq_true_eq, x_grd]
          rfl
      | false =>
        rw [x_ok, u_ku, u_kuf]
        simp only [grd_ite, x_grd]
        rfl
theorem u_fbt : btF (some ρ1) Γ tg body g S₀ xs S P = Ws Γ body ρ1 S (kFo Γ tg body g S₀ xs P) := rfl
theorem u_oN : (kFo Γ tg body g S₀ xs P).N ρ S = (Still g S₀ S ∧ (ForR Γ tg body g S₀ xs ρ S).satp P) := rfl
theorem u_oC : (kFo Γ tg body g S₀ xs P).C ρ S = (Still g S₀ S ∧ (ForR Γ tg body g S₀ xs ρ S).satp P) := rfl
theorem u_oB : (kFo Γ tg body g S₀ xs P).B = P.N := rfl
theorem u_oT : (kFo Γ tg body g S₀ xs P).T = P.T := rfl
theorem u_oX : (kFo Γ tg body g S₀ xs P).X = P.X := rfl
end
/-! ### cells -/
def At (S : Store) (p : Nat) (xs : List D) : Prop := S[p]? = some (some (.lst xs))
theorem At.lt {S : Store} {p : Nat} {xs : List D} (h : At S p xs) : p < S.length := by
  unfold At at h
  exact (List.getElem?_eq_some_iff.1 h).1
/-- a store later: but for the cells ps all cells are as they were -/
def Kept (ps : List Nat) (S S' : Store) : Prop := S.length ≤ S'.length ∧ ∀ q, q < S.length → q ∉ ps → S'[q]? = S[q]?
theorem Kept.refl (ps : List Nat) (S : Store) : Kept ps S S := ⟨Nat.le_refl _, fun _ _ _ => rfl⟩
theorem Kept.trans {ps : List Nat} {S S' S2 : Store} (a : Kept ps S S') (b : Kept ps S' S2) : Kept ps S S2 :=
  ⟨Nat.le_trans a.1 b.1, fun q h n => (b.2 q (Nat.lt_of_lt_of_le h a.1) n).trans (a.2 q h n)⟩
theorem Kept.at {ps : List Nat} {S S' : Store} {q : Nat} {xs : List D} (a : Kept ps S S') (h : At S q xs) (n : q ∉ ps) : At S' q xs := (a.2 q h.lt n).trans h
theorem Kept.set {ps : List Nat} {S S' : Store} {p : Nat} {c : Cell} (a : Kept ps S S') (h : p ∈ ps ∨ S.length ≤ p) : Kept ps S (S'.set p (some c)) :=
  ⟨by rw [List.length_set]; exact a.1, fun q hq n => by
    rw [List.getElem?_set_ne]
    · exact a.2 q hq n
    · rintro rfl
      rcases h with h | h
      · exact n h
      · omega⟩
theorem Kept.app {ps : List Nat} {S S' : Store} {xs : Store} (a : Kept ps S S') : Kept ps S (S' ++ xs) :=
  ⟨by rw [List.length_append]; exact Nat.le_trans a.1 (Nat.le_add_right _ _), fun q h n => by rw [List.getElem?_append_left (Nat.lt_of_lt_of_le h a.1)]; exact a.2 q h n⟩
theorem at_set {S : Store} {p : Nat} {xs : List D} (h : p < S.length) : At (S.set p (some (.lst xs))) p xs := by
  unfold At; rw [List.getElem?_set_self h]
theorem at_app {S : Store} {xs : List D} : At (S ++ [some (.lst xs)]) S.length xs := by
  unfold At; simp
theorem get_set {S : Store} {p : Nat} {u : Option Cell} (h : p < S.length) : (S.set p u)[p]? = some u := List.getElem?_set_self h
theorem get_app {S : Store} {u : Option Cell} : (S ++ [u])[S.length]? = some u := by simp
theorem lt_app {S : Store} {u : Option Cell} : (S.length < (S ++ [u]).length) = True := by simp
theorem set_app {S : Store} {u v : Option Cell} : (S ++ [u]).set S.length v = S ++ [v] := by simp
end DL

/-! DLq: the drawing of numbers from a pen that is a list. -/
namespace DL
open PySem PySem.Spec PyProof.Rows L2
local macro_rules | `(tactic| walk_at "sx") => `(tactic| simp (implicitDefEqProofs := false) only [grd_t, grd_grd, x_ok, x_exc, x_bad, x_grd, x_ite, wipeD, shp_int, shp_bl, shp_non, shp_str, shp_tup, shp_lst, shps_nil, shps_cons, shps_ints, eqDs_nil, eqDs_cons, eqDs_cn, eqDs_nc, eqDs_ints, eqD_int, eqD_bl, eqD_str, eqD_tup, eqD_lst, eqD_non, eqD_nt, eqD_tn, eqD_ni, eqD_in, for_nil, lc_nil, get_set, get_app, lt_app, set_app, still_no, still_eq, List.set_set, List.map_cons, List.map_nil, List.cons_append, List.nil_append, List.replicate_succ, List.replicate_zero, List.length_cons, List.length_nil, List.length_map, List.length_set, List.getElem?_cons_zero, List.getElem?_cons_succ, List.set_cons_zero, List.set_cons_succ, Nat.reduceSub, Nat.reduceAdd, Nat.reduceLeDiff, Nat.zero_add, Int.reduceLT, Int.reduceLE, Int.reduceNeg, Int.reduceToNat, Int.reduceSub, Int.reduceAdd, true_and, and_true, and_self, true_or, or_true, forall_const, decide_true, decide_false, Bool.and_true, Bool.true_and, Bool.and_false, Bool.false_and, Bool.not_true, Bool.not_false, if_true, if_false, Bool.false_eq_true, Bool.true_eq_false, reduceCtorEq, eq_self, Option.isSome_some, true_implies, false_implies, implies_true, not_true_eq_false, not_false_eq_true, Bool.not_eq_true, decide_eq_true_eq, decide_eq_false_iff_not, Bool.not_eq_true', Bool.not_eq_false, lkR_s, gvR_s, cfR_s, clR_s, lkW_s, w_var, w_frz, w_revx, wr_enum, wr_zip, k_rev, k_en, k_zi2, k_zi1, w_int, w_str, w_bl, w_non, w_glob, w_tup, w_lst, w_bin, w_cmp, w_ix, w_neg, w_not, w_boo, wb_one, wb_cons, w_chain, w_ife, w_slc, w_call, w_bi, w_isi, w_meth, w_lc, wl_nil, wl_cons, wo_none, wo_some, wi_nil, wi_one, wr_ex, wr_rng1, wr_rng2, k_tup, k_mkf, k_mkt, x_mkf, x_mkt, k_l2, k_l1, k_bin2, k_bin1, k_cmp2, k_cmp1, k_ix2, k_ix1, k_neg, k_bl, k_not, k_boo, k_ch3, k_ch2, k_ch1, k_ife, k_sl3, k_sl2, k_sl1, k_call, k_bi, k_isi, k_me2, k_me1, k_lc, k_in, k_wk, k_rg2, k_rg1, k_x, btW_s, k_asg, k_s4, k_s3, k_s2, k_s1, k_exp, k_ret, k_if, k_Kt, k_Ktf, k_Kft, k_Ct, k_Cf, k_Wt, k_Wf, k_St, k_Sf, k_for, q_N, q_B, q_C, q_T, q_X, f_N, f_T, f_X, o_N, o_B, o_C, o_T, o_X, ws_cons, ws_nil, w1_asg, w1_set, w1_expr, w1_ret0, w1_ret, w1_ife, w1_for, w1_while, w1_pass, w1_brk, w1_cont, w1_set2, k_t2, k_two, k_twoX, w_fnv, w_callv, k_cv, jvR_s, dcR_d, dcR_f, dwR_d, w_dnew, w_dget, w_din, w_dm1, w_dm2, w_lockv, lkD_l, lkC_d, wr_keys, k_ky, ky_l, kyC_f, k_dg1, k_dg2, k_di1, k_di2, k_m11, k_m12, k_m21, k_m22, k_m23, k_unE, dict_cO, dcO_d, dcO_f, dg_c, dg_i, dg_s, di_c, di_i, di_s, m1_get, m1_gi, m1_gs, m1_pi, m1_ps, m2_get, m2_gi, m2_gs, m2_pi, m2_ps, sdR_s, sdR_n, m2_si, m2_ss, dp_i, dp_s, dl_c, k_p1, k_p2, k_p3, w1_dput, w1_lockv, u_N, u_T, u_B, u_C, e_add_ii, e_sub_ii, e_mul_ii, e_fdiv_ii, e_mod_ii, e_shl_ii, e_add_ss, e_add_tt, e_add_ll, e_add_cl, e_add_lc, e_add_cc, e_mul_li, e_lt, e_le, e_gt, e_ge, e_eq_ii, e_ne_ii, e_eq_ss, e_ne_ss, e_eq, e_ne, e_isN_n, e_isN_i, e_isN_b, e_isN_s, e_isN_t, e_isN_l, e_isN_c, e_notN_n, e_notN_i, e_notN_b, e_notN_s, e_notN_t, e_notN_l, e_notN_c, e_ix_t, e_ix_ct, e_ix_l, e_ix_s, gsR_s, e_ix_x, e_ix_c, e_sl_x, e_mul_si, e_add_ccp, e_sl_ctp, e_repr, e_repr_i, poR_s, e_pop_c, e_split, e_rc_pop_c, e_rc_split, e_rev_t, e_rev_l, e_rev_s, e_rev_c, frR_l, frR_d, e_frz_c, e_frz_d, e_dictD_c, e_dictD_d, e_listD_c, e_listD_d, e_sortK_d, e_sortK_c, dpR_s, e_dictP_l, e_lt_ss, e_en_x, e_ky_d, e_dlen_d, e_dc_d, te_N, te_B, te_C, te_T, te_X, w1_tryElse, w_lenSet, w_sortSet, k_ls, k_ss, ls_e, ss_e, skR_s, sqR_s, sd_t, sd_l, sd_x, asKeys_strs, asKeys_ints, w1_tryElse, wr_rng3, k_r31, k_r32, k_r33, e_frz_l, e_frz_t, e_frz_i, e_frz_x, e_frz_n, e_frz_b, e_frz_s, e_en_t, e_en_ct, e_en_l, e_en_c, e_zi_tt, e_zi_ll, e_inn_l, e_nin_l, e_inn_t, e_nin_t, e_idx_l, nsR_s, asStrs_map, e_join_l, any_strs, shps_strs, e_sl_t, e_sl_l, e_sl_s, e_sl_c, e_len_t, e_len_l, e_len_s, e_len_c, e_len_x, e_abs, e_max2, e_max3, e_min2, e_tupn_l, e_len_c2, e_sortI_l, e_tuple_t, e_tuple_l, e_tuple_s, e_tuple_c, e_list_t, e_list_l, e_list_s, e_list_c, e_int_i, e_int_b, asInts_map, asBls_map, niR_s, nbR_s, asInts_nil, asInts_cons, asBls_nil, asBls_cons, omap_some, e_maxL_l, e_maxL_s, e_maxL_c, e_minL_l, e_minL_s, e_minL_c, e_sumL_l, e_sumL_s, e_sumL_c, e_anyL_l, e_anyL_s, e_anyL_c, e_allL_l, e_allL_s, e_allL_c, e_app, e_ext_l, e_rc_append_c, e_rc_append_l, e_rc_extend_c, e_rc_extend_l, e_rc_index_c, e_rc_index_l, e_inn_c, e_nin_c, e_cnt_c, e_cnt_l, e_rc_tcnt, e_rc_count_l, e_rc_join, e_lc, e_set, e_wk_t, e_wk_ct, e_wk_l, e_wk_s, e_wk_c, e_rg, rng00, rng01, rng02, rng03, rng04, rng05, rng06, at0, at1, at2, at3, at4, at5, at6, at7, px1_0, pxm1, px2_0, px2_1, pxm2, px3_0, px3_1, px3_2, pxm3, px4_0, px4_1, px4_2, px4_3, pxm4, px5_0, px5_1, px5_2, px5_3, px5_4, pxm5, px6_0, px6_1, px6_2, px6_3, px6_4, px6_5, pxm6, px7_0, px7_1, px7_2, px7_3, px7_4, px7_5, px7_6, pxm7, atm1, e_pow18, neg_i, in_i, ty_s, u_lc, u_nil, u_bt, u_kv, u_ku, u_kut, u_kuf, u_cons, u_fbt, u_oN, u_oC, u_oB, u_oT, u_oX, clq_s, pxR_s, nc_0, nc_1, nc_2, nc_3, nc_4, nc_5, nc_6, nc_7, nc_8, nc_9, nc_10, nc_11, nc_12, bt_nm, bt_tt, bt_tl, bts_n, bts_c, btsR_s, e_isB, e_notB, ty_loc, ty_n, ty_b, ty_i, ty_st, ty_t, ty_l, ty_x, tys_n, tys_c, tyo_t, tyo_f, e_pow2, e_pow6, e_pow12, e_pow30, e_pow57, e_pow60, w_isiT, k_isiT, w1_raise, tt_N, tt_B, tt_C, tt_T, tt_X, w1_tryTwo, ttF_s, w_isX, k_isX, w_isVE, k_isVE, w_attr, k_at, w_ddisp, k_dd, w_stp, k_st1, k_st2, w_ddispE, k_de, de_s, un_nil, un_s, un_i, w_lrng, k_lr1, k_lr2, w_tupN, k_tupN, w_weak, k_weak, weak_t, weak_c, weak_l, weak_i, weak_s, weak_n, weak_b, weakL_n, weakL_c, ty_locD, w1_raiseX, k_rs, w1_tryNote, w1_tryOnly, tn_N, tn_B, tn_C, tn_T, tn_X, to_N, to_B, to_C, to_T, to_X, ixx_t, ixx_f, isx_e, isv_e, ini_no, ini_1, ini_2, ini_l, lr_ii, dd_s, w_deq, k_dq1, k_dq2, k_vy, wr_vals, vy_l, vyC_f, e_insert, e_rc_insert, w_fld, k_fld, fld_loc, icR_s, w1_fput, k_fp1, k_fp2, fput_loc, w_mcall, k_mc1, mc_loc, icW_s, k_mc2, w_make, k_mke, nonW_n, w1_lockf, w_lockf, w1_lockg, w_lockg, w1_lockx, w_lockx, k_lkS, k_lkE, *])
local macro_rules | `(tactic| walk_at "sp") => `(tactic| first | refine it_S (fun h => ?_) (fun h => ?_) <;> simp only [decide_eq_true_eq, decide_eq_false_iff_not, Bool.and_eq_true, Bool.and_eq_false_iff, Bool.or_eq_true, Bool.or_eq_false_iff, Bool.not_eq_true', Bool.not_eq_false', Bool.false_eq_true, Bool.true_eq_false, reduceCtorEq] at h | refine it_Kt (fun h => ?_) (fun h => ?_) <;> simp only [decide_eq_true_eq, decide_eq_false_iff_not, Bool.and_eq_true, Bool.and_eq_false_iff, Bool.or_eq_true, Bool.or_eq_false_iff, Bool.not_eq_true', Bool.not_eq_false', Bool.false_eq_true, Bool.true_eq_false, reduceCtorEq] at h | refine it_Kf (fun h => ?_) (fun h => ?_) <;> simp only [decide_eq_true_eq, decide_eq_false_iff_not, Bool.and_eq_true, Bool.and_eq_false_iff, Bool.or_eq_true, Bool.or_eq_false_iff, Bool.not_eq_true', Bool.not_eq_false', Bool.false_eq_true, Bool.true_eq_false, reduceCtorEq] at h | refine it_C (fun h => ?_) (fun h => ?_) <;> simp only [decide_eq_true_eq, decide_eq_false_iff_not, Bool.and_eq_true, Bool.and_eq_false_iff, Bool.or_eq_true, Bool.or_eq_false_iff, Bool.not_eq_true', Bool.not_eq_false', Bool.false_eq_true, Bool.true_eq_false, reduceCtorEq] at h | refine it_W (fun h => ?_) (fun h => ?_) <;> simp only [decide_eq_true_eq, decide_eq_false_iff_not, Bool.and_eq_true, Bool.and_eq_false_iff, Bool.or_eq_true, Bool.or_eq_false_iff, Bool.not_eq_true', Bool.not_eq_false', Bool.false_eq_true, Bool.true_eq_false, reduceCtorEq] at h | refine it_L (fun h => ?_) (fun h => ?_) <;> simp only [decide_eq_true_eq, decide_eq_false_iff_not, Bool.and_eq_true, Bool.and_eq_false_iff, Bool.or_eq_true, Bool.or_eq_false_iff, Bool.not_eq_true', Bool.not_eq_false', Bool.false_eq_true, Bool.true_eq_false, reduceCtorEq] at h)
local macro_rules | `(tactic| walk_at "sa") => `(tactic| (walk_at "sx"; repeat (walk_at "sp" <;> (try walk_at "sx"))))
/-- the pen at p -/
def PenAt (S : Store) (p : Nat) : Prop := ∃ (ns : List Int) (i l : Int), S[p]? = some (some (.lst [.lst (ns.map .int), .int i, .int l])) ∧ 0 ≤ i ∧ 0 ≤ l ∧ ns.length ≤ 63
theorem PenAt.lt {S : Store} {p : Nat} (h : PenAt S p) : p < S.length := by
  obtain ⟨_, _, _, h, _⟩ := h
  exact At.lt h
theorem Kept.pen {ps : List Nat} {S S' : Store} {q : Nat} (a : Kept ps S S') (h : PenAt S q) (n : q ∉ ps) : PenAt S' q := by
  obtain ⟨ns, i, l, h, h2⟩ := h
  exact ⟨ns, i, l, a.at h n, h2⟩
theorem PenAt.app {S : Store} {p : Nat} {xs : Store} (h : PenAt S p) : PenAt (S ++ xs) p := by
  obtain ⟨ns, i, l, h, h2⟩ := h
  exact ⟨ns, i, l, by rw [List.getElem?_append_left (At.lt h)]; exact h, h2⟩
theorem PenAt.set {S : Store} {p q : Nat} {u : Option Cell} (h : PenAt S p) (n : q ≠ p) : PenAt (S.set q u) p := by
  obtain ⟨ns, i, l, h, h2⟩ := h
  exact ⟨ns, i, l, by rw [List.getElem?_set_ne n]; exact h, h2⟩
def b_pen_of : List Sm := [
  .ret (some (.lst true [.bi .list false [.slc false (.var 0) none (some (.int 63))], .int 0, .int 0]))]
noncomputable def f_pen_of : Fn := fnOf ⟨[], [], []⟩ 1 1 b_pen_of
def b_draw : List Sm := [
  .ife (.cmp .gt (.ix (.var 0) (.int 2)) (.int 0)) [
    .asg (.nm 5) (.bin .mod false (.ix (.var 0) (.int 2)) (.var 1)),
    .setIx (.var 0) (.int 2) (.bin .fdiv false (.ix (.var 0) (.int 2)) (.var 1)),
    .ret (some (.var 5))] [],
  .asg (.nm 2) (.ix (.var 0) (.int 1)),
  .setIx (.var 0) (.int 1) (.bin .add false (.var 2) (.int 1)),
  .asg (.nm 3) (.int 23),
  .ife (.cmp .gt (.bi .len false [.ix (.var 0) (.int 0)]) (.int 0)) [
    .asg (.nm 3) (.ix (.ix (.var 0) (.int 0)) (.bin .mod false (.var 2) (.bi .len false [.ix (.var 0) (.int 0)])))] [],
  .ife (.boo true [.cmp .lt (.var 2) (.bi .len false [.ix (.var 0) (.int 0)]), .cmp .ge (.bi .abs false [.var 3]) (.bin .pow false (.int 10) (.int 18))]) [
    .setIx (.var 0) (.int 2) (.bin .fdiv false (.bi .abs false [.var 3]) (.var 1)),
    .ret (some (.bin .mod false (.bi .abs false [.var 3]) (.var 1)))] [],
  .asg (.nm 4) (.bin .mod false (.bin .mul false (.bin .add false (.bin .add false (.bin .mod false (.var 3) (.int 2147483629)) (.bin .mul false (.int 69403) (.var 2))) (.int 47)) (.int 48271)) (.int 2147483647)),
  .asg (.nm 4) (.bin .mod false (.bin .mul false (.bin .mod false (.bin .add false (.bin .mul false (.var 4) (.var 4)) (.bin .mul false (.int 69621) (.var 2))) (.int 2147483587)) (.bin .add false (.bin .mod false (.var 4) (.int 32749)) (.int 3))) (.int 2147483563)),
  .ret (some (.bin .mod false (.bin .fdiv false (.var 4) (.int 32)) (.var 1)))]
noncomputable def f_draw : Fn := fnOf ⟨[], [], []⟩ 6 2 b_draw
theorem pen_of_ok {ns : List Int} {S : Store} (hn : ns.length ≤ 63) {X : XD} {Q : QD} (h : ∀ S', PenAt S' S.length → Kept [] S S' → Q (.loc S.length) S') : (f_pen_of [.scr ns] S).satx X Q := by
  have hc : cutD (ns.map D.int) none (some 63) = ns.map D.int := by
    unfold cutD HT.sIx
    simp only [List.length_map]
    rw [show ((if (63 : Int) < 0 then ((63 : Int) + (ns.length : Int)).toNat else min (63 : Int).toNat ns.length)) = ns.length by rw [if_neg (by omega)]; omega]
    exact List.take_of_length_le (by simp)
  refine fn_sx rfl ?_
  unfold b_pen_of
  walk_at "sx"
  exact ⟨by omega, by omega, h _ ⟨ns, 0, 0, at_app, by omega, by omega, hn⟩ (Kept.app (Kept.refl _ _))⟩
theorem draw_ok {S : Store} {p : Nat} {m : Int} (hp : PenAt S p) (h0 : 0 < m) (h1 : m < 1073741824) {X : XD} {Q : QD}
    (h : ∀ k S', 0 ≤ k → k < m → PenAt S' p → Kept [p] S S' → Q (.int k) S') : (f_draw [.loc p, .int m] S).satx X Q := by
  obtain ⟨ns, i, l, hp, hi, hl, hn⟩ := hp
  have hlt := At.lt hp
  have em (x : Int) : 0 ≤ x % m ∧ x % m < m := ⟨Int.emod_nonneg x (by omega), Int.emod_lt_of_pos x h0⟩
  have fin : ∀ (k : Int) (i' : Int) (l' : Int), 0 ≤ k → k < m → 0 ≤ i' → 0 ≤ l' → Q (.int k) (S.set p (some (.lst [.lst (ns.map .int), .int i', .int l']))) := fun k i' l' a b c' c =>
    h k _ a b ⟨ns, i', l', at_set hlt, c', c, hn⟩ ((Kept.refl _ _).set (.inl (by simp)))
  have big : ∀ c : Int, (-18446744073709551616 < (c % 2147483629 + 69403 * i + 47) * 48271 % 2147483647 ∧
        (c % 2147483629 + 69403 * i + 47) * 48271 % 2147483647 < 18446744073709551616 ∨
      -18446744073709551616 < (c % 2147483629 + 69403 * i + 47) * 48271 % 2147483647 ∧
        (c % 2147483629 + 69403 * i + 47) * 48271 % 2147483647 < 18446744073709551616) := fun c => by omega
  have h1b : m < 18446744073709551616 := by omega
  refine fn_sx rfl ?_
  unfold b_draw
  by_cases hl0 : 0 < l
  · walk_at "sa"
    exact fin _ i _ (em l).1 (em l).2 hi (Int.ediv_nonneg hl (by omega))
  · by_cases hns : 0 < ns.length
    · obtain ⟨c, hc⟩ : ∃ c, atI (ns.map D.int) (i % (ns.length : Int)) = some (.int c) := by
        have h1 := Int.emod_nonneg i (b := (ns.length : Int)) (by omega)
        have h2 := Int.emod_lt_of_pos i (b := (ns.length : Int)) (by omega)
        unfold atI ixN
        rw [List.length_map, if_pos h1, if_pos h2]
        simp only [Option.bind_some]
        rw [List.getElem?_map, List.getElem?_eq_getElem (show (i % (ns.length : Int)).toNat < ns.length by omega)]
        exact ⟨_, rfl⟩
      have hns' : (0 : Int) < (ns.length : Int) := by omega
      walk_at "sa"
      · exact fin _ (i + 1) _ (em _).1 (em _).2 (by omega) (Int.ediv_nonneg (by split <;> omega) (by omega))
      all_goals exact ⟨by omega, fin _ (i + 1) _ (em _).1 (em _).2 (by omega) hl⟩
    · have hns' : ¬ (0 : Int) < (ns.length : Int) := by omega
      have hi' : ¬ i < (ns.length : Int) := by omega
      walk_at "sa"
      exact ⟨by omega, fin _ (i + 1) _ (em _).1 (em _).2 (by omega) hl⟩
end DL

/-! DLv: values of expressions found as they are reckoned; comprehensions. -/
namespace DL
open PySem PySem.Spec PyProof.Rows L2
/-- it is this value, no store was changed -/
def kEq (v : D) (S₀ : Store) : QD := fun r S => r = v ∧ S = S₀
def kEqB (v : Bool) (S₀ : Store) : Bool → Store → Prop := fun r S => r = v ∧ S = S₀
theorem kEq_i {v : D} {S : Store} : kEq v S v S := ⟨rfl, rfl⟩
theorem kEqB_i {v : Bool} {S : Store} : kEqB v S v S := ⟨rfl, rfl⟩
section
variable {Γ : Gm} {ρ : EnvD} {S : Store} {X : XD} {Q : QD} {P : Po}
theorem w_val {e : Ex} {v : D} (h : W Γ e ρ S noX (kEq v S)) (q : Q v S) : W Γ e ρ S X Q := by
  unfold W at *
  exact x_impn h fun a S' ⟨e1, e2⟩ => by subst e1 e2; exact q
theorem wb_val {k : Bool} {es : List Ex} {v : D} (h : WB Γ k es ρ S noX (kEq v S)) (q : Q v S) : WB Γ k es ρ S X Q := by
  unfold WB at *
  exact x_impn h fun a S' ⟨e1, e2⟩ => by subst e1 e2; exact q
theorem it_KtV {b c : Bool} {r : List Ex} (h : b = true → WB Γ true r ρ S noX (kEq (.bl c) S)) (q : Q (.bl (b && c)) S) : iteK b true Γ r ρ S X Q := by
  cases b with
  | true => exact it_Kt (fun _ => wb_val (h rfl) q) fun z => nomatch z
  | false => exact it_Kt (fun z => nomatch z) fun _ => q
theorem it_KfV {b c : Bool} {r : List Ex} (h : b = false → WB Γ false r ρ S noX (kEq (.bl c) S)) (q : Q (.bl (b || c)) S) : iteK b false Γ r ρ S X Q := by
  cases b with
  | false => exact it_Kf (fun _ => wb_val (h rfl) q) fun z => nomatch z
  | true => exact it_Kf (fun z => nomatch z) fun _ => q
theorem it_CV {b c : Bool} {o' : COp} {y : D} {d : Ex} (h : b = true → W Γ d ρ S noX (kCmp2 o' y noX (kEq (.bl c) S))) (q : Q (.bl (b && c)) S) : iteC b Γ o' y d ρ S X Q := by
  cases b with
  | true =>
    refine ⟨fun _ => ?_, fun z => nomatch z⟩
    have := h rfl
    unfold W at *
    refine x_impn this fun a S' hh => ?_
    unfold kCmp2 at *
    exact x_impn hh fun a S' ⟨e1, e2⟩ => by subst e1 e2; exact q
  | false => exact ⟨fun z => (nomatch z), fun _ => q⟩
theorem it_WVi {t : Bool} {a b : Ex} {u v : Int} (h1 : t = true → W Γ a ρ S noX (kEq (.int u) S)) (h2 : t = false → W Γ b ρ S noX (kEq (.int v) S)) (q : Q (.int (if t = true then u else v)) S) : iteW t Γ a b ρ S X Q := by
  cases t with
  | true => exact ⟨fun _ => w_val (h1 rfl) q, fun z => nomatch z⟩
  | false => exact ⟨fun z => (nomatch z), fun _ => w_val (h2 rfl) q⟩
theorem it_WV {t : Bool} {a b : Ex} {u v : D} (h1 : t = true → W Γ a ρ S noX (kEq u S)) (h2 : t = false → W Γ b ρ S noX (kEq v S)) (q : Q (if t = true then u else v) S) : iteW t Γ a b ρ S X Q := by
  cases t with
  | true => exact ⟨fun _ => w_val (h1 rfl) q, fun z => nomatch z⟩
  | false => exact ⟨fun z => (nomatch z), fun _ => w_val (h2 rfl) q⟩
/-- if t: x = e -/
theorem it_SA {t : Bool} {i : Nat} {e : Ex} {u v : Int} (ho : ρ[i]? = some (some (.int v))) (h1 : t = true → W Γ e ρ S noX (kEq (.int u) S)) (q : ∀ w, (if t = true then u else v) = w → P.N (ρ.set i (some (.int w))) S) : iteS t Γ [.asg (.nm i) e] [] ρ S P := by
  replace q := q _ rfl
  cases t with
  | true =>
    refine it_S (fun _ => ?_) fun z => nomatch z
    rw [ws_cons, w1_asg]
    refine w_val (h1 rfl) ?_
    rw [k_asg]
    simp only [bindTg, btW_s, q_N, ws_nil]
    simpa using q
  | false =>
    refine it_S (fun z => nomatch z) fun _ => ?_
    rw [ws_nil]
    have : ρ.set i (some (.int v)) = ρ := by
      apply List.ext_getElem?
      intro j
      by_cases h : i = j
      · subst h
        rw [List.getElem?_set_self ((List.getElem?_eq_some_iff.1 ho).1), ho]
      · rw [List.getElem?_set_ne h]
    simp only [Bool.false_eq_true, if_false] at q
    rwa [this] at q
theorem it_SAD {t : Bool} {i : Nat} {e : Ex} {u v : D} (ho : ρ[i]? = some (some v)) (h1 : t = true → W Γ e ρ S noX (kEq u S)) (q : ∀ w, (if t = true then u else v) = w → P.N (ρ.set i (some w)) S) : iteS t Γ [.asg (.nm i) e] [] ρ S P := by
  replace q := q _ rfl
  cases t with
  | true =>
    refine it_S (fun _ => ?_) fun z => nomatch z
    rw [ws_cons, w1_asg]
    refine w_val (h1 rfl) ?_
    rw [k_asg]
    simp only [bindTg, btW_s, q_N, ws_nil]
    simpa using q
  | false =>
    refine it_S (fun z => nomatch z) fun _ => ?_
    rw [ws_nil]
    have : ρ.set i (some v) = ρ := by
      apply List.ext_getElem?
      intro j
      by_cases h : i = j
      · subst h
        rw [List.getElem?_set_self ((List.getElem?_eq_some_iff.1 ho).1), ho]
      · rw [List.getElem?_set_ne h]
    simp only [Bool.false_eq_true, if_false] at q
    rwa [this] at q
theorem it_SAB {t : Bool} {i : Nat} {e : Ex} {u v : Bool} (ho : ρ[i]? = some (some (.bl v))) (h1 : t = true → W Γ e ρ S noX (kEq (.bl u) S)) (q : ∀ w, (if t = true then u else v) = w → P.N (ρ.set i (some (.bl w))) S) : iteS t Γ [.asg (.nm i) e] [] ρ S P :=
  it_SAD ho h1 fun w hw => by
    have e : (if t = true then D.bl u else D.bl v) = D.bl (if t = true then u else v) := by split <;> rfl
    rw [e] at hw
    subst hw
    exact q _ rfl
variable {tg : Tg} {ifs : List Ex} {elt : Ex} {g : Option Nat} {QL : List D → Store → Prop}
theorem lcV {α : Type} {mk : α → D} {p : α → Bool} {f : α → D} {ρ1 : α → EnvD} {xs : List α} (hl : xs.length ≤ 16777216) (hb : ∀ x, bindTg tg (mk x) ρ = some (ρ1 x))
    (hp : ∀ x, x ∈ xs → WI Γ ifs (ρ1 x) S noX (kEqB (p x) S)) (hf : ∀ x, x ∈ xs → p x = true → W Γ elt (ρ1 x) S noX (kEq (f x) S)) (q : QL ((xs.filter p).map f) S) : (LcR Γ tg ifs elt g S ρ (xs.map mk) S).satx X QL :=
  lc_mapd p f hl (fun x hx => ⟨_, hb x, hp x hx, hf x hx⟩) q
theorem lcV0 {α : Type} {mk : α → D} {ρ1 : α → EnvD} {xs : List α} (hl : xs.length ≤ 16777216) (hb : ∀ x, bindTg tg (mk x) ρ = some (ρ1 x))
    (hp : ∀ x, x ∈ xs → WI Γ ifs (ρ1 x) S noX (kEqB false S)) (q : QL [] S) : (LcR Γ tg ifs elt g S ρ (xs.map mk) S).satx X QL :=
  lcV (p := fun _ => false) (f := fun _ => .non) hl hb hp (fun _ _ h => nomatch h) (by rw [show xs.filter (fun _ => false) = [] by simp]; exact q)
theorem lcV1 {α : Type} {mk : α → D} {f : α → D} {ρ1 : α → EnvD} {xs : List α} (hl : xs.length ≤ 16777216) (hb : ∀ x, bindTg tg (mk x) ρ = some (ρ1 x))
    (hf : ∀ x, x ∈ xs → W Γ elt (ρ1 x) S noX (kEq (f x) S)) (q : QL (xs.map f) S) : (LcR Γ tg [] elt g S ρ (xs.map mk) S).satx X QL := by
  refine lc_mapd (fun _ => true) f hl (fun x hx => ⟨_, hb x, ?_, fun _ => hf x hx⟩) ?_
  · rw [wi_nil]; exact ⟨rfl, rfl⟩
  · rw [List.filter_eq_self.2 fun _ _ => rfl]; exact q
theorem lcVi {α : Type} {mk : α → D} {p : α → Bool} {f : α → Int} {ρ1 : α → EnvD} {xs : List α} (hl : xs.length ≤ 16777216) (hb : ∀ x, bindTg tg (mk x) ρ = some (ρ1 x))
    (hp : ∀ x, x ∈ xs → WI Γ ifs (ρ1 x) S noX (kEqB (p x) S)) (hf : ∀ x, x ∈ xs → p x = true → W Γ elt (ρ1 x) S noX (kEq (.int (f x)) S)) (q : QL (((xs.filter p).map f).map D.int) S) : (LcR Γ tg ifs elt g S ρ (xs.map mk) S).satx X QL :=
  lcV (f := fun x => .int (f x)) hl hb hp hf (by rw [List.map_map] at q; exact q)
theorem lcV1i {α : Type} {mk : α → D} {f : α → Int} {ρ1 : α → EnvD} {xs : List α} (hl : xs.length ≤ 16777216) (hb : ∀ x, bindTg tg (mk x) ρ = some (ρ1 x))
    (hf : ∀ x, x ∈ xs → W Γ elt (ρ1 x) S noX (kEq (.int (f x)) S)) (q : QL ((xs.map f).map D.int) S) : (LcR Γ tg [] elt g S ρ (xs.map mk) S).satx X QL :=
  lcV1 (f := fun x => .int (f x)) hl hb hf (by rw [List.map_map] at q; exact q)
theorem lcV1b {α : Type} {mk : α → D} {f : α → Bool} {ρ1 : α → EnvD} {xs : List α} (hl : xs.length ≤ 16777216) (hb : ∀ x, bindTg tg (mk x) ρ = some (ρ1 x))
    (hf : ∀ x, x ∈ xs → W Γ elt (ρ1 x) S noX (kEq (.bl (f x)) S)) (q : QL ((xs.map f).map D.bl) S) : (LcR Γ tg [] elt g S ρ (xs.map mk) S).satx X QL :=
  lcV1 (f := fun x => .bl (f x)) hl hb hf (by rw [List.map_map] at q; exact q)
end
theorem en_map {α : Type} {mk : α → D} {xs : List α} : enD (xs.map mk) = xs.zipIdx.map fun p => D.tup [.int (p.2 : Nat), mk p.1] := by
  unfold enD
  rw [List.zipIdx_map, List.map_map]
  rfl
theorem zi_map {α β : Type} {mk : α → D} {mk' : β → D} {xs : List α} {ys : List β} : ziD (xs.map mk) (ys.map mk') = (xs.zip ys).map fun p => D.tup [mk p.1, mk' p.2] := by
  unfold ziD
  rw [List.zip_map, List.map_map]
  rfl
theorem atI_map {α : Type} {mk : α → D} {xs : List α} {k : Int} : atI (xs.map mk) k = (atI xs k).map mk := by
  unfold atI
  rw [List.length_map]
  cases ixN xs.length k with
  | none => rfl
  | some j => simp
theorem atI_in {α : Type} {xs : List α} {k : Int} (h0 : 0 ≤ k) (h : k < xs.length) : atI xs k = some (xs[k.toNat]'(by omega)) := by
  unfold atI ixN
  rw [if_pos h0, if_pos h]
  simp only [Option.bind_some]
  rw [List.getElem?_eq_getElem (by omega)]
theorem rngD_get {lo hi : Int} {i : Nat} {x : D} (h : (rngD lo hi)[i]? = some x) : x = .int (lo + (i : Nat)) ∧ lo + (i : Nat) < hi := by
  rw [rngD_eq, List.getElem?_map] at h
  unfold rngI at h
  rw [List.getElem?_map] at h
  cases e : (List.range (hi - lo).toNat)[i]? with
  | none => rw [e] at h; cases h
  | some j =>
    rw [e] at h
    have hj := (List.getElem?_eq_some_iff.1 e)
    obtain ⟨h1, h2⟩ := hj
    simp at h1 h2
    subst h2
    cases h
    exact ⟨rfl, by omega⟩
theorem map_get {α : Type} {mk : α → D} {xs : List α} {i : Nat} {x : D} (h : (xs.map mk)[i]? = some x) : ∃ a, xs[i]? = some a ∧ x = mk a := by
  rw [List.getElem?_map] at h
  cases e : xs[i]? with
  | none => rw [e] at h; cases h
  | some a => rw [e] at h; cases h; exact ⟨a, rfl, rfl⟩
theorem pureL_map {α : Type} {mk : α → D} (h : ∀ a, (mk a).pure = true) : ∀ xs : List α, D.pureL (xs.map mk) = true
  | [] => by simp [D.pureL]
  | x :: r => by rw [List.map_cons, D.pureL, h x, pureL_map h r]; rfl
theorem ziD_c (x y : D) (xs ys : List D) : ziD (x :: xs) (y :: ys) = .tup [x, y] :: ziD xs ys := rfl
theorem ziD_n (ys : List D) : ziD [] ys = [] := rfl
theorem ziD_n2 (ys : List D) : ziD ys [] = [] := by cases ys <;> rfl
theorem enD_n : enD [] = [] := rfl
end DL

section
open PySem PySem.Spec PyProof.Rows L2 DL
local macro_rules | `(tactic| simp_arith [$xs,*]) => `(tactic| simp (implicitDefEqProofs := false) only [grd_t, grd_grd, x_ok, x_exc, x_bad, x_grd, x_ite, wipeD, shp_int, shp_bl, shp_non, shp_str, shp_tup, shp_lst, shps_nil, shps_cons, shps_ints, eqDs_nil, eqDs_cons, eqDs_cn, eqDs_nc, eqDs_ints, eqD_int, eqD_bl, eqD_str, eqD_tup, eqD_lst, eqD_non, eqD_nt, eqD_tn, eqD_ni, eqD_in, for_nil, lc_nil, get_set, get_app, lt_app, set_app, still_no, still_eq, List.set_set, List.map_cons, List.map_nil, List.cons_append, List.nil_append, List.replicate_succ, List.replicate_zero, List.length_cons, List.length_nil, List.length_map, List.length_set, List.getElem?_cons_zero, List.getElem?_cons_succ, List.set_cons_zero, List.set_cons_succ, Nat.reduceSub, Nat.reduceAdd, Nat.reduceLeDiff, Nat.zero_add, Int.reduceLT, Int.reduceLE, Int.reduceNeg, Int.reduceToNat, Int.reduceSub, Int.reduceAdd, true_and, and_true, and_self, true_or, or_true, forall_const, decide_true, decide_false, Bool.and_true, Bool.true_and, Bool.and_false, Bool.false_and, Bool.not_true, Bool.not_false, if_true, if_false, Bool.false_eq_true, Bool.true_eq_false, reduceCtorEq, eq_self, Option.isSome_some, true_implies, false_implies, implies_true, not_true_eq_false, not_false_eq_true, Bool.not_eq_true, decide_eq_true_eq, decide_eq_false_iff_not, Bool.not_eq_true', Bool.not_eq_false, lkR_s, gvR_s, cfR_s, clR_s, lkW_s, w_var, w_frz, w_revx, wr_enum, wr_zip, k_rev, k_en, k_zi2, k_zi1, w_int, w_str, w_bl, w_non, w_glob, w_tup, w_lst, w_bin, w_cmp, w_ix, w_neg, w_not, w_boo, wb_one, wb_cons, w_chain, w_ife, w_slc, w_call, w_bi, w_isi, w_meth, w_lc, wl_nil, wl_cons, wo_none, wo_some, wi_nil, wi_one, wr_ex, wr_rng1, wr_rng2, k_tup, k_mkf, k_mkt, x_mkf, x_mkt, k_l2, k_l1, k_bin2, k_bin1, k_cmp2, k_cmp1, k_ix2, k_ix1, k_neg, k_bl, k_not, k_boo, k_ch3, k_ch2, k_ch1, k_ife, k_sl3, k_sl2, k_sl1, k_call, k_bi, k_isi, k_me2, k_me1, k_lc, k_in, k_wk, k_rg2, k_rg1, k_x, btW_s, k_asg, k_s4, k_s3, k_s2, k_s1, k_exp, k_ret, k_if, k_Kt, k_Ktf, k_Kft, k_Ct, k_Cf, k_Wt, k_Wf, k_St, k_Sf, k_for, q_N, q_B, q_C, q_T, q_X, f_N, f_T, f_X, o_N, o_B, o_C, o_T, o_X, ws_cons, ws_nil, w1_asg, w1_set, w1_expr, w1_ret0, w1_ret, w1_ife, w1_for, w1_while, w1_pass, w1_brk, w1_cont, w1_set2, k_t2, k_two, k_twoX, w_fnv, w_callv, k_cv, jvR_s, dcR_d, dcR_f, dwR_d, w_dnew, w_dget, w_din, w_dm1, w_dm2, w_lockv, lkD_l, lkC_d, wr_keys, k_ky, ky_l, kyC_f, k_dg1, k_dg2, k_di1, k_di2, k_m11, k_m12, k_m21, k_m22, k_m23, k_unE, dict_cO, dcO_d, dcO_f, dg_c, dg_i, dg_s, di_c, di_i, di_s, m1_get, m1_gi, m1_gs, m1_pi, m1_ps, m2_get, m2_gi, m2_gs, m2_pi, m2_ps, sdR_s, sdR_n, m2_si, m2_ss, dp_i, dp_s, dl_c, k_p1, k_p2, k_p3, w1_dput, w1_lockv, u_N, u_T, u_B, u_C, e_add_ii, e_sub_ii, e_mul_ii, e_fdiv_ii, e_mod_ii, e_shl_ii, e_add_ss, e_add_tt, e_add_ll, e_add_cl, e_add_lc, e_add_cc, e_mul_li, e_lt, e_le, e_gt, e_ge, e_eq_ii, e_ne_ii, e_eq_ss, e_ne_ss, e_eq, e_ne, e_isN_n, e_isN_i, e_isN_b, e_isN_s, e_isN_t, e_isN_l, e_isN_c, e_notN_n, e_notN_i, e_notN_b, e_notN_s, e_notN_t, e_notN_l, e_notN_c, e_ix_t, e_ix_ct, e_ix_l, e_ix_s, gsR_s, e_ix_x, e_ix_c, e_sl_x, e_mul_si, e_add_ccp, e_sl_ctp, e_repr, e_repr_i, poR_s, e_pop_c, e_split, e_rc_pop_c, e_rc_split, e_rev_t, e_rev_l, e_rev_s, e_rev_c, frR_l, frR_d, e_frz_c, e_frz_d, e_dictD_c, e_dictD_d, e_listD_c, e_listD_d, e_sortK_d, e_sortK_c, dpR_s, e_dictP_l, e_lt_ss, e_en_x, e_ky_d, e_dlen_d, e_dc_d, te_N, te_B, te_C, te_T, te_X, w1_tryElse, w_lenSet, w_sortSet, k_ls, k_ss, ls_e, ss_e, skR_s, sqR_s, sd_t, sd_l, sd_x, asKeys_strs, asKeys_ints, w1_tryElse, wr_rng3, k_r31, k_r32, k_r33, e_frz_l, e_frz_t, e_frz_i, e_frz_x, e_frz_n, e_frz_b, e_frz_s, e_en_t, e_en_ct, e_en_l, e_en_c, e_zi_tt, e_zi_ll, e_inn_l, e_nin_l, e_inn_t, e_nin_t, e_idx_l, nsR_s, asStrs_map, e_join_l, any_strs, shps_strs, e_sl_t, e_sl_l, e_sl_s, e_sl_c, e_len_t, e_len_l, e_len_s, e_len_c, e_len_x, e_abs, e_max2, e_max3, e_min2, e_tupn_l, e_len_c2, e_sortI_l, e_tuple_t, e_tuple_l, e_tuple_s, e_tuple_c, e_list_t, e_list_l, e_list_s, e_list_c, e_int_i, e_int_b, asInts_map, asBls_map, niR_s, nbR_s, asInts_nil, asInts_cons, asBls_nil, asBls_cons, omap_some, e_maxL_l, e_maxL_s, e_maxL_c, e_minL_l, e_minL_s, e_minL_c, e_sumL_l, e_sumL_s, e_sumL_c, e_anyL_l, e_anyL_s, e_anyL_c, e_allL_l, e_allL_s, e_allL_c, e_app, e_ext_l, e_rc_append_c, e_rc_append_l, e_rc_extend_c, e_rc_extend_l, e_rc_index_c, e_rc_index_l, e_inn_c, e_nin_c, e_cnt_c, e_cnt_l, e_rc_tcnt, e_rc_count_l, e_rc_join, e_lc, e_set, e_wk_t, e_wk_ct, e_wk_l, e_wk_s, e_wk_c, e_rg, rng00, rng01, rng02, rng03, rng04, rng05, rng06, at0, at1, at2, at3, at4, at5, at6, at7, px1_0, pxm1, px2_0, px2_1, pxm2, px3_0, px3_1, px3_2, pxm3, px4_0, px4_1, px4_2, px4_3, pxm4, px5_0, px5_1, px5_2, px5_3, px5_4, pxm5, px6_0, px6_1, px6_2, px6_3, px6_4, px6_5, pxm6, px7_0, px7_1, px7_2, px7_3, px7_4, px7_5, px7_6, pxm7, atm1, e_pow18, neg_i, in_i, ty_s, u_lc, u_nil, u_bt, u_kv, u_ku, u_kut, u_kuf, u_cons, u_fbt, u_oN, u_oC, u_oB, u_oT, u_oX, clq_s, pxR_s, nc_0, nc_1, nc_2, nc_3, nc_4, nc_5, nc_6, nc_7, nc_8, nc_9, nc_10, nc_11, nc_12, bt_nm, bt_tt, bt_tl, bts_n, bts_c, btsR_s, e_isB, e_notB, ty_loc, ty_n, ty_b, ty_i, ty_st, ty_t, ty_l, ty_x, tys_n, tys_c, tyo_t, tyo_f, e_pow2, e_pow6, e_pow12, e_pow30, e_pow57, e_pow60, w_isiT, k_isiT, w1_raise, tt_N, tt_B, tt_C, tt_T, tt_X, w1_tryTwo, ttF_s, w_isX, k_isX, w_isVE, k_isVE, w_attr, k_at, w_ddisp, k_dd, w_stp, k_st1, k_st2, w_ddispE, k_de, de_s, un_nil, un_s, un_i, w_lrng, k_lr1, k_lr2, w_tupN, k_tupN, w_weak, k_weak, weak_t, weak_c, weak_l, weak_i, weak_s, weak_n, weak_b, weakL_n, weakL_c, ty_locD, w1_raiseX, k_rs, w1_tryNote, w1_tryOnly, tn_N, tn_B, tn_C, tn_T, tn_X, to_N, to_B, to_C, to_T, to_X, ixx_t, ixx_f, isx_e, isv_e, ini_no, ini_1, ini_2, ini_l, lr_ii, dd_s, w_deq, k_dq1, k_dq2, k_vy, wr_vals, vy_l, vyC_f, e_insert, e_rc_insert, w_fld, k_fld, fld_loc, icR_s, w1_fput, k_fp1, k_fp2, fput_loc, w_mcall, k_mc1, mc_loc, icW_s, k_mc2, w_make, k_mke, nonW_n, w1_lockf, w_lockf, w1_lockg, w_lockg, w1_lockx, w_lockx, k_lkS, k_lkE, Option.map_some, en_map, zi_map, List.map_id', List.append_nil, Option.isSome_none, List.reverse_cons, List.reverse_nil, ziD_c, ziD_n, ziD_n2, enD_n, $xs,*, *])
local macro_rules | `(tactic| walk_at "nh") => `(tactic| (try simp only [decide_eq_true_eq, decide_eq_false_iff_not, Bool.and_eq_true, Bool.and_eq_false_iff, Bool.or_eq_true, Bool.or_eq_false_iff, Bool.not_eq_true', Bool.not_eq_false', Bool.false_eq_true, Bool.true_eq_false, reduceCtorEq] at h))
local macro_rules | `(tactic| walk_at "ev") => `(tactic| ((try walk_at "sx"); first | exact kEq_i | exact kEqB_i | (refine And.intro ?_ ?_ <;> first | omega | walk_at "ev") | (refine' it_KtV (c := ?c) (h := fun h => ?h) (q := ?q); (case h => (try simp only [decide_eq_true_eq, decide_eq_false_iff_not, Bool.and_eq_true, Bool.and_eq_false_iff, Bool.or_eq_true, Bool.or_eq_false_iff, Bool.not_eq_true', Bool.not_eq_false', Bool.false_eq_true, Bool.true_eq_false, reduceCtorEq] at h); walk_at "ev"); (case q => walk_at "ev")) | (refine' it_KfV (c := ?c) (h := fun h => ?h) (q := ?q); (case h => (try simp only [decide_eq_true_eq, decide_eq_false_iff_not, Bool.and_eq_true, Bool.and_eq_false_iff, Bool.or_eq_true, Bool.or_eq_false_iff, Bool.not_eq_true', Bool.not_eq_false', Bool.false_eq_true, Bool.true_eq_false, reduceCtorEq] at h); walk_at "ev"); (case q => walk_at "ev")) | (refine' it_CV (c := ?c) (h := fun h => ?h) (q := ?q); (case h => (try simp only [decide_eq_true_eq, decide_eq_false_iff_not, Bool.and_eq_true, Bool.and_eq_false_iff, Bool.or_eq_true, Bool.or_eq_false_iff, Bool.not_eq_true', Bool.not_eq_false', Bool.false_eq_true, Bool.true_eq_false, reduceCtorEq] at h); walk_at "ev"); (case q => walk_at "ev")) | (refine' it_WVi (u := ?u) (v := ?v) (h1 := fun h => ?h1) (h2 := fun h => ?h2) (q := ?q); (case h1 => (try simp only [decide_eq_true_eq, decide_eq_false_iff_not, Bool.and_eq_true, Bool.and_eq_false_iff, Bool.or_eq_true, Bool.or_eq_false_iff, Bool.not_eq_true', Bool.not_eq_false', Bool.false_eq_true, Bool.true_eq_false, reduceCtorEq] at h); walk_at "ev"); (case h2 => (try simp only [decide_eq_true_eq, decide_eq_false_iff_not, Bool.and_eq_true, Bool.and_eq_false_iff, Bool.or_eq_true, Bool.or_eq_false_iff, Bool.not_eq_true', Bool.not_eq_false', Bool.false_eq_true, Bool.true_eq_false, reduceCtorEq] at h); walk_at "ev"); (case q => walk_at "ev")) | (refine' it_WV (u := ?u) (v := ?v) (h1 := fun h => ?h1) (h2 := fun h => ?h2) (q := ?q); (case h1 => (try simp only [decide_eq_true_eq, decide_eq_false_iff_not, Bool.and_eq_true, Bool.and_eq_false_iff, Bool.or_eq_true, Bool.or_eq_false_iff, Bool.not_eq_true', Bool.not_eq_false', Bool.false_eq_true, Bool.true_eq_false, reduceCtorEq] at h); walk_at "ev"); (case h2 => (try simp only [decide_eq_true_eq, decide_eq_false_iff_not, Bool.and_eq_true, Bool.and_eq_false_iff, Bool.or_eq_true, Bool.or_eq_false_iff, Bool.not_eq_true', Bool.not_eq_false', Bool.false_eq_true, Bool.true_eq_false, reduceCtorEq] at h); walk_at "ev"); (case q => walk_at "ev")) | (walk_at "lc"; walk_at "ev") | omega | assumption))
local macro_rules | `(tactic| walk_at "jn") => `(tactic| (first | (refine' it_KtV (c := ?c) (h := fun h => ?h) (q := ?q); (case h => (try simp only [decide_eq_true_eq, decide_eq_false_iff_not, Bool.and_eq_true, Bool.and_eq_false_iff, Bool.or_eq_true, Bool.or_eq_false_iff, Bool.not_eq_true', Bool.not_eq_false', Bool.false_eq_true, Bool.true_eq_false, reduceCtorEq] at h); walk_at "ev")) | (refine' it_KfV (c := ?c) (h := fun h => ?h) (q := ?q); (case h => (try simp only [decide_eq_true_eq, decide_eq_false_iff_not, Bool.and_eq_true, Bool.and_eq_false_iff, Bool.or_eq_true, Bool.or_eq_false_iff, Bool.not_eq_true', Bool.not_eq_false', Bool.false_eq_true, Bool.true_eq_false, reduceCtorEq] at h); walk_at "ev")) | (refine' it_CV (c := ?c) (h := fun h => ?h) (q := ?q); (case h => (try simp only [decide_eq_true_eq, decide_eq_false_iff_not, Bool.and_eq_true, Bool.and_eq_false_iff, Bool.or_eq_true, Bool.or_eq_false_iff, Bool.not_eq_true', Bool.not_eq_false', Bool.false_eq_true, Bool.true_eq_false, reduceCtorEq] at h); walk_at "ev")) | (refine' it_WVi (u := ?u) (v := ?v) (h1 := fun h => ?h1) (h2 := fun h => ?h2) (q := ?q); (case h1 => (try simp only [decide_eq_true_eq, decide_eq_false_iff_not, Bool.and_eq_true, Bool.and_eq_false_iff, Bool.or_eq_true, Bool.or_eq_false_iff, Bool.not_eq_true', Bool.not_eq_false', Bool.false_eq_true, Bool.true_eq_false, reduceCtorEq] at h); walk_at "ev"); (case h2 => (try simp only [decide_eq_true_eq, decide_eq_false_iff_not, Bool.and_eq_true, Bool.and_eq_false_iff, Bool.or_eq_true, Bool.or_eq_false_iff, Bool.not_eq_true', Bool.not_eq_false', Bool.false_eq_true, Bool.true_eq_false, reduceCtorEq] at h); walk_at "ev")) | (refine' it_WV (u := ?u) (v := ?v) (h1 := fun h => ?h1) (h2 := fun h => ?h2) (q := ?q); (case h1 => (try simp only [decide_eq_true_eq, decide_eq_false_iff_not, Bool.and_eq_true, Bool.and_eq_false_iff, Bool.or_eq_true, Bool.or_eq_false_iff, Bool.not_eq_true', Bool.not_eq_false', Bool.false_eq_true, Bool.true_eq_false, reduceCtorEq] at h); walk_at "ev"); (case h2 => (try simp only [decide_eq_true_eq, decide_eq_false_iff_not, Bool.and_eq_true, Bool.and_eq_false_iff, Bool.or_eq_true, Bool.or_eq_false_iff, Bool.not_eq_true', Bool.not_eq_false', Bool.false_eq_true, Bool.true_eq_false, reduceCtorEq] at h); walk_at "ev")) | (refine' it_SA (u := ?u) (v := ?v) (ho := ?ho) (h1 := fun h => ?h1) (q := ?q); (case ho => rfl); (case h1 => (try simp only [decide_eq_true_eq, decide_eq_false_iff_not, Bool.and_eq_true, Bool.and_eq_false_iff, Bool.or_eq_true, Bool.or_eq_false_iff, Bool.not_eq_true', Bool.not_eq_false', Bool.false_eq_true, Bool.true_eq_false, reduceCtorEq] at h); walk_at "ev"); intro w hw; (try simp only [decide_eq_true_eq, Bool.and_eq_true, Bool.or_eq_true, Bool.not_eq_true'] at hw)) | (refine' it_SAB (u := ?u) (v := ?v) (ho := ?ho) (h1 := fun h => ?h1) (q := ?q); (case ho => rfl); (case h1 => (try simp only [decide_eq_true_eq, decide_eq_false_iff_not, Bool.and_eq_true, Bool.and_eq_false_iff, Bool.or_eq_true, Bool.or_eq_false_iff, Bool.not_eq_true', Bool.not_eq_false', Bool.false_eq_true, Bool.true_eq_false, reduceCtorEq] at h); walk_at "ev"); intro w hw; (try simp only [decide_eq_true_eq, Bool.and_eq_true, Bool.or_eq_true, Bool.not_eq_true'] at hw)) | (refine' it_SAD (u := ?u) (v := ?v) (ho := ?ho) (h1 := fun h => ?h1) (q := ?q); (case ho => rfl); (case h1 => (try simp only [decide_eq_true_eq, decide_eq_false_iff_not, Bool.and_eq_true, Bool.and_eq_false_iff, Bool.or_eq_true, Bool.or_eq_false_iff, Bool.not_eq_true', Bool.not_eq_false', Bool.false_eq_true, Bool.true_eq_false, reduceCtorEq] at h); walk_at "ev"); intro w hw; (try simp only [decide_eq_true_eq, Bool.and_eq_true, Bool.or_eq_true, Bool.not_eq_true'] at hw))))
local macro_rules | `(tactic| walk_at "sp") => `(tactic| (first | (refine it_S (fun h => ?_) (fun h => ?_) <;> (try simp only [decide_eq_true_eq, decide_eq_false_iff_not, Bool.and_eq_true, Bool.and_eq_false_iff, Bool.or_eq_true, Bool.or_eq_false_iff, Bool.not_eq_true', Bool.not_eq_false', Bool.false_eq_true, Bool.true_eq_false, reduceCtorEq] at h)) | (refine it_Kt (fun h => ?_) (fun h => ?_) <;> (try simp only [decide_eq_true_eq, decide_eq_false_iff_not, Bool.and_eq_true, Bool.and_eq_false_iff, Bool.or_eq_true, Bool.or_eq_false_iff, Bool.not_eq_true', Bool.not_eq_false', Bool.false_eq_true, Bool.true_eq_false, reduceCtorEq] at h)) | (refine it_Kf (fun h => ?_) (fun h => ?_) <;> (try simp only [decide_eq_true_eq, decide_eq_false_iff_not, Bool.and_eq_true, Bool.and_eq_false_iff, Bool.or_eq_true, Bool.or_eq_false_iff, Bool.not_eq_true', Bool.not_eq_false', Bool.false_eq_true, Bool.true_eq_false, reduceCtorEq] at h)) | (refine it_C (fun h => ?_) (fun h => ?_) <;> (try simp only [decide_eq_true_eq, decide_eq_false_iff_not, Bool.and_eq_true, Bool.and_eq_false_iff, Bool.or_eq_true, Bool.or_eq_false_iff, Bool.not_eq_true', Bool.not_eq_false', Bool.false_eq_true, Bool.true_eq_false, reduceCtorEq] at h)) | (refine it_W (fun h => ?_) (fun h => ?_) <;> (try simp only [decide_eq_true_eq, decide_eq_false_iff_not, Bool.and_eq_true, Bool.and_eq_false_iff, Bool.or_eq_true, Bool.or_eq_false_iff, Bool.not_eq_true', Bool.not_eq_false', Bool.false_eq_true, Bool.true_eq_false, reduceCtorEq] at h)) | (refine it_L (fun h => ?_) (fun h => ?_) <;> (try simp only [decide_eq_true_eq, decide_eq_false_iff_not, Bool.and_eq_true, Bool.and_eq_false_iff, Bool.or_eq_true, Bool.or_eq_false_iff, Bool.not_eq_true', Bool.not_eq_false', Bool.false_eq_true, Bool.true_eq_false, reduceCtorEq] at h))))
local macro_rules | `(tactic| walk_at "lc") => `(tactic| ((try simp only [rngD_eq]); first | (refine' lcV1i (f := ?f) (ρ1 := ?r) (hl := ?hl) (hb := ?hb) (hf := ?hf) (q := ?q); (case hl => first | (simp only [List.length_map, List.length_zip, List.length_zipIdx, len_rngI]; omega) | omega | assumption); (case hb => intro x; (try walk_at "sx"); exact rfl); (case hf => intro x hx; (try rw [mem_rngI] at hx); walk_at "ev")) | (refine' lcV1b (f := ?f) (ρ1 := ?r) (hl := ?hl) (hb := ?hb) (hf := ?hf) (q := ?q); (case hl => first | (simp only [List.length_map, List.length_zip, List.length_zipIdx, len_rngI]; omega) | omega | assumption); (case hb => intro x; (try walk_at "sx"); exact rfl); (case hf => intro x hx; (try rw [mem_rngI] at hx); walk_at "ev")) | (refine' lcV1 (f := ?f) (ρ1 := ?r) (hl := ?hl) (hb := ?hb) (hf := ?hf) (q := ?q); (case hl => first | (simp only [List.length_map, List.length_zip, List.length_zipIdx, len_rngI]; omega) | omega | assumption); (case hb => intro x; (try walk_at "sx"); exact rfl); (case hf => intro x hx; (try rw [mem_rngI] at hx); walk_at "ev")) | (refine' lcV0 (ρ1 := ?r) (hl := ?hl) (hb := ?hb) (hp := ?hp) (q := ?q); (case hl => first | (simp only [List.length_map, List.length_zip, List.length_zipIdx, len_rngI]; omega) | omega | assumption); (case hb => intro x; (try walk_at "sx"); exact rfl); (case hp => intro x hx; (try rw [mem_rngI] at hx); walk_at "ev")) | (refine' lcVi (f := ?f) (p := ?p) (ρ1 := ?r) (hl := ?hl) (hb := ?hb) (hp := ?hp) (hf := ?hf) (q := ?q); (case hl => first | (simp only [List.length_map, List.length_zip, List.length_zipIdx, len_rngI]; omega) | omega | assumption); (case hb => intro x; (try walk_at "sx"); exact rfl); (case hp => intro x hx; (try rw [mem_rngI] at hx); walk_at "ev"); (case hf => intro x hx h; (try rw [mem_rngI] at hx); (try dsimp only at h); (try simp only [decide_eq_true_eq, decide_eq_false_iff_not, Bool.and_eq_true, Bool.and_eq_false_iff, Bool.or_eq_true, Bool.or_eq_false_iff, Bool.not_eq_true', Bool.not_eq_false', Bool.false_eq_true, Bool.true_eq_false, reduceCtorEq] at h); walk_at "ev")) | (refine' lcV (f := ?f) (p := ?p) (ρ1 := ?r) (hl := ?hl) (hb := ?hb) (hp := ?hp) (hf := ?hf) (q := ?q); (case hl => first | (simp only [List.length_map, List.length_zip, List.length_zipIdx, len_rngI]; omega) | omega | assumption); (case hb => intro x; (try walk_at "sx"); exact rfl); (case hp => intro x hx; (try rw [mem_rngI] at hx); walk_at "ev"); (case hf => intro x hx h; (try rw [mem_rngI] at hx); (try dsimp only at h); (try simp only [decide_eq_true_eq, decide_eq_false_iff_not, Bool.and_eq_true, Bool.and_eq_false_iff, Bool.or_eq_true, Bool.or_eq_false_iff, Bool.not_eq_true', Bool.not_eq_false', Bool.false_eq_true, Bool.true_eq_false, reduceCtorEq] at h); walk_at "ev"))))
local macro_rules | `(tactic| walk_at "an") => `(tactic| (refine And.intro (by first | omega | assumption) ?_))
local macro_rules | `(tactic| walk_at "sa") => `(tactic| ((try walk_at "sx"); (first | (walk_at "an"; walk_at "sa") | (walk_at "jn"; walk_at "sa") | (walk_at "lc"; walk_at "sa") | (walk_at "sp" <;> walk_at "sa") | skip)))
local macro_rules | `(tactic| walk_at "sj") => `(tactic| ((try walk_at "sx"); (first | (walk_at "an"; walk_at "sj") | (walk_at "jn"; walk_at "sj") | (walk_at "lc"; walk_at "sj") | skip)))

/-! SA: drawn shapes, boxes, cells. -/
namespace SW
open PySem PySem.Spec PyProof.Rows L2 DL
/- _law_pen_of (k03): 0 _law_script -/
def b_l_pen_of : List Sm := [
  .ret (some (.lst true [.bi .list false [.slc false (.var 0) none (some (.int 63))], .int 0, .int 0]))]
noncomputable def f_l_pen_of : Fn := fnOf ⟨[], [], []⟩ 1 1 b_l_pen_of
/- _law_draw (k03): 0 _law_pen, 1 _law_many, 2 _law_at, 3 _law_cell, 4 _law_number, 5 _law_digit -/
def b_l_draw : List Sm := [
  .ife (.cmp .gt (.ix (.var 0) (.int 2)) (.int 0)) [
    .asg (.nm 5) (.bin .mod false (.ix (.var 0) (.int 2)) (.var 1)),
    .setIx (.var 0) (.int 2) (.bin .fdiv false (.ix (.var 0) (.int 2)) (.var 1)),
    .ret (some (.var 5))] [],
  .asg (.nm 2) (.ix (.var 0) (.int 1)),
  .setIx (.var 0) (.int 1) (.bin .add false (.var 2) (.int 1)),
  .asg (.nm 3) (.int 23),
  .ife (.cmp .gt (.bi .len false [.ix (.var 0) (.int 0)]) (.int 0)) [
    .asg (.nm 3) (.ix (.ix (.var 0) (.int 0)) (.bin .mod false (.var 2) (.bi .len false [.ix (.var 0) (.int 0)])))] [],
  .ife (.boo true [.cmp .lt (.var 2) (.bi .len false [.ix (.var 0) (.int 0)]), .cmp .ge (.bi .abs false [.var 3]) (.bin .pow false (.int 10) (.int 18))]) [
    .setIx (.var 0) (.int 2) (.bin .fdiv false (.bi .abs false [.var 3]) (.var 1)),
    .ret (some (.bin .mod false (.bi .abs false [.var 3]) (.var 1)))] [],
  .asg (.nm 4) (.bin .mod false (.bin .mul false (.bin .add false (.bin .add false (.bin .mod false (.var 3) (.int 2147483629)) (.bin .mul false (.int 69403) (.var 2))) (.int 47)) (.int 48271)) (.int 2147483647)),
  .asg (.nm 4) (.bin .mod false (.bin .mul false (.bin .mod false (.bin .add false (.bin .mul false (.var 4) (.var 4)) (.bin .mul false (.int 69621) (.var 2))) (.int 2147483587)) (.bin .add false (.bin .mod false (.var 4) (.int 32749)) (.int 3))) (.int 2147483563)),
  .ret (some (.bin .mod false (.bin .fdiv false (.var 4) (.int 32)) (.var 1)))]
noncomputable def f_l_draw : Fn := fnOf ⟨[], [], []⟩ 6 2 b_l_draw
/- _law_round (k03): 0 _law_d, 1 _law_rows, 2 _law_y, 3 _law_there, 4 _law_x -/
/- _law_cells (k03): 0 _law_shape_here, 1 _law_found, 2 _law_y, 3 _law_row, 4 _law_x -/
/- _law_inside (k03): 0 _law_cells_here, 1 _law_box_here, 2 _law_left, 3 _law_top, 4 _law_wide, 5 _law_high, 6 _law_x, 7 _law_y -/
/- _law_around (k03): 0 _law_cells_here, 1 _law_xs, 2 _law_ys, 3 _law_cell -/
/- _law_shape (k03): 0 _law_pen, 1 _law_bound, 2 _law_many, 3 _law_half, 4 _law_fall, 5 _law_rise, 6 _law_low, 7 _law_end, 8 _law_rows, 9 _law_k, 10 _law_left, 11 _law_wide, 12 _law_more, 13 _law_step, 14 _law_other, 15 _law_begin, 16 _law_last, 17 _law_row -/
/- _law_box (k03): 0 _law_pen, 1 _law_bound, 2 _law_left, 3 _law_top -/
/- _law_any_shape (k03): 0 _law_pen, 1 _law_bound -/
abbrev Row := Int × Int
def rowD (r : Row) : D := .tup [.int r.1, .int r.2]
def shD (s : List Row) : D := .tup (s.map rowD)
/-- neighbouring rows -/
def Lnk (fall rise : Nat) (i : Nat) (a b : Row) : Prop :=
  a.1 < b.2 ∧ b.1 < a.2 ∧ (i < fall → b.1 ≤ a.1) ∧ (fall ≤ i → a.1 ≤ b.1) ∧ (i < rise → a.2 ≤ b.2) ∧ (rise ≤ i → b.2 ≤ a.2)
def Lnks (fall rise : Nat) (s : List Row) : Prop := ∀ i a b, s[i]? = some a → s[i + 1]? = some b → Lnk fall rise i a b
structure Shp (bw bh : Int) (s : List Row) : Prop where
  ne : 0 < s.length
  len : (s.length : Int) ≤ bh
  row : ∀ r ∈ s, 0 ≤ r.1 ∧ r.1 < r.2 ∧ r.2 ≤ bw
  link : ∃ fall rise, Lnks fall rise s
theorem Shp.mono {a b a' b' : Int} {s : List Row} (h : Shp a b s) (ha : a ≤ a') (hb : b ≤ b') : Shp a' b' s :=
  ⟨h.ne, Int.le_trans h.len hb, fun r q => by have := h.row r q; omega, h.link⟩
theorem Lnks.snoc {fall rise : Nat} {s : List Row} {a b : Row} {i : Nat} (h : Lnks fall rise s) (hl : s.length = i + 1) (ha : s[i]? = some a) (l : Lnk fall rise i a b) : Lnks fall rise (s ++ [b]) := by
  intro j x y hx hy
  by_cases hj : j + 1 < s.length
  · rw [List.getElem?_append_left (by omega)] at hx hy
    exact h j x y hx hy
  · by_cases hj2 : j + 1 = s.length
    · rw [List.getElem?_append_left (by omega)] at hx
      rw [List.getElem?_append_right (by omega)] at hy
      rw [show j + 1 - s.length = 0 by omega] at hy
      simp at hy
      have : j = i := by omega
      subst this
      rw [ha] at hx
      cases hx; subst hy
      exact l
    · rw [List.getElem?_eq_none (by simp; omega)] at hy
      cases hy
instance (fall rise i : Nat) (a b : Row) : Decidable (Lnk fall rise i a b) := by unfold Lnk; infer_instance
structure Bx where
  l : Int
  t : Int
  w : Int
  h : Int
  deriving DecidableEq
/-! the encodings, as they are used -/
theorem ix_sh (s : List Row) (i : D) (S : Store) : ixEv (shD s) i S = ixEv (.tup (s.map rowD)) i S := rfl
theorem wk_sh (s : List Row) (S : Store) : wkR (shD s) S = .ok (s.map rowD, none) S := rfl
theorem len_sh (s : List Row) (c : Bool) (S : Store) : BI.ev .len c [shD s] S = .ok (.int s.length) S := by
  show Res.ok (D.int ((s.map rowD).length : Nat)) S = _
  rw [List.length_map]
theorem en_sh (s : List Row) (S : Store) : enR (shD s) S = .ok (enD (s.map rowD), none) S := rfl
theorem ty_sh (s : List Row) (t : Ty) (S : Store) : tyEv S t (shD s) = some (decide (t = .tuple)) := rfl
def bxD (b : Bx) : D := .tup [.int b.l, .int b.t, .int b.w, .int b.h]
theorem ix_bx (b : Bx) (i : D) (S : Store) : ixEv (bxD b) i S = ixEv (.tup [.int b.l, .int b.t, .int b.w, .int b.h]) i S := rfl
theorem bt_bx (ts : List Tg) (b : Bx) (ρ : EnvD) : bindTg (.tup ts) (bxD b) ρ = bindTgs ts [.int b.l, .int b.t, .int b.w, .int b.h] ρ := by unfold bxD; rw [bt_tt]
def inB (b : Bx) (c : Row) : Bool := decide (b.l ≤ c.1) && decide (c.1 < b.l + b.w) && (decide (b.t ≤ c.2) && decide (c.2 < b.t + b.h))
def around (cs : List Row) : Option Bx := if cs.isEmpty then none else some ⟨minI (cs.map Prod.fst), minI (cs.map Prod.snd), maxI (cs.map Prod.fst) + 1 - minI (cs.map Prod.fst), maxI (cs.map Prod.snd) + 1 - minI (cs.map Prod.snd)⟩
end SW

/-! SB: the cells of a shape in a box. -/
namespace SW
open PySem PySem.Spec PyProof.Rows L2 DL
/- rows_in (k03): 0 shape, 1 box, 2 left, 3 top, 4 wide, 5 high, 6 found, 7 y, 8 row -/
/- wood_in (k03): 0 shape, 1 box, 2 row -/
/- tight (k03): 0 shape, 1 box, 2 rows, 3 there, 4 left, 5 right, 6 k, 7 row -/
/- _law_are_same (k03): 0 _law_found, 1 _law_due, 2 _law_one, 3 _law_other -/
mutual
/-- plain data, of no more than so deep, nothing too long -/
def okD : Nat → D → Bool
  | _, .non => true
  | _, .bl _ => true
  | _, .int _ => true
  | _, .str x => PyData.strOk x
  | n + 1, .tup xs => decide (xs.length ≤ 16777216) && okDs n xs
  | n + 1, .lst xs => decide (xs.length ≤ 16777216) && okDs n xs
  | _, _ => false
def okDs : Nat → List D → Bool
  | _, [] => true
  | n, x :: r => okD n x && okDs n r
end
theorem okDs_of {n : Nat} : ∀ {xs : List D}, (∀ x ∈ xs, okD n x = true) → okDs n xs = true
  | [], _ => by rw [okDs]
  | y :: r, h => by rw [okDs, h y (by simp), okDs_of fun x hx => h x (List.mem_cons_of_mem _ hx)]; rfl
theorem okD_shp : ∀ {n : Nat} {d : D}, okD n d = true → D.shp n d = true := by
  intro n
  induction n with
  | zero => intro d h; cases d <;> simp_all [okD, D.shp]
  | succ n ih =>
    have all : ∀ xs : List D, okDs n xs = true → D.shps n xs = true := by
      intro xs
      induction xs with
      | nil => intro _; exact shps_nil n
      | cons x r ih2 =>
        intro h
        rw [okDs, Bool.and_eq_true] at h
        rw [shps_cons, ih h.1, ih2 h.2]; rfl
    intro d h
    cases d with
    | tup xs => rw [okD, Bool.and_eq_true] at h; exact all xs h.2
    | lst xs => rw [okD, Bool.and_eq_true] at h; exact all xs h.2
    | _ => simp_all [okD, D.shp]
theorem shp_mono : ∀ {n m : Nat} {d : D}, n ≤ m → D.shp n d = true → D.shp m d = true := by
  intro n
  induction n with
  | zero => intro m d _ h; cases m <;> cases d <;> simp_all [D.shp]
  | succ n ih =>
    intro m d hm h
    obtain ⟨k, rfl⟩ : ∃ k, m = k + 1 := ⟨m - 1, by omega⟩
    have all : ∀ xs : List D, D.shps n xs = true → D.shps k xs = true := by
      intro xs
      induction xs with
      | nil => intro _; exact shps_nil k
      | cons x r ih2 =>
        intro h
        rw [shps_cons, Bool.and_eq_true] at h ⊢
        exact ⟨ih (by omega) h.1, ih2 h.2⟩
    cases d with
    | tup xs => exact all xs h
    | lst xs => exact all xs h
    | _ => simp_all [D.shp]
end SW

/-! SC: the mathematics of cells in boxes. -/
namespace SW
open PySem PySem.Spec PyProof.Rows L2 DL
end SW

/-! SD: columns, stretches, round shapes, what is a shape. -/
namespace SW
open PySem PySem.Spec PyProof.Rows L2 DL
/- is_whole (k05): 0 thing, 1 least -/
/- are_linked (k05): 0 one, 1 other -/
/- goes_one_way (k05): 0 numbers, 1 risen, 2 k -/
/- whole_box (k05): 0 shape, 1 row -/
/- is_round (k05): 0 x, 1 y, 2 d, 3 across, 4 down -/
/- is_row (k05): 0 thing -/
/- columns_in (k05): 0 shape, 1 box, 2 left, 3 top, 4 wide, 5 high, 6 found, 7 k, 8 row, 9 x, 10 one -/
/- round_shape (k05): 0 d, 1 rows, 2 y, 3 there, 4 x -/
/- is_shape (k05): 0 thing, 1 k, 2 row -/
/- turned_shape (k05): 0 shape, 1 box, 2 left, 3 columns, 4 row -/
/- lines_in (k12): 0 shape, 1 box, 2 way -/
/- stretch (k12): 0 shape, 1 box, 2 way, 3 lines, 4 lo, 5 hi, 6 line -/
/-- numbers that fall, then rise -/
def Way (ns : List Int) : Prop := ∃ f : Nat, ∀ i a b, ns[i]? = some a → ns[i + 1]? = some b → (i < f → b ≤ a) ∧ (f ≤ i → a ≤ b)
theorem Shp.at {a b : Int} {s : List Row} (h : Shp a b s) {i : Nat} {x y : Row} (h1 : s[i]? = some x) (h2 : s[i + 1]? = some y) : max x.1 y.1 < min x.2 y.2 := by
  obtain ⟨f, r, hl⟩ := h.link
  have := hl i x y h1 h2
  have := h.row x (List.mem_of_getElem? h1)
  have := h.row y (List.mem_of_getElem? h2)
  unfold Lnk at *
  omega
end SW

/-! K02a: what is no shape. -/
namespace DL
end DL
namespace SW
open PySem PySem.Spec PyProof.Rows L2 DL
end SW

/-! K02b: odd things that are no shapes. -/
namespace SW
open PySem PySem.Spec PyProof.Rows L2 DL
end SW

/-! K02c: far numbers. -/
namespace K02
open PySem PySem.Spec PyProof.Rows L2 DL SW
/- _law_far (k02): 0 _law_pen, 1 _law_bound, 2 _law_number, 3 _law_reach -/
def b_l_far : List Sm := [
  .asg (.tup [(.nm 2), (.nm 3)]) (.tup [.int 0, .int 1]),
  .while (.cmp .lt (.var 3) (.var 1)) [
    .asg (.tup [(.nm 2), (.nm 3)]) (.tup [.bin .add false (.bin .mul false (.var 2) (.bin .pow false (.int 10) (.int 6))) (.call 0 [.var 0, .bin .pow false (.int 10) (.int 6)]), .bin .mul false (.var 3) (.bin .pow false (.int 10) (.int 6))])],
  .ret (some (.bin .add false (.int 1) (.bin .mod false (.var 2) (.var 1))))]
noncomputable def f_l_far : Fn := fnOf ⟨[f_l_draw], [], []⟩ 4 2 b_l_far
/- _law_good (k02): 0 _law_pen, 1 _law_far_here, 2 _law_many, 3 _law_tall, 4 _law_steps, 5 _law_back, 6 _law_cross, 7 _law_k -/
/- _law_bad (k02): 0 _law_pen, 1 _law_far_here, 2 _law_many, 3 _law_at, 4 _law_wide, 5 _law_apart, 6 _law_empty, 7 _law_amid, 8 _law_notch, 9 _law_waist, 10 _law_hook, 11 _law_claw, 12 _law_below, 13 _law_found -/
/- law (k02): 0 _law_script, 1 _law_pen, 2 _law_good_here, 3 _law_bad_here, 4 _law_turn, 5 _law_thing -/
def steps : List Int := [1, 1000000, 1000000000000, 1000000000000000000, 1000000000000000000000000, 1000000000000000000000000000000, 1000000000000000000000000000000000000, 1000000000000000000000000000000000000000000, 1000000000000000000000000000000000000000000000000, 1000000000000000000000000000000000000000000000000000000, 1000000000000000000000000000000000000000000000000000000000000]
def leftD : Option D → Nat
  | some (D.int r) => (steps.filter fun z => decide (r < z)).length
  | _ => 0
def left (ρ : EnvD) (_ : Store) : Nat := leftD (ρ.getD 3 none)
theorem left_at (a b c : Option D) (r : Int) (S : Store) : left [a, b, c, some (.int r)] S = (steps.filter fun z => decide (r < z)).length := rfl
end K02

/-! DLs: texts: what is a text at all, how long. -/
namespace DL
open PySem PySem.Spec PyProof.Rows L2
abbrev sOk (x : Str) : Prop := PyData.strOk x = true
theorem sOk_iff {x : Str} : sOk x ↔ ∀ c ∈ x.cps.toList, c < 1114112 := by
  show (x.cps.all fun c => decide (c < 0x110000)) = true ↔ _
  rw [← Array.all_toList, List.all_eq_true]
  simp only [decide_eq_true_eq]
theorem toL_app (a b : Str) : (a ++ b).cps.toList = a.cps.toList ++ b.cps.toList := by
  show (a.cps ++ b.cps).toList = _
  simp
theorem len_app2 (a b : Str) : (a ++ b).length = a.length + b.length := by
  show (a.cps ++ b.cps).size = _
  rw [Array.size_append]; rfl
theorem sOk_app {a b : Str} (h : sOk a) (h2 : sOk b) : sOk (a ++ b) := by
  rw [sOk_iff] at *
  rw [toL_app]
  intro c hc
  rcases List.mem_append.1 hc with q | q
  · exact h c q
  · exact h2 c q
theorem sOk_cut {z : Str} {lo hi : Option Int} (h : sOk z) : sOk (cutS z lo hi) := by
  rw [sOk_iff] at *
  intro c hc
  unfold cutS at hc
  simp only at hc
  exact h c (List.mem_of_mem_drop (List.mem_of_mem_take hc))
theorem sOk_one {c : Nat} (h : c < 1114112) : sOk ⟨#[c]⟩ := by
  rw [sOk_iff]
  intro d hd
  simp only [List.mem_cons, List.not_mem_nil, or_false] at hd
  omega
theorem join_eq (a : Str) (zs : List Str) : Txt.join a zs = Str.join a zs := by
  unfold Txt.join
  rw [StrLaws.glued_eq_join]
theorem sOk_join {a : Str} (h : sOk a) : ∀ {zs : List Str}, (∀ z ∈ zs, sOk z) → sOk (Txt.join a zs) := by
  intro zs
  rw [join_eq]
  induction zs with
  | nil => intro _; rw [sOk_iff]; intro c hc; exact absurd hc (by show c ∉ []; simp)
  | cons x r ih =>
    intro hz
    cases r with
    | nil => exact hz x (by simp)
    | cons z r =>
      show sOk (x ++ a ++ Str.join a (z :: r))
      exact sOk_app (sOk_app (hz x (by simp)) h) (ih fun y hy => hz y (List.mem_cons_of_mem _ hy))
theorem len_join0 (zs : List Str) : (Txt.join ("" : Str) zs).length = (zs.map (·.length)).sum := by
  rw [join_eq]
  induction zs with
  | nil => rfl
  | cons x r ih =>
    cases r with
    | nil => simp [Str.join]
    | cons z r =>
      show (x ++ ("" : Str) ++ Str.join ("" : Str) (z :: r)).length = _
      rw [len_app2, len_app2, ih, List.map_cons (l := z :: r), List.sum_cons]
      have : (("" : Str)).length = 0 := by decide
      omega
theorem Kept.setO {ps : List Nat} {S S' : Store} {p : Nat} {u : Option Cell} (a : Kept ps S S') (h : p ∈ ps ∨ S.length ≤ p) : Kept ps S (S'.set p u) :=
  ⟨by rw [List.length_set]; exact a.1, fun q hq n => by
    rw [List.getElem?_set_ne]
    · exact a.2 q hq n
    · rintro rfl
      rcases h with h | h
      · exact n h
      · omega⟩
end DL

/-! PA: the pen of the yard's laws; names, rules, boards. -/
namespace SW
open PySem PySem.Spec PyProof.Rows L2 DL
/- _law_pen_of (k25): 0 _law_script, 1 _law_cell -/
/- _law_draw (k25): 0 _law_pen, 1 _law_many, 2 _law_at, 3 _law_cell, 4 _law_number, 5 _law_digit -/
def b_l_draw_pa : List Sm := [
  .ife (.cmp .gt (.ix (.var 0) (.int 2)) (.int 0)) [
    .asg (.nm 5) (.bin .mod false (.ix (.var 0) (.int 2)) (.var 1)),
    .setIx (.var 0) (.int 2) (.bin .fdiv false (.ix (.var 0) (.int 2)) (.var 1)),
    .ret (some (.var 5))] [],
  .asg (.nm 2) (.ix (.var 0) (.int 1)),
  .setIx (.var 0) (.int 1) (.bin .add false (.var 2) (.int 1)),
  .asg (.nm 3) (.int 11),
  .ife (.cmp .gt (.bi .len false [.ix (.var 0) (.int 0)]) (.int 0)) [
    .asg (.nm 3) (.ix (.ix (.var 0) (.int 0)) (.bin .mod false (.var 2) (.bi .len false [.ix (.var 0) (.int 0)])))] [],
  .ife (.boo true [.cmp .lt (.var 2) (.bi .len false [.ix (.var 0) (.int 0)]), .cmp .ge (.bi .abs false [.var 3]) (.bin .pow false (.int 10) (.int 18))]) [
    .setIx (.var 0) (.int 2) (.bin .fdiv false (.bi .abs false [.var 3]) (.var 1)),
    .ret (some (.bin .mod false (.bi .abs false [.var 3]) (.var 1)))] [],
  .asg (.nm 4) (.bin .mod false (.bin .mul false (.bin .add false (.bin .add false (.bin .mod false (.var 3) (.int 2147483647)) (.bin .mul false (.int 69621) (.var 2))) (.int 13)) (.int 48271)) (.int 2147483629)),
  .asg (.nm 4) (.bin .mod false (.bin .mul false (.bin .mod false (.bin .mul false (.var 4) (.var 4)) (.int 2147483587)) (.bin .add false (.bin .add false (.bin .mod false (.var 4) (.int 65521)) (.bin .mul false (.int 7) (.var 2))) (.int 1))) (.int 2147483563)),
  .ret (some (.bin .mod false (.bin .fdiv false (.var 4) (.int 32)) (.var 1)))]
noncomputable def f_l_draw_pa : Fn := fnOf ⟨[], [], []⟩ 6 2 b_l_draw_pa
/- _law_some_names (k25): 0 _law_pen, 1 _law_many, 2 _law_letters, 3 _law_words, 4 _law_found, 5 _law_k, 6 _law_size, 7 _law_name, 8 _law_letter, 9 _law_j -/
/- _law_some_board (k25): 0 _law_pen, 1 _law_rules, 2 _law_body -/
/- _law_some_rules (k25): 0 _law_pen, 1 _law_kinds, 2 _law_found, 3 _law_grade, 4 _law_many, 5 _law_barred, 6 _law_k -/
/- _law_are_same (k25): 0 _law_found, 1 _law_due, 2 _law_one, 3 _law_other -/
local macro_rules | `(tactic| walk_at "sx") => `(tactic| (simp_arith [rowD, atI_map, ix_sh, wk_sh, len_sh, en_sh, ty_sh, ix_bx, bt_bx]))
theorem draw_pa_ok {S : Store} {p : Nat} {m : Int} (hp : PenAt S p) (h0 : 0 < m) (h1 : m < 1073741824) {X : XD} {Q : QD}
    (h : ∀ k S', 0 ≤ k → k < m → PenAt S' p → Kept [p] S S' → Q (.int k) S') : (f_l_draw_pa [.loc p, .int m] S).satx X Q := by
  obtain ⟨ns, i, l, hp, hi, hl, hn⟩ := hp
  have hlt := At.lt hp
  have em (x : Int) : 0 ≤ x % m ∧ x % m < m := ⟨Int.emod_nonneg x (by omega), Int.emod_lt_of_pos x h0⟩
  have fin : ∀ (k : Int) (i' : Int) (l' : Int), 0 ≤ k → k < m → 0 ≤ i' → 0 ≤ l' → Q (.int k) (S.set p (some (.lst [.lst (ns.map .int), .int i', .int l']))) := fun k i' l' a b c' c =>
    h k _ a b ⟨ns, i', l', at_set hlt, c', c, hn⟩ ((Kept.refl _ _).set (.inl (by simp)))
  refine fn_sx rfl ?_
  unfold b_l_draw_pa
  by_cases hl0 : 0 < l
  · walk_at "sa"
    exact fin _ i _ (em l).1 (em l).2 hi (Int.ediv_nonneg hl (by omega))
  · by_cases hns : 0 < ns.length
    · obtain ⟨c, hc⟩ : ∃ c, atI (ns.map D.int) (i % (ns.length : Int)) = some (.int c) := by
        have h1 := Int.emod_nonneg i (b := (ns.length : Int)) (by omega)
        have h2 := Int.emod_lt_of_pos i (b := (ns.length : Int)) (by omega)
        unfold atI ixN
        rw [List.length_map, if_pos h1, if_pos h2]
        simp only [Option.bind_some]
        rw [List.getElem?_map, List.getElem?_eq_getElem (show (i % (ns.length : Int)).toNat < ns.length by omega)]
        exact ⟨_, rfl⟩
      have hns' : (0 : Int) < (ns.length : Int) := by omega
      walk_at "sa"
      · exact fin _ (i + 1) _ (em _).1 (em _).2 (by omega) (Int.ediv_nonneg (by split <;> omega) (by omega))
      all_goals exact fin _ (i + 1) _ (em _).1 (em _).2 (by omega) hl
    · have hns' : ¬ (0 : Int) < (ns.length : Int) := by omega
      have hi' : ¬ i < (ns.length : Int) := by omega
      walk_at "sa"
      exact fin _ (i + 1) _ (em _).1 (em _).2 (by omega) hl
def letters : Str := "abcdefghijklmnopqrstuvwxyz"
theorem letter_ok {k : Int} (h0 : 0 ≤ k) (h1 : k < 26) : ∃ c, atI letters.cps.toList k = some c ∧ c < 1114112 := by
  have hl : letters.cps.toList.length = 26 := by decide +kernel
  have ha : (letters.cps.toList.all fun c => decide (c < 1114112)) = true := by decide +kernel
  have hk : k.toNat < letters.cps.toList.length := by omega
  refine ⟨letters.cps.toList[k.toNat], ?_, ?_⟩
  · unfold atI ixN
    rw [if_pos h0, if_pos (by omega)]
    simp only [Option.bind_some]
    exact List.getElem?_eq_getElem hk
  · have := List.all_eq_true.1 ha _ (List.getElem_mem hk)
    simpa using this
theorem word_ok {S : Store} {p : Nat} {j : Int} {ρ : EnvD} (hp : PenAt S p) (hρ0 : ρ[0]? = some (some (.loc p))) (hρ2 : ρ[2]? = some (some (.str letters))) (h0 : 0 ≤ j) (h1 : j ≤ 100) {X : XD} {Q : List D → Store → Prop}
    (h : ∀ (zs : List Str) S', (∀ z ∈ zs, sOk z ∧ z.length = 1) → (zs.length : Int) = j → PenAt S' p → Kept [p] S S' → Q (zs.map D.str) S') :
    (LcR ⟨[f_l_draw_pa], [], []⟩ (.nm 9) [] (.ix (.var 2) (.call 0 [.var 0, .int 26])) none S ρ (rngD 0 j) S).satx X Q := by
  have hl : (rngD 0 j).length = j.toNat := by rw [rngD_eq, List.length_map, len_rngI]; omega
  refine lc_inv (fun i acc S' => ∃ zs : List Str, acc = zs.map D.str ∧ zs.length = i ∧ (∀ z ∈ zs, sOk z ∧ z.length = 1) ∧ PenAt S' p ∧ Kept [p] S S') ?_ ?_ ⟨[], rfl, rfl, by simp, hp, Kept.refl _ _⟩
  · rintro i x acc S1 hx ⟨zs, rfl, hz, hzs, hp1, hk1⟩
    have hi : i < (rngD 0 j).length := (List.getElem?_eq_some_iff.1 hx).1
    refine ⟨_, rfl, ?_⟩
    have e0 : (ρ.set 9 (some x))[0]? = some (some (.loc p)) := by rw [List.getElem?_set_ne (by decide)]; exact hρ0
    have e2 : (ρ.set 9 (some x))[2]? = some (some (.str letters)) := by rw [List.getElem?_set_ne (by decide)]; exact hρ2
    have hlt : letters.length ≤ 16777216 := by decide +kernel
    walk_at "sj"
    refine draw_pa_ok hp1 (by omega) (by omega) fun k S2 k0 k1 hp2 hk2 => ?_
    obtain ⟨c, hc, hc2⟩ := letter_ok k0 k1
    walk_at "sj"
    refine ⟨zs ++ [⟨#[c]⟩], by simp, by simp [hz], ?_, (hk1.trans hk2).1, (hk1.trans hk2).2⟩
    intro z hz
    rcases List.mem_append.1 hz with q | q
    · exact hzs z q
    · simp only [List.mem_cons, List.not_mem_nil, or_false] at q
      subst q
      exact ⟨sOk_one hc2, rfl⟩
  · rintro acc S1 ⟨zs, rfl, hz, hzs, hp1, hk1⟩
    exact h zs S1 hzs (by omega) hp1 hk1
/-- a name: a text, of at most eight letters -/
def NmOk (z : Str) : Prop := sOk z ∧ z.length ≤ 8
theorem len_cut {z : Str} {k : Int} : (cutS z none (some k)).length ≤ HT.sIx z.length z.length (some k) := by
  show (List.toArray _).size ≤ _
  rw [List.size_toArray, List.length_take]
  unfold HT.sIx
  omega
end SW

/-! RA: drawn names, bodies, flaws, rules of the saw's laws. -/
namespace SW
open PySem PySem.Spec PyProof.Rows L2 DL
/- _law_meet (k09): 0 _law_one, 1 _law_other, 2 _law_k, 3 _law_there, 4 _law_n -/
/- _law_names (k09): 0 _law_pen, 1 _law_many, 2 _law_letters, 3 _law_begin, 4 _law_size, 5 _law_step, 6 _law_at, 7 _law_word, 8 _law_ahead, 9 _law_last, 10 _law_found, 11 _law_special, 12 _law_k, 13 _law_name -/
def b_l_names_ra : List Sm := [
  .asg (.nm 2) (.str "abcdefghijklmnopqrstuvwxyz"),
  .asg (.tup [(.nm 3), (.nm 4)]) (.tup [.call 0 [.var 0, .int 26], .bin .add false (.int 1) (.call 0 [.var 0, .int 8])]),
  .asg (.tup [(.nm 5), (.nm 6)]) (.tup [.ix (.lst false [.int 7, .int 5, .int 11, .int 17]) (.call 0 [.var 0, .int 4]), .call 0 [.var 0, .var 4]]),
  .asg (.nm 7) (.meth .join (.str "") [.lc false (.nm 12) (.rng1 (.var 4)) [] (.ix (.var 2) (.call 0 [.var 0, .int 26])) [12]]),
  .asg (.tup [(.nm 8), (.nm 9)]) (.tup [.slc false (.var 7) none (some (.var 6)), .slc false (.var 7) (some (.bin .add false (.var 6) (.int 1))) none]),
  .asg (.nm 10) (.lc true (.nm 12) (.rng1 (.var 1)) [] (.bin .add false (.bin .add false (.var 8) (.ix (.var 2) (.bin .mod false (.bin .add false (.var 3) (.bin .mul false (.var 5) (.var 12))) (.int 26)))) (.var 9)) [12]),
  .ife (.cmp .eq (.call 0 [.var 0, .int 3]) (.int 0)) [
    .asg (.nm 10) (.lc true (.tup [(.nm 12), (.nm 13)]) (.enum (.var 10)) [] (.slc false (.var 13) none (some (.bi .max2 false [.bin .add false (.var 6) (.int 1), .bin .sub false (.var 4) (.bin .mod false (.var 12) (.int 3))]))) [12, 13])] [],
  .asg (.nm 11) (.ix (.lst false [.str "mill", .str "x", .str "turn", .str "trunk"]) (.call 0 [.var 0, .int 4])),
  .ife (.boo true [.cmp .eq (.call 0 [.var 0, .int 6]) (.int 0), .cmp .nin (.var 11) (.var 10)]) [
    .setIx (.var 10) (.call 0 [.var 0, .var 1]) (.var 11)] [],
  .ret (some (.frz 10))]
noncomputable def f_l_names_ra : Fn := fnOf ⟨[f_l_draw], [], []⟩ 14 2 b_l_names_ra
/- _law_body (k09): 0 _law_pen, 1 _law_across, 2 _law_along, 3 _law_found -/
/- _law_rules (k09): 0 _law_pen, 1 _law_names_here, 2 _law_kinds, 3 _law_found, 4 _law_k, 5 _law_barred, 6 _law_j -/
/- _law_grade (k09): 0 _law_body_here, 1 _law_flaws_here, 2 _law_rules_here, 3 _law_grade_here, 4 _law_barred, 5 _law_bound, 6 _law_there, 7 _law_kind, 8 _law_place -/
/- _law_flaws (k09): 0 _law_pen, 1 _law_kinds, 2 _law_across, 3 _law_along, 4 _law_found, 5 _law_k, 6 _law_body_here -/
theorem ra_cut2 {z : Str} {k : Int} (h0 : 0 ≤ k) : (cutS z (some k) none).length ≤ z.length - k.toNat := by
  show (List.toArray _).size ≤ _
  rw [List.size_toArray, List.length_take, List.length_drop]
  unfold HT.sIx
  simp only
  rw [if_neg (by omega)]
  show min _ (z.cps.toList.length - _) ≤ _
  have : z.cps.toList.length = z.length := rfl
  omega
theorem ra_cut1 {z : Str} {k : Int} (h0 : 0 ≤ k) : (cutS z none (some k)).length ≤ k.toNat := by
  refine Nat.le_trans len_cut ?_
  unfold HT.sIx
  simp only
  rw [if_neg (by omega)]
  omega
local macro_rules | `(tactic| walk_at "sx") => `(tactic| (simp_arith [rowD, atI_map, ix_sh, wk_sh, len_sh, en_sh, ty_sh, ix_bx, bt_bx]))
theorem word_ra {S : Store} {p : Nat} {j : Int} {ρ : EnvD} (hp : PenAt S p) (hρ0 : ρ[0]? = some (some (.loc p))) (hρ2 : ρ[2]? = some (some (.str letters))) (h0 : 0 ≤ j) (h1 : j ≤ 100) {X : XD} {Q : List D → Store → Prop}
    (h : ∀ (zs : List Str) S', (∀ z ∈ zs, sOk z ∧ z.length = 1) → (zs.length : Int) = j → PenAt S' p → Kept [p] S S' → Q (zs.map D.str) S') :
    (LcR ⟨[f_l_draw], [], []⟩ (.nm 12) [] (.ix (.var 2) (.call 0 [.var 0, .int 26])) none S ρ (rngD 0 j) S).satx X Q := by
  have hl : (rngD 0 j).length = j.toNat := by rw [rngD_eq, List.length_map, len_rngI]; omega
  refine lc_inv (fun i acc S' => ∃ zs : List Str, acc = zs.map D.str ∧ zs.length = i ∧ (∀ z ∈ zs, sOk z ∧ z.length = 1) ∧ PenAt S' p ∧ Kept [p] S S') ?_ ?_ ⟨[], rfl, rfl, by simp, hp, Kept.refl _ _⟩
  · rintro i x acc S1 hx ⟨zs, rfl, hz, hzs, hp1, hk1⟩
    have hi : i < (rngD 0 j).length := (List.getElem?_eq_some_iff.1 hx).1
    refine ⟨_, rfl, ?_⟩
    have e0 : (ρ.set 12 (some x))[0]? = some (some (.loc p)) := by rw [List.getElem?_set_ne (by decide)]; exact hρ0
    have e2 : (ρ.set 12 (some x))[2]? = some (some (.str letters)) := by rw [List.getElem?_set_ne (by decide)]; exact hρ2
    have hlt : letters.length ≤ 16777216 := by decide +kernel
    walk_at "sj"
    refine draw_ok hp1 (by omega) (by omega) fun k S2 k0 k1 hp2 hk2 => ?_
    obtain ⟨c, hc, hc2⟩ := letter_ok k0 k1
    walk_at "sj"
    refine ⟨zs ++ [⟨#[c]⟩], by simp, by simp [hz], ?_, (hk1.trans hk2).1, (hk1.trans hk2).2⟩
    intro z hz
    rcases List.mem_append.1 hz with q | q
    · exact hzs z q
    · simp only [List.mem_cons, List.not_mem_nil, or_false] at q
      subst q
      exact ⟨sOk_one hc2, rfl⟩
  · rintro acc S1 ⟨zs, rfl, hz, hzs, hp1, hk1⟩
    exact h zs S1 hzs (by omega) hp1 hk1
theorem four_ok {k : Int} (h0 : 0 ≤ k) (h1 : k < 4) : ∃ w : Int, atI [D.int 7, .int 5, .int 11, .int 17] k = some (.int w) ∧ 0 ≤ w ∧ w ≤ 17 := by
  have : k = 0 ∨ k = 1 ∨ k = 2 ∨ k = 3 := by omega
  rcases this with rfl | rfl | rfl | rfl
  · exact ⟨_, rfl, by omega, by omega⟩
  · exact ⟨_, rfl, by omega, by omega⟩
  · exact ⟨_, rfl, by omega, by omega⟩
  · exact ⟨_, rfl, by omega, by omega⟩
theorem special_ok {k : Int} (h0 : 0 ≤ k) (h1 : k < 4) : ∃ z : Str, atI [D.str "mill", .str "x", .str "turn", .str "trunk"] k = some (.str z) ∧ NmOk z := by
  have : k = 0 ∨ k = 1 ∨ k = 2 ∨ k = 3 := by omega
  rcases this with rfl | rfl | rfl | rfl
  · exact ⟨_, rfl, by decide +kernel, by decide +kernel⟩
  · exact ⟨_, rfl, by decide +kernel, by decide +kernel⟩
  · exact ⟨_, rfl, by decide +kernel, by decide +kernel⟩
  · exact ⟨_, rfl, by decide +kernel, by decide +kernel⟩
def restRA : List Sm := [
      .asg (.nm 11) (.ix (.lst false [.str "mill", .str "x", .str "turn", .str "trunk"]) (.call 0 [.var 0, .int 4])),
      .ife (.boo true [.cmp .eq (.call 0 [.var 0, .int 6]) (.int 0), .cmp .nin (.var 11) (.var 10)]) [
        .setIx (.var 10) (.call 0 [.var 0, .var 1]) (.var 11)] [],
      .ret (some (.frz 10))]
/-- names that end at a special one -/
theorem names_end {S0 S : Store} {p n : Nat} {m : Int} {x3 x4 x5 x6 x7 x8 x9 x12 x13 : Option D} {zs : List Str} (hp : PenAt S p) (hk0 : Kept [p] S0 S) (hpl : p < S0.length) (hn : S0.length ≤ n) (hc : S[n]? = some (some (.lst (zs.map D.str))))
    (hz : ∀ z ∈ zs, NmOk z) (hl : (zs.length : Int) = m) (h1 : m ≤ 1000) (h0 : 1 ≤ m) {P : Po}
    (h : ∀ (ys : List Str) S', (∀ z ∈ ys, NmOk z) → (ys.length : Int) = m → PenAt S' p → Kept [p] S0 S' → P.T (.lst (ys.map .str)) S') :
    Ws ⟨[f_l_draw], [], []⟩ restRA [some (.loc p), some (.int m), some (.str letters), x3, x4, x5, x6, x7, x8, x9, some (.loc n), none, x12, x13] S P := by
  unfold restRA
  have nn : n ∉ [p] := by simp; omega
  walk_at "sj"
  refine draw_ok hp (by omega) (by omega) fun k S1 k0 k1 hp1 hk1 => ?_
  obtain ⟨w, hw, hwn⟩ := special_ok k0 k1
  have hc1 : S1[n]? = some (some (.lst (zs.map D.str))) := hk1.at hc nn
  walk_at "sj"
  refine draw_ok hp1 (by omega) (by omega) fun k2 S2 k20 k21 hp2 hk2 => ?_
  have hc2 : S2[n]? = some (some (.lst (zs.map D.str))) := hk2.at hc1 nn
  have e2 : ∀ x, COp.ev .nin x (.loc n) S2 = COp.ev .nin x (.lst (zs.map D.str)) S2 := fun x => nin_loc hc2
  have hws : PyData.strOk w = true := hwn.1
  have hzs : zs.all PyData.strOk = true := List.all_eq_true.2 fun z q => (hz z q).1
  have kk : Kept [p] S0 S2 := (hk0.trans hk1).trans hk2
  have hlt := At.lt hc2
  walk_at "sj"
  walk_at "sp"
  · walk_at "sj"
    refine draw_ok hp2 (by omega) (by omega) fun k3 S3 k30 k31 hp3 hk3 => ?_
    have hc3 : S3[n]? = some (some (.lst (zs.map D.str))) := hk3.at hc2 nn
    have hlt3 := At.lt hc3
    have hix : ixN zs.length k3 = some k3.toNat := by unfold ixN; rw [if_pos k30, if_pos (by omega)]
    have hset : (zs.map D.str).set k3.toNat (.str w) = (zs.set k3.toNat w).map D.str := by rw [List.map_set]
    walk_at "sj"
    refine h (zs.set k3.toNat w) _ (fun z q => ?_) (by rw [List.length_set]; exact hl) (hp3.set (by omega)) ((kk.trans hk3).setO (.inr hn))
    rcases List.mem_or_eq_of_mem_set q with q | rfl
    · exact hz z q
    · exact hwn
  · walk_at "sj"
    exact h zs _ hz hl (hp2.set (by omega)) ((kk).setO (.inr hn))
theorem found1_ra {S : Store} {m bg step : Int} {ah la : Str} {ρ : EnvD} (hρ2 : ρ[2]? = some (some (.str letters))) (hρ3 : ρ[3]? = some (some (.int bg))) (hρ5 : ρ[5]? = some (some (.int step))) (hρ8 : ρ[8]? = some (some (.str ah))) (hρ9 : ρ[9]? = some (some (.str la)))
    (hρ : 12 < ρ.length) (s0 : 0 ≤ step) (s1 : step ≤ 17) (b0 : 0 ≤ bg) (h0 : 0 ≤ m) (h1 : m ≤ 100) (ho1 : sOk ah) (ho2 : sOk la) (hl : ah.length + 1 + la.length ≤ 8) {X : XD} {Q : List D → Store → Prop}
    (h : ∀ zs : List Str, (∀ z ∈ zs, NmOk z) → (zs.length : Int) = m → Q (zs.map D.str) S) :
    (LcR ⟨[f_l_draw], [], []⟩ (.nm 12) [] (.bin .add false (.bin .add false (.var 8) (.ix (.var 2) (.bin .mod false (.bin .add false (.var 3) (.bin .mul false (.var 5) (.var 12))) (.int 26)))) (.var 9)) none S ρ (rngD 0 m) S).satx X Q := by
  have hl2 : (rngD 0 m).length = m.toNat := by rw [rngD_eq, List.length_map, len_rngI]; omega
  refine lc_inv (fun i acc S' => ∃ zs : List Str, acc = zs.map D.str ∧ zs.length = i ∧ (∀ z ∈ zs, NmOk z) ∧ S' = S) ?_ ?_ ⟨[], rfl, rfl, by simp, rfl⟩
  · rintro i x acc S1 hx ⟨zs, rfl, hz, hzs, rfl⟩
    have hi : i < (rngD 0 m).length := (List.getElem?_eq_some_iff.1 hx).1
    obtain ⟨rfl, hi2⟩ := rngD_get hx
    refine ⟨_, rfl, ?_⟩
    have e2 : (ρ.set 12 (some (.int (0 + (i : Int)))))[2]? = some (some (.str letters)) := by rw [List.getElem?_set_ne (by decide)]; exact hρ2
    have e3 : (ρ.set 12 (some (.int (0 + (i : Int)))))[3]? = some (some (.int bg)) := by rw [List.getElem?_set_ne (by decide)]; exact hρ3
    have e5 : (ρ.set 12 (some (.int (0 + (i : Int)))))[5]? = some (some (.int step)) := by rw [List.getElem?_set_ne (by decide)]; exact hρ5
    have e8 : (ρ.set 12 (some (.int (0 + (i : Int)))))[8]? = some (some (.str ah)) := by rw [List.getElem?_set_ne (by decide)]; exact hρ8
    have e9 : (ρ.set 12 (some (.int (0 + (i : Int)))))[9]? = some (some (.str la)) := by rw [List.getElem?_set_ne (by decide)]; exact hρ9
    have e12 : (ρ.set 12 (some (.int (0 + (i : Int)))))[12]? = some (some (.int (0 + (i : Int)))) := List.getElem?_set_self hρ
    obtain ⟨c, hc, hc2⟩ := letter_ok (k := (bg + step * (0 + (i : Int))) % 26) (Int.emod_nonneg _ (by omega)) (Int.emod_lt_of_pos _ (by omega))
    have hlt : letters.length ≤ 16777216 := by decide +kernel
    have hone : (⟨#[c]⟩ : Str).length = 1 := rfl
    have hla : (ah ++ ⟨#[c]⟩ : Str).length = ah.length + 1 := by rw [len_app2, hone]
    generalize ρ.set 12 (some (.int (0 + (i : Int)))) = ρ' at *
    walk_at "sj"
    refine ⟨zs ++ [ah ++ ⟨#[c]⟩ ++ la], by simp, by simp [hz], ?_⟩
    intro z hz
    rcases List.mem_append.1 hz with q | q
    · exact hzs z q
    · simp only [List.mem_cons, List.not_mem_nil, or_false] at q
      subst q
      refine ⟨sOk_app (sOk_app ho1 (sOk_one hc2)) ho2, ?_⟩
      rw [len_app2, hla]
      omega
  · rintro acc S1 ⟨zs, rfl, hz, hzs, rfl⟩
    exact h zs hzs (by omega)
theorem enD_get {xs : List D} {i : Nat} {x : D} (h : (enD xs)[i]? = some x) : ∃ d, xs[i]? = some d ∧ x = .tup [.int (i : Nat), d] := by
  unfold enD at h
  rw [List.getElem?_map, List.getElem?_zipIdx] at h
  cases e : xs[i]? with
  | none => rw [e] at h; cases h
  | some d => rw [e] at h; cases h; exact ⟨d, rfl, by simp⟩
theorem enD_len {xs : List D} : (enD xs).length = xs.length := by unfold enD; simp
theorem found2_ra {S : Store} {g : Option Nat} {a sz : Int} {zs : List Str} {ρ : EnvD} (hρ4 : ρ[4]? = some (some (.int sz))) (hρ6 : ρ[6]? = some (some (.int a))) (hρ : 13 < ρ.length) (hz : ∀ z ∈ zs, NmOk z) (hl : zs.length ≤ 100) {X : XD} {Q : List D → Store → Prop}
    (h : ∀ ys : List Str, (∀ z ∈ ys, NmOk z) → ys.length = zs.length → Q (ys.map D.str) S) :
    (LcR ⟨[f_l_draw], [], []⟩ (.tup [(.nm 12), (.nm 13)]) [] (.slc false (.var 13) none (some (.bi .max2 false [.bin .add false (.var 6) (.int 1), .bin .sub false (.var 4) (.bin .mod false (.var 12) (.int 3))]))) g S ρ (enD (zs.map D.str)) S).satx X Q := by
  refine lc_inv (fun i acc S' => ∃ ys : List Str, acc = ys.map D.str ∧ ys.length = i ∧ (∀ z ∈ ys, NmOk z) ∧ S' = S) ?_ ?_ ⟨[], rfl, rfl, by simp, rfl⟩
  · rintro i x acc S1 hx ⟨ys, rfl, hy, hys, rfl⟩
    have hi : i < (enD (zs.map D.str)).length := (List.getElem?_eq_some_iff.1 hx).1
    rw [enD_len, List.length_map] at hi
    obtain ⟨d, hd, rfl⟩ := enD_get hx
    obtain ⟨z, hz1, rfl⟩ := map_get hd
    have hzo := hz z (List.mem_of_getElem? hz1)
    have hzl := hzo.2
    refine ⟨_, rfl, ?_⟩
    have e4 : ((ρ.set 12 (some (.int (i : Nat)))).set 13 (some (.str z)))[4]? = some (some (.int sz)) := by rw [List.getElem?_set_ne (by decide), List.getElem?_set_ne (by decide)]; exact hρ4
    have e6 : ((ρ.set 12 (some (.int (i : Nat)))).set 13 (some (.str z)))[6]? = some (some (.int a)) := by rw [List.getElem?_set_ne (by decide), List.getElem?_set_ne (by decide)]; exact hρ6
    have e12 : ((ρ.set 12 (some (.int (i : Nat)))).set 13 (some (.str z)))[12]? = some (some (.int (i : Nat))) := by rw [List.getElem?_set_ne (by decide)]; exact List.getElem?_set_self (by omega)
    have e13 : ((ρ.set 12 (some (.int (i : Nat)))).set 13 (some (.str z)))[13]? = some (some (.str z)) := List.getElem?_set_self (by simpa using hρ)
    generalize (ρ.set 12 (some (.int (i : Nat)))).set 13 (some (.str z)) = ρ' at *
    walk_at "sj"
    refine ⟨fun _ _ => rfl, ys ++ [cutS z none (some (max (a + 1) (sz - (i : Int) % 3)))], by simp, by simp [hy], ?_⟩
    intro y hy
    rcases List.mem_append.1 hy with q | q
    · exact hys y q
    · simp only [List.mem_cons, List.not_mem_nil, or_false] at q
      subst q
      exact ⟨sOk_cut hzo.1, Nat.le_trans (cutS_length _ _ _) hzl⟩
  · rintro acc S1 ⟨ys, rfl, hy, hys, rfl⟩
    rw [enD_len, List.length_map] at hy
    exact h ys hys hy
theorem names_ra {S : Store} {p : Nat} {m : Int} (hp : PenAt S p) (h0 : 1 ≤ m) (h1 : m ≤ 26) {X : XD} {Q : QD}
    (h : ∀ (zs : List Str) S', (∀ z ∈ zs, NmOk z) → (zs.length : Int) = m → PenAt S' p → Kept [p] S S' → Q (.lst (zs.map .str)) S') : (f_l_names_ra [.loc p, .int m] S).satx X Q := by
  refine fn_sx rfl ?_
  unfold b_l_names_ra
  change Ws _ (_ :: _ :: _ :: _ :: _ :: _ :: _ :: restRA) _ _ _
  have hlt : letters.length ≤ 16777216 := by decide +kernel
  have hll : letters.length = 26 := by decide +kernel
  have pl := hp.lt
  walk_at "sj"
  refine draw_ok hp (by omega) (by omega) fun bg S1 b0 b1 hp1 hk1 => ?_
  walk_at "sj"
  refine draw_ok hp1 (by omega) (by omega) fun sz S2 s0 s1 hp2 hk2 => ?_
  walk_at "sj"
  refine draw_ok hp2 (by omega) (by omega) fun st S3 t0 t1 hp3 hk3 => ?_
  obtain ⟨step, hst, st0, st1⟩ := four_ok t0 t1
  walk_at "sj"
  refine draw_ok hp3 (by omega) (by omega) fun a S4 a0 a1 hp4 hk4 => ?_
  walk_at "sj"
  refine word_ra hp4 rfl rfl (by omega) (by omega) fun ws S5 hz hzl hp5 hk5 => ?_
  have hsum : (ws.map (·.length)).sum = ws.length := by
    clear hzl
    induction ws with
    | nil => rfl
    | cons z r ih =>
      rw [List.map_cons, List.sum_cons, ih fun y hy => hz y (List.mem_cons_of_mem _ hy), (hz z (by simp)).2, List.length_cons]
      omega
  have he : (Str.ofString "").length = 0 := by decide
  have hwl : (Txt.join (Str.ofString "") ws).length = ws.length := (len_join0 ws).trans hsum
  have hwo : sOk (Txt.join (Str.ofString "") ws) := sOk_join (by decide +kernel) fun z q => (hz z q).1
  have kk : Kept [p] S S5 := (((hk1.trans hk2).trans hk3).trans hk4).trans hk5
  walk_at "sj"
  generalize Txt.join (Str.ofString "") ws = wd at hwl hwo ⊢
  have ha1 := ra_cut1 (z := wd) (k := a) a0
  have ha2 := ra_cut2 (z := wd) (k := a + 1) (by omega)
  have ho1 : sOk (cutS wd none (some a)) := sOk_cut hwo
  have ho2 : sOk (cutS wd (some (a + 1)) none) := sOk_cut hwo
  clear hsum he hz
  walk_at "sj"
  generalize cutS wd none (some a) = ah at ha1 ho1 ⊢
  generalize cutS wd (some (a + 1)) none = la at ha2 ho2 ⊢
  clear hwo
  change (LcR ⟨[f_l_draw], [], []⟩ _ _ _ none S5 [some (.loc p), some (.int m), some (.str letters), some (.int bg), some (.int (1 + sz)), some (.int step), some (.int a), some (.str wd), some (.str ah), some (.str la), none, none, none, none] _ S5).satx _ _
  refine found1_ra rfl rfl rfl rfl rfl (by simp) st0 st1 b0 (by omega) (by omega) ho1 ho2 (by omega) fun zs hz hzl2 => ?_
  walk_at "sj"
  refine draw_ok hp5.app (by omega) (by omega) fun q S6 q0 q1 hp6 hk6 => ?_
  have p5 := hp5.lt
  have k5 : S.length ≤ S5.length := kk.1
  have hc6 : S6[S5.length]? = some (some (.lst (zs.map D.str))) := hk6.at at_app (by simp; omega)
  have kk6 : Kept [p] S S6 := (kk.app).trans hk6
  walk_at "sj"
  walk_at "sp"
  · walk_at "sj"
    rw [← en_map (mk := D.str) (xs := zs)]
    refine found2_ra (sz := 1 + sz) (a := a) ?_ ?_ ?_ hz (by omega) fun ys hy hyl => ?_
    · rfl
    · rfl
    · exact Nat.le_of_ble_eq_true rfl
    walk_at "sj"
    refine names_end (S0 := S) hp6.app (kk6.app) pl kk6.1 (by simp) hy (by omega) (by omega) h0 fun ys S' a b c d => ?_
    exact h ys S' a b c d
  · walk_at "sj"
    refine names_end (S0 := S) hp6 kk6 pl k5 hc6 hz hzl2 (by omega) h0 fun ys S' a b c d => ?_
    exact h ys S' a b c d
end SW

/-! PB: drawn names, rules, boards. -/
namespace SW
open PySem PySem.Spec PyProof.Rows L2 DL
structure RuleR where
  g : Str
  bs : List Str
  n : Int
structure BrdR where
  l : Int
  t : Int
  b : Int
  w : Int
  h : Int
  o : Int
  y : Bool
  g : Str
end SW

/-! FA: boards and orders: digits, names, rules. -/
namespace SW
open PySem PySem.Spec PyProof.Rows L2 DL
/- axis_of (k46): 0 way -/
/- long_of (k46): 0 board -/
/- stands_at (k46): 0 grade, 1 rules, 2 at, 3 rule -/
/- _law_digits (k46): 0 _law_script, 1 _law_k, 2 _law_cell, 3 _law_total, 4 _law_number, 5 _law_turn -/
/- _law_take (k46): 0 _law_held, 1 _law_many, 2 _law_found -/
/- _law_board (k46): 0 _law_grade, 1 _law_way, 2 _law_sizes_here, 3 _law_spot, 4 _law_thick, 5 _law_breadth, 6 _law_long, 7 _law_wide, 8 _law_high -/
/- _law_sizes (k46): 0 _law_board_here, 1 _law_body, 2 _law_way, 3 _law_grade -/
/- breadth_of (k46): 0 board -/
/- thick_of (k46): 0 board -/
/- is_good (k46): 0 board, 1 grade, 2 rules, 3 least, 4 own -/
/- _law_names (k46): 0 _law_held, 1 _law_many, 2 _law_letters, 3 _law_word, 4 _law_at, 5 _law_first, 6 _law_turn, 7 _law_found, 8 _law_k, 9 _law_letter -/
/- _law_fits (k46): 0 _law_board_here, 1 _law_order, 2 _law_rules_here, 3 _law_names_here, 4 _law_thick, 5 _law_breadth, 6 _law_long, 7 _law_rule -/
/- _law_near (k46): 0 _law_held, 1 _law_number, 2 _law_far, 3 _law_way -/
/- misfit (k46): 0 board, 1 order, 2 rules, 3 grade, 4 thick, 5 breadth, 6 long -/
/- _law_rules (k46): 0 _law_held, 1 _law_many, 2 _law_rows, 3 _law_grade -/
/- _law_case (k46): 0 _law_held, 1 _law_rules_here, 2 _law_grades, 3 _law_own, 4 _law_far, 5 _law_sizes_here, 6 _law_spot, 7 _law_board_here, 8 _law_grade, 9 _law_thick, 10 _law_rule -/
/- fits (k46): 0 board, 1 order, 2 rules -/
/-- the digits held at p -/
def HeldAt (S : Store) (p : Nat) : Prop := ∃ n : Int, S[p]? = some (some (.lst [.int n]))
theorem HeldAt.lt {S : Store} {p : Nat} (h : HeldAt S p) : p < S.length := by
  obtain ⟨_, h⟩ := h
  exact At.lt h
theorem HeldAt.app {S : Store} {p : Nat} {xs : Store} (h : HeldAt S p) : HeldAt (S ++ xs) p := by
  obtain ⟨n, h⟩ := h
  exact ⟨n, by rw [List.getElem?_append_left (At.lt h)]; exact h⟩
theorem HeldAt.set {S : Store} {p q : Nat} {u : Option Cell} (h : HeldAt S p) (n : q ≠ p) : HeldAt (S.set q u) p := by
  obtain ⟨m, h⟩ := h
  exact ⟨m, by rw [List.getElem?_set_ne n]; exact h⟩
end SW

/-! FB: a board and an order. -/
namespace SW
open PySem PySem.Spec PyProof.Rows L2 DL
def pos (g : Str) (rs : List RuleR) : Option Nat := rs.findIdx? fun r => decide (r.g = g)
structure OrdR where
  g : Str
  t : Int
  b : Int
  o : Int
end SW

/-! GA: grades and parts of boards. -/
namespace SW
open PySem PySem.Spec PyProof.Rows L2 DL
/- shares_place (k32): 0 begin, 1 long, 2 other, 3 reach -/
/- keeps (k32): 0 kinds, 1 rule, 2 grade, 3 barred, 4 most, 5 kind -/
/- cells_of (k32): 0 body -/
/- with_span (k32): 0 body, 1 axis, 2 begin, 3 many, 4 found -/
/- touch (k32): 0 one, 1 other, 2 k -/
/- touching (k32): 0 body, 1 flaws, 2 kind, 3 there -/
/- grade_of (k32): 0 body, 1 flaws, 2 rules, 3 kinds, 4 rule -/
/- board_from (k32): 0 body, 1 way, 2 flaws, 3 measures, 4 saw, 5 edge, 6 narrow, 7 short, 8 slow, 9 rules, 10 grade, 11 board -/
/- sundered (k32): 0 board, 1 axis, 2 many, 3 flaws, 4 measures, 5 body, 6 way, 7 grade, 8 begin, 9 whole, 10 gone, 11 told, 12 slab, 13 first, 14 size, 15 part, 16 span -/
/- ripped (k32): 0 board, 1 breadth, 2 flaws, 3 measures -/
/- crossed (k32): 0 board, 1 long, 2 flaws, 3 measures -/
/-- a body of a trunk: where it begins, how far it goes -/
structure BdR where
  l : Int
  t : Int
  b : Int
  w : Int
  h : Int
  o : Int
structure FlR where
  k : Str
  b : BdR
structure MsR where
  saw : Int
  edge : Int
  nar : Int
  sho : Int
  slow : Int
  rs : List RuleR
end SW

/-! GB: boards parted. -/
namespace SW
open PySem PySem.Spec PyProof.Rows L2 DL
end SW

/-! PC: alike all the way down (the yard's laws). -/
namespace SW
open PySem PySem.Spec PyProof.Rows L2 DL
end SW

/-! GC: drawn measures, bodies, flaws; what is due of a parting. -/
namespace SW
open PySem PySem.Spec PyProof.Rows L2 DL
/- _law_grade (k26): 0 _law_body, 1 _law_flaws, 2 _law_rules, 3 _law_kinds, 4 _law_kind, 5 _law_there, 6 _law_grade_here, 7 _law_barred, 8 _law_limit, 9 _law_apart, 10 _law_k -/
/- _law_span (k26): 0 _law_body, 1 _law_axis_here, 2 _law_begin, 3 _law_many, 4 _law_found -/
/- _law_axis (k26): 0 _law_board, 1 _law_along -/
/- _law_some_body (k26): 0 _law_pen, 1 _law_sizes, 2 _law_begins, 3 _law_longs, 4 _law_size -/
/- _law_part_due (k26): 0 _law_body, 1 _law_way, 2 _law_flaws, 3 _law_measures, 4 _law_grade_here, 5 _law_breadth -/
/- _law_some_flaws (k26): 0 _law_pen, 1 _law_kinds, 2 _law_sizes, 3 _law_limit, 4 _law_found, 5 _law_k -/
/- _law_parted_due (k26): 0 _law_board, 1 _law_along, 2 _law_many, 3 _law_flaws, 4 _law_measures, 5 _law_body, 6 _law_way, 7 _law_grade_here, 8 _law_axis_here, 9 _law_begin, 10 _law_end, 11 _law_after, 12 _law_each, 13 _law_one, 14 _law_other, 15 _law_slab -/
/- _law_some_measures (k26): 0 _law_pen, 1 _law_kinds, 2 _law_narrow, 3 _law_short, 4 _law_slow -/
end SW

/-! GD: what is due of a parting, by the laws' own account. -/
namespace SW
open PySem PySem.Spec PyProof.Rows L2 DL
/-! ### a parting -/
end SW

/-! DLmk: classes of exceptions: their own __init__. -/
namespace DL
open PySem PySem.Spec PyProof.Rows L2

/-- B's __init__ is that of ValueError -/
structure BaseIn (K : PySem.W.Frag) (B : Addr) : Prop where
  hg : PySem.W.specialIn K (.ref B) "__getattribute__" = some (some (.builtin "type.__getattribute__"))
  hr : PySem.W.readsIn K B (.type "type") = true
  e : PySem.W.findCls K (.ref B) (.type "type") "__init__" = some (.val (.builtin "ValueError.__init__"))
section
variable {X : Cx} {pos : Pos}
theorem handVE : PySem.W.handedIn (.builtin "ValueError.__init__") = true := by decide +kernel
/-- B.__init__(self, ..) -/
theorem pe_ownInit {b : Str} {B : Addr} {e : Expr} {es : List Expr} {ta : TA} {p1 p2 : Pos} (T : BaseIn X.K B) (hg : Gl X b) (hm : X.mg b = some (.ref B)) (hd : (b == ("__debug__" : Str)) = false) (ha : PA X (e :: es) ta) (hline : (p2.endLine == pos.line) = true)
    (hform : methodCallForm ((e :: es).length + ([] : List Keyword).length) (backTo pos (starEach (e :: es) X.env)) (backToKw pos (keywordEach [] X.env)) = true)
    (he : starEach (e :: es) X.env = (false, eval e X.env) :: starEach es X.env := by rfl) (hpl : (backTo pos (starEach es X.env)).any (·.1) = false := by rfl) :
    PE X (.Call (.Attribute (.Name b p1) "__init__" p2) (e :: es) [] pos) (tVeI X.K ta) := by
  constructor
  intro pins s σ H Q I h
  have hpos : methodCallPos true (.Name b p1) X.env p2 pos = pure pos := by unfold methodCallPos; simp [hline]
  rw [arm_eval_Call]
  show wpAny _ _ (eval (.Name b p1) X.env >>= _) _ _ _
  refine wpAny_bind (ld_glob I hg hm ?_ hd)
  refine wpAny_bind (wpAny_standAt ?_)
  unfold methodCall
  rw [hform]
  refine wpAny_bind (wpAny_holding ?_)
  show wpAny _ _ (getMethod (.ref B) "__init__" _) _ _ _
  refine PySem.W.method_cls I.kIn T.hg (PySem.W.cls_value I.kIn T.hr T.e handVE ?_)
  refine wpAny_bind (wpAny_of_eq hpos ?_)
  refine PyProof.Rows.callWith_method1 (thn (ha.run pos pins _ σ H _ (I.tok _) h) fun us s1 ⟨vs, H1, I1, r1, a, C, ws, ev, hl, O, ea, q⟩ => ?_) he hpl
  subst ev
  cases r1 with
  | @cons _ u0 _ ur ra rw' =>
    obtain rfl : u0 = Value.ref a := ra
    refine oinit_ok O I1 ea ?_ fun s' J => ⟨.non, H1, J, rfl, q⟩
    rw [← Paired.length rw', sizeLine_eq]
    omega
end
/-! ### the text of such an __init__ -/
/-- B.__init__(self, "..") -/
def baseCall (b : Str) : Stmt → Bool
  | .Expr (.Call (.Attribute (.Name x _) y p) [.Name z _, .Constant (.str _) _ _] [] q) _ => decide (x = b) && decide (y = "__init__") && decide (z = "self") && (p.endLine == q.line)
  | _ => false
/-- self.f = a -/
def fieldSet (f a : Str) : Stmt → Bool
  | .Assign [.Attribute (.Name z _) y _] (.Name x _) _ => decide (z = "self") && decide (y = f) && decide (x = a)
  | _ => false
/-- self.f = list(a) -/
def fieldList (f a : Str) : Stmt → Bool
  | .Assign [.Attribute (.Name z _) y _] (.Call (.Name l _) [.Name x _] [] _) _ => decide (z = "self") && decide (y = f) && decide (x = a) && decide (l = "list")
  | _ => false
def ini1B (b f a : Str) (ss : List Stmt) : Bool := match ss with
  | [s0, s1] => baseCall b s0 && fieldSet f a s1
  | _ => false
def ini2B (b f a g c : Str) (ss : List Stmt) : Bool := match ss with
  | [s0, s1, s2] => baseCall b s0 && fieldSet f a s1 && fieldSet g c s2
  | _ => false
def iniLB (b f a : Str) (ss : List Stmt) : Bool := match ss with
  | [s0, s1] => baseCall b s0 && fieldList f a s1
  | _ => false
/-- the names of the def: parameters, the base class -/
def iniN (N : List Str) (b : Str) (sc : Scope) : Bool := scopeB N N sc && glB sc.names b && okNm b && N.all (fun x => visB sc.names x && okNm x)
section
variable {X : Cx}
theorem base_run {b : Str} {B : Addr} {s0 : Stmt} (T : BaseIn X.K B) (hg : Gl X b) (hm : X.mg b = some (.ref B)) (hd : (b == ("__debug__" : Str)) = false) (h0 : X.N[0]? = some ("self" : Str)) (hv : Vis X.env.scope "self") (h : baseCall b s0 = true) :
    ∃ t, PS X s0 t ∧ ∀ D σ H (a C : Addr), σ[0]? = some (some (.ref a)) → H a = some (exo a C none) → OexC X.K C → D.nx σ H → t D σ H := by
  unfold baseCall at h
  split at h
  · rename_i x p1 y p2 z p3 m j p4 p5 p6
    simp only [Bool.and_eq_true, decide_eq_true_eq] at h
    obtain ⟨⟨⟨rfl, rfl⟩, rfl⟩, hl⟩ := h
    have P := pe_ownInit (pos := p5) (p1 := p1) (p2 := p2) T hg hm hd (pa_cons (pe_var (pos := p3) h0 hv rfl rfl) (pa_cons (pe_str (X := X) (x := m) (j := j) (pos := p4)) pa_nil rfl) rfl) hl rfl
    refine ⟨_, ps_expr P rfl, fun D σ H a C e1 e2 e3 q => ?_⟩
    exact ⟨.ref a, e1, a, C, [.str m], rfl, by simp, e3, e2, q⟩
  · cases h
theorem set_run {f a : Str} {i : Nat} {s1 : Stmt} (h0 : X.N[0]? = some ("self" : Str)) (hv : Vis X.env.scope "self") (hi : X.N[i]? = some a) (hva : Vis X.env.scope a) (d1 : (a == ("__debug__" : Str)) = false) (d2 : (a == ("__classdict__" : Str)) = false) (h : fieldSet f a s1 = true) :
    ∃ t, PS X s1 t ∧ ∀ D σ H (x C : Addr) (y : V), σ[0]? = some (some (.ref x)) → σ[i]? = some (some y) → OexC X.K C → PySem.W.findIn X.K (.ref C) f = some none →
      ((H x = some (exo x C none) ∧ ∀ dx, H dx = none → dx ≠ x → D.nx σ (upd (upd H dx (exd dx [(f, y)])) x (exo x C (some dx)))) ∨
        ∃ (dx : Addr) (fs : List (Str × V)), H x = some (exo x C (some dx)) ∧ H dx = some (exd dx fs) ∧ fs.length ≤ 900 ∧ D.nx σ (upd H dx (exd dx ((f, y) :: fs)))) → t D σ H := by
  unfold fieldSet at h
  split at h
  · rename_i z p1 y p2 x p3 p4
    simp only [Bool.and_eq_true, decide_eq_true_eq] at h
    obtain ⟨⟨rfl, rfl⟩, rfl⟩ := h
    refine ⟨_, ps_ost (pe_var (pos := p1) h0 hv rfl rfl) (pe_var (pos := p3) hi hva d1 d2) rfl, fun D σ H x C y e1 e2 e3 e4 q => ?_⟩
    exact ⟨y, e2, .ref x, e1, x, C, rfl, e3, e4, q⟩
  · cases h
theorem list_run {f a : Str} {i : Nat} {s1 : Stmt} (h0 : X.N[0]? = some ("self" : Str)) (hv : Vis X.env.scope "self") (hi : X.N[i]? = some a) (hva : Vis X.env.scope a) (d1 : (a == ("__debug__" : Str)) = false) (d2 : (a == ("__classdict__" : Str)) = false) (hg : Gl X "list") (hm : X.mg "list" = none) (h : fieldList f a s1 = true) :
    ∃ t, PS X s1 t ∧ ∀ D σ H (x C p : Addr) (ys : List V), σ[0]? = some (some (.ref x)) → σ[i]? = some (some (.ref p)) → SqL X.K H p ys → OexC X.K C → PySem.W.findIn X.K (.ref C) f = some none → H x = some (exo x C none) →
      (∀ l dx, H l = none → H dx = none → dx ≠ x → l ≠ x → l ≠ dx → D.nx σ (upd (upd (upd H l (.lst ys)) dx (exd dx [(f, .ref l)])) x (exo x C (some dx)))) → t D σ H := by
  unfold fieldList at h
  split at h
  · rename_i z p1 y p2 l p3 x p4 p5 p6
    simp only [Bool.and_eq_true, decide_eq_true_eq] at h
    obtain ⟨⟨⟨rfl, rfl⟩, rfl⟩, rfl⟩ := h
    refine ⟨_, ps_ost (pe_var (pos := p1) h0 hv rfl rfl) (pe_callTy call_list_of hg hm PyProof.Rows.boot_list (pa_cons (pe_var (pos := p4) hi hva d1 d2) pa_nil rfl) (by decide) (by decide) rfl rfl) rfl, fun D σ H x C p ys e1 e2 hq e3 e4 e5 q => ?_⟩
    refine ⟨.ref p, e2, p, ys, rfl, .inl hq, fun l hl => ⟨.ref x, e1, x, C, rfl, e3, e4, .inl ⟨?_, fun dx hdx hda => ?_⟩⟩⟩
    · rw [upd_ne (ne_of_none e5 hl)]; exact e5
    · have hld : l ≠ dx := fun z => by
        subst z
        rw [upd_same] at hdx
        cases hdx
      have hdx' : H dx = none := by rwa [upd_ne (Ne.symm hld)] at hdx
      exact q l dx hl hdx' hda (fun z => by subst z; rw [e5] at hl; cases hl) hld
  · cases h
end
section
variable {P : Program} {w : World} {K : PySem.W.Frag} {mg : Str → Option Value} {base : Heap}
theorem iniN_ok {N : List Str} {b : Str} {sc : Scope} (h : iniN N b sc = true) : FnScope N N sc ∧ sc.names.lookup b = some .globalImplicit ∧ (b == ("__debug__" : Str)) = false ∧ ∀ x ∈ N, (sc.names.lookup x = some .local ∨ sc.names.lookup x = some .cell ∨ sc.names.lookup x = some .free) ∧ (x == ("__debug__" : Str)) = false ∧ (x == ("__classdict__" : Str)) = false := by
  simp only [iniN, Bool.and_eq_true, List.all_eq_true] at h
  obtain ⟨⟨⟨h1, h2⟩, h3⟩, h4⟩ := h
  refine ⟨scope_of h1, ?_, okNm_1 h3, fun x hx => ?_⟩
  · unfold glB at h2
    split at h2
    · assumption
    · cases h2
  · obtain ⟨q1, q2⟩ := h4 x hx
    refine ⟨?_, okNm_1 q2, okNm_2 q2⟩
    unfold visB at q1
    split at q1
    · exact .inl (by assumption)
    · exact .inr (.inl (by assumption))
    · exact .inr (.inr (by assumption))
    · cases q1
theorem ini1_ok {qual : Str} {st : Stmt} {fI : Addr} {fd : FuncData} {b f a : Str} {B C : Addr} {k : Nat} (F : Fun K "__init__" qual st fI fd) (hn : iniN ["self", a] b (defScope st) = true) (hb : ini1B b f a (defBody st) = true) (T : BaseIn K B) (hm : mg b = some (.ref B)) (O : OexC K C) (hf : PySem.W.findIn K (.ref C) f = some none) :
    FnOk P w K mg base (L2.CX P w) (k + 1) fI fd ["self", a] (spIni K C (.args [f])) := by
  obtain ⟨S, hg, hd, hN⟩ := iniN_ok hn
  refine F.okX S (fun vs H Q E h => by obtain ⟨x, us, rfl, _, h, _⟩ := h; simpa using h) fun cdv Ar outer s H vs Q E hr h => ?_
  let X := cxOf (L2.CX P w) P w K mg base ["self", a] qual (defScope st) fI cdv Ar outer s H E
  obtain ⟨x, us, rfl, hx, hl, q⟩ := h
  have hl : us.length = 1 := hl
  match us, hl with
  | [y], _ =>
    unfold ini1B at hb
    split at hb
    · rename_i s0 s1 e
      rw [Bool.and_eq_true] at hb
      obtain ⟨v1, v2, v3⟩ := hN "self" (by simp)
      obtain ⟨w1, w2, w3⟩ := hN a (by simp)
      obtain ⟨t0, P0, q0⟩ := base_run (X := X) T hg hm hd rfl v1 hb.1
      obtain ⟨t1, P1, q1⟩ := set_run (X := X) rfl v1 (i := 1) rfl w1 w2 w3 hb.2
      rw [e]
      refine ⟨_, pss_cons P0 (pss_one P1), ?_⟩
      exact q0 _ _ H x C rfl hx O (q1 _ _ H x C y rfl rfl O hf (.inl ⟨hx, fun dx h1 h2 => q dx h1 h2⟩))
    · cases hb
theorem ini2_ok {qual : Str} {st : Stmt} {fI : Addr} {fd : FuncData} {b f a g c : Str} {B C : Addr} {k : Nat} (F : Fun K "__init__" qual st fI fd) (hn : iniN ["self", a, c] b (defScope st) = true) (hb : ini2B b f a g c (defBody st) = true) (T : BaseIn K B) (hm : mg b = some (.ref B)) (O : OexC K C) (hf : PySem.W.findIn K (.ref C) f = some none) (hg2 : PySem.W.findIn K (.ref C) g = some none) :
    FnOk P w K mg base (L2.CX P w) (k + 1) fI fd ["self", a, c] (spIni K C (.args [f, g])) := by
  obtain ⟨S, hg, hd, hN⟩ := iniN_ok hn
  refine F.okX S (fun vs H Q E h => by obtain ⟨x, us, rfl, _, h, _⟩ := h; simpa using h) fun cdv Ar outer s H vs Q E hr h => ?_
  let X := cxOf (L2.CX P w) P w K mg base ["self", a, c] qual (defScope st) fI cdv Ar outer s H E
  obtain ⟨x, us, rfl, hx, hl, q⟩ := h
  have hl : us.length = 2 := hl
  match us, hl with
  | [y, z], _ =>
    unfold ini2B at hb
    split at hb
    · rename_i s0 s1 s2 e
      rw [Bool.and_eq_true, Bool.and_eq_true] at hb
      obtain ⟨v1, v2, v3⟩ := hN "self" (by simp)
      obtain ⟨w1, w2, w3⟩ := hN a (by simp)
      obtain ⟨u1, u2, u3⟩ := hN c (by simp)
      obtain ⟨t0, P0, q0⟩ := base_run (X := X) T hg hm hd rfl v1 hb.1.1
      obtain ⟨t1, P1, q1⟩ := set_run (X := X) rfl v1 (i := 1) rfl w1 w2 w3 hb.1.2
      obtain ⟨t2, P2, q2⟩ := set_run (X := X) rfl v1 (i := 2) rfl u1 u2 u3 hb.2
      rw [e]
      refine ⟨_, pss_cons P0 (pss_cons P1 (pss_one P2)), ?_⟩
      refine q0 _ _ H x C rfl hx O (q1 _ _ H x C y rfl rfl O hf (.inl ⟨hx, fun dx h1 h2 => ?_⟩))
      refine q2 _ _ _ x C z rfl rfl O hg2 (.inr ⟨dx, [(f, y)], upd_same, by rw [upd_ne h2, upd_same], by simp, ?_⟩)
      have := q dx h1 h2
      have e2 : upd (upd (upd H dx (exd dx [(f, y)])) x (exo x C (some dx))) dx (exd dx [(g, z), (f, y)]) = upd (upd H dx (exd dx [(g, z), (f, y)])) x (exo x C (some dx)) := by
        funext n
        by_cases e1 : n = dx
        · subst e1; rw [upd_same, upd_ne h2, upd_same]
        · rw [upd_ne e1]
          by_cases e3 : n = x
          · subst e3; rw [upd_same, upd_same]
          · rw [upd_ne e3, upd_ne e3, upd_ne e1, upd_ne e1]
      show Q .non (upd (upd (upd H dx (exd dx [(f, y)])) x (exo x C (some dx))) dx (exd dx [(g, z), (f, y)]))
      rw [e2]
      exact this
    · cases hb
theorem iniL_ok {qual : Str} {st : Stmt} {fI : Addr} {fd : FuncData} {b f a : Str} {B C : Addr} {k : Nat} (F : Fun K "__init__" qual st fI fd) (hn : iniN ["self", a] b (defScope st) = true) (hgl : glB (defScope st).names "list" = true) (hb : iniLB b f a (defBody st) = true) (T : BaseIn K B) (hm : mg b = some (.ref B)) (hml : mg "list" = none) (O : OexC K C) (hf : PySem.W.findIn K (.ref C) f = some none) :
    FnOk P w K mg base (L2.CX P w) (k + 1) fI fd ["self", a] (spIni K C (.lst f)) := by
  obtain ⟨S, hg, hd, hN⟩ := iniN_ok hn
  refine F.okX S (fun vs H Q E h => by obtain ⟨x, us, rfl, _, p, ys, rfl, _⟩ := h; rfl) fun cdv Ar outer s H vs Q E hr h => ?_
  let X := cxOf (L2.CX P w) P w K mg base ["self", a] qual (defScope st) fI cdv Ar outer s H E
  obtain ⟨x, us, rfl, hx, p, ys, rfl, hq, q⟩ := h
  unfold iniLB at hb
  split at hb
  · rename_i s0 s1 e
    rw [Bool.and_eq_true] at hb
    obtain ⟨v1, v2, v3⟩ := hN "self" (by simp)
    obtain ⟨w1, w2, w3⟩ := hN a (by simp)
    have gl : (defScope st).names.lookup ("list" : Str) = some .globalImplicit := by
      unfold glB at hgl
      split at hgl
      · assumption
      · cases hgl
    obtain ⟨t0, P0, q0⟩ := base_run (X := X) T hg hm hd rfl v1 hb.1
    obtain ⟨t1, P1, q1⟩ := list_run (X := X) rfl v1 (i := 1) rfl w1 w2 w3 gl hml hb.2
    rw [e]
    refine ⟨_, pss_cons P0 (pss_one P1), ?_⟩
    exact q0 _ _ H x C rfl hx O (q1 _ _ H x C p ys rfl rfl hq O hf hx fun l dx a1 a2 a3 a4 a5 => q l dx a1 a2 a3 a4 a5)
  · cases hb
end
end DL
namespace DL
open PySem PySem.Spec PyProof.Rows L2
/-! ### what is known of the classes -/
def excB (K : PySem.W.Frag) (C : Addr) : Bool := decide (PySem.W.findIn K (.ref C) "__getattribute__" = some (some (.builtin "BaseException.__getattribute__"))) && decide (PySem.W.findIn K (.ref C) "__getattr__" = some none) &&
  decide (PySem.W.subIn K (.ref C) (.type "BaseException") = some true) && PySem.W.hasDictIn K C && decide (PySem.W.findIn K (.ref C) "__class__" = some (some (.builtin "object.__class__"))) &&
  decide (PySem.W.specialIn K (.builtin "object.__class__") "__get__" = some (some (.builtin "getset_descriptor.__get__"))) && decide (PySem.W.takesIn K (.builtin "object.__class__") = some true) && decide (PySem.W.mroIn K C (.type "object") = some true)
def xcB (K : PySem.W.Frag) (tbl : List (Str × Addr)) (C : Addr) (ups : List Str) : Bool :=
  excB K C && xfB K C && tbl.all (fun p => decide (PySem.W.kitOne K (.ref C) (.ref p.2) = some (decide (p.1 ∈ ups))) && decide (PySem.W.exmOne K (.ref C) (.ref p.2) = some (decide (p.1 ∈ ups)))) &&
  decide (PySem.W.kitOne K (.ref C) (.type "ValueError") = some true) && fNames.all fun f => decide (PySem.W.findIn K (.ref C) f = some none)
/-- the classes of the module's top, by their names -/
inductive XTab (mg : Str → Option Value) : List (Str × Addr) → Prop
  | nil : XTab mg []
  | cons {c : Str} {A : Addr} {r : List (Str × Addr)} : mg c = some (.ref A) → XTab mg r → XTab mg ((c, A) :: r)
theorem XTab.get {mg : Str → Option Value} {t : List (Str × Addr)} (h : XTab mg t) : ∀ p ∈ t, mg p.1 = some (.ref p.2) := by
  induction h with
  | nil => intro p a; simp at a
  | cons c _ ih =>
    intro p a
    rcases List.mem_cons.mp a with e | e
    · subst e; exact c
    · exact ih p e
theorem xc_of {K : PySem.W.Frag} {mg : Str → Option Value} {tbl : List (Str × Addr)} {nos : List Str} {C : Addr} {ups : List Str} (ht : XTab mg tbl) (hn : BnOk mg nos) (hall : (xNames.all fun c => tbl.any (fun p => decide (p.1 = c)) || decide (c ∈ nos)) = true) (h : xcB K tbl C ups = true) : XcOk K mg ups C := by
  simp only [xcB, excB, Bool.and_eq_true, decide_eq_true_eq, List.all_eq_true] at h
  obtain ⟨⟨⟨⟨⟨⟨⟨⟨⟨⟨⟨e1, e2⟩, e3⟩, e4⟩, e5⟩, e6⟩, e7⟩, e8⟩, h2⟩, h3⟩, h4⟩, h5⟩ := h
  refine ⟨⟨e1, e2, e3, e4, e5, e6, e7, e8⟩, xfB_ok h2, fun c' C' hc hm => ?_, h4, h5⟩
  have := List.all_eq_true.1 hall c' hc
  simp only [Bool.or_eq_true, List.any_eq_true, decide_eq_true_eq] at this
  rcases this with ⟨p, hp, rfl⟩ | q
  · have e := ht.get p hp
    rw [hm] at e
    cases e
    exact h3 p hp
  · rw [hn.get _ q] at hm
    cases hm
section
variable {P : Program} {w : World} {K : PySem.W.Frag} {mg : Str → Option Value} {base : Heap} {k : Nat} {c : Str} {ups : List Str} {C : Addr}
theorem maker_no {B newId initId : String} {bm : List Value} (hm : mg c = some (.ref C)) (T : XcOk K mg ups C) (k1 : PySem.W.keepIn K (.ref C) = true) (k2 : PySem.W.subIn K (.ref C) (.type "BaseException") = some true) (k3 : PySem.W.typeIn K (.ref C) = some (.type "type"))
    (F : ExcBaseFacts B newId initId bm) (q : PySem.W.excIn K C bm newId = true) : Maker P w K mg base k c ups .no := ⟨C, hm, T, k1, k2, k3, .inl ⟨rfl, B, newId, initId, bm, F, q⟩⟩
theorem maker_ini {ini : Ini} {fI : Addr} {fd : FuncData} {ps : List Str} (hm : mg c = some (.ref C)) (T : XcOk K mg ups C) (hi : ini ≠ .no) (O : OexC K C) (i1 : PySem.W.findIn K (.ref C) "__init__" = some (some (.ref fI))) (i2 : PySem.W.typeIn K (.ref fI) = some (.type "function"))
    (F1 : FnOk P w K mg base (L2.CX P w) k fI fd ps (spIni K C ini)) (hB : Binds K fd ps []) : Maker P w K mg base k c ups ini := ⟨C, hm, T, O.kC, O.exC, O.tyC, .inr ⟨hi, O, fI, fd, ps, i1, i2, F1, hB⟩⟩
end
/-- a statement within a class of the module's top -/
def inCls (j : Nat) : Stmt → Stmt
  | .ClassDef _ _ _ body _ _ _ _ _ _ _ => body.getD j (.Pass ⟨0, 0, 0, 0⟩)
  | s => s
end DL
namespace DL
open PySem PySem.Spec PyProof.Rows L2
abbrev veTailX : List Value := [.type "ValueError", .type "Exception", .type "BaseException", .type "object"]
end DL

/-! XA: raising, exceptions looked at, equal data: what the laws with exceptions share. -/
namespace DL
end DL
namespace SW
open PySem PySem.Spec PyProof.Rows L2 DL
theorem xall {tbl : List (Str × Addr)} {nos : List Str} (names : List Str) (h : tbl.map Prod.fst = names) (h2 : (xNames.all fun c => names.any (fun x => decide (x = c)) || decide (c ∈ nos)) = true) :
    (xNames.all fun c => tbl.any (fun p => decide (p.1 = c)) || decide (c ∈ nos)) = true := by
  subst h
  rw [← h2]
  congr 1
  funext c
  rw [List.any_map]
  rfl
mutual
theorem eqD_self : ∀ {n : Nat} {d : D}, okD n d = true → eqD d d = true
  | _, .non, _ => rfl
  | _, .bl a, _ => by rw [eqD_bl]; simp
  | _, .int a, _ => by rw [eqD_int]; simp
  | _, .str a, _ => by rw [eqD_str]; simp
  | n + 1, .tup xs, h => by
    rw [okD, Bool.and_eq_true] at h
    rw [eqD_tup]; exact eqDs_self h.2
  | n + 1, .lst xs, h => by
    rw [okD, Bool.and_eq_true] at h
    rw [eqD_lst]; exact eqDs_self h.2
  | 0, .tup xs, h => by simp [okD] at h
  | 0, .lst xs, h => by simp [okD] at h
  | n, .dK _, h => by cases n <;> simp [okD] at h
  | n, .dT _, h => by cases n <;> simp [okD] at h
  | n, .loc _, h => by cases n <;> simp [okD] at h
  | n, .scr _, h => by cases n <;> simp [okD] at h
  | n, .ctp _, h => by cases n <;> simp [okD] at h
  | n, .exn _ _ _, h => by cases n <;> simp [okD] at h
  | n, .fn _, h => by cases n <;> simp [okD] at h
theorem eqDs_self : ∀ {n : Nat} {xs : List D}, okDs n xs = true → eqDs xs xs = true
  | _, [], _ => rfl
  | n, x :: r, h => by
    rw [okDs, Bool.and_eq_true] at h
    rw [eqDs_cons, eqD_self h.1, eqDs_self h.2]; rfl
end
theorem neC_self {k : Nat} {d : D} (h : okD k d = true) (hk : k ≤ 60) (S : Store) : COp.ev .ne d d S = .ok (.bl false) S := by
  have hs := shp_mono hk (okD_shp h)
  rw [e_ne hs hs, eqD_self h]
  rfl
end SW

/-! K23a: refusals made and told. -/
namespace K23
open PySem PySem.Spec PyProof.Rows L2 DL SW
open K02 (f_l_far steps left leftD left_at)
/- _law_word (k23): 0 _law_caught, 1 _law_told, 2 _law_words, 3 _law_found, 4 _law_word_here, 5 _law_so -/
def b_l_word : List Sm := [
  .asg (.nm 1) (.lst false [.isX ["TooThick"] (.var 0), .isX ["NoBlock"] (.var 0), .isX ["TooBroad"] (.var 0)]),
  .asg (.nm 1) (.bin .add false (.var 1) (.lst false [.isX ["TooLong"] (.var 0), .isX ["Stacked"] (.var 0), .isX ["Overhang"] (.var 0)])),
  .asg (.nm 1) (.bin .add false (.var 1) (.lst false [.isX ["NotStacked"] (.var 0), .isX ["Beneath"] (.var 0), .isX ["Taken"] (.var 0)])),
  .asg (.nm 1) (.bin .add false (.var 1) (.lst false [.isX ["NoTrunk"] (.var 0), .isX ["NoBoard"] (.var 0), .isX ["NoOrder"] (.var 0)])),
  .asg (.nm 1) (.bin .add false (.var 1) (.lst false [.isX ["NoGrade"] (.var 0), .isX ["Misfit"] (.var 0), .isX ["NoDeed"] (.var 0)])),
  .asg (.nm 1) (.bin .add false (.var 1) (.lst false [.isX ["NoDay"] (.var 0), .isX ["Hindered"] (.var 0), .isX ["NoEntry"] (.var 0)])),
  .asg (.nm 1) (.bin .add false (.var 1) (.lst false [.isX ["NoLine"] (.var 0), .isX ["NoRow"] (.var 0)])),
  .asg (.nm 2) (.str "thick block broad long stacked overhang loose beneath taken trunk board order grade misfit deed day "),
  .asg (.nm 2) (.bin .add false (.var 2) (.str "hindered entry line row")),
  .asg (.nm 3) (.lc false (.tup [(.nm 4), (.nm 5)]) (.zip (.meth .split (.var 2) [.str " "]) (.var 1)) [.var 5] (.var 4) [4, 5]),
  .ife (.boo false [.not (.isX ["SawError"] (.var 0)), .not (.isVE (.var 0)), .cmp .ne (.bi .len false [.var 3]) (.int 1)]) [
    .ret (some (.str "none"))] [],
  .ret (some (.ix (.var 3) (.int 0)))]
noncomputable def f_l_word : Fn := pureFn (fnOf ⟨[], [], []⟩ 6 1 b_l_word)
/- _law_field (k23): 0 _law_number, 1 _law_error -/
def b_l_field : List Sm := [
  .ife (.cmp .eq (.var 0) (.int 0)) [
    .ret (some (.attr (.var 1) "deep"))] [],
  .ife (.cmp .eq (.var 0) (.int 1)) [
    .ret (some (.attr (.var 1) "breadth"))] [],
  .ife (.cmp .eq (.var 0) (.int 2)) [
    .ret (some (.attr (.var 1) "long"))] [],
  .ife (.cmp .eq (.var 0) (.int 3)) [
    .ret (some (.attr (.var 1) "stack"))] [],
  .ife (.cmp .eq (.var 0) (.int 5)) [
    .ret (some (.attr (.var 1) "names"))] [],
  .ife (.cmp .eq (.var 0) (.int 10)) [
    .ret (some (.attr (.var 1) "word"))] [],
  .ife (.cmp .eq (.var 0) (.int 11)) [
    .ret (some (.attr (.var 1) "line"))] [],
  .ife (.cmp .eq (.var 0) (.int 12)) [
    .ret (some (.tup [.attr (.var 1) "entry", .attr (.attr (.var 1) "refusal") "long"]))] [],
  .ret (some (.attr (.var 1) "name"))]
noncomputable def f_l_field : Fn := pureFn (fnOf ⟨[], [], []⟩ 2 2 b_l_field)
/- _law_with_field (k23): 0 _law_number, 1 _law_name, 2 _law_many, 3 _law_some -/
def b_l_with_field : List Sm := [
  .ife (.cmp .eq (.var 0) (.int 0)) [
    .ret (some (.mkX "TooThick" ["TooThick", "SawError"] (.args ["deep"]) [.var 2]))] [],
  .ife (.cmp .eq (.var 0) (.int 1)) [
    .ret (some (.mkX "TooBroad" ["TooBroad", "SawError"] (.args ["breadth"]) [.var 2]))] [],
  .ife (.cmp .eq (.var 0) (.int 2)) [
    .ret (some (.mkX "TooLong" ["TooLong", "SawError"] (.args ["long"]) [.var 2]))] [],
  .ife (.cmp .eq (.var 0) (.int 3)) [
    .ret (some (.mkX "Stacked" ["Stacked", "SawError"] (.args ["stack"]) [.var 1]))] [],
  .ife (.cmp .eq (.var 0) (.int 4)) [
    .ret (some (.mkX "Overhang" ["Overhang", "SawError"] (.args ["name"]) [.var 1]))] [],
  .ife (.cmp .eq (.var 0) (.int 5)) [
    .ret (some (.mkX "Beneath" ["Beneath", "SawError"] (.lst "names") [.var 3]))] [],
  .ife (.cmp .eq (.var 0) (.int 6)) [
    .ret (some (.mkX "Taken" ["Taken", "SawError"] (.args ["name"]) [.var 1]))] [],
  .ife (.cmp .eq (.var 0) (.int 7)) [
    .ret (some (.mkX "NoTrunk" ["NoTrunk", "SawError"] (.args ["name"]) [.var 1]))] [],
  .ife (.cmp .eq (.var 0) (.int 8)) [
    .ret (some (.mkX "NoBoard" ["NoBoard", "SawError"] (.args ["name"]) [.var 1]))] [],
  .ife (.cmp .eq (.var 0) (.int 9)) [
    .ret (some (.mkX "NoOrder" ["NoOrder", "SawError"] (.args ["name"]) [.var 1]))] [],
  .ife (.cmp .eq (.var 0) (.int 10)) [
    .ret (some (.mkX "Misfit" ["Misfit", "SawError"] (.args ["word"]) [.var 1]))] [],
  .ife (.cmp .eq (.var 0) (.int 11)) [
    .ret (some (.mkX "NoLine" ["NoLine", "SawError"] (.args ["line"]) [.var 2]))] [],
  .ret (some (.mkX "Hindered" ["Hindered", "SawError"] (.args ["entry", "refusal"]) [.var 2, .mkX "TooLong" ["TooLong", "SawError"] (.args ["long"]) [.bin .add false (.var 2) (.int 1)]]))]
noncomputable def f_l_with_field : Fn := pureFn (fnOf ⟨[], [], []⟩ 4 4 b_l_with_field)
/- _law_by_text (k23): 0 _law_number -/
def b_l_by_text : List Sm := [
  .ife (.cmp .eq (.var 0) (.int 0)) [
    .ret (some (.mkX "NoBlock" ["NoBlock", "SawError"] .no [.str "a text"]))] [],
  .ife (.cmp .eq (.var 0) (.int 1)) [
    .ret (some (.mkX "NotStacked" ["NotStacked", "SawError"] .no [.str "a text"]))] [],
  .ife (.cmp .eq (.var 0) (.int 2)) [
    .ret (some (.mkX "NoGrade" ["NoGrade", "SawError"] .no [.str "a text"]))] [],
  .ife (.cmp .eq (.var 0) (.int 3)) [
    .ret (some (.mkX "NoDeed" ["NoDeed", "SawError"] .no [.str "a text"]))] [],
  .ife (.cmp .eq (.var 0) (.int 4)) [
    .ret (some (.mkX "NoDay" ["NoDay", "SawError"] .no [.str "a text"]))] [],
  .ife (.cmp .eq (.var 0) (.int 5)) [
    .ret (some (.mkX "NoEntry" ["NoEntry", "SawError"] .no [.str "a text"]))] [],
  .ret (some (.mkX "NoRow" ["NoRow", "SawError"] .no [.str "a text"]))]
noncomputable def f_l_by_text : Fn := pureFn (fnOf ⟨[], [], []⟩ 1 1 b_l_by_text)
/- law (k23): 0 _law_script, 1 _law_pen, 2 _law_words, 3 _law_plain, 4 _law_turn, 5 _law_name, 6 _law_many, 7 _law_number, 8 _law_some, 9 _law_due, 10 _law_error -/
def b_law_k23 : List Sm := [
  .asg (.nm 1) (.call 0 [.var 0]),
  .asg (.nm 2) (.meth .split (.str "thick broad long stacked overhang beneath taken trunk board order misfit line hindered") [.str " "]),
  .asg (.nm 3) (.meth .split (.str "block loose grade deed day entry row") [.str " "]),
  .for (.nm 4) (.rng1 (.bin .add false (.int 1) (.call 1 [.var 1, .int 5]))) [
    .asg (.tup [(.nm 5), (.nm 6)]) (.tup [.ix (.call 2 [.var 1, .int 1]) (.int 0), .call 3 [.var 1, .bin .pow false (.int 10) (.int 60)]]),
    .for (.nm 7) (.rng1 (.int 13)) [
      .asg (.nm 8) (.call 2 [.var 1, .bin .add false (.int 1) (.call 1 [.var 1, .int 4])]),
      .asg (.nm 9) (.ix (.lst false [.var 5, .var 6]) (.bi .int false [.cmp .inn (.var 7) (.tup [.int 0, .int 1, .int 2, .int 11])])),
      .ife (.cmp .eq (.var 7) (.int 5)) [
        .asg (.nm 9) (.bi .list false [.var 8])] [],
      .ife (.cmp .eq (.var 7) (.int 12)) [
        .asg (.nm 9) (.tup [.var 6, .bin .add false (.var 6) (.int 1)])] [],
      .asg (.nm 10) (.call 4 [.var 7, .var 5, .var 6, .var 8]),
      .ife (.boo false [.cmp .ne (.call 5 [.var 10]) (.ix (.var 2) (.var 7)), .cmp .ne (.call 6 [.var 7, .var 10]) (.var 9)]) [
        .ret (some (.bl false))] []],
    .for (.nm 7) (.rng1 (.int 7)) [
      .ife (.cmp .ne (.call 5 [.call 7 [.var 7]]) (.ix (.var 3) (.var 7))) [
        .ret (some (.bl false))] []]],
  .ret (some (.bl true))]
noncomputable def f_law_k23 : Fn := pureFn (fnOf ⟨[f_l_pen_of, f_l_draw, f_l_names_ra, f_l_far, f_l_with_field, f_l_word, f_l_field, f_l_by_text], [], []⟩ 11 1 b_law_k23)
def kMx (c : Str) (ups : List Str) (k : Ini) (Q : QD) : List D → Store → Prop := fun ds S => iniQ (k.ev ds S) fun fs => Q (.exn c ups fs) S
theorem k_mx {c : Str} {ups : List Str} {k : Ini} {Q : QD} {ds : List D} {S : Store} : kMx c ups k Q ds S = iniQ (k.ev ds S) fun fs => Q (.exn c ups fs) S := rfl
theorem w_mkX {Γ : Gm} {ρ : EnvD} {S : Store} {X : XD} {Q : QD} {c : Str} {ups : List Str} {k : Ini} {es : List Ex} : W Γ (.mkX c ups k es) ρ S X Q = WL Γ es ρ S X (kMx c ups k Q) := by
  unfold W
  simp only [sem, x_bind]
  show (semL Γ es ρ S).satx _ _ = (semL Γ es ρ S).satx _ _
  congr
  funext ds S1
  unfold kMx iniQ
  cases k.ev ds S1 <;> rfl
def words20 : List Str := ["thick", "block", "broad", "long", "stacked", "overhang", "loose", "beneath", "taken", "trunk", "board", "order", "grade", "misfit", "deed", "day", "hindered", "entry", "line", "row"]
def cls20 : List Str := ["TooThick", "NoBlock", "TooBroad", "TooLong", "Stacked", "Overhang", "NotStacked", "Beneath", "Taken", "NoTrunk", "NoBoard", "NoOrder", "NoGrade", "Misfit", "NoDeed", "NoDay", "Hindered", "NoEntry", "NoLine", "NoRow"]
def pairD2 (p : Str × Bool) : D := .tup [.str p.1, .bl p.2]
local macro_rules | `(tactic| walk_at "sx") => `(tactic| (simp_arith [rowD, atI_map, ix_sh, wk_sh, len_sh, en_sh, ty_sh, ix_bx, bt_bx]))
theorem lc_pick {Γ : Gm} {S : Store} {ρ : EnvD} {L : List (Str × Bool)} (hρ : 5 < ρ.length) (hl : L.length ≤ 1000) {X : XD} {Q : List D → Store → Prop} (h : Q ((L.filter (·.2)).map fun p => .str p.1) S) :
    (LcR Γ (.tup [.nm 4, .nm 5]) [.var 5] (.var 4) none S ρ (L.map pairD2) S).satx X Q := by
  refine lc_inv (fun i acc S' => acc = ((L.take i).filter (·.2)).map (fun p => .str p.1) ∧ S' = S) ?_ ?_ ⟨rfl, rfl⟩
  · rintro i x acc S1 hx ⟨rfl, rfl⟩
    obtain ⟨p, hp, rfl⟩ := map_get hx
    obtain ⟨w, b⟩ := p
    have hi : i < L.length := (List.getElem?_eq_some_iff.1 hp).1
    have e4 : ((ρ.set 4 (some (.str w))).set 5 (some (.bl b)))[4]? = some (some (.str w)) := by rw [List.getElem?_set_ne (by decide)]; exact List.getElem?_set_self (by omega)
    have e5 : ((ρ.set 4 (some (.str w))).set 5 (some (.bl b)))[5]? = some (some (.bl b)) := List.getElem?_set_self (by rw [List.length_set]; exact hρ)
    have ht : L.take (i + 1) = L.take i ++ [(w, b)] := by rw [List.take_add_one, hp]; rfl
    have htl : ((L.take i).filter (·.2)).length ≤ 1000 := by
      have := List.length_filter_le (fun p : Str × Bool => p.2) (L.take i)
      rw [List.length_take] at this
      omega
    rw [ht, List.filter_append, List.map_append]
    clear hx ht h hp
    refine ⟨_, rfl, ?_⟩
    cases b with
    | true =>
      walk_at "sj"
      rfl
    | false =>
      walk_at "sj"
      simp
  · rintro acc S1 ⟨rfl, rfl⟩
    rw [List.length_map, List.take_length]
    exact h
theorem spl_w : Txt.split (Str.ofString "thick block broad long stacked overhang loose beneath taken trunk board order grade misfit deed day " ++ Str.ofString "hindered entry line row") (Str.ofString " ") = words20 := by decide +kernel
theorem word_ok {c w : Str} {ups : List Str} {fs : List (Str × D)} (h : ((words20.zip (cls20.map fun C => upsB [C] ups)).filter (·.2)) = [(w, true)]) (hs : upsB ["SawError"] ups = true) (hf : (D.exn c ups fs).pure = true) (S : Store) : f_l_word [.exn c ups fs] S = .ok (.str w) S := by
  refine pr_sat (by simp only [D.pureL, hf]; rfl) (by simp [D.pure]) ?_
  refine fn_sx rfl ?_
  unfold b_l_word
  walk_at "sj"
  repeat refine And.intro (by decide +kernel) ?_
  rw [spl_w]
  change (LcR _ _ _ _ none [] _ ((words20.zip (cls20.map fun C => upsB [C] ups)).map pairD2) []).satx _ _
  refine lc_pick ?_ ?_ ?_
  · show 5 < 6
    decide
  · show 20 ≤ 1000
    decide
  rw [h]
  walk_at "sj"
  decide +kernel
end K23

/-! K23b: the refusals, one by one (printed by gen23.py). -/
namespace K23
open PySem PySem.Spec PyProof.Rows L2 DL SW
structure Row (n : Int) (nm : Str) (m : Int) (ks : List Str) (w : Str) (due : D) : Prop where
  ex : ∃ e : D, (∀ S, f_l_with_field [.int n, .str nm, .int m, .lst (ks.map .str)] S = .ok e S) ∧ (∀ S, f_l_word [e] S = .ok (.str w) S) ∧ ∀ S, f_l_field [.int n, e] S = .ok due S
structure Plain (n : Int) (w : Str) : Prop where
  ex : ∃ e : D, (∀ S, f_l_by_text [.int n] S = .ok e S) ∧ ∀ S, f_l_word [e] S = .ok (.str w) S
theorem pl_strs (ks : List Str) : D.pureL (ks.map .str) = true := pureL_map (fun _ => by simp [D.pure]) ks

theorem at_breadth (c : Str) (ups : List Str) (d : D) (S : Store) : atR "breadth" (.exn c ups [("breadth", d)]) S = .ok d S := by
  unfold atR
  simp only
  rw [if_pos (by decide +kernel)]
  simp only [List.lookup, beq_self_eq_true]
  rfl
theorem at_deep (c : Str) (ups : List Str) (d : D) (S : Store) : atR "deep" (.exn c ups [("deep", d)]) S = .ok d S := by
  unfold atR
  simp only
  rw [if_pos (by decide +kernel)]
  simp only [List.lookup, beq_self_eq_true]
  rfl
theorem at_line (c : Str) (ups : List Str) (d : D) (S : Store) : atR "line" (.exn c ups [("line", d)]) S = .ok d S := by
  unfold atR
  simp only
  rw [if_pos (by decide +kernel)]
  simp only [List.lookup, beq_self_eq_true]
  rfl
theorem at_long (c : Str) (ups : List Str) (d : D) (S : Store) : atR "long" (.exn c ups [("long", d)]) S = .ok d S := by
  unfold atR
  simp only
  rw [if_pos (by decide +kernel)]
  simp only [List.lookup, beq_self_eq_true]
  rfl
theorem at_name (c : Str) (ups : List Str) (d : D) (S : Store) : atR "name" (.exn c ups [("name", d)]) S = .ok d S := by
  unfold atR
  simp only
  rw [if_pos (by decide +kernel)]
  simp only [List.lookup, beq_self_eq_true]
  rfl
theorem at_names (c : Str) (ups : List Str) (d : D) (S : Store) : atR "names" (.exn c ups [("names", d)]) S = .ok d S := by
  unfold atR
  simp only
  rw [if_pos (by decide +kernel)]
  simp only [List.lookup, beq_self_eq_true]
  rfl
theorem at_stack (c : Str) (ups : List Str) (d : D) (S : Store) : atR "stack" (.exn c ups [("stack", d)]) S = .ok d S := by
  unfold atR
  simp only
  rw [if_pos (by decide +kernel)]
  simp only [List.lookup, beq_self_eq_true]
  rfl
theorem at_word (c : Str) (ups : List Str) (d : D) (S : Store) : atR "word" (.exn c ups [("word", d)]) S = .ok d S := by
  unfold atR
  simp only
  rw [if_pos (by decide +kernel)]
  simp only [List.lookup, beq_self_eq_true]
  rfl
theorem at_refusal (c : Str) (ups : List Str) (d x : D) (S : Store) : atR "refusal" (.exn c ups [("refusal", d), ("entry", x)]) S = .ok d S := by
  unfold atR
  simp only
  rw [if_pos (by decide +kernel)]
  simp only [List.lookup, beq_self_eq_true]
  rfl
theorem at_entry (c : Str) (ups : List Str) (d x : D) (S : Store) : atR "entry" (.exn c ups [("refusal", d), ("entry", x)]) S = .ok x S := by
  have h : (Str.ofString "entry" == Str.ofString "refusal") = false := by decide +kernel
  unfold atR
  simp only
  rw [if_pos (by decide +kernel)]
  simp only [List.lookup, beq_self_eq_true, h]
  rfl
local macro_rules | `(tactic| walk_at "sx") => `(tactic| (simp_arith [rowD, atI_map, ix_sh, wk_sh, len_sh, en_sh, ty_sh, ix_bx, bt_bx, w_mkX, k_mx, at_breadth, at_deep, at_line, at_long, at_name, at_names, at_stack, at_word, at_refusal, at_entry]))
theorem row0 (nm : Str) (m : Int) (ks : List Str) : Row 0 nm m ks "thick" (.int m) := by
  refine ⟨.exn "TooThick" ["TooThick", "SawError"] [("deep", .int m)], fun S => ?_, fun S => word_ok (by decide +kernel) (by decide +kernel) (by simp [D.pure, D.pureF, pl_strs]) S, fun S => ?_⟩
  · refine pr_sat (by simp [D.pureL, D.pure, pl_strs]) (by simp [D.pure, D.pureF, pl_strs]) ?_
    refine fn_sx rfl ?_
    unfold b_l_with_field
    have q0 : ((0 : Int) = 0) = True := by simp
    have q1 : ((0 : Int) = 1) = False := by simp
    have q2 : ((0 : Int) = 2) = False := by simp
    have q3 : ((0 : Int) = 3) = False := by simp
    have q4 : ((0 : Int) = 4) = False := by simp
    have q5 : ((0 : Int) = 5) = False := by simp
    have q6 : ((0 : Int) = 6) = False := by simp
    have q7 : ((0 : Int) = 7) = False := by simp
    have q8 : ((0 : Int) = 8) = False := by simp
    have q9 : ((0 : Int) = 9) = False := by simp
    have q10 : ((0 : Int) = 10) = False := by simp
    have q11 : ((0 : Int) = 11) = False := by simp
    walk_at "sj"
  · refine pr_sat (by simp [D.pureL, D.pure, D.pureF, pl_strs]) (by simp [D.pure, D.pureL, pl_strs]) ?_
    refine fn_sx rfl ?_
    unfold b_l_field
    have q0 : ((0 : Int) = 0) = True := by simp
    have q1 : ((0 : Int) = 1) = False := by simp
    have q2 : ((0 : Int) = 2) = False := by simp
    have q3 : ((0 : Int) = 3) = False := by simp
    have q5 : ((0 : Int) = 5) = False := by simp
    have q10 : ((0 : Int) = 10) = False := by simp
    have q11 : ((0 : Int) = 11) = False := by simp
    have q12 : ((0 : Int) = 12) = False := by simp
    walk_at "sj"
theorem row1 (nm : Str) (m : Int) (ks : List Str) : Row 1 nm m ks "broad" (.int m) := by
  refine ⟨.exn "TooBroad" ["TooBroad", "SawError"] [("breadth", .int m)], fun S => ?_, fun S => word_ok (by decide +kernel) (by decide +kernel) (by simp [D.pure, D.pureF, pl_strs]) S, fun S => ?_⟩
  · refine pr_sat (by simp [D.pureL, D.pure, pl_strs]) (by simp [D.pure, D.pureF, pl_strs]) ?_
    refine fn_sx rfl ?_
    unfold b_l_with_field
    have q0 : ((1 : Int) = 0) = False := by simp
    have q1 : ((1 : Int) = 1) = True := by simp
    have q2 : ((1 : Int) = 2) = False := by simp
    have q3 : ((1 : Int) = 3) = False := by simp
    have q4 : ((1 : Int) = 4) = False := by simp
    have q5 : ((1 : Int) = 5) = False := by simp
    have q6 : ((1 : Int) = 6) = False := by simp
    have q7 : ((1 : Int) = 7) = False := by simp
    have q8 : ((1 : Int) = 8) = False := by simp
    have q9 : ((1 : Int) = 9) = False := by simp
    have q10 : ((1 : Int) = 10) = False := by simp
    have q11 : ((1 : Int) = 11) = False := by simp
    walk_at "sj"
  · refine pr_sat (by simp [D.pureL, D.pure, D.pureF, pl_strs]) (by simp [D.pure, D.pureL, pl_strs]) ?_
    refine fn_sx rfl ?_
    unfold b_l_field
    have q0 : ((1 : Int) = 0) = False := by simp
    have q1 : ((1 : Int) = 1) = True := by simp
    have q2 : ((1 : Int) = 2) = False := by simp
    have q3 : ((1 : Int) = 3) = False := by simp
    have q5 : ((1 : Int) = 5) = False := by simp
    have q10 : ((1 : Int) = 10) = False := by simp
    have q11 : ((1 : Int) = 11) = False := by simp
    have q12 : ((1 : Int) = 12) = False := by simp
    walk_at "sj"
theorem row2 (nm : Str) (m : Int) (ks : List Str) : Row 2 nm m ks "long" (.int m) := by
  refine ⟨.exn "TooLong" ["TooLong", "SawError"] [("long", .int m)], fun S => ?_, fun S => word_ok (by decide +kernel) (by decide +kernel) (by simp [D.pure, D.pureF, pl_strs]) S, fun S => ?_⟩
  · refine pr_sat (by simp [D.pureL, D.pure, pl_strs]) (by simp [D.pure, D.pureF, pl_strs]) ?_
    refine fn_sx rfl ?_
    unfold b_l_with_field
    have q0 : ((2 : Int) = 0) = False := by simp
    have q1 : ((2 : Int) = 1) = False := by simp
    have q2 : ((2 : Int) = 2) = True := by simp
    have q3 : ((2 : Int) = 3) = False := by simp
    have q4 : ((2 : Int) = 4) = False := by simp
    have q5 : ((2 : Int) = 5) = False := by simp
    have q6 : ((2 : Int) = 6) = False := by simp
    have q7 : ((2 : Int) = 7) = False := by simp
    have q8 : ((2 : Int) = 8) = False := by simp
    have q9 : ((2 : Int) = 9) = False := by simp
    have q10 : ((2 : Int) = 10) = False := by simp
    have q11 : ((2 : Int) = 11) = False := by simp
    walk_at "sj"
  · refine pr_sat (by simp [D.pureL, D.pure, D.pureF, pl_strs]) (by simp [D.pure, D.pureL, pl_strs]) ?_
    refine fn_sx rfl ?_
    unfold b_l_field
    have q0 : ((2 : Int) = 0) = False := by simp
    have q1 : ((2 : Int) = 1) = False := by simp
    have q2 : ((2 : Int) = 2) = True := by simp
    have q3 : ((2 : Int) = 3) = False := by simp
    have q5 : ((2 : Int) = 5) = False := by simp
    have q10 : ((2 : Int) = 10) = False := by simp
    have q11 : ((2 : Int) = 11) = False := by simp
    have q12 : ((2 : Int) = 12) = False := by simp
    walk_at "sj"
theorem row3 (nm : Str) (m : Int) (ks : List Str) : Row 3 nm m ks "stacked" (.str nm) := by
  refine ⟨.exn "Stacked" ["Stacked", "SawError"] [("stack", .str nm)], fun S => ?_, fun S => word_ok (by decide +kernel) (by decide +kernel) (by simp [D.pure, D.pureF, pl_strs]) S, fun S => ?_⟩
  · refine pr_sat (by simp [D.pureL, D.pure, pl_strs]) (by simp [D.pure, D.pureF, pl_strs]) ?_
    refine fn_sx rfl ?_
    unfold b_l_with_field
    have q0 : ((3 : Int) = 0) = False := by simp
    have q1 : ((3 : Int) = 1) = False := by simp
    have q2 : ((3 : Int) = 2) = False := by simp
    have q3 : ((3 : Int) = 3) = True := by simp
    have q4 : ((3 : Int) = 4) = False := by simp
    have q5 : ((3 : Int) = 5) = False := by simp
    have q6 : ((3 : Int) = 6) = False := by simp
    have q7 : ((3 : Int) = 7) = False := by simp
    have q8 : ((3 : Int) = 8) = False := by simp
    have q9 : ((3 : Int) = 9) = False := by simp
    have q10 : ((3 : Int) = 10) = False := by simp
    have q11 : ((3 : Int) = 11) = False := by simp
    walk_at "sj"
  · refine pr_sat (by simp [D.pureL, D.pure, D.pureF, pl_strs]) (by simp [D.pure, D.pureL, pl_strs]) ?_
    refine fn_sx rfl ?_
    unfold b_l_field
    have q0 : ((3 : Int) = 0) = False := by simp
    have q1 : ((3 : Int) = 1) = False := by simp
    have q2 : ((3 : Int) = 2) = False := by simp
    have q3 : ((3 : Int) = 3) = True := by simp
    have q5 : ((3 : Int) = 5) = False := by simp
    have q10 : ((3 : Int) = 10) = False := by simp
    have q11 : ((3 : Int) = 11) = False := by simp
    have q12 : ((3 : Int) = 12) = False := by simp
    walk_at "sj"
theorem row4 (nm : Str) (m : Int) (ks : List Str) : Row 4 nm m ks "overhang" (.str nm) := by
  refine ⟨.exn "Overhang" ["Overhang", "SawError"] [("name", .str nm)], fun S => ?_, fun S => word_ok (by decide +kernel) (by decide +kernel) (by simp [D.pure, D.pureF, pl_strs]) S, fun S => ?_⟩
  · refine pr_sat (by simp [D.pureL, D.pure, pl_strs]) (by simp [D.pure, D.pureF, pl_strs]) ?_
    refine fn_sx rfl ?_
    unfold b_l_with_field
    have q0 : ((4 : Int) = 0) = False := by simp
    have q1 : ((4 : Int) = 1) = False := by simp
    have q2 : ((4 : Int) = 2) = False := by simp
    have q3 : ((4 : Int) = 3) = False := by simp
    have q4 : ((4 : Int) = 4) = True := by simp
    have q5 : ((4 : Int) = 5) = False := by simp
    have q6 : ((4 : Int) = 6) = False := by simp
    have q7 : ((4 : Int) = 7) = False := by simp
    have q8 : ((4 : Int) = 8) = False := by simp
    have q9 : ((4 : Int) = 9) = False := by simp
    have q10 : ((4 : Int) = 10) = False := by simp
    have q11 : ((4 : Int) = 11) = False := by simp
    walk_at "sj"
  · refine pr_sat (by simp [D.pureL, D.pure, D.pureF, pl_strs]) (by simp [D.pure, D.pureL, pl_strs]) ?_
    refine fn_sx rfl ?_
    unfold b_l_field
    have q0 : ((4 : Int) = 0) = False := by simp
    have q1 : ((4 : Int) = 1) = False := by simp
    have q2 : ((4 : Int) = 2) = False := by simp
    have q3 : ((4 : Int) = 3) = False := by simp
    have q5 : ((4 : Int) = 5) = False := by simp
    have q10 : ((4 : Int) = 10) = False := by simp
    have q11 : ((4 : Int) = 11) = False := by simp
    have q12 : ((4 : Int) = 12) = False := by simp
    walk_at "sj"
theorem row5 (nm : Str) (m : Int) (ks : List Str) : Row 5 nm m ks "beneath" (.lst (ks.map .str)) := by
  refine ⟨.exn "Beneath" ["Beneath", "SawError"] [("names", .lst (ks.map .str))], fun S => ?_, fun S => word_ok (by decide +kernel) (by decide +kernel) (by simp [D.pure, D.pureF, pl_strs]) S, fun S => ?_⟩
  · refine pr_sat (by simp [D.pureL, D.pure, pl_strs]) (by simp [D.pure, D.pureF, pl_strs]) ?_
    refine fn_sx rfl ?_
    unfold b_l_with_field
    have q0 : ((5 : Int) = 0) = False := by simp
    have q1 : ((5 : Int) = 1) = False := by simp
    have q2 : ((5 : Int) = 2) = False := by simp
    have q3 : ((5 : Int) = 3) = False := by simp
    have q4 : ((5 : Int) = 4) = False := by simp
    have q5 : ((5 : Int) = 5) = True := by simp
    have q6 : ((5 : Int) = 6) = False := by simp
    have q7 : ((5 : Int) = 7) = False := by simp
    have q8 : ((5 : Int) = 8) = False := by simp
    have q9 : ((5 : Int) = 9) = False := by simp
    have q10 : ((5 : Int) = 10) = False := by simp
    have q11 : ((5 : Int) = 11) = False := by simp
    walk_at "sj"
  · refine pr_sat (by simp [D.pureL, D.pure, D.pureF, pl_strs]) (by simp [D.pure, D.pureL, pl_strs]) ?_
    refine fn_sx rfl ?_
    unfold b_l_field
    have q0 : ((5 : Int) = 0) = False := by simp
    have q1 : ((5 : Int) = 1) = False := by simp
    have q2 : ((5 : Int) = 2) = False := by simp
    have q3 : ((5 : Int) = 3) = False := by simp
    have q5 : ((5 : Int) = 5) = True := by simp
    have q10 : ((5 : Int) = 10) = False := by simp
    have q11 : ((5 : Int) = 11) = False := by simp
    have q12 : ((5 : Int) = 12) = False := by simp
    walk_at "sj"
theorem row6 (nm : Str) (m : Int) (ks : List Str) : Row 6 nm m ks "taken" (.str nm) := by
  refine ⟨.exn "Taken" ["Taken", "SawError"] [("name", .str nm)], fun S => ?_, fun S => word_ok (by decide +kernel) (by decide +kernel) (by simp [D.pure, D.pureF, pl_strs]) S, fun S => ?_⟩
  · refine pr_sat (by simp [D.pureL, D.pure, pl_strs]) (by simp [D.pure, D.pureF, pl_strs]) ?_
    refine fn_sx rfl ?_
    unfold b_l_with_field
    have q0 : ((6 : Int) = 0) = False := by simp
    have q1 : ((6 : Int) = 1) = False := by simp
    have q2 : ((6 : Int) = 2) = False := by simp
    have q3 : ((6 : Int) = 3) = False := by simp
    have q4 : ((6 : Int) = 4) = False := by simp
    have q5 : ((6 : Int) = 5) = False := by simp
    have q6 : ((6 : Int) = 6) = True := by simp
    have q7 : ((6 : Int) = 7) = False := by simp
    have q8 : ((6 : Int) = 8) = False := by simp
    have q9 : ((6 : Int) = 9) = False := by simp
    have q10 : ((6 : Int) = 10) = False := by simp
    have q11 : ((6 : Int) = 11) = False := by simp
    walk_at "sj"
  · refine pr_sat (by simp [D.pureL, D.pure, D.pureF, pl_strs]) (by simp [D.pure, D.pureL, pl_strs]) ?_
    refine fn_sx rfl ?_
    unfold b_l_field
    have q0 : ((6 : Int) = 0) = False := by simp
    have q1 : ((6 : Int) = 1) = False := by simp
    have q2 : ((6 : Int) = 2) = False := by simp
    have q3 : ((6 : Int) = 3) = False := by simp
    have q5 : ((6 : Int) = 5) = False := by simp
    have q10 : ((6 : Int) = 10) = False := by simp
    have q11 : ((6 : Int) = 11) = False := by simp
    have q12 : ((6 : Int) = 12) = False := by simp
    walk_at "sj"
theorem row7 (nm : Str) (m : Int) (ks : List Str) : Row 7 nm m ks "trunk" (.str nm) := by
  refine ⟨.exn "NoTrunk" ["NoTrunk", "SawError"] [("name", .str nm)], fun S => ?_, fun S => word_ok (by decide +kernel) (by decide +kernel) (by simp [D.pure, D.pureF, pl_strs]) S, fun S => ?_⟩
  · refine pr_sat (by simp [D.pureL, D.pure, pl_strs]) (by simp [D.pure, D.pureF, pl_strs]) ?_
    refine fn_sx rfl ?_
    unfold b_l_with_field
    have q0 : ((7 : Int) = 0) = False := by simp
    have q1 : ((7 : Int) = 1) = False := by simp
    have q2 : ((7 : Int) = 2) = False := by simp
    have q3 : ((7 : Int) = 3) = False := by simp
    have q4 : ((7 : Int) = 4) = False := by simp
    have q5 : ((7 : Int) = 5) = False := by simp
    have q6 : ((7 : Int) = 6) = False := by simp
    have q7 : ((7 : Int) = 7) = True := by simp
    have q8 : ((7 : Int) = 8) = False := by simp
    have q9 : ((7 : Int) = 9) = False := by simp
    have q10 : ((7 : Int) = 10) = False := by simp
    have q11 : ((7 : Int) = 11) = False := by simp
    walk_at "sj"
  · refine pr_sat (by simp [D.pureL, D.pure, D.pureF, pl_strs]) (by simp [D.pure, D.pureL, pl_strs]) ?_
    refine fn_sx rfl ?_
    unfold b_l_field
    have q0 : ((7 : Int) = 0) = False := by simp
    have q1 : ((7 : Int) = 1) = False := by simp
    have q2 : ((7 : Int) = 2) = False := by simp
    have q3 : ((7 : Int) = 3) = False := by simp
    have q5 : ((7 : Int) = 5) = False := by simp
    have q10 : ((7 : Int) = 10) = False := by simp
    have q11 : ((7 : Int) = 11) = False := by simp
    have q12 : ((7 : Int) = 12) = False := by simp
    walk_at "sj"
theorem row8 (nm : Str) (m : Int) (ks : List Str) : Row 8 nm m ks "board" (.str nm) := by
  refine ⟨.exn "NoBoard" ["NoBoard", "SawError"] [("name", .str nm)], fun S => ?_, fun S => word_ok (by decide +kernel) (by decide +kernel) (by simp [D.pure, D.pureF, pl_strs]) S, fun S => ?_⟩
  · refine pr_sat (by simp [D.pureL, D.pure, pl_strs]) (by simp [D.pure, D.pureF, pl_strs]) ?_
    refine fn_sx rfl ?_
    unfold b_l_with_field
    have q0 : ((8 : Int) = 0) = False := by simp
    have q1 : ((8 : Int) = 1) = False := by simp
    have q2 : ((8 : Int) = 2) = False := by simp
    have q3 : ((8 : Int) = 3) = False := by simp
    have q4 : ((8 : Int) = 4) = False := by simp
    have q5 : ((8 : Int) = 5) = False := by simp
    have q6 : ((8 : Int) = 6) = False := by simp
    have q7 : ((8 : Int) = 7) = False := by simp
    have q8 : ((8 : Int) = 8) = True := by simp
    have q9 : ((8 : Int) = 9) = False := by simp
    have q10 : ((8 : Int) = 10) = False := by simp
    have q11 : ((8 : Int) = 11) = False := by simp
    walk_at "sj"
  · refine pr_sat (by simp [D.pureL, D.pure, D.pureF, pl_strs]) (by simp [D.pure, D.pureL, pl_strs]) ?_
    refine fn_sx rfl ?_
    unfold b_l_field
    have q0 : ((8 : Int) = 0) = False := by simp
    have q1 : ((8 : Int) = 1) = False := by simp
    have q2 : ((8 : Int) = 2) = False := by simp
    have q3 : ((8 : Int) = 3) = False := by simp
    have q5 : ((8 : Int) = 5) = False := by simp
    have q10 : ((8 : Int) = 10) = False := by simp
    have q11 : ((8 : Int) = 11) = False := by simp
    have q12 : ((8 : Int) = 12) = False := by simp
    walk_at "sj"
theorem row9 (nm : Str) (m : Int) (ks : List Str) : Row 9 nm m ks "order" (.str nm) := by
  refine ⟨.exn "NoOrder" ["NoOrder", "SawError"] [("name", .str nm)], fun S => ?_, fun S => word_ok (by decide +kernel) (by decide +kernel) (by simp [D.pure, D.pureF, pl_strs]) S, fun S => ?_⟩
  · refine pr_sat (by simp [D.pureL, D.pure, pl_strs]) (by simp [D.pure, D.pureF, pl_strs]) ?_
    refine fn_sx rfl ?_
    unfold b_l_with_field
    have q0 : ((9 : Int) = 0) = False := by simp
    have q1 : ((9 : Int) = 1) = False := by simp
    have q2 : ((9 : Int) = 2) = False := by simp
    have q3 : ((9 : Int) = 3) = False := by simp
    have q4 : ((9 : Int) = 4) = False := by simp
    have q5 : ((9 : Int) = 5) = False := by simp
    have q6 : ((9 : Int) = 6) = False := by simp
    have q7 : ((9 : Int) = 7) = False := by simp
    have q8 : ((9 : Int) = 8) = False := by simp
    have q9 : ((9 : Int) = 9) = True := by simp
    have q10 : ((9 : Int) = 10) = False := by simp
    have q11 : ((9 : Int) = 11) = False := by simp
    walk_at "sj"
  · refine pr_sat (by simp [D.pureL, D.pure, D.pureF, pl_strs]) (by simp [D.pure, D.pureL, pl_strs]) ?_
    refine fn_sx rfl ?_
    unfold b_l_field
    have q0 : ((9 : Int) = 0) = False := by simp
    have q1 : ((9 : Int) = 1) = False := by simp
    have q2 : ((9 : Int) = 2) = False := by simp
    have q3 : ((9 : Int) = 3) = False := by simp
    have q5 : ((9 : Int) = 5) = False := by simp
    have q10 : ((9 : Int) = 10) = False := by simp
    have q11 : ((9 : Int) = 11) = False := by simp
    have q12 : ((9 : Int) = 12) = False := by simp
    walk_at "sj"
theorem row10 (nm : Str) (m : Int) (ks : List Str) : Row 10 nm m ks "misfit" (.str nm) := by
  refine ⟨.exn "Misfit" ["Misfit", "SawError"] [("word", .str nm)], fun S => ?_, fun S => word_ok (by decide +kernel) (by decide +kernel) (by simp [D.pure, D.pureF, pl_strs]) S, fun S => ?_⟩
  · refine pr_sat (by simp [D.pureL, D.pure, pl_strs]) (by simp [D.pure, D.pureF, pl_strs]) ?_
    refine fn_sx rfl ?_
    unfold b_l_with_field
    have q0 : ((10 : Int) = 0) = False := by simp
    have q1 : ((10 : Int) = 1) = False := by simp
    have q2 : ((10 : Int) = 2) = False := by simp
    have q3 : ((10 : Int) = 3) = False := by simp
    have q4 : ((10 : Int) = 4) = False := by simp
    have q5 : ((10 : Int) = 5) = False := by simp
    have q6 : ((10 : Int) = 6) = False := by simp
    have q7 : ((10 : Int) = 7) = False := by simp
    have q8 : ((10 : Int) = 8) = False := by simp
    have q9 : ((10 : Int) = 9) = False := by simp
    have q10 : ((10 : Int) = 10) = True := by simp
    have q11 : ((10 : Int) = 11) = False := by simp
    walk_at "sj"
  · refine pr_sat (by simp [D.pureL, D.pure, D.pureF, pl_strs]) (by simp [D.pure, D.pureL, pl_strs]) ?_
    refine fn_sx rfl ?_
    unfold b_l_field
    have q0 : ((10 : Int) = 0) = False := by simp
    have q1 : ((10 : Int) = 1) = False := by simp
    have q2 : ((10 : Int) = 2) = False := by simp
    have q3 : ((10 : Int) = 3) = False := by simp
    have q5 : ((10 : Int) = 5) = False := by simp
    have q10 : ((10 : Int) = 10) = True := by simp
    have q11 : ((10 : Int) = 11) = False := by simp
    have q12 : ((10 : Int) = 12) = False := by simp
    walk_at "sj"
theorem row11 (nm : Str) (m : Int) (ks : List Str) : Row 11 nm m ks "line" (.int m) := by
  refine ⟨.exn "NoLine" ["NoLine", "SawError"] [("line", .int m)], fun S => ?_, fun S => word_ok (by decide +kernel) (by decide +kernel) (by simp [D.pure, D.pureF, pl_strs]) S, fun S => ?_⟩
  · refine pr_sat (by simp [D.pureL, D.pure, pl_strs]) (by simp [D.pure, D.pureF, pl_strs]) ?_
    refine fn_sx rfl ?_
    unfold b_l_with_field
    have q0 : ((11 : Int) = 0) = False := by simp
    have q1 : ((11 : Int) = 1) = False := by simp
    have q2 : ((11 : Int) = 2) = False := by simp
    have q3 : ((11 : Int) = 3) = False := by simp
    have q4 : ((11 : Int) = 4) = False := by simp
    have q5 : ((11 : Int) = 5) = False := by simp
    have q6 : ((11 : Int) = 6) = False := by simp
    have q7 : ((11 : Int) = 7) = False := by simp
    have q8 : ((11 : Int) = 8) = False := by simp
    have q9 : ((11 : Int) = 9) = False := by simp
    have q10 : ((11 : Int) = 10) = False := by simp
    have q11 : ((11 : Int) = 11) = True := by simp
    walk_at "sj"
  · refine pr_sat (by simp [D.pureL, D.pure, D.pureF, pl_strs]) (by simp [D.pure, D.pureL, pl_strs]) ?_
    refine fn_sx rfl ?_
    unfold b_l_field
    have q0 : ((11 : Int) = 0) = False := by simp
    have q1 : ((11 : Int) = 1) = False := by simp
    have q2 : ((11 : Int) = 2) = False := by simp
    have q3 : ((11 : Int) = 3) = False := by simp
    have q5 : ((11 : Int) = 5) = False := by simp
    have q10 : ((11 : Int) = 10) = False := by simp
    have q11 : ((11 : Int) = 11) = True := by simp
    have q12 : ((11 : Int) = 12) = False := by simp
    walk_at "sj"
theorem row12 (nm : Str) (m : Int) (ks : List Str) : Row 12 nm m ks "hindered" (.tup [.int m, .int (m + 1)]) := by
  refine ⟨.exn "Hindered" ["Hindered", "SawError"] [("refusal", .exn "TooLong" ["TooLong", "SawError"] [("long", .int (m + 1))]), ("entry", .int m)], fun S => ?_, fun S => word_ok (by decide +kernel) (by decide +kernel) (by simp [D.pure, D.pureF, pl_strs]) S, fun S => ?_⟩
  · refine pr_sat (by simp [D.pureL, D.pure, pl_strs]) (by simp [D.pure, D.pureF, pl_strs]) ?_
    refine fn_sx rfl ?_
    unfold b_l_with_field
    have q0 : ((12 : Int) = 0) = False := by simp
    have q1 : ((12 : Int) = 1) = False := by simp
    have q2 : ((12 : Int) = 2) = False := by simp
    have q3 : ((12 : Int) = 3) = False := by simp
    have q4 : ((12 : Int) = 4) = False := by simp
    have q5 : ((12 : Int) = 5) = False := by simp
    have q6 : ((12 : Int) = 6) = False := by simp
    have q7 : ((12 : Int) = 7) = False := by simp
    have q8 : ((12 : Int) = 8) = False := by simp
    have q9 : ((12 : Int) = 9) = False := by simp
    have q10 : ((12 : Int) = 10) = False := by simp
    have q11 : ((12 : Int) = 11) = False := by simp
    walk_at "sj"
  · refine pr_sat (by simp [D.pureL, D.pure, D.pureF, pl_strs]) (by simp [D.pure, D.pureL, pl_strs]) ?_
    refine fn_sx rfl ?_
    unfold b_l_field
    have q0 : ((12 : Int) = 0) = False := by simp
    have q1 : ((12 : Int) = 1) = False := by simp
    have q2 : ((12 : Int) = 2) = False := by simp
    have q3 : ((12 : Int) = 3) = False := by simp
    have q5 : ((12 : Int) = 5) = False := by simp
    have q10 : ((12 : Int) = 10) = False := by simp
    have q11 : ((12 : Int) = 11) = False := by simp
    have q12 : ((12 : Int) = 12) = True := by simp
    walk_at "sj"
theorem plain0 : Plain 0 "block" := by
  refine ⟨.exn "NoBlock" ["NoBlock", "SawError"] [], fun S => ?_, fun S => word_ok (by decide +kernel) (by decide +kernel) (by simp [D.pure, D.pureF]) S⟩
  refine pr_sat (by simp [D.pureL, D.pure]) (by simp [D.pure, D.pureF]) ?_
  refine fn_sx rfl ?_
  unfold b_l_by_text
  have q0 : ((0 : Int) = 0) = True := by simp
  have q1 : ((0 : Int) = 1) = False := by simp
  have q2 : ((0 : Int) = 2) = False := by simp
  have q3 : ((0 : Int) = 3) = False := by simp
  have q4 : ((0 : Int) = 4) = False := by simp
  have q5 : ((0 : Int) = 5) = False := by simp
  walk_at "sj"
theorem plain1 : Plain 1 "loose" := by
  refine ⟨.exn "NotStacked" ["NotStacked", "SawError"] [], fun S => ?_, fun S => word_ok (by decide +kernel) (by decide +kernel) (by simp [D.pure, D.pureF]) S⟩
  refine pr_sat (by simp [D.pureL, D.pure]) (by simp [D.pure, D.pureF]) ?_
  refine fn_sx rfl ?_
  unfold b_l_by_text
  have q0 : ((1 : Int) = 0) = False := by simp
  have q1 : ((1 : Int) = 1) = True := by simp
  have q2 : ((1 : Int) = 2) = False := by simp
  have q3 : ((1 : Int) = 3) = False := by simp
  have q4 : ((1 : Int) = 4) = False := by simp
  have q5 : ((1 : Int) = 5) = False := by simp
  walk_at "sj"
theorem plain2 : Plain 2 "grade" := by
  refine ⟨.exn "NoGrade" ["NoGrade", "SawError"] [], fun S => ?_, fun S => word_ok (by decide +kernel) (by decide +kernel) (by simp [D.pure, D.pureF]) S⟩
  refine pr_sat (by simp [D.pureL, D.pure]) (by simp [D.pure, D.pureF]) ?_
  refine fn_sx rfl ?_
  unfold b_l_by_text
  have q0 : ((2 : Int) = 0) = False := by simp
  have q1 : ((2 : Int) = 1) = False := by simp
  have q2 : ((2 : Int) = 2) = True := by simp
  have q3 : ((2 : Int) = 3) = False := by simp
  have q4 : ((2 : Int) = 4) = False := by simp
  have q5 : ((2 : Int) = 5) = False := by simp
  walk_at "sj"
theorem plain3 : Plain 3 "deed" := by
  refine ⟨.exn "NoDeed" ["NoDeed", "SawError"] [], fun S => ?_, fun S => word_ok (by decide +kernel) (by decide +kernel) (by simp [D.pure, D.pureF]) S⟩
  refine pr_sat (by simp [D.pureL, D.pure]) (by simp [D.pure, D.pureF]) ?_
  refine fn_sx rfl ?_
  unfold b_l_by_text
  have q0 : ((3 : Int) = 0) = False := by simp
  have q1 : ((3 : Int) = 1) = False := by simp
  have q2 : ((3 : Int) = 2) = False := by simp
  have q3 : ((3 : Int) = 3) = True := by simp
  have q4 : ((3 : Int) = 4) = False := by simp
  have q5 : ((3 : Int) = 5) = False := by simp
  walk_at "sj"
theorem plain4 : Plain 4 "day" := by
  refine ⟨.exn "NoDay" ["NoDay", "SawError"] [], fun S => ?_, fun S => word_ok (by decide +kernel) (by decide +kernel) (by simp [D.pure, D.pureF]) S⟩
  refine pr_sat (by simp [D.pureL, D.pure]) (by simp [D.pure, D.pureF]) ?_
  refine fn_sx rfl ?_
  unfold b_l_by_text
  have q0 : ((4 : Int) = 0) = False := by simp
  have q1 : ((4 : Int) = 1) = False := by simp
  have q2 : ((4 : Int) = 2) = False := by simp
  have q3 : ((4 : Int) = 3) = False := by simp
  have q4 : ((4 : Int) = 4) = True := by simp
  have q5 : ((4 : Int) = 5) = False := by simp
  walk_at "sj"
theorem plain5 : Plain 5 "entry" := by
  refine ⟨.exn "NoEntry" ["NoEntry", "SawError"] [], fun S => ?_, fun S => word_ok (by decide +kernel) (by decide +kernel) (by simp [D.pure, D.pureF]) S⟩
  refine pr_sat (by simp [D.pureL, D.pure]) (by simp [D.pure, D.pureF]) ?_
  refine fn_sx rfl ?_
  unfold b_l_by_text
  have q0 : ((5 : Int) = 0) = False := by simp
  have q1 : ((5 : Int) = 1) = False := by simp
  have q2 : ((5 : Int) = 2) = False := by simp
  have q3 : ((5 : Int) = 3) = False := by simp
  have q4 : ((5 : Int) = 4) = False := by simp
  have q5 : ((5 : Int) = 5) = True := by simp
  walk_at "sj"
theorem plain6 : Plain 6 "row" := by
  refine ⟨.exn "NoRow" ["NoRow", "SawError"] [], fun S => ?_, fun S => word_ok (by decide +kernel) (by decide +kernel) (by simp [D.pure, D.pureF]) S⟩
  refine pr_sat (by simp [D.pureL, D.pure]) (by simp [D.pure, D.pureF]) ?_
  refine fn_sx rfl ?_
  unfold b_l_by_text
  have q0 : ((6 : Int) = 0) = False := by simp
  have q1 : ((6 : Int) = 1) = False := by simp
  have q2 : ((6 : Int) = 2) = False := by simp
  have q3 : ((6 : Int) = 3) = False := by simp
  have q4 : ((6 : Int) = 4) = False := by simp
  have q5 : ((6 : Int) = 5) = False := by simp
  walk_at "sj"
end K23

/-! MA: who holds what: the most orders that boards fill, in plain Lean. -/
namespace MT
open PySem PySem.Spec PyProof.Rows L2 DL
abbrev Tb (α : Type) := List (Str × α)
section
variable {α : Type}
def val (l : Tb α) (k : Str) : Option α := (l.find? fun p => decide (p.1 = k)).map (·.2)
def keys (l : Tb α) : List Str := l.map (·.1)
def put (l : Tb α) (k : Str) (v : α) : Tb α := if (l.any fun p => decide (p.1 = k)) = true then l.map (fun p => if p.1 = k then (p.1, v) else p) else l ++ [(k, v)]
theorem val_nil (k : Str) : val ([] : Tb α) k = none := rfl
theorem val_cons (p : Str × α) (l : Tb α) (k : Str) : val (p :: l) k = if p.1 = k then some p.2 else val l k := by
  unfold val
  rw [List.find?_cons]
  by_cases h : p.1 = k <;> simp [h]
theorem val_none {l : Tb α} {k : Str} : val l k = none ↔ k ∉ keys l := by
  induction l with
  | nil => simp [val_nil, keys]
  | cons p r ih =>
    rw [val_cons]
    unfold keys at ih ⊢
    rw [List.map_cons, List.mem_cons, not_or]
    by_cases h : p.1 = k
    · rw [if_pos h]
      simp [h]
    · rw [if_neg h, ih]
      exact ⟨fun q => ⟨fun e => h e.symm, q⟩, fun q => q.2⟩
theorem val_mem {l : Tb α} {k : Str} {v : α} (h : val l k = some v) : (k, v) ∈ l := by
  induction l with
  | nil => cases h
  | cons p r ih =>
    rw [val_cons] at h
    by_cases e : p.1 = k
    · rw [if_pos e] at h
      cases h
      rw [← e]
      exact List.mem_cons_self
    · rw [if_neg e] at h
      exact List.mem_cons_of_mem _ (ih h)
theorem keys_val {l : Tb α} {k : Str} (h : k ∈ keys l) : ∃ v, val l k = some v := by
  cases e : val l k with
  | none => exact absurd h (val_none.1 e)
  | some v => exact ⟨v, rfl⟩
end
/-! ### whom an order comes to -/
section
variable (ch : Str → List Str) (h : Tb Str)
def visitB (o : Str) (st : Tb Str × List Str) (b : Str) : Tb Str × List Str :=
  if (val st.1 b).isSome = true then st else (st.1 ++ [(b, o)], match val h b with
    | some q => st.2 ++ [q]
    | none => st.2)
def visit (st : Tb Str × List Str) (o : Str) : Tb Str × List Str := (ch o).foldl (visitB h o) st
def comeL : Nat → Nat → Tb Str × List Str → Tb Str × List Str
  | 0, _, st => st
  | n + 1, i, st => match st.2[i]? with
    | none => st
    | some o => comeL n (i + 1) (visit ch h st o)
/-- what holds behind so many orders gone through -/
structure CI (os : List Str) (st : Tb Str × List Str) : Prop where
  nd : (keys st.1).Nodup
  par : ∀ (j : Nat) (b o : Str), st.1[j]? = some (b, o) → b ∈ ch o ∧ o ∈ st.2 ∧ (o ∈ os ∨ ∃ (j' : Nat) (b' q : Str), j' < j ∧ st.1[j']? = some (b', q) ∧ val h b' = some o)
  row : ∀ o ∈ st.2, o ∈ os ∨ ∃ b ∈ keys st.1, val h b = some o
  hold : ∀ b ∈ keys st.1, ∀ o, val h b = some o → o ∈ st.2
  pre : ∀ o ∈ os, o ∈ st.2
  len : st.2.length ≤ os.length + st.1.length
/-- one state is behind another -/
structure Ahead (st st' : Tb Str × List Str) : Prop where
  k : ∀ b ∈ keys st.1, b ∈ keys st'.1
  r : ∃ more, st'.2 = st.2 ++ more
theorem Ahead.refl {st : Tb Str × List Str} : Ahead st st := ⟨fun _ q => q, [], (List.append_nil _).symm⟩
theorem Ahead.trans {a b c : Tb Str × List Str} (x : Ahead a b) (y : Ahead b c) : Ahead a c := ⟨fun d q => y.k d (x.k d q), by
  obtain ⟨m, e⟩ := x.r
  obtain ⟨n, f⟩ := y.r
  exact ⟨m ++ n, by rw [f, e, List.append_assoc]⟩⟩
variable {ch h}
/-- all that is come to -/
structure CR (ch : Str → List Str) (h : Tb Str) (os : List Str) (st : Tb Str × List Str) : Prop extends CI ch h os st where
  closed : ∀ o ∈ st.2, ∀ b ∈ ch o, b ∈ keys st.1
end
/-- all that some orders come to; all: the boards -/
def come (ch : Str → List Str) (h : Tb Str) (all : Nat) (os : List Str) : Tb Str × List Str := comeL ch h (os.length + all + 1) 0 ([], os)
/-- a dead set: what comes to it stays in it -/
structure Dead (ch : Str → List Str) (h : Tb Str) (T Z : Str → Prop) : Prop where
  o : ∀ o, T o → ∀ b ∈ ch o, Z b
  b : ∀ b, Z b → ∃ o, val h b = some o ∧ T o
theorem CR.within {ch : Str → List Str} {h : Tb Str} {os : List Str} {st : Tb Str × List Str} {T Z : Str → Prop} (R : CI ch h os st) (D : Dead ch h T Z) (ho : ∀ o ∈ os, T o) : (∀ b ∈ keys st.1, Z b) ∧ ∀ o ∈ st.2, T o := by
  have key : ∀ (n j : Nat) (b o : Str), j < n → st.1[j]? = some (b, o) → Z b := by
    intro n
    induction n with
    | zero => intro j b o hj; omega
    | succ n ih =>
      intro j b o hj e
      obtain ⟨q1, _, q3⟩ := R.par j b o e
      rcases q3 with q | ⟨j', b', q, l1, l2, l3⟩
      · exact D.o o (ho o q) b q1
      · obtain ⟨p, e2, t⟩ := D.b b' (ih j' b' q (by omega) l2)
        rw [l3] at e2
        cases e2
        exact D.o o t b q1
  have kz : ∀ b ∈ keys st.1, Z b := fun b m => by
    obtain ⟨v, e⟩ := keys_val m
    obtain ⟨j, hj, e2⟩ := List.getElem_of_mem (val_mem e)
    exact key (j + 1) j b v (Nat.lt_succ_self _) (by rw [List.getElem?_eq_getElem hj, e2])
  refine ⟨kz, fun o m => ?_⟩
  rcases R.row o m with q | ⟨b, q, e⟩
  · exact ho o q
  · obtain ⟨p, e2, t⟩ := D.b b (kz b q)
    rw [e] at e2
    cases e2
    exact t
/-! ### boards handed on -/
/-- each board with one order at most, each order with one board, all fit -/
structure Mt (ch : Str → List Str) (h : Tb Str) : Prop where
  nd : (keys h).Nodup
  inj : ∀ b b' o, val h b = some o → val h b' = some o → b = b'
  fit : ∀ b o, val h b = some o → b ∈ ch o
def Held (h : Tb Str) (o : Str) : Prop := ∃ b, val h b = some o
def owners (h : Tb Str) (o : Str) : List Str := (keys h).filter fun k => decide (val h k = some o)
def hand (came : Tb Str) (first : Str) : Nat → Str → Tb Str → Tb Str
  | 0, _, h => h
  | n + 1, b, h => match val came b with
    | none => h
    | some o => if o = first then put h b first else match owners h o with
      | [] => h
      | a :: _ => hand came first n a (put h b o)
/-- on the way: board b is to be given anew -/
structure Way (ch : Str → List Str) (h0 : Tb Str) (b0 : Str) (came : Tb Str) (Z : Str → Prop) (j : Nat) (b o : Str) (h : Tb Str) : Prop where
  at_ : came[j]? = some (b, o)
  nd : (keys h).Nodup
  agree : ∀ j' c q, j' ≤ j → came[j']? = some (c, q) → val h c = val h0 c
  inj : ∀ c c' x, c ≠ b → c' ≠ b → val h c = some x → val h c' = some x → c = c'
  fit : ∀ c x, c ≠ b → val h c = some x → c ∈ ch x
  held : ∀ x, (∃ c, c ≠ b ∧ val h c = some x) ↔ Held h0 x
  keys_ : ∀ c, c ≠ b → (c ∈ keys h ↔ c = b0 ∨ c ∈ keys h0)
  key : b = b0 ∨ b ∈ keys h0
  dead : ∀ c, Z c → val h c = val h0 c
  out : ¬ Z b
structure Handed (ch : Str → List Str) (h0 : Tb Str) (b0 first : Str) (Z : Str → Prop) (h : Tb Str) : Prop extends Mt ch h where
  held : ∀ x, Held h x ↔ x = first ∨ Held h0 x
  keys_ : ∀ c, c ∈ keys h ↔ c = b0 ∨ c ∈ keys h0
  dead : ∀ c, Z c → val h c = val h0 c
section
variable {ch : Str → List Str} {h0 : Tb Str} {b0 first : Str} {st : Tb Str × List Str} {T Z : Str → Prop}
end
/-! ### the dealing -/
/-- how many boards an order's choices name -/
def dealStep (ch : Str → List Str) (all : Nat) (h : Tb Str) (o : Str) : Tb Str :=
  let came := (come ch h all [o]).1
  match (keys came).filter fun b => !(val h b).isSome with
  | [] => h
  | f :: _ => hand came o (came.length + 1) f h
def deal (ch : Str → List Str) (all : Nat) (os : List Str) : Tb Str := os.foldl (dealStep ch all) []
structure DI (ch : Str → List Str) (ps : List Str) (h : Tb Str) : Prop extends Mt ch h where
  sub : ∀ o, Held h o → o ∈ ps
  dead : ∃ T Z : Str → Prop, Dead ch h T Z ∧ (∀ o, T o → o ∈ ps) ∧ ∀ o ∈ ps, ¬ Held h o → T o
/-! ### the paper -/
structure Ppr where
  pairs : Tb Str
  bound : List Str
  came : List Str
def paper (ch : Str → List Str) (all : Nat) (os : List Str) : Ppr :=
  let h := deal ch all os
  let held : List Str := h.map (·.2)
  let left : List Str := os.filter fun o => !decide (o ∈ held)
  let came : List Str := keys (come ch h all left).1
  ⟨h.map fun p => (p.2, p.1), (h.filter fun p => !decide (p.1 ∈ came)).map (·.2), came⟩
/-- a paper of the most orders, but for its order -/
structure POk (ch : Str → List Str) (os all : List Str) (p : Ppr) : Prop where
  fit : ∀ o b, (o, b) ∈ p.pairs → o ∈ os ∧ b ∈ ch o
  ndo : (p.pairs.map (·.1)).Nodup
  ndb : (p.pairs.map (·.2)).Nodup
  bos : ∀ o ∈ p.bound, o ∈ os
  call : ∀ b ∈ p.came, b ∈ all
  ndB : p.bound.Nodup
  ndC : p.came.Nodup
  cov : ∀ o ∈ os, ∀ b ∈ ch o, o ∈ p.bound ∨ b ∈ p.came
  len : p.pairs.length = p.bound.length + p.came.length
end MT

/-! KN: few names are all unlike. -/
namespace SW
open PySem PySem.Spec PyProof.Rows L2 DL
end SW

/-! K23c: refusals made (printed by gen23c.py). -/
namespace K23
open PySem PySem.Spec PyProof.Rows L2 DL SW
open K02 (f_l_far steps left leftD left_at)
noncomputable abbrev GF : Gm := ⟨[f_l_pen_of, f_l_draw, f_l_names_ra, f_l_far, f_l_with_field, f_l_word, f_l_field, f_l_by_text], [], []⟩
abbrev wF : D := .lst [.str "thick", .str "broad", .str "long", .str "stacked", .str "overhang", .str "beneath", .str "taken", .str "trunk", .str "board", .str "order", .str "misfit", .str "line", .str "hindered"]
abbrev wP : D := .lst [.str "block", .str "loose", .str "grade", .str "deed", .str "day", .str "entry", .str "row"]
def restT : List Sm := [
      .asg (.nm 9) (.ix (.lst false [.var 5, .var 6]) (.bi .int false [.cmp .inn (.var 7) (.tup [.int 0, .int 1, .int 2, .int 11])])),
      .ife (.cmp .eq (.var 7) (.int 5)) [
        .asg (.nm 9) (.bi .list false [.var 8])] [],
      .ife (.cmp .eq (.var 7) (.int 12)) [
        .asg (.nm 9) (.tup [.var 6, .bin .add false (.var 6) (.int 1)])] [],
      .asg (.nm 10) (.call 4 [.var 7, .var 5, .var 6, .var 8]),
      .ife (.boo false [.cmp .ne (.call 5 [.var 10]) (.ix (.var 2) (.var 7)), .cmp .ne (.call 6 [.var 7, .var 10]) (.var 9)]) [
        .ret (some (.bl false))] []]
def restP : List Sm := [
      .ife (.cmp .ne (.call 5 [.call 7 [.var 7]]) (.ix (.var 3) (.var 7))) [
        .ret (some (.bl false))] []]
theorem ok_int (m : Int) : okD 3 (.int m) = true := by simp [okD]
theorem ok_str {nm : Str} (h : NmOk nm) : okD 3 (.str nm) = true := by
  rw [okD]
  exact h.1
theorem ok_two (m : Int) : okD 3 (.tup [.int m, .int (m + 1)]) = true := by simp [okD, okDs]
theorem ok_strs {ks : List Str} (hk : ∀ z ∈ ks, NmOk z) (hl : ks.length ≤ 1000) : okD 3 (.lst (ks.map .str)) = true := by
  rw [okD, okDs_of fun x q => by
    obtain ⟨z, hz, rfl⟩ := List.mem_map.1 q
    rw [okD]
    exact (hk z hz).1]
  simp
  omega
local macro_rules | `(tactic| walk_at "sx") => `(tactic| (simp_arith [rowD, atI_map, ix_sh, wk_sh, len_sh, en_sh, ty_sh, ix_bx, bt_bx]))
theorem rest0 {S : Store} {x0 x4 x9 x10 : Option D} {nm : Str} {m : Int} {ks : List Str} (hs : NmOk nm) (hk : ∀ z ∈ ks, NmOk z) (hl : ks.length ≤ 1000) {P : Po} (h : ∀ y z : D, P.N [x0, some (.loc 0), some wF, some wP, x4, some (.str nm), some (.int m), some (.int 0), some (.lst (ks.map .str)), some y, some z] S) :
    Ws GF restT [x0, some (.loc 0), some wF, some wP, x4, some (.str nm), some (.int m), some (.int 0), some (.lst (ks.map .str)), x9, x10] S P := by
  obtain ⟨e, h1, h2, h3⟩ := (row0 nm m ks).ex
  have hn : ∀ S, COp.ev .ne (.int m) (.int m) S = .ok (.bl false) S := fun S => neC_self (k := 3) (ok_int m) (by decide) S
  have hw : ∀ S, COp.ev .ne (.str "thick") (.str "thick") S = .ok (.bl false) S := fun S => neC_self (k := 3) (by decide +kernel) (by decide) S
  have q0 : ((0 : Int) = 0) = True := by simp
  have q1 : ((0 : Int) = 1) = False := by simp
  have q2 : ((0 : Int) = 2) = False := by simp
  have q5 : ((0 : Int) = 5) = False := by simp
  have q11 : ((0 : Int) = 11) = False := by simp
  have q12 : ((0 : Int) = 12) = False := by simp
  have hv : (if ([D.int 0, D.int 1, D.int 2, D.int 11].any fun z => eqD z (D.int 0)) = true then (1 : Int) else 0) = 1 := by decide +kernel
  unfold restT
  walk_at "sj"
  repeat' first | exact h _ _ | omega | apply And.intro | (intro q; exact absurd q (by decide)) | (intro _; first | (walk_at "sj"; exact h _ _) | (walk_at "sj"; done))
theorem rest1 {S : Store} {x0 x4 x9 x10 : Option D} {nm : Str} {m : Int} {ks : List Str} (hs : NmOk nm) (hk : ∀ z ∈ ks, NmOk z) (hl : ks.length ≤ 1000) {P : Po} (h : ∀ y z : D, P.N [x0, some (.loc 0), some wF, some wP, x4, some (.str nm), some (.int m), some (.int 1), some (.lst (ks.map .str)), some y, some z] S) :
    Ws GF restT [x0, some (.loc 0), some wF, some wP, x4, some (.str nm), some (.int m), some (.int 1), some (.lst (ks.map .str)), x9, x10] S P := by
  obtain ⟨e, h1, h2, h3⟩ := (row1 nm m ks).ex
  have hn : ∀ S, COp.ev .ne (.int m) (.int m) S = .ok (.bl false) S := fun S => neC_self (k := 3) (ok_int m) (by decide) S
  have hw : ∀ S, COp.ev .ne (.str "broad") (.str "broad") S = .ok (.bl false) S := fun S => neC_self (k := 3) (by decide +kernel) (by decide) S
  have q0 : ((1 : Int) = 0) = False := by simp
  have q1 : ((1 : Int) = 1) = True := by simp
  have q2 : ((1 : Int) = 2) = False := by simp
  have q5 : ((1 : Int) = 5) = False := by simp
  have q11 : ((1 : Int) = 11) = False := by simp
  have q12 : ((1 : Int) = 12) = False := by simp
  have hv : (if ([D.int 0, D.int 1, D.int 2, D.int 11].any fun z => eqD z (D.int 1)) = true then (1 : Int) else 0) = 1 := by decide +kernel
  unfold restT
  walk_at "sj"
  repeat' first | exact h _ _ | omega | apply And.intro | (intro q; exact absurd q (by decide)) | (intro _; first | (walk_at "sj"; exact h _ _) | (walk_at "sj"; done))
theorem rest2 {S : Store} {x0 x4 x9 x10 : Option D} {nm : Str} {m : Int} {ks : List Str} (hs : NmOk nm) (hk : ∀ z ∈ ks, NmOk z) (hl : ks.length ≤ 1000) {P : Po} (h : ∀ y z : D, P.N [x0, some (.loc 0), some wF, some wP, x4, some (.str nm), some (.int m), some (.int 2), some (.lst (ks.map .str)), some y, some z] S) :
    Ws GF restT [x0, some (.loc 0), some wF, some wP, x4, some (.str nm), some (.int m), some (.int 2), some (.lst (ks.map .str)), x9, x10] S P := by
  obtain ⟨e, h1, h2, h3⟩ := (row2 nm m ks).ex
  have hn : ∀ S, COp.ev .ne (.int m) (.int m) S = .ok (.bl false) S := fun S => neC_self (k := 3) (ok_int m) (by decide) S
  have hw : ∀ S, COp.ev .ne (.str "long") (.str "long") S = .ok (.bl false) S := fun S => neC_self (k := 3) (by decide +kernel) (by decide) S
  have q0 : ((2 : Int) = 0) = False := by simp
  have q1 : ((2 : Int) = 1) = False := by simp
  have q2 : ((2 : Int) = 2) = True := by simp
  have q5 : ((2 : Int) = 5) = False := by simp
  have q11 : ((2 : Int) = 11) = False := by simp
  have q12 : ((2 : Int) = 12) = False := by simp
  have hv : (if ([D.int 0, D.int 1, D.int 2, D.int 11].any fun z => eqD z (D.int 2)) = true then (1 : Int) else 0) = 1 := by decide +kernel
  unfold restT
  walk_at "sj"
  repeat' first | exact h _ _ | omega | apply And.intro | (intro q; exact absurd q (by decide)) | (intro _; first | (walk_at "sj"; exact h _ _) | (walk_at "sj"; done))
theorem rest3 {S : Store} {x0 x4 x9 x10 : Option D} {nm : Str} {m : Int} {ks : List Str} (hs : NmOk nm) (hk : ∀ z ∈ ks, NmOk z) (hl : ks.length ≤ 1000) {P : Po} (h : ∀ y z : D, P.N [x0, some (.loc 0), some wF, some wP, x4, some (.str nm), some (.int m), some (.int 3), some (.lst (ks.map .str)), some y, some z] S) :
    Ws GF restT [x0, some (.loc 0), some wF, some wP, x4, some (.str nm), some (.int m), some (.int 3), some (.lst (ks.map .str)), x9, x10] S P := by
  obtain ⟨e, h1, h2, h3⟩ := (row3 nm m ks).ex
  have hn : ∀ S, COp.ev .ne (.str nm) (.str nm) S = .ok (.bl false) S := fun S => neC_self (k := 3) (ok_str hs) (by decide) S
  have hw : ∀ S, COp.ev .ne (.str "stacked") (.str "stacked") S = .ok (.bl false) S := fun S => neC_self (k := 3) (by decide +kernel) (by decide) S
  have q0 : ((3 : Int) = 0) = False := by simp
  have q1 : ((3 : Int) = 1) = False := by simp
  have q2 : ((3 : Int) = 2) = False := by simp
  have q5 : ((3 : Int) = 5) = False := by simp
  have q11 : ((3 : Int) = 11) = False := by simp
  have q12 : ((3 : Int) = 12) = False := by simp
  have hv : (if ([D.int 0, D.int 1, D.int 2, D.int 11].any fun z => eqD z (D.int 3)) = true then (1 : Int) else 0) = 0 := by decide +kernel
  unfold restT
  walk_at "sj"
  repeat' first | exact h _ _ | omega | apply And.intro | (intro q; exact absurd q (by decide)) | (intro _; first | (walk_at "sj"; exact h _ _) | (walk_at "sj"; done))
theorem rest4 {S : Store} {x0 x4 x9 x10 : Option D} {nm : Str} {m : Int} {ks : List Str} (hs : NmOk nm) (hk : ∀ z ∈ ks, NmOk z) (hl : ks.length ≤ 1000) {P : Po} (h : ∀ y z : D, P.N [x0, some (.loc 0), some wF, some wP, x4, some (.str nm), some (.int m), some (.int 4), some (.lst (ks.map .str)), some y, some z] S) :
    Ws GF restT [x0, some (.loc 0), some wF, some wP, x4, some (.str nm), some (.int m), some (.int 4), some (.lst (ks.map .str)), x9, x10] S P := by
  obtain ⟨e, h1, h2, h3⟩ := (row4 nm m ks).ex
  have hn : ∀ S, COp.ev .ne (.str nm) (.str nm) S = .ok (.bl false) S := fun S => neC_self (k := 3) (ok_str hs) (by decide) S
  have hw : ∀ S, COp.ev .ne (.str "overhang") (.str "overhang") S = .ok (.bl false) S := fun S => neC_self (k := 3) (by decide +kernel) (by decide) S
  have q0 : ((4 : Int) = 0) = False := by simp
  have q1 : ((4 : Int) = 1) = False := by simp
  have q2 : ((4 : Int) = 2) = False := by simp
  have q5 : ((4 : Int) = 5) = False := by simp
  have q11 : ((4 : Int) = 11) = False := by simp
  have q12 : ((4 : Int) = 12) = False := by simp
  have hv : (if ([D.int 0, D.int 1, D.int 2, D.int 11].any fun z => eqD z (D.int 4)) = true then (1 : Int) else 0) = 0 := by decide +kernel
  unfold restT
  walk_at "sj"
  repeat' first | exact h _ _ | omega | apply And.intro | (intro q; exact absurd q (by decide)) | (intro _; first | (walk_at "sj"; exact h _ _) | (walk_at "sj"; done))
theorem rest5 {S : Store} {x0 x4 x9 x10 : Option D} {nm : Str} {m : Int} {ks : List Str} (hs : NmOk nm) (hk : ∀ z ∈ ks, NmOk z) (hl : ks.length ≤ 1000) {P : Po} (h : ∀ y z : D, P.N [x0, some (.loc 0), some wF, some wP, x4, some (.str nm), some (.int m), some (.int 5), some (.lst (ks.map .str)), some y, some z] S) :
    Ws GF restT [x0, some (.loc 0), some wF, some wP, x4, some (.str nm), some (.int m), some (.int 5), some (.lst (ks.map .str)), x9, x10] S P := by
  obtain ⟨e, h1, h2, h3⟩ := (row5 nm m ks).ex
  have hn : ∀ S, COp.ev .ne (.lst (ks.map .str)) (.lst (ks.map .str)) S = .ok (.bl false) S := fun S => neC_self (k := 3) (ok_strs hk hl) (by decide) S
  have hw : ∀ S, COp.ev .ne (.str "beneath") (.str "beneath") S = .ok (.bl false) S := fun S => neC_self (k := 3) (by decide +kernel) (by decide) S
  have q0 : ((5 : Int) = 0) = False := by simp
  have q1 : ((5 : Int) = 1) = False := by simp
  have q2 : ((5 : Int) = 2) = False := by simp
  have q5 : ((5 : Int) = 5) = True := by simp
  have q11 : ((5 : Int) = 11) = False := by simp
  have q12 : ((5 : Int) = 12) = False := by simp
  have hv : (if ([D.int 0, D.int 1, D.int 2, D.int 11].any fun z => eqD z (D.int 5)) = true then (1 : Int) else 0) = 0 := by decide +kernel
  unfold restT
  walk_at "sj"
  repeat' first | exact h _ _ | omega | apply And.intro | (intro q; exact absurd q (by decide)) | (intro _; first | (walk_at "sj"; exact h _ _) | (walk_at "sj"; done))
theorem rest6 {S : Store} {x0 x4 x9 x10 : Option D} {nm : Str} {m : Int} {ks : List Str} (hs : NmOk nm) (hk : ∀ z ∈ ks, NmOk z) (hl : ks.length ≤ 1000) {P : Po} (h : ∀ y z : D, P.N [x0, some (.loc 0), some wF, some wP, x4, some (.str nm), some (.int m), some (.int 6), some (.lst (ks.map .str)), some y, some z] S) :
    Ws GF restT [x0, some (.loc 0), some wF, some wP, x4, some (.str nm), some (.int m), some (.int 6), some (.lst (ks.map .str)), x9, x10] S P := by
  obtain ⟨e, h1, h2, h3⟩ := (row6 nm m ks).ex
  have hn : ∀ S, COp.ev .ne (.str nm) (.str nm) S = .ok (.bl false) S := fun S => neC_self (k := 3) (ok_str hs) (by decide) S
  have hw : ∀ S, COp.ev .ne (.str "taken") (.str "taken") S = .ok (.bl false) S := fun S => neC_self (k := 3) (by decide +kernel) (by decide) S
  have q0 : ((6 : Int) = 0) = False := by simp
  have q1 : ((6 : Int) = 1) = False := by simp
  have q2 : ((6 : Int) = 2) = False := by simp
  have q5 : ((6 : Int) = 5) = False := by simp
  have q11 : ((6 : Int) = 11) = False := by simp
  have q12 : ((6 : Int) = 12) = False := by simp
  have hv : (if ([D.int 0, D.int 1, D.int 2, D.int 11].any fun z => eqD z (D.int 6)) = true then (1 : Int) else 0) = 0 := by decide +kernel
  unfold restT
  walk_at "sj"
  repeat' first | exact h _ _ | omega | apply And.intro | (intro q; exact absurd q (by decide)) | (intro _; first | (walk_at "sj"; exact h _ _) | (walk_at "sj"; done))
theorem rest7 {S : Store} {x0 x4 x9 x10 : Option D} {nm : Str} {m : Int} {ks : List Str} (hs : NmOk nm) (hk : ∀ z ∈ ks, NmOk z) (hl : ks.length ≤ 1000) {P : Po} (h : ∀ y z : D, P.N [x0, some (.loc 0), some wF, some wP, x4, some (.str nm), some (.int m), some (.int 7), some (.lst (ks.map .str)), some y, some z] S) :
    Ws GF restT [x0, some (.loc 0), some wF, some wP, x4, some (.str nm), some (.int m), some (.int 7), some (.lst (ks.map .str)), x9, x10] S P := by
  obtain ⟨e, h1, h2, h3⟩ := (row7 nm m ks).ex
  have hn : ∀ S, COp.ev .ne (.str nm) (.str nm) S = .ok (.bl false) S := fun S => neC_self (k := 3) (ok_str hs) (by decide) S
  have hw : ∀ S, COp.ev .ne (.str "trunk") (.str "trunk") S = .ok (.bl false) S := fun S => neC_self (k := 3) (by decide +kernel) (by decide) S
  have q0 : ((7 : Int) = 0) = False := by simp
  have q1 : ((7 : Int) = 1) = False := by simp
  have q2 : ((7 : Int) = 2) = False := by simp
  have q5 : ((7 : Int) = 5) = False := by simp
  have q11 : ((7 : Int) = 11) = False := by simp
  have q12 : ((7 : Int) = 12) = False := by simp
  have hv : (if ([D.int 0, D.int 1, D.int 2, D.int 11].any fun z => eqD z (D.int 7)) = true then (1 : Int) else 0) = 0 := by decide +kernel
  unfold restT
  walk_at "sj"
  repeat' first | exact h _ _ | omega | apply And.intro | (intro q; exact absurd q (by decide)) | (intro _; first | (walk_at "sj"; exact h _ _) | (walk_at "sj"; done))
theorem rest8 {S : Store} {x0 x4 x9 x10 : Option D} {nm : Str} {m : Int} {ks : List Str} (hs : NmOk nm) (hk : ∀ z ∈ ks, NmOk z) (hl : ks.length ≤ 1000) {P : Po} (h : ∀ y z : D, P.N [x0, some (.loc 0), some wF, some wP, x4, some (.str nm), some (.int m), some (.int 8), some (.lst (ks.map .str)), some y, some z] S) :
    Ws GF restT [x0, some (.loc 0), some wF, some wP, x4, some (.str nm), some (.int m), some (.int 8), some (.lst (ks.map .str)), x9, x10] S P := by
  obtain ⟨e, h1, h2, h3⟩ := (row8 nm m ks).ex
  have hn : ∀ S, COp.ev .ne (.str nm) (.str nm) S = .ok (.bl false) S := fun S => neC_self (k := 3) (ok_str hs) (by decide) S
  have hw : ∀ S, COp.ev .ne (.str "board") (.str "board") S = .ok (.bl false) S := fun S => neC_self (k := 3) (by decide +kernel) (by decide) S
  have q0 : ((8 : Int) = 0) = False := by simp
  have q1 : ((8 : Int) = 1) = False := by simp
  have q2 : ((8 : Int) = 2) = False := by simp
  have q5 : ((8 : Int) = 5) = False := by simp
  have q11 : ((8 : Int) = 11) = False := by simp
  have q12 : ((8 : Int) = 12) = False := by simp
  have hv : (if ([D.int 0, D.int 1, D.int 2, D.int 11].any fun z => eqD z (D.int 8)) = true then (1 : Int) else 0) = 0 := by decide +kernel
  unfold restT
  walk_at "sj"
  repeat' first | exact h _ _ | omega | apply And.intro | (intro q; exact absurd q (by decide)) | (intro _; first | (walk_at "sj"; exact h _ _) | (walk_at "sj"; done))
theorem rest9 {S : Store} {x0 x4 x9 x10 : Option D} {nm : Str} {m : Int} {ks : List Str} (hs : NmOk nm) (hk : ∀ z ∈ ks, NmOk z) (hl : ks.length ≤ 1000) {P : Po} (h : ∀ y z : D, P.N [x0, some (.loc 0), some wF, some wP, x4, some (.str nm), some (.int m), some (.int 9), some (.lst (ks.map .str)), some y, some z] S) :
    Ws GF restT [x0, some (.loc 0), some wF, some wP, x4, some (.str nm), some (.int m), some (.int 9), some (.lst (ks.map .str)), x9, x10] S P := by
  obtain ⟨e, h1, h2, h3⟩ := (row9 nm m ks).ex
  have hn : ∀ S, COp.ev .ne (.str nm) (.str nm) S = .ok (.bl false) S := fun S => neC_self (k := 3) (ok_str hs) (by decide) S
  have hw : ∀ S, COp.ev .ne (.str "order") (.str "order") S = .ok (.bl false) S := fun S => neC_self (k := 3) (by decide +kernel) (by decide) S
  have q0 : ((9 : Int) = 0) = False := by simp
  have q1 : ((9 : Int) = 1) = False := by simp
  have q2 : ((9 : Int) = 2) = False := by simp
  have q5 : ((9 : Int) = 5) = False := by simp
  have q11 : ((9 : Int) = 11) = False := by simp
  have q12 : ((9 : Int) = 12) = False := by simp
  have hv : (if ([D.int 0, D.int 1, D.int 2, D.int 11].any fun z => eqD z (D.int 9)) = true then (1 : Int) else 0) = 0 := by decide +kernel
  unfold restT
  walk_at "sj"
  repeat' first | exact h _ _ | omega | apply And.intro | (intro q; exact absurd q (by decide)) | (intro _; first | (walk_at "sj"; exact h _ _) | (walk_at "sj"; done))
theorem rest10 {S : Store} {x0 x4 x9 x10 : Option D} {nm : Str} {m : Int} {ks : List Str} (hs : NmOk nm) (hk : ∀ z ∈ ks, NmOk z) (hl : ks.length ≤ 1000) {P : Po} (h : ∀ y z : D, P.N [x0, some (.loc 0), some wF, some wP, x4, some (.str nm), some (.int m), some (.int 10), some (.lst (ks.map .str)), some y, some z] S) :
    Ws GF restT [x0, some (.loc 0), some wF, some wP, x4, some (.str nm), some (.int m), some (.int 10), some (.lst (ks.map .str)), x9, x10] S P := by
  obtain ⟨e, h1, h2, h3⟩ := (row10 nm m ks).ex
  have hn : ∀ S, COp.ev .ne (.str nm) (.str nm) S = .ok (.bl false) S := fun S => neC_self (k := 3) (ok_str hs) (by decide) S
  have hw : ∀ S, COp.ev .ne (.str "misfit") (.str "misfit") S = .ok (.bl false) S := fun S => neC_self (k := 3) (by decide +kernel) (by decide) S
  have q0 : ((10 : Int) = 0) = False := by simp
  have q1 : ((10 : Int) = 1) = False := by simp
  have q2 : ((10 : Int) = 2) = False := by simp
  have q5 : ((10 : Int) = 5) = False := by simp
  have q11 : ((10 : Int) = 11) = False := by simp
  have q12 : ((10 : Int) = 12) = False := by simp
  have hv : (if ([D.int 0, D.int 1, D.int 2, D.int 11].any fun z => eqD z (D.int 10)) = true then (1 : Int) else 0) = 0 := by decide +kernel
  unfold restT
  walk_at "sj"
  repeat' first | exact h _ _ | omega | apply And.intro | (intro q; exact absurd q (by decide)) | (intro _; first | (walk_at "sj"; exact h _ _) | (walk_at "sj"; done))
theorem rest11 {S : Store} {x0 x4 x9 x10 : Option D} {nm : Str} {m : Int} {ks : List Str} (hs : NmOk nm) (hk : ∀ z ∈ ks, NmOk z) (hl : ks.length ≤ 1000) {P : Po} (h : ∀ y z : D, P.N [x0, some (.loc 0), some wF, some wP, x4, some (.str nm), some (.int m), some (.int 11), some (.lst (ks.map .str)), some y, some z] S) :
    Ws GF restT [x0, some (.loc 0), some wF, some wP, x4, some (.str nm), some (.int m), some (.int 11), some (.lst (ks.map .str)), x9, x10] S P := by
  obtain ⟨e, h1, h2, h3⟩ := (row11 nm m ks).ex
  have hn : ∀ S, COp.ev .ne (.int m) (.int m) S = .ok (.bl false) S := fun S => neC_self (k := 3) (ok_int m) (by decide) S
  have hw : ∀ S, COp.ev .ne (.str "line") (.str "line") S = .ok (.bl false) S := fun S => neC_self (k := 3) (by decide +kernel) (by decide) S
  have q0 : ((11 : Int) = 0) = False := by simp
  have q1 : ((11 : Int) = 1) = False := by simp
  have q2 : ((11 : Int) = 2) = False := by simp
  have q5 : ((11 : Int) = 5) = False := by simp
  have q11 : ((11 : Int) = 11) = True := by simp
  have q12 : ((11 : Int) = 12) = False := by simp
  have hv : (if ([D.int 0, D.int 1, D.int 2, D.int 11].any fun z => eqD z (D.int 11)) = true then (1 : Int) else 0) = 1 := by decide +kernel
  unfold restT
  walk_at "sj"
  repeat' first | exact h _ _ | omega | apply And.intro | (intro q; exact absurd q (by decide)) | (intro _; first | (walk_at "sj"; exact h _ _) | (walk_at "sj"; done))
theorem rest12 {S : Store} {x0 x4 x9 x10 : Option D} {nm : Str} {m : Int} {ks : List Str} (hs : NmOk nm) (hk : ∀ z ∈ ks, NmOk z) (hl : ks.length ≤ 1000) {P : Po} (h : ∀ y z : D, P.N [x0, some (.loc 0), some wF, some wP, x4, some (.str nm), some (.int m), some (.int 12), some (.lst (ks.map .str)), some y, some z] S) :
    Ws GF restT [x0, some (.loc 0), some wF, some wP, x4, some (.str nm), some (.int m), some (.int 12), some (.lst (ks.map .str)), x9, x10] S P := by
  obtain ⟨e, h1, h2, h3⟩ := (row12 nm m ks).ex
  have hn : ∀ S, COp.ev .ne (.tup [.int m, .int (m + 1)]) (.tup [.int m, .int (m + 1)]) S = .ok (.bl false) S := fun S => neC_self (k := 3) (ok_two m) (by decide) S
  have hw : ∀ S, COp.ev .ne (.str "hindered") (.str "hindered") S = .ok (.bl false) S := fun S => neC_self (k := 3) (by decide +kernel) (by decide) S
  have q0 : ((12 : Int) = 0) = False := by simp
  have q1 : ((12 : Int) = 1) = False := by simp
  have q2 : ((12 : Int) = 2) = False := by simp
  have q5 : ((12 : Int) = 5) = False := by simp
  have q11 : ((12 : Int) = 11) = False := by simp
  have q12 : ((12 : Int) = 12) = True := by simp
  have hv : (if ([D.int 0, D.int 1, D.int 2, D.int 11].any fun z => eqD z (D.int 12)) = true then (1 : Int) else 0) = 0 := by decide +kernel
  unfold restT
  walk_at "sj"
  repeat' first | exact h _ _ | omega | apply And.intro | (intro q; exact absurd q (by decide)) | (intro _; first | (walk_at "sj"; exact h _ _) | (walk_at "sj"; done))
theorem plainR0 {S : Store} {x0 x4 x5 x6 x8 x9 x10 : Option D} {P : Po} (h : P.N [x0, some (.loc 0), some wF, some wP, x4, x5, x6, some (.int 0), x8, x9, x10] S) :
    Ws GF restP [x0, some (.loc 0), some wF, some wP, x4, x5, x6, some (.int 0), x8, x9, x10] S P := by
  obtain ⟨e, h1, h2⟩ := plain0.ex
  have hw : ∀ S, COp.ev .ne (.str "block") (.str "block") S = .ok (.bl false) S := fun S => neC_self (k := 3) (by decide +kernel) (by decide) S
  unfold restP
  walk_at "sj"
  repeat' first | exact h | omega | apply And.intro
theorem plainR1 {S : Store} {x0 x4 x5 x6 x8 x9 x10 : Option D} {P : Po} (h : P.N [x0, some (.loc 0), some wF, some wP, x4, x5, x6, some (.int 1), x8, x9, x10] S) :
    Ws GF restP [x0, some (.loc 0), some wF, some wP, x4, x5, x6, some (.int 1), x8, x9, x10] S P := by
  obtain ⟨e, h1, h2⟩ := plain1.ex
  have hw : ∀ S, COp.ev .ne (.str "loose") (.str "loose") S = .ok (.bl false) S := fun S => neC_self (k := 3) (by decide +kernel) (by decide) S
  unfold restP
  walk_at "sj"
  repeat' first | exact h | omega | apply And.intro
theorem plainR2 {S : Store} {x0 x4 x5 x6 x8 x9 x10 : Option D} {P : Po} (h : P.N [x0, some (.loc 0), some wF, some wP, x4, x5, x6, some (.int 2), x8, x9, x10] S) :
    Ws GF restP [x0, some (.loc 0), some wF, some wP, x4, x5, x6, some (.int 2), x8, x9, x10] S P := by
  obtain ⟨e, h1, h2⟩ := plain2.ex
  have hw : ∀ S, COp.ev .ne (.str "grade") (.str "grade") S = .ok (.bl false) S := fun S => neC_self (k := 3) (by decide +kernel) (by decide) S
  unfold restP
  walk_at "sj"
  repeat' first | exact h | omega | apply And.intro
theorem plainR3 {S : Store} {x0 x4 x5 x6 x8 x9 x10 : Option D} {P : Po} (h : P.N [x0, some (.loc 0), some wF, some wP, x4, x5, x6, some (.int 3), x8, x9, x10] S) :
    Ws GF restP [x0, some (.loc 0), some wF, some wP, x4, x5, x6, some (.int 3), x8, x9, x10] S P := by
  obtain ⟨e, h1, h2⟩ := plain3.ex
  have hw : ∀ S, COp.ev .ne (.str "deed") (.str "deed") S = .ok (.bl false) S := fun S => neC_self (k := 3) (by decide +kernel) (by decide) S
  unfold restP
  walk_at "sj"
  repeat' first | exact h | omega | apply And.intro
theorem plainR4 {S : Store} {x0 x4 x5 x6 x8 x9 x10 : Option D} {P : Po} (h : P.N [x0, some (.loc 0), some wF, some wP, x4, x5, x6, some (.int 4), x8, x9, x10] S) :
    Ws GF restP [x0, some (.loc 0), some wF, some wP, x4, x5, x6, some (.int 4), x8, x9, x10] S P := by
  obtain ⟨e, h1, h2⟩ := plain4.ex
  have hw : ∀ S, COp.ev .ne (.str "day") (.str "day") S = .ok (.bl false) S := fun S => neC_self (k := 3) (by decide +kernel) (by decide) S
  unfold restP
  walk_at "sj"
  repeat' first | exact h | omega | apply And.intro
theorem plainR5 {S : Store} {x0 x4 x5 x6 x8 x9 x10 : Option D} {P : Po} (h : P.N [x0, some (.loc 0), some wF, some wP, x4, x5, x6, some (.int 5), x8, x9, x10] S) :
    Ws GF restP [x0, some (.loc 0), some wF, some wP, x4, x5, x6, some (.int 5), x8, x9, x10] S P := by
  obtain ⟨e, h1, h2⟩ := plain5.ex
  have hw : ∀ S, COp.ev .ne (.str "entry") (.str "entry") S = .ok (.bl false) S := fun S => neC_self (k := 3) (by decide +kernel) (by decide) S
  unfold restP
  walk_at "sj"
  repeat' first | exact h | omega | apply And.intro
theorem plainR6 {S : Store} {x0 x4 x5 x6 x8 x9 x10 : Option D} {P : Po} (h : P.N [x0, some (.loc 0), some wF, some wP, x4, x5, x6, some (.int 6), x8, x9, x10] S) :
    Ws GF restP [x0, some (.loc 0), some wF, some wP, x4, x5, x6, some (.int 6), x8, x9, x10] S P := by
  obtain ⟨e, h1, h2⟩ := plain6.ex
  have hw : ∀ S, COp.ev .ne (.str "row") (.str "row") S = .ok (.bl false) S := fun S => neC_self (k := 3) (by decide +kernel) (by decide) S
  unfold restP
  walk_at "sj"
  repeat' first | exact h | omega | apply And.intro
end K23

/-! K23m: refusals made. -/
namespace K23
open PySem PySem.Spec PyProof.Rows L2 DL SW
open K02 (f_l_far steps left leftD left_at)
def big60 : Int := 1000000000000000000000000000000000000000000000000000000000000
local macro_rules | `(tactic| walk_at "sx") => `(tactic| (simp_arith [rowD, atI_map, ix_sh, wk_sh, len_sh, en_sh, ty_sh, ix_bx, bt_bx]))
theorem far60 {S : Store} {p : Nat} (hp : PenAt S p) {X : XD} {Q : QD} (h : ∀ (k : Int) S', 1 ≤ k → k ≤ big60 → PenAt S' p → DL.Kept [p] S S' → Q (.int k) S') : (f_l_far [.loc p, .int big60] S).satx X Q := by
  refine fn_sx rfl ?_
  unfold K02.b_l_far
  walk_at "sx"
  refine while_inv (fun ρ S' => (∃ n r : Int, ρ = [some (.loc p), some (.int big60), some (.int n), some (.int r)] ∧ 0 ≤ n ∧ r ∈ steps) ∧ PenAt S' p ∧ DL.Kept [p] S S') left ?_ ⟨⟨0, 1, rfl, by omega, by decide⟩, hp, DL.Kept.refl _ _⟩ (by rw [left_at]; decide +kernel)
  rintro ρ S1 ⟨⟨n, r, rfl, hn, hr⟩, hp1, hk1⟩
  have hbig : (0 : Int) < big60 := by decide
  by_cases hc : r < big60
  · have hr2 : r * 1000000 ∈ steps ∧ (steps.filter fun z => decide (r * 1000000 < z)).length < (steps.filter fun z => decide (r < z)).length := by
      have key : (steps.all fun r => !decide (r < big60) || (decide (r * 1000000 ∈ steps) && decide ((steps.filter fun z => decide (r * 1000000 < z)).length < (steps.filter fun z => decide (r < z)).length))) = true := by decide +kernel
      have := List.all_eq_true.1 key r hr
      simpa [hc] using this
    walk_at "sj"
    refine draw_ok hp1 (by omega) (by omega) fun k S2 k0 k1 hp2 hk2 => ?_
    walk_at "sj"
    refine ⟨⟨⟨_, _, rfl, by omega, hr2.1⟩, hk1.trans hk2⟩, ?_⟩
    rw [left_at, left_at]
    exact hr2.2
  · walk_at "sj"
    have h1 := Int.emod_nonneg n (b := big60) (by omega)
    have h2 := Int.emod_lt_of_pos n hbig
    exact h _ _ (by omega) (by omega) hp1 hk1
theorem spt1 : Txt.split (Str.ofString "thick broad long stacked overhang beneath taken trunk board order misfit line hindered") (Str.ofString " ") = (["thick", "broad", "long", "stacked", "overhang", "beneath", "taken", "trunk", "board", "order", "misfit", "line", "hindered"] : List Str) := by decide +kernel
theorem spt2 : Txt.split (Str.ofString "block loose grade deed day entry row") (Str.ofString " ") = (["block", "loose", "grade", "deed", "day", "entry", "row"] : List Str) := by decide +kernel
local macro_rules | `(tactic| walk_at "sx") => `(tactic| (simp_arith [rowD, atI_map, ix_sh, wk_sh, len_sh, en_sh, ty_sh, ix_bx, bt_bx, spt1, spt2, List.map_cons, List.map_nil]))
theorem law_math : ∀ ns : List Int, ns.length ≤ 63 → ∃ S', f_law_k23 [.scr ns] [] = .ok (.bl true) S' := by
  intro ns hn
  refine ⟨[], pr_sat (by simp [D.pureL, D.pure]) (by simp [D.pure]) ?_⟩
  refine fn_sx rfl ?_
  unfold b_law_k23
  walk_at "sx"
  refine pen_of_ok hn fun S1 hp1 hk1 => ?_
  walk_at "sj"
  repeat refine And.intro (by decide +kernel) ?_
  refine draw_ok (m := 5) hp1 (by decide) (by decide) fun k S2 k0 k1 hp2 hk2 => ?_
  walk_at "sj"
  refine for_inv (fun i ρ S' => (∃ x4 x5 x6 x7 x8 x9 x10 : Option D, ρ = [some (.scr ns), some (.loc 0), some wF, some wP, x4, x5, x6, x7, x8, x9, x10]) ∧ PenAt S' 0) ?_ ?_ ⟨⟨_, _, _, _, _, _, _, rfl⟩, hp2⟩
  · rintro i x ρ S3 hx ⟨⟨x4, x5, x6, x7, x8, x9, x10, rfl⟩, hp3⟩
    obtain ⟨rfl, hi⟩ := rngD_get hx
    clear hx hp1 hp2 hk1 hk2
    refine ⟨_, rfl, ?_⟩
    walk_at "sj"
    refine names_ra hp3 (by decide) (by decide) fun zs S4 hz hzl hp4 hk4 => ?_
    obtain ⟨nm, hnm, hnmm⟩ : ∃ z, atI zs 0 = some z ∧ z ∈ zs := ⟨_, atI_in (by omega) (by omega), List.getElem_mem _⟩
    walk_at "sj"
    refine far60 hp4 fun mm S5 m0 m1 hp5 hk5 => ?_
    clear hk4 hk5 hp3 hp4
    walk_at "sj"
    have hnm2 := hz nm hnmm
    refine for_inv (fun j ρ S' => (∃ x7 x8 x9 x10 : Option D, ρ = [some (.scr ns), some (.loc 0), some wF, some wP, some (.int (0 + (i : Int))), some (.str nm), some (.int mm), x7, x8, x9, x10]) ∧ PenAt S' 0) ?_ ?_ ⟨⟨_, _, _, _, rfl⟩, hp5⟩
    · rintro j y ρ S6 hy ⟨⟨x7, x8, x9, x10, rfl⟩, hp6⟩
      obtain ⟨rfl, hj⟩ := rngD_get hy
      clear hy hp5 hz hzl hnm hnmm
      refine ⟨_, rfl, ?_⟩
      change Ws _ (_ :: restT) _ _ _
      walk_at "sj"
      refine draw_ok (m := 4) hp6 (by decide) (by decide) fun k4 S7 k40 k41 hp7 hk7 => ?_
      walk_at "sj"
      refine names_ra hp7 (by omega) (by omega) fun ks S8 hks hkl hp8 hk8 => ?_
      clear hk7 hk8 hp6 hp7
      walk_at "sj"
      have hkl2 : ks.length ≤ 1000 := by omega
      have hj2 : j = 0 ∨ j = 1 ∨ j = 2 ∨ j = 3 ∨ j = 4 ∨ j = 5 ∨ j = 6 ∨ j = 7 ∨ j = 8 ∨ j = 9 ∨ j = 10 ∨ j = 11 ∨ j = 12 := by omega
      rcases hj2 with rfl | rfl | rfl | rfl | rfl | rfl | rfl | rfl | rfl | rfl | rfl | rfl | rfl
      · exact rest0 hnm2 hks hkl2 fun y z => ⟨⟨_, _, _, _, rfl⟩, hp8⟩
      · exact rest1 hnm2 hks hkl2 fun y z => ⟨⟨_, _, _, _, rfl⟩, hp8⟩
      · exact rest2 hnm2 hks hkl2 fun y z => ⟨⟨_, _, _, _, rfl⟩, hp8⟩
      · exact rest3 hnm2 hks hkl2 fun y z => ⟨⟨_, _, _, _, rfl⟩, hp8⟩
      · exact rest4 hnm2 hks hkl2 fun y z => ⟨⟨_, _, _, _, rfl⟩, hp8⟩
      · exact rest5 hnm2 hks hkl2 fun y z => ⟨⟨_, _, _, _, rfl⟩, hp8⟩
      · exact rest6 hnm2 hks hkl2 fun y z => ⟨⟨_, _, _, _, rfl⟩, hp8⟩
      · exact rest7 hnm2 hks hkl2 fun y z => ⟨⟨_, _, _, _, rfl⟩, hp8⟩
      · exact rest8 hnm2 hks hkl2 fun y z => ⟨⟨_, _, _, _, rfl⟩, hp8⟩
      · exact rest9 hnm2 hks hkl2 fun y z => ⟨⟨_, _, _, _, rfl⟩, hp8⟩
      · exact rest10 hnm2 hks hkl2 fun y z => ⟨⟨_, _, _, _, rfl⟩, hp8⟩
      · exact rest11 hnm2 hks hkl2 fun y z => ⟨⟨_, _, _, _, rfl⟩, hp8⟩
      · exact rest12 hnm2 hks hkl2 fun y z => ⟨⟨_, _, _, _, rfl⟩, hp8⟩
    · rintro ρ S6 ⟨⟨x7, x8, x9, x10, rfl⟩, hp6⟩
      walk_at "sj"
      refine for_inv (fun j ρ S' => (∃ x7 x8 x9 x10 : Option D, ρ = [some (.scr ns), some (.loc 0), some wF, some wP, some (.int (0 + (i : Int))), some (.str nm), some (.int mm), x7, x8, x9, x10]) ∧ PenAt S' 0) ?_ ?_ ⟨⟨_, _, _, _, rfl⟩, hp6⟩
      · rintro j y ρ S7 hy ⟨⟨x7, x8, x9, x10, rfl⟩, hp7⟩
        obtain ⟨rfl, hj⟩ := rngD_get hy
        refine ⟨_, rfl, ?_⟩
        change Ws _ restP _ _ _
        have hj2 : j = 0 ∨ j = 1 ∨ j = 2 ∨ j = 3 ∨ j = 4 ∨ j = 5 ∨ j = 6 := by omega
        rcases hj2 with rfl | rfl | rfl | rfl | rfl | rfl | rfl
        · exact plainR0 ⟨(fun _ z => nomatch z), ⟨_, _, _, _, rfl⟩, hp7⟩
        · exact plainR1 ⟨(fun _ z => nomatch z), ⟨_, _, _, _, rfl⟩, hp7⟩
        · exact plainR2 ⟨(fun _ z => nomatch z), ⟨_, _, _, _, rfl⟩, hp7⟩
        · exact plainR3 ⟨(fun _ z => nomatch z), ⟨_, _, _, _, rfl⟩, hp7⟩
        · exact plainR4 ⟨(fun _ z => nomatch z), ⟨_, _, _, _, rfl⟩, hp7⟩
        · exact plainR5 ⟨(fun _ z => nomatch z), ⟨_, _, _, _, rfl⟩, hp7⟩
        · exact plainR6 ⟨(fun _ z => nomatch z), ⟨_, _, _, _, rfl⟩, hp7⟩
      · rintro ρ S7 ⟨⟨x7, x8, x9, x10, rfl⟩, hp7⟩
        exact ⟨⟨_, _, _, _, _, _, _, rfl⟩, hp7⟩
  · rintro ρ S3 ⟨⟨x4, x5, x6, x7, x8, x9, x10, rfl⟩, hp3⟩
    walk_at "sj"
end K23

namespace K23
open PySem PySem.Spec PyProof.Rows L2 DL SW K02
def topS (i : Nat) : Stmt := PySem.Challenge.pw_sawtrunk_k23_refusals_made.main.body.getD i (.Pass ⟨0, 0, 0, 0⟩)
section
variable {P : Program} {w : World} {K : PySem.W.Frag} {mg : Str → Option Value} {base : Heap}
theorem c_l_pen_of {f : Addr} {fd : FuncData} (F : Fun K "_law_pen_of" "_law_pen_of" (topS 23) f fd) (hm : mg "_law_pen_of" = some (.ref f)) (z0 : mg "list" = none) : Callee P w K mg base 1 "_law_pen_of" f_l_pen_of :=
  callee_def (ps := ["_law_script"]) (body := b_l_pen_of) (g := ⟨["_law_script"], [], [], ["list"], [], [], []⟩) F hm (around_ofM (k := 0) TabOk.nil GlOk.nil (BnOk.cons z0 BnOk.nil) XsOk.nil XnOk.nil MtsOk.nil) (by decide +kernel) (by decide +kernel) (F.binds fun _ _ _ _ _ _ us hl => match us, hl with | [_], _ => rfl)
theorem c_l_draw {f : Addr} {fd : FuncData} (F : Fun K "_law_draw" "_law_draw" (topS 24) f fd) (hm : mg "_law_draw" = some (.ref f)) (z0 : mg "len" = none) (z1 : mg "abs" = none) : Callee P w K mg base 1 "_law_draw" f_l_draw :=
  callee_def (ps := ["_law_pen", "_law_many"]) (body := b_l_draw) (g := ⟨["_law_pen", "_law_many", "_law_at", "_law_cell", "_law_number", "_law_digit"], [], [], ["len", "abs"], [], [], []⟩) F hm (around_ofM (k := 0) TabOk.nil GlOk.nil (BnOk.cons z0 (BnOk.cons z1 BnOk.nil)) XsOk.nil XnOk.nil MtsOk.nil) (by decide +kernel) (by decide +kernel) (F.binds fun _ _ _ _ _ _ us hl => match us, hl with | [_, _], _ => rfl)
theorem c_l_word {f : Addr} {fd : FuncData} (F : Fun K "_law_word" "_law_word" (topS 27) f fd) (hm : mg "_law_word" = some (.ref f)) (z0 : mg "isinstance" = none) (z1 : mg "zip" = none) (z2 : mg "ValueError" = none) (z3 : mg "len" = none) (n0 : ∃ C, mg "TooThick" = some (.ref C)) (n1 : ∃ C, mg "NoBlock" = some (.ref C)) (n2 : ∃ C, mg "TooBroad" = some (.ref C)) (n3 : ∃ C, mg "TooLong" = some (.ref C)) (n4 : ∃ C, mg "Stacked" = some (.ref C)) (n5 : ∃ C, mg "Overhang" = some (.ref C)) (n6 : ∃ C, mg "NotStacked" = some (.ref C)) (n7 : ∃ C, mg "Beneath" = some (.ref C)) (n8 : ∃ C, mg "Taken" = some (.ref C)) (n9 : ∃ C, mg "NoTrunk" = some (.ref C)) (n10 : ∃ C, mg "NoBoard" = some (.ref C)) (n11 : ∃ C, mg "NoOrder" = some (.ref C)) (n12 : ∃ C, mg "NoGrade" = some (.ref C)) (n13 : ∃ C, mg "Misfit" = some (.ref C)) (n14 : ∃ C, mg "NoDeed" = some (.ref C)) (n15 : ∃ C, mg "NoDay" = some (.ref C)) (n16 : ∃ C, mg "Hindered" = some (.ref C)) (n17 : ∃ C, mg "NoEntry" = some (.ref C)) (n18 : ∃ C, mg "NoLine" = some (.ref C)) (n19 : ∃ C, mg "NoRow" = some (.ref C)) (n20 : ∃ C, mg "SawError" = some (.ref C)) : Callee P w K mg base 1 "_law_word" f_l_word :=
  (callee_def (ps := ["_law_caught"]) (body := b_l_word) (g := ⟨["_law_caught", "_law_told", "_law_words", "_law_found", "_law_word_here", "_law_so"], [], [], ["isinstance", "zip", "ValueError", "len"], [], ["TooThick", "NoBlock", "TooBroad", "TooLong", "Stacked", "Overhang", "NotStacked", "Beneath", "Taken", "NoTrunk", "NoBoard", "NoOrder", "NoGrade", "Misfit", "NoDeed", "NoDay", "Hindered", "NoEntry", "NoLine", "NoRow", "SawError"], []⟩) F hm (around_ofM (k := 0) TabOk.nil GlOk.nil (BnOk.cons z0 (BnOk.cons z1 (BnOk.cons z2 (BnOk.cons z3 BnOk.nil)))) XsOk.nil (XnOk.cons n0 (XnOk.cons n1 (XnOk.cons n2 (XnOk.cons n3 (XnOk.cons n4 (XnOk.cons n5 (XnOk.cons n6 (XnOk.cons n7 (XnOk.cons n8 (XnOk.cons n9 (XnOk.cons n10 (XnOk.cons n11 (XnOk.cons n12 (XnOk.cons n13 (XnOk.cons n14 (XnOk.cons n15 (XnOk.cons n16 (XnOk.cons n17 (XnOk.cons n18 (XnOk.cons n19 (XnOk.cons n20 XnOk.nil))))))))))))))))))))) MtsOk.nil) (by decide +kernel) (by decide +kernel) (F.binds fun _ _ _ _ _ _ us hl => match us, hl with | [_], _ => rfl)).pure
theorem c_l_field {f : Addr} {fd : FuncData} (F : Fun K "_law_field" "_law_field" (topS 30) f fd) (hm : mg "_law_field" = some (.ref f)) : Callee P w K mg base 1 "_law_field" f_l_field :=
  (callee_def (ps := ["_law_number", "_law_error"]) (body := b_l_field) (g := ⟨["_law_number", "_law_error"], [], [], [], [], [], []⟩) F hm (around_ofM (k := 0) TabOk.nil GlOk.nil BnOk.nil XsOk.nil XnOk.nil MtsOk.nil) (by decide +kernel) (by decide +kernel) (F.binds fun _ _ _ _ _ _ us hl => match us, hl with | [_, _], _ => rfl)).pure
theorem c_l_far {f : Addr} {fd : FuncData} (F : Fun K "_law_far" "_law_far" (topS 25) f fd) (hm : mg "_law_far" = some (.ref f)) (C0 : Callee P w K mg base 1 "_law_draw" f_l_draw) : Callee P w K mg base 2 "_law_far" f_l_far :=
  callee_def (ps := ["_law_pen", "_law_bound"]) (body := b_l_far) (g := ⟨["_law_pen", "_law_bound", "_law_number", "_law_reach"], ["_law_draw"], [], [], [], [], []⟩) F hm (around_ofM (k := 1) (TabOk.cons (C0.mono (by decide)) TabOk.nil) GlOk.nil BnOk.nil XsOk.nil XnOk.nil MtsOk.nil) (by decide +kernel) (by decide +kernel) (F.binds fun _ _ _ _ _ _ us hl => match us, hl with | [_, _], _ => rfl)
theorem c_l_names {f : Addr} {fd : FuncData} (F : Fun K "_law_names" "_law_names" (topS 26) f fd) (hm : mg "_law_names" = some (.ref f)) (C0 : Callee P w K mg base 1 "_law_draw" f_l_draw) (z0 : mg "range" = none) (z1 : mg "enumerate" = none) (z2 : mg "max" = none) : Callee P w K mg base 2 "_law_names" f_l_names_ra :=
  callee_def (ps := ["_law_pen", "_law_many"]) (body := b_l_names_ra) (g := ⟨["_law_pen", "_law_many", "_law_letters", "_law_begin", "_law_size", "_law_step", "_law_at", "_law_word_here", "_law_ahead", "_law_last", "_law_found", "_law_special", "_law_k", "_law_name"], ["_law_draw"], [], ["range", "enumerate", "max"], [], [], []⟩) F hm (around_ofM (k := 1) (TabOk.cons (C0.mono (by decide)) TabOk.nil) GlOk.nil (BnOk.cons z0 (BnOk.cons z1 (BnOk.cons z2 BnOk.nil))) XsOk.nil XnOk.nil MtsOk.nil) (by decide +kernel) (by decide +kernel) (F.binds fun _ _ _ _ _ _ us hl => match us, hl with | [_, _], _ => rfl)
theorem c_l_with_field {f : Addr} {fd : FuncData} (F : Fun K "_law_with_field" "_law_with_field" (topS 28) f fd) (hm : mg "_law_with_field" = some (.ref f)) (m0 : Maker P w K mg base 1 "TooThick" ["TooThick", "SawError"] (.args ["deep"])) (m1 : Maker P w K mg base 1 "TooBroad" ["TooBroad", "SawError"] (.args ["breadth"])) (m2 : Maker P w K mg base 1 "TooLong" ["TooLong", "SawError"] (.args ["long"])) (m3 : Maker P w K mg base 1 "Stacked" ["Stacked", "SawError"] (.args ["stack"])) (m4 : Maker P w K mg base 1 "Overhang" ["Overhang", "SawError"] (.args ["name"])) (m5 : Maker P w K mg base 1 "Beneath" ["Beneath", "SawError"] (.lst "names")) (m6 : Maker P w K mg base 1 "Taken" ["Taken", "SawError"] (.args ["name"])) (m7 : Maker P w K mg base 1 "NoTrunk" ["NoTrunk", "SawError"] (.args ["name"])) (m8 : Maker P w K mg base 1 "NoBoard" ["NoBoard", "SawError"] (.args ["name"])) (m9 : Maker P w K mg base 1 "NoOrder" ["NoOrder", "SawError"] (.args ["name"])) (m10 : Maker P w K mg base 1 "Misfit" ["Misfit", "SawError"] (.args ["word"])) (m11 : Maker P w K mg base 1 "NoLine" ["NoLine", "SawError"] (.args ["line"])) (m12 : Maker P w K mg base 1 "Hindered" ["Hindered", "SawError"] (.args ["entry", "refusal"])) : Callee P w K mg base 3 "_law_with_field" f_l_with_field :=
  (callee_def (ps := ["_law_number", "_law_name", "_law_many", "_law_some"]) (body := b_l_with_field) (g := ⟨["_law_number", "_law_name", "_law_many", "_law_some"], [], [], [], [("TooThick", ["TooThick", "SawError"], (.args ["deep"])), ("TooBroad", ["TooBroad", "SawError"], (.args ["breadth"])), ("TooLong", ["TooLong", "SawError"], (.args ["long"])), ("Stacked", ["Stacked", "SawError"], (.args ["stack"])), ("Overhang", ["Overhang", "SawError"], (.args ["name"])), ("Beneath", ["Beneath", "SawError"], (.lst "names")), ("Taken", ["Taken", "SawError"], (.args ["name"])), ("NoTrunk", ["NoTrunk", "SawError"], (.args ["name"])), ("NoBoard", ["NoBoard", "SawError"], (.args ["name"])), ("NoOrder", ["NoOrder", "SawError"], (.args ["name"])), ("Misfit", ["Misfit", "SawError"], (.args ["word"])), ("NoLine", ["NoLine", "SawError"], (.args ["line"])), ("Hindered", ["Hindered", "SawError"], (.args ["entry", "refusal"]))], [], []⟩) F hm (around_ofM (k := 2) TabOk.nil GlOk.nil BnOk.nil (XsOk.cons m0 (by decide) (XsOk.cons m1 (by decide) (XsOk.cons m2 (by decide) (XsOk.cons m3 (by decide) (XsOk.cons m4 (by decide) (XsOk.cons m5 (by decide) (XsOk.cons m6 (by decide) (XsOk.cons m7 (by decide) (XsOk.cons m8 (by decide) (XsOk.cons m9 (by decide) (XsOk.cons m10 (by decide) (XsOk.cons m11 (by decide) (XsOk.cons m12 (by decide) XsOk.nil))))))))))))) XnOk.nil MtsOk.nil) (by decide +kernel) (by decide +kernel) (F.binds fun _ _ _ _ _ _ us hl => match us, hl with | [_, _, _, _], _ => rfl)).pure
theorem c_l_by_text {f : Addr} {fd : FuncData} (F : Fun K "_law_by_text" "_law_by_text" (topS 29) f fd) (hm : mg "_law_by_text" = some (.ref f)) (m0 : Maker P w K mg base 1 "NoBlock" ["NoBlock", "SawError"] .no) (m1 : Maker P w K mg base 1 "NotStacked" ["NotStacked", "SawError"] .no) (m2 : Maker P w K mg base 1 "NoGrade" ["NoGrade", "SawError"] .no) (m3 : Maker P w K mg base 1 "NoDeed" ["NoDeed", "SawError"] .no) (m4 : Maker P w K mg base 1 "NoDay" ["NoDay", "SawError"] .no) (m5 : Maker P w K mg base 1 "NoEntry" ["NoEntry", "SawError"] .no) (m6 : Maker P w K mg base 1 "NoRow" ["NoRow", "SawError"] .no) : Callee P w K mg base 3 "_law_by_text" f_l_by_text :=
  (callee_def (ps := ["_law_number"]) (body := b_l_by_text) (g := ⟨["_law_number"], [], [], [], [("NoBlock", ["NoBlock", "SawError"], .no), ("NotStacked", ["NotStacked", "SawError"], .no), ("NoGrade", ["NoGrade", "SawError"], .no), ("NoDeed", ["NoDeed", "SawError"], .no), ("NoDay", ["NoDay", "SawError"], .no), ("NoEntry", ["NoEntry", "SawError"], .no), ("NoRow", ["NoRow", "SawError"], .no)], [], []⟩) F hm (around_ofM (k := 2) TabOk.nil GlOk.nil BnOk.nil (XsOk.cons m0 (by decide) (XsOk.cons m1 (by decide) (XsOk.cons m2 (by decide) (XsOk.cons m3 (by decide) (XsOk.cons m4 (by decide) (XsOk.cons m5 (by decide) (XsOk.cons m6 (by decide) XsOk.nil))))))) XnOk.nil MtsOk.nil) (by decide +kernel) (by decide +kernel) (F.binds fun _ _ _ _ _ _ us hl => match us, hl with | [_], _ => rfl)).pure
theorem c_law_fn {f : Addr} {fd : FuncData} (F : Fun K "law" "law" (topS 31) f fd) (C0 : Callee P w K mg base 1 "_law_pen_of" f_l_pen_of) (C1 : Callee P w K mg base 1 "_law_draw" f_l_draw) (C2 : Callee P w K mg base 2 "_law_names" f_l_names_ra) (C3 : Callee P w K mg base 2 "_law_far" f_l_far) (C4 : Callee P w K mg base 3 "_law_with_field" f_l_with_field) (C5 : Callee P w K mg base 1 "_law_word" f_l_word) (C6 : Callee P w K mg base 1 "_law_field" f_l_field) (C7 : Callee P w K mg base 3 "_law_by_text" f_l_by_text) (z0 : mg "range" = none) (z1 : mg "int" = none) (z2 : mg "list" = none) : FnG P w K mg base 4 f fd ["_law_script"] (spF K mg 1 (fnOf ⟨[f_l_pen_of, f_l_draw, f_l_names_ra, f_l_far, f_l_with_field, f_l_word, f_l_field, f_l_by_text], [], []⟩ 11 1 b_law_k23)) :=
  def_ok (ps := ["_law_script"]) (g := ⟨["_law_script", "_law_pen", "_law_words", "_law_plain", "_law_turn", "_law_name", "_law_many", "_law_number", "_law_some", "_law_due", "_law_error"], ["_law_pen_of", "_law_draw", "_law_names", "_law_far", "_law_with_field", "_law_word", "_law_field", "_law_by_text"], [], ["range", "int", "list"], [], [], []⟩) F (around_ofM (k := 3) (TabOk.cons (C0.mono (by decide)) (TabOk.cons (C1.mono (by decide)) (TabOk.cons (C2.mono (by decide)) (TabOk.cons (C3.mono (by decide)) (TabOk.cons (C4.mono (by decide)) (TabOk.cons (C5.mono (by decide)) (TabOk.cons (C6.mono (by decide)) (TabOk.cons (C7.mono (by decide)) TabOk.nil)))))))) GlOk.nil (BnOk.cons z0 (BnOk.cons z1 (BnOk.cons z2 BnOk.nil))) XsOk.nil XnOk.nil MtsOk.nil) (by decide +kernel) (by decide +kernel)
theorem all_mk {l : PySem.W.OpenLaw} {h : Heap} {fa f0 f1 f2 f3 f4 f5 f6 f7 f8 : Addr} (X : K.In h) (G : h.Ns mainGlobals mg) (hfa : mg "law" = some (.ref fa))
    {od0 an0 od1 an1 od2 an2 od3 an3 od4 an4 od5 an5 od6 an6 od7 an7 od8 an8 : Option Addr} {sl0 sl1 sl2 sl3 sl4 sl5 sl6 sl7 sl8 : Array (Option Value)} {oc0 kV0 dc0 pm0 cd0 ct0 oc1 kV1 dc1 pm1 cd1 ct1 oc2 kV2 dc2 pm2 cd2 ct2 oc3 kV3 dc3 pm3 cd3 ct3 oc4 kV4 dc4 pm4 cd4 ct4 oc5 kV5 dc5 pm5 cd5 ct5 oc6 kV6 dc6 pm6 cd6 ct6 oc7 kV7 dc7 pm7 cd7 ct7 oc8 kV8 dc8 pm8 cd8 ct8 : Value}
    (a0 : PySem.W.nsIn K mainGlobals "_law_pen_of" = some (some (.ref f0))) (l0 : K.lookup f0 = some ⟨oc0, od0, .func (PySem.W.fnOf "_law_pen_of" "_law_pen_of" (defArgs (topS 23)) (defBody (topS 23)) (defScope (topS 23)) .none kV0 dc0 pm0 an0 cd0 ct0), sl0⟩) (c0 : PySem.W.codeIn K cd0 "_law_pen_of" = true) (k0 : PySem.W.keepIn K (.ref f0) = true)
    (a1 : PySem.W.nsIn K mainGlobals "_law_draw" = some (some (.ref f1))) (l1 : K.lookup f1 = some ⟨oc1, od1, .func (PySem.W.fnOf "_law_draw" "_law_draw" (defArgs (topS 24)) (defBody (topS 24)) (defScope (topS 24)) .none kV1 dc1 pm1 an1 cd1 ct1), sl1⟩) (c1 : PySem.W.codeIn K cd1 "_law_draw" = true) (k1 : PySem.W.keepIn K (.ref f1) = true)
    (a2 : PySem.W.nsIn K mainGlobals "_law_word" = some (some (.ref f2))) (l2 : K.lookup f2 = some ⟨oc2, od2, .func (PySem.W.fnOf "_law_word" "_law_word" (defArgs (topS 27)) (defBody (topS 27)) (defScope (topS 27)) .none kV2 dc2 pm2 an2 cd2 ct2), sl2⟩) (c2 : PySem.W.codeIn K cd2 "_law_word" = true) (k2 : PySem.W.keepIn K (.ref f2) = true)
    (a3 : PySem.W.nsIn K mainGlobals "_law_field" = some (some (.ref f3))) (l3 : K.lookup f3 = some ⟨oc3, od3, .func (PySem.W.fnOf "_law_field" "_law_field" (defArgs (topS 30)) (defBody (topS 30)) (defScope (topS 30)) .none kV3 dc3 pm3 an3 cd3 ct3), sl3⟩) (c3 : PySem.W.codeIn K cd3 "_law_field" = true) (k3 : PySem.W.keepIn K (.ref f3) = true)
    (a4 : PySem.W.nsIn K mainGlobals "_law_far" = some (some (.ref f4))) (l4 : K.lookup f4 = some ⟨oc4, od4, .func (PySem.W.fnOf "_law_far" "_law_far" (defArgs (topS 25)) (defBody (topS 25)) (defScope (topS 25)) .none kV4 dc4 pm4 an4 cd4 ct4), sl4⟩) (c4 : PySem.W.codeIn K cd4 "_law_far" = true) (k4 : PySem.W.keepIn K (.ref f4) = true)
    (a5 : PySem.W.nsIn K mainGlobals "_law_names" = some (some (.ref f5))) (l5 : K.lookup f5 = some ⟨oc5, od5, .func (PySem.W.fnOf "_law_names" "_law_names" (defArgs (topS 26)) (defBody (topS 26)) (defScope (topS 26)) .none kV5 dc5 pm5 an5 cd5 ct5), sl5⟩) (c5 : PySem.W.codeIn K cd5 "_law_names" = true) (k5 : PySem.W.keepIn K (.ref f5) = true)
    (a6 : PySem.W.nsIn K mainGlobals "_law_with_field" = some (some (.ref f6))) (l6 : K.lookup f6 = some ⟨oc6, od6, .func (PySem.W.fnOf "_law_with_field" "_law_with_field" (defArgs (topS 28)) (defBody (topS 28)) (defScope (topS 28)) .none kV6 dc6 pm6 an6 cd6 ct6), sl6⟩) (c6 : PySem.W.codeIn K cd6 "_law_with_field" = true) (k6 : PySem.W.keepIn K (.ref f6) = true)
    (a7 : PySem.W.nsIn K mainGlobals "_law_by_text" = some (some (.ref f7))) (l7 : K.lookup f7 = some ⟨oc7, od7, .func (PySem.W.fnOf "_law_by_text" "_law_by_text" (defArgs (topS 29)) (defBody (topS 29)) (defScope (topS 29)) .none kV7 dc7 pm7 an7 cd7 ct7), sl7⟩) (c7 : PySem.W.codeIn K cd7 "_law_by_text" = true) (k7 : PySem.W.keepIn K (.ref f7) = true)
    (a8 : PySem.W.nsIn K mainGlobals "law" = some (some (.ref f8))) (l8 : K.lookup f8 = some ⟨oc8, od8, .func (PySem.W.fnOf "law" "law" (defArgs (topS 31)) (defBody (topS 31)) (defScope (topS 31)) .none kV8 dc8 pm8 an8 cd8 ct8), sl8⟩) (c8 : PySem.W.codeIn K cd8 "law" = true) (k8 : PySem.W.keepIn K (.ref f8) = true)
    (z0 : PySem.W.nsIn K mainGlobals "list" = some none)
    (z1 : PySem.W.nsIn K mainGlobals "len" = some none)
    (z2 : PySem.W.nsIn K mainGlobals "abs" = some none)
    (z3 : PySem.W.nsIn K mainGlobals "isinstance" = some none)
    (z4 : PySem.W.nsIn K mainGlobals "zip" = some none)
    (z5 : PySem.W.nsIn K mainGlobals "ValueError" = some none)
    (z6 : PySem.W.nsIn K mainGlobals "range" = some none)
    (z7 : PySem.W.nsIn K mainGlobals "enumerate" = some none)
    (z8 : PySem.W.nsIn K mainGlobals "max" = some none)
    (z9 : PySem.W.nsIn K mainGlobals "int" = some none)
    {A0 A1 A2 A3 A4 A5 A6 A7 A8 A9 A10 A11 A12 A13 A14 A15 A16 A17 A18 A19 A20 : Addr}
    (ca0 : PySem.W.nsIn K mainGlobals "SawError" = some (some (.ref A0)))
    (ca1 : PySem.W.nsIn K mainGlobals "TooThick" = some (some (.ref A1)))
    (ca2 : PySem.W.nsIn K mainGlobals "NoBlock" = some (some (.ref A2)))
    (ca3 : PySem.W.nsIn K mainGlobals "TooBroad" = some (some (.ref A3)))
    (ca4 : PySem.W.nsIn K mainGlobals "TooLong" = some (some (.ref A4)))
    (ca5 : PySem.W.nsIn K mainGlobals "Stacked" = some (some (.ref A5)))
    (ca6 : PySem.W.nsIn K mainGlobals "Overhang" = some (some (.ref A6)))
    (ca7 : PySem.W.nsIn K mainGlobals "NotStacked" = some (some (.ref A7)))
    (ca8 : PySem.W.nsIn K mainGlobals "Beneath" = some (some (.ref A8)))
    (ca9 : PySem.W.nsIn K mainGlobals "Taken" = some (some (.ref A9)))
    (ca10 : PySem.W.nsIn K mainGlobals "NoTrunk" = some (some (.ref A10)))
    (ca11 : PySem.W.nsIn K mainGlobals "NoBoard" = some (some (.ref A11)))
    (ca12 : PySem.W.nsIn K mainGlobals "NoOrder" = some (some (.ref A12)))
    (ca13 : PySem.W.nsIn K mainGlobals "NoGrade" = some (some (.ref A13)))
    (ca14 : PySem.W.nsIn K mainGlobals "Misfit" = some (some (.ref A14)))
    (ca15 : PySem.W.nsIn K mainGlobals "NoDeed" = some (some (.ref A15)))
    (ca16 : PySem.W.nsIn K mainGlobals "NoDay" = some (some (.ref A16)))
    (ca17 : PySem.W.nsIn K mainGlobals "Hindered" = some (some (.ref A17)))
    (ca18 : PySem.W.nsIn K mainGlobals "NoEntry" = some (some (.ref A18)))
    (ca19 : PySem.W.nsIn K mainGlobals "NoLine" = some (some (.ref A19)))
    (ca20 : PySem.W.nsIn K mainGlobals "NoRow" = some (some (.ref A20)))
    (xc1 : xcB K [("SawError", A0), ("TooThick", A1), ("NoBlock", A2), ("TooBroad", A3), ("TooLong", A4), ("Stacked", A5), ("Overhang", A6), ("NotStacked", A7), ("Beneath", A8), ("Taken", A9), ("NoTrunk", A10), ("NoBoard", A11), ("NoOrder", A12), ("NoGrade", A13), ("Misfit", A14), ("NoDeed", A15), ("NoDay", A16), ("Hindered", A17), ("NoEntry", A18), ("NoLine", A19), ("NoRow", A20)] A1 ["TooThick", "SawError"] = true) (kp1 : PySem.W.keepIn K (.ref A1) = true) (sb1 : PySem.W.subIn K (.ref A1) (.type "BaseException") = some true) (tp1 : PySem.W.typeIn K (.ref A1) = some (.type "type"))
    (bi0 : BaseIn K A0)
    {on1 oq1 : Str} {oN1 : Addr} {os1 om1 ou1 : List Value} {ot1 : List Str} {oa1 : Bool} {ol1 : Option Bool} {od1 : Option Addr} {o01 o11 o21 o31 o51 : Option Value}
    (oc_1 : K.lookup A1 = some (excClassObj on1 oq1 A1 oN1 os1 om1 true ot1 ou1 oa1 ol1 od1 o01 o11 o21 o31 o51 "ValueError.__new__")) (ob_1 : PySem.HandSPX.refsVE om1 = true) (sa1 : PySem.W.findIn K (.ref A1) "__setattr__" = some (some (.builtin "object.__setattr__")))
    {fI1 : Addr} {io1 ikV1 idc1 ipm1 icd1 ict1 : Value} {iod1 ian1 : Option Addr} {isl1 : Array (Option Value)}
    (ii1 : PySem.W.findIn K (.ref A1) "__init__" = some (some (.ref fI1))) (it1 : PySem.W.typeIn K (.ref fI1) = some (.type "function")) (il1 : K.lookup fI1 = some ⟨io1, iod1, .func (PySem.W.fnOf "__init__" "TooThick.__init__" (defArgs (inCls 0 (topS 2))) (defBody (inCls 0 (topS 2))) (defScope (inCls 0 (topS 2))) .none ikV1 idc1 ipm1 ian1 icd1 ict1), isl1⟩) (ic1 : PySem.W.codeIn K icd1 "TooThick.__init__" = true) (ik1 : PySem.W.keepIn K (.ref fI1) = true)
    (xc3 : xcB K [("SawError", A0), ("TooThick", A1), ("NoBlock", A2), ("TooBroad", A3), ("TooLong", A4), ("Stacked", A5), ("Overhang", A6), ("NotStacked", A7), ("Beneath", A8), ("Taken", A9), ("NoTrunk", A10), ("NoBoard", A11), ("NoOrder", A12), ("NoGrade", A13), ("Misfit", A14), ("NoDeed", A15), ("NoDay", A16), ("Hindered", A17), ("NoEntry", A18), ("NoLine", A19), ("NoRow", A20)] A3 ["TooBroad", "SawError"] = true) (kp3 : PySem.W.keepIn K (.ref A3) = true) (sb3 : PySem.W.subIn K (.ref A3) (.type "BaseException") = some true) (tp3 : PySem.W.typeIn K (.ref A3) = some (.type "type"))
    {on3 oq3 : Str} {oN3 : Addr} {os3 om3 ou3 : List Value} {ot3 : List Str} {oa3 : Bool} {ol3 : Option Bool} {od3 : Option Addr} {o03 o13 o23 o33 o53 : Option Value}
    (oc_3 : K.lookup A3 = some (excClassObj on3 oq3 A3 oN3 os3 om3 true ot3 ou3 oa3 ol3 od3 o03 o13 o23 o33 o53 "ValueError.__new__")) (ob_3 : PySem.HandSPX.refsVE om3 = true) (sa3 : PySem.W.findIn K (.ref A3) "__setattr__" = some (some (.builtin "object.__setattr__")))
    {fI3 : Addr} {io3 ikV3 idc3 ipm3 icd3 ict3 : Value} {iod3 ian3 : Option Addr} {isl3 : Array (Option Value)}
    (ii3 : PySem.W.findIn K (.ref A3) "__init__" = some (some (.ref fI3))) (it3 : PySem.W.typeIn K (.ref fI3) = some (.type "function")) (il3 : K.lookup fI3 = some ⟨io3, iod3, .func (PySem.W.fnOf "__init__" "TooBroad.__init__" (defArgs (inCls 0 (topS 4))) (defBody (inCls 0 (topS 4))) (defScope (inCls 0 (topS 4))) .none ikV3 idc3 ipm3 ian3 icd3 ict3), isl3⟩) (ic3 : PySem.W.codeIn K icd3 "TooBroad.__init__" = true) (ik3 : PySem.W.keepIn K (.ref fI3) = true)
    (xc4 : xcB K [("SawError", A0), ("TooThick", A1), ("NoBlock", A2), ("TooBroad", A3), ("TooLong", A4), ("Stacked", A5), ("Overhang", A6), ("NotStacked", A7), ("Beneath", A8), ("Taken", A9), ("NoTrunk", A10), ("NoBoard", A11), ("NoOrder", A12), ("NoGrade", A13), ("Misfit", A14), ("NoDeed", A15), ("NoDay", A16), ("Hindered", A17), ("NoEntry", A18), ("NoLine", A19), ("NoRow", A20)] A4 ["TooLong", "SawError"] = true) (kp4 : PySem.W.keepIn K (.ref A4) = true) (sb4 : PySem.W.subIn K (.ref A4) (.type "BaseException") = some true) (tp4 : PySem.W.typeIn K (.ref A4) = some (.type "type"))
    {on4 oq4 : Str} {oN4 : Addr} {os4 om4 ou4 : List Value} {ot4 : List Str} {oa4 : Bool} {ol4 : Option Bool} {od4 : Option Addr} {o04 o14 o24 o34 o54 : Option Value}
    (oc_4 : K.lookup A4 = some (excClassObj on4 oq4 A4 oN4 os4 om4 true ot4 ou4 oa4 ol4 od4 o04 o14 o24 o34 o54 "ValueError.__new__")) (ob_4 : PySem.HandSPX.refsVE om4 = true) (sa4 : PySem.W.findIn K (.ref A4) "__setattr__" = some (some (.builtin "object.__setattr__")))
    {fI4 : Addr} {io4 ikV4 idc4 ipm4 icd4 ict4 : Value} {iod4 ian4 : Option Addr} {isl4 : Array (Option Value)}
    (ii4 : PySem.W.findIn K (.ref A4) "__init__" = some (some (.ref fI4))) (it4 : PySem.W.typeIn K (.ref fI4) = some (.type "function")) (il4 : K.lookup fI4 = some ⟨io4, iod4, .func (PySem.W.fnOf "__init__" "TooLong.__init__" (defArgs (inCls 0 (topS 5))) (defBody (inCls 0 (topS 5))) (defScope (inCls 0 (topS 5))) .none ikV4 idc4 ipm4 ian4 icd4 ict4), isl4⟩) (ic4 : PySem.W.codeIn K icd4 "TooLong.__init__" = true) (ik4 : PySem.W.keepIn K (.ref fI4) = true)
    (xc5 : xcB K [("SawError", A0), ("TooThick", A1), ("NoBlock", A2), ("TooBroad", A3), ("TooLong", A4), ("Stacked", A5), ("Overhang", A6), ("NotStacked", A7), ("Beneath", A8), ("Taken", A9), ("NoTrunk", A10), ("NoBoard", A11), ("NoOrder", A12), ("NoGrade", A13), ("Misfit", A14), ("NoDeed", A15), ("NoDay", A16), ("Hindered", A17), ("NoEntry", A18), ("NoLine", A19), ("NoRow", A20)] A5 ["Stacked", "SawError"] = true) (kp5 : PySem.W.keepIn K (.ref A5) = true) (sb5 : PySem.W.subIn K (.ref A5) (.type "BaseException") = some true) (tp5 : PySem.W.typeIn K (.ref A5) = some (.type "type"))
    {on5 oq5 : Str} {oN5 : Addr} {os5 om5 ou5 : List Value} {ot5 : List Str} {oa5 : Bool} {ol5 : Option Bool} {od5 : Option Addr} {o05 o15 o25 o35 o55 : Option Value}
    (oc_5 : K.lookup A5 = some (excClassObj on5 oq5 A5 oN5 os5 om5 true ot5 ou5 oa5 ol5 od5 o05 o15 o25 o35 o55 "ValueError.__new__")) (ob_5 : PySem.HandSPX.refsVE om5 = true) (sa5 : PySem.W.findIn K (.ref A5) "__setattr__" = some (some (.builtin "object.__setattr__")))
    {fI5 : Addr} {io5 ikV5 idc5 ipm5 icd5 ict5 : Value} {iod5 ian5 : Option Addr} {isl5 : Array (Option Value)}
    (ii5 : PySem.W.findIn K (.ref A5) "__init__" = some (some (.ref fI5))) (it5 : PySem.W.typeIn K (.ref fI5) = some (.type "function")) (il5 : K.lookup fI5 = some ⟨io5, iod5, .func (PySem.W.fnOf "__init__" "Stacked.__init__" (defArgs (inCls 0 (topS 6))) (defBody (inCls 0 (topS 6))) (defScope (inCls 0 (topS 6))) .none ikV5 idc5 ipm5 ian5 icd5 ict5), isl5⟩) (ic5 : PySem.W.codeIn K icd5 "Stacked.__init__" = true) (ik5 : PySem.W.keepIn K (.ref fI5) = true)
    (xc6 : xcB K [("SawError", A0), ("TooThick", A1), ("NoBlock", A2), ("TooBroad", A3), ("TooLong", A4), ("Stacked", A5), ("Overhang", A6), ("NotStacked", A7), ("Beneath", A8), ("Taken", A9), ("NoTrunk", A10), ("NoBoard", A11), ("NoOrder", A12), ("NoGrade", A13), ("Misfit", A14), ("NoDeed", A15), ("NoDay", A16), ("Hindered", A17), ("NoEntry", A18), ("NoLine", A19), ("NoRow", A20)] A6 ["Overhang", "SawError"] = true) (kp6 : PySem.W.keepIn K (.ref A6) = true) (sb6 : PySem.W.subIn K (.ref A6) (.type "BaseException") = some true) (tp6 : PySem.W.typeIn K (.ref A6) = some (.type "type"))
    {on6 oq6 : Str} {oN6 : Addr} {os6 om6 ou6 : List Value} {ot6 : List Str} {oa6 : Bool} {ol6 : Option Bool} {od6 : Option Addr} {o06 o16 o26 o36 o56 : Option Value}
    (oc_6 : K.lookup A6 = some (excClassObj on6 oq6 A6 oN6 os6 om6 true ot6 ou6 oa6 ol6 od6 o06 o16 o26 o36 o56 "ValueError.__new__")) (ob_6 : PySem.HandSPX.refsVE om6 = true) (sa6 : PySem.W.findIn K (.ref A6) "__setattr__" = some (some (.builtin "object.__setattr__")))
    {fI6 : Addr} {io6 ikV6 idc6 ipm6 icd6 ict6 : Value} {iod6 ian6 : Option Addr} {isl6 : Array (Option Value)}
    (ii6 : PySem.W.findIn K (.ref A6) "__init__" = some (some (.ref fI6))) (it6 : PySem.W.typeIn K (.ref fI6) = some (.type "function")) (il6 : K.lookup fI6 = some ⟨io6, iod6, .func (PySem.W.fnOf "__init__" "Overhang.__init__" (defArgs (inCls 0 (topS 7))) (defBody (inCls 0 (topS 7))) (defScope (inCls 0 (topS 7))) .none ikV6 idc6 ipm6 ian6 icd6 ict6), isl6⟩) (ic6 : PySem.W.codeIn K icd6 "Overhang.__init__" = true) (ik6 : PySem.W.keepIn K (.ref fI6) = true)
    (xc8 : xcB K [("SawError", A0), ("TooThick", A1), ("NoBlock", A2), ("TooBroad", A3), ("TooLong", A4), ("Stacked", A5), ("Overhang", A6), ("NotStacked", A7), ("Beneath", A8), ("Taken", A9), ("NoTrunk", A10), ("NoBoard", A11), ("NoOrder", A12), ("NoGrade", A13), ("Misfit", A14), ("NoDeed", A15), ("NoDay", A16), ("Hindered", A17), ("NoEntry", A18), ("NoLine", A19), ("NoRow", A20)] A8 ["Beneath", "SawError"] = true) (kp8 : PySem.W.keepIn K (.ref A8) = true) (sb8 : PySem.W.subIn K (.ref A8) (.type "BaseException") = some true) (tp8 : PySem.W.typeIn K (.ref A8) = some (.type "type"))
    {on8 oq8 : Str} {oN8 : Addr} {os8 om8 ou8 : List Value} {ot8 : List Str} {oa8 : Bool} {ol8 : Option Bool} {od8 : Option Addr} {o08 o18 o28 o38 o58 : Option Value}
    (oc_8 : K.lookup A8 = some (excClassObj on8 oq8 A8 oN8 os8 om8 true ot8 ou8 oa8 ol8 od8 o08 o18 o28 o38 o58 "ValueError.__new__")) (ob_8 : PySem.HandSPX.refsVE om8 = true) (sa8 : PySem.W.findIn K (.ref A8) "__setattr__" = some (some (.builtin "object.__setattr__")))
    {fI8 : Addr} {io8 ikV8 idc8 ipm8 icd8 ict8 : Value} {iod8 ian8 : Option Addr} {isl8 : Array (Option Value)}
    (ii8 : PySem.W.findIn K (.ref A8) "__init__" = some (some (.ref fI8))) (it8 : PySem.W.typeIn K (.ref fI8) = some (.type "function")) (il8 : K.lookup fI8 = some ⟨io8, iod8, .func (PySem.W.fnOf "__init__" "Beneath.__init__" (defArgs (inCls 0 (topS 9))) (defBody (inCls 0 (topS 9))) (defScope (inCls 0 (topS 9))) .none ikV8 idc8 ipm8 ian8 icd8 ict8), isl8⟩) (ic8 : PySem.W.codeIn K icd8 "Beneath.__init__" = true) (ik8 : PySem.W.keepIn K (.ref fI8) = true)
    (xc9 : xcB K [("SawError", A0), ("TooThick", A1), ("NoBlock", A2), ("TooBroad", A3), ("TooLong", A4), ("Stacked", A5), ("Overhang", A6), ("NotStacked", A7), ("Beneath", A8), ("Taken", A9), ("NoTrunk", A10), ("NoBoard", A11), ("NoOrder", A12), ("NoGrade", A13), ("Misfit", A14), ("NoDeed", A15), ("NoDay", A16), ("Hindered", A17), ("NoEntry", A18), ("NoLine", A19), ("NoRow", A20)] A9 ["Taken", "SawError"] = true) (kp9 : PySem.W.keepIn K (.ref A9) = true) (sb9 : PySem.W.subIn K (.ref A9) (.type "BaseException") = some true) (tp9 : PySem.W.typeIn K (.ref A9) = some (.type "type"))
    {on9 oq9 : Str} {oN9 : Addr} {os9 om9 ou9 : List Value} {ot9 : List Str} {oa9 : Bool} {ol9 : Option Bool} {od9 : Option Addr} {o09 o19 o29 o39 o59 : Option Value}
    (oc_9 : K.lookup A9 = some (excClassObj on9 oq9 A9 oN9 os9 om9 true ot9 ou9 oa9 ol9 od9 o09 o19 o29 o39 o59 "ValueError.__new__")) (ob_9 : PySem.HandSPX.refsVE om9 = true) (sa9 : PySem.W.findIn K (.ref A9) "__setattr__" = some (some (.builtin "object.__setattr__")))
    {fI9 : Addr} {io9 ikV9 idc9 ipm9 icd9 ict9 : Value} {iod9 ian9 : Option Addr} {isl9 : Array (Option Value)}
    (ii9 : PySem.W.findIn K (.ref A9) "__init__" = some (some (.ref fI9))) (it9 : PySem.W.typeIn K (.ref fI9) = some (.type "function")) (il9 : K.lookup fI9 = some ⟨io9, iod9, .func (PySem.W.fnOf "__init__" "Taken.__init__" (defArgs (inCls 0 (topS 10))) (defBody (inCls 0 (topS 10))) (defScope (inCls 0 (topS 10))) .none ikV9 idc9 ipm9 ian9 icd9 ict9), isl9⟩) (ic9 : PySem.W.codeIn K icd9 "Taken.__init__" = true) (ik9 : PySem.W.keepIn K (.ref fI9) = true)
    (xc10 : xcB K [("SawError", A0), ("TooThick", A1), ("NoBlock", A2), ("TooBroad", A3), ("TooLong", A4), ("Stacked", A5), ("Overhang", A6), ("NotStacked", A7), ("Beneath", A8), ("Taken", A9), ("NoTrunk", A10), ("NoBoard", A11), ("NoOrder", A12), ("NoGrade", A13), ("Misfit", A14), ("NoDeed", A15), ("NoDay", A16), ("Hindered", A17), ("NoEntry", A18), ("NoLine", A19), ("NoRow", A20)] A10 ["NoTrunk", "SawError"] = true) (kp10 : PySem.W.keepIn K (.ref A10) = true) (sb10 : PySem.W.subIn K (.ref A10) (.type "BaseException") = some true) (tp10 : PySem.W.typeIn K (.ref A10) = some (.type "type"))
    {on10 oq10 : Str} {oN10 : Addr} {os10 om10 ou10 : List Value} {ot10 : List Str} {oa10 : Bool} {ol10 : Option Bool} {od10 : Option Addr} {o010 o110 o210 o310 o510 : Option Value}
    (oc_10 : K.lookup A10 = some (excClassObj on10 oq10 A10 oN10 os10 om10 true ot10 ou10 oa10 ol10 od10 o010 o110 o210 o310 o510 "ValueError.__new__")) (ob_10 : PySem.HandSPX.refsVE om10 = true) (sa10 : PySem.W.findIn K (.ref A10) "__setattr__" = some (some (.builtin "object.__setattr__")))
    {fI10 : Addr} {io10 ikV10 idc10 ipm10 icd10 ict10 : Value} {iod10 ian10 : Option Addr} {isl10 : Array (Option Value)}
    (ii10 : PySem.W.findIn K (.ref A10) "__init__" = some (some (.ref fI10))) (it10 : PySem.W.typeIn K (.ref fI10) = some (.type "function")) (il10 : K.lookup fI10 = some ⟨io10, iod10, .func (PySem.W.fnOf "__init__" "NoTrunk.__init__" (defArgs (inCls 0 (topS 11))) (defBody (inCls 0 (topS 11))) (defScope (inCls 0 (topS 11))) .none ikV10 idc10 ipm10 ian10 icd10 ict10), isl10⟩) (ic10 : PySem.W.codeIn K icd10 "NoTrunk.__init__" = true) (ik10 : PySem.W.keepIn K (.ref fI10) = true)
    (xc11 : xcB K [("SawError", A0), ("TooThick", A1), ("NoBlock", A2), ("TooBroad", A3), ("TooLong", A4), ("Stacked", A5), ("Overhang", A6), ("NotStacked", A7), ("Beneath", A8), ("Taken", A9), ("NoTrunk", A10), ("NoBoard", A11), ("NoOrder", A12), ("NoGrade", A13), ("Misfit", A14), ("NoDeed", A15), ("NoDay", A16), ("Hindered", A17), ("NoEntry", A18), ("NoLine", A19), ("NoRow", A20)] A11 ["NoBoard", "SawError"] = true) (kp11 : PySem.W.keepIn K (.ref A11) = true) (sb11 : PySem.W.subIn K (.ref A11) (.type "BaseException") = some true) (tp11 : PySem.W.typeIn K (.ref A11) = some (.type "type"))
    {on11 oq11 : Str} {oN11 : Addr} {os11 om11 ou11 : List Value} {ot11 : List Str} {oa11 : Bool} {ol11 : Option Bool} {od11 : Option Addr} {o011 o111 o211 o311 o511 : Option Value}
    (oc_11 : K.lookup A11 = some (excClassObj on11 oq11 A11 oN11 os11 om11 true ot11 ou11 oa11 ol11 od11 o011 o111 o211 o311 o511 "ValueError.__new__")) (ob_11 : PySem.HandSPX.refsVE om11 = true) (sa11 : PySem.W.findIn K (.ref A11) "__setattr__" = some (some (.builtin "object.__setattr__")))
    {fI11 : Addr} {io11 ikV11 idc11 ipm11 icd11 ict11 : Value} {iod11 ian11 : Option Addr} {isl11 : Array (Option Value)}
    (ii11 : PySem.W.findIn K (.ref A11) "__init__" = some (some (.ref fI11))) (it11 : PySem.W.typeIn K (.ref fI11) = some (.type "function")) (il11 : K.lookup fI11 = some ⟨io11, iod11, .func (PySem.W.fnOf "__init__" "NoBoard.__init__" (defArgs (inCls 0 (topS 12))) (defBody (inCls 0 (topS 12))) (defScope (inCls 0 (topS 12))) .none ikV11 idc11 ipm11 ian11 icd11 ict11), isl11⟩) (ic11 : PySem.W.codeIn K icd11 "NoBoard.__init__" = true) (ik11 : PySem.W.keepIn K (.ref fI11) = true)
    (xc12 : xcB K [("SawError", A0), ("TooThick", A1), ("NoBlock", A2), ("TooBroad", A3), ("TooLong", A4), ("Stacked", A5), ("Overhang", A6), ("NotStacked", A7), ("Beneath", A8), ("Taken", A9), ("NoTrunk", A10), ("NoBoard", A11), ("NoOrder", A12), ("NoGrade", A13), ("Misfit", A14), ("NoDeed", A15), ("NoDay", A16), ("Hindered", A17), ("NoEntry", A18), ("NoLine", A19), ("NoRow", A20)] A12 ["NoOrder", "SawError"] = true) (kp12 : PySem.W.keepIn K (.ref A12) = true) (sb12 : PySem.W.subIn K (.ref A12) (.type "BaseException") = some true) (tp12 : PySem.W.typeIn K (.ref A12) = some (.type "type"))
    {on12 oq12 : Str} {oN12 : Addr} {os12 om12 ou12 : List Value} {ot12 : List Str} {oa12 : Bool} {ol12 : Option Bool} {od12 : Option Addr} {o012 o112 o212 o312 o512 : Option Value}
    (oc_12 : K.lookup A12 = some (excClassObj on12 oq12 A12 oN12 os12 om12 true ot12 ou12 oa12 ol12 od12 o012 o112 o212 o312 o512 "ValueError.__new__")) (ob_12 : PySem.HandSPX.refsVE om12 = true) (sa12 : PySem.W.findIn K (.ref A12) "__setattr__" = some (some (.builtin "object.__setattr__")))
    {fI12 : Addr} {io12 ikV12 idc12 ipm12 icd12 ict12 : Value} {iod12 ian12 : Option Addr} {isl12 : Array (Option Value)}
    (ii12 : PySem.W.findIn K (.ref A12) "__init__" = some (some (.ref fI12))) (it12 : PySem.W.typeIn K (.ref fI12) = some (.type "function")) (il12 : K.lookup fI12 = some ⟨io12, iod12, .func (PySem.W.fnOf "__init__" "NoOrder.__init__" (defArgs (inCls 0 (topS 13))) (defBody (inCls 0 (topS 13))) (defScope (inCls 0 (topS 13))) .none ikV12 idc12 ipm12 ian12 icd12 ict12), isl12⟩) (ic12 : PySem.W.codeIn K icd12 "NoOrder.__init__" = true) (ik12 : PySem.W.keepIn K (.ref fI12) = true)
    (xc14 : xcB K [("SawError", A0), ("TooThick", A1), ("NoBlock", A2), ("TooBroad", A3), ("TooLong", A4), ("Stacked", A5), ("Overhang", A6), ("NotStacked", A7), ("Beneath", A8), ("Taken", A9), ("NoTrunk", A10), ("NoBoard", A11), ("NoOrder", A12), ("NoGrade", A13), ("Misfit", A14), ("NoDeed", A15), ("NoDay", A16), ("Hindered", A17), ("NoEntry", A18), ("NoLine", A19), ("NoRow", A20)] A14 ["Misfit", "SawError"] = true) (kp14 : PySem.W.keepIn K (.ref A14) = true) (sb14 : PySem.W.subIn K (.ref A14) (.type "BaseException") = some true) (tp14 : PySem.W.typeIn K (.ref A14) = some (.type "type"))
    {on14 oq14 : Str} {oN14 : Addr} {os14 om14 ou14 : List Value} {ot14 : List Str} {oa14 : Bool} {ol14 : Option Bool} {od14 : Option Addr} {o014 o114 o214 o314 o514 : Option Value}
    (oc_14 : K.lookup A14 = some (excClassObj on14 oq14 A14 oN14 os14 om14 true ot14 ou14 oa14 ol14 od14 o014 o114 o214 o314 o514 "ValueError.__new__")) (ob_14 : PySem.HandSPX.refsVE om14 = true) (sa14 : PySem.W.findIn K (.ref A14) "__setattr__" = some (some (.builtin "object.__setattr__")))
    {fI14 : Addr} {io14 ikV14 idc14 ipm14 icd14 ict14 : Value} {iod14 ian14 : Option Addr} {isl14 : Array (Option Value)}
    (ii14 : PySem.W.findIn K (.ref A14) "__init__" = some (some (.ref fI14))) (it14 : PySem.W.typeIn K (.ref fI14) = some (.type "function")) (il14 : K.lookup fI14 = some ⟨io14, iod14, .func (PySem.W.fnOf "__init__" "Misfit.__init__" (defArgs (inCls 0 (topS 15))) (defBody (inCls 0 (topS 15))) (defScope (inCls 0 (topS 15))) .none ikV14 idc14 ipm14 ian14 icd14 ict14), isl14⟩) (ic14 : PySem.W.codeIn K icd14 "Misfit.__init__" = true) (ik14 : PySem.W.keepIn K (.ref fI14) = true)
    (xc19 : xcB K [("SawError", A0), ("TooThick", A1), ("NoBlock", A2), ("TooBroad", A3), ("TooLong", A4), ("Stacked", A5), ("Overhang", A6), ("NotStacked", A7), ("Beneath", A8), ("Taken", A9), ("NoTrunk", A10), ("NoBoard", A11), ("NoOrder", A12), ("NoGrade", A13), ("Misfit", A14), ("NoDeed", A15), ("NoDay", A16), ("Hindered", A17), ("NoEntry", A18), ("NoLine", A19), ("NoRow", A20)] A19 ["NoLine", "SawError"] = true) (kp19 : PySem.W.keepIn K (.ref A19) = true) (sb19 : PySem.W.subIn K (.ref A19) (.type "BaseException") = some true) (tp19 : PySem.W.typeIn K (.ref A19) = some (.type "type"))
    {on19 oq19 : Str} {oN19 : Addr} {os19 om19 ou19 : List Value} {ot19 : List Str} {oa19 : Bool} {ol19 : Option Bool} {od19 : Option Addr} {o019 o119 o219 o319 o519 : Option Value}
    (oc_19 : K.lookup A19 = some (excClassObj on19 oq19 A19 oN19 os19 om19 true ot19 ou19 oa19 ol19 od19 o019 o119 o219 o319 o519 "ValueError.__new__")) (ob_19 : PySem.HandSPX.refsVE om19 = true) (sa19 : PySem.W.findIn K (.ref A19) "__setattr__" = some (some (.builtin "object.__setattr__")))
    {fI19 : Addr} {io19 ikV19 idc19 ipm19 icd19 ict19 : Value} {iod19 ian19 : Option Addr} {isl19 : Array (Option Value)}
    (ii19 : PySem.W.findIn K (.ref A19) "__init__" = some (some (.ref fI19))) (it19 : PySem.W.typeIn K (.ref fI19) = some (.type "function")) (il19 : K.lookup fI19 = some ⟨io19, iod19, .func (PySem.W.fnOf "__init__" "NoLine.__init__" (defArgs (inCls 0 (topS 20))) (defBody (inCls 0 (topS 20))) (defScope (inCls 0 (topS 20))) .none ikV19 idc19 ipm19 ian19 icd19 ict19), isl19⟩) (ic19 : PySem.W.codeIn K icd19 "NoLine.__init__" = true) (ik19 : PySem.W.keepIn K (.ref fI19) = true)
    (xc17 : xcB K [("SawError", A0), ("TooThick", A1), ("NoBlock", A2), ("TooBroad", A3), ("TooLong", A4), ("Stacked", A5), ("Overhang", A6), ("NotStacked", A7), ("Beneath", A8), ("Taken", A9), ("NoTrunk", A10), ("NoBoard", A11), ("NoOrder", A12), ("NoGrade", A13), ("Misfit", A14), ("NoDeed", A15), ("NoDay", A16), ("Hindered", A17), ("NoEntry", A18), ("NoLine", A19), ("NoRow", A20)] A17 ["Hindered", "SawError"] = true) (kp17 : PySem.W.keepIn K (.ref A17) = true) (sb17 : PySem.W.subIn K (.ref A17) (.type "BaseException") = some true) (tp17 : PySem.W.typeIn K (.ref A17) = some (.type "type"))
    {on17 oq17 : Str} {oN17 : Addr} {os17 om17 ou17 : List Value} {ot17 : List Str} {oa17 : Bool} {ol17 : Option Bool} {od17 : Option Addr} {o017 o117 o217 o317 o517 : Option Value}
    (oc_17 : K.lookup A17 = some (excClassObj on17 oq17 A17 oN17 os17 om17 true ot17 ou17 oa17 ol17 od17 o017 o117 o217 o317 o517 "ValueError.__new__")) (ob_17 : PySem.HandSPX.refsVE om17 = true) (sa17 : PySem.W.findIn K (.ref A17) "__setattr__" = some (some (.builtin "object.__setattr__")))
    {fI17 : Addr} {io17 ikV17 idc17 ipm17 icd17 ict17 : Value} {iod17 ian17 : Option Addr} {isl17 : Array (Option Value)}
    (ii17 : PySem.W.findIn K (.ref A17) "__init__" = some (some (.ref fI17))) (it17 : PySem.W.typeIn K (.ref fI17) = some (.type "function")) (il17 : K.lookup fI17 = some ⟨io17, iod17, .func (PySem.W.fnOf "__init__" "Hindered.__init__" (defArgs (inCls 0 (topS 18))) (defBody (inCls 0 (topS 18))) (defScope (inCls 0 (topS 18))) .none ikV17 idc17 ipm17 ian17 icd17 ict17), isl17⟩) (ic17 : PySem.W.codeIn K icd17 "Hindered.__init__" = true) (ik17 : PySem.W.keepIn K (.ref fI17) = true)
    (xc2 : xcB K [("SawError", A0), ("TooThick", A1), ("NoBlock", A2), ("TooBroad", A3), ("TooLong", A4), ("Stacked", A5), ("Overhang", A6), ("NotStacked", A7), ("Beneath", A8), ("Taken", A9), ("NoTrunk", A10), ("NoBoard", A11), ("NoOrder", A12), ("NoGrade", A13), ("Misfit", A14), ("NoDeed", A15), ("NoDay", A16), ("Hindered", A17), ("NoEntry", A18), ("NoLine", A19), ("NoRow", A20)] A2 ["NoBlock", "SawError"] = true) (kp2 : PySem.W.keepIn K (.ref A2) = true) (sb2 : PySem.W.subIn K (.ref A2) (.type "BaseException") = some true) (tp2 : PySem.W.typeIn K (.ref A2) = some (.type "type"))
    (ei2 : PySem.W.excIn K A2 veTailX "ValueError.__new__" = true)
    (xc7 : xcB K [("SawError", A0), ("TooThick", A1), ("NoBlock", A2), ("TooBroad", A3), ("TooLong", A4), ("Stacked", A5), ("Overhang", A6), ("NotStacked", A7), ("Beneath", A8), ("Taken", A9), ("NoTrunk", A10), ("NoBoard", A11), ("NoOrder", A12), ("NoGrade", A13), ("Misfit", A14), ("NoDeed", A15), ("NoDay", A16), ("Hindered", A17), ("NoEntry", A18), ("NoLine", A19), ("NoRow", A20)] A7 ["NotStacked", "SawError"] = true) (kp7 : PySem.W.keepIn K (.ref A7) = true) (sb7 : PySem.W.subIn K (.ref A7) (.type "BaseException") = some true) (tp7 : PySem.W.typeIn K (.ref A7) = some (.type "type"))
    (ei7 : PySem.W.excIn K A7 veTailX "ValueError.__new__" = true)
    (xc13 : xcB K [("SawError", A0), ("TooThick", A1), ("NoBlock", A2), ("TooBroad", A3), ("TooLong", A4), ("Stacked", A5), ("Overhang", A6), ("NotStacked", A7), ("Beneath", A8), ("Taken", A9), ("NoTrunk", A10), ("NoBoard", A11), ("NoOrder", A12), ("NoGrade", A13), ("Misfit", A14), ("NoDeed", A15), ("NoDay", A16), ("Hindered", A17), ("NoEntry", A18), ("NoLine", A19), ("NoRow", A20)] A13 ["NoGrade", "SawError"] = true) (kp13 : PySem.W.keepIn K (.ref A13) = true) (sb13 : PySem.W.subIn K (.ref A13) (.type "BaseException") = some true) (tp13 : PySem.W.typeIn K (.ref A13) = some (.type "type"))
    (ei13 : PySem.W.excIn K A13 veTailX "ValueError.__new__" = true)
    (xc15 : xcB K [("SawError", A0), ("TooThick", A1), ("NoBlock", A2), ("TooBroad", A3), ("TooLong", A4), ("Stacked", A5), ("Overhang", A6), ("NotStacked", A7), ("Beneath", A8), ("Taken", A9), ("NoTrunk", A10), ("NoBoard", A11), ("NoOrder", A12), ("NoGrade", A13), ("Misfit", A14), ("NoDeed", A15), ("NoDay", A16), ("Hindered", A17), ("NoEntry", A18), ("NoLine", A19), ("NoRow", A20)] A15 ["NoDeed", "SawError"] = true) (kp15 : PySem.W.keepIn K (.ref A15) = true) (sb15 : PySem.W.subIn K (.ref A15) (.type "BaseException") = some true) (tp15 : PySem.W.typeIn K (.ref A15) = some (.type "type"))
    (ei15 : PySem.W.excIn K A15 veTailX "ValueError.__new__" = true)
    (xc16 : xcB K [("SawError", A0), ("TooThick", A1), ("NoBlock", A2), ("TooBroad", A3), ("TooLong", A4), ("Stacked", A5), ("Overhang", A6), ("NotStacked", A7), ("Beneath", A8), ("Taken", A9), ("NoTrunk", A10), ("NoBoard", A11), ("NoOrder", A12), ("NoGrade", A13), ("Misfit", A14), ("NoDeed", A15), ("NoDay", A16), ("Hindered", A17), ("NoEntry", A18), ("NoLine", A19), ("NoRow", A20)] A16 ["NoDay", "SawError"] = true) (kp16 : PySem.W.keepIn K (.ref A16) = true) (sb16 : PySem.W.subIn K (.ref A16) (.type "BaseException") = some true) (tp16 : PySem.W.typeIn K (.ref A16) = some (.type "type"))
    (ei16 : PySem.W.excIn K A16 veTailX "ValueError.__new__" = true)
    (xc18 : xcB K [("SawError", A0), ("TooThick", A1), ("NoBlock", A2), ("TooBroad", A3), ("TooLong", A4), ("Stacked", A5), ("Overhang", A6), ("NotStacked", A7), ("Beneath", A8), ("Taken", A9), ("NoTrunk", A10), ("NoBoard", A11), ("NoOrder", A12), ("NoGrade", A13), ("Misfit", A14), ("NoDeed", A15), ("NoDay", A16), ("Hindered", A17), ("NoEntry", A18), ("NoLine", A19), ("NoRow", A20)] A18 ["NoEntry", "SawError"] = true) (kp18 : PySem.W.keepIn K (.ref A18) = true) (sb18 : PySem.W.subIn K (.ref A18) (.type "BaseException") = some true) (tp18 : PySem.W.typeIn K (.ref A18) = some (.type "type"))
    (ei18 : PySem.W.excIn K A18 veTailX "ValueError.__new__" = true)
    (xc20 : xcB K [("SawError", A0), ("TooThick", A1), ("NoBlock", A2), ("TooBroad", A3), ("TooLong", A4), ("Stacked", A5), ("Overhang", A6), ("NotStacked", A7), ("Beneath", A8), ("Taken", A9), ("NoTrunk", A10), ("NoBoard", A11), ("NoOrder", A12), ("NoGrade", A13), ("Misfit", A14), ("NoDeed", A15), ("NoDay", A16), ("Hindered", A17), ("NoEntry", A18), ("NoLine", A19), ("NoRow", A20)] A20 ["NoRow", "SawError"] = true) (kp20 : PySem.W.keepIn K (.ref A20) = true) (sb20 : PySem.W.subIn K (.ref A20) (.type "BaseException") = some true) (tp20 : PySem.W.typeIn K (.ref A20) = some (.type "type"))
    (ei20 : PySem.W.excIn K A20 veTailX "ValueError.__new__" = true)
    : ∃ fd : FuncData, (∀ (s : Shared) (v : Value), BindsTo s fd ⟨[v], []⟩ [("_law_script", v)]) ∧ ∀ base : Heap, K.In base → base.Ns mainGlobals mg → FnG l.prog w K mg base 4 fa fd ["_law_script"] (spF K mg 1 f_law_k23) := by
  have e := hfa.symm.trans (PySem.W.mg_of X G a8)
  cases e
  have F0 := fun_mk (st := topS 23) l0 c0 k0
  have M0 := PySem.W.mg_of X G a0
  have F1 := fun_mk (st := topS 24) l1 c1 k1
  have M1 := PySem.W.mg_of X G a1
  have F2 := fun_mk (st := topS 27) l2 c2 k2
  have M2 := PySem.W.mg_of X G a2
  have F3 := fun_mk (st := topS 30) l3 c3 k3
  have M3 := PySem.W.mg_of X G a3
  have F4 := fun_mk (st := topS 25) l4 c4 k4
  have M4 := PySem.W.mg_of X G a4
  have F5 := fun_mk (st := topS 26) l5 c5 k5
  have M5 := PySem.W.mg_of X G a5
  have F6 := fun_mk (st := topS 28) l6 c6 k6
  have M6 := PySem.W.mg_of X G a6
  have F7 := fun_mk (st := topS 29) l7 c7 k7
  have M7 := PySem.W.mg_of X G a7
  have F8 := fun_mk (st := topS 31) l8 c8 k8
  have M8 := PySem.W.mg_of X G a8
  have Z0 := PySem.W.mg_none_of X G z0
  have Z1 := PySem.W.mg_none_of X G z1
  have Z2 := PySem.W.mg_none_of X G z2
  have Z3 := PySem.W.mg_none_of X G z3
  have Z4 := PySem.W.mg_none_of X G z4
  have Z5 := PySem.W.mg_none_of X G z5
  have Z6 := PySem.W.mg_none_of X G z6
  have Z7 := PySem.W.mg_none_of X G z7
  have Z8 := PySem.W.mg_none_of X G z8
  have Z9 := PySem.W.mg_none_of X G z9
  have E0 := PySem.W.mg_of X G ca0
  have NX0 : ∃ C, mg "SawError" = some (.ref C) := ⟨_, E0⟩
  have E1 := PySem.W.mg_of X G ca1
  have NX1 : ∃ C, mg "TooThick" = some (.ref C) := ⟨_, E1⟩
  have E2 := PySem.W.mg_of X G ca2
  have NX2 : ∃ C, mg "NoBlock" = some (.ref C) := ⟨_, E2⟩
  have E3 := PySem.W.mg_of X G ca3
  have NX3 : ∃ C, mg "TooBroad" = some (.ref C) := ⟨_, E3⟩
  have E4 := PySem.W.mg_of X G ca4
  have NX4 : ∃ C, mg "TooLong" = some (.ref C) := ⟨_, E4⟩
  have E5 := PySem.W.mg_of X G ca5
  have NX5 : ∃ C, mg "Stacked" = some (.ref C) := ⟨_, E5⟩
  have E6 := PySem.W.mg_of X G ca6
  have NX6 : ∃ C, mg "Overhang" = some (.ref C) := ⟨_, E6⟩
  have E7 := PySem.W.mg_of X G ca7
  have NX7 : ∃ C, mg "NotStacked" = some (.ref C) := ⟨_, E7⟩
  have E8 := PySem.W.mg_of X G ca8
  have NX8 : ∃ C, mg "Beneath" = some (.ref C) := ⟨_, E8⟩
  have E9 := PySem.W.mg_of X G ca9
  have NX9 : ∃ C, mg "Taken" = some (.ref C) := ⟨_, E9⟩
  have E10 := PySem.W.mg_of X G ca10
  have NX10 : ∃ C, mg "NoTrunk" = some (.ref C) := ⟨_, E10⟩
  have E11 := PySem.W.mg_of X G ca11
  have NX11 : ∃ C, mg "NoBoard" = some (.ref C) := ⟨_, E11⟩
  have E12 := PySem.W.mg_of X G ca12
  have NX12 : ∃ C, mg "NoOrder" = some (.ref C) := ⟨_, E12⟩
  have E13 := PySem.W.mg_of X G ca13
  have NX13 : ∃ C, mg "NoGrade" = some (.ref C) := ⟨_, E13⟩
  have E14 := PySem.W.mg_of X G ca14
  have NX14 : ∃ C, mg "Misfit" = some (.ref C) := ⟨_, E14⟩
  have E15 := PySem.W.mg_of X G ca15
  have NX15 : ∃ C, mg "NoDeed" = some (.ref C) := ⟨_, E15⟩
  have E16 := PySem.W.mg_of X G ca16
  have NX16 : ∃ C, mg "NoDay" = some (.ref C) := ⟨_, E16⟩
  have E17 := PySem.W.mg_of X G ca17
  have NX17 : ∃ C, mg "Hindered" = some (.ref C) := ⟨_, E17⟩
  have E18 := PySem.W.mg_of X G ca18
  have NX18 : ∃ C, mg "NoEntry" = some (.ref C) := ⟨_, E18⟩
  have E19 := PySem.W.mg_of X G ca19
  have NX19 : ∃ C, mg "NoLine" = some (.ref C) := ⟨_, E19⟩
  have E20 := PySem.W.mg_of X G ca20
  have NX20 : ∃ C, mg "NoRow" = some (.ref C) := ⟨_, E20⟩
  have XT := (XTab.cons E0 (XTab.cons E1 (XTab.cons E2 (XTab.cons E3 (XTab.cons E4 (XTab.cons E5 (XTab.cons E6 (XTab.cons E7 (XTab.cons E8 (XTab.cons E9 (XTab.cons E10 (XTab.cons E11 (XTab.cons E12 (XTab.cons E13 (XTab.cons E14 (XTab.cons E15 (XTab.cons E16 (XTab.cons E17 (XTab.cons E18 (XTab.cons E19 (XTab.cons E20 XTab.nil)))))))))))))))))))))
  have XB : BnOk mg [] := BnOk.nil
  have XC1 : XcOk K mg ["TooThick", "SawError"] A1 := xc_of XT XB (xall ["SawError", "TooThick", "NoBlock", "TooBroad", "TooLong", "Stacked", "Overhang", "NotStacked", "Beneath", "Taken", "NoTrunk", "NoBoard", "NoOrder", "NoGrade", "Misfit", "NoDeed", "NoDay", "Hindered", "NoEntry", "NoLine", "NoRow"] rfl (by decide +kernel)) xc1
  have FI1 := fun_mk (st := (inCls 0 (topS 2))) il1 ic1 ik1
  have OX1 : OexC K A1 := ⟨⟨_, _, _, _, _, _, _, _, _, _, _, _, _, _, _, oc_1, ob_1⟩, sa1, sb1, tp1, kp1⟩
  have MK1 : ∀ base, Maker l.prog w K mg base 1 "TooThick" ["TooThick", "SawError"] (.args ["deep"]) := fun base => maker_ini E1 XC1 (by decide) OX1 ii1 it1 (ini1_ok (b := "SawError") (f := "deep") (a := "deep") FI1 (by decide +kernel) (by decide +kernel) bi0 E0 OX1 (XC1.no _ (by decide +kernel))) (FI1.binds fun _ _ _ _ _ _ us hl => match us, hl with | [_, _], _ => rfl)
  have XC3 : XcOk K mg ["TooBroad", "SawError"] A3 := xc_of XT XB (xall ["SawError", "TooThick", "NoBlock", "TooBroad", "TooLong", "Stacked", "Overhang", "NotStacked", "Beneath", "Taken", "NoTrunk", "NoBoard", "NoOrder", "NoGrade", "Misfit", "NoDeed", "NoDay", "Hindered", "NoEntry", "NoLine", "NoRow"] rfl (by decide +kernel)) xc3
  have FI3 := fun_mk (st := (inCls 0 (topS 4))) il3 ic3 ik3
  have OX3 : OexC K A3 := ⟨⟨_, _, _, _, _, _, _, _, _, _, _, _, _, _, _, oc_3, ob_3⟩, sa3, sb3, tp3, kp3⟩
  have MK3 : ∀ base, Maker l.prog w K mg base 1 "TooBroad" ["TooBroad", "SawError"] (.args ["breadth"]) := fun base => maker_ini E3 XC3 (by decide) OX3 ii3 it3 (ini1_ok (b := "SawError") (f := "breadth") (a := "breadth") FI3 (by decide +kernel) (by decide +kernel) bi0 E0 OX3 (XC3.no _ (by decide +kernel))) (FI3.binds fun _ _ _ _ _ _ us hl => match us, hl with | [_, _], _ => rfl)
  have XC4 : XcOk K mg ["TooLong", "SawError"] A4 := xc_of XT XB (xall ["SawError", "TooThick", "NoBlock", "TooBroad", "TooLong", "Stacked", "Overhang", "NotStacked", "Beneath", "Taken", "NoTrunk", "NoBoard", "NoOrder", "NoGrade", "Misfit", "NoDeed", "NoDay", "Hindered", "NoEntry", "NoLine", "NoRow"] rfl (by decide +kernel)) xc4
  have FI4 := fun_mk (st := (inCls 0 (topS 5))) il4 ic4 ik4
  have OX4 : OexC K A4 := ⟨⟨_, _, _, _, _, _, _, _, _, _, _, _, _, _, _, oc_4, ob_4⟩, sa4, sb4, tp4, kp4⟩
  have MK4 : ∀ base, Maker l.prog w K mg base 1 "TooLong" ["TooLong", "SawError"] (.args ["long"]) := fun base => maker_ini E4 XC4 (by decide) OX4 ii4 it4 (ini1_ok (b := "SawError") (f := "long") (a := "long") FI4 (by decide +kernel) (by decide +kernel) bi0 E0 OX4 (XC4.no _ (by decide +kernel))) (FI4.binds fun _ _ _ _ _ _ us hl => match us, hl with | [_, _], _ => rfl)
  have XC5 : XcOk K mg ["Stacked", "SawError"] A5 := xc_of XT XB (xall ["SawError", "TooThick", "NoBlock", "TooBroad", "TooLong", "Stacked", "Overhang", "NotStacked", "Beneath", "Taken", "NoTrunk", "NoBoard", "NoOrder", "NoGrade", "Misfit", "NoDeed", "NoDay", "Hindered", "NoEntry", "NoLine", "NoRow"] rfl (by decide +kernel)) xc5
  have FI5 := fun_mk (st := (inCls 0 (topS 6))) il5 ic5 ik5
  have OX5 : OexC K A5 := ⟨⟨_, _, _, _, _, _, _, _, _, _, _, _, _, _, _, oc_5, ob_5⟩, sa5, sb5, tp5, kp5⟩
  have MK5 : ∀ base, Maker l.prog w K mg base 1 "Stacked" ["Stacked", "SawError"] (.args ["stack"]) := fun base => maker_ini E5 XC5 (by decide) OX5 ii5 it5 (ini1_ok (b := "SawError") (f := "stack") (a := "stack") FI5 (by decide +kernel) (by decide +kernel) bi0 E0 OX5 (XC5.no _ (by decide +kernel))) (FI5.binds fun _ _ _ _ _ _ us hl => match us, hl with | [_, _], _ => rfl)
  have XC6 : XcOk K mg ["Overhang", "SawError"] A6 := xc_of XT XB (xall ["SawError", "TooThick", "NoBlock", "TooBroad", "TooLong", "Stacked", "Overhang", "NotStacked", "Beneath", "Taken", "NoTrunk", "NoBoard", "NoOrder", "NoGrade", "Misfit", "NoDeed", "NoDay", "Hindered", "NoEntry", "NoLine", "NoRow"] rfl (by decide +kernel)) xc6
  have FI6 := fun_mk (st := (inCls 0 (topS 7))) il6 ic6 ik6
  have OX6 : OexC K A6 := ⟨⟨_, _, _, _, _, _, _, _, _, _, _, _, _, _, _, oc_6, ob_6⟩, sa6, sb6, tp6, kp6⟩
  have MK6 : ∀ base, Maker l.prog w K mg base 1 "Overhang" ["Overhang", "SawError"] (.args ["name"]) := fun base => maker_ini E6 XC6 (by decide) OX6 ii6 it6 (ini1_ok (b := "SawError") (f := "name") (a := "name") FI6 (by decide +kernel) (by decide +kernel) bi0 E0 OX6 (XC6.no _ (by decide +kernel))) (FI6.binds fun _ _ _ _ _ _ us hl => match us, hl with | [_, _], _ => rfl)
  have XC8 : XcOk K mg ["Beneath", "SawError"] A8 := xc_of XT XB (xall ["SawError", "TooThick", "NoBlock", "TooBroad", "TooLong", "Stacked", "Overhang", "NotStacked", "Beneath", "Taken", "NoTrunk", "NoBoard", "NoOrder", "NoGrade", "Misfit", "NoDeed", "NoDay", "Hindered", "NoEntry", "NoLine", "NoRow"] rfl (by decide +kernel)) xc8
  have FI8 := fun_mk (st := (inCls 0 (topS 9))) il8 ic8 ik8
  have OX8 : OexC K A8 := ⟨⟨_, _, _, _, _, _, _, _, _, _, _, _, _, _, _, oc_8, ob_8⟩, sa8, sb8, tp8, kp8⟩
  have MK8 : ∀ base, Maker l.prog w K mg base 1 "Beneath" ["Beneath", "SawError"] (.lst "names") := fun base => maker_ini E8 XC8 (by decide) OX8 ii8 it8 (iniL_ok (b := "SawError") (f := "names") (a := "names") FI8 (by decide +kernel) (by decide +kernel) (by decide +kernel) bi0 E0 (PySem.W.mg_none_of X G z0) OX8 (XC8.no _ (by decide +kernel))) (FI8.binds fun _ _ _ _ _ _ us hl => match us, hl with | [_, _], _ => rfl)
  have XC9 : XcOk K mg ["Taken", "SawError"] A9 := xc_of XT XB (xall ["SawError", "TooThick", "NoBlock", "TooBroad", "TooLong", "Stacked", "Overhang", "NotStacked", "Beneath", "Taken", "NoTrunk", "NoBoard", "NoOrder", "NoGrade", "Misfit", "NoDeed", "NoDay", "Hindered", "NoEntry", "NoLine", "NoRow"] rfl (by decide +kernel)) xc9
  have FI9 := fun_mk (st := (inCls 0 (topS 10))) il9 ic9 ik9
  have OX9 : OexC K A9 := ⟨⟨_, _, _, _, _, _, _, _, _, _, _, _, _, _, _, oc_9, ob_9⟩, sa9, sb9, tp9, kp9⟩
  have MK9 : ∀ base, Maker l.prog w K mg base 1 "Taken" ["Taken", "SawError"] (.args ["name"]) := fun base => maker_ini E9 XC9 (by decide) OX9 ii9 it9 (ini1_ok (b := "SawError") (f := "name") (a := "name") FI9 (by decide +kernel) (by decide +kernel) bi0 E0 OX9 (XC9.no _ (by decide +kernel))) (FI9.binds fun _ _ _ _ _ _ us hl => match us, hl with | [_, _], _ => rfl)
  have XC10 : XcOk K mg ["NoTrunk", "SawError"] A10 := xc_of XT XB (xall ["SawError", "TooThick", "NoBlock", "TooBroad", "TooLong", "Stacked", "Overhang", "NotStacked", "Beneath", "Taken", "NoTrunk", "NoBoard", "NoOrder", "NoGrade", "Misfit", "NoDeed", "NoDay", "Hindered", "NoEntry", "NoLine", "NoRow"] rfl (by decide +kernel)) xc10
  have FI10 := fun_mk (st := (inCls 0 (topS 11))) il10 ic10 ik10
  have OX10 : OexC K A10 := ⟨⟨_, _, _, _, _, _, _, _, _, _, _, _, _, _, _, oc_10, ob_10⟩, sa10, sb10, tp10, kp10⟩
  have MK10 : ∀ base, Maker l.prog w K mg base 1 "NoTrunk" ["NoTrunk", "SawError"] (.args ["name"]) := fun base => maker_ini E10 XC10 (by decide) OX10 ii10 it10 (ini1_ok (b := "SawError") (f := "name") (a := "name") FI10 (by decide +kernel) (by decide +kernel) bi0 E0 OX10 (XC10.no _ (by decide +kernel))) (FI10.binds fun _ _ _ _ _ _ us hl => match us, hl with | [_, _], _ => rfl)
  have XC11 : XcOk K mg ["NoBoard", "SawError"] A11 := xc_of XT XB (xall ["SawError", "TooThick", "NoBlock", "TooBroad", "TooLong", "Stacked", "Overhang", "NotStacked", "Beneath", "Taken", "NoTrunk", "NoBoard", "NoOrder", "NoGrade", "Misfit", "NoDeed", "NoDay", "Hindered", "NoEntry", "NoLine", "NoRow"] rfl (by decide +kernel)) xc11
  have FI11 := fun_mk (st := (inCls 0 (topS 12))) il11 ic11 ik11
  have OX11 : OexC K A11 := ⟨⟨_, _, _, _, _, _, _, _, _, _, _, _, _, _, _, oc_11, ob_11⟩, sa11, sb11, tp11, kp11⟩
  have MK11 : ∀ base, Maker l.prog w K mg base 1 "NoBoard" ["NoBoard", "SawError"] (.args ["name"]) := fun base => maker_ini E11 XC11 (by decide) OX11 ii11 it11 (ini1_ok (b := "SawError") (f := "name") (a := "name") FI11 (by decide +kernel) (by decide +kernel) bi0 E0 OX11 (XC11.no _ (by decide +kernel))) (FI11.binds fun _ _ _ _ _ _ us hl => match us, hl with | [_, _], _ => rfl)
  have XC12 : XcOk K mg ["NoOrder", "SawError"] A12 := xc_of XT XB (xall ["SawError", "TooThick", "NoBlock", "TooBroad", "TooLong", "Stacked", "Overhang", "NotStacked", "Beneath", "Taken", "NoTrunk", "NoBoard", "NoOrder", "NoGrade", "Misfit", "NoDeed", "NoDay", "Hindered", "NoEntry", "NoLine", "NoRow"] rfl (by decide +kernel)) xc12
  have FI12 := fun_mk (st := (inCls 0 (topS 13))) il12 ic12 ik12
  have OX12 : OexC K A12 := ⟨⟨_, _, _, _, _, _, _, _, _, _, _, _, _, _, _, oc_12, ob_12⟩, sa12, sb12, tp12, kp12⟩
  have MK12 : ∀ base, Maker l.prog w K mg base 1 "NoOrder" ["NoOrder", "SawError"] (.args ["name"]) := fun base => maker_ini E12 XC12 (by decide) OX12 ii12 it12 (ini1_ok (b := "SawError") (f := "name") (a := "name") FI12 (by decide +kernel) (by decide +kernel) bi0 E0 OX12 (XC12.no _ (by decide +kernel))) (FI12.binds fun _ _ _ _ _ _ us hl => match us, hl with | [_, _], _ => rfl)
  have XC14 : XcOk K mg ["Misfit", "SawError"] A14 := xc_of XT XB (xall ["SawError", "TooThick", "NoBlock", "TooBroad", "TooLong", "Stacked", "Overhang", "NotStacked", "Beneath", "Taken", "NoTrunk", "NoBoard", "NoOrder", "NoGrade", "Misfit", "NoDeed", "NoDay", "Hindered", "NoEntry", "NoLine", "NoRow"] rfl (by decide +kernel)) xc14
  have FI14 := fun_mk (st := (inCls 0 (topS 15))) il14 ic14 ik14
  have OX14 : OexC K A14 := ⟨⟨_, _, _, _, _, _, _, _, _, _, _, _, _, _, _, oc_14, ob_14⟩, sa14, sb14, tp14, kp14⟩
  have MK14 : ∀ base, Maker l.prog w K mg base 1 "Misfit" ["Misfit", "SawError"] (.args ["word"]) := fun base => maker_ini E14 XC14 (by decide) OX14 ii14 it14 (ini1_ok (b := "SawError") (f := "word") (a := "word") FI14 (by decide +kernel) (by decide +kernel) bi0 E0 OX14 (XC14.no _ (by decide +kernel))) (FI14.binds fun _ _ _ _ _ _ us hl => match us, hl with | [_, _], _ => rfl)
  have XC19 : XcOk K mg ["NoLine", "SawError"] A19 := xc_of XT XB (xall ["SawError", "TooThick", "NoBlock", "TooBroad", "TooLong", "Stacked", "Overhang", "NotStacked", "Beneath", "Taken", "NoTrunk", "NoBoard", "NoOrder", "NoGrade", "Misfit", "NoDeed", "NoDay", "Hindered", "NoEntry", "NoLine", "NoRow"] rfl (by decide +kernel)) xc19
  have FI19 := fun_mk (st := (inCls 0 (topS 20))) il19 ic19 ik19
  have OX19 : OexC K A19 := ⟨⟨_, _, _, _, _, _, _, _, _, _, _, _, _, _, _, oc_19, ob_19⟩, sa19, sb19, tp19, kp19⟩
  have MK19 : ∀ base, Maker l.prog w K mg base 1 "NoLine" ["NoLine", "SawError"] (.args ["line"]) := fun base => maker_ini E19 XC19 (by decide) OX19 ii19 it19 (ini1_ok (b := "SawError") (f := "line") (a := "line") FI19 (by decide +kernel) (by decide +kernel) bi0 E0 OX19 (XC19.no _ (by decide +kernel))) (FI19.binds fun _ _ _ _ _ _ us hl => match us, hl with | [_, _], _ => rfl)
  have XC17 : XcOk K mg ["Hindered", "SawError"] A17 := xc_of XT XB (xall ["SawError", "TooThick", "NoBlock", "TooBroad", "TooLong", "Stacked", "Overhang", "NotStacked", "Beneath", "Taken", "NoTrunk", "NoBoard", "NoOrder", "NoGrade", "Misfit", "NoDeed", "NoDay", "Hindered", "NoEntry", "NoLine", "NoRow"] rfl (by decide +kernel)) xc17
  have FI17 := fun_mk (st := (inCls 0 (topS 18))) il17 ic17 ik17
  have OX17 : OexC K A17 := ⟨⟨_, _, _, _, _, _, _, _, _, _, _, _, _, _, _, oc_17, ob_17⟩, sa17, sb17, tp17, kp17⟩
  have MK17 : ∀ base, Maker l.prog w K mg base 1 "Hindered" ["Hindered", "SawError"] (.args ["entry", "refusal"]) := fun base => maker_ini E17 XC17 (by decide) OX17 ii17 it17 (ini2_ok (b := "SawError") (f := "entry") (a := "entry") (g := "refusal") (c := "refusal") FI17 (by decide +kernel) (by decide +kernel) bi0 E0 OX17 (XC17.no _ (by decide +kernel)) (XC17.no _ (by decide +kernel))) (FI17.binds fun _ _ _ _ _ _ us hl => match us, hl with | [_, _, _], _ => rfl)
  have XC2 : XcOk K mg ["NoBlock", "SawError"] A2 := xc_of XT XB (xall ["SawError", "TooThick", "NoBlock", "TooBroad", "TooLong", "Stacked", "Overhang", "NotStacked", "Beneath", "Taken", "NoTrunk", "NoBoard", "NoOrder", "NoGrade", "Misfit", "NoDeed", "NoDay", "Hindered", "NoEntry", "NoLine", "NoRow"] rfl (by decide +kernel)) xc2
  have MK2 : ∀ base, Maker l.prog w K mg base 1 "NoBlock" ["NoBlock", "SawError"] .no := fun base => maker_no E2 XC2 kp2 sb2 tp2 F.excBase_ValueError ei2
  have XC7 : XcOk K mg ["NotStacked", "SawError"] A7 := xc_of XT XB (xall ["SawError", "TooThick", "NoBlock", "TooBroad", "TooLong", "Stacked", "Overhang", "NotStacked", "Beneath", "Taken", "NoTrunk", "NoBoard", "NoOrder", "NoGrade", "Misfit", "NoDeed", "NoDay", "Hindered", "NoEntry", "NoLine", "NoRow"] rfl (by decide +kernel)) xc7
  have MK7 : ∀ base, Maker l.prog w K mg base 1 "NotStacked" ["NotStacked", "SawError"] .no := fun base => maker_no E7 XC7 kp7 sb7 tp7 F.excBase_ValueError ei7
  have XC13 : XcOk K mg ["NoGrade", "SawError"] A13 := xc_of XT XB (xall ["SawError", "TooThick", "NoBlock", "TooBroad", "TooLong", "Stacked", "Overhang", "NotStacked", "Beneath", "Taken", "NoTrunk", "NoBoard", "NoOrder", "NoGrade", "Misfit", "NoDeed", "NoDay", "Hindered", "NoEntry", "NoLine", "NoRow"] rfl (by decide +kernel)) xc13
  have MK13 : ∀ base, Maker l.prog w K mg base 1 "NoGrade" ["NoGrade", "SawError"] .no := fun base => maker_no E13 XC13 kp13 sb13 tp13 F.excBase_ValueError ei13
  have XC15 : XcOk K mg ["NoDeed", "SawError"] A15 := xc_of XT XB (xall ["SawError", "TooThick", "NoBlock", "TooBroad", "TooLong", "Stacked", "Overhang", "NotStacked", "Beneath", "Taken", "NoTrunk", "NoBoard", "NoOrder", "NoGrade", "Misfit", "NoDeed", "NoDay", "Hindered", "NoEntry", "NoLine", "NoRow"] rfl (by decide +kernel)) xc15
  have MK15 : ∀ base, Maker l.prog w K mg base 1 "NoDeed" ["NoDeed", "SawError"] .no := fun base => maker_no E15 XC15 kp15 sb15 tp15 F.excBase_ValueError ei15
  have XC16 : XcOk K mg ["NoDay", "SawError"] A16 := xc_of XT XB (xall ["SawError", "TooThick", "NoBlock", "TooBroad", "TooLong", "Stacked", "Overhang", "NotStacked", "Beneath", "Taken", "NoTrunk", "NoBoard", "NoOrder", "NoGrade", "Misfit", "NoDeed", "NoDay", "Hindered", "NoEntry", "NoLine", "NoRow"] rfl (by decide +kernel)) xc16
  have MK16 : ∀ base, Maker l.prog w K mg base 1 "NoDay" ["NoDay", "SawError"] .no := fun base => maker_no E16 XC16 kp16 sb16 tp16 F.excBase_ValueError ei16
  have XC18 : XcOk K mg ["NoEntry", "SawError"] A18 := xc_of XT XB (xall ["SawError", "TooThick", "NoBlock", "TooBroad", "TooLong", "Stacked", "Overhang", "NotStacked", "Beneath", "Taken", "NoTrunk", "NoBoard", "NoOrder", "NoGrade", "Misfit", "NoDeed", "NoDay", "Hindered", "NoEntry", "NoLine", "NoRow"] rfl (by decide +kernel)) xc18
  have MK18 : ∀ base, Maker l.prog w K mg base 1 "NoEntry" ["NoEntry", "SawError"] .no := fun base => maker_no E18 XC18 kp18 sb18 tp18 F.excBase_ValueError ei18
  have XC20 : XcOk K mg ["NoRow", "SawError"] A20 := xc_of XT XB (xall ["SawError", "TooThick", "NoBlock", "TooBroad", "TooLong", "Stacked", "Overhang", "NotStacked", "Beneath", "Taken", "NoTrunk", "NoBoard", "NoOrder", "NoGrade", "Misfit", "NoDeed", "NoDay", "Hindered", "NoEntry", "NoLine", "NoRow"] rfl (by decide +kernel)) xc20
  have MK20 : ∀ base, Maker l.prog w K mg base 1 "NoRow" ["NoRow", "SawError"] .no := fun base => maker_no E20 XC20 kp20 sb20 tp20 F.excBase_ValueError ei20
  refine ⟨PySem.W.fnOf "law" "law" (defArgs (topS 31)) (defBody (topS 31)) (defScope (topS 31)) .none kV8 dc8 pm8 an8 cd8 ct8, fun s v => .of_eq rfl, fun base _ _ => ?_⟩
  have C0 : Callee l.prog w K mg base 1 "_law_pen_of" f_l_pen_of := c_l_pen_of F0 M0 Z0
  have C1 : Callee l.prog w K mg base 1 "_law_draw" f_l_draw := c_l_draw F1 M1 Z1 Z2
  have C2 : Callee l.prog w K mg base 1 "_law_word" f_l_word := c_l_word F2 M2 Z3 Z4 Z5 Z1 NX1 NX2 NX3 NX4 NX5 NX6 NX7 NX8 NX9 NX10 NX11 NX12 NX13 NX14 NX15 NX16 NX17 NX18 NX19 NX20 NX0
  have C3 : Callee l.prog w K mg base 1 "_law_field" f_l_field := c_l_field F3 M3
  have C4 : Callee l.prog w K mg base 2 "_law_far" f_l_far := c_l_far F4 M4 C1
  have C5 : Callee l.prog w K mg base 2 "_law_names" f_l_names_ra := c_l_names F5 M5 C1 Z6 Z7 Z8
  have C6 : Callee l.prog w K mg base 3 "_law_with_field" f_l_with_field := c_l_with_field F6 M6 (MK1 base) (MK3 base) (MK4 base) (MK5 base) (MK6 base) (MK8 base) (MK9 base) (MK10 base) (MK11 base) (MK12 base) (MK14 base) (MK19 base) (MK17 base)
  have C7 : Callee l.prog w K mg base 3 "_law_by_text" f_l_by_text := c_l_by_text F7 M7 (MK2 base) (MK7 base) (MK13 base) (MK15 base) (MK16 base) (MK18 base) (MK20 base)
  exact fnok_pure (P := l.prog) (w := w) (base := base) (c_law_fn (P := l.prog) (w := w) (base := base) F8 C0 C1 C5 C4 C6 C2 C3 C7 Z6 Z9 Z0)
end
end K23

end

open PySem PySem.W PyProof.Rows
set_option maxRecDepth 100000 in
set_option maxHeartbeats 0 in
theorem PySem.Challenge.cw_sawtrunk_k23_refusals_made_holds : PySem.Challenge.rw_sawtrunk_k23_refusals_made.Holds := by
  w_on; o_law; k_head; (case hw => w_witness2)
  k_fill
  refine DL.walk_ofG (l := PySem.Challenge.rw_sawtrunk_k23_refusals_made) (n := 63) (k := 4) (x := "_law_script") (sp := fun w => DL.spLaw _) rfl (by decide) rfl ⟨rfl, by decide, by decide⟩ (fun w h Y => PySem.W.kIn_of Y) ?F (fun _ _ a ns hl _ hS => ⟨a, ns, rfl, hS, hl, fun _ => rfl⟩) (fun _ _ _ _ _ h => DL.cx_none h)
  case F =>
    intro w mg fa h KX G hmg
    refine' DL.end_of K23.law_math (K23.all_mk (l := PySem.Challenge.rw_sawtrunk_k23_refusals_made) (w := w) KX G hmg ?a0 ?l0 ?c0 ?k0 ?a1 ?l1 ?c1 ?k1 ?a2 ?l2 ?c2 ?k2 ?a3 ?l3 ?c3 ?k3 ?a4 ?l4 ?c4 ?k4 ?a5 ?l5 ?c5 ?k5 ?a6 ?l6 ?c6 ?k6 ?a7 ?l7 ?c7 ?k7 ?a8 ?l8 ?c8 ?k8 ?z0 ?z1 ?z2 ?z3 ?z4 ?z5 ?z6 ?z7 ?z8 ?z9  ?ca0 ?ca1 ?ca2 ?ca3 ?ca4 ?ca5 ?ca6 ?ca7 ?ca8 ?ca9 ?ca10 ?ca11 ?ca12 ?ca13 ?ca14 ?ca15 ?ca16 ?ca17 ?ca18 ?ca19 ?ca20 ?xc1 ?kp1 ?sb1 ?tp1 ?bi0 ?oc_1 ?ob_1 ?sa1 ?ii1 ?it1 ?il1 ?ic1 ?ik1 ?xc3 ?kp3 ?sb3 ?tp3 ?oc_3 ?ob_3 ?sa3 ?ii3 ?it3 ?il3 ?ic3 ?ik3 ?xc4 ?kp4 ?sb4 ?tp4 ?oc_4 ?ob_4 ?sa4 ?ii4 ?it4 ?il4 ?ic4 ?ik4 ?xc5 ?kp5 ?sb5 ?tp5 ?oc_5 ?ob_5 ?sa5 ?ii5 ?it5 ?il5 ?ic5 ?ik5 ?xc6 ?kp6 ?sb6 ?tp6 ?oc_6 ?ob_6 ?sa6 ?ii6 ?it6 ?il6 ?ic6 ?ik6 ?xc8 ?kp8 ?sb8 ?tp8 ?oc_8 ?ob_8 ?sa8 ?ii8 ?it8 ?il8 ?ic8 ?ik8 ?xc9 ?kp9 ?sb9 ?tp9 ?oc_9 ?ob_9 ?sa9 ?ii9 ?it9 ?il9 ?ic9 ?ik9 ?xc10 ?kp10 ?sb10 ?tp10 ?oc_10 ?ob_10 ?sa10 ?ii10 ?it10 ?il10 ?ic10 ?ik10 ?xc11 ?kp11 ?sb11 ?tp11 ?oc_11 ?ob_11 ?sa11 ?ii11 ?it11 ?il11 ?ic11 ?ik11 ?xc12 ?kp12 ?sb12 ?tp12 ?oc_12 ?ob_12 ?sa12 ?ii12 ?it12 ?il12 ?ic12 ?ik12 ?xc14 ?kp14 ?sb14 ?tp14 ?oc_14 ?ob_14 ?sa14 ?ii14 ?it14 ?il14 ?ic14 ?ik14 ?xc19 ?kp19 ?sb19 ?tp19 ?oc_19 ?ob_19 ?sa19 ?ii19 ?it19 ?il19 ?ic19 ?ik19 ?xc17 ?kp17 ?sb17 ?tp17 ?oc_17 ?ob_17 ?sa17 ?ii17 ?it17 ?il17 ?ic17 ?ik17 ?xc2 ?kp2 ?sb2 ?tp2 ?ei2 ?xc7 ?kp7 ?sb7 ?tp7 ?ei7 ?xc13 ?kp13 ?sb13 ?tp13 ?ei13 ?xc15 ?kp15 ?sb15 ?tp15 ?ei15 ?xc16 ?kp16 ?sb16 ?tp16 ?ei16 ?xc18 ?kp18 ?sb18 ?tp18 ?ei18 ?xc20 ?kp20 ?sb20 ?tp20 ?ei20)
    (case a0 => k_is); (case l0 => k_is); (case c0 => k_is); (case k0 => k_is)
    (case a1 => k_is); (case l1 => k_is); (case c1 => k_is); (case k1 => k_is)
    (case a2 => k_is); (case l2 => k_is); (case c2 => k_is); (case k2 => k_is)
    (case a3 => k_is); (case l3 => k_is); (case c3 => k_is); (case k3 => k_is)
    (case a4 => k_is); (case l4 => k_is); (case c4 => k_is); (case k4 => k_is)
    (case a5 => k_is); (case l5 => k_is); (case c5 => k_is); (case k5 => k_is)
    (case a6 => k_is); (case l6 => k_is); (case c6 => k_is); (case k6 => k_is)
    (case a7 => k_is); (case l7 => k_is); (case c7 => k_is); (case k7 => k_is)
    (case a8 => k_is); (case l8 => k_is); (case c8 => k_is); (case k8 => k_is)
    (case z0 => k_is)
    (case z1 => k_is)
    (case z2 => k_is)
    (case z3 => k_is)
    (case z4 => k_is)
    (case z5 => k_is)
    (case z6 => k_is)
    (case z7 => k_is)
    (case z8 => k_is)
    (case z9 => k_is)
    (case ca0 => k_is)
    (case ca1 => k_is)
    (case ca2 => k_is)
    (case ca3 => k_is)
    (case ca4 => k_is)
    (case ca5 => k_is)
    (case ca6 => k_is)
    (case ca7 => k_is)
    (case ca8 => k_is)
    (case ca9 => k_is)
    (case ca10 => k_is)
    (case ca11 => k_is)
    (case ca12 => k_is)
    (case ca13 => k_is)
    (case ca14 => k_is)
    (case ca15 => k_is)
    (case ca16 => k_is)
    (case ca17 => k_is)
    (case ca18 => k_is)
    (case ca19 => k_is)
    (case ca20 => k_is)
    (case xc1 => kernel_rfl); (case kp1 => k_is); (case sb1 => k_is); (case tp1 => k_is)
    (case bi0 => exact ⟨by k_is, by k_is, by k_is⟩)
    (case oc_1 => k_is); (case ob_1 => kernel_rfl); (case sa1 => k_is)
    (case ii1 => k_is); (case it1 => k_is); (case il1 => k_is); (case ic1 => k_is); (case ik1 => k_is)
    (case xc3 => kernel_rfl); (case kp3 => k_is); (case sb3 => k_is); (case tp3 => k_is)
    (case oc_3 => k_is); (case ob_3 => kernel_rfl); (case sa3 => k_is)
    (case ii3 => k_is); (case it3 => k_is); (case il3 => k_is); (case ic3 => k_is); (case ik3 => k_is)
    (case xc4 => kernel_rfl); (case kp4 => k_is); (case sb4 => k_is); (case tp4 => k_is)
    (case oc_4 => k_is); (case ob_4 => kernel_rfl); (case sa4 => k_is)
    (case ii4 => k_is); (case it4 => k_is); (case il4 => k_is); (case ic4 => k_is); (case ik4 => k_is)
    (case xc5 => kernel_rfl); (case kp5 => k_is); (case sb5 => k_is); (case tp5 => k_is)
    (case oc_5 => k_is); (case ob_5 => kernel_rfl); (case sa5 => k_is)
    (case ii5 => k_is); (case it5 => k_is); (case il5 => k_is); (case ic5 => k_is); (case ik5 => k_is)
    (case xc6 => kernel_rfl); (case kp6 => k_is); (case sb6 => k_is); (case tp6 => k_is)
    (case oc_6 => k_is); (case ob_6 => kernel_rfl); (case sa6 => k_is)
    (case ii6 => k_is); (case it6 => k_is); (case il6 => k_is); (case ic6 => k_is); (case ik6 => k_is)
    (case xc8 => kernel_rfl); (case kp8 => k_is); (case sb8 => k_is); (case tp8 => k_is)
    (case oc_8 => k_is); (case ob_8 => kernel_rfl); (case sa8 => k_is)
    (case ii8 => k_is); (case it8 => k_is); (case il8 => k_is); (case ic8 => k_is); (case ik8 => k_is)
    (case xc9 => kernel_rfl); (case kp9 => k_is); (case sb9 => k_is); (case tp9 => k_is)
    (case oc_9 => k_is); (case ob_9 => kernel_rfl); (case sa9 => k_is)
    (case ii9 => k_is); (case it9 => k_is); (case il9 => k_is); (case ic9 => k_is); (case ik9 => k_is)
    (case xc10 => kernel_rfl); (case kp10 => k_is); (case sb10 => k_is); (case tp10 => k_is)
    (case oc_10 => k_is); (case ob_10 => kernel_rfl); (case sa10 => k_is)
    (case ii10 => k_is); (case it10 => k_is); (case il10 => k_is); (case ic10 => k_is); (case ik10 => k_is)
    (case xc11 => kernel_rfl); (case kp11 => k_is); (case sb11 => k_is); (case tp11 => k_is)
    (case oc_11 => k_is); (case ob_11 => kernel_rfl); (case sa11 => k_is)
    (case ii11 => k_is); (case it11 => k_is); (case il11 => k_is); (case ic11 => k_is); (case ik11 => k_is)
    (case xc12 => kernel_rfl); (case kp12 => k_is); (case sb12 => k_is); (case tp12 => k_is)
    (case oc_12 => k_is); (case ob_12 => kernel_rfl); (case sa12 => k_is)
    (case ii12 => k_is); (case it12 => k_is); (case il12 => k_is); (case ic12 => k_is); (case ik12 => k_is)
    (case xc14 => kernel_rfl); (case kp14 => k_is); (case sb14 => k_is); (case tp14 => k_is)
    (case oc_14 => k_is); (case ob_14 => kernel_rfl); (case sa14 => k_is)
    (case ii14 => k_is); (case it14 => k_is); (case il14 => k_is); (case ic14 => k_is); (case ik14 => k_is)
    (case xc19 => kernel_rfl); (case kp19 => k_is); (case sb19 => k_is); (case tp19 => k_is)
    (case oc_19 => k_is); (case ob_19 => kernel_rfl); (case sa19 => k_is)
    (case ii19 => k_is); (case it19 => k_is); (case il19 => k_is); (case ic19 => k_is); (case ik19 => k_is)
    (case xc17 => kernel_rfl); (case kp17 => k_is); (case sb17 => k_is); (case tp17 => k_is)
    (case oc_17 => k_is); (case ob_17 => kernel_rfl); (case sa17 => k_is)
    (case ii17 => k_is); (case it17 => k_is); (case il17 => k_is); (case ic17 => k_is); (case ik17 => k_is)
    (case xc2 => kernel_rfl); (case kp2 => k_is); (case sb2 => k_is); (case tp2 => k_is)
    (case ei2 => kernel_rfl)
    (case xc7 => kernel_rfl); (case kp7 => k_is); (case sb7 => k_is); (case tp7 => k_is)
    (case ei7 => kernel_rfl)
    (case xc13 => kernel_rfl); (case kp13 => k_is); (case sb13 => k_is); (case tp13 => k_is)
    (case ei13 => kernel_rfl)
    (case xc15 => kernel_rfl); (case kp15 => k_is); (case sb15 => k_is); (case tp15 => k_is)
    (case ei15 => kernel_rfl)
    (case xc16 => kernel_rfl); (case kp16 => k_is); (case sb16 => k_is); (case tp16 => k_is)
    (case ei16 => kernel_rfl)
    (case xc18 => kernel_rfl); (case kp18 => k_is); (case sb18 => k_is); (case tp18 => k_is)
    (case ei18 => kernel_rfl)
    (case xc20 => kernel_rfl); (case kp20 => k_is); (case sb20 => k_is); (case tp20 => k_is)
    (case ei20 => kernel_rfl)
