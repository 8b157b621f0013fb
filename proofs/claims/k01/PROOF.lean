import PyProof.Rows.All
import Wide.All
import OpenK.AllK
import Wide.FinOn
import KE.KStateDown
import HandS.ForMost
import HandS.More
import HandS.WordsExc
import HandS.Defaults
import HandS.HeadHook2
import HandS.CallSlots
import HandS.ExcOwn
import HandS.TryOnly
import HandS.DictComp
import HandS.MakeKwOnly
import HandS.FStr
import HandS.Flow
import HandS.Deep
import HandS.Wide
import HandS.Conv
import HandS.TupAny
import HandS.OwnEq
import HandS.IsInst
import HandS.SetKeys
import HandS.Style
import HandS.Head0
import HandS.Head1
import HandS.Head2
import HandS.HeadEnd
import HandS.HeadHook1
import HandS.EndBits
import KE.KDictZip
import HandS.RevTup
import PySem.Challenge.RW_facehouse_k01_faces_made_and_equal
set_option Elab.async false
set_option linter.all false
set_option maxRecDepth 100000
set_option maxHeartbeats 0
namespace Vs
open PySem PySem.Spec PyProof.Rows L2

/-- a value as a tree -/
inductive D where
  | non | bl (b : Bool) | int (i : Int) | str (s : Str)
  | tup (xs : List D) | lst (xs : List D)
  | dk (kvs : List (Key × D)) | dt (kvs : List (List Key × D))
  | ins (c : Str) (fs : List (Str × D))
  | glo (x : Str) | ty (n : String) | obj (n : Nat)
  | rl (xs : List D) | ct (xs : List D)
instance : Inhabited D := ⟨.non⟩
/-- what stands in a cell: a tree that never changes any more, or a list, a dict, an instance that one alone holds -/
inductive O where
  | sh (d : D) | ol (ds : List D) | ok (kvs : List (Key × D)) | ot (kvs : List (List Key × D)) | oi (c : Str) (fs : List (Str × D)) | gone
instance : Inhabited O := ⟨.sh .non⟩
def O.view : O → Option D
  | .sh d => some d
  | .ol ds => some (.lst ds)
  | .ok kvs => some (.dk kvs)
  | .ot kvs => some (.dt kvs)
  | .oi c fs => some (.ins c fs)
  | .gone => none
/-- what a slot holds: a tree, or the n-th cell -/
inductive Vl where
  | sh (d : D) | pt (n : Nat)
/-- slots, the frame's cells, the table of objects -/
structure S where
  sl : List (Option Vl)
  ce : List O
  tb : List O
/-- an exception: its class by name, its field -/
structure Ex where
  c : Str
  p : Option (Str × D)
inductive Rs (α : Type) where
  | ok (a : α) (s : S)
  | ex (x : Ex) (s : S)
abbrev M (α : Type) := S → Option (Rs α)

mutual
inductive Rep (K : PySem.W.Frag) (G : Hp) (m : List Addr) : D → V → Prop
  | non : Rep K G m .non .non
  | bl (b : Bool) : Rep K G m (.bl b) (.bl b)
  | int (i : Int) : Rep K G m (.int i) (.int i)
  | str (x : Str) : Rep K G m (.str x) (.str x)
  | tup {a : Addr} {xs : List V} {ds : List D} : G a = some (.tup xs) → RepL K G m ds xs → Rep K G m (.tup ds) (.ref a)
  | ct {a : Addr} {xs : List V} {ds : List D} : SqT K G a xs → RepL K G m ds xs → Rep K G m (.ct ds) (.ref a)
  | lst {a : Addr} {xs : List V} {ds : List D} : G a = some (.lst xs) → RepL K G m ds xs → Rep K G m (.lst ds) (.ref a)
  | rl {a : Addr} {xs : List V} {ds : List D} : SqL K G a xs → RepL K G m ds xs → Rep K G m (.rl ds) (.ref a)
  | dk {a : Addr} {kvs : List (Key × V)} {ds : List (Key × D)} : Rd G a (.dK kvs) → RepP K G m ds kvs → Rep K G m (.dk ds) (.ref a)
  | dt {a : Addr} {kvs : List (List Key × V)} {ds : List (List Key × D)} : Rd G a (.dT kvs) → RepP K G m ds kvs → Rep K G m (.dt ds) (.ref a)
  | ins {a dx : Addr} {c : Str} {fs : List (Str × V)} {ds : List (Str × D)} : G a = some (.ins (He.ga K c) dx fs) → RepP K G m ds fs → Rep K G m (.ins c ds) (.ref a)
  | glo (x : Str) : Rep K G m (.glo x) (.ref (He.ga K x))
  | ty (n : String) : Rep K G m (.ty n) (.ty n)
  | obj {n : Nat} {a : Addr} : m[n]? = some a → Rep K G m (.obj n) (.ref a)
inductive RepL (K : PySem.W.Frag) (G : Hp) (m : List Addr) : List D → List V → Prop
  | nil : RepL K G m [] []
  | cons {d : D} {v : V} {ds : List D} {vs : List V} : Rep K G m d v → RepL K G m ds vs → RepL K G m (d :: ds) (v :: vs)
inductive RepP (K : PySem.W.Frag) (G : Hp) (m : List Addr) : {κ : Type} → List (κ × D) → List (κ × V) → Prop
  | nil {κ : Type} : RepP K G m (κ := κ) [] []
  | cons {κ : Type} {k : κ} {d : D} {v : V} {ds : List (κ × D)} {vs : List (κ × V)} : Rep K G m d v → RepP K G m ds vs → RepP K G m ((k, d) :: ds) ((k, v) :: vs)
end

/-- what the one reads the other reads -/
structure Sub (F H : Hp) : Prop where
  rd : ∀ a u, Rd F a u → Rd H a u
  ins : ∀ a C dx fs, F a = some (.ins C dx fs) → H a = some (.ins C dx fs)
  lst : ∀ a xs, F a = some (.lst xs) → H a = some (.lst xs)
  tup : ∀ a xs, F a = some (.tup xs) → H a = some (.tup xs)
theorem Sub.refl (F : Hp) : Sub F F := ⟨fun _ _ h => h, fun _ _ _ _ h => h, fun _ _ h => h, fun _ _ h => h⟩
theorem Sub.trans {F G H : Hp} (a : Sub F G) (b : Sub G H) : Sub F H := ⟨fun x u h => b.rd x u (a.rd x u h), fun x C d f h => b.ins x C d f (a.ins x C d f h), fun x y h => b.lst x y (a.lst x y h), fun x y h => b.tup x y (a.tup x y h)⟩
theorem Sub.sqT {K : PySem.W.Frag} {F H : Hp} {a : Addr} {xs : List V} (s : Sub F H) (h : SqT K F a xs) : SqT K H a xs := h.elim (fun z => .inl (s.rd _ _ z)) .inr
theorem Sub.sqL {K : PySem.W.Frag} {F H : Hp} {a : Addr} {xs : List V} (s : Sub F H) (h : SqL K F a xs) : SqL K H a xs := h.elim (fun z => .inl (s.rd _ _ z)) .inr
theorem Sub.upd {F : Hp} {p : Addr} {o : HO} (h : F p = none) : Sub F (upd F p o) := ⟨fun a u r => by
  have ne : a ≠ p := fun e => by
    subst e
    rcases r with r | ⟨_, r⟩ <;> (rw [h] at r; cases r)
  rcases r with r | ⟨o', r⟩
  · exact .inl (by rw [upd_ne ne]; exact r)
  · exact .inr ⟨o', by rw [upd_ne ne]; exact r⟩, fun a C d f r => by rw [upd_ne (ne_of_none r h)]; exact r, fun a y r => by rw [upd_ne (ne_of_none r h)]; exact r, fun a y r => by rw [upd_ne (ne_of_none r h)]; exact r⟩
def Pre (m m' : List Addr) : Prop := ∀ (n : Nat) (a : Addr), m[n]? = some a → m'[n]? = some a
theorem Pre.refl (m : List Addr) : Pre m m := fun _ _ h => h
theorem Pre.trans {a b c : List Addr} (x : Pre a b) (y : Pre b c) : Pre a c := fun n p h => y n p (x n p h)

section
variable {K : PySem.W.Frag} {G G' : Hp} {m m' : List Addr}
mutual
theorem Rep.mono (s : Sub G G') (pm : Pre m m') : ∀ {d : D} {v : V}, Rep K G m d v → Rep K G' m' d v
  | _, _, .non => .non
  | _, _, .bl b => .bl b
  | _, _, .int i => .int i
  | _, _, .str x => .str x
  | _, _, .tup h r => .tup (s.tup _ _ h) (RepL.mono s pm r)
  | _, _, .ct h r => .ct (s.sqT h) (RepL.mono s pm r)
  | _, _, .lst h r => .lst (s.lst _ _ h) (RepL.mono s pm r)
  | _, _, .rl h r => .rl (s.sqL h) (RepL.mono s pm r)
  | _, _, .dk h r => .dk (s.rd _ _ h) (RepP.mono s pm r)
  | _, _, .dt h r => .dt (s.rd _ _ h) (RepP.mono s pm r)
  | _, _, .ins h r => .ins (s.ins _ _ _ _ h) (RepP.mono s pm r)
  | _, _, .glo x => .glo x
  | _, _, .ty n => .ty n
  | _, _, .obj h => .obj (pm _ _ h)
theorem RepL.mono (s : Sub G G') (pm : Pre m m') : ∀ {ds : List D} {vs : List V}, RepL K G m ds vs → RepL K G' m' ds vs
  | _, _, .nil => .nil
  | _, _, .cons h r => .cons (Rep.mono s pm h) (RepL.mono s pm r)
theorem RepP.mono (s : Sub G G') (pm : Pre m m') : ∀ {κ : Type} {ds : List (κ × D)} {vs : List (κ × V)}, RepP K G m ds vs → RepP K G' m' ds vs
  | _, _, _, .nil => .nil
  | _, _, _, .cons h r => .cons (Rep.mono s pm h) (RepP.mono s pm r)
end
theorem RepL.length : ∀ {ds : List D} {vs : List V}, RepL K G m ds vs → ds.length = vs.length
  | _, _, .nil => rfl
  | _, _, .cons _ r => congrArg (· + 1) (RepL.length r)
theorem RepL.get : ∀ {ds : List D} {vs : List V} {i : Nat} {d : D}, RepL K G m ds vs → ds[i]? = some d → ∃ v, vs[i]? = some v ∧ Rep K G m d v
  | _, _, _, _, .nil, e => by simp at e
  | _, _, 0, _, .cons h _, e => by simp at e; subst e; exact ⟨_, rfl, h⟩
  | _, _, i + 1, _, .cons _ r, e => by
    obtain ⟨v, h1, h2⟩ := RepL.get (i := i) r (by simpa using e)
    exact ⟨v, by simpa using h1, h2⟩
theorem RepL.getV : ∀ {ds : List D} {vs : List V} {i : Nat} {v : V}, RepL K G m ds vs → vs[i]? = some v → ∃ d, ds[i]? = some d ∧ Rep K G m d v
  | _, _, _, _, .nil, e => by simp at e
  | _, _, 0, _, .cons h _, e => by simp at e; subst e; exact ⟨_, rfl, h⟩
  | _, _, i + 1, _, .cons _ r, e => by
    obtain ⟨v, h1, h2⟩ := RepL.getV (i := i) r (by simpa using e)
    exact ⟨v, by simpa using h1, h2⟩
theorem RepL.append : ∀ {ds es : List D} {vs ws : List V}, RepL K G m ds vs → RepL K G m es ws → RepL K G m (ds ++ es) (vs ++ ws)
  | _, _, _, _, .nil, s => s
  | _, _, _, _, .cons h r, s => .cons h (RepL.append r s)
theorem RepL.take : ∀ {ds : List D} {vs : List V} (n : Nat), RepL K G m ds vs → RepL K G m (ds.take n) (vs.take n)
  | _, _, 0, _ => .nil
  | _, _, _ + 1, .nil => .nil
  | _, _, n + 1, .cons h r => .cons h (RepL.take n r)
theorem RepL.drop : ∀ {ds : List D} {vs : List V} (n : Nat), RepL K G m ds vs → RepL K G m (ds.drop n) (vs.drop n)
  | _, _, 0, r => r
  | _, _, _ + 1, .nil => .nil
  | _, _, n + 1, .cons _ r => RepL.drop n r
theorem RepL.set {d : D} {v : V} (h : Rep K G m d v) : ∀ {ds : List D} {vs : List V} (i : Nat), RepL K G m ds vs → RepL K G m (ds.set i d) (vs.set i v)
  | _, _, _, .nil => .nil
  | _, _, 0, .cons _ r => .cons h r
  | _, _, i + 1, .cons q r => .cons q (RepL.set h i r)
theorem RepL.erase : ∀ {ds : List D} {vs : List V} (i : Nat), RepL K G m ds vs → RepL K G m (ds.eraseIdx i) (vs.eraseIdx i)
  | _, _, _, .nil => .nil
  | _, _, 0, .cons _ r => r
  | _, _, i + 1, .cons q r => .cons q (RepL.erase i r)
theorem RepL.rev : ∀ {ds : List D} {vs : List V}, RepL K G m ds vs → RepL K G m ds.reverse vs.reverse
  | _, _, .nil => .nil
  | _, _, .cons h r => by rw [List.reverse_cons, List.reverse_cons]; exact RepL.append (RepL.rev r) (.cons h .nil)
end

structure Gh where
  F : Hp
  m : List Addr
  cv : List V
  Rs : List (Option Addr)
  Rt : List (Option Addr)
def Gh.own (g : Gh) (a : Addr) : Prop := some a ∈ g.Rs ∨ some a ∈ g.Rt
/-- a cell's content at a value; its own address -/
inductive RepO (K : PySem.W.Frag) (F H : Hp) (m : List Addr) : O → V → Option Addr → Prop
  | sh {d : D} {v : V} : Rep K F m d v → RepO K F H m (.sh d) v none
  | gone {v : V} : RepO K F H m .gone v none
  | ol {p : Addr} {xs : List V} {ds : List D} : F p = none → H p = some (.lst xs) → RepL K F m ds xs → RepO K F H m (.ol ds) (.ref p) (some p)
  | ok {p : Addr} {kvs : List (Key × V)} {ds : List (Key × D)} : F p = none → H p = some (.dK kvs) → RepP K F m ds kvs → RepO K F H m (.ok ds) (.ref p) (some p)
  | ot {p : Addr} {kvs : List (List Key × V)} {ds : List (List Key × D)} : F p = none → H p = some (.dT kvs) → RepP K F m ds kvs → RepO K F H m (.ot ds) (.ref p) (some p)
  | oi {p dx : Addr} {c : Str} {fs : List (Str × V)} {ds : List (Str × D)} : F p = none → H p = some (.ins (He.ga K c) dx fs) → RepP K F m ds fs → RepO K F H m (.oi c ds) (.ref p) (some p)
structure Pool (K : PySem.W.Frag) (F H : Hp) (m : List Addr) (os : List O) (vs : List V) (rs : List (Option Addr)) : Prop where
  lv : vs.length = os.length
  lr : rs.length = os.length
  at_ : ∀ (n : Nat) (o : O), os[n]? = some o → ∃ v r, vs[n]? = some v ∧ rs[n]? = some r ∧ RepO K F H m o v r
  uq : ∀ (i j : Nat) (a : Addr), rs[i]? = some (some a) → rs[j]? = some (some a) → i = j
def SlV (K : PySem.W.Frag) (g : Gh) : Vl → V → Prop
  | .sh d, v => Rep K g.F g.m d v
  | .pt n, v => g.cv[n]? = some v
structure St (K : PySem.W.Frag) (g : Gh) (s : S) (σ : L2.St) (H : Hp) : Prop where
  sub : Sub g.F H
  len : s.sl.length = σ.length
  slot : ∀ (i : Nat) (x : Vl), s.sl[i]? = some (some x) → ∃ v, σ[i]? = some (some v) ∧ SlV K g x v
  ce : Pool K g.F H g.m s.ce g.cv g.Rs
  tb : Pool K g.F H g.m s.tb (g.m.map V.ref) g.Rt
  dj : ∀ a, some a ∈ g.Rs → some a ∈ g.Rt → False
/-- from one moment to a later one -/
structure Go (g : Gh) (H : Hp) (g' : Gh) (H' : Hp) : Prop where
  F : Sub g.F g'.F
  m : Pre g.m g'.m
  cv : ∀ (n : Nat) (v : V), g.cv[n]? = some v → g'.cv[n]? = some v
  keep : ∀ a o, H a = some o → ¬ g.own a → g.F a = none → H' a = some o
  trk : ∀ a, H a ≠ none → H' a ≠ none
  frz : ∀ a u, g'.F a = some u → g.F a ≠ none ∨ H a = none ∨ g.own a
  rts : ∀ a, g'.own a → g.own a ∨ H a = none
theorem Go.refl (g : Gh) (H : Hp) : Go g H g H := ⟨Sub.refl _, Pre.refl _, fun _ _ h => h, fun _ _ h _ _ => h, fun _ h => h, fun a u h => .inl (by rw [h]; exact fun z => nomatch z), fun _ h => .inl h⟩
theorem Go.trans {g g1 g2 : Gh} {H H1 H2 : Hp} (x : Go g H g1 H1) (y : Go g1 H1 g2 H2) : Go g H g2 H2 where
  F := x.F.trans y.F
  m := x.m.trans y.m
  cv := fun n v h => y.cv n v (x.cv n v h)
  keep := fun a o h n f => by
    refine y.keep a o (x.keep a o h n f) (fun q => ?_) ?_
    · rcases x.rts a q with z | z
      · exact n z
      · rw [h] at z; cases z
    · cases q : g1.F a with
      | none => rfl
      | some u =>
        rcases x.frz a u q with z | z | z
        · exact absurd f z
        · rw [h] at z; cases z
        · exact absurd z n
  trk := fun a h => y.trk a (x.trk a h)
  frz := fun a u h => by
    rcases y.frz a u h with z | z | z
    · cases q : g1.F a with
      | none => exact absurd q z
      | some w => exact x.frz a w q
    · cases q : H a with
      | none => exact .inr (.inl rfl)
      | some o => exact absurd z (x.trk a (by rw [q]; exact fun z => nomatch z))
    · rcases x.rts a z with q | q
      · exact .inr (.inr q)
      · exact .inr (.inl q)
  rts := fun a h => by
    rcases y.rts a h with z | z
    · exact x.rts a z
    · cases q : H a with
      | none => exact .inr rfl
      | some o => exact absurd z (x.trk a (by rw [q]; exact fun z => nomatch z))
theorem Rep.go {K : PySem.W.Frag} {g g' : Gh} {H H' : Hp} {d : D} {v : V} (h : Rep K g.F g.m d v) (x : Go g H g' H') : Rep K g'.F g'.m d v := h.mono x.F x.m
theorem RepL.go {K : PySem.W.Frag} {g g' : Gh} {H H' : Hp} {d : List D} {v : List V} (h : RepL K g.F g.m d v) (x : Go g H g' H') : RepL K g'.F g'.m d v := h.mono x.F x.m

section
variable {K : PySem.W.Frag} {F F' H H' : Hp} {m m' : List Addr} {o : O} {v : V} {r : Option Addr}
theorem RepO.free (h : RepO K F H m o v (some r')) : F r' = none ∧ (∃ u, H r' = some u) ∧ v = .ref r' := by
  cases h with
  | ol h1 h2 _ => exact ⟨h1, ⟨_, h2⟩, rfl⟩
  | ok h1 h2 _ => exact ⟨h1, ⟨_, h2⟩, rfl⟩
  | ot h1 h2 _ => exact ⟨h1, ⟨_, h2⟩, rfl⟩
  | oi h1 h2 _ => exact ⟨h1, ⟨_, h2⟩, rfl⟩
/-- the same at a later moment -/
theorem RepO.keep (h : RepO K F H m o v r) (s : Sub F F') (pm : Pre m m') (k : ∀ a, r = some a → F' a = none ∧ ∀ u, H a = some u → H' a = some u) : RepO K F' H' m' o v r := by
  cases h with
  | sh q => exact .sh (q.mono s pm)
  | gone => exact .gone
  | ol h1 h2 q => exact .ol (k _ rfl).1 ((k _ rfl).2 _ h2) (q.mono s pm)
  | ok h1 h2 q => exact .ok (k _ rfl).1 ((k _ rfl).2 _ h2) (q.mono s pm)
  | ot h1 h2 q => exact .ot (k _ rfl).1 ((k _ rfl).2 _ h2) (q.mono s pm)
  | oi h1 h2 q => exact .oi (k _ rfl).1 ((k _ rfl).2 _ h2) (q.mono s pm)
/-- a cell read as a tree -/
theorem RepO.read {d : D} (h : RepO K F H m o v r) (e : o.view = some d) (s : Sub F H) : Rep K H m d v := by
  cases h with
  | sh q => cases e; exact q.mono s (Pre.refl _)
  | gone => cases e
  | ol h1 h2 q => cases e; exact .lst h2 (q.mono s (Pre.refl _))
  | ok h1 h2 q => cases e; exact .dk (.inl h2) (q.mono s (Pre.refl _))
  | ot h1 h2 q => cases e; exact .dt (.inl h2) (q.mono s (Pre.refl _))
  | oi h1 h2 q => cases e; exact .ins h2 (q.mono s (Pre.refl _))
/-- frozen: F with what stands at the cell's address -/
def frzF (F H : Hp) (r : Option Addr) : Hp := fun a => if some a = r then H a else F a
theorem frzF_other {a : Addr} (h : some a ≠ r) : frzF F H r a = F a := if_neg h
theorem frzF_sub (h : ∀ a, r = some a → F a = none) : Sub F (frzF F H r) := ⟨fun a u q => by
  by_cases e : some a = r
  · have z := h a e.symm
    rcases q with q | ⟨_, q⟩ <;> (rw [z] at q; cases q)
  · unfold Rd; rw [frzF_other e]; exact q, fun a C d f q => by
  by_cases e : some a = r
  · rw [h a e.symm] at q; cases q
  · rw [frzF_other e]; exact q, fun a y q => by
  by_cases e : some a = r
  · rw [h a e.symm] at q; cases q
  · rw [frzF_other e]; exact q, fun a y q => by
  by_cases e : some a = r
  · rw [h a e.symm] at q; cases q
  · rw [frzF_other e]; exact q⟩
theorem frzF_in (s : Sub F H) : Sub (frzF F H r) H := ⟨fun a u q => by
  unfold Rd frzF at q
  by_cases e : some a = r
  · rw [if_pos e] at q; exact q
  · rw [if_neg e] at q; exact s.rd a u q, fun a C d f q => by
  unfold frzF at q
  by_cases e : some a = r
  · rw [if_pos e] at q; exact q
  · rw [if_neg e] at q; exact s.ins a C d f q, fun a y q => by
  unfold frzF at q
  by_cases e : some a = r
  · rw [if_pos e] at q; exact q
  · rw [if_neg e] at q; exact s.lst a y q, fun a y q => by
  unfold frzF at q
  by_cases e : some a = r
  · rw [if_pos e] at q; exact q
  · rw [if_neg e] at q; exact s.tup a y q⟩
theorem RepO.frozen {d : D} (h : RepO K F H m o v r) (e : o.view = some d) : Rep K (frzF F H r) m d v := by
  have sb : Sub F (frzF F H r) := frzF_sub fun a e => by subst e; exact h.free.1
  cases h with
  | sh q => cases e; exact q.mono sb (Pre.refl _)
  | gone => cases e
  | ol h1 h2 q => cases e; exact .lst (by unfold frzF; rw [if_pos rfl]; exact h2) (q.mono sb (Pre.refl _))
  | ok h1 h2 q => cases e; exact .dk (.inl (by unfold frzF; rw [if_pos rfl]; exact h2)) (q.mono sb (Pre.refl _))
  | ot h1 h2 q => cases e; exact .dt (.inl (by unfold frzF; rw [if_pos rfl]; exact h2)) (q.mono sb (Pre.refl _))
  | oi h1 h2 q => cases e; exact .ins (by unfold frzF; rw [if_pos rfl]; exact h2) (q.mono sb (Pre.refl _))
end

section
variable {K : PySem.W.Frag} {F F' H H' : Hp} {m m' : List Addr} {os : List O} {vs : List V} {rs : List (Option Addr)}
theorem Pool.keep (p : Pool K F H m os vs rs) (s : Sub F F') (pm : Pre m m') (k : ∀ a, some a ∈ rs → F' a = none ∧ ∀ u, H a = some u → H' a = some u) : Pool K F' H' m' os vs rs :=
  ⟨p.lv, p.lr, fun n o e => by
    obtain ⟨v, r, h1, h2, h3⟩ := p.at_ n o e
    exact ⟨v, r, h1, h2, h3.keep s pm fun a ea => k a (by subst ea; exact List.mem_of_getElem? h2)⟩, p.uq⟩
theorem Pool.own_ (p : Pool K F H m os vs rs) {a : Addr} (h : some a ∈ rs) : F a = none ∧ (∃ u, H a = some u) ∧ ∃ n : Nat, rs[n]? = some (some a) ∧ vs[n]? = some (V.ref a) := by
  obtain ⟨n, hn⟩ := List.getElem?_of_mem h
  have lt : n < os.length := by
    have := (List.getElem?_eq_some_iff.mp hn).1
    rw [p.lr] at this; exact this
  obtain ⟨v, r, h1, h2, h3⟩ := p.at_ n os[n] (List.getElem?_eq_getElem lt)
  rw [hn] at h2
  have er : r = some a := (Option.some.inj h2).symm
  subst er
  obtain ⟨q1, q2, q3⟩ := h3.free
  subst q3
  exact ⟨q1, q2, n, hn, h1⟩
/-- another content in the n-th cell, at the same value; its address the same, or none -/
theorem Pool.put (p : Pool K F H m os vs rs) {n : Nat} {o o' : O} {v : V} {r r' : Option Addr} (e : os[n]? = some o) (ev : vs[n]? = some v) (er : rs[n]? = some r) (s : Sub F F') (pm : Pre m m')
    (k : ∀ a, some a ∈ rs → some a ≠ r → F' a = none ∧ ∀ u, H a = some u → H' a = some u) (h : RepO K F' H' m' o' v r') (hr : r' = r ∨ r' = none) : Pool K F' H' m' (os.set n o') vs (rs.set n r') := by
  have lt : n < os.length := (List.getElem?_eq_some_iff.mp e).1
  refine ⟨by rw [List.length_set]; exact p.lv, by rw [List.length_set, List.length_set]; exact p.lr, fun i oi ei => ?_, fun i j a hi hj => ?_⟩
  · by_cases q : n = i
    · subst q
      rw [List.getElem?_set_self lt] at ei
      cases ei
      exact ⟨v, r', ev, List.getElem?_set_self (by rw [p.lr]; exact lt), h⟩
    · rw [List.getElem?_set_ne q] at ei
      obtain ⟨w, t, h1, h2, h3⟩ := p.at_ i oi ei
      refine ⟨w, t, h1, by rw [List.getElem?_set_ne q]; exact h2, h3.keep s pm fun a ea => ?_⟩
      subst ea
      refine k a (List.mem_of_getElem? h2) fun z => q ?_
      exact p.uq n i a (by rw [er, z]) h2
  · have back : ∀ i a, (rs.set n r')[i]? = some (some a) → rs[i]? = some (some a) := fun i a hi => by
      by_cases q : n = i
      · subst q
        rw [List.getElem?_set_self (by rw [p.lr]; exact lt)] at hi
        rcases hr with z | z
        · rw [← z] at er; rw [er]; exact hi
        · rw [z] at hi; cases hi
      · rw [List.getElem?_set_ne q] at hi; exact hi
    exact p.uq i j a (back i a hi) (back j a hj)
theorem Pool.snoc (p : Pool K F H m os vs rs) {o : O} {v : V} {r : Option Addr} (h : RepO K F H m o v r) (hr : ∀ a, r = some a → some a ∉ rs) : Pool K F H m (os ++ [o]) (vs ++ [v]) (rs ++ [r]) := by
  refine ⟨by simp [p.lv], by simp [p.lr], fun i oi ei => ?_, fun i j a hi hj => ?_⟩
  · by_cases q : i < os.length
    · rw [List.getElem?_append_left q] at ei
      obtain ⟨w, t, h1, h2, h3⟩ := p.at_ i oi ei
      exact ⟨w, t, by rw [List.getElem?_append_left (by rw [p.lv]; exact q)]; exact h1, by rw [List.getElem?_append_left (by rw [p.lr]; exact q)]; exact h2, h3⟩
    · rw [List.getElem?_append_right (by omega)] at ei
      have e0 : i - os.length = 0 := by
        cases z : i - os.length with
        | zero => rfl
        | succ k => rw [z] at ei; simp at ei
      rw [e0] at ei
      have eo : o = oi := by simpa using ei
      subst eo
      have ei' : i = os.length := by omega
      subst ei'
      exact ⟨v, r, by rw [List.getElem?_append_right (by rw [p.lv]; exact Nat.le_refl _), p.lv]; simp, by rw [List.getElem?_append_right (by rw [p.lr]; exact Nat.le_refl _), p.lr]; simp, h⟩
  · have back : ∀ i, (rs ++ [r])[i]? = some (some a) → (i < rs.length ∧ rs[i]? = some (some a)) ∨ (i = rs.length ∧ r = some a) := fun i hi => by
      by_cases q : i < rs.length
      · rw [List.getElem?_append_left q] at hi; exact .inl ⟨q, hi⟩
      · rw [List.getElem?_append_right (by omega)] at hi
        have e0 : i - rs.length = 0 := by
          cases z : i - rs.length with
          | zero => rfl
          | succ k => rw [z] at hi; simp at hi
        rw [e0] at hi
        exact .inr ⟨by omega, by simpa using hi⟩
    rcases back i hi with ⟨_, a1⟩ | ⟨a1, a2⟩ <;> rcases back j hj with ⟨_, b1⟩ | ⟨b1, b2⟩
    · exact p.uq i j a a1 b1
    · exact absurd (List.mem_of_getElem? a1) (hr a b2)
    · exact absurd (List.mem_of_getElem? b1) (hr a a2)
    · rw [a1, b1]
theorem Pool.nil : Pool K F H m [] [] [] := ⟨rfl, rfl, fun _ _ e => by simp at e, fun _ _ _ e => by simp at e⟩
theorem Pool.take (p : Pool K F H m os vs rs) (n : Nat) : Pool K F H m (os.take n) (vs.take n) (rs.take n) := by
  refine ⟨by simp [p.lv], by simp [p.lr], fun i o e => ?_, fun i j a hi hj => ?_⟩
  · rw [List.getElem?_take] at e
    split at e
    · rename_i lt
      obtain ⟨v, r, h1, h2, h3⟩ := p.at_ i o e
      exact ⟨v, r, by rw [List.getElem?_take, if_pos lt]; exact h1, by rw [List.getElem?_take, if_pos lt]; exact h2, h3⟩
    · cases e
  · rw [List.getElem?_take] at hi hj
    split at hi <;> split at hj <;> first | exact p.uq i j a hi hj | (cases hi) | (cases hj)
end

section
variable {K : PySem.W.Frag} {g : Gh} {s : S} {σ : L2.St} {H : Hp}
theorem St.own_ (st : St K g s σ H) {a : Addr} (h : g.own a) : g.F a = none ∧ ∃ u, H a = some u := by
  rcases h with h | h
  · obtain ⟨h1, h2, _⟩ := st.ce.own_ h; exact ⟨h1, h2⟩
  · obtain ⟨h1, h2, _⟩ := st.tb.own_ h; exact ⟨h1, h2⟩
/-- the content of a slot -/
def rd (s : S) (i : Nat) : Option D := match s.sl[i]? with
  | some (some (.sh d)) => some d
  | some (some (.pt n)) => (s.ce[n]?).bind O.view
  | _ => none
theorem St.rd_ok (st : St K g s σ H) {i : Nat} {d : D} (e : rd s i = some d) : ∃ v, σ[i]? = some (some v) ∧ Rep K H g.m d v := by
  unfold rd at e
  split at e
  · rename_i q
    cases e
    obtain ⟨v, h1, h2⟩ := st.slot i _ q
    exact ⟨v, h1, Rep.mono st.sub (Pre.refl _) h2⟩
  · rename_i n q
    obtain ⟨v, h1, h2⟩ := st.slot i _ q
    cases ho : s.ce[n]? with
    | none => rw [ho] at e; cases e
    | some o =>
      rw [ho] at e
      obtain ⟨w, r, k1, k2, k3⟩ := st.ce.at_ n o ho
      have ew : v = w := Option.some.inj ((show g.cv[n]? = some v from h2).symm.trans k1)
      subst ew
      exact ⟨v, h1, k3.read e st.sub⟩
  · cases e
/-- something new is frozen -/
def Gh.frz (g : Gh) (H : Hp) (r : Option Addr) : Gh := { g with F := frzF g.F H r }
theorem St.frz (st : St K g s σ H) {r : Option Addr} (hf : ∀ a, r = some a → g.F a = none ∧ ¬ g.own a) : St K (g.frz H r) s σ H := by
  have sb : Sub g.F (frzF g.F H r) := frzF_sub fun a e => (hf a e).1
  refine ⟨frzF_in st.sub, st.len, fun i x e => ?_, st.ce.keep sb (Pre.refl _) fun a ha => ⟨?_, fun _ z => z⟩, st.tb.keep sb (Pre.refl _) fun a ha => ⟨?_, fun _ z => z⟩, st.dj⟩
  · obtain ⟨v, h1, h2⟩ := st.slot i x e
    refine ⟨v, h1, ?_⟩
    cases x with
    | sh d => exact Rep.mono sb (Pre.refl _) h2
    | pt n => exact h2
  · show frzF g.F H r a = none
    rw [frzF_other fun e => (hf a e.symm).2 (.inl ha)]
    exact (st.ce.own_ ha).1
  · show frzF g.F H r a = none
    rw [frzF_other fun e => (hf a e.symm).2 (.inr ha)]
    exact (st.tb.own_ ha).1
theorem Go.frz_ {g g0 : Gh} {H0 H : Hp} (x : Go g0 H0 g H) {r : Option Addr} (hf : ∀ a, r = some a → g.F a = none ∧ (g0.own a ∨ H0 a = none)) : Go g0 H0 (g.frz H r) H :=
  ⟨x.F.trans (frzF_sub fun a e => (hf a e).1), x.m, x.cv, x.keep, x.trk, fun a u h => by
    by_cases e : some a = r
    · exact ((hf a e.symm).2).elim (fun z => .inr (.inr z)) fun z => .inr (.inl z)
    · have h' : g.F a = some u := by
        have h2 : frzF g.F H r a = some u := h
        rw [frzF_other e] at h2; exact h2
      exact x.frz a u h', x.rts⟩
end
end Vs
namespace Vs
open PySem PySem.Spec PyProof.Rows L2

abbrev RRel (α β : Type) := Gh → Hp → Gh → Hp → L2.St → α → β → Prop
/-- an exception at its class, its own dict -/
def RepX (K : PySem.W.Frag) (g : Gh) (H : Hp) (x : Ex) (cls : Value) (dd : Option Addr) : Prop :=
  cls = .ref (He.ga K x.c) ∧ match x.p with
    | none => dd = none
    | some (f, d) => ∃ (a : Addr) (v : V), dd = some a ∧ H a = some (.xd [(f, v)]) ∧ Rep K g.F g.m d v
def exOk (K : PySem.W.Frag) (W : WX) (g : Gh) (σ : L2.St) (H : Hp) (x : Ex) (s' : S) : Prop :=
  ∀ (cls : Value) (dd : Option Addr) (H' : Hp) (g' : Gh), Go g H g' H' → St K g' s' σ H' → RepX K g' H' x cls dd → W cls dd σ H'
def tRun {α β : Type} (K : PySem.W.Frag) (W : WX) (RR : RRel α β) (g0 : Gh) (H0 : Hp) (σ : L2.St) (Q : β → Hp → Prop) : Option (Rs α) → Prop
  | some (.ok a s') => ∀ (v : β) (H' : Hp) (g' : Gh), Go g0 H0 g' H' → St K g' s' σ H' → RR g0 H0 g' H' σ a v → Q v H'
  | some (.ex x s') => exOk K W g0 σ H0 x s'
  | none => False
structure tAt {α β : Type} (K : PySem.W.Frag) (W : WX) (RR : RRel α β) (g0 : Gh) (H0 : Hp) (m : M α) (s : S) (σ : L2.St) (Q : β → Hp → Prop) : Prop where
  run : tRun K W RR g0 H0 σ Q (m s)
def tG {α β : Type} (K : PySem.W.Frag) (W : WX) (RR : RRel α β) (m : M α) : L2.St → Hp → (β → Hp → Prop) → Prop := fun σ H Q =>
  ∃ g s, St K g s σ H ∧ tAt K W RR g H m s σ Q
def bnd {α β : Type} (m : M α) (k : α → M β) : M β := fun s => match m s with
  | some (.ok a s') => k a s'
  | some (.ex x s') => some (.ex x s')
  | none => none
def ret {α : Type} (a : α) : M α := fun s => some (.ok a s)
def look {α : Type} (f : S → Option α) : M α := fun s => match f s with
  | some a => some (.ok a s)
  | none => none
theorem bnd_ok {α β : Type} {m : M α} {k : α → M β} {s s' : S} {a : α} (h : m s = some (.ok a s')) : bnd m k s = k a s' := by unfold bnd; rw [h]
theorem bnd_ex {α β : Type} {m : M α} {k : α → M β} {s s' : S} {x : Ex} (h : m s = some (.ex x s')) : bnd m k s = some (.ex x s') := by unfold bnd; rw [h]
theorem bnd_no {α β : Type} {m : M α} {k : α → M β} {s : S} (h : m s = none) : bnd m k s = none := by unfold bnd; rw [h]
theorem look_ok {α : Type} {f : S → Option α} {s : S} {a : α} (h : f s = some a) : look f s = some (.ok a s) := by unfold look; rw [h]
theorem look_no {α : Type} {f : S → Option α} {s : S} (h : f s = none) : look f s = none := by unfold look; rw [h]
theorem exOk.back {K : PySem.W.Frag} {W : WX} {g g1 : Gh} {σ : L2.St} {H H1 : Hp} {x : Ex} {s' : S} (e : exOk K W g σ H x s') (go : Go g H g1 H1) : exOk K W g1 σ H1 x s' := fun cls dd H' g' y st r => e cls dd H' g' (go.trans y) st r
/-- one step, then the rest -/
theorem seq {α β γ δ : Type} {K : PySem.W.Frag} {W : WX} {RR1 : RRel α β} {RR3 : RRel γ δ} {g0 : Gh} {H0 : Hp} {ma : M α} {k : α → M γ} {s : S} {g : Gh} {σ : L2.St} {H : Hp} {Q : δ → Hp → Prop} {Q1 : β → Hp → Prop} (st : St K g s σ H) (go0 : Go g0 H0 g H) (h : tAt K W RR3 g0 H0 (bnd ma k) s σ Q)
    (hk : ∀ (a : α) (s1 : S) (v : β) (H1 : Hp) (g1 : Gh), Go g H g1 H1 → Go g0 H0 g1 H1 → St K g1 s1 σ H1 → RR1 g H g1 H1 σ a v → tAt K W RR3 g0 H0 (k a) s1 σ Q → Q1 v H1) : tG K W RR1 ma σ H Q1 := by
  refine ⟨g, s, st, ⟨?_⟩⟩
  cases q : ma s with
  | none => have h := h.run; rw [bnd_no q] at h; exact h
  | some r =>
    cases r with
    | ok a s' => exact fun v H' g' go st' r => hk a s' v H' g' go (go0.trans go) st' r ⟨by have h := h.run; rw [bnd_ok q] at h; exact h⟩
    | ex x s' =>
      have h := h.run
      rw [bnd_ex q] at h
      exact exOk.back h go0
theorem tAt.ret {α β : Type} {K : PySem.W.Frag} {W : WX} {RR : RRel α β} {g0 : Gh} {H0 : Hp} {a : α} {s : S} {σ : L2.St} {Q : β → Hp → Prop} (h : tAt K W RR g0 H0 (ret a) s σ Q) {v : β} {H' : Hp} {g' : Gh} (go : Go g0 H0 g' H') (st : St K g' s σ H') (r : RR g0 H0 g' H' σ a v) : Q v H' :=
  h.run v H' g' go st r
theorem tAt.lk {α β γ : Type} {K : PySem.W.Frag} {W : WX} {RR : RRel γ β} {g0 : Gh} {H0 : Hp} {f : S → Option α} {k : α → M γ} {s : S} {σ : L2.St} {Q : β → Hp → Prop} (h : tAt K W RR g0 H0 (bnd (look f) k) s σ Q) : ∃ a, f s = some a ∧ tAt K W RR g0 H0 (k a) s σ Q := by
  cases q : f s with
  | none => have h := h.run; rw [bnd_no (look_no q)] at h; exact h.elim
  | some a => exact ⟨a, rfl, ⟨by have h := h.run; rw [bnd_ok (look_ok q)] at h; exact h⟩⟩
theorem tAt.lkR {β γ : Type} {K : PySem.W.Frag} {W : WX} {RR : RRel γ β} {g0 : Gh} {H0 : Hp} {f : S → Option γ} {s : S} {σ : L2.St} {Q : β → Hp → Prop} (h : tAt K W RR g0 H0 (look f) s σ Q) : ∃ a, f s = some a ∧ tAt K W RR g0 H0 (Vs.ret a) s σ Q := by
  cases q : f s with
  | none => have h := h.run; rw [look_no q] at h; exact h.elim
  | some a => exact ⟨a, rfl, ⟨by have h := h.run; rw [look_ok q] at h; exact h⟩⟩

def rD (K : PySem.W.Frag) : RRel D V := fun _ _ g' _ _ d v => Rep K g'.F g'.m d v
def rO (K : PySem.W.Frag) : RRel O V := fun g H g' H' _ o v => ∃ r, RepO K g'.F H' g'.m o v r ∧ ∀ a, r = some a → ¬ g'.own a ∧ (g.own a ∨ H a = none)
def rB : RRel Bool Bool := fun _ _ _ _ _ a b => a = b
inductive Ref where
  | sl (i : Nat) | va (d : D)
def rR (K : PySem.W.Frag) : RRel Ref V := fun _ _ g' _ σ r v => match r with
  | .sl i => σ[i]? = some (some v)
  | .va d => Rep K g'.F g'.m d v
abbrev VD (X : Cx) (W : WX) (e : Expr) (m : M D) : Prop := PE X e (tG X.K W (rD X.K) m)
abbrev VF (X : Cx) (W : WX) (e : Expr) (m : M O) : Prop := PE X e (tG X.K W (rO X.K) m)
abbrev VR (X : Cx) (W : WX) (e : Expr) (m : M Ref) : Prop := PE X e (tG X.K W (rR X.K) m)
abbrev VT (X : Cx) (W : WX) (e : Expr) (m : M Bool) : Prop := PT X e (tG X.K W rB m)
abbrev VW (X : Cx) (W : WX) (e : Expr) (m : M Bool) : Prop := PW X e (tG X.K W rB m)
def view (s : S) : Ref → Option D
  | .sl i => rd s i
  | .va d => some d
theorem pe_imp {X : Cx} {e : Expr} {t t' : TE} (h : PE X e t) (i : ∀ σ H Q, t' σ H Q → t σ H Q) : PE X e t' := ⟨fun pins s σ H Q I q => h.run pins s σ H Q I (i _ _ _ q)⟩
theorem pt_imp {X : Cx} {e : Expr} {t t' : TT} (h : PT X e t) (i : ∀ σ H Q, t' σ H Q → t σ H Q) : PT X e t' := ⟨fun pins s σ H Q I q => h.run pins s σ H Q I (i _ _ _ q)⟩
theorem pw_imp {X : Cx} {e : Expr} {t t' : TT} (h : PW X e t) (i : ∀ σ H Q, t' σ H Q → t σ H Q) : PW X e t' := ⟨fun wh pins s σ H Q I q => h.run wh pins s σ H Q I (i _ _ _ q)⟩

/-- root read in H, what is within in F -/
inductive RepT (K : PySem.W.Frag) (F H : Hp) (m : List Addr) : D → V → Prop
  | sh {d : D} {v : V} : Rep K F m d v → RepT K F H m d v
  | ce {o : O} {v : V} {r : Option Addr} {d : D} : RepO K F H m o v r → o.view = some d → RepT K F H m d v
theorem St.rd_t {K : PySem.W.Frag} {g : Gh} {s : S} {σ : L2.St} {H : Hp} (st : St K g s σ H) {i : Nat} {d : D} {v : V} (e : rd s i = some d) (ev : σ[i]? = some (some v)) : RepT K g.F H g.m d v := by
  unfold rd at e
  split at e
  · rename_i q
    cases e
    obtain ⟨w, h1, h2⟩ := st.slot i _ q
    have : v = w := Option.some.inj (Option.some.inj (ev.symm.trans h1))
    subst this
    exact .sh h2
  · rename_i n q
    obtain ⟨w, h1, h2⟩ := st.slot i _ q
    have : v = w := Option.some.inj (Option.some.inj (ev.symm.trans h1))
    subst this
    cases ho : s.ce[n]? with
    | none => rw [ho] at e; cases e
    | some o =>
      rw [ho] at e
      obtain ⟨w, r, k1, k2, k3⟩ := st.ce.at_ n o ho
      have ew : v = w := Option.some.inj ((show g.cv[n]? = some v from h2).symm.trans k1)
      subst ew
      exact .ce k3 e
  · cases e
theorem view_t {K : PySem.W.Frag} {g1 g : Gh} {s : S} {σ : L2.St} {H1 H : Hp} {r : Ref} {d : D} {v : V} {ga : Gh} {Ha : Hp} (st : St K g s σ H) (go : Go g1 H1 g H) (hr : rR K ga Ha g1 H1 σ r v) (e : view s r = some d) : RepT K g.F H g.m d v := by
  cases r with
  | sl i => exact st.rd_t e hr
  | va d' =>
    cases e
    exact .sh (Rep.go hr go)
section
variable {K : PySem.W.Frag} {F H : Hp} {m : List Addr}
theorem RepT.rep (h : RepT K F H m d v) (s : Sub F H) : Rep K H m d v := by
  cases h with
  | sh q => exact q.mono s (Pre.refl _)
  | ce q e => exact q.read e s
theorem RepT.int_ {i : Int} {v : V} (h : RepT K F H m (.int i) v) : v = .int i := by
  generalize e : D.int i = d at h
  cases h with
  | sh q => subst e; cases q; rfl
  | ce q e2 => subst e; cases q with
    | sh q => cases e2; cases q; rfl
    | _ => cases e2
theorem RepT.bl_ {b : Bool} {v : V} (h : RepT K F H m (.bl b) v) : v = .bl b := by
  generalize e : D.bl b = d at h
  cases h with
  | sh q => subst e; cases q; rfl
  | ce q e2 => subst e; cases q with
    | sh q => cases e2; cases q; rfl
    | _ => cases e2
theorem RepT.str_ {x : Str} {v : V} (h : RepT K F H m (.str x) v) : v = .str x := by
  generalize e : D.str x = d at h
  cases h with
  | sh q => subst e; cases q; rfl
  | ce q e2 => subst e; cases q with
    | sh q => cases e2; cases q; rfl
    | _ => cases e2
theorem RepT.non_ {v : V} (h : RepT K F H m .non v) : v = .non := by
  generalize e : D.non = d at h
  cases h with
  | sh q => subst e; cases q; rfl
  | ce q e2 => subst e; cases q with
    | sh q => cases e2; cases q; rfl
    | _ => cases e2
theorem RepT.lst_ {ds : List D} {v : V} (s : Sub F H) (h : RepT K F H m (.lst ds) v) : ∃ a xs, v = .ref a ∧ H a = some (.lst xs) ∧ RepL K F m ds xs := by
  generalize e : D.lst ds = d at h
  cases h with
  | sh q => subst e; cases q with | lst h1 h2 => exact ⟨_, _, rfl, s.lst _ _ h1, h2⟩
  | ce q e2 => subst e; cases q with
    | sh q => cases e2; cases q with | lst h1 h2 => exact ⟨_, _, rfl, s.lst _ _ h1, h2⟩
    | ol h1 h2 h3 => cases e2; exact ⟨_, _, rfl, h2, h3⟩
    | ok h1 h2 h3 => cases e2
    | ot h1 h2 h3 => cases e2
    | oi h1 h2 h3 => cases e2
    | gone => cases e2
theorem RepT.rl_ {ds : List D} {v : V} (s : Sub F H) (h : RepT K F H m (.rl ds) v) : ∃ a xs, v = .ref a ∧ SqL K H a xs ∧ RepL K F m ds xs := by
  generalize e : D.rl ds = d at h
  cases h with
  | sh q => subst e; cases q with | rl h1 h2 => exact ⟨_, _, rfl, s.sqL h1, h2⟩
  | ce q e2 => subst e; cases q with
    | sh q => cases e2; cases q with | rl h1 h2 => exact ⟨_, _, rfl, s.sqL h1, h2⟩
    | _ => cases e2
theorem RepT.tup_ {ds : List D} {v : V} (s : Sub F H) (h : RepT K F H m (.tup ds) v) : ∃ a xs, v = .ref a ∧ H a = some (.tup xs) ∧ RepL K F m ds xs := by
  generalize e : D.tup ds = d at h
  cases h with
  | sh q => subst e; cases q with | tup h1 h2 => exact ⟨_, _, rfl, s.tup _ _ h1, h2⟩
  | ce q e2 => subst e; cases q with
    | sh q => cases e2; cases q with | tup h1 h2 => exact ⟨_, _, rfl, s.tup _ _ h1, h2⟩
    | _ => cases e2
theorem RepT.ct_ {ds : List D} {v : V} (s : Sub F H) (h : RepT K F H m (.ct ds) v) : ∃ a xs, v = .ref a ∧ SqT K H a xs ∧ RepL K F m ds xs := by
  generalize e : D.ct ds = d at h
  cases h with
  | sh q => subst e; cases q with | ct h1 h2 => exact ⟨_, _, rfl, s.sqT h1, h2⟩
  | ce q e2 => subst e; cases q with
    | sh q => cases e2; cases q with | ct h1 h2 => exact ⟨_, _, rfl, s.sqT h1, h2⟩
    | _ => cases e2
theorem RepT.tupF {ds : List D} {v : V} (h : RepT K F H m (.tup ds) v) : Rep K F m (.tup ds) v := by
  generalize e : D.tup ds = d at h
  cases h with
  | sh q => subst e; exact q
  | ce q e2 => subst e; cases q with
    | sh q => cases e2; exact q
    | _ => cases e2
theorem RepT.dk_ {ds : List (Key × D)} {v : V} (s : Sub F H) (h : RepT K F H m (.dk ds) v) : ∃ a xs, v = .ref a ∧ Rd H a (.dK xs) ∧ RepP K F m ds xs := by
  generalize e : D.dk ds = d at h
  cases h with
  | sh q => subst e; cases q with | dk h1 h2 => exact ⟨_, _, rfl, s.rd _ _ h1, h2⟩
  | ce q e2 => subst e; cases q with
    | sh q => cases e2; cases q with | dk h1 h2 => exact ⟨_, _, rfl, s.rd _ _ h1, h2⟩
    | ol h1 h2 h3 => cases e2
    | ok h1 h2 h3 => cases e2; exact ⟨_, _, rfl, .inl h2, h3⟩
    | ot h1 h2 h3 => cases e2
    | oi h1 h2 h3 => cases e2
    | gone => cases e2
theorem RepT.dt_ {ds : List (List Key × D)} {v : V} (s : Sub F H) (h : RepT K F H m (.dt ds) v) : ∃ a xs, v = .ref a ∧ Rd H a (.dT xs) ∧ RepP K F m ds xs := by
  generalize e : D.dt ds = d at h
  cases h with
  | sh q => subst e; cases q with | dt h1 h2 => exact ⟨_, _, rfl, s.rd _ _ h1, h2⟩
  | ce q e2 => subst e; cases q with
    | sh q => cases e2; cases q with | dt h1 h2 => exact ⟨_, _, rfl, s.rd _ _ h1, h2⟩
    | ol h1 h2 h3 => cases e2
    | ok h1 h2 h3 => cases e2
    | ot h1 h2 h3 => cases e2; exact ⟨_, _, rfl, .inl h2, h3⟩
    | oi h1 h2 h3 => cases e2
    | gone => cases e2
theorem RepT.ins_ {c : Str} {ds : List (Str × D)} {v : V} (s : Sub F H) (h : RepT K F H m (.ins c ds) v) : ∃ a dx xs, v = .ref a ∧ H a = some (.ins (He.ga K c) dx xs) ∧ RepP K F m ds xs := by
  generalize e : D.ins c ds = d at h
  cases h with
  | sh q => subst e; cases q with | ins h1 h2 => exact ⟨_, _, _, rfl, s.ins _ _ _ _ h1, h2⟩
  | ce q e2 => subst e; cases q with
    | sh q => cases e2; cases q with | ins h1 h2 => exact ⟨_, _, _, rfl, s.ins _ _ _ _ h1, h2⟩
    | ol h1 h2 h3 => cases e2
    | ok h1 h2 h3 => cases e2
    | ot h1 h2 h3 => cases e2
    | oi h1 h2 h3 => cases e2; exact ⟨_, _, _, rfl, h2, h3⟩
    | gone => cases e2
end

/-- what an operation has made: nothing new, a new tuple, a new list, a new dict -/
inductive Mk (K : PySem.W.Frag) (F H : Hp) (m : List Addr) : O → V → Hp → Prop
  | sh {d : D} {w : V} : Rep K F m d w → Mk K F H m (.sh d) w H
  | tup {p : Addr} {ds : List D} {xs : List V} : H p = none → RepL K F m ds xs → Mk K F H m (.sh (.tup ds)) (.ref p) (upd H p (.tup xs))
  | ol {p : Addr} {ds : List D} {xs : List V} : H p = none → RepL K F m ds xs → Mk K F H m (.ol ds) (.ref p) (upd H p (.lst xs))
  | ok {p : Addr} {ds : List (Key × D)} {xs : List (Key × V)} : H p = none → RepP K F m ds xs → Mk K F H m (.ok ds) (.ref p) (upd H p (.dK xs))
  | ot {p : Addr} {ds : List (List Key × D)} {xs : List (List Key × V)} : H p = none → RepP K F m ds xs → Mk K F H m (.ot ds) (.ref p) (upd H p (.dT xs))
section
variable {K : PySem.W.Frag} {g : Gh} {s : S} {σ : L2.St} {H : Hp}
theorem free_of (sb : Sub g.F H) {p : Addr} (h : H p = none) : g.F p = none := by
  cases q : g.F p with
  | none => rfl
  | some u =>
    rcases sb.rd p u (.inl q) with z | ⟨_, z⟩ <;> (rw [h] at z; cases z)
theorem St.new (st : St K g s σ H) {p : Addr} {u : HO} (h : H p = none) : St K g s σ (upd H p u) := by
  have ne : ∀ a, g.own a → a ≠ p := fun a ha e => by
    subst e
    obtain ⟨_, _, z⟩ := st.own_ ha
    rw [h] at z; cases z
  refine ⟨st.sub.trans (Sub.upd h), st.len, st.slot, st.ce.keep (Sub.refl _) (Pre.refl _) fun a ha => ⟨(st.ce.own_ ha).1, fun u z => ?_⟩, st.tb.keep (Sub.refl _) (Pre.refl _) fun a ha => ⟨(st.tb.own_ ha).1, fun u z => ?_⟩, st.dj⟩
  · rw [upd_ne (ne a (.inl ha))]; exact z
  · rw [upd_ne (ne a (.inr ha))]; exact z
theorem Go.new {g0 : Gh} {H0 : Hp} (x : Go g0 H0 g H) {p : Addr} {u : HO} (h : H p = none) : Go g0 H0 g (upd H p u) :=
  ⟨x.F, x.m, x.cv, fun a o e n f => by rw [upd_ne (ne_of_none (x.keep a o e n f) h)]; exact x.keep a o e n f, fun a e => by
    by_cases q : a = p
    · subst q; rw [upd_same]; exact fun z => nomatch z
    · rw [upd_ne q]; exact x.trk a e, x.frz, x.rts⟩
theorem not_own (st : St K g s σ H) {p : Addr} (h : H p = none) : ¬ g.own p := fun z => by
  obtain ⟨_, _, q⟩ := st.own_ z
  rw [h] at q; cases q
/-- behind a making -/
theorem Mk.done {g0 : Gh} {H0 : Hp} {o : O} {w : V} {H' : Hp} (mk : Mk K g.F H g.m o w H') (st : St K g s σ H) (go : Go g0 H0 g H) : ∃ g', Go g0 H0 g' H' ∧ St K g' s σ H' ∧ rO K g0 H0 g' H' σ o w := by
  cases mk with
  | sh r => exact ⟨g, go, st, none, .sh r, fun a e => nomatch e⟩
  | @tup p ds xs h r =>
    have fr := free_of st.sub h
    have nw := not_own st h
    have h0 : g0.own p ∨ H0 p = none := by
      by_cases q : g0.own p
      · exact .inl q
      · cases z : H0 p with
        | none => exact .inr rfl
        | some o => exact absurd h (go.trk p (by rw [z]; exact fun y => nomatch y))
    have st1 := st.new (u := .tup xs) h
    refine ⟨g.frz (upd H p (.tup xs)) (some p), (go.new h).frz_ fun a e => ?_, st1.frz fun a e => ?_, none, .sh ?_, fun a e => nomatch e⟩
    · cases e; exact ⟨fr, h0⟩
    · cases e; exact ⟨fr, nw⟩
    · refine .tup ?_ (r.mono (frzF_sub fun a e => by cases e; exact fr) (Pre.refl _))
      show frzF g.F (upd H p (.tup xs)) (some p) p = _
      unfold frzF
      rw [if_pos rfl, upd_same]
  | @ol p ds xs h r =>
    have h0 : g0.own p ∨ H0 p = none := by
      by_cases q : g0.own p
      · exact .inl q
      · cases z : H0 p with
        | none => exact .inr rfl
        | some o => exact absurd h (go.trk p (by rw [z]; exact fun y => nomatch y))
    exact ⟨g, go.new h, st.new h, some p, .ol (free_of st.sub h) upd_same r, fun a e => by cases e; exact ⟨not_own st h, h0⟩⟩
  | @ok p ds xs h r =>
    have h0 : g0.own p ∨ H0 p = none := by
      by_cases q : g0.own p
      · exact .inl q
      · cases z : H0 p with
        | none => exact .inr rfl
        | some o => exact absurd h (go.trk p (by rw [z]; exact fun y => nomatch y))
    exact ⟨g, go.new h, st.new h, some p, .ok (free_of st.sub h) upd_same r, fun a e => by cases e; exact ⟨not_own st h, h0⟩⟩
  | @ot p ds xs h r =>
    have h0 : g0.own p ∨ H0 p = none := by
      by_cases q : g0.own p
      · exact .inl q
      · cases z : H0 p with
        | none => exact .inr rfl
        | some o => exact absurd h (go.trk p (by rw [z]; exact fun y => nomatch y))
    exact ⟨g, go.new h, st.new h, some p, .ot (free_of st.sub h) upd_same r, fun a e => by cases e; exact ⟨not_own st h, h0⟩⟩
end
end Vs
namespace Vs
open PySem PySem.Spec PyProof.Rows L2

def mFrz (m : M O) : M D := bnd m fun o => look fun _ => o.view
def mSh (m : M D) : M O := bnd m fun d => ret (.sh d)
def mVa (m : M D) : M Ref := bnd m fun d => ret (.va d)
section
variable {X : Cx} {W : WX} {e a b c : Expr} {pos : Pos}
theorem vd_vf {m : M O} (h : VF X W e m) : VD X W e (mFrz m) := pe_imp h fun σ H Q ⟨g, s, st, q⟩ => seq st (Go.refl g H) q fun o s1 v H1 g1 go _ st1 ⟨r, ro, fr⟩ hk => by
  have fF : ∀ a, r = some a → g1.F a = none := fun a ea => by subst ea; exact ro.free.1
  obtain ⟨d, h1, h2⟩ := hk.lkR
  exact tAt.ret h2 (v := v) (g' := g1.frz H1 r) (go.frz_ fun a ea => ⟨fF a ea, (fr a ea).2⟩) (st1.frz fun a ea => ⟨fF a ea, (fr a ea).1⟩) (ro.frozen h1)
theorem vf_vd {m : M D} (h : VD X W e m) : VF X W e (mSh m) := pe_imp h fun σ H Q ⟨g, s, st, q⟩ => seq st (Go.refl g H) q fun d s1 v H1 g1 go _ st1 r hk =>
  tAt.ret hk go st1 ⟨none, .sh r, fun a e => nomatch e⟩
theorem vr_vd {m : M D} (h : VD X W e m) : VR X W e (mVa m) := pe_imp h fun σ H Q ⟨g, s, st, q⟩ => seq st (Go.refl g H) q fun d s1 v H1 g1 go _ st1 r hk =>
  tAt.ret (RR := rR X.K) hk go st1 r
def mSl (i : Nat) : M Ref := look fun s => match s.sl[i]? with
  | some (some _) => some (.sl i)
  | _ => none
theorem vr_name (i : Nat) (h : PE X e (tVar i)) : VR X W e (mSl i) := pe_imp h fun σ H Q ⟨g, s, st, q⟩ => by
  obtain ⟨r, h1, h2⟩ := q.lkR
  split at h1
  · rename_i x hx
    cases h1
    obtain ⟨v, hv, _⟩ := st.slot i x hx
    exact ⟨v, hv, h2.ret (v := v) (g' := g) (Go.refl g H) st hv⟩
  · cases h1
/-- the name's tree; a cell is frozen -/
def mName (i : Nat) : M D := fun s => match s.sl[i]? with
  | some (some (.sh d)) => some (.ok d s)
  | some (some (.pt n)) => match (s.ce[n]?).bind O.view with
    | some d => some (.ok d { s with ce := s.ce.set n (.sh d) })
    | none => none
  | _ => none
theorem St.freeze {K : PySem.W.Frag} {g : Gh} {s : S} {σ : L2.St} {H : Hp} (st : St K g s σ H) {n : Nat} {o : O} {d : D} (e : s.ce[n]? = some o) (eo : o.view = some d) : ∃ g' v, g.cv[n]? = some v ∧ Go g H g' H ∧ St K g' { s with ce := s.ce.set n (.sh d) } σ H ∧ Rep K g'.F g'.m d v := by
  obtain ⟨v, r, h1, h2, h3⟩ := st.ce.at_ n o e
  have fF : ∀ a, r = some a → g.F a = none := fun a ea => by subst ea; exact h3.free.1
  have ow : ∀ a, r = some a → g.own a := fun a ea => .inl (by subst ea; exact List.mem_of_getElem? h2)
  have sb : Sub g.F (frzF g.F H r) := frzF_sub fF
  have mem_back : ∀ a, some a ∈ g.Rs.set n none → some a ∈ g.Rs ∧ some a ≠ r := fun a ha => by
    obtain ⟨i, hi⟩ := List.getElem?_of_mem ha
    by_cases q : n = i
    · subst q
      have lt : n < g.Rs.length := (List.getElem?_eq_some_iff.mp h2).1
      rw [List.getElem?_set_self lt] at hi
      cases hi
    · rw [List.getElem?_set_ne q] at hi
      refine ⟨List.mem_of_getElem? hi, fun z => q (st.ce.uq n i a (by rw [h2, z]) hi)⟩
  refine ⟨{ g with F := frzF g.F H r, Rs := g.Rs.set n none }, v, h1, ⟨sb, Pre.refl _, fun _ _ z => z, fun _ _ z _ _ => z, fun _ z => z, fun a u z => ?_, fun a z => .inl (z.elim (fun z => .inl (mem_back a z).1) .inr)⟩, ⟨frzF_in st.sub, st.len, fun i x ei => ?_, ?_, ?_, fun a z1 z2 => st.dj a (mem_back a z1).1 z2⟩, h3.frozen eo⟩
  · by_cases q : some a = r
    · exact .inr (.inr (ow a q.symm))
    · have z' : frzF g.F H r a = some u := z
      rw [frzF_other q] at z'
      exact .inl (by rw [z']; exact fun y => nomatch y)
  · obtain ⟨w, k1, k2⟩ := st.slot i x ei
    refine ⟨w, k1, ?_⟩
    cases x with
    | sh d => exact Rep.mono sb (Pre.refl _) k2
    | pt n => exact k2
  · refine st.ce.put (F' := frzF g.F H r) e h1 h2 sb (Pre.refl _) (fun a ha ne => ⟨?_, fun _ z => z⟩) (.sh (h3.frozen eo)) (.inr rfl)
    rw [frzF_other ne]; exact (st.ce.own_ ha).1
  · refine st.tb.keep sb (Pre.refl _) fun a ha => ⟨?_, fun _ z => z⟩
    show frzF g.F H r a = none
    rw [frzF_other fun z => ?_]
    · exact (st.tb.own_ ha).1
    · subst z; exact st.dj a (List.mem_of_getElem? h2) ha
theorem vd_name (i : Nat) (h : PE X e (tVar i)) : VD X W e (mName i) := pe_imp h fun σ H Q ⟨g, s, st, q⟩ => by
  have q := q.run
  unfold mName at q
  split at q
  · rename_i d hx
    obtain ⟨v, hv, r⟩ := st.slot i _ hx
    exact ⟨v, hv, q v H g (Go.refl g H) st r⟩
  · rename_i n hx
    split at q
    · rename_i d hd
      obtain ⟨o, ho, eo⟩ := Option.bind_eq_some_iff.mp hd
      obtain ⟨v, hv, r⟩ := st.slot i _ hx
      obtain ⟨g', w, k1, k2, k3, k4⟩ := st.freeze ho eo
      have ew : w = v := Option.some.inj (k1.symm.trans r)
      subst ew
      exact ⟨w, hv, q w H g' k2 k3 k4⟩
    · exact q.elim
  · exact q.elim
theorem vd_c {d : D} {v : V} (h : PE X e (tC v)) (r : ∀ F m, Rep X.K F m d v) : VD X W e (ret d) := pe_imp h fun σ H Q ⟨g, s, st, q⟩ => q.ret (v := v) (Go.refl g H) st (r _ _)
theorem vd_int {i j pos} : VD X W (.Constant (.int i) j pos) (ret (.int i)) := vd_c pe_int fun _ _ => .int i
theorem vd_bl {b j pos} : VD X W (.Constant (.bool b) j pos) (ret (.bl b)) := vd_c pe_bl fun _ _ => .bl b
theorem vd_non {j pos} : VD X W (.Constant .none j pos) (ret .non) := vd_c pe_non fun _ _ => .non
theorem vd_str {x j pos} : VD X W (.Constant (.str x) j pos) (ret (.str x)) := vd_c pe_str fun _ _ => .str x

def Op1 (K : PySem.W.Frag) (r : V → Hp → VK → Prop) (f : D → Option O) : Prop := ∀ (F H : Hp) (m : List Addr) (x : D) (o : O) (v : V), Sub F H → f x = some o → RepT K F H m x v → ∀ Q : VK, (∀ w H', Mk K F H m o w H' → Q w H') → r v H Q
def Op2 (K : PySem.W.Frag) (r : R2) (f : D → D → Option O) : Prop := ∀ (F H : Hp) (m : List Addr) (x y : D) (o : O) (v u : V), Sub F H → f x y = some o → RepT K F H m x v → RepT K F H m y u → ∀ Q : VK, (∀ w H', Mk K F H m o w H' → Q w H') → r v u H Q
def op1 (f : D → Option O) (ma : M Ref) : M O := bnd ma fun r => look fun s => (view s r).bind f
def op2 (f : D → D → Option O) (ma mb : M Ref) : M O := bnd ma fun r => bnd mb fun q => look fun s => (view s r).bind fun x => (view s q).bind fun y => f x y
theorem tun_imp {K : PySem.W.Frag} {r : V → Hp → VK → Prop} {f : D → Option O} {ma : M Ref} (hs : Op1 K r f) (σ : L2.St) (H : Hp) (Q : VK) (h : tG K W (rO K) (op1 f ma) σ H Q) : tUn r (tG K W (rR K) ma) σ H Q := by
  obtain ⟨g, s, st, q⟩ := h
  refine seq st (Go.refl g H) q fun ra s1 v H1 g1 _ go st1 rr hk => ?_
  obtain ⟨o, h1, h2⟩ := hk.lkR
  obtain ⟨x, hx, hf⟩ := Option.bind_eq_some_iff.mp h1
  refine hs g1.F H1 g1.m x o v st1.sub hf (view_t st1 (Go.refl g1 H1) rr hx) Q fun w H' mk => ?_
  obtain ⟨g', go', st', ro⟩ := mk.done st1 go
  exact h2.ret go' st' ro
theorem top_imp {K : PySem.W.Frag} {r : R2} {f : D → D → Option O} {ma mb : M Ref} (hs : Op2 K r f) (σ : L2.St) (H : Hp) (Q : VK) (h : tG K W (rO K) (op2 f ma mb) σ H Q) : tOp r (tG K W (rR K) ma) (tG K W (rR K) mb) σ H Q := by
  obtain ⟨g, s, st, q⟩ := h
  refine seq st (Go.refl g H) q fun ra s1 v H1 g1 _ go st1 rr hk => ?_
  refine seq st1 go hk fun rb s2 u H2 g2 go12 go2 st2 rr2 hk2 => ?_
  obtain ⟨o, h1, h2⟩ := hk2.lkR
  obtain ⟨x, hx, hf⟩ := Option.bind_eq_some_iff.mp h1
  obtain ⟨y, hy, hf⟩ := Option.bind_eq_some_iff.mp hf
  refine hs g2.F H2 g2.m x y o v u st2.sub hf (view_t st2 go12 rr hx) (view_t st2 (Go.refl g2 H2) rr2 hy) Q fun w H' mk => ?_
  obtain ⟨g', go', st', ro⟩ := mk.done st2 go2
  exact h2.ret go' st' ro
variable {ma mb : M Ref}
theorem vf_op {op : Operator} {r : R2} {f : D → D → Option O} (ho : OpR X (binaryOp op) r) (hs : Op2 X.K r f) (ha : VR X W a ma) (hb : VR X W b mb) : VF X W (.BinOp a op b pos) (op2 f ma mb) :=
  pe_imp (pe_op ho ha hb) fun σ H Q h => top_imp hs σ H Q h
theorem vf_un {op : UnaryOp} {r : V → Hp → VK → Prop} {f : D → Option O} (ho : UnR X (unaryOp op) r) (hs : Op1 X.K r f) (ha : VR X W a ma) : VF X W (.UnaryOp op a pos) (op1 f ma) :=
  pe_imp (pe_un ho ha) fun σ H Q h => tun_imp hs σ H Q h
theorem vf_cmp {op : CmpOp} {r : R2} {f : D → D → Option O} (ho : OpR X (compareOp op) r) (hs : Op2 X.K r f) (ha : VR X W a ma) (hb : VR X W b mb) (hm : behindInMarks op b = false) : VF X W (.Compare a [op] [b] pos) (op2 f ma mb) :=
  pe_imp (pe_cmpR ho ha hb hm) fun σ H Q h => top_imp hs σ H Q h
theorem vf_ix {r : R2} {f : D → D → Option O} (hr : IxR X r) (hs : Op2 X.K r f) (ha : VR X W a ma) (hb : VR X W b mb) (hp : PlainIx b) : VF X W (.Subscript a b pos) (op2 f ma mb) :=
  pe_imp (pe_ix hr ha hb hp) fun σ H Q h => top_imp hs σ H Q h
/-- a comparison as a test -/
def mT (m : M O) : M Bool := bnd m fun o => look fun _ => match o with
  | .sh (.bl b) => some b
  | _ => none
theorem vt_cmp {op : CmpOp} {r : R2} {f : D → D → Option O} (ho : OpR X (compareOp op) r) (hs : Op2 X.K r f) (ha : VR X W a ma) (hb : VR X W b mb) (hm : behindInMarks op b = false) : VT X W (.Compare a [op] [b] pos) (mT (op2 f ma mb)) :=
  pt_imp (pt_cmpR ho ha hb hm) fun σ H Q ⟨g, s, st, q⟩ => top_imp hs σ H _ (seq st (Go.refl g H) q fun o s1 v H1 g1 _ go st1 ro hk => by
    obtain ⟨b, h1, h2⟩ := hk.lkR
    split at h1
    · cases h1
      obtain ⟨r, h3, _⟩ := ro
      cases h3 with
      | sh h3 => cases h3; exact ⟨_, rfl, h2.ret go st1 rfl⟩
    · cases h1)
end
end Vs
namespace Vs
open PySem PySem.Spec PyProof.Rows L2
section
variable {X : Cx} {W : WX} {e a b c : Expr} {pos : Pos} {rest es : List Expr}

def mAnd (ma mb : M Bool) : M Bool := bnd ma fun c => if c = true then mb else ret false
def mOr (ma mb : M Bool) : M Bool := bnd ma fun c => if c = true then ret true else mb
def mNot (ma : M Bool) : M Bool := bnd ma fun c => ret (!c)
def mIf {α : Type} (mt : M Bool) (ma mb : M α) : M α := bnd mt fun c => if c = true then ma else mb
theorem vw_and1 {ma : M Bool} (ha : VT X W a ma) : VW X W (.BoolOp .And [a] pos) ma := pw_and1 ha
theorem vw_or1 {ma : M Bool} (ha : VT X W a ma) : VW X W (.BoolOp .Or [a] pos) ma := pw_or1 ha
theorem vw_and {ma mb : M Bool} (ha : VT X W a ma) (hb : VW X W (.BoolOp .And (b :: rest) pos) mb) : VW X W (.BoolOp .And (a :: b :: rest) pos) (mAnd ma mb) :=
  pw_imp (pw_and ha hb) fun σ H Q ⟨g, s, st, q⟩ => seq st (Go.refl g H) q fun c s1 v H1 g1 _ go st1 r hk => by
    subst r
    cases c with
    | true => exact ⟨g1, s1, st1, ⟨by
        have h := hk.run
        rw [if_pos rfl] at h
        cases z : mb s1 with
        | none => rw [z] at h; exact h
        | some rr => cases rr with
          | ok d s2 => rw [z] at h; exact fun v H' g' y st2 r2 => h v H' g' (go.trans y) st2 r2
          | ex x s2 => rw [z] at h; exact exOk.back h go⟩⟩
    | false => exact tAt.ret (a := false) (RR := rB) (by exact hk) go st1 rfl
theorem vw_or {ma mb : M Bool} (ha : VT X W a ma) (hb : VW X W (.BoolOp .Or (b :: rest) pos) mb) : VW X W (.BoolOp .Or (a :: b :: rest) pos) (mOr ma mb) :=
  pw_imp (pw_or ha hb) fun σ H Q ⟨g, s, st, q⟩ => seq st (Go.refl g H) q fun c s1 v H1 g1 _ go st1 r hk => by
    subst r
    cases c with
    | true => exact tAt.ret (a := true) (RR := rB) (by exact hk) go st1 rfl
    | false => exact ⟨g1, s1, st1, ⟨by
        have h := hk.run
        rw [if_neg Bool.false_ne_true] at h
        cases z : mb s1 with
        | none => rw [z] at h; exact h
        | some rr => cases rr with
          | ok d s2 => rw [z] at h; exact fun v H' g' y st2 r2 => h v H' g' (go.trans y) st2 r2
          | ex x s2 => rw [z] at h; exact exOk.back h go⟩⟩
/-- what is left, from a later moment -/
theorem tAt.later {α β : Type} {K : PySem.W.Frag} {RR : RRel α β} {g0 g : Gh} {H0 H : Hp} {m : M α} {s : S} {σ : L2.St} {Q : β → Hp → Prop} (h : tAt K W RR g0 H0 m s σ Q) (go : Go g0 H0 g H) (rr : ∀ g' H' a v, Go g H g' H' → RR g H g' H' σ a v → RR g0 H0 g' H' σ a v) : tAt K W RR g H m s σ Q := ⟨by
  have h := h.run
  cases z : m s with
  | none => rw [z] at h; exact h
  | some r => cases r with
    | ok d s2 => rw [z] at h; exact fun v H' g' y st2 r2 => h v H' g' (go.trans y) st2 (rr g' H' d v y r2)
    | ex x s2 => rw [z] at h; exact exOk.back h go⟩
theorem rO_back {K : PySem.W.Frag} {g0 g : Gh} {H0 H : Hp} {σ : L2.St} (go : Go g0 H0 g H) : ∀ g' H' a v, Go g H g' H' → rO K g H g' H' σ a v → rO K g0 H0 g' H' σ a v := fun g' H' a v _ ⟨r, h1, h2⟩ => ⟨r, h1, fun p e => ⟨(h2 p e).1, by
  rcases (h2 p e).2 with z | z
  · exact go.rts p z
  · cases q : H0 p with
    | none => exact .inr rfl
    | some o => exact absurd z (go.trk p (by rw [q]; exact fun y => nomatch y))⟩⟩
theorem vt_not {ma : M Bool} (ha : VT X W a ma) : VT X W (.UnaryOp .Not a pos) (mNot ma) :=
  pt_imp (pt_not ha) fun σ H Q ⟨g, s, st, q⟩ => seq st (Go.refl g H) q fun c s1 v H1 g1 _ go st1 r hk => by
    subst r
    exact tAt.ret (RR := rB) hk go st1 rfl
theorem vf_if {mt : M Bool} {ma mb : M O} (hc : VT X W c mt) (ha : VF X W a ma) (hb : VF X W b mb) : VF X W (.IfExp c a b pos) (mIf mt ma mb) :=
  pe_imp (pe_ifExp hc ha hb) fun σ H Q ⟨g, s, st, q⟩ => seq st (Go.refl g H) q fun c s1 v H1 g1 _ go st1 r hk => by
    subst r
    cases c with
    | true => exact ⟨g1, s1, st1, tAt.later (m := ma) (by exact hk) go (rO_back go)⟩
    | false => exact ⟨g1, s1, st1, tAt.later (m := mb) (by exact hk) go (rO_back go)⟩
theorem vd_if {mt : M Bool} {ma mb : M D} (hc : VT X W c mt) (ha : VD X W a ma) (hb : VD X W b mb) : VD X W (.IfExp c a b pos) (mIf mt ma mb) :=
  pe_imp (pe_ifExp hc ha hb) fun σ H Q ⟨g, s, st, q⟩ => seq st (Go.refl g H) q fun c s1 v H1 g1 _ go st1 r hk => by
    subst r
    cases c with
    | true => exact ⟨g1, s1, st1, tAt.later (m := ma) (by exact hk) go fun _ _ _ _ _ h => h⟩
    | false => exact ⟨g1, s1, st1, tAt.later (m := mb) (by exact hk) go fun _ _ _ _ _ h => h⟩
/-- a bool as a test -/
def mTb (m : M D) : M Bool := bnd m fun d => look fun _ => match d with
  | .bl b => some b
  | _ => none
theorem vt_val {m : M D} (h : VD X W e m) (he : ∀ whole, isTrue e X.env whole = (do let v ← whole; standAt e.pos; holding [v] (truthy v)) := by intro _; rfl) : VT X W e (mTb m) :=
  pt_imp (pt_val h he) fun σ H Q ⟨g, s, st, q⟩ => seq st (Go.refl g H) q fun d s1 v H1 g1 _ go st1 r hk => by
    obtain ⟨b, h1, h2⟩ := hk.lkR
    split at h1
    · cases h1; cases r; exact ⟨_, rfl, h2.ret go st1 rfl⟩
    · cases h1
/-- a test as a value -/
def mBl (m : M Bool) : M D := bnd m fun b => ret (.bl b)
/-- and, or of bools as values; not -/
def mAndV (ma mb : M D) : M D := bnd ma fun d => match d with
  | .bl true => mb
  | .bl false => ret (.bl false)
  | _ => fun _ => none
def mOrV (ma mb : M D) : M D := bnd ma fun d => match d with
  | .bl true => ret (.bl true)
  | .bl false => mb
  | _ => fun _ => none
theorem vd_one {op} {m : M D} (h : VD X W a m) : VD X W (.BoolOp op [a] pos) m := pe_one h
theorem vd_and {ma mb : M D} (ha : VD X W a ma) (hb : VD X W (.BoolOp .And (b :: rest) pos) mb) : VD X W (.BoolOp .And (a :: b :: rest) pos) (mAndV ma mb) :=
  pe_imp (pe_and ha hb) fun σ H Q ⟨g, s, st, q⟩ => seq st (Go.refl g H) q fun d s1 v H1 g1 _ go st1 r hk => by
    split at hk
    · cases r; exact ⟨true, rfl, g1, s1, st1, hk.later go fun _ _ _ _ _ h => h⟩
    · cases r; exact ⟨false, rfl, hk.ret (v := V.bl false) go st1 (.bl false)⟩
    · exact hk.run.elim
theorem vd_or {ma mb : M D} (ha : VD X W a ma) (hb : VD X W (.BoolOp .Or (b :: rest) pos) mb) : VD X W (.BoolOp .Or (a :: b :: rest) pos) (mOrV ma mb) :=
  pe_imp (pe_or ha hb) fun σ H Q ⟨g, s, st, q⟩ => seq st (Go.refl g H) q fun d s1 v H1 g1 _ go st1 r hk => by
    split at hk
    · cases r; exact ⟨true, rfl, hk.ret (v := V.bl true) go st1 (.bl true)⟩
    · cases r; exact ⟨false, rfl, g1, s1, st1, hk.later go fun _ _ _ _ _ h => h⟩
    · exact hk.run.elim
def mNotV (m : M D) : M D := bnd m fun d => look fun _ => match d with
  | .bl b => some (.bl (!b))
  | _ => none
theorem vd_not {m : M D} (ha : VD X W a m) : VD X W (.UnaryOp .Not a pos) (mNotV m) :=
  pe_imp (pe_not ha) fun σ H Q ⟨g, s, st, q⟩ => seq st (Go.refl g H) q fun d s1 v H1 g1 _ go st1 r hk => by
    obtain ⟨b, h1, h2⟩ := hk.lkR
    split at h1
    · cases h1; cases r; exact ⟨_, rfl, h2.ret (v := V.bl _) go st1 (.bl _)⟩
    · cases h1
/-- truth of a thing -/
def truD : D → Option Bool
  | .non => some false
  | .bl b => some b
  | .int i => some (i != 0)
  | .str y => if y.length ≤ sizeLine then some ((y.length : Int) != 0) else none
  | .lst ds => some (!ds.isEmpty)
  | .tup ds => some (!ds.isEmpty)
  | .ct ds => some (!ds.isEmpty)
  | .rl ds => some (!ds.isEmpty)
  | .dk kvs => some (!kvs.isEmpty)
  | _ => none
def mTru (m : M Ref) : M Bool := bnd m fun r => look fun s => (view s r).bind truD
theorem truR_ok {X : Cx} : TruR X (fun x H Q => ∃ k, (TruV X.K x H k ∨ ∃ p kvs, x = .ref p ∧ Rd H p (.dK kvs) ∧ k = !kvs.isEmpty) ∧ Q k H) := by
  intro pins s σ H x v Q I r ⟨k, h, q⟩
  rcases h with h | ⟨p, kvs, rfl, h, rfl⟩
  · exact tru_ok pins s σ H x v Q I r ⟨k, h, q⟩
  · cases r
    exact d_truth I h fun s' I' => ⟨H, I', q⟩
theorem vt_tru {m : M Ref} (h : VR X W e m) (he : ∀ whole, isTrue e X.env whole = (do let v ← whole; standAt e.pos; holding [v] (truthy v)) := by intro _; rfl) : VT X W e (mTru m) := by
  have base : PT X e (fun σ H Q => tG X.K W (rR X.K) m σ H fun x H' => ∃ k, (TruV X.K x H' k ∨ ∃ p kvs, x = .ref p ∧ Rd H' p (.dK kvs) ∧ k = !kvs.isEmpty) ∧ Q k H') :=
    ⟨fun pins s σ H Q I q => isTrue_plain (thn (h.run pins s σ H _ I q) fun v s1 ⟨x, H1, I1, r1, q1⟩ => truR_ok pins s1 σ H1 x v Q I1 r1 q1) (he _)⟩
  refine pt_imp base fun σ H Q ⟨g, s, st, q⟩ => seq st (Go.refl g H) q fun r s1 v H1 g1 _ go st1 rr hk => ?_
  obtain ⟨k, h1, h2⟩ := hk.lkR
  obtain ⟨d, hd, hk2⟩ := Option.bind_eq_some_iff.mp h1
  have rt := view_t st1 (Go.refl g1 H1) rr hd
  have fin : Q k H1 := h2.ret (v := k) go st1 rfl
  refine ⟨k, ?_, fin⟩
  cases d with
  | non => rw [rt.non_]; cases hk2; exact .inl rfl
  | bl b => rw [rt.bl_]; cases hk2; exact .inl rfl
  | int i => rw [rt.int_]; cases hk2; exact .inl rfl
  | str y =>
    rw [rt.str_]
    replace hk2 : (if y.length ≤ sizeLine then some ((y.length : Int) != 0) else none) = some k := hk2
    split at hk2
    · cases hk2; exact .inl ⟨by assumption, rfl⟩
    · cases hk2
  | lst ds =>
    obtain ⟨p, xs, rfl, hs, hl⟩ := rt.lst_ st1.sub
    cases hk2
    refine .inl (.inl ⟨xs, .inl (.inl hs), ?_⟩)
    cases hl <;> rfl
  | tup ds =>
    obtain ⟨p, xs, rfl, hs, hl⟩ := rt.tup_ st1.sub
    cases hk2
    refine .inl (.inr (.inl ⟨xs, .inl (.inl hs), ?_⟩))
    cases hl <;> rfl
  | ct ds =>
    obtain ⟨p, xs, rfl, hs, hl⟩ := rt.ct_ st1.sub
    cases hk2
    refine .inl (.inr (.inl ⟨xs, hs, ?_⟩))
    cases hl <;> rfl
  | rl ds =>
    obtain ⟨p, xs, rfl, hs, hl⟩ := rt.rl_ st1.sub
    cases hk2
    refine .inl (.inl ⟨xs, hs, ?_⟩)
    cases hl <;> rfl
  | dk kvs =>
    obtain ⟨p, xs, rfl, hs, hl⟩ := rt.dk_ st1.sub
    cases hk2
    refine .inr ⟨p, xs, rfl, hs, ?_⟩
    cases hl <;> rfl
  | _ => cases hk2

def rDs (K : PySem.W.Frag) : RRel (List D) (List V) := fun _ _ g' _ _ d v => RepL K g'.F g'.m d v
abbrev VA (X : Cx) (W : WX) (es : List Expr) (m : M (List D)) : Prop := PA X es (tG X.K W (rDs X.K) m)
theorem pa_imp {X : Cx} {es : List Expr} {t t' : TA} (h : PA X es t) (i : ∀ σ H Q, t' σ H Q → t σ H Q) : PA X es t' := ⟨fun pos pins s σ H Q I q => h.run pos pins s σ H Q I (i _ _ _ q)⟩
def mCons (ma : M D) (mr : M (List D)) : M (List D) := bnd ma fun d => bnd mr fun ds => ret (d :: ds)
theorem va_nil : VA X W [] (ret []) := pa_imp pa_nil fun σ H Q ⟨g, s, st, q⟩ => q.ret (v := ([] : List V)) (Go.refl g H) st .nil
theorem va_cons {ma : M D} {mr : M (List D)} (ha : VD X W a ma) (hr : VA X W es mr) (hs : starEach (a :: es) X.env = (false, eval a X.env) :: starEach es X.env := by rfl) : VA X W (a :: es) (mCons ma mr) :=
  pa_imp (pa_cons ha hr hs) fun σ H Q ⟨g, s, st, q⟩ => seq st (Go.refl g H) q fun d s1 v H1 g1 _ go st1 r hk => seq st1 go hk fun ds s2 vs H2 g2 go12 go2 st2 r2 hk2 =>
    hk2.ret (v := v :: vs) go2 st2 (.cons (Rep.go r go12) r2)
def mkTup (m : M (List D)) : M D := bnd m fun ds => look fun _ => if ds.length ≤ 1000000 then some (.tup ds) else none
def mkLst (m : M (List D)) : M O := bnd m fun ds => look fun _ => if ds.length ≤ 1000000 then some (.ol ds) else none
theorem million {n : Nat} (h : n ≤ 1000000) : n ≤ sizeLine := Nat.le_trans h (by decide)
theorem millionLt {n : Nat} (h : n < 1000000) : n < sizeLine := Nat.lt_of_lt_of_le h (by decide)
theorem vd_tup {m : M (List D)} {k : Nat} (h : VA X W es m) : VD X W (.Tuple es k pos) (mkTup m) :=
  pe_imp (pe_tup h) fun σ H Q ⟨g, s, st, q⟩ => seq st (Go.refl g H) q fun ds s1 vs H1 g1 _ go st1 r hk => by
    obtain ⟨d, h1, h2⟩ := hk.lkR
    split at h1
    · rename_i hz
      cases h1
      refine ⟨million (by rw [← r.length]; exact hz), fun p hp => ?_⟩
      obtain ⟨g', go', st', r', ro, hf⟩ := (Mk.tup (H := H1) (m := g1.m) hp r).done st1 go
      cases ro with
      | sh ro => exact h2.ret go' st' ro
    · cases h1
theorem vf_lst {m : M (List D)} (h : VA X W es m) : VF X W (.List es pos) (mkLst m) :=
  pe_imp (pe_lst h) fun σ H Q ⟨g, s, st, q⟩ => seq st (Go.refl g H) q fun ds s1 vs H1 g1 _ go st1 r hk => by
    obtain ⟨d, h1, h2⟩ := hk.lkR
    split at h1
    · rename_i hz
      cases h1
      refine ⟨million (by rw [← r.length]; exact hz), fun p hp => ?_⟩
      obtain ⟨g', go', st', ro⟩ := (Mk.ol (H := H1) (m := g1.m) hp r).done st1 go
      exact h2.ret go' st' ro
    · cases h1

inductive RepTs (K : PySem.W.Frag) (F H : Hp) (m : List Addr) : List D → List V → Prop
  | nil : RepTs K F H m [] []
  | cons {d : D} {v : V} {ds : List D} {vs : List V} : RepT K F H m d v → RepTs K F H m ds vs → RepTs K F H m (d :: ds) (v :: vs)
inductive RefsOk (K : PySem.W.Frag) (g : Gh) (σ : L2.St) : List Ref → List V → Prop
  | nil : RefsOk K g σ [] []
  | cons {r : Ref} {v : V} {rs : List Ref} {vs : List V} : (match r with
    | .sl i => σ[i]? = some (some v)
    | .va d => Rep K g.F g.m d v) → RefsOk K g σ rs vs → RefsOk K g σ (r :: rs) (v :: vs)
theorem RefsOk.go {K : PySem.W.Frag} {g g' : Gh} {H H' : Hp} {σ : L2.St} (go : Go g H g' H') : ∀ {rs : List Ref} {vs : List V}, RefsOk K g σ rs vs → RefsOk K g' σ rs vs
  | _, _, .nil => .nil
  | .sl i :: _, _, .cons h t => .cons h (RefsOk.go go t)
  | .va d :: _, _, .cons h t => .cons (Rep.go h go) (RefsOk.go go t)
def rRs (K : PySem.W.Frag) : RRel (List Ref) (List V) := fun _ _ g' _ σ rs vs => RefsOk K g' σ rs vs
abbrev VAr (X : Cx) (W : WX) (es : List Expr) (m : M (List Ref)) : Prop := PA X es (tG X.K W (rRs X.K) m)
def mConsR (ma : M Ref) (mr : M (List Ref)) : M (List Ref) := bnd ma fun d => bnd mr fun ds => ret (d :: ds)
theorem var_nil : VAr X W [] (ret []) := pa_imp pa_nil fun σ H Q ⟨g, s, st, q⟩ => q.ret (v := ([] : List V)) (Go.refl g H) st .nil
theorem var_cons {ma : M Ref} {mr : M (List Ref)} (ha : VR X W a ma) (hr : VAr X W es mr) (hs : starEach (a :: es) X.env = (false, eval a X.env) :: starEach es X.env := by rfl) : VAr X W (a :: es) (mConsR ma mr) :=
  pa_imp (pa_cons ha hr hs) fun σ H Q ⟨g, s, st, q⟩ => seq st (Go.refl g H) q fun d s1 v H1 g1 _ go st1 r hk => seq st1 go hk fun ds s2 vs H2 g2 go12 go2 st2 r2 hk2 =>
    hk2.ret (v := v :: vs) go2 st2 (.cons (by cases d with
      | sl i => exact r
      | va d => exact Rep.go r go12) r2)
def views (s : S) : List Ref → Option (List D)
  | [] => some []
  | r :: rs => (view s r).bind fun d => (views s rs).map fun ds => d :: ds
theorem views_t {K : PySem.W.Frag} {g : Gh} {s : S} {σ : L2.St} {H : Hp} (st : St K g s σ H) : ∀ {rs : List Ref} {vs : List V} {ds : List D}, RefsOk K g σ rs vs → views s rs = some ds → RepTs K g.F H g.m ds vs
  | _, _, _, .nil, e => by cases e; exact .nil
  | r :: _, _, _, .cons h t, e => by
    obtain ⟨d, hd, e⟩ := Option.bind_eq_some_iff.mp (show (view s r).bind _ = _ from e)
    obtain ⟨ds, hds, e⟩ := Option.map_eq_some_iff.mp e
    subst e
    exact .cons (view_t (ga := g) (Ha := H) st (Go.refl g H) (by cases r <;> exact h) hd) (views_t st t hds)
def OpN (K : PySem.W.Frag) (r : List V → Hp → VK → Prop) (f : List D → Option O) : Prop := ∀ (F H : Hp) (m : List Addr) (ds : List D) (o : O) (vs : List V), Sub F H → f ds = some o → RepTs K F H m ds vs → ∀ Q : VK, (∀ w H', Mk K F H m o w H' → Q w H') → r vs H Q
def opN (f : List D → Option O) (mr : M (List Ref)) : M O := bnd mr fun rs => look fun s => (views s rs).bind f
theorem tcb_imp {K : PySem.W.Frag} {r : List V → Hp → VK → Prop} {f : List D → Option O} {mr : M (List Ref)} (hs : OpN K r f) (σ : L2.St) (H : Hp) (Q : VK) (h : tG K W (rO K) (opN f mr) σ H Q) : tCB r (tG K W (rRs K) mr) σ H Q := by
  obtain ⟨g, s, st, q⟩ := h
  refine seq st (Go.refl g H) q fun rs s1 vs H1 g1 _ go st1 rr hk => ?_
  obtain ⟨o, h1, h2⟩ := hk.lkR
  obtain ⟨ds, hds, hf⟩ := Option.bind_eq_some_iff.mp h1
  refine hs g1.F H1 g1.m ds o vs st1.sub hf (views_t st1 rr hds) Q fun w H' mk => ?_
  obtain ⟨g', go', st', ro⟩ := mk.done st1 go
  exact h2.ret go' st' ro
variable {id T : String} {x : Str} {p : Pos}
theorem vf_callB {r : List V → Hp → VK → Prop} {f : List D → Option O} {mr : M (List Ref)} (hc : CallR X (.builtin id) r) (hs : OpN X.K r f) (hg : Gl X x) (hm : X.mg x = none) (hv : bootBuiltins x = some (.builtin id)) (ha : VAr X W (a :: es) mr)
    (hn : x ≠ "__name__" := by decide) (hdb : (x == ("__debug__" : Str)) = false := by decide) (he : starEach (a :: es) X.env = (false, eval a X.env) :: starEach es X.env := by rfl) (hpl : (backTo pos (starEach es X.env)).any (·.1) = false := by rfl) : VF X W (.Call (.Name x p) (a :: es) [] pos) (opN f mr) :=
  pe_imp (pe_callB hc hg hm hv ha hn hdb he hpl) fun σ H Q h => tcb_imp hs σ H Q h
theorem vf_callTy {r : List V → Hp → VK → Prop} {f : List D → Option O} {mr : M (List Ref)} (hc : CallR X (.type T) r) (hs : OpN X.K r f) (hg : Gl X x) (hm : X.mg x = none) (hv : bootBuiltins x = some (.type T)) (ha : VAr X W (a :: es) mr)
    (hn : x ≠ "__name__" := by decide) (hdb : (x == ("__debug__" : Str)) = false := by decide) (he : starEach (a :: es) X.env = (false, eval a X.env) :: starEach es X.env := by rfl) (hpl : (backTo pos (starEach es X.env)).any (·.1) = false := by rfl) : VF X W (.Call (.Name x p) (a :: es) [] pos) (opN f mr) :=
  pe_imp (pe_callTy hc hg hm hv ha hn hdb he hpl) fun σ H Q h => tcb_imp hs σ H Q h
end
end Vs
namespace Vs
open PySem PySem.Spec PyProof.Rows L2

inductive Fr where
  | ok (o : O) (ce tb : List O) | ex (x : Ex) (ce tb : List O)
abbrev Fn := List Vl → List O → List O → Option Fr
def spEnd (K : PySem.W.Frag) (g : Gh) (H : Hp) (args : List Vl) (vs : List V) (n : Nat) (Q : VK) (E : XK) : Option Fr → Prop
  | some (.ok o ce tb) => ce.length = n ∧ ∀ (v : V) (H' : Hp) (g' : Gh), Go g H g' H' → St K g' ⟨args.map some, ce, tb⟩ (vs.map some) H' → rO K g H g' H' [] o v → Q v H'
  | some (.ex x ce tb) => ce.length = n ∧ ∀ (cls : Value) (dd : Option Addr) (H' : Hp) (g' : Gh), Go g H g' H' → St K g' ⟨args.map some, ce, tb⟩ (vs.map some) H' → RepX K g' H' x cls dd → E cls dd H'
  | none => False
def spOf (K : PySem.W.Frag) (n : Nat) (F : Fn) : Sp := fun vs H Q E => vs.length = n ∧ ∃ (g : Gh) (args : List Vl) (ce tb : List O), St K g ⟨args.map some, ce, tb⟩ (vs.map some) H ∧ spEnd K g H args vs ce.length Q E (F args ce tb)
def passL (s : S) : List Ref → List Nat → Option (List Vl × List Nat)
  | [], ns => some ([], ns)
  | .va d :: r, ns => (passL s r ns).map fun z => (.sh d :: z.1, z.2)
  | .sl i :: r, ns => match s.sl[i]? with
    | some (some (.sh d)) => (passL s r ns).map fun z => (.sh d :: z.1, z.2)
    | some (some (.pt n)) => if n ∈ ns then none else (passL s r (ns ++ [n])).map fun z => (.pt ns.length :: z.1, z.2)
    | _ => none
def upds : List O → List Nat → List O → List O
  | c, n :: ns, o :: os => upds (c.set n o) ns os
  | c, _, _ => c
def callF (F : Fn) (refs : List Ref) : M O := fun s => match passL s refs [] with
  | some (args, ns) => match F args (ns.map fun n => s.ce.getD n default) s.tb with
    | some (.ok o ce tb) => if ce.length = ns.length then some (.ok o { s with ce := upds s.ce ns ce, tb := tb }) else none
    | some (.ex x ce tb) => if ce.length = ns.length then some (.ex x { s with ce := upds s.ce ns ce, tb := tb }) else none
    | none => none
  | none => none

section
variable {α : Type}
def updsA : List α → List Nat → List α → List α
  | c, n :: ns, o :: os => updsA (c.set n o) ns os
  | c, _, _ => c
theorem upds_eq : ∀ (c : List O) (ns : List Nat) (os : List O), upds c ns os = updsA c ns os
  | c, n :: ns, o :: os => upds_eq (c.set n o) ns os
  | _, [], _ => by unfold upds updsA; rfl
  | _, _ :: _, [] => by unfold upds updsA; rfl
theorem updsA_len : ∀ (c : List α) (ns : List Nat) (os : List α), (updsA c ns os).length = c.length
  | c, n :: ns, o :: os => by show (updsA (c.set n o) ns os).length = _; rw [updsA_len, List.length_set]
  | _, [], _ => by unfold updsA; rfl
  | _, _ :: _, [] => by unfold updsA; rfl
theorem updsA_out : ∀ (c : List α) (ns : List Nat) (os : List α) (i : Nat), i ∉ ns → (updsA c ns os)[i]? = c[i]?
  | c, n :: ns, o :: os, i, h => by
    show (updsA (c.set n o) ns os)[i]? = _
    rw [updsA_out _ ns os i fun z => h (List.mem_cons_of_mem _ z), List.getElem?_set_ne fun z => h (by rw [z]; exact List.mem_cons_self)]
  | _, [], _, _, _ => by unfold updsA; rfl
  | _, _ :: _, [], _, _ => by unfold updsA; rfl
theorem updsA_in : ∀ (c : List α) (ns : List Nat) (os : List α), ns.Nodup → (∀ n ∈ ns, n < c.length) → ∀ (k n : Nat) (o : α), ns[k]? = some n → os[k]? = some o → (updsA c ns os)[n]? = some o
  | c, m :: ns, p :: os, nd, hl, k, n, o, h1, h2 => by
    show (updsA (c.set m p) ns os)[n]? = _
    cases k with
    | zero =>
      have e1 : m = n := by simpa using h1
      have e2 : p = o := by simpa using h2
      subst e1; subst e2
      rw [updsA_out _ ns os m (List.nodup_cons.mp nd).1, List.getElem?_set_self (hl m List.mem_cons_self)]
    | succ k => exact updsA_in (c.set m p) ns os (List.nodup_cons.mp nd).2 (fun n hn => by rw [List.length_set]; exact hl n (List.mem_cons_of_mem _ hn)) k n o (by simpa using h1) (by simpa using h2)
  | _, [], _, _, _, _, _, _, h, _ => by simp at h
  | _, _ :: _, [], _, _, _, _, _, _, h => by simp at h
end
section
variable {K : PySem.W.Frag} {g : Gh} {s : S} {σ : L2.St} {H : Hp}
def ArgV (K : PySem.W.Frag) (g : Gh) (ns : List Nat) : Vl → V → Prop
  | .sh d, v => Rep K g.F g.m d v
  | .pt k, v => ∃ n, ns[k]? = some n ∧ g.cv[n]? = some v
theorem ArgV.more {ns t : List Nat} {a : Vl} {v : V} (h : ArgV K g ns a v) : ArgV K g (ns ++ t) a v := by
  cases a with
  | sh d => exact h
  | pt k =>
    obtain ⟨n, h1, h2⟩ := h
    exact ⟨n, by rw [List.getElem?_append_left (List.getElem?_eq_some_iff.mp h1).1]; exact h1, h2⟩
theorem passL_ok (st : St K g s σ H) : ∀ (refs : List Ref) (vs : List V) (ns0 : List Nat) (args : List Vl) (ns : List Nat), RefsOk K g σ refs vs → passL s refs ns0 = some (args, ns) → ns0.Nodup → (∀ n ∈ ns0, n < s.ce.length) →
    ns.Nodup ∧ (∀ n ∈ ns, n < s.ce.length) ∧ (∃ t, ns = ns0 ++ t) ∧ args.length = vs.length ∧ ∀ (i : Nat) (a : Vl) (v : V), args[i]? = some a → vs[i]? = some v → ArgV K g ns a v
  | [], _, ns0, args, ns, .nil, h, nd, hl => by
    cases h
    exact ⟨nd, hl, ⟨[], (List.append_nil _).symm⟩, rfl, fun i a v e => by simp at e⟩
  | .va d :: refs, w :: vs, ns0, args, ns, .cons h1 h2, h, nd, hl => by
    obtain ⟨⟨as, ms⟩, e, e2⟩ := Option.map_eq_some_iff.mp (show (passL s refs ns0).map _ = _ from h)
    cases e2
    obtain ⟨q1, q2, q3, q4, q5⟩ := passL_ok st refs vs ns0 as ms h2 e nd hl
    refine ⟨q1, q2, q3, congrArg (· + 1) q4, fun i a v e1 e2 => ?_⟩
    cases i with
    | zero =>
      have a1 : Vl.sh d = a := by simpa using e1
      have a2 : w = v := by simpa using e2
      subst a1; subst a2
      exact h1
    | succ i => exact q5 i a v (by simpa using e1) (by simpa using e2)
  | .sl j :: refs, w :: vs, ns0, args, ns, .cons h1 h2, h, nd, hl => by
    unfold passL at h
    split at h
    · rename_i d hs
      obtain ⟨⟨as, ms⟩, e, e2⟩ := Option.map_eq_some_iff.mp h
      cases e2
      obtain ⟨q1, q2, q3, q4, q5⟩ := passL_ok st refs vs ns0 as ms h2 e nd hl
      refine ⟨q1, q2, q3, congrArg (· + 1) q4, fun i a v e1 e2 => ?_⟩
      cases i with
      | zero =>
        have a1 : Vl.sh d = a := by simpa using e1
        have a2 : w = v := by simpa using e2
        subst a1; subst a2
        obtain ⟨u, k1, k2⟩ := st.slot j _ hs
        have h1' : σ[j]? = some (some w) := h1
        rw [h1'] at k1
        cases k1
        exact k2
      | succ i => exact q5 i a v (by simpa using e1) (by simpa using e2)
    · rename_i n hs
      split at h
      · cases h
      · rename_i hn
        obtain ⟨⟨as, ms⟩, e, e2⟩ := Option.map_eq_some_iff.mp h
        cases e2
        obtain ⟨u, k1, k2⟩ := st.slot j _ hs
        have h1' : σ[j]? = some (some w) := h1
        rw [h1'] at k1
        cases k1
        have lt : n < s.ce.length := by
          have := (List.getElem?_eq_some_iff.mp (show g.cv[n]? = some w from k2)).1
          rw [st.ce.lv] at this; exact this
        obtain ⟨q1, q2, ⟨t, q3⟩, q4, q5⟩ := passL_ok st refs vs (ns0 ++ [n]) as ms h2 e (by
          rw [List.nodup_append]
          exact ⟨nd, by simp, fun a ha b hb => by
            have : b = n := by simpa using hb
            subst this
            exact fun z => hn (z ▸ ha)⟩) (fun k hk => by
          rcases List.mem_append.mp hk with z | z
          · exact hl k z
          · have : k = n := by simpa using z
            subst this; exact lt)
        refine ⟨q1, q2, ⟨[n] ++ t, by rw [q3, List.append_assoc]⟩, congrArg (· + 1) q4, fun i a v e1 e2 => ?_⟩
        cases i with
        | zero =>
          have a1 : Vl.pt ns0.length = a := by simpa using e1
          have a2 : w = v := by simpa using e2
          subst a1; subst a2
          refine ⟨n, ?_, k2⟩
          rw [q3, List.append_assoc, List.getElem?_append_right (Nat.le_refl _)]
          simp
        | succ i => exact q5 i a v (by simpa using e1) (by simpa using e2)
    · cases h

/-- into a call and out of it -/
theorem call_in (st : St K g s σ H) {refs : List Ref} {vs : List V} {args : List Vl} {ns : List Nat} (ro : RefsOk K g σ refs vs) (hp : passL s refs [] = some (args, ns)) :
    ∃ gc, St K gc ⟨args.map some, ns.map fun n => s.ce.getD n default, s.tb⟩ (vs.map some) H ∧
      ∀ (gc' : Gh) (H' : Hp) (ce tb : List O) (v : List V), Go gc H gc' H' → St K gc' ⟨args.map some, ce, tb⟩ (v.map some) H' → ce.length = ns.length →
        ∃ g', Go g H g' H' ∧ St K g' { s with ce := upds s.ce ns ce, tb := tb } σ H' ∧ (g'.F = gc'.F ∧ g'.m = gc'.m) ∧ ∀ o v, rO K gc H gc' H' [] o v → rO K g H g' H' σ o v := by
  obtain ⟨nd, hl, _, hlen, hargs⟩ := passL_ok st refs vs [] args ns ro hp List.nodup_nil (fun n h => by simp at h)
  have hlv : ∀ n ∈ ns, n < g.cv.length := fun n h => by rw [st.ce.lv]; exact hl n h
  have hlr : ∀ n ∈ ns, n < g.Rs.length := fun n h => by rw [st.ce.lr]; exact hl n h
  -- the callee's ghosts
  have gcv : ∀ k n, ns[k]? = some n → (ns.map fun n => g.cv.getD n .non)[k]? = g.cv[n]? := fun k n e => by
    rw [List.getElem?_map, e]
    show some (g.cv.getD n .non) = _
    rw [List.getD_eq_getElem?_getD, List.getElem?_eq_getElem (hlv n (List.mem_of_getElem? e))]; rfl
  have gRs : ∀ k n, ns[k]? = some n → (ns.map fun n => g.Rs.getD n none)[k]? = g.Rs[n]? := fun k n e => by
    rw [List.getElem?_map, e]
    show some (g.Rs.getD n none) = _
    rw [List.getD_eq_getElem?_getD, List.getElem?_eq_getElem (hlr n (List.mem_of_getElem? e))]; rfl
  have gce : ∀ k n, ns[k]? = some n → (ns.map fun n => s.ce.getD n default)[k]? = s.ce[n]? := fun k n e => by
    rw [List.getElem?_map, e]
    show some (s.ce.getD n default) = _
    rw [List.getD_eq_getElem?_getD, List.getElem?_eq_getElem (hl n (List.mem_of_getElem? e))]; rfl
  have own_in : ∀ a, some a ∈ (ns.map fun n => g.Rs.getD n none) → ∃ k n, ns[k]? = some n ∧ g.Rs[n]? = some (some a) := fun a ha => by
    obtain ⟨k, hk⟩ := List.getElem?_of_mem ha
    rw [List.getElem?_map] at hk
    cases q : ns[k]? with
    | none => rw [q] at hk; cases hk
    | some n =>
      have := gRs k n q
      rw [List.getElem?_map] at this
      rw [hk] at this
      exact ⟨k, n, q, this.symm⟩
  let gc : Gh := { F := g.F, m := g.m, cv := ns.map fun n => g.cv.getD n .non, Rs := ns.map fun n => g.Rs.getD n none, Rt := g.Rt }
  have own_sub : ∀ a, gc.own a → g.own a := fun a h => h.elim (fun z => by
    obtain ⟨k, n, _, h2⟩ := own_in a z
    exact .inl (List.mem_of_getElem? h2)) .inr
  have stc : St K gc ⟨args.map some, ns.map fun n => s.ce.getD n default, s.tb⟩ (vs.map some) H := by
    refine ⟨st.sub, by simp [hlen], fun i x e => ?_, ⟨by simp [gc], by simp [gc], fun k o e => ?_, fun i j a hi hj => ?_⟩, st.tb, fun a h1 h2 => ?_⟩
    · have e' : (args.map some)[i]? = some (some x) := e
      rw [List.getElem?_map] at e'
      cases q : args[i]? with
      | none => rw [q] at e'; cases e'
      | some y =>
        rw [q] at e'
        have exy : y = x := by simpa using e'
        subst exy
        have lt : i < vs.length := by rw [← hlen]; exact (List.getElem?_eq_some_iff.mp q).1
        refine ⟨vs[i], by rw [List.getElem?_map, List.getElem?_eq_getElem lt]; rfl, ?_⟩
        have z := hargs i y vs[i] q (List.getElem?_eq_getElem lt)
        cases y with
        | sh d => exact z
        | pt k =>
          obtain ⟨n, z1, z2⟩ := z
          show (ns.map fun n => g.cv.getD n .non)[k]? = _
          rw [gcv k n z1]; exact z2
    · have e' : (ns.map fun n => s.ce.getD n default)[k]? = some o := e
      cases q : ns[k]? with
      | none => rw [List.getElem?_map, q] at e'; cases e'
      | some n =>
        rw [gce k n q] at e'
        obtain ⟨v, r, h1, h2, h3⟩ := st.ce.at_ n o e'
        exact ⟨v, r, (gcv k n q).trans h1, (gRs k n q).trans h2, h3⟩
    · cases qi : ns[i]? with
      | none => rw [List.getElem?_map, qi] at hi; cases hi
      | some n =>
        cases qj : ns[j]? with
        | none => rw [List.getElem?_map, qj] at hj; cases hj
        | some n' =>
          rw [gRs i n qi] at hi
          rw [gRs j n' qj] at hj
          have := st.ce.uq n n' a hi hj
          subst this
          exact nd_ix nd qi qj
    · obtain ⟨k, n, _, h3⟩ := own_in a h1
      exact st.dj a (List.mem_of_getElem? h3) h2
  refine ⟨gc, stc, fun gc' H' ce tb v go st' hce => ?_⟩
  let g' : Gh := { F := gc'.F, m := gc'.m, cv := g.cv, Rs := updsA g.Rs ns gc'.Rs, Rt := gc'.Rt }
  -- what a place holds
  have atRs : ∀ (i : Nat) (a : Addr), (updsA g.Rs ns gc'.Rs)[i]? = some (some a) → (∃ k, ns[k]? = some i ∧ gc'.Rs[k]? = some (some a)) ∨ (i ∉ ns ∧ g.Rs[i]? = some (some a)) := fun i a e => by
    by_cases hi : i ∈ ns
    · obtain ⟨k, hk⟩ := List.getElem?_of_mem hi
      have lt : k < gc'.Rs.length := by rw [st'.ce.lr, show (S.ce ⟨args.map some, ce, tb⟩).length = _ from hce]; exact (List.getElem?_eq_some_iff.mp hk).1
      have z := updsA_in g.Rs ns gc'.Rs nd hlr k i gc'.Rs[k] hk (List.getElem?_eq_getElem lt)
      rw [e] at z
      exact .inl ⟨k, hk, by rw [List.getElem?_eq_getElem lt]; exact z.symm⟩
    · rw [updsA_out _ _ _ _ hi] at e
      exact .inr ⟨hi, e⟩
  -- an own address of another cell
  have other : ∀ (i : Nat) (a : Addr), i ∉ ns → g.Rs[i]? = some (some a) → ¬ gc.own a ∧ H a ≠ none ∧ g.F a = none := fun i a hi e => by
    obtain ⟨z1, ⟨u, z2⟩, _⟩ := st.ce.own_ (List.mem_of_getElem? e)
    refine ⟨fun h => ?_, (by rw [z2]; exact fun y => nomatch y), z1⟩
    rcases h with h | h
    · obtain ⟨k, n, h1, h2⟩ := own_in a h
      have := st.ce.uq i n a e h2
      subst this
      exact hi (List.mem_of_getElem? h1)
    · exact st.dj a (List.mem_of_getElem? e) h
  have otherF : ∀ (a : Addr), ¬ gc.own a → H a ≠ none → g.F a = none → gc'.F a = none ∧ ¬ gc'.own a ∧ ∀ u, H a = some u → H' a = some u := fun a h1 h2 h3 => by
    refine ⟨?_, fun z => ?_, fun u hu => go.keep a u hu h1 h3⟩
    · cases q : gc'.F a with
      | none => rfl
      | some u =>
        rcases go.frz a u q with z | z | z
        · exact absurd h3 z
        · exact absurd z h2
        · exact absurd z h1
    · rcases go.rts a z with z | z
      · exact h1 z
      · exact h2 z
  have own' : ∀ a, g'.own a → gc'.own a ∨ ∃ i, i ∉ ns ∧ g.Rs[i]? = some (some a) := fun a h => by
    rcases h with h | h
    · obtain ⟨i, hi⟩ := List.getElem?_of_mem h
      rcases atRs i a hi with ⟨k, _, h2⟩ | h2
      · exact .inl (.inl (List.mem_of_getElem? h2))
      · exact .inr ⟨i, h2⟩
    · exact .inl (.inr h)
  refine ⟨g', ⟨go.F, go.m, fun _ _ h => h, fun a o h n f => go.keep a o h (fun z => n (own_sub a z)) f, go.trk, fun a u h => (go.frz a u h).elim .inl fun z => .inr (z.elim .inl fun z => .inr (own_sub a z)), fun a h => ?_⟩,
    ⟨st'.sub, st.len, fun i x e => ?_, ⟨?_, ?_, fun i o e => ?_, fun i j a hi hj => ?_⟩, st'.tb, fun a h1 h2 => ?_⟩, ⟨rfl, rfl⟩, fun o v ⟨r, h1, h2⟩ => ⟨r, h1, fun a e => ⟨fun z => ?_, ?_⟩⟩⟩
  · rcases own' a h with z | ⟨i, _, z⟩
    · exact (go.rts a z).elim (fun y => .inl (own_sub a y)) .inr
    · exact .inl (.inl (List.mem_of_getElem? z))
  · obtain ⟨w, k1, k2⟩ := st.slot i x e
    refine ⟨w, k1, ?_⟩
    cases x with
    | sh d => exact Rep.mono go.F go.m k2
    | pt n => exact k2
  · show g.cv.length = (upds s.ce ns ce).length
    rw [upds_eq, updsA_len]; exact st.ce.lv
  · show (updsA g.Rs ns gc'.Rs).length = (upds s.ce ns ce).length
    rw [upds_eq, updsA_len, updsA_len]; exact st.ce.lr
  · have e' : (upds s.ce ns ce)[i]? = some o := e
    rw [upds_eq] at e'
    by_cases hi : i ∈ ns
    · obtain ⟨k, hk⟩ := List.getElem?_of_mem hi
      have lt : k < ce.length := by rw [hce]; exact (List.getElem?_eq_some_iff.mp hk).1
      rw [updsA_in s.ce ns ce nd hl k i ce[k] hk (List.getElem?_eq_getElem lt)] at e'
      obtain ⟨v, r, h1, h2, h3⟩ := st'.ce.at_ k o (by rw [← e']; exact List.getElem?_eq_getElem lt)
      have cvk : g.cv[i]? = some v := by
        have lt2 := hlv i hi
        have z := go.cv k g.cv[i] ((gcv k i hk).trans (List.getElem?_eq_getElem lt2))
        rw [h1] at z
        rw [List.getElem?_eq_getElem lt2]; exact z.symm
      exact ⟨v, r, cvk, updsA_in g.Rs ns gc'.Rs nd hlr k i r hk h2, h3⟩
    · rw [updsA_out _ _ _ _ hi] at e'
      obtain ⟨v, r, h1, h2, h3⟩ := st.ce.at_ i o e'
      refine ⟨v, r, h1, (updsA_out _ _ _ _ hi).trans h2, h3.keep go.F go.m fun a ea => ?_⟩
      subst ea
      obtain ⟨q1, q2, q3⟩ := other i a hi h2
      obtain ⟨y1, _, y3⟩ := otherF a q1 q2 q3
      exact ⟨y1, y3⟩
  · rcases atRs i a hi with ⟨k, k1, k2⟩ | ⟨k1, k2⟩ <;> rcases atRs j a hj with ⟨l, l1, l2⟩ | ⟨l1, l2⟩
    · have := st'.ce.uq k l a k2 l2
      subst this
      rw [k1] at l1
      exact Option.some.inj l1
    · obtain ⟨q1, q2, q3⟩ := other j a l1 l2
      exact absurd (.inl (List.mem_of_getElem? k2)) (otherF a q1 q2 q3).2.1
    · obtain ⟨q1, q2, q3⟩ := other i a k1 k2
      exact absurd (.inl (List.mem_of_getElem? l2)) (otherF a q1 q2 q3).2.1
    · exact st.ce.uq i j a k2 l2
  · obtain ⟨i, hi⟩ := List.getElem?_of_mem h1
    rcases atRs i a hi with ⟨k, _, k2⟩ | ⟨k1, k2⟩
    · exact st'.dj a (List.mem_of_getElem? k2) h2
    · obtain ⟨q1, q2, q3⟩ := other i a k1 k2
      exact (otherF a q1 q2 q3).2.1 (.inr h2)
  · rcases own' a z with z | ⟨i, k1, k2⟩
    · exact (h2 a e).1 z
    · obtain ⟨q1, q2, q3⟩ := other i a k1 k2
      rcases (h2 a e).2 with y | y
      · exact q1 y
      · exact q2 y
  · exact (h2 a e).2.elim (fun z => .inl (own_sub a z)) .inr
end

section
variable {K : PySem.W.Frag} {W : WX}
theorem callF_sp {F : Fn} {refs : List Ref} {g0 g1 : Gh} {H0 H1 : Hp} {s1 : S} {σ : L2.St} {vs : List V} {n : Nat} {Q : VK} (hn : vs.length = n) (go : Go g0 H0 g1 H1) (st1 : St K g1 s1 σ H1) (ro : RefsOk K g1 σ refs vs) (hk : tAt K W (rO K) g0 H0 (callF F refs) s1 σ Q) : spOf K n F vs H1 Q (WE W σ) := by
  have h := hk.run
  unfold callF at h
  cases hp : passL s1 refs [] with
  | none => rw [hp] at h; exact h.elim
  | some z =>
    obtain ⟨args, ns⟩ := z
    rw [hp] at h
    obtain ⟨gc, stc, back⟩ := call_in st1 ro hp
    refine ⟨hn, gc, args, _, _, stc, ?_⟩
    simp only at h
    cases hf : F args (ns.map fun n => s1.ce.getD n default) s1.tb with
    | none => rw [hf] at h; exact h.elim
    | some r =>
      rw [hf] at h
      cases r with
      | ok o ce tb =>
        simp only at h
        split at h
        · rename_i hl
          refine ⟨by rw [List.length_map]; exact hl, fun v H' gc' goc stc' rr => ?_⟩
          obtain ⟨g', go', st', _, tr⟩ := back gc' H' ce tb vs goc stc' hl
          exact h v H' g' (go.trans go') st' (rO_back go g' H' o v go' (tr o v rr))
        · exact h.elim
      | ex x ce tb =>
        simp only at h
        split at h
        · rename_i hl
          refine ⟨by rw [List.length_map]; exact hl, fun cls dd H' gc' goc stc' rx => ?_⟩
          obtain ⟨g', go', st', ⟨eF, em⟩, _⟩ := back gc' H' ce tb vs goc stc' hl
          refine h cls dd H' g' (go.trans go') st' ⟨rx.1, ?_⟩
          have r2 := rx.2
          cases hx : x.p with
          | none => rw [hx] at r2; exact r2
          | some fd =>
            rw [hx] at r2
            obtain ⟨a, v, q1, q2, q3⟩ := r2
            exact ⟨a, v, q1, q2, by rw [eF, em]; exact q3⟩
        · exact h.elim
end
end Vs
namespace Vs
open PySem PySem.Spec PyProof.Rows L2

inductive Fl where
  | nx | rt (o : O) | bk | ct
abbrev SM := M Fl
def sRun (K : PySem.W.Frag) (W : WX) (g0 : Gh) (H0 : Hp) (D : Ends) : Option (Rs Fl) → Prop
  | some (.ok .nx s') => ∀ (σ' : L2.St) (H' : Hp) (g' : Gh), Go g0 H0 g' H' → St K g' s' σ' H' → D.nx σ' H'
  | some (.ok .bk s') => ∀ (σ' : L2.St) (H' : Hp) (g' : Gh), Go g0 H0 g' H' → St K g' s' σ' H' → D.bk σ' H'
  | some (.ok .ct s') => ∀ (σ' : L2.St) (H' : Hp) (g' : Gh), Go g0 H0 g' H' → St K g' s' σ' H' → D.ct σ' H'
  | some (.ok (.rt o) s') => ∀ (v : V) (σ' : L2.St) (H' : Hp) (g' : Gh), Go g0 H0 g' H' → St K g' s' σ' H' → rO K g0 H0 g' H' σ' o v → D.rt v H'
  | some (.ex x s') => ∀ (cls : Value) (dd : Option Addr) (σ' : L2.St) (H' : Hp) (g' : Gh), Go g0 H0 g' H' → St K g' s' σ' H' → RepX K g' H' x cls dd → W cls dd σ' H'
  | none => False
structure sAt (K : PySem.W.Frag) (W : WX) (g0 : Gh) (H0 : Hp) (D : Ends) (m : SM) (s : S) : Prop where
  run : sRun K W g0 H0 D (m s)
def tS (K : PySem.W.Frag) (W : WX) (m : SM) : TS := fun D σ H => ∃ g s, St K g s σ H ∧ sAt K W g H D m s
abbrev VS (X : Cx) (W : WX) (st : Stmt) (m : SM) : Prop := PS X st (tS X.K W m)
abbrev VSs (X : Cx) (W : WX) (sts : List Stmt) (m : SM) : Prop := PSs X sts (tS X.K W m)
theorem ps_imp {X : Cx} {st : Stmt} {t t' : TS} (h : PS X st t) (i : ∀ D σ H, t' D σ H → t D σ H) : PS X st t' := ⟨fun pins s σ H D I q => h.run pins s σ H D I (i _ _ _ q)⟩
theorem pss_imp {X : Cx} {st : List Stmt} {t t' : TS} (h : PSs X st t) (i : ∀ D σ H, t' D σ H → t D σ H) : PSs X st t' := ⟨fun pins s σ H D I q => h.run pins s σ H D I (i _ _ _ q)⟩
def then_ (m1 m2 : SM) : SM := bnd m1 fun fl => match fl with
  | .nx => m2
  | fl => ret fl
section
variable {K : PySem.W.Frag} {W : WX} {g0 g : Gh} {H0 H : Hp} {D : Ends} {m : SM} {s : S} {σ : L2.St}
theorem sRun.later {r : Option (Rs Fl)} (h : sRun K W g0 H0 D r) (go : Go g0 H0 g H) : sRun K W g H D r := by
  cases r with
  | none => exact h
  | some r =>
    cases r with
    | ok fl s' =>
      cases fl with
      | nx => exact fun σ' H' g' y st => h σ' H' g' (go.trans y) st
      | bk => exact fun σ' H' g' y st => h σ' H' g' (go.trans y) st
      | ct => exact fun σ' H' g' y st => h σ' H' g' (go.trans y) st
      | rt o => exact fun v σ' H' g' y st r => h v σ' H' g' (go.trans y) st (rO_back go g' H' o v y r)
    | ex x s' => exact fun cls dd σ' H' g' y st r => h cls dd σ' H' g' (go.trans y) st r
theorem sAt.later (h : sAt K W g0 H0 D m s) (go : Go g0 H0 g H) : sAt K W g H D m s := ⟨h.run.later go⟩
/-- an expression, then the rest of the statement -/
theorem seqX {α β : Type} {RR1 : RRel α β} {ma : M α} {k : α → SM} {Q1 : β → Hp → Prop} (st : St K g s σ H) (go0 : Go g0 H0 g H) (h : sAt K W g0 H0 D (bnd ma k) s)
    (hk : ∀ (a : α) (s1 : S) (v : β) (H1 : Hp) (g1 : Gh), Go g H g1 H1 → Go g0 H0 g1 H1 → St K g1 s1 σ H1 → RR1 g H g1 H1 σ a v → sAt K W g0 H0 D (k a) s1 → Q1 v H1) : tG K W RR1 ma σ H Q1 := by
  refine ⟨g, s, st, ⟨?_⟩⟩
  cases q : ma s with
  | none => have h := h.run; rw [bnd_no q] at h; exact h
  | some r =>
    cases r with
    | ok a s' => exact fun v H' g' go st' r => hk a s' v H' g' go (go0.trans go) st' r ⟨by have h := h.run; rw [bnd_ok q] at h; exact h⟩
    | ex x s' =>
      have h := h.run
      rw [bnd_ex q] at h
      exact fun cls dd H' g' y st' rx => h cls dd σ H' g' (go0.trans y) st' rx
end
section
variable {X : Cx} {W : WX} {st : Stmt} {rest : List Stmt} {e : Expr} {pos : Pos} {m m1 m2 : SM}
theorem vss_cons (h1 : VS X W st m1) (h2 : VSs X W rest m2) : VSs X W (st :: rest) (then_ m1 m2) :=
  pss_imp (pss_cons h1 h2) fun D σ H ⟨g, s, st, q⟩ => ⟨g, s, st, ⟨by
    have q := q.run
    unfold then_ at q
    cases z : m1 s with
    | none => rw [bnd_no z] at q; exact q
    | some r =>
      cases r with
      | ok fl s1 =>
        rw [bnd_ok z] at q
        cases fl with
        | nx => exact fun σ' H' g' y st' => ⟨g', s1, st', ⟨sRun.later q y⟩⟩
        | bk => exact q
        | ct => exact q
        | rt o => exact q
      | ex x s1 => rw [bnd_ex z] at q; exact q⟩⟩
theorem vss_one (h : VS X W st m) : VSs X W [st] m := pss_one h
theorem vss_nil : VSs X W [] (ret .nx) := pss_imp pss_nil fun D σ H ⟨g, s, st, q⟩ => q.run σ H g (Go.refl g H) st
theorem vs_pass : VS X W (.Pass pos) (ret .nx) := ps_imp ps_pass fun D σ H ⟨g, s, st, q⟩ => q.run σ H g (Go.refl g H) st
theorem vs_break : VS X W (.Break pos) (ret .bk) := ps_imp ps_break fun D σ H ⟨g, s, st, q⟩ => q.run σ H g (Go.refl g H) st
theorem vs_continue : VS X W (.Continue pos) (ret .ct) := ps_imp ps_continue fun D σ H ⟨g, s, st, q⟩ => q.run σ H g (Go.refl g H) st
def mDrop {α : Type} (m : M α) : SM := bnd m fun _ => ret .nx
theorem vs_expr {me : M O} (h : VF X W e me) (hs : swapsWith e none pos.line X.env = pure false := by rfl) : VS X W (.Expr e pos) (mDrop me) :=
  ps_imp (ps_expr h hs) fun D σ H ⟨g, s, st, q⟩ => seqX st (Go.refl g H) q fun o s1 v H1 g1 _ go st1 r hk => hk.run σ H1 g1 go st1
def mRet (m : M O) : SM := bnd m fun o => ret (.rt o)
theorem vs_ret {me : M O} (h : VF X W e me) : VS X W (.Return (some e) pos) (mRet me) :=
  ps_imp (ps_ret h) fun D σ H ⟨g, s, st, q⟩ => seqX st (Go.refl g H) q fun o s1 v H1 g1 _ go st1 r hk => hk.run v σ H1 g1 go st1 r
theorem vs_retN : VS X W (.Return none pos) (ret (.rt (.sh .non))) := ps_imp ps_retN fun D σ H ⟨g, s, st, q⟩ => q.run .non σ H g (Go.refl g H) st ⟨none, .sh .non, fun a e => nomatch e⟩
/-- a local's own cell goes out -/
def mRetSl (k i : Nat) : SM := fun s => match s.sl[i]? with
  | some (some (.sh d)) => some (.ok (.rt (.sh d)) s)
  | some (some (.pt n)) => match s.ce[n]? with
    | some o => if k ≤ n then some (.ok (.rt o) { s with ce := s.ce.set n .gone }) else none
    | none => none
  | _ => none
theorem St.take_out {K : PySem.W.Frag} {g : Gh} {s : S} {σ : L2.St} {H : Hp} (st : St K g s σ H) {n : Nat} {o : O} (e : s.ce[n]? = some o) : ∃ g' v r, g.cv[n]? = some v ∧ Go g H g' H ∧ St K g' { s with ce := s.ce.set n .gone } σ H ∧ RepO K g'.F H g'.m o v r ∧ ∀ a, r = some a → ¬ g'.own a ∧ g.own a := by
  obtain ⟨v, r, h1, h2, h3⟩ := st.ce.at_ n o e
  have mem_back : ∀ a, some a ∈ g.Rs.set n none → some a ∈ g.Rs ∧ some a ≠ r := fun a ha => by
    obtain ⟨i, hi⟩ := List.getElem?_of_mem ha
    by_cases q : n = i
    · subst q
      have lt : n < g.Rs.length := (List.getElem?_eq_some_iff.mp h2).1
      rw [List.getElem?_set_self lt] at hi
      cases hi
    · rw [List.getElem?_set_ne q] at hi
      refine ⟨List.mem_of_getElem? hi, fun z => q (st.ce.uq n i a (by rw [h2, z]) hi)⟩
  refine ⟨{ g with Rs := g.Rs.set n none }, v, r, h1, ⟨Sub.refl _, Pre.refl _, fun _ _ z => z, fun _ _ z _ _ => z, fun _ z => z, fun a u z => .inl (by rw [z]; exact fun y => nomatch y), fun a z => .inl (z.elim (fun z => .inl (mem_back a z).1) .inr)⟩, ⟨st.sub, st.len, st.slot, ?_, st.tb, fun a z1 z2 => st.dj a (mem_back a z1).1 z2⟩, h3, fun a ea => ⟨fun z => ?_, .inl (by subst ea; exact List.mem_of_getElem? h2)⟩⟩
  · exact st.ce.put (F' := g.F) e h1 h2 (Sub.refl _) (Pre.refl _) (fun a ha ne => ⟨(st.ce.own_ ha).1, fun _ z => z⟩) .gone (.inr rfl)
  · rcases z with z | z
    · exact (mem_back a z).2 ea.symm
    · subst ea; exact st.dj a (List.mem_of_getElem? h2) z
theorem vs_retSl (k i : Nat) (h : PE X e (tVar i)) : VS X W (.Return (some e) pos) (mRetSl k i) :=
  ps_imp (ps_ret h) fun D σ H ⟨g, s, st, q⟩ => by
    have q := q.run
    unfold mRetSl at q
    split at q
    · rename_i d hx
      obtain ⟨v, hv, r⟩ := st.slot i _ hx
      exact ⟨v, hv, q v σ H g (Go.refl g H) st ⟨none, .sh r, fun a e => nomatch e⟩⟩
    · rename_i n hx
      split at q
      · rename_i o ho
        split at q
        · obtain ⟨v, hv, r⟩ := st.slot i _ hx
          obtain ⟨g', w, r', k1, k2, k3, k4, k5⟩ := st.take_out ho
          have ew : w = v := Option.some.inj (k1.symm.trans r)
          subst ew
          exact ⟨w, hv, q w σ H g' k2 k3 ⟨r', k4, fun a ea => ⟨(k5 a ea).1, .inl (k5 a ea).2⟩⟩⟩
        · exact q.elim
      · exact q.elim
    · exact q.elim
end
end Vs
namespace Vs
open PySem PySem.Spec PyProof.Rows L2

def putSl (i : Nat) (o : O) : SM := fun s => match o with
  | .sh d => some (.ok .nx { s with sl := s.sl.set i (some (.sh d)) })
  | .gone => none
  | o => some (.ok .nx { s with sl := s.sl.set i (some (.pt s.ce.length)), ce := s.ce ++ [o] })
section
variable {K : PySem.W.Frag} {g : Gh} {s : S} {σ : L2.St} {H : Hp}
theorem St.setSh (st : St K g s σ H) {d : D} {v : V} (r : Rep K g.F g.m d v) (i : Nat) : St K g { s with sl := s.sl.set i (some (.sh d)) } (σ.set i (some v)) H := by
  refine ⟨st.sub, by rw [List.length_set, List.length_set]; exact st.len, fun j x e => ?_, st.ce, st.tb, st.dj⟩
  have e' : (s.sl.set i (some (Vl.sh d)))[j]? = some (some x) := e
  by_cases q : i = j
  · subst q
    have lt : i < s.sl.length := by
      have := (List.getElem?_eq_some_iff.mp e').1
      rw [List.length_set] at this; exact this
    rw [List.getElem?_set_self lt] at e'
    cases e'
    exact ⟨v, List.getElem?_set_self (by rw [← st.len]; exact lt), r⟩
  · rw [List.getElem?_set_ne q] at e'
    obtain ⟨w, h1, h2⟩ := st.slot j x e'
    exact ⟨w, by rw [List.getElem?_set_ne q]; exact h1, h2⟩
theorem St.setPt (st : St K g s σ H) {o : O} {v : V} {r : Option Addr} (ro : RepO K g.F H g.m o v r) (fr : ∀ a, r = some a → ¬ g.own a) (i : Nat) :
    St K { g with cv := g.cv ++ [v], Rs := g.Rs ++ [r] } { s with sl := s.sl.set i (some (.pt s.ce.length)), ce := s.ce ++ [o] } (σ.set i (some v)) H := by
  refine ⟨st.sub, by rw [List.length_set, List.length_set]; exact st.len, fun j x e => ?_, st.ce.snoc ro fun a ea z => fr a ea (.inl z), st.tb, fun a h1 h2 => ?_⟩
  · have e' : (s.sl.set i (some (Vl.pt s.ce.length)))[j]? = some (some x) := e
    by_cases q : i = j
    · subst q
      have lt : i < s.sl.length := by
        have := (List.getElem?_eq_some_iff.mp e').1
        rw [List.length_set] at this; exact this
      rw [List.getElem?_set_self lt] at e'
      cases e'
      refine ⟨v, List.getElem?_set_self (by rw [← st.len]; exact lt), ?_⟩
      show (g.cv ++ [v])[s.ce.length]? = some v
      rw [← st.ce.lv, List.getElem?_append_right (Nat.le_refl _)]
      simp
    · rw [List.getElem?_set_ne q] at e'
      obtain ⟨w, h1, h2⟩ := st.slot j x e'
      refine ⟨w, by rw [List.getElem?_set_ne q]; exact h1, ?_⟩
      cases x with
      | sh d => exact h2
      | pt n =>
        have h2' : g.cv[n]? = some w := h2
        show (g.cv ++ [v])[n]? = some w
        rw [List.getElem?_append_left (List.getElem?_eq_some_iff.mp h2').1]; exact h2'
  · rcases List.mem_append.mp h1 with z | z
    · exact st.dj a z h2
    · have : r = some a := (List.mem_singleton.mp z).symm
      exact fr a this (.inr h2)
theorem Go.setPt {g0 : Gh} {H0 : Hp} (go : Go g0 H0 g H) {v : V} {r : Option Addr} (fr : ∀ a, r = some a → g0.own a ∨ H0 a = none) : Go g0 H0 { g with cv := g.cv ++ [v], Rs := g.Rs ++ [r] } H :=
  ⟨go.F, go.m, fun n w h => by
    have h1 := go.cv n w h
    show (g.cv ++ [v])[n]? = some w
    rw [List.getElem?_append_left (List.getElem?_eq_some_iff.mp h1).1]; exact h1, go.keep, go.trk, go.frz, fun a h => by
    rcases h with h | h
    · rcases List.mem_append.mp h with z | z
      · exact go.rts a (.inl z)
      · have : r = some a := (List.mem_singleton.mp z).symm
        exact fr a this
    · exact go.rts a (.inr h)⟩
theorem putSl_ok {W : WX} {g0 : Gh} {H0 : Hp} {D : Ends} {o : O} {v : V} {i : Nat} (go : Go g0 H0 g H) (st : St K g s σ H) (r : rO K g0 H0 g H σ o v) (hk : sAt K W g0 H0 D (putSl i o) s) : D.nx (σ.set i (some v)) H := by
  obtain ⟨r, h1, h2⟩ := r
  have q := hk.run
  have big : ∀ o', (∀ d, o' ≠ .sh d) → o' ≠ .gone → putSl i o' s = some (.ok .nx { s with sl := s.sl.set i (some (.pt s.ce.length)), ce := s.ce ++ [o'] }) := fun o' n1 n2 => by
    cases o' with
    | sh d => exact absurd rfl (n1 d)
    | gone => exact absurd rfl n2
    | _ => rfl
  by_cases hg : o = .gone
  · subst hg; exact q.elim
  · by_cases hs : ∃ d, o = .sh d
    · obtain ⟨d, rfl⟩ := hs
      cases h1 with
      | sh h1 => exact q _ H g go (st.setSh h1 i)
    · rw [big o (fun d e => hs ⟨d, e⟩) hg] at q
      exact q _ H _ (go.setPt fun a ea => (h2 a ea).2) (st.setPt h1 (fun a ea => (h2 a ea).1) i)
end
def mSet (i : Nat) (m : M O) : SM := bnd m (putSl i)
section
variable {X : Cx} {W : WX} {st : Stmt} {rest body orelse : List Stmt} {e c : Expr} {pos : Pos} {m m1 m2 : SM}
theorem vs_asgn {i : Nat} {t : TE} {mo : M O} (h : PS X st (tAsg t (gName i))) (imp : ∀ σ H Q, tG X.K W (rO X.K) mo σ H Q → t σ H Q) : VS X W st (mSet i mo) :=
  ps_imp h fun D σ H ⟨g, s, st, q⟩ => imp σ H _ (seqX st (Go.refl g H) q fun o s1 v H1 g1 _ go st1 r hk => putSl_ok go st1 ⟨r.choose, r.choose_spec.1, fun a ea => ⟨(r.choose_spec.2 a ea).1, (r.choose_spec.2 a ea).2⟩⟩ hk)
theorem vs_set {i : Nat} {x : Str} {pos' : Pos} {mo : M O} (hN : X.N.Nodup) (hi : X.N[i]? = some x) (hx : Loc X.env.scope x) (h : VF X W e mo) (hs : swapsWith e (some (.Name x pos')) pos.line X.env = pure false := by rfl)
    (hf : X.fn x = true ∨ X.env.scope.names.lookup x = some .local := by first | exact .inl rfl | exact .inr rfl) : VS X W (.Assign [.Name x pos'] e pos) (mSet i mo) :=
  vs_asgn (ps_set hN hi hx h hs hf) fun _ _ _ q => q
def mIfS (mt : M Bool) (m1 m2 : SM) : SM := bnd mt fun b => if b = true then m1 else m2
theorem vs_if {mt : M Bool} (hc : VT X W c mt) (h1 : VSs X W body m1) (h2 : VSs X W orelse m2) : VS X W (.If c body orelse pos) (mIfS mt m1 m2) :=
  ps_imp (ps_if hc h1 h2) fun D σ H ⟨g, s, st, q⟩ => seqX st (Go.refl g H) q fun b s1 v H1 g1 _ go st1 r hk => by
    subst r
    cases b with
    | true => exact ⟨g1, s1, st1, hk.later go⟩
    | false => exact ⟨g1, s1, st1, hk.later go⟩

abbrev TgM := D → S → Option S
/-- is: the slots that it may set -/
def tT (K : PySem.W.Frag) (is : List Nat) (t : TgM) : TG := fun v σ H Q => ∃ g s d s', St K g s σ H ∧ Rep K g.F g.m d v ∧ t d s = some s' ∧
  ∀ (σ' : L2.St) (g' : Gh), Go g H g' H → St K g' s' σ' H → g' = g → σ'.length = σ.length → (∀ j, j ∉ is → σ'[j]? = σ[j]?) → Q σ' H
abbrev VG (X : Cx) (is : List Nat) (e : Expr) (t : TgM) : Prop := PG X e (tT X.K is t)
theorem pg_imp {X : Cx} {e : Expr} {t t' : TG} (h : PG X e t) (i : ∀ v σ H Q, t' v σ H Q → t v σ H Q) : PG X e t' := ⟨fun pins s σ H v u Q I r q => h.run pins s σ H v u Q I r (i _ _ _ _ q)⟩
def tnm (i : Nat) : TgM := fun d s => some { s with sl := s.sl.set i (some (.sh d)) }
theorem vg_name {i : Nat} {x : Str} (hN : X.N.Nodup) (hi : X.N[i]? = some x) (hx : Loc X.env.scope x) (hf : X.fn x = true ∨ X.env.scope.names.lookup x = some .local := by first | exact .inl rfl | exact .inr rfl) : VG X [i] (.Name x pos) (tnm i) :=
  pg_imp (pg_name hN hi hx hf) fun v σ H Q ⟨g, s, d, s', st, r, e, k⟩ => by
    cases e
    refine k _ g (Go.refl g H) (st.setSh r i) rfl (List.length_set ..) fun j hj => ?_
    rw [List.getElem?_set_ne fun z => hj (by rw [z]; exact List.mem_cons_self)]
/-- several -/
abbrev TgsM := List D → S → Option S
def tTs (K : PySem.W.Frag) (is : List Nat) (t : TgsM) : TGs := fun vs σ H Q => ∃ g s ds s', St K g s σ H ∧ RepL K g.F g.m ds vs ∧ t ds s = some s' ∧
  ∀ (σ' : L2.St) (g' : Gh), Go g H g' H → St K g' s' σ' H → g' = g → σ'.length = σ.length → (∀ j, j ∉ is → σ'[j]? = σ[j]?) → Q σ' H
abbrev VGs (X : Cx) (is : List Nat) (es : List Expr) (t : TgsM) : Prop := PGs X es (tTs X.K is t)
theorem pgs_imp {X : Cx} {e : List Expr} {t t' : TGs} (h : PGs X e t) (i : ∀ v σ H Q, t' v σ H Q → t v σ H Q) : PGs X e t' := ⟨fun pins s σ H v u Q I r q => h.run pins s σ H v u Q I r (i _ _ _ _ q)⟩
def tgNil : TgsM := fun ds s => match ds with
  | [] => some s
  | _ => none
def tgCons (t : TgM) (u : TgsM) : TgsM := fun ds s => match ds with
  | d :: r => (t d s).bind (u r)
  | [] => none
theorem vgs_nil : VGs X [] [] tgNil := pgs_imp pgs_nil fun vs σ H Q ⟨g, s, ds, s', st, r, e, k⟩ => by
  cases r with
  | nil => cases e; exact ⟨rfl, k σ g (Go.refl g H) st rfl rfl fun _ _ => rfl⟩
  | cons _ _ => cases e
theorem vgs_cons {is js : List Nat} {a : Expr} {es : List Expr} {t : TgM} {u : TgsM} (h1 : VG X is a t) (h2 : VGs X js es u) (hs : (assignEach (a :: es) X.env).map (·.2) = assign a X.env :: (assignEach es X.env).map (·.2) := by rfl) : VGs X (is ++ js) (a :: es) (tgCons t u) :=
  pgs_imp (pgs_cons h1 h2 hs) fun vs σ H Q ⟨g, s, ds, s', st, r, e, k⟩ => by
    cases r with
    | nil => cases e
    | @cons d v ds vs r rr =>
      obtain ⟨s1, e1, e2⟩ := Option.bind_eq_some_iff.mp (show (t d s).bind (u ds) = some s' from e)
      refine ⟨v, vs, rfl, g, s, d, s1, st, r, e1, fun σ1 g1 go1 st1 eg l1 o1 => ?_⟩
      subst eg
      refine ⟨g1, s1, ds, s', st1, rr, e2, fun σ2 g2 go2 st2 eg l2 o2 => ?_⟩
      subst eg
      exact k σ2 g2 go2 st2 rfl (l2.trans l1) fun j hj => (o2 j fun z => hj (List.mem_append_right _ z)).trans (o1 j fun z => hj (List.mem_append_left _ z))
def ttup (n : Nat) (u : TgsM) : TgM := fun d s => match d with
  | .tup ds => if ds.length = n then u ds s else none
  | .ct ds => if ds.length = n then u ds s else none
  | _ => none
theorem vg_tup {is : List Nat} {es : List Expr} {k n : Nat} {u : TgsM} (hc : X.calm = true) (h : VGs X is es u) (hn : (assignEach es X.env).length = n := by rfl) (hst : (assignEach es X.env).findIdx? (·.1) = none := by rfl) : VG X is (.Tuple es k pos) (ttup n u) :=
  pg_imp (pg_tup hc h hn hst) fun v σ H Q ⟨g, s, d, s', st, r, e, k⟩ => by
    unfold ttup at e
    split at e
    · rename_i ds
      split at e
      · rename_i hl
        cases r with
        | tup h1 h2 => exact ⟨_, _, rfl, .inl (.inl (st.sub.tup _ _ h1)), h2.length.symm.trans hl, g, s, _, s', st, h2, e, k⟩
      · cases e
    · rename_i ds
      split at e
      · rename_i hl
        cases r with
        | ct h1 h2 => exact ⟨_, _, rfl, st.sub.sqT h1, h2.length.symm.trans hl, g, s, _, s', st, h2, e, k⟩
      · cases e
    · cases e
def mAsg (t : TgM) (m : M D) : SM := bnd m fun d s => (t d s).map fun s' => .ok .nx s'
theorem vs_asg {is : List Nat} {tg : Expr} {t : TgM} {md : M D} (he : VD X W e md) (hg : VG X is tg t) (hs : swapsWithSole [tg] e pos.line X.env = pure false := by rfl) (hw : swappedStores [tg] e X.env = pure none := by rfl)
    (h1 : (assignEach [tg] X.env).map (·.2) = [assign tg X.env] := by rfl) : VS X W (.Assign [tg] e pos) (mAsg t md) :=
  ps_imp (ps_asg he hg hs hw h1) fun D σ H ⟨g, s, st, q⟩ => seqX st (Go.refl g H) q fun d s1 v H1 g1 _ go st1 r hk => by
    have z : sRun X.K W g H D ((t d s1).map fun s' => .ok .nx s') := hk.run
    cases e : t d s1 with
    | none => rw [e] at z; exact z.elim
    | some s2 =>
      rw [e] at z
      exact ⟨g1, s1, d, s2, st1, r, e, fun σ' g' go' st' eg _ _ => by subst eg; exact z σ' H1 g' go st'⟩
/-- a, b = x, y: both values ahead of both stores -/
def mPar (i j : Nat) (m : M (List D)) : SM := bnd m fun ds s => match ds with
  | [d, e] => some (.ok .nx { s with sl := (s.sl.set i (some (.sh d))).set j (some (.sh e)) })
  | _ => none
theorem vs_par {i j : Nat} {x y : Str} {a b : Expr} {px py pt : Pos} {kt k2 : Nat} {pt2 : Pos} {m : M (List D)} (hc : X.calm = true) (hN : X.N.Nodup) (hi : X.N[i]? = some x) (hj : X.N[j]? = some y) (hij : i ≠ j)
    (hx : X.env.scope.names.lookup x = some .local) (hy : X.env.scope.names.lookup y = some .local) (ha : VA X W [a, b] m)
    (hw : swappedStores [.Tuple [.Name x px, .Name y py] kt pt] (.Tuple [a, b] k2 pt2) X.env = pure (some [x, y]))
    (hs : swapsWithSole [.Tuple [.Name x px, .Name y py] kt pt] (.Tuple [a, b] k2 pt2) pos.line X.env = pure false := by rfl) :
    VS X W (.Assign [.Tuple [.Name x px, .Name y py] kt pt] (.Tuple [a, b] k2 pt2) pos) (mPar i j m) :=
  ps_imp (ps_par hc hN hi hj hij hx hy ha hw hs) fun D σ H ⟨g, s, st, q⟩ => seqX st (Go.refl g H) q fun ds s1 vs H1 g1 _ go st1 r hk => by
    cases r with
    | nil => exact hk.run.elim
    | cons r1 r2 => cases r2 with
      | nil => exact hk.run.elim
      | cons r2 r3 => cases r3 with
        | nil => exact ⟨_, _, rfl, hk.run _ H1 g1 go ((st1.setSh r1 i).setSh r2 j)⟩
        | cons _ _ => exact hk.run.elim
end
end Vs
namespace Vs
open PySem PySem.Spec PyProof.Rows L2

def Yl (K : PySem.W.Frag) (g : Gh) (ds : List D) (J : It) : Prop := ∀ (g' : Gh) (H' : Hp), Sub g.F g'.F → Pre g.m g'.m → Sub g'.F H' → ∀ i : Nat,
  (i < ds.length → J.go i H') ∧ (∀ d x H'', ds[i]? = some d → J.yld i H' x H'' → Mk K g'.F H' g'.m (.sh d) x H'') ∧ (ds.length ≤ i → J.stop i H')
def rIt (K : PySem.W.Frag) : RRel (List D) It := fun _ _ g' _ _ ds J => Yl K g' ds J
abbrev VI (X : Cx) (W : WX) (tg e : Expr) (m : M (List D)) : Prop := PI X tg e (tG X.K W (rIt X.K) m)
theorem pi_imp {X : Cx} {tg e : Expr} {t t' : TI} (h : PI X tg e t) (i : ∀ σ H Q, t' σ H Q → t σ H Q) : PI X tg e t' := ⟨fun pins s σ H Q I q => h.run pins s σ H Q I (i _ _ _ q)⟩
theorem pi_or {X : Cx} {tg e : Expr} {t t' : TI} (h : PI X tg e t) (h' : PI X tg e t') : PI X tg e (fun σ H R => t σ H R ∨ t' σ H R) := ⟨fun pins s σ H Q I q => q.elim (h.run pins s σ H Q I) (h'.run pins s σ H Q I)⟩
theorem seqE {α β γ δ : Type} {K : PySem.W.Frag} {W : WX} {RR1 : RRel α β} {RR3 : RRel γ δ} {g0 : Gh} {H0 : Hp} {ma : M α} {k : α → M γ} {s : S} {g : Gh} {σ : L2.St} {H : Hp} {Q : δ → Hp → Prop} {Q1 : β → Hp → Prop} (st : St K g s σ H) (go0 : Go g0 H0 g H) (h : tAt K W RR3 g0 H0 (bnd ma k) s σ Q)
    (hk : ∀ (a : α) (s1 : S) (v : β) (H1 : Hp) (g1 : Gh), ma s = some (.ok a s1) → Go g H g1 H1 → Go g0 H0 g1 H1 → St K g1 s1 σ H1 → RR1 g H g1 H1 σ a v → tAt K W RR3 g0 H0 (k a) s1 σ Q → Q1 v H1) : tG K W RR1 ma σ H Q1 := by
  refine ⟨g, s, st, ⟨?_⟩⟩
  cases q : ma s with
  | none => have h := h.run; rw [bnd_no q] at h; exact h
  | some r =>
    cases r with
    | ok a s' => exact fun v H' g' go st' r => hk a s' v H' g' q go (go0.trans go) st' r ⟨by have h := h.run; rw [bnd_ok q] at h; exact h⟩
    | ex x s' =>
      have h := h.run
      rw [bnd_ex q] at h
      exact exOk.back h go0
section
variable {X : Cx} {W : WX} {tg e c : Expr} {pos : Pos}
/-- a list, a tuple, a text -/
def itD : D → Option (List D)
  | .lst ds => some ds
  | .tup ds => some ds
  | .rl ds => some ds
  | .ct ds => some ds
  | .str x => some (x.cps.toList.map fun c => .str ⟨#[c]⟩)
  | _ => none
def mItems (m : M D) : M (List D) := bnd m fun d => look fun _ => itD d
theorem vi_seq {m : M D} (h : VD X W e m) : VI X W tg e (mItems m) := by
  refine pi_imp (pi_or (pi_or (pi_list h) (pi_tup h)) (pi_str h)) fun σ H R ⟨g, s, st, q⟩ => ?_
  cases z : m s with
  | none => have q := q.run; unfold mItems at q; rw [bnd_no z] at q; exact q.elim
  | some r =>
    cases r with
    | ex x s' =>
      have q := q.run
      unfold mItems at q
      rw [bnd_ex z] at q
      exact .inl (.inl ⟨g, s, st, ⟨by rw [z]; exact q⟩⟩)
    | ok d s' =>
      have stuck : itD d = none → False := fun e => by
        have q := q.run
        unfold mItems at q
        rw [bnd_ok z, look_no e] at q
        exact q
      cases d with
      | lst ds =>
        refine .inl (.inl (seqE st (Go.refl g H) q fun d1 s1 v H1 g1 ez _ go st1 r hk => ?_))
        rw [z] at ez
        cases ez
        obtain ⟨ys, hy, hk2⟩ := hk.lkR
        cases hy
        cases r with
        | @lst a xs _ h0 h2 =>
          have h1 : SqL X.K g1.F a xs := .inl (.inl h0)
          refine ⟨a, rfl, ⟨xs, st1.sub.sqL h1⟩, hk2.ret go st1 fun g' H' sF sm sH i => ⟨fun hi => ?_, fun d x H'' hd y => ?_, fun hi => ⟨xs, sH.sqL (sF.sqL h1), by rw [← h2.length]; exact hi⟩⟩⟩
          · exact ⟨xs, xs[i]'(by rw [← h2.length]; exact hi), sH.sqL (sF.sqL h1), List.getElem?_eq_getElem _⟩
          · obtain ⟨e1, y⟩ := y
            subst e1
            obtain ⟨w, k1, k2⟩ := h2.get hd
            have := y xs (sH.sqL (sF.sqL h1))
            rw [k1] at this
            cases this
            exact .sh (k2.mono sF sm)
      | rl ds =>
        refine .inl (.inl (seqE st (Go.refl g H) q fun d1 s1 v H1 g1 ez _ go st1 r hk => ?_))
        rw [z] at ez
        cases ez
        obtain ⟨ys, hy, hk2⟩ := hk.lkR
        cases hy
        cases r with
        | @rl a xs _ h1 h2 =>
          refine ⟨a, rfl, ⟨xs, st1.sub.sqL h1⟩, hk2.ret go st1 fun g' H' sF sm sH i => ⟨fun hi => ?_, fun d x H'' hd y => ?_, fun hi => ⟨xs, sH.sqL (sF.sqL h1), by rw [← h2.length]; exact hi⟩⟩⟩
          · exact ⟨xs, xs[i]'(by rw [← h2.length]; exact hi), sH.sqL (sF.sqL h1), List.getElem?_eq_getElem _⟩
          · obtain ⟨e1, y⟩ := y
            subst e1
            obtain ⟨w, k1, k2⟩ := h2.get hd
            have := y xs (sH.sqL (sF.sqL h1))
            rw [k1] at this
            cases this
            exact .sh (k2.mono sF sm)
      | tup ds =>
        refine .inl (.inr (seqE st (Go.refl g H) q fun d1 s1 v H1 g1 ez _ go st1 r hk => ?_))
        rw [z] at ez
        cases ez
        obtain ⟨ys, hy, hk2⟩ := hk.lkR
        cases hy
        cases r with
        | @tup a xs _ h0 h2 =>
          have h1 : SqT X.K g1.F a xs := .inl (.inl h0)
          refine ⟨a, rfl, ⟨xs, st1.sub.sqT h1⟩, hk2.ret go st1 fun g' H' sF sm sH i => ⟨fun hi => ?_, fun d x H'' hd y => ?_, fun hi => ⟨xs, sH.sqT (sF.sqT h1), by rw [← h2.length]; exact hi⟩⟩⟩
          · exact ⟨xs, xs[i]'(by rw [← h2.length]; exact hi), sH.sqT (sF.sqT h1), List.getElem?_eq_getElem _⟩
          · obtain ⟨e1, y⟩ := y
            subst e1
            obtain ⟨w, k1, k2⟩ := h2.get hd
            have := y xs (sH.sqT (sF.sqT h1))
            rw [k1] at this
            cases this
            exact .sh (k2.mono sF sm)
      | ct ds =>
        refine .inl (.inr (seqE st (Go.refl g H) q fun d1 s1 v H1 g1 ez _ go st1 r hk => ?_))
        rw [z] at ez
        cases ez
        obtain ⟨ys, hy, hk2⟩ := hk.lkR
        cases hy
        cases r with
        | @ct a xs _ h1 h2 =>
          refine ⟨a, rfl, ⟨xs, st1.sub.sqT h1⟩, hk2.ret go st1 fun g' H' sF sm sH i => ⟨fun hi => ?_, fun d x H'' hd y => ?_, fun hi => ⟨xs, sH.sqT (sF.sqT h1), by rw [← h2.length]; exact hi⟩⟩⟩
          · exact ⟨xs, xs[i]'(by rw [← h2.length]; exact hi), sH.sqT (sF.sqT h1), List.getElem?_eq_getElem _⟩
          · obtain ⟨e1, y⟩ := y
            subst e1
            obtain ⟨w, k1, k2⟩ := h2.get hd
            have := y xs (sH.sqT (sF.sqT h1))
            rw [k1] at this
            cases this
            exact .sh (k2.mono sF sm)
      | str x =>
        refine .inr (seqE st (Go.refl g H) q fun d1 s1 v H1 g1 ez _ go st1 r hk => ?_)
        rw [z] at ez
        cases ez
        obtain ⟨ys, hy, hk2⟩ := hk.lkR
        cases hy
        cases r with
        | str _ =>
          have lz : (x.cps.toList.map fun c => D.str ⟨#[c]⟩).length = x.cps.size := by simp
          refine ⟨x, rfl, hk2.ret go st1 fun g' H' sF sm sH i => ⟨fun hi => ?_, fun d y H'' hd yy => ?_, fun hi => ?_⟩⟩
          · rw [lz] at hi; exact hi
          · obtain ⟨e1, c, hc, e2⟩ := yy
            subst e1; subst e2
            rw [List.getElem?_map] at hd
            have hc' : x.cps.toList[i]? = some c := by simpa using hc
            rw [hc'] at hd
            cases hd
            exact .sh (.str _)
          · rw [lz] at hi; exact hi
      | _ => exact (stuck rfl).elim
/-- range -/
def small62 (i : Int) : Bool := decide (-(2 ^ 62) ≤ i) && decide (i < 2 ^ 62)
def rgL (lo : Int) (n : Nat) : List D := (List.range n).map fun i => .int (lo + (i : Nat))
theorem rg_yl {K : PySem.W.Frag} {g : Gh} (lo : Int) (n : Nat) : Yl K g (rgL lo n) (Itr lo n) := fun g' H' _ _ _ i => by
  have lz : (rgL lo n).length = n := by unfold rgL; simp
  refine ⟨fun hi => by rw [lz] at hi; exact hi, fun d x H'' hd y => ?_, fun hi => by rw [lz] at hi; exact hi⟩
  obtain ⟨e1, e2⟩ := y
  subst e1; subst e2
  unfold rgL at hd
  rw [List.getElem?_map] at hd
  by_cases hi : i < n
  · rw [List.getElem?_range hi] at hd
    cases hd
    exact .sh (.int _)
  · rw [List.getElem?_eq_none (by simpa using hi)] at hd; cases hd
def mRange1 (m : M (List D)) : M (List D) := bnd m fun ds => look fun _ => match ds with
  | [.int j] => if small62 j = true then some (rgL 0 j.toNat) else none
  | _ => none
def mRange2 (m : M (List D)) : M (List D) := bnd m fun ds => look fun _ => match ds with
  | [.int i, .int j] => if (small62 i && small62 j) = true then some (rgL i (j - i).toNat) else none
  | _ => none
theorem small62_ok {i : Int} (h : small62 i = true) : -(2 ^ 62) ≤ i ∧ i < 2 ^ 62 := by
  unfold small62 at h
  rw [Bool.and_eq_true, decide_eq_true_eq, decide_eq_true_eq] at h
  exact h
theorem vi_range1 {a : Expr} {m : M (List D)} {p : Pos} (hg : Gl X "range") (hm : X.mg "range" = none) (ha : VA X W [a] m) (hs : starEach [a] X.env = [(false, eval a X.env)] := by rfl) : VI X W tg (.Call (.Name "range" p) [a] [] pos) (mRange1 m) :=
  pi_imp (pi_range1 hg hm ha hs) fun σ H R ⟨g, s, st, q⟩ => seq st (Go.refl g H) q fun ds s1 vs H1 g1 _ go st1 r hk => by
    obtain ⟨ys, hy, hk2⟩ := hk.lkR
    split at hy
    · rename_i j
      split at hy
      · rename_i hz
        cases hy
        cases r with
        | cons r1 r2 => cases r2; cases r1
                        exact ⟨j, rfl, (small62_ok hz).1, (small62_ok hz).2, hk2.ret go st1 (rg_yl 0 _)⟩
      · cases hy
    · cases hy
theorem vi_range2 {a b : Expr} {m : M (List D)} {p : Pos} (hg : Gl X "range") (hm : X.mg "range" = none) (ha : VA X W [a, b] m) (hs : starEach [a, b] X.env = [(false, eval a X.env), (false, eval b X.env)] := by rfl) (hs2 : starEach [b] X.env = [(false, eval b X.env)] := by rfl) : VI X W tg (.Call (.Name "range" p) [a, b] [] pos) (mRange2 m) :=
  pi_imp (pi_range2 hg hm ha hs hs2) fun σ H R ⟨g, s, st, q⟩ => seq st (Go.refl g H) q fun ds s1 vs H1 g1 _ go st1 r hk => by
    obtain ⟨ys, hy, hk2⟩ := hk.lkR
    split at hy
    · rename_i i j
      split at hy
      · rename_i hz
        rw [Bool.and_eq_true] at hz
        cases hy
        cases r with
        | cons r1 r2 => cases r2 with
          | cons r2 r3 =>
            cases r3; cases r1; cases r2
            exact ⟨i, j, rfl, ⟨(small62_ok hz.1).1, (small62_ok hz.1).2, (small62_ok hz.2).1, (small62_ok hz.2).2⟩, hk2.ret go st1 (rg_yl i _)⟩
      · cases hy
    · cases hy
end

def loopF (tg : TgM) (body : SM) : List D → SM
  | [] => ret .nx
  | d :: r => fun s => match tg d s with
    | none => none
    | some s1 => match body s1 with
      | some (.ok .nx s2) => loopF tg body r s2
      | some (.ok .ct s2) => loopF tg body r s2
      | some (.ok .bk s2) => some (.ok .nx s2)
      | some (.ok (.rt o) s2) => some (.ok (.rt o) s2)
      | some (.ex x s2) => some (.ex x s2)
      | none => none
def mFor (mi : M (List D)) (tg : TgM) (body : SM) : SM := bnd mi fun ds => loopF tg body ds
section
variable {X : Cx} {W : WX} {tg iter c : Expr} {body : List Stmt} {pos : Pos}
theorem Mk.sh_done {K : PySem.W.Frag} {g0 g : Gh} {H0 H H' : Hp} {s : S} {σ : L2.St} {d : D} {w : V} (mk : Mk K g.F H g.m (.sh d) w H') (st : St K g s σ H) (go : Go g0 H0 g H) : ∃ g', Go g0 H0 g' H' ∧ Go g H g' H' ∧ St K g' s σ H' ∧ Rep K g'.F g'.m d w := by
  obtain ⟨g', a, b, r, ro, _⟩ := mk.done st go
  obtain ⟨g2, a2, b2, r2, ro2, _⟩ := mk.done st (Go.refl g H)
  refine ⟨g2, go.trans a2, a2, b2, ?_⟩
  cases ro2 with
  | sh q => exact q
theorem vs_for {is : List Nat} {t : TgM} {mb : SM} {mi : M (List D)} (hp : PassesOwn (model X.prog X.w) X.A X.env X.xe) (hc : X.calm = true) (hi : VI X W tg iter mi) (hg : VG X is tg t) (hb : VSs X W body mb) (hs : ∀ x, foldedSetIterable iter X.env x = pure x := by intro _; rfl) :
    VS X W (.For tg iter body [] pos) (mFor mi t mb) :=
  ps_imp (ps_for hp hc hi hg hb hs) fun E σ0 H0 ⟨g0, s0, st0, q⟩ => seqX st0 (Go.refl g0 H0) q fun ds s1 J H1 g1 _ go1 st1 yl hk => by
    refine ⟨fun i m σ H => m = ds.length - i ∧ ∃ g s, Go g0 H0 g H ∧ Sub g1.F g.F ∧ Pre g1.m g.m ∧ St X.K g s σ H ∧ sAt X.K W g0 H0 E (loopF t mb (ds.drop i)) s, ⟨ds.length, rfl, g1, s1, go1, Sub.refl _, Pre.refl _, st1, hk⟩, ?_⟩
    rintro i m σ H ⟨rfl, g, s, go, sF, sm, st, hl⟩
    obtain ⟨y1, y2, y3⟩ := yl g H sF sm st.sub i
    by_cases hi : i < ds.length
    · refine .inr ⟨y1 hi, fun σ' H' => ∃ g' s', Go g0 H0 g' H' ∧ Sub g1.F g'.F ∧ Pre g1.m g'.m ∧ St X.K g' s' σ' H' ∧ sAt X.K W g0 H0 E (loopF t mb (ds.drop (i + 1))) s', fun σ' H' ⟨g', s', a, b, c, d, e⟩ => ⟨ds.length - (i + 1), by omega, rfl, g', s', a, b, c, d, e⟩, fun x H' yy => ?_⟩
      have ed : ds.drop i = ds[i] :: ds.drop (i + 1) := List.drop_eq_getElem_cons hi
      obtain ⟨g2, go2, go12, st2, r2⟩ := (y2 ds[i] x H' (List.getElem?_eq_getElem hi) yy).sh_done st go
      have hl := hl.run
      rw [ed] at hl
      have hl : sRun X.K W g0 H0 E (match t ds[i] s with
        | none => none
        | some s1 => match mb s1 with
          | some (.ok .nx s2) => loopF t mb (ds.drop (i + 1)) s2
          | some (.ok .ct s2) => loopF t mb (ds.drop (i + 1)) s2
          | some (.ok .bk s2) => some (.ok .nx s2)
          | some (.ok (.rt o) s2) => some (.ok (.rt o) s2)
          | some (.ex x s2) => some (.ex x s2)
          | none => none) := hl
      cases e1 : t ds[i] s with
      | none => rw [e1] at hl; exact hl.elim
      | some s3 =>
        rw [e1] at hl
        simp only at hl
        refine ⟨g2, s, ds[i], s3, st2, r2, e1, fun σ3 g3 _ st3 eg _ _ => ?_⟩
        subst eg
        refine ⟨g3, s3, st3, ⟨?_⟩⟩
        cases e2 : mb s3 with
        | none => rw [e2] at hl; exact hl.elim
        | some r =>
          rw [e2] at hl
          cases r with
          | ex x s4 => exact fun cls dd σ' H'' g' y st' rx => hl cls dd σ' H'' g' (go2.trans y) st' rx
          | ok fl s4 =>
            cases fl with
            | nx => exact fun σ' H'' g' y st' => ⟨g', s4, go2.trans y, sF.trans (go12.F.trans y.F), sm.trans (go12.m.trans y.m), st', ⟨hl⟩⟩
            | ct => exact fun σ' H'' g' y st' => ⟨g', s4, go2.trans y, sF.trans (go12.F.trans y.F), sm.trans (go12.m.trans y.m), st', ⟨hl⟩⟩
            | bk => exact fun σ' H'' g' y st' => hl σ' H'' g' (go2.trans y) st'
            | rt o => exact fun v σ' H'' g' y st' r => hl v σ' H'' g' (go2.trans y) st' (rO_back go2 g' H'' o v y r)
    · refine .inl ⟨y3 (by omega), ?_⟩
      have hl := hl.run
      rw [List.drop_eq_nil_of_le (by omega)] at hl
      exact hl σ H g go st
def loopW (mt : M Bool) (body : SM) : Nat → SM
  | 0 => fun _ => none
  | n + 1 => fun s => match mt s with
    | some (.ok false s1) => some (.ok .nx s1)
    | some (.ok true s1) => (match body s1 with
      | some (.ok .nx s2) => loopW mt body n s2
      | some (.ok .ct s2) => loopW mt body n s2
      | some (.ok .bk s2) => some (.ok .nx s2)
      | some (.ok (.rt o) s2) => some (.ok (.rt o) s2)
      | some (.ex x s2) => some (.ex x s2)
      | none => none)
    | some (.ex x s1) => some (.ex x s1)
    | none => none
theorem vs_while {mt : M Bool} {mb : SM} (n : Nat) (hp : PassesOwn (model X.prog X.w) X.A X.env X.xe) (hc : VT X W c mt) (hb : VSs X W body mb) : VS X W (.While c body [] pos) (loopW mt mb n) :=
  ps_imp (ps_while hp hc hb) fun E σ0 H0 ⟨g0, s0, st0, q⟩ => by
    refine ⟨fun m σ H => ∃ g s, Go g0 H0 g H ∧ St X.K g s σ H ∧ sAt X.K W g0 H0 E (loopW mt mb m) s, ⟨n, g0, s0, Go.refl g0 H0, st0, q⟩, ?_⟩
    rintro m σ H ⟨g, s, go, st, hl⟩
    have hl := hl.run
    cases m with
    | zero => exact hl.elim
    | succ m =>
      have hl : sRun X.K W g0 H0 E (match mt s with
        | some (.ok false s1) => some (.ok .nx s1)
        | some (.ok true s1) => (match mb s1 with
          | some (.ok .nx s2) => loopW mt mb m s2
          | some (.ok .ct s2) => loopW mt mb m s2
          | some (.ok .bk s2) => some (.ok .nx s2)
          | some (.ok (.rt o) s2) => some (.ok (.rt o) s2)
          | some (.ex x s2) => some (.ex x s2)
          | none => none)
        | some (.ex x s1) => some (.ex x s1)
        | none => none) := hl
      refine ⟨g, s, st, ⟨?_⟩⟩
      cases e1 : mt s with
      | none => rw [e1] at hl; exact hl.elim
      | some r =>
        rw [e1] at hl
        cases r with
        | ex x s1 => exact fun cls dd H' g' y st' rx => hl cls dd σ H' g' (go.trans y) st' rx
        | ok b s1 =>
          intro v H1 g1 y1 st1 rb
          have rb : b = v := rb
          subst rb
          cases b with
          | false => exact hl σ H1 g1 (go.trans y1) st1
          | true =>
            refine ⟨fun σ' H' => ∃ g' s', Go g0 H0 g' H' ∧ St X.K g' s' σ' H' ∧ sAt X.K W g0 H0 E (loopW mt mb m) s', fun σ' H' z => ⟨m, Nat.lt_succ_self m, z⟩, g1, s1, st1, ⟨?_⟩⟩
            simp only at hl
            have go1 := go.trans y1
            cases e2 : mb s1 with
            | none => rw [e2] at hl; exact hl.elim
            | some r =>
              rw [e2] at hl
              cases r with
              | ex x s4 => exact fun cls dd σ' H'' g' y st' rx => hl cls dd σ' H'' g' (go1.trans y) st' rx
              | ok fl s4 =>
                cases fl with
                | nx => exact fun σ' H'' g' y st' => ⟨g', s4, go1.trans y, st', ⟨hl⟩⟩
                | ct => exact fun σ' H'' g' y st' => ⟨g', s4, go1.trans y, st', ⟨hl⟩⟩
                | bk => exact fun σ' H'' g' y st' => hl σ' H'' g' (go1.trans y) st'
                | rt o => exact fun v σ' H'' g' y st' r => hl v σ' H'' g' (go1.trans y) st' (rO_back go1 g' H'' o v y r)
end
end Vs
namespace Vs
open PySem PySem.Spec PyProof.Rows L2

def wipeL {α : Type} (l : List (Option α)) : List Nat → List (Option α)
  | [] => l
  | v :: vs => (wipeL l vs).set v none
theorem wipeL_len {α : Type} (l : List (Option α)) : ∀ vs : List Nat, (wipeL l vs).length = l.length
  | [] => rfl
  | v :: vs => by unfold wipeL; rw [List.length_set, wipeL_len l vs]
theorem wipeL_some {α : Type} {l : List (Option α)} {i : Nat} {x : α} : ∀ {vs : List Nat}, (wipeL l vs)[i]? = some (some x) → l[i]? = some (some x) ∧ i ∉ vs
  | [], h => ⟨h, fun z => by cases z⟩
  | v :: vs, h => by
    unfold wipeL at h
    by_cases hi : v = i
    · subst hi
      by_cases hv : v < (wipeL l vs).length
      · rw [List.getElem?_set_self hv] at h; cases h
      · rw [List.getElem?_eq_none (by simpa using hv)] at h; cases h
    · rw [List.getElem?_set_ne hi] at h
      obtain ⟨h1, h2⟩ := wipeL_some h
      refine ⟨h1, fun z => ?_⟩
      rcases List.mem_cons.mp z with z | z
      · exact hi z.symm
      · exact h2 z
theorem wipe_in {σ : L2.St} {i : Nat} : ∀ {vs : List Nat}, i ∈ vs → i < σ.length → (wipe σ vs)[i]? = some none
  | [], h, _ => by cases h
  | v :: vs, h, hl => by
    unfold wipe
    by_cases hi : v = i
    · subst hi; rw [List.getElem?_set_self (by rw [wipe_length]; exact hl)]
    · rw [List.getElem?_set_ne hi]
      rcases List.mem_cons.mp h with z | z
      · exact absurd z.symm hi
      · exact wipe_in z hl
theorem wipe_ext {σ τ : L2.St} {vs : List Nat} (hl : σ.length = τ.length) (h : ∀ j, j ∉ vs → σ[j]? = τ[j]?) : wipe σ vs = wipe τ vs := by
  apply List.ext_getElem?
  intro j
  by_cases hj : j ∈ vs
  · by_cases hb : j < σ.length
    · rw [wipe_in hj hb, wipe_in hj (by rw [← hl]; exact hb)]
    · rw [List.getElem?_eq_none (by rw [wipe_length]; omega), List.getElem?_eq_none (by rw [wipe_length]; omega)]
  · rw [wipe_out hj, wipe_out hj]; exact h j hj
theorem wipe_wipe {σ τ : L2.St} {vs is : List Nat} (hl : σ.length = (wipe τ vs).length) (h : ∀ j, j ∉ is → σ[j]? = (wipe τ vs)[j]?) (hi : ∀ i ∈ is, i ∈ vs) : wipe σ vs = wipe τ vs :=
  wipe_ext (hl.trans (wipe_length τ vs)) fun j hj => (h j fun z => hj (hi j z)).trans (wipe_out hj)
def compL (sl0 : List (Option Vl)) (t : TgM) (mc : M Bool) (me : M D) : List D → List D → M (List D)
  | acc, [] => ret acc
  | acc, d :: r => fun s => match t d { s with sl := sl0 } with
    | none => none
    | some s1 => match mc s1 with
      | some (.ok true s2) => (match me s2 with
        | some (.ok y s3) => if acc.length < 1000000 then compL sl0 t mc me (acc ++ [y]) r s3 else none
        | _ => none)
      | some (.ok false s2) => compL sl0 t mc me acc r s2
      | _ => none
def mComp (vs : List Nat) (mi : M (List D)) (t : TgM) (mc : M Bool) (me : M D) : M O := bnd mi fun ds s => match compL (wipeL s.sl vs) t mc me [] ds s with
  | some (.ok acc s') => some (.ok (.ol acc) { s' with sl := s.sl })
  | _ => none
section
variable {K : PySem.W.Frag} {g g0 : Gh} {s : S} {σ : L2.St} {H H0 : Hp}
theorem St.wiped (st : St K g s σ H) (vs : List Nat) : St K g { s with sl := wipeL s.sl vs } (wipe σ vs) H :=
  ⟨st.sub, by rw [wipe_length]; show (wipeL s.sl vs).length = _; rw [wipeL_len]; exact st.len, fun i x e => by
    obtain ⟨h1, h2⟩ := wipeL_some e
    obtain ⟨v, k1, k2⟩ := st.slot i x h1
    exact ⟨v, by rw [wipe_out h2]; exact k1, k2⟩, st.ce, st.tb, st.dj⟩
/-- the ghosts' growth alone -/
structure Up (g g' : Gh) : Prop where
  F : Sub g.F g'.F
  m : Pre g.m g'.m
  cv : ∀ (n : Nat) (v : V), g.cv[n]? = some v → g'.cv[n]? = some v
theorem Up.refl (g : Gh) : Up g g := ⟨Sub.refl _, Pre.refl _, fun _ _ h => h⟩
theorem Up.trans {a b c : Gh} (x : Up a b) (y : Up b c) : Up a c := ⟨x.F.trans y.F, x.m.trans y.m, fun n v h => y.cv n v (x.cv n v h)⟩
theorem Go.up {g g' : Gh} {H H' : Hp} (x : Go g H g' H') : Up g g' := ⟨x.F, x.m, x.cv⟩
/-- the slots of an elder moment, all else of a later one -/
theorem St.back {g' : Gh} {s' : S} {σ' : L2.St} {H' : Hp} (st : St K g s σ H) (go : Up g g') (st' : St K g' s' σ' H') : St K g' { s' with sl := s.sl } σ H' :=
  ⟨st'.sub, st.len, fun i x e => by
    obtain ⟨v, k1, k2⟩ := st.slot i x e
    refine ⟨v, k1, ?_⟩
    cases x with
    | sh d => exact Rep.mono go.F go.m k2
    | pt n => exact go.cv n v k2, st'.ce, st'.tb, st'.dj⟩
/-- a list of nobody's but the comprehension -/
structure Priv (g0 : Gh) (H0 : Hp) (g : Gh) (H : Hp) (p : Addr) (xs : List V) : Prop where
  at_ : H p = some (.lst xs)
  nF : g.F p = none
  no : ¬ g.own p
  h0 : H0 p = none
  no0 : ¬ g0.own p
theorem Priv.go {p : Addr} {xs : List V} {g' : Gh} {H' : Hp} (x : Priv g0 H0 g H p xs) (go : Go g H g' H') : Priv g0 H0 g' H' p xs :=
  ⟨go.keep p _ x.at_ x.no x.nF, (by
    cases q : g'.F p with
    | none => rfl
    | some u =>
      rcases go.frz p u q with z | z | z
      · exact absurd x.nF z
      · rw [x.at_] at z; cases z
      · exact absurd z x.no), fun z => (go.rts p z).elim x.no fun y => (by rw [x.at_] at y; cases y), x.h0, x.no0⟩

theorem Priv.upd_ {p : Addr} {xs ys : List V} (x : Priv g0 H0 g H p xs) : Priv g0 H0 g (upd H p (.lst ys)) p ys := ⟨upd_same, x.nF, x.no, x.h0, x.no0⟩
theorem Priv.upd_st {p : Addr} {xs ys : List V} (x : Priv g0 H0 g H p xs) (st : St K g s σ H) : St K g s σ (upd H p (.lst ys)) := by
  have nF : ∀ a u, g.F a = some u → a ≠ p := fun a u h e => by rw [e, x.nF] at h; cases h
  refine ⟨⟨fun a u r => ?_, fun a C d f r => by rw [upd_ne (nF a _ r)]; exact st.sub.ins a C d f r, fun a y r => by rw [upd_ne (nF a _ r)]; exact st.sub.lst a y r, fun a y r => by rw [upd_ne (nF a _ r)]; exact st.sub.tup a y r⟩, st.len, st.slot, st.ce.keep (Sub.refl _) (Pre.refl _) fun a ha => ⟨(st.ce.own_ ha).1, fun u z => ?_⟩, st.tb.keep (Sub.refl _) (Pre.refl _) fun a ha => ⟨(st.tb.own_ ha).1, fun u z => ?_⟩, st.dj⟩
  · have ne : a ≠ p := by
      rcases r with r | ⟨_, r⟩
      · exact nF a _ r
      · exact nF a _ r
    have r' := st.sub.rd a u r
    unfold Rd at r' ⊢
    rw [upd_ne ne]; exact r'
  · rw [upd_ne fun e => x.no (by rw [← e]; exact .inl ha)]; exact z
  · rw [upd_ne fun e => x.no (by rw [← e]; exact .inr ha)]; exact z
theorem Priv.upd_go {p : Addr} {xs ys : List V} (x : Priv g0 H0 g H p xs) (go : Go g0 H0 g H) : Go g0 H0 g (upd H p (.lst ys)) :=
  ⟨go.F, go.m, go.cv, fun a o e n f => by rw [upd_ne (ne_of_none e x.h0)]; exact go.keep a o e n f, fun a e => by
    by_cases q : a = p
    · subst q; rw [upd_same]; exact fun z => nomatch z
    · rw [upd_ne q]; exact go.trk a e, go.frz, go.rts⟩
end
abbrev W0 : WX := fun _ _ _ _ => False
theorem exOk0 {K : PySem.W.Frag} {g : Gh} {σ : L2.St} {H : Hp} {x : Ex} {s' : S} {P : Prop} (st : ∃ cls dd H' g', Go g H g' H' ∧ St K g' s' σ H' ∧ RepX K g' H' x cls dd) (h : exOk K W0 g σ H x s') : P := by
  obtain ⟨cls, dd, H', g', a, b, c⟩ := st
  exact (h cls dd H' g' a b c).elim
section
variable {K : PySem.W.Frag} {W : WX}
/-- one source walked: the list at p grows -/
theorem compL_run {vs is : List Nat} {t : TgM} {mc : M Bool} {me : M D} {g0 : Gh} {H0 : Hp} {g1 : Gh} {H1 : Hp} {s1 : S} {σ : L2.St} {p : Addr} {ds acc0 : List D} {J : It} {xs0 : List V} {Qn : List D → S → Gh → Hp → List V → Prop}
    (hvs : ∀ i ∈ is, i ∈ vs) (st1 : St K g1 s1 σ H1) (go1 : Go g0 H0 g1 H1) (pv : Priv g0 H0 g1 H1 p xs0) (ra : RepL K g1.F g1.m acc0 xs0) (yl : Yl K g1 ds J)
    (sl : List (Option Vl)) (esl : sl = s1.sl)
    (hk : ∃ acc s', compL (wipeL sl vs) t mc me acc0 ds s1 = some (.ok acc s') ∧ ∀ (g' : Gh) (H' : Hp) (xs : List V), Go g0 H0 g' H' → Up g1 g' → St K g' { s' with sl := sl } σ H' → Priv g0 H0 g' H' p xs → RepL K g'.F g'.m acc xs → Qn acc s' g' H' xs)
    {Qd : Hp → Prop} (hd : ∀ acc s' g' H' xs, Qn acc s' g' H' xs → Qd H') :
    ∃ Wv : Nat → Nat → Hp → Prop, (∃ m, Wv 0 m H1) ∧ ∀ i m H, Wv i m H →
      (J.stop i H ∧ Qd H) ∨ (J.go i H ∧ ∃ Nx : Hp → Prop, (∀ H', Nx H' → ∃ m', m' < m ∧ Wv (i + 1) m' H') ∧ ∀ x H', J.yld i H x H' → tT K is t x (wipe σ vs) H' fun σ2 H2 => wipe σ2 vs = wipe σ vs ∧ tG K W0 rB mc σ2 H2 fun b H3 =>
        if b = true then tG K W0 (rD K) me σ2 H3 fun y H4 => ∃ acc, H4 p = some (.lst acc) ∧ acc.length < sizeLine ∧ Nx (upd H4 p (.lst (acc ++ [y]))) else Nx H3) := by
  subst esl
  obtain ⟨fin, sfin, ek, hk⟩ := hk
  refine ⟨fun i m H => m = ds.length - i ∧ ∃ g s acc xs, Go g0 H0 g H ∧ Up g1 g ∧ St K g { s with sl := s1.sl } σ H ∧ Priv g0 H0 g H p xs ∧ RepL K g.F g.m acc xs ∧ compL (wipeL s1.sl vs) t mc me acc (ds.drop i) s = some (.ok fin sfin),
    ⟨ds.length, rfl, g1, s1, acc0, xs0, go1, Up.refl _, st1, pv, ra, ek⟩, ?_⟩
  rintro i m H ⟨rfl, g, s, acc, xs, go, g1go, st, pr, rl, hl⟩
  obtain ⟨y1, y2, y3⟩ := yl g H g1go.F g1go.m st.sub i
  by_cases hi : i < ds.length
  · refine .inr ⟨y1 hi, fun H' => ∃ g' s' acc' xs', Go g0 H0 g' H' ∧ Up g1 g' ∧ St K g' { s' with sl := s1.sl } σ H' ∧ Priv g0 H0 g' H' p xs' ∧ RepL K g'.F g'.m acc' xs' ∧ compL (wipeL s1.sl vs) t mc me acc' (ds.drop (i + 1)) s' = some (.ok fin sfin),
      fun H' z => ⟨ds.length - (i + 1), by omega, rfl, z⟩, fun x H' yy => ?_⟩
    have ed : ds.drop i = ds[i] :: ds.drop (i + 1) := List.drop_eq_getElem_cons hi
    rw [ed] at hl
    unfold compL at hl
    obtain ⟨g2, go2, go12, st2, r2⟩ := (y2 ds[i] x H' (List.getElem?_eq_getElem hi) yy).sh_done st go
    have pr2 := pr.go go12
    have rl2 := RepL.go rl go12
    cases e1 : t ds[i] { s with sl := wipeL s1.sl vs } with
    | none => rw [e1] at hl; cases hl
    | some s3 =>
      rw [e1] at hl
      simp only at hl
      refine ⟨g2, _, ds[i], s3, st2.wiped vs, r2, e1, fun σ3 g3 _ st3 eg l3 o3 => ?_⟩
      subst eg
      refine ⟨wipe_wipe l3 o3 hvs, g3, s3, st3, ⟨?_⟩⟩
      cases e2 : mc s3 with
      | none => rw [e2] at hl; cases hl
      | some r =>
        rw [e2] at hl
        cases r with
        | ex x s4 => cases hl
        | ok b s4 =>
          intro b' H4 g4 go4 st4 rb
          have rb : b = b' := rb
          subst rb
          have pr4 := pr2.go go4
          have rl4 := RepL.go rl2 go4
          cases b with
          | false =>
            rw [if_neg Bool.false_ne_true]
            exact ⟨g4, s4, acc, xs, go2.trans go4, g1go.trans (go12.trans go4).up, st2.back go4.up st4, pr4, rl4, hl⟩
          | true =>
            rw [if_pos rfl]
            simp only at hl
            refine ⟨g4, s4, st4, ⟨?_⟩⟩
            cases e3 : me s4 with
            | none => rw [e3] at hl; cases hl
            | some r =>
              rw [e3] at hl
              cases r with
              | ex x s5 => cases hl
              | ok y s5 =>
                intro v H5 g5 go5 st5 ry
                simp only at hl
                have pr5 := pr4.go go5
                have rl5 := RepL.go rl4 go5
                split at hl
                · rename_i hz
                  have go05 := go2.trans (go4.trans go5)
                  exact ⟨xs, pr5.at_, millionLt (by rw [← rl5.length]; exact hz), g5, s5, acc ++ [y], xs ++ [v], pr5.upd_go go05, g1go.trans (go12.trans (go4.trans go5)).up, pr5.upd_st (st2.back (go4.trans go5).up st5), pr5.upd_, rl5.append (.cons ry .nil), hl⟩
                · cases hl
  · refine .inl ⟨y3 (by omega), ?_⟩
    rw [List.drop_eq_nil_of_le (by omega)] at hl
    cases hl
    exact hd _ _ g H xs (hk g H xs go g1go st pr rl)
end

section
variable {K : PySem.W.Frag} {W : WX}
theorem comp_imp {vs is : List Nat} {t : TgM} {mi : M (List D)} {mc : M Bool} {me : M D} (hvs : ∀ i ∈ is, i ∈ vs) (σ : L2.St) (H : Hp) (Q : VK) (h : tG K W (rO K) (mComp vs mi t mc me) σ H Q) :
    tLc (tG K W (rIt K) mi) (tT K is t) (tG K W0 rB mc) (tG K W0 (rD K) me) vs σ H Q := by
  obtain ⟨g, s, st, q⟩ := h
  refine seq st (Go.refl g H) q fun ds s1 J H1 g1 _ go1 st1 yl hk p hp => ?_
  have hk := hk.run
  have h0 : H p = none := by
    cases z : H p with
    | none => rfl
    | some o => exact absurd hp (go1.trk p (by rw [z]; exact fun y => nomatch y))
  have no0 : ¬ g.own p := not_own st h0
  have pv : Priv g H g1 (upd H1 p (.lst [])) p [] := ⟨upd_same, free_of st1.sub hp, not_own st1 hp, h0, no0⟩
  cases e : compL (wipeL s1.sl vs) t mc me [] ds s1 with
  | none => rw [e] at hk; exact hk.elim
  | some r =>
    rw [e] at hk
    cases r with
    | ex x s' => exact hk.elim
    | ok acc s' =>
      refine compL_run (Qn := fun acc s' g' H' xs => Q (.ref p) H') hvs (st1.new hp) (go1.new hp) pv .nil yl s1.sl rfl ⟨acc, s', e, fun g' H' xs go' _ st' pr' rl' => ?_⟩ fun _ _ _ _ _ h => h
      exact hk (.ref p) H' g' go' st' ⟨some p, .ol pr'.nF pr'.at_ rl', fun a ea => by cases ea; exact ⟨pr'.no, .inr pr'.h0⟩⟩
end
section
variable {X : Cx} {W : WX}
abbrev VTs (X : Cx) (W : WX) (ifs : List Expr) (m : M Bool) : Prop := PTs X ifs (tG X.K W rB m)
theorem pts_imp {X : Cx} {e : List Expr} {t t' : TT} (h : PTs X e t) (i : ∀ σ H Q, t' σ H Q → t σ H Q) : PTs X e t' := ⟨fun pins s σ H Q I q => h.run pins s σ H Q I (i _ _ _ q)⟩
theorem vts_nil : VTs X W [] (ret true) := pts_imp pts_nil fun σ H Q ⟨g, s, st, q⟩ => q.ret (v := true) (Go.refl g H) st rfl
theorem vts_one {c : Expr} {m : M Bool} (h : VT X W c m) : VTs X W [c] m := pts_one h
theorem vf_lc {elt tg iter : Expr} {ifs : List Expr} {scope : Scope} {pos : Pos} {own : List (Str × Nat)} {is : List Nat} {t : TgM} {mi : M (List D)} {mc : M Bool} {me : M D} (hc : X.calm = true) (hN : X.N.Nodup) (hi : VI X W tg iter mi) (ok : BlkOk X.N X.env.scope scope own)
    (hvs : ∀ i ∈ is, i ∈ own.map (·.2))
    (hg : ∀ (s : Shared) (H : Hp) (C : Addr) (cl : List (Str × Addr)) (fp : List Addr), VG (X.blk s H scope (compEnvC scope cl C X.env) fp) is tg t) (ht : ∀ (s : Shared) (H : Hp) (C : Addr) (cl : List (Str × Addr)) (fp : List Addr), VTs (X.blk s H scope (compEnvC scope cl C X.env) fp) W0 ifs mc)
    (he : ∀ (s : Shared) (H : Hp) (C : Addr) (cl : List (Str × Addr)) (fp : List Addr), VD (X.blk s H scope (compEnvC scope cl C X.env) fp) W0 elt me) (hs : ∀ x, foldedSetIterable iter X.env x = pure x := by intro _; rfl) :
    VF X W (.ListComp elt [⟨tg, iter, ifs, 0⟩] scope pos) (mComp (own.map (·.2)) mi t mc me) :=
  pe_imp (pe_lc hc hN hi ok hg ht he hs) fun σ H Q h => comp_imp hvs σ H Q h
theorem vs_setLc {i : Nat} {y : Str} {py : Pos} {elt tg iter : Expr} {ifs : List Expr} {scope : Scope} {pos spos : Pos} {own : List (Str × Nat)} {is : List Nat} {t : TgM} {mi : M (List D)} {mc : M Bool} {me : M D} (hc : X.calm = true) (hN : X.N.Nodup) (hy : X.N[i]? = some y) (hyl : X.env.scope.names.lookup y = some .local)
    (hsw : swapsWith (.ListComp elt [⟨tg, iter, ifs, 0⟩] scope pos) (some (.Name y py)) spos.line X.env = pure true) (hi : VI X W tg iter mi) (ok : BlkOk X.N X.env.scope scope own) (hvs : ∀ i ∈ is, i ∈ own.map (·.2))
    (hg : ∀ (s : Shared) (H : Hp) (C : Addr) (cl : List (Str × Addr)) (fp : List Addr), VG (X.blk s H scope (compEnvC scope cl C X.env) fp) is tg t) (ht : ∀ (s : Shared) (H : Hp) (C : Addr) (cl : List (Str × Addr)) (fp : List Addr), VTs (X.blk s H scope (compEnvC scope cl C X.env) fp) W0 ifs mc)
    (he : ∀ (s : Shared) (H : Hp) (C : Addr) (cl : List (Str × Addr)) (fp : List Addr), VD (X.blk s H scope (compEnvC scope cl C X.env) fp) W0 elt me) (hs : ∀ x, foldedSetIterable iter X.env x = pure x := by intro _; rfl) :
    VS X W (.Assign [.Name y py] (.ListComp elt [⟨tg, iter, ifs, 0⟩] scope pos) spos) (mSet i (mComp (own.map (·.2)) mi t mc me)) :=
  vs_asgn (ps_setLc hc hN hy hyl hsw hi ok hg ht he hs) fun σ H Q h => comp_imp hvs σ H Q h
end

def mkFn (n : Nat) (m : SM) : Fn := fun args ce tb => match m ⟨args.map some ++ List.replicate (n - args.length) none, ce, tb⟩ with
  | some (.ok .nx s) => some (.ok (.sh .non) (s.ce.take ce.length) s.tb)
  | some (.ok (.rt o) s) => some (.ok o (s.ce.take ce.length) s.tb)
  | some (.ex x s) => some (.ex x (s.ce.take ce.length) s.tb)
  | _ => none
section
variable {K : PySem.W.Frag} {g g' : Gh} {s s' : S} {σ σ' : L2.St} {H H' : Hp}
/-- at a def's end -/
theorem fn_end {args : List Vl} {vs : List V} {ce tb : List O} (st : St K g ⟨args.map some, ce, tb⟩ (vs.map some) H) (go : Go g H g' H') (st' : St K g' s' σ' H') :
    ∃ g2, Go g H g2 H' ∧ St K g2 ⟨args.map some, s'.ce.take ce.length, s'.tb⟩ (vs.map some) H' ∧ (s'.ce.take ce.length).length = ce.length ∧ g2.F = g'.F ∧ g2.m = g'.m ∧ ∀ a, g2.own a → g'.own a := by
  have hl : ce.length ≤ s'.ce.length := by
    have h1 : ce.length = g.cv.length := st.ce.lv.symm
    have h2 : s'.ce.length = g'.cv.length := st'.ce.lv.symm
    rw [h1, h2]
    by_cases z : g.cv.length ≤ g'.cv.length
    · exact z
    · have lt : g'.cv.length < g.cv.length := by omega
      have := go.cv g'.cv.length g.cv[g'.cv.length] (List.getElem?_eq_getElem lt)
      rw [List.getElem?_eq_none (Nat.le_refl _)] at this
      cases this
  have ow : ∀ a, Gh.own { g' with cv := g'.cv.take ce.length, Rs := g'.Rs.take ce.length } a → g'.own a := fun a h => h.elim (fun z => .inl (List.mem_of_mem_take z)) .inr
  have cvk : ∀ (n : Nat) (v : V), g.cv[n]? = some v → (g'.cv.take ce.length)[n]? = some v := fun n v h => by
    have lt : n < ce.length := by
      have := (List.getElem?_eq_some_iff.mp h).1
      rw [st.ce.lv] at this; exact this
    rw [List.getElem?_take, if_pos lt]; exact go.cv n v h
  refine ⟨{ g' with cv := g'.cv.take ce.length, Rs := g'.Rs.take ce.length }, ⟨go.F, go.m, cvk, go.keep, go.trk, go.frz, fun a h => go.rts a (ow a h)⟩, ⟨st'.sub, st.len, fun i x e => ?_, st'.ce.take _, st'.tb, fun a h1 h2 => st'.dj a (List.mem_of_mem_take h1) h2⟩, by rw [List.length_take]; omega, rfl, rfl, ow⟩
  obtain ⟨v, k1, k2⟩ := st.slot i x e
  refine ⟨v, k1, ?_⟩
  cases x with
  | sh d => exact Rep.mono go.F go.m k2
  | pt n => exact cvk n v k2
theorem St.started {args : List Vl} {vs : List V} {ce tb : List O} {N : List Str} (st : St K g ⟨args.map some, ce, tb⟩ (vs.map some) H) : St K g ⟨args.map some ++ List.replicate (N.length - args.length) none, ce, tb⟩ (L2.start N vs) H := by
  have hl : args.length = vs.length := by have := st.len; simpa using this
  refine ⟨st.sub, ?_, fun i x e => ?_, st.ce, st.tb, st.dj⟩
  · unfold L2.start
    simp only [List.length_append, List.length_map, List.length_replicate, hl]
  · have e' : (args.map some ++ List.replicate (N.length - args.length) none)[i]? = some (some x) := e
    by_cases lt : i < args.length
    · rw [List.getElem?_append_left (by rw [List.length_map]; exact lt)] at e'
      obtain ⟨v, k1, k2⟩ := st.slot i x e'
      refine ⟨v, ?_, k2⟩
      unfold L2.start
      rw [List.getElem?_append_left (by rw [List.length_map, ← hl]; exact lt)]; exact k1
    · rw [List.getElem?_append_right (by rw [List.length_map]; omega), List.getElem?_replicate] at e'
      split at e' <;> cases e'
end
section
variable {P : Program} {w : World} {K : PySem.W.Frag} {mg : Str → Option Value} {base : Heap} {x qual : Str} {params : Arguments} {body : List Stmt} {scope : Scope} {dvs : List V} {kws : List (Str × V)} {f : Addr} {fd : FuncData} {N ps : List Str} {k : Nat} {m : SM}
/-- THE RULE for a def: its body's reading by trees -/
theorem fn_ok (F : FunD K x qual params body scope dvs kws f fd) (Sc : FnScope N ps scope) (hb : ∀ (cdv : Value) (A : Around) (outer : List Env) (s : Shared) (H : Hp) (E : XK), Room k (A.deeper (envOfC qual scope s.heap.objs.size f cdv)) →
      VSs (cxOf (L2.CX P w) P w K mg base N qual scope f cdv A outer s H E) (fun cls d _ H => E cls d H) body m) : FnOk P w K mg base (L2.CX P w) (k + 1) f fd ps (spOf K ps.length (mkFn N.length m)) := by
  refine F.ok Sc (fun vs H Q E h => h.1) fun cdv A outer s H vs Q E hr h => ⟨_, hb cdv A outer s H E hr, ?_⟩
  obtain ⟨hn, g, args, ce, tb, st, h⟩ := h
  refine ⟨g, _, st.started (N := N), ⟨?_⟩⟩
  unfold mkFn at h
  cases e : m ⟨args.map some ++ List.replicate (N.length - args.length) none, ce, tb⟩ with
  | none => rw [e] at h; exact h.elim
  | some r =>
    rw [e] at h
    cases r with
    | ex x s' =>
      intro cls d1 σ' H' g' go st' rx
      obtain ⟨g2, go2, st2, _, eF, em, _⟩ := fn_end st go st'
      refine h.2 cls d1 H' g2 go2 st2 ⟨rx.1, ?_⟩
      have r2 := rx.2
      cases hx : x.p with
      | none => rw [hx] at r2; exact r2
      | some fd =>
        rw [hx] at r2
        obtain ⟨a, v, q1, q2, q3⟩ := r2
        exact ⟨a, v, q1, q2, by rw [eF, em]; exact q3⟩
    | ok fl s' =>
      cases fl with
      | nx =>
        intro σ' H' g' go st'
        obtain ⟨g2, go2, st2, _⟩ := fn_end st go st'
        exact h.2 .non H' g2 go2 st2 ⟨none, .sh .non, fun a e => nomatch e⟩
      | rt o =>
        intro v σ' H' g' go st' rr
        obtain ⟨g2, go2, st2, _, eF, em, ow⟩ := fn_end st go st'
        obtain ⟨r, k1, k2⟩ := rr
        exact h.2 v H' g2 go2 st2 ⟨r, by rw [eF, em]; exact k1, fun a ea => ⟨fun z => (k2 a ea).1 (ow a z), (k2 a ea).2⟩⟩
      | bk => exact h.elim
      | ct => exact h.elim
end
section
variable {X : Cx} {W : WX} {k n : Nat} {f : Addr} {fd : FuncData} {ps : List Str} {F : Fn} {x : Str} {p pos : Pos} {e : Expr} {es : List Expr} {dvs : List V} {ds : List Value} {dd : List D}
def mCall (F : Fn) (dd : List D) (m : M (List Ref)) : M O := bnd m fun rs => callF F (rs ++ dd.map .va)
theorem refs_app {K : PySem.W.Frag} {g : Gh} {σ : L2.St} : ∀ {rs : List Ref} {vs : List V} {dd : List D} {dvs : List V}, RefsOk K g σ rs vs → RepL K g.F g.m dd dvs → RefsOk K g σ (rs ++ dd.map .va) (vs ++ dvs)
  | _, _, [], _, .nil, .nil => .nil
  | _, _, _ :: _, _, .nil, .cons h t => .cons (r := .va _) h (refs_app (rs := []) (vs := []) .nil t)
  | _, _, _, _, .cons h t, q => .cons h (refs_app t q)
theorem vf_call {m : M (List Ref)} (G : FnOk X.prog X.w X.K X.mg X.base (L2.CX X.prog X.w) k f fd ps (spOf X.K n F)) (hr : Room k X.A) (tk : Takes X W) (hg : Gl X x) (hm : X.mg x = some (.ref f)) (hk : PySem.W.keepIn X.K (.ref f) = true) (hb : Binds X.K fd ps ds) (hd : Vals dvs ds)
    (rd : ∀ F m, RepL X.K F m dd dvs) (ha : VAr X W (e :: es) m) (hn : es.length + 1 + dd.length = n) (hml : ∀ s rs s', m s = some (.ok rs s') → rs.length = es.length + 1)
    (hdb : (x == ("__debug__" : Str)) = false := by decide) (he : starEach (e :: es) X.env = (false, eval e X.env) :: starEach es X.env := by rfl) (hpl : (backTo pos (starEach es X.env)).any (·.1) = false := by rfl) :
    VF X W (.Call (.Name x p) (e :: es) [] pos) (mCall F dd m) :=
  pe_imp (pe_callSD (E := WE W) G hr hg hm hk hb hd (fun σ => passAt tk σ) ha hdb he hpl) fun σ H Q ⟨g, s, st, q⟩ => seqE st (Go.refl g H) q fun rs s1 vs H1 g1 ez _ go st1 ro hk => by
    have l1 := hml s rs s1 ez
    have l2 : rs.length = vs.length := by
      clear ez l1 hk
      induction ro with
      | nil => rfl
      | cons _ _ ih => exact congrArg (· + 1) ih
    have l3 : dd.length = dvs.length := RepL.length (rd g1.F g1.m)
    exact callF_sp (by rw [List.length_append]; omega) go st1 (refs_app ro (rd _ _)) hk
end
end Vs
namespace Vs
open PySem PySem.Spec PyProof.Rows L2

theorem mkI {K : PySem.W.Frag} {F H : Hp} {m : List Addr} {i : Int} : Mk K F H m (.sh (.int i)) (.int i) H := .sh (.int i)
theorem mkB {K : PySem.W.Frag} {F H : Hp} {m : List Addr} {b : Bool} : Mk K F H m (.sh (.bl b)) (.bl b) H := .sh (.bl b)
theorem mkS {K : PySem.W.Frag} {F H : Hp} {m : List Addr} {x : Str} : Mk K F H m (.sh (.str x)) (.str x) H := .sh (.str x)
abbrev oI (i : Int) : Option O := some (.sh (.int i))
abbrev oB (b : Bool) : Option O := some (.sh (.bl b))
abbrev oS (x : Str) : Option O := some (.sh (.str x))
/-- + of ints, texts, lists, tuples -/
def fAdd : D → D → Option O
  | .int i, .int j => oI (i + j)
  | .int i, .bl k => oI (i + b2i k)
  | .str x, .str y => if x.length + y.length ≤ 1000000 then oS (x ++ y) else none
  | .lst xs, .lst ys => if xs.length + ys.length ≤ 1000000 then some (.ol (xs ++ ys)) else none
  | .tup xs, .tup ys => if xs.length + ys.length ≤ 1000000 then some (.sh (.tup (xs ++ ys))) else none
  | _, _ => none
def fSub : D → D → Option O
  | .int i, .int j => oI (i - j)
  | _, _ => none
def mulOk (i j : Int) : Bool := (decide (-(2 ^ 64) < i) && decide (i < 2 ^ 64)) || (decide (-(2 ^ 64) < j) && decide (j < 2 ^ 64)) || decide (i.natAbs.log2 + j.natAbs.log2 < 1000000)
def fMul : D → D → Option O
  | .int i, .int j => if mulOk i j = true then oI (i * j) else none
  | _, _ => none
def fDiv : D → D → Option O
  | .int i, .int j => if 0 < j ∧ j.natAbs.log2 < 9000 then oI (i / j) else none
  | _, _ => none
def fMod : D → D → Option O
  | .int i, .int j => if 0 < j then oI (i % j) else none
  | _, _ => none
def fPow : D → D → Option O
  | .int i, .int j => if 0 ≤ j ∧ j ≤ 1000 ∧ i.natAbs.log2 ≤ 100000 then oI (i ^ j.toNat) else none
  | _, _ => none
def fNeg : D → Option O
  | .int i => oI (-i)
  | _ => none
section
variable {X : Cx}
theorem sub_int : Op2 X.K (rI0 fun i j => .int (i - j)) fSub := fun F H m x y o v u sb e rx ry Q k => by
  unfold fSub at e
  split at e
  · cases e; exact ⟨_, _, rx.int_, ry.int_, k _ _ mkI⟩
  · cases e
theorem mul_of : Op2 X.K (rI (fun i j => CMul i j ∨ CMulW i j) fun i j => .int (i * j)) fMul := fun F H m x y o v u sb e rx ry Q k => by
  unfold fMul at e
  split at e
  · split at e
    · rename_i i j hz
      cases e
      refine ⟨_, _, rx.int_, ry.int_, ?_, k _ _ mkI⟩
      unfold mulOk at hz
      rw [Bool.or_eq_true, Bool.or_eq_true, Bool.and_eq_true, Bool.and_eq_true] at hz
      rcases hz with (h | h) | h
      · exact .inl (.inl ⟨of_decide_eq_true h.1, of_decide_eq_true h.2⟩)
      · exact .inl (.inr ⟨of_decide_eq_true h.1, of_decide_eq_true h.2⟩)
      · exact .inr (of_decide_eq_true h : i.natAbs.log2 + j.natAbs.log2 < 1000000)
    · cases e
  · cases e
theorem op_mulA : OpR X (binaryOp .Mult) (rI (fun i j => CMul i j ∨ CMulW i j) fun i j => .int (i * j)) := opI fun _ _ _ _ _ _ _ hc q => mul_int q (hc.elim CMul.ok CMulW.ok)
theorem div_of : Op2 X.K (rI CDivW fun i j => .int (i / j)) fDiv := fun F H m x y o v u sb e rx ry Q k => by
  unfold fDiv at e
  split at e
  · split at e
    · rename_i hz; cases e; exact ⟨_, _, rx.int_, ry.int_, hz, k _ _ mkI⟩
    · cases e
  · cases e
theorem mod_of : Op2 X.K (rI (fun _ j => 0 < j) fun i j => .int (i % j)) fMod := fun F H m x y o v u sb e rx ry Q k => by
  unfold fMod at e
  split at e
  · split at e
    · rename_i hz; cases e; exact ⟨_, _, rx.int_, ry.int_, hz, k _ _ mkI⟩
    · cases e
  · cases e
def CPowW (i j : Int) : Prop := 0 ≤ j ∧ j ≤ 1000 ∧ i.natAbs.log2 ≤ 100000
theorem op_powA : OpR X (binaryOp .Pow) (rI CPowW fun i j => .int (i ^ j.toNat)) := opI fun i j _ _ _ _ _ hc q => PyProof.Rows.pow_int hc.1 (by
  have b : Builtin.Int.intBits i ≤ i.natAbs.log2 + 1 := by
    unfold Builtin.Int.intBits
    split <;> omega
  have h3 := hc.2.2
  have h2 := hc.2.1
  have h1 := hc.1
  have b' : (Builtin.Int.intBits i : Int) ≤ 100001 := by omega
  calc (Builtin.Int.intBits i : Int) * j ≤ 100001 * 1000 := Int.mul_le_mul b' h2 h1 (by decide)
    _ ≤ 2 ^ 27 := by decide) q
theorem pow_of : Op2 X.K (rI CPowW fun i j => .int (i ^ j.toNat)) fPow := fun F H m x y o v u sb e rx ry Q k => by
  unfold fPow at e
  split at e
  · split at e
    · rename_i hz; cases e; exact ⟨_, _, rx.int_, ry.int_, hz, k _ _ mkI⟩
    · cases e
  · cases e
theorem neg_of : Op1 X.K (rU fun i => .int (-i)) fNeg := fun F H m x o v sb e rx Q k => by
  unfold fNeg at e
  split at e
  · cases e; exact ⟨_, rx.int_, k _ _ mkI⟩
  · cases e
/-- + of all four sorts -/
def rAddA (K : PySem.W.Frag) : R2 := fun x y H Q => (rI0 (fun i j => .int (i + j)) x y H Q ∨ (∃ i k, x = .int i ∧ y = .bl k ∧ Q (.int (i + b2i k)) H)) ∨ (∃ i j, x = .str i ∧ y = .str j ∧ i.length + j.length ≤ sizeLine ∧ Q (.str (i ++ j)) H) ∨ rCat x y H Q ∨ rCatA K x y H Q
theorem op_addA : OpR X (binaryOp .Add) (rAddA X.K) := (op_add.or op_add_ib).or (op_add_str.or (op_cat.or op_catA))
theorem add_of : Op2 X.K (rAddA X.K) fAdd := fun F H m x y o v u sb e rx ry Q k => by
  unfold fAdd at e
  split at e
  · cases e; exact .inl (.inl ⟨_, _, rx.int_, ry.int_, k _ _ mkI⟩)
  · cases e; exact .inl (.inr ⟨_, _, rx.int_, ry.bl_, k _ _ mkI⟩)
  · split at e
    · rename_i hz; cases e; exact .inr (.inl ⟨_, _, rx.str_, ry.str_, million hz, k _ _ mkS⟩)
    · cases e
  · split at e
    · rename_i hz
      cases e
      obtain ⟨a, xs, rfl, h1, r1⟩ := rx.lst_ sb
      obtain ⟨b, ys, rfl, h2, r2⟩ := ry.lst_ sb
      exact .inr (.inr (.inl ⟨a, b, xs, ys, rfl, rfl, h1, h2, by rw [← r1.length, ← r2.length]; exact million hz, fun p hp => k _ _ (.ol hp (r1.append r2))⟩))
    · cases e
  · split at e
    · rename_i hz
      cases e
      obtain ⟨a, xs, rfl, h1, r1⟩ := rx.tup_ sb
      obtain ⟨b, ys, rfl, h2, r2⟩ := ry.tup_ sb
      refine .inr (.inr (.inr ⟨a, b, xs, ys, rfl, rfl, .inl (.inl h1), .inl (.inl h2), by rw [← r1.length, ← r2.length]; exact million hz, ?_⟩))
      refine ⟨fun z => ?_, fun _ z => ?_, fun _ _ p hp => k _ _ (.tup hp (r1.append r2))⟩
      · subst z
        cases r1
        exact k _ _ (.sh ry.tupF)
      · subst z
        cases r2
        have z := k (.ref a) H
        rw [List.append_nil] at z
        exact z (.sh rx.tupF)
    · cases e
  · cases e

mutual
def toP : D → Option PyData
  | .non => some .none
  | .bl b => some (.bool b)
  | .int i => some (.int i)
  | .str x => some (.str x)
  | .tup ds => (toPs ds).map .tuple
  | .ct ds => (toPs ds).map .tuple
  | .lst ds => (toPs ds).map .list
  | _ => none
def toPs : List D → Option (List PyData)
  | [] => some []
  | d :: ds => (toP d).bind fun p => (toPs ds).map fun ps => p :: ps
end
mutual
theorem Rep.dp {K : PySem.W.Frag} {H : Hp} {m : List Addr} : ∀ {d : D} {v : V} {p : PyData}, Rep K H m d v → toP d = some p → Dp K H v p
  | _, _, _, .non, e => by unfold toP at e; cases e; exact .non
  | _, _, _, .bl b, e => by unfold toP at e; cases e; exact .bl b
  | _, _, _, .int i, e => by unfold toP at e; cases e; exact .int i
  | _, _, _, .str x, e => by unfold toP at e; cases e; exact .str x
  | _, _, _, .tup h r, e => by
    unfold toP at e
    obtain ⟨ps, e1, e2⟩ := Option.map_eq_some_iff.mp e
    subst e2
    exact .tup (.inl (.inl h)) (RepL.dp r e1)
  | _, _, _, .ct h r, e => by
    unfold toP at e
    obtain ⟨ps, e1, e2⟩ := Option.map_eq_some_iff.mp e
    subst e2
    exact .tup h (RepL.dp r e1)
  | _, _, _, .lst h r, e => by
    unfold toP at e
    obtain ⟨ps, e1, e2⟩ := Option.map_eq_some_iff.mp e
    subst e2
    exact .lst (.inl (.inl h)) (RepL.dp r e1)
  | _, _, _, .rl _ _, e => by unfold toP at e; cases e
  | _, _, _, .dk _ _, e => by unfold toP at e; cases e
  | _, _, _, .dt _ _, e => by unfold toP at e; cases e
  | _, _, _, .ins _ _, e => by unfold toP at e; cases e
  | _, _, _, .glo _, e => by unfold toP at e; cases e
  | _, _, _, .ty _, e => by unfold toP at e; cases e
  | _, _, _, .obj _, e => by unfold toP at e; cases e
theorem RepL.dp {K : PySem.W.Frag} {H : Hp} {m : List Addr} : ∀ {d : List D} {v : List V} {p : List PyData}, RepL K H m d v → toPs d = some p → DpAll K H v p
  | _, _, _, .nil, e => by unfold toPs at e; cases e; exact .nil
  | _, _, _, .cons h r, e => by
    unfold toPs at e
    obtain ⟨p, e1, e⟩ := Option.bind_eq_some_iff.mp e
    obtain ⟨ps, e2, e3⟩ := Option.map_eq_some_iff.mp e
    subst e3
    exact .cons (Rep.dp h e1) (RepL.dp r e2)
end
/-- == of data -/
def eqP (x y : D) : Option Bool := match toP x, toP y with
  | some p, some q => if (SeqAt.shaped p && SeqAt.shaped q) = true then some (PyData.eqv p q) else none
  | _, _ => none
def eqD : D → D → Option Bool
  | .int i, .int j => some (decide (i = j))
  | .str x, .str y => some (decide (x = y))
  | .bl x, .bl y => some (decide (x = y))
  | .non, .non => some true
  | x, y => eqP x y
def fEq (x y : D) : Option O := (eqD x y).map fun b => .sh (.bl b)
def fNe (x y : D) : Option O := (eqD x y).map fun b => .sh (.bl (!b))
theorem dI (i j : Int) : decide (V.int i = V.int j) = decide (i = j) := decide_eq_decide.mpr ⟨V.int.inj, congrArg V.int⟩
theorem dS (i j : Str) : decide (V.str i = V.str j) = decide (i = j) := decide_eq_decide.mpr ⟨V.str.inj, congrArg V.str⟩
theorem dB (i j : Bool) : decide (V.bl i = V.bl j) = decide (i = j) := decide_eq_decide.mpr ⟨V.bl.inj, congrArg V.bl⟩
theorem eq_core {K : PySem.W.Frag} {F H : Hp} {m : List Addr} {x y : D} {b : Bool} {v u : V} (sb : Sub F H) (e1 : eqD x y = some b) (rx : RepT K F H m x v) (ry : RepT K F H m y u) :
    (scal v u = true ∧ decide (v = u) = b) ∨ ∃ p q, Dp K H v p ∧ Dp K H u q ∧ SeqAt.shaped p = true ∧ SeqAt.shaped q = true ∧ PyData.eqv p q = b := by
  unfold eqD at e1
  split at e1
  · cases e1; rw [rx.int_, ry.int_]; exact .inl ⟨rfl, dI _ _⟩
  · cases e1; rw [rx.str_, ry.str_]; exact .inl ⟨rfl, dS _ _⟩
  · cases e1; rw [rx.bl_, ry.bl_]; exact .inl ⟨rfl, dB _ _⟩
  · cases e1; rw [rx.non_, ry.non_]; exact .inl ⟨rfl, decide_eq_true rfl⟩
  · unfold eqP at e1
    split at e1
    · rename_i p q hp hq
      split at e1
      · rename_i hs
        cases e1
        rw [Bool.and_eq_true] at hs
        exact .inr ⟨p, q, (rx.rep sb).dp hp, (ry.rep sb).dp hq, hs.1, hs.2, rfl⟩
      · cases e1
    · cases e1
theorem eq_of : Op2 X.K (fun x y H Q => rEq x y H Q ∨ rEqD X.K x y H Q) fEq := fun F H m x y o v u sb e rx ry Q k => by
  obtain ⟨b, e1, e2⟩ := Option.map_eq_some_iff.mp e
  subst e2
  rcases eq_core sb e1 rx ry with ⟨h1, h2⟩ | ⟨p, q, h1, h2, h3, h4, h5⟩
  · exact .inl ⟨h1, by rw [h2]; exact k _ _ mkB⟩
  · exact .inr ⟨p, q, h1, h2, h3, h4, by rw [h5]; exact k _ _ mkB⟩
theorem ne_of : Op2 X.K (fun x y H Q => rNe x y H Q ∨ rNeD X.K x y H Q) fNe := fun F H m x y o v u sb e rx ry Q k => by
  obtain ⟨b, e1, e2⟩ := Option.map_eq_some_iff.mp e
  subst e2
  rcases eq_core sb e1 rx ry with ⟨h1, h2⟩ | ⟨p, q, h1, h2, h3, h4, h5⟩
  · exact .inl ⟨h1, by rw [h2]; exact k _ _ mkB⟩
  · exact .inr ⟨p, q, h1, h2, h3, h4, by rw [h5]; exact k _ _ mkB⟩
theorem op_eqA (hu : X.A.units + 64 < cLine) : OpR X (compareOp .Eq) (fun x y H Q => rEq x y H Q ∨ rEqD X.K x y H Q) := op_eq.or (op_eqD hu)
theorem op_neA (hu : X.A.units + 64 < cLine) : OpR X (compareOp .NotEq) (fun x y H Q => rNe x y H Q ∨ rNeD X.K x y H Q) := op_ne.or (op_neD hu)
/-- < and kin, of ints -/
def fLt : D → D → Option O
  | .int i, .int j => oB (decide (i < j))
  | .str x, .str y => oB (decide (x.cps.toList < y.cps.toList))
  | _, _ => none
def fLe : D → D → Option O
  | .int i, .int j => oB (decide (i ≤ j))
  | _, _ => none
def fGt : D → D → Option O
  | .int i, .int j => oB (decide (j < i))
  | _, _ => none
def fGe : D → D → Option O
  | .int i, .int j => oB (decide (j ≤ i))
  | _, _ => none
theorem lt_of : Op2 X.K (fun x y H Q => rI0 (fun i j => .bl (decide (i < j))) x y H Q ∨ ∃ i j, x = .str i ∧ y = .str j ∧ Q (.bl (decide (i.cps.toList < j.cps.toList))) H) fLt := fun F H m x y o v u sb e rx ry Q k => by
  unfold fLt at e
  split at e
  · cases e; exact .inl ⟨_, _, rx.int_, ry.int_, k _ _ mkB⟩
  · cases e; exact .inr ⟨_, _, rx.str_, ry.str_, k _ _ mkB⟩
  · cases e
theorem op_ltA : OpR X (compareOp .Lt) (fun x y H Q => rI0 (fun i j => .bl (decide (i < j))) x y H Q ∨ ∃ i j, x = .str i ∧ y = .str j ∧ Q (.bl (decide (i.cps.toList < j.cps.toList))) H) := op_lt.or op_lt_str
theorem le_of : Op2 X.K (rI0 fun i j => .bl (decide (i ≤ j))) fLe := fun F H m x y o v u sb e rx ry Q k => by
  unfold fLe at e
  split at e
  · cases e; exact ⟨_, _, rx.int_, ry.int_, k _ _ mkB⟩
  · cases e
theorem gt_of : Op2 X.K (rI0 fun i j => .bl (decide (j < i))) fGt := fun F H m x y o v u sb e rx ry Q k => by
  unfold fGt at e
  split at e
  · cases e; exact ⟨_, _, rx.int_, ry.int_, k _ _ mkB⟩
  · cases e
theorem ge_of : Op2 X.K (rI0 fun i j => .bl (decide (j ≤ i))) fGe := fun F H m x y o v u sb e rx ry Q k => by
  unfold fGe at e
  split at e
  · cases e; exact ⟨_, _, rx.int_, ry.int_, k _ _ mkB⟩
  · cases e
/-- is None, is not None -/
def isNonD : D → Option Bool
  | .non => some true
  | .obj _ => none
  | _ => some false
def fIsN (x y : D) : Option O := match y with
  | .non => (isNonD x).map fun b => .sh (.bl b)
  | _ => none
def fNotN (x y : D) : Option O := match y with
  | .non => (isNonD x).map fun b => .sh (.bl (!b))
  | _ => none
theorem isNon_ok {K : PySem.W.Frag} {F H : Hp} {m : List Addr} {x : D} {b : Bool} {v : V} (sb : Sub F H) (e : isNonD x = some b) (r : RepT K F H m x v) : decide (v = .non) = b := by
  have q := r.rep sb
  cases q <;> (unfold isNonD at e; first | (cases e; exact decide_eq_true rfl) | (cases e; exact decide_eq_false fun z => nomatch z) | cases e)
theorem isN_of : Op2 X.K (fun x y H Q => y = .non ∧ Q (.bl (decide (x = .non))) H) fIsN := fun F H m x y o v u sb e rx ry Q k => by
  unfold fIsN at e
  split at e
  · obtain ⟨b, e1, e2⟩ := Option.map_eq_some_iff.mp e
    subst e2
    exact ⟨ry.non_, by rw [isNon_ok sb e1 rx]; exact k _ _ mkB⟩
  · cases e
theorem notN_of : Op2 X.K (fun x y H Q => y = .non ∧ Q (.bl (!decide (x = .non))) H) fNotN := fun F H m x y o v u sb e rx ry Q k => by
  unfold fNotN at e
  split at e
  · obtain ⟨b, e1, e2⟩ := Option.map_eq_some_iff.mp e
    subst e2
    exact ⟨ry.non_, by rw [isNon_ok sb e1 rx]; exact k _ _ mkB⟩
  · cases e
end
end Vs
namespace Vs
open PySem PySem.Spec PyProof.Rows L2

theorem pe_or2 {X : Cx} {e : Expr} {t t' : TE} (h : PE X e t) (h' : PE X e t') : PE X e (fun σ H Q => t σ H Q ∨ t' σ H Q) := ⟨fun pins s σ H Q I q => q.elim (h.run pins s σ H Q I) (h'.run pins s σ H Q I)⟩
def orF (f1 f2 : D → D → Option O) : D → D → Option O := fun x y => match f1 x y with
  | some o => some o
  | none => f2 x y
theorem tG_run {α β : Type} {K : PySem.W.Frag} {W : WX} {RR : RRel α β} {m m' : M α} {σ : L2.St} {H : Hp} {Q : β → Hp → Prop} (h : ∃ g s, St K g s σ H ∧ tAt K W RR g H m s σ Q ∧ m s = m' s) : tG K W RR m' σ H Q := by
  obtain ⟨g, s, st, q, e⟩ := h
  exact ⟨g, s, st, ⟨by rw [← e]; exact q.run⟩⟩
theorem op2_or (f1 f2 : D → D → Option O) (ma mb : M Ref) (s : S) : op2 (orF f1 f2) ma mb s = op2 f1 ma mb s ∨ op2 (orF f1 f2) ma mb s = op2 f2 ma mb s := by
  cases e1 : ma s with
  | none => exact .inl (by unfold op2; rw [bnd_no e1, bnd_no e1])
  | some r =>
    cases r with
    | ex x s1 => exact .inl (by unfold op2; rw [bnd_ex e1, bnd_ex e1])
    | ok r1 s1 =>
      cases e2 : mb s1 with
      | none => exact .inl (by unfold op2; rw [bnd_ok e1, bnd_ok e1, bnd_no e2, bnd_no e2])
      | some r =>
        cases r with
        | ex x s2 => exact .inl (by unfold op2; rw [bnd_ok e1, bnd_ok e1, bnd_ex e2, bnd_ex e2])
        | ok r2 s2 =>
          cases v1 : view s2 r1 with
          | none => exact .inl (by unfold op2; rw [bnd_ok e1, bnd_ok e1, bnd_ok e2, bnd_ok e2]; simp only [look, v1, Option.bind_none])
          | some x =>
            cases v2 : view s2 r2 with
            | none => exact .inl (by unfold op2; rw [bnd_ok e1, bnd_ok e1, bnd_ok e2, bnd_ok e2]; simp only [look, v1, v2, Option.bind_none, Option.bind_some])
            | some y =>
              cases z : f1 x y with
              | some o => exact .inl (by unfold op2; rw [bnd_ok e1, bnd_ok e1, bnd_ok e2, bnd_ok e2]; simp only [look, v1, v2, Option.bind_some, orF, z])
              | none => exact .inr (by unfold op2; rw [bnd_ok e1, bnd_ok e1, bnd_ok e2, bnd_ok e2]; simp only [look, v1, v2, Option.bind_some, orF, z])
theorem op2_split {K : PySem.W.Frag} {W : WX} {f1 f2 : D → D → Option O} {ma mb : M Ref} {σ : L2.St} {H : Hp} {Q : VK} (h : tG K W (rO K) (op2 (orF f1 f2) ma mb) σ H Q) : tG K W (rO K) (op2 f1 ma mb) σ H Q ∨ tG K W (rO K) (op2 f2 ma mb) σ H Q := by
  obtain ⟨g, s, st, q⟩ := h
  exact (op2_or f1 f2 ma mb s).elim (fun e => .inl (tG_run ⟨g, s, st, q, e⟩)) fun e => .inr (tG_run ⟨g, s, st, q, e⟩)
theorem op2_splitT {K : PySem.W.Frag} {W : WX} {f1 f2 : D → D → Option O} {ma mb : M Ref} {σ : L2.St} {H : Hp} {Q : Bool → Hp → Prop} (h : tG K W rB (mT (op2 (orF f1 f2) ma mb)) σ H Q) : tG K W rB (mT (op2 f1 ma mb)) σ H Q ∨ tG K W rB (mT (op2 f2 ma mb)) σ H Q := by
  obtain ⟨g, s, st, q⟩ := h
  exact (op2_or f1 f2 ma mb s).elim (fun e => .inl (tG_run ⟨g, s, st, q, by unfold mT bnd; rw [e]⟩)) fun e => .inr (tG_run ⟨g, s, st, q, by unfold mT bnd; rw [e]⟩)
/-- the test of an operation, out of its value's reading -/
theorem tst_imp {K : PySem.W.Frag} {W : WX} {m : M O} {t : TE} (imp : ∀ σ H Q, tG K W (rO K) m σ H Q → t σ H Q) (σ : L2.St) (H : Hp) (Q : Bool → Hp → Prop) (h : tG K W rB (mT m) σ H Q) : t σ H fun x H' => ∃ k, x = .bl k ∧ Q k H' := by
  obtain ⟨g, s, st, q⟩ := h
  refine imp σ H _ (seq st (Go.refl g H) q fun o s1 v H1 g1 _ go st1 ro hk => ?_)
  obtain ⟨b, h1, h2⟩ := hk.lkR
  split at h1
  · cases h1
    obtain ⟨r, h3, _⟩ := ro
    cases h3 with
    | sh h3 => cases h3; exact ⟨_, rfl, h2.ret go st1 rfl⟩
  · cases h1

section
variable {κ α : Type} [DecidableEq κ]
def lookK (kvs : List (κ × α)) (k : κ) : Option α := (kvs.find? fun kv => decide (kv.1 = k)).map (·.2)
def putD (kvs : List (κ × α)) (k : κ) (v : α) : List (κ × α) := if (kvs.any fun kv => decide (kv.1 = k)) = true then kvs.map fun kv => if kv.1 = k then (kv.1, v) else kv else kvs ++ [(k, v)]
end
section
variable {κ : Type} [DecidableEq κ] {K : PySem.W.Frag} {G : Hp} {m : List Addr}
theorem RepP.look : ∀ {ds : List (κ × D)} {xs : List (κ × V)} (k : κ), RepP K G m ds xs → (lookK ds k = none ∧ valV xs k = none) ∨ ∃ d v, lookK ds k = some d ∧ valV xs k = some v ∧ Rep K G m d v
  | _, _, k, .nil => .inl ⟨rfl, rfl⟩
  | _, _, k, .cons (k := j) (d := d) (v := v) h r => by
    by_cases e : j = k
    · refine .inr ⟨d, v, ?_, valV_pos e, h⟩
      unfold lookK
      rw [List.find?_cons_of_pos (by simpa using e)]; rfl
    · rcases RepP.look k r with ⟨h1, h2⟩ | ⟨d', v', h1, h2, h3⟩
      · refine .inl ⟨?_, ?_⟩
        · unfold lookK at h1 ⊢
          rw [List.find?_cons_of_neg (by simpa using e)]; exact h1
        · rw [valV_neg e]; exact h2
      · refine .inr ⟨d', v', ?_, ?_, h3⟩
        · unfold lookK at h1 ⊢
          rw [List.find?_cons_of_neg (by simpa using e)]; exact h1
        · rw [valV_neg e]; exact h2
theorem RepP.length : ∀ {ds : List (κ × D)} {xs : List (κ × V)}, RepP K G m ds xs → ds.length = xs.length
  | _, _, .nil => rfl
  | _, _, .cons _ r => congrArg (· + 1) (RepP.length r)
theorem RepP.any : ∀ {ds : List (κ × D)} {xs : List (κ × V)} (k : κ), RepP K G m ds xs → (ds.any fun kv => decide (kv.1 = k)) = xs.any fun kv => decide (kv.1 = k)
  | _, _, k, .nil => rfl
  | _, _, k, .cons _ r => by rw [List.any_cons, List.any_cons, RepP.any k r]
theorem RepP.repl {y : D} {u : V} (h : Rep K G m y u) (k : κ) : ∀ {ds : List (κ × D)} {xs : List (κ × V)}, RepP K G m ds xs → RepP K G m (ds.map fun kv => if kv.1 = k then (kv.1, y) else kv) (xs.map fun kv => if kv.1 = k then (kv.1, u) else kv)
  | _, _, .nil => .nil
  | _, _, .cons (k := j) q r => by
    by_cases e : j = k
    · rw [List.map_cons, List.map_cons, if_pos e, if_pos e]; exact .cons h (RepP.repl h k r)
    · rw [List.map_cons, List.map_cons, if_neg e, if_neg e]; exact .cons q (RepP.repl h k r)
theorem RepP.snoc {y : D} {u : V} (h : Rep K G m y u) (k : κ) : ∀ {ds : List (κ × D)} {xs : List (κ × V)}, RepP K G m ds xs → RepP K G m (ds ++ [(k, y)]) (xs ++ [(k, u)])
  | _, _, .nil => .cons h .nil
  | _, _, .cons q r => .cons q (RepP.snoc h k r)
theorem RepP.put {y : D} {u : V} (h : Rep K G m y u) (k : κ) {ds : List (κ × D)} {xs : List (κ × V)} (r : RepP K G m ds xs) : RepP K G m (putD ds k y) (putK xs k u) := by
  unfold putD putK
  rw [r.any k]
  split
  · exact r.repl h k
  · exact r.snoc h k
end
def keyD : D → Option Key
  | .int i => some (.inl i)
  | .str x => some (.inr x)
  | _ => none
def keysD : List D → Option (List Key)
  | [] => some []
  | d :: ds => (keyD d).bind fun k => (keysD ds).map fun ks => k :: ks
theorem keyD_ok {K : PySem.W.Frag} {G : Hp} {m : List Addr} {d : D} {v : V} {k : Key} (r : Rep K G m d v) (e : keyD d = some k) : v = kV k := by
  cases r <;> (unfold keyD at e; first | (cases e; rfl) | cases e)
theorem keysD_ok {K : PySem.W.Frag} {G : Hp} {m : List Addr} : ∀ {ds : List D} {vs : List V} {ks : List Key}, RepL K G m ds vs → keysD ds = some ks → vs = ks.map kV
  | _, _, _, .nil, e => by cases e; rfl
  | _, _, _, .cons h r, e => by
    obtain ⟨k, e1, e⟩ := Option.bind_eq_some_iff.mp (show (keyD _).bind _ = _ from e)
    obtain ⟨ks, e2, e3⟩ := Option.map_eq_some_iff.mp e
    subst e3
    rw [keyD_ok h e1, keysD_ok r e2]; rfl
/-- what a dict has at a key: none, some none: it is there or not -/
def getD : D → D → Option (Option D)
  | .dk kvs, y => (keyD y).map fun k => lookK kvs k
  | .dt kvs, .tup ds => (keysD ds).map fun k => lookK kvs k
  | _, _ => none
theorem getD_ok {K : PySem.W.Frag} {F H : Hp} {m : List Addr} {x y : D} {v u : V} {od : Option D} (sb : Sub F H) (rx : RepT K F H m x v) (ry : RepT K F H m y u) (e : getD x y = some od) :
    ∃ a ov, v = .ref a ∧ DGet H a u ov ∧ IsD H a ∧ ((od = none ∧ ov = none) ∨ ∃ d w, od = some d ∧ ov = some w ∧ Rep K F m d w) := by
  unfold getD at e
  split at e
  · obtain ⟨k, e1, e2⟩ := Option.map_eq_some_iff.mp e
    obtain ⟨a, xs, rfl, h1, h2⟩ := rx.dk_ sb
    refine ⟨a, valV xs k, rfl, .inl ⟨xs, k, h1, keyD_ok (ry.rep sb) e1, rfl⟩, .inl ⟨xs, h1⟩, ?_⟩
    subst e2
    exact h2.look k
  · rename_i kvs ds
    obtain ⟨k, e1, e2⟩ := Option.map_eq_some_iff.mp e
    obtain ⟨a, xs, rfl, h1, h2⟩ := rx.dt_ sb
    obtain ⟨b, ys, rfl, h3, h4⟩ := ry.tup_ sb
    refine ⟨a, valV xs k, rfl, .inr ⟨xs, k, b, h1, rfl, ?_, rfl⟩, .inr ⟨xs, h1⟩, ?_⟩
    · rw [h3, keysD_ok h4 e1]
    · subst e2
      exact h2.look k
  · cases e
/-- d[k] -/
def fDget (x y : D) : Option O := match getD x y with
  | some (some d) => some (.sh d)
  | _ => none
section
variable {X : Cx} {W : WX} {a b e : Expr} {pos : Pos} {ma mb : M Ref}
theorem RepL.atI {K : PySem.W.Frag} {G : Hp} {m : List Addr} {ds : List D} {xs : List V} {i : Int} {d : D} (r : RepL K G m ds xs) (e : atI ds i = some d) : ∃ v, L2.atI xs i = some v ∧ Rep K G m d v := by
  unfold L2.atI at e ⊢
  rw [← r.length]
  obtain ⟨j, h1, h2⟩ := Option.bind_eq_some_iff.mp e
  obtain ⟨v, h3, h4⟩ := r.get h2
  exact ⟨v, by rw [h1]; exact h3, h4⟩
def fIxS : D → D → Option O
  | .lst ds, .int i => (atI ds i).map .sh
  | .tup ds, .int i => (atI ds i).map .sh
  | .ct ds, .int i => (atI ds i).map .sh
  | .rl ds, .int i => (atI ds i).map .sh
  | .str z, .int i => if z.length ≤ 1000000 then (atI z.cps.toList i).map fun c => .sh (.str ⟨#[c]⟩) else none
  | _, _ => none
theorem ix_of : Op2 X.K (rIx X.K) fIxS := fun F H m x y o v u sb e rx ry Q k => by
  unfold fIxS at e
  split at e
  · obtain ⟨d, e1, e2⟩ := Option.map_eq_some_iff.mp e
    subst e2
    obtain ⟨p, xs, rfl, h1, h2⟩ := rx.lst_ sb
    obtain ⟨w, h3, h4⟩ := h2.atI e1
    exact .inl ⟨p, xs, _, w, rfl, ry.int_, .inl (.inl h1), h3, k _ _ (.sh h4)⟩
  · obtain ⟨d, e1, e2⟩ := Option.map_eq_some_iff.mp e
    subst e2
    obtain ⟨p, xs, rfl, h1, h2⟩ := rx.tup_ sb
    obtain ⟨w, h3, h4⟩ := h2.atI e1
    exact .inr (.inl ⟨p, xs, _, w, rfl, ry.int_, .inl (.inl h1), h3, k _ _ (.sh h4)⟩)
  · obtain ⟨d, e1, e2⟩ := Option.map_eq_some_iff.mp e
    subst e2
    obtain ⟨p, xs, rfl, h1, h2⟩ := rx.ct_ sb
    obtain ⟨w, h3, h4⟩ := h2.atI e1
    exact .inr (.inl ⟨p, xs, _, w, rfl, ry.int_, h1, h3, k _ _ (.sh h4)⟩)
  · obtain ⟨d, e1, e2⟩ := Option.map_eq_some_iff.mp e
    subst e2
    obtain ⟨p, xs, rfl, h1, h2⟩ := rx.rl_ sb
    obtain ⟨w, h3, h4⟩ := h2.atI e1
    exact .inl ⟨p, xs, _, w, rfl, ry.int_, h1, h3, k _ _ (.sh h4)⟩
  · split at e
    · rename_i hz
      obtain ⟨c, e1, e2⟩ := Option.map_eq_some_iff.mp e
      subst e2
      exact .inr (.inr ⟨_, _, c, rx.str_, ry.int_, million hz, e1, k _ _ mkS⟩)
    · cases e
  · cases e
/-- a[b] of a list, a tuple, a text, a dict -/
def fIx : D → D → Option O := orF fIxS fDget
theorem dget_imp {K : PySem.W.Frag} (σ : L2.St) (H : Hp) (Q : VK) (h : tG K W (rO K) (op2 fDget ma mb) σ H Q) : tDGet (tG K W (rR K) ma) (tG K W (rR K) mb) σ H Q := by
  obtain ⟨g, s, st, q⟩ := h
  refine seq st (Go.refl g H) q fun ra s1 v H1 g1 _ go st1 rr hk => ?_
  refine seq st1 go hk fun rb s2 u H2 g2 go12 go2 st2 rr2 hk2 => ?_
  obtain ⟨o, h1, h2⟩ := hk2.lkR
  obtain ⟨x, hx, hf⟩ := Option.bind_eq_some_iff.mp h1
  obtain ⟨y, hy, hf⟩ := Option.bind_eq_some_iff.mp hf
  unfold fDget at hf
  split at hf
  · rename_i d hd
    cases hf
    obtain ⟨p, ov, rfl, k1, k2, k3⟩ := getD_ok st2.sub (view_t st2 go12 rr hx) (view_t st2 (Go.refl g2 H2) rr2 hy) hd
    rcases k3 with ⟨z, _⟩ | ⟨d', w, z1, z2, z3⟩
    · cases z
    · cases z1
      subst z2
      exact ⟨p, w, rfl, k1, h2.ret (v := w) go2 st2 ⟨none, .sh z3, fun a e => nomatch e⟩⟩
  · cases hf
theorem vf_sub (hu : X.A.units + 1 < cLine) (ha : VR X W a ma) (hb : VR X W b mb) (hp : PlainIx b := by intro _ _; rfl) : VF X W (.Subscript a b pos) (op2 fIx ma mb) :=
  pe_imp (pe_or2 (pe_ix ix_seq ha hb hp) (pe_dget hu ha hb hp)) fun σ H Q h => (op2_split h).elim (fun h => .inl (top_imp ix_of σ H Q h)) fun h => .inr (dget_imp σ H Q h)
def flatD : D → Bool
  | .non => true
  | .bl _ => true
  | .int _ => true
  | .str _ => true
  | _ => false
def eqFl : D → D → Bool
  | .non, .non => true
  | .bl a, .bl b => a == b
  | .bl a, .int b => (if a then 1 else 0) == b
  | .int a, .bl b => a == (if b then 1 else 0)
  | .int a, .int b => a == b
  | .str a, .str b => a == b
  | _, _ => false
theorem flat_ok {K : PySem.W.Frag} {G : Hp} {m : List Addr} {d : D} {v : V} (r : Rep K G m d v) (e : flatD d = true) : flatV v = true := by
  cases r <;> first | rfl | cases e
theorem eqFl_ok {K : PySem.W.Frag} {G G' : Hp} {m m' : List Addr} {d d' : D} {v v' : V} (r : Rep K G m d v) (r' : Rep K G' m' d' v') (e : flatD d = true) (e' : flatD d' = true) : eqV v v' = eqFl d d' := by
  cases r <;> first | (cases r' <;> first | rfl | cases e') | cases e
theorem allFlat_ok {K : PySem.W.Frag} {G : Hp} {m : List Addr} : ∀ {ds : List D} {vs : List V}, RepL K G m ds vs → ds.all flatD = true → vs.all flatV = true
  | _, _, .nil, _ => rfl
  | _, _, .cons h r, e => by
    rw [List.all_cons, Bool.and_eq_true] at e
    rw [List.all_cons, flat_ok h e.1, allFlat_ok r e.2]; rfl
theorem inV_ok {K : PySem.W.Frag} {G G' : Hp} {m m' : List Addr} {d : D} {v : V} (h : Rep K G m d v) (e : flatD d = true) : ∀ {ds : List D} {vs : List V}, RepL K G' m' ds vs → ds.all flatD = true → inV v vs = ds.any fun y => eqFl y d
  | _, _, .nil, _ => rfl
  | _, _, .cons q r, e2 => by
    rw [List.all_cons, Bool.and_eq_true] at e2
    have z := inV_ok h e r e2.2
    unfold inV at z ⊢
    rw [List.any_cons, List.any_cons, z, eqFl_ok q h e2.1 e]
/-- x in y, y a list or a tuple -/
def inS (x : D) (ds : List D) : Option Bool :=
  if (flatD x && ds.all flatD) = true then some (ds.any fun y => eqFl y x)
  else match toP x, toPs ds with
    | some p, some ps => if (SeqAt.shaped p && SeqAt.shaped (.list ps)) = true then some (ps.any fun z => PyData.eqv z p) else none
    | _, _ => none
theorem toPs_list {ds : List D} {ps : List PyData} (h : toPs ds = some ps) : toP (.lst ds) = some (.list ps) := by unfold toP; rw [h]; rfl
def fInS (neg : Bool) : D → D → Option O
  | x, .lst ds => (inS x ds).map fun b => .sh (.bl (if neg then !b else b))
  | x, .tup ds => if (flatD x && ds.all flatD) = true then some (.sh (.bl (if neg then !(ds.any fun y => eqFl y x) else ds.any fun y => eqFl y x))) else none
  | x, .ct ds => if (flatD x && ds.all flatD) = true then some (.sh (.bl (if neg then !(ds.any fun y => eqFl y x) else ds.any fun y => eqFl y x))) else none
  | _, _ => none
def rInA (K : PySem.W.Frag) (neg : Bool) : R2 := fun x y H Q => rIn K neg x y H Q ∨ (if neg then rNotInD K x y H Q else rInD K x y H Q)
theorem in_of (neg : Bool) : Op2 X.K (rInA X.K neg) (fInS neg) := fun F H m x y o v u sb e rx ry Q k => by
  unfold fInS at e
  split at e
  · rename_i ds
    obtain ⟨b, e1, e2⟩ := Option.map_eq_some_iff.mp e
    subst e2
    unfold inS at e1
    split at e1
    · rename_i hf
      cases e1
      rw [Bool.and_eq_true] at hf
      obtain ⟨p, xs, rfl, h1, h2⟩ := ry.lst_ sb
      refine .inl ⟨p, xs, rfl, .inl (.inl (.inl h1)), flat_ok (rx.rep sb) hf.1, allFlat_ok h2 hf.2, ?_⟩
      rw [inV_ok (rx.rep sb) hf.1 h2 hf.2]; exact k _ _ mkB
    · split at e1
      · rename_i p ps hp hps
        split at e1
        · rename_i hs
          cases e1
          rw [Bool.and_eq_true] at hs
          refine .inr ?_
          cases neg with
          | false => exact ⟨p, ps, (rx.rep sb).dp hp, (ry.rep sb).dp (toPs_list hps), hs.1, hs.2, k _ _ mkB⟩
          | true => exact ⟨p, ps, (rx.rep sb).dp hp, (ry.rep sb).dp (toPs_list hps), hs.1, hs.2, k _ _ mkB⟩
        · cases e1
      · cases e1
  · rename_i ds
    split at e
    · rename_i hf
      cases e
      rw [Bool.and_eq_true] at hf
      obtain ⟨p, xs, rfl, h1, h2⟩ := ry.tup_ sb
      refine .inl ⟨p, xs, rfl, .inr (.inl (.inl h1)), flat_ok (rx.rep sb) hf.1, allFlat_ok h2 hf.2, ?_⟩
      rw [inV_ok (rx.rep sb) hf.1 h2 hf.2]; exact k _ _ mkB
    · cases e
  · rename_i ds
    split at e
    · rename_i hf
      cases e
      rw [Bool.and_eq_true] at hf
      obtain ⟨p, xs, rfl, h1, h2⟩ := ry.ct_ sb
      refine .inl ⟨p, xs, rfl, .inr h1, flat_ok (rx.rep sb) hf.1, allFlat_ok h2 hf.2, ?_⟩
      rw [inV_ok (rx.rep sb) hf.1 h2 hf.2]; exact k _ _ mkB
    · cases e
  · cases e
theorem opr_inA (hu : X.A.units + 65 < cLine) : OpR X (compareOp .In) (rInA X.K false) := fun pins s σ H x y v u Q I rx ry q => q.elim (op_in_seq pins s σ H x y v u Q I rx ry) (op_inD hu pins s σ H x y v u Q I rx ry)
theorem opr_notInA (hu : X.A.units + 65 < cLine) : OpR X (compareOp .NotIn) (rInA X.K true) := fun pins s σ H x y v u Q I rx ry q => q.elim (op_notIn_seq pins s σ H x y v u Q I rx ry) (op_notInD hu pins s σ H x y v u Q I rx ry)
/-- k in d -/
def fInD (neg : Bool) (y x : D) : Option O := (getD x y).map fun o => .sh (.bl (if neg then !o.isSome else o.isSome))
theorem din_imp {K : PySem.W.Frag} (σ : L2.St) (H : Hp) (Q : VK) (h : tG K W (rO K) (op2 (fInD false) ma mb) σ H Q) : tDIn (tG K W (rR K) ma) (tG K W (rR K) mb) σ H Q := by
  obtain ⟨g, s, st, q⟩ := h
  refine seq st (Go.refl g H) q fun ra s1 v H1 g1 _ go st1 rr hk => ?_
  refine seq st1 go hk fun rb s2 u H2 g2 go12 go2 st2 rr2 hk2 => ?_
  obtain ⟨o, h1, h2⟩ := hk2.lkR
  obtain ⟨y, hy, hf⟩ := Option.bind_eq_some_iff.mp h1
  obtain ⟨x, hx, hf⟩ := Option.bind_eq_some_iff.mp hf
  obtain ⟨od, hd, e⟩ := Option.map_eq_some_iff.mp (show (getD x y).map _ = some o from hf)
  subst e
  obtain ⟨p, ov, rfl, k1, k2, k3⟩ := getD_ok st2.sub (view_t st2 (Go.refl g2 H2) rr2 hx) (view_t st2 go12 rr hy) hd
  have e : od.isSome = ov.isSome := by
    rcases k3 with ⟨rfl, rfl⟩ | ⟨d', w, rfl, rfl, _⟩ <;> rfl
  refine ⟨p, ov, rfl, k1, ?_⟩
  rw [← e]
  exact h2.ret (v := V.bl _) go2 st2 ⟨none, .sh (.bl _), fun a e => nomatch e⟩
theorem dnotin_imp {K : PySem.W.Frag} (σ : L2.St) (H : Hp) (Q : VK) (h : tG K W (rO K) (op2 (fInD true) ma mb) σ H Q) : tDNotIn (tG K W (rR K) ma) (tG K W (rR K) mb) σ H Q := by
  obtain ⟨g, s, st, q⟩ := h
  refine seq st (Go.refl g H) q fun ra s1 v H1 g1 _ go st1 rr hk => ?_
  refine seq st1 go hk fun rb s2 u H2 g2 go12 go2 st2 rr2 hk2 => ?_
  obtain ⟨o, h1, h2⟩ := hk2.lkR
  obtain ⟨y, hy, hf⟩ := Option.bind_eq_some_iff.mp h1
  obtain ⟨x, hx, hf⟩ := Option.bind_eq_some_iff.mp hf
  obtain ⟨od, hd, e⟩ := Option.map_eq_some_iff.mp (show (getD x y).map _ = some o from hf)
  subst e
  obtain ⟨p, ov, rfl, k1, k2, k3⟩ := getD_ok st2.sub (view_t st2 (Go.refl g2 H2) rr2 hx) (view_t st2 go12 rr hy) hd
  have e : od.isSome = ov.isSome := by
    rcases k3 with ⟨rfl, rfl⟩ | ⟨d', w, rfl, rfl, _⟩ <;> rfl
  refine ⟨p, ov, rfl, k1, ?_⟩
  rw [← e]
  exact h2.ret (v := V.bl _) go2 st2 ⟨none, .sh (.bl _), fun a e => nomatch e⟩
def fIn : D → D → Option O := orF (fInS false) (fInD false)
def fNotIn : D → D → Option O := orF (fInS true) (fInD true)
theorem vf_in (hu : X.A.units + 65 < cLine) (ha : VR X W a ma) (hb : VR X W b mb) (hm : behindInMarks .In b = false := by rfl) : VF X W (.Compare a [.In] [b] pos) (op2 fIn ma mb) :=
  pe_imp (pe_or2 (pe_cmpR (opr_inA hu) ha hb hm) (pe_cmp (pc_din (by omega) ha hb) hm)) fun σ H Q h => (op2_split h).elim (fun h => .inl (top_imp (in_of false) σ H Q h)) fun h => .inr (din_imp σ H Q h)
theorem vf_notin (hu : X.A.units + 65 < cLine) (ha : VR X W a ma) (hb : VR X W b mb) (hm : behindInMarks .NotIn b = false := by rfl) : VF X W (.Compare a [.NotIn] [b] pos) (op2 fNotIn ma mb) :=
  pe_imp (pe_or2 (pe_cmpR (opr_notInA hu) ha hb hm) (pe_cmp (pc_dnotin (by omega) ha hb) hm)) fun σ H Q h => (op2_split h).elim (fun h => .inl (top_imp (in_of true) σ H Q h)) fun h => .inr (dnotin_imp σ H Q h)
theorem pt_or2 {t t' : TT} (h : PT X e t) (h' : PT X e t') : PT X e (fun σ H Q => t σ H Q ∨ t' σ H Q) := ⟨fun pins s σ H Q I q => q.elim (h.run pins s σ H Q I) (h'.run pins s σ H Q I)⟩
theorem vt_in (hu : X.A.units + 65 < cLine) (ha : VR X W a ma) (hb : VR X W b mb) (hm : behindInMarks .In b = false := by rfl) : VT X W (.Compare a [.In] [b] pos) (mT (op2 fIn ma mb)) :=
  pt_imp (pt_or2 (pt_cmpR (opr_inA hu) ha hb hm) (pt_cmp (pc_din (by omega) ha hb) hm)) fun σ H Q h => (op2_splitT h).elim (fun h => .inl (tst_imp (top_imp (in_of false)) σ H Q h)) fun h => .inr (tst_imp din_imp σ H Q h)
theorem vt_notin (hu : X.A.units + 65 < cLine) (ha : VR X W a ma) (hb : VR X W b mb) (hm : behindInMarks .NotIn b = false := by rfl) : VT X W (.Compare a [.NotIn] [b] pos) (mT (op2 fNotIn ma mb)) :=
  pt_imp (pt_or2 (pt_cmpR (opr_notInA hu) ha hb hm) (pt_cmp (pc_dnotin (by omega) ha hb) hm)) fun σ H Q h => (op2_splitT h).elim (fun h => .inl (tst_imp (top_imp (in_of true)) σ H Q h)) fun h => .inr (tst_imp dnotin_imp σ H Q h)
end
end Vs
namespace Vs
open PySem PySem.Spec PyProof.Rows L2

def cutL {α : Type} (xs : List α) (lo hi : Option Int) : List α := (xs.drop (HT.sIx xs.length 0 lo)).take (HT.sIx xs.length xs.length hi - HT.sIx xs.length 0 lo)
theorem RepL.cut {K : PySem.W.Frag} {G : Hp} {m : List Addr} {ds : List D} {xs : List V} (r : RepL K G m ds xs) (lo hi : Option Int) : RepL K G m (cutL ds lo hi) (cutV xs lo hi) := by
  unfold cutL cutV
  rw [r.length]
  exact RepL.take _ (RepL.drop _ r)
def fSl (x : D) (lo hi : Option Int) : Option O := match x with
  | .lst ds => some (.ol (cutL ds lo hi))
  | .rl ds => some (.ol (cutL ds lo hi))
  | .tup ds => some (.sh (.tup (cutL ds lo hi)))
  | .ct ds => if HT.sIx ds.length 0 lo = 0 ∧ HT.sIx ds.length ds.length hi = ds.length then some (.sh (.ct ds)) else some (.sh (.tup (cutL ds lo hi)))
  | .str z => if z.length ≤ 1000000 then some (.sh (.str (cutS z lo hi))) else none
  | _ => none
def rSlAll (K : PySem.W.Frag) : V → Option Int → Option Int → Hp → VK → Prop := fun x lo hi H Q => (rSlL K x lo hi H Q ∨ rSlA K x lo hi H Q) ∨ rSlS x lo hi H Q
theorem sl_all {X : Cx} : SlR X (rSlAll X.K) := SlR.or (SlR.or sl_list sl_tupA) sl_str
theorem cut_whole {α : Type} {xs : List α} {lo hi : Option Int} (h : HT.sIx xs.length 0 lo = 0 ∧ HT.sIx xs.length xs.length hi = xs.length) : cutL xs lo hi = xs := by
  unfold cutL
  rw [h.1, h.2, Nat.sub_zero, List.drop_zero, List.take_length]
theorem sl_of {K : PySem.W.Frag} {F H : Hp} {m : List Addr} {x : D} {lo hi : Option Int} {o : O} {v : V} (sb : Sub F H) (e : fSl x lo hi = some o) (rx : RepT K F H m x v) (Q : VK) (k : ∀ w H', Mk K F H m o w H' → Q w H') : rSlAll K v lo hi H Q := by
  unfold fSl at e
  split at e
  · cases e
    obtain ⟨p, xs, rfl, h1, h2⟩ := rx.lst_ sb
    exact .inl (.inl ⟨p, xs, rfl, .inl (.inl h1), fun q hq => k _ _ (.ol hq (h2.cut lo hi))⟩)
  · cases e
    obtain ⟨p, xs, rfl, h1, h2⟩ := rx.rl_ sb
    exact .inl (.inl ⟨p, xs, rfl, h1, fun q hq => k _ _ (.ol hq (h2.cut lo hi))⟩)
  · cases e
    have hF := rx.tupF
    obtain ⟨p, xs, rfl, h1, h2⟩ := rx.tup_ sb
    refine .inl (.inr ⟨p, xs, rfl, .inl (.inl h1), fun hw => k _ _ (.sh ?_), fun _ q hq => k _ _ (.tup hq (h2.cut lo hi))⟩)
    rw [← h2.length] at hw
    rw [cut_whole hw]
    exact hF
  · rename_i ds
    split at e
    · rename_i hw
      cases e
      have hF : Rep K F m (.ct ds) v := by
        generalize ed : D.ct ds = d at rx
        cases rx with
        | sh q => subst ed; exact q
        | ce q e2 => subst ed; cases q with
          | sh q => cases e2; exact q
          | _ => cases e2
      obtain ⟨p, xs, rfl, h1, h2⟩ := rx.ct_ sb
      refine .inl (.inr ⟨p, xs, rfl, h1, fun _ => k _ _ (.sh hF), fun hn => absurd (by rw [← h2.length]; exact hw) hn⟩)
    · rename_i hw
      cases e
      obtain ⟨p, xs, rfl, h1, h2⟩ := rx.ct_ sb
      refine .inl (.inr ⟨p, xs, rfl, h1, fun hn => absurd (by rw [← h2.length] at hn; exact hn) hw, fun _ q hq => k _ _ (.tup hq (h2.cut lo hi))⟩)
  · split at e
    · rename_i hz
      cases e
      exact .inr ⟨_, rx.str_, million hz, k _ _ (.sh (.str _))⟩
    · cases e
  · cases e
def rOI : RRel (Option Int) (Option Int) := fun _ _ _ _ _ a b => a = b
abbrev VO (X : Cx) (W : WX) (e : Option Expr) (m : M (Option Int)) : Prop := PO X e (tG X.K W rOI m)
def mPart (m : M D) : M (Option Int) := bnd m fun d => look fun _ => match d with
  | .int i => some (some i)
  | _ => none
def slM (f : D → Option Int → Option Int → Option O) (ma : M Ref) (ml mh : M (Option Int)) : M O := bnd ma fun r => bnd ml fun lo => bnd mh fun hi => look fun s => (view s r).bind fun x => f x lo hi
section
variable {X : Cx} {W : WX} {a b e : Expr} {pos p2 : Pos} {ma mb : M Ref} {lo hi : Option Expr} {ml mh : M (Option Int)}
theorem po_imp {t t' : TO} (h : PO X lo t) (i : ∀ σ H Q, t' σ H Q → t σ H Q) : PO X lo t' := ⟨fun pins s σ H Q I q => h.run pins s σ H Q I (i _ _ _ q)⟩
theorem vo_none : VO X W none (ret none) := po_imp po_none fun σ H Q ⟨g, s, st, q⟩ => q.ret (v := (none : Option Int)) (Go.refl g H) st rfl
theorem vo_some {m : M D} (h : VD X W e m) : VO X W (some e) (mPart m) := po_imp (po_some h) fun σ H Q ⟨g, s, st, q⟩ => seq st (Go.refl g H) q fun d s1 v H1 g1 _ go st1 r hk => by
  obtain ⟨o, h1, h2⟩ := hk.lkR
  split at h1
  · cases h1; cases r; exact ⟨_, rfl, h2.ret (v := some _) go st1 rfl⟩
  · cases h1
theorem vf_slice (he : VR X W a ma) (hl : VO X W lo ml) (hh : VO X W hi mh) : VF X W (.Subscript a (.Slice lo hi none p2) pos) (slM fSl ma ml mh) :=
  pe_imp (pe_slice sl_all he hl hh) fun σ H Q ⟨g, s, st, q⟩ => by
    refine seq st (Go.refl g H) q fun ra s1 v H1 g1 _ go st1 rr hk => ?_
    refine seq st1 go hk fun l s2 l' H2 g2 go12 go2 st2 el hk2 => ?_
    have el : l = l' := el
    subst el
    refine seq st2 go2 hk2 fun u s3 u' H3 g3 go23 go3 st3 eu hk3 => ?_
    have eu : u = u' := eu
    subst eu
    obtain ⟨o, h1, h2⟩ := hk3.lkR
    obtain ⟨x, hx, hf⟩ := Option.bind_eq_some_iff.mp h1
    refine sl_of st3.sub hf (view_t st3 (go12.trans go23) rr hx) Q fun w H' mk => ?_
    obtain ⟨g', go', st', ro⟩ := mk.done st3 go3
    exact h2.ret go' st' ro
end

def orN (f g : List D → Option O) : List D → Option O := fun ds => match f ds with
  | some o => some o
  | none => g ds
theorem opN_or {K : PySem.W.Frag} {r r' : List V → Hp → VK → Prop} {f f' : List D → Option O} (h : OpN K r f) (h' : OpN K r' f') : OpN K (fun xs H Q => r xs H Q ∨ r' xs H Q) (orN f f') := fun F H m ds o vs sb e rs Q k => by
  unfold orN at e
  split at e
  · rename_i o' eo
    cases e
    exact .inl (h F H m ds o vs sb eo rs Q k)
  · exact .inr (h' F H m ds o vs sb e rs Q k)
section
variable {K : PySem.W.Frag}
theorem RepTs.one {F H : Hp} {m : List Addr} {d : D} {vs : List V} (r : RepTs K F H m [d] vs) : ∃ v, vs = [v] ∧ RepT K F H m d v := by
  cases r with
  | cons r1 r2 => cases r2; exact ⟨_, rfl, r1⟩
theorem RepTs.two {F H : Hp} {m : List Addr} {d e : D} {vs : List V} (r : RepTs K F H m [d, e] vs) : ∃ v u, vs = [v, u] ∧ RepT K F H m d v ∧ RepT K F H m e u := by
  cases r with
  | cons r1 r2 => cases r2 with
    | cons r2 r3 => cases r3; exact ⟨_, _, rfl, r1, r2⟩
/-- the seen items of a list or a tuple -/
def seqD : D → Option (List D)
  | .lst ds => some ds
  | .tup ds => some ds
  | .rl ds => some ds
  | .ct ds => some ds
  | _ => none
theorem seqD_ok {F H : Hp} {m : List Addr} {d : D} {ds : List D} {v : V} (sb : Sub F H) (r : RepT K F H m d v) (e : seqD d = some ds) : ∃ p xs, v = .ref p ∧ (SqL K H p xs ∨ SqT K H p xs) ∧ RepL K F m ds xs := by
  unfold seqD at e
  split at e
  · cases e; obtain ⟨p, xs, rfl, h1, h2⟩ := r.lst_ sb; exact ⟨p, xs, rfl, .inl (.inl (.inl h1)), h2⟩
  · cases e; obtain ⟨p, xs, rfl, h1, h2⟩ := r.tup_ sb; exact ⟨p, xs, rfl, .inr (.inl (.inl h1)), h2⟩
  · cases e; obtain ⟨p, xs, rfl, h1, h2⟩ := r.rl_ sb; exact ⟨p, xs, rfl, .inl h1, h2⟩
  · cases e; obtain ⟨p, xs, rfl, h1, h2⟩ := r.ct_ sb; exact ⟨p, xs, rfl, .inr h1, h2⟩
  · cases e
/-- a list alone -/
def lstD : D → Option (List D)
  | .lst ds => some ds
  | .rl ds => some ds
  | _ => none
theorem lstD_ok {F H : Hp} {m : List Addr} {d : D} {ds : List D} {v : V} (sb : Sub F H) (r : RepT K F H m d v) (e : lstD d = some ds) : ∃ p xs, v = .ref p ∧ SqL K H p xs ∧ RepL K F m ds xs := by
  unfold lstD at e
  split at e
  · cases e; obtain ⟨p, xs, rfl, h1, h2⟩ := r.lst_ sb; exact ⟨p, xs, rfl, .inl (.inl h1), h2⟩
  · cases e; obtain ⟨p, xs, rfl, h1, h2⟩ := r.rl_ sb; exact ⟨p, xs, rfl, h1, h2⟩
  · cases e
def fAbs : List D → Option O
  | [.int i] => some (.sh (.int (if i < 0 then -i else i)))
  | _ => none
theorem abs_of : OpN K (fun xs H Q => ∃ i, xs = [.int i] ∧ Q (.int (if i < 0 then -i else i)) H) fAbs := fun F H m ds o vs sb e rs Q k => by
  unfold fAbs at e
  split at e
  · cases e
    obtain ⟨v, rfl, r⟩ := rs.one
    exact ⟨_, by rw [r.int_], k _ _ (.sh (.int _))⟩
  · cases e
def fLenS : List D → Option O
  | [d] => (seqD d).map fun ds => .sh (.int (ds.length : Nat))
  | _ => none
theorem lenS_of : OpN K (fun xs H Q => ∃ p ys, xs = [.ref p] ∧ (SqL K H p ys ∨ SqT K H p ys) ∧ Q (.int ys.length) H) fLenS := fun F H m ds o vs sb e rs Q k => by
  unfold fLenS at e
  split at e
  · obtain ⟨es, h1, h2⟩ := Option.map_eq_some_iff.mp e
    subst h2
    obtain ⟨v, rfl, r⟩ := rs.one
    obtain ⟨p, xs, rfl, h3, h4⟩ := seqD_ok sb r h1
    refine ⟨p, xs, rfl, h3, k _ _ ?_⟩
    rw [h4.length]
    exact .sh (.int _)
  · cases e
def fLenT : List D → Option O
  | [.str z] => if z.length ≤ 1000000 then some (.sh (.int (z.length : Nat))) else none
  | _ => none
theorem lenT_of : OpN K (fun xs H Q => ∃ z, xs = [.str z] ∧ z.length ≤ sizeLine ∧ Q (.int z.length) H) fLenT := fun F H m ds o vs sb e rs Q k => by
  unfold fLenT at e
  split at e
  · split at e
    · rename_i hz
      cases e
      obtain ⟨v, rfl, r⟩ := rs.one
      exact ⟨_, by rw [r.str_], million hz, k _ _ (.sh (.int _))⟩
    · cases e
  · cases e
def fLen : List D → Option O := orN fLenS fLenT
def fInt : List D → Option O
  | [.int i] => some (.sh (.int i))
  | [.bl b] => some (.sh (.int (if b then 1 else 0)))
  | _ => none
theorem int_of : OpN K (fun xs H Q => (∃ i, xs = [.int i] ∧ Q (.int i) H) ∨ ∃ k, xs = [.bl k] ∧ Q (.int (if k then 1 else 0)) H) fInt := fun F H m ds o vs sb e rs Q k => by
  unfold fInt at e
  split at e
  · cases e
    obtain ⟨v, rfl, r⟩ := rs.one
    exact .inl ⟨_, by rw [r.int_], k _ _ (.sh (.int _))⟩
  · cases e
    obtain ⟨v, rfl, r⟩ := rs.one
    exact .inr ⟨_, by rw [r.bl_], k _ _ (.sh (.int _))⟩
  · cases e
def fMax : List D → Option O
  | [.int i, .int j] => some (.sh (.int (if j > i then j else i)))
  | _ => none
theorem max_of : OpN K (fun xs H Q => ∃ i j, xs = [.int i, .int j] ∧ Q (.int (if j > i then j else i)) H) fMax := fun F H m ds o vs sb e rs Q k => by
  unfold fMax at e
  split at e
  · cases e
    obtain ⟨v, u, rfl, r1, r2⟩ := rs.two
    exact ⟨_, _, by rw [r1.int_, r2.int_], k _ _ (.sh (.int _))⟩
  · cases e
def fMin : List D → Option O
  | [.int i, .int j] => some (.sh (.int (if j < i then j else i)))
  | _ => none
theorem min_of : OpN K (fun xs H Q => ∃ i j, xs = [.int i, .int j] ∧ Q (.int (if j < i then j else i)) H) fMin := fun F H m ds o vs sb e rs Q k => by
  unfold fMin at e
  split at e
  · cases e
    obtain ⟨v, u, rfl, r1, r2⟩ := rs.two
    exact ⟨_, _, by rw [r1.int_, r2.int_], k _ _ (.sh (.int _))⟩
  · cases e
def fOrd : List D → Option O
  | [.str x] => if x.length = 1 then some (.sh (.int (x.cps.getD 0 0 : Nat))) else none
  | _ => none
theorem ord_of : OpN K (fun xs H Q => ∃ x, xs = [.str x] ∧ x.length = 1 ∧ Q (.int (x.cps.getD 0 0 : Nat)) H) fOrd := fun F H m ds o vs sb e rs Q k => by
  unfold fOrd at e
  split at e
  · split at e
    · rename_i hz
      cases e
      obtain ⟨v, rfl, r⟩ := rs.one
      exact ⟨_, by rw [r.str_], hz, k _ _ (.sh (.int _))⟩
    · cases e
  · cases e
def strI (i : Int) : Str := toString i
def fStr : List D → Option O
  | [.int i] => if i.natAbs.log2 < 1920 then some (.sh (.str (strI i))) else none
  | _ => none
theorem str_of : OpN K (fun xs H Q => ∃ i, xs = [.int i] ∧ i.natAbs.log2 < 1920 ∧ Q (.str (toString i)) H) fStr := fun F H m ds o vs sb e rs Q k => by
  unfold fStr at e
  split at e
  · split at e
    · rename_i hz
      cases e
      obtain ⟨v, rfl, r⟩ := rs.one
      exact ⟨_, by rw [r.int_], hz, k _ _ (.sh (.str _))⟩
    · cases e
  · cases e
def fList : List D → Option O
  | [d] => (seqD d).map .ol
  | _ => none
theorem list_of : OpN K (fun xs H Q => ∃ p ys, xs = [.ref p] ∧ (SqL K H p ys ∨ SqT K H p ys) ∧ ∀ l, H l = none → Q (.ref l) (upd H l (.lst ys))) fList := fun F H m ds o vs sb e rs Q k => by
  unfold fList at e
  split at e
  · obtain ⟨es, h1, h2⟩ := Option.map_eq_some_iff.mp e
    subst h2
    obtain ⟨v, rfl, r⟩ := rs.one
    obtain ⟨p, xs, rfl, h3, h4⟩ := seqD_ok sb r h1
    exact ⟨p, xs, rfl, h3, fun l hl => k _ _ (.ol hl h4)⟩
  · cases e
def fTuple : List D → Option O
  | [.lst ds] => some (.sh (.tup ds))
  | [.rl ds] => some (.sh (.tup ds))
  | [.tup ds] => some (.sh (.tup ds))
  | _ => none
theorem tuple_of : OpN K (fun xs H Q => ∃ p ys, xs = [.ref p] ∧ ((SqL K H p ys ∧ ∀ l, H l = none → Q (.ref l) (upd H l (.tup ys))) ∨ (SqT K H p ys ∧ Q (.ref p) H))) fTuple := fun F H m ds o vs sb e rs Q k => by
  unfold fTuple at e
  split at e
  · cases e
    obtain ⟨v, rfl, r⟩ := rs.one
    obtain ⟨p, xs, rfl, h3, h4⟩ := r.lst_ sb
    exact ⟨p, xs, rfl, .inl ⟨.inl (.inl h3), fun l hl => k _ _ (.tup hl h4)⟩⟩
  · cases e
    obtain ⟨v, rfl, r⟩ := rs.one
    obtain ⟨p, xs, rfl, h3, h4⟩ := r.rl_ sb
    exact ⟨p, xs, rfl, .inl ⟨h3, fun l hl => k _ _ (.tup hl h4)⟩⟩
  · cases e
    obtain ⟨v, rfl, r⟩ := rs.one
    have hF := r.tupF
    obtain ⟨p, xs, rfl, h3, h4⟩ := r.tup_ sb
    exact ⟨p, xs, rfl, .inr ⟨.inl (.inl h3), k _ _ (.sh hF)⟩⟩
  · cases e
def intsD : List D → Option (List Int)
  | [] => some []
  | .int i :: r => (intsD r).map (i :: ·)
  | _ => none
theorem intsD_ok {G : Hp} {m : List Addr} : ∀ {ds : List D} {vs : List V} {ns : List Int}, RepL K G m ds vs → intsD ds = some ns → vs = ns.map V.int
  | _, _, _, .nil, e => by cases e; rfl
  | _, _, ns, .cons (d := d) h r, e => by
    cases d with
    | int i =>
      obtain ⟨ns', e1, e2⟩ := Option.map_eq_some_iff.mp (show (intsD _).map _ = some ns from e)
      subst e2
      cases h
      rw [intsD_ok r e1]; rfl
    | _ => cases e
def fSum : List D → Option O
  | [d] => ((lstD d).bind intsD).map fun ns => .sh (.int ns.sum)
  | _ => none
theorem sum_of : OpN K (rSum K) fSum := fun F H m ds o vs sb e rs Q k => by
  unfold fSum at e
  split at e
  · obtain ⟨ns, h1, h2⟩ := Option.map_eq_some_iff.mp e
    subst h2
    obtain ⟨es, h3, h4⟩ := Option.bind_eq_some_iff.mp h1
    obtain ⟨v, rfl, r⟩ := rs.one
    obtain ⟨p, xs, rfl, h5, h6⟩ := lstD_ok sb r h3
    have := intsD_ok h6 h4
    subst this
    exact ⟨p, ns, rfl, h5, k _ _ (.sh (.int _))⟩
  · cases e
def blsD : List D → Option (List Bool)
  | [] => some []
  | .bl i :: r => (blsD r).map (i :: ·)
  | _ => none
theorem blsD_ok {G : Hp} {m : List Addr} : ∀ {ds : List D} {vs : List V} {ns : List Bool}, RepL K G m ds vs → blsD ds = some ns → vs = ns.map V.bl
  | _, _, _, .nil, e => by cases e; rfl
  | _, _, ns, .cons (d := d) h r, e => by
    cases d with
    | bl i =>
      obtain ⟨ns', e1, e2⟩ := Option.map_eq_some_iff.mp (show (blsD _).map _ = some ns from e)
      subst e2
      cases h
      rw [blsD_ok r e1]; rfl
    | _ => cases e
def fAny : List D → Option O
  | [d] => ((lstD d).bind blsD).map fun ns => .sh (.bl (ns.any id))
  | _ => none
theorem any_of : OpN K (rAny K) fAny := fun F H m ds o vs sb e rs Q k => by
  unfold fAny at e
  split at e
  · obtain ⟨ns, h1, h2⟩ := Option.map_eq_some_iff.mp e
    subst h2
    obtain ⟨es, h3, h4⟩ := Option.bind_eq_some_iff.mp h1
    obtain ⟨v, rfl, r⟩ := rs.one
    obtain ⟨p, xs, rfl, h5, h6⟩ := lstD_ok sb r h3
    have := blsD_ok h6 h4
    subst this
    exact ⟨p, ns, rfl, h5, k _ _ (.sh (.bl _))⟩
  · cases e
def fAll : List D → Option O
  | [d] => ((lstD d).bind blsD).map fun ns => .sh (.bl (ns.all id))
  | _ => none
theorem all_of : OpN K (rAll K) fAll := fun F H m ds o vs sb e rs Q k => by
  unfold fAll at e
  split at e
  · obtain ⟨ns, h1, h2⟩ := Option.map_eq_some_iff.mp e
    subst h2
    obtain ⟨es, h3, h4⟩ := Option.bind_eq_some_iff.mp h1
    obtain ⟨v, rfl, r⟩ := rs.one
    obtain ⟨p, xs, rfl, h5, h6⟩ := lstD_ok sb r h3
    have := blsD_ok h6 h4
    subst this
    exact ⟨p, ns, rfl, h5, k _ _ (.sh (.bl _))⟩
  · cases e
def strsD : List D → Option (List Str)
  | [] => some []
  | .str i :: r => (strsD r).map (i :: ·)
  | _ => none
theorem strsD_ok {G : Hp} {m : List Addr} : ∀ {ds : List D} {vs : List V} {ns : List Str}, RepL K G m ds vs → strsD ds = some ns → vs = ns.map V.str
  | _, _, _, .nil, e => by cases e; rfl
  | _, _, ns, .cons (d := d) h r, e => by
    cases d with
    | str i =>
      obtain ⟨ns', e1, e2⟩ := Option.map_eq_some_iff.mp (show (strsD _).map _ = some ns from e)
      subst e2
      cases h
      rw [strsD_ok r e1]; rfl
    | _ => cases e
end
end Vs
namespace Vs
open PySem PySem.Spec PyProof.Rows L2

theorem set_same {α : Type} {l : List α} {n : Nat} {x : α} (h : l[n]? = some x) : l.set n x = l := by
  apply List.ext_getElem?
  intro j
  by_cases q : n = j
  · subst q
    rw [List.getElem?_set_self (List.getElem?_eq_some_iff.mp h).1, h]
  · rw [List.getElem?_set_ne q]
section
variable {K : PySem.W.Frag} {g : Gh} {s : S} {σ : L2.St} {H : Hp}
theorem St.store (st : St K g s σ H) {n : Nat} {o o' : O} {v : V} {p : Addr} (e : s.ce[n]? = some o) (ev : g.cv[n]? = some v) (er : g.Rs[n]? = some (some p)) (u : HO) (h : RepO K g.F (upd H p u) g.m o' v (some p)) :
    St K g { s with ce := s.ce.set n o' } σ (upd H p u) ∧ Go g H g (upd H p u) := by
  obtain ⟨w, r, h1, h2, h3⟩ := st.ce.at_ n o e
  rw [er] at h2
  cases h2
  have fp := h3.free.1
  have nF : ∀ a x, g.F a = some x → a ≠ p := fun a x z q => by subst q; rw [fp] at z; cases z
  have ow : g.own p := .inl (List.mem_of_getElem? er)
  have pl := st.ce.put (F' := g.F) (H' := upd H p u) (m' := g.m) e ev er (Sub.refl _) (Pre.refl _) (fun a ha ne => ⟨(st.ce.own_ ha).1, fun x z => by rw [upd_ne fun q => ne (by rw [q])]; exact z⟩) h (.inl rfl)
  rw [set_same er] at pl
  refine ⟨⟨⟨fun a x r => ?_, fun a C d f r => by rw [upd_ne (nF a _ r)]; exact st.sub.ins a C d f r, fun a y r => by rw [upd_ne (nF a _ r)]; exact st.sub.lst a y r, fun a y r => by rw [upd_ne (nF a _ r)]; exact st.sub.tup a y r⟩, st.len, st.slot, pl, st.tb.keep (Sub.refl _) (Pre.refl _) fun a ha => ⟨(st.tb.own_ ha).1, fun x z => ?_⟩, st.dj⟩,
    ⟨Sub.refl _, Pre.refl _, fun _ _ z => z, fun a o z no _ => by rw [upd_ne fun q => no (by rw [q]; exact ow)]; exact z, fun a z => ?_, fun a x z => .inl (by rw [z]; exact fun y => nomatch y), fun a z => .inl z⟩⟩
  · rcases r with r | ⟨x', r⟩
    · have := st.sub.rd a x (.inl r)
      rcases this with this | ⟨y, this⟩
      · exact .inl (by rw [upd_ne (nF a _ r)]; exact this)
      · exact .inr ⟨y, by rw [upd_ne (nF a _ r)]; exact this⟩
    · have := st.sub.rd a x (.inr ⟨x', r⟩)
      rcases this with this | ⟨y, this⟩
      · exact .inl (by rw [upd_ne (nF a _ r)]; exact this)
      · exact .inr ⟨y, by rw [upd_ne (nF a _ r)]; exact this⟩
  · rw [upd_ne fun q => st.dj p (List.mem_of_getElem? er) (by rw [← q]; exact ha)]; exact z
  · by_cases q : a = p
    · subst q; rw [upd_same]; exact fun y => nomatch y
    · rw [upd_ne q]; exact z
/-- the cell of a slot -/
def cellOf (s : S) (i : Nat) : Option (Nat × O) := match s.sl[i]? with
  | some (some (.pt n)) => (s.ce[n]?).map fun o => (n, o)
  | _ => none
theorem St.cell (st : St K g s σ H) {i n : Nat} {o : O} {v : V} (e : cellOf s i = some (n, o)) (ev : σ[i]? = some (some v)) : s.ce[n]? = some o ∧ g.cv[n]? = some v ∧ ∃ r, g.Rs[n]? = some r ∧ RepO K g.F H g.m o v r := by
  unfold cellOf at e
  split at e
  · rename_i k hs
    obtain ⟨o', e1, e2⟩ := Option.map_eq_some_iff.mp e
    cases e2
    obtain ⟨w, h1, h2⟩ := st.slot i _ hs
    rw [ev] at h1
    cases h1
    obtain ⟨w, r, k1, k2, k3⟩ := st.ce.at_ n o e1
    have h2 : g.cv[n]? = some v := h2
    rw [h2] at k1
    cases k1
    exact ⟨e1, h2, r, k2, k3⟩
  · cases e
theorem St.slotv (st : St K g s σ H) {i n : Nat} {o : O} (e : cellOf s i = some (n, o)) : ∃ v, σ[i]? = some (some v) := by
  unfold cellOf at e
  split at e
  · rename_i k hs
    obtain ⟨w, z, _⟩ := st.slot i _ hs
    exact ⟨w, z⟩
  · cases e
end

def cellL (s : S) (i : Nat) : Option (Nat × List D) := match cellOf s i with
  | some (n, .ol ds) => some (n, ds)
  | _ => none
theorem cellL_eq {s : S} {i n : Nat} {ds : List D} (e : cellL s i = some (n, ds)) : cellOf s i = some (n, .ol ds) := by
  unfold cellL at e
  split at e
  · rename_i h; cases e; exact h
  · cases e
abbrev LM := List D → List D → Option (List D × D)
def MeL (K : PySem.W.Frag) (r : V → List V → Hp → VK → Prop) (f : LM) : Prop := ∀ (F H : Hp) (m : List Addr) (p : Addr) (ds xs ds' : List D) (d : D) (vs ws : List V), Sub F H → f ds xs = some (ds', d) → H p = some (.lst vs) → RepL K F m ds vs → RepL K F m xs ws →
  ∀ Q : VK, (∀ w vs', RepL K F m ds' vs' → Rep K F m d w → Q w (upd H p (.lst vs'))) → r (.ref p) ws H Q
def mMeL (i : Nat) (f : LM) (ma : M (List D)) : M O := bnd (look fun s => cellL s i) fun _ => bnd ma fun xs s => match cellL s i with
  | some (n, ds) => match f ds xs with
    | some (ds', d) => some (.ok (.sh d) { s with ce := s.ce.set n (.ol ds') })
    | none => none
  | none => none
section
variable {X : Cx} {W : WX} {o e : Expr} {es : List Expr} {apos cpos : Pos} {T id : String} {name : Str} {ma : M (List D)}
theorem tbm_imp {K : PySem.W.Frag} {r : V → List V → Hp → VK → Prop} {f : LM} (hs : MeL K r f) (i : Nat) (σ : L2.St) (H : Hp) (Q : VK) (h : tG K W (rO K) (mMeL i f ma) σ H Q) : tBM K "list" r (tVar i) (tG K W (rDs K) ma) σ H Q := by
  obtain ⟨g, s, st, q⟩ := h
  obtain ⟨⟨n, ds⟩, h1, h2⟩ := q.lk
  have c1 := cellL_eq h1
  obtain ⟨v, hv⟩ := st.slotv c1
  obtain ⟨_, _, r0, _, ro⟩ := st.cell c1 hv
  refine ⟨v, hv, ?_, ?_⟩
  · cases ro with
    | ol a b c => exact .inl ⟨rfl, _, .inl (.inl b)⟩
  · refine seq st (Go.refl g H) h2 fun xs s1 ws H1 g1 _ go st1 rx hk => ?_
    have hk := hk.run
    cases z : cellL s1 i with
    | none => rw [z] at hk; exact hk.elim
    | some nd =>
      obtain ⟨n1, ds1⟩ := nd
      rw [z] at hk
      dsimp only at hk
      obtain ⟨k1, k2, r1, k3, k4⟩ := st1.cell (cellL_eq z) hv
      cases zf : f ds1 xs with
      | none => rw [zf] at hk; exact hk.elim
      | some dd =>
        obtain ⟨ds', d⟩ := dd
        rw [zf] at hk
        dsimp only at hk
        cases k4 with
        | @ol p vs _ a b c =>
          refine hs g1.F H1 g1.m p ds1 xs ds' d vs ws st1.sub zf b c rx Q fun w vs' rl rd => ?_
          obtain ⟨st2, go2⟩ := st1.store (o' := .ol ds') k1 k2 k3 (.lst vs') (.ol a upd_same rl)
          exact hk w _ g1 (go.trans go2) st2 ⟨none, .sh rd, fun a e => nomatch e⟩
theorem vf_meL {r : V → List V → Hp → VK → Prop} {f : LM} (i : Nat) (hs : MeL X.K r f) (slot : Slot "list" name id) (hty : typeOf (.builtin id) = pure (.type "method_descriptor")) (hm : MtR X id r) (ho : PE X o (tVar i)) (ha : VA X W (e :: es) ma)
    (hbase : attributeBase o name X.env (eval o X.env) = eval o X.env := by rfl)
    (hfew : ((backTo cpos (starEach (e :: es) X.env)).all (fun x => !x.1) && (backToKw cpos (keywordEach [] X.env)).all (fun x => x.1.isSome)
      && decide ((e :: es).length + ([] : List Keyword).length + (if ([] : List Keyword).isEmpty then 0 else 1) < 30)) = true := by rfl)
    (hline : (apos.endLine == cpos.line) = true := by rfl) (hs' : starEach (e :: es) X.env = (false, eval e X.env) :: starEach es X.env := by rfl) (hplain : (backTo cpos (starEach es X.env)).any (·.1) = false := by rfl) :
    VF X W (.Call (.Attribute o name apos) (e :: es) [] cpos) (mMeL i f ma) :=
  pe_imp (pe_bm PySem.F.plainAttrs_list slot hty hm ho ha hbase hfew hline hs' hplain) fun σ H Q h => tbm_imp hs i σ H Q h
def fAppend : LM := fun ds xs => match xs with
  | [y] => if ds.length < 1000000 then some (ds ++ [y], .non) else none
  | _ => none
theorem append_of {K : PySem.W.Frag} : MeL K rAppend fAppend := fun F H m p ds xs ds' d vs ws sb e hp rl rx Q k => by
  unfold fAppend at e
  split at e
  · split at e
    · rename_i hz
      cases e
      cases rx with
      | cons r1 r2 =>
        cases r2
        exact ⟨p, vs, _, rfl, rfl, hp, millionLt (by rw [← rl.length]; exact hz), k _ _ (rl.append (.cons r1 .nil)) .non⟩
    · cases e
  · cases e
def fExtend : LM := fun ds xs => match xs with
  | [.lst es] => if ds.length + es.length ≤ 1000000 then some (ds ++ es, .non) else none
  | _ => none
theorem extend_of {K : PySem.W.Frag} : MeL K rExtend fExtend := fun F H m p ds xs ds' d vs ws sb e hp rl rx Q k => by
  unfold fExtend at e
  split at e
  · split at e
    · rename_i hz
      cases e
      cases rx with
      | cons r1 r2 =>
        cases r2
        cases r1 with
        | lst h1 h2 => exact ⟨p, _, vs, _, rfl, rfl, hp, sb.lst _ _ h1, million (by rw [← rl.length, ← h2.length]; exact hz), k _ _ (rl.append h2) .non⟩
    · cases e
  · cases e
def fPopAt : LM := fun ds xs => match xs with
  | [.int i] => if small62 i = true then (seqIndex? i ds.length).bind fun k => (ds[k]?).map fun y => (ds.eraseIdx k, y) else none
  | _ => none
theorem popAt_of {K : PySem.W.Frag} : MeL K rPopAt fPopAt := fun F H m p ds xs ds' d vs ws sb e hp rl rx Q k => by
  unfold fPopAt at e
  split at e
  · split at e
    · rename_i hz
      obtain ⟨j, e1, e2⟩ := Option.bind_eq_some_iff.mp e
      obtain ⟨y, e3, e4⟩ := Option.map_eq_some_iff.mp e2
      cases e4
      obtain ⟨w, h1, h2⟩ := rl.get e3
      have z := small62_ok hz
      cases rx with
      | cons r1 r2 =>
        cases r2
        cases r1
        exact ⟨p, vs, _, j, w, rfl, rfl, hp, by omega, by omega, by rw [← rl.length]; exact e1, h1, k _ _ (RepL.erase j rl) h2⟩
    · cases e
  · cases e
theorem vf_append (i : Nat) (ho : PE X o (tVar i)) (ha : VA X W [e] ma)
    (hbase : attributeBase o "append" X.env (eval o X.env) = eval o X.env := by rfl)
    (hfew : ((backTo cpos (starEach [e] X.env)).all (fun x => !x.1) && (backToKw cpos (keywordEach [] X.env)).all (fun x => x.1.isSome)
      && decide ([e].length + ([] : List Keyword).length + (if ([] : List Keyword).isEmpty then 0 else 1) < 30)) = true := by rfl)
    (hline : (apos.endLine == cpos.line) = true := by rfl) (hs' : starEach [e] X.env = (false, eval e X.env) :: starEach [] X.env := by rfl) (hplain : (backTo cpos (starEach [] X.env)).any (·.1) = false := by rfl) :
    VF X W (.Call (.Attribute o "append" apos) [e] [] cpos) (mMeL i fAppend ma) := vf_meL i append_of PySem.F.slot_list_append PySem.F.type_list_append mt_append ho ha hbase hfew hline hs' hplain
end

def mSetIx (i : Nat) (mv mi : M D) : SM := bnd mv fun d => bnd (look fun s => cellL s i) fun _ => bnd mi fun k s => match cellL s i, k with
  | some (n, ds), .int j => (ixN ds.length j).map fun q => .ok .nx { s with ce := s.ce.set n (.ol (ds.set q d)) }
  | _, _ => none
theorem sAt.lk {α : Type} {K : PySem.W.Frag} {W : WX} {g0 : Gh} {H0 : Hp} {f : S → Option α} {k : α → SM} {s : S} {D : Ends} (h : sAt K W g0 H0 D (bnd (look f) k) s) : ∃ a, f s = some a ∧ sAt K W g0 H0 D (k a) s := by
  cases q : f s with
  | none => have h := h.run; rw [bnd_no (look_no q)] at h; exact h.elim
  | some a => exact ⟨a, rfl, ⟨by have h := h.run; rw [bnd_ok (look_ok q)] at h; exact h⟩⟩
section
variable {X : Cx} {W : WX} {o ie e : Expr} {pos p2 : Pos} {mv mi : M D}
theorem vs_setIx (i : Nat) (ho : PE X o (tVar i)) (hi : VD X W ie mi) (he : VD X W e mv)
    (ha : ∀ v, assign (.Subscript o ie p2) X.env v = (do
      let ov ← holding [v] (eval o X.env)
      let iv ← holding [v, ov] (eval ie X.env)
      standAt p2
      holding [v, ov, iv] (setItem ov iv v)
      release [v, ov, iv] []) := by intro _; rfl)
    (hs : swapsWithSole [.Subscript o ie p2] e pos.line X.env = pure false := by rfl) (hw : swappedStores [.Subscript o ie p2] e X.env = pure none := by rfl)
    (h1 : (assignEach [.Subscript o ie p2] X.env).map (·.2) = [assign (.Subscript o ie p2) X.env] := by rfl) : VS X W (.Assign [.Subscript o ie p2] e pos) (mSetIx i mv mi) :=
  ps_imp (ps_asg he (pg_sub ho hi set_list ha) hs hw h1) fun D σ H ⟨g, s, st, q⟩ => seqX st (Go.refl g H) q fun d s1 v H1 g1 _ go st1 r hk => by
    obtain ⟨⟨n, ds⟩, h1, h2⟩ := hk.lk
    obtain ⟨ov, hv⟩ := st1.slotv (cellL_eq h1)
    refine ⟨ov, hv, seqX st1 go h2 fun k s2 kv H2 g2 go12 go2 st2 rk hk2 => ?_⟩
    have hk2 := hk2.run
    cases z : cellL s2 i with
    | none => rw [z] at hk2; exact hk2.elim
    | some nd =>
      obtain ⟨n1, ds1⟩ := nd
      rw [z] at hk2
      obtain ⟨k1, k2, r1, k3, k4⟩ := st2.cell (cellL_eq z) hv
      cases k with
      | int j =>
        cases zq : ixN ds1.length j with
        | none => 
          have hk2 : sRun X.K W g H D ((ixN ds1.length j).map fun q => .ok .nx { s2 with ce := s2.ce.set n1 (.ol (ds1.set q d)) }) := hk2
          rw [zq] at hk2; exact hk2.elim
        | some q =>
          have hk2 : sRun X.K W g H D ((ixN ds1.length j).map fun q => .ok .nx { s2 with ce := s2.ce.set n1 (.ol (ds1.set q d)) }) := hk2
          rw [zq] at hk2
          cases rk
          cases k4 with
          | @ol p vs _ a b c =>
            have zq' : ixN vs.length j = some q := by rw [← c.length]; exact zq
            obtain ⟨st3, go3⟩ := st2.store (o' := .ol (ds1.set q d)) k1 k2 k3 (.lst (vs.set q v)) (.ol a upd_same (RepL.set (Rep.go r go12) q c))
            exact ⟨p, vs, j, q, rfl, rfl, b, zq', hk2 σ _ g2 (go2.trans go3) st3⟩
      | _ => exact hk2.elim
end
end Vs
namespace Vs
open PySem PySem.Spec PyProof.Rows L2

section
variable {X : Cx}
/-- x.rpartition(sep) -/
def rpart (a b : Str) : Str × Str × Str := match Builtin.Str.lastOccurrence a b 0 a.length with
  | some i => (Builtin.Str.strSub a 0 i, b, Builtin.Str.strSub a (i + b.length) a.length)
  | none => (Str.empty, Str.empty, a)
theorem mt_rpartition : MtR X "str.rpartition" (fun x xs H Q => ∃ a b, x = .str a ∧ xs = [.str b] ∧ (b.length == 0) = false ∧ a.length ≤ sizeLine ∧
    ∀ p, H p = none → Q (.ref p) (upd H p (.tup [.str (rpart a b).1, .str (rpart a b).2.1, .str (rpart a b).2.2]))) := by
  intro pins s σ H x xs v us Q I rx rs h
  obtain ⟨a, b, rfl, rfl, hb, hz, h⟩ := h
  obtain ⟨t, rfl⟩ := rx
  cases rs with
  | cons r1 rs =>
    cases rs
    obtain ⟨u, rfl⟩ := r1
    refine call_meets F.slot_str_rpartition (typeIs_str _ _ _) F.entry_str_rpartition (F.args_str_rpartition_2 _ _) (meets_str_rpartition a b t u hb hz) ?_
    unfold rpart at h
    revert h
    cases Builtin.Str.lastOccurrence a b 0 a.length with
    | none => intro h; exact laid_parts I h
    | some i => intro h; exact laid_parts I h
end
def mStr (m : M D) : M Str := bnd m fun d => look fun _ => match d with
  | .str y => some y
  | _ => none
def rS : RRel Str Str := fun _ _ _ _ _ a b => a = b
/-- x.m(e) of a text -/
def strM (f : Str → D → Option O) (ma : M D) (mb : M Ref) : M O := bnd (mStr ma) fun x => bnd mb fun q => look fun s => (view s q).bind fun y => f x y
def OpS (K : PySem.W.Frag) (r : V → List V → Hp → VK → Prop) (f : Str → D → Option O) : Prop := ∀ (F H : Hp) (m : List Addr) (x : Str) (y : D) (o : O) (u : V), Sub F H → f x y = some o → RepT K F H m y u → ∀ Q : VK, (∀ w H', Mk K F H m o w H' → Q w H') → r (.str x) [u] H Q
section
variable {X : Cx} {W : WX} {o e : Expr} {apos pos : Pos} {ma me : M D} {mb : M Ref} {id : String} {name : Str}
theorem vf_strM {r : V → List V → Hp → VK → Prop} {f : Str → D → Option O} (hs : OpS X.K r f) (slot : Slot "str" name id) (ty : typeOf (.builtin id) = pure (.type "method_descriptor")) (rule : MtR X id r) (ho : VD X W o ma) (he : VR X W e mb)
    (hs' : starEach [e] X.env = [(false, eval e X.env)] := by rfl) (hbase : attributeBase o name X.env (eval o X.env) = eval o X.env := by rfl) (hline : (apos.endLine == pos.line) = true := by rfl) :
    VF X W (.Call (.Attribute o name apos) [e] [] pos) (strM f ma mb) :=
  pe_imp (pe_m1 slot ty rule ho he hs' hbase hline) fun σ H Q ⟨g, s, st, q⟩ => by
    cases z : ma s with
    | none => have q := q.run; unfold strM mStr at q; rw [bnd_no (bnd_no z)] at q; exact q.elim
    | some rr =>
      cases rr with
      | ex x s' => have q := q.run; unfold strM mStr at q; rw [bnd_ex (bnd_ex z)] at q; exact ⟨g, s, st, ⟨by rw [z]; exact q⟩⟩
      | ok d s' =>
        refine ⟨g, s, st, ⟨?_⟩⟩
        rw [z]
        intro v H1 g1 go st1 r1
        have q := q.run
        cases d with
        | str y =>
          have e1 : mStr ma s = some (.ok y s') := by unfold mStr; rw [bnd_ok z]; rfl
          unfold strM at q
          rw [bnd_ok e1] at q
          cases r1
          refine ⟨⟨_, rfl⟩, ?_⟩
          refine seq (g0 := g) (H0 := H) (Q := Q) (RR3 := rO X.K) (k := fun q => look fun s => (view s q).bind fun z => f y z) st1 go ⟨q⟩ fun rb s2 u H2 g2 go12 go2 st2 rr2 hk2 => ?_
          obtain ⟨o', h1, h2⟩ := hk2.lkR
          obtain ⟨w, hw, hf⟩ := Option.bind_eq_some_iff.mp h1
          refine hs g2.F H2 g2.m y w o' u st2.sub hf (view_t st2 (Go.refl g2 H2) rr2 hw) Q fun w H' mk => ?_
          obtain ⟨g', go', st', ro⟩ := mk.done st2 go2
          exact h2.ret go' st' ro
        | _ =>
          exfalso
          have e1 : mStr ma s = none := by unfold mStr; rw [bnd_ok z]; rfl
          unfold strM at q
          rw [bnd_no e1] at q
          exact q
def fJoin (a : Str) (y : D) : Option O := (seqD y).bind fun ds => (strsD ds).bind fun ys => if (ys.map (·.length)).sum + ys.length * a.length ≤ 1000000 then some (.sh (.str (Txt.join a ys))) else none
theorem join_of : OpS X.K (fun x xs H Q => ∃ a p, ∃ ys : List Str, x = .str a ∧ xs = [.ref p] ∧ (SqL X.K H p (ys.map V.str) ∨ SqT X.K H p (ys.map V.str)) ∧
    (ys.map (·.length)).sum + ys.length * a.length ≤ 16777216 ∧ Q (.str (Txt.join a ys)) H) fJoin := fun F H m x y o u sb e r Q k => by
  unfold fJoin at e
  obtain ⟨ds, h1, e⟩ := Option.bind_eq_some_iff.mp e
  obtain ⟨ys, h2, e⟩ := Option.bind_eq_some_iff.mp e
  split at e
  · rename_i hz
    cases e
    obtain ⟨p, xs, rfl, h3, h4⟩ := seqD_ok sb r h1
    have := strsD_ok h4 h2
    subst this
    exact ⟨x, p, ys, rfl, rfl, h3, Nat.le_trans hz (by decide), k _ _ (.sh (.str _))⟩
  · cases e
theorem vf_join (ho : VD X W o ma) (he : VR X W e mb)
    (hs' : starEach [e] X.env = [(false, eval e X.env)] := by rfl) (hbase : attributeBase o "join" X.env (eval o X.env) = eval o X.env := by rfl) (hline : (apos.endLine == pos.line) = true := by rfl) :
    VF X W (.Call (.Attribute o "join" apos) [e] [] pos) (strM fJoin ma mb) := vf_strM join_of F.slot_str_join F.type_str_join mt_join ho he hs' hbase hline
def fRpart (a : Str) (y : D) : Option O := match y with
  | .str b => if (b.length == 0) = false ∧ a.length ≤ 1000000 then some (.sh (.tup [.str (rpart a b).1, .str (rpart a b).2.1, .str (rpart a b).2.2])) else none
  | _ => none
theorem vf_rpart (ho : VD X W o ma) (he : VR X W e mb)
    (hs' : starEach [e] X.env = [(false, eval e X.env)] := by rfl) (hbase : attributeBase o "rpartition" X.env (eval o X.env) = eval o X.env := by rfl) (hline : (apos.endLine == pos.line) = true := by rfl) :
    VF X W (.Call (.Attribute o "rpartition" apos) [e] [] pos) (strM fRpart ma mb) := vf_strM (fun F H m x y o u sb e r Q k => by
  unfold fRpart at e
  split at e
  · split at e
    · rename_i hz
      cases e
      exact ⟨x, _, rfl, by rw [r.str_], hz.1, million hz.2, fun p hp => k _ _ (.tup hp (.cons (.str _) (.cons (.str _) (.cons (.str _) .nil))))⟩
    · cases e
  · cases e) F.slot_str_rpartition F.type_str_rpartition mt_rpartition ho he hs' hbase hline

def tP (K : PySem.W.Frag) (W : WX) (m : M Str) : TE := fun σ H Q => tG K W rS m σ H fun y H' => Q (.str y) H'
abbrev VP (X : Cx) (W : WX) (e : Expr) (m : M Str) : Prop := PE X e (tP X.K W m)
theorem vp_str {m : M D} (h : VD X W e m) : VP X W e (mStr m) := pe_imp h fun σ H Q ⟨g, s, st, q⟩ => seq st (Go.refl g H) q fun d s1 v H1 g1 _ go st1 r hk => by
  obtain ⟨o, h1, h2⟩ := hk.lkR
  split at h1
  · cases h1; cases r; exact h2.ret (RR := rS) (v := _) go st1 rfl
  · cases h1
def mFmt (m : M D) : M Str := bnd m fun d => look fun _ => match d with
  | .str y => if y.length ≤ 1000000 then some y else none
  | .int i => if i.natAbs.log2 < 1920 then some (strI i) else none
  | _ => none
theorem vp_fmt {m : M D} (h : VD X W e m) : VP X W (.FormattedValue e (-1) none pos) (mFmt m) := pe_imp (pe_fmt h) fun σ H Q ⟨g, s, st, q⟩ => seq st (Go.refl g H) q fun d s1 v H1 g1 _ go st1 r hk => by
  obtain ⟨o, h1, h2⟩ := hk.lkR
  split at h1
  · split at h1
    · rename_i hz
      cases h1; cases r; exact .inl ⟨_, rfl, million hz, h2.ret (RR := rS) (v := _) go st1 rfl⟩
    · cases h1
  · split at h1
    · rename_i hz
      cases h1; cases r; exact .inr ⟨_, rfl, hz, h2.ret (RR := rS) (v := _) go st1 rfl⟩
    · cases h1
  · cases h1
def mJ : List (M Str) → Str → M Str
  | [], acc => ret acc
  | m :: ms, acc => bnd m fun y => bnd (look fun _ => if (acc ++ y).length ≤ 1000000 then some (acc ++ y) else none) fun z => mJ ms z
theorem tjs_imp {K : PySem.W.Frag} : ∀ (ms : List (M Str)) (acc : Str) (g0 : Gh) (H0 : Hp) (g : Gh) (s : S) (σ : L2.St) (H : Hp) (Q : Str → Hp → Prop), St K g s σ H → Go g0 H0 g H → tAt K W rS g0 H0 (mJ ms acc) s σ Q → tJs (ms.map (tP K W)) acc σ H Q
  | [], acc, g0, H0, g, s, σ, H, Q, st, go, q => q.ret (v := acc) go st rfl
  | m :: ms, acc, g0, H0, g, s, σ, H, Q, st, go, q => seq st go q fun y s1 v H1 g1 go1 go01 st1 r hk => by
    have r : y = v := r
    subst r
    obtain ⟨z, h1, h2⟩ := hk.lk
    split at h1
    · rename_i hz
      cases h1
      exact ⟨y, rfl, million hz, tjs_imp ms (acc ++ y) g0 H0 g1 s1 σ H1 Q st1 go01 h2⟩
    · cases h1
inductive VJ (X : Cx) (W : WX) : List Expr → List (M Str) → Prop where
  | nil : VJ X W [] []
  | cons {e : Expr} {m : M Str} {es : List Expr} {ms : List (M Str)} (h : VP X W e m) (r : VJ X W es ms) : VJ X W (e :: es) (m :: ms)
theorem VJ.pj : ∀ {es : List Expr} {ms : List (M Str)}, VJ X W es ms → PJ X es (ms.map (tP X.K W))
  | _, _, .nil => .nil
  | _, _, .cons h r => .cons h (VJ.pj r)
def mStrD (m : M Str) : M D := bnd m fun y => ret (.str y)
theorem vd_joined {v1 v2 : Expr} {rest : List Expr} {ms : List (M Str)} (h : VJ X W (v1 :: v2 :: rest) ms) : VD X W (.JoinedStr (v1 :: v2 :: rest) pos) (mStrD (mJ ms Str.empty)) :=
  pe_imp (pe_joined h.pj) fun σ H Q ⟨g, s, st, q⟩ => by
    refine tjs_imp (W := W) ms Str.empty g H g s σ H _ st (Go.refl g H) ⟨?_⟩
    have q := q.run
    cases z : mJ ms Str.empty s with
    | none => unfold mStrD at q; rw [bnd_no z] at q; exact q
    | some rr =>
      cases rr with
      | ex x s' => unfold mStrD at q; rw [bnd_ex z] at q; exact q
      | ok y s' =>
        unfold mStrD at q
        rw [bnd_ok z] at q
        intro v H' g' go st' r
        have r : y = v := r
        subst r
        exact q (.str y) H' g' go st' (.str y)
end

section
variable {K : PySem.W.Frag} {G : Hp} {m : List Addr}
theorem RepP.lookup (f : Str) : ∀ {ds : List (Str × D)} {fs : List (Str × V)} {d : D}, RepP K G m ds fs → ds.lookup f = some d → ∃ v, fs.lookup f = some v ∧ Rep K G m d v
  | _, _, _, .nil, e => by cases e
  | _, _, _, .cons (k := k) h r, e => by
    rw [List.lookup_cons] at e ⊢
    by_cases q : (f == k) = true
    · rw [q] at e ⊢; cases e; exact ⟨_, rfl, h⟩
    · rw [Bool.not_eq_true] at q
      rw [q] at e ⊢
      exact RepP.lookup f r e
def putFD (f : Str) (v : D) : List (Str × D) → List (Str × D)
  | [] => [(f, v)]
  | (g, x) :: r => if g = f then (g, v) :: r else (g, x) :: putFD f v r
theorem RepP.putF {f : Str} {d : D} {v : V} (h : Rep K G m d v) : ∀ {ds : List (Str × D)} {fs : List (Str × V)}, RepP K G m ds fs → RepP K G m (putFD f d ds) (L2.putF f v fs)
  | _, _, .nil => .cons h .nil
  | _, _, .cons (k := k) q r => by
    unfold putFD L2.putF
    by_cases e : k = f
    · rw [if_pos e, if_pos e]; exact .cons h r
    · rw [if_neg e, if_neg e]; exact .cons q (RepP.putF h r)
end
def FldOk (K : PySem.W.Frag) (cs : List Str) (f : Str) : Prop := ∀ c ∈ cs, Cls K (He.ga K c) ∧ NoAttr K (He.ga K c) f
def fFld (cs : List Str) (f : Str) : D → Option O
  | .ins c fs => if c ∈ cs then (fs.lookup f).map .sh else none
  | _ => none
section
variable {X : Cx} {W : WX} {o e : Expr} {pos p2 : Pos} {ma : M Ref} {mv : M D}
theorem vf_fld {cs : List Str} {f : Str} (hC : FldOk X.K cs f) (ha : VR X W e ma) (hb : attributeBase e f X.env (eval e X.env) = eval e X.env := by rfl) : VF X W (.Attribute e f pos) (op1 (fFld cs f) ma) :=
  pe_imp (pe_fld ha hb) fun σ H Q ⟨g, s, st, q⟩ => by
    refine seq st (Go.refl g H) q fun ra s1 v H1 g1 _ go st1 rr hk => ?_
    obtain ⟨o, h1, h2⟩ := hk.lkR
    obtain ⟨x, hx, hf⟩ := Option.bind_eq_some_iff.mp h1
    have rt := view_t st1 (Go.refl g1 H1) rr hx
    unfold fFld at hf
    split at hf
    · split at hf
      · rename_i hc
        obtain ⟨d, e1, e2⟩ := Option.map_eq_some_iff.mp hf
        subst e2
        obtain ⟨a, dx, fs, rfl, k1, k2⟩ := rt.ins_ st1.sub
        obtain ⟨w, k3, k4⟩ := k2.lookup f e1
        exact ⟨a, _, dx, fs, w, rfl, k1, (hC _ hc).1, (hC _ hc).2, k3, h2.ret (v := w) go st1 ⟨none, .sh k4, fun a e => nomatch e⟩⟩
      · cases hf
    · cases hf
/-- x.f = e, x a slot whose cell is an instance -/
def cellI (s : S) (i : Nat) : Option (Nat × Str × List (Str × D)) := match cellOf s i with
  | some (n, .oi c fs) => some (n, c, fs)
  | _ => none
theorem cellI_eq {s : S} {i n : Nat} {c : Str} {fs : List (Str × D)} (e : cellI s i = some (n, c, fs)) : cellOf s i = some (n, .oi c fs) := by
  unfold cellI at e
  split at e
  · rename_i h; cases e; exact h
  · cases e
def mSetFld (i : Nat) (cs : List Str) (f : Str) (mv : M D) : SM := bnd mv fun d s => match cellI s i with
  | some (n, c, fs) => if c ∈ cs ∧ fs.length < 1000 then some (.ok .nx { s with ce := s.ce.set n (.oi c (putFD f d fs)) }) else none
  | none => none
theorem vs_setFld {cs : List Str} {f : Str} (i : Nat) (hC : FldOk X.K cs f) (ho : PE X o (tVar i)) (he : VD X W e mv) (hs : swapsWith e (some (.Attribute o f p2)) pos.line X.env = pure false := by rfl) : VS X W (.Assign [.Attribute o f p2] e pos) (mSetFld i cs f mv) :=
  ps_imp (ps_fld ho he hs) fun D σ H ⟨g, s, st, q⟩ => seqX st (Go.refl g H) q fun d s1 v H1 g1 _ go st1 r hk => by
    have hk := hk.run
    cases z : cellI s1 i with
    | none => rw [z] at hk; exact hk.elim
    | some nd =>
      obtain ⟨n, c, fs⟩ := nd
      rw [z] at hk
      obtain ⟨ov, hv⟩ := st1.slotv (cellI_eq z)
      obtain ⟨k1, k2, r1, k3, k4⟩ := st1.cell (cellI_eq z) hv
      have hk : sRun X.K W g H D (if c ∈ cs ∧ fs.length < 1000 then some (.ok .nx { s1 with ce := s1.ce.set n (.oi c (putFD f d fs)) }) else none) := hk
      split at hk
      · rename_i hc
        cases k4 with
        | @oi p dx _ vs _ a b rp =>
          obtain ⟨st2, go2⟩ := st1.store (o' := .oi c (putFD f d fs)) k1 k2 k3 (.ins (He.ga X.K c) dx (L2.putF f v vs)) (.oi a upd_same (RepP.putF r rp))
          exact ⟨_, hv, p, _, dx, vs, rfl, b, (hC _ hc.1).1, (hC _ hc.1).2, by rw [← rp.length]; exact hc.2, hk σ _ g1 (go.trans go2) st2⟩
      · exact hk.elim
end
end Vs
namespace Vs
open PySem PySem.Spec PyProof.Rows L2
section
variable {X : Cx} {W : WX} {e a b c : Expr} {pos p : Pos} {es : List Expr} {ma mb : M Ref} {mr : M (List Ref)} {k : Nat}
theorem vf_add (ha : VR X W a ma) (hb : VR X W b mb) : VF X W (.BinOp a .Add b pos) (op2 fAdd ma mb) := vf_op op_addA add_of ha hb
theorem vf_sub2 (ha : VR X W a ma) (hb : VR X W b mb) : VF X W (.BinOp a .Sub b pos) (op2 fSub ma mb) := vf_op op_sub sub_int ha hb
theorem vf_mul (ha : VR X W a ma) (hb : VR X W b mb) : VF X W (.BinOp a .Mult b pos) (op2 fMul ma mb) := vf_op op_mulA mul_of ha hb
theorem vf_fdiv (ha : VR X W a ma) (hb : VR X W b mb) : VF X W (.BinOp a .FloorDiv b pos) (op2 fDiv ma mb) := vf_op op_fdivW div_of ha hb
theorem vf_mod (ha : VR X W a ma) (hb : VR X W b mb) : VF X W (.BinOp a .Mod b pos) (op2 fMod ma mb) := vf_op op_mod mod_of ha hb
theorem vf_pow (ha : VR X W a ma) (hb : VR X W b mb) : VF X W (.BinOp a .Pow b pos) (op2 fPow ma mb) := vf_op op_powA pow_of ha hb
theorem vf_neg (ha : VR X W a ma) : VF X W (.UnaryOp .USub a pos) (op1 fNeg ma) := vf_un un_neg neg_of ha
theorem vf_eq (hr : Room k X.A) (ha : VR X W a ma) (hb : VR X W b mb) (hm : behindInMarks .Eq b = false := by rfl) : VF X W (.Compare a [.Eq] [b] pos) (op2 fEq ma mb) := vf_cmp (op_eqA hr.units) eq_of ha hb hm
theorem vt_eq (hr : Room k X.A) (ha : VR X W a ma) (hb : VR X W b mb) (hm : behindInMarks .Eq b = false := by rfl) : VT X W (.Compare a [.Eq] [b] pos) (mT (op2 fEq ma mb)) := vt_cmp (op_eqA hr.units) eq_of ha hb hm
theorem vf_ne (hr : Room k X.A) (ha : VR X W a ma) (hb : VR X W b mb) (hm : behindInMarks .NotEq b = false := by rfl) : VF X W (.Compare a [.NotEq] [b] pos) (op2 fNe ma mb) := vf_cmp (op_neA hr.units) ne_of ha hb hm
theorem vt_ne (hr : Room k X.A) (ha : VR X W a ma) (hb : VR X W b mb) (hm : behindInMarks .NotEq b = false := by rfl) : VT X W (.Compare a [.NotEq] [b] pos) (mT (op2 fNe ma mb)) := vt_cmp (op_neA hr.units) ne_of ha hb hm
theorem vf_lt (ha : VR X W a ma) (hb : VR X W b mb) (hm : behindInMarks .Lt b = false := by rfl) : VF X W (.Compare a [.Lt] [b] pos) (op2 fLt ma mb) := vf_cmp op_ltA lt_of ha hb hm
theorem vt_lt (ha : VR X W a ma) (hb : VR X W b mb) (hm : behindInMarks .Lt b = false := by rfl) : VT X W (.Compare a [.Lt] [b] pos) (mT (op2 fLt ma mb)) := vt_cmp op_ltA lt_of ha hb hm
theorem vf_le (ha : VR X W a ma) (hb : VR X W b mb) (hm : behindInMarks .LtE b = false := by rfl) : VF X W (.Compare a [.LtE] [b] pos) (op2 fLe ma mb) := vf_cmp op_le le_of ha hb hm
theorem vt_le (ha : VR X W a ma) (hb : VR X W b mb) (hm : behindInMarks .LtE b = false := by rfl) : VT X W (.Compare a [.LtE] [b] pos) (mT (op2 fLe ma mb)) := vt_cmp op_le le_of ha hb hm
theorem vf_gt (ha : VR X W a ma) (hb : VR X W b mb) (hm : behindInMarks .Gt b = false := by rfl) : VF X W (.Compare a [.Gt] [b] pos) (op2 fGt ma mb) := vf_cmp op_gt gt_of ha hb hm
theorem vt_gt (ha : VR X W a ma) (hb : VR X W b mb) (hm : behindInMarks .Gt b = false := by rfl) : VT X W (.Compare a [.Gt] [b] pos) (mT (op2 fGt ma mb)) := vt_cmp op_gt gt_of ha hb hm
theorem vf_ge (ha : VR X W a ma) (hb : VR X W b mb) (hm : behindInMarks .GtE b = false := by rfl) : VF X W (.Compare a [.GtE] [b] pos) (op2 fGe ma mb) := vf_cmp op_ge ge_of ha hb hm
theorem vt_ge (ha : VR X W a ma) (hb : VR X W b mb) (hm : behindInMarks .GtE b = false := by rfl) : VT X W (.Compare a [.GtE] [b] pos) (mT (op2 fGe ma mb)) := vt_cmp op_ge ge_of ha hb hm
theorem vf_isn (ha : VR X W a ma) (hb : VR X W b mb) (hm : behindInMarks .Is b = false := by rfl) : VF X W (.Compare a [.Is] [b] pos) (op2 fIsN ma mb) := vf_cmp op_isN isN_of ha hb hm
theorem vt_isn (ha : VR X W a ma) (hb : VR X W b mb) (hm : behindInMarks .Is b = false := by rfl) : VT X W (.Compare a [.Is] [b] pos) (mT (op2 fIsN ma mb)) := vt_cmp op_isN isN_of ha hb hm
theorem vf_notn (ha : VR X W a ma) (hb : VR X W b mb) (hm : behindInMarks .IsNot b = false := by rfl) : VF X W (.Compare a [.IsNot] [b] pos) (op2 fNotN ma mb) := vf_cmp op_notN notN_of ha hb hm
theorem vt_notn (ha : VR X W a ma) (hb : VR X W b mb) (hm : behindInMarks .IsNot b = false := by rfl) : VT X W (.Compare a [.IsNot] [b] pos) (mT (op2 fNotN ma mb)) := vt_cmp op_notN notN_of ha hb hm
theorem units65 {A : Around} (hr : Room k A) : A.units + 65 < cLine := by have := hr.un; omega
theorem bt_abs : bootBuiltins "abs" = some (.builtin "abs") := by decide +kernel
theorem vf_abs (hm : X.mg "abs" = none) (ha : VAr X W (a :: es) mr) (hg : Gl X "abs" := by rfl) (he : starEach (a :: es) X.env = (false, eval a X.env) :: starEach es X.env := by rfl) (hpl : (backTo pos (starEach es X.env)).any (·.1) = false := by rfl) : VF X W (.Call (.Name "abs" p) (a :: es) [] pos) (opN fAbs mr) := vf_callB call_abs abs_of hg hm bt_abs ha (by decide) (by decide) he hpl
theorem bt_len : bootBuiltins "len" = some (.builtin "len") := by decide +kernel
theorem vf_len (hm : X.mg "len" = none) (ha : VAr X W (a :: es) mr) (hg : Gl X "len" := by rfl) (he : starEach (a :: es) X.env = (false, eval a X.env) :: starEach es X.env := by rfl) (hpl : (backTo pos (starEach es X.env)).any (·.1) = false := by rfl) : VF X W (.Call (.Name "len" p) (a :: es) [] pos) (opN fLen mr) := vf_callB (CallR.or call_len_seq call_len_str) (opN_or lenS_of lenT_of) hg hm bt_len ha (by decide) (by decide) he hpl
theorem bt_int : bootBuiltins "int" = some (.type "int") := by decide +kernel
theorem vf_int (hm : X.mg "int" = none) (ha : VAr X W (a :: es) mr) (hg : Gl X "int" := by rfl) (he : starEach (a :: es) X.env = (false, eval a X.env) :: starEach es X.env := by rfl) (hpl : (backTo pos (starEach es X.env)).any (·.1) = false := by rfl) : VF X W (.Call (.Name "int" p) (a :: es) [] pos) (opN fInt mr) := vf_callTy call_int1 int_of hg hm bt_int ha (by decide) (by decide) he hpl
theorem bt_max : bootBuiltins "max" = some (.builtin "max") := by decide +kernel
theorem vf_max (hc : X.calm = true) (hm : X.mg "max" = none) (ha : VAr X W (a :: es) mr) (hg : Gl X "max" := by rfl) (he : starEach (a :: es) X.env = (false, eval a X.env) :: starEach es X.env := by rfl) (hpl : (backTo pos (starEach es X.env)).any (·.1) = false := by rfl) : VF X W (.Call (.Name "max" p) (a :: es) [] pos) (opN fMax mr) := vf_callB (call_max2 hc) max_of hg hm bt_max ha (by decide) (by decide) he hpl
theorem bt_min : bootBuiltins "min" = some (.builtin "min") := by decide +kernel
theorem vf_min (hc : X.calm = true) (hm : X.mg "min" = none) (ha : VAr X W (a :: es) mr) (hg : Gl X "min" := by rfl) (he : starEach (a :: es) X.env = (false, eval a X.env) :: starEach es X.env := by rfl) (hpl : (backTo pos (starEach es X.env)).any (·.1) = false := by rfl) : VF X W (.Call (.Name "min" p) (a :: es) [] pos) (opN fMin mr) := vf_callB (call_min2 hc) min_of hg hm bt_min ha (by decide) (by decide) he hpl
theorem bt_ord : bootBuiltins "ord" = some (.builtin "ord") := by decide +kernel
theorem vf_ord (hm : X.mg "ord" = none) (ha : VAr X W (a :: es) mr) (hg : Gl X "ord" := by rfl) (he : starEach (a :: es) X.env = (false, eval a X.env) :: starEach es X.env := by rfl) (hpl : (backTo pos (starEach es X.env)).any (·.1) = false := by rfl) : VF X W (.Call (.Name "ord" p) (a :: es) [] pos) (opN fOrd mr) := vf_callB call_ord ord_of hg hm bt_ord ha (by decide) (by decide) he hpl
theorem bt_str : bootBuiltins "str" = some (.type "str") := by decide +kernel
theorem vf_str (hm : X.mg "str" = none) (ha : VAr X W (a :: es) mr) (hg : Gl X "str" := by rfl) (he : starEach (a :: es) X.env = (false, eval a X.env) :: starEach es X.env := by rfl) (hpl : (backTo pos (starEach es X.env)).any (·.1) = false := by rfl) : VF X W (.Call (.Name "str" p) (a :: es) [] pos) (opN fStr mr) := vf_callTy call_str_int str_of hg hm bt_str ha (by decide) (by decide) he hpl
theorem bt_list : bootBuiltins "list" = some (.type "list") := by decide +kernel
theorem vf_list (hm : X.mg "list" = none) (ha : VAr X W (a :: es) mr) (hg : Gl X "list" := by rfl) (he : starEach (a :: es) X.env = (false, eval a X.env) :: starEach es X.env := by rfl) (hpl : (backTo pos (starEach es X.env)).any (·.1) = false := by rfl) : VF X W (.Call (.Name "list" p) (a :: es) [] pos) (opN fList mr) := vf_callTy call_list_of list_of hg hm bt_list ha (by decide) (by decide) he hpl
theorem bt_tuple : bootBuiltins "tuple" = some (.type "tuple") := by decide +kernel
theorem vf_tuple (hm : X.mg "tuple" = none) (ha : VAr X W (a :: es) mr) (hg : Gl X "tuple" := by rfl) (he : starEach (a :: es) X.env = (false, eval a X.env) :: starEach es X.env := by rfl) (hpl : (backTo pos (starEach es X.env)).any (·.1) = false := by rfl) : VF X W (.Call (.Name "tuple" p) (a :: es) [] pos) (opN fTuple mr) := vf_callTy call_tuple_of tuple_of hg hm bt_tuple ha (by decide) (by decide) he hpl
theorem bt_sum : bootBuiltins "sum" = some (.builtin "sum") := by decide +kernel
theorem vf_sum (hc : X.calm = true) (hm : X.mg "sum" = none) (ha : VAr X W (a :: es) mr) (hg : Gl X "sum" := by rfl) (he : starEach (a :: es) X.env = (false, eval a X.env) :: starEach es X.env := by rfl) (hpl : (backTo pos (starEach es X.env)).any (·.1) = false := by rfl) : VF X W (.Call (.Name "sum" p) (a :: es) [] pos) (opN fSum mr) := vf_callB (cr_sum hc) sum_of hg hm bt_sum ha (by decide) (by decide) he hpl
theorem bt_any : bootBuiltins "any" = some (.builtin "any") := by decide +kernel
theorem vf_any (hc : X.calm = true) (hm : X.mg "any" = none) (ha : VAr X W (a :: es) mr) (hg : Gl X "any" := by rfl) (he : starEach (a :: es) X.env = (false, eval a X.env) :: starEach es X.env := by rfl) (hpl : (backTo pos (starEach es X.env)).any (·.1) = false := by rfl) : VF X W (.Call (.Name "any" p) (a :: es) [] pos) (opN fAny mr) := vf_callB (cr_any hc) any_of hg hm bt_any ha (by decide) (by decide) he hpl
theorem bt_all : bootBuiltins "all" = some (.builtin "all") := by decide +kernel
theorem vf_all (hc : X.calm = true) (hm : X.mg "all" = none) (ha : VAr X W (a :: es) mr) (hg : Gl X "all" := by rfl) (he : starEach (a :: es) X.env = (false, eval a X.env) :: starEach es X.env := by rfl) (hpl : (backTo pos (starEach es X.env)).any (·.1) = false := by rfl) : VF X W (.Call (.Name "all" p) (a :: es) [] pos) (opN fAll mr) := vf_callB (cr_all hc) all_of hg hm bt_all ha (by decide) (by decide) he hpl
def MLen (m : M (List Ref)) (n : Nat) : Prop := ∀ s rs s', m s = some (.ok rs s') → rs.length = n
theorem ml_nil : MLen (Vs.ret []) 0 := fun s rs s' h => by cases h; rfl
theorem ml_cons {ma : M Ref} {mr : M (List Ref)} {n : Nat} (h : MLen mr n) : MLen (mConsR ma mr) (n + 1) := fun s rs s' e => by
  unfold mConsR at e
  cases z : ma s with
  | none => rw [bnd_no z] at e; cases e
  | some r =>
    cases r with
    | ex x s1 => rw [bnd_ex z] at e; cases e
    | ok d s1 =>
      rw [bnd_ok z] at e
      cases z2 : mr s1 with
      | none => rw [bnd_no z2] at e; cases e
      | some r =>
        cases r with
        | ex x s2 => rw [bnd_ex z2] at e; cases e
        | ok ds s2 => rw [bnd_ok z2] at e; cases e; exact congrArg (· + 1) (h s1 ds _ z2)
end
end Vs
namespace Vs
open PySem PySem.Spec PyProof.Rows L2

def Uni (W : WX) : Prop := ∀ cls d σ σ' H, W cls d σ H → W cls d σ' H
def EA (W : WX) : XK := fun cls d H => ∀ σ, W cls d σ H
theorem spOf.mono {K : PySem.W.Frag} {n : Nat} {F : Fn} {vs : List V} {H : Hp} {Q : VK} {E E' : XK} (h : ∀ cls d H, E cls d H → E' cls d H) (q : spOf K n F vs H Q E) : spOf K n F vs H Q E' := by
  obtain ⟨q1, g, args, ce, tb, st, q⟩ := q
  refine ⟨q1, g, args, ce, tb, st, ?_⟩
  cases z : F args ce tb with
  | none => rw [z] at q; exact q
  | some r =>
    rw [z] at q
    cases r with
    | ok o c t => exact q
    | ex x c t => exact ⟨q.1, fun cls dd H' g' a b d => h _ _ _ (q.2 cls dd H' g' a b d)⟩
theorem refs_len {K : PySem.W.Frag} {g : Gh} {σ : L2.St} : ∀ {rs : List Ref} {vs : List V}, RefsOk K g σ rs vs → rs.length = vs.length
  | _, _, .nil => rfl
  | _, _, .cons _ r => congrArg (· + 1) (refs_len r)
theorem refs_ext {K : PySem.W.Frag} {g g' : Gh} {H H' : Hp} {σ t : L2.St} (go : Go g H g' H') : ∀ {rs : List Ref} {vs : List V}, RefsOk K g σ rs vs → RefsOk K g' (σ ++ t) rs vs
  | _, _, .nil => .nil
  | .sl i :: _, _, .cons h r => .cons (by
      have h : σ[i]? = some (some _) := h
      show (σ ++ t)[i]? = _
      rw [List.getElem?_append_left (List.getElem?_eq_some_iff.mp h).1]; exact h) (refs_ext go r)
  | .va d :: _, _, .cons h r => .cons (Rep.go h go) (refs_ext go r)
theorem RepP.lookup_none {K : PySem.W.Frag} {G : Hp} {m : List Addr} (f : Str) : ∀ {ds : List (Str × D)} {fs : List (Str × V)}, RepP K G m ds fs → ds.lookup f = none → fs.lookup f = none
  | _, _, .nil, _ => rfl
  | _, _, .cons (k := k) h r, e => by
    rw [List.lookup_cons] at e ⊢
    by_cases q : (f == k) = true
    · rw [q] at e; cases e
    · rw [Bool.not_eq_true] at q
      rw [q] at e ⊢
      exact RepP.lookup_none f r e

def clsOk (c m : Str) (s : S) (r : Ref) : Option Unit := match view s r with
  | some (.ins c' fs) => if c' = c ∧ fs.lookup m = none then some () else none
  | _ => none
def mMeth (F : Fn) (c m : Str) (ma : M Ref) (mr : M (List Ref)) : M O := bnd ma fun r => bnd (look fun s => clsOk c m s r) fun _ => bnd mr fun rs => callF F (r :: rs)
section
variable {X : Cx} {W : WX} {k n : Nat} {f : Addr} {fd : FuncData} {ps : List Str} {F : Fn} {x m c : Str} {p pos apos : Pos} {o e : Expr} {es : List Expr} {ma : M Ref} {mr : M (List Ref)}
theorem tmeth_imp {K : PySem.W.Frag} (uw : Uni W) (hn : ∀ s rs s', mr s = some (.ok rs s') → rs.length + 1 = n) (σ : L2.St) (H : Hp) (Q : VK) (h : tG K W (rO K) (mMeth F c m ma mr) σ H Q) :
    tMeth (He.ga K c) m (spOf K n F) [] (EA W) (tG K W (rR K) ma) (tG K W (rRs K) mr) σ H Q := by
  obtain ⟨g, s, st, q⟩ := h
  refine seq st (Go.refl g H) q fun r s1 v H1 g1 _ go st1 rr hk => ?_
  obtain ⟨_, h1, h2⟩ := hk.lk
  unfold clsOk at h1
  split at h1
  · rename_i c' fs hv
    split at h1
    · rename_i hc
      obtain ⟨a, dx, xs, rfl, k1, k2⟩ := (view_t st1 (Go.refl g1 H1) rr hv).ins_ st1.sub
      rw [hc.1] at k1
      refine ⟨a, dx, xs, rfl, k1, k2.lookup_none m hc.2, seqE st1 go h2 fun rs s2 vs H2 g2 ez go12 go2 st2 ro hk2 => ?_⟩
      rw [List.append_nil]
      have hl := hn s1 rs s2 ez
      have l2 := refs_len ro
      refine spOf.mono (fun cls d H h σ' => uw _ _ _ _ _ h) (callF_sp (by rw [List.length_cons]; omega) go2 st2 (.cons ?_ ro) hk2)
      cases r with
      | sl i => exact rr
      | va d => exact Rep.go rr go12
    · cases h1
  · cases h1
theorem passEA {X : Cx} (tk : Takes X W) : Passes (L2.CX X.prog X.w) X (EA W) := passes_call tk fun cls d σ H h => h σ
theorem vf_meth {pl : Sem Bool} (uw : Uni W) (tk : Takes X W) (hc : Cls X.K (He.ga X.K c)) (hm : Meth X.K (He.ga X.K c) m f) (G : FnOk X.prog X.w X.K X.mg X.base (L2.CX X.prog X.w) k f fd ps (spOf X.K n F)) (hr : Room k X.A) (hb : Binds X.K fd ps []) (ho : VR X W o ma) (ha : VAr X W (e :: es) mr)
    (hn : ∀ s rs s', mr s = some (.ok rs s') → rs.length + 1 = n)
    (hst : starEach (e :: es) X.env = (false, eval e X.env) :: starEach es X.env := by rfl) (hpl : (backTo pos (starEach es X.env)).any (·.1) = false := by rfl)
    (ht : eval (.Call (.Attribute o m apos) (e :: es) [] pos) X.env = (do
      let ov ← eval o X.env
      standAt apos.atName
      let (f, first) ← holding [ov] (getMethod ov m pl)
      callWith pos f first (backTo pos (starEach (e :: es) X.env)) (backToKw pos (keywordEach [] X.env))) := by rfl) : VF X W (.Call (.Attribute o m apos) (e :: es) [] pos) (mMeth F c m ma mr) :=
  pe_imp (pe_meth (pl := pl) ho hc hm G hr hb .nil (passEA tk) ha hst hpl ht) fun σ H Q h => tmeth_imp uw hn σ H Q h
theorem vf_meth0 {pl : Sem Bool} (uw : Uni W) (tk : Takes X W) (hc : Cls X.K (He.ga X.K c)) (hm : Meth X.K (He.ga X.K c) m f) (G : FnOk X.prog X.w X.K X.mg X.base (L2.CX X.prog X.w) k f fd ps (spOf X.K 1 F)) (hr : Room k X.A) (hb : Binds X.K fd ps []) (ho : VR X W o ma)
    (ht : eval (.Call (.Attribute o m apos) [] [] pos) X.env = (do
      let ov ← eval o X.env
      standAt apos.atName
      let (f, first) ← holding [ov] (getMethod ov m pl)
      callWith pos f first (backTo pos (starEach [] X.env)) (backToKw pos (keywordEach [] X.env))) := by rfl) : VF X W (.Call (.Attribute o m apos) [] [] pos) (mMeth F c m ma (Vs.ret [])) :=
  pe_imp (pe_meth0 (pl := pl) ho hc hm G hr hb .nil (passEA tk) ht) fun σ H Q h => by
    have z := tmeth_imp (n := 1) uw (fun s rs s' e => by cases e; rfl) σ H Q h
    obtain ⟨g, s, st, q⟩ := z
    refine ⟨g, s, st, ⟨?_⟩⟩
    have q := q.run
    cases e : ma s with
    | none => rw [e] at q; exact q
    | some r =>
      rw [e] at q
      cases r with
      | ex x s' => exact q
      | ok r s' =>
        intro v H' g' go st' rr
        obtain ⟨a, dx, fs, z1, z2, z3, z4⟩ := q v H' g' go st' rr
        refine ⟨a, dx, fs, z1, z2, z3, ?_⟩
        obtain ⟨g2, s2, st2, q2⟩ := z4
        exact q2.ret (v := ([] : List V)) (Go.refl g2 H') st2 .nil
end

abbrev VK (X : Cx) (W : WX) (ks : List Keyword) (m : M (List Ref)) : Prop := PK X ks (tG X.K W (rRs X.K) m)
section
variable {X : Cx} {W : WX} {e : Expr} {kws : List Keyword} {nm : Option Str} {kpos : Pos} {ma : M Ref} {mr : M (List Ref)}
theorem pk_imp {t t' : TA} (h : PK X kws t) (i : ∀ σ H Q, t' σ H Q → t σ H Q) : PK X kws t' := ⟨fun pos pins s σ H Q I q => h.run pos pins s σ H Q I (i _ _ _ q)⟩
theorem vk_nil : Vs.VK X W [] (ret []) := pk_imp pk_nil fun σ H Q ⟨g, s, st, q⟩ => q.ret (v := ([] : List V)) (Go.refl g H) st .nil
theorem vk_cons (ha : VR X W e ma) (hr : Vs.VK X W kws mr) : Vs.VK X W (⟨nm, e, kpos⟩ :: kws) (mConsR ma mr) :=
  pk_imp (pk_cons ha hr) fun σ H Q ⟨g, s, st, q⟩ => seq st (Go.refl g H) q fun d s1 v H1 g1 _ go st1 r hk => seq st1 go hk fun ds s2 vs H2 g2 go12 go2 st2 r2 hk2 =>
    hk2.ret (v := v :: vs) go2 st2 (.cons (by cases d with
      | sl i => exact r
      | va d => exact Rep.go r go12) r2)
end
section
variable {K : PySem.W.Frag} {g : Gh} {s : S} {σ : L2.St} {H : Hp}
theorem St.pushPt (st : St K g s σ H) {o : O} {v : V} {r : Option Addr} (ro : RepO K g.F H g.m o v r) (fr : ∀ a, r = some a → ¬ g.own a) :
    St K { g with cv := g.cv ++ [v], Rs := g.Rs ++ [r] } { s with sl := s.sl ++ [some (.pt s.ce.length)], ce := s.ce ++ [o] } (σ ++ [some v]) H := by
  refine ⟨st.sub, by rw [List.length_append, List.length_append, st.len]; rfl, fun j x e => ?_, st.ce.snoc ro fun a ea z => fr a ea (.inl z), st.tb, fun a h1 h2 => ?_⟩
  · have e' : (s.sl ++ [some (Vl.pt s.ce.length)])[j]? = some (some x) := e
    by_cases q : j < s.sl.length
    · rw [List.getElem?_append_left q] at e'
      obtain ⟨w, h1, h2⟩ := st.slot j x e'
      refine ⟨w, by rw [List.getElem?_append_left (by rw [← st.len]; exact q)]; exact h1, ?_⟩
      cases x with
      | sh d => exact h2
      | pt n =>
        have h2' : g.cv[n]? = some w := h2
        show (g.cv ++ [v])[n]? = some w
        rw [List.getElem?_append_left (List.getElem?_eq_some_iff.mp h2').1]; exact h2'
    · rw [List.getElem?_append_right (by omega)] at e'
      have hj : j - s.sl.length = 0 := by
        have := (List.getElem?_eq_some_iff.mp e').1
        simp at this; omega
      rw [hj] at e'
      cases e'
      refine ⟨v, ?_, ?_⟩
      · rw [List.getElem?_append_right (by rw [← st.len]; omega), ← st.len, hj]; rfl
      · show (g.cv ++ [v])[s.ce.length]? = some v
        rw [← st.ce.lv, List.getElem?_append_right (Nat.le_refl _)]
        simp
  · rcases List.mem_append.mp h1 with z | z
    · exact st.dj a z h2
    · have : r = some a := (List.mem_singleton.mp z).symm
      exact fr a this (.inr h2)
end
/-- a slot and a cell more for the new instance, the call of __init__, the cell taken out -/
def mkCall (F : Fn) (c : Str) (G : List Ref → List Ref) : M O := fun s =>
  match callF F (G [.sl s.sl.length]) { s with sl := s.sl ++ [some (.pt s.ce.length)], ce := s.ce ++ [.oi c []] } with
  | some (.ok (.sh .non) s') => (match s'.ce[s.ce.length]? with
    | some o => some (.ok o { s' with sl := s.sl, ce := s'.ce.set s.ce.length .gone })
    | none => none)
  | some (.ex x s') => some (.ex x { s' with sl := s.sl })
  | _ => none
theorem callF_sl {F : Fn} {rs : List Ref} {s : S} {o : O} {s' : S} (h : callF F rs s = some (.ok o s')) : s'.sl = s.sl := by
  unfold callF at h
  split at h
  · split at h
    · split at h
      · cases h; rfl
      · cases h
    · split at h
      · cases h
      · cases h
    · cases h
  · cases h
section
variable {K : PySem.W.Frag} {W : WX}
theorem mk_sp {F : Fn} {c : Str} {n : Nat} {G : List Ref → List Ref} {gV : List V → List V} {g0 g : Gh} {H0 H : Hp} {s : S} {σ : L2.St} {Q : L2.VK} (st : St K g s σ H) (go : Go g0 H0 g H) (uw : Uni W)
    (hG : ∀ (g' : Gh) (H' : Hp) (x : V), Go g H g' H' → RefsOk K g' (σ ++ [some x]) (G [.sl s.sl.length]) (gV [x])) (hn : ∀ x, (gV [x]).length = n)
    (hk : tAt K W (rO K) g0 H0 (mkCall F c G) s σ Q) : ∀ x dx, H x = none → H dx = none → dx ≠ x → spOf K n F (gV [.ref x]) (upd (upd H dx (.own x)) x (.ins (He.ga K c) dx [])) (fun v H2 => v = .non ∧ Q (.ref x) H2) (EA W) := by
  intro x dx hx hdx hne
  have hx1 : (upd H dx (.own x)) x = none := by rw [upd_ne fun e => hne e.symm]; exact hx
  have st1 := st.new (u := .own x) hdx
  have st2 := st1.new (u := .ins (He.ga K c) dx []) hx1
  have go2 := (go.new (u := .own x) hdx).new (u := .ins (He.ga K c) dx []) hx1
  have gg := ((Go.refl g H).new (u := .own x) hdx).new (u := .ins (He.ga K c) dx []) hx1
  have nox : ¬ g.own x := not_own st hx
  have ro : RepO K g.F (upd (upd H dx (.own x)) x (.ins (He.ga K c) dx [])) g.m (.oi c []) (.ref x) (some x) := .oi (free_of st.sub hx) upd_same .nil
  have st3 := st2.pushPt ro (fun a ea => by cases ea; exact nox)
  have h0 : g0.own x ∨ H0 x = none := by
    by_cases q : g0.own x
    · exact .inl q
    · cases z : H0 x with
      | none => exact .inr rfl
      | some o => exact absurd hx (go.trk x (by rw [z]; exact fun y => nomatch y))
  have go3 := go2.setPt (v := .ref x) (r := some x) (fun a ea => by cases ea; exact h0)
  have gg3 := gg.setPt (v := .ref x) (r := some x) (fun a ea => by cases ea; exact .inr hx)
  refine spOf.mono (fun cls d H h σ' => uw _ _ _ _ _ h) (callF_sp (W := W) (hn _) (Go.refl _ _) st3 (hG _ _ _ gg3) ⟨?_⟩)
  have hk := hk.run
  unfold mkCall at hk
  cases z : callF F (G [.sl s.sl.length]) { s with sl := s.sl ++ [some (.pt s.ce.length)], ce := s.ce ++ [.oi c []] } with
  | none => rw [z] at hk; exact hk.elim
  | some r =>
    rw [z] at hk
    cases r with
    | ex xx s' => exact fun cls dd H' g' y st' rx => uw _ _ _ _ _ (hk cls dd H' g' (go3.trans y) (st.back (gg3.trans y).up st') rx)
    | ok o s' =>
      intro v H' g' y st' rr
      cases o with
      | sh d =>
        cases d with
        | non =>
          obtain ⟨r, r1, _⟩ := rr
          cases r1 with
          | sh r1 =>
            cases r1
            refine ⟨rfl, ?_⟩
            dsimp only at hk
            cases e : s'.ce[s.ce.length]? with
            | none => rw [e] at hk; exact hk.elim
            | some o =>
              rw [e] at hk
              obtain ⟨g2, w, r2, k1, k2, k3, k4, k5⟩ := st'.take_out e
              have ew : (g.cv ++ [V.ref x])[s.ce.length]? = some (.ref x) := by
                rw [← st.ce.lv, List.getElem?_append_right (Nat.le_refl _)]
                simp
              have ew2 := y.cv _ _ ew
              rw [ew2] at k1
              cases k1
              exact hk (.ref x) H' g2 ((go3.trans y).trans k2) (st.back ((gg3.trans y).trans k2).up k3) ⟨r2, k4, fun a ea => ⟨(k5 a ea).1, (go3.trans y).rts a (k5 a ea).2⟩⟩
        | _ => exact hk.elim
      | _ => exact hk.elim
/-- C(e, .., k = v, ..): G puts them in the parameters' order, with defaults -/
def mMake (F : Fn) (c : Str) (G : List Ref → List Ref → List Ref) (ma mk : M (List Ref)) : M O := bnd ma fun rs => bnd mk fun zs => mkCall F c fun r => G (r ++ rs) zs
/-- the order of parameters, and defaults -/
def GOk (K : PySem.W.Frag) (n m N : Nat) (G : List Ref → List Ref → List Ref) (gV : List V → List V → List V) : Prop := ∀ (g : Gh) (σ : L2.St) (rs zs : List Ref) (vs us : List V), rs.length = n → zs.length = m → RefsOk K g σ rs vs → RefsOk K g σ zs us → RefsOk K g σ (G rs zs) (gV vs us) ∧ (gV vs us).length = N
theorem tmakeK_imp {F : Fn} {c : Str} {n m N : Nat} {G : List Ref → List Ref → List Ref} {gV : List V → List V → List V} {ma mk : M (List Ref)} (uw : Uni W) (hG : GOk K (n + 1) m N G gV) (hn : ∀ s rs s', ma s = some (.ok rs s') → rs.length = n) (hm : ∀ s rs s', mk s = some (.ok rs s') → rs.length = m)
    (σ : L2.St) (H : Hp) (Q : L2.VK) (h : tG K W (rO K) (mMake F c G ma mk) σ H Q) : tMakeK (He.ga K c) n m (spOf K N F) gV (EA W) (tG K W (rRs K) ma) (tG K W (rRs K) mk) σ H Q := by
  obtain ⟨g, s, st, q⟩ := h
  refine seqE st (Go.refl g H) q fun rs s1 vs H1 g1 e1 _ go st1 ro hk => ?_
  refine seqE st1 go hk fun zs s2 us H2 g2 e2 go12 go2 st2 rz hk2 => ?_
  have l1 := hn s rs s1 e1
  have l2 := hm s1 zs s2 e2
  have l3 := refs_len ro
  have l4 := refs_len rz
  have ext : ∀ (g' : Gh) (H' : Hp) (x : V), Go g2 H2 g' H' → RefsOk K g' (σ ++ [some x]) ([Ref.sl s2.sl.length] ++ rs) (x :: vs) ∧ RefsOk K g' (σ ++ [some x]) zs us := fun g' H' x go' => ⟨.cons (by
    show (σ ++ [some x])[s2.sl.length]? = _
    rw [st2.len, List.getElem?_append_right (Nat.le_refl _)]; simp) (refs_ext (go12.trans go') ro), refs_ext go' rz⟩
  refine ⟨by omega, by omega, mk_sp (n := N) (G := fun r => G (r ++ rs) zs) (gV := fun x => gV (x ++ vs) us) st2 go2 uw (fun g' H' x go' => ?_) (fun x => ?_) hk2⟩
  · exact (hG g' _ _ _ _ _ (by simp; omega) l2 (ext g' H' x go').1 (ext g' H' x go').2).1
  · exact (hG g2 _ _ _ _ _ (by simp; omega) l2 (ext g2 H2 x (Go.refl _ _)).1 (ext g2 H2 x (Go.refl _ _)).2).2
end
section
variable {X : Cx} {W : WX} {k n N : Nat} {f : Addr} {fd : FuncData} {ps ks : List Str} {F : Fn} {x c : Str} {p pos : Pos} {e : Expr} {es : List Expr} {kws : List Keyword} {ma mk : M (List Ref)} {gA : List Value → List Value → List Value} {gV : List V → List V → List V} {G : List Ref → List Ref → List Ref}
theorem vf_make (uw : Uni W) (tk : Takes X W) (M0 : L2.Mk X.K (He.ga X.K c) f) (F0 : FnOk X.prog X.w X.K X.mg X.base (L2.CX X.prog X.w) k f fd ps (spOf X.K N F)) (hr : Room (k + 1) X.A) (hm : X.mg x = some (.ref (He.ga X.K c))) (hb : KBn X.K fd ps (n + 1) ks gA gV) (hG : GOk X.K (n + 1) ks.length N G gV)
    (ha : VAr X W (e :: es) ma) (hkw : Vs.VK X W kws mk) (hn : MLen ma n) (hmk : MLen mk ks.length) (hg : Gl X x := by rfl)
    (hall : (backToKw pos (keywordEach kws X.env)).all (·.1.isSome) = true := by rfl) (hks : (backToKw pos (keywordEach kws X.env)).filterMap (·.1) = ks := by rfl) (hdb : (x == ("__debug__" : Str)) = false := by decide)
    (he : starEach (e :: es) X.env = (false, eval e X.env) :: starEach es X.env := by rfl) (hpl : ((backTo pos (starEach (e :: es) X.env)).any (·.1) || (backToKw pos (keywordEach kws X.env)).any (·.1.isNone)) = false := by rfl) :
    VF X W (.Call (.Name x p) (e :: es) kws pos) (mMake F c G ma mk) :=
  pe_imp (pe_makeK M0 F0 hr hg hm hb (passEA tk) ha hkw hall hks hdb he hpl) fun σ H Q h => tmakeK_imp uw hG hn hmk σ H Q h
theorem vf_make0 (uw : Uni W) (tk : Takes X W) (M0 : L2.Mk X.K (He.ga X.K c) f) (F0 : FnOk X.prog X.w X.K X.mg X.base (L2.CX X.prog X.w) k f fd ps (spOf X.K N F)) (hr : Room (k + 1) X.A) (hm : X.mg x = some (.ref (He.ga X.K c))) (hb : KBn X.K fd ps 1 ks gA gV) (hG : GOk X.K 1 ks.length N G gV)
    (hkw : Vs.VK X W kws mk) (hmk : MLen mk ks.length) (hg : Gl X x := by rfl)
    (hall : (backToKw pos (keywordEach kws X.env)).all (·.1.isSome) = true := by rfl) (hks : (backToKw pos (keywordEach kws X.env)).filterMap (·.1) = ks := by rfl) (hdb : (x == ("__debug__" : Str)) = false := by decide)
    (hpl : ((backTo pos (starEach [] X.env)).any (·.1) || (backToKw pos (keywordEach kws X.env)).any (·.1.isNone)) = false := by rfl) :
    VF X W (.Call (.Name x p) [] kws pos) (mMake F c G (Vs.ret []) mk) :=
  pe_imp (pe_makeK0 M0 F0 hr hg hm hb (passEA tk) hkw hall hks hdb hpl) fun σ H Q h => by
    obtain ⟨g, s, st, q⟩ := tmakeK_imp (n := 0) uw hG (fun s rs s' e => by cases e; rfl) hmk σ H Q h
    exact q.ret (v := ([] : List V)) (Go.refl g H) st .nil
/-- f(e, .., k = v, ..) -/
def mCallK (F : Fn) (G : List Ref → List Ref → List Ref) (ma mk : M (List Ref)) : M O := bnd ma fun rs => bnd mk fun zs => callF F (G rs zs)
end
end Vs
namespace Vs
open PySem PySem.Spec PyProof.Rows L2

theorem ifBound_bi {M : Model} {A : Around} {E : Value → Shared → Prop} {s : Shared} {K : PySem.W.Frag} {x C : Addr} {ox : Obj} {od : Option Obj} {name : Str} {id : String} {args : List Value} {Q : Option Value → Shared → Prop} (X : K.In s.heap) (I : PySem.W.InstAt s.heap x ox C od) (hs : PySem.W.findIn K (.ref C) name = some (some (.builtin id)))
    (hb : bindSpecial (.builtin id) (.ref x) = pure (.builtin id, [.ref x])) (h : wpAny M A (call (.builtin id) (.ref x :: args)) (fun v => Q (some v)) E s) : wpAny M A (callSpecialIfBound? (.ref x) name args) Q E s := by
  simp only [callSpecialIfBound?, bindSpecialIfBound?]
  refine wpAny_holding (wpAny_bind (wpAny_bind (wpAny_bind (I.type.here ((PySem.W.looks_findIn X hs).here ?_)))))
  refine wpAny_bind (wpAny_askSetting (wpAny_ite ?_))
  have fin : wpAny M A (call (.builtin id) ([.ref x] ++ args) >>= fun v => pure (some v)) Q E s := wpAny_bind (wpAny_mono h (fun v s' h' => wpAny_pure h') fun _ _ h' => h')
  split
  · exact wpAny_bind (wpAny_of_eq hb (wpAny_pure (by exact fin)))
  · exact wpAny_tryCatch (wpAny_bind (wpAny_of_eq hb (wpAny_pure (by exact fin))))

def tyD : D → Option String
  | .non => some "NoneType"
  | .bl _ => some "bool"
  | .int _ => some "int"
  | .str _ => some "str"
  | .lst _ => some "list"
  | .rl _ => some "list"
  | .tup _ => some "tuple"
  | .ct _ => some "tuple"
  | _ => none
section
variable {X : Cx} {pins : List (Addr × Obj)} {σ : L2.St} {H : Hp} {s : Shared} {F : Hp} {m : List Addr}
theorem looks_ob {M : Model} {h : Heap} {a : Addr} {o : Obj} {t : Value} (e : h.get? a = some o) (c : o.cls = t) : PySem.W.Looks M h (typeOf (.ref a)) t := c ▸ (PySem.W.Looks.ld e).andThen .now
theorem rd_seq_cls (I : Inv X pins σ H s) {a : Addr} {xs : List V} (h : Rd H a (.lst xs)) : ∃ o, s.heap.get? a = some o ∧ o.cls = .type "list" := by
  rcases h with h | ⟨ob, h⟩
  · obtain ⟨_, _, n, _, h1⟩ := (show ObjOk X.prog X.w H s.heap a (.lst xs) from I.hok a _ h)
    exact ⟨_, h1, rfl⟩
  · obtain ⟨_, _, _, n, _, h1⟩ := (show ObjOk X.prog X.w H s.heap a (.frz ob (.lst xs)) from I.hok a _ h)
    exact ⟨_, h1, rfl⟩
theorem rd_tup_cls (I : Inv X pins σ H s) {a : Addr} {xs : List V} (h : Rd H a (.tup xs)) : ∃ o, s.heap.get? a = some o ∧ o.cls = .type "tuple" := by
  rcases h with h | ⟨ob, h⟩
  · obtain ⟨_, _, _, o, h1, h2, _⟩ := (show ObjOk X.prog X.w H s.heap a (.tup xs) from I.hok a _ h)
    exact ⟨o, h1, h2⟩
  · obtain ⟨_, _, _, _, o, h1, h2, _⟩ := (show ObjOk X.prog X.w H s.heap a (.frz ob (.tup xs)) from I.hok a _ h)
    exact ⟨o, h1, h2⟩
theorem tyD_ob (I : Inv X pins σ H s) {d : D} {x : V} {u : Value} {T : String} (sb : Sub F H) (rt : RepT X.K F H m d x) (r : RelV x u) (e : tyD d = some T) :
    (∀ t : Shared, t.TypeIs u T) ∨ ∃ a o, u = .ref a ∧ s.heap.get? a = some o ∧ o.cls = .type T := by
  cases d with
  | non => cases e; rw [rt.non_] at r; cases (show u = Value.none from r); exact .inl fun _ => rfl
  | bl b => cases e; rw [rt.bl_] at r; cases (show u = Value.bool b from r); exact .inl fun _ => rfl
  | int i => cases e; rw [rt.int_] at r; obtain ⟨t, q⟩ := (show ∃ t, u = Value.int i t from r); cases q; exact .inl fun _ => rfl
  | str i => cases e; rw [rt.str_] at r; obtain ⟨t, q⟩ := (show ∃ t, u = Value.str i t from r); cases q; exact .inl fun _ => rfl
  | lst ds =>
    cases e
    obtain ⟨a, xs, rfl, h1, _⟩ := rt.lst_ sb
    cases (show u = Value.ref a from r)
    obtain ⟨o, h2, h3⟩ := rd_seq_cls I (.inl h1)
    exact .inr ⟨a, o, rfl, h2, h3⟩
  | tup ds =>
    cases e
    obtain ⟨a, xs, rfl, h1, _⟩ := rt.tup_ sb
    cases (show u = Value.ref a from r)
    obtain ⟨o, h2, h3⟩ := rd_tup_cls I (.inl h1)
    exact .inr ⟨a, o, rfl, h2, h3⟩
  | rl ds =>
    cases e
    obtain ⟨a, xs, rfl, h1, _⟩ := rt.rl_ sb
    cases (show u = Value.ref a from r)
    rcases h1 with h1 | ⟨o, _, _, h1, h2, _⟩
    · obtain ⟨o, h2, h3⟩ := rd_seq_cls I h1
      exact .inr ⟨a, o, rfl, h2, h3⟩
    · exact .inr ⟨a, o, rfl, I.kIn a o h1, h2⟩
  | ct ds =>
    cases e
    obtain ⟨a, xs, rfl, h1, _⟩ := rt.ct_ sb
    cases (show u = Value.ref a from r)
    rcases h1 with h1 | ⟨o, _, _, h1, h2, _⟩
    · obtain ⟨o, h2, h3⟩ := rd_tup_cls I h1
      exact .inr ⟨a, o, rfl, h2, h3⟩
    · exact .inr ⟨a, o, rfl, I.kIn a o h1, h2⟩
  | _ => cases e
theorem tyD_looks (I : Inv X pins σ H s) {d : D} {x : V} {u : Value} {T : String} (sb : Sub F H) (rt : RepT X.K F H m d x) (r : RelV x u) (e : tyD d = some T) (M : Model) : PySem.W.Looks M s.heap (typeOf u) (.type T) := by
  rcases tyD_ob I sb rt r e with h | ⟨a, o, rfl, h1, h2⟩
  · intro A Q E t k q
    exact wpAny_typeOf (h t) q
  · exact looks_ob h1 h2
theorem notFirst_ty {K : PySem.W.Frag} {C : Addr} {d : D} {T : String} (e : tyD d = some T) : PySem.W.notFirst K C (.type T) = true := by
  cases d <;> first | (cases e; rfl) | cases e
end
/-- an own __eq__: where it is found, what it does -/
structure Eqs (X : Cx) (n : Nat) (c : Str) (f : Addr) (F : Fn) (E : XK) : Prop where
  run : ∃ fd ps, FnOk X.prog X.w X.K X.mg X.base (L2.CX X.prog X.w) n f fd ps (spOf X.K 2 F) ∧ Binds X.K fd ps []
  hm : Meth X.K (He.ga X.K c) "__eq__" f
  hx : Passes (L2.CX X.prog X.w) X E
section
variable {X : Cx} {n : Nat} {c : Str} {f : Addr} {F : Fn} {E : XK} {A : Around} {pins : List (Addr × Obj)} {s : Shared} {σ : L2.St} {H : Hp} {a dx : Addr} {fs : List (Str × V)} {y : V} {v tb : Value} {Q : L2.VK}
/-- the own __eq__ called -/
theorem own_call (G : Eqs X n c f F E) (sbx : L2.Sub X n A) (I : Inv X pins σ H s) (rv : RelV y v) (h : spOf X.K 2 F [.ref a, y] H (fun z H' => ∃ b, z = .bl b ∧ Q (.bl b) H') E) :
    wpAny (model X.prog X.w) A (call (.ref f) [.ref a, v]) (fun r s' => ∃ b H', r = .bool b ∧ Inv X pins σ H' s' ∧ Q (.bl b) H') X.xe s := by
  obtain ⟨fd, ps, G1, hb⟩ := G.run
  have e0 : Env0 X.prog X.w X.K X.mg X.base A X.stack s H := by
    have e := I.env0
    exact ⟨by rw [sbx.fr]; exact e.frames, e.mod, e.bs, e.bsz, e.funs, e.frf, e.hok, e.bare⟩
  have hl := G1.len _ _ _ _ h
  have r2 : Vals [V.ref a, y] [Value.ref a, v] := .cons rfl (.cons rv .nil)
  refine wpAny_call (codeAny_mono (G1.run A X.stack s H ⟨[.ref a, v], []⟩ [.ref a, v] [.ref a, y] _ E sbx.room e0 (by
    have := hb s [.ref a, v] I.kIn (by simpa using hl)
    simpa using this) r2 h) fun r s' hq => ?_)
  cases r with
  | error e => exact G.hx pins σ H s e s' I hq
  | ok fl =>
    cases fl with
    | ret w =>
      obtain ⟨z, H', I', rz, b, eb, q⟩ := I.after hq
      subst eb
      cases rz
      exact ⟨b, H', rfl, I', q⟩
    | next => exact False.elim hq
    | brk => exact False.elim hq
    | cont => exact False.elim hq
theorem rc_left (G : Eqs X n c f F E) (sbx : L2.Sub X n A) (I : Inv X pins σ H s) (rv : RelV y v) (ha : H a = some (.ins (He.ga X.K c) dx fs))
    (ht : ∀ M, PySem.W.Looks M s.heap (typeOf v) tb) (hn : PySem.W.notFirst X.K (He.ga X.K c) tb = true) (h : spOf X.K 2 F [.ref a, y] H (fun z H' => ∃ b, z = .bl b ∧ Q (.bl b) H') E) :
    wpAny (model X.prog X.w) A (richCompare .Eq (.ref a) v) (fun r s' => ∃ b H', r = .bool b ∧ Inv X pins σ H' s' ∧ Q (.bl b) H') X.xe s := by
  obtain ⟨mA, J, _⟩ := ins_get I.hok ha
  obtain ⟨od, J, _⟩ := J.look
  obtain ⟨m, hF⟩ := I.fr
  refine PySem.W.cmp_K (op := .Eq) (tb := tb) sbx.room.units0 hF I.ok.mod.kin J (ht _) hn G.hm.at_ G.hm.fn (wpAny_mono (own_call G sbx I rv h) (fun r s' q => ?_) fun _ _ z => z)
  obtain ⟨b, H', rfl, I', q⟩ := q
  exact ⟨b, H', rfl, I', q⟩
open PySem in
theorem ne_left (G : Eqs X n c f F E) (sbx : L2.Sub X (n + 1) A) (I : Inv X pins σ H s) (rv : RelV y v) (ha : H a = some (.ins (He.ga X.K c) dx fs)) (hne : PySem.W.findIn X.K (.ref (He.ga X.K c)) "__ne__" = some (some (.builtin "object.__ne__"))) (hob : PySem.W.mroIn X.K (He.ga X.K c) (.type "object") = some true)
    (ht : ∀ M, PySem.W.Looks M s.heap (typeOf v) tb) (hn : PySem.W.notFirst X.K (He.ga X.K c) tb = true) (h : spOf X.K 2 F [.ref a, y] H (fun z H' => ∃ b, z = .bl b ∧ Q (.bl b) H') E) :
    wpAny (model X.prog X.w) A (richCompare .NotEq (.ref a) v) (fun r s' => ∃ b H', r = .bool (!b) ∧ Inv X pins σ H' s' ∧ Q (.bl b) H') X.xe s := by
  obtain ⟨mA, J, _⟩ := ins_get I.hok ha
  obtain ⟨od, J, _⟩ := J.look
  have Xk := I.kIn
  have ent : wpAny (model X.prog X.w) A.in1 (Builtin.«object.__ne__» ⟨[.ref a, v], []⟩) (fun fin s' => ∃ b H', fin = .done (.ret (.bool (!b))) ∧ Inv X pins σ H' s' ∧ Q (.bl b) H') X.xe s := by
    have oc := own_call G sbx.in1 I rv h
    have hu : A.in1.units < cLine := sbx.in1.room.units0
    unfold Builtin.«object.__ne__»
    repeat (first
      | with_reducible refine wpAny_cRoomFor hu ?_
      | (refine wpAny_bind (m := callSpecialIfBound? (.ref a) (Str.ofString "__eq__") [v])
          (PySem.W.ifBound_K Xk J G.hm.at_ G.hm.fn (wpAny_mono oc (fun r s' hr => by
            obtain ⟨b, H', rfl, hq⟩ := hr
            repeat (first | exact ⟨b, H', rfl, hq⟩ | exact wpAny_pure ⟨b, H', rfl, hq⟩ | exact wpAny_truthy_bool ⟨b, H', rfl, hq⟩ | (refine wpAny_bind (m := truthy (.bool _)) (wpAny_truthy_bool ?_)) | wp_step)) fun _ _ e => e)))
      | wp_step)
  have one : wpAny (model X.prog X.w) A (tryCompare (.ref a) "__ne__" v) (fun r s' => ∃ b H', r = some (.bool (!b)) ∧ Inv X pins σ H' s' ∧ Q (.bl b) H') X.xe s := by
    unfold tryCompare
    refine wpAny_bind (ifBound_bi Xk J hne (PySem.F.cmp_object.ne.bind _) (wpAny_call (codeAny_call_builtin PySem.F.cmp_object.ne.plain PySem.F.cmpEntry_ne (PySem.W.check_slot PySem.F.cmpKind_ne PySem.F.cmpSplit_ne (J.type.andThen (PySem.W.looks_mroIn Xk hob)) (PySem.F.cmpArgs_ne _ _) (wpAny_mono ent (fun fin s' q => ?_) fun _ _ z => z)))))
    obtain ⟨b, H', rfl, I', q⟩ := q
    exact wpAny_pure ⟨b, H', rfl, I', q⟩
  simp only [richCompare, cmpInfo_NotEq, oneThing_ref]
  refine wpAny_holding (wpAny_bind (wpAny_cRoomFor sbx.room.units0 ?_))
  refine wpAny_bind (J.type.here (wpAny_bind ((ht _).here ?_)))
  split
  · rename_i q
    have e : PySem.W.subIn X.K tb (.ref (He.ga X.K c)) = some false := by
      rcases Bool.or_eq_true_iff.mp hn with e | e
      · rw [beq_iff_eq.mp e] at q; simp at q
      · exact beq_iff_eq.mp e
    refine wpAny_bind ((PySem.W.looks_subIn Xk e).here ?_)
    simp only [Bool.false_eq_true, if_false]
    refine wpAny_bind (wpAny_mono one (fun r s' z => ?_) fun _ _ e => e)
    obtain ⟨b, H', rfl, hq⟩ := z
    exact wpAny_pure ⟨b, H', rfl, hq⟩
  · refine wpAny_bind (wpAny_pure ?_)
    simp only [Bool.false_eq_true, if_false]
    refine wpAny_bind (wpAny_mono one (fun r s' z => ?_) fun _ _ e => e)
    obtain ⟨b, H', rfl, hq⟩ := z
    exact wpAny_pure ⟨b, H', rfl, hq⟩
/-- the left one declines: the right one's own __eq__ -/
theorem rc_right {u : Value} {T id : String} (G : Eqs X n c f F E) (sbx : L2.Sub X n A) (I : Inv X pins σ H s) (rv : RelV y u) (ha : H a = some (.ins (He.ga X.K c) dx fs))
    (hT : s.TypeIs u T) (slot : Slot T "__eq__" id) (hsub : PySem.W.subIn X.K (.ref (He.ga X.K c)) (.type T) = some false) (h1 : ∀ Q' : Value → Shared → Prop, Q' .notImplemented s → wpAny (model X.prog X.w) A (call (.builtin id) [u, .ref a]) Q' X.xe s)
    (h : spOf X.K 2 F [.ref a, y] H (fun z H' => ∃ b, z = .bl b ∧ Q (.bl b) H') E) :
    wpAny (model X.prog X.w) A (richCompare .Eq u (.ref a)) (fun r s' => ∃ b H', r = .bool b ∧ Inv X pins σ H' s' ∧ Q (.bl b) H') X.xe s := by
  obtain ⟨mA, J, _⟩ := ins_get I.hok ha
  obtain ⟨od, J, _⟩ := J.look
  have Xk := I.kIn
  have one : wpAny (model X.prog X.w) A (tryCompare (.ref a) "__eq__" u) (fun r s' => ∃ b H', r = some (.bool b) ∧ Inv X pins σ H' s' ∧ Q (.bl b) H') X.xe s := by
    unfold tryCompare
    refine wpAny_bind (PySem.W.ifBound_K Xk J G.hm.at_ G.hm.fn (wpAny_mono (own_call G sbx I rv h) (fun r s' q => ?_) fun _ _ z => z))
    obtain ⟨b, H', rfl, I', q⟩ := q
    exact wpAny_pure ⟨b, H', rfl, I', q⟩
  have two : wpAny (model X.prog X.w) A (tryCompare u "__eq__" (.ref a)) (fun r s' => r = none ∧ s' = s) X.xe s :=
    wpAny_tryCompare_declines hT slot (h1 _ ⟨rfl, rfl, rfl⟩)
  simp only [richCompare, cmpInfo_Eq, hT.oneThing_none]
  refine wpAny_holding (wpAny_bind (wpAny_cRoomFor sbx.room.units0 ?_))
  refine wpAny_bind (wpAny_typeOf hT (wpAny_bind (J.type.here ?_)))
  split
  · refine wpAny_bind ((PySem.W.looks_subIn Xk hsub).here ?_)
    simp only [Bool.false_eq_true, if_false, Bool.not_false, if_true]
    refine wpAny_bind (m := tryCompare u _ (.ref a)) (wpAny_mono two (fun r s1 z => ?_) fun _ _ e => e)
    obtain ⟨z1, z2⟩ := z
    subst z1
    subst z2
    refine wpAny_bind (wpAny_mono one (fun r s' z => ?_) fun _ _ e => e)
    obtain ⟨b, H', rfl, hq⟩ := z
    exact wpAny_pure ⟨b, H', rfl, hq⟩
  · rename_i q
    exact absurd (by simp) q
end
end Vs
namespace Vs
open PySem PySem.Spec PyProof.Rows L2
section
variable {prog : Program} {w : World} {A : Around} {E : Value → Shared → Prop} {s : Shared} {a : Addr} {K : PySem.W.Frag} {C : Addr} {ox : Obj} {od : Option Obj} {Q : Value → Shared → Prop}
theorem isinst_here {M : Model} {v t : Value} {b : Bool} {R : Bool → Shared → Prop} (h : PySem.W.Looks M s.heap (isInstance v t) b) (q : R b s) : wpAny M A (isInstance v t) R E s := h.here q
theorem dec_none (q : Q .notImplemented s) : wpAny (model prog w) A (call (.builtin "NoneType.__eq__") [.none, .ref a]) Q E s :=
  call_gives PySem.F.slot_NoneType_eq_refl rfl PySem.F.entry_NoneType_eq (PySem.F.args_NoneType_eq_2 _ _) (PySem.SeqAt.NoneType___eq___none_ref_0 a) q
theorem dec_list {l : Addr} (X : K.In s.heap) (J : PySem.W.InstAt s.heap a ox C od) (e : PySem.W.subIn K (.ref C) (.type "list") = some false) (hT : s.TypeIs (.ref l) "list") (q : Q .notImplemented s) : wpAny (model prog w) A (call (.builtin "list.__eq__") [.ref l, .ref a]) Q E s := by
  have hI : ∀ M, PySem.W.Looks M s.heap (isInstance (.ref a) (.type "list")) false := fun M => J.type.andThen (PySem.W.looks_subIn X e)
  refine GQ.call_here PySem.F.slot_list_eq hT PySem.F.entry_list_eq (PySem.F.args_list_eq_2 _ _) ?_
  wp_walk using isinst_here (hI _)
  exact q
theorem dec_tuple {l : Addr} (X : K.In s.heap) (J : PySem.W.InstAt s.heap a ox C od) (e : PySem.W.subIn K (.ref C) (.type "tuple") = some false) (hT : s.TypeIs (.ref l) "tuple") (q : Q .notImplemented s) : wpAny (model prog w) A (call (.builtin "tuple.__eq__") [.ref l, .ref a]) Q E s := by
  have hI : ∀ M, PySem.W.Looks M s.heap (isInstance (.ref a) (.type "tuple")) false := fun M => J.type.andThen (PySem.W.looks_subIn X e)
  refine GQ.call_here PySem.F.slot_tuple_eq hT PySem.F.entry_tuple_eq (PySem.F.args_tuple_eq_2 _ _) ?_
  wp_walk using isinst_here (hI _)
  exact q
theorem dec_int {i : Int} {t : Tok} {dx : Addr} (ho : s.heap.get? a = some (PySem.W.instObj C dx)) (q : Q .notImplemented s) : wpAny (model prog w) A (call (.builtin "int.__eq__") [.int i t, .ref a]) Q E s := by
  refine GQ.call_here PySem.F.slot_int_eq (typeIs_int s i t) PySem.F.entry_int_eq (PySem.F.args_int_eq_2 _ _) ?_
  unfold PySem.W.instObj at ho
  wp_walk using AutoSeq1.wpAny_loadPart' ho
  exact q
theorem dec_bool {i : Bool} {dx : Addr} (ho : s.heap.get? a = some (PySem.W.instObj C dx)) (q : Q .notImplemented s) : wpAny (model prog w) A (call (.builtin "int.__eq__") [.bool i, .ref a]) Q E s := by
  refine GQ.call_here PySem.F.slot_bool_eq rfl PySem.F.entry_int_eq (PySem.F.args_int_eq_2 _ _) ?_
  unfold PySem.W.instObj at ho
  wp_walk using AutoSeq1.wpAny_loadPart' ho
  exact q
theorem dec_str {i : Str} {t : Tok} {dx : Addr} (ho : s.heap.get? a = some (PySem.W.instObj C dx)) (q : Q .notImplemented s) : wpAny (model prog w) A (call (.builtin "str.__eq__") [.str i t, .ref a]) Q E s := by
  refine GQ.call_here PySem.F.slot_str_eq (typeIs_str s i t) PySem.F.entry_str_eq (PySem.F.args_str_eq_2 _ _) ?_
  unfold PySem.W.instObj at ho
  wp_walk using AutoSeq1.wpAny_loadPart' ho
  exact q
end
end Vs
namespace Vs
open PySem PySem.Spec PyProof.Rows L2
/-- what == asks of a class with an own __eq__ -/
structure EqC (K : PySem.W.Frag) (c : Str) : Prop where
  ne : PySem.W.findIn K (.ref (He.ga K c)) "__ne__" = some (some (.builtin "object.__ne__"))
  ob : PySem.W.mroIn K (He.ga K c) (.type "object") = some true
  s1 : PySem.W.subIn K (.ref (He.ga K c)) (.type "NoneType") = some false
  s2 : PySem.W.subIn K (.ref (He.ga K c)) (.type "bool") = some false
  s3 : PySem.W.subIn K (.ref (He.ga K c)) (.type "int") = some false
  s4 : PySem.W.subIn K (.ref (He.ga K c)) (.type "str") = some false
  s5 : PySem.W.subIn K (.ref (He.ga K c)) (.type "list") = some false
  s6 : PySem.W.subIn K (.ref (He.ga K c)) (.type "tuple") = some false
def eqcB (c : Str) (K : PySem.W.Frag) : Bool := decide (PySem.W.findIn K (.ref (He.ga K c)) "__ne__" = some (some (.builtin "object.__ne__"))) && (decide (PySem.W.mroIn K (He.ga K c) (.type "object") = some true) && (["NoneType", "bool", "int", "str", "list", "tuple"].all fun T => decide (PySem.W.subIn K (.ref (He.ga K c)) (.type T) = some false)))
theorem eqc_ok {K : PySem.W.Frag} {c : Str} (h : eqcB c K = true) : EqC K c := by
  unfold eqcB at h
  simp only [Bool.and_eq_true, decide_eq_true_eq, List.all_cons, List.all_nil] at h
  obtain ⟨h1, h2, h3, h4, h5, h6, h7, h8, _⟩ := h
  exact ⟨h1, h2, h3, h4, h5, h6, h7, h8⟩
/-- a thing of a known kind, or of the class -/
def Knd (K : PySem.W.Frag) (c : Str) (H : Hp) (y : V) : Prop := (∃ b dx fs, y = .ref b ∧ H b = some (.ins (He.ga K c) dx fs)) ∨ ∃ F m d T, Sub F H ∧ RepT K F H m d y ∧ tyD d = some T
section
variable {X : Cx} {n : Nat} {c : Str} {f : Addr} {F : Fn} {E : XK} {A : Around} {pins : List (Addr × Obj)} {s : Shared} {σ : L2.St} {H : Hp} {a dx : Addr} {fs : List (Str × V)} {x y : V} {u v tb : Value} {Q : L2.VK}
theorem knd_looks (I : Inv X pins σ H s) (rv : RelV y v) (k : Knd X.K c H y) : ∃ tb, (∀ M, PySem.W.Looks M s.heap (typeOf v) tb) ∧ PySem.W.notFirst X.K (He.ga X.K c) tb = true := by
  rcases k with ⟨b, dx, fs, rfl, h⟩ | ⟨G, m, d, T, sb, rt, e⟩
  · cases rv
    obtain ⟨mB, J, _⟩ := ins_get I.hok h
    obtain ⟨od, J, _⟩ := J.look
    exact ⟨_, fun M => J.type, by simp [PySem.W.notFirst]⟩
  · exact ⟨_, fun M => tyD_looks I sb rt rv e M, notFirst_ty e⟩
/-- richCompare .Eq with an instance of the class at one side -/
def rEqO (K : PySem.W.Frag) (c : Str) (F : Fn) (E : XK) : R2 := fun x y H Q =>
  (∃ a dx fs, x = .ref a ∧ H a = some (.ins (He.ga K c) dx fs) ∧ Knd K c H y ∧ spOf K 2 F [x, y] H (fun z H' => ∃ b, z = .bl b ∧ Q (.bl b) H') E) ∨
  (∃ a dx fs, y = .ref a ∧ H a = some (.ins (He.ga K c) dx fs) ∧ (∃ G m d T, Sub G H ∧ RepT K G H m d x ∧ tyD d = some T) ∧ spOf K 2 F [y, x] H (fun z H' => ∃ b, z = .bl b ∧ Q (.bl b) H') E)
theorem rc_own (G : Eqs X n c f F E) (ec : EqC X.K c) (sbx : L2.Sub X n A) (I : Inv X pins σ H s) (rx : RelV x u) (rv : RelV y v) (h : rEqO X.K c F E x y H Q) :
    wpAny (model X.prog X.w) A (richCompare .Eq u v) (fun r s' => ∃ b H', r = .bool b ∧ Inv X pins σ H' s' ∧ Q (.bl b) H') X.xe s := by
  rcases h with ⟨a, dx, fs, rfl, ha, k, h⟩ | ⟨a, dx, fs, rfl, ha, ⟨G0, m, d, T, sb, rt, e⟩, h⟩
  · cases rx
    obtain ⟨tb, ht, hn⟩ := knd_looks I rv k
    exact rc_left G sbx I rv ha ht hn h
  · cases rv
    obtain ⟨mA, J0, _⟩ := ins_get I.hok ha
    obtain ⟨od, J, _⟩ := J0.look
    have Xk := I.kIn
    cases d with
    | non => cases e; rw [rt.non_] at rx h; cases (show u = Value.none from rx); exact rc_right (y := .non) G sbx I rfl ha rfl PySem.F.slot_NoneType_eq_refl ec.s1 (fun Q' q => dec_none q) h
    | bl b => cases e; rw [rt.bl_] at rx h; cases (show u = Value.bool b from rx); exact rc_right (y := .bl b) G sbx I rfl ha rfl PySem.F.slot_bool_eq ec.s2 (fun Q' q => dec_bool J0.obj q) h
    | int i => cases e; rw [rt.int_] at rx h; obtain ⟨t, q⟩ := (show ∃ t, u = Value.int i t from rx); cases q; exact rc_right (y := .int i) G sbx I ⟨t, rfl⟩ ha (typeIs_int s i t) PySem.F.slot_int_eq ec.s3 (fun Q' q => dec_int J0.obj q) h
    | str i => cases e; rw [rt.str_] at rx h; obtain ⟨t, q⟩ := (show ∃ t, u = Value.str i t from rx); cases q; exact rc_right (y := .str i) G sbx I ⟨t, rfl⟩ ha (typeIs_str s i t) PySem.F.slot_str_eq ec.s4 (fun Q' q => dec_str J0.obj q) h
    | lst ds =>
      rcases tyD_ob I sb rt rx e with hh | ⟨p, o, rfl, h1, h2⟩
      · cases e
        obtain ⟨p, xs, rfl, _⟩ := rt.lst_ sb
        cases (show u = Value.ref p from rx)
        exact rc_right (y := .ref p) G sbx I rfl ha (hh s) PySem.F.slot_list_eq ec.s5 (fun Q' q => dec_list Xk J ec.s5 (hh s) q) h
      · cases e
        exact rc_right G sbx I rx ha ⟨o, h1, h2⟩ PySem.F.slot_list_eq ec.s5 (fun Q' q => dec_list Xk J ec.s5 ⟨o, h1, h2⟩ q) h
    | rl ds =>
      rcases tyD_ob I sb rt rx e with hh | ⟨p, o, rfl, h1, h2⟩
      · cases e
        obtain ⟨p, xs, rfl, _⟩ := rt.rl_ sb
        cases (show u = Value.ref p from rx)
        exact rc_right (y := .ref p) G sbx I rfl ha (hh s) PySem.F.slot_list_eq ec.s5 (fun Q' q => dec_list Xk J ec.s5 (hh s) q) h
      · cases e
        exact rc_right G sbx I rx ha ⟨o, h1, h2⟩ PySem.F.slot_list_eq ec.s5 (fun Q' q => dec_list Xk J ec.s5 ⟨o, h1, h2⟩ q) h
    | tup ds =>
      rcases tyD_ob I sb rt rx e with hh | ⟨p, o, rfl, h1, h2⟩
      · cases e
        obtain ⟨p, xs, rfl, _⟩ := rt.tup_ sb
        cases (show u = Value.ref p from rx)
        exact rc_right (y := .ref p) G sbx I rfl ha (hh s) PySem.F.slot_tuple_eq ec.s6 (fun Q' q => dec_tuple Xk J ec.s6 (hh s) q) h
      · cases e
        exact rc_right G sbx I rx ha ⟨o, h1, h2⟩ PySem.F.slot_tuple_eq ec.s6 (fun Q' q => dec_tuple Xk J ec.s6 ⟨o, h1, h2⟩ q) h
    | ct ds =>
      rcases tyD_ob I sb rt rx e with hh | ⟨p, o, rfl, h1, h2⟩
      · cases e
        obtain ⟨p, xs, rfl, _⟩ := rt.ct_ sb
        cases (show u = Value.ref p from rx)
        exact rc_right (y := .ref p) G sbx I rfl ha (hh s) PySem.F.slot_tuple_eq ec.s6 (fun Q' q => dec_tuple Xk J ec.s6 (hh s) q) h
      · cases e
        exact rc_right G sbx I rx ha ⟨o, h1, h2⟩ PySem.F.slot_tuple_eq ec.s6 (fun Q' q => dec_tuple Xk J ec.s6 ⟨o, h1, h2⟩ q) h
    | _ => cases e
theorem opr_eqO (G : Eqs X n c f F E) (ec : EqC X.K c) (hr : Room n X.A) : OpR X (compareOp .Eq) (rEqO X.K c F E) := by
  intro pins s σ H x y v u Q I rx ry h
  show wpAny (model X.prog X.w) X.A (richCompare .Eq v u) (EP X pins σ Q) X.xe s
  refine wpAny_mono (rc_own G ec ⟨hr, rfl⟩ I rx ry h) (fun r s' q => ?_) fun _ _ z => z
  obtain ⟨b, H', rfl, I', q⟩ := q
  exact ⟨.bl b, H', I', rfl, q⟩
def rNeO (K : PySem.W.Frag) (c : Str) (F : Fn) (E : XK) : R2 := fun x y H Q =>
  ∃ a dx fs, x = .ref a ∧ H a = some (.ins (He.ga K c) dx fs) ∧ Knd K c H y ∧ spOf K 2 F [x, y] H (fun z H' => ∃ b, z = .bl b ∧ Q (.bl (!b)) H') E
theorem opr_neO (G : Eqs X n c f F E) (ec : EqC X.K c) (hr : Room (n + 1) X.A) : OpR X (compareOp .NotEq) (rNeO X.K c F E) := by
  intro pins s σ H x y v u Q I rx ry h
  obtain ⟨a, dx, fs, rfl, ha, k, h⟩ := h
  cases rx
  obtain ⟨tb, ht, hn⟩ := knd_looks I ry k
  show wpAny (model X.prog X.w) X.A (richCompare .NotEq (.ref a) u) (EP X pins σ Q) X.xe s
  refine wpAny_mono (ne_left (Q := fun z H' => ∃ b, z = .bl b ∧ Q (.bl (!b)) H') G ⟨hr, rfl⟩ I ry ha ec.ne ec.ob ht hn ?_) (fun r s' q => ?_) fun _ _ z => z
  · obtain ⟨q1, g, args, ce, tb', st, q⟩ := h
    refine ⟨q1, g, args, ce, tb', st, ?_⟩
    cases z : F args ce tb' with
    | none => rw [z] at q; exact q
    | some r =>
      rw [z] at q
      cases r with
      | ok o c1 t1 => exact ⟨q.1, fun v H' g' a b d => by
          obtain ⟨bb, e1, e2⟩ := q.2 v H' g' a b d
          exact ⟨bb, e1, bb, rfl, e2⟩⟩
      | ex x c1 t1 => exact q
  · obtain ⟨b, H', rfl, I', b', eb, q⟩ := q
    cases eb
    exact ⟨.bl (!b), H', I', rfl, q⟩
end
theorem refs_app' {K : PySem.W.Frag} {g : Gh} {σ : L2.St} : ∀ {rs qs : List Ref} {vs us : List V}, RefsOk K g σ rs vs → RefsOk K g σ qs us → RefsOk K g σ (rs ++ qs) (vs ++ us)
  | _, _, _, _, .nil, q => q
  | _, _, _, _, .cons h t, q => .cons h (refs_app' t q)
/-- some true: the left one is an instance of the class; some false: the right one alone -/
def sideO (c : Str) (s : S) (r q : Ref) : Option Bool := match view s r, view s q with
  | some (.ins c1 _), some (.ins c2 _) => if c1 = c ∧ c2 = c then some true else none
  | some (.ins c1 _), some d => if c1 = c ∧ (tyD d).isSome = true then some true else none
  | some d, some (.ins c2 _) => if c2 = c ∧ (tyD d).isSome = true then some false else none
  | _, _ => none
def blO (neg : Bool) (m : M O) : M O := bnd m fun o => look fun _ => match o with
  | .sh (.bl b) => some (.sh (.bl (if neg then !b else b)))
  | _ => none
def mEqO (F : Fn) (c : Str) (ma mb : M Ref) : M O := bnd ma fun r => bnd mb fun q => bnd (look fun s => sideO c s r q) fun l => blO false (callF F (if l = true then [r, q] else [q, r]))
def mNeO (F : Fn) (c : Str) (ma mb : M Ref) : M O := bnd ma fun r => bnd mb fun q => bnd (look fun s => match sideO c s r q with
  | some true => some ()
  | _ => none) fun _ => blO true (callF F [r, q])
section
variable {K : PySem.W.Frag} {W : WX} {F : Fn} {c : Str} {ma mb : M Ref}
theorem tAt.bl {neg : Bool} {m : M O} {g0 : Gh} {H0 : Hp} {s : S} {σ : L2.St} {Q : L2.VK} (h : tAt K W (rO K) g0 H0 (blO neg m) s σ Q) : tAt K W (rO K) g0 H0 m s σ (fun z H' => ∃ b, z = .bl b ∧ Q (.bl (if neg then !b else b)) H') := by
  refine ⟨?_⟩
  have h := h.run
  cases z : m s with
  | none => unfold blO at h; rw [bnd_no z] at h; exact h
  | some r =>
    cases r with
    | ex x s' => unfold blO at h; rw [bnd_ex z] at h; exact h
    | ok o s' =>
      intro v H' g' go st r
      unfold blO at h
      rw [bnd_ok z] at h
      cases o with
      | sh d =>
        cases d with
        | bl b =>
          obtain ⟨r1, r2, _⟩ := r
          cases r2 with
          | sh r2 =>
            cases r2
            exact ⟨b, rfl, h _ H' g' go st ⟨none, .sh (.bl _), fun a e => nomatch e⟩⟩
        | _ => exact h.elim
      | _ => exact h.elim
theorem eqO_imp (uw : Uni W) (σ : L2.St) (H : Hp) (Q : L2.VK) (h : tG K W (rO K) (mEqO F c ma mb) σ H Q) : tOp (rEqO K c F (EA W)) (tG K W (rR K) ma) (tG K W (rR K) mb) σ H Q := by
  obtain ⟨g, s, st, q⟩ := h
  refine seq st (Go.refl g H) q fun r s1 v H1 g1 _ go st1 rr hk => ?_
  refine seq st1 go hk fun q s2 u H2 g2 go12 go2 st2 rq hk2 => ?_
  obtain ⟨l, h1, h2⟩ := hk2.lk
  have r1 : RefsOk K g2 σ [r] [v] := .cons (by cases r with
    | sl i => exact rr
    | va d => exact Rep.go rr go12) .nil
  have r2 : RefsOk K g2 σ [q] [u] := .cons (by cases q with
    | sl i => exact rq
    | va d => exact rq) .nil
  have h3 := h2.bl
  have vt1 := fun d e => view_t (d := d) st2 go12 rr e
  have vt2 := fun d e => view_t (d := d) st2 (Go.refl g2 H2) rq e
  have c12 : RefsOk K g2 σ [r, q] [v, u] := refs_app' r1 r2
  have c21 : RefsOk K g2 σ [q, r] [u, v] := refs_app' r2 r1
  unfold sideO at h1
  split at h1
  · rename_i e1 e2
    split at h1
    · rename_i hc
      cases h1
      obtain ⟨a, dx, xs, rfl, k1, _⟩ := (vt1 _ e1).ins_ st2.sub
      obtain ⟨b, dy, ys, rfl, k2, _⟩ := (vt2 _ e2).ins_ st2.sub
      rw [hc.1] at k1
      rw [hc.2] at k2
      exact .inl ⟨a, dx, xs, rfl, k1, .inl ⟨b, dy, ys, rfl, k2⟩, spOf.mono (fun cls d H h σ' => uw _ _ _ _ _ h) (callF_sp (W := W) rfl go2 st2 c12 (by simpa using h3))⟩
    · cases h1
  · rename_i d _ e1 e2
    split at h1
    · rename_i hc
      cases h1
      obtain ⟨a, dx, xs, rfl, k1, _⟩ := (vt1 _ e1).ins_ st2.sub
      rw [hc.1] at k1
      obtain ⟨T, hT⟩ := Option.isSome_iff_exists.mp hc.2
      exact .inl ⟨a, dx, xs, rfl, k1, .inr ⟨g2.F, g2.m, _, T, st2.sub, vt2 _ e2, hT⟩, spOf.mono (fun cls d H h σ' => uw _ _ _ _ _ h) (callF_sp (W := W) rfl go2 st2 c12 (by simpa using h3))⟩
    · cases h1
  · rename_i d _ e1 e2
    split at h1
    · rename_i hc
      cases h1
      obtain ⟨a, dx, xs, rfl, k1, _⟩ := (vt2 _ e2).ins_ st2.sub
      rw [hc.1] at k1
      obtain ⟨T, hT⟩ := Option.isSome_iff_exists.mp hc.2
      exact .inr ⟨a, dx, xs, rfl, k1, ⟨g2.F, g2.m, _, T, st2.sub, vt1 _ e1, hT⟩, spOf.mono (fun cls d H h σ' => uw _ _ _ _ _ h) (callF_sp (W := W) rfl go2 st2 c21 (by simpa using h3))⟩
    · cases h1
  · cases h1
theorem neO_imp (uw : Uni W) (σ : L2.St) (H : Hp) (Q : L2.VK) (h : tG K W (rO K) (mNeO F c ma mb) σ H Q) : tOp (rNeO K c F (EA W)) (tG K W (rR K) ma) (tG K W (rR K) mb) σ H Q := by
  obtain ⟨g, s, st, q⟩ := h
  refine seq st (Go.refl g H) q fun r s1 v H1 g1 _ go st1 rr hk => ?_
  refine seq st1 go hk fun q s2 u H2 g2 go12 go2 st2 rq hk2 => ?_
  obtain ⟨l, h1, h2⟩ := hk2.lk
  have r1 : RefsOk K g2 σ [r] [v] := .cons (by cases r with
    | sl i => exact rr
    | va d => exact Rep.go rr go12) .nil
  have r2 : RefsOk K g2 σ [q] [u] := .cons (by cases q with
    | sl i => exact rq
    | va d => exact rq) .nil
  have h3 := h2.bl
  have vt1 := fun d e => view_t (d := d) st2 go12 rr e
  have vt2 := fun d e => view_t (d := d) st2 (Go.refl g2 H2) rq e
  have c12 : RefsOk K g2 σ [r, q] [v, u] := refs_app' r1 r2
  split at h1
  · rename_i hs
    unfold sideO at hs
    split at hs
    · rename_i e1 e2
      split at hs
      · rename_i hc
        obtain ⟨a, dx, xs, rfl, k1, _⟩ := (vt1 _ e1).ins_ st2.sub
        obtain ⟨b, dy, ys, rfl, k2, _⟩ := (vt2 _ e2).ins_ st2.sub
        rw [hc.1] at k1
        rw [hc.2] at k2
        exact ⟨a, dx, xs, rfl, k1, .inl ⟨b, dy, ys, rfl, k2⟩, spOf.mono (fun cls d H h σ' => uw _ _ _ _ _ h) (callF_sp (W := W) rfl go2 st2 c12 (by simpa using h3))⟩
      · cases hs
    · rename_i d _ e1 e2
      split at hs
      · rename_i hc
        obtain ⟨a, dx, xs, rfl, k1, _⟩ := (vt1 _ e1).ins_ st2.sub
        rw [hc.1] at k1
        obtain ⟨T, hT⟩ := Option.isSome_iff_exists.mp hc.2
        exact ⟨a, dx, xs, rfl, k1, .inr ⟨g2.F, g2.m, _, T, st2.sub, vt2 _ e2, hT⟩, spOf.mono (fun cls d H h σ' => uw _ _ _ _ _ h) (callF_sp (W := W) rfl go2 st2 c12 (by simpa using h3))⟩
      · cases hs
    · split at hs
      · cases hs
      · cases hs
    · cases hs
  · cases h1
end
section
variable {X : Cx} {W : WX} {n : Nat} {c : Str} {f : Addr} {F : Fn} {a b : Expr} {pos : Pos} {ma mb : M Ref}
theorem vf_eqO (uw : Uni W) (G : Eqs X n c f F (EA W)) (ec : EqC X.K c) (hr : Room n X.A) (ha : VR X W a ma) (hb : VR X W b mb) (hm : behindInMarks .Eq b = false := by rfl) : VF X W (.Compare a [.Eq] [b] pos) (mEqO F c ma mb) :=
  pe_imp (pe_cmpR (opr_eqO G ec hr) ha hb hm) fun σ H Q h => eqO_imp uw σ H Q h
theorem vf_neO (uw : Uni W) (G : Eqs X n c f F (EA W)) (ec : EqC X.K c) (hr : Room (n + 1) X.A) (ha : VR X W a ma) (hb : VR X W b mb) (hm : behindInMarks .NotEq b = false := by rfl) : VF X W (.Compare a [.NotEq] [b] pos) (mNeO F c ma mb) :=
  pe_imp (pe_cmpR (opr_neO G ec hr) ha hb hm) fun σ H Q h => neO_imp uw σ H Q h
theorem vt_eqO (uw : Uni W) (G : Eqs X n c f F (EA W)) (ec : EqC X.K c) (hr : Room n X.A) (ha : VR X W a ma) (hb : VR X W b mb) (hm : behindInMarks .Eq b = false := by rfl) : VT X W (.Compare a [.Eq] [b] pos) (mT (mEqO F c ma mb)) :=
  pt_imp (pt_cmpR (opr_eqO G ec hr) ha hb hm) fun σ H Q h => tst_imp (eqO_imp uw) σ H Q h
theorem vt_neO (uw : Uni W) (G : Eqs X n c f F (EA W)) (ec : EqC X.K c) (hr : Room (n + 1) X.A) (ha : VR X W a ma) (hb : VR X W b mb) (hm : behindInMarks .NotEq b = false := by rfl) : VT X W (.Compare a [.NotEq] [b] pos) (mT (mNeO F c ma mb)) :=
  pt_imp (pt_cmpR (opr_neO G ec hr) ha hb hm) fun σ H Q h => tst_imp (neO_imp uw) σ H Q h
end
end Vs
namespace Vs
open PySem PySem.Spec PyProof.Rows L2
open MeetsSeq MeetsSeq2 MeetsSeq3 SeqRoads2
mutual
def apart : D → D → Bool
  | .int i, .int j => i != j
  | .str a, .str b => a != b
  | .bl a, .bl b => a != b
  | .tup xs, .tup ys => apartL xs ys
  | .ins _ fs, .ins _ gs => apartP fs gs
  | _, _ => false
def apartL : List D → List D → Bool
  | [], [] => false
  | x :: xs, y :: ys => apart x y || apartL xs ys
  | _, _ => true
def apartP : List (Str × D) → List (Str × D) → Bool
  | [], [] => false
  | (_, x) :: xs, (_, y) :: ys => apart x y || apartP xs ys
  | _, _ => true
end
section
variable {K : PySem.W.Frag} {G : Hp} {m : List Addr}
mutual
theorem Rep.same : ∀ {d e : D} {v : V}, Rep K G m d v → Rep K G m e v → apart d e = false
  | _, _, _, .int i, r => by cases r; simp [apart]
  | _, _, _, .str x, r => by cases r; simp [apart]
  | _, _, _, .bl b, r => by cases r; simp [apart]
  | _, _, _, .tup h l, r => by
    cases r with
    | tup h2 l2 =>
      rw [h] at h2
      cases h2
      simp only [apart]
      exact RepL.same l l2
    | _ => simp [apart]
  | _, _, _, .ins h l, r => by
    cases r with
    | ins h2 l2 =>
      have e := Option.some.inj (h.symm.trans h2)
      injection e with e1 e2 e3
      subst e3
      simp only [apart]
      exact RepP.same l l2
    | _ => simp [apart]
  | _, _, _, .non, r => by simp [apart]
  | _, _, _, .ct h l, r => by simp [apart]
  | _, _, _, .lst h l, r => by simp [apart]
  | _, _, _, .rl h l, r => by simp [apart]
  | _, _, _, .dk h l, r => by simp [apart]
  | _, _, _, .dt h l, r => by simp [apart]
  | _, _, _, .glo x, r => by simp [apart]
  | _, _, _, .ty x, r => by simp [apart]
  | _, _, _, .obj x, r => by simp [apart]
theorem RepL.same : ∀ {d e : List D} {v : List V}, RepL K G m d v → RepL K G m e v → apartL d e = false
  | _, _, _, .nil, .nil => by simp [apartL]
  | _, _, _, .cons h l, .cons h2 l2 => by
    simp only [apartL]
    rw [Rep.same h h2, RepL.same l l2]; rfl
theorem RepP.same : ∀ {d e : List (Str × D)} {v : List (Str × V)}, RepP K G m d v → RepP K G m e v → apartP d e = false
  | _, _, _, .nil, .nil => by simp [apartP]
  | _, _, _, .cons h l, .cons h2 l2 => by
    simp only [apartP]
    rw [Rep.same h h2, RepP.same l l2]; rfl
end
end

section
variable {prog : Program} {w : World} {A : Around} {R : Result → Shared → Prop}
theorem contains_one {l : Addr} {items : Array Value} {it x : Value} {n : Nat} {s : Shared} (i0 : items[Int.toNat 0]? = some it) (i1 : items[Int.toNat 1]? = none) (hl : s.heap.get? l = some { cls := .type "list", data := .seq items n })
    (turn : wpAny (model prog w) A.in1 (eqBool it x) (fun r s' => if r = true then R (.ok (.ret (.bool true))) s' else (∃ k, s'.heap.get? l = some { cls := .type "list", data := .seq items k }) ∧ R (.ok (.ret (.bool false))) s') (fun e s' => R (.error e) s') s) :
    wpAny (model prog w) A.in1 (Builtin.«list.__contains__» ⟨[.ref l, x], []⟩) (GQ.FinOf prog w A R) (fun e s' => R (.error e) s') s := by
  have second : ∀ s' : Shared, (∃ k, s'.heap.get? l = some { cls := .type "list", data := .seq items k }) → R (.ok (.ret (.bool false))) s' → wpAny (model prog w) A.in1 (Builtin.«list.__contains__.loop» ⟨[.ref l, x, rawInt 1], []⟩) (GQ.FinOf prog w A R) (fun e s' => R (.error e) s') s' := by
    rintro s' ⟨k, hk⟩ hR
    obtain ⟨hp, g, d, tk, os⟩ := s'
    wp_walk using AutoSeq1.wpAny_loadPart' hk
    rw [i1]
    wp_walk
    exact hR
  have first : wpAny (model prog w) A.in1 (Builtin.«list.__contains__.loop» ⟨[.ref l, x, rawInt 0], []⟩) (GQ.FinOf prog w A R) (fun e s' => R (.error e) s') s := by
    obtain ⟨hp, g, d, tk, os⟩ := s
    wp_walk using AutoSeq1.wpAny_loadPart' hl
    rw [i0]
    refine wpAny_bind (wpAny_mono turn (fun r s2 h2 => ?_) fun _ _ x => x)
    cases r with
    | true =>
      rw [if_pos rfl] at h2
      obtain ⟨hp2, g2, d2, tk2, os2⟩ := s2
      wp_walk
      exact h2
    | false =>
      rw [if_neg Bool.false_ne_true] at h2
      have hrec := second s2 h2.1 h2.2
      obtain ⟨hp2, g2, d2, tk2, os2⟩ := s2
      wp_walk
      exact ⟨plainId_quiet plain_contains_loop _, codeAny_builtin entry_contains_loop (by
        rw [Around.under_plainId plain_contains_loop _]
        exact hrec)⟩
  obtain ⟨hp, g, d, tk, os⟩ := s
  wp_walk using AutoSeq1.wpAny_loadPart' hl
  exact ⟨plainId_quiet plain_contains_loop _, codeAny_builtin entry_contains_loop (by
    rw [Around.under_plainId plain_contains_loop _]
    exact first)⟩
end
section
variable {X : Cx} {n : Nat} {c : Str} {f : Addr} {F : Fn} {E : XK} {A : Around} {pins : List (Addr × Obj)} {s : Shared} {σ : L2.St} {H : Hp}
/-- == inside a list or a tuple: the same object, or by the own __eq__ -/
theorem eqb_own (G : Eqs X n c f F E) (ec : EqC X.K c) (sbx : L2.Sub X n A) (I : Inv X pins σ H s) {a b dx dy : Addr} {fs gs : List (Str × V)} (ha : H a = some (.ins (He.ga X.K c) dx fs)) (hb : H b = some (.ins (He.ga X.K c) dy gs)) {Q : Bool → Hp → Prop}
    (h1 : a = b → Q true H) (h2 : a ≠ b → spOf X.K 2 F [.ref a, .ref b] H (fun z H' => ∃ r, z = .bl r ∧ Q r H') E) :
    wpAny (model X.prog X.w) A (eqBool (.ref a) (.ref b)) (fun r s' => ∃ H', Inv X pins σ H' s' ∧ Q r H') X.xe s := by
  by_cases hab : a = b
  · subst hab
    exact SeqAt.EqAt.same (A := A) (s := s) (.ref a) X.prog X.w X.xe _ ⟨H, I, h1 rfl⟩
  · refine GQ.eqBool_refG hab (wpAny_mono (rc_own (Q := fun z H' => ∃ r, z = .bl r ∧ Q r H') G ec sbx I (x := .ref a) (y := .ref b) rfl rfl (.inl ⟨a, dx, fs, rfl, ha, .inl ⟨b, dy, gs, rfl, hb⟩, ?_⟩)) (fun r s' q => ?_) fun _ _ x => x)
    · obtain ⟨q1, g, args, ce, tb', st, q⟩ := h2 hab
      refine ⟨q1, g, args, ce, tb', st, ?_⟩
      cases z : F args ce tb' with
      | none => rw [z] at q; exact q
      | some r =>
        rw [z] at q
        cases r with
        | ok o c1 t1 => exact ⟨q.1, fun v H' g' a b d => by
            obtain ⟨bb, e1, e2⟩ := q.2 v H' g' a b d
            exact ⟨bb, e1, bb, rfl, e2⟩⟩
        | ex x c1 t1 => exact q
    · obtain ⟨b', H', rfl, I', r, e, q⟩ := q
      cases e
      exact ⟨_, rfl, H', I', q⟩
def rInO (K : PySem.W.Frag) (c : Str) (F : Fn) (E : XK) : R2 := fun x y H Q => ∃ a b p dx dy fs gs, x = .ref a ∧ y = .ref p ∧ H p = some (.lst [.ref b]) ∧ H a = some (.ins (He.ga K c) dx fs) ∧ H b = some (.ins (He.ga K c) dy gs) ∧
  (b = a → Q (.bl true) H) ∧ (b ≠ a → spOf K 2 F [.ref b, .ref a] H (fun z H' => ∃ r, z = .bl r ∧ Q (.bl r) H' ∧ H' p = some (.lst [.ref b])) E)
theorem opr_inO (G : Eqs X n c f F E) (ec : EqC X.K c) (hr : Room (n + 2) X.A) : OpR X (compareOp .In) (rInO X.K c F E) := by
  intro pins s σ H x y v u Q I rx ry h
  obtain ⟨a, b, p, dx, dy, fs, gs, rfl, rfl, hp, ha, hb, h1, h2⟩ := h
  cases rx
  cases ry
  have lst_at : ∀ (H' : Hp) (s' : Shared), Inv X pins σ H' s' → H' p = some (.lst [.ref b]) → ∃ k, s'.heap.get? p = some { cls := .type "list", data := .seq #[Value.ref b] k } := fun H' s' I' e => by
    obtain ⟨_, its, k, r, e2⟩ := (show ObjOk X.prog X.w H' s'.heap p (.lst [.ref b]) from I'.hok p _ e)
    cases r with
    | cons r1 r2 =>
      cases r2
      cases r1
      exact ⟨k, e2⟩
  obtain ⟨k, hl⟩ := lst_at H s I hp
  show wpAny _ X.A (do return .bool (← contains (.ref p) (.ref a))) (EP X pins σ Q) X.xe s
  have sbx : L2.Sub X (n + 2) X.A := ⟨hr, rfl⟩
  refine wpAny_bind (wpAny_contains_slot (show s.TypeIs (.ref p) "list" from ⟨_, hl, rfl⟩) PySem.F.slot_list_contains (GQ.call_here PySem.F.slot_list_contains ⟨_, hl, rfl⟩ PySem.F.entry_list_contains (PySem.F.args_list_contains_2 _ _) (contains_one (it := Value.ref b) rfl rfl hl ?_)))
  refine wpAny_mono (eqb_own (Q := fun r H' => Q (.bl r) H' ∧ H' p = some (.lst [.ref b])) G ec (sbx.in1.mono (Nat.le_succ n)) I hb ha (fun e => ⟨h1 e, hp⟩) h2) (fun r s' q => ?_) fun _ _ z => z
  obtain ⟨H', I', q1, q2⟩ := q
  cases r with
  | true =>
    rw [if_pos rfl]
    exact wpAny_truthy_bool (wpAny_pure ⟨.bl true, H', I', rfl, q1⟩)
  | false =>
    rw [if_neg Bool.false_ne_true]
    exact ⟨lst_at H' s' I' q2, wpAny_truthy_bool (wpAny_pure ⟨.bl false, H', I', rfl, q1⟩)⟩
/-- (i, a) == (i, b), equal -/
def rPairO (K : PySem.W.Frag) (c : Str) (F : Fn) (E : XK) : R2 := fun x y H Q => ∃ a b p q i dx dy fs gs, x = .ref p ∧ y = .ref q ∧ SqT K H p [.int i, .ref a] ∧ SqT K H q [.int i, .ref b] ∧ H a = some (.ins (He.ga K c) dx fs) ∧ H b = some (.ins (He.ga K c) dy gs) ∧
  (a = b → Q (.bl true) H) ∧ (a ≠ b → spOf K 2 F [.ref a, .ref b] H (fun z H' => ∃ r, z = .bl r ∧ r = true ∧ Q (.bl true) H') E)
theorem opr_pairO (G : Eqs X n c f F E) (ec : EqC X.K c) (hr : Room (n + 2) X.A) : OpR X (compareOp .Eq) (rPairO X.K c F E) := by
  intro pins s σ H x y v u Q I rx ry h
  obtain ⟨a, b, p, q, i, dx, dy, fs, gs, rfl, rfl, hp, hq, ha, hb, h1, h2⟩ := h
  cases rx
  cases ry
  obtain ⟨its, r1, e1, z1⟩ := I.tuple hp
  obtain ⟨its2, r2, e2, z2⟩ := I.tuple hq
  have sbx : L2.Sub X (n + 2) X.A := ⟨hr, rfl⟩
  cases r1 with
  | cons a1 r1 => cases r1 with
    | cons a2 r1 =>
      cases r1
      cases r2 with
      | cons b1 r2 => cases r2 with
        | cons b2 r2 =>
          cases r2
          cases a2
          cases b2
          show wpAny (model X.prog X.w) X.A (richCompare .Eq (.ref p) (.ref q)) (EP X pins σ Q) X.xe s
          refine GQ.rc_tupG (by rfl) sbx.room.units0 (fun k s' => (k < 2 → Inv X pins σ H s') ∧ (k = 2 → ∃ H', Inv X pins σ H' s' ∧ Q (.bl true) H')) e1 e2 (fun k h1' h2' s' l => ?_) (fun s' l => ?_) ⟨fun _ => I, fun e => by cases e⟩
          · have hk : k = 0 ∨ k = 1 := by
              have : k < 2 := by simpa using h1'
              omega
            rcases hk with rfl | rfl
            · have I' := l.1 (by decide)
              have q0 := eqAt_V (A := X.A.in1) (s := s') a1 b1 rfl rfl
              have e : eqV (V.int i) (V.int i) = true := by simp [eqV]
              rw [e] at q0
              exact q0 X.prog X.w X.xe _ ⟨rfl, fun _ => I', fun e => by cases e⟩
            · have I' := l.1 (by decide)
              refine wpAny_mono (eqb_own (Q := fun r H' => r = true ∧ Q (.bl true) H') G ec (sbx.in1.mono (Nat.le_succ n)) I' ha hb (fun e => ⟨rfl, h1 e⟩) h2) (fun r s2 z => ?_) fun _ _ z => z
              obtain ⟨H', I2, er, q2⟩ := z
              exact ⟨er, fun e => absurd e (by decide), fun _ => ⟨H', I2, q2⟩⟩
          · obtain ⟨H', I2, q2⟩ := l.2 rfl
            exact ⟨.bl true, H', I2, rfl, q2⟩
end
open Classical in
noncomputable def mInO (F : Fn) (c : Str) (ma mb : M Ref) : M O := bnd ma fun r => bnd mb fun q => fun s => match view s r, q with
  | some (.ins c1 fs), .va (.lst [.ins c2 gs]) => if c1 = c ∧ c2 = c then (match callF F [.va (.ins c2 gs), r] s with
    | some (.ok (.sh (.bl b)) s') => if s' = s ∧ (b = true ∨ apartP gs fs = true) then some (.ok (.sh (.bl b)) s) else none
    | _ => none) else none
  | _, _ => none
open Classical in
noncomputable def mPairO (F : Fn) (c : Str) (ma mb : M Ref) : M O := bnd ma fun r => bnd mb fun q => fun s => match view s r, view s q with
  | some (.tup [.int i, .ins c1 fs]), some (.tup [.int j, .ins c2 gs]) => if (c1 = c ∧ c2 = c) ∧ i = j then (match callF F [.va (.ins c1 fs), .va (.ins c2 gs)] s with
    | some (.ok (.sh (.bl true)) s') => if s' = s then some (.ok (.sh (.bl true)) s) else none
    | _ => none) else none
  | _, _ => none
section
variable {K : PySem.W.Frag} {W : WX} {F : Fn} {c : Str} {ma mb : M Ref}
theorem inO_imp (uw : Uni W) (σ : L2.St) (H : Hp) (Q : L2.VK) (h : tG K W (rO K) (mInO F c ma mb) σ H Q) : tOp (rInO K c F (EA W)) (tG K W (rR K) ma) (tG K W (rR K) mb) σ H Q := by
  obtain ⟨g, s, st, q⟩ := h
  refine seq st (Go.refl g H) q fun r s1 v H1 g1 _ go st1 rr hk => ?_
  refine seq st1 go hk fun q s2 u H2 g2 go12 go2 st2 rq hk2 => ?_
  have hz := hk2.run
  clear hk2
  split at hz
  · rename_i c1 fs c2 gs e1
    split at hz
    · rename_i hc
      obtain ⟨rfl, rfl⟩ := hc
      obtain ⟨a, dx, xs, rfl, k1, k2⟩ := (view_t st2 go12 rr e1).ins_ st2.sub
      have rq : Rep K g2.F g2.m (.lst [.ins c2 gs]) u := rq
      cases rq with
      | @lst p ys _ k3F k4 =>
       have k3 := st2.sub.lst _ _ k3F
       cases k4 with
       | cons ky kn =>
        cases kn
        have ky' := ky
        cases ky with
        | @ins b dy _ zs _ kb kz =>
          cases zc : callF F [.va (.ins c2 gs), r] s2 with
          | none => rw [zc] at hz; exact hz.elim
          | some rz =>
            rw [zc] at hz
            cases rz with
            | ex x s' => exact hz.elim
            | ok o s' =>
              cases o with
              | sh d =>
                cases d with
                | bl bb =>
                  dsimp only at hz
                  split at hz
                  · rename_i hs
                    obtain ⟨rfl, hb⟩ := hs
                    refine ⟨a, b, p, dx, dy, xs, zs, rfl, rfl, k3, k1, st2.sub.ins _ _ _ _ kb, fun eab => ?_, fun nab => ?_⟩
                    · subst eab
                      have hb' : bb = true := by
                        rcases hb with hb | hb
                        · exact hb
                        · exfalso
                          have z2 := st2.sub.ins _ _ _ _ kb
                          rw [k1] at z2
                          have e := Option.some.inj z2
                          injection e with e1 e2 e3
                          subst e3
                          rw [RepP.same kz k2] at hb
                          cases hb
                      subst hb'
                      exact hz _ H2 g2 go2 st2 ⟨none, .sh (.bl true), fun a e => nomatch e⟩
                    · have ro : RefsOk K g2 σ [.va (.ins c2 gs), r] [.ref b, .ref a] := .cons ky' (.cons (by cases r with
                        | sl i => exact rr
                        | va d => exact Rep.go rr go12) .nil)
                      refine spOf.mono (fun cls d H h σ' => uw _ _ _ _ _ h) (callF_sp (W := W) (g0 := g2) (H0 := H2) rfl (Go.refl _ _) st2 ro ⟨?_⟩)
                      rw [zc]
                      intro w H' g' go' st' rw_
                      obtain ⟨r1, r2, _⟩ := rw_
                      cases r2 with
                      | sh r2 =>
                        cases r2
                        refine ⟨bb, rfl, hz _ H' g' (go2.trans go') st' ⟨none, .sh (.bl _), fun a e => nomatch e⟩, ?_⟩
                        exact st'.sub.lst _ _ (go'.F.lst _ _ k3F)
                  · exact hz.elim
                | _ => exact hz.elim
              | _ => exact hz.elim
    · exact hz.elim
  · exact hz.elim
theorem pairO_imp (uw : Uni W) (σ : L2.St) (H : Hp) (Q : L2.VK) (h : tG K W (rO K) (mPairO F c ma mb) σ H Q) : tOp (rPairO K c F (EA W)) (tG K W (rR K) ma) (tG K W (rR K) mb) σ H Q := by
  obtain ⟨g, s, st, q⟩ := h
  refine seq st (Go.refl g H) q fun r s1 v H1 g1 _ go st1 rr hk => ?_
  refine seq st1 go hk fun q s2 u H2 g2 go12 go2 st2 rq hk2 => ?_
  have hz := hk2.run
  clear hk2
  split at hz
  · rename_i i c1 fs j c2 gs e1 e2
    split at hz
    · rename_i hc
      obtain ⟨⟨rfl, rfl⟩, rfl⟩ := hc
      obtain ⟨p, xs, rfl, k1, k2⟩ := (view_t st2 go12 rr e1).tup_ st2.sub
      obtain ⟨p2, ys, rfl, k3, k4⟩ := (view_t st2 (Go.refl g2 H2) rq e2).tup_ st2.sub
      cases k2 with
      | cons x1 x2 => cases x2 with
        | cons x2 x3 =>
          cases x3
          cases x1
          cases k4 with
          | cons y1 y2 => cases y2 with
            | cons y2 y3 =>
              cases y3
              cases y1
              have x2' := x2
              have y2' := y2
              cases x2 with
              | ins xa xp => cases y2 with
                | ins ya yp =>
                  cases zc : callF F [.va (.ins c2 fs), .va (.ins c2 gs)] s2 with
                  | none => rw [zc] at hz; exact hz.elim
                  | some rz =>
                    rw [zc] at hz
                    cases rz with
                    | ex x s' => exact hz.elim
                    | ok o s' =>
                      cases o with
                      | sh d =>
                        cases d with
                        | bl bb =>
                          cases bb with
                          | false => exact hz.elim
                          | true =>
                            dsimp only at hz
                            split at hz
                            · rename_i hs
                              subst hs
                              refine ⟨_, _, p, p2, i, _, _, _, _, rfl, rfl, .inl (.inl k1), .inl (.inl k3), st2.sub.ins _ _ _ _ xa, st2.sub.ins _ _ _ _ ya, fun _ => ?_, fun _ => ?_⟩
                              · exact hz _ H2 g2 go2 st2 ⟨none, .sh (.bl true), fun a e => nomatch e⟩
                              · have ro : RefsOk K g2 σ [.va (.ins c2 fs), .va (.ins c2 gs)] [_, _] := .cons x2' (.cons y2' .nil)
                                refine spOf.mono (fun cls d H h σ' => uw _ _ _ _ _ h) (callF_sp (W := W) (g0 := g2) (H0 := H2) rfl (Go.refl _ _) st2 ro ⟨?_⟩)
                                rw [zc]
                                intro w H' g' go' st' rw_
                                obtain ⟨r1, r2, _⟩ := rw_
                                cases r2 with
                                | sh r2 =>
                                  cases r2
                                  exact ⟨true, rfl, rfl, hz _ H' g' (go2.trans go') st' ⟨none, .sh (.bl _), fun a e => nomatch e⟩⟩
                            · exact hz.elim
                        | _ => exact hz.elim
                      | _ => exact hz.elim
    · exact hz.elim
  · exact hz.elim
end
section
variable {X : Cx} {W : WX} {n : Nat} {c : Str} {f : Addr} {F : Fn} {a b : Expr} {pos : Pos} {ma mb : M Ref}
theorem vf_inO (uw : Uni W) (G : Eqs X n c f F (EA W)) (ec : EqC X.K c) (hr : Room (n + 2) X.A) (ha : VR X W a ma) (hb : VR X W b mb) (hm : behindInMarks .In b = false := by rfl) : VF X W (.Compare a [.In] [b] pos) (mInO F c ma mb) :=
  pe_imp (pe_cmpR (opr_inO G ec hr) ha hb hm) fun σ H Q h => inO_imp uw σ H Q h
theorem vf_pairO (uw : Uni W) (G : Eqs X n c f F (EA W)) (ec : EqC X.K c) (hr : Room (n + 2) X.A) (ha : VR X W a ma) (hb : VR X W b mb) (hm : behindInMarks .Eq b = false := by rfl) : VF X W (.Compare a [.Eq] [b] pos) (mPairO F c ma mb) :=
  pe_imp (pe_cmpR (opr_pairO G ec hr) ha hb hm) fun σ H Q h => pairO_imp uw σ H Q h
end
end Vs
namespace Vs
open PySem PySem.Spec PyProof.Rows L2
def six : List String := ["NoneType", "bool", "int", "str", "list", "tuple"]
structure IsiC (K : PySem.W.Frag) (c : Str) : Prop where
  cl : Cls K (He.ga K c)
  ha : PySem.W.findIn K (.ref (He.ga K c)) "__class__" = some (some (.builtin "object.__class__"))
  hn : PySem.W.specialIn K (.builtin "object.__class__") "__get__" = some (some (.builtin "getset_descriptor.__get__"))
  htk : PySem.W.takesIn K (.builtin "object.__class__") = some true
  hm : PySem.W.mroIn K (He.ga K c) (.type "object") = some true
  k1 : PySem.W.kitOne K (.ref (He.ga K c)) (.ref (He.ga K c)) = some true
  k0 : ∀ T ∈ six, PySem.W.kitOne K (.type T) (.ref (He.ga K c)) = some false
  kt : ∀ T ∈ six, PySem.W.kitOne K (.ref (He.ga K c)) (.type T) = some false
def isicB (c : Str) (K : PySem.W.Frag) : Bool := decide (PySem.W.findIn K (.ref (He.ga K c)) "__class__" = some (some (.builtin "object.__class__"))) && (decide (PySem.W.specialIn K (.builtin "object.__class__") "__get__" = some (some (.builtin "getset_descriptor.__get__"))) &&
  (decide (PySem.W.takesIn K (.builtin "object.__class__") = some true) && (decide (PySem.W.mroIn K (He.ga K c) (.type "object") = some true) && (decide (PySem.W.kitOne K (.ref (He.ga K c)) (.ref (He.ga K c)) = some true) &&
  ((six.all fun T => decide (PySem.W.kitOne K (.type T) (.ref (He.ga K c)) = some false)) && six.all fun T => decide (PySem.W.kitOne K (.ref (He.ga K c)) (.type T) = some false))))))
theorem isic_ok {K : PySem.W.Frag} {c : Str} (cl : Cls K (He.ga K c)) (h : isicB c K = true) : IsiC K c := by
  unfold isicB at h
  simp only [Bool.and_eq_true, decide_eq_true_eq, List.all_eq_true] at h
  obtain ⟨h1, h2, h3, h4, h5, h6, h7⟩ := h
  exact ⟨cl, h1, h2, h3, h4, h5, h6, h7⟩
theorem tyD_six {d : D} {T : String} (e : tyD d = some T) : T ∈ six := by
  cases d <;> first | (cases e; decide) | cases e
section
variable {K : PySem.W.Frag} {F H : Hp} {m : List Addr}
theorem rdL_ty {a : Addr} {xs : List V} (h : SqL K H a xs) : TyX K H (.ref a) (.type "list") := by
  rcases h with (h | ⟨o, h⟩) | ⟨o, _, _, h, h2, _⟩
  · exact .base (.lst h)
  · exact .base (.frz h)
  · exact .kList h h2
theorem rdT_ty {a : Addr} {xs : List V} (h : SqT K H a xs) : TyX K H (.ref a) (.type "tuple") := by
  rcases h with (h | ⟨o, h⟩) | ⟨o, _, _, h, h2, _⟩
  · exact .base (.tup h)
  · exact .fTuple h
  · exact .kTuple h h2
theorem tyD_tyx {d : D} {x : V} {T : String} (sb : Sub F H) (rt : RepT K F H m d x) (e : tyD d = some T) : TyX K H x (.type T) := by
  cases d with
  | non => cases e; rw [rt.non_]; exact .base .non
  | bl b => cases e; rw [rt.bl_]; exact .base (.bl b)
  | int i => cases e; rw [rt.int_]; exact .base (.int i)
  | str i => cases e; rw [rt.str_]; exact .base (.str i)
  | lst ds => cases e; obtain ⟨a, xs, rfl, h1, _⟩ := rt.lst_ sb; exact rdL_ty (.inl (.inl h1))
  | tup ds => cases e; obtain ⟨a, xs, rfl, h1, _⟩ := rt.tup_ sb; exact rdT_ty (.inl (.inl h1))
  | rl ds => cases e; obtain ⟨a, xs, rfl, h1, _⟩ := rt.rl_ sb; exact rdL_ty h1
  | ct ds => cases e; obtain ⟨a, xs, rfl, h1, _⟩ := rt.ct_ sb; exact rdT_ty h1
  | _ => cases e
theorem RepT.ty_ {n : String} {v : V} (h : RepT K F H m (.ty n) v) : v = .ty n := by
  generalize e : D.ty n = d at h
  cases h with
  | sh q => subst e; cases q; rfl
  | ce q e2 => subst e; cases q with
    | sh q => cases e2; cases q; rfl
    | _ => cases e2
theorem RepT.glo_ {n : Str} {v : V} (h : RepT K F H m (.glo n) v) : v = .ref (He.ga K n) := by
  generalize e : D.glo n = d at h
  cases h with
  | sh q => subst e; cases q; rfl
  | ce q e2 => subst e; cases q with
    | sh q => cases e2; cases q; rfl
    | _ => cases e2
def fIsi (cs : List Str) : List D → Option O
  | [d, .ty T] => match tyD d with
    | some T' => (kitB T' T).map fun b => .sh (.bl b)
    | none => match d with
      | .ins c _ => if c ∈ cs ∧ T ∈ six then some (.sh (.bl false)) else none
      | _ => none
  | [d, .glo c] => if c ∈ cs then (match tyD d with
    | some _ => some (.sh (.bl false))
    | none => match d with
      | .ins c' _ => if c' = c then some (.sh (.bl true)) else none
      | _ => none) else none
  | _ => none
theorem isi_of {cs : List Str} (hC : ∀ c ∈ cs, IsiC K c) : OpN K (rIsi K) (fIsi cs) := fun F H m ds o vs sb e rs Q k => by
  unfold fIsi at e
  split at e
  · obtain ⟨v, u, rfl, r1, r2⟩ := rs.two
    split at e
    · rename_i hT
      obtain ⟨b, e1, e2⟩ := Option.map_eq_some_iff.mp e
      subst e2
      exact ⟨v, u, _, _, b, rfl, by rw [r2.ty_]; exact .ty _, tyD_tyx sb r1 hT, kit_ty e1, k _ _ (.sh (.bl b))⟩
    · split at e
      · split at e
        · rename_i hc
          cases e
          obtain ⟨a, dx, xs, rfl, k1, _⟩ := r1.ins_ sb
          have ic := hC _ hc.1
          exact ⟨_, u, _, _, false, rfl, by rw [r2.ty_]; exact .ty _, .base (.ins k1 ic.cl ic.ha ic.hn ic.htk ic.hm), ic.kt _ hc.2, k _ _ (.sh (.bl false))⟩
        · cases e
      · cases e
  · obtain ⟨v, u, rfl, r1, r2⟩ := rs.two
    split at e
    · rename_i hc
      have ic := hC _ hc
      split at e
      · rename_i hT
        cases e
        exact ⟨v, u, _, _, false, rfl, by rw [r2.glo_]; exact .own _, tyD_tyx sb r1 hT, ic.k0 _ (tyD_six hT), k _ _ (.sh (.bl false))⟩
      · split at e
        · split at e
          · rename_i hcc
            cases e
            subst hcc
            obtain ⟨a, dx, xs, rfl, k1, _⟩ := r1.ins_ sb
            exact ⟨_, u, _, _, true, rfl, by rw [r2.glo_]; exact .own _, .base (.ins k1 ic.cl ic.ha ic.hn ic.htk ic.hm), ic.k1, k _ _ (.sh (.bl true))⟩
          · cases e
        · cases e
    · cases e
  · cases e
/-- xs * k -/
def fRep : D → D → Option O
  | .lst ds, .int k => if small62 k = true ∧ ds.length * k.toNat ≤ 1000000 then some (.ol (List.replicate k.toNat ds).flatten) else none
  | _, _ => none
theorem RepL.flat {ds : List D} {vs : List V} (h : RepL K F m ds vs) : ∀ n : Nat, RepL K F m (List.replicate n ds).flatten (List.replicate n vs).flatten
  | 0 => .nil
  | n + 1 => by
    rw [List.replicate_succ, List.replicate_succ, List.flatten_cons, List.flatten_cons]
    exact RepL.append h (RepL.flat h n)
theorem rep_of : Op2 K rRep fRep := fun F H m x y o v u sb e rx ry Q k => by
  unfold fRep at e
  split at e
  · split at e
    · rename_i hz
      cases e
      obtain ⟨p, xs, rfl, h1, h2⟩ := rx.lst_ sb
      have z := small62_ok hz.1
      exact ⟨p, _, xs, rfl, ry.int_, h1, by omega, by omega, by rw [← h2.length]; exact million hz.2, fun q hq => k _ _ (.ol hq (h2.flat _))⟩
    · cases e
  · cases e
def fMulR : D → D → Option O := orF fMul fRep
end
section
variable {X : Cx} {W : WX} {a b e : Expr} {pos p : Pos} {es : List Expr} {ma mb : M Ref} {mr : M (List Ref)} {k : Nat} {x : Str}
theorem vd_ty {n : String} (hm : X.mg x = none) (hv : bootBuiltins x = some (.type n)) (hg : Gl X x := by rfl) (h1 : x ≠ "__name__" := by decide) (hdb : (x == ("__debug__" : Str)) = false := by decide) : VD X W (.Name x pos) (ret (.ty n)) :=
  vd_c (v := .ty n) (pe_bltn hg hm hv rfl h1 hdb) fun _ _ => .ty n
theorem vd_glo (hm : X.mg x = some (.ref (He.ga X.K x))) (hg : Gl X x := by rfl) (hdb : (x == ("__debug__" : Str)) = false := by decide) : VD X W (.Name x pos) (ret (.glo x)) :=
  vd_c (v := .ref (He.ga X.K x)) (pe_glob hg hm rfl hdb) fun _ _ => .glo x
theorem bt_isi : bootBuiltins "isinstance" = some (.builtin "isinstance") := by decide +kernel
theorem vf_isi {cs : List Str} (hC : ∀ c ∈ cs, IsiC X.K c) (hm : X.mg "isinstance" = none) (ha : VAr X W (a :: es) mr) (hg : Gl X "isinstance" := by rfl) (he : starEach (a :: es) X.env = (false, eval a X.env) :: starEach es X.env := by rfl) (hpl : (backTo pos (starEach es X.env)).any (·.1) = false := by rfl) :
    VF X W (.Call (.Name "isinstance" p) (a :: es) [] pos) (opN (fIsi cs) mr) := vf_callB call_isi (isi_of hC) hg hm bt_isi ha (by decide) (by decide) he hpl
theorem vf_rep (ha : VR X W a ma) (hb : VR X W b mb) : VF X W (.BinOp a .Mult b pos) (op2 fRep ma mb) := vf_op op_rep rep_of ha hb
end
def mReprO (F : Fn) (c : Str) (ma : M Ref) : M O := bnd ma fun r => bnd (look fun s => match view s r with
  | some (.ins c' _) => if c' = c then some () else none
  | _ => none) fun _ => bnd (callF F [r]) fun o => look fun _ => match o with
  | .sh (.str y) => some (.sh (.str y))
  | _ => none
section
variable {X : Cx} {W : WX} {n : Nat} {c : Str} {f : Addr} {F : Fn} {a : Expr} {pos p : Pos} {ma : M Ref} {fd : FuncData} {ps : List Str} {E : XK}
def rReprO (K : PySem.W.Frag) (c : Str) (F : Fn) (E : XK) : List V → Hp → L2.VK → Prop := fun xs H Q => ∃ a dx fs, xs = [.ref a] ∧ H a = some (.ins (He.ga K c) dx fs) ∧ spOf K 1 F [.ref a] H (fun z H' => ∃ y, z = .str y ∧ Q (.str y) H') E
theorem call_repO (G : FnOk X.prog X.w X.K X.mg X.base (L2.CX X.prog X.w) n f fd ps (spOf X.K 1 F)) (hm : Meth X.K (He.ga X.K c) "__repr__" f) (hb : Binds X.K fd ps []) (hx : Passes (L2.CX X.prog X.w) X E) (hr : Room (n + 1) X.A) : CallR X (.builtin "repr") (rReprO X.K c F E) := by
  intro pins s σ H xs us Q I r h
  obtain ⟨a, dx, fs, rfl, ha, h⟩ := h
  obtain ⟨u, rfl, r1⟩ := vals1 r
  cases r1
  obtain ⟨mA, J, _⟩ := ins_get I.hok ha
  obtain ⟨od, J, _⟩ := J.look
  obtain ⟨m, hF⟩ := I.fr
  have sbx : L2.Sub X n X.A.in1 := (L2.Sub.in1 (n := n) ⟨hr, rfl⟩)
  have e0 : Env0 X.prog X.w X.K X.mg X.base X.A.in1 X.stack s H := by
    have e := I.env0
    exact ⟨by rw [sbx.fr]; exact e.frames, e.mod, e.bs, e.bsz, e.funs, e.frf, e.hok, e.bare⟩
  refine PySem.W.repr_K sbx.room.units0 hF I.ok.mod.kin J hm.at_ hm.fn ?_
  have hl := G.len _ _ _ _ h
  refine wpAny_call (codeAny_mono (G.run X.A.in1 X.stack s H ⟨[.ref a], []⟩ [.ref a] [.ref a] _ E sbx.room e0 (by
    have := hb s [.ref a] I.kIn (by simpa using hl)
    simpa using this) (.cons rfl .nil) h) fun r s' hq => ?_)
  cases r with
  | error e => exact hx pins σ H s e s' I hq
  | ok fl =>
    cases fl with
    | ret w =>
      obtain ⟨z, H', I', rz, y, ey, q⟩ := I.after hq
      subst ey
      obtain ⟨t, rfl⟩ := rz
      exact ⟨.str y, H', I', ⟨t, rfl⟩, q⟩
    | next => exact False.elim hq
    | brk => exact False.elim hq
    | cont => exact False.elim hq
theorem bt_repr : bootBuiltins "repr" = some (.builtin "repr") := by decide +kernel
theorem vf_reprO (uw : Uni W) (tk : Takes X W) (G : FnOk X.prog X.w X.K X.mg X.base (L2.CX X.prog X.w) n f fd ps (spOf X.K 1 F)) (hmt : Meth X.K (He.ga X.K c) "__repr__" f) (hb : Binds X.K fd ps []) (hr : Room (n + 1) X.A) (hm : X.mg "repr" = none) (ha : VR X W a ma) (hg : Gl X "repr" := by rfl)
    (he : starEach [a] X.env = (false, eval a X.env) :: starEach [] X.env := by rfl) (hpl : (backTo pos (starEach [] X.env)).any (·.1) = false := by rfl) : VF X W (.Call (.Name "repr" p) [a] [] pos) (mReprO F c ma) :=
  pe_imp (pe_callB (call_repO (c := c) (E := EA W) G hmt hb (passEA tk) hr) hg hm bt_repr (pa_cons ha pa_nil he) (by decide) (by decide) he hpl) fun σ H Q ⟨g, s, st, q⟩ => by
    show tCons (tG X.K W (rR X.K) ma) tNil σ H fun vs H1 => rReprO X.K c F (EA W) vs H1 Q
    refine seq st (Go.refl g H) q fun r s1 v H1 g1 _ go st1 rr hk => ?_
    show rReprO X.K c F (EA W) [v] H1 Q
    obtain ⟨_, h1, h2⟩ := hk.lk
    split at h1
    · rename_i hv
      split at h1
      · rename_i hc
        obtain ⟨a, dx, xs, rfl, k1, _⟩ := (view_t st1 (Go.refl g1 H1) rr hv).ins_ st1.sub
        rw [hc] at k1
        have ro1 : RefsOk X.K g1 σ [r] [V.ref a] := .cons (by cases r with
          | sl i => exact rr
          | va d => exact rr) .nil
        refine ⟨a, dx, xs, rfl, k1, spOf.mono (fun cls d H h σ' => uw _ _ _ _ _ h) (callF_sp (W := W) (g0 := g) (H0 := H) rfl go st1 ro1 ⟨?_⟩)⟩
        have h2 := h2.run
        cases z : callF F [r] s1 with
        | none => rw [bnd_no z] at h2; exact h2
        | some rz =>
          cases rz with
          | ex x s' => rw [bnd_ex z] at h2; exact h2
          | ok o s' =>
            rw [bnd_ok z] at h2
            intro w H' g' go' st' ro
            cases o with
            | sh d =>
              cases d with
              | str y =>
                obtain ⟨r1, r2, _⟩ := ro
                cases r2 with
                | sh r2 =>
                  cases r2
                  exact ⟨y, rfl, h2 _ H' g' go' st' ⟨none, .sh (.str _), fun a e => nomatch e⟩⟩
              | _ => exact h2.elim
            | _ => exact h2.elim
      · cases h1
    · cases h1
end
end Vs
namespace Vs
open PySem PySem.Spec PyProof.Rows L2
def rKV (K : PySem.W.Frag) : RRel (List (Key × D)) (List (V × V)) := fun _ _ g' _ _ kvs ps => ∃ xs : List (Key × V), ps = xs.map (fun kv => (kV kv.1, kv.2)) ∧ RepP K g'.F g'.m kvs xs
def mPairs : List (M D × M D) → M (List (Key × D))
  | [] => ret []
  | (mk, mv) :: r => bnd mk fun d => bnd mv fun e => bnd (mPairs r) fun ps => look fun _ => (keyD d).map fun k => (k, e) :: ps
def mergeD (kvs more : List (Key × D)) : List (Key × D) := more.foldl (fun acc kv => putD acc kv.1 kv.2) kvs
def mDisp (ms : List (M D × M D)) : M O := bnd (mPairs ms) fun kvs => look fun _ => if kvs.length ≤ 15 then some (.ok (mergeD [] kvs)) else none
theorem RepP.go {K : PySem.W.Frag} {g g' : Gh} {H H' : Hp} {κ : Type} {d : List (κ × D)} {v : List (κ × V)} (h : RepP K g.F g.m d v) (x : Go g H g' H') : RepP K g'.F g'.m d v := h.mono x.F x.m
theorem RepP.merge {K : PySem.W.Frag} {G : Hp} {m : List Addr} : ∀ {more : List (Key × D)} {xs : List (Key × V)}, RepP K G m more xs → ∀ {ds : List (Key × D)} {vs : List (Key × V)}, RepP K G m ds vs → RepP K G m (mergeD ds more) (mergeK vs xs)
  | _, _, .nil, _, _, q => q
  | _, _, .cons (k := k) h r, ds, vs, q => by
    show RepP K G m (mergeD (putD ds k _) _) (mergeK (putK vs k _) _)
    exact RepP.merge r (RepP.put h k q)
section
variable {X : Cx} {W : WX} {k v e : Expr} {pos : Pos} {ks : List (Option Expr)} {vs : List Expr} {ms : List (M D × M D)}
theorem tpairs_imp {K : PySem.W.Frag} : ∀ (ms : List (M D × M D)) (σ : L2.St) (H : Hp) (Q : List (V × V) → Hp → Prop), tG K W (rKV K) (mPairs ms) σ H Q → tPairs (ms.map fun q => (tG K W (rD K) q.1, tG K W (rD K) q.2)) σ H Q
  | [], σ, H, Q, ⟨g, s, st, q⟩ => q.ret (v := ([] : List (V × V))) (Go.refl g H) st ⟨[], rfl, .nil⟩
  | (mk, mv) :: r, σ, H, Q, ⟨g, s, st, q⟩ => seq st (Go.refl g H) q fun d s1 x H1 g1 go1 go st1 rd hk => seq st1 go hk fun e s2 y H2 g2 go2 go02 st2 re hk2 => by
    refine tpairs_imp r σ H2 _ (seq st2 go02 hk2 fun ps s3 zs H3 g3 go3 go03 st3 rp hk3 => ?_)
    obtain ⟨kv, h1, h2⟩ := hk3.lkR
    obtain ⟨kk, e1, e2⟩ := Option.map_eq_some_iff.mp h1
    subst e2
    obtain ⟨xs, rfl, rx⟩ := rp
    have ex : x = kV kk := keyD_ok rd e1
    subst ex
    exact h2.ret (RR := rKV K) (v := (kV kk, y) :: _) go03 st3 ⟨(kk, y) :: xs, rfl, .cons (Rep.go re go3) rx⟩
abbrev VPs (X : Cx) (W : WX) (pos : Pos) (ks : List (Option Expr)) (vs : List Expr) (ms : List (M D × M D)) : Prop := PPs X pos ks vs (ms.map fun q => (tG X.K W (rD X.K) q.1, tG X.K W (rD X.K) q.2))
theorem vps_nil : VPs X W pos [] [] [] := pps_nil
theorem vps_cons {mk mv : M D} (hk : VD X W k mk) (hv : VD X W v mv) (hr : VPs X W pos ks vs ms) : VPs X W pos (some k :: ks) (v :: vs) ((mk, mv) :: ms) := pps_cons hk hv hr
theorem vf_dict (h : VPs X W pos ks vs ms) (hall : ks.all (·.isSome) = true := by rfl) (hl : ks.length = vs.length := by rfl) (h0 : ks ≠ [] := by exact List.cons_ne_nil _ _) (h15 : ks.length ≤ 15 := by decide) : VF X W (.Dict ks vs pos) (mDisp ms) :=
  pe_imp (pe_disp h hall hl h0 h15) fun σ H Q ⟨g, s, st, q⟩ p hp => by
    refine tpairs_imp ms σ _ _ (seq (st.new (u := .dK []) hp) ((Go.refl g H).new hp) q fun kvs s1 ps H1 g1 go1 go st1 rk hk => ?_)
    obtain ⟨o, h1, h2⟩ := hk.lkR
    split at h1
    · rename_i hz
      cases h1
      obtain ⟨xs, rfl, rx⟩ := rk
      have nw := not_own st hp
      have fp := free_of st.sub hp
      have e1 : H1 p = some (.dK []) := go1.keep p _ upd_same nw fp
      have fp1 : g1.F p = none := by
        cases z : g1.F p with
        | none => rfl
        | some u =>
          rcases go1.frz p u z with y | y | y
          · exact absurd fp y
          · rw [upd_same] at y; cases y
          · exact absurd y nw
      have nw1 : ¬ g1.own p := fun z => (go1.rts p z).elim nw fun y => by rw [upd_same] at y; cases y
      refine ⟨e1, xs, rfl, by rw [← rx.length]; exact hz, ?_⟩
      have hs : St X.K g1 s1 σ (upd H1 p (.dK (mergeK [] xs))) := by
        have nF : ∀ a u, g1.F a = some u → a ≠ p := fun a u z y => by rw [y, fp1] at z; cases z
        refine ⟨⟨fun a u r => ?_, fun a C d f r => by rw [upd_ne (nF a _ r)]; exact st1.sub.ins a C d f r, fun a y r => by rw [upd_ne (nF a _ r)]; exact st1.sub.lst a y r, fun a y r => by rw [upd_ne (nF a _ r)]; exact st1.sub.tup a y r⟩, st1.len, st1.slot, st1.ce.keep (Sub.refl _) (Pre.refl _) fun a ha => ⟨(st1.ce.own_ ha).1, fun u z => ?_⟩, st1.tb.keep (Sub.refl _) (Pre.refl _) fun a ha => ⟨(st1.tb.own_ ha).1, fun u z => ?_⟩, st1.dj⟩
        · have ne : a ≠ p := by
            rcases r with r | ⟨_, r⟩ <;> exact nF a _ r
          rcases st1.sub.rd a u r with z | ⟨o, z⟩
          · exact .inl (by rw [upd_ne ne]; exact z)
          · exact .inr ⟨o, by rw [upd_ne ne]; exact z⟩
        · rw [upd_ne fun y => nw1 (by rw [← y]; exact .inl ha)]; exact z
        · rw [upd_ne fun y => nw1 (by rw [← y]; exact .inr ha)]; exact z
      have hgo : Go g H g1 (upd H1 p (.dK (mergeK [] xs))) := ⟨go.F, go.m, go.cv, fun a o z n f => by
        have ne : a ≠ p := fun y => by rw [y, hp] at z; cases z
        rw [upd_ne ne]; exact go.keep a o z n f, fun a z => by
        by_cases y : a = p
        · subst y; rw [upd_same]; exact fun z => nomatch z
        · rw [upd_ne y]; exact go.trk a z, go.frz, go.rts⟩
      exact h2.ret (v := .ref p) hgo hs ⟨some p, .ok fp1 upd_same (RepP.merge rx .nil), fun a ea => by cases ea; exact ⟨nw1, .inr hp⟩⟩
    · cases h1
theorem vf_dict0 : VF X W (.Dict [] [] pos) (ret (.ok [])) := pe_imp pe_dnewK fun σ H Q ⟨g, s, st, q⟩ p hp => by
  obtain ⟨g', go', st', ro⟩ := (Mk.ok (H := H) (m := g.m) hp .nil).done st (Go.refl g H)
  exact q.ret go' st' ro
end
section
variable {X : Cx} {W : WX} {k n N : Nat} {f : Addr} {fd : FuncData} {ps ks : List Str} {F : Fn} {x : Str} {p pos : Pos} {e : Expr} {es : List Expr} {kws : List Keyword} {ma mk : M (List Ref)} {gA : List Value → List Value → List Value} {gV : List V → List V → List V} {G : List Ref → List Ref → List Ref}
def tCallN0 (m : Nat) (sp : Sp) (gV : List V → List V → List V) (E : XK) (tk : TA) : TE := fun σ H Q => tk σ H fun zs H1 => zs.length = m ∧ sp (gV [] zs) H1 Q E
theorem pe_call_kw0 {sp : Sp} {E : XK} {tk : TA} (G0 : FnOk X.prog X.w X.K X.mg X.base (L2.CX X.prog X.w) k f fd ps sp) (hr : Room k X.A) (hg : Gl X x) (hm : X.mg x = some (.ref f)) (hk : PySem.W.keepIn X.K (.ref f) = true) (hb : KBn X.K fd ps 0 ks gA gV) (hx : Passes (L2.CX X.prog X.w) X E) (hkw : PK X kws tk)
    (hall : (backToKw pos (keywordEach kws X.env)).all (·.1.isSome) = true) (hks : (backToKw pos (keywordEach kws X.env)).filterMap (·.1) = ks) (hdb : (x == ("__debug__" : Str)) = false) (hpl : ((backTo pos (starEach [] X.env)).any (·.1) || (backToKw pos (keywordEach kws X.env)).any (·.1.isNone)) = false) :
    PE X (.Call (.Name x p) [] kws pos) (tCallN0 ks.length sp gV E tk) := ⟨fun pins s σ H Q I h =>
  wpAny_Call_Name_kw (ld_glob I hg hm (PySem.W.callWith_KW0 (h₀ := X.base) I.ok.mod.kin hk hall (thn (hkw.run pos pins s σ H _ I h) fun ws s2 ⟨zs, H2, I2, rz, l2, q2⟩ => ⟨I2.kIn, by
    rw [hks]
    exact run_fnN (us := []) (vs := []) G0 hr hb hx I2 .nil rz rfl l2 q2⟩) hpl) hdb)⟩
theorem vf_callK0 (uw : Uni W) (tk : Takes X W) (G0 : FnOk X.prog X.w X.K X.mg X.base (L2.CX X.prog X.w) k f fd ps (spOf X.K N F)) (hr : Room k X.A) (hm : X.mg x = some (.ref f)) (hk : PySem.W.keepIn X.K (.ref f) = true) (hb : KBn X.K fd ps 0 ks gA gV) (hG : GOk X.K 0 ks.length N G gV)
    (hkw : Vs.VK X W kws mk) (hmk : MLen mk ks.length) (hg : Gl X x := by rfl)
    (hall : (backToKw pos (keywordEach kws X.env)).all (·.1.isSome) = true := by rfl) (hks : (backToKw pos (keywordEach kws X.env)).filterMap (·.1) = ks := by rfl) (hdb : (x == ("__debug__" : Str)) = false := by decide)
    (hpl : ((backTo pos (starEach [] X.env)).any (·.1) || (backToKw pos (keywordEach kws X.env)).any (·.1.isNone)) = false := by rfl) :
    VF X W (.Call (.Name x p) [] kws pos) (mCallK F G (ret []) mk) :=
  pe_imp (pe_call_kw0 (E := EA W) G0 hr hg hm hk hb (passEA tk) hkw hall hks hdb hpl) fun σ H Q ⟨g, s, st, q⟩ => by
    have q : tAt X.K W (rO X.K) g H (bnd mk fun zs => callF F (G [] zs)) s σ Q := ⟨q.run⟩
    refine seqE st (Go.refl g H) q fun zs s1 us H1 g1 e1 _ go st1 rz hk => ?_
    have l2 := hmk s zs s1 e1
    obtain ⟨h1, h2⟩ := hG g1 σ [] zs [] us rfl l2 .nil rz
    exact ⟨by rw [← refs_len rz]; exact l2, spOf.mono (fun cls d H h σ' => uw _ _ _ _ _ h) (callF_sp (W := W) h2 go st1 h1 hk)⟩
end
end Vs
namespace Vs
open PySem PySem.Spec PyProof.Rows L2
def memK (l : List Key) (k : Key) : Bool := l.any fun x => decide (x = k)
def addK (σ : List Key) (k : Key) : List Key := if memK σ k = true then σ else σ ++ [k]
def ddK (ks : List Key) : List Key := ks.foldl addK []
theorem ddK_succ {ks : List Key} {i : Nat} {k : Key} (h : ks[i]? = some k) : ddK (ks.take (i + 1)) = addK (ddK (ks.take i)) k := by
  unfold ddK
  rw [List.take_add_one, h, List.foldl_append]
  rfl
theorem memK_iff {l : List Key} {k : Key} : memK l k = true ↔ k ∈ l := by
  unfold memK
  rw [List.any_eq_true]
  constructor
  · rintro ⟨x, h1, h2⟩
    rw [decide_eq_true_eq] at h2
    subst h2; exact h1
  · exact fun h => ⟨k, h, by simp⟩
theorem addK_mem (σ : List Key) (k j : Key) : memK (addK σ k) j = (memK σ j || decide (j = k)) := by
  unfold addK
  by_cases h : memK σ k = true
  · rw [if_pos h]
    by_cases e : j = k
    · subst e; rw [h]; simp
    · simp [e]
  · rw [if_neg h]
    unfold memK
    rw [List.any_append, List.any_cons, List.any_nil, Bool.or_false]
    congr 1
    exact decide_eq_decide.mpr ⟨Eq.symm, Eq.symm⟩
theorem addK_len (σ : List Key) (k : Key) : (addK σ k).length = if memK σ k = true then σ.length else σ.length + 1 := by
  unfold addK
  split
  · rfl
  · simp
theorem ddK_le : ∀ (ks σ : List Key), (ks.foldl addK σ).length ≤ σ.length + ks.length
  | [], σ => by simp
  | k :: ks, σ => by
    have h1 := ddK_le ks (addK σ k)
    have h2 := addK_len σ k
    rw [List.foldl_cons, List.length_cons]
    split at h2 <;> omega
section
variable {P : Program} {w : World} {A : Around}
/-- the set of the first i keys stands at b -/
abbrev KSet (P : Program) (w : World) (h : Heap) (b : Addr) (l : List Key) : Prop := h.SetOf (mixKind P w) b (memK l) l.length
theorem KSet.next {h : Heap} {b : Addr} {l : List Key} {k : Key} (q : h.SetOf (mixKind P w) b (fun j => memK l j || decide (j = k)) (if memK l k = true then l.length else l.length + 1)) : KSet P w h b (addK l k) := by
  have e1 : (fun j => memK l j || decide (j = k)) = memK (addK l k) := funext fun j => (addK_mem l k j).symm
  rw [e1, ← addK_len] at q
  exact q
theorem KSet.at' {h h' : Heap} {b : Addr} {l : List Key} (q : KSet P w h b l) (k : ∀ o, h.get? b = some o → h'.get? b = some o) : KSet P w h' b l := by
  obtain ⟨o, es, ep, tb, ho, r⟩ := q
  exact ⟨o, es, ep, tb, k o ho, r⟩
theorem fill_keys {R : Result → Shared → Prop} {It : Addr} {fp wr : List Addr} {G : Array GenState → Array GenState → Prop} {n : Nat} {Pv : Nat → Value → Prop} {St : Nat → Shared → Prop} (W : WalksS P w A.in1 It fp wr G n Pv St) (b : Addr) (out : b ∉ fp) (ks : List Key) (ln : ks.length = n)
    (isk : ∀ i v, Pv i v → ∃ k, ks[i]? = some k ∧ (mixKind P w).is k v = true ∧ v.scannable = true) (few : n + 1 < scanBound)
    :
    ∀ (m i : Nat) (s : Shared), n - i = m → i ≤ n → St i s → KSet P w s.heap b (ddK (ks.take i)) → (∀ s', Moved (b :: wr) G s s' → KSet P w s'.heap b (ddK ks) → R (.ok (.ret .none)) s') →
      codeAny (model P w) A (.builtin "set.update.loop" ⟨[.ref b, .ref It], []⟩) R s := by
  have bw : b ∉ wr := fun z => out (W.sub _ z)
  have wider : ∀ x ∈ wr, x ∈ b :: wr := fun x z => List.mem_cons_of_mem _ z
  intro m
  induction m with
  | zero =>
    intro i s hm le st q ends
    obtain rfl : i = n := by omega
    refine codeAny_builtin PyProof.Rows.F.entry_set_update_loop ?_
    rw [Around.under_plainId PyProof.Rows.F.plain_set_update_loop _]
    show wpAny _ A.in1 (pyNext (.ref It) >>= _) _ _ s
    refine wpAny_bind (W.done s _ _ st fun s' mv => ?_)
    show wpAny _ A.in1 (PySem.ret Value.none) _ _ s'
    have e : ks.take i = ks := List.take_of_length_le (by omega)
    rw [e] at q
    exact wpAny_pure (ends s' (mv.mono wider) (q.at' fun o z => mv.heap b o bw z))
  | succ m ih =>
    intro i s hm le st q ends
    have lt : i < n := by omega
    refine codeAny_builtin PyProof.Rows.F.entry_set_update_loop ?_
    rw [Around.under_plainId PyProof.Rows.F.plain_set_update_loop _]
    show wpAny _ A.in1 (pyNext (.ref It) >>= _) _ _ s
    refine wpAny_bind (W.item i s _ _ lt st fun v s' pv st' mv => ?_)
    obtain ⟨k, gk, ik, sk⟩ := isk i v pv
    have q' := q.at' (h' := s'.heap) fun o z => mv.heap b o bw z
    show wpAny _ A.in1 (holding [v] (setAdd b v) >>= _) _ _ s'
    refine wpAny_bind (wpAny_holding ?_)
    unfold setAdd
    refine wpAny_holding (wpAny_bind ((mixKind P w).pyHash (k := k) ik ?_))
    have few' : (ddK (ks.take i)).length + 1 < scanBound := by
      have h1 := ddK_le (ks.take i) []
      have h2 : (ks.take i).length ≤ n := by rw [List.length_take]; omega
      unfold ddK
      simp only [List.length_nil] at h1
      omega
    refine wpAny_setAddHashed_of (knd := mixKind P w) (s := { s' with toks := s'.toks + 1 }) ik sk q' few' fun h' sb new => ?_
    have new' : KSet P w h' b (ddK (ks.take (i + 1))) := by rw [ddK_succ gk]; exact KSet.next new
    refine wpAny_pure ⟨plainId_quiet PyProof.Rows.F.plain_set_update_loop _, ih (i + 1) _ (by omega) lt (W.frame _ s' _ _ st' (Nat.le_succ _) fun x hx o z => ?_) new' fun s2 mv2 q2 => ?_⟩
    · rw [sb.2 x (fun z => out (z ▸ hx))]; exact z
    · refine ends s2 (Moved.trans W.gtrans ((mv.mono wider).then_heap (Nat.le_succ _) fun x o hx z => ?_) mv2) q2
      rw [sb.2 x (fun y => hx (by rw [y]; exact List.mem_cons_self))]; exact z
variable {s : Shared} {E : Value → Shared → Prop}
abbrev set0 (b : Bool) : Obj := { cls := .type "set", dict := none, data := .set #[] 0 (.fresh 0 0 b) }
theorem set_keys {l : Addr} {items : Array Value} {ks : List Key} {Q : Value → Shared → Prop} (hot : A.handled = none) (hl : s.heap.IsList l items) (ln : ks.length = items.size)
    (isk : ∀ (i : Nat) (v : Value), items[i]? = some v → ∃ k, ks[i]? = some k ∧ (mixKind P w).is k v = true ∧ v.scannable = true) (few : items.size + 1 < scanBound)
    (h : ∀ (h' : Heap) (tk : Nat), KSet P w h' s.heap.objs.size (ddK ks) → (∀ b o, s.heap.get? b = some o → h'.get? b = some o) → Q (.ref s.heap.objs.size) { s with heap := h', toks := tk }) :
    wpAny (model P w) A (call (.type "set") [.ref l]) Q E s := by
  obtain ⟨cm, tm, mro⟩ := PySem.F.called_set.mro
  have a1 := PySem.F.called_set.made
  have a2 := PySem.F.called_set.sub
  have a3 := PySem.F.called_set.notType
  have a4 := PySem.F.called_set.canCreate
  have a5 := PySem.F.typeCall_set_1 (.ref l)
  refine wpAny_call (codeAny_of_tree (wpAny_pure ⟨Code.quiet_builtin _ (by decide +kernel), codeAny_builtin PySem.F.entry_type_call ?_⟩))
  rw [Around.under_plain (weight_type_call_type "set" [.ref l] []) rfl]
  repeat (any_goals (first | assumption | wp_step))
  refine codeAny_mono (code_set_new_1 (.ref l) (E := E) (Q₁ := fun ob s1 => ∃ b : Bool, ob = .ref s.heap.objs.size ∧ s1 = { s with heap := s.heap.push (set0 b) }) fun b => ⟨b, rfl, rfl⟩) fun r s1 hr => ?_
  cases r with
  | error e => exact hr
  | ok fl =>
    cases fl with
    | ret ob =>
      obtain ⟨b, rfl, rfl⟩ := hr
      have at0 : (s.heap.push (set0 b)).get? s.heap.objs.size = some (set0 b) := Heap.get?_push_size _ rfl
      have ty0 : Shared.TypeIs { s with heap := s.heap.push (set0 b) } (.ref s.heap.objs.size) "set" := ⟨_, at0, rfl⟩
      have b1 := PySem.F.called_set.init.lookup
      have b2 := PySem.F.called_set.init.bind (.ref s.heap.objs.size)
      repeat (any_goals (first | assumption | wp_step))
      refine codeAny_mono (codeAny_call_builtin (R := wants (fun r s2 => r = .none ∧ ∃ h' tk, s2 = { s with heap := h', toks := tk } ∧ KSet P w h' s.heap.objs.size (ddK ks) ∧ ∀ x o, s.heap.get? x = some o → h'.get? x = some o) E) PySem.F.called_set.init.plain PySem.F.entry_set_init (check_set_init_1 ty0 ?_)) fun r s2 hr => ?_
      · obtain ⟨ol, hol, hcl, nl, hdl⟩ := hl
        obtain ⟨c0, d0, e0, f0⟩ := ol
        simp only at hcl hdl
        subst hcl hdl
        have lt : l < s.heap.objs.size := Heap.lt_size hol
        have hol' : (s.heap.push (set0 b)).get? l = some { cls := .type "list", dict := d0, data := .seq items nl, slots := f0 } := Heap.get?_push_of_some _ hol
        have c1 := PySem.F.sub_list_set
        have c2 := PySem.F.sub_list_frozenset
        have c3 : (Value.type "list" == Value.type "dict") = false := by decide
        have isl : (s.heap.push (set0 b)).IsList l items := ⟨_, hol', rfl, nl, rfl⟩
        unfold Builtin.«set.__init__» noKeywords Builtin.Frozenset.updateFrom
        generalize hPI : pyIter = PI
        wp_walk
        subst hPI
        refine wpAny_pyIter_list isl (wpAny_bind (wpAny_runValue ?_))
        have sz : (s.heap.push (set0 b)).objs.size = s.heap.objs.size + 1 := Heap.size_push ..
        have hot3 : A.in1.in1.in1.handled = none := by simp [hot]
        refine fill_keys ((Walks.list hot3 (s.heap.push (set0 b)).objs.size l (by rw [sz]; exact Nat.ne_of_lt (Nat.lt_succ_of_lt lt)) items).toS) s.heap.objs.size (by rw [sz]; simp only [List.mem_cons, List.not_mem_nil, or_false, not_or]; exact ⟨Nat.ne_of_lt (Nat.lt_succ_self _), Nat.ne_of_gt lt⟩) ks ln isk few _ 0 _ rfl (Nat.zero_le _) ⟨⟨_, Heap.get?_push_size _ rfl, rfl, rfl⟩, isl.push _⟩ ?_ ?_
        · have g0 : ((s.heap.push (set0 b)).push { cls := .type "list_iterator", data := .fields #[.ref l, .int 0 0] }).get? s.heap.objs.size = some (set0 b) := Heap.get?_push_of_some _ at0
          exact ⟨_, #[], 0, _, g0, ⟨rfl, rfl, rfl⟩, rfl, fun e z => by simp at z, fun k => by simp [memK, ddK], by decide, by rfl, rfl⟩
        · intro s3 mv q3
          obtain ⟨h3, g3, d3, t3, o3⟩ := s3
          obtain rfl : g3 = s.gens := mv.gens
          obtain rfl : d3 = s.drawn := mv.drawn
          obtain rfl : o3 = s.os := mv.os
          refine wpAny_pure ?_
          show wpAny _ _ (PySem.ret Value.none) _ _ _
          refine wpAny_pure ⟨rfl, h3, t3, rfl, q3, fun x o z => ?_⟩
          have lx := Heap.lt_size z
          exact mv.heap x o (by rw [sz]; simp only [List.mem_cons, List.not_mem_nil, or_false, not_or]; exact ⟨Nat.ne_of_lt lx, Nat.ne_of_lt (Nat.lt_succ_of_lt lx)⟩) (Heap.get?_push_of_some _ (Heap.get?_push_of_some _ z))
      · cases r with
        | error e => exact hr
        | ok fl =>
          cases fl with
          | ret r =>
            obtain ⟨rfl, h', tk, rfl, q1, q2⟩ := hr
            repeat (any_goals (first | assumption | wp_step))
            exact h _ _ q1 q2
          | _ => exact hr.elim
    | _ => exact hr.elim
end
end Vs
namespace Vs
open PySem PySem.Spec PyProof.Rows L2
section
variable {X : Cx} {W : WX} {e : Expr} {pos p pos' p' : Pos} {ma : M Ref}
def rSetL (K : PySem.W.Frag) (P : Program) (w : World) : List V → Hp → L2.VK → Prop := fun xs H Q => ∃ (l : Addr) (ks : List Key), xs = [V.ref l] ∧ SqL K H l (ks.map kV) ∧ ks.length < 1000 ∧ ∀ a, H a = none → Q (.ref a) (upd H a (SetK P w a (memK (ddK ks)) (ddK ks).length))
theorem cr_setL (hc : X.calm = true) : CallR X (.type "set") (rSetL X.K X.prog X.w) := by
  intro pins s σ H xs us Q I r h
  obtain ⟨l, ks, rfl, hl, few, q⟩ := h
  rw [Vals.ref1 r]
  obtain ⟨its, rv, pl, hz⟩ := I.list hl
  have len : (ks.map kV).length = its.length := rv.length
  refine set_keys (P := X.prog) (w := X.w) (ks := ks) (I.ok.hd hc) pl.isList (by simpa using len) (fun i v e => ?_) (by unfold scanBound; rw [List.size_toArray, ← len, List.length_map]; omega) fun h' tk q1 q2 => ?_
  · have e' : its[i]? = some v := by simpa using e
    have lt : i < (ks.map kV).length := by rw [len]; exact (List.getElem?_eq_some_iff.mp e').1
    obtain ⟨u, hu, ru⟩ := rv.get (List.getElem?_eq_getElem lt)
    rw [e'] at hu
    cases hu
    have lt' : i < ks.length := by simpa using lt
    refine ⟨ks[i], List.getElem?_eq_getElem lt', ?_, ?_⟩
    · rw [List.getElem_map] at ru; exact kV_is ru
    · rw [List.getElem_map] at ru; exact key_scan ru
  · exact ⟨.ref _, upd H s.heap.objs.size (SetK X.prog X.w s.heap.objs.size (memK (ddK ks)) (ddK ks).length), I.laid (t' := tk) q2 (Nat.le_refl _) (setK_new q1), rfl, q _ (I.hok.fresh (Nat.le_refl _))⟩
def rLenK (P : Program) (w : World) : List V → Hp → L2.VK → Prop := fun xs H Q => ∃ (a : Addr) (S : Key → Bool) (n : Nat), xs = [V.ref a] ∧ H a = some (SetK P w a S n) ∧ Q (.int n) H
theorem cr_lenK : CallR X (.builtin "len") (rLenK X.prog X.w) := by
  intro pins s σ H xs us Q I r h
  obtain ⟨a, S, n, rfl, ha, q⟩ := h
  rw [Vals.ref1 r]
  obtain ⟨o, es, ep, t, ho, hex, hd, _, _, hb, hf, hn⟩ := setK_get I ha
  subst hn
  exact call_len_set ho hex hd hf (Int.lt_trans (Int.ofNat_lt.mpr hb) (by unfold scanBound; decide)) ⟨.int _, H, I.tok _, ⟨_, rfl⟩, q⟩
theorem bt_set : bootBuiltins "set" = some (.type "set") := by decide +kernel
def mLenSet (ma : M Ref) : M O := bnd ma fun r => look fun s => (view s r).bind fun d => (lstD d).bind fun ds => (keysD ds).bind fun ks => if ks.length < 1000 then some (.sh (.int (ddK ks).length)) else none
theorem vf_lenset (hc : X.calm = true) (hm : X.mg "len" = none) (hm2 : X.mg "set" = none) (ha : VR X W e ma) (hg : Gl X "len" := by rfl) (hg2 : Gl X "set" := by rfl)
    (he : starEach [.Call (.Name "set" p') [e] [] pos'] X.env = (false, eval (.Call (.Name "set" p') [e] [] pos') X.env) :: starEach [] X.env := by rfl) (he2 : starEach [e] X.env = (false, eval e X.env) :: starEach [] X.env := by rfl) (hpl : (backTo pos (starEach [] X.env)).any (·.1) = false := by rfl) (hpl2 : (backTo pos' (starEach [] X.env)).any (·.1) = false := by rfl) :
    VF X W (.Call (.Name "len" p) [.Call (.Name "set" p') [e] [] pos'] [] pos) (mLenSet ma) :=
  pe_imp (pe_callB cr_lenK hg hm bt_len (pa_cons (pe_callTy (cr_setL hc) hg2 hm2 bt_set (pa_cons ha pa_nil he2) (by decide) (by decide) he2 hpl2) pa_nil he) (by decide) (by decide) he hpl) fun σ H Q ⟨g, s, st, q⟩ => by
    show tCons (tCB (rSetL X.K X.prog X.w) (tCons (tG X.K W (rR X.K) ma) tNil)) tNil σ H fun vs H1 => rLenK X.prog X.w vs H1 Q
    refine seq st (Go.refl g H) q fun r s1 v H1 g1 _ go st1 rr hk => ?_
    show rSetL X.K X.prog X.w [v] H1 fun x H2 => rLenK X.prog X.w [x] H2 Q
    obtain ⟨o, h1, h2⟩ := hk.lkR
    obtain ⟨d, e1, h1⟩ := Option.bind_eq_some_iff.mp h1
    obtain ⟨ds, e2, h1⟩ := Option.bind_eq_some_iff.mp h1
    obtain ⟨ks, e3, h1⟩ := Option.bind_eq_some_iff.mp h1
    split at h1
    · rename_i hz
      cases h1
      obtain ⟨l, xs, rfl, k1, k2⟩ := lstD_ok st1.sub (view_t st1 (Go.refl g1 H1) rr e1) e2
      have := keysD_ok k2 e3
      subst this
      refine ⟨l, ks, rfl, k1, hz, fun a ha => ⟨a, _, _, rfl, upd_same, ?_⟩⟩
      exact h2.ret (v := V.int _) (go.new ha) (st1.new ha) ⟨none, .sh (.int _), fun a e => nomatch e⟩
    · cases h1
end
end Vs
namespace Vs
open PySem PySem.Spec PyProof.Rows L2
structure DefAt (P : Program) (w : World) (K : PySem.W.Frag) (mg : Str → Option Value) (base : Heap) (f : Addr) (k : Nat) (ps : List Str) (n : Nat) (F : Fn) : Prop where
  ex : ∃ fd, FnOk P w K mg base (L2.CX P w) k f fd ps (spOf K n F) ∧ Binds K fd ps []
  kp : PySem.W.keepIn K (.ref f) = true
/-- the keywords' values in the parameters' order -/
def pick {α : Type} (perm : List Nat) (zs : List α) : List α := perm.filterMap fun i => zs[i]?
theorem pick_cons {α : Type} (i : Nat) (perm : List Nat) (zs : List α) : pick (i :: perm) zs = (match zs[i]? with
  | some z => z :: pick perm zs
  | none => pick perm zs) := by
  unfold pick
  rw [List.filterMap_cons]
  cases zs[i]? <;> rfl
theorem pick_vals {zs : List V} {ws : List Value} (r : Vals zs ws) : ∀ perm, Vals (pick perm zs) (pick perm ws)
  | [] => .nil
  | i :: perm => by
    rw [pick_cons, pick_cons]
    cases e : zs[i]? with
    | none =>
      have : ws[i]? = none := by
        rw [List.getElem?_eq_none_iff] at e ⊢
        rw [← r.length]; exact e
      rw [this]
      exact pick_vals r perm
    | some z =>
      obtain ⟨u, hu, ru⟩ := r.get e
      rw [hu]
      exact .cons ru (pick_vals r perm)
theorem refs_get {K : PySem.W.Frag} {g : Gh} {σ : L2.St} : ∀ {rs : List Ref} {vs : List V} {i : Nat} {r : Ref}, RefsOk K g σ rs vs → rs[i]? = some r → ∃ v, vs[i]? = some v ∧ RefsOk K g σ [r] [v]
  | _, _, 0, _, .cons h _, e => by simp at e; subst e; exact ⟨_, rfl, .cons h .nil⟩
  | _, _, i + 1, _, .cons _ t, e => by
    obtain ⟨v, h1, h2⟩ := refs_get (i := i) t (by simpa using e)
    exact ⟨v, by simpa using h1, h2⟩
  | _, _, i, _, .nil, e => by simp at e
theorem pick_refs {K : PySem.W.Frag} {g : Gh} {σ : L2.St} {zs : List Ref} {us : List V} (r : RefsOk K g σ zs us) : ∀ perm, RefsOk K g σ (pick perm zs) (pick perm us)
  | [] => .nil
  | i :: perm => by
    rw [pick_cons, pick_cons]
    cases e : zs[i]? with
    | none =>
      have : us[i]? = none := by
        rw [List.getElem?_eq_none_iff] at e ⊢
        rw [← refs_len r]; exact e
      rw [this]
      exact pick_refs r perm
    | some z =>
      obtain ⟨u, hu, ru⟩ := refs_get r e
      rw [hu]
      exact refs_app' ru (pick_refs r perm)
theorem pick_len {α : Type} {zs : List α} : ∀ {perm : List Nat}, (∀ i ∈ perm, i < zs.length) → (pick perm zs).length = perm.length
  | [], _ => rfl
  | i :: perm, h => by
    rw [pick_cons, List.getElem?_eq_getElem (h i List.mem_cons_self)]
    exact congrArg (· + 1) (pick_len fun j hj => h j (List.mem_cons_of_mem _ hj))
def permG {α : Type} (perm : List Nat) (rs zs : List α) : List α := rs ++ pick perm zs
theorem permG_ok {K : PySem.W.Frag} {n m N : Nat} {perm : List Nat} (h : perm.all (· < m) = true := by decide) (hN : n + perm.length = N := by rfl) : GOk K n m N (permG perm) (permG perm) := fun g σ rs zs vs us l1 l2 r1 r2 => by
  refine ⟨refs_app' r1 (pick_refs r2 perm), ?_⟩
  unfold permG
  rw [List.length_append, pick_len fun i hi => ?_, ← refs_len r1, l1]
  · exact hN
  · have := List.all_eq_true.mp h i hi
    rw [← refs_len r2, l2]
    simpa using this
theorem kb_n {K : PySem.W.Frag} {x qual : Str} {params : Arguments} {body : List Stmt} {scope : Scope} {kws : List (Str × V)} {f : Addr} {fd : FuncData} {ps : List Str} (F : FunD K x qual params body scope [] kws f fd) (n : Nat) (ks : List Str) (perm : List Nat)
    (h : ∀ (kV doc pm : Value) (an : Option Addr) (cdv ct : Value) (us ws : List Value), us.length = n → ws.length = ks.length → bindArgs (PySem.W.fnOf x qual params body scope .none kV doc pm an cdv ct) ⟨us, ks.zip ws⟩ = pure (ps.zip (permG perm us ws))) :
    KBn K fd ps n ks (permG perm) (permG perm) := by
  obtain ⟨oc, od, dV, kV, doc, pm, an, cdv, ct, osl, rfl, lk, hcd, hD, hK⟩ := F.ex
  rcases hD with ⟨_, rfl⟩ | ⟨e, _⟩
  · exact ⟨fun s us ws X l1 l2 => .of_eq (h kV doc pm an cdv ct us ws l1 l2), fun r1 r2 => r1.append (pick_vals r2 perm)⟩
  · exact absurd rfl e
def obsX (n : Nat) (fa : List He.Fa) (fn : List He.DefD) (ex : List (PySem.W.Frag → Bool)) (g : Addr → Option Obj) : He.AlD × Bool := (He.obsD fa fn (He.frG g (He.asD g n)), ex.all fun q => q (He.frG g (He.asD g n)))
structure SaysX (fa : List He.Fa) (fn : List He.DefD) (ex : List (PySem.W.Frag → Bool)) (K : PySem.W.Frag) : Prop where
  d : He.SaysD fa fn K
  x : (ex.all fun q => q K) = true
def hookX (n : Nat) (fa : List He.Fa) (fn : List He.DefD) (ex : List (PySem.W.Frag → Bool)) : PySem.W.Hook where
  α := He.AlD × Bool
  obs := fun s => obsX n fa fn ex s.heap.get?
  val := fun _ => (He.valD fn, true)
  says := fun _ h => ∃ K : PySem.W.Frag, K.In h ∧ SaysX fa fn ex K
  of := fun _ _ e => ⟨_, He.frG_in, congrArg Prod.fst e, congrArg Prod.snd e⟩
  keeps := fun _ _ _ ⟨K, hK, c⟩ k => ⟨K, hK.keeps k, c⟩
theorem obsX_eq {n : Nat} {fa : List He.Fa} {fn : List He.DefD} {ex : List (PySem.W.Frag → Bool)} {g : Addr → Option Obj} {s : Shared} (h : ∀ a, g a = s.heap.get? a) : obsX n fa fn ex g = (hookX n fa fn ex).obs s := by
  have e : g = s.heap.get? := funext h
  rw [e]; rfl
theorem SaysX.ex {fa : List He.Fa} {fn : List He.DefD} {ex : List (PySem.W.Frag → Bool)} {K : PySem.W.Frag} (c : SaysX fa fn ex K) (i : Nat) {q : PySem.W.Frag → Bool} (h : ex[i]? = some q := by rfl) : q K = true :=
  List.all_eq_true.mp c.x q (List.mem_of_getElem? h)
def mPar3 (i j l : Nat) (m : M (List D)) : SM := bnd m fun ds s => match ds with
  | [d, e, f] => some (.ok .nx { s with sl := ((s.sl.set i (some (.sh d))).set j (some (.sh e))).set l (some (.sh f)) })
  | _ => none
section
variable {X : Cx} {W : WX}
theorem vs_par3 {i j l : Nat} {x y z : Str} {a b c : Expr} {px py pz pt pos : Pos} {kt k2 : Nat} {pt2 : Pos} {m : M (List D)} (hc : X.calm = true) (hN : X.N.Nodup) (hi : X.N[i]? = some x) (hj : X.N[j]? = some y) (hl : X.N[l]? = some z) (hij : i ≠ j) (hil : i ≠ l) (hjl : j ≠ l)
    (hx : X.env.scope.names.lookup x = some .local) (hy : X.env.scope.names.lookup y = some .local) (hz : X.env.scope.names.lookup z = some .local) (ha : VA X W [a, b, c] m)
    (hw : swappedStores [.Tuple [.Name x px, .Name y py, .Name z pz] kt pt] (.Tuple [a, b, c] k2 pt2) X.env = pure (some [x, y, z]))
    (hs : swapsWithSole [.Tuple [.Name x px, .Name y py, .Name z pz] kt pt] (.Tuple [a, b, c] k2 pt2) pos.line X.env = pure false := by rfl) :
    VS X W (.Assign [.Tuple [.Name x px, .Name y py, .Name z pz] kt pt] (.Tuple [a, b, c] k2 pt2) pos) (mPar3 i j l m) :=
  ps_imp (ps_par3 hc hN hi hj hl hij hil hjl hx hy hz ha hw hs) fun D σ H ⟨g, s, st, q⟩ => seqX st (Go.refl g H) q fun ds s1 vs H1 g1 _ go st1 r hk => by
    cases r with
    | nil => exact hk.run.elim
    | cons r1 r2 => cases r2 with
      | nil => exact hk.run.elim
      | cons r2 r3 => cases r3 with
        | nil => exact hk.run.elim
        | cons r3 r4 => cases r4 with
          | nil => exact ⟨_, _, _, rfl, hk.run _ H1 g1 go (((st1.setSh r1 i).setSh r2 j).setSh r3 l)⟩
          | cons _ _ => exact hk.run.elim
theorem fld1 {K : PySem.W.Frag} {c f : Str} (h : Cls K (He.ga K c)) (n : NoAttr K (He.ga K c) f) : FldOk K [c] f := fun c' hc => by
  rw [List.mem_singleton] at hc; subst hc; exact ⟨h, n⟩
theorem isi1 {K : PySem.W.Frag} {c : Str} (h : IsiC K c) : ∀ c' ∈ [c], IsiC K c' := fun c' hc => by
  rw [List.mem_singleton] at hc; subst hc; exact h
theorem isi0 {K : PySem.W.Frag} : ∀ c' ∈ ([] : List Str), IsiC K c' := fun c' hc => by cases hc
theorem bt_bool : bootBuiltins "bool" = some (.type "bool") := by decide +kernel
theorem bt_dict : bootBuiltins "dict" = some (.type "dict") := by decide +kernel
theorem uni0 {E : XK} : Uni (fun cls d _ H => E cls d H) := fun _ _ _ _ _ h => h
theorem uniF : Uni (fun _ _ _ _ => False) := fun _ _ _ _ _ h => h
end
structure DefKw (P : Program) (w : World) (K : PySem.W.Frag) (mg : Str → Option Value) (base : Heap) (f : Addr) (k : Nat) (ps : List Str) (N : Nat) (F : Fn) (n : Nat) (ks : List Str) (perm : List Nat) : Prop where
  ex : ∃ fd, FnOk P w K mg base (L2.CX P w) k f fd ps (spOf K N F) ∧ KBn K fd ps n ks (permG perm) (permG perm)
  kp : PySem.W.keepIn K (.ref f) = true
end Vs
namespace Vs
open PySem PySem.Spec PyProof.Rows L2
/-- the end, by a def's trees -/
theorem walk_v {l : PySem.W.OpenLaw} {n k : Nat} {q : Program} {loose : List Str} {XP : (Str → Option Value) → Heap → Prop} {YP : World → Heap → Prop} {d : DefRec} {F : Fn} {x : Str} (hn : l.most = some n) (hn2 : n ≤ sizeLine) (hdf : d.params.defaults = []) (hr : Room k callerA)
    (G : ∀ (w : World) (mg : Str → Option Value) (fa : Addr) (h : Heap), YP w h → h.Ns mainGlobals mg → mg d.name = some (.ref fa) → ∃ (K : PySem.W.Frag) (fd : FuncData), K.In h ∧ (∀ (s : Shared) (u : Value), BindsTo s fd ⟨[u], []⟩ [(x, u)]) ∧
      ∀ base : Heap, K.In base → base.Ns mainGlobals mg → FnOk l.prog w K mg base (L2.CX l.prog w) k fa fd [x] (spOf K 1 F))
    (law : ∀ ns : List Int, ns.length ≤ n → (∀ z ∈ ns, Builtin.Int.intBits z ≤ 1048576) → F [.sh (.rl (ns.map D.int))] [] [] = some (.ok (.sh (.bl true)) [] [])) :
    PySem.W.WalkO q loose XP YP l.row.toRowW d [] (fun f vs => PySem.call f vs) := by
  refine Att.attach_callB hn hdf fun w s0 s1 mg mb fa o pm cd doc a vs ns G1 Y ho hd hcd hmg hobj hints hlen hbits hg => ?_
  obtain ⟨K, fd, KX, hb, hF⟩ := G w mg fa _ Y G1.T.g hmg
  refine law_call KX G1.T.g G1.T.b G1.T.builtins G1.T.nolimit hg hobj hints (Nat.le_trans hlen hn2) hr hF hb (fun H _ hS => ?_) fun H e s' z => ?_
  · refine ⟨rfl, ⟨H, [], [], [], []⟩, [.sh (.rl (ns.map D.int))], [], [], ⟨Sub.refl _, rfl, fun i y e => ?_, ⟨rfl, rfl, fun i o e => by simp at e, fun i j a e => by simp at e⟩, ⟨rfl, rfl, fun i o e => by simp at e, fun i j a e => by simp at e⟩, fun a e => by simp at e⟩, ?_⟩
    · cases i with
      | zero =>
        simp at e
        subst e
        refine ⟨_, rfl, .rl hS ?_⟩
        clear hlen hbits hints hS
        induction ns with
        | nil => exact .nil
        | cons i ns ih => exact .cons (.int i) ih
      | succ i => simp at e
    · rw [law ns hlen hbits]
      refine ⟨rfl, fun v H' g' _ st r => ?_⟩
      obtain ⟨_, r, _⟩ := r
      cases r with
      | sh r => cases r; rfl
  · obtain ⟨_, _, _, _, _, _, _, _, _, _, _, _, z⟩ := z
    exact z
end Vs
namespace Vs
open PySem PySem.Spec PyProof.Rows L2
/-- contents at values, their own addresses unlike -/
inductive OwnL (K : PySem.W.Frag) (F H : Hp) (m : List Addr) : List O → List V → List (Option Addr) → Prop
  | nil : OwnL K F H m [] [] []
  | cons {o : O} {v : V} {r : Option Addr} {os : List O} {vs : List V} {rs : List (Option Addr)} : RepO K F H m o v r → (∀ a, r = some a → some a ∉ rs) → OwnL K F H m os vs rs → OwnL K F H m (o :: os) (v :: vs) (r :: rs)
def rOs (K : PySem.W.Frag) : RRel (List O) (List V) := fun g H g' H' _ os vs => ∃ rs, OwnL K g'.F H' g'.m os vs rs ∧ ∀ a, some a ∈ rs → ¬ g'.own a ∧ (g.own a ∨ H a = none)
abbrev VOs (X : Cx) (W : WX) (es : List Expr) (m : M (List O)) : Prop := PA X es (tG X.K W (rOs X.K) m)
def mConsO (ma : M O) (mr : M (List O)) : M (List O) := bnd ma fun o => bnd mr fun os => ret (o :: os)
section
variable {X : Cx} {W : WX} {a e : Expr} {es : List Expr} {pos : Pos}
theorem vos_nil : VOs X W [] (ret []) := pa_imp pa_nil fun σ H Q ⟨g, s, st, q⟩ => q.ret (v := ([] : List V)) (Go.refl g H) st ⟨[], .nil, fun a h => nomatch h⟩
theorem newer {g g1 : Gh} {H H1 : Hp} (go : Go g H g1 H1) {a : Addr} (h : g1.own a ∨ H1 a = none) : g.own a ∨ H a = none := by
  rcases h with h | h
  · exact go.rts a h
  · cases q : H a with
    | none => exact .inr rfl
    | some o => exact absurd h (go.trk a (by rw [q]; exact fun z => nomatch z))
theorem vos_cons {ma : M O} {mr : M (List O)} (ha : VF X W a ma) (hr : VOs X W es mr) (hs : starEach (a :: es) X.env = (false, eval a X.env) :: starEach es X.env := by rfl) : VOs X W (a :: es) (mConsO ma mr) :=
  pa_imp (pa_cons ha hr hs) fun σ H Q ⟨g, s, st, q⟩ => seq st (Go.refl g H) q fun o s1 v H1 g1 _ go st1 r hk => seq st1 go hk fun os s2 vs H2 g2 go12 go2 st2 r2 hk2 => by
    obtain ⟨r, ro, hf⟩ := r
    obtain ⟨rs, rl, hfs⟩ := r2
    have free : ∀ a, r = some a → g1.F a = none ∧ ∃ u, H1 a = some u := fun a ea => by subst ea; exact ⟨ro.free.1, ro.free.2.1⟩
    have F2 : ∀ a, r = some a → g2.F a = none := fun a ea => by
      obtain ⟨h1, u, h2⟩ := free a ea
      cases z : g2.F a with
      | none => rfl
      | some w =>
        rcases go12.frz a w z with z | z | z
        · exact absurd h1 z
        · rw [h2] at z; cases z
        · exact absurd z (hf a ea).1
    refine hk2.ret (v := v :: vs) go2 st2 ⟨r :: rs, .cons (ro.keep go12.F go12.m fun a ea => ⟨F2 a ea, fun u hu => go12.keep a u hu (hf a ea).1 (free a ea).1⟩) (fun a ea hm => ?_) rl, fun a hm => ?_⟩
    · obtain ⟨_, u, h2⟩ := free a ea
      rcases (hfs a hm).2 with z | z
      · exact (hf a ea).1 z
      · rw [h2] at z; cases z
    · rcases List.mem_cons.mp hm with e | hm
      · have ea := e.symm
        refine ⟨fun z => ?_, (hf a ea).2⟩
        obtain ⟨_, u, h2⟩ := free a ea
        rcases go12.rts a z with z | z
        · exact (hf a ea).1 z
        · rw [h2] at z; cases z
      · exact ⟨(hfs a hm).1, newer go (hfs a hm).2⟩
end
/-- the stores, one behind the other -/
def putsL : List Nat → List O → SM
  | i :: is, o :: os => bnd (putSl i o) fun _ => putsL is os
  | [], [] => ret .nx
  | _, _ => fun _ => none
def setsL (σ : L2.St) : List Nat → List V → L2.St
  | i :: is, v :: vs => setsL (σ.set i (some v)) is vs
  | _, _ => σ
section
variable {K : PySem.W.Frag} {W : WX} {g0 : Gh} {H0 : Hp} {D : Ends}
theorem puts_ok : ∀ (is : List Nat) (os : List O) (vs : List V) (rs : List (Option Addr)) {g : Gh} {s : S} {σ : L2.St} {H : Hp}, Go g0 H0 g H → St K g s σ H → OwnL K g.F H g.m os vs rs → (∀ a, some a ∈ rs → ¬ g.own a ∧ (g0.own a ∨ H0 a = none)) →
    sAt K W g0 H0 D (putsL is os) s → D.nx (setsL σ is vs) H
  | [], [], vs, rs, g, s, σ, H, go, st, r, hf, hk => by
    cases r
    exact hk.run σ H g go st
  | i :: is, o :: os, v :: vs, r :: rs, g, s, σ, H, go, st, .cons ro hd rl, hf, hk => by
    show D.nx (setsL (σ.set i (some v)) is vs) H
    have q := hk.run
    have big : ∀ o', (∀ d, o' ≠ .sh d) → o' ≠ .gone → putSl i o' s = some (.ok .nx { s with sl := s.sl.set i (some (.pt s.ce.length)), ce := s.ce ++ [o'] }) := fun o' n1 n2 => by
      cases o' with
      | sh d => exact absurd rfl (n1 d)
      | gone => exact absurd rfl n2
      | _ => rfl
    by_cases hg : o = .gone
    · subst hg; exact q.elim
    · by_cases hs : ∃ d, o = .sh d
      · obtain ⟨d, rfl⟩ := hs
        cases ro with
        | sh h1 => exact puts_ok is os vs rs go (st.setSh h1 i) rl (fun a hm => hf a (List.mem_cons_of_mem _ hm)) ⟨q⟩
      · have e := big o (fun d e => hs ⟨d, e⟩) hg
        have q' : sRun K W g0 H0 D (putsL is os { s with sl := s.sl.set i (some (.pt s.ce.length)), ce := s.ce ++ [o] }) := by
          have z : sRun K W g0 H0 D (bnd (putSl i o) (fun _ => putsL is os) s) := q
          rw [bnd_ok e] at z; exact z
        refine puts_ok is os vs rs (go.setPt fun a ea => (hf a (by rw [ea]; exact List.mem_cons_self)).2) (st.setPt ro (fun a ea => (hf a (by rw [ea]; exact List.mem_cons_self)).1) i) rl (fun a hm => ⟨fun z => ?_, (hf a (List.mem_cons_of_mem _ hm)).2⟩) ⟨q'⟩
        rcases z with z | z
        · rcases List.mem_append.mp z with z | z
          · exact (hf a (List.mem_cons_of_mem _ hm)).1 (.inl z)
          · exact hd a (List.mem_singleton.mp z).symm hm
        · exact (hf a (List.mem_cons_of_mem _ hm)).1 (.inr z)
  | [], _ :: _, _, _, _, _, _, _, _, _, _, _, hk => hk.run.elim
  | _ :: _, [], _, _, _, _, _, _, _, _, _, _, hk => hk.run.elim
  | _ :: _, _ :: _, [], _, _, _, _, _, _, _, h, _, _ => nomatch h
  | _ :: _, _ :: _, _ :: _, [], _, _, _, _, _, _, h, _, _ => nomatch h
end
def mParO (is : List Nat) (m : M (List O)) : SM := bnd m fun os => putsL is os
section
variable {X : Cx} {W : WX} {pos : Pos}
theorem OwnL.len {K : PySem.W.Frag} {F H : Hp} {m : List Addr} {os : List O} {vs : List V} {rs : List (Option Addr)} (h : OwnL K F H m os vs rs) : os.length = vs.length := by
  induction h with
  | nil => rfl
  | cons _ _ _ ih => exact congrArg (· + 1) ih
theorem putsL_len {is : List Nat} {os : List O} : ∀ {s : S} {r}, putsL is os s = some r → is.length = os.length := by
  induction is generalizing os with
  | nil => cases os with
    | nil => intro s r _; rfl
    | cons o os => intro s r h; cases h
  | cons i is ih => cases os with
    | nil => intro s r h; cases h
    | cons o os =>
      intro s r h
      cases q : putSl i o s with
      | none => rw [putsL, bnd_no q] at h; cases h
      | some z => cases z with
        | ex x s1 => cases o <;> cases q
        | ok fl s1 => rw [putsL, bnd_ok q] at h; exact congrArg (· + 1) (ih h)
theorem vs_par2 {i j : Nat} {x y : Str} {a b : Expr} {px py pt : Pos} {kt k2 : Nat} {pt2 : Pos} {m : M (List O)} (hc : X.calm = true) (hN : X.N.Nodup) (hi : X.N[i]? = some x) (hj : X.N[j]? = some y) (hij : i ≠ j)
    (hx : X.env.scope.names.lookup x = some .local) (hy : X.env.scope.names.lookup y = some .local) (ha : VOs X W [a, b] m)
    (hw : swappedStores [.Tuple [.Name x px, .Name y py] kt pt] (.Tuple [a, b] k2 pt2) X.env = pure (some [x, y]))
    (hs : swapsWithSole [.Tuple [.Name x px, .Name y py] kt pt] (.Tuple [a, b] k2 pt2) pos.line X.env = pure false := by rfl) :
    VS X W (.Assign [.Tuple [.Name x px, .Name y py] kt pt] (.Tuple [a, b] k2 pt2) pos) (mParO [i, j] m) :=
  ps_imp (ps_par hc hN hi hj hij hx hy ha hw hs) fun D σ H ⟨g, s, st, q⟩ => seqX st (Go.refl g H) q fun os s1 vs H1 g1 _ go st1 r hk => by
    obtain ⟨rs, rl, hf⟩ := r
    have hl : [i, j].length = os.length := by
      cases z : putsL [i, j] os s1 with
      | none => have := hk.run; rw [z] at this; exact this.elim
      | some r => exact putsL_len z
    have hv := rl.len
    obtain ⟨v, w, rfl⟩ : ∃ v w, vs = [v, w] := by
      match vs, hv.symm.trans hl.symm with
      | [v, w], _ => exact ⟨v, w, rfl⟩
    exact ⟨v, w, rfl, puts_ok [i, j] os [v, w] rs go st1 rl hf hk⟩
theorem vs_par3o {i j l : Nat} {x y z : Str} {a b c : Expr} {px py pz pt : Pos} {kt k2 : Nat} {pt2 : Pos} {m : M (List O)} (hc : X.calm = true) (hN : X.N.Nodup) (hi : X.N[i]? = some x) (hj : X.N[j]? = some y) (hl : X.N[l]? = some z) (hij : i ≠ j) (hil : i ≠ l) (hjl : j ≠ l)
    (hx : X.env.scope.names.lookup x = some .local) (hy : X.env.scope.names.lookup y = some .local) (hz : X.env.scope.names.lookup z = some .local) (ha : VOs X W [a, b, c] m)
    (hw : swappedStores [.Tuple [.Name x px, .Name y py, .Name z pz] kt pt] (.Tuple [a, b, c] k2 pt2) X.env = pure (some [x, y, z]))
    (hs : swapsWithSole [.Tuple [.Name x px, .Name y py, .Name z pz] kt pt] (.Tuple [a, b, c] k2 pt2) pos.line X.env = pure false := by rfl) :
    VS X W (.Assign [.Tuple [.Name x px, .Name y py, .Name z pz] kt pt] (.Tuple [a, b, c] k2 pt2) pos) (mParO [i, j, l] m) :=
  ps_imp (ps_par3 hc hN hi hj hl hij hil hjl hx hy hz ha hw hs) fun D σ H ⟨g, s, st, q⟩ => seqX st (Go.refl g H) q fun os s1 vs H1 g1 _ go st1 r hk => by
    obtain ⟨rs, rl, hf⟩ := r
    have hl : [i, j, l].length = os.length := by
      cases z : putsL [i, j, l] os s1 with
      | none => have := hk.run; rw [z] at this; exact this.elim
      | some r => exact putsL_len z
    have hv := rl.len
    obtain ⟨u, v, w, rfl⟩ : ∃ u v w, vs = [u, v, w] := by
      match vs, hv.symm.trans hl.symm with
      | [u, v, w], _ => exact ⟨u, v, w, rfl⟩
    exact ⟨u, v, w, rfl, puts_ok [i, j, l] os [u, v, w] rs go st1 rl hf hk⟩
end
end Vs
namespace Vs
open PySem PySem.Spec PyProof.Rows L2
def zipD (xs ys : List D) : List D := (xs.zip ys).map fun p => .tup [p.1, p.2]
def mZip (m : M (List D)) : M (List D) := bnd m fun ds => look fun _ => match ds with
  | [x, y] => (lstD x).bind fun xs => (lstD y).map fun ys => zipD xs ys
  | _ => none
theorem lstD_fr {K : PySem.W.Frag} {F : Hp} {m : List Addr} {d : D} {ds : List D} {v : V} (r : Rep K F m d v) (e : lstD d = some ds) : ∃ p xs, v = .ref p ∧ SqL K F p xs ∧ RepL K F m ds xs := by
  unfold lstD at e
  split at e
  · cases e
    cases r with
    | lst h1 h2 => exact ⟨_, _, rfl, .inl (.inl h1), h2⟩
  · cases e
    cases r with
    | rl h1 h2 => exact ⟨_, _, rfl, h1, h2⟩
  · cases e
theorem zip_len {xs ys : List D} {us vs : List V} (h1 : xs.length = us.length) (h2 : ys.length = vs.length) : (zipD xs ys).length = min us.length vs.length := by
  unfold zipD; rw [List.length_map, List.length_zip, h1, h2]
theorem yl_zip {K : PySem.W.Frag} {g : Gh} {a b : Addr} {us vs : List V} {xs ys : List D} (s1 : SqL K g.F a us) (s2 : SqL K g.F b vs) (r1 : RepL K g.F g.m xs us) (r2 : RepL K g.F g.m ys vs) : Yl K g (zipD xs ys) (Itz K a b) := by
  intro g' H' sF sm sH i
  have q1 : SqL K H' a us := sH.sqL (sF.sqL s1)
  have q2 : SqL K H' b vs := sH.sqL (sF.sqL s2)
  have hl := zip_len r1.length r2.length
  refine ⟨fun hi => ?_, fun d x H'' hd y => ?_, fun hi => ?_⟩
  · have h1 : i < us.length := by omega
    have h2 : i < vs.length := by omega
    exact ⟨us, vs, us[i], vs[i], q1, q2, List.getElem?_eq_getElem h1, List.getElem?_eq_getElem h2⟩
  · obtain ⟨T, u, v, rfl, hT, rfl, f1, f2⟩ := y
    unfold zipD at hd
    rw [List.getElem?_map] at hd
    obtain ⟨p, hp, rfl⟩ := Option.map_eq_some_iff.mp hd
    obtain ⟨e1, e2⟩ := List.getElem?_zip_eq_some.mp hp
    obtain ⟨w1, k1, k2⟩ := r1.get e1
    obtain ⟨w2, k3, k4⟩ := r2.get e2
    have z1 := f1 us q1
    have z2 := f2 vs q2
    rw [k1] at z1
    rw [k3] at z2
    cases z1; cases z2
    exact .tup hT (.cons (k2.mono sF sm) (.cons (k4.mono sF sm) .nil))
  · refine ⟨us, vs, q1, q2, ?_⟩
    omega
section
variable {X : Cx} {W : WX} {tg e e2 : Expr} {p pos tpos : Pos} {elts : List Expr} {kk : Nat}
theorem vi_zip {m : M (List D)} (hg : Gl X "zip") (hm : X.mg "zip" = none) (h : VA X W [e, e2] m)
    (hs : starEach [e, e2] X.env = (false, eval e X.env) :: starEach [e2] X.env := by rfl) (hpl : (backTo pos (starEach [e2] X.env)).any (·.1) = false := by rfl) :
    VI X W (.Tuple elts kk tpos) (.Call (.Name "zip" p) [e, e2] [] pos) (mZip m) := by
  refine pi_imp (pi_zip hg hm h hs hpl) fun σ H R ⟨g, s, st, q⟩ => seq st (Go.refl g H) q fun ds s1 vs H1 g1 _ go st1 r hk => ?_
  obtain ⟨zs, hz, hk2⟩ := hk.lkR
  split at hz
  · rename_i x y
    obtain ⟨xs, h1, hz⟩ := Option.bind_eq_some_iff.mp hz
    obtain ⟨ys, h2, rfl⟩ := Option.map_eq_some_iff.mp hz
    cases r with
    | cons r1 r =>
      cases r with
      | cons r2 r =>
        cases r
        obtain ⟨a, us, rfl, s1', r1⟩ := lstD_fr r1 h1
        obtain ⟨b, vs, rfl, s2', r2⟩ := lstD_fr r2 h2
        exact ⟨a, b, us, vs, rfl, st1.sub.sqL s1', st1.sub.sqL s2', hk2.ret go st1 (yl_zip s1' s2' r1 r2)⟩
  · cases hz
end
end Vs
namespace Vs
open PySem PySem.Spec PyProof.Rows
section
/-- a zip on its way, its last pair still held -/
def ZSt (S z TI TO i1 i2 l1 l2 : Addr) (xs ys : Array Value) (i : Nat) (h : Heap) : Prop :=
  IsPair h TI (.ref i1) (.ref i2) ∧ h.IsListIter i1 l1 i ∧ h.IsListIter i2 l2 i ∧ h.IsList l1 xs ∧ h.IsList l2 ys ∧
    ((IsZip h z TI TO .none ∧ ∃ a b, IsPair h TO a b) ∨ ∃ T f oT, IsZipHeld h z TI TO T f ∧ h.get? T = some oT ∧ T ≠ z ∧ T ≠ i1 ∧ T ≠ i2 ∧ T ≠ S)
/-- the pairs made so far, each a new one -/
structure Made (base : Nat) (xs ys : Array Value) (Ts : List Addr) (h : Heap) : Prop where
  at_ : ∀ (j : Nat) (T : Addr), Ts[j]? = some T → ∃ x y, xs[j]? = some x ∧ ys[j]? = some y ∧ IsPair h T x y ∧ base ≤ T
  up : Ts.Pairwise (· < ·)
theorem Made.keep {base : Nat} {xs ys : Array Value} {Ts : List Addr} {h h' : Heap} (m : Made base xs ys Ts h) (k : ∀ T o, base ≤ T → h.get? T = some o → h'.get? T = some o) : Made base xs ys Ts h' :=
  ⟨fun j T e => by obtain ⟨x, y, h1, h2, h3, h4⟩ := m.at_ j T e; exact ⟨x, y, h1, h2, k _ _ h4 h3, h4⟩, m.up⟩
theorem ZSt.keep {S z TI TO i1 i2 l1 l2 : Addr} {xs ys : Array Value} {i : Nat} {h h' : Heap} (a : ZSt S z TI TO i1 i2 l1 l2 xs ys i h) (n : S ∉ [z, TI, TO, i1, i2, l1, l2]) (k : ∀ b o, b ≠ S → h.get? b = some o → h'.get? b = some o) : ZSt S z TI TO i1 i2 l1 l2 xs ys i h' := by
  simp only [List.mem_cons, List.not_mem_nil, or_false, not_or] at n
  obtain ⟨n1, n2, n3, n4, n5, n6, n7⟩ := n
  obtain ⟨hTI, h1, h2, hl1, hl2, hz⟩ := a
  refine ⟨k TI _ (Ne.symm n2) hTI, h1.at fun o e => k i1 o (Ne.symm n4) e, h2.at fun o e => k i2 o (Ne.symm n5) e, hl1.at fun o e => k l1 o (Ne.symm n6) e, hl2.at fun o e => k l2 o (Ne.symm n7) e, ?_⟩
  rcases hz with ⟨hz, a, b, hTO⟩ | ⟨T, f, oT, hz, hT, r1, r2, r3, r4⟩
  · exact .inl ⟨k z _ (Ne.symm n1) hz, a, b, k TO _ (Ne.symm n3) hTO⟩
  · exact .inr ⟨T, f, oT, k z _ (Ne.symm n1) hz, k T _ r4 hT, r1, r2, r3, r4⟩
theorem Made.snoc {base : Nat} {xs ys : Array Value} {Ts : List Addr} {h h' : Heap} {T : Addr} {x y : Value} (m : Made base xs ys Ts h) (k : ∀ T o, base ≤ T → h.get? T = some o → h'.get? T = some o) (hx : xs[Ts.length]? = some x) (hy : ys[Ts.length]? = some y) (hT : IsPair h' T x y) (hb : base ≤ T) (hn : ∀ t ∈ Ts, t < T) : Made base xs ys (Ts ++ [T]) h' := by
  refine ⟨fun j t e => ?_, ?_⟩
  · by_cases hj : j < Ts.length
    · rw [List.getElem?_append_left hj] at e
      exact (m.keep k).at_ j t e
    · rw [List.getElem?_append_right (by omega)] at e
      have e0 : j - Ts.length = 0 := by
        cases q : j - Ts.length with
        | zero => rfl
        | succ n => rw [q] at e; simp at e
      rw [e0] at e
      have et : T = t := by simpa using e
      subst et
      have ej : j = Ts.length := by omega
      subst ej
      exact ⟨x, y, hx, hy, hT, hb⟩
  · rw [List.pairwise_append]
    exact ⟨m.up, List.pairwise_singleton _ _, fun a ha b hb => by rw [List.mem_singleton] at hb; subst hb; exact hn a ha⟩
theorem Made.lt {base : Nat} {xs ys : Array Value} {Ts : List Addr} {h : Heap} (m : Made base xs ys Ts h) {t : Addr} (ht : t ∈ Ts) : t < h.objs.size := by
  obtain ⟨j, hj⟩ := List.getElem?_of_mem ht
  obtain ⟨x, y, _, _, h3, _⟩ := m.at_ j t hj
  exact Heap.lt_size h3
variable {prog : Program} {w : World} {A : Around} {E : Value → Shared → Prop}
theorem zip_go {s : Shared} {S z TI TO i1 i2 l1 l2 : Addr} {xs ys : Array Value} {i : Nat} {x y : Value} {Q : Option Value → Shared → Prop} (D : ZipApart z TI TO i1 i2 l1 l2) (hS : S < s.heap.objs.size) (hst : ZSt S z TI TO i1 i2 l1 l2 xs ys i s.heap) (ex : xs[i]? = some x) (ey : ys[i]? = some y)
    (hQ : ∀ h' : Heap, ZSt S z TI TO i1 i2 l1 l2 xs ys (i + 1) h' → IsPair h' s.heap.objs.size x y → h'.objs.size = s.heap.objs.size + 1 → (∀ b o, b ∉ [z, TO, i1, i2] → s.heap.get? b = some o → h'.get? b = some o) → Q (some (.ref s.heap.objs.size)) { s with heap := h' }) :
    wpAny (model prog w) A (pyNext (.ref z)) Q E s := by
  obtain ⟨hTI, h1, h2, hl1, hl2, hz⟩ := hst
  have lt : ∀ {c o}, s.heap.get? c = some o → s.heap.objs.size ≠ c := fun e => Nat.ne_of_gt (Heap.lt_size e)
  have n1 : s.heap.objs.size ≠ i1 := let ⟨_, e, _⟩ := h1; lt e
  have n2 : s.heap.objs.size ≠ i2 := let ⟨_, e, _⟩ := h2; lt e
  have nS : s.heap.objs.size ≠ S := Nat.ne_of_gt hS
  rcases hz with ⟨hz, a, b, hTO⟩ | ⟨T, f, oT, hz, hT, r1, r2, r3, r4⟩
  · refine wpAny_pyNext_zip_item D hz hTI hTO h1 h2 hl1 hl2 ex ey fun h' a1 a2 a3 a4 a5 a6 hk => ?_
    refine hQ h' ⟨hk _ _ D.TIz D.TITO D.TIi1 D.TIi2 hTI, a3, a4, hl1.at fun o e => hk l1 o D.l1z D.l1TO D.l1i1 D.l1i2 e, hl2.at fun o e => hk l2 o D.l2z D.l2TO D.l2i1 D.l2i2 e, .inr ⟨s.heap.objs.size, false, _, a1, a5, lt hz, n1, n2, nS⟩⟩ a5 a6 fun c o hc e => ?_
    simp only [List.mem_cons, List.not_mem_nil, or_false, not_or] at hc
    exact hk c o hc.1 hc.2.1 hc.2.2.1 hc.2.2.2 e
  · refine wpAny_pyNext_zip_item_held D hz hT hTI h1 h2 hl1 hl2 ex ey fun h' a1 a3 a4 a5 a6 hk => ?_
    refine hQ h' ⟨hk _ _ D.TIz D.TIi1 D.TIi2 hTI, a3, a4, hl1.at fun o e => hk l1 o D.l1z D.l1i1 D.l1i2 e, hl2.at fun o e => hk l2 o D.l2z D.l2i1 D.l2i2 e, .inr ⟨T, true, oT, a1, hk _ _ r1 r2 r3 hT, r1, r2, r3, r4⟩⟩ a5 a6 fun c o hc e => ?_
    simp only [List.mem_cons, List.not_mem_nil, or_false, not_or] at hc
    exact hk c o hc.1 hc.2.2.1 hc.2.2.2 e
theorem zip_stop {s : Shared} {S z TI TO i1 i2 l1 l2 : Addr} {xs ys : Array Value} {i : Nat} {Q : Option Value → Shared → Prop} (hh : A.handled = none) (D : ZipApart z TI TO i1 i2 l1 l2) (hst : ZSt S z TI TO i1 i2 l1 l2 xs ys i s.heap) (hend : xs[i]? = none ∨ ys[i]? = none)
    (hQ : ∀ h' : Heap, (∀ b o, b ∉ [z, TO, i1, i2] → s.heap.get? b = some o → h'.get? b = some o) → Q none { s with heap := h' }) :
    wpAny (model prog w) A (pyNext (.ref z)) Q E s := by
  obtain ⟨hTI, h1, h2, hl1, hl2, hz⟩ := hst
  rcases hz with ⟨hz, a, b, hTO⟩ | ⟨T, f, oT, hz, hT, r1, r2, r3, r4⟩
  · refine wpAny_pyNext_zip_end hh D hz hTI hTO h1 h2 hl1 hl2 hend fun h' hk => hQ h' fun c o hc e => ?_
    simp only [List.mem_cons, List.not_mem_nil, or_false, not_or] at hc
    exact hk c o hc.1 hc.2.1 hc.2.2.1 hc.2.2.2 e
  · refine wpAny_pyNext_zip_end_held hh D hz hT hTI h1 h2 hl1 hl2 hend fun h' hk => hQ h' fun c o hc e => ?_
    simp only [List.mem_cons, List.not_mem_nil, or_false, not_or] at hc
    exact hk c o hc.1 hc.2.2.1 hc.2.2.2 e
abbrev lsObj (Ts : List Addr) (c : Nat) : Obj := { cls := .type "list", dict := none, data := .seq (Ts.map Value.ref).toArray c, slots := #[] }
theorem zloop {R : Result → Shared → Prop} {S z TI TO i1 i2 l1 l2 : Addr} {xs ys : Array Value} {base : Nat} {res : Value} (hh : A.handled = none) (D : ZipApart z TI TO i1 i2 l1 l2) (hS : S ∉ [z, TI, TO, i1, i2, l1, l2])
    (hb : z < base ∧ TO < base ∧ i1 < base ∧ i2 < base ∧ S < base) (hn : min xs.size ys.size ≤ sizeLine) :
    ∀ (k i : Nat) (s : Shared) (Ts : List Addr) (c : Nat), min xs.size ys.size - i = k → i ≤ min xs.size ys.size → ZSt S z TI TO i1 i2 l1 l2 xs ys i s.heap → s.heap.get? S = some (lsObj Ts c) → Ts.length = i → Made base xs ys Ts s.heap → base ≤ s.heap.objs.size →
      (∀ (h' : Heap) (Ts' : List Addr) (c' : Nat), (∀ b o, b ∉ [S, z, TO, i1, i2] → s.heap.get? b = some o → h'.get? b = some o) → h'.get? S = some (lsObj Ts' c') → Ts'.length = min xs.size ys.size → Made base xs ys Ts' h' → R (.ok (.ret res)) { s with heap := h' }) →
      codeAny (model prog w) A (.builtin "list.extend.loop" ⟨[.ref S, .ref z, res], []⟩) R s := by
  have hS' := hS
  simp only [List.mem_cons, List.not_mem_nil, or_false, not_or] at hS'
  obtain ⟨Sz, STI, STO, Si1, Si2, Sl1, Sl2⟩ := hS'
  have nS : S ∉ [z, TO, i1, i2] := by simp only [List.mem_cons, List.not_mem_nil, or_false, not_or]; exact ⟨Sz, STO, Si1, Si2⟩
  have big : ∀ b : Addr, base ≤ b → b ∉ [z, TO, i1, i2] ∧ b ≠ S := fun b hb' => by
    simp only [List.mem_cons, List.not_mem_nil, or_false, not_or]
    exact ⟨⟨Nat.ne_of_gt (Nat.lt_of_lt_of_le hb.1 hb'), Nat.ne_of_gt (Nat.lt_of_lt_of_le hb.2.1 hb'), Nat.ne_of_gt (Nat.lt_of_lt_of_le hb.2.2.1 hb'), Nat.ne_of_gt (Nat.lt_of_lt_of_le hb.2.2.2.1 hb')⟩, Nat.ne_of_gt (Nat.lt_of_lt_of_le hb.2.2.2.2 hb')⟩
  intro k
  induction k with
  | zero =>
    intro i s Ts c hk hi hst hL hl hm hbs hR
    have ei : i = min xs.size ys.size := by omega
    subst ei
    have hend : xs[min xs.size ys.size]? = none ∨ ys[min xs.size ys.size]? = none := by
      by_cases h : xs.size ≤ ys.size
      · exact .inl (Array.getElem?_eq_none (by omega))
      · exact .inr (Array.getElem?_eq_none (by omega))
    refine codeAny_builtin F.entry_extend_loop ?_; rw [Around.under_plainId F.plain_extend_loop _]
    show wpAny (model prog w) A.in1 (pyNext (.ref z) >>= _) _ _ s
    refine wpAny_bind (zip_stop (A := A.in1) hh D hst hend fun h' hk' => wpAny_pure ?_)
    refine hR h' Ts c (fun b o hb' e => hk' b o (fun z => hb' (List.mem_cons_of_mem _ z)) e) (hk' S _ nS hL) hl (hm.keep fun T o hT e => hk' T o (big T hT).1 e)
  | succ k ih =>
    intro i s Ts c hk hi hst hL hl hm hbs hR
    have hlt : i < min xs.size ys.size := by omega
    have hix : i < xs.size := by omega
    have hiy : i < ys.size := by omega
    have ex := Array.getElem?_eq_getElem hix
    have ey := Array.getElem?_eq_getElem hiy
    refine codeAny_builtin F.entry_extend_loop ?_; rw [Around.under_plainId F.plain_extend_loop _]
    show wpAny (model prog w) A.in1 (pyNext (.ref z) >>= _) _ _ s
    refine wpAny_bind (zip_go (A := A.in1) D (Heap.lt_size hL) hst ex ey fun h' hst' hT hz' hk' => ?_)
    have hL' := hk' S _ nS hL
    show wpAny (model prog w) A.in1 (updateSeq S (·.push (.ref s.heap.objs.size)) >>= _) _ _ { s with heap := h' }
    refine wpAny_bind ?_
    have hup := Heap.get?_update_self (Obj.mapSeq (·.push (Value.ref s.heap.objs.size))) hL' rfl
    have hoth : ∀ b o, b ≠ S → h'.get? b = some o → (h'.update S (Obj.mapSeq (·.push (Value.ref s.heap.objs.size)))).get? b = some o := fun b o hb' e => (Heap.get?_update_other _ _ (Ne.symm hb')).trans e
    have eTs : (Ts.map Value.ref).toArray.push (Value.ref s.heap.objs.size) = ((Ts ++ [s.heap.objs.size]).map Value.ref).toArray := by simp
    refine wpAny_updateSeq (s := { s with heap := h' }) hL' rfl (wpAny_pure ⟨plainId_quiet F.plain_extend_loop _, ih (i + 1) { s with heap := h'.update S (Obj.mapSeq (·.push (Value.ref s.heap.objs.size))) } (Ts ++ [s.heap.objs.size]) (c + 1) (by omega) hlt (hst'.keep hS hoth) ?_ (by simp; omega) ?_ ?_ fun h'' Ts' c' k1 k2 k3 k4 => ?_⟩)
      (by simp only [List.size_toArray, List.length_map]; omega) (by simp only [Array.size_push, List.size_toArray, List.length_map]; omega)
    · show (h'.update S _).get? S = _
      rw [hup]
      simp [Obj.mapSeq, lsObj]
    · refine (hm.snoc (fun T o hT e => hk' T o (big T hT).1 e) (by rw [hl]; exact ex) (by rw [hl]; exact ey) hT hbs fun t ht => hm.lt ht).keep fun T o hT e => hoth T o (big T hT).2 e
    · show base ≤ (h'.update S _).objs.size
      have : (h'.update S (Obj.mapSeq (·.push (Value.ref s.heap.objs.size)))).objs.size = h'.objs.size := Heap.size_update ..
      omega
    · refine hR h'' Ts' c' (fun b o hb' e => ?_) k2 k3 k4
      have n1 : b ≠ S := fun z => hb' (z ▸ List.mem_cons_self)
      exact k1 b o hb' (hoth b o n1 (hk' b o (fun z => hb' (List.mem_cons_of_mem _ z)) e))
end
end Vs
namespace Vs
open PySem PySem.Spec PyProof.Rows
section
theorem zip_nolen : typeLookup (.type "zip") "__len__" = pure none := am_miss_of_fast (by decide +kernel)
theorem zip_nohint : typeLookup (.type "zip") "__length_hint__" = pure none := am_miss_of_fast (by decide +kernel)
variable {prog : Program} {w : World} {A : Around} {E : Value → Shared → Prop}
/-- a zip that was just made -/
structure Zip0 (h : Heap) (z TI TO i1 i2 l1 l2 : Addr) (xs ys : Array Value) : Prop where
  z : IsZip h z TI TO .none
  ti : IsPair h TI (.ref i1) (.ref i2)
  to : ∃ a b, IsPair h TO a b
  a1 : h.IsListIter i1 l1 0
  a2 : h.IsListIter i2 l2 0
  b1 : h.IsList l1 xs
  b2 : h.IsList l2 ys
theorem collect_zip {s : Shared} {z TI TO i1 i2 l1 l2 : Addr} {xs ys : Array Value} {Q : List Value → Shared → Prop} (hh : A.handled = none) (D : ZipApart z TI TO i1 i2 l1 l2) (h0 : Zip0 s.heap z TI TO i1 i2 l1 l2 xs ys) (hn : min xs.size ys.size ≤ sizeLine)
    (hQ : ∀ (h' : Heap) (Ts : List Addr), (∀ b o, b ∉ [z, TO, i1, i2] → s.heap.get? b = some o → h'.get? b = some o) → Ts.length = min xs.size ys.size → Made s.heap.objs.size xs ys Ts h' → Q (Ts.map .ref) { s with heap := h' }) :
    wpAny (model prog w) A (collect (.ref z)) Q E s := by
  have lz := Heap.lt_size h0.z
  have lTI := Heap.lt_size h0.ti
  obtain ⟨ta, tb, hTO⟩ := h0.to
  have lTO := Heap.lt_size hTO
  have li1 : i1 < s.heap.objs.size := let ⟨_, e, _⟩ := h0.a1; Heap.lt_size e
  have li2 : i2 < s.heap.objs.size := let ⟨_, e, _⟩ := h0.a2; Heap.lt_size e
  have ll1 : l1 < s.heap.objs.size := let ⟨_, e, _⟩ := h0.b1; Heap.lt_size e
  have ll2 : l2 < s.heap.objs.size := let ⟨_, e, _⟩ := h0.b2; Heap.lt_size e
  have hS : s.heap.objs.size ∉ [z, TI, TO, i1, i2, l1, l2] := by
    simp only [List.mem_cons, List.not_mem_nil, or_false, not_or]
    exact ⟨Nat.ne_of_gt lz, Nat.ne_of_gt lTI, Nat.ne_of_gt lTO, Nat.ne_of_gt li1, Nat.ne_of_gt li2, Nat.ne_of_gt ll1, Nat.ne_of_gt ll2⟩
  unfold collect
  refine wpAny_bind (wpAny_runValue (codeAny_builtin F.entry_proto_collect ?_)); rw [Around.under_plainId F.plain_proto_collect _]
  show wpAny (model prog w) A.in1 (newList [] >>= fun l' => again (.builtin "list.__iadd__" ⟨[l', .ref z], []⟩)) _ _ s
  refine wpAny_bind (wpAny_newObj_type ?_); refine wpAny_pure ⟨plainId_quiet F.plain_list_iadd _, codeAny_builtin F.entry_list_iadd ?_⟩
  rw [Around.under_plainId F.plain_list_iadd _]; generalize hh0 : s.heap.push { cls := .type "list", data := .seq ([] : List Value).toArray } = h1
  have hL : h1.get? s.heap.objs.size = some (lsObj [] 0) := by rw [← hh0]; exact Heap.get?_push_size _ rfl
  have hk1 : ∀ b o, s.heap.get? b = some o → h1.get? b = some o := fun b o e => by rw [← hh0]; exact Heap.get?_push_of_some _ e
  have hsz : h1.objs.size = s.heap.objs.size + 1 := by rw [← hh0]; exact Heap.size_push ..
  have hz1 : IsZip h1 z TI TO .none := hk1 _ _ h0.z
  have hT : ({ s with heap := h1 } : Shared).TypeIs (.ref z) "zip" := ⟨_, hz1, rfl⟩
  have hsame : Builtin.List.listSameRef (.ref s.heap.objs.size) (.ref z) = false := by simp [Builtin.List.listSameRef]; exact Nat.ne_of_gt lz
  show wpAny (model prog w) A.in1 (Builtin.List.listExtendWith (.ref s.heap.objs.size) (.ref z) (.ref s.heap.objs.size)) _ _ { s with heap := h1 }
  unfold Builtin.List.listExtendWith
  refine wpAny_bind (wpAny_typeOf hT ?_); rw [if_neg (by rw [hsame]; decide)]
  refine wpAny_bind (wpAny_pyIter_zip (s := { s with heap := h1 }) hz1 ?_); refine wpAny_bind (wpAny_holding ?_)
  unfold Builtin.List.listLengthHint
  refine wpAny_bind (wpAny_specialOf hT zip_nolen ?_)
  show wpAny (model prog w) A.in1 (specialOf (Value.ref z) (Str.ofString "__length_hint__") >>= _) _ _ { s with heap := h1 }
  refine wpAny_bind (wpAny_specialOf hT zip_nohint ?_); refine wpAny_pure ?_
  rw [if_pos (Bool.true_or _)]
  refine wpAny_bind (wpAny_rule ?_); refine wpAny_bind ?_
  show wpAny (model prog w) A.in1 (updateSeq s.heap.objs.size (·.push .none) >>= fun _ => updateSeq s.heap.objs.size (·.pop)) _ _ { s with heap := h1 }
  refine wpAny_bind (wpAny_updateSeq (s := { s with heap := h1 }) hL rfl ?_)
  have u1 := Heap.get?_update_self (Obj.mapSeq (·.push Value.none)) hL rfl
  refine wpAny_updateSeq (s := { s with heap := h1.update s.heap.objs.size (Obj.mapSeq (·.push Value.none)) }) u1 rfl ?_
  have u2 := Heap.get?_update_self (Obj.mapSeq (·.pop)) u1 rfl
  have oth : ∀ b o, b ≠ s.heap.objs.size → h1.get? b = some o → ((h1.update s.heap.objs.size (Obj.mapSeq (·.push Value.none))).update s.heap.objs.size (Obj.mapSeq (·.pop))).get? b = some o := fun b o hb e =>
    (Heap.get?_update_other _ _ (Ne.symm hb)).trans ((Heap.get?_update_other _ _ (Ne.symm hb)).trans e)
  have hsz2 : ((h1.update s.heap.objs.size (Obj.mapSeq (·.push Value.none))).update s.heap.objs.size (Obj.mapSeq (·.pop))).objs.size = s.heap.objs.size + 1 := by rw [Heap.size_update, Heap.size_update, hsz]
  revert u2 oth hsz2; generalize ((h1.update s.heap.objs.size (Obj.mapSeq (·.push Value.none))).update s.heap.objs.size (Obj.mapSeq (·.pop))) = h2; intro u2 oth hsz2
  have hL2 : h2.get? s.heap.objs.size = some (lsObj [] 2) := u2
  have hk2 : ∀ b o, s.heap.get? b = some o → h2.get? b = some o := fun b o e => oth b o (Nat.ne_of_lt (Heap.lt_size e)) (hk1 b o e)
  refine wpAny_pure ⟨plainId_quiet F.plain_extend_loop _, zloop (A := A) (base := s.heap.objs.size + 1) (S := s.heap.objs.size) hh D hS ⟨Nat.lt_succ_of_lt lz, Nat.lt_succ_of_lt lTO, Nat.lt_succ_of_lt li1, Nat.lt_succ_of_lt li2, Nat.lt_succ_self _⟩ hn _ 0 { s with heap := h2 } [] 2 rfl (Nat.zero_le _)
    ⟨hk2 _ _ h0.ti, h0.a1.at fun o e => hk2 _ o e, h0.a2.at fun o e => hk2 _ o e, h0.b1.at fun o e => hk2 _ o e, h0.b2.at fun o e => hk2 _ o e, .inl ⟨hk2 _ _ h0.z, ta, tb, hk2 _ _ hTO⟩⟩ hL2 rfl ⟨fun j T e => by simp at e, List.Pairwise.nil⟩ (Nat.le_of_eq hsz2.symm) fun h' Ts c k1 k2 k3 k4 => ?_⟩
  show wpAny (model prog w) A (load s.heap.objs.size >>= _) _ _ { s with heap := h' }
  refine wpAny_bind (wpAny_load k2 ?_); refine wpAny_pure ?_
  have fin := hQ h' Ts (fun b o hb e => k1 b o (fun m => ?_) (hk2 b o e)) k3 ⟨fun j T e => ?_, k4.up⟩
  · simpa using fin
  · rcases List.mem_cons.mp m with rfl | m
    · exact Nat.lt_irrefl _ (Heap.lt_size e)
    · exact hb m
  · obtain ⟨x, y, q1, q2, q3, q4⟩ := k4.at_ j T e
    exact ⟨x, y, q1, q2, q3, Nat.le_of_succ_le q4⟩
theorem code_tuple_zip {s : Shared} {z TI TO i1 i2 l1 l2 : Addr} {xs ys : Array Value} {Q₁ : Value → Shared → Prop} (hh : A.handled = none) (D : ZipApart z TI TO i1 i2 l1 l2) (h0 : Zip0 s.heap z TI TO i1 i2 l1 l2 xs ys) (hn : min xs.size ys.size ≤ sizeLine)
    (h : ∀ (h' : Heap) (Ts : List Addr), (∀ b o, b ∉ [z, TO, i1, i2] → s.heap.get? b = some o → h'.get? b = some o) → Ts.length = min xs.size ys.size → Made s.heap.objs.size xs ys Ts h' →
      Q₁ (.ref h'.objs.size) { s with heap := h'.push { cls := .type "tuple", data := .seq (Ts.map Value.ref).toArray } }) :
    codeAny (model prog w) A (.call (.builtin "tuple.__new__") ⟨[.type "tuple", .ref z], []⟩) (wants Q₁ E) s := by
  refine codeAny_of_tree ?_
  show wpAny (model prog w) A.in1 (do checkBuiltinCall "tuple.__new__" ⟨[.type "tuple", .ref z], []⟩; again (.builtin "tuple.__new__" ⟨[.type "tuple", .ref z], []⟩)) _ _ s
  refine wpAny_bind (wpAny_of_eq (F.newCall_tuple_1 _) (wpAny_pure ⟨plainId_quiet F.plain_tuple_new _, codeAny_builtin F.entry_tuple_new ?_⟩)); rw [Around.under_plainId F.plain_tuple_new _]
  have hsub := sub_tuple_self; have hinit := init_tuple_lookup; have hmh := madeHere_tuple
  have hTI : s.TypeIs (.ref z) "zip" := ⟨_, h0.z, rfl⟩
  have hh1 : A.in1.handled = none := hh
  wp_walk using wpAny_typeOf hTI, collect_zip (A := A.in1) hh1 D h0 hn
  intro h' Ts hk hl hm
  show wpAny (model prog w) _ (Builtin.Tuple.tupleExact (Ts.map Value.ref).toArray >>= fun v => PySem.ret v) _ _ { s with heap := h' }
  unfold Builtin.Tuple.tupleExact
  refine wpAny_bind (wpAny_newObj_type ?_ (by show (Ts.map Value.ref).toArray.size ≤ sizeLine; rw [List.size_toArray, List.length_map]; omega)); exact wpAny_pure (h h' Ts hk hl hm)
theorem call_tuple_zip {s : Shared} {z TI TO i1 i2 l1 l2 : Addr} {xs ys : Array Value} {Q : Value → Shared → Prop} (hh : A.handled = none) (D : ZipApart z TI TO i1 i2 l1 l2) (h0 : Zip0 s.heap z TI TO i1 i2 l1 l2 xs ys) (hn : min xs.size ys.size ≤ sizeLine)
    (h : ∀ (h' : Heap) (Ts : List Addr), (∀ b o, b ∉ [z, TO, i1, i2] → s.heap.get? b = some o → h'.get? b = some o) → Ts.length = min xs.size ys.size → Made s.heap.objs.size xs ys Ts h' →
      Q (.ref h'.objs.size) { s with heap := h'.push { cls := .type "tuple", data := .seq (Ts.map Value.ref).toArray } }) :
    wpAny (model prog w) A (call (.type "tuple") [.ref z]) Q E s := by
  refine callType_codes (Q₁ := fun obj s₁ => s₁.TypeIs obj "tuple" ∧ Q obj s₁) F.called_tuple (F.typeCall_tuple_1 _) F.entry_object_init
    (code_tuple_zip (A := A.in1) hh D h0 hn fun h' Ts hk hl hm => ⟨⟨_, Heap.get?_push_size _ rfl, rfl⟩, h h' Ts hk hl hm⟩) fun obj s₁ h₁ => ?_
  exact ⟨h₁.1, F.args_object_init_2 obj _, object_init_meets F.called_tuple.init.lookup F.called_tuple.made (by decide) prog w A.in1 _ s₁ ⟨h₁.1, rfl, h₁.2⟩⟩
end
end Vs
namespace Vs
open PySem PySem.Spec PyProof.Rows L2
section
variable {X : Cx} {pins : List (Addr × Obj)} {σ : L2.St} {H H' : Hp} {s : Shared} {h' : Heap}
/-- records of ours have turned, and new objects are laid, as many as are told -/
theorem turnedAll {t' : Nat} {ch : List Addr} (I : Inv X pins σ H s) (k : ∀ b o, b ∉ ch → s.heap.get? b = some o → h'.get? b = some o) (hf : ∀ b ∈ ch, FpOk X pins H b) (ext : ∀ b o, H b = some o → H' b = some o)
    (fresh : ∀ b o, H b = none → H' b = some o → s.heap.objs.size ≤ b) (new : ∀ b o, H b = none → H' b = some o → ObjOk X.prog X.w H' h' b o) : Inv X pins σ H' { s with heap := h', toks := t' } := by
  have out : ∀ b u, H b = some u → b ∉ ch := fun b u e z => by
    rw [(hf b z).1] at e; cases e
  refine I.step (g' := s.gens) (d' := s.drawn) (ch := ch) (fun b hb => have q := hf b hb; ⟨q.2.2.2.1, q.2.1, q.2.2.2.2.1, q.2.2.2.2.2⟩) (fun b o _ _ hc e _ => k b o hc e) (fun b o _ _ hc e _ => ⟨o.slots, by rw [k b o hc e]⟩)
    (fun b o _ e n => ?_) (fun b o hc e => ⟨o, k b o hc e⟩) (fun b xs e => ext b _ e) (fun b o u e => ext b _ e) (fun b ps e => ⟨#[], by rw [ext b _ e]; simp⟩) (fun m hm => ?_) (fun b u e => ?_) I.bare
  · cases q : H' b with
    | none => rfl
    | some o' => exact absurd (Nat.lt_of_lt_of_le (Heap.lt_size e) (fresh b o' n q)) (Nat.lt_irrefl _)
  · obtain ⟨o, es, ep, ho, r⟩ := hm
    exact ⟨o, es, ep, k _ o (fun z => (hf _ z).2.1 rfl) ho, r⟩
  · cases q : H b with
    | none => exact new b u q e
    | some v =>
      have ev := ext b v q
      rw [e] at ev; cases ev
      refine (I.hok b u q).stay (fun c w hc p => k c w ?_ p) (fun c p => ext c _ p) fun c xs p => ext c _ p
      rcases hc with z | z
      · rw [z]; exact out b u q
      · exact out c _ z
end
def updL (H : Hp) : List (Addr × HO) → Hp
  | [] => H
  | (a, o) :: r => updL (upd H a o) r
theorem updL_out {b : Addr} : ∀ (l : List (Addr × HO)) (H : Hp), b ∉ l.map (·.1) → updL H l b = H b
  | [], H, _ => rfl
  | (a, o) :: r, H, hb => by
    rw [List.map_cons, List.mem_cons, not_or] at hb
    show updL (upd H a o) r b = H b
    rw [updL_out r _ hb.2, upd_ne hb.1]
theorem updL_in {b : Addr} {u : HO} : ∀ (l : List (Addr × HO)) (H : Hp), (l.map (·.1)).Nodup → (b, u) ∈ l → updL H l b = some u
  | (a, o) :: r, H, nd, hm => by
    rw [List.map_cons, List.nodup_cons] at nd
    rcases List.mem_cons.mp hm with e | hm
    · cases e
      show updL (upd H b u) r b = some u
      rw [updL_out r _ nd.1, upd_same]
    · exact updL_in r _ nd.2 hm
theorem updL_mem {b : Addr} {u : HO} : ∀ (l : List (Addr × HO)) (H : Hp), H b = none → updL H l b = some u → (b, u) ∈ l ∨ b ∈ l.map (·.1)
  | [], H, hn, e => by rw [show updL H [] b = H b from rfl, hn] at e; cases e
  | (a, o) :: r, H, hn, e => by
    by_cases hb : b ∈ ((a, o) :: r).map (·.1)
    · exact .inr hb
    · rw [updL_out _ _ hb, hn] at e; cases e
/-- the new pairs, laid -/
def pairsL (Ts : List Addr) (us ws : List V) : List (Addr × HO) := Ts.zip ((us.zip ws).map fun p => .tup [p.1, p.2])
theorem pairsL_fst {Ts : List Addr} {us ws : List V} (h : Ts.length = min us.length ws.length) : (pairsL Ts us ws).map (·.1) = Ts := by
  unfold pairsL
  rw [List.map_fst_zip]
  rw [List.length_map, List.length_zip, h]
  exact Nat.le_refl _
def tTupZip (K : PySem.W.Frag) (ta : TA) : TE := fun σ H Q => ta σ H fun vs H1 => ∃ a b us ws, vs = [.ref a, .ref b] ∧ SqL K H1 a us ∧ SqL K H1 b ws ∧ ∀ (Ts : List Addr) (p : Addr), Ts.length = min us.length ws.length → Ts.Nodup → (∀ T ∈ Ts, H1 T = none) → p ∉ Ts → H1 p = none →
  Q (.ref p) (upd (updL H1 (pairsL Ts us ws)) p (.tup (Ts.map V.ref)))
theorem vals_refs : ∀ Ts : List Addr, Vals (Ts.map V.ref) (Ts.map Value.ref)
  | [] => .nil
  | T :: Ts => .cons rfl (vals_refs Ts)
section
variable {X : Cx} {e e2 : Expr} {ta : TA} {p p2 pos pos2 : Pos}
theorem pe_tupzip (hc : X.calm = true) (hg : Gl X "zip") (hm : X.mg "zip" = none) (hgT : Gl X "tuple") (hmT : X.mg "tuple" = none) (ha : PA X [e, e2] ta)
    (hs : starEach [e, e2] X.env = (false, eval e X.env) :: starEach [e2] X.env := by rfl) (hpl : (backTo pos2 (starEach [e2] X.env)).any (·.1) = false := by rfl)
    (hs1 : starEach [.Call (.Name "zip" p2) [e, e2] [] pos2] X.env = (false, eval (.Call (.Name "zip" p2) [e, e2] [] pos2) X.env) :: starEach [] X.env := by rfl) (hpl1 : (backTo pos (starEach [] X.env)).any (·.1) = false := by rfl) :
    PE X (.Call (.Name "tuple" p) [.Call (.Name "zip" p2) [e, e2] [] pos2] [] pos) (tTupZip X.K ta) := by
  refine ⟨fun pins s σ H Q I h => ?_⟩
  refine Call_ (ld_blt I hgT hmT PyProof.Rows.boot_tuple (PyProof.Rows.callWith_type1 ?_ hs1 hpl1))
  rw [hs1]
  show wpAny _ _ (spliced ((false, eval (.Call (.Name "zip" p2) [e, e2] [] pos2) X.env) :: backTo pos (starEach [] X.env))) _ _ s
  refine Calls.spliced_cons ?_
  refine Call_ (ld_blt I hg hm PyProof.Rows.boot_zip (PyProof.Rows.callWith_type1 (thn (ha.run pos2 pins s σ H _ I h) fun us s1 ⟨vs, H1, I1, r1, q1⟩ => ?_) hs hpl))
  obtain ⟨a, b, xs, ys, ex, hqx, hqy, q⟩ := q1
  subst ex
  cases r1 with
  | cons r rr => cases rr with
    | cons r' rr =>
      cases rr; cases r; cases r'
      obtain ⟨its, rv, p1, z1⟩ := I1.list hqx
      obtain ⟨its2, rv2, p2', z2⟩ := I1.list hqy
      have la : a < s1.heap.objs.size := p1.lt
      have lb : b < s1.heap.objs.size := p2'.lt
      refine call_zip_2 p1.isList p2'.isList fun h' hz hTI hTO h1 h2 hsz hk => ?_
      refine Calls.spliced_nil ?_
      have I2 : Inv X pins σ H1 { s1 with heap := h' } := I1.kept (t' := s1.toks) hk
      have D := PySem.W.ktu_apart s1.heap.objs.size a b la lb
      have lx := rv.length
      have ly := rv2.length
      have hmn : min its.toArray.size its2.toArray.size ≤ sizeLine := by simp only [List.size_toArray]; omega
      refine call_tuple_zip (s := { s1 with heap := h' }) (I2.ok.hd hc) D ⟨hz, hTI, ⟨_, _, hTO⟩, h1, h2, p1.isList.at fun o e => hk _ o e, p2'.isList.at fun o e => hk _ o e⟩ hmn fun h2' Ts k2 hl mk => ?_
      have hl' : Ts.length = min xs.length ys.length := by rw [hl, lx, ly]; simp
      have nd : Ts.Nodup := mk.up.imp fun h => Nat.ne_of_lt h
      have hge : ∀ T ∈ Ts, h'.objs.size ≤ T := fun T hT => by
        obtain ⟨j, hj⟩ := List.getElem?_of_mem hT
        obtain ⟨_, _, _, _, _, q⟩ := mk.at_ j T hj
        exact q
      have hfst := pairsL_fst (us := xs) (ws := ys) hl'
      have I3 : Inv X pins σ (updL H1 (pairsL Ts xs ys)) { s1 with heap := h2' } := by
        refine turnedAll (s := { s1 with heap := h' }) (t' := s1.toks) (ch := [s1.heap.objs.size + 4, s1.heap.objs.size + 3, s1.heap.objs.size, s1.heap.objs.size + 1]) I2 k2 (fun c hcm => ?_) (fun c o e => ?_) (fun c o n e => ?_) fun c o n e => ?_
        · have e' : c = s1.heap.objs.size + 4 ∨ c = s1.heap.objs.size + 3 ∨ c = s1.heap.objs.size ∨ c = s1.heap.objs.size + 1 := by simpa using hcm
          have hle : s1.heap.objs.size ≤ c := by
            rcases e' with z | z | z | z
            · rw [z]; exact Nat.le_add_right _ _
            · rw [z]; exact Nat.le_add_right _ _
            · rw [z]; exact Nat.le_refl _
            · rw [z]; exact Nat.le_add_right _ _
          exact I1.fpOk hle (I1.hok.fresh hle)
        · rw [updL_out _ _ (by rw [hfst]; exact fun z => by have := I2.hok.fresh (hge c z); rw [e] at this; cases this)]; exact e
        · by_cases hc' : c ∈ Ts
          · exact hge c hc'
          · rw [updL_out _ _ (by rw [hfst]; exact hc'), n] at e; cases e
        · have hc' : c ∈ Ts := Classical.byContradiction fun z => by rw [updL_out _ _ (by rw [hfst]; exact z), n] at e; cases e
          obtain ⟨j, hj⟩ := List.getElem?_of_mem hc'
          have hjl : j < Ts.length := (List.getElem?_eq_some_iff.mp hj).1
          obtain ⟨u, v, e1, e2, hpair, _⟩ := mk.at_ j c hj
          have jx : j < xs.length := by omega
          have jy : j < ys.length := by omega
          obtain ⟨u', hu, ru⟩ := rv.get (List.getElem?_eq_getElem jx)
          obtain ⟨v', hv, rvv⟩ := rv2.get (List.getElem?_eq_getElem jy)
          have eu : u' = u := by have := hu.symm.trans (by simpa using e1); exact Option.some.inj this
          have ev : v' = v := by have := hv.symm.trans (by simpa using e2); exact Option.some.inj this
          subst eu; subst ev
          have hm' : (c, HO.tup [xs[j], ys[j]]) ∈ pairsL Ts xs ys := by
            refine List.mem_of_getElem? (i := j) ?_
            unfold pairsL
            rw [List.getElem?_zip_eq_some]
            refine ⟨hj, ?_⟩
            have ez : (xs.zip ys)[j]? = some (xs[j], ys[j]) := List.getElem?_zip_eq_some.mpr ⟨List.getElem?_eq_getElem jx, List.getElem?_eq_getElem jy⟩
            rw [List.getElem?_map, ez]
            rfl
          rw [updL_in _ _ (by rw [hfst]; exact nd) hm'] at e
          cases e
          exact ⟨by show 2 ≤ sizeLine; decide, [u', v'], .cons ru (.cons rvv .nil), ⟨_, hpair, rfl, _, rfl⟩⟩
      have hp3 : updL H1 (pairsL Ts xs ys) h2'.objs.size = none := I3.hok.fresh (Nat.le_refl _)
      have hpT : h2'.objs.size ∉ Ts := fun z => by
        obtain ⟨j, hj⟩ := List.getElem?_of_mem z
        obtain ⟨_, _, _, _, q, _⟩ := mk.at_ j _ hj
        exact Nat.lt_irrefl _ (Heap.lt_size q)
      refine ⟨.ref h2'.objs.size, _, I3.laid (t' := s1.toks) (o := .tup (Ts.map V.ref)) (fun b u e => Heap.get?_push_of_some _ e) (Nat.le_refl _) ⟨by rw [List.length_map, hl']; omega, Ts.map Value.ref, vals_refs Ts, ⟨_, Heap.get?_push_size _ rfl, rfl, _, rfl⟩⟩, rfl, ?_⟩
      refine q Ts _ hl' nd (fun T hT => I2.hok.fresh (hge T hT)) hpT ?_
      rw [← updL_out (pairsL Ts xs ys) H1 (by rw [hfst]; exact hpT)]; exact hp3
end
end Vs
namespace Vs
open PySem PySem.Spec PyProof.Rows L2
theorem lay_pairs {K : PySem.W.Frag} {s : S} {σ : L2.St} : ∀ (Ts : List Addr) (us ws : List V) (xs ys : List D) (g : Gh) (H : Hp), St K g s σ H → RepL K g.F g.m xs us → RepL K g.F g.m ys ws → Ts.length = min us.length ws.length → Ts.Nodup → (∀ T ∈ Ts, H T = none) →
    ∃ g', Go g H g' (updL H (pairsL Ts us ws)) ∧ St K g' s σ (updL H (pairsL Ts us ws)) ∧ RepL K g'.F g'.m (zipD xs ys) (Ts.map V.ref)
  | [], us, ws, xs, ys, g, H, st, rx, ry, hl, _, _ => by
    refine ⟨g, Go.refl g H, st, ?_⟩
    have h1 := rx.length
    have h2 := ry.length
    have hz : zipD xs ys = [] := by
      refine List.eq_nil_of_length_eq_zero ?_
      rw [zip_len h1 h2, ← hl]; rfl
    rw [hz]; exact .nil
  | T :: Ts, us, ws, xs, ys, g, H, st, rx, ry, hl, nd, hT => by
    rw [List.length_cons] at hl
    cases rx with
    | nil => simp at hl
    | @cons x u xs us r1 rx =>
      cases ry with
      | nil => simp at hl
      | @cons y w ys ws r2 ry =>
        simp only [List.length_cons] at hl
        rw [List.nodup_cons] at nd
        obtain ⟨g1, go1, st1, r, ro, _⟩ := (Mk.tup (H := H) (m := g.m) (hT T List.mem_cons_self) (.cons r1 (.cons r2 .nil))).done st (Go.refl g H)
        cases ro with
        | sh ro =>
          obtain ⟨g2, go2, st2, rl⟩ := lay_pairs Ts us ws xs ys g1 _ st1 (rx.go go1) (ry.go go1) (by omega) nd.2 (fun t ht => by rw [upd_ne (fun e : t = T => nd.1 (by rw [← e]; exact ht))]; exact hT t (List.mem_cons_of_mem _ ht))
          exact ⟨g2, go1.trans go2, st2, .cons (ro.go go2) rl⟩
def mTupZip (m : M (List D)) : M D := bnd m fun ds => look fun _ => match ds with
  | [x, y] => (lstD x).bind fun xs => (lstD y).map fun ys => .tup (zipD xs ys)
  | _ => none
section
variable {X : Cx} {W : WX} {e e2 : Expr} {p p2 pos pos2 : Pos}
theorem vd_tupzip {m : M (List D)} (hc : X.calm = true) (hg : Gl X "zip") (hm : X.mg "zip" = none) (hgT : Gl X "tuple") (hmT : X.mg "tuple" = none) (h : VA X W [e, e2] m)
    (hs : starEach [e, e2] X.env = (false, eval e X.env) :: starEach [e2] X.env := by rfl) (hpl : (backTo pos2 (starEach [e2] X.env)).any (·.1) = false := by rfl)
    (hs1 : starEach [.Call (.Name "zip" p2) [e, e2] [] pos2] X.env = (false, eval (.Call (.Name "zip" p2) [e, e2] [] pos2) X.env) :: starEach [] X.env := by rfl) (hpl1 : (backTo pos (starEach [] X.env)).any (·.1) = false := by rfl) :
    VD X W (.Call (.Name "tuple" p) [.Call (.Name "zip" p2) [e, e2] [] pos2] [] pos) (mTupZip m) :=
  pe_imp (pe_tupzip hc hg hm hgT hmT h hs hpl hs1 hpl1) fun σ H Q ⟨g, s, st, q⟩ => seq st (Go.refl g H) q fun ds s1 vs H1 g1 _ go st1 r hk => by
    obtain ⟨zs, hz, hk2⟩ := hk.lkR
    split at hz
    · rename_i x y
      obtain ⟨xs, h1, hz⟩ := Option.bind_eq_some_iff.mp hz
      obtain ⟨ys, h2, rfl⟩ := Option.map_eq_some_iff.mp hz
      cases r with
      | cons r1 r =>
        cases r with
        | cons r2 r =>
          cases r
          obtain ⟨a, us, rfl, s1', r1⟩ := lstD_fr r1 h1
          obtain ⟨b, ws, rfl, s2', r2⟩ := lstD_fr r2 h2
          refine ⟨a, b, us, ws, rfl, st1.sub.sqL s1', st1.sub.sqL s2', fun Ts p hl nd hT hp hp1 => ?_⟩
          obtain ⟨g2, go2, st2, rl⟩ := lay_pairs Ts us ws xs ys g1 H1 st1 r1 r2 hl nd hT
          have hpn : updL H1 (pairsL Ts us ws) p = none := by rw [updL_out _ _ (by rw [pairsL_fst hl]; exact hp)]; exact hp1
          obtain ⟨g3, go3, st3, _, ro, _⟩ := (Mk.tup (m := g2.m) hpn rl).done st2 (Go.refl g2 _)
          cases ro with
          | sh ro => exact hk2.ret (go.trans (go2.trans go3)) st3 ro
    · cases hz
end
end Vs
namespace Vs
open PySem PySem.Spec PyProof.Rows L2
def leS (a b : Str) : Bool := !ltCps b.cps.toList a.cps.toList
theorem leS_iff {a b : Str} : leS a b = true ↔ a.cps.toList ≤ b.cps.toList := by
  unfold leS; rw [ltCps_eq]; simp [List.not_lt]
theorem leS_trans {a b c : Str} (h : leS a b = true) (g : leS b c = true) : leS a c = true := by
  rw [leS_iff] at *; exact List.le_trans h g
theorem leS_total (a b : Str) : (leS a b || leS b a) = true := by
  rw [Bool.or_eq_true, leS_iff, leS_iff]; exact List.le_total _ _
theorem leS_anti {a b : Str} (h : leS a b = true) (g : leS b a = true) : a = b := by
  rw [leS_iff] at *
  have e := List.le_antisymm h g
  cases a; cases b
  simp only at e
  rw [Array.toList_inj] at e
  rw [e]
def sortS (xs : List Str) : List Str := xs.mergeSort leS
theorem risingS_pw : ∀ (p : Str) (l : List Str), risingS p l = true → (∀ x ∈ l, leS p x = true) ∧ l.Pairwise (fun a b => leS a b = true)
  | _, [], _ => ⟨fun x h => (nomatch h), .nil⟩
  | p, x :: r, h => by
    have h' : (leS p x && risingS x r) = true := h
    rw [Bool.and_eq_true] at h'
    obtain ⟨h1, h2⟩ := risingS_pw x r h'.2
    refine ⟨fun y hy => ?_, .cons (fun y hy => h1 y hy) h2⟩
    rcases List.mem_cons.mp hy with rfl | hy
    · exact h'.1
    · exact leS_trans h'.1 (h1 y hy)
theorem sortedS_pw {l : List Str} (h : sortedS l = true) : l.Pairwise (fun a b => leS a b = true) := by
  cases l with
  | nil => exact .nil
  | cons x r => exact .cons (risingS_pw x r h).1 (risingS_pw x r h).2
theorem sortS_pw (xs : List Str) : (sortS xs).Pairwise (fun a b => leS a b = true) := List.pairwise_mergeSort (le := leS) (fun a b c h g => leS_trans h g) leS_total xs
theorem sortS_perm (xs : List Str) : (sortS xs).Perm xs := List.mergeSort_perm xs leS
theorem sortS_uniq {ys xs : List Str} (hp : ys.Perm xs) (hs : sortedS ys = true) : ys = sortS xs :=
  List.Perm.eq_of_pairwise (le := fun a b => leS a b = true) (fun a b _ _ h g => leS_anti h g) (sortedS_pw hs) (sortS_pw xs) (hp.trans (sortS_perm xs).symm)
theorem repl_strs {K : PySem.W.Frag} {G : Hp} {m : List Addr} : ∀ xs : List Str, RepL K G m (xs.map .str) (xs.map V.str)
  | [] => .nil
  | x :: xs => .cons (.str x) (repl_strs xs)
def fSorted : List D → Option O
  | [d] => ((lstD d).bind strsD).bind fun xs => if xs.length < 64 then some (.ol ((sortS xs).map .str)) else none
  | _ => none
theorem sorted_of {K : PySem.W.Frag} : OpN K (rSortedS K) fSorted := fun F H m ds o vs sb e rs Q k => by
  unfold fSorted at e
  split at e
  · obtain ⟨xs, h1, h2⟩ := Option.bind_eq_some_iff.mp e
    obtain ⟨es, h3, h4⟩ := Option.bind_eq_some_iff.mp h1
    split at h2
    · rename_i hz
      cases h2
      obtain ⟨v, rfl, r⟩ := rs.one
      obtain ⟨p, ys, rfl, h5, h6⟩ := lstD_ok sb r h3
      have ey := strsD_ok h6 h4
      subst ey
      refine ⟨p, xs, rfl, h5, hz, fun zs q hp hs hn => ?_⟩
      rw [sortS_uniq hp hs]
      exact k _ _ (.ol hn (repl_strs _))
    · cases h2
  · cases e
theorem bt_sorted : bootBuiltins "sorted" = some (.builtin "sorted") := by decide +kernel
theorem bt_zip : bootBuiltins "zip" = some (.type "zip") := by decide +kernel
end Vs
namespace Vs
open PySem PySem.Spec PyProof.Rows L2
section
variable {X : Cx} {W : WX} {o e f a : Expr} {es : List Expr} {apos cpos p pos : Pos} {ma : M (List D)}
theorem vf_popAt (i : Nat) (ho : PE X o (tVar i)) (ha : VA X W [e] ma)
    (hbase : attributeBase o "pop" X.env (eval o X.env) = eval o X.env := by rfl)
    (hfew : ((backTo cpos (starEach [e] X.env)).all (fun x => !x.1) && (backToKw cpos (keywordEach [] X.env)).all (fun x => x.1.isSome)
      && decide ([e].length + ([] : List Keyword).length + (if ([] : List Keyword).isEmpty then 0 else 1) < 30)) = true := by rfl)
    (hline : (apos.endLine == cpos.line) = true := by rfl) (hs' : starEach [e] X.env = (false, eval e X.env) :: starEach [] X.env := by rfl) (hplain : (backTo cpos (starEach [] X.env)).any (·.1) = false := by rfl) :
    VF X W (.Call (.Attribute o "pop" apos) [e] [] cpos) (mMeL i fPopAt ma) := vf_meL i popAt_of PySem.F.slot_list_pop PySem.F.type_list_pop mt_popAt ho ha hbase hfew hline hs' hplain
theorem vf_sorted {mr : M (List Ref)} (hm : X.mg "sorted" = none) (ha : VAr X W (a :: es) mr) (hg : Gl X "sorted" := by rfl) (he : starEach (a :: es) X.env = (false, eval a X.env) :: starEach es X.env := by rfl) (hpl : (backTo pos (starEach es X.env)).any (·.1) = false := by rfl) :
    VF X W (.Call (.Name "sorted" p) (a :: es) [] pos) (opN fSorted mr) := vf_callB cr_sortedS sorted_of hg hm bt_sorted ha (by decide) (by decide) he hpl
end
/-- the pairs that a list of tuples is -/
def pairD : D → Option (Key × D)
  | .tup [k, v] => (keyD k).map fun x => (x, v)
  | _ => none
def pairsD : List D → Option (List (Key × D))
  | [] => some []
  | d :: r => (pairD d).bind fun p => (pairsD r).map fun ps => p :: ps
def fDict : List D → Option O
  | [d] => ((lstD d).bind pairsD).map fun kvs => .ok (mergeD [] kvs)
  | _ => none
theorem pairsD_ok {K : PySem.W.Frag} {G : Hp} {m : List Addr} : ∀ {ds : List D} {vs : List V} {kvs : List (Key × D)}, RepL K G m ds vs → pairsD ds = some kvs → ∃ (ps : List Addr) (xs : List (Key × V)), vs = ps.map V.ref ∧ Paired (fun p kv => SqT K G p [kV kv.1, kv.2]) ps xs ∧ RepP K G m kvs xs
  | _, _, _, .nil, e => by cases e; exact ⟨[], [], rfl, .nil, .nil⟩
  | d :: _, _, _, .cons h r, e => by
    obtain ⟨kv, e1, e⟩ := Option.bind_eq_some_iff.mp (show (pairD d).bind _ = _ from e)
    obtain ⟨kvs, e2, e3⟩ := Option.map_eq_some_iff.mp e
    subst e3
    obtain ⟨ps, xs, rfl, h1, h2⟩ := pairsD_ok r e2
    unfold pairD at e1
    split at e1
    · rename_i k v
      obtain ⟨kk, e4, e5⟩ := Option.map_eq_some_iff.mp e1
      subst e5
      cases h with
      | tup g1 g2 =>
        cases g2 with
        | cons r1 g2 =>
          cases g2 with
          | cons r2 g2 =>
            cases g2
            have ek := keyD_ok r1 e4
            subst ek
            exact ⟨_ :: ps, (kk, _) :: xs, rfl, .cons (.inl (.inl g1)) h1, .cons r2 h2⟩
    · cases e1
theorem paired_sub {K : PySem.W.Frag} {F H : Hp} (s : Sub F H) : ∀ {ps : List Addr} {xs : List (Key × V)}, Paired (fun p kv => SqT K F p [kV kv.1, kv.2]) ps xs → Paired (fun p kv => SqT K H p [kV kv.1, kv.2]) ps xs
  | _, _, .nil => .nil
  | _, _, .cons h r => .cons (s.sqT h) (paired_sub s r)
theorem dict_of {K : PySem.W.Frag} : OpN K (fun xs H Q => ∃ (a : Addr) (ps : List Addr) (kvs : List (Key × V)), xs = [.ref a] ∧ SqL K H a (ps.map V.ref) ∧ Paired (fun p kv => SqT K H p [kV kv.1, kv.2]) ps kvs ∧ ∀ p, H p = none → Q (.ref p) (upd H p (.dK (mergeK [] kvs)))) fDict := fun F H m ds o vs sb e rs Q k => by
  unfold fDict at e
  split at e
  · obtain ⟨kvs, h1, h2⟩ := Option.map_eq_some_iff.mp e
    subst h2
    obtain ⟨es, h3, h4⟩ := Option.bind_eq_some_iff.mp h1
    obtain ⟨v, rfl, r⟩ := rs.one
    obtain ⟨a, ys, rfl, h5, h6⟩ := lstD_ok sb r h3
    obtain ⟨ps, xs, rfl, h7, h8⟩ := pairsD_ok h6 h4
    exact ⟨a, ps, xs, rfl, h5, paired_sub sb h7, fun p hp => k _ _ (.ok hp (RepP.merge h8 .nil))⟩
  · cases e
section
variable {X : Cx} {W : WX} {o e f a : Expr} {es : List Expr} {apos cpos p pos : Pos} {ma mb : M Ref} {mc : M D}
theorem vf_dictP {mr : M (List Ref)} (hc : X.calm = true) (hm : X.mg "dict" = none) (ha : VAr X W (a :: es) mr) (hg : Gl X "dict" := by rfl) (he : starEach (a :: es) X.env = (false, eval a X.env) :: starEach es X.env := by rfl) (hpl : (backTo pos (starEach es X.env)).any (·.1) = false := by rfl) :
    VF X W (.Call (.Name "dict" p) (a :: es) [] pos) (opN fDict mr) := vf_callTy (call_dictP hc) dict_of hg hm bt_dict ha (by decide) (by decide) he hpl
def isDict : D → Option Unit
  | .dk _ => some ()
  | .dt _ => some ()
  | _ => none
theorem isDict_ok {K : PySem.W.Frag} {F H : Hp} {m : List Addr} {x : D} {v : V} (sb : Sub F H) (r : RepT K F H m x v) (e : isDict x = some ()) : ∃ a, v = .ref a ∧ IsD H a := by
  unfold isDict at e
  split at e
  · obtain ⟨a, xs, rfl, h1, _⟩ := r.dk_ sb; exact ⟨a, rfl, .inl ⟨xs, h1⟩⟩
  · obtain ⟨a, xs, rfl, h1, _⟩ := r.dt_ sb; exact ⟨a, rfl, .inr ⟨xs, h1⟩⟩
  · cases e
def getOr (x y c : D) : Option O := (getD x y).map fun o => .sh (o.getD c)
def mGet2 (ma mb : M Ref) (mc : M D) : M O := bnd ma fun r => bnd (look fun s => (view s r).bind isDict) fun _ => bnd mb fun q => bnd mc fun c => look fun s => (view s r).bind fun x => (view s q).bind fun y => getOr x y c
theorem vf_get2 (hu : X.A.units + 1 < cLine) (ha : VR X W o ma) (hb : VR X W e mb) (hc : VD X W f mc) (m : M2 X o "get" apos e f cpos := by exact ⟨rfl, rfl, rfl, rfl⟩) : VF X W (.Call (.Attribute o "get" apos) [e, f] [] cpos) (mGet2 ma mb mc) :=
  pe_imp (pe_dget2 hu ha hb hc m) fun σ H Q ⟨g, s, st, q⟩ => seq st (Go.refl g H) q fun r s1 v H1 g1 _ go st1 rr hk => by
    obtain ⟨_, h1, hk⟩ := hk.lk
    obtain ⟨x0, hx0, hd0⟩ := Option.bind_eq_some_iff.mp h1
    obtain ⟨a, rfl, hD⟩ := isDict_ok st1.sub (view_t st1 (Go.refl g1 H1) rr hx0) hd0
    refine ⟨a, rfl, hD, seq st1 go hk fun q s2 u H2 g2 go12 go2 st2 rr2 hk2 => seq st2 go2 hk2 fun c s3 z H3 g3 go23 go3 st3 rc hk3 => ?_⟩
    obtain ⟨w, h2, h3⟩ := hk3.lkR
    obtain ⟨x, hx, hf⟩ := Option.bind_eq_some_iff.mp h2
    obtain ⟨y, hy, hf⟩ := Option.bind_eq_some_iff.mp hf
    obtain ⟨od, hd, rfl⟩ := Option.map_eq_some_iff.mp hf
    obtain ⟨a', ov, ea, k1, _, k3⟩ := getD_ok st3.sub (view_t st3 (go12.trans go23) rr hx) (view_t st3 go23 rr2 hy) hd
    cases ea
    rcases k3 with ⟨rfl, rfl⟩ | ⟨d', w, rfl, rfl, z3⟩
    · exact ⟨none, k1, h3.ret (v := z) go3 st3 ⟨none, .sh rc, fun a e => nomatch e⟩⟩
    · exact ⟨some w, k1, h3.ret (v := w) go3 st3 ⟨none, .sh z3, fun a e => nomatch e⟩⟩
def mGet1 (ma mb : M Ref) : M O := bnd ma fun r => bnd (look fun s => (view s r).bind isDict) fun _ => bnd mb fun q => look fun s => (view s r).bind fun x => (view s q).bind fun y => getOr x y .non
theorem vf_get1 (hu : X.A.units + 1 < cLine) (ha : VR X W o ma) (hb : VR X W e mb) (m : M1 X o "get" apos e cpos := by exact ⟨rfl, rfl, rfl, rfl⟩) : VF X W (.Call (.Attribute o "get" apos) [e] [] cpos) (mGet1 ma mb) :=
  pe_imp (pe_dget1 hu ha hb m) fun σ H Q ⟨g, s, st, q⟩ => seq st (Go.refl g H) q fun r s1 v H1 g1 _ go st1 rr hk => by
    obtain ⟨_, h1, hk⟩ := hk.lk
    obtain ⟨x0, hx0, hd0⟩ := Option.bind_eq_some_iff.mp h1
    obtain ⟨a, rfl, hD⟩ := isDict_ok st1.sub (view_t st1 (Go.refl g1 H1) rr hx0) hd0
    refine ⟨a, rfl, hD, seq st1 go hk fun q s2 u H2 g2 go12 go2 st2 rr2 hk3 => ?_⟩
    obtain ⟨w, h2, h3⟩ := hk3.lkR
    obtain ⟨x, hx, hf⟩ := Option.bind_eq_some_iff.mp h2
    obtain ⟨y, hy, hf⟩ := Option.bind_eq_some_iff.mp hf
    obtain ⟨od, hd, rfl⟩ := Option.map_eq_some_iff.mp hf
    obtain ⟨a', ov, ea, k1, _, k3⟩ := getD_ok st2.sub (view_t st2 go12 rr hx) (view_t st2 (Go.refl g2 H2) rr2 hy) hd
    cases ea
    rcases k3 with ⟨rfl, rfl⟩ | ⟨d', w, rfl, rfl, z3⟩
    · exact ⟨none, k1, h3.ret (v := .non) go2 st2 ⟨none, .sh .non, fun a e => nomatch e⟩⟩
    · exact ⟨some w, k1, h3.ret (v := w) go2 st2 ⟨none, .sh z3, fun a e => nomatch e⟩⟩
end
end Vs
namespace Vs
open PySem PySem.Spec PyProof.Rows L2
/-- where the keyword default x of a def stands -/
def kwAt (f : Str × Option Str) (x : Str) (K : PySem.W.Frag) : Addr := match K.lookup (He.fAd K f) with
  | some ⟨_, _, .func fd, _⟩ => (match fd.kwdefaults with
    | .ref D => (match PySem.W.nsIn K D x with
      | some (some (.ref T)) => T
      | _ => 0)
    | _ => 0)
  | _ => 0
def empB (p : PySem.W.Frag → Addr) (K : PySem.W.Frag) : Bool := match K.lookup (p K) with
  | some ⟨.type c, _, .seq its _, _⟩ => decide (c = "tuple") && decide (its.size = 0)
  | _ => false
theorem empB_ok {p : PySem.W.Frag → Addr} {K : PySem.W.Frag} (h : empB p K = true) (H : Hp) : SqT K H (p K) [] := by
  unfold empB at h
  split at h
  · rename_i c d its n sl q
    rw [Bool.and_eq_true] at h
    have h1 : c = "tuple" := of_decide_eq_true h.1
    have h2 : its.size = 0 := of_decide_eq_true h.2
    have h3 : its.toList = [] := List.eq_nil_of_length_eq_zero (by rw [Array.length_toList]; exact h2)
    exact .inr ⟨_, its, n, q, by rw [h1], rfl, by rw [h2]; exact Nat.zero_le _, by rw [h3]; exact .nil⟩
  · cases h
def permD {α : Type} (perm : List Nat) (dd rs zs : List α) : List α := permG perm rs (zs ++ dd)
/-- defaults at their values, whatever the moment -/
def DdOk (K : PySem.W.Frag) (dd : List Ref) (dvs : List V) : Prop := ∀ (g : Gh) (σ : L2.St), RefsOk K g σ dd dvs
theorem dd_nil {K : PySem.W.Frag} : DdOk K [] [] := fun _ _ => .nil
theorem dd_emp {K : PySem.W.Frag} {a : Addr} {dd : List Ref} {dvs : List V} (h : ∀ H, SqT K H a []) (r : DdOk K dd dvs) : DdOk K (.va (.ct []) :: dd) (.ref a :: dvs) := fun g σ => .cons (.ct (h g.F) .nil) (r g σ)
theorem permD_ok {K : PySem.W.Frag} {n m N k : Nat} {perm : List Nat} {dd : List Ref} {dvs : List V} (hd : DdOk K dd dvs) (hk : dvs.length = k := by rfl) (h : perm.all (· < m + k) = true := by decide) (hN : n + perm.length = N := by rfl) : GOk K n m N (permD perm dd) (permD perm dvs) := fun g σ rs zs vs us l1 l2 r1 r2 => by
  have r3 := refs_app' r2 (hd g σ)
  refine ⟨refs_app' r1 (pick_refs r3 perm), ?_⟩
  unfold permD permG
  rw [List.length_append, pick_len fun i hi => ?_, ← refs_len r1, l1]
  · exact hN
  · have := List.all_eq_true.mp h i hi
    rw [List.length_append, ← refs_len r2, l2, hk]
    simpa using this
structure DefKd (P : Program) (w : World) (K : PySem.W.Frag) (mg : Str → Option Value) (base : Heap) (f : Addr) (k : Nat) (ps : List Str) (N : Nat) (F : Fn) (n : Nat) (ks : List Str) (perm : List Nat) (dvs : List V) : Prop where
  ex : ∃ fd gA, FnOk P w K mg base (L2.CX P w) k f fd ps (spOf K N F) ∧ KBn K fd ps n ks gA (permD perm dvs)
  kp : PySem.W.keepIn K (.ref f) = true
theorem kb_d {K : PySem.W.Frag} {x qual : Str} {params : Arguments} {body : List Stmt} {scope : Scope} {kws : List (Str × V)} {f : Addr} {fd : FuncData} {ps : List Str} (F : FunD K x qual params body scope [] kws f fd) (n : Nat) (ks : List Str) (perm : List Nat) (ms : List (Str × V)) (hk : kws ≠ []) (hms : ∀ q ∈ ms, q ∈ kws)
    (h : ∀ (D : Addr) (doc pm : Value) (an : Option Addr) (cdv ct : Value) (us mv ws : List Value), us.length = n → mv.length = ms.length → ws.length = ks.length → KwChain D ((ms.map (·.1)).zip mv) (bindArgs (PySem.W.fnOf x qual params body scope .none (.ref D) doc pm an cdv ct) ⟨us, ks.zip ws⟩) (ps.zip (permD perm mv us ws))) :
    ∃ gA, KBn K fd ps n ks gA (permD perm (ms.map (·.2))) := by
  obtain ⟨mv, hb⟩ := FunD.kbinds0 F n ks ms (fun us mv ws => permD perm mv us ws) hk hms (fun r1 r2 r3 => by
    exact r1.append (pick_vals (r3.append r2) perm)) h
  exact ⟨_, hb⟩
end Vs
namespace Vs
open PySem PySem.Spec PyProof.Rows L2
open MeetsSeq MeetsSeq2 MeetsSeq3 SeqRoads2
section
variable {prog : Program} {w : World} {A : Around} {s : Shared} {E : Value → Shared → Prop}
theorem eqBool_odd {it : Value} {a : Addr} {Q : Bool → Shared → Prop} (hne : (it == Value.ref a) = false) (hf : ∀ p q, it ≠ .float p q) (h : wpAny (model prog w) A (richCompare .Eq it (.ref a)) (fun v s' => ∃ r, v = .bool r ∧ Q r s') E s) :
    wpAny (model prog w) A (eqBool it (.ref a)) Q E s := by
  unfold eqBool
  refine wpAny_holding ?_
  refine wpAny_ite_split (fun hab => absurd hab (by rw [hne]; decide)) (fun _ => ?_)
  cases it <;> first
    | exact absurd rfl (hf _ _)
    | (refine wpAny_bind (wpAny_mono h (fun v s' hv => ?_) fun _ _ x => x)
       obtain ⟨r, rfl, q⟩ := hv
       exact wpAny_truthy_bool q)
end
section
variable {prog : Program} {w : World} {A : Around} {R : Result → Shared → Prop}
theorem contains_oneG {l : Addr} {items : Array Value} {it x : Value} {n : Nat} {s : Shared} (i0 : items[Int.toNat 0]? = some it) (hl : s.heap.get? l = some { cls := .type "list", data := .seq items n })
    (turn : wpAny (model prog w) A.in1 (eqBool it x) (fun r s' => if r = true then R (.ok (.ret (.bool true))) s' else (∃ items' k, items'[Int.toNat 1]? = none ∧ s'.heap.get? l = some { cls := .type "list", data := .seq items' k }) ∧ R (.ok (.ret (.bool false))) s') (fun e s' => R (.error e) s') s) :
    wpAny (model prog w) A.in1 (Builtin.«list.__contains__» ⟨[.ref l, x], []⟩) (GQ.FinOf prog w A R) (fun e s' => R (.error e) s') s := by
  have second : ∀ s' : Shared, (∃ items' k, items'[Int.toNat 1]? = none ∧ s'.heap.get? l = some { cls := .type "list", data := .seq items' k }) → R (.ok (.ret (.bool false))) s' → wpAny (model prog w) A.in1 (Builtin.«list.__contains__.loop» ⟨[.ref l, x, rawInt 1], []⟩) (GQ.FinOf prog w A R) (fun e s' => R (.error e) s') s' := by
    rintro s' ⟨items', k, i1', hk⟩ hR
    obtain ⟨hp, g, d, tk, os⟩ := s'
    wp_walk using AutoSeq1.wpAny_loadPart' hk
    rw [i1']
    wp_walk
    exact hR
  have first : wpAny (model prog w) A.in1 (Builtin.«list.__contains__.loop» ⟨[.ref l, x, rawInt 0], []⟩) (GQ.FinOf prog w A R) (fun e s' => R (.error e) s') s := by
    obtain ⟨hp, g, d, tk, os⟩ := s
    wp_walk using AutoSeq1.wpAny_loadPart' hl
    rw [i0]
    refine wpAny_bind (wpAny_mono turn (fun r s2 h2 => ?_) fun _ _ x => x)
    cases r with
    | true =>
      rw [if_pos rfl] at h2
      obtain ⟨hp2, g2, d2, tk2, os2⟩ := s2
      wp_walk
      exact h2
    | false =>
      rw [if_neg Bool.false_ne_true] at h2
      have hrec := second s2 h2.1 h2.2
      obtain ⟨hp2, g2, d2, tk2, os2⟩ := s2
      wp_walk
      exact ⟨plainId_quiet plain_contains_loop _, codeAny_builtin entry_contains_loop (by
        rw [Around.under_plainId plain_contains_loop _]
        exact hrec)⟩
  obtain ⟨hp, g, d, tk, os⟩ := s
  wp_walk using AutoSeq1.wpAny_loadPart' hl
  exact ⟨plainId_quiet plain_contains_loop _, codeAny_builtin entry_contains_loop (by
    rw [Around.under_plainId plain_contains_loop _]
    exact first)⟩
end
section
variable {X : Cx} {n : Nat} {c : Str} {f : Addr} {F : Fn} {E : XK} {A : Around} {pins : List (Addr × Obj)} {s : Shared} {σ : L2.St} {H : Hp}
def rInOdd (K : PySem.W.Frag) (c : Str) (F : Fn) (E : XK) : R2 := fun x y H Q => ∃ a p z dx fs, x = .ref a ∧ y = .ref p ∧ H p = some (.lst [z]) ∧ H a = some (.ins (He.ga K c) dx fs) ∧ z ≠ .ref a ∧ (∃ G m d T, Sub G H ∧ RepT K G H m d z ∧ tyD d = some T) ∧
  spOf K 2 F [.ref a, z] H (fun r H' => ∃ b, r = .bl b ∧ Q (.bl b) H' ∧ H' p = some (.lst [z])) E
theorem opr_inOdd (G : Eqs X n c f F E) (ec : EqC X.K c) (hr : Room (n + 2) X.A) : OpR X (compareOp .In) (rInOdd X.K c F E) := by
  intro pins s σ H x y v u Q I rx ry h
  obtain ⟨a, p, z, dx, fs, rfl, rfl, hp, ha, hza, hz, h2⟩ := h
  cases rx
  cases ry
  obtain ⟨_, its, k, r, hl⟩ := (show ObjOk X.prog X.w H s.heap p (.lst [z]) from I.hok p _ hp)
  cases r with
  | @cons _ it _ _ rz r2 =>
    cases r2
    have lst_at : ∀ (H' : Hp) (s' : Shared), Inv X pins σ H' s' → H' p = some (.lst [z]) → ∃ it' k, RelV z it' ∧ s'.heap.get? p = some { cls := .type "list", data := .seq #[it'] k } := fun H' s' I' e => by
      obtain ⟨_, its, k, r, e2⟩ := (show ObjOk X.prog X.w H' s'.heap p (.lst [z]) from I'.hok p _ e)
      cases r with
      | cons r1 r2 =>
        cases r2
        exact ⟨_, k, r1, e2⟩
    show wpAny _ X.A (do return .bool (← contains (.ref p) (.ref a))) (EP X pins σ Q) X.xe s
    have sbx : L2.Sub X (n + 2) X.A := ⟨hr, rfl⟩
    have hne : (it == Value.ref a) = false := by
      cases q : it == Value.ref a with
      | false => rfl
      | true =>
        have e := eq_of_beq q
        subst e
        cases z with
        | ref b =>
          have : Value.ref a = Value.ref b := rz
          cases this
          exact absurd rfl hza
        | _ => first | (obtain ⟨t, e⟩ := rz; cases e) | cases rz
    have hf : ∀ p q, it ≠ .float p q := fun p q e => by
      subst e
      obtain ⟨G0, m, d, T, sb, rt, et⟩ := hz
      have rr := rt.rep sb
      cases z with
      | flt b => cases rr
      | _ => first | (obtain ⟨t, e⟩ := rz; cases e) | cases rz
    refine wpAny_bind (wpAny_contains_slot (show s.TypeIs (.ref p) "list" from ⟨_, hl, rfl⟩) PySem.F.slot_list_contains (GQ.call_here PySem.F.slot_list_contains ⟨_, hl, rfl⟩ PySem.F.entry_list_contains (PySem.F.args_list_contains_2 _ _) (contains_oneG (it := it) rfl hl ?_)))
    refine wpAny_mono (eqBool_odd (Q := fun r s' => ∃ H', Inv X pins σ H' s' ∧ Q (.bl r) H' ∧ H' p = some (.lst [z])) hne hf (wpAny_mono (rc_own (Q := fun z' H' => Q z' H' ∧ H' p = some (.lst [z])) G ec (sbx.in1.mono (Nat.le_succ n)) I (x := z) (y := .ref a) rz rfl (.inr ⟨a, dx, fs, rfl, ha, hz, h2⟩)) (fun r s' q => ?_) fun _ _ x => x)) (fun r s' q => ?_) fun _ _ x => x
    · obtain ⟨b, H', rfl, I', q⟩ := q
      exact ⟨b, rfl, H', I', q⟩
    · obtain ⟨H', I', q1, q2⟩ := q
      cases r with
      | true =>
        rw [if_pos rfl]
        exact wpAny_truthy_bool (wpAny_pure ⟨.bl true, H', I', rfl, q1⟩)
      | false =>
        rw [if_neg Bool.false_ne_true]
        obtain ⟨it', k', rz', hl'⟩ := lst_at H' s' I' q2
        exact ⟨⟨_, k', rfl, hl'⟩, wpAny_truthy_bool (wpAny_pure ⟨.bl false, H', I', rfl, q1⟩)⟩
end
end Vs
namespace Vs
open PySem PySem.Spec PyProof.Rows L2
def isPl : D → Bool
  | .rl _ => false
  | .ct _ => false
  | d => (tyD d).isSome
theorem isPl_ty {d : D} (h : isPl d = true) : (tyD d).isSome = true := by cases d <;> first | exact h | cases h
open Classical in
noncomputable def mIn2 (F : Fn) (c : Str) (ma mb : M Ref) : M O := bnd ma fun r => bnd mb fun q => fun s => match view s r, q with
  | some (.ins c1 fs), .va (.lst [d]) => if c1 = c ∧ isPl d = true then (match callF F [r, .va d] s with
    | some (.ok (.sh (.bl b)) s') => if s' = s then some (.ok (.sh (.bl b)) s) else none
    | _ => none) else none
  | _, _ => none
section
variable {K : PySem.W.Frag} {W : WX} {F : Fn} {c : Str} {ma mb : M Ref}
theorem in2_imp (uw : Uni W) (σ : L2.St) (H : Hp) (Q : L2.VK) (h : tG K W (rO K) (mIn2 F c ma mb) σ H Q) : tOp (rInOdd K c F (EA W)) (tG K W (rR K) ma) (tG K W (rR K) mb) σ H Q := by
  obtain ⟨g, s, st, q⟩ := h
  refine seq st (Go.refl g H) q fun r s1 v H1 g1 _ go st1 rr hk => ?_
  refine seq st1 go hk fun q s2 u H2 g2 go12 go2 st2 rq hk2 => ?_
  have hz := hk2.run
  clear hk2
  split at hz
  · rename_i c1 fs d e1
    split at hz
    · rename_i hc
      obtain ⟨rfl, hT⟩ := hc
      obtain ⟨T, eT⟩ := Option.isSome_iff_exists.mp (isPl_ty hT)
      obtain ⟨a, dx, xs, rfl, k1, k2⟩ := (view_t st2 go12 rr e1).ins_ st2.sub
      have rq : Rep K g2.F g2.m (.lst [d]) u := rq
      cases rq with
      | @lst p ys _ k3F k4 =>
        have k3 := st2.sub.lst _ _ k3F
        cases k4 with
        | @cons _ z _ _ ky kn =>
          cases kn
          have rt : RepT K g2.F H2 g2.m d z := view_t (ga := g2) (Ha := H2) (r := .va d) st2 (Go.refl g2 H2) ky rfl
          have hza : z ≠ .ref a := fun e => by
            subst e
            cases d with
            | lst es => obtain ⟨b, ws, e, h1, _⟩ := rt.lst_ st2.sub; cases e; rw [k1] at h1; cases h1
            | tup es => obtain ⟨b, ws, e, h1, _⟩ := rt.tup_ st2.sub; cases e; rw [k1] at h1; cases h1
            | non => cases rt.non_
            | bl b => cases rt.bl_
            | int b => cases rt.int_
            | str b => cases rt.str_
            | rl _ => cases hT
            | ct _ => cases hT
            | _ => cases eT
          cases zc : callF F [r, .va d] s2 with
          | none => rw [zc] at hz; exact hz.elim
          | some rz =>
            rw [zc] at hz
            cases rz with
            | ex x s' => exact hz.elim
            | ok o s' =>
              cases o with
              | sh dd =>
                cases dd with
                | bl bb =>
                  dsimp only at hz
                  split at hz
                  · rename_i hs
                    subst hs
                    have ro : RefsOk K g2 σ [r, .va d] [.ref a, z] := .cons (by cases r with
                      | sl i => exact rr
                      | va d => exact Rep.go rr go12) (.cons ky .nil)
                    refine ⟨a, p, z, dx, xs, rfl, rfl, k3, k1, hza, ⟨g2.F, g2.m, d, T, st2.sub, rt, eT⟩, spOf.mono (fun cls d H h σ' => uw _ _ _ _ _ h) (callF_sp (W := W) (g0 := g2) (H0 := H2) rfl (Go.refl _ _) st2 ro ⟨?_⟩)⟩
                    rw [zc]
                    intro w H' g' go' st' rw_
                    obtain ⟨r1, r2, _⟩ := rw_
                    cases r2 with
                    | sh r2 =>
                      cases r2
                      exact ⟨bb, rfl, hz _ H' g' (go2.trans go') st' ⟨none, .sh (.bl _), fun a e => nomatch e⟩, st'.sub.lst _ _ (go'.F.lst _ _ k3F)⟩
                  · exact hz.elim
                | _ => exact hz.elim
              | _ => exact hz.elim
    · exact hz.elim
  · exact hz.elim
end
def orM {α : Type} (m1 m2 : M α) : M α := fun s => match m1 s with
  | some r => some r
  | none => m2 s
theorem orM_imp {α β : Type} {K : PySem.W.Frag} {W : WX} {RR : RRel α β} {m1 m2 : M α} {σ : L2.St} {H : Hp} {Q : β → Hp → Prop} (h : tG K W RR (orM m1 m2) σ H Q) : tG K W RR m1 σ H Q ∨ tG K W RR m2 σ H Q := by
  obtain ⟨g, s, st, q⟩ := h
  have q := q.run
  cases z : m1 s with
  | none =>
    refine .inr ⟨g, s, st, ⟨?_⟩⟩
    unfold orM at q; rw [z] at q; exact q
  | some r =>
    refine .inl ⟨g, s, st, ⟨?_⟩⟩
    unfold orM at q; rw [z] at q; rw [z]; exact q
noncomputable def mInA (F : Fn) (c : Str) (ma mb : M Ref) : M O := orM (mInO F c ma mb) (mIn2 F c ma mb)
section
variable {X : Cx} {W : WX} {n : Nat} {c : Str} {f : Addr} {F : Fn} {a b : Expr} {pos : Pos} {ma mb : M Ref}
theorem vf_inA (uw : Uni W) (G : Eqs X n c f F (EA W)) (ec : EqC X.K c) (hr : Room (n + 2) X.A) (ha : VR X W a ma) (hb : VR X W b mb) (hm : behindInMarks .In b = false := by rfl) : VF X W (.Compare a [.In] [b] pos) (mInA F c ma mb) :=
  pe_imp (pe_or2 (pe_cmpR (opr_inO G ec hr) ha hb hm) (pe_cmpR (opr_inOdd G ec hr) ha hb hm)) fun σ H Q h => (orM_imp h).elim (fun h => .inl (inO_imp uw σ H Q h)) fun h => .inr (in2_imp uw σ H Q h)
theorem pt_or {X : Cx} {e : Expr} {t t' : TT} (h : PT X e t) (h' : PT X e t') : PT X e (fun σ H Q => t σ H Q ∨ t' σ H Q) := ⟨fun pins s σ H Q I q => q.elim (h.run pins s σ H Q I) (h'.run pins s σ H Q I)⟩
theorem mT_or {m1 m2 : M O} {K : PySem.W.Frag} {W : WX} {σ : L2.St} {H : Hp} {Q : Bool → Hp → Prop} (h : tG K W rB (mT (orM m1 m2)) σ H Q) : tG K W rB (mT m1) σ H Q ∨ tG K W rB (mT m2) σ H Q := by
  obtain ⟨g, s, st, q⟩ := h
  have q := q.run
  cases z : m1 s with
  | none =>
    refine .inr ⟨g, s, st, ⟨?_⟩⟩
    have e : orM m1 m2 s = m2 s := by unfold orM; rw [z]
    unfold mT bnd at q ⊢; rw [e] at q; exact q
  | some r =>
    refine .inl ⟨g, s, st, ⟨?_⟩⟩
    have e : orM m1 m2 s = m1 s := by unfold orM; rw [z]
    unfold mT bnd at q ⊢; rw [e] at q; exact q
theorem vt_inA (uw : Uni W) (G : Eqs X n c f F (EA W)) (ec : EqC X.K c) (hr : Room (n + 2) X.A) (ha : VR X W a ma) (hb : VR X W b mb) (hm : behindInMarks .In b = false := by rfl) : VT X W (.Compare a [.In] [b] pos) (mT (mInA F c ma mb)) :=
  pt_imp (pt_or (pt_cmpR (opr_inO G ec hr) ha hb hm) (pt_cmpR (opr_inOdd G ec hr) ha hb hm)) fun σ H Q h => (mT_or h).elim (fun h => .inl (tst_imp (inO_imp uw) σ H Q h)) fun h => .inr (tst_imp (in2_imp uw) σ H Q h)
end
end Vs
namespace Vs
open PySem PySem.Spec PyProof.Rows L2
section
variable {prog : Program} {w : World} {A : Around} {E : Value → Shared → Prop} {s : Shared} {K : PySem.W.Frag}
open PySem.W PySem.Calls in
theorem reprObj_K {ox : Obj} {od : Obj} {x C f : Addr} {Q : Value → Shared → Prop} (hu : A.units < cLine) (X : K.In s.heap) (I : InstAt s.heap x ox C od) (hs : findIn K (.ref C) "__repr__" = some (some (.ref f))) (hf : isFn K (.ref f) = true)
    (h : wpAny (model prog w) A (call (.ref f) [.ref x]) (StrBack Q) E s) : wpAny (model prog w) A (pyReprObj (.ref x)) Q E s := by
  unfold pyReprObj
  refine wpAny_bind (wpAny_cRoomFor hu ?_)
  refine wpAny_bind (wpAny_bind (I.type.here ((looks_findIn X hs).here ?_)))
  show wpAny _ _ (if (some (Value.ref f)).isNone = true then _ else _) _ _ _
  rw [if_neg (by simp)]
  refine wpAny_bind (m := callSpecialIfBound? (.ref x) (Str.ofString "__repr__") _) (ifBound_K X I hs hf (wpAny_mono h (fun r s' hr => ?_) fun _ _ y => y))
  cases r <;> first | exact hr.elim | skip
  refine wpAny_bind (wpAny_isInstance (typeIs_str _ _ _) isSubtype_str_str ?_)
  first
    | exact wpAny_pure hr
    | (rw [if_pos rfl]; exact wpAny_pure hr)
    | (simp only [if_true]; exact wpAny_pure hr)
end
def mFmtRO (F : Fn) (c : Str) (ma : M Ref) : M Str := bnd ma fun r => bnd (look fun s => match view s r with
  | some (.ins c' _) => if c' = c then some () else none
  | _ => none) fun _ => bnd (callF F [r]) fun o => look fun _ => match o with
  | .sh (.str y) => if y.length ≤ 1000000 then some y else none
  | _ => none
section
variable {X : Cx} {W : WX} {n : Nat} {c : Str} {f : Addr} {F : Fn} {e : Expr} {te : TE} {pos p : Pos} {ma : M Ref} {fd : FuncData} {ps : List Str} {E : XK}
def tFmtRO (K : PySem.W.Frag) (c : Str) (F : Fn) (E : XK) (te : TE) : TE := fun σ H Q => te σ H fun x H1 => rReprO K c F E [x] H1 fun z H' => ∃ y, z = .str y ∧ y.length ≤ sizeLine ∧ Q (.str y) H'
theorem pe_fmtRO (he : PE X e te) (G : FnOk X.prog X.w X.K X.mg X.base (L2.CX X.prog X.w) n f fd ps (spOf X.K 1 F)) (hm : Meth X.K (He.ga X.K c) "__repr__" f) (hb : Binds X.K fd ps []) (hx : Passes (L2.CX X.prog X.w) X E) (hr : Room (n + 1) X.A) : PE X (.FormattedValue e 114 none pos) (tFmtRO X.K c F E te) := by
  refine ⟨fun pins s0 σ H0 Q I h => ?_⟩
  refine wpAny_FormattedValue_repr (thn (he.run pins s0 σ H0 _ I h) fun v s hv => ?_)
  obtain ⟨x, H, I, r1, h⟩ := hv
  obtain ⟨a, dx, fs, ex, ha, h⟩ := h
  cases ex
  cases (show v = Value.ref a from r1)
  obtain ⟨mA, J, _⟩ := ins_get I.hok ha
  obtain ⟨od, J, _⟩ := J.look
  have sbx : L2.Sub X n X.A := ⟨hr.mono (Nat.le_succ n), rfl⟩
  have e0 : Env0 X.prog X.w X.K X.mg X.base X.A X.stack s H := I.env0
  refine reprObj_K sbx.room.units0 I.kIn J hm.at_ hm.fn ?_
  have hl := G.len _ _ _ _ h
  refine wpAny_call (codeAny_mono (G.run X.A X.stack s H ⟨[.ref a], []⟩ [.ref a] [.ref a] _ E sbx.room e0 (by
    have := hb s [.ref a] I.kIn (by simpa using hl)
    simpa using this) (.cons rfl .nil) h) fun r s' hq => ?_)
  cases r with
  | error e => exact hx pins σ H s e s' I hq
  | ok fl =>
    cases fl with
    | ret w =>
      obtain ⟨z, H', I', rz, y, ey, y2, ey2, hz, q⟩ := I.after hq
      subst ey
      cases ey2
      obtain ⟨t, rfl⟩ := rz
      exact wpAny_formatField_str ⟨.str y, H', I', ⟨t, rfl⟩, q⟩ ⟨.str y, H', I'.tok _, ⟨_, rfl⟩, q⟩ hz
    | next => exact False.elim hq
    | brk => exact False.elim hq
    | cont => exact False.elim hq
theorem vp_fmtRO (uw : Uni W) (tk : Takes X W) (G : FnOk X.prog X.w X.K X.mg X.base (L2.CX X.prog X.w) n f fd ps (spOf X.K 1 F)) (hmt : Meth X.K (He.ga X.K c) "__repr__" f) (hb : Binds X.K fd ps []) (hr : Room (n + 1) X.A) (ha : VR X W e ma) : VP X W (.FormattedValue e 114 none pos) (mFmtRO F c ma) :=
  pe_imp (pe_fmtRO (c := c) (E := EA W) ha G hmt hb (passEA tk) hr) fun σ H Q ⟨g, s, st, q⟩ => by
    refine seq st (Go.refl g H) q fun r s1 v H1 g1 _ go st1 rr hk => ?_
    show rReprO X.K c F (EA W) [v] H1 _
    obtain ⟨_, h1, h2⟩ := hk.lk
    split at h1
    · rename_i hv
      split at h1
      · rename_i hc
        obtain ⟨a, dx, xs, rfl, k1, _⟩ := (view_t st1 (Go.refl g1 H1) rr hv).ins_ st1.sub
        rw [hc] at k1
        have ro1 : RefsOk X.K g1 σ [r] [V.ref a] := .cons (by cases r with
          | sl i => exact rr
          | va d => exact rr) .nil
        refine ⟨a, dx, xs, rfl, k1, spOf.mono (fun cls d H h σ' => uw _ _ _ _ _ h) (callF_sp (W := W) (g0 := g) (H0 := H) rfl go st1 ro1 ⟨?_⟩)⟩
        have h2 := h2.run
        cases z : callF F [r] s1 with
        | none => rw [bnd_no z] at h2; exact h2
        | some rz =>
          cases rz with
          | ex x s' => rw [bnd_ex z] at h2; exact h2
          | ok o s' =>
            rw [bnd_ok z] at h2
            intro w H' g' go' st' ro
            cases o with
            | sh d =>
              cases d with
              | str y =>
                obtain ⟨r1, r2, _⟩ := ro
                cases r2 with
                | sh r2 =>
                  cases r2
                  by_cases hz : y.length ≤ 1000000
                  · have e : (look (fun _ => match O.sh (D.str y) with
                      | .sh (.str y) => if y.length ≤ 1000000 then some y else none
                      | _ => none) s' : Option (Rs Str)) = some (.ok y s') := by unfold look; dsimp only; rw [if_pos hz]
                    rw [e] at h2
                    exact ⟨y, rfl, y, rfl, million hz, h2 _ H' g' go' st' rfl⟩
                  · have e : (look (fun _ => match O.sh (D.str y) with
                      | .sh (.str y) => if y.length ≤ 1000000 then some y else none
                      | _ => none) s' : Option (Rs Str)) = none := by unfold look; dsimp only; rw [if_neg hz]
                    rw [e] at h2
                    exact h2.elim
              | _ => exact h2.elim
            | _ => exact h2.elim
      · cases h1
    · cases h1
theorem vd_joined1 {m : M Str} (h : VP X W e m) : VD X W (.JoinedStr [e] pos) (mStrD m) :=
  pe_imp (pe_joined1 h) fun σ H Q ⟨g, s, st, q⟩ => by
    refine ⟨g, s, st, ⟨?_⟩⟩
    have q := q.run
    cases z : m s with
    | none => unfold mStrD at q; rw [bnd_no z] at q; exact q
    | some rr =>
      cases rr with
      | ex x s' => unfold mStrD at q; rw [bnd_ex z] at q; exact q
      | ok y s' =>
        unfold mStrD at q
        rw [bnd_ok z] at q
        intro v H' g' go st' r
        have r : y = v := r
        subst r
        exact q (.str y) H' g' go st' (.str y)
end
end Vs
namespace Vs
open PySem PySem.Spec PyProof.Rows L2
section
variable {X : Cx} {W : WX} {pos : Pos}
theorem ps_parC {i j : Nat} {x y : Str} {a b : Expr} {ta : TA} {px py pt : Pos} {kt k2 pt2} (hc : X.calm = true) (hN : X.N.Nodup) (hi : X.N[i]? = some x) (hj : X.N[j]? = some y)
    (hx : Loc X.env.scope x) (hy : Loc X.env.scope y) (ha : PA X [a, b] ta)
    (hw : swappedStores [.Tuple [.Name x px, .Name y py] kt pt] (.Tuple [a, b] k2 pt2) X.env = pure none)
    (hs : swapsWithSole [.Tuple [.Name x px, .Name y py] kt pt] (.Tuple [a, b] k2 pt2) pos.line X.env = pure false := by rfl)
    (h1 : (assignEach [.Tuple [.Name x px, .Name y py] kt pt] X.env).map (·.2) = [assign (.Tuple [.Name x px, .Name y py] kt pt) X.env] := by rfl)
    (hn : (assignEach [.Name x px, .Name y py] X.env).length = 2 := by rfl) (hst : (assignEach [.Name x px, .Name y py] X.env).findIdx? (·.1) = none := by rfl)
    (hf : X.fn x = true ∨ X.env.scope.names.lookup x = some .local := by first | exact .inl rfl | exact .inr rfl | assumption) (hf2 : X.fn y = true ∨ X.env.scope.names.lookup y = some .local := by first | exact .inl rfl | exact .inr rfl | assumption) :
    PS X (.Assign [.Tuple [.Name x px, .Name y py] kt pt] (.Tuple [a, b] k2 pt2) pos) (tPar i j ta) := by
  refine ⟨fun pins s σ H D I h => ?_⟩
  refine wpAny_Assign_stores (Tuple_ (thn (ha.run _ pins s σ H _ I h) fun us s1 ⟨vs, H1, I1, r1, q1⟩ => ?_)) hs hw
  obtain ⟨v, w, e1, q1⟩ := q1
  subst e1
  obtain ⟨u1, u2, rfl, rv, rw'⟩ : ∃ u1 u2, us = [u1, u2] ∧ RelV v u1 ∧ RelV w u2 := by
    cases r1 with
    | cons p q =>
      cases q with
      | cons p' q' =>
        cases q'
        exact ⟨_, _, rfl, p, p'⟩
  refine wpAny_newObj_type ?_ (by show 2 ≤ sizeLine; decide)
  have I2 : Inv X pins σ H1 { s1 with heap := s1.heap.push { cls := .type "tuple", data := .seq [u1, u2].toArray } } := I1.kept (t' := s1.toks) fun b o e => Heap.get?_push_of_some _ e
  rw [h1]
  show wpAny _ _ (assign (.Tuple [.Name x px, .Name y py] kt pt) X.env (.ref s1.heap.objs.size)) _ _ _
  refine assign_Tuple_tuple (items := #[u1, u2]) (I.ok.hd hc) (IsTup.new s1.heap _) (by simp [hn]) hst fun h' hx' => ?_
  have I3 := I2.kept (h' := h') (t' := s1.toks) fun b o e => hx' b o (Nat.ne_of_lt (Heap.lt_size e)) e
  have pg : PGs X [.Name x px, .Name y py] (gCons (gName i) (gCons (gName j) gNil)) := pgs_cons (pg_name hN hi hx hf) (pgs_cons (pg_name hN hj hy hf2) pgs_nil)
  exact thn (pg.run pins _ σ H1 [v, w] [u1, u2] (fun σ' H' => D.nx σ' H') I3 (.cons rv (.cons rw' .nil)) ⟨v, [w], rfl, w, [], rfl, rfl, q1⟩) fun _ s2 q => q
theorem vs_parC {i j : Nat} {x y : Str} {a b : Expr} {px py pt : Pos} {kt k2 : Nat} {pt2 : Pos} {m : M (List O)} (hc : X.calm = true) (hN : X.N.Nodup) (hi : X.N[i]? = some x) (hj : X.N[j]? = some y)
    (hx : Loc X.env.scope x) (hy : Loc X.env.scope y) (ha : VOs X W [a, b] m)
    (hw : swappedStores [.Tuple [.Name x px, .Name y py] kt pt] (.Tuple [a, b] k2 pt2) X.env = pure none)
    (hs : swapsWithSole [.Tuple [.Name x px, .Name y py] kt pt] (.Tuple [a, b] k2 pt2) pos.line X.env = pure false := by rfl)
    (h1 : (assignEach [.Tuple [.Name x px, .Name y py] kt pt] X.env).map (·.2) = [assign (.Tuple [.Name x px, .Name y py] kt pt) X.env] := by rfl)
    (hn : (assignEach [.Name x px, .Name y py] X.env).length = 2 := by rfl) (hst : (assignEach [.Name x px, .Name y py] X.env).findIdx? (·.1) = none := by rfl)
    (hf : X.fn x = true ∨ X.env.scope.names.lookup x = some .local := by first | exact .inl rfl | exact .inr rfl | assumption) (hf2 : X.fn y = true ∨ X.env.scope.names.lookup y = some .local := by first | exact .inl rfl | exact .inr rfl | assumption) :
    VS X W (.Assign [.Tuple [.Name x px, .Name y py] kt pt] (.Tuple [a, b] k2 pt2) pos) (mParO [i, j] m) :=
  ps_imp (ps_parC hc hN hi hj hx hy ha hw hs h1 hn hst hf hf2) fun D σ H ⟨g, s, st, q⟩ => seqX st (Go.refl g H) q fun os s1 vs H1 g1 _ go st1 r hk => by
    obtain ⟨rs, rl, hf⟩ := r
    have hl : [i, j].length = os.length := by
      cases z : putsL [i, j] os s1 with
      | none => have := hk.run; rw [z] at this; exact this.elim
      | some r => exact putsL_len z
    have hv := rl.len
    obtain ⟨v, w, rfl⟩ : ∃ v w, vs = [v, w] := by
      match vs, hv.symm.trans hl.symm with
      | [v, w], _ => exact ⟨v, w, rfl⟩
    exact ⟨v, w, rfl, puts_ok [i, j] os [v, w] rs go st1 rl hf hk⟩
end
end Vs
namespace My
open PySem PySem.Spec PyProof.Rows L2 Vs
def top (i : Nat) : Stmt := PySem.Challenge.pw_facehouse_k01_faces_made_and_equal.main.body.getD i (.Pass ⟨0, 0, 0, 0⟩)
structure Tx (K : PySem.W.Frag) (mg : Str → Option Value) : Prop where
  n_abs : mg "abs" = none
  n_bool : mg "bool" = none
  n_dict : mg "dict" = none
  n_int : mg "int" = none
  n_isinstance : mg "isinstance" = none
  n_len : mg "len" = none
  n_list : mg "list" = none
  n_max : mg "max" = none
  n_min : mg "min" = none
  n_range : mg "range" = none
  n_repr : mg "repr" = none
  n_sorted : mg "sorted" = none
  n_str : mg "str" = none
  n_tuple : mg "tuple" = none
  n_zip : mg "zip" = none
  c_Face : Cls K (He.ga K "Face")
  em_Face___init___calls : ∀ H, SqT K H (kwAt ("Face", some "__init__") "calls" K) []
  em_Face___init___choices : ∀ H, SqT K H (kwAt ("Face", some "__init__") "choices" K) []
  eq_Face : EqC K "Face"
  is_Face : IsiC K "Face"
  m_Face : mg "Face" = some (.ref (He.ga K "Face"))
  m__law_acts_drawn : mg "_law_acts_drawn" = some (.ref (He.ga K "_law_acts_drawn"))
  m__law_all_drawn : mg "_law_all_drawn" = some (.ref (He.ga K "_law_all_drawn"))
  m__law_bag : mg "_law_bag" = some (.ref (He.ga K "_law_bag"))
  m__law_bent_once : mg "_law_bent_once" = some (.ref (He.ga K "_law_bent_once"))
  m__law_deed_drawn : mg "_law_deed_drawn" = some (.ref (He.ga K "_law_deed_drawn"))
  m__law_drawn_name : mg "_law_drawn_name" = some (.ref (He.ga K "_law_drawn_name"))
  m__law_fields_right : mg "_law_fields_right" = some (.ref (He.ga K "_law_fields_right"))
  m__law_form_drawn : mg "_law_form_drawn" = some (.ref (He.ga K "_law_form_drawn"))
  m__law_kind_drawn : mg "_law_kind_drawn" = some (.ref (He.ga K "_law_kind_drawn"))
  m__law_made_anew : mg "_law_made_anew" = some (.ref (He.ga K "_law_made_anew"))
  m__law_made_face : mg "_law_made_face" = some (.ref (He.ga K "_law_made_face"))
  m__law_near : mg "_law_near" = some (.ref (He.ga K "_law_near"))
  m__law_one_more : mg "_law_one_more" = some (.ref (He.ga K "_law_one_more"))
  m__law_pick : mg "_law_pick" = some (.ref (He.ga K "_law_pick"))
  m__law_rising : mg "_law_rising" = some (.ref (He.ga K "_law_rising"))
  m__law_take : mg "_law_take" = some (.ref (He.ga K "_law_take"))
  m__law_unlike : mg "_law_unlike" = some (.ref (He.ga K "_law_unlike"))
  m__law_unlike_names : mg "_law_unlike_names" = some (.ref (He.ga K "_law_unlike_names"))
  me_Face___eq__ : Meth K (He.ga K "Face") "__eq__" (He.ma K (He.ga K "Face") "__eq__")
  me_Face___repr__ : Meth K (He.ga K "Face") "__repr__" (He.ma K (He.ga K "Face") "__repr__")
  me_Face_parts : Meth K (He.ga K "Face") "parts" (He.ma K (He.ga K "Face") "parts")
  mk_Face : L2.Mk K (He.ga K "Face") (He.ma K (He.ga K "Face") "__init__")
  na_Face_calls : NoAttr K (He.ga K "Face") "calls"
  na_Face_choices : NoAttr K (He.ga K "Face") "choices"
  na_Face_edition : NoAttr K (He.ga K "Face") "edition"
  na_Face_name : NoAttr K (He.ga K "Face") "name"
  na_Face_records : NoAttr K (He.ga K "Face") "records"
section
variable {P : Program} {w : World} {K : PySem.W.Frag} {mg : Str → Option Value} {base : Heap} {f : Addr} {fd : FuncData}
abbrev s_Face___init__ : Stmt := inClass (top 2) 0
def m_Face___init__ : SM := (then_ (mSetFld 0 ["Face"] "name" (mName 1)) (then_ (mSetFld 0 ["Face"] "edition" (mName 2)) (then_ (mSetFld 0 ["Face"] "choices" (mName 3)) (then_ (mSetFld 0 ["Face"] "records" (mName 4)) (mSetFld 0 ["Face"] "calls" (mName 5))))))
def F_Face___init__ : Fn := mkFn 6 m_Face___init__
theorem sc_Face___init__ : FnScope ["self", "name", "edition", "choices", "records", "calls"] ["self", "name", "edition", "choices", "records", "calls"] (defScope s_Face___init__) := ⟨rfl, rfl, rfl, by decide +kernel, rfl, by decide +kernel, by decide +kernel⟩
theorem ok_Face___init__ (F : FunD K "__init__" "Face.__init__" (defArgs s_Face___init__) (defBody s_Face___init__) (defScope s_Face___init__) [] [("choices", (.ref (kwAt ("Face", some "__init__") "choices" K))), ("records", (.ref (kwAt ("Face", some "__init__") "records" K))), ("calls", (.ref (kwAt ("Face", some "__init__") "calls" K)))] f fd) (T : Tx K mg) : FnOk P w K mg base (L2.CX P w) 1 f fd ["self", "name", "edition", "choices", "records", "calls"] (spOf K 6 F_Face___init__) := by
  exact fn_ok F sc_Face___init__ fun cdv A outer s H E hr => by
    have nd := sc_Face___init__.nd
    have tk : Takes (cxOf (L2.CX P w) P w K mg base ["self", "name", "edition", "choices", "records", "calls"] "Face.__init__" (defScope s_Face___init__) f cdv A outer s H E) (fun cls d _ H => E cls d H) := takes_of rfl rfl rfl rfl
    exact (vss_cons (vs_setFld 0 (fld1 T.c_Face T.na_Face_name) (pv 0) (vd_name 1 (pv 1))) (vss_cons (vs_setFld 0 (fld1 T.c_Face T.na_Face_edition) (pv 0) (vd_name 2 (pv 2))) (vss_cons (vs_setFld 0 (fld1 T.c_Face T.na_Face_choices) (pv 0) (vd_name 3 (pv 3))) (vss_cons (vs_setFld 0 (fld1 T.c_Face T.na_Face_records) (pv 0) (vd_name 4 (pv 4))) (vss_one (vs_setFld 0 (fld1 T.c_Face T.na_Face_calls) (pv 0) (vd_name 5 (pv 5))))))))
abbrev s_Face_parts : Stmt := inClass (top 2) 1
def m_Face_parts : SM := (mRet (mSh (mkTup (mCons (mFrz (op1 (fFld ["Face"] "name") (mSl 0))) (mCons (mFrz (op1 (fFld ["Face"] "edition") (mSl 0))) (mCons (mFrz (op1 (fFld ["Face"] "choices") (mSl 0))) (mCons (mFrz (op1 (fFld ["Face"] "records") (mSl 0))) (mCons (mFrz (op1 (fFld ["Face"] "calls") (mSl 0))) (ret [])))))))))
def F_Face_parts : Fn := mkFn 1 m_Face_parts
theorem sc_Face_parts : FnScope ["self"] ["self"] (defScope s_Face_parts) := ⟨rfl, rfl, rfl, by decide +kernel, rfl, by decide +kernel, by decide +kernel⟩
theorem ok_Face_parts (F : FunD K "parts" "Face.parts" (defArgs s_Face_parts) (defBody s_Face_parts) (defScope s_Face_parts) [] [] f fd) (T : Tx K mg) : FnOk P w K mg base (L2.CX P w) 1 f fd ["self"] (spOf K 1 F_Face_parts) := by
  exact fn_ok F sc_Face_parts fun cdv A outer s H E hr => by
    have nd := sc_Face_parts.nd
    have tk : Takes (cxOf (L2.CX P w) P w K mg base ["self"] "Face.parts" (defScope s_Face_parts) f cdv A outer s H E) (fun cls d _ H => E cls d H) := takes_of rfl rfl rfl rfl
    exact (vss_one (vs_ret (vf_vd (vd_tup (va_cons (vd_vf (vf_fld (fld1 T.c_Face T.na_Face_name) (vr_name 0 (pv 0)))) (va_cons (vd_vf (vf_fld (fld1 T.c_Face T.na_Face_edition) (vr_name 0 (pv 0)))) (va_cons (vd_vf (vf_fld (fld1 T.c_Face T.na_Face_choices) (vr_name 0 (pv 0)))) (va_cons (vd_vf (vf_fld (fld1 T.c_Face T.na_Face_records) (vr_name 0 (pv 0)))) (va_cons (vd_vf (vf_fld (fld1 T.c_Face T.na_Face_calls) (vr_name 0 (pv 0)))) va_nil)))))))))
abbrev s_Face___eq__ : Stmt := inClass (top 2) 2
def m_Face___eq__ : SM := (mRet (mSh (mAndV (mFrz (opN (fIsi ["Face"]) (mConsR (mSl 1) (mConsR (mVa (ret (.glo "Face"))) (ret []))))) (mFrz (op2 fEq (mVa (mFrz (mMeth F_Face_parts "Face" "parts" (mSl 0) (ret [])))) (mVa (mFrz (mMeth F_Face_parts "Face" "parts" (mSl 1) (ret [])))))))))
def F_Face___eq__ : Fn := mkFn 2 m_Face___eq__
theorem sc_Face___eq__ : FnScope ["self", "other"] ["self", "other"] (defScope s_Face___eq__) := ⟨rfl, rfl, rfl, by decide +kernel, rfl, by decide +kernel, by decide +kernel⟩
theorem ok_Face___eq__ (F : FunD K "__eq__" "Face.__eq__" (defArgs s_Face___eq__) (defBody s_Face___eq__) (defScope s_Face___eq__) [] [] f fd) (T : Tx K mg) (D_Face_parts : DefAt P w K mg base (He.fAd K ("Face", some "parts")) 1 ["self"] 1 F_Face_parts) : FnOk P w K mg base (L2.CX P w) 2 f fd ["self", "other"] (spOf K 2 F_Face___eq__) := by
  obtain ⟨fd_Face_parts, g_Face_parts, b_Face_parts⟩ := D_Face_parts.ex
  exact fn_ok F sc_Face___eq__ fun cdv A outer s H E hr => by
    have nd := sc_Face___eq__.nd
    have tk : Takes (cxOf (L2.CX P w) P w K mg base ["self", "other"] "Face.__eq__" (defScope s_Face___eq__) f cdv A outer s H E) (fun cls d _ H => E cls d H) := takes_of rfl rfl rfl rfl
    exact (vss_one (vs_ret (vf_vd (vd_and (vd_vf (vf_isi (cs := ["Face"]) (isi1 T.is_Face) T.n_isinstance (var_cons (vr_name 1 (pv 1)) (var_cons (vr_vd (vd_glo T.m_Face)) var_nil)))) (vd_one (vd_vf (vf_eq hr (vr_vd (vd_vf (vf_meth0 uni0 tk T.c_Face T.me_Face_parts g_Face_parts (hr.mono (by decide)) b_Face_parts (vr_name 0 (pv 0))))) (vr_vd (vd_vf (vf_meth0 uni0 tk T.c_Face T.me_Face_parts g_Face_parts (hr.mono (by decide)) b_Face_parts (vr_name 1 (pv 1))))))))))))
abbrev s_Face___repr__ : Stmt := inClass (top 2) 3
def m_Face___repr__ : SM := (mRet (mSh (mStrD (mJ [(mStr (ret (.str "Face("))), (mFmt (mFrz (op1 (fFld ["Face"] "name") (mSl 0)))), (mStr (ret (.str " "))), (mFmt (mFrz (op1 (fFld ["Face"] "edition") (mSl 0)))), (mStr (ret (.str ")")))] Str.empty))))
def F_Face___repr__ : Fn := mkFn 1 m_Face___repr__
theorem sc_Face___repr__ : FnScope ["self"] ["self"] (defScope s_Face___repr__) := ⟨rfl, rfl, rfl, by decide +kernel, rfl, by decide +kernel, by decide +kernel⟩
theorem ok_Face___repr__ (F : FunD K "__repr__" "Face.__repr__" (defArgs s_Face___repr__) (defBody s_Face___repr__) (defScope s_Face___repr__) [] [] f fd) (T : Tx K mg) : FnOk P w K mg base (L2.CX P w) 1 f fd ["self"] (spOf K 1 F_Face___repr__) := by
  exact fn_ok F sc_Face___repr__ fun cdv A outer s H E hr => by
    have nd := sc_Face___repr__.nd
    have tk : Takes (cxOf (L2.CX P w) P w K mg base ["self"] "Face.__repr__" (defScope s_Face___repr__) f cdv A outer s H E) (fun cls d _ H => E cls d H) := takes_of rfl rfl rfl rfl
    exact (vss_one (vs_ret (vf_vd (vd_joined (VJ.cons (vp_str vd_str) (VJ.cons (vp_fmt (vd_vf (vf_fld (fld1 T.c_Face T.na_Face_name) (vr_name 0 (pv 0))))) (VJ.cons (vp_str vd_str) (VJ.cons (vp_fmt (vd_vf (vf_fld (fld1 T.c_Face T.na_Face_edition) (vr_name 0 (pv 0))))) (VJ.cons (vp_str vd_str) VJ.nil)))))))))
abbrev s__law_bag : Stmt := top 4
def m__law_bag : SM := (then_ (mSet 2 (op2 fAdd (mVa (mFrz (op2 fAdd (mVa (mFrz (op2 fMul (mVa (mFrz (op2 fMul (mVa (ret (.int 6007))) (mSl 1)))) (mSl 1)))) (mVa (mFrz (op2 fMul (mVa (ret (.int 15487))) (mSl 1))))))) (mVa (ret (.int 13))))) (then_ (mIfS (mT (op2 fLt (mSl 1) (mVa (mFrz (opN fLen (mConsR (mSl 0) (ret []))))))) (mSet 2 (op2 fIx (mSl 0) (mSl 1))) (Vs.ret .nx)) (then_ (mSet 3 (opN fAbs (mConsR (mSl 2) (ret [])))) (mRet (mkLst (mCons (mFrz (op2 fMul (mSl 3) (mVa (mFrz (opN fInt (mConsR (mVa (mFrz (op2 fGe (mSl 3) (mVa (mFrz (op2 fPow (mVa (ret (.int 10))) (mVa (ret (.int 18))))))))) (ret []))))))) (mCons (mFrz (op2 fAdd (mVa (mFrz (op2 fMod (mSl 2) (mVa (mFrz (op2 fAdd (mVa (mFrz (op2 fPow (mVa (ret (.int 10))) (mVa (ret (.int 18)))))) (mVa (ret (.int 9))))))))) (mVa (mFrz (op2 fMul (mVa (ret (.int 1299721))) (mSl 1)))))) (mCons (ret (.int 0)) (ret [])))))))))
def F__law_bag : Fn := mkFn 4 m__law_bag
theorem sc__law_bag : FnScope ["_law_script", "_law_at", "_law_cell", "_law_far"] ["_law_script", "_law_at"] (defScope s__law_bag) := ⟨rfl, rfl, rfl, by decide +kernel, rfl, by decide +kernel, by decide +kernel⟩
theorem ok__law_bag (F : FunD K "_law_bag" "_law_bag" (defArgs s__law_bag) (defBody s__law_bag) (defScope s__law_bag) [] [] f fd) (T : Tx K mg) : FnOk P w K mg base (L2.CX P w) 1 f fd ["_law_script", "_law_at"] (spOf K 2 F__law_bag) := by
  exact fn_ok F sc__law_bag fun cdv A outer s H E hr => by
    have nd := sc__law_bag.nd
    have tk : Takes (cxOf (L2.CX P w) P w K mg base ["_law_script", "_law_at", "_law_cell", "_law_far"] "_law_bag" (defScope s__law_bag) f cdv A outer s H E) (fun cls d _ H => E cls d H) := takes_of rfl rfl rfl rfl
    exact (vss_cons (vs_set (i := 2) nd rfl (by first | exact .inl rfl | exact .inr rfl) (vf_add (vr_vd (vd_vf (vf_add (vr_vd (vd_vf (vf_mul (vr_vd (vd_vf (vf_mul (vr_vd vd_int) (vr_name 1 (pv 1))))) (vr_name 1 (pv 1))))) (vr_vd (vd_vf (vf_mul (vr_vd vd_int) (vr_name 1 (pv 1)))))))) (vr_vd vd_int))) (vss_cons (vs_if (vt_lt (vr_name 1 (pv 1)) (vr_vd (vd_vf (vf_len T.n_len (var_cons (vr_name 0 (pv 0)) var_nil))))) (vss_one (vs_set (i := 2) nd rfl (by first | exact .inl rfl | exact .inr rfl) (vf_sub (hu_of hr) (vr_name 0 (pv 0)) (vr_name 1 (pv 1))))) vss_nil) (vss_cons (vs_set (i := 3) nd rfl (by first | exact .inl rfl | exact .inr rfl) (vf_abs T.n_abs (var_cons (vr_name 2 (pv 2)) var_nil))) (vss_one (vs_ret (vf_lst (va_cons (vd_vf (vf_mul (vr_name 3 (pv 3)) (vr_vd (vd_vf (vf_int T.n_int (var_cons (vr_vd (vd_vf (vf_ge (vr_name 3 (pv 3)) (vr_vd (vd_vf (vf_pow (vr_vd vd_int) (vr_vd vd_int))))))) var_nil)))))) (va_cons (vd_vf (vf_add (vr_vd (vd_vf (vf_mod (vr_name 2 (pv 2)) (vr_vd (vd_vf (vf_add (vr_vd (vd_vf (vf_pow (vr_vd vd_int) (vr_vd vd_int)))) (vr_vd vd_int))))))) (vr_vd (vd_vf (vf_mul (vr_vd vd_int) (vr_name 1 (pv 1))))))) (va_cons vd_int va_nil)))))))))
abbrev s__law_take : Stmt := top 5
def m__law_take : SM := (then_ (mIfS (mT (op2 fGt (mVa (mFrz (op2 fIx (mSl 0) (mVa (ret (.int 0)))))) (mVa (ret (.int 0))))) (then_ (mSet 6 (op2 fMod (mVa (mFrz (op2 fIx (mSl 0) (mVa (ret (.int 0)))))) (mSl 1))) (then_ (mSetIx 0 (mFrz (op2 fDiv (mVa (mFrz (op2 fIx (mSl 0) (mVa (ret (.int 0)))))) (mSl 1))) (ret (.int 0))) (mRetSl 0 6))) (Vs.ret .nx)) (then_ (mSet 2 (mSh (mkTup (mCons (ret (.int 2147483647)) (mCons (ret (.int 2147483629)) (mCons (ret (.int 2147483587)) (mCons (ret (.int 2147483579)) (mCons (ret (.int 2147483563)) (mCons (ret (.int 2147483549)) (mCons (ret (.int 2147483543)) (mCons (ret (.int 2147483497)) (ret [])))))))))))) (then_ (mSetIx 0 (mFrz (op2 fAdd (mVa (mFrz (op2 fIx (mSl 0) (mVa (ret (.int 2)))))) (mVa (ret (.int 1))))) (ret (.int 2))) (then_ (mSet 3 (op2 fIx (mSl 0) (mVa (ret (.int 2))))) (then_ (mSet 4 (op2 fAdd (mVa (mFrz (op2 fAdd (mVa (mFrz (op2 fMul (mVa (mFrz (op2 fIx (mSl 0) (mVa (ret (.int 1)))))) (mVa (mFrz (op2 fAdd (mVa (mFrz (op2 fMul (mVa (ret (.int 2))) (mSl 3)))) (mVa (ret (.int 1))))))))) (mVa (mFrz (op2 fMul (mVa (mFrz (op2 fMul (mVa (ret (.int 6007))) (mSl 3)))) (mSl 3))))))) (mVa (ret (.int 31))))) (then_ (mSet 5 (op2 fMod (mVa (mFrz (op2 fPow (mSl 4) (mVa (ret (.int 3)))))) (mVa (mFrz (op2 fIx (mSl 2) (mVa (mFrz (op2 fMod (mSl 3) (mVa (ret (.int 8))))))))))) (mRet (op2 fMod (mVa (mFrz (op2 fDiv (mVa (mFrz (op2 fMod (mVa (mFrz (op2 fMul (mSl 5) (mVa (mFrz (op2 fAdd (mVa (mFrz (op2 fDiv (mSl 5) (mVa (ret (.int 4096)))))) (mVa (ret (.int 13))))))))) (mVa (mFrz (op2 fIx (mSl 2) (mVa (mFrz (op2 fMod (mVa (mFrz (op2 fAdd (mSl 3) (mVa (ret (.int 5)))))) (mVa (ret (.int 8)))))))))))) (mVa (ret (.int 16)))))) (mSl 1)))))))))
def F__law_take : Fn := mkFn 7 m__law_take
theorem sc__law_take : FnScope ["_law_bag_here", "_law_size", "_law_primes", "_law_stage", "_law_basis", "_law_found", "_law_digit"] ["_law_bag_here", "_law_size"] (defScope s__law_take) := ⟨rfl, rfl, rfl, by decide +kernel, rfl, by decide +kernel, by decide +kernel⟩
theorem ok__law_take (F : FunD K "_law_take" "_law_take" (defArgs s__law_take) (defBody s__law_take) (defScope s__law_take) [] [] f fd) (T : Tx K mg) : FnOk P w K mg base (L2.CX P w) 1 f fd ["_law_bag_here", "_law_size"] (spOf K 2 F__law_take) := by
  exact fn_ok F sc__law_take fun cdv A outer s H E hr => by
    have nd := sc__law_take.nd
    have tk : Takes (cxOf (L2.CX P w) P w K mg base ["_law_bag_here", "_law_size", "_law_primes", "_law_stage", "_law_basis", "_law_found", "_law_digit"] "_law_take" (defScope s__law_take) f cdv A outer s H E) (fun cls d _ H => E cls d H) := takes_of rfl rfl rfl rfl
    exact (vss_cons (vs_if (vt_gt (vr_vd (vd_vf (vf_sub (hu_of hr) (vr_name 0 (pv 0)) (vr_vd vd_int)))) (vr_vd vd_int)) (vss_cons (vs_set (i := 6) nd rfl (by first | exact .inl rfl | exact .inr rfl) (vf_mod (vr_vd (vd_vf (vf_sub (hu_of hr) (vr_name 0 (pv 0)) (vr_vd vd_int)))) (vr_name 1 (pv 1)))) (vss_cons (vs_setIx 0 (pv 0) vd_int (vd_vf (vf_fdiv (vr_vd (vd_vf (vf_sub (hu_of hr) (vr_name 0 (pv 0)) (vr_vd vd_int)))) (vr_name 1 (pv 1))))) (vss_one (vs_retSl 0 6 (pv 6))))) vss_nil) (vss_cons (vs_set (i := 2) nd rfl (by first | exact .inl rfl | exact .inr rfl) (vf_vd (vd_tup (va_cons vd_int (va_cons vd_int (va_cons vd_int (va_cons vd_int (va_cons vd_int (va_cons vd_int (va_cons vd_int (va_cons vd_int va_nil))))))))))) (vss_cons (vs_setIx 0 (pv 0) vd_int (vd_vf (vf_add (vr_vd (vd_vf (vf_sub (hu_of hr) (vr_name 0 (pv 0)) (vr_vd vd_int)))) (vr_vd vd_int)))) (vss_cons (vs_set (i := 3) nd rfl (by first | exact .inl rfl | exact .inr rfl) (vf_sub (hu_of hr) (vr_name 0 (pv 0)) (vr_vd vd_int))) (vss_cons (vs_set (i := 4) nd rfl (by first | exact .inl rfl | exact .inr rfl) (vf_add (vr_vd (vd_vf (vf_add (vr_vd (vd_vf (vf_mul (vr_vd (vd_vf (vf_sub (hu_of hr) (vr_name 0 (pv 0)) (vr_vd vd_int)))) (vr_vd (vd_vf (vf_add (vr_vd (vd_vf (vf_mul (vr_vd vd_int) (vr_name 3 (pv 3))))) (vr_vd vd_int))))))) (vr_vd (vd_vf (vf_mul (vr_vd (vd_vf (vf_mul (vr_vd vd_int) (vr_name 3 (pv 3))))) (vr_name 3 (pv 3)))))))) (vr_vd vd_int))) (vss_cons (vs_set (i := 5) nd rfl (by first | exact .inl rfl | exact .inr rfl) (vf_mod (vr_vd (vd_vf (vf_pow (vr_name 4 (pv 4)) (vr_vd vd_int)))) (vr_vd (vd_vf (vf_sub (hu_of hr) (vr_name 2 (pv 2)) (vr_vd (vd_vf (vf_mod (vr_name 3 (pv 3)) (vr_vd vd_int))))))))) (vss_one (vs_ret (vf_mod (vr_vd (vd_vf (vf_fdiv (vr_vd (vd_vf (vf_mod (vr_vd (vd_vf (vf_mul (vr_name 5 (pv 5)) (vr_vd (vd_vf (vf_add (vr_vd (vd_vf (vf_fdiv (vr_name 5 (pv 5)) (vr_vd vd_int)))) (vr_vd vd_int))))))) (vr_vd (vd_vf (vf_sub (hu_of hr) (vr_name 2 (pv 2)) (vr_vd (vd_vf (vf_mod (vr_vd (vd_vf (vf_add (vr_name 3 (pv 3)) (vr_vd vd_int)))) (vr_vd vd_int)))))))))) (vr_vd vd_int)))) (vr_name 1 (pv 1)))))))))))
abbrev s__law_drawn_name : Stmt := top 6
def m__law_drawn_name_c0 : M O := (mComp [3] (mRange1 (mCons (mName 2) (ret []))) (tnm 3) (ret true) (mFrz (op2 fIx (mSl 1) (mVa (mFrz (mCall F__law_take [] (mConsR (mSl 0) (mConsR (mVa (ret (.int 26))) (ret [])))))))))
def m__law_drawn_name : SM := (then_ (mSet 1 (mSh (ret (.str "abcdefghijklmnopqrstuvwxyz")))) (then_ (mSet 2 (op2 fAdd (mVa (ret (.int 1))) (mVa (mFrz (mCall F__law_take [] (mConsR (mSl 0) (mConsR (mVa (mFrz (op2 fIx (mVa (mFrz (mkLst (mCons (ret (.int 2)) (mCons (ret (.int 8)) (ret [])))))) (mVa (mFrz (opN fInt (mConsR (mVa (mFrz (op2 fEq (mVa (mFrz (mCall F__law_take [] (mConsR (mSl 0) (mConsR (mVa (ret (.int 4))) (ret [])))))) (mVa (ret (.int 0)))))) (ret [])))))))) (ret [])))))))) (mRet (strM fJoin (ret (.str "")) (mVa (mFrz m__law_drawn_name_c0))))))
def F__law_drawn_name : Fn := mkFn 4 m__law_drawn_name
theorem sc__law_drawn_name : FnScope ["_law_bag_here", "_law_letters", "_law_size", "_law_spot"] ["_law_bag_here"] (defScope s__law_drawn_name) := ⟨rfl, rfl, rfl, by decide +kernel, rfl, by decide +kernel, by decide +kernel⟩
theorem ok__law_drawn_name (F : FunD K "_law_drawn_name" "_law_drawn_name" (defArgs s__law_drawn_name) (defBody s__law_drawn_name) (defScope s__law_drawn_name) [] [] f fd) (T : Tx K mg) (D__law_take : DefAt P w K mg base (He.fAd K ("_law_take", none)) 1 ["_law_bag_here", "_law_size"] 2 F__law_take) : FnOk P w K mg base (L2.CX P w) 2 f fd ["_law_bag_here"] (spOf K 1 F__law_drawn_name) := by
  obtain ⟨fd__law_take, g__law_take, b__law_take⟩ := D__law_take.ex
  exact fn_ok F sc__law_drawn_name fun cdv A outer s H E hr => by
    have nd := sc__law_drawn_name.nd
    have tk : Takes (cxOf (L2.CX P w) P w K mg base ["_law_bag_here", "_law_letters", "_law_size", "_law_spot"] "_law_drawn_name" (defScope s__law_drawn_name) f cdv A outer s H E) (fun cls d _ H => E cls d H) := takes_of rfl rfl rfl rfl
    exact (vss_cons (vs_set (i := 1) nd rfl (by first | exact .inl rfl | exact .inr rfl) (vf_vd vd_str)) (vss_cons (vs_set (i := 2) nd rfl (by first | exact .inl rfl | exact .inr rfl) (vf_add (vr_vd vd_int) (vr_vd (vd_vf (vf_call (ds := []) (dvs := []) (dd := []) g__law_take (hr.mono (by decide)) tk rfl T.m__law_take D__law_take.kp b__law_take .nil (fun _ _ => .nil) (var_cons (vr_name 0 (pv 0)) (var_cons (vr_vd (vd_vf (vf_sub (hu_of hr) (vr_vd (vd_vf (vf_lst (va_cons vd_int (va_cons vd_int va_nil))))) (vr_vd (vd_vf (vf_int T.n_int (var_cons (vr_vd (vd_vf (vf_eq hr (vr_vd (vd_vf (vf_call (ds := []) (dvs := []) (dd := []) g__law_take (hr.mono (by decide)) tk rfl T.m__law_take D__law_take.kp b__law_take .nil (fun _ _ => .nil) (var_cons (vr_name 0 (pv 0)) (var_cons (vr_vd vd_int) var_nil)) rfl (ml_cons (ml_cons ml_nil))))) (vr_vd vd_int)))) var_nil))))))) var_nil)) rfl (ml_cons (ml_cons ml_nil))))))) (vss_one (vs_ret (vf_join vd_str (vr_vd (vd_vf (vf_lc (own := [("_law_spot", 3)]) rfl nd (vi_range1 rfl T.n_range (va_cons (vd_name 2 (pv 2)) va_nil)) (blkOk_by (N := ["_law_bag_here", "_law_letters", "_law_size", "_law_spot"]) (sc := defScope s__law_drawn_name) (by decide +kernel)) (by decide) (fun _ _ _ _ _ => (vg_name (i := 3) nd rfl (by first | exact .inl rfl | exact .inr rfl))) (fun _ _ _ _ _ => vts_nil) (fun _ _ _ _ _ => (vd_vf (vf_sub (hu_of hr) (vr_name 1 (pv 1)) (vr_vd (vd_vf (vf_call (ds := []) (dvs := []) (dd := []) g__law_take (hr.mono (by decide)) takes0 rfl T.m__law_take D__law_take.kp b__law_take .nil (fun _ _ => .nil) (var_cons (vr_name 0 (pv 0)) (var_cons (vr_vd vd_int) var_nil)) rfl (ml_cons (ml_cons ml_nil))))))))))))))))
abbrev s__law_unlike_names : Stmt := top 7
def m__law_unlike_names_c0 : M O := (mComp [8] (mItems (ret (.str "abcdefghijklmnopqrstuvwxyz"))) (tnm 8) (ret true) (mFrz (op2 fAdd (mSl 8) (mVa (mFrz (slM fSl (mSl 5) (mPart (ret (.int 1))) (mPart (ret (.int 7)))))))))
def m__law_unlike_names_c1 : M O := (mComp [8] (mItems (ret (.str "abcdefghijklmnopqrstuvwxyz"))) (tnm 8) (ret true) (mFrz (op2 fAdd (mVa (mFrz (op2 fAdd (mSl 8) (mVa (ret (.str "x")))))) (mVa (mFrz (slM fSl (mSl 5) (mPart (ret (.int 1))) (mPart (ret (.int 7)))))))))
def m__law_unlike_names_c2 : M O := (mComp [8] (mItems (mName 7)) (tnm 8) (mT (op2 fNotIn (mSl 8) (mSl 6))) (mName 8))
def m__law_unlike_names_b3 : SM := (then_ (mSet 5 (mCall F__law_drawn_name [] (mConsR (mSl 0) (ret [])))) (then_ (mSet 6 (op2 fAdd (mSl 3) (mVa (mFrz (opN fList (mConsR (mSl 2) (ret []))))))) (then_ (mIfS (mT (op2 fIn (mSl 5) (mSl 6))) (then_ (mSet 7 m__law_unlike_names_c0) (then_ (mSet 7 (op2 fAdd (mSl 7) (mVa (mFrz m__law_unlike_names_c1)))) (mSet 5 (op2 fIx (mVa (mFrz m__law_unlike_names_c2)) (mVa (ret (.int 0))))))) (Vs.ret .nx)) (mDrop (mMeL 3 fAppend (mCons (mName 5) (ret [])))))))
def m__law_unlike_names_l3 : SM := (mFor (mRange1 (mCons (mName 1) (ret []))) (tnm 4) m__law_unlike_names_b3)
def m__law_unlike_names : SM := (then_ (mSet 3 (mkLst (ret []))) (then_ m__law_unlike_names_l3 (mRetSl 0 3)))
def F__law_unlike_names : Fn := mkFn 9 m__law_unlike_names
theorem sc__law_unlike_names : FnScope ["_law_bag_here", "_law_size", "_law_taken", "_law_found", "_law_spot", "_law_word", "_law_used", "_law_tails", "_law_one"] ["_law_bag_here", "_law_size", "_law_taken"] (defScope s__law_unlike_names) := ⟨rfl, rfl, rfl, by decide +kernel, rfl, by decide +kernel, by decide +kernel⟩
theorem ok__law_unlike_names (F : FunD K "_law_unlike_names" "_law_unlike_names" (defArgs s__law_unlike_names) (defBody s__law_unlike_names) (defScope s__law_unlike_names) [] [] f fd) (T : Tx K mg) (D__law_drawn_name : DefAt P w K mg base (He.fAd K ("_law_drawn_name", none)) 2 ["_law_bag_here"] 1 F__law_drawn_name) : FnOk P w K mg base (L2.CX P w) 3 f fd ["_law_bag_here", "_law_size", "_law_taken"] (spOf K 3 F__law_unlike_names) := by
  obtain ⟨fd__law_drawn_name, g__law_drawn_name, b__law_drawn_name⟩ := D__law_drawn_name.ex
  exact fn_ok F sc__law_unlike_names fun cdv A outer s H E hr => by
    have nd := sc__law_unlike_names.nd
    have tk : Takes (cxOf (L2.CX P w) P w K mg base ["_law_bag_here", "_law_size", "_law_taken", "_law_found", "_law_spot", "_law_word", "_law_used", "_law_tails", "_law_one"] "_law_unlike_names" (defScope s__law_unlike_names) f cdv A outer s H E) (fun cls d _ H => E cls d H) := takes_of rfl rfl rfl rfl
    exact (vss_cons (vs_set (i := 3) nd rfl (by first | exact .inl rfl | exact .inr rfl) (vf_lst va_nil)) (vss_cons (vs_for (passes_of rfl) rfl (vi_range1 rfl T.n_range (va_cons (vd_name 1 (pv 1)) va_nil)) (vg_name (i := 4) nd rfl (by first | exact .inl rfl | exact .inr rfl)) (vss_cons (vs_set (i := 5) nd rfl (by first | exact .inl rfl | exact .inr rfl) (vf_call (ds := []) (dvs := []) (dd := []) g__law_drawn_name (hr.mono (by decide)) tk rfl T.m__law_drawn_name D__law_drawn_name.kp b__law_drawn_name .nil (fun _ _ => .nil) (var_cons (vr_name 0 (pv 0)) var_nil) rfl (ml_cons ml_nil))) (vss_cons (vs_set (i := 6) nd rfl (by first | exact .inl rfl | exact .inr rfl) (vf_add (vr_name 3 (pv 3)) (vr_vd (vd_vf (vf_list T.n_list (var_cons (vr_name 2 (pv 2)) var_nil)))))) (vss_cons (vs_if (vt_in (units65 hr) (vr_name 5 (pv 5)) (vr_name 6 (pv 6))) (vss_cons (vs_setLc (i := 7) (own := [("_law_one", 8)]) rfl nd rfl rfl (sw_true rfl rfl rfl (by decide +kernel)) (vi_seq vd_str) (blkOk_by (N := ["_law_bag_here", "_law_size", "_law_taken", "_law_found", "_law_spot", "_law_word", "_law_used", "_law_tails", "_law_one"]) (sc := defScope s__law_unlike_names) (by decide +kernel)) (by decide) (fun _ _ _ _ _ => (vg_name (i := 8) nd rfl (by first | exact .inl rfl | exact .inr rfl))) (fun _ _ _ _ _ => vts_nil) (fun _ _ _ _ _ => (vd_vf (vf_add (vr_name 8 (pv 8)) (vr_vd (vd_vf (vf_slice (vr_name 5 (pv 5)) (vo_some vd_int) (vo_some vd_int)))))))) (vss_cons (vs_set (i := 7) nd rfl (by first | exact .inl rfl | exact .inr rfl) (vf_add (vr_name 7 (pv 7)) (vr_vd (vd_vf (vf_lc (own := [("_law_one", 8)]) rfl nd (vi_seq vd_str) (blkOk_by (N := ["_law_bag_here", "_law_size", "_law_taken", "_law_found", "_law_spot", "_law_word", "_law_used", "_law_tails", "_law_one"]) (sc := defScope s__law_unlike_names) (by decide +kernel)) (by decide) (fun _ _ _ _ _ => (vg_name (i := 8) nd rfl (by first | exact .inl rfl | exact .inr rfl))) (fun _ _ _ _ _ => vts_nil) (fun _ _ _ _ _ => (vd_vf (vf_add (vr_vd (vd_vf (vf_add (vr_name 8 (pv 8)) (vr_vd vd_str)))) (vr_vd (vd_vf (vf_slice (vr_name 5 (pv 5)) (vo_some vd_int) (vo_some vd_int)))))))))))) (vss_one (vs_set (i := 5) nd rfl (by first | exact .inl rfl | exact .inr rfl) (vf_sub (hu_of hr) (vr_vd (vd_vf (vf_lc (own := [("_law_one", 8)]) rfl nd (vi_seq (vd_name 7 (pv 7))) (blkOk_by (N := ["_law_bag_here", "_law_size", "_law_taken", "_law_found", "_law_spot", "_law_word", "_law_used", "_law_tails", "_law_one"]) (sc := defScope s__law_unlike_names) (by decide +kernel)) (by decide) (fun _ _ _ _ _ => (vg_name (i := 8) nd rfl (by first | exact .inl rfl | exact .inr rfl))) (fun _ _ _ _ _ => (vts_one (vt_notin (units65 hr) (vr_name 8 (pv 8)) (vr_name 6 (pv 6))))) (fun _ _ _ _ _ => (vd_name 8 (pv 8)))))) (vr_vd vd_int)))))) vss_nil) (vss_one (vs_expr (vf_append 3 (pv 3) (va_cons (vd_name 5 (pv 5)) va_nil)))))))) (vss_one (vs_retSl 0 3 (pv 3)))))
abbrev s__law_rising : Stmt := top 8
def m__law_rising_b0 : SM := (then_ (mSet 6 (op2 fSub (mVa (mFrz (op2 fSub (mSl 2) (mSl 5)))) (mVa (mFrz (op2 fSub (mVa (mFrz (op2 fSub (mSl 1) (mSl 3)))) (mVa (ret (.int 1)))))))) (then_ (mSet 5 (op2 fAdd (mVa (mFrz (op2 fAdd (mSl 5) (mVa (ret (.int 1)))))) (mVa (mFrz (mCall F__law_take [] (mConsR (mSl 0) (mConsR (mVa (mFrz (op2 fIx (mVa (mFrz (mkLst (mCons (mName 6) (mCons (mFrz (opN fMin (mConsR (mSl 6) (mConsR (mVa (ret (.int 3))) (ret []))))) (ret [])))))) (mVa (mFrz (mCall F__law_take [] (mConsR (mSl 0) (mConsR (mVa (ret (.int 2))) (ret []))))))))) (ret [])))))))) (mDrop (mMeL 4 fAppend (mCons (mName 5) (ret []))))))
def m__law_rising_l0 : SM := (mFor (mRange1 (mCons (mName 1) (ret []))) (tnm 3) m__law_rising_b0)
def m__law_rising : SM := (then_ (mParO [4, 5] (mConsO (mkLst (ret [])) (mConsO (mSh (ret (.int 0))) (ret [])))) (then_ m__law_rising_l0 (mRetSl 0 4)))
def F__law_rising : Fn := mkFn 7 m__law_rising
theorem sc__law_rising : FnScope ["_law_bag_here", "_law_size", "_law_most", "_law_spot", "_law_found", "_law_last", "_law_wide"] ["_law_bag_here", "_law_size", "_law_most"] (defScope s__law_rising) := ⟨rfl, rfl, rfl, by decide +kernel, rfl, by decide +kernel, by decide +kernel⟩
theorem ok__law_rising (F : FunD K "_law_rising" "_law_rising" (defArgs s__law_rising) (defBody s__law_rising) (defScope s__law_rising) [] [] f fd) (T : Tx K mg) (D__law_take : DefAt P w K mg base (He.fAd K ("_law_take", none)) 1 ["_law_bag_here", "_law_size"] 2 F__law_take) : FnOk P w K mg base (L2.CX P w) 2 f fd ["_law_bag_here", "_law_size", "_law_most"] (spOf K 3 F__law_rising) := by
  obtain ⟨fd__law_take, g__law_take, b__law_take⟩ := D__law_take.ex
  exact fn_ok F sc__law_rising fun cdv A outer s H E hr => by
    have nd := sc__law_rising.nd
    have tk : Takes (cxOf (L2.CX P w) P w K mg base ["_law_bag_here", "_law_size", "_law_most", "_law_spot", "_law_found", "_law_last", "_law_wide"] "_law_rising" (defScope s__law_rising) f cdv A outer s H E) (fun cls d _ H => E cls d H) := takes_of rfl rfl rfl rfl
    exact (vss_cons (vs_par2 (i := 4) (j := 5) rfl nd rfl rfl (by decide) rfl rfl (vos_cons (vf_lst va_nil) (vos_cons (vf_vd vd_int) vos_nil)) rfl) (vss_cons (vs_for (passes_of rfl) rfl (vi_range1 rfl T.n_range (va_cons (vd_name 1 (pv 1)) va_nil)) (vg_name (i := 3) nd rfl (by first | exact .inl rfl | exact .inr rfl)) (vss_cons (vs_set (i := 6) nd rfl (by first | exact .inl rfl | exact .inr rfl) (vf_sub2 (vr_vd (vd_vf (vf_sub2 (vr_name 2 (pv 2)) (vr_name 5 (pv 5))))) (vr_vd (vd_vf (vf_sub2 (vr_vd (vd_vf (vf_sub2 (vr_name 1 (pv 1)) (vr_name 3 (pv 3))))) (vr_vd vd_int)))))) (vss_cons (vs_set (i := 5) nd rfl (by first | exact .inl rfl | exact .inr rfl) (vf_add (vr_vd (vd_vf (vf_add (vr_name 5 (pv 5)) (vr_vd vd_int)))) (vr_vd (vd_vf (vf_call (ds := []) (dvs := []) (dd := []) g__law_take (hr.mono (by decide)) tk rfl T.m__law_take D__law_take.kp b__law_take .nil (fun _ _ => .nil) (var_cons (vr_name 0 (pv 0)) (var_cons (vr_vd (vd_vf (vf_sub (hu_of hr) (vr_vd (vd_vf (vf_lst (va_cons (vd_name 6 (pv 6)) (va_cons (vd_vf (vf_min rfl T.n_min (var_cons (vr_name 6 (pv 6)) (var_cons (vr_vd vd_int) var_nil)))) va_nil))))) (vr_vd (vd_vf (vf_call (ds := []) (dvs := []) (dd := []) g__law_take (hr.mono (by decide)) tk rfl T.m__law_take D__law_take.kp b__law_take .nil (fun _ _ => .nil) (var_cons (vr_name 0 (pv 0)) (var_cons (vr_vd vd_int) var_nil)) rfl (ml_cons (ml_cons ml_nil)))))))) var_nil)) rfl (ml_cons (ml_cons ml_nil))))))) (vss_one (vs_expr (vf_append 4 (pv 4) (va_cons (vd_name 5 (pv 5)) va_nil))))))) (vss_one (vs_retSl 0 4 (pv 4)))))
abbrev s__law_pick : Stmt := top 9
def m__law_pick : SM := (then_ (mSet 3 (op2 fIx (mVa (mFrz (mkLst (mCons (mName 1) (mCons (mFrz (op2 fAdd (mSl 1) (mVa (mFrz (mkLst (mCons (mName 2) (ret []))))))) (ret [])))))) (mVa (mFrz (opN fInt (mConsR (mVa (mOrV (mFrz (op2 fEq (mVa (mFrz (mCall F__law_take [] (mConsR (mSl 0) (mConsR (mVa (ret (.int 8))) (ret [])))))) (mVa (ret (.int 0))))) (mFrz (op2 fEq (mSl 1) (mVa (mFrz (mkLst (ret [])))))))) (ret []))))))) (mRet (op2 fIx (mSl 3) (mVa (mFrz (mCall F__law_take [] (mConsR (mSl 0) (mConsR (mVa (mFrz (opN fLen (mConsR (mSl 3) (ret []))))) (ret [])))))))))
def F__law_pick : Fn := mkFn 4 m__law_pick
theorem sc__law_pick : FnScope ["_law_bag_here", "_law_pool", "_law_strange", "_law_some"] ["_law_bag_here", "_law_pool", "_law_strange"] (defScope s__law_pick) := ⟨rfl, rfl, rfl, by decide +kernel, rfl, by decide +kernel, by decide +kernel⟩
theorem ok__law_pick (F : FunD K "_law_pick" "_law_pick" (defArgs s__law_pick) (defBody s__law_pick) (defScope s__law_pick) [] [] f fd) (T : Tx K mg) (D__law_take : DefAt P w K mg base (He.fAd K ("_law_take", none)) 1 ["_law_bag_here", "_law_size"] 2 F__law_take) : FnOk P w K mg base (L2.CX P w) 2 f fd ["_law_bag_here", "_law_pool", "_law_strange"] (spOf K 3 F__law_pick) := by
  obtain ⟨fd__law_take, g__law_take, b__law_take⟩ := D__law_take.ex
  exact fn_ok F sc__law_pick fun cdv A outer s H E hr => by
    have nd := sc__law_pick.nd
    have tk : Takes (cxOf (L2.CX P w) P w K mg base ["_law_bag_here", "_law_pool", "_law_strange", "_law_some"] "_law_pick" (defScope s__law_pick) f cdv A outer s H E) (fun cls d _ H => E cls d H) := takes_of rfl rfl rfl rfl
    exact (vss_cons (vs_set (i := 3) nd rfl (by first | exact .inl rfl | exact .inr rfl) (vf_sub (hu_of hr) (vr_vd (vd_vf (vf_lst (va_cons (vd_name 1 (pv 1)) (va_cons (vd_vf (vf_add (vr_name 1 (pv 1)) (vr_vd (vd_vf (vf_lst (va_cons (vd_name 2 (pv 2)) va_nil)))))) va_nil))))) (vr_vd (vd_vf (vf_int T.n_int (var_cons (vr_vd (vd_or (vd_vf (vf_eq hr (vr_vd (vd_vf (vf_call (ds := []) (dvs := []) (dd := []) g__law_take (hr.mono (by decide)) tk rfl T.m__law_take D__law_take.kp b__law_take .nil (fun _ _ => .nil) (var_cons (vr_name 0 (pv 0)) (var_cons (vr_vd vd_int) var_nil)) rfl (ml_cons (ml_cons ml_nil))))) (vr_vd vd_int))) (vd_one (vd_vf (vf_eq hr (vr_name 1 (pv 1)) (vr_vd (vd_vf (vf_lst va_nil)))))))) var_nil)))))) (vss_one (vs_ret (vf_sub (hu_of hr) (vr_name 3 (pv 3)) (vr_vd (vd_vf (vf_call (ds := []) (dvs := []) (dd := []) g__law_take (hr.mono (by decide)) tk rfl T.m__law_take D__law_take.kp b__law_take .nil (fun _ _ => .nil) (var_cons (vr_name 0 (pv 0)) (var_cons (vr_vd (vd_vf (vf_len T.n_len (var_cons (vr_name 3 (pv 3)) var_nil)))) var_nil)) rfl (ml_cons (ml_cons ml_nil)))))))))
abbrev s__law_kind_drawn : Stmt := top 10
def m__law_kind_drawn : SM := (then_ (mSet 3 (mCall F__law_take [] (mConsR (mSl 0) (mConsR (mVa (ret (.int 9))) (ret []))))) (then_ (mSet 4 (op2 fIx (mVa (mFrz (mkLst (mCons (ret (.str "whole")) (mCons (ret (.str "truth")) (mCons (ret (.str "text")) (mCons (ret (.str "text")) (mCons (ret (.str "whole")) (ret []))))))))) (mVa (mFrz (op2 fMod (mSl 3) (mVa (ret (.int 5)))))))) (then_ (mIfS (mT (op2 fIn (mSl 3) (mVa (mkTup (mCons (ret (.int 5)) (mCons (ret (.int 6)) (ret []))))))) (mSet 4 (mSh (mkTup (mCons (ret (.str "choice")) (mCons (mFrz (mCall F__law_pick [] (mConsR (mSl 0) (mConsR (mSl 1) (mConsR (mVa (ret (.str "menu"))) (ret [])))))) (ret [])))))) (Vs.ret .nx)) (then_ (mIfS (mT (op2 fIn (mSl 3) (mVa (mkTup (mCons (ret (.int 7)) (mCons (ret (.int 8)) (ret []))))))) (mSet 4 (mSh (mkTup (mCons (ret (.str "record")) (mCons (mFrz (mCall F__law_pick [] (mConsR (mSl 0) (mConsR (mSl 2) (mConsR (mVa (ret (.str "form"))) (ret [])))))) (ret [])))))) (Vs.ret .nx)) (mRet (op2 fIx (mVa (mFrz (mkLst (mCons (mName 4) (mCons (mName 4) (mCons (mkTup (mCons (ret (.str "list")) (mCons (mName 4) (ret [])))) (ret []))))))) (mVa (mFrz (mCall F__law_take [] (mConsR (mSl 0) (mConsR (mVa (ret (.int 3))) (ret []))))))))))))
def F__law_kind_drawn : Fn := mkFn 5 m__law_kind_drawn
theorem sc__law_kind_drawn : FnScope ["_law_bag_here", "_law_menus", "_law_forms", "_law_way", "_law_kind"] ["_law_bag_here", "_law_menus", "_law_forms"] (defScope s__law_kind_drawn) := ⟨rfl, rfl, rfl, by decide +kernel, rfl, by decide +kernel, by decide +kernel⟩
theorem ok__law_kind_drawn (F : FunD K "_law_kind_drawn" "_law_kind_drawn" (defArgs s__law_kind_drawn) (defBody s__law_kind_drawn) (defScope s__law_kind_drawn) [] [] f fd) (T : Tx K mg) (D__law_take : DefAt P w K mg base (He.fAd K ("_law_take", none)) 1 ["_law_bag_here", "_law_size"] 2 F__law_take) (D__law_pick : DefAt P w K mg base (He.fAd K ("_law_pick", none)) 2 ["_law_bag_here", "_law_pool", "_law_strange"] 3 F__law_pick) : FnOk P w K mg base (L2.CX P w) 3 f fd ["_law_bag_here", "_law_menus", "_law_forms"] (spOf K 3 F__law_kind_drawn) := by
  obtain ⟨fd__law_take, g__law_take, b__law_take⟩ := D__law_take.ex
  obtain ⟨fd__law_pick, g__law_pick, b__law_pick⟩ := D__law_pick.ex
  exact fn_ok F sc__law_kind_drawn fun cdv A outer s H E hr => by
    have nd := sc__law_kind_drawn.nd
    have tk : Takes (cxOf (L2.CX P w) P w K mg base ["_law_bag_here", "_law_menus", "_law_forms", "_law_way", "_law_kind"] "_law_kind_drawn" (defScope s__law_kind_drawn) f cdv A outer s H E) (fun cls d _ H => E cls d H) := takes_of rfl rfl rfl rfl
    exact (vss_cons (vs_set (i := 3) nd rfl (by first | exact .inl rfl | exact .inr rfl) (vf_call (ds := []) (dvs := []) (dd := []) g__law_take (hr.mono (by decide)) tk rfl T.m__law_take D__law_take.kp b__law_take .nil (fun _ _ => .nil) (var_cons (vr_name 0 (pv 0)) (var_cons (vr_vd vd_int) var_nil)) rfl (ml_cons (ml_cons ml_nil)))) (vss_cons (vs_set (i := 4) nd rfl (by first | exact .inl rfl | exact .inr rfl) (vf_sub (hu_of hr) (vr_vd (vd_vf (vf_lst (va_cons vd_str (va_cons vd_str (va_cons vd_str (va_cons vd_str (va_cons vd_str va_nil)))))))) (vr_vd (vd_vf (vf_mod (vr_name 3 (pv 3)) (vr_vd vd_int)))))) (vss_cons (vs_if (vt_in (units65 hr) (vr_name 3 (pv 3)) (vr_vd (vd_tup (va_cons vd_int (va_cons vd_int va_nil))))) (vss_one (vs_set (i := 4) nd rfl (by first | exact .inl rfl | exact .inr rfl) (vf_vd (vd_tup (va_cons vd_str (va_cons (vd_vf (vf_call (ds := []) (dvs := []) (dd := []) g__law_pick (hr.mono (by decide)) tk rfl T.m__law_pick D__law_pick.kp b__law_pick .nil (fun _ _ => .nil) (var_cons (vr_name 0 (pv 0)) (var_cons (vr_name 1 (pv 1)) (var_cons (vr_vd vd_str) var_nil))) rfl (ml_cons (ml_cons (ml_cons ml_nil))))) va_nil)))))) vss_nil) (vss_cons (vs_if (vt_in (units65 hr) (vr_name 3 (pv 3)) (vr_vd (vd_tup (va_cons vd_int (va_cons vd_int va_nil))))) (vss_one (vs_set (i := 4) nd rfl (by first | exact .inl rfl | exact .inr rfl) (vf_vd (vd_tup (va_cons vd_str (va_cons (vd_vf (vf_call (ds := []) (dvs := []) (dd := []) g__law_pick (hr.mono (by decide)) tk rfl T.m__law_pick D__law_pick.kp b__law_pick .nil (fun _ _ => .nil) (var_cons (vr_name 0 (pv 0)) (var_cons (vr_name 2 (pv 2)) (var_cons (vr_vd vd_str) var_nil))) rfl (ml_cons (ml_cons (ml_cons ml_nil))))) va_nil)))))) vss_nil) (vss_one (vs_ret (vf_sub (hu_of hr) (vr_vd (vd_vf (vf_lst (va_cons (vd_name 4 (pv 4)) (va_cons (vd_name 4 (pv 4)) (va_cons (vd_tup (va_cons vd_str (va_cons (vd_name 4 (pv 4)) va_nil))) va_nil)))))) (vr_vd (vd_vf (vf_call (ds := []) (dvs := []) (dd := []) g__law_take (hr.mono (by decide)) tk rfl T.m__law_take D__law_take.kp b__law_take .nil (fun _ _ => .nil) (var_cons (vr_name 0 (pv 0)) (var_cons (vr_vd vd_int) var_nil)) rfl (ml_cons (ml_cons ml_nil))))))))))))
abbrev s__law_unlike : Stmt := top 12
def m__law_unlike_c0 : M O := (mComp [3] (mRange1 (mCons (mName 1) (ret []))) (tnm 3) (ret true) (mFrz (mMeL 2 fPopAt (mCons (mFrz (mCall F__law_take [] (mConsR (mSl 0) (mConsR (mVa (mFrz (opN fLen (mConsR (mSl 2) (ret []))))) (ret []))))) (ret [])))))
def m__law_unlike : SM := (then_ (mSet 2 (mkLst (mCons (ret (.str "a")) (mCons (ret (.str "b")) (mCons (ret (.str "c")) (mCons (ret (.str "id")) (mCons (ret (.str "sum")) (mCons (ret (.str "who")) (mCons (ret (.str "note")) (mCons (ret (.str "longname")) (ret []))))))))))) (then_ (mIfS (mT (op2 fEq (mVa (mFrz (mCall F__law_take [] (mConsR (mSl 0) (mConsR (mVa (ret (.int 3))) (ret [])))))) (mVa (ret (.int 0))))) (mRet (mCall F__law_unlike_names [] (mConsR (mSl 0) (mConsR (mSl 1) (mConsR (mVa (mFrz (mkLst (ret [])))) (ret [])))))) (Vs.ret .nx)) (mRet m__law_unlike_c0)))
def F__law_unlike : Fn := mkFn 4 m__law_unlike
theorem sc__law_unlike : FnScope ["_law_bag_here", "_law_size", "_law_few", "_law_spot"] ["_law_bag_here", "_law_size"] (defScope s__law_unlike) := ⟨rfl, rfl, rfl, by decide +kernel, rfl, by decide +kernel, by decide +kernel⟩
theorem ok__law_unlike (F : FunD K "_law_unlike" "_law_unlike" (defArgs s__law_unlike) (defBody s__law_unlike) (defScope s__law_unlike) [] [] f fd) (T : Tx K mg) (D__law_take : DefAt P w K mg base (He.fAd K ("_law_take", none)) 1 ["_law_bag_here", "_law_size"] 2 F__law_take) (D__law_unlike_names : DefAt P w K mg base (He.fAd K ("_law_unlike_names", none)) 3 ["_law_bag_here", "_law_size", "_law_taken"] 3 F__law_unlike_names) : FnOk P w K mg base (L2.CX P w) 4 f fd ["_law_bag_here", "_law_size"] (spOf K 2 F__law_unlike) := by
  obtain ⟨fd__law_take, g__law_take, b__law_take⟩ := D__law_take.ex
  obtain ⟨fd__law_unlike_names, g__law_unlike_names, b__law_unlike_names⟩ := D__law_unlike_names.ex
  exact fn_ok F sc__law_unlike fun cdv A outer s H E hr => by
    have nd := sc__law_unlike.nd
    have tk : Takes (cxOf (L2.CX P w) P w K mg base ["_law_bag_here", "_law_size", "_law_few", "_law_spot"] "_law_unlike" (defScope s__law_unlike) f cdv A outer s H E) (fun cls d _ H => E cls d H) := takes_of rfl rfl rfl rfl
    exact (vss_cons (vs_set (i := 2) nd rfl (by first | exact .inl rfl | exact .inr rfl) (vf_lst (va_cons vd_str (va_cons vd_str (va_cons vd_str (va_cons vd_str (va_cons vd_str (va_cons vd_str (va_cons vd_str (va_cons vd_str va_nil)))))))))) (vss_cons (vs_if (vt_eq hr (vr_vd (vd_vf (vf_call (ds := []) (dvs := []) (dd := []) g__law_take (hr.mono (by decide)) tk rfl T.m__law_take D__law_take.kp b__law_take .nil (fun _ _ => .nil) (var_cons (vr_name 0 (pv 0)) (var_cons (vr_vd vd_int) var_nil)) rfl (ml_cons (ml_cons ml_nil))))) (vr_vd vd_int)) (vss_one (vs_ret (vf_call (ds := []) (dvs := []) (dd := []) g__law_unlike_names (hr.mono (by decide)) tk rfl T.m__law_unlike_names D__law_unlike_names.kp b__law_unlike_names .nil (fun _ _ => .nil) (var_cons (vr_name 0 (pv 0)) (var_cons (vr_name 1 (pv 1)) (var_cons (vr_vd (vd_vf (vf_lst va_nil))) var_nil))) rfl (ml_cons (ml_cons (ml_cons ml_nil)))))) vss_nil) (vss_one (vs_ret (vf_lc (own := [("_law_spot", 3)]) rfl nd (vi_range1 rfl T.n_range (va_cons (vd_name 1 (pv 1)) va_nil)) (blkOk_by (N := ["_law_bag_here", "_law_size", "_law_few", "_law_spot"]) (sc := defScope s__law_unlike) (by decide +kernel)) (by decide) (fun _ _ _ _ _ => (vg_name (i := 3) nd rfl (by first | exact .inl rfl | exact .inr rfl))) (fun _ _ _ _ _ => vts_nil) (fun _ _ _ _ _ => (vd_vf (vf_popAt 2 (pv 2) (va_cons (vd_vf (vf_call (ds := []) (dvs := []) (dd := []) g__law_take (hr.mono (by decide)) takes0 rfl T.m__law_take D__law_take.kp b__law_take .nil (fun _ _ => .nil) (var_cons (vr_name 0 (pv 0)) (var_cons (vr_vd (vd_vf (vf_len T.n_len (var_cons (vr_name 2 (pv 2)) var_nil)))) var_nil)) rfl (ml_cons (ml_cons ml_nil)))) va_nil)))))))))
abbrev s__law_form_drawn : Stmt := top 11
def m__law_form_drawn_b0 : SM := (mDrop (mMeL 5 fAppend (mCons (mkTup (mCons (mName 6) (mCons (mName 7) (mCons (mFrz (mCall F__law_kind_drawn [] (mConsR (mSl 0) (mConsR (mSl 1) (mConsR (mSl 2) (ret [])))))) (mCons (mFrz (op2 fIx (mVa (mFrz (mkLst (mCons (ret (.str "must")) (mCons (ret (.str "may")) (ret [])))))) (mVa (mFrz (mCall F__law_take [] (mConsR (mSl 0) (mConsR (mVa (ret (.int 2))) (ret [])))))))) (ret [])))))) (ret []))))
def m__law_form_drawn_l0 : SM := (mFor (mZip (mCons (mName 4) (mCons (mFrz (mCall F__law_unlike [] (mConsR (mSl 0) (mConsR (mSl 3) (ret []))))) (ret [])))) (ttup 2 (tgCons (tnm 6) (tgCons (tnm 7) tgNil))) m__law_form_drawn_b0)
def m__law_form_drawn : SM := (then_ (mSet 3 (mCall F__law_take [] (mConsR (mSl 0) (mConsR (mVa (ret (.int 6))) (ret []))))) (then_ (mParO [4, 5] (mConsO (mSh (mFrz (mCall F__law_rising [] (mConsR (mSl 0) (mConsR (mSl 3) (mConsR (mVa (ret (.int 30))) (ret []))))))) (mConsO (mkLst (ret [])) (ret [])))) (then_ m__law_form_drawn_l0 (mRet (opN fTuple (mConsR (mSl 5) (ret [])))))))
def F__law_form_drawn : Fn := mkFn 8 m__law_form_drawn
theorem sc__law_form_drawn : FnScope ["_law_bag_here", "_law_menus", "_law_forms", "_law_size", "_law_marks", "_law_found", "_law_mark", "_law_word"] ["_law_bag_here", "_law_menus", "_law_forms"] (defScope s__law_form_drawn) := ⟨rfl, rfl, rfl, by decide +kernel, rfl, by decide +kernel, by decide +kernel⟩
theorem ok__law_form_drawn (F : FunD K "_law_form_drawn" "_law_form_drawn" (defArgs s__law_form_drawn) (defBody s__law_form_drawn) (defScope s__law_form_drawn) [] [] f fd) (T : Tx K mg) (D__law_take : DefAt P w K mg base (He.fAd K ("_law_take", none)) 1 ["_law_bag_here", "_law_size"] 2 F__law_take) (D__law_rising : DefAt P w K mg base (He.fAd K ("_law_rising", none)) 2 ["_law_bag_here", "_law_size", "_law_most"] 3 F__law_rising) (D__law_unlike : DefAt P w K mg base (He.fAd K ("_law_unlike", none)) 4 ["_law_bag_here", "_law_size"] 2 F__law_unlike) (D__law_kind_drawn : DefAt P w K mg base (He.fAd K ("_law_kind_drawn", none)) 3 ["_law_bag_here", "_law_menus", "_law_forms"] 3 F__law_kind_drawn) : FnOk P w K mg base (L2.CX P w) 5 f fd ["_law_bag_here", "_law_menus", "_law_forms"] (spOf K 3 F__law_form_drawn) := by
  obtain ⟨fd__law_take, g__law_take, b__law_take⟩ := D__law_take.ex
  obtain ⟨fd__law_rising, g__law_rising, b__law_rising⟩ := D__law_rising.ex
  obtain ⟨fd__law_unlike, g__law_unlike, b__law_unlike⟩ := D__law_unlike.ex
  obtain ⟨fd__law_kind_drawn, g__law_kind_drawn, b__law_kind_drawn⟩ := D__law_kind_drawn.ex
  exact fn_ok F sc__law_form_drawn fun cdv A outer s H E hr => by
    have nd := sc__law_form_drawn.nd
    have tk : Takes (cxOf (L2.CX P w) P w K mg base ["_law_bag_here", "_law_menus", "_law_forms", "_law_size", "_law_marks", "_law_found", "_law_mark", "_law_word"] "_law_form_drawn" (defScope s__law_form_drawn) f cdv A outer s H E) (fun cls d _ H => E cls d H) := takes_of rfl rfl rfl rfl
    exact (vss_cons (vs_set (i := 3) nd rfl (by first | exact .inl rfl | exact .inr rfl) (vf_call (ds := []) (dvs := []) (dd := []) g__law_take (hr.mono (by decide)) tk rfl T.m__law_take D__law_take.kp b__law_take .nil (fun _ _ => .nil) (var_cons (vr_name 0 (pv 0)) (var_cons (vr_vd vd_int) var_nil)) rfl (ml_cons (ml_cons ml_nil)))) (vss_cons (vs_par2 (i := 4) (j := 5) rfl nd rfl rfl (by decide) rfl rfl (vos_cons (vf_vd (vd_vf (vf_call (ds := []) (dvs := []) (dd := []) g__law_rising (hr.mono (by decide)) tk rfl T.m__law_rising D__law_rising.kp b__law_rising .nil (fun _ _ => .nil) (var_cons (vr_name 0 (pv 0)) (var_cons (vr_name 3 (pv 3)) (var_cons (vr_vd vd_int) var_nil))) rfl (ml_cons (ml_cons (ml_cons ml_nil)))))) (vos_cons (vf_lst va_nil) vos_nil)) rfl) (vss_cons (vs_for (passes_of rfl) rfl (vi_zip rfl T.n_zip (va_cons (vd_name 4 (pv 4)) (va_cons (vd_vf (vf_call (ds := []) (dvs := []) (dd := []) g__law_unlike (hr.mono (by decide)) tk rfl T.m__law_unlike D__law_unlike.kp b__law_unlike .nil (fun _ _ => .nil) (var_cons (vr_name 0 (pv 0)) (var_cons (vr_name 3 (pv 3)) var_nil)) rfl (ml_cons (ml_cons ml_nil)))) va_nil))) (vg_tup rfl (vgs_cons (vg_name (i := 6) nd rfl (by first | exact .inl rfl | exact .inr rfl)) (vgs_cons (vg_name (i := 7) nd rfl (by first | exact .inl rfl | exact .inr rfl)) vgs_nil))) (vss_one (vs_expr (vf_append 5 (pv 5) (va_cons (vd_tup (va_cons (vd_name 6 (pv 6)) (va_cons (vd_name 7 (pv 7)) (va_cons (vd_vf (vf_call (ds := []) (dvs := []) (dd := []) g__law_kind_drawn (hr.mono (by decide)) tk rfl T.m__law_kind_drawn D__law_kind_drawn.kp b__law_kind_drawn .nil (fun _ _ => .nil) (var_cons (vr_name 0 (pv 0)) (var_cons (vr_name 1 (pv 1)) (var_cons (vr_name 2 (pv 2)) var_nil))) rfl (ml_cons (ml_cons (ml_cons ml_nil))))) (va_cons (vd_vf (vf_sub (hu_of hr) (vr_vd (vd_vf (vf_lst (va_cons vd_str (va_cons vd_str va_nil))))) (vr_vd (vd_vf (vf_call (ds := []) (dvs := []) (dd := []) g__law_take (hr.mono (by decide)) tk rfl T.m__law_take D__law_take.kp b__law_take .nil (fun _ _ => .nil) (var_cons (vr_name 0 (pv 0)) (var_cons (vr_vd vd_int) var_nil)) rfl (ml_cons (ml_cons ml_nil))))))) va_nil))))) va_nil))))) (vss_one (vs_ret (vf_tuple T.n_tuple (var_cons (vr_name 5 (pv 5)) var_nil)))))))
abbrev s__law_deed_drawn : Stmt := top 13
def m__law_deed_drawn : SM := (then_ (mSet 4 (op2 fIx (mVa (mFrz (mkLst (mCons (ret (.str "take")) (mCons (ret (.str "add")) (mCons (ret (.str "tell")) (mCons (ret (.str "copy")) (mCons (ret (.str "ask")) (mCons (ret (.str "get")) (mCons (ret (.str "tell")) (mCons (ret (.str "copy")) (ret [])))))))))))) (mVa (mFrz (mCall F__law_take [] (mConsR (mSl 0) (mConsR (mVa (ret (.int 8))) (ret [])))))))) (then_ (mIfS (mT (op2 fEq (mSl 4) (mVa (ret (.str "take"))))) (mRet (mSh (mkTup (mCons (mName 4) (mCons (mFrz (mCall F__law_pick [] (mConsR (mSl 0) (mConsR (mSl 2) (mConsR (mVa (ret (.str "in"))) (ret [])))))) (mCons (mFrz (mCall F__law_pick [] (mConsR (mSl 0) (mConsR (mSl 2) (mConsR (mVa (ret (.str "in"))) (ret [])))))) (mCons (mFrz (mCall F__law_drawn_name [] (mConsR (mSl 0) (ret [])))) (ret [])))))))) (Vs.ret .nx)) (then_ (mIfS (mT (op2 fEq (mSl 4) (mVa (ret (.str "add"))))) (mRet (mSh (mkTup (mCons (mName 4) (mCons (mFrz (mCall F__law_pick [] (mConsR (mSl 0) (mConsR (mSl 2) (mConsR (mVa (ret (.str "in"))) (ret [])))))) (mCons (mFrz (mCall F__law_pick [] (mConsR (mSl 0) (mConsR (mSl 2) (mConsR (mVa (ret (.str "in"))) (ret [])))))) (ret []))))))) (Vs.ret .nx)) (then_ (mIfS (mT (op2 fEq (mSl 4) (mVa (ret (.str "ask"))))) (mRet (mSh (mkTup (mCons (mName 4) (mCons (mFrz (op2 fIx (mVa (mFrz (mkLst (mCons (ret (.str "bank")) (mCons (ret (.str "shop")) (mCons (ret (.str "till")) (mCons (mName 1) (ret [])))))))) (mVa (mFrz (mCall F__law_take [] (mConsR (mSl 0) (mConsR (mVa (ret (.int 4))) (ret [])))))))) (mCons (mFrz (op2 fIx (mVa (mFrz (mkLst (mCons (ret (.str "pay")) (mCons (ret (.str "see")) (mCons (ret (.str "a")) (ret []))))))) (mVa (mFrz (mCall F__law_take [] (mConsR (mSl 0) (mConsR (mVa (ret (.int 3))) (ret [])))))))) (ret []))))))) (Vs.ret .nx)) (mRet (mSh (mkTup (mCons (mName 4) (mCons (mFrz (mCall F__law_pick [] (mConsR (mSl 0) (mConsR (mSl 3) (mConsR (mVa (ret (.str "out"))) (ret [])))))) (mCons (mFrz (mCall F__law_pick [] (mConsR (mSl 0) (mConsR (mVa (mFrz (op2 fIx (mVa (mFrz (mkLst (mCons (mName 2) (mCons (mName 3) (ret [])))))) (mVa (mFrz (opN fInt (mConsR (mVa (mFrz (op2 fEq (mSl 4) (mVa (ret (.str "get")))))) (ret [])))))))) (mConsR (mVa (ret (.str "in"))) (ret [])))))) (ret [])))))))))))
def F__law_deed_drawn : Fn := mkFn 5 m__law_deed_drawn
theorem sc__law_deed_drawn : FnScope ["_law_bag_here", "_law_own", "_law_ins", "_law_outs", "_law_way"] ["_law_bag_here", "_law_own", "_law_ins", "_law_outs"] (defScope s__law_deed_drawn) := ⟨rfl, rfl, rfl, by decide +kernel, rfl, by decide +kernel, by decide +kernel⟩
theorem ok__law_deed_drawn (F : FunD K "_law_deed_drawn" "_law_deed_drawn" (defArgs s__law_deed_drawn) (defBody s__law_deed_drawn) (defScope s__law_deed_drawn) [] [] f fd) (T : Tx K mg) (D__law_take : DefAt P w K mg base (He.fAd K ("_law_take", none)) 1 ["_law_bag_here", "_law_size"] 2 F__law_take) (D__law_pick : DefAt P w K mg base (He.fAd K ("_law_pick", none)) 2 ["_law_bag_here", "_law_pool", "_law_strange"] 3 F__law_pick) (D__law_drawn_name : DefAt P w K mg base (He.fAd K ("_law_drawn_name", none)) 2 ["_law_bag_here"] 1 F__law_drawn_name) : FnOk P w K mg base (L2.CX P w) 3 f fd ["_law_bag_here", "_law_own", "_law_ins", "_law_outs"] (spOf K 4 F__law_deed_drawn) := by
  obtain ⟨fd__law_take, g__law_take, b__law_take⟩ := D__law_take.ex
  obtain ⟨fd__law_pick, g__law_pick, b__law_pick⟩ := D__law_pick.ex
  obtain ⟨fd__law_drawn_name, g__law_drawn_name, b__law_drawn_name⟩ := D__law_drawn_name.ex
  exact fn_ok F sc__law_deed_drawn fun cdv A outer s H E hr => by
    have nd := sc__law_deed_drawn.nd
    have tk : Takes (cxOf (L2.CX P w) P w K mg base ["_law_bag_here", "_law_own", "_law_ins", "_law_outs", "_law_way"] "_law_deed_drawn" (defScope s__law_deed_drawn) f cdv A outer s H E) (fun cls d _ H => E cls d H) := takes_of rfl rfl rfl rfl
    exact (vss_cons (vs_set (i := 4) nd rfl (by first | exact .inl rfl | exact .inr rfl) (vf_sub (hu_of hr) (vr_vd (vd_vf (vf_lst (va_cons vd_str (va_cons vd_str (va_cons vd_str (va_cons vd_str (va_cons vd_str (va_cons vd_str (va_cons vd_str (va_cons vd_str va_nil))))))))))) (vr_vd (vd_vf (vf_call (ds := []) (dvs := []) (dd := []) g__law_take (hr.mono (by decide)) tk rfl T.m__law_take D__law_take.kp b__law_take .nil (fun _ _ => .nil) (var_cons (vr_name 0 (pv 0)) (var_cons (vr_vd vd_int) var_nil)) rfl (ml_cons (ml_cons ml_nil))))))) (vss_cons (vs_if (vt_eq hr (vr_name 4 (pv 4)) (vr_vd vd_str)) (vss_one (vs_ret (vf_vd (vd_tup (va_cons (vd_name 4 (pv 4)) (va_cons (vd_vf (vf_call (ds := []) (dvs := []) (dd := []) g__law_pick (hr.mono (by decide)) tk rfl T.m__law_pick D__law_pick.kp b__law_pick .nil (fun _ _ => .nil) (var_cons (vr_name 0 (pv 0)) (var_cons (vr_name 2 (pv 2)) (var_cons (vr_vd vd_str) var_nil))) rfl (ml_cons (ml_cons (ml_cons ml_nil))))) (va_cons (vd_vf (vf_call (ds := []) (dvs := []) (dd := []) g__law_pick (hr.mono (by decide)) tk rfl T.m__law_pick D__law_pick.kp b__law_pick .nil (fun _ _ => .nil) (var_cons (vr_name 0 (pv 0)) (var_cons (vr_name 2 (pv 2)) (var_cons (vr_vd vd_str) var_nil))) rfl (ml_cons (ml_cons (ml_cons ml_nil))))) (va_cons (vd_vf (vf_call (ds := []) (dvs := []) (dd := []) g__law_drawn_name (hr.mono (by decide)) tk rfl T.m__law_drawn_name D__law_drawn_name.kp b__law_drawn_name .nil (fun _ _ => .nil) (var_cons (vr_name 0 (pv 0)) var_nil) rfl (ml_cons ml_nil))) va_nil)))))))) vss_nil) (vss_cons (vs_if (vt_eq hr (vr_name 4 (pv 4)) (vr_vd vd_str)) (vss_one (vs_ret (vf_vd (vd_tup (va_cons (vd_name 4 (pv 4)) (va_cons (vd_vf (vf_call (ds := []) (dvs := []) (dd := []) g__law_pick (hr.mono (by decide)) tk rfl T.m__law_pick D__law_pick.kp b__law_pick .nil (fun _ _ => .nil) (var_cons (vr_name 0 (pv 0)) (var_cons (vr_name 2 (pv 2)) (var_cons (vr_vd vd_str) var_nil))) rfl (ml_cons (ml_cons (ml_cons ml_nil))))) (va_cons (vd_vf (vf_call (ds := []) (dvs := []) (dd := []) g__law_pick (hr.mono (by decide)) tk rfl T.m__law_pick D__law_pick.kp b__law_pick .nil (fun _ _ => .nil) (var_cons (vr_name 0 (pv 0)) (var_cons (vr_name 2 (pv 2)) (var_cons (vr_vd vd_str) var_nil))) rfl (ml_cons (ml_cons (ml_cons ml_nil))))) va_nil))))))) vss_nil) (vss_cons (vs_if (vt_eq hr (vr_name 4 (pv 4)) (vr_vd vd_str)) (vss_one (vs_ret (vf_vd (vd_tup (va_cons (vd_name 4 (pv 4)) (va_cons (vd_vf (vf_sub (hu_of hr) (vr_vd (vd_vf (vf_lst (va_cons vd_str (va_cons vd_str (va_cons vd_str (va_cons (vd_name 1 (pv 1)) va_nil))))))) (vr_vd (vd_vf (vf_call (ds := []) (dvs := []) (dd := []) g__law_take (hr.mono (by decide)) tk rfl T.m__law_take D__law_take.kp b__law_take .nil (fun _ _ => .nil) (var_cons (vr_name 0 (pv 0)) (var_cons (vr_vd vd_int) var_nil)) rfl (ml_cons (ml_cons ml_nil))))))) (va_cons (vd_vf (vf_sub (hu_of hr) (vr_vd (vd_vf (vf_lst (va_cons vd_str (va_cons vd_str (va_cons vd_str va_nil)))))) (vr_vd (vd_vf (vf_call (ds := []) (dvs := []) (dd := []) g__law_take (hr.mono (by decide)) tk rfl T.m__law_take D__law_take.kp b__law_take .nil (fun _ _ => .nil) (var_cons (vr_name 0 (pv 0)) (var_cons (vr_vd vd_int) var_nil)) rfl (ml_cons (ml_cons ml_nil))))))) va_nil))))))) vss_nil) (vss_one (vs_ret (vf_vd (vd_tup (va_cons (vd_name 4 (pv 4)) (va_cons (vd_vf (vf_call (ds := []) (dvs := []) (dd := []) g__law_pick (hr.mono (by decide)) tk rfl T.m__law_pick D__law_pick.kp b__law_pick .nil (fun _ _ => .nil) (var_cons (vr_name 0 (pv 0)) (var_cons (vr_name 3 (pv 3)) (var_cons (vr_vd vd_str) var_nil))) rfl (ml_cons (ml_cons (ml_cons ml_nil))))) (va_cons (vd_vf (vf_call (ds := []) (dvs := []) (dd := []) g__law_pick (hr.mono (by decide)) tk rfl T.m__law_pick D__law_pick.kp b__law_pick .nil (fun _ _ => .nil) (var_cons (vr_name 0 (pv 0)) (var_cons (vr_vd (vd_vf (vf_sub (hu_of hr) (vr_vd (vd_vf (vf_lst (va_cons (vd_name 2 (pv 2)) (va_cons (vd_name 3 (pv 3)) va_nil))))) (vr_vd (vd_vf (vf_int T.n_int (var_cons (vr_vd (vd_vf (vf_eq hr (vr_name 4 (pv 4)) (vr_vd vd_str)))) var_nil))))))) (var_cons (vr_vd vd_str) var_nil))) rfl (ml_cons (ml_cons (ml_cons ml_nil))))) va_nil)))))))))))
abbrev s__law_acts_drawn : Stmt := top 14
def m__law_acts_drawn_c0 : M O := (mComp [12, 14] (mItems (mName 2)) (ttup 2 (tgCons (tnm 12) (tgCons (tnm 14) tgNil))) (ret true) (mName 12))
def m__law_acts_drawn_c1 : M O := (mComp [15] (mItems (mFrz (mGet2 (mVa (mFrz (opN fDict (mConsR (mSl 2) (ret []))))) (mSl 12) (mkTup (ret []))))) (tnm 15) (ret true) (mFrz (op2 fIx (mSl 15) (mVa (ret (.int 1))))))
def m__law_acts_drawn_c2 : M O := (mComp [12] (mItems (mkTup (mCons (mName 10) (mCons (mName 11) (ret []))))) (tnm 12) (ret true) (mFrz m__law_acts_drawn_c1))
def m__law_acts_drawn_c3 : M O := (mComp [13] (mRange1 (mCons (mFrz (mCall F__law_take [] (mConsR (mSl 0) (mConsR (mVa (ret (.int 7))) (ret []))))) (ret []))) (tnm 13) (ret true) (mFrz (mCall F__law_deed_drawn [] (mConsR (mSl 0) (mConsR (mSl 1) (mConsR (mVa (mFrz (op2 fIx (mSl 8) (mVa (ret (.int 0)))))) (mConsR (mVa (mFrz (op2 fIx (mSl 8) (mVa (ret (.int 1)))))) (ret []))))))))
def m__law_acts_drawn_b4 : SM := (then_ (mPar 10 11 (mCons (mFrz (mCall F__law_pick [] (mConsR (mSl 0) (mConsR (mSl 4) (mConsR (mVa (ret (.str "form"))) (ret [])))))) (mCons (mFrz (mCall F__law_pick [] (mConsR (mSl 0) (mConsR (mSl 4) (mConsR (mVa (ret (.str "back"))) (ret [])))))) (ret [])))) (then_ (mSet 8 m__law_acts_drawn_c2) (then_ (mSet 9 m__law_acts_drawn_c3) (mDrop (mMeL 5 fAppend (mCons (mkTup (mCons (mName 6) (mCons (mName 7) (mCons (mName 10) (mCons (mName 11) (mCons (mFrz (opN fTuple (mConsR (mSl 9) (ret [])))) (ret []))))))) (ret [])))))))
def m__law_acts_drawn_l4 : SM := (mFor (mZip (mCons (mFrz (mCall F__law_rising [] (mConsR (mSl 0) (mConsR (mSl 3) (mConsR (mVa (ret (.int 30))) (ret [])))))) (mCons (mFrz (mCall F__law_unlike [] (mConsR (mSl 0) (mConsR (mSl 3) (ret []))))) (ret [])))) (ttup 2 (tgCons (tnm 6) (tgCons (tnm 7) tgNil))) m__law_acts_drawn_b4)
def m__law_acts_drawn : SM := (then_ (mSet 3 (mCall F__law_take [] (mConsR (mSl 0) (mConsR (mVa (ret (.int 7))) (ret []))))) (then_ (mParO [4, 5] (mConsO (mSh (mFrz m__law_acts_drawn_c0)) (mConsO (mkLst (ret [])) (ret [])))) (then_ m__law_acts_drawn_l4 (mRet (opN fTuple (mConsR (mSl 5) (ret [])))))))
def F__law_acts_drawn : Fn := mkFn 16 m__law_acts_drawn
theorem sc__law_acts_drawn : FnScope ["_law_bag_here", "_law_own", "_law_found_forms", "_law_size", "_law_forms", "_law_found", "_law_mark", "_law_word", "_law_sides", "_law_deeds", "_law_ask", "_law_back", "_law_one", "_law_turn", "_law_fields", "_law_field"] ["_law_bag_here", "_law_own", "_law_found_forms"] (defScope s__law_acts_drawn) := ⟨rfl, rfl, rfl, by decide +kernel, rfl, by decide +kernel, by decide +kernel⟩
theorem ok__law_acts_drawn (F : FunD K "_law_acts_drawn" "_law_acts_drawn" (defArgs s__law_acts_drawn) (defBody s__law_acts_drawn) (defScope s__law_acts_drawn) [] [] f fd) (T : Tx K mg) (D__law_take : DefAt P w K mg base (He.fAd K ("_law_take", none)) 1 ["_law_bag_here", "_law_size"] 2 F__law_take) (D__law_rising : DefAt P w K mg base (He.fAd K ("_law_rising", none)) 2 ["_law_bag_here", "_law_size", "_law_most"] 3 F__law_rising) (D__law_unlike : DefAt P w K mg base (He.fAd K ("_law_unlike", none)) 4 ["_law_bag_here", "_law_size"] 2 F__law_unlike) (D__law_pick : DefAt P w K mg base (He.fAd K ("_law_pick", none)) 2 ["_law_bag_here", "_law_pool", "_law_strange"] 3 F__law_pick) (D__law_deed_drawn : DefAt P w K mg base (He.fAd K ("_law_deed_drawn", none)) 3 ["_law_bag_here", "_law_own", "_law_ins", "_law_outs"] 4 F__law_deed_drawn) : FnOk P w K mg base (L2.CX P w) 5 f fd ["_law_bag_here", "_law_own", "_law_found_forms"] (spOf K 3 F__law_acts_drawn) := by
  obtain ⟨fd__law_take, g__law_take, b__law_take⟩ := D__law_take.ex
  obtain ⟨fd__law_rising, g__law_rising, b__law_rising⟩ := D__law_rising.ex
  obtain ⟨fd__law_unlike, g__law_unlike, b__law_unlike⟩ := D__law_unlike.ex
  obtain ⟨fd__law_pick, g__law_pick, b__law_pick⟩ := D__law_pick.ex
  obtain ⟨fd__law_deed_drawn, g__law_deed_drawn, b__law_deed_drawn⟩ := D__law_deed_drawn.ex
  exact fn_ok F sc__law_acts_drawn fun cdv A outer s H E hr => by
    have nd := sc__law_acts_drawn.nd
    have tk : Takes (cxOf (L2.CX P w) P w K mg base ["_law_bag_here", "_law_own", "_law_found_forms", "_law_size", "_law_forms", "_law_found", "_law_mark", "_law_word", "_law_sides", "_law_deeds", "_law_ask", "_law_back", "_law_one", "_law_turn", "_law_fields", "_law_field"] "_law_acts_drawn" (defScope s__law_acts_drawn) f cdv A outer s H E) (fun cls d _ H => E cls d H) := takes_of rfl rfl rfl rfl
    exact (vss_cons (vs_set (i := 3) nd rfl (by first | exact .inl rfl | exact .inr rfl) (vf_call (ds := []) (dvs := []) (dd := []) g__law_take (hr.mono (by decide)) tk rfl T.m__law_take D__law_take.kp b__law_take .nil (fun _ _ => .nil) (var_cons (vr_name 0 (pv 0)) (var_cons (vr_vd vd_int) var_nil)) rfl (ml_cons (ml_cons ml_nil)))) (vss_cons (vs_par2 (i := 4) (j := 5) rfl nd rfl rfl (by decide) rfl rfl (vos_cons (vf_vd (vd_vf (vf_lc (own := [("_law_one", 12), ("_law_fields", 14)]) rfl nd (vi_seq (vd_name 2 (pv 2))) (blkOk_by (N := ["_law_bag_here", "_law_own", "_law_found_forms", "_law_size", "_law_forms", "_law_found", "_law_mark", "_law_word", "_law_sides", "_law_deeds", "_law_ask", "_law_back", "_law_one", "_law_turn", "_law_fields", "_law_field"]) (sc := defScope s__law_acts_drawn) (by decide +kernel)) (by decide) (fun _ _ _ _ _ => (vg_tup rfl (vgs_cons (vg_name (i := 12) nd rfl (by first | exact .inl rfl | exact .inr rfl)) (vgs_cons (vg_name (i := 14) nd rfl (by first | exact .inl rfl | exact .inr rfl)) vgs_nil)))) (fun _ _ _ _ _ => vts_nil) (fun _ _ _ _ _ => (vd_name 12 (pv 12)))))) (vos_cons (vf_lst va_nil) vos_nil)) rfl) (vss_cons (vs_for (passes_of rfl) rfl (vi_zip rfl T.n_zip (va_cons (vd_vf (vf_call (ds := []) (dvs := []) (dd := []) g__law_rising (hr.mono (by decide)) tk rfl T.m__law_rising D__law_rising.kp b__law_rising .nil (fun _ _ => .nil) (var_cons (vr_name 0 (pv 0)) (var_cons (vr_name 3 (pv 3)) (var_cons (vr_vd vd_int) var_nil))) rfl (ml_cons (ml_cons (ml_cons ml_nil))))) (va_cons (vd_vf (vf_call (ds := []) (dvs := []) (dd := []) g__law_unlike (hr.mono (by decide)) tk rfl T.m__law_unlike D__law_unlike.kp b__law_unlike .nil (fun _ _ => .nil) (var_cons (vr_name 0 (pv 0)) (var_cons (vr_name 3 (pv 3)) var_nil)) rfl (ml_cons (ml_cons ml_nil)))) va_nil))) (vg_tup rfl (vgs_cons (vg_name (i := 6) nd rfl (by first | exact .inl rfl | exact .inr rfl)) (vgs_cons (vg_name (i := 7) nd rfl (by first | exact .inl rfl | exact .inr rfl)) vgs_nil))) (vss_cons (vs_par (i := 10) (j := 11) rfl nd rfl rfl (by decide) rfl rfl (va_cons (vd_vf (vf_call (ds := []) (dvs := []) (dd := []) g__law_pick (hr.mono (by decide)) tk rfl T.m__law_pick D__law_pick.kp b__law_pick .nil (fun _ _ => .nil) (var_cons (vr_name 0 (pv 0)) (var_cons (vr_name 4 (pv 4)) (var_cons (vr_vd vd_str) var_nil))) rfl (ml_cons (ml_cons (ml_cons ml_nil))))) (va_cons (vd_vf (vf_call (ds := []) (dvs := []) (dd := []) g__law_pick (hr.mono (by decide)) tk rfl T.m__law_pick D__law_pick.kp b__law_pick .nil (fun _ _ => .nil) (var_cons (vr_name 0 (pv 0)) (var_cons (vr_name 4 (pv 4)) (var_cons (vr_vd vd_str) var_nil))) rfl (ml_cons (ml_cons (ml_cons ml_nil))))) va_nil)) rfl) (vss_cons (vs_set (i := 8) nd rfl (by first | exact .inl rfl | exact .inr rfl) (vf_lc (own := [("_law_one", 12)]) rfl nd (vi_seq (vd_tup (va_cons (vd_name 10 (pv 10)) (va_cons (vd_name 11 (pv 11)) va_nil)))) (blkOk_by (N := ["_law_bag_here", "_law_own", "_law_found_forms", "_law_size", "_law_forms", "_law_found", "_law_mark", "_law_word", "_law_sides", "_law_deeds", "_law_ask", "_law_back", "_law_one", "_law_turn", "_law_fields", "_law_field"]) (sc := defScope s__law_acts_drawn) (by decide +kernel)) (by decide) (fun _ _ _ _ _ => (vg_name (i := 12) nd rfl (by first | exact .inl rfl | exact .inr rfl))) (fun _ _ _ _ _ => vts_nil) (fun _ _ _ _ _ => (vd_vf (vf_lc (own := [("_law_field", 15)]) rfl nd (vi_seq (vd_vf (vf_get2 (hu_of hr) (vr_vd (vd_vf (vf_dictP rfl T.n_dict (var_cons (vr_name 2 (pv 2)) var_nil)))) (vr_name 12 (pv 12)) (vd_tup va_nil)))) (by refine blkOk_by (N := ["_law_bag_here", "_law_own", "_law_found_forms", "_law_size", "_law_forms", "_law_found", "_law_mark", "_law_word", "_law_sides", "_law_deeds", "_law_ask", "_law_back", "_law_one", "_law_turn", "_law_fields", "_law_field"]) ?_; first | rfl | kernel_rfl) (by decide) (fun _ _ _ _ _ => (vg_name (i := 15) nd rfl (by first | exact .inl rfl | exact .inr rfl))) (fun _ _ _ _ _ => vts_nil) (fun _ _ _ _ _ => (vd_vf (vf_sub (hu_of hr) (vr_name 15 (pv 15)) (vr_vd vd_int))))))))) (vss_cons (vs_setLc (i := 9) (own := [("_law_turn", 13)]) rfl nd rfl rfl (sw_true rfl rfl rfl (by decide +kernel)) (vi_range1 rfl T.n_range (va_cons (vd_vf (vf_call (ds := []) (dvs := []) (dd := []) g__law_take (hr.mono (by decide)) tk rfl T.m__law_take D__law_take.kp b__law_take .nil (fun _ _ => .nil) (var_cons (vr_name 0 (pv 0)) (var_cons (vr_vd vd_int) var_nil)) rfl (ml_cons (ml_cons ml_nil)))) va_nil)) (blkOk_by (N := ["_law_bag_here", "_law_own", "_law_found_forms", "_law_size", "_law_forms", "_law_found", "_law_mark", "_law_word", "_law_sides", "_law_deeds", "_law_ask", "_law_back", "_law_one", "_law_turn", "_law_fields", "_law_field"]) (sc := defScope s__law_acts_drawn) (by decide +kernel)) (by decide) (fun _ _ _ _ _ => (vg_name (i := 13) nd rfl (by first | exact .inl rfl | exact .inr rfl))) (fun _ _ _ _ _ => vts_nil) (fun _ _ _ _ _ => (vd_vf (vf_call (ds := []) (dvs := []) (dd := []) g__law_deed_drawn (hr.mono (by decide)) takes0 rfl T.m__law_deed_drawn D__law_deed_drawn.kp b__law_deed_drawn .nil (fun _ _ => .nil) (var_cons (vr_name 0 (pv 0)) (var_cons (vr_name 1 (pv 1)) (var_cons (vr_vd (vd_vf (vf_sub (hu_of hr) (vr_name 8 (pv 8)) (vr_vd vd_int)))) (var_cons (vr_vd (vd_vf (vf_sub (hu_of hr) (vr_name 8 (pv 8)) (vr_vd vd_int)))) var_nil)))) rfl (ml_cons (ml_cons (ml_cons (ml_cons ml_nil)))))))) (vss_one (vs_expr (vf_append 5 (pv 5) (va_cons (vd_tup (va_cons (vd_name 6 (pv 6)) (va_cons (vd_name 7 (pv 7)) (va_cons (vd_name 10 (pv 10)) (va_cons (vd_name 11 (pv 11)) (va_cons (vd_vf (vf_tuple T.n_tuple (var_cons (vr_name 9 (pv 9)) var_nil))) va_nil)))))) va_nil)))))))) (vss_one (vs_ret (vf_tuple T.n_tuple (var_cons (vr_name 5 (pv 5)) var_nil)))))))
abbrev s__law_all_drawn : Stmt := top 15
def m__law_all_drawn_c0 : M O := (mComp [12] (mRange1 (mCons (mName 7) (ret []))) (tnm 12) (ret true) (mFrz (mMeL 1 fPopAt (mCons (mFrz (mCall F__law_take [] (mConsR (mSl 0) (mConsR (mVa (mFrz (opN fLen (mConsR (mSl 1) (ret []))))) (ret []))))) (ret [])))))
def m__law_all_drawn_b1 : SM := (then_ (mSet 11 (mCall F__law_rising [] (mConsR (mSl 0) (mConsR (mVa (mFrz (op2 fAdd (mVa (ret (.int 1))) (mVa (mFrz (mCall F__law_take [] (mConsR (mSl 0) (mConsR (mVa (ret (.int 6))) (ret []))))))))) (mConsR (mVa (ret (.int 30))) (ret [])))))) (mDrop (mMeL 10 fAppend (mCons (mkTup (mCons (mName 3) (mCons (mTupZip (mCons (mName 11) (mCons (mFrz (mCall F__law_unlike [] (mConsR (mSl 0) (mConsR (mVa (mFrz (opN fLen (mConsR (mSl 11) (ret []))))) (ret []))))) (ret [])))) (ret [])))) (ret [])))))
def m__law_all_drawn_l1 : SM := (mFor (mItems (mName 2)) (tnm 3) m__law_all_drawn_b1)
def m__law_all_drawn_c1 : M O := (mComp [3] (mItems (mName 9)) (tnm 3) (ret true) (mkTup (mCons (mName 3) (mCons (mFrz (mCall F__law_form_drawn [] (mConsR (mSl 0) (mConsR (mSl 2) (mConsR (mSl 9) (ret [])))))) (ret [])))))
def m__law_all_drawn : SM := (then_ (mPar 5 6 (mCons (mFrz (mCall F__law_drawn_name [] (mConsR (mSl 0) (ret [])))) (mCons (mFrz (op2 fAdd (mVa (ret (.int 1))) (mVa (mFrz (mCall F__law_take [] (mConsR (mSl 0) (mConsR (mVa (mFrz (op2 fIx (mVa (mFrz (mkLst (mCons (ret (.int 4)) (mCons (ret (.int 99)) (ret [])))))) (mVa (mFrz (mCall F__law_take [] (mConsR (mSl 0) (mConsR (mVa (ret (.int 2))) (ret []))))))))) (ret [])))))))) (ret [])))) (then_ (mPar 7 8 (mCons (mFrz (mCall F__law_take [] (mConsR (mSl 0) (mConsR (mVa (ret (.int 5))) (ret []))))) (mCons (mFrz (mCall F__law_take [] (mConsR (mSl 0) (mConsR (mVa (ret (.int 7))) (ret []))))) (ret [])))) (then_ (mSet 1 (mCall F__law_unlike_names [] (mConsR (mSl 0) (mConsR (mVa (mFrz (op2 fAdd (mSl 7) (mSl 8)))) (mConsR (mVa (mFrz (mkLst (ret [])))) (ret [])))))) (then_ (mSet 2 (opN fSorted (mConsR (mVa (mFrz m__law_all_drawn_c0)) (ret [])))) (then_ (mParO [9, 10] (mConsO (mSh (mFrz (opN fSorted (mConsR (mSl 1) (ret []))))) (mConsO (mkLst (ret [])) (ret [])))) (then_ m__law_all_drawn_l1 (then_ (mSet 4 m__law_all_drawn_c1) (mRet (mSh (mkTup (mCons (mName 5) (mCons (mName 6) (mCons (mFrz (opN fTuple (mConsR (mSl 10) (ret [])))) (mCons (mFrz (opN fTuple (mConsR (mSl 4) (ret [])))) (mCons (mFrz (mCall F__law_acts_drawn [] (mConsR (mSl 0) (mConsR (mSl 5) (mConsR (mSl 4) (ret [])))))) (ret []))))))))))))))))
def F__law_all_drawn : Fn := mkFn 13 m__law_all_drawn
theorem sc__law_all_drawn : FnScope ["_law_bag_here", "_law_some", "_law_menus", "_law_one", "_law_recs", "_law_own", "_law_age", "_law_size", "_law_many", "_law_forms", "_law_opts", "_law_marks", "_law_spot"] ["_law_bag_here"] (defScope s__law_all_drawn) := ⟨rfl, rfl, rfl, by decide +kernel, rfl, by decide +kernel, by decide +kernel⟩
theorem ok__law_all_drawn (F : FunD K "_law_all_drawn" "_law_all_drawn" (defArgs s__law_all_drawn) (defBody s__law_all_drawn) (defScope s__law_all_drawn) [] [] f fd) (T : Tx K mg) (D__law_drawn_name : DefAt P w K mg base (He.fAd K ("_law_drawn_name", none)) 2 ["_law_bag_here"] 1 F__law_drawn_name) (D__law_take : DefAt P w K mg base (He.fAd K ("_law_take", none)) 1 ["_law_bag_here", "_law_size"] 2 F__law_take) (D__law_unlike_names : DefAt P w K mg base (He.fAd K ("_law_unlike_names", none)) 3 ["_law_bag_here", "_law_size", "_law_taken"] 3 F__law_unlike_names) (D__law_rising : DefAt P w K mg base (He.fAd K ("_law_rising", none)) 2 ["_law_bag_here", "_law_size", "_law_most"] 3 F__law_rising) (D__law_unlike : DefAt P w K mg base (He.fAd K ("_law_unlike", none)) 4 ["_law_bag_here", "_law_size"] 2 F__law_unlike) (D__law_form_drawn : DefAt P w K mg base (He.fAd K ("_law_form_drawn", none)) 5 ["_law_bag_here", "_law_menus", "_law_forms"] 3 F__law_form_drawn) (D__law_acts_drawn : DefAt P w K mg base (He.fAd K ("_law_acts_drawn", none)) 5 ["_law_bag_here", "_law_own", "_law_found_forms"] 3 F__law_acts_drawn) : FnOk P w K mg base (L2.CX P w) 6 f fd ["_law_bag_here"] (spOf K 1 F__law_all_drawn) := by
  obtain ⟨fd__law_drawn_name, g__law_drawn_name, b__law_drawn_name⟩ := D__law_drawn_name.ex
  obtain ⟨fd__law_take, g__law_take, b__law_take⟩ := D__law_take.ex
  obtain ⟨fd__law_unlike_names, g__law_unlike_names, b__law_unlike_names⟩ := D__law_unlike_names.ex
  obtain ⟨fd__law_rising, g__law_rising, b__law_rising⟩ := D__law_rising.ex
  obtain ⟨fd__law_unlike, g__law_unlike, b__law_unlike⟩ := D__law_unlike.ex
  obtain ⟨fd__law_form_drawn, g__law_form_drawn, b__law_form_drawn⟩ := D__law_form_drawn.ex
  obtain ⟨fd__law_acts_drawn, g__law_acts_drawn, b__law_acts_drawn⟩ := D__law_acts_drawn.ex
  exact fn_ok F sc__law_all_drawn fun cdv A outer s H E hr => by
    have nd := sc__law_all_drawn.nd
    have tk : Takes (cxOf (L2.CX P w) P w K mg base ["_law_bag_here", "_law_some", "_law_menus", "_law_one", "_law_recs", "_law_own", "_law_age", "_law_size", "_law_many", "_law_forms", "_law_opts", "_law_marks", "_law_spot"] "_law_all_drawn" (defScope s__law_all_drawn) f cdv A outer s H E) (fun cls d _ H => E cls d H) := takes_of rfl rfl rfl rfl
    exact (vss_cons (vs_par (i := 5) (j := 6) rfl nd rfl rfl (by decide) rfl rfl (va_cons (vd_vf (vf_call (ds := []) (dvs := []) (dd := []) g__law_drawn_name (hr.mono (by decide)) tk rfl T.m__law_drawn_name D__law_drawn_name.kp b__law_drawn_name .nil (fun _ _ => .nil) (var_cons (vr_name 0 (pv 0)) var_nil) rfl (ml_cons ml_nil))) (va_cons (vd_vf (vf_add (vr_vd vd_int) (vr_vd (vd_vf (vf_call (ds := []) (dvs := []) (dd := []) g__law_take (hr.mono (by decide)) tk rfl T.m__law_take D__law_take.kp b__law_take .nil (fun _ _ => .nil) (var_cons (vr_name 0 (pv 0)) (var_cons (vr_vd (vd_vf (vf_sub (hu_of hr) (vr_vd (vd_vf (vf_lst (va_cons vd_int (va_cons vd_int va_nil))))) (vr_vd (vd_vf (vf_call (ds := []) (dvs := []) (dd := []) g__law_take (hr.mono (by decide)) tk rfl T.m__law_take D__law_take.kp b__law_take .nil (fun _ _ => .nil) (var_cons (vr_name 0 (pv 0)) (var_cons (vr_vd vd_int) var_nil)) rfl (ml_cons (ml_cons ml_nil)))))))) var_nil)) rfl (ml_cons (ml_cons ml_nil))))))) va_nil)) rfl) (vss_cons (vs_par (i := 7) (j := 8) rfl nd rfl rfl (by decide) rfl rfl (va_cons (vd_vf (vf_call (ds := []) (dvs := []) (dd := []) g__law_take (hr.mono (by decide)) tk rfl T.m__law_take D__law_take.kp b__law_take .nil (fun _ _ => .nil) (var_cons (vr_name 0 (pv 0)) (var_cons (vr_vd vd_int) var_nil)) rfl (ml_cons (ml_cons ml_nil)))) (va_cons (vd_vf (vf_call (ds := []) (dvs := []) (dd := []) g__law_take (hr.mono (by decide)) tk rfl T.m__law_take D__law_take.kp b__law_take .nil (fun _ _ => .nil) (var_cons (vr_name 0 (pv 0)) (var_cons (vr_vd vd_int) var_nil)) rfl (ml_cons (ml_cons ml_nil)))) va_nil)) rfl) (vss_cons (vs_set (i := 1) nd rfl (by first | exact .inl rfl | exact .inr rfl) (vf_call (ds := []) (dvs := []) (dd := []) g__law_unlike_names (hr.mono (by decide)) tk rfl T.m__law_unlike_names D__law_unlike_names.kp b__law_unlike_names .nil (fun _ _ => .nil) (var_cons (vr_name 0 (pv 0)) (var_cons (vr_vd (vd_vf (vf_add (vr_name 7 (pv 7)) (vr_name 8 (pv 8))))) (var_cons (vr_vd (vd_vf (vf_lst va_nil))) var_nil))) rfl (ml_cons (ml_cons (ml_cons ml_nil))))) (vss_cons (vs_set (i := 2) nd rfl (by first | exact .inl rfl | exact .inr rfl) (vf_sorted T.n_sorted (var_cons (vr_vd (vd_vf (vf_lc (own := [("_law_spot", 12)]) rfl nd (vi_range1 rfl T.n_range (va_cons (vd_name 7 (pv 7)) va_nil)) (blkOk_by (N := ["_law_bag_here", "_law_some", "_law_menus", "_law_one", "_law_recs", "_law_own", "_law_age", "_law_size", "_law_many", "_law_forms", "_law_opts", "_law_marks", "_law_spot"]) (sc := defScope s__law_all_drawn) (by decide +kernel)) (by decide) (fun _ _ _ _ _ => (vg_name (i := 12) nd rfl (by first | exact .inl rfl | exact .inr rfl))) (fun _ _ _ _ _ => vts_nil) (fun _ _ _ _ _ => (vd_vf (vf_popAt 1 (pv 1) (va_cons (vd_vf (vf_call (ds := []) (dvs := []) (dd := []) g__law_take (hr.mono (by decide)) takes0 rfl T.m__law_take D__law_take.kp b__law_take .nil (fun _ _ => .nil) (var_cons (vr_name 0 (pv 0)) (var_cons (vr_vd (vd_vf (vf_len T.n_len (var_cons (vr_name 1 (pv 1)) var_nil)))) var_nil)) rfl (ml_cons (ml_cons ml_nil)))) va_nil))))))) var_nil))) (vss_cons (vs_parC (i := 9) (j := 10) rfl nd rfl rfl (by first | exact .inl rfl | exact .inr rfl) (by first | exact .inl rfl | exact .inr rfl) (vos_cons (vf_vd (vd_vf (vf_sorted T.n_sorted (var_cons (vr_name 1 (pv 1)) var_nil)))) (vos_cons (vf_lst va_nil) vos_nil)) rfl) (vss_cons (vs_for (passes_of rfl) rfl (vi_seq (vd_name 2 (pv 2))) (vg_name (i := 3) nd rfl (by first | exact .inl rfl | exact .inr rfl)) (vss_cons (vs_set (i := 11) nd rfl (by first | exact .inl rfl | exact .inr rfl) (vf_call (ds := []) (dvs := []) (dd := []) g__law_rising (hr.mono (by decide)) tk rfl T.m__law_rising D__law_rising.kp b__law_rising .nil (fun _ _ => .nil) (var_cons (vr_name 0 (pv 0)) (var_cons (vr_vd (vd_vf (vf_add (vr_vd vd_int) (vr_vd (vd_vf (vf_call (ds := []) (dvs := []) (dd := []) g__law_take (hr.mono (by decide)) tk rfl T.m__law_take D__law_take.kp b__law_take .nil (fun _ _ => .nil) (var_cons (vr_name 0 (pv 0)) (var_cons (vr_vd vd_int) var_nil)) rfl (ml_cons (ml_cons ml_nil)))))))) (var_cons (vr_vd vd_int) var_nil))) rfl (ml_cons (ml_cons (ml_cons ml_nil))))) (vss_one (vs_expr (vf_append 10 (pv 10) (va_cons (vd_tup (va_cons (vd_name 3 (pv 3)) (va_cons (vd_tupzip rfl rfl T.n_zip rfl T.n_tuple (va_cons (vd_name 11 (pv 11)) (va_cons (vd_vf (vf_call (ds := []) (dvs := []) (dd := []) g__law_unlike (hr.mono (by decide)) tk rfl T.m__law_unlike D__law_unlike.kp b__law_unlike .nil (fun _ _ => .nil) (var_cons (vr_name 0 (pv 0)) (var_cons (vr_vd (vd_vf (vf_len T.n_len (var_cons (vr_name 11 (pv 11)) var_nil)))) var_nil)) rfl (ml_cons (ml_cons ml_nil)))) va_nil))) va_nil))) va_nil)))))) (vss_cons (vs_setLc (i := 4) (own := [("_law_one", 3)]) rfl nd rfl rfl (sw_true rfl rfl rfl (by decide +kernel)) (vi_seq (vd_name 9 (pv 9))) (blkOk_by (N := ["_law_bag_here", "_law_some", "_law_menus", "_law_one", "_law_recs", "_law_own", "_law_age", "_law_size", "_law_many", "_law_forms", "_law_opts", "_law_marks", "_law_spot"]) (sc := defScope s__law_all_drawn) (by decide +kernel)) (by decide) (fun _ _ _ _ _ => (vg_name (i := 3) nd rfl (by first | exact .inl rfl | exact .inr rfl))) (fun _ _ _ _ _ => vts_nil) (fun _ _ _ _ _ => (vd_tup (va_cons (vd_name 3 (pv 3)) (va_cons (vd_vf (vf_call (ds := []) (dvs := []) (dd := []) g__law_form_drawn (hr.mono (by decide)) takes0 rfl T.m__law_form_drawn D__law_form_drawn.kp b__law_form_drawn .nil (fun _ _ => .nil) (var_cons (vr_name 0 (pv 0)) (var_cons (vr_name 2 (pv 2)) (var_cons (vr_name 9 (pv 9)) var_nil))) rfl (ml_cons (ml_cons (ml_cons ml_nil))))) va_nil))))) (vss_one (vs_ret (vf_vd (vd_tup (va_cons (vd_name 5 (pv 5)) (va_cons (vd_name 6 (pv 6)) (va_cons (vd_vf (vf_tuple T.n_tuple (var_cons (vr_name 10 (pv 10)) var_nil))) (va_cons (vd_vf (vf_tuple T.n_tuple (var_cons (vr_name 4 (pv 4)) var_nil))) (va_cons (vd_vf (vf_call (ds := []) (dvs := []) (dd := []) g__law_acts_drawn (hr.mono (by decide)) tk rfl T.m__law_acts_drawn D__law_acts_drawn.kp b__law_acts_drawn .nil (fun _ _ => .nil) (var_cons (vr_name 0 (pv 0)) (var_cons (vr_name 5 (pv 5)) (var_cons (vr_name 4 (pv 4)) var_nil))) rfl (ml_cons (ml_cons (ml_cons ml_nil))))) va_nil))))))))))))))))
abbrev s__law_made_face : Stmt := top 16
def m__law_made_face : SM := (mRet (mMake F_Face___init__ "Face" (permG [0, 1, 2]) (mConsR (mVa (mFrz (op2 fIx (mSl 0) (mVa (ret (.int 0)))))) (mConsR (mVa (mFrz (op2 fIx (mSl 0) (mVa (ret (.int 1)))))) (ret []))) (mConsR (mVa (mFrz (op2 fIx (mSl 0) (mVa (ret (.int 2)))))) (mConsR (mVa (mFrz (op2 fIx (mSl 0) (mVa (ret (.int 3)))))) (mConsR (mVa (mFrz (op2 fIx (mSl 0) (mVa (ret (.int 4)))))) (ret []))))))
def F__law_made_face : Fn := mkFn 1 m__law_made_face
theorem sc__law_made_face : FnScope ["_law_parts"] ["_law_parts"] (defScope s__law_made_face) := ⟨rfl, rfl, rfl, by decide +kernel, rfl, by decide +kernel, by decide +kernel⟩
theorem ok__law_made_face (F : FunD K "_law_made_face" "_law_made_face" (defArgs s__law_made_face) (defBody s__law_made_face) (defScope s__law_made_face) [] [] f fd) (T : Tx K mg) (K_Face___init___3012 : DefKw P w K mg base (He.fAd K ("Face", some "__init__")) 1 ["self", "name", "edition", "choices", "records", "calls"] 6 F_Face___init__ 3 ["choices", "records", "calls"] [0, 1, 2]) : FnOk P w K mg base (L2.CX P w) 3 f fd ["_law_parts"] (spOf K 1 F__law_made_face) := by
  obtain ⟨⟨fdk_Face___init___3012, gk_Face___init___3012, bk_Face___init___3012⟩, kk_Face___init___3012⟩ := K_Face___init___3012
  exact fn_ok F sc__law_made_face fun cdv A outer s H E hr => by
    have nd := sc__law_made_face.nd
    have tk : Takes (cxOf (L2.CX P w) P w K mg base ["_law_parts"] "_law_made_face" (defScope s__law_made_face) f cdv A outer s H E) (fun cls d _ H => E cls d H) := takes_of rfl rfl rfl rfl
    exact (vss_one (vs_ret (vf_make uni0 tk T.mk_Face gk_Face___init___3012 (hr.mono (by decide)) T.m_Face bk_Face___init___3012 permG_ok (var_cons (vr_vd (vd_vf (vf_sub (hu_of hr) (vr_name 0 (pv 0)) (vr_vd vd_int)))) (var_cons (vr_vd (vd_vf (vf_sub (hu_of hr) (vr_name 0 (pv 0)) (vr_vd vd_int)))) var_nil)) (vk_cons (vr_vd (vd_vf (vf_sub (hu_of hr) (vr_name 0 (pv 0)) (vr_vd vd_int)))) (vk_cons (vr_vd (vd_vf (vf_sub (hu_of hr) (vr_name 0 (pv 0)) (vr_vd vd_int)))) (vk_cons (vr_vd (vd_vf (vf_sub (hu_of hr) (vr_name 0 (pv 0)) (vr_vd vd_int)))) vk_nil))) (ml_cons (ml_cons ml_nil)) (ml_cons (ml_cons (ml_cons ml_nil))))))
abbrev s__law_made_anew : Stmt := top 17
def m__law_made_anew : SM := (then_ (mAsg (ttup 5 (tgCons (tnm 1) (tgCons (tnm 2) (tgCons (tnm 3) (tgCons (tnm 4) (tgCons (tnm 5) tgNil)))))) (mName 0)) (then_ (mIfS (mAnd (mT (op2 fEq (mSl 3) (mVa (mkTup (ret []))))) (mT (op2 fEq (mSl 5) (mVa (mkTup (ret [])))))) (mRet (mMake F_Face___init__ "Face" (permD [1, 2, 0, 3] [.va (.ct []), .va (.ct [])]) (mConsR (mSl 1) (ret [])) (mConsR (mSl 4) (mConsR (mSl 2) (ret []))))) (Vs.ret .nx)) (then_ (mIfS (mT (op2 fEq (mSl 5) (mVa (mkTup (ret []))))) (mRet (mMake F_Face___init__ "Face" (permD [3, 2, 1, 0, 4] [.va (.ct [])]) (ret []) (mConsR (mSl 4) (mConsR (mSl 3) (mConsR (mSl 2) (mConsR (mSl 1) (ret []))))))) (Vs.ret .nx)) (mRet (mMake F_Face___init__ "Face" (permG [2, 1, 0]) (mConsR (mSl 1) (mConsR (mSl 2) (ret []))) (mConsR (mSl 5) (mConsR (mSl 4) (mConsR (mSl 3) (ret [])))))))))
def F__law_made_anew : Fn := mkFn 6 m__law_made_anew
theorem sc__law_made_anew : FnScope ["_law_parts", "_law_own", "_law_age", "_law_opts", "_law_recs", "_law_acts"] ["_law_parts"] (defScope s__law_made_anew) := ⟨rfl, rfl, rfl, by decide +kernel, rfl, by decide +kernel, by decide +kernel⟩
theorem ok__law_made_anew (F : FunD K "_law_made_anew" "_law_made_anew" (defArgs s__law_made_anew) (defBody s__law_made_anew) (defScope s__law_made_anew) [] [] f fd) (T : Tx K mg) (K_Face___init___21203_choices_calls : DefKd P w K mg base (He.fAd K ("Face", some "__init__")) 1 ["self", "name", "edition", "choices", "records", "calls"] 6 F_Face___init__ 2 ["records", "edition"] [1, 2, 0, 3] [(.ref (kwAt ("Face", some "__init__") "choices" K)), (.ref (kwAt ("Face", some "__init__") "calls" K))]) (K_Face___init___132104_calls : DefKd P w K mg base (He.fAd K ("Face", some "__init__")) 1 ["self", "name", "edition", "choices", "records", "calls"] 6 F_Face___init__ 1 ["records", "choices", "edition", "name"] [3, 2, 1, 0, 4] [(.ref (kwAt ("Face", some "__init__") "calls" K))]) (K_Face___init___3210 : DefKw P w K mg base (He.fAd K ("Face", some "__init__")) 1 ["self", "name", "edition", "choices", "records", "calls"] 6 F_Face___init__ 3 ["calls", "records", "choices"] [2, 1, 0]) : FnOk P w K mg base (L2.CX P w) 3 f fd ["_law_parts"] (spOf K 1 F__law_made_anew) := by
  obtain ⟨⟨fdk_Face___init___21203_choices_calls, gak_Face___init___21203_choices_calls, gk_Face___init___21203_choices_calls, bk_Face___init___21203_choices_calls⟩, kk_Face___init___21203_choices_calls⟩ := K_Face___init___21203_choices_calls
  obtain ⟨⟨fdk_Face___init___132104_calls, gak_Face___init___132104_calls, gk_Face___init___132104_calls, bk_Face___init___132104_calls⟩, kk_Face___init___132104_calls⟩ := K_Face___init___132104_calls
  obtain ⟨⟨fdk_Face___init___3210, gk_Face___init___3210, bk_Face___init___3210⟩, kk_Face___init___3210⟩ := K_Face___init___3210
  exact fn_ok F sc__law_made_anew fun cdv A outer s H E hr => by
    have nd := sc__law_made_anew.nd
    have tk : Takes (cxOf (L2.CX P w) P w K mg base ["_law_parts", "_law_own", "_law_age", "_law_opts", "_law_recs", "_law_acts"] "_law_made_anew" (defScope s__law_made_anew) f cdv A outer s H E) (fun cls d _ H => E cls d H) := takes_of rfl rfl rfl rfl
    exact (vss_cons (vs_asg (vd_name 0 (pv 0)) (vg_tup rfl (vgs_cons (vg_name (i := 1) nd rfl (by first | exact .inl rfl | exact .inr rfl)) (vgs_cons (vg_name (i := 2) nd rfl (by first | exact .inl rfl | exact .inr rfl)) (vgs_cons (vg_name (i := 3) nd rfl (by first | exact .inl rfl | exact .inr rfl)) (vgs_cons (vg_name (i := 4) nd rfl (by first | exact .inl rfl | exact .inr rfl)) (vgs_cons (vg_name (i := 5) nd rfl (by first | exact .inl rfl | exact .inr rfl)) vgs_nil))))))) (vss_cons (vs_if (PW.pt (vw_and (vt_eq hr (vr_name 3 (pv 3)) (vr_vd (vd_tup va_nil))) (vw_and1 (vt_eq hr (vr_name 5 (pv 5)) (vr_vd (vd_tup va_nil)))))) (vss_one (vs_ret (vf_make uni0 tk T.mk_Face gk_Face___init___21203_choices_calls (hr.mono (by decide)) T.m_Face bk_Face___init___21203_choices_calls (permD_ok (h := rfl) (dd_emp T.em_Face___init___choices (dd_emp T.em_Face___init___calls dd_nil))) (var_cons (vr_name 1 (pv 1)) var_nil) (vk_cons (vr_name 4 (pv 4)) (vk_cons (vr_name 2 (pv 2)) vk_nil)) (ml_cons ml_nil) (ml_cons (ml_cons ml_nil))))) vss_nil) (vss_cons (vs_if (vt_eq hr (vr_name 5 (pv 5)) (vr_vd (vd_tup va_nil))) (vss_one (vs_ret (vf_make0 uni0 tk T.mk_Face gk_Face___init___132104_calls (hr.mono (by decide)) T.m_Face bk_Face___init___132104_calls (permD_ok (h := rfl) (dd_emp T.em_Face___init___calls dd_nil)) (vk_cons (vr_name 4 (pv 4)) (vk_cons (vr_name 3 (pv 3)) (vk_cons (vr_name 2 (pv 2)) (vk_cons (vr_name 1 (pv 1)) vk_nil)))) (ml_cons (ml_cons (ml_cons (ml_cons ml_nil))))))) vss_nil) (vss_one (vs_ret (vf_make uni0 tk T.mk_Face gk_Face___init___3210 (hr.mono (by decide)) T.m_Face bk_Face___init___3210 permG_ok (var_cons (vr_name 1 (pv 1)) (var_cons (vr_name 2 (pv 2)) var_nil)) (vk_cons (vr_name 5 (pv 5)) (vk_cons (vr_name 4 (pv 4)) (vk_cons (vr_name 3 (pv 3)) vk_nil))) (ml_cons (ml_cons ml_nil)) (ml_cons (ml_cons (ml_cons ml_nil)))))))))
abbrev s__law_one_more : Stmt := top 20
def m__law_one_more : SM := (mRet (mIf (mT (op2 fEq (mVa (mFrz (opN fLen (mConsR (mSl 0) (ret []))))) (mVa (ret (.int 5))))) (mSh (mkTup (mCons (ret (.str "add")) (mCons (ret (.str "a")) (mCons (ret (.str "b")) (ret [])))))) (mSh (mkTup (mCons (ret (.int 1)) (mCons (ret (.str "a")) (mCons (ret (.str "whole")) (mCons (ret (.str "may")) (ret [])))))))))
def F__law_one_more : Fn := mkFn 1 m__law_one_more
theorem sc__law_one_more : FnScope ["_law_one"] ["_law_one"] (defScope s__law_one_more) := ⟨rfl, rfl, rfl, by decide +kernel, rfl, by decide +kernel, by decide +kernel⟩
theorem ok__law_one_more (F : FunD K "_law_one_more" "_law_one_more" (defArgs s__law_one_more) (defBody s__law_one_more) (defScope s__law_one_more) [] [] f fd) (T : Tx K mg) : FnOk P w K mg base (L2.CX P w) 1 f fd ["_law_one"] (spOf K 1 F__law_one_more) := by
  exact fn_ok F sc__law_one_more fun cdv A outer s H E hr => by
    have nd := sc__law_one_more.nd
    have tk : Takes (cxOf (L2.CX P w) P w K mg base ["_law_one"] "_law_one_more" (defScope s__law_one_more) f cdv A outer s H E) (fun cls d _ H => E cls d H) := takes_of rfl rfl rfl rfl
    exact (vss_one (vs_ret (vf_if (vt_eq hr (vr_vd (vd_vf (vf_len T.n_len (var_cons (vr_name 0 (pv 0)) var_nil)))) (vr_vd vd_int)) (vf_vd (vd_tup (va_cons vd_str (va_cons vd_str (va_cons vd_str va_nil))))) (vf_vd (vd_tup (va_cons vd_int (va_cons vd_str (va_cons vd_str (va_cons vd_str va_nil)))))))))
abbrev s__law_near : Stmt := top 19
def m__law_near : SM := (then_ (mSet 3 (mIf (mT (op2 fNe (mVa (mFrz (op2 fIx (mSl 2) (mVa (mFrz (op1 fNeg (mVa (ret (.int 1))))))))) (mVa (mkTup (ret []))))) (slM fSl (mVa (mFrz (op2 fIx (mSl 2) (mVa (mFrz (op1 fNeg (mVa (ret (.int 1))))))))) (ret none) (mPart (mFrz (op1 fNeg (mVa (ret (.int 1))))))) (mSh (mkTup (mCons (mFrz (mCall F__law_one_more [] (mConsR (mSl 2) (ret [])))) (ret [])))))) (mRet (op2 fAdd (mVa (mFrz (op2 fAdd (mVa (mFrz (slM fSl (mSl 0) (ret none) (mPart (mName 1))))) (mVa (mkTup (mCons (mFrz (op2 fAdd (mVa (mFrz (slM fSl (mSl 2) (ret none) (mPart (mFrz (op1 fNeg (mVa (ret (.int 1))))))))) (mVa (mkTup (mCons (mName 3) (ret [])))))) (ret []))))))) (mVa (mFrz (slM fSl (mSl 0) (mPart (mFrz (op2 fAdd (mSl 1) (mVa (ret (.int 1)))))) (ret none)))))))
def F__law_near : Fn := mkFn 4 m__law_near
theorem sc__law_near : FnScope ["_law_rows", "_law_spot", "_law_one", "_law_last"] ["_law_rows", "_law_spot", "_law_one"] (defScope s__law_near) := ⟨rfl, rfl, rfl, by decide +kernel, rfl, by decide +kernel, by decide +kernel⟩
theorem ok__law_near (F : FunD K "_law_near" "_law_near" (defArgs s__law_near) (defBody s__law_near) (defScope s__law_near) [] [] f fd) (T : Tx K mg) (D__law_one_more : DefAt P w K mg base (He.fAd K ("_law_one_more", none)) 1 ["_law_one"] 1 F__law_one_more) : FnOk P w K mg base (L2.CX P w) 2 f fd ["_law_rows", "_law_spot", "_law_one"] (spOf K 3 F__law_near) := by
  obtain ⟨fd__law_one_more, g__law_one_more, b__law_one_more⟩ := D__law_one_more.ex
  exact fn_ok F sc__law_near fun cdv A outer s H E hr => by
    have nd := sc__law_near.nd
    have tk : Takes (cxOf (L2.CX P w) P w K mg base ["_law_rows", "_law_spot", "_law_one", "_law_last"] "_law_near" (defScope s__law_near) f cdv A outer s H E) (fun cls d _ H => E cls d H) := takes_of rfl rfl rfl rfl
    exact (vss_cons (vs_set (i := 3) nd rfl (by first | exact .inl rfl | exact .inr rfl) (vf_if (vt_ne hr (vr_vd (vd_vf (vf_sub (hu_of hr) (vr_name 2 (pv 2)) (vr_vd (vd_vf (vf_neg (vr_vd vd_int))))))) (vr_vd (vd_tup va_nil))) (vf_slice (vr_vd (vd_vf (vf_sub (hu_of hr) (vr_name 2 (pv 2)) (vr_vd (vd_vf (vf_neg (vr_vd vd_int))))))) vo_none (vo_some (vd_vf (vf_neg (vr_vd vd_int))))) (vf_vd (vd_tup (va_cons (vd_vf (vf_call (ds := []) (dvs := []) (dd := []) g__law_one_more (hr.mono (by decide)) tk rfl T.m__law_one_more D__law_one_more.kp b__law_one_more .nil (fun _ _ => .nil) (var_cons (vr_name 2 (pv 2)) var_nil) rfl (ml_cons ml_nil))) va_nil))))) (vss_one (vs_ret (vf_add (vr_vd (vd_vf (vf_add (vr_vd (vd_vf (vf_slice (vr_name 0 (pv 0)) vo_none (vo_some (vd_name 1 (pv 1)))))) (vr_vd (vd_tup (va_cons (vd_vf (vf_add (vr_vd (vd_vf (vf_slice (vr_name 2 (pv 2)) vo_none (vo_some (vd_vf (vf_neg (vr_vd vd_int))))))) (vr_vd (vd_tup (va_cons (vd_name 3 (pv 3)) va_nil))))) va_nil)))))) (vr_vd (vd_vf (vf_slice (vr_name 0 (pv 0)) (vo_some (vd_vf (vf_add (vr_name 1 (pv 1)) (vr_vd vd_int)))) vo_none)))))))
abbrev s__law_bent_once : Stmt := top 18
def m__law_bent_once_c0 : M O := (mComp [5, 11] (mItems (mFrz (op2 fAdd (mVa (mFrz (op2 fIx (mSl 1) (mVa (ret (.int 2)))))) (mVa (mFrz (op2 fIx (mSl 1) (mVa (ret (.int 3))))))))) (ttup 2 (tgCons (tnm 5) (tgCons (tnm 11) tgNil))) (ret true) (mName 5))
def m__law_bent_once : SM := (then_ (mParO [2, 3] (mConsO (opN fList (mConsR (mSl 1) (ret []))) (mConsO (mSh (mFrz (mCall F__law_take [] (mConsR (mSl 0) (mConsR (mVa (ret (.int 5))) (ret [])))))) (ret [])))) (then_ (mIfS (mT (op2 fEq (mSl 3) (mVa (ret (.int 0))))) (mSetIx 2 (mFrz (op2 fIx (mVa (mFrz (mCall F__law_unlike_names [] (mConsR (mSl 0) (mConsR (mVa (ret (.int 1))) (mConsR (mVa (mFrz (mkLst (mCons (mFrz (op2 fIx (mSl 1) (mVa (ret (.int 0))))) (ret []))))) (ret []))))))) (mVa (ret (.int 0))))) (ret (.int 0))) (mIfS (mT (op2 fEq (mSl 3) (mVa (ret (.int 1))))) (mSetIx 2 (mFrz (op2 fAdd (mVa (mFrz (op2 fMod (mVa (mFrz (op2 fIx (mSl 1) (mVa (ret (.int 1)))))) (mVa (ret (.int 99)))))) (mVa (ret (.int 1))))) (ret (.int 1))) (mIfS (mT (op2 fNe (mVa (mFrz (op2 fIx (mSl 2) (mSl 3)))) (mVa (mkTup (ret []))))) (then_ (mSet 4 (mCall F__law_take [] (mConsR (mSl 0) (mConsR (mVa (mFrz (opN fLen (mConsR (mVa (mFrz (op2 fIx (mSl 2) (mSl 3)))) (ret []))))) (ret []))))) (then_ (mSet 5 (op2 fIx (mVa (mFrz (op2 fIx (mSl 2) (mSl 3)))) (mSl 4))) (then_ (mSet 6 (op2 fAdd (mVa (mFrz (slM fSl (mVa (mFrz (op2 fIx (mSl 2) (mSl 3)))) (ret none) (mPart (mName 4))))) (mVa (mFrz (slM fSl (mVa (mFrz (op2 fIx (mSl 2) (mSl 3)))) (mPart (mFrz (op2 fAdd (mSl 4) (mVa (ret (.int 1)))))) (ret none)))))) (then_ (mSet 7 (op2 fMul (mVa (mFrz (mCall F__law_take [] (mConsR (mSl 0) (mConsR (mVa (ret (.int 2))) (ret [])))))) (mVa (mFrz (opN fInt (mConsR (mVa (mOrV (mFrz (op2 fNe (mSl 3) (mVa (ret (.int 2))))) (mFrz (op2 fGt (mVa (mFrz (opN fLen (mConsR (mVa (mFrz (op2 fIx (mSl 5) (mVa (ret (.int 1)))))) (ret []))))) (mVa (ret (.int 1))))))) (ret []))))))) (mSetIx 2 (mFrz (op2 fIx (mVa (mFrz (mkLst (mCons (mName 6) (mCons (mFrz (mCall F__law_near [] (mConsR (mVa (mFrz (op2 fIx (mSl 2) (mSl 3)))) (mConsR (mSl 4) (mConsR (mSl 5) (ret [])))))) (ret [])))))) (mSl 7))) (mName 3)))))) (then_ (mSet 8 m__law_bent_once_c0) (then_ (mSet 9 (op2 fIx (mVa (mFrz (mCall F__law_unlike_names [] (mConsR (mSl 0) (mConsR (mVa (ret (.int 1))) (mConsR (mSl 8) (ret []))))))) (mVa (ret (.int 0))))) (then_ (mSet 10 (mkLst (mCons (mkTup (mCons (mkTup (mCons (mName 9) (mCons (mkTup (mCons (mkTup (mCons (ret (.int 1)) (mCons (ret (.str "a")) (ret [])))) (ret []))) (ret [])))) (ret []))) (mCons (mkTup (mCons (mkTup (mCons (mName 9) (mCons (mkTup (ret [])) (ret [])))) (ret []))) (mCons (mkTup (mCons (mkTup (mCons (ret (.int 1)) (mCons (ret (.str "a")) (mCons (ret (.str "z")) (mCons (ret (.str "z")) (mCons (mkTup (ret [])) (ret []))))))) (ret []))) (ret [])))))) (mSetIx 2 (mFrz (op2 fIx (mSl 10) (mVa (mFrz (op2 fSub (mSl 3) (mVa (ret (.int 2)))))))) (mName 3)))))))) (mRet (opN fTuple (mConsR (mSl 2) (ret []))))))
def F__law_bent_once : Fn := mkFn 12 m__law_bent_once
theorem sc__law_bent_once : FnScope ["_law_bag_here", "_law_parts", "_law_found", "_law_at", "_law_spot", "_law_one", "_law_rest", "_law_way", "_law_taken", "_law_fresh", "_law_some", "_law_things"] ["_law_bag_here", "_law_parts"] (defScope s__law_bent_once) := ⟨rfl, rfl, rfl, by decide +kernel, rfl, by decide +kernel, by decide +kernel⟩
theorem ok__law_bent_once (F : FunD K "_law_bent_once" "_law_bent_once" (defArgs s__law_bent_once) (defBody s__law_bent_once) (defScope s__law_bent_once) [] [] f fd) (T : Tx K mg) (D__law_take : DefAt P w K mg base (He.fAd K ("_law_take", none)) 1 ["_law_bag_here", "_law_size"] 2 F__law_take) (D__law_unlike_names : DefAt P w K mg base (He.fAd K ("_law_unlike_names", none)) 3 ["_law_bag_here", "_law_size", "_law_taken"] 3 F__law_unlike_names) (D__law_near : DefAt P w K mg base (He.fAd K ("_law_near", none)) 2 ["_law_rows", "_law_spot", "_law_one"] 3 F__law_near) : FnOk P w K mg base (L2.CX P w) 4 f fd ["_law_bag_here", "_law_parts"] (spOf K 2 F__law_bent_once) := by
  obtain ⟨fd__law_take, g__law_take, b__law_take⟩ := D__law_take.ex
  obtain ⟨fd__law_unlike_names, g__law_unlike_names, b__law_unlike_names⟩ := D__law_unlike_names.ex
  obtain ⟨fd__law_near, g__law_near, b__law_near⟩ := D__law_near.ex
  exact fn_ok F sc__law_bent_once fun cdv A outer s H E hr => by
    have nd := sc__law_bent_once.nd
    have tk : Takes (cxOf (L2.CX P w) P w K mg base ["_law_bag_here", "_law_parts", "_law_found", "_law_at", "_law_spot", "_law_one", "_law_rest", "_law_way", "_law_taken", "_law_fresh", "_law_some", "_law_things"] "_law_bent_once" (defScope s__law_bent_once) f cdv A outer s H E) (fun cls d _ H => E cls d H) := takes_of rfl rfl rfl rfl
    exact (vss_cons (vs_par2 (i := 2) (j := 3) rfl nd rfl rfl (by decide) rfl rfl (vos_cons (vf_list T.n_list (var_cons (vr_name 1 (pv 1)) var_nil)) (vos_cons (vf_vd (vd_vf (vf_call (ds := []) (dvs := []) (dd := []) g__law_take (hr.mono (by decide)) tk rfl T.m__law_take D__law_take.kp b__law_take .nil (fun _ _ => .nil) (var_cons (vr_name 0 (pv 0)) (var_cons (vr_vd vd_int) var_nil)) rfl (ml_cons (ml_cons ml_nil))))) vos_nil)) rfl) (vss_cons (vs_if (vt_eq hr (vr_name 3 (pv 3)) (vr_vd vd_int)) (vss_one (vs_setIx 2 (pv 2) vd_int (vd_vf (vf_sub (hu_of hr) (vr_vd (vd_vf (vf_call (ds := []) (dvs := []) (dd := []) g__law_unlike_names (hr.mono (by decide)) tk rfl T.m__law_unlike_names D__law_unlike_names.kp b__law_unlike_names .nil (fun _ _ => .nil) (var_cons (vr_name 0 (pv 0)) (var_cons (vr_vd vd_int) (var_cons (vr_vd (vd_vf (vf_lst (va_cons (vd_vf (vf_sub (hu_of hr) (vr_name 1 (pv 1)) (vr_vd vd_int))) va_nil)))) var_nil))) rfl (ml_cons (ml_cons (ml_cons ml_nil)))))) (vr_vd vd_int))))) (vss_one (vs_if (vt_eq hr (vr_name 3 (pv 3)) (vr_vd vd_int)) (vss_one (vs_setIx 2 (pv 2) vd_int (vd_vf (vf_add (vr_vd (vd_vf (vf_mod (vr_vd (vd_vf (vf_sub (hu_of hr) (vr_name 1 (pv 1)) (vr_vd vd_int)))) (vr_vd vd_int)))) (vr_vd vd_int))))) (vss_one (vs_if (vt_ne hr (vr_vd (vd_vf (vf_sub (hu_of hr) (vr_name 2 (pv 2)) (vr_name 3 (pv 3))))) (vr_vd (vd_tup va_nil))) (vss_cons (vs_set (i := 4) nd rfl (by first | exact .inl rfl | exact .inr rfl) (vf_call (ds := []) (dvs := []) (dd := []) g__law_take (hr.mono (by decide)) tk rfl T.m__law_take D__law_take.kp b__law_take .nil (fun _ _ => .nil) (var_cons (vr_name 0 (pv 0)) (var_cons (vr_vd (vd_vf (vf_len T.n_len (var_cons (vr_vd (vd_vf (vf_sub (hu_of hr) (vr_name 2 (pv 2)) (vr_name 3 (pv 3))))) var_nil)))) var_nil)) rfl (ml_cons (ml_cons ml_nil)))) (vss_cons (vs_set (i := 5) nd rfl (by first | exact .inl rfl | exact .inr rfl) (vf_sub (hu_of hr) (vr_vd (vd_vf (vf_sub (hu_of hr) (vr_name 2 (pv 2)) (vr_name 3 (pv 3))))) (vr_name 4 (pv 4)))) (vss_cons (vs_set (i := 6) nd rfl (by first | exact .inl rfl | exact .inr rfl) (vf_add (vr_vd (vd_vf (vf_slice (vr_vd (vd_vf (vf_sub (hu_of hr) (vr_name 2 (pv 2)) (vr_name 3 (pv 3))))) vo_none (vo_some (vd_name 4 (pv 4)))))) (vr_vd (vd_vf (vf_slice (vr_vd (vd_vf (vf_sub (hu_of hr) (vr_name 2 (pv 2)) (vr_name 3 (pv 3))))) (vo_some (vd_vf (vf_add (vr_name 4 (pv 4)) (vr_vd vd_int)))) vo_none))))) (vss_cons (vs_set (i := 7) nd rfl (by first | exact .inl rfl | exact .inr rfl) (vf_mul (vr_vd (vd_vf (vf_call (ds := []) (dvs := []) (dd := []) g__law_take (hr.mono (by decide)) tk rfl T.m__law_take D__law_take.kp b__law_take .nil (fun _ _ => .nil) (var_cons (vr_name 0 (pv 0)) (var_cons (vr_vd vd_int) var_nil)) rfl (ml_cons (ml_cons ml_nil))))) (vr_vd (vd_vf (vf_int T.n_int (var_cons (vr_vd (vd_or (vd_vf (vf_ne hr (vr_name 3 (pv 3)) (vr_vd vd_int))) (vd_one (vd_vf (vf_gt (vr_vd (vd_vf (vf_len T.n_len (var_cons (vr_vd (vd_vf (vf_sub (hu_of hr) (vr_name 5 (pv 5)) (vr_vd vd_int)))) var_nil)))) (vr_vd vd_int)))))) var_nil)))))) (vss_one (vs_setIx 2 (pv 2) (vd_name 3 (pv 3)) (vd_vf (vf_sub (hu_of hr) (vr_vd (vd_vf (vf_lst (va_cons (vd_name 6 (pv 6)) (va_cons (vd_vf (vf_call (ds := []) (dvs := []) (dd := []) g__law_near (hr.mono (by decide)) tk rfl T.m__law_near D__law_near.kp b__law_near .nil (fun _ _ => .nil) (var_cons (vr_vd (vd_vf (vf_sub (hu_of hr) (vr_name 2 (pv 2)) (vr_name 3 (pv 3))))) (var_cons (vr_name 4 (pv 4)) (var_cons (vr_name 5 (pv 5)) var_nil))) rfl (ml_cons (ml_cons (ml_cons ml_nil))))) va_nil))))) (vr_name 7 (pv 7)))))))))) (vss_cons (vs_setLc (i := 8) (own := [("_law_one", 5), ("_law_things", 11)]) rfl nd rfl rfl (sw_true rfl rfl rfl (by decide +kernel)) (vi_seq (vd_vf (vf_add (vr_vd (vd_vf (vf_sub (hu_of hr) (vr_name 1 (pv 1)) (vr_vd vd_int)))) (vr_vd (vd_vf (vf_sub (hu_of hr) (vr_name 1 (pv 1)) (vr_vd vd_int))))))) (blkOk_by (N := ["_law_bag_here", "_law_parts", "_law_found", "_law_at", "_law_spot", "_law_one", "_law_rest", "_law_way", "_law_taken", "_law_fresh", "_law_some", "_law_things"]) (sc := defScope s__law_bent_once) (by decide +kernel)) (by decide) (fun _ _ _ _ _ => (vg_tup rfl (vgs_cons (vg_name (i := 5) nd rfl (by first | exact .inl rfl | exact .inr rfl)) (vgs_cons (vg_name (i := 11) nd rfl (by first | exact .inl rfl | exact .inr rfl)) vgs_nil)))) (fun _ _ _ _ _ => vts_nil) (fun _ _ _ _ _ => (vd_name 5 (pv 5)))) (vss_cons (vs_set (i := 9) nd rfl (by first | exact .inl rfl | exact .inr rfl) (vf_sub (hu_of hr) (vr_vd (vd_vf (vf_call (ds := []) (dvs := []) (dd := []) g__law_unlike_names (hr.mono (by decide)) tk rfl T.m__law_unlike_names D__law_unlike_names.kp b__law_unlike_names .nil (fun _ _ => .nil) (var_cons (vr_name 0 (pv 0)) (var_cons (vr_vd vd_int) (var_cons (vr_name 8 (pv 8)) var_nil))) rfl (ml_cons (ml_cons (ml_cons ml_nil)))))) (vr_vd vd_int))) (vss_cons (vs_set (i := 10) nd rfl (by first | exact .inl rfl | exact .inr rfl) (vf_lst (va_cons (vd_tup (va_cons (vd_tup (va_cons (vd_name 9 (pv 9)) (va_cons (vd_tup (va_cons (vd_tup (va_cons vd_int (va_cons vd_str va_nil))) va_nil)) va_nil))) va_nil)) (va_cons (vd_tup (va_cons (vd_tup (va_cons (vd_name 9 (pv 9)) (va_cons (vd_tup va_nil) va_nil))) va_nil)) (va_cons (vd_tup (va_cons (vd_tup (va_cons vd_int (va_cons vd_str (va_cons vd_str (va_cons vd_str (va_cons (vd_tup va_nil) va_nil)))))) va_nil)) va_nil))))) (vss_one (vs_setIx 2 (pv 2) (vd_name 3 (pv 3)) (vd_vf (vf_sub (hu_of hr) (vr_name 10 (pv 10)) (vr_vd (vd_vf (vf_sub2 (vr_name 3 (pv 3)) (vr_vd vd_int)))))))))))))))) (vss_one (vs_ret (vf_tuple T.n_tuple (var_cons (vr_name 2 (pv 2)) var_nil))))))
abbrev s__law_fields_right : Stmt := top 21
def m__law_fields_right : SM := (then_ (mSet 2 (mSh (mkTup (mCons (mFrz (op1 (fFld ["Face"] "name") (mSl 0))) (mCons (mFrz (op1 (fFld ["Face"] "edition") (mSl 0))) (mCons (mFrz (op1 (fFld ["Face"] "choices") (mSl 0))) (mCons (mFrz (op1 (fFld ["Face"] "records") (mSl 0))) (mCons (mFrz (op1 (fFld ["Face"] "calls") (mSl 0))) (ret []))))))))) (mRet (mSh (mAndV (mFrz (op2 fEq (mSl 2) (mSl 1))) (mAndV (mNotV (mFrz (opN (fIsi []) (mConsR (mVa (mFrz (op1 (fFld ["Face"] "edition") (mSl 0)))) (mConsR (mVa (ret (.ty "bool"))) (ret [])))))) (mFrz (opN (fIsi []) (mConsR (mVa (mFrz (op1 (fFld ["Face"] "records") (mSl 0)))) (mConsR (mVa (ret (.ty "tuple"))) (ret []))))))))))
def F__law_fields_right : Fn := mkFn 3 m__law_fields_right
theorem sc__law_fields_right : FnScope ["_law_one", "_law_parts", "_law_told"] ["_law_one", "_law_parts"] (defScope s__law_fields_right) := ⟨rfl, rfl, rfl, by decide +kernel, rfl, by decide +kernel, by decide +kernel⟩
theorem ok__law_fields_right (F : FunD K "_law_fields_right" "_law_fields_right" (defArgs s__law_fields_right) (defBody s__law_fields_right) (defScope s__law_fields_right) [] [] f fd) (T : Tx K mg) : FnOk P w K mg base (L2.CX P w) 1 f fd ["_law_one", "_law_parts"] (spOf K 2 F__law_fields_right) := by
  exact fn_ok F sc__law_fields_right fun cdv A outer s H E hr => by
    have nd := sc__law_fields_right.nd
    have tk : Takes (cxOf (L2.CX P w) P w K mg base ["_law_one", "_law_parts", "_law_told"] "_law_fields_right" (defScope s__law_fields_right) f cdv A outer s H E) (fun cls d _ H => E cls d H) := takes_of rfl rfl rfl rfl
    exact (vss_cons (vs_set (i := 2) nd rfl (by first | exact .inl rfl | exact .inr rfl) (vf_vd (vd_tup (va_cons (vd_vf (vf_fld (fld1 T.c_Face T.na_Face_name) (vr_name 0 (pv 0)))) (va_cons (vd_vf (vf_fld (fld1 T.c_Face T.na_Face_edition) (vr_name 0 (pv 0)))) (va_cons (vd_vf (vf_fld (fld1 T.c_Face T.na_Face_choices) (vr_name 0 (pv 0)))) (va_cons (vd_vf (vf_fld (fld1 T.c_Face T.na_Face_records) (vr_name 0 (pv 0)))) (va_cons (vd_vf (vf_fld (fld1 T.c_Face T.na_Face_calls) (vr_name 0 (pv 0)))) va_nil)))))))) (vss_one (vs_ret (vf_vd (vd_and (vd_vf (vf_eq hr (vr_name 2 (pv 2)) (vr_name 1 (pv 1)))) (vd_and (vd_not (vd_vf (vf_isi (cs := []) isi0 T.n_isinstance (var_cons (vr_vd (vd_vf (vf_fld (fld1 T.c_Face T.na_Face_edition) (vr_name 0 (pv 0))))) (var_cons (vr_vd (vd_ty T.n_bool bt_bool)) var_nil))))) (vd_one (vd_vf (vf_isi (cs := []) isi0 T.n_isinstance (var_cons (vr_vd (vd_vf (vf_fld (fld1 T.c_Face T.na_Face_records) (vr_name 0 (pv 0))))) (var_cons (vr_vd (vd_ty T.n_tuple bt_tuple)) var_nil)))))))))))
abbrev s_law : Stmt := top 22
noncomputable def m_law_b0 : SM := (then_ (mSet 12 (op2 fAdd (mVa (mFrz (op2 fAdd (mVa (mFrz (op2 fAdd (mVa (mFrz (op2 fAdd (mVa (ret (.str "Face("))) (mVa (mFrz (op2 fIx (mSl 11) (mVa (ret (.int 0))))))))) (mVa (ret (.str " ")))))) (mVa (mFrz (opN fStr (mConsR (mVa (mFrz (op2 fIx (mSl 11) (mVa (ret (.int 1)))))) (ret [])))))))) (mVa (ret (.str ")"))))) (then_ (mIfS (mOr (mNot (mTru (mVa (mFrz (mCall F__law_fields_right [] (mConsR (mSl 10) (mConsR (mSl 11) (ret [])))))))) (mT (op2 fNe (mVa (mFrz (mReprO F_Face___repr__ "Face" (mSl 10)))) (mSl 12)))) (mRet (mSh (ret (.bl false)))) (Vs.ret .nx)) (mIfS (mT (op2 fNe (mVa (mStrD (mFmtRO F_Face___repr__ "Face" (mSl 10)))) (mSl 12))) (mRet (mSh (ret (.bl false)))) (Vs.ret .nx))))
noncomputable def m_law_l0 : SM := (mFor (mItems (mFrz (mkLst (mCons (mkTup (mCons (mName 8) (mCons (mName 3) (ret [])))) (mCons (mkTup (mCons (mName 9) (mCons (mName 3) (ret [])))) (mCons (mkTup (mCons (mName 5) (mCons (mName 4) (ret [])))) (ret []))))))) (ttup 2 (tgCons (tnm 10) (tgCons (tnm 11) tgNil))) m_law_b0)
noncomputable def m_law_b2 : SM := (then_ (mSet 2 (mCall F__law_bag [] (mConsR (mSl 0) (mConsR (mSl 1) (ret []))))) (then_ (mSet 3 (mCall F__law_all_drawn [] (mConsR (mSl 2) (ret [])))) (then_ (mSet 4 (mCall F__law_bent_once [] (mConsR (mSl 2) (mConsR (mSl 3) (ret []))))) (then_ (mPar 8 9 (mCons (mFrz (mCall F__law_made_face [] (mConsR (mSl 3) (ret [])))) (mCons (mFrz (mCall F__law_made_anew [] (mConsR (mSl 3) (ret [])))) (ret [])))) (then_ (mSet 5 (mCall F__law_made_face [] (mConsR (mSl 4) (ret [])))) (then_ (mSet 6 (op2 fIx (mVa (mFrz (mkLst (mCons (ret .non) (mCons (mName 3) (mCons (mFrz (opN fList (mConsR (mSl 3) (ret [])))) (mCons (ret (.str "Face")) (mCons (mFrz (op2 fIx (mSl 3) (mVa (ret (.int 0))))) (mCons (ret (.int 1)) (mCons (mkTup (ret [])) (ret []))))))))))) (mVa (mFrz (mCall F__law_take [] (mConsR (mSl 2) (mConsR (mVa (ret (.int 7))) (ret [])))))))) (then_ (mSet 7 (mkLst (mCons (mFrz (mEqO F_Face___eq__ "Face" (mSl 8) (mSl 9))) (mCons (mFrz (mEqO F_Face___eq__ "Face" (mSl 9) (mSl 8))) (mCons (mFrz (mInA F_Face___eq__ "Face" (mSl 8) (mVa (mFrz (mkLst (mCons (mName 9) (ret []))))))) (ret [])))))) (then_ (mSet 7 (op2 fAdd (mSl 7) (mVa (mFrz (mkLst (mCons (mFrz (mPairO F_Face___eq__ "Face" (mVa (mkTup (mCons (ret (.int 0)) (mCons (mName 8) (ret []))))) (mVa (mkTup (mCons (ret (.int 0)) (mCons (mName 9) (ret []))))))) (mCons (mNotV (mFrz (mNeO F_Face___eq__ "Face" (mSl 8) (mSl 9)))) (ret [])))))))) (then_ (mIfS (mOr (mT (op2 fNe (mSl 7) (mVa (mFrz (op2 fRep (mVa (mFrz (mkLst (mCons (ret (.bl true)) (ret []))))) (mVa (ret (.int 5)))))))) (mNot (mTru (mVa (mFrz (opN (fIsi []) (mConsR (mVa (mFrz (op2 fIx (mSl 7) (mVa (ret (.int 0)))))) (mConsR (mVa (ret (.ty "bool"))) (ret []))))))))) (mRet (mSh (ret (.bl false)))) (Vs.ret .nx)) (then_ (mSet 7 (mkLst (mCons (mFrz (mEqO F_Face___eq__ "Face" (mSl 8) (mSl 5))) (mCons (mFrz (mEqO F_Face___eq__ "Face" (mSl 5) (mSl 8))) (mCons (mFrz (mInA F_Face___eq__ "Face" (mSl 8) (mVa (mFrz (mkLst (mCons (mName 5) (ret []))))))) (mCons (mNotV (mFrz (mNeO F_Face___eq__ "Face" (mSl 5) (mSl 9)))) (ret []))))))) (then_ (mIfS (mT (op2 fNe (mSl 7) (mVa (mFrz (op2 fRep (mVa (mFrz (mkLst (mCons (ret (.bl false)) (ret []))))) (mVa (ret (.int 4)))))))) (mRet (mSh (ret (.bl false)))) (Vs.ret .nx)) (then_ (mIfS (mOr (mT (mEqO F_Face___eq__ "Face" (mSl 8) (mSl 6))) (mT (mEqO F_Face___eq__ "Face" (mSl 6) (mSl 8)))) (mRet (mSh (ret (.bl false)))) (Vs.ret .nx)) (then_ (mIfS (mOr (mNot (mT (mNeO F_Face___eq__ "Face" (mSl 8) (mSl 6)))) (mT (mInA F_Face___eq__ "Face" (mSl 8) (mVa (mFrz (mkLst (mCons (mName 6) (ret [])))))))) (mRet (mSh (ret (.bl false)))) (Vs.ret .nx)) m_law_l0)))))))))))))
noncomputable def m_law_l2 : SM := (mFor (mRange1 (mCons (mFrz (opN fMax (mConsR (mVa (ret (.int 1))) (mConsR (mVa (mFrz (opN fMin (mConsR (mVa (ret (.int 8))) (mConsR (mVa (mFrz (opN fLen (mConsR (mSl 0) (ret []))))) (ret [])))))) (ret []))))) (ret []))) (tnm 1) m_law_b2)
noncomputable def m_law : SM := (then_ m_law_l2 (mRet (mSh (ret (.bl true)))))
noncomputable def F_law : Fn := mkFn 13 m_law
theorem sc_law : FnScope ["_law_script", "_law_k", "_law_bag_here", "_law_parts", "_law_bent", "_law_last", "_law_odd", "_law_told", "_law_one", "_law_other", "_law_face", "_law_due", "_law_words"] ["_law_script"] (defScope s_law) := ⟨rfl, rfl, rfl, by decide +kernel, rfl, by decide +kernel, by decide +kernel⟩
theorem ok_law (F : FunD K "law" "law" (defArgs s_law) (defBody s_law) (defScope s_law) [] [] f fd) (T : Tx K mg) (D__law_bag : DefAt P w K mg base (He.fAd K ("_law_bag", none)) 1 ["_law_script", "_law_at"] 2 F__law_bag) (D__law_all_drawn : DefAt P w K mg base (He.fAd K ("_law_all_drawn", none)) 6 ["_law_bag_here"] 1 F__law_all_drawn) (D__law_bent_once : DefAt P w K mg base (He.fAd K ("_law_bent_once", none)) 4 ["_law_bag_here", "_law_parts"] 2 F__law_bent_once) (D__law_made_face : DefAt P w K mg base (He.fAd K ("_law_made_face", none)) 3 ["_law_parts"] 1 F__law_made_face) (D__law_made_anew : DefAt P w K mg base (He.fAd K ("_law_made_anew", none)) 3 ["_law_parts"] 1 F__law_made_anew) (D__law_take : DefAt P w K mg base (He.fAd K ("_law_take", none)) 1 ["_law_bag_here", "_law_size"] 2 F__law_take) (D_Face___eq__ : DefAt P w K mg base (He.fAd K ("Face", some "__eq__")) 2 ["self", "other"] 2 F_Face___eq__) (D__law_fields_right : DefAt P w K mg base (He.fAd K ("_law_fields_right", none)) 1 ["_law_one", "_law_parts"] 2 F__law_fields_right) (D_Face___repr__ : DefAt P w K mg base (He.fAd K ("Face", some "__repr__")) 1 ["self"] 1 F_Face___repr__) : FnOk P w K mg base (L2.CX P w) 7 f fd ["_law_script"] (spOf K 1 F_law) := by
  obtain ⟨fd__law_bag, g__law_bag, b__law_bag⟩ := D__law_bag.ex
  obtain ⟨fd__law_all_drawn, g__law_all_drawn, b__law_all_drawn⟩ := D__law_all_drawn.ex
  obtain ⟨fd__law_bent_once, g__law_bent_once, b__law_bent_once⟩ := D__law_bent_once.ex
  obtain ⟨fd__law_made_face, g__law_made_face, b__law_made_face⟩ := D__law_made_face.ex
  obtain ⟨fd__law_made_anew, g__law_made_anew, b__law_made_anew⟩ := D__law_made_anew.ex
  obtain ⟨fd__law_take, g__law_take, b__law_take⟩ := D__law_take.ex
  obtain ⟨fd_Face___eq__, g_Face___eq__, b_Face___eq__⟩ := D_Face___eq__.ex
  obtain ⟨fd__law_fields_right, g__law_fields_right, b__law_fields_right⟩ := D__law_fields_right.ex
  obtain ⟨fd_Face___repr__, g_Face___repr__, b_Face___repr__⟩ := D_Face___repr__.ex
  exact fn_ok F sc_law fun cdv A outer s H E hr => by
    have nd := sc_law.nd
    have tk : Takes (cxOf (L2.CX P w) P w K mg base ["_law_script", "_law_k", "_law_bag_here", "_law_parts", "_law_bent", "_law_last", "_law_odd", "_law_told", "_law_one", "_law_other", "_law_face", "_law_due", "_law_words"] "law" (defScope s_law) f cdv A outer s H E) (fun cls d _ H => E cls d H) := takes_of rfl rfl rfl rfl
    exact (vss_cons (vs_for (passes_of rfl) rfl (vi_range1 rfl T.n_range (va_cons (vd_vf (vf_max rfl T.n_max (var_cons (vr_vd vd_int) (var_cons (vr_vd (vd_vf (vf_min rfl T.n_min (var_cons (vr_vd vd_int) (var_cons (vr_vd (vd_vf (vf_len T.n_len (var_cons (vr_name 0 (pv 0)) var_nil)))) var_nil))))) var_nil)))) va_nil)) (vg_name (i := 1) nd rfl (by first | exact .inl rfl | exact .inr rfl)) (vss_cons (vs_set (i := 2) nd rfl (by first | exact .inl rfl | exact .inr rfl) (vf_call (ds := []) (dvs := []) (dd := []) g__law_bag (hr.mono (by decide)) tk rfl T.m__law_bag D__law_bag.kp b__law_bag .nil (fun _ _ => .nil) (var_cons (vr_name 0 (pv 0)) (var_cons (vr_name 1 (pv 1)) var_nil)) rfl (ml_cons (ml_cons ml_nil)))) (vss_cons (vs_set (i := 3) nd rfl (by first | exact .inl rfl | exact .inr rfl) (vf_call (ds := []) (dvs := []) (dd := []) g__law_all_drawn (hr.mono (by decide)) tk rfl T.m__law_all_drawn D__law_all_drawn.kp b__law_all_drawn .nil (fun _ _ => .nil) (var_cons (vr_name 2 (pv 2)) var_nil) rfl (ml_cons ml_nil))) (vss_cons (vs_set (i := 4) nd rfl (by first | exact .inl rfl | exact .inr rfl) (vf_call (ds := []) (dvs := []) (dd := []) g__law_bent_once (hr.mono (by decide)) tk rfl T.m__law_bent_once D__law_bent_once.kp b__law_bent_once .nil (fun _ _ => .nil) (var_cons (vr_name 2 (pv 2)) (var_cons (vr_name 3 (pv 3)) var_nil)) rfl (ml_cons (ml_cons ml_nil)))) (vss_cons (vs_par (i := 8) (j := 9) rfl nd rfl rfl (by decide) rfl rfl (va_cons (vd_vf (vf_call (ds := []) (dvs := []) (dd := []) g__law_made_face (hr.mono (by decide)) tk rfl T.m__law_made_face D__law_made_face.kp b__law_made_face .nil (fun _ _ => .nil) (var_cons (vr_name 3 (pv 3)) var_nil) rfl (ml_cons ml_nil))) (va_cons (vd_vf (vf_call (ds := []) (dvs := []) (dd := []) g__law_made_anew (hr.mono (by decide)) tk rfl T.m__law_made_anew D__law_made_anew.kp b__law_made_anew .nil (fun _ _ => .nil) (var_cons (vr_name 3 (pv 3)) var_nil) rfl (ml_cons ml_nil))) va_nil)) rfl) (vss_cons (vs_set (i := 5) nd rfl (by first | exact .inl rfl | exact .inr rfl) (vf_call (ds := []) (dvs := []) (dd := []) g__law_made_face (hr.mono (by decide)) tk rfl T.m__law_made_face D__law_made_face.kp b__law_made_face .nil (fun _ _ => .nil) (var_cons (vr_name 4 (pv 4)) var_nil) rfl (ml_cons ml_nil))) (vss_cons (vs_set (i := 6) nd rfl (by first | exact .inl rfl | exact .inr rfl) (vf_sub (hu_of hr) (vr_vd (vd_vf (vf_lst (va_cons vd_non (va_cons (vd_name 3 (pv 3)) (va_cons (vd_vf (vf_list T.n_list (var_cons (vr_name 3 (pv 3)) var_nil))) (va_cons vd_str (va_cons (vd_vf (vf_sub (hu_of hr) (vr_name 3 (pv 3)) (vr_vd vd_int))) (va_cons vd_int (va_cons (vd_tup va_nil) va_nil)))))))))) (vr_vd (vd_vf (vf_call (ds := []) (dvs := []) (dd := []) g__law_take (hr.mono (by decide)) tk rfl T.m__law_take D__law_take.kp b__law_take .nil (fun _ _ => .nil) (var_cons (vr_name 2 (pv 2)) (var_cons (vr_vd vd_int) var_nil)) rfl (ml_cons (ml_cons ml_nil))))))) (vss_cons (vs_set (i := 7) nd rfl (by first | exact .inl rfl | exact .inr rfl) (vf_lst (va_cons (vd_vf (vf_eqO uni0 ⟨⟨fd_Face___eq__, _, g_Face___eq__, b_Face___eq__⟩, T.me_Face___eq__, passEA tk⟩ T.eq_Face (hr.mono (by decide)) (vr_name 8 (pv 8)) (vr_name 9 (pv 9)))) (va_cons (vd_vf (vf_eqO uni0 ⟨⟨fd_Face___eq__, _, g_Face___eq__, b_Face___eq__⟩, T.me_Face___eq__, passEA tk⟩ T.eq_Face (hr.mono (by decide)) (vr_name 9 (pv 9)) (vr_name 8 (pv 8)))) (va_cons (vd_vf (vf_inA uni0 ⟨⟨fd_Face___eq__, _, g_Face___eq__, b_Face___eq__⟩, T.me_Face___eq__, passEA tk⟩ T.eq_Face (hr.mono (by decide)) (vr_name 8 (pv 8)) (vr_vd (vd_vf (vf_lst (va_cons (vd_name 9 (pv 9)) va_nil)))))) va_nil))))) (vss_cons (vs_set (i := 7) nd rfl (by first | exact .inl rfl | exact .inr rfl) (vf_add (vr_name 7 (pv 7)) (vr_vd (vd_vf (vf_lst (va_cons (vd_vf (vf_pairO uni0 ⟨⟨fd_Face___eq__, _, g_Face___eq__, b_Face___eq__⟩, T.me_Face___eq__, passEA tk⟩ T.eq_Face (hr.mono (by decide)) (vr_vd (vd_tup (va_cons vd_int (va_cons (vd_name 8 (pv 8)) va_nil)))) (vr_vd (vd_tup (va_cons vd_int (va_cons (vd_name 9 (pv 9)) va_nil)))))) (va_cons (vd_not (vd_vf (vf_neO uni0 ⟨⟨fd_Face___eq__, _, g_Face___eq__, b_Face___eq__⟩, T.me_Face___eq__, passEA tk⟩ T.eq_Face (hr.mono (by decide)) (vr_name 8 (pv 8)) (vr_name 9 (pv 9))))) va_nil))))))) (vss_cons (vs_if (PW.pt (vw_or (vt_ne hr (vr_name 7 (pv 7)) (vr_vd (vd_vf (vf_rep (vr_vd (vd_vf (vf_lst (va_cons vd_bl va_nil)))) (vr_vd vd_int))))) (vw_or1 (vt_not (vt_tru (vr_vd (vd_vf (vf_isi (cs := []) isi0 T.n_isinstance (var_cons (vr_vd (vd_vf (vf_sub (hu_of hr) (vr_name 7 (pv 7)) (vr_vd vd_int)))) (var_cons (vr_vd (vd_ty T.n_bool bt_bool)) var_nil)))))))))) (vss_one (vs_ret (vf_vd vd_bl))) vss_nil) (vss_cons (vs_set (i := 7) nd rfl (by first | exact .inl rfl | exact .inr rfl) (vf_lst (va_cons (vd_vf (vf_eqO uni0 ⟨⟨fd_Face___eq__, _, g_Face___eq__, b_Face___eq__⟩, T.me_Face___eq__, passEA tk⟩ T.eq_Face (hr.mono (by decide)) (vr_name 8 (pv 8)) (vr_name 5 (pv 5)))) (va_cons (vd_vf (vf_eqO uni0 ⟨⟨fd_Face___eq__, _, g_Face___eq__, b_Face___eq__⟩, T.me_Face___eq__, passEA tk⟩ T.eq_Face (hr.mono (by decide)) (vr_name 5 (pv 5)) (vr_name 8 (pv 8)))) (va_cons (vd_vf (vf_inA uni0 ⟨⟨fd_Face___eq__, _, g_Face___eq__, b_Face___eq__⟩, T.me_Face___eq__, passEA tk⟩ T.eq_Face (hr.mono (by decide)) (vr_name 8 (pv 8)) (vr_vd (vd_vf (vf_lst (va_cons (vd_name 5 (pv 5)) va_nil)))))) (va_cons (vd_not (vd_vf (vf_neO uni0 ⟨⟨fd_Face___eq__, _, g_Face___eq__, b_Face___eq__⟩, T.me_Face___eq__, passEA tk⟩ T.eq_Face (hr.mono (by decide)) (vr_name 5 (pv 5)) (vr_name 9 (pv 9))))) va_nil)))))) (vss_cons (vs_if (vt_ne hr (vr_name 7 (pv 7)) (vr_vd (vd_vf (vf_rep (vr_vd (vd_vf (vf_lst (va_cons vd_bl va_nil)))) (vr_vd vd_int))))) (vss_one (vs_ret (vf_vd vd_bl))) vss_nil) (vss_cons (vs_if (PW.pt (vw_or (vt_eqO uni0 ⟨⟨fd_Face___eq__, _, g_Face___eq__, b_Face___eq__⟩, T.me_Face___eq__, passEA tk⟩ T.eq_Face (hr.mono (by decide)) (vr_name 8 (pv 8)) (vr_name 6 (pv 6))) (vw_or1 (vt_eqO uni0 ⟨⟨fd_Face___eq__, _, g_Face___eq__, b_Face___eq__⟩, T.me_Face___eq__, passEA tk⟩ T.eq_Face (hr.mono (by decide)) (vr_name 6 (pv 6)) (vr_name 8 (pv 8)))))) (vss_one (vs_ret (vf_vd vd_bl))) vss_nil) (vss_cons (vs_if (PW.pt (vw_or (vt_not (vt_neO uni0 ⟨⟨fd_Face___eq__, _, g_Face___eq__, b_Face___eq__⟩, T.me_Face___eq__, passEA tk⟩ T.eq_Face (hr.mono (by decide)) (vr_name 8 (pv 8)) (vr_name 6 (pv 6)))) (vw_or1 (vt_inA uni0 ⟨⟨fd_Face___eq__, _, g_Face___eq__, b_Face___eq__⟩, T.me_Face___eq__, passEA tk⟩ T.eq_Face (hr.mono (by decide)) (vr_name 8 (pv 8)) (vr_vd (vd_vf (vf_lst (va_cons (vd_name 6 (pv 6)) va_nil)))))))) (vss_one (vs_ret (vf_vd vd_bl))) vss_nil) (vss_one (vs_for (passes_of rfl) rfl (vi_seq (vd_vf (vf_lst (va_cons (vd_tup (va_cons (vd_name 8 (pv 8)) (va_cons (vd_name 3 (pv 3)) va_nil))) (va_cons (vd_tup (va_cons (vd_name 9 (pv 9)) (va_cons (vd_name 3 (pv 3)) va_nil))) (va_cons (vd_tup (va_cons (vd_name 5 (pv 5)) (va_cons (vd_name 4 (pv 4)) va_nil))) va_nil)))))) (vg_tup rfl (vgs_cons (vg_name (i := 10) nd rfl (by first | exact .inl rfl | exact .inr rfl)) (vgs_cons (vg_name (i := 11) nd rfl (by first | exact .inl rfl | exact .inr rfl)) vgs_nil))) (vss_cons (vs_set (i := 12) nd rfl (by first | exact .inl rfl | exact .inr rfl) (vf_add (vr_vd (vd_vf (vf_add (vr_vd (vd_vf (vf_add (vr_vd (vd_vf (vf_add (vr_vd vd_str) (vr_vd (vd_vf (vf_sub (hu_of hr) (vr_name 11 (pv 11)) (vr_vd vd_int))))))) (vr_vd vd_str)))) (vr_vd (vd_vf (vf_str T.n_str (var_cons (vr_vd (vd_vf (vf_sub (hu_of hr) (vr_name 11 (pv 11)) (vr_vd vd_int)))) var_nil))))))) (vr_vd vd_str))) (vss_cons (vs_if (PW.pt (vw_or (vt_not (vt_tru (vr_vd (vd_vf (vf_call (ds := []) (dvs := []) (dd := []) g__law_fields_right (hr.mono (by decide)) tk rfl T.m__law_fields_right D__law_fields_right.kp b__law_fields_right .nil (fun _ _ => .nil) (var_cons (vr_name 10 (pv 10)) (var_cons (vr_name 11 (pv 11)) var_nil)) rfl (ml_cons (ml_cons ml_nil))))))) (vw_or1 (vt_ne hr (vr_vd (vd_vf (vf_reprO uni0 tk g_Face___repr__ T.me_Face___repr__ b_Face___repr__ (hr.mono (by decide)) T.n_repr (vr_name 10 (pv 10))))) (vr_name 12 (pv 12)))))) (vss_one (vs_ret (vf_vd vd_bl))) vss_nil) (vss_one (vs_if (vt_ne hr (vr_vd (vd_joined1 (vp_fmtRO uni0 tk g_Face___repr__ T.me_Face___repr__ b_Face___repr__ (hr.mono (by decide)) (vr_name 10 (pv 10))))) (vr_name 12 (pv 12))) (vss_one (vs_ret (vf_vd vd_bl))) vss_nil)))))))))))))))))))) (vss_one (vs_ret (vf_vd vd_bl))))
end
end My
namespace My
open PySem PySem.Spec PyProof.Rows L2 Vs
theorem log_small {n : Int} (h : n.natAbs < 2 ^ 64) : n.natAbs.log2 < 64 := by
  by_cases e : n.natAbs = 0
  · rw [e]; decide
  · exact (Nat.log2_lt e).mpr h
theorem log_le {n k : Nat} (h : n < 2 ^ k) (hk : 0 < k) : n.log2 < k := by
  by_cases e : n = 0
  · rw [e]; exact hk
  · exact (Nat.log2_lt e).mpr h
theorem atI_nat' {α : Type} (xs : List α) (n : Nat) : L2.atI xs (n : Int) = xs[n]? := by
  unfold L2.atI L2.ixN
  rw [if_pos (by omega)]
  by_cases h : n < xs.length
  · rw [if_pos (by omega)]; simp [Vs.mkFn, Vs.then_, Vs.bnd, Vs.mIfS, Vs.mIf, Vs.mT, Vs.op2, Vs.op1, Vs.mSl, Vs.mVa, Vs.ret, Vs.look, Vs.view, Vs.rd, Vs.O.view, Vs.fIx, Vs.orF, Vs.fIxS, Vs.mSet, Vs.putSl, Vs.mFrz, Vs.mSetIx, Vs.mSh, Vs.mName, Vs.mRetSl, Vs.mRet, Vs.cellL, Vs.cellOf, _root_.L2.ixN, Vs.fGt, Vs.fLt, Vs.fLe, Vs.fGe, Vs.fEq, Vs.fNe, Vs.eqD, Vs.fMod, Vs.fDiv, Vs.fMul, Vs.fAdd, Vs.fSub, Vs.fPow, Vs.oI, Vs.oB, Vs.opN, Vs.views, Vs.mConsR, Vs.mCons, Vs.mkTup, Vs.mkLst, Vs.mPar, Vs.fAbs, Vs.fInt, Vs.fLen, Vs.orN, Vs.fLenS, Vs.fLenT, Vs.seqD, Vs.mCall, Vs.callF, Vs.passL, Vs.upds, Vs.wipeL, Vs.mRange1, Vs.mRange2, Vs.mItems, Vs.itD, Vs.tnm, Vs.strM, Vs.mStr, Vs.fJoin, Vs.mFor, Vs.mMeL, Vs.fAppend, Vs.mDrop, Vs.mAnd, Vs.mOr, Vs.mNot, Vs.slM, Vs.fSl, Vs.mPart, Vs.fList, Vs.fTuple, Vs.fStr, Vs.mTru, Vs.truD, Vs.fMax, Vs.fMin]
  · rw [if_neg (by omega)]; simp [Vs.mkFn, Vs.then_, Vs.bnd, Vs.mIfS, Vs.mIf, Vs.mT, Vs.op2, Vs.op1, Vs.mSl, Vs.mVa, Vs.ret, Vs.look, Vs.view, Vs.rd, Vs.O.view, Vs.fIx, Vs.orF, Vs.fIxS, Vs.mSet, Vs.putSl, Vs.mFrz, Vs.mSetIx, Vs.mSh, Vs.mName, Vs.mRetSl, Vs.mRet, Vs.cellL, Vs.cellOf, _root_.L2.ixN, Vs.fGt, Vs.fLt, Vs.fLe, Vs.fGe, Vs.fEq, Vs.fNe, Vs.eqD, Vs.fMod, Vs.fDiv, Vs.fMul, Vs.fAdd, Vs.fSub, Vs.fPow, Vs.oI, Vs.oB, Vs.opN, Vs.views, Vs.mConsR, Vs.mCons, Vs.mkTup, Vs.mkLst, Vs.mPar, Vs.fAbs, Vs.fInt, Vs.fLen, Vs.orN, Vs.fLenS, Vs.fLenT, Vs.seqD, Vs.mCall, Vs.callF, Vs.passL, Vs.upds, Vs.wipeL, Vs.mRange1, Vs.mRange2, Vs.mItems, Vs.itD, Vs.tnm, Vs.strM, Vs.mStr, Vs.fJoin, Vs.mFor, Vs.mMeL, Vs.fAppend, Vs.mDrop, Vs.mAnd, Vs.mOr, Vs.mNot, Vs.slM, Vs.fSl, Vs.mPart, Vs.fList, Vs.fTuple, Vs.fStr, Vs.mTru, Vs.truD, Vs.fMax, Vs.fMin]; omega
@[simp] theorem atI_0 {α : Type} (xs : List α) : L2.atI xs 0 = xs[0]? := atI_nat' xs 0
@[simp] theorem atI_1 {α : Type} (xs : List α) : L2.atI xs 1 = xs[1]? := atI_nat' xs 1
@[simp] theorem atI_2 {α : Type} (xs : List α) : L2.atI xs 2 = xs[2]? := atI_nat' xs 2
@[simp] theorem atI_3 {α : Type} (xs : List α) : L2.atI xs 3 = xs[3]? := atI_nat' xs 3
@[simp] theorem atI_4 {α : Type} (xs : List α) : L2.atI xs 4 = xs[4]? := atI_nat' xs 4
@[simp] theorem atI_5 {α : Type} (xs : List α) : L2.atI xs 5 = xs[5]? := atI_nat' xs 5
@[simp] theorem atI_6 {α : Type} (xs : List α) : L2.atI xs 6 = xs[6]? := atI_nat' xs 6
@[simp] theorem atI_7 {α : Type} (xs : List α) : L2.atI xs 7 = xs[7]? := atI_nat' xs 7
@[simp] theorem atI_8 {α : Type} (xs : List α) : L2.atI xs 8 = xs[8]? := atI_nat' xs 8
theorem mulOk_l {i j : Int} (h1 : -(2 ^ 64) < i) (h2 : i < 2 ^ 64) : mulOk i j = true := by unfold mulOk; simp [Vs.mkFn, Vs.then_, Vs.bnd, Vs.mIfS, Vs.mIf, Vs.mT, Vs.op2, Vs.op1, Vs.mSl, Vs.mVa, Vs.ret, Vs.look, Vs.view, Vs.rd, Vs.O.view, Vs.fIx, Vs.orF, Vs.fIxS, Vs.mSet, Vs.putSl, Vs.mFrz, Vs.mSetIx, Vs.mSh, Vs.mName, Vs.mRetSl, Vs.mRet, Vs.cellL, Vs.cellOf, _root_.L2.ixN, Vs.fGt, Vs.fLt, Vs.fLe, Vs.fGe, Vs.fEq, Vs.fNe, Vs.eqD, Vs.fMod, Vs.fDiv, Vs.fMul, Vs.fAdd, Vs.fSub, Vs.fPow, Vs.oI, Vs.oB, Vs.opN, Vs.views, Vs.mConsR, Vs.mCons, Vs.mkTup, Vs.mkLst, Vs.mPar, Vs.fAbs, Vs.fInt, Vs.fLen, Vs.orN, Vs.fLenS, Vs.fLenT, Vs.seqD, Vs.mCall, Vs.callF, Vs.passL, Vs.upds, Vs.wipeL, Vs.mRange1, Vs.mRange2, Vs.mItems, Vs.itD, Vs.tnm, Vs.strM, Vs.mStr, Vs.fJoin, Vs.mFor, Vs.mMeL, Vs.fAppend, Vs.mDrop, Vs.mAnd, Vs.mOr, Vs.mNot, Vs.slM, Vs.fSl, Vs.mPart, Vs.fList, Vs.fTuple, Vs.fStr, Vs.mTru, Vs.truD, Vs.fMax, Vs.fMin]; omega
theorem mulOk_r {i j : Int} (h1 : -(2 ^ 64) < j) (h2 : j < 2 ^ 64) : mulOk i j = true := by unfold mulOk; simp [Vs.mkFn, Vs.then_, Vs.bnd, Vs.mIfS, Vs.mIf, Vs.mT, Vs.op2, Vs.op1, Vs.mSl, Vs.mVa, Vs.ret, Vs.look, Vs.view, Vs.rd, Vs.O.view, Vs.fIx, Vs.orF, Vs.fIxS, Vs.mSet, Vs.putSl, Vs.mFrz, Vs.mSetIx, Vs.mSh, Vs.mName, Vs.mRetSl, Vs.mRet, Vs.cellL, Vs.cellOf, _root_.L2.ixN, Vs.fGt, Vs.fLt, Vs.fLe, Vs.fGe, Vs.fEq, Vs.fNe, Vs.eqD, Vs.fMod, Vs.fDiv, Vs.fMul, Vs.fAdd, Vs.fSub, Vs.fPow, Vs.oI, Vs.oB, Vs.opN, Vs.views, Vs.mConsR, Vs.mCons, Vs.mkTup, Vs.mkLst, Vs.mPar, Vs.fAbs, Vs.fInt, Vs.fLen, Vs.orN, Vs.fLenS, Vs.fLenT, Vs.seqD, Vs.mCall, Vs.callF, Vs.passL, Vs.upds, Vs.wipeL, Vs.mRange1, Vs.mRange2, Vs.mItems, Vs.itD, Vs.tnm, Vs.strM, Vs.mStr, Vs.fJoin, Vs.mFor, Vs.mMeL, Vs.fAppend, Vs.mDrop, Vs.mAnd, Vs.mOr, Vs.mNot, Vs.slM, Vs.fSl, Vs.mPart, Vs.fList, Vs.fTuple, Vs.fStr, Vs.mTru, Vs.truD, Vs.fMax, Vs.fMin]; omega
theorem take_pos (a b c n : Int) (ha : 0 < a) (hn : 0 < n) (hn2 : n < 2 ^ 62) (tb : List O) : F__law_take [.pt 0, .sh (.int n)] [.ol [.int a, .int b, .int c]] tb = some (.ok (.sh (.int (a % n))) [.ol [.int (a / n), .int b, .int c]] tb) := by
  have hl : n.natAbs.log2 < 9000 := Nat.lt_trans (log_small (by omega)) (by decide)
  simp [Vs.mkFn, Vs.then_, Vs.bnd, Vs.mIfS, Vs.mIf, Vs.mT, Vs.op2, Vs.op1, Vs.mSl, Vs.mVa, Vs.ret, Vs.look, Vs.view, Vs.rd, Vs.O.view, Vs.fIx, Vs.orF, Vs.fIxS, Vs.mSet, Vs.putSl, Vs.mFrz, Vs.mSetIx, Vs.mSh, Vs.mName, Vs.mRetSl, Vs.mRet, Vs.cellL, Vs.cellOf, _root_.L2.ixN, Vs.fGt, Vs.fLt, Vs.fLe, Vs.fGe, Vs.fEq, Vs.fNe, Vs.eqD, Vs.fMod, Vs.fDiv, Vs.fMul, Vs.fAdd, Vs.fSub, Vs.fPow, Vs.oI, Vs.oB, Vs.opN, Vs.views, Vs.mConsR, Vs.mCons, Vs.mkTup, Vs.mkLst, Vs.mPar, Vs.fAbs, Vs.fInt, Vs.fLen, Vs.orN, Vs.fLenS, Vs.fLenT, Vs.seqD, Vs.mCall, Vs.callF, Vs.passL, Vs.upds, Vs.wipeL, Vs.mRange1, Vs.mRange2, Vs.mItems, Vs.itD, Vs.tnm, Vs.strM, Vs.mStr, Vs.fJoin, Vs.mFor, Vs.mMeL, Vs.fAppend, Vs.mDrop, Vs.mAnd, Vs.mOr, Vs.mNot, Vs.slM, Vs.fSl, Vs.mPart, Vs.fList, Vs.fTuple, Vs.fStr, Vs.mTru, Vs.truD, Vs.fMax, Vs.fMin, F__law_take, m__law_take, ha, hn, hl]
theorem primes_pos (i : Int) (h0 : 0 ≤ i) (h8 : i < 8) : ∃ p : Int, 2000000000 < p ∧ p < 2200000000 ∧ L2.atI [D.int 2147483647, D.int 2147483629, D.int 2147483587, D.int 2147483579, D.int 2147483563, D.int 2147483549, D.int 2147483543, D.int 2147483497] i = some (D.int p) := by
  have : i = 0 ∨ i = 1 ∨ i = 2 ∨ i = 3 ∨ i = 4 ∨ i = 5 ∨ i = 6 ∨ i = 7 := by omega
  rcases this with h|h|h|h|h|h|h|h <;> subst h <;> refine ⟨_, ?_, ?_, rfl⟩ <;> decide
theorem take_zero (a b c n : Int) (ha : ¬ 0 < a) (hb0 : 0 ≤ b) (hb : b < 2 ^ 62) (hc0 : 0 ≤ c) (hc : c < 2 ^ 60) (hn : 0 < n) (hn2 : n < 2 ^ 62) (tb : List O) : ∃ r : Int, 0 ≤ r ∧ r < n ∧ F__law_take [.pt 0, .sh (.int n)] [.ol [.int a, .int b, .int c]] tb = some (.ok (.sh (.int r)) [.ol [.int a, .int b, .int (c + 1)]] tb) := by
  obtain ⟨p1, l1, u1, e1⟩ := primes_pos ((c + 1) % 8) (by omega) (by omega)
  obtain ⟨p2, l2, u2, e2⟩ := primes_pos ((c + 1 + 5) % 8) (by omega) (by omega)
  have z1 : 0 < p1 := by omega
  have z2 : 0 < p2 := by omega
  have m1 : mulOk b (2 * (c + 1) + 1) = true := mulOk_l (by omega) (by omega)
  have m2 : mulOk 2 (c + 1) = true := mulOk_l (by decide) (by decide)
  have m3 : mulOk 6007 (c + 1) = true := mulOk_l (by decide) (by decide)
  have m4 : mulOk (6007 * (c + 1)) (c + 1) = true := mulOk_r (by omega) (by omega)
  have q1 : b * (2 * (c + 1) + 1) < 2 ^ 62 * 2 ^ 62 := Int.mul_lt_mul hb (by omega) (by omega) (by omega)
  have q1' : 0 ≤ b * (2 * (c + 1) + 1) := Int.mul_nonneg hb0 (by omega)
  have q2 : 6007 * (c + 1) * (c + 1) < 2 ^ 77 * 2 ^ 62 := Int.mul_lt_mul (by omega) (by omega) (by omega) (by omega)
  have q2' : 0 ≤ 6007 * (c + 1) * (c + 1) := Int.mul_nonneg (by omega) (by omega)
  have w : (b * (2 * (c + 1) + 1) + 6007 * (c + 1) * (c + 1) + 31).natAbs.log2 ≤ 100000 := Nat.le_of_lt (Nat.lt_trans (log_le (k := 200) (by omega) (by decide)) (by decide))
  generalize hB : b * (2 * (c + 1) + 1) + 6007 * (c + 1) * (c + 1) + 31 = B at w
  have f1 : 0 ≤ B ^ 3 % p1 := Int.emod_nonneg _ (by omega)
  have f2 : B ^ 3 % p1 < p1 := Int.emod_lt_of_pos _ z1
  have m5 : mulOk (B ^ 3 % p1) (B ^ 3 % p1 / 4096 + 13) = true := mulOk_l (by omega) (by omega)
  refine ⟨B ^ 3 % p1 * (B ^ 3 % p1 / 4096 + 13) % p2 / 16 % n, Int.emod_nonneg _ (by omega), Int.emod_lt_of_pos _ hn, ?_⟩
  have lz : Nat.log2 4096 < 9000 := by decide
  have ly : Nat.log2 16 < 9000 := by decide
  simp [Vs.mkFn, Vs.then_, Vs.bnd, Vs.mIfS, Vs.mIf, Vs.mT, Vs.op2, Vs.op1, Vs.mSl, Vs.mVa, Vs.ret, Vs.look, Vs.view, Vs.rd, Vs.O.view, Vs.fIx, Vs.orF, Vs.fIxS, Vs.mSet, Vs.putSl, Vs.mFrz, Vs.mSetIx, Vs.mSh, Vs.mName, Vs.mRetSl, Vs.mRet, Vs.cellL, Vs.cellOf, _root_.L2.ixN, Vs.fGt, Vs.fLt, Vs.fLe, Vs.fGe, Vs.fEq, Vs.fNe, Vs.eqD, Vs.fMod, Vs.fDiv, Vs.fMul, Vs.fAdd, Vs.fSub, Vs.fPow, Vs.oI, Vs.oB, Vs.opN, Vs.views, Vs.mConsR, Vs.mCons, Vs.mkTup, Vs.mkLst, Vs.mPar, Vs.fAbs, Vs.fInt, Vs.fLen, Vs.orN, Vs.fLenS, Vs.fLenT, Vs.seqD, Vs.mCall, Vs.callF, Vs.passL, Vs.upds, Vs.wipeL, Vs.mRange1, Vs.mRange2, Vs.mItems, Vs.itD, Vs.tnm, Vs.strM, Vs.mStr, Vs.fJoin, Vs.mFor, Vs.mMeL, Vs.fAppend, Vs.mDrop, Vs.mAnd, Vs.mOr, Vs.mNot, Vs.slM, Vs.fSl, Vs.mPart, Vs.fList, Vs.fTuple, Vs.fStr, Vs.mTru, Vs.truD, Vs.fMax, Vs.fMin, F__law_take, m__law_take, ha, hn, m1, m2, m3, m4, m5, e1, e2, z1, z2, hB, w, lz, ly]
/-- a bag after at most N takes from the seed -/
def Bag (N : Nat) (l : List D) : Prop := ∃ a b c : Int, l = [.int a, .int b, .int c] ∧ 0 ≤ b ∧ b < 2 ^ 62 ∧ 0 ≤ c ∧ c ≤ N
theorem Bag.mono {N M : Nat} {l : List D} (h : Bag N l) (e : N ≤ M) : Bag M l := by
  obtain ⟨a, b, c, h1, h2, h3, h4, h5⟩ := h
  exact ⟨a, b, c, h1, h2, h3, h4, by omega⟩
theorem take_ok {N : Nat} {l : List D} {n : Int} (B : Bag N l) (hN : N < 2 ^ 60) (hn : 0 < n) (hn2 : n < 2 ^ 62) : ∃ (r : Int) (l' : List D), 0 ≤ r ∧ r < n ∧ Bag (N + 1) l' ∧ F__law_take [.pt 0, .sh (.int n)] [.ol l] [] = some (.ok (.sh (.int r)) [.ol l'] []) := by
  obtain ⟨a, b, c, rfl, h2, h3, h4, h5⟩ := B
  by_cases ha : 0 < a
  · exact ⟨a % n, _, Int.emod_nonneg _ (by omega), Int.emod_lt_of_pos _ hn, ⟨a / n, b, c, rfl, h2, h3, h4, by omega⟩, take_pos a b c n ha hn hn2 []⟩
  · obtain ⟨r, r1, r2, e⟩ := take_zero a b c n ha h2 h3 h4 (by omega) hn hn2 []
    exact ⟨r, _, r1, r2, ⟨a, b, c + 1, rfl, h2, h3, by omega, by omega⟩, e⟩
theorem letter_at (r : Int) (h0 : 0 ≤ r) (h1 : r < 26) : ∃ c : Nat, 97 ≤ c ∧ c ≤ 122 ∧ L2.atI ("abcdefghijklmnopqrstuvwxyz" : Str).cps.toList r = some c := by
  have z : ∀ k : Fin 26, ∃ c : Nat, (97 ≤ c ∧ c ≤ 122) ∧ L2.atI ("abcdefghijklmnopqrstuvwxyz" : Str).cps.toList ((k.val : Nat) : Int) = some c := fun k => ⟨97 + k.val, by omega, by rw [atI_nat']; revert k; decide +kernel⟩
  obtain ⟨c, h2, h3⟩ := z ⟨r.toNat, by omega⟩
  refine ⟨c, h2.1, h2.2, ?_⟩
  have : ((r.toNat : Nat) : Int) = r := by omega
  rw [this] at h3
  exact h3
end My
namespace My
open PySem PySem.Spec PyProof.Rows L2 Vs
/-- a word: 1 to 8 small letters -/
def Lets (w : Str) : Prop := ∀ c ∈ w.cps.toList, 97 ≤ c ∧ c ≤ 122
def Word (w : Str) : Prop := Lets w ∧ 1 ≤ w.length ∧ w.length ≤ 8
def chr (c : Nat) : D := .str ⟨#[c]⟩
abbrev abc : Str := "abcdefghijklmnopqrstuvwxyz"
abbrev meL : M D := (mFrz (op2 fIx (mSl 1) (mVa (mFrz (mCall F__law_take [] (mConsR (mSl 0) (mConsR (mVa (ret (.int 26))) (ret []))))))))
theorem abc_len : abc.length ≤ 1000000 := by decide +kernel
theorem letters (sl0 : List (Option Vl)) (h0 : ∀ d, (sl0.set 3 (some (.sh d)))[0]? = some (some (.pt 0))) (h1 : ∀ d, (sl0.set 3 (some (.sh d)))[1]? = some (some (.sh (.str abc)))) :
    ∀ (L : List D) (acc l : List D) (N : Nat) (sl : List (Option Vl)) (J : List O), Bag N l → N + L.length < 2 ^ 60 → acc.length + L.length < 1000000 →
      ∃ (ws : List Nat) (l' : List D) (sl' : List (Option Vl)), ws.length = L.length ∧ (∀ c ∈ ws, 97 ≤ c ∧ c ≤ 122) ∧ Bag (N + L.length) l' ∧
        compL sl0 (tnm 3) (Vs.ret true) meL acc L ⟨sl, .ol l :: J, []⟩ = some (.ok (acc ++ ws.map chr) ⟨sl', .ol l' :: J, []⟩)
  | [], acc, l, N, sl, J, B, _, _ => ⟨[], l, sl, rfl, by simp [Vs.mkFn, Vs.then_, Vs.bnd, Vs.mIfS, Vs.mIf, Vs.mT, Vs.op2, Vs.op1, Vs.mSl, Vs.mVa, Vs.ret, Vs.look, Vs.view, Vs.rd, Vs.O.view, Vs.fIx, Vs.orF, Vs.fIxS, Vs.mSet, Vs.putSl, Vs.mFrz, Vs.mSetIx, Vs.mSh, Vs.mName, Vs.mRetSl, Vs.mRet, Vs.cellL, Vs.cellOf, _root_.L2.ixN, Vs.fGt, Vs.fLt, Vs.fLe, Vs.fGe, Vs.fEq, Vs.fNe, Vs.eqD, Vs.fMod, Vs.fDiv, Vs.fMul, Vs.fAdd, Vs.fSub, Vs.fPow, Vs.oI, Vs.oB, Vs.opN, Vs.views, Vs.mConsR, Vs.mCons, Vs.mkTup, Vs.mkLst, Vs.mPar, Vs.fAbs, Vs.fInt, Vs.fLen, Vs.orN, Vs.fLenS, Vs.fLenT, Vs.seqD, Vs.mCall, Vs.callF, Vs.passL, Vs.upds, Vs.wipeL, Vs.mRange1, Vs.mRange2, Vs.mItems, Vs.itD, Vs.tnm, Vs.strM, Vs.mStr, Vs.fJoin, Vs.mFor, Vs.mMeL, Vs.fAppend, Vs.mDrop, Vs.mAnd, Vs.mOr, Vs.mNot, Vs.slM, Vs.fSl, Vs.mPart, Vs.fList, Vs.fTuple, Vs.fStr, Vs.mTru, Vs.truD, Vs.fMax, Vs.fMin], B, by simp [Vs.mkFn, Vs.then_, Vs.bnd, Vs.mIfS, Vs.mIf, Vs.mT, Vs.op2, Vs.op1, Vs.mSl, Vs.mVa, Vs.ret, Vs.look, Vs.view, Vs.rd, Vs.O.view, Vs.fIx, Vs.orF, Vs.fIxS, Vs.mSet, Vs.putSl, Vs.mFrz, Vs.mSetIx, Vs.mSh, Vs.mName, Vs.mRetSl, Vs.mRet, Vs.cellL, Vs.cellOf, _root_.L2.ixN, Vs.fGt, Vs.fLt, Vs.fLe, Vs.fGe, Vs.fEq, Vs.fNe, Vs.eqD, Vs.fMod, Vs.fDiv, Vs.fMul, Vs.fAdd, Vs.fSub, Vs.fPow, Vs.oI, Vs.oB, Vs.opN, Vs.views, Vs.mConsR, Vs.mCons, Vs.mkTup, Vs.mkLst, Vs.mPar, Vs.fAbs, Vs.fInt, Vs.fLen, Vs.orN, Vs.fLenS, Vs.fLenT, Vs.seqD, Vs.mCall, Vs.callF, Vs.passL, Vs.upds, Vs.wipeL, Vs.mRange1, Vs.mRange2, Vs.mItems, Vs.itD, Vs.tnm, Vs.strM, Vs.mStr, Vs.fJoin, Vs.mFor, Vs.mMeL, Vs.fAppend, Vs.mDrop, Vs.mAnd, Vs.mOr, Vs.mNot, Vs.slM, Vs.fSl, Vs.mPart, Vs.fList, Vs.fTuple, Vs.fStr, Vs.mTru, Vs.truD, Vs.fMax, Vs.fMin, compL]⟩
  | d :: L, acc, l, N, sl, J, B, hN, ha => by
    simp only [List.length_cons] at hN ha
    obtain ⟨r, l1, r0, r1, B1, e1⟩ := take_ok (n := 26) B (by omega) (by decide) (by decide)
    obtain ⟨c, c0, c1, ec⟩ := letter_at r r0 r1
    obtain ⟨ws, l2, sl2, q1, q2, q3, q4⟩ := letters sl0 h0 h1 L (acc ++ [chr c]) l1 (N + 1) (sl0.set 3 (some (.sh d))) J B1 (by omega) (by simp [Vs.mkFn, Vs.then_, Vs.bnd, Vs.mIfS, Vs.mIf, Vs.mT, Vs.op2, Vs.op1, Vs.mSl, Vs.mVa, Vs.ret, Vs.look, Vs.view, Vs.rd, Vs.O.view, Vs.fIx, Vs.orF, Vs.fIxS, Vs.mSet, Vs.putSl, Vs.mFrz, Vs.mSetIx, Vs.mSh, Vs.mName, Vs.mRetSl, Vs.mRet, Vs.cellL, Vs.cellOf, _root_.L2.ixN, Vs.fGt, Vs.fLt, Vs.fLe, Vs.fGe, Vs.fEq, Vs.fNe, Vs.eqD, Vs.fMod, Vs.fDiv, Vs.fMul, Vs.fAdd, Vs.fSub, Vs.fPow, Vs.oI, Vs.oB, Vs.opN, Vs.views, Vs.mConsR, Vs.mCons, Vs.mkTup, Vs.mkLst, Vs.mPar, Vs.fAbs, Vs.fInt, Vs.fLen, Vs.orN, Vs.fLenS, Vs.fLenT, Vs.seqD, Vs.mCall, Vs.callF, Vs.passL, Vs.upds, Vs.wipeL, Vs.mRange1, Vs.mRange2, Vs.mItems, Vs.itD, Vs.tnm, Vs.strM, Vs.mStr, Vs.fJoin, Vs.mFor, Vs.mMeL, Vs.fAppend, Vs.mDrop, Vs.mAnd, Vs.mOr, Vs.mNot, Vs.slM, Vs.fSl, Vs.mPart, Vs.fList, Vs.fTuple, Vs.fStr, Vs.mTru, Vs.truD, Vs.fMax, Vs.fMin]; omega)
    refine ⟨c :: ws, l2, sl2, by simp [Vs.mkFn, Vs.then_, Vs.bnd, Vs.mIfS, Vs.mIf, Vs.mT, Vs.op2, Vs.op1, Vs.mSl, Vs.mVa, Vs.ret, Vs.look, Vs.view, Vs.rd, Vs.O.view, Vs.fIx, Vs.orF, Vs.fIxS, Vs.mSet, Vs.putSl, Vs.mFrz, Vs.mSetIx, Vs.mSh, Vs.mName, Vs.mRetSl, Vs.mRet, Vs.cellL, Vs.cellOf, _root_.L2.ixN, Vs.fGt, Vs.fLt, Vs.fLe, Vs.fGe, Vs.fEq, Vs.fNe, Vs.eqD, Vs.fMod, Vs.fDiv, Vs.fMul, Vs.fAdd, Vs.fSub, Vs.fPow, Vs.oI, Vs.oB, Vs.opN, Vs.views, Vs.mConsR, Vs.mCons, Vs.mkTup, Vs.mkLst, Vs.mPar, Vs.fAbs, Vs.fInt, Vs.fLen, Vs.orN, Vs.fLenS, Vs.fLenT, Vs.seqD, Vs.mCall, Vs.callF, Vs.passL, Vs.upds, Vs.wipeL, Vs.mRange1, Vs.mRange2, Vs.mItems, Vs.itD, Vs.tnm, Vs.strM, Vs.mStr, Vs.fJoin, Vs.mFor, Vs.mMeL, Vs.fAppend, Vs.mDrop, Vs.mAnd, Vs.mOr, Vs.mNot, Vs.slM, Vs.fSl, Vs.mPart, Vs.fList, Vs.fTuple, Vs.fStr, Vs.mTru, Vs.truD, Vs.fMax, Vs.fMin, q1], by simp [Vs.mkFn, Vs.then_, Vs.bnd, Vs.mIfS, Vs.mIf, Vs.mT, Vs.op2, Vs.op1, Vs.mSl, Vs.mVa, Vs.ret, Vs.look, Vs.view, Vs.rd, Vs.O.view, Vs.fIx, Vs.orF, Vs.fIxS, Vs.mSet, Vs.putSl, Vs.mFrz, Vs.mSetIx, Vs.mSh, Vs.mName, Vs.mRetSl, Vs.mRet, Vs.cellL, Vs.cellOf, _root_.L2.ixN, Vs.fGt, Vs.fLt, Vs.fLe, Vs.fGe, Vs.fEq, Vs.fNe, Vs.eqD, Vs.fMod, Vs.fDiv, Vs.fMul, Vs.fAdd, Vs.fSub, Vs.fPow, Vs.oI, Vs.oB, Vs.opN, Vs.views, Vs.mConsR, Vs.mCons, Vs.mkTup, Vs.mkLst, Vs.mPar, Vs.fAbs, Vs.fInt, Vs.fLen, Vs.orN, Vs.fLenS, Vs.fLenT, Vs.seqD, Vs.mCall, Vs.callF, Vs.passL, Vs.upds, Vs.wipeL, Vs.mRange1, Vs.mRange2, Vs.mItems, Vs.itD, Vs.tnm, Vs.strM, Vs.mStr, Vs.fJoin, Vs.mFor, Vs.mMeL, Vs.fAppend, Vs.mDrop, Vs.mAnd, Vs.mOr, Vs.mNot, Vs.slM, Vs.fSl, Vs.mPart, Vs.fList, Vs.fTuple, Vs.fStr, Vs.mTru, Vs.truD, Vs.fMax, Vs.fMin]; exact ⟨⟨c0, c1⟩, q2⟩, by rw [List.length_cons, show N + (L.length + 1) = N + 1 + L.length by omega]; exact q3, ?_⟩
    have ha' : acc.length < 1000000 := by omega
    have z0 := h0 d
    have z1 := h1 d
    have hl := abc_len
    simp only [abc] at hl ec z1
    unfold compL
    simp [Vs.mkFn, Vs.then_, Vs.bnd, Vs.mIfS, Vs.mIf, Vs.mT, Vs.op2, Vs.op1, Vs.mSl, Vs.mVa, Vs.ret, Vs.look, Vs.view, Vs.rd, Vs.O.view, Vs.fIx, Vs.orF, Vs.fIxS, Vs.mSet, Vs.putSl, Vs.mFrz, Vs.mSetIx, Vs.mSh, Vs.mName, Vs.mRetSl, Vs.mRet, Vs.cellL, Vs.cellOf, _root_.L2.ixN, Vs.fGt, Vs.fLt, Vs.fLe, Vs.fGe, Vs.fEq, Vs.fNe, Vs.eqD, Vs.fMod, Vs.fDiv, Vs.fMul, Vs.fAdd, Vs.fSub, Vs.fPow, Vs.oI, Vs.oB, Vs.opN, Vs.views, Vs.mConsR, Vs.mCons, Vs.mkTup, Vs.mkLst, Vs.mPar, Vs.fAbs, Vs.fInt, Vs.fLen, Vs.orN, Vs.fLenS, Vs.fLenT, Vs.seqD, Vs.mCall, Vs.callF, Vs.passL, Vs.upds, Vs.wipeL, Vs.mRange1, Vs.mRange2, Vs.mItems, Vs.itD, Vs.tnm, Vs.strM, Vs.mStr, Vs.fJoin, Vs.mFor, Vs.mMeL, Vs.fAppend, Vs.mDrop, Vs.mAnd, Vs.mOr, Vs.mNot, Vs.slM, Vs.fSl, Vs.mPart, Vs.fList, Vs.fTuple, Vs.fStr, Vs.mTru, Vs.truD, Vs.fMax, Vs.fMin, z0, z1, e1, hl, ec, ha']
    simpa [Vs.mkFn, Vs.then_, Vs.bnd, Vs.mIfS, Vs.mIf, Vs.mT, Vs.op2, Vs.op1, Vs.mSl, Vs.mVa, Vs.ret, Vs.look, Vs.view, Vs.rd, Vs.O.view, Vs.fIx, Vs.orF, Vs.fIxS, Vs.mSet, Vs.putSl, Vs.mFrz, Vs.mSetIx, Vs.mSh, Vs.mName, Vs.mRetSl, Vs.mRet, Vs.cellL, Vs.cellOf, _root_.L2.ixN, Vs.fGt, Vs.fLt, Vs.fLe, Vs.fGe, Vs.fEq, Vs.fNe, Vs.eqD, Vs.fMod, Vs.fDiv, Vs.fMul, Vs.fAdd, Vs.fSub, Vs.fPow, Vs.oI, Vs.oB, Vs.opN, Vs.views, Vs.mConsR, Vs.mCons, Vs.mkTup, Vs.mkLst, Vs.mPar, Vs.fAbs, Vs.fInt, Vs.fLen, Vs.orN, Vs.fLenS, Vs.fLenT, Vs.seqD, Vs.mCall, Vs.callF, Vs.passL, Vs.upds, Vs.wipeL, Vs.mRange1, Vs.mRange2, Vs.mItems, Vs.itD, Vs.tnm, Vs.strM, Vs.mStr, Vs.fJoin, Vs.mFor, Vs.mMeL, Vs.fAppend, Vs.mDrop, Vs.mAnd, Vs.mOr, Vs.mNot, Vs.slM, Vs.fSl, Vs.mPart, Vs.fList, Vs.fTuple, Vs.fStr, Vs.mTru, Vs.truD, Vs.fMax, Vs.fMin, chr] using q4
end My
namespace My
open PySem PySem.Spec PyProof.Rows L2 Vs
theorem join_chars : ∀ ws : List Nat, (Str.join ("" : Str) (ws.map fun c => (⟨#[c]⟩ : Str))) = ⟨ws.toArray⟩
  | [] => rfl
  | [c] => rfl
  | c :: d :: ws => by
    have h := join_chars (d :: ws)
    rw [List.map_cons] at h
    show (⟨#[c]⟩ : Str) ++ "" ++ Str.join "" (⟨#[d]⟩ :: ws.map fun c => (⟨#[c]⟩ : Str)) = _
    rw [h]
    show (⟨(#[c] ++ (Str.cps "")) ++ (d :: ws).toArray⟩ : Str) = _
    have e : (Str.cps "") = #[] := rfl
    rw [e]
    simp [Vs.mkFn, Vs.then_, Vs.bnd, Vs.mIfS, Vs.mIf, Vs.mT, Vs.op2, Vs.op1, Vs.mSl, Vs.mVa, Vs.ret, Vs.look, Vs.view, Vs.rd, Vs.O.view, Vs.fIx, Vs.orF, Vs.fIxS, Vs.mSet, Vs.putSl, Vs.mFrz, Vs.mSetIx, Vs.mSh, Vs.mName, Vs.mRetSl, Vs.mRet, Vs.cellL, Vs.cellOf, _root_.L2.ixN, Vs.fGt, Vs.fLt, Vs.fLe, Vs.fGe, Vs.fEq, Vs.fNe, Vs.eqD, Vs.fMod, Vs.fDiv, Vs.fMul, Vs.fAdd, Vs.fSub, Vs.fPow, Vs.oI, Vs.oB, Vs.opN, Vs.views, Vs.mConsR, Vs.mCons, Vs.mkTup, Vs.mkLst, Vs.mPar, Vs.fAbs, Vs.fInt, Vs.fLen, Vs.orN, Vs.fLenS, Vs.fLenT, Vs.seqD, Vs.mCall, Vs.callF, Vs.passL, Vs.upds, Vs.wipeL, Vs.mRange1, Vs.mRange2, Vs.mItems, Vs.itD, Vs.tnm, Vs.strM, Vs.mStr, Vs.fJoin, Vs.mFor, Vs.mMeL, Vs.fAppend, Vs.mDrop, Vs.mAnd, Vs.mOr, Vs.mNot, Vs.slM, Vs.fSl, Vs.mPart, Vs.fList, Vs.fTuple, Vs.fStr, Vs.mTru, Vs.truD, Vs.fMax, Vs.fMin]
theorem strs_chars : ∀ ws : List Nat, strsD (ws.map chr) = some (ws.map fun c => (⟨#[c]⟩ : Str))
  | [] => rfl
  | c :: ws => by
    show (strsD (ws.map chr)).map _ = _
    rw [strs_chars ws]; rfl
theorem sum_ones (ws : List Nat) : ((ws.map fun c => (⟨#[c]⟩ : Str)).map (·.length)).sum = ws.length := by
  induction ws with
  | nil => rfl
  | cons c ws ih => rw [List.map_cons, List.map_cons, List.sum_cons, ih, List.length_cons]; show 1 + _ = _; omega
theorem jeq (y : Str) (parts : List Str) : Txt.join y parts = Str.join y parts := PySem.StrLaws.glued_eq_join y parts
theorem name_ok {N : Nat} {l : List D} (B : Bag N l) (hN : N + 20 < 2 ^ 60) : ∃ (w : Str) (l' : List D), Word w ∧ Bag (N + 10) l' ∧ F__law_drawn_name [.pt 0] [.ol l] [] = some (.ok (.sh (.str w)) [.ol l'] []) := by
  obtain ⟨r1, l1, a0, a1, B1, e1⟩ := take_ok (n := 4) B (by omega) (by decide) (by decide)
  have hz : ∃ z : Int, (z = 2 ∨ z = 8) ∧ L2.atI [D.int 2, D.int 8] (if r1 = 0 then 1 else 0) = some (.int z) := by
    by_cases h : r1 = 0
    · exact ⟨8, .inr rfl, by rw [if_pos h]; rfl⟩
    · exact ⟨2, .inl rfl, by rw [if_neg h]; rfl⟩
  obtain ⟨z, hz, ez⟩ := hz
  obtain ⟨r2, l2, b0, b1, B2, e2⟩ := take_ok (n := z) B1 (by omega) (by omega) (by omega)
  have hk : (rgL 0 (1 + r2).toNat).length = (1 + r2).toNat := by unfold rgL; simp [Vs.mkFn, Vs.then_, Vs.bnd, Vs.mIfS, Vs.mIf, Vs.mT, Vs.op2, Vs.op1, Vs.mSl, Vs.mVa, Vs.ret, Vs.look, Vs.view, Vs.rd, Vs.O.view, Vs.fIx, Vs.orF, Vs.fIxS, Vs.mSet, Vs.putSl, Vs.mFrz, Vs.mSetIx, Vs.mSh, Vs.mName, Vs.mRetSl, Vs.mRet, Vs.cellL, Vs.cellOf, _root_.L2.ixN, Vs.fGt, Vs.fLt, Vs.fLe, Vs.fGe, Vs.fEq, Vs.fNe, Vs.eqD, Vs.fMod, Vs.fDiv, Vs.fMul, Vs.fAdd, Vs.fSub, Vs.fPow, Vs.oI, Vs.oB, Vs.opN, Vs.views, Vs.mConsR, Vs.mCons, Vs.mkTup, Vs.mkLst, Vs.mPar, Vs.fAbs, Vs.fInt, Vs.fLen, Vs.orN, Vs.fLenS, Vs.fLenT, Vs.seqD, Vs.mCall, Vs.callF, Vs.passL, Vs.upds, Vs.wipeL, Vs.mRange1, Vs.mRange2, Vs.mItems, Vs.itD, Vs.tnm, Vs.strM, Vs.mStr, Vs.fJoin, Vs.mFor, Vs.mMeL, Vs.fAppend, Vs.mDrop, Vs.mAnd, Vs.mOr, Vs.mNot, Vs.slM, Vs.fSl, Vs.mPart, Vs.fList, Vs.fTuple, Vs.fStr, Vs.mTru, Vs.truD, Vs.fMax, Vs.fMin]
  obtain ⟨ws, l3, sl3, q1, q2, q3, q4⟩ := letters [some (.pt 0), some (.sh (.str abc)), some (.sh (.int (1 + r2))), none] (fun d => rfl) (fun d => rfl) (rgL 0 (1 + r2).toNat) [] l2 (N + 1 + 1) [some (.pt 0), some (.sh (.str abc)), some (.sh (.int (1 + r2))), none] [] B2 (by omega) (by simp [Vs.mkFn, Vs.then_, Vs.bnd, Vs.mIfS, Vs.mIf, Vs.mT, Vs.op2, Vs.op1, Vs.mSl, Vs.mVa, Vs.ret, Vs.look, Vs.view, Vs.rd, Vs.O.view, Vs.fIx, Vs.orF, Vs.fIxS, Vs.mSet, Vs.putSl, Vs.mFrz, Vs.mSetIx, Vs.mSh, Vs.mName, Vs.mRetSl, Vs.mRet, Vs.cellL, Vs.cellOf, _root_.L2.ixN, Vs.fGt, Vs.fLt, Vs.fLe, Vs.fGe, Vs.fEq, Vs.fNe, Vs.eqD, Vs.fMod, Vs.fDiv, Vs.fMul, Vs.fAdd, Vs.fSub, Vs.fPow, Vs.oI, Vs.oB, Vs.opN, Vs.views, Vs.mConsR, Vs.mCons, Vs.mkTup, Vs.mkLst, Vs.mPar, Vs.fAbs, Vs.fInt, Vs.fLen, Vs.orN, Vs.fLenS, Vs.fLenT, Vs.seqD, Vs.mCall, Vs.callF, Vs.passL, Vs.upds, Vs.wipeL, Vs.mRange1, Vs.mRange2, Vs.mItems, Vs.itD, Vs.tnm, Vs.strM, Vs.mStr, Vs.fJoin, Vs.mFor, Vs.mMeL, Vs.fAppend, Vs.mDrop, Vs.mAnd, Vs.mOr, Vs.mNot, Vs.slM, Vs.fSl, Vs.mPart, Vs.fList, Vs.fTuple, Vs.fStr, Vs.mTru, Vs.truD, Vs.fMax, Vs.fMin]; omega)
  have hs : small62 (1 + r2) = true := by unfold small62; simp [Vs.mkFn, Vs.then_, Vs.bnd, Vs.mIfS, Vs.mIf, Vs.mT, Vs.op2, Vs.op1, Vs.mSl, Vs.mVa, Vs.ret, Vs.look, Vs.view, Vs.rd, Vs.O.view, Vs.fIx, Vs.orF, Vs.fIxS, Vs.mSet, Vs.putSl, Vs.mFrz, Vs.mSetIx, Vs.mSh, Vs.mName, Vs.mRetSl, Vs.mRet, Vs.cellL, Vs.cellOf, _root_.L2.ixN, Vs.fGt, Vs.fLt, Vs.fLe, Vs.fGe, Vs.fEq, Vs.fNe, Vs.eqD, Vs.fMod, Vs.fDiv, Vs.fMul, Vs.fAdd, Vs.fSub, Vs.fPow, Vs.oI, Vs.oB, Vs.opN, Vs.views, Vs.mConsR, Vs.mCons, Vs.mkTup, Vs.mkLst, Vs.mPar, Vs.fAbs, Vs.fInt, Vs.fLen, Vs.orN, Vs.fLenS, Vs.fLenT, Vs.seqD, Vs.mCall, Vs.callF, Vs.passL, Vs.upds, Vs.wipeL, Vs.mRange1, Vs.mRange2, Vs.mItems, Vs.itD, Vs.tnm, Vs.strM, Vs.mStr, Vs.fJoin, Vs.mFor, Vs.mMeL, Vs.fAppend, Vs.mDrop, Vs.mAnd, Vs.mOr, Vs.mNot, Vs.slM, Vs.fSl, Vs.mPart, Vs.fList, Vs.fTuple, Vs.fStr, Vs.mTru, Vs.truD, Vs.fMax, Vs.fMin]; omega
  have hl : ws.length = (1 + r2).toNat := by rw [q1, hk]
  have hc : m__law_drawn_name_c0 ⟨[some (.pt 0), some (.sh (.str abc)), some (.sh (.int (1 + r2))), none], [.ol l2], []⟩ = some (.ok (.ol (ws.map chr)) ⟨[some (.pt 0), some (.sh (.str abc)), some (.sh (.int (1 + r2))), none], [.ol l3], []⟩) := by
    unfold m__law_drawn_name_c0 mComp
    simp only [List.nil_append] at q4
    simp only [bnd, mRange1, mCons, mName, Vs.ret, look]
    simp [Vs.mkFn, Vs.then_, Vs.bnd, Vs.mIfS, Vs.mIf, Vs.mT, Vs.op2, Vs.op1, Vs.mSl, Vs.mVa, Vs.ret, Vs.look, Vs.view, Vs.rd, Vs.O.view, Vs.fIx, Vs.orF, Vs.fIxS, Vs.mSet, Vs.putSl, Vs.mFrz, Vs.mSetIx, Vs.mSh, Vs.mName, Vs.mRetSl, Vs.mRet, Vs.cellL, Vs.cellOf, _root_.L2.ixN, Vs.fGt, Vs.fLt, Vs.fLe, Vs.fGe, Vs.fEq, Vs.fNe, Vs.eqD, Vs.fMod, Vs.fDiv, Vs.fMul, Vs.fAdd, Vs.fSub, Vs.fPow, Vs.oI, Vs.oB, Vs.opN, Vs.views, Vs.mConsR, Vs.mCons, Vs.mkTup, Vs.mkLst, Vs.mPar, Vs.fAbs, Vs.fInt, Vs.fLen, Vs.orN, Vs.fLenS, Vs.fLenT, Vs.seqD, Vs.mCall, Vs.callF, Vs.passL, Vs.upds, Vs.wipeL, Vs.mRange1, Vs.mRange2, Vs.mItems, Vs.itD, Vs.tnm, Vs.strM, Vs.mStr, Vs.fJoin, Vs.mFor, Vs.mMeL, Vs.fAppend, Vs.mDrop, Vs.mAnd, Vs.mOr, Vs.mNot, Vs.slM, Vs.fSl, Vs.mPart, Vs.fList, Vs.fTuple, Vs.fStr, Vs.mTru, Vs.truD, Vs.fMax, Vs.fMin, hs]
    simp [Vs.mkFn, Vs.then_, Vs.bnd, Vs.mIfS, Vs.mIf, Vs.mT, Vs.op2, Vs.op1, Vs.mSl, Vs.mVa, Vs.ret, Vs.look, Vs.view, Vs.rd, Vs.O.view, Vs.fIx, Vs.orF, Vs.fIxS, Vs.mSet, Vs.putSl, Vs.mFrz, Vs.mSetIx, Vs.mSh, Vs.mName, Vs.mRetSl, Vs.mRet, Vs.cellL, Vs.cellOf, _root_.L2.ixN, Vs.fGt, Vs.fLt, Vs.fLe, Vs.fGe, Vs.fEq, Vs.fNe, Vs.eqD, Vs.fMod, Vs.fDiv, Vs.fMul, Vs.fAdd, Vs.fSub, Vs.fPow, Vs.oI, Vs.oB, Vs.opN, Vs.views, Vs.mConsR, Vs.mCons, Vs.mkTup, Vs.mkLst, Vs.mPar, Vs.fAbs, Vs.fInt, Vs.fLen, Vs.orN, Vs.fLenS, Vs.fLenT, Vs.seqD, Vs.mCall, Vs.callF, Vs.passL, Vs.upds, Vs.wipeL, Vs.mRange1, Vs.mRange2, Vs.mItems, Vs.itD, Vs.tnm, Vs.strM, Vs.mStr, Vs.fJoin, Vs.mFor, Vs.mMeL, Vs.fAppend, Vs.mDrop, Vs.mAnd, Vs.mOr, Vs.mNot, Vs.slM, Vs.fSl, Vs.mPart, Vs.fList, Vs.fTuple, Vs.fStr, Vs.mTru, Vs.truD, Vs.fMax, Vs.fMin] at q4
    rw [q4]
  refine ⟨⟨ws.toArray⟩, l3, ⟨fun c hc => q2 c (by simpa using hc), ?_, ?_⟩, q3.mono (by omega), ?_⟩
  · show 1 ≤ ws.toArray.size
    rw [List.size_toArray]; omega
  · show ws.toArray.size ≤ 8
    rw [List.size_toArray]; omega
  · have s1 := sum_ones ws
    have s2 := strs_chars ws
    have s3 := join_chars ws
    simp only [abc] at hc
    have hlen : ws.length ≤ 1000000 := by omega
    have hj' : (List.map ((fun x : Str => x.length) ∘ fun c => (⟨#[c]⟩ : Str)) ws).sum + ws.length * (Str.ofString "").length ≤ 1000000 := by
      rw [← List.map_map, s1]
      show ws.length + ws.length * 0 ≤ _
      omega
    by_cases h : r1 = 0
    · rw [if_pos h] at ez
      simp [Vs.mkFn, Vs.then_, Vs.bnd, Vs.mIfS, Vs.mIf, Vs.mT, Vs.op2, Vs.op1, Vs.mSl, Vs.mVa, Vs.ret, Vs.look, Vs.view, Vs.rd, Vs.O.view, Vs.fIx, Vs.orF, Vs.fIxS, Vs.mSet, Vs.putSl, Vs.mFrz, Vs.mSetIx, Vs.mSh, Vs.mName, Vs.mRetSl, Vs.mRet, Vs.cellL, Vs.cellOf, _root_.L2.ixN, Vs.fGt, Vs.fLt, Vs.fLe, Vs.fGe, Vs.fEq, Vs.fNe, Vs.eqD, Vs.fMod, Vs.fDiv, Vs.fMul, Vs.fAdd, Vs.fSub, Vs.fPow, Vs.oI, Vs.oB, Vs.opN, Vs.views, Vs.mConsR, Vs.mCons, Vs.mkTup, Vs.mkLst, Vs.mPar, Vs.fAbs, Vs.fInt, Vs.fLen, Vs.orN, Vs.fLenS, Vs.fLenT, Vs.seqD, Vs.mCall, Vs.callF, Vs.passL, Vs.upds, Vs.wipeL, Vs.mRange1, Vs.mRange2, Vs.mItems, Vs.itD, Vs.tnm, Vs.strM, Vs.mStr, Vs.fJoin, Vs.mFor, Vs.mMeL, Vs.fAppend, Vs.mDrop, Vs.mAnd, Vs.mOr, Vs.mNot, Vs.slM, Vs.fSl, Vs.mPart, Vs.fList, Vs.fTuple, Vs.fStr, Vs.mTru, Vs.truD, Vs.fMax, Vs.fMin] at ez
      subst ez
      simp [Vs.mkFn, Vs.then_, Vs.bnd, Vs.mIfS, Vs.mIf, Vs.mT, Vs.op2, Vs.op1, Vs.mSl, Vs.mVa, Vs.ret, Vs.look, Vs.view, Vs.rd, Vs.O.view, Vs.fIx, Vs.orF, Vs.fIxS, Vs.mSet, Vs.putSl, Vs.mFrz, Vs.mSetIx, Vs.mSh, Vs.mName, Vs.mRetSl, Vs.mRet, Vs.cellL, Vs.cellOf, _root_.L2.ixN, Vs.fGt, Vs.fLt, Vs.fLe, Vs.fGe, Vs.fEq, Vs.fNe, Vs.eqD, Vs.fMod, Vs.fDiv, Vs.fMul, Vs.fAdd, Vs.fSub, Vs.fPow, Vs.oI, Vs.oB, Vs.opN, Vs.views, Vs.mConsR, Vs.mCons, Vs.mkTup, Vs.mkLst, Vs.mPar, Vs.fAbs, Vs.fInt, Vs.fLen, Vs.orN, Vs.fLenS, Vs.fLenT, Vs.seqD, Vs.mCall, Vs.callF, Vs.passL, Vs.upds, Vs.wipeL, Vs.mRange1, Vs.mRange2, Vs.mItems, Vs.itD, Vs.tnm, Vs.strM, Vs.mStr, Vs.fJoin, Vs.mFor, Vs.mMeL, Vs.fAppend, Vs.mDrop, Vs.mAnd, Vs.mOr, Vs.mNot, Vs.slM, Vs.fSl, Vs.mPart, Vs.fList, Vs.fTuple, Vs.fStr, Vs.mTru, Vs.truD, Vs.fMax, Vs.fMin, F__law_drawn_name, m__law_drawn_name, e1, h, e2, hc, s2, jeq, s3, hj']
    · rw [if_neg h] at ez
      simp [Vs.mkFn, Vs.then_, Vs.bnd, Vs.mIfS, Vs.mIf, Vs.mT, Vs.op2, Vs.op1, Vs.mSl, Vs.mVa, Vs.ret, Vs.look, Vs.view, Vs.rd, Vs.O.view, Vs.fIx, Vs.orF, Vs.fIxS, Vs.mSet, Vs.putSl, Vs.mFrz, Vs.mSetIx, Vs.mSh, Vs.mName, Vs.mRetSl, Vs.mRet, Vs.cellL, Vs.cellOf, _root_.L2.ixN, Vs.fGt, Vs.fLt, Vs.fLe, Vs.fGe, Vs.fEq, Vs.fNe, Vs.eqD, Vs.fMod, Vs.fDiv, Vs.fMul, Vs.fAdd, Vs.fSub, Vs.fPow, Vs.oI, Vs.oB, Vs.opN, Vs.views, Vs.mConsR, Vs.mCons, Vs.mkTup, Vs.mkLst, Vs.mPar, Vs.fAbs, Vs.fInt, Vs.fLen, Vs.orN, Vs.fLenS, Vs.fLenT, Vs.seqD, Vs.mCall, Vs.callF, Vs.passL, Vs.upds, Vs.wipeL, Vs.mRange1, Vs.mRange2, Vs.mItems, Vs.itD, Vs.tnm, Vs.strM, Vs.mStr, Vs.fJoin, Vs.mFor, Vs.mMeL, Vs.fAppend, Vs.mDrop, Vs.mAnd, Vs.mOr, Vs.mNot, Vs.slM, Vs.fSl, Vs.mPart, Vs.fList, Vs.fTuple, Vs.fStr, Vs.mTru, Vs.truD, Vs.fMax, Vs.fMin] at ez
      subst ez
      simp [Vs.mkFn, Vs.then_, Vs.bnd, Vs.mIfS, Vs.mIf, Vs.mT, Vs.op2, Vs.op1, Vs.mSl, Vs.mVa, Vs.ret, Vs.look, Vs.view, Vs.rd, Vs.O.view, Vs.fIx, Vs.orF, Vs.fIxS, Vs.mSet, Vs.putSl, Vs.mFrz, Vs.mSetIx, Vs.mSh, Vs.mName, Vs.mRetSl, Vs.mRet, Vs.cellL, Vs.cellOf, _root_.L2.ixN, Vs.fGt, Vs.fLt, Vs.fLe, Vs.fGe, Vs.fEq, Vs.fNe, Vs.eqD, Vs.fMod, Vs.fDiv, Vs.fMul, Vs.fAdd, Vs.fSub, Vs.fPow, Vs.oI, Vs.oB, Vs.opN, Vs.views, Vs.mConsR, Vs.mCons, Vs.mkTup, Vs.mkLst, Vs.mPar, Vs.fAbs, Vs.fInt, Vs.fLen, Vs.orN, Vs.fLenS, Vs.fLenT, Vs.seqD, Vs.mCall, Vs.callF, Vs.passL, Vs.upds, Vs.wipeL, Vs.mRange1, Vs.mRange2, Vs.mItems, Vs.itD, Vs.tnm, Vs.strM, Vs.mStr, Vs.fJoin, Vs.mFor, Vs.mMeL, Vs.fAppend, Vs.mDrop, Vs.mAnd, Vs.mOr, Vs.mNot, Vs.slM, Vs.fSl, Vs.mPart, Vs.fList, Vs.fTuple, Vs.fStr, Vs.mTru, Vs.truD, Vs.fMax, Vs.fMin, F__law_drawn_name, m__law_drawn_name, e1, h, e2, hc, s2, jeq, s3, hj']
end My
namespace My
open PySem PySem.Spec PyProof.Rows L2 Vs
/-- a comprehension that changes nothing -/
theorem compL_pure {sl0 : List (Option Vl)} {i : Nat} {mc : M Bool} {me : M D} {p : D → Bool} {f : D → D} {ce tb : List O} : ∀ (L acc : List D) (sl : List (Option Vl)), acc.length + L.length < 1000000 →
    (∀ d ∈ L, mc ⟨sl0.set i (some (.sh d)), ce, tb⟩ = some (.ok (p d) ⟨sl0.set i (some (.sh d)), ce, tb⟩)) → (∀ d ∈ L, p d = true → me ⟨sl0.set i (some (.sh d)), ce, tb⟩ = some (.ok (f d) ⟨sl0.set i (some (.sh d)), ce, tb⟩)) →
    ∃ sl', compL sl0 (tnm i) mc me acc L ⟨sl, ce, tb⟩ = some (.ok (acc ++ (L.filter p).map f) ⟨sl', ce, tb⟩)
  | [], acc, sl, _, _, _ => ⟨sl, by simp [Vs.mkFn, Vs.then_, Vs.bnd, Vs.mIfS, Vs.mIf, Vs.mT, Vs.op2, Vs.op1, Vs.mSl, Vs.mVa, Vs.ret, Vs.look, Vs.view, Vs.rd, Vs.O.view, Vs.fIx, Vs.orF, Vs.fIxS, Vs.mSet, Vs.putSl, Vs.mFrz, Vs.mSetIx, Vs.mSh, Vs.mName, Vs.mRetSl, Vs.mRet, Vs.cellL, Vs.cellOf, _root_.L2.ixN, Vs.fGt, Vs.fLt, Vs.fLe, Vs.fGe, Vs.fEq, Vs.fNe, Vs.eqD, Vs.fMod, Vs.fDiv, Vs.fMul, Vs.fAdd, Vs.fSub, Vs.fPow, Vs.oI, Vs.oB, Vs.opN, Vs.views, Vs.mConsR, Vs.mCons, Vs.mkTup, Vs.mkLst, Vs.mPar, Vs.fAbs, Vs.fInt, Vs.fLen, Vs.orN, Vs.fLenS, Vs.fLenT, Vs.seqD, Vs.mCall, Vs.callF, Vs.passL, Vs.upds, Vs.wipeL, Vs.mRange1, Vs.mRange2, Vs.mItems, Vs.itD, Vs.tnm, Vs.strM, Vs.mStr, Vs.fJoin, Vs.mFor, Vs.mMeL, Vs.fAppend, Vs.mDrop, Vs.mAnd, Vs.mOr, Vs.mNot, Vs.slM, Vs.fSl, Vs.mPart, Vs.fList, Vs.fTuple, Vs.fStr, Vs.mTru, Vs.truD, Vs.fMax, Vs.fMin, Vs.fNotIn, Vs.fIn, Vs.fInS, Vs.oS, compL]⟩
  | d :: L, acc, sl, hl, h1, h2 => by
    simp only [List.length_cons] at hl
    have c := h1 d List.mem_cons_self
    by_cases hp : p d = true
    · obtain ⟨sl', e⟩ := compL_pure (sl0 := sl0) (i := i) (mc := mc) (me := me) (p := p) (f := f) (ce := ce) (tb := tb) L (acc ++ [f d]) (sl0.set i (some (.sh d))) (by simp [Vs.mkFn, Vs.then_, Vs.bnd, Vs.mIfS, Vs.mIf, Vs.mT, Vs.op2, Vs.op1, Vs.mSl, Vs.mVa, Vs.ret, Vs.look, Vs.view, Vs.rd, Vs.O.view, Vs.fIx, Vs.orF, Vs.fIxS, Vs.mSet, Vs.putSl, Vs.mFrz, Vs.mSetIx, Vs.mSh, Vs.mName, Vs.mRetSl, Vs.mRet, Vs.cellL, Vs.cellOf, _root_.L2.ixN, Vs.fGt, Vs.fLt, Vs.fLe, Vs.fGe, Vs.fEq, Vs.fNe, Vs.eqD, Vs.fMod, Vs.fDiv, Vs.fMul, Vs.fAdd, Vs.fSub, Vs.fPow, Vs.oI, Vs.oB, Vs.opN, Vs.views, Vs.mConsR, Vs.mCons, Vs.mkTup, Vs.mkLst, Vs.mPar, Vs.fAbs, Vs.fInt, Vs.fLen, Vs.orN, Vs.fLenS, Vs.fLenT, Vs.seqD, Vs.mCall, Vs.callF, Vs.passL, Vs.upds, Vs.wipeL, Vs.mRange1, Vs.mRange2, Vs.mItems, Vs.itD, Vs.tnm, Vs.strM, Vs.mStr, Vs.fJoin, Vs.mFor, Vs.mMeL, Vs.fAppend, Vs.mDrop, Vs.mAnd, Vs.mOr, Vs.mNot, Vs.slM, Vs.fSl, Vs.mPart, Vs.fList, Vs.fTuple, Vs.fStr, Vs.mTru, Vs.truD, Vs.fMax, Vs.fMin, Vs.fNotIn, Vs.fIn, Vs.fInS, Vs.oS]; omega) (fun x hx => h1 x (List.mem_cons_of_mem _ hx)) (fun x hx => h2 x (List.mem_cons_of_mem _ hx))
      refine ⟨sl', ?_⟩
      have m := h2 d List.mem_cons_self hp
      have ha : acc.length < 1000000 := by omega
      unfold compL
      simp only [tnm]
      rw [c, hp]
      simp only [m, if_pos ha]
      rw [e, List.filter_cons_of_pos hp]
      simp [Vs.mkFn, Vs.then_, Vs.bnd, Vs.mIfS, Vs.mIf, Vs.mT, Vs.op2, Vs.op1, Vs.mSl, Vs.mVa, Vs.ret, Vs.look, Vs.view, Vs.rd, Vs.O.view, Vs.fIx, Vs.orF, Vs.fIxS, Vs.mSet, Vs.putSl, Vs.mFrz, Vs.mSetIx, Vs.mSh, Vs.mName, Vs.mRetSl, Vs.mRet, Vs.cellL, Vs.cellOf, _root_.L2.ixN, Vs.fGt, Vs.fLt, Vs.fLe, Vs.fGe, Vs.fEq, Vs.fNe, Vs.eqD, Vs.fMod, Vs.fDiv, Vs.fMul, Vs.fAdd, Vs.fSub, Vs.fPow, Vs.oI, Vs.oB, Vs.opN, Vs.views, Vs.mConsR, Vs.mCons, Vs.mkTup, Vs.mkLst, Vs.mPar, Vs.fAbs, Vs.fInt, Vs.fLen, Vs.orN, Vs.fLenS, Vs.fLenT, Vs.seqD, Vs.mCall, Vs.callF, Vs.passL, Vs.upds, Vs.wipeL, Vs.mRange1, Vs.mRange2, Vs.mItems, Vs.itD, Vs.tnm, Vs.strM, Vs.mStr, Vs.fJoin, Vs.mFor, Vs.mMeL, Vs.fAppend, Vs.mDrop, Vs.mAnd, Vs.mOr, Vs.mNot, Vs.slM, Vs.fSl, Vs.mPart, Vs.fList, Vs.fTuple, Vs.fStr, Vs.mTru, Vs.truD, Vs.fMax, Vs.fMin, Vs.fNotIn, Vs.fIn, Vs.fInS, Vs.oS]
    · obtain ⟨sl', e⟩ := compL_pure (sl0 := sl0) (i := i) (mc := mc) (me := me) (p := p) (f := f) (ce := ce) (tb := tb) L acc (sl0.set i (some (.sh d))) (by omega) (fun x hx => h1 x (List.mem_cons_of_mem _ hx)) (fun x hx => h2 x (List.mem_cons_of_mem _ hx))
      refine ⟨sl', ?_⟩
      rw [Bool.not_eq_true] at hp
      unfold compL
      simp only [tnm]
      rw [c, hp]
      simp only
      rw [e, List.filter_cons_of_neg (by rw [hp]; decide)]
theorem mComp_pure {i : Nat} {mi : M (List D)} {mc : M Bool} {me : M D} {p : D → Bool} {f : D → D} {s s1 : S} {ds : List D} (hmi : mi s = some (.ok ds s1)) (hl : ds.length < 1000000)
    (h1 : ∀ d ∈ ds, mc ⟨(s1.sl.set i none).set i (some (.sh d)), s1.ce, s1.tb⟩ = some (.ok (p d) ⟨(s1.sl.set i none).set i (some (.sh d)), s1.ce, s1.tb⟩))
    (h2 : ∀ d ∈ ds, p d = true → me ⟨(s1.sl.set i none).set i (some (.sh d)), s1.ce, s1.tb⟩ = some (.ok (f d) ⟨(s1.sl.set i none).set i (some (.sh d)), s1.ce, s1.tb⟩)) :
    mComp [i] mi (tnm i) mc me s = some (.ok (.ol ((ds.filter p).map f)) s1) := by
  unfold mComp
  obtain ⟨sl', e⟩ := compL_pure (sl0 := s1.sl.set i none) (p := p) (f := f) ds [] s1.sl (by simpa using hl) h1 h2
  rw [bnd_ok hmi]
  show (match compL (s1.sl.set i none) (tnm i) mc me [] ds ⟨s1.sl, s1.ce, s1.tb⟩ with
    | some (.ok acc s') => some (Rs.ok (O.ol acc) { s' with sl := s1.sl })
    | _ => none) = _
  rw [e]
  simp [Vs.mkFn, Vs.then_, Vs.bnd, Vs.mIfS, Vs.mIf, Vs.mT, Vs.op2, Vs.op1, Vs.mSl, Vs.mVa, Vs.ret, Vs.look, Vs.view, Vs.rd, Vs.O.view, Vs.fIx, Vs.orF, Vs.fIxS, Vs.mSet, Vs.putSl, Vs.mFrz, Vs.mSetIx, Vs.mSh, Vs.mName, Vs.mRetSl, Vs.mRet, Vs.cellL, Vs.cellOf, _root_.L2.ixN, Vs.fGt, Vs.fLt, Vs.fLe, Vs.fGe, Vs.fEq, Vs.fNe, Vs.eqD, Vs.fMod, Vs.fDiv, Vs.fMul, Vs.fAdd, Vs.fSub, Vs.fPow, Vs.oI, Vs.oB, Vs.opN, Vs.views, Vs.mConsR, Vs.mCons, Vs.mkTup, Vs.mkLst, Vs.mPar, Vs.fAbs, Vs.fInt, Vs.fLen, Vs.orN, Vs.fLenS, Vs.fLenT, Vs.seqD, Vs.mCall, Vs.callF, Vs.passL, Vs.upds, Vs.wipeL, Vs.mRange1, Vs.mRange2, Vs.mItems, Vs.itD, Vs.tnm, Vs.strM, Vs.mStr, Vs.fJoin, Vs.mFor, Vs.mMeL, Vs.fAppend, Vs.mDrop, Vs.mAnd, Vs.mOr, Vs.mNot, Vs.slM, Vs.fSl, Vs.mPart, Vs.fList, Vs.fTuple, Vs.fStr, Vs.mTru, Vs.truD, Vs.fMax, Vs.fMin, Vs.fNotIn, Vs.fIn, Vs.fInS, Vs.oS]
theorem flat_strs (ws : List Str) : (ws.map D.str).all flatD = true := by
  rw [List.all_map, List.all_eq_true]; intro x _; rfl
theorem any_strs (w : Str) (ws : List Str) : ((ws.map D.str).any fun y => eqFl y (.str w)) = decide (w ∈ ws) := by
  induction ws with
  | nil => rfl
  | cons x ws ih =>
    rw [List.map_cons, List.any_cons, ih]
    show ((x == w) || decide (w ∈ ws)) = _
    by_cases e : x = w
    · subst e; simp [Vs.mkFn, Vs.then_, Vs.bnd, Vs.mIfS, Vs.mIf, Vs.mT, Vs.op2, Vs.op1, Vs.mSl, Vs.mVa, Vs.ret, Vs.look, Vs.view, Vs.rd, Vs.O.view, Vs.fIx, Vs.orF, Vs.fIxS, Vs.mSet, Vs.putSl, Vs.mFrz, Vs.mSetIx, Vs.mSh, Vs.mName, Vs.mRetSl, Vs.mRet, Vs.cellL, Vs.cellOf, _root_.L2.ixN, Vs.fGt, Vs.fLt, Vs.fLe, Vs.fGe, Vs.fEq, Vs.fNe, Vs.eqD, Vs.fMod, Vs.fDiv, Vs.fMul, Vs.fAdd, Vs.fSub, Vs.fPow, Vs.oI, Vs.oB, Vs.opN, Vs.views, Vs.mConsR, Vs.mCons, Vs.mkTup, Vs.mkLst, Vs.mPar, Vs.fAbs, Vs.fInt, Vs.fLen, Vs.orN, Vs.fLenS, Vs.fLenT, Vs.seqD, Vs.mCall, Vs.callF, Vs.passL, Vs.upds, Vs.wipeL, Vs.mRange1, Vs.mRange2, Vs.mItems, Vs.itD, Vs.tnm, Vs.strM, Vs.mStr, Vs.fJoin, Vs.mFor, Vs.mMeL, Vs.fAppend, Vs.mDrop, Vs.mAnd, Vs.mOr, Vs.mNot, Vs.slM, Vs.fSl, Vs.mPart, Vs.fList, Vs.fTuple, Vs.fStr, Vs.mTru, Vs.truD, Vs.fMax, Vs.fMin, Vs.fNotIn, Vs.fIn, Vs.fInS, Vs.oS]
    · have : (x == w) = false := by simpa using e
      rw [this]
      have e' : ¬ w = x := fun z => e z.symm
      simp [Vs.mkFn, Vs.then_, Vs.bnd, Vs.mIfS, Vs.mIf, Vs.mT, Vs.op2, Vs.op1, Vs.mSl, Vs.mVa, Vs.ret, Vs.look, Vs.view, Vs.rd, Vs.O.view, Vs.fIx, Vs.orF, Vs.fIxS, Vs.mSet, Vs.putSl, Vs.mFrz, Vs.mSetIx, Vs.mSh, Vs.mName, Vs.mRetSl, Vs.mRet, Vs.cellL, Vs.cellOf, _root_.L2.ixN, Vs.fGt, Vs.fLt, Vs.fLe, Vs.fGe, Vs.fEq, Vs.fNe, Vs.eqD, Vs.fMod, Vs.fDiv, Vs.fMul, Vs.fAdd, Vs.fSub, Vs.fPow, Vs.oI, Vs.oB, Vs.opN, Vs.views, Vs.mConsR, Vs.mCons, Vs.mkTup, Vs.mkLst, Vs.mPar, Vs.fAbs, Vs.fInt, Vs.fLen, Vs.orN, Vs.fLenS, Vs.fLenT, Vs.seqD, Vs.mCall, Vs.callF, Vs.passL, Vs.upds, Vs.wipeL, Vs.mRange1, Vs.mRange2, Vs.mItems, Vs.itD, Vs.tnm, Vs.strM, Vs.mStr, Vs.fJoin, Vs.mFor, Vs.mMeL, Vs.fAppend, Vs.mDrop, Vs.mAnd, Vs.mOr, Vs.mNot, Vs.slM, Vs.fSl, Vs.mPart, Vs.fList, Vs.fTuple, Vs.fStr, Vs.mTru, Vs.truD, Vs.fMax, Vs.fMin, Vs.fNotIn, Vs.fIn, Vs.fInS, Vs.oS, e']
theorem in_strs (w : Str) (ws : List Str) : inS (.str w) (ws.map .str) = some (decide (w ∈ ws)) := by
  unfold inS
  rw [flat_strs, any_strs]
  simp [Vs.mkFn, Vs.then_, Vs.bnd, Vs.mIfS, Vs.mIf, Vs.mT, Vs.op2, Vs.op1, Vs.mSl, Vs.mVa, Vs.ret, Vs.look, Vs.view, Vs.rd, Vs.O.view, Vs.fIx, Vs.orF, Vs.fIxS, Vs.mSet, Vs.putSl, Vs.mFrz, Vs.mSetIx, Vs.mSh, Vs.mName, Vs.mRetSl, Vs.mRet, Vs.cellL, Vs.cellOf, _root_.L2.ixN, Vs.fGt, Vs.fLt, Vs.fLe, Vs.fGe, Vs.fEq, Vs.fNe, Vs.eqD, Vs.fMod, Vs.fDiv, Vs.fMul, Vs.fAdd, Vs.fSub, Vs.fPow, Vs.oI, Vs.oB, Vs.opN, Vs.views, Vs.mConsR, Vs.mCons, Vs.mkTup, Vs.mkLst, Vs.mPar, Vs.fAbs, Vs.fInt, Vs.fLen, Vs.orN, Vs.fLenS, Vs.fLenT, Vs.seqD, Vs.mCall, Vs.callF, Vs.passL, Vs.upds, Vs.wipeL, Vs.mRange1, Vs.mRange2, Vs.mItems, Vs.itD, Vs.tnm, Vs.strM, Vs.mStr, Vs.fJoin, Vs.mFor, Vs.mMeL, Vs.fAppend, Vs.mDrop, Vs.mAnd, Vs.mOr, Vs.mNot, Vs.slM, Vs.fSl, Vs.mPart, Vs.fList, Vs.fTuple, Vs.fStr, Vs.mTru, Vs.truD, Vs.fMax, Vs.fMin, Vs.fNotIn, Vs.fIn, Vs.fInS, Vs.oS, flatD]
/-- a word's first sign changed -/
def tailOf (w : Str) : Str := cutS w (some 1) (some 7)
def alts (w : Str) : List Str := abc.cps.toList.map fun c => (⟨#[c]⟩ : Str) ++ tailOf w
def altx (w : Str) : List Str := abc.cps.toList.map fun c => (⟨#[c]⟩ : Str) ++ "x" ++ tailOf w
theorem abc_chars : abc.cps.toList.length = 26 ∧ abc.cps.toList.Nodup ∧ ∀ c ∈ abc.cps.toList, 97 ≤ c ∧ c ≤ 122 := by decide +kernel
theorem str_append_inj (a b : Nat) (t : Str) (h : (⟨#[a]⟩ : Str) ++ t = ⟨#[b]⟩ ++ t) : a = b := by
  have e : (#[a] ++ t.cps) = (#[b] ++ t.cps) := congrArg Str.cps h
  have e2 := congrArg (fun z : Array Nat => z.toList) e
  simp [Vs.mkFn, Vs.then_, Vs.bnd, Vs.mIfS, Vs.mIf, Vs.mT, Vs.op2, Vs.op1, Vs.mSl, Vs.mVa, Vs.ret, Vs.look, Vs.view, Vs.rd, Vs.O.view, Vs.fIx, Vs.orF, Vs.fIxS, Vs.mSet, Vs.putSl, Vs.mFrz, Vs.mSetIx, Vs.mSh, Vs.mName, Vs.mRetSl, Vs.mRet, Vs.cellL, Vs.cellOf, _root_.L2.ixN, Vs.fGt, Vs.fLt, Vs.fLe, Vs.fGe, Vs.fEq, Vs.fNe, Vs.eqD, Vs.fMod, Vs.fDiv, Vs.fMul, Vs.fAdd, Vs.fSub, Vs.fPow, Vs.oI, Vs.oB, Vs.opN, Vs.views, Vs.mConsR, Vs.mCons, Vs.mkTup, Vs.mkLst, Vs.mPar, Vs.fAbs, Vs.fInt, Vs.fLen, Vs.orN, Vs.fLenS, Vs.fLenT, Vs.seqD, Vs.mCall, Vs.callF, Vs.passL, Vs.upds, Vs.wipeL, Vs.mRange1, Vs.mRange2, Vs.mItems, Vs.itD, Vs.tnm, Vs.strM, Vs.mStr, Vs.fJoin, Vs.mFor, Vs.mMeL, Vs.fAppend, Vs.mDrop, Vs.mAnd, Vs.mOr, Vs.mNot, Vs.slM, Vs.fSl, Vs.mPart, Vs.fList, Vs.fTuple, Vs.fStr, Vs.mTru, Vs.truD, Vs.fMax, Vs.fMin, Vs.fNotIn, Vs.fIn, Vs.fInS, Vs.oS] at e2
  exact e2
theorem alts_nodup (w : Str) : (alts w).Nodup := by
  unfold alts
  have h := abc_chars.2.1
  generalize abc.cps.toList = L at h
  induction L with
  | nil => exact List.nodup_nil
  | cons c L ih =>
    rw [List.nodup_cons] at h
    rw [List.map_cons, List.nodup_cons]
    refine ⟨fun z => ?_, ih h.2⟩
    obtain ⟨d, hd, e⟩ := List.mem_map.mp z
    have := str_append_inj d c _ e
    subst this
    exact h.1 hd
/-- among 26 unlike ones fewer than 26 are used -/
theorem nodup_le : ∀ (a b : List Str), a.Nodup → (∀ x ∈ a, x ∈ b) → a.length ≤ b.length
  | [], b, _, _ => Nat.zero_le _
  | x :: a, b, h, hs => by
    rw [List.nodup_cons] at h
    have hx := hs x List.mem_cons_self
    have h1 := nodup_le a (b.erase x) h.2 fun y hy => by
      refine (List.mem_erase_of_ne fun e => ?_).mpr (hs y (List.mem_cons_of_mem _ hy))
      subst e; exact h.1 hy
    have h2 := List.length_erase_of_mem hx
    have h3 := List.length_pos_of_mem hx
    rw [List.length_cons]; omega
theorem fresh_alt (w : Str) (used : List Str) (h : used.length < 26) : ∃ x r, (alts w ++ altx w).filter (fun y => !decide (y ∈ used)) = x :: r ∧ x ∈ alts w ∧ x ∉ used := by
  have hex : ∃ y ∈ alts w, y ∉ used := by
    apply Classical.byContradiction
    intro hn
    have h1 := nodup_le (alts w) used (alts_nodup w) fun x hx => Classical.byContradiction fun hz => hn ⟨x, hx, hz⟩
    have h2 : (alts w).length = 26 := by unfold alts; rw [List.length_map]; exact abc_chars.1
    omega
  obtain ⟨y, hy, hu⟩ := hex
  rw [List.filter_append]
  cases e : (alts w).filter (fun y => !decide (y ∈ used)) with
  | nil =>
    have : y ∈ (alts w).filter (fun y => !decide (y ∈ used)) := List.mem_filter.mpr ⟨hy, by simp [Vs.mkFn, Vs.then_, Vs.bnd, Vs.mIfS, Vs.mIf, Vs.mT, Vs.op2, Vs.op1, Vs.mSl, Vs.mVa, Vs.ret, Vs.look, Vs.view, Vs.rd, Vs.O.view, Vs.fIx, Vs.orF, Vs.fIxS, Vs.mSet, Vs.putSl, Vs.mFrz, Vs.mSetIx, Vs.mSh, Vs.mName, Vs.mRetSl, Vs.mRet, Vs.cellL, Vs.cellOf, _root_.L2.ixN, Vs.fGt, Vs.fLt, Vs.fLe, Vs.fGe, Vs.fEq, Vs.fNe, Vs.eqD, Vs.fMod, Vs.fDiv, Vs.fMul, Vs.fAdd, Vs.fSub, Vs.fPow, Vs.oI, Vs.oB, Vs.opN, Vs.views, Vs.mConsR, Vs.mCons, Vs.mkTup, Vs.mkLst, Vs.mPar, Vs.fAbs, Vs.fInt, Vs.fLen, Vs.orN, Vs.fLenS, Vs.fLenT, Vs.seqD, Vs.mCall, Vs.callF, Vs.passL, Vs.upds, Vs.wipeL, Vs.mRange1, Vs.mRange2, Vs.mItems, Vs.itD, Vs.tnm, Vs.strM, Vs.mStr, Vs.fJoin, Vs.mFor, Vs.mMeL, Vs.fAppend, Vs.mDrop, Vs.mAnd, Vs.mOr, Vs.mNot, Vs.slM, Vs.fSl, Vs.mPart, Vs.fList, Vs.fTuple, Vs.fStr, Vs.mTru, Vs.truD, Vs.fMax, Vs.fMin, Vs.fNotIn, Vs.fIn, Vs.fInS, Vs.oS, hu]⟩
    rw [e] at this; cases this
  | cons x r =>
    have hx : x ∈ (alts w).filter (fun y => !decide (y ∈ used)) := by rw [e]; exact List.mem_cons_self
    obtain ⟨h1, h2⟩ := List.mem_filter.mp hx
    exact ⟨x, _, rfl, h1, by simpa using h2⟩
end My
namespace My
open PySem PySem.Spec PyProof.Rows L2 Vs
theorem sIx_1 (n : Nat) : HT.sIx n 0 (some 1) = min 1 n := HT.sIx_nat n 0 1
theorem sIx_7 (n : Nat) : HT.sIx n n (some 7) = min 7 n := HT.sIx_nat n n 7
theorem tail_list (w : Str) : (tailOf w).cps.toList = (w.cps.toList.drop (min 1 w.length)).take (min 7 w.length - min 1 w.length) := by
  unfold tailOf cutS
  rw [sIx_1, sIx_7]
theorem alt_word {w x : Str} (h : Word w) (hx : x ∈ alts w) : Word x := by
  unfold alts at hx
  obtain ⟨c, hc, rfl⟩ := List.mem_map.mp hx
  have e : ((⟨#[c]⟩ : Str) ++ tailOf w).cps.toList = c :: (tailOf w).cps.toList := by
    show (#[c] ++ (tailOf w).cps).toList = _
    simp [Vs.mkFn, Vs.then_, Vs.bnd, Vs.mIfS, Vs.mIf, Vs.mT, Vs.op2, Vs.op1, Vs.mSl, Vs.mVa, Vs.ret, Vs.look, Vs.view, Vs.rd, Vs.O.view, Vs.fIx, Vs.orF, Vs.fIxS, Vs.mSet, Vs.putSl, Vs.mFrz, Vs.mSetIx, Vs.mSh, Vs.mName, Vs.mRetSl, Vs.mRet, Vs.cellL, Vs.cellOf, _root_.L2.ixN, Vs.fGt, Vs.fLt, Vs.fLe, Vs.fGe, Vs.fEq, Vs.fNe, Vs.eqD, Vs.fMod, Vs.fDiv, Vs.fMul, Vs.fAdd, Vs.fSub, Vs.fPow, Vs.oI, Vs.oB, Vs.opN, Vs.views, Vs.mConsR, Vs.mCons, Vs.mkTup, Vs.mkLst, Vs.mPar, Vs.fAbs, Vs.fInt, Vs.fLen, Vs.orN, Vs.fLenS, Vs.fLenT, Vs.seqD, Vs.mCall, Vs.callF, Vs.passL, Vs.upds, Vs.wipeL, Vs.mRange1, Vs.mRange2, Vs.mItems, Vs.itD, Vs.tnm, Vs.strM, Vs.mStr, Vs.fJoin, Vs.mFor, Vs.mMeL, Vs.fAppend, Vs.mDrop, Vs.mAnd, Vs.mOr, Vs.mNot, Vs.slM, Vs.fSl, Vs.mPart, Vs.fList, Vs.fTuple, Vs.fStr, Vs.mTru, Vs.truD, Vs.fMax, Vs.fMin, Vs.fNotIn, Vs.fIn, Vs.fInS, Vs.oS]
  have hl : ((⟨#[c]⟩ : Str) ++ tailOf w).length = 1 + (tailOf w).cps.toList.length := by
    show (#[c] ++ (tailOf w).cps).size = _
    simp [Vs.mkFn, Vs.then_, Vs.bnd, Vs.mIfS, Vs.mIf, Vs.mT, Vs.op2, Vs.op1, Vs.mSl, Vs.mVa, Vs.ret, Vs.look, Vs.view, Vs.rd, Vs.O.view, Vs.fIx, Vs.orF, Vs.fIxS, Vs.mSet, Vs.putSl, Vs.mFrz, Vs.mSetIx, Vs.mSh, Vs.mName, Vs.mRetSl, Vs.mRet, Vs.cellL, Vs.cellOf, _root_.L2.ixN, Vs.fGt, Vs.fLt, Vs.fLe, Vs.fGe, Vs.fEq, Vs.fNe, Vs.eqD, Vs.fMod, Vs.fDiv, Vs.fMul, Vs.fAdd, Vs.fSub, Vs.fPow, Vs.oI, Vs.oB, Vs.opN, Vs.views, Vs.mConsR, Vs.mCons, Vs.mkTup, Vs.mkLst, Vs.mPar, Vs.fAbs, Vs.fInt, Vs.fLen, Vs.orN, Vs.fLenS, Vs.fLenT, Vs.seqD, Vs.mCall, Vs.callF, Vs.passL, Vs.upds, Vs.wipeL, Vs.mRange1, Vs.mRange2, Vs.mItems, Vs.itD, Vs.tnm, Vs.strM, Vs.mStr, Vs.fJoin, Vs.mFor, Vs.mMeL, Vs.fAppend, Vs.mDrop, Vs.mAnd, Vs.mOr, Vs.mNot, Vs.slM, Vs.fSl, Vs.mPart, Vs.fList, Vs.fTuple, Vs.fStr, Vs.mTru, Vs.truD, Vs.fMax, Vs.fMin, Vs.fNotIn, Vs.fIn, Vs.fInS, Vs.oS]
  have ht : (tailOf w).cps.toList.length ≤ 6 := by
    rw [tail_list, List.length_take, List.length_drop]
    omega
  refine ⟨fun z hz => ?_, by omega, by omega⟩
  rw [e] at hz
  rcases List.mem_cons.mp hz with rfl | hz
  · exact abc_chars.2.2 _ hc
  · rw [tail_list] at hz
    exact h.1 z (List.mem_of_mem_drop (List.mem_of_mem_take hz))
theorem word_len {w : Str} (h : Word w) : w.length ≤ 1000000 := by have := h.2.2; omega
theorem names_body {N n : Nat} {l : List D} {taken found : List Str} {J : List O} {d : D} {x5 x6 x7 x8 : Option Vl} (B : Bag N l) (hN : N + 20 < 2 ^ 60) (hs : found.length + taken.length < 26) :
    ∃ (w : Str) (l' : List D) (J' : List O) (x6' x7' : Option Vl), Word w ∧ w ∉ found ∧ w ∉ taken ∧ Bag (N + 10) l' ∧
      m__law_unlike_names_b3 ⟨[some (.pt 0), some (.sh (.int n)), some (.sh (.lst (taken.map .str))), some (.pt 1), some (.sh d), x5, x6, x7, x8], .ol l :: .ol (found.map .str) :: J, []⟩ =
        some (.ok .nx ⟨[some (.pt 0), some (.sh (.int n)), some (.sh (.lst (taken.map .str))), some (.pt 1), some (.sh d), some (.sh (.str w)), x6', x7', x8], .ol l' :: .ol ((found ++ [w]).map .str) :: J', []⟩) := by
  obtain ⟨w, l1, W, B1, e1⟩ := name_ok B hN
  have hin := in_strs w (found ++ taken)
  rw [List.map_append] at hin
  have hlen : found.length + taken.length ≤ 1000000 := by omega
  have hf : found.length < 1000000 := by omega
  have hwl := word_len W
  have hal : abc.length ≤ 1000000 := abc_len
  by_cases hu : w ∈ found ++ taken
  · rw [decide_eq_true hu] at hin
    obtain ⟨x, r, ef, hx, hnu⟩ := fresh_alt w (found ++ taken) (by simp [Vs.mkFn, Vs.then_, Vs.bnd, Vs.mIfS, Vs.mIf, Vs.mT, Vs.op2, Vs.op1, Vs.mSl, Vs.mVa, Vs.ret, Vs.look, Vs.view, Vs.rd, Vs.O.view, Vs.fIx, Vs.orF, Vs.fIxS, Vs.mSet, Vs.putSl, Vs.mFrz, Vs.mSetIx, Vs.mSh, Vs.mName, Vs.mRetSl, Vs.mRet, Vs.cellL, Vs.cellOf, _root_.L2.ixN, Vs.fGt, Vs.fLt, Vs.fLe, Vs.fGe, Vs.fEq, Vs.fNe, Vs.eqD, Vs.fMod, Vs.fDiv, Vs.fMul, Vs.fAdd, Vs.fSub, Vs.fPow, Vs.oI, Vs.oB, Vs.opN, Vs.views, Vs.mConsR, Vs.mCons, Vs.mkTup, Vs.mkLst, Vs.mPar, Vs.fAbs, Vs.fInt, Vs.fLen, Vs.orN, Vs.fLenS, Vs.fLenT, Vs.seqD, Vs.mCall, Vs.callF, Vs.passL, Vs.upds, Vs.wipeL, Vs.mRange1, Vs.mRange2, Vs.mItems, Vs.itD, Vs.tnm, Vs.strM, Vs.mStr, Vs.fJoin, Vs.mFor, Vs.mMeL, Vs.fAppend, Vs.mDrop, Vs.mAnd, Vs.mOr, Vs.mNot, Vs.slM, Vs.fSl, Vs.mPart, Vs.fList, Vs.fTuple, Vs.fStr, Vs.mTru, Vs.truD, Vs.fMax, Vs.fMin, Vs.fNotIn, Vs.fIn, Vs.fInS, Vs.oS]; omega)
    have hnu' : x ∉ found ∧ x ∉ taken := by simpa using hnu
    have ht : (cutS w (some 1) (some 7)).length ≤ 8 := Nat.le_trans (cutS_length w _ _) W.2.2
    have ht1 : 1 + (cutS w (some 1) (some 7)).length ≤ 1000000 := by omega
    have ht3 : 2 + (cutS w (some 1) (some 7)).length ≤ 1000000 := by omega
    have ht2 : 1 + 1 + (cutS w (some 1) (some 7)).length ≤ 1000000 := by omega
    have L1 : ∀ c : Nat, (⟨#[c]⟩ : Str).length = 1 := fun _ => rfl
    have L2 : ∀ c : Nat, ((⟨#[c]⟩ : Str) ++ "x").length = 2 := fun _ => rfl
    have Lx : (Str.ofString "x").length = 1 := rfl
    have la : abc.cps.toList.length = 26 := abc_chars.1
    have c0 : m__law_unlike_names_c0 ⟨[some (.pt 0), some (.sh (.int n)), some (.sh (.lst (taken.map .str))), some (.pt 1), some (.sh d), some (.sh (.str w)), some (.pt (J.length + 2)), x7, x8], .ol l1 :: .ol (found.map .str) :: (J ++ [.ol (found.map .str ++ taken.map .str)]), []⟩ = some (.ok (.ol ((alts w).map .str)) ⟨[some (.pt 0), some (.sh (.int n)), some (.sh (.lst (taken.map .str))), some (.pt 1), some (.sh d), some (.sh (.str w)), some (.pt (J.length + 2)), x7, x8], .ol l1 :: .ol (found.map .str) :: (J ++ [.ol (found.map .str ++ taken.map .str)]), []⟩) := by
      have e := mComp_pure (i := 8) (mi := mItems (Vs.ret (.str abc))) (mc := Vs.ret true) (me := (mFrz (op2 fAdd (mSl 8) (mVa (mFrz (slM fSl (mSl 5) (mPart (ret (.int 1))) (mPart (ret (.int 7))))))))) (p := fun _ => true) (f := fun d => match d with
        | .str c => .str (c ++ cutS w (some 1) (some 7))
        | d => d) (s := ⟨[some (.pt 0), some (.sh (.int n)), some (.sh (.lst (taken.map .str))), some (.pt 1), some (.sh d), some (.sh (.str w)), some (.pt (J.length + 2)), x7, x8], .ol l1 :: .ol (found.map .str) :: (J ++ [.ol (found.map .str ++ taken.map .str)]), []⟩) (s1 := ⟨[some (.pt 0), some (.sh (.int n)), some (.sh (.lst (taken.map .str))), some (.pt 1), some (.sh d), some (.sh (.str w)), some (.pt (J.length + 2)), x7, x8], .ol l1 :: .ol (found.map .str) :: (J ++ [.ol (found.map .str ++ taken.map .str)]), []⟩) (ds := abc.cps.toList.map fun c => .str ⟨#[c]⟩) rfl (by rw [List.length_map, la]; decide) (fun d _ => rfl) (fun d hd _ => by
        obtain ⟨c, _, rfl⟩ := List.mem_map.mp hd
        simp [Vs.mkFn, Vs.then_, Vs.bnd, Vs.mIfS, Vs.mIf, Vs.mT, Vs.op2, Vs.op1, Vs.mSl, Vs.mVa, Vs.ret, Vs.look, Vs.view, Vs.rd, Vs.O.view, Vs.fIx, Vs.orF, Vs.fIxS, Vs.mSet, Vs.putSl, Vs.mFrz, Vs.mSetIx, Vs.mSh, Vs.mName, Vs.mRetSl, Vs.mRet, Vs.cellL, Vs.cellOf, _root_.L2.ixN, Vs.fGt, Vs.fLt, Vs.fLe, Vs.fGe, Vs.fEq, Vs.fNe, Vs.eqD, Vs.fMod, Vs.fDiv, Vs.fMul, Vs.fAdd, Vs.fSub, Vs.fPow, Vs.oI, Vs.oB, Vs.opN, Vs.views, Vs.mConsR, Vs.mCons, Vs.mkTup, Vs.mkLst, Vs.mPar, Vs.fAbs, Vs.fInt, Vs.fLen, Vs.orN, Vs.fLenS, Vs.fLenT, Vs.seqD, Vs.mCall, Vs.callF, Vs.passL, Vs.upds, Vs.wipeL, Vs.mRange1, Vs.mRange2, Vs.mItems, Vs.itD, Vs.tnm, Vs.strM, Vs.mStr, Vs.fJoin, Vs.mFor, Vs.mMeL, Vs.fAppend, Vs.mDrop, Vs.mAnd, Vs.mOr, Vs.mNot, Vs.slM, Vs.fSl, Vs.mPart, Vs.fList, Vs.fTuple, Vs.fStr, Vs.mTru, Vs.truD, Vs.fMax, Vs.fMin, Vs.fNotIn, Vs.fIn, Vs.fInS, Vs.oS, hwl, L1, ht1])
      have z : ((abc.cps.toList.map fun c => (D.str ⟨#[c]⟩ : D)).filter fun _ => true).map (fun d => match d with
        | .str c => D.str (c ++ cutS w (some 1) (some 7))
        | d => d) = (alts w).map D.str := by
        rw [List.filter_eq_self.mpr (fun _ _ => rfl), alts, List.map_map, List.map_map]; rfl
      rw [z] at e
      exact e
    have c1 : m__law_unlike_names_c1 ⟨[some (.pt 0), some (.sh (.int n)), some (.sh (.lst (taken.map .str))), some (.pt 1), some (.sh d), some (.sh (.str w)), some (.pt (J.length + 2)), some (.pt (J.length + 3)), x8], .ol l1 :: .ol (found.map .str) :: (J ++ [.ol (found.map .str ++ taken.map .str), .ol ((alts w).map .str)]), []⟩ = some (.ok (.ol ((altx w).map .str)) ⟨[some (.pt 0), some (.sh (.int n)), some (.sh (.lst (taken.map .str))), some (.pt 1), some (.sh d), some (.sh (.str w)), some (.pt (J.length + 2)), some (.pt (J.length + 3)), x8], .ol l1 :: .ol (found.map .str) :: (J ++ [.ol (found.map .str ++ taken.map .str), .ol ((alts w).map .str)]), []⟩) := by
      have e := mComp_pure (i := 8) (mi := mItems (Vs.ret (.str abc))) (mc := Vs.ret true) (me := (mFrz (op2 fAdd (mVa (mFrz (op2 fAdd (mSl 8) (mVa (ret (.str "x")))))) (mVa (mFrz (slM fSl (mSl 5) (mPart (ret (.int 1))) (mPart (ret (.int 7))))))))) (p := fun _ => true) (f := fun d => match d with
        | .str c => .str (c ++ "x" ++ cutS w (some 1) (some 7))
        | d => d) (s := ⟨[some (.pt 0), some (.sh (.int n)), some (.sh (.lst (taken.map .str))), some (.pt 1), some (.sh d), some (.sh (.str w)), some (.pt (J.length + 2)), some (.pt (J.length + 3)), x8], .ol l1 :: .ol (found.map .str) :: (J ++ [.ol (found.map .str ++ taken.map .str), .ol ((alts w).map .str)]), []⟩) (s1 := ⟨[some (.pt 0), some (.sh (.int n)), some (.sh (.lst (taken.map .str))), some (.pt 1), some (.sh d), some (.sh (.str w)), some (.pt (J.length + 2)), some (.pt (J.length + 3)), x8], .ol l1 :: .ol (found.map .str) :: (J ++ [.ol (found.map .str ++ taken.map .str), .ol ((alts w).map .str)]), []⟩) (ds := abc.cps.toList.map fun c => .str ⟨#[c]⟩) rfl (by rw [List.length_map, la]; decide) (fun d _ => rfl) (fun d hd _ => by
        obtain ⟨c, _, rfl⟩ := List.mem_map.mp hd
        simp [Vs.mkFn, Vs.then_, Vs.bnd, Vs.mIfS, Vs.mIf, Vs.mT, Vs.op2, Vs.op1, Vs.mSl, Vs.mVa, Vs.ret, Vs.look, Vs.view, Vs.rd, Vs.O.view, Vs.fIx, Vs.orF, Vs.fIxS, Vs.mSet, Vs.putSl, Vs.mFrz, Vs.mSetIx, Vs.mSh, Vs.mName, Vs.mRetSl, Vs.mRet, Vs.cellL, Vs.cellOf, _root_.L2.ixN, Vs.fGt, Vs.fLt, Vs.fLe, Vs.fGe, Vs.fEq, Vs.fNe, Vs.eqD, Vs.fMod, Vs.fDiv, Vs.fMul, Vs.fAdd, Vs.fSub, Vs.fPow, Vs.oI, Vs.oB, Vs.opN, Vs.views, Vs.mConsR, Vs.mCons, Vs.mkTup, Vs.mkLst, Vs.mPar, Vs.fAbs, Vs.fInt, Vs.fLen, Vs.orN, Vs.fLenS, Vs.fLenT, Vs.seqD, Vs.mCall, Vs.callF, Vs.passL, Vs.upds, Vs.wipeL, Vs.mRange1, Vs.mRange2, Vs.mItems, Vs.itD, Vs.tnm, Vs.strM, Vs.mStr, Vs.fJoin, Vs.mFor, Vs.mMeL, Vs.fAppend, Vs.mDrop, Vs.mAnd, Vs.mOr, Vs.mNot, Vs.slM, Vs.fSl, Vs.mPart, Vs.fList, Vs.fTuple, Vs.fStr, Vs.mTru, Vs.truD, Vs.fMax, Vs.fMin, Vs.fNotIn, Vs.fIn, Vs.fInS, Vs.oS, hwl, L1, Lx, L2, ht3])
      have z : ((abc.cps.toList.map fun c => (D.str ⟨#[c]⟩ : D)).filter fun _ => true).map (fun d => match d with
        | .str c => D.str (c ++ "x" ++ cutS w (some 1) (some 7))
        | d => d) = (altx w).map D.str := by
        rw [List.filter_eq_self.mpr (fun _ _ => rfl), altx, List.map_map, List.map_map]; rfl
      rw [z] at e
      exact e
    have hmem : ∀ y : Str, inS (.str y) (found.map .str ++ taken.map .str) = some (decide (y ∈ found ++ taken)) := fun y => by
      have := in_strs y (found ++ taken)
      rw [List.map_append] at this
      exact this
    have c2 : m__law_unlike_names_c2 ⟨[some (.pt 0), some (.sh (.int n)), some (.sh (.lst (taken.map .str))), some (.pt 1), some (.sh d), some (.sh (.str w)), some (.pt (J.length + 2)), some (.pt (J.length + 4)), x8], .ol l1 :: .ol (found.map .str) :: (J ++ [.ol (found.map .str ++ taken.map .str), .ol ((alts w).map .str), .ol ((alts w).map .str ++ (altx w).map .str)]), []⟩ = some (.ok (.ol (.str x :: r.map .str)) ⟨[some (.pt 0), some (.sh (.int n)), some (.sh (.lst (taken.map .str))), some (.pt 1), some (.sh d), some (.sh (.str w)), some (.pt (J.length + 2)), some (.pt (J.length + 4)), x8], .ol l1 :: .ol (found.map .str) :: (J ++ [.ol (found.map .str ++ taken.map .str), .ol ((alts w).map .str), .sh (.lst ((alts w).map .str ++ (altx w).map .str))]), []⟩) := by
      have e := mComp_pure (i := 8) (mi := mItems (mName 7)) (mc := mT (op2 fNotIn (mSl 8) (mSl 6))) (me := mName 8) (p := fun d => match d with
        | .str y => !decide (y ∈ found ++ taken)
        | _ => false) (f := fun d => d) (s := ⟨[some (.pt 0), some (.sh (.int n)), some (.sh (.lst (taken.map .str))), some (.pt 1), some (.sh d), some (.sh (.str w)), some (.pt (J.length + 2)), some (.pt (J.length + 4)), x8], .ol l1 :: .ol (found.map .str) :: (J ++ [.ol (found.map .str ++ taken.map .str), .ol ((alts w).map .str), .ol ((alts w).map .str ++ (altx w).map .str)]), []⟩) (s1 := ⟨[some (.pt 0), some (.sh (.int n)), some (.sh (.lst (taken.map .str))), some (.pt 1), some (.sh d), some (.sh (.str w)), some (.pt (J.length + 2)), some (.pt (J.length + 4)), x8], .ol l1 :: .ol (found.map .str) :: (J ++ [.ol (found.map .str ++ taken.map .str), .ol ((alts w).map .str), .sh (.lst ((alts w).map .str ++ (altx w).map .str))]), []⟩) (ds := (alts w).map .str ++ (altx w).map .str) (by simp [Vs.mkFn, Vs.then_, Vs.bnd, Vs.mIfS, Vs.mIf, Vs.mT, Vs.op2, Vs.op1, Vs.mSl, Vs.mVa, Vs.ret, Vs.look, Vs.view, Vs.rd, Vs.O.view, Vs.fIx, Vs.orF, Vs.fIxS, Vs.mSet, Vs.putSl, Vs.mFrz, Vs.mSetIx, Vs.mSh, Vs.mName, Vs.mRetSl, Vs.mRet, Vs.cellL, Vs.cellOf, _root_.L2.ixN, Vs.fGt, Vs.fLt, Vs.fLe, Vs.fGe, Vs.fEq, Vs.fNe, Vs.eqD, Vs.fMod, Vs.fDiv, Vs.fMul, Vs.fAdd, Vs.fSub, Vs.fPow, Vs.oI, Vs.oB, Vs.opN, Vs.views, Vs.mConsR, Vs.mCons, Vs.mkTup, Vs.mkLst, Vs.mPar, Vs.fAbs, Vs.fInt, Vs.fLen, Vs.orN, Vs.fLenS, Vs.fLenT, Vs.seqD, Vs.mCall, Vs.callF, Vs.passL, Vs.upds, Vs.wipeL, Vs.mRange1, Vs.mRange2, Vs.mItems, Vs.itD, Vs.tnm, Vs.strM, Vs.mStr, Vs.fJoin, Vs.mFor, Vs.mMeL, Vs.fAppend, Vs.mDrop, Vs.mAnd, Vs.mOr, Vs.mNot, Vs.slM, Vs.fSl, Vs.mPart, Vs.fList, Vs.fTuple, Vs.fStr, Vs.mTru, Vs.truD, Vs.fMax, Vs.fMin, Vs.fNotIn, Vs.fIn, Vs.fInS, Vs.oS]) (by simp [Vs.mkFn, Vs.then_, Vs.bnd, Vs.mIfS, Vs.mIf, Vs.mT, Vs.op2, Vs.op1, Vs.mSl, Vs.mVa, Vs.ret, Vs.look, Vs.view, Vs.rd, Vs.O.view, Vs.fIx, Vs.orF, Vs.fIxS, Vs.mSet, Vs.putSl, Vs.mFrz, Vs.mSetIx, Vs.mSh, Vs.mName, Vs.mRetSl, Vs.mRet, Vs.cellL, Vs.cellOf, _root_.L2.ixN, Vs.fGt, Vs.fLt, Vs.fLe, Vs.fGe, Vs.fEq, Vs.fNe, Vs.eqD, Vs.fMod, Vs.fDiv, Vs.fMul, Vs.fAdd, Vs.fSub, Vs.fPow, Vs.oI, Vs.oB, Vs.opN, Vs.views, Vs.mConsR, Vs.mCons, Vs.mkTup, Vs.mkLst, Vs.mPar, Vs.fAbs, Vs.fInt, Vs.fLen, Vs.orN, Vs.fLenS, Vs.fLenT, Vs.seqD, Vs.mCall, Vs.callF, Vs.passL, Vs.upds, Vs.wipeL, Vs.mRange1, Vs.mRange2, Vs.mItems, Vs.itD, Vs.tnm, Vs.strM, Vs.mStr, Vs.fJoin, Vs.mFor, Vs.mMeL, Vs.fAppend, Vs.mDrop, Vs.mAnd, Vs.mOr, Vs.mNot, Vs.slM, Vs.fSl, Vs.mPart, Vs.fList, Vs.fTuple, Vs.fStr, Vs.mTru, Vs.truD, Vs.fMax, Vs.fMin, Vs.fNotIn, Vs.fIn, Vs.fInS, Vs.oS, alts, altx, la]) (fun d hd => by
        have hd : ∃ y, D.str y = d := by
          rcases List.mem_append.mp hd with hd | hd <;> (obtain ⟨y, _, z⟩ := List.mem_map.mp hd; exact ⟨y, z⟩)
        obtain ⟨y, rfl⟩ := hd
        have := hmem y
        simp [Vs.mkFn, Vs.then_, Vs.bnd, Vs.mIfS, Vs.mIf, Vs.mT, Vs.op2, Vs.op1, Vs.mSl, Vs.mVa, Vs.ret, Vs.look, Vs.view, Vs.rd, Vs.O.view, Vs.fIx, Vs.orF, Vs.fIxS, Vs.mSet, Vs.putSl, Vs.mFrz, Vs.mSetIx, Vs.mSh, Vs.mName, Vs.mRetSl, Vs.mRet, Vs.cellL, Vs.cellOf, _root_.L2.ixN, Vs.fGt, Vs.fLt, Vs.fLe, Vs.fGe, Vs.fEq, Vs.fNe, Vs.eqD, Vs.fMod, Vs.fDiv, Vs.fMul, Vs.fAdd, Vs.fSub, Vs.fPow, Vs.oI, Vs.oB, Vs.opN, Vs.views, Vs.mConsR, Vs.mCons, Vs.mkTup, Vs.mkLst, Vs.mPar, Vs.fAbs, Vs.fInt, Vs.fLen, Vs.orN, Vs.fLenS, Vs.fLenT, Vs.seqD, Vs.mCall, Vs.callF, Vs.passL, Vs.upds, Vs.wipeL, Vs.mRange1, Vs.mRange2, Vs.mItems, Vs.itD, Vs.tnm, Vs.strM, Vs.mStr, Vs.fJoin, Vs.mFor, Vs.mMeL, Vs.fAppend, Vs.mDrop, Vs.mAnd, Vs.mOr, Vs.mNot, Vs.slM, Vs.fSl, Vs.mPart, Vs.fList, Vs.fTuple, Vs.fStr, Vs.mTru, Vs.truD, Vs.fMax, Vs.fMin, Vs.fNotIn, Vs.fIn, Vs.fInS, Vs.oS, this]) (fun d hd _ => by simp [Vs.mkFn, Vs.then_, Vs.bnd, Vs.mIfS, Vs.mIf, Vs.mT, Vs.op2, Vs.op1, Vs.mSl, Vs.mVa, Vs.ret, Vs.look, Vs.view, Vs.rd, Vs.O.view, Vs.fIx, Vs.orF, Vs.fIxS, Vs.mSet, Vs.putSl, Vs.mFrz, Vs.mSetIx, Vs.mSh, Vs.mName, Vs.mRetSl, Vs.mRet, Vs.cellL, Vs.cellOf, _root_.L2.ixN, Vs.fGt, Vs.fLt, Vs.fLe, Vs.fGe, Vs.fEq, Vs.fNe, Vs.eqD, Vs.fMod, Vs.fDiv, Vs.fMul, Vs.fAdd, Vs.fSub, Vs.fPow, Vs.oI, Vs.oB, Vs.opN, Vs.views, Vs.mConsR, Vs.mCons, Vs.mkTup, Vs.mkLst, Vs.mPar, Vs.fAbs, Vs.fInt, Vs.fLen, Vs.orN, Vs.fLenS, Vs.fLenT, Vs.seqD, Vs.mCall, Vs.callF, Vs.passL, Vs.upds, Vs.wipeL, Vs.mRange1, Vs.mRange2, Vs.mItems, Vs.itD, Vs.tnm, Vs.strM, Vs.mStr, Vs.fJoin, Vs.mFor, Vs.mMeL, Vs.fAppend, Vs.mDrop, Vs.mAnd, Vs.mOr, Vs.mNot, Vs.slM, Vs.fSl, Vs.mPart, Vs.fList, Vs.fTuple, Vs.fStr, Vs.mTru, Vs.truD, Vs.fMax, Vs.fMin, Vs.fNotIn, Vs.fIn, Vs.fInS, Vs.oS])
      have z : (((alts w).map D.str ++ (altx w).map D.str).filter fun d => match d with
        | .str y => !decide (y ∈ found ++ taken)
        | _ => false).map (fun d => d) = D.str x :: r.map D.str := by
        rw [List.map_id', ← List.map_append, List.filter_map]
        exact congrArg (List.map D.str) ef
      rw [z] at e
      exact e
    have hal2 : (alts w).length + (altx w).length ≤ 1000000 := by simp [Vs.mkFn, Vs.then_, Vs.bnd, Vs.mIfS, Vs.mIf, Vs.mT, Vs.op2, Vs.op1, Vs.mSl, Vs.mVa, Vs.ret, Vs.look, Vs.view, Vs.rd, Vs.O.view, Vs.fIx, Vs.orF, Vs.fIxS, Vs.mSet, Vs.putSl, Vs.mFrz, Vs.mSetIx, Vs.mSh, Vs.mName, Vs.mRetSl, Vs.mRet, Vs.cellL, Vs.cellOf, _root_.L2.ixN, Vs.fGt, Vs.fLt, Vs.fLe, Vs.fGe, Vs.fEq, Vs.fNe, Vs.eqD, Vs.fMod, Vs.fDiv, Vs.fMul, Vs.fAdd, Vs.fSub, Vs.fPow, Vs.oI, Vs.oB, Vs.opN, Vs.views, Vs.mConsR, Vs.mCons, Vs.mkTup, Vs.mkLst, Vs.mPar, Vs.fAbs, Vs.fInt, Vs.fLen, Vs.orN, Vs.fLenS, Vs.fLenT, Vs.seqD, Vs.mCall, Vs.callF, Vs.passL, Vs.upds, Vs.wipeL, Vs.mRange1, Vs.mRange2, Vs.mItems, Vs.itD, Vs.tnm, Vs.strM, Vs.mStr, Vs.fJoin, Vs.mFor, Vs.mMeL, Vs.fAppend, Vs.mDrop, Vs.mAnd, Vs.mOr, Vs.mNot, Vs.slM, Vs.fSl, Vs.mPart, Vs.fList, Vs.fTuple, Vs.fStr, Vs.mTru, Vs.truD, Vs.fMax, Vs.fMin, Vs.fNotIn, Vs.fIn, Vs.fInS, Vs.oS, alts, altx, la]
    refine ⟨x, l1, J ++ [.ol (found.map .str ++ taken.map .str), .ol ((alts w).map .str), .sh (.lst ((alts w).map .str ++ (altx w).map .str))], some (.pt (J.length + 2)), some (.pt (J.length + 4)), alt_word W hx, hnu'.1, hnu'.2, B1, ?_⟩
    simp [Vs.mkFn, Vs.then_, Vs.bnd, Vs.mIfS, Vs.mIf, Vs.mT, Vs.op2, Vs.op1, Vs.mSl, Vs.mVa, Vs.ret, Vs.look, Vs.view, Vs.rd, Vs.O.view, Vs.fIx, Vs.orF, Vs.fIxS, Vs.mSet, Vs.putSl, Vs.mFrz, Vs.mSetIx, Vs.mSh, Vs.mName, Vs.mRetSl, Vs.mRet, Vs.cellL, Vs.cellOf, _root_.L2.ixN, Vs.fGt, Vs.fLt, Vs.fLe, Vs.fGe, Vs.fEq, Vs.fNe, Vs.eqD, Vs.fMod, Vs.fDiv, Vs.fMul, Vs.fAdd, Vs.fSub, Vs.fPow, Vs.oI, Vs.oB, Vs.opN, Vs.views, Vs.mConsR, Vs.mCons, Vs.mkTup, Vs.mkLst, Vs.mPar, Vs.fAbs, Vs.fInt, Vs.fLen, Vs.orN, Vs.fLenS, Vs.fLenT, Vs.seqD, Vs.mCall, Vs.callF, Vs.passL, Vs.upds, Vs.wipeL, Vs.mRange1, Vs.mRange2, Vs.mItems, Vs.itD, Vs.tnm, Vs.strM, Vs.mStr, Vs.fJoin, Vs.mFor, Vs.mMeL, Vs.fAppend, Vs.mDrop, Vs.mAnd, Vs.mOr, Vs.mNot, Vs.slM, Vs.fSl, Vs.mPart, Vs.fList, Vs.fTuple, Vs.fStr, Vs.mTru, Vs.truD, Vs.fMax, Vs.fMin, Vs.fNotIn, Vs.fIn, Vs.fInS, Vs.oS, m__law_unlike_names_b3, e1, hlen, hin, c0]
    simp [Vs.mkFn, Vs.then_, Vs.bnd, Vs.mIfS, Vs.mIf, Vs.mT, Vs.op2, Vs.op1, Vs.mSl, Vs.mVa, Vs.ret, Vs.look, Vs.view, Vs.rd, Vs.O.view, Vs.fIx, Vs.orF, Vs.fIxS, Vs.mSet, Vs.putSl, Vs.mFrz, Vs.mSetIx, Vs.mSh, Vs.mName, Vs.mRetSl, Vs.mRet, Vs.cellL, Vs.cellOf, _root_.L2.ixN, Vs.fGt, Vs.fLt, Vs.fLe, Vs.fGe, Vs.fEq, Vs.fNe, Vs.eqD, Vs.fMod, Vs.fDiv, Vs.fMul, Vs.fAdd, Vs.fSub, Vs.fPow, Vs.oI, Vs.oB, Vs.opN, Vs.views, Vs.mConsR, Vs.mCons, Vs.mkTup, Vs.mkLst, Vs.mPar, Vs.fAbs, Vs.fInt, Vs.fLen, Vs.orN, Vs.fLenS, Vs.fLenT, Vs.seqD, Vs.mCall, Vs.callF, Vs.passL, Vs.upds, Vs.wipeL, Vs.mRange1, Vs.mRange2, Vs.mItems, Vs.itD, Vs.tnm, Vs.strM, Vs.mStr, Vs.fJoin, Vs.mFor, Vs.mMeL, Vs.fAppend, Vs.mDrop, Vs.mAnd, Vs.mOr, Vs.mNot, Vs.slM, Vs.fSl, Vs.mPart, Vs.fList, Vs.fTuple, Vs.fStr, Vs.mTru, Vs.truD, Vs.fMax, Vs.fMin, Vs.fNotIn, Vs.fIn, Vs.fInS, Vs.oS, c1, hal2, c2, hf]
  · rw [decide_eq_false hu] at hin
    have hu' : w ∉ found ∧ w ∉ taken := by simpa using hu
    refine ⟨w, l1, J ++ [.ol (found.map .str ++ taken.map .str)], some (.pt (J.length + 2)), x7, W, hu'.1, hu'.2, B1, ?_⟩
    simp [Vs.mkFn, Vs.then_, Vs.bnd, Vs.mIfS, Vs.mIf, Vs.mT, Vs.op2, Vs.op1, Vs.mSl, Vs.mVa, Vs.ret, Vs.look, Vs.view, Vs.rd, Vs.O.view, Vs.fIx, Vs.orF, Vs.fIxS, Vs.mSet, Vs.putSl, Vs.mFrz, Vs.mSetIx, Vs.mSh, Vs.mName, Vs.mRetSl, Vs.mRet, Vs.cellL, Vs.cellOf, _root_.L2.ixN, Vs.fGt, Vs.fLt, Vs.fLe, Vs.fGe, Vs.fEq, Vs.fNe, Vs.eqD, Vs.fMod, Vs.fDiv, Vs.fMul, Vs.fAdd, Vs.fSub, Vs.fPow, Vs.oI, Vs.oB, Vs.opN, Vs.views, Vs.mConsR, Vs.mCons, Vs.mkTup, Vs.mkLst, Vs.mPar, Vs.fAbs, Vs.fInt, Vs.fLen, Vs.orN, Vs.fLenS, Vs.fLenT, Vs.seqD, Vs.mCall, Vs.callF, Vs.passL, Vs.upds, Vs.wipeL, Vs.mRange1, Vs.mRange2, Vs.mItems, Vs.itD, Vs.tnm, Vs.strM, Vs.mStr, Vs.fJoin, Vs.mFor, Vs.mMeL, Vs.fAppend, Vs.mDrop, Vs.mAnd, Vs.mOr, Vs.mNot, Vs.slM, Vs.fSl, Vs.mPart, Vs.fList, Vs.fTuple, Vs.fStr, Vs.mTru, Vs.truD, Vs.fMax, Vs.fMin, Vs.fNotIn, Vs.fIn, Vs.fInS, Vs.oS, m__law_unlike_names_b3, e1, hlen, hin, hf]
end My
namespace My
open PySem PySem.Spec PyProof.Rows L2 Vs
theorem small_of {i : Int} (h0 : 0 ≤ i) (h1 : i < 1000) : small62 i = true := by unfold small62; simp [Vs.mkFn, Vs.then_, Vs.bnd, Vs.mIfS, Vs.mIf, Vs.mT, Vs.op2, Vs.op1, Vs.mSl, Vs.mVa, Vs.ret, Vs.look, Vs.view, Vs.rd, Vs.O.view, Vs.fIx, Vs.orF, Vs.fIxS, Vs.mSet, Vs.putSl, Vs.mFrz, Vs.mSetIx, Vs.mSh, Vs.mName, Vs.mRetSl, Vs.mRet, Vs.cellL, Vs.cellOf, _root_.L2.ixN, Vs.fGt, Vs.fLt, Vs.fLe, Vs.fGe, Vs.fEq, Vs.fNe, Vs.eqD, Vs.fMod, Vs.fDiv, Vs.fMul, Vs.fAdd, Vs.fSub, Vs.fPow, Vs.oI, Vs.oB, Vs.opN, Vs.views, Vs.mConsR, Vs.mCons, Vs.mkTup, Vs.mkLst, Vs.mPar, Vs.fAbs, Vs.fInt, Vs.fLen, Vs.orN, Vs.fLenS, Vs.fLenT, Vs.seqD, Vs.mCall, Vs.callF, Vs.passL, Vs.upds, Vs.wipeL, Vs.mRange1, Vs.mRange2, Vs.mItems, Vs.itD, Vs.tnm, Vs.strM, Vs.mStr, Vs.fJoin, Vs.mFor, Vs.mMeL, Vs.fAppend, Vs.mDrop, Vs.mAnd, Vs.mOr, Vs.mNot, Vs.slM, Vs.fSl, Vs.mPart, Vs.fList, Vs.fTuple, Vs.fStr, Vs.mTru, Vs.truD, Vs.fMax, Vs.fMin, Vs.fNotIn, Vs.fIn, Vs.fInS, Vs.oS]; omega
theorem range1_slot {i : Nat} {k : Int} {s : S} (h : s.sl[i]? = some (some (.sh (.int k)))) (hs : small62 k = true) : mRange1 (mCons (mName i) (Vs.ret [])) s = some (.ok (rgL 0 k.toNat) s) := by
  unfold mRange1 mCons mName
  simp [Vs.mkFn, Vs.then_, Vs.bnd, Vs.mIfS, Vs.mIf, Vs.mT, Vs.op2, Vs.op1, Vs.mSl, Vs.mVa, Vs.ret, Vs.look, Vs.view, Vs.rd, Vs.O.view, Vs.fIx, Vs.orF, Vs.fIxS, Vs.mSet, Vs.putSl, Vs.mFrz, Vs.mSetIx, Vs.mSh, Vs.mName, Vs.mRetSl, Vs.mRet, Vs.cellL, Vs.cellOf, _root_.L2.ixN, Vs.fGt, Vs.fLt, Vs.fLe, Vs.fGe, Vs.fEq, Vs.fNe, Vs.eqD, Vs.fMod, Vs.fDiv, Vs.fMul, Vs.fAdd, Vs.fSub, Vs.fPow, Vs.oI, Vs.oB, Vs.opN, Vs.views, Vs.mConsR, Vs.mCons, Vs.mkTup, Vs.mkLst, Vs.mPar, Vs.fAbs, Vs.fInt, Vs.fLen, Vs.orN, Vs.fLenS, Vs.fLenT, Vs.seqD, Vs.mCall, Vs.callF, Vs.passL, Vs.upds, Vs.wipeL, Vs.mRange1, Vs.mRange2, Vs.mItems, Vs.itD, Vs.tnm, Vs.strM, Vs.mStr, Vs.fJoin, Vs.mFor, Vs.mMeL, Vs.fAppend, Vs.mDrop, Vs.mAnd, Vs.mOr, Vs.mNot, Vs.slM, Vs.fSl, Vs.mPart, Vs.fList, Vs.fTuple, Vs.fStr, Vs.mTru, Vs.truD, Vs.fMax, Vs.fMin, Vs.fNotIn, Vs.fIn, Vs.fInS, Vs.oS, h, hs]
theorem for_ok {mi : M (List D)} {tg : TgM} {b : SM} {s s1 : S} {ds : List D} (h : mi s = some (.ok ds s1)) : mFor mi tg b s = loopF tg b ds s1 := bnd_ok h
theorem names_loop {n : Nat} {taken : List Str} {x8 : Option Vl} : ∀ (L : List D) (found : List Str) (l : List D) (N : Nat) (J : List O) (x4 x5 x6 x7 : Option Vl), Bag N l → N + 10 * L.length + 20 < 2 ^ 60 → found.length + L.length + taken.length < 26 →
    (∀ w ∈ found, Word w ∧ w ∉ taken) → found.Nodup →
    ∃ (ws : List Str) (l' : List D) (J' : List O) (x4' x5' x6' x7' : Option Vl), ws.length = found.length + L.length ∧ (∀ w ∈ ws, Word w ∧ w ∉ taken) ∧ ws.Nodup ∧ Bag (N + 10 * L.length) l' ∧
      loopF (tnm 4) m__law_unlike_names_b3 L ⟨[some (.pt 0), some (.sh (.int n)), some (.sh (.lst (taken.map .str))), some (.pt 1), x4, x5, x6, x7, x8], .ol l :: .ol (found.map .str) :: J, []⟩ =
        some (.ok .nx ⟨[some (.pt 0), some (.sh (.int n)), some (.sh (.lst (taken.map .str))), some (.pt 1), x4', x5', x6', x7', x8], .ol l' :: .ol (ws.map .str) :: J', []⟩)
  | [], found, l, N, J, x4, x5, x6, x7, B, _, _, hf, nd => ⟨found, l, J, x4, x5, x6, x7, rfl, hf, nd, B, rfl⟩
  | d :: L, found, l, N, J, x4, x5, x6, x7, B, hN, hl, hf, nd => by
    simp only [List.length_cons] at hN hl
    obtain ⟨w, l1, J1, y6, y7, W, n1, n2, B1, e1⟩ := names_body (n := n) (taken := taken) (found := found) (J := J) (d := d) (x5 := x5) (x6 := x6) (x7 := x7) (x8 := x8) B (by omega) (by omega)
    obtain ⟨ws, l2, J2, z4, z5, z6, z7, q1, q2, q3, q4, q5⟩ := names_loop (n := n) (taken := taken) (x8 := x8) L (found ++ [w]) l1 (N + 10) J1 (some (.sh d)) (some (.sh (.str w))) y6 y7 B1 (by omega) (by simp [Vs.mkFn, Vs.then_, Vs.bnd, Vs.mIfS, Vs.mIf, Vs.mT, Vs.op2, Vs.op1, Vs.mSl, Vs.mVa, Vs.ret, Vs.look, Vs.view, Vs.rd, Vs.O.view, Vs.fIx, Vs.orF, Vs.fIxS, Vs.mSet, Vs.putSl, Vs.mFrz, Vs.mSetIx, Vs.mSh, Vs.mName, Vs.mRetSl, Vs.mRet, Vs.cellL, Vs.cellOf, _root_.L2.ixN, Vs.fGt, Vs.fLt, Vs.fLe, Vs.fGe, Vs.fEq, Vs.fNe, Vs.eqD, Vs.fMod, Vs.fDiv, Vs.fMul, Vs.fAdd, Vs.fSub, Vs.fPow, Vs.oI, Vs.oB, Vs.opN, Vs.views, Vs.mConsR, Vs.mCons, Vs.mkTup, Vs.mkLst, Vs.mPar, Vs.fAbs, Vs.fInt, Vs.fLen, Vs.orN, Vs.fLenS, Vs.fLenT, Vs.seqD, Vs.mCall, Vs.callF, Vs.passL, Vs.upds, Vs.wipeL, Vs.mRange1, Vs.mRange2, Vs.mItems, Vs.itD, Vs.tnm, Vs.strM, Vs.mStr, Vs.fJoin, Vs.mFor, Vs.mMeL, Vs.fAppend, Vs.mDrop, Vs.mAnd, Vs.mOr, Vs.mNot, Vs.slM, Vs.fSl, Vs.mPart, Vs.fList, Vs.fTuple, Vs.fStr, Vs.mTru, Vs.truD, Vs.fMax, Vs.fMin, Vs.fNotIn, Vs.fIn, Vs.fInS, Vs.oS]; omega)
      (fun y hy => by
        rcases List.mem_append.mp hy with hy | hy
        · exact hf y hy
        · rw [List.mem_singleton] at hy; subst hy; exact ⟨W, n2⟩)
      (by rw [List.nodup_append]; exact ⟨nd, by simp [Vs.mkFn, Vs.then_, Vs.bnd, Vs.mIfS, Vs.mIf, Vs.mT, Vs.op2, Vs.op1, Vs.mSl, Vs.mVa, Vs.ret, Vs.look, Vs.view, Vs.rd, Vs.O.view, Vs.fIx, Vs.orF, Vs.fIxS, Vs.mSet, Vs.putSl, Vs.mFrz, Vs.mSetIx, Vs.mSh, Vs.mName, Vs.mRetSl, Vs.mRet, Vs.cellL, Vs.cellOf, _root_.L2.ixN, Vs.fGt, Vs.fLt, Vs.fLe, Vs.fGe, Vs.fEq, Vs.fNe, Vs.eqD, Vs.fMod, Vs.fDiv, Vs.fMul, Vs.fAdd, Vs.fSub, Vs.fPow, Vs.oI, Vs.oB, Vs.opN, Vs.views, Vs.mConsR, Vs.mCons, Vs.mkTup, Vs.mkLst, Vs.mPar, Vs.fAbs, Vs.fInt, Vs.fLen, Vs.orN, Vs.fLenS, Vs.fLenT, Vs.seqD, Vs.mCall, Vs.callF, Vs.passL, Vs.upds, Vs.wipeL, Vs.mRange1, Vs.mRange2, Vs.mItems, Vs.itD, Vs.tnm, Vs.strM, Vs.mStr, Vs.fJoin, Vs.mFor, Vs.mMeL, Vs.fAppend, Vs.mDrop, Vs.mAnd, Vs.mOr, Vs.mNot, Vs.slM, Vs.fSl, Vs.mPart, Vs.fList, Vs.fTuple, Vs.fStr, Vs.mTru, Vs.truD, Vs.fMax, Vs.fMin, Vs.fNotIn, Vs.fIn, Vs.fInS, Vs.oS], fun a ha b hb => by rw [List.mem_singleton] at hb; subst hb; exact fun z => n1 (z ▸ ha)⟩)
    refine ⟨ws, l2, J2, z4, z5, z6, z7, by rw [q1]; simp [Vs.mkFn, Vs.then_, Vs.bnd, Vs.mIfS, Vs.mIf, Vs.mT, Vs.op2, Vs.op1, Vs.mSl, Vs.mVa, Vs.ret, Vs.look, Vs.view, Vs.rd, Vs.O.view, Vs.fIx, Vs.orF, Vs.fIxS, Vs.mSet, Vs.putSl, Vs.mFrz, Vs.mSetIx, Vs.mSh, Vs.mName, Vs.mRetSl, Vs.mRet, Vs.cellL, Vs.cellOf, _root_.L2.ixN, Vs.fGt, Vs.fLt, Vs.fLe, Vs.fGe, Vs.fEq, Vs.fNe, Vs.eqD, Vs.fMod, Vs.fDiv, Vs.fMul, Vs.fAdd, Vs.fSub, Vs.fPow, Vs.oI, Vs.oB, Vs.opN, Vs.views, Vs.mConsR, Vs.mCons, Vs.mkTup, Vs.mkLst, Vs.mPar, Vs.fAbs, Vs.fInt, Vs.fLen, Vs.orN, Vs.fLenS, Vs.fLenT, Vs.seqD, Vs.mCall, Vs.callF, Vs.passL, Vs.upds, Vs.wipeL, Vs.mRange1, Vs.mRange2, Vs.mItems, Vs.itD, Vs.tnm, Vs.strM, Vs.mStr, Vs.fJoin, Vs.mFor, Vs.mMeL, Vs.fAppend, Vs.mDrop, Vs.mAnd, Vs.mOr, Vs.mNot, Vs.slM, Vs.fSl, Vs.mPart, Vs.fList, Vs.fTuple, Vs.fStr, Vs.mTru, Vs.truD, Vs.fMax, Vs.fMin, Vs.fNotIn, Vs.fIn, Vs.fInS, Vs.oS]; omega, q2, q3, by rw [List.length_cons, show N + 10 * (L.length + 1) = N + 10 + 10 * L.length by omega]; exact q4, ?_⟩
    unfold loopF
    simp only [tnm, List.set_cons_succ, List.set_cons_zero]
    rw [e1]
    exact q5
theorem names_fin {k : Int} {l l2 : List D} {t : D} {L ws : List D} {J2 : List O} {z4 z5 z6 z7 : Option Vl} (r1 : mRange1 (mCons (mName 1) (Vs.ret [])) ⟨[some (.pt 0), some (.sh (.int k)), some (.sh t), some (.pt 1), none, none, none, none, none], [.ol l, .ol []], []⟩ = some (.ok L ⟨[some (.pt 0), some (.sh (.int k)), some (.sh t), some (.pt 1), none, none, none, none, none], [.ol l, .ol []], []⟩))
    (q : loopF (tnm 4) m__law_unlike_names_b3 L ⟨[some (.pt 0), some (.sh (.int k)), some (.sh t), some (.pt 1), none, none, none, none, none], [.ol l, .ol []], []⟩ = some (.ok .nx ⟨[some (.pt 0), some (.sh (.int k)), some (.sh t), some (.pt 1), z4, z5, z6, z7, none], .ol l2 :: .ol ws :: J2, []⟩)) :
    F__law_unlike_names [.pt 0, .sh (.int k), .sh t] [.ol l] [] = some (.ok (.ol ws) [.ol l2] []) := by
  have e : m__law_unlike_names_l3 ⟨[some (.pt 0), some (.sh (.int k)), some (.sh t), some (.pt 1), none, none, none, none, none], [.ol l, .ol []], []⟩ = _ := (for_ok r1).trans q
  simp [Vs.mkFn, Vs.then_, Vs.bnd, Vs.mIfS, Vs.mIf, Vs.mT, Vs.op2, Vs.op1, Vs.mSl, Vs.mVa, Vs.ret, Vs.look, Vs.view, Vs.rd, Vs.O.view, Vs.fIx, Vs.orF, Vs.fIxS, Vs.mSet, Vs.putSl, Vs.mFrz, Vs.mSetIx, Vs.mSh, Vs.mName, Vs.mRetSl, Vs.mRet, Vs.cellL, Vs.cellOf, _root_.L2.ixN, Vs.fGt, Vs.fLt, Vs.fLe, Vs.fGe, Vs.fEq, Vs.fNe, Vs.eqD, Vs.fMod, Vs.fDiv, Vs.fMul, Vs.fAdd, Vs.fSub, Vs.fPow, Vs.oI, Vs.oB, Vs.opN, Vs.views, Vs.mConsR, Vs.mCons, Vs.mkTup, Vs.mkLst, Vs.mPar, Vs.fAbs, Vs.fInt, Vs.fLen, Vs.orN, Vs.fLenS, Vs.fLenT, Vs.seqD, Vs.mCall, Vs.callF, Vs.passL, Vs.upds, Vs.wipeL, Vs.mRange1, Vs.mRange2, Vs.mItems, Vs.itD, Vs.tnm, Vs.strM, Vs.mStr, Vs.fJoin, Vs.mFor, Vs.mMeL, Vs.fAppend, Vs.mDrop, Vs.mAnd, Vs.mOr, Vs.mNot, Vs.slM, Vs.fSl, Vs.mPart, Vs.fList, Vs.fTuple, Vs.fStr, Vs.mTru, Vs.truD, Vs.fMax, Vs.fMin, Vs.fNotIn, Vs.fIn, Vs.fInS, Vs.oS, F__law_unlike_names, m__law_unlike_names, e]
theorem names_ok {N n : Nat} {l : List D} {taken : List Str} (B : Bag N l) (hN : N + 10 * n + 20 < 2 ^ 60) (hs : n + taken.length < 26) :
    ∃ (ws : List Str) (l' : List D), ws.length = n ∧ (∀ w ∈ ws, Word w ∧ w ∉ taken) ∧ ws.Nodup ∧ Bag (N + 10 * n) l' ∧
      F__law_unlike_names [.pt 0, .sh (.int n), .sh (.lst (taken.map .str))] [.ol l] [] = some (.ok (.ol (ws.map .str)) [.ol l'] []) := by
  have hk : (rgL 0 n).length = n := by unfold rgL; simp [Vs.mkFn, Vs.then_, Vs.bnd, Vs.mIfS, Vs.mIf, Vs.mT, Vs.op2, Vs.op1, Vs.mSl, Vs.mVa, Vs.ret, Vs.look, Vs.view, Vs.rd, Vs.O.view, Vs.fIx, Vs.orF, Vs.fIxS, Vs.mSet, Vs.putSl, Vs.mFrz, Vs.mSetIx, Vs.mSh, Vs.mName, Vs.mRetSl, Vs.mRet, Vs.cellL, Vs.cellOf, _root_.L2.ixN, Vs.fGt, Vs.fLt, Vs.fLe, Vs.fGe, Vs.fEq, Vs.fNe, Vs.eqD, Vs.fMod, Vs.fDiv, Vs.fMul, Vs.fAdd, Vs.fSub, Vs.fPow, Vs.oI, Vs.oB, Vs.opN, Vs.views, Vs.mConsR, Vs.mCons, Vs.mkTup, Vs.mkLst, Vs.mPar, Vs.fAbs, Vs.fInt, Vs.fLen, Vs.orN, Vs.fLenS, Vs.fLenT, Vs.seqD, Vs.mCall, Vs.callF, Vs.passL, Vs.upds, Vs.wipeL, Vs.mRange1, Vs.mRange2, Vs.mItems, Vs.itD, Vs.tnm, Vs.strM, Vs.mStr, Vs.fJoin, Vs.mFor, Vs.mMeL, Vs.fAppend, Vs.mDrop, Vs.mAnd, Vs.mOr, Vs.mNot, Vs.slM, Vs.fSl, Vs.mPart, Vs.fList, Vs.fTuple, Vs.fStr, Vs.mTru, Vs.truD, Vs.fMax, Vs.fMin, Vs.fNotIn, Vs.fIn, Vs.fInS, Vs.oS]
  obtain ⟨ws, l2, J2, z4, z5, z6, z7, q1, q2, q3, q4, q5⟩ := names_loop (n := n) (taken := taken) (x8 := none) (rgL 0 n) [] l N [] none none none none B (hk.symm ▸ hN) (by rw [hk]; show 0 + n + taken.length < 26; omega) (fun w hw => by cases hw) List.nodup_nil
  have q1' : ws.length = n := by rw [q1, hk]; exact Nat.zero_add n
  have q4' : Bag (N + 10 * n) l2 := hk ▸ q4
  refine ⟨ws, l2, q1', q2, q3, q4', ?_⟩
  have hsm : small62 (n : Int) = true := small_of (by omega) (by omega)
  have r1 := range1_slot (i := 1) (k := (n : Int)) (s := ⟨[some (.pt 0), some (.sh (.int n)), some (.sh (.lst (taken.map .str))), some (.pt 1), none, none, none, none, none], [.ol l, .ol []], []⟩) rfl hsm
  rw [Int.toNat_natCast] at r1
  exact names_fin r1 q5
end My
namespace My
open PySem PySem.Spec PyProof.Rows L2 Vs
theorem atI_ints {ns : List Int} {k : Int} (h0 : 0 ≤ k) (h1 : k < ns.length) : ∃ c, L2.atI (ns.map D.int) k = some (.int c) := by
  have e : ((k.toNat : Nat) : Int) = k := by omega
  have hk : k.toNat < ns.length := by omega
  refine ⟨ns[k.toNat], ?_⟩
  have := atI_nat' (ns.map D.int) k.toNat
  rw [e] at this
  rw [this, List.getElem?_map, List.getElem?_eq_getElem hk]
  rfl
theorem bag_ok {ns : List Int} {k : Int} (h0 : 0 ≤ k) (h1 : k < 1000) : ∃ l, Bag 0 l ∧ F__law_bag [.sh (.rl (ns.map D.int)), .sh (.int k)] [] [] = some (.ok (.ol l) [] []) := by
  have m1 : mulOk 6007 k = true := mulOk_l (by decide) (by decide)
  have m2 : mulOk (6007 * k) k = true := mulOk_l (by omega) (by omega)
  have m3 : mulOk 15487 k = true := mulOk_l (by decide) (by decide)
  have m4 : mulOk 1299721 k = true := mulOk_l (by decide) (by decide)
  have m5 : ∀ x : Int, mulOk x 1 = true := fun x => mulOk_r (by decide) (by decide)
  have m6 : ∀ x : Int, mulOk x 0 = true := fun x => mulOk_r (by decide) (by decide)
  have lg : Nat.log2 10 ≤ 100000 := by decide
  have fin : ∀ c : Int, ∃ l, Bag 0 l ∧ l = [.int ((if c < 0 then -c else c) * (if 1000000000000000000 ≤ (if c < 0 then -c else c) then 1 else 0)), .int (c % 1000000000000000009 + 1299721 * k), .int 0] := fun c =>
    ⟨_, ⟨_, _, _, rfl, by have := Int.emod_nonneg c (show (1000000000000000009 : Int) ≠ 0 by decide); omega, by have := Int.emod_lt_of_pos c (show (0 : Int) < 1000000000000000009 by decide); omega, by decide, by decide⟩, rfl⟩
  have hmul : ∀ c : Int, mulOk (if c < 0 then -c else c) (if 1000000000000000000 ≤ (if c < 0 then -c else c) then 1 else 0) = true := fun c => by
    generalize (if c < 0 then -c else c) = a
    by_cases h : 1000000000000000000 ≤ a
    · rw [if_pos h]; exact m5 _
    · rw [if_neg h]; exact m6 _
  by_cases hk : k < ns.length
  · obtain ⟨c, ec⟩ := atI_ints (ns := ns) h0 hk
    obtain ⟨l, B, e⟩ := fin c
    refine ⟨l, B, ?_⟩
    subst e
    have hm := hmul c
    simp [Vs.mkFn, Vs.then_, Vs.bnd, Vs.mIfS, Vs.mIf, Vs.mT, Vs.op2, Vs.op1, Vs.mSl, Vs.mVa, Vs.ret, Vs.look, Vs.view, Vs.rd, Vs.O.view, Vs.fIx, Vs.orF, Vs.fIxS, Vs.mSet, Vs.putSl, Vs.mFrz, Vs.mSetIx, Vs.mSh, Vs.mName, Vs.mRetSl, Vs.mRet, Vs.cellL, Vs.cellOf, _root_.L2.ixN, Vs.fGt, Vs.fLt, Vs.fLe, Vs.fGe, Vs.fEq, Vs.fNe, Vs.eqD, Vs.fMod, Vs.fDiv, Vs.fMul, Vs.fAdd, Vs.fSub, Vs.fPow, Vs.oI, Vs.oB, Vs.opN, Vs.views, Vs.mConsR, Vs.mCons, Vs.mkTup, Vs.mkLst, Vs.mPar, Vs.fAbs, Vs.fInt, Vs.fLen, Vs.orN, Vs.fLenS, Vs.fLenT, Vs.seqD, Vs.mCall, Vs.callF, Vs.passL, Vs.upds, Vs.wipeL, Vs.mRange1, Vs.mRange2, Vs.mItems, Vs.itD, Vs.tnm, Vs.strM, Vs.mStr, Vs.fJoin, Vs.mFor, Vs.mMeL, Vs.fAppend, Vs.mDrop, Vs.mAnd, Vs.mOr, Vs.mNot, Vs.slM, Vs.fSl, Vs.mPart, Vs.fList, Vs.fTuple, Vs.fStr, Vs.mTru, Vs.truD, Vs.fMax, Vs.fMin, Vs.fNotIn, Vs.fIn, Vs.fInS, Vs.oS, F__law_bag, m__law_bag, m1, m2, m3, m4, lg, hk, ec, hm]
  · obtain ⟨l, B, e⟩ := fin (6007 * k * k + 15487 * k + 13)
    refine ⟨l, B, ?_⟩
    subst e
    have hm := hmul (6007 * k * k + 15487 * k + 13)
    simp [Vs.mkFn, Vs.then_, Vs.bnd, Vs.mIfS, Vs.mIf, Vs.mT, Vs.op2, Vs.op1, Vs.mSl, Vs.mVa, Vs.ret, Vs.look, Vs.view, Vs.rd, Vs.O.view, Vs.fIx, Vs.orF, Vs.fIxS, Vs.mSet, Vs.putSl, Vs.mFrz, Vs.mSetIx, Vs.mSh, Vs.mName, Vs.mRetSl, Vs.mRet, Vs.cellL, Vs.cellOf, _root_.L2.ixN, Vs.fGt, Vs.fLt, Vs.fLe, Vs.fGe, Vs.fEq, Vs.fNe, Vs.eqD, Vs.fMod, Vs.fDiv, Vs.fMul, Vs.fAdd, Vs.fSub, Vs.fPow, Vs.oI, Vs.oB, Vs.opN, Vs.views, Vs.mConsR, Vs.mCons, Vs.mkTup, Vs.mkLst, Vs.mPar, Vs.fAbs, Vs.fInt, Vs.fLen, Vs.orN, Vs.fLenS, Vs.fLenT, Vs.seqD, Vs.mCall, Vs.callF, Vs.passL, Vs.upds, Vs.wipeL, Vs.mRange1, Vs.mRange2, Vs.mItems, Vs.itD, Vs.tnm, Vs.strM, Vs.mStr, Vs.fJoin, Vs.mFor, Vs.mMeL, Vs.fAppend, Vs.mDrop, Vs.mAnd, Vs.mOr, Vs.mNot, Vs.slM, Vs.fSl, Vs.mPart, Vs.fList, Vs.fTuple, Vs.fStr, Vs.mTru, Vs.truD, Vs.fMax, Vs.fMin, Vs.fNotIn, Vs.fIn, Vs.fInS, Vs.oS, F__law_bag, m__law_bag, m1, m2, m3, m4, lg, hk, hm]
end My
namespace My
open PySem PySem.Spec PyProof.Rows L2 Vs
theorem names_bodyP {N n : Nat} {l : List D} {taken found : List Str} {J : List O} {d : D} {x5 x6 x7 x8 : Option Vl} (B : Bag N l) (hN : N + 20 < 2 ^ 60) (hs : found.length + taken.length < 26) :
    ∃ (w : Str) (l' : List D) (J' : List O) (x6' x7' : Option Vl), Word w ∧ w ∉ found ∧ w ∉ taken ∧ Bag (N + 10) l' ∧
      m__law_unlike_names_b3 ⟨[some (.pt 0), some (.sh (.int n)), some (.pt 1), some (.pt 2), some (.sh d), x5, x6, x7, x8], .ol l :: .ol (taken.map .str) :: .ol (found.map .str) :: J, []⟩ =
        some (.ok .nx ⟨[some (.pt 0), some (.sh (.int n)), some (.pt 1), some (.pt 2), some (.sh d), some (.sh (.str w)), x6', x7', x8], .ol l' :: .ol (taken.map .str) :: .ol ((found ++ [w]).map .str) :: J', []⟩) := by
  obtain ⟨w, l1, W, B1, e1⟩ := name_ok B hN
  have hin := in_strs w (found ++ taken)
  rw [List.map_append] at hin
  have hlen : found.length + taken.length ≤ 1000000 := by omega
  have hf : found.length < 1000000 := by omega
  have hwl := word_len W
  have hal : abc.length ≤ 1000000 := abc_len
  by_cases hu : w ∈ found ++ taken
  · rw [decide_eq_true hu] at hin
    obtain ⟨x, r, ef, hx, hnu⟩ := fresh_alt w (found ++ taken) (by simp [Vs.mkFn, Vs.then_, Vs.bnd, Vs.mIfS, Vs.mIf, Vs.mT, Vs.op2, Vs.op1, Vs.mSl, Vs.mVa, Vs.ret, Vs.look, Vs.view, Vs.rd, Vs.O.view, Vs.fIx, Vs.orF, Vs.fIxS, Vs.mSet, Vs.putSl, Vs.mFrz, Vs.mSetIx, Vs.mSh, Vs.mName, Vs.mRetSl, Vs.mRet, Vs.cellL, Vs.cellOf, _root_.L2.ixN, Vs.fGt, Vs.fLt, Vs.fLe, Vs.fGe, Vs.fEq, Vs.fNe, Vs.eqD, Vs.fMod, Vs.fDiv, Vs.fMul, Vs.fAdd, Vs.fSub, Vs.fPow, Vs.oI, Vs.oB, Vs.opN, Vs.views, Vs.mConsR, Vs.mCons, Vs.mkTup, Vs.mkLst, Vs.mPar, Vs.fAbs, Vs.fInt, Vs.fLen, Vs.orN, Vs.fLenS, Vs.fLenT, Vs.seqD, Vs.mCall, Vs.callF, Vs.passL, Vs.upds, Vs.wipeL, Vs.mRange1, Vs.mRange2, Vs.mItems, Vs.itD, Vs.tnm, Vs.strM, Vs.mStr, Vs.fJoin, Vs.mFor, Vs.mMeL, Vs.fAppend, Vs.mDrop, Vs.mAnd, Vs.mOr, Vs.mNot, Vs.slM, Vs.fSl, Vs.mPart, Vs.fList, Vs.fTuple, Vs.fStr, Vs.mTru, Vs.truD, Vs.fMax, Vs.fMin, Vs.fNotIn, Vs.fIn, Vs.fInS, Vs.oS]; omega)
    have hnu' : x ∉ found ∧ x ∉ taken := by simpa using hnu
    have ht : (cutS w (some 1) (some 7)).length ≤ 8 := Nat.le_trans (cutS_length w _ _) W.2.2
    have ht1 : 1 + (cutS w (some 1) (some 7)).length ≤ 1000000 := by omega
    have ht3 : 2 + (cutS w (some 1) (some 7)).length ≤ 1000000 := by omega
    have ht2 : 1 + 1 + (cutS w (some 1) (some 7)).length ≤ 1000000 := by omega
    have L1 : ∀ c : Nat, (⟨#[c]⟩ : Str).length = 1 := fun _ => rfl
    have L2 : ∀ c : Nat, ((⟨#[c]⟩ : Str) ++ "x").length = 2 := fun _ => rfl
    have Lx : (Str.ofString "x").length = 1 := rfl
    have la : abc.cps.toList.length = 26 := abc_chars.1
    have c0 : m__law_unlike_names_c0 ⟨[some (.pt 0), some (.sh (.int n)), some (.pt 1), some (.pt 2), some (.sh d), some (.sh (.str w)), some (.pt (J.length + 3)), x7, x8], .ol l1 :: .ol (taken.map .str) :: .ol (found.map .str) :: (J ++ [.ol (found.map .str ++ taken.map .str)]), []⟩ = some (.ok (.ol ((alts w).map .str)) ⟨[some (.pt 0), some (.sh (.int n)), some (.pt 1), some (.pt 2), some (.sh d), some (.sh (.str w)), some (.pt (J.length + 3)), x7, x8], .ol l1 :: .ol (taken.map .str) :: .ol (found.map .str) :: (J ++ [.ol (found.map .str ++ taken.map .str)]), []⟩) := by
      have e := mComp_pure (i := 8) (mi := mItems (Vs.ret (.str abc))) (mc := Vs.ret true) (me := (mFrz (op2 fAdd (mSl 8) (mVa (mFrz (slM fSl (mSl 5) (mPart (ret (.int 1))) (mPart (ret (.int 7))))))))) (p := fun _ => true) (f := fun d => match d with
        | .str c => .str (c ++ cutS w (some 1) (some 7))
        | d => d) (s := ⟨[some (.pt 0), some (.sh (.int n)), some (.pt 1), some (.pt 2), some (.sh d), some (.sh (.str w)), some (.pt (J.length + 3)), x7, x8], .ol l1 :: .ol (taken.map .str) :: .ol (found.map .str) :: (J ++ [.ol (found.map .str ++ taken.map .str)]), []⟩) (s1 := ⟨[some (.pt 0), some (.sh (.int n)), some (.pt 1), some (.pt 2), some (.sh d), some (.sh (.str w)), some (.pt (J.length + 3)), x7, x8], .ol l1 :: .ol (taken.map .str) :: .ol (found.map .str) :: (J ++ [.ol (found.map .str ++ taken.map .str)]), []⟩) (ds := abc.cps.toList.map fun c => .str ⟨#[c]⟩) rfl (by rw [List.length_map, la]; decide) (fun d _ => rfl) (fun d hd _ => by
        obtain ⟨c, _, rfl⟩ := List.mem_map.mp hd
        simp [Vs.mkFn, Vs.then_, Vs.bnd, Vs.mIfS, Vs.mIf, Vs.mT, Vs.op2, Vs.op1, Vs.mSl, Vs.mVa, Vs.ret, Vs.look, Vs.view, Vs.rd, Vs.O.view, Vs.fIx, Vs.orF, Vs.fIxS, Vs.mSet, Vs.putSl, Vs.mFrz, Vs.mSetIx, Vs.mSh, Vs.mName, Vs.mRetSl, Vs.mRet, Vs.cellL, Vs.cellOf, _root_.L2.ixN, Vs.fGt, Vs.fLt, Vs.fLe, Vs.fGe, Vs.fEq, Vs.fNe, Vs.eqD, Vs.fMod, Vs.fDiv, Vs.fMul, Vs.fAdd, Vs.fSub, Vs.fPow, Vs.oI, Vs.oB, Vs.opN, Vs.views, Vs.mConsR, Vs.mCons, Vs.mkTup, Vs.mkLst, Vs.mPar, Vs.fAbs, Vs.fInt, Vs.fLen, Vs.orN, Vs.fLenS, Vs.fLenT, Vs.seqD, Vs.mCall, Vs.callF, Vs.passL, Vs.upds, Vs.wipeL, Vs.mRange1, Vs.mRange2, Vs.mItems, Vs.itD, Vs.tnm, Vs.strM, Vs.mStr, Vs.fJoin, Vs.mFor, Vs.mMeL, Vs.fAppend, Vs.mDrop, Vs.mAnd, Vs.mOr, Vs.mNot, Vs.slM, Vs.fSl, Vs.mPart, Vs.fList, Vs.fTuple, Vs.fStr, Vs.mTru, Vs.truD, Vs.fMax, Vs.fMin, Vs.fNotIn, Vs.fIn, Vs.fInS, Vs.oS, hwl, L1, ht1])
      have z : ((abc.cps.toList.map fun c => (D.str ⟨#[c]⟩ : D)).filter fun _ => true).map (fun d => match d with
        | .str c => D.str (c ++ cutS w (some 1) (some 7))
        | d => d) = (alts w).map D.str := by
        rw [List.filter_eq_self.mpr (fun _ _ => rfl), alts, List.map_map, List.map_map]; rfl
      rw [z] at e
      exact e
    have c1 : m__law_unlike_names_c1 ⟨[some (.pt 0), some (.sh (.int n)), some (.pt 1), some (.pt 2), some (.sh d), some (.sh (.str w)), some (.pt (J.length + 3)), some (.pt (J.length + 4)), x8], .ol l1 :: .ol (taken.map .str) :: .ol (found.map .str) :: (J ++ [.ol (found.map .str ++ taken.map .str), .ol ((alts w).map .str)]), []⟩ = some (.ok (.ol ((altx w).map .str)) ⟨[some (.pt 0), some (.sh (.int n)), some (.pt 1), some (.pt 2), some (.sh d), some (.sh (.str w)), some (.pt (J.length + 3)), some (.pt (J.length + 4)), x8], .ol l1 :: .ol (taken.map .str) :: .ol (found.map .str) :: (J ++ [.ol (found.map .str ++ taken.map .str), .ol ((alts w).map .str)]), []⟩) := by
      have e := mComp_pure (i := 8) (mi := mItems (Vs.ret (.str abc))) (mc := Vs.ret true) (me := (mFrz (op2 fAdd (mVa (mFrz (op2 fAdd (mSl 8) (mVa (ret (.str "x")))))) (mVa (mFrz (slM fSl (mSl 5) (mPart (ret (.int 1))) (mPart (ret (.int 7))))))))) (p := fun _ => true) (f := fun d => match d with
        | .str c => .str (c ++ "x" ++ cutS w (some 1) (some 7))
        | d => d) (s := ⟨[some (.pt 0), some (.sh (.int n)), some (.pt 1), some (.pt 2), some (.sh d), some (.sh (.str w)), some (.pt (J.length + 3)), some (.pt (J.length + 4)), x8], .ol l1 :: .ol (taken.map .str) :: .ol (found.map .str) :: (J ++ [.ol (found.map .str ++ taken.map .str), .ol ((alts w).map .str)]), []⟩) (s1 := ⟨[some (.pt 0), some (.sh (.int n)), some (.pt 1), some (.pt 2), some (.sh d), some (.sh (.str w)), some (.pt (J.length + 3)), some (.pt (J.length + 4)), x8], .ol l1 :: .ol (taken.map .str) :: .ol (found.map .str) :: (J ++ [.ol (found.map .str ++ taken.map .str), .ol ((alts w).map .str)]), []⟩) (ds := abc.cps.toList.map fun c => .str ⟨#[c]⟩) rfl (by rw [List.length_map, la]; decide) (fun d _ => rfl) (fun d hd _ => by
        obtain ⟨c, _, rfl⟩ := List.mem_map.mp hd
        simp [Vs.mkFn, Vs.then_, Vs.bnd, Vs.mIfS, Vs.mIf, Vs.mT, Vs.op2, Vs.op1, Vs.mSl, Vs.mVa, Vs.ret, Vs.look, Vs.view, Vs.rd, Vs.O.view, Vs.fIx, Vs.orF, Vs.fIxS, Vs.mSet, Vs.putSl, Vs.mFrz, Vs.mSetIx, Vs.mSh, Vs.mName, Vs.mRetSl, Vs.mRet, Vs.cellL, Vs.cellOf, _root_.L2.ixN, Vs.fGt, Vs.fLt, Vs.fLe, Vs.fGe, Vs.fEq, Vs.fNe, Vs.eqD, Vs.fMod, Vs.fDiv, Vs.fMul, Vs.fAdd, Vs.fSub, Vs.fPow, Vs.oI, Vs.oB, Vs.opN, Vs.views, Vs.mConsR, Vs.mCons, Vs.mkTup, Vs.mkLst, Vs.mPar, Vs.fAbs, Vs.fInt, Vs.fLen, Vs.orN, Vs.fLenS, Vs.fLenT, Vs.seqD, Vs.mCall, Vs.callF, Vs.passL, Vs.upds, Vs.wipeL, Vs.mRange1, Vs.mRange2, Vs.mItems, Vs.itD, Vs.tnm, Vs.strM, Vs.mStr, Vs.fJoin, Vs.mFor, Vs.mMeL, Vs.fAppend, Vs.mDrop, Vs.mAnd, Vs.mOr, Vs.mNot, Vs.slM, Vs.fSl, Vs.mPart, Vs.fList, Vs.fTuple, Vs.fStr, Vs.mTru, Vs.truD, Vs.fMax, Vs.fMin, Vs.fNotIn, Vs.fIn, Vs.fInS, Vs.oS, hwl, L1, Lx, L2, ht3])
      have z : ((abc.cps.toList.map fun c => (D.str ⟨#[c]⟩ : D)).filter fun _ => true).map (fun d => match d with
        | .str c => D.str (c ++ "x" ++ cutS w (some 1) (some 7))
        | d => d) = (altx w).map D.str := by
        rw [List.filter_eq_self.mpr (fun _ _ => rfl), altx, List.map_map, List.map_map]; rfl
      rw [z] at e
      exact e
    have hmem : ∀ y : Str, inS (.str y) (found.map .str ++ taken.map .str) = some (decide (y ∈ found ++ taken)) := fun y => by
      have := in_strs y (found ++ taken)
      rw [List.map_append] at this
      exact this
    have c2 : m__law_unlike_names_c2 ⟨[some (.pt 0), some (.sh (.int n)), some (.pt 1), some (.pt 2), some (.sh d), some (.sh (.str w)), some (.pt (J.length + 3)), some (.pt (J.length + 5)), x8], .ol l1 :: .ol (taken.map .str) :: .ol (found.map .str) :: (J ++ [.ol (found.map .str ++ taken.map .str), .ol ((alts w).map .str), .ol ((alts w).map .str ++ (altx w).map .str)]), []⟩ = some (.ok (.ol (.str x :: r.map .str)) ⟨[some (.pt 0), some (.sh (.int n)), some (.pt 1), some (.pt 2), some (.sh d), some (.sh (.str w)), some (.pt (J.length + 3)), some (.pt (J.length + 5)), x8], .ol l1 :: .ol (taken.map .str) :: .ol (found.map .str) :: (J ++ [.ol (found.map .str ++ taken.map .str), .ol ((alts w).map .str), .sh (.lst ((alts w).map .str ++ (altx w).map .str))]), []⟩) := by
      have e := mComp_pure (i := 8) (mi := mItems (mName 7)) (mc := mT (op2 fNotIn (mSl 8) (mSl 6))) (me := mName 8) (p := fun d => match d with
        | .str y => !decide (y ∈ found ++ taken)
        | _ => false) (f := fun d => d) (s := ⟨[some (.pt 0), some (.sh (.int n)), some (.pt 1), some (.pt 2), some (.sh d), some (.sh (.str w)), some (.pt (J.length + 3)), some (.pt (J.length + 5)), x8], .ol l1 :: .ol (taken.map .str) :: .ol (found.map .str) :: (J ++ [.ol (found.map .str ++ taken.map .str), .ol ((alts w).map .str), .ol ((alts w).map .str ++ (altx w).map .str)]), []⟩) (s1 := ⟨[some (.pt 0), some (.sh (.int n)), some (.pt 1), some (.pt 2), some (.sh d), some (.sh (.str w)), some (.pt (J.length + 3)), some (.pt (J.length + 5)), x8], .ol l1 :: .ol (taken.map .str) :: .ol (found.map .str) :: (J ++ [.ol (found.map .str ++ taken.map .str), .ol ((alts w).map .str), .sh (.lst ((alts w).map .str ++ (altx w).map .str))]), []⟩) (ds := (alts w).map .str ++ (altx w).map .str) (by simp [Vs.mkFn, Vs.then_, Vs.bnd, Vs.mIfS, Vs.mIf, Vs.mT, Vs.op2, Vs.op1, Vs.mSl, Vs.mVa, Vs.ret, Vs.look, Vs.view, Vs.rd, Vs.O.view, Vs.fIx, Vs.orF, Vs.fIxS, Vs.mSet, Vs.putSl, Vs.mFrz, Vs.mSetIx, Vs.mSh, Vs.mName, Vs.mRetSl, Vs.mRet, Vs.cellL, Vs.cellOf, _root_.L2.ixN, Vs.fGt, Vs.fLt, Vs.fLe, Vs.fGe, Vs.fEq, Vs.fNe, Vs.eqD, Vs.fMod, Vs.fDiv, Vs.fMul, Vs.fAdd, Vs.fSub, Vs.fPow, Vs.oI, Vs.oB, Vs.opN, Vs.views, Vs.mConsR, Vs.mCons, Vs.mkTup, Vs.mkLst, Vs.mPar, Vs.fAbs, Vs.fInt, Vs.fLen, Vs.orN, Vs.fLenS, Vs.fLenT, Vs.seqD, Vs.mCall, Vs.callF, Vs.passL, Vs.upds, Vs.wipeL, Vs.mRange1, Vs.mRange2, Vs.mItems, Vs.itD, Vs.tnm, Vs.strM, Vs.mStr, Vs.fJoin, Vs.mFor, Vs.mMeL, Vs.fAppend, Vs.mDrop, Vs.mAnd, Vs.mOr, Vs.mNot, Vs.slM, Vs.fSl, Vs.mPart, Vs.fList, Vs.fTuple, Vs.fStr, Vs.mTru, Vs.truD, Vs.fMax, Vs.fMin, Vs.fNotIn, Vs.fIn, Vs.fInS, Vs.oS]) (by simp [Vs.mkFn, Vs.then_, Vs.bnd, Vs.mIfS, Vs.mIf, Vs.mT, Vs.op2, Vs.op1, Vs.mSl, Vs.mVa, Vs.ret, Vs.look, Vs.view, Vs.rd, Vs.O.view, Vs.fIx, Vs.orF, Vs.fIxS, Vs.mSet, Vs.putSl, Vs.mFrz, Vs.mSetIx, Vs.mSh, Vs.mName, Vs.mRetSl, Vs.mRet, Vs.cellL, Vs.cellOf, _root_.L2.ixN, Vs.fGt, Vs.fLt, Vs.fLe, Vs.fGe, Vs.fEq, Vs.fNe, Vs.eqD, Vs.fMod, Vs.fDiv, Vs.fMul, Vs.fAdd, Vs.fSub, Vs.fPow, Vs.oI, Vs.oB, Vs.opN, Vs.views, Vs.mConsR, Vs.mCons, Vs.mkTup, Vs.mkLst, Vs.mPar, Vs.fAbs, Vs.fInt, Vs.fLen, Vs.orN, Vs.fLenS, Vs.fLenT, Vs.seqD, Vs.mCall, Vs.callF, Vs.passL, Vs.upds, Vs.wipeL, Vs.mRange1, Vs.mRange2, Vs.mItems, Vs.itD, Vs.tnm, Vs.strM, Vs.mStr, Vs.fJoin, Vs.mFor, Vs.mMeL, Vs.fAppend, Vs.mDrop, Vs.mAnd, Vs.mOr, Vs.mNot, Vs.slM, Vs.fSl, Vs.mPart, Vs.fList, Vs.fTuple, Vs.fStr, Vs.mTru, Vs.truD, Vs.fMax, Vs.fMin, Vs.fNotIn, Vs.fIn, Vs.fInS, Vs.oS, alts, altx, la]) (fun d hd => by
        have hd : ∃ y, D.str y = d := by
          rcases List.mem_append.mp hd with hd | hd <;> (obtain ⟨y, _, z⟩ := List.mem_map.mp hd; exact ⟨y, z⟩)
        obtain ⟨y, rfl⟩ := hd
        have := hmem y
        simp [Vs.mkFn, Vs.then_, Vs.bnd, Vs.mIfS, Vs.mIf, Vs.mT, Vs.op2, Vs.op1, Vs.mSl, Vs.mVa, Vs.ret, Vs.look, Vs.view, Vs.rd, Vs.O.view, Vs.fIx, Vs.orF, Vs.fIxS, Vs.mSet, Vs.putSl, Vs.mFrz, Vs.mSetIx, Vs.mSh, Vs.mName, Vs.mRetSl, Vs.mRet, Vs.cellL, Vs.cellOf, _root_.L2.ixN, Vs.fGt, Vs.fLt, Vs.fLe, Vs.fGe, Vs.fEq, Vs.fNe, Vs.eqD, Vs.fMod, Vs.fDiv, Vs.fMul, Vs.fAdd, Vs.fSub, Vs.fPow, Vs.oI, Vs.oB, Vs.opN, Vs.views, Vs.mConsR, Vs.mCons, Vs.mkTup, Vs.mkLst, Vs.mPar, Vs.fAbs, Vs.fInt, Vs.fLen, Vs.orN, Vs.fLenS, Vs.fLenT, Vs.seqD, Vs.mCall, Vs.callF, Vs.passL, Vs.upds, Vs.wipeL, Vs.mRange1, Vs.mRange2, Vs.mItems, Vs.itD, Vs.tnm, Vs.strM, Vs.mStr, Vs.fJoin, Vs.mFor, Vs.mMeL, Vs.fAppend, Vs.mDrop, Vs.mAnd, Vs.mOr, Vs.mNot, Vs.slM, Vs.fSl, Vs.mPart, Vs.fList, Vs.fTuple, Vs.fStr, Vs.mTru, Vs.truD, Vs.fMax, Vs.fMin, Vs.fNotIn, Vs.fIn, Vs.fInS, Vs.oS, this]) (fun d hd _ => by simp [Vs.mkFn, Vs.then_, Vs.bnd, Vs.mIfS, Vs.mIf, Vs.mT, Vs.op2, Vs.op1, Vs.mSl, Vs.mVa, Vs.ret, Vs.look, Vs.view, Vs.rd, Vs.O.view, Vs.fIx, Vs.orF, Vs.fIxS, Vs.mSet, Vs.putSl, Vs.mFrz, Vs.mSetIx, Vs.mSh, Vs.mName, Vs.mRetSl, Vs.mRet, Vs.cellL, Vs.cellOf, _root_.L2.ixN, Vs.fGt, Vs.fLt, Vs.fLe, Vs.fGe, Vs.fEq, Vs.fNe, Vs.eqD, Vs.fMod, Vs.fDiv, Vs.fMul, Vs.fAdd, Vs.fSub, Vs.fPow, Vs.oI, Vs.oB, Vs.opN, Vs.views, Vs.mConsR, Vs.mCons, Vs.mkTup, Vs.mkLst, Vs.mPar, Vs.fAbs, Vs.fInt, Vs.fLen, Vs.orN, Vs.fLenS, Vs.fLenT, Vs.seqD, Vs.mCall, Vs.callF, Vs.passL, Vs.upds, Vs.wipeL, Vs.mRange1, Vs.mRange2, Vs.mItems, Vs.itD, Vs.tnm, Vs.strM, Vs.mStr, Vs.fJoin, Vs.mFor, Vs.mMeL, Vs.fAppend, Vs.mDrop, Vs.mAnd, Vs.mOr, Vs.mNot, Vs.slM, Vs.fSl, Vs.mPart, Vs.fList, Vs.fTuple, Vs.fStr, Vs.mTru, Vs.truD, Vs.fMax, Vs.fMin, Vs.fNotIn, Vs.fIn, Vs.fInS, Vs.oS])
      have z : (((alts w).map D.str ++ (altx w).map D.str).filter fun d => match d with
        | .str y => !decide (y ∈ found ++ taken)
        | _ => false).map (fun d => d) = D.str x :: r.map D.str := by
        rw [List.map_id', ← List.map_append, List.filter_map]
        exact congrArg (List.map D.str) ef
      rw [z] at e
      exact e
    have hal2 : (alts w).length + (altx w).length ≤ 1000000 := by simp [Vs.mkFn, Vs.then_, Vs.bnd, Vs.mIfS, Vs.mIf, Vs.mT, Vs.op2, Vs.op1, Vs.mSl, Vs.mVa, Vs.ret, Vs.look, Vs.view, Vs.rd, Vs.O.view, Vs.fIx, Vs.orF, Vs.fIxS, Vs.mSet, Vs.putSl, Vs.mFrz, Vs.mSetIx, Vs.mSh, Vs.mName, Vs.mRetSl, Vs.mRet, Vs.cellL, Vs.cellOf, _root_.L2.ixN, Vs.fGt, Vs.fLt, Vs.fLe, Vs.fGe, Vs.fEq, Vs.fNe, Vs.eqD, Vs.fMod, Vs.fDiv, Vs.fMul, Vs.fAdd, Vs.fSub, Vs.fPow, Vs.oI, Vs.oB, Vs.opN, Vs.views, Vs.mConsR, Vs.mCons, Vs.mkTup, Vs.mkLst, Vs.mPar, Vs.fAbs, Vs.fInt, Vs.fLen, Vs.orN, Vs.fLenS, Vs.fLenT, Vs.seqD, Vs.mCall, Vs.callF, Vs.passL, Vs.upds, Vs.wipeL, Vs.mRange1, Vs.mRange2, Vs.mItems, Vs.itD, Vs.tnm, Vs.strM, Vs.mStr, Vs.fJoin, Vs.mFor, Vs.mMeL, Vs.fAppend, Vs.mDrop, Vs.mAnd, Vs.mOr, Vs.mNot, Vs.slM, Vs.fSl, Vs.mPart, Vs.fList, Vs.fTuple, Vs.fStr, Vs.mTru, Vs.truD, Vs.fMax, Vs.fMin, Vs.fNotIn, Vs.fIn, Vs.fInS, Vs.oS, alts, altx, la]
    refine ⟨x, l1, J ++ [.ol (found.map .str ++ taken.map .str), .ol ((alts w).map .str), .sh (.lst ((alts w).map .str ++ (altx w).map .str))], some (.pt (J.length + 3)), some (.pt (J.length + 5)), alt_word W hx, hnu'.1, hnu'.2, B1, ?_⟩
    simp [Vs.mkFn, Vs.then_, Vs.bnd, Vs.mIfS, Vs.mIf, Vs.mT, Vs.op2, Vs.op1, Vs.mSl, Vs.mVa, Vs.ret, Vs.look, Vs.view, Vs.rd, Vs.O.view, Vs.fIx, Vs.orF, Vs.fIxS, Vs.mSet, Vs.putSl, Vs.mFrz, Vs.mSetIx, Vs.mSh, Vs.mName, Vs.mRetSl, Vs.mRet, Vs.cellL, Vs.cellOf, _root_.L2.ixN, Vs.fGt, Vs.fLt, Vs.fLe, Vs.fGe, Vs.fEq, Vs.fNe, Vs.eqD, Vs.fMod, Vs.fDiv, Vs.fMul, Vs.fAdd, Vs.fSub, Vs.fPow, Vs.oI, Vs.oB, Vs.opN, Vs.views, Vs.mConsR, Vs.mCons, Vs.mkTup, Vs.mkLst, Vs.mPar, Vs.fAbs, Vs.fInt, Vs.fLen, Vs.orN, Vs.fLenS, Vs.fLenT, Vs.seqD, Vs.mCall, Vs.callF, Vs.passL, Vs.upds, Vs.wipeL, Vs.mRange1, Vs.mRange2, Vs.mItems, Vs.itD, Vs.tnm, Vs.strM, Vs.mStr, Vs.fJoin, Vs.mFor, Vs.mMeL, Vs.fAppend, Vs.mDrop, Vs.mAnd, Vs.mOr, Vs.mNot, Vs.slM, Vs.fSl, Vs.mPart, Vs.fList, Vs.fTuple, Vs.fStr, Vs.mTru, Vs.truD, Vs.fMax, Vs.fMin, Vs.fNotIn, Vs.fIn, Vs.fInS, Vs.oS, m__law_unlike_names_b3, e1, hlen, hin, c0]
    simp [Vs.mkFn, Vs.then_, Vs.bnd, Vs.mIfS, Vs.mIf, Vs.mT, Vs.op2, Vs.op1, Vs.mSl, Vs.mVa, Vs.ret, Vs.look, Vs.view, Vs.rd, Vs.O.view, Vs.fIx, Vs.orF, Vs.fIxS, Vs.mSet, Vs.putSl, Vs.mFrz, Vs.mSetIx, Vs.mSh, Vs.mName, Vs.mRetSl, Vs.mRet, Vs.cellL, Vs.cellOf, _root_.L2.ixN, Vs.fGt, Vs.fLt, Vs.fLe, Vs.fGe, Vs.fEq, Vs.fNe, Vs.eqD, Vs.fMod, Vs.fDiv, Vs.fMul, Vs.fAdd, Vs.fSub, Vs.fPow, Vs.oI, Vs.oB, Vs.opN, Vs.views, Vs.mConsR, Vs.mCons, Vs.mkTup, Vs.mkLst, Vs.mPar, Vs.fAbs, Vs.fInt, Vs.fLen, Vs.orN, Vs.fLenS, Vs.fLenT, Vs.seqD, Vs.mCall, Vs.callF, Vs.passL, Vs.upds, Vs.wipeL, Vs.mRange1, Vs.mRange2, Vs.mItems, Vs.itD, Vs.tnm, Vs.strM, Vs.mStr, Vs.fJoin, Vs.mFor, Vs.mMeL, Vs.fAppend, Vs.mDrop, Vs.mAnd, Vs.mOr, Vs.mNot, Vs.slM, Vs.fSl, Vs.mPart, Vs.fList, Vs.fTuple, Vs.fStr, Vs.mTru, Vs.truD, Vs.fMax, Vs.fMin, Vs.fNotIn, Vs.fIn, Vs.fInS, Vs.oS, c1, hal2, c2, hf]
  · rw [decide_eq_false hu] at hin
    have hu' : w ∉ found ∧ w ∉ taken := by simpa using hu
    refine ⟨w, l1, J ++ [.ol (found.map .str ++ taken.map .str)], some (.pt (J.length + 3)), x7, W, hu'.1, hu'.2, B1, ?_⟩
    simp [Vs.mkFn, Vs.then_, Vs.bnd, Vs.mIfS, Vs.mIf, Vs.mT, Vs.op2, Vs.op1, Vs.mSl, Vs.mVa, Vs.ret, Vs.look, Vs.view, Vs.rd, Vs.O.view, Vs.fIx, Vs.orF, Vs.fIxS, Vs.mSet, Vs.putSl, Vs.mFrz, Vs.mSetIx, Vs.mSh, Vs.mName, Vs.mRetSl, Vs.mRet, Vs.cellL, Vs.cellOf, _root_.L2.ixN, Vs.fGt, Vs.fLt, Vs.fLe, Vs.fGe, Vs.fEq, Vs.fNe, Vs.eqD, Vs.fMod, Vs.fDiv, Vs.fMul, Vs.fAdd, Vs.fSub, Vs.fPow, Vs.oI, Vs.oB, Vs.opN, Vs.views, Vs.mConsR, Vs.mCons, Vs.mkTup, Vs.mkLst, Vs.mPar, Vs.fAbs, Vs.fInt, Vs.fLen, Vs.orN, Vs.fLenS, Vs.fLenT, Vs.seqD, Vs.mCall, Vs.callF, Vs.passL, Vs.upds, Vs.wipeL, Vs.mRange1, Vs.mRange2, Vs.mItems, Vs.itD, Vs.tnm, Vs.strM, Vs.mStr, Vs.fJoin, Vs.mFor, Vs.mMeL, Vs.fAppend, Vs.mDrop, Vs.mAnd, Vs.mOr, Vs.mNot, Vs.slM, Vs.fSl, Vs.mPart, Vs.fList, Vs.fTuple, Vs.fStr, Vs.mTru, Vs.truD, Vs.fMax, Vs.fMin, Vs.fNotIn, Vs.fIn, Vs.fInS, Vs.oS, m__law_unlike_names_b3, e1, hlen, hin, hf]
theorem names_loopP {n : Nat} {taken : List Str} {x8 : Option Vl} : ∀ (L : List D) (found : List Str) (l : List D) (N : Nat) (J : List O) (x4 x5 x6 x7 : Option Vl), Bag N l → N + 10 * L.length + 20 < 2 ^ 60 → found.length + L.length + taken.length < 26 →
    (∀ w ∈ found, Word w ∧ w ∉ taken) → found.Nodup →
    ∃ (ws : List Str) (l' : List D) (J' : List O) (x4' x5' x6' x7' : Option Vl), ws.length = found.length + L.length ∧ (∀ w ∈ ws, Word w ∧ w ∉ taken) ∧ ws.Nodup ∧ Bag (N + 10 * L.length) l' ∧
      loopF (tnm 4) m__law_unlike_names_b3 L ⟨[some (.pt 0), some (.sh (.int n)), some (.pt 1), some (.pt 2), x4, x5, x6, x7, x8], .ol l :: .ol (taken.map .str) :: .ol (found.map .str) :: J, []⟩ =
        some (.ok .nx ⟨[some (.pt 0), some (.sh (.int n)), some (.pt 1), some (.pt 2), x4', x5', x6', x7', x8], .ol l' :: .ol (taken.map .str) :: .ol (ws.map .str) :: J', []⟩)
  | [], found, l, N, J, x4, x5, x6, x7, B, _, _, hf, nd => ⟨found, l, J, x4, x5, x6, x7, rfl, hf, nd, B, rfl⟩
  | d :: L, found, l, N, J, x4, x5, x6, x7, B, hN, hl, hf, nd => by
    simp only [List.length_cons] at hN hl
    obtain ⟨w, l1, J1, y6, y7, W, n1, n2, B1, e1⟩ := names_bodyP (n := n) (taken := taken) (found := found) (J := J) (d := d) (x5 := x5) (x6 := x6) (x7 := x7) (x8 := x8) B (by omega) (by omega)
    obtain ⟨ws, l2, J2, z4, z5, z6, z7, q1, q2, q3, q4, q5⟩ := names_loopP (n := n) (taken := taken) (x8 := x8) L (found ++ [w]) l1 (N + 10) J1 (some (.sh d)) (some (.sh (.str w))) y6 y7 B1 (by omega) (by simp [Vs.mkFn, Vs.then_, Vs.bnd, Vs.mIfS, Vs.mIf, Vs.mT, Vs.op2, Vs.op1, Vs.mSl, Vs.mVa, Vs.ret, Vs.look, Vs.view, Vs.rd, Vs.O.view, Vs.fIx, Vs.orF, Vs.fIxS, Vs.mSet, Vs.putSl, Vs.mFrz, Vs.mSetIx, Vs.mSh, Vs.mName, Vs.mRetSl, Vs.mRet, Vs.cellL, Vs.cellOf, _root_.L2.ixN, Vs.fGt, Vs.fLt, Vs.fLe, Vs.fGe, Vs.fEq, Vs.fNe, Vs.eqD, Vs.fMod, Vs.fDiv, Vs.fMul, Vs.fAdd, Vs.fSub, Vs.fPow, Vs.oI, Vs.oB, Vs.opN, Vs.views, Vs.mConsR, Vs.mCons, Vs.mkTup, Vs.mkLst, Vs.mPar, Vs.fAbs, Vs.fInt, Vs.fLen, Vs.orN, Vs.fLenS, Vs.fLenT, Vs.seqD, Vs.mCall, Vs.callF, Vs.passL, Vs.upds, Vs.wipeL, Vs.mRange1, Vs.mRange2, Vs.mItems, Vs.itD, Vs.tnm, Vs.strM, Vs.mStr, Vs.fJoin, Vs.mFor, Vs.mMeL, Vs.fAppend, Vs.mDrop, Vs.mAnd, Vs.mOr, Vs.mNot, Vs.slM, Vs.fSl, Vs.mPart, Vs.fList, Vs.fTuple, Vs.fStr, Vs.mTru, Vs.truD, Vs.fMax, Vs.fMin, Vs.fNotIn, Vs.fIn, Vs.fInS, Vs.oS]; omega)
      (fun y hy => by
        rcases List.mem_append.mp hy with hy | hy
        · exact hf y hy
        · rw [List.mem_singleton] at hy; subst hy; exact ⟨W, n2⟩)
      (by rw [List.nodup_append]; exact ⟨nd, by simp [Vs.mkFn, Vs.then_, Vs.bnd, Vs.mIfS, Vs.mIf, Vs.mT, Vs.op2, Vs.op1, Vs.mSl, Vs.mVa, Vs.ret, Vs.look, Vs.view, Vs.rd, Vs.O.view, Vs.fIx, Vs.orF, Vs.fIxS, Vs.mSet, Vs.putSl, Vs.mFrz, Vs.mSetIx, Vs.mSh, Vs.mName, Vs.mRetSl, Vs.mRet, Vs.cellL, Vs.cellOf, _root_.L2.ixN, Vs.fGt, Vs.fLt, Vs.fLe, Vs.fGe, Vs.fEq, Vs.fNe, Vs.eqD, Vs.fMod, Vs.fDiv, Vs.fMul, Vs.fAdd, Vs.fSub, Vs.fPow, Vs.oI, Vs.oB, Vs.opN, Vs.views, Vs.mConsR, Vs.mCons, Vs.mkTup, Vs.mkLst, Vs.mPar, Vs.fAbs, Vs.fInt, Vs.fLen, Vs.orN, Vs.fLenS, Vs.fLenT, Vs.seqD, Vs.mCall, Vs.callF, Vs.passL, Vs.upds, Vs.wipeL, Vs.mRange1, Vs.mRange2, Vs.mItems, Vs.itD, Vs.tnm, Vs.strM, Vs.mStr, Vs.fJoin, Vs.mFor, Vs.mMeL, Vs.fAppend, Vs.mDrop, Vs.mAnd, Vs.mOr, Vs.mNot, Vs.slM, Vs.fSl, Vs.mPart, Vs.fList, Vs.fTuple, Vs.fStr, Vs.mTru, Vs.truD, Vs.fMax, Vs.fMin, Vs.fNotIn, Vs.fIn, Vs.fInS, Vs.oS], fun a ha b hb => by rw [List.mem_singleton] at hb; subst hb; exact fun z => n1 (z ▸ ha)⟩)
    refine ⟨ws, l2, J2, z4, z5, z6, z7, by rw [q1]; simp [Vs.mkFn, Vs.then_, Vs.bnd, Vs.mIfS, Vs.mIf, Vs.mT, Vs.op2, Vs.op1, Vs.mSl, Vs.mVa, Vs.ret, Vs.look, Vs.view, Vs.rd, Vs.O.view, Vs.fIx, Vs.orF, Vs.fIxS, Vs.mSet, Vs.putSl, Vs.mFrz, Vs.mSetIx, Vs.mSh, Vs.mName, Vs.mRetSl, Vs.mRet, Vs.cellL, Vs.cellOf, _root_.L2.ixN, Vs.fGt, Vs.fLt, Vs.fLe, Vs.fGe, Vs.fEq, Vs.fNe, Vs.eqD, Vs.fMod, Vs.fDiv, Vs.fMul, Vs.fAdd, Vs.fSub, Vs.fPow, Vs.oI, Vs.oB, Vs.opN, Vs.views, Vs.mConsR, Vs.mCons, Vs.mkTup, Vs.mkLst, Vs.mPar, Vs.fAbs, Vs.fInt, Vs.fLen, Vs.orN, Vs.fLenS, Vs.fLenT, Vs.seqD, Vs.mCall, Vs.callF, Vs.passL, Vs.upds, Vs.wipeL, Vs.mRange1, Vs.mRange2, Vs.mItems, Vs.itD, Vs.tnm, Vs.strM, Vs.mStr, Vs.fJoin, Vs.mFor, Vs.mMeL, Vs.fAppend, Vs.mDrop, Vs.mAnd, Vs.mOr, Vs.mNot, Vs.slM, Vs.fSl, Vs.mPart, Vs.fList, Vs.fTuple, Vs.fStr, Vs.mTru, Vs.truD, Vs.fMax, Vs.fMin, Vs.fNotIn, Vs.fIn, Vs.fInS, Vs.oS]; omega, q2, q3, by rw [List.length_cons, show N + 10 * (L.length + 1) = N + 10 + 10 * L.length by omega]; exact q4, ?_⟩
    unfold loopF
    simp only [tnm, List.set_cons_succ, List.set_cons_zero]
    rw [e1]
    exact q5
theorem names_finP {k : Int} {l l2 : List D} {t : O} {L ws : List D} {J2 : List O} {z4 z5 z6 z7 : Option Vl} (r1 : mRange1 (mCons (mName 1) (Vs.ret [])) ⟨[some (.pt 0), some (.sh (.int k)), some (.pt 1), some (.pt 2), none, none, none, none, none], [.ol l, t, .ol []], []⟩ = some (.ok L ⟨[some (.pt 0), some (.sh (.int k)), some (.pt 1), some (.pt 2), none, none, none, none, none], [.ol l, t, .ol []], []⟩))
    (q : loopF (tnm 4) m__law_unlike_names_b3 L ⟨[some (.pt 0), some (.sh (.int k)), some (.pt 1), some (.pt 2), none, none, none, none, none], [.ol l, t, .ol []], []⟩ = some (.ok .nx ⟨[some (.pt 0), some (.sh (.int k)), some (.pt 1), some (.pt 2), z4, z5, z6, z7, none], .ol l2 :: t :: .ol ws :: J2, []⟩)) :
    F__law_unlike_names [.pt 0, .sh (.int k), .pt 1] [.ol l, t] [] = some (.ok (.ol ws) [.ol l2, t] []) := by
  have e : m__law_unlike_names_l3 ⟨[some (.pt 0), some (.sh (.int k)), some (.pt 1), some (.pt 2), none, none, none, none, none], [.ol l, t, .ol []], []⟩ = _ := (for_ok r1).trans q
  simp [Vs.mkFn, Vs.then_, Vs.bnd, Vs.mIfS, Vs.mIf, Vs.mT, Vs.op2, Vs.op1, Vs.mSl, Vs.mVa, Vs.ret, Vs.look, Vs.view, Vs.rd, Vs.O.view, Vs.fIx, Vs.orF, Vs.fIxS, Vs.mSet, Vs.putSl, Vs.mFrz, Vs.mSetIx, Vs.mSh, Vs.mName, Vs.mRetSl, Vs.mRet, Vs.cellL, Vs.cellOf, _root_.L2.ixN, Vs.fGt, Vs.fLt, Vs.fLe, Vs.fGe, Vs.fEq, Vs.fNe, Vs.eqD, Vs.fMod, Vs.fDiv, Vs.fMul, Vs.fAdd, Vs.fSub, Vs.fPow, Vs.oI, Vs.oB, Vs.opN, Vs.views, Vs.mConsR, Vs.mCons, Vs.mkTup, Vs.mkLst, Vs.mPar, Vs.fAbs, Vs.fInt, Vs.fLen, Vs.orN, Vs.fLenS, Vs.fLenT, Vs.seqD, Vs.mCall, Vs.callF, Vs.passL, Vs.upds, Vs.wipeL, Vs.mRange1, Vs.mRange2, Vs.mItems, Vs.itD, Vs.tnm, Vs.strM, Vs.mStr, Vs.fJoin, Vs.mFor, Vs.mMeL, Vs.fAppend, Vs.mDrop, Vs.mAnd, Vs.mOr, Vs.mNot, Vs.slM, Vs.fSl, Vs.mPart, Vs.fList, Vs.fTuple, Vs.fStr, Vs.mTru, Vs.truD, Vs.fMax, Vs.fMin, Vs.fNotIn, Vs.fIn, Vs.fInS, Vs.oS, F__law_unlike_names, m__law_unlike_names, e]
theorem names_okP {N n : Nat} {l : List D} {taken : List Str} (B : Bag N l) (hN : N + 10 * n + 20 < 2 ^ 60) (hs : n + taken.length < 26) :
    ∃ (ws : List Str) (l' : List D), ws.length = n ∧ (∀ w ∈ ws, Word w ∧ w ∉ taken) ∧ ws.Nodup ∧ Bag (N + 10 * n) l' ∧
      F__law_unlike_names [.pt 0, .sh (.int n), .pt 1] [.ol l, .ol (taken.map .str)] [] = some (.ok (.ol (ws.map .str)) [.ol l', .ol (taken.map .str)] []) := by
  have hk : (rgL 0 n).length = n := by unfold rgL; simp [Vs.mkFn, Vs.then_, Vs.bnd, Vs.mIfS, Vs.mIf, Vs.mT, Vs.op2, Vs.op1, Vs.mSl, Vs.mVa, Vs.ret, Vs.look, Vs.view, Vs.rd, Vs.O.view, Vs.fIx, Vs.orF, Vs.fIxS, Vs.mSet, Vs.putSl, Vs.mFrz, Vs.mSetIx, Vs.mSh, Vs.mName, Vs.mRetSl, Vs.mRet, Vs.cellL, Vs.cellOf, _root_.L2.ixN, Vs.fGt, Vs.fLt, Vs.fLe, Vs.fGe, Vs.fEq, Vs.fNe, Vs.eqD, Vs.fMod, Vs.fDiv, Vs.fMul, Vs.fAdd, Vs.fSub, Vs.fPow, Vs.oI, Vs.oB, Vs.opN, Vs.views, Vs.mConsR, Vs.mCons, Vs.mkTup, Vs.mkLst, Vs.mPar, Vs.fAbs, Vs.fInt, Vs.fLen, Vs.orN, Vs.fLenS, Vs.fLenT, Vs.seqD, Vs.mCall, Vs.callF, Vs.passL, Vs.upds, Vs.wipeL, Vs.mRange1, Vs.mRange2, Vs.mItems, Vs.itD, Vs.tnm, Vs.strM, Vs.mStr, Vs.fJoin, Vs.mFor, Vs.mMeL, Vs.fAppend, Vs.mDrop, Vs.mAnd, Vs.mOr, Vs.mNot, Vs.slM, Vs.fSl, Vs.mPart, Vs.fList, Vs.fTuple, Vs.fStr, Vs.mTru, Vs.truD, Vs.fMax, Vs.fMin, Vs.fNotIn, Vs.fIn, Vs.fInS, Vs.oS]
  obtain ⟨ws, l2, J2, z4, z5, z6, z7, q1, q2, q3, q4, q5⟩ := names_loopP (n := n) (taken := taken) (x8 := none) (rgL 0 n) [] l N [] none none none none B (hk.symm ▸ hN) (by rw [hk]; show 0 + n + taken.length < 26; omega) (fun w hw => by cases hw) List.nodup_nil
  have q1' : ws.length = n := by rw [q1, hk]; exact Nat.zero_add n
  have q4' : Bag (N + 10 * n) l2 := hk ▸ q4
  refine ⟨ws, l2, q1', q2, q3, q4', ?_⟩
  have hsm : small62 (n : Int) = true := small_of (by omega) (by omega)
  have r1 := range1_slot (i := 1) (k := (n : Int)) (s := ⟨[some (.pt 0), some (.sh (.int n)), some (.pt 1), some (.pt 2), none, none, none, none, none], [.ol l, .ol (taken.map .str), .ol []], []⟩) rfl hsm
  rw [Int.toNat_natCast] at r1
  exact names_finP r1 q5
end My
namespace My
open PySem PySem.Spec PyProof.Rows L2 Vs
theorem strI_list (n : Nat) : (strI (n : Int)).cps.toList = (Nat.toDigits 10 n).map Char.toNat := by
  show (Str.ofString (toString (n : Int))).cps.toList = _
  have e : toString (n : Int) = String.ofList (Nat.toDigits 10 n) := by
    show Int.repr (Int.ofNat n) = _
    show Nat.repr n = _
    exact Nat.repr_eq_ofList_toDigits
  rw [e, Str.ofString_eq_toList]
  simp [Vs.mkFn, Vs.then_, Vs.bnd, Vs.mIfS, Vs.mIf, Vs.mT, Vs.op2, Vs.op1, Vs.mSl, Vs.mVa, Vs.ret, Vs.look, Vs.view, Vs.rd, Vs.O.view, Vs.fIx, Vs.orF, Vs.fIxS, Vs.mSet, Vs.putSl, Vs.mFrz, Vs.mSetIx, Vs.mSh, Vs.mName, Vs.mRetSl, Vs.mRet, Vs.cellL, Vs.cellOf, _root_.L2.ixN, Vs.fGt, Vs.fLt, Vs.fLe, Vs.fGe, Vs.fEq, Vs.fNe, Vs.eqD, Vs.fMod, Vs.fDiv, Vs.fMul, Vs.fAdd, Vs.fSub, Vs.fPow, Vs.oI, Vs.oB, Vs.opN, Vs.views, Vs.mConsR, Vs.mCons, Vs.mkTup, Vs.mkLst, Vs.mPar, Vs.fAbs, Vs.fInt, Vs.fLen, Vs.orN, Vs.fLenS, Vs.fLenT, Vs.seqD, Vs.mCall, Vs.callF, Vs.passL, Vs.upds, Vs.wipeL, Vs.mRange1, Vs.mRange2, Vs.mItems, Vs.itD, Vs.tnm, Vs.strM, Vs.mStr, Vs.fJoin, Vs.mFor, Vs.mMeL, Vs.fAppend, Vs.mDrop, Vs.mAnd, Vs.mOr, Vs.mNot, Vs.slM, Vs.fSl, Vs.mPart, Vs.fList, Vs.fTuple, Vs.fStr, Vs.mTru, Vs.truD, Vs.fMax, Vs.fMin, Vs.fNotIn, Vs.fIn, Vs.fInS, Vs.oS]
theorem digit_nat {c : Char} (h : c.isDigit = true) : 48 ≤ c.toNat ∧ c.toNat ≤ 57 := by
  unfold Char.isDigit at h
  simp [Vs.mkFn, Vs.then_, Vs.bnd, Vs.mIfS, Vs.mIf, Vs.mT, Vs.op2, Vs.op1, Vs.mSl, Vs.mVa, Vs.ret, Vs.look, Vs.view, Vs.rd, Vs.O.view, Vs.fIx, Vs.orF, Vs.fIxS, Vs.mSet, Vs.putSl, Vs.mFrz, Vs.mSetIx, Vs.mSh, Vs.mName, Vs.mRetSl, Vs.mRet, Vs.cellL, Vs.cellOf, _root_.L2.ixN, Vs.fGt, Vs.fLt, Vs.fLe, Vs.fGe, Vs.fEq, Vs.fNe, Vs.eqD, Vs.fMod, Vs.fDiv, Vs.fMul, Vs.fAdd, Vs.fSub, Vs.fPow, Vs.oI, Vs.oB, Vs.opN, Vs.views, Vs.mConsR, Vs.mCons, Vs.mkTup, Vs.mkLst, Vs.mPar, Vs.fAbs, Vs.fInt, Vs.fLen, Vs.orN, Vs.fLenS, Vs.fLenT, Vs.seqD, Vs.mCall, Vs.callF, Vs.passL, Vs.upds, Vs.wipeL, Vs.mRange1, Vs.mRange2, Vs.mItems, Vs.itD, Vs.tnm, Vs.strM, Vs.mStr, Vs.fJoin, Vs.mFor, Vs.mMeL, Vs.fAppend, Vs.mDrop, Vs.mAnd, Vs.mOr, Vs.mNot, Vs.slM, Vs.fSl, Vs.mPart, Vs.fList, Vs.fTuple, Vs.fStr, Vs.mTru, Vs.truD, Vs.fMax, Vs.fMin, Vs.fNotIn, Vs.fIn, Vs.fInS, Vs.oS] at h
  exact h
theorem strI_digits (n : Nat) : ∀ c ∈ (strI (n : Int)).cps.toList, 48 ≤ c ∧ c ≤ 57 := fun c hc => by
  rw [strI_list] at hc
  obtain ⟨d, hd, rfl⟩ := List.mem_map.mp hc
  exact digit_nat (Nat.isDigit_of_mem_toDigits (by decide) (by decide) hd)
theorem strI_len {n k : Nat} (hk : 0 < k) (h : n < 10 ^ k) : (strI (n : Int)).length ≤ k := by
  have : (strI (n : Int)).cps.toList.length ≤ k := by
    rw [strI_list, List.length_map]
    exact (Nat.length_toDigits_le_iff (by decide) hk).mpr h
  show (strI (n : Int)).cps.size ≤ k
  simpa using this
theorem strI_inj {m n : Nat} (h : strI (m : Int) = strI (n : Int)) : m = n := by
  have e := congrArg (fun s : Str => s.cps.toList) h
  simp only [strI_list] at e
  have e2 : Nat.toDigits 10 m = Nat.toDigits 10 n := by
    have inj : Function.Injective Char.toNat := fun a b hab => Char.ext (UInt32.toNat_inj.mp hab)
    exact (List.map_inj_right fun a b => @inj a b).mp e
  have h1 := @Nat.ofDigitChars_toDigits 10 m (by decide) (by decide)
  have h2 := @Nat.ofDigitChars_toDigits 10 n (by decide) (by decide)
  rw [← h1, ← h2, e2]
end My
namespace Vs
open PySem PySem.Spec PyProof.Rows L2
structure Tag {β : Type} (b : β) : Type where
namespace Wz
def wp {α : Type} (m : M α) (s : S) (Q : α → S → Prop) (E : Ex → S → Prop) : Prop := match m s with
  | some (.ok a s') => Q a s'
  | some (.ex x s') => E x s'
  | none => False
end Wz
def wp {α : Type} (m : M α) (s : S) (Q : α → S → Prop) (E : Ex → S → Prop) (_t0 : Tag Q := ⟨⟩) (_t1 : Tag E := ⟨⟩) : Prop := Wz.wp m s Q E
namespace Wz
def wpF (F : Fn) (args : List Vl) (ce tb : List O) (Q : O → List O → List O → Prop) (E : Ex → List O → List O → Prop) : Prop := match F args ce tb with
  | some (.ok o ce tb) => Q o ce tb
  | some (.ex x ce tb) => E x ce tb
  | none => False
end Wz
def wpF (F : Fn) (args : List Vl) (ce tb : List O) (Q : O → List O → List O → Prop) (E : Ex → List O → List O → Prop) (_t0 : Tag Q := ⟨⟩) (_t1 : Tag E := ⟨⟩) : Prop := Wz.wpF F args ce tb Q E
namespace Wz
def optP {α : Type} (o : Option α) (Q : α → Prop) : Prop := match o with
  | some a => Q a
  | none => False
end Wz
def optP {α : Type} (o : Option α) (Q : α → Prop) (_t0 : Tag Q := ⟨⟩) : Prop := Wz.optP o Q
namespace Wz
@[simp] theorem optP_some {α : Type} {a : α} {Q : α → Prop} : optP (some a) Q = Q a := id rfl
end Wz
@[simp] theorem optP_some {α : Type} {a : α} {Q : α → Prop} : optP (some a) Q = Q a := by exact Wz.optP_some
namespace Wz
@[simp] theorem optP_none {α : Type} {Q : α → Prop} : optP (none : Option α) Q = False := id rfl
end Wz
@[simp] theorem optP_none {α : Type} {Q : α → Prop} : optP (none : Option α) Q = False := by exact Wz.optP_none
namespace Wz
theorem optP_iff {α : Type} {o : Option α} {Q : α → Prop} : optP o Q ↔ ∃ a, o = some a ∧ Q a := by
  cases o <;> simp
end Wz
theorem optP_iff {α : Type} {o : Option α} {Q : α → Prop} : optP o Q ↔ ∃ a, o = some a ∧ Q a := by exact Wz.optP_iff
namespace Wz
theorem optP_if {α : Type} {c : Prop} [Decidable c] {a : α} {Q : α → Prop} (h : c) (q : Q a) : optP (if c then some a else none) Q := by rw [if_pos h]; exact q
end Wz
theorem optP_if {α : Type} {c : Prop} [Decidable c] {a : α} {Q : α → Prop} (h : c) (q : Q a) : optP (if c then some a else none) Q := by exact Wz.optP_if h q
namespace Wz
@[simp] theorem optP_ite {α : Type} {c : Prop} [Decidable c] {a : α} {Q : α → Prop} : optP (if c then some a else none) Q = (c ∧ Q a) := by
  by_cases h : c <;> simp [h]
end Wz
@[simp] theorem optP_ite {α : Type} {c : Prop} [Decidable c] {a : α} {Q : α → Prop} : optP (if c then some a else none) Q = (c ∧ Q a) := by exact Wz.optP_ite
namespace Wz
@[simp] theorem optP_map {α β : Type} {f : α → β} {o : Option α} {Q : β → Prop} : optP (o.map f) Q = optP o fun a => Q (f a) := by cases o <;> rfl
end Wz
@[simp] theorem optP_map {α β : Type} {f : α → β} {o : Option α} {Q : β → Prop} : optP (o.map f) Q = optP o fun a => Q (f a) := by exact Wz.optP_map
namespace Wz
@[simp] theorem optP_bind {α β : Type} {f : α → Option β} {o : Option α} {Q : β → Prop} : optP (o.bind f) Q = optP o fun a => optP (f a) Q := by cases o <;> rfl
end Wz
@[simp] theorem optP_bind {α β : Type} {f : α → Option β} {o : Option α} {Q : β → Prop} : optP (o.bind f) Q = optP o fun a => optP (f a) Q := by exact Wz.optP_bind
namespace Wz
theorem wp_mono {α : Type} {m : M α} {s : S} {Q Q' : α → S → Prop} {E E' : Ex → S → Prop} (h : wp m s Q E) (hq : ∀ a s', Q a s' → Q' a s') (he : ∀ x s', E x s' → E' x s') : wp m s Q' E' := by
  unfold wp at h ⊢
  cases q : m s with
  | none => rw [q] at h; exact h
  | some r => cases r with
    | ok a s' => rw [q] at h; exact hq _ _ h
    | ex x s' => rw [q] at h; exact he _ _ h
end Wz
theorem wp_mono {α : Type} {m : M α} {s : S} {Q Q' : α → S → Prop} {E E' : Ex → S → Prop} (h : wp m s Q E) (hq : ∀ a s', Q a s' → Q' a s') (he : ∀ x s', E x s' → E' x s') : wp m s Q' E' := by exact Wz.wp_mono h hq he
namespace Wz
theorem wpF_mono {F : Fn} {args : List Vl} {ce tb : List O} {Q Q' : O → List O → List O → Prop} {E E' : Ex → List O → List O → Prop} (h : wpF F args ce tb Q E) (hq : ∀ o c t, Q o c t → Q' o c t) (he : ∀ x c t, E x c t → E' x c t) : wpF F args ce tb Q' E' := by
  unfold wpF at h ⊢
  cases q : F args ce tb with
  | none => rw [q] at h; exact h
  | some r => cases r with
    | ok a c t => rw [q] at h; exact hq _ _ _ h
    | ex x c t => rw [q] at h; exact he _ _ _ h
end Wz
theorem wpF_mono {F : Fn} {args : List Vl} {ce tb : List O} {Q Q' : O → List O → List O → Prop} {E E' : Ex → List O → List O → Prop} (h : wpF F args ce tb Q E) (hq : ∀ o c t, Q o c t → Q' o c t) (he : ∀ x c t, E x c t → E' x c t) : wpF F args ce tb Q' E' := by exact Wz.wpF_mono h hq he
namespace Wz
theorem wp_of {α : Type} {m : M α} {s s' : S} {a : α} {Q : α → S → Prop} {E : Ex → S → Prop} (h : m s = some (.ok a s')) : wp m s Q E = Q a s' := by unfold wp; rw [h]
end Wz
theorem wp_of {α : Type} {m : M α} {s s' : S} {a : α} {Q : α → S → Prop} {E : Ex → S → Prop} (h : m s = some (.ok a s')) : wp m s Q E = Q a s' := by exact Wz.wp_of h
namespace Wz
theorem wpF_of {F : Fn} {args : List Vl} {ce tb ce' tb' : List O} {o : O} {Q : O → List O → List O → Prop} {E : Ex → List O → List O → Prop} (h : F args ce tb = some (.ok o ce' tb')) : wpF F args ce tb Q E = Q o ce' tb' := by unfold wpF; rw [h]
end Wz
theorem wpF_of {F : Fn} {args : List Vl} {ce tb ce' tb' : List O} {o : O} {Q : O → List O → List O → Prop} {E : Ex → List O → List O → Prop} (h : F args ce tb = some (.ok o ce' tb')) : wpF F args ce tb Q E = Q o ce' tb' := by exact Wz.wpF_of h
namespace Wz
theorem wpF_ofE {F : Fn} {args : List Vl} {ce tb ce' tb' : List O} {x : Ex} {Q : O → List O → List O → Prop} {E : Ex → List O → List O → Prop} (h : F args ce tb = some (.ex x ce' tb')) : wpF F args ce tb Q E = E x ce' tb' := by unfold wpF; rw [h]
end Wz
theorem wpF_ofE {F : Fn} {args : List Vl} {ce tb ce' tb' : List O} {x : Ex} {Q : O → List O → List O → Prop} {E : Ex → List O → List O → Prop} (h : F args ce tb = some (.ex x ce' tb')) : wpF F args ce tb Q E = E x ce' tb' := by exact Wz.wpF_ofE h
namespace Wz
theorem eq_of_wp {α : Type} {m : M α} {s s' : S} {a : α} (h : wp m s (fun b t => b = a ∧ t = s') (fun _ _ => False)) : m s = some (.ok a s') := by
  unfold wp at h
  cases q : m s with
  | none => rw [q] at h; exact h.elim
  | some r => cases r with
    | ok b t => rw [q] at h; obtain ⟨rfl, rfl⟩ := h; rfl
    | ex x t => rw [q] at h; exact h.elim
end Wz
theorem eq_of_wp {α : Type} {m : M α} {s s' : S} {a : α} (h : wp m s (fun b t => b = a ∧ t = s') (fun _ _ => False)) : m s = some (.ok a s') := by exact Wz.eq_of_wp h
namespace Wz
theorem eq_of_wpF {F : Fn} {args : List Vl} {ce tb ce' tb' : List O} {o : O} (h : wpF F args ce tb (fun b c t => b = o ∧ c = ce' ∧ t = tb') (fun _ _ _ => False)) : F args ce tb = some (.ok o ce' tb') := by
  unfold wpF at h
  cases q : F args ce tb with
  | none => rw [q] at h; exact h.elim
  | some r => cases r with
    | ok b c t => rw [q] at h; obtain ⟨rfl, rfl, rfl⟩ := h; rfl
    | ex x c t => rw [q] at h; exact h.elim

end Wz
theorem eq_of_wpF {F : Fn} {args : List Vl} {ce tb ce' tb' : List O} {o : O} (h : wpF F args ce tb (fun b c t => b = o ∧ c = ce' ∧ t = tb') (fun _ _ _ => False)) : F args ce tb = some (.ok o ce' tb') := by exact Wz.eq_of_wpF h
namespace Wz
theorem ex_of_wpF {F : Fn} {args : List Vl} {ce tb : List O} {P : O → List O → List O → Prop} (h : wpF F args ce tb P (fun _ _ _ => False)) : ∃ o ce' tb', F args ce tb = some (.ok o ce' tb') ∧ P o ce' tb' := by
  unfold wpF at h
  cases q : F args ce tb with
  | none => rw [q] at h; exact h.elim
  | some r => cases r with
    | ok o c t => rw [q] at h; exact ⟨o, c, t, rfl, h⟩
    | ex x c t => rw [q] at h; exact h.elim
end Wz
theorem ex_of_wpF {F : Fn} {args : List Vl} {ce tb : List O} {P : O → List O → List O → Prop} (h : wpF F args ce tb P (fun _ _ _ => False)) : ∃ o ce' tb', F args ce tb = some (.ok o ce' tb') ∧ P o ce' tb' := by exact Wz.ex_of_wpF h
section
variable {α β : Type} {s : S} {sl : List (Option Vl)} {ce tb : List O} {E : Ex → S → Prop}
namespace Wz
@[simp] theorem wp_bnd {m : M α} {k : α → M β} {Q : β → S → Prop} : wp (bnd m k) s Q E = wp m s (fun a s' => wp (k a) s' Q E) E := by
  unfold wp
  cases q : m s with
  | none => rw [bnd_no q]
  | some r => cases r with
    | ok a s' => rw [bnd_ok q]
    | ex x s' => rw [bnd_ex q]
end Wz
@[simp] theorem wp_bnd {m : M α} {k : α → M β} {Q : β → S → Prop} : wp (bnd m k) s Q E = wp m s (fun a s' => wp (k a) s' Q E) E := by exact Wz.wp_bnd
namespace Wz
@[simp] theorem wp_ret {a : α} {Q : α → S → Prop} : wp (ret a) s Q E = Q a s := id rfl
end Wz
@[simp] theorem wp_ret {a : α} {Q : α → S → Prop} : wp (ret a) s Q E = Q a s := by exact Wz.wp_ret
namespace Wz
@[simp] theorem wp_look {f : S → Option α} {Q : α → S → Prop} : wp (look f) s Q E = optP (f s) fun a => Q a s := by
  unfold wp look; cases f s <;> rfl
end Wz
@[simp] theorem wp_look {f : S → Option α} {Q : α → S → Prop} : wp (look f) s Q E = optP (f s) fun a => Q a s := by exact Wz.wp_look
namespace Wz
@[simp] theorem wp_mFrz {m : M O} {Q : D → S → Prop} : wp (mFrz m) s Q E = wp m s (fun o s' => optP o.view fun d => Q d s') E := by unfold mFrz; simp
end Wz
@[simp] theorem wp_mFrz {m : M O} {Q : D → S → Prop} : wp (mFrz m) s Q E = wp m s (fun o s' => optP o.view fun d => Q d s') E := by exact Wz.wp_mFrz
namespace Wz
@[simp] theorem wp_mSh {m : M D} {Q : O → S → Prop} : wp (mSh m) s Q E = wp m s (fun d s' => Q (.sh d) s') E := by unfold mSh; simp
end Wz
@[simp] theorem wp_mSh {m : M D} {Q : O → S → Prop} : wp (mSh m) s Q E = wp m s (fun d s' => Q (.sh d) s') E := by exact Wz.wp_mSh
namespace Wz
@[simp] theorem wp_mVa {m : M D} {Q : Ref → S → Prop} : wp (mVa m) s Q E = wp m s (fun d s' => Q (.va d) s') E := by unfold mVa; simp
end Wz
@[simp] theorem wp_mVa {m : M D} {Q : Ref → S → Prop} : wp (mVa m) s Q E = wp m s (fun d s' => Q (.va d) s') E := by exact Wz.wp_mVa
def slot (sl : List (Option Vl)) (i : Nat) : Option Vl := match sl[i]? with
  | some (some v) => some v
  | _ => none
@[simp] theorem slot_zero {v : Vl} {r : List (Option Vl)} : slot (some v :: r) 0 = some v := id rfl
@[simp] theorem slot_zeroN {r : List (Option Vl)} : slot (none :: r) 0 = none := id rfl
@[simp] theorem slot_succ {x : Option Vl} {r : List (Option Vl)} {i : Nat} : slot (x :: r) (i + 1) = slot r i := id rfl
@[simp] theorem slot_nil {i : Nat} : slot [] i = none := id rfl
namespace Wz
def nameP (v : Option Vl) (s : S) (Q : D → S → Prop) : Prop := match v with
  | some (.sh d) => Q d s
  | some (.pt n) => optP ((s.ce[n]?).bind O.view) fun d => Q d { s with ce := s.ce.set n (.sh d) }
  | none => False
end Wz
def nameP (v : Option Vl) (s : S) (Q : D → S → Prop) (_t0 : Tag Q := ⟨⟩) : Prop := Wz.nameP v s Q
namespace Wz
@[simp] theorem nameP_sh {d : D} {Q : D → S → Prop} : nameP (some (.sh d)) s Q = Q d s := id rfl
end Wz
@[simp] theorem nameP_sh {d : D} {Q : D → S → Prop} : nameP (some (.sh d)) s Q = Q d s := by exact Wz.nameP_sh
namespace Wz
@[simp] theorem nameP_pt {n : Nat} {Q : D → S → Prop} : nameP (some (.pt n)) ⟨sl, ce, tb⟩ Q = optP ce[n]? fun o => optP o.view fun d => Q d ⟨sl, ce.set n (.sh d), tb⟩ := by
  show optP ((ce[n]?).bind O.view) _ = _
  rw [optP_bind]
end Wz
@[simp] theorem nameP_pt {n : Nat} {Q : D → S → Prop} : nameP (some (.pt n)) ⟨sl, ce, tb⟩ Q = optP ce[n]? fun o => optP o.view fun d => Q d ⟨sl, ce.set n (.sh d), tb⟩ := by exact Wz.nameP_pt
namespace Wz
@[simp] theorem nameP_no {Q : D → S → Prop} : nameP none s Q = False := id rfl
end Wz
@[simp] theorem nameP_no {Q : D → S → Prop} : nameP none s Q = False := by exact Wz.nameP_no
namespace Wz
@[simp] theorem wp_mName {i : Nat} {Q : D → S → Prop} : wp (mName i) s Q E = nameP (slot s.sl i) s Q := by
  unfold wp mName slot nameP
  cases s.sl[i]? with
  | none => rfl
  | some v => cases v with
    | none => rfl
    | some v => cases v with
      | sh d => rfl
      | pt n => dsimp only; cases s.ce[n]?.bind O.view <;> rfl
end Wz
@[simp] theorem wp_mName {i : Nat} {Q : D → S → Prop} : wp (mName i) s Q E = nameP (slot s.sl i) s Q := by exact Wz.wp_mName
namespace Wz
@[simp] theorem wp_mSl {i : Nat} {Q : Ref → S → Prop} : wp (mSl i) s Q E = optP (slot s.sl i) fun _ => Q (.sl i) s := by
  unfold mSl slot
  rw [wp_look]
  cases s.sl[i]? with
  | none => rfl
  | some v => cases v <;> rfl
end Wz
@[simp] theorem wp_mSl {i : Nat} {Q : Ref → S → Prop} : wp (mSl i) s Q E = optP (slot s.sl i) fun _ => Q (.sl i) s := by exact Wz.wp_mSl
def rdV (s : S) : Option Vl → Option D
  | some (.sh d) => some d
  | some (.pt n) => (s.ce[n]?).bind O.view
  | none => none
@[simp] theorem rdV_sh {d : D} : rdV s (some (.sh d)) = some d := id rfl
@[simp] theorem rdV_pt {n : Nat} : rdV ⟨sl, ce, tb⟩ (some (.pt n)) = (ce[n]?).bind O.view := id rfl
@[simp] theorem view_sl {i : Nat} : view s (.sl i) = rdV s (slot s.sl i) := by
  unfold view rd rdV slot
  dsimp only
  cases s.sl[i]? with
  | none => rfl
  | some v => cases v with
    | none => rfl
    | some v => cases v with
      | sh d => rfl
      | pt n => rfl
@[simp] theorem view_va {d : D} : view s (.va d) = some d := id rfl
@[simp] theorem oview_sh {d : D} : O.view (.sh d) = some d := id rfl
@[simp] theorem oview_ol {d : List D} : O.view (.ol d) = some (.lst d) := id rfl
@[simp] theorem oview_ok {d : List (Key × D)} : O.view (.ok d) = some (.dk d) := id rfl
@[simp] theorem oview_ot {d : List (List Key × D)} : O.view (.ot d) = some (.dt d) := id rfl
@[simp] theorem oview_oi {c : Str} {d : List (Str × D)} : O.view (.oi c d) = some (.ins c d) := id rfl
namespace Wz
@[simp] theorem wp_op1 {f : D → Option O} {ma : M Ref} {Q : O → S → Prop} : wp (op1 f ma) s Q E = wp ma s (fun r s' => optP (view s' r) fun x => optP (f x) fun o => Q o s') E := by unfold op1; simp
end Wz
@[simp] theorem wp_op1 {f : D → Option O} {ma : M Ref} {Q : O → S → Prop} : wp (op1 f ma) s Q E = wp ma s (fun r s' => optP (view s' r) fun x => optP (f x) fun o => Q o s') E := by exact Wz.wp_op1
namespace Wz
@[simp] theorem wp_op2 {f : D → D → Option O} {ma mb : M Ref} {Q : O → S → Prop} : wp (op2 f ma mb) s Q E = wp ma s (fun r s1 => wp mb s1 (fun q s2 => optP (view s2 r) fun x => optP (view s2 q) fun y => optP (f x y) fun o => Q o s2) E) E := by unfold op2; simp
end Wz
@[simp] theorem wp_op2 {f : D → D → Option O} {ma mb : M Ref} {Q : O → S → Prop} : wp (op2 f ma mb) s Q E = wp ma s (fun r s1 => wp mb s1 (fun q s2 => optP (view s2 r) fun x => optP (view s2 q) fun y => optP (f x y) fun o => Q o s2) E) E := by exact Wz.wp_op2
namespace Wz
def blP (o : O) (Q : Bool → Prop) : Prop := match o with
  | .sh (.bl b) => Q b
  | _ => False
end Wz
def blP (o : O) (Q : Bool → Prop) (_t0 : Tag Q := ⟨⟩) : Prop := Wz.blP o Q
namespace Wz
@[simp] theorem blP_bl {b : Bool} {Q : Bool → Prop} : blP (.sh (.bl b)) Q = Q b := id rfl
end Wz
@[simp] theorem blP_bl {b : Bool} {Q : Bool → Prop} : blP (.sh (.bl b)) Q = Q b := by exact Wz.blP_bl
namespace Wz
@[simp] theorem wp_mT {m : M O} {Q : Bool → S → Prop} : wp (mT m) s Q E = wp m s (fun o s' => blP o fun b => Q b s') E := by
  unfold mT; rw [wp_bnd]; congr 1; funext o s'; rw [wp_look]
  unfold blP
  cases o with
  | sh d => cases d <;> rfl
  | _ => rfl
end Wz
@[simp] theorem wp_mT {m : M O} {Q : Bool → S → Prop} : wp (mT m) s Q E = wp m s (fun o s' => blP o fun b => Q b s') E := by exact Wz.wp_mT
namespace Wz
def ifP (b : Bool) (P1 P2 : Prop) : Prop := if b = true then P1 else P2
end Wz
def ifP (b : Bool) (P1 P2 : Prop) (_t0 : Tag P1 := ⟨⟩) (_t1 : Tag P2 := ⟨⟩) : Prop := Wz.ifP b P1 P2
namespace Wz
@[simp] theorem ifP_true {P1 P2 : Prop} : ifP true P1 P2 = P1 := id rfl
end Wz
@[simp] theorem ifP_true {P1 P2 : Prop} : ifP true P1 P2 = P1 := by exact Wz.ifP_true
namespace Wz
@[simp] theorem ifP_false {P1 P2 : Prop} : ifP false P1 P2 = P2 := id rfl
end Wz
@[simp] theorem ifP_false {P1 P2 : Prop} : ifP false P1 P2 = P2 := by exact Wz.ifP_false
namespace Wz
theorem ifP_intro {b : Bool} {P1 P2 : Prop} (h1 : b = true → P1) (h2 : b = false → P2) : ifP b P1 P2 := by cases b; exact h2 rfl; exact h1 rfl
end Wz
theorem ifP_intro {b : Bool} {P1 P2 : Prop} (h1 : b = true → P1) (h2 : b = false → P2) : ifP b P1 P2 := by exact Wz.ifP_intro h1 h2
namespace Wz
theorem wp_ifb {b : Bool} {m1 m2 : M α} {Q : α → S → Prop} : wp (if b = true then m1 else m2) s Q E = ifP b (wp m1 s Q E) (wp m2 s Q E) := by cases b <;> rfl
end Wz
theorem wp_ifb {b : Bool} {m1 m2 : M α} {Q : α → S → Prop} : wp (if b = true then m1 else m2) s Q E = ifP b (wp m1 s Q E) (wp m2 s Q E) := by exact Wz.wp_ifb
namespace Wz
@[simp] theorem wp_mAnd {ma mb : M Bool} {Q : Bool → S → Prop} : wp (mAnd ma mb) s Q E = wp ma s (fun b s' => ifP b (wp mb s' Q E) (Q false s')) E := by unfold mAnd; simp [wp_ifb]
end Wz
@[simp] theorem wp_mAnd {ma mb : M Bool} {Q : Bool → S → Prop} : wp (mAnd ma mb) s Q E = wp ma s (fun b s' => ifP b (wp mb s' Q E) (Q false s')) E := by exact Wz.wp_mAnd
namespace Wz
@[simp] theorem wp_mOr {ma mb : M Bool} {Q : Bool → S → Prop} : wp (mOr ma mb) s Q E = wp ma s (fun b s' => ifP b (Q true s') (wp mb s' Q E)) E := by unfold mOr; simp [wp_ifb]
end Wz
@[simp] theorem wp_mOr {ma mb : M Bool} {Q : Bool → S → Prop} : wp (mOr ma mb) s Q E = wp ma s (fun b s' => ifP b (Q true s') (wp mb s' Q E)) E := by exact Wz.wp_mOr
namespace Wz
@[simp] theorem wp_mNot {ma : M Bool} {Q : Bool → S → Prop} : wp (mNot ma) s Q E = wp ma s (fun b s' => Q (!b) s') E := by unfold mNot; simp
end Wz
@[simp] theorem wp_mNot {ma : M Bool} {Q : Bool → S → Prop} : wp (mNot ma) s Q E = wp ma s (fun b s' => Q (!b) s') E := by exact Wz.wp_mNot
namespace Wz
@[simp] theorem wp_mIf {mt : M Bool} {ma mb : M α} {Q : α → S → Prop} : wp (mIf mt ma mb) s Q E = wp mt s (fun b s' => ifP b (wp ma s' Q E) (wp mb s' Q E)) E := by unfold mIf; simp [wp_ifb]
end Wz
@[simp] theorem wp_mIf {mt : M Bool} {ma mb : M α} {Q : α → S → Prop} : wp (mIf mt ma mb) s Q E = wp mt s (fun b s' => ifP b (wp ma s' Q E) (wp mb s' Q E)) E := by exact Wz.wp_mIf
namespace Wz
@[simp] theorem wp_mIfS {mt : M Bool} {ma mb : SM} {Q : Fl → S → Prop} : wp (mIfS mt ma mb) s Q E = wp mt s (fun b s' => ifP b (wp ma s' Q E) (wp mb s' Q E)) E := by unfold mIfS; simp [wp_ifb]
end Wz
@[simp] theorem wp_mIfS {mt : M Bool} {ma mb : SM} {Q : Fl → S → Prop} : wp (mIfS mt ma mb) s Q E = wp mt s (fun b s' => ifP b (wp ma s' Q E) (wp mb s' Q E)) E := by exact Wz.wp_mIfS
namespace Wz
def bdP (d : D) (Q : Bool → Prop) : Prop := match d with
  | .bl b => Q b
  | _ => False
end Wz
def bdP (d : D) (Q : Bool → Prop) (_t0 : Tag Q := ⟨⟩) : Prop := Wz.bdP d Q
namespace Wz
@[simp] theorem bdP_bl {b : Bool} {Q : Bool → Prop} : bdP (.bl b) Q = Q b := id rfl
end Wz
@[simp] theorem bdP_bl {b : Bool} {Q : Bool → Prop} : bdP (.bl b) Q = Q b := by exact Wz.bdP_bl
namespace Wz
@[simp] theorem wp_mTb {m : M D} {Q : Bool → S → Prop} : wp (mTb m) s Q E = wp m s (fun d s' => bdP d fun b => Q b s') E := by
  unfold mTb; rw [wp_bnd]; congr 1; funext d s'; rw [wp_look]; unfold bdP; cases d <;> rfl
end Wz
@[simp] theorem wp_mTb {m : M D} {Q : Bool → S → Prop} : wp (mTb m) s Q E = wp m s (fun d s' => bdP d fun b => Q b s') E := by exact Wz.wp_mTb
namespace Wz
@[simp] theorem wp_mBl {m : M Bool} {Q : D → S → Prop} : wp (mBl m) s Q E = wp m s (fun b s' => Q (.bl b) s') E := by unfold mBl; simp
end Wz
@[simp] theorem wp_mBl {m : M Bool} {Q : D → S → Prop} : wp (mBl m) s Q E = wp m s (fun b s' => Q (.bl b) s') E := by exact Wz.wp_mBl
namespace Wz
@[simp] theorem wp_mAndV {ma mb : M D} {Q : D → S → Prop} : wp (mAndV ma mb) s Q E = wp ma s (fun d s' => bdP d fun b => ifP b (wp mb s' Q E) (Q (.bl false) s')) E := by
  unfold mAndV; rw [wp_bnd]; congr 1; funext d s'; unfold bdP
  cases d with
  | bl b => cases b <;> rfl
  | _ => rfl
end Wz
@[simp] theorem wp_mAndV {ma mb : M D} {Q : D → S → Prop} : wp (mAndV ma mb) s Q E = wp ma s (fun d s' => bdP d fun b => ifP b (wp mb s' Q E) (Q (.bl false) s')) E := by exact Wz.wp_mAndV
namespace Wz
@[simp] theorem wp_mOrV {ma mb : M D} {Q : D → S → Prop} : wp (mOrV ma mb) s Q E = wp ma s (fun d s' => bdP d fun b => ifP b (Q (.bl true) s') (wp mb s' Q E)) E := by
  unfold mOrV; rw [wp_bnd]; congr 1; funext d s'; unfold bdP
  cases d with
  | bl b => cases b <;> rfl
  | _ => rfl
end Wz
@[simp] theorem wp_mOrV {ma mb : M D} {Q : D → S → Prop} : wp (mOrV ma mb) s Q E = wp ma s (fun d s' => bdP d fun b => ifP b (Q (.bl true) s') (wp mb s' Q E)) E := by exact Wz.wp_mOrV
namespace Wz
@[simp] theorem wp_mNotV {m : M D} {Q : D → S → Prop} : wp (mNotV m) s Q E = wp m s (fun d s' => bdP d fun b => Q (.bl (!b)) s') E := by
  unfold mNotV; rw [wp_bnd]; congr 1; funext d s'; rw [wp_look]; unfold bdP; cases d <;> rfl
end Wz
@[simp] theorem wp_mNotV {m : M D} {Q : D → S → Prop} : wp (mNotV m) s Q E = wp m s (fun d s' => bdP d fun b => Q (.bl (!b)) s') E := by exact Wz.wp_mNotV
namespace Wz
@[simp] theorem wp_mTru {m : M Ref} {Q : Bool → S → Prop} : wp (mTru m) s Q E = wp m s (fun r s' => optP (view s' r) fun d => optP (truD d) fun b => Q b s') E := by unfold mTru; simp
end Wz
@[simp] theorem wp_mTru {m : M Ref} {Q : Bool → S → Prop} : wp (mTru m) s Q E = wp m s (fun r s' => optP (view s' r) fun d => optP (truD d) fun b => Q b s') E := by exact Wz.wp_mTru
namespace Wz
@[simp] theorem wp_mCons {ma : M D} {mr : M (List D)} {Q : List D → S → Prop} : wp (mCons ma mr) s Q E = wp ma s (fun d s1 => wp mr s1 (fun ds s2 => Q (d :: ds) s2) E) E := by unfold mCons; simp
end Wz
@[simp] theorem wp_mCons {ma : M D} {mr : M (List D)} {Q : List D → S → Prop} : wp (mCons ma mr) s Q E = wp ma s (fun d s1 => wp mr s1 (fun ds s2 => Q (d :: ds) s2) E) E := by exact Wz.wp_mCons
namespace Wz
@[simp] theorem wp_mConsR {ma : M Ref} {mr : M (List Ref)} {Q : List Ref → S → Prop} : wp (mConsR ma mr) s Q E = wp ma s (fun d s1 => wp mr s1 (fun ds s2 => Q (d :: ds) s2) E) E := by unfold mConsR; simp
end Wz
@[simp] theorem wp_mConsR {ma : M Ref} {mr : M (List Ref)} {Q : List Ref → S → Prop} : wp (mConsR ma mr) s Q E = wp ma s (fun d s1 => wp mr s1 (fun ds s2 => Q (d :: ds) s2) E) E := by exact Wz.wp_mConsR
namespace Wz
@[simp] theorem wp_mkTup {m : M (List D)} {Q : D → S → Prop} : wp (mkTup m) s Q E = wp m s (fun ds s' => ds.length ≤ 1000000 ∧ Q (.tup ds) s') E := by unfold mkTup; simp
end Wz
@[simp] theorem wp_mkTup {m : M (List D)} {Q : D → S → Prop} : wp (mkTup m) s Q E = wp m s (fun ds s' => ds.length ≤ 1000000 ∧ Q (.tup ds) s') E := by exact Wz.wp_mkTup
namespace Wz
@[simp] theorem wp_mkLst {m : M (List D)} {Q : O → S → Prop} : wp (mkLst m) s Q E = wp m s (fun ds s' => ds.length ≤ 1000000 ∧ Q (.ol ds) s') E := by unfold mkLst; simp
end Wz
@[simp] theorem wp_mkLst {m : M (List D)} {Q : O → S → Prop} : wp (mkLst m) s Q E = wp m s (fun ds s' => ds.length ≤ 1000000 ∧ Q (.ol ds) s') E := by exact Wz.wp_mkLst
@[simp] theorem views_nil : views s [] = some [] := id rfl
@[simp] theorem views_cons {r : Ref} {rs : List Ref} : views s (r :: rs) = (view s r).bind fun d => (views s rs).map fun ds => d :: ds := id rfl
namespace Wz
@[simp] theorem wp_opN {f : List D → Option O} {m : M (List Ref)} {Q : O → S → Prop} : wp (opN f m) s Q E = wp m s (fun rs s' => optP (views s' rs) fun ds => optP (f ds) fun o => Q o s') E := by unfold opN; simp
end Wz
@[simp] theorem wp_opN {f : List D → Option O} {m : M (List Ref)} {Q : O → S → Prop} : wp (opN f m) s Q E = wp m s (fun rs s' => optP (views s' rs) fun ds => optP (f ds) fun o => Q o s') E := by exact Wz.wp_opN
namespace Wz
def flP (fl : Fl) (N R : Prop) : Prop := match fl with
  | .nx => N
  | _ => R
end Wz
def flP (fl : Fl) (N R : Prop) (_t0 : Tag N := ⟨⟩) (_t1 : Tag R := ⟨⟩) : Prop := Wz.flP fl N R
namespace Wz
@[simp] theorem wp_then {m1 m2 : SM} {Q : Fl → S → Prop} : wp (then_ m1 m2) s Q E = wp m1 s (fun fl s' => flP fl (wp m2 s' Q E) (Q fl s')) E := by
  unfold then_; rw [wp_bnd]; congr 1; funext fl s'; cases fl <;> rfl
end Wz
@[simp] theorem wp_then {m1 m2 : SM} {Q : Fl → S → Prop} : wp (then_ m1 m2) s Q E = wp m1 s (fun fl s' => flP fl (wp m2 s' Q E) (Q fl s')) E := by exact Wz.wp_then
namespace Wz
@[simp] theorem flP_nx {N R : Prop} : flP .nx N R = N := id rfl
end Wz
@[simp] theorem flP_nx {N R : Prop} : flP .nx N R = N := by exact Wz.flP_nx
namespace Wz
@[simp] theorem flP_rt {N R : Prop} {o : O} : flP (.rt o) N R = R := id rfl
end Wz
@[simp] theorem flP_rt {N R : Prop} {o : O} : flP (.rt o) N R = R := by exact Wz.flP_rt
namespace Wz
@[simp] theorem flP_bk {N R : Prop} : flP .bk N R = R := id rfl
end Wz
@[simp] theorem flP_bk {N R : Prop} : flP .bk N R = R := by exact Wz.flP_bk
namespace Wz
@[simp] theorem flP_ct {N R : Prop} : flP .ct N R = R := id rfl
end Wz
@[simp] theorem flP_ct {N R : Prop} : flP .ct N R = R := by exact Wz.flP_ct
namespace Wz
@[simp] theorem wp_mDrop {m : M α} {Q : Fl → S → Prop} : wp (mDrop m) s Q E = wp m s (fun _ s' => Q .nx s') E := by unfold mDrop; simp
end Wz
@[simp] theorem wp_mDrop {m : M α} {Q : Fl → S → Prop} : wp (mDrop m) s Q E = wp m s (fun _ s' => Q .nx s') E := by exact Wz.wp_mDrop
namespace Wz
@[simp] theorem wp_mRet {m : M O} {Q : Fl → S → Prop} : wp (mRet m) s Q E = wp m s (fun o s' => Q (.rt o) s') E := by unfold mRet; simp
end Wz
@[simp] theorem wp_mRet {m : M O} {Q : Fl → S → Prop} : wp (mRet m) s Q E = wp m s (fun o s' => Q (.rt o) s') E := by exact Wz.wp_mRet
namespace Wz
def retP (k : Nat) (v : Option Vl) (s : S) (Q : Fl → S → Prop) : Prop := match v with
  | some (.sh d) => Q (.rt (.sh d)) s
  | some (.pt n) => optP s.ce[n]? fun o => k ≤ n ∧ Q (.rt o) { s with ce := s.ce.set n .gone }
  | none => False
end Wz
def retP (k : Nat) (v : Option Vl) (s : S) (Q : Fl → S → Prop) (_t0 : Tag Q := ⟨⟩) : Prop := Wz.retP k v s Q
namespace Wz
@[simp] theorem retP_sh {k : Nat} {d : D} {Q : Fl → S → Prop} : retP k (some (.sh d)) s Q = Q (.rt (.sh d)) s := id rfl
end Wz
@[simp] theorem retP_sh {k : Nat} {d : D} {Q : Fl → S → Prop} : retP k (some (.sh d)) s Q = Q (.rt (.sh d)) s := by exact Wz.retP_sh
namespace Wz
@[simp] theorem retP_pt {k n : Nat} {Q : Fl → S → Prop} : retP k (some (.pt n)) ⟨sl, ce, tb⟩ Q = optP ce[n]? fun o => k ≤ n ∧ Q (.rt o) ⟨sl, ce.set n .gone, tb⟩ := id rfl
end Wz
@[simp] theorem retP_pt {k n : Nat} {Q : Fl → S → Prop} : retP k (some (.pt n)) ⟨sl, ce, tb⟩ Q = optP ce[n]? fun o => k ≤ n ∧ Q (.rt o) ⟨sl, ce.set n .gone, tb⟩ := by exact Wz.retP_pt
namespace Wz
@[simp] theorem wp_mRetSl {k i : Nat} {Q : Fl → S → Prop} : wp (mRetSl k i) s Q E = retP k (slot s.sl i) s Q := by
  unfold wp mRetSl slot retP
  cases s.sl[i]? with
  | none => rfl
  | some v => cases v with
    | none => rfl
    | some v => cases v with
      | sh d => rfl
      | pt n =>
        dsimp only
        cases s.ce[n]? with
        | none => rfl
        | some o => by_cases h : k ≤ n <;> simp [h]
end Wz
@[simp] theorem wp_mRetSl {k i : Nat} {Q : Fl → S → Prop} : wp (mRetSl k i) s Q E = retP k (slot s.sl i) s Q := by exact Wz.wp_mRetSl
namespace Wz
@[simp] theorem wp_putSl_sh {i : Nat} {d : D} {Q : Fl → S → Prop} : wp (putSl i (.sh d)) ⟨sl, ce, tb⟩ Q E = Q .nx ⟨sl.set i (some (.sh d)), ce, tb⟩ := id rfl
end Wz
@[simp] theorem wp_putSl_sh {i : Nat} {d : D} {Q : Fl → S → Prop} : wp (putSl i (.sh d)) ⟨sl, ce, tb⟩ Q E = Q .nx ⟨sl.set i (some (.sh d)), ce, tb⟩ := by exact Wz.wp_putSl_sh
namespace Wz
@[simp] theorem wp_putSl_ol {i : Nat} {d : List D} {Q : Fl → S → Prop} : wp (putSl i (.ol d)) ⟨sl, ce, tb⟩ Q E = Q .nx ⟨sl.set i (some (.pt ce.length)), ce ++ [.ol d], tb⟩ := id rfl
end Wz
@[simp] theorem wp_putSl_ol {i : Nat} {d : List D} {Q : Fl → S → Prop} : wp (putSl i (.ol d)) ⟨sl, ce, tb⟩ Q E = Q .nx ⟨sl.set i (some (.pt ce.length)), ce ++ [.ol d], tb⟩ := by exact Wz.wp_putSl_ol
namespace Wz
@[simp] theorem wp_putSl_ok {i : Nat} {d : List (Key × D)} {Q : Fl → S → Prop} : wp (putSl i (.ok d)) ⟨sl, ce, tb⟩ Q E = Q .nx ⟨sl.set i (some (.pt ce.length)), ce ++ [.ok d], tb⟩ := id rfl
end Wz
@[simp] theorem wp_putSl_ok {i : Nat} {d : List (Key × D)} {Q : Fl → S → Prop} : wp (putSl i (.ok d)) ⟨sl, ce, tb⟩ Q E = Q .nx ⟨sl.set i (some (.pt ce.length)), ce ++ [.ok d], tb⟩ := by exact Wz.wp_putSl_ok
namespace Wz
@[simp] theorem wp_putSl_ot {i : Nat} {d : List (List Key × D)} {Q : Fl → S → Prop} : wp (putSl i (.ot d)) ⟨sl, ce, tb⟩ Q E = Q .nx ⟨sl.set i (some (.pt ce.length)), ce ++ [.ot d], tb⟩ := id rfl
end Wz
@[simp] theorem wp_putSl_ot {i : Nat} {d : List (List Key × D)} {Q : Fl → S → Prop} : wp (putSl i (.ot d)) ⟨sl, ce, tb⟩ Q E = Q .nx ⟨sl.set i (some (.pt ce.length)), ce ++ [.ot d], tb⟩ := by exact Wz.wp_putSl_ot
namespace Wz
@[simp] theorem wp_putSl_oi {i : Nat} {c : Str} {d : List (Str × D)} {Q : Fl → S → Prop} : wp (putSl i (.oi c d)) ⟨sl, ce, tb⟩ Q E = Q .nx ⟨sl.set i (some (.pt ce.length)), ce ++ [.oi c d], tb⟩ := id rfl
end Wz
@[simp] theorem wp_putSl_oi {i : Nat} {c : Str} {d : List (Str × D)} {Q : Fl → S → Prop} : wp (putSl i (.oi c d)) ⟨sl, ce, tb⟩ Q E = Q .nx ⟨sl.set i (some (.pt ce.length)), ce ++ [.oi c d], tb⟩ := by exact Wz.wp_putSl_oi
namespace Wz
@[simp] theorem wp_mSet {i : Nat} {m : M O} {Q : Fl → S → Prop} : wp (mSet i m) s Q E = wp m s (fun o s' => wp (putSl i o) s' Q E) E := by unfold mSet; simp
end Wz
@[simp] theorem wp_mSet {i : Nat} {m : M O} {Q : Fl → S → Prop} : wp (mSet i m) s Q E = wp m s (fun o s' => wp (putSl i o) s' Q E) E := by exact Wz.wp_mSet
namespace Wz
@[simp] theorem wp_mAsg {t : TgM} {m : M D} {Q : Fl → S → Prop} : wp (mAsg t m) s Q E = wp m s (fun d s' => optP (t d s') fun s2 => Q .nx s2) E := by
  unfold mAsg; rw [wp_bnd]; congr 1; funext d s'; unfold wp; dsimp only; cases t d s' <;> rfl
end Wz
@[simp] theorem wp_mAsg {t : TgM} {m : M D} {Q : Fl → S → Prop} : wp (mAsg t m) s Q E = wp m s (fun d s' => optP (t d s') fun s2 => Q .nx s2) E := by exact Wz.wp_mAsg
@[simp] theorem tnm_eq {i : Nat} {d : D} : tnm i d ⟨sl, ce, tb⟩ = some ⟨sl.set i (some (.sh d)), ce, tb⟩ := id rfl
@[simp] theorem tgNil_eq : tgNil [] s = some s := id rfl
@[simp] theorem tgCons_eq {t : TgM} {u : TgsM} {d : D} {r : List D} : tgCons t u (d :: r) s = (t d s).bind (u r) := id rfl
@[simp] theorem ttup_eq {n : Nat} {u : TgsM} {ds : List D} : ttup n u (.tup ds) s = if ds.length = n then u ds s else none := id rfl
@[simp] theorem ttup_eqc {n : Nat} {u : TgsM} {ds : List D} : ttup n u (.ct ds) s = if ds.length = n then u ds s else none := id rfl
namespace Wz
@[simp] theorem wp_mPar {i j : Nat} {ma mb : M D} {Q : Fl → S → Prop} : wp (mPar i j (mCons ma (mCons mb (ret [])))) s Q E = wp ma s (fun d s1 => wp mb s1 (fun e s2 => Q .nx ⟨(s2.sl.set i (some (.sh d))).set j (some (.sh e)), s2.ce, s2.tb⟩) E) E := by
  unfold mPar; rw [wp_bnd]; simp only [wp_mCons, wp_ret]; rfl
end Wz
@[simp] theorem wp_mPar {i j : Nat} {ma mb : M D} {Q : Fl → S → Prop} : wp (mPar i j (mCons ma (mCons mb (ret [])))) s Q E = wp ma s (fun d s1 => wp mb s1 (fun e s2 => Q .nx ⟨(s2.sl.set i (some (.sh d))).set j (some (.sh e)), s2.ce, s2.tb⟩) E) E := by exact Wz.wp_mPar
namespace Wz
@[simp] theorem wp_mPar3 {i j l : Nat} {ma mb mc : M D} {Q : Fl → S → Prop} : wp (mPar3 i j l (mCons ma (mCons mb (mCons mc (ret []))))) s Q E = wp ma s (fun d s1 => wp mb s1 (fun e s2 => wp mc s2 (fun f s3 => Q .nx ⟨((s3.sl.set i (some (.sh d))).set j (some (.sh e))).set l (some (.sh f)), s3.ce, s3.tb⟩) E) E) E := by
  unfold mPar3; rw [wp_bnd]; simp only [wp_mCons, wp_ret]; rfl
end Wz
@[simp] theorem wp_mPar3 {i j l : Nat} {ma mb mc : M D} {Q : Fl → S → Prop} : wp (mPar3 i j l (mCons ma (mCons mb (mCons mc (ret []))))) s Q E = wp ma s (fun d s1 => wp mb s1 (fun e s2 => wp mc s2 (fun f s3 => Q .nx ⟨((s3.sl.set i (some (.sh d))).set j (some (.sh e))).set l (some (.sh f)), s3.ce, s3.tb⟩) E) E) E := by exact Wz.wp_mPar3
namespace Wz
@[simp] theorem wp_mItems {m : M D} {Q : List D → S → Prop} : wp (mItems m) s Q E = wp m s (fun d s' => optP (itD d) fun ds => Q ds s') E := by unfold mItems; simp
end Wz
@[simp] theorem wp_mItems {m : M D} {Q : List D → S → Prop} : wp (mItems m) s Q E = wp m s (fun d s' => optP (itD d) fun ds => Q ds s') E := by exact Wz.wp_mItems
@[simp] theorem itD_lst {ds : List D} : itD (.lst ds) = some ds := id rfl
@[simp] theorem itD_tup {ds : List D} : itD (.tup ds) = some ds := id rfl
@[simp] theorem itD_rl {ds : List D} : itD (.rl ds) = some ds := id rfl
@[simp] theorem itD_ct {ds : List D} : itD (.ct ds) = some ds := id rfl
@[simp] theorem itD_str {x : Str} : itD (.str x) = some (x.cps.toList.map fun c => .str ⟨#[c]⟩) := id rfl
namespace Wz
@[simp] theorem wp_mRange1 {m : M D} {Q : List D → S → Prop} : wp (mRange1 (mCons m (ret []))) s Q E = wp m s (fun d s' => optP (match d with
  | .int j => if small62 j = true then some (rgL 0 j.toNat) else none
  | _ => none) fun ds => Q ds s') E := by
  unfold mRange1; rw [wp_bnd]; simp only [wp_mCons, wp_ret, wp_look]
  congr 1; funext d s'; cases d <;> rfl
end Wz
@[simp] theorem wp_mRange1 {m : M D} {Q : List D → S → Prop} : wp (mRange1 (mCons m (ret []))) s Q E = wp m s (fun d s' => optP (match d with
  | .int j => if small62 j = true then some (rgL 0 j.toNat) else none
  | _ => none) fun ds => Q ds s') E := by exact Wz.wp_mRange1
namespace Wz
@[simp] theorem wp_mRange2 {ma mb : M D} {Q : List D → S → Prop} : wp (mRange2 (mCons ma (mCons mb (ret [])))) s Q E = wp ma s (fun d s1 => wp mb s1 (fun e s2 => optP (match d, e with
  | .int i, .int j => if (small62 i && small62 j) = true then some (rgL i (j - i).toNat) else none
  | _, _ => none) fun ds => Q ds s2) E) E := by
  unfold mRange2; rw [wp_bnd]; simp only [wp_mCons, wp_ret, wp_look]
  congr 1; funext d s'; congr 1; funext e s2; cases d <;> cases e <;> rfl
end Wz
@[simp] theorem wp_mRange2 {ma mb : M D} {Q : List D → S → Prop} : wp (mRange2 (mCons ma (mCons mb (ret [])))) s Q E = wp ma s (fun d s1 => wp mb s1 (fun e s2 => optP (match d, e with
  | .int i, .int j => if (small62 i && small62 j) = true then some (rgL i (j - i).toNat) else none
  | _, _ => none) fun ds => Q ds s2) E) E := by exact Wz.wp_mRange2
namespace Wz
@[simp] theorem wp_mFor {mi : M (List D)} {tg : TgM} {b : SM} {Q : Fl → S → Prop} : wp (mFor mi tg b) s Q E = wp mi s (fun ds s' => wp (loopF tg b ds) s' Q E) E := by unfold mFor; simp
end Wz
@[simp] theorem wp_mFor {mi : M (List D)} {tg : TgM} {b : SM} {Q : Fl → S → Prop} : wp (mFor mi tg b) s Q E = wp mi s (fun ds s' => wp (loopF tg b ds) s' Q E) E := by exact Wz.wp_mFor
namespace Wz
theorem wp_loopF_nil {tg : TgM} {b : SM} {Q : Fl → S → Prop} : wp (loopF tg b []) s Q E = Q .nx s := rfl
end Wz
theorem wp_loopF_nil {tg : TgM} {b : SM} {Q : Fl → S → Prop} : wp (loopF tg b []) s Q E = Q .nx s := by exact Wz.wp_loopF_nil
namespace Wz
def lpP (fl : Fl) (N : Prop) (s : S) (Q : Fl → S → Prop) : Prop := match fl with
  | .nx => N
  | .ct => N
  | .bk => Q .nx s
  | .rt o => Q (.rt o) s
end Wz
def lpP (fl : Fl) (N : Prop) (s : S) (Q : Fl → S → Prop) (_t0 : Tag N := ⟨⟩) (_t1 : Tag Q := ⟨⟩) : Prop := Wz.lpP fl N s Q
namespace Wz
@[simp] theorem lpP_nx {N : Prop} {Q : Fl → S → Prop} : lpP .nx N s Q = N := id rfl
end Wz
@[simp] theorem lpP_nx {N : Prop} {Q : Fl → S → Prop} : lpP .nx N s Q = N := by exact Wz.lpP_nx
namespace Wz
@[simp] theorem lpP_ct {N : Prop} {Q : Fl → S → Prop} : lpP .ct N s Q = N := id rfl
end Wz
@[simp] theorem lpP_ct {N : Prop} {Q : Fl → S → Prop} : lpP .ct N s Q = N := by exact Wz.lpP_ct
namespace Wz
@[simp] theorem lpP_bk {N : Prop} {Q : Fl → S → Prop} : lpP .bk N s Q = Q .nx s := id rfl
end Wz
@[simp] theorem lpP_bk {N : Prop} {Q : Fl → S → Prop} : lpP .bk N s Q = Q .nx s := by exact Wz.lpP_bk
namespace Wz
@[simp] theorem lpP_rt {N : Prop} {o : O} {Q : Fl → S → Prop} : lpP (.rt o) N s Q = Q (.rt o) s := id rfl
end Wz
@[simp] theorem lpP_rt {N : Prop} {o : O} {Q : Fl → S → Prop} : lpP (.rt o) N s Q = Q (.rt o) s := by exact Wz.lpP_rt
namespace Wz
theorem wp_loopF_cons {tg : TgM} {b : SM} {d : D} {r : List D} {Q : Fl → S → Prop} : wp (loopF tg b (d :: r)) s Q E = optP (tg d s) fun s1 => wp b s1 (fun fl s2 => lpP fl (wp (loopF tg b r) s2 Q E) s2 Q) E := by
  unfold wp
  rw [loopF]
  dsimp only
  cases tg d s with
  | none => rfl
  | some s1 =>
    dsimp only [optP]
    cases b s1 with
    | none => rfl
    | some q => cases q with
      | ex x s2 => rfl
      | ok fl s2 => cases fl <;> rfl
end Wz
theorem wp_loopF_cons {tg : TgM} {b : SM} {d : D} {r : List D} {Q : Fl → S → Prop} : wp (loopF tg b (d :: r)) s Q E = optP (tg d s) fun s1 => wp b s1 (fun fl s2 => lpP fl (wp (loopF tg b r) s2 Q E) s2 Q) E := by exact Wz.wp_loopF_cons
namespace Wz
theorem wp_loop {tg : TgM} {b : SM} {Q : Fl → S → Prop} (I : List D → S → Prop) (ht : ∀ d r s, I (d :: r) s → optP (tg d s) fun s1 => wp b s1 (fun fl s2 => lpP fl (I r s2) s2 Q) E) (he : ∀ s, I [] s → Q .nx s) :
    ∀ (ds : List D) (s : S), I ds s → wp (loopF tg b ds) s Q E
  | [], s, h => he s h
  | d :: r, s, h => by
    rw [wp_loopF_cons]
    have q := ht d r s h
    rw [optP_iff] at q ⊢
    obtain ⟨s1, e1, q⟩ := q
    refine ⟨s1, e1, wp_mono q (fun fl s2 z => ?_) fun _ _ z => z⟩
    cases fl with
    | nx => exact wp_loop I ht he r s2 z
    | ct => exact wp_loop I ht he r s2 z
    | bk => exact z
    | rt o => exact z
end Wz
theorem wp_loop {tg : TgM} {b : SM} {Q : Fl → S → Prop} (I : List D → S → Prop) (ht : ∀ d r s, I (d :: r) s → optP (tg d s) fun s1 => wp b s1 (fun fl s2 => lpP fl (I r s2) s2 Q) E) (he : ∀ s, I [] s → Q .nx s) :
    ∀ (ds : List D) (s : S), I ds s → wp (loopF tg b ds) s Q E := by exact Wz.wp_loop I ht he
namespace Wz
theorem wp_loopW {mt : M Bool} {b : SM} {n : Nat} {Q : Fl → S → Prop} : wp (loopW mt b (n + 1)) s Q E = wp mt s (fun c s1 => ifP c (wp b s1 (fun fl s2 => lpP fl (wp (loopW mt b n) s2 Q E) s2 Q) E) (Q .nx s1)) E := by
  unfold wp
  rw [loopW]
  dsimp only
  cases mt s with
  | none => rfl
  | some r => cases r with
    | ex x s1 => rfl
    | ok c s1 =>
      cases c with
      | false => rfl
      | true =>
        dsimp only [ifP]
        rw [if_pos rfl]
        cases b s1 with
        | none => rfl
        | some r => cases r with
          | ex x s2 => rfl
          | ok fl s2 => cases fl <;> rfl
end Wz
theorem wp_loopW {mt : M Bool} {b : SM} {n : Nat} {Q : Fl → S → Prop} : wp (loopW mt b (n + 1)) s Q E = wp mt s (fun c s1 => ifP c (wp b s1 (fun fl s2 => lpP fl (wp (loopW mt b n) s2 Q E) s2 Q) E) (Q .nx s1)) E := by exact Wz.wp_loopW
namespace Wz
theorem wp_while {mt : M Bool} {b : SM} {Q : Fl → S → Prop} (I : Nat → S → Prop) (ht : ∀ n s, I n s → wp mt s (fun c s1 => ifP c (∃ k, n = k + 1 ∧ wp b s1 (fun fl s2 => lpP fl (∃ j, j ≤ k ∧ I j s2) s2 Q) E) (Q .nx s1)) E) :
    ∀ (n : Nat) (s : S), I n s → ∀ N, n < N → wp (loopW mt b N) s Q E := by
  intro n
  induction n using Nat.strongRecOn with
  | ind n ih =>
    intro s h N hN
    obtain ⟨N, rfl⟩ : ∃ M, N = M + 1 := ⟨N - 1, by omega⟩
    rw [wp_loopW]
    refine wp_mono (ht n s h) (fun c s1 q => ?_) fun _ _ z => z
    cases c with
    | false => exact q
    | true =>
      obtain ⟨k, rfl, q⟩ := q
      refine wp_mono q (fun fl s2 z => ?_) fun _ _ z => z
      cases fl with
      | nx => obtain ⟨j, hj, z⟩ := z; exact ih j (by omega) s2 z N (by omega)
      | ct => obtain ⟨j, hj, z⟩ := z; exact ih j (by omega) s2 z N (by omega)
      | bk => exact z
      | rt o => exact z
end Wz
theorem wp_while {mt : M Bool} {b : SM} {Q : Fl → S → Prop} (I : Nat → S → Prop) (ht : ∀ n s, I n s → wp mt s (fun c s1 => ifP c (∃ k, n = k + 1 ∧ wp b s1 (fun fl s2 => lpP fl (∃ j, j ≤ k ∧ I j s2) s2 Q) E) (Q .nx s1)) E) :
    ∀ (n : Nat) (s : S), I n s → ∀ N, n < N → wp (loopW mt b N) s Q E := by exact Wz.wp_while I ht
def noE : Ex → S → Prop := fun _ _ => False
namespace Wz
theorem wp_comp_inv {vs : List Nat} {mi : M (List D)} {t : TgM} {mc : M Bool} {me : M D} {Q : O → S → Prop} (I : S → List D → List D → List O → List O → Prop)
    (hi : wp mi s (fun ds s1 => ds.length ≤ 1000000 ∧ I s1 [] ds s1.ce s1.tb ∧ (∀ acc ce tb, I s1 acc [] ce tb → Q (.ol acc) ⟨s1.sl, ce, tb⟩) ∧
      ∀ acc d r ce tb, I s1 acc (d :: r) ce tb → optP (t d ⟨wipeL s1.sl vs, ce, tb⟩) fun s2 => wp mc s2 (fun b s3 => ifP b (wp me s3 (fun y s4 => I s1 (acc ++ [y]) r s4.ce s4.tb) noE) (I s1 acc r s3.ce s3.tb)) noE) E) :
    wp (mComp vs mi t mc me) s Q E := by
  unfold mComp
  rw [wp_bnd]
  refine wp_mono hi (fun ds s1 ⟨h1, h2, h3, h4⟩ => ?_) fun _ _ z => z
  have key : ∀ (r acc : List D) (s' : S), acc.length + r.length ≤ 1000000 → I s1 acc r s'.ce s'.tb → ∃ acc' s2, compL (wipeL s1.sl vs) t mc me acc r s' = some (.ok acc' s2) ∧ I s1 acc' [] s2.ce s2.tb := by
    intro r
    induction r with
    | nil => intro acc s' _ h; exact ⟨acc, s', rfl, h⟩
    | cons d r ih =>
      intro acc s' hl h
      simp only [List.length_cons] at hl
      have q := h4 acc d r s'.ce s'.tb h
      rw [optP_iff] at q
      obtain ⟨s2, e2, q⟩ := q
      unfold compL
      have e2' : t d { s' with sl := wipeL s1.sl vs } = some s2 := e2
      rw [e2']
      unfold wp at q
      dsimp only
      cases e3 : mc s2 with
      | none => rw [e3] at q; exact q.elim
      | some r3 => cases r3 with
        | ex x s3 => rw [e3] at q; exact q.elim
        | ok b s3 =>
          rw [e3] at q
          cases b with
          | false => exact ih acc s3 (by omega) q
          | true =>
            dsimp only [ifP] at q ⊢
            rw [if_pos rfl] at q
            cases e4 : me s3 with
            | none => rw [e4] at q; exact q.elim
            | some r4 => cases r4 with
              | ex x s4 => rw [e4] at q; exact q.elim
              | ok y s4 =>
                rw [e4] at q
                dsimp only
                rw [if_pos (by omega)]
                exact ih (acc ++ [y]) s4 (by simp; omega) q
  obtain ⟨acc', s2, e, hI⟩ := key ds [] s1 (by simpa using h1) h2
  unfold wp
  dsimp only
  rw [e]
  exact h3 acc' s2.ce s2.tb hI
end Wz
theorem wp_comp_inv {vs : List Nat} {mi : M (List D)} {t : TgM} {mc : M Bool} {me : M D} {Q : O → S → Prop} (I : S → List D → List D → List O → List O → Prop)
    (hi : wp mi s (fun ds s1 => ds.length ≤ 1000000 ∧ I s1 [] ds s1.ce s1.tb ∧ (∀ acc ce tb, I s1 acc [] ce tb → Q (.ol acc) ⟨s1.sl, ce, tb⟩) ∧
      ∀ acc d r ce tb, I s1 acc (d :: r) ce tb → optP (t d ⟨wipeL s1.sl vs, ce, tb⟩) fun s2 => wp mc s2 (fun b s3 => ifP b (wp me s3 (fun y s4 => I s1 (acc ++ [y]) r s4.ce s4.tb) noE) (I s1 acc r s3.ce s3.tb)) noE) E) :
    wp (mComp vs mi t mc me) s Q E := by exact Wz.wp_comp_inv I hi
namespace Wz
theorem wp_comp {vs : List Nat} {mi : M (List D)} {t : TgM} {mc : M Bool} {me : M D} {Q : O → S → Prop} (p : D → Bool) (f : D → D)
    (hi : wp mi s (fun ds s1 => ds.length ≤ 1000000 ∧ (∀ d ∈ ds, optP (t d ⟨wipeL s1.sl vs, s1.ce, s1.tb⟩) fun s2 => wp mc s2 (fun b s3 => b = p d ∧ s3.ce = s1.ce ∧ s3.tb = s1.tb ∧ (p d = true → wp me s3 (fun y s4 => y = f d ∧ s4.ce = s1.ce ∧ s4.tb = s1.tb) noE)) noE) ∧ Q (.ol ((ds.filter p).map f)) s1) E) :
    wp (mComp vs mi t mc me) s Q E := by
  refine wp_comp_inv (fun s1 acc r ce tb => ∃ ds don, ds = don ++ r ∧ acc = (don.filter p).map f ∧ ce = s1.ce ∧ tb = s1.tb ∧ Q (.ol ((ds.filter p).map f)) s1 ∧ (∀ d ∈ ds, optP (t d ⟨wipeL s1.sl vs, s1.ce, s1.tb⟩) fun s2 => wp mc s2 (fun b s3 => b = p d ∧ s3.ce = s1.ce ∧ s3.tb = s1.tb ∧ (p d = true → wp me s3 (fun y s4 => y = f d ∧ s4.ce = s1.ce ∧ s4.tb = s1.tb) noE)) noE)) ?_
  refine wp_mono hi (fun ds s1 ⟨h1, h2, h3⟩ => ⟨h1, ⟨ds, [], rfl, rfl, rfl, rfl, h3, h2⟩, ?_, ?_⟩) fun _ _ z => z
  · rintro acc ce tb ⟨ds', don, e1, e2, rfl, rfl, q, _⟩
    rw [e2]
    rw [List.append_nil] at e1
    rw [← e1]; exact q
  · rintro acc d r ce tb ⟨ds', don, e1, e2, rfl, rfl, q, hh⟩
    have z := hh d (by rw [e1]; simp)
    rw [optP_iff] at z ⊢
    obtain ⟨s2, a1, z⟩ := z
    refine ⟨s2, a1, wp_mono z ?_ fun _ _ z => z⟩
    rintro b s3 ⟨rfl, c1, c2, c3⟩
    refine ifP_intro (fun hp => ?_) fun hp => ⟨ds', don ++ [d], by rw [e1]; simp, by rw [e2, List.filter_append]; simp [hp], c1, c2, q, hh⟩
    refine wp_mono (c3 hp) ?_ fun _ _ z => z
    rintro y s4 ⟨rfl, d1, d2⟩
    exact ⟨ds', don ++ [d], by rw [e1]; simp, by rw [e2, List.filter_append]; simp [hp], d1, d2, q, hh⟩
end Wz
theorem wp_comp {vs : List Nat} {mi : M (List D)} {t : TgM} {mc : M Bool} {me : M D} {Q : O → S → Prop} (p : D → Bool) (f : D → D)
    (hi : wp mi s (fun ds s1 => ds.length ≤ 1000000 ∧ (∀ d ∈ ds, optP (t d ⟨wipeL s1.sl vs, s1.ce, s1.tb⟩) fun s2 => wp mc s2 (fun b s3 => b = p d ∧ s3.ce = s1.ce ∧ s3.tb = s1.tb ∧ (p d = true → wp me s3 (fun y s4 => y = f d ∧ s4.ce = s1.ce ∧ s4.tb = s1.tb) noE)) noE) ∧ Q (.ol ((ds.filter p).map f)) s1) E) :
    wp (mComp vs mi t mc me) s Q E := by exact Wz.wp_comp p f hi
namespace Wz
theorem wp_map {vs : List Nat} {mi : M (List D)} {t : TgM} {me : M D} {Q : O → S → Prop} (f : D → D)
    (hi : wp mi s (fun ds s1 => ds.length ≤ 1000000 ∧ (∀ d ∈ ds, optP (t d ⟨wipeL s1.sl vs, s1.ce, s1.tb⟩) fun s2 => wp me s2 (fun y s4 => y = f d ∧ s4.ce = s1.ce ∧ s4.tb = s1.tb) noE) ∧ Q (.ol (ds.map f)) s1) E) :
    wp (mComp vs mi t (ret true) me) s Q E := by
  refine wp_comp_inv (fun s1 acc r ce tb => ∃ ds don, ds = don ++ r ∧ acc = don.map f ∧ ce = s1.ce ∧ tb = s1.tb ∧ Q (.ol (ds.map f)) s1 ∧ (∀ d ∈ ds, optP (t d ⟨wipeL s1.sl vs, s1.ce, s1.tb⟩) fun s2 => wp me s2 (fun y s4 => y = f d ∧ s4.ce = s1.ce ∧ s4.tb = s1.tb) noE)) ?_
  refine wp_mono hi (fun ds s1 ⟨h1, h2, h3⟩ => ⟨h1, ⟨ds, [], rfl, rfl, rfl, rfl, h3, h2⟩, ?_, ?_⟩) fun _ _ z => z
  · rintro acc ce tb ⟨ds', don, e1, e2, rfl, rfl, q, _⟩
    rw [e2]
    rw [List.append_nil] at e1
    rw [← e1]; exact q
  · rintro acc d r ce tb ⟨ds', don, e1, e2, rfl, rfl, q, hh⟩
    have z := hh d (by rw [e1]; simp)
    rw [optP_iff] at z ⊢
    obtain ⟨s2, a1, z⟩ := z
    refine ⟨s2, a1, ?_⟩
    rw [wp_ret, ifP_true]
    refine wp_mono z ?_ fun _ _ z => z
    rintro y s4 ⟨rfl, d1, d2⟩
    exact ⟨ds', don ++ [d], by rw [e1]; simp, by rw [e2]; simp, d1, d2, q, hh⟩
end Wz
theorem wp_map {vs : List Nat} {mi : M (List D)} {t : TgM} {me : M D} {Q : O → S → Prop} (f : D → D)
    (hi : wp mi s (fun ds s1 => ds.length ≤ 1000000 ∧ (∀ d ∈ ds, optP (t d ⟨wipeL s1.sl vs, s1.ce, s1.tb⟩) fun s2 => wp me s2 (fun y s4 => y = f d ∧ s4.ce = s1.ce ∧ s4.tb = s1.tb) noE) ∧ Q (.ol (ds.map f)) s1) E) :
    wp (mComp vs mi t (ret true) me) s Q E := by exact Wz.wp_map f hi
end
section
variable {α β : Type} {s : S} {sl : List (Option Vl)} {ce tb : List O} {E : Ex → S → Prop}
def passV (s : S) (v : Option Vl) (r : List Ref) (ns : List Nat) : Option (List Vl × List Nat) := match v with
  | some (.sh d) => (passL s r ns).map fun z => (.sh d :: z.1, z.2)
  | some (.pt n) => if n ∈ ns then none else (passL s r (ns ++ [n])).map fun z => (.pt ns.length :: z.1, z.2)
  | none => none
@[simp] theorem passL_nil {ns : List Nat} : passL s [] ns = some ([], ns) := id rfl
@[simp] theorem passL_va {d : D} {r : List Ref} {ns : List Nat} : passL s (.va d :: r) ns = (passL s r ns).map fun z => (.sh d :: z.1, z.2) := id rfl
@[simp] theorem passL_sl {i : Nat} {r : List Ref} {ns : List Nat} : passL s (.sl i :: r) ns = passV s (slot s.sl i) r ns := by
  rw [passL]; unfold passV slot
  cases s.sl[i]? with
  | none => rfl
  | some v => cases v with
    | none => rfl
    | some v => cases v <;> rfl
@[simp] theorem passV_sh {d : D} {r : List Ref} {ns : List Nat} : passV s (some (.sh d)) r ns = (passL s r ns).map fun z => (.sh d :: z.1, z.2) := id rfl
@[simp] theorem passV_pt {n : Nat} {r : List Ref} {ns : List Nat} : passV s (some (.pt n)) r ns = if n ∈ ns then none else (passL s r (ns ++ [n])).map fun z => (.pt ns.length :: z.1, z.2) := id rfl
@[simp] theorem upds_nil {c os : List O} : upds c [] os = c := by unfold upds; rfl
@[simp] theorem upds_cons {c os : List O} {n : Nat} {ns : List Nat} {o : O} : upds c (n :: ns) (o :: os) = upds (c.set n o) ns os := id rfl
namespace Wz
@[simp] theorem wp_callF {F : Fn} {refs : List Ref} {Q : O → S → Prop} : wp (callF F refs) s Q E = optP (passL s refs []) fun z => wpF F z.1 (z.2.map fun n => s.ce.getD n default) s.tb (fun o ce tb => ce.length = z.2.length ∧ Q o ⟨s.sl, upds s.ce z.2 ce, tb⟩) (fun x ce tb => ce.length = z.2.length ∧ E x ⟨s.sl, upds s.ce z.2 ce, tb⟩) := by
  unfold wp callF wpF
  dsimp only
  cases passL s refs [] with
  | none => rfl
  | some z =>
    obtain ⟨args, ns⟩ := z
    dsimp only [optP]
    cases F args (ns.map fun n => s.ce.getD n default) s.tb with
    | none => rfl
    | some r => cases r with
      | ok o ce tb => dsimp only; by_cases h : ce.length = ns.length <;> simp [h]
      | ex x ce tb => dsimp only; by_cases h : ce.length = ns.length <;> simp [h]
end Wz
@[simp] theorem wp_callF {F : Fn} {refs : List Ref} {Q : O → S → Prop} : wp (callF F refs) s Q E = optP (passL s refs []) fun z => wpF F z.1 (z.2.map fun n => s.ce.getD n default) s.tb (fun o ce tb => ce.length = z.2.length ∧ Q o ⟨s.sl, upds s.ce z.2 ce, tb⟩) (fun x ce tb => ce.length = z.2.length ∧ E x ⟨s.sl, upds s.ce z.2 ce, tb⟩) := by exact Wz.wp_callF
namespace Wz
@[simp] theorem wp_mCall {F : Fn} {dd : List D} {m : M (List Ref)} {Q : O → S → Prop} : wp (mCall F dd m) s Q E = wp m s (fun rs s' => wp (callF F (rs ++ dd.map .va)) s' Q E) E := by unfold mCall; rw [wp_bnd]
end Wz
@[simp] theorem wp_mCall {F : Fn} {dd : List D} {m : M (List Ref)} {Q : O → S → Prop} : wp (mCall F dd m) s Q E = wp m s (fun rs s' => wp (callF F (rs ++ dd.map .va)) s' Q E) E := by exact Wz.wp_mCall
namespace Wz
@[simp] theorem wp_mCallK {F : Fn} {G : List Ref → List Ref → List Ref} {ma mk : M (List Ref)} {Q : O → S → Prop} : wp (mCallK F G ma mk) s Q E = wp ma s (fun rs s1 => wp mk s1 (fun zs s2 => wp (callF F (G rs zs)) s2 Q E) E) E := by unfold mCallK; rw [wp_bnd]; simp only [wp_bnd]
end Wz
@[simp] theorem wp_mCallK {F : Fn} {G : List Ref → List Ref → List Ref} {ma mk : M (List Ref)} {Q : O → S → Prop} : wp (mCallK F G ma mk) s Q E = wp ma s (fun rs s1 => wp mk s1 (fun zs s2 => wp (callF F (G rs zs)) s2 Q E) E) E := by exact Wz.wp_mCallK
namespace Wz
def fnP (fl : Fl) (Q : O → Prop) : Prop := match fl with
  | .nx => Q (.sh .non)
  | .rt o => Q o
  | _ => False
end Wz
def fnP (fl : Fl) (Q : O → Prop) (_t0 : Tag Q := ⟨⟩) : Prop := Wz.fnP fl Q
namespace Wz
@[simp] theorem fnP_nx {Q : O → Prop} : fnP .nx Q = Q (.sh .non) := id rfl
end Wz
@[simp] theorem fnP_nx {Q : O → Prop} : fnP .nx Q = Q (.sh .non) := by exact Wz.fnP_nx
namespace Wz
@[simp] theorem fnP_rt {o : O} {Q : O → Prop} : fnP (.rt o) Q = Q o := id rfl
end Wz
@[simp] theorem fnP_rt {o : O} {Q : O → Prop} : fnP (.rt o) Q = Q o := by exact Wz.fnP_rt
namespace Wz
theorem wpF_mk {n : Nat} {m : SM} {args : List Vl} {Q : O → List O → List O → Prop} {E : Ex → List O → List O → Prop} : wpF (mkFn n m) args ce tb Q E = wp m ⟨args.map some ++ List.replicate (n - args.length) none, ce, tb⟩ (fun fl s => fnP fl fun o => Q o (s.ce.take ce.length) s.tb) (fun x s => E x (s.ce.take ce.length) s.tb) := by
  unfold wpF mkFn wp
  dsimp only
  cases m ⟨args.map some ++ List.replicate (n - args.length) none, ce, tb⟩ with
  | none => rfl
  | some r => cases r with
    | ex x s => rfl
    | ok fl s => cases fl <;> rfl
end Wz
theorem wpF_mk {n : Nat} {m : SM} {args : List Vl} {Q : O → List O → List O → Prop} {E : Ex → List O → List O → Prop} : wpF (mkFn n m) args ce tb Q E = wp m ⟨args.map some ++ List.replicate (n - args.length) none, ce, tb⟩ (fun fl s => fnP fl fun o => Q o (s.ce.take ce.length) s.tb) (fun x s => E x (s.ce.take ce.length) s.tb) := by exact Wz.wpF_mk
namespace Wz
def stP (d : D) (Q : Str → Prop) : Prop := match d with
  | .str y => Q y
  | _ => False
end Wz
def stP (d : D) (Q : Str → Prop) (_t0 : Tag Q := ⟨⟩) : Prop := Wz.stP d Q
namespace Wz
@[simp] theorem stP_str {y : Str} {Q : Str → Prop} : stP (.str y) Q = Q y := id rfl
end Wz
@[simp] theorem stP_str {y : Str} {Q : Str → Prop} : stP (.str y) Q = Q y := by exact Wz.stP_str
namespace Wz
@[simp] theorem wp_mStr {m : M D} {Q : Str → S → Prop} : wp (mStr m) s Q E = wp m s (fun d s' => stP d fun y => Q y s') E := by
  unfold mStr; rw [wp_bnd]; congr 1; funext d s'; rw [wp_look]; unfold stP; cases d <;> rfl
end Wz
@[simp] theorem wp_mStr {m : M D} {Q : Str → S → Prop} : wp (mStr m) s Q E = wp m s (fun d s' => stP d fun y => Q y s') E := by exact Wz.wp_mStr
namespace Wz
@[simp] theorem wp_strM {f : Str → D → Option O} {ma : M D} {mb : M Ref} {Q : O → S → Prop} : wp (strM f ma mb) s Q E = wp ma s (fun d s1 => stP d fun x => wp mb s1 (fun q s2 => optP (view s2 q) fun y => optP (f x y) fun o => Q o s2) E) E := by
  unfold strM; rw [wp_bnd, wp_mStr]; simp only [wp_bnd, wp_look, optP_bind]
end Wz
@[simp] theorem wp_strM {f : Str → D → Option O} {ma : M D} {mb : M Ref} {Q : O → S → Prop} : wp (strM f ma mb) s Q E = wp ma s (fun d s1 => stP d fun x => wp mb s1 (fun q s2 => optP (view s2 q) fun y => optP (f x y) fun o => Q o s2) E) E := by exact Wz.wp_strM
def fmtD (d : D) : Option Str := match d with
  | .str y => if y.length ≤ 1000000 then some y else none
  | .int i => if i.natAbs.log2 < 1920 then some (strI i) else none
  | _ => none
@[simp] theorem fmtD_str {y : Str} : fmtD (.str y) = if y.length ≤ 1000000 then some y else none := id rfl
@[simp] theorem fmtD_int {i : Int} : fmtD (.int i) = if i.natAbs.log2 < 1920 then some (strI i) else none := id rfl
namespace Wz
@[simp] theorem wp_mFmt {m : M D} {Q : Str → S → Prop} : wp (mFmt m) s Q E = wp m s (fun d s' => optP (fmtD d) fun y => Q y s') E := by
  unfold mFmt; rw [wp_bnd]; congr 1; funext d s'; rw [wp_look]; cases d <;> rfl
end Wz
@[simp] theorem wp_mFmt {m : M D} {Q : Str → S → Prop} : wp (mFmt m) s Q E = wp m s (fun d s' => optP (fmtD d) fun y => Q y s') E := by exact Wz.wp_mFmt
namespace Wz
@[simp] theorem wp_mJ_nil {acc : Str} {Q : Str → S → Prop} : wp (mJ [] acc) s Q E = Q acc s := id rfl
end Wz
@[simp] theorem wp_mJ_nil {acc : Str} {Q : Str → S → Prop} : wp (mJ [] acc) s Q E = Q acc s := by exact Wz.wp_mJ_nil
namespace Wz
@[simp] theorem wp_mJ_cons {m : M Str} {ms : List (M Str)} {acc : Str} {Q : Str → S → Prop} : wp (mJ (m :: ms) acc) s Q E = wp m s (fun y s' => (acc ++ y).length ≤ 1000000 ∧ wp (mJ ms (acc ++ y)) s' Q E) E := by
  rw [mJ]; simp only [wp_bnd, wp_look, optP_ite]
end Wz
@[simp] theorem wp_mJ_cons {m : M Str} {ms : List (M Str)} {acc : Str} {Q : Str → S → Prop} : wp (mJ (m :: ms) acc) s Q E = wp m s (fun y s' => (acc ++ y).length ≤ 1000000 ∧ wp (mJ ms (acc ++ y)) s' Q E) E := by exact Wz.wp_mJ_cons
namespace Wz
@[simp] theorem wp_mStrD {m : M Str} {Q : D → S → Prop} : wp (mStrD m) s Q E = wp m s (fun y s' => Q (.str y) s') E := by unfold mStrD; simp only [wp_bnd, wp_ret]
end Wz
@[simp] theorem wp_mStrD {m : M Str} {Q : D → S → Prop} : wp (mStrD m) s Q E = wp m s (fun y s' => Q (.str y) s') E := by exact Wz.wp_mStrD
namespace Wz
def inP (d : D) (Q : Int → Prop) : Prop := match d with
  | .int i => Q i
  | _ => False
end Wz
def inP (d : D) (Q : Int → Prop) (_t0 : Tag Q := ⟨⟩) : Prop := Wz.inP d Q
namespace Wz
@[simp] theorem inP_int {i : Int} {Q : Int → Prop} : inP (.int i) Q = Q i := id rfl
end Wz
@[simp] theorem inP_int {i : Int} {Q : Int → Prop} : inP (.int i) Q = Q i := by exact Wz.inP_int
namespace Wz
@[simp] theorem wp_mPart {m : M D} {Q : Option Int → S → Prop} : wp (mPart m) s Q E = wp m s (fun d s' => inP d fun i => Q (some i) s') E := by
  unfold mPart; rw [wp_bnd]; congr 1; funext d s'; rw [wp_look]; unfold inP; cases d <;> rfl
end Wz
@[simp] theorem wp_mPart {m : M D} {Q : Option Int → S → Prop} : wp (mPart m) s Q E = wp m s (fun d s' => inP d fun i => Q (some i) s') E := by exact Wz.wp_mPart
namespace Wz
@[simp] theorem wp_slM {f : D → Option Int → Option Int → Option O} {ma : M Ref} {ml mh : M (Option Int)} {Q : O → S → Prop} : wp (slM f ma ml mh) s Q E = wp ma s (fun r s1 => wp ml s1 (fun lo s2 => wp mh s2 (fun hi s3 => optP (view s3 r) fun x => optP (f x lo hi) fun o => Q o s3) E) E) E := by
  unfold slM; simp only [wp_bnd, wp_look, optP_bind]
end Wz
@[simp] theorem wp_slM {f : D → Option Int → Option Int → Option O} {ma : M Ref} {ml mh : M (Option Int)} {Q : O → S → Prop} : wp (slM f ma ml mh) s Q E = wp ma s (fun r s1 => wp ml s1 (fun lo s2 => wp mh s2 (fun hi s3 => optP (view s3 r) fun x => optP (f x lo hi) fun o => Q o s3) E) E) E := by exact Wz.wp_slM
def cellLV (ce : List O) (v : Option Vl) : Option (Nat × List D) := match v with
  | some (.pt n) => match ce[n]? with
    | some (.ol ds) => some (n, ds)
    | _ => none
  | _ => none
def lstO (n : Nat) (o : Option O) : Option (Nat × List D) := match o with
  | some (.ol ds) => some (n, ds)
  | _ => none
@[simp] theorem lstO_ol {n : Nat} {ds : List D} : lstO n (some (.ol ds)) = some (n, ds) := id rfl
@[simp] theorem cellLV_pt {n : Nat} : cellLV ce (some (.pt n)) = lstO n ce[n]? := id rfl
@[simp] theorem cellL_at {i : Nat} : cellL ⟨sl, ce, tb⟩ i = cellLV ce (slot sl i) := by
  unfold cellL cellOf slot cellLV
  dsimp only
  cases sl[i]? with
  | none => rfl
  | some v => cases v with
    | none => rfl
    | some v => cases v with
      | sh d => rfl
      | pt n =>
        dsimp only
        cases ce[n]? with
        | none => rfl
        | some o => cases o <;> rfl
namespace Wz
@[simp] theorem wp_mMeL {i : Nat} {f : LM} {ma : M (List D)} {Q : O → S → Prop} : wp (mMeL i f ma) s Q E = optP (cellL s i) fun _ => wp ma s (fun xs s' => optP (cellL s' i) fun z => optP (f z.2 xs) fun w => Q (.sh w.2) ⟨s'.sl, s'.ce.set z.1 (.ol w.1), s'.tb⟩) E := by
  unfold mMeL; rw [wp_bnd, wp_look]; congr 1; funext _; rw [wp_bnd]; congr 1; funext xs s'
  unfold wp
  dsimp only
  cases cellL s' i with
  | none => rfl
  | some z =>
    dsimp only [optP]
    cases f z.2 xs <;> rfl
end Wz
@[simp] theorem wp_mMeL {i : Nat} {f : LM} {ma : M (List D)} {Q : O → S → Prop} : wp (mMeL i f ma) s Q E = optP (cellL s i) fun _ => wp ma s (fun xs s' => optP (cellL s' i) fun z => optP (f z.2 xs) fun w => Q (.sh w.2) ⟨s'.sl, s'.ce.set z.1 (.ol w.1), s'.tb⟩) E := by exact Wz.wp_mMeL
namespace Wz
@[simp] theorem wp_mSetIx {i : Nat} {mv mi : M D} {Q : Fl → S → Prop} : wp (mSetIx i mv mi) s Q E = wp mv s (fun d s1 => optP (cellL s1 i) fun _ => wp mi s1 (fun k s2 => optP (cellL s2 i) fun z => inP k fun j => optP (ixN z.2.length j) fun q => Q .nx ⟨s2.sl, s2.ce.set z.1 (.ol (z.2.set q d)), s2.tb⟩) E) E := by
  unfold mSetIx; rw [wp_bnd]; congr 1; funext d s1; rw [wp_bnd, wp_look]; congr 1; funext _; rw [wp_bnd]; congr 1; funext k s2
  unfold wp
  dsimp only
  cases cellL s2 i with
  | none => cases k <;> rfl
  | some z =>
    dsimp only [optP]
    cases k with
    | int j => dsimp only [inP]; cases ixN z.2.length j <;> rfl
    | _ => rfl
end Wz
@[simp] theorem wp_mSetIx {i : Nat} {mv mi : M D} {Q : Fl → S → Prop} : wp (mSetIx i mv mi) s Q E = wp mv s (fun d s1 => optP (cellL s1 i) fun _ => wp mi s1 (fun k s2 => optP (cellL s2 i) fun z => inP k fun j => optP (ixN z.2.length j) fun q => Q .nx ⟨s2.sl, s2.ce.set z.1 (.ol (z.2.set q d)), s2.tb⟩) E) E := by exact Wz.wp_mSetIx
@[simp] theorem fAppend_eq {ds : List D} {y : D} : fAppend ds [y] = if ds.length < 1000000 then some (ds ++ [y], .non) else none := id rfl
@[simp] theorem fExtend_eq {ds es : List D} : fExtend ds [.lst es] = if ds.length + es.length ≤ 1000000 then some (ds ++ es, .non) else none := id rfl
@[simp] theorem fPopAt_eq {ds : List D} {i : Int} : fPopAt ds [.int i] = if small62 i = true then (seqIndex? i ds.length).bind fun k => (ds[k]?).map fun y => (ds.eraseIdx k, y) else none := id rfl
def cellIV (ce : List O) (v : Option Vl) : Option (Nat × Str × List (Str × D)) := match v with
  | some (.pt n) => match ce[n]? with
    | some (.oi c ds) => some (n, c, ds)
    | _ => none
  | _ => none
def insO (n : Nat) (o : Option O) : Option (Nat × Str × List (Str × D)) := match o with
  | some (.oi c ds) => some (n, c, ds)
  | _ => none
@[simp] theorem insO_oi {n : Nat} {c : Str} {ds : List (Str × D)} : insO n (some (.oi c ds)) = some (n, c, ds) := id rfl
@[simp] theorem cellIV_pt {n : Nat} : cellIV ce (some (.pt n)) = insO n ce[n]? := id rfl
@[simp] theorem cellI_at {i : Nat} : cellI ⟨sl, ce, tb⟩ i = cellIV ce (slot sl i) := by
  unfold cellI cellOf slot cellIV
  dsimp only
  cases sl[i]? with
  | none => rfl
  | some v => cases v with
    | none => rfl
    | some v => cases v with
      | sh d => rfl
      | pt n =>
        dsimp only
        cases ce[n]? with
        | none => rfl
        | some o => cases o <;> rfl
namespace Wz
@[simp] theorem wp_mSetFld {i : Nat} {cs : List Str} {f : Str} {mv : M D} {Q : Fl → S → Prop} : wp (mSetFld i cs f mv) s Q E = wp mv s (fun d s' => optP (cellI s' i) fun z => (z.2.1 ∈ cs ∧ z.2.2.length < 1000) ∧ Q .nx ⟨s'.sl, s'.ce.set z.1 (.oi z.2.1 (putFD f d z.2.2)), s'.tb⟩) E := by
  unfold mSetFld; rw [wp_bnd]; congr 1; funext d s'
  unfold wp
  dsimp only
  cases cellI s' i with
  | none => rfl
  | some z =>
    obtain ⟨n, c, fs⟩ := z
    dsimp only [optP]
    by_cases h : c ∈ cs ∧ fs.length < 1000
    · rw [if_pos h]; simp [h]
    · rw [if_neg h]; simp [h]
end Wz
@[simp] theorem wp_mSetFld {i : Nat} {cs : List Str} {f : Str} {mv : M D} {Q : Fl → S → Prop} : wp (mSetFld i cs f mv) s Q E = wp mv s (fun d s' => optP (cellI s' i) fun z => (z.2.1 ∈ cs ∧ z.2.2.length < 1000) ∧ Q .nx ⟨s'.sl, s'.ce.set z.1 (.oi z.2.1 (putFD f d z.2.2)), s'.tb⟩) E := by exact Wz.wp_mSetFld
def clsD (c m : Str) (d : D) : Option Unit := match d with
  | .ins c' fs => if c' = c ∧ fs.lookup m = none then some () else none
  | _ => none
@[simp] theorem clsD_ins {c m c' : Str} {fs : List (Str × D)} : clsD c m (.ins c' fs) = if c' = c ∧ fs.lookup m = none then some () else none := id rfl
@[simp] theorem clsOk_eq {c m : Str} {r : Ref} : clsOk c m s r = (view s r).bind (clsD c m) := by
  unfold clsOk clsD
  cases view s r with
  | none => rfl
  | some d => cases d <;> rfl
namespace Wz
@[simp] theorem wp_mMeth {F : Fn} {c m : Str} {ma : M Ref} {mr : M (List Ref)} {Q : O → S → Prop} : wp (mMeth F c m ma mr) s Q E = wp ma s (fun r s1 => optP (view s1 r) fun d => optP (clsD c m d) fun _ => wp mr s1 (fun rs s2 => wp (callF F (r :: rs)) s2 Q E) E) E := by
  unfold mMeth; simp only [wp_bnd, wp_look, clsOk_eq, optP_bind]
end Wz
@[simp] theorem wp_mMeth {F : Fn} {c m : Str} {ma : M Ref} {mr : M (List Ref)} {Q : O → S → Prop} : wp (mMeth F c m ma mr) s Q E = wp ma s (fun r s1 => optP (view s1 r) fun d => optP (clsD c m d) fun _ => wp mr s1 (fun rs s2 => wp (callF F (r :: rs)) s2 Q E) E) E := by exact Wz.wp_mMeth
namespace Wz
def nonP (o : O) (Q : Prop) : Prop := match o with
  | .sh .non => Q
  | _ => False
end Wz
def nonP (o : O) (Q : Prop) (_t0 : Tag Q := ⟨⟩) : Prop := Wz.nonP o Q
namespace Wz
@[simp] theorem nonP_non {Q : Prop} : nonP (.sh .non) Q = Q := id rfl
end Wz
@[simp] theorem nonP_non {Q : Prop} : nonP (.sh .non) Q = Q := by exact Wz.nonP_non
namespace Wz
theorem wp_mkCall {F : Fn} {c : Str} {G : List Ref → List Ref} {Q : O → S → Prop} : wp (mkCall F c G) s Q E = wp (callF F (G [.sl s.sl.length])) ⟨s.sl ++ [some (.pt s.ce.length)], s.ce ++ [.oi c []], s.tb⟩ (fun o s' => nonP o (optP s'.ce[s.ce.length]? fun o => Q o ⟨s.sl, s'.ce.set s.ce.length .gone, s'.tb⟩)) (fun x s' => E x ⟨s.sl, s'.ce, s'.tb⟩) := by
  unfold wp mkCall
  dsimp only
  cases callF F (G [.sl s.sl.length]) ⟨s.sl ++ [some (.pt s.ce.length)], s.ce ++ [.oi c []], s.tb⟩ with
  | none => rfl
  | some r => cases r with
    | ex x s' => rfl
    | ok o s' =>
      cases o with
      | sh d => cases d with
        | non => dsimp only [nonP]; cases s'.ce[s.ce.length]? <;> rfl
        | _ => rfl
      | _ => rfl
end Wz
theorem wp_mkCall {F : Fn} {c : Str} {G : List Ref → List Ref} {Q : O → S → Prop} : wp (mkCall F c G) s Q E = wp (callF F (G [.sl s.sl.length])) ⟨s.sl ++ [some (.pt s.ce.length)], s.ce ++ [.oi c []], s.tb⟩ (fun o s' => nonP o (optP s'.ce[s.ce.length]? fun o => Q o ⟨s.sl, s'.ce.set s.ce.length .gone, s'.tb⟩)) (fun x s' => E x ⟨s.sl, s'.ce, s'.tb⟩) := by exact Wz.wp_mkCall
namespace Wz
@[simp] theorem wp_mMake {F : Fn} {c : Str} {G : List Ref → List Ref → List Ref} {ma mk : M (List Ref)} {Q : O → S → Prop} : wp (mMake F c G ma mk) s Q E = wp ma s (fun rs s1 => wp mk s1 (fun zs s2 => wp (mkCall F c fun r => G (r ++ rs) zs) s2 Q E) E) E := by unfold mMake; simp only [wp_bnd]
end Wz
@[simp] theorem wp_mMake {F : Fn} {c : Str} {G : List Ref → List Ref → List Ref} {ma mk : M (List Ref)} {Q : O → S → Prop} : wp (mMake F c G ma mk) s Q E = wp ma s (fun rs s1 => wp mk s1 (fun zs s2 => wp (mkCall F c fun r => G (r ++ rs) zs) s2 Q E) E) E := by exact Wz.wp_mMake
namespace Wz
@[simp] theorem wp_mPairs_nil {Q : List (Key × D) → S → Prop} : wp (mPairs []) s Q E = Q [] s := id rfl
end Wz
@[simp] theorem wp_mPairs_nil {Q : List (Key × D) → S → Prop} : wp (mPairs []) s Q E = Q [] s := by exact Wz.wp_mPairs_nil
namespace Wz
@[simp] theorem wp_mPairs_cons {mk mv : M D} {r : List (M D × M D)} {Q : List (Key × D) → S → Prop} : wp (mPairs ((mk, mv) :: r)) s Q E = wp mk s (fun d s1 => wp mv s1 (fun e s2 => wp (mPairs r) s2 (fun ps s3 => optP (keyD d) fun k => Q ((k, e) :: ps) s3) E) E) E := by
  rw [mPairs]; simp only [wp_bnd, wp_look, optP_map]
end Wz
@[simp] theorem wp_mPairs_cons {mk mv : M D} {r : List (M D × M D)} {Q : List (Key × D) → S → Prop} : wp (mPairs ((mk, mv) :: r)) s Q E = wp mk s (fun d s1 => wp mv s1 (fun e s2 => wp (mPairs r) s2 (fun ps s3 => optP (keyD d) fun k => Q ((k, e) :: ps) s3) E) E) E := by exact Wz.wp_mPairs_cons
namespace Wz
@[simp] theorem wp_mDisp {ms : List (M D × M D)} {Q : O → S → Prop} : wp (mDisp ms) s Q E = wp (mPairs ms) s (fun kvs s' => kvs.length ≤ 15 ∧ Q (.ok (mergeD [] kvs)) s') E := by unfold mDisp; simp only [wp_bnd, wp_look, optP_ite]
end Wz
@[simp] theorem wp_mDisp {ms : List (M D × M D)} {Q : O → S → Prop} : wp (mDisp ms) s Q E = wp (mPairs ms) s (fun kvs s' => kvs.length ≤ 15 ∧ Q (.ok (mergeD [] kvs)) s') E := by exact Wz.wp_mDisp
def sideD (c : Str) (x y : D) : Option Bool := match x, y with
  | .ins c1 _, .ins c2 _ => if c1 = c ∧ c2 = c then some true else none
  | .ins c1 _, d => if c1 = c ∧ (tyD d).isSome = true then some true else none
  | d, .ins c2 _ => if c2 = c ∧ (tyD d).isSome = true then some false else none
  | _, _ => none
@[simp] theorem sideO_eq {c : Str} {r q : Ref} : sideO c s r q = (view s r).bind fun x => (view s q).bind fun y => sideD c x y := by
  unfold sideO sideD
  cases view s r with
  | none => cases view s q <;> rfl
  | some x => cases view s q with
    | none => cases x <;> rfl
    | some y => cases x <;> cases y <;> rfl
namespace Wz
@[simp] theorem wp_blO {neg : Bool} {m : M O} {Q : O → S → Prop} : wp (blO neg m) s Q E = wp m s (fun o s' => blP o fun b => Q (.sh (.bl (if neg then !b else b))) s') E := by
  unfold blO; rw [wp_bnd]; congr 1; funext o s'; rw [wp_look]; unfold blP
  cases o with
  | sh d => cases d <;> rfl
  | _ => rfl
end Wz
@[simp] theorem wp_blO {neg : Bool} {m : M O} {Q : O → S → Prop} : wp (blO neg m) s Q E = wp m s (fun o s' => blP o fun b => Q (.sh (.bl (if neg then !b else b))) s') E := by exact Wz.wp_blO
namespace Wz
@[simp] theorem wp_mEqO {F : Fn} {c : Str} {ma mb : M Ref} {Q : O → S → Prop} : wp (mEqO F c ma mb) s Q E = wp ma s (fun r s1 => wp mb s1 (fun q s2 => optP (view s2 r) fun x => optP (view s2 q) fun y => optP (sideD c x y) fun l => wp (callF F (if l = true then [r, q] else [q, r])) s2 (fun o s' => blP o fun b => Q (.sh (.bl b)) s') E) E) E := by
  unfold mEqO; simp only [wp_bnd, wp_look, sideO_eq, optP_bind, wp_blO, Bool.false_eq_true, if_false]
end Wz
@[simp] theorem wp_mEqO {F : Fn} {c : Str} {ma mb : M Ref} {Q : O → S → Prop} : wp (mEqO F c ma mb) s Q E = wp ma s (fun r s1 => wp mb s1 (fun q s2 => optP (view s2 r) fun x => optP (view s2 q) fun y => optP (sideD c x y) fun l => wp (callF F (if l = true then [r, q] else [q, r])) s2 (fun o s' => blP o fun b => Q (.sh (.bl b)) s') E) E) E := by exact Wz.wp_mEqO
namespace Wz
@[simp] theorem wp_mNeO {F : Fn} {c : Str} {ma mb : M Ref} {Q : O → S → Prop} : wp (mNeO F c ma mb) s Q E = wp ma s (fun r s1 => wp mb s1 (fun q s2 => optP (view s2 r) fun x => optP (view s2 q) fun y => sideD c x y = some true ∧ wp (callF F [r, q]) s2 (fun o s' => blP o fun b => Q (.sh (.bl (!b))) s') E) E) E := by
  unfold mNeO; simp only [wp_bnd, wp_look, sideO_eq, wp_blO, if_true]
  congr 1; funext r s1; congr 1; funext q s2
  cases view s2 r with
  | none => rfl
  | some x => cases view s2 q with
    | none => rfl
    | some y =>
      simp only [Option.bind_some, optP_some]
      cases sideD c x y with
      | none => simp
      | some b => cases b <;> simp
end Wz
@[simp] theorem wp_mNeO {F : Fn} {c : Str} {ma mb : M Ref} {Q : O → S → Prop} : wp (mNeO F c ma mb) s Q E = wp ma s (fun r s1 => wp mb s1 (fun q s2 => optP (view s2 r) fun x => optP (view s2 q) fun y => sideD c x y = some true ∧ wp (callF F [r, q]) s2 (fun o s' => blP o fun b => Q (.sh (.bl (!b))) s') E) E) E := by exact Wz.wp_mNeO
namespace Wz
def insP (c : Str) (d : D) (Q : Prop) : Prop := match d with
  | .ins c' _ => c' = c ∧ Q
  | _ => False
end Wz
def insP (c : Str) (d : D) (Q : Prop) (_t0 : Tag Q := ⟨⟩) : Prop := Wz.insP c d Q
namespace Wz
@[simp] theorem insP_ins {c c' : Str} {fs : List (Str × D)} {Q : Prop} : insP c (.ins c' fs) Q = (c' = c ∧ Q) := id rfl
end Wz
@[simp] theorem insP_ins {c c' : Str} {fs : List (Str × D)} {Q : Prop} : insP c (.ins c' fs) Q = (c' = c ∧ Q) := by exact Wz.insP_ins
namespace Wz
def soP (o : O) (Q : Str → Prop) : Prop := match o with
  | .sh (.str y) => Q y
  | _ => False
end Wz
def soP (o : O) (Q : Str → Prop) (_t0 : Tag Q := ⟨⟩) : Prop := Wz.soP o Q
namespace Wz
@[simp] theorem soP_str {y : Str} {Q : Str → Prop} : soP (.sh (.str y)) Q = Q y := id rfl
end Wz
@[simp] theorem soP_str {y : Str} {Q : Str → Prop} : soP (.sh (.str y)) Q = Q y := by exact Wz.soP_str
namespace Wz
@[simp] theorem wp_mReprO {F : Fn} {c : Str} {ma : M Ref} {Q : O → S → Prop} : wp (mReprO F c ma) s Q E = wp ma s (fun r s1 => optP (view s1 r) fun d => insP c d (wp (callF F [r]) s1 (fun o s2 => soP o fun y => Q (.sh (.str y)) s2) E)) E := by
  unfold mReprO; rw [wp_bnd]; congr 1; funext r s1; rw [wp_bnd, wp_look]
  cases view s1 r with
  | none => rfl
  | some d =>
    have key : ∀ m : M O, wp (bnd m fun o => look fun _ => match o with
      | .sh (.str y) => some (.sh (.str y))
      | _ => none) s1 Q E = wp m s1 (fun o s2 => soP o fun y => Q (.sh (.str y)) s2) E := fun m => by
      rw [wp_bnd]; congr 1; funext o s2; rw [wp_look]; unfold soP
      cases o with
      | sh d => cases d <;> rfl
      | _ => rfl
    cases d with
    | ins c' fs =>
      dsimp only [optP, insP]
      by_cases h : c' = c
      · subst h; rw [if_pos rfl]; simp only [true_and]; exact key _
      · rw [if_neg h]; simp [h]
    | _ => rfl
end Wz
@[simp] theorem wp_mReprO {F : Fn} {c : Str} {ma : M Ref} {Q : O → S → Prop} : wp (mReprO F c ma) s Q E = wp ma s (fun r s1 => optP (view s1 r) fun d => insP c d (wp (callF F [r]) s1 (fun o s2 => soP o fun y => Q (.sh (.str y)) s2) E)) E := by exact Wz.wp_mReprO
namespace Wz
@[simp] theorem wp_mLenSet {ma : M Ref} {Q : O → S → Prop} : wp (mLenSet ma) s Q E = wp ma s (fun r s1 => optP (view s1 r) fun d => optP (lstD d) fun ds => optP (keysD ds) fun ks => ks.length < 1000 ∧ Q (.sh (.int (ddK ks).length)) s1) E := by
  unfold mLenSet; simp only [wp_bnd, wp_look, optP_bind, optP_ite]
end Wz
@[simp] theorem wp_mLenSet {ma : M Ref} {Q : O → S → Prop} : wp (mLenSet ma) s Q E = wp ma s (fun r s1 => optP (view s1 r) fun d => optP (lstD d) fun ds => optP (keysD ds) fun ks => ks.length < 1000 ∧ Q (.sh (.int (ddK ks).length)) s1) E := by exact Wz.wp_mLenSet
end
theorem ofString_inj {a b : String} (h : Str.ofString a = Str.ofString b) : a = b := by
  rw [Str.ofString_eq_toList, Str.ofString_eq_toList] at h
  have e := congrArg (fun s : Str => s.cps.toList) h
  simp only [List.toList_toArray] at e
  have e2 : a.toList = b.toList := (List.map_inj_right fun c d hcd => Char.ext (UInt32.toNat_inj.mp hcd)).mp e
  exact String.toList_inj.mp e2
@[simp] theorem ofString_eq {a b : String} : (Str.ofString a = Str.ofString b) = (a = b) := propext ⟨ofString_inj, fun h => by rw [h]⟩
@[simp] theorem ofString_beq {a b : String} : (Str.ofString a == Str.ofString b) = (a == b) := by
  by_cases h : a = b
  · subst h; rw [beq_self_eq_true, beq_self_eq_true]
  · rw [beq_eq_false_iff_ne.mpr h, beq_eq_false_iff_ne.mpr fun z => h (ofString_inj z)]
@[simp] theorem add_ii {i j : Int} : fAdd (.int i) (.int j) = some (.sh (.int (i + j))) := id rfl
@[simp] theorem add_ib {i : Int} {k : Bool} : fAdd (.int i) (.bl k) = some (.sh (.int (i + b2i k))) := id rfl
@[simp] theorem add_ss {x y : Str} : fAdd (.str x) (.str y) = if x.length + y.length ≤ 1000000 then some (.sh (.str (x ++ y))) else none := id rfl
@[simp] theorem add_ll {x y : List D} : fAdd (.lst x) (.lst y) = if x.length + y.length ≤ 1000000 then some (.ol (x ++ y)) else none := id rfl
@[simp] theorem add_tt {x y : List D} : fAdd (.tup x) (.tup y) = if x.length + y.length ≤ 1000000 then some (.sh (.tup (x ++ y))) else none := id rfl
@[simp] theorem sub_ii {i j : Int} : fSub (.int i) (.int j) = some (.sh (.int (i - j))) := id rfl
@[simp] theorem mul_ii {i j : Int} : fMul (.int i) (.int j) = if mulOk i j = true then some (.sh (.int (i * j))) else none := id rfl
@[simp] theorem div_ii {i j : Int} : fDiv (.int i) (.int j) = if 0 < j ∧ j.natAbs.log2 < 9000 then some (.sh (.int (i / j))) else none := id rfl
@[simp] theorem mod_ii {i j : Int} : fMod (.int i) (.int j) = if 0 < j then some (.sh (.int (i % j))) else none := id rfl
@[simp] theorem pow_ii {i j : Int} : fPow (.int i) (.int j) = if 0 ≤ j ∧ j ≤ 1000 ∧ i.natAbs.log2 ≤ 100000 then some (.sh (.int (i ^ j.toNat))) else none := id rfl
@[simp] theorem neg_i {i : Int} : fNeg (.int i) = some (.sh (.int (-i))) := id rfl
@[simp] theorem eqD_ii {i j : Int} : eqD (.int i) (.int j) = some (decide (i = j)) := id rfl
@[simp] theorem eqD_ss {i j : Str} : eqD (.str i) (.str j) = some (decide (i = j)) := id rfl
@[simp] theorem eqD_bb {i j : Bool} : eqD (.bl i) (.bl j) = some (decide (i = j)) := id rfl
@[simp] theorem eqD_nn : eqD .non .non = some true := id rfl
@[simp] theorem fEq_eq {x y : D} : fEq x y = (eqD x y).map fun b => .sh (.bl b) := id rfl
@[simp] theorem fNe_eq {x y : D} : fNe x y = (eqD x y).map fun b => .sh (.bl (!b)) := id rfl
@[simp] theorem fLt_ii {i j : Int} : fLt (.int i) (.int j) = some (.sh (.bl (decide (i < j)))) := id rfl
@[simp] theorem fLe_ii {i j : Int} : fLe (.int i) (.int j) = some (.sh (.bl (decide (i ≤ j)))) := id rfl
@[simp] theorem fGt_ii {i j : Int} : fGt (.int i) (.int j) = some (.sh (.bl (decide (j < i)))) := id rfl
@[simp] theorem fGe_ii {i j : Int} : fGe (.int i) (.int j) = some (.sh (.bl (decide (j ≤ i)))) := id rfl
@[simp] theorem isN_x {x : D} : fIsN x .non = (isNonD x).map fun b => .sh (.bl b) := id rfl
@[simp] theorem notN_x {x : D} : fNotN x .non = (isNonD x).map fun b => .sh (.bl (!b)) := id rfl
@[simp] theorem isNon_non : isNonD .non = some true := id rfl
@[simp] theorem isNon_int {i : Int} : isNonD (.int i) = some false := id rfl
@[simp] theorem isNon_str {i : Str} : isNonD (.str i) = some false := id rfl
@[simp] theorem isNon_tup {i : List D} : isNonD (.tup i) = some false := id rfl
@[simp] theorem isNon_lst {i : List D} : isNonD (.lst i) = some false := id rfl
@[simp] theorem isNon_bl {i : Bool} : isNonD (.bl i) = some false := id rfl
@[simp] theorem isNon_dk {i : List (Key × D)} : isNonD (.dk i) = some false := id rfl
@[simp] theorem isNon_ins {c : Str} {i : List (Str × D)} : isNonD (.ins c i) = some false := id rfl
@[simp] theorem ix_l {ds : List D} {i : Int} : fIx (.lst ds) (.int i) = (atI ds i).map .sh := by
  have e : fIxS (.lst ds) (.int i) = (atI ds i).map .sh := rfl
  unfold fIx orF; rw [e]; cases atI ds i <;> rfl
@[simp] theorem ix_t {ds : List D} {i : Int} : fIx (.tup ds) (.int i) = (atI ds i).map .sh := by
  have e : fIxS (.tup ds) (.int i) = (atI ds i).map .sh := rfl
  unfold fIx orF; rw [e]; cases atI ds i <;> rfl
@[simp] theorem ix_c {ds : List D} {i : Int} : fIx (.ct ds) (.int i) = (atI ds i).map .sh := by
  have e : fIxS (.ct ds) (.int i) = (atI ds i).map .sh := rfl
  unfold fIx orF; rw [e]; cases atI ds i <;> rfl
@[simp] theorem ix_r {ds : List D} {i : Int} : fIx (.rl ds) (.int i) = (atI ds i).map .sh := by
  have e : fIxS (.rl ds) (.int i) = (atI ds i).map .sh := rfl
  unfold fIx orF; rw [e]; cases atI ds i <;> rfl
@[simp] theorem ix_s {z : Str} {i : Int} (h : z.length ≤ 1000000) : fIx (.str z) (.int i) = (atI z.cps.toList i).map fun c => .sh (.str ⟨#[c]⟩) := by unfold fIx orF fIxS; simp only [h, if_true]; cases atI z.cps.toList i <;> rfl
@[simp] theorem ix_d {kvs : List (Key × D)} {i : Int} : fIx (.dk kvs) (.int i) = (lookK kvs (.inl i)).map .sh := by
  show fDget (.dk kvs) (.int i) = _
  unfold fDget getD keyD; dsimp only [Option.map_some]; cases lookK kvs (.inl i) <;> rfl
@[simp] theorem ix_ds {kvs : List (Key × D)} {i : Str} : fIx (.dk kvs) (.str i) = (lookK kvs (.inr i)).map .sh := by
  show fDget (.dk kvs) (.str i) = _
  unfold fDget getD keyD; dsimp only [Option.map_some]; cases lookK kvs (.inr i) <;> rfl
theorem atI_n {α : Type} (xs : List α) (n : Nat) : L2.atI xs (n : Int) = xs[n]? := by
  unfold L2.atI L2.ixN
  rw [if_pos (by omega)]
  by_cases h : n < xs.length
  · rw [if_pos (by omega)]; simp
  · rw [if_neg (by omega)]; simp; omega
@[simp] theorem atI_2 {α : Type} (xs : List α) : L2.atI xs 2 = xs[2]? := atI_n xs 2
@[simp] theorem atI_3 {α : Type} (xs : List α) : L2.atI xs 3 = xs[3]? := atI_n xs 3
@[simp] theorem atI_4 {α : Type} (xs : List α) : L2.atI xs 4 = xs[4]? := atI_n xs 4
@[simp] theorem atI_5 {α : Type} (xs : List α) : L2.atI xs 5 = xs[5]? := atI_n xs 5
@[simp] theorem atI_6 {α : Type} (xs : List α) : L2.atI xs 6 = xs[6]? := atI_n xs 6
@[simp] theorem atI_7 {α : Type} (xs : List α) : L2.atI xs 7 = xs[7]? := atI_n xs 7
@[simp] theorem atI_8 {α : Type} (xs : List α) : L2.atI xs 8 = xs[8]? := atI_n xs 8
@[simp] theorem atI_9 {α : Type} (xs : List α) : L2.atI xs 9 = xs[9]? := atI_n xs 9
@[simp] theorem atI_10 {α : Type} (xs : List α) : L2.atI xs 10 = xs[10]? := atI_n xs 10
@[simp] theorem atI_11 {α : Type} (xs : List α) : L2.atI xs 11 = xs[11]? := atI_n xs 11
@[simp] theorem atI_12 {α : Type} (xs : List α) : L2.atI xs 12 = xs[12]? := atI_n xs 12
@[simp] theorem atI_13 {α : Type} (xs : List α) : L2.atI xs 13 = xs[13]? := atI_n xs 13
@[simp] theorem atI_14 {α : Type} (xs : List α) : L2.atI xs 14 = xs[14]? := atI_n xs 14
@[simp] theorem atI_15 {α : Type} (xs : List α) : L2.atI xs 15 = xs[15]? := atI_n xs 15
@[simp] theorem atI_16 {α : Type} (xs : List α) : L2.atI xs 16 = xs[16]? := atI_n xs 16
@[simp] theorem atI_17 {α : Type} (xs : List α) : L2.atI xs 17 = xs[17]? := atI_n xs 17
@[simp] theorem atI_18 {α : Type} (xs : List α) : L2.atI xs 18 = xs[18]? := atI_n xs 18
@[simp] theorem atI_19 {α : Type} (xs : List α) : L2.atI xs 19 = xs[19]? := atI_n xs 19
@[simp] theorem atI_20 {α : Type} (xs : List α) : L2.atI xs 20 = xs[20]? := atI_n xs 20
@[simp] theorem atI_21 {α : Type} (xs : List α) : L2.atI xs 21 = xs[21]? := atI_n xs 21
@[simp] theorem atI_22 {α : Type} (xs : List α) : L2.atI xs 22 = xs[22]? := atI_n xs 22
@[simp] theorem atI_23 {α : Type} (xs : List α) : L2.atI xs 23 = xs[23]? := atI_n xs 23
@[simp] theorem atI_24 {α : Type} (xs : List α) : L2.atI xs 24 = xs[24]? := atI_n xs 24
@[simp] theorem atI_25 {α : Type} (xs : List α) : L2.atI xs 25 = xs[25]? := atI_n xs 25
@[simp] theorem atI_26 {α : Type} (xs : List α) : L2.atI xs 26 = xs[26]? := atI_n xs 26
@[simp] theorem atI_27 {α : Type} (xs : List α) : L2.atI xs 27 = xs[27]? := atI_n xs 27
@[simp] theorem atI_28 {α : Type} (xs : List α) : L2.atI xs 28 = xs[28]? := atI_n xs 28
@[simp] theorem atI_29 {α : Type} (xs : List α) : L2.atI xs 29 = xs[29]? := atI_n xs 29
@[simp] theorem atI_30 {α : Type} (xs : List α) : L2.atI xs 30 = xs[30]? := atI_n xs 30
@[simp] theorem atI_31 {α : Type} (xs : List α) : L2.atI xs 31 = xs[31]? := atI_n xs 31
@[simp] theorem atI_l0 {α : Type} (xs : List α) : L2.atI xs 0 = xs[0]? := atI_n xs 0
@[simp] theorem atI_l1 {α : Type} (xs : List α) : L2.atI xs 1 = xs[1]? := atI_n xs 1
@[simp] theorem atI_m1 {α : Type} (xs : List α) : L2.atI xs (-1) = xs[xs.length - 1]? := by
  unfold L2.atI L2.ixN
  rw [if_neg (by omega)]
  by_cases h : xs.length = 0
  · rw [if_neg (by omega), h]
    have : xs = [] := List.eq_nil_of_length_eq_zero h
    subst this; rfl
  · rw [if_pos (by omega)]
    have : (-1 + (xs.length : Int)).toNat = xs.length - 1 := by omega
    simp [this]
theorem atI_if {α : Type} {c : Prop} [Decidable c] {a b : α} : L2.atI [a, b] (if c then 1 else 0) = some (if c then b else a) := by by_cases h : c <;> simp [h]
@[simp] theorem atI_ifi {c : Prop} [Decidable c] {a b : Int} : L2.atI [D.int a, .int b] (if c then 1 else 0) = some (.int (if c then b else a)) := by by_cases h : c <;> simp [h]
theorem ixN_n (n m : Nat) (h : m < n) : ixN n (m : Int) = some m := by unfold ixN; rw [if_pos (by omega), if_pos (by omega)]; simp
theorem ixN_nn (n m : Nat) : ixN n (m : Int) = if m < n then some m else none := by
  by_cases h : m < n
  · rw [if_pos h, ixN_n n m h]
  · rw [if_neg h]; unfold ixN; rw [if_pos (by omega), if_neg (by omega)]
@[simp] theorem ixN_0 (n : Nat) : ixN n 0 = if 0 < n then some 0 else none := ixN_nn n 0
@[simp] theorem ixN_1 (n : Nat) : ixN n 1 = if 1 < n then some 1 else none := ixN_nn n 1
@[simp] theorem ixN_2 (n : Nat) : ixN n 2 = if 2 < n then some 2 else none := ixN_nn n 2
@[simp] theorem ixN_3 (n : Nat) : ixN n 3 = if 3 < n then some 3 else none := ixN_nn n 3
@[simp] theorem ixN_4 (n : Nat) : ixN n 4 = if 4 < n then some 4 else none := ixN_nn n 4
@[simp] theorem ixN_5 (n : Nat) : ixN n 5 = if 5 < n then some 5 else none := ixN_nn n 5
@[simp] theorem ixN_6 (n : Nat) : ixN n 6 = if 6 < n then some 6 else none := ixN_nn n 6
@[simp] theorem ixN_7 (n : Nat) : ixN n 7 = if 7 < n then some 7 else none := ixN_nn n 7
@[simp] theorem ixN_8 (n : Nat) : ixN n 8 = if 8 < n then some 8 else none := ixN_nn n 8
@[simp] theorem ixN_9 (n : Nat) : ixN n 9 = if 9 < n then some 9 else none := ixN_nn n 9
@[simp] theorem ixN_10 (n : Nat) : ixN n 10 = if 10 < n then some 10 else none := ixN_nn n 10
@[simp] theorem ixN_11 (n : Nat) : ixN n 11 = if 11 < n then some 11 else none := ixN_nn n 11
@[simp] theorem ixN_12 (n : Nat) : ixN n 12 = if 12 < n then some 12 else none := ixN_nn n 12
@[simp] theorem ixN_13 (n : Nat) : ixN n 13 = if 13 < n then some 13 else none := ixN_nn n 13
@[simp] theorem ixN_14 (n : Nat) : ixN n 14 = if 14 < n then some 14 else none := ixN_nn n 14
@[simp] theorem ixN_15 (n : Nat) : ixN n 15 = if 15 < n then some 15 else none := ixN_nn n 15
@[simp] theorem ixN_16 (n : Nat) : ixN n 16 = if 16 < n then some 16 else none := ixN_nn n 16
@[simp] theorem ixN_17 (n : Nat) : ixN n 17 = if 17 < n then some 17 else none := ixN_nn n 17
@[simp] theorem ixN_18 (n : Nat) : ixN n 18 = if 18 < n then some 18 else none := ixN_nn n 18
@[simp] theorem ixN_19 (n : Nat) : ixN n 19 = if 19 < n then some 19 else none := ixN_nn n 19
@[simp] theorem ixN_20 (n : Nat) : ixN n 20 = if 20 < n then some 20 else none := ixN_nn n 20
@[simp] theorem ixN_21 (n : Nat) : ixN n 21 = if 21 < n then some 21 else none := ixN_nn n 21
@[simp] theorem ixN_22 (n : Nat) : ixN n 22 = if 22 < n then some 22 else none := ixN_nn n 22
@[simp] theorem ixN_23 (n : Nat) : ixN n 23 = if 23 < n then some 23 else none := ixN_nn n 23
@[simp] theorem ixN_24 (n : Nat) : ixN n 24 = if 24 < n then some 24 else none := ixN_nn n 24
@[simp] theorem ixN_25 (n : Nat) : ixN n 25 = if 25 < n then some 25 else none := ixN_nn n 25
@[simp] theorem ixN_26 (n : Nat) : ixN n 26 = if 26 < n then some 26 else none := ixN_nn n 26
@[simp] theorem ixN_27 (n : Nat) : ixN n 27 = if 27 < n then some 27 else none := ixN_nn n 27
@[simp] theorem ixN_28 (n : Nat) : ixN n 28 = if 28 < n then some 28 else none := ixN_nn n 28
@[simp] theorem ixN_29 (n : Nat) : ixN n 29 = if 29 < n then some 29 else none := ixN_nn n 29
@[simp] theorem ixN_30 (n : Nat) : ixN n 30 = if 30 < n then some 30 else none := ixN_nn n 30
@[simp] theorem ixN_31 (n : Nat) : ixN n 31 = if 31 < n then some 31 else none := ixN_nn n 31
@[simp] theorem sl_l {ds : List D} {lo hi : Option Int} : fSl (.lst ds) lo hi = some (.ol (cutL ds lo hi)) := id rfl
@[simp] theorem sl_t {ds : List D} {lo hi : Option Int} : fSl (.tup ds) lo hi = some (.sh (.tup (cutL ds lo hi))) := id rfl
@[simp] theorem sl_s {z : Str} {lo hi : Option Int} : fSl (.str z) lo hi = if z.length ≤ 1000000 then some (.sh (.str (cutS z lo hi))) else none := id rfl
@[simp] theorem truD_bl {b : Bool} : truD (.bl b) = some b := id rfl
@[simp] theorem truD_int {i : Int} : truD (.int i) = some (i != 0) := id rfl
@[simp] theorem truD_non : truD .non = some false := id rfl
@[simp] theorem truD_lst {i : List D} : truD (.lst i) = some (!i.isEmpty) := id rfl
@[simp] theorem truD_tup {i : List D} : truD (.tup i) = some (!i.isEmpty) := id rfl
@[simp] theorem seqD_lst {i : List D} : seqD (.lst i) = some i := id rfl
@[simp] theorem seqD_tup {i : List D} : seqD (.tup i) = some i := id rfl
@[simp] theorem seqD_rl {i : List D} : seqD (.rl i) = some i := id rfl
@[simp] theorem seqD_ct {i : List D} : seqD (.ct i) = some i := id rfl
@[simp] theorem lstD_lst {i : List D} : lstD (.lst i) = some i := id rfl
@[simp] theorem lstD_rl {i : List D} : lstD (.rl i) = some i := id rfl
@[simp] theorem fAbs_i {i : Int} : fAbs [.int i] = some (.sh (.int (if i < 0 then -i else i))) := id rfl
@[simp] theorem fLen_l {i : List D} : fLen [.lst i] = some (.sh (.int (i.length : Nat))) := id rfl
@[simp] theorem fLen_t {i : List D} : fLen [.tup i] = some (.sh (.int (i.length : Nat))) := id rfl
@[simp] theorem fLen_r {i : List D} : fLen [.rl i] = some (.sh (.int (i.length : Nat))) := id rfl
@[simp] theorem fLen_c {i : List D} : fLen [.ct i] = some (.sh (.int (i.length : Nat))) := id rfl
@[simp] theorem fLen_s {z : Str} : fLen [.str z] = if z.length ≤ 1000000 then some (.sh (.int (z.length : Nat))) else none := id rfl
@[simp] theorem fInt_i {i : Int} : fInt [.int i] = some (.sh (.int i)) := id rfl
@[simp] theorem fInt_b {b : Bool} : fInt [.bl b] = some (.sh (.int (if b then 1 else 0))) := id rfl
@[simp] theorem fMax_ii {i j : Int} : fMax [.int i, .int j] = some (.sh (.int (if j > i then j else i))) := id rfl
@[simp] theorem fMin_ii {i j : Int} : fMin [.int i, .int j] = some (.sh (.int (if j < i then j else i))) := id rfl
@[simp] theorem fOrd_s {x : Str} : fOrd [.str x] = if x.length = 1 then some (.sh (.int (x.cps.getD 0 0 : Nat))) else none := id rfl
@[simp] theorem fStr_i {i : Int} : fStr [.int i] = if i.natAbs.log2 < 1920 then some (.sh (.str (strI i))) else none := id rfl
@[simp] theorem fList_d {d : D} : fList [d] = (seqD d).map .ol := id rfl
@[simp] theorem fTuple_l {i : List D} : fTuple [.lst i] = some (.sh (.tup i)) := id rfl
@[simp] theorem fTuple_t {i : List D} : fTuple [.tup i] = some (.sh (.tup i)) := id rfl
@[simp] theorem fTuple_r {i : List D} : fTuple [.rl i] = some (.sh (.tup i)) := id rfl
@[simp] theorem fJoin_eq {a : Str} {y : D} : fJoin a y = (seqD y).bind fun ds => (strsD ds).bind fun ys => if (ys.map (·.length)).sum + ys.length * a.length ≤ 1000000 then some (.sh (.str (Txt.join a ys))) else none := id rfl
@[simp] theorem fRpart_s {a b : Str} : fRpart a (.str b) = if (b.length == 0) = false ∧ a.length ≤ 1000000 then some (.sh (.tup [.str (rpart a b).1, .str (rpart a b).2.1, .str (rpart a b).2.2])) else none := id rfl
@[simp] theorem fFld_ins {cs : List Str} {f c : Str} {fs : List (Str × D)} : fFld cs f (.ins c fs) = if c ∈ cs then (fs.lookup f).map .sh else none := id rfl
@[simp] theorem keyD_i {i : Int} : keyD (.int i) = some (.inl i) := id rfl
@[simp] theorem keyD_s {i : Str} : keyD (.str i) = some (.inr i) := id rfl
@[simp] theorem keysD_nil : keysD [] = some [] := id rfl
@[simp] theorem keysD_cons {d : D} {r : List D} : keysD (d :: r) = (keyD d).bind fun k => (keysD r).map fun ks => k :: ks := id rfl
@[simp] theorem fRep_l {ds : List D} {k : Int} : fRep (.lst ds) (.int k) = if small62 k = true ∧ ds.length * k.toNat ≤ 1000000 then some (.ol (List.replicate k.toNat ds).flatten) else none := id rfl
theorem inS_flat {x : D} {ds : List D} (h1 : flatD x = true) (h2 : ds.all flatD = true) : inS x ds = some (ds.any fun y => eqFl y x) := by unfold inS; rw [h1, h2]; rfl
theorem fIn_l {x : D} {ds : List D} {b : Bool} (h : inS x ds = some b) : fIn x (.lst ds) = some (.sh (.bl b)) := by
  have e : fInS false x (.lst ds) = (inS x ds).map fun b => .sh (.bl b) := rfl
  unfold fIn orF; rw [e, h]; rfl
theorem fNotIn_l {x : D} {ds : List D} {b : Bool} (h : inS x ds = some b) : fNotIn x (.lst ds) = some (.sh (.bl (!b))) := by
  have e : fInS true x (.lst ds) = (inS x ds).map fun b => .sh (.bl (!b)) := rfl
  unfold fNotIn orF; rw [e, h]; rfl
@[simp] theorem eqFl_ii {a b : Int} : eqFl (.int a) (.int b) = (a == b) := id rfl
@[simp] theorem eqFl_ss {a b : Str} : eqFl (.str a) (.str b) = (a == b) := id rfl
@[simp] theorem eqFl_nn : eqFl .non .non = true := id rfl
@[simp] theorem flat_i {a : Int} : flatD (.int a) = true := id rfl
@[simp] theorem flat_s {a : Str} : flatD (.str a) = true := id rfl
@[simp] theorem flat_b {a : Bool} : flatD (.bl a) = true := id rfl
@[simp] theorem flat_n : flatD .non = true := id rfl
theorem fIn_flat {x : D} {ds : List D} (h1 : flatD x = true) (h2 : ds.all flatD = true) : fIn x (.lst ds) = some (.sh (.bl (ds.any fun y => eqFl y x))) := fIn_l (inS_flat h1 h2)
theorem fIn_flatT {x : D} {ds : List D} (h1 : flatD x = true) (h2 : ds.all flatD = true) : fIn x (.tup ds) = some (.sh (.bl (ds.any fun y => eqFl y x))) := by unfold fIn orF fInS; simp [h1, h2]
theorem fNotIn_flatT {x : D} {ds : List D} (h1 : flatD x = true) (h2 : ds.all flatD = true) : fNotIn x (.tup ds) = some (.sh (.bl (!ds.any fun y => eqFl y x))) := by unfold fNotIn orF fInS; simp [h1, h2]
@[simp] theorem tyD_int {i : Int} : tyD (.int i) = some "int" := id rfl
@[simp] theorem tyD_str {i : Str} : tyD (.str i) = some "str" := id rfl
@[simp] theorem tyD_bl {i : Bool} : tyD (.bl i) = some "bool" := id rfl
@[simp] theorem tyD_non : tyD .non = some "NoneType" := id rfl
@[simp] theorem tyD_lst {i : List D} : tyD (.lst i) = some "list" := id rfl
@[simp] theorem tyD_tup {i : List D} : tyD (.tup i) = some "tuple" := id rfl
@[simp] theorem tyD_ins {c : Str} {i : List (Str × D)} : tyD (.ins c i) = none := id rfl
@[simp] theorem sideD_ii {c c1 c2 : Str} {f g : List (Str × D)} : sideD c (.ins c1 f) (.ins c2 g) = if c1 = c ∧ c2 = c then some true else none := id rfl
theorem sideD_l {c : Str} {f : List (Str × D)} {d : D} (h : (tyD d).isSome = true) : sideD c (.ins c f) d = some true := by
  cases d <;> first | (cases h; done) | exact if_pos ⟨rfl, h⟩
theorem sideD_r {c : Str} {f : List (Str × D)} {d : D} (h : (tyD d).isSome = true) : sideD c d (.ins c f) = some false := by
  cases d <;> first | (cases h; done) | exact if_pos ⟨rfl, h⟩
@[simp] theorem wipeL_nil {α : Type} {l : List (Option α)} : wipeL l [] = l := id rfl
@[simp] theorem wipeL_cons {α : Type} {l : List (Option α)} {v : Nat} {vs : List Nat} : wipeL l (v :: vs) = (wipeL l vs).set v none := id rfl
theorem small_of0 {i : Int} (h0 : -1000000000000 ≤ i) (h1 : i < 1000000000000) : small62 i = true := by unfold small62; simp; omega
@[simp] theorem rgL_zero {lo : Int} : rgL lo 0 = [] := id rfl
theorem rgL_succ {lo : Int} {n : Nat} : rgL lo (n + 1) = .int lo :: rgL (lo + 1) n := by
  unfold rgL
  rw [List.range_succ_eq_map, List.map_cons, List.map_map]
  refine congr (congrArg List.cons (by simp)) (List.map_congr_left fun i _ => ?_)
  show D.int (lo + ((i + 1 : Nat) : Int)) = D.int (lo + 1 + (i : Nat))
  congr 1; omega
theorem rgL_length {lo : Int} {n : Nat} : (rgL lo n).length = n := by unfold rgL; simp
theorem str_len_app (a b : Str) : (a ++ b).length = a.length + b.length := by
  show (a.cps ++ b.cps).size = _
  rw [Array.size_append]; rfl
theorem str_emp_app (a : Str) : Str.empty ++ a = a := by
  show (⟨#[] ++ a.cps⟩ : Str) = a
  rw [Array.empty_append]
theorem str_one_len (c : Nat) : (⟨#[c]⟩ : Str).length = 1 := rfl
theorem mulOk_l' {i j : Int} (h1 : -(2 ^ 64) < i) (h2 : i < 2 ^ 64) : mulOk i j = true := by unfold mulOk; simp; omega
theorem mulOk_r' {i j : Int} (h1 : -(2 ^ 64) < j) (h2 : j < 2 ^ 64) : mulOk i j = true := by unfold mulOk; simp; omega
theorem log2_lt {n k : Nat} (h : n < 2 ^ k) (hk : 0 < k) : n.log2 < k := by
  by_cases e : n = 0
  · rw [e]; exact hk
  · exact (Nat.log2_lt e).mpr h
theorem sIx_m1 (n d : Nat) : HT.sIx n d (some (-1)) = n - 1 := by
  show (if (-1 : Int) < 0 then ((-1 : Int) + (n : Int)).toNat else min (-1 : Int).toNat n) = n - 1
  rw [if_pos (by decide)]; omega
theorem sIx_of (n d k : Nat) {i : Int} (h : i = (k : Int)) : HT.sIx n d (some i) = min k n := by subst h; exact HT.sIx_nat n d k
theorem cutL_m1 {α : Type} (xs : List α) : cutL xs none (some (-1)) = xs.dropLast := by
  unfold cutL
  rw [sIx_m1, HT.sIx_none, List.drop_zero, Nat.sub_zero, List.dropLast_eq_take]
theorem cutL_m1n {α : Type} (xs : List α) : cutL xs (some (-1)) none = xs.drop (xs.length - 1) := by
  unfold cutL
  rw [sIx_m1, HT.sIx_none, List.take_of_length_le (by rw [List.length_drop]; omega)]
theorem cutL_to {α : Type} (xs : List α) (k : Nat) {i : Int} (h : i = (k : Int)) : cutL xs none (some i) = xs.take k := by
  unfold cutL
  rw [sIx_of _ _ _ h, HT.sIx_none, List.drop_zero, Nat.sub_zero]
  rw [List.take_eq_take_iff]; omega
theorem cutL_from {α : Type} (xs : List α) (k : Nat) {i : Int} (h : i = (k : Int)) : cutL xs (some i) none = xs.drop k := by
  unfold cutL
  rw [sIx_of _ _ _ h, HT.sIx_none, List.take_of_length_le (by rw [List.length_drop]; omega)]
  by_cases hk : k ≤ xs.length
  · rw [Nat.min_eq_left hk]
  · rw [Nat.min_eq_right (by omega), List.drop_eq_nil_of_le (Nat.le_refl _), List.drop_eq_nil_of_le (by omega)]
theorem cutS_list (z : Str) (lo hi : Option Int) : (cutS z lo hi).cps.toList = cutL z.cps.toList lo hi := by
  unfold cutS cutL
  rfl
theorem str_ext {a b : Str} (h : a.cps.toList = b.cps.toList) : a = b := by
  cases a; cases b
  simp only at h
  rw [Array.toList_inj] at h
  rw [h]
theorem str_list_app (a b : Str) : (a ++ b).cps.toList = a.cps.toList ++ b.cps.toList := by
  show (a.cps ++ b.cps).toList = _
  simp
theorem str_len_list (a : Str) : a.length = a.cps.toList.length := by
  show a.cps.size = _
  simp
@[simp] theorem app_get0 {α : Type} {J r : List α} : (J ++ r)[J.length]? = r[0]? := by rw [List.getElem?_append_right (Nat.le_refl _), Nat.sub_self]
@[simp] theorem app_get {α : Type} {J r : List α} {n : Nat} : (J ++ r)[J.length + n]? = r[n]? := by rw [List.getElem?_append_right (by omega)]; congr 1; omega
@[simp] theorem app_set0 {α : Type} {J r : List α} {x : α} : (J ++ r).set J.length x = J ++ r.set 0 x := by rw [List.set_append_right _ _ (Nat.le_refl _), Nat.sub_self]
@[simp] theorem app_set {α : Type} {J r : List α} {n : Nat} {x : α} : (J ++ r).set (J.length + n) x = J ++ r.set n x := by rw [List.set_append_right _ _ (by omega)]; congr 2; omega
@[simp high] theorem app_len_1 {α : Type} {J : List α} {a0 : α} : (J ++ [a0]).length = J.length + 1 := by rw [List.length_append]; rfl
@[simp high] theorem app_len_2 {α : Type} {J : List α} {a0 a1 : α} : (J ++ [a0, a1]).length = J.length + 2 := by rw [List.length_append]; rfl
@[simp high] theorem app_len_3 {α : Type} {J : List α} {a0 a1 a2 : α} : (J ++ [a0, a1, a2]).length = J.length + 3 := by rw [List.length_append]; rfl
@[simp high] theorem app_len_4 {α : Type} {J : List α} {a0 a1 a2 a3 : α} : (J ++ [a0, a1, a2, a3]).length = J.length + 4 := by rw [List.length_append]; rfl
@[simp high] theorem app_len_5 {α : Type} {J : List α} {a0 a1 a2 a3 a4 : α} : (J ++ [a0, a1, a2, a3, a4]).length = J.length + 5 := by rw [List.length_append]; rfl
@[simp high] theorem app_len_6 {α : Type} {J : List α} {a0 a1 a2 a3 a4 a5 : α} : (J ++ [a0, a1, a2, a3, a4, a5]).length = J.length + 6 := by rw [List.length_append]; rfl
@[simp high] theorem app_len_7 {α : Type} {J : List α} {a0 a1 a2 a3 a4 a5 a6 : α} : (J ++ [a0, a1, a2, a3, a4, a5, a6]).length = J.length + 7 := by rw [List.length_append]; rfl
@[simp high] theorem app_len_8 {α : Type} {J : List α} {a0 a1 a2 a3 a4 a5 a6 a7 : α} : (J ++ [a0, a1, a2, a3, a4, a5, a6, a7]).length = J.length + 8 := by rw [List.length_append]; rfl
@[simp high] theorem app_len_9 {α : Type} {J : List α} {a0 a1 a2 a3 a4 a5 a6 a7 a8 : α} : (J ++ [a0, a1, a2, a3, a4, a5, a6, a7, a8]).length = J.length + 9 := by rw [List.length_append]; rfl
@[simp high] theorem app_len_10 {α : Type} {J : List α} {a0 a1 a2 a3 a4 a5 a6 a7 a8 a9 : α} : (J ++ [a0, a1, a2, a3, a4, a5, a6, a7, a8, a9]).length = J.length + 10 := by rw [List.length_append]; rfl
@[simp high] theorem app_len_11 {α : Type} {J : List α} {a0 a1 a2 a3 a4 a5 a6 a7 a8 a9 a10 : α} : (J ++ [a0, a1, a2, a3, a4, a5, a6, a7, a8, a9, a10]).length = J.length + 11 := by rw [List.length_append]; rfl
@[simp high] theorem app_len_12 {α : Type} {J : List α} {a0 a1 a2 a3 a4 a5 a6 a7 a8 a9 a10 a11 : α} : (J ++ [a0, a1, a2, a3, a4, a5, a6, a7, a8, a9, a10, a11]).length = J.length + 12 := by rw [List.length_append]; rfl
@[simp high] theorem app_len_13 {α : Type} {J : List α} {a0 a1 a2 a3 a4 a5 a6 a7 a8 a9 a10 a11 a12 : α} : (J ++ [a0, a1, a2, a3, a4, a5, a6, a7, a8, a9, a10, a11, a12]).length = J.length + 13 := by rw [List.length_append]; rfl
@[simp high] theorem app_len_14 {α : Type} {J : List α} {a0 a1 a2 a3 a4 a5 a6 a7 a8 a9 a10 a11 a12 a13 : α} : (J ++ [a0, a1, a2, a3, a4, a5, a6, a7, a8, a9, a10, a11, a12, a13]).length = J.length + 14 := by rw [List.length_append]; rfl
@[simp high] theorem app_len_15 {α : Type} {J : List α} {a0 a1 a2 a3 a4 a5 a6 a7 a8 a9 a10 a11 a12 a13 a14 : α} : (J ++ [a0, a1, a2, a3, a4, a5, a6, a7, a8, a9, a10, a11, a12, a13, a14]).length = J.length + 15 := by rw [List.length_append]; rfl
@[simp high] theorem app_len_16 {α : Type} {J : List α} {a0 a1 a2 a3 a4 a5 a6 a7 a8 a9 a10 a11 a12 a13 a14 a15 : α} : (J ++ [a0, a1, a2, a3, a4, a5, a6, a7, a8, a9, a10, a11, a12, a13, a14, a15]).length = J.length + 16 := by rw [List.length_append]; rfl
@[simp high] theorem app_len_17 {α : Type} {J : List α} {a0 a1 a2 a3 a4 a5 a6 a7 a8 a9 a10 a11 a12 a13 a14 a15 a16 : α} : (J ++ [a0, a1, a2, a3, a4, a5, a6, a7, a8, a9, a10, a11, a12, a13, a14, a15, a16]).length = J.length + 17 := by rw [List.length_append]; rfl
@[simp high] theorem app_len_18 {α : Type} {J : List α} {a0 a1 a2 a3 a4 a5 a6 a7 a8 a9 a10 a11 a12 a13 a14 a15 a16 a17 : α} : (J ++ [a0, a1, a2, a3, a4, a5, a6, a7, a8, a9, a10, a11, a12, a13, a14, a15, a16, a17]).length = J.length + 18 := by rw [List.length_append]; rfl
@[simp high] theorem app_len_19 {α : Type} {J : List α} {a0 a1 a2 a3 a4 a5 a6 a7 a8 a9 a10 a11 a12 a13 a14 a15 a16 a17 a18 : α} : (J ++ [a0, a1, a2, a3, a4, a5, a6, a7, a8, a9, a10, a11, a12, a13, a14, a15, a16, a17, a18]).length = J.length + 19 := by rw [List.length_append]; rfl
@[simp high] theorem app_len_20 {α : Type} {J : List α} {a0 a1 a2 a3 a4 a5 a6 a7 a8 a9 a10 a11 a12 a13 a14 a15 a16 a17 a18 a19 : α} : (J ++ [a0, a1, a2, a3, a4, a5, a6, a7, a8, a9, a10, a11, a12, a13, a14, a15, a16, a17, a18, a19]).length = J.length + 20 := by rw [List.length_append]; rfl
@[simp] theorem s_add_1_1 {a : Nat} : a + 1 + 1 = a + 2 := Nat.add_assoc a 1 1
@[simp] theorem s_add_1_2 {a : Nat} : a + 1 + 2 = a + 3 := Nat.add_assoc a 1 2
@[simp] theorem s_add_1_3 {a : Nat} : a + 1 + 3 = a + 4 := Nat.add_assoc a 1 3
@[simp] theorem s_add_1_4 {a : Nat} : a + 1 + 4 = a + 5 := Nat.add_assoc a 1 4
@[simp] theorem s_add_1_5 {a : Nat} : a + 1 + 5 = a + 6 := Nat.add_assoc a 1 5
@[simp] theorem s_add_1_6 {a : Nat} : a + 1 + 6 = a + 7 := Nat.add_assoc a 1 6
@[simp] theorem s_add_1_7 {a : Nat} : a + 1 + 7 = a + 8 := Nat.add_assoc a 1 7
@[simp] theorem s_add_1_8 {a : Nat} : a + 1 + 8 = a + 9 := Nat.add_assoc a 1 8
@[simp] theorem s_add_2_1 {a : Nat} : a + 2 + 1 = a + 3 := Nat.add_assoc a 2 1
@[simp] theorem s_add_2_2 {a : Nat} : a + 2 + 2 = a + 4 := Nat.add_assoc a 2 2
@[simp] theorem s_add_2_3 {a : Nat} : a + 2 + 3 = a + 5 := Nat.add_assoc a 2 3
@[simp] theorem s_add_2_4 {a : Nat} : a + 2 + 4 = a + 6 := Nat.add_assoc a 2 4
@[simp] theorem s_add_2_5 {a : Nat} : a + 2 + 5 = a + 7 := Nat.add_assoc a 2 5
@[simp] theorem s_add_2_6 {a : Nat} : a + 2 + 6 = a + 8 := Nat.add_assoc a 2 6
@[simp] theorem s_add_2_7 {a : Nat} : a + 2 + 7 = a + 9 := Nat.add_assoc a 2 7
@[simp] theorem s_add_2_8 {a : Nat} : a + 2 + 8 = a + 10 := Nat.add_assoc a 2 8
@[simp] theorem s_add_3_1 {a : Nat} : a + 3 + 1 = a + 4 := Nat.add_assoc a 3 1
@[simp] theorem s_add_3_2 {a : Nat} : a + 3 + 2 = a + 5 := Nat.add_assoc a 3 2
@[simp] theorem s_add_3_3 {a : Nat} : a + 3 + 3 = a + 6 := Nat.add_assoc a 3 3
@[simp] theorem s_add_3_4 {a : Nat} : a + 3 + 4 = a + 7 := Nat.add_assoc a 3 4
@[simp] theorem s_add_3_5 {a : Nat} : a + 3 + 5 = a + 8 := Nat.add_assoc a 3 5
@[simp] theorem s_add_3_6 {a : Nat} : a + 3 + 6 = a + 9 := Nat.add_assoc a 3 6
@[simp] theorem s_add_3_7 {a : Nat} : a + 3 + 7 = a + 10 := Nat.add_assoc a 3 7
@[simp] theorem s_add_3_8 {a : Nat} : a + 3 + 8 = a + 11 := Nat.add_assoc a 3 8
@[simp] theorem s_add_4_1 {a : Nat} : a + 4 + 1 = a + 5 := Nat.add_assoc a 4 1
@[simp] theorem s_add_4_2 {a : Nat} : a + 4 + 2 = a + 6 := Nat.add_assoc a 4 2
@[simp] theorem s_add_4_3 {a : Nat} : a + 4 + 3 = a + 7 := Nat.add_assoc a 4 3
@[simp] theorem s_add_4_4 {a : Nat} : a + 4 + 4 = a + 8 := Nat.add_assoc a 4 4
@[simp] theorem s_add_4_5 {a : Nat} : a + 4 + 5 = a + 9 := Nat.add_assoc a 4 5
@[simp] theorem s_add_4_6 {a : Nat} : a + 4 + 6 = a + 10 := Nat.add_assoc a 4 6
@[simp] theorem s_add_4_7 {a : Nat} : a + 4 + 7 = a + 11 := Nat.add_assoc a 4 7
@[simp] theorem s_add_4_8 {a : Nat} : a + 4 + 8 = a + 12 := Nat.add_assoc a 4 8
@[simp] theorem s_add_5_1 {a : Nat} : a + 5 + 1 = a + 6 := Nat.add_assoc a 5 1
@[simp] theorem s_add_5_2 {a : Nat} : a + 5 + 2 = a + 7 := Nat.add_assoc a 5 2
@[simp] theorem s_add_5_3 {a : Nat} : a + 5 + 3 = a + 8 := Nat.add_assoc a 5 3
@[simp] theorem s_add_5_4 {a : Nat} : a + 5 + 4 = a + 9 := Nat.add_assoc a 5 4
@[simp] theorem s_add_5_5 {a : Nat} : a + 5 + 5 = a + 10 := Nat.add_assoc a 5 5
@[simp] theorem s_add_5_6 {a : Nat} : a + 5 + 6 = a + 11 := Nat.add_assoc a 5 6
@[simp] theorem s_add_5_7 {a : Nat} : a + 5 + 7 = a + 12 := Nat.add_assoc a 5 7
@[simp] theorem s_add_5_8 {a : Nat} : a + 5 + 8 = a + 13 := Nat.add_assoc a 5 8
@[simp] theorem s_add_6_1 {a : Nat} : a + 6 + 1 = a + 7 := Nat.add_assoc a 6 1
@[simp] theorem s_add_6_2 {a : Nat} : a + 6 + 2 = a + 8 := Nat.add_assoc a 6 2
@[simp] theorem s_add_6_3 {a : Nat} : a + 6 + 3 = a + 9 := Nat.add_assoc a 6 3
@[simp] theorem s_add_6_4 {a : Nat} : a + 6 + 4 = a + 10 := Nat.add_assoc a 6 4
@[simp] theorem s_add_6_5 {a : Nat} : a + 6 + 5 = a + 11 := Nat.add_assoc a 6 5
@[simp] theorem s_add_6_6 {a : Nat} : a + 6 + 6 = a + 12 := Nat.add_assoc a 6 6
@[simp] theorem s_add_6_7 {a : Nat} : a + 6 + 7 = a + 13 := Nat.add_assoc a 6 7
@[simp] theorem s_add_6_8 {a : Nat} : a + 6 + 8 = a + 14 := Nat.add_assoc a 6 8
@[simp] theorem s_add_7_1 {a : Nat} : a + 7 + 1 = a + 8 := Nat.add_assoc a 7 1
@[simp] theorem s_add_7_2 {a : Nat} : a + 7 + 2 = a + 9 := Nat.add_assoc a 7 2
@[simp] theorem s_add_7_3 {a : Nat} : a + 7 + 3 = a + 10 := Nat.add_assoc a 7 3
@[simp] theorem s_add_7_4 {a : Nat} : a + 7 + 4 = a + 11 := Nat.add_assoc a 7 4
@[simp] theorem s_add_7_5 {a : Nat} : a + 7 + 5 = a + 12 := Nat.add_assoc a 7 5
@[simp] theorem s_add_7_6 {a : Nat} : a + 7 + 6 = a + 13 := Nat.add_assoc a 7 6
@[simp] theorem s_add_7_7 {a : Nat} : a + 7 + 7 = a + 14 := Nat.add_assoc a 7 7
@[simp] theorem s_add_7_8 {a : Nat} : a + 7 + 8 = a + 15 := Nat.add_assoc a 7 8
@[simp] theorem s_add_8_1 {a : Nat} : a + 8 + 1 = a + 9 := Nat.add_assoc a 8 1
@[simp] theorem s_add_8_2 {a : Nat} : a + 8 + 2 = a + 10 := Nat.add_assoc a 8 2
@[simp] theorem s_add_8_3 {a : Nat} : a + 8 + 3 = a + 11 := Nat.add_assoc a 8 3
@[simp] theorem s_add_8_4 {a : Nat} : a + 8 + 4 = a + 12 := Nat.add_assoc a 8 4
@[simp] theorem s_add_8_5 {a : Nat} : a + 8 + 5 = a + 13 := Nat.add_assoc a 8 5
@[simp] theorem s_add_8_6 {a : Nat} : a + 8 + 6 = a + 14 := Nat.add_assoc a 8 6
@[simp] theorem s_add_8_7 {a : Nat} : a + 8 + 7 = a + 15 := Nat.add_assoc a 8 7
@[simp] theorem s_add_8_8 {a : Nat} : a + 8 + 8 = a + 16 := Nat.add_assoc a 8 8
@[simp] theorem s_add_9_1 {a : Nat} : a + 9 + 1 = a + 10 := Nat.add_assoc a 9 1
@[simp] theorem s_add_9_2 {a : Nat} : a + 9 + 2 = a + 11 := Nat.add_assoc a 9 2
@[simp] theorem s_add_9_3 {a : Nat} : a + 9 + 3 = a + 12 := Nat.add_assoc a 9 3
@[simp] theorem s_add_9_4 {a : Nat} : a + 9 + 4 = a + 13 := Nat.add_assoc a 9 4
@[simp] theorem s_add_9_5 {a : Nat} : a + 9 + 5 = a + 14 := Nat.add_assoc a 9 5
@[simp] theorem s_add_9_6 {a : Nat} : a + 9 + 6 = a + 15 := Nat.add_assoc a 9 6
@[simp] theorem s_add_9_7 {a : Nat} : a + 9 + 7 = a + 16 := Nat.add_assoc a 9 7
@[simp] theorem s_add_9_8 {a : Nat} : a + 9 + 8 = a + 17 := Nat.add_assoc a 9 8
@[simp] theorem s_add_10_1 {a : Nat} : a + 10 + 1 = a + 11 := Nat.add_assoc a 10 1
@[simp] theorem s_add_10_2 {a : Nat} : a + 10 + 2 = a + 12 := Nat.add_assoc a 10 2
@[simp] theorem s_add_10_3 {a : Nat} : a + 10 + 3 = a + 13 := Nat.add_assoc a 10 3
@[simp] theorem s_add_10_4 {a : Nat} : a + 10 + 4 = a + 14 := Nat.add_assoc a 10 4
@[simp] theorem s_add_10_5 {a : Nat} : a + 10 + 5 = a + 15 := Nat.add_assoc a 10 5
@[simp] theorem s_add_10_6 {a : Nat} : a + 10 + 6 = a + 16 := Nat.add_assoc a 10 6
@[simp] theorem s_add_10_7 {a : Nat} : a + 10 + 7 = a + 17 := Nat.add_assoc a 10 7
@[simp] theorem s_add_10_8 {a : Nat} : a + 10 + 8 = a + 18 := Nat.add_assoc a 10 8
@[simp] theorem s_add_11_1 {a : Nat} : a + 11 + 1 = a + 12 := Nat.add_assoc a 11 1
@[simp] theorem s_add_11_2 {a : Nat} : a + 11 + 2 = a + 13 := Nat.add_assoc a 11 2
@[simp] theorem s_add_11_3 {a : Nat} : a + 11 + 3 = a + 14 := Nat.add_assoc a 11 3
@[simp] theorem s_add_11_4 {a : Nat} : a + 11 + 4 = a + 15 := Nat.add_assoc a 11 4
@[simp] theorem s_add_11_5 {a : Nat} : a + 11 + 5 = a + 16 := Nat.add_assoc a 11 5
@[simp] theorem s_add_11_6 {a : Nat} : a + 11 + 6 = a + 17 := Nat.add_assoc a 11 6
@[simp] theorem s_add_11_7 {a : Nat} : a + 11 + 7 = a + 18 := Nat.add_assoc a 11 7
@[simp] theorem s_add_11_8 {a : Nat} : a + 11 + 8 = a + 19 := Nat.add_assoc a 11 8
@[simp] theorem s_add_12_1 {a : Nat} : a + 12 + 1 = a + 13 := Nat.add_assoc a 12 1
@[simp] theorem s_add_12_2 {a : Nat} : a + 12 + 2 = a + 14 := Nat.add_assoc a 12 2
@[simp] theorem s_add_12_3 {a : Nat} : a + 12 + 3 = a + 15 := Nat.add_assoc a 12 3
@[simp] theorem s_add_12_4 {a : Nat} : a + 12 + 4 = a + 16 := Nat.add_assoc a 12 4
@[simp] theorem s_add_12_5 {a : Nat} : a + 12 + 5 = a + 17 := Nat.add_assoc a 12 5
@[simp] theorem s_add_12_6 {a : Nat} : a + 12 + 6 = a + 18 := Nat.add_assoc a 12 6
@[simp] theorem s_add_12_7 {a : Nat} : a + 12 + 7 = a + 19 := Nat.add_assoc a 12 7
@[simp] theorem s_add_12_8 {a : Nat} : a + 12 + 8 = a + 20 := Nat.add_assoc a 12 8
@[simp] theorem s_add_13_1 {a : Nat} : a + 13 + 1 = a + 14 := Nat.add_assoc a 13 1
@[simp] theorem s_add_13_2 {a : Nat} : a + 13 + 2 = a + 15 := Nat.add_assoc a 13 2
@[simp] theorem s_add_13_3 {a : Nat} : a + 13 + 3 = a + 16 := Nat.add_assoc a 13 3
@[simp] theorem s_add_13_4 {a : Nat} : a + 13 + 4 = a + 17 := Nat.add_assoc a 13 4
@[simp] theorem s_add_13_5 {a : Nat} : a + 13 + 5 = a + 18 := Nat.add_assoc a 13 5
@[simp] theorem s_add_13_6 {a : Nat} : a + 13 + 6 = a + 19 := Nat.add_assoc a 13 6
@[simp] theorem s_add_13_7 {a : Nat} : a + 13 + 7 = a + 20 := Nat.add_assoc a 13 7
@[simp] theorem s_add_13_8 {a : Nat} : a + 13 + 8 = a + 21 := Nat.add_assoc a 13 8
@[simp] theorem s_add_14_1 {a : Nat} : a + 14 + 1 = a + 15 := Nat.add_assoc a 14 1
@[simp] theorem s_add_14_2 {a : Nat} : a + 14 + 2 = a + 16 := Nat.add_assoc a 14 2
@[simp] theorem s_add_14_3 {a : Nat} : a + 14 + 3 = a + 17 := Nat.add_assoc a 14 3
@[simp] theorem s_add_14_4 {a : Nat} : a + 14 + 4 = a + 18 := Nat.add_assoc a 14 4
@[simp] theorem s_add_14_5 {a : Nat} : a + 14 + 5 = a + 19 := Nat.add_assoc a 14 5
@[simp] theorem s_add_14_6 {a : Nat} : a + 14 + 6 = a + 20 := Nat.add_assoc a 14 6
@[simp] theorem s_add_14_7 {a : Nat} : a + 14 + 7 = a + 21 := Nat.add_assoc a 14 7
@[simp] theorem s_add_14_8 {a : Nat} : a + 14 + 8 = a + 22 := Nat.add_assoc a 14 8
@[simp] theorem s_add_15_1 {a : Nat} : a + 15 + 1 = a + 16 := Nat.add_assoc a 15 1
@[simp] theorem s_add_15_2 {a : Nat} : a + 15 + 2 = a + 17 := Nat.add_assoc a 15 2
@[simp] theorem s_add_15_3 {a : Nat} : a + 15 + 3 = a + 18 := Nat.add_assoc a 15 3
@[simp] theorem s_add_15_4 {a : Nat} : a + 15 + 4 = a + 19 := Nat.add_assoc a 15 4
@[simp] theorem s_add_15_5 {a : Nat} : a + 15 + 5 = a + 20 := Nat.add_assoc a 15 5
@[simp] theorem s_add_15_6 {a : Nat} : a + 15 + 6 = a + 21 := Nat.add_assoc a 15 6
@[simp] theorem s_add_15_7 {a : Nat} : a + 15 + 7 = a + 22 := Nat.add_assoc a 15 7
@[simp] theorem s_add_15_8 {a : Nat} : a + 15 + 8 = a + 23 := Nat.add_assoc a 15 8
@[simp] theorem isi_NoneType {cs : List Str} {T : String} : fIsi cs [.non, .ty T] = (kitB "NoneType" T).map fun b => .sh (.bl b) := id rfl
@[simp] theorem isig_NoneType {c : Str} : fIsi [c] [.non, .glo c] = some (.sh (.bl false)) := by unfold fIsi; simp
@[simp] theorem isi_bool {cs : List Str} {x : Bool} {T : String} : fIsi cs [.bl x, .ty T] = (kitB "bool" T).map fun b => .sh (.bl b) := id rfl
@[simp] theorem isig_bool {c : Str} {x : Bool} : fIsi [c] [.bl x, .glo c] = some (.sh (.bl false)) := by unfold fIsi; simp
@[simp] theorem isi_int {cs : List Str} {x : Int} {T : String} : fIsi cs [.int x, .ty T] = (kitB "int" T).map fun b => .sh (.bl b) := id rfl
@[simp] theorem isig_int {c : Str} {x : Int} : fIsi [c] [.int x, .glo c] = some (.sh (.bl false)) := by unfold fIsi; simp
@[simp] theorem isi_str {cs : List Str} {x : Str} {T : String} : fIsi cs [.str x, .ty T] = (kitB "str" T).map fun b => .sh (.bl b) := id rfl
@[simp] theorem isig_str {c : Str} {x : Str} : fIsi [c] [.str x, .glo c] = some (.sh (.bl false)) := by unfold fIsi; simp
@[simp] theorem isi_list {cs : List Str} {x : List D} {T : String} : fIsi cs [.lst x, .ty T] = (kitB "list" T).map fun b => .sh (.bl b) := id rfl
@[simp] theorem isig_list {c : Str} {x : List D} : fIsi [c] [.lst x, .glo c] = some (.sh (.bl false)) := by unfold fIsi; simp
@[simp] theorem isi_tuple {cs : List Str} {x : List D} {T : String} : fIsi cs [.tup x, .ty T] = (kitB "tuple" T).map fun b => .sh (.bl b) := id rfl
@[simp] theorem isig_tuple {c : Str} {x : List D} : fIsi [c] [.tup x, .glo c] = some (.sh (.bl false)) := by unfold fIsi; simp
@[simp] theorem isi_ins {c : Str} {fs : List (Str × D)} : fIsi [c] [.ins c fs, .glo c] = some (.sh (.bl true)) := by unfold fIsi; simp
theorem isi_insT {c : Str} {fs : List (Str × D)} {T : String} (h : T ∈ six) : fIsi [c] [.ins c fs, .ty T] = some (.sh (.bl false)) := by unfold fIsi; simp [h]
@[simp] theorem kit_NoneType_bool : kitB "NoneType" "bool" = some false := by decide +kernel
@[simp] theorem kit_NoneType_int : kitB "NoneType" "int" = some false := by decide +kernel
@[simp] theorem kit_NoneType_str : kitB "NoneType" "str" = some false := by decide +kernel
@[simp] theorem kit_NoneType_list : kitB "NoneType" "list" = some false := by decide +kernel
@[simp] theorem kit_NoneType_tuple : kitB "NoneType" "tuple" = some false := by decide +kernel
@[simp] theorem kit_bool_bool : kitB "bool" "bool" = some true := by decide +kernel
@[simp] theorem kit_bool_int : kitB "bool" "int" = some true := by decide +kernel
@[simp] theorem kit_bool_str : kitB "bool" "str" = some false := by decide +kernel
@[simp] theorem kit_bool_list : kitB "bool" "list" = some false := by decide +kernel
@[simp] theorem kit_bool_tuple : kitB "bool" "tuple" = some false := by decide +kernel
@[simp] theorem kit_int_bool : kitB "int" "bool" = some false := by decide +kernel
@[simp] theorem kit_int_int : kitB "int" "int" = some true := by decide +kernel
@[simp] theorem kit_int_str : kitB "int" "str" = some false := by decide +kernel
@[simp] theorem kit_int_list : kitB "int" "list" = some false := by decide +kernel
@[simp] theorem kit_int_tuple : kitB "int" "tuple" = some false := by decide +kernel
@[simp] theorem kit_str_bool : kitB "str" "bool" = some false := by decide +kernel
@[simp] theorem kit_str_int : kitB "str" "int" = some false := by decide +kernel
@[simp] theorem kit_str_str : kitB "str" "str" = some true := by decide +kernel
@[simp] theorem kit_str_list : kitB "str" "list" = some false := by decide +kernel
@[simp] theorem kit_str_tuple : kitB "str" "tuple" = some false := by decide +kernel
@[simp] theorem kit_list_bool : kitB "list" "bool" = some false := by decide +kernel
@[simp] theorem kit_list_int : kitB "list" "int" = some false := by decide +kernel
@[simp] theorem kit_list_str : kitB "list" "str" = some false := by decide +kernel
@[simp] theorem kit_list_list : kitB "list" "list" = some true := by decide +kernel
@[simp] theorem kit_list_tuple : kitB "list" "tuple" = some false := by decide +kernel
@[simp] theorem kit_tuple_bool : kitB "tuple" "bool" = some false := by decide +kernel
@[simp] theorem kit_tuple_int : kitB "tuple" "int" = some false := by decide +kernel
@[simp] theorem kit_tuple_str : kitB "tuple" "str" = some false := by decide +kernel
@[simp] theorem kit_tuple_list : kitB "tuple" "list" = some false := by decide +kernel
@[simp] theorem kit_tuple_tuple : kitB "tuple" "tuple" = some true := by decide +kernel
namespace Wz
def wpC (sl0 : List (Option Vl)) (t : TgM) (mc : M Bool) (me : M D) (acc ds : List D) (s : S) (K : List D → S → Prop) : Prop := wp (compL sl0 t mc me acc ds) s K noE
end Wz
def wpC (sl0 : List (Option Vl)) (t : TgM) (mc : M Bool) (me : M D) (acc ds : List D) (s : S) (K : List D → S → Prop) (_t0 : Tag K := ⟨⟩) : Prop := Wz.wpC sl0 t mc me acc ds s K
namespace Wz
theorem wpC_nil {sl0 : List (Option Vl)} {t : TgM} {mc : M Bool} {me : M D} {acc : List D} {s : S} {K : List D → S → Prop} : wpC sl0 t mc me acc [] s K = K acc s := rfl
end Wz
theorem wpC_nil {sl0 : List (Option Vl)} {t : TgM} {mc : M Bool} {me : M D} {acc : List D} {s : S} {K : List D → S → Prop} : wpC sl0 t mc me acc [] s K = K acc s := by exact Wz.wpC_nil
namespace Wz
theorem wpC_cons {sl0 : List (Option Vl)} {t : TgM} {mc : M Bool} {me : M D} {acc ds : List D} {d : D} {s : S} {K : List D → S → Prop} :
    wpC sl0 t mc me acc (d :: ds) s K = optP (t d ⟨sl0, s.ce, s.tb⟩) fun s2 => wp mc s2 (fun b s3 => ifP b (wp me s3 (fun y s4 => acc.length < 1000000 ∧ wpC sl0 t mc me (acc ++ [y]) ds s4 K) noE) (wpC sl0 t mc me acc ds s3 K)) noE := by
  unfold wpC
  conv => lhs; unfold wp; rw [compL]
  dsimp only
  cases t d ⟨sl0, s.ce, s.tb⟩ with
  | none => rfl
  | some s2 =>
    dsimp only [optP]
    unfold wp
    cases mc s2 with
    | none => rfl
    | some r => cases r with
      | ex x s3 => rfl
      | ok b s3 =>
        cases b with
        | false => rfl
        | true =>
          dsimp only [ifP]
          rw [if_pos rfl]
          cases me s3 with
          | none => rfl
          | some r => cases r with
            | ex x s4 => rfl
            | ok y s4 =>
              dsimp only
              by_cases h : acc.length < 1000000
              · rw [if_pos h]; simp only [h, true_and]
              · rw [if_neg h]; simp only [h, false_and]
end Wz
theorem wpC_cons {sl0 : List (Option Vl)} {t : TgM} {mc : M Bool} {me : M D} {acc ds : List D} {d : D} {s : S} {K : List D → S → Prop} :
    wpC sl0 t mc me acc (d :: ds) s K = optP (t d ⟨sl0, s.ce, s.tb⟩) fun s2 => wp mc s2 (fun b s3 => ifP b (wp me s3 (fun y s4 => acc.length < 1000000 ∧ wpC sl0 t mc me (acc ++ [y]) ds s4 K) noE) (wpC sl0 t mc me acc ds s3 K)) noE := by exact Wz.wpC_cons
namespace Wz
theorem wp_compU {vs : List Nat} {mi : M (List D)} {t : TgM} {mc : M Bool} {me : M D} {s : S} {Q : O → S → Prop} {E : Ex → S → Prop}
    (hi : wp mi s (fun ds s1 => wpC (wipeL s1.sl vs) t mc me [] ds s1 (fun acc s2 => Q (.ol acc) ⟨s1.sl, s2.ce, s2.tb⟩)) E) : wp (mComp vs mi t mc me) s Q E := by
  unfold mComp
  rw [wp_bnd]
  refine wp_mono hi (fun ds s1 h => ?_) fun _ _ z => z
  unfold wpC wp at h
  unfold wp
  dsimp only
  cases q : compL (wipeL s1.sl vs) t mc me [] ds s1 with
  | none => rw [q] at h; exact h.elim
  | some r => cases r with
    | ex x s2 => rw [q] at h; exact h.elim
    | ok acc s2 => rw [q] at h; exact h
end Wz
theorem wp_compU {vs : List Nat} {mi : M (List D)} {t : TgM} {mc : M Bool} {me : M D} {s : S} {Q : O → S → Prop} {E : Ex → S → Prop}
    (hi : wp mi s (fun ds s1 => wpC (wipeL s1.sl vs) t mc me [] ds s1 (fun acc s2 => Q (.ol acc) ⟨s1.sl, s2.ce, s2.tb⟩)) E) : wp (mComp vs mi t mc me) s Q E := by exact Wz.wp_compU hi
namespace Wz
def inoP (c : Str) (x : D) (q : Ref) (K : List (Str × D) → List (Str × D) → Prop) : Prop := match x, q with
  | .ins c1 fs, .va (.lst [.ins c2 gs]) => (c1 = c ∧ c2 = c) ∧ K fs gs
  | _, _ => False
end Wz
def inoP (c : Str) (x : D) (q : Ref) (K : List (Str × D) → List (Str × D) → Prop) (_t0 : Tag K := ⟨⟩) : Prop := Wz.inoP c x q K
namespace Wz
@[simp] theorem inoP_eq {c c1 c2 : Str} {fs gs : List (Str × D)} {K : List (Str × D) → List (Str × D) → Prop} : inoP c (.ins c1 fs) (.va (.lst [.ins c2 gs])) K = ((c1 = c ∧ c2 = c) ∧ K fs gs) := id rfl
end Wz
@[simp] theorem inoP_eq {c c1 c2 : Str} {fs gs : List (Str × D)} {K : List (Str × D) → List (Str × D) → Prop} : inoP c (.ins c1 fs) (.va (.lst [.ins c2 gs])) K = ((c1 = c ∧ c2 = c) ∧ K fs gs) := by exact Wz.inoP_eq
namespace Wz
theorem wp_mInO {F : Fn} {c : Str} {ma mb : M Ref} {s : S} {Q : O → S → Prop} {E : Ex → S → Prop} (h : wp ma s (fun r s1 => wp mb s1 (fun q s2 => optP (view s2 r) fun x => inoP c x q fun fs gs => wp (callF F [.va (.ins c gs), r]) s2 (fun o s' => blP o fun b => s' = s2 ∧ (b = true ∨ apartP gs fs = true) ∧ Q (.sh (.bl b)) s2) noE) E) E) : wp (mInO F c ma mb) s Q E := by
  unfold mInO
  rw [wp_bnd]
  refine wp_mono h (fun r s1 h => ?_) fun _ _ z => z
  rw [wp_bnd]
  refine wp_mono h (fun q s2 h => ?_) fun _ _ z => z
  rw [optP_iff] at h
  obtain ⟨x, hx, h⟩ := h
  unfold inoP at h
  unfold wp
  dsimp only
  rw [hx]
  split at h
  · rename_i c1 fs c2 gs
    obtain ⟨⟨rfl, rfl⟩, h⟩ := h
    dsimp only
    rw [if_pos ⟨rfl, rfl⟩]
    unfold wp at h
    split at h
    · rename_i o s' e
      rw [e]
      unfold blP at h
      split at h
      · rename_i b
        obtain ⟨rfl, h2, h3⟩ := h
        dsimp only
        rw [if_pos ⟨rfl, h2⟩]
        exact h3
      · exact h.elim
    · exact h.elim
    · exact h.elim
  · exact h.elim
end Wz
theorem wp_mInO {F : Fn} {c : Str} {ma mb : M Ref} {s : S} {Q : O → S → Prop} {E : Ex → S → Prop} (h : wp ma s (fun r s1 => wp mb s1 (fun q s2 => optP (view s2 r) fun x => inoP c x q fun fs gs => wp (callF F [.va (.ins c gs), r]) s2 (fun o s' => blP o fun b => s' = s2 ∧ (b = true ∨ apartP gs fs = true) ∧ Q (.sh (.bl b)) s2) noE) E) E) : wp (mInO F c ma mb) s Q E := by exact Wz.wp_mInO h
namespace Wz
def paoP (c : Str) (x y : D) (K : List (Str × D) → List (Str × D) → Prop) : Prop := match x, y with
  | .tup [.int i, .ins c1 fs], .tup [.int j, .ins c2 gs] => ((c1 = c ∧ c2 = c) ∧ i = j) ∧ K fs gs
  | _, _ => False
end Wz
def paoP (c : Str) (x y : D) (K : List (Str × D) → List (Str × D) → Prop) (_t0 : Tag K := ⟨⟩) : Prop := Wz.paoP c x y K
namespace Wz
@[simp] theorem paoP_eq {c c1 c2 : Str} {i j : Int} {fs gs : List (Str × D)} {K : List (Str × D) → List (Str × D) → Prop} : paoP c (.tup [.int i, .ins c1 fs]) (.tup [.int j, .ins c2 gs]) K = (((c1 = c ∧ c2 = c) ∧ i = j) ∧ K fs gs) := id rfl
end Wz
@[simp] theorem paoP_eq {c c1 c2 : Str} {i j : Int} {fs gs : List (Str × D)} {K : List (Str × D) → List (Str × D) → Prop} : paoP c (.tup [.int i, .ins c1 fs]) (.tup [.int j, .ins c2 gs]) K = (((c1 = c ∧ c2 = c) ∧ i = j) ∧ K fs gs) := by exact Wz.paoP_eq
namespace Wz
theorem wp_mPairO {F : Fn} {c : Str} {ma mb : M Ref} {s : S} {Q : O → S → Prop} {E : Ex → S → Prop} (h : wp ma s (fun r s1 => wp mb s1 (fun q s2 => optP (view s2 r) fun x => optP (view s2 q) fun y => paoP c x y fun fs gs => wp (callF F [.va (.ins c fs), .va (.ins c gs)]) s2 (fun o s' => blP o fun b => b = true ∧ s' = s2 ∧ Q (.sh (.bl true)) s2) noE) E) E) : wp (mPairO F c ma mb) s Q E := by
  unfold mPairO
  rw [wp_bnd]
  refine wp_mono h (fun r s1 h => ?_) fun _ _ z => z
  rw [wp_bnd]
  refine wp_mono h (fun q s2 h => ?_) fun _ _ z => z
  rw [optP_iff] at h
  obtain ⟨x, hx, h⟩ := h
  rw [optP_iff] at h
  obtain ⟨y, hy, h⟩ := h
  unfold paoP at h
  unfold wp
  dsimp only
  rw [hx, hy]
  split at h
  · rename_i i c1 fs j c2 gs
    obtain ⟨⟨⟨rfl, rfl⟩, rfl⟩, h⟩ := h
    dsimp only
    rw [if_pos ⟨⟨rfl, rfl⟩, rfl⟩]
    unfold wp at h
    split at h
    · rename_i o s' e
      rw [e]
      unfold blP at h
      split at h
      · rename_i b
        obtain ⟨rfl, rfl, h3⟩ := h
        dsimp only
        rw [if_pos rfl]
        exact h3
      · exact h.elim
    · exact h.elim
    · exact h.elim
  · exact h.elim
end Wz
theorem wp_mPairO {F : Fn} {c : Str} {ma mb : M Ref} {s : S} {Q : O → S → Prop} {E : Ex → S → Prop} (h : wp ma s (fun r s1 => wp mb s1 (fun q s2 => optP (view s2 r) fun x => optP (view s2 q) fun y => paoP c x y fun fs gs => wp (callF F [.va (.ins c fs), .va (.ins c gs)]) s2 (fun o s' => blP o fun b => b = true ∧ s' = s2 ∧ Q (.sh (.bl true)) s2) noE) E) E) : wp (mPairO F c ma mb) s Q E := by exact Wz.wp_mPairO h
end Vs
namespace Vs
open PySem PySem.Spec PyProof.Rows L2
section
variable {α β : Type} {s : S} {E : Ex → S → Prop}
namespace Wz
@[simp] theorem wp_mConsO {ma : M O} {mr : M (List O)} {Q : List O → S → Prop} : wp (mConsO ma mr) s Q E = wp ma s (fun o s1 => wp mr s1 (fun os s2 => Q (o :: os) s2) E) E := by
  unfold mConsO; simp only [wp_bnd, wp_ret]
end Wz
@[simp] theorem wp_mConsO {ma : M O} {mr : M (List O)} {Q : List O → S → Prop} : wp (mConsO ma mr) s Q E = wp ma s (fun o s1 => wp mr s1 (fun os s2 => Q (o :: os) s2) E) E := by exact Wz.wp_mConsO
namespace Wz
@[simp] theorem wp_mParO {is : List Nat} {m : M (List O)} {Q : Fl → S → Prop} : wp (mParO is m) s Q E = wp m s (fun os s1 => wp (putsL is os) s1 Q E) E := by unfold mParO; rw [wp_bnd]
end Wz
@[simp] theorem wp_mParO {is : List Nat} {m : M (List O)} {Q : Fl → S → Prop} : wp (mParO is m) s Q E = wp m s (fun os s1 => wp (putsL is os) s1 Q E) E := by exact Wz.wp_mParO
namespace Wz
@[simp] theorem wp_putsL_nil {Q : Fl → S → Prop} : wp (putsL [] []) s Q E = Q .nx s := id rfl
end Wz
@[simp] theorem wp_putsL_nil {Q : Fl → S → Prop} : wp (putsL [] []) s Q E = Q .nx s := by exact Wz.wp_putsL_nil
namespace Wz
@[simp] theorem wp_putsL_cons {i : Nat} {is : List Nat} {o : O} {os : List O} {Q : Fl → S → Prop} : wp (putsL (i :: is) (o :: os)) s Q E = wp (putSl i o) s (fun _ s1 => wp (putsL is os) s1 Q E) E := by
  show wp (bnd (putSl i o) fun _ => putsL is os) s Q E = _; rw [wp_bnd]
end Wz
@[simp] theorem wp_putsL_cons {i : Nat} {is : List Nat} {o : O} {os : List O} {Q : Fl → S → Prop} : wp (putsL (i :: is) (o :: os)) s Q E = wp (putSl i o) s (fun _ s1 => wp (putsL is os) s1 Q E) E := by exact Wz.wp_putsL_cons
namespace Wz
@[simp] theorem wp_mZip {ma mb : M D} {Q : List D → S → Prop} : wp (mZip (mCons ma (mCons mb (ret [])))) s Q E = wp ma s (fun x s1 => wp mb s1 (fun y s2 => optP (lstD x) fun xs => optP (lstD y) fun ys => Q (zipD xs ys) s2) E) E := by
  unfold mZip; simp only [wp_bnd, wp_mCons, wp_ret, wp_look, optP_bind, optP_map]
end Wz
@[simp] theorem wp_mZip {ma mb : M D} {Q : List D → S → Prop} : wp (mZip (mCons ma (mCons mb (ret [])))) s Q E = wp ma s (fun x s1 => wp mb s1 (fun y s2 => optP (lstD x) fun xs => optP (lstD y) fun ys => Q (zipD xs ys) s2) E) E := by exact Wz.wp_mZip
namespace Wz
@[simp] theorem wp_mTupZip {ma mb : M D} {Q : D → S → Prop} : wp (mTupZip (mCons ma (mCons mb (ret [])))) s Q E = wp ma s (fun x s1 => wp mb s1 (fun y s2 => optP (lstD x) fun xs => optP (lstD y) fun ys => Q (.tup (zipD xs ys)) s2) E) E := by
  unfold mTupZip; simp only [wp_bnd, wp_mCons, wp_ret, wp_look, optP_bind, optP_map]
end Wz
@[simp] theorem wp_mTupZip {ma mb : M D} {Q : D → S → Prop} : wp (mTupZip (mCons ma (mCons mb (ret [])))) s Q E = wp ma s (fun x s1 => wp mb s1 (fun y s2 => optP (lstD x) fun xs => optP (lstD y) fun ys => Q (.tup (zipD xs ys)) s2) E) E := by exact Wz.wp_mTupZip
theorem strs_all : ∀ ws : List Str, strsD (ws.map D.str) = some ws
  | [] => rfl
  | w :: ws => by show (strsD (ws.map D.str)).map (w :: ·) = _; rw [strs_all ws]; rfl
theorem fSorted_ok {ws : List Str} (h : ws.length < 64) : fSorted [.lst (ws.map D.str)] = some (.ol ((sortS ws).map .str)) := by
  show ((lstD (.lst (ws.map D.str))).bind strsD).bind _ = _
  rw [lstD_lst]
  show (strsD (ws.map D.str)).bind _ = _
  rw [strs_all]
  show (if ws.length < 64 then _ else _) = _
  rw [if_pos h]
theorem sortS_len (ws : List Str) : (sortS ws).length = ws.length := List.length_mergeSort ..
theorem sortS_mem {ws : List Str} {w : Str} (h : w ∈ sortS ws) : w ∈ ws := List.mem_mergeSort.mp h
theorem fPopAt_ok {ds : List D} {i : Int} {d : D} (h0 : 0 ≤ i) (h1 : i < 1000) (h : ds[i.toNat]? = some d) : fPopAt ds [.int i] = some (ds.eraseIdx i.toNat, d) := by
  have hs : small62 i = true := by unfold small62; simp; omega
  have hl : i.toNat < ds.length := (List.getElem?_eq_some_iff.mp h).1
  have e : seqIndex? i ds.length = some i.toNat := by
    unfold seqIndex?
    simp [h0]; omega
  show (if small62 i = true then _ else _) = _
  rw [if_pos hs, e]
  show (ds[i.toNat]?).map _ = _
  rw [h]; rfl
namespace Wz
@[simp] theorem wp_mGet2 {ma mb : M Ref} {mc : M D} {Q : O → S → Prop} : wp (mGet2 ma mb mc) s Q E = wp ma s (fun r s1 => optP (view s1 r) fun x0 => optP (isDict x0) fun _ => wp mb s1 (fun q s2 => wp mc s2 (fun c s3 => optP (view s3 r) fun x => optP (view s3 q) fun y => optP (getOr x y c) fun o => Q o s3) E) E) E := by
  unfold mGet2; simp only [wp_bnd, wp_look, optP_bind]
end Wz
@[simp] theorem wp_mGet2 {ma mb : M Ref} {mc : M D} {Q : O → S → Prop} : wp (mGet2 ma mb mc) s Q E = wp ma s (fun r s1 => optP (view s1 r) fun x0 => optP (isDict x0) fun _ => wp mb s1 (fun q s2 => wp mc s2 (fun c s3 => optP (view s3 r) fun x => optP (view s3 q) fun y => optP (getOr x y c) fun o => Q o s3) E) E) E := by exact Wz.wp_mGet2
namespace Wz
theorem wp_orL {m1 m2 : M α} {Q : α → S → Prop} (h : wp m1 s Q E) : wp (orM m1 m2) s Q E := by
  unfold wp orM at *
  cases z : m1 s with
  | none => rw [z] at h; exact h.elim
  | some r => rw [z] at h; exact h
end Wz
theorem wp_orL {m1 m2 : M α} {Q : α → S → Prop} (h : wp m1 s Q E) : wp (orM m1 m2) s Q E := by exact Wz.wp_orL h
namespace Wz
theorem wp_orR {m1 m2 : M α} {Q : α → S → Prop} (z : m1 s = none) (h : wp m2 s Q E) : wp (orM m1 m2) s Q E := by
  unfold wp orM at *
  rw [z]; exact h
end Wz
theorem wp_orR {m1 m2 : M α} {Q : α → S → Prop} (z : m1 s = none) (h : wp m2 s Q E) : wp (orM m1 m2) s Q E := by exact Wz.wp_orR z h
namespace Wz
@[simp] theorem wp_mFmtRO {F : Fn} {c : Str} {ma : M Ref} {Q : Str → S → Prop} : wp (mFmtRO F c ma) s Q E = wp ma s (fun r s1 => optP (view s1 r) fun d => insP c d (wp (callF F [r]) s1 (fun o s2 => soP o fun y => y.length ≤ 1000000 ∧ Q y s2) E)) E := by
  unfold mFmtRO; rw [wp_bnd]; congr 1; funext r s1; rw [wp_bnd, wp_look]
  cases view s1 r with
  | none => rfl
  | some d =>
    have key : ∀ m : M O, wp (bnd m fun o => look fun _ => match o with
      | .sh (.str y) => if y.length ≤ 1000000 then some y else none
      | _ => none) s1 Q E = wp m s1 (fun o s2 => soP o fun y => y.length ≤ 1000000 ∧ Q y s2) E := fun m => by
      rw [wp_bnd]; congr 1; funext o s2; rw [wp_look]; unfold soP
      cases o with
      | sh d => cases d with
        | str y => dsimp only; rw [optP_ite]
        | _ => rfl
      | _ => rfl
    cases d with
    | ins c' fs =>
      dsimp only [optP, insP]
      by_cases h : c' = c
      · subst h; rw [if_pos rfl]; simp only [true_and]; exact key _
      · rw [if_neg h]; simp [h]
    | _ => rfl
end Wz
@[simp] theorem wp_mFmtRO {F : Fn} {c : Str} {ma : M Ref} {Q : Str → S → Prop} : wp (mFmtRO F c ma) s Q E = wp ma s (fun r s1 => optP (view s1 r) fun d => insP c d (wp (callF F [r]) s1 (fun o s2 => soP o fun y => y.length ≤ 1000000 ∧ Q y s2) E)) E := by exact Wz.wp_mFmtRO
end
namespace Wz
theorem wp_inA1 {F : Fn} {c : Str} {ma mb : M Ref} {s : S} {Q : O → S → Prop} {E : Ex → S → Prop} (h : wp ma s (fun r s1 => wp mb s1 (fun q s2 => optP (view s2 r) fun x => inoP c x q fun fs gs => wp (callF F [.va (.ins c gs), r]) s2 (fun o s' => blP o fun b => s' = s2 ∧ (b = true ∨ apartP gs fs = true) ∧ Q (.sh (.bl b)) s2) noE) E) E) : wp (mInA F c ma mb) s Q E := by
  unfold mInA
  exact wp_orL (wp_mInO h)
end Wz
theorem wp_inA1 {F : Fn} {c : Str} {ma mb : M Ref} {s : S} {Q : O → S → Prop} {E : Ex → S → Prop} (h : wp ma s (fun r s1 => wp mb s1 (fun q s2 => optP (view s2 r) fun x => inoP c x q fun fs gs => wp (callF F [.va (.ins c gs), r]) s2 (fun o s' => blP o fun b => s' = s2 ∧ (b = true ∨ apartP gs fs = true) ∧ Q (.sh (.bl b)) s2) noE) E) E) : wp (mInA F c ma mb) s Q E := by exact Wz.wp_inA1 h
namespace Wz
def in2P (c : Str) (x : D) (q : Ref) (K : D → Prop) : Prop := match x, q with
  | .ins c1 _, .va (.lst [d]) => (c1 = c ∧ isPl d = true) ∧ K d
  | _, _ => False
end Wz
def in2P (c : Str) (x : D) (q : Ref) (K : D → Prop) (_t0 : Tag K := ⟨⟩) : Prop := Wz.in2P c x q K
namespace Wz
@[simp] theorem in2P_eq {c c1 : Str} {fs : List (Str × D)} {d : D} {K : D → Prop} : in2P c (.ins c1 fs) (.va (.lst [d])) K = ((c1 = c ∧ isPl d = true) ∧ K d) := id rfl
end Wz
@[simp] theorem in2P_eq {c c1 : Str} {fs : List (Str × D)} {d : D} {K : D → Prop} : in2P c (.ins c1 fs) (.va (.lst [d])) K = ((c1 = c ∧ isPl d = true) ∧ K d) := by exact Wz.in2P_eq
namespace Wz
theorem wp_in2 {F : Fn} {c : Str} {ma mb : M Ref} {s : S} {Q : O → S → Prop} {E : Ex → S → Prop} (h : wp ma s (fun r s1 => wp mb s1 (fun q s2 => optP (view s2 r) fun x => in2P c x q fun d => wp (callF F [r, .va d]) s2 (fun o s' => blP o fun b => s' = s2 ∧ Q (.sh (.bl b)) s2) noE) E) E) : wp (mIn2 F c ma mb) s Q E := by
  unfold mIn2
  rw [wp_bnd]
  refine wp_mono h (fun r s1 h => ?_) fun _ _ z => z
  rw [wp_bnd]
  refine wp_mono h (fun q s2 h => ?_) fun _ _ z => z
  rw [optP_iff] at h
  obtain ⟨x, hx, h⟩ := h
  unfold in2P at h
  unfold wp
  dsimp only
  rw [hx]
  split at h
  · rename_i c1 fs d
    obtain ⟨⟨e0, hp⟩, h9⟩ := h
    subst e0
    dsimp only
    rw [if_pos ⟨rfl, hp⟩]
    unfold wp at h9
    split at h9
    · rename_i o s' e
      rw [e]
      unfold blP at h9
      split at h9
      · rename_i b
        obtain ⟨e5, h3⟩ := h9
        subst e5
        dsimp only
        rw [if_pos rfl]
        exact h3
      · exact h9.elim
    · exact h9.elim
    · exact h9.elim
  · exact h.elim
end Wz
theorem wp_in2 {F : Fn} {c : Str} {ma mb : M Ref} {s : S} {Q : O → S → Prop} {E : Ex → S → Prop} (h : wp ma s (fun r s1 => wp mb s1 (fun q s2 => optP (view s2 r) fun x => in2P c x q fun d => wp (callF F [r, .va d]) s2 (fun o s' => blP o fun b => s' = s2 ∧ Q (.sh (.bl b)) s2) noE) E) E) : wp (mIn2 F c ma mb) s Q E := by exact Wz.wp_in2 h
namespace Wz
theorem wp_inA2 {F : Fn} {c : Str} {ma mb : M Ref} {s : S} {Q : O → S → Prop} {E : Ex → S → Prop} (h : wp ma s (fun r s1 => wp mb s1 (fun q s2 => optP (view s2 r) fun x => in2P c x q fun d => wp (callF F [r, .va d]) s2 (fun o s' => blP o fun b => s' = s2 ∧ Q (.sh (.bl b)) s2) noE) E) E) : wp (mInA F c ma mb) s Q E := by
  have h2 := wp_in2 h
  unfold mInA
  unfold wp at h
  split at h
  · rename_i r s1 e1
    split at h
    · rename_i q s2 e2
      refine wp_orR ?_ h2
      unfold mInO
      rw [bnd_ok e1, bnd_ok e2]
      rw [optP_iff] at h
      obtain ⟨x, hx, h⟩ := h
      unfold in2P at h
      split at h
      · rename_i c1 fs d
        obtain ⟨⟨_, hp⟩, _⟩ := h
        rw [hx]
        cases d <;> first | rfl | cases hp
      · exact h.elim
    · rename_i x s2 e2
      refine wp_orL ?_
      unfold wp mInO
      rw [bnd_ok e1, bnd_ex e2]
      exact h
    · exact h.elim
  · rename_i x s1 e1
    refine wp_orL ?_
    unfold wp mInO
    rw [bnd_ex e1]
    exact h
  · exact h.elim
end Wz
theorem wp_inA2 {F : Fn} {c : Str} {ma mb : M Ref} {s : S} {Q : O → S → Prop} {E : Ex → S → Prop} (h : wp ma s (fun r s1 => wp mb s1 (fun q s2 => optP (view s2 r) fun x => in2P c x q fun d => wp (callF F [r, .va d]) s2 (fun o s' => blP o fun b => s' = s2 ∧ Q (.sh (.bl b)) s2) noE) E) E) : wp (mInA F c ma mb) s Q E := by exact Wz.wp_inA2 h
end Vs
namespace Vs
open PySem PySem.Spec PyProof.Rows L2
mutual
def nb : PyData → Bool
  | .bool _ => false
  | .dict _ => false
  | .list xs => nbs xs
  | .tuple xs => nbs xs
  | _ => true
def nbs : List PyData → Bool
  | [] => true
  | x :: xs => nb x && nbs xs
end
mutual
theorem eqv_iff : ∀ {p q : PyData}, nb p = true → nb q = true → (PyData.eqv p q = true ↔ p = q)
  | .none, q, h, g => by cases q <;> simp [PyData.eqv] <;> simp [nb] at g
  | .bool _, _, h, _ => by simp [nb] at h
  | .int _, q, h, g => by cases q <;> simp [PyData.eqv] <;> simp [nb] at g
  | .str _, q, h, g => by cases q <;> simp [PyData.eqv] <;> simp [nb] at g
  | .dict _, _, h, _ => by simp [nb] at h
  | .list xs, q, h, g => by
    cases q with
    | list ys =>
      have := eqvs_iff (xs := xs) (ys := ys) (by simpa [nb] using h) (by simpa [nb] using g)
      simp [PyData.eqv, this]
    | _ => simp [PyData.eqv]
  | .tuple xs, q, h, g => by
    cases q with
    | tuple ys =>
      have := eqvs_iff (xs := xs) (ys := ys) (by simpa [nb] using h) (by simpa [nb] using g)
      simp [PyData.eqv, this]
    | _ => simp [PyData.eqv]
theorem eqvs_iff : ∀ {xs ys : List PyData}, nbs xs = true → nbs ys = true → (PyData.eqvAll xs ys = true ↔ xs = ys)
  | [], [], _, _ => by simp [PyData.eqvAll]
  | [], _ :: _, _, _ => by simp [PyData.eqvAll]
  | _ :: _, [], _, _ => by simp [PyData.eqvAll]
  | x :: xs, y :: ys, h, g => by
    simp [nbs] at h g
    have h1 := eqv_iff h.1 g.1
    have h2 := eqvs_iff h.2 g.2
    simp [PyData.eqvAll, h1, h2]
end
/-- a plain tree of depth n or less -/
def good (n : Nat) (d : D) : Prop := ∃ p, toP d = some p ∧ p.canLay0 = true ∧ p.depth ≤ n ∧ nb p = true
theorem good.mono {n m : Nat} {d : D} (h : good n d) (e : n ≤ m) : good m d := by
  obtain ⟨p, h1, h2, h3, h4⟩ := h; exact ⟨p, h1, h2, Nat.le_trans h3 e, h4⟩
theorem good_int {n : Nat} (i : Int) : good n (.int i) := ⟨.int i, by simp [toP], by simp [PyData.canLay0], by simp [PyData.depth], by simp [nb]⟩
theorem good_non {n : Nat} : good n .non := ⟨.none, by simp [toP], by simp [PyData.canLay0], by simp [PyData.depth], by simp [nb]⟩
theorem good_str {n : Nat} {x : Str} (h : PyData.strOk x = true) : good n (.str x) := ⟨.str x, by simp [toP], by simp [PyData.canLay0, h], by simp [PyData.depth], by simp [nb]⟩
theorem goods {n : Nat} : ∀ {ds : List D}, (∀ d ∈ ds, good n d) → ∃ ps, toPs ds = some ps ∧ PyData.canLayAll0 ps = true ∧ PyData.depthAll ps ≤ n ∧ nbs ps = true
  | [], _ => ⟨[], by simp [toPs], by simp [PyData.canLayAll0], by simp [PyData.depthAll], by simp [nbs]⟩
  | d :: ds, h => by
    obtain ⟨p, h1, h2, h3, h4⟩ := h d List.mem_cons_self
    obtain ⟨ps, g1, g2, g3, g4⟩ := goods fun e he => h e (List.mem_cons_of_mem _ he)
    refine ⟨p :: ps, by simp [toPs, h1, g1], by simp [PyData.canLayAll0, h2, g2], by simp [PyData.depthAll]; omega, by simp [nbs, h4, g4]⟩
theorem good_tup {n : Nat} {ds : List D} (h : ∀ d ∈ ds, good n d) : good (n + 1) (.tup ds) := by
  obtain ⟨ps, g1, g2, g3, g4⟩ := goods h
  exact ⟨.tuple ps, by simp [toP, g1], by simp [PyData.canLay0, g2], by simp [PyData.depth]; omega, by simp [nb, g4]⟩
theorem good_ct {n : Nat} {ds : List D} (h : ∀ d ∈ ds, good n d) : good (n + 1) (.ct ds) := by
  obtain ⟨ps, g1, g2, g3, g4⟩ := goods h
  exact ⟨.tuple ps, by simp [toP, g1], by simp [PyData.canLay0, g2], by simp [PyData.depth]; omega, by simp [nb, g4]⟩
theorem good_lst {n : Nat} {ds : List D} (h : ∀ d ∈ ds, good n d) : good (n + 1) (.lst ds) := by
  obtain ⟨ps, g1, g2, g3, g4⟩ := goods h
  exact ⟨.list ps, by simp [toP, g1], by simp [PyData.canLay0, g2], by simp [PyData.depth]; omega, by simp [nb, g4]⟩
open Classical in
theorem eqD_good {n : Nat} {d e : D} (h : good n d) (g : good n e) (hn : n ≤ 64) : eqD d e = some (decide (toP d = toP e)) := by
  obtain ⟨p, h1, h2, h3, h4⟩ := h
  obtain ⟨q, g1, g2, g3, g4⟩ := g
  have key : eqP d e = some (decide (toP d = toP e)) := by
    unfold eqP
    rw [h1, g1]
    have s1 : SeqAt.shaped p = true := by unfold SeqAt.shaped; rw [h2]; simp; omega
    have s2 : SeqAt.shaped q = true := by unfold SeqAt.shaped; rw [g2]; simp; omega
    simp only [s1, s2, Bool.and_self, if_true, Option.some.injEq]
    have := eqv_iff h4 g4
    by_cases z : p = q
    · rw [this.mpr z]; simp [z]
    · have : PyData.eqv p q = false := by cases y : PyData.eqv p q with
        | true => exact absurd (this.mp y) z
        | false => rfl
      rw [this]; simp [z]
  unfold eqD
  split
  · simp [toP]
  · simp [toP]
  · simp [toP] at h1; subst h1; simp [nb] at h4
  · simp [toP]
  · exact key
theorem toP_tup {xs ys : List D} : (toP (.tup xs) = toP (.tup ys)) ↔ toPs xs = toPs ys := by
  simp only [toP]
  cases toPs xs <;> cases toPs ys <;> simp
theorem toPs_len : ∀ {xs : List D} {ps : List PyData}, toPs xs = some ps → ps.length = xs.length
  | [], _, e => by simp [toPs] at e; subst e; rfl
  | x :: xs, _, e => by
    simp only [toPs] at e
    obtain ⟨p, _, e⟩ := Option.bind_eq_some_iff.mp e
    obtain ⟨ps, e1, e2⟩ := Option.map_eq_some_iff.mp e
    subst e2
    simp [toPs_len e1]
theorem toPs_get : ∀ {xs : List D} {ps : List PyData} (i : Nat), toPs xs = some ps → (xs[i]?).bind toP = ps[i]?
  | [], _, i, e => by simp [toPs] at e; subst e; simp
  | x :: xs, _, i, e => by
    simp only [toPs] at e
    obtain ⟨p, e0, e⟩ := Option.bind_eq_some_iff.mp e
    obtain ⟨ps, e1, e2⟩ := Option.map_eq_some_iff.mp e
    subst e2
    cases i with
    | zero => simpa using e0
    | succ i => simpa using toPs_get i e1
/-- unlike at one place: unlike -/
theorem toPs_ne {n : Nat} {xs ys : List D} {x y : D} (h : ∀ d ∈ xs, good n d) (i : Nat) (hx : xs[i]? = some x) (hy : ys[i]? = some y) (e : toPs xs = toPs ys) : toP x = toP y := by
  obtain ⟨ps, g1, _⟩ := goods h
  have h1 := toPs_get i g1
  have h2 := toPs_get i (e ▸ g1)
  rw [hx] at h1; rw [hy] at h2
  exact h1.trans h2.symm
theorem toPs_ne_len {n : Nat} {xs ys : List D} (h : ∀ d ∈ xs, good n d) (e : toPs xs = toPs ys) : xs.length = ys.length := by
  obtain ⟨ps, g1, _⟩ := goods h
  rw [← toPs_len g1, ← toPs_len (e ▸ g1)]
end Vs
namespace My
open PySem PySem.Spec PyProof.Rows L2 Vs
theorem word_ok {w : Str} (h : Word w) : PyData.strOk w = true := by
  unfold PyData.strOk
  rw [Array.all_eq_true_iff_forall_mem]
  intro c hc
  have := h.1 c (by simpa using hc)
  simp; omega
theorem app_ok {a b : Str} (h : PyData.strOk a = true) (g : PyData.strOk b = true) : PyData.strOk (a ++ b) = true := by
  unfold PyData.strOk at *
  rw [Array.all_eq_true_iff_forall_mem] at *
  intro c hc
  rcases Array.mem_append.mp hc with hc | hc
  · exact h c hc
  · exact g c hc
theorem strI_ok {n : Int} (h : 0 ≤ n) : PyData.strOk (strI n) = true := by
  unfold PyData.strOk
  rw [Array.all_eq_true_iff_forall_mem]
  intro c hc
  have e : ((n.toNat : Nat) : Int) = n := by omega
  have := strI_digits n.toNat c (by rw [e]; simpa using hc)
  simp; omega
theorem strI_len100 {n : Int} (h0 : 0 ≤ n) (h1 : n < 10000000) : (strI n).length ≤ 100 := by
  have e : ((n.toNat : Nat) : Int) = n := by omega
  have := strI_len (n := n.toNat) (k := 7) (by decide) (by omega)
  rw [e] at this; omega
def Tx1 (w : Str) : Prop := PyData.strOk w = true ∧ w.length ≤ 100
theorem good_strs {n : Nat} {ws : List Str} (h : ∀ w ∈ ws, Tx1 w) : ∀ d ∈ ws.map D.str, good n d := fun d hd => by
  obtain ⟨w, hw, rfl⟩ := List.mem_map.mp hd
  exact good_str (h w hw).1
theorem nil_eq {ws : List Str} (h : ∀ w ∈ ws, Tx1 w) : eqD (.lst (ws.map D.str)) (.lst []) = some (decide (ws = [])) := by
  rw [eqD_good (good_lst (good_strs (n := 0) h)) (good_lst (n := 0) (ds := []) (by simp)) (by decide)]
  have : (toP (.lst (ws.map D.str)) = toP (.lst [])) ↔ ws = [] := by
    constructor
    · intro e
      cases ws with
      | nil => rfl
      | cons w ws =>
        obtain ⟨ps, g1, _⟩ := goods (good_strs (n := 0) h)
        simp only [toP, g1, toPs, Option.map_some] at e
        have := toPs_len g1
        simp at e; subst e; simp at this
    · rintro rfl; rfl
  simp [this]
theorem atI_strs {ws : List Str} {k : Int} (h0 : 0 ≤ k) (h1 : k < ws.length) : ∃ w, w ∈ ws ∧ L2.atI (ws.map D.str) k = some (.str w) := by
  have e : k = ((k.toNat : Nat) : Int) := by omega
  have hl : k.toNat < ws.length := by omega
  refine ⟨ws[k.toNat], List.getElem_mem hl, ?_⟩
  have : L2.atI (ws.map D.str) ((k.toNat : Nat) : Int) = some (.str ws[k.toNat]) := by
    rw [atI_nat']; simp [List.getElem?_eq_getElem hl]
  rw [← e] at this; exact this
theorem pick_p {N : Nat} {l : List D} {ws : List Str} {st : Str} {c : O} (B : Bag N l) (hN : N + 10 < 2 ^ 60) (hw : ws.length < 1000) (ok : ∀ w ∈ ws, Tx1 w) (hc : c = .ol (ws.map .str) ∨ c = .sh (.lst (ws.map .str))) : ∃ (r : Str) (l' : List D), Bag (N + 2) l' ∧ (r ∈ ws ∨ r = st) ∧ F__law_pick [.pt 0, .pt 1, .sh (.str st)] [.ol l, c] [] = some (.ok (.sh (.str r)) [.ol l', .sh (.lst (ws.map .str))] []) := by
  obtain ⟨t, l1, t0, t1, B1, e1⟩ := take_ok (n := 8) B (by omega) (by decide) (by decide)
  have he := nil_eq ok
  have hl : ws.length + 1 ≤ 1000000 := by omega
  have he0 : eqD (.lst []) (.lst []) = some true := by simpa using nil_eq (ws := []) (by simp)
  by_cases c : t = 0 ∨ ws = []
  · obtain ⟨k, l2, k0, k1, B2, e2⟩ := take_ok (n := ((ws.length : Int) + 1)) B1 (by omega) (by omega) (by omega)
    have hk : k < ((ws ++ [st]).length : Int) := by simp; omega
    obtain ⟨r, hr, ha⟩ := atI_strs k0 hk
    rw [List.map_append, List.map_cons, List.map_nil] at ha
    refine ⟨r, l2, B2, by simpa using hr, eq_of_wpF ?_⟩
    by_cases cn : t = 0
    · subst cn
      rcases hc with rfl | rfl <;> simp [F__law_pick, wpF_mk, m__law_pick, wpF_of e1, wpF_of e2, hl, ha, upds]
    · have : ws = [] := by rcases ‹t = 0 ∨ ws = []› with h | h; exact absurd h cn; exact h
      subst this
      simp at e2 ha
      rcases hc with rfl | rfl <;> simp [F__law_pick, wpF_mk, m__law_pick, wpF_of e1, wpF_of e2, hl, ha, upds, cn, he0]
  · have c1 : ¬ t = 0 := fun e => c (.inl e)
    have c2 : ¬ ws = [] := fun e => c (.inr e)
    have hp : 0 < ws.length := List.length_pos_iff.mpr c2
    obtain ⟨k, l2, k0, k1, B2, e2⟩ := take_ok (n := (ws.length : Int)) B1 (by omega) (by omega) (by omega)
    obtain ⟨r, hr, ha⟩ := atI_strs k0 k1
    refine ⟨r, l2, B2, .inl hr, eq_of_wpF ?_⟩
    rcases hc with rfl | rfl <;> simp [F__law_pick, wpF_mk, m__law_pick, wpF_of e1, wpF_of e2, hl, ha, c1, c2, he, upds]
theorem pick_s {N : Nat} {l : List D} {ws : List Str} {st : Str} (B : Bag N l) (hN : N + 10 < 2 ^ 60) (hw : ws.length < 1000) (ok : ∀ w ∈ ws, Tx1 w) : ∃ (r : Str) (l' : List D), Bag (N + 2) l' ∧ (r ∈ ws ∨ r = st) ∧ F__law_pick [.pt 0, .sh (.lst (ws.map .str)), .sh (.str st)] [.ol l] [] = some (.ok (.sh (.str r)) [.ol l'] []) := by
  obtain ⟨t, l1, t0, t1, B1, e1⟩ := take_ok (n := 8) B (by omega) (by decide) (by decide)
  have he := nil_eq ok
  have hl : ws.length + 1 ≤ 1000000 := by omega
  have he0 : eqD (.lst []) (.lst []) = some true := by simpa using nil_eq (ws := []) (by simp)
  by_cases c : t = 0 ∨ ws = []
  · obtain ⟨k, l2, k0, k1, B2, e2⟩ := take_ok (n := ((ws.length : Int) + 1)) B1 (by omega) (by omega) (by omega)
    have hk : k < ((ws ++ [st]).length : Int) := by simp; omega
    obtain ⟨r, hr, ha⟩ := atI_strs k0 hk
    rw [List.map_append, List.map_cons, List.map_nil] at ha
    refine ⟨r, l2, B2, by simpa using hr, eq_of_wpF ?_⟩
    by_cases cn : t = 0
    · subst cn
      simp [F__law_pick, wpF_mk, m__law_pick, wpF_of e1, wpF_of e2, hl, ha, upds]
    · have : ws = [] := by rcases ‹t = 0 ∨ ws = []› with h | h; exact absurd h cn; exact h
      subst this
      simp at e2 ha
      simp [F__law_pick, wpF_mk, m__law_pick, wpF_of e1, wpF_of e2, hl, ha, upds, cn, he0]
  · have c1 : ¬ t = 0 := fun e => c (.inl e)
    have c2 : ¬ ws = [] := fun e => c (.inr e)
    have hp : 0 < ws.length := List.length_pos_iff.mpr c2
    obtain ⟨k, l2, k0, k1, B2, e2⟩ := take_ok (n := (ws.length : Int)) B1 (by omega) (by omega) (by omega)
    obtain ⟨r, hr, ha⟩ := atI_strs k0 k1
    refine ⟨r, l2, B2, .inl hr, eq_of_wpF ?_⟩
    simp [F__law_pick, wpF_mk, m__law_pick, wpF_of e1, wpF_of e2, hl, ha, c1, c2, he, upds]
end My
namespace My
open PySem PySem.Spec PyProof.Rows L2 Vs
theorem rising_turn {N : Nat} {l : List D} {n j last : Int} {ks : List Int} {x6 : Option Vl} {J : List O} (B : Bag N l) (hN : N + 10 < 2 ^ 60) (h0 : 0 ≤ j) (h1 : j < n) (hl : 0 ≤ last) (h2 : last + (n - j) ≤ 30) (hks : ks.length ≤ 1000) (Q : Fl → S → Prop)
    (hQ : ∀ (l' : List D) (last' : Int) (x6 : Option Vl), Bag (N + 2) l' → last < last' → last' + (n - j - 1) ≤ 30 → Q .nx ⟨[some (.pt 0), some (.sh (.int n)), some (.sh (.int 30)), some (.sh (.int j)), some (.pt 1), some (.sh (.int last')), x6], .ol l' :: .ol ((ks ++ [last']).map .int) :: J, []⟩) :
    wp m__law_rising_b0 ⟨[some (.pt 0), some (.sh (.int n)), some (.sh (.int 30)), some (.sh (.int j)), some (.pt 1), some (.sh (.int last)), x6], .ol l :: .ol (ks.map .int) :: J, []⟩ Q noE := by
  obtain ⟨t, l1, t0, t1, B1, e1⟩ := take_ok (n := 2) B (by omega) (by decide) (by decide)
  have ht : t = 0 ∨ t = 1 := by omega
  have hw : 1 ≤ 30 - last - (n - j - 1) := by omega
  have hle : ks.length < 1000000 := by omega
  rcases ht with rfl | rfl
  · obtain ⟨k, l2, k0, k1, B2, e2⟩ := take_ok (n := 30 - last - (n - j - 1)) B1 (by omega) (by omega) (by omega)
    simp [m__law_rising_b0, wpF_of e1, wpF_of e2, hle]
    have := hQ l2 (last + 1 + k) (some (.sh (.int (30 - last - (n - j - 1))))) B2 (by omega) (by omega)
    simpa using this
  · have hm : ∃ m : Int, m = (if (3 : Int) < 30 - last - (n - j - 1) then 3 else 30 - last - (n - j - 1)) ∧ 1 ≤ m ∧ m ≤ 30 - last - (n - j - 1) := by
      refine ⟨_, rfl, ?_, ?_⟩ <;> split <;> omega
    obtain ⟨m, em, m1, m2⟩ := hm
    obtain ⟨k, l2, k0, k1, B2, e2⟩ := take_ok (n := m) B1 (by omega) (by omega) (by omega)
    simp [m__law_rising_b0, wpF_of e1, ← em, wpF_of e2, hle]
    have := hQ l2 (last + 1 + k) (some (.sh (.int (30 - last - (n - j - 1))))) B2 (by omega) (by omega)
    simpa using this
/-- marks that rise: n of them -/
theorem rising_ok {N : Nat} {l : List D} {n : Int} (B : Bag N l) (hN : N + 1000 < 2 ^ 60) (h0 : 0 ≤ n) (h1 : n ≤ 30) : ∃ (ks : List Int) (l' : List D), Bag (N + 100) l' ∧ (ks.length : Int) = n ∧
    F__law_rising [.pt 0, .sh (.int n), .sh (.int 30)] [.ol l] [] = some (.ok (.ol (ks.map .int)) [.ol l'] []) := by
  suffices h : wpF F__law_rising [.pt 0, .sh (.int n), .sh (.int 30)] [.ol l] [] (fun o c t => ∃ (ks : List Int) (l' : List D), Bag (N + 100) l' ∧ (ks.length : Int) = n ∧ o = .ol (ks.map .int) ∧ c = [.ol l'] ∧ t = []) (fun _ _ _ => False) by
    obtain ⟨o, c, t, e, ks, l', q1, q2, rfl, rfl, rfl⟩ := ex_of_wpF h
    exact ⟨ks, l', q1, q2, e⟩
  obtain ⟨P, hP⟩ : ∃ P : O → List O → List O → Prop, ∀ o c t, P o c t ↔ ∃ (ks : List Int) (l' : List D), Bag (N + 100) l' ∧ (ks.length : Int) = n ∧ o = .ol (ks.map .int) ∧ c = [.ol l'] ∧ t = [] := ⟨_, fun _ _ _ => Iff.rfl⟩
  refine wpF_mono (Q := P) ?_ (fun o c t => (hP o c t).mp) fun _ _ _ z => z
  obtain ⟨I, hI⟩ : ∃ I : List D → S → Prop, ∀ r s, I r s ↔ ∃ (k : Nat) (l : List D) (ks : List Int) (last : Int) (x3 x6 : Option Vl), (k : Int) ≤ n ∧ r = rgL k (n - k).toNat ∧ Bag (N + 2 * k) l ∧ ks.length = k ∧ 0 ≤ last ∧ last + (n - k) ≤ 30 ∧ s = ⟨[some (.pt 0), some (.sh (.int n)), some (.sh (.int 30)), x3, some (.pt 1), some (.sh (.int last)), x6], [.ol l, .ol (ks.map .int)], []⟩ := ⟨_, fun _ _ => Iff.rfl⟩
  have hsm : small62 n = true := small_of0 (by omega) (by omega)
  simp [F__law_rising, wpF_mk, m__law_rising, m__law_rising_l0, hsm]
  refine wp_loop I ?_ ?_ _ _ ((hI _ _).mpr ⟨0, l, [], 0, none, none, by omega, by simp, B, rfl, by omega, by omega, rfl⟩)
  · intro d r s h
    obtain ⟨k, l, ks, last, x3, x6, hk, hr, B, ha, q1, q2, rfl⟩ := (hI _ _).mp h
    have hlt : (k : Int) < n := by
      by_cases c : (k : Int) < n
      · exact c
      · have : (n - k).toNat = 0 := by omega
        rw [this, rgL_zero] at hr; cases hr
    have hs : (n - k).toNat = (n - (k + 1 : Nat)).toNat + 1 := by omega
    rw [hs, rgL_succ] at hr
    obtain ⟨rfl, rfl⟩ := List.cons.inj hr
    simp
    refine rising_turn (J := []) B (by omega) (by omega) hlt q1 q2 (by omega) _ fun l' last' x6 B' g1 g2 => ?_
    simp
    exact (hI _ _).mpr ⟨k + 1, l', ks ++ [last'], last', some (.sh (.int k)), x6, by omega, by simp, B'.mono (by omega), by simp [ha], by omega, by omega, by simp⟩
  · intro s h
    obtain ⟨k, l, ks, last, x3, x6, hk, hr, B, ha, q1, q2, rfl⟩ := (hI _ _).mp h
    have hlt : (k : Int) = n := by
      by_cases c : (k : Int) < n
      · have hs : (n - k).toNat = (n - (k + 1 : Nat)).toNat + 1 := by omega
        rw [hs, rgL_succ] at hr; cases hr
      · omega
    simp
    exact (hP _ _ _).mpr ⟨ks, l, B.mono (by omega), by omega, rfl, rfl, rfl⟩
theorem erase_map {α β : Type} (f : α → β) : ∀ (xs : List α) (k : Nat), (xs.map f).eraseIdx k = (xs.eraseIdx k).map f
  | [], k => by simp
  | x :: xs, 0 => by simp
  | x :: xs, k + 1 => by simp [erase_map f xs k]
theorem pop_few {ws : List Str} {k : Int} (k0 : 0 ≤ k) (k1 : k < ws.length) (hw : ws.length < 1000) : ∃ (w : Str) (ws' : List Str), w ∈ ws ∧ (∀ x ∈ ws', x ∈ ws) ∧ ws'.length + 1 = ws.length ∧ fPopAt (ws.map D.str) [.int k] = some (ws'.map D.str, .str w) := by
  have hk : k.toNat < ws.length := by omega
  refine ⟨ws[k.toNat], ws.eraseIdx k.toNat, List.getElem_mem hk, fun x hx => List.mem_of_mem_eraseIdx hx, by rw [List.length_eraseIdx]; simp [hk]; omega, ?_⟩
  rw [fPopAt_ok (d := .str ws[k.toNat]) k0 (by omega) (by simp [List.getElem?_eq_getElem hk]), erase_map]
theorem eight_ok : ∀ w ∈ (["a", "b", "c", "id", "sum", "who", "note", "longname"] : List Str), Tx1 w := by
  show ∀ w ∈ (["a", "b", "c", "id", "sum", "who", "note", "longname"] : List Str), PyData.strOk w = true ∧ w.length ≤ 100
  decide +kernel
theorem unlike_ok {N : Nat} {l : List D} {n : Int} (B : Bag N l) (hN : N + 1000 < 2 ^ 60) (h0 : 0 ≤ n) (h1 : n ≤ 7) : ∃ (ws : List Str) (l' : List D), Bag (N + 200) l' ∧ (ws.length : Int) = n ∧ (∀ w ∈ ws, Tx1 w) ∧
    F__law_unlike [.pt 0, .sh (.int n)] [.ol l] [] = some (.ok (.ol (ws.map .str)) [.ol l'] []) := by
  suffices h : wpF F__law_unlike [.pt 0, .sh (.int n)] [.ol l] [] (fun o c t => ∃ (ws : List Str) (l' : List D), Bag (N + 200) l' ∧ (ws.length : Int) = n ∧ (∀ w ∈ ws, Tx1 w) ∧ o = .ol (ws.map .str) ∧ c = [.ol l'] ∧ t = []) (fun _ _ _ => False) by
    obtain ⟨o, c, t, e, ks, l', q1, q2, q3, rfl, rfl, rfl⟩ := ex_of_wpF h
    exact ⟨ks, l', q1, q2, q3, e⟩
  obtain ⟨P, hP⟩ : ∃ P : O → List O → List O → Prop, ∀ o c t, P o c t ↔ ∃ (ws : List Str) (l' : List D), Bag (N + 200) l' ∧ (ws.length : Int) = n ∧ (∀ w ∈ ws, Tx1 w) ∧ o = .ol (ws.map .str) ∧ c = [.ol l'] ∧ t = [] := ⟨_, fun _ _ _ => Iff.rfl⟩
  refine wpF_mono (Q := P) ?_ (fun o c t => (hP o c t).mp) fun _ _ _ z => z
  obtain ⟨t, l1, t0, t1, B1, e1⟩ := take_ok (n := 3) B (by omega) (by decide) (by decide)
  have hsm : small62 n = true := small_of0 (by omega) (by omega)
  by_cases ht : t = 0
  · subst ht
    obtain ⟨ws, l2, a1, a2, a3, B2, e2⟩ := names_ok (n := n.toNat) (taken := []) B1 (by omega) (by simp; omega)
    have en : ((n.toNat : Nat) : Int) = n := by omega
    rw [en] at e2
    simp at e2
    simp [F__law_unlike, wpF_mk, m__law_unlike, wpF_of e1, wpF_of e2]
    exact (hP _ _ _).mpr ⟨ws, l2, B2.mono (by omega), by omega, fun w hw => ⟨word_ok (a2 w hw).1, Nat.le_trans (a2 w hw).1.2.2 (by decide)⟩, rfl, rfl, rfl⟩
  · simp [F__law_unlike, wpF_mk, m__law_unlike, wpF_of e1, ht]
    unfold m__law_unlike_c0
    obtain ⟨I, hI⟩ : ∃ I : S → List D → List D → List O → List O → Prop, ∀ s acc r ce tb, I s acc r ce tb ↔ ∃ (ws us : List Str) (l : List D), acc = ws.map .str ∧ (acc.length : Int) + r.length = n ∧ us.length + ws.length = 8 ∧ (∀ w ∈ us, Tx1 w) ∧ (∀ w ∈ ws, Tx1 w) ∧ Bag (N + 1 + ws.length) l ∧ ce = [.ol l, .ol (us.map .str)] ∧ tb = [] ∧ s.sl = [some (.pt 0), some (.sh (.int n)), some (.pt 1), none] := ⟨_, fun _ _ _ _ _ => Iff.rfl⟩
    refine wp_comp_inv I ?_
    simp [hsm, rgL_length]
    refine ⟨by omega, (hI _ _ _ _ _).mpr ⟨[], ["a", "b", "c", "id", "sum", "who", "note", "longname"], l1, rfl, by simp [rgL_length]; omega, rfl, eight_ok, by simp, B1, rfl, rfl, rfl⟩, ?_, ?_⟩
    · intro acc ce tb h
      obtain ⟨ws, us, l, rfl, q1, q2, q3, q4, B, rfl, rfl, q5⟩ := (hI _ _ _ _ _).mp h
      simp at q1
      exact (hP _ _ _).mpr ⟨ws, l, B.mono (by omega), q1, q4, rfl, rfl, rfl⟩
    · intro acc d r ce tb h
      obtain ⟨ws, us, l, rfl, q1, q2, q3, q4, B, rfl, rfl, q5⟩ := (hI _ _ _ _ _).mp h
      simp at q1
      obtain ⟨k, l', k0, k1, B', e'⟩ := take_ok (n := (us.length : Int)) B (by omega) (by omega) (by omega)
      obtain ⟨w, us', g1, g2, g3, hp⟩ := pop_few k0 k1 (by omega)
      simp [wpF_of e', hp]
      exact (hI _ _ _ _ _).mpr ⟨ws ++ [w], us', l', by simp, by simp; omega, by simp; omega, fun x hx => q3 x (g2 x hx), fun x hx => by
        rcases List.mem_append.mp hx with hx | hx
        · exact q4 x hx
        · rw [List.mem_singleton.mp hx]; exact q3 w g1, B'.mono (by simp; omega), rfl, rfl, rfl⟩
end My
namespace My
open PySem PySem.Spec PyProof.Rows L2 Vs
def CellW (ws : List Str) (c : O) : Prop := c = .ol (ws.map .str) ∨ c = .sh (.lst (ws.map .str))
theorem atI_mem {ds : List D} {k : Int} (h0 : 0 ≤ k) (h1 : k < ds.length) : ∃ d, d ∈ ds ∧ L2.atI ds k = some d := by
  have e : k = ((k.toNat : Nat) : Int) := by omega
  have hl : k.toNat < ds.length := by omega
  refine ⟨ds[k.toNat], List.getElem_mem hl, ?_⟩
  have : L2.atI ds ((k.toNat : Nat) : Int) = some ds[k.toNat] := by
    rw [atI_nat']; simp [List.getElem?_eq_getElem hl]
  rw [← e] at this; exact this
theorem menu_ok : Tx1 "menu" ∧ Tx1 "form" ∧ Tx1 "back" ∧ Tx1 "in" ∧ Tx1 "out" ∧ Tx1 "whole" ∧ Tx1 "truth" ∧ Tx1 "text" ∧ Tx1 "choice" ∧ Tx1 "record" ∧ Tx1 "list" ∧ Tx1 "must" ∧ Tx1 "may" := by
  unfold Tx1; decide +kernel
theorem good_two {a b : Str} (h : Tx1 a) (g : Tx1 b) : good 1 (.tup [.str a, .str b]) := good_tup (n := 0) fun d hd => by
  simp at hd; rcases hd with rfl | rfl
  · exact good_str h.1
  · exact good_str g.1
theorem good_lk {d : D} (h : good 1 d) : good 2 (.tup [.str "list", d]) := good_tup (n := 1) fun e hd => by
  simp at hd; rcases hd with rfl | rfl
  · exact good_str (menu_ok.2.2.2.2.2.2.2.2.2.2.1).1
  · exact h
theorem good_three {d : D} {k : Int} (h : good 1 d) (h0 : 0 ≤ k) (h1 : k < 3) : ∃ e, good 2 e ∧ L2.atI [d, d, .tup [.str "list", d]] k = some e := by
  obtain ⟨e, he, ha⟩ := atI_mem (ds := [d, d, .tup [.str "list", d]]) h0 (by simpa using h1)
  refine ⟨e, ?_, ha⟩
  simp at he
  rcases he with rfl | rfl
  · exact h.mono (by decide)
  · exact good_lk h
theorem in56 : fIn (.int 0) (.tup [.int 5, .int 6]) = some (.sh (.bl false)) ∧ fIn (.int 1) (.tup [.int 5, .int 6]) = some (.sh (.bl false)) ∧ fIn (.int 2) (.tup [.int 5, .int 6]) = some (.sh (.bl false)) ∧ fIn (.int 3) (.tup [.int 5, .int 6]) = some (.sh (.bl false)) ∧ fIn (.int 4) (.tup [.int 5, .int 6]) = some (.sh (.bl false)) ∧
    fIn (.int 5) (.tup [.int 5, .int 6]) = some (.sh (.bl true)) ∧ fIn (.int 6) (.tup [.int 5, .int 6]) = some (.sh (.bl true)) ∧ fIn (.int 7) (.tup [.int 5, .int 6]) = some (.sh (.bl false)) ∧ fIn (.int 8) (.tup [.int 5, .int 6]) = some (.sh (.bl false)) := ⟨rfl, rfl, rfl, rfl, rfl, rfl, rfl, rfl, rfl⟩
theorem in78 : fIn (.int 0) (.tup [.int 7, .int 8]) = some (.sh (.bl false)) ∧ fIn (.int 1) (.tup [.int 7, .int 8]) = some (.sh (.bl false)) ∧ fIn (.int 2) (.tup [.int 7, .int 8]) = some (.sh (.bl false)) ∧ fIn (.int 3) (.tup [.int 7, .int 8]) = some (.sh (.bl false)) ∧ fIn (.int 4) (.tup [.int 7, .int 8]) = some (.sh (.bl false)) ∧
    fIn (.int 5) (.tup [.int 7, .int 8]) = some (.sh (.bl false)) ∧ fIn (.int 6) (.tup [.int 7, .int 8]) = some (.sh (.bl false)) ∧ fIn (.int 7) (.tup [.int 7, .int 8]) = some (.sh (.bl true)) ∧ fIn (.int 8) (.tup [.int 7, .int 8]) = some (.sh (.bl true)) := ⟨rfl, rfl, rfl, rfl, rfl, rfl, rfl, rfl, rfl⟩
theorem kind_ok {N : Nat} {l : List D} {ms fs : List Str} {c1 : O} (B : Bag N l) (hN : N + 100 < 2 ^ 60) (hm : ms.length < 1000) (hf : fs.length < 1000) (om : ∀ w ∈ ms, Tx1 w) (of : ∀ w ∈ fs, Tx1 w) (h1 : CellW ms c1) :
    ∃ (kd : D) (l' : List D) (c1' : O), good 2 kd ∧ Bag (N + 10) l' ∧ CellW ms c1' ∧ F__law_kind_drawn [.pt 0, .pt 1, .sh (.lst (fs.map .str))] [.ol l, c1] [] = some (.ok (.sh kd) [.ol l', c1'] []) := by
  obtain ⟨t, l1, t0, t1, B1, e1⟩ := take_ok (n := 9) B (by omega) (by decide) (by decide)
  have ht : t = 0 ∨ t = 1 ∨ t = 2 ∨ t = 3 ∨ t = 4 ∨ t = 5 ∨ t = 6 ∨ t = 7 ∨ t = 8 := by omega
  have M := menu_ok
  have plain : ∀ x : Str, Tx1 x → ∀ (t' : Int), F__law_take [.pt 0, .sh (.int 9)] [.ol l] [] = some (.ok (.sh (.int t')) [.ol l1] []) → (t' = 0 ∧ x = "whole" ∨ t' = 1 ∧ x = "truth" ∨ t' = 2 ∧ x = "text" ∨ t' = 3 ∧ x = "text" ∨ t' = 4 ∧ x = "whole") →
      ∃ (kd : D) (l' : List D) (c1' : O), good 2 kd ∧ Bag (N + 10) l' ∧ CellW ms c1' ∧ F__law_kind_drawn [.pt 0, .pt 1, .sh (.lst (fs.map .str))] [.ol l, c1] [] = some (.ok (.sh kd) [.ol l', c1'] []) := by
    intro x hx t' e1 ht
    obtain ⟨k, l2, k0, k1, B2, e2⟩ := take_ok (n := 3) B1 (by omega) (by decide) (by decide)
    obtain ⟨kd, g, ha⟩ := good_three (d := .str x) (good_str hx.1) k0 k1
    refine ⟨kd, l2, c1, g, B2.mono (by omega), h1, eq_of_wpF ?_⟩
    rcases ht with ⟨rfl, rfl⟩ | ⟨rfl, rfl⟩ | ⟨rfl, rfl⟩ | ⟨rfl, rfl⟩ | ⟨rfl, rfl⟩ <;> simp [F__law_kind_drawn, wpF_mk, m__law_kind_drawn, wpF_of e1, wpF_of e2, ha, upds, in56, in78]
  rcases ht with rfl | rfl | rfl | rfl | rfl | rfl | rfl | rfl | rfl
  · exact plain "whole" M.2.2.2.2.2.1 _ e1 (by simp)
  · exact plain "truth" M.2.2.2.2.2.2.1 _ e1 (by simp)
  · exact plain "text" M.2.2.2.2.2.2.2.1 _ e1 (by simp)
  · exact plain "text" M.2.2.2.2.2.2.2.1 _ e1 (by simp)
  · exact plain "whole" M.2.2.2.2.2.1 _ e1 (by simp)
  all_goals first
    | (obtain ⟨r, l2, B2, hr, e2⟩ := pick_p (st := "menu") B1 (by omega) hm om h1
       have hr : Tx1 r := by rcases hr with h | rfl; exact om r h; exact M.1
       obtain ⟨k, l3, k0, k1, B3, e3⟩ := take_ok (n := 3) B2 (by omega) (by decide) (by decide)
       obtain ⟨kd, g, ha⟩ := good_three (d := .tup [.str "choice", .str r]) (good_two M.2.2.2.2.2.2.2.2.1 hr) k0 k1
       refine ⟨kd, l3, _, g, B3.mono (by omega), .inr rfl, eq_of_wpF ?_⟩
       simp [F__law_kind_drawn, wpF_mk, m__law_kind_drawn, wpF_of e1, wpF_of e2, wpF_of e3, ha, upds, in56, in78]; done)
    | (obtain ⟨r, l2, B2, hr, e2⟩ := pick_s (st := "form") B1 (by omega) hf of
       have hr : Tx1 r := by rcases hr with h | rfl; exact of r h; exact M.2.1
       obtain ⟨k, l3, k0, k1, B3, e3⟩ := take_ok (n := 3) B2 (by omega) (by decide) (by decide)
       obtain ⟨kd, g, ha⟩ := good_three (d := .tup [.str "record", .str r]) (good_two M.2.2.2.2.2.2.2.2.2.1 hr) k0 k1
       refine ⟨kd, l3, c1, g, B3.mono (by omega), h1, eq_of_wpF ?_⟩
       simp [F__law_kind_drawn, wpF_mk, m__law_kind_drawn, wpF_of e1, wpF_of e2, wpF_of e3, ha, upds, in56, in78])
end My
namespace My
open PySem PySem.Spec PyProof.Rows L2 Vs
/-- a row that begins with a mark and a word -/
def FRow (d : D) : Prop := ∃ (k : Int) (w : Str) (rest : List D), d = .tup (.int k :: .str w :: rest) ∧ Tx1 w ∧ good 3 d
theorem zip_mem {ks : List Int} {ws : List Str} {d : D} (h : d ∈ zipD (ks.map .int) (ws.map .str)) : ∃ (k : Int) (w : Str), d = .tup [.int k, .str w] ∧ w ∈ ws := by
  unfold zipD at h
  obtain ⟨p, hp, rfl⟩ := List.mem_map.mp h
  obtain ⟨a, b⟩ := p
  have h1 := List.of_mem_zip hp
  obtain ⟨k, _, rfl⟩ := List.mem_map.mp h1.1
  obtain ⟨w, hw, rfl⟩ := List.mem_map.mp h1.2
  exact ⟨k, w, rfl, hw⟩
theorem zip_len {ks ws : List D} : (zipD ks ws).length ≤ ks.length := by unfold zipD; simp; omega
theorem form_ok {N : Nat} {l : List D} {ms fs : List Str} {c1 : O} (B : Bag N l) (hN : N + 2000 < 2 ^ 60) (hm : ms.length < 1000) (hf : fs.length < 1000) (om : ∀ w ∈ ms, Tx1 w) (of : ∀ w ∈ fs, Tx1 w) (h1 : CellW ms c1) :
    ∃ (rows : List D) (l' : List D) (c1' : O), rows.length ≤ 6 ∧ (∀ d ∈ rows, FRow d) ∧ Bag (N + 500) l' ∧ CellW ms c1' ∧ F__law_form_drawn [.pt 0, .pt 1, .sh (.lst (fs.map .str))] [.ol l, c1] [] = some (.ok (.sh (.tup rows)) [.ol l', c1'] []) := by
  suffices h : wpF F__law_form_drawn [.pt 0, .pt 1, .sh (.lst (fs.map .str))] [.ol l, c1] [] (fun o c t => ∃ (rows : List D) (l' : List D) (c1' : O), rows.length ≤ 6 ∧ (∀ d ∈ rows, FRow d) ∧ Bag (N + 500) l' ∧ CellW ms c1' ∧ o = .sh (.tup rows) ∧ c = [.ol l', c1'] ∧ t = []) (fun _ _ _ => False) by
    obtain ⟨o, c, t, e, rows, l', c1', q1, q2, q3, q4, rfl, rfl, rfl⟩ := ex_of_wpF h
    exact ⟨rows, l', c1', q1, q2, q3, q4, e⟩
  obtain ⟨P, hP⟩ : ∃ P : O → List O → List O → Prop, ∀ o c t, P o c t ↔ ∃ (rows : List D) (l' : List D) (c1' : O), rows.length ≤ 6 ∧ (∀ d ∈ rows, FRow d) ∧ Bag (N + 500) l' ∧ CellW ms c1' ∧ o = .sh (.tup rows) ∧ c = [.ol l', c1'] ∧ t = [] := ⟨_, fun _ _ _ => Iff.rfl⟩
  refine wpF_mono (Q := P) ?_ (fun o c t => (hP o c t).mp) fun _ _ _ z => z
  obtain ⟨n, l1, t0, t1, B1, e1⟩ := take_ok (n := 6) B (by omega) (by decide) (by decide)
  obtain ⟨ks, l2, B2, hks, e2⟩ := rising_ok B1 (by omega) t0 (by omega)
  obtain ⟨ws, l3, B3, hws, ow, e3⟩ := unlike_ok B2 (by omega) t0 (by omega)
  obtain ⟨I, hI⟩ : ∃ I : List D → S → Prop, ∀ r s, I r s ↔ ∃ (l : List D) (rows : List D) (c1 : O) (x6 x7 : Option Vl), (∀ d ∈ r, ∃ (k : Int) (w : Str), d = .tup [.int k, .str w] ∧ Tx1 w) ∧ rows.length + r.length ≤ 6 ∧ (∀ d ∈ rows, FRow d) ∧ Bag (N + 310 + 20 * rows.length) l ∧ CellW ms c1 ∧ s = ⟨[some (.pt 0), some (.pt 1), some (.sh (.lst (fs.map .str))), some (.sh (.int n)), some (.sh (.lst (ks.map .int))), some (.pt 2), x6, x7], [.ol l, c1, .ol rows], []⟩ := ⟨_, fun _ _ => Iff.rfl⟩
  simp [F__law_form_drawn, wpF_mk, m__law_form_drawn, m__law_form_drawn_l0, wpF_of e1, wpF_of e2, wpF_of e3, upds]
  refine wp_loop I ?_ ?_ _ _ ((hI _ _).mpr ⟨l3, [], c1, none, none, fun d hd => ?_, ?_, by simp, B3.mono (by simp), h1, rfl⟩)
  · intro d r s h
    obtain ⟨l, rows, c1, x6, x7, hd, hlen, hr, B, h1, rfl⟩ := (hI _ _).mp h
    obtain ⟨k, w, rfl, hw⟩ := hd d List.mem_cons_self
    simp at hlen
    obtain ⟨kd, l4, c1', g, B4, h1', e4⟩ := kind_ok B (by omega) hm hf om of h1
    obtain ⟨t, l5, t0, t1, B5, e5⟩ := take_ok (n := 2) B4 (by omega) (by decide) (by decide)
    have hle : rows.length < 1000000 := by omega
    have key : ∀ x : Str, Tx1 x → FRow (.tup [.int k, .str w, kd, .str x]) := fun x hx => ⟨k, w, _, rfl, hw, good_tup (n := 2) fun d hd => by
      simp at hd; rcases hd with rfl | rfl | rfl | rfl
      · exact good_int _
      · exact good_str hw.1
      · exact g
      · exact good_str hx.1⟩
    have ht : t = 0 ∨ t = 1 := by omega
    rcases ht with rfl | rfl
    · simp [m__law_form_drawn_b0, wpF_of e4, wpF_of e5, hle, upds]
      exact (hI _ _).mpr ⟨l5, rows ++ [.tup [.int k, .str w, kd, .str "must"]], c1', _, _, fun d h => hd d (List.mem_cons_of_mem _ h), by simp; omega, fun d h => by
        rcases List.mem_append.mp h with h | h
        · exact hr d h
        · rw [List.mem_singleton.mp h]; exact key _ menu_ok.2.2.2.2.2.2.2.2.2.2.2.1, B5.mono (by simp; omega), h1', rfl⟩
    · simp [m__law_form_drawn_b0, wpF_of e4, wpF_of e5, hle, upds]
      exact (hI _ _).mpr ⟨l5, rows ++ [.tup [.int k, .str w, kd, .str "may"]], c1', _, _, fun d h => hd d (List.mem_cons_of_mem _ h), by simp; omega, fun d h => by
        rcases List.mem_append.mp h with h | h
        · exact hr d h
        · rw [List.mem_singleton.mp h]; exact key _ menu_ok.2.2.2.2.2.2.2.2.2.2.2.2, B5.mono (by simp; omega), h1', rfl⟩
  · intro s h
    obtain ⟨l, rows, c1, x6, x7, hd, hlen, hr, B, h1, rfl⟩ := (hI _ _).mp h
    have hle : rows.length ≤ 1000000 := by simp at hlen; omega
    simp [hle]
    exact (hP _ _ _).mpr ⟨rows, l, c1, by simpa using hlen, hr, B.mono (by simp at hlen; omega), h1, rfl, rfl, rfl⟩
  · obtain ⟨k, w, rfl, hw⟩ := zip_mem hd
    exact ⟨k, w, rfl, ow w hw⟩
  · have := zip_len (ks := ks.map D.int) (ws := ws.map D.str)
    simp at this ⊢; omega
end My
namespace My
open PySem PySem.Spec PyProof.Rows L2 Vs
theorem good_texts {ws : List Str} (h : ∀ w ∈ ws, Tx1 w) : good 1 (.tup (ws.map .str)) := good_tup (n := 0) (good_strs h)
theorem deed_words : Tx1 "take" ∧ Tx1 "add" ∧ Tx1 "tell" ∧ Tx1 "copy" ∧ Tx1 "ask" ∧ Tx1 "get" ∧ Tx1 "bank" ∧ Tx1 "shop" ∧ Tx1 "till" ∧ Tx1 "pay" ∧ Tx1 "see" ∧ Tx1 "a" ∧ Tx1 "b" := by
  unfold Tx1; decide +kernel
theorem word_tx {w : Str} (h : Word w) : Tx1 w := ⟨word_ok h, Nat.le_trans h.2.2 (by decide)⟩
theorem deed_ok {N : Nat} {l : List D} {own : Str} {ins outs : List Str} (B : Bag N l) (hN : N + 100 < 2 ^ 60) (ho : Tx1 own) (hi : ins.length < 1000) (hu : outs.length < 1000) (oi : ∀ w ∈ ins, Tx1 w) (ou : ∀ w ∈ outs, Tx1 w) :
    ∃ (d : D) (l' : List D), good 1 d ∧ Bag (N + 20) l' ∧ F__law_deed_drawn [.pt 0, .sh (.str own), .sh (.lst (ins.map .str)), .sh (.lst (outs.map .str))] [.ol l] [] = some (.ok (.sh d) [.ol l'] []) := by
  obtain ⟨t, l1, t0, t1, B1, e1⟩ := take_ok (n := 8) B (by omega) (by decide) (by decide)
  have ht : t = 0 ∨ t = 1 ∨ t = 2 ∨ t = 3 ∨ t = 4 ∨ t = 5 ∨ t = 6 ∨ t = 7 := by omega
  have M := menu_ok
  have W := deed_words
  have hin : ∀ {r : Str}, r ∈ ins ∨ r = "in" → Tx1 r := fun h => by rcases h with h | rfl; exact oi _ h; exact M.2.2.2.1
  have hino : ∀ {r : Str}, r ∈ outs ∨ r = "in" → Tx1 r := fun h => by rcases h with h | rfl; exact ou _ h; exact M.2.2.2.1
  have hout : ∀ {r : Str}, r ∈ outs ∨ r = "out" → Tx1 r := fun h => by rcases h with h | rfl; exact ou _ h; exact M.2.2.2.2.1
  rcases ht with rfl | rfl | rfl | rfl | rfl | rfl | rfl | rfl
  · obtain ⟨a, l2, B2, ha, e2⟩ := pick_s (st := "in") B1 (by omega) hi oi
    obtain ⟨b, l3, B3, hb, e3⟩ := pick_s (st := "in") B2 (by omega) hi oi
    obtain ⟨c, l4, C, B4, e4⟩ := name_ok B3 (by omega)
    refine ⟨.tup ((["take", a, b, c] : List Str).map .str), l4, good_texts ?_, B4.mono (by omega), eq_of_wpF ?_⟩
    · intro w hw; simp at hw; rcases hw with rfl | rfl | rfl | rfl
      all_goals first | exact W.1 | exact hin ha | exact hin hb | exact word_tx C
    · simp [F__law_deed_drawn, wpF_mk, m__law_deed_drawn, wpF_of e1, wpF_of e2, wpF_of e3, wpF_of e4, upds]
  · obtain ⟨a, l2, B2, ha, e2⟩ := pick_s (st := "in") B1 (by omega) hi oi
    obtain ⟨b, l3, B3, hb, e3⟩ := pick_s (st := "in") B2 (by omega) hi oi
    refine ⟨.tup ((["add", a, b] : List Str).map .str), l3, good_texts ?_, B3.mono (by omega), eq_of_wpF ?_⟩
    · intro w hw; simp at hw; rcases hw with rfl | rfl | rfl
      all_goals first | exact W.2.1 | exact hin ha | exact hin hb
    · simp [F__law_deed_drawn, wpF_mk, m__law_deed_drawn, wpF_of e1, wpF_of e2, wpF_of e3, upds]
  · obtain ⟨a, l2, B2, ha, e2⟩ := pick_s (st := "out") B1 (by omega) hu ou
    obtain ⟨b, l3, B3, hb, e3⟩ := pick_s (st := "in") B2 (by omega) hi oi
    refine ⟨.tup ((["tell", a, b] : List Str).map .str), l3, good_texts ?_, B3.mono (by omega), eq_of_wpF ?_⟩
    · intro w hw; simp at hw; rcases hw with rfl | rfl | rfl
      all_goals first | exact W.2.2.1 | exact hout ha | exact hin hb
    · simp [F__law_deed_drawn, wpF_mk, m__law_deed_drawn, wpF_of e1, wpF_of e2, wpF_of e3, upds]
  · obtain ⟨a, l2, B2, ha, e2⟩ := pick_s (st := "out") B1 (by omega) hu ou
    obtain ⟨b, l3, B3, hb, e3⟩ := pick_s (st := "in") B2 (by omega) hi oi
    refine ⟨.tup ((["copy", a, b] : List Str).map .str), l3, good_texts ?_, B3.mono (by omega), eq_of_wpF ?_⟩
    · intro w hw; simp at hw; rcases hw with rfl | rfl | rfl
      all_goals first | exact W.2.2.2.1 | exact hout ha | exact hin hb
    · simp [F__law_deed_drawn, wpF_mk, m__law_deed_drawn, wpF_of e1, wpF_of e2, wpF_of e3, upds]
  · obtain ⟨i, l2, i0, i1, B2, e2⟩ := take_ok (n := 4) B1 (by omega) (by decide) (by decide)
    obtain ⟨j, l3, j0, j1, B3, e3⟩ := take_ok (n := 3) B2 (by omega) (by decide) (by decide)
    obtain ⟨a, ha, ea⟩ := atI_strs (ws := ["bank", "shop", "till", own]) i0 (by simpa using i1)
    obtain ⟨b, hb, eb⟩ := atI_strs (ws := ["pay", "see", "a"]) j0 (by simpa using j1)
    have ta : Tx1 a := by
      simp at ha; rcases ha with rfl | rfl | rfl | rfl
      all_goals first | exact W.2.2.2.2.2.2.1 | exact W.2.2.2.2.2.2.2.1 | exact W.2.2.2.2.2.2.2.2.1 | exact ho
    have tb : Tx1 b := by
      simp at hb; rcases hb with rfl | rfl | rfl
      all_goals first | exact W.2.2.2.2.2.2.2.2.2.1 | exact W.2.2.2.2.2.2.2.2.2.2.1 | exact W.2.2.2.2.2.2.2.2.2.2.2.1
    simp only [List.map_cons, List.map_nil] at ea eb
    refine ⟨.tup ((["ask", a, b] : List Str).map .str), l3, good_texts ?_, B3.mono (by omega), eq_of_wpF ?_⟩
    · intro w hw; simp at hw; rcases hw with rfl | rfl | rfl
      all_goals first | exact W.2.2.2.2.1 | exact ta | exact tb
    · simp [F__law_deed_drawn, wpF_mk, m__law_deed_drawn, wpF_of e1, wpF_of e2, wpF_of e3, ea, eb, upds]
  · obtain ⟨a, l2, B2, ha, e2⟩ := pick_s (st := "out") B1 (by omega) hu ou
    obtain ⟨b, l3, B3, hb, e3⟩ := pick_s (st := "in") B2 (by omega) hu ou
    refine ⟨.tup ((["get", a, b] : List Str).map .str), l3, good_texts ?_, B3.mono (by omega), eq_of_wpF ?_⟩
    · intro w hw; simp at hw; rcases hw with rfl | rfl | rfl
      all_goals first | exact W.2.2.2.2.2.1 | exact hout ha | exact hino hb
    · simp [F__law_deed_drawn, wpF_mk, m__law_deed_drawn, wpF_of e1, wpF_of e2, wpF_of e3, upds]
  · obtain ⟨a, l2, B2, ha, e2⟩ := pick_s (st := "out") B1 (by omega) hu ou
    obtain ⟨b, l3, B3, hb, e3⟩ := pick_s (st := "in") B2 (by omega) hi oi
    refine ⟨.tup ((["tell", a, b] : List Str).map .str), l3, good_texts ?_, B3.mono (by omega), eq_of_wpF ?_⟩
    · intro w hw; simp at hw; rcases hw with rfl | rfl | rfl
      all_goals first | exact W.2.2.1 | exact hout ha | exact hin hb
    · simp [F__law_deed_drawn, wpF_mk, m__law_deed_drawn, wpF_of e1, wpF_of e2, wpF_of e3, upds]
  · obtain ⟨a, l2, B2, ha, e2⟩ := pick_s (st := "out") B1 (by omega) hu ou
    obtain ⟨b, l3, B3, hb, e3⟩ := pick_s (st := "in") B2 (by omega) hi oi
    refine ⟨.tup ((["copy", a, b] : List Str).map .str), l3, good_texts ?_, B3.mono (by omega), eq_of_wpF ?_⟩
    · intro w hw; simp at hw; rcases hw with rfl | rfl | rfl
      all_goals first | exact W.2.2.2.1 | exact hout ha | exact hin hb
    · simp [F__law_deed_drawn, wpF_mk, m__law_deed_drawn, wpF_of e1, wpF_of e2, wpF_of e3, upds]
end My
namespace My
open PySem PySem.Spec PyProof.Rows L2 Vs
/-- a record: its name and its rows -/
def RRow (d : D) : Prop := ∃ (w : Str) (rows : List D), d = .tup [.str w, .tup rows] ∧ Tx1 w ∧ (∀ r ∈ rows, FRow r) ∧ rows.length ≤ 6
def ARow (d : D) : Prop := ∃ (k : Int) (w a b : Str) (deeds : List D), d = .tup [.int k, .str w, .str a, .str b, .tup deeds] ∧ Tx1 w ∧ Tx1 a ∧ Tx1 b ∧ (∀ r ∈ deeds, good 1 r) ∧ deeds.length ≤ 6
theorem RRow.good {d : D} (h : RRow d) : good 5 d := by
  obtain ⟨w, rows, rfl, h1, h2, _⟩ := h
  exact good_tup (n := 4) fun d hd => by
    simp at hd; rcases hd with rfl | rfl
    · exact good_str h1.1
    · exact good_tup (n := 3) fun r hr => by obtain ⟨_, _, _, _, _, g⟩ := h2 r hr; exact g
theorem ARow.good {d : D} (h : ARow d) : good 5 d := by
  obtain ⟨k, w, a, b, deeds, rfl, h1, h2, h3, h4, _⟩ := h
  exact good_tup (n := 4) fun d hd => by
    simp at hd; rcases hd with rfl | rfl | rfl | rfl | rfl
    · exact good_int _
    · exact good_str h1.1
    · exact good_str h2.1
    · exact good_str h3.1
    · exact (good_tup (n := 1) h4).mono (by decide)
theorem putD_all {P : D → Prop} {kvs : List (Key × D)} {k : Key} {v : D} (h : ∀ q ∈ kvs, P q.2) (hv : P v) : ∀ q ∈ putD kvs k v, P q.2 := by
  unfold putD
  split
  · intro q hq
    obtain ⟨p, hp, rfl⟩ := List.mem_map.mp hq
    split
    · exact hv
    · exact h p hp
  · intro q hq
    rcases List.mem_append.mp hq with hq | hq
    · exact h q hq
    · rw [List.mem_singleton.mp hq]; exact hv
theorem mergeD_all {P : D → Prop} : ∀ {more kvs : List (Key × D)}, (∀ q ∈ kvs, P q.2) → (∀ q ∈ more, P q.2) → ∀ q ∈ mergeD kvs more, P q.2
  | [], _, h, _ => h
  | p :: more, kvs, h, g => mergeD_all (more := more) (kvs := putD kvs p.1 p.2) (putD_all h (g p List.mem_cons_self)) fun q hq => g q (List.mem_cons_of_mem _ hq)
theorem lookK_all {P : D → Prop} {kvs : List (Key × D)} {k : Key} {d : D} (h : ∀ q ∈ kvs, P q.2) (e : lookK kvs k = some d) : P d := by
  unfold lookK at e
  obtain ⟨q, h1, h2⟩ := Option.map_eq_some_iff.mp e
  subst h2
  exact h q (List.mem_of_find?_eq_some h1)
theorem recs_pairs : ∀ {recs : List D}, (∀ d ∈ recs, RRow d) → ∃ kvs, pairsD recs = some kvs ∧ ∀ q ∈ kvs, ∃ rows, q.2 = .tup rows ∧ (∀ r ∈ rows, FRow r) ∧ rows.length ≤ 6
  | [], _ => ⟨[], rfl, fun q hq => nomatch hq⟩
  | d :: recs, h => by
    obtain ⟨kvs, h1, h2⟩ := recs_pairs fun e he => h e (List.mem_cons_of_mem _ he)
    obtain ⟨w, rows, rfl, g1, g2, g3⟩ := h d List.mem_cons_self
    refine ⟨(.inr w, .tup rows) :: kvs, ?_, fun q hq => ?_⟩
    · show (pairD (.tup [.str w, .tup rows])).bind _ = _
      rw [h1]; rfl
    · rcases List.mem_cons.mp hq with rfl | hq
      · exact ⟨rows, rfl, g2, g3⟩
      · exact h2 q hq
theorem dict_get {recs : List D} (h : ∀ d ∈ recs, RRow d) : ∃ kvs, fDict [.lst recs] = some (.ok kvs) ∧ ∀ w : Str, ∃ rows, getOr (.dk kvs) (.str w) (.tup []) = some (.sh (.tup rows)) ∧ (∀ r ∈ rows, FRow r) ∧ rows.length ≤ 6 := by
  obtain ⟨kvs, h1, h2⟩ := recs_pairs h
  refine ⟨mergeD [] kvs, by show ((lstD (.lst recs)).bind pairsD).map _ = _; rw [lstD_lst]; show (pairsD recs).map _ = _; rw [h1]; rfl, fun w => ?_⟩
  have h3 := mergeD_all (P := fun d => ∃ rows, d = .tup rows ∧ (∀ r ∈ rows, FRow r) ∧ rows.length ≤ 6) (kvs := []) (more := kvs) (fun q hq => nomatch hq) h2
  cases e : lookK (mergeD [] kvs) (.inr w) with
  | none => exact ⟨[], by show (some (lookK (mergeD [] kvs) (.inr w))).map _ = _; rw [e]; rfl, by simp, by simp⟩
  | some d =>
    obtain ⟨rows, rfl, g1, g2⟩ := lookK_all (P := fun d => ∃ rows, d = .tup rows ∧ (∀ r ∈ rows, FRow r) ∧ rows.length ≤ 6) h3 e
    exact ⟨rows, by show (some (lookK (mergeD [] kvs) (.inr w))).map _ = _; rw [e]; rfl, g1, g2⟩
/-- the word of a row -/
def rowW : D → D
  | .tup (_ :: x :: _) => x
  | d => d
theorem rows_words : ∀ {rows : List D}, (∀ r ∈ rows, FRow r) → ∃ ws : List Str, rows.map rowW = ws.map .str ∧ (∀ w ∈ ws, Tx1 w) ∧ ws.length = rows.length
  | [], _ => ⟨[], rfl, by simp, rfl⟩
  | d :: rows, h => by
    obtain ⟨ws, h1, h2, h3⟩ := rows_words fun e he => h e (List.mem_cons_of_mem _ he)
    obtain ⟨k, w, rest, rfl, g1, _⟩ := h d List.mem_cons_self
    refine ⟨w :: ws, by simp [h1, rowW], fun x hx => ?_, by simp [h3]⟩
    rcases List.mem_cons.mp hx with rfl | hx
    · exact g1
    · exact h2 x hx
end My
namespace My
open PySem PySem.Spec PyProof.Rows L2 Vs
theorem acts_turn {N : Nat} {l : List D} {own w : Str} {fs : List Str} {recs acts : List D} {n k : Int} {x8 x9 x10 x11 x12 x13 x14 x15 : Option Vl} {J : List O} (B : Bag N l) (hN : N + 1000 < 2 ^ 60) (ho : Tx1 own) (hw : Tx1 w) (hf : fs.length < 1000) (of : ∀ w ∈ fs, Tx1 w) (hr : ∀ d ∈ recs, RRow d) (ha : acts.length < 1000) (Q : Fl → S → Prop)
    (hQ : ∀ (l' : List D) (a : D) (J : List O) (x8 x9 x10 x11 x12 x13 x14 x15 : Option Vl), Bag (N + 200) l' → ARow a → Q .nx ⟨[some (.pt 0), some (.sh (.str own)), some (.pt 1), some (.sh (.int n)), some (.sh (.lst (fs.map .str))), some (.pt 2), some (.sh (.int k)), some (.sh (.str w)), x8, x9, x10, x11, x12, x13, x14, x15], .ol l' :: .sh (.lst recs) :: .ol (acts ++ [a]) :: J, []⟩) :
    wp m__law_acts_drawn_b4 ⟨[some (.pt 0), some (.sh (.str own)), some (.pt 1), some (.sh (.int n)), some (.sh (.lst (fs.map .str))), some (.pt 2), some (.sh (.int k)), some (.sh (.str w)), x8, x9, x10, x11, x12, x13, x14, x15], .ol l :: .sh (.lst recs) :: .ol acts :: J, []⟩ Q noE := by
  obtain ⟨P, hP⟩ : ∃ P : Fl → S → Prop, ∀ f s, P f s ↔ Q f s := ⟨Q, fun _ _ => Iff.rfl⟩
  obtain ⟨a, l1, B1, a1, e1⟩ := pick_s (st := "form") B (by omega) hf of
  obtain ⟨b, l2, B2, b1, e2⟩ := pick_s (st := "back") B1 (by omega) hf of
  have ta : Tx1 a := by rcases a1 with h | rfl; exact of a h; exact menu_ok.2.1
  have tb : Tx1 b := by rcases b1 with h | rfl; exact of b h; exact menu_ok.2.2.1
  obtain ⟨kvs, hd, hg⟩ := dict_get hr
  obtain ⟨ra, ga, fa, la⟩ := hg a
  obtain ⟨rb, gb, fb, lb⟩ := hg b
  obtain ⟨wa, ma, oa, na⟩ := rows_words fa
  obtain ⟨wb, mb, ob, nb⟩ := rows_words fb
  obtain ⟨m, l3, m0, m1, B3, e3⟩ := take_ok (n := 7) B2 (by omega) (by decide) (by decide)
  have hra : ∀ d ∈ ra, fIx d (.int 1) = some (.sh (rowW d)) := fun d hd => by
    obtain ⟨k, w, rest, rfl, _⟩ := fa d hd
    simp [rowW]
  have hrb : ∀ d ∈ rb, fIx d (.int 1) = some (.sh (rowW d)) := fun d hd => by
    obtain ⟨k, w, rest, rfl, _⟩ := fb d hd
    simp [rowW]
  have hdk : isDict (.dk kvs) = some () := rfl
  have la' : ra.length ≤ 1000000 := by omega
  have lb' : rb.length ≤ 1000000 := by omega
  simp [m__law_acts_drawn_b4, wpF_of e1, wpF_of e2, upds]
  unfold m__law_acts_drawn_c2
  refine wp_compU ?_
  simp [wpC_cons, wpC_nil]
  unfold m__law_acts_drawn_c1
  refine wp_map rowW ?_
  simp [hd, ga, hdk, la', ma]
  refine ⟨fun d hd => ?_, ?_⟩
  · simp [hra d hd]
  simp [wpC_cons, wpC_nil]
  refine wp_map rowW ?_
  simp [hd, gb, hdk, lb', mb]
  refine ⟨fun d hd => ?_, ?_⟩
  · simp [hrb d hd]
  simp [wpC_cons, wpC_nil]
  unfold m__law_acts_drawn_c3
  have hsm : small62 m = true := small_of0 (by omega) (by omega)
  obtain ⟨I, hI⟩ : ∃ I : S → List D → List D → List O → List O → Prop, ∀ s acc r ce tb, I s acc r ce tb ↔ ∃ (l : List D), (∀ d ∈ acc, good 1 d) ∧ (acc.length : Int) + r.length = m ∧ Bag (N + 10 + 20 * acc.length) l ∧ ce = .ol l :: .sh (.lst recs) :: .ol acts :: (J ++ [.ol [.lst (wa.map .str), .lst (wb.map .str)]]) ∧ tb = [] ∧ s.sl = [some (.pt 0), some (.sh (.str own)), some (.pt 1), some (.sh (.int n)), some (.sh (.lst (fs.map .str))), some (.pt 2), some (.sh (.int k)), some (.sh (.str w)), some (.pt (J.length + 3)), x9, some (.sh (.str a)), some (.sh (.str b)), x12, x13, x14, x15] := ⟨_, fun _ _ _ _ _ => Iff.rfl⟩
  refine wp_comp_inv I ?_
  simp [wpF_of e3, upds, hsm, rgL_length]
  refine ⟨by omega, (hI _ _ _ _ _).mpr ⟨l3, by simp, by simp [rgL_length]; omega, B3.mono (by simp), rfl, rfl, rfl⟩, ?_, ?_⟩
  · intro acc ce tb' h
    obtain ⟨l, h1, h2, B, rfl, rfl, h3⟩ := (hI _ _ _ _ _).mp h
    simp at h2
    have hla : acc.length ≤ 1000000 := by omega
    have hlc : acts.length < 1000000 := by omega
    simp [hla, hlc]
    have := hQ l (.tup [.int k, .str w, .str a, .str b, .tup acc]) (J ++ [.ol [.lst (wa.map .str), .lst (wb.map .str)], .ol acc]) (some (.pt (J.length + 3))) (some (.pt (J.length + 4))) (some (.sh (.str a))) (some (.sh (.str b))) x12 x13 x14 x15 (B.mono (by omega)) ⟨k, w, a, b, acc, rfl, hw, ta, tb, h1, by omega⟩
    simpa using this
  · intro acc d r ce tb' h
    obtain ⟨l, h1, h2, B, rfl, rfl, h3⟩ := (hI _ _ _ _ _).mp h
    simp at h2
    obtain ⟨d, l', g, B', e⟩ := deed_ok B (by omega) ho (by omega : wa.length < 1000) (by omega : wb.length < 1000) oa ob
    simp [wpF_of e, upds]
    exact (hI _ _ _ _ _).mpr ⟨l', fun x hx => by
      rcases List.mem_append.mp hx with hx | hx
      · exact h1 x hx
      · rw [List.mem_singleton.mp hx]; exact g, by simp; omega, B'.mono (by simp; omega), rfl, rfl, rfl⟩
def recN : D → D
  | .tup (x :: _) => x
  | d => d
theorem recs_names : ∀ {recs : List D}, (∀ d ∈ recs, RRow d) → ∃ ws : List Str, recs.map recN = ws.map .str ∧ (∀ w ∈ ws, Tx1 w) ∧ ws.length = recs.length
  | [], _ => ⟨[], rfl, by simp, rfl⟩
  | d :: recs, h => by
    obtain ⟨ws, h1, h2, h3⟩ := recs_names fun e he => h e (List.mem_cons_of_mem _ he)
    obtain ⟨w, rows, rfl, g1, _⟩ := h d List.mem_cons_self
    refine ⟨w :: ws, by simp [h1, recN], fun x hx => ?_, by simp [h3]⟩
    rcases List.mem_cons.mp hx with rfl | hx
    · exact g1
    · exact h2 x hx
theorem acts_ok {N : Nat} {l : List D} {own : Str} {recs : List D} {cR : O} (B : Bag N l) (hN : N + 3000 < 2 ^ 60) (ho : Tx1 own) (hr : ∀ d ∈ recs, RRow d) (hl : recs.length < 100) (hc : cR = .ol recs ∨ cR = .sh (.lst recs)) :
    ∃ (acts : List D) (l' : List D), (∀ d ∈ acts, ARow d) ∧ acts.length ≤ 7 ∧ Bag (N + 2000) l' ∧ F__law_acts_drawn [.pt 0, .sh (.str own), .pt 1] [.ol l, cR] [] = some (.ok (.sh (.tup acts)) [.ol l', .sh (.lst recs)] []) := by
  suffices h : wpF F__law_acts_drawn [.pt 0, .sh (.str own), .pt 1] [.ol l, cR] [] (fun o c t => ∃ (acts : List D) (l' : List D), (∀ d ∈ acts, ARow d) ∧ acts.length ≤ 7 ∧ Bag (N + 2000) l' ∧ o = .sh (.tup acts) ∧ c = [.ol l', .sh (.lst recs)] ∧ t = []) (fun _ _ _ => False) by
    obtain ⟨o, c, t, e, acts, l', q1, q2, q3, rfl, rfl, rfl⟩ := ex_of_wpF h
    exact ⟨acts, l', q1, q2, q3, e⟩
  obtain ⟨P, hP⟩ : ∃ P : O → List O → List O → Prop, ∀ o c t, P o c t ↔ ∃ (acts : List D) (l' : List D), (∀ d ∈ acts, ARow d) ∧ acts.length ≤ 7 ∧ Bag (N + 2000) l' ∧ o = .sh (.tup acts) ∧ c = [.ol l', .sh (.lst recs)] ∧ t = [] := ⟨_, fun _ _ _ => Iff.rfl⟩
  refine wpF_mono (Q := P) ?_ (fun o c t => (hP o c t).mp) fun _ _ _ z => z
  obtain ⟨n, l1, t0, t1, B1, e1⟩ := take_ok (n := 7) B (by omega) (by decide) (by decide)
  obtain ⟨ks, l2, B2, hks, e2⟩ := rising_ok B1 (by omega) t0 (by omega)
  obtain ⟨ws, l3, B3, hws, ow, e3⟩ := unlike_ok B2 (by omega) t0 (by omega)
  obtain ⟨fs, hfs, of, nf⟩ := recs_names hr
  have hrl : recs.length ≤ 1000000 := by omega
  have key : wp m__law_acts_drawn_c0 ⟨[some (.pt 0), some (.sh (.str own)), some (.pt 1), some (.sh (.int n)), none, none, none, none, none, none, none, none, none, none, none, none], [.ol l1, cR], []⟩ (fun o s => o = .ol (fs.map .str) ∧ s = ⟨[some (.pt 0), some (.sh (.str own)), some (.pt 1), some (.sh (.int n)), none, none, none, none, none, none, none, none, none, none, none, none], [.ol l1, .sh (.lst recs)], []⟩) noE := by
    unfold m__law_acts_drawn_c0
    refine wp_map recN ?_
    rcases hc with rfl | rfl
    all_goals
      simp [hrl, hfs]
      intro d hd
      obtain ⟨w, rows, rfl, _⟩ := hr d hd
      simp [recN]
  have key := eq_of_wp key
  obtain ⟨I, hI⟩ : ∃ I : List D → S → Prop, ∀ r s, I r s ↔ ∃ (l : List D) (acts : List D) (J : List O) (x6 x7 x8 x9 x10 x11 x12 x13 x14 x15 : Option Vl), (∀ d ∈ r, ∃ (k : Int) (w : Str), d = .tup [.int k, .str w] ∧ Tx1 w) ∧ acts.length + r.length ≤ 7 ∧ (∀ d ∈ acts, ARow d) ∧ Bag (N + 310 + 200 * acts.length) l ∧ s = ⟨[some (.pt 0), some (.sh (.str own)), some (.pt 1), some (.sh (.int n)), some (.sh (.lst (fs.map .str))), some (.pt 2), x6, x7, x8, x9, x10, x11, x12, x13, x14, x15], .ol l :: .sh (.lst recs) :: .ol acts :: J, []⟩ := ⟨_, fun _ _ => Iff.rfl⟩
  simp [F__law_acts_drawn, wpF_mk, m__law_acts_drawn, m__law_acts_drawn_l4, wpF_of e1, wpF_of e2, wpF_of e3, wp_of key, upds]
  refine wp_loop I ?_ ?_ _ _ ((hI _ _).mpr ⟨l3, [], [], none, none, none, none, none, none, none, none, none, none, fun d hd => ?_, ?_, by simp, B3.mono (by simp), rfl⟩)
  · intro d r s h
    obtain ⟨l, acts, J, x6, x7, x8, x9, x10, x11, x12, x13, x14, x15, hd, hlen, ha, B, rfl⟩ := (hI _ _).mp h
    obtain ⟨k, w, rfl, hw⟩ := hd d List.mem_cons_self
    simp at hlen
    simp
    refine acts_turn B (by omega) ho hw (by omega) of hr (by omega) _ fun l' a J x8 x9 x10 x11 x12 x13 x14 x15 B' ga => ?_
    simp
    exact (hI _ _).mpr ⟨l', acts ++ [a], J, _, _, x8, x9, x10, x11, x12, x13, x14, x15, fun d h => hd d (List.mem_cons_of_mem _ h), by simp; omega, fun d h => by
        rcases List.mem_append.mp h with h | h
        · exact ha d h
        · rw [List.mem_singleton.mp h]; exact ga, B'.mono (by simp; omega), rfl⟩
  · intro s h
    obtain ⟨l, acts, J, x6, x7, x8, x9, x10, x11, x12, x13, x14, x15, hd, hlen, ha, B, rfl⟩ := (hI _ _).mp h
    have hle : acts.length ≤ 1000000 := by simp at hlen; omega
    simp [hle]
    exact (hP _ _ _).mpr ⟨acts, l, ha, by simpa using hlen, B.mono (by simp at hlen; omega), rfl, rfl, rfl⟩
  · obtain ⟨k, w, rfl, hw⟩ := zip_mem hd
    exact ⟨k, w, rfl, ow w hw⟩
  · have := zip_len (ks := ks.map D.int) (ws := ws.map D.str)
    simp at this ⊢; omega
end My
namespace My
open PySem PySem.Spec PyProof.Rows L2 Vs
/-- all that is drawn -/
structure Pts where
  own : Str
  age : Int
  opts : List D
  recs : List D
  acts : List D
def Pts.d (x : Pts) : D := .tup [.str x.own, .int x.age, .tup x.opts, .tup x.recs, .tup x.acts]
structure Pts.Ok (x : Pts) : Prop where
  own : Tx1 x.own
  age0 : 0 ≤ x.age
  age1 : x.age ≤ 1000
  opts : ∀ d ∈ x.opts, RRow d
  recs : ∀ d ∈ x.recs, RRow d
  acts : ∀ d ∈ x.acts, ARow d
  no : x.opts.length ≤ 10
  nr : x.recs.length ≤ 12
  na : x.acts.length ≤ 10
theorem opt_turn {N : Nat} {l : List D} {us : List Str} {w : Str} {cM : O} {opts : List D} {x4 x5 x6 x7 x8 x9 x11 x12 : Option Vl} {J : List O} (B : Bag N l) (hN : N + 2000 < 2 ^ 60) (hw : Tx1 w) (ho : opts.length < 1000) (Q : Fl → S → Prop)
    (hQ : ∀ (l' : List D) (a : D) (J : List O) (x11 : Option Vl), Bag (N + 310) l' → RRow a → Q .nx ⟨[some (.pt 0), some (.pt 1), some (.pt 2), some (.sh (.str w)), x4, x5, x6, x7, x8, x9, some (.pt 3), x11, x12], .ol l' :: .ol (us.map .str) :: cM :: .ol (opts ++ [a]) :: J, []⟩) :
    wp m__law_all_drawn_b1 ⟨[some (.pt 0), some (.pt 1), some (.pt 2), some (.sh (.str w)), x4, x5, x6, x7, x8, x9, some (.pt 3), x11, x12], .ol l :: .ol (us.map .str) :: cM :: .ol opts :: J, []⟩ Q noE := by
  obtain ⟨t, l1, t0, t1, B1, e1⟩ := take_ok (n := 6) B (by omega) (by decide) (by decide)
  obtain ⟨ks, l2, B2, hk, e2⟩ := rising_ok (n := 1 + t) B1 (by omega) (by omega) (by omega)
  obtain ⟨ws, l3, B3, hws, ow, e3⟩ := unlike_ok (n := (ks.length : Int)) B2 (by omega) (by omega) (by omega)
  have hlo : opts.length < 1000000 := by omega
  simp [m__law_all_drawn_b1, wpF_of e1, wpF_of e2, wpF_of e3, upds, hlo]
  have hr : RRow (.tup [.str w, .tup (zipD (ks.map .int) (ws.map .str))]) := by
    refine ⟨w, _, rfl, hw, fun r hr => ?_, ?_⟩
    · obtain ⟨k, v, rfl, hv⟩ := zip_mem hr
      exact ⟨k, v, [], rfl, ow v hv, good_tup (n := 2) fun d hd => by
        simp at hd; rcases hd with rfl | rfl
        · exact good_int _
        · exact good_str (ow v hv).1⟩
    · have := zip_len (ks := ks.map D.int) (ws := ws.map D.str)
      simp at this ⊢; omega
  have := hQ l3 _ (J ++ [.sh (.lst (ks.map .int))]) (some (.pt (J.length + 4))) (B3.mono (by omega)) hr
  simpa using this
theorem menus_ok {N : Nat} {l : List D} {us : List Str} {n : Int} {x2 x3 x4 x5 x6 x8 x9 x10 x11 x12 : Option Vl} (B : Bag N l) (hN : N + 1000 < 2 ^ 60) (h0 : 0 ≤ n) (h1 : n ≤ us.length) (h2 : us.length ≤ 20) (ou : ∀ w ∈ us, Tx1 w) (Q : O → S → Prop)
    (hQ : ∀ (l' : List D) (ms us' : List Str), Bag (N + 20) l' → (ms.length : Int) = n → us'.length ≤ us.length → (∀ w ∈ ms, Tx1 w) → (∀ w ∈ us', Tx1 w) → Q (.ol (ms.map .str)) ⟨[some (.pt 0), some (.pt 1), x2, x3, x4, x5, x6, some (.sh (.int n)), x8, x9, x10, x11, x12], [.ol l', .ol (us'.map .str)], []⟩) :
    wp m__law_all_drawn_c0 ⟨[some (.pt 0), some (.pt 1), x2, x3, x4, x5, x6, some (.sh (.int n)), x8, x9, x10, x11, x12], [.ol l, .ol (us.map .str)], []⟩ Q noE := by
  have hsm : small62 n = true := small_of0 (by omega) (by omega)
  unfold m__law_all_drawn_c0
  obtain ⟨I, hI⟩ : ∃ I : S → List D → List D → List O → List O → Prop, ∀ s acc r ce tb, I s acc r ce tb ↔ ∃ (ms vs : List Str) (l : List D), acc = ms.map .str ∧ (acc.length : Int) + r.length = n ∧ vs.length + ms.length = us.length ∧ (∀ w ∈ vs, Tx1 w) ∧ (∀ w ∈ ms, Tx1 w) ∧ Bag (N + ms.length) l ∧ ce = [.ol l, .ol (vs.map .str)] ∧ tb = [] ∧ s.sl = [some (.pt 0), some (.pt 1), x2, x3, x4, x5, x6, some (.sh (.int n)), x8, x9, x10, x11, x12] := ⟨_, fun _ _ _ _ _ => Iff.rfl⟩
  refine wp_comp_inv I ?_
  simp [hsm, rgL_length]
  refine ⟨by omega, (hI _ _ _ _ _).mpr ⟨[], us, l, rfl, by simp [rgL_length]; omega, rfl, ou, by simp, B, rfl, rfl, rfl⟩, ?_, ?_⟩
  · intro acc ce tb h
    obtain ⟨ms, vs, l, rfl, q1, q2, q3, q4, B, rfl, rfl, q5⟩ := (hI _ _ _ _ _).mp h
    simp at q1
    exact hQ l ms vs (B.mono (by omega)) q1 (by omega) q4 q3
  · intro acc d r ce tb h
    obtain ⟨ms, vs, l, rfl, q1, q2, q3, q4, B, rfl, rfl, q5⟩ := (hI _ _ _ _ _).mp h
    simp at q1
    obtain ⟨k, l', k0, k1, B', e'⟩ := take_ok (n := (vs.length : Int)) B (by omega) (by omega) (by omega)
    obtain ⟨w, vs', g1, g2, g3, hp⟩ := pop_few k0 k1 (by omega)
    simp [wpF_of e', hp]
    exact (hI _ _ _ _ _).mpr ⟨ms ++ [w], vs', l', by simp, by simp; omega, by simp; omega, fun x hx => q3 x (g2 x hx), fun x hx => by
      rcases List.mem_append.mp hx with hx | hx
      · exact q4 x hx
      · rw [List.mem_singleton.mp hx]; exact q3 w g1, B'.mono (by simp; omega), rfl, rfl, rfl⟩
theorem recs_ok {N : Nat} {l : List D} {us ms fs : List Str} {cO cM : O} {x1 x3 x4 x5 x6 x7 x8 x10 x11 x12 : Option Vl} {J : List O} (B : Bag N l) (hN : N + 10000 < 2 ^ 60) (hm : ms.length < 1000) (hf : fs.length ≤ 12) (om : ∀ w ∈ ms, Tx1 w) (of : ∀ w ∈ fs, Tx1 w) (hM : CellW ms cM) (Q : O → S → Prop)
    (hQ : ∀ (l' : List D) (cM : O) (recs : List D), Bag (N + 7000) l' → (∀ d ∈ recs, RRow d) → recs.length = fs.length → Q (.ol recs) ⟨[some (.pt 0), x1, some (.pt 2), x3, x4, x5, x6, x7, x8, some (.sh (.lst (fs.map .str))), x10, x11, x12], .ol l' :: .ol (us.map .str) :: cM :: cO :: J, []⟩) :
    wp m__law_all_drawn_c1 ⟨[some (.pt 0), x1, some (.pt 2), x3, x4, x5, x6, x7, x8, some (.sh (.lst (fs.map .str))), x10, x11, x12], .ol l :: .ol (us.map .str) :: cM :: cO :: J, []⟩ Q noE := by
  unfold m__law_all_drawn_c1
  obtain ⟨I, hI⟩ : ∃ I : S → List D → List D → List O → List O → Prop, ∀ s acc r ce tb, I s acc r ce tb ↔ ∃ (l : List D) (cM : O), (∀ d ∈ acc, RRow d) ∧ (∀ d ∈ r, ∃ w, d = .str w ∧ Tx1 w) ∧ acc.length + r.length = fs.length ∧ Bag (N + 500 * acc.length) l ∧ CellW ms cM ∧ ce = .ol l :: .ol (us.map .str) :: cM :: cO :: J ∧ tb = [] ∧ s.sl = [some (.pt 0), x1, some (.pt 2), x3, x4, x5, x6, x7, x8, some (.sh (.lst (fs.map .str))), x10, x11, x12] := ⟨_, fun _ _ _ _ _ => Iff.rfl⟩
  refine wp_comp_inv I ?_
  simp
  refine ⟨by omega, (hI _ _ _ _ _).mpr ⟨l, cM, by simp, fun d hd => ?_, by simp, B, hM, rfl, rfl, rfl⟩, ?_, ?_⟩
  · obtain ⟨w, hw, rfl⟩ := List.mem_map.mp hd
    exact ⟨w, rfl, of w hw⟩
  · intro acc ce tb h
    obtain ⟨l, cM, h1, h2, h3, B, h4, rfl, rfl, h5⟩ := (hI _ _ _ _ _).mp h
    simp at h3
    exact hQ l cM acc (B.mono (by omega)) h1 h3
  · intro acc d r ce tb h
    obtain ⟨l, cM, h1, h2, h3, B, h4, rfl, rfl, h5⟩ := (hI _ _ _ _ _).mp h
    obtain ⟨w, rfl, hw⟩ := h2 d List.mem_cons_self
    simp at h3
    obtain ⟨rows, l', cM', g1, g2, B', h4', e⟩ := form_ok B (by omega) hm (by omega : fs.length < 1000) om of h4
    simp [wpF_of e, upds]
    exact (hI _ _ _ _ _).mpr ⟨l', cM', fun x hx => by
      rcases List.mem_append.mp hx with hx | hx
      · exact h1 x hx
      · rw [List.mem_singleton.mp hx]; exact ⟨w, rows, rfl, hw, g2, g1⟩, fun x hx => h2 x (List.mem_cons_of_mem _ hx), by simp; omega, B'.mono (by simp; omega), h4', rfl, rfl, rfl⟩
end My
namespace My
open PySem PySem.Spec PyProof.Rows L2 Vs
theorem all_ok {N : Nat} {l : List D} (B : Bag N l) (hN : N + 100000 < 2 ^ 60) : ∃ (x : Pts) (l' : List D), x.Ok ∧ Bag (N + 20000) l' ∧ F__law_all_drawn [.pt 0] [.ol l] [] = some (.ok (.sh x.d) [.ol l'] []) := by
  suffices h : wpF F__law_all_drawn [.pt 0] [.ol l] [] (fun o c t => ∃ (x : Pts) (l' : List D), x.Ok ∧ Bag (N + 20000) l' ∧ o = .sh x.d ∧ c = [.ol l'] ∧ t = []) (fun _ _ _ => False) by
    obtain ⟨o, c, t, e, x, l', q1, q2, rfl, rfl, rfl⟩ := ex_of_wpF h
    exact ⟨x, l', q1, q2, e⟩
  obtain ⟨P, hP⟩ : ∃ P : O → List O → List O → Prop, ∀ o c t, P o c t ↔ ∃ (x : Pts) (l' : List D), x.Ok ∧ Bag (N + 20000) l' ∧ o = .sh x.d ∧ c = [.ol l'] ∧ t = [] := ⟨_, fun _ _ _ => Iff.rfl⟩
  refine wpF_mono (Q := P) ?_ (fun o c t => (hP o c t).mp) fun _ _ _ z => z
  obtain ⟨own, l1, W, B1, e1⟩ := name_ok B (by omega)
  obtain ⟨t, l2, t0, t1, B2, e2⟩ := take_ok (n := 2) B1 (by omega) (by decide) (by decide)
  have hm : ∃ m : Int, 0 < m ∧ m ≤ 99 ∧ L2.atI [D.int 4, D.int 99] t = some (.int m) := by
    have : t = 0 ∨ t = 1 := by omega
    rcases this with rfl | rfl
    · exact ⟨4, by decide, by decide, by simp⟩
    · exact ⟨99, by decide, by decide, by simp⟩
  obtain ⟨m, m0, m1, ha⟩ := hm
  obtain ⟨u, l3, u0, u1, B3, e3⟩ := take_ok (n := m) B2 (by omega) m0 (by omega)
  obtain ⟨size, l4, s0, s1, B4, e4⟩ := take_ok (n := 5) B3 (by omega) (by decide) (by decide)
  obtain ⟨many, l5, y0, y1, B5, e5⟩ := take_ok (n := 7) B4 (by omega) (by decide) (by decide)
  obtain ⟨us, l6, z1, z2, z3, B6, e6⟩ := names_ok (n := (size + many).toNat) (taken := []) B5 (by omega) (by simp; omega)
  have en : (((size + many).toNat : Nat) : Int) = size + many := by omega
  rw [en] at e6
  simp at e6
  simp [F__law_all_drawn, wpF_mk, m__law_all_drawn, wpF_of e1, wpF_of e2, ha, wpF_of e3, wpF_of e4, wpF_of e5, wpF_of e6, upds]
  refine menus_ok B6 (by omega) s0 (by omega) (by omega) (fun w hw => word_tx (z2 w hw).1) _ fun l7 ms vs B7 q1 q2 q3 q4 => ?_
  have hf1 := fSorted_ok (ws := ms) (by omega)
  have hf2 := fSorted_ok (ws := vs) (by omega)
  simp [hf1, hf2, m__law_all_drawn_l1]
  obtain ⟨I, hI⟩ : ∃ I : List D → S → Prop, ∀ r s, I r s ↔ ∃ (l : List D) (opts : List D) (J : List O) (x3 x11 : Option Vl), (∀ d ∈ r, ∃ (w : Str), d = .str w ∧ Tx1 w) ∧ opts.length + r.length ≤ 5 ∧ (∀ d ∈ opts, RRow d) ∧ Bag (N + 1000 + 310 * opts.length) l ∧ s = ⟨[some (.pt 0), some (.pt 1), some (.pt 2), x3, none, some (.sh (.str own)), some (.sh (.int (1 + u))), some (.sh (.int size)), some (.sh (.int many)), some (.sh (.lst ((sortS vs).map .str))), some (.pt 3), x11, none], .ol l :: .ol (vs.map .str) :: .sh (.lst ((sortS ms).map .str)) :: .ol opts :: J, []⟩ := ⟨_, fun _ _ => Iff.rfl⟩
  have lsm := sortS_len ms
  have lsv := sortS_len vs
  refine wp_loop I ?_ ?_ _ _ ((hI _ _).mpr ⟨l7, [], [], none, none, fun d hd => ?_, ?_, by simp, B7.mono (by simp; omega), rfl⟩)
  · intro d r s h
    obtain ⟨l, opts, J, x3, x11, hd, hlen, ho, B, rfl⟩ := (hI _ _).mp h
    obtain ⟨w, rfl, hw⟩ := hd d List.mem_cons_self
    simp at hlen
    simp
    refine opt_turn B (by omega) hw (by omega) _ fun l' a J x11 B' ga => ?_
    simp
    exact (hI _ _).mpr ⟨l', opts ++ [a], J, _, x11, fun d h => hd d (List.mem_cons_of_mem _ h), by simp; omega, fun d h => by
        rcases List.mem_append.mp h with h | h
        · exact ho d h
        · rw [List.mem_singleton.mp h]; exact ga, B'.mono (by simp; omega), rfl⟩
  · intro s h
    obtain ⟨l, opts, J, x3, x11, hd, hlen, ho, B, rfl⟩ := (hI _ _).mp h
    simp at hlen
    simp
    refine recs_ok (ms := sortS ms) (fs := sortS vs) B (by omega) (by omega) (by omega) (fun w hw => q3 w (sortS_mem hw)) (fun w hw => q4 w (sortS_mem hw)) (.inr rfl) _ fun l' cM recs B' hr hrl => ?_
    obtain ⟨acts, l8, ga, gl, B8, e8⟩ := acts_ok (cR := .ol recs) B' (by omega) (word_tx W) hr (by omega) (.inl rfl)
    have h1 : opts.length ≤ 1000000 := by omega
    have h2 : recs.length ≤ 1000000 := by omega
    simp [h1, h2, wpF_of e8, upds]
    exact (hP _ _ _).mpr ⟨⟨own, 1 + u, opts, recs, acts⟩, l8, ⟨word_tx W, by show 0 ≤ 1 + u; omega, by show 1 + u ≤ 1000; omega, ho, hr, ga, by show opts.length ≤ 10; omega, by show recs.length ≤ 12; omega, by show acts.length ≤ 10; omega⟩, B8.mono (by omega), rfl, rfl, rfl⟩
  · obtain ⟨w, hw, rfl⟩ := List.mem_map.mp hd
    exact ⟨w, rfl, q3 w (sortS_mem hw)⟩
  · simp; omega
end My
namespace My
open PySem PySem.Spec PyProof.Rows L2 Vs
/-- plainly unlike -/
def Ap (d e : D) : Prop := (apart d e = true ∧ apart e d = true) ∧ toP d ≠ toP e
theorem Ap_str {a b : Str} (h : a ≠ b) : Ap (.str a) (.str b) := ⟨⟨by simp [apart, h], by simp [apart, Ne.symm h]⟩, by simpa [toP] using h⟩
theorem Ap_int {a b : Int} (h : a ≠ b) : Ap (.int a) (.int b) := ⟨⟨by simp [apart, h], by simp [apart, Ne.symm h]⟩, by simpa [toP] using h⟩
theorem apartL_len : ∀ {xs ys : List D}, xs.length ≠ ys.length → apartL xs ys = true
  | [], [], h => absurd rfl h
  | [], _ :: _, _ => by simp [apartL]
  | _ :: _, [], _ => by simp [apartL]
  | x :: xs, y :: ys, h => by simp [apartL, apartL_len (xs := xs) (ys := ys) (by simpa using h)]
theorem apartL_at : ∀ {xs ys : List D} (i : Nat) {x y : D}, xs[i]? = some x → ys[i]? = some y → apart x y = true → apartL xs ys = true
  | [], _, i, _, _, h, _, _ => by simp at h
  | _ :: _, [], i, _, _, _, h, _ => by simp at h
  | a :: xs, b :: ys, 0, _, _, h, g, e => by simp at h g; subst h g; simp [apartL, e]
  | a :: xs, b :: ys, i + 1, _, _, h, g, e => by simp [apartL, apartL_at (xs := xs) (ys := ys) i (by simpa using h) (by simpa using g) e]
theorem Ap_len {n : Nat} {xs ys : List D} (g : ∀ d ∈ xs, good n d) (h : xs.length ≠ ys.length) : Ap (.tup xs) (.tup ys) := ⟨⟨by simp [apart, apartL_len h], by simp [apart, apartL_len (Ne.symm h)]⟩, fun e => h (toPs_ne_len g (toP_tup.mp e))⟩
theorem Ap_at {n : Nat} {xs ys : List D} (g : ∀ d ∈ xs, good n d) (i : Nat) {x y : D} (hx : xs[i]? = some x) (hy : ys[i]? = some y) (a : Ap x y) : Ap (.tup xs) (.tup ys) := ⟨⟨by simp [apart, apartL_at i hx hy a.1.1], by simp [apart, apartL_at i hy hx a.1.2]⟩, fun e => a.2 (toPs_ne g i hx hy (toP_tup.mp e))⟩
/-- a row that ends in a tuple -/
def Rw (d : D) : Prop := ∃ pre inner : List D, d = .tup (pre ++ [.tup inner]) ∧ (∀ e ∈ pre, good 6 e) ∧ (∀ e ∈ inner, good 5 e) ∧ pre.length < 100 ∧ inner.length < 100
theorem Rw.good {d : D} (h : Rw d) : good 7 d := by
  obtain ⟨pre, inner, rfl, h1, h2, _⟩ := h
  refine good_tup (n := 6) fun e he => ?_
  rcases List.mem_append.mp he with he | he
  · exact h1 e he
  · rw [List.mem_singleton.mp he]; exact good_tup h2
theorem RRow.rw_ {d : D} (h : RRow d) : Rw d := by
  obtain ⟨w, rows, rfl, h1, h2, h3⟩ := h
  exact ⟨[.str w], rows, rfl, fun e he => by simp at he; subst he; exact good_str h1.1, fun r hr => by obtain ⟨_, _, _, _, _, g⟩ := h2 r hr; exact g.mono (by decide), by simp, by omega⟩
theorem ARow.rw_ {d : D} (h : ARow d) : Rw d := by
  obtain ⟨k, w, a, b, deeds, rfl, h1, h2, h3, h4, h5⟩ := h
  exact ⟨[.int k, .str w, .str a, .str b], deeds, rfl, fun e he => by
    simp at he; rcases he with rfl | rfl | rfl | rfl
    · exact good_int _
    · exact good_str h1.1
    · exact good_str h2.1
    · exact good_str h3.1, fun r hr => (h4 r hr).mono (by decide), by simp, by omega⟩
theorem one_more_ok (ds : List D) : ∃ d, good 1 d ∧ F__law_one_more [.sh (.tup ds)] [] [] = some (.ok (.sh d) [] []) := by
  by_cases h : ds.length = 5
  · refine ⟨.tup [.str "add", .str "a", .str "b"], good_tup (n := 0) fun e he => ?_, eq_of_wpF ?_⟩
    · simp at he; rcases he with rfl | rfl | rfl
      · exact good_str deed_words.2.1.1
      · exact good_str deed_words.2.2.2.2.2.2.2.2.2.2.2.1.1
      · exact good_str deed_words.2.2.2.2.2.2.2.2.2.2.2.2.1
    · simp [F__law_one_more, wpF_mk, m__law_one_more, h]
  · refine ⟨.tup [.int 1, .str "a", .str "whole", .str "may"], good_tup (n := 0) fun e he => ?_, eq_of_wpF ?_⟩
    · simp at he; rcases he with rfl | rfl | rfl | rfl
      · exact good_int _
      · exact good_str deed_words.2.2.2.2.2.2.2.2.2.2.2.1.1
      · exact good_str menu_ok.2.2.2.2.2.1.1
      · exact good_str menu_ok.2.2.2.2.2.2.2.2.2.2.2.2.1
    · have h' : ¬ ((ds.length : Int) = 5) := by omega
      simp [F__law_one_more, wpF_mk, m__law_one_more, h']
theorem nilT {n : Nat} {rows : List D} (h : ∀ d ∈ rows, good n d) (hn : n < 60) : eqD (.tup rows) (.tup []) = some (decide (rows = [])) := by
  rw [eqD_good (good_tup h) (good_tup (n := n) (ds := []) (by simp)) (by omega)]
  have : (toP (.tup rows) = toP (.tup [])) ↔ rows = [] := by
    rw [toP_tup]
    constructor
    · intro e
      have := toPs_ne_len h e
      simpa using this
    · rintro rfl; rfl
  simp [this]
/-- rows with the last thing of one of them made longer or shorter -/
theorem near_ok {rows : List D} {k : Int} {d : D} (hr : ∀ d ∈ rows, Rw d) (hl : rows.length < 100) (k0 : 0 ≤ k) (hk : rows[k.toNat]? = some d) : ∃ rows' : List D, (∀ d ∈ rows', good 7 d) ∧ rows'.length ≤ rows.length ∧ Ap (.tup rows) (.tup rows') ∧
    F__law_near [.sh (.tup rows), .sh (.int k), .sh d] [] [] = some (.ok (.sh (.tup rows')) [] []) := by
  have hlt : k.toNat < rows.length := (List.getElem?_eq_some_iff.mp hk).1
  have hm : d ∈ rows := List.mem_of_getElem? hk
  obtain ⟨pre, inner, rfl, h1, h2, h3, h4⟩ := hr d hm
  obtain ⟨om, gm, em⟩ := one_more_ok (pre ++ [.tup inner])
  have ek : k = ((k.toNat : Nat) : Int) := by omega
  have ek1 : k + 1 = ((k.toNat + 1 : Nat) : Int) := by omega
  have c1 := cutL_to rows k.toNat ek
  have c2 := cutL_from rows (k.toNat + 1) ek1
  have c3 := cutL_m1 (pre ++ [D.tup inner])
  have c4 := cutL_m1 inner
  have hz := nilT h2 (by decide)
  have last : L2.atI (pre ++ [D.tup inner]) (-1) = some (.tup inner) := by
    unfold L2.atI L2.ixN
    have h : (-1 + ((pre.length : Int) + 1)).toNat = pre.length := by omega
    have h1 : (1 : Int) ≤ (pre.length : Int) + 1 := by omega
    simp [h, h1]
  have fin : ∀ inner' : List D, (∀ e ∈ inner', good 5 e) → inner.length ≠ inner'.length → (∀ d ∈ rows.take k.toNat ++ .tup (pre ++ [.tup inner']) :: rows.drop (k.toNat + 1), good 7 d) ∧ (rows.take k.toNat ++ .tup (pre ++ [.tup inner']) :: rows.drop (k.toNat + 1)).length ≤ rows.length ∧ Ap (.tup rows) (.tup (rows.take k.toNat ++ .tup (pre ++ [.tup inner']) :: rows.drop (k.toNat + 1))) := by
    intro inner' hi hne
    refine ⟨fun e he => ?_, ?_, ?_⟩
    · rcases List.mem_append.mp he with he | he
      · exact (hr e (List.mem_of_mem_take he)).good
      · rcases List.mem_cons.mp he with rfl | he
        · refine good_tup (n := 6) fun e he => ?_
          rcases List.mem_append.mp he with he | he
          · exact h1 e he
          · rw [List.mem_singleton.mp he]; exact good_tup hi
        · exact (hr e (List.mem_of_mem_drop he)).good
    · simp; omega
    · refine Ap_at (n := 7) (fun e he => (hr e he).good) k.toNat hk (y := .tup (pre ++ [.tup inner'])) ?_ ?_
      · rw [List.getElem?_append_right (by simp; omega)]
        have : k.toNat - (rows.take k.toNat).length = 0 := by simp; omega
        rw [this]; rfl
      · refine Ap_at (n := 6) (fun e he => ?_) pre.length (x := .tup inner) (y := .tup inner') (by simp) (by simp) (Ap_len h2 hne)
        rcases List.mem_append.mp he with he | he
        · exact h1 e he
        · rw [List.mem_singleton.mp he]; exact good_tup h2
  by_cases hi : inner = []
  · subst hi
    obtain ⟨q1, q2, q3⟩ := fin [om] (fun e he => by simp at he; subst he; exact gm.mono (by decide)) (by simp)
    refine ⟨_, q1, q2, q3, eq_of_wpF ?_⟩
    simp [F__law_near, wpF_mk, m__law_near, wpF_of em, last, hz, c1, c2, c3]
    omega
  · obtain ⟨q1, q2, q3⟩ := fin inner.dropLast (fun e he => h2 e (List.dropLast_subset _ he)) (by
      have := List.length_pos_iff.mpr hi
      simp; omega)
    refine ⟨_, q1, q2, q3, eq_of_wpF ?_⟩
    simp [F__law_near, wpF_mk, m__law_near, wpF_of em, last, hz, c1, c2, c3, c4, hi]
    omega
end My
namespace My
open PySem PySem.Spec PyProof.Rows L2 Vs
def Pts.ds (x : Pts) : List D := [.str x.own, .int x.age, .tup x.opts, .tup x.recs, .tup x.acts]
structure Pts.Gd (x : Pts) : Prop where
  own : Tx1 x.own
  age0 : 0 ≤ x.age
  age1 : x.age ≤ 1000
  opts : ∀ d ∈ x.opts, good 7 d
  recs : ∀ d ∈ x.recs, good 7 d
  acts : ∀ d ∈ x.acts, good 7 d
theorem Pts.Ok.gd {x : Pts} (h : x.Ok) : x.Gd := ⟨h.own, h.age0, h.age1, fun d hd => (h.opts d hd).rw_.good, fun d hd => (h.recs d hd).rw_.good, fun d hd => (h.acts d hd).rw_.good⟩
theorem Pts.Gd.all {x : Pts} (h : x.Gd) : ∀ d ∈ x.ds, good 8 d := fun d hd => by
  unfold Pts.ds at hd
  simp at hd
  rcases hd with rfl | rfl | rfl | rfl | rfl
  · exact good_str h.own.1
  · exact good_int _
  · exact good_tup h.opts
  · exact good_tup h.recs
  · exact good_tup h.acts
theorem at_row {rows : List D} {k : Int} (h0 : 0 ≤ k) (h1 : k < rows.length) : ∃ d, d ∈ rows ∧ rows[k.toNat]? = some d ∧ L2.atI rows k = some d := by
  have e : k = ((k.toNat : Nat) : Int) := by omega
  have hl : k.toNat < rows.length := by omega
  refine ⟨rows[k.toNat], List.getElem_mem hl, List.getElem?_eq_getElem hl, ?_⟩
  have : L2.atI rows ((k.toNat : Nat) : Int) = some rows[k.toNat] := by
    rw [atI_nat']; exact List.getElem?_eq_getElem hl
  rw [← e] at this; exact this
theorem rest_ok {rows : List D} {k : Int} (hr : ∀ d ∈ rows, Rw d) (h0 : 0 ≤ k) (h1 : k < rows.length) : (∀ d ∈ rows.take k.toNat ++ rows.drop (k.toNat + 1), good 7 d) ∧ Ap (.tup rows) (.tup (rows.take k.toNat ++ rows.drop (k.toNat + 1))) := by
  refine ⟨fun d hd => ?_, Ap_len (n := 7) (fun d hd => (hr d hd).good) (by simp; omega)⟩
  rcases List.mem_append.mp hd with hd | hd
  · exact (hr d (List.mem_of_mem_take hd)).good
  · exact (hr d (List.mem_of_mem_drop hd)).good
theorem m01 : mulOk 0 0 = true ∧ mulOk 0 1 = true ∧ mulOk 1 0 = true ∧ mulOk 1 1 = true := by decide
theorem fresh2 {w : Str} (h : Tx1 w) : ∀ d ∈ [D.tup [.str w, .tup [.tup [.int 1, .str "a"]]]], good 7 d := fun d hd => by
  simp at hd; subst hd
  refine good_tup (n := 6) fun e he => ?_
  simp at he; rcases he with rfl | rfl
  · exact good_str h.1
  · refine good_tup (n := 5) fun e he => ?_
    simp at he; subst he
    refine good_tup (n := 4) fun e he => ?_
    simp at he; rcases he with rfl | rfl
    · exact good_int _
    · exact good_str deed_words.2.2.2.2.2.2.2.2.2.2.2.1.1
theorem fresh3 {w : Str} (h : Tx1 w) : ∀ d ∈ [D.tup [.str w, .tup []]], good 7 d := fun d hd => by
  simp at hd; subst hd
  refine good_tup (n := 6) fun e he => ?_
  simp at he; rcases he with rfl | rfl
  · exact good_str h.1
  · exact good_tup (n := 5) (ds := []) (by simp)
theorem fresh4 {w : Str} (_ : Tx1 w) : ∀ d ∈ [D.tup [.int 1, .str "a", .str "z", .str "z", .tup []]], good 7 d := fun d hd => by
  have hz : PyData.strOk "z" = true := by decide +kernel
  simp at hd; subst hd
  refine good_tup (n := 6) fun e he => ?_
  simp at he; rcases he with rfl | rfl | rfl | rfl
  · exact good_int _
  · exact good_str deed_words.2.2.2.2.2.2.2.2.2.2.2.1.1
  · exact good_str hz
  · exact good_tup (n := 5) (ds := []) (by simp)
theorem names_of : ∀ {rs : List D}, (∀ d ∈ rs, RRow d) → ∃ ws : List Str, rs.map recN = ws.map .str ∧ ws.length = rs.length := fun h => by
  obtain ⟨ws, h1, _, h3⟩ := recs_names h
  exact ⟨ws, h1, h3⟩
theorem bent_ok {N : Nat} {l : List D} {x : Pts} (B : Bag N l) (hN : N + 1000 < 2 ^ 60) (hx : x.Ok) : ∃ (y : Pts) (l' : List D), y.Gd ∧ Ap (.tup x.ds) (.tup y.ds) ∧ Bag (N + 100) l' ∧
    F__law_bent_once [.pt 0, .sh x.d] [.ol l] [] = some (.ok (.sh y.d) [.ol l'] []) := by
  have hg := hx.gd
  obtain ⟨t, l1, t0, t1, B1, e1⟩ := take_ok (n := 5) B (by omega) (by decide) (by decide)
  have ht : t = 0 ∨ t = 1 ∨ t = 2 ∨ t = 3 ∨ t = 4 := by omega
  rcases ht with rfl | rfl | rfl | rfl | rfl
  · obtain ⟨ws, l2, z1, z2, z3, B2, e2⟩ := names_ok (n := 1) (taken := [x.own]) B1 (by omega) (by simp)
    obtain ⟨w, rfl⟩ : ∃ w, ws = [w] := by
      match ws, z1 with
      | [w], _ => exact ⟨w, rfl⟩
    simp at e2
    have hw := z2 w (by simp)
    refine ⟨⟨w, x.age, x.opts, x.recs, x.acts⟩, l2, ⟨word_tx hw.1, hg.age0, hg.age1, hg.opts, hg.recs, hg.acts⟩, Ap_at (n := 8) hg.all 0 rfl rfl (Ap_str fun e => hw.2 (by simp [e])), B2.mono (by omega), eq_of_wpF ?_⟩
    simp [F__law_bent_once, wpF_mk, m__law_bent_once, wpF_of e1, wpF_of e2, upds, Pts.d]
  · refine ⟨⟨x.own, x.age % 99 + 1, x.opts, x.recs, x.acts⟩, l1, ⟨hg.own, by show 0 ≤ x.age % 99 + 1; omega, by show x.age % 99 + 1 ≤ 1000; omega, hg.opts, hg.recs, hg.acts⟩, Ap_at (n := 8) hg.all 1 rfl rfl (Ap_int (by show x.age ≠ x.age % 99 + 1; omega)), B1.mono (by omega), eq_of_wpF ?_⟩
    have hl : x.age.natAbs.log2 < 9000 := Nat.lt_trans (log2_lt (k := 64) (by have := hg.age1; have := hg.age0; omega) (by decide)) (by decide)
    simp [F__law_bent_once, wpF_mk, m__law_bent_once, wpF_of e1, upds, Pts.d, hl]
  · have hrw : ∀ d ∈ x.opts, Rw d := fun d hd => (hx.opts d hd).rw_
    have hz := nilT hg.opts (by decide)
    have hlen : x.opts.length ≤ 12 := by have := hx.no; omega
    by_cases hn : x.opts = []
    · obtain ⟨os, ho, no⟩ := names_of hx.opts
      obtain ⟨rs, hrs, nr⟩ := names_of hx.recs
      have hno := hx.no
      have hnr := hx.nr
      obtain ⟨ws, l2, z1, z2, z3, B2, e2⟩ := names_okP (n := 1) (taken := os ++ rs) B1 (by omega) (by simp; omega)
      obtain ⟨w, rfl⟩ : ∃ w, ws = [w] := by
        match ws, z1 with
        | [w], _ => exact ⟨w, rfl⟩
      simp at e2
      have hw := word_tx (z2 w (by simp)).1
      have key : wp m__law_bent_once_c0 ⟨[some (.pt 0), some (.sh x.d), some (.pt 1), some (.sh (.int 2)), none, none, none, none, none, none, none, none], [.ol l1, .ol x.ds], []⟩ (fun o s => o = .ol (os.map .str ++ rs.map .str) ∧ s = ⟨[some (.pt 0), some (.sh x.d), some (.pt 1), some (.sh (.int 2)), none, none, none, none, none, none, none, none], [.ol l1, .ol x.ds], []⟩) noE := by
        unfold m__law_bent_once_c0
        refine wp_map recN ?_
        have hq : x.opts.length + x.recs.length ≤ 1000000 := by omega
        simp [Pts.d, hq, ho, hrs]
        intro d hd
        have : RRow d := by
          rcases hd with hd | hd
          · exact hx.opts d hd
          · exact hx.recs d hd
        obtain ⟨w, rows, rfl, _⟩ := this
        simp [recN]
      have key := eq_of_wp key
      simp only [Pts.ds, Pts.d] at key
      have hz' : eqD (.tup x.opts) (.tup []) = some true := by rw [hz]; simp [hn]
      refine ⟨⟨x.own, x.age, [.tup [.str w, .tup [.tup [.int 1, .str "a"]]]], x.recs, x.acts⟩, l2, ⟨hg.own, hg.age0, hg.age1, fresh2 hw, hg.recs, hg.acts⟩, Ap_at (n := 8) hg.all 2 rfl rfl (Ap_len (n := 7) hg.opts (by rw [hn]; simp)), B2.mono (by omega), eq_of_wpF ?_⟩

      simp [F__law_bent_once, wpF_mk, m__law_bent_once, wpF_of e1, wp_of key, wpF_of e2, upds, Pts.d, hz']
    · have hp := List.length_pos_iff.mpr hn
      obtain ⟨k, l2, k0, k1, B2, e2⟩ := take_ok (n := (x.opts.length : Int)) B1 (by omega) (by omega) (by omega)
      obtain ⟨d, hd, hk, ha⟩ := at_row k0 k1
      obtain ⟨v, l3, v0, v1, B3, e3⟩ := take_ok (n := 2) B2 (by omega) (by decide) (by decide)
      obtain ⟨rows', n1, n2, n3, e4⟩ := near_ok hrw (by omega) k0 hk
      obtain ⟨m1, m2⟩ := rest_ok hrw k0 k1
      have c1 := cutL_to x.opts k.toNat (by omega : k = ((k.toNat : Nat) : Int))
      have c2 := cutL_from x.opts (k.toNat + 1) (by omega : k + 1 = ((k.toNat + 1 : Nat) : Int))
      have q1 : min k.toNat x.opts.length + (x.opts.length - (k.toNat + 1)) ≤ 1000000 := by omega
      have hv : v = 0 ∨ v = 1 := by omega
      obtain ⟨w, rr, rfl, _⟩ := hx.opts d hd
      by_cases hc : v = 1 ∧ (1 : Int) < rr.length
      · obtain ⟨rfl, hc⟩ := hc
        refine ⟨⟨x.own, x.age, rows', x.recs, x.acts⟩, l3, ⟨hg.own, hg.age0, hg.age1, n1, hg.recs, hg.acts⟩, Ap_at (n := 8) hg.all 2 rfl rfl n3, B3.mono (by omega), eq_of_wpF ?_⟩
        simp [F__law_bent_once, wpF_mk, m__law_bent_once, wpF_of e1, wpF_of e2, wpF_of e3, wpF_of e4, upds, Pts.d, hz, hn, ha, c1, c2, q1, hc, m01]
      · refine ⟨⟨x.own, x.age, x.opts.take k.toNat ++ x.opts.drop (k.toNat + 1), x.recs, x.acts⟩, l3, ⟨hg.own, hg.age0, hg.age1, m1, hg.recs, hg.acts⟩, Ap_at (n := 8) hg.all 2 rfl rfl m2, B3.mono (by omega), eq_of_wpF ?_⟩
        rcases hv with rfl | rfl
        · by_cases hc' : (1 : Int) < rr.length <;> simp [F__law_bent_once, wpF_mk, m__law_bent_once, wpF_of e1, wpF_of e2, wpF_of e3, wpF_of e4, upds, Pts.d, hz, hn, ha, c1, c2, q1, hc', m01]
        · have hc' : ¬ (1 : Int) < rr.length := fun h => hc ⟨rfl, h⟩
          simp [F__law_bent_once, wpF_mk, m__law_bent_once, wpF_of e1, wpF_of e2, wpF_of e3, wpF_of e4, upds, Pts.d, hz, hn, ha, c1, c2, q1, hc', m01]
  · have hrw : ∀ d ∈ x.recs, Rw d := fun d hd => (hx.recs d hd).rw_
    have hz := nilT hg.recs (by decide)
    have hlen : x.recs.length ≤ 12 := by have := hx.nr; omega
    by_cases hn : x.recs = []
    · obtain ⟨os, ho, no⟩ := names_of hx.opts
      obtain ⟨rs, hrs, nr⟩ := names_of hx.recs
      have hno := hx.no
      have hnr := hx.nr
      obtain ⟨ws, l2, z1, z2, z3, B2, e2⟩ := names_okP (n := 1) (taken := os ++ rs) B1 (by omega) (by simp; omega)
      obtain ⟨w, rfl⟩ : ∃ w, ws = [w] := by
        match ws, z1 with
        | [w], _ => exact ⟨w, rfl⟩
      simp at e2
      have hw := word_tx (z2 w (by simp)).1
      have key : wp m__law_bent_once_c0 ⟨[some (.pt 0), some (.sh x.d), some (.pt 1), some (.sh (.int 3)), none, none, none, none, none, none, none, none], [.ol l1, .ol x.ds], []⟩ (fun o s => o = .ol (os.map .str ++ rs.map .str) ∧ s = ⟨[some (.pt 0), some (.sh x.d), some (.pt 1), some (.sh (.int 3)), none, none, none, none, none, none, none, none], [.ol l1, .ol x.ds], []⟩) noE := by
        unfold m__law_bent_once_c0
        refine wp_map recN ?_
        have hq : x.opts.length + x.recs.length ≤ 1000000 := by omega
        simp [Pts.d, hq, ho, hrs]
        intro d hd
        have : RRow d := by
          rcases hd with hd | hd
          · exact hx.opts d hd
          · exact hx.recs d hd
        obtain ⟨w, rows, rfl, _⟩ := this
        simp [recN]
      have key := eq_of_wp key
      simp only [Pts.ds, Pts.d] at key
      have hz' : eqD (.tup x.recs) (.tup []) = some true := by rw [hz]; simp [hn]
      refine ⟨⟨x.own, x.age, x.opts, [.tup [.str w, .tup []]], x.acts⟩, l2, ⟨hg.own, hg.age0, hg.age1, hg.opts, fresh3 hw, hg.acts⟩, Ap_at (n := 8) hg.all 3 rfl rfl (Ap_len (n := 7) hg.recs (by rw [hn]; simp)), B2.mono (by omega), eq_of_wpF ?_⟩

      simp [F__law_bent_once, wpF_mk, m__law_bent_once, wpF_of e1, wp_of key, wpF_of e2, upds, Pts.d, hz']
    · have hp := List.length_pos_iff.mpr hn
      obtain ⟨k, l2, k0, k1, B2, e2⟩ := take_ok (n := (x.recs.length : Int)) B1 (by omega) (by omega) (by omega)
      obtain ⟨d, hd, hk, ha⟩ := at_row k0 k1
      obtain ⟨v, l3, v0, v1, B3, e3⟩ := take_ok (n := 2) B2 (by omega) (by decide) (by decide)
      obtain ⟨rows', n1, n2, n3, e4⟩ := near_ok hrw (by omega) k0 hk
      obtain ⟨m1, m2⟩ := rest_ok hrw k0 k1
      have c1 := cutL_to x.recs k.toNat (by omega : k = ((k.toNat : Nat) : Int))
      have c2 := cutL_from x.recs (k.toNat + 1) (by omega : k + 1 = ((k.toNat + 1 : Nat) : Int))
      have q1 : min k.toNat x.recs.length + (x.recs.length - (k.toNat + 1)) ≤ 1000000 := by omega
      have hv : v = 0 ∨ v = 1 := by omega
      rcases hv with rfl | rfl
      · refine ⟨⟨x.own, x.age, x.opts, x.recs.take k.toNat ++ x.recs.drop (k.toNat + 1), x.acts⟩, l3, ⟨hg.own, hg.age0, hg.age1, hg.opts, m1, hg.acts⟩, Ap_at (n := 8) hg.all 3 rfl rfl m2, B3.mono (by omega), eq_of_wpF ?_⟩
        simp [F__law_bent_once, wpF_mk, m__law_bent_once, wpF_of e1, wpF_of e2, wpF_of e3, wpF_of e4, upds, Pts.d, hz, hn, ha, c1, c2, q1, m01]
      · refine ⟨⟨x.own, x.age, x.opts, rows', x.acts⟩, l3, ⟨hg.own, hg.age0, hg.age1, hg.opts, n1, hg.acts⟩, Ap_at (n := 8) hg.all 3 rfl rfl n3, B3.mono (by omega), eq_of_wpF ?_⟩
        simp [F__law_bent_once, wpF_mk, m__law_bent_once, wpF_of e1, wpF_of e2, wpF_of e3, wpF_of e4, upds, Pts.d, hz, hn, ha, c1, c2, q1, m01]
  · have hrw : ∀ d ∈ x.acts, Rw d := fun d hd => (hx.acts d hd).rw_
    have hz := nilT hg.acts (by decide)
    have hlen : x.acts.length ≤ 12 := by have := hx.na; omega
    by_cases hn : x.acts = []
    · obtain ⟨os, ho, no⟩ := names_of hx.opts
      obtain ⟨rs, hrs, nr⟩ := names_of hx.recs
      have hno := hx.no
      have hnr := hx.nr
      obtain ⟨ws, l2, z1, z2, z3, B2, e2⟩ := names_okP (n := 1) (taken := os ++ rs) B1 (by omega) (by simp; omega)
      obtain ⟨w, rfl⟩ : ∃ w, ws = [w] := by
        match ws, z1 with
        | [w], _ => exact ⟨w, rfl⟩
      simp at e2
      have hw := word_tx (z2 w (by simp)).1
      have key : wp m__law_bent_once_c0 ⟨[some (.pt 0), some (.sh x.d), some (.pt 1), some (.sh (.int 4)), none, none, none, none, none, none, none, none], [.ol l1, .ol x.ds], []⟩ (fun o s => o = .ol (os.map .str ++ rs.map .str) ∧ s = ⟨[some (.pt 0), some (.sh x.d), some (.pt 1), some (.sh (.int 4)), none, none, none, none, none, none, none, none], [.ol l1, .ol x.ds], []⟩) noE := by
        unfold m__law_bent_once_c0
        refine wp_map recN ?_
        have hq : x.opts.length + x.recs.length ≤ 1000000 := by omega
        simp [Pts.d, hq, ho, hrs]
        intro d hd
        have : RRow d := by
          rcases hd with hd | hd
          · exact hx.opts d hd
          · exact hx.recs d hd
        obtain ⟨w, rows, rfl, _⟩ := this
        simp [recN]
      have key := eq_of_wp key
      simp only [Pts.ds, Pts.d] at key
      have hz' : eqD (.tup x.acts) (.tup []) = some true := by rw [hz]; simp [hn]
      refine ⟨⟨x.own, x.age, x.opts, x.recs, [.tup [.int 1, .str "a", .str "z", .str "z", .tup []]]⟩, l2, ⟨hg.own, hg.age0, hg.age1, hg.opts, hg.recs, fresh4 hw⟩, Ap_at (n := 8) hg.all 4 rfl rfl (Ap_len (n := 7) hg.acts (by rw [hn]; simp)), B2.mono (by omega), eq_of_wpF ?_⟩

      simp [F__law_bent_once, wpF_mk, m__law_bent_once, wpF_of e1, wp_of key, wpF_of e2, upds, Pts.d, hz']
    · have hp := List.length_pos_iff.mpr hn
      obtain ⟨k, l2, k0, k1, B2, e2⟩ := take_ok (n := (x.acts.length : Int)) B1 (by omega) (by omega) (by omega)
      obtain ⟨d, hd, hk, ha⟩ := at_row k0 k1
      obtain ⟨v, l3, v0, v1, B3, e3⟩ := take_ok (n := 2) B2 (by omega) (by decide) (by decide)
      obtain ⟨rows', n1, n2, n3, e4⟩ := near_ok hrw (by omega) k0 hk
      obtain ⟨m1, m2⟩ := rest_ok hrw k0 k1
      have c1 := cutL_to x.acts k.toNat (by omega : k = ((k.toNat : Nat) : Int))
      have c2 := cutL_from x.acts (k.toNat + 1) (by omega : k + 1 = ((k.toNat + 1 : Nat) : Int))
      have q1 : min k.toNat x.acts.length + (x.acts.length - (k.toNat + 1)) ≤ 1000000 := by omega
      have hv : v = 0 ∨ v = 1 := by omega
      rcases hv with rfl | rfl
      · refine ⟨⟨x.own, x.age, x.opts, x.recs, x.acts.take k.toNat ++ x.acts.drop (k.toNat + 1)⟩, l3, ⟨hg.own, hg.age0, hg.age1, hg.opts, hg.recs, m1⟩, Ap_at (n := 8) hg.all 4 rfl rfl m2, B3.mono (by omega), eq_of_wpF ?_⟩
        simp [F__law_bent_once, wpF_mk, m__law_bent_once, wpF_of e1, wpF_of e2, wpF_of e3, wpF_of e4, upds, Pts.d, hz, hn, ha, c1, c2, q1, m01]
      · refine ⟨⟨x.own, x.age, x.opts, x.recs, rows'⟩, l3, ⟨hg.own, hg.age0, hg.age1, hg.opts, hg.recs, n1⟩, Ap_at (n := 8) hg.all 4 rfl rfl n3, B3.mono (by omega), eq_of_wpF ?_⟩
        simp [F__law_bent_once, wpF_mk, m__law_bent_once, wpF_of e1, wpF_of e2, wpF_of e3, wpF_of e4, upds, Pts.d, hz, hn, ha, c1, c2, q1, m01]
end My
namespace My
open PySem PySem.Spec PyProof.Rows L2 Vs
/-- the five fields of a face -/
structure Fc where
  a0 : D
  a1 : D
  a2 : D
  a3 : D
  a4 : D
def Fc.fl (x : Fc) : List (Str × D) := [("name", x.a0), ("edition", x.a1), ("choices", x.a2), ("records", x.a3), ("calls", x.a4)]
def Fc.ds (x : Fc) : List D := [x.a0, x.a1, x.a2, x.a3, x.a4]
def Pts.f (x : Pts) : Fc := ⟨.str x.own, .int x.age, .tup x.opts, .tup x.recs, .tup x.acts⟩
theorem fl_name (x : Fc) : List.lookup (Str.ofString "name") x.fl = some x.a0 := rfl
theorem fl_edition (x : Fc) : List.lookup (Str.ofString "edition") x.fl = some x.a1 := rfl
theorem fl_choices (x : Fc) : List.lookup (Str.ofString "choices") x.fl = some x.a2 := rfl
theorem fl_records (x : Fc) : List.lookup (Str.ofString "records") x.fl = some x.a3 := rfl
theorem fl_calls (x : Fc) : List.lookup (Str.ofString "calls") x.fl = some x.a4 := rfl
theorem fl_parts (x : Fc) : List.lookup (Str.ofString "parts") x.fl = none := rfl
theorem parts_sh (x : Fc) : F_Face_parts [.sh (.ins "Face" x.fl)] [] [] = some (.ok (.sh (.tup x.ds)) [] []) := rfl
theorem parts_pt (x : Fc) : F_Face_parts [.pt 0] [.oi "Face" x.fl] [] = some (.ok (.sh (.tup x.ds)) [.oi "Face" x.fl] []) := rfl
theorem made_face_ok (x : Pts) : F__law_made_face [.sh x.d] [] [] = some (.ok (.oi "Face" x.f.fl) [] []) := rfl
theorem eq_ss {x y : Fc} {v : Bool} (e : eqD (.tup x.ds) (.tup y.ds) = some v) : F_Face___eq__ [.sh (.ins "Face" x.fl), .sh (.ins "Face" y.fl)] [] [] = some (.ok (.sh (.bl v)) [] []) := by
  refine eq_of_wpF ?_
  simp [F_Face___eq__, wpF_mk, m_Face___eq__, wpF_of (parts_sh x), wpF_of (parts_sh y), fl_parts, e]
theorem eq_sp {x y : Fc} {v : Bool} (e : eqD (.tup x.ds) (.tup y.ds) = some v) : F_Face___eq__ [.sh (.ins "Face" x.fl), .pt 0] [.oi "Face" y.fl] [] = some (.ok (.sh (.bl v)) [.oi "Face" y.fl] []) := by
  refine eq_of_wpF ?_
  simp [F_Face___eq__, wpF_mk, m_Face___eq__, wpF_of (parts_sh x), wpF_of (parts_pt y), fl_parts, e, upds]
theorem eq_ps {x y : Fc} {v : Bool} (e : eqD (.tup x.ds) (.tup y.ds) = some v) : F_Face___eq__ [.pt 0, .sh (.ins "Face" y.fl)] [.oi "Face" x.fl] [] = some (.ok (.sh (.bl v)) [.oi "Face" x.fl] []) := by
  refine eq_of_wpF ?_
  simp [F_Face___eq__, wpF_mk, m_Face___eq__, wpF_of (parts_sh y), wpF_of (parts_pt x), fl_parts, e, upds]
theorem eq_odd {x : Fc} {d : D} {T : String} (hd : tyD d = some T) : F_Face___eq__ [.sh (.ins "Face" x.fl), .sh d] [] [] = some (.ok (.sh (.bl false)) [] []) := by
  cases d <;> first | rfl | cases hd
theorem emp_app (a : Str) : Str.empty ++ a = a := by
  show (⟨#[] ++ a.cps⟩ : Str) = a
  rw [Array.empty_append]
theorem emp_len : Str.empty.length = 0 := rfl
theorem repr_ok {x : Fc} {w : Str} {k : Int} (h0 : x.a0 = .str w) (h1 : x.a1 = .int k) (hw : w.length ≤ 100) (k0 : 0 ≤ k) (k1 : k ≤ 1000) :
    F_Face___repr__ [.sh (.ins "Face" x.fl)] [] [] = some (.ok (.sh (.str ((((Str.ofString "Face(" ++ w) ++ " ") ++ strI k) ++ ")"))) [] []) := by
  have hlog : k.natAbs.log2 < 1920 := Nat.lt_trans (log2_lt (k := 64) (by omega) (by decide)) (by decide)
  have hlen := strI_len100 (n := k) k0 (by omega)
  have l1 : (Str.ofString "Face(").length = 5 := rfl
  have l2 : (Str.ofString ")").length = 1 := rfl
  have l3 : (Str.ofString " ").length = 1 := rfl
  have hwl : w.length ≤ 1000000 := by omega
  have c1 : 5 + w.length ≤ 1000000 := by omega
  have c2 : 5 + w.length + 1 ≤ 1000000 := by omega
  have c3 : 5 + w.length + 1 + (strI k).length ≤ 1000000 := by omega
  have c4 : 5 + w.length + 1 + (strI k).length + 1 ≤ 1000000 := by omega
  refine eq_of_wpF ?_
  simp [F_Face___repr__, wpF_mk, m_Face___repr__, fl_name, fl_edition, h0, h1, hlog, hwl, str_len_app, emp_app, emp_len, l1, l2, l3, c1, c2, c3, c4]
theorem fields_ok {x : Fc} {ds rs : List D} {k : Int} (e : eqD (.tup x.ds) (.tup ds) = some true) (h1 : x.a1 = .int k) (h3 : x.a3 = .tup rs) : F__law_fields_right [.sh (.ins "Face" x.fl), .sh (.tup ds)] [] [] = some (.ok (.sh (.bl true)) [] []) := by
  refine eq_of_wpF ?_
  unfold Fc.ds at e
  simp [F__law_fields_right, wpF_mk, m__law_fields_right, fl_name, fl_edition, fl_choices, fl_records, fl_calls, e]
  simp [h1, h3, fl_records]
end My
namespace My
open PySem PySem.Spec PyProof.Rows L2 Vs
theorem init_ok (x : Fc) : F_Face___init__ [.pt 0, .sh x.a0, .sh x.a1, .sh x.a2, .sh x.a3, .sh x.a4] [.oi "Face" []] [] = some (.ok (.sh .non) [.oi "Face" x.fl] []) := rfl
theorem Pts.Gd.allf {x : Pts} (h : x.Gd) : ∀ d ∈ x.f.ds, good 8 d := h.all
theorem made_anew_ok {x : Pts} (h : x.Ok) : ∃ y : Fc, y.a0 = .str x.own ∧ y.a1 = .int x.age ∧ y.a3 = .tup x.recs ∧ (∀ d ∈ y.ds, good 8 d) ∧ toP (.tup y.ds) = toP (.tup x.f.ds) ∧
    F__law_made_anew [.sh x.d] [] [] = some (.ok (.oi "Face" y.fl) [] []) := by
  have hg := h.gd
  have z1 := nilT hg.opts (by decide)
  have z2 := nilT hg.acts (by decide)
  have ct : ∀ n, good n (.ct []) → good 8 (.ct []) := fun n _ => (good_ct (n := 7) (ds := []) (by simp))
  have gc : good 8 (.ct []) := good_ct (n := 7) (ds := []) (by simp)
  by_cases ha : x.acts = []
  · have z2' : eqD (.tup x.acts) (.tup []) = some true := by rw [z2]; simp [ha]
    by_cases ho : x.opts = []
    · have z1' : eqD (.tup x.opts) (.tup []) = some true := by rw [z1]; simp [ho]
      refine ⟨⟨.str x.own, .int x.age, .ct [], .tup x.recs, .ct []⟩, rfl, rfl, rfl, ?_, ?_, ?_⟩
      · intro d hd
        unfold Fc.ds at hd
        simp at hd
        rcases hd with rfl | rfl | rfl | rfl | rfl
        · exact good_str hg.own.1
        · exact good_int _
        · exact gc
        · exact good_tup hg.recs
        · exact gc
      · simp [Fc.ds, Pts.f, toP, toPs, ha, ho]
      · refine eq_of_wpF ?_
        simp [F__law_made_anew, wpF_mk, m__law_made_anew, Pts.d, z1', z2', permD, permG, pick, wp_mkCall, wpF_of (init_ok ⟨.str x.own, .int x.age, .ct [], .tup x.recs, .ct []⟩)]
    · have z1' : eqD (.tup x.opts) (.tup []) = some false := by rw [z1]; simp [ho]
      refine ⟨⟨.str x.own, .int x.age, .tup x.opts, .tup x.recs, .ct []⟩, rfl, rfl, rfl, ?_, ?_, ?_⟩
      · intro d hd
        unfold Fc.ds at hd
        simp at hd
        rcases hd with rfl | rfl | rfl | rfl | rfl
        · exact good_str hg.own.1
        · exact good_int _
        · exact good_tup hg.opts
        · exact good_tup hg.recs
        · exact gc
      · simp [Fc.ds, Pts.f, toP, toPs, ha]
      · refine eq_of_wpF ?_
        simp [F__law_made_anew, wpF_mk, m__law_made_anew, Pts.d, z1', z2', permD, permG, pick, wp_mkCall, wpF_of (init_ok ⟨.str x.own, .int x.age, .tup x.opts, .tup x.recs, .ct []⟩)]
  · have z2' : eqD (.tup x.acts) (.tup []) = some false := by rw [z2]; simp [ha]
    refine ⟨x.f, rfl, rfl, rfl, hg.allf, rfl, eq_of_wpF ?_⟩
    by_cases ho : x.opts = []
    · have z1' : eqD (.tup x.opts) (.tup []) = some true := by rw [z1]; simp [ho]
      simp [F__law_made_anew, wpF_mk, m__law_made_anew, Pts.d, z1', z2', permD, permG, pick, wp_mkCall, wpF_of (init_ok ⟨.str x.own, .int x.age, .tup x.opts, .tup x.recs, .tup x.acts⟩), Pts.f]
    · have z1' : eqD (.tup x.opts) (.tup []) = some false := by rw [z1]; simp [ho]
      simp [F__law_made_anew, wpF_mk, m__law_made_anew, Pts.d, z1', z2', permD, permG, pick, wp_mkCall, wpF_of (init_ok ⟨.str x.own, .int x.age, .tup x.opts, .tup x.recs, .tup x.acts⟩), Pts.f]
end My
namespace My
open PySem PySem.Spec PyProof.Rows L2 Vs
theorem parts_qt (x : Fc) : F_Face_parts [.pt 0] [.sh (.ins "Face" x.fl)] [] = some (.ok (.sh (.tup x.ds)) [.sh (.ins "Face" x.fl)] []) := rfl
theorem eq_qs {x y : Fc} {v : Bool} (e : eqD (.tup x.ds) (.tup y.ds) = some v) : F_Face___eq__ [.pt 0, .sh (.ins "Face" y.fl)] [.sh (.ins "Face" x.fl)] [] = some (.ok (.sh (.bl v)) [.sh (.ins "Face" x.fl)] []) := by
  refine eq_of_wpF ?_
  simp [F_Face___eq__, wpF_mk, m_Face___eq__, wpF_of (parts_sh y), wpF_of (parts_qt x), fl_parts, e, upds]
def words (w : Str) (k : Int) : Str := (((Str.ofString "Face(" ++ w) ++ " ") ++ strI k) ++ ")"
theorem b0_turn {f : Fc} {p : Pts} {x0 x1 x2 x3 x4 x5 x6 x7 x8 x9 x12 : Option Vl} {J : List O} (h0 : f.a0 = .str p.own) (h1 : f.a1 = .int p.age) (h3 : f.a3 = .tup p.recs) (e : eqD (.tup f.ds) (.tup p.ds) = some true) (hp : p.Gd) (Q : Fl → S → Prop)
    (hQ : ∀ x12 : Option Vl, Q .nx ⟨[x0, x1, x2, x3, x4, x5, x6, x7, x8, x9, some (.sh (.ins "Face" f.fl)), some (.sh p.d), x12], J, []⟩) :
    wp m_law_b0 ⟨[x0, x1, x2, x3, x4, x5, x6, x7, x8, x9, some (.sh (.ins "Face" f.fl)), some (.sh p.d), x12], J, []⟩ Q noE := by
  have k0 := hp.age0
  have k1 := hp.age1
  have hw := hp.own.2
  have e1 := fields_ok e h1 h3
  have e2 := repr_ok h0 h1 hw k0 k1
  have hlog : p.age.natAbs.log2 < 1920 := Nat.lt_trans (log2_lt (k := 64) (by omega) (by decide)) (by decide)
  have hlen := strI_len100 (n := p.age) k0 (by omega)
  have l1 : (Str.ofString "Face(").length = 5 := rfl
  have l2 : (Str.ofString ")").length = 1 := rfl
  have l3 : (Str.ofString " ").length = 1 := rfl
  have c1 : 5 + p.own.length ≤ 1000000 := by omega
  have c2 : 5 + p.own.length + 1 ≤ 1000000 := by omega
  have c3 : 5 + p.own.length + 1 + (strI p.age).length ≤ 1000000 := by omega
  have c4 : 5 + p.own.length + 1 + (strI p.age).length + 1 ≤ 1000000 := by omega
  unfold Pts.d Pts.ds at *
  simp [m_law_b0, hlog, str_len_app, l1, l2, l3, c1, c2, c3, c4, wpF_of e1, wpF_of e2]
  exact hQ _
end My
namespace My
open PySem PySem.Spec PyProof.Rows L2 Vs
theorem eqT5 : eqD (.lst [.bl true, .bl true, .bl true, .bl true, .bl true]) (.lst [.bl true, .bl true, .bl true, .bl true, .bl true]) = some true := rfl
theorem eqF4 : eqD (.lst [.bl false, .bl false, .bl false, .bl false]) (.lst [.bl false, .bl false, .bl false, .bl false]) = some true := rfl
theorem law_turn {ns : List Int} {k : Int} {J : List O} {x2 x3 x4 x5 x6 x7 x8 x9 x10 x11 x12 : Option Vl} (h0 : 0 ≤ k) (h1 : k < 1000) (Q : Fl → S → Prop)
    (hQ : ∀ (J : List O) (x2 x3 x4 x5 x6 x7 x8 x9 x10 x11 x12 : Option Vl), Q .nx ⟨[some (.sh (.rl (ns.map .int))), some (.sh (.int k)), x2, x3, x4, x5, x6, x7, x8, x9, x10, x11, x12], J, []⟩) :
    wp m_law_b2 ⟨[some (.sh (.rl (ns.map .int))), some (.sh (.int k)), x2, x3, x4, x5, x6, x7, x8, x9, x10, x11, x12], J, []⟩ Q noE := by
  obtain ⟨l0, B0, e0⟩ := bag_ok (ns := ns) h0 h1
  obtain ⟨x, l1, hx, B1, e1⟩ := all_ok B0 (by decide)
  obtain ⟨y, l2, hy, hap, B2, e2⟩ := bent_ok B1 (by decide) hx
  obtain ⟨t, l3, t0, t1, B3, e3⟩ := take_ok (n := 7) B2 (by decide) (by decide) (by decide)
  obtain ⟨z, z0, z1, z3, zg, zt, m1⟩ := made_anew_ok hx
  have gx := hx.gd
  have m0 := made_face_ok x
  have m2 := made_face_ok y
  have dxz : eqD (.tup x.f.ds) (.tup z.ds) = some true := by
    rw [eqD_good (good_tup gx.allf) (good_tup zg) (by decide)]; simp [zt]
  have dzx : eqD (.tup z.ds) (.tup x.f.ds) = some true := by
    rw [eqD_good (good_tup zg) (good_tup gx.allf) (by decide)]; simp [zt]
  have dxy : eqD (.tup x.f.ds) (.tup y.f.ds) = some false := by
    rw [eqD_good (good_tup gx.allf) (good_tup hy.allf) (by decide)]
    have : ¬ toP (.tup x.f.ds) = toP (.tup y.f.ds) := hap.2
    simp [this]
  have dyx : eqD (.tup y.f.ds) (.tup x.f.ds) = some false := by
    rw [eqD_good (good_tup hy.allf) (good_tup gx.allf) (by decide)]
    have : ¬ toP (.tup y.f.ds) = toP (.tup x.f.ds) := fun e => hap.2 e.symm
    simp [this]
  have dyz : eqD (.tup y.f.ds) (.tup z.ds) = some false := by
    rw [eqD_good (good_tup hy.allf) (good_tup zg) (by decide)]
    have : ¬ toP (.tup y.f.ds) = toP (.tup z.ds) := fun e => hap.2 (e.trans zt).symm
    simp [this]
  have q1 := eq_ss dxz
  have q2 := eq_ss dzx
  have q3 := eq_sp dxy
  have q4 := eq_ps dyx
  have q5 := eq_ss dyx
  have q6 := eq_qs dyz
  have ap : apartP y.f.fl x.f.fl = true := hap.1.2
  obtain ⟨d, T, eod, hty0, hpl⟩ : ∃ (d : D) (T : String), atI [D.non, x.d, .lst x.ds, .str "Face", .str x.own, .int 1, .tup []] t = some d ∧ tyD d = some T ∧ isPl d = true := by
    have : t = 0 ∨ t = 1 ∨ t = 2 ∨ t = 3 ∨ t = 4 ∨ t = 5 ∨ t = 6 := by omega
    rcases this with rfl | rfl | rfl | rfl | rfl | rfl | rfl
    · exact ⟨_, _, rfl, rfl, rfl⟩
    · exact ⟨_, _, rfl, rfl, rfl⟩
    · exact ⟨_, _, rfl, rfl, rfl⟩
    · exact ⟨_, _, rfl, rfl, rfl⟩
    · exact ⟨_, _, rfl, rfl, rfl⟩
    · exact ⟨_, _, rfl, rfl, rfl⟩
    · exact ⟨_, _, rfl, rfl, rfl⟩
  have hty : (tyD d).isSome = true := by rw [hty0]; rfl
  have od := eq_odd (x := x.f) hty0
  have hsq : seqD x.d = some x.ds := rfl
  have hix : fIx x.d (.int 0) = some (.sh (.str x.own)) := rfl
  have hs4 : small62 4 = true := by decide
  have hs5 : small62 5 = true := by decide
  simp [m_law_b2, wpF_of e0, wpF_of e1, wpF_of e2, wpF_of m0, wpF_of m1, wpF_of m2, hsq, hix, wpF_of e3, eod, upds, wpF_of q1, wpF_of q2]
  refine wp_inA1 ?_
  simp [wpF_of q2]
  refine wp_mPairO ?_
  simp [wpF_of q1, eqT5, hs5, List.replicate, wpF_of q3, wpF_of q4, upds]
  refine wp_inA1 ?_
  simp [wpF_of q5, ap, wpF_of q6, upds, eqF4, hs4, List.replicate, wpF_of od, sideD_l hty, sideD_r hty]
  refine wp_inA2 ?_
  simp [wpF_of od, hpl]
  simp [m_law_l0, wp_loopF_cons, wp_loopF_nil]
  have dxx : eqD (.tup x.f.ds) (.tup x.ds) = some true := by
    rw [eqD_good (good_tup gx.allf) (good_tup gx.all) (by decide)]; simp [show x.f.ds = x.ds from rfl]
  have dzx' : eqD (.tup z.ds) (.tup x.ds) = some true := dzx
  have dyy : eqD (.tup y.f.ds) (.tup y.ds) = some true := by
    rw [eqD_good (good_tup hy.allf) (good_tup hy.all) (by decide)]; simp [show y.f.ds = y.ds from rfl]
  refine b0_turn rfl rfl rfl dxx gx _ fun x12 => ?_
  simp [wp_loopF_cons, wp_loopF_nil]
  refine b0_turn z0 z1 z3 dzx' gx _ fun x12 => ?_
  simp [wp_loopF_cons, wp_loopF_nil]
  refine b0_turn rfl rfl rfl dyy hy _ fun x12 => ?_
  simp [wp_loopF_nil]
  exact hQ _ _ _ _ _ _ _ _ _ _ _ _
theorem rgL_mem {n : Nat} {d : D} (h : d ∈ rgL 0 n) : ∃ k : Int, 0 ≤ k ∧ k < n ∧ d = .int k := by
  unfold rgL at h
  obtain ⟨i, hi, rfl⟩ := List.mem_map.mp h
  exact ⟨0 + (i : Nat), by omega, by have := List.mem_range.mp hi; omega, rfl⟩
theorem maxmin {n m : Int} (hn : 0 ≤ n) (hm : 0 ≤ m) (hm2 : m < 1000) : small62 (if (if n < m then n else m) > 1 then (if n < m then n else m) else 1) = true ∧ (if (if n < m then n else m) > 1 then (if n < m then n else m) else 1).toNat ≤ 1000 := by
  refine ⟨small_of0 ?_ ?_, ?_⟩ <;> split <;> split <;> omega
theorem law_run (ns : List Int) : F_law [.sh (.rl (ns.map D.int))] [] [] = some (.ok (.sh (.bl true)) [] []) := by
  obtain ⟨h1, h2⟩ := maxmin (n := (ns.length : Nat)) (m := 8) (by omega) (by decide) (by decide)
  obtain ⟨I, hI⟩ : ∃ I : List D → S → Prop, ∀ r s, I r s ↔ ∃ (J : List O) (x1 x2 x3 x4 x5 x6 x7 x8 x9 x10 x11 x12 : Option Vl), (∀ d ∈ r, ∃ k : Int, 0 ≤ k ∧ k < 1000 ∧ d = .int k) ∧ s = ⟨[some (.sh (.rl (ns.map .int))), x1, x2, x3, x4, x5, x6, x7, x8, x9, x10, x11, x12], J, []⟩ := ⟨_, fun _ _ => Iff.rfl⟩
  refine eq_of_wpF ?_
  simp [F_law, wpF_mk, m_law, m_law_l2]
  simp at h1 h2
  simp [h1]
  refine wp_loop I ?_ ?_ _ _ ((hI _ _).mpr ⟨[], none, none, none, none, none, none, none, none, none, none, none, none, fun d hd => ?_, rfl⟩)
  · intro d r s h
    obtain ⟨J, x1, x2, x3, x4, x5, x6, x7, x8, x9, x10, x11, x12, hd, rfl⟩ := (hI _ _).mp h
    obtain ⟨k, k0, k1, rfl⟩ := hd d List.mem_cons_self
    simp
    refine law_turn k0 k1 _ fun J x2 x3 x4 x5 x6 x7 x8 x9 x10 x11 x12 => ?_
    exact (hI _ _).mpr ⟨J, _, _, _, _, _, _, _, _, _, _, _, _, fun d h => hd d (List.mem_cons_of_mem _ h), rfl⟩
  · intro s h
    obtain ⟨J, x1, x2, x3, x4, x5, x6, x7, x8, x9, x10, x11, x12, hd, rfl⟩ := (hI _ _).mp h
    simp
  · obtain ⟨k, k0, k1, rfl⟩ := rgL_mem hd
    exact ⟨k, k0, by omega, rfl⟩
theorem law_true : ∀ ns : List Int, ns.length ≤ 63 → (∀ z ∈ ns, Builtin.Int.intBits z ≤ 1048576) → F_law [.sh (.rl (ns.map D.int))] [] [] = some (.ok (.sh (.bl true)) [] []) := fun ns _ _ => law_run ns
end My
namespace My
open PySem PySem.Spec PyProof.Rows L2 Vs
def d_Face___init__ : He.DefD := ⟨("Face", some "__init__"), "__init__", "Face.__init__", defArgs s_Face___init__, defBody s_Face___init__, defScope s_Face___init__, [], [("choices", .adr (kwAt ("Face", some "__init__") "choices")), ("records", .adr (kwAt ("Face", some "__init__") "records")), ("calls", .adr (kwAt ("Face", some "__init__") "calls"))]⟩
def d_Face_parts : He.DefD := ⟨("Face", some "parts"), "parts", "Face.parts", defArgs s_Face_parts, defBody s_Face_parts, defScope s_Face_parts, [], []⟩
def d_Face___eq__ : He.DefD := ⟨("Face", some "__eq__"), "__eq__", "Face.__eq__", defArgs s_Face___eq__, defBody s_Face___eq__, defScope s_Face___eq__, [], []⟩
def d_Face___repr__ : He.DefD := ⟨("Face", some "__repr__"), "__repr__", "Face.__repr__", defArgs s_Face___repr__, defBody s_Face___repr__, defScope s_Face___repr__, [], []⟩
def d__law_bag : He.DefD := ⟨("_law_bag", none), "_law_bag", "_law_bag", defArgs s__law_bag, defBody s__law_bag, defScope s__law_bag, [], []⟩
def d__law_take : He.DefD := ⟨("_law_take", none), "_law_take", "_law_take", defArgs s__law_take, defBody s__law_take, defScope s__law_take, [], []⟩
def d__law_drawn_name : He.DefD := ⟨("_law_drawn_name", none), "_law_drawn_name", "_law_drawn_name", defArgs s__law_drawn_name, defBody s__law_drawn_name, defScope s__law_drawn_name, [], []⟩
def d__law_unlike_names : He.DefD := ⟨("_law_unlike_names", none), "_law_unlike_names", "_law_unlike_names", defArgs s__law_unlike_names, defBody s__law_unlike_names, defScope s__law_unlike_names, [], []⟩
def d__law_rising : He.DefD := ⟨("_law_rising", none), "_law_rising", "_law_rising", defArgs s__law_rising, defBody s__law_rising, defScope s__law_rising, [], []⟩
def d__law_pick : He.DefD := ⟨("_law_pick", none), "_law_pick", "_law_pick", defArgs s__law_pick, defBody s__law_pick, defScope s__law_pick, [], []⟩
def d__law_kind_drawn : He.DefD := ⟨("_law_kind_drawn", none), "_law_kind_drawn", "_law_kind_drawn", defArgs s__law_kind_drawn, defBody s__law_kind_drawn, defScope s__law_kind_drawn, [], []⟩
def d__law_unlike : He.DefD := ⟨("_law_unlike", none), "_law_unlike", "_law_unlike", defArgs s__law_unlike, defBody s__law_unlike, defScope s__law_unlike, [], []⟩
def d__law_form_drawn : He.DefD := ⟨("_law_form_drawn", none), "_law_form_drawn", "_law_form_drawn", defArgs s__law_form_drawn, defBody s__law_form_drawn, defScope s__law_form_drawn, [], []⟩
def d__law_deed_drawn : He.DefD := ⟨("_law_deed_drawn", none), "_law_deed_drawn", "_law_deed_drawn", defArgs s__law_deed_drawn, defBody s__law_deed_drawn, defScope s__law_deed_drawn, [], []⟩
def d__law_acts_drawn : He.DefD := ⟨("_law_acts_drawn", none), "_law_acts_drawn", "_law_acts_drawn", defArgs s__law_acts_drawn, defBody s__law_acts_drawn, defScope s__law_acts_drawn, [], []⟩
def d__law_all_drawn : He.DefD := ⟨("_law_all_drawn", none), "_law_all_drawn", "_law_all_drawn", defArgs s__law_all_drawn, defBody s__law_all_drawn, defScope s__law_all_drawn, [], []⟩
def d__law_made_face : He.DefD := ⟨("_law_made_face", none), "_law_made_face", "_law_made_face", defArgs s__law_made_face, defBody s__law_made_face, defScope s__law_made_face, [], []⟩
def d__law_made_anew : He.DefD := ⟨("_law_made_anew", none), "_law_made_anew", "_law_made_anew", defArgs s__law_made_anew, defBody s__law_made_anew, defScope s__law_made_anew, [], []⟩
def d__law_one_more : He.DefD := ⟨("_law_one_more", none), "_law_one_more", "_law_one_more", defArgs s__law_one_more, defBody s__law_one_more, defScope s__law_one_more, [], []⟩
def d__law_near : He.DefD := ⟨("_law_near", none), "_law_near", "_law_near", defArgs s__law_near, defBody s__law_near, defScope s__law_near, [], []⟩
def d__law_bent_once : He.DefD := ⟨("_law_bent_once", none), "_law_bent_once", "_law_bent_once", defArgs s__law_bent_once, defBody s__law_bent_once, defScope s__law_bent_once, [], []⟩
def d__law_fields_right : He.DefD := ⟨("_law_fields_right", none), "_law_fields_right", "_law_fields_right", defArgs s__law_fields_right, defBody s__law_fields_right, defScope s__law_fields_right, [], []⟩
def d_law : He.DefD := ⟨("law", none), "law", "law", defArgs s_law, defBody s_law, defScope s_law, [], []⟩
def fn : List He.DefD := [d_Face___init__, d_Face_parts, d_Face___eq__, d_Face___repr__, d__law_bag, d__law_take, d__law_drawn_name, d__law_unlike_names, d__law_rising, d__law_pick, d__law_kind_drawn, d__law_unlike, d__law_form_drawn, d__law_deed_drawn, d__law_acts_drawn, d__law_all_drawn, d__law_made_face, d__law_made_anew, d__law_one_more, d__law_near, d__law_bent_once, d__law_fields_right, d_law]
def fa : List He.Fa := [.free "abs", .free "bool", .free "dict", .free "int", .free "isinstance", .free "len", .free "list", .free "max", .free "min", .free "range", .free "repr", .free "sorted", .free "str", .free "tuple", .free "zip", .cls "Face", .glo "Face", .glo "_law_acts_drawn", .glo "_law_all_drawn", .glo "_law_bag", .glo "_law_bent_once", .glo "_law_deed_drawn", .glo "_law_drawn_name", .glo "_law_fields_right", .glo "_law_form_drawn", .glo "_law_kind_drawn", .glo "_law_made_anew", .glo "_law_made_face", .glo "_law_near", .glo "_law_one_more", .glo "_law_pick", .glo "_law_rising", .glo "_law_take", .glo "_law_unlike", .glo "_law_unlike_names", .meth "Face" "__eq__", .meth "Face" "__repr__", .meth "Face" "parts", .mkr "Face", .noat "Face" "calls", .noat "Face" "choices", .noat "Face" "edition", .noat "Face" "name", .noat "Face" "records", .glo "law"]
def ex : List (PySem.W.Frag → Bool) := [empB (kwAt ("Face", some "__init__") "calls"), empB (kwAt ("Face", some "__init__") "choices"), eqcB "Face", isicB "Face"]
abbrev R : PySem.W.OpenRow := PySem.W.OpenLaw.row PySem.Challenge.rw_facehouse_k01_faces_made_and_equal
abbrev hk : PySem.W.Hook := hookX 6 fa fn ex
def ob (s : PySem.W.SharedT) : He.AlD × Bool := obsX 6 fa fn ex (HandSHeadRun.getT s)
theorem ob_eq (s : PySem.W.SharedT) : ob s = hk.obs s.abs := obsX_eq (HandSHeadRun.getT_eq s)
theorem run (w : World) : HandSHeadRun.RunEq R (PySem.W.view R.prog [22]) hk ob 4000 ["_wall", "Face", "_law_bag", "_law_take", "_law_drawn_name", "_law_unlike_names", "_law_rising", "_law_pick", "_law_kind_drawn", "_law_form_drawn", "_law_unlike", "_law_deed_drawn", "_law_acts_drawn", "_law_all_drawn", "_law_made_face", "_law_made_anew", "_law_bent_once", "_law_near", "_law_one_more", "_law_fields_right"] w := by
  intro os
  kernel_rfl
theorem facts {P : Program} {w : World} {K : PySem.W.Frag} {h : Heap} {mg : Str → Option Value} {f : Addr} (X : K.In h) (G : h.Ns mainGlobals mg) (hfa : mg ("law" : Str) = some (.ref f)) (c : SaysX fa fn ex K) :
    ∃ fd : FuncData, (∀ (s : Shared) (v : Value), BindsTo s fd ⟨[v], []⟩ [("_law_script", v)]) ∧ ∀ base : Heap, K.In base → base.Ns mainGlobals mg → FnOk P w K mg base (L2.CX P w) 7 f fd ["_law_script"] (spOf K 1 F_law) := by
  have T : Tx K mg := ⟨He.free_ok X G (c.d.fact 0 (f := .free "abs") rfl), He.free_ok X G (c.d.fact 1 (f := .free "bool") rfl), He.free_ok X G (c.d.fact 2 (f := .free "dict") rfl), He.free_ok X G (c.d.fact 3 (f := .free "int") rfl), He.free_ok X G (c.d.fact 4 (f := .free "isinstance") rfl), He.free_ok X G (c.d.fact 5 (f := .free "len") rfl), He.free_ok X G (c.d.fact 6 (f := .free "list") rfl), He.free_ok X G (c.d.fact 7 (f := .free "max") rfl), He.free_ok X G (c.d.fact 8 (f := .free "min") rfl), He.free_ok X G (c.d.fact 9 (f := .free "range") rfl), He.free_ok X G (c.d.fact 10 (f := .free "repr") rfl), He.free_ok X G (c.d.fact 11 (f := .free "sorted") rfl), He.free_ok X G (c.d.fact 12 (f := .free "str") rfl), He.free_ok X G (c.d.fact 13 (f := .free "tuple") rfl), He.free_ok X G (c.d.fact 14 (f := .free "zip") rfl), He.cls_ok (c.d.fact 15 (f := .cls "Face") rfl), empB_ok (c.ex 0 rfl), empB_ok (c.ex 1 rfl), eqc_ok (c.ex 2 rfl), isic_ok (He.cls_ok (c.d.fact 15 rfl)) (c.ex 3 rfl), He.glo_ok X G (c.d.fact 16 (f := .glo "Face") rfl), He.glo_ok X G (c.d.fact 17 (f := .glo "_law_acts_drawn") rfl), He.glo_ok X G (c.d.fact 18 (f := .glo "_law_all_drawn") rfl), He.glo_ok X G (c.d.fact 19 (f := .glo "_law_bag") rfl), He.glo_ok X G (c.d.fact 20 (f := .glo "_law_bent_once") rfl), He.glo_ok X G (c.d.fact 21 (f := .glo "_law_deed_drawn") rfl), He.glo_ok X G (c.d.fact 22 (f := .glo "_law_drawn_name") rfl), He.glo_ok X G (c.d.fact 23 (f := .glo "_law_fields_right") rfl), He.glo_ok X G (c.d.fact 24 (f := .glo "_law_form_drawn") rfl), He.glo_ok X G (c.d.fact 25 (f := .glo "_law_kind_drawn") rfl), He.glo_ok X G (c.d.fact 26 (f := .glo "_law_made_anew") rfl), He.glo_ok X G (c.d.fact 27 (f := .glo "_law_made_face") rfl), He.glo_ok X G (c.d.fact 28 (f := .glo "_law_near") rfl), He.glo_ok X G (c.d.fact 29 (f := .glo "_law_one_more") rfl), He.glo_ok X G (c.d.fact 30 (f := .glo "_law_pick") rfl), He.glo_ok X G (c.d.fact 31 (f := .glo "_law_rising") rfl), He.glo_ok X G (c.d.fact 32 (f := .glo "_law_take") rfl), He.glo_ok X G (c.d.fact 33 (f := .glo "_law_unlike") rfl), He.glo_ok X G (c.d.fact 34 (f := .glo "_law_unlike_names") rfl), He.meth_ok (c.d.fact 35 (f := .meth "Face" "__eq__") rfl), He.meth_ok (c.d.fact 36 (f := .meth "Face" "__repr__") rfl), He.meth_ok (c.d.fact 37 (f := .meth "Face" "parts") rfl), He.mkr_ok (c.d.fact 38 (f := .mkr "Face") rfl), He.eqO_ok (c.d.fact 39 (f := .noat "Face" "calls") rfl), He.eqO_ok (c.d.fact 40 (f := .noat "Face" "choices") rfl), He.eqO_ok (c.d.fact 41 (f := .noat "Face" "edition") rfl), He.eqO_ok (c.d.fact 42 (f := .noat "Face" "name") rfl), He.eqO_ok (c.d.fact 43 (f := .noat "Face" "records") rfl)⟩
  obtain ⟨fd_Face___init__, H_Face___init__⟩ := c.d.def_ 0 (d := d_Face___init__) rfl
  obtain ⟨fd_Face_parts, H_Face_parts⟩ := c.d.def_ 1 (d := d_Face_parts) rfl
  obtain ⟨fd_Face___eq__, H_Face___eq__⟩ := c.d.def_ 2 (d := d_Face___eq__) rfl
  obtain ⟨fd_Face___repr__, H_Face___repr__⟩ := c.d.def_ 3 (d := d_Face___repr__) rfl
  obtain ⟨fd__law_bag, H__law_bag⟩ := c.d.def_ 4 (d := d__law_bag) rfl
  obtain ⟨fd__law_take, H__law_take⟩ := c.d.def_ 5 (d := d__law_take) rfl
  obtain ⟨fd__law_drawn_name, H__law_drawn_name⟩ := c.d.def_ 6 (d := d__law_drawn_name) rfl
  obtain ⟨fd__law_unlike_names, H__law_unlike_names⟩ := c.d.def_ 7 (d := d__law_unlike_names) rfl
  obtain ⟨fd__law_rising, H__law_rising⟩ := c.d.def_ 8 (d := d__law_rising) rfl
  obtain ⟨fd__law_pick, H__law_pick⟩ := c.d.def_ 9 (d := d__law_pick) rfl
  obtain ⟨fd__law_kind_drawn, H__law_kind_drawn⟩ := c.d.def_ 10 (d := d__law_kind_drawn) rfl
  obtain ⟨fd__law_unlike, H__law_unlike⟩ := c.d.def_ 11 (d := d__law_unlike) rfl
  obtain ⟨fd__law_form_drawn, H__law_form_drawn⟩ := c.d.def_ 12 (d := d__law_form_drawn) rfl
  obtain ⟨fd__law_deed_drawn, H__law_deed_drawn⟩ := c.d.def_ 13 (d := d__law_deed_drawn) rfl
  obtain ⟨fd__law_acts_drawn, H__law_acts_drawn⟩ := c.d.def_ 14 (d := d__law_acts_drawn) rfl
  obtain ⟨fd__law_all_drawn, H__law_all_drawn⟩ := c.d.def_ 15 (d := d__law_all_drawn) rfl
  obtain ⟨fd__law_made_face, H__law_made_face⟩ := c.d.def_ 16 (d := d__law_made_face) rfl
  obtain ⟨fd__law_made_anew, H__law_made_anew⟩ := c.d.def_ 17 (d := d__law_made_anew) rfl
  obtain ⟨fd__law_one_more, H__law_one_more⟩ := c.d.def_ 18 (d := d__law_one_more) rfl
  obtain ⟨fd__law_near, H__law_near⟩ := c.d.def_ 19 (d := d__law_near) rfl
  obtain ⟨fd__law_bent_once, H__law_bent_once⟩ := c.d.def_ 20 (d := d__law_bent_once) rfl
  obtain ⟨fd__law_fields_right, H__law_fields_right⟩ := c.d.def_ 21 (d := d__law_fields_right) rfl
  obtain ⟨fd_law, H_law⟩ := c.d.def_ 22 (d := d_law) rfl
  have e := hfa.symm.trans (He.glo_ok X G (c.d.fact 44 (f := .glo "law") rfl))
  cases e
  have D_Face_parts : ∀ base, DefAt P w K mg base (He.fAd K ("Face", some "parts")) 1 ["self"] 1 F_Face_parts := fun base => ⟨⟨fd_Face_parts, ok_Face_parts H_Face_parts T, H_Face_parts.bindsN fun _ _ _ _ _ _ us hl => match us, hl with | [_], _ => rfl⟩, H_Face_parts.kp⟩
  have D_Face___eq__ : ∀ base, DefAt P w K mg base (He.fAd K ("Face", some "__eq__")) 2 ["self", "other"] 2 F_Face___eq__ := fun base => ⟨⟨fd_Face___eq__, ok_Face___eq__ H_Face___eq__ T (D_Face_parts base), H_Face___eq__.bindsN fun _ _ _ _ _ _ us hl => match us, hl with | [_, _], _ => rfl⟩, H_Face___eq__.kp⟩
  have D_Face___repr__ : ∀ base, DefAt P w K mg base (He.fAd K ("Face", some "__repr__")) 1 ["self"] 1 F_Face___repr__ := fun base => ⟨⟨fd_Face___repr__, ok_Face___repr__ H_Face___repr__ T, H_Face___repr__.bindsN fun _ _ _ _ _ _ us hl => match us, hl with | [_], _ => rfl⟩, H_Face___repr__.kp⟩
  have D__law_bag : ∀ base, DefAt P w K mg base (He.fAd K ("_law_bag", none)) 1 ["_law_script", "_law_at"] 2 F__law_bag := fun base => ⟨⟨fd__law_bag, ok__law_bag H__law_bag T, H__law_bag.bindsN fun _ _ _ _ _ _ us hl => match us, hl with | [_, _], _ => rfl⟩, H__law_bag.kp⟩
  have D__law_take : ∀ base, DefAt P w K mg base (He.fAd K ("_law_take", none)) 1 ["_law_bag_here", "_law_size"] 2 F__law_take := fun base => ⟨⟨fd__law_take, ok__law_take H__law_take T, H__law_take.bindsN fun _ _ _ _ _ _ us hl => match us, hl with | [_, _], _ => rfl⟩, H__law_take.kp⟩
  have D__law_drawn_name : ∀ base, DefAt P w K mg base (He.fAd K ("_law_drawn_name", none)) 2 ["_law_bag_here"] 1 F__law_drawn_name := fun base => ⟨⟨fd__law_drawn_name, ok__law_drawn_name H__law_drawn_name T (D__law_take base), H__law_drawn_name.bindsN fun _ _ _ _ _ _ us hl => match us, hl with | [_], _ => rfl⟩, H__law_drawn_name.kp⟩
  have D__law_unlike_names : ∀ base, DefAt P w K mg base (He.fAd K ("_law_unlike_names", none)) 3 ["_law_bag_here", "_law_size", "_law_taken"] 3 F__law_unlike_names := fun base => ⟨⟨fd__law_unlike_names, ok__law_unlike_names H__law_unlike_names T (D__law_drawn_name base), H__law_unlike_names.bindsN fun _ _ _ _ _ _ us hl => match us, hl with | [_, _, _], _ => rfl⟩, H__law_unlike_names.kp⟩
  have D__law_rising : ∀ base, DefAt P w K mg base (He.fAd K ("_law_rising", none)) 2 ["_law_bag_here", "_law_size", "_law_most"] 3 F__law_rising := fun base => ⟨⟨fd__law_rising, ok__law_rising H__law_rising T (D__law_take base), H__law_rising.bindsN fun _ _ _ _ _ _ us hl => match us, hl with | [_, _, _], _ => rfl⟩, H__law_rising.kp⟩
  have D__law_pick : ∀ base, DefAt P w K mg base (He.fAd K ("_law_pick", none)) 2 ["_law_bag_here", "_law_pool", "_law_strange"] 3 F__law_pick := fun base => ⟨⟨fd__law_pick, ok__law_pick H__law_pick T (D__law_take base), H__law_pick.bindsN fun _ _ _ _ _ _ us hl => match us, hl with | [_, _, _], _ => rfl⟩, H__law_pick.kp⟩
  have D__law_kind_drawn : ∀ base, DefAt P w K mg base (He.fAd K ("_law_kind_drawn", none)) 3 ["_law_bag_here", "_law_menus", "_law_forms"] 3 F__law_kind_drawn := fun base => ⟨⟨fd__law_kind_drawn, ok__law_kind_drawn H__law_kind_drawn T (D__law_take base) (D__law_pick base), H__law_kind_drawn.bindsN fun _ _ _ _ _ _ us hl => match us, hl with | [_, _, _], _ => rfl⟩, H__law_kind_drawn.kp⟩
  have D__law_unlike : ∀ base, DefAt P w K mg base (He.fAd K ("_law_unlike", none)) 4 ["_law_bag_here", "_law_size"] 2 F__law_unlike := fun base => ⟨⟨fd__law_unlike, ok__law_unlike H__law_unlike T (D__law_take base) (D__law_unlike_names base), H__law_unlike.bindsN fun _ _ _ _ _ _ us hl => match us, hl with | [_, _], _ => rfl⟩, H__law_unlike.kp⟩
  have D__law_form_drawn : ∀ base, DefAt P w K mg base (He.fAd K ("_law_form_drawn", none)) 5 ["_law_bag_here", "_law_menus", "_law_forms"] 3 F__law_form_drawn := fun base => ⟨⟨fd__law_form_drawn, ok__law_form_drawn H__law_form_drawn T (D__law_take base) (D__law_rising base) (D__law_unlike base) (D__law_kind_drawn base), H__law_form_drawn.bindsN fun _ _ _ _ _ _ us hl => match us, hl with | [_, _, _], _ => rfl⟩, H__law_form_drawn.kp⟩
  have D__law_deed_drawn : ∀ base, DefAt P w K mg base (He.fAd K ("_law_deed_drawn", none)) 3 ["_law_bag_here", "_law_own", "_law_ins", "_law_outs"] 4 F__law_deed_drawn := fun base => ⟨⟨fd__law_deed_drawn, ok__law_deed_drawn H__law_deed_drawn T (D__law_take base) (D__law_pick base) (D__law_drawn_name base), H__law_deed_drawn.bindsN fun _ _ _ _ _ _ us hl => match us, hl with | [_, _, _, _], _ => rfl⟩, H__law_deed_drawn.kp⟩
  have D__law_acts_drawn : ∀ base, DefAt P w K mg base (He.fAd K ("_law_acts_drawn", none)) 5 ["_law_bag_here", "_law_own", "_law_found_forms"] 3 F__law_acts_drawn := fun base => ⟨⟨fd__law_acts_drawn, ok__law_acts_drawn H__law_acts_drawn T (D__law_take base) (D__law_rising base) (D__law_unlike base) (D__law_pick base) (D__law_deed_drawn base), H__law_acts_drawn.bindsN fun _ _ _ _ _ _ us hl => match us, hl with | [_, _, _], _ => rfl⟩, H__law_acts_drawn.kp⟩
  have D__law_all_drawn : ∀ base, DefAt P w K mg base (He.fAd K ("_law_all_drawn", none)) 6 ["_law_bag_here"] 1 F__law_all_drawn := fun base => ⟨⟨fd__law_all_drawn, ok__law_all_drawn H__law_all_drawn T (D__law_drawn_name base) (D__law_take base) (D__law_unlike_names base) (D__law_rising base) (D__law_unlike base) (D__law_form_drawn base) (D__law_acts_drawn base), H__law_all_drawn.bindsN fun _ _ _ _ _ _ us hl => match us, hl with | [_], _ => rfl⟩, H__law_all_drawn.kp⟩
  have K_Face___init___3012 : ∀ base, DefKw P w K mg base (He.fAd K ("Face", some "__init__")) 1 ["self", "name", "edition", "choices", "records", "calls"] 6 F_Face___init__ 3 ["choices", "records", "calls"] [0, 1, 2] := fun base => ⟨⟨fd_Face___init__, ok_Face___init__ H_Face___init__ T, kb_n H_Face___init__ 3 ["choices", "records", "calls"] [0, 1, 2] fun _ _ _ _ _ _ us ws h1 h2 => match us, ws, h1, h2 with | [_, _, _], [_, _, _], _, _ => rfl⟩, H_Face___init__.kp⟩
  have D__law_made_face : ∀ base, DefAt P w K mg base (He.fAd K ("_law_made_face", none)) 3 ["_law_parts"] 1 F__law_made_face := fun base => ⟨⟨fd__law_made_face, ok__law_made_face H__law_made_face T (K_Face___init___3012 base), H__law_made_face.bindsN fun _ _ _ _ _ _ us hl => match us, hl with | [_], _ => rfl⟩, H__law_made_face.kp⟩
  obtain ⟨gA_Face___init___21203_choices_calls, hb_Face___init___21203_choices_calls⟩ := kb_d (x := "__init__") (qual := "Face.__init__") (params := defArgs s_Face___init__) (body := defBody s_Face___init__) (scope := defScope s_Face___init__) (kws := [("choices", (.ref (kwAt ("Face", some "__init__") "choices" K))), ("records", (.ref (kwAt ("Face", some "__init__") "records" K))), ("calls", (.ref (kwAt ("Face", some "__init__") "calls" K)))]) (ps := ["self", "name", "edition", "choices", "records", "calls"]) H_Face___init__ 2 ["records", "edition"] [1, 2, 0, 3] [("choices", (.ref (kwAt ("Face", some "__init__") "choices" K))), ("calls", (.ref (kwAt ("Face", some "__init__") "calls" K)))] (by simp) (by intro q h; simp only [List.mem_cons, List.not_mem_nil, or_false] at h; rcases h with rfl | rfl <;> simp) fun _ _ _ _ _ _ us mv ws h1 h2 h3 => match us, mv, ws, h1, h2, h3 with | [_, _], [_, _], [_, _], _, _, _ => by refine ⟨_, _, _, _, _, _, rfl, rfl, ?_⟩; refine ⟨_, _, _, _, _, _, rfl, rfl, ?_⟩; rfl
  have K_Face___init___21203_choices_calls : ∀ base, DefKd P w K mg base (He.fAd K ("Face", some "__init__")) 1 ["self", "name", "edition", "choices", "records", "calls"] 6 F_Face___init__ 2 ["records", "edition"] [1, 2, 0, 3] [(.ref (kwAt ("Face", some "__init__") "choices" K)), (.ref (kwAt ("Face", some "__init__") "calls" K))] := fun base => ⟨⟨fd_Face___init__, gA_Face___init___21203_choices_calls, ok_Face___init__ H_Face___init__ T, hb_Face___init___21203_choices_calls⟩, H_Face___init__.kp⟩
  obtain ⟨gA_Face___init___132104_calls, hb_Face___init___132104_calls⟩ := kb_d (x := "__init__") (qual := "Face.__init__") (params := defArgs s_Face___init__) (body := defBody s_Face___init__) (scope := defScope s_Face___init__) (kws := [("choices", (.ref (kwAt ("Face", some "__init__") "choices" K))), ("records", (.ref (kwAt ("Face", some "__init__") "records" K))), ("calls", (.ref (kwAt ("Face", some "__init__") "calls" K)))]) (ps := ["self", "name", "edition", "choices", "records", "calls"]) H_Face___init__ 1 ["records", "choices", "edition", "name"] [3, 2, 1, 0, 4] [("calls", (.ref (kwAt ("Face", some "__init__") "calls" K)))] (by simp) (by intro q h; simp only [List.mem_cons, List.not_mem_nil, or_false] at h; rcases h with rfl <;> simp) fun _ _ _ _ _ _ us mv ws h1 h2 h3 => match us, mv, ws, h1, h2, h3 with | [_], [_], [_, _, _, _], _, _, _ => by refine ⟨_, _, _, _, _, _, rfl, rfl, ?_⟩; rfl
  have K_Face___init___132104_calls : ∀ base, DefKd P w K mg base (He.fAd K ("Face", some "__init__")) 1 ["self", "name", "edition", "choices", "records", "calls"] 6 F_Face___init__ 1 ["records", "choices", "edition", "name"] [3, 2, 1, 0, 4] [(.ref (kwAt ("Face", some "__init__") "calls" K))] := fun base => ⟨⟨fd_Face___init__, gA_Face___init___132104_calls, ok_Face___init__ H_Face___init__ T, hb_Face___init___132104_calls⟩, H_Face___init__.kp⟩
  have K_Face___init___3210 : ∀ base, DefKw P w K mg base (He.fAd K ("Face", some "__init__")) 1 ["self", "name", "edition", "choices", "records", "calls"] 6 F_Face___init__ 3 ["calls", "records", "choices"] [2, 1, 0] := fun base => ⟨⟨fd_Face___init__, ok_Face___init__ H_Face___init__ T, kb_n H_Face___init__ 3 ["calls", "records", "choices"] [2, 1, 0] fun _ _ _ _ _ _ us ws h1 h2 => match us, ws, h1, h2 with | [_, _, _], [_, _, _], _, _ => rfl⟩, H_Face___init__.kp⟩
  have D__law_made_anew : ∀ base, DefAt P w K mg base (He.fAd K ("_law_made_anew", none)) 3 ["_law_parts"] 1 F__law_made_anew := fun base => ⟨⟨fd__law_made_anew, ok__law_made_anew H__law_made_anew T (K_Face___init___21203_choices_calls base) (K_Face___init___132104_calls base) (K_Face___init___3210 base), H__law_made_anew.bindsN fun _ _ _ _ _ _ us hl => match us, hl with | [_], _ => rfl⟩, H__law_made_anew.kp⟩
  have D__law_one_more : ∀ base, DefAt P w K mg base (He.fAd K ("_law_one_more", none)) 1 ["_law_one"] 1 F__law_one_more := fun base => ⟨⟨fd__law_one_more, ok__law_one_more H__law_one_more T, H__law_one_more.bindsN fun _ _ _ _ _ _ us hl => match us, hl with | [_], _ => rfl⟩, H__law_one_more.kp⟩
  have D__law_near : ∀ base, DefAt P w K mg base (He.fAd K ("_law_near", none)) 2 ["_law_rows", "_law_spot", "_law_one"] 3 F__law_near := fun base => ⟨⟨fd__law_near, ok__law_near H__law_near T (D__law_one_more base), H__law_near.bindsN fun _ _ _ _ _ _ us hl => match us, hl with | [_, _, _], _ => rfl⟩, H__law_near.kp⟩
  have D__law_bent_once : ∀ base, DefAt P w K mg base (He.fAd K ("_law_bent_once", none)) 4 ["_law_bag_here", "_law_parts"] 2 F__law_bent_once := fun base => ⟨⟨fd__law_bent_once, ok__law_bent_once H__law_bent_once T (D__law_take base) (D__law_unlike_names base) (D__law_near base), H__law_bent_once.bindsN fun _ _ _ _ _ _ us hl => match us, hl with | [_, _], _ => rfl⟩, H__law_bent_once.kp⟩
  have D__law_fields_right : ∀ base, DefAt P w K mg base (He.fAd K ("_law_fields_right", none)) 1 ["_law_one", "_law_parts"] 2 F__law_fields_right := fun base => ⟨⟨fd__law_fields_right, ok__law_fields_right H__law_fields_right T, H__law_fields_right.bindsN fun _ _ _ _ _ _ us hl => match us, hl with | [_, _], _ => rfl⟩, H__law_fields_right.kp⟩
  have b := FunD.bindsA (ps := ["_law_script"]) H_law fun _ _ _ _ _ _ us hl => match us, hl with | [_], _ => rfl
  exact ⟨fd_law, fun s v => b s [v] rfl, fun base _ _ => ok_law H_law T (D__law_bag base) (D__law_all_drawn base) (D__law_bent_once base) (D__law_made_face base) (D__law_made_anew base) (D__law_take base) (D_Face___eq__ base) (D__law_fields_right base) (D_Face___repr__ base)⟩
end My
open PySem PySem.W PySem.Calls PyProof.Rows
theorem PySem.Challenge.cw_facehouse_k01_faces_made_and_equal_holds : PySem.Challenge.rw_facehouse_k01_faces_made_and_equal.Holds := by
  w_on; o_law
  refine HandSHeadRun.head_any (r := OpenLaw.row PySem.Challenge.rw_facehouse_k01_faces_made_and_equal) (q := view (OpenLaw.row PySem.Challenge.rw_facehouse_k01_faces_made_and_equal).prog [22]) (H := My.hk) (ob := My.ob) (M := 4000) (loose := ["_wall", "Face", "_law_bag", "_law_take", "_law_drawn_name", "_law_unlike_names", "_law_rising", "_law_pick", "_law_kind_drawn", "_law_form_drawn", "_law_unlike", "_law_deed_drawn", "_law_acts_drawn", "_law_all_drawn", "_law_made_face", "_law_made_anew", "_law_bent_once", "_law_near", "_law_one_more", "_law_fields_right"]) (d := HandSHeadRun.topDef (OpenLaw.row PySem.Challenge.rw_facehouse_k01_faces_made_and_equal).prog 22) (kwd := []) My.ob_eq
    (by kernel_rfl) (fun s => by kernel_rfl) My.run (by kernel_rfl) (by kernel_rfl) (by kernel_rfl) (by rfl) (by first | assumption | decide +kernel) (by decide +kernel) ⟨rfl, rfl, rfl, rfl, rfl, by decide +kernel⟩ ?hw ?hc
  case hw => w_witness2
  case hc =>
    refine Vs.walk_v (l := PySem.Challenge.rw_facehouse_k01_faces_made_and_equal) (n := 63) (k := 7) (x := "_law_script") (F := My.F_law) rfl (by decide) (by kernel_rfl) ⟨rfl, by decide, by decide⟩ ?G My.law_true
    intro w mg fa h Y G hmg0
    obtain ⟨K, KX, c⟩ := Y
    have hmg : mg ("law" : PySem.Str) = some (.ref fa) := by
      have e : (HandSHeadRun.topDef (OpenLaw.row PySem.Challenge.rw_facehouse_k01_faces_made_and_equal).prog 22).name = ("law" : PySem.Str) := by kernel_rfl
      rw [← e]
      exact hmg0
    obtain ⟨fd, hb, hF⟩ := My.facts (P := (PySem.Challenge.rw_facehouse_k01_faces_made_and_equal).prog) (w := w) KX G hmg c
    exact ⟨K, fd, KX, hb, hF⟩
