import PyProof.Rows.All
import Wide.All
import OpenK.AllK
import Wide.FinOn
import HandS.ForMost
import HandS.ForExc
import HandS.Wide
import PyProof.Rows.InDataRows
import PyProof.StrOps2
import HandS.Replace
import HandS.StrMore
import HandS.Deep
import HandS.Small
import HandS.IsInst
import HandS.More
import HandS.ExcOwn
import HandS.Defaults
import HandS.Ends
import HandS.HeadHook1
import HandS.Comp
import HandS.TryOnly
import HandS.ExcIs
import HandS.ExcValue
import HandS.HeadEnd
import KE.KDictZip
import KE.GoesEnum
import KE.GoesMore
import PyProof.TupleOfStr
import PyProof.ListStr
import HandS.Conv
import KE.SortKeyed
import KE.DataMinMax
import HandS.Set
import HandS.SetFor
import HandS.SetKeys
import PyProof.CollectStr
import PyProof.SetRoads
import HandS.ReplaceList
import PyProof.StrReplace2
import OpenK.KOwn
import HandS.HeadHook4
import HandS.Style
import KE.KRevSl
import PyProof.SliceStr2
import KE.SortKeyHeap
import HandS.SortKw
import PySem.Challenge.RW_surepatterns_k16_whole_free_sets_of_chan
import KE.KStateDown
import HandS.Head0
import HandS.Head1
import HandS.Head2
import HandS.HeadHook2
import HandS.HeadHook3
section S_Mi0
set_option Elab.async false
set_option linter.all false
set_option maxRecDepth 100000
set_option maxHeartbeats 4000000
namespace Mi
open PySem PySem.Spec PyProof.Rows L2

/-! ### pure values -/
abbrev S := List Nat
inductive PV where
  | non | bl (b : Bool) | int (i : Int) | str (s : S) | tup (xs : List PV) | lst (xs : List PV) | dic (kvs : List (PV × PV))
  | obj (j : Nat) | exc (c : Nat) (xs : List PV) | fn (f : Nat) | scr (ns : List Int)
  deriving Inhabited

/-- a slot of a frame, an attribute of an object: a shared value, or a container of its own -/
inductive Slot where
  | un | sh (v : PV) | ow (v : PV)
  deriving Inhabited
inductive Ob where
  | ins (c : Nat) (fs : List (Str × Slot)) | box (xs : List PV)
  deriving Inhabited
structure Fs where
  sl : List Slot
  hp : List Ob
inductive R (α : Type) where
  | ok (a : α) (s : Fs) | ex (e : PV) (s : Fs) | no
abbrev M (α : Type) := Fs → R α
def M.pure {α : Type} (a : α) : M α := fun s => .ok a s
def M.bind {α β : Type} (f : M α) (g : α → M β) : M β := fun s => match f s with
  | .ok a s1 => g a s1
  | .ex e s1 => .ex e s1
  | .no => .no
inductive Fl where
  | nx | bk | ct | rt (v : PV) (fresh : Bool)
  deriving Inhabited
inductive RC where
  | ok (v : PV) (fresh : Bool) (h : List Ob) | ex (e : PV) (h : List Ob) | no
abbrev Env := Nat → List PV → List Ob → RC

/-! ### what stands where -/
structure Stat where
  K : PySem.W.Frag
  ca : Nat → Addr
  fa : Nat → Addr
inductive Ow where
  | slot (l i : Nat) | attr (j : Nat) (f : Str) | ob (j : Nat) | dx (j : Nat) | tmp | hold
structure Fr where
  io : List (Addr × Addr)
  ow : Addr → Option Ow
def okS (s : S) : Bool := decide (s.length ≤ sizeLine) && s.all (fun c => decide (c < 128))
def strOf (s : S) : Str := ⟨s.toArray⟩
/-- a caught exception of the class cls, its own dict at d -/
def ExH (cls : Value) (d : Option Addr) (a : Addr) : HO := .ext fun h => ∃ (oe : Obj) (vs : Array Value), h.get? a = some oe ∧ Zc cls d oe ∧ oe.data = .fields vs
def ScrAt (K : PySem.W.Frag) (fr : Fr) (H : Hp) (a : Addr) (ns : List Int) : Prop :=
  (fr.ow a = none ∧ Rd H a (.lst (ns.map V.int))) ∨ ∃ (o : Obj) (its : Array Value) (n : Nat), K.lookup a = some o ∧ o.cls = .type "list" ∧ o.dict = none ∧ o.data = .seq its n ∧ its.size ≤ sizeLine ∧ Vals (ns.map V.int) its.toList
def keyP : Key → PV
  | .inl i => .int i
  | .inr x => .str x.cps.toList

mutual
inductive Rel (D : Stat) (fr : Fr) (H : Hp) : PV → V → Prop
  | non : Rel D fr H .non .non
  | bl (b : Bool) : Rel D fr H (.bl b) (.bl b)
  | int (i : Int) : Rel D fr H (.int i) (.int i)
  | str {s : S} (h : okS s = true) : Rel D fr H (.str s) (.str (strOf s))
  | con {c : PV} {a : Addr} {o : HO} (h1 : fr.ow a = none) (h2 : H a = some o) (h3 : Cont D fr H c o) : Rel D fr H c (.ref a)
  | scr {ns : List Int} {a : Addr} (h : ScrAt D.K fr H a ns) : Rel D fr H (.scr ns) (.ref a)
  | obj {j : Nat} {a dx : Addr} (h : fr.io[j]? = some (a, dx)) : Rel D fr H (.obj j) (.ref a)
  | exc0 {c : Nat} {a : Addr} (h1 : fr.ow a = none) (h2 : H a = some (ExH (.ref (D.ca c)) none a)) : Rel D fr H (.exc c []) (.ref a)
  | exc1 {c : Nat} {a d : Addr} {x : PV} {f : Str} {v : V} (h1 : fr.ow a = none) (h2 : H a = some (ExH (.ref (D.ca c)) (some d) a)) (h3 : fr.ow d = none) (h4 : H d = some (.xd [(f, v)])) (h5 : Rel D fr H x v) : Rel D fr H (.exc c [x]) (.ref a)
  | fn (f : Nat) : Rel D fr H (.fn f) (.ref (D.fa f))
inductive Cont (D : Stat) (fr : Fr) (H : Hp) : PV → HO → Prop
  | tup {xs : List PV} {vs : List V} (hl : xs.length ≤ sizeLine) (h : Rels D fr H xs vs) : Cont D fr H (.tup xs) (.tup vs)
  | lst {xs : List PV} {vs : List V} (hl : xs.length ≤ sizeLine) (h : Rels D fr H xs vs) : Cont D fr H (.lst xs) (.lst vs)
  | dic {kvs : List (PV × PV)} {hs : List (Key × V)} (hl : kvs.length ≤ sizeLine) (h : RelD D fr H kvs hs) : Cont D fr H (.dic kvs) (.dK hs)
inductive Rels (D : Stat) (fr : Fr) (H : Hp) : List PV → List V → Prop
  | nil : Rels D fr H [] []
  | cons {x : PV} {v : V} {xs : List PV} {vs : List V} (h : Rel D fr H x v) (t : Rels D fr H xs vs) : Rels D fr H (x :: xs) (v :: vs)
inductive RelD (D : Stat) (fr : Fr) (H : Hp) : List (PV × PV) → List (Key × V) → Prop
  | nil : RelD D fr H [] []
  | cons {k : Key} {x : PV} {v : V} {xs : List (PV × PV)} {vs : List (Key × V)} (hk : Rel D fr H (keyP k) (kV k)) (h : Rel D fr H x v) (t : RelD D fr H xs vs) : RelD D fr H ((keyP k, x) :: xs) ((k, v) :: vs)
end

/-- what a callee at this level may not change -/
def Kp (lvl : Nat) : Option Ow → Prop
  | none => True
  | some (.slot l _) => l < lvl
  | some .hold => True
  | _ => False
/-- what values lean on is kept -/
structure EvN (fr : Fr) (H : Hp) (fr' : Fr) (H' : Hp) : Prop where
  keep : ∀ a u, H a = some u → fr.ow a = none → H' a = some u ∧ fr'.ow a = none
  io : ∀ (j : Nat) (p : Addr × Addr), fr.io[j]? = some p → fr'.io[j]? = some p
structure Ev (lvl : Nat) (fr : Fr) (H : Hp) (fr' : Fr) (H' : Hp) : Prop where
  keep : ∀ a u, H a = some u → Kp lvl (fr.ow a) → H' a = some u ∧ fr'.ow a = fr.ow a
  io : ∀ (j : Nat) (p : Addr × Addr), fr.io[j]? = some p → fr'.io[j]? = some p
theorem Ev.refl {lvl : Nat} {fr : Fr} {H : Hp} : Ev lvl fr H fr H := ⟨fun _ _ e _ => ⟨e, rfl⟩, fun _ _ e => e⟩
theorem Ev.trans {lvl : Nat} {fr fr1 fr2 : Fr} {H H1 H2 : Hp} (a : Ev lvl fr H fr1 H1) (b : Ev lvl fr1 H1 fr2 H2) : Ev lvl fr H fr2 H2 where
  keep := fun x u e k => by
    obtain ⟨e1, q1⟩ := a.keep x u e k
    obtain ⟨e2, q2⟩ := b.keep x u e1 (by rw [q1]; exact k)
    exact ⟨e2, q2.trans q1⟩
  io := fun j p e => b.io j p (a.io j p e)
theorem Kp.mono {l l' : Nat} (h : l ≤ l') {o : Option Ow} (k : Kp l o) : Kp l' o := by
  cases o with
  | none => trivial
  | some x => cases x with
    | slot a b => exact Nat.lt_of_lt_of_le k h
    | hold => trivial
    | _ => exact k.elim
theorem Ev.mono {l l' : Nat} {fr fr1 : Fr} {H H1 : Hp} (a : Ev l' fr H fr1 H1) (h : l ≤ l') : Ev l fr H fr1 H1 := ⟨fun x u e k => a.keep x u e (k.mono h), a.io⟩
section
variable {D : Stat} {lvl : Nat} {fr fr' : Fr} {H H' : Hp}
theorem Ev.n (e : Ev lvl fr H fr' H') : EvN fr H fr' H' := ⟨fun a u q z => let ⟨p, r⟩ := e.keep a u q (by rw [z]; trivial); ⟨p, r.trans z⟩, e.io⟩
theorem EvN.rd (e : EvN fr H fr' H') {a : Addr} {o : HO} (h1 : fr.ow a = none) (h2 : Rd H a o) : fr'.ow a = none ∧ Rd H' a o := by
  rcases h2 with h | ⟨ob, h⟩
  · obtain ⟨p, q⟩ := e.keep a _ h h1
    exact ⟨q, .inl p⟩
  · obtain ⟨p, q⟩ := e.keep a _ h h1
    exact ⟨q, .inr ⟨ob, p⟩⟩
theorem EvN.at (e : EvN fr H fr' H') {a : Addr} {o : HO} (h1 : fr.ow a = none) (h2 : H a = some o) : fr'.ow a = none ∧ H' a = some o :=
  let ⟨p, q⟩ := e.keep a _ h2 h1
  ⟨q, p⟩
theorem Ev.at (e : Ev lvl fr H fr' H') {a : Addr} {o : HO} (h1 : fr.ow a = none) (h2 : H a = some o) : fr'.ow a = none ∧ H' a = some o := by
  obtain ⟨p, q⟩ := e.keep a _ h2 (by rw [h1]; trivial)
  exact ⟨q.trans h1, p⟩
mutual
theorem Rel.evN (e : EvN fr H fr' H') : ∀ {x : PV} {v : V}, Rel D fr H x v → Rel D fr' H' x v
  | _, _, .non => .non
  | _, _, .bl b => .bl b
  | _, _, .int i => .int i
  | _, _, .str h => .str h
  | _, _, .con h1 h2 h3 => .con (e.at h1 h2).1 (e.at h1 h2).2 (Cont.evN e h3)
  | _, _, .scr h => .scr (h.imp (fun q => e.rd q.1 q.2) fun q => q)
  | _, _, .obj h => .obj (e.io _ _ h)
  | _, _, .exc0 h1 h2 => .exc0 (e.at h1 h2).1 (e.at h1 h2).2
  | _, _, .exc1 h1 h2 h3 h4 h5 => .exc1 (e.at h1 h2).1 (e.at h1 h2).2 (e.at h3 h4).1 (e.at h3 h4).2 (Rel.evN e h5)
  | _, _, .fn f => .fn f
theorem Cont.evN (e : EvN fr H fr' H') : ∀ {x : PV} {o : HO}, Cont D fr H x o → Cont D fr' H' x o
  | _, _, .tup hl h => .tup hl (Rels.evN e h)
  | _, _, .lst hl h => .lst hl (Rels.evN e h)
  | _, _, .dic hl h => .dic hl (RelD.evN e h)
theorem Rels.evN (e : EvN fr H fr' H') : ∀ {x : List PV} {v : List V}, Rels D fr H x v → Rels D fr' H' x v
  | _, _, .nil => .nil
  | _, _, .cons h t => .cons (Rel.evN e h) (Rels.evN e t)
theorem RelD.evN (e : EvN fr H fr' H') : ∀ {x : List (PV × PV)} {v : List (Key × V)}, RelD D fr H x v → RelD D fr' H' x v
  | _, _, .nil => .nil
  | _, _, .cons k h t => .cons (Rel.evN e k) (Rel.evN e h) (RelD.evN e t)
end
theorem Rel.ev (e : Ev lvl fr H fr' H') {x : PV} {v : V} (h : Rel D fr H x v) : Rel D fr' H' x v := h.evN e.n
theorem Cont.ev (e : Ev lvl fr H fr' H') {x : PV} {v : HO} (h : Cont D fr H x v) : Cont D fr' H' x v := h.evN e.n
theorem Rels.ev (e : Ev lvl fr H fr' H') {x : List PV} {v : List V} (h : Rels D fr H x v) : Rels D fr' H' x v := h.evN e.n
theorem RelD.ev (e : Ev lvl fr H fr' H') {x : List (PV × PV)} {v : List (Key × V)} (h : RelD D fr H x v) : RelD D fr' H' x v := h.evN e.n

/-! ### lists -/
theorem Rels.length : ∀ {xs : List PV} {vs : List V}, Rels D fr H xs vs → vs.length = xs.length
  | _, _, .nil => rfl
  | _, _, .cons _ t => congrArg (· + 1) (Rels.length t)
theorem Rels.get : ∀ {xs : List PV} {vs : List V} {i : Nat} {x : PV}, Rels D fr H xs vs → xs[i]? = some x → ∃ v, vs[i]? = some v ∧ Rel D fr H x v
  | _, _, _, _, .nil, e => by simp at e
  | _, _, 0, _, .cons h _, e => by simp at e; subst e; exact ⟨_, rfl, h⟩
  | _, _, i + 1, x, .cons _ t, e => by
    obtain ⟨v, h1, h2⟩ := Rels.get (i := i) (x := x) t (by simpa using e)
    exact ⟨v, by simpa using h1, h2⟩
theorem Rels.get' : ∀ {xs : List PV} {vs : List V} {i : Nat} {v : V}, Rels D fr H xs vs → vs[i]? = some v → ∃ x, xs[i]? = some x ∧ Rel D fr H x v
  | _, _, _, _, .nil, e => by simp at e
  | _, _, 0, _, .cons h _, e => by simp at e; subst e; exact ⟨_, rfl, h⟩
  | _, _, i + 1, x, .cons _ t, e => by
    obtain ⟨v, h1, h2⟩ := Rels.get' (i := i) (v := x) t (by simpa using e)
    exact ⟨v, by simpa using h1, h2⟩
theorem Rels.append : ∀ {xs ys : List PV} {vs ws : List V}, Rels D fr H xs vs → Rels D fr H ys ws → Rels D fr H (xs ++ ys) (vs ++ ws)
  | _, _, _, _, .nil, s => s
  | _, _, _, _, .cons h t, s => .cons h (Rels.append t s)
theorem Rels.take : ∀ {xs : List PV} {vs : List V} (n : Nat), Rels D fr H xs vs → Rels D fr H (xs.take n) (vs.take n)
  | _, _, 0, _ => .nil
  | _, _, _ + 1, .nil => .nil
  | _, _, n + 1, .cons h t => .cons h (Rels.take n t)
theorem Rels.drop : ∀ {xs : List PV} {vs : List V} (n : Nat), Rels D fr H xs vs → Rels D fr H (xs.drop n) (vs.drop n)
  | _, _, 0, r => r
  | _, _, _ + 1, .nil => .nil
  | _, _, n + 1, .cons _ t => Rels.drop n t
theorem Rels.set : ∀ {xs : List PV} {vs : List V} (i : Nat) {x : PV} {v : V}, Rels D fr H xs vs → Rel D fr H x v → Rels D fr H (xs.set i x) (vs.set i v)
  | _, _, _, _, _, .nil, _ => .nil
  | _, _, 0, _, _, .cons _ t, h => .cons h t
  | _, _, i + 1, _, _, .cons q t, h => .cons q (Rels.set i t h)
theorem Rels.reverse {xs : List PV} {vs : List V} (r : Rels D fr H xs vs) : Rels D fr H xs.reverse vs.reverse := by
  induction xs generalizing vs with
  | nil => cases r; exact .nil
  | cons x xs ih => cases r with
    | cons h t =>
      rw [List.reverse_cons, List.reverse_cons]
      exact (ih t).append (.cons h .nil)
theorem Rels.flatten_rep {xs : List PV} {vs : List V} (r : Rels D fr H xs vs) : ∀ n : Nat, Rels D fr H (List.replicate n xs).flatten (List.replicate n vs).flatten
  | 0 => .nil
  | n + 1 => by
    rw [List.replicate_succ, List.replicate_succ, List.flatten_cons, List.flatten_cons]
    exact r.append (Rels.flatten_rep r n)
theorem Rels.pop {xs : List PV} {vs : List V} (r : Rels D fr H xs vs) : Rels D fr H xs.dropLast vs.dropLast := by
  rw [List.dropLast_eq_take, List.dropLast_eq_take, r.length]
  exact r.take _
theorem Rels.last {xs : List PV} {vs : List V} {x : PV} (r : Rels D fr H xs vs) (h : xs.getLast? = some x) : ∃ v, vs.getLast? = some v ∧ Rel D fr H x v := by
  rw [List.getLast?_eq_getElem?] at h ⊢
  rw [r.length]
  exact r.get h

/-! ### the frame, the objects -/
/-- at a slot that holds v -/
def SlotOk (D : Stat) (lvl : Nat) (fr : Fr) (H : Hp) (i : Nat) : Slot → Option V → Prop
  | .un, _ => True
  | .sh x, some v => Rel D fr H x v
  | .ow c, some v => ∃ a o, v = .ref a ∧ fr.ow a = some (.slot lvl i) ∧ H a = some o ∧ Cont D fr H c o
  | _, none => False
def AtOk (D : Stat) (fr : Fr) (H : Hp) (j : Nat) (f : Str) : Slot → V → Prop
  | .un, _ => False
  | .sh x, v => Rel D fr H x v
  | .ow c, v => ∃ a o, v = .ref a ∧ fr.ow a = some (.attr j f) ∧ H a = some o ∧ Cont D fr H c o
def ObOk (D : Stat) (fr : Fr) (H : Hp) (j : Nat) : Ob → Prop
  | .ins c fs => ∃ a dx hs, fr.io[j]? = some (a, dx) ∧ fr.ow a = some (.ob j) ∧ fr.ow dx = some (.dx j) ∧ H a = some (.ins (D.ca c) dx hs) ∧ H dx = some (.own a) ∧ (fs.map (·.1)).Nodup ∧
      Paired (fun (p : Str × Slot) (q : Str × V) => p.1 = q.1 ∧ AtOk D fr H j p.1 p.2 q.2) fs hs
  | .box xs => ∃ a vs, fr.io[j]? = some (a, a) ∧ fr.ow a = some (.ob j) ∧ H a = some (.lst vs) ∧ xs.length ≤ sizeLine ∧ Rels D fr H xs vs
structure GI (D : Stat) (fr : Fr) (hp : List Ob) (H : Hp) : Prop where
  tr : ∀ a o, fr.ow a = some o → ∃ u, H a = some u
  ob : ∀ (j : Nat) (x : Ob), hp[j]? = some x → ObOk D fr H j x
  len : fr.io.length = hp.length
structure FI (D : Stat) (lvl : Nat) (fr : Fr) (fs : Fs) (σ : L2.St) (H : Hp) : Prop where
  gi : GI D fr fs.hp H
  sl : ∀ (i : Nat) (x : Slot), fs.sl[i]? = some x → SlotOk D lvl fr H i x (σ[i]?.join)
  ln : fs.sl.length = σ.length
end
end Mi
end S_Mi0
section S_Mi1
set_option Elab.async false
set_option linter.all false
set_option maxRecDepth 100000
set_option maxHeartbeats 4000000
namespace Mi
open PySem PySem.Spec PyProof.Rows L2
section
variable {D : Stat} {lvl : Nat} {fr fr' : Fr} {H H' : Hp} {fs : Fs} {σ : L2.St}

def IsG : Ow → Prop
  | .attr _ _ => True
  | .ob _ => True
  | .dx _ => True
  | _ => False
/-- what the objects lean on is kept -/
def KeepG (fr : Fr) (H : Hp) (fr' : Fr) (H' : Hp) : Prop := ∀ a o, fr.ow a = some o → IsG o → fr'.ow a = some o ∧ H' a = H a
def KeepS (lvl i : Nat) (fr : Fr) (H : Hp) (fr' : Fr) (H' : Hp) : Prop := ∀ a, fr.ow a = some (.slot lvl i) → fr'.ow a = fr.ow a ∧ H' a = H a
theorem AtOk.keep (e : EvN fr H fr' H') (k : KeepG fr H fr' H') {j : Nat} {f : Str} {x : Slot} {v : V} (h : AtOk D fr H j f x v) : AtOk D fr' H' j f x v := by
  cases x with
  | un => exact h.elim
  | sh x => exact Rel.evN e h
  | ow c =>
    obtain ⟨a, o, rfl, h1, h2, h3⟩ := h
    obtain ⟨q1, q2⟩ := k a _ h1 trivial
    exact ⟨a, o, rfl, q1, q2.trans h2, Cont.evN e h3⟩
theorem ObOk.keep (e : EvN fr H fr' H') (k : KeepG fr H fr' H') {j : Nat} {x : Ob} (h : ObOk D fr H j x) : ObOk D fr' H' j x := by
  cases x with
  | ins c gs =>
    obtain ⟨a, dx, hs, h1, h2, h3, h4, h5, h6, h7⟩ := h
    obtain ⟨q1, q2⟩ := k a _ h2 trivial
    obtain ⟨q3, q4⟩ := k dx _ h3 trivial
    exact ⟨a, dx, hs, e.io _ _ h1, q1, q3, q2.trans h4, q4.trans h5, h6, Paired.mapP h7 fun p q z => ⟨z.1, z.2.keep e k⟩⟩
  | box xs =>
    obtain ⟨a, vs, h1, h2, h3, h4, h5⟩ := h
    obtain ⟨q1, q2⟩ := k a _ h2 trivial
    exact ⟨a, vs, e.io _ _ h1, q1, q2.trans h3, h4, Rels.evN e h5⟩
theorem GI.keep {hp : List Ob} (g : GI D fr hp H) (e : EvN fr H fr' H') (k : KeepG fr H fr' H') (ht : ∀ a o, fr'.ow a = some o → ∃ u, H' a = some u) (hl : fr'.io.length = fr.io.length) : GI D fr' hp H' :=
  ⟨ht, fun j x q => (g.ob j x q).keep e k, hl.trans g.len⟩
theorem SlotOk.keep (e : EvN fr H fr' H') {i : Nat} (k : KeepS lvl i fr H fr' H') {x : Slot} {v : Option V} (h : SlotOk D lvl fr H i x v) : SlotOk D lvl fr' H' i x v := by
  cases x with
  | un => trivial
  | sh x => cases v with
    | none => exact h.elim
    | some v => exact Rel.evN e h
  | ow c => cases v with
    | none => exact h.elim
    | some v =>
      obtain ⟨a, o, rfl, h1, h2, h3⟩ := h
      obtain ⟨q1, q2⟩ := k a h1
      exact ⟨a, o, rfl, q1.trans h1, q2.trans h2, Cont.evN e h3⟩

/-! ### one address's owner changed; one object changed -/
def reow (fr : Fr) (a : Addr) (o : Option Ow) : Fr := { fr with ow := fun b => if b = a then o else fr.ow b }
theorem reow_same {a : Addr} {o : Option Ow} : (reow fr a o).ow a = o := if_pos rfl
theorem reow_ne {a b : Addr} {o : Option Ow} (h : b ≠ a) : (reow fr a o).ow b = fr.ow b := if_neg h
theorem ev_reow {a : Addr} {o : Option Ow} (h : ¬ Kp lvl (fr.ow a)) : Ev lvl fr H (reow fr a o) H :=
  ⟨fun b u e k => ⟨e, reow_ne fun z => h (z ▸ k)⟩, fun _ _ e => e⟩
theorem ev_new {p : Addr} {o : HO} (h : H p = none) : Ev lvl fr H fr (upd H p o) :=
  ⟨fun b u e k => ⟨by rw [upd_ne (ne_of_none e h)]; exact e, rfl⟩, fun _ _ e => e⟩
theorem ev_newOw {p : Addr} {o : HO} {w : Option Ow} (h : H p = none) : Ev lvl fr H (reow fr p w) (upd H p o) :=
  ⟨fun b u e k => ⟨by rw [upd_ne (ne_of_none e h)]; exact e, reow_ne (ne_of_none e h)⟩, fun _ _ e => e⟩
theorem ev_upd {a : Addr} {o : HO} (h : ¬ Kp lvl (fr.ow a)) : Ev lvl fr H fr (upd H a o) :=
  ⟨fun b u e k => ⟨by rw [upd_ne (show b ≠ a from fun z => h (by rw [← z]; exact k))]; exact e, rfl⟩, fun _ _ e => e⟩
theorem nkp_slot {a : Addr} {i : Nat} (h : fr.ow a = some (.slot lvl i)) : ¬ Kp lvl (fr.ow a) := by rw [h]; exact Nat.lt_irrefl _
theorem nkp_tmp {a : Addr} (h : fr.ow a = some .tmp) : ¬ Kp lvl (fr.ow a) := by rw [h]; exact id
theorem nkp_attr {a : Addr} {j : Nat} {f : Str} (h : fr.ow a = some (.attr j f)) : ¬ Kp lvl (fr.ow a) := by rw [h]; exact id
theorem nkp_ob {a : Addr} {j : Nat} (h : fr.ow a = some (.ob j)) : ¬ Kp lvl (fr.ow a) := by rw [h]; exact id
theorem GI.free (g : GI D fr fs.hp H) {p : Addr} (h : H p = none) : fr.ow p = none := by
  cases e : fr.ow p with
  | none => rfl
  | some o => obtain ⟨u, q⟩ := g.tr p o e; rw [h] at q; cases q

/-- a new object, shared -/
theorem FI.new (I : FI D lvl fr fs σ H) {p : Addr} {o : HO} (h : H p = none) : FI D lvl fr fs σ (upd H p o) := by
  have e : Ev lvl fr H fr (upd H p o) := ev_new h
  have ne : ∀ a o', fr.ow a = some o' → a ≠ p := fun a o' q z => by rw [z, I.gi.free h] at q; cases q
  refine ⟨I.gi.keep e.n (fun a o' q _ => ⟨q, upd_ne (ne a _ q)⟩) (fun a o' q => ?_) rfl, fun i x q => (I.sl i x q).keep e.n fun a q => ⟨rfl, upd_ne (ne a _ q)⟩, I.ln⟩
  obtain ⟨u, hu⟩ := I.gi.tr a o' q
  exact ⟨u, by rw [upd_ne (ne a _ q)]; exact hu⟩
/-- a new object, held for a moment -/
theorem FI.newTmp (I : FI D lvl fr fs σ H) {p : Addr} {o : HO} (h : H p = none) : FI D lvl (reow fr p (some .tmp)) fs σ (upd H p o) := by
  have e : Ev lvl fr H (reow fr p (some .tmp)) (upd H p o) := ev_newOw h
  have ne : ∀ a o', fr.ow a = some o' → a ≠ p := fun a o' q z => by rw [z, I.gi.free h] at q; cases q
  refine ⟨I.gi.keep e.n (fun a o' q _ => ⟨by rw [reow_ne (ne a _ q)]; exact q, upd_ne (ne a _ q)⟩) (fun a o' q => ?_) rfl, fun i x q => (I.sl i x q).keep e.n fun a q => ⟨reow_ne (ne a _ q), upd_ne (ne a _ q)⟩, I.ln⟩
  by_cases z : a = p
  · exact ⟨o, by rw [z, upd_same]⟩
  · rw [reow_ne z] at q
    obtain ⟨u, hu⟩ := I.gi.tr a o' q
    exact ⟨u, by rw [upd_ne z]; exact hu⟩
/-- a held one is let go -/
theorem FI.untmp (I : FI D lvl fr fs σ H) {p : Addr} {w : Option Ow} (h : fr.ow p = some .tmp) (hw : ∀ o, w = some o → ∃ u, H p = some u) : FI D lvl (reow fr p w) fs σ H := by
  have e : Ev lvl fr H (reow fr p w) H := ev_reow (nkp_tmp h)
  have ne : ∀ a o', fr.ow a = some o' → o' ≠ .tmp → a ≠ p := fun a o' q n z => by rw [z, h] at q; cases q; exact n rfl
  refine ⟨I.gi.keep e.n (fun a o' q g => ⟨?_, rfl⟩) (fun a o' q => ?_) rfl, fun i x q => (I.sl i x q).keep e.n fun a q => ⟨reow_ne (ne a _ q (by intro z; cases z)), rfl⟩, I.ln⟩
  · rw [reow_ne (ne a _ q (fun z => by rw [z] at g; exact g))]; exact q
  · by_cases z : a = p
    · rw [z, reow_same] at q; rw [z]; exact hw o' q
    · rw [reow_ne z] at q; exact I.gi.tr a o' q
theorem slot_set {α : Type} {l : List α} {i j : Nat} {x y : α} (h : (l.set i x)[j]? = some y) : (j = i ∧ y = x ∧ i < l.length) ∨ (j ≠ i ∧ l[j]? = some y) := by
  rw [List.getElem?_set] at h
  by_cases e : i = j
  · rw [if_pos e] at h
    by_cases hl : i < l.length
    · rw [if_pos hl] at h; exact .inl ⟨e.symm, (Option.some.inj h).symm, hl⟩
    · rw [if_neg hl] at h; cases h
  · rw [if_neg e] at h; exact .inr ⟨fun z => e z.symm, h⟩
theorem join_set_self {σ : L2.St} {i : Nat} {v : Option V} (h : i < σ.length) : (σ.set i v)[i]?.join = v := by
  rw [List.getElem?_set_self h]; rfl
theorem join_set_ne {σ : L2.St} {i j : Nat} {v : Option V} (h : j ≠ i) : (σ.set i v)[j]?.join = σ[j]?.join := by
  rw [List.getElem?_set_ne fun z => h z.symm]
/-- a slot gets a shared value -/
theorem FI.setSh (I : FI D lvl fr fs σ H) {x : PV} {v : V} (r : Rel D fr H x v) (i : Nat) : FI D lvl fr { fs with sl := fs.sl.set i (.sh x) } (σ.set i (some v)) H := by
  refine ⟨I.gi, fun j y q => ?_, by rw [List.length_set, List.length_set]; exact I.ln⟩
  rcases slot_set q with ⟨rfl, rfl, hl⟩ | ⟨n, q⟩
  · rw [join_set_self (by rw [← I.ln]; exact hl)]; exact r
  · rw [join_set_ne n]; exact I.sl j y q
/-- a slot is wiped -/
theorem FI.setUn (I : FI D lvl fr fs σ H) (i : Nat) (v : Option V) : FI D lvl fr { fs with sl := fs.sl.set i .un } (σ.set i v) H := by
  refine ⟨I.gi, fun j y q => ?_, by rw [List.length_set, List.length_set]; exact I.ln⟩
  rcases slot_set q with ⟨rfl, rfl, hl⟩ | ⟨n, q⟩
  · trivial
  · rw [join_set_ne n]; exact I.sl j y q
/-- a slot gets a container of its own, held so far -/
theorem FI.setOw (I : FI D lvl fr fs σ H) {c : PV} {p : Addr} {o : HO} (h : fr.ow p = some .tmp) (hp : H p = some o) (k : Cont D fr H c o) (i : Nat) :
    FI D lvl (reow fr p (some (.slot lvl i))) { fs with sl := fs.sl.set i (.ow c) } (σ.set i (some (.ref p))) H := by
  have e : Ev lvl fr H (reow fr p (some (.slot lvl i))) H := ev_reow (nkp_tmp h)
  have J := I.untmp h (w := some (.slot lvl i)) fun _ _ => ⟨o, hp⟩
  refine ⟨J.gi, fun j y q => ?_, by rw [List.length_set, List.length_set]; exact I.ln⟩
  rcases slot_set q with ⟨rfl, rfl, hl⟩ | ⟨n, q⟩
  · rw [join_set_self (by rw [← I.ln]; exact hl)]
    exact ⟨p, o, rfl, reow_same, hp, Cont.ev e k⟩
  · rw [join_set_ne n]; exact J.sl j y q
/-- a slot's own container becomes a shared value -/
theorem FI.escape (I : FI D lvl fr fs σ H) {i : Nat} {c : PV} (h : fs.sl[i]? = some (.ow c)) :
    ∃ fr' v, σ[i]? = some (some v) ∧ FI D lvl fr' { fs with sl := fs.sl.set i (.sh c) } σ H ∧ Ev lvl fr H fr' H ∧ Rel D fr' H c v := by
  have q := I.sl i _ h
  have hl : i < σ.length := by rw [← I.ln]; exact (List.getElem?_eq_some_iff.mp h).1
  cases ev : σ[i]? with
  | none => rw [List.getElem?_eq_none_iff] at ev; omega
  | some ov =>
    rw [ev] at q
    cases ov with
    | none => exact q.elim
    | some v =>
      obtain ⟨a, o, rfl, h1, h2, h3⟩ := q
      have e : Ev lvl fr H (reow fr a none) H := ev_reow (nkp_slot h1)
      have r : Rel D (reow fr a none) H c (.ref a) := .con reow_same h2 (Cont.ev e h3)
      have ne : ∀ b o', fr.ow b = some o' → o' ≠ .slot lvl i → b ≠ a := fun b o' q n z => by rw [z, h1] at q; cases q; exact n rfl
      refine ⟨reow fr a none, _, rfl, ⟨I.gi.keep e.n (fun b o' q g => ⟨?_, rfl⟩) (fun b o' q => ?_) rfl, fun j y q => ?_, by rw [List.length_set]; exact I.ln⟩, e, r⟩
      · rw [reow_ne (ne b _ q (fun z => by rw [z] at g; exact g))]; exact q
      · by_cases z : b = a
        · rw [z, reow_same] at q; cases q
        · rw [reow_ne z] at q; exact I.gi.tr b o' q
      · rcases slot_set q with ⟨rfl, rfl, hl⟩ | ⟨n, q⟩
        · rw [ev]; exact r
        · exact (I.sl j y q).keep e.n fun b q => ⟨reow_ne (ne b _ q (fun z => n (by injection z))), rfl⟩
/-- a slot's own container is changed -/
theorem FI.mut (I : FI D lvl fr fs σ H) {i : Nat} {c c' : PV} {a : Addr} {o' : HO} (h : fs.sl[i]? = some (.ow c)) (hv : σ[i]? = some (some (.ref a))) (ha : fr.ow a = some (.slot lvl i)) (k : Cont D fr H c' o') :
    FI D lvl fr { fs with sl := fs.sl.set i (.ow c') } σ (upd H a o') := by
  have e : Ev lvl fr H fr (upd H a o') := ev_upd (nkp_slot ha)
  have ne : ∀ b o', fr.ow b = some o' → o' ≠ .slot lvl i → b ≠ a := fun b o' q n z => by rw [z, ha] at q; cases q; exact n rfl
  refine ⟨I.gi.keep e.n (fun b w q g => ⟨q, upd_ne (ne b _ q (fun z => by rw [z] at g; exact g))⟩) (fun b w q => ?_) rfl, fun j y q => ?_, by rw [List.length_set]; exact I.ln⟩
  · by_cases z : b = a
    · exact ⟨o', by rw [z, upd_same]⟩
    · obtain ⟨u, hu⟩ := I.gi.tr b w q
      exact ⟨u, by rw [upd_ne z]; exact hu⟩
  · rcases slot_set q with ⟨rfl, rfl, hl⟩ | ⟨n, q⟩
    · rw [hv]; exact ⟨a, o', rfl, ha, upd_same, Cont.ev e k⟩
    · exact (I.sl j y q).keep e.n fun b q => ⟨rfl, upd_ne (ne b _ q (fun z => n (by injection z)))⟩
theorem FI.at (I : FI D lvl fr fs σ H) {i : Nat} {x : Slot} (h : fs.sl[i]? = some x) : ∃ ov, σ[i]? = some ov ∧ SlotOk D lvl fr H i x ov := by
  have q := I.sl i _ h
  have hl : i < σ.length := by rw [← I.ln]; exact (List.getElem?_eq_some_iff.mp h).1
  cases ev : σ[i]? with
  | none => rw [List.getElem?_eq_none_iff] at ev; omega
  | some ov => rw [ev] at q; exact ⟨ov, rfl, q⟩
theorem FI.sh (I : FI D lvl fr fs σ H) {i : Nat} {x : PV} (h : fs.sl[i]? = some (.sh x)) : ∃ v, σ[i]? = some (some v) ∧ Rel D fr H x v := by
  obtain ⟨ov, e, q⟩ := I.at h
  cases ov with
  | none => exact q.elim
  | some v => exact ⟨v, e, q⟩
theorem FI.own (I : FI D lvl fr fs σ H) {i : Nat} {c : PV} (h : fs.sl[i]? = some (.ow c)) : ∃ a o, σ[i]? = some (some (.ref a)) ∧ fr.ow a = some (.slot lvl i) ∧ H a = some o ∧ Cont D fr H c o := by
  obtain ⟨ov, e, q⟩ := I.at h
  cases ov with
  | none => exact q.elim
  | some v =>
    obtain ⟨a, o, rfl, h1, h2, h3⟩ := q
    exact ⟨a, o, e, h1, h2, h3⟩
/-- a pending list is done -/
theorem evn_hold {p : Addr} {w : Ow} {o : Option Ow} (h : fr.ow p = some w) : EvN fr H (reow fr p o) H := ⟨fun a u q z => ⟨q, by rw [reow_ne (show a ≠ p from fun y => by rw [y, h] at z; cases z)]; exact z⟩, fun _ _ e => e⟩
theorem FI.rehold (I : FI D lvl fr fs σ H) {p : Addr} {o : HO} (h : fr.ow p = some .hold) (hp : H p = some o) : FI D lvl (reow fr p (some .tmp)) fs σ H := by
  have e : EvN fr H (reow fr p (some .tmp)) H := evn_hold h
  have ne : ∀ a o', fr.ow a = some o' → o' ≠ .hold → a ≠ p := fun a o' q n z => by rw [z, h] at q; cases q; exact n rfl
  refine ⟨I.gi.keep e (fun a o' q g => ⟨?_, rfl⟩) (fun a o' q => ?_) rfl, fun i x q => (I.sl i x q).keep e fun a q => ⟨reow_ne (ne a _ q (by intro z; cases z)), rfl⟩, I.ln⟩
  · rw [reow_ne (ne a _ q (fun z => by rw [z] at g; exact g))]; exact q
  · by_cases z : a = p
    · exact ⟨o, by rw [z]; exact hp⟩
    · rw [reow_ne z] at q; exact I.gi.tr a o' q
/-- a pending list is begun -/
theorem FI.newHold (I : FI D lvl fr fs σ H) {p : Addr} {o : HO} (h : H p = none) : FI D lvl (reow fr p (some .hold)) fs σ (upd H p o) := by
  have e : Ev lvl fr H (reow fr p (some .hold)) (upd H p o) := ev_newOw h
  have ne : ∀ a o', fr.ow a = some o' → a ≠ p := fun a o' q z => by rw [z, I.gi.free h] at q; cases q
  refine ⟨I.gi.keep e.n (fun a o' q _ => ⟨by rw [reow_ne (ne a _ q)]; exact q, upd_ne (ne a _ q)⟩) (fun a o' q => ?_) rfl, fun i x q => (I.sl i x q).keep e.n fun a q => ⟨reow_ne (ne a _ q), upd_ne (ne a _ q)⟩, I.ln⟩
  by_cases z : a = p
  · exact ⟨o, by rw [z, upd_same]⟩
  · rw [reow_ne z] at q
    obtain ⟨u, hu⟩ := I.gi.tr a o' q
    exact ⟨u, by rw [upd_ne z]; exact hu⟩
/-- .. and grows -/
theorem FI.growHold (I : FI D lvl fr fs σ H) {p : Addr} {o : HO} (h : fr.ow p = some .hold) : FI D lvl fr fs σ (upd H p o) := by
  have e : EvN fr H fr (upd H p o) := ⟨fun a u q z => ⟨by rw [upd_ne (show a ≠ p from fun y => by rw [y, h] at z; cases z)]; exact q, z⟩, fun _ _ e => e⟩
  have ne : ∀ a o', fr.ow a = some o' → o' ≠ .hold → a ≠ p := fun a o' q n z => by rw [z, h] at q; cases q; exact n rfl
  refine ⟨I.gi.keep e (fun a o' q g => ⟨q, upd_ne (ne a _ q (fun z => by rw [z] at g; exact g))⟩) (fun a o' q => ?_) rfl, fun i x q => (I.sl i x q).keep e fun a q => ⟨rfl, upd_ne (ne a _ q (by intro z; cases z))⟩, I.ln⟩
  by_cases z : a = p
  · exact ⟨o, by rw [z, upd_same]⟩
  · obtain ⟨u, hu⟩ := I.gi.tr a o' q
    exact ⟨u, by rw [upd_ne z]; exact hu⟩
theorem evn_upd {p : Addr} {w : Ow} {o : HO} (h : fr.ow p = some w) : EvN fr H fr (upd H p o) := ⟨fun a u q z => ⟨by rw [upd_ne (show a ≠ p from fun y => by rw [y, h] at z; cases z)]; exact q, z⟩, fun _ _ e => e⟩
/-- what is to be read at this moment -/
def Now (D : Stat) (fr : Fr) (H : Hp) (c : PV) (v : V) : Prop := Rel D fr H c v ∨ ∃ a o, v = .ref a ∧ H a = some o ∧ Cont D fr H c o
theorem Now.cont {c : PV} {v : V} (h : Now D fr H c v) : (∃ a o, v = .ref a ∧ H a = some o ∧ Cont D fr H c o) ∨ (Rel D fr H c v ∧ ∀ o, ¬ Cont D fr H c o) := by
  rcases h with h | h
  · cases h with
    | con h1 h2 h3 => exact .inl ⟨_, _, rfl, h2, h3⟩
    | non => exact .inr ⟨.non, fun o k => by cases k⟩
    | bl b => exact .inr ⟨.bl b, fun o k => by cases k⟩
    | int b => exact .inr ⟨.int b, fun o k => by cases k⟩
    | str b => exact .inr ⟨.str b, fun o k => by cases k⟩
    | obj b => exact .inr ⟨.obj b, fun o k => by cases k⟩
    | exc0 a b => exact .inr ⟨.exc0 a b, fun o k => by cases k⟩
    | exc1 a b c d e => exact .inr ⟨.exc1 a b c d e, fun o k => by cases k⟩
    | fn b => exact .inr ⟨.fn b, fun o k => by cases k⟩
    | scr b => exact .inr ⟨.scr b, fun o k => by cases k⟩
  · exact .inl h
theorem Now.lst {xs : List PV} {v : V} (h : Now D fr H (.lst xs) v) : ∃ a vs, v = .ref a ∧ H a = some (.lst vs) ∧ xs.length ≤ sizeLine ∧ Rels D fr H xs vs := by
  rcases h with h | ⟨a, o, rfl, h1, h2⟩
  · cases h with
    | con h1 h2 h3 => cases h3 with
      | lst hl h => exact ⟨_, _, rfl, h2, hl, h⟩
  · cases h2 with
    | lst hl h => exact ⟨_, _, rfl, h1, hl, h⟩
theorem Now.tup {xs : List PV} {v : V} (h : Now D fr H (.tup xs) v) : ∃ a vs, v = .ref a ∧ H a = some (.tup vs) ∧ xs.length ≤ sizeLine ∧ Rels D fr H xs vs := by
  rcases h with h | ⟨a, o, rfl, h1, h2⟩
  · cases h with
    | con h1 h2 h3 => cases h3 with
      | tup hl h => exact ⟨_, _, rfl, h2, hl, h⟩
  · cases h2 with
    | tup hl h => exact ⟨_, _, rfl, h1, hl, h⟩
theorem Now.dic {xs : List (PV × PV)} {v : V} (h : Now D fr H (.dic xs) v) : ∃ a vs, v = .ref a ∧ H a = some (.dK vs) ∧ xs.length ≤ sizeLine ∧ RelD D fr H xs vs := by
  rcases h with h | ⟨a, o, rfl, h1, h2⟩
  · cases h with
    | con h1 h2 h3 => cases h3 with
      | dic hl h => exact ⟨_, _, rfl, h2, hl, h⟩
  · cases h2 with
    | dic hl h => exact ⟨_, _, rfl, h1, hl, h⟩
theorem Now.int {i : Int} {v : V} (h : Now D fr H (.int i) v) : v = .int i := by
  rcases h with h | ⟨a, o, rfl, h1, h2⟩
  · cases h with
    | con h1 h2 h3 => cases h3
    | int _ => rfl
  · cases h2
theorem Now.bl {i : Bool} {v : V} (h : Now D fr H (.bl i) v) : v = .bl i := by
  rcases h with h | ⟨a, o, rfl, h1, h2⟩
  · cases h with
    | con h1 h2 h3 => cases h3
    | bl _ => rfl
  · cases h2
theorem Now.non {v : V} (h : Now D fr H .non v) : v = .non := by
  rcases h with h | ⟨a, o, rfl, h1, h2⟩
  · cases h with
    | con h1 h2 h3 => cases h3
    | non => rfl
  · cases h2
theorem Now.str {s : S} {v : V} (h : Now D fr H (.str s) v) : v = .str (strOf s) ∧ okS s = true := by
  rcases h with h | ⟨a, o, rfl, h1, h2⟩
  · cases h with
    | con h1 h2 h3 => cases h3
    | str h => exact ⟨rfl, h⟩
  · cases h2
end
end Mi
end S_Mi1
section S_Mi2
set_option Elab.async false
set_option linter.all false
set_option maxRecDepth 100000
set_option maxHeartbeats 4000000
namespace Mi
open PySem PySem.Spec PyProof.Rows L2

/-! ### readings -/
def ExR (D : Stat) (fr : Fr) (H : Hp) (e : PV) (cls : Value) (d : Option Addr) : Prop :=
  ∃ c, cls = .ref (D.ca c) ∧ ((e = .exc c [] ∧ d = none) ∨ ∃ x dd f v, e = .exc c [x] ∧ d = some dd ∧ fr.ow dd = none ∧ H dd = some (.xd [(f, v)]) ∧ Rel D fr H x v)
def Res {α : Type} (D : Stat) (lvl : Nat) (W : WX) (fr : Fr) (H : Hp) (σ : L2.St) (r : R α) (K : α → Fs → Prop) : Prop :=
  match r with
  | .ok a s => K a s
  | .ex e s => ∀ fr' H' cls d, FI D lvl fr' s σ H' → Ev lvl fr H fr' H' → ExR D fr' H' e cls d → W cls d σ H'
  | .no => False
def KV' (D : Stat) (lvl : Nat) (fr : Fr) (H : Hp) (σ : L2.St) (Q : VK) : PV → Fs → Prop := fun v s => ∀ fr' H' v', FI D lvl fr' s σ H' → Ev lvl fr H fr' H' → Rel D fr' H' v v' → Q v' H'
/-- an expression runs as f -/
def tE (D : Stat) (lvl : Nat) (W : WX) (f : M PV) : TE := fun σ H Q => ∃ fr fs, FI D lvl fr fs σ H ∧ Res D lvl W fr H σ (f fs) (KV' D lvl fr H σ Q)
inductive Loc where
  | val (v : PV) | at (i : Nat)
def rd (s : Fs) : Loc → Option PV
  | .val v => some v
  | .at i => match s.sl[i]? with
    | some (.sh v) => some v
    | some (.ow v) => some v
    | _ => none
def LocR (D : Stat) (fr : Fr) (H : Hp) (σ : L2.St) : Loc → V → Prop
  | .val x, v => Rel D fr H x v
  | .at i, v => σ[i]? = some (some v)
/-- an operand: a value, or a name -/
def tO (D : Stat) (lvl : Nat) (W : WX) (f : M Loc) : TE := fun σ H Q => ∃ fr fs, FI D lvl fr fs σ H ∧ Res D lvl W fr H σ (f fs) fun l s => ∀ fr' H' v', FI D lvl fr' s σ H' → Ev lvl fr H fr' H' → LocR D fr' H' σ l v' → Q v' H'
/-- arguments -/
def tAs (D : Stat) (lvl : Nat) (W : WX) (f : M (List PV)) : TA := fun σ H Q => ∃ fr fs, FI D lvl fr fs σ H ∧ Res D lvl W fr H σ (f fs) fun l s => ∀ fr' H' v', FI D lvl fr' s σ H' → Ev lvl fr H fr' H' → Rels D fr' H' l v' → Q v' H'
/-- a test -/
def tB' (D : Stat) (lvl : Nat) (W : WX) (f : M Bool) : TT := fun σ H Q => ∃ fr fs, FI D lvl fr fs σ H ∧ Res D lvl W fr H σ (f fs) fun b s => ∀ fr' H', FI D lvl fr' s σ H' → Ev lvl fr H fr' H' → Q b H'
/-- a new container, held for a moment -/
def tF (D : Stat) (lvl : Nat) (W : WX) (f : M PV) : TE := fun σ H Q => ∃ fr fs, FI D lvl fr fs σ H ∧ Res D lvl W fr H σ (f fs) fun v s => ∀ fr' H' p o, FI D lvl fr' s σ H' → Ev lvl fr H fr' H' → fr'.ow p = some .tmp → H' p = some o → Cont D fr' H' v o → Q (.ref p) H'

section
variable {X : Cx} {D : Stat} {lvl : Nat} {W : WX} {fr fr1 fr' : Fr} {H H1 H' : Hp} {fs s : Fs} {σ : L2.St} {α β : Type}
theorem Res.bind {f : M α} {g : α → M β} {K : β → Fs → Prop} (h : Res D lvl W fr H σ ((M.bind f g) fs) K) : Res D lvl W fr H σ (f fs) fun a s => Res D lvl W fr H σ (g a s) K := by
  unfold M.bind at h
  cases e : f fs with
  | ok a s => rw [e] at h; exact h
  | ex x s => rw [e] at h; exact h
  | no => rw [e] at h; exact h
theorem Res.base {r : R α} {K : α → Fs → Prop} (h : Res D lvl W fr H σ r K) (e : Ev lvl fr H fr1 H1) : Res D lvl W fr1 H1 σ r K := by
  cases r with
  | ok a s => exact h
  | ex x s => exact fun fr' H' cls d I e' q => h fr' H' cls d I (e.trans e') q
  | no => exact h
theorem Res.mono {r : R α} {K K' : α → Fs → Prop} (h : Res D lvl W fr H σ r K) (k : ∀ a s, K a s → K' a s) : Res D lvl W fr H σ r K' := by
  cases r with
  | ok a s => exact k a s h
  | ex x s => exact h
  | no => exact h
theorem PE.imp {e : Expr} {t t' : TE} (h : PE X e t) (k : ∀ σ H Q, t' σ H Q → t σ H Q) : PE X e t' := ⟨fun pins s σ H Q I q => h.run pins s σ H Q I (k σ H Q q)⟩
theorem PT.imp {e : Expr} {t t' : TT} (h : PT X e t) (k : ∀ σ H Q, t' σ H Q → t σ H Q) : PT X e t' := ⟨fun pins s σ H Q I q => h.run pins s σ H Q I (k σ H Q q)⟩
theorem PW.imp {e : Expr} {t t' : TT} (h : PW X e t) (k : ∀ σ H Q, t' σ H Q → t σ H Q) : PW X e t' := ⟨fun w pins s σ H Q I q => h.run w pins s σ H Q I (k σ H Q q)⟩
theorem PA.imp {e : List Expr} {t t' : TA} (h : PA X e t) (k : ∀ σ H Q, t' σ H Q → t σ H Q) : PA X e t' := ⟨fun pos pins s σ H Q I q => h.run pos pins s σ H Q I (k σ H Q q)⟩
theorem rd_now (I : FI D lvl fr fs σ H) {l : Loc} {v : V} {x : PV} (r : LocR D fr H σ l v) (h : rd fs l = some x) : Now D fr H x v := by
  cases l with
  | val y => cases h; exact .inl r
  | «at» i =>
    have r' : σ[i]? = some (some v) := r
    unfold rd at h
    dsimp only at h
    split at h
    · rename_i w q
      cases h
      obtain ⟨v', e, q⟩ := I.sh q
      rw [r'] at e
      cases e
      exact .inl q
    · rename_i w q
      cases h
      obtain ⟨a, o, e, h1, h2, h3⟩ := I.own q
      rw [r'] at e
      cases e
      exact .inr ⟨a, o, rfl, h2, h3⟩
    · cases h
theorem LocR.ev (e : Ev lvl fr H fr' H') {l : Loc} {v : V} (r : LocR D fr H σ l v) : LocR D fr' H' σ l v := by
  cases l with
  | val y => exact Rel.ev e r
  | «at» i => exact r

/-! ### composing -/
theorem nextE {f : M PV} {g : PV → M β} {K : β → Fs → Prop} {Q : VK} (I : FI D lvl fr fs σ H) (h : Res D lvl W fr H σ ((M.bind f g) fs) K)
    (nx : ∀ x s fr1 H1 v, FI D lvl fr1 s σ H1 → Ev lvl fr H fr1 H1 → Rel D fr1 H1 x v → Res D lvl W fr1 H1 σ (g x s) K → Q v H1) : tE D lvl W f σ H Q :=
  ⟨fr, fs, I, (Res.bind h).mono fun x s k fr1 H1 v I1 e r => nx x s fr1 H1 v I1 e r (k.base e)⟩
theorem nextO {f : M Loc} {g : Loc → M β} {K : β → Fs → Prop} {Q : VK} (I : FI D lvl fr fs σ H) (h : Res D lvl W fr H σ ((M.bind f g) fs) K)
    (nx : ∀ x s fr1 H1 v, FI D lvl fr1 s σ H1 → Ev lvl fr H fr1 H1 → LocR D fr1 H1 σ x v → Res D lvl W fr1 H1 σ (g x s) K → Q v H1) : tO D lvl W f σ H Q :=
  ⟨fr, fs, I, (Res.bind h).mono fun x s k fr1 H1 v I1 e r => nx x s fr1 H1 v I1 e r (k.base e)⟩
theorem nextA {f : M (List PV)} {g : List PV → M β} {K : β → Fs → Prop} {Q : List V → Hp → Prop} (I : FI D lvl fr fs σ H) (h : Res D lvl W fr H σ ((M.bind f g) fs) K)
    (nx : ∀ x s fr1 H1 v, FI D lvl fr1 s σ H1 → Ev lvl fr H fr1 H1 → Rels D fr1 H1 x v → Res D lvl W fr1 H1 σ (g x s) K → Q v H1) : tAs D lvl W f σ H Q :=
  ⟨fr, fs, I, (Res.bind h).mono fun x s k fr1 H1 v I1 e r => nx x s fr1 H1 v I1 e r (k.base e)⟩
theorem nextB {f : M Bool} {g : Bool → M β} {K : β → Fs → Prop} {Q : Bool → Hp → Prop} (I : FI D lvl fr fs σ H) (h : Res D lvl W fr H σ ((M.bind f g) fs) K)
    (nx : ∀ x s fr1 H1, FI D lvl fr1 s σ H1 → Ev lvl fr H fr1 H1 → Res D lvl W fr1 H1 σ (g x s) K → Q x H1) : tB' D lvl W f σ H Q :=
  ⟨fr, fs, I, (Res.bind h).mono fun x s k fr1 H1 I1 e => nx x s fr1 H1 I1 e (k.base e)⟩
theorem nextF {f : M PV} {g : PV → M β} {K : β → Fs → Prop} {Q : VK} (I : FI D lvl fr fs σ H) (h : Res D lvl W fr H σ ((M.bind f g) fs) K)
    (nx : ∀ x s fr1 H1 p o, FI D lvl fr1 s σ H1 → Ev lvl fr H fr1 H1 → fr1.ow p = some .tmp → H1 p = some o → Cont D fr1 H1 x o → Res D lvl W fr1 H1 σ (g x s) K → Q (.ref p) H1) : tF D lvl W f σ H Q :=
  ⟨fr, fs, I, (Res.bind h).mono fun x s k fr1 H1 p o I1 e r1 r2 r3 => nx x s fr1 H1 p o I1 e r1 r2 r3 (k.base e)⟩
theorem KV'.base {Q : VK} {v : PV} (h : KV' D lvl fr H σ Q v s) (e : Ev lvl fr H fr1 H1) : KV' D lvl fr1 H1 σ Q v s := fun fr' H' v' I e' r => h fr' H' v' I (e.trans e') r

/-! ### names, constants -/
def fVar (i : Nat) : M PV := fun s => match s.sl[i]? with
  | some (.sh v) => .ok v s
  | some (.ow c) => .ok c { s with sl := s.sl.set i (.sh c) }
  | _ => .no
theorem se_var {i : Nat} {e : Expr} (h : PE X e (tVar i)) : PE X e (tE D lvl W (fVar i)) := by
  refine PE.imp h ?_
  rintro σ H Q ⟨fr, fs, I, h⟩
  unfold fVar at h
  split at h
  · rename_i v q
    obtain ⟨v', e, r⟩ := I.sh q
    exact ⟨v', e, h fr H v' I .refl r⟩
  · rename_i c q
    obtain ⟨fr', v', e, I', ev, r⟩ := I.escape q
    exact ⟨v', e, h fr' H v' I' ev r⟩
  · exact h.elim
def fAt (i : Nat) : M Loc := fun s => match s.sl[i]? with
  | some (.sh _) => .ok (.at i) s
  | some (.ow _) => .ok (.at i) s
  | _ => .no
theorem so_var {i : Nat} {e : Expr} (h : PE X e (tVar i)) : PE X e (tO D lvl W (fAt i)) := by
  refine PE.imp h ?_
  rintro σ H Q ⟨fr, fs, I, h⟩
  unfold fAt at h
  split at h
  · rename_i v q
    obtain ⟨v', e, r⟩ := I.sh q
    exact ⟨v', e, h fr H v' I .refl e⟩
  · rename_i c q
    obtain ⟨a, o, e, h1, h2, h3⟩ := I.own q
    exact ⟨_, e, h fr H _ I .refl e⟩
  · exact h.elim
def fLoc (f : M PV) : M Loc := M.bind f fun v => M.pure (.val v)
theorem so_of {e : Expr} {f : M PV} (h : PE X e (tE D lvl W f)) : PE X e (tO D lvl W (fLoc f)) := by
  refine PE.imp h ?_
  rintro σ H Q ⟨fr, fs, I, h⟩
  exact nextE I h fun x s fr1 H1 v I1 e r k => k fr1 H1 v I1 e r
theorem se_const {e : Expr} {x : PV} {v : V} (h : PE X e (tC v)) (r : ∀ fr H, Rel D fr H x v) : PE X e (tE D lvl W (M.pure x)) := by
  refine PE.imp h ?_
  rintro σ H Q ⟨fr, fs, I, h⟩
  exact h fr H v I .refl (r fr H)
theorem se_int {i : Int} {j pos} : PE X (.Constant (.int i) j pos) (tE D lvl W (M.pure (.int i))) := se_const pe_int fun _ _ => .int i
theorem se_bl {b : Bool} {j pos} : PE X (.Constant (.bool b) j pos) (tE D lvl W (M.pure (.bl b))) := se_const pe_bl fun _ _ => .bl b
theorem se_non {j pos} : PE X (.Constant .none j pos) (tE D lvl W (M.pure .non)) := se_const pe_non fun _ _ => .non
theorem se_str {x : Str} {s : S} {j pos} (h : x = strOf s) (ok : okS s = true) : PE X (.Constant (.str x) j pos) (tE D lvl W (M.pure (.str s))) := by
  subst h
  exact se_const pe_str fun _ _ => .str ok

/-! ### two operands -/
def fOp2 (fa fb : M Loc) (op : PV → PV → Option PV) : M PV := M.bind fa fun la => M.bind fb fun lb => fun s => match rd s la, rd s lb with
  | some x, some y => match op x y with
    | some z => .ok z s
    | none => .no
  | _, _ => .no
/-- the values' operation -/
def OpS (X : Cx) (D : Stat) (f : Value → Value → Sem Value) (op : PV → PV → Option PV) : Prop := ∃ r : R2, OpR X f r ∧ ∀ (lvl : Nat) (fr : Fr) (fs : Fs) (σ : L2.St) (H : Hp) (x y : PV) (x' y' : V) (z : PV) (Q : VK),
  FI D lvl fr fs σ H → Now D fr H x x' → Now D fr H y y' → op x y = some z → KV' D lvl fr H σ Q z fs → r x' y' H Q
theorem op2_run {f : Value → Value → Sem Value} {op : PV → PV → Option PV} {fa fb : M Loc} {r : R2} {Q : VK}
    (hs : ∀ (lvl : Nat) (fr : Fr) (fs : Fs) (σ : L2.St) (H : Hp) (x y : PV) (x' y' : V) (z : PV) (Q : VK), FI D lvl fr fs σ H → Now D fr H x x' → Now D fr H y y' → op x y = some z → KV' D lvl fr H σ Q z fs → r x' y' H Q)
    (h : tE D lvl W (fOp2 fa fb op) σ H Q) : tOp r (tO D lvl W fa) (tO D lvl W fb) σ H Q := by
  obtain ⟨fr, fs, I, h⟩ := h
  refine nextO I h fun l s fr1 H1 x' I1 e1 r1 h1 => nextO I1 h1 fun l2 s2 fr2 H2 y' I2 e2 r2 h2 => ?_
  split at h2
  · rename_i x y hx hy
    split at h2
    · rename_i z hz
      exact hs lvl fr2 s2 σ H2 x y x' y' z Q I2 (rd_now I2 (r1.ev e2) hx) (rd_now I2 r2 hy) hz (KV'.base h2 (e1.trans e2))
    · exact h2.elim
  · exact h2.elim
variable {a b c : Expr} {pos : Pos} {fa fb fc : M Loc} {op op2 : PV → PV → Option PV}
theorem se_bin {o : Operator} (ho : OpS X D (binaryOp o) op) (ha : PE X a (tO D lvl W fa)) (hb : PE X b (tO D lvl W fb)) : PE X (.BinOp a o b pos) (tE D lvl W (fOp2 fa fb op)) := by
  obtain ⟨r, hr, hs⟩ := ho
  exact PE.imp (pe_op hr ha hb) fun σ H Q h => op2_run hs h (f := binaryOp o)
theorem se_cmp {o : CmpOp} (ho : OpS X D (compareOp o) op) (ha : PE X a (tO D lvl W fa)) (hb : PE X b (tO D lvl W fb)) (hm : behindInMarks o b = false) : PE X (.Compare a [o] [b] pos) (tE D lvl W (fOp2 fa fb op)) := by
  obtain ⟨r, hr, hs⟩ := ho
  exact PE.imp (pe_cmpR hr ha hb hm) fun σ H Q h => op2_run hs h (f := compareOp o)
/-- a value that is a bool -/
def asB (f : M PV) : M Bool := M.bind f fun v => fun s => match v with
  | .bl b => .ok b s
  | _ => .no
theorem asB_run {f : M PV} {Q : Bool → Hp → Prop} (h : tB' D lvl W (asB f) σ H Q) : tE D lvl W f σ H fun x H1 => ∃ k, x = .bl k ∧ Q k H1 := by
  obtain ⟨fr, fs, I, h⟩ := h
  refine nextE I h fun x s fr1 H1 v I1 e1 r1 h1 => ?_
  cases r1 with
  | bl b => exact ⟨b, rfl, h1 fr1 H1 I1 e1⟩
  | con _ _ k => cases k <;> exact h1.elim
  | _ => exact h1.elim
theorem st_cmp {o : CmpOp} (ho : OpS X D (compareOp o) op) (ha : PE X a (tO D lvl W fa)) (hb : PE X b (tO D lvl W fb)) (hm : behindInMarks o b = false) : PT X (.Compare a [o] [b] pos) (tB' D lvl W (asB (fOp2 fa fb op))) := by
  obtain ⟨r, hr, hs⟩ := ho
  exact PT.imp (pt_cmpR hr ha hb hm) fun σ H Q h => op2_run hs (asB_run h) (f := compareOp o)
theorem st_val {e : Expr} {f : M PV} (h : PE X e (tE D lvl W f)) (he : ∀ whole, isTrue e X.env whole = (do let v ← whole; standAt e.pos; holding [v] (truthy v)) := by intro _; rfl) : PT X e (tB' D lvl W (asB f)) :=
  PT.imp (pt_val h he) fun σ H Q h => asB_run h
/-- a op b op2 c -/
def fChain (fa fb fc : M Loc) (op op2 : PV → PV → Option PV) : M PV := M.bind fa fun la => M.bind fb fun lb => fun s => match rd s la, rd s lb with
  | some x, some y => match op x y with
    | some (.bl true) => (M.bind fc fun lc => fun s2 => match rd s2 lb, rd s2 lc with
      | some y2, some z => match op2 y2 z with
        | some w => .ok w s2
        | none => .no
      | _, _ => .no) s
    | some (.bl false) => .ok (.bl false) s
    | _ => .no
  | _, _ => .no
theorem chain_run {o o2 : CmpOp} {r r2 : R2} {Q : VK}
    (hs : ∀ (lvl : Nat) (fr : Fr) (fs : Fs) (σ : L2.St) (H : Hp) (x y : PV) (x' y' : V) (z : PV) (Q : VK), FI D lvl fr fs σ H → Now D fr H x x' → Now D fr H y y' → op x y = some z → KV' D lvl fr H σ Q z fs → r x' y' H Q)
    (hs2 : ∀ (lvl : Nat) (fr : Fr) (fs : Fs) (σ : L2.St) (H : Hp) (x y : PV) (x' y' : V) (z : PV) (Q : VK), FI D lvl fr fs σ H → Now D fr H x x' → Now D fr H y y' → op2 x y = some z → KV' D lvl fr H σ Q z fs → r2 x' y' H Q)
    (h : tE D lvl W (fChain fa fb fc op op2) σ H Q) : tChain r r2 (tO D lvl W fa) (tO D lvl W fb) (tO D lvl W fc) σ H Q := by
  obtain ⟨fr, fs, I, h⟩ := h
  refine nextO I h fun l s fr1 H1 x' I1 e1 r1 h1 => nextO I1 h1 fun l2 s2 fr2 H2 y' I2 e2 q2 h2 => ?_
  split at h2
  · rename_i x y hx hy
    split at h2
    · rename_i hz
      refine hs lvl fr2 s2 σ H2 x y x' y' (.bl true) _ I2 (rd_now I2 (r1.ev e2) hx) (rd_now I2 q2 hy) hz fun fr3 H3 v3 I3 e3 r3 => ?_
      cases r3 with
      | con h1 h2 h3 => cases h3
      | bl b =>
        refine ⟨true, rfl, ?_⟩
        rw [if_pos rfl]
        refine nextO I3 (h2.base e3) fun l4 s4 fr4 H4 w' I4 e4 q4 h4 => ?_
        split at h4
        · rename_i y2 z hy2 hz2
          split at h4
          · rename_i w hw
            exact hs2 lvl fr4 s4 σ H4 y2 z y' w' w Q I4 (rd_now I4 ((q2.ev e3).ev e4) hy2) (rd_now I4 q4 hz2) hw (KV'.base h4 (((e1.trans e2).trans e3).trans e4))
          · exact h4.elim
        · exact h4.elim
    · rename_i hz
      refine hs lvl fr2 s2 σ H2 x y x' y' (.bl false) _ I2 (rd_now I2 (r1.ev e2) hx) (rd_now I2 q2 hy) hz fun fr3 H3 v3 I3 e3 r3 => ?_
      cases r3 with
      | con h1 h2 h3 => cases h3
      | bl b =>
        refine ⟨false, rfl, ?_⟩
        rw [if_neg Bool.false_ne_true]
        exact h2 fr3 H3 _ I3 ((e1.trans e2).trans e3) (.bl false)
    · exact h2.elim
  · exact h2.elim
theorem se_chain {o o2 : CmpOp} (ho : OpS X D (compareOp o) op) (ho2 : OpS X D (compareOp o2) op2) (ha : PE X a (tO D lvl W fa)) (hb : PE X b (tO D lvl W fb)) (hc : PE X c (tO D lvl W fc))
    (hm : lastMarks [o, o2] [b, c] = false := by with_unfolding_all rfl) : PE X (.Compare a [o, o2] [b, c] pos) (tE D lvl W (fChain fa fb fc op op2)) := by
  obtain ⟨r, hr, hs⟩ := ho
  obtain ⟨r2, hr2, hs2⟩ := ho2
  exact PE.imp (pe_chain hr hr2 ha hb hc hm) fun σ H Q h => chain_run hs hs2 h (o := o) (o2 := o2)
theorem st_chain {o o2 : CmpOp} (ho : OpS X D (compareOp o) op) (ho2 : OpS X D (compareOp o2) op2) (ha : PE X a (tO D lvl W fa)) (hb : PE X b (tO D lvl W fb)) (hc : PE X c (tO D lvl W fc))
    (hm : lastMarks [o, o2] [b, c] = false := by with_unfolding_all rfl) : PT X (.Compare a [o, o2] [b, c] pos) (tB' D lvl W (asB (fChain fa fb fc op op2))) := by
  obtain ⟨r, hr, hs⟩ := ho
  obtain ⟨r2, hr2, hs2⟩ := ho2
  exact PT.imp (pt_chain hr hr2 ha hb hc hm) fun σ H Q h => chain_run hs hs2 (asB_run h) (o := o) (o2 := o2)

/-! ### and, or, not, if .. else -/
def fAnd (f g : M Bool) : M Bool := M.bind f fun b => if b = true then g else M.pure false
def fOr (f g : M Bool) : M Bool := M.bind f fun b => if b = true then M.pure true else g
def fNot (f : M Bool) : M Bool := M.bind f fun b => M.pure (!b)
def ofB (f : M Bool) : M PV := M.bind f fun b => M.pure (.bl b)
def fIte {α : Type} (c : M Bool) (f g : M α) : M α := M.bind c fun b => if b = true then f else g
variable {gA gB : M Bool} {fA fB : M PV} {rest : List Expr}
theorem sw_and1 (ha : PT X a (tB' D lvl W gA)) : PW X (.BoolOp .And [a] pos) (tB' D lvl W gA) := pw_and1 ha
theorem sw_or1 (ha : PT X a (tB' D lvl W gA)) : PW X (.BoolOp .Or [a] pos) (tB' D lvl W gA) := pw_or1 ha
theorem sw_and (ha : PT X a (tB' D lvl W gA)) (hb : PW X (.BoolOp .And (b :: rest) pos) (tB' D lvl W gB)) : PW X (.BoolOp .And (a :: b :: rest) pos) (tB' D lvl W (fAnd gA gB)) := by
  refine PW.imp (pw_and ha hb) ?_
  rintro σ H Q ⟨fr, fs, I, h⟩
  refine nextB I h fun x s fr1 H1 I1 e1 h1 => ?_
  cases x with
  | true => rw [if_pos rfl] at h1 ⊢; exact ⟨fr1, s, I1, h1.mono fun b s k fr' H' I' e' => k fr' H' I' (e1.trans e')⟩
  | false => rw [if_neg Bool.false_ne_true] at h1 ⊢; exact h1 fr1 H1 I1 e1
theorem sw_or (ha : PT X a (tB' D lvl W gA)) (hb : PW X (.BoolOp .Or (b :: rest) pos) (tB' D lvl W gB)) : PW X (.BoolOp .Or (a :: b :: rest) pos) (tB' D lvl W (fOr gA gB)) := by
  refine PW.imp (pw_or ha hb) ?_
  rintro σ H Q ⟨fr, fs, I, h⟩
  refine nextB I h fun x s fr1 H1 I1 e1 h1 => ?_
  cases x with
  | true => rw [if_pos rfl] at h1 ⊢; exact h1 fr1 H1 I1 e1
  | false => rw [if_neg Bool.false_ne_true] at h1 ⊢; exact ⟨fr1, s, I1, h1.mono fun b s k fr' H' I' e' => k fr' H' I' (e1.trans e')⟩
theorem st_not (ha : PT X a (tB' D lvl W gA)) : PT X (.UnaryOp .Not a pos) (tB' D lvl W (fNot gA)) := by
  refine PT.imp (pt_not ha) ?_
  rintro σ H Q ⟨fr, fs, I, h⟩
  exact nextB I h fun x s fr1 H1 I1 e1 h1 => h1 fr1 H1 I1 e1
def fAndV (f g : M PV) : M PV := M.bind f fun v => match v with
  | .bl true => g
  | .bl false => M.pure (.bl false)
  | _ => fun _ => .no
def fOrV (f g : M PV) : M PV := M.bind f fun v => match v with
  | .bl true => M.pure (.bl true)
  | .bl false => g
  | _ => fun _ => .no
def fNotV (f : M PV) : M PV := M.bind f fun v => match v with
  | .bl b => M.pure (.bl (!b))
  | _ => fun _ => .no
theorem se_one {o} (ha : PE X a (tE D lvl W fA)) : PE X (.BoolOp o [a] pos) (tE D lvl W fA) := pe_one ha
theorem se_and (ha : PE X a (tE D lvl W fA)) (hb : PE X (.BoolOp .And (b :: rest) pos) (tE D lvl W fB)) : PE X (.BoolOp .And (a :: b :: rest) pos) (tE D lvl W (fAndV fA fB)) := by
  refine PE.imp (pe_and ha hb) ?_
  rintro σ H Q ⟨fr, fs, I, h⟩
  refine nextE I h fun x s fr1 H1 v I1 e1 r1 h1 => ?_
  cases r1 with
  | bl b => cases b with
    | true => exact ⟨true, rfl, fr1, s, I1, h1.mono fun b s k => KV'.base k e1⟩
    | false => exact ⟨false, rfl, h1 fr1 H1 _ I1 e1 (.bl false)⟩
  | con h1' h2 h3 => cases h3 <;> exact h1.elim
  | _ => exact h1.elim
theorem se_or (ha : PE X a (tE D lvl W fA)) (hb : PE X (.BoolOp .Or (b :: rest) pos) (tE D lvl W fB)) : PE X (.BoolOp .Or (a :: b :: rest) pos) (tE D lvl W (fOrV fA fB)) := by
  refine PE.imp (pe_or ha hb) ?_
  rintro σ H Q ⟨fr, fs, I, h⟩
  refine nextE I h fun x s fr1 H1 v I1 e1 r1 h1 => ?_
  cases r1 with
  | bl b => cases b with
    | true => exact ⟨true, rfl, h1 fr1 H1 _ I1 e1 (.bl true)⟩
    | false => exact ⟨false, rfl, fr1, s, I1, h1.mono fun b s k => KV'.base k e1⟩
  | con h1' h2 h3 => cases h3 <;> exact h1.elim
  | _ => exact h1.elim
theorem se_not (ha : PE X a (tE D lvl W fA)) : PE X (.UnaryOp .Not a pos) (tE D lvl W (fNotV fA)) := by
  refine PE.imp (pe_not ha) ?_
  rintro σ H Q ⟨fr, fs, I, h⟩
  refine nextE I h fun x s fr1 H1 v I1 e1 r1 h1 => ?_
  cases r1 with
  | bl b => exact ⟨b, rfl, h1 fr1 H1 _ I1 e1 (.bl _)⟩
  | con h1' h2 h3 => cases h3 <;> exact h1.elim
  | _ => exact h1.elim
theorem se_ite (hc : PT X c (tB' D lvl W gA)) (ha : PE X a (tE D lvl W fA)) (hb : PE X b (tE D lvl W fB)) : PE X (.IfExp c a b pos) (tE D lvl W (fIte gA fA fB)) := by
  refine PE.imp (pe_ifExp hc ha hb) ?_
  rintro σ H Q ⟨fr, fs, I, h⟩
  refine nextB I h fun x s fr1 H1 I1 e1 h1 => ?_
  cases x with
  | true => rw [if_pos rfl] at h1 ⊢; exact ⟨fr1, s, I1, h1.mono fun b s k => KV'.base k e1⟩
  | false => rw [if_neg Bool.false_ne_true] at h1 ⊢; exact ⟨fr1, s, I1, h1.mono fun b s k => KV'.base k e1⟩

/-! ### arguments, displays -/
def fNil : M (List PV) := M.pure []
def fCons (f : M PV) (g : M (List PV)) : M (List PV) := M.bind f fun x => M.bind g fun xs => M.pure (x :: xs)
theorem sa_nil : PA X [] (tAs D lvl W fNil) := PA.imp pa_nil fun σ H Q ⟨fr, fs, I, h⟩ => h fr H [] I .refl .nil
theorem sa_cons {e : Expr} {es : List Expr} {f : M PV} {g : M (List PV)} (ha : PE X e (tE D lvl W f)) (hr : PA X es (tAs D lvl W g)) (hs : starEach (e :: es) X.env = (false, eval e X.env) :: starEach es X.env := by rfl) :
    PA X (e :: es) (tAs D lvl W (fCons f g)) := by
  refine PA.imp (pa_cons ha hr hs) ?_
  rintro σ H Q ⟨fr, fs, I, h⟩
  exact nextE I h fun x s fr1 H1 v I1 e1 r1 h1 => nextA I1 h1 fun xs s2 fr2 H2 vs I2 e2 r2 h2 => h2 fr2 H2 _ I2 (e1.trans e2) (.cons (r1.ev e2) r2)
def lenOk {α : Type} (xs : List α) : Bool := decide (xs.length ≤ sizeLine)
def fTup (g : M (List PV)) : M PV := M.bind g fun xs => if lenOk xs = true then M.pure (.tup xs) else fun _ => .no
def fLst (g : M (List PV)) : M PV := M.bind g fun xs => if lenOk xs = true then M.pure (.lst xs) else fun _ => .no
/-- a container that is held becomes shared -/
theorem se_of {e : Expr} {f : M PV} (h : PE X e (tF D lvl W f)) : PE X e (tE D lvl W f) := by
  refine PE.imp h ?_
  rintro σ H Q ⟨fr, fs, I, h⟩
  refine ⟨fr, fs, I, h.mono fun v s k fr' H' p o I' e' h1 h2 h3 => ?_⟩
  have ev : Ev lvl fr' H' (reow fr' p none) H' := ev_reow (nkp_tmp h1)
  exact k _ H' _ (I'.untmp h1 (by intro _ z; cases z)) (e'.trans ev) (.con reow_same h2 (Cont.ev ev h3))
theorem sf_lst {es : List Expr} {g : M (List PV)} (h : PA X es (tAs D lvl W g)) : PE X (.List es pos) (tF D lvl W (fLst g)) := by
  refine PE.imp (pe_lst h) ?_
  rintro σ H Q ⟨fr, fs, I, h⟩
  refine nextA I h fun xs s fr1 H1 vs I1 e1 r1 h1 => ?_
  split at h1
  · rename_i hl
    have hl' : xs.length ≤ sizeLine := of_decide_eq_true hl
    refine ⟨by rw [r1.length]; exact hl', fun p np => ?_⟩
    exact h1 _ _ p _ (I1.newTmp np) (e1.trans (ev_newOw np)) reow_same upd_same (.lst hl' (r1.ev (ev_newOw (lvl := lvl) np)))
  · exact h1.elim
theorem se_tup {es : List Expr} {g : M (List PV)} {x1} (h : PA X es (tAs D lvl W g)) : PE X (.Tuple es x1 pos) (tE D lvl W (fTup g)) := by
  refine PE.imp (pe_tup h) ?_
  rintro σ H Q ⟨fr, fs, I, h⟩
  refine nextA I h fun xs s fr1 H1 vs I1 e1 r1 h1 => ?_
  split at h1
  · rename_i hl
    have hl' : xs.length ≤ sizeLine := of_decide_eq_true hl
    refine ⟨by rw [r1.length]; exact hl', fun p np => ?_⟩
    have ev : Ev lvl fr1 H1 fr1 (upd H1 p (.tup vs)) := ev_new np
    exact h1 _ _ _ (I1.new np) (e1.trans ev) (.con (I1.gi.free np) upd_same (.tup hl' (r1.ev ev)))
  · exact h1.elim
end
end Mi
end S_Mi2
section S_Mi3
set_option Elab.async false
set_option linter.all false
set_option maxRecDepth 100000
set_option maxHeartbeats 4000000
namespace Mi
open PySem PySem.Spec PyProof.Rows L2

/-- a returned value: new and nobody else's, or shared -/
def RetR (D : Stat) (fr : Fr) (H : Hp) (v : PV) : Bool → V → Prop
  | true, v' => ∃ p o, v' = .ref p ∧ fr.ow p = some .tmp ∧ H p = some o ∧ Cont D fr H v o
  | false, v' => Rel D fr H v v'
def ResS (D : Stat) (lvl : Nat) (W : WX) (fr : Fr) (H : Hp) (r : R Fl) (Dn : Ends) : Prop :=
  match r with
  | .ok .nx s => ∀ fr' σ' H', FI D lvl fr' s σ' H' → Ev lvl fr H fr' H' → Dn.nx σ' H'
  | .ok .bk s => ∀ fr' σ' H', FI D lvl fr' s σ' H' → Ev lvl fr H fr' H' → Dn.bk σ' H'
  | .ok .ct s => ∀ fr' σ' H', FI D lvl fr' s σ' H' → Ev lvl fr H fr' H' → Dn.ct σ' H'
  | .ok (.rt v b) s => ∀ fr' σ' H' v', FI D lvl fr' s σ' H' → Ev lvl fr H fr' H' → RetR D fr' H' v b v' → Dn.rt v' H'
  | .ex e s => ∀ fr' σ' H' cls d, FI D lvl fr' s σ' H' → Ev lvl fr H fr' H' → ExR D fr' H' e cls d → W cls d σ' H'
  | .no => False
def tS (D : Stat) (lvl : Nat) (W : WX) (f : M Fl) : TS := fun Dn σ H => ∃ fr fs, FI D lvl fr fs σ H ∧ ResS D lvl W fr H (f fs) Dn
/-- a target gets x -/
def tG (D : Stat) (lvl : Nat) (ws : List Nat) (g : PV → Fs → Option Fs) : TG := fun v' σ H Q => ∃ fr fs x s, FI D lvl fr fs σ H ∧ Rel D fr H x v' ∧ g x fs = some s ∧ ∀ fr' σ' H', FI D lvl fr' s σ' H' → Ev lvl fr H fr' H' → wipe σ' ws = wipe σ ws → Q σ' H'
def tGs (D : Stat) (lvl : Nat) (ws : List Nat) (g : List PV → Fs → Option Fs) : TGs := fun vs' σ H Q => ∃ fr fs xs s, FI D lvl fr fs σ H ∧ Rels D fr H xs vs' ∧ g xs fs = some s ∧ ∀ fr' σ' H', FI D lvl fr' s σ' H' → Ev lvl fr H fr' H' → wipe σ' ws = wipe σ ws → Q σ' H'
theorem wipe_get (σ : L2.St) : ∀ (ws : List Nat) (i : Nat), (wipe σ ws)[i]? = if i ∈ ws then (if i < σ.length then some none else none) else σ[i]?
  | [], i => by simp [wipe]
  | v :: ws, i => by
    unfold wipe
    rw [List.getElem?_set, wipe_length, wipe_get σ ws i]
    by_cases h : v = i
    · subst h
      simp
    · have h' : ¬ i = v := fun z => h z.symm
      simp [h, h']
theorem wipe_set {σ : L2.St} {i : Nat} {v : Option V} {ws : List Nat} (h : i ∈ ws) : wipe (σ.set i v) ws = wipe σ ws := by
  apply List.ext_getElem?
  intro j
  rw [wipe_get, wipe_get, List.length_set]
  by_cases hj : j ∈ ws
  · rw [if_pos hj, if_pos hj]
  · rw [if_neg hj, if_neg hj, List.getElem?_set_ne]
    intro z
    subst z
    exact hj h
section
variable {X : Cx} {D : Stat} {lvl : Nat} {W : WX} {ws : List Nat} {fr fr1 fr' : Fr} {H H1 H' : Hp} {fs s : Fs} {σ : L2.St} {α β : Type} {pos : Pos} {st : Stmt} {sts : List Stmt} {Dn : Ends}
theorem PS.imp {t t' : TS} (h : PS X st t) (k : ∀ Dn σ H, t' Dn σ H → t Dn σ H) : PS X st t' := ⟨fun pins s σ H Q I q => h.run pins s σ H Q I (k Q σ H q)⟩
theorem PSs.imp {t t' : TS} (h : PSs X sts t) (k : ∀ Dn σ H, t' Dn σ H → t Dn σ H) : PSs X sts t' := ⟨fun pins s σ H Q I q => h.run pins s σ H Q I (k Q σ H q)⟩
theorem PG.imp {e : Expr} {t t' : TG} (h : PG X e t) (k : ∀ v σ H Q, t' v σ H Q → t v σ H Q) : PG X e t' := ⟨fun pins s σ H v u Q I r q => h.run pins s σ H v u Q I r (k v σ H Q q)⟩
theorem PGs.imp {e : List Expr} {t t' : TGs} (h : PGs X e t) (k : ∀ v σ H Q, t' v σ H Q → t v σ H Q) : PGs X e t' := ⟨fun pins s σ H v u Q I r q => h.run pins s σ H v u Q I r (k v σ H Q q)⟩
theorem ResS.base {r : R Fl} (h : ResS D lvl W fr H r Dn) (e : Ev lvl fr H fr1 H1) : ResS D lvl W fr1 H1 r Dn := by
  match r, h with
  | .ok .nx s, h => exact fun fr' σ' H' I e' => h fr' σ' H' I (e.trans e')
  | .ok .bk s, h => exact fun fr' σ' H' I e' => h fr' σ' H' I (e.trans e')
  | .ok .ct s, h => exact fun fr' σ' H' I e' => h fr' σ' H' I (e.trans e')
  | .ok (.rt v b) s, h => exact fun fr' σ' H' v' I e' => h fr' σ' H' v' I (e.trans e')
  | .ex x s, h => exact fun fr' σ' H' cls d I e' => h fr' σ' H' cls d I (e.trans e')
/-- an expression, then a statement's rest -/
theorem ResS.bind {f : M α} {g : α → M Fl} (h : ResS D lvl W fr H ((M.bind f g) fs) Dn) : Res D lvl W fr H σ (f fs) fun a s => ResS D lvl W fr H (g a s) Dn := by
  unfold M.bind at h
  cases e : f fs with
  | ok a s => rw [e] at h; exact h
  | ex x s => rw [e] at h; exact fun fr' H' cls d I e' q => h fr' σ H' cls d I e' q
  | no => rw [e] at h; exact h
theorem nextSE {f : M PV} {g : PV → M Fl} {Q : VK} (I : FI D lvl fr fs σ H) (h : ResS D lvl W fr H ((M.bind f g) fs) Dn)
    (nx : ∀ x s fr1 H1 v, FI D lvl fr1 s σ H1 → Ev lvl fr H fr1 H1 → Rel D fr1 H1 x v → ResS D lvl W fr1 H1 (g x s) Dn → Q v H1) : tE D lvl W f σ H Q :=
  ⟨fr, fs, I, (ResS.bind h).mono fun x s k fr1 H1 v I1 e r => nx x s fr1 H1 v I1 e r (k.base e)⟩
theorem nextSO {f : M Loc} {g : Loc → M Fl} {Q : VK} (I : FI D lvl fr fs σ H) (h : ResS D lvl W fr H ((M.bind f g) fs) Dn)
    (nx : ∀ x s fr1 H1 v, FI D lvl fr1 s σ H1 → Ev lvl fr H fr1 H1 → LocR D fr1 H1 σ x v → ResS D lvl W fr1 H1 (g x s) Dn → Q v H1) : tO D lvl W f σ H Q :=
  ⟨fr, fs, I, (ResS.bind h).mono fun x s k fr1 H1 v I1 e r => nx x s fr1 H1 v I1 e r (k.base e)⟩
theorem nextSB {f : M Bool} {g : Bool → M Fl} {Q : Bool → Hp → Prop} (I : FI D lvl fr fs σ H) (h : ResS D lvl W fr H ((M.bind f g) fs) Dn)
    (nx : ∀ x s fr1 H1, FI D lvl fr1 s σ H1 → Ev lvl fr H fr1 H1 → ResS D lvl W fr1 H1 (g x s) Dn → Q x H1) : tB' D lvl W f σ H Q :=
  ⟨fr, fs, I, (ResS.bind h).mono fun x s k fr1 H1 I1 e => nx x s fr1 H1 I1 e (k.base e)⟩
theorem nextSF {f : M PV} {g : PV → M Fl} {Q : VK} (I : FI D lvl fr fs σ H) (h : ResS D lvl W fr H ((M.bind f g) fs) Dn)
    (nx : ∀ x s fr1 H1 p o, FI D lvl fr1 s σ H1 → Ev lvl fr H fr1 H1 → fr1.ow p = some .tmp → H1 p = some o → Cont D fr1 H1 x o → ResS D lvl W fr1 H1 (g x s) Dn → Q (.ref p) H1) : tF D lvl W f σ H Q :=
  ⟨fr, fs, I, (ResS.bind h).mono fun x s k fr1 H1 p o I1 e r1 r2 r3 => nx x s fr1 H1 p o I1 e r1 r2 r3 (k.base e)⟩
theorem nextSA {f : M (List PV)} {g : List PV → M Fl} {Q : List V → Hp → Prop} (I : FI D lvl fr fs σ H) (h : ResS D lvl W fr H ((M.bind f g) fs) Dn)
    (nx : ∀ x s fr1 H1 v, FI D lvl fr1 s σ H1 → Ev lvl fr H fr1 H1 → Rels D fr1 H1 x v → ResS D lvl W fr1 H1 (g x s) Dn → Q v H1) : tAs D lvl W f σ H Q :=
  ⟨fr, fs, I, (ResS.bind h).mono fun x s k fr1 H1 v I1 e r => nx x s fr1 H1 v I1 e r (k.base e)⟩

/-! ### blocks -/
def gNx : M Fl := M.pure .nx
def gSeq (f g : M Fl) : M Fl := fun s => match f s with
  | .ok .nx s1 => g s1
  | r => r
theorem sss_nil : PSs X [] (tS D lvl W gNx) := PSs.imp pss_nil fun Dn σ H ⟨fr, fs, I, h⟩ => h fr σ H I .refl
theorem gSeq_run {f g : M Fl} {Dn : Ends} (h : tS D lvl W (gSeq f g) Dn σ H) : tSeq (tS D lvl W f) (tS D lvl W g) Dn σ H := by
  obtain ⟨fr, fs, I, h⟩ := h
  refine ⟨fr, fs, I, ?_⟩
  unfold gSeq at h
  cases e : f fs with
  | ok a s => cases a with
    | nx => rw [e] at h; exact fun fr' σ' H' I' e' => ⟨fr', s, I', h.base e'⟩
    | bk => rw [e] at h; exact h
    | ct => rw [e] at h; exact h
    | rt v b => rw [e] at h; exact h
  | ex x s => rw [e] at h; exact h
  | no => rw [e] at h; exact h
theorem sss_cons {f g : M Fl} (h1 : PS X st (tS D lvl W f)) (h2 : PSs X sts (tS D lvl W g)) : PSs X (st :: sts) (tS D lvl W (gSeq f g)) := PSs.imp (pss_cons h1 h2) fun _ _ _ h => gSeq_run h
theorem sss_one {f : M Fl} (h1 : PS X st (tS D lvl W f)) : PSs X [st] (tS D lvl W f) := pss_one h1
theorem ss_pass : PS X (.Pass pos) (tS D lvl W gNx) := PS.imp ps_pass fun Dn σ H ⟨fr, fs, I, h⟩ => h fr σ H I .refl
theorem ss_break : PS X (.Break pos) (tS D lvl W (M.pure .bk)) := PS.imp ps_break fun Dn σ H ⟨fr, fs, I, h⟩ => h fr σ H I .refl
theorem ss_continue : PS X (.Continue pos) (tS D lvl W (M.pure .ct)) := PS.imp ps_continue fun Dn σ H ⟨fr, fs, I, h⟩ => h fr σ H I .refl
def gIf (c : M Bool) (f g : M Fl) : M Fl := M.bind c fun b => if b = true then f else g
theorem ss_if {c : Expr} {a b : List Stmt} {gc : M Bool} {f g : M Fl} (hc : PT X c (tB' D lvl W gc)) (ha : PSs X a (tS D lvl W f)) (hb : PSs X b (tS D lvl W g)) : PS X (.If c a b pos) (tS D lvl W (gIf gc f g)) := by
  refine PS.imp (ps_if hc ha hb) ?_
  rintro Dn σ H ⟨fr, fs, I, h⟩
  refine nextSB I h fun x s fr1 H1 I1 e1 h1 => ?_
  cases x with
  | true => rw [if_pos rfl] at h1 ⊢; exact ⟨fr1, s, I1, h1⟩
  | false => rw [if_neg Bool.false_ne_true] at h1 ⊢; exact ⟨fr1, s, I1, h1⟩
def gRet (f : M PV) : M Fl := M.bind f fun v => M.pure (.rt v false)
theorem ss_ret {e : Expr} {f : M PV} (he : PE X e (tE D lvl W f)) : PS X (.Return (some e) pos) (tS D lvl W (gRet f)) := by
  refine PS.imp (ps_ret he) ?_
  rintro Dn σ H ⟨fr, fs, I, h⟩
  exact nextSE I h fun x s fr1 H1 v I1 e1 r1 h1 => h1 fr1 σ H1 v I1 .refl r1
/-- a new container is returned -/
def gRetF (f : M PV) : M Fl := M.bind f fun v => M.pure (.rt v true)
theorem ss_retF {e : Expr} {f : M PV} (he : PE X e (tF D lvl W f)) : PS X (.Return (some e) pos) (tS D lvl W (gRetF f)) := by
  refine PS.imp (ps_ret he) ?_
  rintro Dn σ H ⟨fr, fs, I, h⟩
  exact nextSF I h fun x s fr1 H1 p o I1 e1 r1 r2 r3 h1 => h1 fr1 σ H1 _ I1 .refl ⟨p, o, rfl, r1, r2, r3⟩
/-- a name is returned: a container of its own goes to the caller -/
def gRetN (i : Nat) : M Fl := fun s => match s.sl[i]? with
  | some (.sh v) => .ok (.rt v false) s
  | some (.ow v) => .ok (.rt v true) { s with sl := s.sl.set i .un }
  | _ => .no
/-- a slot's own container is taken out -/
theorem FI.take (I : FI D lvl fr fs σ H) {i : Nat} {c : PV} (h : fs.sl[i]? = some (.ow c)) :
    ∃ fr' a o, σ[i]? = some (some (.ref a)) ∧ FI D lvl fr' { fs with sl := fs.sl.set i .un } σ H ∧ Ev lvl fr H fr' H ∧ fr'.ow a = some .tmp ∧ H a = some o ∧ Cont D fr' H c o := by
  obtain ⟨a, o, e, h1, h2, h3⟩ := I.own h
  have ev : Ev lvl fr H (reow fr a (some .tmp)) H := ev_reow (nkp_slot h1)
  have ne : ∀ b o', fr.ow b = some o' → o' ≠ .slot lvl i → b ≠ a := fun b o' q n z => by rw [z, h1] at q; cases q; exact n rfl
  refine ⟨reow fr a (some .tmp), a, o, e, ⟨I.gi.keep ev.n (fun b o' q g => ⟨?_, rfl⟩) (fun b o' q => ?_) rfl, fun j y q => ?_, by rw [List.length_set]; exact I.ln⟩, ev, reow_same, h2, Cont.ev ev h3⟩
  · rw [reow_ne (ne b _ q (fun z => by rw [z] at g; exact g))]; exact q
  · by_cases z : b = a
    · exact ⟨o, by rw [z]; exact h2⟩
    · rw [reow_ne z] at q; exact I.gi.tr b o' q
  · rcases slot_set q with ⟨rfl, rfl, hl⟩ | ⟨n, q⟩
    · trivial
    · exact (I.sl j y q).keep ev.n fun b q => ⟨reow_ne (ne b _ q (fun z => n (by injection z))), rfl⟩
theorem ss_retN {e : Expr} {i : Nat} (he : PE X e (tVar i)) : PS X (.Return (some e) pos) (tS D lvl W (gRetN i)) := by
  refine PS.imp (ps_ret he) ?_
  rintro Dn σ H ⟨fr, fs, I, h⟩
  unfold gRetN at h
  split at h
  · rename_i v q
    obtain ⟨v', e, r⟩ := I.sh q
    exact ⟨v', e, h fr σ H v' I .refl r⟩
  · rename_i c q
    obtain ⟨fr', a, o, e, I', ev, h1, h2, h3⟩ := I.take q
    exact ⟨_, e, h fr' σ H _ I' ev ⟨a, o, rfl, h1, h2, h3⟩⟩
  · exact h.elim
theorem ss_ret0 : PS X (.Return none pos) (tS D lvl W (M.pure (.rt .non false))) := PS.imp ps_retN fun Dn σ H ⟨fr, fs, I, h⟩ => h fr σ H .non I .refl .non
def gDrop (f : M PV) : M Fl := M.bind f fun _ => gNx
theorem ss_expr {e : Expr} {f : M PV} (he : PE X e (tE D lvl W f)) (hs : swapsWith e none pos.line X.env = pure false := by rfl) : PS X (.Expr e pos) (tS D lvl W (gDrop f)) := by
  refine PS.imp (ps_expr he hs) ?_
  rintro Dn σ H ⟨fr, fs, I, h⟩
  exact nextSE I h fun x s fr1 H1 v I1 e1 r1 h1 => h1 fr1 σ H1 I1 .refl

/-! ### targets -/
def uName (i : Nat) : PV → Fs → Option Fs := fun x s => some { s with sl := s.sl.set i (.sh x) }
theorem sg_name {i : Nat} {e : Expr} (h : PG X e (gName i)) (hw : i ∈ ws := by decide) : PG X e (tG D lvl ws (uName i)) := by
  refine PG.imp h ?_
  rintro v σ H Q ⟨fr, fs, x, s, I, r, e, h⟩
  cases e
  exact h fr _ H (I.setSh r i) .refl (wipe_set hw)
def uNil : List PV → Fs → Option Fs := fun xs s => match xs with
  | [] => some s
  | _ => none
def uCons (g : PV → Fs → Option Fs) (u : List PV → Fs → Option Fs) : List PV → Fs → Option Fs := fun xs s => match xs with
  | x :: r => match g x s with
    | some s1 => u r s1
    | none => none
  | _ => none
theorem sgs_nil : PGs X [] (tGs D lvl ws uNil) := by
  refine PGs.imp pgs_nil ?_
  rintro v σ H Q ⟨fr, fs, xs, s, I, r, e, h⟩
  cases r with
  | nil => cases e; exact ⟨rfl, h fr σ H I .refl rfl⟩
  | cons _ _ => cases e
theorem sgs_cons {e : Expr} {es : List Expr} {g : PV → Fs → Option Fs} {u : List PV → Fs → Option Fs} (h1 : PG X e (tG D lvl ws g)) (h2 : PGs X es (tGs D lvl ws u))
    (hs : (assignEach (e :: es) X.env).map (·.2) = assign e X.env :: (assignEach es X.env).map (·.2) := by rfl) : PGs X (e :: es) (tGs D lvl ws (uCons g u)) := by
  refine PGs.imp (pgs_cons h1 h2 hs) ?_
  rintro v σ H Q ⟨fr, fs, xs, s, I, r, e, h⟩
  cases r with
  | nil => cases e
  | cons r t =>
    rename_i x v xs vs
    unfold uCons at e
    dsimp only at e
    cases q : g x fs with
    | none => rw [q] at e; cases e
    | some s1 =>
      rw [q] at e
      exact ⟨v, vs, rfl, fr, fs, x, s1, I, r, q, fun fr1 σ1 H1 I1 e1 w1 => ⟨fr1, s1, xs, s, I1, Rels.ev e1 t, e, fun fr' σ' H' I' e' w' => h fr' σ' H' I' (e1.trans e') (w'.trans w1)⟩⟩
def uTup (n : Nat) (u : List PV → Fs → Option Fs) : PV → Fs → Option Fs := fun x s => match x with
  | .tup xs => if xs.length = n then u xs s else none
  | _ => none
theorem sg_tup {es : List Expr} {k : Nat} {u : List PV → Fs → Option Fs} {n : Nat} (hc : X.calm = true) (h : PGs X es (tGs D lvl ws u))
    (hn : (assignEach es X.env).length = n := by rfl) (hst : (assignEach es X.env).findIdx? (·.1) = none := by rfl) : PG X (.Tuple es k pos) (tG D lvl ws (uTup n u)) := by
  refine PG.imp (pg_tup hc h hn hst) ?_
  rintro v σ H Q ⟨fr, fs, x, s, I, r, e, h⟩
  cases x with
  | tup xs =>
    have e : (if xs.length = n then u xs fs else none) = some s := e
    by_cases hl : xs.length = n
    · rw [if_pos hl] at e
      obtain ⟨a, vs, rfl, h1, h2, h3⟩ := Now.tup (.inl r)
      exact ⟨a, vs, rfl, .inl (.inl h1), by rw [h3.length]; exact hl, fr, fs, xs, s, I, h3, e, h⟩
    · rw [if_neg hl] at e; cases e
  | _ => cases e
def gAsg (f : M PV) (g : PV → Fs → Option Fs) : M Fl := M.bind f fun v s => match g v s with
  | some s' => .ok .nx s'
  | none => .no
theorem asg_run {f : M PV} {g : PV → Fs → Option Fs} {Dn : Ends} (h : tS D lvl W (gAsg f g) Dn σ H) : tE D lvl W f σ H fun x H1 => tG D lvl ws g x σ H1 Dn.nx := by
  obtain ⟨fr, fs, I, h⟩ := h
  refine nextSE I h fun x s fr1 H1 v I1 e1 r1 h1 => ?_
  cases e : g x s with
  | some s2 => rw [e] at h1; exact ⟨fr1, s, x, s2, I1, r1, e, fun fr' σ' H' I' e' _ => h1 fr' σ' H' I' e'⟩
  | none => rw [e] at h1; exact h1.elim
theorem ss_asg {tg e : Expr} {f : M PV} {g : PV → Fs → Option Fs} (he : PE X e (tE D lvl W f)) (hg : PG X tg (tG D lvl ws g)) (hs : swapsWithSole [tg] e pos.line X.env = pure false := by rfl) (hw : swappedStores [tg] e X.env = pure none := by rfl)
    (h1 : (assignEach [tg] X.env).map (·.2) = [assign tg X.env] := by rfl) : PS X (.Assign [tg] e pos) (tS D lvl W (gAsg f g)) := PS.imp (ps_asg he hg hs hw h1) fun _ _ _ h => asg_run h
/-- name = value; h: ps_set of it, over any reading -/
abbrev SetP (X : Cx) (st : Stmt) (e : Expr) (i : Nat) : Prop := ∀ te : TE, PE X e te → PS X st (tAsg te (gName i))
theorem ss_set {e : Expr} {i : Nat} {f : M PV} (h : SetP X st e i) (he : PE X e (tE D lvl W f)) : PS X st (tS D lvl W (gAsg f (uName i))) := by
  refine PS.imp (h _ he) ?_
  rintro Dn σ H ⟨fr, fs, I, h⟩
  refine nextSE I h fun x s fr1 H1 v I1 e1 r1 h1 => ?_
  exact h1 fr1 _ H1 (I1.setSh r1 i) .refl
/-- name = a new container, the name's own -/
def gOwn (f : M PV) (i : Nat) : M Fl := M.bind f fun v s => .ok .nx { s with sl := s.sl.set i (.ow v) }
theorem ss_own {e : Expr} {i : Nat} {f : M PV} (h : SetP X st e i) (he : PE X e (tF D lvl W f)) : PS X st (tS D lvl W (gOwn f i)) := by
  refine PS.imp (h _ he) ?_
  rintro Dn σ H ⟨fr, fs, I, h⟩
  refine nextSF I h fun x s fr1 H1 p o I1 e1 r1 r2 r3 h1 => ?_
  exact h1 _ _ H1 (I1.setOw r1 r2 r3 i) (ev_reow (nkp_tmp r1))
/-- name op= value -/
def gAug (i : Nat) (f : M PV) (op : PV → PV → Option PV) : M Fl := fun s0 => match s0.sl[i]? with
  | some (.sh x) => (M.bind f fun y s => match op x y with
    | some z => .ok .nx { s with sl := s.sl.set i (.sh z) }
    | none => .no) s0
  | _ => .no
def IpS (X : Cx) (D : Stat) (o : Operator) (op : PV → PV → Option PV) : Prop := ∃ r : TIp, PIp X o r ∧ ∀ (lvl : Nat) (fr : Fr) (fs : Fs) (σ : L2.St) (H : Hp) (x y : PV) (x' y' : V) (z : PV) (Q : VK),
  FI D lvl fr fs σ H → Rel D fr H x x' → Rel D fr H y y' → op x y = some z → KV' D lvl fr H σ Q z fs → r x' y' H Q
theorem ss_aug {e : Expr} {i : Nat} {f : M PV} {o : Operator} {op : PV → PV → Option PV} (ho : IpS X D o op) (h : ∀ te ti, PE X e te → PIp X o ti → PS X st (tAug i te ti)) (he : PE X e (tE D lvl W f)) : PS X st (tS D lvl W (gAug i f op)) := by
  obtain ⟨r, hr, hs⟩ := ho
  refine PS.imp (h _ _ he hr) ?_
  rintro Dn σ H ⟨fr, fs, I, h⟩
  unfold gAug at h
  split at h
  · rename_i x q
    obtain ⟨v, e, rv⟩ := I.sh q
    refine ⟨v, e, nextSE I h fun y s fr1 H1 w I1 e1 r1 h1 => ?_⟩
    split at h1
    · rename_i z hz
      refine hs lvl fr1 s σ H1 x y v w z _ I1 (rv.ev e1) r1 hz fun fr' H' v' I' e' r' => ?_
      exact h1 fr' _ H' (I'.setSh r' i) e'
    · exact h1.elim
  · exact h.elim
/-- x, y = a, b -/
def gPar (i j : Nat) (g : M (List PV)) : M Fl := M.bind g fun vs s => match vs with
  | [v, w] => .ok .nx { s with sl := (s.sl.set i (.sh v)).set j (.sh w) }
  | _ => .no
theorem ss_par {i j : Nat} {es : List Expr} {g : M (List PV)} (h : ∀ ta, PA X es ta → PS X st (tPar i j ta)) (ha : PA X es (tAs D lvl W g)) : PS X st (tS D lvl W (gPar i j g)) := by
  refine PS.imp (h _ ha) ?_
  rintro Dn σ H ⟨fr, fs, I, h⟩
  refine nextSA I h fun xs s fr1 H1 vs I1 e1 r1 h1 => ?_
  cases r1 with
  | nil => exact h1.elim
  | cons ra t => cases t with
    | nil => exact h1.elim
    | cons rb t => cases t with
      | nil => exact ⟨_, _, rfl, h1 fr1 _ H1 ((I1.setSh ra i).setSh rb j) .refl⟩
      | cons _ _ => exact h1.elim
end
end Mi
end S_Mi3
section S_Mi4
set_option Elab.async false
set_option linter.all false
set_option maxRecDepth 100000
set_option maxHeartbeats 4000000
namespace Mi
open PySem PySem.Spec PyProof.Rows L2

/-! ### loops -/
def Gr (H H' : Hp) : Prop := ∀ a u, H a = some u → H' a = some u
section
variable {X : Cx} {D : Stat} {lvl : Nat} {W : WX} {ws : List Nat} {fr fr1 fr' : Fr} {H H1 H' : Hp} {fs s : Fs} {σ : L2.St} {α β : Type} {pos : Pos} {st : Stmt} {sts : List Stmt} {Dn : Ends}
theorem Gr.ev (g : Gr H H') : Ev lvl fr H fr H' := ⟨fun a u e _ => ⟨g a u e, rfl⟩, fun _ _ e => e⟩
theorem Gr.refl : Gr H H := fun _ _ e => e
theorem Gr.new {p : Addr} {o : HO} (h : H p = none) : Gr H (upd H p o) := fun a u e => by rw [upd_ne (ne_of_none e h)]; exact e
theorem FI.grow (I : FI D lvl fr fs σ H) (g : Gr H H') : FI D lvl fr fs σ H' := by
  have k : ∀ a o, fr.ow a = some o → H' a = H a := fun a o q => by
    obtain ⟨u, hu⟩ := I.gi.tr a o q
    rw [hu]; exact g a u hu
  exact ⟨I.gi.keep (g.ev (lvl := lvl)).n (fun a o q _ => ⟨q, k a o q⟩) (fun a o q => let ⟨u, hu⟩ := I.gi.tr a o q; ⟨u, g a u hu⟩) rfl, fun i x q => (I.sl i x q).keep (g.ev (lvl := lvl)).n fun a q => ⟨rfl, k a _ q⟩, I.ln⟩
/-- what an iterator yields: these, however the heap goes on -/
def ItOk (D : Stat) (lvl : Nat) (J : It) (fr : Fr) (H : Hp) (items : List PV) : Prop := ∀ fr2 H2, Ev lvl fr H fr2 H2 → (∀ a o, fr2.ow a = some o → ∃ u, H2 a = some u) →
  (∀ (i : Nat) x, items[i]? = some x → J.go i H2 ∧ ∀ v H3, J.yld i H2 v H3 → Gr H2 H3 ∧ Rel D fr2 H3 x v) ∧ ∀ i, items.length = i → J.stop i H2
def tI (D : Stat) (lvl : Nat) (W : WX) (f : M (List PV)) : TI := fun σ H R => ∃ fr fs, FI D lvl fr fs σ H ∧ Res D lvl W fr H σ (f fs) fun items s => ∀ fr' H' J, FI D lvl fr' s σ H' → Ev lvl fr H fr' H' → ItOk D lvl J fr' H' items → R J H'
theorem PI.imp {tg e : Expr} {t t' : TI} (h : PI X tg e t) (k : ∀ σ H R, t' σ H R → t σ H R) : PI X tg e t' := ⟨fun pins s σ H R I q => h.run pins s σ H R I (k σ H R q)⟩
theorem PI.or {tg e : Expr} {t t' : TI} (h : PI X tg e t) (h' : PI X tg e t') : PI X tg e (fun σ H R => t σ H R ∨ t' σ H R) := ⟨fun pins s σ H R I q => q.elim (h.run pins s σ H R I) (h'.run pins s σ H R I)⟩
theorem nextI {f : M (List PV)} {g : List PV → M Fl} {R : It → Hp → Prop} (I : FI D lvl fr fs σ H) (h : ResS D lvl W fr H ((M.bind f g) fs) Dn)
    (nx : ∀ x s fr1 H1 J, FI D lvl fr1 s σ H1 → Ev lvl fr H fr1 H1 → ItOk D lvl J fr1 H1 x → ResS D lvl W fr1 H1 (g x s) Dn → R J H1) : tI D lvl W f σ H R :=
  ⟨fr, fs, I, (ResS.bind h).mono fun x s k fr1 H1 J I1 e r => nx x s fr1 H1 J I1 e r (k.base e)⟩

def loopF (g : PV → Fs → Option Fs) (b : M Fl) : List PV → M Fl
  | [] => gNx
  | x :: xs => fun s => match g x s with
    | some s1 => match b s1 with
      | .ok .nx s2 => loopF g b xs s2
      | .ok .ct s2 => loopF g b xs s2
      | .ok .bk s2 => .ok .nx s2
      | r => r
    | none => .no
def gFor (f : M (List PV)) (g : PV → Fs → Option Fs) (b : M Fl) : M Fl := M.bind f fun items => loopF g b items
theorem ss_for {tg iter : Expr} {body : List Stmt} {f : M (List PV)} {g : PV → Fs → Option Fs} {b : M Fl} (hp : PassesOwn (model X.prog X.w) X.A X.env X.xe) (hc : X.calm = true) (hi : PI X tg iter (tI D lvl W f)) (hg : PG X tg (tG D lvl ws g)) (hb : PSs X body (tS D lvl W b))
    (hs : ∀ x, foldedSetIterable iter X.env x = pure x := by intro _; rfl) : PS X (.For tg iter body [] pos) (tS D lvl W (gFor f g b)) := by
  refine PS.imp (ps_for hp hc hi hg hb hs) ?_
  rintro Dn σ H ⟨fr, fs, I, h⟩
  refine nextI I h fun items s fr1 H1 J I1 e1 it h1 => ?_
  refine ⟨fun i m σ2 H2 => ∃ fr2 fs2, FI D lvl fr2 fs2 σ2 H2 ∧ Ev lvl fr1 H1 fr2 H2 ∧ i + m = items.length ∧ ResS D lvl W fr1 H1 (loopF g b (items.drop i) fs2) Dn, ⟨items.length, fr1, s, I1, .refl, by omega, h1⟩, ?_⟩
  rintro i m σ2 H2 ⟨fr2, fs2, I2, e2, em, h2⟩
  obtain ⟨on, off⟩ := it fr2 H2 e2 I2.gi.tr
  cases hx : items[i]? with
  | none =>
    have hl : items.length ≤ i := List.getElem?_eq_none_iff.mp hx
    rw [List.drop_of_length_le hl] at h2
    exact .inl ⟨off i (by omega), h2 fr2 σ2 H2 I2 e2⟩
  | some x =>
    obtain ⟨hil, hix⟩ := List.getElem?_eq_some_iff.mp hx
    obtain ⟨go, yl⟩ := on i x hx
    rw [List.drop_eq_getElem_cons hil, hix] at h2
    unfold loopF at h2
    cases hg' : g x fs2 with
    | none => rw [hg'] at h2; exact h2.elim
    | some s3 =>
      rw [hg'] at h2
      refine .inr ⟨go, fun σ' H' => ∃ fr', ∃ fs', FI D lvl fr' fs' σ' H' ∧ Ev lvl fr1 H1 fr' H' ∧ ResS D lvl W fr1 H1 (loopF g b (items.drop (i + 1)) fs') Dn, fun σ' H' ⟨fr', fs', I', e', h'⟩ => ⟨m - 1, by omega, fr', fs', I', e', by omega, h'⟩, fun v H3 hy => ?_⟩
      obtain ⟨gr, r⟩ := yl v H3 hy
      refine ⟨fr2, fs2, x, s3, I2.grow gr, r, hg', fun fr4 σ4 H4 I4 e4 _ => ⟨fr4, s3, I4, ?_⟩⟩
      have ev4 : Ev lvl fr1 H1 fr4 H4 := (e2.trans gr.ev).trans e4
      dsimp only at h2
      cases hb' : b s3 with
      | ok a s5 => cases a with
        | nx => rw [hb'] at h2; exact fun fr' σ' H' I' e' => ⟨fr', s5, I', ev4.trans e', h2⟩
        | ct => rw [hb'] at h2; exact fun fr' σ' H' I' e' => ⟨fr', s5, I', ev4.trans e', h2⟩
        | bk => rw [hb'] at h2; exact ResS.base (r := .ok .nx s5) h2 ev4
        | rt v b => rw [hb'] at h2; exact ResS.base (r := .ok (.rt v b) s5) h2 ev4
      | ex x s5 => rw [hb'] at h2; exact ResS.base (r := .ex x s5) h2 ev4
      | no => rw [hb'] at h2; exact h2
def gWhile (c : M Bool) (b : M Fl) : Nat → M Fl
  | 0 => fun _ => .no
  | n + 1 => M.bind c fun k => if k = true then fun s => match b s with
      | .ok .nx s2 => gWhile c b n s2
      | .ok .ct s2 => gWhile c b n s2
      | .ok .bk s2 => .ok .nx s2
      | r => r
    else gNx
theorem ss_while {c : Expr} {body : List Stmt} {gc : M Bool} {b : M Fl} (n : Nat) (hp : PassesOwn (model X.prog X.w) X.A X.env X.xe) (hc : PT X c (tB' D lvl W gc)) (hb : PSs X body (tS D lvl W b)) : PS X (.While c body [] pos) (tS D lvl W (gWhile gc b n)) := by
  refine PS.imp (ps_while hp hc hb) ?_
  rintro Dn σ H ⟨fr, fs, I, h⟩
  refine ⟨fun m σ2 H2 => ∃ fr2 fs2, FI D lvl fr2 fs2 σ2 H2 ∧ ResS D lvl W fr2 H2 (gWhile gc b m fs2) Dn, ⟨n, fr, fs, I, h⟩, ?_⟩
  rintro m σ2 H2 ⟨fr2, fs2, I2, h2⟩
  cases m with
  | zero => exact h2.elim
  | succ m =>
    unfold gWhile at h2
    refine nextSB I2 h2 fun k s3 fr3 H3 I3 e3 h3 => ?_
    cases k with
    | false => rw [if_neg Bool.false_ne_true] at h3 ⊢; exact h3 fr3 σ2 H3 I3 .refl
    | true =>
      rw [if_pos rfl] at h3 ⊢
      refine ⟨fun σ' H' => ∃ fr' fs', FI D lvl fr' fs' σ' H' ∧ ResS D lvl W fr' H' (gWhile gc b m fs') Dn, fun σ' H' q => ⟨m, Nat.lt_succ_self m, q⟩, fr3, s3, I3, ?_⟩
      cases hb' : b s3 with
      | ok a s5 => cases a with
        | nx => rw [hb'] at h3; exact fun fr' σ' H' I' e' => ⟨fr', s5, I', h3.base e'⟩
        | ct => rw [hb'] at h3; exact fun fr' σ' H' I' e' => ⟨fr', s5, I', h3.base e'⟩
        | bk => rw [hb'] at h3; exact h3
        | rt v b => rw [hb'] at h3; exact h3
      | ex x s5 => rw [hb'] at h3; exact h3
      | no => rw [hb'] at h3; exact h3

/-! ### what is walked -/
theorem itok_list {K : PySem.W.Frag} {a : Addr} {xs : List PV} {vs : List V} (h1 : fr.ow a = none) (h2 : H a = some (.lst vs)) (r : Rels D fr H xs vs) : ItOk D lvl (Itl K a) fr H xs := by
  intro fr2 H2 e tr
  obtain ⟨q1, q2⟩ := e.at h1 h2
  have r2 := Rels.ev e r
  refine ⟨fun i x hx => ?_, fun i hi => ⟨vs, .inl (.inl q2), by rw [r.length]; omega⟩⟩
  obtain ⟨v, hv, rv⟩ := r2.get hx
  refine ⟨⟨vs, v, .inl (.inl q2), hv⟩, fun w H3 ⟨e3, hw⟩ => ?_⟩
  subst e3
  have := hw vs (.inl (.inl q2))
  rw [hv] at this
  cases this
  exact ⟨.refl, rv⟩
theorem itok_tup {K : PySem.W.Frag} {a : Addr} {xs : List PV} {vs : List V} (h1 : fr.ow a = none) (h2 : H a = some (.tup vs)) (r : Rels D fr H xs vs) : ItOk D lvl (Itt K a) fr H xs := by
  intro fr2 H2 e tr
  obtain ⟨q1, q2⟩ := e.at h1 h2
  have r2 := Rels.ev e r
  refine ⟨fun i x hx => ?_, fun i hi => ⟨vs, .inl (.inl q2), by rw [r.length]; omega⟩⟩
  obtain ⟨v, hv, rv⟩ := r2.get hx
  refine ⟨⟨vs, v, .inl (.inl q2), hv⟩, fun w H3 ⟨e3, hw⟩ => ?_⟩
  subst e3
  have := hw vs (.inl (.inl q2))
  rw [hv] at this
  cases this
  exact ⟨.refl, rv⟩
def ch (c : Nat) : PV := .str [c]
theorem okS_one {s : S} {c : Nat} (h : okS s = true) (hc : c ∈ s) : okS [c] = true := by
  unfold okS at h ⊢
  simp only [Bool.and_eq_true, decide_eq_true_eq, List.all_eq_true] at h ⊢
  refine ⟨(by decide : 1 ≤ sizeLine), fun x hx => ?_⟩
  rw [List.mem_singleton] at hx
  subst hx
  exact h.2 _ hc
theorem itok_str {x : S} (ok : okS x = true) : ItOk D lvl (Its (strOf x)) fr H (x.map ch) := by
  intro fr2 H2 e tr
  have sz : (strOf x).cps.size = x.length := List.size_toArray
  refine ⟨fun i y hy => ?_, fun i hi => ?_⟩
  · rw [List.getElem?_map] at hy
    cases hc : x[i]? with
    | none => rw [hc] at hy; cases hy
    | some c =>
      rw [hc] at hy
      cases hy
      have hil := (List.getElem?_eq_some_iff.mp hc).1
      refine ⟨by show i < (strOf x).cps.size; rw [sz]; exact hil, fun v H3 ⟨e3, c', hc', ev⟩ => ?_⟩
      subst e3
      have : x[i]? = some c' := by
        have h : (strOf x).cps[i]? = some c' := hc'
        show x[i]? = some c'
        rw [← h]
        show x[i]? = x.toArray[i]?
        rw [List.getElem?_toArray]
      rw [hc] at this
      cases this
      subst ev
      exact ⟨.refl, .str (okS_one ok (List.mem_of_getElem? hc))⟩
  · show (strOf x).cps.size ≤ i
    rw [sz]
    rw [List.length_map] at hi
    omega
/-- a list, a tuple, a text -/
def fSeq (f : M PV) : M (List PV) := M.bind f fun v => match v with
  | .lst xs => M.pure xs
  | .tup xs => M.pure xs
  | .str x => M.pure (x.map ch)
  | _ => fun _ => .no
theorem nextIE {f : M PV} {g : PV → M (List PV)} {K : List PV → Fs → Prop} {Q : VK} (I : FI D lvl fr fs σ H) (h : Res D lvl W fr H σ ((M.bind f g) fs) K)
    (nx : ∀ x s fr1 H1 v, FI D lvl fr1 s σ H1 → Ev lvl fr H fr1 H1 → Rel D fr1 H1 x v → Res D lvl W fr1 H1 σ (g x s) K → Q v H1) : tE D lvl W f σ H Q := nextE I h nx
theorem si_seq {tg e : Expr} {f : M PV} (he : PE X e (tE D lvl W f)) : PI X tg e (tI D lvl W (fSeq f)) := by
  refine PI.imp (PI.or (pi_list he) (PI.or (pi_tup he) (pi_str he))) ?_
  rintro σ H R ⟨fr, fs, I, h⟩
  have h0 := h
  unfold fSeq M.bind at h
  cases e : f fs with
  | ok a s =>
    rw [e] at h
    dsimp only at h
    cases a with
    | lst xs =>
      refine .inl ⟨fr, fs, I, ?_⟩
      rw [e]
      intro fr1 H1 v I1 e1 r
      cases r with
      | con h1 h2 h3 =>
        cases h3 with
        | lst hl hr => exact ⟨_, rfl, ⟨_, .inl (.inl h2)⟩, h fr1 H1 _ I1 e1 (itok_list h1 h2 hr)⟩
    | tup xs =>
      refine .inr (.inl ⟨fr, fs, I, ?_⟩)
      rw [e]
      intro fr1 H1 v I1 e1 r
      cases r with
      | con h1 h2 h3 =>
        cases h3 with
        | tup hl hr => exact ⟨_, rfl, ⟨_, .inl (.inl h2)⟩, h fr1 H1 _ I1 e1 (itok_tup h1 h2 hr)⟩
    | str x =>
      refine .inr (.inr ⟨fr, fs, I, ?_⟩)
      rw [e]
      intro fr1 H1 v I1 e1 r
      cases r with
      | con h1 h2 h3 => cases h3
      | str ok => exact ⟨_, rfl, h fr1 H1 _ I1 e1 (itok_str ok)⟩
    | _ => exact h.elim
  | ex x s =>
    rw [e] at h
    refine .inl ⟨fr, fs, I, ?_⟩
    rw [e]
    exact h
  | no => rw [e] at h; exact h.elim
/-- ranges -/
def rng1 (n : Int) : List PV := (List.range n.toNat).map fun (k : Nat) => PV.int k
def rngS (i c : Int) (n : Nat) : List PV := (List.range n).map fun (k : Nat) => PV.int (i + k * c)
def inR (i : Int) : Bool := decide (-(2 ^ 62) ≤ i ∧ i < 2 ^ 62)
def fRng1 (f : M (List PV)) : M (List PV) := M.bind f fun vs => match vs with
  | [.int n] => if inR n = true then M.pure (rng1 n) else fun _ => .no
  | _ => fun _ => .no
theorem itok_rng {lo : Int} {n : Nat} {xs : List PV} (hx : xs = (List.range n).map fun (k : Nat) => PV.int (lo + k)) : ItOk D lvl (Itr lo n) fr H xs := by
  subst hx
  intro fr2 H2 e tr
  refine ⟨fun i y hy => ?_, fun i hi => ?_⟩
  · rw [List.getElem?_map] at hy
    cases hc : (List.range n)[i]? with
    | none => rw [hc] at hy; cases hy
    | some c =>
      rw [hc] at hy
      cases hy
      obtain ⟨hl, he⟩ := List.getElem?_eq_some_iff.mp hc
      rw [List.length_range] at hl
      rw [List.getElem_range] at he
      subst he
      exact ⟨hl, fun v H3 ⟨e3, ev⟩ => by subst e3; subst ev; exact ⟨.refl, .int _⟩⟩
  · rw [List.length_map, List.length_range] at hi
    exact Nat.le_of_eq hi
theorem si_range1 {tg a : Expr} {p pos : Pos} {g : M (List PV)} (hg : Gl X "range") (hm : X.mg "range" = none) (ha : PA X [a] (tAs D lvl W g)) (hs : starEach [a] X.env = [(false, eval a X.env)] := by rfl) : PI X tg (.Call (.Name "range" p) [a] [] pos) (tI D lvl W (fRng1 g)) := by
  refine PI.imp (pi_range1 hg hm ha hs) ?_
  rintro σ H R ⟨fr, fs, I, h⟩
  refine nextA I h fun xs s fr1 H1 vs I1 e1 r1 h1 => ?_
  split at h1
  · rename_i n
    split at h1
    · rename_i hn
      have hn' : -(2 ^ 62) ≤ n ∧ n < 2 ^ 62 := of_decide_eq_true hn
      cases r1 with
      | cons ra t =>
        cases t
        cases ra with
        | con _ _ k => cases k
        | int _ => exact ⟨n, rfl, hn'.1, hn'.2, h1 fr1 H1 _ I1 e1 (itok_rng (by unfold rng1; simp))⟩
    · exact h1.elim
  · exact h1.elim
def fRng2 (f : M (List PV)) : M (List PV) := M.bind f fun vs => match vs with
  | [.int a, .int b] => if inR a = true ∧ inR b = true then M.pure (rngS a 1 (b - a).toNat) else fun _ => .no
  | _ => fun _ => .no
theorem si_range2 {tg a b : Expr} {p pos : Pos} {g : M (List PV)} (hg : Gl X "range") (hm : X.mg "range" = none) (ha : PA X [a, b] (tAs D lvl W g)) (hs : starEach [a, b] X.env = [(false, eval a X.env), (false, eval b X.env)] := by rfl) (hs2 : starEach [b] X.env = [(false, eval b X.env)] := by rfl) :
    PI X tg (.Call (.Name "range" p) [a, b] [] pos) (tI D lvl W (fRng2 g)) := by
  refine PI.imp (pi_range2 hg hm ha hs hs2) ?_
  rintro σ H R ⟨fr, fs, I, h⟩
  refine nextA I h fun xs s fr1 H1 vs I1 e1 r1 h1 => ?_
  split at h1
  · rename_i n m
    split at h1
    · rename_i hn
      have hn' : -(2 ^ 62) ≤ n ∧ n < 2 ^ 62 := of_decide_eq_true hn.1
      have hm' : -(2 ^ 62) ≤ m ∧ m < 2 ^ 62 := of_decide_eq_true hn.2
      cases r1 with
      | cons ra t =>
        cases t with
        | cons rb t =>
          cases t
          cases ra with
          | con _ _ k => cases k
          | int _ => cases rb with
            | con _ _ k => cases k
            | int _ => exact ⟨n, m, rfl, ⟨hn'.1, hn'.2, hm'.1, hm'.2⟩, h1 fr1 H1 _ I1 e1 (itok_rng (by unfold rngS; simp))⟩
    · exact h1.elim
  · exact h1.elim
end
end Mi
end S_Mi4
section S_Mi5
set_option Elab.async false
set_option linter.all false
set_option maxRecDepth 100000
set_option maxHeartbeats 4000000
namespace Mi
open PySem PySem.Spec PyProof.Rows L2

/-- a def: its name, how many parameters, its names, what it runs as -/
structure Fd where
  name : Str
  np : Nat
  ns : Nat
  body : Env → M Fl
abbrev Table := Nat → Option Fd
def start0 (np ns : Nat) (args : List PV) : List Slot := args.map Slot.sh ++ List.replicate (ns - np) .un
def runBody (F : Fd) (Γ : Env) (args : List PV) (hp : List Ob) : RC :=
  if args.length = F.np then match F.body Γ ⟨start0 F.np F.ns args, hp⟩ with
    | .ok .nx s => .ok .non false s.hp
    | .ok (.rt v b) s => .ok v b s.hp
    | .ex e s => .ex e s.hp
    | _ => .no
  else .no
/-- all calls, to a depth -/
def G (T : Table) : Nat → Env
  | 0 => fun _ _ _ => .no
  | d + 1 => fun n args hp => match T n with
    | some F => runBody F (G T d) args hp
    | none => .no
/-- the promise of a def -/
def spG (D : Stat) (lvl : Nat) (Γ : Env) (n np : Nat) : Sp := fun vs H Q E => ∃ fr hp args, GI D fr hp H ∧ Rels D fr H args vs ∧ args.length = np ∧ match Γ n args hp with
  | .ok v b hp' => ∀ fr' H' v', GI D fr' hp' H' → Ev lvl fr H fr' H' → RetR D fr' H' v b v' → Q v' H'
  | .ex e hp' => ∀ fr' H' cls d, GI D fr' hp' H' → Ev lvl fr H fr' H' → ExR D fr' H' e cls d → E cls d H'
  | .no => False
/-! ### a def's promise where nothing guards (so repr may be asked) -/
structure GOk (P : Program) (w : World) (K : PySem.W.Frag) (mg : Str → Option Value) (base : Heap) (CX : CXT) (k : Nat) (f : Addr) (fd : FuncData) (ps : List Str) (sp : Sp) : Prop where
  len : ∀ vs H Q E, sp vs H Q E → vs.length = ps.length
  run : ∀ (A : Around) (outer : List PySem.Env) (s : Shared) (H : Hp) (args : Args) (us : List Value) (vs : List V) (Q : VK) (E : XK), Room k A → A.guards = some [] → Env0 P w K mg base A outer s H → BindsTo s fd args (ps.zip us) → Vals vs us → sp vs H Q E →
    codeAny (model P w) A (.call (.ref f) args) (CR CX outer P w H s Q E) s
theorem gfn_of {CX : CXT} {P : Program} {w : World} {K : PySem.W.Frag} {mg : Str → Option Value} {base : Heap} {k : Nat} {f : Addr} {name qual : Str} {params : Arguments} {body : List Stmt} {scope : Scope} {dV kV doc pm cdv ct oc : Value} {an od : Option Addr}
    {osl : Array (Option Value)} {N ps : List Str} {sp : Sp} (lk : K.lookup f = some ⟨oc, od, .func (PySem.W.fnOf name qual params body scope dV kV doc pm an cdv ct), osl⟩) (hcd : PySem.W.codeIn K cdv qual = true) (S : FnScope N ps scope)
    (len : ∀ vs H Q E, sp vs H Q E → vs.length = ps.length)
    (hbody : ∀ (A : Around) (outer : List PySem.Env) (s : Shared) (H : Hp) (vs : List V) (Q : VK) (E : XK), Room k (A.deeper (envOfC qual scope s.heap.objs.size f cdv)) → (A.deeper (envOfC qual scope s.heap.objs.size f cdv)).guards = some [] → sp vs H Q E →
      ∃ t, PSs (cxOf CX P w K mg base N qual scope f cdv A outer s H E) body t ∧ t { nx := fun _ H' => Q .non H', rt := Q } (start N vs) H) :
    GOk P w K mg base CX (k + 1) f (PySem.W.fnOf name qual params body scope dV kV doc pm an cdv ct) ps sp := by
  refine ⟨len, fun A outer s H args us vs Q E hr hgd e0 hb r hsp => ?_⟩
  have hl := len _ _ _ _ hsp
  have kin : K.In s.heap := e0.mod.kin.keeps fun b o e => (e0.bs b o e).1
  have lim : s.heap.NoLimit := e0.mod.nolimit.keeps fun b o e => (e0.bs b o e).1
  have seen : ∀ y ∈ ps.zip us, scope.names.lookup y.1 = some .local ∨ (scope.names.lookup y.1 = some .cell ∧ ((cellsFrom (s.heap.objs.size + 1) scope.names []).lookup y.1).isSome = true) := fun y hy =>
    (S.par y.1 (List.of_mem_zip (a := y.1) (b := y.2) hy).1).imp id fun q => ⟨q, PySem.W.cellsFrom_some _ _ _ (.inl q)⟩
  refine codeAny_call_function hr.depth (kin _ _ lk) rfl S.co S.gen rfl (PySem.W.codeRec_of kin hcd) (hb _ _ _ _ ?_)
  refine wpAny_newFunctionEnv_cells S.kind seen fun env he s1 x => ?_
  subst he
  refine ⟨lim.keeps x.toInCall.keep, codeAny_func ?_⟩
  obtain ⟨t, ht, hq⟩ := hbody A outer s H vs Q E (hr.deeper _) hgd hsp
  refine wpAny_mono (ht.run [] s1 (start N vs) H _ (inv_start S hr.hd e0 hl r x) hq) (fun fl s' hs => ?_) fun e s' hs => hs
  cases fl with
  | ret u => obtain ⟨v, σ', H', J, rv, q⟩ := hs; exact ⟨v, H', J.os, J.bare, J.base, J.hok, rv, q⟩
  | next => obtain ⟨σ', H', J, q⟩ := hs; exact ⟨V.non, H', J.os, J.bare, J.base, J.hok, rfl, q⟩
  | brk => obtain ⟨_, _, _, q⟩ := hs; exact q.elim
  | cont => obtain ⟨_, _, _, q⟩ := hs; exact q.elim
theorem GOk.imp {P : Program} {w : World} {K : PySem.W.Frag} {mg : Str → Option Value} {base : Heap} {CX : CXT} {k : Nat} {f : Addr} {fd : FuncData} {ps : List Str} {sp sp' : Sp} (F : GOk P w K mg base CX k f fd ps sp) (h : ∀ vs H Q E, sp' vs H Q E → sp vs H Q E) : GOk P w K mg base CX k f fd ps sp' :=
  ⟨fun vs H Q E q => F.len vs H Q E (h _ _ _ _ q), fun A outer s H args us vs Q E hr hg he hb hv hs => F.run A outer s H args us vs Q E hr hg he hb hv (h _ _ _ _ hs)⟩
section
variable {X : Cx} {CX : CXT} {k : Nat} {f : Addr} {fd : FuncData} {ps : List Str} {sp : Sp} {E : L2.St → XK} {x : Str} {p pos : Pos} {e : Expr} {es : List Expr} {t : TA}
theorem run_fnG {pins : List (Addr × Obj)} {σ : L2.St} {H : Hp} {s : Shared} {Q : VK} {us : List Value} {vs : List V} (F : GOk X.prog X.w X.K X.mg X.base CX k f fd ps sp) (hr : Room k X.A) (hgd : X.A.guards = some []) (hb : Binds X.K fd ps []) (hx : PassesAt CX X σ (E σ))
    (I : Inv X pins σ H s) (r : Vals vs us) (h : sp vs H Q (E σ)) : wpAny (model X.prog X.w) X.A (call (.ref f) us) (EP X pins σ Q) X.xe s := by
  have b := hb s us I.kIn (by rw [List.append_nil, ← r.length]; exact F.len _ _ _ _ h)
  rw [List.append_nil] at b
  refine wpAny_call (codeAny_mono (F.run X.A X.stack s H ⟨us, []⟩ us vs Q (E σ) hr hgd I.env0 b r h) fun r s' hq => ?_)
  cases r with
  | error e => exact hx pins H s e s' I hq
  | ok fl =>
    cases fl with
    | ret u => exact I.after hq
    | next => exact hq.elim
    | brk => exact hq.elim
    | cont => exact hq.elim
theorem pe_callG (F : GOk X.prog X.w X.K X.mg X.base CX k f fd ps sp) (hr : Room k X.A) (hgd : X.A.guards = some []) (hg : Gl X x) (hm : X.mg x = some (.ref f)) (hk : PySem.W.keepIn X.K (.ref f) = true) (hb : Binds X.K fd ps []) (hx : ∀ σ, PassesAt CX X σ (E σ))
    (ha : PA X (e :: es) t) (hdb : (x == ("__debug__" : Str)) = false := by decide) (he : starEach (e :: es) X.env = (false, eval e X.env) :: starEach es X.env := by rfl) (hpl : (backTo pos (starEach es X.env)).any (·.1) = false := by rfl) :
    PE X (.Call (.Name x p) (e :: es) [] pos) (tCallS sp E t) :=
  ⟨fun pins s σ H Q I h => wpAny_Call_Name_kw (ld_glob I hg hm (PySem.W.callWith_K (h₀ := X.base) I.ok.mod.kin hk (thn (ha.run pos pins s σ H _ I h) fun us s1 ⟨vs, H1, I1, r, q⟩ => ⟨I1.kIn, run_fnG F hr hgd hb (hx σ) I1 r q⟩) he hpl) hdb)⟩
end
section
variable {X : Cx} {D : Stat} {lvl : Nat} {W : WX} {fr fr1 fr' : Fr} {H H1 H' : Hp} {fs s : Fs} {σ : L2.St} {Γ : Env}
theorem FI.called (I : FI D lvl fr fs σ H) {hp' : List Ob} (g : GI D fr' hp' H') (e : Ev (lvl + 1) fr H fr' H') : FI D lvl fr' { fs with hp := hp' } σ H' := by
  refine ⟨g, fun i x q => (I.sl i x q).keep (e.mono (Nat.le_succ lvl)).n fun a q => ?_, I.ln⟩
  obtain ⟨u, hu⟩ := I.gi.tr a _ q
  obtain ⟨h1, h2⟩ := e.keep a u hu (by rw [q]; exact Nat.lt_succ_self lvl)
  exact ⟨h2, h1.trans hu.symm⟩
structure CallOk (P : Program) (w : World) (K : PySem.W.Frag) (mg : Str → Option Value) (base : Heap) (A : Around) (D : Stat) (lvl : Nat) (Γ : Env) (x : Str) (n np : Nat) : Prop where
  ex : ∃ k fd ps, GOk P w K mg base (L2.CX P w) k (D.fa n) fd ps (spG D lvl Γ n np) ∧ Room k A ∧ A.guards = some [] ∧ Binds K fd ps []
  mg : mg x = some (.ref (D.fa n))
  kp : PySem.W.keepIn K (.ref (D.fa n)) = true
def ofRC (s : Fs) : RC → R PV
  | .ok v _ hp' => .ok v { s with hp := hp' }
  | .ex e hp' => .ex e { s with hp := hp' }
  | .no => .no
def ofRCF (s : Fs) : RC → R PV
  | .ok v true hp' => .ok v { s with hp := hp' }
  | .ok _ false _ => .no
  | .ex e hp' => .ex e { s with hp := hp' }
  | .no => .no
def fCall (Γ : Env) (n : Nat) (g : M (List PV)) : M PV := M.bind g fun args s => ofRC s (Γ n args s.hp)
/-- the call's answer is new and nobody else's -/
def fCallF (Γ : Env) (n : Nat) (g : M (List PV)) : M PV := M.bind g fun args s => ofRCF s (Γ n args s.hp)
/-- a held container is let go -/
theorem FI.shared (I : FI D lvl fr fs σ H) {v : PV} {b : Bool} {v' : V} (r : RetR D fr H v b v') : ∃ fr', FI D lvl fr' fs σ H ∧ Ev lvl fr H fr' H ∧ Rel D fr' H v v' := by
  cases b with
  | false => exact ⟨fr, I, .refl, r⟩
  | true =>
    obtain ⟨p, o, rfl, h1, h2, h3⟩ := r
    have ev : Ev lvl fr H (reow fr p none) H := ev_reow (nkp_tmp h1)
    exact ⟨_, I.untmp h1 (by intro _ z; cases z), ev, .con reow_same h2 (Cont.ev ev h3)⟩
theorem se_call {x : Str} {p pos : Pos} {e : Expr} {es : List Expr} {n np : Nat} {g : M (List PV)} (c : CallOk X.prog X.w X.K X.mg X.base X.A D (lvl + 1) Γ x n np) (tk : Takes X W) (hg : Gl X x) (ha : PA X (e :: es) (tAs D lvl W g))
    (hdb : (x == ("__debug__" : Str)) = false := by decide) (he : starEach (e :: es) X.env = (false, eval e X.env) :: starEach es X.env := by rfl) (hpl : (backTo pos (starEach es X.env)).any (·.1) = false := by rfl)
    (hl : ∀ args s s', g s = .ok args s' → args.length = np) : PE X (.Call (.Name x p) (e :: es) [] pos) (tE D lvl W (fCall Γ n g)) := by
  obtain ⟨k, fd, ps, F, hr, hgd, hb⟩ := c.ex
  refine PE.imp (pe_callG F hr hgd hg c.mg c.kp hb (fun σ => passAt tk σ) ha hdb he hpl) ?_
  rintro σ H Q ⟨fr, fs, I, h⟩
  unfold fCall at h
  have h' := Res.bind h
  refine ⟨fr, fs, I, ?_⟩
  cases eg : g fs with
  | no => rw [eg] at h'; exact h'
  | ex y s => rw [eg] at h'; exact h'
  | ok args s =>
    rw [eg] at h'
    intro fr1 H1 vs I1 e1 r1
    have h1 := Res.base (show Res D lvl W fr H σ (ofRC s (Γ n args s.hp)) (KV' D lvl fr H σ Q) from h') e1
    refine ⟨fr1, s.hp, args, I1.gi, r1, hl args fs s eg, ?_⟩
    cases eΓ : Γ n args s.hp with
    | no => rw [eΓ] at h1; exact h1
    | ok v b hp' =>
      rw [eΓ] at h1
      intro fr2 H2 v' g2 e2 r2
      obtain ⟨fr3, I3, e3, r3⟩ := (I1.called g2 e2).shared r2
      exact h1 fr3 H2 v' I3 (e1.trans ((e2.mono (Nat.le_succ lvl)).trans e3)) r3
    | ex y hp' =>
      rw [eΓ] at h1
      intro fr2 H2 cls d g2 e2 r2
      exact h1 fr2 H2 cls d (I1.called g2 e2) (e2.mono (Nat.le_succ lvl)) r2
theorem sf_call {x : Str} {p pos : Pos} {e : Expr} {es : List Expr} {n np : Nat} {g : M (List PV)} (c : CallOk X.prog X.w X.K X.mg X.base X.A D (lvl + 1) Γ x n np) (tk : Takes X W) (hg : Gl X x) (ha : PA X (e :: es) (tAs D lvl W g))
    (hdb : (x == ("__debug__" : Str)) = false := by decide) (he : starEach (e :: es) X.env = (false, eval e X.env) :: starEach es X.env := by rfl) (hpl : (backTo pos (starEach es X.env)).any (·.1) = false := by rfl)
    (hl : ∀ args s s', g s = .ok args s' → args.length = np) : PE X (.Call (.Name x p) (e :: es) [] pos) (tF D lvl W (fCallF Γ n g)) := by
  obtain ⟨k, fd, ps, F, hr, hgd, hb⟩ := c.ex
  refine PE.imp (pe_callG F hr hgd hg c.mg c.kp hb (fun σ => passAt tk σ) ha hdb he hpl) ?_
  rintro σ H Q ⟨fr, fs, I, h⟩
  unfold fCallF at h
  have h' := Res.bind h
  refine ⟨fr, fs, I, ?_⟩
  cases eg : g fs with
  | no => rw [eg] at h'; exact h'
  | ex y s => rw [eg] at h'; exact h'
  | ok args s =>
    rw [eg] at h'
    intro fr1 H1 vs I1 e1 r1
    have h1 := Res.base (show Res D lvl W fr H σ (ofRCF s (Γ n args s.hp)) _ from h') e1
    refine ⟨fr1, s.hp, args, I1.gi, r1, hl args fs s eg, ?_⟩
    cases eΓ : Γ n args s.hp with
    | no => rw [eΓ] at h1; exact h1
    | ok v b hp' =>
      rw [eΓ] at h1
      cases b with
      | false => exact h1.elim
      | true =>
        intro fr2 H2 v' g2 e2 r2
        obtain ⟨p, o, rfl, q1, q2, q3⟩ := r2
        exact h1 fr2 H2 p o (I1.called g2 e2) (e1.trans (e2.mono (Nat.le_succ lvl))) q1 q2 q3
    | ex y hp' =>
      rw [eΓ] at h1
      intro fr2 H2 cls d g2 e2 r2
      exact h1 fr2 H2 cls d (I1.called g2 e2) (e2.mono (Nat.le_succ lvl)) r2
/-- how many arguments -/
theorem len_nil {args : List PV} {s s' : Fs} (h : fNil s = .ok args s') : args.length = 0 := by cases h; rfl
theorem len_cons {f : M PV} {g : M (List PV)} {k : Nat} (hg : ∀ args s s', g s = .ok args s' → args.length = k) : ∀ args s s', fCons f g s = .ok args s' → args.length = k + 1 := by
  intro args s s' h
  unfold fCons M.bind at h
  cases e : f s with
  | no => rw [e] at h; cases h
  | ex y s1 => rw [e] at h; cases h
  | ok x s1 =>
    rw [e] at h
    dsimp only at h
    cases e2 : g s1 with
    | no => rw [e2] at h; cases h
    | ex y s2 => rw [e2] at h; cases h
    | ok xs s2 =>
      rw [e2] at h
      cases h
      exact congrArg (· + 1) (hg xs s1 _ e2)

/-! ### a def's body -/
theorem FI.start {hp : List Ob} {args : List PV} {vs : List V} {N : List Str} {np : Nat} (g : GI D fr hp H) (r : Rels D fr H args vs) (hl : args.length = np) : FI D lvl fr ⟨start0 np N.length args, hp⟩ (start N vs) H := by
  refine ⟨g, fun i x q => ?_, ?_⟩
  · unfold start0 at q
    unfold L2.start
    by_cases hi : i < args.length
    · rw [List.getElem?_append_left (by rw [List.length_map]; exact hi), List.getElem?_map] at q
      cases ha : args[i]? with
      | none => rw [ha] at q; cases q
      | some y =>
        rw [ha] at q
        cases q
        obtain ⟨v, hv, rv⟩ := r.get ha
        rw [List.getElem?_append_left (by rw [List.length_map, r.length]; exact hi), List.getElem?_map, hv]
        exact rv
    · rw [List.getElem?_append_right (by rw [List.length_map]; omega)] at q
      have := List.mem_of_getElem? q
      rw [List.mem_replicate] at this
      rw [this.2]
      trivial
  · unfold start0 L2.start
    simp only [List.length_append, List.length_map, List.length_replicate]
    rw [r.length, hl]
/-- what a def that runs as F keeps -/
theorem body_sp {F : Fd} {N : List Str} {n : Nat} {Γ Γ' : Env} {vs : List V} {Q : VK} {E : XK} {np : Nat} (hN : F.ns = N.length) (hnp : F.np = np)
    (hΓ : ∀ args hp, Γ' n args hp = runBody F Γ args hp) (h : spG D lvl Γ' n np vs H Q E) :
    tS D lvl (fun cls d _ H => E cls d H) (F.body Γ) { nx := fun _ H' => Q .non H', rt := Q } (start N vs) H := by
  subst hnp
  obtain ⟨fr, hp, args, g, r, hl, h⟩ := h
  have hs := FI.start (lvl := lvl) (N := N) g r hl
  rw [← hN] at hs
  refine ⟨fr, _, hs, ?_⟩
  rw [hΓ] at h
  unfold runBody at h
  rw [if_pos hl] at h
  cases e : F.body Γ ⟨start0 F.np F.ns args, hp⟩ with
  | no => rw [e] at h; exact h
  | ex y s => rw [e] at h; exact fun fr' σ' H' cls d I ev q => h fr' H' cls d I.gi ev q
  | ok a s => cases a with
    | nx => rw [e] at h; exact fun fr' σ' H' I ev => h fr' H' .non I.gi ev .non
    | rt v b => rw [e] at h; exact fun fr' σ' H' v' I ev q => h fr' H' v' I.gi ev q
    | bk => rw [e] at h; exact h.elim
    | ct => rw [e] at h; exact h.elim
end
end Mi
end S_Mi5
section S_Mi6
set_option Elab.async false
set_option linter.all false
set_option maxRecDepth 100000
set_option maxHeartbeats 4000000
namespace Mi
open PySem PySem.Spec PyProof.Rows L2

/-! ### comprehensions -/
def wipeS (l : List Slot) : List Nat → List Slot
  | [] => l
  | v :: vs => (wipeS l vs).set v .un
def backS (o n : List Slot) : List Nat → List Slot
  | [] => n
  | v :: vs => (backS o n vs).set v (o.getD v .un)
def okV (l : List Slot) (vs : List Nat) : Bool := vs.all fun v => match l[v]? with
  | some (.ow _) => false
  | _ => true
def compF (vs : List Nat) (g : PV → Fs → Option Fs) (t : M Bool) (e : M PV) : List PV → M (List PV)
  | [] => M.pure []
  | x :: xs => fun s => match g x { s with sl := wipeS s.sl vs } with
    | none => .no
    | some s1 => match t s1 with
      | .ok true s2 => match e s2 with
        | .ok y s3 => match compF vs g t e xs s3 with
          | .ok ys s4 => .ok (y :: ys) s4
          | _ => .no
        | _ => .no
      | .ok false s2 => compF vs g t e xs s2
      | _ => .no
def fComp (f : M (List PV)) (vs : List Nat) (g : PV → Fs → Option Fs) (t : M Bool) (e : M PV) : M PV := M.bind f fun items s => if okV s.sl vs = true then match compF vs g t e items s with
    | .ok xs s' => if lenOk xs = true then .ok (.lst xs) { s' with sl := backS s.sl s'.sl vs } else .no
    | _ => .no
  else .no
abbrev W0 : WX := fun _ _ _ _ => False
section
variable {X : Cx} {D : Stat} {lvl : Nat} {W : WX} {ws : List Nat} {fr fr1 fr' : Fr} {H H1 H' : Hp} {fs s : Fs} {σ σ' : L2.St} {α β : Type} {pos : Pos}
theorem backS_len (o n : List Slot) : ∀ vs : List Nat, (backS o n vs).length = n.length
  | [] => rfl
  | v :: vs => by unfold backS; rw [List.length_set, backS_len o n vs]
theorem backS_get (o n : List Slot) : ∀ (vs : List Nat) (i : Nat), (backS o n vs)[i]? = if i ∈ vs then (if i < n.length then some (o.getD i .un) else none) else n[i]?
  | [], i => by simp [backS]
  | v :: vs, i => by
    unfold backS
    rw [List.getElem?_set, backS_len, backS_get o n vs i]
    by_cases h : v = i
    · subst h
      simp
    · have h' : ¬ i = v := fun z => h z.symm
      simp [h, h']
theorem FI.wipe (I : FI D lvl fr fs σ H) : ∀ vs : List Nat, FI D lvl fr { fs with sl := wipeS fs.sl vs } (L2.wipe σ vs) H
  | [] => I
  | v :: vs => (FI.wipe I vs).setUn v none
theorem FI.back {s2 : Fs} {σ2 : L2.St} (I : FI D lvl fr fs σ H) (J : FI D lvl fr' s2 σ2 H') (e : Ev lvl fr H fr' H') {vs : List Nat} (hw : L2.wipe σ2 vs = L2.wipe σ vs) (ok : okV fs.sl vs = true) :
    FI D lvl fr' { s2 with sl := backS fs.sl s2.sl vs } σ H' := by
  have hlen : σ2.length = σ.length := by
    have := congrArg List.length hw
    rw [wipe_length, wipe_length] at this
    exact this
  refine ⟨J.gi, fun i x q => ?_, by rw [backS_len, J.ln, hlen]⟩
  rw [backS_get] at q
  by_cases hi : i ∈ vs
  · rw [if_pos hi] at q
    split at q
    · cases q
      unfold okV at ok
      rw [List.all_eq_true] at ok
      have ok := ok i hi
      rw [List.getD_eq_getElem?_getD]
      cases hx : fs.sl[i]? with
      | none => trivial
      | some y =>
        rw [hx] at ok
        cases y with
        | un => trivial
        | ow c => cases ok
        | sh y =>
          obtain ⟨v, ev, r⟩ := I.sh hx
          rw [ev]
          exact Rel.ev e r
    · cases q
  · rw [if_neg hi] at q
    have : σ2[i]? = σ[i]? := by
      have h := congrArg (fun (l : L2.St) => l[i]?) hw
      rw [wipe_get, wipe_get, if_neg hi, if_neg hi] at h
      exact h
    rw [← this]
    exact J.sl i x q
theorem nextIF {f : M (List PV)} {g : List PV → M β} {K : β → Fs → Prop} {R : It → Hp → Prop} (I : FI D lvl fr fs σ H) (h : Res D lvl W fr H σ ((M.bind f g) fs) K)
    (nx : ∀ x s fr1 H1 J, FI D lvl fr1 s σ H1 → Ev lvl fr H fr1 H1 → ItOk D lvl J fr1 H1 x → Res D lvl W fr1 H1 σ (g x s) K → R J H1) : tI D lvl W f σ H R :=
  ⟨fr, fs, I, (Res.bind h).mono fun x s k fr1 H1 J I1 e r => nx x s fr1 H1 J I1 e r (k.base e)⟩
/-- nothing raises in a block -/
theorem res_ok {r : R α} {K : α → Fs → Prop} (h : ∃ a s, r = .ok a s ∧ K a s) : Res D lvl W fr H σ r K := by
  obtain ⟨a, s, rfl, k⟩ := h
  exact k
theorem comp_run {f : M (List PV)} {vs : List Nat} {g : PV → Fs → Option Fs} {t : M Bool} {e : M PV} {Q : VK} (h : tF D lvl W (fComp f vs g t e) σ H Q) :
    tLc (tI D lvl W f) (tG D lvl vs g) (tB' D lvl W0 t) (tE D lvl W0 e) vs σ H Q := by
  obtain ⟨fr, fs, I, h⟩ := h
  refine nextIF I h fun items s fr1 H1 J I1 e1 it h1 => ?_
  split at h1
  · rename_i ok
    cases hc : compF vs g t e items s with
    | no => rw [hc] at h1; exact h1.elim
    | ex y s' => rw [hc] at h1; exact h1.elim
    | ok xs s' =>
      rw [hc] at h1
      dsimp only at h1
      split at h1
      · rename_i hl
        have hl' : xs.length ≤ sizeLine := of_decide_eq_true hl
        intro A nA
        have bev : ∀ {fr2 : Fr} {H2 : Hp} {o : HO}, Ev lvl fr1 H1 fr2 H2 → Ev lvl fr1 H1 fr2 (upd H2 A o) := fun {fr2 H2 o} ev => ⟨fun a u q k => ⟨by rw [upd_ne (ne_of_none q nA)]; exact (ev.keep a u q k).1, (ev.keep a u q k).2⟩, ev.io⟩
        refine ⟨fun i m H2 => ∃ fr2 fs2 σ2 acc accV rest, FI D lvl fr2 fs2 σ2 H2 ∧ L2.wipe σ2 vs = L2.wipe σ vs ∧ Ev lvl fr1 H1 fr2 H2 ∧ fr2.ow A = some .hold ∧ H2 A = some (.lst accV) ∧ Rels D fr2 H2 acc accV ∧ i + m = items.length ∧
            compF vs g t e (items.drop i) fs2 = .ok rest s' ∧ acc ++ rest = xs, ⟨items.length, reow fr1 A (some .hold), s, σ, [], [], xs, I1.newHold nA, rfl, ev_newOw nA, reow_same, upd_same, .nil, by omega, hc, rfl⟩, ?_⟩
        rintro i m H2 ⟨fr2, fs2, σ2, acc, accV, rest, I2, hw, e2, hA, hHA, ra, em, hcf, hxs⟩
        obtain ⟨on, off⟩ := it fr2 H2 e2 I2.gi.tr
        cases hx : items[i]? with
        | none =>
          have hil : items.length ≤ i := List.getElem?_eq_none_iff.mp hx
          rw [List.drop_of_length_le hil] at hcf
          cases hcf
          rw [List.append_nil] at hxs
          subst hxs
          refine .inl ⟨off i (by omega), ?_⟩
          have J2 := I2.rehold hA hHA
          have eN : EvN fr2 H2 (reow fr2 A (some .tmp)) H2 := evn_hold hA
          have e3 : Ev lvl fr1 H1 (reow fr2 A (some .tmp)) H2 := ⟨fun a u q k => ⟨(e2.keep a u q k).1, by rw [reow_ne (ne_of_none q nA)]; exact (e2.keep a u q k).2⟩, e2.io⟩
          exact h1 _ H2 A _ (I1.back J2 e3 hw ok) (e1.trans e3) reow_same hHA (.lst hl' (Rels.evN eN ra))
        | some x =>
          obtain ⟨hil, hix⟩ := List.getElem?_eq_some_iff.mp hx
          obtain ⟨go, yl⟩ := on i x hx
          rw [List.drop_eq_getElem_cons hil, hix] at hcf
          unfold compF at hcf
          cases hg : g x { fs2 with sl := wipeS fs2.sl vs } with
          | none => rw [hg] at hcf; cases hcf
          | some s3 =>
            rw [hg] at hcf
            dsimp only at hcf
            refine .inr ⟨go, fun H5 => ∃ fr2 fs2 σ2 acc accV rest, FI D lvl fr2 fs2 σ2 H5 ∧ L2.wipe σ2 vs = L2.wipe σ vs ∧ Ev lvl fr1 H1 fr2 H5 ∧ fr2.ow A = some .hold ∧ H5 A = some (.lst accV) ∧ Rels D fr2 H5 acc accV ∧
                compF vs g t e (items.drop (i + 1)) fs2 = .ok rest s' ∧ acc ++ rest = xs, ?_, fun v H3 hy => ?_⟩
            · rintro H5 ⟨fr2, fs2, σ2, acc, accV, rest, q1, q2, q3, q4, q5, q6, q7, q8⟩
              exact ⟨m - 1, by omega, fr2, fs2, σ2, acc, accV, rest, q1, q2, q3, q4, q5, q6, by omega, q7, q8⟩
            · obtain ⟨gr, r⟩ := yl v H3 hy
              have I3 := (I2.wipe vs).grow gr
              rw [hw] at I3
              refine ⟨fr2, _, x, s3, I3, r, hg, fun fr4 σ4 H4 I4 e4 w4 => ?_⟩
              have ev4 : Ev lvl fr2 H2 fr4 H4 := gr.ev.trans e4
              have hww : L2.wipe (L2.wipe σ vs) vs = L2.wipe σ vs := by
                apply List.ext_getElem?
                intro j
                rw [wipe_get, wipe_length, wipe_get]
                by_cases hj : j ∈ vs <;> simp [hj]
              refine ⟨w4.trans hww, fr4, s3, I4, ?_⟩
              cases ht : t s3 with
              | no => rw [ht] at hcf; cases hcf
              | ex y s4 => rw [ht] at hcf; cases hcf
              | ok b s4 =>
                rw [ht] at hcf
                intro fr5 H5 I5 e5
                have ev5 := ev4.trans e5
                have hold : ∀ {fr6 : Fr} {H6 : Hp}, Ev lvl fr2 H2 fr6 H6 → H6 A = some (.lst accV) ∧ fr6.ow A = some .hold := fun {fr6 H6} ev => by
                  obtain ⟨p1, p2⟩ := ev.keep A _ hHA (by rw [hA]; trivial)
                  exact ⟨p1, p2.trans hA⟩
                cases b with
                | false =>
                  rw [if_neg Bool.false_ne_true]
                  dsimp only at hcf
                  obtain ⟨p1, p2⟩ := hold ev5
                  exact ⟨fr5, s4, σ4, acc, accV, rest, I5, w4.trans hww, e2.trans ev5, p2, p1, Rels.ev ev5 ra, hcf, hxs⟩
                | true =>
                  rw [if_pos rfl]
                  dsimp only at hcf
                  refine ⟨fr5, s4, I5, ?_⟩
                  cases he : e s4 with
                  | no => rw [he] at hcf; cases hcf
                  | ex y s5 => rw [he] at hcf; cases hcf
                  | ok y s5 =>
                    rw [he] at hcf
                    dsimp only at hcf
                    cases hr : compF vs g t e (items.drop (i + 1)) s5 with
                    | no => rw [hr] at hcf; cases hcf
                    | ex y s6 => rw [hr] at hcf; cases hcf
                    | ok ys s6 =>
                      rw [hr] at hcf
                      cases hcf
                      intro fr6 H6 w I6 e6 r6
                      have ev6 := ev5.trans e6
                      obtain ⟨p1, p2⟩ := hold ev6
                      have hlen : acc.length < sizeLine := by
                        have := congrArg List.length hxs
                        rw [List.length_append, List.length_cons] at this
                        omega
                      have ra6 : Rels D fr6 H6 acc accV := Rels.ev ev6 ra
                      refine ⟨accV, p1, by rw [ra6.length]; exact hlen, fr6, s5, σ4, acc ++ [y], accV ++ [w], ys, I6.growHold p2, w4.trans hww, bev (e2.trans ev6), p2, upd_same, ?_, hr, by rw [List.append_assoc]; exact hxs⟩
                      exact Rels.evN (evn_upd p2) (ra6.append (.cons r6 .nil))
      · exact h1.elim
  · exact h1.elim
def tYesM : M Bool := M.pure true
theorem sts_nil {W : WX} : PTs X [] (tB' D lvl W tYesM) := by
  refine ⟨fun pins s σ H Q I h => pts_nil.run pins s σ H Q I ?_⟩
  obtain ⟨fr, fs, I', h⟩ := h
  exact h fr H I' .refl
theorem sts_one {c : Expr} {t : M Bool} {W : WX} (h : PT X c (tB' D lvl W t)) : PTs X [c] (tB' D lvl W t) := pts_one h
variable {elt tg iter : Expr} {ifs : List Expr} {scope : Scope} {own : List (Str × Nat)} {f : M (List PV)} {g : PV → Fs → Option Fs} {t : M Bool} {e : M PV} {vs : List Nat}
theorem sf_lc (hv : own.map (·.2) = vs) (hc : X.calm = true) (hN : X.N.Nodup) (hi : PI X tg iter (tI D lvl W f)) (ok : BlkOk X.N X.env.scope scope own)
    (hg : ∀ (s : Shared) (H : Hp) (C : Addr) (cl : List (Str × Addr)) (fp : List Addr), PG (X.blk s H scope (compEnvC scope cl C X.env) fp) tg (tG D lvl vs g))
    (ht : ∀ (s : Shared) (H : Hp) (C : Addr) (cl : List (Str × Addr)) (fp : List Addr), PTs (X.blk s H scope (compEnvC scope cl C X.env) fp) ifs (tB' D lvl W0 t))
    (he : ∀ (s : Shared) (H : Hp) (C : Addr) (cl : List (Str × Addr)) (fp : List Addr), PE (X.blk s H scope (compEnvC scope cl C X.env) fp) elt (tE D lvl W0 e)) (hs : ∀ x, foldedSetIterable iter X.env x = pure x := by intro _; rfl) :
    PE X (.ListComp elt [⟨tg, iter, ifs, 0⟩] scope pos) (tF D lvl W (fComp f vs g t e)) := by
  subst hv
  exact PE.imp (pe_lc hc hN hi ok hg ht he hs) fun σ H Q h => comp_run h
end
end Mi
end S_Mi6
section S_Mi7
set_option Elab.async false
set_option linter.all false
set_option maxRecDepth 100000
set_option maxHeartbeats 4000000
namespace Mi
open PySem PySem.Spec PyProof.Rows L2

/-! ### plain data -/
mutual
def pd : PV → PyData
  | .non => .none
  | .bl b => .bool b
  | .int i => .int i
  | .str s => .str (strOf s)
  | .tup xs => .tuple (pds xs)
  | .lst xs => .list (pds xs)
  | _ => .none
def pds : List PV → List PyData
  | [] => []
  | x :: xs => pd x :: pds xs
end
def data : Nat → PV → Bool
  | _, .non => true
  | _, .bl _ => true
  | _, .int _ => true
  | _, .str _ => true
  | n + 1, .tup xs => xs.all (data n)
  | n + 1, .lst xs => xs.all (data n)
  | _, _ => false
mutual
def eqv : PV → PV → Bool
  | .non, .non => true
  | .bl a, .bl b => a == b
  | .bl a, .int j => decide ((if a then 1 else 0) = j)
  | .int i, .bl b => decide (i = (if b then 1 else 0))
  | .int i, .int j => decide (i = j)
  | .str x, .str y => decide (x = y)
  | .lst xs, .lst ys => eqvs xs ys
  | .tup xs, .tup ys => eqvs xs ys
  | _, _ => false
def eqvs : List PV → List PV → Bool
  | [], [] => true
  | x :: xs, y :: ys => eqv x y && eqvs xs ys
  | _, _ => false
end
theorem strOf_inj {a b : S} : strOf a = strOf b ↔ a = b := by
  constructor
  · intro h
    have := congrArg (fun s : Str => s.cps.toList) h
    exact this
  · intro h; rw [h]
mutual
theorem eqv_pd : ∀ (n m : Nat) (x y : PV), data n x = true → data m y = true → PyData.eqv (pd x) (pd y) = eqv x y
  | n, m, .non, y, _, hy => by cases y <;> first | rfl | (cases m <;> cases hy)
  | n, m, .bl b, y, _, hy => by cases y <;> first | rfl | (cases m <;> cases hy)
  | n, m, .int b, y, _, hy => by cases y <;> first | rfl | (cases m <;> cases hy)
  | n, m, .str b, y, _, hy => by
    cases y with
    | str c =>
      show (strOf b == strOf c) = decide (b = c)
      by_cases h : b = c
      · subst h; simp
      · have : ¬ strOf b = strOf c := fun z => h (strOf_inj.mp z)
        simp [h, this]
    | _ => first | rfl | (cases m <;> cases hy)
  | 0, m, .tup xs, y, hx, hy => by cases hx
  | 0, m, .lst xs, y, hx, hy => by cases hx
  | n + 1, m, .tup xs, y, hx, hy => by
    cases y with
    | tup ys => cases m with
      | zero => cases hy
      | succ m => exact eqvs_pd n m xs ys hx hy
    | _ => first | rfl | (cases m <;> cases hy)
  | n + 1, m, .lst xs, y, hx, hy => by
    cases y with
    | lst ys => cases m with
      | zero => cases hy
      | succ m => exact eqvs_pd n m xs ys hx hy
    | _ => first | rfl | (cases m <;> cases hy)
  | n, m, .dic _, _, hx, _ => by cases n <;> cases hx
  | n, m, .obj _, _, hx, _ => by cases n <;> cases hx
  | n, m, .exc _ _, _, hx, _ => by cases n <;> cases hx
  | n, m, .fn _, _, hx, _ => by cases n <;> cases hx
  | n, m, .scr _, _, hx, _ => by cases n <;> cases hx
theorem eqvs_pd : ∀ (n m : Nat) (xs ys : List PV), xs.all (data n) = true → ys.all (data m) = true → PyData.eqvAll (pds xs) (pds ys) = eqvs xs ys
  | _, _, [], [], _, _ => rfl
  | _, _, [], _ :: _, _, _ => rfl
  | _, _, _ :: _, [], _, _ => rfl
  | n, m, x :: xs, y :: ys, hx, hy => by
    rw [List.all_cons, Bool.and_eq_true] at hx hy
    show (PyData.eqv (pd x) (pd y) && PyData.eqvAll (pds xs) (pds ys)) = (eqv x y && eqvs xs ys)
    rw [eqv_pd n m x y hx.1 hy.1, eqvs_pd n m xs ys hx.2 hy.2]
end
theorem pds_map : ∀ xs : List PV, pds xs = xs.map pd
  | [] => rfl
  | x :: xs => by unfold pds; rw [pds_map xs]; rfl
mutual
theorem depth_pd : ∀ (n : Nat) (x : PV), data n x = true → (pd x).depth ≤ n
  | n, .non, _ => Nat.zero_le _
  | n, .bl b, _ => Nat.zero_le _
  | n, .int b, _ => Nat.zero_le _
  | n, .str b, _ => Nat.zero_le _
  | 0, .tup xs, hx => by cases hx
  | 0, .lst xs, hx => by cases hx
  | n + 1, .tup xs, hx => Nat.succ_le_succ (depths_pd n xs hx)
  | n + 1, .lst xs, hx => Nat.succ_le_succ (depths_pd n xs hx)
  | n, .dic _, hx => by cases n <;> cases hx
  | n, .obj _, hx => by cases n <;> cases hx
  | n, .exc _ _, hx => by cases n <;> cases hx
  | n, .fn _, hx => by cases n <;> cases hx
  | n, .scr _, hx => by cases n <;> cases hx
theorem depths_pd : ∀ (n : Nat) (xs : List PV), xs.all (data n) = true → PyData.depthAll (pds xs) ≤ n
  | n, [], _ => Nat.zero_le _
  | n, x :: xs, hx => by
    rw [List.all_cons, Bool.and_eq_true] at hx
    exact Nat.max_le.mpr ⟨depth_pd n x hx.1, depths_pd n xs hx.2⟩
end
section
variable {X : Cx} {D : Stat} {lvl : Nat} {W : WX} {ws : List Nat} {fr fr1 fr' : Fr} {H H1 H' : Hp} {fs s : Fs} {σ σ' : L2.St} {pos : Pos} {K : PySem.W.Frag}
theorem okS_lt {s : S} (h : okS s = true) : ∀ c ∈ s, c < 128 := by
  unfold okS at h
  simp only [Bool.and_eq_true, decide_eq_true_eq, List.all_eq_true] at h
  exact h.2
theorem okS_len {s : S} (h : okS s = true) : s.length ≤ sizeLine := by
  unfold okS at h
  simp only [Bool.and_eq_true, decide_eq_true_eq, List.all_eq_true] at h
  exact h.1
theorem okS_mk {s : S} (h1 : s.length ≤ sizeLine) (h2 : ∀ c ∈ s, c < 128) : okS s = true := by
  unfold okS
  simp only [Bool.and_eq_true, decide_eq_true_eq, List.all_eq_true]
  exact ⟨h1, h2⟩
theorem strOk_of {s : S} (h : okS s = true) : PyData.strOk (strOf s) = true := by
  unfold PyData.strOk
  show (strOf s).cps.all _ = true
  rw [show (strOf s).cps = s.toArray from rfl, List.all_toArray, List.all_eq_true]
  intro c hc
  have := okS_lt h c hc
  exact decide_eq_true (by omega)
mutual
theorem Rel.lay : ∀ (n : Nat) {x : PV} {v : V}, Rel D fr H x v → data n x = true → (pd x).canLay0 = true
  | n, _, _, .non, _ => rfl
  | n, _, _, .bl b, _ => rfl
  | n, _, _, .int i, _ => rfl
  | n, _, _, .str h, _ => strOk_of h
  | n, _, _, .con h1 h2 h3, hd => Cont.lay n h3 hd
  | n, _, _, .obj h, hd => by cases n <;> cases hd
  | n, _, _, .scr h, hd => by cases n <;> cases hd
  | n, _, _, .exc0 h1 h2, hd => by cases n <;> cases hd
  | n, _, _, .exc1 h1 h2 h3 h4 h5, hd => by cases n <;> cases hd
  | n, _, _, .fn f, hd => by cases n <;> cases hd
theorem Cont.lay : ∀ (n : Nat) {x : PV} {o : HO}, Cont D fr H x o → data n x = true → (pd x).canLay0 = true
  | 0, _, _, .tup hl h, hd => by cases hd
  | 0, _, _, .lst hl h, hd => by cases hd
  | n + 1, _, _, .tup hl h, hd => Rels.lay n h hd
  | n + 1, _, _, .lst hl h, hd => Rels.lay n h hd
  | n, _, _, .dic hl h, hd => by cases n <;> cases hd
theorem Rels.lay : ∀ (n : Nat) {xs : List PV} {vs : List V}, Rels D fr H xs vs → xs.all (data n) = true → PyData.canLayAll0 (pds xs) = true
  | n, _, _, .nil, _ => rfl
  | n, _, _, .cons h t, hd => by
    rw [List.all_cons, Bool.and_eq_true] at hd
    exact Bool.and_eq_true_iff.mpr ⟨Rel.lay n h hd.1, Rels.lay n t hd.2⟩
end
mutual
theorem Rel.dp : ∀ (n : Nat) {x : PV} {v : V}, Rel D fr H x v → data n x = true → Dp K H v (pd x)
  | n, _, _, .non, _ => .non
  | n, _, _, .bl b, _ => .bl b
  | n, _, _, .int i, _ => .int i
  | n, _, _, .str h, _ => .str _
  | n, _, _, .con h1 h2 h3, hd => Cont.dp n h3 hd h2
  | n, _, _, .obj h, hd => by cases n <;> cases hd
  | n, _, _, .scr h, hd => by cases n <;> cases hd
  | n, _, _, .exc0 h1 h2, hd => by cases n <;> cases hd
  | n, _, _, .exc1 h1 h2 h3 h4 h5, hd => by cases n <;> cases hd
  | n, _, _, .fn f, hd => by cases n <;> cases hd
theorem Cont.dp : ∀ (n : Nat) {x : PV} {o : HO}, Cont D fr H x o → data n x = true → ∀ {a : Addr}, H a = some o → Dp K H (.ref a) (pd x)
  | 0, _, _, .tup hl h, hd => by cases hd
  | 0, _, _, .lst hl h, hd => by cases hd
  | n + 1, _, _, .tup hl h, hd => fun e => .tup (.inl (.inl e)) (Rels.dp n h hd)
  | n + 1, _, _, .lst hl h, hd => fun e => .lst (.inl (.inl e)) (Rels.dp n h hd)
  | n, _, _, .dic hl h, hd => by cases n <;> cases hd
theorem Rels.dp : ∀ (n : Nat) {xs : List PV} {vs : List V}, Rels D fr H xs vs → xs.all (data n) = true → DpAll K H vs (pds xs)
  | n, _, _, .nil, _ => .nil
  | n, _, _, .cons h t, hd => by
    rw [List.all_cons, Bool.and_eq_true] at hd
    exact .cons (Rel.dp n h hd.1) (Rels.dp n t hd.2)
end
theorem Now.dp {n : Nat} {x : PV} {v : V} (h : Now D fr H x v) (hd : data n x = true) : Dp K H v (pd x) := by
  rcases h with h | ⟨a, o, rfl, h1, h2⟩
  · exact h.dp n hd
  · exact h2.dp n hd h1
theorem Now.lay {n : Nat} {x : PV} {v : V} (h : Now D fr H x v) (hd : data n x = true) : (pd x).canLay0 = true := by
  rcases h with h | ⟨a, o, rfl, h1, h2⟩
  · exact h.lay n hd
  · exact h2.lay n hd
theorem Now.shaped {n : Nat} {x : PV} {v : V} (h : Now D fr H x v) (hd : data n x = true) (hn : n ≤ 64 := by decide) : SeqAt.shaped (pd x) = true :=
  Bool.and_eq_true_iff.mpr ⟨h.lay hd, decide_eq_true (Nat.le_trans (depth_pd n x hd) hn)⟩

/-! ### == and != -/
def eqP (x y : PV) : Option PV := if data 60 x = true ∧ data 60 y = true then some (.bl (eqv x y)) else none
def neP (x y : PV) : Option PV := if data 60 x = true ∧ data 60 y = true then some (.bl (!eqv x y)) else none
theorem ops_eq (hu : X.A.units + 64 < cLine) : OpS X D (compareOp .Eq) eqP := by
  refine ⟨_, op_eqD hu, fun lvl fr fs σ H x y x' y' z Q I rx ry hz k => ?_⟩
  unfold eqP at hz
  split at hz
  · rename_i h
    cases hz
    refine ⟨_, _, rx.dp h.1, ry.dp h.2, rx.shaped h.1, ry.shaped h.2, ?_⟩
    rw [eqv_pd 60 60 x y h.1 h.2]
    exact k fr H _ I .refl (.bl _)
  · cases hz
theorem ops_ne (hu : X.A.units + 64 < cLine) : OpS X D (compareOp .NotEq) neP := by
  refine ⟨_, op_neD hu, fun lvl fr fs σ H x y x' y' z Q I rx ry hz k => ?_⟩
  unfold neP at hz
  split at hz
  · rename_i h
    cases hz
    refine ⟨_, _, rx.dp h.1, ry.dp h.2, rx.shaped h.1, ry.shaped h.2, ?_⟩
    rw [eqv_pd 60 60 x y h.1 h.2]
    exact k fr H _ I .refl (.bl _)
  · cases hz

/-! ### in, not in -/
def inL (x : PV) (ys : List PV) : Bool := ys.any fun y => eqv y x
/-- x in y -/
def inB (x y : PV) : Option Bool := match y with
  | .str z => match x with
    | .str [c] => some (decide (c ∈ z))
    | _ => none
  | .lst ys => if data 60 x = true ∧ ys.all (data 60) = true then some (inL x ys) else none
  | .tup ys => if data 60 x = true ∧ ys.all (data 60) = true then some (inL x ys) else none
  | _ => none
def inP (x y : PV) : Option PV := (inB x y).map PV.bl
def notInP (x y : PV) : Option PV := (inB x y).map fun b => PV.bl (!b)
def rInD (K : PySem.W.Frag) (neg : Bool) : R2 := fun x y H Q => ∃ d ds, Dp K H x d ∧ (Dp K H y (.list ds) ∨ Dp K H y (.tuple ds)) ∧ SeqAt.shaped d = true ∧ SeqAt.shaped (.list ds) = true ∧ Q (.bl (if neg then !ds.any (fun y => PyData.eqv y d) else ds.any fun y => PyData.eqv y d)) H
theorem op_inD (hu : X.A.units + 65 < cLine) : OpR X (compareOp .In) (rInD X.K false) := by
  intro pins s σ H x y v u Q I rx ry h
  obtain ⟨d, e, hd, he, sd, se, q⟩ := h
  obtain ⟨as, r1⟩ := Dp.reads I d x v hd rx
  rcases he with he | he
  · obtain ⟨bs, r2⟩ := Dp.reads I _ y u he ry
    exact SeqAt.in_list_reads r2 r1 (SeqAt.canLay_of_shaped se) (SeqAt.canLay_of_shaped sd) (room_in_shaped sd hu) ⟨.bl _, H, I, rfl, q⟩
  · obtain ⟨bs, r2⟩ := Dp.reads I _ y u he ry
    exact SeqAt.in_tuple_reads r2 r1 (SeqAt.canLay_of_shaped se) (SeqAt.canLay_of_shaped sd) (room_in_shaped sd hu) ⟨.bl _, H, I, rfl, q⟩
theorem op_notInD (hu : X.A.units + 65 < cLine) : OpR X (compareOp .NotIn) (rInD X.K true) := by
  intro pins s σ H x y v u Q I rx ry h
  obtain ⟨d, e, hd, he, sd, se, q⟩ := h
  obtain ⟨as, r1⟩ := Dp.reads I d x v hd rx
  rcases he with he | he
  · obtain ⟨bs, r2⟩ := Dp.reads I _ y u he ry
    exact SeqAt.notIn_list_reads r2 r1 (SeqAt.canLay_of_shaped se) (SeqAt.canLay_of_shaped sd) (room_in_shaped sd hu) ⟨.bl _, H, I, rfl, q⟩
  · obtain ⟨bs, r2⟩ := Dp.reads I _ y u he ry
    exact SeqAt.notIn_tuple_reads r2 r1 (SeqAt.canLay_of_shaped se) (SeqAt.canLay_of_shaped sd) (room_in_shaped sd hu) ⟨.bl _, H, I, rfl, q⟩
theorem inL_pd {x : PV} {ys : List PV} (hx : data 60 x = true) (hy : ys.all (data 60) = true) : (pds ys).any (fun y => PyData.eqv y (pd x)) = inL x ys := by
  unfold inL
  rw [pds_map, List.any_map]
  rw [List.all_eq_true] at hy
  induction ys with
  | nil => rfl
  | cons y ys ih =>
    rw [List.any_cons, List.any_cons, ih fun z hz => hy z (List.mem_cons_of_mem _ hz)]
    congr 1
    exact eqv_pd 60 60 y x (hy y List.mem_cons_self) hx
theorem data_lst {n : Nat} {ys : List PV} (h : ys.all (data n) = true) : data (n + 1) (.lst ys) = true := h
theorem data_tup {n : Nat} {ys : List PV} (h : ys.all (data n) = true) : data (n + 1) (.tup ys) = true := h
theorem in_ask {neg : Bool} {x y : PV} {x' y' : V} {b : Bool} {Q : VK} (rx : Now D fr H x x') (ry : Now D fr H y y') (h : inB x y = some b) (q : Q (.bl (if neg then !b else b)) H) :
    (∃ (c : Nat) (z : Str), x' = .str ⟨#[c]⟩ ∧ y' = .str z ∧ Q (.bl (if neg then !decide (c ∈ z.cps.toList) else decide (c ∈ z.cps.toList))) H) ∨ rInD K neg x' y' H Q := by
  cases y with
  | str z =>
    cases x with
    | str l => match l, h with
      | [c], h =>
        cases h
        obtain ⟨rfl, _⟩ := rx.str
        obtain ⟨rfl, _⟩ := ry.str
        exact .inl ⟨c, strOf z, rfl, rfl, q⟩
    | _ => cases h
  | lst ys =>
    unfold inB at h
    dsimp only at h
    split at h
    · rename_i hd
      cases h
      refine .inr ⟨pd x, pds ys, rx.dp hd.1, .inl (ry.dp (data_lst hd.2)), rx.shaped hd.1, ry.shaped (n := 61) (data_lst hd.2), ?_⟩
      rw [inL_pd hd.1 hd.2]
      exact q
    · cases h
  | tup ys =>
    unfold inB at h
    dsimp only at h
    split at h
    · rename_i hd
      cases h
      refine .inr ⟨pd x, pds ys, rx.dp hd.1, .inr (ry.dp (data_tup hd.2)), rx.shaped hd.1, ry.shaped (n := 61) (data_tup hd.2), ?_⟩
      rw [inL_pd hd.1 hd.2]
      exact q
    · cases h
  | _ => cases h
theorem ops_in (hu : X.A.units + 65 < cLine) : OpS X D (compareOp .In) inP := by
  refine ⟨_, OpR.or op_in_sign (op_inD hu), fun lvl fr fs σ H x y x' y' z Q I rx ry hz k => ?_⟩
  unfold inP at hz
  cases hb : inB x y with
  | none => rw [hb] at hz; cases hz
  | some b =>
    rw [hb] at hz
    cases hz
    exact in_ask (neg := false) rx ry hb (k fr H _ I .refl (.bl _))
theorem ops_notIn (hu : X.A.units + 65 < cLine) : OpS X D (compareOp .NotIn) notInP := by
  refine ⟨_, OpR.or op_notIn_sign (op_notInD hu), fun lvl fr fs σ H x y x' y' z Q I rx ry hz k => ?_⟩
  unfold notInP at hz
  cases hb : inB x y with
  | none => rw [hb] at hz; cases hz
  | some b =>
    rw [hb] at hz
    cases hz
    exact in_ask (neg := true) rx ry hb (k fr H _ I .refl (.bl _))

/-! ### is None -/
def isNP (x y : PV) : Option PV := match x, y with
  | .non, .non => some (.bl true)
  | .bl _, .non => some (.bl false)
  | .int _, .non => some (.bl false)
  | .str _, .non => some (.bl false)
  | .tup _, .non => some (.bl false)
  | .lst _, .non => some (.bl false)
  | .dic _, .non => some (.bl false)
  | .obj _, .non => some (.bl false)
  | .exc _ _, .non => some (.bl false)
  | _, _ => none
def isNotNP (x y : PV) : Option PV := match isNP x y with
  | some (.bl b) => some (.bl (!b))
  | _ => none
theorem isn_ask {x y : PV} {x' y' : V} {b : Bool} (rx : Now D fr H x x') (ry : Now D fr H y y') (h : isNP x y = some (.bl b)) : y' = .non ∧ decide (x' = .non) = b := by
  unfold isNP at h
  split at h <;> cases h <;> refine ⟨ry.non, ?_⟩
  · rw [rx.non]; rfl
  · rw [rx.bl]; rfl
  · rw [rx.int]; rfl
  · rw [rx.str.1]; rfl
  · obtain ⟨a, vs, rfl, _⟩ := rx.tup; rfl
  · obtain ⟨a, vs, rfl, _⟩ := rx.lst; rfl
  · obtain ⟨a, vs, rfl, _⟩ := rx.dic; rfl
  · rcases rx with r | ⟨a, o, rfl, _, k⟩
    · cases r with
      | con _ _ k => cases k
      | obj _ => rfl
    · cases k
  · rcases rx with r | ⟨a, o, rfl, _, k⟩
    · cases r with
      | con _ _ k => cases k
      | exc0 _ _ => rfl
      | exc1 _ _ _ _ _ => rfl
    · cases k
theorem ops_isN : OpS X D (compareOp .Is) isNP := by
  refine ⟨_, op_isN, fun lvl fr fs σ H x y x' y' z Q I rx ry hz k => ?_⟩
  have : ∃ b, z = .bl b := by
    unfold isNP at hz
    split at hz <;> cases hz <;> exact ⟨_, rfl⟩
  obtain ⟨b, rfl⟩ := this
  obtain ⟨h1, h2⟩ := isn_ask rx ry hz
  refine ⟨h1, ?_⟩
  rw [h2]
  exact k fr H _ I .refl (.bl _)
theorem ops_isNotN : OpS X D (compareOp .IsNot) isNotNP := by
  refine ⟨_, op_notN, fun lvl fr fs σ H x y x' y' z Q I rx ry hz k => ?_⟩
  unfold isNotNP at hz
  split at hz
  · rename_i b hb
    cases hz
    obtain ⟨h1, h2⟩ := isn_ask rx ry hb
    refine ⟨h1, ?_⟩
    rw [h2]
    exact k fr H _ I .refl (.bl _)
  · cases hz

/-! ### <, <=, >, >= of ints, of texts -/
def cmpP (f : Int → Int → Bool) (g : S → S → Bool) (x y : PV) : Option PV := match x, y with
  | .int i, .int j => some (.bl (f i j))
  | .str a, .str b => some (.bl (g a b))
  | _, _ => none
theorem ops_cmp {o : CmpOp} {f : Int → Int → Bool} {g : S → S → Bool} (hi : OpR X (compareOp o) (rI0 fun i j => .bl (f i j)))
    (hs : OpR X (compareOp o) (fun x y H Q => ∃ i j, x = .str i ∧ y = .str j ∧ Q (.bl (g i.cps.toList j.cps.toList)) H)) : OpS X D (compareOp o) (cmpP f g) := by
  refine ⟨_, OpR.or hi hs, fun lvl fr fs σ H x y x' y' z Q I rx ry hz k => ?_⟩
  unfold cmpP at hz
  split at hz
  · cases hz
    rw [rx.int, ry.int]
    exact .inl ⟨_, _, rfl, rfl, k fr H _ I .refl (.bl _)⟩
  · cases hz
    rw [rx.str.1, ry.str.1]
    exact .inr ⟨_, _, rfl, rfl, k fr H _ I .refl (.bl _)⟩
  · cases hz
def ltP := cmpP (fun i j => decide (i < j)) (fun a b => decide (a < b))
def leP := cmpP (fun i j => decide (i ≤ j)) (fun a b => !decide (b < a))
def gtP := cmpP (fun i j => decide (j < i)) (fun a b => decide (b < a))
def geP := cmpP (fun i j => decide (j ≤ i)) (fun a b => !decide (a < b))
theorem ops_lt : OpS X D (compareOp .Lt) ltP := ops_cmp op_lt op_lt_str
theorem ops_le : OpS X D (compareOp .LtE) leP := ops_cmp op_le op_le_str
theorem ops_gt : OpS X D (compareOp .Gt) gtP := ops_cmp op_gt op_gt_str
theorem ops_ge : OpS X D (compareOp .GtE) geP := ops_cmp op_ge op_ge_str
end
end Mi
end S_Mi7
section S_Mi8
set_option Elab.async false
set_option linter.all false
set_option maxRecDepth 100000
set_option maxHeartbeats 4000000
namespace Mi
open PySem PySem.Spec PyProof.Rows L2
section
variable {X : Cx} {D : Stat} {lvl : Nat} {W : WX} {ws : List Nat} {fr fr1 fr' : Fr} {H H1 H' : Hp} {fs s : Fs} {σ σ' : L2.St} {pos : Pos} {K : PySem.W.Frag}
theorem strOf_len (s : S) : (strOf s).length = s.length := by
  unfold Str.length strOf
  exact List.size_toArray
theorem strOf_append (a b : S) : strOf a ++ strOf b = strOf (a ++ b) := by
  show Str.append (strOf a) (strOf b) = strOf (a ++ b)
  unfold Str.append strOf
  simp
theorem okS_app {a b : S} (ha : okS a = true) (hb : okS b = true) (h : a.length + b.length ≤ sizeLine) : okS (a ++ b) = true :=
  okS_mk (by rw [List.length_append]; exact h) fun c hc => (List.mem_append.mp hc).elim (okS_lt ha c) (okS_lt hb c)
theorem KV'.newSh {Q : VK} {z : PV} {o : HO} (I : FI D lvl fr fs σ H) (k : KV' D lvl fr H σ Q z fs) (c : Cont D fr H z o) : ∀ p, H p = none → Q (.ref p) (upd H p o) := fun p np => by
  have ev : Ev lvl fr H fr (upd H p o) := ev_new np
  exact k _ _ _ (I.new np) ev (.con (I.gi.free np) upd_same (Cont.ev ev c))
def KF' (D : Stat) (lvl : Nat) (fr : Fr) (H : Hp) (σ : L2.St) (Q : VK) : PV → Fs → Prop := fun v s => ∀ fr' H' p o, FI D lvl fr' s σ H' → Ev lvl fr H fr' H' → fr'.ow p = some .tmp → H' p = some o → Cont D fr' H' v o → Q (.ref p) H'
theorem KF'.new {Q : VK} {z : PV} {o : HO} (I : FI D lvl fr fs σ H) (k : KF' D lvl fr H σ Q z fs) (c : Cont D fr H z o) : ∀ p, H p = none → Q (.ref p) (upd H p o) := fun p np => by
  have ev : Ev lvl fr H (reow fr p (some .tmp)) (upd H p o) := ev_newOw np
  exact k _ _ _ _ (I.newTmp np) ev reow_same upd_same (Cont.ev ev c)
theorem KF'.base {Q : VK} {v : PV} (h : KF' D lvl fr H σ Q v s) (e : Ev lvl fr H fr1 H1) : KF' D lvl fr1 H1 σ Q v s := fun fr' H' p o I e' => h fr' H' p o I (e.trans e')

/-! ### arithmetic -/
def addP (x y : PV) : Option PV := match x, y with
  | .int i, .int j => some (.int (i + j))
  | .str a, .str b => if a.length + b.length ≤ sizeLine then some (.str (a ++ b)) else none
  | .lst a, .lst b => if a.length + b.length ≤ sizeLine then some (.lst (a ++ b)) else none
  | .tup a, .tup b => if a ≠ [] ∧ b ≠ [] ∧ a.length + b.length ≤ sizeLine then some (.tup (a ++ b)) else none
  | _, _ => none
theorem Rels.ne {xs : List PV} {vs : List V} (r : Rels D fr H xs vs) (h : xs ≠ []) : vs ≠ [] := by
  cases r with
  | nil => exact absurd rfl h
  | cons _ _ => simp
theorem ops_add : OpS X D (binaryOp .Add) addP := by
  refine ⟨_, OpR.or op_add (OpR.or op_add_str (OpR.or op_cat op_catT)), fun lvl fr fs σ H x y x' y' z Q I rx ry hz k => ?_⟩
  unfold addP at hz
  split at hz
  · cases hz
    rw [rx.int, ry.int]
    exact .inl ⟨_, _, rfl, rfl, k fr H _ I .refl (.int _)⟩
  · split at hz
    · rename_i h
      cases hz
      obtain ⟨rfl, h1⟩ := rx.str
      obtain ⟨rfl, h2⟩ := ry.str
      refine .inr (.inl ⟨_, _, rfl, rfl, by rw [strOf_len, strOf_len]; exact h, ?_⟩)
      rw [strOf_append]
      exact k fr H _ I .refl (.str (okS_app h1 h2 h))
    · cases hz
  · split at hz
    · rename_i h
      cases hz
      obtain ⟨a, vs, rfl, h1, h2, h3⟩ := rx.lst
      obtain ⟨b, us, rfl, q1, q2, q3⟩ := ry.lst
      refine .inr (.inr (.inl ⟨a, b, vs, us, rfl, rfl, h1, q1, by rw [h3.length, q3.length]; exact h, ?_⟩))
      exact k.newSh I (.lst (by rw [List.length_append]; exact h) (h3.append q3))
    · cases hz
  · split at hz
    · rename_i h
      cases hz
      obtain ⟨a, vs, rfl, h1, h2, h3⟩ := rx.tup
      obtain ⟨b, us, rfl, q1, q2, q3⟩ := ry.tup
      refine .inr (.inr (.inr ⟨a, b, vs, us, rfl, rfl, .inl (.inl h1), .inl (.inl q1), h3.ne h.1, by rw [h3.length, q3.length]; exact h.2.2, fun e => absurd e (q3.ne h.2.1), fun _ => ?_⟩))
      exact k.newSh I (.tup (by rw [List.length_append]; exact h.2.2) (h3.append q3))
    · cases hz
  · cases hz
def iP (c : Int → Int → Bool) (f : Int → Int → Int) (x y : PV) : Option PV := match x, y with
  | .int i, .int j => if c i j = true then some (.int (f i j)) else none
  | _, _ => none
theorem ops_int {o : Operator} {C : Int → Int → Prop} {f : Int → Int → Int} {c : Int → Int → Bool} (h : OpR X (binaryOp o) (rI C fun i j => .int (f i j))) (hc : ∀ i j, c i j = true → C i j) : OpS X D (binaryOp o) (iP c f) := by
  refine ⟨_, h, fun lvl fr fs σ H x y x' y' z Q I rx ry hz k => ?_⟩
  unfold iP at hz
  split at hz
  · split at hz
    · rename_i h
      cases hz
      rw [rx.int, ry.int]
      exact ⟨_, _, rfl, rfl, hc _ _ h, k fr H _ I .refl (.int _)⟩
    · cases hz
  · cases hz
def subP : PV → PV → Option PV := iP (fun _ _ => true) (fun i j => i - j)
theorem ops_sub : OpS X D (binaryOp .Sub) subP := ops_int (C := fun _ _ => True) (fun pins s σ H x y v u Q I rx ry ⟨i, j, e1, e2, _, q⟩ => op_sub pins s σ H x y v u Q I rx ry ⟨i, j, e1, e2, q⟩) fun _ _ _ => trivial
def fdivP : PV → PV → Option PV := iP (fun _ j => decide (0 < j) && decide (j.natAbs.log2 < 9000)) (fun i j => i / j)
theorem ops_fdiv : OpS X D (binaryOp .FloorDiv) fdivP := ops_int op_fdivW fun i j h => by
  simp only [Bool.and_eq_true, decide_eq_true_eq] at h
  exact h
def modP : PV → PV → Option PV := iP (fun _ j => decide (0 < j)) (fun i j => i % j)
theorem ops_mod : OpS X D (binaryOp .Mod) modP := ops_int op_mod fun i j h => of_decide_eq_true h
def powP : PV → PV → Option PV := iP (fun i j => decide (0 ≤ j) && (decide (j ≤ 1000000) && decide (i.natAbs < 2 ^ 64))) (fun i j => i ^ j.toNat)
theorem ops_pow : OpS X D (binaryOp .Pow) powP := ops_int op_pow fun i j h => by
  simp only [Bool.and_eq_true, decide_eq_true_eq] at h
  exact ⟨h.1, h.2.1, h.2.2⟩
/-- how often -/
def repS (n : Nat) (a : S) : S := (List.replicate n a).flatten
theorem repS_len (n : Nat) (a : S) : (repS n a).length = n * a.length := by
  unfold repS
  induction n with
  | zero => simp
  | succ n ih => rw [List.replicate_succ, List.flatten_cons, List.length_append, ih, Nat.succ_mul]; omega
theorem foldl_app (x : Array Nat) : ∀ (n : Nat) (acc : Array Nat), ((List.replicate n x).foldl (· ++ ·) acc) = acc ++ (List.replicate n x.toList).flatten.toArray
  | 0, acc => by simp
  | n + 1, acc => by
    rw [List.replicate_succ, List.foldl_cons, foldl_app x n, List.replicate_succ, List.flatten_cons]
    apply Array.toList_inj.mp
    simp
def rMulS : R2 := fun x y H Q => ∃ (a : S) (n : Int), x = .str (strOf a) ∧ y = .int n ∧ -(2 ^ 63) ≤ n ∧ n < 2 ^ 63 ∧ n.toNat * a.length ≤ sizeLine ∧ Q (.str (strOf (repS n.toNat a))) H
theorem op_mulS : OpR X (binaryOp .Mult) rMulS := by
  intro pins s σ H x y v u Q I rx ry h
  obtain ⟨a, n, rfl, rfl, h1, h2, h3, q⟩ := h
  obtain ⟨t, rfl⟩ := rx
  obtain ⟨t', rfl⟩ := ry
  have e1 : (decide (n < -(2 ^ 63 : Int)) || decide (n ≥ 2 ^ 63)) = false := by
    rw [decide_eq_false (by omega), decide_eq_false (by omega)]; rfl
  have hz : sizeLine = 16777216 := by decide
  have hl := strOf_len a
  have key : ∀ tk, EP X pins σ Q (.str (strOf (repS n.toNat a)) tk) { s with toks := s.toks + 1 } := fun tk => ⟨.str _, H, I.tok _, ⟨_, rfl⟩, q⟩
  refine PySem.P.mul_str e1 (fun p1 p2 => ?_) (fun p1 p2 => ?_) ?_
  · rw [hl]
    have hn : 0 < n := by omega
    have hb : n * (a.length : Int) ≤ 16777216 := by
      have : ((n.toNat * a.length : Nat) : Int) ≤ 16777216 := by rw [hz] at h3; omega
      rw [Int.natCast_mul, Int.toNat_of_nonneg (by omega)] at this
      exact this
    have : (a.length : Int) ≤ (2 ^ 63 - 1) / n := by
      rw [Int.le_ediv_iff_mul_le hn, Int.mul_comm]
      omega
    omega
  · rw [hl]
    unfold Builtin.Str.tooLong
    rw [hz] at h3
    have e : a.length * n.toNat ≤ 16777216 := by rw [Nat.mul_comm]; exact h3
    rw [show (decide (a.length * n.toNat > sizeLine)) = false from decide_eq_false (by rw [hz]; omega)]
  · by_cases c1 : n < 1
    · rw [if_pos c1]
      have : n.toNat = 0 := by omega
      refine ⟨by decide, ?_⟩
      have := key s.toks
      rw [‹n.toNat = 0›] at this
      exact this
    · rw [if_neg c1]
      split
      · rename_i c2
        refine ⟨.str (strOf (repS n.toNat a)), H, I, ?_, q⟩
        have : repS n.toNat a = a := by
          rw [Bool.or_eq_true] at c2
          rcases c2 with c2 | c2
          · have : n = 1 := by simpa using c2
            subst this
            unfold repS
            simp
          · have : a.length = 0 := by rw [hl] at c2; simpa using c2
            have := List.length_eq_zero_iff.mp this
            subst this
            unfold repS
            simp
        rw [this]
        exact ⟨_, rfl⟩
      · have e : (⟨(List.replicate n.toNat (strOf a).cps).foldl (· ++ ·) #[]⟩ : Str) = strOf (repS n.toNat a) := by
          rw [foldl_app]
          unfold strOf repS
          simp
        rw [e]
        exact ⟨by rw [strOf_len, repS_len]; omega, key _⟩
def mulP (x y : PV) : Option PV := match x, y with
  | .int i, .int j => if i.natAbs.log2 + j.natAbs.log2 < 1000000 then some (.int (i * j)) else none
  | .str a, .int n => if -(2 ^ 63) ≤ n ∧ n < 2 ^ 63 ∧ n.toNat * a.length ≤ sizeLine then some (.str (repS n.toNat a)) else none
  | .lst a, .int n => if -(2 ^ 63) ≤ n ∧ n < 2 ^ 63 ∧ a.length * n.toNat ≤ sizeLine then some (.lst (List.replicate n.toNat a).flatten) else none
  | _, _ => none
theorem flat_len {α : Type} (n : Nat) (a : List α) : (List.replicate n a).flatten.length = a.length * n := by
  induction n with
  | zero => simp
  | succ n ih => rw [List.replicate_succ, List.flatten_cons, List.length_append, ih, Nat.mul_succ]; omega
theorem ops_mul : OpS X D (binaryOp .Mult) mulP := by
  refine ⟨_, OpR.or op_mulW (OpR.or op_mulS op_rep), fun lvl fr fs σ H x y x' y' z Q I rx ry hz k => ?_⟩
  unfold mulP at hz
  split at hz
  · split at hz
    · rename_i h
      cases hz
      rw [rx.int, ry.int]
      exact .inl ⟨_, _, rfl, rfl, h, k fr H _ I .refl (.int _)⟩
    · cases hz
  · split at hz
    · rename_i h
      cases hz
      obtain ⟨rfl, h1⟩ := rx.str
      rw [ry.int]
      refine .inr (.inl ⟨_, _, rfl, rfl, h.1, h.2.1, h.2.2, ?_⟩)
      refine k fr H _ I .refl (.str (okS_mk (by rw [repS_len]; exact h.2.2) fun c hc => ?_))
      unfold repS at hc
      obtain ⟨l, hl, hc⟩ := List.mem_flatten.mp hc
      rw [List.mem_replicate] at hl
      rw [hl.2] at hc
      exact okS_lt h1 c hc
    · cases hz
  · split at hz
    · rename_i h
      cases hz
      obtain ⟨a, vs, rfl, h1, h2, h3⟩ := rx.lst
      rw [ry.int]
      refine .inr (.inr ⟨a, _, vs, rfl, rfl, h1, h.1, h.2.1, by rw [h3.length]; exact h.2.2, ?_⟩)
      exact k.newSh I (.lst (by rw [flat_len]; exact h.2.2) (h3.flatten_rep _))
    · cases hz
  · cases hz
def fNeg (f : M PV) : M PV := M.bind f fun v => match v with
  | .int i => M.pure (.int (-i))
  | _ => fun _ => .no
theorem se_neg {a : Expr} {f : M PV} (ha : PE X a (tE D lvl W f)) : PE X (.UnaryOp .USub a pos) (tE D lvl W (fNeg f)) := by
  refine PE.imp (pe_un un_neg ha) ?_
  rintro σ H Q ⟨fr, fs, I, h⟩
  refine nextE I h fun x s fr1 H1 v I1 e1 r1 h1 => ?_
  cases r1 with
  | int i => exact ⟨i, rfl, h1 fr1 H1 _ I1 e1 (.int _)⟩
  | con _ _ k => cases k <;> exact h1.elim
  | _ => exact h1.elim

/-! ### subscripts -/
def keyOf : PV → Option Key
  | .int i => some (.inl i)
  | .str s => some (.inr (strOf s))
  | _ => none
def keq : PV → PV → Bool
  | .int i, .int j => decide (i = j)
  | .str a, .str b => decide (a = b)
  | _, _ => false
def dfind (kvs : List (PV × PV)) (k : PV) : Option PV := (kvs.find? fun p => keq p.1 k).map (·.2)
def dput (kvs : List (PV × PV)) (k v : PV) : List (PV × PV) := if (kvs.any fun p => keq p.1 k) = true then kvs.map (fun p => if keq p.1 k = true then (p.1, v) else p) else kvs ++ [(k, v)]
theorem keq_key {k : PV} {key key' : Key} (h : keyOf k = some key) : keq (keyP key') k = decide (key' = key) := by
  cases k with
  | int i =>
    cases h
    cases key' with
    | inl j => by_cases e : j = i <;> simp [keq, keyP, e]
    | inr y => simp [keq, keyP]
  | str s =>
    cases h
    cases key' with
    | inl j => simp [keq, keyP]
    | inr y =>
      have : (y.cps.toList = s) ↔ y = strOf s := by
        constructor
        · intro e; subst e; rfl
        · intro e; subst e; rfl
      by_cases e : y = strOf s
      · subst e; simp [keq, keyP, strOf]
      · have e' : ¬ y.cps.toList = s := fun z => e (this.mp z)
        simp [keq, keyP, e, e']
  | _ => cases h
theorem RelD.find {kvs : List (PV × PV)} {hs : List (Key × V)} (r : RelD D fr H kvs hs) {k : PV} {key : Key} (h : keyOf k = some key) :
    (dfind kvs k = none ∧ valV hs key = none) ∨ ∃ x v, dfind kvs k = some x ∧ valV hs key = some v ∧ Rel D fr H x v := by
  induction kvs generalizing hs with
  | nil => cases r; exact .inl ⟨rfl, rfl⟩
  | cons p kvs ih =>
    cases r with
    | cons hk hv t =>
      rename_i key' x v hs
      have e := keq_key (key' := key') h
      by_cases q : key' = key
      · refine .inr ⟨x, v, ?_, ?_, hv⟩
        · unfold dfind
          rw [List.find?_cons, e, decide_eq_true q]
          rfl
        · unfold valV
          rw [List.find?_cons, decide_eq_true q]
          rfl
      · have e1 : dfind ((keyP key', x) :: kvs) k = dfind kvs k := by
          unfold dfind
          rw [List.find?_cons, e, decide_eq_false q]
        have e2 : valV ((key', v) :: hs) key = valV hs key := by
          unfold valV
          rw [List.find?_cons, decide_eq_false q]
        rw [e1, e2]
        exact ih t
theorem Now.key {k : PV} {v : V} {key : Key} (h : Now D fr H k v) (e : keyOf k = some key) : v = kV key := by
  cases k with
  | int i => cases e; exact h.int
  | str s => cases e; exact h.str.1
  | _ => cases e
def rIxDK : R2 := fun x y H Q => ∃ a v, x = .ref a ∧ DGet H a y (some v) ∧ Q v H
theorem ix_dict (hu : X.A.units + 1 < cLine) : IxR X rIxDK := by
  intro value slice pins s σ H x y v u Q I rx ry h hs
  obtain ⟨a, w, rfl, g, q⟩ := h
  obtain rfl : v = Value.ref a := rx
  exact tail_any (dict_typeIs I g) slot_dict_getitem.lookup (d_getItem hu I g ry fun w' s' I' rw' => ⟨w, H, I', rw', q⟩) hs
/-- an item: of a list, a tuple, a text, a dict, a box -/
def ixP (s : Fs) (x i : PV) : Option PV := match x, i with
  | .lst xs, .int i => atI xs i
  | .tup xs, .int i => atI xs i
  | .str z, .int i => (atI z i).map ch
  | .dic kvs, k => if (keyOf k).isSome = true then dfind kvs k else none
  | .obj j, .int i => match s.hp[j]? with
    | some (.box xs) => atI xs i
    | _ => none
  | _, _ => none
def fIx (fo fi : M Loc) : M PV := M.bind fo fun la => M.bind fi fun lb => fun s => match rd s la, rd s lb with
  | some x, some y => match ixP s x y with
    | some z => .ok z s
    | none => .no
  | _, _ => .no
theorem Rels.atI {xs : List PV} {vs : List V} (r : Rels D fr H xs vs) {i : Int} {x : PV} (h : atI xs i = some x) : ∃ v, L2.atI vs i = some v ∧ Rel D fr H x v := by
  unfold L2.atI at h ⊢
  rw [r.length]
  cases e : ixN xs.length i with
  | none => rw [e] at h; cases h
  | some j =>
    rw [e] at h
    exact r.get h
theorem se_ix {a b : Expr} {fa fb : M Loc} (hu : X.A.units + 1 < cLine) (ha : PE X a (tO D lvl W fa)) (hb : PE X b (tO D lvl W fb)) (hs : PlainIx b) : PE X (.Subscript a b pos) (tE D lvl W (fIx fa fb)) := by
  refine PE.imp (pe_ix (IxR.or ix_list (IxR.or ix_tup (IxR.or ix_str (ix_dict hu)))) ha hb hs) ?_
  rintro σ H Q ⟨fr, fs, I, h⟩
  refine nextO I h fun l s fr1 H1 x' I1 e1 r1 h1 => nextO I1 h1 fun l2 s2 fr2 H2 y' I2 e2 r2 h2 => ?_
  split at h2
  · rename_i x y hx hy
    split at h2
    · rename_i z hz
      have rx := rd_now I2 (r1.ev e2) hx
      have ry := rd_now I2 r2 hy
      have k : KV' D lvl fr2 H2 σ Q z s2 := KV'.base h2 (e1.trans e2)
      have fin : ∀ v, Rel D fr2 H2 z v → Q v H2 := fun v r => k fr2 H2 v I2 .refl r
      unfold ixP at hz
      split at hz
      · obtain ⟨a, vs, rfl, q1, q2, q3⟩ := rx.lst
        obtain ⟨v, hv, rv⟩ := q3.atI hz
        rw [ry.int]
        exact .inl ⟨a, vs, _, v, rfl, rfl, .inl (.inl q1), hv, fin v rv⟩
      · obtain ⟨a, vs, rfl, q1, q2, q3⟩ := rx.tup
        obtain ⟨v, hv, rv⟩ := q3.atI hz
        rw [ry.int]
        exact .inr (.inl ⟨a, vs, _, v, rfl, rfl, .inl (.inl q1), hv, fin v rv⟩)
      · obtain ⟨rfl, ok⟩ := rx.str
        rw [ry.int]
        rename_i w i
        cases hc : L2.atI w i with
        | none => rw [hc] at hz; cases hz
        | some c =>
          rw [hc] at hz
          cases hz
          refine .inr (.inr (.inl ⟨strOf w, i, c, rfl, rfl, by rw [strOf_len]; exact okS_len ok, hc, ?_⟩))
          refine fin _ (.str (okS_one ok ?_))
          unfold L2.atI at hc
          cases e : ixN w.length i with
          | none => rw [e] at hc; cases hc
          | some j => rw [e] at hc; exact List.mem_of_getElem? hc
      · split at hz
        · rename_i kvs k hk
          obtain ⟨a, hs, rfl, q1, q2, q3⟩ := rx.dic
          obtain ⟨key, ek⟩ := Option.isSome_iff_exists.mp hk
          rw [ry.key ek]
          rcases q3.find ek with ⟨w1, w2⟩ | ⟨x1, v1, w1, w2, w3⟩
          · rw [w1] at hz; cases hz
          · rw [w1] at hz
            cases hz
            have g := DGet.k (k := key) q1
            rw [w2] at g
            exact .inr (.inr (.inr ⟨a, v1, rfl, g, fin v1 w3⟩))
        · cases hz
      · rename_i j i
        split at hz
        · rename_i xs hj
          obtain ⟨a, vs, q1, q2, q3, q4, q5⟩ := I2.gi.ob j _ hj
          have : x' = .ref a := by
            rcases rx with r | ⟨b, o, rfl, _, k⟩
            · cases r with
              | con _ _ k => cases k
              | obj h => rw [q1] at h; cases h; rfl
            · cases k
          subst this
          obtain ⟨v, hv, rv⟩ := q5.atI hz
          rw [ry.int]
          exact .inl ⟨a, vs, _, v, rfl, rfl, .inl (.inl q3), hv, fin v rv⟩
        · cases hz
      · cases hz
    · exact h2.elim
  · exact h2.elim
end
end Mi
end S_Mi8
section S_Mi9
set_option Elab.async false
set_option linter.all false
set_option maxRecDepth 100000
set_option maxHeartbeats 4000000
namespace Mi
open PySem PySem.Spec PyProof.Rows L2
/-- operands -/
def rds (s : Fs) : List Loc → Option (List PV)
  | [] => some []
  | l :: ls => match rd s l, rds s ls with
    | some x, some xs => some (x :: xs)
    | _, _ => none
def LocsR (D : Stat) (fr : Fr) (H : Hp) (σ : L2.St) : List Loc → List V → Prop
  | [], [] => True
  | l :: ls, v :: vs => LocR D fr H σ l v ∧ LocsR D fr H σ ls vs
  | _, _ => False
def Nows (D : Stat) (fr : Fr) (H : Hp) : List PV → List V → Prop
  | [], [] => True
  | x :: xs, v :: vs => Now D fr H x v ∧ Nows D fr H xs vs
  | _, _ => False
def tOs (D : Stat) (lvl : Nat) (W : WX) (f : M (List Loc)) : TA := fun σ H Q => ∃ fr fs, FI D lvl fr fs σ H ∧ Res D lvl W fr H σ (f fs) fun l s => ∀ fr' H' v', FI D lvl fr' s σ H' → Ev lvl fr H fr' H' → LocsR D fr' H' σ l v' → Q v' H'
section
variable {X : Cx} {D : Stat} {lvl : Nat} {W : WX} {ws : List Nat} {fr fr1 fr' : Fr} {H H1 H' : Hp} {fs s : Fs} {σ σ' : L2.St} {pos : Pos} {K : PySem.W.Frag} {β : Type}
theorem LocsR.ev (e : Ev lvl fr H fr' H') : ∀ {ls : List Loc} {vs : List V}, LocsR D fr H σ ls vs → LocsR D fr' H' σ ls vs
  | [], [], _ => trivial
  | _ :: _, _ :: _, ⟨h, t⟩ => ⟨h.ev e, LocsR.ev e t⟩
theorem rds_now (I : FI D lvl fr fs σ H) : ∀ {ls : List Loc} {vs : List V} {xs : List PV}, LocsR D fr H σ ls vs → rds fs ls = some xs → Nows D fr H xs vs
  | [], [], xs, _, h => by cases h; trivial
  | l :: ls, v :: vs, xs, ⟨r, t⟩, h => by
    unfold rds at h
    split at h
    · rename_i x ys h1 h2
      cases h
      exact ⟨rd_now I r h1, rds_now I t h2⟩
    · cases h
theorem nextOs {f : M (List Loc)} {g : List Loc → M β} {K : β → Fs → Prop} {Q : List V → Hp → Prop} (I : FI D lvl fr fs σ H) (h : Res D lvl W fr H σ ((M.bind f g) fs) K)
    (nx : ∀ x s fr1 H1 v, FI D lvl fr1 s σ H1 → Ev lvl fr H fr1 H1 → LocsR D fr1 H1 σ x v → Res D lvl W fr1 H1 σ (g x s) K → Q v H1) : tOs D lvl W f σ H Q :=
  ⟨fr, fs, I, (Res.bind h).mono fun x s k fr1 H1 v I1 e r => nx x s fr1 H1 v I1 e r (k.base e)⟩
def fONil : M (List Loc) := M.pure []
def fOCons (f : M Loc) (g : M (List Loc)) : M (List Loc) := M.bind f fun x => M.bind g fun xs => M.pure (x :: xs)
theorem so_nil : PA X [] (tOs D lvl W fONil) := PA.imp pa_nil fun σ H Q ⟨fr, fs, I, h⟩ => h fr H [] I .refl trivial
theorem so_cons {e : Expr} {es : List Expr} {f : M Loc} {g : M (List Loc)} (ha : PE X e (tO D lvl W f)) (hr : PA X es (tOs D lvl W g)) (hs : starEach (e :: es) X.env = (false, eval e X.env) :: starEach es X.env := by rfl) :
    PA X (e :: es) (tOs D lvl W (fOCons f g)) := by
  refine PA.imp (pa_cons ha hr hs) ?_
  rintro σ H Q ⟨fr, fs, I, h⟩
  exact nextO I h fun x s fr1 H1 v I1 e1 r1 h1 => nextOs I1 h1 fun xs s2 fr2 H2 vs I2 e2 r2 h2 => h2 fr2 H2 (v :: vs) I2 (e1.trans e2) ⟨r1.ev e2, r2⟩

/-! ### calls of built-ins -/
def fB (g : M (List Loc)) (op : List PV → Option PV) : M PV := M.bind g fun ls s => match rds s ls with
  | some xs => match op xs with
    | some z => .ok z s
    | none => .no
  | none => .no
def CallS (X : Cx) (D : Stat) (f : Value) (op : List PV → Option PV) : Prop := ∃ r, CallR X f r ∧ ∀ (lvl : Nat) (fr : Fr) (fs : Fs) (σ : L2.St) (H : Hp) (xs : List PV) (vs : List V) (z : PV) (Q : VK),
  FI D lvl fr fs σ H → Nows D fr H xs vs → op xs = some z → KV' D lvl fr H σ Q z fs → r vs H Q
/-- .. that give a new container -/
def CallF (X : Cx) (D : Stat) (f : Value) (op : List PV → Option PV) : Prop := ∃ r, CallR X f r ∧ ∀ (lvl : Nat) (fr : Fr) (fs : Fs) (σ : L2.St) (H : Hp) (xs : List PV) (vs : List V) (z : PV) (Q : VK),
  FI D lvl fr fs σ H → Nows D fr H xs vs → op xs = some z → KF' D lvl fr H σ Q z fs → r vs H Q
variable {x : Str} {p : Pos} {e : Expr} {es : List Expr} {g : M (List Loc)} {op : List PV → Option PV}
theorem fB_run {r : List V → Hp → VK → Prop} {Q : VK} (hs : ∀ (lvl : Nat) (fr : Fr) (fs : Fs) (σ : L2.St) (H : Hp) (xs : List PV) (vs : List V) (z : PV) (Q : VK), FI D lvl fr fs σ H → Nows D fr H xs vs → op xs = some z → KV' D lvl fr H σ Q z fs → r vs H Q)
    (h : tE D lvl W (fB g op) σ H Q) : tCB r (tOs D lvl W g) σ H Q := by
  obtain ⟨fr, fs, I, h⟩ := h
  refine nextOs I h fun ls s fr1 H1 vs I1 e1 r1 h1 => ?_
  split at h1
  · rename_i xs hx
    split at h1
    · rename_i z hz
      exact hs lvl fr1 s σ H1 xs vs z Q I1 (rds_now I1 r1 hx) hz (KV'.base h1 e1)
    · exact h1.elim
  · exact h1.elim
theorem fBF_run {r : List V → Hp → VK → Prop} {Q : VK} (hs : ∀ (lvl : Nat) (fr : Fr) (fs : Fs) (σ : L2.St) (H : Hp) (xs : List PV) (vs : List V) (z : PV) (Q : VK), FI D lvl fr fs σ H → Nows D fr H xs vs → op xs = some z → KF' D lvl fr H σ Q z fs → r vs H Q)
    (h : tF D lvl W (fB g op) σ H Q) : tCB r (tOs D lvl W g) σ H Q := by
  obtain ⟨fr, fs, I, h⟩ := h
  refine nextOs I h fun ls s fr1 H1 vs I1 e1 r1 h1 => ?_
  split at h1
  · rename_i xs hx
    split at h1
    · rename_i z hz
      exact hs lvl fr1 s σ H1 xs vs z Q I1 (rds_now I1 r1 hx) hz (KF'.base h1 e1)
    · exact h1.elim
  · exact h1.elim
theorem se_b {id : String} (hc : CallS X D (.builtin id) op) (hg : Gl X x) (hm : X.mg x = none) (hv : bootBuiltins x = some (.builtin id)) (ha : PA X (e :: es) (tOs D lvl W g)) (hn : x ≠ "__name__" := by decide) (hdb : (x == ("__debug__" : Str)) = false := by decide)
    (he : starEach (e :: es) X.env = (false, eval e X.env) :: starEach es X.env := by rfl) (hpl : (backTo pos (starEach es X.env)).any (·.1) = false := by rfl) : PE X (.Call (.Name x p) (e :: es) [] pos) (tE D lvl W (fB g op)) := by
  obtain ⟨r, hr, hs⟩ := hc
  exact PE.imp (pe_callB hr hg hm hv ha hn hdb he hpl) fun σ H Q h => fB_run hs h
theorem se_ty {T : String} (hc : CallS X D (.type T) op) (hg : Gl X x) (hm : X.mg x = none) (hv : bootBuiltins x = some (.type T)) (ha : PA X (e :: es) (tOs D lvl W g)) (hn : x ≠ "__name__" := by decide) (hdb : (x == ("__debug__" : Str)) = false := by decide)
    (he : starEach (e :: es) X.env = (false, eval e X.env) :: starEach es X.env := by rfl) (hpl : (backTo pos (starEach es X.env)).any (·.1) = false := by rfl) : PE X (.Call (.Name x p) (e :: es) [] pos) (tE D lvl W (fB g op)) := by
  obtain ⟨r, hr, hs⟩ := hc
  exact PE.imp (pe_callTy hr hg hm hv ha hn hdb he hpl) fun σ H Q h => fB_run hs h
theorem sf_b {id : String} (hc : CallF X D (.builtin id) op) (hg : Gl X x) (hm : X.mg x = none) (hv : bootBuiltins x = some (.builtin id)) (ha : PA X (e :: es) (tOs D lvl W g)) (hn : x ≠ "__name__" := by decide) (hdb : (x == ("__debug__" : Str)) = false := by decide)
    (he : starEach (e :: es) X.env = (false, eval e X.env) :: starEach es X.env := by rfl) (hpl : (backTo pos (starEach es X.env)).any (·.1) = false := by rfl) : PE X (.Call (.Name x p) (e :: es) [] pos) (tF D lvl W (fB g op)) := by
  obtain ⟨r, hr, hs⟩ := hc
  exact PE.imp (pe_callB hr hg hm hv ha hn hdb he hpl) fun σ H Q h => fBF_run hs h
theorem sf_ty {T : String} (hc : CallF X D (.type T) op) (hg : Gl X x) (hm : X.mg x = none) (hv : bootBuiltins x = some (.type T)) (ha : PA X (e :: es) (tOs D lvl W g)) (hn : x ≠ "__name__" := by decide) (hdb : (x == ("__debug__" : Str)) = false := by decide)
    (he : starEach (e :: es) X.env = (false, eval e X.env) :: starEach es X.env := by rfl) (hpl : (backTo pos (starEach es X.env)).any (·.1) = false := by rfl) : PE X (.Call (.Name x p) (e :: es) [] pos) (tF D lvl W (fB g op)) := by
  obtain ⟨r, hr, hs⟩ := hc
  exact PE.imp (pe_callTy hr hg hm hv ha hn hdb he hpl) fun σ H Q h => fBF_run hs h
theorem CallR.or {f : Value} {r r' : List V → Hp → VK → Prop} (h : CallR X f r) (h' : CallR X f r') : CallR X f (fun vs H Q => r vs H Q ∨ r' vs H Q) := fun pins s σ H xs us Q I rv q => q.elim (h pins s σ H xs us Q I rv) (h' pins s σ H xs us Q I rv)
theorem Nows.one {y : PV} {vs : List V} (h : Nows D fr H [y] vs) : ∃ v, vs = [v] ∧ Now D fr H y v := by
  match vs, h with
  | [v], h => exact ⟨v, rfl, h.1⟩
theorem Nows.two {y z : PV} {vs : List V} (h : Nows D fr H [y, z] vs) : ∃ v w, vs = [v, w] ∧ Now D fr H y v ∧ Now D fr H z w := by
  match vs, h with
  | [v, w], h => exact ⟨v, w, rfl, h.1, h.2.1⟩
theorem Nows.nil {vs : List V} (h : Nows D fr H [] vs) : vs = [] := by
  match vs, h with
  | [], h => rfl
/-- len -/
def lenP : List PV → Option PV
  | [.str s] => some (.int s.length)
  | [.lst xs] => some (.int xs.length)
  | [.tup xs] => some (.int xs.length)
  | _ => none
theorem cs_len : CallS X D (.builtin "len") lenP := by
  refine ⟨_, call_len, fun lvl fr fs σ H xs vs z Q I r hz k => ?_⟩
  unfold lenP at hz
  split at hz
  · cases hz
    obtain ⟨v, rfl, n⟩ := r.one
    obtain ⟨rfl, ok⟩ := n.str
    exact ⟨_, _, rfl, ⟨by rw [strOf_len]; exact okS_len ok, (strOf_len _).symm⟩, k fr H _ I .refl (.int _)⟩
  · cases hz
    obtain ⟨v, rfl, n⟩ := r.one
    obtain ⟨a, vs, rfl, h1, h2, h3⟩ := n.lst
    exact ⟨_, _, rfl, .inl ⟨vs, .inl (.inl h1), h3.length.symm⟩, k fr H _ I .refl (.int _)⟩
  · cases hz
    obtain ⟨v, rfl, n⟩ := r.one
    obtain ⟨a, vs, rfl, h1, h2, h3⟩ := n.tup
    exact ⟨_, _, rfl, .inr ⟨vs, .inl (.inl h1), h3.length.symm⟩, k fr H _ I .refl (.int _)⟩
  · cases hz
/-- all, any of a list of bools -/
def bools : List PV → Option (List Bool)
  | [] => some []
  | .bl b :: r => (bools r).map (b :: ·)
  | _ => none
theorem bools_rel : ∀ {xs : List PV} {vs : List V} {bs : List Bool}, Rels D fr H xs vs → bools xs = some bs → vs = bs.map V.bl
  | [], _, bs, .nil, h => by cases h; rfl
  | x :: xs, _, bs, .cons r t, h => by
    cases x with
    | bl b =>
      unfold bools at h
      cases e : bools xs with
      | none => rw [e] at h; cases h
      | some l =>
        rw [e] at h
        cases h
        rw [bools_rel t e]
        cases r with
        | bl _ => rfl
        | con _ _ k => cases k
    | _ => cases h
def allP : List PV → Option PV
  | [.lst xs] => (bools xs).map fun bs => .bl (bs.all id)
  | _ => none
def anyP : List PV → Option PV
  | [.lst xs] => (bools xs).map fun bs => .bl (bs.any id)
  | _ => none
theorem cs_all (hc : X.calm = true) : CallS X D (.builtin "all") allP := by
  refine ⟨_, cr_all hc, fun lvl fr fs σ H xs vs z Q I r hz k => ?_⟩
  unfold allP at hz
  split at hz
  · rename_i ys
    obtain ⟨v, rfl, n⟩ := r.one
    obtain ⟨a, vs, rfl, h1, h2, h3⟩ := n.lst
    cases e : bools ys with
    | none => rw [e] at hz; cases hz
    | some bs =>
      rw [e] at hz
      cases hz
      have := bools_rel h3 e
      subst this
      exact ⟨a, bs, rfl, .inl (.inl h1), k fr H _ I .refl (.bl _)⟩
  · cases hz
theorem cs_any (hc : X.calm = true) : CallS X D (.builtin "any") anyP := by
  refine ⟨_, cr_any hc, fun lvl fr fs σ H xs vs z Q I r hz k => ?_⟩
  unfold anyP at hz
  split at hz
  · rename_i ys
    obtain ⟨v, rfl, n⟩ := r.one
    obtain ⟨a, vs, rfl, h1, h2, h3⟩ := n.lst
    cases e : bools ys with
    | none => rw [e] at hz; cases hz
    | some bs =>
      rw [e] at hz
      cases hz
      have := bools_rel h3 e
      subst this
      exact ⟨a, bs, rfl, .inl (.inl h1), k fr H _ I .refl (.bl _)⟩
  · cases hz
/-- int(x) -/
def intP : List PV → Option PV
  | [.int i] => some (.int i)
  | [.bl b] => some (.int (if b then 1 else 0))
  | _ => none
theorem cs_int : CallS X D (.type "int") intP := by
  refine ⟨_, call_int1, fun lvl fr fs σ H xs vs z Q I r hz k => ?_⟩
  unfold intP at hz
  split at hz
  · cases hz
    obtain ⟨v, rfl, n⟩ := r.one
    rw [n.int]
    exact .inl ⟨_, rfl, k fr H _ I .refl (.int _)⟩
  · cases hz
    obtain ⟨v, rfl, n⟩ := r.one
    rw [n.bl]
    exact .inr ⟨_, rfl, k fr H _ I .refl (.int _)⟩
  · cases hz
/-- list(x), of a list, a tuple; tuple(x) -/
def listP : List PV → Option PV
  | [.lst xs] => some (.lst xs)
  | [.tup xs] => some (.lst xs)
  | _ => none
theorem cf_list : CallF X D (.type "list") listP := by
  refine ⟨_, call_list_of, fun lvl fr fs σ H xs vs z Q I r hz k => ?_⟩
  unfold listP at hz
  split at hz
  · cases hz
    obtain ⟨v, rfl, n⟩ := r.one
    obtain ⟨a, vs, rfl, h1, h2, h3⟩ := n.lst
    exact ⟨a, vs, rfl, .inl (.inl (.inl h1)), k.new I (.lst h2 h3)⟩
  · cases hz
    obtain ⟨v, rfl, n⟩ := r.one
    obtain ⟨a, vs, rfl, h1, h2, h3⟩ := n.tup
    exact ⟨a, vs, rfl, .inr (.inl (.inl h1)), k.new I (.lst h2 h3)⟩
  · cases hz
def tupleP : List PV → Option PV
  | [.lst xs] => some (.tup xs)
  | [.tup xs] => some (.tup xs)
  | _ => none
/-- an owned tuple does not occur -/
theorem Now.tupRel {xs : List PV} {v : V} (h : Rel D fr H (.tup xs) v) : Now D fr H (.tup xs) v := .inl h
theorem cs_tuple : CallS X D (.type "tuple") (fun xs => match xs with | [.lst ys] => some (.tup ys) | _ => none) := by
  refine ⟨_, call_tuple_of, fun lvl fr fs σ H xs vs z Q I r hz k => ?_⟩
  dsimp only at hz
  split at hz
  · cases hz
    obtain ⟨v, rfl, n⟩ := r.one
    obtain ⟨a, vs, rfl, h1, h2, h3⟩ := n.lst
    exact ⟨a, vs, rfl, .inl ⟨.inl (.inl h1), k.newSh I (.tup h2 h3)⟩⟩
  · cases hz

/-! ### slices -/
def cut {α : Type} (xs : List α) (lo hi : Option Int) : List α := (xs.drop (HT.sIx xs.length 0 lo)).take (HT.sIx xs.length xs.length hi - HT.sIx xs.length 0 lo)
theorem Rels.cut {xs : List PV} {vs : List V} (r : Rels D fr H xs vs) (lo hi : Option Int) : Rels D fr H (Mi.cut xs lo hi) (cutV vs lo hi) := by
  unfold Mi.cut cutV
  rw [r.length]
  exact (r.drop _).take _
theorem cut_len {α : Type} (xs : List α) (lo hi : Option Int) : (cut xs lo hi).length ≤ xs.length := by
  unfold cut
  rw [List.length_take, List.length_drop]
  omega
theorem cut_mem {α : Type} {xs : List α} {lo hi : Option Int} {x : α} (h : x ∈ cut xs lo hi) : x ∈ xs := List.mem_of_mem_drop (List.mem_of_mem_take h)
/-- a slice's end -/
def tPo (D : Stat) (lvl : Nat) (W : WX) (f : M (Option Int)) : TO := fun σ H Q => ∃ fr fs, FI D lvl fr fs σ H ∧ Res D lvl W fr H σ (f fs) fun o s => ∀ fr' H', FI D lvl fr' s σ H' → Ev lvl fr H fr' H' → Q o H'
def fNone : M (Option Int) := M.pure none
def fSome (f : M PV) : M (Option Int) := M.bind f fun v => match v with
  | .int i => M.pure (some i)
  | _ => fun _ => .no
theorem PO.imp {e : Option Expr} {t t' : TO} (h : PO X e t) (k : ∀ σ H Q, t' σ H Q → t σ H Q) : PO X e t' := ⟨fun pins s σ H Q I q => h.run pins s σ H Q I (k σ H Q q)⟩
theorem sp_none : PO X none (tPo D lvl W fNone) := PO.imp po_none fun σ H Q ⟨fr, fs, I, h⟩ => h fr H I .refl
theorem sp_some {e : Expr} {f : M PV} (h : PE X e (tE D lvl W f)) : PO X (some e) (tPo D lvl W (fSome f)) := by
  refine PO.imp (po_some h) ?_
  rintro σ H Q ⟨fr, fs, I, h⟩
  refine nextE I h fun x s fr1 H1 v I1 e1 r1 h1 => ?_
  cases r1 with
  | int i => exact ⟨i, rfl, h1 fr1 H1 I1 e1⟩
  | con _ _ k => cases k <;> exact h1.elim
  | _ => exact h1.elim
theorem nextP {β : Type} {f : M (Option Int)} {g : Option Int → M β} {K : β → Fs → Prop} {Q : Option Int → Hp → Prop} (I : FI D lvl fr fs σ H) (h : Res D lvl W fr H σ ((M.bind f g) fs) K)
    (nx : ∀ x s fr1 H1, FI D lvl fr1 s σ H1 → Ev lvl fr H fr1 H1 → Res D lvl W fr1 H1 σ (g x s) K → Q x H1) : tPo D lvl W f σ H Q :=
  ⟨fr, fs, I, (Res.bind h).mono fun x s k fr1 H1 I1 e => nx x s fr1 H1 I1 e (k.base e)⟩
/-- the slice; a tuple's is not the whole -/
def cutP (x : PV) (lo hi : Option Int) : Option PV := match x with
  | .str s => some (.str (cut s lo hi))
  | .lst xs => some (.lst (cut xs lo hi))
  | .tup xs => if HT.sIx xs.length 0 lo = 0 ∧ HT.sIx xs.length xs.length hi = xs.length then none else some (.tup (cut xs lo hi))
  | .scr ns => if (cut ns lo hi).length ≤ sizeLine then some (.lst ((cut ns lo hi).map PV.int)) else none
  | _ => none
def fCut (fo : M Loc) (fl fh : M (Option Int)) : M PV := M.bind fo fun l => M.bind fl fun lo => M.bind fh fun hi s => match rd s l with
  | some x => match cutP x lo hi with
    | some z => .ok z s
    | none => .no
  | none => .no
theorem ScrAt.sq {a : Addr} {ns : List Int} (h : ScrAt K fr H a ns) : SqL K H a (ns.map V.int) := h.elim (fun q => .inl q.2) .inr
theorem cut_map {α β : Type} (f : α → β) (xs : List α) (lo hi : Option Int) : cut (xs.map f) lo hi = (cut xs lo hi).map f := by
  unfold cut
  rw [List.length_map, ← List.map_drop, ← List.map_take]
theorem ints_rels : ∀ ns : List Int, Rels D fr H (ns.map PV.int) (ns.map V.int)
  | [] => .nil
  | n :: ns => .cons (.int n) (ints_rels ns)
theorem strOf_cut (s : S) (lo hi : Option Int) : cutS (strOf s) lo hi = strOf (cut s lo hi) := by
  unfold cutS cut
  rw [strOf_len]
  rfl
theorem se_cut {o : Expr} {lo hi : Option Expr} {fo : M Loc} {fl fh : M (Option Int)} {p2 : Pos} (hK : D.K = X.K) (ho : PE X o (tO D lvl W fo)) (hl : PO X lo (tPo D lvl W fl)) (hh : PO X hi (tPo D lvl W fh)) :
    PE X (.Subscript o (.Slice lo hi none p2) pos) (tE D lvl W (fCut fo fl fh)) := by
  refine PE.imp (pe_slice (SlR.or sl_list (SlR.or sl_tup sl_str)) ho hl hh) ?_
  rintro σ H Q ⟨fr, fs, I, h⟩
  refine nextO I h fun l s fr1 H1 x' I1 e1 r1 h1 => nextP I1 h1 fun lo s2 fr2 H2 I2 e2 h2 => nextP I2 h2 fun hi s3 fr3 H3 I3 e3 h3 => ?_
  split at h3
  · rename_i x hx
    have n := rd_now I3 ((r1.ev e2).ev e3) hx
    split at h3
    · rename_i z hz
      have k : KV' D lvl fr3 H3 σ Q z s3 := KV'.base h3 ((e1.trans e2).trans e3)
      unfold cutP at hz
      split at hz
      · cases hz
        obtain ⟨rfl, ok⟩ := n.str
        refine .inr (.inr ⟨_, rfl, by rw [strOf_len]; exact okS_len ok, ?_⟩)
        rw [strOf_cut]
        exact k fr3 H3 _ I3 .refl (.str (okS_mk (Nat.le_trans (cut_len _ _ _) (okS_len ok)) fun c hc => okS_lt ok c (cut_mem hc)))
      · cases hz
        obtain ⟨a, vs, rfl, q1, q2, q3⟩ := n.lst
        exact .inl ⟨a, vs, rfl, .inl (.inl q1), k.newSh I3 (.lst (Nat.le_trans (cut_len _ _ _) q2) (q3.cut _ _))⟩
      · split at hz
        · cases hz
        · rename_i hw
          cases hz
          obtain ⟨a, vs, rfl, q1, q2, q3⟩ := n.tup
          exact .inr (.inl ⟨a, vs, rfl, .inl (.inl q1), by rw [q3.length]; exact hw, k.newSh I3 (.tup (Nat.le_trans (cut_len _ _ _) q2) (q3.cut _ _))⟩)
      · split at hz
        · rename_i ns hlen
          cases hz
          rcases n with r | ⟨a, o, _, _, kk⟩
          · cases r with
            | con _ _ kk => cases kk
            | scr h =>
              have sq := h.sq
              rw [hK] at sq
              refine .inl ⟨_, _, rfl, sq, ?_⟩
              have e : cutV (ns.map V.int) lo hi = (cut ns lo hi).map V.int := cut_map V.int ns lo hi
              rw [e]
              exact k.newSh I3 (.lst (by rw [List.length_map]; exact hlen) (ints_rels _))
          · cases kk
        · cases hz
      · cases hz
    · exact h3.elim
  · exact h3.elim
end
end Mi
end S_Mi9
section S_Mi10
set_option Elab.async false
set_option linter.all false
set_option maxRecDepth 100000
set_option maxHeartbeats 4000000
namespace Mi
open PySem PySem.Spec PyProof.Rows L2
def tag : PV → Nat
  | .str _ => 0
  | .lst _ => 1
  | .obj _ => 1
  | .dic _ => 2
  | _ => 9
section
variable {X : Cx} {D : Stat} {lvl : Nat} {W : WX} {ws : List Nat} {fr fr1 fr' : Fr} {H H1 H' : Hp} {fs s : Fs} {σ σ' : L2.St} {pos cpos apos : Pos} {K : PySem.W.Frag} {β : Type} {st : Stmt}
/-! ### methods that change nothing -/
def meth1 (op : PV → List PV → Option PV) (l : Loc) (ls : List Loc) : M PV := fun s => match rd s l, rds s ls with
  | some x, some xs => match op x xs with
    | some z => .ok z s
    | none => .no
  | _, _ => .no
def MtS' (X : Cx) (D : Stat) (id : String) (op : PV → List PV → Option PV) : Prop := ∃ r, MtR X id r ∧ ∀ (lvl : Nat) (fr : Fr) (fs : Fs) (σ : L2.St) (H : Hp) (x : PV) (v : V) (xs : List PV) (vs : List V) (z : PV) (Q : VK),
  FI D lvl fr fs σ H → Now D fr H x v → Nows D fr H xs vs → op x xs = some z → KV' D lvl fr H σ Q z fs → r v vs H Q
def TyTag (t : Nat) (T : String) : Prop := (t = 0 ∧ T = "str") ∨ (t = 1 ∧ T = "list") ∨ (t = 2 ∧ T = "dict")
theorem box_at (g : GI D fr fs.hp H) {j : Nat} {xs : List PV} {v : V} (h : Now D fr H (.obj j) v) (hj : fs.hp[j]? = some (.box xs)) : ∃ a vs, v = .ref a ∧ fr.io[j]? = some (a, a) ∧ fr.ow a = some (.ob j) ∧ H a = some (.lst vs) ∧ xs.length ≤ sizeLine ∧ Rels D fr H xs vs := by
  obtain ⟨a, vs, q1, q2, q3, q4, q5⟩ := g.ob j _ hj
  rcases h with r | ⟨b, o, rfl, _, k⟩
  · cases r with
    | con _ _ k => cases k
    | obj h => rw [q1] at h; cases h; exact ⟨a, vs, rfl, q1, q2, q3, q4, q5⟩
  · cases k
/-- a text, a list, a dict, by its tag (an object is none) -/
theorem tag_ty {x : PV} {v : V} {t : Nat} {T : String} (h : Now D fr H x v) (e : tag x = t) (ty : TyTag t T) (no : ∀ j, x ≠ .obj j) : tyV K T v H := by
  cases x with
  | str z =>
    obtain ⟨rfl, _⟩ := h.str
    rcases ty with ⟨rfl, rfl⟩ | ⟨rfl, rfl⟩ | ⟨rfl, rfl⟩ <;> first | rfl | cases e
  | lst xs =>
    obtain ⟨a, vs, rfl, h1, _⟩ := h.lst
    rcases ty with ⟨rfl, rfl⟩ | ⟨rfl, rfl⟩ | ⟨rfl, rfl⟩ <;> first | exact .inl ⟨rfl, vs, .inl (.inl h1)⟩ | cases e
  | dic xs =>
    obtain ⟨a, vs, rfl, h1, _⟩ := h.dic
    rcases ty with ⟨rfl, rfl⟩ | ⟨rfl, rfl⟩ | ⟨rfl, rfl⟩ <;> first | exact .inr (.inr (.inl ⟨rfl, .inl ⟨vs, h1⟩⟩)) | cases e
  | obj j => exact absurd rfl (no j)
  | _ => rcases ty with ⟨rfl, rfl⟩ | ⟨rfl, rfl⟩ | ⟨rfl, rfl⟩ <;> cases e
def noObj (x : PV) : Bool := match x with
  | .obj _ => false
  | _ => true
def afterTag' (t : Nat) (fo : M Loc) (g : Loc → M PV) : M PV := M.bind fo fun l s1 => match rd s1 l with
  | some x1 => if tag x1 = t ∧ noObj x1 = true then g l s1 else .no
  | none => .no
theorem meth1_run {op : PV → List PV → Option PV} {id : String} {r : V → List V → Hp → VK → Prop} (hs : ∀ (lvl : Nat) (fr : Fr) (fs : Fs) (σ : L2.St) (H : Hp) (x : PV) (v : V) (xs : List PV) (vs : List V) (z : PV) (Q : VK),
    FI D lvl fr fs σ H → Now D fr H x v → Nows D fr H xs vs → op x xs = some z → KV' D lvl fr H σ Q z fs → r v vs H Q)
    {l : Loc} {ls : List Loc} {v : V} {vs : List V} {Q : VK} {fr0 : Fr} {H0 : Hp} (I : FI D lvl fr fs σ H) (e : Ev lvl fr0 H0 fr H) (r1 : LocR D fr H σ l v) (r2 : LocsR D fr H σ ls vs) (h : Res D lvl W fr H σ (meth1 op l ls fs) (KV' D lvl fr0 H0 σ Q)) : r v vs H Q := by
  unfold meth1 at h
  split at h
  · rename_i x xs hx hxs
    split at h
    · rename_i z hz
      exact hs lvl fr fs σ H x v xs vs z Q I (rd_now I r1 hx) (rds_now I r2 hxs) hz (KV'.base h e)
    · exact h.elim
  · exact h.elim
variable {o e : Expr} {es : List Expr} {name : Str} {T id : String} {fo : M Loc} {g : M (List Loc)} {op : PV → List PV → Option PV} {t : Nat}
def fMeth' (t : Nat) (fo : M Loc) (g : M (List Loc)) (op : PV → List PV → Option PV) : M PV := afterTag' t fo fun l => M.bind g fun ls => meth1 op l ls
theorem afterTag_run {gg : Loc → M PV} {Q : VK} {R : V → Hp → Prop} (ty : TyTag t T) (h : tE D lvl W (afterTag' t fo gg) σ H Q)
    (nx : ∀ l v s fr1 H1 fr0 H0, FI D lvl fr1 s σ H1 → Ev lvl fr0 H0 fr1 H1 → LocR D fr1 H1 σ l v → Res D lvl W fr1 H1 σ (gg l s) (KV' D lvl fr0 H0 σ Q) → R v H1) : tO D lvl W fo σ H fun v H1 => tyV K T v H1 ∧ R v H1 := by
  obtain ⟨fr, fs, I, h⟩ := h
  refine nextO I h fun l s fr1 H1 v I1 e1 r1 h1 => ?_
  split at h1
  · rename_i x1 hx
    split at h1
    · rename_i ht
      refine ⟨tag_ty (rd_now I1 r1 hx) ht.1 ty (fun j z => ?_), nx l v s fr1 H1 fr H I1 e1 r1 h1⟩
      subst z
      exact absurd ht.2 (by simp [noObj])
    · exact h1.elim
  · exact h1.elim
theorem meth_run {r : V → List V → Hp → VK → Prop} {Q : VK} (ty : TyTag t T) (hs : ∀ (lvl : Nat) (fr : Fr) (fs : Fs) (σ : L2.St) (H : Hp) (x : PV) (v : V) (xs : List PV) (vs : List V) (z : PV) (Q : VK),
    FI D lvl fr fs σ H → Now D fr H x v → Nows D fr H xs vs → op x xs = some z → KV' D lvl fr H σ Q z fs → r v vs H Q) (h : tE D lvl W (fMeth' t fo g op) σ H Q) :
    tBM K T r (tO D lvl W fo) (tOs D lvl W g) σ H Q :=
  afterTag_run ty h fun l v s fr1 H1 fr0 H0 I1 e1 r1 h1 => nextOs I1 h1 fun ls s2 fr2 H2 vs I2 e2 r2 h2 => meth1_run (id := "") hs I2 (e1.trans e2) (r1.ev e2) r2 h2
theorem se_meth (ty : TyTag t T) (hm : MtS' X D id op) (pa : PlainAttrs T) (slot : PySem.Slot T name id) (hty : typeOf (.builtin id) = pure (.type "method_descriptor")) (ho : PE X o (tO D lvl W fo)) (ha : PA X (e :: es) (tOs D lvl W g))
    (hbase : attributeBase o name X.env (eval o X.env) = eval o X.env := by rfl)
    (hfew : ((backTo cpos (starEach (e :: es) X.env)).all (fun x => !x.1) && (backToKw cpos (keywordEach [] X.env)).all (fun x => x.1.isSome)
      && decide ((e :: es).length + ([] : List Keyword).length + (if ([] : List Keyword).isEmpty then 0 else 1) < 30)) = true := by rfl)
    (hline : (apos.endLine == cpos.line) = true := by rfl) (hs : starEach (e :: es) X.env = (false, eval e X.env) :: starEach es X.env := by rfl) (hplain : (backTo cpos (starEach es X.env)).any (·.1) = false := by rfl) :
    PE X (.Call (.Attribute o name apos) (e :: es) [] cpos) (tE D lvl W (fMeth' t fo g op)) := by
  obtain ⟨r, hr, hs'⟩ := hm
  exact PE.imp (pe_bm pa slot hty hr ho ha hbase hfew hline hs hplain) fun σ H Q h => meth_run ty hs' h
theorem se_meth0 (ty : TyTag t T) (hm : MtS' X D id op) (pa : PlainAttrs T) (slot : PySem.Slot T name id) (hty : typeOf (.builtin id) = pure (.type "method_descriptor")) (ho : PE X o (tO D lvl W fo))
    (hbase : attributeBase o name X.env (eval o X.env) = eval o X.env := by rfl) (hline : (apos.endLine == cpos.line) = true := by rfl) :
    PE X (.Call (.Attribute o name apos) [] [] cpos) (tE D lvl W (fMeth' t fo fONil op)) := by
  obtain ⟨r, hr, hs'⟩ := hm
  refine PE.imp (pe_bm0 pa slot hty hr ho hbase hline) fun σ H Q h => ?_
  exact afterTag_run ty h fun l v s fr1 H1 fr0 H0 I1 e1 r1 h1 => meth1_run (id := "") hs' I1 e1 r1 (ls := []) trivial h1
/-- the receiver may be a text or a list -/
def fMeth2 (fo : M Loc) (g : M (List Loc)) (op op' : PV → List PV → Option PV) : M PV := M.bind fo fun l s1 => match rd s1 l with
  | some (.str _) => (M.bind g fun ls => meth1 op l ls) s1
  | some (.lst _) => (M.bind g fun ls => meth1 op' l ls) s1
  | _ => .no
theorem PE.or {e : Expr} {t t' : TE} (h : PE X e t) (h' : PE X e t') : PE X e (fun σ H Q => t σ H Q ∨ t' σ H Q) := ⟨fun pins s σ H Q I q => q.elim (h.run pins s σ H Q I) (h'.run pins s σ H Q I)⟩
theorem se_meth2 {id' : String} {op' : PV → List PV → Option PV} (h1 : ∀ {f : M PV}, f = fMeth' 0 fo g op → PE X st' (tE D lvl W f)) (h2 : ∀ {f : M PV}, f = fMeth' 1 fo g op' → PE X st' (tE D lvl W f)) : PE X st' (tE D lvl W (fMeth2 fo g op op')) := by
  refine PE.imp (PE.or (h1 rfl) (h2 rfl)) ?_
  rintro σ H Q ⟨fr, fs, I, h⟩
  unfold fMeth2 M.bind at h
  cases e : fo fs with
  | no => rw [e] at h; exact h.elim
  | ex y s =>
    rw [e] at h
    refine .inl ⟨fr, fs, I, ?_⟩
    unfold fMeth' afterTag' M.bind
    rw [e]
    exact h
  | ok l s =>
    rw [e] at h
    dsimp only at h
    split at h
    · rename_i z hz
      refine .inl ⟨fr, fs, I, ?_⟩
      unfold fMeth' afterTag' M.bind
      rw [e]
      dsimp only
      rw [hz]
      exact h
    · rename_i z hz
      refine .inr ⟨fr, fs, I, ?_⟩
      unfold fMeth' afterTag' M.bind
      rw [e]
      dsimp only
      rw [hz]
      exact h
    · exact h.elim

/-! ### methods and stores that change a list of one's own, or a box -/
theorem FI.mutBox (I : FI D lvl fr fs σ H) {j : Nat} {xs xs' : List PV} {a : Addr} {vs' : List V} (h : fs.hp[j]? = some (.box xs)) (hio : fr.io[j]? = some (a, a)) (ha : fr.ow a = some (.ob j)) (hl : xs'.length ≤ sizeLine) (r : Rels D fr H xs' vs') :
    FI D lvl fr { fs with hp := fs.hp.set j (.box xs') } σ (upd H a (.lst vs')) ∧ Ev lvl fr H fr (upd H a (.lst vs')) := by
  have e : Ev lvl fr H fr (upd H a (.lst vs')) := ev_upd (nkp_ob ha)
  have ne : ∀ b o', fr.ow b = some o' → o' ≠ .ob j → b ≠ a := fun b o' q n z => by rw [z, ha] at q; cases q; exact n rfl
  refine ⟨⟨⟨fun b w q => ?_, fun i x q => ?_, by rw [List.length_set]; exact I.gi.len⟩, fun i y q => (I.sl i y q).keep e.n fun b q => ⟨rfl, upd_ne (ne b _ q (by intro z; cases z))⟩, I.ln⟩, e⟩
  · by_cases z : b = a
    · exact ⟨_, by rw [z, upd_same]⟩
    · obtain ⟨u, hu⟩ := I.gi.tr b w q
      exact ⟨u, by rw [upd_ne z]; exact hu⟩
  · have q : (fs.hp.set j (.box xs'))[i]? = some x := q
    rw [List.getElem?_set] at q
    by_cases hj : j = i
    · subst hj
      rw [if_pos rfl] at q
      split at q
      · cases q
        exact ⟨a, vs', hio, ha, upd_same, hl, Rels.ev e r⟩
      · cases q
    · rw [if_neg hj] at q
      have ho := I.gi.ob i x q
      cases x with
      | ins c gs =>
        obtain ⟨b, dx, hs, h1, h2, h3, h4, h5, h6, h7⟩ := ho
        exact ⟨b, dx, hs, h1, h2, h3, by rw [upd_ne (ne b _ h2 (by intro z; cases z; exact hj rfl))]; exact h4, by rw [upd_ne (ne dx _ h3 (by intro z; cases z))]; exact h5, h6,
          Paired.mapP h7 fun p q z => ⟨z.1, by
            have z2 := z.2
            cases hp : p.2 with
            | un => rw [hp] at z2; exact z2
            | sh x => rw [hp] at z2; exact Rel.ev e z2
            | ow c =>
              rw [hp] at z2
              obtain ⟨b', o', e', q1, q2, q3⟩ := z2
              exact ⟨b', o', e', q1, by rw [upd_ne (ne b' _ q1 (by intro z; cases z))]; exact q2, Cont.ev e q3⟩⟩⟩
      | box ys =>
        obtain ⟨b, us, h1, h2, h3, h4, h5⟩ := ho
        exact ⟨b, us, h1, h2, by rw [upd_ne (ne b _ h2 (by intro z; cases z; exact hj rfl))]; exact h3, h4, Rels.ev e h5⟩
/-- a list of one's own, or a box, gets new items -/
def putL (l : Loc) (s : Fs) : Option (List PV × (List PV → Fs)) := match l with
  | .at i => match s.sl[i]? with
    | some (.ow (.lst xs)) => some (xs, fun ys => { s with sl := s.sl.set i (.ow (.lst ys)) })
    | some (.sh (.obj j)) => match s.hp[j]? with
      | some (.box xs) => some (xs, fun ys => { s with hp := s.hp.set j (.box ys) })
      | _ => none
    | _ => none
  | .val (.obj j) => match s.hp[j]? with
    | some (.box xs) => some (xs, fun ys => { s with hp := s.hp.set j (.box ys) })
    | _ => none
  | _ => none
theorem putL_ok (I : FI D lvl fr fs σ H) {l : Loc} {v : V} (r : LocR D fr H σ l v) {xs : List PV} {k : List PV → Fs} (h : putL l fs = some (xs, k)) :
    ∃ a vs, v = .ref a ∧ H a = some (.lst vs) ∧ xs.length ≤ sizeLine ∧ Rels D fr H xs vs ∧ ∀ ys us, ys.length ≤ sizeLine → Rels D fr H ys us → FI D lvl fr (k ys) σ (upd H a (.lst us)) ∧ Ev lvl fr H fr (upd H a (.lst us)) := by
  have box : ∀ (j : Nat) xs, Rel D fr H (.obj j) v → fs.hp[j]? = some (.box xs) → ∃ a vs, v = .ref a ∧ H a = some (.lst vs) ∧ xs.length ≤ sizeLine ∧ Rels D fr H xs vs ∧
      ∀ ys us, ys.length ≤ sizeLine → Rels D fr H ys us → FI D lvl fr { fs with hp := fs.hp.set j (.box ys) } σ (upd H a (.lst us)) ∧ Ev lvl fr H fr (upd H a (.lst us)) := fun j xs r hj => by
    obtain ⟨a, vs, e, q1, q2, q3, q4, q5⟩ := box_at I.gi (.inl r) hj
    exact ⟨a, vs, e, q3, q4, q5, fun ys us hl rr => I.mutBox hj q1 q2 hl rr⟩
  cases l with
  | «at» i =>
    have r : σ[i]? = some (some v) := r
    unfold putL at h
    dsimp only at h
    split at h
    · rename_i ys q
      cases h
      obtain ⟨a, o, e, h1, h2, h3⟩ := I.own q
      rw [r] at e
      cases e
      cases h3 with
      | lst hl hr => exact ⟨a, _, rfl, h2, hl, hr, fun ys us hl' rr => ⟨I.mut q r h1 (.lst hl' rr), ev_upd (nkp_slot h1)⟩⟩
    · rename_i j q
      split at h
      · rename_i ys hj
        cases h
        obtain ⟨v', e, rr⟩ := I.sh q
        rw [r] at e
        cases e
        exact box j _ rr hj
      · cases h
    · cases h
  | val x =>
    cases x with
    | obj j =>
      unfold putL at h
      dsimp only at h
      split at h
      · rename_i ys hj
        cases h
        exact box j _ r hj
      · cases h
    | _ => cases h
def MuS (X : Cx) (D : Stat) (id : String) (mu : List PV → List PV → Option (PV × List PV)) : Prop := ∃ r, MtM X id r ∧ ∀ (fr : Fr) (H : Hp) (a : Addr) (xs : List PV) (vs : List V) (as : List PV) (us : List V) (z : PV) (ys : List PV) (Q : VK),
  H a = some (.lst vs) → Rels D fr H xs vs → Rels D fr H as us → mu xs as = some (z, ys) → ys.length ≤ sizeLine → (∀ ws z', Rels D fr H ys ws → Rel D fr H z z' → Q z' (upd H a (.lst ws))) → r (.ref a) us H Q
def fMut (fo : M Loc) (g : M (List PV)) (mu : List PV → List PV → Option (PV × List PV)) : M PV := M.bind fo fun l s0 => match putL l s0 with
  | none => .no
  | some _ => (M.bind g fun ls s => match putL l s with
    | none => .no
    | some (xs, k) => match mu xs ls with
      | some (z, ys) => if lenOk ys = true then .ok z (k ys) else .no
      | none => .no) s0
variable {g2 : M (List PV)}
theorem mut_run {mu : List PV → List PV → Option (PV × List PV)} {r : V → List V → Hp → VK → Prop} {Q : VK}
    (hs : ∀ (fr : Fr) (H : Hp) (a : Addr) (xs : List PV) (vs : List V) (as : List PV) (us : List V) (z : PV) (ys : List PV) (Q : VK),
      H a = some (.lst vs) → Rels D fr H xs vs → Rels D fr H as us → mu xs as = some (z, ys) → ys.length ≤ sizeLine → (∀ ws z', Rels D fr H ys ws → Rel D fr H z z' → Q z' (upd H a (.lst ws))) → r (.ref a) us H Q)
    (h : tE D lvl W (fMut fo g2 mu) σ H Q) : tBM K "list" r (tO D lvl W fo) (tAs D lvl W g2) σ H Q := by
  obtain ⟨fr, fs, I, h⟩ := h
  refine nextO I h fun l s fr1 H1 v I1 e1 r1 h1 => ?_
  split at h1
  · exact h1.elim
  · rename_i q hq
    obtain ⟨xs0, k0⟩ := q
    obtain ⟨a, vs, rfl, g1, g2, g3, g4⟩ := putL_ok I1 r1 hq
    refine ⟨.inl ⟨rfl, vs, .inl (.inl g1)⟩, nextA I1 h1 fun ls s2 fr2 H2 us I2 e2 r2 h2 => ?_⟩
    split at h2
    · exact h2.elim
    · rename_i xs k hq2
      obtain ⟨a2, vs2, ea, q1, q2, q3, q4⟩ := putL_ok I2 (r1.ev e2) hq2
      cases ea
      split at h2
      · rename_i z ys hz
        split at h2
        · rename_i hl
          have hl' : ys.length ≤ sizeLine := of_decide_eq_true hl
          refine hs fr2 H2 a xs vs2 ls us z ys Q q1 q3 r2 hz hl' fun ws z' rw rz => ?_
          obtain ⟨I3, e3⟩ := q4 ys ws hl' rw
          exact h2 fr2 _ z' I3 ((e1.trans e2).trans e3) (Rel.ev e3 rz)
        · exact h2.elim
      · exact h2.elim
theorem se_mut {mu : List PV → List PV → Option (PV × List PV)} (hm : MuS X D id mu) (slot : PySem.Slot "list" name id) (hty : typeOf (.builtin id) = pure (.type "method_descriptor")) (ho : PE X o (tO D lvl W fo)) (ha : PA X (e :: es) (tAs D lvl W g2))
    (hbase : attributeBase o name X.env (eval o X.env) = eval o X.env := by rfl)
    (hfew : ((backTo cpos (starEach (e :: es) X.env)).all (fun x => !x.1) && (backToKw cpos (keywordEach [] X.env)).all (fun x => x.1.isSome)
      && decide ((e :: es).length + ([] : List Keyword).length + (if ([] : List Keyword).isEmpty then 0 else 1) < 30)) = true := by rfl)
    (hline : (apos.endLine == cpos.line) = true := by rfl) (hs : starEach (e :: es) X.env = (false, eval e X.env) :: starEach es X.env := by rfl) (hplain : (backTo cpos (starEach es X.env)).any (·.1) = false := by rfl) :
    PE X (.Call (.Attribute o name apos) (e :: es) [] cpos) (tE D lvl W (fMut fo g2 mu)) := by
  obtain ⟨r, hr, hs'⟩ := hm
  exact PE.imp (pe_bm PySem.F.plainAttrs_list slot hty hr ho ha hbase hfew hline hs hplain) fun σ H Q h => mut_run hs' h
theorem se_mut0 {mu : List PV → List PV → Option (PV × List PV)} (hm : MuS X D id mu) (slot : PySem.Slot "list" name id) (hty : typeOf (.builtin id) = pure (.type "method_descriptor")) (ho : PE X o (tO D lvl W fo))
    (hbase : attributeBase o name X.env (eval o X.env) = eval o X.env := by rfl) (hline : (apos.endLine == cpos.line) = true := by rfl) :
    PE X (.Call (.Attribute o name apos) [] [] cpos) (tE D lvl W (fMut fo fNil mu)) := by
  obtain ⟨r, hr, hs'⟩ := hm
  refine PE.imp (pe_bm0 PySem.F.plainAttrs_list slot hty hr ho hbase hline) fun σ H Q h => ?_
  obtain ⟨h1, h2⟩ := (mut_run hs' h : tBM X.K "list" r (tO D lvl W fo) (tAs D lvl W fNil) σ H Q).imp fun _ x => x
  exact ⟨h1, h2.imp fun fs h3 => ⟨h3.1, h3.2.mono fun l s k fr' H' v' I e r => by
    obtain ⟨ty, fr2, fs2, I2, h5⟩ := k fr' H' v' I e r
    exact ⟨ty, h5 fr2 H' [] I2 .refl .nil⟩⟩⟩
end
end Mi
end S_Mi10
section S_Mi11
set_option Elab.async false
set_option linter.all false
set_option maxRecDepth 100000
set_option maxHeartbeats 4000000
namespace Mi
open PySem PySem.Spec PyProof.Rows L2
section
variable {X : Cx} {D : Stat} {lvl : Nat} {W : WX} {ws : List Nat} {fr fr1 fr' : Fr} {H H1 H' : Hp} {fs s : Fs} {σ σ' : L2.St} {pos cpos apos : Pos} {K : PySem.W.Frag} {β : Type} {st : Stmt} {Dn : Ends}
/-! ### texts -/
def strL : List PV → Option (List S)
  | [] => some []
  | .str s :: r => (strL r).map (s :: ·)
  | _ => none
def joinS (a : S) : List S → S
  | [] => []
  | [p] => p
  | p :: q :: r => p ++ (a ++ joinS a (q :: r))
theorem strL_rel : ∀ {xs : List PV} {vs : List V} {ss : List S}, Rels D fr H xs vs → strL xs = some ss → vs = (ss.map strOf).map V.str ∧ ∀ s ∈ ss, okS s = true
  | [], _, ss, .nil, h => by cases h; exact ⟨rfl, fun _ z => by cases z⟩
  | x :: xs, _, ss, .cons r t, h => by
    cases x with
    | str b =>
      unfold strL at h
      cases e : strL xs with
      | none => rw [e] at h; cases h
      | some l =>
        rw [e] at h
        cases h
        obtain ⟨q1, q2⟩ := strL_rel t e
        cases r with
        | str ok =>
          refine ⟨by rw [q1]; rfl, fun s hs => ?_⟩
          rcases List.mem_cons.mp hs with rfl | hs
          · exact ok
          · exact q2 s hs
        | con _ _ k => cases k
    | _ => cases h
theorem strOf_join (a : S) : ∀ ss : List S, Txt.join (strOf a) (ss.map strOf) = strOf (joinS a ss) := fun ss => by
  have e : ∀ ss : List S, PySem.Str.join (strOf a) (ss.map strOf) = strOf (joinS a ss) := by
    intro ss
    induction ss with
    | nil => rfl
    | cons x r ih =>
      cases r with
      | nil => rfl
      | cons y r =>
        show strOf x ++ strOf a ++ PySem.Str.join (strOf a) ((y :: r).map strOf) = strOf (x ++ (a ++ joinS a (y :: r)))
        rw [ih, strOf_append, strOf_append, List.append_assoc]
  rw [← e ss]
  exact TL.join_eq (strOf a) (ss.map strOf)
theorem joinS_len (a : S) : ∀ ss : List S, (joinS a ss).length ≤ (ss.map List.length).sum + ss.length * a.length
  | [] => by simp [joinS]
  | [p] => by simp [joinS]
  | p :: q :: r => by
    have ih := joinS_len a (q :: r)
    show (p ++ (a ++ joinS a (q :: r))).length ≤ _
    rw [List.length_append, List.length_append, List.map_cons, List.sum_cons]
    rw [List.length_cons, Nat.succ_mul]
    omega
theorem joinS_mem (a : S) {c : Nat} : ∀ {ss : List S}, c ∈ joinS a ss → c ∈ a ∨ ∃ s ∈ ss, c ∈ s
  | [], h => by cases h
  | [p], h => .inr ⟨p, List.mem_cons_self, h⟩
  | p :: q :: r, h => by
    rcases List.mem_append.mp h with h | h
    · exact .inr ⟨p, List.mem_cons_self, h⟩
    · rcases List.mem_append.mp h with h | h
      · exact .inl h
      · rcases joinS_mem a h with h | ⟨s, hs, h⟩
        · exact .inl h
        · exact .inr ⟨s, List.mem_cons_of_mem _ hs, h⟩
def joinP (x : PV) (xs : List PV) : Option PV := match x, xs with
  | .str a, [.lst ys] => match strL ys with
    | some ss => if (ss.map List.length).sum + ss.length * a.length ≤ 16777216 then some (.str (joinS a ss)) else none
    | none => none
  | .str a, [.tup ys] => match strL ys with
    | some ss => if (ss.map List.length).sum + ss.length * a.length ≤ 16777216 then some (.str (joinS a ss)) else none
    | none => none
  | _, _ => none
theorem ms_join : MtS' X D "str.join" joinP := by
  refine ⟨_, mt_join, fun lvl fr fs σ H x v xs vs z Q I n r hz k => ?_⟩
  unfold joinP at hz
  split at hz
  · rename_i a ys
    split at hz
    · rename_i ss hss
      split at hz
      · rename_i hl
        cases hz
        obtain ⟨rfl, ok⟩ := n.str
        obtain ⟨w, rfl, n2⟩ := r.one
        obtain ⟨p, us, rfl, h1, h2, h3⟩ := n2.lst
        obtain ⟨rfl, ok2⟩ := strL_rel h3 hss
        refine ⟨strOf a, p, ss.map strOf, rfl, rfl, .inl (.inl (.inl h1)), ?_, ?_⟩
        · rw [List.map_map, List.length_map, strOf_len, show ((fun x => x.length) ∘ strOf) = List.length from funext fun s => strOf_len s]
          exact hl
        · rw [strOf_join]
          refine k fr H _ I .refl (.str (okS_mk (Nat.le_trans (joinS_len a ss) hl) fun c hc => ?_))
          rcases joinS_mem a hc with h | ⟨s, hs, h⟩
          · exact okS_lt ok c h
          · exact okS_lt (ok2 s hs) c h
      · cases hz
    · cases hz
  · rename_i a ys
    split at hz
    · rename_i ss hss
      split at hz
      · rename_i hl
        cases hz
        obtain ⟨rfl, ok⟩ := n.str
        obtain ⟨w, rfl, n2⟩ := r.one
        obtain ⟨p, us, rfl, h1, h2, h3⟩ := n2.tup
        obtain ⟨rfl, ok2⟩ := strL_rel h3 hss
        refine ⟨strOf a, p, ss.map strOf, rfl, rfl, .inr (.inl (.inl h1)), ?_, ?_⟩
        · rw [List.map_map, List.length_map, strOf_len, show ((fun x => x.length) ∘ strOf) = List.length from funext fun s => strOf_len s]
          exact hl
        · rw [strOf_join]
          refine k fr H _ I .refl (.str (okS_mk (Nat.le_trans (joinS_len a ss) hl) fun c hc => ?_))
          rcases joinS_mem a hc with h | ⟨s, hs, h⟩
          · exact okS_lt ok c h
          · exact okS_lt (ok2 s hs) c h
      · cases hz
    · cases hz
  · cases hz
theorem strOf_map (f : Nat → Nat) (a : S) : (⟨(strOf a).cps.map f⟩ : Str) = strOf (a.map f) := by
  unfold strOf
  simp
def caseP (f : Nat → Nat) (x : PV) (xs : List PV) : Option PV := match x, xs with
  | .str a, [] => if a.length ≤ 5592405 then some (.str (a.map f)) else none
  | _, _ => none
theorem lo1_lt {c : Nat} (h : c < 128) : lo1 c < 128 := by unfold lo1; split <;> omega
theorem up1_lt {c : Nat} (h : c < 128) : up1 c < 128 := by unfold up1; split <;> omega
theorem ms_lower : MtS' X D "str.lower" (caseP lo1) := by
  refine ⟨_, mt_lower, fun lvl fr fs σ H x v xs vs z Q I n r hz k => ?_⟩
  unfold caseP at hz
  split at hz
  · split at hz
    · rename_i a hl
      cases hz
      obtain ⟨rfl, ok⟩ := n.str
      refine ⟨strOf a, rfl, r.nil, by rw [strOf_len]; exact hl, ?_⟩
      rw [lower_ascii (x := strOf a) (okS_lt ok), strOf_map]
      refine k fr H _ I .refl (.str (okS_mk (by rw [List.length_map]; exact okS_len ok) fun c hc => ?_))
      obtain ⟨d, hd, rfl⟩ := List.mem_map.mp hc
      exact lo1_lt (okS_lt ok d hd)
    · cases hz
  · cases hz
theorem ms_upper : MtS' X D "str.upper" (caseP up1) := by
  refine ⟨_, mt_upper, fun lvl fr fs σ H x v xs vs z Q I n r hz k => ?_⟩
  unfold caseP at hz
  split at hz
  · split at hz
    · rename_i a hl
      cases hz
      obtain ⟨rfl, ok⟩ := n.str
      refine ⟨strOf a, rfl, r.nil, by rw [strOf_len]; exact hl, ?_⟩
      rw [upper_ascii (x := strOf a) (okS_lt ok), strOf_map]
      refine k fr H _ I .refl (.str (okS_mk (by rw [List.length_map]; exact okS_len ok) fun c hc => ?_))
      obtain ⟨d, hd, rfl⟩ := List.mem_map.mp hc
      exact up1_lt (okS_lt ok d hd)
    · cases hz
  · cases hz
/-- b stands in a at i -/
def atS (a b : S) (i : Nat) : Bool := decide ((a.drop i).take b.length = b)
theorem subAt_atS (a b : S) (i : Nat) : Builtin.Str.subAt (strOf a) (strOf b) i = atS a b i := by
  unfold Builtin.Str.subAt atS
  rw [strOf_len]
  by_cases h : (a.drop i).take b.length = b
  · rw [decide_eq_true h]
    rw [beq_iff_eq]
    apply Array.toList_inj.mp
    unfold strOf
    simp only [Array.toList_extract, List.extract_eq_take_drop]
    rw [Nat.add_sub_cancel_left]
    exact h
  · rw [decide_eq_false h, beq_eq_false_iff_ne]
    intro e
    apply h
    have e := congrArg Array.toList e
    unfold strOf at e
    simp only [Array.toList_extract, List.extract_eq_take_drop] at e
    rw [Nat.add_sub_cancel_left] at e
    exact e
def swP (x : PV) (xs : List PV) : Option PV := match x, xs with
  | .str a, [.str b] => some (.bl (decide (b.length ≤ a.length) && atS a b 0))
  | _, _ => none
theorem ms_startswith : MtS' X D "str.startswith" swP := by
  refine ⟨_, mt_startswith, fun lvl fr fs σ H x v xs vs z Q I n r hz k => ?_⟩
  unfold swP at hz
  split at hz
  · rename_i a b
    cases hz
    obtain ⟨rfl, ok⟩ := n.str
    obtain ⟨w, rfl, n2⟩ := r.one
    obtain ⟨rfl, ok2⟩ := n2.str
    refine ⟨strOf a, strOf b, rfl, rfl, ?_⟩
    have e : Txt.startswith (strOf a) (strOf b) = (decide (b.length ≤ a.length) && atS a b 0) := by
      unfold Txt.startswith
      rw [subAt_atS, strOf_len, strOf_len, Nat.zero_add]
    rw [e]
    exact k fr H _ I .refl (.bl _)
  · cases hz
def ewP (x : PV) (xs : List PV) : Option PV := match x, xs with
  | .str a, [.str b] => some (.bl (decide (b.length ≤ a.length) && atS a b (a.length - b.length)))
  | _, _ => none
theorem ms_endswith : MtS' X D "str.endswith" ewP := by
  refine ⟨_, mt_endswith, fun lvl fr fs σ H x v xs vs z Q I n r hz k => ?_⟩
  unfold ewP at hz
  split at hz
  · rename_i a b
    cases hz
    obtain ⟨rfl, ok⟩ := n.str
    obtain ⟨w, rfl, n2⟩ := r.one
    obtain ⟨rfl, ok2⟩ := n2.str
    refine ⟨strOf a, strOf b, rfl, rfl, ?_⟩
    have e : Txt.endswith (strOf a) (strOf b) = (decide (b.length ≤ a.length) && atS a b (a.length - b.length)) := by
      unfold Txt.endswith
      rw [subAt_atS, strOf_len, strOf_len, Nat.zero_add]
    rw [e]
    exact k fr H _ I .refl (.bl _)
  · cases hz
/-- the first place -/
def findS (a b : S) (lo hi : Nat) : Option Nat := (List.range' lo (hi + 1 - lo)).find? fun i => decide (i + b.length ≤ hi) && atS a b i
theorem occ_one (x y : Str) (hi : Nat) : ∀ (l : List Nat) (free : Nat), (∀ i ∈ l, free ≤ i) →
    ((forIn l ((#[] : Array Nat), free) (StrLaws.occBody x y hi 1)).run.fst).toList = (l.find? fun i => decide (i + y.length ≤ hi) && Builtin.Str.subAt x y i).toList
  | [], free, _ => rfl
  | a :: l, free, hf => by
    rw [List.forIn_cons]
    unfold StrLaws.occBody
    have ha : free ≤ a := hf a (List.mem_cons_self ..)
    by_cases hc : a + y.length ≤ hi ∧ Builtin.Str.subAt x y a = true
    · have c1 : (((#[] : Array Nat), free).fst.size < 1 ∧ ((#[] : Array Nat), free).snd ≤ a) ∧ a + y.length ≤ hi := ⟨⟨by simp, ha⟩, hc.1⟩
      rw [if_pos ⟨c1, hc.2⟩]
      rw [List.find?_cons, decide_eq_true hc.1, hc.2]
      have full : ∀ (l : List Nat) (fr : Nat), ((forIn l ((#[a] : Array Nat), fr) (StrLaws.occBody x y hi 1)).run.fst) = #[a] := by
        intro l
        induction l with
        | nil => intro fr; rfl
        | cons b l ih =>
          intro fr
          rw [List.forIn_cons]
          unfold StrLaws.occBody
          rw [if_neg (by simp)]
          exact ih fr
      show ((forIn l ((#[] : Array Nat).push a, a + y.length) (StrLaws.occBody x y hi 1)).run.fst).toList = [a]
      rw [show (#[] : Array Nat).push a = #[a] from rfl, full]
    · have c2 : ¬ (((((#[] : Array Nat), free).fst.size < 1 ∧ ((#[] : Array Nat), free).snd ≤ a) ∧ a + y.length ≤ hi) ∧ Builtin.Str.subAt x y a = true) := fun h => hc ⟨h.1.2, h.2⟩
      rw [if_neg c2]
      have ih := occ_one x y hi l free (fun i hi' => hf i (List.mem_cons_of_mem _ hi'))
      rw [List.find?_cons]
      have e : (decide (a + y.length ≤ hi) && Builtin.Str.subAt x y a) = false := by
        cases h : (decide (a + y.length ≤ hi) && Builtin.Str.subAt x y a) with
        | false => rfl
        | true =>
          rw [Bool.and_eq_true, decide_eq_true_eq] at h
          exact absurd h hc
      rw [e]
      exact ih
theorem occ_find (a b : S) (lo hi : Nat) : Builtin.Str.occurrences (strOf a) (strOf b) lo hi 1 = (findS a b lo hi).toList := by
  rw [StrLaws.occ_eq, occ_one _ _ _ _ _ (fun i h => by rw [List.mem_range'_1] at h; exact h.1)]
  unfold findS
  congr 2
  funext i
  rw [subAt_atS, strOf_len]
def indexSP (x : PV) (xs : List PV) : Option PV := match x, xs with
  | .str a, [.str b] => (findS a b 0 a.length).map fun i => .int i
  | _, _ => none
theorem ms_indexS : MtS' X D "str.index" indexSP := by
  refine ⟨_, mt_sindex, fun lvl fr fs σ H x v xs vs z Q I n r hz k => ?_⟩
  unfold indexSP at hz
  split at hz
  · rename_i a b
    cases e : findS a b 0 a.length with
    | none => rw [e] at hz; cases hz
    | some i =>
      rw [e] at hz
      cases hz
      obtain ⟨rfl, ok⟩ := n.str
      obtain ⟨w, rfl, n2⟩ := r.one
      obtain ⟨rfl, ok2⟩ := n2.str
      refine ⟨strOf a, strOf b, i, [], rfl, rfl, by rw [strOf_len, occ_find, e]; rfl, k fr H _ I .refl (.int _)⟩
  · cases hz
def findP (x : PV) (xs : List PV) : Option PV := match x, xs with
  | .str a, [.str b] => match findS a b 0 a.length with
    | some i => some (.int i)
    | none => some (.int (-1))
  | _, _ => none
theorem ms_find : MtS' X D "str.find" findP := by
  refine ⟨_, mt_find, fun lvl fr fs σ H x v xs vs z Q I n r hz k => ?_⟩
  unfold findP at hz
  split at hz
  · rename_i a b
    obtain ⟨rfl, ok⟩ := n.str
    obtain ⟨w, rfl, n2⟩ := r.one
    obtain ⟨rfl, ok2⟩ := n2.str
    refine ⟨strOf a, strOf b, rfl, rfl, ?_⟩
    have e : Txt.find (strOf a) (strOf b) = match findS a b 0 a.length with
      | some i => (i : Int)
      | none => -1 := by
      unfold Txt.find
      rw [strOf_len, occ_find]
      cases findS a b 0 a.length <;> rfl
    rw [e]
    split at hz
    · cases hz
      exact k fr H _ I .refl (.int _)
    · cases hz
      exact k fr H _ I .refl (.int _)
  · cases hz
/-- list.index -/
def indexLP (x : PV) (xs : List PV) : Option PV := match x, xs with
  | .lst ys, [y] => if data 60 y = true ∧ ys.all (data 60) = true then (ys.findIdx? fun z => eqv z y).map fun (i : Nat) => .int i else none
  | _, _ => none
theorem ms_indexL (hu : X.A.units + 65 < cLine) : MtS' X D "list.index" indexLP := by
  refine ⟨_, mt_indexD hu, fun lvl fr fs σ H x v xs vs z Q I n r hz k => ?_⟩
  unfold indexLP at hz
  split at hz
  · rename_i ys y
    split at hz
    · rename_i hd
      cases e : ys.findIdx? fun z => eqv z y with
      | none => rw [e] at hz; cases hz
      | some i =>
        rw [e] at hz
        cases hz
        obtain ⟨w, rfl, n2⟩ := r.one
        have q1 := n.shaped (n := 61) (data_lst hd.2)
        have q2 := n2.shaped hd.1
        have q3 : Dp X.K H v (.list (pds ys)) := n.dp (n := 61) (data_lst hd.2)
        have q4 : Dp X.K H w (pd y) := n2.dp hd.1
        obtain ⟨a, us, rfl, h1, h2, h3⟩ := n.lst
        rw [List.findIdx?_eq_some_iff_getElem] at e
        obtain ⟨hi, he, hb⟩ := e
        have hy := List.all_eq_true.mp hd.2
        have at_ : ∀ (m : Nat) (h : m < ys.length), (pds ys)[m]? = some (pd ys[m]) := fun m h => by rw [pds_map, List.getElem?_map, List.getElem?_eq_getElem h]; rfl
        refine ⟨a, w, pd y, pds ys, i, pd ys[i], rfl, rfl, q3, q4, q1, q2, at_ i hi, ?_, fun m z' hm hz' => ?_, k fr H _ I .refl (.int _)⟩
        · rw [eqv_pd 60 60 _ _ (hy _ (List.getElem_mem hi)) hd.1]
          exact he
        · have hml : m < ys.length := by omega
          rw [at_ m hml] at hz'
          cases hz'
          rw [eqv_pd 60 60 _ _ (hy _ (List.getElem_mem hml)) hd.1]
          have := hb m hm
          simpa using this
    · cases hz
  · cases hz

/-! ### lists of one's own -/
def appendM (xs as : List PV) : Option (PV × List PV) := match as with
  | [v] => some (.non, xs ++ [v])
  | _ => none
def extendM (xs as : List PV) : Option (PV × List PV) := match as with
  | [.lst ys] => some (.non, xs ++ ys)
  | _ => none
def insertM (xs as : List PV) : Option (PV × List PV) := match as with
  | [.int i, v] => if 0 ≤ i ∧ i < 2 ^ 63 then some (.non, xs.take i.toNat ++ [v] ++ xs.drop i.toNat) else none
  | _ => none
def popM (xs as : List PV) : Option (PV × List PV) := match as with
  | [] => match xs.getLast? with
    | some x => some (x, xs.dropLast)
    | none => none
  | _ => none
def reverseM (xs as : List PV) : Option (PV × List PV) := match as with
  | [] => some (.non, xs.reverse)
  | _ => none
theorem Rels.one {y : PV} {vs : List V} (h : Rels D fr H [y] vs) : ∃ v, vs = [v] ∧ Rel D fr H y v := by
  cases h with
  | cons h t => cases t; exact ⟨_, rfl, h⟩
theorem Rels.two {y z : PV} {vs : List V} (h : Rels D fr H [y, z] vs) : ∃ v w, vs = [v, w] ∧ Rel D fr H y v ∧ Rel D fr H z w := by
  cases h with
  | cons h t => cases t with
    | cons h2 t => cases t; exact ⟨_, _, rfl, h, h2⟩
theorem Rels.nil' {vs : List V} (h : Rels D fr H [] vs) : vs = [] := by cases h; rfl
theorem lt_of_app {xs ys : List PV} (h : (xs ++ [y]).length ≤ sizeLine) : xs.length < sizeLine := by rw [List.length_append] at h; exact h
theorem mu_append : MuS X D "list.append" appendM := by
  refine ⟨_, mt_append, fun fr H a xs vs as us z ys Q h1 r ra hz hl k => ?_⟩
  unfold appendM at hz
  split at hz
  · cases hz
    obtain ⟨v, rfl, rv⟩ := ra.one
    refine ⟨a, vs, v, rfl, rfl, h1, ?_, k _ _ (r.append (.cons rv .nil)) .non⟩
    rw [r.length]
    rw [List.length_append] at hl
    exact hl
  · cases hz
theorem mu_extend : MuS X D "list.extend" extendM := by
  refine ⟨_, mt_extend, fun fr H a xs vs as us z ys Q h1 r ra hz hl k => ?_⟩
  unfold extendM at hz
  split at hz
  · cases hz
    obtain ⟨v, rfl, rv⟩ := ra.one
    obtain ⟨b, ws, rfl, q1, q2, q3⟩ := Now.lst (.inl rv)
    refine ⟨a, b, vs, ws, rfl, rfl, h1, q1, ?_, k _ _ (r.append q3) .non⟩
    rw [r.length, q3.length]
    rw [List.length_append] at hl
    exact hl
  · cases hz
theorem mu_insert : MuS X D "list.insert" insertM := by
  refine ⟨_, mt_insert, fun fr H a xs vs as us z ys Q h1 r ra hz hl k => ?_⟩
  unfold insertM at hz
  split at hz
  · split at hz
    · rename_i i v hi
      cases hz
      obtain ⟨w, w2, rfl, rv, rv2⟩ := ra.two
      cases rv with
      | con _ _ kk => cases kk
      | int _ =>
        refine ⟨a, vs, i, w2, rfl, rfl, h1, ?_, hi.1, hi.2, k _ _ (((r.take _).append (.cons rv2 .nil)).append (r.drop _)) .non⟩
        rw [r.length]
        simp only [List.length_append, List.length_take, List.length_drop, List.length_cons, List.length_nil] at hl
        omega
    · cases hz
  · cases hz
theorem mu_pop : MuS X D "list.pop" popM := by
  refine ⟨_, mt_pop, fun fr H a xs vs as us z ys Q h1 r ra hz hl k => ?_⟩
  unfold popM at hz
  split at hz
  · split at hz
    · rename_i x hx
      cases hz
      obtain ⟨v, hv, rv⟩ := r.last hx
      rw [List.getLast?_eq_getElem?] at hv
      exact ⟨a, vs, v, rfl, ra.nil', h1, hv, k _ _ r.pop rv⟩
    · cases hz
  · cases hz
theorem mu_reverse : MuS X D "list.reverse" reverseM := by
  refine ⟨_, mt_reverse, fun fr H a xs vs as us z ys Q h1 r ra hz hl k => ?_⟩
  unfold reverseM at hz
  split at hz
  · cases hz
    exact ⟨a, vs, rfl, ra.nil', h1, k _ _ r.reverse .non⟩
  · cases hz

/-! ### stores by place -/
theorem RelD.put {kvs : List (PV × PV)} {hs : List (Key × V)} (r : RelD D fr H kvs hs) {k : PV} {key : Key} (h : keyOf k = some key) {x : PV} {v : V} (rk : Rel D fr H k (kV key)) (rx : Rel D fr H x v) : RelD D fr H (dput kvs k x) (putK hs key v) := by
  have any : (kvs.any fun p => keq p.1 k) = hs.any fun kv => decide (kv.1 = key) := by
    clear rk rx
    induction kvs generalizing hs with
    | nil => cases r; rfl
    | cons p kvs ih => cases r with
      | cons hk hv t => rw [List.any_cons, List.any_cons, ih t, keq_key h]
  have kk : k = keyP key := by
    cases k with
    | int i => cases h; rfl
    | str s => cases h; rfl
    | _ => cases h
  unfold dput putK
  rw [any]
  by_cases q : (hs.any fun kv => decide (kv.1 = key)) = true
  · rw [if_pos q, if_pos q]
    clear any q
    induction kvs generalizing hs with
    | nil => cases r; exact .nil
    | cons p kvs ih => cases r with
      | cons hk hv t =>
        rename_i key' x' v' hs
        rw [List.map_cons, List.map_cons]
        have e := keq_key (key' := key') h
        by_cases q : key' = key
        · have e1 : keq (keyP key') k = true := by rw [e]; exact decide_eq_true q
          dsimp only
          rw [if_pos e1, if_pos q]
          exact .cons hk rx (ih t)
        · have e1 : ¬ keq (keyP key') k = true := by rw [e, decide_eq_false q]; exact Bool.false_ne_true
          dsimp only
          rw [if_neg e1, if_neg q]
          exact .cons hk hv (ih t)
  · rw [if_neg q, if_neg q]
    have app : ∀ {kvs : List (PV × PV)} {hs : List (Key × V)}, RelD D fr H kvs hs → RelD D fr H (kvs ++ [(k, x)]) (hs ++ [(key, v)]) := by
      intro kvs
      induction kvs with
      | nil =>
        intro hs r
        cases r
        subst kk
        exact .cons rk rx .nil
      | cons p kvs ih =>
        intro hs r
        cases r with
        | cons hk hv t => exact .cons hk hv (ih t)
    exact app r
theorem RelD.length : ∀ {kvs : List (PV × PV)} {hs : List (Key × V)}, RelD D fr H kvs hs → hs.length = kvs.length
  | _, _, .nil => rfl
  | _, _, .cons _ _ t => congrArg (· + 1) (RelD.length t)
theorem dput_len (kvs : List (PV × PV)) (k x : PV) : (dput kvs k x).length ≤ kvs.length + 1 := by
  unfold dput
  split
  · rw [List.length_map]; omega
  · rw [List.length_append]; exact Nat.le_refl _
/-- o[i] = v -/
def setIx (l : Loc) (k v : PV) (s : Fs) : Option Fs := match putL l s with
  | some (xs, kk) => match k with
    | .int i => match ixN xs.length i with
      | some j => some (kk (xs.set j v))
      | none => none
    | _ => none
  | none => match l with
    | .at i => match s.sl[i]? with
      | some (.ow (.dic kvs)) => if (keyOf k).isSome = true ∧ kvs.length < sizeLine then some { s with sl := s.sl.set i (.ow (.dic (dput kvs k v))) } else none
      | _ => none
    | _ => none
def gSetIx (f : M PV) (fo : M Loc) (fi : M PV) : M Fl := M.bind f fun v => M.bind fo fun l => M.bind fi fun k s => match setIx l k v s with
  | some s' => .ok .nx s'
  | none => .no
theorem PSet.or {t t' : TSet} (h : PSet X t) (h' : PSet X t') : PSet X (fun o i v H Q => t o i v H Q ∨ t' o i v H Q) := fun pins s σ H o i v ov iv u Q I r1 r2 r3 q => q.elim (h pins s σ H o i v ov iv u Q I r1 r2 r3) (h' pins s σ H o i v ov iv u Q I r1 r2 r3)
theorem ss_setIx {o i e : Expr} {f : M PV} {fo : M Loc} {fi : M PV} {tpos : Pos} (hu : X.A.units + 1 < cLine) (he : PE X e (tE D lvl W f)) (ho : PE X o (tO D lvl W fo)) (hi : PE X i (tE D lvl W fi))
    (ha : ∀ v, assign (.Subscript o i tpos) X.env v = (do
      let ov ← holding [v] (eval o X.env)
      let iv ← holding [v, ov] (eval i X.env)
      standAt tpos
      holding [v, ov, iv] (setItem ov iv v)
      release [v, ov, iv] []) := by intro _; rfl) (hs : swapsWithSole [.Subscript o i tpos] e pos.line X.env = pure false := by rfl) (hw : swappedStores [.Subscript o i tpos] e X.env = pure none := by rfl)
    (h1 : (assignEach [.Subscript o i tpos] X.env).map (·.2) = [assign (.Subscript o i tpos) X.env] := by rfl) : PS X (.Assign [.Subscript o i tpos] e pos) (tS D lvl W (gSetIx f fo fi)) := by
  refine PS.imp (ps_asg he (pg_sub ho hi (PSet.or set_list (set_dict hu)) ha) hs hw h1) ?_
  rintro Dn σ H ⟨fr, fs, I, h⟩
  refine nextSE I h fun x s fr1 H1 v I1 e1 r1 h1 => nextSO I1 h1 fun l s2 fr2 H2 ov I2 e2 r2 h2 => nextSE I2 h2 fun k s3 fr3 H3 kv I3 e3 r3 h3 => ?_
  have r1' := Rel.ev (e2.trans e3) r1
  have r2' := r2.ev e3
  split at h3
  · rename_i s' hs'
    unfold setIx at hs'
    split at hs'
    · rename_i xs kk hp
      obtain ⟨a, vs, rfl, q1, q2, q3, q4⟩ := putL_ok I3 r2' hp
      cases k with
      | int j =>
        dsimp only at hs'
        split at hs'
        · rename_i m hm
          cases hs'
          cases r3 with
          | con _ _ kk => cases kk
          | int _ =>
            obtain ⟨I4, e4⟩ := q4 (xs.set m x) (vs.set m v) (by rw [List.length_set]; exact q2) (q3.set m r1')
            exact .inl ⟨a, vs, j, m, rfl, rfl, q1, by rw [q3.length]; exact hm, h3 fr3 σ _ I4 e4⟩
        · cases hs'
      | _ => cases hs'
    · cases l with
      | val y => cases hs'
      | «at» i =>
        dsimp only at hs'
        split at hs'
        · rename_i kvs hq
          split at hs'
          · rename_i hk
            cases hs'
            have rr : σ[i]? = some (some ov) := r2'
            obtain ⟨a, o, e, g1, g2, g3⟩ := I3.own hq
            rw [rr] at e
            cases e
            cases g3 with
            | dic hl hr =>
              obtain ⟨key, ek⟩ := Option.isSome_iff_exists.mp hk.1
              have := (Now.key (.inl r3) ek)
              subst this
              rename_i hs
              have hlen : hs.length = kvs.length := RelD.length hr
              have I4 := I3.mut hq rr g1 (c' := .dic (dput kvs k x)) (o' := .dK (putK hs key v)) (.dic (by have := dput_len kvs k x; omega) (hr.put ek r3 r1'))
              refine .inr ⟨a, _, rfl, DPut.k g2 (by rw [hlen]; exact hk.2), h3 fr3 σ _ I4 (ev_upd (nkp_slot g1))⟩
          · cases hs'
        · cases hs'
  · exact h3.elim

/-! ### boxes -/
theorem FI.newBox (I : FI D lvl fr fs σ H) {p : Addr} {xs : List PV} {vs : List V} (h : H p = none) (hl : xs.length ≤ sizeLine) (r : Rels D fr H xs vs) :
    ∃ fr', FI D lvl fr' { fs with hp := fs.hp ++ [.box xs] } σ (upd H p (.lst vs)) ∧ Ev lvl fr H fr' (upd H p (.lst vs)) ∧ Rel D fr' (upd H p (.lst vs)) (.obj fs.hp.length) (.ref p) := by
  have J := I.newTmp (o := .lst vs) h
  have ne : ∀ a o', fr.ow a = some o' → a ≠ p := fun a o' q z => by rw [z, I.gi.free h] at q; cases q
  have io : ∀ (j : Nat) (q : Addr × Addr), fr.io[j]? = some q → (fr.io ++ [(p, p)])[j]? = some q := fun j q e => by
    rw [List.getElem?_append_left (List.getElem?_eq_some_iff.mp e).1]; exact e
  have e : Ev lvl fr H { io := fr.io ++ [(p, p)], ow := (reow fr p (some (.ob fs.hp.length))).ow } (upd H p (.lst vs)) :=
    ⟨fun b u e k => ⟨by rw [upd_ne (ne_of_none e h)]; exact e, reow_ne (ne_of_none e h)⟩, io⟩
  have kg : KeepG fr H { io := fr.io ++ [(p, p)], ow := (reow fr p (some (.ob fs.hp.length))).ow } (upd H p (.lst vs)) := fun a o' q _ => ⟨by
    show (reow fr p (some (.ob fs.hp.length))).ow a = some o'
    rw [reow_ne (ne a _ q)]; exact q, upd_ne (ne a _ q)⟩
  refine ⟨_, ⟨⟨fun a o q => ?_, fun j x q => ?_, ?_⟩, fun i x q => (I.sl i x q).keep e.n fun a q => ⟨reow_ne (ne a _ q), upd_ne (ne a _ q)⟩, I.ln⟩, e, .obj (dx := p) ?_⟩
  · by_cases z : a = p
    · exact ⟨_, by rw [z, upd_same]⟩
    · have q : (reow fr p (some (.ob fs.hp.length))).ow a = some o := q
      rw [reow_ne z] at q
      obtain ⟨u, hu⟩ := I.gi.tr a o q
      exact ⟨u, by rw [upd_ne z]; exact hu⟩
  · have q : (fs.hp ++ [.box xs])[j]? = some x := q
    by_cases hj : j < fs.hp.length
    · rw [List.getElem?_append_left hj] at q
      exact (I.gi.ob j x q).keep e.n kg
    · rw [List.getElem?_append_right (by omega)] at q
      have hj2 : j - fs.hp.length = 0 := by
        cases hh : j - fs.hp.length with
        | zero => rfl
        | succ m => rw [hh] at q; simp at q
      rw [hj2] at q
      cases q
      have hj3 : j = fs.hp.length := by omega
      subst hj3
      refine ⟨p, vs, ?_, reow_same, upd_same, hl, Rels.ev e r⟩
      show (fr.io ++ [(p, p)])[fs.hp.length]? = some (p, p)
      rw [← I.gi.len, List.getElem?_append_right (Nat.le_refl _), Nat.sub_self]
      rfl
  · show (fr.io ++ [(p, p)]).length = (fs.hp ++ [Ob.box xs]).length
    rw [List.length_append, List.length_append, I.gi.len]
    rfl
  · show (fr.io ++ [(p, p)])[fs.hp.length]? = some (p, p)
    rw [← I.gi.len, List.getElem?_append_right (Nat.le_refl _), Nat.sub_self]
    rfl
/-- a list that others will change -/
def fBox (g : M (List PV)) : M PV := M.bind g fun xs s => if lenOk xs = true then .ok (.obj s.hp.length) { s with hp := s.hp ++ [.box xs] } else .no
theorem se_box {es : List Expr} {g : M (List PV)} (h : PA X es (tAs D lvl W g)) : PE X (.List es pos) (tE D lvl W (fBox g)) := by
  refine PE.imp (pe_lst h) ?_
  rintro σ H Q ⟨fr, fs, I, h⟩
  refine nextA I h fun xs s fr1 H1 vs I1 e1 r1 h1 => ?_
  split at h1
  · rename_i hl
    have hl' : xs.length ≤ sizeLine := of_decide_eq_true hl
    refine ⟨by rw [r1.length]; exact hl', fun p np => ?_⟩
    obtain ⟨fr2, I2, e2, r2⟩ := I1.newBox np hl' r1
    exact h1 fr2 _ _ I2 (e1.trans e2) r2
  · exact h1.elim
end
end Mi
end S_Mi11
section S_Mi12
set_option Elab.async false
set_option linter.all false
set_option maxRecDepth 100000
set_option maxHeartbeats 4000000
namespace Mi
open PySem PySem.Spec PyProof.Rows L2
section
variable {X : Cx} {D : Stat} {lvl : Nat} {W : WX} {ws : List Nat} {fr fr1 fr' : Fr} {H H1 H' : Hp} {fs s : Fs} {σ σ' : L2.St} {pos cpos apos : Pos} {K : PySem.W.Frag} {β : Type} {st : Stmt} {Dn : Ends}
/-! ### isinstance of a built-in type -/
def tyN : PV → Option Nat
  | .non => some 0
  | .bl _ => some 1
  | .int _ => some 2
  | .str _ => some 3
  | .lst _ => some 4
  | .tup _ => some 5
  | .dic _ => some 6
  | _ => none
def nmN : Nat → String
  | 0 => "NoneType"
  | 1 => "bool"
  | 2 => "int"
  | 3 => "str"
  | 4 => "list"
  | 5 => "tuple"
  | _ => "dict"
def isN (a t : Nat) : Bool := decide (a = t) || (decide (a = 1) && decide (t = 2))
theorem kitN : ∀ a t : Fin 7, kitB (nmN a.val) (nmN t.val) = some (isN a.val t.val) := by decide +kernel
theorem tyN_x {x : PV} {v : V} {a : Nat} (h : Now D fr H x v) (e : tyN x = some a) : a < 7 ∧ TyX K H v (.type (nmN a)) := by
  cases x with
  | non => cases e; rw [h.non]; exact ⟨by decide, .base .non⟩
  | bl b => cases e; rw [h.bl]; exact ⟨by decide, .base (.bl b)⟩
  | int b => cases e; rw [h.int]; exact ⟨by decide, .base (.int b)⟩
  | str b => cases e; rw [h.str.1]; exact ⟨by decide, .base (.str _)⟩
  | lst b => cases e; obtain ⟨a, vs, rfl, h1, _⟩ := h.lst; exact ⟨by decide, .base (.lst h1)⟩
  | tup b => cases e; obtain ⟨a, vs, rfl, h1, _⟩ := h.tup; exact ⟨by decide, .base (.tup h1)⟩
  | dic b => cases e; obtain ⟨a, vs, rfl, h1, _⟩ := h.dic; exact ⟨by decide, .base (.dK h1)⟩
  | _ => cases e
def fIsi (fo : M Loc) (t : Nat) : M PV := M.bind fo fun l s => match rd s l with
  | some x => match tyN x with
    | some a => .ok (.bl (isN a t)) s
    | none => .no
  | none => .no
theorem se_isi {e : Expr} {p p2 : Pos} {y : Str} {fo : M Loc} {t : Nat} (ht : t < 7) (hg : Gl X "isinstance") (hm : X.mg "isinstance" = none) (hgy : Gl X y) (hmy : X.mg y = none) (hv : bootBuiltins y = some (.type (nmN t))) (he : PE X e (tO D lvl W fo))
    (hn : y ≠ "__name__" := by decide) (hd : (y == ("__debug__" : Str)) = false := by decide)
    (hs : starEach [e, .Name y p2] X.env = (false, eval e X.env) :: starEach [.Name y p2] X.env := by rfl) (hs2 : starEach [.Name y p2] X.env = (false, eval (.Name y p2) X.env) :: starEach [] X.env := by rfl)
    (hpl : (backTo pos (starEach [.Name y p2] X.env)).any (·.1) = false := by rfl) : PE X (.Call (.Name "isinstance" p) [e, .Name y p2] [] pos) (tE D lvl W (fIsi fo t)) := by
  refine PE.imp (pe_callB call_isi hg hm boot_isinstance (pa_cons he (pa_cons (pe_bltn (v := .ty (nmN t)) hgy hmy hv rfl hn hd) pa_nil hs2) hs) (by decide) (by decide) hs hpl) ?_
  rintro σ H Q ⟨fr, fs, I, h⟩
  refine nextO I h fun l s fr1 H1 v I1 e1 r1 h1 => ?_
  split at h1
  · rename_i x hx
    split at h1
    · rename_i a ha
      obtain ⟨hl, ty⟩ := tyN_x (K := X.K) (rd_now I1 r1 hx) ha
      exact ⟨v, .ty (nmN t), .type (nmN a), .type (nmN t), isN a t, rfl, .ty _, ty, kit_ty (kitN ⟨a, hl⟩ ⟨t, ht⟩), h1 fr1 H1 _ I1 e1 (.bl _)⟩
    · exact h1.elim
  · exact h1.elim

/-! ### the module's constants -/
theorem se_gstr {x : Str} {z : S} {p : Pos} (hg : Gl X x) (hm : ∃ t, X.mg x = some (.str (strOf z) t)) (ok : okS z = true) (hd : (x == ("__debug__" : Str)) = false := by decide) : PE X (.Name x p) (tE D lvl W (M.pure (.str z))) := by
  obtain ⟨t, hm⟩ := hm
  exact se_const (pe_glob (v := .str (strOf z)) hg hm ⟨t, rfl⟩ hd) fun _ _ => .str ok
theorem se_gint {x : Str} {i : Int} {p : Pos} (hg : Gl X x) (hm : ∃ t, X.mg x = some (.int i t)) (hd : (x == ("__debug__" : Str)) = false := by decide) : PE X (.Name x p) (tE D lvl W (M.pure (.int i))) := by
  obtain ⟨t, hm⟩ := hm
  exact se_const (pe_glob (v := .int i) hg hm ⟨t, rfl⟩ hd) fun _ _ => .int i

/-! ### raise -/
structure ExcOk (K : PySem.W.Frag) (mg : Str → Option Value) (D : Stat) (x : Str) (c : Nat) : Prop where
  mg : mg x = some (.ref (D.ca c))
  xc : PySem.W.excIn K (D.ca c) He.veBase "ValueError.__new__" = true
  kp : PySem.W.keepIn K (.ref (D.ca c)) = true
  sub : PySem.W.subIn K (.ref (D.ca c)) (.type "BaseException") = some true
  ty : PySem.W.typeIn K (.ref (D.ca c)) = some (.type "type")
def gRaise (c : Nat) : M Fl := fun s => .ex (.exc c []) s
theorem ss_raise {x m : Str} {c j : Nat} {p p2 p3 : Pos} (ex : ExcOk X.K X.mg D x c) (hc : X.calm = true) (tk : Takes X W) (hg : Gl X x) (hdb : (x == ("__debug__" : Str)) = false := by decide) :
    PS X (.Raise (some (.Call (.Name x p) [.Constant (.str m) j p2] [] p3)) none pos) (tS D lvl W (gRaise c)) := by
  refine PS.imp (ps_raise hc tk (pmk_own PySem.F.excBase_ValueError ex.xc ex.mg ex.kp (raises_own ex.sub ex.ty) hg hdb)) ?_
  rintro Dn σ H ⟨fr, fs, I, h⟩
  exact h fr σ H _ _ I .refl ⟨c, rfl, .inl ⟨rfl, rfl⟩⟩

/-! ### enumerate of a list -/
def fEnum (f : M (List PV)) : M (List PV) := M.bind f fun vs => match vs with
  | [.lst xs] => M.pure (xs.zipIdx.map fun p => .tup [.int (p.2 : Nat), p.1])
  | _ => fun _ => .no
theorem itok_enum {a : Addr} {xs : List PV} {vs : List V} (h1 : fr.ow a = none) (h2 : H a = some (.lst vs)) (r : Rels D fr H xs vs) : ItOk D lvl (Ite K a) fr H (xs.zipIdx.map fun p => .tup [.int (p.2 : Nat), p.1]) := by
  intro fr2 H2 e tr
  obtain ⟨q1, q2⟩ := e.at h1 h2
  have r2 := Rels.ev e r
  refine ⟨fun i x hx => ?_, fun i hi => ⟨vs, .inl (.inl q2), by rw [r.length]; simp at hi; omega⟩⟩
  rw [List.getElem?_map, List.getElem?_zipIdx] at hx
  cases hy : xs[i]? with
  | none => rw [hy] at hx; cases hx
  | some y =>
    rw [hy] at hx
    cases hx
    obtain ⟨v, hv, rv⟩ := r2.get hy
    refine ⟨⟨vs, v, .inl (.inl q2), hv⟩, fun w H3 ⟨T, y', hw, hT, e3, hy'⟩ => ?_⟩
    subst hw e3
    have := hy' vs (.inl (.inl q2))
    rw [hv] at this
    cases this
    have g : Gr H2 (upd H2 T (.tup [.int (i : Nat), v])) := Gr.new hT
    have hn : fr2.ow T = none := by
      cases q : fr2.ow T with
      | none => rfl
      | some o => obtain ⟨u, hu⟩ := tr T o q; rw [hT] at hu; cases hu
    refine ⟨g, .con hn upd_same (.tup (by show 2 ≤ sizeLine; decide) (.cons ?_ (.cons (Rel.ev (g.ev (lvl := lvl)) rv) .nil)))⟩
    rw [Nat.zero_add]
    exact .int _
theorem si_enum {e : Expr} {g : M (List PV)} {p pos tpos : Pos} {elts : List Expr} {kk : Nat} (hg : Gl X "enumerate") (hm : X.mg "enumerate" = none) (ha : PA X [e] (tAs D lvl W g)) (hs : starEach [e] X.env = [(false, eval e X.env)] := by rfl) :
    PI X (.Tuple elts kk tpos) (.Call (.Name "enumerate" p) [e] [] pos) (tI D lvl W (fEnum g)) := by
  refine PI.imp (pi_enum hg hm ha hs) ?_
  rintro σ H R ⟨fr, fs, I, h⟩
  refine nextA I h fun xs s fr1 H1 vs I1 e1 r1 h1 => ?_
  split at h1
  · rename_i ys
    obtain ⟨v, rfl, rv⟩ := r1.one
    cases rv with
    | con w1 w2 w3 => cases w3 with
      | lst hl hr => exact ⟨_, _, rfl, .inl (.inl w2), h1 fr1 H1 _ I1 e1 (itok_enum w1 w2 hr)⟩
  · exact h1.elim
end

/-! ### all defs, to every depth -/
section
variable {P : Program} {w : World} {K : PySem.W.Frag} {mg : Str → Option Value} {base : Heap} {D : Stat} {T : Table}
def FnsOk (P : Program) (w : World) (K : PySem.W.Frag) (mg : Str → Option Value) (base : Heap) (D : Stat) (T : Table) (d : Nat) : Prop := ∀ lvl n F, T n = some F →
  ∃ fd ps, GOk P w K mg base (L2.CX P w) d (D.fa n) fd ps (spG D lvl (G T d) n F.np) ∧ Binds K fd ps []
/-- where the defs stand -/
def Stand (K : PySem.W.Frag) (mg : Str → Option Value) (D : Stat) (T : Table) : Prop := ∀ n F, T n = some F → mg F.name = some (.ref (D.fa n)) ∧ PySem.W.keepIn K (.ref (D.fa n)) = true
def Calls (P : Program) (w : World) (K : PySem.W.Frag) (mg : Str → Option Value) (base : Heap) (A : Around) (D : Stat) (lvl : Nat) (Γ : Env) (T : Table) : Prop := ∀ n F, T n = some F → CallOk P w K mg base A D lvl Γ F.name n F.np
theorem calls_of {A : Around} {d lvl : Nat} (ih : FnsOk P w K mg base D T d) (st : Stand K mg D T) (hr : Room d A) (hgd : A.guards = some []) : Calls P w K mg base A D lvl (G T d) T := fun n F h => by
  obtain ⟨fd, ps, ok, b⟩ := ih lvl n F h
  exact ⟨⟨d, fd, ps, ok, hr, hgd, b⟩, (st n F h).1, (st n F h).2⟩
theorem sp_len {D : Stat} {lvl : Nat} {Γ : Env} {n np : Nat} {vs : List V} {H : Hp} {Q : VK} {E : XK} (h : spG D lvl Γ n np vs H Q E) : vs.length = np := by
  obtain ⟨fr, hp, args, g, r, hl, h⟩ := h
  rw [r.length, hl]
/-- one def, one depth more -/
theorem fn_step {d n : Nat} {F : Fd} {N ps : List Str} {x qual : Str} {params : Arguments} {body : List Stmt} {scope : Scope} {fd : FuncData} (FD : FunD K x qual params body scope [] [] (D.fa n) fd) (S : FnScope N ps scope) (hns : F.ns = N.length) (hnp : F.np = ps.length)
    (hT : T n = some F) (ih : FnsOk P w K mg base D T d) (st : Stand K mg D T)
    (hb : ∀ (lvl : Nat) (cdv : Value) (A : Around) (outer : List PySem.Env) (s : Shared) (H : Hp) (E : XK), Room d (A.deeper (envOfC qual scope s.heap.objs.size (D.fa n) cdv)) → (A.deeper (envOfC qual scope s.heap.objs.size (D.fa n) cdv)).guards = some [] →
      Calls P w K mg base (A.deeper (envOfC qual scope s.heap.objs.size (D.fa n) cdv)) D (lvl + 1) (G T d) T →
      PSs (cxOf (L2.CX P w) P w K mg base N qual scope (D.fa n) cdv A outer s H E) body (tS D lvl (fun cls d _ H => E cls d H) (F.body (G T d)))) (lvl : Nat) :
    GOk P w K mg base (L2.CX P w) (d + 1) (D.fa n) fd ps (spG D lvl (G T (d + 1)) n F.np) := by
  obtain ⟨oc, od, dV, kV, doc, pm, an, cdv, ct, osl, rfl, lk, hcd, _, _⟩ := FD.ex
  refine gfn_of lk hcd S (fun vs H Q E h => (sp_len h).trans hnp) fun A outer s H vs Q E hr hgd h => ?_
  refine ⟨_, hb lvl cdv A outer s H E hr hgd (calls_of ih st hr hgd), ?_⟩
  refine body_sp hns rfl (fun args hp => ?_) h
  show (match T n with
    | some F => runBody F (G T d) args hp
    | none => .no) = _
  rw [hT]
/-- depth 0: nothing is called -/
theorem fns_zero (h : ∀ n F, T n = some F → ∃ fd ps, Binds K fd ps [] ∧ F.np = ps.length) : FnsOk P w K mg base D T 0 := fun lvl n F hF => by
  obtain ⟨fd, ps, b, e⟩ := h n F hF
  have no : ∀ vs H Q E, ¬ spG D lvl (G T 0) n F.np vs H Q E := fun vs H Q E ⟨fr, hp, args, g, r, hl, h⟩ => h
  exact ⟨fd, ps, ⟨fun vs H Q E h => (no _ _ _ _ h).elim, fun A outer s H args us vs Q E hr hgd e0 hb hv h => (no _ _ _ _ h).elim⟩, b⟩
theorem fns_all (h0 : ∀ n F, T n = some F → ∃ fd ps, Binds K fd ps [] ∧ F.np = ps.length) (step : ∀ d, FnsOk P w K mg base D T d → FnsOk P w K mg base D T (d + 1)) : ∀ d, FnsOk P w K mg base D T d
  | 0 => fns_zero h0
  | d + 1 => step d (fns_all h0 step d)
/-- the law's own def -/
def spLaw (K : PySem.W.Frag) : Sp := fun vs H Q _ => ∃ (a : Addr) (ns : List Int), vs = [.ref a] ∧ SqL K H a (ns.map V.int) ∧ ns.length ≤ 63 ∧ ∀ H', Q (.bl true) H'
theorem law_of {d n : Nat} {f : Addr} {fd : FuncData} {ps : List Str} (hD : D.K = K) (h : GOk P w K mg base (L2.CX P w) d f fd ps (spG D 0 (G T d) n 1)) (hl : ∀ ns : List Int, ns.length ≤ 63 → ∃ b hp, G T d n [.scr ns] [] = .ok (.bl true) b hp) :
    GOk P w K mg base (L2.CX P w) d f fd ps (spLaw K) := by
  refine h.imp fun vs H Q E ⟨a, ns, e, hS, hn, q⟩ => ?_
  subst e
  obtain ⟨b, hp, eG⟩ := hl ns hn
  refine ⟨⟨[], fun _ => none⟩, [], [.scr ns], ⟨fun a o z => (by cases z), fun j x z => (by cases z), rfl⟩, .cons (.scr ?_) .nil, rfl, ?_⟩
  · rw [hD]
    rcases hS with hS | hS
    · exact .inl ⟨rfl, hS⟩
    · exact .inr hS
  · rw [eG]
    intro fr' H' v' g e r
    have : v' = .bl true := by
      cases b with
      | false => exact Now.bl (.inl r)
      | true =>
        obtain ⟨p, o, _, _, _, k⟩ := r
        cases k
    subst this
    exact q H'
end
end Mi
end S_Mi12
section S_Mi13
set_option Elab.async false
set_option linter.all false
set_option maxRecDepth 100000
set_option maxHeartbeats 4000000
namespace Mi
open PySem PySem.Spec PyProof.Rows L2
section
variable {X : Cx} {D : Stat} {lvl : Nat} {W : WX} {ws : List Nat} {fr fr1 fr' : Fr} {H H1 H' : Hp} {fs s : Fs} {σ σ' : L2.St} {pos cpos apos : Pos} {K : PySem.W.Frag} {β : Type} {st : Stmt} {Dn : Ends} {Γ : Env}
/-- name = [..] -/
theorem ss_ownLc {elt tg iter : Expr} {ifs : List Expr} {scope : Scope} {own : List (Str × Nat)} {f : M (List PV)} {g : PV → Fs → Option Fs} {t : M Bool} {e : M PV} {vs : List Nat} {i : Nat} {y : Str} {py spos : Pos}
    (hv : own.map (·.2) = vs) (hc : X.calm = true) (hN : X.N.Nodup) (hy : X.N[i]? = some y) (hyl : X.env.scope.names.lookup y = some .local)
    (hsw : swapsWith (.ListComp elt [⟨tg, iter, ifs, 0⟩] scope pos) (some (.Name y py)) spos.line X.env = pure true) (hi : PI X tg iter (tI D lvl W f)) (ok : BlkOk X.N X.env.scope scope own)
    (hg : ∀ (s : Shared) (H : Hp) (C : Addr) (cl : List (Str × Addr)) (fp : List Addr), PG (X.blk s H scope (compEnvC scope cl C X.env) fp) tg (tG D lvl vs g))
    (ht : ∀ (s : Shared) (H : Hp) (C : Addr) (cl : List (Str × Addr)) (fp : List Addr), PTs (X.blk s H scope (compEnvC scope cl C X.env) fp) ifs (tB' D lvl W0 t))
    (he : ∀ (s : Shared) (H : Hp) (C : Addr) (cl : List (Str × Addr)) (fp : List Addr), PE (X.blk s H scope (compEnvC scope cl C X.env) fp) elt (tE D lvl W0 e)) (hs : ∀ x, foldedSetIterable iter X.env x = pure x := by intro _; rfl) :
    PS X (.Assign [.Name y py] (.ListComp elt [⟨tg, iter, ifs, 0⟩] scope pos) spos) (tS D lvl W (gOwn (fComp f vs g t e) i)) := by
  subst hv
  refine PS.imp (ps_setLc hc hN hy hyl hsw hi ok hg ht he hs) ?_
  rintro Dn σ H ⟨fr, fs, I, h⟩
  refine comp_run (nextSF I h fun x s fr1 H1 p o I1 e1 r1 r2 r3 h1 => ?_)
  exact h1 _ _ H1 (I1.setOw r1 r2 r3 i) (ev_reow (nkp_tmp r1))
/-- return f(..), the answer's state handed on -/
def retRC (s : Fs) : RC → R Fl
  | .ok v b hp' => .ok (.rt v b) { s with hp := hp' }
  | .ex e hp' => .ex e { s with hp := hp' }
  | .no => .no
def gRetCall (Γ : Env) (n : Nat) (g : M (List PV)) : M Fl := M.bind g fun args s => retRC s (Γ n args s.hp)
theorem ss_retCall {x : Str} {p cpos : Pos} {e : Expr} {es : List Expr} {n np : Nat} {g : M (List PV)} (c : CallOk X.prog X.w X.K X.mg X.base X.A D (lvl + 1) Γ x n np) (tk : Takes X W) (hg : Gl X x) (ha : PA X (e :: es) (tAs D lvl W g))
    (hl : ∀ args s s', g s = .ok args s' → args.length = np)
    (hdb : (x == ("__debug__" : Str)) = false := by decide) (he : starEach (e :: es) X.env = (false, eval e X.env) :: starEach es X.env := by rfl) (hpl : (backTo cpos (starEach es X.env)).any (·.1) = false := by rfl) :
    PS X (.Return (some (.Call (.Name x p) (e :: es) [] cpos)) pos) (tS D lvl W (gRetCall Γ n g)) := by
  obtain ⟨k, fd, ps, F, hr, hgd, hb⟩ := c.ex
  refine PS.imp (ps_ret (pe_callG F hr hgd hg c.mg c.kp hb (fun σ => passAt tk σ) ha hdb he hpl)) ?_
  rintro Dn σ H ⟨fr, fs, I, h⟩
  unfold gRetCall at h
  have h' := ResS.bind (σ := σ) h
  refine ⟨fr, fs, I, ?_⟩
  cases eg : g fs with
  | no => rw [eg] at h'; exact h'
  | ex y s => rw [eg] at h'; exact h'
  | ok args s =>
    rw [eg] at h'
    intro fr1 H1 vs I1 e1 r1
    have h1 := ResS.base (show ResS D lvl W fr H (retRC s (Γ n args s.hp)) Dn from h') e1
    refine ⟨fr1, s.hp, args, I1.gi, r1, hl args fs s eg, ?_⟩
    cases eΓ : Γ n args s.hp with
    | no => rw [eΓ] at h1; exact h1
    | ok v b hp' =>
      rw [eΓ] at h1
      intro fr2 H2 v' g2 e2 r2
      exact h1 fr2 σ H2 v' (I1.called g2 e2) (e2.mono (Nat.le_succ lvl)) r2
    | ex y hp' =>
      rw [eΓ] at h1
      intro fr2 H2 cls d g2 e2 r2
      exact h1 fr2 σ H2 cls d (I1.called g2 e2) (e2.mono (Nat.le_succ lvl)) r2
theorem W0.takes {X : Cx} : Takes X W0 := fun u s' ⟨_, _, _, _, _, _, _, _, _, _, _, _, _, _, _, _, w⟩ => w.elim
end
end Mi
namespace Mi
open PySem PySem.Spec PyProof.Rows L2
def cCAPS : S := [65, 66, 67, 68, 69, 70, 71, 72, 73, 74, 75, 76, 77, 78, 79, 80, 81, 82, 83, 84, 85, 86, 87, 88, 89, 90]
def cSMALL : S := [97, 98, 99, 100, 101, 102, 103, 104, 105, 106, 107, 108, 109, 110, 111, 112, 113, 114, 115, 116, 117, 118, 119, 120, 121, 122]
theorem eq_cCAPS : Str.ofString "ABCDEFGHIJKLMNOPQRSTUVWXYZ" = strOf cCAPS := by decide +kernel
theorem eq_cSMALL : Str.ofString "abcdefghijklmnopqrstuvwxyz" = strOf cSMALL := by decide +kernel
theorem ok_cCAPS : okS cCAPS = true := by decide +kernel
theorem ok_cSMALL : okS cSMALL = true := by decide +kernel
theorem eq_empty : Str.ofString "" = strOf [] := by decide +kernel
theorem ok_empty : okS [] = true := by decide +kernel
/-- the most turns of a while -/
def wMax : Nat := 1000000000
section
variable {X : Cx} {D : Stat} {lvl : Nat} {W : WX} {pos cpos apos : Pos}
theorem se_index {o e : Expr} {fo : M Loc} {g : M (List Loc)} (hu : X.A.units + 65 < cLine) (ho : PE X o (tO D lvl W fo)) (ha : PA X [e] (tOs D lvl W g))
    (hbase : attributeBase o "index" X.env (eval o X.env) = eval o X.env := by rfl)
    (hfew : ((backTo cpos (starEach [e] X.env)).all (fun x => !x.1) && (backToKw cpos (keywordEach [] X.env)).all (fun x => x.1.isSome)
      && decide ([e].length + ([] : List Keyword).length + (if ([] : List Keyword).isEmpty then 0 else 1) < 30)) = true := by rfl)
    (hline : (apos.endLine == cpos.line) = true := by rfl) (hs : starEach [e] X.env = (false, eval e X.env) :: starEach [] X.env := by rfl) (hplain : (backTo cpos (starEach [] X.env)).any (·.1) = false := by rfl) :
    PE X (.Call (.Attribute o "index" apos) [e] [] cpos) (tE D lvl W (fMeth2 fo g indexSP indexLP)) :=
  se_meth2 (id' := "") (fun {f} hf => by subst hf; exact se_meth (.inl ⟨rfl, rfl⟩) ms_indexS PySem.F.plainAttrs_str PySem.F.slot_str_index PySem.F.type_str_index ho ha hbase hfew hline hs hplain)
    (fun {f} hf => by subst hf; exact se_meth (.inr (.inl ⟨rfl, rfl⟩)) (ms_indexL hu) PySem.F.plainAttrs_list PySem.F.slot_list_index PySem.F.type_list_index ho ha hbase hfew hline hs hplain)
/-- {} -/
def fDic : M PV := M.pure (.dic [])
theorem sf_dic : PE X (.Dict [] [] pos) (tF D lvl W fDic) := by
  refine PE.imp pe_dnewK ?_
  rintro σ H Q ⟨fr, fs, I, h⟩
  intro p np
  exact h _ _ p _ (I.newTmp np) (ev_newOw np) reow_same upd_same (.dic (Nat.zero_le _) .nil)
def replaceP (x : PV) (xs : List PV) : Option PV := none
theorem ms_replace : MtS' X D "str.replace" replaceP := ⟨fun _ _ _ _ => False, fun _ _ _ _ _ _ _ _ _ _ _ _ h => h.elim, fun _ _ _ _ _ _ _ _ _ _ _ _ _ _ h _ => by cases h⟩
end
end Mi
end S_Mi13
section S_Mi14
set_option Elab.async false
set_option linter.all false
set_option maxRecDepth 100000
set_option maxHeartbeats 4000000
/-! try .. except: the caught object is tracked, so that it may stay behind the suite -/
namespace Mi
open PySem PySem.Spec PyProof.Rows L2
section
variable {X : Cx} {pins : List (Addr × Obj)} {σ : L2.St} {H : Hp} {sI s' : Shared} {B : Heap}
/-- landed, and the object tracked -/
theorem held (hex : X.ex = []) (hs : X.stack = X.env :: X.outer) (hf : X.env.frame = some X.env.locals) (J : Inv X pins σ H sI) (nb : ∀ b o, sI.heap.get? b = some o → b ∉ frs X.stack → B.get? b = some o) (na : H a = none) {h4 : Heap} {cls : Value} {d : Option Addr} {oe : Obj} {vs : Array Value}
    (J4 : Inv X pins σ H { s' with heap := h4 }) (hB : B.get? a = none) (he : h4.get? a = some oe) (hz : Zc cls d oe) (hd : oe.data = .fields vs) (nfr : a ∉ frs (X.env :: X.outer)) (h0 : sI.heap.get? a = none) :
    Inv X pins σ (upd H a (ExH cls d a)) { s' with heap := h4 } := by
  have nL : a ≠ X.env.locals := fun z => nfr (List.mem_filterMap.mpr ⟨X.env, List.mem_cons_self, by rw [hf, z]⟩)
  have h00 : X.s_0.heap.get? a = none := by
    cases q : X.s_0.heap.get? a with
    | none => rfl
    | some o =>
      obtain ⟨o', e⟩ := J.base.there a o q (by rw [hex]; exact List.not_mem_nil)
      rw [h0] at e; cases e
  refine ⟨J4.ok, J4.os, J4.bare, ⟨J4.base.keep, J4.base.slot, fun b o e n hx => ?_, J4.base.there, fun b xs q => ?_, fun b o xs q => ?_, fun b ps q => ?_⟩, J4.loc, J4.cell, ?_, fun x c e => ?_, fun p hp => ?_, fun b u e => ?_, J4.len⟩
  · have hb : b ≠ a := fun z => by rw [z, h00] at e; cases e
    rw [upd_ne hb]
    exact J4.base.free b o e n hx
  · have q' := J4.base.tups b xs q
    rw [upd_ne (ne_of_none q' na)]; exact q'
  · have q' := J4.base.frzs b o xs q
    rw [upd_ne (ne_of_none q' na)]; exact q'
  · obtain ⟨more, q'⟩ := J4.base.tbls b ps q
    exact ⟨more, by rw [upd_ne (ne_of_none q' na)]; exact q'⟩
  · rw [upd_ne nL.symm]; exact J4.free
  · have hc : c ≠ a := fun z => by
      obtain ⟨v, o, q, q2⟩ := J4.cell x c e
      rw [z] at q
      have : h4.get? a = some o := q
      rw [he] at this
      cases this
      rw [hd] at q2
      cases q2
    rw [upd_ne hc]
    exact J4.freeC x c e
  · obtain ⟨e1, e2, e3, e4, e5⟩ := J4.pin p hp
    obtain ⟨f1, _, _, _, _⟩ := J.pin p hp
    have hb : p.1 ≠ a := fun z => by rw [z, h0] at f1; cases f1
    exact ⟨e1, by rw [upd_ne hb]; exact e2, e3, e4, e5⟩
  · by_cases hb : b = a
    · subst hb
      rw [upd_same] at e
      cases e
      refine ⟨⟨oe, vs, he, hz, hd⟩, ⟨oe, he⟩, ?_⟩
      rintro h1 h2 ⟨o1, v1, g1, g2, g3⟩ k
      exact ⟨o1, v1, k o1 g1, g2, g3⟩
    · rw [upd_ne hb] at e
      exact (J4.hok b u e).stay (fun c v _ q => q) (fun c q => by rw [upd_ne (ne_of_none q na)]; exact q) fun c xs q => by rw [upd_ne (ne_of_none q na)]; exact q
end
/-- what the clause wishes -/
def wHold (K : PySem.W.Frag) (c : Value) (put : L2.St → Addr → L2.St) (cut : L2.St → L2.St) (ts : TS) (Wout : WX) (Dn : Ends) : WX := fun cls d σ H =>
  ∃ b, PySem.W.exmOne K cls c = some b ∧ (b = true → ∀ a, H a = none → ts { nx := fun σ' H' => Dn.nx (cut σ') H', rt := Dn.rt, bk := fun σ' H' => Dn.bk (cut σ') H', ct := fun σ' H' => Dn.ct (cut σ') H' } (put σ a) (upd H a (ExH cls d a))) ∧
    (b = false → Wout cls d σ H)
section
variable {X : Cx} {x n : Str} {c : Value} {i : Nat} {body suite : List Stmt} {b₀ : Stmt} {np pos pos' : Pos} {tb : WX → TS} {ts : TS} {Wout : WX}
theorem not_frame {B h : Heap} {l : List PySem.Env} {a : Addr} {o : Obj} {vs : Array Value} (ff : h.FunFrames B l) (e : h.get? a = some o) (dd : o.data = .fields vs) : a ∉ frs l := fun hm => by
  obtain ⟨_, o', e', hnf⟩ := ff.mem hm
  rw [e] at e'; cases e'
  exact hnf _ dd
theorem Inv.suite0 {pins : List (Addr × Obj)} {σ : L2.St} {H : Hp} {s : Shared} (I : Inv X pins σ H s) (a : Addr) : Inv (X.suite a (X.pn ++ pins)) [] σ H s :=
  ⟨I.ok.suite _ _, I.os, I.bare, I.base, I.loc, I.cell, I.free, I.freeC, fun p hp => I.pin p (by rw [List.append_nil] at hp; exact hp), I.hok, I.len⟩
theorem Inv.unsuite0 {pins : List (Addr × Obj)} {σ : L2.St} {H : Hp} {s : Shared} {a : Addr} {pn' : List (Addr × Obj)} (I : Inv (X.suite a (X.pn ++ pins)) pn' σ H s) (ok : X.Ok) : Inv X pins σ H s :=
  ⟨ok, I.os, I.bare, I.base, I.loc, I.cell, I.free, I.freeC, fun p hp => I.pin p (List.mem_append_left _ hp), I.hok, I.len⟩
/-- try: body, except x as n: suite -/
theorem ps_try_hold (hex : X.ex = []) (hs : X.stack = X.env :: X.outer) (hf : X.env.frame = some X.env.locals) (hN : X.N.Nodup) (hi : X.N[i]? = some n) (hln : X.env.kindOf n = some .local) (hc : Names X x c) (tk : Takes X Wout)
    (hb : ∀ (W : WX) (pn : List (Addr × Obj)) (xe : Value → Shared → Prop), Takes (X.tr pn xe) W → PassesOwn (model X.prog X.w) X.A X.env xe → PSs (X.tr pn xe) body (tb W))
    (hsu : ∀ (a : Addr) (pn : List (Addr × Obj)), PSs (X.suite a pn) (b₀ :: suite) ts) :
    PS X (.Try body [.ExceptHandler (some (.Name x np)) (some n) (b₀ :: suite) pos'] [] [] pos) (fun Dn σ H => tb (wHold X.K c (fun σ a => σ.set i (some (.ref a))) (fun σ => σ.set i none) ts Wout Dn) Dn σ H) := by
  refine ⟨fun pins s σ H Dn I h => ?_⟩
  have ok := I.ok
  have hfr : X.A.frames = some (X.env :: X.outer) := by rw [ok.frames, hs]
  have hloc : L2.Loc X.env.scope n := .inl hln
  refine wpAny_Try_except ?_
  refine wpAny_mono ((hb (wHold X.K c (fun σ a => σ.set i (some (.ref a))) (fun σ => σ.set i none) ts Wout Dn) (X.pn ++ pins) (fun e s₁ => wpAny (model X.prog X.w) X.A (noteFrame e X.env) (fun _ s₂ => wpAny (model X.prog X.w) X.A (setFlight e none) (fun _ s₃ =>
    wpAny (model X.prog X.w) X.A (handleBy e X.env [.ExceptHandler (some (.Name x np)) (some n) (b₀ :: suite) pos']) (SP X pins Dn) X.xe s₃) X.xe s₂) X.xe s₁) (fun u s' xx => ?_) PassesOwn.looking).run [] s σ H Dn (I.toTry _) h) (fun f s1 hsp => ?_) (fun e s1 he => he)
  · obtain ⟨a, B, sI, pins', σ', H', cls, d, rfl, J', nb, up, sky, na, os, ag, b, hb1, hyes, hno⟩ := xx
    have J : Inv X pins σ' H' sI := J'.ofTry ok
    have sky' : Sky B (X.env :: X.outer) a (Zc cls d) X.env.locals s'.heap := by rw [← hs]; exact sky
    show wpAny (model X.prog X.w) X.A (noteFrame (.ref a) X.env) _ _ _
    refine Sky.land Zc.steady hfr hf sky' fun h3 fl3 up3 => ?_
    have J3 : Inv X pins σ' H' { s' with heap := h3 } := J.landed nb fl3.1 (up.trans up3) os ag
    obtain ⟨oe3, vs3, he3, hz3, hd3⟩ := fl3.there
    have nfr := not_frame fl3.2.2.1 he3 hd3
    have h0 : sI.heap.get? a = none := by
      cases q : sI.heap.get? a with
      | none => rfl
      | some o =>
        have := nb a o q (by rw [hs]; exact nfr)
        rw [fl3.2.1] at this; cases this
    have H3 := held hex hs hf J nb na J3 fl3.2.1 he3 hz3 hd3 nfr h0
    refine wpAny_handleBy_cons (codeAny_handlers_test ?_) (by intro q; cases q)
    have LT : PySem.W.Looks (model X.prog X.w) h3 (typeOf (.ref a)) cls := fun A Q E s k q => wpAny_typeOf_ref (k _ _ he3) (by rw [hz3.1]; exact q)
    have LM := PySem.W.exm_one (M := model X.prog X.w) (J3.kIn) LT hb1
    have S3 := Inv.suite0 J3 a
    have test : ∀ {Q : Value → Shared → Prop} {E : Value → Shared → Prop}, Q c { s' with heap := h3 } → wpAny (model X.prog X.w) (X.A.mark (some (.ref a))) (eval (.Name x np) X.env) Q E { s' with heap := h3 } := fun {Q E} q => by
      obtain ⟨hg, hdbg, hm | ⟨hm, hv, hnn⟩⟩ := hc
      · exact ld_glob (X := X.suite a (X.pn ++ pins)) S3 hg hm q hdbg
      · exact ld_blt (X := X.suite a (X.pn ++ pins)) S3 hg hm hv q hnn hdbg
    refine test (LM.here ?_)
    cases b with
    | true =>
      refine codeAny_handlers_suite_as ?_
      refine HandSPX.lands_againZ fl3 fun h4 fl4 up4 => ?_
      have J4 : Inv X pins σ' H' { s' with heap := h4 } := J.landed nb fl4.1 ((up.trans up3).trans up4) os ag
      obtain ⟨oe4, vs4, he4, hz4, hd4⟩ := fl4.there
      have H4 := held hex hs hf J nb na J4 fl4.2.1 he4 hz4 hd4 nfr h0
      have S4 := Inv.suite0 H4 a
      refine store_ok (X := X.suite a (X.pn ++ pins)) (v := .ref a) S4 hN hi hloc rfl (fun s5 S5 => ?_) (.inr hln)
      refine wpAny_mono ((hsu a (X.pn ++ pins)).run [] s5 _ _ _ S5 (hyes rfl a na)) (fun f s6 hsp => ?_) (fun _ _ z => False.elim z)
      have end_ : ∀ {σ6 : L2.St} {H6 : Hp} {Q : Shared → Prop}, Inv (X.suite a (X.pn ++ pins)) [] σ6 H6 s6 → (∀ s7, Inv X pins (σ6.set i none) H6 s7 → Q s7) →
          wpAny (model X.prog X.w) X.A (do bindName X.env n .none; unbindBehindTheSuite X.env n pos') (fun _ s7 => Q s7) X.xe s6 := fun {σ6 H6 Q} S6 hq => gone_ok (Inv.unsuite0 S6 ok) hN hi hln hq
      cases f with
      | next =>
        obtain ⟨σ6, H6, S6, q6⟩ := hsp
        exact end_ S6 fun s7 J7 => ⟨_, _, J7, q6⟩
      | brk =>
        obtain ⟨σ6, H6, S6, q6⟩ := hsp
        exact end_ S6 fun s7 J7 => ⟨_, _, J7, q6⟩
      | cont =>
        obtain ⟨σ6, H6, S6, q6⟩ := hsp
        exact end_ S6 fun s7 J7 => ⟨_, _, J7, q6⟩
      | ret u =>
        obtain ⟨v6, σ6, H6, S6, r6, q6⟩ := hsp
        exact end_ S6 fun s7 J7 => ⟨_, _, _, J7, r6, q6⟩
    | false =>
      show wpAny _ X.A (handleBy (.ref a) X.env []) _ _ _
      refine wpAny_handleBy_nil ?_
      obtain ⟨k1, k2, k3, oe, vs, T, oT, ts', he, hz, hd, h1, hr⟩ := id fl3
      unfold PySem.passOn
      refine wpAny_bind (wpAny_field he hd h1 ?_)
      rw [if_neg (show ¬ ((Value.ref T == Value.none) = true) from by simp)]
      have fin : wpAny (model X.prog X.w) X.A (setFlight (.ref a) X.env.frame) (fun _ s4 => wpAny (model X.prog X.w) X.A (throw (.ref a) : Sem Flow) (SP X pins Dn) X.xe s4) X.xe { s' with heap := h3 } := by
        rw [hf]
        refine HandSPX.setFlight_upZ fl3 fun h4 hh4 up4 => wpAny_throw (tk _ _ ?_)
        exact ⟨a, B, sI, pins, σ', H', cls, d, rfl, J, nb, (up.trans up3).trans up4, .inr (.inr (by rw [hs]; exact hh4)), na, os, ag, hno rfl⟩
      first
        | exact wpAny_bind (wpAny_pure (wpAny_bind fin))
        | exact wpAny_bind fin
  · cases f with
    | next =>
      obtain ⟨σ', H', J', q⟩ := hsp
      exact wpAny_execs_nil ⟨σ', H', J'.ofTry ok, q⟩
    | brk =>
      obtain ⟨σ', H', J', q⟩ := hsp
      exact ⟨σ', H', J'.ofTry ok, q⟩
    | cont =>
      obtain ⟨σ', H', J', q⟩ := hsp
      exact ⟨σ', H', J'.ofTry ok, q⟩
    | ret u =>
      obtain ⟨v, σ', H', J', r, q⟩ := hsp
      exact ⟨v, σ', H', J'.ofTry ok, r, q⟩
end
end Mi
end S_Mi14
section S_Mi15
set_option Elab.async false
set_option linter.all false
set_option maxRecDepth 100000
set_option maxHeartbeats 4000000
/-! try as a step of the shallow run -/
namespace Mi
open PySem PySem.Spec PyProof.Rows L2
def gTry (f : M Fl) (i : Nat) (sub : Nat → Option Bool) (g : M Fl) : M Fl := fun s => match f s with
  | .ex (.exc k xs) s1 => match sub k with
    | some true => match g { s1 with sl := s1.sl.set i (.sh (.exc k xs)) } with
      | .ok fl s2 => .ok fl { s2 with sl := s2.sl.set i .un }
      | _ => .no
    | some false => .ex (.exc k xs) s1
    | none => .no
  | .ex _ _ => .no
  | r => r
def gTry0 (f : M Fl) (sub : Nat → Option Bool) (g : M Fl) : M Fl := fun s => match f s with
  | .ex (.exc k xs) s1 => match sub k with
    | some true => match g s1 with
      | .ok fl s2 => .ok fl s2
      | _ => .no
    | some false => .ex (.exc k xs) s1
    | none => .no
  | .ex _ _ => .no
  | r => r
section
variable {X : Cx} {D : Stat} {lvl : Nat} {W : WX} {fr fr1 fr' : Fr} {H H1 H' : Hp} {fs s : Fs} {σ σ' : L2.St}
variable {x n : Str} {c : Nat} {i : Nat} {body suite : List Stmt} {b₀ : Stmt} {np pos pos' : Pos} {f g : M Fl} {sub : Nat → Option Bool}
theorem ExR.rel (I : FI D lvl fr s σ H) {k : Nat} {xs : List PV} {cls : Value} {d : Option Addr} {a : Addr} (r : ExR D fr H (.exc k xs) cls d) (na : H a = none) : Rel D fr (upd H a (ExH cls d a)) (.exc k xs) (.ref a) := by
  have no : fr.ow a = none := by
    cases q : fr.ow a with
    | none => rfl
    | some o =>
      obtain ⟨u, hu⟩ := I.gi.tr a o q
      rw [na] at hu; cases hu
  have ev : Ev lvl fr H fr (upd H a (ExH cls d a)) := ev_new na
  obtain ⟨c, rfl, h | ⟨x, dd, f, v, e, hd, h1, h2, h3⟩⟩ := r
  · obtain ⟨e, hd⟩ := h
    cases e
    subst hd
    exact .exc0 no upd_same
  · cases e
    subst hd
    exact .exc1 no upd_same h1 (by rw [upd_ne (ne_of_none h2 na)]; exact h2) (h3.ev ev)
theorem ss_try (hex : X.ex = []) (hs : X.stack = X.env :: X.outer) (hf : X.env.frame = some X.env.locals) (hN : X.N.Nodup) (hi : X.N[i]? = some n) (hln : X.env.kindOf n = some .local) (hc : Names X x (.ref (D.ca c)))
    (hsub : ∀ k b, sub k = some b → PySem.W.exmOne X.K (.ref (D.ca k)) (.ref (D.ca c)) = some b) (tk : Takes X W)
    (hb : ∀ (W : WX) (pn : List (Addr × Obj)) (xe : Value → Shared → Prop), Takes (X.tr pn xe) W → PassesOwn (model X.prog X.w) X.A X.env xe → PSs (X.tr pn xe) body (tS D lvl W f))
    (hsu : ∀ (a : Addr) (pn : List (Addr × Obj)), PSs (X.suite a pn) (b₀ :: suite) (tS D lvl W0 g)) :
    PS X (.Try body [.ExceptHandler (some (.Name x np)) (some n) (b₀ :: suite) pos'] [] [] pos) (tS D lvl W (gTry f i sub g)) := by
  refine PS.imp (ps_try_hold (tb := fun W => tS D lvl W f) hex hs hf hN hi hln hc tk hb hsu) ?_
  rintro Dn σ H ⟨fr, fs, I, h⟩
  refine ⟨fr, fs, I, ?_⟩
  unfold gTry at h
  cases ef : f fs with
  | no => rw [ef] at h; exact h
  | ok fl s1 =>
    rw [ef] at h
    cases fl <;> exact h
  | ex e s1 =>
    rw [ef] at h
    cases e with
    | exc k xs =>
      dsimp only at h
      intro fr1 σ1 H1 cls d I1 e1 r1
      cases es : sub k with
      | none => rw [es] at h; exact h.elim
      | some b =>
        rw [es] at h
        refine ⟨b, ?_, fun hb a na => ?_, fun hb => ?_⟩
        · obtain ⟨c', rfl, h | ⟨x, dd, f, v, e, _⟩⟩ := r1
          · cases h.1
            exact hsub _ _ es
          · cases e
            exact hsub _ _ es
        · subst hb
          dsimp only at h
          have I2 : FI D lvl fr1 { s1 with sl := s1.sl.set i (.sh (.exc k xs)) } (σ1.set i (some (.ref a))) (upd H1 a (ExH cls d a)) := (I1.new na).setSh (ExR.rel I1 r1 na) i
          have ev : Ev lvl fr1 H1 fr1 (upd H1 a (ExH cls d a)) := ev_new na
          refine ⟨fr1, _, I2, ?_⟩
          cases eg : g { s1 with sl := s1.sl.set i (.sh (.exc k xs)) } with
          | no => rw [eg] at h; exact h.elim
          | ex y s2 => rw [eg] at h; exact h.elim
          | ok fl s2 =>
            rw [eg] at h
            cases fl with
            | nx => exact fun fr2 σ2 H2 I3 e3 => h fr2 _ H2 (I3.setUn i none) (e1.trans (ev.trans e3))
            | bk => exact fun fr2 σ2 H2 I3 e3 => h fr2 _ H2 (I3.setUn i none) (e1.trans (ev.trans e3))
            | ct => exact fun fr2 σ2 H2 I3 e3 => h fr2 _ H2 (I3.setUn i none) (e1.trans (ev.trans e3))
            | rt v b => exact fun fr2 σ2 H2 v' I3 e3 r3 => h fr2 _ H2 v' (I3.setUn i none) (e1.trans (ev.trans e3)) r3
        · subst hb
          exact h fr1 σ1 H1 cls d I1 e1 r1
    | _ => exact h.elim
theorem ss_try0 (hs : X.stack = X.env :: X.outer) (hf : X.env.frame = some X.env.locals) (hc : Names X x (.ref (D.ca c)))
    (hsub : ∀ k b, sub k = some b → PySem.W.exmOne X.K (.ref (D.ca k)) (.ref (D.ca c)) = some b) (tk : Takes X W)
    (hb : ∀ (W : WX) (pn : List (Addr × Obj)) (xe : Value → Shared → Prop), Takes (X.tr pn xe) W → PassesOwn (model X.prog X.w) X.A X.env xe → PSs (X.tr pn xe) body (tS D lvl W f))
    (hsu : ∀ (a : Addr) (pn : List (Addr × Obj)), PSs (X.suite a pn) (b₀ :: suite) (tS D lvl W0 g)) :
    PS X (.Try body [.ExceptHandler (some (.Name x np)) none (b₀ :: suite) pos'] [] [] pos) (tS D lvl W (gTry0 f sub g)) := by
  refine PS.imp (ps_try_only (tb := fun W => tS D lvl W f) (ts := fun _ _ _ => tS D lvl W0 g) hs hf hc tk hb (fun a oe cls d pn _ _ => hsu a _)) ?_
  rintro Dn σ H ⟨fr, fs, I, h⟩
  refine ⟨fr, fs, I, ?_⟩
  unfold gTry0 at h
  cases ef : f fs with
  | no => rw [ef] at h; exact h
  | ok fl s1 =>
    rw [ef] at h
    cases fl <;> exact h
  | ex e s1 =>
    rw [ef] at h
    cases e with
    | exc k xs =>
      dsimp only at h
      intro fr1 σ1 H1 cls d I1 e1 r1
      cases es : sub k with
      | none => rw [es] at h; exact h.elim
      | some b =>
        rw [es] at h
        refine ⟨b, ?_, fun hb a na => ?_, fun hb => ?_⟩
        · obtain ⟨c', rfl, h | ⟨x, dd, f, v, e, _⟩⟩ := r1
          · cases h.1
            exact hsub _ _ es
          · cases e
            exact hsub _ _ es
        · subst hb
          dsimp only at h
          refine ⟨fr1, s1, I1, ?_⟩
          cases eg : g s1 with
          | no => rw [eg] at h; exact h.elim
          | ex y s2 => rw [eg] at h; exact h.elim
          | ok fl s2 =>
            rw [eg] at h
            cases fl with
            | nx => exact fun fr2 σ2 H2 I3 e3 => h fr2 _ H2 I3 (e1.trans e3)
            | bk => exact fun fr2 σ2 H2 I3 e3 => h fr2 _ H2 I3 (e1.trans e3)
            | ct => exact fun fr2 σ2 H2 I3 e3 => h fr2 _ H2 I3 (e1.trans e3)
            | rt v b => exact fun fr2 σ2 H2 v' I3 e3 r3 => h fr2 _ H2 v' I3 (e1.trans e3) r3
        · subst hb
          exact h fr1 σ1 H1 cls d I1 e1 r1
    | _ => exact h.elim
end
end Mi
end S_Mi15
section S_Mi16
set_option Elab.async false
set_option linter.all false
set_option maxRecDepth 100000
set_option maxHeartbeats 4000000
/-! isinstance of a caught exception; repr; what a call knows of the guards -/
namespace Mi
open PySem PySem.Spec PyProof.Rows L2
section
variable {X : Cx} {D : Stat} {lvl : Nat} {W : WX} {fr fr1 fr' : Fr} {H H1 H' : Hp} {fs s : Fs} {σ σ' : L2.St} {pos : Pos}
theorem call_isX : CallR X (.builtin "isinstance") (fun xs H Q => ∃ (a C : Addr) (c : V) (cv : Value) (b : Bool), xs = [.ref a, c] ∧ H a = some (ExH (.ref C) none a) ∧ ExcC X.K C ∧ (∀ u, RelV c u → u = cv) ∧ PySem.W.kitOne X.K (.ref C) cv = some b ∧ Q (.bl b) H) := by
  intro pins s σ H xs us Q I r h
  obtain ⟨a, C, c, cv, b, rfl, ha, hC, hcv, e, q⟩ := h
  cases r with
  | cons rx rr =>
    cases rr with
    | cons rt rr =>
      cases rr
      cases rx
      have ec := hcv _ rt
      subst ec
      obtain ⟨⟨oe, vs, hget, hz, hv⟩, _, _⟩ := I.hok a _ ha
      have J : PySem.W.InstAt s.heap a oe C none := by
        obtain ⟨oc, od, oda, osl⟩ := oe
        obtain ⟨h1, h2⟩ := hz
        dsimp only at h1 h2 hv
        subst h1 h2 hv
        exact ⟨hget, rfl, rfl, trivial⟩
      exact PySem.W.kia_one (PySem.W.handS_kitx_exc hC.hg hC.hk hC.hs hC.hd hC.ha hC.hn hC.ht hC.hm) I.kIn J e (fun z => nomatch z) fun tk => ⟨.bl b, H, I.kept (t' := tk) fun _ _ z => z, rfl, q⟩
def fIsx (fo : M Loc) (sub : Nat → Option Bool) : M PV := M.bind fo fun l s => match rd s l with
  | some (.exc k []) => match sub k with
    | some b => .ok (.bl b) s
    | none => .no
  | _ => .no
theorem se_isx {e : Expr} {p p2 : Pos} {y : Str} {fo : M Loc} {sub : Nat → Option Bool} {c : V} {cv : Value} (hsub : ∀ k b, sub k = some b → ExcC X.K (D.ca k) ∧ PySem.W.kitOne X.K (.ref (D.ca k)) cv = some b) (hg : Gl X "isinstance") (hm : X.mg "isinstance" = none)
    (hy : PE X (.Name y p2) (tC c)) (hcv : ∀ u, RelV c u → u = cv) (he : PE X e (tO D lvl W fo))
    (hs : starEach [e, .Name y p2] X.env = (false, eval e X.env) :: starEach [.Name y p2] X.env := by rfl) (hs2 : starEach [.Name y p2] X.env = (false, eval (.Name y p2) X.env) :: starEach [] X.env := by rfl)
    (hpl : (backTo pos (starEach [.Name y p2] X.env)).any (·.1) = false := by rfl) : PE X (.Call (.Name "isinstance" p) [e, .Name y p2] [] pos) (tE D lvl W (fIsx fo sub)) := by
  refine PE.imp (pe_callB call_isX hg hm boot_isinstance (pa_cons he (pa_cons hy pa_nil hs2) hs) (by decide) (by decide) hs hpl) ?_
  rintro σ H Q ⟨fr, fs, I, h⟩
  refine nextO I h fun l s fr1 H1 v I1 e1 r1 h1 => ?_
  cases hx : rd s l with
  | none => rw [hx] at h1; exact h1.elim
  | some x =>
    rw [hx] at h1
    cases x with
    | exc k xs =>
      cases xs with
      | nil =>
        dsimp only at h1
        cases es : sub k with
        | none => rw [es] at h1; exact h1.elim
        | some b =>
          rw [es] at h1
          obtain ⟨h2, h3⟩ := hsub k b es
          have n := rd_now I1 r1 hx
          rcases n with r | ⟨a, o, rfl, q1, q2⟩
          · cases r with
            | con _ _ k => cases k
            | exc0 g1 g2 => exact ⟨_, _, c, cv, b, rfl, g2, h2, hcv, h3, h1 fr1 H1 _ I1 e1 (.bl _)⟩
          · cases q2
      | cons _ _ => exact h1.elim
    | _ => exact h1.elim
/-- the name of an own class, of a built-in one -/
theorem nm_own {y : Str} {p2 : Pos} {c : Nat} (hg : Gl X y) (hm : X.mg y = some (.ref (D.ca c))) (hd : (y == ("__debug__" : Str)) = false := by decide) : PE X (.Name y p2) (tC (.ref (D.ca c))) := pe_glob hg hm rfl hd
theorem rv_ref {a : Addr} : ∀ u, RelV (.ref a) u → u = .ref a := fun _ h => h
theorem rv_ty {t : String} : ∀ u, RelV (.ty t) u → u = .type t := fun _ h => h

/-! ### repr -/
theorem call_repr (hg : X.A.guards = some []) (hu : X.A.units + 65 < cLine) : CallR X (.builtin "repr") (fun xs H Q => ∃ x d, xs = [x] ∧ Dp X.K H x d ∧ d.showable = true ∧ d.hasDict = false ∧ d.depth ≤ 62 ∧ d.shown.length ≤ sizeLine ∧ Q (.str d.shown) H) := by
  intro pins s σ H xs us Q I r h
  obtain ⟨x, d, rfl, hd, hs, hnd, hdp, hl, q⟩ := h
  obtain ⟨u, rfl, rx⟩ := vals1 r
  obtain ⟨as, rd⟩ := Dp.reads I d x u hd rx
  have fin : ∀ (h' : Heap) (t : Tok) (tk : Nat), (∀ b o, s.heap.get? b = some o → h'.get? b = some o) → EP X pins σ Q (.str d.shown t) { s with heap := h', toks := tk } := fun h' t tk k => ⟨.str d.shown, H, I.kept (t' := tk) k, ⟨t, rfl⟩, q⟩
  cases rd with
  | none => exact PySem.P.repr_of_none (by have := fin s.heap s.toks (s.toks + 1) (fun _ _ e => e); rw [PyData.shown_none] at this; exact this)
  | bool b => exact PySem.P.repr_of_bool (by have := fin s.heap s.toks (s.toks + 1) (fun _ _ e => e); rw [PyData.shown_bool] at this; exact this)
  | int i t => exact PySem.P.repr_of_int (of_decide_eq_true hs) (by have := fin s.heap s.toks (s.toks + 1) (fun _ _ e => e); rw [PyData.shown_int] at this; exact this)
  | str z t => exact PySem.P.repr_of_str (by have := fin s.heap s.toks (s.toks + 1) (fun _ _ e => e); rw [PyData.shown_str] at this; exact this) (by rw [PyData.shown_str] at hl; exact hl)
  | list h1 h2 h3 h4 => exact repr_of_reads' (.list h1 h2 h3 h4) hs (PyData.noDict_hsm hnd) hg (by omega) (fun _ _ e => e) (fun h' u tk k => fin h' u tk k) hl
  | tuple h1 h2 h3 h4 => exact repr_of_reads' (.tuple h1 h2 h3 h4) hs (PyData.noDict_hsm hnd) hg (by omega) (fun _ _ e => e) (fun h' u tk k => fin h' u tk k) hl
  | dict h1 h2 h3 h4 h5 => simp only [PyData.hasDict] at hnd; cases hnd
def reprS (x : PV) : S := (pd x).shown.cps.toList
def reprP : List PV → Option PV
  | [x] => if data 60 x = true ∧ (pd x).showable = true ∧ okS (reprS x) = true then some (.str (reprS x)) else none
  | _ => none
theorem cs_repr (hg : X.A.guards = some []) (hu : X.A.units + 65 < cLine) : CallS X D (.builtin "repr") reprP := by
  refine ⟨_, call_repr hg hu, fun lvl fr fs σ H xs vs z Q I r hz k => ?_⟩
  unfold reprP at hz
  split at hz
  · rename_i x
    split at hz
    · rename_i h
      cases hz
      obtain ⟨v, rfl, n⟩ := r.one
      have e : strOf (reprS x) = (pd x).shown := by
        unfold reprS strOf
        simp
      refine ⟨v, pd x, rfl, n.dp h.1, h.2.1, PyData.hasDict_of_canLay _ (n.lay h.1), Nat.le_trans (depth_pd 60 x h.1) (by decide), ?_, ?_⟩
      · have := okS_len h.2.2
        rw [← e]
        exact this
      · rw [← e]
        exact k fr H _ I .refl (.str h.2.2)
    · cases hz
  · cases hz
theorem boot_repr : bootBuiltins "repr" = some (.builtin "repr") := by decide +kernel
/-! ### list.count -/
theorem mt_countD (hu : X.A.units + 65 < cLine) : MtR X "list.count" (fun x xs H Q => ∃ y d ds, xs = [y] ∧ Dp X.K H x (.list ds) ∧ Dp X.K H y d ∧ SeqAt.shaped (.list ds) = true ∧ SeqAt.shaped d = true ∧ Q (.int (ds.countP fun z => PyData.eqv z d : Nat)) H) := by
  intro pins s σ H x xs v us Q I rx rxs h
  obtain ⟨y, d, ds, rfl, hl, hy, sl, sd, q⟩ := h
  obtain ⟨uy, rfl, ry⟩ := rxs.one
  obtain ⟨bs, r1⟩ := Dp.reads I d y uy hy ry
  have hxs : PyData.canLayAll0 ds = true := SeqAt.canLay_of_shaped sl
  have hroom : X.A.units + 1 + min (PyData.depthAll ds) d.depth < cLine := room_in_shaped sd hu
  cases hl with
  | lst hs ha =>
    cases rx
    obtain ⟨its, rv, ⟨⟨cls, dd, data, sls⟩, n, ho, hc, hdn, hdt⟩, hlen⟩ := I.list hs
    simp only at hc hdt
    subst hc hdt
    obtain ⟨as, h4⟩ := Dp.readsAll I ds _ its ha rv
    have hmap : its.map (SeqAt.readOf s.heap) = ds := SeqAt.readsAll_map ds its as hxs h4
    refine call_meets PySem.F.slot_list_count ⟨_, ho, rfl⟩ PySem.F.entry_list_count (PySem.F.args_list_count_2 _ _)
      (SeqAt.list_countAt _ its.toArray n dd sls uy (fun u => PyData.eqv (SeqAt.readOf s.heap u) d)) ⟨ho, SeqAt.items_eqAt (vs := its.toArray) (show ReadsAll s.heap its.toArray.toList ds as from h4) r1 hxs (SeqAt.canLay_of_shaped sd) hroom, ?_⟩
    refine ⟨.int (ds.countP fun z => PyData.eqv z d : Nat), H, I.tok _, ⟨s.toks, ?_⟩, q⟩
    rw [← hmap, List.countP_map]
    rfl
def countLP (x : PV) (xs : List PV) : Option PV := match x, xs with
  | .lst ys, [y] => if data 60 y = true ∧ ys.all (data 60) = true then some (.int (ys.countP fun z => eqv z y : Nat)) else none
  | _, _ => none
theorem count_pds {y : PV} (hy : data 60 y = true) : ∀ ys : List PV, ys.all (data 60) = true → (pds ys).countP (fun z => PyData.eqv z (pd y)) = ys.countP fun z => eqv z y
  | [], _ => rfl
  | x :: xs, h => by
    rw [List.all_cons, Bool.and_eq_true] at h
    show (pd x :: pds xs).countP _ = _
    rw [List.countP_cons, List.countP_cons, count_pds hy xs h.2, eqv_pd 60 60 x y h.1 hy]
theorem ms_countL (hu : X.A.units + 65 < cLine) : MtS' X D "list.count" countLP := by
  refine ⟨_, mt_countD hu, fun lvl fr fs σ H x v xs vs z Q I n r hz k => ?_⟩
  unfold countLP at hz
  split at hz
  · rename_i ys y
    split at hz
    · rename_i hd
      cases hz
      obtain ⟨w, rfl, n2⟩ := r.one
      have q1 := n.shaped (n := 61) (data_lst hd.2)
      have q2 := n2.shaped hd.1
      have q3 : Dp X.K H v (.list (pds ys)) := n.dp (n := 61) (data_lst hd.2)
      have q4 : Dp X.K H w (pd y) := n2.dp hd.1
      refine ⟨w, pd y, pds ys, rfl, q3, q4, q1, q2, ?_⟩
      rw [count_pds hd.1 ys hd.2]
      exact k fr H _ I .refl (.int _)
    · cases hz
  · cases hz
end
end Mi
end S_Mi16
section S_Mi17
set_option Elab.async false
set_option linter.all false
set_option maxRecDepth 100000
set_option maxHeartbeats 4000000
/-! the law's end, from a promise where nothing guards -/
namespace Mi
open PySem PySem.Spec PyProof.Rows L2
theorem glaw_call {P : Program} {w : World} {K : PySem.W.Frag} {mg mb : Str → Option Value} {CX : CXT} {k : Nat} {fa a : Addr} {fd : FuncData} {x : Str} {sp : Sp} {s₁ : Shared} {vs : List Value} {ns : List Int}
    (KX : K.In s₁.heap) (hns : s₁.heap.Ns mainGlobals mg) (hb : s₁.heap.Ns builtinsNs mb) (hbb : ∀ x : Str, x ≠ "__name__" → mb x = bootBuiltins x) (hlim : s₁.heap.NoLimit) (hg : s₁.gens = #[])
    (ha : s₁.heap.get? a = some { cls := .type "list", data := .seq vs.toArray }) (hi : IntsAre vs ns) (hl : ns.length ≤ sizeLine) (hr : Room k callerA)
    (F : ∀ base : Heap, K.In base → base.Ns mainGlobals mg → GOk P w K mg base CX k fa fd [x] sp) (hbind : ∀ (s : Shared) (u : Value), BindsTo s fd ⟨[u], []⟩ [(x, u)])
    (hsp : ∀ H : Hp, Only H → SqL K H a (ns.map V.int) → sp [.ref a] H (fun v _ => v = .bl true) fun _ _ _ => False)
    (hCX : ∀ H e s', CX [] H s₁ (fun _ _ _ => False) e s' → False) :
    codeAny (model P w) callerA (.call (.ref fa) ⟨[.ref a], []⟩) (fun r s' => r = .ok (.ret (.bool true)) ∧ OldK s₁.heap s'.heap ∧ s'.os = s₁.os ∧ AllBare s'.gens) s₁ := by
  have rv := vals_ints hi
  have lenV := hi.length
  have core : ∀ H : Hp, Only H → SqL K H a (ns.map V.int) → HOk P w H s₁.heap → (∀ b, H b ≠ none → b = a) → (H a ≠ none → K.lookup a = none) →
      codeAny (model P w) callerA (.call (.ref fa) ⟨[.ref a], []⟩) (fun r s' => r = .ok (.ret (.bool true)) ∧ OldK s₁.heap s'.heap ∧ s'.os = s₁.os ∧ AllBare s'.gens) s₁ := by
    intro H hO hS hok hA hK
    have only : ∀ {b : Addr}, b ≠ a → H b = none := fun {b} hne => Classical.byContradiction fun z => hne (hA b z)
    have dictFree : ∀ {b : Addr} {o : Obj} {es : Array DictEntry} {ep : Nat}, s₁.heap.get? b = some o → o.data = .dict es ep → H b = none := fun {b o es ep} e d => only fun z => by
      subst z
      rw [ha] at e; cases e
      have d' : Data.seq vs.toArray _ = Data.dict es ep := d
      cases d'
    have ns' : ∀ {b : Addr} {m : Str → Option Value}, s₁.heap.Ns b m → (hidT s₁.heap H).Ns b m := fun {b m} ⟨o, es, ep, e, d, r⟩ => ⟨o, es, ep, hidT_get e (dictFree e d), d, r⟩
    have kin : K.In (hidT s₁.heap H) := fun b o e => hidT_get (KX b o e) (Classical.byContradiction fun z => by
      have hba := hA b z
      subst hba
      rw [hK z] at e; cases e)
    have lim' : (hidT s₁.heap H).NoLimit := by
      obtain ⟨mc, h1, h2⟩ := hlim
      exact ⟨mc, ns' h1, h2⟩
    have e0 : Env0 P w K mg (hidT s₁.heap H) callerA [] s₁ H := ⟨rfl, ⟨kin, ns' hns, ⟨mb, ns' hb, hbb⟩, lim'⟩, fun b o e => of_hidT e, Nat.le_of_eq (hidT_size _ _), trivial, fun b hb => absurd (show b ∈ ([] : List Addr) from hb) (by simp), hok, .of_eq hg⟩
    refine codeAny_mono ((F _ kin (ns' hns)).run callerA [] s₁ H ⟨[.ref a], []⟩ [.ref a] [.ref a] _ _ hr rfl e0 (hbind s₁ (.ref a)) (.cons rfl .nil) (hsp H hO hS)) fun r s' h => ?_
    cases r with
    | error e => exact (hCX H e s' h).elim
    | ok fl =>
      cases fl with
      | ret u =>
        obtain ⟨v, H', os, bare, un, hok', r', q⟩ := h
        have q' : v = .bl true := q
        subst q'
        obtain rfl : u = Value.bool true := r'
        refine ⟨rfl, OldK.of_keep fun b o e => ?_, os, bare⟩
        cases q : H b with
        | none => exact un.keep b o e q (by intro z; exact absurd (show b ∈ ([] : List Addr) from z) (by simp)) (by simp)
        | some u =>
          rcases hO b with z | ⟨ob, xs, z⟩
          · rw [q] at z; cases z
          · obtain ⟨e1, _⟩ := hok b _ z
            obtain ⟨e2, _⟩ := hok' b _ (un.frzs b ob _ z)
            rw [e] at e1; cases e1
            exact e2
      | next => exact False.elim h
      | brk => exact False.elim h
      | cont => exact False.elim h
  cases hk : K.lookup a with
  | some o =>
    have e := KX a o hk
    rw [ha] at e
    cases e
    exact core (fun _ => none) (fun _ => .inl rfl) (.inr ⟨_, vs.toArray, _, hk, rfl, rfl, rfl, by rw [List.size_toArray, lenV]; exact hl, by simpa using rv⟩) (fun b u z => by have z' : (none : Option HO) = some u := z; cases z') (fun b z => absurd rfl z) fun z => absurd rfl z
  | none =>
    let Hs : Hp := upd (fun _ => none) a (.frz { cls := .type "list", data := .seq vs.toArray } (.lst (ns.map V.int)))
    have at_a : Hs a = some (.frz { cls := .type "list", data := .seq vs.toArray } (.lst (ns.map V.int))) := upd_same
    have off : ∀ {b : Addr}, b ≠ a → Hs b = none := fun {b} h => upd_ne h
    refine core Hs (fun b => ?_) (.inl (.inr ⟨_, at_a⟩)) (fun b u z => ?_) (fun b z => Classical.byContradiction fun h => z (off h)) fun _ => hk
    · by_cases hb : b = a
      · exact .inr ⟨_, _, by rw [hb]; exact at_a⟩
      · exact .inl (off hb)
    · by_cases hb : b = a
      · subst hb
        rw [at_a] at z
        cases z
        exact ⟨ha, by rw [List.length_map]; exact hl, vs, _, rv, ha⟩
      · rw [off hb] at z; cases z
theorem walk_w {l : PySem.W.OpenLaw} {n k : Nat} {q : Program} {loose : List Str} {XP : (Str → Option Value) → Heap → Prop} {YP : World → Heap → Prop} {d : DefRec} {CX : World → CXT} {x : Str}
    (hn : l.most = some n) (hn2 : n ≤ sizeLine) (hdf : d.params.defaults = []) (hr : Room k callerA)
    (F : ∀ (w : World) (mg : Str → Option Value) (fa : Addr) (h : Heap), YP w h → h.Ns mainGlobals mg → mg d.name = some (.ref fa) →
      ∃ (K : PySem.W.Frag) (fd : FuncData) (sp : Sp), K.In h ∧ (∀ (s : Shared) (u : Value), BindsTo s fd ⟨[u], []⟩ [(x, u)]) ∧
        (∀ (H : Hp) (a : Addr) (ns : List Int), ns.length ≤ n → Only H → SqL K H a (ns.map V.int) → sp [.ref a] H (fun v _ => v = .bl true) fun _ _ _ => False) ∧
        ∀ base : Heap, K.In base → base.Ns mainGlobals mg → GOk l.prog w K mg base (CX w) k fa fd [x] sp)
    (hCX : ∀ (w : World) (H : Hp) (s : Shared) (e : Value) (s' : Shared), CX w [] H s (fun _ _ _ => False) e s' → False) :
    PySem.W.WalkO q loose XP YP l.row.toRowW d [] (fun f vs => PySem.call f vs) := by
  refine Att.attach_call hn hdf fun w s₀ s₁ mg mb fa o pm cd doc a vs ns G Y ho hd hcd hmg hobj hints hlen hg => ?_
  obtain ⟨K, fd, sp, KX, hb, hsp, hF⟩ := F w mg fa _ Y G.T.g hmg
  exact glaw_call KX G.T.g G.T.b G.T.builtins G.T.nolimit hg hobj hints (Nat.le_trans hlen hn2) hr hF hb (fun H hO hS => hsp H a ns hlen hO hS) fun H e s' => hCX w H s₁ e s'
theorem cx_none {P : Program} {w : World} {H : Hp} {s : Shared} {e : Value} {s' : Shared} (z : L2.CX P w [] H s (fun _ _ _ => False) e s') : False := by
  obtain ⟨_, _, _, _, _, _, _, _, _, _, _, _, hE⟩ := z
  exact hE
end Mi
end S_Mi17
section S_Mi18
set_option Elab.async false
set_option linter.all false
set_option maxRecDepth 100000
set_option maxHeartbeats 4000000
/-! own error classes: who is whose -/
namespace Mi
open PySem PySem.Spec PyProof.Rows L2
def excCB (K : PySem.W.Frag) (D : Addr) : Bool :=
  decide (PySem.W.findIn K (.ref D) "__getattribute__" = some (some (.builtin "BaseException.__getattribute__"))) && (decide (PySem.W.findIn K (.ref D) "__getattr__" = some none) && (decide (PySem.W.subIn K (.ref D) (.type "BaseException") = some true) &&
  (PySem.W.hasDictIn K D && (decide (PySem.W.findIn K (.ref D) "__class__" = some (some (.builtin "object.__class__"))) && (decide (PySem.W.specialIn K (.builtin "object.__class__") "__get__" = some (some (.builtin "getset_descriptor.__get__"))) &&
  (decide (PySem.W.takesIn K (.builtin "object.__class__") = some true) && decide (PySem.W.mroIn K D (.type "object") = some true)))))))
theorem excC_of {K : PySem.W.Frag} {D : Addr} (h : excCB K D = true) : ExcC K D := by
  unfold excCB at h
  simp only [Bool.and_eq_true, decide_eq_true_eq] at h
  obtain ⟨h1, h2, h3, h4, h5, h6, h7, h8⟩ := h
  exact ⟨h1, h2, h3, h4, h5, h6, h7, h8⟩
def chkX (K : PySem.W.Frag) (ca : Nat → Addr) (anc : Nat → List Nat) (ks : List Nat) : Bool :=
  ks.all fun k => excCB K (ca k) && (decide (PySem.W.kitOne K (.ref (ca k)) (.type "ValueError") = some true) &&
    ks.all fun y => decide (PySem.W.kitOne K (.ref (ca k)) (.ref (ca y)) = some ((anc k).contains y)) && decide (PySem.W.exmOne K (.ref (ca k)) (.ref (ca y)) = some ((anc k).contains y)))
def isX (anc : Nat → List Nat) (ks : List Nat) (y k : Nat) : Option Bool := if ks.contains k && ks.contains y then some ((anc k).contains y) else none
def isV (ks : List Nat) (k : Nat) : Option Bool := if ks.contains k then some true else none
section
variable {K : PySem.W.Frag} {ca : Nat → Addr} {anc : Nat → List Nat} {ks : List Nat} {y : Nat}
theorem isx_of (c : chkX K ca anc ks = true) : ∀ k b, isX anc ks y k = some b → ExcC K (ca k) ∧ PySem.W.kitOne K (.ref (ca k)) (.ref (ca y)) = some b := fun k b h => by
  unfold isX at h
  split at h
  · rename_i hk
    simp only [Bool.and_eq_true, List.contains_iff_mem] at hk
    cases h
    have q := List.all_eq_true.mp c k hk.1
    simp only [Bool.and_eq_true, decide_eq_true_eq] at q
    have q2 := List.all_eq_true.mp q.2.2 y hk.2
    simp only [Bool.and_eq_true, decide_eq_true_eq] at q2
    exact ⟨excC_of q.1, q2.1⟩
  · cases h
theorem exm_of (c : chkX K ca anc ks = true) : ∀ k b, isX anc ks y k = some b → PySem.W.exmOne K (.ref (ca k)) (.ref (ca y)) = some b := fun k b h => by
  unfold isX at h
  split at h
  · rename_i hk
    simp only [Bool.and_eq_true, List.contains_iff_mem] at hk
    cases h
    have q := List.all_eq_true.mp c k hk.1
    simp only [Bool.and_eq_true, decide_eq_true_eq] at q
    have q2 := List.all_eq_true.mp q.2.2 y hk.2
    simp only [Bool.and_eq_true, decide_eq_true_eq] at q2
    exact q2.2
  · cases h
theorem isv_of (c : chkX K ca anc ks = true) : ∀ k b, isV ks k = some b → ExcC K (ca k) ∧ PySem.W.kitOne K (.ref (ca k)) (.type "ValueError") = some b := fun k b h => by
  unfold isV at h
  split at h
  · rename_i hk
    simp only [List.contains_iff_mem] at hk
    cases h
    have q := List.all_eq_true.mp c k hk
    simp only [Bool.and_eq_true, decide_eq_true_eq] at q
    exact ⟨excC_of q.1, q.2.1⟩
  · cases h
end
theorem boot_VE : bootBuiltins "ValueError" = some (.type "ValueError") := by decide +kernel
/-! ### min and max of two ints, tuple(..), list of a text -/
section
variable {X : Cx} {D : Stat} {lvl : Nat} {W : WX} {fr fr1 fr' : Fr} {H H1 H' : Hp} {fs s : Fs} {σ σ' : L2.St} {pos : Pos}
def min2P : List PV → Option PV
  | [.int i, .int j] => some (.int (if j < i then j else i))
  | _ => none
def max2P : List PV → Option PV
  | [.int i, .int j] => some (.int (if j > i then j else i))
  | _ => none
theorem cs_min2 (hc : X.calm = true) : CallS X D (.builtin "min") min2P := by
  refine ⟨_, call_min2 hc, fun lvl fr fs σ H xs vs z Q I r hz k => ?_⟩
  unfold min2P at hz
  split at hz
  · cases hz
    obtain ⟨v, w, rfl, n1, n2⟩ := r.two
    rw [n1.int, n2.int]
    exact ⟨_, _, rfl, k fr H _ I .refl (.int _)⟩
  · cases hz
theorem cs_max2 (hc : X.calm = true) : CallS X D (.builtin "max") max2P := by
  refine ⟨_, call_max2 hc, fun lvl fr fs σ H xs vs z Q I r hz k => ?_⟩
  unfold max2P at hz
  split at hz
  · cases hz
    obtain ⟨v, w, rfl, n1, n2⟩ := r.two
    rw [n1.int, n2.int]
    exact ⟨_, _, rfl, k fr H _ I .refl (.int _)⟩
  · cases hz
theorem boot_min : bootBuiltins "min" = some (.builtin "min") := by decide +kernel
theorem boot_max : bootBuiltins "max" = some (.builtin "max") := by decide +kernel
end
end Mi
end S_Mi18
section S_Mi19
set_option Elab.async false
set_option linter.all false
set_option maxRecDepth 100000
set_option maxHeartbeats 4000000
/-! tuple(..), list(..) of a text; zip of any two in dict(..) -/
namespace Mi
open PySem PySem.Spec PyProof.Rows L2
section
variable {prog : Program} {w : World} {A : Around} {E : Value → Shared → Prop} {s : Shared} {z TI TO T i1 i2 : Addr} {fp1 fp2 : List Addr} {n1 n2 i : Nat} {P1 P2 : Nat → Value → Prop} {St1 St2 : Nat → Heap → Prop} {f : Bool} {oT : Obj}
theorem zipD_item_held {Q : Value → Shared → Prop} (S : ZipSep2 z TI TO i1 i2 fp1 fp2) (D1 : Draws prog w A i1 fp1 n1 P1 St1) (D2 : Draws prog w A i2 fp2 n2 P2 St2)
    (hz : IsZipHeld s.heap z TI TO T f) (hT : s.heap.get? T = some oT) (hTI : IsTupOf2 s.heap TI (.ref i1) (.ref i2)) (st1 : St1 i s.heap) (st2 : St2 i s.heap) (hlt1 : i < n1) (hlt2 : i < n2)
    (hQ : ∀ x1 x2 h' tk, P1 i x1 → P2 i x2 → IsZipHeld h' z TI TO T true → St1 (i + 1) h' → St2 (i + 1) h' → IsTupOf2 h' s.heap.objs.size x1 x2 → h'.objs.size = s.heap.objs.size + 1 →
      (∀ c o, c ≠ z → c ≠ i1 → c ≠ i2 → s.heap.get? c = some o → h'.get? c = some o) → Q (.ref s.heap.objs.size) { s with heap := h', toks := tk }) :
    wpAny (model prog w) A (Builtin.«zip.__next__» ⟨[.ref z], []⟩) (fun fin s' => ∃ v, fin = .done (.ret v) ∧ Q v s') E s := by
  obtain ⟨hp, g, d, tk0, os⟩ := s
  show wpAny _ _ (field (.ref z) 2 >>= _) _ _ _
  refine wpAny_bind (wpAny_field hz rfl (x := .bool false) rfl ?_)
  show wpAny _ _ (field (.ref z) 3 >>= _) _ _ _
  refine wpAny_bind (wpAny_field hz rfl (x := .ref TI) rfl ?_)
  refine wpAny_bind (wpAny_seqItems hTI rfl ?_)
  show wpAny _ _ (Builtin.SmallTypes.ownedTupleIsFree (.ref z) >>= _) _ _ _
  refine wpAny_bind (wpAny_tupleHeld_zip hz hT fun h₁ hz₁ hs₁ => ?_)
  replace hs₁ : Heap.SameBut z hp h₁ := hs₁
  simp only [Bool.false_eq_true, if_false]
  refine wpAny_bind ?_
  rw [← Array.forIn_toList]
  simp only [List.forIn_cons, List.forIn_nil]
  refine wpAny_bind (wpAny_bind (wpAny_holding ?_))
  show wpAny _ _ (Builtin.SmallTypes.nextOf (.ref i1) >>= _) _ _ _
  refine wpAny_bind (D1.item i ⟨h₁, g, d, tk0, os⟩ _ _ hlt1 (D1.over st1 hs₁ S.zf1) fun x1 h₂ tk2 p1 st1₂ hs₂ => wpAny_pure ?_)
  replace hs₂ : Heap.SameBut i1 h₁ h₂ := hs₂
  refine wpAny_pure ?_
  refine wpAny_bind (wpAny_bind (wpAny_holding ?_))
  show wpAny _ _ (Builtin.SmallTypes.nextOf (.ref i2) >>= _) _ _ _
  refine wpAny_bind (D2.item i ⟨h₂, g, d, tk2, os⟩ _ _ hlt2 (D2.over (D2.over st2 hs₁ S.zf2) hs₂ S.sep1_2) fun x2 h₃ tk3 p2 st2₃ hs₃ => wpAny_pure ?_)
  replace hs₃ : Heap.SameBut i2 h₂ h₃ := hs₃
  refine wpAny_pure (wpAny_pure ?_)
  show wpAny _ _ (newTuple [x1, x2] >>= _) _ _ ⟨h₃, g, d, tk3, os⟩
  refine wpAny_bind (wpAny_newTuple ?_)
  have hsz : h₃.objs.size = hp.objs.size := by rw [hs₃.1, hs₂.1, hs₁.1]
  have hz₃ : IsZipHeld h₃ z TI TO T true := hs₃.extBut _ _ S.zi2 (hs₂.extBut _ _ S.zi1 hz₁)
  have hk : ∀ c o, c ≠ z → c ≠ i1 → c ≠ i2 → hp.get? c = some o → h₃.get? c = some o := fun c o c1 c2 c3 e => hs₃.extBut _ _ c3 (hs₂.extBut _ _ c2 (hs₁.extBut _ _ c1 e))
  have st1₃ := D1.over st1₂ hs₃ S.sep2_1
  refine wpAny_pure ⟨_, rfl, ?_⟩
  show Q (.ref h₃.objs.size) _
  have hp' : IsTupOf2 (h₃.push { cls := .type "tuple", data := .seq #[x1, x2] }) h₃.objs.size x1 x2 := Heap.get?_push_size _ rfl
  have hz4 : (h₃.push { cls := .type "tuple", data := .seq #[x1, x2] }).objs.size = h₃.objs.size + 1 := Heap.size_push ..
  rw [hsz] at hp' hz4 ⊢
  exact hQ x1 x2 _ tk3 p1 p2 (Heap.get?_push_of_some _ hz₃) (D1.frame _ _ _ st1₃ fun b _ o e => Heap.get?_push_of_some _ e) (D2.frame _ _ _ st2₃ fun b _ o e => Heap.get?_push_of_some _ e) hp' hz4
    fun c o c1 c2 c3 e => Heap.get?_push_of_some _ (hk c o c1 c2 c3 e)
theorem zipD_end_held {Q : Fin → Shared → Prop} (S : ZipSep2 z TI TO i1 i2 fp1 fp2) (D1 : Draws prog w A i1 fp1 n1 P1 St1) (D2 : Draws prog w A i2 fp2 n2 P2 St2)
    (hz : IsZipHeld s.heap z TI TO T f) (hT : s.heap.get? T = some oT) (hTI : IsTupOf2 s.heap TI (.ref i1) (.ref i2)) (st1 : St1 i s.heap) (st2 : St2 i s.heap) (hle1 : i ≤ n1) (hle2 : i ≤ n2) (hend : i = n1 ∨ i = n2)
    (hE : ∀ h' tk e, (∀ c o, c ≠ z → c ≠ i1 → c ≠ i2 → s.heap.get? c = some o → h'.get? c = some o) → (∃ o, h'.get? e = some o ∧ o.cls = .type "StopIteration") → E (.ref e) { s with heap := h', toks := tk }) :
    wpAny (model prog w) A (Builtin.«zip.__next__» ⟨[.ref z], []⟩) Q E s := by
  obtain ⟨hp, g, d, tk0, os⟩ := s
  show wpAny _ _ (field (.ref z) 2 >>= _) _ _ _
  refine wpAny_bind (wpAny_field hz rfl (x := .bool false) rfl ?_)
  show wpAny _ _ (field (.ref z) 3 >>= _) _ _ _
  refine wpAny_bind (wpAny_field hz rfl (x := .ref TI) rfl ?_)
  refine wpAny_bind (wpAny_seqItems hTI rfl ?_)
  show wpAny _ _ (Builtin.SmallTypes.ownedTupleIsFree (.ref z) >>= _) _ _ _
  refine wpAny_bind (wpAny_tupleHeld_zip hz hT fun h₁ hz₁ hs₁ => ?_)
  replace hs₁ : Heap.SameBut z hp h₁ := hs₁
  simp only [Bool.false_eq_true, if_false]
  refine wpAny_bind ?_
  rw [← Array.forIn_toList]
  simp only [List.forIn_cons, List.forIn_nil]
  refine wpAny_bind (wpAny_bind (wpAny_holding ?_))
  show wpAny _ _ (Builtin.SmallTypes.nextOf (.ref i1) >>= _) _ _ _
  by_cases h1 : i = n1
  · subst h1
    exact wpAny_bind (D1.done ⟨h₁, g, d, tk0, os⟩ _ _ (D1.over st1 hs₁ S.zf1) fun h₂ e hs₂ he => hE h₂ tk0 e (fun c o c1 c2 _ x => hs₂ _ _ c2 (hs₁.extBut _ _ c1 x)) he)
  · have h2 : i = n2 := hend.resolve_left h1
    subst h2
    refine wpAny_bind (D1.item i ⟨h₁, g, d, tk0, os⟩ _ _ (by omega) (D1.over st1 hs₁ S.zf1) fun x1 h₂ tk2 p1 st1₂ hs₂ => wpAny_pure ?_)
    replace hs₂ : Heap.SameBut i1 h₁ h₂ := hs₂
    refine wpAny_pure ?_
    refine wpAny_bind (wpAny_bind (wpAny_holding ?_))
    show wpAny _ _ (Builtin.SmallTypes.nextOf (.ref i2) >>= _) _ _ _
    exact wpAny_bind (D2.done ⟨h₂, g, d, tk2, os⟩ _ _ (D2.over (D2.over st2 hs₁ S.zf2) hs₂ S.sep1_2) fun h₃ e hs₃ he => hE h₃ tk2 e (fun c o c1 c2 c3 x => hs₃ _ _ c3 (hs₂.extBut _ _ c2 (hs₁.extBut _ _ c1 x))) he)
theorem pyNext_zipD_item_held {Q : Option Value → Shared → Prop} (S : ZipSep2 z TI TO i1 i2 fp1 fp2) (D1 : Draws prog w A.in1 i1 fp1 n1 P1 St1) (D2 : Draws prog w A.in1 i2 fp2 n2 P2 St2)
    (hz : IsZipHeld s.heap z TI TO T f) (hT : s.heap.get? T = some oT) (hTI : IsTupOf2 s.heap TI (.ref i1) (.ref i2)) (st1 : St1 i s.heap) (st2 : St2 i s.heap) (hlt1 : i < n1) (hlt2 : i < n2)
    (hQ : ∀ x1 x2 h' tk, P1 i x1 → P2 i x2 → IsZipHeld h' z TI TO T true → St1 (i + 1) h' → St2 (i + 1) h' → IsTupOf2 h' s.heap.objs.size x1 x2 → h'.objs.size = s.heap.objs.size + 1 →
      (∀ c o, c ≠ z → c ≠ i1 → c ≠ i2 → s.heap.get? c = some o → h'.get? c = some o) → Q (some (.ref s.heap.objs.size)) { s with heap := h', toks := tk }) :
    wpAny (model prog w) A (pyNext (.ref z)) Q E s := by
  have hT' : s.TypeIs (.ref z) "zip" := ⟨_, hz, rfl⟩
  unfold pyNext
  exact wpAny_bind (wpAny_attempt (wpAny_callSpecial?_slot (name := Str.ofString "__next__") hT' F.slot_zip_next
    (wpAny_call_entry F.slot_zip_next hT' F.entry_zip_next
      (zipD_item_held S D1 D2 hz hT hTI st1 st2 hlt1 hlt2 fun x1 x2 h' tk y1 y2 b1 d1 d2 b5 b6 b7 => wpAny_pure (hQ x1 x2 h' tk y1 y2 b1 d1 d2 b5 b6 b7)) (F.args_zip_next_1 _))))
theorem pyNext_zipD_end_held {Q : Option Value → Shared → Prop} (S : ZipSep2 z TI TO i1 i2 fp1 fp2) (D1 : Draws prog w A.in1 i1 fp1 n1 P1 St1) (D2 : Draws prog w A.in1 i2 fp2 n2 P2 St2)
    (hz : IsZipHeld s.heap z TI TO T f) (hT : s.heap.get? T = some oT) (hTI : IsTupOf2 s.heap TI (.ref i1) (.ref i2)) (st1 : St1 i s.heap) (st2 : St2 i s.heap) (hle1 : i ≤ n1) (hle2 : i ≤ n2) (hend : i = n1 ∨ i = n2)
    (hQ : ∀ h' tk, (∀ c o, c ≠ z → c ≠ i1 → c ≠ i2 → s.heap.get? c = some o → h'.get? c = some o) → Q none { s with heap := h', toks := tk }) : wpAny (model prog w) A (pyNext (.ref z)) Q E s := by
  have hT' : s.TypeIs (.ref z) "zip" := ⟨_, hz, rfl⟩
  unfold pyNext
  refine wpAny_bind (wpAny_attempt (wpAny_callSpecial?_slot (name := Str.ofString "__next__") hT' F.slot_zip_next
    (wpAny_call_entry F.slot_zip_next hT' F.entry_zip_next (zipD_end_held S D1 D2 hz hT hTI st1 st2 hle1 hle2 hend fun h' tk e hk he => ?_) (F.args_zip_next_1 _))))
  obtain ⟨o, ho, hc⟩ := he
  refine wpAny_bind (wpAny_isInstance (T := "StopIteration") (b := true) ⟨o, ho, hc⟩ isSubtype_stop ?_)
  exact wpAny_pure (hQ _ _ hk)
end
/-- an iterator's cells, wherever it is asked -/
structure DrawsA (prog : Program) (w : World) (it : Addr) (fp : List Addr) (n : Nat) (P : Nat → Value → Prop) (St : Nat → Heap → Prop) : Prop where
  dr : ∀ A : Around, A.handled = none → Draws prog w A it fp n P St
  mem : it ∈ fp
  there : ∀ i h, St i h → ∀ b ∈ fp, ∃ o, h.get? b = some o
theorem pairArg_zipD {prog : Program} {w : World} {z TI TO i1 i2 : Addr} {fp1 fp2 : List Addr} {n1 n2 : Nat} {P1 P2 : Nat → Value → Prop} {St1 St2 : Nat → Heap → Prop} (S : ZipSep2 z TI TO i1 i2 fp1 fp2)
    (D1 : DrawsA prog w i1 fp1 n1 P1 St1) (D2 : DrawsA prog w i2 fp2 n2 P2 St2) :
    PairArg prog w "zip" z (z :: TI :: TO :: (fp1 ++ fp2)) [z, TO, i1, i2] (min n1 n2) (fun i k v => P1 i k ∧ P2 i v)
      (fun h => IsZip h z TI TO .none ∧ IsTupOf2 h TI (.ref i1) (.ref i2) ∧ (∃ a b, IsTupOf2 h TO a b) ∧ St1 0 h ∧ St2 0 h) where
  type := fun s ok => ⟨_, ok.1, rfl⟩
  notDict := by decide
  keep := fun h h' ok hk => by
    obtain ⟨hz, hTI, ⟨a, b, hTO⟩, h1, h2⟩ := ok
    exact ⟨hk _ _ hz, hk _ _ hTI, ⟨a, b, hk _ _ hTO⟩, (D1.dr { } rfl).frame _ _ _ h1 fun b _ o e => hk _ o e, (D2.dr { } rfl).frame _ _ _ h2 fun b _ o e => hk _ o e⟩
  there := fun h ok b hb => by
    obtain ⟨hz, hTI, ⟨a, c, hTO⟩, h1, h2⟩ := ok
    rcases List.mem_cons.mp hb with rfl | hb
    · exact ⟨_, hz⟩
    rcases List.mem_cons.mp hb with rfl | hb
    · exact ⟨_, hTI⟩
    rcases List.mem_cons.mp hb with rfl | hb
    · exact ⟨_, hTO⟩
    rcases List.mem_append.mp hb with hb | hb
    · exact D1.there _ _ h1 b hb
    · exact D2.there _ _ h2 b hb
  sub := fun c hc => by
    have hc' : c = z ∨ c = TO ∨ c = i1 ∨ c = i2 := by simpa using hc
    rcases hc' with rfl | rfl | rfl | rfl
    · exact List.mem_cons_self ..
    · exact List.mem_cons_of_mem _ (List.mem_cons_of_mem _ (List.mem_cons_self ..))
    · exact List.mem_cons_of_mem _ (List.mem_cons_of_mem _ (List.mem_cons_of_mem _ (List.mem_append_left _ S.mem1)))
    · exact List.mem_cons_of_mem _ (List.mem_cons_of_mem _ (List.mem_cons_of_mem _ (List.mem_append_right _ S.mem2)))
  noKeys := fun A s Q E hA ok h => getAttrOr_miss_zip ok.1 rfl rfl rfl zip_no_keys (by decide +kernel) hA h
  iter := fun A s d Q E hA ok hd hdf h => by
    obtain ⟨hz, hTI, ⟨a, b, hTO⟩, h1, h2⟩ := ok
    simp only [List.mem_cons, List.mem_append, not_or] at hdf
    obtain ⟨dz, dTI, dTO, d1, d2⟩ := hdf
    have C1 := D1.dr A.in1 hA
    have C2 := D2.dr A.in1 hA
    refine wpAny_pyIter_zip hz (h z [z, TO, i1, i2] (fun i h => IsTupOf2 h TI (.ref i1) (.ref i2) ∧ St1 i h ∧ St2 i h ∧
      ((IsZip h z TI TO .none ∧ ∃ a b, IsTupOf2 h TO a b) ∨ ∃ T f oT, IsZipHeld h z TI TO T f ∧ h.get? T = some oT ∧ T ≠ z ∧ T ≠ i1 ∧ T ≠ i2 ∧ T ≠ d)) s.heap s.toks ?_
      ⟨hTI, h1, h2, .inl ⟨hz, a, b, hTO⟩⟩ (fun _ _ e => e) fun b hb => .inl hb)
    exact {
      off := fun hm => by
        have hm' : d = z ∨ d = TO ∨ d = i1 ∨ d = i2 := by simpa using hm
        rcases hm' with e | e | e | e
        · exact dz e
        · exact dTO e
        · exact d1 (e ▸ S.mem1)
        · exact d2 (e ▸ S.mem2)
      frame := fun i h₁ h₂ st hk => by
        obtain ⟨hTI, h1, h2, hz⟩ := st
        refine ⟨hk _ _ (Ne.symm dTI) hTI, C1.frame _ _ _ h1 fun b hb o e => hk b o (fun q => d1 (q ▸ hb)) e, C2.frame _ _ _ h2 fun b hb o e => hk b o (fun q => d2 (q ▸ hb)) e, ?_⟩
        rcases hz with ⟨hz, a, b, hTO⟩ | ⟨T, f, oT, hz, hT, r1, r2, r3, r4⟩
        · exact .inl ⟨hk _ _ (Ne.symm dz) hz, a, b, hk _ _ (Ne.symm dTO) hTO⟩
        · exact .inr ⟨T, f, oT, hk _ _ (Ne.symm dz) hz, hk _ _ r4 hT, r1, r2, r3, r4⟩
      item := fun i s₁ Q₁ E₁ hi st hds hQ => by
        obtain ⟨hTI, h1, h2, hz⟩ := st
        have hi1 : i < n1 := by omega
        have hi2 : i < n2 := by omega
        have lt : ∀ {c o}, s₁.heap.get? c = some o → s₁.heap.objs.size ≠ c := fun e => Nat.ne_of_gt (Heap.lt_size e)
        have m1 : s₁.heap.objs.size ≠ i1 := let ⟨_, e⟩ := C1.live _ _ h1; lt e
        have m2 : s₁.heap.objs.size ≠ i2 := let ⟨_, e⟩ := C2.live _ _ h2; lt e
        rcases hz with ⟨hz, a, b, hTO⟩ | ⟨T, f, oT, hz, hT, r1, r2, r3, r4⟩
        · refine wpAny_pyNext_zipD2_item S C1 C2 hz hTI hTO h1 h2 hi1 hi2 fun x1 x2 h' tk y1 y2 b1 b2 e1 e2 b5 b6 hk => ?_
          exact hQ s₁.heap.objs.size _ _ h' tk ⟨y1, y2⟩ (.inl ⟨_, b5, rfl, _, rfl⟩)
            ⟨hk _ _ S.TIz S.TITO S.TIi1 S.TIi2 hTI, e1, e2, .inr ⟨s₁.heap.objs.size, false, _, b1, b5, lt hz, m1, m2, Nat.ne_of_gt hds⟩⟩
            fun c o hc e => hk c o (fun x => hc (by simp [x])) (fun x => hc (by simp [x])) (fun x => hc (by simp [x])) (fun x => hc (by simp [x])) e
        · refine pyNext_zipD_item_held S C1 C2 hz hT hTI h1 h2 hi1 hi2 fun x1 x2 h' tk y1 y2 b1 e1 e2 b5 b6 hk => ?_
          exact hQ s₁.heap.objs.size _ _ h' tk ⟨y1, y2⟩ (.inl ⟨_, b5, rfl, _, rfl⟩)
            ⟨hk _ _ S.TIz S.TIi1 S.TIi2 hTI, e1, e2, .inr ⟨T, true, oT, b1, hk _ _ r1 r2 r3 hT, r1, r2, r3, r4⟩⟩
            fun c o hc e => hk c o (fun x => hc (by simp [x])) (fun x => hc (by simp [x])) (fun x => hc (by simp [x])) e
      done := fun s₁ Q₁ E₁ st hQ => by
        obtain ⟨hTI, h1, h2, hz⟩ := st
        rcases hz with ⟨hz, a, b, hTO⟩ | ⟨T, f, oT, hz, hT, r1, r2, r3, r4⟩
        · exact wpAny_pyNext_zipD2_end S C1 C2 hz hTI hTO h1 h2 (by omega) (by omega) (by omega) fun h' tk hk => hQ h' tk fun c o hc e =>
            hk c o (fun x => hc (by simp [x])) (fun x => hc (by simp [x])) (fun x => hc (by simp [x])) (fun x => hc (by simp [x])) e
        · exact pyNext_zipD_end_held S C1 C2 hz hT hTI h1 h2 (by omega) (by omega) (by omega) fun h' tk hk => hQ h' tk fun c o hc e =>
            hk c o (fun x => hc (by simp [x])) (fun x => hc (by simp [x])) (fun x => hc (by simp [x])) e }
end Mi
end S_Mi19
section S_Mi20
set_option Elab.async false
set_option linter.all false
set_option maxRecDepth 100000
set_option maxHeartbeats 4000000
namespace Mi
open PySem PySem.Spec PyProof.Rows L2
/-! ### dict(zip(a, b)) -/
def signs (z : Str) : List V := z.cps.toList.map fun c => V.str ⟨#[c]⟩
def SeqA (K : PySem.W.Frag) (H : Hp) (x : V) (xs : List V) : Prop := ∃ a, x = .ref a ∧ (SqL K H a xs ∨ SqT K H a xs)
def ItV (K : PySem.W.Frag) (H : Hp) (x : V) (xs : List V) : Prop := (∃ z : Str, x = .str z ∧ xs = signs z ∧ z.cps.size ≤ sizeLine) ∨ SeqA K H x xs
/-- a source of items, at a state -/
structure Src (prog : Program) (w : World) (h : Heap) (u : Value) (n : Nat) (P : Nat → Value → Prop) (o : Obj) (Hc : Heap → Prop) (fp : List Addr) : Prop where
  beg : Begins u o Hc
  ok : Hc h
  low : ∀ b ∈ fp, b < h.objs.size
  dr : ∀ it : Addr, it ∉ fp → ∃ St, DrawsA prog w it (it :: fp) n P St ∧ ∀ h' : Heap, h'.get? it = some o → Hc h' → St 0 h'
theorem Draws.imp {prog : Program} {w : World} {A : Around} {it : Addr} {fp : List Addr} {n : Nat} {P P' : Nat → Value → Prop} {St : Nat → Heap → Prop} (D : Draws prog w A it fp n P St) (h : ∀ i v, P i v → P' i v) : Draws prog w A it fp n P' St :=
  ⟨D.live, D.frame, fun i s Q E hi st hQ => D.item i s Q E hi st fun x h' tk p => hQ x h' tk (h i x p), D.done⟩
section
variable {prog : Program} {w : World} {h : Heap}
theorem src_list {a : Addr} {items : Array Value} (pl : h.IsList a items) : Src prog w h (.ref a) items.size (fun i v => items[i]? = some v) { cls := .type "list_iterator", data := .fields #[.ref a, .int 0 0] } (fun h => h.IsList a items) [a] where
  beg := begins_list a items
  ok := pl
  low := fun b hb => by
    rw [List.mem_singleton.mp hb]
    obtain ⟨o, ho, _⟩ := pl
    exact Heap.lt_size ho
  dr := fun it hit => ⟨_, ⟨fun A hA => Draws.list hA it a (fun e => hit (by simp [e])) items, List.mem_cons_self .., fun i h st b hb => by
    rcases List.mem_cons.mp hb with rfl | hb
    · obtain ⟨o, ho, _⟩ := st.1; exact ⟨o, ho⟩
    · rw [List.mem_singleton.mp hb]; obtain ⟨o, ho, _⟩ := st.2; exact ⟨o, ho⟩⟩, fun h' e c => ⟨⟨_, e, rfl, rfl⟩, c⟩⟩
theorem src_tup {a : Addr} {items : Array Value} (pl : h.IsTuple a items) : Src prog w h (.ref a) items.size (fun i v => items[i]? = some v) { cls := .type "tuple_iterator", data := .fields #[.ref a, .int 0 0] } (fun h => h.IsTuple a items) [a] where
  beg := begins_tuple a items
  ok := pl
  low := fun b hb => by
    rw [List.mem_singleton.mp hb]
    obtain ⟨o, ho, _⟩ := pl
    exact Heap.lt_size ho
  dr := fun it hit => ⟨_, ⟨fun A hA => Draws.tuple hA it a (fun e => hit (by simp [e])) items, List.mem_cons_self .., fun i h st b hb => by
    rcases List.mem_cons.mp hb with rfl | hb
    · obtain ⟨o, ho, _⟩ := st.1; exact ⟨o, ho⟩
    · rw [List.mem_singleton.mp hb]; obtain ⟨o, ho, _⟩ := st.2; exact ⟨o, ho⟩⟩, fun h' e c => ⟨⟨_, e, rfl, rfl⟩, c⟩⟩
theorem src_text (x : Str) (t : Tok) : Src prog w h (.str x t) x.cps.size (fun i v => ∃ c u, x.cps[i]? = some c ∧ v = .str ⟨#[c]⟩ u) { cls := .type (strIterType x), data := .fields #[.str x t, .int 0 0] } (fun _ => True) [] where
  beg := begins_text x t
  ok := trivial
  low := fun b hb => nomatch hb
  dr := fun it _ => ⟨_, ⟨fun A hA => Draws.text hA it x t, List.mem_cons_self .., fun i h st b hb => by
    rcases List.mem_cons.mp hb with rfl | hb
    · obtain ⟨o, ho, _⟩ := st; exact ⟨o, ho⟩
    · cases hb⟩, fun h' e _ => ⟨_, e, rfl, rfl⟩⟩
theorem Src.imp {u : Value} {n : Nat} {P P' : Nat → Value → Prop} {o : Obj} {Hc : Heap → Prop} {fp : List Addr} (S : Src prog w h u n P o Hc fp) (hp : ∀ i v, P i v → P' i v) : Src prog w h u n P' o Hc fp :=
  ⟨S.beg, S.ok, S.low, fun it hit => by
    obtain ⟨St, D, k⟩ := S.dr it hit
    exact ⟨St, ⟨fun A hA => Draws.imp (D.dr A hA) hp, D.mem, D.there⟩, k⟩⟩
end
section
variable {X : Cx} {pins : List (Addr × Obj)} {σ : L2.St} {H : Hp} {s : Shared}
theorem seqA_src (I : Inv X pins σ H s) {x : V} {xs : List V} {u : Value} (r : RelV x u) (h : SeqA X.K H x xs) : ∃ its o Hc fp, Vals xs its ∧ Src X.prog X.w s.heap u its.length (fun i v => its[i]? = some v) o Hc fp := by
  obtain ⟨a, rfl, h | h⟩ := h
  · obtain ⟨its, rv, pl, _⟩ := I.list h
    cases r
    have S := src_list (prog := X.prog) (w := X.w) pl.isList
    rw [List.size_toArray] at S
    exact ⟨its, _, _, _, rv, S.imp fun i v e => by simpa using e⟩
  · obtain ⟨its, rv, pl, _⟩ := I.tuple h
    cases r
    have S := src_tup (prog := X.prog) (w := X.w) pl
    rw [List.size_toArray] at S
    exact ⟨its, _, _, _, rv, S.imp fun i v e => by simpa using e⟩
theorem Vals.get {xs : List V} {its : List Value} (r : Vals xs its) {i : Nat} {v : Value} (e : its[i]? = some v) : ∃ y, xs[i]? = some y ∧ RelV y v := by
  induction r generalizing i with
  | nil => cases e
  | cons r t ih =>
    cases i with
    | zero => cases e; exact ⟨_, rfl, r⟩
    | succ i => exact ih e
theorem itV_src (I : Inv X pins σ H s) {x : V} {xs : List V} {u : Value} (r : RelV x u) (h : ItV X.K H x xs) : ∃ o Hc fp, Src X.prog X.w s.heap u xs.length (fun i v => ∃ y, xs[i]? = some y ∧ RelV y v) o Hc fp := by
  rcases h with ⟨z, rfl, rfl, _⟩ | h
  · obtain ⟨t, rfl⟩ := r
    have S := src_text (prog := X.prog) (w := X.w) (h := s.heap) z t
    have e : (signs z).length = z.cps.size := by unfold signs; rw [List.length_map, Array.length_toList]
    rw [← e] at S
    refine ⟨_, _, _, S.imp fun i v hv => ?_⟩
    obtain ⟨c, u', hc, rfl⟩ := hv
    refine ⟨.str ⟨#[c]⟩, ?_, u', rfl⟩
    unfold signs
    rw [List.getElem?_map, Array.getElem?_toList, hc]
    rfl
  · obtain ⟨its, o, Hc, fp, rv, S⟩ := seqA_src I r h
    rw [← rv.length] at S
    exact ⟨o, Hc, fp, S.imp fun i v e => Vals.get rv e⟩
def zipK (ks : List Key) (ys : List V) : List (Key × V) := (ks.zip ys).foldl (fun acc p => putK acc p.1 p.2) []
theorem kv_merged {ks : List Key} : ∀ {ys : List V} {its : List Value} {acc : List (Key × V)} {acc' : List (Key × Value)}, Vals ys its → KV acc acc' → KV ((ks.zip ys).foldl (fun acc p => putK acc p.1 p.2) acc) (merged acc' (ks.zip its)) := by
  induction ks with
  | nil => intro ys its acc acc' _ r; exact r
  | cons k ks ih =>
    intro ys its acc acc' rv r
    cases rv with
    | nil => exact r
    | cons ry rv => exact ih rv (KV.put r k ry)
def rDZ (K : PySem.W.Frag) : List V → Hp → VK → Prop := fun vs H Q => ∃ (x y : V) (ks : List Key) (ys : List V), vs = [x, y] ∧ ItV K H x (ks.map kV) ∧ SeqA K H y ys ∧ ks.length ≤ sizeLine ∧ ∀ d, H d = none → Q (.ref d) (upd H d (.dK (zipK ks ys)))
theorem not_new {N i : Nat} {fp : List Addr} (h : ∀ b ∈ fp, b < N) : N + i ∉ fp := fun hm => by have q : (N + i : Nat) < N := h _ hm; omega
theorem nat_apart {b N : Nat} (h : b < N) : b ≠ N + 4 ∧ b ≠ N + 3 ∧ b ≠ N ∧ b ≠ N + 1 := ⟨by omega, by omega, by omega, by omega⟩
theorem keyIs_of {k : Key} {v : Value} {y : V} (e : kV k = y) (r : RelV y v) : (mixKind X.prog X.w).is k v = true := by
  subst e
  exact kV_is r
theorem boot_zip' : bootBuiltins "zip" = some (.type "zip") := by decide +kernel
theorem boot_dict' : bootBuiltins "dict" = some (.type "dict") := by decide +kernel
theorem pe_dictZip {e e2 : Expr} {ta : TA} {p p2 pos q : Pos} (hc : X.calm = true) (hg : Gl X "dict") (hm : X.mg "dict" = none) (hgz : Gl X "zip") (hmz : X.mg "zip" = none) (ha : PA X [e, e2] ta)
    (hs : starEach [e, e2] X.env = (false, eval e X.env) :: starEach [e2] X.env := by rfl) (hpl : (backTo q (starEach [e2] X.env)).any (·.1) = false := by rfl)
    (hs1 : starEach [.Call (.Name "zip" p2) [e, e2] [] q] X.env = (false, eval (.Call (.Name "zip" p2) [e, e2] [] q) X.env) :: starEach [] X.env := by rfl) (hpl1 : (backTo pos (starEach [] X.env)).any (·.1) = false := by rfl) :
    PE X (.Call (.Name "dict" p) [.Call (.Name "zip" p2) [e, e2] [] q] [] pos) (tCB (rDZ X.K) ta) := by
  refine ⟨fun pins s σ H Q I h => ?_⟩
  refine wpAny_Call_Name_kw (ld_blt I hg hm boot_dict' ?_ (by decide) (by decide))
  refine PyProof.Rows.callWith_type1 ?_ hs1 hpl1
  rw [hs1]
  show wpAny _ _ (spliced ((false, eval (.Call (.Name "zip" p2) [e, e2] [] q) X.env) :: backTo pos (starEach [] X.env))) _ _ s
  refine Calls.spliced_cons ?_
  refine wpAny_Call_Name_kw (ld_blt I hgz hmz boot_zip' (PyProof.Rows.callWith_type1 (thn (ha.run q pins s σ H _ I h) fun us s1 ⟨vs, H1, I1, r1, q1⟩ => ?_) hs hpl) (by decide) (by decide))
  obtain ⟨x, y, ks, ys, rfl, hx, hy, hl, q1⟩ := q1
  cases r1 with
  | cons rx rr =>
    cases rr with
    | cons ry rr =>
      cases rr
      rename_i u1 u2
      obtain ⟨o1, Hc1, fp1, S1⟩ := itV_src I1 rx hx
      obtain ⟨its, o2, Hc2, fp2, rv, S2⟩ := seqA_src I1 ry hy
      refine zip_begins2 S1.beg S2.beg S1.ok S2.ok fun h' hz hTI hTO g1 g2 hsz hk => ?_
      have I2 : Inv X pins σ H1 { s1 with heap := h' } := I1.kept (t' := s1.toks) hk
      refine Calls.spliced_nil ?_
      obtain ⟨St1, D1, b1⟩ := S1.dr s1.heap.objs.size (by simpa using not_new (i := 0) S1.low)
      obtain ⟨St2, D2, b2⟩ := S2.dr (s1.heap.objs.size + 1) (not_new S2.low)
      have P := pairArg_zipD (zip_sep2 S1.low S2.low) D1 D2
      rw [List.length_map] at P
      refine call_dict_pairs (knd := mixKind X.prog X.w) (kvs := ks.zip its) P (I1.ok.hd hc) ⟨hz, hTI, ⟨_, _, hTO⟩, b1 h' g1 (S1.beg.keeps _ _ S1.ok hk), b2 h' g2 (S2.beg.keeps _ _ S2.ok hk)⟩ ⟨by rw [List.length_zip], fun i key v ⟨⟨y', e1, r1⟩, e2⟩ => ?_⟩ (by omega) fun h2 tk hd hk2 => ?_
      · rw [List.getElem?_map] at e1
        cases ek : ks[i]? with
        | none => rw [ek] at e1; cases e1
        | some k =>
          rw [ek] at e1
          cases e1
          exact ⟨k, by rw [List.getElem?_zip_eq_some]; exact ⟨ek, e2⟩, kV_is r1⟩
      · have kk : ∀ b o, s1.heap.get? b = some o → h2.get? b = some o := fun b o e => hk2 b o (fun hm => by
          have hlt := Heap.lt_size e
          have hm' : b = s1.heap.objs.size + 4 ∨ b = s1.heap.objs.size + 3 ∨ b = s1.heap.objs.size ∨ b = s1.heap.objs.size + 1 := by simpa using hm
          obtain ⟨n4, n3, n0, n1⟩ := nat_apart hlt
          rcases hm' with q | q | q | q
          · exact n4 q
          · exact n3 q
          · exact n0 q
          · exact n1 q) (hk b o e)
        have hd' : h2.DictOf (mixKind X.prog X.w) h'.objs.size (merged [] (ks.zip its)) := hd
        have hge : s1.heap.objs.size ≤ h'.objs.size := by rw [hsz]; omega
        have kv : KV (zipK ks ys) (merged [] (ks.zip its)) := kv_merged rv .nil
        have len : (zipK ks ys).length ≤ sizeLine := by
          rw [kv.length]
          have := merged_length_le ([] : List (Key × Value)) (ks.zip its)
          rw [List.length_zip] at this
          simp only [List.length_nil] at this
          omega
        refine ⟨.ref h'.objs.size, _, I1.laid (t' := tk) kk hge (show ObjOk X.prog X.w _ h2 _ (.dK (zipK ks ys)) from ⟨len, ?_, _, kv, hd'⟩), rfl, q1 _ (I1.hok.fresh hge)⟩
        have hb := I1.big
        exact beq_false_of_ne fun z => by
          rw [z] at hge
          exact absurd hb (Nat.not_lt.mpr hge)
end
end Mi
end S_Mi20
section S_Mi21
set_option Elab.async false
set_option linter.all false
set_option maxRecDepth 100000
set_option maxHeartbeats 4000000
namespace Mi
open PySem PySem.Spec PyProof.Rows L2
def itemsP : PV → Option (List PV)
  | .str z => some (z.map ch)
  | .lst xs => some xs
  | .tup xs => some xs
  | _ => none
def seqP : PV → Option (List PV)
  | .lst xs => some xs
  | .tup xs => some xs
  | _ => none
def dput1 (acc : List (PV × PV)) (p : PV × PV) : List (PV × PV) := dput acc p.1 p.2
def dzP : List PV → Option PV
  | [x, y] => match itemsP x, seqP y with
    | some xs, some ys => if xs.all (fun k => (keyOf k).isSome) = true then some (.dic ((xs.zip ys).foldl dput1 [])) else none
    | _, _ => none
  | _ => none
def tupleP' : List PV → Option PV
  | [.lst xs] => some (.tup xs)
  | [.str z] => some (.tup (z.map ch))
  | _ => none
def listP' : List PV → Option PV
  | [.str z] => some (.lst (z.map ch))
  | xs => listP xs
section
variable {X : Cx} {D : Stat} {lvl : Nat} {W : WX} {fr fr1 fr' : Fr} {H H1 H' : Hp} {fs s : Fs} {σ σ' : L2.St} {K : PySem.W.Frag}
theorem signs_rels {z : S} (ok : okS z = true) : Rels D fr H (z.map ch) (signs (strOf z)) := by
  have h := okS_lt ok
  have e : signs (strOf z) = z.map fun c => V.str (strOf [c]) := rfl
  rw [e]
  clear e ok
  induction z with
  | nil => exact .nil
  | cons c z ih => exact .cons (.str (okS_mk (by rw [sizeLine_eq]; simp) (by simpa using h c (List.mem_cons_self ..)))) (ih fun d hd => h d (List.mem_cons_of_mem _ hd))
theorem Now.items {x : PV} {v : V} {xs : List PV} (n : Now D fr H x v) (e : itemsP x = some xs) : ∃ vs, ItV K H v vs ∧ Rels D fr H xs vs ∧ xs.length ≤ sizeLine := by
  cases x with
  | str z =>
    cases e
    obtain ⟨rfl, ok⟩ := n.str
    have hl := okS_len ok
    exact ⟨_, .inl ⟨_, rfl, rfl, by simpa [strOf] using hl⟩, signs_rels ok, by rw [List.length_map]; exact hl⟩
  | lst xs =>
    cases e
    obtain ⟨a, vs, rfl, h1, h2, h3⟩ := n.lst
    exact ⟨vs, .inr ⟨a, rfl, .inl (.inl (.inl h1))⟩, h3, h2⟩
  | tup xs =>
    cases e
    obtain ⟨a, vs, rfl, h1, h2, h3⟩ := n.tup
    exact ⟨vs, .inr ⟨a, rfl, .inr (.inl (.inl h1))⟩, h3, h2⟩
  | _ => cases e
theorem Now.seq {x : PV} {v : V} {xs : List PV} (n : Now D fr H x v) (e : seqP x = some xs) : ∃ vs, SeqA K H v vs ∧ Rels D fr H xs vs ∧ xs.length ≤ sizeLine := by
  cases x with
  | lst xs =>
    cases e
    obtain ⟨a, vs, rfl, h1, h2, h3⟩ := n.lst
    exact ⟨vs, ⟨a, rfl, .inl (.inl (.inl h1))⟩, h3, h2⟩
  | tup xs =>
    cases e
    obtain ⟨a, vs, rfl, h1, h2, h3⟩ := n.tup
    exact ⟨vs, ⟨a, rfl, .inr (.inl (.inl h1))⟩, h3, h2⟩
  | _ => cases e
theorem Rel.key {k : PV} {v : V} {key : Key} (h : Rel D fr H k v) (e : keyOf k = some key) : v = kV key := Now.key (.inl h) e
theorem rels_keys : ∀ {xs : List PV} {vs : List V}, Rels D fr H xs vs → xs.all (fun k => (keyOf k).isSome) = true → ∃ ks : List Key, vs = ks.map kV ∧ xs.map keyOf = ks.map some
  | _, _, .nil, _ => ⟨[], rfl, rfl⟩
  | x :: xs, _, .cons r t, h => by
    rw [List.all_cons, Bool.and_eq_true] at h
    obtain ⟨ks, e1, e2⟩ := rels_keys t h.2
    obtain ⟨k, ek⟩ := Option.isSome_iff_exists.mp h.1
    exact ⟨k :: ks, by rw [Rel.key r ek, e1]; rfl, by rw [List.map_cons, ek, e2]; rfl⟩
theorem zip_relD {xs : List PV} : ∀ {ys : List PV} {vs ws : List V} {ks : List Key} {acc : List (PV × PV)} {acc' : List (Key × V)}, Rels D fr H xs vs → Rels D fr H ys ws → vs = ks.map kV → xs.map keyOf = ks.map some → RelD D fr H acc acc' →
    RelD D fr H ((xs.zip ys).foldl dput1 acc) ((ks.zip ws).foldl (fun acc p => putK acc p.1 p.2) acc') := by
  induction xs with
  | nil =>
    intro ys vs ws ks acc acc' r1 r2 e1 e2 ra
    cases ks with
    | nil => exact ra
    | cons _ _ => cases e2
  | cons x xs ih =>
    intro ys vs ws ks acc acc' r1 r2 e1 e2 ra
    cases ks with
    | nil => cases e2
    | cons k ks =>
      cases r1 with
      | cons rx rt =>
        rw [List.map_cons] at e1 e2
        cases e1
        have ex : keyOf x = some k := (List.cons.inj e2).1
        have et := (List.cons.inj e2).2
        cases r2 with
        | nil => exact ra
        | cons ry rt2 =>
          have q := ih rt rt2 rfl et (RelD.put ra ex rx ry)
          exact q
theorem dfold_len : ∀ (ps : List (PV × PV)) (acc : List (PV × PV)), (ps.foldl dput1 acc).length ≤ acc.length + ps.length
  | [], acc => Nat.le_refl _
  | p :: ps, acc => by
    have h := dfold_len ps (dput1 acc p)
    have h2 : (dput1 acc p).length ≤ acc.length + 1 := dput_len acc p.1 p.2
    rw [List.foldl_cons, List.length_cons]
    omega
theorem sf_dictZip {e e2 : Expr} {p p2 pos q : Pos} {g : M (List Loc)} (hc : X.calm = true) (hg : Gl X "dict") (hm : X.mg "dict" = none) (hgz : Gl X "zip") (hmz : X.mg "zip" = none) (ha : PA X [e, e2] (tOs D lvl W g))
    (hs : starEach [e, e2] X.env = (false, eval e X.env) :: starEach [e2] X.env := by rfl) (hpl : (backTo q (starEach [e2] X.env)).any (·.1) = false := by rfl)
    (hs1 : starEach [.Call (.Name "zip" p2) [e, e2] [] q] X.env = (false, eval (.Call (.Name "zip" p2) [e, e2] [] q) X.env) :: starEach [] X.env := by rfl) (hpl1 : (backTo pos (starEach [] X.env)).any (·.1) = false := by rfl) :
    PE X (.Call (.Name "dict" p) [.Call (.Name "zip" p2) [e, e2] [] q] [] pos) (tF D lvl W (fB g dzP)) := by
  refine PE.imp (pe_dictZip hc hg hm hgz hmz ha hs hpl hs1 hpl1) fun σ H Q h => fBF_run (r := rDZ X.K) (fun lvl fr fs σ H xs vs z Q I r hz k => ?_) h
  unfold dzP at hz
  split at hz
  · rename_i x y
    split at hz
    · rename_i xs ys hx hy
      split at hz
      · rename_i hk
        cases hz
        obtain ⟨v, w, rfl, n1, n2⟩ := r.two
        obtain ⟨vs, i1, r1, l1⟩ := n1.items (K := X.K) hx
        obtain ⟨ws, i2, r2, l2⟩ := n2.seq (K := X.K) hy
        obtain ⟨ks, e1, e2⟩ := rels_keys r1 hk
        subst e1
        have hl : ks.length ≤ sizeLine := by
          have := r1.length
          rw [List.length_map] at this
          omega
        refine ⟨v, w, ks, ws, rfl, i1, i2, hl, KF'.new I k (.dic ?_ (zip_relD r1 r2 rfl e2 .nil))⟩
        have := dfold_len (xs.zip ys) []
        rw [List.length_zip, List.length_nil] at this
        omega
      · cases hz
    · cases hz
  · cases hz
theorem signs_vals {z : Str} {acc : Array Value} (h : ItemsOf (SignAt z) acc z.cps.size) : Vals (signs z) acc.toList := by
  have e : signs z = (List.range acc.toList.length).map fun j => ((signs z)[j]?).getD .non := by
    apply List.ext_getElem?
    intro j
    rw [List.getElem?_map]
    have hl : acc.toList.length = (signs z).length := by unfold signs; rw [List.length_map, Array.length_toList, Array.length_toList, h.1]
    by_cases hj : j < (signs z).length
    · rw [List.getElem?_eq_getElem hj, List.getElem?_eq_getElem (by rw [List.length_range]; omega), List.getElem_range]
      simp [hj]
    · rw [List.getElem?_eq_none (by omega), List.getElem?_eq_none (by rw [List.length_range]; omega)]
      rfl
  rw [e]
  refine vals_of_get acc.toList _ fun j u hj => ?_
  obtain ⟨c, t, hc, rfl⟩ := h.2 j u (by rw [← hj, Array.getElem?_toList])
  have : (signs z)[j]? = some (.str ⟨#[c]⟩) := by
    unfold signs
    rw [List.getElem?_map, Array.getElem?_toList, hc]
    rfl
  rw [this]
  exact ⟨t, rfl⟩
theorem call_tupleS (hc : X.calm = true) : CallR X (.type "tuple") (fun xs H Q => ∃ z : Str, xs = [.str z] ∧ z.cps.size ≤ sizeLine ∧ ∀ l, H l = none → Q (.ref l) (upd H l (.tup (signs z)))) := by
  intro pins s σ H xs us Q I r h
  obtain ⟨z, rfl, hl, q⟩ := h
  obtain ⟨u, rfl, t, rfl⟩ := vals1 r
  refine call_tuple_str (I.ok.hd hc) z t (fun h' tk acc hk hacc => ?_) hl
  have I1 : Inv X pins σ H { s with heap := h', toks := tk } := I.kept (t' := tk) hk
  have rv : Vals (signs z) acc.toList := signs_vals hacc
  refine ⟨.ref h'.objs.size, _, I1.laid (t' := tk) (fun b o e => Heap.get?_push_of_some _ e) (Nat.le_refl _) (show ObjOk X.prog X.w _ _ _ (.tup (signs z)) from ⟨?_, acc.toList, rv, ?_⟩), rfl, q _ (I1.hok.fresh (Nat.le_refl _))⟩
  · unfold signs; rw [List.length_map, Array.length_toList]; exact hl
  · rw [Array.toArray_toList]; exact IsTup.new _ _
theorem call_listS (hc : X.calm = true) : CallR X (.type "list") (fun xs H Q => ∃ z : Str, xs = [.str z] ∧ z.cps.size ≤ sizeLine ∧ ∀ l, H l = none → Q (.ref l) (upd H l (.lst (signs z)))) := by
  intro pins s σ H xs us Q I r h
  obtain ⟨z, rfl, hl, q⟩ := h
  obtain ⟨u, rfl, t, rfl⟩ := vals1 r
  refine call_list_str (I.ok.hd hc) z t (fun h' tk acc c' hk e' hacc => ?_) hl
  have rv : Vals (signs z) acc.toList := signs_vals hacc
  refine ⟨.ref s.heap.objs.size, _, I.laid (t' := tk) hk (Nat.le_refl _) (show ObjOk X.prog X.w _ _ _ (.lst (signs z)) from ⟨?_, acc.toList, c', rv, ?_⟩), rfl, q _ (I.hok.fresh (Nat.le_refl _))⟩
  · unfold signs; rw [List.length_map, Array.length_toList]; exact hl
  · rw [Array.toArray_toList]; exact e'
theorem cs_tuple' (hc : X.calm = true) : CallS X D (.type "tuple") tupleP' := by
  refine ⟨_, CallR.or call_tuple_of (call_tupleS hc), fun lvl fr fs σ H xs vs z Q I r hz k => ?_⟩
  unfold tupleP' at hz
  split at hz
  · cases hz
    obtain ⟨v, rfl, n⟩ := r.one
    obtain ⟨a, vs, rfl, h1, h2, h3⟩ := n.lst
    exact .inl ⟨a, vs, rfl, .inl ⟨.inl (.inl h1), k.newSh I (.tup h2 h3)⟩⟩
  · cases hz
    obtain ⟨v, rfl, n⟩ := r.one
    obtain ⟨rfl, ok⟩ := n.str
    have hl := okS_len ok
    exact .inr ⟨_, rfl, by simpa [strOf] using hl, k.newSh I (.tup (by rw [List.length_map]; exact hl) (signs_rels ok))⟩
  · cases hz
theorem cf_list' (hc : X.calm = true) : CallF X D (.type "list") listP' := by
  obtain ⟨r0, hr, hs⟩ := (cf_list : CallF X D (.type "list") listP)
  refine ⟨_, CallR.or hr (call_listS hc), fun lvl fr fs σ H xs vs z Q I r hz k => ?_⟩
  unfold listP' at hz
  split at hz
  · cases hz
    obtain ⟨v, rfl, n⟩ := r.one
    obtain ⟨rfl, ok⟩ := n.str
    have hl := okS_len ok
    exact .inr ⟨_, rfl, by simpa [strOf] using hl, k.new I (.lst (by rw [List.length_map]; exact hl) (signs_rels ok))⟩
  · exact .inl (hs lvl fr fs σ H _ vs z Q I r hz k)
end
end Mi
namespace Mi
open PySem PySem.Spec PyProof.Rows L2
def relabS (sO sE : Scope) : Scope := { sO with names := sO.names.map fun (n, k) => if (k == .free && sE.kind == .function && sE.names.lookup n == some .cell) then (n, .cell) else (n, k) }
theorem blk_in {N : List Str} {sO sE scope : Scope} {own : List (Str × Nat)} {cl : List (Str × Addr)} {C : Addr} {env : PySem.Env} (he : env.scope = sE) (h : blkC N (relabS sO sE) scope own = true) : BlkOk N (compEnvC sO cl C env).scope scope own := by
  subst he
  exact blkOk_by h
end Mi
end S_Mi21
section S_Mi22
set_option Elab.async false
set_option linter.all false
set_option maxRecDepth 100000
set_option maxHeartbeats 4000000
/-! what a shallow run leads to: plain Lean from here on -/
namespace Mi
variable {α β : Type}
def WpR (r : R α) (Q : α → Fs → Prop) (E : PV → Fs → Prop) : Prop := match r with
  | .ok a s => Q a s
  | .ex e s => E e s
  | .no => False
def Wp0 (m : M α) (Q : α → Fs → Prop) (E : PV → Fs → Prop) (s : Fs) : Prop := WpR (m s) Q E
def WpC0 (r : RC) (Q : PV → Bool → List Ob → Prop) (E : PV → List Ob → Prop) : Prop := match r with
  | .ok v b h => Q v b h
  | .ex e h => E e h
  | .no => False
variable {Q : α → Fs → Prop} {E : PV → Fs → Prop} {s : Fs}
@[simp ↓] theorem wpR_ok {a : α} : WpR (.ok a s) Q E = Q a s := rfl
@[simp ↓] theorem wpR_ex {e : PV} : WpR (.ex e s) Q E = E e s := rfl
@[simp ↓] theorem wpR_no : WpR (.no : R α) Q E = False := rfl
theorem wpC0_ok {v b h Q E} : WpC0 (.ok v b h) Q E = Q v b h := id rfl
theorem wpC0_ex {e h Q E} : WpC0 (.ex e h) Q E = E e h := id rfl
theorem wpC0_no {Q E} : WpC0 .no Q E = False := id rfl
theorem wpR_imp {r : R α} {Q' : α → Fs → Prop} {E' : PV → Fs → Prop} (h : WpR r Q E) (hq : ∀ a s, Q a s → Q' a s) (he : ∀ e s, E e s → E' e s) : WpR r Q' E' := by
  cases r with
  | ok a s => exact hq a s h
  | ex e s => exact he e s h
  | no => exact h
theorem wp0_imp {m : M α} {Q' : α → Fs → Prop} {E' : PV → Fs → Prop} (h : Wp0 m Q E s) (hq : ∀ a s, Q a s → Q' a s) (he : ∀ e s, E e s → E' e s) : Wp0 m Q' E' s := wpR_imp h hq he
theorem wpC0_imp {r : RC} {Q Q' : PV → Bool → List Ob → Prop} {E E' : PV → List Ob → Prop} (h : WpC0 r Q E) (hq : ∀ a b s, Q a b s → Q' a b s) (he : ∀ e s, E e s → E' e s) : WpC0 r Q' E' := by
  cases r with
  | ok a b s => exact hq a b s h
  | ex e s => exact he e s h
  | no => exact h
theorem wp0_pure {a : α} : Wp0 (M.pure a) Q E s = Q a s := id rfl
theorem wp0_bind {f : M β} {g : β → M α} : Wp0 (M.bind f g) Q E s = Wp0 f (fun a s' => Wp0 (g a) Q E s') E s := by
  unfold Wp0 M.bind
  cases f s <;> rfl
theorem wp0_lam {F : Fs → R α} : Wp0 (fun s => F s) Q E s = WpR (F s) Q E := rfl
theorem wp0_ite {c : Prop} [Decidable c] {f g : M α} : Wp0 (if c then f else g) Q E s ↔ (c → Wp0 f Q E s) ∧ (¬ c → Wp0 g Q E s) := by
  by_cases h : c <;> simp [h]
@[simp ↓] theorem wpR_ite {c : Prop} [Decidable c] {f g : R α} : WpR (if c then f else g) Q E ↔ (c → WpR f Q E) ∧ (¬ c → WpR g Q E) := by
  by_cases h : c <;> simp [h]
/-! ### names -/
variable {l : List Slot} {hp : List Ob} {i j : Nat}
/-- the slot i of l -/
def SlQ (l : List Slot) (i : Nat) (Q : Slot → Prop) : Prop := match l[i]? with
  | some x => Q x
  | none => False
@[simp ↓] theorem slQ_zero {x : Slot} {l : List Slot} {Q : Slot → Prop} : SlQ (x :: l) 0 Q = Q x := id rfl
@[simp ↓] theorem slQ_succ {x : Slot} {l : List Slot} {i : Nat} {Q : Slot → Prop} : SlQ (x :: l) (i + 1) Q = SlQ l i Q := id rfl
theorem wp0_fVar {Q : PV → Fs → Prop} : Wp0 (fVar i) Q E ⟨l, hp⟩ = SlQ l i fun x => match x with
    | .sh v => Q v ⟨l, hp⟩
    | .ow c => Q c ⟨l.set i (.sh c), hp⟩
    | .un => False := by
  unfold Wp0 fVar SlQ
  dsimp only
  cases l[i]? with
  | none => rfl
  | some x => cases x <;> rfl
theorem wp0_fAt {Q : Loc → Fs → Prop} : Wp0 (fAt i) Q E ⟨l, hp⟩ = SlQ l i fun x => match x with
    | .sh _ => Q (.at i) ⟨l, hp⟩
    | .ow _ => Q (.at i) ⟨l, hp⟩
    | .un => False := by
  unfold Wp0 fAt SlQ
  dsimp only
  cases l[i]? with
  | none => rfl
  | some x => cases x <;> rfl
@[simp] theorem rd_val {v : PV} : rd s (.val v) = some v := id rfl
theorem wp0_fLoc {f : M PV} {Q : Loc → Fs → Prop} : Wp0 (fLoc f) Q E s = Wp0 f (fun v s => Q (.val v) s) E s := by unfold fLoc; simp only [wp0_bind, wp0_pure]
/-- an op's answer -/
def OpQ (o : Option PV) (Q : PV → Prop) : Prop := match o with
  | some z => Q z
  | none => False
@[simp ↓] theorem opQ_some {z : PV} {Q : PV → Prop} : OpQ (some z) Q = Q z := rfl
@[simp ↓] theorem opQ_none {Q : PV → Prop} : OpQ none Q = False := rfl
@[simp ↓] theorem opQ_ite {c : Prop} [Decidable c] {z : PV} {Q : PV → Prop} : OpQ (if c then some z else none) Q ↔ c ∧ Q z := by
  by_cases h : c <;> simp [h]
@[simp ↓] theorem opQ_map {γ : Type} {o : Option γ} {f : γ → PV} {Q : PV → Prop} : OpQ (o.map f) Q = ∃ x, o = some x ∧ Q (f x) := by
  cases o <;> simp [OpQ]
theorem opQ_of {o : Option PV} {z : PV} {Q : PV → Prop} (e : o = some z) (h : Q z) : OpQ o Q := by rw [e]; exact h
@[simp ↓] theorem opQ_rdval {v : PV} {Q : PV → Prop} : OpQ (rd s (.val v)) Q = Q v := id rfl
@[simp ↓] theorem opQ_rdat {Q : PV → Prop} : OpQ (rd ⟨l, hp⟩ (.at i)) Q = SlQ l i fun x => match x with
    | .sh v => Q v
    | .ow v => Q v
    | .un => False := by
  show OpQ (match l[i]? with
    | some (.sh v) => some v
    | some (.ow v) => some v
    | _ => none) Q = _
  unfold SlQ
  cases l[i]? with
  | none => rfl
  | some x => cases x <;> rfl
variable {Q1 : PV → Fs → Prop}
theorem wp0_fOp2 {fa fb : M Loc} {op : PV → PV → Option PV} : Wp0 (fOp2 fa fb op) Q1 E s = Wp0 fa (fun la s1 => Wp0 fb (fun lb s2 => OpQ (rd s2 la) fun x => OpQ (rd s2 lb) fun y => OpQ (op x y) fun z => Q1 z s2) E s1) E s := by
  unfold fOp2
  simp only [wp0_bind]
  congr 1
  funext la s1
  congr 1
  funext lb s2
  show WpR _ _ _ = _
  try dsimp only
  cases rd s2 la with
  | none => rfl
  | some x => cases rd s2 lb with
    | none => rfl
    | some y => dsimp only [opQ_some]; cases op x y <;> rfl
theorem wp0_asB {f : M PV} {Q : Bool → Fs → Prop} : Wp0 (asB f) Q E s = Wp0 f (fun v s1 => match v with
    | .bl b => Q b s1
    | _ => False) E s := by
  unfold asB
  rw [wp0_bind]
  congr 1
  funext v s1
  cases v <;> rfl
theorem wp0_fChain {fa fb fc : M Loc} {op op2 : PV → PV → Option PV} : Wp0 (fChain fa fb fc op op2) Q1 E s = Wp0 fa (fun la s1 => Wp0 fb (fun lb s2 => OpQ (rd s2 la) fun x => OpQ (rd s2 lb) fun y => OpQ (op x y) fun z => match z with
      | .bl true => Wp0 fc (fun lc s3 => OpQ (rd s3 lb) fun y2 => OpQ (rd s3 lc) fun z => OpQ (op2 y2 z) fun w => Q1 w s3) E s2
      | .bl false => Q1 (.bl false) s2
      | _ => False) E s1) E s := by
  unfold fChain
  simp only [wp0_bind]
  congr 1
  funext la s1
  congr 1
  funext lb s2
  show WpR _ _ _ = _
  try dsimp only
  cases rd s2 la with
  | none => rfl
  | some x => cases rd s2 lb with
    | none => rfl
    | some y =>
      dsimp only [opQ_some]
      cases op x y with
      | none => rfl
      | some z =>
        cases z with
        | bl b =>
          cases b with
          | false => rfl
          | true =>
            show Wp0 (M.bind fc _) Q1 E s2 = _
            rw [wp0_bind]
            congr 1
            funext lc s3
            show WpR _ _ _ = _
            try dsimp only
            cases rd s3 lb with
            | none => rfl
            | some y2 => cases rd s3 lc with
              | none => rfl
              | some z => dsimp only [opQ_some]; cases op2 y2 z <;> rfl
        | _ => rfl
theorem wp0_no : Wp0 (fun _ => (.no : R α)) Q E s = False := id rfl
/-! ### tests -/
theorem wp0_fAnd {f g : M Bool} {Q : Bool → Fs → Prop} : Wp0 (fAnd f g) Q E s = Wp0 f (fun b s1 => if b = true then Wp0 g Q E s1 else Q false s1) E s := by
  unfold fAnd
  rw [wp0_bind]
  congr 1
  funext b s1
  cases b <;> rfl
theorem wp0_fOr {f g : M Bool} {Q : Bool → Fs → Prop} : Wp0 (fOr f g) Q E s = Wp0 f (fun b s1 => if b = true then Q true s1 else Wp0 g Q E s1) E s := by
  unfold fOr
  rw [wp0_bind]
  congr 1
  funext b s1
  cases b <;> rfl
theorem wp0_fNot {f : M Bool} {Q : Bool → Fs → Prop} : Wp0 (fNot f) Q E s = Wp0 f (fun b s1 => Q (!b) s1) E s := by unfold fNot; rw [wp0_bind]; rfl
theorem wp0_fIte {c : M Bool} {f g : M α} : Wp0 (fIte c f g) Q E s = Wp0 c (fun b s1 => if b = true then Wp0 f Q E s1 else Wp0 g Q E s1) E s := by
  unfold fIte
  rw [wp0_bind]
  congr 1
  funext b s1
  cases b <;> rfl
theorem wp0_fNil {Q : List PV → Fs → Prop} : Wp0 fNil Q E s = Q [] s := id rfl
theorem wp0_fCons {f : M PV} {g : M (List PV)} {Q : List PV → Fs → Prop} : Wp0 (fCons f g) Q E s = Wp0 f (fun x s1 => Wp0 g (fun xs s2 => Q (x :: xs) s2) E s1) E s := by unfold fCons; simp only [wp0_bind, wp0_pure]
theorem wp0_fTup {g : M (List PV)} {Q : PV → Fs → Prop} : Wp0 (fTup g) Q E s = Wp0 g (fun xs s1 => lenOk xs = true ∧ Q (.tup xs) s1) E s := by
  unfold fTup
  rw [wp0_bind]
  congr 1
  funext xs s1
  cases lenOk xs with
  | true => simp only [if_true, true_and]; rfl
  | false => simp only [Bool.false_eq_true, if_false, false_and]; rfl
theorem wp0_fLst {g : M (List PV)} {Q : PV → Fs → Prop} : Wp0 (fLst g) Q E s = Wp0 g (fun xs s1 => lenOk xs = true ∧ Q (.lst xs) s1) E s := by
  unfold fLst
  rw [wp0_bind]
  congr 1
  funext xs s1
  cases lenOk xs with
  | true => simp only [if_true, true_and]; rfl
  | false => simp only [Bool.false_eq_true, if_false, false_and]; rfl
theorem wp0_gNx {Q : Fl → Fs → Prop} : Wp0 gNx Q E s = Q .nx s := id rfl
theorem wp0_gIf {c : M Bool} {f g : M Fl} {Q : Fl → Fs → Prop} : Wp0 (gIf c f g) Q E s = Wp0 c (fun b s1 => if b = true then Wp0 f Q E s1 else Wp0 g Q E s1) E s := by
  unfold gIf
  rw [wp0_bind]
  congr 1
  funext b s1
  cases b <;> rfl
theorem wp0_gRet {f : M PV} {Q : Fl → Fs → Prop} : Wp0 (gRet f) Q E s = Wp0 f (fun v s1 => Q (.rt v false) s1) E s := by unfold gRet; simp only [wp0_bind, wp0_pure]
theorem wp0_gRetF {f : M PV} {Q : Fl → Fs → Prop} : Wp0 (gRetF f) Q E s = Wp0 f (fun v s1 => Q (.rt v true) s1) E s := by unfold gRetF; simp only [wp0_bind, wp0_pure]
theorem wp0_gDrop {f : M PV} {Q : Fl → Fs → Prop} : Wp0 (gDrop f) Q E s = Wp0 f (fun _ s1 => Q .nx s1) E s := by unfold gDrop; rw [wp0_bind]; rfl
theorem wp0_tYesM {Q : Bool → Fs → Prop} : Wp0 tYesM Q E s = Q true s := id rfl
theorem wp0_fONil {Q : List Loc → Fs → Prop} : Wp0 fONil Q E s = Q [] s := id rfl
theorem wp0_fOCons {f : M Loc} {g : M (List Loc)} {Q : List Loc → Fs → Prop} : Wp0 (fOCons f g) Q E s = Wp0 f (fun x s1 => Wp0 g (fun xs s2 => Q (x :: xs) s2) E s1) E s := by unfold fOCons; simp only [wp0_bind, wp0_pure]
theorem wp0_fNone {Q : Option Int → Fs → Prop} : Wp0 fNone Q E s = Q none s := id rfl
theorem wp0_fDic {Q : PV → Fs → Prop} : Wp0 fDic Q E s = Q (.dic []) s := id rfl
theorem wp0_fAndV {f g : M PV} : Wp0 (fAndV f g) Q1 E s = Wp0 f (fun v s1 => match v with
    | .bl true => Wp0 g Q1 E s1
    | .bl false => Q1 (.bl false) s1
    | _ => False) E s := by
  unfold fAndV
  rw [wp0_bind]
  congr 1
  funext v s1
  cases v with
  | bl b => cases b <;> rfl
  | _ => rfl
theorem wp0_fOrV {f g : M PV} : Wp0 (fOrV f g) Q1 E s = Wp0 f (fun v s1 => match v with
    | .bl true => Q1 (.bl true) s1
    | .bl false => Wp0 g Q1 E s1
    | _ => False) E s := by
  unfold fOrV
  rw [wp0_bind]
  congr 1
  funext v s1
  cases v with
  | bl b => cases b <;> rfl
  | _ => rfl
theorem wp0_fNotV {f : M PV} : Wp0 (fNotV f) Q1 E s = Wp0 f (fun v s1 => match v with
    | .bl b => Q1 (.bl (!b)) s1
    | _ => False) E s := by
  unfold fNotV
  rw [wp0_bind]
  congr 1
  funext v s1
  cases v <;> rfl
/-! ### statements -/
variable {Q2 : Fl → Fs → Prop}
theorem wp0_gSeq {f g : M Fl} : Wp0 (gSeq f g) Q2 E s = Wp0 f (fun fl s1 => match fl with
    | .nx => Wp0 g Q2 E s1
    | r => Q2 r s1) E s := by
  unfold Wp0 gSeq
  cases f s with
  | ok fl s1 => cases fl <;> rfl
  | ex e s1 => rfl
  | no => rfl
theorem wp0_gRetN : Wp0 (gRetN i) Q2 E ⟨l, hp⟩ = SlQ l i fun x => match x with
    | .sh v => Q2 (.rt v false) ⟨l, hp⟩
    | .ow v => Q2 (.rt v true) ⟨l.set i .un, hp⟩
    | .un => False := by
  unfold Wp0 gRetN SlQ
  dsimp only
  cases l[i]? with
  | none => rfl
  | some x => cases x <;> rfl
def SetQ (o : Option Fs) (Q : Fs → Prop) : Prop := match o with
  | some s => Q s
  | none => False
@[simp ↓] theorem setQ_some {Q : Fs → Prop} : SetQ (some s) Q = Q s := rfl
@[simp ↓] theorem setQ_none {Q : Fs → Prop} : SetQ none Q = False := rfl
theorem wp0_gAsg {f : M PV} {g : PV → Fs → Option Fs} : Wp0 (gAsg f g) Q2 E s = Wp0 f (fun v s1 => SetQ (g v s1) fun s2 => Q2 .nx s2) E s := by
  unfold gAsg
  rw [wp0_bind]
  congr 1
  funext v s1
  show WpR _ _ _ = _
  try dsimp only
  cases g v s1 <;> rfl
@[simp ↓] theorem uName_eq {x : PV} : uName i x ⟨l, hp⟩ = some ⟨l.set i (.sh x), hp⟩ := id rfl
@[simp ↓] theorem uNil_eq : uNil [] s = some s := id rfl
@[simp ↓] theorem uCons_eq {g : PV → Fs → Option Fs} {u : List PV → Fs → Option Fs} {x : PV} {r : List PV} : uCons g u (x :: r) s = match g x s with
    | some s1 => u r s1
    | none => none := rfl
@[simp ↓] theorem uTup_eq {n : Nat} {u : List PV → Fs → Option Fs} {xs : List PV} : uTup n u (.tup xs) s = if xs.length = n then u xs s else none := id rfl
theorem wp0_gOwn {f : M PV} : Wp0 (gOwn f i) Q2 E s = Wp0 f (fun v s1 => Q2 .nx { s1 with sl := s1.sl.set i (.ow v) }) E s := by
  unfold gOwn
  rw [wp0_bind]
  rfl
theorem wp0_gPar {g : M (List PV)} : Wp0 (gPar i j g) Q2 E s = Wp0 g (fun vs s1 => match vs with
    | [v, w] => Q2 .nx { s1 with sl := (s1.sl.set i (.sh v)).set j (.sh w) }
    | _ => False) E s := by
  unfold gPar
  rw [wp0_bind]
  congr 1
  funext vs s1
  show WpR _ _ _ = _
  try dsimp only
  match vs with
  | [] => rfl
  | [_] => rfl
  | [_, _] => rfl
  | _ :: _ :: _ :: _ => rfl
theorem wp0_gRaise {c : Nat} : Wp0 (gRaise c) Q2 E s = E (.exc c []) s := id rfl
/-! ### loops -/
theorem wp0_gFor {f : M (List PV)} {g : PV → Fs → Option Fs} {b : M Fl} : Wp0 (gFor f g b) Q2 E s = Wp0 f (fun xs s1 => Wp0 (loopF g b xs) Q2 E s1) E s := by
  unfold gFor
  rw [wp0_bind]
theorem wp0_loop_nil {g : PV → Fs → Option Fs} {b : M Fl} : Wp0 (loopF g b []) Q2 E s = Q2 .nx s := id rfl
theorem wp0_loop_cons {g : PV → Fs → Option Fs} {b : M Fl} {x : PV} {xs : List PV} : Wp0 (loopF g b (x :: xs)) Q2 E s = SetQ (g x s) fun s1 => Wp0 b (fun fl s2 => match fl with
    | .nx => Wp0 (loopF g b xs) Q2 E s2
    | .ct => Wp0 (loopF g b xs) Q2 E s2
    | .bk => Q2 .nx s2
    | .rt v k => Q2 (.rt v k) s2) E s1 := by
  have e : loopF g b (x :: xs) s = match g x s with
    | some s1 => match b s1 with
      | .ok .nx s2 => loopF g b xs s2
      | .ok .ct s2 => loopF g b xs s2
      | .ok .bk s2 => .ok .nx s2
      | r => r
    | none => .no := rfl
  show WpR (loopF g b (x :: xs) s) _ _ = _
  rw [e]
  cases g x s with
  | none => rfl
  | some s1 =>
    dsimp only [setQ_some]
    unfold Wp0
    cases b s1 with
    | ok fl s2 => cases fl <;> rfl
    | ex e s2 => rfl
    | no => rfl
theorem wp0_loop {g : PV → Fs → Option Fs} {b : M Fl} (I : List PV → Fs → Prop) {xs : List PV} (h0 : I xs s)
    (hs : ∀ x r s, I (x :: r) s → SetQ (g x s) fun s1 => Wp0 b (fun fl s2 => match fl with
      | .nx => I r s2
      | .ct => I r s2
      | .bk => Q2 .nx s2
      | .rt v k => Q2 (.rt v k) s2) E s1) (he : ∀ s, I [] s → Q2 .nx s) : Wp0 (loopF g b xs) Q2 E s := by
  induction xs generalizing s with
  | nil => exact he s h0
  | cons x r ih =>
    rw [wp0_loop_cons]
    have h := hs x r s h0
    cases e : g x s with
    | none => rw [e] at h; exact h.elim
    | some s1 =>
      rw [e] at h
      refine wp0_imp h (fun fl s2 q => ?_) fun _ _ q => q
      cases fl with
      | nx => exact ih q
      | ct => exact ih q
      | bk => exact q
      | rt v k => exact q
theorem wp0_while {c : M Bool} {b : M Fl} (I : Nat → Fs → Prop) {m n : Nat} (hm : m < n) (h0 : I m s)
    (hs : ∀ k s, I k s → Wp0 c (fun t s1 => if t = true then Wp0 b (fun fl s2 => match fl with
      | .nx => ∃ k', k' < k ∧ I k' s2
      | .ct => ∃ k', k' < k ∧ I k' s2
      | .bk => Q2 .nx s2
      | .rt v f => Q2 (.rt v f) s2) E s1 else Q2 .nx s1) E s) : Wp0 (gWhile c b n) Q2 E s := by
  induction n generalizing s m with
  | zero => omega
  | succ n ih =>
    unfold gWhile
    rw [wp0_bind]
    refine wp0_imp (hs m s h0) (fun t s1 q => ?_) fun _ _ q => q
    cases t with
    | false => exact q
    | true =>
      simp only [if_true] at q ⊢
      show WpR _ _ _
      have q' : WpR (b s1) _ E := q
      revert q'
      dsimp only
      cases b s1 with
      | ok fl s2 =>
        intro q'
        cases fl with
        | nx => obtain ⟨k', hk, q2⟩ := q'; exact ih (by omega) q2
        | ct => obtain ⟨k', hk, q2⟩ := q'; exact ih (by omega) q2
        | bk => exact q'
        | rt v f => exact q'
      | ex e s2 => exact fun q' => q'
      | no => exact fun q' => q'
theorem wp0_compF {vs : List Nat} {g : PV → Fs → Option Fs} {t : M Bool} {e : M PV} {Q : List PV → Fs → Prop} (I : List PV → List PV → Fs → Prop) {xs acc : List PV} (h0 : I xs acc s)
    (hs : ∀ x r acc s, I (x :: r) acc s → SetQ (g x { s with sl := wipeS s.sl vs }) fun s1 => Wp0 t (fun b s2 => if b = true then Wp0 e (fun y s3 => I r (acc ++ [y]) s3) (fun _ _ => False) s2 else I r acc s2) (fun _ _ => False) s1)
    (he : ∀ acc s, I [] acc s → Q acc s) : Wp0 (compF vs g t e xs) (fun ys s' => Q (acc ++ ys) s') (fun _ _ => False) s := by
  induction xs generalizing s acc with
  | nil =>
    show Q (acc ++ []) s
    rw [List.append_nil]
    exact he acc s h0
  | cons x r ih =>
    have h := hs x r acc s h0
    show WpR (compF vs g t e (x :: r) s) _ _
    unfold compF
    cases eg : g x { s with sl := wipeS s.sl vs } with
    | none => rw [eg] at h; exact h.elim
    | some s1 =>
      rw [eg] at h
      have h1 : WpR (t s1) _ _ := h
      dsimp only
      revert h1
      cases t s1 with
      | no => exact fun h1 => h1.elim
      | ex e s2 => exact fun h1 => h1.elim
      | ok b s2 =>
        intro h1
        cases b with
        | false => exact ih h1
        | true =>
          have h2 : WpR (e s2) _ _ := h1
          dsimp only
          revert h2
          cases e s2 with
          | no => exact fun h1 => h1.elim
          | ex e s2 => exact fun h1 => h1.elim
          | ok y s3 =>
            intro h2
            have h3 : WpR (compF vs g t e r s3) (fun ys s' => Q (acc ++ [y] ++ ys) s') (fun _ _ => False) := ih (acc := acc ++ [y]) h2
            dsimp only
            revert h3
            cases compF vs g t e r s3 with
            | ok ys s4 =>
              intro h3
              have h4 : Q (acc ++ [y] ++ ys) s4 := h3
              rw [List.append_assoc] at h4
              exact h4
            | ex e s4 => exact fun h1 => h1.elim
            | no => exact fun h1 => h1.elim
theorem wp0_fComp {f : M (List PV)} {vs : List Nat} {g : PV → Fs → Option Fs} {t : M Bool} {e : M PV} {Q : PV → Fs → Prop} : Wp0 (fComp f vs g t e) Q E s = Wp0 f (fun items s1 => okV s1.sl vs = true ∧ Wp0 (compF vs g t e items) (fun xs s' => lenOk xs = true ∧ Q (.lst xs) { s' with sl := backS s1.sl s'.sl vs }) (fun _ _ => False) s1) E s := by
  unfold fComp
  rw [wp0_bind]
  congr 1
  funext items s1
  show WpR _ _ _ = _
  try dsimp only
  cases okV s1.sl vs with
  | false => simp
  | true =>
    simp only [if_true, true_and]
    unfold Wp0
    cases compF vs g t e items s1 with
    | no => rfl
    | ex e s2 => rfl
    | ok xs s' =>
      dsimp only
      cases hl : lenOk xs with
      | true => simp [hl]
      | false => simp [hl]
/-- a comprehension: item by item, the names back -/
theorem wp0_comp {f : M (List PV)} {vs : List Nat} {g : PV → Fs → Option Fs} {t : M Bool} {e : M PV} {Q : PV → Fs → Prop} (h : Wp0 f (fun items s1 => okV s1.sl vs = true ∧ ∃ I : List PV → List PV → Fs → Prop, I items [] s1 ∧
    (∀ x r acc s, I (x :: r) acc s → SetQ (g x { s with sl := wipeS s.sl vs }) fun s1 => Wp0 t (fun b s2 => if b = true then Wp0 e (fun y s3 => I r (acc ++ [y]) s3) (fun _ _ => False) s2 else I r acc s2) (fun _ _ => False) s1) ∧
    ∀ acc s, I [] acc s → lenOk acc = true ∧ Q (.lst acc) { s with sl := backS s1.sl s.sl vs }) E s) : Wp0 (fComp f vs g t e) Q E s := by
  rw [wp0_fComp]
  refine wp0_imp h (fun items s1 q => ?_) fun _ _ q => q
  obtain ⟨ho, I, h0, hs, he⟩ := q
  exact ⟨ho, wp0_compF (acc := []) (Q := fun xs s' => lenOk xs = true ∧ Q (.lst xs) { s' with sl := backS s1.sl s'.sl vs }) I h0 hs he⟩
/-! ### calls, built-ins, methods -/
theorem wp0_fCall {Γ : Env} {n : Nat} {g : M (List PV)} {Q : PV → Fs → Prop} : Wp0 (fCall Γ n g) Q E s = Wp0 g (fun args s1 => WpC0 (Γ n args s1.hp) (fun v _ h => Q v { s1 with hp := h }) fun e h => E e { s1 with hp := h }) E s := by
  unfold fCall
  rw [wp0_bind]
  congr 1
  funext args s1
  show WpR _ _ _ = _
  try dsimp only
  cases Γ n args s1.hp <;> rfl
theorem wp0_fCallF {Γ : Env} {n : Nat} {g : M (List PV)} {Q : PV → Fs → Prop} : Wp0 (fCallF Γ n g) Q E s = Wp0 g (fun args s1 => WpC0 (Γ n args s1.hp) (fun v b h => b = true ∧ Q v { s1 with hp := h }) fun e h => E e { s1 with hp := h }) E s := by
  unfold fCallF
  rw [wp0_bind]
  congr 1
  funext args s1
  show WpR _ _ _ = _
  try dsimp only
  cases Γ n args s1.hp with
  | ok v b h => cases b <;> simp [ofRCF, wpC0_ok]
  | ex e h => rfl
  | no => rfl
theorem wp0_gRetCall {Γ : Env} {n : Nat} {g : M (List PV)} : Wp0 (gRetCall Γ n g) Q2 E s = Wp0 g (fun args s1 => WpC0 (Γ n args s1.hp) (fun v b h => Q2 (.rt v b) { s1 with hp := h }) fun e h => E e { s1 with hp := h }) E s := by
  unfold gRetCall
  rw [wp0_bind]
  congr 1
  funext args s1
  show WpR _ _ _ = _
  try dsimp only
  cases Γ n args s1.hp <;> rfl
def LsQ (o : Option (List PV)) (Q : List PV → Prop) : Prop := match o with
  | some z => Q z
  | none => False
@[simp ↓] theorem lsQ_some {z : List PV} {Q : List PV → Prop} : LsQ (some z) Q = Q z := rfl
@[simp ↓] theorem lsQ_none {Q : List PV → Prop} : LsQ none Q = False := rfl
@[simp ↓] theorem lsQ_nil {Q : List PV → Prop} : LsQ (rds s []) Q = Q [] := id rfl
@[simp ↓] theorem lsQ_cons {a : Loc} {ls : List Loc} {Q : List PV → Prop} : LsQ (rds s (a :: ls)) Q = OpQ (rd s a) fun x => LsQ (rds s ls) fun xs => Q (x :: xs) := by
  show LsQ (match rd s a, rds s ls with
    | some x, some xs => some (x :: xs)
    | _, _ => none) Q = _
  cases rd s a with
  | none => rfl
  | some x => cases rds s ls <;> rfl
theorem wp0_fB {g : M (List Loc)} {op : List PV → Option PV} : Wp0 (fB g op) Q1 E s = Wp0 g (fun ls s1 => LsQ (rds s1 ls) fun xs => OpQ (op xs) fun z => Q1 z s1) E s := by
  unfold fB
  rw [wp0_bind]
  congr 1
  funext ls s1
  show WpR _ _ _ = _
  try dsimp only
  cases rds s1 ls with
  | none => rfl
  | some xs => dsimp only [lsQ_some]; cases op xs <;> rfl
theorem wp0_fIx {fo fi : M Loc} : Wp0 (fIx fo fi) Q1 E s = Wp0 fo (fun la s1 => Wp0 fi (fun lb s2 => OpQ (rd s2 la) fun x => OpQ (rd s2 lb) fun y => OpQ (ixP s2 x y) fun z => Q1 z s2) E s1) E s := by
  unfold fIx
  simp only [wp0_bind]
  congr 1
  funext la s1
  congr 1
  funext lb s2
  show WpR _ _ _ = _
  try dsimp only
  cases rd s2 la with
  | none => rfl
  | some x => cases rd s2 lb with
    | none => rfl
    | some y => dsimp only [opQ_some]; cases ixP s2 x y <;> rfl
theorem wp0_fSome {f : M PV} {Q : Option Int → Fs → Prop} : Wp0 (fSome f) Q E s = Wp0 f (fun v s1 => match v with
    | .int i => Q (some i) s1
    | _ => False) E s := by
  unfold fSome
  rw [wp0_bind]
  congr 1
  funext v s1
  cases v <;> rfl
theorem wp0_fCut {fo : M Loc} {fl fh : M (Option Int)} : Wp0 (fCut fo fl fh) Q1 E s = Wp0 fo (fun a s1 => Wp0 fl (fun lo s2 => Wp0 fh (fun hi s3 => OpQ (rd s3 a) fun x => OpQ (cutP x lo hi) fun z => Q1 z s3) E s2) E s1) E s := by
  unfold fCut
  simp only [wp0_bind]
  congr 1
  funext a s1
  congr 1
  funext lo s2
  congr 1
  funext hi s3
  show WpR _ _ _ = _
  try dsimp only
  cases rd s3 a with
  | none => rfl
  | some x => dsimp only [opQ_some]; cases cutP x lo hi <;> rfl
theorem wp0_fMeth {t : Nat} {fo : M Loc} {g : M (List Loc)} {op : PV → List PV → Option PV} : Wp0 (fMeth' t fo g op) Q1 E s = Wp0 fo (fun a s1 => OpQ (rd s1 a) fun x1 => (tag x1 = t ∧ noObj x1 = true) ∧ Wp0 g (fun ls s2 => OpQ (rd s2 a) fun x => LsQ (rds s2 ls) fun xs => OpQ (op x xs) fun z => Q1 z s2) E s1) E s := by
  unfold fMeth' afterTag'
  rw [wp0_bind]
  congr 1
  funext a s1
  show WpR _ _ _ = _
  try dsimp only
  cases rd s1 a with
  | none => rfl
  | some x1 =>
    dsimp only [opQ_some]
    by_cases h : tag x1 = t ∧ noObj x1 = true
    · rw [if_pos h]
      simp only [h, true_and, and_true]
      show Wp0 (M.bind g fun ls => meth1 op a ls) Q1 E s1 = _
      rw [wp0_bind]
      congr 1
      funext ls s2
      show WpR (meth1 op a ls s2) _ _ = _
      unfold meth1
      cases rd s2 a with
      | none => rfl
      | some x => cases rds s2 ls with
        | none => rfl
        | some xs => dsimp only [opQ_some, lsQ_some]; cases op x xs <;> rfl
    · rw [if_neg h]
      simp [h]
theorem wp0_meth1 {g : M (List Loc)} {op : PV → List PV → Option PV} {a : Loc} : Wp0 (M.bind g fun ls => meth1 op a ls) Q1 E s = Wp0 g (fun ls s2 => OpQ (rd s2 a) fun x => LsQ (rds s2 ls) fun xs => OpQ (op x xs) fun z => Q1 z s2) E s := by
  rw [wp0_bind]
  congr 1
  funext ls s2
  show WpR (meth1 op a ls s2) _ _ = _
  unfold meth1
  cases rd s2 a with
  | none => rfl
  | some x => cases rds s2 ls with
    | none => rfl
    | some xs => dsimp only [opQ_some, lsQ_some]; cases op x xs <;> rfl
theorem wp0_fMeth2 {fo : M Loc} {g : M (List Loc)} {op op' : PV → List PV → Option PV} : Wp0 (fMeth2 fo g op op') Q1 E s = Wp0 fo (fun a s1 => OpQ (rd s1 a) fun x1 => match x1 with
    | .str _ => Wp0 g (fun ls s2 => OpQ (rd s2 a) fun x => LsQ (rds s2 ls) fun xs => OpQ (op x xs) fun z => Q1 z s2) E s1
    | .lst _ => Wp0 g (fun ls s2 => OpQ (rd s2 a) fun x => LsQ (rds s2 ls) fun xs => OpQ (op' x xs) fun z => Q1 z s2) E s1
    | _ => False) E s := by
  unfold fMeth2
  rw [wp0_bind]
  congr 1
  funext a s1
  show WpR _ _ _ = _
  try dsimp only
  cases rd s1 a with
  | none => rfl
  | some x1 =>
    dsimp only [opQ_some]
    cases x1 <;> first | rfl | exact wp0_meth1
theorem wp0_fMut {fo : M Loc} {g : M (List PV)} {mu : List PV → List PV → Option (PV × List PV)} : Wp0 (fMut fo g mu) Q1 E s = Wp0 fo (fun a s1 => (putL a s1).isSome = true ∧ Wp0 g (fun ls s2 => match putL a s2 with
    | none => False
    | some (xs, k) => match mu xs ls with
      | some (z, ys) => lenOk ys = true ∧ Q1 z (k ys)
      | none => False) E s1) E s := by
  unfold fMut
  rw [wp0_bind]
  congr 1
  funext a s1
  show WpR _ _ _ = _
  try dsimp only
  cases putL a s1 with
  | none => simp
  | some p =>
    simp only [Option.isSome_some, true_and]
    show Wp0 (M.bind g _) Q1 E s1 = _
    rw [wp0_bind]
    congr 1
    funext ls s2
    show WpR _ _ _ = _
    try dsimp only
    cases putL a s2 with
    | none => rfl
    | some p =>
      obtain ⟨xs, k⟩ := p
      dsimp only
      cases mu xs ls with
      | none => rfl
      | some q =>
        obtain ⟨z, ys⟩ := q
        dsimp only
        cases lenOk ys with
        | true => simp
        | false => simp
theorem wp0_gSetIx {f : M PV} {fo : M Loc} {fi : M PV} : Wp0 (gSetIx f fo fi) Q2 E s = Wp0 f (fun v s1 => Wp0 fo (fun a s2 => Wp0 fi (fun k s3 => SetQ (setIx a k v s3) fun s4 => Q2 .nx s4) E s2) E s1) E s := by
  unfold gSetIx
  simp only [wp0_bind]
  congr 1
  funext v s1
  congr 1
  funext a s2
  congr 1
  funext k s3
  show WpR _ _ _ = _
  try dsimp only
  cases setIx a k v s3 <;> rfl
theorem wp0_fBox {g : M (List PV)} : Wp0 (fBox g) Q1 E s = Wp0 g (fun xs s1 => lenOk xs = true ∧ Q1 (.obj s1.hp.length) { s1 with hp := s1.hp ++ [.box xs] }) E s := by
  unfold fBox
  rw [wp0_bind]
  congr 1
  funext xs s1
  show WpR _ _ _ = _
  try dsimp only
  cases lenOk xs with
  | true => simp
  | false => simp
theorem wp0_fIsi {fo : M Loc} {t : Nat} : Wp0 (fIsi fo t) Q1 E s = Wp0 fo (fun a s1 => OpQ (rd s1 a) fun x => match tyN x with
    | some k => Q1 (.bl (isN k t)) s1
    | none => False) E s := by
  unfold fIsi
  rw [wp0_bind]
  congr 1
  funext a s1
  show WpR _ _ _ = _
  try dsimp only
  cases rd s1 a with
  | none => rfl
  | some x => dsimp only [opQ_some]; cases tyN x <;> rfl
theorem wp0_fIsx {fo : M Loc} {sub : Nat → Option Bool} : Wp0 (fIsx fo sub) Q1 E s = Wp0 fo (fun a s1 => OpQ (rd s1 a) fun x => match x with
    | .exc k [] => match sub k with
      | some b => Q1 (.bl b) s1
      | none => False
    | _ => False) E s := by
  unfold fIsx
  rw [wp0_bind]
  congr 1
  funext a s1
  show WpR _ _ _ = _
  try dsimp only
  cases rd s1 a with
  | none => rfl
  | some x =>
    dsimp only [opQ_some]
    cases x with
    | exc k xs =>
      cases xs with
      | nil => dsimp only; cases sub k <;> rfl
      | cons _ _ => rfl
    | _ => rfl
theorem wp0_fSeq {f : M PV} {Q : List PV → Fs → Prop} : Wp0 (fSeq f) Q E s = Wp0 f (fun v s1 => match v with
    | .lst xs => Q xs s1
    | .tup xs => Q xs s1
    | .str x => Q (x.map ch) s1
    | _ => False) E s := by
  unfold fSeq
  rw [wp0_bind]
  congr 1
  funext v s1
  cases v <;> rfl
theorem wp0_fRng1 {f : M (List PV)} {Q : List PV → Fs → Prop} : Wp0 (fRng1 f) Q E s = Wp0 f (fun vs s1 => match vs with
    | [.int n] => inR n = true ∧ Q (rng1 n) s1
    | _ => False) E s := by
  unfold fRng1
  rw [wp0_bind]
  congr 1
  funext vs s1
  match vs with
  | [] => rfl
  | [.int n] =>
    dsimp only
    cases inR n with
    | true => simp only [if_true, true_and]; rfl
    | false => simp only [Bool.false_eq_true, if_false, false_and]; rfl
  | [.non] => rfl
  | [.bl _] => rfl
  | [.str _] => rfl
  | [.tup _] => rfl
  | [.lst _] => rfl
  | [.dic _] => rfl
  | [.obj _] => rfl
  | [.exc _ _] => rfl
  | [.fn _] => rfl
  | [.scr _] => rfl
  | a :: b :: r => cases a <;> rfl
theorem wp0_fEnum {f : M (List PV)} {Q : List PV → Fs → Prop} : Wp0 (fEnum f) Q E s = Wp0 f (fun vs s1 => match vs with
    | [.lst xs] => Q (xs.zipIdx.map fun p => .tup [.int (p.2 : Nat), p.1]) s1
    | _ => False) E s := by
  unfold fEnum
  rw [wp0_bind]
  congr 1
  funext vs s1
  match vs with
  | [] => rfl
  | [x] => cases x <;> rfl
  | a :: b :: r => cases a <;> rfl
/-! ### a def called -/
theorem wpC0_fn {T : Table} {d n : Nat} {args : List PV} {h : List Ob} {F : Fd} {Q : PV → Bool → List Ob → Prop} {E : PV → List Ob → Prop} (hT : T n = some F) (hl : args.length = F.np)
    (hb : Wp0 (F.body (G T d)) (fun fl s => match fl with
      | .nx => Q .non false s.hp
      | .rt v b => Q v b s.hp
      | _ => False) (fun e s => E e s.hp) ⟨start0 F.np F.ns args, h⟩) : WpC0 (G T (d + 1) n args h) Q E := by
  show WpC0 (match T n with
    | some F => runBody F (G T d) args h
    | none => .no) Q E
  rw [hT]
  dsimp only
  unfold runBody
  rw [if_pos hl]
  revert hb
  unfold Wp0
  cases F.body (G T d) ⟨start0 F.np F.ns args, h⟩ with
  | ok fl s => cases fl <;> exact fun h => h
  | ex e s => exact fun h => h
  | no => exact fun h => h
end Mi
namespace Mi
/-- one statement that goes on, then the rest -/
theorem wp0_seq {f g : M Fl} {Q : Fl → Fs → Prop} {E : PV → Fs → Prop} {s : Fs} (s' : Fs) (h : Wp0 f (fun fl s1 => fl = .nx ∧ s1 = s') (fun _ _ => False) s) (h2 : Wp0 g Q E s') : Wp0 (gSeq f g) Q E s := by
  rw [wp0_gSeq]
  refine wp0_imp h (fun fl s1 q => ?_) fun _ _ q => q.elim
  obtain ⟨rfl, rfl⟩ := q
  exact h2
/-- .. where the new state is known by what is true of it -/
theorem wp0_seq' {f g : M Fl} {Q : Fl → Fs → Prop} {E : PV → Fs → Prop} {s : Fs} (P : Fs → Prop) (h : Wp0 f (fun fl s1 => fl = .nx ∧ P s1) (fun _ _ => False) s) (h2 : ∀ s', P s' → Wp0 g Q E s') : Wp0 (gSeq f g) Q E s := by
  rw [wp0_gSeq]
  refine wp0_imp h (fun fl s1 q => ?_) fun _ _ q => q.elim
  obtain ⟨rfl, q⟩ := q
  exact h2 s1 q
end Mi

namespace Mi
/-! ### the same as structures -/
structure Wp {α : Type} (m : M α) (Q : α → Fs → Prop) (E : PV → Fs → Prop) (s : Fs) : Prop where
  run : Wp0 m Q E s
structure WpC (r : RC) (Q : PV → Bool → List Ob → Prop) (E : PV → List Ob → Prop) : Prop where
  run : WpC0 r Q E
theorem wp_eq0 {α : Type} {m : M α} {Q : α → Fs → Prop} {E : PV → Fs → Prop} {s : Fs} : Wp m Q E s = Wp0 m Q E s := propext ⟨fun h => h.run, fun h => ⟨h⟩⟩
theorem wpC_eq0 {r : RC} {Q : PV → Bool → List Ob → Prop} {E : PV → List Ob → Prop} : WpC r Q E = WpC0 r Q E := propext ⟨fun h => h.run, fun h => ⟨h⟩⟩
variable {α β : Type} {Q : α → Fs → Prop} {E : PV → Fs → Prop} {s : Fs} {l : List Slot} {hp : List Ob} {i j : Nat} {Q1 : PV → Fs → Prop} {Q2 : Fl → Fs → Prop}
@[simp ↓] theorem wpC_ok {v b h Q E} : WpC (.ok v b h) Q E = Q v b h := by
  simp only [wp_eq0, wpC_eq0]
  exact wpC0_ok
@[simp ↓] theorem wpC_ex {e h Q E} : WpC (.ex e h) Q E = E e h := by
  simp only [wp_eq0, wpC_eq0]
  exact wpC0_ex
@[simp ↓] theorem wpC_no {Q E} : WpC .no Q E = False := by
  simp only [wp_eq0, wpC_eq0]
  exact wpC0_no
theorem wp_imp {m : M α} {Q' : α → Fs → Prop} {E' : PV → Fs → Prop} (h : Wp m Q E s) (hq : ∀ a s, Q a s → Q' a s) (he : ∀ e s, E e s → E' e s) : Wp m Q' E' s := by
  simp only [wp_eq0, wpC_eq0] at *
  exact wp0_imp h hq he
theorem wpC_imp {r : RC} {Q Q' : PV → Bool → List Ob → Prop} {E E' : PV → List Ob → Prop} (h : WpC r Q E) (hq : ∀ a b s, Q a b s → Q' a b s) (he : ∀ e s, E e s → E' e s) : WpC r Q' E' := by
  simp only [wp_eq0, wpC_eq0] at *
  exact wpC0_imp h hq he
@[simp ↓] theorem wp_pure {a : α} : Wp (M.pure a) Q E s = Q a s := by
  simp only [wp_eq0, wpC_eq0]
  exact wp0_pure
@[simp ↓] theorem wp_bind {f : M β} {g : β → M α} : Wp (M.bind f g) Q E s = Wp f (fun a s' => Wp (g a) Q E s') E s := by
  simp only [wp_eq0, wpC_eq0]
  exact wp0_bind
@[simp ↓] theorem wp_ite {c : Prop} [Decidable c] {f g : M α} : Wp (if c then f else g) Q E s ↔ (c → Wp f Q E s) ∧ (¬ c → Wp g Q E s) := by
  simp only [wp_eq0, wpC_eq0]
  exact wp0_ite
@[simp ↓] theorem wp_fVar {Q : PV → Fs → Prop} : Wp (fVar i) Q E ⟨l, hp⟩ = SlQ l i fun x => match x with
    | .sh v => Q v ⟨l, hp⟩
    | .ow c => Q c ⟨l.set i (.sh c), hp⟩
    | .un => False := by
  simp only [wp_eq0, wpC_eq0]
  exact wp0_fVar
@[simp ↓] theorem wp_fAt {Q : Loc → Fs → Prop} : Wp (fAt i) Q E ⟨l, hp⟩ = SlQ l i fun x => match x with
    | .sh _ => Q (.at i) ⟨l, hp⟩
    | .ow _ => Q (.at i) ⟨l, hp⟩
    | .un => False := by
  simp only [wp_eq0, wpC_eq0]
  exact wp0_fAt
@[simp ↓] theorem wp_fLoc {f : M PV} {Q : Loc → Fs → Prop} : Wp (fLoc f) Q E s = Wp f (fun v s => Q (.val v) s) E s := by
  simp only [wp_eq0, wpC_eq0]
  exact wp0_fLoc
@[simp ↓] theorem wp_fOp2 {fa fb : M Loc} {op : PV → PV → Option PV} : Wp (fOp2 fa fb op) Q1 E s = Wp fa (fun la s1 => Wp fb (fun lb s2 => OpQ (rd s2 la) fun x => OpQ (rd s2 lb) fun y => OpQ (op x y) fun z => Q1 z s2) E s1) E s := by
  simp only [wp_eq0, wpC_eq0]
  exact wp0_fOp2
@[simp ↓] theorem wp_asB {f : M PV} {Q : Bool → Fs → Prop} : Wp (asB f) Q E s = Wp f (fun v s1 => match v with
    | .bl b => Q b s1
    | _ => False) E s := by
  simp only [wp_eq0, wpC_eq0]
  exact wp0_asB
@[simp ↓] theorem wp_fChain {fa fb fc : M Loc} {op op2 : PV → PV → Option PV} : Wp (fChain fa fb fc op op2) Q1 E s = Wp fa (fun la s1 => Wp fb (fun lb s2 => OpQ (rd s2 la) fun x => OpQ (rd s2 lb) fun y => OpQ (op x y) fun z => match z with
      | .bl true => Wp fc (fun lc s3 => OpQ (rd s3 lb) fun y2 => OpQ (rd s3 lc) fun z => OpQ (op2 y2 z) fun w => Q1 w s3) E s2
      | .bl false => Q1 (.bl false) s2
      | _ => False) E s1) E s := by
  simp only [wp_eq0, wpC_eq0]
  exact wp0_fChain
@[simp ↓] theorem wp_no : Wp (fun _ => (.no : R α)) Q E s = False := by
  simp only [wp_eq0, wpC_eq0]
  exact wp0_no
@[simp ↓] theorem wp_fAnd {f g : M Bool} {Q : Bool → Fs → Prop} : Wp (fAnd f g) Q E s = Wp f (fun b s1 => if b = true then Wp g Q E s1 else Q false s1) E s := by
  simp only [wp_eq0, wpC_eq0]
  exact wp0_fAnd
@[simp ↓] theorem wp_fOr {f g : M Bool} {Q : Bool → Fs → Prop} : Wp (fOr f g) Q E s = Wp f (fun b s1 => if b = true then Q true s1 else Wp g Q E s1) E s := by
  simp only [wp_eq0, wpC_eq0]
  exact wp0_fOr
@[simp ↓] theorem wp_fNot {f : M Bool} {Q : Bool → Fs → Prop} : Wp (fNot f) Q E s = Wp f (fun b s1 => Q (!b) s1) E s := by
  simp only [wp_eq0, wpC_eq0]
  exact wp0_fNot
@[simp ↓] theorem wp_fIte {c : M Bool} {f g : M α} : Wp (fIte c f g) Q E s = Wp c (fun b s1 => if b = true then Wp f Q E s1 else Wp g Q E s1) E s := by
  simp only [wp_eq0, wpC_eq0]
  exact wp0_fIte
@[simp ↓] theorem wp_fNil {Q : List PV → Fs → Prop} : Wp fNil Q E s = Q [] s := by
  simp only [wp_eq0, wpC_eq0]
  exact wp0_fNil
@[simp ↓] theorem wp_fCons {f : M PV} {g : M (List PV)} {Q : List PV → Fs → Prop} : Wp (fCons f g) Q E s = Wp f (fun x s1 => Wp g (fun xs s2 => Q (x :: xs) s2) E s1) E s := by
  simp only [wp_eq0, wpC_eq0]
  exact wp0_fCons
@[simp ↓] theorem wp_fTup {g : M (List PV)} {Q : PV → Fs → Prop} : Wp (fTup g) Q E s = Wp g (fun xs s1 => lenOk xs = true ∧ Q (.tup xs) s1) E s := by
  simp only [wp_eq0, wpC_eq0]
  exact wp0_fTup
@[simp ↓] theorem wp_fLst {g : M (List PV)} {Q : PV → Fs → Prop} : Wp (fLst g) Q E s = Wp g (fun xs s1 => lenOk xs = true ∧ Q (.lst xs) s1) E s := by
  simp only [wp_eq0, wpC_eq0]
  exact wp0_fLst
@[simp ↓] theorem wp_gNx {Q : Fl → Fs → Prop} : Wp gNx Q E s = Q .nx s := by
  simp only [wp_eq0, wpC_eq0]
  exact wp0_gNx
@[simp ↓] theorem wp_gIf {c : M Bool} {f g : M Fl} {Q : Fl → Fs → Prop} : Wp (gIf c f g) Q E s = Wp c (fun b s1 => if b = true then Wp f Q E s1 else Wp g Q E s1) E s := by
  simp only [wp_eq0, wpC_eq0]
  exact wp0_gIf
@[simp ↓] theorem wp_gRet {f : M PV} {Q : Fl → Fs → Prop} : Wp (gRet f) Q E s = Wp f (fun v s1 => Q (.rt v false) s1) E s := by
  simp only [wp_eq0, wpC_eq0]
  exact wp0_gRet
@[simp ↓] theorem wp_gRetF {f : M PV} {Q : Fl → Fs → Prop} : Wp (gRetF f) Q E s = Wp f (fun v s1 => Q (.rt v true) s1) E s := by
  simp only [wp_eq0, wpC_eq0]
  exact wp0_gRetF
@[simp ↓] theorem wp_gDrop {f : M PV} {Q : Fl → Fs → Prop} : Wp (gDrop f) Q E s = Wp f (fun _ s1 => Q .nx s1) E s := by
  simp only [wp_eq0, wpC_eq0]
  exact wp0_gDrop
@[simp ↓] theorem wp_tYesM {Q : Bool → Fs → Prop} : Wp tYesM Q E s = Q true s := by
  simp only [wp_eq0, wpC_eq0]
  exact wp0_tYesM
@[simp ↓] theorem wp_fONil {Q : List Loc → Fs → Prop} : Wp fONil Q E s = Q [] s := by
  simp only [wp_eq0, wpC_eq0]
  exact wp0_fONil
@[simp ↓] theorem wp_fOCons {f : M Loc} {g : M (List Loc)} {Q : List Loc → Fs → Prop} : Wp (fOCons f g) Q E s = Wp f (fun x s1 => Wp g (fun xs s2 => Q (x :: xs) s2) E s1) E s := by
  simp only [wp_eq0, wpC_eq0]
  exact wp0_fOCons
@[simp ↓] theorem wp_fNone {Q : Option Int → Fs → Prop} : Wp fNone Q E s = Q none s := by
  simp only [wp_eq0, wpC_eq0]
  exact wp0_fNone
@[simp ↓] theorem wp_fDic {Q : PV → Fs → Prop} : Wp fDic Q E s = Q (.dic []) s := by
  simp only [wp_eq0, wpC_eq0]
  exact wp0_fDic
@[simp ↓] theorem wp_fAndV {f g : M PV} : Wp (fAndV f g) Q1 E s = Wp f (fun v s1 => match v with
    | .bl true => Wp g Q1 E s1
    | .bl false => Q1 (.bl false) s1
    | _ => False) E s := by
  simp only [wp_eq0, wpC_eq0]
  exact wp0_fAndV
@[simp ↓] theorem wp_fOrV {f g : M PV} : Wp (fOrV f g) Q1 E s = Wp f (fun v s1 => match v with
    | .bl true => Q1 (.bl true) s1
    | .bl false => Wp g Q1 E s1
    | _ => False) E s := by
  simp only [wp_eq0, wpC_eq0]
  exact wp0_fOrV
@[simp ↓] theorem wp_fNotV {f : M PV} : Wp (fNotV f) Q1 E s = Wp f (fun v s1 => match v with
    | .bl b => Q1 (.bl (!b)) s1
    | _ => False) E s := by
  simp only [wp_eq0, wpC_eq0]
  exact wp0_fNotV
@[simp ↓] theorem wp_gSeq {f g : M Fl} : Wp (gSeq f g) Q2 E s = Wp f (fun fl s1 => match fl with
    | .nx => Wp g Q2 E s1
    | r => Q2 r s1) E s := by
  simp only [wp_eq0, wpC_eq0]
  exact wp0_gSeq
@[simp ↓] theorem wp_gRetN : Wp (gRetN i) Q2 E ⟨l, hp⟩ = SlQ l i fun x => match x with
    | .sh v => Q2 (.rt v false) ⟨l, hp⟩
    | .ow v => Q2 (.rt v true) ⟨l.set i .un, hp⟩
    | .un => False := by
  simp only [wp_eq0, wpC_eq0]
  exact wp0_gRetN
@[simp ↓] theorem wp_gAsg {f : M PV} {g : PV → Fs → Option Fs} : Wp (gAsg f g) Q2 E s = Wp f (fun v s1 => SetQ (g v s1) fun s2 => Q2 .nx s2) E s := by
  simp only [wp_eq0, wpC_eq0]
  exact wp0_gAsg
@[simp ↓] theorem wp_gOwn {f : M PV} : Wp (gOwn f i) Q2 E s = Wp f (fun v s1 => Q2 .nx { s1 with sl := s1.sl.set i (.ow v) }) E s := by
  simp only [wp_eq0, wpC_eq0]
  exact wp0_gOwn
@[simp ↓] theorem wp_gPar {g : M (List PV)} : Wp (gPar i j g) Q2 E s = Wp g (fun vs s1 => match vs with
    | [v, w] => Q2 .nx { s1 with sl := (s1.sl.set i (.sh v)).set j (.sh w) }
    | _ => False) E s := by
  simp only [wp_eq0, wpC_eq0]
  exact wp0_gPar
@[simp ↓] theorem wp_gRaise {c : Nat} : Wp (gRaise c) Q2 E s = E (.exc c []) s := by
  simp only [wp_eq0, wpC_eq0]
  exact wp0_gRaise
@[simp ↓] theorem wp_gFor {f : M (List PV)} {g : PV → Fs → Option Fs} {b : M Fl} : Wp (gFor f g b) Q2 E s = Wp f (fun xs s1 => Wp (loopF g b xs) Q2 E s1) E s := by
  simp only [wp_eq0, wpC_eq0]
  exact wp0_gFor
@[simp ↓] theorem wp_loop_nil {g : PV → Fs → Option Fs} {b : M Fl} : Wp (loopF g b []) Q2 E s = Q2 .nx s := by
  simp only [wp_eq0, wpC_eq0]
  exact wp0_loop_nil
theorem wp_loop_cons {g : PV → Fs → Option Fs} {b : M Fl} {x : PV} {xs : List PV} : Wp (loopF g b (x :: xs)) Q2 E s = SetQ (g x s) fun s1 => Wp b (fun fl s2 => match fl with
    | .nx => Wp (loopF g b xs) Q2 E s2
    | .ct => Wp (loopF g b xs) Q2 E s2
    | .bk => Q2 .nx s2
    | .rt v k => Q2 (.rt v k) s2) E s1 := by
  simp only [wp_eq0, wpC_eq0]
  exact wp0_loop_cons
theorem wp_loop {g : PV → Fs → Option Fs} {b : M Fl} (I : List PV → Fs → Prop) {xs : List PV} (h0 : I xs s)
    (hs : ∀ x r s, I (x :: r) s → SetQ (g x s) fun s1 => Wp b (fun fl s2 => match fl with
      | .nx => I r s2
      | .ct => I r s2
      | .bk => Q2 .nx s2
      | .rt v k => Q2 (.rt v k) s2) E s1) (he : ∀ s, I [] s → Q2 .nx s) : Wp (loopF g b xs) Q2 E s := by
  simp only [wp_eq0, wpC_eq0] at *
  exact wp0_loop I h0 hs he
theorem wp_while {c : M Bool} {b : M Fl} (I : Nat → Fs → Prop) {m n : Nat} (hm : m < n) (h0 : I m s)
    (hs : ∀ k s, I k s → Wp c (fun t s1 => if t = true then Wp b (fun fl s2 => match fl with
      | .nx => ∃ k', k' < k ∧ I k' s2
      | .ct => ∃ k', k' < k ∧ I k' s2
      | .bk => Q2 .nx s2
      | .rt v f => Q2 (.rt v f) s2) E s1 else Q2 .nx s1) E s) : Wp (gWhile c b n) Q2 E s := by
  simp only [wp_eq0, wpC_eq0] at *
  exact wp0_while I hm h0 hs
theorem wp_compF {vs : List Nat} {g : PV → Fs → Option Fs} {t : M Bool} {e : M PV} {Q : List PV → Fs → Prop} (I : List PV → List PV → Fs → Prop) {xs acc : List PV} (h0 : I xs acc s)
    (hs : ∀ x r acc s, I (x :: r) acc s → SetQ (g x { s with sl := wipeS s.sl vs }) fun s1 => Wp t (fun b s2 => if b = true then Wp e (fun y s3 => I r (acc ++ [y]) s3) (fun _ _ => False) s2 else I r acc s2) (fun _ _ => False) s1)
    (he : ∀ acc s, I [] acc s → Q acc s) : Wp (compF vs g t e xs) (fun ys s' => Q (acc ++ ys) s') (fun _ _ => False) s := by
  simp only [wp_eq0, wpC_eq0] at *
  exact wp0_compF I h0 hs he
theorem wp_fComp {f : M (List PV)} {vs : List Nat} {g : PV → Fs → Option Fs} {t : M Bool} {e : M PV} {Q : PV → Fs → Prop} : Wp (fComp f vs g t e) Q E s = Wp f (fun items s1 => okV s1.sl vs = true ∧ Wp (compF vs g t e items) (fun xs s' => lenOk xs = true ∧ Q (.lst xs) { s' with sl := backS s1.sl s'.sl vs }) (fun _ _ => False) s1) E s := by
  simp only [wp_eq0, wpC_eq0]
  exact wp0_fComp
theorem wp_comp {f : M (List PV)} {vs : List Nat} {g : PV → Fs → Option Fs} {t : M Bool} {e : M PV} {Q : PV → Fs → Prop} (h : Wp f (fun items s1 => okV s1.sl vs = true ∧ ∃ I : List PV → List PV → Fs → Prop, I items [] s1 ∧
    (∀ x r acc s, I (x :: r) acc s → SetQ (g x { s with sl := wipeS s.sl vs }) fun s1 => Wp t (fun b s2 => if b = true then Wp e (fun y s3 => I r (acc ++ [y]) s3) (fun _ _ => False) s2 else I r acc s2) (fun _ _ => False) s1) ∧
    ∀ acc s, I [] acc s → lenOk acc = true ∧ Q (.lst acc) { s with sl := backS s1.sl s.sl vs }) E s) : Wp (fComp f vs g t e) Q E s := by
  simp only [wp_eq0, wpC_eq0] at *
  exact wp0_comp h
@[simp ↓] theorem wp_fCall {Γ : Env} {n : Nat} {g : M (List PV)} {Q : PV → Fs → Prop} : Wp (fCall Γ n g) Q E s = Wp g (fun args s1 => WpC (Γ n args s1.hp) (fun v _ h => Q v { s1 with hp := h }) fun e h => E e { s1 with hp := h }) E s := by
  simp only [wp_eq0, wpC_eq0]
  exact wp0_fCall
@[simp ↓] theorem wp_fCallF {Γ : Env} {n : Nat} {g : M (List PV)} {Q : PV → Fs → Prop} : Wp (fCallF Γ n g) Q E s = Wp g (fun args s1 => WpC (Γ n args s1.hp) (fun v b h => b = true ∧ Q v { s1 with hp := h }) fun e h => E e { s1 with hp := h }) E s := by
  simp only [wp_eq0, wpC_eq0]
  exact wp0_fCallF
@[simp ↓] theorem wp_gRetCall {Γ : Env} {n : Nat} {g : M (List PV)} : Wp (gRetCall Γ n g) Q2 E s = Wp g (fun args s1 => WpC (Γ n args s1.hp) (fun v b h => Q2 (.rt v b) { s1 with hp := h }) fun e h => E e { s1 with hp := h }) E s := by
  simp only [wp_eq0, wpC_eq0]
  exact wp0_gRetCall
@[simp ↓] theorem wp_fB {g : M (List Loc)} {op : List PV → Option PV} : Wp (fB g op) Q1 E s = Wp g (fun ls s1 => LsQ (rds s1 ls) fun xs => OpQ (op xs) fun z => Q1 z s1) E s := by
  simp only [wp_eq0, wpC_eq0]
  exact wp0_fB
@[simp ↓] theorem wp_fIx {fo fi : M Loc} : Wp (fIx fo fi) Q1 E s = Wp fo (fun la s1 => Wp fi (fun lb s2 => OpQ (rd s2 la) fun x => OpQ (rd s2 lb) fun y => OpQ (ixP s2 x y) fun z => Q1 z s2) E s1) E s := by
  simp only [wp_eq0, wpC_eq0]
  exact wp0_fIx
@[simp ↓] theorem wp_fSome {f : M PV} {Q : Option Int → Fs → Prop} : Wp (fSome f) Q E s = Wp f (fun v s1 => match v with
    | .int i => Q (some i) s1
    | _ => False) E s := by
  simp only [wp_eq0, wpC_eq0]
  exact wp0_fSome
@[simp ↓] theorem wp_fCut {fo : M Loc} {fl fh : M (Option Int)} : Wp (fCut fo fl fh) Q1 E s = Wp fo (fun a s1 => Wp fl (fun lo s2 => Wp fh (fun hi s3 => OpQ (rd s3 a) fun x => OpQ (cutP x lo hi) fun z => Q1 z s3) E s2) E s1) E s := by
  simp only [wp_eq0, wpC_eq0]
  exact wp0_fCut
@[simp ↓] theorem wp_fMeth {t : Nat} {fo : M Loc} {g : M (List Loc)} {op : PV → List PV → Option PV} : Wp (fMeth' t fo g op) Q1 E s = Wp fo (fun a s1 => OpQ (rd s1 a) fun x1 => (tag x1 = t ∧ noObj x1 = true) ∧ Wp g (fun ls s2 => OpQ (rd s2 a) fun x => LsQ (rds s2 ls) fun xs => OpQ (op x xs) fun z => Q1 z s2) E s1) E s := by
  simp only [wp_eq0, wpC_eq0]
  exact wp0_fMeth
@[simp ↓] theorem wp_fMeth2 {fo : M Loc} {g : M (List Loc)} {op op' : PV → List PV → Option PV} : Wp (fMeth2 fo g op op') Q1 E s = Wp fo (fun a s1 => OpQ (rd s1 a) fun x1 => match x1 with
    | .str _ => Wp g (fun ls s2 => OpQ (rd s2 a) fun x => LsQ (rds s2 ls) fun xs => OpQ (op x xs) fun z => Q1 z s2) E s1
    | .lst _ => Wp g (fun ls s2 => OpQ (rd s2 a) fun x => LsQ (rds s2 ls) fun xs => OpQ (op' x xs) fun z => Q1 z s2) E s1
    | _ => False) E s := by
  simp only [wp_eq0, wpC_eq0]
  exact wp0_fMeth2
@[simp ↓] theorem wp_fMut {fo : M Loc} {g : M (List PV)} {mu : List PV → List PV → Option (PV × List PV)} : Wp (fMut fo g mu) Q1 E s = Wp fo (fun a s1 => (putL a s1).isSome = true ∧ Wp g (fun ls s2 => match putL a s2 with
    | none => False
    | some (xs, k) => match mu xs ls with
      | some (z, ys) => lenOk ys = true ∧ Q1 z (k ys)
      | none => False) E s1) E s := by
  simp only [wp_eq0, wpC_eq0]
  exact wp0_fMut
@[simp ↓] theorem wp_gSetIx {f : M PV} {fo : M Loc} {fi : M PV} : Wp (gSetIx f fo fi) Q2 E s = Wp f (fun v s1 => Wp fo (fun a s2 => Wp fi (fun k s3 => SetQ (setIx a k v s3) fun s4 => Q2 .nx s4) E s2) E s1) E s := by
  simp only [wp_eq0, wpC_eq0]
  exact wp0_gSetIx
@[simp ↓] theorem wp_fBox {g : M (List PV)} : Wp (fBox g) Q1 E s = Wp g (fun xs s1 => lenOk xs = true ∧ Q1 (.obj s1.hp.length) { s1 with hp := s1.hp ++ [.box xs] }) E s := by
  simp only [wp_eq0, wpC_eq0]
  exact wp0_fBox
@[simp ↓] theorem wp_fIsi {fo : M Loc} {t : Nat} : Wp (fIsi fo t) Q1 E s = Wp fo (fun a s1 => OpQ (rd s1 a) fun x => match tyN x with
    | some k => Q1 (.bl (isN k t)) s1
    | none => False) E s := by
  simp only [wp_eq0, wpC_eq0]
  exact wp0_fIsi
@[simp ↓] theorem wp_fIsx {fo : M Loc} {sub : Nat → Option Bool} : Wp (fIsx fo sub) Q1 E s = Wp fo (fun a s1 => OpQ (rd s1 a) fun x => match x with
    | .exc k [] => match sub k with
      | some b => Q1 (.bl b) s1
      | none => False
    | _ => False) E s := by
  simp only [wp_eq0, wpC_eq0]
  exact wp0_fIsx
@[simp ↓] theorem wp_fSeq {f : M PV} {Q : List PV → Fs → Prop} : Wp (fSeq f) Q E s = Wp f (fun v s1 => match v with
    | .lst xs => Q xs s1
    | .tup xs => Q xs s1
    | .str x => Q (x.map ch) s1
    | _ => False) E s := by
  simp only [wp_eq0, wpC_eq0]
  exact wp0_fSeq
@[simp ↓] theorem wp_fRng1 {f : M (List PV)} {Q : List PV → Fs → Prop} : Wp (fRng1 f) Q E s = Wp f (fun vs s1 => match vs with
    | [.int n] => inR n = true ∧ Q (rng1 n) s1
    | _ => False) E s := by
  simp only [wp_eq0, wpC_eq0]
  exact wp0_fRng1
@[simp ↓] theorem wp_fEnum {f : M (List PV)} {Q : List PV → Fs → Prop} : Wp (fEnum f) Q E s = Wp f (fun vs s1 => match vs with
    | [.lst xs] => Q (xs.zipIdx.map fun p => .tup [.int (p.2 : Nat), p.1]) s1
    | _ => False) E s := by
  simp only [wp_eq0, wpC_eq0]
  exact wp0_fEnum
theorem wpC_fn {T : Table} {d n : Nat} {args : List PV} {h : List Ob} {F : Fd} {Q : PV → Bool → List Ob → Prop} {E : PV → List Ob → Prop} (hT : T n = some F) (hl : args.length = F.np)
    (hb : Wp (F.body (G T d)) (fun fl s => match fl with
      | .nx => Q .non false s.hp
      | .rt v b => Q v b s.hp
      | _ => False) (fun e s => E e s.hp) ⟨start0 F.np F.ns args, h⟩) : WpC (G T (d + 1) n args h) Q E := by
  simp only [wp_eq0, wpC_eq0] at *
  exact wpC0_fn hT hl hb
theorem wp_seq {f g : M Fl} {Q : Fl → Fs → Prop} {E : PV → Fs → Prop} {s : Fs} (s' : Fs) (h : Wp f (fun fl s1 => fl = .nx ∧ s1 = s') (fun _ _ => False) s) (h2 : Wp g Q E s') : Wp (gSeq f g) Q E s := by
  simp only [wp_eq0, wpC_eq0] at *
  exact wp0_seq s' h h2
theorem wp_seq' {f g : M Fl} {Q : Fl → Fs → Prop} {E : PV → Fs → Prop} {s : Fs} (P : Fs → Prop) (h : Wp f (fun fl s1 => fl = .nx ∧ P s1) (fun _ _ => False) s) (h2 : ∀ s', P s' → Wp g Q E s') : Wp (gSeq f g) Q E s := by
  simp only [wp_eq0, wpC_eq0] at *
  exact wp0_seq' P h h2
end Mi
end S_Mi22
section S_Mi23
set_option Elab.async false
set_option linter.all false
set_option maxRecDepth 100000
set_option maxHeartbeats 4000000
/-! operators on plain values, for simp -/
namespace Mi
open PySem
variable {Q : PV → Prop} {i j : Int} {a b : S} {xs ys : List PV}
@[simp ↓] theorem addP_int : OpQ (addP (.int i) (.int j)) Q = Q (.int (i + j)) := id rfl
@[simp ↓] theorem addP_str : OpQ (addP (.str a) (.str b)) Q ↔ a.length + b.length ≤ sizeLine ∧ Q (.str (a ++ b)) := by
  show OpQ (if _ then _ else _) Q ↔ _
  rw [opQ_ite]
@[simp ↓] theorem addP_lst : OpQ (addP (.lst xs) (.lst ys)) Q ↔ xs.length + ys.length ≤ sizeLine ∧ Q (.lst (xs ++ ys)) := by
  show OpQ (if _ then _ else _) Q ↔ _
  rw [opQ_ite]
@[simp ↓] theorem subP_int : OpQ (subP (.int i) (.int j)) Q = Q (.int (i - j)) := id rfl
theorem log2_le {n k : Nat} (h : n < 2 ^ (k + 1)) : n.log2 ≤ k := by
  by_cases h0 : n = 0
  · subst h0; simp
  · exact Nat.lt_succ_iff.mp ((Nat.log2_lt h0).mpr h)
/-- a product that stays in the line -/
def mulOk (i j : Int) : Prop := i.natAbs.log2 + j.natAbs.log2 < 1000000
@[simp ↓] theorem mulP_int : OpQ (mulP (.int i) (.int j)) Q ↔ mulOk i j ∧ Q (.int (i * j)) := by
  show OpQ (if _ then _ else _) Q ↔ _
  rw [opQ_ite]
  rfl
theorem log2_lt_k {n : Nat} (k : Nat) (h : n < 2 ^ k) : n.log2 ≤ k := by
  by_cases h0 : n = 0
  · subst h0; simp
  · exact Nat.le_of_lt ((Nat.log2_lt h0).mpr h)
theorem mulOk_k (k : Nat) (hk : k ≤ 400000) (h1 : i.natAbs < 2 ^ k) (h2 : j.natAbs < 2 ^ k) : mulOk i j := by
  have a := log2_lt_k k h1
  have b := log2_lt_k k h2
  unfold mulOk
  omega
theorem mulOk_64 (h1 : -18446744073709551616 < i ∧ i < 18446744073709551616) (h2 : -18446744073709551616 < j ∧ j < 18446744073709551616) : mulOk i j :=
  mulOk_k 64 (by omega) (by omega) (by omega)
def powOk (i j : Int) : Prop := 0 ≤ j ∧ j ≤ 1000000 ∧ i.natAbs < 2 ^ 64
def divOk (j : Int) : Prop := 0 < j ∧ j.natAbs.log2 < 9000
theorem divOk_64 (h1 : 0 < j) (h2 : j < 18446744073709551616) : divOk j := by
  have := log2_lt_k (n := j.natAbs) 64 (by omega)
  exact ⟨h1, by omega⟩
@[simp ↓] theorem mulP_str : OpQ (mulP (.str a) (.int j)) Q ↔ (-(2 ^ 63) ≤ j ∧ j < 2 ^ 63 ∧ j.toNat * a.length ≤ sizeLine) ∧ Q (.str (repS j.toNat a)) := by
  show OpQ (if _ then _ else _) Q ↔ _
  rw [opQ_ite]
@[simp ↓] theorem mulP_lst : OpQ (mulP (.lst xs) (.int j)) Q ↔ (-(2 ^ 63) ≤ j ∧ j < 2 ^ 63 ∧ xs.length * j.toNat ≤ sizeLine) ∧ Q (.lst (List.replicate j.toNat xs).flatten) := by
  show OpQ (if _ then _ else _) Q ↔ _
  rw [opQ_ite]
@[simp ↓] theorem fdivP_int : OpQ (fdivP (.int i) (.int j)) Q ↔ divOk j ∧ Q (.int (i / j)) := by
  show OpQ (if _ then _ else _) Q ↔ _
  rw [opQ_ite]
  simp [divOk]
@[simp ↓] theorem modP_int : OpQ (modP (.int i) (.int j)) Q ↔ 0 < j ∧ Q (.int (i % j)) := by
  show OpQ (if _ then _ else _) Q ↔ _
  rw [opQ_ite]
  simp
@[simp ↓] theorem powP_int : OpQ (powP (.int i) (.int j)) Q ↔ powOk i j ∧ Q (.int (i ^ j.toNat)) := by
  show OpQ (if _ then _ else _) Q ↔ _
  rw [opQ_ite]
  simp [powOk]
@[simp ↓] theorem ltP_int : OpQ (ltP (.int i) (.int j)) Q = Q (.bl (decide (i < j))) := id rfl
@[simp ↓] theorem leP_int : OpQ (leP (.int i) (.int j)) Q = Q (.bl (decide (i ≤ j))) := id rfl
@[simp ↓] theorem gtP_int : OpQ (gtP (.int i) (.int j)) Q = Q (.bl (decide (j < i))) := id rfl
@[simp ↓] theorem geP_int : OpQ (geP (.int i) (.int j)) Q = Q (.bl (decide (j ≤ i))) := id rfl
@[simp ↓] theorem eqP_int : OpQ (eqP (.int i) (.int j)) Q = Q (.bl (decide (i = j))) := id rfl
@[simp ↓] theorem neP_int : OpQ (neP (.int i) (.int j)) Q = Q (.bl (!decide (i = j))) := id rfl
@[simp ↓] theorem eqP_str : OpQ (eqP (.str a) (.str b)) Q = Q (.bl (decide (a = b))) := id rfl
@[simp ↓] theorem neP_str : OpQ (neP (.str a) (.str b)) Q = Q (.bl (!decide (a = b))) := id rfl
@[simp ↓] theorem eqP_bl {x y : Bool} : OpQ (eqP (.bl x) (.bl y)) Q = Q (.bl (x == y)) := id rfl
@[simp ↓] theorem neP_bl {x y : Bool} : OpQ (neP (.bl x) (.bl y)) Q = Q (.bl (!(x == y))) := id rfl
@[simp ↓] theorem lenP_str : OpQ (lenP [.str a]) Q = Q (.int a.length) := id rfl
@[simp ↓] theorem lenP_lst : OpQ (lenP [.lst xs]) Q = Q (.int xs.length) := id rfl
@[simp ↓] theorem lenP_tup : OpQ (lenP [.tup xs]) Q = Q (.int xs.length) := id rfl
@[simp ↓] theorem intP_bl {x : Bool} : OpQ (intP [.bl x]) Q = Q (.int (if x then 1 else 0)) := id rfl
@[simp ↓] theorem intP_int : OpQ (intP [.int i]) Q = Q (.int i) := id rfl
theorem atI_nat {α : Type} {xs : List α} {k : Nat} (h : k < xs.length) : L2.atI xs (k : Int) = some xs[k] := by
  unfold L2.atI L2.ixN
  simp [h]
@[simp ↓] theorem ixP_lst {s : Fs} : OpQ (ixP s (.lst xs) (.int i)) Q = OpQ (L2.atI xs i) Q := id rfl
@[simp ↓] theorem ixP_tup {s : Fs} : OpQ (ixP s (.tup xs) (.int i)) Q = OpQ (L2.atI xs i) Q := id rfl
@[simp ↓] theorem ixP_str {s : Fs} : OpQ (ixP s (.str a) (.int i)) Q = OpQ ((L2.atI a i).map ch) Q := id rfl
@[simp ↓] theorem ixP_obj0 {l : List Slot} {o : List Ob} : OpQ (ixP ⟨l, .box xs :: o⟩ (.obj 0) (.int i)) Q = OpQ (L2.atI xs i) Q := id rfl
theorem atQ {v : PV} {xs : List PV} {i : Int} (e : L2.atI xs i = some v) (Q : PV → Prop) : OpQ (L2.atI xs i) Q = Q v := by rw [e]; rfl
@[simp ↓] theorem at_0 {v : PV} : OpQ (L2.atI (v :: xs) 0) Q = Q v := atQ (by unfold L2.atI L2.ixN; rw [if_pos (by omega), if_pos (by simp <;> omega)]; rfl) Q
@[simp ↓] theorem at_1 {v w : PV} : OpQ (L2.atI (v :: w :: xs) 1) Q = Q w := atQ (by unfold L2.atI L2.ixN; rw [if_pos (by omega), if_pos (by simp <;> omega)]; rfl) Q
@[simp ↓] theorem at_2 {v w u : PV} : OpQ (L2.atI (v :: w :: u :: xs) 2) Q = Q u := atQ (by unfold L2.atI L2.ixN; rw [if_pos (by omega), if_pos (by simp <;> omega)]; rfl) Q
@[simp ↓] theorem inP_sign {c : Nat} : OpQ (inP (.str [c]) (.str a)) Q = Q (.bl (decide (c ∈ a))) := id rfl
@[simp ↓] theorem notInP_sign {c : Nat} : OpQ (notInP (.str [c]) (.str a)) Q = Q (.bl (!decide (c ∈ a))) := id rfl
@[simp ↓] theorem inP_ch {c : Nat} : OpQ (inP (ch c) (.str a)) Q = Q (.bl (decide (c ∈ a))) := id rfl
@[simp ↓] theorem notInP_ch {c : Nat} : OpQ (notInP (ch c) (.str a)) Q = Q (.bl (!decide (c ∈ a))) := id rfl
theorem lenOk_of {α : Type} {xs : List α} (h : xs.length ≤ sizeLine) : lenOk xs = true := decide_eq_true h
theorem lenOk_iff {α : Type} {xs : List α} : lenOk xs = true ↔ xs.length ≤ sizeLine := by unfold lenOk; simp
theorem sizeLine_val : sizeLine = 16777216 := by have := sizeLine_eq; omega
@[simp ↓] theorem cutP_str {lo hi : Option Int} : OpQ (cutP (.str a) lo hi) Q = Q (.str (cut a lo hi)) := id rfl
@[simp ↓] theorem cutP_lst {lo hi : Option Int} : OpQ (cutP (.lst xs) lo hi) Q = Q (.lst (cut xs lo hi)) := id rfl
end Mi
end S_Mi23
section S_Mi24
set_option Elab.async false
set_option linter.all false
set_option maxRecDepth 100000
set_option maxHeartbeats 4000000
/-! values with their freshness: returned, assigned; new lists by +, *, slices -/
namespace Mi
open PySem PySem.Spec PyProof.Rows L2
def tR (D : Stat) (lvl : Nat) (W : WX) (f : M (PV × Bool)) : TE := fun σ H Q => ∃ fr fs, FI D lvl fr fs σ H ∧ Res D lvl W fr H σ (f fs) fun vb s => ∀ fr' H' v', FI D lvl fr' s σ H' → Ev lvl fr H fr' H' → RetR D fr' H' vb.1 vb.2 v' → Q v' H'
section
variable {X : Cx} {D : Stat} {lvl : Nat} {W : WX} {fr fr1 fr' : Fr} {H H1 H' : Hp} {fs s : Fs} {σ σ' : L2.St} {e a b c : Expr} {pos p cpos : Pos} {Γ : Env} {n np : Nat}
def rOf (f : M PV) : M (PV × Bool) := M.bind f fun v => M.pure (v, false)
def rF (f : M PV) : M (PV × Bool) := M.bind f fun v => M.pure (v, true)
theorem sr_of {f : M PV} (h : PE X e (tE D lvl W f)) : PE X e (tR D lvl W (rOf f)) := by
  refine PE.imp h ?_
  rintro σ H Q ⟨fr, fs, I, h⟩
  exact nextE I h fun x s fr1 H1 v I1 e1 r1 h1 => h1 fr1 H1 v I1 e1 r1
theorem sr_f {f : M PV} (h : PE X e (tF D lvl W f)) : PE X e (tR D lvl W (rF f)) := by
  refine PE.imp h ?_
  rintro σ H Q ⟨fr, fs, I, h⟩
  exact nextF I h fun x s fr1 H1 p o I1 e1 r1 r2 r3 h1 => h1 fr1 H1 _ I1 e1 ⟨p, o, rfl, r1, r2, r3⟩
def rNm (i : Nat) : M (PV × Bool) := fun s => match s.sl[i]? with
  | some (.sh v) => .ok (v, false) s
  | some (.ow v) => .ok (v, true) { s with sl := s.sl.set i .un }
  | _ => .no
theorem sr_nm {i : Nat} (he : PE X e (tVar i)) : PE X e (tR D lvl W (rNm i)) := by
  refine PE.imp he ?_
  rintro σ H Q ⟨fr, fs, I, h⟩
  unfold rNm at h
  split at h
  · rename_i v q
    obtain ⟨v', e, r⟩ := I.sh q
    exact ⟨v', e, h fr H v' I .refl r⟩
  · rename_i c q
    obtain ⟨fr', a, o, e, I', ev, h1, h2, h3⟩ := I.take q
    exact ⟨_, e, h fr' H _ I' ev ⟨a, o, rfl, h1, h2, h3⟩⟩
  · exact h.elim
def rRC (s : Fs) : RC → R (PV × Bool)
  | .ok v b hp' => .ok (v, b) { s with hp := hp' }
  | .ex e hp' => .ex e { s with hp := hp' }
  | .no => .no
def rCall (Γ : Env) (n : Nat) (g : M (List PV)) : M (PV × Bool) := M.bind g fun args s => rRC s (Γ n args s.hp)
theorem sr_call {x : Str} {e : Expr} {es : List Expr} {g : M (List PV)} (c : CallOk X.prog X.w X.K X.mg X.base X.A D (lvl + 1) Γ x n np) (tk : Takes X W) (hg : Gl X x) (ha : PA X (e :: es) (tAs D lvl W g))
    (hdb : (x == ("__debug__" : Str)) = false := by decide) (he : starEach (e :: es) X.env = (false, eval e X.env) :: starEach es X.env := by rfl) (hpl : (backTo cpos (starEach es X.env)).any (·.1) = false := by rfl)
    (hl : ∀ args s s', g s = .ok args s' → args.length = np) : PE X (.Call (.Name x p) (e :: es) [] cpos) (tR D lvl W (rCall Γ n g)) := by
  obtain ⟨k, fd, ps, F, hr, hgd, hb⟩ := c.ex
  refine PE.imp (pe_callG F hr hgd hg c.mg c.kp hb (fun σ => passAt tk σ) ha hdb he hpl) ?_
  rintro σ H Q ⟨fr, fs, I, h⟩
  unfold rCall at h
  have h' := Res.bind h
  refine ⟨fr, fs, I, ?_⟩
  cases eg : g fs with
  | no => rw [eg] at h'; exact h'
  | ex y s => rw [eg] at h'; exact h'
  | ok args s =>
    rw [eg] at h'
    intro fr1 H1 vs I1 e1 r1
    have h1 := Res.base (show Res D lvl W fr H σ (rRC s (Γ n args s.hp)) _ from h') e1
    refine ⟨fr1, s.hp, args, I1.gi, r1, hl args fs s eg, ?_⟩
    cases eΓ : Γ n args s.hp with
    | no => rw [eΓ] at h1; exact h1
    | ok v b hp' =>
      rw [eΓ] at h1
      intro fr2 H2 v' g2 e2 r2
      exact h1 fr2 H2 v' (I1.called g2 e2) (e1.trans (e2.mono (Nat.le_succ lvl))) r2
    | ex y hp' =>
      rw [eΓ] at h1
      intro fr2 H2 cls d g2 e2 r2
      exact h1 fr2 H2 cls d (I1.called g2 e2) (e2.mono (Nat.le_succ lvl)) r2
theorem sr_ite {gc : M Bool} {fa fb : M (PV × Bool)} (hc : PT X c (tB' D lvl W gc)) (ha : PE X a (tR D lvl W fa)) (hb : PE X b (tR D lvl W fb)) : PE X (.IfExp c a b pos) (tR D lvl W (fIte gc fa fb)) := by
  refine PE.imp (pe_ifExp hc ha hb) ?_
  rintro σ H Q ⟨fr, fs, I, h⟩
  refine nextB I h fun x s fr1 H1 I1 e1 h1 => ?_
  cases x with
  | true => rw [if_pos rfl] at h1 ⊢; exact ⟨fr1, s, I1, h1.mono fun b s k fr' H' v' I' e' r' => k fr' H' v' I' (e1.trans e') r'⟩
  | false => rw [if_neg Bool.false_ne_true] at h1 ⊢; exact ⟨fr1, s, I1, h1.mono fun b s k fr' H' v' I' e' r' => k fr' H' v' I' (e1.trans e') r'⟩
/-- return e -/
def gRetR (f : M (PV × Bool)) : M Fl := M.bind f fun vb => M.pure (.rt vb.1 vb.2)
theorem nextSR {f : M (PV × Bool)} {g : PV × Bool → M Fl} {Dn : Ends} {Q : VK} (I : FI D lvl fr fs σ H) (h : ResS D lvl W fr H ((M.bind f g) fs) Dn)
    (nx : ∀ x s fr1 H1 v, FI D lvl fr1 s σ H1 → Ev lvl fr H fr1 H1 → RetR D fr1 H1 x.1 x.2 v → ResS D lvl W fr1 H1 (g x s) Dn → Q v H1) : tR D lvl W f σ H Q :=
  ⟨fr, fs, I, (ResS.bind h).mono fun x s k fr1 H1 v I1 e r => nx x s fr1 H1 v I1 e r (k.base e)⟩
theorem ss_retR {f : M (PV × Bool)} (he : PE X e (tR D lvl W f)) : PS X (.Return (some e) pos) (tS D lvl W (gRetR f)) := by
  refine PS.imp (ps_ret he) ?_
  rintro Dn σ H ⟨fr, fs, I, h⟩
  exact nextSR I h fun x s fr1 H1 v I1 e1 r1 h1 => h1 fr1 σ H1 v I1 .refl r1
/-- x = e, the name's own where it is new -/
def slotOf (vb : PV × Bool) : Slot := if vb.2 = true then .ow vb.1 else .sh vb.1
def gOwnR (f : M (PV × Bool)) (i : Nat) : M Fl := M.bind f fun vb s => .ok .nx { s with sl := s.sl.set i (slotOf vb) }
theorem ss_ownR {st : Stmt} {i : Nat} {f : M (PV × Bool)} (h : SetP X st e i) (he : PE X e (tR D lvl W f)) : PS X st (tS D lvl W (gOwnR f i)) := by
  refine PS.imp (h _ he) ?_
  rintro Dn σ H ⟨fr, fs, I, h⟩
  refine nextSR I h fun x s fr1 H1 v I1 e1 r1 h1 => ?_
  obtain ⟨x, b⟩ := x
  cases b with
  | false => exact h1 fr1 _ H1 (I1.setSh r1 i) .refl
  | true =>
    obtain ⟨p, o, rfl, q1, q2, q3⟩ := r1
    exact h1 _ _ H1 (I1.setOw q1 q2 q3 i) (ev_reow (nkp_tmp q1))
end
/-! ### new lists -/
section
variable {X : Cx} {D : Stat} {lvl : Nat} {W : WX} {fr fr1 fr' : Fr} {H H1 H' : Hp} {fs s : Fs} {σ σ' : L2.St} {e a b c : Expr} {pos : Pos}
def addLP (x y : PV) : Option PV := match x, y with
  | .lst xs, .lst ys => if xs.length + ys.length ≤ sizeLine then some (.lst (xs ++ ys)) else none
  | _, _ => none
theorem op2f_run {f : Value → Value → Sem Value} {op : PV → PV → Option PV} {fa fb : M Loc} {r : R2} {Q : VK}
    (hs : ∀ (lvl : Nat) (fr : Fr) (fs : Fs) (σ : L2.St) (H : Hp) (x y : PV) (x' y' : V) (z : PV) (Q : VK), FI D lvl fr fs σ H → Now D fr H x x' → Now D fr H y y' → op x y = some z → KF' D lvl fr H σ Q z fs → r x' y' H Q)
    (h : tF D lvl W (fOp2 fa fb op) σ H Q) : tOp r (tO D lvl W fa) (tO D lvl W fb) σ H Q := by
  obtain ⟨fr, fs, I, h⟩ := h
  refine nextO I h fun l s fr1 H1 x' I1 e1 r1 h1 => nextO I1 h1 fun l2 s2 fr2 H2 y' I2 e2 r2 h2 => ?_
  split at h2
  · rename_i x y hx hy
    split at h2
    · rename_i z hz
      exact hs lvl fr2 s2 σ H2 x y x' y' z Q I2 (rd_now I2 (r1.ev e2) hx) (rd_now I2 r2 hy) hz (KF'.base h2 (e1.trans e2))
    · exact h2.elim
  · exact h2.elim
theorem sf_add {fa fb : M Loc} (ha : PE X a (tO D lvl W fa)) (hb : PE X b (tO D lvl W fb)) : PE X (.BinOp a .Add b pos) (tF D lvl W (fOp2 fa fb addLP)) := by
  refine PE.imp (pe_op op_cat ha hb) fun σ H Q h => op2f_run (f := binaryOp .Add) ?_ h
  intro lvl fr fs σ H x y x' y' z Q I rx ry hz k
  unfold addLP at hz
  split at hz
  · split at hz
    · rename_i h
      cases hz
      obtain ⟨a, vs, rfl, h1, h2, h3⟩ := rx.lst
      obtain ⟨b, us, rfl, q1, q2, q3⟩ := ry.lst
      refine ⟨a, b, vs, us, rfl, rfl, h1, q1, by rw [h3.length, q3.length]; exact h, ?_⟩
      exact k.new I (.lst (by rw [List.length_append]; exact h) (h3.append q3))
    · cases hz
  · cases hz
def mulLP (x y : PV) : Option PV := match x, y with
  | .lst xs, .int i => if -(2 ^ 63) ≤ i ∧ i < 2 ^ 63 ∧ xs.length * i.toNat ≤ sizeLine then some (.lst (List.replicate i.toNat xs).flatten) else none
  | _, _ => none
theorem sf_mul {fa fb : M Loc} (ha : PE X a (tO D lvl W fa)) (hb : PE X b (tO D lvl W fb)) : PE X (.BinOp a .Mult b pos) (tF D lvl W (fOp2 fa fb mulLP)) := by
  refine PE.imp (pe_op op_rep ha hb) fun σ H Q h => op2f_run (f := binaryOp .Mult) ?_ h
  intro lvl fr fs σ H x y x' y' z Q I rx ry hz k
  unfold mulLP at hz
  split at hz
  · split at hz
    · rename_i h
      cases hz
      obtain ⟨a, vs, rfl, h1, h2, h3⟩ := rx.lst
      rw [ry.int]
      refine ⟨a, _, vs, rfl, rfl, h1, h.1, h.2.1, by rw [h3.length]; exact h.2.2, ?_⟩
      exact k.new I (.lst (by rw [flat_len]; exact h.2.2) (h3.flatten_rep _))
    · cases hz
  · cases hz
def cutLP (x : PV) (lo hi : Option Int) : Option PV := match x with
  | .lst xs => some (.lst (cut xs lo hi))
  | _ => none
def fCutL (fo : M Loc) (fl fh : M (Option Int)) : M PV := M.bind fo fun l => M.bind fl fun lo => M.bind fh fun hi s => match rd s l with
  | some x => match cutLP x lo hi with
    | some z => .ok z s
    | none => .no
  | none => .no
theorem sf_cut {o : Expr} {lo hi : Option Expr} {fo : M Loc} {fl fh : M (Option Int)} {p2 : Pos} (ho : PE X o (tO D lvl W fo)) (hl : PO X lo (tPo D lvl W fl)) (hh : PO X hi (tPo D lvl W fh)) :
    PE X (.Subscript o (.Slice lo hi none p2) pos) (tF D lvl W (fCutL fo fl fh)) := by
  refine PE.imp (pe_slice sl_list ho hl hh) ?_
  rintro σ H Q ⟨fr, fs, I, h⟩
  refine nextO I h fun l s fr1 H1 x' I1 e1 r1 h1 => nextP I1 h1 fun lo s2 fr2 H2 I2 e2 h2 => nextP I2 h2 fun hi s3 fr3 H3 I3 e3 h3 => ?_
  split at h3
  · rename_i x hx
    have n := rd_now I3 ((r1.ev e2).ev e3) hx
    split at h3
    · rename_i z hz
      have k : KF' D lvl fr3 H3 σ Q z s3 := KF'.base h3 ((e1.trans e2).trans e3)
      unfold cutLP at hz
      split at hz
      · cases hz
        obtain ⟨a, vs, rfl, q1, q2, q3⟩ := n.lst
        exact ⟨a, vs, rfl, .inl (.inl q1), k.new I3 (.lst (Nat.le_trans (cut_len _ _ _) q2) (q3.cut _ _))⟩
      · cases hz
    · exact h3.elim
  · exact h3.elim
/-- what is not served: it may stand where it is never reached -/
theorem se_no {e : Expr} : PE X e (tE D lvl W fun _ => .no) := ⟨fun pins s σ H Q I q => by obtain ⟨fr, fs, I, h⟩ := q; exact h.elim⟩
theorem sf_no {e : Expr} : PE X e (tF D lvl W fun _ => .no) := ⟨fun pins s σ H Q I q => by obtain ⟨fr, fs, I, h⟩ := q; exact h.elim⟩
theorem ss_no {st : Stmt} : PS X st (tS D lvl W fun _ => .no) := ⟨fun pins s σ H Q I q => by obtain ⟨fr, fs, I, h⟩ := q; exact h.elim⟩
theorem sss_no {st : List Stmt} : PSs X st (tS D lvl W fun _ => .no) := ⟨fun pins s σ H Q I q => by obtain ⟨fr, fs, I, h⟩ := q; exact h.elim⟩
end
/-! ### wp -/
section
variable {Q : PV × Bool → Fs → Prop} {Q1 : PV → Fs → Prop} {Q2 : Fl → Fs → Prop} {E : PV → Fs → Prop} {s : Fs} {l : List Slot} {hp : List Ob} {i : Nat}
@[simp ↓] theorem wp_rOf {f : M PV} : Wp (rOf f) Q E s = Wp f (fun v s => Q (v, false) s) E s := by unfold rOf; simp only [↓wp_bind, ↓wp_pure]
@[simp ↓] theorem wp_rF {f : M PV} : Wp (rF f) Q E s = Wp f (fun v s => Q (v, true) s) E s := by unfold rF; simp only [↓wp_bind, ↓wp_pure]
@[simp ↓] theorem wp_gRetR {f : M (PV × Bool)} : Wp (gRetR f) Q2 E s = Wp f (fun vb s => Q2 (.rt vb.1 vb.2) s) E s := by unfold gRetR; simp only [↓wp_bind, ↓wp_pure]
@[simp ↓] theorem wp_rNm : Wp (rNm i) Q E ⟨l, hp⟩ = SlQ l i fun x => match x with
    | .sh v => Q (v, false) ⟨l, hp⟩
    | .ow v => Q (v, true) ⟨l.set i .un, hp⟩
    | .un => False := by
  rw [wp_eq0]
  unfold Wp0 rNm SlQ
  dsimp only
  cases l[i]? with
  | none => rfl
  | some x => cases x <;> rfl
@[simp ↓] theorem wp_rCall {Γ : Env} {n : Nat} {g : M (List PV)} : Wp (rCall Γ n g) Q E s = Wp g (fun args s1 => WpC (Γ n args s1.hp) (fun v b h => Q (v, b) { s1 with hp := h }) fun e h => E e { s1 with hp := h }) E s := by
  unfold rCall
  rw [wp_bind]
  congr 1
  funext args s1
  rw [wp_eq0, wpC_eq0]
  show WpR (rRC s1 (Γ n args s1.hp)) Q E = _
  cases Γ n args s1.hp <;> rfl
@[simp ↓] theorem slotOf_t {v : PV} : slotOf (v, true) = .ow v := rfl
@[simp ↓] theorem slotOf_f {v : PV} : slotOf (v, false) = .sh v := rfl
@[simp ↓] theorem wp_gOwnR {f : M (PV × Bool)} : Wp (gOwnR f i) Q2 E s = Wp f (fun vb s1 => Q2 .nx { s1 with sl := s1.sl.set i (slotOf vb) }) E s := by
  unfold gOwnR
  rw [wp_bind]
  congr 1
  funext vb s1
  rw [wp_eq0]
  rfl
@[simp ↓] theorem wp_fCutL {fo : M Loc} {fl fh : M (Option Int)} : Wp (fCutL fo fl fh) Q1 E s = Wp fo (fun a s1 => Wp fl (fun lo s2 => Wp fh (fun hi s3 => OpQ (rd s3 a) fun x => OpQ (cutLP x lo hi) fun z => Q1 z s3) E s2) E s1) E s := by
  unfold fCutL
  simp only [↓wp_bind]
  congr 1
  funext a s1
  congr 1
  funext lo s2
  congr 1
  funext hi s3
  rw [wp_eq0]
  show WpR (match rd s3 a with
    | some x => match cutLP x lo hi with
      | some z => R.ok z s3
      | none => R.no
    | none => R.no) _ _ = _
  cases rd s3 a with
  | none => rfl
  | some x =>
    show WpR (match cutLP x lo hi with
      | some z => R.ok z s3
      | none => R.no) _ _ = OpQ (cutLP x lo hi) _
    cases cutLP x lo hi <;> rfl
@[simp ↓] theorem addLP_lst {xs ys : List PV} {Q : PV → Prop} : OpQ (addLP (.lst xs) (.lst ys)) Q ↔ xs.length + ys.length ≤ sizeLine ∧ Q (.lst (xs ++ ys)) := by
  show OpQ (if _ then _ else _) Q ↔ _
  rw [opQ_ite]
@[simp ↓] theorem cutLP_lst {xs : List PV} {lo hi : Option Int} {Q : PV → Prop} : OpQ (cutLP (.lst xs) lo hi) Q = Q (.lst (cut xs lo hi)) := rfl
@[simp ↓] theorem mulLP_lst {xs : List PV} {j : Int} {Q : PV → Prop} : OpQ (mulLP (.lst xs) (.int j)) Q ↔ (-(2 ^ 63) ≤ j ∧ j < 2 ^ 63 ∧ xs.length * j.toNat ≤ sizeLine) ∧ Q (.lst (List.replicate j.toNat xs).flatten) := by
  show OpQ (if _ then _ else _) Q ↔ _
  rw [opQ_ite]
end
end Mi
end S_Mi24
section S_Mi25
set_option Elab.async false
set_option linter.all false
set_option maxRecDepth 100000
set_option maxHeartbeats 4000000
/-! tuples put together -/
namespace Mi
open PySem PySem.Spec PyProof.Rows L2
section
variable {prog : Program} {w : World} {A : Around} {E : Value → Shared → Prop} {s : Shared}
theorem cat_tup0 {t b : Addr} {vs ws : List Value} {Q : Value → Shared → Prop} (ht : IsTup s.heap t vs.toArray) (hb : IsTup s.heap b ws.toArray) (hv : vs = []) (h1 : Q (.ref b) s) : wpAny (model prog w) A (binaryOp .Add (.ref t) (.ref b)) Q E s := by
  obtain ⟨⟨cls, dd, data, sl⟩, ho, hc, n, hd⟩ := id ht
  obtain ⟨⟨cls2, dd2, data2, sl2⟩, ho2, hc2, n2, hd2⟩ := id hb
  simp only at hc hd hc2 hd2
  subst hc hd hc2 hd2
  exact concat_meets ⟨_, ho, rfl⟩ ⟨_, ho2, rfl⟩ noFill_tuple_add seq_tuple_add PySem.F.slot_tuple_add PySem.F.entry_tuple_add (PySem.F.args_tuple_add_2 _ _)
      (tuple_addW0 t b vs.toArray ws.toArray n n2 dd dd2 sl sl2 (by simp [hv])) ⟨ho, ho2, h1⟩
end
section
variable {X : Cx} {D : Stat} {lvl : Nat} {W : WX} {fr fr1 fr' : Fr} {H H1 H' : Hp} {fs s : Fs} {σ σ' : L2.St} {e a b c : Expr} {pos : Pos}
def rCatT0 (K : PySem.W.Frag) : R2 := fun x y H Q => ∃ a b ys, x = .ref a ∧ y = .ref b ∧ SqT K H a [] ∧ SqT K H b ys ∧ Q (.ref b) H
theorem op_catT0 : OpR X (binaryOp .Add) (rCatT0 X.K) := by
  intro pins s σ H x y v u Q I rx ry h
  obtain ⟨a, b, ys, rfl, rfl, ha, hb, q⟩ := h
  cases rx
  cases ry
  obtain ⟨its, r1, p1, _⟩ := I.tuple ha
  obtain ⟨its2, r2, p2, _⟩ := I.tuple hb
  exact cat_tup0 p1 p2 (r1.nil_iff.mpr rfl) ⟨.ref b, H, I, rfl, q⟩
def catT (x y : PV) : Option PV := match x, y with
  | .tup a, .tup b => if a.length + b.length ≤ sizeLine then some (.tup (a ++ b)) else none
  | _, _ => none
def fCatT (f g : M PV) : M PV := M.bind f fun x => M.bind g fun y => fun s => match catT x y with
  | some z => .ok z s
  | none => .no
theorem Rel.tupD {xs : List PV} {v : V} (h : Rel D fr H (.tup xs) v) : ∃ a vs, v = .ref a ∧ H a = some (.tup vs) ∧ xs.length ≤ sizeLine ∧ Rels D fr H xs vs := Now.tup (.inl h)
theorem se_catT {f g : M PV} (ha : PE X a (tE D lvl W f)) (hb : PE X b (tE D lvl W g)) : PE X (.BinOp a .Add b pos) (tE D lvl W (fCatT f g)) := by
  refine PE.imp (pe_op (OpR.or op_catT op_catT0) ha hb) ?_
  rintro σ H Q ⟨fr, fs, I, h⟩
  refine nextE I h fun x s fr1 H1 v I1 e1 r1 h1 => nextE I1 h1 fun y s2 fr2 H2 u I2 e2 r2 h2 => ?_
  have r1' := r1.ev e2
  split at h2
  · rename_i z hz
    have k : KV' D lvl fr2 H2 σ Q z s2 := KV'.base h2 (e1.trans e2)
    unfold catT at hz
    split at hz
    · rename_i xs ys
      split at hz
      · rename_i hl
        cases hz
        obtain ⟨p, vs, rfl, q1, q2, q3⟩ := r1'.tupD
        obtain ⟨p', us, rfl, t1, t2, t3⟩ := r2.tupD
        by_cases hx : xs = []
        · subst hx
          have hv : vs = [] := by cases q3; rfl
          subst hv
          exact .inr ⟨p, p', us, rfl, rfl, .inl (.inl q1), .inl (.inl t1), k fr2 H2 _ I2 .refl r2⟩
        · refine .inl ⟨p, p', vs, us, rfl, rfl, .inl (.inl q1), .inl (.inl t1), q3.ne hx, by rw [q3.length, t3.length]; exact hl, fun hu => ?_, fun _ => ?_⟩
          · have hy : ys = [] := by
              cases t3 with
              | nil => rfl
              | cons _ _ => cases hu
            subst hy
            refine k fr2 H2 _ I2 .refl ?_
            rw [List.append_nil]
            exact r1'
          · exact k.newSh I2 (.tup (by rw [List.length_append]; exact hl) (q3.append t3))
      · cases hz
    · cases hz
  · exact h2.elim
end
section
variable {Q : PV → Fs → Prop} {E : PV → Fs → Prop} {s : Fs}
@[simp ↓] theorem wp_fCatT {f g : M PV} : Wp (fCatT f g) Q E s = Wp f (fun x s1 => Wp g (fun y s2 => OpQ (catT x y) fun z => Q z s2) E s1) E s := by
  unfold fCatT
  simp only [↓wp_bind]
  congr 1
  funext x s1
  congr 1
  funext y s2
  rw [wp_eq0]
  show WpR (match catT x y with
    | some z => R.ok z s2
    | none => R.no) _ _ = _
  cases catT x y <;> rfl
@[simp ↓] theorem catT_tup {xs ys : List PV} {Q : PV → Prop} : OpQ (catT (.tup xs) (.tup ys)) Q ↔ xs.length + ys.length ≤ sizeLine ∧ Q (.tup (xs ++ ys)) := by
  show OpQ (if _ then _ else _) Q ↔ _
  rw [opQ_ite]
theorem cutP_tup {xs : List PV} {lo hi : Option Int} {Q : PV → Prop} : OpQ (cutP (.tup xs) lo hi) Q ↔ ¬ (HT.sIx xs.length 0 lo = 0 ∧ HT.sIx xs.length xs.length hi = xs.length) ∧ Q (.tup (cut xs lo hi)) := by
  show OpQ (if _ then _ else _) Q ↔ _
  split
  · rename_i h; exact ⟨fun z => z.elim, fun z => absurd h z.1⟩
  · rename_i h; exact ⟨fun z => ⟨h, z⟩, fun z => z.2⟩
end
end Mi
end S_Mi25
section S_Mi26
set_option Elab.async false
set_option linter.all false
set_option maxRecDepth 100000
set_option maxHeartbeats 4000000
/-! sorted, min, max of lists of plain data -/
namespace Mi
open PySem PySem.Spec PyProof.Rows L2
mutual
theorem pd_inj : ∀ (n m : Nat) (x y : PV), data n x = true → data m y = true → pd x = pd y → x = y
  | n, m, .non, y, _, hy, e => by cases y <;> first | rfl | (unfold pd at e; cases e; done) | (cases m <;> cases hy; done)
  | n, m, .bl b, y, _, hy, e => by cases y <;> first | (unfold pd at e; cases e; rfl) | (unfold pd at e; cases e; done) | (cases m <;> cases hy; done)
  | n, m, .int b, y, _, hy, e => by cases y <;> first | (unfold pd at e; cases e; rfl) | (unfold pd at e; cases e; done) | (cases m <;> cases hy; done)
  | n, m, .str b, y, _, hy, e => by
    cases y with
    | str c =>
      unfold pd at e
      have e1 : strOf b = strOf c := PyData.str.inj e
      rw [strOf_inj.mp e1]
    | non => unfold pd at e; cases e
    | bl _ => unfold pd at e; cases e
    | int _ => unfold pd at e; cases e
    | tup _ => unfold pd at e; cases e
    | lst _ => unfold pd at e; cases e
    | _ => cases m <;> cases hy
  | n + 1, m, .tup xs, y, hx, hy, e => by
    cases y with
    | tup ys =>
      cases m with
      | zero => cases hy
      | succ m =>
        unfold pd at e
        rw [pds_inj n m xs ys hx hy (PyData.tuple.inj e)]
    | non => unfold pd at e; cases e
    | bl _ => unfold pd at e; cases e
    | int _ => unfold pd at e; cases e
    | str _ => unfold pd at e; cases e
    | lst _ => unfold pd at e; cases e
    | _ => cases m <;> cases hy
  | n + 1, m, .lst xs, y, hx, hy, e => by
    cases y with
    | lst ys =>
      cases m with
      | zero => cases hy
      | succ m =>
        unfold pd at e
        rw [pds_inj n m xs ys hx hy (PyData.list.inj e)]
    | non => unfold pd at e; cases e
    | bl _ => unfold pd at e; cases e
    | int _ => unfold pd at e; cases e
    | str _ => unfold pd at e; cases e
    | tup _ => unfold pd at e; cases e
    | _ => cases m <;> cases hy
  | 0, _, .tup _, _, h, _, _ => by cases h
  | 0, _, .lst _, _, h, _, _ => by cases h
  | 0, _, .dic _, _, h, _, _ => by cases h
  | n + 1, _, .dic _, _, h, _, _ => by cases h
  | 0, _, .obj _, _, h, _, _ => by cases h
  | n + 1, _, .obj _, _, h, _, _ => by cases h
  | 0, _, .exc _ _, _, h, _, _ => by cases h
  | n + 1, _, .exc _ _, _, h, _, _ => by cases h
  | 0, _, .fn _, _, h, _, _ => by cases h
  | n + 1, _, .fn _, _, h, _, _ => by cases h
  | 0, _, .scr _, _, h, _, _ => by cases h
  | n + 1, _, .scr _, _, h, _, _ => by cases h
theorem pds_inj : ∀ (n m : Nat) (xs ys : List PV), xs.all (data n) = true → ys.all (data m) = true → pds xs = pds ys → xs = ys
  | _, _, [], [], _, _, _ => rfl
  | _, _, [], _ :: _, _, _, e => by unfold pds at e; cases e
  | _, _, _ :: _, [], _, _, e => by unfold pds at e; cases e
  | n, m, x :: xs, y :: ys, hx, hy, e => by
    rw [List.all_cons, Bool.and_eq_true] at hx hy
    unfold pds at e
    obtain ⟨e1, e2⟩ := List.cons.inj e
    rw [pd_inj n m x y hx.1 hy.1 e1, pds_inj n m xs ys hx.2 hy.2 e2]
end
/-- x < y -/
def ltB (x y : PV) : Bool := PySem.W.dataLt (pd x) (pd y)
def leB (x y : PV) : Bool := !ltB y x
def ins (x : PV) : List PV → List PV
  | [] => [x]
  | y :: ys => if leB x y = true then x :: y :: ys else y :: ins x ys
/-- sorted -/
def srt : List PV → List PV
  | [] => []
  | x :: xs => ins x (srt xs)
def leK (k : PV → List (Int ⊕ List Nat)) := PySem.W.sortLe (PyProof.Rows.listOrd PyProof.Rows.itemOrd) false k
theorem leB_eq : leB = PySem.W.sortLe (PyProof.Rows.listOrd PyProof.Rows.itemOrd) false fun x => PySem.W.keyToks (pd x) := rfl
theorem leB_total : PySem.W.TotalLe leB := by rw [leB_eq]; exact PySem.W.sortLe_total _ _ _
theorem ins_perm (x : PV) : ∀ ys, (ins x ys).Perm (x :: ys)
  | [] => .refl _
  | y :: ys => by
    unfold ins
    split
    · exact .refl _
    · exact ((ins_perm x ys).cons y).trans (.swap x y ys)
theorem srt_perm : ∀ xs, (srt xs).Perm xs
  | [] => .refl _
  | x :: xs => (ins_perm x (srt xs)).trans ((srt_perm xs).cons x)
theorem ins_sorted (x : PV) : ∀ ys, ys.Pairwise (fun a b => leB a b = true) → (ins x ys).Pairwise (fun a b => leB a b = true)
  | [], _ => List.pairwise_singleton _ _
  | y :: ys, h => by
    unfold ins
    obtain ⟨h1, h2⟩ := List.pairwise_cons.mp h
    split
    · rename_i e
      exact List.pairwise_cons.mpr ⟨fun z hz => by
        rcases List.mem_cons.mp hz with rfl | hz
        · exact e
        · exact leB_total.trans _ _ _ e (h1 z hz), h⟩
    · rename_i e
      refine List.pairwise_cons.mpr ⟨fun z hz => ?_, ins_sorted x ys h2⟩
      rcases List.mem_cons.mp ((ins_perm x ys).mem_iff.mp hz) with rfl | hz
      · exact (leB_total.total y z).resolve_right e
      · exact h1 z hz
theorem srt_sorted : ∀ xs, (srt xs).Pairwise (fun a b => leB a b = true)
  | [] => List.Pairwise.nil
  | x :: xs => ins_sorted x _ (srt_sorted xs)
theorem ins_filter (x c : PV) : ∀ ys, (ins x ys).filter (PySem.W.sameRank leB c) = (x :: ys).filter (PySem.W.sameRank leB c)
  | [] => rfl
  | y :: ys => by
    unfold ins
    split
    · rfl
    · rename_i e
      rw [List.filter_cons, ins_filter x c ys]
      cases hx : PySem.W.sameRank leB c x with
      | false =>
        simp only [List.filter_cons, hx, Bool.false_eq_true, if_false]
      | true =>
        have hy : PySem.W.sameRank leB c y = false := by
          cases hy : PySem.W.sameRank leB c y with
          | false => rfl
          | true =>
            unfold PySem.W.sameRank at hx hy
            rw [Bool.and_eq_true] at hx hy
            exact absurd (leB_total.trans _ _ _ hx.2 hy.1) e
        simp only [List.filter_cons, hx, hy, Bool.false_eq_true, if_false, if_true]
theorem srt_filter (c : PV) : ∀ xs, (srt xs).filter (PySem.W.sameRank leB c) = xs.filter (PySem.W.sameRank leB c)
  | [] => rfl
  | x :: xs => by
    show (ins x (srt xs)).filter _ = _
    rw [ins_filter, List.filter_cons, List.filter_cons, srt_filter c xs]
theorem srt_eq (xs : List PV) : srt xs = xs.mergeSort leB := PySem.W.sort_unique leB_total (srt_sorted xs) fun c => srt_filter c xs
def tupNE : PV → Bool
  | .tup (_ :: _) => true
  | _ => false
def notTN : PV → Bool
  | .tup _ => false
  | .non => false
  | _ => true
def sokB (xs : List PV) : Bool := xs.all (data 60) && ((xs.all fun x => xs.all fun y => PySem.W.alike (pd x) (pd y)) && (xs.all tupNE || xs.all notTN))
section
variable {X : Cx} {D : Stat} {lvl : Nat} {W : WX} {fr fr1 fr' : Fr} {H H1 H' : Hp} {fs s : Fs} {σ σ' : L2.St}
/-- values, put in order by the data that they read as -/
def sortV (xs : List V) (ds : List PyData) : List V := ((xs.zip ds).mergeSort (PySem.W.sortLe (PyProof.Rows.listOrd PyProof.Rows.itemOrd) false fun p : V × PyData => PySem.W.keyToks p.2)).map (·.1)
def rSrt (K : PySem.W.Frag) : List V → Hp → VK → Prop := fun vs H Q => ∃ (a : Addr) (xs : List V) (ds : List PyData), vs = [.ref a] ∧ SqL K H a xs ∧ DpAll K H xs ds ∧ PySem.W.AllAlike ds ∧ PySem.W.Sortable ds ∧ (∀ d ∈ ds, d.depth ≤ 60) ∧
  ∀ p, H p = none → Q (.ref p) (upd H p (.lst (sortV xs ds)))
theorem dpall_len {K : PySem.W.Frag} : ∀ {xs : List V} {ds : List PyData}, DpAll K H xs ds → xs.length = ds.length
  | _, _, .nil => rfl
  | _, _, .cons _ t => congrArg (· + 1) (dpall_len t)
theorem reads_each {h : Heap} : ∀ {vs : List Value} {ds : List PyData} {as : List Addr}, ReadsAll h vs ds as → PySem.W.EachIs (fun v d => ∃ as, Reads h v d as) vs ds
  | _, _, _, .nil => .nil
  | _, _, _, .cons r t => .cons ⟨_, r⟩ (reads_each t)
theorem vals_each : ∀ {xs : List V} {us : List Value} {ds : List PyData}, Vals xs us → xs.length = ds.length → PySem.W.EachIs (fun (u : Value) (p : V × PyData) => RelV p.1 u) us (xs.zip ds)
  | _, _, [], .nil, _ => .nil
  | _, _, d :: ds, .cons r t, h => .cons r (vals_each t (by simpa using h))
theorem each_vals : ∀ {us : List Value} {ps : List (V × PyData)}, PySem.W.EachIs (fun (u : Value) (p : V × PyData) => RelV p.1 u) us ps → Vals (ps.map (·.1)) us
  | _, _, .nil => .nil
  | _, _, .cons r t => .cons r (each_vals t)
theorem each_snd {R : Value → PyData → Prop} : ∀ {us : List Value} {xs : List V} {ds : List PyData}, PySem.W.EachIs R us ds → xs.length = ds.length → PySem.W.EachIs (fun u (p : V × PyData) => R u p.2) us (xs.zip ds)
  | _, [], _, .nil, _ => .nil
  | _, x :: xs, _, .cons r t, h => .cons r (each_snd t (by simpa using h))
theorem cr_srt (hu : X.A.units + 64 < cLine) : CallR X (.builtin "sorted") (rSrt X.K) := by
  intro pins s σ H vs us Q I r h
  obtain ⟨a, xs, ds, rfl, hs, hd, hal, hso, hdp, q⟩ := h
  obtain ⟨its, rv, hl, hle⟩ := I.list hs
  rw [Vals.ref1 r]
  obtain ⟨as, ra⟩ := Dp.readsAll I ds xs its hd rv
  have el : xs.length = ds.length := dpall_len hd
  have e0 := reads_each ra
  have hL : its.length ≤ sizeLine := by rw [← rv.length]; exact hle
  have e1 : PySem.W.EachIs (fun v d => ∃ as, Reads (PySem.W.sortingHeap (PySem.W.copyHeap s.heap its) (s.heap.objs.size + 1) its) v d as) its ds := e0.mono fun v d ⟨as, rr⟩ => ⟨as, Reads.keeps (fun b o e => PySem.W.sorting_copy_old e) rr⟩
  refine PySem.W.sorted_vals (κ := PySem.W.dataKind (PySem.W.sortingHeap (PySem.W.copyHeap s.heap its) (s.heap.objs.size + 1) its) ds) hl.isList (PySem.W.SortsAt.data e1 hal hso fun d hd => ?_) hL ?_
  · have := hdp d hd
    show X.A.units + 2 + d.depth < cLine
    omega
  have ek : PySem.W.EachIs (fun v (p : V × PyData) => (PySem.W.dataKind (PySem.W.sortingHeap (PySem.W.copyHeap s.heap its) (s.heap.objs.size + 1) its) ds).keyOf v = some (PySem.W.keyToks p.2)) its (xs.zip ds) :=
    each_snd (PySem.W.each_keys hal e1) el
  have eo := PySem.W.sortVals_each (κ := PySem.W.dataKind (PySem.W.sortingHeap (PySem.W.copyHeap s.heap its) (s.heap.objs.size + 1) its) ds) (rev := false) (fun p : V × PyData => PySem.W.keyToks p.2) (vals_each rv el) ek
  have ev : Vals (sortV xs ds) (PySem.W.sortVals (PySem.W.dataKind (PySem.W.sortingHeap (PySem.W.copyHeap s.heap its) (s.heap.objs.size + 1) its) ds) false its its) := each_vals eo
  obtain ⟨ep, he'⟩ := PyProof.Rows.sortedAll_at s.heap its (PySem.W.sortVals (PySem.W.dataKind (PySem.W.sortingHeap (PySem.W.copyHeap s.heap its) (s.heap.objs.size + 1) its) ds) false its its).toArray
  have hlen : (sortV xs ds).length ≤ sizeLine := by rw [ev.length, PySem.W.sortVals_length false rfl]; exact hL
  exact ⟨.ref _, upd H (s.heap.objs.size + 1) (.lst (sortV xs ds)), I.laid (t' := s.toks) (fun _ _ => PyProof.Rows.sortedAll_old) (Nat.le_succ _) ⟨hlen, _, ep, by simpa using ev, he'⟩, rfl, q _ (I.hok.fresh (Nat.le_succ _))⟩
def sortedP : List PV → Option PV
  | [.lst xs] => if sokB xs = true then some (.lst (srt xs)) else none
  | _ => none
theorem rels_each : ∀ {xs : List PV} {vs : List V}, Rels D fr H xs vs → PySem.W.EachIs (fun x (p : V × PyData) => Rel D fr H x p.1 ∧ p.2 = pd x) xs (vs.zip (pds xs))
  | _, _, .nil => .nil
  | _, _, .cons r t => .cons ⟨r, rfl⟩ (rels_each t)
theorem each_rels : ∀ {xs : List PV} {ps : List (V × PyData)}, PySem.W.EachIs (fun x (p : V × PyData) => Rel D fr H x p.1 ∧ p.2 = pd x) xs ps → Rels D fr H xs (ps.map (·.1))
  | _, _, .nil => .nil
  | _, _, .cons r t => .cons r.1 (each_rels t)
theorem rels_sort {xs : List PV} {vs : List V} (r : Rels D fr H xs vs) : Rels D fr H (srt xs) (sortV vs (pds xs)) := by
  rw [srt_eq]
  refine each_rels (PySem.W.sort_each (rels_each r) fun p hp q hq => ?_)
  have a := ((rels_each r).zip p hp).2
  have b := ((rels_each r).zip q hq).2
  rw [leB_eq]
  unfold PySem.W.sortLe
  dsimp only
  rw [a, b]
theorem mem_pds {d : PyData} {xs : List PV} (h : d ∈ pds xs) : ∃ x ∈ xs, d = pd x := by
  rw [pds_map] at h
  obtain ⟨x, hx, rfl⟩ := List.mem_map.mp h
  exact ⟨x, hx, rfl⟩
theorem sok_of {xs : List PV} (h : sokB xs = true) : xs.all (data 60) = true ∧ PySem.W.AllAlike (pds xs) ∧ PySem.W.Sortable (pds xs) := by
  unfold sokB at h
  rw [Bool.and_eq_true, Bool.and_eq_true, Bool.or_eq_true] at h
  obtain ⟨h1, h2, h3⟩ := h
  refine ⟨h1, fun d hd d' hd' => ?_, ?_⟩
  · obtain ⟨x, hx, rfl⟩ := mem_pds hd
    obtain ⟨y, hy, rfl⟩ := mem_pds hd'
    exact List.all_eq_true.mp (List.all_eq_true.mp h2 x hx) y hy
  · rcases h3 with h3 | h3
    · refine .inl fun d hd => ?_
      obtain ⟨x, hx, rfl⟩ := mem_pds hd
      have := List.all_eq_true.mp h3 x hx
      cases x with
      | tup ys => cases ys with
        | nil => cases this
        | cons y ys => exact ⟨pd y, pds ys, rfl⟩
      | _ => cases this
    · refine .inr fun d hd => ?_
      obtain ⟨x, hx, rfl⟩ := mem_pds hd
      have a := List.all_eq_true.mp h3 x hx
      have b := List.all_eq_true.mp h1 x hx
      cases x with
      | tup _ => cases a
      | non => cases a
      | bl _ => exact ⟨by unfold pd; simp, by unfold pd; simp⟩
      | int _ => exact ⟨by unfold pd; simp, by unfold pd; simp⟩
      | str _ => exact ⟨by unfold pd; simp, by unfold pd; simp⟩
      | lst _ => exact ⟨by unfold pd; simp, by unfold pd; simp⟩
      | _ => cases b
theorem depth_pds {xs : List PV} (h : xs.all (data 60) = true) : ∀ d ∈ pds xs, d.depth ≤ 60 := fun d hd => by
  obtain ⟨x, hx, rfl⟩ := mem_pds hd
  exact depth_pd 60 x (List.all_eq_true.mp h x hx)
theorem cf_sorted (hu : X.A.units + 64 < cLine) : CallF X D (.builtin "sorted") sortedP := by
  refine ⟨_, cr_srt hu, fun lvl fr fs σ H xs vs z Q I r hz k => ?_⟩
  unfold sortedP at hz
  split at hz
  · rename_i ys
    split at hz
    · rename_i h
      cases hz
      obtain ⟨h1, h2, h3⟩ := sok_of h
      obtain ⟨v, rfl, n⟩ := r.one
      obtain ⟨a, ws, rfl, q1, q2, q3⟩ := n.lst
      refine ⟨a, ws, pds ys, rfl, .inl (.inl q1), q3.dp 60 h1, h2, h3, depth_pds h1, ?_⟩
      exact k.new I (.lst (by rw [(srt_perm ys).length_eq]; exact q2) (rels_sort q3))
    · cases hz
  · cases hz
theorem boot_sorted' : bootBuiltins "sorted" = some (.builtin "sorted") := by decide +kernel
/-! ### min, max -/
def maxV (x : PV) (xs : List PV) : PV := xs.foldl (fun a y => if ltB a y then y else a) x
def minV (x : PV) (xs : List PV) : PV := xs.foldl (fun a y => if ltB y a then y else a) x
theorem maxV_pd : ∀ (xs : List PV) (x : PV), pd (maxV x xs) = PySem.W.maxD (pd x) (pds xs)
  | [], _ => by unfold pds; rfl
  | y :: ys, x => by
    show pd (maxV (if ltB x y then y else x) ys) = _
    rw [maxV_pd ys]
    show PySem.W.maxD (pd (if ltB x y = true then y else x)) (pds ys) = PySem.W.maxD (if PySem.W.dataLt (pd x) (pd y) = true then pd y else pd x) (pds ys)
    unfold ltB
    cases PySem.W.dataLt (pd x) (pd y) <;> rfl
theorem minV_pd : ∀ (xs : List PV) (x : PV), pd (minV x xs) = PySem.W.minD (pd x) (pds xs)
  | [], _ => by unfold pds; rfl
  | y :: ys, x => by
    show pd (minV (if ltB y x then y else x) ys) = _
    rw [minV_pd ys]
    show PySem.W.minD (pd (if ltB y x = true then y else x)) (pds ys) = PySem.W.minD (if PySem.W.dataLt (pd y) (pd x) = true then pd y else pd x) (pds ys)
    unfold ltB
    cases PySem.W.dataLt (pd y) (pd x) <;> rfl
theorem maxV_mem : ∀ (xs : List PV) (x : PV), maxV x xs ∈ x :: xs
  | [], x => List.mem_cons_self ..
  | y :: ys, x => by
    have h := maxV_mem ys (if ltB x y then y else x)
    show maxV (if ltB x y then y else x) ys ∈ _
    rcases List.mem_cons.mp h with h | h
    · rw [h]; cases ltB x y <;> simp
    · exact List.mem_cons_of_mem _ (List.mem_cons_of_mem _ h)
theorem minV_mem : ∀ (xs : List PV) (x : PV), minV x xs ∈ x :: xs
  | [], x => List.mem_cons_self ..
  | y :: ys, x => by
    have h := minV_mem ys (if ltB y x then y else x)
    show minV (if ltB y x then y else x) ys ∈ _
    rcases List.mem_cons.mp h with h | h
    · rw [h]; cases ltB y x <;> simp
    · exact List.mem_cons_of_mem _ (List.mem_cons_of_mem _ h)
def notN : PV → Bool
  | .non => false
  | _ => true
def mokB (xs : List PV) : Bool := xs.all (data 60) && ((xs.all fun x => xs.all fun y => PySem.W.alike (pd x) (pd y)) && xs.all notN)
def maxP : List PV → Option PV
  | [.lst (x :: xs)] => if mokB (x :: xs) = true then some (maxV x xs) else none
  | _ => none
def minP : List PV → Option PV
  | [.lst (x :: xs)] => if mokB (x :: xs) = true then some (minV x xs) else none
  | _ => none
def rMM (K : PySem.W.Frag) (best : PyData → List PyData → PyData) : List V → Hp → VK → Prop := fun vs H Q => ∃ (a : Addr) (xs : List V) (d : PyData) (ds : List PyData), vs = [.ref a] ∧ SqL K H a xs ∧ DpAll K H xs (d :: ds) ∧ PySem.W.AlikeAll (d :: ds) ∧ (∀ e ∈ d :: ds, e.depth ≤ 60) ∧
  ∀ (i : Nat) (x : V), xs[i]? = some x → (d :: ds)[i]? = some (best d ds) → Q x H
theorem depthAll_le {ds : List PyData} (h : ∀ e ∈ ds, e.depth ≤ 60) : PyData.depthAll ds ≤ 60 := by
  induction ds with
  | nil => unfold PyData.depthAll; omega
  | cons d ds ih =>
    have a := h d (List.mem_cons_self ..)
    have b := ih fun e he => h e (List.mem_cons_of_mem _ he)
    unfold PyData.depthAll
    omega
theorem readsAll_get {h : Heap} : ∀ {vs : List Value} {ds : List PyData} {as : List Addr}, ReadsAll h vs ds as → ∀ (i : Nat) (v : Value), vs[i]? = some v → ∃ d bs, ds[i]? = some d ∧ Reads h v d bs
  | _, _, _, .nil, i, v, e => by simp at e
  | _, _, _, .cons r t, 0, v, e => by simp at e; subst e; exact ⟨_, _, rfl, r⟩
  | _, _, _, .cons r t, i + 1, v, e => readsAll_get t i v (by simpa using e)
theorem maxD_mem : ∀ (ds : List PyData) (d : PyData), PySem.W.maxD d ds ∈ d :: ds
  | [], d => List.mem_cons_self ..
  | e :: ds, d => by
    have h := maxD_mem ds (if PySem.W.dataLt d e then e else d)
    show PySem.W.maxD (if PySem.W.dataLt d e then e else d) ds ∈ _
    rcases List.mem_cons.mp h with h | h
    · rw [h]; cases PySem.W.dataLt d e <;> simp
    · exact List.mem_cons_of_mem _ (List.mem_cons_of_mem _ h)
theorem minD_mem : ∀ (ds : List PyData) (d : PyData), PySem.W.minD d ds ∈ d :: ds
  | [], d => List.mem_cons_self ..
  | e :: ds, d => by
    have h := minD_mem ds (if PySem.W.dataLt e d then e else d)
    show PySem.W.minD (if PySem.W.dataLt e d then e else d) ds ∈ _
    rcases List.mem_cons.mp h with h | h
    · rw [h]; cases PySem.W.dataLt e d <;> simp
    · exact List.mem_cons_of_mem _ (List.mem_cons_of_mem _ h)
theorem cr_max (hc : X.calm = true) (hu : X.A.units + 64 < cLine) : CallR X (.builtin "max") (rMM X.K PySem.W.maxD) := by
  intro pins s σ H vs us Q I r h
  obtain ⟨a, xs, d, ds, rfl, hs, hd, hal, hdp, q⟩ := h
  obtain ⟨its, rv, hl, hle⟩ := I.list hs
  rw [Vals.ref1 r]
  obtain ⟨as, ra⟩ := Dp.readsAll I (d :: ds) xs its hd rv
  refine PySem.W.max_list_data (I.ok.hd hc) hl.isList (by simpa using ra) hal (by have := depthAll_le hdp; omega) fun i v h' tk bs hv rr hk => ?_
  have hv' : its[i]? = some v := by simpa using hv
  obtain ⟨y, ey, ry⟩ := Vals.get rv hv'
  obtain ⟨e, cs, ee, re⟩ := readsAll_get ra i v hv'
  have hm : e ∈ d :: ds := List.mem_of_getElem? ee
  have hb := maxD_mem ds d
  have eu : e = PySem.W.maxD d ds := PySem.W.alike_unique _ _ _ _ _ (hal.1 e hm _ hb) (Reads.keeps hk re) rr
  exact ⟨y, H, I.kept (t' := tk) hk, ry, q i y ey (by rw [ee, eu])⟩
theorem cr_min (hc : X.calm = true) (hu : X.A.units + 64 < cLine) : CallR X (.builtin "min") (rMM X.K PySem.W.minD) := by
  intro pins s σ H vs us Q I r h
  obtain ⟨a, xs, d, ds, rfl, hs, hd, hal, hdp, q⟩ := h
  obtain ⟨its, rv, hl, hle⟩ := I.list hs
  rw [Vals.ref1 r]
  obtain ⟨as, ra⟩ := Dp.readsAll I (d :: ds) xs its hd rv
  refine PySem.W.min_list_data (I.ok.hd hc) hl.isList (by simpa using ra) hal (by have := depthAll_le hdp; omega) fun i v h' tk bs hv rr hk => ?_
  have hv' : its[i]? = some v := by simpa using hv
  obtain ⟨y, ey, ry⟩ := Vals.get rv hv'
  obtain ⟨e, cs, ee, re⟩ := readsAll_get ra i v hv'
  have hm : e ∈ d :: ds := List.mem_of_getElem? ee
  have hb := minD_mem ds d
  have eu : e = PySem.W.minD d ds := PySem.W.alike_unique _ _ _ _ _ (hal.1 e hm _ hb) (Reads.keeps hk re) rr
  exact ⟨y, H, I.kept (t' := tk) hk, ry, q i y ey (by rw [ee, eu])⟩
theorem mok_of {xs : List PV} (h : mokB xs = true) : xs.all (data 60) = true ∧ PySem.W.AlikeAll (pds xs) := by
  unfold mokB at h
  rw [Bool.and_eq_true, Bool.and_eq_true] at h
  obtain ⟨h1, h2, h3⟩ := h
  refine ⟨h1, fun d hd d' hd' => ?_, fun d hd => ?_⟩
  · obtain ⟨x, hx, rfl⟩ := mem_pds hd
    obtain ⟨y, hy, rfl⟩ := mem_pds hd'
    exact List.all_eq_true.mp (List.all_eq_true.mp h2 x hx) y hy
  · obtain ⟨x, hx, rfl⟩ := mem_pds hd
    have a := List.all_eq_true.mp h3 x hx
    have b := List.all_eq_true.mp h1 x hx
    cases x with
    | non => cases a
    | bl _ => unfold pd; simp
    | int _ => unfold pd; simp
    | str _ => unfold pd; simp
    | tup _ => unfold pd; simp
    | lst _ => unfold pd; simp
    | _ => cases b
theorem cs_mm {id : String} {best : PyData → List PyData → PyData} {bv : PV → List PV → PV} {op : List PV → Option PV} (hr : CallR X (.builtin id) (rMM X.K best)) (hp : ∀ xs x, pd (bv x xs) = best (pd x) (pds xs)) (hm : ∀ xs x, bv x xs ∈ x :: xs)
    (ho : ∀ vs z, op vs = some z → ∃ x xs, vs = [.lst (x :: xs)] ∧ mokB (x :: xs) = true ∧ z = bv x xs) : CallS X D (.builtin id) op := by
  refine ⟨_, hr, fun lvl fr fs σ H vs us z Q I r hz k => ?_⟩
  obtain ⟨x, xs, rfl, h, rfl⟩ := ho vs z hz
  obtain ⟨h1, h2⟩ := mok_of h
  obtain ⟨v, rfl, n⟩ := r.one
  obtain ⟨a, ws, rfl, q1, q2, q3⟩ := n.lst
  have hd := q3.dp (K := X.K) 60 h1
  have e : pds (x :: xs) = pd x :: pds xs := rfl
  rw [e] at hd h2
  refine ⟨a, ws, pd x, pds xs, rfl, .inl (.inl q1), hd, h2, by rw [← e]; exact depth_pds h1, fun i u hu hi => ?_⟩
  obtain ⟨y, ey, ry⟩ := q3.get' hu
  have hy : y ∈ x :: xs := List.mem_of_getElem? ey
  have ep : pd y = pd (bv x xs) := by
    rw [hp]
    rw [← e, pds_map, List.getElem?_map, ey] at hi
    exact Option.some.inj hi
  have eq : y = bv x xs := pd_inj 60 60 y (bv x xs) (List.all_eq_true.mp h1 y hy) (List.all_eq_true.mp h1 _ (hm xs x)) ep
  exact k fr H u I .refl (eq ▸ ry)
/-- of a list, or of two ints -/
def maxP' : List PV → Option PV
  | [a, b] => max2P [a, b]
  | vs => maxP vs
def minP' : List PV → Option PV
  | [a, b] => min2P [a, b]
  | vs => minP vs
theorem CallS.or {f : Value} {op op' : List PV → Option PV} {g : List PV → Option PV} (h : CallS X D f op) (h' : CallS X D f op') (hg : ∀ vs z, g vs = some z → op vs = some z ∨ op' vs = some z) : CallS X D f g := by
  obtain ⟨r, hr, a⟩ := h
  obtain ⟨r', hr', b⟩ := h'
  refine ⟨_, CallR.or hr hr', fun lvl fr fs σ H vs us z Q I n hz k => ?_⟩
  rcases hg vs z hz with e | e
  · exact .inl (a lvl fr fs σ H vs us z Q I n e k)
  · exact .inr (b lvl fr fs σ H vs us z Q I n e k)
theorem maxP_inv : ∀ vs z, maxP vs = some z → ∃ x xs, vs = [.lst (x :: xs)] ∧ mokB (x :: xs) = true ∧ z = maxV x xs := fun vs z h => by
  unfold maxP at h
  split at h
  · split at h
    · rename_i e
      cases h
      exact ⟨_, _, rfl, e, rfl⟩
    · cases h
  · cases h
theorem minP_inv : ∀ vs z, minP vs = some z → ∃ x xs, vs = [.lst (x :: xs)] ∧ mokB (x :: xs) = true ∧ z = minV x xs := fun vs z h => by
  unfold minP at h
  split at h
  · split at h
    · rename_i e
      cases h
      exact ⟨_, _, rfl, e, rfl⟩
    · cases h
  · cases h
theorem cs_max (hc : X.calm = true) (hu : X.A.units + 64 < cLine) : CallS X D (.builtin "max") maxP' :=
  (cs_max2 hc).or (cs_mm (cr_max hc hu) maxV_pd maxV_mem maxP_inv) fun vs z h => by
    unfold maxP' at h
    split at h
    · exact .inl h
    · exact .inr h
theorem cs_min (hc : X.calm = true) (hu : X.A.units + 64 < cLine) : CallS X D (.builtin "min") minP' :=
  (cs_min2 hc).or (cs_mm (cr_min hc hu) minV_pd minV_mem minP_inv) fun vs z h => by
    unfold minP' at h
    split at h
    · exact .inl h
    · exact .inr h
end
section
variable {Q : PV → Prop} {xs : List PV} {a b : PV}
theorem sortedP_ok (h : sokB xs = true) : OpQ (sortedP [.lst xs]) Q = Q (.lst (srt xs)) := by
  have e : sortedP [.lst xs] = some (.lst (srt xs)) := if_pos h
  rw [e]
  rfl
theorem maxP_ok {x : PV} (h : mokB (x :: xs) = true) : OpQ (maxP' [.lst (x :: xs)]) Q = Q (maxV x xs) := by
  have e : maxP' [.lst (x :: xs)] = some (maxV x xs) := if_pos h
  rw [e]
  rfl
theorem minP_ok {x : PV} (h : mokB (x :: xs) = true) : OpQ (minP' [.lst (x :: xs)]) Q = Q (minV x xs) := by
  have e : minP' [.lst (x :: xs)] = some (minV x xs) := if_pos h
  rw [e]
  rfl
@[simp ↓] theorem maxP_two : OpQ (maxP' [a, b]) Q = OpQ (max2P [a, b]) Q := rfl
@[simp ↓] theorem minP_two : OpQ (minP' [a, b]) Q = OpQ (min2P [a, b]) Q := rfl
end
end Mi
end S_Mi26
section S_Mi27
set_option Elab.async false
set_option linter.all false
set_option maxRecDepth 100000
set_option maxHeartbeats 4000000
/-! sets of keys (ints, texts) that are counted or sorted at once -/
namespace Mi
open PySem PySem.Spec PyProof.Rows L2
/-- the key of an entry -/
def gk (e : Int × Value) : Key := match e.2 with
  | .str z _ => .inr z
  | .int i _ => .inl i
  | _ => .inl 0
def GoodM (P : Program) (w : World) (e : Int × Value) : Prop := RelV (kV (gk e)) e.2 ∧ e.1 = (mixKind P w).hash (gk e)
theorem gk_of {x : Int} {k : Key} {v : Value} (r : RelV (kV k) v) : gk (x, v) = k := by
  cases k with
  | inl i => obtain ⟨t, rfl⟩ := r; rfl
  | inr z => obtain ⟨t, rfl⟩ := r; rfl
def memK (S : List Key) (k : Key) : Bool := S.any fun j => decide (j = k)
theorem memK_iff {S : List Key} {k : Key} : memK S k = true ↔ k ∈ S := by
  unfold memK
  rw [List.any_eq_true]
  constructor
  · rintro ⟨j, hj, e⟩
    exact of_decide_eq_true e ▸ hj
  · exact fun h => ⟨k, h, decide_eq_true rfl⟩
def addK (S : List Key) (k : Key) : List Key := if memK S k = true then S else S ++ [k]
theorem addK_nodup {S : List Key} {k : Key} (h : S.Nodup) : (addK S k).Nodup := by
  unfold addK
  split
  · exact h
  · rename_i hk
    refine List.nodup_append.mpr ⟨h, by simp, fun a ha b hb => ?_⟩
    rw [List.mem_singleton.mp hb]
    exact fun e => hk (memK_iff.mpr (e ▸ ha))
theorem addK_len (S : List Key) (k : Key) : (addK S k).length ≤ S.length + 1 := by
  unfold addK
  split
  · omega
  · simp
theorem foldK_len : ∀ (ks S : List Key), (ks.foldl addK S).length ≤ S.length + ks.length
  | [], S => by simp
  | k :: ks, S => by
    have a := foldK_len ks (addK S k)
    have b := addK_len S k
    rw [List.foldl_cons, List.length_cons]
    omega
/-- the set at a: its members -/
def SetM (P : Program) (w : World) (h : Heap) (a : Addr) (S : List Key) : Prop :=
  ∃ o es ep t, h.get? a = some o ∧ o.ExactSet ∧ o.data = .set es ep t ∧ (∀ e ∈ es.toList, GoodM P w e) ∧ (es.toList.map gk).Perm S ∧ S.Nodup ∧ es.size < scanBound ∧ t.fits es.size = true ∧ Ris t.place.toList ∧ (w.params.followText "set-order" = true ∨ t.led = true)
section
variable {P : Program} {w : World} {A : Around} {E : Value → Shared → Prop} {s : Shared} {h h' : Heap} {a : Addr} {S : List Key}
theorem SetM.at (R : SetM P w h a S) (k : ∀ o, h.get? a = some o → h'.get? a = some o) : SetM P w h' a S := by
  obtain ⟨o, es, ep, t, ho, r⟩ := R
  exact ⟨o, es, ep, t, k o ho, r⟩
theorem goodM_elems {l : List (Int × Value)} (g : ∀ e ∈ l, GoodM P w e) : ElemsOf (mixKind P w) l := fun e he => ⟨⟨gk e, kV_is (g e he).1, (g e he).2⟩, key_scan (g e he).1⟩
theorem goodM_is {e : Int × Value} (g : GoodM P w e) (k : Key) : (mixKind P w).is k e.2 = true ↔ gk e = k :=
  ⟨fun q => (mixKind P w).inj e.2 _ _ (kV_is g.1) q, fun q => q ▸ kV_is g.1⟩
theorem setM_tail {g : Bool → Sem Unit} (hg : ∀ (b : Bool) (s₁ : Shared) (Q' : Unit → Shared → Prop), Q' () s₁ → wpAny (model P w) A (g b) Q' E s₁) {o : Obj} {es : Array (Int × Value)} {ep : Nat} {t : SetTable}
    (ho : s.heap.get? a = some o) (hex : o.ExactSet) (hd : o.data = .set es ep t) {es1 : Array (Int × Value)} {t2 : SetTable} (g1 : ∀ e ∈ es1.toList, GoodM P w e) (pm1 : (es1.toList.map gk).Perm S) (nd : S.Nodup)
    (hb1 : es1.size < scanBound) (hf2 : t2.fits es1.size = true) (hr : Ris t2.place.toList) (hl : w.params.followText "set-order" = true ∨ t2.led = true) {wd : Bool} {R : Option Bool → Shared → Prop}
    (hR : ∀ h', Heap.SameBut a s.heap h' → SetM P w h' a S → R (some true) { s with heap := h' }) :
    wpAny (model P w) A (do
        storeSet a es1 t2
        if (!wd && t2.tooFull) = true then do
            g (relayAll t2 es1 (SetTable.grown es1.size)).2.2
            storeSet a (relayAll t2 es1 (SetTable.grown es1.size)).1 (relayAll t2 es1 (SetTable.grown es1.size)).2.1
            pure (some true)
          else pure (some true)) R E s := by
  have at1 := L2.store_at (es' := es1) (t' := t2) ho hd
  have same1 := Heap.SameBut.update s.heap a (Obj.putSet es1 t2)
  refine wpAny_bind (wpAny_storeSet_of ho hd ?_ (fits_of_scanBound hb1))
  split
  · have p2 := relayAll_perm t2 es1 (SetTable.grown es1.size)
    have f2 := relayAll_fits t2 es1 (SetTable.grown es1.size)
    have r2 := relayAll_ris t2 es1 (SetTable.grown es1.size)
    have l2 := relayAll_led t2 es1 (SetTable.grown es1.size)
    generalize relayAll t2 es1 (SetTable.grown es1.size) = Z at p2 f2 r2 l2 ⊢
    obtain ⟨es2, t3, gave⟩ := Z
    dsimp only at p2 f2 r2 l2 ⊢
    have z2 : es2.size = es1.size := by rw [← Array.length_toList, p2.length_eq, Array.length_toList]
    have hb2 : es2.size < scanBound := z2 ▸ hb1
    refine wpAny_bind (hg _ _ _ (wpAny_bind (wpAny_storeSet_of at1 rfl ?_ (fits_of_scanBound hb2))))
    have at2 := L2.store_at (es' := es2) (t' := t3) at1 rfl
    exact wpAny_pure (hR _ (same1.trans (Heap.SameBut.update _ a _)) ⟨_, es2, _, t3, at2, hex, rfl, fun e he => g1 e (p2.mem_iff.mp he), (p2.map gk).trans pm1, nd, hb2, f2, r2, hl.imp id fun q => l2.trans q⟩)
  · exact wpAny_pure (hR _ same1 ⟨_, es1, _, t2, at1, hex, rfl, g1, pm1, nd, hb1, hf2, hr, hl⟩)
theorem setM_add {k : Key} {v : Value} {Q : Bool → Shared → Prop} (R : SetM P w s.heap a S) (room : S.length + 1 < scanBound) (rv : RelV (kV k) v)
    (hQ : ∀ h' b, Heap.SameBut a s.heap h' → SetM P w h' a (addK S k) → Q b { s with heap := h' }) : wpAny (model P w) A (setAddHashed a v ((mixKind P w).hash k)) Q E s := by
  obtain ⟨o, es, ep, t, ho, hex, hd, g, pm, nd, hb, hf, hr, hl⟩ := R
  have isk := kV_is (P := P) (w := w) rv
  have sc := key_scan rv
  have el := goodM_elems g
  unfold setAddHashed setAddHashedIn
  refine wpAny_holding (wpAny_bind (wpAny_setState_of ho hd hf ?_))
  dsimp only
  rw [byScan_of sc hb el]
  simp only [↓reduceIte]
  unfold setAddByScan
  refine wpAny_bind (wpAny_bind (wpAny_rule (wpAny_bind (wpAny_setScan_of isk ho hd hf el ?_))))
  cases fi : List.findIdx? (fun e => (mixKind P w).is k e.2) es.toList with
  | some j =>
    dsimp only
    obtain ⟨hj, pj, _⟩ := List.findIdx?_eq_some_iff_getElem.mp fi
    have hm : k ∈ S := pm.mem_iff.mp (List.mem_map.mpr ⟨_, List.getElem_mem hj, (goodM_is (g _ (List.getElem_mem hj)) k).mp pj⟩)
    have same : addK S k = S := by unfold addK; rw [if_pos (memK_iff.mpr hm)]
    exact wpAny_pure (wpAny_pure (hQ s.heap _ (Heap.SameBut.refl a s.heap) ⟨o, es, ep, t, ho, hex, hd, g, by rw [same]; exact pm, by rw [same]; exact nd, hb, hf, hr, hl⟩))
  | none =>
    dsimp only
    have hn : k ∉ S := fun q => by
      obtain ⟨e, he, ek⟩ := List.mem_map.mp (pm.mem_iff.mpr q)
      have c := List.findIdx?_eq_none_iff.mp fi e he
      rw [(goodM_is (g e he) k).mpr ek] at c
      cases c
    have more : addK S k = S ++ [k] := by unfold addK; rw [if_neg fun q => hn (memK_iff.mp q)]
    have ndk := addK_nodup (k := k) nd
    have quiet : ∀ (b : Bool) {s₁ : Shared} {Q' : Unit → Shared → Prop}, Q' () s₁ → wpAny (model P w) A (match b with | true => rule "set.scan.the-table-gave-way" | false => pure ()) Q' E s₁ :=
      fun b s₁ Q' q => by cases b <;> first | exact wpAny_pure q | exact wpAny_rule q
    have p1 := layNew_perm t es ((mixKind P w).hash k) v
    have f1 := layNew_fits t es ((mixKind P w).hash k) v
    have r1 := layNew_ris t es ((mixKind P w).hash k) v hr
    have l1 := layNew_led t es ((mixKind P w).hash k) v
    generalize layNew t es ((mixKind P w).hash k) v = Z at p1 f1 r1 l1 ⊢
    obtain ⟨es1, t1, wd, gave⟩ := Z
    dsimp only at p1 f1 r1 l1 ⊢
    rw [Array.toList_push] at p1
    have g1 : ∀ e ∈ es1.toList, GoodM P w e := fun e he => by
      rcases List.mem_append.mp (p1.mem_iff.mp he) with q | q
      · exact g e q
      · rw [List.mem_singleton.mp q]
        exact ⟨by rw [gk_of rv]; exact rv, by rw [gk_of rv]⟩
    have pk : (es1.toList.map gk).Perm (addK S k) := by
      rw [more]
      refine (p1.map gk).trans ?_
      rw [List.map_append, List.map_cons, List.map_nil, gk_of rv]
      exact pm.append_right [k]
    have z1 : es1.size = S.length + 1 := by
      have := pk.length_eq
      rw [List.length_map, Array.length_toList, more, List.length_append] at this
      exact this
    have hb1 : es1.size < scanBound := by rw [z1]; exact room
    have led1 : w.params.followText "set-order" = true ∨ t1.led = true := hl.imp id fun q => l1.trans q
    refine wpAny_bind (quiet _ ?_)
    split
    · refine wpAny_bind ?_
      rw [hashByValue_scannable 8 sc]
      refine wpAny_pure (setM_tail (S := addK S k) ?_ ho hex hd g1 pk ndk hb1 ?_ ?_ ?_ ?_)
      · intro b s₁ Q' q; cases b <;> first | exact wpAny_pure q | exact wpAny_rule q
      · first | (split <;> first | exact f1 | exact SetTable.fits_plain_off f1) | exact f1
      · first | (split <;> exact r1) | exact r1
      · first | (split <;> exact led1) | exact led1
      · intro h' sb r; dsimp only; exact wpAny_pure (hQ h' _ sb r)
    · refine wpAny_bind (wpAny_pure ?_)
      simp only [↓reduceIte]
      refine setM_tail (S := addK S k) ?_ ho hex hd g1 pk ndk hb1 f1 r1 led1 ?_
      · intro b s₁ Q' q; cases b <;> first | exact wpAny_pure q | exact wpAny_rule q
      · intro h' sb r; dsimp only; exact wpAny_pure (hQ h' _ sb r)
theorem setM_new {h : Heap} (ho : h.get? a = some { cls := .type "set", dict := none, data := .set #[] 0 (.fresh 0 0 (!w.params.followText "set-order")) }) : SetM P w h a [] :=
  ⟨_, #[], 0, _, ho, ⟨rfl, rfl, rfl⟩, rfl, (fun e he => by simp at he), .refl _, .nil, by decide, by rfl, List.Pairwise.nil, by
    show _ ∨ (!w.params.followText "set-order") = true
    cases w.params.followText "set-order"
    · exact .inr rfl
    · exact .inl rfl⟩
/-- all keys of a walk are added -/
theorem setM_loop {I : Addr} {fp wr : List Addr} {G : Array GenState → Array GenState → Prop} {n : Nat} {Pv : Nat → Value → Prop} {St : Nat → Shared → Prop} {R : Result → Shared → Prop} (W : WalksS P w A.in1 I fp wr G n Pv St) (b : Addr) (hbf : b ∉ fp)
    (ks : List Key) (hn : n = ks.length) (hb : ks.length + 1 < scanBound) (hval : ∀ i v, Pv i v → ∃ k, ks[i]? = some k ∧ RelV (kV k) v) : ∀ (m i : Nat) (s : Shared), n - i = m → i ≤ n → St i s → SetM P w s.heap b ((ks.take i).foldl addK []) →
      (∀ s', Moved (b :: wr) G s s' → SetM P w s'.heap b (ks.foldl addK []) → R (.ok (.ret .none)) s') → codeAny (model P w) A (.builtin "set.update.loop" ⟨[.ref b, .ref I], []⟩) R s := by
  have hbw : b ∉ wr := fun q => hbf (W.sub _ q)
  have sub : ∀ c ∈ wr, c ∈ b :: wr := fun c hc => List.mem_cons_of_mem _ hc
  intro m
  induction m with
  | zero =>
    intro i s hm hi st hS hR
    obtain rfl : i = n := by omega
    refine codeAny_builtin F.entry_set_update_loop ?_
    rw [Around.under_plainId F.plain_set_update_loop _]
    show wpAny _ A.in1 (pyNext (.ref I) >>= _) _ _ s
    refine wpAny_bind (W.done s _ _ st fun s' mv => ?_)
    show wpAny _ A.in1 (ret Value.none) _ _ s'
    rw [List.take_of_length_le (by omega)] at hS
    exact wpAny_pure (hR s' (mv.mono sub) (hS.at fun o e => mv.heap b o hbw e))
  | succ m ih =>
    intro i s hm hi st hS hR
    have lt : i < n := by omega
    refine codeAny_builtin F.entry_set_update_loop ?_
    rw [Around.under_plainId F.plain_set_update_loop _]
    show wpAny _ A.in1 (pyNext (.ref I) >>= _) _ _ s
    refine wpAny_bind (W.item i s _ _ lt st fun v s' hP st' mv => ?_)
    obtain ⟨k, ek, rv⟩ := hval i v hP
    have hS1 : SetM P w s'.heap b ((ks.take i).foldl addK []) := hS.at fun o e => mv.heap b o hbw e
    show wpAny _ A.in1 (holding [v] (setAdd b v) >>= _) _ _ s'
    refine wpAny_bind (wpAny_holding ?_)
    unfold setAdd
    have small : ((ks.take i).foldl addK []).length + 1 < scanBound := by
      have := foldK_len (ks.take i) []
      rw [List.length_take, List.length_nil] at this
      omega
    refine wpAny_holding (wpAny_bind ((mixKind P w).pyHash (k := k) (kV_is rv) ?_))
    refine setM_add (s := { s' with toks := s'.toks + 1 }) hS1 small rv fun h' _ sb hS2 => ?_
    have hS3 : SetM P w h' b ((ks.take (i + 1)).foldl addK []) := by
      rw [List.take_add_one, ek]
      simpa [List.foldl_append] using hS2
    refine wpAny_pure ⟨plainId_quiet F.plain_set_update_loop _, ih (i + 1) _ (by omega) lt (W.frame _ s' _ _ st' (Nat.le_succ _) fun c hc o e => ?_) hS3 fun s2 mv2 hS4 => hR s2 (Moved.trans W.gtrans ((mv.mono sub).then_heap (Nat.le_succ _) fun c o hc e => ?_) mv2) hS4⟩
    · rw [sb.2 c (fun z : c = b => hbf (by rw [← z]; exact hc))]; exact e
    · rw [sb.2 c (fun z : c = b => hc (by rw [z]; exact List.mem_cons_self))]; exact e
end
end Mi
end S_Mi27
section S_Mi28
set_option Elab.async false
set_option linter.all false
set_option maxRecDepth 100000
set_option maxHeartbeats 4000000
/-! set(..) of keys; len and sorted of it; sorted of a text -/
namespace Mi
open PySem PySem.Spec PyProof.Rows L2
abbrev set0 (w : World) : Obj := { cls := .type "set", dict := none, data := .set #[] 0 (.fresh 0 0 (!w.params.followText "set-order")) }
section
variable {P : Program} {w : World} {A : Around} {E : Value → Shared → Prop} {s : Shared}
set_option maxRecDepth 100000 in
set_option maxHeartbeats 3200000 in
theorem call_setM_list {l : Addr} {items : Array Value} (ks : List Key) {Q : Value → Shared → Prop} (hh : A.handled = none) (hl : s.heap.IsList l items) (hz : items.size = ks.length) (hit : ∀ (i : Nat) (v : Value), items[i]? = some v → ∃ k, ks[i]? = some k ∧ RelV (kV k) v) (hb : ks.length + 1 < scanBound)
    (h : ∀ (h' : Heap) (tk : Nat), SetM P w h' s.heap.objs.size (ks.foldl addK []) → (∀ b o, s.heap.get? b = some o → h'.get? b = some o) → Q (.ref s.heap.objs.size) { s with heap := h', toks := tk }) :
    wpAny (model P w) A (call (.type "set") [.ref l]) Q E s := by
  obtain ⟨cc, tl, hmro⟩ := F.called_set.mro
  have hmade := F.called_set.made
  have hsub := F.called_set.sub
  refine wpAny_call (codeAny_of_tree ?_)
  show wpAny _ _ (callAny (.type "set") _) _ _ _
  refine wpAny_pure ⟨Code.quiet_builtin _ (by decide +kernel), codeAny_builtin F.entry_type_call ?_⟩
  rw [Around.under_plain (weight_type_call_type "set" [.ref l] []) rfl]
  have h1 := F.called_set.notType
  have h2 := F.called_set.canCreate
  have hct := F.typeCall_set_1 (.ref l)
  repeat (any_goals (first | assumption | wp_step))
  refine codeAny_mono (L2.code_set_led1 (.ref l) (E := E) (Q₁ := fun obj s₁ => obj = .ref s.heap.objs.size ∧ s₁ = { s with heap := s.heap.push (set0 w) }) ⟨rfl, rfl⟩) fun r s₁ hr => ?_
  cases r with
  | error e => exact hr
  | ok fl =>
    cases fl with
    | ret obj =>
      obtain ⟨rfl, rfl⟩ := hr
      have hS : (s.heap.push (set0 w)).get? s.heap.objs.size = some (set0 w) := Heap.get?_push_size _ rfl
      have hT : Shared.TypeIs { s with heap := s.heap.push (set0 w) } (.ref s.heap.objs.size) "set" := ⟨_, hS, rfl⟩
      have hli := F.called_set.init.lookup
      have hbi := F.called_set.init.bind (.ref s.heap.objs.size)
      repeat (any_goals (first | assumption | wp_step))
      refine codeAny_mono (codeAny_call_builtin (R := wants (fun r s₂ => r = .none ∧ ∃ h' tk, s₂ = { s with heap := h', toks := tk } ∧ SetM P w h' s.heap.objs.size (ks.foldl addK []) ∧
          (∀ b o, s.heap.get? b = some o → h'.get? b = some o)) E) F.called_set.init.plain F.entry_set_init (check_set_init_1 hT ?_)) fun r₂ s₂ hr₂ => ?_
      · have hl0 := hl
        obtain ⟨ol, hol, hcl, nl, hdl⟩ := hl
        obtain ⟨ocls, odict, odata, oslots⟩ := ol
        simp only at hcl hdl
        subst hcl; subst hdl
        have hol' : (s.heap.push (set0 w)).get? l = some { cls := .type "list", dict := odict, data := .seq items nl, slots := oslots } := Heap.get?_push_of_some _ hol
        have hl1 : (s.heap.push (set0 w)).IsList l items := ⟨_, hol', rfl, nl, rfl⟩
        have hsls := F.sub_list_set
        have hslf := F.sub_list_frozenset
        have hne : (Value.type "list" == Value.type "dict") = false := by decide
        unfold Builtin.«set.__init__» noKeywords Builtin.Frozenset.updateFrom
        generalize hPI : pyIter = PI
        wp_walk
        subst hPI
        have hh3 : A.in1.in1.in1.handled = none := by simp [hh]
        have hz1 : (s.heap.push (set0 w)).objs.size = s.heap.objs.size + 1 := Heap.size_push ..
        refine wpAny_pyIter_list hl1 ?_
        refine wpAny_bind (wpAny_runValue ?_)
        have hlS : l < s.heap.objs.size := Heap.lt_size hol
        have hneI : l ≠ (s.heap.push (set0 w)).objs.size := by rw [hz1]; exact Nat.ne_of_lt (Nat.lt_succ_of_lt hlS)
        have hSf : s.heap.objs.size ∉ [(s.heap.push (set0 w)).objs.size, l] := by
          rw [hz1]; simp only [List.mem_cons, List.mem_singleton, List.not_mem_nil, or_false, not_or]
          exact ⟨Nat.ne_of_lt (Nat.lt_succ_self _), Nat.ne_of_gt hlS⟩
        refine setM_loop ((Walks.list hh3 _ l hneI items).toS) s.heap.objs.size hSf ks hz hb hit (items.size - 0) 0 _ (by omega) (Nat.zero_le _)
          ⟨⟨_, Heap.get?_push_size _ rfl, rfl, rfl⟩, (hl1.push _)⟩ ?hS0 ?hR
        case hS0 => exact setM_new (Heap.get?_push_of_some _ hS)
        case hR =>
          intro s' hm hS'
          obtain ⟨h', g2, d', tk', os'⟩ := s'
          have eg : g2 = s.gens := hm.gens
          have ed : d' = s.drawn := hm.drawn
          have eo : os' = s.os := hm.os
          subst eg; subst ed; subst eo
          show wpAny _ _ _ _ _ _
          refine wpAny_pure ?_
          show wpAny _ _ (ret Value.none) _ _ _
          refine wpAny_pure ⟨rfl, h', tk', rfl, hS', fun b o e => ?_⟩
          have hb0 : b < s.heap.objs.size := Heap.lt_size e
          have hb1 : b ≠ s.heap.objs.size := Nat.ne_of_lt hb0
          have hb2 : b ≠ (s.heap.push (set0 w)).objs.size := by rw [hz1]; exact Nat.ne_of_lt (Nat.lt_succ_of_lt hb0)
          exact hm.heap b o (by simp only [List.mem_cons, List.mem_singleton, List.not_mem_nil, or_false, not_or]; exact ⟨hb1, hb2⟩) (Heap.get?_push_of_some _ (Heap.get?_push_of_some _ e))
      · cases r₂ with
        | error e => exact hr₂
        | ok fl₂ =>
          cases fl₂ with
          | ret r =>
            obtain ⟨rfl, h', tk, rfl, hS', hk'⟩ := hr₂
            repeat (any_goals (first | assumption | wp_step))
            exact h _ _ hS' hk'
          | _ => exact hr₂.elim
    | _ => exact hr.elim
set_option maxRecDepth 100000 in
set_option maxHeartbeats 3200000 in
theorem call_setM_tuple {l : Addr} {items : Array Value} (ks : List Key) {Q : Value → Shared → Prop} (hh : A.handled = none) (hl : s.heap.IsTuple l items) (hz : items.size = ks.length) (hit : ∀ (i : Nat) (v : Value), items[i]? = some v → ∃ k, ks[i]? = some k ∧ RelV (kV k) v) (hb : ks.length + 1 < scanBound)
    (h : ∀ (h' : Heap) (tk : Nat), SetM P w h' s.heap.objs.size (ks.foldl addK []) → (∀ b o, s.heap.get? b = some o → h'.get? b = some o) → Q (.ref s.heap.objs.size) { s with heap := h', toks := tk }) :
    wpAny (model P w) A (call (.type "set") [.ref l]) Q E s := by
  obtain ⟨cc, tl, hmro⟩ := F.called_set.mro
  have hmade := F.called_set.made
  have hsub := F.called_set.sub
  refine wpAny_call (codeAny_of_tree ?_)
  show wpAny _ _ (callAny (.type "set") _) _ _ _
  refine wpAny_pure ⟨Code.quiet_builtin _ (by decide +kernel), codeAny_builtin F.entry_type_call ?_⟩
  rw [Around.under_plain (weight_type_call_type "set" [.ref l] []) rfl]
  have h1 := F.called_set.notType
  have h2 := F.called_set.canCreate
  have hct := F.typeCall_set_1 (.ref l)
  repeat (any_goals (first | assumption | wp_step))
  refine codeAny_mono (L2.code_set_led1 (.ref l) (E := E) (Q₁ := fun obj s₁ => obj = .ref s.heap.objs.size ∧ s₁ = { s with heap := s.heap.push (set0 w) }) ⟨rfl, rfl⟩) fun r s₁ hr => ?_
  cases r with
  | error e => exact hr
  | ok fl =>
    cases fl with
    | ret obj =>
      obtain ⟨rfl, rfl⟩ := hr
      have hS : (s.heap.push (set0 w)).get? s.heap.objs.size = some (set0 w) := Heap.get?_push_size _ rfl
      have hT : Shared.TypeIs { s with heap := s.heap.push (set0 w) } (.ref s.heap.objs.size) "set" := ⟨_, hS, rfl⟩
      have hli := F.called_set.init.lookup
      have hbi := F.called_set.init.bind (.ref s.heap.objs.size)
      repeat (any_goals (first | assumption | wp_step))
      refine codeAny_mono (codeAny_call_builtin (R := wants (fun r s₂ => r = .none ∧ ∃ h' tk, s₂ = { s with heap := h', toks := tk } ∧ SetM P w h' s.heap.objs.size (ks.foldl addK []) ∧
          (∀ b o, s.heap.get? b = some o → h'.get? b = some o)) E) F.called_set.init.plain F.entry_set_init (check_set_init_1 hT ?_)) fun r₂ s₂ hr₂ => ?_
      · have hl0 := hl
        obtain ⟨ol, hol, hcl, nl, hdl⟩ := hl
        obtain ⟨ocls, odict, odata, oslots⟩ := ol
        simp only at hcl hdl
        subst hcl; subst hdl
        have hol' : (s.heap.push (set0 w)).get? l = some { cls := .type "tuple", dict := odict, data := .seq items nl, slots := oslots } := Heap.get?_push_of_some _ hol
        have hl1 : (s.heap.push (set0 w)).IsTuple l items := ⟨_, hol', rfl, nl, rfl⟩
        have hsls := F.sub_tuple_set
        have hslf := F.sub_tuple_frozenset
        have hne : (Value.type "tuple" == Value.type "dict") = false := by decide
        unfold Builtin.«set.__init__» noKeywords Builtin.Frozenset.updateFrom
        generalize hPI : pyIter = PI
        wp_walk
        subst hPI
        have hh3 : A.in1.in1.in1.handled = none := by simp [hh]
        have hz1 : (s.heap.push (set0 w)).objs.size = s.heap.objs.size + 1 := Heap.size_push ..
        refine wpAny_pyIter_tuple hl1 ?_
        refine wpAny_bind (wpAny_runValue ?_)
        have hlS : l < s.heap.objs.size := Heap.lt_size hol
        have hneI : l ≠ (s.heap.push (set0 w)).objs.size := by rw [hz1]; exact Nat.ne_of_lt (Nat.lt_succ_of_lt hlS)
        have hSf : s.heap.objs.size ∉ [(s.heap.push (set0 w)).objs.size, l] := by
          rw [hz1]; simp only [List.mem_cons, List.mem_singleton, List.not_mem_nil, or_false, not_or]
          exact ⟨Nat.ne_of_lt (Nat.lt_succ_self _), Nat.ne_of_gt hlS⟩
        refine setM_loop ((Walks.tuple hh3 _ l hneI items).toS) s.heap.objs.size hSf ks hz hb hit (items.size - 0) 0 _ (by omega) (Nat.zero_le _)
          ⟨⟨_, Heap.get?_push_size _ rfl, rfl, rfl⟩, (hl1.push _)⟩ ?hS0 ?hR
        case hS0 => exact setM_new (Heap.get?_push_of_some _ hS)
        case hR =>
          intro s' hm hS'
          obtain ⟨h', g2, d', tk', os'⟩ := s'
          have eg : g2 = s.gens := hm.gens
          have ed : d' = s.drawn := hm.drawn
          have eo : os' = s.os := hm.os
          subst eg; subst ed; subst eo
          show wpAny _ _ _ _ _ _
          refine wpAny_pure ?_
          show wpAny _ _ (ret Value.none) _ _ _
          refine wpAny_pure ⟨rfl, h', tk', rfl, hS', fun b o e => ?_⟩
          have hb0 : b < s.heap.objs.size := Heap.lt_size e
          have hb1 : b ≠ s.heap.objs.size := Nat.ne_of_lt hb0
          have hb2 : b ≠ (s.heap.push (set0 w)).objs.size := by rw [hz1]; exact Nat.ne_of_lt (Nat.lt_succ_of_lt hb0)
          exact hm.heap b o (by simp only [List.mem_cons, List.mem_singleton, List.not_mem_nil, or_false, not_or]; exact ⟨hb1, hb2⟩) (Heap.get?_push_of_some _ (Heap.get?_push_of_some _ e))
      · cases r₂ with
        | error e => exact hr₂
        | ok fl₂ =>
          cases fl₂ with
          | ret r =>
            obtain ⟨rfl, h', tk, rfl, hS', hk'⟩ := hr₂
            repeat (any_goals (first | assumption | wp_step))
            exact h _ _ hS' hk'
          | _ => exact hr₂.elim
    | _ => exact hr.elim
set_option maxRecDepth 100000 in
set_option maxHeartbeats 3200000 in
theorem call_setM_str {x : Str} {t : Tok} (ks : List Key) {Q : Value → Shared → Prop} (hh : A.handled = none) (hz : x.cps.size = ks.length) (hit : ∀ (i : Nat) (v : Value), SignAt x i v → ∃ k, ks[i]? = some k ∧ RelV (kV k) v) (hb : ks.length + 1 < scanBound)
    (h : ∀ (h' : Heap) (tk : Nat), SetM P w h' s.heap.objs.size (ks.foldl addK []) → (∀ b o, s.heap.get? b = some o → h'.get? b = some o) → Q (.ref s.heap.objs.size) { s with heap := h', toks := tk }) :
    wpAny (model P w) A (call (.type "set") [.str x t]) Q E s := by
  obtain ⟨cc, tl, hmro⟩ := F.called_set.mro
  have hmade := F.called_set.made
  have hsub := F.called_set.sub
  refine wpAny_call (codeAny_of_tree ?_)
  show wpAny _ _ (callAny (.type "set") _) _ _ _
  refine wpAny_pure ⟨Code.quiet_builtin _ (by decide +kernel), codeAny_builtin F.entry_type_call ?_⟩
  rw [Around.under_plain (weight_type_call_type "set" [.str x t] []) rfl]
  have h1 := F.called_set.notType
  have h2 := F.called_set.canCreate
  have hct := F.typeCall_set_1 (.str x t)
  repeat (any_goals (first | assumption | wp_step))
  refine codeAny_mono (L2.code_set_led1 (.str x t) (E := E) (Q₁ := fun obj s₁ => obj = .ref s.heap.objs.size ∧ s₁ = { s with heap := s.heap.push (set0 w) }) ⟨rfl, rfl⟩) fun r s₁ hr => ?_
  cases r with
  | error e => exact hr
  | ok fl =>
    cases fl with
    | ret obj =>
      obtain ⟨rfl, rfl⟩ := hr
      have hS : (s.heap.push (set0 w)).get? s.heap.objs.size = some (set0 w) := Heap.get?_push_size _ rfl
      have hT : Shared.TypeIs { s with heap := s.heap.push (set0 w) } (.ref s.heap.objs.size) "set" := ⟨_, hS, rfl⟩
      have hli := F.called_set.init.lookup
      have hbi := F.called_set.init.bind (.ref s.heap.objs.size)
      repeat (any_goals (first | assumption | wp_step))
      refine codeAny_mono (codeAny_call_builtin (R := wants (fun r s₂ => r = .none ∧ ∃ h' tk, s₂ = { s with heap := h', toks := tk } ∧ SetM P w h' s.heap.objs.size (ks.foldl addK []) ∧
          (∀ b o, s.heap.get? b = some o → h'.get? b = some o)) E) F.called_set.init.plain F.entry_set_init (check_set_init_1 hT ?_)) fun r₂ s₂ hr₂ => ?_
      · skip
        have hsls := F.sub_str_set
        have hslf := F.sub_str_frozenset
        have hne : (Value.type "str" == Value.type "dict") = false := by decide
        unfold Builtin.«set.__init__» noKeywords Builtin.Frozenset.updateFrom
        generalize hPI : pyIter = PI
        wp_walk
        subst hPI
        have hh3 : A.in1.in1.in1.handled = none := by simp [hh]
        have hz1 : (s.heap.push (set0 w)).objs.size = s.heap.objs.size + 1 := Heap.size_push ..
        refine wpAny_pyIter_str fun ob St hW hst => ?_
        refine wpAny_bind (wpAny_runValue ?_)
        have hSf : s.heap.objs.size ∉ [(s.heap.push (set0 w)).objs.size] := by
          rw [hz1]; simp only [List.mem_singleton]
          exact Nat.ne_of_lt (Nat.lt_succ_self _)
        refine setM_loop ((hW _ hh3).toS) s.heap.objs.size hSf ks hz hb hit (x.cps.size - 0) 0 _ (by omega) (Nat.zero_le _) hst ?hS0 ?hR
        case hS0 => exact setM_new (Heap.get?_push_of_some _ hS)
        case hR =>
          intro s' hm hS'
          obtain ⟨h', g2, d', tk', os'⟩ := s'
          have eg : g2 = s.gens := hm.gens
          have ed : d' = s.drawn := hm.drawn
          have eo : os' = s.os := hm.os
          subst eg; subst ed; subst eo
          show wpAny _ _ _ _ _ _
          refine wpAny_pure ?_
          show wpAny _ _ (ret Value.none) _ _ _
          refine wpAny_pure ⟨rfl, h', tk', rfl, hS', fun b o e => ?_⟩
          have hb0 : b < s.heap.objs.size := Heap.lt_size e
          have hb1 : b ≠ s.heap.objs.size := Nat.ne_of_lt hb0
          have hb2 : b ≠ (s.heap.push (set0 w)).objs.size := by rw [hz1]; exact Nat.ne_of_lt (Nat.lt_succ_of_lt hb0)
          exact hm.heap b o (by simp only [List.mem_cons, List.mem_singleton, List.not_mem_nil, or_false, not_or]; exact ⟨hb1, hb2⟩) (Heap.get?_push_of_some _ (Heap.get?_push_of_some _ e))
      · cases r₂ with
        | error e => exact hr₂
        | ok fl₂ =>
          cases fl₂ with
          | ret r =>
            obtain ⟨rfl, h', tk, rfl, hS', hk'⟩ := hr₂
            repeat (any_goals (first | assumption | wp_step))
            exact h _ _ hS' hk'
          | _ => exact hr₂.elim
    | _ => exact hr.elim
end
end Mi
end S_Mi28
section S_Mi29
set_option Elab.async false
set_option linter.all false
set_option maxRecDepth 100000
set_option maxHeartbeats 4000000
/-! len and sorted of a set, sorted of a text -/
namespace Mi
open PySem PySem.Spec PyProof.Rows L2
section
variable {X : Cx} {D : Stat} {lvl : Nat} {W : WX} {fr fr1 fr' : Fr} {H H1 H' : Hp} {fs s : Fs} {σ σ' : L2.St} {pins : List (Addr × Obj)}
def SetMO (P : Program) (w : World) (a : Addr) (S : List Key) : HO := .ext fun h => SetM P w h a S
theorem setMO_ok {P : Program} {w : World} {H : Hp} {h : Heap} {a : Addr} {S : List Key} (R : SetM P w h a S) : ObjOk P w H h a (SetMO P w a S) := by
  have ⟨o, _, _, _, ho, _⟩ := R
  exact ⟨R, ⟨o, ho⟩, fun h1 h2 p k => SetM.at p k⟩
theorem setMO_get {a : Addr} {S : List Key} {s : Shared} (I : Inv X pins σ H s) (ha : H a = some (SetMO X.prog X.w a S)) : SetM X.prog X.w s.heap a S := (I.hok a _ ha).1
def rSetM (P : Program) (w : World) (K : PySem.W.Frag) : List V → Hp → VK → Prop := fun vs H Q => ∃ (x : V) (ks : List Key), vs = [x] ∧ ItV K H x (ks.map kV) ∧ ks.length + 1 < scanBound ∧ ∀ p, H p = none → Q (.ref p) (upd H p (SetMO P w p (ks.foldl addK [])))
theorem get_kV {ks : List Key} {i : Nat} {y : V} (h : (ks.map kV)[i]? = some y) : ∃ k, ks[i]? = some k ∧ kV k = y := by
  rw [List.getElem?_map] at h
  cases e : ks[i]? with
  | none => rw [e] at h; cases h
  | some k => rw [e] at h; exact ⟨k, rfl, Option.some.inj h⟩
theorem cr_setM (hc : X.calm = true) : CallR X (.type "set") (rSetM X.prog X.w X.K) := by
  intro pins s σ H vs us Q I r h
  obtain ⟨x, ks, rfl, hx, hb, q⟩ := h
  obtain ⟨u, rfl, rx⟩ := vals1 r
  have fin : ∀ (h' : Heap) (tk : Nat), SetM X.prog X.w h' s.heap.objs.size (ks.foldl addK []) → (∀ b o, s.heap.get? b = some o → h'.get? b = some o) → EP X pins σ Q (.ref s.heap.objs.size) { s with heap := h', toks := tk } := fun h' tk R k =>
    ⟨.ref s.heap.objs.size, upd H s.heap.objs.size (SetMO X.prog X.w s.heap.objs.size (ks.foldl addK [])), I.laid (t' := tk) k (Nat.le_refl _) (setMO_ok R), rfl, q _ (I.hok.fresh (Nat.le_refl _))⟩
  rcases hx with ⟨z, rfl, ez, hz⟩ | ⟨a, rfl, hs | hs⟩
  · obtain ⟨t, rfl⟩ := rx
    have zl : z.cps.size = ks.length := by
      have := congrArg List.length ez
      unfold signs at this
      rw [List.length_map, List.length_map, Array.length_toList] at this
      exact this.symm
    refine call_setM_str ks (I.ok.hd hc) zl (fun i v hv => ?_) hb fin
    obtain ⟨c, u, hcc, rfl⟩ := hv
    have e1 : (ks.map kV)[i]? = some (V.str ⟨#[c]⟩) := by
      rw [ez]
      unfold signs
      rw [List.getElem?_map, Array.getElem?_toList, hcc]
      rfl
    obtain ⟨k, ek, e2⟩ := get_kV e1
    exact ⟨k, ek, by rw [e2]; exact ⟨u, rfl⟩⟩
  · cases rx
    obtain ⟨its, rv, pl, _⟩ := I.list hs
    have ln := rv.length
    rw [List.length_map] at ln
    refine call_setM_list ks (I.ok.hd hc) pl.isList (by rw [List.size_toArray]; exact ln.symm) (fun i v hv => ?_) hb fin
    obtain ⟨y, ey, ry⟩ := Vals.get rv (show its[i]? = some v by simpa using hv)
    obtain ⟨k, ek, e2⟩ := get_kV ey
    exact ⟨k, ek, by rw [e2]; exact ry⟩
  · cases rx
    obtain ⟨its, rv, pl, _⟩ := I.tuple hs
    have ln := rv.length
    rw [List.length_map] at ln
    refine call_setM_tuple ks (I.ok.hd hc) pl (by rw [List.size_toArray]; exact ln.symm) (fun i v hv => ?_) hb fin
    obtain ⟨y, ey, ry⟩ := Vals.get rv (show its[i]? = some v by simpa using hv)
    obtain ⟨k, ek, e2⟩ := get_kV ey
    exact ⟨k, ek, by rw [e2]; exact ry⟩
/-- len(set) -/
def rLenM (P : Program) (w : World) : List V → Hp → VK → Prop := fun vs H Q => ∃ (a : Addr) (S : List Key), vs = [.ref a] ∧ H a = some (SetMO P w a S) ∧ Q (.int (S.length : Nat)) H
theorem cr_lenM : CallR X (.builtin "len") (rLenM X.prog X.w) := by
  intro pins s σ H vs us Q I r h
  obtain ⟨a, S, rfl, ha, q⟩ := h
  rw [Vals.ref1 r]
  obtain ⟨o, es, ep, t, ho, hex, hd, g, pm, nd, hb, hf, _⟩ := setMO_get I ha
  have ez : es.size = S.length := by rw [← pm.length_eq, List.length_map, Array.length_toList]
  have hb' : es.size < 4096 := hb
  refine call_len_set ho hex hd hf (by omega) ⟨.int (S.length : Nat), H, I.tok _, ⟨_, by rw [ez]⟩, q⟩
/-- sorted(set) -/
def kd : Key → PyData
  | .inl i => .int i
  | .inr z => .str z
def leKey : Key → Key → Bool := PySem.W.sortLe (PyProof.Rows.listOrd PyProof.Rows.itemOrd) false fun k => PySem.W.keyToks (kd k)
def rSrtM (P : Program) (w : World) : List V → Hp → VK → Prop := fun vs H Q => ∃ (a : Addr) (S : List Key), vs = [.ref a] ∧ H a = some (SetMO P w a S) ∧ PySem.W.AllAlike (S.map kd) ∧
  ∀ (ys : List Key) (p : Addr), ys.Perm S → ys.Pairwise (fun x y => leKey x y = true) → H p = none → Q (.ref p) (upd H p (.lst (ys.map kV)))
theorem reads_kd {h : Heap} {k : Key} {v : Value} (r : RelV (kV k) v) : ∃ as, Reads h v (kd k) as := by
  cases k with
  | inl i => obtain ⟨t, rfl⟩ := r; exact ⟨_, .int i t⟩
  | inr z => obtain ⟨t, rfl⟩ := r; exact ⟨_, .str z t⟩
theorem sortable_kd (S : List Key) : PySem.W.Sortable (S.map kd) := .inr fun d hd => by
  obtain ⟨k, _, rfl⟩ := List.mem_map.mp hd
  cases k <;> exact ⟨by unfold kd; simp, by unfold kd; simp⟩
theorem depth_kd (k : Key) : (kd k).depth ≤ 1 := by
  cases k <;> unfold kd <;> unfold PyData.depth <;> omega
/-- what a call of sorted does behind the collecting -/
theorem sorted_by {prog : Program} {w : World} {A : Around} {E : Value → Shared → Prop} {s : Shared} {u : Value} {Q : Value → Shared → Prop} (Pr : List Value → Prop)
    (col : ∀ (Q' : List Value → Shared → Prop) (E' : Value → Shared → Prop), (∀ (s1 : Shared) (vs : List Value), (∀ b o, s.heap.get? b = some o → s1.heap.get? b = some o) → s1.gens = s.gens → s1.os = s.os → Pr vs → Q' vs s1) → wpAny (model prog w) A.in1 (collect u) Q' E' s)
    (fin : ∀ (s1 : Shared) (vs : List Value), (∀ b o, s.heap.get? b = some o → s1.heap.get? b = some o) → s1.gens = s.gens → s1.os = s.os → Pr vs → vs.length ≤ sizeLine ∧ ∃ κ, PySem.W.SortsAt prog w A.in1.in1 { s1 with heap := PySem.W.sortingHeap (s1.heap.push (seqObj "list" vs.toArray 0)) s1.heap.objs.size vs } κ vs ∧
      Q (.ref s1.heap.objs.size) { s1 with heap := sortedHeap (s1.heap.push (seqObj "list" vs.toArray 0)) s1.heap.objs.size vs (PySem.W.sortVals κ false vs vs).toArray }) :
    wpAny (model prog w) A (call (.builtin "sorted") [u]) Q E s := by
  refine Calls.call_function_entry kind_sorted plain_sorted entry_sorted (args_sorted1 _) ?_
  unfold Builtin.«sorted»
  refine wpAny_bind (m := checkCount "sorted" 1 1 _) (wpAny_pure ?_)
  refine wpAny_bind (col _ _ fun s1 vs k1 g1 o1 pr => ?_)
  obtain ⟨hL, κ, S, q⟩ := fin s1 vs k1 g1 o1 pr
  refine wpAny_bind (wpAny_newList ?_ hL)
  have hoL : (s1.heap.push (seqObj "list" vs.toArray 0)).get? s1.heap.objs.size = some (seqObj "list" vs.toArray 0) := Heap.get?_push_size _ rfl
  refine wpAny_bind (wpAny_holding (wpAny_call_entry slot_list_sort ⟨_, hoL, rfl⟩ entry_list_sort
    (PySem.W.list_sort_vals (s := { s1 with heap := s1.heap.push (seqObj "list" vs.toArray 0) }) hoL S hL ⟨_, rfl, ?_⟩) (args_list_sort _)))
  exact wpAny_pure ⟨_, rfl, q⟩
theorem sorted_inv {s s1 : Shared} {zs : List Key} {vs : List Value} {Q : VK} (I : Inv X pins σ H s) (k1 : ∀ b o, s.heap.get? b = some o → s1.heap.get? b = some o) (g1 : s1.gens = s.gens) (o1 : s1.os = s.os)
    (hu : X.A.units + 64 < cLine) (rv : Vals (zs.map kV) vs) (hl : vs.length ≤ sizeLine) (al : PySem.W.AllAlike (zs.map kd))
    (q : ∀ (ys : List Key) (p : Addr), ys.Perm zs → ys.Pairwise (fun x y => leKey x y = true) → H p = none → Q (.ref p) (upd H p (.lst (ys.map kV)))) :
    vs.length ≤ sizeLine ∧ ∃ κ, PySem.W.SortsAt X.prog X.w X.A.in1.in1 { s1 with heap := PySem.W.sortingHeap (s1.heap.push (seqObj "list" vs.toArray 0)) s1.heap.objs.size vs } κ vs ∧
      EP X pins σ Q (.ref s1.heap.objs.size) { s1 with heap := sortedHeap (s1.heap.push (seqObj "list" vs.toArray 0)) s1.heap.objs.size vs (PySem.W.sortVals κ false vs vs).toArray } := by
  refine ⟨hl, ?_⟩
  have each : ∀ {zs : List Key} {vs : List Value}, Vals (zs.map kV) vs → PySem.W.EachIs (fun v k => RelV (kV k) v) vs zs := by
    intro zs
    induction zs with
    | nil => intro vs r; cases r; exact .nil
    | cons z zs ih => intro vs r; cases r with | cons a b => exact .cons a (ih b)
  have back : ∀ {zs : List Key} {vs : List Value}, PySem.W.EachIs (fun v k => RelV (kV k) v) vs zs → Vals (zs.map kV) vs := by
    intro zs
    induction zs with
    | nil => intro vs r; cases r; exact .nil
    | cons z zs ih => intro vs r; cases r with | cons a b => exact .cons a (ih b)
  have toMap : ∀ {R : Value → PyData → Prop} {zs : List Key} {vs : List Value}, PySem.W.EachIs (fun v k => R v (kd k)) vs zs → PySem.W.EachIs R vs (zs.map kd) := by
    intro R zs
    induction zs with
    | nil => intro vs r; cases r; exact .nil
    | cons z zs ih => intro vs r; cases r with | cons a b => exact .cons a (ih b)
  obtain ⟨hp, ehp⟩ : ∃ hp, hp = PySem.W.sortingHeap (s1.heap.push (seqObj "list" vs.toArray 0)) s1.heap.objs.size vs := ⟨_, rfl⟩
  rw [← ehp]
  have e1 : PySem.W.EachIs (fun v d => ∃ as, Reads hp v d as) vs (zs.map kd) := toMap ((each rv).mono fun v k r => reads_kd r)
  refine ⟨PySem.W.dataKind hp (zs.map kd), PySem.W.SortsAt.data e1 al (sortable_kd zs) fun d hd => ?_, ?_⟩
  · obtain ⟨k, _, rfl⟩ := List.mem_map.mp hd
    have := depth_kd k
    show X.A.units + 2 + (kd k).depth < cLine
    omega
  have ek : PySem.W.EachIs (fun v k => (PySem.W.dataKind hp (zs.map kd)).keyOf v = some (PySem.W.keyToks (kd k))) vs zs := PySem.W.each_of_map kd (PySem.W.each_keys al e1)
  have eo := PySem.W.sortVals_each (κ := PySem.W.dataKind hp (zs.map kd)) (rev := false) (fun k => PySem.W.keyToks (kd k)) (each rv) ek
  have ev := back eo
  obtain ⟨ys, ey⟩ : ∃ ys, ys = zs.mergeSort leKey := ⟨_, rfl⟩
  have ev' : Vals (ys.map kV) (PySem.W.sortVals (PySem.W.dataKind hp (zs.map kd)) false vs vs) := by rw [ey]; exact ev
  have hoL : (s1.heap.push (seqObj "list" vs.toArray 0)).get? s1.heap.objs.size = some (seqObj "list" vs.toArray 0) := Heap.get?_push_size _ rfl
  obtain ⟨c, hc⟩ := sortedHeap_at (vs := vs) (out := (PySem.W.sortVals (PySem.W.dataKind hp (zs.map kd)) false vs vs).toArray) hoL
  have hlen : (ys.map kV).length ≤ sizeLine := by rw [ev'.length, PySem.W.sortVals_length false rfl]; exact hl
  have hpn : s.heap.get? s1.heap.objs.size = none := by
    cases e : s.heap.get? s1.heap.objs.size with
    | none => rfl
    | some o => exact absurd (Heap.lt_size (k1 _ _ e)) (Nat.lt_irrefl _)
  have hn : H s1.heap.objs.size = none := I.hok.gone hpn
  have kk : ∀ b o, s.heap.get? b = some o → (sortedHeap (s1.heap.push (seqObj "list" vs.toArray 0)) s1.heap.objs.size vs (PySem.W.sortVals (PySem.W.dataKind hp (zs.map kd)) false vs vs).toArray).get? b = some o := fun b o e => by
    have e2 := k1 b o e
    have lt := Heap.lt_size e2
    rw [sortedHeap_old (Nat.ne_of_lt lt) (by rw [size_push']; exact Nat.lt_succ_of_lt lt)]
    exact Heap.get?_push_of_some _ e2
  have J : Inv X pins σ (upd H s1.heap.objs.size (.lst (ys.map kV))) { s with heap := sortedHeap (s1.heap.push (seqObj "list" vs.toArray 0)) s1.heap.objs.size vs (PySem.W.sortVals (PySem.W.dataKind hp (zs.map kd)) false vs vs).toArray, gens := s1.gens, drawn := s1.drawn, toks := s1.toks } :=
    I.call (ch := []) (Un.laidN kk hpn hn) (I.hok.laidN kk hn ⟨hlen, _, c, by simpa using ev', hc⟩) (by rw [g1]; exact I.bare) (fun _ z => nomatch z)
  have es : ({ s1 with heap := sortedHeap (s1.heap.push (seqObj "list" vs.toArray 0)) s1.heap.objs.size vs (PySem.W.sortVals (PySem.W.dataKind hp (zs.map kd)) false vs vs).toArray } : Shared) = { s with heap := sortedHeap (s1.heap.push (seqObj "list" vs.toArray 0)) s1.heap.objs.size vs (PySem.W.sortVals (PySem.W.dataKind hp (zs.map kd)) false vs vs).toArray, gens := s1.gens, drawn := s1.drawn, toks := s1.toks } := by
    cases s1
    cases s
    cases o1
    rfl
  rw [es]
  refine ⟨.ref _, _, J, rfl, q ys _ (by rw [ey]; exact List.mergeSort_perm zs leKey) ?_ hn⟩
  rw [ey]
  exact PySem.W.sort_pairwise (PySem.W.sortLe_total _ _ _) zs
theorem alike_perm {ds es : List PyData} (h : PySem.W.AllAlike ds) (p : es.Perm ds) : PySem.W.AllAlike es := fun d hd d' hd' => h d (p.mem_iff.mp hd) d' (p.mem_iff.mp hd')
theorem cr_srtM (hc : X.calm = true) (hu : X.A.units + 64 < cLine) : CallR X (.builtin "sorted") (rSrtM X.prog X.w) := by
  intro pins s σ H vs us Q I r h
  obtain ⟨a, S, rfl, ha, al, q⟩ := h
  rw [Vals.ref1 r]
  obtain ⟨o, es, ep, t, ho, hex, hd, g, pm, nd, hb, hf, hr, hl⟩ := setMO_get I ha
  refine sorted_by (fun vs => vs.Perm (es.toList.map (·.2))) (fun Q' E' hq => L2.collect_set (A := X.A.in1) (I.ok.hd hc) ⟨o, ho, hex.1, hd⟩ hf hb hr hl fun s1 out k1 z1 g1 o1 pr => hq s1 out k1 g1 o1 pr) fun s1 vs k1 g1 o1 pr => ?_
  have gv : ∀ v ∈ vs, RelV (kV (gk (0, v))) v := fun v hv => by
    obtain ⟨e, he, rfl⟩ := List.mem_map.mp (pr.mem_iff.mp hv)
    exact (g e he).1
  have rv : ∀ l : List Value, (∀ v ∈ l, RelV (kV (gk (0, v))) v) → Vals ((l.map fun v => gk (0, v)).map kV) l := fun l => by
    induction l with
    | nil => intro _; exact .nil
    | cons v l ih => intro h; exact .cons (h v (List.mem_cons_self ..)) (ih fun u hu => h u (List.mem_cons_of_mem _ hu))
  have pz : (vs.map fun v => gk (0, v)).Perm S := by
    refine (pr.map fun v => gk (0, v)).trans ?_
    rw [List.map_map]
    exact pm
  have hb' : es.size < 4096 := hb
  refine sorted_inv I k1 g1 o1 hu (rv vs gv) ?_ (alike_perm al (pz.map kd)) fun ys p p1 p2 np => q ys p (p1.trans pz) p2 np
  rw [pr.length_eq, List.length_map, Array.length_toList, sizeLine_val]
  omega
/-- sorted(text) -/
def rSrtS : List V → Hp → VK → Prop := fun vs H Q => ∃ z : Str, vs = [.str z] ∧ z.cps.size ≤ sizeLine ∧
  ∀ (ys : List Key) (p : Addr), ys.Perm (z.cps.toList.map fun c => Sum.inr ⟨#[c]⟩) → ys.Pairwise (fun x y => leKey x y = true) → H p = none → Q (.ref p) (upd H p (.lst (ys.map kV)))
theorem cr_srtS (hc : X.calm = true) (hu : X.A.units + 64 < cLine) : CallR X (.builtin "sorted") rSrtS := by
  intro pins s σ H vs us Q I r h
  obtain ⟨z, rfl, hz, q⟩ := h
  obtain ⟨u, rfl, t, rfl⟩ := vals1 r
  refine sorted_by (fun vs => Vals (signs z) vs) (fun Q' E' hq => wpAny_collect_str (A := X.A.in1) (I.ok.hd hc) z t (fun s1 acc k1 g1 d1 o1 hi => ?_) hz) fun s1 vs k1 g1 o1 pr => ?_
  · exact hq s1 acc.toList k1 g1 o1 (signs_vals hi)
  · have e : signs z = (z.cps.toList.map fun c => (Sum.inr ⟨#[c]⟩ : Key)).map kV := by
      unfold signs
      rw [List.map_map]
      rfl
    rw [e] at pr
    have ln := pr.length
    rw [List.length_map, List.length_map, Array.length_toList] at ln
    refine sorted_inv I k1 g1 o1 hu pr (by rw [← ln]; exact hz) (fun d hd d' hd' => ?_) q
    obtain ⟨k, hk, rfl⟩ := List.mem_map.mp hd
    obtain ⟨k', hk', rfl⟩ := List.mem_map.mp hd'
    obtain ⟨c, _, rfl⟩ := List.mem_map.mp hk
    obtain ⟨c', _, rfl⟩ := List.mem_map.mp hk'
    rfl
end
end Mi
end S_Mi29
section S_Mi30
set_option Elab.async false
set_option linter.all false
set_option maxRecDepth 100000
set_option maxHeartbeats 4000000
/-! len(set(..)), sorted(set(..)), sorted of a text -/
namespace Mi
open PySem PySem.Spec PyProof.Rows L2
theorem keyP_of {k : PV} {key : Key} (h : keyOf k = some key) : keyP key = k := by
  cases k with
  | int i => cases h; rfl
  | str z => cases h; rfl
  | _ => cases h
theorem keysP_of : ∀ {xs : List PV} {ks : List Key}, xs.map keyOf = ks.map some → xs = ks.map keyP
  | [], [], _ => rfl
  | [], _ :: _, h => by cases h
  | _ :: _, [], h => by cases h
  | x :: xs, k :: ks, h => by
    obtain ⟨h1, h2⟩ := List.cons.inj h
    rw [List.map_cons, keyP_of h1, keysP_of h2]
theorem keyP_inj {a b : Key} (h : keyP a = keyP b) : a = b := by
  cases a with
  | inl i => cases b with
    | inl j => cases h; rfl
    | inr y => cases h
  | inr x => cases b with
    | inl j => cases h
    | inr y =>
      have e : x.cps.toList = y.cps.toList := PV.str.inj h
      have e2 : x.cps = y.cps := by
        have := congrArg List.toArray e
        simpa using this
      cases x
      cases y
      cases e2
      rfl
def isStrP : PV → Bool
  | .str _ => true
  | _ => false
def isIntP : PV → Bool
  | .int _ => true
  | _ => false
/-- one more value of a set -/
def addU (S : List PV) (x : PV) : List PV := if S.any (fun y => keq y x) = true then S else S ++ [x]
/-- the values of a row, each once -/
def uniq (xs : List PV) : List PV := xs.foldl addU []
theorem keq_keyP (a b : Key) : keq (keyP a) (keyP b) = decide (a = b) := by
  have h : keyOf (keyP b) = some b := by
    cases b with
    | inl i => rfl
    | inr y => unfold keyP keyOf strOf; simp
  exact keq_key h
theorem addU_key (S : List Key) (k : Key) : addU (S.map keyP) (keyP k) = (addK S k).map keyP := by
  have e : (S.map keyP).any (fun y => keq y (keyP k)) = memK S k := by
    unfold memK
    rw [List.any_map]
    congr 1
    funext j
    exact keq_keyP j k
  unfold addU addK
  rw [e]
  split
  · rfl
  · rw [List.map_append]; rfl
theorem fold_key : ∀ (ks S : List Key), (ks.map keyP).foldl addU (S.map keyP) = (ks.foldl addK S).map keyP
  | [], _ => rfl
  | k :: ks, S => by
    rw [List.map_cons, List.foldl_cons, List.foldl_cons, addU_key, fold_key ks]
theorem uniq_key (ks : List Key) : uniq (ks.map keyP) = (ks.foldl addK []).map keyP := fold_key ks []
def lenSetP : List PV → Option PV
  | [x] => match itemsP x with
    | some xs => if xs.all (fun k => (keyOf k).isSome) = true ∧ xs.length + 1 < scanBound then some (.int (uniq xs).length) else none
    | none => none
  | _ => none
def sortSetP : List PV → Option PV
  | [x] => match itemsP x with
    | some xs => if (xs.all isStrP = true ∨ xs.all isIntP = true) ∧ xs.length + 1 < scanBound then some (.lst (srt (uniq xs))) else none
    | none => none
  | _ => none
def sortStrP : List PV → Option PV
  | [.str z] => some (.lst (srt (z.map ch)))
  | _ => none
theorem pd_kd (k : Key) : pd (keyP k) = kd k := by
  cases k with
  | inl i => unfold keyP pd kd; rfl
  | inr y => unfold keyP pd kd strOf; simp
theorem leB_kd (a b : Key) : leB (keyP a) (keyP b) = leKey a b := by
  unfold leKey
  rw [leB_eq]
  unfold PySem.W.sortLe
  dsimp only
  rw [pd_kd, pd_kd]
theorem kd_inj {a b : Key} (h : kd a = kd b) : a = b := by
  cases a <;> cases b <;> unfold kd at h <;> cases h <;> rfl
theorem pairwise_keyP : ∀ {ys : List Key}, ys.Pairwise (fun x y => leKey x y = true) → (ys.map keyP).Pairwise (fun a b => leB a b = true)
  | [], _ => .nil
  | y :: ys, h => by
    obtain ⟨h1, h2⟩ := List.pairwise_cons.mp h
    refine List.pairwise_cons.mpr ⟨fun z hz => ?_, pairwise_keyP h2⟩
    obtain ⟨k, hk, rfl⟩ := List.mem_map.mp hz
    rw [leB_kd]
    exact h1 k hk
theorem alike_uniq {a b : Key} (al : PySem.W.alike (kd a) (kd b) = true) (h1 : leB (keyP a) (keyP b) = true) (h2 : leB (keyP b) (keyP a) = true) : a = b := by
  unfold leB ltB at h1 h2
  rw [pd_kd, pd_kd] at h1 h2
  cases a with
  | inl i => cases b with
    | inl j =>
      have e1 : PySem.W.dataLt (.int j) (.int i) = false := by simpa [kd] using h1
      have e2 : PySem.W.dataLt (.int i) (.int j) = false := by simpa [kd] using h2
      rw [PySem.W.dataLt_int] at e1 e2
      have : i = j := by
        have a1 := of_decide_eq_false e1
        have a2 := of_decide_eq_false e2
        omega
      rw [this]
    | inr y => cases al
  | inr x => cases b with
    | inl j => cases al
    | inr y =>
      have e1 : PySem.W.dataLt (.str y) (.str x) = false := by simpa [kd] using h1
      have e2 : PySem.W.dataLt (.str x) (.str y) = false := by simpa [kd] using h2
      rw [PySem.W.dataLt_str] at e1 e2
      have a1 := of_decide_eq_false e1
      have a2 := of_decide_eq_false e2
      rw [PySem.W.str_of_cps (List.le_antisymm (a1 : x.cps.toList ≤ y.cps.toList) a2)]
theorem srt_of {zs : List PV} {S ys : List Key} (hz : zs = S.map keyP) (hp : ys.Perm S) (hs : ys.Pairwise (fun x y => leKey x y = true)) (al : PySem.W.AllAlike (S.map kd)) : srt zs = ys.map keyP := by
  refine List.Perm.eq_of_pairwise (le := fun a b => leB a b = true) ?_ (srt_sorted zs) (pairwise_keyP hs) ((srt_perm zs).trans (hz ▸ (hp.map keyP).symm))
  intro a b ha hb h1 h2
  have ha' := (srt_perm zs).mem_iff.mp ha
  rw [hz] at ha'
  obtain ⟨k, hk, rfl⟩ := List.mem_map.mp ha'
  obtain ⟨j, hj, rfl⟩ := List.mem_map.mp hb
  rw [alike_uniq (al _ (List.mem_map_of_mem hk) _ (List.mem_map_of_mem (hp.mem_iff.mp hj))) h1 h2]
theorem rels_all {D : Stat} {fr : Fr} {H : Hp} : ∀ {ys : List Key}, (∀ k ∈ ys, Rel D fr H (keyP k) (kV k)) → Rels D fr H (ys.map keyP) (ys.map kV)
  | [], _ => .nil
  | y :: ys, h => .cons (h y (List.mem_cons_self ..)) (rels_all fun k hk => h k (List.mem_cons_of_mem _ hk))
theorem all_rels {D : Stat} {fr : Fr} {H : Hp} : ∀ {ys : List Key}, Rels D fr H (ys.map keyP) (ys.map kV) → ∀ k ∈ ys, Rel D fr H (keyP k) (kV k)
  | [], _, _, h => nomatch h
  | y :: ys, .cons r t, k, h => by
    rcases List.mem_cons.mp h with rfl | h
    · exact r
    · exact all_rels t k h
theorem fold_mem : ∀ (ks S : List Key) (k : Key), k ∈ ks.foldl addK S → k ∈ S ∨ k ∈ ks
  | [], S, k, h => .inl h
  | j :: ks, S, k, h => by
    rcases fold_mem ks _ k h with h | h
    · unfold addK at h
      split at h
      · exact .inl h
      · rcases List.mem_append.mp h with h | h
        · exact .inl h
        · exact .inr (by rw [List.mem_singleton.mp h]; exact List.mem_cons_self ..)
    · exact .inr (List.mem_cons_of_mem _ h)
theorem alike_keys {ks : List Key} (h : (ks.map keyP).all isStrP = true ∨ (ks.map keyP).all isIntP = true) : ∀ a ∈ ks, ∀ b ∈ ks, PySem.W.alike (kd a) (kd b) = true := by
  intro a ha b hb
  rcases h with h | h
  · have h1 := List.all_eq_true.mp h _ (List.mem_map_of_mem ha)
    have h2 := List.all_eq_true.mp h _ (List.mem_map_of_mem hb)
    cases a with
    | inl i => cases h1
    | inr x => cases b with
      | inl j => cases h2
      | inr y => rfl
  · have h1 := List.all_eq_true.mp h _ (List.mem_map_of_mem ha)
    have h2 := List.all_eq_true.mp h _ (List.mem_map_of_mem hb)
    cases a with
    | inr i => cases h1
    | inl x => cases b with
      | inr j => cases h2
      | inl y => rfl
theorem all_isKey {xs : List PV} (h : xs.all isStrP = true ∨ xs.all isIntP = true) : xs.all (fun k => (keyOf k).isSome) = true := by
  rw [List.all_eq_true]
  intro x hx
  rcases h with h | h
  · have h1 := List.all_eq_true.mp h _ hx
    cases x <;> first | rfl | cases h1
  · have h1 := List.all_eq_true.mp h _ hx
    cases x <;> first | rfl | cases h1
section
variable {X : Cx} {D : Stat} {lvl : Nat} {W : WX} {fr fr1 fr' : Fr} {H H1 H' : Hp} {fs s : Fs} {σ σ' : L2.St} {g : M (List Loc)}
theorem one_arg {e1 e : Expr} {es : List Expr} {t : TE} {pos : Pos} (ha : PE X e t) (hs : starEach [e] X.env = (false, eval e X.env) :: starEach [] X.env := by rfl) : PA X [e] (tCons t tNil) := pa_cons ha pa_nil hs
theorem boot_set' : bootBuiltins "set" = some (.type "set") := by decide +kernel
def rLS (X : Cx) : List V → Hp → VK → Prop := fun vs H Q => rSetM X.prog X.w X.K vs H fun v H1 => rLenM X.prog X.w [v] H1 Q
def rSS (X : Cx) : List V → Hp → VK → Prop := fun vs H Q => rSetM X.prog X.w X.K vs H fun v H1 => rSrtM X.prog X.w [v] H1 Q
theorem se_lenSet {e : Expr} {p p2 pos q : Pos} (hc : X.calm = true) (hg : Gl X "len") (hm : X.mg "len" = none) (hgs : Gl X "set") (hms : X.mg "set" = none) (ha : PA X [e] (tOs D lvl W g))
    (hs1 : starEach [.Call (.Name "set" p2) [e] [] q] X.env = (false, eval (.Call (.Name "set" p2) [e] [] q) X.env) :: starEach [] X.env := by rfl)
    (hs : starEach [e] X.env = (false, eval e X.env) :: starEach [] X.env := by rfl) (hpl : (backTo q (starEach [] X.env)).any (·.1) = false := by rfl) (hpl1 : (backTo pos (starEach [] X.env)).any (·.1) = false := by rfl) :
    PE X (.Call (.Name "len" p) [.Call (.Name "set" p2) [e] [] q] [] pos) (tE D lvl W (fB g lenSetP)) := by
  refine PE.imp (pe_callB cr_lenM hg hm boot_len (pa_cons (pe_callTy (cr_setM hc) hgs hms boot_set' ha (by decide) (by decide) hs hpl) pa_nil hs1) (by decide) (by decide) hs1 hpl1) fun σ H Q h => fB_run (r := rLS X) (fun lvl fr fs σ H xs vs z Q I r hz k => ?_) h
  unfold lenSetP at hz
  split at hz
  · split at hz
    · rename_i xs hx
      split at hz
      · rename_i hk
        cases hz
        obtain ⟨v, rfl, n⟩ := r.one
        obtain ⟨vs, i1, r1, l1⟩ := n.items (K := X.K) hx
        obtain ⟨ks, e1, e2⟩ := rels_keys r1 hk.1
        subst e1
        have e3 := keysP_of e2
        subst e3
        refine ⟨v, ks, rfl, i1, by simpa using hk.2, fun p np => ⟨p, ks.foldl addK [], rfl, upd_same, ?_⟩⟩
        rw [uniq_key, List.length_map] at k
        exact k _ _ _ (I.new np) (ev_new np) (.int _)
      · cases hz
    · cases hz
  · cases hz
theorem sf_sortSet {e : Expr} {p p2 pos q : Pos} (hc : X.calm = true) (hu : X.A.units + 64 < cLine) (hg : Gl X "sorted") (hm : X.mg "sorted" = none) (hgs : Gl X "set") (hms : X.mg "set" = none) (ha : PA X [e] (tOs D lvl W g))
    (hs1 : starEach [.Call (.Name "set" p2) [e] [] q] X.env = (false, eval (.Call (.Name "set" p2) [e] [] q) X.env) :: starEach [] X.env := by rfl)
    (hs : starEach [e] X.env = (false, eval e X.env) :: starEach [] X.env := by rfl) (hpl : (backTo q (starEach [] X.env)).any (·.1) = false := by rfl) (hpl1 : (backTo pos (starEach [] X.env)).any (·.1) = false := by rfl) :
    PE X (.Call (.Name "sorted" p) [.Call (.Name "set" p2) [e] [] q] [] pos) (tF D lvl W (fB g sortSetP)) := by
  refine PE.imp (pe_callB (cr_srtM hc hu) hg hm boot_sorted' (pa_cons (pe_callTy (cr_setM hc) hgs hms boot_set' ha (by decide) (by decide) hs hpl) pa_nil hs1) (by decide) (by decide) hs1 hpl1) fun σ H Q h => fBF_run (r := rSS X) (fun lvl fr fs σ H xs vs z Q I r hz k => ?_) h
  unfold sortSetP at hz
  split at hz
  · split at hz
    · rename_i xs hx
      split at hz
      · rename_i hk
        cases hz
        obtain ⟨v, rfl, n⟩ := r.one
        obtain ⟨vs, i1, r1, l1⟩ := n.items (K := X.K) hx
        obtain ⟨ks, e1, e2⟩ := rels_keys r1 (all_isKey hk.1)
        subst e1
        have e3 := keysP_of e2
        subst e3
        have alk := alike_keys hk.1
        have al : PySem.W.AllAlike ((ks.foldl addK []).map kd) := fun d hd d' hd' => by
          obtain ⟨a, ha, rfl⟩ := List.mem_map.mp hd
          obtain ⟨b, hb, rfl⟩ := List.mem_map.mp hd'
          exact alk a ((fold_mem ks [] a ha).resolve_left (fun h => nomatch h)) b ((fold_mem ks [] b hb).resolve_left (fun h => nomatch h))
        refine ⟨v, ks, rfl, i1, by simpa using hk.2, fun p np => ⟨p, ks.foldl addK [], rfl, upd_same, al, fun ys q py sy nq => ?_⟩⟩
        rw [uniq_key, srt_of rfl py sy al] at k
        have I1 := I.new (o := SetMO X.prog X.w p (ks.foldl addK [])) np
        have rl := all_rels r1
        have len := foldK_len ks []
        rw [List.length_map] at l1
        rw [List.length_nil] at len
        have r2 : Rels D fr (upd H p (SetMO X.prog X.w p (ks.foldl addK []))) (ys.map keyP) (ys.map kV) := rels_all fun k hk => (rl k ((fold_mem ks [] k (py.mem_iff.mp hk)).resolve_left (fun h => nomatch h))).ev (ev_new (lvl := lvl) np)
        refine KF'.new I1 (KF'.base k (ev_new np)) (.lst ?_ r2) q nq
        rw [List.length_map, py.length_eq]
        omega
      · cases hz
    · cases hz
  · cases hz
theorem cf_sortStr (hc : X.calm = true) (hu : X.A.units + 64 < cLine) : CallF X D (.builtin "sorted") sortStrP := by
  refine ⟨_, cr_srtS hc hu, fun lvl fr fs σ H xs vs z Q I r hz k => ?_⟩
  unfold sortStrP at hz
  split at hz
  · rename_i z
    cases hz
    obtain ⟨v, rfl, n⟩ := r.one
    obtain ⟨rfl, ok⟩ := n.str
    have hl := okS_len ok
    have e1 : (strOf z).cps.toList = z := by unfold strOf; simp
    have rr : Rels D fr H (z.map ch) (signs (strOf z)) := signs_rels ok
    have e2 : z.map ch = (z.map fun c => (Sum.inr ⟨#[c]⟩ : Key)).map keyP := by rw [List.map_map]; rfl
    have e3 : signs (strOf z) = (z.map fun c => (Sum.inr ⟨#[c]⟩ : Key)).map kV := by
      unfold signs
      rw [List.map_map, e1]
      rfl
    rw [e2, e3] at rr
    have rl := all_rels rr
    refine ⟨_, rfl, by simpa [strOf] using hl, fun ys p py sy np => ?_⟩
    rw [e1] at py
    have al : PySem.W.AllAlike ((z.map fun c => (Sum.inr ⟨#[c]⟩ : Key)).map kd) := fun d hd d' hd' => by
      obtain ⟨k, hk, rfl⟩ := List.mem_map.mp hd
      obtain ⟨k', hk', rfl⟩ := List.mem_map.mp hd'
      obtain ⟨c, _, rfl⟩ := List.mem_map.mp hk
      obtain ⟨c', _, rfl⟩ := List.mem_map.mp hk'
      rfl
    rw [srt_of e2 py sy al] at k
    refine KF'.new I k (.lst ?_ (rels_all fun k hk => rl k (py.mem_iff.mp hk))) p np
    rw [List.length_map, py.length_eq, List.length_map]
    exact hl
  · cases hz
/-- of a list of alike data, of a text -/
def sortedP' : List PV → Option PV
  | [.str z] => sortStrP [.str z]
  | vs => sortedP vs
theorem cf_sorted' (hc : X.calm = true) (hu : X.A.units + 64 < cLine) : CallF X D (.builtin "sorted") sortedP' := by
  obtain ⟨r, hr, a⟩ := (cf_sorted hu : CallF X D (.builtin "sorted") sortedP)
  obtain ⟨r', hr', b⟩ := (cf_sortStr hc hu : CallF X D (.builtin "sorted") sortStrP)
  refine ⟨_, CallR.or hr hr', fun lvl fr fs σ H xs vs z Q I n hz k => ?_⟩
  unfold sortedP' at hz
  split at hz
  · exact .inr (b lvl fr fs σ H _ vs z Q I n hz k)
  · exact .inl (a lvl fr fs σ H _ vs z Q I n hz k)
end
section
variable {Q : PV → Prop} {xs : List PV} {z : S} {a b : PV}
@[simp ↓] theorem sortedP_str : OpQ (sortedP' [.str z]) Q = Q (.lst (srt (z.map ch))) := rfl
theorem sortedP'_ok (h : sokB xs = true) : OpQ (sortedP' [.lst xs]) Q = Q (.lst (srt xs)) := sortedP_ok h
theorem lenSet_ok {x : PV} (e : itemsP x = some xs) (h : xs.all (fun k => (keyOf k).isSome) = true) (hl : xs.length < 4000) : OpQ (lenSetP [x]) Q = Q (.int (uniq xs).length) := by
  have e : lenSetP [x] = some (.int (uniq xs).length) := by
    unfold lenSetP
    dsimp only
    rw [e]
    exact if_pos ⟨h, by unfold scanBound; omega⟩
  rw [e]
  rfl
theorem sortSet_ok {x : PV} (e : itemsP x = some xs) (h : xs.all isStrP = true ∨ xs.all isIntP = true) (hl : xs.length < 4000) : OpQ (sortSetP [x]) Q = Q (.lst (srt (uniq xs))) := by
  have e : sortSetP [x] = some (.lst (srt (uniq xs))) := by
    unfold sortSetP
    dsimp only
    rw [e]
    exact if_pos ⟨h, by unfold scanBound; omega⟩
  rw [e]
  rfl
end
end Mi
end S_Mi30
section S_Mi31
set_option Elab.async false
set_option linter.all false
set_option maxRecDepth 100000
set_option maxHeartbeats 4000000
/-! x.replace(y[i], y[j]): signs of a text, taken anew -/
namespace Mi
open PySem PySem.Spec PyProof.Rows L2
/-- a written whole number -/
def IntX (X : Cx) (e : Expr) (k : Int) : Prop := ∀ (s : Shared) (Q E : Value → Shared → Prop), (∀ (u : Tok) (tk : Nat), s.toks < tk → Q (.int k u) { s with toks := tk }) → wpAny (model X.prog X.w) X.A (eval e X.env) Q E s
theorem ix_const {X : Cx} {k : Int} {j : Nat} {cp : Pos} : IntX X (.Constant (.int k) j cp) k := fun s Q E h => wpAny_Constant_int (h _ _ (Nat.lt_succ_self _))
theorem ix_negc {X : Cx} {k : Int} {j : Nat} {cp p : Pos} : IntX X (.UnaryOp .USub (.Constant (.int k) j cp) p) (-k) := fun s Q E h => wpAny_UnaryOp (wpAny_Constant_int (P.neg_int (h _ _ (Nat.lt_succ_of_lt (Nat.lt_succ_self _)))))
section
variable {X : Cx} {D : Stat} {lvl : Nat} {W : WX} {fr fr1 fr' : Fr} {H H1 H' : Hp} {fs : Fs} {s : Shared} {σ σ' : L2.St} {pins : List (Addr × Obj)}
theorem raw_sign {i : Nat} {x : Str} {z : S} {k : Int} {c : Nat} {e1 : Expr} {p1 pos : Pos} {Q E : Value → Shared → Prop} (hN : X.N[i]? = some x) (hv : Vis X.env.scope x) (I : Inv X pins σ H s)
    (hσ : σ[i]? = some (some (.str (strOf z)))) (hz : z.length ≤ sizeLine) (hi : IntX X e1 k) (hc : L2.atI z k = some c) (fin : ∀ (u : Tok) (tk : Nat), 0 < u → s.toks ≤ u → u < tk → Q (.str (strOf [c]) u) { s with toks := tk })
    (hs : ∀ o i, subscripted e1 false o i = operate [o, i] (getItem o i)) (hd : (x == ("__debug__" : Str)) = false) (hcd : (x == ("__classdict__" : Str)) = false) :
    wpAny (model X.prog X.w) X.A (eval (.Subscript (.Name x p1) e1 pos) X.env) Q E s := by
  refine Subscript_ (raw_name hN hv I hσ (fun v r => ?_) hd hcd)
  obtain ⟨t, rfl⟩ := r
  refine hi s _ _ fun u tk htk => ?_
  obtain ⟨j, h1, h2, h3, h4, h5⟩ := atI_get hc
  have hl : (strOf z).length = z.length := strOf_len z
  rw [sizeLine_val] at hz
  refine tail_any (typeIs_str _ (strOf z) t) slot_str_getitem.lookup (getItem_str (c := c) (by
    have e1 : decide (k < -(2 ^ 63 : Int)) = false := decide_eq_false (by omega)
    have e2 : decide (k ≥ 2 ^ 63) = false := decide_eq_false (by omega)
    rw [e1, e2, Bool.or_false]) (by rw [hl, h1]; simpa [strOf] using h2) ?_) (hs _ _)
  exact fin tk (tk + 1) (Nat.lt_of_le_of_lt (Nat.zero_le _) htk) (Nat.le_of_lt htk) (Nat.lt_succ_self _)
theorem replL_one {a b : Nat} : ∀ z : List Nat, StrLaws.replL [a] [b] z = z.map fun c => if c = a then b else c
  | [] => StrLaws.replL_nil
  | c :: z => by
    by_cases h : c = a
    · subst h
      rw [StrLaws.replL_hit (by simp) (by rfl)]
      show [b] ++ StrLaws.replL [c] [b] z = _
      rw [replL_one z, List.map_cons, if_pos rfl]
      rfl
    · rw [StrLaws.replL_miss (fun e => h (by simpa using e)), replL_one z, List.map_cons, if_neg h]
theorem replace_signs (z : S) (a b : Nat) : Txt.replace (strOf z) (strOf [a]) (strOf [b]) = strOf (z.map fun c => if c = a then b else c) := by
  have h := StrLaws.replace_list (x := strOf z) (y := strOf [a]) (z := strOf [b]) (by rw [strOf_len]; simp)
  have e : (strOf z).cps.toList = z := by unfold strOf; simp
  have ea : (strOf [a]).cps.toList = [a] := rfl
  have eb : (strOf [b]).cps.toList = [b] := rfl
  rw [e, ea, eb, replL_one] at h
  apply PySem.W.str_of_cps
  rw [h]
  unfold strOf
  simp
def nbIn (K : PySem.W.Frag) : Bool := match PySem.W.nsIn K cStatics sharingNotToldKey with
  | some none => true
  | _ => false
theorem nbIn_ok {K : PySem.W.Frag} (h : nbIn K = true) : PySem.W.nsIn K cStatics sharingNotToldKey = some none := by
  unfold nbIn at h
  split at h
  · rename_i e; exact e
  · cases h
/-- x.replace(y[k], y[m]), x and y names -/
def fRepl (ik ip : Nat) (k m : Int) : M PV := fun s => match rd s (.at ik), rd s (.at ip) with
  | some (.str z), some (.str y) => match L2.atI y k, L2.atI y m with
    | some a, some b => if z.length ≤ 1000000 then .ok (.str (z.map fun c => if c = a then b else c)) s else .no
    | _, _ => .no
  | _, _ => .no
theorem se_repl {ik ip : Nat} {kx px : Str} {e1 e2 : Expr} {k m : Int} {p1 p2 p3 q0 q1 apos pos : Pos} (hNk : X.N[ik]? = some kx) (hvk : Vis X.env.scope kx) (hNp : X.N[ip]? = some px) (hvp : Vis X.env.scope px) (hnb : PySem.W.nsIn X.K cStatics sharingNotToldKey = some none)
    (h1 : IntX X e1 k) (h2 : IntX X e2 m) (hs1 : ∀ o i, subscripted e1 false o i = operate [o, i] (getItem o i)) (hs2 : ∀ o i, subscripted e2 false o i = operate [o, i] (getItem o i))
    (hdk : (kx == ("__debug__" : Str)) = false := by decide) (hck : (kx == ("__classdict__" : Str)) = false := by decide) (hdp : (px == ("__debug__" : Str)) = false := by decide) (hcp : (px == ("__classdict__" : Str)) = false := by decide)
    (hst : starEach [.Subscript (.Name px p2) e1 q0, .Subscript (.Name px p3) e2 q1] X.env =
      [(false, eval (.Subscript (.Name px p2) e1 q0) X.env), (false, eval (.Subscript (.Name px p3) e2 q1) X.env)] := by rfl)
    (hbase : attributeBase (.Name kx p1) "replace" X.env (eval (.Name kx p1) X.env) = eval (.Name kx p1) X.env := by rfl) (hline : (apos.endLine == pos.line) = true := by rfl) :
    PE X (.Call (.Attribute (.Name kx p1) "replace" apos) [.Subscript (.Name px p2) e1 q0, .Subscript (.Name px p3) e2 q1] [] pos) (tE D lvl W (fRepl ik ip k m)) := by
  refine ⟨fun pins s σ H Q I h => ?_⟩
  obtain ⟨fr, fs, FI0, h⟩ := h
  unfold fRepl at h
  split at h
  · rename_i z y hz hy
    split at h
    · rename_i a b ha hb
      split at h
      · rename_i hlen
        have gk : σ[ik]? = some (some (.str (strOf z))) ∧ okS z = true := by
          unfold rd at hz
          dsimp only at hz
          split at hz
          · rename_i w q
            cases hz
            obtain ⟨v', e, q⟩ := FI0.sh q
            cases q with
            | str ok => exact ⟨e, ok⟩
            | con _ _ c => cases c
          · rename_i w q
            cases hz
            obtain ⟨a, o, e, _, _, c⟩ := FI0.own q
            cases c
          · cases hz
        have gp : σ[ip]? = some (some (.str (strOf y))) ∧ okS y = true := by
          unfold rd at hy
          dsimp only at hy
          split at hy
          · rename_i w q
            cases hy
            obtain ⟨v', e, q⟩ := FI0.sh q
            cases q with
            | str ok => exact ⟨e, ok⟩
            | con _ _ c => cases c
          · rename_i w q
            cases hy
            obtain ⟨a, o, e, _, _, c⟩ := FI0.own q
            cases c
          · cases hy
        obtain ⟨sk, okz⟩ := gk
        obtain ⟨sp, oky⟩ := gp
        refine PySem.Call_method2 hbase hst hline (raw_name hNk hvk I sk (fun v r => ?_) hdk hck)
        obtain ⟨tx, e⟩ := r
        subst e
        refine ⟨"str", _, F.plainAttrs_str, F.slot_str_replace, F.type_str_replace, typeIs_str _ _ _, (fun _ e => nomatch e), Calls.callWith_builtin rfl (Calls.evalArgs_plain (Calls.spliced_cons ?_))⟩
        refine raw_sign hNp hvp I sp (okS_len oky) h1 ha (fun u tk u0 u1 u2 => ?_) hs1 hdp hcp
        refine Calls.spliced_cons (raw_sign hNp hvp (I.tok tk) sp (okS_len oky) h2 hb (fun u' tk' v0 v1 v2 => ?_) hs2 hdp hcp)
        refine Calls.spliced_nil ?_
        have v1' : tk ≤ u' := v1
        have hnk : NoneBooked s.heap := by
          obtain ⟨mc, hm, _⟩ := I.nolimit
          exact ⟨mc, hm, PySem.W.ns_none_of I.kIn hm hnb⟩
        refine PySem.SC.replaceA (s := { s with toks := tk' }) (Nat.pos_iff_ne_zero.mp u0) (Nat.pos_iff_ne_zero.mp v0) (fun e => ?_) ?_ (fun t' k' => ?_) hnk
        · have e' : (u : Nat) = u' := e
          exact absurd v1' (by rw [← e']; exact Nat.not_le.mpr u2)
        · rw [strOf_len, strOf_len]
          simp
          omega
        · rw [replace_signs]
          refine ⟨.str (strOf (z.map fun c => if c = a then b else c)), H, I.tok k', ⟨t', rfl⟩, h fr H _ FI0 .refl (.str (okS_mk ?_ fun c hc => ?_))⟩
          · rw [List.length_map, sizeLine_val]; omega
          · obtain ⟨c0, hc0, rfl⟩ := List.mem_map.mp hc
            have ho := okS_lt okz
            have hy := okS_lt oky
            split
            · obtain ⟨j, _, q, _⟩ := atI_get hb
              exact hy _ (List.mem_of_getElem? q)
            · exact ho _ hc0
      · exact h.elim
    · exact h.elim
  · exact h.elim
end
/-! a head that looks at the table of statics, too -/
def frZ (n : Nat) (g : Addr → Option Obj) : PySem.W.Frag := He.frT g (He.asD g n ++ [cStatics])
def obsZ (n : Nat) (fa : List He.Fa) (fn : List He.DefD) (ex : PySem.W.Frag → Bool) (g : Addr → Option Obj) : He.AlX := (He.obsT fa fn [] (frZ n g), ex (frZ n g))
structure SaysZ (fa : List He.Fa) (fn : List He.DefD) (ex : PySem.W.Frag → Bool) (w : World) (K : PySem.W.Frag) : Prop where
  t : He.SaysT fa fn [] w K
  more : ex K = true
def hookZ (n : Nat) (fa : List He.Fa) (fn : List He.DefD) (ex : PySem.W.Frag → Bool) : PySem.W.Hook where
  α := He.AlX
  obs := fun s => obsZ n fa fn ex s.heap.get?
  val := fun w => (He.valT fn [] w, true)
  says := fun w h => ∃ K : PySem.W.Frag, K.In h ∧ SaysZ fa fn ex w K
  of := fun _ _ e => ⟨_, He.frT_in, congrArg (fun z : He.AlX => z.1) e, congrArg (fun z : He.AlX => z.2) e⟩
  keeps := fun _ _ _ ⟨K, hK, c⟩ k => ⟨K, PySem.W.Frag.In.keeps hK k, c⟩
theorem obsZ_eq {n : Nat} {fa : List He.Fa} {fn : List He.DefD} {ex : PySem.W.Frag → Bool} {g : Addr → Option Obj} {s : Shared} (h : ∀ a, g a = s.heap.get? a) : obsZ n fa fn ex g = (hookZ n fa fn ex).obs s := by
  have e : g = s.heap.get? := funext h
  rw [e] <;> rfl
section
variable {Q1 : PV → Fs → Prop} {E : PV → Fs → Prop} {s : Fs} {l : List Slot} {hp : List Ob}
theorem wp_fRepl {ik ip : Nat} {k m : Int} {z y : S} {a b : Nat} (h1 : rd s (.at ik) = some (.str z)) (h2 : rd s (.at ip) = some (.str y)) (h3 : L2.atI y k = some a) (h4 : L2.atI y m = some b) (h5 : z.length ≤ 1000000)
    (q : Q1 (.str (z.map fun c => if c = a then b else c)) s) : Wp (fRepl ik ip k m) Q1 E s := by
  refine ⟨?_⟩
  show WpR (fRepl ik ip k m s) Q1 E
  unfold fRepl
  rw [h1, h2]
  dsimp only
  rw [h3, h4]
  dsimp only
  rw [if_pos h5]
  exact q
end
end Mi
end S_Mi31
section S_Mi32
set_option Elab.async false
set_option linter.all false
set_option maxRecDepth 100000
set_option maxHeartbeats 4000000
/-! x, y = e, [] : names that own what is new -/
namespace Mi
open PySem PySem.Spec PyProof.Rows L2
/-- all that is tracked is kept -/
def EvT (fr : Fr) (H : Hp) (fr' : Fr) (H' : Hp) : Prop := ∀ a u, H a = some u → H' a = some u ∧ fr'.ow a = fr.ow a
/-- a constant or a new empty list -/
def tStill (D : Stat) (lvl : Nat) (vb : PV × Bool) : TE := fun σ H Q => ∃ fr fs, FI D lvl fr fs σ H ∧ ∀ fr' H' v', FI D lvl fr' fs σ H' → Ev lvl fr H fr' H' → EvT fr H fr' H' → RetR D fr' H' vb.1 vb.2 v' → (∀ p, v' = .ref p → H p = none) → Q v' H'
section
variable {X : Cx} {D : Stat} {lvl : Nat} {W : WX} {fr fr1 fr' : Fr} {H H1 H' : Hp} {fs s : Fs} {σ σ' : L2.St} {e a b c : Expr} {pos : Pos} {st : Stmt}
theorem st_of {v : V} {x : PV} (h : PE X e (tC v)) (r : ∀ (fr : Fr) (H : Hp), Rel D fr H x v) (n : ∀ p, v ≠ .ref p) : PE X e (tStill D lvl (x, false)) := by
  refine PE.imp h ?_
  rintro σ H Q ⟨fr, fs, I, h⟩
  exact h fr H v I .refl (fun _ _ e => ⟨e, rfl⟩) (r fr H) fun p e => absurd e (n p)
theorem st_int {k : Int} {j} : PE X (.Constant (.int k) j pos) (tStill D lvl (.int k, false)) := st_of pe_int (fun _ _ => .int k) fun _ e => nomatch e
theorem st_bl {k : Bool} {j} : PE X (.Constant (.bool k) j pos) (tStill D lvl (.bl k, false)) := st_of pe_bl (fun _ _ => .bl k) fun _ e => nomatch e
theorem st_non {j} : PE X (.Constant .none j pos) (tStill D lvl (.non, false)) := st_of pe_non (fun _ _ => .non) fun _ e => nomatch e
theorem st_str {x : Str} {z : S} {j} (h : x = strOf z) (ok : okS z = true) : PE X (.Constant (.str x) j pos) (tStill D lvl (.str z, false)) := by
  subst h
  exact st_of pe_str (fun _ _ => .str ok) fun _ e => nomatch e
theorem st_lst : PE X (.List [] pos) (tStill D lvl (.lst [], true)) := by
  refine PE.imp (pe_lst pa_nil) ?_
  rintro σ H Q ⟨fr, fs, I, h⟩
  refine ⟨Nat.zero_le _, fun p np => ?_⟩
  exact h _ _ (.ref p) (I.newTmp np) (ev_newOw np) (fun a u e => ⟨by rw [upd_ne (ne_of_none e np)]; exact e, reow_ne (ne_of_none e np)⟩) ⟨p, .lst [], rfl, reow_same, upd_same, .lst (Nat.zero_le _) .nil⟩ fun q e => by cases e; exact np
theorem RetR.keep {v : PV} {k : Bool} {w : V} (r : RetR D fr H v k w) (e : Ev lvl fr H fr' H') (t : EvT fr H fr' H') : RetR D fr' H' v k w := by
  cases k with
  | false => exact Rel.ev e r
  | true =>
    obtain ⟨p, o, rfl, q1, q2, q3⟩ := r
    obtain ⟨t1, t2⟩ := t p o q2
    exact ⟨p, o, rfl, t2.trans q1, t1, q3.ev e⟩
/-- a slot gets a value, its own where it is new -/
theorem FI.setR (I : FI D lvl fr fs σ H) {v : PV} {k : Bool} {w : V} (r : RetR D fr H v k w) (i : Nat) : ∃ fr', FI D lvl fr' { fs with sl := fs.sl.set i (slotOf (v, k)) } (σ.set i (some w)) H ∧ Ev lvl fr H fr' H ∧ ∀ a, fr.ow a = some .tmp → (k = true → w ≠ .ref a) → fr'.ow a = some .tmp := by
  cases k with
  | false => exact ⟨fr, I.setSh r i, .refl, fun a h _ => h⟩
  | true =>
    obtain ⟨p, o, rfl, q1, q2, q3⟩ := r
    refine ⟨_, I.setOw q1 q2 q3 i, ev_reow (nkp_tmp q1), fun a h n => ?_⟩
    rw [reow_ne fun z => n rfl (by rw [z])]
    exact h
theorem RetR.set {v : PV} {k m : Bool} {w x : V} (r : RetR D fr H v k w) (e : Ev lvl fr H fr' H) (t : ∀ a, fr.ow a = some .tmp → (m = true → x ≠ .ref a) → fr'.ow a = some .tmp) (n : m = true → w ≠ x) : RetR D fr' H v k w := by
  cases k with
  | false => exact Rel.ev e r
  | true =>
    obtain ⟨p, o, rfl, q1, q2, q3⟩ := r
    exact ⟨p, o, rfl, t p q1 fun hm z => n hm z.symm, q2, q3.ev e⟩
def gParR (f : M (PV × Bool)) (i j : Nat) (vb : PV × Bool) : M Fl := M.bind f fun va s => .ok .nx { s with sl := (s.sl.set i (slotOf va)).set j (slotOf vb) }
theorem ret_none {v : PV} {w : V} (r : RetR D fr H v true w) : ∀ p, w = .ref p → ∃ o, H p = some o := fun p e => by
  obtain ⟨q, o, rfl, _, q2, _⟩ := r
  cases e
  exact ⟨o, q2⟩
theorem ss_parR {i j : Nat} {f : M (PV × Bool)} {vb : PV × Bool} (h : ∀ ta, PA X [a, b] ta → PS X st (tPar i j ta)) (ha : PE X a (tR D lvl W f)) (hb : PE X b (tStill D lvl vb))
    (hs1 : starEach [a, b] X.env = (false, eval a X.env) :: starEach [b] X.env := by rfl) (hs2 : starEach [b] X.env = (false, eval b X.env) :: starEach [] X.env := by rfl) : PS X st (tS D lvl W (gParR f i j vb)) := by
  refine PS.imp (h _ (pa_cons ha (pa_cons hb pa_nil hs2) hs1)) ?_
  rintro Dn σ H ⟨fr, fs, I, h⟩
  refine nextSR I h fun x s fr1 H1 v I1 e1 r1 h1 => ⟨fr1, s, I1, fun fr2 H2 w I2 e2 t2 r2 new => ⟨v, w, rfl, ?_⟩⟩
  obtain ⟨x, k⟩ := x
  have r1' := RetR.keep r1 e2 t2
  obtain ⟨fr3, I3, e3, t3⟩ := FI.setR I2 r1' i
  have r3 := RetR.set (x := v) (m := k) r2 e3 t3 fun hk z => by
    subst hk
    obtain ⟨p, o, rfl, _, q2, _⟩ := r1
    have := new p z
    rw [q2] at this
    cases this
  obtain ⟨fr4, I4, e4, _⟩ := FI.setR I3 r3 j
  exact h1 fr4 _ H2 I4 (e2.trans (e3.trans e4))
/-- x, y = e, g(..) -/
def gParL (f : M PV) (g : M (PV × Bool)) (i j : Nat) : M Fl := M.bind f fun v => M.bind g fun vb s => .ok .nx { s with sl := (s.sl.set i (.sh v)).set j (slotOf vb) }
theorem nextSE2 {f : M PV} {g : PV → M Fl} {Dn : Ends} {Q : VK} (I : FI D lvl fr fs σ H) (h : ResS D lvl W fr H ((M.bind f g) fs) Dn)
    (nx : ∀ x s fr1 H1 v, FI D lvl fr1 s σ H1 → Ev lvl fr H fr1 H1 → Rel D fr1 H1 x v → ResS D lvl W fr1 H1 (g x s) Dn → Q v H1) : tE D lvl W f σ H Q :=
  ⟨fr, fs, I, (ResS.bind h).mono fun x s k fr1 H1 v I1 e r => nx x s fr1 H1 v I1 e r (k.base e)⟩
theorem ss_parL {i j : Nat} {f : M PV} {g : M (PV × Bool)} (h : ∀ ta, PA X [a, b] ta → PS X st (tPar i j ta)) (ha : PE X a (tE D lvl W f)) (hb : PE X b (tR D lvl W g))
    (hs1 : starEach [a, b] X.env = (false, eval a X.env) :: starEach [b] X.env := by rfl) (hs2 : starEach [b] X.env = (false, eval b X.env) :: starEach [] X.env := by rfl) : PS X st (tS D lvl W (gParL f g i j)) := by
  refine PS.imp (h _ (pa_cons ha (pa_cons hb pa_nil hs2) hs1)) ?_
  rintro Dn σ H ⟨fr, fs, I, h⟩
  refine nextSE2 I h fun x s fr1 H1 v I1 e1 r1 h1 => nextSR I1 h1 fun y s2 fr2 H2 w I2 e2 r2 h2 => ⟨v, w, rfl, ?_⟩
  obtain ⟨y, k⟩ := y
  have I3 := I2.setSh (Rel.ev e2 r1) i
  obtain ⟨fr4, I4, e4, _⟩ := FI.setR I3 r2 j
  exact h2 fr4 _ H2 I4 e4
def gParR3 (f : M (PV × Bool)) (i j l : Nat) (vb vc : PV × Bool) : M Fl := M.bind f fun va s => .ok .nx { s with sl := ((s.sl.set i (slotOf va)).set j (slotOf vb)).set l (slotOf vc) }
theorem ss_parR3 {i j l : Nat} {f : M (PV × Bool)} {vb vc : PV × Bool} (h : ∀ ta, PA X [a, b, c] ta → PS X st (tPar3 i j l ta)) (ha : PE X a (tR D lvl W f)) (hb : PE X b (tStill D lvl vb)) (hcc : PE X c (tStill D lvl vc))
    (hs1 : starEach [a, b, c] X.env = (false, eval a X.env) :: starEach [b, c] X.env := by rfl) (hs2 : starEach [b, c] X.env = (false, eval b X.env) :: starEach [c] X.env := by rfl) (hs3 : starEach [c] X.env = (false, eval c X.env) :: starEach [] X.env := by rfl) : PS X st (tS D lvl W (gParR3 f i j l vb vc)) := by
  refine PS.imp (h _ (pa_cons ha (pa_cons hb (pa_cons hcc pa_nil hs3) hs2) hs1)) ?_
  rintro Dn σ H ⟨fr, fs, I, h⟩
  refine nextSR I h fun x s fr1 H1 v I1 e1 r1 h1 => ⟨fr1, s, I1, fun fr2 H2 w I2 e2 t2 r2 new => ⟨fr2, s, I2, fun fr3 H3 y I3 e3 t3 r3 new3 => ⟨v, w, y, rfl, ?_⟩⟩⟩
  obtain ⟨x, k⟩ := x
  have r1' := RetR.keep (RetR.keep r1 e2 t2) e3 t3
  have r2' := RetR.keep r2 e3 t3
  obtain ⟨fr4, I4, e4, t4⟩ := FI.setR I3 r1' i
  have r2s := RetR.set (x := v) (m := k) r2' e4 t4 fun hk z => by
    subst hk
    obtain ⟨p, o, rfl, _, q2, _⟩ := r1
    have := new p z
    rw [q2] at this
    cases this
  have r3s := RetR.set (x := v) (m := k) r3 e4 t4 fun hk z => by
    subst hk
    obtain ⟨p, o, rfl, _, q2, _⟩ := r1
    have := new3 p z
    rw [(t2 p o q2).1] at this
    cases this
  obtain ⟨fr5, I5, e5, t5⟩ := FI.setR I4 r2s j
  have r3t := RetR.set (x := w) (m := vb.2) r3s e5 t5 fun hk z => by
    obtain ⟨vb1, vb2⟩ := vb
    have hk' : vb2 = true := hk
    subst hk'
    obtain ⟨p, o, rfl, _, q2, _⟩ := r2
    have := new3 p z
    rw [q2] at this
    cases this
  obtain ⟨fr6, I6, e6, _⟩ := FI.setR I5 r3t l
  exact h1 fr6 _ H3 I6 (e2.trans (e3.trans (e4.trans (e5.trans e6))))
end
section
variable {Q2 : Fl → Fs → Prop} {E : PV → Fs → Prop} {s : Fs} {i j l : Nat} {f : M (PV × Bool)} {vb vc : PV × Bool}
@[simp ↓] theorem wp_gParR : Wp (gParR f i j vb) Q2 E s = Wp f (fun va s1 => Q2 .nx { s1 with sl := (s1.sl.set i (slotOf va)).set j (slotOf vb) }) E s := by
  unfold gParR
  rw [wp_bind]
  congr 1
  funext va s1
  exact propext ⟨fun h => h.run, fun h => ⟨h⟩⟩
@[simp ↓] theorem wp_gParL {f : M PV} {g : M (PV × Bool)} : Wp (gParL f g i j) Q2 E s = Wp f (fun v s1 => Wp g (fun vb s2 => Q2 .nx { s2 with sl := (s2.sl.set i (.sh v)).set j (slotOf vb) }) E s1) E s := by
  unfold gParL
  rw [wp_bind]
  congr 1
  funext v s1
  rw [wp_bind]
  congr 1
  funext vb s2
  exact propext ⟨fun h => h.run, fun h => ⟨h⟩⟩
@[simp ↓] theorem wp_gParR3 : Wp (gParR3 f i j l vb vc) Q2 E s = Wp f (fun va s1 => Q2 .nx { s1 with sl := ((s1.sl.set i (slotOf va)).set j (slotOf vb)).set l (slotOf vc) }) E s := by
  unfold gParR3
  rw [wp_bind]
  congr 1
  funext va s1
  exact propext ⟨fun h => h.run, fun h => ⟨h⟩⟩
end
end Mi
end S_Mi32
section S_Mi33
set_option Elab.async false
set_option linter.all false
set_option maxRecDepth 100000
set_option maxHeartbeats 4000000
/-! enumerate of a text -/
namespace Mi
open PySem PySem.Spec PyProof.Rows L2
def IteS (x : Str) : It := ⟨fun i _ => i < x.cps.size, fun i H v H' => ∃ T c, v = .ref T ∧ H T = none ∧ H' = upd H T (.tup [.int (i : Nat), .str ⟨#[c]⟩]) ∧ x.cps[i]? = some c, fun i _ => x.cps.size ≤ i⟩
def TnS (e it : Addr) (x : Str) (t : Tok) (ty : String) (i : Nat) (h : Heap) : Prop := ((∃ old, IsEnum h e it (0 + (i : Int)) old) ∧ h.IsStrIter it ty x t i) ∧ i ≤ x.cps.size
theorem walks_enumS {prog : Program} {w : World} {A : Around} (hh : A.in1.handled = none) {e it : Addr} (hne : e ≠ it) (x : Str) (t : Tok) (ty : String) (hty : ty = "str_ascii_iterator" ∨ ty = "str_iterator") :
    WalksT prog w A e [e, it] [e, it] x.cps.size (fun i vals => ∃ t' y, (∃ c u, x.cps[i]? = some c ∧ y = .str ⟨#[c]⟩ u) ∧ vals = #[.int (0 + (i : Int)) t', y]) (fun i h => (∃ old, IsEnum h e it (0 + (i : Int)) old) ∧ h.IsStrIter it ty x t i)
      (fun i T h => (∃ y, IsEnumOut h e it (0 + (i : Int) + 1) y T) ∧ h.IsStrIter it ty x t (i + 1) ∧ T ≠ e ∧ T ≠ it) := by
  rcases hty with z | z
  · subst z
    exact WalksT.enumFrom 0 (Draws.strAscii hh it x t) e hne (by simpa using hne) (by simp)
  · subst z
    exact WalksT.enumFrom 0 (Draws.strWide hh it x t) e hne (by simpa using hne) (by simp)
theorem turn_enumS {P : Program} {w : World} {K : PySem.W.Frag} {elts : List Expr} {kk : Nat} {tpos : Pos} {e it : Addr} (hne : e ≠ it) (x : Str) (t : Tok) (ty : String) (hty : ty = "str_ascii_iterator" ∨ ty = "str_iterator") :
    Turn P w K (.Tuple elts kk tpos) (IteS x) [e, it] e (TnS e it x t ty) where
  mem := by simp
  obj := fun i h st b hb => by
    obtain ⟨⟨⟨old, he⟩, o, ho, hc, hd⟩, _⟩ := st
    have e' : b = e ∨ b = it := by simpa using hb
    rcases e' with z | z
    · rw [z]; exact ⟨_, he, fun v q => nomatch q⟩
    · rw [z]; exact ⟨o, ho, fun v q => by rw [hd] at q; cases q⟩
  keep := fun i h h' st k => let ⟨⟨⟨old, he⟩, o, ho, r⟩, hl⟩ := st; ⟨⟨⟨old, k e (by simp) _ he⟩, o, k it (by simp) o ho, r⟩, hl⟩
  item := by
    intro X hP hw hK hc i pins s σ H E I hf st hg
    subst hP hw hK
    have W := walks_enumS (prog := X.prog) (w := X.w) (A := X.A) (show X.A.in1.handled = none from I.ok.hd hc) hne x t ty hty
    have hel : e < s.heap.objs.size := by obtain ⟨⟨⟨old, he⟩, _⟩, _⟩ := st; exact Heap.lt_size he
    have hil : it < s.heap.objs.size := by obtain ⟨⟨_, o, ho, _⟩, _⟩ := st; exact Heap.lt_size ho
    refine W.item i s _ _ hg st.1 fun T vals h' tk hPt hsz hT hM k1 => ?_
    obtain ⟨t', y, ⟨c, u, hcx, rfl⟩, rfl⟩ := hPt
    refine ⟨_, rfl, W.go elts kk tpos i T { s with heap := h', toks := tk } _ _ hM fun h'' st2 k2 => ?_⟩
    have hT2 : IsTup h'' T #[.int (0 + (i : Int)) t', .str ⟨#[c]⟩ u] := by
      obtain ⟨o, ho, r⟩ := hT
      exact ⟨o, k2 T o (W.apart i T h' hM) ho, r⟩
    have new : ObjOk X.prog X.w (upd H T (.tup [.int (i : Nat), .str ⟨#[c]⟩])) h'' T (.tup [.int (i : Nat), .str ⟨#[c]⟩]) :=
      ⟨by show 2 ≤ sizeLine; decide, [.int (0 + (i : Int)) t', .str ⟨#[c]⟩ u], .cons (by rw [Int.zero_add]; exact ⟨_, rfl⟩) (.cons ⟨_, rfl⟩ .nil), hT2⟩
    have I1 : Inv X pins σ (upd H T (.tup [.int (i : Nat), .str ⟨#[c]⟩])) { s with heap := h'', toks := tk } :=
      I.turnedNew (ch := [e, it]) (fun b ob hb q => k2 b ob hb (k1 b ob hb q)) hf hsz new
    refine ⟨.ref T, _, I1, rfl, ⟨T, c, rfl, I.hok.fresh hsz, rfl, hcx⟩, ⟨st2, hg⟩, fun b hb => ?_⟩
    have hb' : b < s.heap.objs.size := by
      have e' : b = e ∨ b = it := by simpa using hb
      rcases e' with z | z
      · rw [z]; exact hel
      · rw [z]; exact hil
    rw [upd_ne (Nat.ne_of_lt (Nat.lt_of_lt_of_le hb' hsz))]
    exact (hf b hb).1
  done := by
    intro X hP hw hK hc i pins s σ H E I hf st hg
    subst hP hw hK
    have hi : i = x.cps.size := Nat.le_antisymm st.2 hg
    subst hi
    obtain ⟨⟨⟨old, he⟩, hit⟩, _⟩ := st
    obtain ⟨f0, f1, f2, f3, f4, f5⟩ := hf it (by simp)
    have hh : X.A.in1.handled = none := I.ok.hd hc
    rcases hty with z | z
    · subst z
      exact wpAny_pyNext_enum_endD (Draws.strAscii hh it x t) he hit fun h' eb => ⟨rfl, I.turned (t' := s.toks) (fun b o hb q => eb b o hb q) f0 f1 f3 f4 f5⟩
    · subst z
      exact wpAny_pyNext_enum_endD (Draws.strWide hh it x t) he hit fun h' eb => ⟨rfl, I.turned (t' := s.toks) (fun b o hb q => eb b o hb q) f0 f1 f3 f4 f5⟩
  self := fun A i s Q E st h => let ⟨⟨⟨_, he⟩, _⟩, _⟩ := st; wpAny_pyIter_enum he h
def iEnumS (ta : TA) : TI := fun σ H R => ta σ H fun vs H1 => ∃ x, vs = [.str x] ∧ R (IteS x) H1
theorem strIterType_or (x : Str) : strIterType x = "str_ascii_iterator" ∨ strIterType x = "str_iterator" := by
  unfold strIterType
  split
  · exact .inl rfl
  · exact .inr rfl
theorem pi_enumS {X : Cx} {e : Expr} {ta : TA} {p pos tpos : Pos} {elts : List Expr} {kk : Nat} (hg : Gl X "enumerate") (hm : X.mg "enumerate" = none) (ha : PA X [e] ta) (hs : starEach [e] X.env = [(false, eval e X.env)] := by rfl) :
    PI X (.Tuple elts kk tpos) (.Call (.Name "enumerate" p) [e] [] pos) (iEnumS ta) := by
  refine ⟨fun pins s σ H R I h => ?_⟩
  refine Call_ (ld_blt I hg hm boot_enumerate (PyProof.Rows.callWith_type1 (thn (ha.run pos pins s σ H _ I h) fun us s1 ⟨vs, H1, I1, r1, q1⟩ => ?_) hs rfl))
  obtain ⟨x, ex, q⟩ := q1
  subst ex
  cases r1 with
  | cons r rr =>
    cases rr
    obtain ⟨t, rfl⟩ := r
    refine call_enumerate_str fun h' he hit hsz hk => wpAny_pyIter_enum he ?_
    have I2 : Inv X pins σ H1 { s1 with heap := h' } := I1.kept (t' := s1.toks) hk
    refine ⟨s1.heap.objs.size + 1, [s1.heap.objs.size + 1, s1.heap.objs.size], _, _, H1, rfl, I2, turn_enumS (Nat.succ_ne_self _) x t _ (strIterType_or x), ⟨⟨⟨.none, he⟩, hit⟩, Nat.zero_le _⟩, fun b hb => ?_, q⟩
    have e' : b = s1.heap.objs.size + 1 ∨ b = s1.heap.objs.size := by simpa using hb
    have hle : s1.heap.objs.size ≤ b := by
      rcases e' with z | z
      · rw [z]; exact Nat.le_add_right _ _
      · rw [z]; exact Nat.le_refl _
    exact I1.fpOk hle (I1.hok.fresh hle)
section
variable {X : Cx} {D : Stat} {lvl : Nat} {W : WX} {fr fr1 fr' : Fr} {H H1 H' : Hp} {fs s : Fs} {σ σ' : L2.St}
def fEnumS (f : M (List PV)) : M (List PV) := M.bind f fun vs => match vs with
  | [.str z] => M.pure ((z.map ch).zipIdx.map fun p => .tup [.int (p.2 : Nat), p.1])
  | _ => fun _ => .no
theorem itok_enumS {x : S} (ok : okS x = true) : ItOk D lvl (IteS (strOf x)) fr H ((x.map ch).zipIdx.map fun p => .tup [.int (p.2 : Nat), p.1]) := by
  intro fr2 H2 e tr
  have sz : (strOf x).cps.size = x.length := List.size_toArray
  have hlt := okS_lt ok
  refine ⟨fun i y hy => ?_, fun i hi => ?_⟩
  · rw [List.getElem?_map, List.getElem?_zipIdx, List.getElem?_map] at hy
    cases hx : x[i]? with
    | none => rw [hx] at hy; cases hy
    | some c =>
      rw [hx] at hy
      cases hy
      have hil : i < x.length := (List.getElem?_eq_some_iff.mp hx).1
      refine ⟨by rw [show (IteS (strOf x)).go i H2 = (i < (strOf x).cps.size) from rfl, sz]; exact hil, fun w H3 ⟨T, c', hw, hT, e3, hc'⟩ => ?_⟩
      subst hw e3
      have hc2 : c' = c := by
        have q : (strOf x).cps[i]? = some c := by simpa [strOf] using hx
        rw [q] at hc'
        exact (Option.some.inj hc').symm
      subst hc2
      have g : Gr H2 (upd H2 T (.tup [.int (i : Nat), .str ⟨#[c']⟩])) := Gr.new hT
      have hn : fr2.ow T = none := by
        cases q : fr2.ow T with
        | none => rfl
        | some o => obtain ⟨u, hu⟩ := tr T o q; rw [hT] at hu; cases hu
      refine ⟨g, .con hn upd_same (.tup (by show 2 ≤ sizeLine; decide) (.cons ?_ (.cons ?_ .nil)))⟩
      · rw [Nat.zero_add]
        exact .int _
      · exact .str (okS_mk (by rw [sizeLine_val]; simp) (by simpa using hlt c' (List.mem_of_getElem? hx)))
  · have hl : ((x.map ch).zipIdx.map fun p => PV.tup [.int (p.2 : Nat), p.1]).length = x.length := by simp
    rw [hl] at hi
    show (strOf x).cps.size ≤ i
    rw [sz, hi]
    exact Nat.le_refl _
theorem si_enumS {e : Expr} {g : M (List PV)} {p pos tpos : Pos} {elts : List Expr} {kk : Nat} (hg : Gl X "enumerate") (hm : X.mg "enumerate" = none) (ha : PA X [e] (tAs D lvl W g)) (hs : starEach [e] X.env = [(false, eval e X.env)] := by rfl) :
    PI X (.Tuple elts kk tpos) (.Call (.Name "enumerate" p) [e] [] pos) (tI D lvl W (fEnumS g)) := by
  refine PI.imp (pi_enumS hg hm ha hs) ?_
  rintro σ H R ⟨fr, fs, I, h⟩
  refine nextA I h fun xs s fr1 H1 vs I1 e1 r1 h1 => ?_
  split at h1
  · rename_i z
    obtain ⟨v, rfl, rv⟩ := r1.one
    cases rv with
    | str ok => exact ⟨_, rfl, h1 fr1 H1 _ I1 e1 (itok_enumS ok)⟩
    | con w1 w2 w3 => cases w3
  · exact h1.elim
end
section
variable {E : PV → Fs → Prop} {s : Fs}
@[simp ↓] theorem wp_fEnumS {f : M (List PV)} {Q : List PV → Fs → Prop} : Wp (fEnumS f) Q E s = Wp f (fun vs s1 => match vs with
    | [.str z] => Q ((z.map ch).zipIdx.map fun p => .tup [.int (p.2 : Nat), p.1]) s1
    | _ => False) E s := by
  unfold fEnumS
  rw [wp_bind]
  congr 1
  funext vs s1
  match vs with
  | [] => simp only [↓wp_no]
  | [.str z] => simp only [↓wp_pure]
  | [.non] => simp only [↓wp_no]
  | [.bl _] => simp only [↓wp_no]
  | [.int _] => simp only [↓wp_no]
  | [.lst _] => simp only [↓wp_no]
  | [.tup _] => simp only [↓wp_no]
  | [.dic _] => simp only [↓wp_no]
  | [.obj _] => simp only [↓wp_no]
  | [.exc _ _] => simp only [↓wp_no]
  | [.fn _] => simp only [↓wp_no]
  | [.scr _] => simp only [↓wp_no]
  | a :: b :: r => cases a <;> simp only [↓wp_no]
end
end Mi
end S_Mi33
section S_Mi34
set_option Elab.async false
set_option linter.all false
set_option maxRecDepth 100000
set_option maxHeartbeats 4000000
/-! e[::-1] of a text, a list -/
namespace Mi
open PySem PySem.Spec PyProof.Rows L2
theorem picked_rev (x : Str) (t : Tok) : ((slicePicked x none none (some (-1, t))).filterMap (x.cps[·]?)).toArray = x.cps.toList.reverse.toArray := by
  have e : slicePicked x none none (some (-1, t)) = sliceRange ((x.cps.size : Int) - 1) (-1) (-1) := rfl
  rw [e, PySem.W.krv_sliceRange, PySem.W.krv_range, List.filterMap_reverse, PySem.W.krv_all]
def tRevS (te : TE) : TE := fun σ H Q => te σ H fun x H1 => ∃ z : Str, x = .str z ∧ z.cps.size ≤ sizeLine ∧ Q (.str ⟨z.cps.toList.reverse.toArray⟩) H1
theorem pe_revS {X : Cx} {e : Expr} {te : TE} {k : Nat} {p1 p2 p3 pos : Pos} (he : PE X e te) : PE X (.Subscript e (.Slice none none (some (.UnaryOp .USub (.Constant (.int 1) k p1) p2)) p3) pos) (tRevS te) := by
  refine ⟨fun pins s σ H Q I h => ?_⟩
  refine Subscript_ (thn (he.run pins s σ H _ I h) fun v s1 ⟨x, H1, I1, r1, q1⟩ => ?_)
  obtain ⟨z, ex, hz, q⟩ := q1
  subst ex
  obtain ⟨tz, rfl⟩ := r1
  have hst : PO X (some (.UnaryOp .USub (.Constant (.int 1) k p1) p2)) (tPart (tUn (rU fun i => .int (-i)) (tC (.int 1)))) := po_some (pe_un un_neg pe_int)
  refine wpAny_Slice (thn (po_none.run pins s1 σ H1 (fun o H2 => o = none ∧ H2 = H1) I1 ⟨rfl, rfl⟩) fun vl s2 ⟨l, H2, I2, pl, el, e2⟩ => ?_)
  subst el e2
  refine thn (po_none.run pins s2 σ H2 (fun o H3 => o = none ∧ H3 = H2) I2 ⟨rfl, rfl⟩) fun vu s3 ⟨u, H3, I3, pu, eu, e3⟩ => ?_
  subst eu e3
  refine thn (hst.run pins s3 σ H3 (fun o H4 => o = some (-1) ∧ H4 = H3) I3 ⟨1, rfl, -1, rfl, rfl, rfl⟩) fun vs s4 ⟨o, H4, I4, ps, eo, e4⟩ => ?_
  subst eo e4
  cases pl
  cases pu
  cases ps with
  | int _ t =>
  have I5 : Inv X pins σ H4 { s4 with heap := s4.heap.push { cls := .type "slice", data := .fields #[.none, .none, .int (-1) t] } } := I4.kept (t' := s4.toks) fun b ob q => Heap.get?_push_of_some _ q
  show wpAny (model X.prog X.w) X.A (subscriptTail e (.Slice none none (some (.UnaryOp .USub (.Constant (.int 1) k p1) p2)) p3) (.str z tz) (.ref s4.heap.objs.size)) (EP X pins σ Q) X.xe { s4 with heap := s4.heap.push { cls := .type "slice", data := .fields #[.none, .none, .int (-1) t] } }
  refine tail_any (ops := [.ref s4.heap.objs.size, .str z tz]) (typeIs_str _ z tz) slot_str_getitem.lookup ?_ (by with_unfolding_all rfl)
  refine wpAny_getItem_str_slice (l := none) (u := none) (st := some (-1, t)) ⟨_, Heap.get?_push_size _ rfl, rfl, rfl⟩ (by rfl) ?_
  unfold sliceMade
  rw [if_neg (by simp), picked_rev]
  have hl : (⟨z.cps.toList.reverse.toArray⟩ : Str).length ≤ sizeLine := by
    show z.cps.toList.reverse.toArray.size ≤ sizeLine
    simpa using hz
  exact ⟨hl, ⟨.str ⟨z.cps.toList.reverse.toArray⟩, H4, I5.tok _, ⟨_, rfl⟩, q⟩⟩
section
variable {X : Cx} {D : Stat} {lvl : Nat} {W : WX} {fr fr1 fr' : Fr} {H H1 H' : Hp} {fs s : Fs} {σ σ' : L2.St}
def fRev (f : M PV) : M PV := M.bind f fun v => match v with
  | .str z => M.pure (.str z.reverse)
  | .lst xs => M.pure (.lst xs.reverse)
  | _ => fun _ => .no
theorem rev_str (z : S) : (⟨(strOf z).cps.toList.reverse.toArray⟩ : Str) = strOf z.reverse := by
  unfold strOf
  simp
theorem se_rev {e : Expr} {f : M PV} {k : Nat} {p1 p2 p3 pos : Pos} (he : PE X e (tE D lvl W f)) : PE X (.Subscript e (.Slice none none (some (.UnaryOp .USub (.Constant (.int 1) k p1) p2)) p3) pos) (tE D lvl W (fRev f)) := by
  refine PE.imp (PE.or (pe_revS he) (pe_revL he)) ?_
  rintro σ H Q ⟨fr, fs, I, h⟩
  unfold fRev M.bind at h
  cases ef : f fs with
  | no => rw [ef] at h; exact h.elim
  | ex y s =>
    rw [ef] at h
    refine .inl ⟨fr, fs, I, ?_⟩
    rw [ef]
    exact h
  | ok v s =>
    rw [ef] at h
    cases v with
    | str z =>
      refine .inl ⟨fr, fs, I, ?_⟩
      rw [ef]
      intro fr1 H1 v1 I1 e1 r1
      cases r1 with
      | str ok =>
        have hl := okS_len ok
        have hlt := okS_lt ok
        refine ⟨_, rfl, by simpa [strOf] using hl, ?_⟩
        rw [rev_str]
        exact h fr1 H1 _ I1 e1 (.str (okS_mk (by rw [List.length_reverse]; exact hl) fun c hc => hlt c (List.mem_reverse.mp hc)))
      | con _ _ c => cases c
    | lst xs =>
      refine .inr ⟨fr, fs, I, ?_⟩
      rw [ef]
      intro fr1 H1 v1 I1 e1 r1
      cases r1 with
      | con w1 w2 w3 =>
        cases w3 with
        | lst hl hr =>
          refine ⟨_, _, rfl, .inl (.inl w2), fun p np => ?_⟩
          have hrv : ∀ {xs : List PV} {vs : List V}, Rels D fr1 H1 xs vs → Rels D fr1 H1 xs.reverse vs.reverse := by
            have app : ∀ {xs ys : List PV} {vs ws : List V}, Rels D fr1 H1 xs vs → Rels D fr1 H1 ys ws → Rels D fr1 H1 (xs ++ ys) (vs ++ ws) := by
              intro xs
              induction xs with
              | nil => intro ys vs ws a b; cases a; exact b
              | cons x xs ih => intro ys vs ws a b; cases a with | cons r t => exact .cons r (ih t b)
            intro xs
            induction xs with
            | nil => intro vs a; cases a; exact .nil
            | cons x xs ih =>
              intro vs a
              cases a with
              | cons r t =>
                rw [List.reverse_cons, List.reverse_cons]
                exact app (ih t) (.cons r .nil)
          have k' : KV' D lvl fr1 H1 σ Q (.lst xs.reverse) s := KV'.base h e1
          exact k'.newSh I1 (.lst (by rw [List.length_reverse]; exact hl) (hrv hr)) p np
    | _ => exact h.elim
end
section
variable {Q1 : PV → Fs → Prop} {E : PV → Fs → Prop} {s : Fs}
@[simp ↓] theorem wp_fRev {f : M PV} : Wp (fRev f) Q1 E s = Wp f (fun v s1 => match v with
    | .str z => Q1 (.str z.reverse) s1
    | .lst xs => Q1 (.lst xs.reverse) s1
    | _ => False) E s := by
  unfold fRev
  rw [wp_bind]
  congr 1
  funext v s1
  cases v <;> first | (simp only [↓wp_pure]; done) | simp only [↓wp_no]
end
end Mi
end S_Mi34
section S_Mi35
set_option Elab.async false
set_option linter.all false
set_option maxRecDepth 100000
set_option maxHeartbeats 4000000
/-! def f(x): return (len(x), x), run raw: what it makes, and that nothing else changes -/
namespace Mi
open PySem PySem.Spec PyProof.Rows L2
def H00 : Hp := fun _ => none
def E00 : XK := fun _ _ _ => False
/-- room for a call of one def that calls len -/
structure KRm (A : Around) : Prop where
  hd : A.handled = none
  dp : A.depth + 5 < recursionLimit
def KeyRun (P : Program) (w : World) (K : PySem.W.Frag) (mg : Str → Option Value) (base : Heap) (f : Addr) : Prop :=
  ∀ (A : Around) (outer : List PySem.Env) (s : Shared) (z : Str) (tz : Tok) (R : Result → Shared → Prop), KRm A → Env0 P w K mg base A outer s H00 → z.length ≤ sizeLine →
    (∀ (h' : Heap) (tk : Nat) (T : Addr) (c : Nat) (t1 : Tok), (∀ b o, s.heap.get? b = some o → h'.get? b = some o) → s.heap.get? T = none → h'.get? T = some { cls := .type "tuple", data := .seq #[.int (z.length : Nat) t1, .str z tz] c } → R (.ok (.ret (.ref T))) { s with heap := h', toks := tk }) →
    codeAny (model P w) A (.call (.ref f) ⟨[.str z tz], []⟩) R s
theorem key_run {P : Program} {w : World} {K : PySem.W.Frag} {mg : Str → Option Value} {base : Heap} {f : Addr} {name qual : Str} {params : Arguments} {scope : Scope} {dV kV doc pm cdv ct oc : Value} {an od : Option Addr}
    {osl : Array (Option Value)} {N : List Str} {p1 p2 p3 p4 p5 rpos : Pos} {x1 : Nat} {a0 : Str} {body : List Stmt} (hbd : body = [.Return (some (.Tuple [.Call (.Name "len" p1) [.Name a0 p2] [] p3, .Name a0 p4] x1 p5)) rpos])
    (lk : K.lookup f = some ⟨oc, od, .func (PySem.W.fnOf name qual params body scope dV kV doc pm an cdv ct), osl⟩) (hcd : PySem.W.codeIn K cdv qual = true) (S : FnScope N [a0] scope)
    (hb : ∀ us : List Value, us.length = 1 → bindArgs (PySem.W.fnOf name qual params body scope dV kV doc pm an cdv ct) ⟨us, []⟩ = pure ([a0].zip us))
    (h0 : scope.names.lookup a0 = some .local) (d0 : (a0 == ("__debug__" : Str)) = false) (hm : mg "len" = none) (hgl : ∀ (A : Around) (outer : List PySem.Env) (s : Shared), Gl (cxOf (L2.CX P w) P w K mg base N qual scope f cdv A outer s H00 E00) "len") : KeyRun P w K mg base f := by
  intro A outer s z tz R hr e0 hz q
  subst hbd
  have KX : K.In s.heap := e0.mod.kin.keeps fun b o e => (e0.bs b o e).1
  have lim : s.heap.NoLimit := e0.mod.nolimit.keeps fun b o e => (e0.bs b o e).1
  have hkind : ∀ v ∈ [a0].zip [Value.str z tz], scope.names.lookup v.1 = some .local ∨ (scope.names.lookup v.1 = some .cell ∧ ((cellsFrom (s.heap.objs.size + 1) scope.names []).lookup v.1).isSome = true) := fun ⟨n, v⟩ hy => by
    rcases S.par n (List.of_mem_zip hy).1 with q | q
    · exact .inl q
    · exact .inr ⟨q, PySem.W.cellsFrom_some _ _ _ (.inl q)⟩
  refine codeAny_call_function (by have := hr.dp; omega) (KX _ _ lk) rfl S.co S.gen rfl (PySem.W.codeRec_of KX hcd) (BindsTo.of_eq (hb [.str z tz] rfl) _ _ _ _ ?_)
  refine wpAny_newFunctionEnv_cells S.kind hkind fun env he s1 xx => ?_
  subst he
  refine ⟨lim.keeps xx.toInCall.keep, codeAny_func ?_⟩
  have rv : Vals [V.str z] [Value.str z tz] := .cons ⟨tz, rfl⟩ .nil
  have I : Inv (cxOf (L2.CX P w) P w K mg base N qual scope f cdv A outer s H00 E00) [] (start N [.str z]) H00 s1 := inv_start S hr.hd e0 rfl rv xx
  have hn := xx.toInCall.ns
  obtain ⟨h1, tk, es1, hk1⟩ := xx.done
  have m0 := bindL_get (kindOf := (envOfC qual scope s.heap.objs.size f cdv).kindOf) (x := a0) (v := Value.str z tz) (P := [a0]) (vs := [.str z tz]) (i := 0) (m := fun _ => none) (by simp) rfl rfl h0
  refine wpAny_execs_cons (wpAny_Return_some (Tuple_ ?_))
  refine Calls.spliced_cons ?_
  refine wpAny_Call_Name_kw (ld_blt I (hgl A outer s) hm boot_len (PyProof.Rows.callWith_builtin1 (Calls.spliced_cons (wpAny_Name (wpAny_loadName_local S.kind h0 hn m0 ?_) d0)) rfl rfl) (by decide) (by decide))
  refine Calls.spliced_nil ?_
  have hz63 := sizeLine_val
  refine len_str (by omega) ?_
  refine Calls.spliced_cons (wpAny_Name (wpAny_loadName_local S.kind h0 hn m0 ?_) d0)
  refine Calls.spliced_nil ?_
  refine wpAny_newTuple ?_
  subst es1
  refine q _ _ _ _ _ (fun b o e => Heap.get?_push_of_some _ (hk1 b o e)) ?_ (Heap.get?_push_size _ rfl)
  cases e : s.heap.get? h1.objs.size with
  | none => rfl
  | some o => exact absurd (Heap.lt_size (hk1 _ _ e)) (Nat.lt_irrefl _)
end Mi
end S_Mi35
section S_Mi36
set_option Elab.async false
set_option linter.all false
set_option maxRecDepth 100000
set_option maxHeartbeats 4000000
/-! sorted(xs, key=f), f the def of Mi35, xs a list of texts -/
namespace Mi
open PySem PySem.Spec PyProof.Rows L2
/-- the key of a text -/
def kOf : V → PyData
  | .str z => .tuple [.int (z.length : Nat), .str z]
  | _ => .tuple [.int 0, .str (strOf [])]
def rSrtK (K : PySem.W.Frag) (f : Addr) : List V → List V → Hp → VK → Prop := fun vs zs H Q => ∃ (a : Addr) (xs : List V), vs = [.ref a] ∧ zs = [.ref f] ∧ SqL K H a xs ∧ (∀ x ∈ xs, ∃ z : Str, x = .str z ∧ z.length ≤ sizeLine) ∧
  ∀ p, H p = none → Q (.ref p) (upd H p (.lst (xs.mergeSort (PySem.W.dataLe false kOf))))
theorem kOf_alike (x y : V) : PySem.W.alike (kOf x) (kOf y) = true := by
  unfold kOf
  split <;> split <;> rfl
theorem kOf_tup (x : V) : ∃ d r, kOf x = .tuple (d :: r) := by
  unfold kOf
  split <;> exact ⟨_, _, rfl⟩
theorem kOf_depth (x : V) : (kOf x).depth ≤ 1 := by
  unfold kOf
  split <;> exact Nat.le_refl _
theorem vals_each' : ∀ {xs : List V} {us : List Value}, Vals xs us → PySem.W.EachIs (fun (u : Value) (x : V) => RelV x u) us xs
  | _, _, .nil => .nil
  | _, _, .cons r t => .cons r (vals_each' t)
theorem each_vals' : ∀ {us : List Value} {xs : List V}, PySem.W.EachIs (fun (u : Value) (x : V) => RelV x u) us xs → Vals xs us
  | _, _, .nil => .nil
  | _, _, .cons r t => .cons r (each_vals' t)
section
variable {X : Cx} {f : Addr}
theorem cr_srtK (hdp : X.A.depth + 5 < recursionLimit) (hh : X.A.handled = none) (hu : X.A.units + 64 < cLine) (F : KeyRun X.prog X.w X.K X.mg X.base f) : CallRK X (.builtin "sorted") [Str.ofString "key"] (rSrtK X.K f) := by
  intro pins s σ H vs zs us ws Q I r rz h
  obtain ⟨a, xs, rfl, rfl, hs, hx, q⟩ := h
  obtain ⟨its, rv, hl, hle⟩ := I.list hs
  rw [Vals.ref1 r]
  obtain ⟨w1, rfl, e1⟩ := vals1 rz
  obtain rfl : w1 = Value.ref f := e1
  refine PySem.W.sorted_key_data (R := fun (u : Value) (x : V) => RelV x u) (bs := xs) (b := false) kOf hl.isList (vals_each' rv) (fun d hd d' hd' => ?_) (.inl fun d hd => ?_) hle (fun x _ => ?_) (PyProof.Rows.ksk_s1 _ _) (fun _ => PyProof.Rows.ksk_l1 _ _) (fun y => PyProof.Rows.ksk_t1 f y) (fun v x rx hm h tk kp => ?_) fun out c h' tk kp hn hD ho er => ?_
  · obtain ⟨x, _, rfl⟩ := List.mem_map.mp hd
    obtain ⟨y, _, rfl⟩ := List.mem_map.mp hd'
    exact kOf_alike x y
  · obtain ⟨x, _, rfl⟩ := List.mem_map.mp hd
    exact kOf_tup x
  · have := kOf_depth x
    omega
  · obtain ⟨z, rfl, hz⟩ := hx x hm
    obtain ⟨tz, rfl⟩ := rx
    have e0 := I.env0
    refine wpAny_call (F X.A.in1.in1 X.stack _ z tz _ ⟨hh, hdp⟩ ⟨e0.frames, e0.mod, fun b o e => ⟨kp b o (e0.bs b o e).1, rfl⟩, ?_, ?_, fun b _ => rfl, fun b o e => (nomatch e), e0.bare⟩ hz fun h2 tk2 T c2 t1 k2 n2 e2 => ?_)
    · have l1 := I.ok.bsz
      have l2 := I.ok.above
      have l3 : X.env.locals < h.objs.size := (by obtain ⟨m, ⟨o, es, ep, eo, _⟩, _⟩ := I.loc; exact Heap.lt_size (kp _ o eo))
      exact Nat.le_of_lt (Nat.lt_of_le_of_lt (Nat.le_trans l1 l2) l3)
    · exact Heap.FunFrames.of_keeps (fun b o e _ => ⟨o, kp b o e, rfl⟩) e0.funs
    · exact ⟨h2, tk2, rfl, k2, .tuple e2 rfl rfl (.cons (.int _ _) (.cons (.str _ _) .nil))⟩
  · have ev : Vals (xs.mergeSort (PySem.W.dataLe false kOf)) out := each_vals' er
    exact ⟨.ref _, upd H (s.heap.objs.size + 1) (.lst (xs.mergeSort (PySem.W.dataLe false kOf))), I.laid (t' := tk) kp (Nat.le_succ _) ⟨by rw [List.length_mergeSort]; exact hle, out, c, ev, hD⟩, rfl, q _ (I.hok.fresh (Nat.le_succ _))⟩
end
section
def kP : PV → PyData
  | .str z => .tuple [.int ((strOf z).length : Nat), .str (strOf z)]
  | _ => .tuple [.int 0, .str (strOf [])]
/-- sorted by size, then by the text -/
def srtK (xs : List PV) : List PV := xs.mergeSort (PySem.W.dataLe false kP)
def isStrB : PV → Bool
  | .str _ => true
  | _ => false
def srtKP : List PV → Option PV
  | [.lst xs] => if xs.all isStrB = true then some (.lst (srtK xs)) else none
  | _ => none
variable {X : Cx} {f : Addr} {D : Stat} {lvl : Nat} {W : WX} {fr : Fr} {H : Hp} {y : Str} {p p2 kp pos : Pos} {e : Expr} {g : M (List Loc)}
theorem rel_strV {z : S} {v : V} (r : Rel D fr H (.str z) v) : v = .str (strOf z) ∧ okS z = true := by
  cases r with
  | str h => exact ⟨rfl, h⟩
  | con _ _ h => cases h
theorem rels_key : ∀ {xs : List PV} {vs : List V}, Rels D fr H xs vs → xs.all isStrB = true → PySem.W.EachIs (fun x v => Rel D fr H x v ∧ kP x = kOf v) xs vs ∧ ∀ v ∈ vs, ∃ z : Str, v = .str z ∧ z.length ≤ sizeLine
  | _, _, .nil, _ => ⟨.nil, fun _ h => nomatch h⟩
  | x :: xs, v :: vs, .cons r t, h => by
    rw [List.all_cons, Bool.and_eq_true] at h
    obtain ⟨a, b⟩ := rels_key t h.2
    cases x with
    | str z =>
      obtain ⟨rfl, ok⟩ := rel_strV r
      refine ⟨.cons ⟨r, rfl⟩ a, fun v hv => ?_⟩
      rcases List.mem_cons.mp hv with rfl | hv
      · exact ⟨_, rfl, by show (strOf z).cps.size ≤ sizeLine; simpa [strOf] using okS_len ok⟩
      · exact b v hv
    | _ => cases h.1
theorem each_rels' : ∀ {xs : List PV} {vs : List V}, PySem.W.EachIs (fun x v => Rel D fr H x v ∧ kP x = kOf v) xs vs → Rels D fr H xs vs
  | _, _, .nil => .nil
  | _, _, .cons r t => .cons r.1 (each_rels' t)
theorem rels_srtK {xs : List PV} {vs : List V} (h : PySem.W.EachIs (fun x v => Rel D fr H x v ∧ kP x = kOf v) xs vs) : Rels D fr H (srtK xs) (vs.mergeSort (PySem.W.dataLe false kOf)) := by
  refine each_rels' (PySem.W.sort_each h fun a ha b hb => ?_)
  have h1 := (h.zip a ha).2
  have h2 := (h.zip b hb).2
  unfold PySem.W.dataLe PySem.W.sortLe
  dsimp only
  rw [h1, h2]
theorem sf_srtK (hdp : X.A.depth + 5 < recursionLimit) (hh : X.A.handled = none) (hu : X.A.units + 64 < cLine) (F : KeyRun X.prog X.w X.K X.mg X.base f) (hg : Gl X "sorted") (hm : X.mg "sorted" = none) (hgy : Gl X y) (hmy : X.mg y = some (.ref f)) (ha : PA X [e] (tOs D lvl W g))
    (hdb : (y == ("__debug__" : Str)) = false := by decide)
    (he : backTo pos (starEach [e] X.env) = (false, eval e X.env) :: backTo pos (starEach [] X.env) := by rfl) (hpl : (backTo pos (starEach [e] X.env)).any (·.1) = false := by rfl) :
    PE X (.Call (.Name "sorted" p) [e] [⟨some "key", .Name y p2, kp⟩] pos) (tF D lvl W (fB g srtKP)) := by
  refine PE.imp (pe_callBK (cr_srtK hdp hh hu F) hg hm boot_sorted' ha (pk_cons (pe_glob (v := .ref f) hgy hmy rfl hdb) pk_nil) (by decide) (by decide) he hpl) fun σ H Q h => ?_
  show tCB (fun vs H Q => rSrtK X.K f vs [.ref f] H Q) (tOs D lvl W g) σ H Q
  refine fBF_run (fun lvl fr fs σ H xs vs z Q I r hz k => ?_) h
  unfold srtKP at hz
  split at hz
  · rename_i ys
    split at hz
    · rename_i ho
      cases hz
      obtain ⟨v, rfl, n⟩ := r.one
      obtain ⟨a, ws, rfl, q1, q2, q3⟩ := n.lst
      obtain ⟨b1, b2⟩ := rels_key q3 ho
      refine ⟨a, ws, rfl, rfl, .inl (.inl q1), b2, ?_⟩
      exact k.new I (.lst (by unfold srtK; rw [List.length_mergeSort]; exact q2) (rels_srtK b1))
    · cases hz
  · cases hz
end
section
variable {Q : PV → Prop} {xs : List PV}
theorem srtKP_ok (h : xs.all isStrB = true) : OpQ (srtKP [.lst xs]) Q = Q (.lst (srtK xs)) := by
  have e : srtKP [.lst xs] = some (.lst (srtK xs)) := if_pos h
  rw [e]
  rfl
end
/-- KeyRun from the head's word on the def -/
theorem key_of {P : Program} {w : World} {K : PySem.W.Frag} {mg : Str → Option Value} {base : Heap} {f : Addr} {name qual : Str} {params : Arguments} {scope : Scope} {N : List Str} {p1 p2 p3 p4 p5 rpos : Pos} {x1 : Nat} {a0 : Str} {body : List Stmt}
    (F : ∃ fd, FunD K name qual params body scope [] [] f fd) (S : FnScope N [a0] scope) (hbd : body = [.Return (some (.Tuple [.Call (.Name "len" p1) [.Name a0 p2] [] p3, .Name a0 p4] x1 p5)) rpos]) 
    (hb : ∀ (kV doc pm : Value) (an : Option Addr) (cdv ct : Value) (us : List Value), us.length = 1 → bindArgs (PySem.W.fnOf name qual params body scope .none kV doc pm an cdv ct) ⟨us, []⟩ = pure ([a0].zip us))
    (h0 : scope.names.lookup a0 = some .local) (d0 : (a0 == ("__debug__" : Str)) = false) (hm : mg "len" = none) (hgl : ∀ (cdv : Value) (A : Around) (outer : List PySem.Env) (s : Shared), Gl (cxOf (L2.CX P w) P w K mg base N qual scope f cdv A outer s H00 E00) "len") : KeyRun P w K mg base f := by
  obtain ⟨fd, F⟩ := F
  obtain ⟨oc, od, dV, kV, doc, pm, an, cdv, ct, osl, rfl, lk, hcd, hD, _⟩ := F.ex
  rcases hD with ⟨_, rfl⟩ | ⟨e, _⟩
  · exact key_run hbd lk hcd S (hb kV doc pm an cdv ct) h0 d0 hm (hgl cdv)
  · exact absurd rfl e
end Mi
end S_Mi36
section S_Bd_k16
set_option Elab.async false
set_option linter.all false
set_option maxRecDepth 100000
set_option maxHeartbeats 4000000
namespace Mi
open PySem PySem.Spec PyProof.Rows L2
def s_ABCDEFG : S := [65, 66, 67, 68, 69, 70, 71]
def s_GFEDCBA : S := [71, 70, 69, 68, 67, 66, 65]
def s_XAZBYCQ : S := [88, 65, 90, 66, 89, 67, 81]
def s_MNOPQRS : S := [77, 78, 79, 80, 81, 82, 83]
def s_ABCDEFGH : S := [65, 66, 67, 68, 69, 70, 71, 72]
def s_5 : S := [65, 10]
def s_HIJKLMN : S := [72, 73, 74, 75, 76, 77, 78]
def s_TUVWXYZ : S := [84, 85, 86, 87, 88, 89, 90]
def anc (n : Nat) : List Nat := match n with
  | _ => []
def xks : List Nat := []
def sX (y k : Nat) : Option Bool := isX anc xks y k
def sV (k : Nat) : Option Bool := isV xks k
def b_find_letters (Γ : Env) : M Fl := gSeq (gOwn (fLst (fNil)) 1) (gSeq (gFor (fSeq (fVar 0)) (uName 2) (gIf (asB (fOp2 (fAt 2) (fAt 1) notInP)) (gDrop (fMut (fAt 1) (fCons (fVar 2) (fNil)) appendM)) (gNx))) (gRet (fMeth' 0 (fLoc (M.pure (.str []))) (fOCons (fAt 1) (fONil)) joinP)))
def F_find_letters : Fd := ⟨"find_letters", 1, 3, b_find_letters⟩
def b_is_pattern (Γ : Env) : M Fl := gSeq (gIf (fOr (fNot (asB (fIsi (fAt 0) 3))) (fNot (asB (fChain (fLoc (M.pure (.int 1))) (fLoc (fB (fOCons (fAt 0) (fONil)) lenP)) (fLoc (M.pure (.int 20))) leP leP)))) (gRet (M.pure (.bl false))) (gNx)) (gRet (fAndV (fB (fOCons (fLoc (fComp (fSeq (fVar 0)) [1] (uName 1) (tYesM) (fOp2 (fAt 1) (fLoc (M.pure (.str cCAPS))) inP))) (fONil)) allP) (fOp2 (fLoc (fB (fOCons (fLoc (fCall Γ 1 (fCons (fVar 0) (fNil)))) (fONil)) lenP)) (fLoc (M.pure (.int 7))) leP)))
def F_is_pattern : Fd := ⟨"is_pattern", 1, 2, b_is_pattern⟩
def b_require_pattern (Γ : Env) : M Fl := gIf (fNot (asB (fCall Γ 2 (fCons (fVar 0) (fNil))))) (gRaise 1) (gNx)
def F_require_pattern : Fd := ⟨"require_pattern", 1, 1, b_require_pattern⟩
def b_find_joins (Γ : Env) : M Fl := gRetF (fB (fOCons (fLoc (fComp (fRng1 (fCons (fOp2 (fLoc (fB (fOCons (fAt 0) (fONil)) lenP)) (fLoc (M.pure (.int 1))) subP) (fNil))) [1] (uName 1) (tYesM) (fCut (fAt 0) (fSome (fVar 1)) (fSome (fOp2 (fAt 1) (fLoc (M.pure (.int 2))) addP))))) (fONil)) sortSetP)
def F_find_joins : Fd := ⟨"find_joins", 1, 2, b_find_joins⟩
def b_merge (Γ : Env) : M Fl := gSeq (gAsg (fTup (fCons (M.pure (.str [])) (fCons (M.pure (.str [])) (fNil)))) (uTup 2 (uCons (uName 4) (uCons (uName 5) (uNil))))) (gSeq (gOwn (fLst (fNil)) 2) (gSeq (gFor (fSeq (fVar 0)) (uName 3) (gIf (fOr (asB (fOp2 (fLoc (fIx (fAt 1) (fLoc (M.pure (.int 0))))) (fLoc (fIx (fAt 3) (fLoc (M.pure (.int 0))))) inP)) (asB (fOp2 (fLoc (fIx (fAt 1) (fLoc (M.pure (.int 1))))) (fLoc (fIx (fAt 3) (fLoc (M.pure (.int 1))))) inP))) (gSeq (gAsg (fOp2 (fAt 4) (fLoc (fIx (fAt 3) (fLoc (M.pure (.int 0))))) addP) (uName 4)) (gAsg (fOp2 (fAt 5) (fLoc (fIx (fAt 3) (fLoc (M.pure (.int 1))))) addP) (uName 5))) (gDrop (fMut (fAt 2) (fCons (fVar 3) (fNil)) appendM)))) (gRet (fOp2 (fAt 2) (fLoc (fLst (fCons (fTup (fCons (fVar 4) (fCons (fVar 5) (fNil)))) (fNil)))) addP))))
def F_merge : Fd := ⟨"merge", 2, 6, b_merge⟩
def b_find_components (Γ : Env) : M Fl := gSeq (gAsg (fCall Γ 1 (fCons (fVar 0) (fNil))) (uName 1)) (gSeq (gAsg (fOp2 (fLoc (fComp (fSeq (fVar 1)) [4] (uName 4) (tYesM) (fTup (fCons (fVar 4) (fCons (M.pure (.str [])) (fNil)))))) (fLoc (fComp (fSeq (fVar 1)) [4] (uName 4) (tYesM) (fTup (fCons (M.pure (.str [])) (fCons (fVar 4) (fNil)))))) addP) (uName 2)) (gSeq (gFor (fSeq (fCall Γ 31 (fCons (fVar 0) (fNil)))) (uName 3) (gAsg (fCall Γ 32 (fCons (fVar 2) (fCons (fVar 3) (fNil)))) (uName 2))) (gRetF (fB (fOCons (fLoc (fComp (fSeq (fVar 2)) [5, 6] (uTup 2 (uCons (uName 5) (uCons (uName 6) (uNil)))) (tYesM) (fTup (fCons (fMeth' 0 (fLoc (M.pure (.str []))) (fOCons (fLoc (fB (fOCons (fAt 5) (fONil)) sortedP')) (fONil)) joinP) (fCons (fMeth' 0 (fLoc (M.pure (.str []))) (fOCons (fLoc (fB (fOCons (fAt 6) (fONil)) sortedP')) (fONil)) joinP) (fNil)))))) (fONil)) sortedP'))))
def F_find_components : Fd := ⟨"find_components", 1, 7, b_find_components⟩
def b_shares (Γ : Env) : M Fl := gRet (fOp2 (fLoc (fComp (fSeq (fVar 0)) [2] (uName 2) (asB (fOp2 (fAt 2) (fAt 1) inP)) (fVar 2))) (fLoc (fLst (fNil))) neP)
def F_shares : Fd := ⟨"shares", 2, 3, b_shares⟩
def b_is_free_set (Γ : Env) : M Fl := gSeq (gFor (fSeq (fCall Γ 33 (fCons (fVar 0) (fNil)))) (uTup 2 (uCons (uName 2) (uCons (uName 3) (uNil)))) (gIf (fAnd (asB (fCall Γ 78 (fCons (fVar 2) (fCons (fVar 1) (fNil))))) (asB (fCall Γ 78 (fCons (fVar 3) (fCons (fVar 1) (fNil)))))) (gRet (M.pure (.bl false))) (gNx))) (gRet (M.pure (.bl true)))
def F_is_free_set : Fd := ⟨"is_free_set", 2, 4, b_is_free_set⟩
def b_all_sets (Γ : Env) : M Fl := gSeq (gOwn (fLst (fCons (M.pure (.str [])) (fNil))) 1) (gSeq (gFor (fSeq (fVar 0)) (uName 2) (gAsg (fOp2 (fAt 1) (fLoc (fComp (fSeq (fVar 1)) [3] (uName 3) (tYesM) (fOp2 (fAt 3) (fAt 2) addP))) addP) (uName 1))) (gRetF (fB (fOCons (fLoc (fCut (fAt 1) (fSome (M.pure (.int 1))) (fNone))) (fONil)) srtKP)))
def F_all_sets : Fd := ⟨"all_sets", 1, 4, b_all_sets⟩
def b_size_and_letters (Γ : Env) : M Fl := gRet (fTup (fCons (fB (fOCons (fAt 0) (fONil)) lenP) (fCons (fVar 0) (fNil))))
def F_size_and_letters : Fd := ⟨"size_and_letters", 1, 1, b_size_and_letters⟩
def b_find_free_sets (Γ : Env) : M Fl := gSeq (gAsg (fCall Γ 33 (fCons (fVar 0) (fNil))) (uName 1)) (gSeq (gOwn (fLst (fNil)) 2) (gSeq (gFor (fSeq (fCall Γ 36 (fCons (fMeth' 0 (fLoc (M.pure (.str []))) (fOCons (fLoc (fB (fOCons (fLoc (fCall Γ 1 (fCons (fVar 0) (fNil)))) (fONil)) sortedP')) (fONil)) joinP) (fNil)))) (uName 3) (gIf (fNot (asB (fB (fOCons (fLoc (fComp (fSeq (fVar 1)) [4, 5] (uTup 2 (uCons (uName 4) (uCons (uName 5) (uNil)))) (tYesM) (fAndV (fCall Γ 78 (fCons (fVar 4) (fCons (fVar 3) (fNil)))) (fCall Γ 78 (fCons (fVar 5) (fCons (fVar 3) (fNil))))))) (fONil)) anyP))) (gDrop (fMut (fAt 2) (fCons (fVar 3) (fNil)) appendM)) (gNx))) (gRetN 2)))
def F_find_free_sets : Fd := ⟨"find_free_sets", 1, 6, b_find_free_sets⟩
def b_is_letter_set (Γ : Env) : M Fl := gSeq (gIf (fOr (fNot (asB (fIsi (fAt 1) 3))) (fOr (asB (fOp2 (fAt 1) (fLoc (M.pure (.str []))) eqP)) (asB (fOp2 (fLoc (fB (fOCons (fAt 1) (fONil)) sortSetP)) (fLoc (fB (fOCons (fAt 1) (fONil)) listP')) neP)))) (gRet (M.pure (.bl false))) (gNx)) (gRet (fB (fOCons (fLoc (fComp (fSeq (fVar 1)) [2] (uName 2) (tYesM) (fOp2 (fAt 2) (fAt 0) inP))) (fONil)) allP))
def F_is_letter_set : Fd := ⟨"is_letter_set", 2, 3, b_is_letter_set⟩
def b_require_letters (Γ : Env) : M Fl := gIf (fNot (asB (fCall Γ 79 (fCons (fVar 0) (fCons (fVar 1) (fNil)))))) (gRaise 8) (gNx)
def F_require_letters : Fd := ⟨"require_letters", 2, 2, b_require_letters⟩
def b_joined (Γ : Env) : M Fl := gSeq (gDrop (fCall Γ 3 (fCons (fVar 0) (fNil)))) (gRetCall Γ 33 (fCons (fVar 0) (fNil)))
def F_joined : Fd := ⟨"joined", 1, 1, b_joined⟩
def b_is_free (Γ : Env) : M Fl := gSeq (gDrop (fCall Γ 3 (fCons (fVar 0) (fNil)))) (gSeq (gDrop (fCall Γ 80 (fCons (fVar 0) (fCons (fVar 1) (fNil))))) (gRetCall Γ 81 (fCons (fVar 0) (fCons (fVar 1) (fNil)))))
def F_is_free : Fd := ⟨"is_free", 2, 2, b_is_free⟩
def b_free_sets (Γ : Env) : M Fl := gSeq (gDrop (fCall Γ 3 (fCons (fVar 0) (fNil)))) (gRetCall Γ 82 (fCons (fVar 0) (fNil)))
def F_free_sets : Fd := ⟨"free_sets", 1, 1, b_free_sets⟩
def b__law_spread (Γ : Env) : M Fl := gSeq (gIf (asB (fOp2 (fAt 0) (fLoc (fOp2 (fLoc (M.pure (.int 10))) (fLoc (M.pure (.int 18))) powP)) geP)) (gRetN 0) (gNx)) (gSeq (gOwn (fLst (fCons (M.pure (.int 2147483629)) (fCons (M.pure (.int 2147483587)) (fCons (M.pure (.int 2147483579)) (fCons (M.pure (.int 2147483563)) (fCons (M.pure (.int 2147483549)) (fCons (M.pure (.int 2147483543)) (fCons (M.pure (.int 2147483497)) (fNil))))))))) 2) (gSeq (gAsg (fOp2 (fAt 2) (fLoc (fLst (fCons (M.pure (.int 2147483489)) (fCons (M.pure (.int 2147483477)) (fCons (M.pure (.int 2147483423)) (fCons (M.pure (.int 2147483399)) (fCons (M.pure (.int 2147483353)) (fCons (M.pure (.int 2147483323)) (fNil))))))))) addP) (uName 2)) (gSeq (gAsg (fOp2 (fLoc (fOp2 (fLoc (fOp2 (fLoc (fOp2 (fAt 0) (fLoc (M.pure (.int 1000000007))) modP)) (fLoc (fOp2 (fLoc (fOp2 (fLoc (M.pure (.int 2))) (fAt 1) mulP)) (fLoc (M.pure (.int 69069))) addP)) mulP)) (fLoc (fOp2 (fAt 1) (fLoc (M.pure (.int 40503))) mulP)) addP)) (fLoc (M.pure (.int 977))) addP) (uName 3)) (gSeq (gAsg (fOp2 (fLoc (fOp2 (fAt 3) (fLoc (M.pure (.int 3))) powP)) (fLoc (fIx (fAt 2) (fLoc (fOp2 (fAt 1) (fLoc (M.pure (.int 13))) modP)))) modP) (uName 4)) (gSeq (gAsg (fOp2 (fLoc (fOp2 (fLoc (fOp2 (fLoc (fOp2 (fLoc (fOp2 (fAt 4) (fLoc (fOp2 (fAt 1) (fLoc (M.pure (.int 3))) addP)) mulP)) (fLoc (fOp2 (fAt 0) (fLoc (M.pure (.int 65537))) modP)) addP)) (fLoc (M.pure (.int 5))) addP)) (fLoc (M.pure (.int 5))) powP)) (fLoc (fIx (fAt 2) (fLoc (fOp2 (fLoc (fOp2 (fAt 1) (fLoc (M.pure (.int 5))) addP)) (fLoc (M.pure (.int 13))) modP)))) modP) (uName 5)) (gSeq (gAsg (fOp2 (fLoc (fOp2 (fLoc (fOp2 (fLoc (fOp2 (fAt 5) (fLoc (fOp2 (fAt 4) (fLoc (M.pure (.int 1009))) modP)) addP)) (fAt 1) addP)) (fLoc (M.pure (.int 3))) powP)) (fLoc (fIx (fAt 2) (fLoc (fOp2 (fLoc (fOp2 (fAt 1) (fLoc (M.pure (.int 7))) addP)) (fLoc (M.pure (.int 13))) modP)))) modP) (uName 6)) (gRet (fOp2 (fLoc (fOp2 (fLoc (fOp2 (fLoc (fOp2 (fAt 4) (fLoc (M.pure (.int 2147483647))) mulP)) (fAt 5) addP)) (fLoc (M.pure (.int 2147483647))) mulP)) (fAt 6) addP))))))))
def F__law_spread : Fd := ⟨"_law_spread", 2, 7, b__law_spread⟩
def b__law_open (Γ : Env) : M Fl := gSeq (gOwn (fB (fOCons (fLoc (fCut (fAt 0) (fNone) (fSome (M.pure (.int 12))))) (fONil)) listP') 1) (gSeq (gFor (fEnum (fCons (fCut (fAt 0) (fSome (M.pure (.int 12))) (fSome (M.pure (.int 63)))) (fNil))) (uTup 2 (uCons (uName 2) (uCons (uName 3) (uNil)))) (gSetIx (fOp2 (fLoc (fIx (fAt 1) (fLoc (fOp2 (fAt 2) (fLoc (M.pure (.int 12))) modP)))) (fAt 3) addP) (fAt 1) (fOp2 (fAt 2) (fLoc (M.pure (.int 12))) modP))) (gRet (fBox (fCons (fVar 1) (fCons (M.pure (.int 0)) (fCons (M.pure (.int 0)) (fNil)))))))
def F__law_open : Fd := ⟨"_law_open", 1, 4, b__law_open⟩
def b__law_anew (Γ : Env) : M Fl := gSeq (gSetIx (M.pure (.int 0)) (fAt 0) (M.pure (.int 2))) (gRetN 0)
def F__law_anew : Fd := ⟨"_law_anew", 1, 1, b__law_anew⟩
def b__law_take (Γ : Env) : M Fl := gSeq (gIf (asB (fOp2 (fLoc (fIx (fAt 0) (fLoc (M.pure (.int 2))))) (fAt 1) ltP)) (gSeq (gAsg (fIx (fAt 0) (fLoc (M.pure (.int 1)))) (uName 3)) (gSeq (gAsg (M.pure (.int 0)) (uName 4)) (gSeq (gIf (asB (fOp2 (fAt 3) (fLoc (fB (fOCons (fLoc (fIx (fAt 0) (fLoc (M.pure (.int 0))))) (fONil)) lenP)) ltP)) (gAsg (fIx (fLoc (fIx (fAt 0) (fLoc (M.pure (.int 0))))) (fAt 3)) (uName 4)) (gIf (asB (fOp2 (fLoc (fB (fOCons (fLoc (fIx (fAt 0) (fLoc (M.pure (.int 0))))) (fONil)) lenP)) (fLoc (M.pure (.int 0))) gtP)) (gAsg (fOp2 (fLoc (fIx (fLoc (fIx (fAt 0) (fLoc (M.pure (.int 0))))) (fLoc (fOp2 (fLoc (fOp2 (fLoc (fOp2 (fAt 3) (fLoc (M.pure (.int 5))) mulP)) (fLoc (M.pure (.int 3))) addP)) (fLoc (fB (fOCons (fLoc (fIx (fAt 0) (fLoc (M.pure (.int 0))))) (fONil)) lenP)) modP)))) (fLoc (fOp2 (fLoc (fOp2 (fLoc (M.pure (.int 10))) (fLoc (M.pure (.int 17))) powP)) (fAt 3) addP)) modP) (uName 4)) (gNx))) (gSeq (gSetIx (fOp2 (fAt 3) (fLoc (M.pure (.int 1))) addP) (fAt 0) (M.pure (.int 1))) (gSetIx (fCall Γ 4 (fCons (fVar 4) (fCons (fVar 3) (fNil)))) (fAt 0) (M.pure (.int 2))))))) (gNx)) (gSeq (gAsg (fOp2 (fLoc (fIx (fAt 0) (fLoc (M.pure (.int 2))))) (fAt 1) modP) (uName 2)) (gSeq (gSetIx (fOp2 (fLoc (fIx (fAt 0) (fLoc (M.pure (.int 2))))) (fAt 1) fdivP) (fAt 0) (M.pure (.int 2))) (gRetN 2)))
def F__law_take : Fd := ⟨"_law_take", 2, 5, b__law_take⟩
def b__law_one (Γ : Env) : M Fl := gRet (fIx (fAt 1) (fLoc (fCall Γ 5 (fCons (fVar 0) (fCons (fB (fOCons (fAt 1) (fONil)) lenP) (fNil))))))
def F__law_one : Fd := ⟨"_law_one", 2, 2, b__law_one⟩
def b__law_drawn (Γ : Env) : M Fl := gSeq (gOwn (fLst (fNil)) 2) (gSeq (gFor (fRng1 (fCons (fVar 1) (fNil))) (uName 3) (gDrop (fMut (fAt 2) (fCons (fCall Γ 5 (fCons (fVar 0) (fCons (fOp2 (fAt 3) (fLoc (M.pure (.int 1))) addP) (fNil)))) (fCons (fVar 3) (fNil))) insertM))) (gRetN 2))
def F__law_drawn : Fd := ⟨"_law_drawn", 2, 4, b__law_drawn⟩
def b__law_pattern (Γ : Env) : M Fl := gSeq (gAsg (fCut (fLoc (fCall Γ 6 (fCons (fVar 0) (fCons (fLst (fCons (M.pure (.str s_ABCDEFG)) (fCons (M.pure (.str s_GFEDCBA)) (fCons (M.pure (.str s_XAZBYCQ)) (fCons (M.pure (.str s_MNOPQRS)) (fNil)))))) (fNil))))) (fNone) (fSome (fVar 2))) (uName 3)) (gSeq (gPar 8 9 (fCons (fOp2 (fLoc (M.pure (.int 1))) (fLoc (fCall Γ 5 (fCons (fVar 0) (fCons (fVar 1) (fNil))))) addP) (fCons (fCall Γ 5 (fCons (fVar 0) (fCons (M.pure (.int 4)) (fNil)))) (fNil)))) (gSeq (gIf (asB (fOp2 (fAt 9) (fLoc (M.pure (.int 0))) eqP)) (gRet (fMeth' 0 (fLoc (M.pure (.str []))) (fOCons (fLoc (fComp (fRng1 (fCons (fVar 8) (fNil))) [11] (uName 11) (tYesM) (fCall Γ 6 (fCons (fVar 0) (fCons (fVar 3) (fNil)))))) (fONil)) joinP)) (gNx)) (gSeq (gAsg (M.pure (.str [])) (uName 4)) (gSeq (gFor (fSeq (fCut (fAt 3) (fNone) (fSome (fOp2 (fLoc (M.pure (.int 1))) (fLoc (fCall Γ 5 (fCons (fVar 0) (fCons (fB (fOCons (fAt 3) (fONil)) lenP) (fNil))))) addP)))) (uName 5) (gAsg (fOp2 (fLoc (fOp2 (fAt 4) (fAt 5) addP)) (fAt 4) addP) (uName 4))) (gSeq (gAsg (fCall Γ 5 (fCons (fVar 0) (fCons (fB (fOCons (fAt 4) (fONil)) lenP) (fNil)))) (uName 6)) (gSeq (gAsg (fCut (fAt 4) (fSome (fVar 6)) (fSome (fOp2 (fAt 6) (fAt 8) addP))) (uName 7)) (gSeq (gIf (asB (fOp2 (fAt 9) (fLoc (M.pure (.int 3))) eqP)) (gSeq (gAsg (fCall Γ 5 (fCons (fVar 0) (fCons (fB (fOCons (fAt 7) (fONil)) lenP) (fNil)))) (uName 10)) (gAsg (fOp2 (fLoc (fOp2 (fLoc (fCut (fAt 7) (fNone) (fSome (fVar 10)))) (fLoc (fCall Γ 6 (fCons (fVar 0) (fCons (fVar 3) (fNil))))) addP)) (fLoc (fCut (fAt 7) (fSome (fOp2 (fAt 10) (fLoc (M.pure (.int 1))) addP)) (fNone))) addP) (uName 7))) (gNx)) (gRetN 7))))))))
def F__law_pattern : Fd := ⟨"_law_pattern", 3, 12, b__law_pattern⟩
def b__law_letters (Γ : Env) : M Fl := gRet (fMeth' 0 (fLoc (M.pure (.str []))) (fOCons (fLoc (fComp (fEnumS (fCons (fVar 0) (fNil))) [1, 2] (uTup 2 (uCons (uName 1) (uCons (uName 2) (uNil)))) (asB (fOp2 (fAt 2) (fLoc (fCut (fAt 0) (fNone) (fSome (fVar 1)))) notInP)) (fVar 2))) (fONil)) joinP)
def F__law_letters : Fd := ⟨"_law_letters", 1, 3, b__law_letters⟩
def b__law_set (Γ : Env) : M Fl := gRet (fMeth' 0 (fLoc (M.pure (.str []))) (fOCons (fLoc (fB (fOCons (fAt 0) (fONil)) sortSetP)) (fONil)) joinP)
def F__law_set : Fd := ⟨"_law_set", 1, 1, b__law_set⟩
def b__law_bad_pattern (Γ : Env) : M Fl := gSeq (gAsg (fCall Γ 5 (fCons (fVar 0) (fCons (fOp2 (fLoc (fB (fOCons (fAt 1) (fONil)) lenP)) (fLoc (M.pure (.int 1))) addP) (fNil)))) (uName 2)) (gSeq (gAsg (fOp2 (fLoc (fOp2 (fLoc (fCut (fAt 1) (fNone) (fSome (fVar 2)))) (fLoc (fCall Γ 6 (fCons (fVar 0) (fCons (fLst (fCons (M.pure (.str [32])) (fCons (M.pure (.str [97])) (fCons (M.pure (.str [49])) (fCons (M.pure (.str [45])) (fCons (M.pure (.str [91])) (fCons (M.pure (.str [64])) (fNil)))))))) (fNil))))) addP)) (fLoc (fCut (fAt 1) (fSome (fOp2 (fAt 2) (fLoc (M.pure (.int 1))) addP)) (fNone))) addP) (uName 3)) (gSeq (gOwn (fLst (fCons (M.pure (.str [])) (fCons (fMeth' 0 (fAt 1) fONil (caseP lo1)) (fCons (fOp2 (fAt 1) (fLoc (M.pure (.str [97]))) addP) (fCons (fOp2 (fLoc (M.pure (.str [32]))) (fAt 1) addP) (fCons (M.pure .non) (fCons (M.pure (.int 7)) (fCons (M.pure (.bl true)) (fCons (fTup (fCons (fVar 1) (fNil))) (fCons (fLst (fCons (fVar 1) (fNil))) (fCons (fB (fOCons (fAt 1) (fONil)) listP') (fNil)))))))))))) 4) (gRetCall Γ 6 (fCons (fVar 0) (fCons (fOp2 (fAt 4) (fLoc (fLst (fCons (fVar 3) (fCons (fVar 3) (fCons (M.pure (.str s_ABCDEFGH)) (fCons (fOp2 (fLoc (M.pure (.str [65]))) (fLoc (M.pure (.int 21))) mulP) (fCons (fOp2 (fAt 1) (fLoc (M.pure (.str [49]))) addP) (fCons (M.pure (.str s_5)) (fNil))))))))) addP) (fNil))))))
def F__law_bad_pattern : Fd := ⟨"_law_bad_pattern", 2, 5, b__law_bad_pattern⟩
def b__law_renamed (Γ : Env) : M Fl := gRet (fMeth' 0 (fLoc (M.pure (.str []))) (fOCons (fLoc (fComp (fSeq (fVar 0)) [3] (uName 3) (tYesM) (fIx (fAt 2) (fLoc (fMeth2 (fAt 1) (fOCons (fAt 3) (fONil)) indexSP indexLP))))) (fONil)) joinP)
def F__law_renamed : Fd := ⟨"_law_renamed", 3, 4, b__law_renamed⟩
def b_law (Γ : Env) : M Fl := gSeq (gAsg (fCall Γ 9 (fCons (fVar 0) (fNil))) (uName 1)) (gSeq (gFor (fRng1 (fCons (M.pure (.int 5)) (fNil))) (uName 2) (gSeq (gAsg (fCall Γ 10 (fCons (fCall Γ 11 (fCons (fVar 1) (fNil))) (fCons (M.pure (.int 20)) (fCons (M.pure (.int 7)) (fNil))))) (uName 3)) (gSeq (gPar 12 13 (fCons (fCall Γ 83 (fCons (fVar 3) (fNil))) (fCons (fCall Γ 84 (fCons (fVar 3) (fNil))) (fNil)))) (gSeq (gAsg (fCall Γ 8 (fCons (fVar 3) (fNil))) (uName 4)) (gSeq (gFor (fRng1 (fCons (M.pure (.int 2)) (fNil))) (uName 5) (gIf (asB (fOp2 (fLoc (fB (fOCons (fLoc (fMeth' 0 (fLoc (M.pure (.str []))) (fOCons (fLoc (fComp (fSeq (fVar 12)) [14] (uName 14) (tYesM) (fIx (fAt 14) (fAt 5)))) (fONil)) joinP)) (fONil)) sortedP')) (fLoc (fB (fOCons (fAt 4) (fONil)) sortedP')) neP)) (gRet (M.pure (.bl false))) (gNx))) (gSeq (gOwn (fComp (fSeq (fCall Γ 83 (fCons (fRev (fVar 3)) (fNil)))) [14] (uName 14) (tYesM) (fTup (fCons (fIx (fAt 14) (fLoc (M.pure (.int 1)))) (fCons (fIx (fAt 14) (fLoc (M.pure (.int 0)))) (fNil))))) 6) (gSeq (gIf (fOr (asB (fOp2 (fLoc (fB (fOCons (fAt 6) (fONil)) sortedP')) (fAt 12) neP)) (asB (fOp2 (fLoc (fCall Γ 84 (fCons (fRev (fVar 3)) (fNil)))) (fAt 13) neP))) (gRet (M.pure (.bl false))) (gNx)) (gSeq (gAsg (fCall Γ 6 (fCons (fVar 1) (fCons (fLst (fCons (M.pure (.str s_HIJKLMN)) (fCons (M.pure (.str s_TUVWXYZ)) (fCons (M.pure (.str s_GFEDCBA)) (fNil))))) (fNil)))) (uName 7)) (gSeq (gOwn (fComp (fSeq (fCall Γ 7 (fCons (fVar 1) (fCons (fB (fOCons (fAt 4) (fONil)) lenP) (fNil))))) [15] (uName 15) (tYesM) (fIx (fAt 7) (fAt 15))) 8) (gSeq (gAsg (fCall Γ 13 (fCons (fVar 3) (fCons (fVar 4) (fCons (fVar 8) (fNil))))) (uName 9)) (gSeq (gOwn (fComp (fSeq (fVar 13)) [11] (uName 11) (tYesM) (fCall Γ 41 (fCons (fCall Γ 13 (fCons (fVar 11) (fCons (fVar 4) (fCons (fVar 8) (fNil))))) (fNil)))) 10) (gSeq (gIf (asB (fOp2 (fLoc (fB (fOCons (fLoc (fCall Γ 84 (fCons (fVar 9) (fNil)))) (fONil)) sortedP')) (fLoc (fB (fOCons (fAt 10) (fONil)) sortedP')) neP)) (gRet (M.pure (.bl false))) (gNx)) (gFor (fSeq (fCut (fAt 13) (fSome (fNeg (M.pure (.int 3)))) (fNone))) (uName 11) (gSeq (gIf (asB (fOp2 (fLoc (fComp (fSeq (fVar 11)) [16] (uName 16) (fNot (asB (fCall Γ 235 (fCons (fVar 3) (fCons (fVar 16) (fNil)))))) (fVar 16))) (fLoc (fLst (fNil))) neP)) (gRet (M.pure (.bl false))) (gNx)) (gIf (asB (fOp2 (fLoc (fComp (fRng1 (fCons (fOp2 (fLoc (fB (fOCons (fAt 3) (fONil)) lenP)) (fLoc (M.pure (.int 1))) subP) (fNil))) [15] (uName 15) (fAnd (asB (fOp2 (fLoc (fIx (fAt 3) (fAt 15))) (fAt 11) inP)) (asB (fOp2 (fLoc (fIx (fAt 3) (fLoc (fOp2 (fAt 15) (fLoc (M.pure (.int 1))) addP)))) (fAt 11) inP))) (fVar 15))) (fLoc (fLst (fNil))) neP)) (gRet (M.pure (.bl false))) (gNx)))))))))))))))) (gRet (M.pure (.bl true))))
def F_law : Fd := ⟨"law", 1, 17, b_law⟩
def T : Table := fun n => match n with
  | 1 => some F_find_letters
  | 2 => some F_is_pattern
  | 3 => some F_require_pattern
  | 4 => some F__law_spread
  | 5 => some F__law_take
  | 6 => some F__law_one
  | 7 => some F__law_drawn
  | 8 => some F__law_letters
  | 9 => some F__law_open
  | 10 => some F__law_pattern
  | 11 => some F__law_anew
  | 13 => some F__law_renamed
  | 31 => some F_find_joins
  | 32 => some F_merge
  | 33 => some F_find_components
  | 36 => some F_all_sets
  | 41 => some F__law_set
  | 78 => some F_shares
  | 79 => some F_is_letter_set
  | 80 => some F_require_letters
  | 81 => some F_is_free_set
  | 82 => some F_find_free_sets
  | 83 => some F_joined
  | 84 => some F_free_sets
  | 161 => some F__law_bad_pattern
  | 235 => some F_is_free
  | 278 => some F_law
  | 303 => some F_size_and_letters
  | _ => none
end Mi
end S_Bd_k16
section S_Pr_k16
set_option Elab.async false
set_option linter.all false
set_option maxRecDepth 100000
set_option maxHeartbeats 4000000
namespace Mi
open PySem PySem.Spec PyProof.Rows L2
def top (i : Nat) : Stmt := PySem.Challenge.pw_surepatterns_k16_whole_free_sets_of_chan.main.body.getD i (.Pass ⟨0, 0, 0, 0⟩)
theorem eq_s_ABCDEFG : Str.ofString "ABCDEFG" = strOf s_ABCDEFG := by decide +kernel
theorem ok_s_ABCDEFG : okS s_ABCDEFG = true := by decide +kernel
theorem eq_s_GFEDCBA : Str.ofString "GFEDCBA" = strOf s_GFEDCBA := by decide +kernel
theorem ok_s_GFEDCBA : okS s_GFEDCBA = true := by decide +kernel
theorem eq_s_XAZBYCQ : Str.ofString "XAZBYCQ" = strOf s_XAZBYCQ := by decide +kernel
theorem ok_s_XAZBYCQ : okS s_XAZBYCQ = true := by decide +kernel
theorem eq_s_MNOPQRS : Str.ofString "MNOPQRS" = strOf s_MNOPQRS := by decide +kernel
theorem ok_s_MNOPQRS : okS s_MNOPQRS = true := by decide +kernel
theorem eq_s_ABCDEFGH : Str.ofString "ABCDEFGH" = strOf s_ABCDEFGH := by decide +kernel
theorem ok_s_ABCDEFGH : okS s_ABCDEFGH = true := by decide +kernel
theorem eq_s_5 : Str.ofString "A\n" = strOf s_5 := by decide +kernel
theorem ok_s_5 : okS s_5 = true := by decide +kernel
theorem eq_s_HIJKLMN : Str.ofString "HIJKLMN" = strOf s_HIJKLMN := by decide +kernel
theorem ok_s_HIJKLMN : okS s_HIJKLMN = true := by decide +kernel
theorem eq_s_TUVWXYZ : Str.ofString "TUVWXYZ" = strOf s_TUVWXYZ := by decide +kernel
theorem ok_s_TUVWXYZ : okS s_TUVWXYZ = true := by decide +kernel
theorem eq_c32 : Str.ofString " " = strOf [32] := by decide +kernel
theorem ok_c32 : okS [32] = true := by decide +kernel
theorem eq_c45 : Str.ofString "-" = strOf [45] := by decide +kernel
theorem ok_c45 : okS [45] = true := by decide +kernel
theorem eq_c49 : Str.ofString "1" = strOf [49] := by decide +kernel
theorem ok_c49 : okS [49] = true := by decide +kernel
theorem eq_c64 : Str.ofString "@" = strOf [64] := by decide +kernel
theorem ok_c64 : okS [64] = true := by decide +kernel
theorem eq_c65 : Str.ofString "A" = strOf [65] := by decide +kernel
theorem ok_c65 : okS [65] = true := by decide +kernel
theorem eq_c91 : Str.ofString "[" = strOf [91] := by decide +kernel
theorem ok_c91 : okS [91] = true := by decide +kernel
theorem eq_c97 : Str.ofString "a" = strOf [97] := by decide +kernel
theorem ok_c97 : okS [97] = true := by decide +kernel
structure Glob (K : PySem.W.Frag) (mg : Str → Option Value) (D : Stat) : Prop where
  b_all : mg "all" = none
  b_any : mg "any" = none
  b_enumerate : mg "enumerate" = none
  b_isinstance : mg "isinstance" = none
  b_len : mg "len" = none
  b_list : mg "list" = none
  b_range : mg "range" = none
  b_set : mg "set" = none
  b_sorted : mg "sorted" = none
  b_str : mg "str" = none
  c_CAPITALS : ∃ t, mg "CAPITALS" = some (.str (strOf cCAPS) t)
  c_LONGEST_PATTERN : ∃ t, mg "LONGEST_PATTERN" = some (.int 20 t)
  c_MOST_LETTERS : ∃ t, mg "MOST_LETTERS" = some (.int 7 t)
  x_InvalidLetters : ExcOk K mg D "InvalidLetters" 8
  x_InvalidPattern : ExcOk K mg D "InvalidPattern" 1
  kn_size_and_letters : mg "size_and_letters" = some (.ref (D.fa 303))
  k_size_and_letters : ∀ (P : Program) (w : World) (base : Heap), KeyRun P w K mg base (D.fa 303)
  cx : chkX K D.ca anc xks = true
abbrev N_find_letters : List Str := ["pattern", "found", "letter"]
theorem sc_find_letters : FnScope N_find_letters ["pattern"] (defScope (top 8)) := ⟨rfl, rfl, rfl, by decide +kernel, rfl, by decide +kernel, by decide +kernel⟩
theorem d_find_letters {P : Program} {w : World} {K : PySem.W.Frag} {mg : Str → Option Value} {base : Heap} {D : Stat} {Γ : Env} {d lvl : Nat} {f : Addr} {cdv : Value} {A : Around} {outer : List PySem.Env} {s : Shared} {H : Hp} {E : XK}
    (z : Glob K mg D) (hD : D.K = K) (hr : Room d (A.deeper (envOfC "find_letters" (defScope (top 8)) s.heap.objs.size f cdv))) (hgd : (A.deeper (envOfC "find_letters" (defScope (top 8)) s.heap.objs.size f cdv)).guards = some []) (hc : Calls P w K mg base (A.deeper (envOfC "find_letters" (defScope (top 8)) s.heap.objs.size f cdv)) D (lvl + 1) Γ T) :
    PSs (cxOf (L2.CX P w) P w K mg base N_find_letters "find_letters" (defScope (top 8)) f cdv A outer s H E) (defBody (top 8)) (tS D lvl (fun cls d _ H => E cls d H) (b_find_letters Γ)) := by
  have hu : (cxOf (L2.CX P w) P w K mg base N_find_letters "find_letters" (defScope (top 8)) f cdv A outer s H E).A.units + 64 < cLine := hr.units
  have hdp : (cxOf (L2.CX P w) P w K mg base N_find_letters "find_letters" (defScope (top 8)) f cdv A outer s H E).A.depth + 5 < recursionLimit := (by have := hr.dp; omega : (A.deeper (envOfC "find_letters" (defScope (top 8)) s.heap.objs.size f cdv)).depth + 5 < recursionLimit)
  have hh : (cxOf (L2.CX P w) P w K mg base N_find_letters "find_letters" (defScope (top 8)) f cdv A outer s H E).A.handled = none := hr.hd
  have hu1 : (cxOf (L2.CX P w) P w K mg base N_find_letters "find_letters" (defScope (top 8)) f cdv A outer s H E).A.units + 65 < cLine := (by have := hr.un; omega : (A.deeper (envOfC "find_letters" (defScope (top 8)) s.heap.objs.size f cdv)).units + 65 < cLine)
  have hu0 : (cxOf (L2.CX P w) P w K mg base N_find_letters "find_letters" (defScope (top 8)) f cdv A outer s H E).A.units + 1 < cLine := hu_of hr
  have tk : Takes (cxOf (L2.CX P w) P w K mg base N_find_letters "find_letters" (defScope (top 8)) f cdv A outer s H E) (fun cls d _ H => E cls d H) := takes_of rfl rfl rfl rfl
  have hp : PassesOwn (model P w) (cxOf (L2.CX P w) P w K mg base N_find_letters "find_letters" (defScope (top 8)) f cdv A outer s H E).A (cxOf (L2.CX P w) P w K mg base N_find_letters "find_letters" (defScope (top 8)) f cdv A outer s H E).env (cxOf (L2.CX P w) P w K mg base N_find_letters "find_letters" (defScope (top 8)) f cdv A outer s H E).xe := passes_of rfl
  exact sss_cons (ss_own (fun _ h => ps_set (i := 1) sc_find_letters.nd rfl (by first | exact Or.inl rfl | exact Or.inr rfl) h) (sf_lst (sa_nil))) (sss_cons (ss_for (ws := [2]) hp rfl (si_seq (se_var (pv 0))) (sg_name (pg_name (i := 2) sc_find_letters.nd rfl (by first | exact Or.inl rfl | exact Or.inr rfl))) (sss_one (ss_if (st_cmp (ops_notIn hu1) (so_var (pv 2)) (so_var (pv 1)) (by with_unfolding_all rfl)) (sss_one (ss_expr (se_mut mu_append PySem.F.slot_list_append PySem.F.type_list_append (so_var (pv 1)) (sa_cons (se_var (pv 2)) (sa_nil))))) (sss_nil)))) (sss_one (ss_ret (se_meth (.inl ⟨rfl, rfl⟩) ms_join PySem.F.plainAttrs_str PySem.F.slot_str_join PySem.F.type_str_join (so_of (se_str eq_empty ok_empty)) (so_cons (so_var (pv 1)) (so_nil))))))
abbrev N_is_pattern : List Str := ["value", "letter"]
theorem sc_is_pattern : FnScope N_is_pattern ["value"] (defScope (top 9)) := ⟨rfl, rfl, rfl, by decide +kernel, rfl, by decide +kernel, by decide +kernel⟩
theorem d_is_pattern {P : Program} {w : World} {K : PySem.W.Frag} {mg : Str → Option Value} {base : Heap} {D : Stat} {Γ : Env} {d lvl : Nat} {f : Addr} {cdv : Value} {A : Around} {outer : List PySem.Env} {s : Shared} {H : Hp} {E : XK}
    (z : Glob K mg D) (hD : D.K = K) (hr : Room d (A.deeper (envOfC "is_pattern" (defScope (top 9)) s.heap.objs.size f cdv))) (hgd : (A.deeper (envOfC "is_pattern" (defScope (top 9)) s.heap.objs.size f cdv)).guards = some []) (hc : Calls P w K mg base (A.deeper (envOfC "is_pattern" (defScope (top 9)) s.heap.objs.size f cdv)) D (lvl + 1) Γ T) :
    PSs (cxOf (L2.CX P w) P w K mg base N_is_pattern "is_pattern" (defScope (top 9)) f cdv A outer s H E) (defBody (top 9)) (tS D lvl (fun cls d _ H => E cls d H) (b_is_pattern Γ)) := by
  have hu : (cxOf (L2.CX P w) P w K mg base N_is_pattern "is_pattern" (defScope (top 9)) f cdv A outer s H E).A.units + 64 < cLine := hr.units
  have hdp : (cxOf (L2.CX P w) P w K mg base N_is_pattern "is_pattern" (defScope (top 9)) f cdv A outer s H E).A.depth + 5 < recursionLimit := (by have := hr.dp; omega : (A.deeper (envOfC "is_pattern" (defScope (top 9)) s.heap.objs.size f cdv)).depth + 5 < recursionLimit)
  have hh : (cxOf (L2.CX P w) P w K mg base N_is_pattern "is_pattern" (defScope (top 9)) f cdv A outer s H E).A.handled = none := hr.hd
  have hu1 : (cxOf (L2.CX P w) P w K mg base N_is_pattern "is_pattern" (defScope (top 9)) f cdv A outer s H E).A.units + 65 < cLine := (by have := hr.un; omega : (A.deeper (envOfC "is_pattern" (defScope (top 9)) s.heap.objs.size f cdv)).units + 65 < cLine)
  have hu0 : (cxOf (L2.CX P w) P w K mg base N_is_pattern "is_pattern" (defScope (top 9)) f cdv A outer s H E).A.units + 1 < cLine := hu_of hr
  have tk : Takes (cxOf (L2.CX P w) P w K mg base N_is_pattern "is_pattern" (defScope (top 9)) f cdv A outer s H E) (fun cls d _ H => E cls d H) := takes_of rfl rfl rfl rfl
  have hp : PassesOwn (model P w) (cxOf (L2.CX P w) P w K mg base N_is_pattern "is_pattern" (defScope (top 9)) f cdv A outer s H E).A (cxOf (L2.CX P w) P w K mg base N_is_pattern "is_pattern" (defScope (top 9)) f cdv A outer s H E).env (cxOf (L2.CX P w) P w K mg base N_is_pattern "is_pattern" (defScope (top 9)) f cdv A outer s H E).xe := passes_of rfl
  exact sss_cons (ss_if (PW.pt (sw_or (st_not (st_val (se_isi (t := 3) (by decide) rfl z.b_isinstance rfl z.b_str boot_str (so_var (pv 0))))) (sw_or1 (st_not (st_chain ops_le ops_le (so_of (se_int)) (so_of (se_b cs_len rfl z.b_len boot_len (so_cons (so_var (pv 0)) (so_nil)))) (so_of (se_gint rfl z.c_LONGEST_PATTERN))))))) (sss_one (ss_ret (se_bl))) (sss_nil)) (sss_one (ss_ret (se_and (se_b (cs_all rfl) rfl z.b_all boot_all (so_cons (so_of (se_of (sf_lc (own := [("letter", 1)]) rfl rfl sc_is_pattern.nd (si_seq (se_var (pv 0))) (blkOk_by (N := N_is_pattern) (sc := defScope (top 9)) (by decide +kernel)) (fun _ _ _ _ _ => sg_name (pg_name (i := 1) sc_is_pattern.nd rfl (by first | exact Or.inl rfl | exact Or.inr rfl))) (fun _ _ _ _ _ => sts_nil) (fun _ _ _ _ _ => se_cmp (ops_in hu1) (so_var (pv 1)) (so_of (se_gstr rfl z.c_CAPITALS ok_cCAPS)) (by with_unfolding_all rfl))))) (so_nil))) (se_one (se_cmp ops_le (so_of (se_b cs_len rfl z.b_len boot_len (so_cons (so_of (se_call (hc 1 _ rfl) tk rfl (sa_cons (se_var (pv 0)) (sa_nil)) (hl := (len_cons (fun _ _ _ => len_nil))))) (so_nil)))) (so_of (se_gint rfl z.c_MOST_LETTERS)) (nomark _))))))
abbrev N_require_pattern : List Str := ["value"]
theorem sc_require_pattern : FnScope N_require_pattern ["value"] (defScope (top 10)) := ⟨rfl, rfl, rfl, by decide +kernel, rfl, by decide +kernel, by decide +kernel⟩
theorem d_require_pattern {P : Program} {w : World} {K : PySem.W.Frag} {mg : Str → Option Value} {base : Heap} {D : Stat} {Γ : Env} {d lvl : Nat} {f : Addr} {cdv : Value} {A : Around} {outer : List PySem.Env} {s : Shared} {H : Hp} {E : XK}
    (z : Glob K mg D) (hD : D.K = K) (hr : Room d (A.deeper (envOfC "require_pattern" (defScope (top 10)) s.heap.objs.size f cdv))) (hgd : (A.deeper (envOfC "require_pattern" (defScope (top 10)) s.heap.objs.size f cdv)).guards = some []) (hc : Calls P w K mg base (A.deeper (envOfC "require_pattern" (defScope (top 10)) s.heap.objs.size f cdv)) D (lvl + 1) Γ T) :
    PSs (cxOf (L2.CX P w) P w K mg base N_require_pattern "require_pattern" (defScope (top 10)) f cdv A outer s H E) (defBody (top 10)) (tS D lvl (fun cls d _ H => E cls d H) (b_require_pattern Γ)) := by
  have hu : (cxOf (L2.CX P w) P w K mg base N_require_pattern "require_pattern" (defScope (top 10)) f cdv A outer s H E).A.units + 64 < cLine := hr.units
  have hdp : (cxOf (L2.CX P w) P w K mg base N_require_pattern "require_pattern" (defScope (top 10)) f cdv A outer s H E).A.depth + 5 < recursionLimit := (by have := hr.dp; omega : (A.deeper (envOfC "require_pattern" (defScope (top 10)) s.heap.objs.size f cdv)).depth + 5 < recursionLimit)
  have hh : (cxOf (L2.CX P w) P w K mg base N_require_pattern "require_pattern" (defScope (top 10)) f cdv A outer s H E).A.handled = none := hr.hd
  have hu1 : (cxOf (L2.CX P w) P w K mg base N_require_pattern "require_pattern" (defScope (top 10)) f cdv A outer s H E).A.units + 65 < cLine := (by have := hr.un; omega : (A.deeper (envOfC "require_pattern" (defScope (top 10)) s.heap.objs.size f cdv)).units + 65 < cLine)
  have hu0 : (cxOf (L2.CX P w) P w K mg base N_require_pattern "require_pattern" (defScope (top 10)) f cdv A outer s H E).A.units + 1 < cLine := hu_of hr
  have tk : Takes (cxOf (L2.CX P w) P w K mg base N_require_pattern "require_pattern" (defScope (top 10)) f cdv A outer s H E) (fun cls d _ H => E cls d H) := takes_of rfl rfl rfl rfl
  have hp : PassesOwn (model P w) (cxOf (L2.CX P w) P w K mg base N_require_pattern "require_pattern" (defScope (top 10)) f cdv A outer s H E).A (cxOf (L2.CX P w) P w K mg base N_require_pattern "require_pattern" (defScope (top 10)) f cdv A outer s H E).env (cxOf (L2.CX P w) P w K mg base N_require_pattern "require_pattern" (defScope (top 10)) f cdv A outer s H E).xe := passes_of rfl
  exact sss_one (ss_if (st_not (st_val (se_call (hc 2 _ rfl) tk rfl (sa_cons (se_var (pv 0)) (sa_nil)) (hl := (len_cons (fun _ _ _ => len_nil)))))) (sss_one (ss_raise z.x_InvalidPattern rfl tk rfl)) (sss_nil))
abbrev N_find_joins : List Str := ["pattern", "index"]
theorem sc_find_joins : FnScope N_find_joins ["pattern"] (defScope (top 12)) := ⟨rfl, rfl, rfl, by decide +kernel, rfl, by decide +kernel, by decide +kernel⟩
theorem d_find_joins {P : Program} {w : World} {K : PySem.W.Frag} {mg : Str → Option Value} {base : Heap} {D : Stat} {Γ : Env} {d lvl : Nat} {f : Addr} {cdv : Value} {A : Around} {outer : List PySem.Env} {s : Shared} {H : Hp} {E : XK}
    (z : Glob K mg D) (hD : D.K = K) (hr : Room d (A.deeper (envOfC "find_joins" (defScope (top 12)) s.heap.objs.size f cdv))) (hgd : (A.deeper (envOfC "find_joins" (defScope (top 12)) s.heap.objs.size f cdv)).guards = some []) (hc : Calls P w K mg base (A.deeper (envOfC "find_joins" (defScope (top 12)) s.heap.objs.size f cdv)) D (lvl + 1) Γ T) :
    PSs (cxOf (L2.CX P w) P w K mg base N_find_joins "find_joins" (defScope (top 12)) f cdv A outer s H E) (defBody (top 12)) (tS D lvl (fun cls d _ H => E cls d H) (b_find_joins Γ)) := by
  have hu : (cxOf (L2.CX P w) P w K mg base N_find_joins "find_joins" (defScope (top 12)) f cdv A outer s H E).A.units + 64 < cLine := hr.units
  have hdp : (cxOf (L2.CX P w) P w K mg base N_find_joins "find_joins" (defScope (top 12)) f cdv A outer s H E).A.depth + 5 < recursionLimit := (by have := hr.dp; omega : (A.deeper (envOfC "find_joins" (defScope (top 12)) s.heap.objs.size f cdv)).depth + 5 < recursionLimit)
  have hh : (cxOf (L2.CX P w) P w K mg base N_find_joins "find_joins" (defScope (top 12)) f cdv A outer s H E).A.handled = none := hr.hd
  have hu1 : (cxOf (L2.CX P w) P w K mg base N_find_joins "find_joins" (defScope (top 12)) f cdv A outer s H E).A.units + 65 < cLine := (by have := hr.un; omega : (A.deeper (envOfC "find_joins" (defScope (top 12)) s.heap.objs.size f cdv)).units + 65 < cLine)
  have hu0 : (cxOf (L2.CX P w) P w K mg base N_find_joins "find_joins" (defScope (top 12)) f cdv A outer s H E).A.units + 1 < cLine := hu_of hr
  have tk : Takes (cxOf (L2.CX P w) P w K mg base N_find_joins "find_joins" (defScope (top 12)) f cdv A outer s H E) (fun cls d _ H => E cls d H) := takes_of rfl rfl rfl rfl
  have hp : PassesOwn (model P w) (cxOf (L2.CX P w) P w K mg base N_find_joins "find_joins" (defScope (top 12)) f cdv A outer s H E).A (cxOf (L2.CX P w) P w K mg base N_find_joins "find_joins" (defScope (top 12)) f cdv A outer s H E).env (cxOf (L2.CX P w) P w K mg base N_find_joins "find_joins" (defScope (top 12)) f cdv A outer s H E).xe := passes_of rfl
  exact sss_one (ss_retF (sf_sortSet rfl hu rfl z.b_sorted rfl z.b_set (so_cons (so_of (se_of (sf_lc (own := [("index", 1)]) rfl rfl sc_find_joins.nd (si_range1 rfl z.b_range (sa_cons (se_bin ops_sub (so_of (se_b cs_len rfl z.b_len boot_len (so_cons (so_var (pv 0)) (so_nil)))) (so_of (se_int))) (sa_nil))) (blkOk_by (N := N_find_joins) (sc := defScope (top 12)) (by decide +kernel)) (fun _ _ _ _ _ => sg_name (pg_name (i := 1) sc_find_joins.nd rfl (by first | exact Or.inl rfl | exact Or.inr rfl))) (fun _ _ _ _ _ => sts_nil) (fun _ _ _ _ _ => se_cut hD (so_var (pv 0)) (sp_some (se_var (pv 1))) (sp_some (se_bin ops_add (so_var (pv 1)) (so_of (se_int)))))))) (so_nil))))
abbrev N_merge : List Str := ["components", "pair", "rest", "component", "ends", "beginnings"]
theorem sc_merge : FnScope N_merge ["components", "pair"] (defScope (top 13)) := ⟨rfl, rfl, rfl, by decide +kernel, rfl, by decide +kernel, by decide +kernel⟩
theorem d_merge {P : Program} {w : World} {K : PySem.W.Frag} {mg : Str → Option Value} {base : Heap} {D : Stat} {Γ : Env} {d lvl : Nat} {f : Addr} {cdv : Value} {A : Around} {outer : List PySem.Env} {s : Shared} {H : Hp} {E : XK}
    (z : Glob K mg D) (hD : D.K = K) (hr : Room d (A.deeper (envOfC "merge" (defScope (top 13)) s.heap.objs.size f cdv))) (hgd : (A.deeper (envOfC "merge" (defScope (top 13)) s.heap.objs.size f cdv)).guards = some []) (hc : Calls P w K mg base (A.deeper (envOfC "merge" (defScope (top 13)) s.heap.objs.size f cdv)) D (lvl + 1) Γ T) :
    PSs (cxOf (L2.CX P w) P w K mg base N_merge "merge" (defScope (top 13)) f cdv A outer s H E) (defBody (top 13)) (tS D lvl (fun cls d _ H => E cls d H) (b_merge Γ)) := by
  have hu : (cxOf (L2.CX P w) P w K mg base N_merge "merge" (defScope (top 13)) f cdv A outer s H E).A.units + 64 < cLine := hr.units
  have hdp : (cxOf (L2.CX P w) P w K mg base N_merge "merge" (defScope (top 13)) f cdv A outer s H E).A.depth + 5 < recursionLimit := (by have := hr.dp; omega : (A.deeper (envOfC "merge" (defScope (top 13)) s.heap.objs.size f cdv)).depth + 5 < recursionLimit)
  have hh : (cxOf (L2.CX P w) P w K mg base N_merge "merge" (defScope (top 13)) f cdv A outer s H E).A.handled = none := hr.hd
  have hu1 : (cxOf (L2.CX P w) P w K mg base N_merge "merge" (defScope (top 13)) f cdv A outer s H E).A.units + 65 < cLine := (by have := hr.un; omega : (A.deeper (envOfC "merge" (defScope (top 13)) s.heap.objs.size f cdv)).units + 65 < cLine)
  have hu0 : (cxOf (L2.CX P w) P w K mg base N_merge "merge" (defScope (top 13)) f cdv A outer s H E).A.units + 1 < cLine := hu_of hr
  have tk : Takes (cxOf (L2.CX P w) P w K mg base N_merge "merge" (defScope (top 13)) f cdv A outer s H E) (fun cls d _ H => E cls d H) := takes_of rfl rfl rfl rfl
  have hp : PassesOwn (model P w) (cxOf (L2.CX P w) P w K mg base N_merge "merge" (defScope (top 13)) f cdv A outer s H E).A (cxOf (L2.CX P w) P w K mg base N_merge "merge" (defScope (top 13)) f cdv A outer s H E).env (cxOf (L2.CX P w) P w K mg base N_merge "merge" (defScope (top 13)) f cdv A outer s H E).xe := passes_of rfl
  exact sss_cons (ss_asg (ws := [4, 5]) (se_tup (sa_cons (se_str eq_empty ok_empty) (sa_cons (se_str eq_empty ok_empty) (sa_nil)))) (sg_tup rfl (sgs_cons (sg_name (pg_name (i := 4) sc_merge.nd rfl (by first | exact Or.inl rfl | exact Or.inr rfl))) (sgs_cons (sg_name (pg_name (i := 5) sc_merge.nd rfl (by first | exact Or.inl rfl | exact Or.inr rfl))) (sgs_nil))))) (sss_cons (ss_own (fun _ h => ps_set (i := 2) sc_merge.nd rfl (by first | exact Or.inl rfl | exact Or.inr rfl) h) (sf_lst (sa_nil))) (sss_cons (ss_for (ws := [3]) hp rfl (si_seq (se_var (pv 0))) (sg_name (pg_name (i := 3) sc_merge.nd rfl (by first | exact Or.inl rfl | exact Or.inr rfl))) (sss_one (ss_if (PW.pt (sw_or (st_cmp (ops_in hu1) (so_of (se_ix hu0 (so_var (pv 1)) (so_of (se_int)) (fun _ _ => rfl))) (so_of (se_ix hu0 (so_var (pv 3)) (so_of (se_int)) (fun _ _ => rfl))) (by with_unfolding_all rfl)) (sw_or1 (st_cmp (ops_in hu1) (so_of (se_ix hu0 (so_var (pv 1)) (so_of (se_int)) (fun _ _ => rfl))) (so_of (se_ix hu0 (so_var (pv 3)) (so_of (se_int)) (fun _ _ => rfl))) (by with_unfolding_all rfl))))) (sss_cons (ss_set (fun _ h => ps_set (i := 4) sc_merge.nd rfl (by first | exact Or.inl rfl | exact Or.inr rfl) h) (se_bin ops_add (so_var (pv 4)) (so_of (se_ix hu0 (so_var (pv 3)) (so_of (se_int)) (fun _ _ => rfl))))) (sss_one (ss_set (fun _ h => ps_set (i := 5) sc_merge.nd rfl (by first | exact Or.inl rfl | exact Or.inr rfl) h) (se_bin ops_add (so_var (pv 5)) (so_of (se_ix hu0 (so_var (pv 3)) (so_of (se_int)) (fun _ _ => rfl))))))) (sss_one (ss_expr (se_mut mu_append PySem.F.slot_list_append PySem.F.type_list_append (so_var (pv 2)) (sa_cons (se_var (pv 3)) (sa_nil)))))))) (sss_one (ss_ret (se_bin ops_add (so_var (pv 2)) (so_of (se_of (sf_lst (sa_cons (se_tup (sa_cons (se_var (pv 4)) (sa_cons (se_var (pv 5)) (sa_nil)))) (sa_nil))))))))))
abbrev N_find_components : List Str := ["pattern", "letters", "components", "pair", "letter", "ends", "beginnings"]
theorem sc_find_components : FnScope N_find_components ["pattern"] (defScope (top 14)) := ⟨rfl, rfl, rfl, by decide +kernel, rfl, by decide +kernel, by decide +kernel⟩
theorem d_find_components {P : Program} {w : World} {K : PySem.W.Frag} {mg : Str → Option Value} {base : Heap} {D : Stat} {Γ : Env} {d lvl : Nat} {f : Addr} {cdv : Value} {A : Around} {outer : List PySem.Env} {s : Shared} {H : Hp} {E : XK}
    (z : Glob K mg D) (hD : D.K = K) (hr : Room d (A.deeper (envOfC "find_components" (defScope (top 14)) s.heap.objs.size f cdv))) (hgd : (A.deeper (envOfC "find_components" (defScope (top 14)) s.heap.objs.size f cdv)).guards = some []) (hc : Calls P w K mg base (A.deeper (envOfC "find_components" (defScope (top 14)) s.heap.objs.size f cdv)) D (lvl + 1) Γ T) :
    PSs (cxOf (L2.CX P w) P w K mg base N_find_components "find_components" (defScope (top 14)) f cdv A outer s H E) (defBody (top 14)) (tS D lvl (fun cls d _ H => E cls d H) (b_find_components Γ)) := by
  have hu : (cxOf (L2.CX P w) P w K mg base N_find_components "find_components" (defScope (top 14)) f cdv A outer s H E).A.units + 64 < cLine := hr.units
  have hdp : (cxOf (L2.CX P w) P w K mg base N_find_components "find_components" (defScope (top 14)) f cdv A outer s H E).A.depth + 5 < recursionLimit := (by have := hr.dp; omega : (A.deeper (envOfC "find_components" (defScope (top 14)) s.heap.objs.size f cdv)).depth + 5 < recursionLimit)
  have hh : (cxOf (L2.CX P w) P w K mg base N_find_components "find_components" (defScope (top 14)) f cdv A outer s H E).A.handled = none := hr.hd
  have hu1 : (cxOf (L2.CX P w) P w K mg base N_find_components "find_components" (defScope (top 14)) f cdv A outer s H E).A.units + 65 < cLine := (by have := hr.un; omega : (A.deeper (envOfC "find_components" (defScope (top 14)) s.heap.objs.size f cdv)).units + 65 < cLine)
  have hu0 : (cxOf (L2.CX P w) P w K mg base N_find_components "find_components" (defScope (top 14)) f cdv A outer s H E).A.units + 1 < cLine := hu_of hr
  have tk : Takes (cxOf (L2.CX P w) P w K mg base N_find_components "find_components" (defScope (top 14)) f cdv A outer s H E) (fun cls d _ H => E cls d H) := takes_of rfl rfl rfl rfl
  have hp : PassesOwn (model P w) (cxOf (L2.CX P w) P w K mg base N_find_components "find_components" (defScope (top 14)) f cdv A outer s H E).A (cxOf (L2.CX P w) P w K mg base N_find_components "find_components" (defScope (top 14)) f cdv A outer s H E).env (cxOf (L2.CX P w) P w K mg base N_find_components "find_components" (defScope (top 14)) f cdv A outer s H E).xe := passes_of rfl
  exact sss_cons (ss_set (fun _ h => ps_set (i := 1) sc_find_components.nd rfl (by first | exact Or.inl rfl | exact Or.inr rfl) h) (se_call (hc 1 _ rfl) tk rfl (sa_cons (se_var (pv 0)) (sa_nil)) (hl := (len_cons (fun _ _ _ => len_nil))))) (sss_cons (ss_set (fun _ h => ps_set (i := 2) sc_find_components.nd rfl (by first | exact Or.inl rfl | exact Or.inr rfl) h) (se_bin ops_add (so_of (se_of (sf_lc (own := [("letter", 4)]) rfl rfl sc_find_components.nd (si_seq (se_var (pv 1))) (blkOk_by (N := N_find_components) (sc := defScope (top 14)) (by decide +kernel)) (fun _ _ _ _ _ => sg_name (pg_name (i := 4) sc_find_components.nd rfl (by first | exact Or.inl rfl | exact Or.inr rfl))) (fun _ _ _ _ _ => sts_nil) (fun _ _ _ _ _ => se_tup (sa_cons (se_var (pv 4)) (sa_cons (se_str eq_empty ok_empty) (sa_nil))))))) (so_of (se_of (sf_lc (own := [("letter", 4)]) rfl rfl sc_find_components.nd (si_seq (se_var (pv 1))) (blkOk_by (N := N_find_components) (sc := defScope (top 14)) (by decide +kernel)) (fun _ _ _ _ _ => sg_name (pg_name (i := 4) sc_find_components.nd rfl (by first | exact Or.inl rfl | exact Or.inr rfl))) (fun _ _ _ _ _ => sts_nil) (fun _ _ _ _ _ => se_tup (sa_cons (se_str eq_empty ok_empty) (sa_cons (se_var (pv 4)) (sa_nil))))))))) (sss_cons (ss_for (ws := [3]) hp rfl (si_seq (se_call (hc 31 _ rfl) tk rfl (sa_cons (se_var (pv 0)) (sa_nil)) (hl := (len_cons (fun _ _ _ => len_nil))))) (sg_name (pg_name (i := 3) sc_find_components.nd rfl (by first | exact Or.inl rfl | exact Or.inr rfl))) (sss_one (ss_set (fun _ h => ps_set (i := 2) sc_find_components.nd rfl (by first | exact Or.inl rfl | exact Or.inr rfl) h) (se_call (hc 32 _ rfl) tk rfl (sa_cons (se_var (pv 2)) (sa_cons (se_var (pv 3)) (sa_nil))) (hl := (len_cons (len_cons (fun _ _ _ => len_nil)))))))) (sss_one (ss_retF (sf_b (cf_sorted' rfl hu) rfl z.b_sorted boot_sorted' (so_cons (so_of (se_of (sf_lc (own := [("ends", 5), ("beginnings", 6)]) rfl rfl sc_find_components.nd (si_seq (se_var (pv 2))) (blkOk_by (N := N_find_components) (sc := defScope (top 14)) (by decide +kernel)) (fun _ _ _ _ _ => sg_tup rfl (sgs_cons (sg_name (pg_name (i := 5) sc_find_components.nd rfl (by first | exact Or.inl rfl | exact Or.inr rfl))) (sgs_cons (sg_name (pg_name (i := 6) sc_find_components.nd rfl (by first | exact Or.inl rfl | exact Or.inr rfl))) (sgs_nil)))) (fun _ _ _ _ _ => sts_nil) (fun _ _ _ _ _ => se_tup (sa_cons (se_meth (.inl ⟨rfl, rfl⟩) ms_join PySem.F.plainAttrs_str PySem.F.slot_str_join PySem.F.type_str_join (so_of (se_str eq_empty ok_empty)) (so_cons (so_of (se_of (sf_b (cf_sorted' rfl hu) rfl z.b_sorted boot_sorted' (so_cons (so_var (pv 5)) (so_nil))))) (so_nil))) (sa_cons (se_meth (.inl ⟨rfl, rfl⟩) ms_join PySem.F.plainAttrs_str PySem.F.slot_str_join PySem.F.type_str_join (so_of (se_str eq_empty ok_empty)) (so_cons (so_of (se_of (sf_b (cf_sorted' rfl hu) rfl z.b_sorted boot_sorted' (so_cons (so_var (pv 6)) (so_nil))))) (so_nil))) (sa_nil))))))) (so_nil)))))))
abbrev N_shares : List Str := ["first", "second", "letter"]
theorem sc_shares : FnScope N_shares ["first", "second"] (defScope (top 15)) := ⟨rfl, rfl, rfl, by decide +kernel, rfl, by decide +kernel, by decide +kernel⟩
theorem d_shares {P : Program} {w : World} {K : PySem.W.Frag} {mg : Str → Option Value} {base : Heap} {D : Stat} {Γ : Env} {d lvl : Nat} {f : Addr} {cdv : Value} {A : Around} {outer : List PySem.Env} {s : Shared} {H : Hp} {E : XK}
    (z : Glob K mg D) (hD : D.K = K) (hr : Room d (A.deeper (envOfC "shares" (defScope (top 15)) s.heap.objs.size f cdv))) (hgd : (A.deeper (envOfC "shares" (defScope (top 15)) s.heap.objs.size f cdv)).guards = some []) (hc : Calls P w K mg base (A.deeper (envOfC "shares" (defScope (top 15)) s.heap.objs.size f cdv)) D (lvl + 1) Γ T) :
    PSs (cxOf (L2.CX P w) P w K mg base N_shares "shares" (defScope (top 15)) f cdv A outer s H E) (defBody (top 15)) (tS D lvl (fun cls d _ H => E cls d H) (b_shares Γ)) := by
  have hu : (cxOf (L2.CX P w) P w K mg base N_shares "shares" (defScope (top 15)) f cdv A outer s H E).A.units + 64 < cLine := hr.units
  have hdp : (cxOf (L2.CX P w) P w K mg base N_shares "shares" (defScope (top 15)) f cdv A outer s H E).A.depth + 5 < recursionLimit := (by have := hr.dp; omega : (A.deeper (envOfC "shares" (defScope (top 15)) s.heap.objs.size f cdv)).depth + 5 < recursionLimit)
  have hh : (cxOf (L2.CX P w) P w K mg base N_shares "shares" (defScope (top 15)) f cdv A outer s H E).A.handled = none := hr.hd
  have hu1 : (cxOf (L2.CX P w) P w K mg base N_shares "shares" (defScope (top 15)) f cdv A outer s H E).A.units + 65 < cLine := (by have := hr.un; omega : (A.deeper (envOfC "shares" (defScope (top 15)) s.heap.objs.size f cdv)).units + 65 < cLine)
  have hu0 : (cxOf (L2.CX P w) P w K mg base N_shares "shares" (defScope (top 15)) f cdv A outer s H E).A.units + 1 < cLine := hu_of hr
  have tk : Takes (cxOf (L2.CX P w) P w K mg base N_shares "shares" (defScope (top 15)) f cdv A outer s H E) (fun cls d _ H => E cls d H) := takes_of rfl rfl rfl rfl
  have hp : PassesOwn (model P w) (cxOf (L2.CX P w) P w K mg base N_shares "shares" (defScope (top 15)) f cdv A outer s H E).A (cxOf (L2.CX P w) P w K mg base N_shares "shares" (defScope (top 15)) f cdv A outer s H E).env (cxOf (L2.CX P w) P w K mg base N_shares "shares" (defScope (top 15)) f cdv A outer s H E).xe := passes_of rfl
  exact sss_one (ss_ret (se_cmp (ops_ne hu) (so_of (se_of (sf_lc (own := [("letter", 2)]) rfl rfl sc_shares.nd (si_seq (se_var (pv 0))) (blkOk_by (N := N_shares) (sc := defScope (top 15)) (by decide +kernel)) (fun _ _ _ _ _ => sg_name (pg_name (i := 2) sc_shares.nd rfl (by first | exact Or.inl rfl | exact Or.inr rfl))) (fun _ _ _ _ _ => sts_one (st_cmp (ops_in hu1) (so_var (pv 2)) (so_var (pv 1)) (by with_unfolding_all rfl))) (fun _ _ _ _ _ => se_var (pv 2))))) (so_of (se_of (sf_lst (sa_nil)))) (nomark _)))
abbrev N_is_free_set : List Str := ["pattern", "letters", "ends", "beginnings"]
theorem sc_is_free_set : FnScope N_is_free_set ["pattern", "letters"] (defScope (top 16)) := ⟨rfl, rfl, rfl, by decide +kernel, rfl, by decide +kernel, by decide +kernel⟩
theorem d_is_free_set {P : Program} {w : World} {K : PySem.W.Frag} {mg : Str → Option Value} {base : Heap} {D : Stat} {Γ : Env} {d lvl : Nat} {f : Addr} {cdv : Value} {A : Around} {outer : List PySem.Env} {s : Shared} {H : Hp} {E : XK}
    (z : Glob K mg D) (hD : D.K = K) (hr : Room d (A.deeper (envOfC "is_free_set" (defScope (top 16)) s.heap.objs.size f cdv))) (hgd : (A.deeper (envOfC "is_free_set" (defScope (top 16)) s.heap.objs.size f cdv)).guards = some []) (hc : Calls P w K mg base (A.deeper (envOfC "is_free_set" (defScope (top 16)) s.heap.objs.size f cdv)) D (lvl + 1) Γ T) :
    PSs (cxOf (L2.CX P w) P w K mg base N_is_free_set "is_free_set" (defScope (top 16)) f cdv A outer s H E) (defBody (top 16)) (tS D lvl (fun cls d _ H => E cls d H) (b_is_free_set Γ)) := by
  have hu : (cxOf (L2.CX P w) P w K mg base N_is_free_set "is_free_set" (defScope (top 16)) f cdv A outer s H E).A.units + 64 < cLine := hr.units
  have hdp : (cxOf (L2.CX P w) P w K mg base N_is_free_set "is_free_set" (defScope (top 16)) f cdv A outer s H E).A.depth + 5 < recursionLimit := (by have := hr.dp; omega : (A.deeper (envOfC "is_free_set" (defScope (top 16)) s.heap.objs.size f cdv)).depth + 5 < recursionLimit)
  have hh : (cxOf (L2.CX P w) P w K mg base N_is_free_set "is_free_set" (defScope (top 16)) f cdv A outer s H E).A.handled = none := hr.hd
  have hu1 : (cxOf (L2.CX P w) P w K mg base N_is_free_set "is_free_set" (defScope (top 16)) f cdv A outer s H E).A.units + 65 < cLine := (by have := hr.un; omega : (A.deeper (envOfC "is_free_set" (defScope (top 16)) s.heap.objs.size f cdv)).units + 65 < cLine)
  have hu0 : (cxOf (L2.CX P w) P w K mg base N_is_free_set "is_free_set" (defScope (top 16)) f cdv A outer s H E).A.units + 1 < cLine := hu_of hr
  have tk : Takes (cxOf (L2.CX P w) P w K mg base N_is_free_set "is_free_set" (defScope (top 16)) f cdv A outer s H E) (fun cls d _ H => E cls d H) := takes_of rfl rfl rfl rfl
  have hp : PassesOwn (model P w) (cxOf (L2.CX P w) P w K mg base N_is_free_set "is_free_set" (defScope (top 16)) f cdv A outer s H E).A (cxOf (L2.CX P w) P w K mg base N_is_free_set "is_free_set" (defScope (top 16)) f cdv A outer s H E).env (cxOf (L2.CX P w) P w K mg base N_is_free_set "is_free_set" (defScope (top 16)) f cdv A outer s H E).xe := passes_of rfl
  exact sss_cons (ss_for (ws := [2, 3]) hp rfl (si_seq (se_call (hc 33 _ rfl) tk rfl (sa_cons (se_var (pv 0)) (sa_nil)) (hl := (len_cons (fun _ _ _ => len_nil))))) (sg_tup rfl (sgs_cons (sg_name (pg_name (i := 2) sc_is_free_set.nd rfl (by first | exact Or.inl rfl | exact Or.inr rfl))) (sgs_cons (sg_name (pg_name (i := 3) sc_is_free_set.nd rfl (by first | exact Or.inl rfl | exact Or.inr rfl))) (sgs_nil)))) (sss_one (ss_if (PW.pt (sw_and (st_val (se_call (hc 78 _ rfl) tk rfl (sa_cons (se_var (pv 2)) (sa_cons (se_var (pv 1)) (sa_nil))) (hl := (len_cons (len_cons (fun _ _ _ => len_nil)))))) (sw_and1 (st_val (se_call (hc 78 _ rfl) tk rfl (sa_cons (se_var (pv 3)) (sa_cons (se_var (pv 1)) (sa_nil))) (hl := (len_cons (len_cons (fun _ _ _ => len_nil))))))))) (sss_one (ss_ret (se_bl))) (sss_nil)))) (sss_one (ss_ret (se_bl)))
abbrev N_all_sets : List Str := ["letters", "found", "letter", "own"]
theorem sc_all_sets : FnScope N_all_sets ["letters"] (defScope (top 17)) := ⟨rfl, rfl, rfl, by decide +kernel, rfl, by decide +kernel, by decide +kernel⟩
theorem d_all_sets {P : Program} {w : World} {K : PySem.W.Frag} {mg : Str → Option Value} {base : Heap} {D : Stat} {Γ : Env} {d lvl : Nat} {f : Addr} {cdv : Value} {A : Around} {outer : List PySem.Env} {s : Shared} {H : Hp} {E : XK}
    (z : Glob K mg D) (hD : D.K = K) (hr : Room d (A.deeper (envOfC "all_sets" (defScope (top 17)) s.heap.objs.size f cdv))) (hgd : (A.deeper (envOfC "all_sets" (defScope (top 17)) s.heap.objs.size f cdv)).guards = some []) (hc : Calls P w K mg base (A.deeper (envOfC "all_sets" (defScope (top 17)) s.heap.objs.size f cdv)) D (lvl + 1) Γ T) :
    PSs (cxOf (L2.CX P w) P w K mg base N_all_sets "all_sets" (defScope (top 17)) f cdv A outer s H E) (defBody (top 17)) (tS D lvl (fun cls d _ H => E cls d H) (b_all_sets Γ)) := by
  have hu : (cxOf (L2.CX P w) P w K mg base N_all_sets "all_sets" (defScope (top 17)) f cdv A outer s H E).A.units + 64 < cLine := hr.units
  have hdp : (cxOf (L2.CX P w) P w K mg base N_all_sets "all_sets" (defScope (top 17)) f cdv A outer s H E).A.depth + 5 < recursionLimit := (by have := hr.dp; omega : (A.deeper (envOfC "all_sets" (defScope (top 17)) s.heap.objs.size f cdv)).depth + 5 < recursionLimit)
  have hh : (cxOf (L2.CX P w) P w K mg base N_all_sets "all_sets" (defScope (top 17)) f cdv A outer s H E).A.handled = none := hr.hd
  have hu1 : (cxOf (L2.CX P w) P w K mg base N_all_sets "all_sets" (defScope (top 17)) f cdv A outer s H E).A.units + 65 < cLine := (by have := hr.un; omega : (A.deeper (envOfC "all_sets" (defScope (top 17)) s.heap.objs.size f cdv)).units + 65 < cLine)
  have hu0 : (cxOf (L2.CX P w) P w K mg base N_all_sets "all_sets" (defScope (top 17)) f cdv A outer s H E).A.units + 1 < cLine := hu_of hr
  have tk : Takes (cxOf (L2.CX P w) P w K mg base N_all_sets "all_sets" (defScope (top 17)) f cdv A outer s H E) (fun cls d _ H => E cls d H) := takes_of rfl rfl rfl rfl
  have hp : PassesOwn (model P w) (cxOf (L2.CX P w) P w K mg base N_all_sets "all_sets" (defScope (top 17)) f cdv A outer s H E).A (cxOf (L2.CX P w) P w K mg base N_all_sets "all_sets" (defScope (top 17)) f cdv A outer s H E).env (cxOf (L2.CX P w) P w K mg base N_all_sets "all_sets" (defScope (top 17)) f cdv A outer s H E).xe := passes_of rfl
  exact sss_cons (ss_own (fun _ h => ps_set (i := 1) sc_all_sets.nd rfl (by first | exact Or.inl rfl | exact Or.inr rfl) h) (sf_lst (sa_cons (se_str eq_empty ok_empty) (sa_nil)))) (sss_cons (ss_for (ws := [2]) hp rfl (si_seq (se_var (pv 0))) (sg_name (pg_name (i := 2) sc_all_sets.nd rfl (by first | exact Or.inl rfl | exact Or.inr rfl))) (sss_one (ss_set (fun _ h => ps_set (i := 1) sc_all_sets.nd rfl (by first | exact Or.inl rfl | exact Or.inr rfl) h) (se_bin ops_add (so_var (pv 1)) (so_of (se_of (sf_lc (own := [("own", 3)]) rfl rfl sc_all_sets.nd (si_seq (se_var (pv 1))) (blkOk_by (N := N_all_sets) (sc := defScope (top 17)) (by decide +kernel)) (fun _ _ _ _ _ => sg_name (pg_name (i := 3) sc_all_sets.nd rfl (by first | exact Or.inl rfl | exact Or.inr rfl))) (fun _ _ _ _ _ => sts_nil) (fun _ _ _ _ _ => se_bin ops_add (so_var (pv 3)) (so_var (pv 2)))))))))) (sss_one (ss_retF (sf_srtK hdp hh hu (z.k_size_and_letters _ _ _) rfl z.b_sorted rfl z.kn_size_and_letters (so_cons (so_of (se_cut hD (so_var (pv 1)) (sp_some (se_int)) (sp_none))) (so_nil))))))
abbrev N_size_and_letters : List Str := ["letters"]
theorem sc_size_and_letters : FnScope N_size_and_letters ["letters"] (defScope (top 18)) := ⟨rfl, rfl, rfl, by decide +kernel, rfl, by decide +kernel, by decide +kernel⟩
theorem d_size_and_letters {P : Program} {w : World} {K : PySem.W.Frag} {mg : Str → Option Value} {base : Heap} {D : Stat} {Γ : Env} {d lvl : Nat} {f : Addr} {cdv : Value} {A : Around} {outer : List PySem.Env} {s : Shared} {H : Hp} {E : XK}
    (z : Glob K mg D) (hD : D.K = K) (hr : Room d (A.deeper (envOfC "size_and_letters" (defScope (top 18)) s.heap.objs.size f cdv))) (hgd : (A.deeper (envOfC "size_and_letters" (defScope (top 18)) s.heap.objs.size f cdv)).guards = some []) (hc : Calls P w K mg base (A.deeper (envOfC "size_and_letters" (defScope (top 18)) s.heap.objs.size f cdv)) D (lvl + 1) Γ T) :
    PSs (cxOf (L2.CX P w) P w K mg base N_size_and_letters "size_and_letters" (defScope (top 18)) f cdv A outer s H E) (defBody (top 18)) (tS D lvl (fun cls d _ H => E cls d H) (b_size_and_letters Γ)) := by
  have hu : (cxOf (L2.CX P w) P w K mg base N_size_and_letters "size_and_letters" (defScope (top 18)) f cdv A outer s H E).A.units + 64 < cLine := hr.units
  have hdp : (cxOf (L2.CX P w) P w K mg base N_size_and_letters "size_and_letters" (defScope (top 18)) f cdv A outer s H E).A.depth + 5 < recursionLimit := (by have := hr.dp; omega : (A.deeper (envOfC "size_and_letters" (defScope (top 18)) s.heap.objs.size f cdv)).depth + 5 < recursionLimit)
  have hh : (cxOf (L2.CX P w) P w K mg base N_size_and_letters "size_and_letters" (defScope (top 18)) f cdv A outer s H E).A.handled = none := hr.hd
  have hu1 : (cxOf (L2.CX P w) P w K mg base N_size_and_letters "size_and_letters" (defScope (top 18)) f cdv A outer s H E).A.units + 65 < cLine := (by have := hr.un; omega : (A.deeper (envOfC "size_and_letters" (defScope (top 18)) s.heap.objs.size f cdv)).units + 65 < cLine)
  have hu0 : (cxOf (L2.CX P w) P w K mg base N_size_and_letters "size_and_letters" (defScope (top 18)) f cdv A outer s H E).A.units + 1 < cLine := hu_of hr
  have tk : Takes (cxOf (L2.CX P w) P w K mg base N_size_and_letters "size_and_letters" (defScope (top 18)) f cdv A outer s H E) (fun cls d _ H => E cls d H) := takes_of rfl rfl rfl rfl
  have hp : PassesOwn (model P w) (cxOf (L2.CX P w) P w K mg base N_size_and_letters "size_and_letters" (defScope (top 18)) f cdv A outer s H E).A (cxOf (L2.CX P w) P w K mg base N_size_and_letters "size_and_letters" (defScope (top 18)) f cdv A outer s H E).env (cxOf (L2.CX P w) P w K mg base N_size_and_letters "size_and_letters" (defScope (top 18)) f cdv A outer s H E).xe := passes_of rfl
  exact sss_one (ss_ret (se_tup (sa_cons (se_b cs_len rfl z.b_len boot_len (so_cons (so_var (pv 0)) (so_nil))) (sa_cons (se_var (pv 0)) (sa_nil)))))
abbrev N_find_free_sets : List Str := ["pattern", "components", "found", "letters", "ends", "beginnings"]
theorem sc_find_free_sets : FnScope N_find_free_sets ["pattern"] (defScope (top 19)) := ⟨rfl, rfl, rfl, by decide +kernel, rfl, by decide +kernel, by decide +kernel⟩
theorem d_find_free_sets {P : Program} {w : World} {K : PySem.W.Frag} {mg : Str → Option Value} {base : Heap} {D : Stat} {Γ : Env} {d lvl : Nat} {f : Addr} {cdv : Value} {A : Around} {outer : List PySem.Env} {s : Shared} {H : Hp} {E : XK}
    (z : Glob K mg D) (hD : D.K = K) (hr : Room d (A.deeper (envOfC "find_free_sets" (defScope (top 19)) s.heap.objs.size f cdv))) (hgd : (A.deeper (envOfC "find_free_sets" (defScope (top 19)) s.heap.objs.size f cdv)).guards = some []) (hc : Calls P w K mg base (A.deeper (envOfC "find_free_sets" (defScope (top 19)) s.heap.objs.size f cdv)) D (lvl + 1) Γ T) :
    PSs (cxOf (L2.CX P w) P w K mg base N_find_free_sets "find_free_sets" (defScope (top 19)) f cdv A outer s H E) (defBody (top 19)) (tS D lvl (fun cls d _ H => E cls d H) (b_find_free_sets Γ)) := by
  have hu : (cxOf (L2.CX P w) P w K mg base N_find_free_sets "find_free_sets" (defScope (top 19)) f cdv A outer s H E).A.units + 64 < cLine := hr.units
  have hdp : (cxOf (L2.CX P w) P w K mg base N_find_free_sets "find_free_sets" (defScope (top 19)) f cdv A outer s H E).A.depth + 5 < recursionLimit := (by have := hr.dp; omega : (A.deeper (envOfC "find_free_sets" (defScope (top 19)) s.heap.objs.size f cdv)).depth + 5 < recursionLimit)
  have hh : (cxOf (L2.CX P w) P w K mg base N_find_free_sets "find_free_sets" (defScope (top 19)) f cdv A outer s H E).A.handled = none := hr.hd
  have hu1 : (cxOf (L2.CX P w) P w K mg base N_find_free_sets "find_free_sets" (defScope (top 19)) f cdv A outer s H E).A.units + 65 < cLine := (by have := hr.un; omega : (A.deeper (envOfC "find_free_sets" (defScope (top 19)) s.heap.objs.size f cdv)).units + 65 < cLine)
  have hu0 : (cxOf (L2.CX P w) P w K mg base N_find_free_sets "find_free_sets" (defScope (top 19)) f cdv A outer s H E).A.units + 1 < cLine := hu_of hr
  have tk : Takes (cxOf (L2.CX P w) P w K mg base N_find_free_sets "find_free_sets" (defScope (top 19)) f cdv A outer s H E) (fun cls d _ H => E cls d H) := takes_of rfl rfl rfl rfl
  have hp : PassesOwn (model P w) (cxOf (L2.CX P w) P w K mg base N_find_free_sets "find_free_sets" (defScope (top 19)) f cdv A outer s H E).A (cxOf (L2.CX P w) P w K mg base N_find_free_sets "find_free_sets" (defScope (top 19)) f cdv A outer s H E).env (cxOf (L2.CX P w) P w K mg base N_find_free_sets "find_free_sets" (defScope (top 19)) f cdv A outer s H E).xe := passes_of rfl
  exact sss_cons (ss_set (fun _ h => ps_set (i := 1) sc_find_free_sets.nd rfl (by first | exact Or.inl rfl | exact Or.inr rfl) h) (se_call (hc 33 _ rfl) tk rfl (sa_cons (se_var (pv 0)) (sa_nil)) (hl := (len_cons (fun _ _ _ => len_nil))))) (sss_cons (ss_own (fun _ h => ps_set (i := 2) sc_find_free_sets.nd rfl (by first | exact Or.inl rfl | exact Or.inr rfl) h) (sf_lst (sa_nil))) (sss_cons (ss_for (ws := [3]) hp rfl (si_seq (se_call (hc 36 _ rfl) tk rfl (sa_cons (se_meth (.inl ⟨rfl, rfl⟩) ms_join PySem.F.plainAttrs_str PySem.F.slot_str_join PySem.F.type_str_join (so_of (se_str eq_empty ok_empty)) (so_cons (so_of (se_of (sf_b (cf_sorted' rfl hu) rfl z.b_sorted boot_sorted' (so_cons (so_of (se_call (hc 1 _ rfl) tk rfl (sa_cons (se_var (pv 0)) (sa_nil)) (hl := (len_cons (fun _ _ _ => len_nil))))) (so_nil))))) (so_nil))) (sa_nil)) (hl := (len_cons (fun _ _ _ => len_nil))))) (sg_name (pg_name (i := 3) sc_find_free_sets.nd rfl (by first | exact Or.inl rfl | exact Or.inr rfl))) (sss_one (ss_if (st_not (st_val (se_b (cs_any rfl) rfl z.b_any boot_any (so_cons (so_of (se_of (sf_lc (own := [("ends", 4), ("beginnings", 5)]) rfl rfl sc_find_free_sets.nd (si_seq (se_var (pv 1))) (blkOk_by (N := N_find_free_sets) (sc := defScope (top 19)) (by decide +kernel)) (fun _ _ _ _ _ => sg_tup rfl (sgs_cons (sg_name (pg_name (i := 4) sc_find_free_sets.nd rfl (by first | exact Or.inl rfl | exact Or.inr rfl))) (sgs_cons (sg_name (pg_name (i := 5) sc_find_free_sets.nd rfl (by first | exact Or.inl rfl | exact Or.inr rfl))) (sgs_nil)))) (fun _ _ _ _ _ => sts_nil) (fun _ _ _ _ _ => se_and (se_call (hc 78 _ rfl) W0.takes rfl (sa_cons (se_var (pv 4)) (sa_cons (se_var (pv 3)) (sa_nil))) (hl := (len_cons (len_cons (fun _ _ _ => len_nil))))) (se_one (se_call (hc 78 _ rfl) W0.takes rfl (sa_cons (se_var (pv 5)) (sa_cons (se_var (pv 3)) (sa_nil))) (hl := (len_cons (len_cons (fun _ _ _ => len_nil)))))))))) (so_nil))))) (sss_one (ss_expr (se_mut mu_append PySem.F.slot_list_append PySem.F.type_list_append (so_var (pv 2)) (sa_cons (se_var (pv 3)) (sa_nil))))) (sss_nil)))) (sss_one (ss_retN (pv 2)))))
abbrev N_is_letter_set : List Str := ["pattern", "value", "letter"]
theorem sc_is_letter_set : FnScope N_is_letter_set ["pattern", "value"] (defScope (top 20)) := ⟨rfl, rfl, rfl, by decide +kernel, rfl, by decide +kernel, by decide +kernel⟩
theorem d_is_letter_set {P : Program} {w : World} {K : PySem.W.Frag} {mg : Str → Option Value} {base : Heap} {D : Stat} {Γ : Env} {d lvl : Nat} {f : Addr} {cdv : Value} {A : Around} {outer : List PySem.Env} {s : Shared} {H : Hp} {E : XK}
    (z : Glob K mg D) (hD : D.K = K) (hr : Room d (A.deeper (envOfC "is_letter_set" (defScope (top 20)) s.heap.objs.size f cdv))) (hgd : (A.deeper (envOfC "is_letter_set" (defScope (top 20)) s.heap.objs.size f cdv)).guards = some []) (hc : Calls P w K mg base (A.deeper (envOfC "is_letter_set" (defScope (top 20)) s.heap.objs.size f cdv)) D (lvl + 1) Γ T) :
    PSs (cxOf (L2.CX P w) P w K mg base N_is_letter_set "is_letter_set" (defScope (top 20)) f cdv A outer s H E) (defBody (top 20)) (tS D lvl (fun cls d _ H => E cls d H) (b_is_letter_set Γ)) := by
  have hu : (cxOf (L2.CX P w) P w K mg base N_is_letter_set "is_letter_set" (defScope (top 20)) f cdv A outer s H E).A.units + 64 < cLine := hr.units
  have hdp : (cxOf (L2.CX P w) P w K mg base N_is_letter_set "is_letter_set" (defScope (top 20)) f cdv A outer s H E).A.depth + 5 < recursionLimit := (by have := hr.dp; omega : (A.deeper (envOfC "is_letter_set" (defScope (top 20)) s.heap.objs.size f cdv)).depth + 5 < recursionLimit)
  have hh : (cxOf (L2.CX P w) P w K mg base N_is_letter_set "is_letter_set" (defScope (top 20)) f cdv A outer s H E).A.handled = none := hr.hd
  have hu1 : (cxOf (L2.CX P w) P w K mg base N_is_letter_set "is_letter_set" (defScope (top 20)) f cdv A outer s H E).A.units + 65 < cLine := (by have := hr.un; omega : (A.deeper (envOfC "is_letter_set" (defScope (top 20)) s.heap.objs.size f cdv)).units + 65 < cLine)
  have hu0 : (cxOf (L2.CX P w) P w K mg base N_is_letter_set "is_letter_set" (defScope (top 20)) f cdv A outer s H E).A.units + 1 < cLine := hu_of hr
  have tk : Takes (cxOf (L2.CX P w) P w K mg base N_is_letter_set "is_letter_set" (defScope (top 20)) f cdv A outer s H E) (fun cls d _ H => E cls d H) := takes_of rfl rfl rfl rfl
  have hp : PassesOwn (model P w) (cxOf (L2.CX P w) P w K mg base N_is_letter_set "is_letter_set" (defScope (top 20)) f cdv A outer s H E).A (cxOf (L2.CX P w) P w K mg base N_is_letter_set "is_letter_set" (defScope (top 20)) f cdv A outer s H E).env (cxOf (L2.CX P w) P w K mg base N_is_letter_set "is_letter_set" (defScope (top 20)) f cdv A outer s H E).xe := passes_of rfl
  exact sss_cons (ss_if (PW.pt (sw_or (st_not (st_val (se_isi (t := 3) (by decide) rfl z.b_isinstance rfl z.b_str boot_str (so_var (pv 1))))) (sw_or (st_cmp (ops_eq hu) (so_var (pv 1)) (so_of (se_str eq_empty ok_empty)) (nomark _)) (sw_or1 (st_cmp (ops_ne hu) (so_of (se_of (sf_sortSet rfl hu rfl z.b_sorted rfl z.b_set (so_cons (so_var (pv 1)) (so_nil))))) (so_of (se_of (sf_ty (cf_list' rfl) rfl z.b_list boot_list (so_cons (so_var (pv 1)) (so_nil))))) (nomark _)))))) (sss_one (ss_ret (se_bl))) (sss_nil)) (sss_one (ss_ret (se_b (cs_all rfl) rfl z.b_all boot_all (so_cons (so_of (se_of (sf_lc (own := [("letter", 2)]) rfl rfl sc_is_letter_set.nd (si_seq (se_var (pv 1))) (blkOk_by (N := N_is_letter_set) (sc := defScope (top 20)) (by decide +kernel)) (fun _ _ _ _ _ => sg_name (pg_name (i := 2) sc_is_letter_set.nd rfl (by first | exact Or.inl rfl | exact Or.inr rfl))) (fun _ _ _ _ _ => sts_nil) (fun _ _ _ _ _ => se_cmp (ops_in hu1) (so_var (pv 2)) (so_var (pv 0)) (by with_unfolding_all rfl))))) (so_nil)))))
abbrev N_require_letters : List Str := ["pattern", "value"]
theorem sc_require_letters : FnScope N_require_letters ["pattern", "value"] (defScope (top 21)) := ⟨rfl, rfl, rfl, by decide +kernel, rfl, by decide +kernel, by decide +kernel⟩
theorem d_require_letters {P : Program} {w : World} {K : PySem.W.Frag} {mg : Str → Option Value} {base : Heap} {D : Stat} {Γ : Env} {d lvl : Nat} {f : Addr} {cdv : Value} {A : Around} {outer : List PySem.Env} {s : Shared} {H : Hp} {E : XK}
    (z : Glob K mg D) (hD : D.K = K) (hr : Room d (A.deeper (envOfC "require_letters" (defScope (top 21)) s.heap.objs.size f cdv))) (hgd : (A.deeper (envOfC "require_letters" (defScope (top 21)) s.heap.objs.size f cdv)).guards = some []) (hc : Calls P w K mg base (A.deeper (envOfC "require_letters" (defScope (top 21)) s.heap.objs.size f cdv)) D (lvl + 1) Γ T) :
    PSs (cxOf (L2.CX P w) P w K mg base N_require_letters "require_letters" (defScope (top 21)) f cdv A outer s H E) (defBody (top 21)) (tS D lvl (fun cls d _ H => E cls d H) (b_require_letters Γ)) := by
  have hu : (cxOf (L2.CX P w) P w K mg base N_require_letters "require_letters" (defScope (top 21)) f cdv A outer s H E).A.units + 64 < cLine := hr.units
  have hdp : (cxOf (L2.CX P w) P w K mg base N_require_letters "require_letters" (defScope (top 21)) f cdv A outer s H E).A.depth + 5 < recursionLimit := (by have := hr.dp; omega : (A.deeper (envOfC "require_letters" (defScope (top 21)) s.heap.objs.size f cdv)).depth + 5 < recursionLimit)
  have hh : (cxOf (L2.CX P w) P w K mg base N_require_letters "require_letters" (defScope (top 21)) f cdv A outer s H E).A.handled = none := hr.hd
  have hu1 : (cxOf (L2.CX P w) P w K mg base N_require_letters "require_letters" (defScope (top 21)) f cdv A outer s H E).A.units + 65 < cLine := (by have := hr.un; omega : (A.deeper (envOfC "require_letters" (defScope (top 21)) s.heap.objs.size f cdv)).units + 65 < cLine)
  have hu0 : (cxOf (L2.CX P w) P w K mg base N_require_letters "require_letters" (defScope (top 21)) f cdv A outer s H E).A.units + 1 < cLine := hu_of hr
  have tk : Takes (cxOf (L2.CX P w) P w K mg base N_require_letters "require_letters" (defScope (top 21)) f cdv A outer s H E) (fun cls d _ H => E cls d H) := takes_of rfl rfl rfl rfl
  have hp : PassesOwn (model P w) (cxOf (L2.CX P w) P w K mg base N_require_letters "require_letters" (defScope (top 21)) f cdv A outer s H E).A (cxOf (L2.CX P w) P w K mg base N_require_letters "require_letters" (defScope (top 21)) f cdv A outer s H E).env (cxOf (L2.CX P w) P w K mg base N_require_letters "require_letters" (defScope (top 21)) f cdv A outer s H E).xe := passes_of rfl
  exact sss_one (ss_if (st_not (st_val (se_call (hc 79 _ rfl) tk rfl (sa_cons (se_var (pv 0)) (sa_cons (se_var (pv 1)) (sa_nil))) (hl := (len_cons (len_cons (fun _ _ _ => len_nil))))))) (sss_one (ss_raise z.x_InvalidLetters rfl tk rfl)) (sss_nil))
abbrev N_joined : List Str := ["pattern"]
theorem sc_joined : FnScope N_joined ["pattern"] (defScope (top 22)) := ⟨rfl, rfl, rfl, by decide +kernel, rfl, by decide +kernel, by decide +kernel⟩
theorem d_joined {P : Program} {w : World} {K : PySem.W.Frag} {mg : Str → Option Value} {base : Heap} {D : Stat} {Γ : Env} {d lvl : Nat} {f : Addr} {cdv : Value} {A : Around} {outer : List PySem.Env} {s : Shared} {H : Hp} {E : XK}
    (z : Glob K mg D) (hD : D.K = K) (hr : Room d (A.deeper (envOfC "joined" (defScope (top 22)) s.heap.objs.size f cdv))) (hgd : (A.deeper (envOfC "joined" (defScope (top 22)) s.heap.objs.size f cdv)).guards = some []) (hc : Calls P w K mg base (A.deeper (envOfC "joined" (defScope (top 22)) s.heap.objs.size f cdv)) D (lvl + 1) Γ T) :
    PSs (cxOf (L2.CX P w) P w K mg base N_joined "joined" (defScope (top 22)) f cdv A outer s H E) (defBody (top 22)) (tS D lvl (fun cls d _ H => E cls d H) (b_joined Γ)) := by
  have hu : (cxOf (L2.CX P w) P w K mg base N_joined "joined" (defScope (top 22)) f cdv A outer s H E).A.units + 64 < cLine := hr.units
  have hdp : (cxOf (L2.CX P w) P w K mg base N_joined "joined" (defScope (top 22)) f cdv A outer s H E).A.depth + 5 < recursionLimit := (by have := hr.dp; omega : (A.deeper (envOfC "joined" (defScope (top 22)) s.heap.objs.size f cdv)).depth + 5 < recursionLimit)
  have hh : (cxOf (L2.CX P w) P w K mg base N_joined "joined" (defScope (top 22)) f cdv A outer s H E).A.handled = none := hr.hd
  have hu1 : (cxOf (L2.CX P w) P w K mg base N_joined "joined" (defScope (top 22)) f cdv A outer s H E).A.units + 65 < cLine := (by have := hr.un; omega : (A.deeper (envOfC "joined" (defScope (top 22)) s.heap.objs.size f cdv)).units + 65 < cLine)
  have hu0 : (cxOf (L2.CX P w) P w K mg base N_joined "joined" (defScope (top 22)) f cdv A outer s H E).A.units + 1 < cLine := hu_of hr
  have tk : Takes (cxOf (L2.CX P w) P w K mg base N_joined "joined" (defScope (top 22)) f cdv A outer s H E) (fun cls d _ H => E cls d H) := takes_of rfl rfl rfl rfl
  have hp : PassesOwn (model P w) (cxOf (L2.CX P w) P w K mg base N_joined "joined" (defScope (top 22)) f cdv A outer s H E).A (cxOf (L2.CX P w) P w K mg base N_joined "joined" (defScope (top 22)) f cdv A outer s H E).env (cxOf (L2.CX P w) P w K mg base N_joined "joined" (defScope (top 22)) f cdv A outer s H E).xe := passes_of rfl
  exact sss_cons (ss_expr (se_call (hc 3 _ rfl) tk rfl (sa_cons (se_var (pv 0)) (sa_nil)) (hl := (len_cons (fun _ _ _ => len_nil))))) (sss_one (ss_retCall (hc 33 _ rfl) tk rfl (sa_cons (se_var (pv 0)) (sa_nil)) (hl := (len_cons (fun _ _ _ => len_nil)))))
abbrev N_is_free : List Str := ["pattern", "letters"]
theorem sc_is_free : FnScope N_is_free ["pattern", "letters"] (defScope (top 23)) := ⟨rfl, rfl, rfl, by decide +kernel, rfl, by decide +kernel, by decide +kernel⟩
theorem d_is_free {P : Program} {w : World} {K : PySem.W.Frag} {mg : Str → Option Value} {base : Heap} {D : Stat} {Γ : Env} {d lvl : Nat} {f : Addr} {cdv : Value} {A : Around} {outer : List PySem.Env} {s : Shared} {H : Hp} {E : XK}
    (z : Glob K mg D) (hD : D.K = K) (hr : Room d (A.deeper (envOfC "is_free" (defScope (top 23)) s.heap.objs.size f cdv))) (hgd : (A.deeper (envOfC "is_free" (defScope (top 23)) s.heap.objs.size f cdv)).guards = some []) (hc : Calls P w K mg base (A.deeper (envOfC "is_free" (defScope (top 23)) s.heap.objs.size f cdv)) D (lvl + 1) Γ T) :
    PSs (cxOf (L2.CX P w) P w K mg base N_is_free "is_free" (defScope (top 23)) f cdv A outer s H E) (defBody (top 23)) (tS D lvl (fun cls d _ H => E cls d H) (b_is_free Γ)) := by
  have hu : (cxOf (L2.CX P w) P w K mg base N_is_free "is_free" (defScope (top 23)) f cdv A outer s H E).A.units + 64 < cLine := hr.units
  have hdp : (cxOf (L2.CX P w) P w K mg base N_is_free "is_free" (defScope (top 23)) f cdv A outer s H E).A.depth + 5 < recursionLimit := (by have := hr.dp; omega : (A.deeper (envOfC "is_free" (defScope (top 23)) s.heap.objs.size f cdv)).depth + 5 < recursionLimit)
  have hh : (cxOf (L2.CX P w) P w K mg base N_is_free "is_free" (defScope (top 23)) f cdv A outer s H E).A.handled = none := hr.hd
  have hu1 : (cxOf (L2.CX P w) P w K mg base N_is_free "is_free" (defScope (top 23)) f cdv A outer s H E).A.units + 65 < cLine := (by have := hr.un; omega : (A.deeper (envOfC "is_free" (defScope (top 23)) s.heap.objs.size f cdv)).units + 65 < cLine)
  have hu0 : (cxOf (L2.CX P w) P w K mg base N_is_free "is_free" (defScope (top 23)) f cdv A outer s H E).A.units + 1 < cLine := hu_of hr
  have tk : Takes (cxOf (L2.CX P w) P w K mg base N_is_free "is_free" (defScope (top 23)) f cdv A outer s H E) (fun cls d _ H => E cls d H) := takes_of rfl rfl rfl rfl
  have hp : PassesOwn (model P w) (cxOf (L2.CX P w) P w K mg base N_is_free "is_free" (defScope (top 23)) f cdv A outer s H E).A (cxOf (L2.CX P w) P w K mg base N_is_free "is_free" (defScope (top 23)) f cdv A outer s H E).env (cxOf (L2.CX P w) P w K mg base N_is_free "is_free" (defScope (top 23)) f cdv A outer s H E).xe := passes_of rfl
  exact sss_cons (ss_expr (se_call (hc 3 _ rfl) tk rfl (sa_cons (se_var (pv 0)) (sa_nil)) (hl := (len_cons (fun _ _ _ => len_nil))))) (sss_cons (ss_expr (se_call (hc 80 _ rfl) tk rfl (sa_cons (se_var (pv 0)) (sa_cons (se_var (pv 1)) (sa_nil))) (hl := (len_cons (len_cons (fun _ _ _ => len_nil)))))) (sss_one (ss_retCall (hc 81 _ rfl) tk rfl (sa_cons (se_var (pv 0)) (sa_cons (se_var (pv 1)) (sa_nil))) (hl := (len_cons (len_cons (fun _ _ _ => len_nil)))))))
abbrev N_free_sets : List Str := ["pattern"]
theorem sc_free_sets : FnScope N_free_sets ["pattern"] (defScope (top 24)) := ⟨rfl, rfl, rfl, by decide +kernel, rfl, by decide +kernel, by decide +kernel⟩
theorem d_free_sets {P : Program} {w : World} {K : PySem.W.Frag} {mg : Str → Option Value} {base : Heap} {D : Stat} {Γ : Env} {d lvl : Nat} {f : Addr} {cdv : Value} {A : Around} {outer : List PySem.Env} {s : Shared} {H : Hp} {E : XK}
    (z : Glob K mg D) (hD : D.K = K) (hr : Room d (A.deeper (envOfC "free_sets" (defScope (top 24)) s.heap.objs.size f cdv))) (hgd : (A.deeper (envOfC "free_sets" (defScope (top 24)) s.heap.objs.size f cdv)).guards = some []) (hc : Calls P w K mg base (A.deeper (envOfC "free_sets" (defScope (top 24)) s.heap.objs.size f cdv)) D (lvl + 1) Γ T) :
    PSs (cxOf (L2.CX P w) P w K mg base N_free_sets "free_sets" (defScope (top 24)) f cdv A outer s H E) (defBody (top 24)) (tS D lvl (fun cls d _ H => E cls d H) (b_free_sets Γ)) := by
  have hu : (cxOf (L2.CX P w) P w K mg base N_free_sets "free_sets" (defScope (top 24)) f cdv A outer s H E).A.units + 64 < cLine := hr.units
  have hdp : (cxOf (L2.CX P w) P w K mg base N_free_sets "free_sets" (defScope (top 24)) f cdv A outer s H E).A.depth + 5 < recursionLimit := (by have := hr.dp; omega : (A.deeper (envOfC "free_sets" (defScope (top 24)) s.heap.objs.size f cdv)).depth + 5 < recursionLimit)
  have hh : (cxOf (L2.CX P w) P w K mg base N_free_sets "free_sets" (defScope (top 24)) f cdv A outer s H E).A.handled = none := hr.hd
  have hu1 : (cxOf (L2.CX P w) P w K mg base N_free_sets "free_sets" (defScope (top 24)) f cdv A outer s H E).A.units + 65 < cLine := (by have := hr.un; omega : (A.deeper (envOfC "free_sets" (defScope (top 24)) s.heap.objs.size f cdv)).units + 65 < cLine)
  have hu0 : (cxOf (L2.CX P w) P w K mg base N_free_sets "free_sets" (defScope (top 24)) f cdv A outer s H E).A.units + 1 < cLine := hu_of hr
  have tk : Takes (cxOf (L2.CX P w) P w K mg base N_free_sets "free_sets" (defScope (top 24)) f cdv A outer s H E) (fun cls d _ H => E cls d H) := takes_of rfl rfl rfl rfl
  have hp : PassesOwn (model P w) (cxOf (L2.CX P w) P w K mg base N_free_sets "free_sets" (defScope (top 24)) f cdv A outer s H E).A (cxOf (L2.CX P w) P w K mg base N_free_sets "free_sets" (defScope (top 24)) f cdv A outer s H E).env (cxOf (L2.CX P w) P w K mg base N_free_sets "free_sets" (defScope (top 24)) f cdv A outer s H E).xe := passes_of rfl
  exact sss_cons (ss_expr (se_call (hc 3 _ rfl) tk rfl (sa_cons (se_var (pv 0)) (sa_nil)) (hl := (len_cons (fun _ _ _ => len_nil))))) (sss_one (ss_retCall (hc 82 _ rfl) tk rfl (sa_cons (se_var (pv 0)) (sa_nil)) (hl := (len_cons (fun _ _ _ => len_nil)))))
abbrev N__law_spread : List Str := ["cell", "at", "primes", "mixed", "one", "two", "three"]
theorem sc__law_spread : FnScope N__law_spread ["cell", "at"] (defScope (top 26)) := ⟨rfl, rfl, rfl, by decide +kernel, rfl, by decide +kernel, by decide +kernel⟩
theorem d__law_spread {P : Program} {w : World} {K : PySem.W.Frag} {mg : Str → Option Value} {base : Heap} {D : Stat} {Γ : Env} {d lvl : Nat} {f : Addr} {cdv : Value} {A : Around} {outer : List PySem.Env} {s : Shared} {H : Hp} {E : XK}
    (z : Glob K mg D) (hD : D.K = K) (hr : Room d (A.deeper (envOfC "_law_spread" (defScope (top 26)) s.heap.objs.size f cdv))) (hgd : (A.deeper (envOfC "_law_spread" (defScope (top 26)) s.heap.objs.size f cdv)).guards = some []) (hc : Calls P w K mg base (A.deeper (envOfC "_law_spread" (defScope (top 26)) s.heap.objs.size f cdv)) D (lvl + 1) Γ T) :
    PSs (cxOf (L2.CX P w) P w K mg base N__law_spread "_law_spread" (defScope (top 26)) f cdv A outer s H E) (defBody (top 26)) (tS D lvl (fun cls d _ H => E cls d H) (b__law_spread Γ)) := by
  have hu : (cxOf (L2.CX P w) P w K mg base N__law_spread "_law_spread" (defScope (top 26)) f cdv A outer s H E).A.units + 64 < cLine := hr.units
  have hdp : (cxOf (L2.CX P w) P w K mg base N__law_spread "_law_spread" (defScope (top 26)) f cdv A outer s H E).A.depth + 5 < recursionLimit := (by have := hr.dp; omega : (A.deeper (envOfC "_law_spread" (defScope (top 26)) s.heap.objs.size f cdv)).depth + 5 < recursionLimit)
  have hh : (cxOf (L2.CX P w) P w K mg base N__law_spread "_law_spread" (defScope (top 26)) f cdv A outer s H E).A.handled = none := hr.hd
  have hu1 : (cxOf (L2.CX P w) P w K mg base N__law_spread "_law_spread" (defScope (top 26)) f cdv A outer s H E).A.units + 65 < cLine := (by have := hr.un; omega : (A.deeper (envOfC "_law_spread" (defScope (top 26)) s.heap.objs.size f cdv)).units + 65 < cLine)
  have hu0 : (cxOf (L2.CX P w) P w K mg base N__law_spread "_law_spread" (defScope (top 26)) f cdv A outer s H E).A.units + 1 < cLine := hu_of hr
  have tk : Takes (cxOf (L2.CX P w) P w K mg base N__law_spread "_law_spread" (defScope (top 26)) f cdv A outer s H E) (fun cls d _ H => E cls d H) := takes_of rfl rfl rfl rfl
  have hp : PassesOwn (model P w) (cxOf (L2.CX P w) P w K mg base N__law_spread "_law_spread" (defScope (top 26)) f cdv A outer s H E).A (cxOf (L2.CX P w) P w K mg base N__law_spread "_law_spread" (defScope (top 26)) f cdv A outer s H E).env (cxOf (L2.CX P w) P w K mg base N__law_spread "_law_spread" (defScope (top 26)) f cdv A outer s H E).xe := passes_of rfl
  exact sss_cons (ss_if (st_cmp ops_ge (so_var (pv 0)) (so_of (se_bin ops_pow (so_of (se_int)) (so_of (se_int)))) (nomark _)) (sss_one (ss_retN (pv 0))) (sss_nil)) (sss_cons (ss_own (fun _ h => ps_set (i := 2) sc__law_spread.nd rfl (by first | exact Or.inl rfl | exact Or.inr rfl) h) (sf_lst (sa_cons (se_int) (sa_cons (se_int) (sa_cons (se_int) (sa_cons (se_int) (sa_cons (se_int) (sa_cons (se_int) (sa_cons (se_int) (sa_nil)))))))))) (sss_cons (ss_set (fun _ h => ps_set (i := 2) sc__law_spread.nd rfl (by first | exact Or.inl rfl | exact Or.inr rfl) h) (se_bin ops_add (so_var (pv 2)) (so_of (se_of (sf_lst (sa_cons (se_int) (sa_cons (se_int) (sa_cons (se_int) (sa_cons (se_int) (sa_cons (se_int) (sa_cons (se_int) (sa_nil)))))))))))) (sss_cons (ss_set (fun _ h => ps_set (i := 3) sc__law_spread.nd rfl (by first | exact Or.inl rfl | exact Or.inr rfl) h) (se_bin ops_add (so_of (se_bin ops_add (so_of (se_bin ops_mul (so_of (se_bin ops_mod (so_var (pv 0)) (so_of (se_int)))) (so_of (se_bin ops_add (so_of (se_bin ops_mul (so_of (se_int)) (so_var (pv 1)))) (so_of (se_int)))))) (so_of (se_bin ops_mul (so_var (pv 1)) (so_of (se_int)))))) (so_of (se_int)))) (sss_cons (ss_set (fun _ h => ps_set (i := 4) sc__law_spread.nd rfl (by first | exact Or.inl rfl | exact Or.inr rfl) h) (se_bin ops_mod (so_of (se_bin ops_pow (so_var (pv 3)) (so_of (se_int)))) (so_of (se_ix hu0 (so_var (pv 2)) (so_of (se_bin ops_mod (so_var (pv 1)) (so_of (se_int)))) (fun _ _ => rfl))))) (sss_cons (ss_set (fun _ h => ps_set (i := 5) sc__law_spread.nd rfl (by first | exact Or.inl rfl | exact Or.inr rfl) h) (se_bin ops_mod (so_of (se_bin ops_pow (so_of (se_bin ops_add (so_of (se_bin ops_add (so_of (se_bin ops_mul (so_var (pv 4)) (so_of (se_bin ops_add (so_var (pv 1)) (so_of (se_int)))))) (so_of (se_bin ops_mod (so_var (pv 0)) (so_of (se_int)))))) (so_of (se_int)))) (so_of (se_int)))) (so_of (se_ix hu0 (so_var (pv 2)) (so_of (se_bin ops_mod (so_of (se_bin ops_add (so_var (pv 1)) (so_of (se_int)))) (so_of (se_int)))) (fun _ _ => rfl))))) (sss_cons (ss_set (fun _ h => ps_set (i := 6) sc__law_spread.nd rfl (by first | exact Or.inl rfl | exact Or.inr rfl) h) (se_bin ops_mod (so_of (se_bin ops_pow (so_of (se_bin ops_add (so_of (se_bin ops_add (so_var (pv 5)) (so_of (se_bin ops_mod (so_var (pv 4)) (so_of (se_int)))))) (so_var (pv 1)))) (so_of (se_int)))) (so_of (se_ix hu0 (so_var (pv 2)) (so_of (se_bin ops_mod (so_of (se_bin ops_add (so_var (pv 1)) (so_of (se_int)))) (so_of (se_int)))) (fun _ _ => rfl))))) (sss_one (ss_ret (se_bin ops_add (so_of (se_bin ops_mul (so_of (se_bin ops_add (so_of (se_bin ops_mul (so_var (pv 4)) (so_of (se_int)))) (so_var (pv 5)))) (so_of (se_int)))) (so_var (pv 6)))))))))))
abbrev N__law_open : List Str := ["script", "cells", "k", "cell"]
theorem sc__law_open : FnScope N__law_open ["script"] (defScope (top 27)) := ⟨rfl, rfl, rfl, by decide +kernel, rfl, by decide +kernel, by decide +kernel⟩
theorem d__law_open {P : Program} {w : World} {K : PySem.W.Frag} {mg : Str → Option Value} {base : Heap} {D : Stat} {Γ : Env} {d lvl : Nat} {f : Addr} {cdv : Value} {A : Around} {outer : List PySem.Env} {s : Shared} {H : Hp} {E : XK}
    (z : Glob K mg D) (hD : D.K = K) (hr : Room d (A.deeper (envOfC "_law_open" (defScope (top 27)) s.heap.objs.size f cdv))) (hgd : (A.deeper (envOfC "_law_open" (defScope (top 27)) s.heap.objs.size f cdv)).guards = some []) (hc : Calls P w K mg base (A.deeper (envOfC "_law_open" (defScope (top 27)) s.heap.objs.size f cdv)) D (lvl + 1) Γ T) :
    PSs (cxOf (L2.CX P w) P w K mg base N__law_open "_law_open" (defScope (top 27)) f cdv A outer s H E) (defBody (top 27)) (tS D lvl (fun cls d _ H => E cls d H) (b__law_open Γ)) := by
  have hu : (cxOf (L2.CX P w) P w K mg base N__law_open "_law_open" (defScope (top 27)) f cdv A outer s H E).A.units + 64 < cLine := hr.units
  have hdp : (cxOf (L2.CX P w) P w K mg base N__law_open "_law_open" (defScope (top 27)) f cdv A outer s H E).A.depth + 5 < recursionLimit := (by have := hr.dp; omega : (A.deeper (envOfC "_law_open" (defScope (top 27)) s.heap.objs.size f cdv)).depth + 5 < recursionLimit)
  have hh : (cxOf (L2.CX P w) P w K mg base N__law_open "_law_open" (defScope (top 27)) f cdv A outer s H E).A.handled = none := hr.hd
  have hu1 : (cxOf (L2.CX P w) P w K mg base N__law_open "_law_open" (defScope (top 27)) f cdv A outer s H E).A.units + 65 < cLine := (by have := hr.un; omega : (A.deeper (envOfC "_law_open" (defScope (top 27)) s.heap.objs.size f cdv)).units + 65 < cLine)
  have hu0 : (cxOf (L2.CX P w) P w K mg base N__law_open "_law_open" (defScope (top 27)) f cdv A outer s H E).A.units + 1 < cLine := hu_of hr
  have tk : Takes (cxOf (L2.CX P w) P w K mg base N__law_open "_law_open" (defScope (top 27)) f cdv A outer s H E) (fun cls d _ H => E cls d H) := takes_of rfl rfl rfl rfl
  have hp : PassesOwn (model P w) (cxOf (L2.CX P w) P w K mg base N__law_open "_law_open" (defScope (top 27)) f cdv A outer s H E).A (cxOf (L2.CX P w) P w K mg base N__law_open "_law_open" (defScope (top 27)) f cdv A outer s H E).env (cxOf (L2.CX P w) P w K mg base N__law_open "_law_open" (defScope (top 27)) f cdv A outer s H E).xe := passes_of rfl
  exact sss_cons (ss_own (fun _ h => ps_set (i := 1) sc__law_open.nd rfl (by first | exact Or.inl rfl | exact Or.inr rfl) h) (sf_ty (cf_list' rfl) rfl z.b_list boot_list (so_cons (so_of (se_cut hD (so_var (pv 0)) (sp_none) (sp_some (se_int)))) (so_nil)))) (sss_cons (ss_for (ws := [2, 3]) hp rfl (si_enum rfl z.b_enumerate (sa_cons (se_cut hD (so_var (pv 0)) (sp_some (se_int)) (sp_some (se_int))) (sa_nil))) (sg_tup rfl (sgs_cons (sg_name (pg_name (i := 2) sc__law_open.nd rfl (by first | exact Or.inl rfl | exact Or.inr rfl))) (sgs_cons (sg_name (pg_name (i := 3) sc__law_open.nd rfl (by first | exact Or.inl rfl | exact Or.inr rfl))) (sgs_nil)))) (sss_one (ss_setIx hu0 (se_bin ops_add (so_of (se_ix hu0 (so_var (pv 1)) (so_of (se_bin ops_mod (so_var (pv 2)) (so_of (se_int)))) (fun _ _ => rfl))) (so_var (pv 3))) (so_var (pv 1)) (se_bin ops_mod (so_var (pv 2)) (so_of (se_int)))))) (sss_one (ss_ret (se_box (sa_cons (se_var (pv 1)) (sa_cons (se_int) (sa_cons (se_int) (sa_nil))))))))
abbrev N__law_anew : List Str := ["pen"]
theorem sc__law_anew : FnScope N__law_anew ["pen"] (defScope (top 28)) := ⟨rfl, rfl, rfl, by decide +kernel, rfl, by decide +kernel, by decide +kernel⟩
theorem d__law_anew {P : Program} {w : World} {K : PySem.W.Frag} {mg : Str → Option Value} {base : Heap} {D : Stat} {Γ : Env} {d lvl : Nat} {f : Addr} {cdv : Value} {A : Around} {outer : List PySem.Env} {s : Shared} {H : Hp} {E : XK}
    (z : Glob K mg D) (hD : D.K = K) (hr : Room d (A.deeper (envOfC "_law_anew" (defScope (top 28)) s.heap.objs.size f cdv))) (hgd : (A.deeper (envOfC "_law_anew" (defScope (top 28)) s.heap.objs.size f cdv)).guards = some []) (hc : Calls P w K mg base (A.deeper (envOfC "_law_anew" (defScope (top 28)) s.heap.objs.size f cdv)) D (lvl + 1) Γ T) :
    PSs (cxOf (L2.CX P w) P w K mg base N__law_anew "_law_anew" (defScope (top 28)) f cdv A outer s H E) (defBody (top 28)) (tS D lvl (fun cls d _ H => E cls d H) (b__law_anew Γ)) := by
  have hu : (cxOf (L2.CX P w) P w K mg base N__law_anew "_law_anew" (defScope (top 28)) f cdv A outer s H E).A.units + 64 < cLine := hr.units
  have hdp : (cxOf (L2.CX P w) P w K mg base N__law_anew "_law_anew" (defScope (top 28)) f cdv A outer s H E).A.depth + 5 < recursionLimit := (by have := hr.dp; omega : (A.deeper (envOfC "_law_anew" (defScope (top 28)) s.heap.objs.size f cdv)).depth + 5 < recursionLimit)
  have hh : (cxOf (L2.CX P w) P w K mg base N__law_anew "_law_anew" (defScope (top 28)) f cdv A outer s H E).A.handled = none := hr.hd
  have hu1 : (cxOf (L2.CX P w) P w K mg base N__law_anew "_law_anew" (defScope (top 28)) f cdv A outer s H E).A.units + 65 < cLine := (by have := hr.un; omega : (A.deeper (envOfC "_law_anew" (defScope (top 28)) s.heap.objs.size f cdv)).units + 65 < cLine)
  have hu0 : (cxOf (L2.CX P w) P w K mg base N__law_anew "_law_anew" (defScope (top 28)) f cdv A outer s H E).A.units + 1 < cLine := hu_of hr
  have tk : Takes (cxOf (L2.CX P w) P w K mg base N__law_anew "_law_anew" (defScope (top 28)) f cdv A outer s H E) (fun cls d _ H => E cls d H) := takes_of rfl rfl rfl rfl
  have hp : PassesOwn (model P w) (cxOf (L2.CX P w) P w K mg base N__law_anew "_law_anew" (defScope (top 28)) f cdv A outer s H E).A (cxOf (L2.CX P w) P w K mg base N__law_anew "_law_anew" (defScope (top 28)) f cdv A outer s H E).env (cxOf (L2.CX P w) P w K mg base N__law_anew "_law_anew" (defScope (top 28)) f cdv A outer s H E).xe := passes_of rfl
  exact sss_cons (ss_setIx hu0 (se_int) (so_var (pv 0)) (se_int)) (sss_one (ss_retN (pv 0)))
abbrev N__law_take : List Str := ["pen", "many", "found", "at", "cell"]
theorem sc__law_take : FnScope N__law_take ["pen", "many"] (defScope (top 29)) := ⟨rfl, rfl, rfl, by decide +kernel, rfl, by decide +kernel, by decide +kernel⟩
theorem d__law_take {P : Program} {w : World} {K : PySem.W.Frag} {mg : Str → Option Value} {base : Heap} {D : Stat} {Γ : Env} {d lvl : Nat} {f : Addr} {cdv : Value} {A : Around} {outer : List PySem.Env} {s : Shared} {H : Hp} {E : XK}
    (z : Glob K mg D) (hD : D.K = K) (hr : Room d (A.deeper (envOfC "_law_take" (defScope (top 29)) s.heap.objs.size f cdv))) (hgd : (A.deeper (envOfC "_law_take" (defScope (top 29)) s.heap.objs.size f cdv)).guards = some []) (hc : Calls P w K mg base (A.deeper (envOfC "_law_take" (defScope (top 29)) s.heap.objs.size f cdv)) D (lvl + 1) Γ T) :
    PSs (cxOf (L2.CX P w) P w K mg base N__law_take "_law_take" (defScope (top 29)) f cdv A outer s H E) (defBody (top 29)) (tS D lvl (fun cls d _ H => E cls d H) (b__law_take Γ)) := by
  have hu : (cxOf (L2.CX P w) P w K mg base N__law_take "_law_take" (defScope (top 29)) f cdv A outer s H E).A.units + 64 < cLine := hr.units
  have hdp : (cxOf (L2.CX P w) P w K mg base N__law_take "_law_take" (defScope (top 29)) f cdv A outer s H E).A.depth + 5 < recursionLimit := (by have := hr.dp; omega : (A.deeper (envOfC "_law_take" (defScope (top 29)) s.heap.objs.size f cdv)).depth + 5 < recursionLimit)
  have hh : (cxOf (L2.CX P w) P w K mg base N__law_take "_law_take" (defScope (top 29)) f cdv A outer s H E).A.handled = none := hr.hd
  have hu1 : (cxOf (L2.CX P w) P w K mg base N__law_take "_law_take" (defScope (top 29)) f cdv A outer s H E).A.units + 65 < cLine := (by have := hr.un; omega : (A.deeper (envOfC "_law_take" (defScope (top 29)) s.heap.objs.size f cdv)).units + 65 < cLine)
  have hu0 : (cxOf (L2.CX P w) P w K mg base N__law_take "_law_take" (defScope (top 29)) f cdv A outer s H E).A.units + 1 < cLine := hu_of hr
  have tk : Takes (cxOf (L2.CX P w) P w K mg base N__law_take "_law_take" (defScope (top 29)) f cdv A outer s H E) (fun cls d _ H => E cls d H) := takes_of rfl rfl rfl rfl
  have hp : PassesOwn (model P w) (cxOf (L2.CX P w) P w K mg base N__law_take "_law_take" (defScope (top 29)) f cdv A outer s H E).A (cxOf (L2.CX P w) P w K mg base N__law_take "_law_take" (defScope (top 29)) f cdv A outer s H E).env (cxOf (L2.CX P w) P w K mg base N__law_take "_law_take" (defScope (top 29)) f cdv A outer s H E).xe := passes_of rfl
  exact sss_cons (ss_if (st_cmp ops_lt (so_of (se_ix hu0 (so_var (pv 0)) (so_of (se_int)) (fun _ _ => rfl))) (so_var (pv 1)) (nomark _)) (sss_cons (ss_set (fun _ h => ps_set (i := 3) sc__law_take.nd rfl (by first | exact Or.inl rfl | exact Or.inr rfl) h) (se_ix hu0 (so_var (pv 0)) (so_of (se_int)) (fun _ _ => rfl))) (sss_cons (ss_set (fun _ h => ps_set (i := 4) sc__law_take.nd rfl (by first | exact Or.inl rfl | exact Or.inr rfl) h) (se_int)) (sss_cons (ss_if (st_cmp ops_lt (so_var (pv 3)) (so_of (se_b cs_len rfl z.b_len boot_len (so_cons (so_of (se_ix hu0 (so_var (pv 0)) (so_of (se_int)) (fun _ _ => rfl))) (so_nil)))) (nomark _)) (sss_one (ss_set (fun _ h => ps_set (i := 4) sc__law_take.nd rfl (by first | exact Or.inl rfl | exact Or.inr rfl) h) (se_ix hu0 (so_of (se_ix hu0 (so_var (pv 0)) (so_of (se_int)) (fun _ _ => rfl))) (so_var (pv 3)) (fun _ _ => rfl)))) (sss_one (ss_if (st_cmp ops_gt (so_of (se_b cs_len rfl z.b_len boot_len (so_cons (so_of (se_ix hu0 (so_var (pv 0)) (so_of (se_int)) (fun _ _ => rfl))) (so_nil)))) (so_of (se_int)) (nomark _)) (sss_one (ss_set (fun _ h => ps_set (i := 4) sc__law_take.nd rfl (by first | exact Or.inl rfl | exact Or.inr rfl) h) (se_bin ops_mod (so_of (se_ix hu0 (so_of (se_ix hu0 (so_var (pv 0)) (so_of (se_int)) (fun _ _ => rfl))) (so_of (se_bin ops_mod (so_of (se_bin ops_add (so_of (se_bin ops_mul (so_var (pv 3)) (so_of (se_int)))) (so_of (se_int)))) (so_of (se_b cs_len rfl z.b_len boot_len (so_cons (so_of (se_ix hu0 (so_var (pv 0)) (so_of (se_int)) (fun _ _ => rfl))) (so_nil)))))) (fun _ _ => rfl))) (so_of (se_bin ops_add (so_of (se_bin ops_pow (so_of (se_int)) (so_of (se_int)))) (so_var (pv 3))))))) (sss_nil)))) (sss_cons (ss_setIx hu0 (se_bin ops_add (so_var (pv 3)) (so_of (se_int))) (so_var (pv 0)) (se_int)) (sss_one (ss_setIx hu0 (se_call (hc 4 _ rfl) tk rfl (sa_cons (se_var (pv 4)) (sa_cons (se_var (pv 3)) (sa_nil))) (hl := (len_cons (len_cons (fun _ _ _ => len_nil))))) (so_var (pv 0)) (se_int))))))) (sss_nil)) (sss_cons (ss_set (fun _ h => ps_set (i := 2) sc__law_take.nd rfl (by first | exact Or.inl rfl | exact Or.inr rfl) h) (se_bin ops_mod (so_of (se_ix hu0 (so_var (pv 0)) (so_of (se_int)) (fun _ _ => rfl))) (so_var (pv 1)))) (sss_cons (ss_setIx hu0 (se_bin ops_fdiv (so_of (se_ix hu0 (so_var (pv 0)) (so_of (se_int)) (fun _ _ => rfl))) (so_var (pv 1))) (so_var (pv 0)) (se_int)) (sss_one (ss_retN (pv 2)))))
abbrev N__law_one : List Str := ["pen", "some"]
theorem sc__law_one : FnScope N__law_one ["pen", "some"] (defScope (top 30)) := ⟨rfl, rfl, rfl, by decide +kernel, rfl, by decide +kernel, by decide +kernel⟩
theorem d__law_one {P : Program} {w : World} {K : PySem.W.Frag} {mg : Str → Option Value} {base : Heap} {D : Stat} {Γ : Env} {d lvl : Nat} {f : Addr} {cdv : Value} {A : Around} {outer : List PySem.Env} {s : Shared} {H : Hp} {E : XK}
    (z : Glob K mg D) (hD : D.K = K) (hr : Room d (A.deeper (envOfC "_law_one" (defScope (top 30)) s.heap.objs.size f cdv))) (hgd : (A.deeper (envOfC "_law_one" (defScope (top 30)) s.heap.objs.size f cdv)).guards = some []) (hc : Calls P w K mg base (A.deeper (envOfC "_law_one" (defScope (top 30)) s.heap.objs.size f cdv)) D (lvl + 1) Γ T) :
    PSs (cxOf (L2.CX P w) P w K mg base N__law_one "_law_one" (defScope (top 30)) f cdv A outer s H E) (defBody (top 30)) (tS D lvl (fun cls d _ H => E cls d H) (b__law_one Γ)) := by
  have hu : (cxOf (L2.CX P w) P w K mg base N__law_one "_law_one" (defScope (top 30)) f cdv A outer s H E).A.units + 64 < cLine := hr.units
  have hdp : (cxOf (L2.CX P w) P w K mg base N__law_one "_law_one" (defScope (top 30)) f cdv A outer s H E).A.depth + 5 < recursionLimit := (by have := hr.dp; omega : (A.deeper (envOfC "_law_one" (defScope (top 30)) s.heap.objs.size f cdv)).depth + 5 < recursionLimit)
  have hh : (cxOf (L2.CX P w) P w K mg base N__law_one "_law_one" (defScope (top 30)) f cdv A outer s H E).A.handled = none := hr.hd
  have hu1 : (cxOf (L2.CX P w) P w K mg base N__law_one "_law_one" (defScope (top 30)) f cdv A outer s H E).A.units + 65 < cLine := (by have := hr.un; omega : (A.deeper (envOfC "_law_one" (defScope (top 30)) s.heap.objs.size f cdv)).units + 65 < cLine)
  have hu0 : (cxOf (L2.CX P w) P w K mg base N__law_one "_law_one" (defScope (top 30)) f cdv A outer s H E).A.units + 1 < cLine := hu_of hr
  have tk : Takes (cxOf (L2.CX P w) P w K mg base N__law_one "_law_one" (defScope (top 30)) f cdv A outer s H E) (fun cls d _ H => E cls d H) := takes_of rfl rfl rfl rfl
  have hp : PassesOwn (model P w) (cxOf (L2.CX P w) P w K mg base N__law_one "_law_one" (defScope (top 30)) f cdv A outer s H E).A (cxOf (L2.CX P w) P w K mg base N__law_one "_law_one" (defScope (top 30)) f cdv A outer s H E).env (cxOf (L2.CX P w) P w K mg base N__law_one "_law_one" (defScope (top 30)) f cdv A outer s H E).xe := passes_of rfl
  exact sss_one (ss_ret (se_ix hu0 (so_var (pv 1)) (so_of (se_call (hc 5 _ rfl) tk rfl (sa_cons (se_var (pv 0)) (sa_cons (se_b cs_len rfl z.b_len boot_len (so_cons (so_var (pv 1)) (so_nil))) (sa_nil))) (hl := (len_cons (len_cons (fun _ _ _ => len_nil)))))) (fun _ _ => rfl)))
abbrev N__law_drawn : List Str := ["pen", "many", "found", "k"]
theorem sc__law_drawn : FnScope N__law_drawn ["pen", "many"] (defScope (top 31)) := ⟨rfl, rfl, rfl, by decide +kernel, rfl, by decide +kernel, by decide +kernel⟩
theorem d__law_drawn {P : Program} {w : World} {K : PySem.W.Frag} {mg : Str → Option Value} {base : Heap} {D : Stat} {Γ : Env} {d lvl : Nat} {f : Addr} {cdv : Value} {A : Around} {outer : List PySem.Env} {s : Shared} {H : Hp} {E : XK}
    (z : Glob K mg D) (hD : D.K = K) (hr : Room d (A.deeper (envOfC "_law_drawn" (defScope (top 31)) s.heap.objs.size f cdv))) (hgd : (A.deeper (envOfC "_law_drawn" (defScope (top 31)) s.heap.objs.size f cdv)).guards = some []) (hc : Calls P w K mg base (A.deeper (envOfC "_law_drawn" (defScope (top 31)) s.heap.objs.size f cdv)) D (lvl + 1) Γ T) :
    PSs (cxOf (L2.CX P w) P w K mg base N__law_drawn "_law_drawn" (defScope (top 31)) f cdv A outer s H E) (defBody (top 31)) (tS D lvl (fun cls d _ H => E cls d H) (b__law_drawn Γ)) := by
  have hu : (cxOf (L2.CX P w) P w K mg base N__law_drawn "_law_drawn" (defScope (top 31)) f cdv A outer s H E).A.units + 64 < cLine := hr.units
  have hdp : (cxOf (L2.CX P w) P w K mg base N__law_drawn "_law_drawn" (defScope (top 31)) f cdv A outer s H E).A.depth + 5 < recursionLimit := (by have := hr.dp; omega : (A.deeper (envOfC "_law_drawn" (defScope (top 31)) s.heap.objs.size f cdv)).depth + 5 < recursionLimit)
  have hh : (cxOf (L2.CX P w) P w K mg base N__law_drawn "_law_drawn" (defScope (top 31)) f cdv A outer s H E).A.handled = none := hr.hd
  have hu1 : (cxOf (L2.CX P w) P w K mg base N__law_drawn "_law_drawn" (defScope (top 31)) f cdv A outer s H E).A.units + 65 < cLine := (by have := hr.un; omega : (A.deeper (envOfC "_law_drawn" (defScope (top 31)) s.heap.objs.size f cdv)).units + 65 < cLine)
  have hu0 : (cxOf (L2.CX P w) P w K mg base N__law_drawn "_law_drawn" (defScope (top 31)) f cdv A outer s H E).A.units + 1 < cLine := hu_of hr
  have tk : Takes (cxOf (L2.CX P w) P w K mg base N__law_drawn "_law_drawn" (defScope (top 31)) f cdv A outer s H E) (fun cls d _ H => E cls d H) := takes_of rfl rfl rfl rfl
  have hp : PassesOwn (model P w) (cxOf (L2.CX P w) P w K mg base N__law_drawn "_law_drawn" (defScope (top 31)) f cdv A outer s H E).A (cxOf (L2.CX P w) P w K mg base N__law_drawn "_law_drawn" (defScope (top 31)) f cdv A outer s H E).env (cxOf (L2.CX P w) P w K mg base N__law_drawn "_law_drawn" (defScope (top 31)) f cdv A outer s H E).xe := passes_of rfl
  exact sss_cons (ss_own (fun _ h => ps_set (i := 2) sc__law_drawn.nd rfl (by first | exact Or.inl rfl | exact Or.inr rfl) h) (sf_lst (sa_nil))) (sss_cons (ss_for (ws := [3]) hp rfl (si_range1 rfl z.b_range (sa_cons (se_var (pv 1)) (sa_nil))) (sg_name (pg_name (i := 3) sc__law_drawn.nd rfl (by first | exact Or.inl rfl | exact Or.inr rfl))) (sss_one (ss_expr (se_mut mu_insert PySem.F.slot_list_insert PySem.F.type_list_insert (so_var (pv 2)) (sa_cons (se_call (hc 5 _ rfl) tk rfl (sa_cons (se_var (pv 0)) (sa_cons (se_bin ops_add (so_var (pv 3)) (so_of (se_int))) (sa_nil))) (hl := (len_cons (len_cons (fun _ _ _ => len_nil))))) (sa_cons (se_var (pv 3)) (sa_nil))))))) (sss_one (ss_retN (pv 2))))
abbrev N__law_pattern : List Str := ["pen", "most", "kinds", "names", "standard", "letter", "start", "found", "size", "sort_of", "at", "k"]
theorem sc__law_pattern : FnScope N__law_pattern ["pen", "most", "kinds"] (defScope (top 32)) := ⟨rfl, rfl, rfl, by decide +kernel, rfl, by decide +kernel, by decide +kernel⟩
theorem d__law_pattern {P : Program} {w : World} {K : PySem.W.Frag} {mg : Str → Option Value} {base : Heap} {D : Stat} {Γ : Env} {d lvl : Nat} {f : Addr} {cdv : Value} {A : Around} {outer : List PySem.Env} {s : Shared} {H : Hp} {E : XK}
    (z : Glob K mg D) (hD : D.K = K) (hr : Room d (A.deeper (envOfC "_law_pattern" (defScope (top 32)) s.heap.objs.size f cdv))) (hgd : (A.deeper (envOfC "_law_pattern" (defScope (top 32)) s.heap.objs.size f cdv)).guards = some []) (hc : Calls P w K mg base (A.deeper (envOfC "_law_pattern" (defScope (top 32)) s.heap.objs.size f cdv)) D (lvl + 1) Γ T) :
    PSs (cxOf (L2.CX P w) P w K mg base N__law_pattern "_law_pattern" (defScope (top 32)) f cdv A outer s H E) (defBody (top 32)) (tS D lvl (fun cls d _ H => E cls d H) (b__law_pattern Γ)) := by
  have hu : (cxOf (L2.CX P w) P w K mg base N__law_pattern "_law_pattern" (defScope (top 32)) f cdv A outer s H E).A.units + 64 < cLine := hr.units
  have hdp : (cxOf (L2.CX P w) P w K mg base N__law_pattern "_law_pattern" (defScope (top 32)) f cdv A outer s H E).A.depth + 5 < recursionLimit := (by have := hr.dp; omega : (A.deeper (envOfC "_law_pattern" (defScope (top 32)) s.heap.objs.size f cdv)).depth + 5 < recursionLimit)
  have hh : (cxOf (L2.CX P w) P w K mg base N__law_pattern "_law_pattern" (defScope (top 32)) f cdv A outer s H E).A.handled = none := hr.hd
  have hu1 : (cxOf (L2.CX P w) P w K mg base N__law_pattern "_law_pattern" (defScope (top 32)) f cdv A outer s H E).A.units + 65 < cLine := (by have := hr.un; omega : (A.deeper (envOfC "_law_pattern" (defScope (top 32)) s.heap.objs.size f cdv)).units + 65 < cLine)
  have hu0 : (cxOf (L2.CX P w) P w K mg base N__law_pattern "_law_pattern" (defScope (top 32)) f cdv A outer s H E).A.units + 1 < cLine := hu_of hr
  have tk : Takes (cxOf (L2.CX P w) P w K mg base N__law_pattern "_law_pattern" (defScope (top 32)) f cdv A outer s H E) (fun cls d _ H => E cls d H) := takes_of rfl rfl rfl rfl
  have hp : PassesOwn (model P w) (cxOf (L2.CX P w) P w K mg base N__law_pattern "_law_pattern" (defScope (top 32)) f cdv A outer s H E).A (cxOf (L2.CX P w) P w K mg base N__law_pattern "_law_pattern" (defScope (top 32)) f cdv A outer s H E).env (cxOf (L2.CX P w) P w K mg base N__law_pattern "_law_pattern" (defScope (top 32)) f cdv A outer s H E).xe := passes_of rfl
  exact sss_cons (ss_set (fun _ h => ps_set (i := 3) sc__law_pattern.nd rfl (by first | exact Or.inl rfl | exact Or.inr rfl) h) (se_cut hD (so_of (se_call (hc 6 _ rfl) tk rfl (sa_cons (se_var (pv 0)) (sa_cons (se_of (sf_lst (sa_cons (se_str eq_s_ABCDEFG ok_s_ABCDEFG) (sa_cons (se_str eq_s_GFEDCBA ok_s_GFEDCBA) (sa_cons (se_str eq_s_XAZBYCQ ok_s_XAZBYCQ) (sa_cons (se_str eq_s_MNOPQRS ok_s_MNOPQRS) (sa_nil))))))) (sa_nil))) (hl := (len_cons (len_cons (fun _ _ _ => len_nil)))))) (sp_none) (sp_some (se_var (pv 2))))) (sss_cons (ss_par (fun _ h => ps_par (i := 8) (j := 9) rfl sc__law_pattern.nd rfl rfl (by decide) rfl rfl h rfl) (sa_cons (se_bin ops_add (so_of (se_int)) (so_of (se_call (hc 5 _ rfl) tk rfl (sa_cons (se_var (pv 0)) (sa_cons (se_var (pv 1)) (sa_nil))) (hl := (len_cons (len_cons (fun _ _ _ => len_nil))))))) (sa_cons (se_call (hc 5 _ rfl) tk rfl (sa_cons (se_var (pv 0)) (sa_cons (se_int) (sa_nil))) (hl := (len_cons (len_cons (fun _ _ _ => len_nil))))) (sa_nil)))) (sss_cons (ss_if (st_cmp (ops_eq hu) (so_var (pv 9)) (so_of (se_int)) (nomark _)) (sss_one (ss_ret (se_meth (.inl ⟨rfl, rfl⟩) ms_join PySem.F.plainAttrs_str PySem.F.slot_str_join PySem.F.type_str_join (so_of (se_str eq_empty ok_empty)) (so_cons (so_of (se_of (sf_lc (own := [("k", 11)]) rfl rfl sc__law_pattern.nd (si_range1 rfl z.b_range (sa_cons (se_var (pv 8)) (sa_nil))) (blkOk_by (N := N__law_pattern) (sc := defScope (top 32)) (by decide +kernel)) (fun _ _ _ _ _ => sg_name (pg_name (i := 11) sc__law_pattern.nd rfl (by first | exact Or.inl rfl | exact Or.inr rfl))) (fun _ _ _ _ _ => sts_nil) (fun _ _ _ _ _ => se_call (hc 6 _ rfl) W0.takes rfl (sa_cons (se_var (pv 0)) (sa_cons (se_var (pv 3)) (sa_nil))) (hl := (len_cons (len_cons (fun _ _ _ => len_nil)))))))) (so_nil))))) (sss_nil)) (sss_cons (ss_set (fun _ h => ps_set (i := 4) sc__law_pattern.nd rfl (by first | exact Or.inl rfl | exact Or.inr rfl) h) (se_str eq_empty ok_empty)) (sss_cons (ss_for (ws := [5]) hp rfl (si_seq (se_cut hD (so_var (pv 3)) (sp_none) (sp_some (se_bin ops_add (so_of (se_int)) (so_of (se_call (hc 5 _ rfl) tk rfl (sa_cons (se_var (pv 0)) (sa_cons (se_b cs_len rfl z.b_len boot_len (so_cons (so_var (pv 3)) (so_nil))) (sa_nil))) (hl := (len_cons (len_cons (fun _ _ _ => len_nil)))))))))) (sg_name (pg_name (i := 5) sc__law_pattern.nd rfl (by first | exact Or.inl rfl | exact Or.inr rfl))) (sss_one (ss_set (fun _ h => ps_set (i := 4) sc__law_pattern.nd rfl (by first | exact Or.inl rfl | exact Or.inr rfl) h) (se_bin ops_add (so_of (se_bin ops_add (so_var (pv 4)) (so_var (pv 5)))) (so_var (pv 4)))))) (sss_cons (ss_set (fun _ h => ps_set (i := 6) sc__law_pattern.nd rfl (by first | exact Or.inl rfl | exact Or.inr rfl) h) (se_call (hc 5 _ rfl) tk rfl (sa_cons (se_var (pv 0)) (sa_cons (se_b cs_len rfl z.b_len boot_len (so_cons (so_var (pv 4)) (so_nil))) (sa_nil))) (hl := (len_cons (len_cons (fun _ _ _ => len_nil)))))) (sss_cons (ss_set (fun _ h => ps_set (i := 7) sc__law_pattern.nd rfl (by first | exact Or.inl rfl | exact Or.inr rfl) h) (se_cut hD (so_var (pv 4)) (sp_some (se_var (pv 6))) (sp_some (se_bin ops_add (so_var (pv 6)) (so_var (pv 8)))))) (sss_cons (ss_if (st_cmp (ops_eq hu) (so_var (pv 9)) (so_of (se_int)) (nomark _)) (sss_cons (ss_set (fun _ h => ps_set (i := 10) sc__law_pattern.nd rfl (by first | exact Or.inl rfl | exact Or.inr rfl) h) (se_call (hc 5 _ rfl) tk rfl (sa_cons (se_var (pv 0)) (sa_cons (se_b cs_len rfl z.b_len boot_len (so_cons (so_var (pv 7)) (so_nil))) (sa_nil))) (hl := (len_cons (len_cons (fun _ _ _ => len_nil)))))) (sss_one (ss_set (fun _ h => ps_set (i := 7) sc__law_pattern.nd rfl (by first | exact Or.inl rfl | exact Or.inr rfl) h) (se_bin ops_add (so_of (se_bin ops_add (so_of (se_cut hD (so_var (pv 7)) (sp_none) (sp_some (se_var (pv 10))))) (so_of (se_call (hc 6 _ rfl) tk rfl (sa_cons (se_var (pv 0)) (sa_cons (se_var (pv 3)) (sa_nil))) (hl := (len_cons (len_cons (fun _ _ _ => len_nil)))))))) (so_of (se_cut hD (so_var (pv 7)) (sp_some (se_bin ops_add (so_var (pv 10)) (so_of (se_int)))) (sp_none))))))) (sss_nil)) (sss_one (ss_retN (pv 7))))))))))
abbrev N__law_letters : List Str := ["pattern", "k", "letter"]
theorem sc__law_letters : FnScope N__law_letters ["pattern"] (defScope (top 33)) := ⟨rfl, rfl, rfl, by decide +kernel, rfl, by decide +kernel, by decide +kernel⟩
theorem d__law_letters {P : Program} {w : World} {K : PySem.W.Frag} {mg : Str → Option Value} {base : Heap} {D : Stat} {Γ : Env} {d lvl : Nat} {f : Addr} {cdv : Value} {A : Around} {outer : List PySem.Env} {s : Shared} {H : Hp} {E : XK}
    (z : Glob K mg D) (hD : D.K = K) (hr : Room d (A.deeper (envOfC "_law_letters" (defScope (top 33)) s.heap.objs.size f cdv))) (hgd : (A.deeper (envOfC "_law_letters" (defScope (top 33)) s.heap.objs.size f cdv)).guards = some []) (hc : Calls P w K mg base (A.deeper (envOfC "_law_letters" (defScope (top 33)) s.heap.objs.size f cdv)) D (lvl + 1) Γ T) :
    PSs (cxOf (L2.CX P w) P w K mg base N__law_letters "_law_letters" (defScope (top 33)) f cdv A outer s H E) (defBody (top 33)) (tS D lvl (fun cls d _ H => E cls d H) (b__law_letters Γ)) := by
  have hu : (cxOf (L2.CX P w) P w K mg base N__law_letters "_law_letters" (defScope (top 33)) f cdv A outer s H E).A.units + 64 < cLine := hr.units
  have hdp : (cxOf (L2.CX P w) P w K mg base N__law_letters "_law_letters" (defScope (top 33)) f cdv A outer s H E).A.depth + 5 < recursionLimit := (by have := hr.dp; omega : (A.deeper (envOfC "_law_letters" (defScope (top 33)) s.heap.objs.size f cdv)).depth + 5 < recursionLimit)
  have hh : (cxOf (L2.CX P w) P w K mg base N__law_letters "_law_letters" (defScope (top 33)) f cdv A outer s H E).A.handled = none := hr.hd
  have hu1 : (cxOf (L2.CX P w) P w K mg base N__law_letters "_law_letters" (defScope (top 33)) f cdv A outer s H E).A.units + 65 < cLine := (by have := hr.un; omega : (A.deeper (envOfC "_law_letters" (defScope (top 33)) s.heap.objs.size f cdv)).units + 65 < cLine)
  have hu0 : (cxOf (L2.CX P w) P w K mg base N__law_letters "_law_letters" (defScope (top 33)) f cdv A outer s H E).A.units + 1 < cLine := hu_of hr
  have tk : Takes (cxOf (L2.CX P w) P w K mg base N__law_letters "_law_letters" (defScope (top 33)) f cdv A outer s H E) (fun cls d _ H => E cls d H) := takes_of rfl rfl rfl rfl
  have hp : PassesOwn (model P w) (cxOf (L2.CX P w) P w K mg base N__law_letters "_law_letters" (defScope (top 33)) f cdv A outer s H E).A (cxOf (L2.CX P w) P w K mg base N__law_letters "_law_letters" (defScope (top 33)) f cdv A outer s H E).env (cxOf (L2.CX P w) P w K mg base N__law_letters "_law_letters" (defScope (top 33)) f cdv A outer s H E).xe := passes_of rfl
  exact sss_one (ss_ret (se_meth (.inl ⟨rfl, rfl⟩) ms_join PySem.F.plainAttrs_str PySem.F.slot_str_join PySem.F.type_str_join (so_of (se_str eq_empty ok_empty)) (so_cons (so_of (se_of (sf_lc (own := [("k", 1), ("letter", 2)]) rfl rfl sc__law_letters.nd (si_enumS rfl z.b_enumerate (sa_cons (se_var (pv 0)) (sa_nil))) (blkOk_by (N := N__law_letters) (sc := defScope (top 33)) (by decide +kernel)) (fun _ _ _ _ _ => sg_tup rfl (sgs_cons (sg_name (pg_name (i := 1) sc__law_letters.nd rfl (by first | exact Or.inl rfl | exact Or.inr rfl))) (sgs_cons (sg_name (pg_name (i := 2) sc__law_letters.nd rfl (by first | exact Or.inl rfl | exact Or.inr rfl))) (sgs_nil)))) (fun _ _ _ _ _ => sts_one (st_cmp (ops_notIn hu1) (so_var (pv 2)) (so_of (se_cut hD (so_var (pv 0)) (sp_none) (sp_some (se_var (pv 1))))) (by with_unfolding_all rfl))) (fun _ _ _ _ _ => se_var (pv 2))))) (so_nil))))
abbrev N__law_set : List Str := ["letters"]
theorem sc__law_set : FnScope N__law_set ["letters"] (defScope (top 34)) := ⟨rfl, rfl, rfl, by decide +kernel, rfl, by decide +kernel, by decide +kernel⟩
theorem d__law_set {P : Program} {w : World} {K : PySem.W.Frag} {mg : Str → Option Value} {base : Heap} {D : Stat} {Γ : Env} {d lvl : Nat} {f : Addr} {cdv : Value} {A : Around} {outer : List PySem.Env} {s : Shared} {H : Hp} {E : XK}
    (z : Glob K mg D) (hD : D.K = K) (hr : Room d (A.deeper (envOfC "_law_set" (defScope (top 34)) s.heap.objs.size f cdv))) (hgd : (A.deeper (envOfC "_law_set" (defScope (top 34)) s.heap.objs.size f cdv)).guards = some []) (hc : Calls P w K mg base (A.deeper (envOfC "_law_set" (defScope (top 34)) s.heap.objs.size f cdv)) D (lvl + 1) Γ T) :
    PSs (cxOf (L2.CX P w) P w K mg base N__law_set "_law_set" (defScope (top 34)) f cdv A outer s H E) (defBody (top 34)) (tS D lvl (fun cls d _ H => E cls d H) (b__law_set Γ)) := by
  have hu : (cxOf (L2.CX P w) P w K mg base N__law_set "_law_set" (defScope (top 34)) f cdv A outer s H E).A.units + 64 < cLine := hr.units
  have hdp : (cxOf (L2.CX P w) P w K mg base N__law_set "_law_set" (defScope (top 34)) f cdv A outer s H E).A.depth + 5 < recursionLimit := (by have := hr.dp; omega : (A.deeper (envOfC "_law_set" (defScope (top 34)) s.heap.objs.size f cdv)).depth + 5 < recursionLimit)
  have hh : (cxOf (L2.CX P w) P w K mg base N__law_set "_law_set" (defScope (top 34)) f cdv A outer s H E).A.handled = none := hr.hd
  have hu1 : (cxOf (L2.CX P w) P w K mg base N__law_set "_law_set" (defScope (top 34)) f cdv A outer s H E).A.units + 65 < cLine := (by have := hr.un; omega : (A.deeper (envOfC "_law_set" (defScope (top 34)) s.heap.objs.size f cdv)).units + 65 < cLine)
  have hu0 : (cxOf (L2.CX P w) P w K mg base N__law_set "_law_set" (defScope (top 34)) f cdv A outer s H E).A.units + 1 < cLine := hu_of hr
  have tk : Takes (cxOf (L2.CX P w) P w K mg base N__law_set "_law_set" (defScope (top 34)) f cdv A outer s H E) (fun cls d _ H => E cls d H) := takes_of rfl rfl rfl rfl
  have hp : PassesOwn (model P w) (cxOf (L2.CX P w) P w K mg base N__law_set "_law_set" (defScope (top 34)) f cdv A outer s H E).A (cxOf (L2.CX P w) P w K mg base N__law_set "_law_set" (defScope (top 34)) f cdv A outer s H E).env (cxOf (L2.CX P w) P w K mg base N__law_set "_law_set" (defScope (top 34)) f cdv A outer s H E).xe := passes_of rfl
  exact sss_one (ss_ret (se_meth (.inl ⟨rfl, rfl⟩) ms_join PySem.F.plainAttrs_str PySem.F.slot_str_join PySem.F.type_str_join (so_of (se_str eq_empty ok_empty)) (so_cons (so_of (se_of (sf_sortSet rfl hu rfl z.b_sorted rfl z.b_set (so_cons (so_var (pv 0)) (so_nil))))) (so_nil))))
abbrev N__law_bad_pattern : List Str := ["pen", "pattern", "at", "bent", "some"]
theorem sc__law_bad_pattern : FnScope N__law_bad_pattern ["pen", "pattern"] (defScope (top 35)) := ⟨rfl, rfl, rfl, by decide +kernel, rfl, by decide +kernel, by decide +kernel⟩
theorem d__law_bad_pattern {P : Program} {w : World} {K : PySem.W.Frag} {mg : Str → Option Value} {base : Heap} {D : Stat} {Γ : Env} {d lvl : Nat} {f : Addr} {cdv : Value} {A : Around} {outer : List PySem.Env} {s : Shared} {H : Hp} {E : XK}
    (z : Glob K mg D) (hD : D.K = K) (hr : Room d (A.deeper (envOfC "_law_bad_pattern" (defScope (top 35)) s.heap.objs.size f cdv))) (hgd : (A.deeper (envOfC "_law_bad_pattern" (defScope (top 35)) s.heap.objs.size f cdv)).guards = some []) (hc : Calls P w K mg base (A.deeper (envOfC "_law_bad_pattern" (defScope (top 35)) s.heap.objs.size f cdv)) D (lvl + 1) Γ T) :
    PSs (cxOf (L2.CX P w) P w K mg base N__law_bad_pattern "_law_bad_pattern" (defScope (top 35)) f cdv A outer s H E) (defBody (top 35)) (tS D lvl (fun cls d _ H => E cls d H) (b__law_bad_pattern Γ)) := by
  have hu : (cxOf (L2.CX P w) P w K mg base N__law_bad_pattern "_law_bad_pattern" (defScope (top 35)) f cdv A outer s H E).A.units + 64 < cLine := hr.units
  have hdp : (cxOf (L2.CX P w) P w K mg base N__law_bad_pattern "_law_bad_pattern" (defScope (top 35)) f cdv A outer s H E).A.depth + 5 < recursionLimit := (by have := hr.dp; omega : (A.deeper (envOfC "_law_bad_pattern" (defScope (top 35)) s.heap.objs.size f cdv)).depth + 5 < recursionLimit)
  have hh : (cxOf (L2.CX P w) P w K mg base N__law_bad_pattern "_law_bad_pattern" (defScope (top 35)) f cdv A outer s H E).A.handled = none := hr.hd
  have hu1 : (cxOf (L2.CX P w) P w K mg base N__law_bad_pattern "_law_bad_pattern" (defScope (top 35)) f cdv A outer s H E).A.units + 65 < cLine := (by have := hr.un; omega : (A.deeper (envOfC "_law_bad_pattern" (defScope (top 35)) s.heap.objs.size f cdv)).units + 65 < cLine)
  have hu0 : (cxOf (L2.CX P w) P w K mg base N__law_bad_pattern "_law_bad_pattern" (defScope (top 35)) f cdv A outer s H E).A.units + 1 < cLine := hu_of hr
  have tk : Takes (cxOf (L2.CX P w) P w K mg base N__law_bad_pattern "_law_bad_pattern" (defScope (top 35)) f cdv A outer s H E) (fun cls d _ H => E cls d H) := takes_of rfl rfl rfl rfl
  have hp : PassesOwn (model P w) (cxOf (L2.CX P w) P w K mg base N__law_bad_pattern "_law_bad_pattern" (defScope (top 35)) f cdv A outer s H E).A (cxOf (L2.CX P w) P w K mg base N__law_bad_pattern "_law_bad_pattern" (defScope (top 35)) f cdv A outer s H E).env (cxOf (L2.CX P w) P w K mg base N__law_bad_pattern "_law_bad_pattern" (defScope (top 35)) f cdv A outer s H E).xe := passes_of rfl
  exact sss_cons (ss_set (fun _ h => ps_set (i := 2) sc__law_bad_pattern.nd rfl (by first | exact Or.inl rfl | exact Or.inr rfl) h) (se_call (hc 5 _ rfl) tk rfl (sa_cons (se_var (pv 0)) (sa_cons (se_bin ops_add (so_of (se_b cs_len rfl z.b_len boot_len (so_cons (so_var (pv 1)) (so_nil)))) (so_of (se_int))) (sa_nil))) (hl := (len_cons (len_cons (fun _ _ _ => len_nil)))))) (sss_cons (ss_set (fun _ h => ps_set (i := 3) sc__law_bad_pattern.nd rfl (by first | exact Or.inl rfl | exact Or.inr rfl) h) (se_bin ops_add (so_of (se_bin ops_add (so_of (se_cut hD (so_var (pv 1)) (sp_none) (sp_some (se_var (pv 2))))) (so_of (se_call (hc 6 _ rfl) tk rfl (sa_cons (se_var (pv 0)) (sa_cons (se_of (sf_lst (sa_cons (se_str eq_c32 ok_c32) (sa_cons (se_str eq_c97 ok_c97) (sa_cons (se_str eq_c49 ok_c49) (sa_cons (se_str eq_c45 ok_c45) (sa_cons (se_str eq_c91 ok_c91) (sa_cons (se_str eq_c64 ok_c64) (sa_nil))))))))) (sa_nil))) (hl := (len_cons (len_cons (fun _ _ _ => len_nil)))))))) (so_of (se_cut hD (so_var (pv 1)) (sp_some (se_bin ops_add (so_var (pv 2)) (so_of (se_int)))) (sp_none))))) (sss_cons (ss_own (fun _ h => ps_set (i := 4) sc__law_bad_pattern.nd rfl (by first | exact Or.inl rfl | exact Or.inr rfl) h) (sf_lst (sa_cons (se_str eq_empty ok_empty) (sa_cons (se_meth0 (.inl ⟨rfl, rfl⟩) ms_lower PySem.F.plainAttrs_str PySem.F.slot_str_lower PySem.F.type_str_lower (so_var (pv 1))) (sa_cons (se_bin ops_add (so_var (pv 1)) (so_of (se_str eq_c97 ok_c97))) (sa_cons (se_bin ops_add (so_of (se_str eq_c32 ok_c32)) (so_var (pv 1))) (sa_cons (se_non) (sa_cons (se_int) (sa_cons (se_bl) (sa_cons (se_tup (sa_cons (se_var (pv 1)) (sa_nil))) (sa_cons (se_of (sf_lst (sa_cons (se_var (pv 1)) (sa_nil)))) (sa_cons (se_of (sf_ty (cf_list' rfl) rfl z.b_list boot_list (so_cons (so_var (pv 1)) (so_nil)))) (sa_nil))))))))))))) (sss_one (ss_retCall (hc 6 _ rfl) tk rfl (sa_cons (se_var (pv 0)) (sa_cons (se_bin ops_add (so_var (pv 4)) (so_of (se_of (sf_lst (sa_cons (se_var (pv 3)) (sa_cons (se_var (pv 3)) (sa_cons (se_str eq_s_ABCDEFGH ok_s_ABCDEFGH) (sa_cons (se_bin ops_mul (so_of (se_str eq_c65 ok_c65)) (so_of (se_int))) (sa_cons (se_bin ops_add (so_var (pv 1)) (so_of (se_str eq_c49 ok_c49))) (sa_cons (se_str eq_s_5 ok_s_5) (sa_nil))))))))))) (sa_nil))) (hl := (len_cons (len_cons (fun _ _ _ => len_nil))))))))
abbrev N__law_renamed : List Str := ["text", "letters", "others", "letter"]
theorem sc__law_renamed : FnScope N__law_renamed ["text", "letters", "others"] (defScope (top 36)) := ⟨rfl, rfl, rfl, by decide +kernel, rfl, by decide +kernel, by decide +kernel⟩
theorem d__law_renamed {P : Program} {w : World} {K : PySem.W.Frag} {mg : Str → Option Value} {base : Heap} {D : Stat} {Γ : Env} {d lvl : Nat} {f : Addr} {cdv : Value} {A : Around} {outer : List PySem.Env} {s : Shared} {H : Hp} {E : XK}
    (z : Glob K mg D) (hD : D.K = K) (hr : Room d (A.deeper (envOfC "_law_renamed" (defScope (top 36)) s.heap.objs.size f cdv))) (hgd : (A.deeper (envOfC "_law_renamed" (defScope (top 36)) s.heap.objs.size f cdv)).guards = some []) (hc : Calls P w K mg base (A.deeper (envOfC "_law_renamed" (defScope (top 36)) s.heap.objs.size f cdv)) D (lvl + 1) Γ T) :
    PSs (cxOf (L2.CX P w) P w K mg base N__law_renamed "_law_renamed" (defScope (top 36)) f cdv A outer s H E) (defBody (top 36)) (tS D lvl (fun cls d _ H => E cls d H) (b__law_renamed Γ)) := by
  have hu : (cxOf (L2.CX P w) P w K mg base N__law_renamed "_law_renamed" (defScope (top 36)) f cdv A outer s H E).A.units + 64 < cLine := hr.units
  have hdp : (cxOf (L2.CX P w) P w K mg base N__law_renamed "_law_renamed" (defScope (top 36)) f cdv A outer s H E).A.depth + 5 < recursionLimit := (by have := hr.dp; omega : (A.deeper (envOfC "_law_renamed" (defScope (top 36)) s.heap.objs.size f cdv)).depth + 5 < recursionLimit)
  have hh : (cxOf (L2.CX P w) P w K mg base N__law_renamed "_law_renamed" (defScope (top 36)) f cdv A outer s H E).A.handled = none := hr.hd
  have hu1 : (cxOf (L2.CX P w) P w K mg base N__law_renamed "_law_renamed" (defScope (top 36)) f cdv A outer s H E).A.units + 65 < cLine := (by have := hr.un; omega : (A.deeper (envOfC "_law_renamed" (defScope (top 36)) s.heap.objs.size f cdv)).units + 65 < cLine)
  have hu0 : (cxOf (L2.CX P w) P w K mg base N__law_renamed "_law_renamed" (defScope (top 36)) f cdv A outer s H E).A.units + 1 < cLine := hu_of hr
  have tk : Takes (cxOf (L2.CX P w) P w K mg base N__law_renamed "_law_renamed" (defScope (top 36)) f cdv A outer s H E) (fun cls d _ H => E cls d H) := takes_of rfl rfl rfl rfl
  have hp : PassesOwn (model P w) (cxOf (L2.CX P w) P w K mg base N__law_renamed "_law_renamed" (defScope (top 36)) f cdv A outer s H E).A (cxOf (L2.CX P w) P w K mg base N__law_renamed "_law_renamed" (defScope (top 36)) f cdv A outer s H E).env (cxOf (L2.CX P w) P w K mg base N__law_renamed "_law_renamed" (defScope (top 36)) f cdv A outer s H E).xe := passes_of rfl
  exact sss_one (ss_ret (se_meth (.inl ⟨rfl, rfl⟩) ms_join PySem.F.plainAttrs_str PySem.F.slot_str_join PySem.F.type_str_join (so_of (se_str eq_empty ok_empty)) (so_cons (so_of (se_of (sf_lc (own := [("letter", 3)]) rfl rfl sc__law_renamed.nd (si_seq (se_var (pv 0))) (blkOk_by (N := N__law_renamed) (sc := defScope (top 36)) (by decide +kernel)) (fun _ _ _ _ _ => sg_name (pg_name (i := 3) sc__law_renamed.nd rfl (by first | exact Or.inl rfl | exact Or.inr rfl))) (fun _ _ _ _ _ => sts_nil) (fun _ _ _ _ _ => se_ix hu0 (so_var (pv 2)) (so_of (se_index hu1 (so_var (pv 1)) (so_cons (so_var (pv 3)) (so_nil)))) (fun _ _ => rfl))))) (so_nil))))
abbrev N_law : List Str := ["script", "pen", "turn", "pattern", "letters", "side", "turned", "fresh", "others", "renamed", "due", "own", "parts", "free", "part", "k", "letter"]
theorem sc_law : FnScope N_law ["script"] (defScope (top 37)) := ⟨rfl, rfl, rfl, by decide +kernel, rfl, by decide +kernel, by decide +kernel⟩
theorem d_law {P : Program} {w : World} {K : PySem.W.Frag} {mg : Str → Option Value} {base : Heap} {D : Stat} {Γ : Env} {d lvl : Nat} {f : Addr} {cdv : Value} {A : Around} {outer : List PySem.Env} {s : Shared} {H : Hp} {E : XK}
    (z : Glob K mg D) (hD : D.K = K) (hr : Room d (A.deeper (envOfC "law" (defScope (top 37)) s.heap.objs.size f cdv))) (hgd : (A.deeper (envOfC "law" (defScope (top 37)) s.heap.objs.size f cdv)).guards = some []) (hc : Calls P w K mg base (A.deeper (envOfC "law" (defScope (top 37)) s.heap.objs.size f cdv)) D (lvl + 1) Γ T) :
    PSs (cxOf (L2.CX P w) P w K mg base N_law "law" (defScope (top 37)) f cdv A outer s H E) (defBody (top 37)) (tS D lvl (fun cls d _ H => E cls d H) (b_law Γ)) := by
  have hu : (cxOf (L2.CX P w) P w K mg base N_law "law" (defScope (top 37)) f cdv A outer s H E).A.units + 64 < cLine := hr.units
  have hdp : (cxOf (L2.CX P w) P w K mg base N_law "law" (defScope (top 37)) f cdv A outer s H E).A.depth + 5 < recursionLimit := (by have := hr.dp; omega : (A.deeper (envOfC "law" (defScope (top 37)) s.heap.objs.size f cdv)).depth + 5 < recursionLimit)
  have hh : (cxOf (L2.CX P w) P w K mg base N_law "law" (defScope (top 37)) f cdv A outer s H E).A.handled = none := hr.hd
  have hu1 : (cxOf (L2.CX P w) P w K mg base N_law "law" (defScope (top 37)) f cdv A outer s H E).A.units + 65 < cLine := (by have := hr.un; omega : (A.deeper (envOfC "law" (defScope (top 37)) s.heap.objs.size f cdv)).units + 65 < cLine)
  have hu0 : (cxOf (L2.CX P w) P w K mg base N_law "law" (defScope (top 37)) f cdv A outer s H E).A.units + 1 < cLine := hu_of hr
  have tk : Takes (cxOf (L2.CX P w) P w K mg base N_law "law" (defScope (top 37)) f cdv A outer s H E) (fun cls d _ H => E cls d H) := takes_of rfl rfl rfl rfl
  have hp : PassesOwn (model P w) (cxOf (L2.CX P w) P w K mg base N_law "law" (defScope (top 37)) f cdv A outer s H E).A (cxOf (L2.CX P w) P w K mg base N_law "law" (defScope (top 37)) f cdv A outer s H E).env (cxOf (L2.CX P w) P w K mg base N_law "law" (defScope (top 37)) f cdv A outer s H E).xe := passes_of rfl
  exact sss_cons (ss_set (fun _ h => ps_set (i := 1) sc_law.nd rfl (by first | exact Or.inl rfl | exact Or.inr rfl) h) (se_call (hc 9 _ rfl) tk rfl (sa_cons (se_var (pv 0)) (sa_nil)) (hl := (len_cons (fun _ _ _ => len_nil))))) (sss_cons (ss_for (ws := [2]) hp rfl (si_range1 rfl z.b_range (sa_cons (se_int) (sa_nil))) (sg_name (pg_name (i := 2) sc_law.nd rfl (by first | exact Or.inl rfl | exact Or.inr rfl))) (sss_cons (ss_set (fun _ h => ps_set (i := 3) sc_law.nd rfl (by first | exact Or.inl rfl | exact Or.inr rfl) h) (se_call (hc 10 _ rfl) tk rfl (sa_cons (se_call (hc 11 _ rfl) tk rfl (sa_cons (se_var (pv 1)) (sa_nil)) (hl := (len_cons (fun _ _ _ => len_nil)))) (sa_cons (se_int) (sa_cons (se_int) (sa_nil)))) (hl := (len_cons (len_cons (len_cons (fun _ _ _ => len_nil))))))) (sss_cons (ss_par (fun _ h => ps_par (i := 12) (j := 13) rfl sc_law.nd rfl rfl (by decide) rfl rfl h rfl) (sa_cons (se_call (hc 83 _ rfl) tk rfl (sa_cons (se_var (pv 3)) (sa_nil)) (hl := (len_cons (fun _ _ _ => len_nil)))) (sa_cons (se_call (hc 84 _ rfl) tk rfl (sa_cons (se_var (pv 3)) (sa_nil)) (hl := (len_cons (fun _ _ _ => len_nil)))) (sa_nil)))) (sss_cons (ss_set (fun _ h => ps_set (i := 4) sc_law.nd rfl (by first | exact Or.inl rfl | exact Or.inr rfl) h) (se_call (hc 8 _ rfl) tk rfl (sa_cons (se_var (pv 3)) (sa_nil)) (hl := (len_cons (fun _ _ _ => len_nil))))) (sss_cons (ss_for (ws := [5]) hp rfl (si_range1 rfl z.b_range (sa_cons (se_int) (sa_nil))) (sg_name (pg_name (i := 5) sc_law.nd rfl (by first | exact Or.inl rfl | exact Or.inr rfl))) (sss_one (ss_if (st_cmp (ops_ne hu) (so_of (se_of (sf_b (cf_sorted' rfl hu) rfl z.b_sorted boot_sorted' (so_cons (so_of (se_meth (.inl ⟨rfl, rfl⟩) ms_join PySem.F.plainAttrs_str PySem.F.slot_str_join PySem.F.type_str_join (so_of (se_str eq_empty ok_empty)) (so_cons (so_of (se_of (sf_lc (own := [("part", 14)]) rfl rfl sc_law.nd (si_seq (se_var (pv 12))) (blkOk_by (N := N_law) (sc := defScope (top 37)) (by decide +kernel)) (fun _ _ _ _ _ => sg_name (pg_name (i := 14) sc_law.nd rfl (by first | exact Or.inl rfl | exact Or.inr rfl))) (fun _ _ _ _ _ => sts_nil) (fun _ _ _ _ _ => se_ix hu0 (so_var (pv 14)) (so_var (pv 5)) (fun _ _ => rfl))))) (so_nil)))) (so_nil))))) (so_of (se_of (sf_b (cf_sorted' rfl hu) rfl z.b_sorted boot_sorted' (so_cons (so_var (pv 4)) (so_nil))))) (nomark _)) (sss_one (ss_ret (se_bl))) (sss_nil)))) (sss_cons (ss_ownLc (i := 6) (own := [("part", 14)]) rfl rfl sc_law.nd rfl rfl (sw_true rfl rfl rfl (by decide +kernel)) (si_seq (se_call (hc 83 _ rfl) tk rfl (sa_cons (se_rev (se_var (pv 3))) (sa_nil)) (hl := (len_cons (fun _ _ _ => len_nil))))) (blkOk_by (N := N_law) (sc := defScope (top 37)) (by decide +kernel)) (fun _ _ _ _ _ => sg_name (pg_name (i := 14) sc_law.nd rfl (by first | exact Or.inl rfl | exact Or.inr rfl))) (fun _ _ _ _ _ => sts_nil) (fun _ _ _ _ _ => se_tup (sa_cons (se_ix hu0 (so_var (pv 14)) (so_of (se_int)) (fun _ _ => rfl)) (sa_cons (se_ix hu0 (so_var (pv 14)) (so_of (se_int)) (fun _ _ => rfl)) (sa_nil))))) (sss_cons (ss_if (PW.pt (sw_or (st_cmp (ops_ne hu) (so_of (se_of (sf_b (cf_sorted' rfl hu) rfl z.b_sorted boot_sorted' (so_cons (so_var (pv 6)) (so_nil))))) (so_var (pv 12)) (nomark _)) (sw_or1 (st_cmp (ops_ne hu) (so_of (se_call (hc 84 _ rfl) tk rfl (sa_cons (se_rev (se_var (pv 3))) (sa_nil)) (hl := (len_cons (fun _ _ _ => len_nil))))) (so_var (pv 13)) (nomark _))))) (sss_one (ss_ret (se_bl))) (sss_nil)) (sss_cons (ss_set (fun _ h => ps_set (i := 7) sc_law.nd rfl (by first | exact Or.inl rfl | exact Or.inr rfl) h) (se_call (hc 6 _ rfl) tk rfl (sa_cons (se_var (pv 1)) (sa_cons (se_of (sf_lst (sa_cons (se_str eq_s_HIJKLMN ok_s_HIJKLMN) (sa_cons (se_str eq_s_TUVWXYZ ok_s_TUVWXYZ) (sa_cons (se_str eq_s_GFEDCBA ok_s_GFEDCBA) (sa_nil)))))) (sa_nil))) (hl := (len_cons (len_cons (fun _ _ _ => len_nil)))))) (sss_cons (ss_own (fun _ h => ps_set (i := 8) sc_law.nd rfl (by first | exact Or.inl rfl | exact Or.inr rfl) h) (sf_lc (own := [("k", 15)]) rfl rfl sc_law.nd (si_seq (se_call (hc 7 _ rfl) tk rfl (sa_cons (se_var (pv 1)) (sa_cons (se_b cs_len rfl z.b_len boot_len (so_cons (so_var (pv 4)) (so_nil))) (sa_nil))) (hl := (len_cons (len_cons (fun _ _ _ => len_nil)))))) (blkOk_by (N := N_law) (sc := defScope (top 37)) (by decide +kernel)) (fun _ _ _ _ _ => sg_name (pg_name (i := 15) sc_law.nd rfl (by first | exact Or.inl rfl | exact Or.inr rfl))) (fun _ _ _ _ _ => sts_nil) (fun _ _ _ _ _ => se_ix hu0 (so_var (pv 7)) (so_var (pv 15)) (fun _ _ => rfl)))) (sss_cons (ss_set (fun _ h => ps_set (i := 9) sc_law.nd rfl (by first | exact Or.inl rfl | exact Or.inr rfl) h) (se_call (hc 13 _ rfl) tk rfl (sa_cons (se_var (pv 3)) (sa_cons (se_var (pv 4)) (sa_cons (se_var (pv 8)) (sa_nil)))) (hl := (len_cons (len_cons (len_cons (fun _ _ _ => len_nil))))))) (sss_cons (ss_ownLc (i := 10) (own := [("own", 11)]) rfl rfl sc_law.nd rfl rfl (sw_true rfl rfl rfl (by decide +kernel)) (si_seq (se_var (pv 13))) (blkOk_by (N := N_law) (sc := defScope (top 37)) (by decide +kernel)) (fun _ _ _ _ _ => sg_name (pg_name (i := 11) sc_law.nd rfl (by first | exact Or.inl rfl | exact Or.inr rfl))) (fun _ _ _ _ _ => sts_nil) (fun _ _ _ _ _ => se_call (hc 41 _ rfl) W0.takes rfl (sa_cons (se_call (hc 13 _ rfl) W0.takes rfl (sa_cons (se_var (pv 11)) (sa_cons (se_var (pv 4)) (sa_cons (se_var (pv 8)) (sa_nil)))) (hl := (len_cons (len_cons (len_cons (fun _ _ _ => len_nil)))))) (sa_nil)) (hl := (len_cons (fun _ _ _ => len_nil))))) (sss_cons (ss_if (st_cmp (ops_ne hu) (so_of (se_of (sf_b (cf_sorted' rfl hu) rfl z.b_sorted boot_sorted' (so_cons (so_of (se_call (hc 84 _ rfl) tk rfl (sa_cons (se_var (pv 9)) (sa_nil)) (hl := (len_cons (fun _ _ _ => len_nil))))) (so_nil))))) (so_of (se_of (sf_b (cf_sorted' rfl hu) rfl z.b_sorted boot_sorted' (so_cons (so_var (pv 10)) (so_nil))))) (nomark _)) (sss_one (ss_ret (se_bl))) (sss_nil)) (sss_one (ss_for (ws := [11]) hp rfl (si_seq (se_cut hD (so_var (pv 13)) (sp_some (se_neg (se_int))) (sp_none))) (sg_name (pg_name (i := 11) sc_law.nd rfl (by first | exact Or.inl rfl | exact Or.inr rfl))) (sss_cons (ss_if (st_cmp (ops_ne hu) (so_of (se_of (sf_lc (own := [("letter", 16)]) rfl rfl sc_law.nd (si_seq (se_var (pv 11))) (blkOk_by (N := N_law) (sc := defScope (top 37)) (by decide +kernel)) (fun _ _ _ _ _ => sg_name (pg_name (i := 16) sc_law.nd rfl (by first | exact Or.inl rfl | exact Or.inr rfl))) (fun _ _ _ _ _ => sts_one (st_not (st_val (se_call (hc 235 _ rfl) W0.takes rfl (sa_cons (se_var (pv 3)) (sa_cons (se_var (pv 16)) (sa_nil))) (hl := (len_cons (len_cons (fun _ _ _ => len_nil)))))))) (fun _ _ _ _ _ => se_var (pv 16))))) (so_of (se_of (sf_lst (sa_nil)))) (nomark _)) (sss_one (ss_ret (se_bl))) (sss_nil)) (sss_one (ss_if (st_cmp (ops_ne hu) (so_of (se_of (sf_lc (own := [("k", 15)]) rfl rfl sc_law.nd (si_range1 rfl z.b_range (sa_cons (se_bin ops_sub (so_of (se_b cs_len rfl z.b_len boot_len (so_cons (so_var (pv 3)) (so_nil)))) (so_of (se_int))) (sa_nil))) (blkOk_by (N := N_law) (sc := defScope (top 37)) (by decide +kernel)) (fun _ _ _ _ _ => sg_name (pg_name (i := 15) sc_law.nd rfl (by first | exact Or.inl rfl | exact Or.inr rfl))) (fun _ _ _ _ _ => sts_one (PW.pt (sw_and (st_cmp (ops_in hu1) (so_of (se_ix hu0 (so_var (pv 3)) (so_var (pv 15)) (fun _ _ => rfl))) (so_var (pv 11)) (by with_unfolding_all rfl)) (sw_and1 (st_cmp (ops_in hu1) (so_of (se_ix hu0 (so_var (pv 3)) (so_of (se_bin ops_add (so_var (pv 15)) (so_of (se_int)))) (fun _ _ => rfl))) (so_var (pv 11)) (by with_unfolding_all rfl)))))) (fun _ _ _ _ _ => se_var (pv 15))))) (so_of (se_of (sf_lst (sa_nil)))) (nomark _)) (sss_one (ss_ret (se_bl))) (sss_nil)))))))))))))))))) (sss_one (ss_ret (se_bl))))
end Mi
end S_Pr_k16
section S_Fi_k16
set_option Elab.async false
set_option linter.all false
set_option maxRecDepth 100000
set_option maxHeartbeats 4000000
namespace Mi
open PySem PySem.Spec PyProof.Rows L2
def fns : List He.DefD := [⟨("find_letters", none), "find_letters", "find_letters", defArgs (top 8), defBody (top 8), defScope (top 8), [], []⟩,
  ⟨("is_pattern", none), "is_pattern", "is_pattern", defArgs (top 9), defBody (top 9), defScope (top 9), [], []⟩,
  ⟨("require_pattern", none), "require_pattern", "require_pattern", defArgs (top 10), defBody (top 10), defScope (top 10), [], []⟩,
  ⟨("_law_spread", none), "_law_spread", "_law_spread", defArgs (top 26), defBody (top 26), defScope (top 26), [], []⟩,
  ⟨("_law_take", none), "_law_take", "_law_take", defArgs (top 29), defBody (top 29), defScope (top 29), [], []⟩,
  ⟨("_law_one", none), "_law_one", "_law_one", defArgs (top 30), defBody (top 30), defScope (top 30), [], []⟩,
  ⟨("_law_drawn", none), "_law_drawn", "_law_drawn", defArgs (top 31), defBody (top 31), defScope (top 31), [], []⟩,
  ⟨("_law_letters", none), "_law_letters", "_law_letters", defArgs (top 33), defBody (top 33), defScope (top 33), [], []⟩,
  ⟨("_law_open", none), "_law_open", "_law_open", defArgs (top 27), defBody (top 27), defScope (top 27), [], []⟩,
  ⟨("_law_pattern", none), "_law_pattern", "_law_pattern", defArgs (top 32), defBody (top 32), defScope (top 32), [], []⟩,
  ⟨("_law_anew", none), "_law_anew", "_law_anew", defArgs (top 28), defBody (top 28), defScope (top 28), [], []⟩,
  ⟨("_law_renamed", none), "_law_renamed", "_law_renamed", defArgs (top 36), defBody (top 36), defScope (top 36), [], []⟩,
  ⟨("find_joins", none), "find_joins", "find_joins", defArgs (top 12), defBody (top 12), defScope (top 12), [], []⟩,
  ⟨("merge", none), "merge", "merge", defArgs (top 13), defBody (top 13), defScope (top 13), [], []⟩,
  ⟨("find_components", none), "find_components", "find_components", defArgs (top 14), defBody (top 14), defScope (top 14), [], []⟩,
  ⟨("all_sets", none), "all_sets", "all_sets", defArgs (top 17), defBody (top 17), defScope (top 17), [], []⟩,
  ⟨("_law_set", none), "_law_set", "_law_set", defArgs (top 34), defBody (top 34), defScope (top 34), [], []⟩,
  ⟨("shares", none), "shares", "shares", defArgs (top 15), defBody (top 15), defScope (top 15), [], []⟩,
  ⟨("is_letter_set", none), "is_letter_set", "is_letter_set", defArgs (top 20), defBody (top 20), defScope (top 20), [], []⟩,
  ⟨("require_letters", none), "require_letters", "require_letters", defArgs (top 21), defBody (top 21), defScope (top 21), [], []⟩,
  ⟨("is_free_set", none), "is_free_set", "is_free_set", defArgs (top 16), defBody (top 16), defScope (top 16), [], []⟩,
  ⟨("find_free_sets", none), "find_free_sets", "find_free_sets", defArgs (top 19), defBody (top 19), defScope (top 19), [], []⟩,
  ⟨("joined", none), "joined", "joined", defArgs (top 22), defBody (top 22), defScope (top 22), [], []⟩,
  ⟨("free_sets", none), "free_sets", "free_sets", defArgs (top 24), defBody (top 24), defScope (top 24), [], []⟩,
  ⟨("_law_bad_pattern", none), "_law_bad_pattern", "_law_bad_pattern", defArgs (top 35), defBody (top 35), defScope (top 35), [], []⟩,
  ⟨("is_free", none), "is_free", "is_free", defArgs (top 23), defBody (top 23), defScope (top 23), [], []⟩,
  ⟨("law", none), "law", "law", defArgs (top 37), defBody (top 37), defScope (top 37), [], []⟩,
  ⟨("size_and_letters", none), "size_and_letters", "size_and_letters", defArgs (top 18), defBody (top 18), defScope (top 18), [], []⟩]
def fas : List He.Fa := [.glo "find_letters", .glo "is_pattern", .glo "require_pattern", .glo "_law_spread", .glo "_law_take", .glo "_law_one", .glo "_law_drawn", .glo "_law_letters", .glo "_law_open", .glo "_law_pattern", .glo "_law_anew", .glo "_law_renamed", .glo "find_joins", .glo "merge", .glo "find_components", .glo "all_sets", .glo "_law_set", .glo "shares", .glo "is_letter_set", .glo "require_letters", .glo "is_free_set", .glo "find_free_sets", .glo "joined", .glo "free_sets", .glo "_law_bad_pattern", .glo "is_free", .glo "law", .glo "size_and_letters", .free "all", .free "any", .free "enumerate", .free "isinstance", .free "len", .free "list", .free "range", .free "set", .free "sorted", .free "str", .str "CAPITALS" "ABCDEFGHIJKLMNOPQRSTUVWXYZ", .int "LONGEST_PATTERN" 20, .int "MOST_LETTERS" 7, .glo "InvalidLetters", .exc "InvalidLetters", .glo "InvalidPattern", .exc "InvalidPattern"]
abbrev OR : PySem.W.OpenRow := PySem.W.OpenLaw.row PySem.Challenge.rw_surepatterns_k16_whole_free_sets_of_chan
def fName (n : Nat) : Str := match n with
  | 1 => "find_letters"
  | 2 => "is_pattern"
  | 3 => "require_pattern"
  | 4 => "_law_spread"
  | 5 => "_law_take"
  | 6 => "_law_one"
  | 7 => "_law_drawn"
  | 8 => "_law_letters"
  | 9 => "_law_open"
  | 10 => "_law_pattern"
  | 11 => "_law_anew"
  | 13 => "_law_renamed"
  | 31 => "find_joins"
  | 32 => "merge"
  | 33 => "find_components"
  | 36 => "all_sets"
  | 41 => "_law_set"
  | 78 => "shares"
  | 79 => "is_letter_set"
  | 80 => "require_letters"
  | 81 => "is_free_set"
  | 82 => "find_free_sets"
  | 83 => "joined"
  | 84 => "free_sets"
  | 161 => "_law_bad_pattern"
  | 235 => "is_free"
  | 278 => "law"
  | 303 => "size_and_letters"
  | _ => ""
def cName (n : Nat) : Str := match n with
  | 8 => "InvalidLetters"
  | 1 => "InvalidPattern"
  | _ => ""
def Dk (K : PySem.W.Frag) : Stat := ⟨K, fun c => He.ga K (cName c), fun n => He.ga K (fName n)⟩
def exF (K : PySem.W.Frag) : Bool := chkX K (Dk K).ca anc xks
abbrev hk : PySem.W.Hook := He.hookX 4 fas fns [] [] exF
def ob (s : PySem.W.SharedT) : He.AlX := He.obsX 4 fas fns [] [] exF (HandSHeadRun.getT s)
theorem ob_eq (s : PySem.W.SharedT) : ob s = hk.obs s.abs := He.obsX_eq (HandSHeadRun.getT_eq s)
def loose : List PySem.Str := (["__name__", "PatternError", "InvalidPattern", "InvalidLetters", "CAPITALS", "LONGEST_PATTERN", "MOST_LETTERS", "find_letters", "is_pattern", "require_pattern", "find_joins", "merge", "find_components", "shares", "is_free_set", "all_sets", "size_and_letters", "find_free_sets", "is_letter_set", "require_letters", "joined", "is_free", "free_sets", "_law_spread", "_law_open", "_law_anew", "_law_take", "_law_one", "_law_drawn", "_law_pattern"] : List PySem.Str) ++ (["_law_letters", "_law_set", "_law_bad_pattern", "_law_renamed"] : List PySem.Str)
theorem run (w : World) : HandSHeadRun.RunEq OR (PySem.W.view OR.prog [37]) hk ob 6000 loose w := by
  intro os
  kernel_rfl
section
variable {P : Program} {w : World} {K : PySem.W.Frag} {h : Heap} {mg : Str → Option Value} {base : Heap}
theorem glob (X : K.In h) (G : h.Ns mainGlobals mg) (c : He.SaysD fas fns K) (cx : exF K = true) : Glob K mg (Dk K) where
  b_all := He.free_ok X G (c.fact 28 rfl)
  b_any := He.free_ok X G (c.fact 29 rfl)
  b_enumerate := He.free_ok X G (c.fact 30 rfl)
  b_isinstance := He.free_ok X G (c.fact 31 rfl)
  b_len := He.free_ok X G (c.fact 32 rfl)
  b_list := He.free_ok X G (c.fact 33 rfl)
  b_range := He.free_ok X G (c.fact 34 rfl)
  b_set := He.free_ok X G (c.fact 35 rfl)
  b_sorted := He.free_ok X G (c.fact 36 rfl)
  b_str := He.free_ok X G (c.fact 37 rfl)
  c_CAPITALS := (by have q := He.str_ok X G (c.fact 38 rfl); rw [eq_cCAPS] at q; exact q)
  c_LONGEST_PATTERN := He.int_ok X G (c.fact 39 rfl)
  c_MOST_LETTERS := He.int_ok X G (c.fact 40 rfl)
  x_InvalidLetters := (by have q := He.exc_ok (c.fact 42 rfl); exact ⟨He.glo_ok X G (c.fact 41 rfl), q.1, q.2.1, q.2.2.1, q.2.2.2⟩)
  x_InvalidPattern := (by have q := He.exc_ok (c.fact 44 rfl); exact ⟨He.glo_ok X G (c.fact 43 rfl), q.1, q.2.1, q.2.2.1, q.2.2.2⟩)
  kn_size_and_letters := He.glo_ok X G (c.fact 27 rfl)
  k_size_and_letters := fun P w base => key_of (c.def_ 27 rfl) sc_size_and_letters rfl (fun _ _ _ _ _ _ us hl => match us, hl with | [_], _ => rfl) (by decide +kernel) (by decide) (He.free_ok X G (c.fact 32 rfl)) (fun _ _ _ _ => rfl)
  cx := cx
theorem t_cases {p : Nat → Fd → Prop} (h1 : p 1 F_find_letters) (h2 : p 2 F_is_pattern) (h3 : p 3 F_require_pattern) (h4 : p 4 F__law_spread) (h5 : p 5 F__law_take) (h6 : p 6 F__law_one) (h7 : p 7 F__law_drawn) (h8 : p 8 F__law_letters) (h9 : p 9 F__law_open) (h10 : p 10 F__law_pattern) (h11 : p 11 F__law_anew) (h13 : p 13 F__law_renamed) (h31 : p 31 F_find_joins) (h32 : p 32 F_merge) (h33 : p 33 F_find_components) (h36 : p 36 F_all_sets) (h41 : p 41 F__law_set) (h78 : p 78 F_shares) (h79 : p 79 F_is_letter_set) (h80 : p 80 F_require_letters) (h81 : p 81 F_is_free_set) (h82 : p 82 F_find_free_sets) (h83 : p 83 F_joined) (h84 : p 84 F_free_sets) (h161 : p 161 F__law_bad_pattern) (h235 : p 235 F_is_free) (h278 : p 278 F_law) (h303 : p 303 F_size_and_letters) : ∀ n F, T n = some F → p n F := by
  intro n F h
  unfold T at h
  split at h <;> first | (cases h; assumption) | cases h
theorem stand (X : K.In h) (G : h.Ns mainGlobals mg) (c : He.SaysD fas fns K) : Stand K mg (Dk K) T :=
  t_cases ⟨He.glo_ok X G (c.fact 0 rfl), (c.def_ 0 rfl).elim fun _ F => F.kp⟩ ⟨He.glo_ok X G (c.fact 1 rfl), (c.def_ 1 rfl).elim fun _ F => F.kp⟩ ⟨He.glo_ok X G (c.fact 2 rfl), (c.def_ 2 rfl).elim fun _ F => F.kp⟩ ⟨He.glo_ok X G (c.fact 3 rfl), (c.def_ 3 rfl).elim fun _ F => F.kp⟩ ⟨He.glo_ok X G (c.fact 4 rfl), (c.def_ 4 rfl).elim fun _ F => F.kp⟩ ⟨He.glo_ok X G (c.fact 5 rfl), (c.def_ 5 rfl).elim fun _ F => F.kp⟩ ⟨He.glo_ok X G (c.fact 6 rfl), (c.def_ 6 rfl).elim fun _ F => F.kp⟩ ⟨He.glo_ok X G (c.fact 7 rfl), (c.def_ 7 rfl).elim fun _ F => F.kp⟩ ⟨He.glo_ok X G (c.fact 8 rfl), (c.def_ 8 rfl).elim fun _ F => F.kp⟩ ⟨He.glo_ok X G (c.fact 9 rfl), (c.def_ 9 rfl).elim fun _ F => F.kp⟩ ⟨He.glo_ok X G (c.fact 10 rfl), (c.def_ 10 rfl).elim fun _ F => F.kp⟩ ⟨He.glo_ok X G (c.fact 11 rfl), (c.def_ 11 rfl).elim fun _ F => F.kp⟩ ⟨He.glo_ok X G (c.fact 12 rfl), (c.def_ 12 rfl).elim fun _ F => F.kp⟩ ⟨He.glo_ok X G (c.fact 13 rfl), (c.def_ 13 rfl).elim fun _ F => F.kp⟩ ⟨He.glo_ok X G (c.fact 14 rfl), (c.def_ 14 rfl).elim fun _ F => F.kp⟩ ⟨He.glo_ok X G (c.fact 15 rfl), (c.def_ 15 rfl).elim fun _ F => F.kp⟩ ⟨He.glo_ok X G (c.fact 16 rfl), (c.def_ 16 rfl).elim fun _ F => F.kp⟩ ⟨He.glo_ok X G (c.fact 17 rfl), (c.def_ 17 rfl).elim fun _ F => F.kp⟩ ⟨He.glo_ok X G (c.fact 18 rfl), (c.def_ 18 rfl).elim fun _ F => F.kp⟩ ⟨He.glo_ok X G (c.fact 19 rfl), (c.def_ 19 rfl).elim fun _ F => F.kp⟩ ⟨He.glo_ok X G (c.fact 20 rfl), (c.def_ 20 rfl).elim fun _ F => F.kp⟩ ⟨He.glo_ok X G (c.fact 21 rfl), (c.def_ 21 rfl).elim fun _ F => F.kp⟩ ⟨He.glo_ok X G (c.fact 22 rfl), (c.def_ 22 rfl).elim fun _ F => F.kp⟩ ⟨He.glo_ok X G (c.fact 23 rfl), (c.def_ 23 rfl).elim fun _ F => F.kp⟩ ⟨He.glo_ok X G (c.fact 24 rfl), (c.def_ 24 rfl).elim fun _ F => F.kp⟩ ⟨He.glo_ok X G (c.fact 25 rfl), (c.def_ 25 rfl).elim fun _ F => F.kp⟩ ⟨He.glo_ok X G (c.fact 26 rfl), (c.def_ 26 rfl).elim fun _ F => F.kp⟩ ⟨He.glo_ok X G (c.fact 27 rfl), (c.def_ 27 rfl).elim fun _ F => F.kp⟩
theorem bs_find_letters (c : He.SaysD fas fns K) : ∃ fd, FunD K "find_letters" "find_letters" (defArgs (top 8)) (defBody (top 8)) (defScope (top 8)) [] [] ((Dk K).fa 1) fd ∧ Binds K fd ["pattern"] [] := by
  obtain ⟨fd, F⟩ := c.def_ 0 rfl
  exact ⟨fd, F, F.bindsN (fun _ _ _ _ _ _ us hl => match us, hl with | [_], _ => rfl)⟩
theorem bs_is_pattern (c : He.SaysD fas fns K) : ∃ fd, FunD K "is_pattern" "is_pattern" (defArgs (top 9)) (defBody (top 9)) (defScope (top 9)) [] [] ((Dk K).fa 2) fd ∧ Binds K fd ["value"] [] := by
  obtain ⟨fd, F⟩ := c.def_ 1 rfl
  exact ⟨fd, F, F.bindsN (fun _ _ _ _ _ _ us hl => match us, hl with | [_], _ => rfl)⟩
theorem bs_require_pattern (c : He.SaysD fas fns K) : ∃ fd, FunD K "require_pattern" "require_pattern" (defArgs (top 10)) (defBody (top 10)) (defScope (top 10)) [] [] ((Dk K).fa 3) fd ∧ Binds K fd ["value"] [] := by
  obtain ⟨fd, F⟩ := c.def_ 2 rfl
  exact ⟨fd, F, F.bindsN (fun _ _ _ _ _ _ us hl => match us, hl with | [_], _ => rfl)⟩
theorem bs__law_spread (c : He.SaysD fas fns K) : ∃ fd, FunD K "_law_spread" "_law_spread" (defArgs (top 26)) (defBody (top 26)) (defScope (top 26)) [] [] ((Dk K).fa 4) fd ∧ Binds K fd ["cell", "at"] [] := by
  obtain ⟨fd, F⟩ := c.def_ 3 rfl
  exact ⟨fd, F, F.bindsN (fun _ _ _ _ _ _ us hl => match us, hl with | [_, _], _ => rfl)⟩
theorem bs__law_take (c : He.SaysD fas fns K) : ∃ fd, FunD K "_law_take" "_law_take" (defArgs (top 29)) (defBody (top 29)) (defScope (top 29)) [] [] ((Dk K).fa 5) fd ∧ Binds K fd ["pen", "many"] [] := by
  obtain ⟨fd, F⟩ := c.def_ 4 rfl
  exact ⟨fd, F, F.bindsN (fun _ _ _ _ _ _ us hl => match us, hl with | [_, _], _ => rfl)⟩
theorem bs__law_one (c : He.SaysD fas fns K) : ∃ fd, FunD K "_law_one" "_law_one" (defArgs (top 30)) (defBody (top 30)) (defScope (top 30)) [] [] ((Dk K).fa 6) fd ∧ Binds K fd ["pen", "some"] [] := by
  obtain ⟨fd, F⟩ := c.def_ 5 rfl
  exact ⟨fd, F, F.bindsN (fun _ _ _ _ _ _ us hl => match us, hl with | [_, _], _ => rfl)⟩
theorem bs__law_drawn (c : He.SaysD fas fns K) : ∃ fd, FunD K "_law_drawn" "_law_drawn" (defArgs (top 31)) (defBody (top 31)) (defScope (top 31)) [] [] ((Dk K).fa 7) fd ∧ Binds K fd ["pen", "many"] [] := by
  obtain ⟨fd, F⟩ := c.def_ 6 rfl
  exact ⟨fd, F, F.bindsN (fun _ _ _ _ _ _ us hl => match us, hl with | [_, _], _ => rfl)⟩
theorem bs__law_letters (c : He.SaysD fas fns K) : ∃ fd, FunD K "_law_letters" "_law_letters" (defArgs (top 33)) (defBody (top 33)) (defScope (top 33)) [] [] ((Dk K).fa 8) fd ∧ Binds K fd ["pattern"] [] := by
  obtain ⟨fd, F⟩ := c.def_ 7 rfl
  exact ⟨fd, F, F.bindsN (fun _ _ _ _ _ _ us hl => match us, hl with | [_], _ => rfl)⟩
theorem bs__law_open (c : He.SaysD fas fns K) : ∃ fd, FunD K "_law_open" "_law_open" (defArgs (top 27)) (defBody (top 27)) (defScope (top 27)) [] [] ((Dk K).fa 9) fd ∧ Binds K fd ["script"] [] := by
  obtain ⟨fd, F⟩ := c.def_ 8 rfl
  exact ⟨fd, F, F.bindsN (fun _ _ _ _ _ _ us hl => match us, hl with | [_], _ => rfl)⟩
theorem bs__law_pattern (c : He.SaysD fas fns K) : ∃ fd, FunD K "_law_pattern" "_law_pattern" (defArgs (top 32)) (defBody (top 32)) (defScope (top 32)) [] [] ((Dk K).fa 10) fd ∧ Binds K fd ["pen", "most", "kinds"] [] := by
  obtain ⟨fd, F⟩ := c.def_ 9 rfl
  exact ⟨fd, F, F.bindsN (fun _ _ _ _ _ _ us hl => match us, hl with | [_, _, _], _ => rfl)⟩
theorem bs__law_anew (c : He.SaysD fas fns K) : ∃ fd, FunD K "_law_anew" "_law_anew" (defArgs (top 28)) (defBody (top 28)) (defScope (top 28)) [] [] ((Dk K).fa 11) fd ∧ Binds K fd ["pen"] [] := by
  obtain ⟨fd, F⟩ := c.def_ 10 rfl
  exact ⟨fd, F, F.bindsN (fun _ _ _ _ _ _ us hl => match us, hl with | [_], _ => rfl)⟩
theorem bs__law_renamed (c : He.SaysD fas fns K) : ∃ fd, FunD K "_law_renamed" "_law_renamed" (defArgs (top 36)) (defBody (top 36)) (defScope (top 36)) [] [] ((Dk K).fa 13) fd ∧ Binds K fd ["text", "letters", "others"] [] := by
  obtain ⟨fd, F⟩ := c.def_ 11 rfl
  exact ⟨fd, F, F.bindsN (fun _ _ _ _ _ _ us hl => match us, hl with | [_, _, _], _ => rfl)⟩
theorem bs_find_joins (c : He.SaysD fas fns K) : ∃ fd, FunD K "find_joins" "find_joins" (defArgs (top 12)) (defBody (top 12)) (defScope (top 12)) [] [] ((Dk K).fa 31) fd ∧ Binds K fd ["pattern"] [] := by
  obtain ⟨fd, F⟩ := c.def_ 12 rfl
  exact ⟨fd, F, F.bindsN (fun _ _ _ _ _ _ us hl => match us, hl with | [_], _ => rfl)⟩
theorem bs_merge (c : He.SaysD fas fns K) : ∃ fd, FunD K "merge" "merge" (defArgs (top 13)) (defBody (top 13)) (defScope (top 13)) [] [] ((Dk K).fa 32) fd ∧ Binds K fd ["components", "pair"] [] := by
  obtain ⟨fd, F⟩ := c.def_ 13 rfl
  exact ⟨fd, F, F.bindsN (fun _ _ _ _ _ _ us hl => match us, hl with | [_, _], _ => rfl)⟩
theorem bs_find_components (c : He.SaysD fas fns K) : ∃ fd, FunD K "find_components" "find_components" (defArgs (top 14)) (defBody (top 14)) (defScope (top 14)) [] [] ((Dk K).fa 33) fd ∧ Binds K fd ["pattern"] [] := by
  obtain ⟨fd, F⟩ := c.def_ 14 rfl
  exact ⟨fd, F, F.bindsN (fun _ _ _ _ _ _ us hl => match us, hl with | [_], _ => rfl)⟩
theorem bs_all_sets (c : He.SaysD fas fns K) : ∃ fd, FunD K "all_sets" "all_sets" (defArgs (top 17)) (defBody (top 17)) (defScope (top 17)) [] [] ((Dk K).fa 36) fd ∧ Binds K fd ["letters"] [] := by
  obtain ⟨fd, F⟩ := c.def_ 15 rfl
  exact ⟨fd, F, F.bindsN (fun _ _ _ _ _ _ us hl => match us, hl with | [_], _ => rfl)⟩
theorem bs__law_set (c : He.SaysD fas fns K) : ∃ fd, FunD K "_law_set" "_law_set" (defArgs (top 34)) (defBody (top 34)) (defScope (top 34)) [] [] ((Dk K).fa 41) fd ∧ Binds K fd ["letters"] [] := by
  obtain ⟨fd, F⟩ := c.def_ 16 rfl
  exact ⟨fd, F, F.bindsN (fun _ _ _ _ _ _ us hl => match us, hl with | [_], _ => rfl)⟩
theorem bs_shares (c : He.SaysD fas fns K) : ∃ fd, FunD K "shares" "shares" (defArgs (top 15)) (defBody (top 15)) (defScope (top 15)) [] [] ((Dk K).fa 78) fd ∧ Binds K fd ["first", "second"] [] := by
  obtain ⟨fd, F⟩ := c.def_ 17 rfl
  exact ⟨fd, F, F.bindsN (fun _ _ _ _ _ _ us hl => match us, hl with | [_, _], _ => rfl)⟩
theorem bs_is_letter_set (c : He.SaysD fas fns K) : ∃ fd, FunD K "is_letter_set" "is_letter_set" (defArgs (top 20)) (defBody (top 20)) (defScope (top 20)) [] [] ((Dk K).fa 79) fd ∧ Binds K fd ["pattern", "value"] [] := by
  obtain ⟨fd, F⟩ := c.def_ 18 rfl
  exact ⟨fd, F, F.bindsN (fun _ _ _ _ _ _ us hl => match us, hl with | [_, _], _ => rfl)⟩
theorem bs_require_letters (c : He.SaysD fas fns K) : ∃ fd, FunD K "require_letters" "require_letters" (defArgs (top 21)) (defBody (top 21)) (defScope (top 21)) [] [] ((Dk K).fa 80) fd ∧ Binds K fd ["pattern", "value"] [] := by
  obtain ⟨fd, F⟩ := c.def_ 19 rfl
  exact ⟨fd, F, F.bindsN (fun _ _ _ _ _ _ us hl => match us, hl with | [_, _], _ => rfl)⟩
theorem bs_is_free_set (c : He.SaysD fas fns K) : ∃ fd, FunD K "is_free_set" "is_free_set" (defArgs (top 16)) (defBody (top 16)) (defScope (top 16)) [] [] ((Dk K).fa 81) fd ∧ Binds K fd ["pattern", "letters"] [] := by
  obtain ⟨fd, F⟩ := c.def_ 20 rfl
  exact ⟨fd, F, F.bindsN (fun _ _ _ _ _ _ us hl => match us, hl with | [_, _], _ => rfl)⟩
theorem bs_find_free_sets (c : He.SaysD fas fns K) : ∃ fd, FunD K "find_free_sets" "find_free_sets" (defArgs (top 19)) (defBody (top 19)) (defScope (top 19)) [] [] ((Dk K).fa 82) fd ∧ Binds K fd ["pattern"] [] := by
  obtain ⟨fd, F⟩ := c.def_ 21 rfl
  exact ⟨fd, F, F.bindsN (fun _ _ _ _ _ _ us hl => match us, hl with | [_], _ => rfl)⟩
theorem bs_joined (c : He.SaysD fas fns K) : ∃ fd, FunD K "joined" "joined" (defArgs (top 22)) (defBody (top 22)) (defScope (top 22)) [] [] ((Dk K).fa 83) fd ∧ Binds K fd ["pattern"] [] := by
  obtain ⟨fd, F⟩ := c.def_ 22 rfl
  exact ⟨fd, F, F.bindsN (fun _ _ _ _ _ _ us hl => match us, hl with | [_], _ => rfl)⟩
theorem bs_free_sets (c : He.SaysD fas fns K) : ∃ fd, FunD K "free_sets" "free_sets" (defArgs (top 24)) (defBody (top 24)) (defScope (top 24)) [] [] ((Dk K).fa 84) fd ∧ Binds K fd ["pattern"] [] := by
  obtain ⟨fd, F⟩ := c.def_ 23 rfl
  exact ⟨fd, F, F.bindsN (fun _ _ _ _ _ _ us hl => match us, hl with | [_], _ => rfl)⟩
theorem bs__law_bad_pattern (c : He.SaysD fas fns K) : ∃ fd, FunD K "_law_bad_pattern" "_law_bad_pattern" (defArgs (top 35)) (defBody (top 35)) (defScope (top 35)) [] [] ((Dk K).fa 161) fd ∧ Binds K fd ["pen", "pattern"] [] := by
  obtain ⟨fd, F⟩ := c.def_ 24 rfl
  exact ⟨fd, F, F.bindsN (fun _ _ _ _ _ _ us hl => match us, hl with | [_, _], _ => rfl)⟩
theorem bs_is_free (c : He.SaysD fas fns K) : ∃ fd, FunD K "is_free" "is_free" (defArgs (top 23)) (defBody (top 23)) (defScope (top 23)) [] [] ((Dk K).fa 235) fd ∧ Binds K fd ["pattern", "letters"] [] := by
  obtain ⟨fd, F⟩ := c.def_ 25 rfl
  exact ⟨fd, F, F.bindsN (fun _ _ _ _ _ _ us hl => match us, hl with | [_, _], _ => rfl)⟩
theorem bs_law (c : He.SaysD fas fns K) : ∃ fd, FunD K "law" "law" (defArgs (top 37)) (defBody (top 37)) (defScope (top 37)) [] [] ((Dk K).fa 278) fd ∧ Binds K fd ["script"] [] := by
  obtain ⟨fd, F⟩ := c.def_ 26 rfl
  exact ⟨fd, F, F.bindsN (fun _ _ _ _ _ _ us hl => match us, hl with | [_], _ => rfl)⟩
theorem bs_size_and_letters (c : He.SaysD fas fns K) : ∃ fd, FunD K "size_and_letters" "size_and_letters" (defArgs (top 18)) (defBody (top 18)) (defScope (top 18)) [] [] ((Dk K).fa 303) fd ∧ Binds K fd ["letters"] [] := by
  obtain ⟨fd, F⟩ := c.def_ 27 rfl
  exact ⟨fd, F, F.bindsN (fun _ _ _ _ _ _ us hl => match us, hl with | [_], _ => rfl)⟩
theorem fns0 (c : He.SaysD fas fns K) : ∀ n F, T n = some F → ∃ fd ps, Binds K fd ps [] ∧ F.np = ps.length :=
  t_cases ((bs_find_letters c).elim fun fd q => ⟨fd, _, q.2, rfl⟩) ((bs_is_pattern c).elim fun fd q => ⟨fd, _, q.2, rfl⟩) ((bs_require_pattern c).elim fun fd q => ⟨fd, _, q.2, rfl⟩) ((bs__law_spread c).elim fun fd q => ⟨fd, _, q.2, rfl⟩) ((bs__law_take c).elim fun fd q => ⟨fd, _, q.2, rfl⟩) ((bs__law_one c).elim fun fd q => ⟨fd, _, q.2, rfl⟩) ((bs__law_drawn c).elim fun fd q => ⟨fd, _, q.2, rfl⟩) ((bs__law_letters c).elim fun fd q => ⟨fd, _, q.2, rfl⟩) ((bs__law_open c).elim fun fd q => ⟨fd, _, q.2, rfl⟩) ((bs__law_pattern c).elim fun fd q => ⟨fd, _, q.2, rfl⟩) ((bs__law_anew c).elim fun fd q => ⟨fd, _, q.2, rfl⟩) ((bs__law_renamed c).elim fun fd q => ⟨fd, _, q.2, rfl⟩) ((bs_find_joins c).elim fun fd q => ⟨fd, _, q.2, rfl⟩) ((bs_merge c).elim fun fd q => ⟨fd, _, q.2, rfl⟩) ((bs_find_components c).elim fun fd q => ⟨fd, _, q.2, rfl⟩) ((bs_all_sets c).elim fun fd q => ⟨fd, _, q.2, rfl⟩) ((bs__law_set c).elim fun fd q => ⟨fd, _, q.2, rfl⟩) ((bs_shares c).elim fun fd q => ⟨fd, _, q.2, rfl⟩) ((bs_is_letter_set c).elim fun fd q => ⟨fd, _, q.2, rfl⟩) ((bs_require_letters c).elim fun fd q => ⟨fd, _, q.2, rfl⟩) ((bs_is_free_set c).elim fun fd q => ⟨fd, _, q.2, rfl⟩) ((bs_find_free_sets c).elim fun fd q => ⟨fd, _, q.2, rfl⟩) ((bs_joined c).elim fun fd q => ⟨fd, _, q.2, rfl⟩) ((bs_free_sets c).elim fun fd q => ⟨fd, _, q.2, rfl⟩) ((bs__law_bad_pattern c).elim fun fd q => ⟨fd, _, q.2, rfl⟩) ((bs_is_free c).elim fun fd q => ⟨fd, _, q.2, rfl⟩) ((bs_law c).elim fun fd q => ⟨fd, _, q.2, rfl⟩) ((bs_size_and_letters c).elim fun fd q => ⟨fd, _, q.2, rfl⟩)
theorem fnsS (X : K.In h) (G : h.Ns mainGlobals mg) (c : He.SaysD fas fns K) (cx : exF K = true) (d : Nat) (ih : FnsOk P w K mg base (Dk K) T d) : FnsOk P w K mg base (Dk K) T (d + 1) := by
  have z := glob X G c cx
  have st := stand X G c
  intro lvl
  refine t_cases ?_ ?_ ?_ ?_ ?_ ?_ ?_ ?_ ?_ ?_ ?_ ?_ ?_ ?_ ?_ ?_ ?_ ?_ ?_ ?_ ?_ ?_ ?_ ?_ ?_ ?_ ?_ ?_
  · obtain ⟨fd, F, b⟩ := bs_find_letters (K := K) c
    exact ⟨fd, _, fn_step F sc_find_letters rfl rfl rfl ih st (fun lvl cdv A outer s H E hr hgd hc => d_find_letters z rfl hr hgd hc) lvl, b⟩
  · obtain ⟨fd, F, b⟩ := bs_is_pattern (K := K) c
    exact ⟨fd, _, fn_step F sc_is_pattern rfl rfl rfl ih st (fun lvl cdv A outer s H E hr hgd hc => d_is_pattern z rfl hr hgd hc) lvl, b⟩
  · obtain ⟨fd, F, b⟩ := bs_require_pattern (K := K) c
    exact ⟨fd, _, fn_step F sc_require_pattern rfl rfl rfl ih st (fun lvl cdv A outer s H E hr hgd hc => d_require_pattern z rfl hr hgd hc) lvl, b⟩
  · obtain ⟨fd, F, b⟩ := bs__law_spread (K := K) c
    exact ⟨fd, _, fn_step F sc__law_spread rfl rfl rfl ih st (fun lvl cdv A outer s H E hr hgd hc => d__law_spread z rfl hr hgd hc) lvl, b⟩
  · obtain ⟨fd, F, b⟩ := bs__law_take (K := K) c
    exact ⟨fd, _, fn_step F sc__law_take rfl rfl rfl ih st (fun lvl cdv A outer s H E hr hgd hc => d__law_take z rfl hr hgd hc) lvl, b⟩
  · obtain ⟨fd, F, b⟩ := bs__law_one (K := K) c
    exact ⟨fd, _, fn_step F sc__law_one rfl rfl rfl ih st (fun lvl cdv A outer s H E hr hgd hc => d__law_one z rfl hr hgd hc) lvl, b⟩
  · obtain ⟨fd, F, b⟩ := bs__law_drawn (K := K) c
    exact ⟨fd, _, fn_step F sc__law_drawn rfl rfl rfl ih st (fun lvl cdv A outer s H E hr hgd hc => d__law_drawn z rfl hr hgd hc) lvl, b⟩
  · obtain ⟨fd, F, b⟩ := bs__law_letters (K := K) c
    exact ⟨fd, _, fn_step F sc__law_letters rfl rfl rfl ih st (fun lvl cdv A outer s H E hr hgd hc => d__law_letters z rfl hr hgd hc) lvl, b⟩
  · obtain ⟨fd, F, b⟩ := bs__law_open (K := K) c
    exact ⟨fd, _, fn_step F sc__law_open rfl rfl rfl ih st (fun lvl cdv A outer s H E hr hgd hc => d__law_open z rfl hr hgd hc) lvl, b⟩
  · obtain ⟨fd, F, b⟩ := bs__law_pattern (K := K) c
    exact ⟨fd, _, fn_step F sc__law_pattern rfl rfl rfl ih st (fun lvl cdv A outer s H E hr hgd hc => d__law_pattern z rfl hr hgd hc) lvl, b⟩
  · obtain ⟨fd, F, b⟩ := bs__law_anew (K := K) c
    exact ⟨fd, _, fn_step F sc__law_anew rfl rfl rfl ih st (fun lvl cdv A outer s H E hr hgd hc => d__law_anew z rfl hr hgd hc) lvl, b⟩
  · obtain ⟨fd, F, b⟩ := bs__law_renamed (K := K) c
    exact ⟨fd, _, fn_step F sc__law_renamed rfl rfl rfl ih st (fun lvl cdv A outer s H E hr hgd hc => d__law_renamed z rfl hr hgd hc) lvl, b⟩
  · obtain ⟨fd, F, b⟩ := bs_find_joins (K := K) c
    exact ⟨fd, _, fn_step F sc_find_joins rfl rfl rfl ih st (fun lvl cdv A outer s H E hr hgd hc => d_find_joins z rfl hr hgd hc) lvl, b⟩
  · obtain ⟨fd, F, b⟩ := bs_merge (K := K) c
    exact ⟨fd, _, fn_step F sc_merge rfl rfl rfl ih st (fun lvl cdv A outer s H E hr hgd hc => d_merge z rfl hr hgd hc) lvl, b⟩
  · obtain ⟨fd, F, b⟩ := bs_find_components (K := K) c
    exact ⟨fd, _, fn_step F sc_find_components rfl rfl rfl ih st (fun lvl cdv A outer s H E hr hgd hc => d_find_components z rfl hr hgd hc) lvl, b⟩
  · obtain ⟨fd, F, b⟩ := bs_all_sets (K := K) c
    exact ⟨fd, _, fn_step F sc_all_sets rfl rfl rfl ih st (fun lvl cdv A outer s H E hr hgd hc => d_all_sets z rfl hr hgd hc) lvl, b⟩
  · obtain ⟨fd, F, b⟩ := bs__law_set (K := K) c
    exact ⟨fd, _, fn_step F sc__law_set rfl rfl rfl ih st (fun lvl cdv A outer s H E hr hgd hc => d__law_set z rfl hr hgd hc) lvl, b⟩
  · obtain ⟨fd, F, b⟩ := bs_shares (K := K) c
    exact ⟨fd, _, fn_step F sc_shares rfl rfl rfl ih st (fun lvl cdv A outer s H E hr hgd hc => d_shares z rfl hr hgd hc) lvl, b⟩
  · obtain ⟨fd, F, b⟩ := bs_is_letter_set (K := K) c
    exact ⟨fd, _, fn_step F sc_is_letter_set rfl rfl rfl ih st (fun lvl cdv A outer s H E hr hgd hc => d_is_letter_set z rfl hr hgd hc) lvl, b⟩
  · obtain ⟨fd, F, b⟩ := bs_require_letters (K := K) c
    exact ⟨fd, _, fn_step F sc_require_letters rfl rfl rfl ih st (fun lvl cdv A outer s H E hr hgd hc => d_require_letters z rfl hr hgd hc) lvl, b⟩
  · obtain ⟨fd, F, b⟩ := bs_is_free_set (K := K) c
    exact ⟨fd, _, fn_step F sc_is_free_set rfl rfl rfl ih st (fun lvl cdv A outer s H E hr hgd hc => d_is_free_set z rfl hr hgd hc) lvl, b⟩
  · obtain ⟨fd, F, b⟩ := bs_find_free_sets (K := K) c
    exact ⟨fd, _, fn_step F sc_find_free_sets rfl rfl rfl ih st (fun lvl cdv A outer s H E hr hgd hc => d_find_free_sets z rfl hr hgd hc) lvl, b⟩
  · obtain ⟨fd, F, b⟩ := bs_joined (K := K) c
    exact ⟨fd, _, fn_step F sc_joined rfl rfl rfl ih st (fun lvl cdv A outer s H E hr hgd hc => d_joined z rfl hr hgd hc) lvl, b⟩
  · obtain ⟨fd, F, b⟩ := bs_free_sets (K := K) c
    exact ⟨fd, _, fn_step F sc_free_sets rfl rfl rfl ih st (fun lvl cdv A outer s H E hr hgd hc => d_free_sets z rfl hr hgd hc) lvl, b⟩
  · obtain ⟨fd, F, b⟩ := bs__law_bad_pattern (K := K) c
    exact ⟨fd, _, fn_step F sc__law_bad_pattern rfl rfl rfl ih st (fun lvl cdv A outer s H E hr hgd hc => d__law_bad_pattern z rfl hr hgd hc) lvl, b⟩
  · obtain ⟨fd, F, b⟩ := bs_is_free (K := K) c
    exact ⟨fd, _, fn_step F sc_is_free rfl rfl rfl ih st (fun lvl cdv A outer s H E hr hgd hc => d_is_free z rfl hr hgd hc) lvl, b⟩
  · obtain ⟨fd, F, b⟩ := bs_law (K := K) c
    exact ⟨fd, _, fn_step F sc_law rfl rfl rfl ih st (fun lvl cdv A outer s H E hr hgd hc => d_law z rfl hr hgd hc) lvl, b⟩
  · obtain ⟨fd, F, b⟩ := bs_size_and_letters (K := K) c
    exact ⟨fd, _, fn_step F sc_size_and_letters rfl rfl rfl ih st (fun lvl cdv A outer s H E hr hgd hc => d_size_and_letters z rfl hr hgd hc) lvl, b⟩
end
end Mi
open PySem PySem.W PySem.Calls PyProof.Rows
theorem Mi.fin (law_ok : ∀ ns : List Int, ns.length ≤ 63 → ∃ b hp, Mi.G Mi.T 20 278 [.scr ns] [] = .ok (.bl true) b hp) : PySem.Challenge.rw_surepatterns_k16_whole_free_sets_of_chan.Holds := by
  w_on; o_law
  refine HandSHeadRun.head_any (r := OpenLaw.row PySem.Challenge.rw_surepatterns_k16_whole_free_sets_of_chan) (q := view (OpenLaw.row PySem.Challenge.rw_surepatterns_k16_whole_free_sets_of_chan).prog [37]) (H := Mi.hk) (ob := Mi.ob) (M := 6000) (loose := Mi.loose) (d := HandSHeadRun.topDef (OpenLaw.row PySem.Challenge.rw_surepatterns_k16_whole_free_sets_of_chan).prog 37) (kwd := []) Mi.ob_eq
    (by kernel_rfl) (fun s => by kernel_rfl) Mi.run (by kernel_rfl) (by kernel_rfl) (by kernel_rfl) (by rfl) (by first | assumption | decide +kernel) (by decide +kernel) ⟨rfl, rfl, rfl, rfl, rfl, by decide +kernel⟩ ?hw ?hc
  case hw => w_witness2
  case hc =>
    refine Mi.walk_w (l := PySem.Challenge.rw_surepatterns_k16_whole_free_sets_of_chan) (n := 63) (k := 20) (x := "script") (CX := fun w => L2.CX (PySem.Challenge.rw_surepatterns_k16_whole_free_sets_of_chan).prog w) rfl (by decide) (by kernel_rfl) ⟨rfl, by decide, by decide⟩ ?F (fun _ _ _ _ _ z => ?cx)
    case cx => exact Mi.cx_none z
    intro w mg fa h Y G hmg0
    obtain ⟨K, KX, cX⟩ := Y
    have c := cX.t.d
    have cx := cX.more
    have hmg : mg ("law" : PySem.Str) = some (.ref fa) := by
      have e : (HandSHeadRun.topDef (OpenLaw.row PySem.Challenge.rw_surepatterns_k16_whole_free_sets_of_chan).prog 37).name = ("law" : PySem.Str) := by kernel_rfl
      rw [← e]
      exact hmg0
    have e := hmg.symm.trans (He.glo_ok KX G (c.fact 26 (f := .glo "law") rfl))
    cases e
    obtain ⟨fd, F, b⟩ := Mi.bs_law c
    refine ⟨K, fd, Mi.spLaw K, KX, fun s v => L2.FunD.bindsA (ps := ["script"]) F (fun _ _ _ _ _ _ us hl => match us, hl with | [_], _ => rfl) s [v] rfl, fun H a ns hl _ hS => ⟨a, ns, rfl, hS, hl, fun _ => rfl⟩, fun base _ _ => ?_⟩
    exact Mi.law_of (D := Mi.Dk K) (n := 278) rfl (Mi.fn_step (d := 19) (n := 278) (F := Mi.F_law) (D := Mi.Dk K) (T := Mi.T) F Mi.sc_law rfl rfl rfl (Mi.fns_all (Mi.fns0 c) (Mi.fnsS KX G c cx) 19) (Mi.stand KX G c) (fun lvl cdv A outer s H E hr hgd hc => Mi.d_law (Mi.glob KX G c cx) rfl hr hgd hc) 0) law_ok
end S_Fi_k16
section S_Pn
set_option Elab.async false
set_option linter.all false
set_option maxRecDepth 100000
set_option maxHeartbeats 4000000
namespace Mi
open PySem PySem.Spec PyProof.Rows L2
def primes : List PV := [.int 2147483629, .int 2147483587, .int 2147483579, .int 2147483563, .int 2147483549, .int 2147483543, .int 2147483497, .int 2147483489, .int 2147483477, .int 2147483423, .int 2147483399, .int 2147483353, .int 2147483323]
theorem primes_at {k : Int} (h0 : 0 ≤ k) (h1 : k < 13) : ∃ p : Int, 0 < p ∧ p < 2147483648 ∧ L2.atI primes k = some (.int p) := by
  have : k = 0 ∨ k = 1 ∨ k = 2 ∨ k = 3 ∨ k = 4 ∨ k = 5 ∨ k = 6 ∨ k = 7 ∨ k = 8 ∨ k = 9 ∨ k = 10 ∨ k = 11 ∨ k = 12 := by omega
  rcases this with rfl | rfl | rfl | rfl | rfl | rfl | rfl | rfl | rfl | rfl | rfl | rfl | rfl <;> exact ⟨_, by decide, by decide, rfl⟩
theorem mul_lt {a b A B : Int} (ha : 0 ≤ a) (hb : 0 ≤ b) (hA : a ≤ A) (hB : b ≤ B) : 0 ≤ a * b ∧ a * b ≤ A * B := ⟨Int.mul_nonneg ha hb, Int.mul_le_mul hA hB hb (Int.le_trans ha hA)⟩
theorem powOk_64 {i j : Int} (h0 : 0 ≤ j) (h1 : j ≤ 1000) (h2 : -18446744073709551616 < i) (h3 : i < 18446744073709551616) : powOk i j := ⟨h0, by omega, by omega⟩
theorem spread_ok {d : Nat} {hp : List Ob} {cell : Int} {a : Nat} {E : PV → List Ob → Prop} (hd : 1 ≤ d) (ha : a < 1073741824) : WpC (G T d 4 [.int cell, .int a] hp) (fun v b hp' => ∃ r : Int, v = .int r ∧ 0 ≤ r ∧ hp' = hp) E := by
  obtain ⟨d, rfl⟩ : ∃ e, d = e + 1 := ⟨d - 1, by omega⟩
  refine wpC_fn (F := F__law_spread) rfl rfl ?_
  by_cases hc : (1000000000000000000 : Int) ≤ cell
  · simp [F__law_spread, b__law_spread, start0, hc, powOk_64]
    omega
  · obtain ⟨p1, q1, r1, e1⟩ := primes_at (k := (a : Int) % 13) (by omega) (by omega)
    obtain ⟨p2, q2, r2, e2⟩ := primes_at (k := ((a : Int) + 5) % 13) (by omega) (by omega)
    obtain ⟨p3, q3, r3, e3⟩ := primes_at (k := ((a : Int) + 7) % 13) (by omega) (by omega)
    have g1 := atQ e1
    have g2 := atQ e2
    have g3 := atQ e3
    show Wp (b__law_spread (G T d)) _ _ ⟨[.sh (.int cell), .sh (.int a), .un, .un, .un, .un, .un], hp⟩
    unfold b__law_spread
    refine wp_seq ⟨[.sh (.int cell), .sh (.int a), .un, .un, .un, .un, .un], hp⟩ ?_ ?_
    · simp [hc, powOk_64]
    refine wp_seq ⟨[.sh (.int cell), .sh (.int a), .ow (.lst (primes.take 7)), .un, .un, .un, .un], hp⟩ ?_ ?_
    · simp [lenOk_iff, sizeLine_val, primes]
    refine wp_seq ⟨[.sh (.int cell), .sh (.int a), .sh (.lst primes), .un, .un, .un, .un], hp⟩ ?_ ?_
    · simp [lenOk_iff, sizeLine_val, primes]
    clear e1 e2 e3
    generalize primes = ps at g1 g2 g3 ⊢
    have m0 : 0 ≤ cell % 1000000007 ∧ cell % 1000000007 < 1000000007 := by omega
    have m1 := mul_lt (a := cell % 1000000007) (b := 2 * (a : Int) + 69069) (A := 1000000006) (B := 2147552717) (by omega) (by omega) (by omega) (by omega)
    obtain ⟨mixed, hm, m2, m3⟩ : ∃ mixed : Int, mixed = cell % 1000000007 * (2 * (a : Int) + 69069) + a * 40503 + 977 ∧ 0 ≤ mixed ∧ mixed < 4000000000000000000 := ⟨_, rfl, by omega, by omega⟩
    refine wp_seq ⟨[.sh (.int cell), .sh (.int a), .sh (.lst ps), .sh (.int mixed), .un, .un, .un], hp⟩ ?_ ?_
    · simp [hm]
      exact ⟨mulOk_64 (by omega) (by omega), mulOk_64 (by omega) (by omega), mulOk_64 (by omega) (by omega)⟩
    clear hm m1
    obtain ⟨one, ho, o1, o2⟩ : ∃ one : Int, one = mixed ^ 3 % p1 ∧ 0 ≤ one ∧ one < 2147483648 := ⟨_, rfl, Int.emod_nonneg _ (by omega), by have := Int.emod_lt_of_pos (mixed ^ 3) q1; omega⟩
    refine wp_seq ⟨[.sh (.int cell), .sh (.int a), .sh (.lst ps), .sh (.int mixed), .sh (.int one), .un, .un], hp⟩ ?_ ?_
    · simp [ho, ↓ g1, q1]
      exact powOk_64 (by omega) (by omega) (by omega) (by omega)
    clear ho
    have m4 := mul_lt (a := one) (b := (a : Int) + 3) (A := 2147483648) (B := 1073741827) (by omega) (by omega) (by omega) (by omega)
    obtain ⟨two, ht, t1, t2⟩ : ∃ two : Int, two = (one * ((a : Int) + 3) + cell % 65537 + 5) ^ 5 % p2 ∧ 0 ≤ two ∧ two < 2147483648 := ⟨_, rfl, Int.emod_nonneg _ (by omega), by have := Int.emod_lt_of_pos ((one * ((a : Int) + 3) + cell % 65537 + 5) ^ 5) q2; omega⟩
    refine wp_seq ⟨[.sh (.int cell), .sh (.int a), .sh (.lst ps), .sh (.int mixed), .sh (.int one), .sh (.int two), .un], hp⟩ ?_ ?_
    · simp [ht, ↓ g2, q2]
      exact ⟨mulOk_64 (by omega) (by omega), powOk_64 (by omega) (by omega) (by omega) (by omega)⟩
    clear ht
    obtain ⟨three, hh, h1, h2⟩ : ∃ three : Int, three = (two + one % 1009 + (a : Int)) ^ 3 % p3 ∧ 0 ≤ three ∧ three < 2147483648 := ⟨_, rfl, Int.emod_nonneg _ (by omega), by have := Int.emod_lt_of_pos ((two + one % 1009 + (a : Int)) ^ 3) q3; omega⟩
    refine wp_seq ⟨[.sh (.int cell), .sh (.int a), .sh (.lst ps), .sh (.int mixed), .sh (.int one), .sh (.int two), .sh (.int three)], hp⟩ ?_ ?_
    · simp [hh, ↓ g3, q3]
      exact powOk_64 (by omega) (by omega) (by omega) (by omega)
    clear hh
    simp
    exact ⟨mulOk_64 (by omega) (by omega), mulOk_64 (by omega) (by omega), by omega⟩
end Mi
namespace Mi
open PySem PySem.Spec PyProof.Rows L2
variable {obs : List Ob} {l : List Slot} {Q : Fs → Prop} {v x y z : PV}
@[simp ↓] theorem set_pen1 : SetQ (setIx (.at 0) (.int 1) v ⟨.sh (.obj 0) :: l, .box [x, y, z] :: obs⟩) Q = Q ⟨.sh (.obj 0) :: l, .box [x, v, z] :: obs⟩ := id rfl
@[simp ↓] theorem set_pen2 : SetQ (setIx (.at 0) (.int 2) v ⟨.sh (.obj 0) :: l, .box [x, y, z] :: obs⟩) Q = Q ⟨.sh (.obj 0) :: l, .box [x, y, v] :: obs⟩ := id rfl
def Pen (n : Nat) (obs : List Ob) (hp : List Ob) : Prop := ∃ (cells : List Int) (a : Nat) (rest : Int), hp = .box [.lst (cells.map .int), .int a, .int rest] :: obs ∧ a + n ≤ 1073741824 ∧ 0 ≤ rest
theorem Pen.mono {n m : Nat} {hp : List Ob} (h : Pen n obs hp) (hm : m ≤ n) : Pen m obs hp := by
  obtain ⟨cells, a, rest, e, h1, h2⟩ := h
  exact ⟨cells, a, rest, e, by omega, h2⟩
theorem cell_at {cells : List Int} {k : Int} (h0 : 0 ≤ k) (h1 : k < cells.length) : ∃ c : Int, L2.atI (cells.map PV.int) k = some (.int c) := by
  obtain ⟨n, rfl⟩ : ∃ n : Nat, k = n := ⟨k.toNat, by omega⟩
  have hn : n < cells.length := by omega
  exact ⟨cells[n], by rw [atI_nat (by simpa using hn)]; simp⟩
theorem take_ok {d n : Nat} {hp : List Ob} {many : Int} {E : PV → List Ob → Prop} (hd : 2 ≤ d) (hp0 : Pen (n + 1) obs hp) (h0 : 0 < many) (h1 : many < 18446744073709551616) :
    WpC (G T d 5 [.obj 0, .int many] hp) (fun v b hp' => ∃ k : Int, v = .int k ∧ 0 ≤ k ∧ k < many ∧ Pen n obs hp') E := by
  obtain ⟨d, rfl⟩ : ∃ e, d = e + 1 := ⟨d - 1, by omega⟩
  obtain ⟨cells, a, rest, rfl, ha, hr⟩ := hp0
  refine wpC_fn (F := F__law_take) rfl rfl ?_
  show Wp (b__law_take (G T d)) _ _ ⟨[.sh (.obj 0), .sh (.int many), .un, .un, .un], _⟩
  unfold b__law_take
  refine wp_seq' (fun s => ∃ (a' : Nat) (rest' : Int) (s3 s4 : Slot), s = ⟨[.sh (.obj 0), .sh (.int many), .un, s3, s4], .box [.lst (cells.map .int), .int a', .int rest'] :: obs⟩ ∧ a' + n ≤ 1073741824 ∧ 0 ≤ rest') ?_ ?_
  · by_cases hc : rest < many
    · simp only [↓wp_gIf, ↓wp_asB, ↓wp_fOp2, ↓wp_fLoc, ↓wp_fIx, ↓wp_fAt, ↓slQ_zero, ↓wp_pure, ↓opQ_rdat, ↓opQ_rdval, ↓ixP_obj0, ↓at_2, ↓slQ_succ, ↓ltP_int, hc, decide_true, if_true]
      have tail : ∀ (c : Int), Wp (gSeq (gSetIx (fOp2 (fAt 3) (fLoc (M.pure (PV.int 1))) addP) (fAt 0) (M.pure (PV.int 1))) (gSetIx (fCall (G T d) 4 (fCons (fVar 4) (fCons (fVar 3) fNil))) (fAt 0) (M.pure (PV.int 2))))
          (fun fl s1 => fl = Fl.nx ∧ ∃ (a' : Nat) (rest' : Int) (s3 s4 : Slot), s1 = ⟨[.sh (.obj 0), .sh (.int many), .un, s3, s4], .box [.lst (cells.map .int), .int a', .int rest'] :: obs⟩ ∧ a' + n ≤ 1073741824 ∧ 0 ≤ rest') (fun _ _ => False)
          ⟨[.sh (.obj 0), .sh (.int many), .un, .sh (.int a), .sh (.int c)], .box [.lst (cells.map .int), .int a, .int rest] :: obs⟩ := fun c => by
        refine wp_seq ⟨[.sh (.obj 0), .sh (.int many), .un, .sh (.int a), .sh (.int c)], .box [.lst (cells.map .int), .int (a + 1 : Nat), .int rest] :: obs⟩ ?_ ?_
        · simp
        · simp only [↓wp_gSetIx, ↓wp_fCall, ↓wp_fCons, ↓wp_fVar, ↓slQ_succ, ↓slQ_zero, ↓wp_fNil]
          refine wpC_imp (spread_ok (hp := .box [.lst (cells.map .int), .int (a + 1 : Nat), .int rest] :: obs) (cell := c) (a := a) (E := fun _ _ => False) (by omega) (by omega)) (fun v b hp' q => ?_) fun _ _ q => q
          obtain ⟨r, rfl, r0, rfl⟩ := q
          simp
          exact ⟨a + 1, r, ⟨by omega, rfl⟩, by omega, r0⟩
      refine wp_seq ⟨[.sh (.obj 0), .sh (.int many), .un, .sh (.int a), .un], .box [.lst (cells.map .int), .int a, .int rest] :: obs⟩ (by simp) ?_
      refine wp_seq ⟨[.sh (.obj 0), .sh (.int many), .un, .sh (.int a), .sh (.int 0)], .box [.lst (cells.map .int), .int a, .int rest] :: obs⟩ (by simp) ?_
      refine wp_seq' (fun s => ∃ c : Int, s = ⟨[.sh (.obj 0), .sh (.int many), .un, .sh (.int a), .sh (.int c)], .box [.lst (cells.map .int), .int a, .int rest] :: obs⟩) ?_ ?_
      · by_cases h2 : (a : Int) < cells.length
        · obtain ⟨c, e⟩ := cell_at (cells := cells) (k := a) (by omega) h2
          have g := atQ e
          simp [h2, ↓ g]
        · by_cases h3 : cells = []
          · subst h3
            simp [h2]
            intro hneg
            omega
          · have hl : 0 < cells.length := List.length_pos_iff.mpr h3
            obtain ⟨c, e⟩ := cell_at (cells := cells) (k := ((a : Int) * 5 + 3) % cells.length) (Int.emod_nonneg _ (by omega)) (Int.emod_lt_of_pos _ (by omega))
            have g := atQ e
            simp [h2, hl, ↓ g]
            exact ⟨mulOk_64 (by omega) (by omega), powOk_64 (by omega) (by omega) (by omega) (by omega), by omega⟩
      · rintro s' ⟨c, rfl⟩
        exact tail c
    · simp [hc]
      exact ⟨a, rest, ⟨rfl, rfl⟩, by omega, hr⟩
  · rintro s' ⟨a', rest', s3, s4, rfl, h3, h4⟩
    simp [h0]
    exact ⟨divOk_64 h0 h1, Int.emod_nonneg _ (by omega), Int.emod_lt_of_pos _ h0, cells, a', rest' / many, rfl, h3, Int.ediv_nonneg h4 (by omega)⟩
end Mi
namespace Mi
open PySem PySem.Spec PyProof.Rows L2
variable {obs : List Ob} {l : List Slot} {Q : Fs → Prop} {v x y z : PV}
theorem inR_small {i : Int} (h0 : -1000000000 ≤ i) (h1 : i ≤ 1000000000) : inR i = true := by
  have e : (2 : Int) ^ 62 = 4611686018427387904 := by decide
  unfold inR
  rw [e]
  exact decide_eq_true ⟨by omega, by omega⟩
theorem one_ok {d n : Nat} {hp : List Ob} {xs : List PV} {E : PV → List Ob → Prop} (hd : 3 ≤ d) (hp0 : Pen (n + 1) obs hp) (h0 : xs ≠ []) (h1 : xs.length ≤ 16777216) :
    WpC (G T d 6 [.obj 0, .lst xs] hp) (fun v b hp' => v ∈ xs ∧ b = false ∧ Pen n obs hp') E := by
  obtain ⟨d, rfl⟩ : ∃ e, d = e + 1 := ⟨d - 1, by omega⟩
  have hl : 0 < xs.length := List.length_pos_iff.mpr h0
  refine wpC_fn (F := F__law_one) rfl rfl ?_
  simp [F__law_one, b__law_one, start0]
  refine wpC_imp (take_ok (n := n) (many := xs.length) (E := fun e h => E e h) (by omega) hp0 (by omega) (by omega)) (fun v b hp' q => ?_) fun _ _ q => q
  obtain ⟨k, rfl, k0, k1, hp1⟩ := q
  obtain ⟨m, rfl⟩ : ∃ m : Nat, k = m := ⟨k.toNat, by omega⟩
  have hm : m < xs.length := by omega
  have g := atQ (atI_nat hm)
  simp [↓ g]
  exact hp1
theorem oneS_ok {d n : Nat} {hp : List Ob} {xs : S} {E : PV → List Ob → Prop} (hd : 3 ≤ d) (hp0 : Pen (n + 1) obs hp) (h0 : xs ≠ []) (h1 : xs.length ≤ 16777216) :
    WpC (G T d 6 [.obj 0, .str xs] hp) (fun v b hp' => (∃ c ∈ xs, v = ch c) ∧ b = false ∧ Pen n obs hp') E := by
  obtain ⟨d, rfl⟩ : ∃ e, d = e + 1 := ⟨d - 1, by omega⟩
  have hl : 0 < xs.length := List.length_pos_iff.mpr h0
  refine wpC_fn (F := F__law_one) rfl rfl ?_
  simp [F__law_one, b__law_one, start0]
  refine wpC_imp (take_ok (n := n) (many := xs.length) (E := fun e h => E e h) (by omega) hp0 (by omega) (by omega)) (fun v b hp' q => ?_) fun _ _ q => q
  obtain ⟨k, rfl, k0, k1, hp1⟩ := q
  obtain ⟨m, rfl⟩ : ∃ m : Nat, k = m := ⟨k.toNat, by omega⟩
  have hm : m < xs.length := by omega
  have g : L2.atI xs (m : Int) = some xs[m] := atI_nat hm
  simp [g]
  exact ⟨⟨_, List.getElem_mem hm, rfl⟩, hp1⟩
theorem anew_ok {d n : Nat} {hp : List Ob} {E : PV → List Ob → Prop} (hd : 1 ≤ d) (hp0 : Pen n obs hp) : WpC (G T d 11 [.obj 0] hp) (fun v b hp' => v = .obj 0 ∧ b = false ∧ Pen n obs hp') E := by
  obtain ⟨d, rfl⟩ : ∃ e, d = e + 1 := ⟨d - 1, by omega⟩
  obtain ⟨cells, a, rest, rfl, ha, hr⟩ := hp0
  refine wpC_fn (F := F__law_anew) rfl rfl ?_
  simp [F__law_anew, b__law_anew, start0]
  exact ⟨cells, a, 0, rfl, ha, Int.le_refl _⟩
theorem drawn_ok {d n m : Nat} {hp : List Ob} {E : PV → List Ob → Prop} (hd : 3 ≤ d) (hm : m ≤ 1000) (hp0 : Pen (n + m) obs hp) :
    WpC (G T d 7 [.obj 0, .int m] hp) (fun v b hp' => ∃ ks : List Nat, v = .lst (ks.map fun (k : Nat) => PV.int k) ∧ b = true ∧ ks.Perm (List.range m) ∧ Pen n obs hp') E := by
  obtain ⟨d, rfl⟩ : ∃ e, d = e + 1 := ⟨d - 1, by omega⟩
  refine wpC_fn (F := F__law_drawn) rfl rfl ?_
  show Wp (b__law_drawn (G T d)) _ _ ⟨[.sh (.obj 0), .sh (.int m), .un, .un], hp⟩
  unfold b__law_drawn
  refine wp_seq ⟨[.sh (.obj 0), .sh (.int m), .ow (.lst []), .un], hp⟩ (by simp [lenOk_iff]) ?_
  refine wp_seq' (fun s => ∃ (ks : List Nat) (s3 : Slot) (hp' : List Ob), s = ⟨[.sh (.obj 0), .sh (.int m), .ow (.lst (ks.map fun (k : Nat) => PV.int k)), s3], hp'⟩ ∧ ks.Perm (List.range m) ∧ Pen n obs hp') ?_ ?_
  · simp
    refine ⟨inR_small (by omega) (by omega), ?_⟩
    refine wp_loop (fun r s => ∃ (i : Nat) (ks : List Nat) (s3 : Slot) (hp' : List Ob), i ≤ m ∧ r = ((List.range m).drop i).map (fun (k : Nat) => PV.int k) ∧ s = ⟨[.sh (.obj 0), .sh (.int m), .ow (.lst (ks.map fun (k : Nat) => PV.int k)), s3], hp'⟩ ∧ ks.Perm (List.range i) ∧ Pen (n + (m - i)) obs hp')
      ⟨0, [], .un, hp, by omega, by simp [rng1], rfl, by simp, by simpa using hp0⟩ ?_ ?_
    · rintro x r s ⟨i, ks, s3, hp', hi, hr, rfl, pk, pen⟩
      have him : i < m := by
        apply Classical.byContradiction
        intro h
        rw [List.drop_of_length_le (by simp; omega)] at hr
        cases hr
      rw [List.drop_eq_getElem_cons (by simpa using him), List.getElem_range, List.map_cons] at hr
      obtain ⟨rfl, hr⟩ := List.cons.inj hr
      simp
      refine ⟨by rfl, ?_⟩
      refine wpC_imp (take_ok (n := n + (m - (i + 1))) (many := (i : Int) + 1) (E := fun _ _ => False) (by omega) (pen.mono (by omega)) (by omega) (by omega)) (fun v b hp2 q => ?_) fun _ _ q => q.elim
      obtain ⟨k, rfl, k0, k1, pen2⟩ := q
      have hlen : ks.length = i := by rw [pk.length_eq, List.length_range]
      have hk : k < 9223372036854775808 := by omega
      simp [putL, insertM, k0, hk, lenOk_iff, sizeLine_val]
      refine ⟨by omega, i + 1, by omega, by simpa using hr, ks.take k.toNat ++ i :: ks.drop k.toNat, .sh (.int i), hp2, ⟨⟨by simp, rfl⟩, rfl⟩, ?_, pen2⟩
      rw [List.range_succ]
      refine (List.perm_middle).trans ?_
      rw [List.take_append_drop]
      exact (pk.cons i).trans (List.perm_append_comm (l₁ := [i]))
    · rintro s ⟨i, ks, s3, hp', hi, hr, rfl, pk, pen⟩
      have him : i = m := by
        have := congrArg List.length hr
        simp at this
        omega
      subst him
      exact ⟨rfl, ks, s3, hp', rfl, pk, by simpa using pen⟩
  · rintro s' ⟨ks, s3, hp', rfl, pk, pen⟩
    simp
    exact ⟨ks, rfl, pk, pen⟩
end Mi
namespace Mi
open PySem PySem.Spec PyProof.Rows L2
variable {obs : List Ob}
theorem perm_ne {ks : List Nat} {m : Nat} (h : ks.Perm (List.range m)) : ∀ k ∈ ks, k < m := fun k hk => List.mem_range.mp (h.mem_iff.mp hk)
theorem set_own1 {a v : PV} {x : Slot} {xs : List PV} {k : Int} {l : List Slot} {hp : List Ob} {Q : Fs → Prop} (h0 : 0 ≤ k) (h1 : k < xs.length) : SetQ (setIx (.at 1) (.int k) v ⟨x :: .ow (.lst xs) :: l, hp⟩) Q = Q ⟨x :: .ow (.lst (xs.set k.toNat v)) :: l, hp⟩ := by
  have e : L2.ixN xs.length k = some k.toNat := by
    unfold L2.ixN
    rw [if_pos h0, if_pos h1]
  unfold setIx
  simp [putL, e]
@[simp ↓] theorem cutP_scr {ns : List Int} {lo hi : Option Int} {Q : PV → Prop} : OpQ (cutP (.scr ns) lo hi) Q ↔ (cut ns lo hi).length ≤ sizeLine ∧ Q (.lst ((cut ns lo hi).map PV.int)) := by
  show OpQ (if _ then _ else _) Q ↔ _
  rw [opQ_ite]
theorem open_ok {d : Nat} {ns : List Int} {E : PV → List Ob → Prop} (hd : 1 ≤ d) (hn : ns.length ≤ 63) : WpC (G T d 9 [.scr ns] []) (fun v b hp' => v = .obj 0 ∧ b = false ∧ Pen 1073741824 [] hp') E := by
  obtain ⟨d, rfl⟩ : ∃ e, d = e + 1 := ⟨d - 1, by omega⟩
  refine wpC_fn (F := F__law_open) rfl rfl ?_
  show Wp (b__law_open (G T d)) _ _ ⟨[.sh (.scr ns), .un, .un, .un], []⟩
  unfold b__law_open
  have hcl : (cut ns none (some 12)).length ≤ 12 := by
    unfold cut HT.sIx
    simp [List.length_take]
    omega
  refine wp_seq ⟨[.sh (.scr ns), .ow (.lst ((cut ns none (some 12)).map .int)), .un, .un], []⟩ ?_ ?_
  · simp [cutP, listP', listP, sizeLine_val]
    omega
  refine wp_seq' (fun s => ∃ (cs : List Int) (s2 s3 : Slot), s = ⟨[.sh (.scr ns), .ow (.lst (cs.map .int)), s2, s3], []⟩) ?_ ?_
  · have hl2 : (cut ns (some 12) (some 63)).length ≤ 63 := Nat.le_trans (cut_len ns _ _) hn
    have h12 : cut ns (some 12) (some 63) ≠ [] → (cut ns none (some 12)).length = 12 := by
      intro h
      have h' : 12 < ns.length := by
        apply Classical.byContradiction
        intro hh
        apply h
        unfold cut HT.sIx
        simp
        omega
      unfold cut HT.sIx
      simp
      omega
    simp only [↓wp_gFor, ↓wp_fEnum, ↓wp_fCons, ↓wp_fCut, ↓wp_fAt, ↓slQ_zero, ↓wp_fSome, ↓wp_pure, ↓wp_fNil, ↓opQ_rdat, ↓cutP_scr, sizeLine_val]
    refine ⟨by omega, ?_⟩
    refine wp_loop (fun r s => ∃ (tail : List (Int × Nat)) (cs : List Int) (s2 s3 : Slot), r = tail.map (fun p => PV.tup [.int p.2, .int p.1]) ∧ s = ⟨[.sh (.scr ns), .ow (.lst (cs.map .int)), s2, s3], []⟩ ∧ (tail ≠ [] → cs.length = 12))
      ⟨(cut ns (some 12) (some 63)).zipIdx, cut ns none (some 12), .un, .un, ?_, rfl, fun h => h12 fun z => h (by rw [z]; rfl)⟩ ?_ ?_
    · rw [List.zipIdx_map, List.map_map]
      rfl
    · rintro x r s ⟨tail, cs, s2, s3, hr, rfl, hcs⟩
      cases tail with
      | nil => cases hr
      | cons p tail =>
        obtain ⟨ex, er⟩ := List.cons.inj hr
        subst ex
        have hc := hcs (by simp)
        obtain ⟨c, e⟩ := cell_at (cells := cs) (k := (p.2 : Int) % 12) (by omega) (by omega)
        have g := atQ e
        have g2 := fun v Q => set_own1 (a := .non) (x := .sh (.scr ns)) (xs := cs.map PV.int) (k := (p.2 : Int) % 12) (l := [.sh (.int p.2), .sh (.int p.1)]) (hp := []) (Q := Q) (v := v) (by omega) (by simp; omega)
        simp [↓ g, ↓ g2]
        exact ⟨tail, er, cs.set ((p.2 : Int) % 12).toNat (c + p.1), by rw [List.map_set], fun _ => by simp [hc]⟩
    · rintro s ⟨tail, cs, s2, s3, hr, rfl, _⟩
      exact ⟨rfl, cs, s2, s3, rfl⟩
  · rintro s' ⟨cs, s2, s3, rfl⟩
    simp [lenOk_iff, sizeLine_val]
    exact ⟨cs, 0, 0, rfl, by omega, by omega⟩
end Mi
namespace Mi
open PySem PySem.Spec PyProof.Rows L2
variable {obs : List Ob}
def dedup (z : S) : S := z.foldl (fun acc c => if c ∈ acc then acc else acc ++ [c]) []
theorem repS_one (c : Nat) : repS 1 [c] = [c] := rfl
theorem repS_zero (c : Nat) : repS 0 [c] = [] := rfl
theorem dedup_len_aux : ∀ (z acc : S), (z.foldl (fun acc c => if c ∈ acc then acc else acc ++ [c]) acc).length ≤ acc.length + z.length
  | [], acc => by simp
  | c :: z, acc => by
    rw [List.foldl_cons, List.length_cons]
    have := dedup_len_aux z (if c ∈ acc then acc else acc ++ [c])
    split at this <;> simp at this ⊢ <;> split <;> simp_all <;> omega
theorem dedup_len (z : S) : (dedup z).length ≤ z.length := by
  have := dedup_len_aux z []
  rw [List.length_nil, Nat.zero_add] at this
  exact this
theorem mulP_ch {c : Nat} {j : Int} {Q : PV → Prop} : OpQ (mulP (ch c) (.int j)) Q ↔ (-(2 ^ 63) ≤ j ∧ j < 2 ^ 63 ∧ j.toNat * ([c] : S).length ≤ sizeLine) ∧ Q (.str (repS j.toNat [c])) := mulP_str
end Mi
namespace Mi
open PySem PySem.Spec PyProof.Rows L2
variable {obs : List Ob}
theorem strL_ch : ∀ z : S, strL (z.map ch) = some (z.map fun c => [c])
  | [] => rfl
  | c :: z => by
    show (strL (z.map ch)).map _ = _
    rw [strL_ch z]
    rfl
theorem joinS_nil : ∀ ss : List S, joinS [] ss = ss.flatten
  | [] => rfl
  | [p] => by simp [joinS]
  | p :: q :: r => by
    show p ++ ([] ++ joinS [] (q :: r)) = _
    rw [joinS_nil (q :: r)]
    simp
theorem flat_ch (z : S) : (z.map fun c => [c]).flatten = z := by
  induction z with
  | nil => rfl
  | cons c z ih => simp [ih]
theorem sum_ch (z : S) : ((z.map fun c => [c]).map List.length).sum = z.length := by
  induction z with
  | nil => rfl
  | cons c z ih =>
    rw [List.map_cons, List.map_cons, List.sum_cons, ih, List.length_cons]
    show 1 + z.length = z.length + 1
    omega
theorem join_ch {z : S} {Q : PV → Prop} (h : z.length ≤ 16777216) : OpQ (joinP (.str []) [.lst (z.map ch)]) Q = Q (.str z) := by
  have e : joinP (.str []) [.lst (z.map ch)] = some (.str z) := by
    show (match strL (z.map ch) with
      | some ss => if (ss.map List.length).sum + ss.length * 0 ≤ 16777216 then some (PV.str (joinS [] ss)) else none
      | none => none) = _
    rw [strL_ch]
    dsimp only
    rw [sum_ch, if_pos (by omega), joinS_nil, flat_ch]
  rw [e]
  rfl
theorem eqv_ch (a b : Nat) : eqv (ch a) (ch b) = decide (a = b) := by
  show decide ([a] = [b]) = _
  simp
theorem inL_chs (c : Nat) : ∀ z : S, inL (ch c) (z.map ch) = decide (c ∈ z)
  | [] => by simp [inL]
  | a :: z => by
    have ih := inL_chs c z
    unfold inL at ih ⊢
    rw [List.map_cons, List.any_cons, ih, eqv_ch]
    by_cases h : a = c
    · subst h; simp
    · have h' : ¬ c = a := fun z => h z.symm
      simp [h, h']
theorem data_ch (n c : Nat) : data n (ch c) = true := by cases n <;> rfl
theorem datas_ch (n : Nat) (z : S) : (z.map ch).all (data n) = true := by
  rw [List.all_map, List.all_eq_true]
  intro c _
  exact data_ch n c
theorem notIn_chs (c : Nat) (z : S) : notInP (ch c) (.lst (z.map ch)) = some (.bl (!decide (c ∈ z))) := by
  have e : inB (ch c) (.lst (z.map ch)) = some (decide (c ∈ z)) := by
    show (if data 60 (ch c) = true ∧ (z.map ch).all (data 60) = true then some (inL (ch c) (z.map ch)) else none) = _
    rw [if_pos ⟨data_ch 60 c, datas_ch 60 z⟩, inL_chs]
  unfold notInP
  rw [e]
  rfl
theorem letters_ok {d : Nat} {z : S} {hp : List Ob} {E : PV → List Ob → Prop} (hd : 1 ≤ d) (hz : z.length ≤ 1000000) : WpC (G T d 1 [.str z] hp) (fun v b hp' => v = .str (dedup z) ∧ b = false ∧ hp' = hp) E := by
  obtain ⟨d, rfl⟩ : ∃ e, d = e + 1 := ⟨d - 1, by omega⟩
  refine wpC_fn (F := F_find_letters) rfl rfl ?_
  show Wp (b_find_letters (G T d)) _ _ ⟨[.sh (.str z), .un, .un], hp⟩
  unfold b_find_letters
  refine wp_seq ⟨[.sh (.str z), .ow (.lst []), .un], hp⟩ (by simp [lenOk_iff]) ?_
  refine wp_seq' (fun s => ∃ s2 : Slot, s = ⟨[.sh (.str z), .ow (.lst ((dedup z).map ch)), s2], hp⟩) ?_ ?_
  · simp only [↓wp_gFor, ↓wp_fSeq, ↓wp_fVar, ↓slQ_zero]
    refine wp_loop (fun r s => ∃ (done rest : S) (s2 : Slot), done ++ rest = z ∧ r = rest.map ch ∧ s = ⟨[.sh (.str z), .ow (.lst ((dedup done).map ch)), s2], hp⟩) ⟨[], z, .un, rfl, rfl, rfl⟩ ?_ ?_
    · rintro x r s ⟨done, rest, s2, e, hr, rfl⟩
      cases rest with
      | nil => cases hr
      | cons c rest =>
        obtain ⟨ex, er⟩ := List.cons.inj hr
        subst ex
        have hl : (dedup done).length ≤ done.length := dedup_len done
        have hl2 : done.length + rest.length + 1 = z.length := by rw [← e]; simp; omega
        have ed : dedup (done ++ [c]) = if c ∈ dedup done then dedup done else dedup done ++ [c] := by unfold dedup; rw [List.foldl_append]; rfl
        have en := notIn_chs c (dedup done)
        have g : ∀ Q : PV → Prop, OpQ (notInP (ch c) (.lst ((dedup done).map ch))) Q = Q (.bl (!decide (c ∈ dedup done))) := fun Q => by rw [en]; rfl
        by_cases hc : c ∈ dedup done
        · simp [↓ g, hc]
          exact ⟨done ++ [c], rest, by simpa using e, er, by rw [ed, if_pos hc]⟩
        · simp [↓ g, hc, putL, appendM, lenOk_iff, sizeLine_val]
          exact ⟨by omega, done ++ [c], rest, by simpa using e, er, by rw [ed, if_neg hc]; simp⟩
    · rintro s ⟨done, rest, s2, e, hr, rfl⟩
      have : rest = [] := by simpa using hr.symm
      subst this
      rw [List.append_nil] at e
      subst e
      exact ⟨rfl, s2, rfl⟩
  · rintro s' ⟨s2, rfl⟩
    have := dedup_len z
    have g : ∀ Q : PV → Prop, OpQ (joinP (.str []) [.lst ((dedup z).map ch)]) Q = Q (.str (dedup z)) := fun Q => join_ch (by omega)
    simp [↓ g, tag, noObj]
end Mi
namespace Mi
open PySem PySem.Spec PyProof.Rows L2
variable {obs : List Ob}
theorem cut_take {z : S} {k : Int} (h0 : 0 ≤ k) : cut z none (some k) = z.take k.toNat := by
  unfold cut HT.sIx
  simp [show ¬ k < 0 by omega]
  try (rw [List.take_eq_take_iff]; omega)
theorem take_ne {z : S} {k : Nat} (h : 0 < k) (hz : z ≠ []) : z.take k ≠ [] := by
  cases z with
  | nil => exact absurd rfl hz
  | cons a z => cases k with
    | zero => omega
    | succ k => simp
end Mi
namespace Mi
open PySem PySem.Spec PyProof.Rows L2
variable {obs : List Ob}
theorem caps_all : ∀ k : Fin 26, L2.atI cCAPS ((k.val : Nat) : Int) = some (65 + k.val) := by decide +kernel
theorem caps_at {k : Nat} (h : k < 26) : L2.atI cCAPS (k : Int) = some (65 + k) := caps_all ⟨k, h⟩
theorem cut_takeL {xs : List PV} {k : Int} (h0 : 0 ≤ k) : cut xs none (some k) = xs.take k.toNat := by
  unfold cut HT.sIx
  simp [show ¬ k < 0 by omega]
  try (rw [List.take_eq_take_iff]; omega)
end Mi
namespace Mi
open PySem PySem.Spec PyProof.Rows L2
theorem compF_map {j : Nat} {e : M PV} {l : List Slot} {hp : List Ob} (F : PV → PV) (hj : j < l.length) : ∀ (items acc : List PV) (l0 : List Slot), (∃ y, l0 = l.set j y) → (∀ x ∈ items, Wp e (fun y s => y = F x ∧ s = ⟨l.set j (.sh x), hp⟩) (fun _ _ => False) ⟨l.set j (.sh x), hp⟩) →
    Wp (compF [j] (uName j) tYesM e items) (fun ys s => acc ++ ys = acc ++ items.map F ∧ ∃ y, s = ⟨l.set j y, hp⟩) (fun _ _ => False) ⟨l0, hp⟩ := by
  intro items acc l0 h0 he
  refine wp_compF (Q := fun ys s => ys = acc ++ items.map F ∧ ∃ y, s = ⟨l.set j y, hp⟩) (fun r a s => ∃ done, done ++ r = items ∧ a = acc ++ done.map F ∧ ∃ y, s = ⟨l.set j y, hp⟩) ⟨[], rfl, by simp, ?_⟩ ?_ ?_
  · obtain ⟨y, rfl⟩ := h0
    exact ⟨y, rfl⟩
  · rintro x r a s ⟨done, e1, rfl, y, rfl⟩
    have hx : x ∈ items := by rw [← e1]; simp
    simp [wipeS, List.set_set]
    refine wp_imp (he x hx) (fun y s q => ?_) fun _ _ q => q.elim
    obtain ⟨rfl, rfl⟩ := q
    exact ⟨done ++ [x], by simpa using e1, by simp, _, rfl⟩
  · rintro a s ⟨done, e1, rfl, y, rfl⟩
    rw [List.append_nil] at e1
    subst e1
    exact ⟨rfl, y, rfl⟩
theorem wp_fMap {j : Nat} {f : M (List PV)} {e : M PV} {Q : PV → Fs → Prop} {E : PV → Fs → Prop} {s : Fs} (h : Wp f (fun items s1 => ∃ (l : List Slot) (hp : List Ob) (F : PV → PV), s1 = ⟨l, hp⟩ ∧ j < l.length ∧ okV l [j] = true ∧ items.length ≤ 16777216 ∧
    (∀ x ∈ items, Wp e (fun y s => y = F x ∧ s = ⟨l.set j (.sh x), hp⟩) (fun _ _ => False) ⟨l.set j (.sh x), hp⟩) ∧ Q (.lst (items.map F)) ⟨l, hp⟩) E s) : Wp (fComp f [j] (uName j) tYesM e) Q E s := by
  rw [wp_fComp]
  refine wp_imp h (fun items s1 q => ?_) fun _ _ q => q
  obtain ⟨l, hp, F, rfl, hj, ho, hl, he, hq⟩ := q
  refine ⟨ho, wp_imp (compF_map F hj items [] l ⟨l[j], by simp⟩ he) (fun ys s q => ?_) fun _ _ q => q⟩
  obtain ⟨e1, y, rfl⟩ := q
  have e1' : ys = items.map F := by simpa using e1
  subst e1'
  refine ⟨lenOk_of (by rw [List.length_map, sizeLine_val]; exact hl), ?_⟩
  have : backS l (l.set j y) [j] = l := by
    show ((l.set j y).set j (l.getD j .un)) = l
    rw [List.set_set]
    apply List.ext_getElem?
    intro i
    by_cases h : j = i
    · subst h
      simp [hj]
    · rw [List.getElem?_set_ne h]
  dsimp only
  rw [this]
  exact hq
end Mi
end S_Pn
section S_La
set_option Elab.async false
set_option linter.all false
set_option maxRecDepth 100000
set_option maxHeartbeats 4000000
namespace Mi
open PySem PySem.Spec PyProof.Rows L2
structure Pat (z : S) : Prop where
  ne : 1 ≤ z.length
  le : z.length ≤ 20
  cap : ∀ c ∈ z, c ∈ cCAPS
  few : (dedup z).length ≤ 7
theorem bools_map {α : Type} (f : α → Bool) : ∀ xs : List α, bools (xs.map fun x => PV.bl (f x)) = some (xs.map f)
  | [] => rfl
  | x :: xs => by
    show (bools (xs.map fun x => PV.bl (f x))).map _ = _
    rw [bools_map f xs]
    rfl
theorem all_chs {z : S} {F : PV → PV} {f : Nat → Bool} {Q : PV → Prop} (h : ∀ c ∈ z, F (ch c) = .bl (f c)) : OpQ (allP [.lst ((z.map ch).map F)]) Q = Q (.bl (z.all f)) := by
  have e : (z.map ch).map F = z.map fun c => PV.bl (f c) := by
    rw [List.map_map]
    exact List.map_congr_left h
  rw [e]
  show OpQ ((bools _).map _) Q = _
  rw [bools_map]
  simp [List.all_map, OpQ]
theorem isPat_ok {d : Nat} {z : S} {hp : List Ob} {E : PV → List Ob → Prop} (hd : 2 ≤ d) (h : Pat z) : WpC (G T d 2 [.str z] hp) (fun v b hp' => v = .bl true ∧ b = false ∧ hp' = hp) E := by
  obtain ⟨d, rfl⟩ : ∃ e, d = e + 1 := ⟨d - 1, by omega⟩
  obtain ⟨h1, h2, h3, h4⟩ := h
  refine wpC_fn (F := F_is_pattern) rfl rfl ?_
  show Wp (b_is_pattern (G T d)) _ _ ⟨[.sh (.str z), .un], hp⟩
  unfold b_is_pattern
  refine wp_seq ⟨[.sh (.str z), .un], hp⟩ ?_ ?_
  · have h1' : (1 : Int) ≤ z.length := by omega
    have h2' : (z.length : Int) ≤ 20 := by omega
    simp [tyN, isN, h1', h2']
  simp only [↓wp_gRet, ↓wp_fAndV, ↓wp_fB, ↓wp_fOCons, ↓wp_fLoc]
  refine wp_fMap ?_
  simp only [↓wp_fSeq, ↓wp_fVar, ↓slQ_zero]
  refine ⟨_, _, fun x => match x with
    | .str [c] => .bl (decide (c ∈ cCAPS))
    | _ => .non, rfl, by simp, by rfl, by simp; omega, ?_, ?_⟩
  · intro x hx
    obtain ⟨c, hc, rfl⟩ := List.mem_map.mp hx
    simp
    rfl
  · simp only [↓wp_fONil, ↓lsQ_cons, ↓opQ_rdval, ↓lsQ_nil]
    rw [all_chs (f := fun c => decide (c ∈ cCAPS)) (fun c _ => rfl)]
    have e : z.all (fun c => decide (c ∈ cCAPS)) = true := by simpa using h3
    rw [e]
    simp only [↓wp_fOp2, ↓wp_fLoc, ↓wp_fB, ↓wp_fOCons, ↓wp_fCall, ↓wp_fCons, ↓wp_fVar, ↓slQ_zero, ↓wp_fNil]
    refine wpC_imp (letters_ok (E := fun _ _ => False) (by omega) (by omega)) (fun v b hp2 q => ?_) fun _ _ q => q.elim
    obtain ⟨rfl, _, rfl⟩ := q
    simp
    omega
theorem reqPat_ok {d : Nat} {z : S} {hp : List Ob} {E : PV → List Ob → Prop} (hd : 3 ≤ d) (h : Pat z) : WpC (G T d 3 [.str z] hp) (fun v b hp' => v = .non ∧ hp' = hp) E := by
  obtain ⟨d, rfl⟩ : ∃ e, d = e + 1 := ⟨d - 1, by omega⟩
  refine wpC_fn (F := F_require_pattern) rfl rfl ?_
  show Wp (b_require_pattern (G T d)) _ _ ⟨[.sh (.str z)], hp⟩
  unfold b_require_pattern
  simp only [↓wp_gIf, ↓wp_fNot, ↓wp_asB, ↓wp_fCall, ↓wp_fCons, ↓wp_fVar, ↓slQ_zero, ↓wp_fNil]
  refine wpC_imp (isPat_ok (E := fun _ _ => False) (by omega) h) (fun v b hp2 q => ?_) fun _ _ q => q.elim
  obtain ⟨rfl, _, rfl⟩ := q
  simp
end Mi
namespace Mi
open PySem PySem.Spec PyProof.Rows L2
def idx (L : S) (c : Nat) : Nat := (findS L [c] 0 L.length).getD 0
theorem find_sign {L : S} {c : Nat} (h : c ∈ L) : ∃ i, findS L [c] 0 L.length = some i ∧ ∃ hi : i < L.length, L[i] = c := by
  obtain ⟨k, hk, ek⟩ := List.mem_iff_getElem.mp h
  cases e : findS L [c] 0 L.length with
  | none =>
    unfold findS at e
    rw [List.find?_eq_none] at e
    have := e k (by simp; omega)
    simp [atS] at this
    refine absurd ?_ (this (by omega))
    rw [List.drop_eq_getElem_cons hk, ek]
    rfl
  | some i =>
    unfold findS at e
    have h1 := List.find?_some e
    simp [atS] at h1
    have hi : i < L.length := by omega
    refine ⟨i, rfl, hi, ?_⟩
    have h2 := h1.2
    rw [List.drop_eq_getElem_cons hi] at h2
    exact (List.cons.inj h2).1
theorem index_ok {L : S} {c : Nat} {Q : PV → Prop} (h : c ∈ L) : OpQ (indexSP (.str L) [ch c]) Q = Q (.int (idx L c)) := by
  obtain ⟨i, e, _⟩ := find_sign h
  have e2 : indexSP (.str L) [ch c] = some (.int (idx L c)) := by
    unfold indexSP ch idx
    simp [e]
  rw [e2]
  rfl
theorem idx_lt {L : S} {c : Nat} (h : c ∈ L) : ∃ hi : idx L c < L.length, L[idx L c] = c := by
  obtain ⟨i, e, hi, h2⟩ := find_sign h
  have : idx L c = i := by unfold idx; rw [e]; rfl
  subst this
  exact ⟨hi, h2⟩
theorem mem_dedup_aux {c : Nat} : ∀ (z acc : S), c ∈ z.foldl (fun acc c => if c ∈ acc then acc else acc ++ [c]) acc ↔ c ∈ acc ∨ c ∈ z
  | [], acc => by simp
  | a :: z, acc => by
    rw [List.foldl_cons, mem_dedup_aux z]
    by_cases h : a ∈ acc
    · rw [if_pos h]
      constructor
      · rintro (h1 | h1)
        · exact .inl h1
        · exact .inr (List.mem_cons_of_mem _ h1)
      · rintro (h1 | h1)
        · exact .inl h1
        · rcases List.mem_cons.mp h1 with rfl | h1
          · exact .inl h
          · exact .inr h1
    · rw [if_neg h]
      simp [or_assoc]
theorem mem_dedup {c : Nat} {z : S} : c ∈ dedup z ↔ c ∈ z := by
  unfold dedup
  rw [mem_dedup_aux]
  simp
def nf (z : S) : S := z.map fun c => 65 + idx (dedup z) c
end Mi
end S_La
section S_Lb
set_option Elab.async false
set_option linter.all false
set_option maxRecDepth 100000
set_option maxHeartbeats 4000000
namespace Mi
open PySem PySem.Spec PyProof.Rows L2
theorem bools_true {F : PV → PV} : ∀ {xs : List PV}, (∀ x ∈ xs, F x = .bl true) → bools (xs.map F) = some (xs.map fun _ => true)
  | [], _ => rfl
  | x :: xs, h => by
    rw [List.map_cons, h x (List.mem_cons_self ..)]
    show (bools (xs.map F)).map _ = _
    rw [bools_true fun y hy => h y (List.mem_cons_of_mem _ hy)]
    rfl
theorem all_true {F : PV → PV} {xs : List PV} {Q : PV → Prop} (h : ∀ x ∈ xs, F x = .bl true) : OpQ (allP [.lst (xs.map F)]) Q = Q (.bl true) := by
  show OpQ ((bools (xs.map F)).map _) Q = _
  rw [bools_true h]
  have : (xs.map fun _ => true).all id = true := by simp
  simp [OpQ, this]
structure Wd (w : S) : Prop where
  le : w.length ≤ 200
  sm : ∀ c ∈ w, c ∈ cSMALL
end Mi
end S_Lb
section S_Lc
set_option Elab.async false
set_option linter.all false
set_option maxRecDepth 100000
set_option maxHeartbeats 4000000
namespace Mi
open PySem PySem.Spec PyProof.Rows L2
theorem keq_ch (a b : Nat) : keq (ch a) (ch b) = decide (a = b) := by
  show decide ([a] = [b]) = _
  simp
theorem dput_new {acc : List (PV × PV)} {c : Nat} {v : PV} (h : ∀ p ∈ acc, keq p.1 (ch c) = false) : dput acc (ch c) v = acc ++ [(ch c, v)] := by
  unfold dput
  have : (acc.any fun p => keq p.1 (ch c)) = false := by
    rw [List.any_eq_false]
    intro p hp
    rw [h p hp]
    simp
  rw [this]
  rfl
theorem dfold_chs : ∀ (L : S) (ws : List PV) (acc : List (PV × PV)), L.Nodup → (∀ c ∈ L, ∀ p ∈ acc, keq p.1 (ch c) = false) → ((L.map ch).zip ws).foldl dput1 acc = acc ++ (L.map ch).zip ws
  | [], ws, acc, _, _ => by simp
  | c :: L, [], acc, _, _ => by simp
  | c :: L, w :: ws, acc, hn, ha => by
    rw [List.map_cons, List.zip_cons_cons, List.foldl_cons]
    have e : dput1 acc (ch c, w) = acc ++ [(ch c, w)] := dput_new (ha c (List.mem_cons_self ..))
    rw [e, dfold_chs L ws _ (List.nodup_cons.mp hn).2]
    · simp
    · intro d hd p hp
      rcases List.mem_append.mp hp with h | h
      · exact ha d (List.mem_cons_of_mem _ hd) p h
      · rw [List.mem_singleton.mp h, keq_ch]
        exact decide_eq_false fun z => (List.nodup_cons.mp hn).1 (z ▸ hd)
theorem nodup_dedup_aux : ∀ (z acc : S), acc.Nodup → (z.foldl (fun acc c => if c ∈ acc then acc else acc ++ [c]) acc).Nodup
  | [], acc, h => h
  | a :: z, acc, h => by
    rw [List.foldl_cons]
    apply nodup_dedup_aux z
    by_cases ha : a ∈ acc
    · rw [if_pos ha]; exact h
    · rw [if_neg ha, List.nodup_append]
      refine ⟨h, by simp, fun x hx y hy => ?_⟩
      rw [List.mem_singleton.mp hy]
      exact fun e => ha (e ▸ hx)
theorem nodup_dedup (z : S) : (dedup z).Nodup := nodup_dedup_aux z [] .nil
theorem dfind_zip : ∀ (L : S) (ws : List PV) (i : Nat) (hi : i < L.length) (hw : i < ws.length), L.Nodup → dfind ((L.map ch).zip ws) (ch L[i]) = some ws[i]
  | c :: L, w :: ws, 0, _, _, _ => by
    unfold dfind
    rw [List.map_cons, List.zip_cons_cons, List.find?_cons]
    simp [keq_ch]
  | c :: L, w :: ws, i + 1, hi, hw, hn => by
    have hi' : i < L.length := by simpa using hi
    have hw' : i < ws.length := by simpa using hw
    have ih := dfind_zip L ws i hi' hw' (List.nodup_cons.mp hn).2
    have hne : ¬ c = L[i] := fun z => (List.nodup_cons.mp hn).1 (z ▸ List.getElem_mem hi')
    unfold dfind at ih ⊢
    rw [List.map_cons, List.zip_cons_cons, List.find?_cons]
    simp only [List.getElem_cons_succ, keq_ch, decide_eq_false hne]
    exact ih
def val (z : S) (ws : List S) : S := (z.map fun c => ws.getD (idx (dedup z) c) []).flatten
theorem strL_str : ∀ ws : List S, strL (ws.map .str) = some ws
  | [] => rfl
  | w :: ws => by
    show (strL (ws.map .str)).map _ = _
    rw [strL_str ws]
    rfl
theorem join_str {ws : List S} {Q : PV → Prop} (h : ws.flatten.length ≤ 16777216) : OpQ (joinP (.str []) [.lst (ws.map .str)]) Q = Q (.str ws.flatten) := by
  have e : joinP (.str []) [.lst (ws.map .str)] = some (.str ws.flatten) := by
    show (match strL (ws.map .str) with
      | some ss => if (ss.map List.length).sum + ss.length * 0 ≤ 16777216 then some (PV.str (joinS [] ss)) else none
      | none => none) = _
    rw [strL_str]
    dsimp only
    rw [List.length_flatten] at h
    rw [if_pos (by omega), joinS_nil]
  rw [e]
  rfl
theorem dz_chs {L : S} {ws : List PV} {Q : PV → Prop} (hn : L.Nodup) : OpQ (dzP [.str L, .tup ws]) Q = Q (.dic ((L.map ch).zip ws)) := by
  have e : dzP [.str L, .tup ws] = some (.dic ((L.map ch).zip ws)) := by
    show (if (L.map ch).all (fun k => (keyOf k).isSome) = true then some (PV.dic (((L.map ch).zip ws).foldl dput1 [])) else none) = _
    rw [if_pos (by rw [List.all_map, List.all_eq_true]; intro c _; rfl), dfold_chs L ws [] hn (by simp)]
    rfl
  rw [e]
  rfl
end Mi
end S_Lc
section S_Ld
set_option Elab.async false
set_option linter.all false
set_option maxRecDepth 100000
set_option maxHeartbeats 4000000
namespace Mi
open PySem PySem.Spec PyProof.Rows L2
variable {obs : List Ob}
theorem nodup_le : ∀ {l m : S}, l.Nodup → (∀ c ∈ l, c ∈ m) → l.length ≤ m.length
  | [], _, _, _ => Nat.zero_le _
  | a :: l, m, hn, hs => by
    have ha : a ∈ m := hs a (List.mem_cons_self ..)
    have hn' := List.nodup_cons.mp hn
    have ih := nodup_le (l := l) (m := m.erase a) hn'.2 fun c hc => (List.mem_erase_of_ne (by intro e; subst e; exact hn'.1 hc)).mpr (hs c (List.mem_cons_of_mem _ hc))
    rw [List.length_erase_of_mem ha] at ih
    have := List.length_pos_of_mem ha
    rw [List.length_cons]
    omega
theorem caps_mem {c : Nat} (h : 65 ≤ c ∧ c < 91) : c ∈ cCAPS := by
  have : ∀ k : Fin 26, (65 + k.val) ∈ cCAPS := by decide +kernel
  have e := this ⟨c - 65, by omega⟩
  have : 65 + (c - 65) = c := by omega
  simp only [this] at e
  exact e
structure Nest (o : S) (ins ws : List S) : Prop where
  o1 : 1 ≤ o.length
  o2 : o.length ≤ 4
  o3 : ∀ c ∈ o, c ∈ cCAPS
  o4 : (dedup o).length ≤ 3
  i1 : ins.length = (dedup o).length
  i2 : ∀ p ∈ ins, 1 ≤ p.length ∧ p.length ≤ 4 ∧ (∀ c ∈ p, c ∈ cCAPS) ∧ (dedup p).length ≤ 2
  w1 : ws.length = (dedup ins.flatten).length
  w2 : ∀ w ∈ ws, 1 ≤ w.length ∧ w.length ≤ 3 ∧ ∀ c ∈ w, c ∈ cSMALL
theorem flat_le {k : Nat} : ∀ {ins : List S}, (∀ p ∈ ins, p.length ≤ k) → ins.flatten.length ≤ ins.length * k
  | [], _ => by simp
  | p :: ins, h => by
    have ih := flat_le (ins := ins) fun q hq => h q (List.mem_cons_of_mem _ hq)
    have := h p (List.mem_cons_self ..)
    rw [List.flatten_cons, List.length_append, List.length_cons, Nat.succ_mul]
    omega
end Mi
end S_Ld
section S_Le
set_option Elab.async false
set_option linter.all false
set_option maxRecDepth 100000
set_option maxHeartbeats 4000000
namespace Mi
open PySem PySem.Spec PyProof.Rows L2
theorem val_map (z : S) (W : Nat → S) : val z ((dedup z).map W) = (z.map W).flatten := by
  unfold val
  congr 1
  apply List.map_congr_left
  intro c hc
  obtain ⟨hi, e⟩ := idx_lt (mem_dedup.mpr hc)
  simp [hi, e]
theorem flat_map (o : List S) (W : Nat → S) : (o.flatten.map W).flatten = (o.map fun p => (p.map W).flatten).flatten := by
  induction o with
  | nil => rfl
  | cons p o ih => rw [List.flatten_cons, List.map_append, List.flatten_append, ih, List.map_cons, List.flatten_cons]
theorem idx_ins {o : S} {ins : List S} (hl : ins.length = (dedup o).length) {c : Nat} (hc : c ∈ o) : ∃ h : idx (dedup o) c < ins.length, ins.getD (idx (dedup o) c) [] = ins[idx (dedup o) c] := by
  obtain ⟨hi, _⟩ := idx_lt (mem_dedup.mpr hc)
  exact ⟨by omega, by simp [show idx (dedup o) c < ins.length by omega]⟩
theorem val_val {o : S} {ins : List S} (W : Nat → S) (hl : ins.length = (dedup o).length) : val o (ins.map fun p => (p.map W).flatten) = ((val o ins).map W).flatten := by
  unfold val
  rw [flat_map, List.map_map]
  congr 1
  apply List.map_congr_left
  intro c hc
  obtain ⟨h, e⟩ := idx_ins hl hc
  simp only [Function.comp]
  rw [e]
  simp [h]
theorem dedup_flat {k : Nat} : ∀ {ins : List S}, (∀ p ∈ ins, (dedup p).length ≤ k) → (dedup ins.flatten).length ≤ ins.length * k := by
  intro ins h
  have h1 : (dedup ins.flatten).length ≤ (ins.map dedup).flatten.length := nodup_le (nodup_dedup _) fun c hc => by
    obtain ⟨p, hp, hcp⟩ := List.mem_flatten.mp (mem_dedup.mp hc)
    exact List.mem_flatten.mpr ⟨dedup p, List.mem_map_of_mem hp, mem_dedup.mpr hcp⟩
  have h2 := flat_le (ins := ins.map dedup) (k := k) fun q hq => by
    obtain ⟨p, hp, rfl⟩ := List.mem_map.mp hq
    exact h p hp
  rw [List.length_map] at h2
  omega
theorem val_mem {o : S} {ins : List S} (hl : ins.length = (dedup o).length) {c : Nat} (h : c ∈ val o ins) : c ∈ ins.flatten := by
  unfold val at h
  obtain ⟨p, hp, hc⟩ := List.mem_flatten.mp h
  obtain ⟨a, ha, rfl⟩ := List.mem_map.mp hp
  obtain ⟨hi, e⟩ := idx_ins hl ha
  rw [e] at hc
  exact List.mem_flatten.mpr ⟨_, List.getElem_mem hi, hc⟩
theorem val_len {o : S} {ins : List S} {k : Nat} (hl : ins.length = (dedup o).length) (h : ∀ p ∈ ins, p.length ≤ k) : (val o ins).length ≤ o.length * k := by
  have := flat_le (ins := o.map fun c => ins.getD (idx (dedup o) c) []) (k := k) fun p hp => by
    obtain ⟨a, ha, rfl⟩ := List.mem_map.mp hp
    obtain ⟨hi, e⟩ := idx_ins hl ha
    rw [e]
    exact h _ (List.getElem_mem hi)
  rw [List.length_map] at this
  exact this
theorem val_ne {o : S} {ins : List S} (hl : ins.length = (dedup o).length) (ho : 1 ≤ o.length) (h : ∀ p ∈ ins, 1 ≤ p.length) : 1 ≤ (val o ins).length := by
  cases o with
  | nil => simp at ho
  | cons a o =>
    obtain ⟨hi, e⟩ := idx_ins hl (List.mem_cons_self (a := a) (l := o))
    have := h _ (List.getElem_mem hi)
    unfold val
    rw [List.map_cons, List.flatten_cons, List.length_append, e]
    omega
theorem whole_pat {o : S} {ins ws : List S} (N : Nest o ins ws) : Pat (val o ins) where
  ne := val_ne N.i1 N.o1 fun p hp => (N.i2 p hp).1
  le := by
    have := val_len (k := 4) N.i1 fun p hp => (N.i2 p hp).2.1
    have := N.o2
    omega
  cap := fun c hc => by
    obtain ⟨p, hp, h⟩ := List.mem_flatten.mp (val_mem N.i1 hc)
    exact (N.i2 p hp).2.2.1 c h
  few := by
    have h1 := nodup_le (nodup_dedup (val o ins)) (m := dedup ins.flatten) fun c hc => mem_dedup.mpr (val_mem N.i1 (mem_dedup.mp hc))
    have h2 := dedup_flat (k := 2) fun p hp => (N.i2 p hp).2.2.2
    have := N.o4
    have := N.i1
    omega
theorem in_pat {o : S} {ins ws : List S} (N : Nest o ins ws) {p : S} (hp : p ∈ ins) : Pat p := by
  obtain ⟨a, b, c, e⟩ := N.i2 p hp
  exact ⟨a, by omega, c, by omega⟩
theorem out_pat {o : S} {ins ws : List S} (N : Nest o ins ws) : Pat o := ⟨N.o1, by have := N.o2; omega, N.o3, by have := N.o4; omega⟩
def sing (k : Nat) : List S := (List.range k).map fun i => [97 + i]
theorem val_sing {z : S} {k : Nat} (h : k = (dedup z).length) : val z (sing k) = z.map fun c => 97 + idx (dedup z) c := by
  unfold val sing
  have e : (z.map fun c => ((List.range k).map fun i => ([97 + i] : S)).getD (idx (dedup z) c) []) = (z.map fun c => 97 + idx (dedup z) c).map fun c => [c] := by
    rw [List.map_map]
    apply List.map_congr_left
    intro c hc
    obtain ⟨hi, _⟩ := idx_lt (mem_dedup.mpr hc)
    simp [show idx (dedup z) c < k by omega]
  rw [e, flat_ch]
theorem sing_words {k : Nat} (h : k ≤ 7) : ∀ w ∈ sing k, Wd w ∧ w ≠ [] := by
  intro w hw
  obtain ⟨i, hi, rfl⟩ := List.mem_map.mp hw
  have hi' := List.mem_range.mp hi
  refine ⟨⟨by simp, fun c hc => ?_⟩, by simp⟩
  have : ∀ j : Fin 7, (97 + j.val) ∈ cSMALL := by decide +kernel
  rw [List.mem_singleton.mp hc]
  exact this ⟨i, by omega⟩
theorem same_form {y z : S} : ((y.map fun c => 97 + idx (dedup y) c) = z.map fun c => 97 + idx (dedup z) c) ↔ nf y = nf z := by
  have e1 : ∀ x : S, (x.map fun c => 97 + idx (dedup x) c) = (nf x).map (· + 32) := fun x => by
    unfold nf
    rw [List.map_map]
    apply List.map_congr_left
    intro c _
    show 97 + _ = 65 + _ + 32
    omega
  rw [e1, e1]
  constructor
  · intro h
    have inj : ∀ a b : S, a.map (· + 32) = b.map (· + 32) → a = b := by
      intro a
      induction a with
      | nil => intro b h; cases b with
        | nil => rfl
        | cons _ _ => cases h
      | cons x a ih => intro b h; cases b with
        | nil => cases h
        | cons y b =>
          have h2 := List.cons.inj h
          have : x = y := by
            have h3 : x + 32 = y + 32 := h2.1
            omega
          rw [this, ih b h2.2]
    exact inj _ _ h
  · intro h; rw [h]
theorem lower_nf {z : S} (h : (dedup z).length ≤ 7) : (nf z).map lo1 = z.map fun c => 97 + idx (dedup z) c := by
  unfold nf
  rw [List.map_map]
  apply List.map_congr_left
  intro c hc
  obtain ⟨hi, _⟩ := idx_lt (mem_dedup.mpr hc)
  have : ∀ k : Fin 7, lo1 (65 + k.val) = 97 + k.val := by decide +kernel
  exact this ⟨idx (dedup z) c, by omega⟩
end Mi
end S_Le
section S_Rn
set_option Elab.async false
set_option linter.all false
set_option maxRecDepth 100000
set_option maxHeartbeats 4000000
namespace Mi
open PySem PySem.Spec PyProof.Rows L2
def InjOn (f : Nat → Nat) (z : S) : Prop := ∀ a ∈ z, ∀ b ∈ z, f a = f b → a = b
theorem dedup_map_aux {f : Nat → Nat} : ∀ (z acc : S), InjOn f (acc ++ z) → (z.map f).foldl (fun acc c => if c ∈ acc then acc else acc ++ [c]) (acc.map f) = (z.foldl (fun acc c => if c ∈ acc then acc else acc ++ [c]) acc).map f
  | [], acc, _ => rfl
  | c :: z, acc, h => by
    rw [List.map_cons, List.foldl_cons, List.foldl_cons]
    by_cases hc : c ∈ acc
    · rw [if_pos hc, if_pos (List.mem_map_of_mem hc)]
      exact dedup_map_aux z acc fun a ha b hb => h a (by rcases List.mem_append.mp ha with h | h <;> simp [h]) b (by rcases List.mem_append.mp hb with h | h <;> simp [h])
    · have hn : f c ∉ acc.map f := fun hm => by
        obtain ⟨a, ha, e⟩ := List.mem_map.mp hm
        have := h a (by simp [ha]) c (by simp) e
        rw [this] at ha
        exact hc ha
      rw [if_neg hc, if_neg hn]
      have e : acc.map f ++ [f c] = (acc ++ [c]).map f := by simp
      rw [e]
      exact dedup_map_aux z (acc ++ [c]) fun a ha b hb => h a (by simpa using ha) b (by simpa using hb)
theorem dedup_map {f : Nat → Nat} {z : S} (h : InjOn f z) : dedup (z.map f) = (dedup z).map f := dedup_map_aux z [] (by simpa using h)
theorem nodup_idx {L : S} (h : L.Nodup) {i : Nat} (hi : i < L.length) : idx L L[i] = i := by
  obtain ⟨hj, e⟩ := idx_lt (List.getElem_mem hi)
  exact (List.getElem_inj (h₀ := hj) (h₁ := hi) h).mp e
theorem idx_map {f : Nat → Nat} {L : S} (hn : L.Nodup) (h : InjOn f L) {c : Nat} (hc : c ∈ L) : idx (L.map f) (f c) = idx L c := by
  obtain ⟨hi, e⟩ := idx_lt hc
  have hn2 : (L.map f).Nodup := by
    rw [List.nodup_iff_pairwise_ne, List.pairwise_map]
    refine List.Pairwise.imp_of_mem (fun {a b} ha hb hne e => hne (h a ha b hb e)) (List.nodup_iff_pairwise_ne.mp hn)
  have hl : idx L c < (L.map f).length := by rw [List.length_map]; exact hi
  have := nodup_idx hn2 hl
  rw [List.getElem_map, e] at this
  exact this
theorem inj_dedup {f : Nat → Nat} {z : S} (h : InjOn f z) : InjOn f (dedup z) := fun a ha b hb => h a (mem_dedup.mp ha) b (mem_dedup.mp hb)
theorem nf_map {f : Nat → Nat} {z : S} (h : InjOn f z) : nf (z.map f) = nf z := by
  unfold nf
  rw [dedup_map h, List.map_map]
  refine List.map_congr_left fun c hc => ?_
  show 65 + idx ((dedup z).map f) (f c) = _
  rw [idx_map (nodup_dedup z) (inj_dedup h) (mem_dedup.mpr hc)]
theorem idx_inj {L : S} {a b : Nat} (ha : a ∈ L) (hb : b ∈ L) (h : idx L a = idx L b) : a = b := by
  obtain ⟨hi, e1⟩ := idx_lt ha
  obtain ⟨hj, e2⟩ := idx_lt hb
  rw [← e1, ← e2]
  congr 1
theorem nf_inj (z : S) : InjOn (fun c => 65 + idx (dedup z) c) z := fun a ha b hb e => idx_inj (mem_dedup.mpr ha) (mem_dedup.mpr hb) (by
  have e' : 65 + idx (dedup z) a = 65 + idx (dedup z) b := e
  omega)
theorem nf_nf (z : S) : nf (nf z) = nf z := nf_map (nf_inj z)
theorem dedup_nf (z : S) : dedup (nf z) = (List.range (dedup z).length).map fun i => 65 + i := by
  have h := dedup_map (nf_inj z)
  have e : dedup (nf z) = (dedup z).map fun c => 65 + idx (dedup z) c := h
  rw [e]
  apply List.ext_getElem
  · simp
  · intro i h1 h2
    rw [List.getElem_map, List.getElem_map, List.getElem_range, nodup_idx (nodup_dedup z)]
theorem nf_len (z : S) : (nf z).length = z.length := by unfold nf; rw [List.length_map]
theorem pat_map {f : Nat → Nat} {z : S} (hz : Pat z) (hf : ∀ c ∈ z, f c ∈ cCAPS) (h : (dedup (z.map f)).length ≤ 7) : Pat (z.map f) where
  ne := by rw [List.length_map]; exact hz.ne
  le := by rw [List.length_map]; exact hz.le
  cap := fun c hc => by
    obtain ⟨b, hb, rfl⟩ := List.mem_map.mp hc
    exact hf b hb
  few := h
theorem pat_inj {f : Nat → Nat} {z : S} (hz : Pat z) (hf : ∀ c ∈ z, f c ∈ cCAPS) (h : InjOn f z) : Pat (z.map f) := pat_map hz hf (by rw [dedup_map h, List.length_map]; exact hz.few)
theorem pat_nf {z : S} (hz : Pat z) : Pat (nf z) := pat_inj hz (fun c hc => by
  obtain ⟨hi, _⟩ := idx_lt (mem_dedup.mpr hc)
  have := hz.few
  exact caps_mem ⟨by omega, by omega⟩) (nf_inj z)
def glue (a b : Nat) (z : S) : S := z.map fun c => if c = a then b else c
theorem glue_self (a : Nat) (z : S) : glue a a z = z := by
  unfold glue
  refine (List.map_congr_left fun c _ => ?_).trans (List.map_id z)
  by_cases h : c = a
  · rw [if_pos h, h]; rfl
  · rw [if_neg h]; rfl
theorem glue_mem {a b : Nat} {z : S} (hb : b ∈ z) : ∀ c ∈ glue a b z, c ∈ z := fun c hc => by
  unfold glue at hc
  obtain ⟨d, hd, rfl⟩ := List.mem_map.mp hc
  split
  · exact hb
  · exact hd
theorem pat_glue {a b : Nat} {z : S} (hz : Pat z) (hb : b ∈ z) : Pat (glue a b z) where
  ne := by unfold glue; rw [List.length_map]; exact hz.ne
  le := by unfold glue; rw [List.length_map]; exact hz.le
  cap := fun c hc => hz.cap c (glue_mem hb c hc)
  few := Nat.le_trans (nodup_le (nodup_dedup _) fun c hc => mem_dedup.mpr (glue_mem hb c (mem_dedup.mp hc))) hz.few
theorem nf_glue {a b : Nat} {z : S} (hab : a ≠ b) (ha : a ∈ z) (hb : b ∈ z) : nf (glue a b z) ≠ nf z := by
  intro h
  obtain ⟨i, hi, ei⟩ := List.mem_iff_getElem.mp ha
  obtain ⟨j, hj, ej⟩ := List.mem_iff_getElem.mp hb
  have g : ∀ k (hk : k < z.length), 65 + idx (dedup (glue a b z)) (if z[k] = a then b else z[k]) = 65 + idx (dedup z) z[k] := fun k hk => by
    have e : (nf (glue a b z))[k]? = (nf z)[k]? := by rw [h]
    unfold nf glue at e
    rw [List.map_map, List.getElem?_map, List.getElem?_map, List.getElem?_eq_getElem hk] at e
    exact Option.some.inj e
  have g1 := g i hi
  have g2 := g j hj
  rw [ei, if_pos rfl] at g1
  rw [ej, if_neg (fun e => hab e.symm)] at g2
  exact hab (idx_inj (mem_dedup.mpr ha) (mem_dedup.mpr hb) (by omega))
end Mi
end S_Rn
section S_Rp
set_option Elab.async false
set_option linter.all false
set_option maxRecDepth 100000
set_option maxHeartbeats 4000000
namespace Mi
open PySem PySem.Spec PyProof.Rows L2
def asc (x : Str) : Prop := ∀ c ∈ x.cps.toList, c < 128
theorem asc_app {x y : Str} (hx : asc x) (hy : asc y) : asc (x ++ y) := fun c hc => by
  rw [Str.cps_append, Array.toList_append, List.mem_append] at hc
  exact hc.elim (hx c) (hy c)
theorem asc_lit {s : String} (h : ((Str.ofString s).cps.toList.all fun c => decide (c < 128)) = true) : asc (Str.ofString s) := fun c hc => by
  have := List.all_eq_true.mp h c hc
  simpa using this
theorem asc_from : ∀ (ts : List Str) (k : Nat) (acc : Str), asc acc → (∀ t ∈ ts, asc t) → asc (textFrom k acc ts)
  | [], _, _, h, _ => h
  | t :: ts, k, acc, h, ht => asc_from ts (k + 1) _ (asc_app (asc_app h (by split <;> exact asc_lit (by decide +kernel))) (ht t (List.mem_cons_self ..))) fun u hu => ht u (List.mem_cons_of_mem _ hu)
theorem asc_join : ∀ ts : List Str, (∀ t ∈ ts, asc t) → asc (Str.join (Str.ofString ", ") ts)
  | [], _ => fun c hc => by cases hc
  | [t], h => h t (List.mem_cons_self ..)
  | t :: u :: r, h => asc_app (asc_app (h t (List.mem_cons_self ..)) (asc_lit (by decide +kernel))) (asc_join (u :: r) fun v hv => h v (List.mem_cons_of_mem _ hv))
theorem reprChar_asc : ∀ (q : Fin 2) (c : Fin 128), ((Builtin.Str.reprChar (if q.val = 0 then 34 else 39) c.val).all fun d => decide (d < 128)) = true := by decide +kernel
theorem fold_asc {q : Nat} (hq : q = 34 ∨ q = 39) : ∀ (l : List Nat) (acc : Array Nat), (∀ c ∈ acc.toList, c < 128) → (∀ c ∈ l, c < 128) → ∀ c ∈ (l.foldl (fun out c => out ++ (Builtin.Str.reprChar q c).toArray) acc).toList, c < 128
  | [], acc, h, _ => h
  | a :: l, acc, h, hl => fold_asc hq l _ (fun c hc => by
      rw [Array.toList_append, List.mem_append] at hc
      rcases hc with hc | hc
      · exact h c hc
      · have ha : a < 128 := hl a (List.mem_cons_self ..)
        rcases hq with rfl | rfl
        · have := List.all_eq_true.mp (reprChar_asc 0 ⟨a, ha⟩) c (by simpa using hc)
          simpa using this
        · have := List.all_eq_true.mp (reprChar_asc 1 ⟨a, ha⟩) c (by simpa using hc)
          simpa using this) fun c hc => hl c (List.mem_cons_of_mem _ hc)
theorem quote_or (x : Str) : reprQuote x = 34 ∨ reprQuote x = 39 := by
  unfold reprQuote
  split
  · exact .inl rfl
  · exact .inr rfl
theorem asc_text {x : Str} (h : asc x) : asc (reprText x) := fun c hc => by
  unfold reprText at hc
  have q := quote_or x
  simp only [Array.toList_push, List.mem_append, List.mem_singleton] at hc
  rcases hc with hc | rfl
  · rw [← Array.foldl_toList] at hc
    exact fold_asc q _ _ (fun d hd => by
      have : d = reprQuote x := by simpa using hd
      omega) h c hc
  · omega
def sm (k : Nat) : Nat → PV → Bool
  | _, .non => true
  | _, .bl _ => true
  | _, .int i => decide (i.natAbs < 10 ^ k)
  | _, .str s => s.all fun c => decide (c < 128)
  | n + 1, .tup xs => xs.all (sm k n)
  | n + 1, .lst xs => xs.all (sm k n)
  | _, _ => false
theorem asc_str {s : S} (h : (s.all fun c => decide (c < 128)) = true) : asc (strOf s) := fun c hc => by
  have := List.all_eq_true.mp h c hc
  simpa using this
mutual
theorem shown_asc {k : Nat} : ∀ (n : Nat) (x : PV), sm k n x = true → asc (pd x).shown
  | _, .non, _ => asc_lit (by decide +kernel)
  | _, .bl b, _ => by
    unfold pd PyData.shown
    cases b
    · exact asc_lit (by decide +kernel)
    · exact asc_lit (by decide +kernel)
  | _, .int i, _ => fun c hc => Classical.byContradiction fun h => shown_int_free' (k := c) ⟨by omega, by omega⟩ i hc
  | _, .str s, h => by
    have h' : (s.all fun c => decide (c < 128)) = true := by cases ‹Nat› <;> exact h
    unfold pd PyData.shown
    exact asc_text (asc_str h')
  | n + 1, .tup xs, h => by
    unfold pd PyData.shown tupleText
    refine asc_app (asc_app (asc_lit (by decide +kernel)) (asc_join _ (showns_asc n xs h))) ?_
    split <;> exact asc_lit (by decide +kernel)
  | n + 1, .lst xs, h => by
    unfold pd PyData.shown listText
    exact asc_app (asc_from _ _ _ (asc_lit (by decide +kernel)) (showns_asc n xs h)) (asc_lit (by decide +kernel))
  | 0, .tup _, h => by cases h
  | 0, .lst _, h => by cases h
  | 0, .dic _, h => by cases h
  | n + 1, .dic _, h => by cases h
  | 0, .obj _, h => by cases h
  | n + 1, .obj _, h => by cases h
  | 0, .exc _ _, h => by cases h
  | n + 1, .exc _ _, h => by cases h
  | 0, .fn _, h => by cases h
  | n + 1, .fn _, h => by cases h
  | 0, .scr _, h => by cases h
  | n + 1, .scr _, h => by cases h
theorem showns_asc {k : Nat} : ∀ (n : Nat) (xs : List PV), xs.all (sm k n) = true → ∀ t ∈ PyData.shownAll (pds xs), asc t
  | _, [], _ => fun t ht => by unfold pds PyData.shownAll at ht; cases ht
  | n, x :: xs, h => fun t ht => by
    rw [List.all_cons, Bool.and_eq_true] at h
    unfold pds PyData.shownAll at ht
    rcases List.mem_cons.mp ht with rfl | ht
    · exact shown_asc n x h.1
    · exact showns_asc n xs h.2 t ht
end
mutual
theorem sm_leaves {k : Nat} (hk : 0 < k) : ∀ (n : Nat) (x : PV), sm k n x = true → (pd x).leavesShort (k + 1) = true ∧ (k ≤ 500 → (pd x).showable = true) ∧ data n x = true
  | n, .non, _ => ⟨by unfold pd PyData.leavesShort; rfl, fun _ => by unfold pd PyData.showable; rfl, by cases n <;> rfl⟩
  | n, .bl b, _ => ⟨by unfold pd PyData.leavesShort; rfl, fun _ => by unfold pd PyData.showable; rfl, by cases n <;> rfl⟩
  | n, .int i, h => by
    have h' : i.natAbs < 10 ^ k := by cases n <;> exact of_decide_eq_true h
    refine ⟨?_, fun hk5 => ?_, by cases n <;> rfl⟩
    · unfold pd PyData.leavesShort
      rw [PyData.shown_int]
      have := int_text_length_le10 hk h'
      exact decide_eq_true (by
        show (Str.ofString (toString i)).cps.size ≤ _
        have e : (Str.ofString (toString i)).length = (toString i).length := PySem.ofString_length _
        unfold Str.length at e
        omega)
    · unfold pd PyData.showable
      refine decide_eq_true ?_
      by_cases h0 : i.natAbs = 0
      · rw [h0]; decide
      · rw [Nat.log2_lt h0]
        refine Nat.lt_of_lt_of_le h' (Nat.le_trans (Nat.pow_le_pow_right (by decide) hk5) ?_)
        decide +kernel
  | n, .str s, h => by
    have h' : (s.all fun c => decide (c < 128)) = true := by cases n <;> exact h
    refine ⟨?_, fun _ => by unfold pd PyData.showable; rfl, by cases n <;> rfl⟩
    unfold pd PyData.leavesShort
    rw [List.all_eq_true]
    intro c hc
    have := asc_str h' c hc
    exact decide_eq_true (by omega)
  | n + 1, .tup xs, h => by
    obtain ⟨h1, h2, h3⟩ := sms_leaves hk n xs h
    exact ⟨by unfold pd PyData.leavesShort; exact h1, fun h => by unfold pd PyData.showable; exact h2 h, h3⟩
  | n + 1, .lst xs, h => by
    obtain ⟨h1, h2, h3⟩ := sms_leaves hk n xs h
    exact ⟨by unfold pd PyData.leavesShort; exact h1, fun h => by unfold pd PyData.showable; exact h2 h, h3⟩
  | 0, .tup _, h => by cases h
  | 0, .lst _, h => by cases h
  | 0, .dic _, h => by cases h
  | n + 1, .dic _, h => by cases h
  | 0, .obj _, h => by cases h
  | n + 1, .obj _, h => by cases h
  | 0, .exc _ _, h => by cases h
  | n + 1, .exc _ _, h => by cases h
  | 0, .fn _, h => by cases h
  | n + 1, .fn _, h => by cases h
  | 0, .scr _, h => by cases h
  | n + 1, .scr _, h => by cases h
theorem sms_leaves {k : Nat} (hk : 0 < k) : ∀ (n : Nat) (xs : List PV), xs.all (sm k n) = true → PyData.leavesShortAll (k + 1) (pds xs) = true ∧ (k ≤ 500 → PyData.showableAll (pds xs) = true) ∧ xs.all (data n) = true
  | _, [], _ => ⟨by unfold pds PyData.leavesShortAll; rfl, fun _ => by unfold pds PyData.showableAll; rfl, rfl⟩
  | n, x :: xs, h => by
    rw [List.all_cons, Bool.and_eq_true] at h
    obtain ⟨a1, a2, a3⟩ := sm_leaves hk n x h.1
    obtain ⟨b1, b2, b3⟩ := sms_leaves hk n xs h.2
    refine ⟨?_, fun h5 => ?_, ?_⟩
    · unfold pds PyData.leavesShortAll; rw [a1, b1]; rfl
    · unfold pds PyData.showableAll; rw [a2 h5, b2 h5]; rfl
    · rw [List.all_cons, a3, b3]; rfl
end
def wt (k : Nat) : Nat → PV → Nat
  | _, .int _ => 4 * k + 1
  | _, .str s => s.length
  | n + 1, .tup xs => (xs.map fun x => wt k n x + 1).sum
  | n + 1, .lst xs => (xs.map fun x => wt k n x + 1).sum
  | _, _ => 0
mutual
theorem weight_le {k : Nat} : ∀ (n : Nat) (x : PV), sm k n x = true → (pd x).weight ≤ wt k n x
  | n, .non, _ => by unfold pd PyData.weight; omega
  | n, .bl b, _ => by unfold pd PyData.weight; omega
  | n, .int i, h => by
    have h' : i.natAbs < 10 ^ k := by cases n <;> exact of_decide_eq_true h
    have e : wt k n (.int i) = 4 * k + 1 := by cases n <;> rfl
    rw [e]
    unfold pd PyData.weight
    split
    · omega
    · rename_i hz
      have h0 : i.natAbs ≠ 0 := by simpa using hz
      have : i.natAbs.log2 < 4 * k + 1 := by
        rw [Nat.log2_lt h0]
        refine Nat.lt_of_lt_of_le h' ?_
        calc 10 ^ k ≤ 16 ^ k := Nat.pow_le_pow_left (by decide) k
          _ = 2 ^ (4 * k) := by rw [show (16 : Nat) = 2 ^ 4 from rfl, ← Nat.pow_mul]
          _ ≤ 2 ^ (4 * k + 1) := Nat.pow_le_pow_right (by decide) (by omega)
      omega
  | n, .str s, _ => by
    have e : wt k n (.str s) = s.length := by cases n <;> rfl
    rw [e]
    unfold pd PyData.weight strOf
    simp
  | n + 1, .tup xs, h => by
    unfold pd PyData.weight
    exact weights_le n xs h
  | n + 1, .lst xs, h => by
    unfold pd PyData.weight
    exact weights_le n xs h
  | 0, .tup _, h => by cases h
  | 0, .lst _, h => by cases h
  | 0, .dic _, h => by cases h
  | n + 1, .dic _, h => by cases h
  | 0, .obj _, h => by cases h
  | n + 1, .obj _, h => by cases h
  | 0, .exc _ _, h => by cases h
  | n + 1, .exc _ _, h => by cases h
  | 0, .fn _, h => by cases h
  | n + 1, .fn _, h => by cases h
  | 0, .scr _, h => by cases h
  | n + 1, .scr _, h => by cases h
theorem weights_le {k : Nat} : ∀ (n : Nat) (xs : List PV), xs.all (sm k n) = true → PyData.weightAll (pds xs) ≤ (xs.map fun x => wt k n x + 1).sum
  | _, [], _ => by unfold pds PyData.weightAll; simp
  | n, x :: xs, h => by
    rw [List.all_cons, Bool.and_eq_true] at h
    have a := weight_le n x h.1
    have b := weights_le n xs h.2
    unfold pds PyData.weightAll
    rw [List.map_cons, List.sum_cons]
    omega
end
theorem data_mono : ∀ (n m : Nat) (x : PV), n ≤ m → data n x = true → data m x = true
  | n, m, .non, _, _ => by cases m <;> rfl
  | n, m, .bl _, _, _ => by cases m <;> rfl
  | n, m, .int _, _, _ => by cases m <;> rfl
  | n, m, .str _, _, _ => by cases m <;> rfl
  | n + 1, m + 1, .tup xs, hm, h => by
    have h' : xs.all (data n) = true := h
    show xs.all (data m) = true
    rw [List.all_eq_true] at h' ⊢
    exact fun x hx => data_mono n m x (by omega) (h' x hx)
  | n + 1, m + 1, .lst xs, hm, h => by
    have h' : xs.all (data n) = true := h
    show xs.all (data m) = true
    rw [List.all_eq_true] at h' ⊢
    exact fun x hx => data_mono n m x (by omega) (h' x hx)
  | n + 1, 0, .tup xs, hm, h => by omega
  | n + 1, 0, .lst xs, hm, h => by omega
  | 0, _, .tup _, _, h => by cases h
  | 0, _, .lst _, _, h => by cases h
  | 0, _, .dic _, _, h => by cases h
  | n + 1, _, .dic _, _, h => by cases h
  | 0, _, .obj _, _, h => by cases h
  | n + 1, _, .obj _, _, h => by cases h
  | 0, _, .exc _ _, _, h => by cases h
  | n + 1, _, .exc _ _, _, h => by cases h
  | 0, _, .fn _, _, h => by cases h
  | n + 1, _, .fn _, _, h => by cases h
  | 0, _, .scr _, _, h => by cases h
  | n + 1, _, .scr _, _, h => by cases h
theorem repr_some {k n : Nat} {x : PV} (hk : 7 ≤ k) (hk5 : k ≤ 500) (hn : n ≤ 60) (h : sm k n x = true) (hw : (k + 3) * wt k n x + (k + 1) ≤ 16777216) : reprP [x] = some (.str (reprS x)) := by
  obtain ⟨h1, h2, h3⟩ := sm_leaves (by omega) n x h
  have a := shown_asc n x h
  have b := weight_le n x h
  have c := PyData.shown_le (k + 1) (by omega) (pd x) h1
  have d : (k + 1 + 2) * (pd x).weight ≤ (k + 1 + 2) * wt k n x := Nat.mul_le_mul_left _ b
  have ok : okS (reprS x) = true := okS_mk (by
    rw [sizeLine_val]
    have : (reprS x).length = (pd x).shown.length := by unfold reprS; simp [Str.length]
    have e : (k + 1 + 2) * wt k n x = (k + 3) * wt k n x := by rw [show k + 1 + 2 = k + 3 from rfl]
    omega) a
  show (if data 60 x = true ∧ (pd x).showable = true ∧ okS (reprS x) = true then some (PV.str (reprS x)) else none) = _
  rw [if_pos ⟨data_mono n 60 x hn h3, h2 hk5, ok⟩]
theorem repr_ok {k n : Nat} {x : PV} {Q : PV → Prop} (hk : 7 ≤ k) (hk5 : k ≤ 500) (hn : n ≤ 60) (h : sm k n x = true) (hw : (k + 3) * wt k n x + (k + 1) ≤ 16777216) : OpQ (reprP [x]) Q = Q (.str (reprS x)) := by
  rw [repr_some hk hk5 hn h hw]
  rfl
end Mi
end S_Rp
section S_Ka
set_option Elab.async false
set_option linter.all false
set_option maxRecDepth 100000
set_option maxHeartbeats 4000000
namespace Mi
open PySem PySem.Spec PyProof.Rows L2
theorem wpC_det {r : RC} {v0 : PV} {b0 : Bool} {h0 : List Ob} (h : WpC r (fun v b h => v = v0 ∧ b = b0 ∧ h = h0) (fun _ _ => False)) : r = .ok v0 b0 h0 := by
  have h' := h.run
  cases r with
  | ok v b h => obtain ⟨rfl, rfl, rfl⟩ := h'; rfl
  | ex e h => exact h'.elim
  | no => exact h'.elim
theorem wpC_detx {r : RC} {e0 : PV} {h0 : List Ob} (h : WpC r (fun _ _ _ => False) (fun e h => e = e0 ∧ h = h0)) : r = .ex e0 h0 := by
  have h' := h.run
  cases r with
  | ok v b h => exact h'.elim
  | ex e h => obtain ⟨rfl, rfl⟩ := h'; rfl
  | no => exact h'.elim
theorem wpC_eqv {r : RC} {v0 : PV} {b0 : Bool} {h0 : List Ob} {Q : PV → Bool → List Ob → Prop} {E : PV → List Ob → Prop} (e : r = .ok v0 b0 h0) (q : Q v0 b0 h0) : WpC r Q E := by
  rw [e, wpC_ok]; exact q
theorem wpC_rite {c : Prop} [Decidable c] {a b : RC} {Q : PV → Bool → List Ob → Prop} {E : PV → List Ob → Prop} : WpC (if c then a else b) Q E ↔ (c → WpC a Q E) ∧ (¬ c → WpC b Q E) := by
  by_cases h : c <;> simp [h]
theorem set_back {l : List Slot} {j : Nat} {y : Slot} (hj : j < l.length) : backS l (l.set j y) [j] = l := by
  show ((l.set j y).set j (l.getD j .un)) = l
  rw [List.set_set]
  apply List.ext_getElem?
  intro i
  by_cases h : j = i
  · subst h
    simp [hj]
  · rw [List.getElem?_set_ne h]
section
variable {α : Type}
theorem compF_fm {j : Nat} {t : M Bool} {e : M PV} {l : List Slot} {hp : List Ob} (inj : α → PV) (p : α → Bool) (F : α → PV) (hj : j < l.length) : ∀ (zs : List α) (acc : List PV) (l0 : List Slot), (∃ y, l0 = l.set j y) →
    (∀ x ∈ zs, Wp t (fun b s => b = p x ∧ s = ⟨l.set j (.sh (inj x)), hp⟩) (fun _ _ => False) ⟨l.set j (.sh (inj x)), hp⟩) →
    (∀ x ∈ zs, p x = true → Wp e (fun y s => y = F x ∧ s = ⟨l.set j (.sh (inj x)), hp⟩) (fun _ _ => False) ⟨l.set j (.sh (inj x)), hp⟩) →
    Wp (compF [j] (uName j) t e (zs.map inj)) (fun ys s => acc ++ ys = acc ++ (zs.filter p).map F ∧ ∃ y, s = ⟨l.set j y, hp⟩) (fun _ _ => False) ⟨l0, hp⟩ := by
  intro zs acc l0 h0 ht he
  refine wp_compF (Q := fun ys s => ys = acc ++ (zs.filter p).map F ∧ ∃ y, s = ⟨l.set j y, hp⟩) (fun r a s => ∃ done rest, done ++ rest = zs ∧ r = rest.map inj ∧ a = acc ++ (done.filter p).map F ∧ ∃ y, s = ⟨l.set j y, hp⟩) ⟨[], zs, rfl, rfl, by simp, ?_⟩ ?_ ?_
  · obtain ⟨y, rfl⟩ := h0
    exact ⟨y, rfl⟩
  · rintro x r a s ⟨done, rest, e1, er, rfl, y, rfl⟩
    cases rest with
    | nil => cases er
    | cons z rest =>
      obtain ⟨rfl, rfl⟩ := List.cons.inj er
      have hz : z ∈ zs := by rw [← e1]; simp
      simp only [wipeS, ↓uName_eq, ↓setQ_some, List.set_set]
      refine wp_imp (ht z hz) (fun b s q => ?_) fun _ _ q => q.elim
      obtain ⟨rfl, rfl⟩ := q
      cases hp : p z with
      | false =>
        rw [if_neg Bool.false_ne_true]
        exact ⟨done ++ [z], rest, by simpa using e1, rfl, by simp [hp], _, rfl⟩
      | true =>
        rw [if_pos rfl]
        refine wp_imp (he z hz hp) (fun y s q => ?_) fun _ _ q => q.elim
        obtain ⟨rfl, rfl⟩ := q
        exact ⟨done ++ [z], rest, by simpa using e1, rfl, by simp [hp], _, rfl⟩
  · rintro a s ⟨done, rest, e1, er, rfl, y, rfl⟩
    have : rest = [] := by simpa using er.symm
    subst this
    rw [List.append_nil] at e1
    subst e1
    exact ⟨rfl, y, rfl⟩
theorem wp_fFil {j : Nat} {f : M (List PV)} {t : M Bool} {e : M PV} {Q : PV → Fs → Prop} {E : PV → Fs → Prop} {s : Fs} (inj : α → PV) (p : α → Bool) (F : α → PV) (h : Wp f (fun items s1 => ∃ (zs : List α) (l : List Slot) (hp : List Ob), items = zs.map inj ∧ s1 = ⟨l, hp⟩ ∧ j < l.length ∧ okV l [j] = true ∧ zs.length ≤ 16777216 ∧
    (∀ x ∈ zs, Wp t (fun b s => b = p x ∧ s = ⟨l.set j (.sh (inj x)), hp⟩) (fun _ _ => False) ⟨l.set j (.sh (inj x)), hp⟩) ∧
    (∀ x ∈ zs, p x = true → Wp e (fun y s => y = F x ∧ s = ⟨l.set j (.sh (inj x)), hp⟩) (fun _ _ => False) ⟨l.set j (.sh (inj x)), hp⟩) ∧ Q (.lst ((zs.filter p).map F)) ⟨l, hp⟩) E s) : Wp (fComp f [j] (uName j) t e) Q E s := by
  rw [wp_fComp]
  refine wp_imp h (fun items s1 q => ?_) fun _ _ q => q
  obtain ⟨zs, l, hp, rfl, rfl, hj, ho, hl, ht, he, hq⟩ := q
  refine ⟨ho, wp_imp (compF_fm inj p F hj zs [] l ⟨l[j], by simp⟩ ht he) (fun ys s q => ?_) fun _ _ q => q⟩
  obtain ⟨e1, y, rfl⟩ := q
  have e1' : ys = (zs.filter p).map F := by simpa using e1
  subst e1'
  refine ⟨lenOk_of (by rw [List.length_map, sizeLine_val]; exact Nat.le_trans (List.length_filter_le ..) hl), ?_⟩
  dsimp only
  rw [set_back hj]
  exact hq
theorem wp_fMapG {j : Nat} {f : M (List PV)} {e : M PV} {Q : PV → Fs → Prop} {E : PV → Fs → Prop} {s : Fs} (inj : α → PV) (F : α → PV) (h : Wp f (fun items s1 => ∃ (zs : List α) (l : List Slot) (hp : List Ob), items = zs.map inj ∧ s1 = ⟨l, hp⟩ ∧ j < l.length ∧ okV l [j] = true ∧ zs.length ≤ 16777216 ∧
    (∀ x ∈ zs, Wp e (fun y s => y = F x ∧ s = ⟨l.set j (.sh (inj x)), hp⟩) (fun _ _ => False) ⟨l.set j (.sh (inj x)), hp⟩) ∧ Q (.lst (zs.map F)) ⟨l, hp⟩) E s) : Wp (fComp f [j] (uName j) tYesM e) Q E s := by
  refine wp_fFil inj (fun _ => true) F (wp_imp h (fun items s1 q => ?_) fun _ _ q => q)
  obtain ⟨zs, l, hp, rfl, rfl, hj, ho, hl, he, hq⟩ := q
  have e : zs.filter (fun _ => true) = zs := by simp
  refine ⟨zs, l, hp, rfl, rfl, hj, ho, hl, fun x hx => ?_, fun x hx _ => he x hx, by rw [e]; exact hq⟩
  rw [wp_tYesM]
  exact ⟨rfl, rfl⟩
theorem wp_loopG {g : PV → Fs → Option Fs} {b : M Fl} {Q2 : Fl → Fs → Prop} {E : PV → Fs → Prop} {s : Fs} (inj : α → PV) (I : List α → Fs → Prop) {zs : List α} {items : List PV} (hi : items = zs.map inj) (h0 : I [] s)
    (hs : ∀ done x rest s, zs = done ++ x :: rest → I done s → SetQ (g (inj x) s) fun s1 => Wp b (fun fl s2 => match fl with
      | .nx => I (done ++ [x]) s2
      | .ct => I (done ++ [x]) s2
      | .bk => Q2 .nx s2
      | .rt v k => Q2 (.rt v k) s2) E s1) (he : ∀ s, I zs s → Q2 .nx s) : Wp (loopF g b items) Q2 E s := by
  subst hi
  refine wp_loop (fun r s => ∃ done rest, done ++ rest = zs ∧ r = rest.map inj ∧ I done s) ⟨[], zs, rfl, rfl, h0⟩ ?_ ?_
  · rintro x r s ⟨done, rest, e, er, hI⟩
    cases rest with
    | nil => cases er
    | cons z rest =>
      obtain ⟨rfl, rfl⟩ := List.cons.inj er
      have h := hs done z rest s e.symm hI
      cases eg : g (inj z) s with
      | none => rw [eg] at h; exact h
      | some s1 =>
        rw [eg] at h
        refine wp_imp h (fun fl s2 q => ?_) fun _ _ q => q
        cases fl with
        | nx => exact ⟨done ++ [z], rest, by simpa using e, rfl, q⟩
        | ct => exact ⟨done ++ [z], rest, by simpa using e, rfl, q⟩
        | bk => exact q
        | rt v k => exact q
  · rintro s ⟨done, rest, e, er, hI⟩
    have : rest = [] := by simpa using er.symm
    subst this
    rw [List.append_nil] at e
    subst e
    exact he s hI
theorem wp_compG {f : M (List PV)} {vs : List Nat} {g : PV → Fs → Option Fs} {e : M PV} {Q : PV → Fs → Prop} {E : PV → Fs → Prop} {s : Fs} (inj : α → PV) (h : Wp f (fun items s1 => okV s1.sl vs = true ∧ ∃ (zs : List α) (I : List α → List PV → Fs → Prop), items = zs.map inj ∧ I [] [] s1 ∧
    (∀ done x rest acc s, zs = done ++ x :: rest → I done acc s → SetQ (g (inj x) { s with sl := wipeS s.sl vs }) fun s2 => Wp e (fun y s3 => I (done ++ [x]) (acc ++ [y]) s3) (fun _ _ => False) s2) ∧
    (∀ acc s', I zs acc s' → lenOk acc = true ∧ Q (.lst acc) { s' with sl := backS s1.sl s'.sl vs })) E s) : Wp (fComp f vs g tYesM e) Q E s := by
  refine wp_comp (wp_imp h (fun items s1 q => ?_) fun _ _ q => q)
  obtain ⟨ho, zs, I, rfl, h0, hs, he⟩ := q
  refine ⟨ho, fun r acc s => ∃ done rest, done ++ rest = zs ∧ r = rest.map inj ∧ I done acc s, ⟨[], zs, rfl, rfl, h0⟩, ?_, ?_⟩
  · rintro x r acc s ⟨done, rest, e1, er, hI⟩
    cases rest with
    | nil => cases er
    | cons z rest =>
      obtain ⟨rfl, rfl⟩ := List.cons.inj er
      have h := hs done z rest acc s e1.symm hI
      cases eg : g (inj z) { s with sl := wipeS s.sl vs } with
      | none => rw [eg] at h; exact h
      | some s2 =>
        rw [eg] at h
        rw [setQ_some, wp_tYesM, if_pos rfl]
        refine wp_imp h (fun y s3 q => ?_) fun _ _ q => q
        exact ⟨done ++ [z], rest, by simpa using e1, rfl, q⟩
  · rintro acc s ⟨done, rest, e1, er, hI⟩
    have : rest = [] := by simpa using er.symm
    subst this
    rw [List.append_nil] at e1
    subst e1
    exact he acc s hI
end
theorem rng_map (n : Int) : rng1 n = (List.range n.toNat).map fun (k : Nat) => PV.int k := rfl
end Mi
end S_Ka
section S_Kb
set_option Elab.async false
set_option linter.all false
set_option maxRecDepth 100000
set_option maxHeartbeats 4000000
namespace Mi
open PySem PySem.Spec PyProof.Rows L2
theorem wp_gTry {f g : M Fl} {i : Nat} {sub : Nat → Option Bool} {Q : Fl → Fs → Prop} {E : PV → Fs → Prop} {s : Fs} : Wp (gTry f i sub g) Q E s ↔ Wp f Q (fun e s1 => match e with
    | .exc k xs => match sub k with
      | some true => Wp g (fun fl s2 => Q fl { s2 with sl := s2.sl.set i .un }) (fun _ _ => False) { s1 with sl := s1.sl.set i (.sh (.exc k xs)) }
      | some false => E (.exc k xs) s1
      | none => False
    | _ => False) s := by
  constructor
  · intro h
    have h' : WpR (gTry f i sub g s) Q E := h.run
    refine ⟨?_⟩
    show WpR (f s) _ _
    unfold gTry at h'
    cases ef : f s with
    | ok fl s1 => rw [ef] at h'; exact h'
    | no => rw [ef] at h'; exact h'
    | ex e s1 =>
      rw [ef] at h'
      cases e with
      | exc k xs =>
        dsimp only at h' ⊢
        show (match sub k with | some true => _ | some false => _ | none => _)
        cases hs : sub k with
        | none => rw [hs] at h'; exact h'
        | some b =>
          rw [hs] at h'
          cases b with
          | false => exact h'
          | true =>
            dsimp only at h' ⊢
            refine ⟨?_⟩
            show WpR (g _) _ _
            cases eg : g { s1 with sl := s1.sl.set i (.sh (.exc k xs)) } with
            | ok fl s2 => rw [eg] at h'; exact h'
            | ex e s2 => rw [eg] at h'; exact h'
            | no => rw [eg] at h'; exact h'
      | _ => exact h'
  · intro h
    have h' : WpR (f s) _ _ := h.run
    refine ⟨?_⟩
    show WpR (gTry f i sub g s) Q E
    unfold gTry
    cases ef : f s with
    | ok fl s1 => rw [ef] at h'; exact h'
    | no => rw [ef] at h'; exact h'
    | ex e s1 =>
      rw [ef] at h'
      cases e with
      | exc k xs =>
        dsimp only at h' ⊢
        have h2 : (match sub k with
          | some true => Wp g (fun fl s2 => Q fl { s2 with sl := s2.sl.set i .un }) (fun _ _ => False) { s1 with sl := s1.sl.set i (.sh (.exc k xs)) }
          | some false => E (.exc k xs) s1
          | none => False) := h'
        cases hs : sub k with
        | none => rw [hs] at h2; exact h2.elim
        | some b =>
          rw [hs] at h2
          cases b with
          | false => exact h2
          | true =>
            dsimp only at h2 ⊢
            have h3 : WpR (g _) _ _ := h2.run
            cases eg : g { s1 with sl := s1.sl.set i (.sh (.exc k xs)) } with
            | ok fl s2 => rw [eg] at h3; exact h3
            | ex e s2 => rw [eg] at h3; exact h3.elim
            | no => rw [eg] at h3; exact h3.elim
      | _ => exact h'
@[simp ↓] theorem wp_fNeg {f : M PV} {Q : PV → Fs → Prop} {E : PV → Fs → Prop} {s : Fs} : Wp (fNeg f) Q E s = Wp f (fun v s1 => match v with
    | .int i => Q (.int (-i)) s1
    | _ => False) E s := by
  unfold fNeg
  rw [wp_bind]
  congr 1
  funext v s1
  cases v with
  | int i => simp only [↓wp_pure]
  | _ => simp only [↓wp_no]
@[simp ↓] theorem wp_fRng2 {f : M (List PV)} {Q : List PV → Fs → Prop} {E : PV → Fs → Prop} {s : Fs} : Wp (fRng2 f) Q E s = Wp f (fun vs s1 => match vs with
    | [.int i, .int j] => inR i = true ∧ inR j = true ∧ Q (rngS i 1 (j - i).toNat) s1
    | _ => False) E s := by
  unfold fRng2
  rw [wp_bind]
  congr 1
  funext vs s1
  match vs with
  | [] => simp only [↓wp_no]
  | [.int i, .int j] =>
    show Wp (if _ then _ else _) Q E s1 = _
    rw [propext wp_ite]
    simp only [↓wp_pure, ↓wp_no]
    apply propext
    constructor
    · rintro ⟨h1, h2⟩
      have h : inR i = true ∧ inR j = true := Classical.byContradiction h2
      exact ⟨h.1, h.2, h1 h⟩
    · rintro ⟨h1, h2, h3⟩
      exact ⟨fun _ => h3, fun h => absurd ⟨h1, h2⟩ h⟩
  | [.non] => simp only [↓wp_no]
  | [.bl _] => simp only [↓wp_no]
  | [.int _] => simp only [↓wp_no]
  | [.str _] => simp only [↓wp_no]
  | [.tup _] => simp only [↓wp_no]
  | [.lst _] => simp only [↓wp_no]
  | [.dic _] => simp only [↓wp_no]
  | [.obj _] => simp only [↓wp_no]
  | [.exc _ _] => simp only [↓wp_no]
  | [.fn _] => simp only [↓wp_no]
  | [.scr _] => simp only [↓wp_no]
  | a :: b :: c :: r => cases a <;> (try simp only [↓wp_no]) <;> cases b <;> simp only [↓wp_no]
  | [.non, _] => simp only [↓wp_no]
  | [.bl _, _] => simp only [↓wp_no]
  | [.str _, _] => simp only [↓wp_no]
  | [.tup _, _] => simp only [↓wp_no]
  | [.lst _, _] => simp only [↓wp_no]
  | [.dic _, _] => simp only [↓wp_no]
  | [.obj _, _] => simp only [↓wp_no]
  | [.exc _ _, _] => simp only [↓wp_no]
  | [.fn _, _] => simp only [↓wp_no]
  | [.scr _, _] => simp only [↓wp_no]
  | [.int _, .non] => simp only [↓wp_no]
  | [.int _, .bl _] => simp only [↓wp_no]
  | [.int _, .str _] => simp only [↓wp_no]
  | [.int _, .tup _] => simp only [↓wp_no]
  | [.int _, .lst _] => simp only [↓wp_no]
  | [.int _, .dic _] => simp only [↓wp_no]
  | [.int _, .obj _] => simp only [↓wp_no]
  | [.int _, .exc _ _] => simp only [↓wp_no]
  | [.int _, .fn _] => simp only [↓wp_no]
  | [.int _, .scr _] => simp only [↓wp_no]
section
variable {α : Type} {xs : List α} {i j : Int}
theorem cut_to (h : 0 ≤ j) : cut xs none (some j) = xs.take j.toNat := by
  unfold cut HT.sIx
  simp [show ¬ j < 0 by omega]
  try (rw [List.take_eq_take_iff]; omega)
theorem cut_from (h : 0 ≤ i) : cut xs (some i) none = xs.drop i.toNat := by
  unfold cut HT.sIx
  simp only [show ¬ i < 0 by omega, if_false]
  by_cases hl : i.toNat ≤ xs.length
  · rw [show min i.toNat xs.length = i.toNat by omega]
    exact List.take_of_length_le (by simp)
  · rw [List.drop_of_length_le (by omega), List.drop_of_length_le (by omega)]
    simp
theorem cut_last : cut xs none (some (-1)) = xs.take (xs.length - 1) := by
  unfold cut HT.sIx
  simp only [show ((-1 : Int) < 0) by omega, if_true, List.drop_zero, Nat.sub_zero]
  rw [show ((-1 : Int) + (xs.length : Int)).toNat = xs.length - 1 by omega]
theorem cut_mid (h : 0 ≤ i) (h2 : 0 ≤ j) : cut xs (some i) (some j) = (xs.drop i.toNat).take (j.toNat - i.toNat) := by
  unfold cut HT.sIx
  simp only [show ¬ i < 0 by omega, show ¬ j < 0 by omega, if_false]
  by_cases hl : i.toNat ≤ xs.length
  · rw [show min i.toNat xs.length = i.toNat by omega, List.take_eq_take_iff, List.length_drop]
    omega
  · rw [List.drop_of_length_le (by omega), List.drop_of_length_le (by omega)]
    simp
theorem cut_all : cut xs none none = xs := by
  unfold cut HT.sIx
  simp
end
section
variable {xs : List PV} {k : Int} {Q : PV → Prop}
theorem cutT_to (h : 0 ≤ k) (hl : k.toNat < xs.length) : OpQ (cutP (.tup xs) none (some k)) Q = Q (.tup (xs.take k.toNat)) := by
  rw [propext cutP_tup, cut_to h]
  refine propext ⟨fun z => z.2, fun z => ⟨fun w => ?_, z⟩⟩
  have := w.2
  unfold HT.sIx at this
  simp only [show ¬ k < 0 by omega, if_false] at this
  omega
theorem cutT_from (h : 0 < k) (hl : xs ≠ []) : OpQ (cutP (.tup xs) (some k) none) Q = Q (.tup (xs.drop k.toNat)) := by
  rw [propext cutP_tup, cut_from (by omega)]
  refine propext ⟨fun z => z.2, fun z => ⟨fun w => ?_, z⟩⟩
  have hp := List.length_pos_iff.mpr hl
  have := w.1
  unfold HT.sIx at this
  simp only [show ¬ k < 0 by omega, if_false] at this
  omega
theorem cutT_last (hl : xs ≠ []) : OpQ (cutP (.tup xs) none (some (-1))) Q = Q (.tup (xs.take (xs.length - 1))) := by
  rw [propext cutP_tup, cut_last]
  refine propext ⟨fun z => z.2, fun z => ⟨fun w => ?_, z⟩⟩
  have hp := List.length_pos_iff.mpr hl
  have := w.2
  unfold HT.sIx at this
  simp only [show ((-1 : Int) < 0) by omega, if_true] at this
  omega
end
section
variable {α : Type} {Q : PV → Prop}
theorem bools_mapB (f : α → Bool) : ∀ xs : List α, bools (xs.map fun x => PV.bl (f x)) = some (xs.map f)
  | [] => rfl
  | x :: xs => by
    show (bools (xs.map fun x => PV.bl (f x))).map _ = _
    rw [bools_mapB f xs]
    rfl
@[simp ↓] theorem allP_map {zs : List α} {f : α → Bool} : OpQ (allP [.lst (zs.map fun x => PV.bl (f x))]) Q = Q (.bl (zs.all f)) := by
  show OpQ ((bools _).map _) Q = _
  rw [bools_mapB]
  simp [List.all_map, OpQ]
@[simp ↓] theorem anyP_map {zs : List α} {f : α → Bool} : OpQ (anyP [.lst (zs.map fun x => PV.bl (f x))]) Q = Q (.bl (zs.any f)) := by
  show OpQ ((bools _).map _) Q = _
  rw [bools_mapB]
  simp [List.any_map, OpQ]
theorem strL_map (f : α → S) : ∀ xs : List α, strL (xs.map fun x => PV.str (f x)) = some (xs.map f)
  | [] => rfl
  | x :: xs => by
    show (strL (xs.map fun x => PV.str (f x))).map _ = _
    rw [strL_map f xs]
    rfl
theorem joinS_flat : ∀ ss : List S, joinS [] ss = ss.flatten
  | [] => rfl
  | [p] => by simp [joinS]
  | p :: q :: r => by
    show p ++ ([] ++ joinS [] (q :: r)) = _
    rw [joinS_flat (q :: r)]
    simp
theorem joinP_map {zs : List α} {f : α → S} (h : (zs.map f).flatten.length ≤ 16777216) : OpQ (joinP (.str []) [.lst (zs.map fun x => PV.str (f x))]) Q = Q (.str (zs.map f).flatten) := by
  have e : joinP (.str []) [.lst (zs.map fun x => PV.str (f x))] = some (.str (zs.map f).flatten) := by
    show (match strL (zs.map fun x => PV.str (f x)) with
      | some ss => if (ss.map List.length).sum + ss.length * 0 ≤ 16777216 then some (PV.str (joinS [] ss)) else none
      | none => none) = _
    rw [strL_map]
    dsimp only
    rw [List.length_flatten] at h
    rw [if_pos (by omega), joinS_flat]
  rw [e]
  rfl
theorem flat_one {f : α → Nat} (zs : List α) : (zs.map fun x => [f x]).flatten = zs.map f := by
  induction zs with
  | nil => rfl
  | cons c z ih => simp [ih]
theorem joinP_chs {zs : List α} {f : α → Nat} (h : zs.length ≤ 16777216) : OpQ (joinP (.str []) [.lst (zs.map fun x => ch (f x))]) Q = Q (.str (zs.map f)) := by
  have e := joinP_map (zs := zs) (f := fun x => [f x]) (Q := Q) (by rw [flat_one, List.length_map]; exact h)
  rw [flat_one] at e
  exact e
end
end Mi
end S_Kb
section S_Cp
set_option Elab.async false
set_option linter.all false
set_option maxRecDepth 100000
set_option maxHeartbeats 4000000
namespace Mi
open PySem PySem.Spec PyProof.Rows L2
abbrev Cm := S × S
def Clo (J : List (Nat × Nat)) (PE PB : Nat → Prop) : Prop := ∀ p ∈ J, PE p.1 ↔ PB p.2
structure Comp (J : List (Nat × Nat)) (c : Cm) : Prop where
  clo : Clo J (· ∈ c.1) (· ∈ c.2)
  mini : ∀ PE PB : Nat → Prop, Clo J PE PB → ((∃ l ∈ c.1, PE l) ∨ ∃ l ∈ c.2, PB l) → (∀ l ∈ c.1, PE l) ∧ ∀ l ∈ c.2, PB l
  ne : c.1 ≠ [] ∨ c.2 ≠ []
  nd1 : c.1.Nodup
  nd2 : c.2.Nodup
structure Parts (J : List (Nat × Nat)) (L : S) (cs : List Cm) : Prop where
  comp : ∀ c ∈ cs, Comp J c
  nd : cs.Nodup
  u1 : ∀ c ∈ cs, ∀ d ∈ cs, ∀ l, l ∈ c.1 → l ∈ d.1 → c = d
  u2 : ∀ c ∈ cs, ∀ d ∈ cs, ∀ l, l ∈ c.2 → l ∈ d.2 → c = d
  all1 : ∀ l ∈ L, ∃ c ∈ cs, l ∈ c.1
  all2 : ∀ l ∈ L, ∃ c ∈ cs, l ∈ c.2
  in1 : ∀ c ∈ cs, ∀ l ∈ c.1, l ∈ L
  in2 : ∀ c ∈ cs, ∀ l ∈ c.2, l ∈ L
theorem Clo.mono {J K : List (Nat × Nat)} {PE PB : Nat → Prop} (h : Clo J PE PB) (hs : ∀ p ∈ K, p ∈ J) : Clo K PE PB := fun p hp => h p (hs p hp)
theorem Comp.congr {J K : List (Nat × Nat)} {c : Cm} (h : Comp J c) (e : ∀ p, p ∈ J ↔ p ∈ K) : Comp K c :=
  ⟨h.clo.mono fun p hp => (e p).mpr hp, fun PE PB q => h.mini PE PB (q.mono fun p hp => (e p).mp hp), h.ne, h.nd1, h.nd2⟩
theorem Parts.congr {J K : List (Nat × Nat)} {L : S} {cs : List Cm} (h : Parts J L cs) (e : ∀ p, p ∈ J ↔ p ∈ K) : Parts K L cs :=
  ⟨fun c hc => (h.comp c hc).congr e, h.nd, h.u1, h.u2, h.all1, h.all2, h.in1, h.in2⟩
def insN (x : Nat) : S → S
  | [] => [x]
  | y :: ys => if x ≤ y then x :: y :: ys else y :: insN x ys
def isort : S → S
  | [] => []
  | x :: xs => insN x (isort xs)
theorem insN_perm (x : Nat) : ∀ ys, (insN x ys).Perm (x :: ys)
  | [] => .refl _
  | y :: ys => by
    unfold insN
    split
    · exact .refl _
    · exact ((insN_perm x ys).cons y).trans (.swap x y ys)
theorem isort_perm : ∀ xs, (isort xs).Perm xs
  | [] => .refl _
  | x :: xs => (insN_perm x (isort xs)).trans ((isort_perm xs).cons x)
theorem insN_sorted (x : Nat) : ∀ ys : S, ys.Pairwise (· ≤ ·) → (insN x ys).Pairwise (· ≤ ·)
  | [], _ => List.pairwise_singleton _ _
  | y :: ys, h => by
    unfold insN
    obtain ⟨h1, h2⟩ := List.pairwise_cons.mp h
    split
    · rename_i e
      exact List.pairwise_cons.mpr ⟨fun z hz => by
        rcases List.mem_cons.mp hz with rfl | hz
        · exact e
        · exact Nat.le_trans e (h1 z hz), h⟩
    · rename_i e
      refine List.pairwise_cons.mpr ⟨fun z hz => ?_, insN_sorted x ys h2⟩
      rcases List.mem_cons.mp ((insN_perm x ys).mem_iff.mp hz) with rfl | hz
      · omega
      · exact h1 z hz
theorem isort_sorted : ∀ xs, (isort xs).Pairwise (· ≤ ·)
  | [] => List.Pairwise.nil
  | x :: xs => insN_sorted x _ (isort_sorted xs)
theorem isort_eq {xs ys : S} (p : xs.Perm ys) : isort xs = isort ys :=
  List.Perm.eq_of_pairwise (le := (· ≤ ·)) (fun a b _ _ h1 h2 => Nat.le_antisymm h1 h2) (isort_sorted xs) (isort_sorted ys) ((isort_perm xs).trans (p.trans (isort_perm ys).symm))
theorem isort_mem {xs : S} {a : Nat} : a ∈ isort xs ↔ a ∈ xs := (isort_perm xs).mem_iff
theorem isort_of_mem {xs ys : S} (h1 : xs.Nodup) (h2 : ys.Nodup) (h : ∀ a, a ∈ xs ↔ a ∈ ys) : isort xs = isort ys := isort_eq ((List.perm_ext_iff_of_nodup h1 h2).mpr h)
def canon (c : Cm) : Cm := (isort c.1, isort c.2)
theorem same_comp {J : List (Nat × Nat)} {c d : Cm} (hc : Comp J c) (hd : Comp J d) (h : (∃ l, l ∈ c.1 ∧ l ∈ d.1) ∨ ∃ l, l ∈ c.2 ∧ l ∈ d.2) : (∀ l, l ∈ c.1 ↔ l ∈ d.1) ∧ ∀ l, l ∈ c.2 ↔ l ∈ d.2 := by
  have h1 := hc.mini (· ∈ d.1) (· ∈ d.2) hd.clo (h.imp (fun ⟨l, a, b⟩ => ⟨l, a, b⟩) fun ⟨l, a, b⟩ => ⟨l, a, b⟩)
  have h2 := hd.mini (· ∈ c.1) (· ∈ c.2) hc.clo (h.imp (fun ⟨l, a, b⟩ => ⟨l, b, a⟩) fun ⟨l, a, b⟩ => ⟨l, b, a⟩)
  exact ⟨fun l => ⟨h1.1 l, h2.1 l⟩, fun l => ⟨h1.2 l, h2.2 l⟩⟩
theorem canon_same {J : List (Nat × Nat)} {c d : Cm} (hc : Comp J c) (hd : Comp J d) (h : (∃ l, l ∈ c.1 ∧ l ∈ d.1) ∨ ∃ l, l ∈ c.2 ∧ l ∈ d.2) : canon c = canon d := by
  obtain ⟨h1, h2⟩ := same_comp hc hd h
  unfold canon
  rw [isort_of_mem hc.nd1 hd.nd1 h1, isort_of_mem hc.nd2 hd.nd2 h2]
theorem mem_node {J : List (Nat × Nat)} {c : Cm} (hc : Comp J c) : (∃ l, l ∈ c.1) ∨ ∃ l, l ∈ c.2 := by
  rcases hc.ne with h | h
  · exact .inl (List.exists_mem_of_ne_nil _ h)
  · exact .inr (List.exists_mem_of_ne_nil _ h)
theorem canon_nodup {J : List (Nat × Nat)} {L : S} {cs : List Cm} (h : Parts J L cs) : (cs.map canon).Nodup := by
  rw [List.nodup_iff_pairwise_ne, List.pairwise_map]
  refine List.Pairwise.imp_of_mem (fun {a b} ha hb hne e => hne ?_) (List.nodup_iff_pairwise_ne.mp h.nd)
  have e1 : isort a.1 = isort b.1 := congrArg Prod.fst e
  have e2 : isort a.2 = isort b.2 := congrArg Prod.snd e
  rcases mem_node (h.comp a ha) with ⟨l, hl⟩ | ⟨l, hl⟩
  · exact h.u1 a ha b hb l hl (isort_mem.mp (by rw [← e1]; exact isort_mem.mpr hl))
  · exact h.u2 a ha b hb l hl (isort_mem.mp (by rw [← e2]; exact isort_mem.mpr hl))
theorem canon_mem {J : List (Nat × Nat)} {L : S} {cs ds : List Cm} (h : Parts J L cs) (g : Parts J L ds) : ∀ c ∈ cs, canon c ∈ ds.map canon := fun c hc => by
  rcases mem_node (h.comp c hc) with ⟨l, hl⟩ | ⟨l, hl⟩
  · obtain ⟨d, hd, hl2⟩ := g.all1 l (h.in1 c hc l hl)
    rw [canon_same (h.comp c hc) (g.comp d hd) (.inl ⟨l, hl, hl2⟩)]
    exact List.mem_map_of_mem hd
  · obtain ⟨d, hd, hl2⟩ := g.all2 l (h.in2 c hc l hl)
    rw [canon_same (h.comp c hc) (g.comp d hd) (.inr ⟨l, hl, hl2⟩)]
    exact List.mem_map_of_mem hd
theorem parts_perm {J : List (Nat × Nat)} {L : S} {cs ds : List Cm} (h : Parts J L cs) (g : Parts J L ds) : (cs.map canon).Perm (ds.map canon) := by
  refine (List.perm_ext_iff_of_nodup (canon_nodup h) (canon_nodup g)).mpr fun x => ⟨fun hx => ?_, fun hx => ?_⟩
  · obtain ⟨c, hc, rfl⟩ := List.mem_map.mp hx
    exact canon_mem h g c hc
  · obtain ⟨c, hc, rfl⟩ := List.mem_map.mp hx
    exact canon_mem g h c hc
theorem nodup_flat : ∀ (ls : List S), (∀ l ∈ ls, l.Nodup) → ls.Pairwise (fun a b => ∀ x ∈ a, x ∉ b) → ls.flatten.Nodup
  | [], _, _ => List.nodup_nil
  | l :: ls, h1, h2 => by
    obtain ⟨h3, h4⟩ := List.pairwise_cons.mp h2
    rw [List.flatten_cons, List.nodup_append]
    refine ⟨h1 l (List.mem_cons_self ..), nodup_flat ls (fun m hm => h1 m (List.mem_cons_of_mem _ hm)) h4, fun a ha b hb e => ?_⟩
    obtain ⟨m, hm, hb2⟩ := List.mem_flatten.mp hb
    exact h3 m hm a ha (e ▸ hb2)
def touch (p q : Nat) (c : Cm) : Bool := decide (p ∈ c.1) || decide (q ∈ c.2)
def mergeP (cs : List Cm) (p q : Nat) : List Cm := (cs.filter fun c => !touch p q c) ++ [(((cs.filter (touch p q)).map (·.1)).flatten, ((cs.filter (touch p q)).map (·.2)).flatten)]
theorem touch_iff {p q : Nat} {c : Cm} : touch p q c = true ↔ p ∈ c.1 ∨ q ∈ c.2 := by unfold touch; simp
theorem parts_merge {J : List (Nat × Nat)} {L : S} {cs : List Cm} {p q : Nat} (h : Parts J L cs) (hp : p ∈ L) (hq : q ∈ L) : Parts ((p, q) :: J) L (mergeP cs p q) := by
  obtain ⟨M, hM⟩ : ∃ M : Cm, M = (((cs.filter (touch p q)).map (·.1)).flatten, ((cs.filter (touch p q)).map (·.2)).flatten) := ⟨_, rfl⟩
  have m1 : ∀ l, l ∈ M.1 ↔ ∃ c ∈ cs, touch p q c = true ∧ l ∈ c.1 := fun l => by
    rw [hM]
    simp only [List.mem_flatten, List.mem_map, List.mem_filter]
    constructor
    · rintro ⟨_, ⟨c, ⟨h1, h2⟩, rfl⟩, h3⟩; exact ⟨c, h1, h2, h3⟩
    · rintro ⟨c, h1, h2, h3⟩; exact ⟨_, ⟨c, ⟨h1, h2⟩, rfl⟩, h3⟩
  have m2 : ∀ l, l ∈ M.2 ↔ ∃ c ∈ cs, touch p q c = true ∧ l ∈ c.2 := fun l => by
    rw [hM]
    simp only [List.mem_flatten, List.mem_map, List.mem_filter]
    constructor
    · rintro ⟨_, ⟨c, ⟨h1, h2⟩, rfl⟩, h3⟩; exact ⟨c, h1, h2, h3⟩
    · rintro ⟨c, h1, h2, h3⟩; exact ⟨_, ⟨c, ⟨h1, h2⟩, rfl⟩, h3⟩
  have hcs : ∀ c, c ∈ mergeP cs p q ↔ (c ∈ cs ∧ touch p q c = false) ∨ c = M := fun c => by
    unfold mergeP
    rw [← hM, List.mem_append, List.mem_filter, List.mem_singleton]
    simp
  obtain ⟨cp, hcp, hcp1⟩ := h.all1 p hp
  obtain ⟨cq, hcq, hcq2⟩ := h.all2 q hq
  have pM : p ∈ M.1 := (m1 p).mpr ⟨cp, hcp, touch_iff.mpr (.inl hcp1), hcp1⟩
  have qM : q ∈ M.2 := (m2 q).mpr ⟨cq, hcq, touch_iff.mpr (.inr hcq2), hcq2⟩
  have nt : ∀ {c : Cm}, touch p q c = false → p ∉ c.1 ∧ q ∉ c.2 := fun {c} hc => by
    have : ¬ touch p q c = true := by rw [hc]; exact Bool.false_ne_true
    rw [touch_iff] at this
    exact ⟨fun z => this (.inl z), fun z => this (.inr z)⟩
  have cM : Comp ((p, q) :: J) M := by
    refine ⟨fun e he => ?_, fun PE PB hc hx => ?_, .inl (List.ne_nil_of_mem pM), ?_, ?_⟩
    · rcases List.mem_cons.mp he with rfl | he
      · exact ⟨fun _ => qM, fun _ => pM⟩
      · show e.1 ∈ M.1 ↔ e.2 ∈ M.2
        rw [m1, m2]
        exact ⟨fun ⟨c, a, b, d⟩ => ⟨c, a, b, ((h.comp c a).clo e he).mp d⟩, fun ⟨c, a, b, d⟩ => ⟨c, a, b, ((h.comp c a).clo e he).mpr d⟩⟩
    · have hJ : Clo J PE PB := hc.mono fun e he => List.mem_cons_of_mem _ he
      have hpq : PE p ↔ PB q := hc (p, q) (List.mem_cons_self ..)
      have one : ∀ c ∈ cs, touch p q c = true → ((∃ l ∈ c.1, PE l) ∨ ∃ l ∈ c.2, PB l) → PE p := fun c hcm ht hx => by
        have := (h.comp c hcm).mini PE PB hJ hx
        rcases touch_iff.mp ht with z | z
        · exact this.1 p z
        · exact hpq.mpr (this.2 q z)
      have hPp : PE p := by
        rcases hx with ⟨l, hl, hP⟩ | ⟨l, hl, hP⟩
        · obtain ⟨c, a, b, d⟩ := (m1 l).mp hl
          exact one c a b (.inl ⟨l, d, hP⟩)
        · obtain ⟨c, a, b, d⟩ := (m2 l).mp hl
          exact one c a b (.inr ⟨l, d, hP⟩)
      have allc : ∀ c ∈ cs, touch p q c = true → (∀ l ∈ c.1, PE l) ∧ ∀ l ∈ c.2, PB l := fun c hcm ht => (h.comp c hcm).mini PE PB hJ (by
        rcases touch_iff.mp ht with z | z
        · exact .inl ⟨p, z, hPp⟩
        · exact .inr ⟨q, z, hpq.mp hPp⟩)
      refine ⟨fun l hl => ?_, fun l hl => ?_⟩
      · obtain ⟨c, a, b, d⟩ := (m1 l).mp hl
        exact (allc c a b).1 l d
      · obtain ⟨c, a, b, d⟩ := (m2 l).mp hl
        exact (allc c a b).2 l d
    · rw [hM]
      show ((cs.filter (touch p q)).map (·.1)).flatten.Nodup
      refine nodup_flat _ (fun l hl => ?_) ?_
      · obtain ⟨c, hc, rfl⟩ := List.mem_map.mp hl
        exact (h.comp c (List.mem_filter.mp hc).1).nd1
      · rw [List.pairwise_map]
        refine List.Pairwise.imp_of_mem (fun {a b} ha hb hne => ?_) (List.nodup_iff_pairwise_ne.mp (h.nd.filter _))
        intro l hl hl2
        exact hne (h.u1 a (List.mem_filter.mp ha).1 b (List.mem_filter.mp hb).1 l hl hl2)
    · rw [hM]
      show ((cs.filter (touch p q)).map (·.2)).flatten.Nodup
      refine nodup_flat _ (fun l hl => ?_) ?_
      · obtain ⟨c, hc, rfl⟩ := List.mem_map.mp hl
        exact (h.comp c (List.mem_filter.mp hc).1).nd2
      · rw [List.pairwise_map]
        refine List.Pairwise.imp_of_mem (fun {a b} ha hb hne => ?_) (List.nodup_iff_pairwise_ne.mp (h.nd.filter _))
        intro l hl hl2
        exact hne (h.u2 a (List.mem_filter.mp ha).1 b (List.mem_filter.mp hb).1 l hl hl2)
  refine ⟨fun c hc => ?_, ?_, fun c hc d hd l h1 h2 => ?_, fun c hc d hd l h1 h2 => ?_, fun l hl => ?_, fun l hl => ?_, fun c hc l hl => ?_, fun c hc l hl => ?_⟩
  · rcases (hcs c).mp hc with ⟨h1, h2⟩ | rfl
    · have := h.comp c h1
      obtain ⟨n1, n2⟩ := nt h2
      refine ⟨fun e he => ?_, fun PE PB hcl hx => this.mini PE PB (hcl.mono fun e he => List.mem_cons_of_mem _ he) hx, this.ne, this.nd1, this.nd2⟩
      rcases List.mem_cons.mp he with rfl | he
      · exact ⟨fun z => absurd z n1, fun z => absurd z n2⟩
      · exact this.clo e he
    · exact cM
  · unfold mergeP
    rw [← hM, List.nodup_append]
    refine ⟨h.nd.filter _, List.nodup_cons.mpr ⟨List.not_mem_nil, List.nodup_nil⟩, fun a ha b hb e => ?_⟩
    rw [List.mem_singleton.mp hb] at e
    rw [e] at ha
    have ht := (List.mem_filter.mp ha).2
    have ht2 : touch p q M = true := touch_iff.mpr (.inl pM)
    rw [ht2] at ht
    cases ht
  · rcases (hcs c).mp hc with ⟨c1, c2⟩ | rfl <;> rcases (hcs d).mp hd with ⟨d1, d2⟩ | rfl
    · exact h.u1 c c1 d d1 l h1 h2
    · obtain ⟨e, e1, e2, e3⟩ := (m1 l).mp h2
      rw [h.u1 c c1 e e1 l h1 e3, e2] at c2
      cases c2
    · obtain ⟨e, e1, e2, e3⟩ := (m1 l).mp h1
      rw [h.u1 d d1 e e1 l h2 e3, e2] at d2
      cases d2
    · rfl
  · rcases (hcs c).mp hc with ⟨c1, c2⟩ | rfl <;> rcases (hcs d).mp hd with ⟨d1, d2⟩ | rfl
    · exact h.u2 c c1 d d1 l h1 h2
    · obtain ⟨e, e1, e2, e3⟩ := (m2 l).mp h2
      rw [h.u2 c c1 e e1 l h1 e3, e2] at c2
      cases c2
    · obtain ⟨e, e1, e2, e3⟩ := (m2 l).mp h1
      rw [h.u2 d d1 e e1 l h2 e3, e2] at d2
      cases d2
    · rfl
  · obtain ⟨c, c1, c2⟩ := h.all1 l hl
    cases ht : touch p q c with
    | true => exact ⟨M, (hcs M).mpr (.inr rfl), (m1 l).mpr ⟨c, c1, ht, c2⟩⟩
    | false => exact ⟨c, (hcs c).mpr (.inl ⟨c1, ht⟩), c2⟩
  · obtain ⟨c, c1, c2⟩ := h.all2 l hl
    cases ht : touch p q c with
    | true => exact ⟨M, (hcs M).mpr (.inr rfl), (m2 l).mpr ⟨c, c1, ht, c2⟩⟩
    | false => exact ⟨c, (hcs c).mpr (.inl ⟨c1, ht⟩), c2⟩
  · rcases (hcs c).mp hc with ⟨c1, c2⟩ | rfl
    · exact h.in1 c c1 l hl
    · obtain ⟨e, e1, _, e3⟩ := (m1 l).mp hl
      exact h.in1 e e1 l e3
  · rcases (hcs c).mp hc with ⟨c1, c2⟩ | rfl
    · exact h.in2 c c1 l hl
    · obtain ⟨e, e1, _, e3⟩ := (m2 l).mp hl
      exact h.in2 e e1 l e3
def singles (L : S) : List Cm := L.map (fun l => (([l], []) : Cm)) ++ L.map fun l => (([], [l]) : Cm)
theorem parts_singles {L : S} (h : L.Nodup) : Parts [] L (singles L) := by
  have hm : ∀ c, c ∈ singles L ↔ (∃ l ∈ L, c = ([l], [])) ∨ ∃ l ∈ L, c = ([], [l]) := fun c => by
    unfold singles
    rw [List.mem_append, List.mem_map, List.mem_map]
    constructor
    · rintro (⟨l, a, rfl⟩ | ⟨l, a, rfl⟩)
      · exact .inl ⟨l, a, rfl⟩
      · exact .inr ⟨l, a, rfl⟩
    · rintro (⟨l, a, rfl⟩ | ⟨l, a, rfl⟩)
      · exact .inl ⟨l, a, rfl⟩
      · exact .inr ⟨l, a, rfl⟩
  refine ⟨fun c hc => ?_, ?_, fun c hc d hd l h1 h2 => ?_, fun c hc d hd l h1 h2 => ?_, fun l hl => ⟨_, (hm _).mpr (.inl ⟨l, hl, rfl⟩), List.mem_singleton.mpr rfl⟩, fun l hl => ⟨_, (hm _).mpr (.inr ⟨l, hl, rfl⟩), List.mem_singleton.mpr rfl⟩, fun c hc l hl => ?_, fun c hc l hl => ?_⟩
  · rcases (hm c).mp hc with ⟨l, _, rfl⟩ | ⟨l, _, rfl⟩
    · refine ⟨fun p hp => (nomatch hp), fun PE PB _ hx => ?_, .inl (by simp), by simp, by simp⟩
      rcases hx with ⟨m, h1, h2⟩ | ⟨m, h1, h2⟩
      · exact ⟨fun k hk => by rw [List.mem_singleton.mp hk, ← List.mem_singleton.mp h1]; exact h2, fun k hk => (nomatch hk)⟩
      · cases h1
    · refine ⟨fun p hp => (nomatch hp), fun PE PB _ hx => ?_, .inr (by simp), by simp, by simp⟩
      rcases hx with ⟨m, h1, h2⟩ | ⟨m, h1, h2⟩
      · cases h1
      · exact ⟨fun k hk => (nomatch hk), fun k hk => by rw [List.mem_singleton.mp hk, ← List.mem_singleton.mp h1]; exact h2⟩
  · unfold singles
    rw [List.nodup_append]
    refine ⟨?_, ?_, ?_⟩
    · rw [List.nodup_iff_pairwise_ne, List.pairwise_map]
      exact (List.nodup_iff_pairwise_ne.mp h).imp fun {a b} hne e => hne (by simpa using e)
    · rw [List.nodup_iff_pairwise_ne, List.pairwise_map]
      exact (List.nodup_iff_pairwise_ne.mp h).imp fun {a b} hne e => hne (by simpa using e)
    · intro a ha b hb e
      obtain ⟨l, _, rfl⟩ := List.mem_map.mp ha
      obtain ⟨m, _, rfl⟩ := List.mem_map.mp hb
      cases e
  · rcases (hm c).mp hc with ⟨a, _, rfl⟩ | ⟨a, _, rfl⟩
    · rcases (hm d).mp hd with ⟨b, _, rfl⟩ | ⟨b, _, rfl⟩
      · rw [← List.mem_singleton.mp h1, ← List.mem_singleton.mp h2]
      · cases h2
    · cases h1
  · rcases (hm c).mp hc with ⟨a, _, rfl⟩ | ⟨a, _, rfl⟩
    · cases h1
    · rcases (hm d).mp hd with ⟨b, _, rfl⟩ | ⟨b, _, rfl⟩
      · cases h2
      · rw [← List.mem_singleton.mp h1, ← List.mem_singleton.mp h2]
  · rcases (hm c).mp hc with ⟨a, ha, rfl⟩ | ⟨a, ha, rfl⟩
    · rw [List.mem_singleton.mp hl]; exact ha
    · cases hl
  · rcases (hm c).mp hc with ⟨a, ha, rfl⟩ | ⟨a, ha, rfl⟩
    · cases hl
    · rw [List.mem_singleton.mp hl]; exact ha
theorem parts_fold {L : S} : ∀ (Js : List (Nat × Nat)) {J : List (Nat × Nat)} {cs : List Cm}, Parts J L cs → (∀ p ∈ Js, p.1 ∈ L ∧ p.2 ∈ L) → Parts (Js.reverse ++ J) L (Js.foldl (fun cs p => mergeP cs p.1 p.2) cs)
  | [], _, _, h, _ => h
  | p :: Js, J, cs, h, hL => by
    have h1 := parts_merge h (hL p (List.mem_cons_self ..)).1 (hL p (List.mem_cons_self ..)).2
    have h2 := parts_fold Js h1 fun e he => hL e (List.mem_cons_of_mem _ he)
    rw [List.foldl_cons, List.reverse_cons, List.append_assoc]
    exact h2
end Mi
end S_Cp
section S_Cp2
set_option Elab.async false
set_option linter.all false
set_option maxRecDepth 100000
set_option maxHeartbeats 4000000
namespace Mi
open PySem PySem.Spec PyProof.Rows L2
theorem ltB_ch (a b : Nat) : ltB (ch a) (ch b) = decide (a < b) := by
  show PySem.W.dataLt (.str (strOf [a])) (.str (strOf [b])) = _
  rw [PySem.W.dataLt_str]
  have e : ∀ x : Nat, (strOf [x]).cps.toList = [x] := fun x => rfl
  rw [e, e]
  have key : ([a] < [b]) ↔ a < b := by
    rw [List.cons_lt_cons_iff]
    constructor
    · rintro (h | ⟨_, h⟩)
      · exact h
      · exact absurd h (List.not_lt_nil _)
    · exact .inl
  by_cases h : a < b
  · rw [decide_eq_true h, decide_eq_true (key.mpr h)]
  · rw [decide_eq_false h, decide_eq_false fun z => h (key.mp z)]
theorem leB_ch (a b : Nat) : leB (ch a) (ch b) = decide (a ≤ b) := by
  unfold leB
  rw [ltB_ch]
  by_cases h : b < a
  · rw [decide_eq_true h, decide_eq_false (by omega)]; rfl
  · rw [decide_eq_false h, decide_eq_true (by omega)]; rfl
theorem ins_chs (a : Nat) : ∀ z : S, ins (ch a) (z.map ch) = (insN a z).map ch
  | [] => rfl
  | c :: z => by
    show (if leB (ch a) (ch c) = true then ch a :: ch c :: z.map ch else ch c :: ins (ch a) (z.map ch)) = (if a ≤ c then a :: c :: z else c :: insN a z).map ch
    rw [leB_ch]
    by_cases h : a ≤ c
    · rw [decide_eq_true h, if_pos rfl, if_pos h]; rfl
    · rw [decide_eq_false h, if_neg Bool.false_ne_true, if_neg h, ins_chs a z]; rfl
theorem srt_chs : ∀ z : S, srt (z.map ch) = (isort z).map ch
  | [] => rfl
  | c :: z => by
    show ins (ch c) (srt (z.map ch)) = (insN c (isort z)).map ch
    rw [srt_chs z, ins_chs]
def cmV (c : Cm) : PV := .tup [.str c.1, .str c.2]
theorem toks_cm (c : Cm) : PySem.W.keyToks (pd (cmV c)) = [.inl 1, .inr c.1, .inl 1, .inr c.2, .inl 0] := by
  show PySem.W.keyToks (.tuple [.str (strOf c.1), .str (strOf c.2)]) = _
  simp [PySem.W.keyToks, PySem.W.keyToksAll, strOf]
theorem cm_anti {c d : Cm} (h1 : leB (cmV c) (cmV d) = true) (h2 : leB (cmV d) (cmV c) = true) : cmV c = cmV d := by
  unfold leB ltB PySem.W.dataLt at h1 h2
  have a1 : PyProof.Rows.lexLt PyProof.Rows.itemOrd (PySem.W.keyToks (pd (cmV d))) (PySem.W.keyToks (pd (cmV c))) = false := by simpa using h1
  have a2 : PyProof.Rows.lexLt PyProof.Rows.itemOrd (PySem.W.keyToks (pd (cmV c))) (PySem.W.keyToks (pd (cmV d))) = false := by simpa using h2
  have e : PySem.W.keyToks (pd (cmV c)) = PySem.W.keyToks (pd (cmV d)) := (PyProof.Rows.listOrd PyProof.Rows.itemOrd).total (PySem.W.keyToks (pd (cmV c))) (PySem.W.keyToks (pd (cmV d))) a2 a1
  rw [toks_cm, toks_cm] at e
  obtain ⟨c1, c2⟩ := c
  obtain ⟨d1, d2⟩ := d
  simp only [List.cons.injEq, Sum.inr.injEq, and_true, true_and] at e
  obtain ⟨e1, e2⟩ := e
  rw [e1, e2]
theorem srt_cms {cs ds : List Cm} (p : cs.Perm ds) : srt (cs.map cmV) = srt (ds.map cmV) := by
  refine List.Perm.eq_of_pairwise (le := fun a b => leB a b = true) ?_ (srt_sorted _) (srt_sorted _) ((srt_perm _).trans ((p.map cmV).trans (srt_perm _).symm))
  intro a b ha hb h1 h2
  obtain ⟨c, _, rfl⟩ := List.mem_map.mp ((srt_perm _).mem_iff.mp ha)
  obtain ⟨d, _, rfl⟩ := List.mem_map.mp ((srt_perm _).mem_iff.mp hb)
  exact cm_anti h1 h2
theorem sok_cms (cs : List Cm) : sokB (cs.map cmV) = true := by
  unfold sokB
  rw [Bool.and_eq_true, Bool.and_eq_true, Bool.or_eq_true]
  refine ⟨?_, ?_, .inl ?_⟩
  · rw [List.all_map, List.all_eq_true]
    intro c _
    rfl
  · rw [List.all_map, List.all_eq_true]
    intro c _
    show ((cs.map cmV).all fun y => PySem.W.alike (pd (cmV c)) (pd y)) = true
    rw [List.all_map, List.all_eq_true]
    intro d _
    show PySem.W.alike (pd (cmV c)) (pd (cmV d)) = true
    show PySem.W.alike (.tuple [.str (strOf c.1), .str (strOf c.2)]) (.tuple [.str (strOf d.1), .str (strOf d.2)]) = true
    simp [PySem.W.alike, PySem.W.alikeAll]
  · rw [List.all_map, List.all_eq_true]
    intro c _
    rfl
def addD (D : List S) (x : S) : List S := if x ∈ D then D else D ++ [x]
theorem addU_str (D : List S) (x : S) : addU (D.map PV.str) (.str x) = (addD D x).map PV.str := by
  have e : (D.map PV.str).any (fun y => keq y (.str x)) = decide (x ∈ D) := by
    rw [List.any_map]
    induction D with
    | nil => rfl
    | cons d D ih =>
      rw [List.any_cons, ih]
      show (decide (d = x) || decide (x ∈ D)) = _
      by_cases h : d = x
      · simp [h]
      · have h' : ¬ x = d := fun e => h e.symm
        simp [h, h']
  unfold addU addD
  rw [e]
  by_cases h : x ∈ D
  · simp [h]
  · simp [h]
theorem uniq_strs_aux : ∀ (zs D : List S), (zs.map PV.str).foldl addU (D.map PV.str) = (zs.foldl addD D).map PV.str
  | [], _ => rfl
  | z :: zs, D => by
    rw [List.map_cons, List.foldl_cons, List.foldl_cons, addU_str]
    exact uniq_strs_aux zs _
theorem addD_mem (zs : List S) : ∀ (D : List S) (x : S), x ∈ zs.foldl addD D ↔ x ∈ D ∨ x ∈ zs := by
  induction zs with
  | nil => intro D x; simp
  | cons z zs ih =>
    intro D x
    rw [List.foldl_cons, ih]
    unfold addD
    by_cases h : z ∈ D
    · rw [if_pos h, List.mem_cons]
      constructor
      · rintro (a | a)
        · exact .inl a
        · exact .inr (.inr a)
      · rintro (a | rfl | a)
        · exact .inl a
        · exact .inl h
        · exact .inr a
    · rw [if_neg h, List.mem_append, List.mem_singleton, List.mem_cons]
      constructor
      · rintro ((a | a) | a)
        · exact .inl a
        · exact .inr (.inl a)
        · exact .inr (.inr a)
      · rintro (a | a | a)
        · exact .inl (.inl a)
        · exact .inl (.inr a)
        · exact .inr a
theorem set_strs (zs : List S) : ∃ ys : List S, srt (uniq (zs.map PV.str)) = ys.map PV.str ∧ (∀ x, x ∈ ys ↔ x ∈ zs) ∧ ys.length ≤ zs.length := by
  have e : uniq (zs.map PV.str) = (zs.foldl addD []).map PV.str := uniq_strs_aux zs []
  have hs : ∀ y ∈ srt (uniq (zs.map PV.str)), ∃ x : S, y = .str x := fun y hy => by
    have := (srt_perm _).mem_iff.mp hy
    rw [e] at this
    obtain ⟨x, _, rfl⟩ := List.mem_map.mp this
    exact ⟨x, rfl⟩
  have hl : ∀ (zs D : List S), (zs.foldl addD D).length ≤ D.length + zs.length := fun zs => by
    induction zs with
    | nil => intro D; simp
    | cons z zs ih =>
      intro D
      rw [List.foldl_cons, List.length_cons]
      have a := ih (addD D z)
      have b : (addD D z).length ≤ D.length + 1 := by
        unfold addD
        split
        · omega
        · simp
      omega
  have un : ∀ xs : List PV, (∀ y ∈ xs, ∃ x : S, y = .str x) → ∃ ys : List S, xs = ys.map PV.str := fun xs => by
    induction xs with
    | nil => intro _; exact ⟨[], rfl⟩
    | cons x xs ih =>
      intro h
      obtain ⟨a, rfl⟩ := h x (List.mem_cons_self ..)
      obtain ⟨ys, rfl⟩ := ih fun y hy => h y (List.mem_cons_of_mem _ hy)
      exact ⟨a :: ys, rfl⟩
  obtain ⟨ys, ey⟩ := un _ hs
  refine ⟨ys, ey, fun x => ?_, ?_⟩
  · have h1 : PV.str x ∈ srt (uniq (zs.map PV.str)) ↔ PV.str x ∈ uniq (zs.map PV.str) := (srt_perm _).mem_iff
    rw [ey, e] at h1
    have h2 : ∀ l : List S, PV.str x ∈ l.map PV.str ↔ x ∈ l := fun l => by
      rw [List.mem_map]
      constructor
      · rintro ⟨a, ha, e⟩; cases e; exact ha
      · exact fun h => ⟨x, h, rfl⟩
    rw [h2, h2, addD_mem] at h1
    simpa using h1
  · have h3 := (srt_perm (uniq (zs.map PV.str))).length_eq
    rw [ey, e, List.length_map, List.length_map] at h3
    have := hl zs []
    simp at this
    omega
theorem addU_ch (D : S) (c : Nat) : addU (D.map ch) (ch c) = (if c ∈ D then D else D ++ [c]).map ch := by
  have e : (D.map ch).any (fun y => keq y (ch c)) = decide (c ∈ D) := by
    rw [List.any_map]
    induction D with
    | nil => rfl
    | cons d D ih =>
      rw [List.any_cons, ih]
      show (keq (ch d) (ch c) || decide (c ∈ D)) = _
      rw [keq_ch]
      by_cases h : d = c
      · simp [h]
      · have h' : ¬ c = d := fun e => h e.symm
        simp [h, h']
  unfold addU
  rw [e]
  by_cases h : c ∈ D
  · simp [h]
  · simp [h]
theorem uniq_aux : ∀ (z D : S), (z.map ch).foldl addU (D.map ch) = (z.foldl (fun acc c => if c ∈ acc then acc else acc ++ [c]) D).map ch
  | [], _ => rfl
  | c :: z, D => by
    rw [List.map_cons, List.foldl_cons, List.foldl_cons, addU_ch]
    exact uniq_aux z _
theorem uniq_chs (z : S) : uniq (z.map ch) = (dedup z).map ch := uniq_aux z []
theorem set_chs {z : S} (h : z.Nodup) : srt (uniq (z.map ch)) = (isort z).map ch := by
  rw [uniq_chs, srt_chs, isort_of_mem (nodup_dedup z) h fun a => mem_dedup]
abbrev Nd := Bool × Nat
def sel (s : Bool) (p : Nat × Nat) : Nat := if s = true then p.2 else p.1
def nbr (J : List (Nat × Nat)) (n : Nd) : List Nd := (J.filter fun p => decide (sel n.1 p = n.2)).map fun p => (!n.1, sel (!n.1) p)
def add1 (part : List Nd) (o : Nd) : List Nd := if o ∈ part then part else part ++ [o]
def endsOf (part : List Nd) : S := (part.filter fun n => !n.1).map (·.2)
def begsOf (part : List Nd) : S := (part.filter fun n => n.1).map (·.2)
theorem mem_ends {part : List Nd} {l : Nat} : l ∈ endsOf part ↔ (false, l) ∈ part := by
  unfold endsOf
  simp only [List.mem_map, List.mem_filter]
  constructor
  · rintro ⟨⟨s, m⟩, ⟨h1, h2⟩, rfl⟩
    cases s with
    | false => exact h1
    | true => cases h2
  · exact fun h => ⟨_, ⟨h, rfl⟩, rfl⟩
theorem mem_begs {part : List Nd} {l : Nat} : l ∈ begsOf part ↔ (true, l) ∈ part := by
  unfold begsOf
  simp only [List.mem_map, List.mem_filter]
  constructor
  · rintro ⟨⟨s, m⟩, ⟨h1, h2⟩, rfl⟩
    cases s with
    | true => exact h1
    | false => cases h2
  · exact fun h => ⟨_, ⟨h, rfl⟩, rfl⟩
theorem nd_ends {part : List Nd} (h : part.Nodup) : (endsOf part).Nodup := by
  unfold endsOf
  rw [List.nodup_iff_pairwise_ne, List.pairwise_map]
  refine List.Pairwise.imp_of_mem (fun {a b} ha hb hne e => hne ?_) (List.nodup_iff_pairwise_ne.mp (h.filter _))
  obtain ⟨a1, a2⟩ := a
  obtain ⟨b1, b2⟩ := b
  have h1 := (List.mem_filter.mp ha).2
  have h2 := (List.mem_filter.mp hb).2
  have e' : a2 = b2 := e
  subst e'
  cases a1 <;> cases b1 <;> first | rfl | (simp at h1; done) | (simp at h2; done)
theorem nd_begs {part : List Nd} (h : part.Nodup) : (begsOf part).Nodup := by
  unfold begsOf
  rw [List.nodup_iff_pairwise_ne, List.pairwise_map]
  refine List.Pairwise.imp_of_mem (fun {a b} ha hb hne e => hne ?_) (List.nodup_iff_pairwise_ne.mp (h.filter _))
  obtain ⟨a1, a2⟩ := a
  obtain ⟨b1, b2⟩ := b
  have h1 := (List.mem_filter.mp ha).2
  have h2 := (List.mem_filter.mp hb).2
  have e' : a2 = b2 := e
  subst e'
  cases a1 <;> cases b1 <;> first | rfl | (simp at h1; done) | (simp at h2; done)
def Pn2 (PE PB : Nat → Prop) (n : Nd) : Prop := if n.1 = true then PB n.2 else PE n.2
structure BI (J : List (Nat × Nat)) (L : S) (first : Nd) (part : List Nd) (i : Nat) : Prop where
  nd : part.Nodup
  fst : first ∈ part
  le : i ≤ part.length
  inL : ∀ n ∈ part, n.2 ∈ L
  reach : ∀ PE PB : Nat → Prop, Clo J PE PB → Pn2 PE PB first → ∀ n ∈ part, Pn2 PE PB n
  done : ∀ (k : Nat) (h : k < part.length), k < i → ∀ o ∈ nbr J part[k], o ∈ part
theorem bi_first {J : List (Nat × Nat)} {L : S} {first : Nd} (h : first.2 ∈ L) : BI J L first [first] 0 :=
  ⟨by simp, by simp, by simp, fun n hn => by rw [List.mem_singleton.mp hn]; exact h, fun PE PB _ hp n hn => by rw [List.mem_singleton.mp hn]; exact hp, fun k _ hk => absurd hk (Nat.not_lt_zero k)⟩
theorem nbr_sel {J : List (Nat × Nat)} {n o : Nd} (h : o ∈ nbr J n) : ∃ p ∈ J, sel n.1 p = n.2 ∧ o = (!n.1, sel (!n.1) p) := by
  unfold nbr at h
  obtain ⟨p, hp, rfl⟩ := List.mem_map.mp h
  obtain ⟨h1, h2⟩ := List.mem_filter.mp hp
  exact ⟨p, h1, of_decide_eq_true h2, rfl⟩
theorem pn_nbr {J : List (Nat × Nat)} {PE PB : Nat → Prop} (hc : Clo J PE PB) {n o : Nd} (ho : o ∈ nbr J n) (hn : Pn2 PE PB n) : Pn2 PE PB o := by
  obtain ⟨p, hp, e, rfl⟩ := nbr_sel ho
  obtain ⟨s, l⟩ := n
  have := hc p hp
  cases s with
  | false =>
    have e' : p.1 = l := e
    have hn' : PE l := hn
    show PB p.2
    rw [← this, e']
    exact hn'
  | true =>
    have e' : p.2 = l := e
    have hn' : PB l := hn
    show PE p.1
    rw [this, e']
    exact hn'
theorem grow_spec {J : List (Nat × Nat)} {L : S} {first : Nd} (hJ : ∀ p ∈ J, p.1 ∈ L ∧ p.2 ∈ L) : ∀ (os : List Nd) (part : List Nd) (n : Nd), n ∈ part → (∀ o ∈ os, o ∈ nbr J n) → part.Nodup → (∀ m ∈ part, m.2 ∈ L) → (∀ PE PB : Nat → Prop, Clo J PE PB → Pn2 PE PB first → ∀ m ∈ part, Pn2 PE PB m) →
    ∃ ext, os.foldl add1 part = part ++ ext ∧ (part ++ ext).Nodup ∧ (∀ m ∈ part ++ ext, m.2 ∈ L) ∧ (∀ PE PB : Nat → Prop, Clo J PE PB → Pn2 PE PB first → ∀ m ∈ part ++ ext, Pn2 PE PB m) ∧ ∀ o ∈ os, o ∈ part ++ ext
  | [], part, n, _, _, h1, h2, h3 => ⟨[], by simp, by simpa using h1, by simpa using h2, by simpa using h3, fun o ho => nomatch ho⟩
  | o :: os, part, n, hn, ho, h1, h2, h3 => by
    rw [List.foldl_cons]
    have hon := ho o (List.mem_cons_self ..)
    by_cases hm : o ∈ part
    · have e : add1 part o = part := if_pos hm
      rw [e]
      obtain ⟨ext, a, b, c, d, f⟩ := grow_spec hJ os part n hn (fun o h => ho o (List.mem_cons_of_mem _ h)) h1 h2 h3
      refine ⟨ext, a, b, c, d, fun x hx => ?_⟩
      rcases List.mem_cons.mp hx with rfl | hx
      · exact List.mem_append_left _ hm
      · exact f x hx
    · have e : add1 part o = part ++ [o] := if_neg hm
      rw [e]
      have hoL : o.2 ∈ L := by
        obtain ⟨p, hp, _, rfl⟩ := nbr_sel hon
        have := hJ p hp
        show sel (!n.1) p ∈ L
        unfold sel
        split
        · exact this.2
        · exact this.1
      obtain ⟨ext, a, b, c, d, f⟩ := grow_spec (first := first) hJ os (part ++ [o]) n (List.mem_append_left _ hn) (fun o h => ho o (List.mem_cons_of_mem _ h))
        (by
          rw [List.nodup_append]
          exact ⟨h1, by simp, fun a ha b hb e => hm (by rw [List.mem_singleton.mp hb] at e; exact e ▸ ha)⟩)
        (fun m hm2 => (List.mem_append.mp hm2).elim (h2 m) fun h => by rw [List.mem_singleton.mp h]; exact hoL)
        (fun PE PB hc hp m hm2 => (List.mem_append.mp hm2).elim (h3 PE PB hc hp m) fun h => by rw [List.mem_singleton.mp h]; exact pn_nbr hc hon (h3 PE PB hc hp n hn))
      refine ⟨o :: ext, by rw [a, List.append_assoc]; rfl, by rw [List.append_assoc] at b; exact b, by rw [List.append_assoc] at c; exact c, by rw [List.append_assoc] at d; exact d, fun x hx => ?_⟩
      rw [List.append_assoc] at f
      rcases List.mem_cons.mp hx with rfl | hx
      · exact List.mem_append_right _ (List.mem_cons_self ..)
      · exact f x hx
theorem bi_step {J : List (Nat × Nat)} {L : S} {first : Nd} {part : List Nd} {i : Nat} (hJ : ∀ p ∈ J, p.1 ∈ L ∧ p.2 ∈ L) (h : BI J L first part i) (hi : i < part.length) : BI J L first ((nbr J part[i]).foldl add1 part) (i + 1) := by
  obtain ⟨ext, e, a, b, c, d⟩ := grow_spec (first := first) hJ (nbr J part[i]) part part[i] (List.getElem_mem hi) (fun o ho => ho) h.nd h.inL h.reach
  rw [e]
  refine ⟨a, List.mem_append_left _ h.fst, by rw [List.length_append]; omega, b, c, fun k hk hki o ho => ?_⟩
  have hk2 : k < part.length := by omega
  rw [List.getElem_append_left hk2] at ho
  by_cases hke : k = i
  · subst hke
    exact d o ho
  · exact List.mem_append_left _ (h.done k hk2 (by omega) o ho)
theorem bi_len {J : List (Nat × Nat)} {L : S} {first : Nd} {part : List Nd} {i : Nat} (h : BI J L first part i) : part.length ≤ 2 * L.length := by
  have hn : (part.map fun n : Nd => 2 * n.2 + (if n.1 = true then 1 else 0)).Nodup := by
    rw [List.nodup_iff_pairwise_ne, List.pairwise_map]
    refine (List.nodup_iff_pairwise_ne.mp h.nd).imp fun {a b} hne e => hne ?_
    obtain ⟨a1, a2⟩ := a
    obtain ⟨b1, b2⟩ := b
    have e' : 2 * a2 + (if a1 = true then 1 else 0) = 2 * b2 + (if b1 = true then 1 else 0) := e
    cases a1 <;> cases b1 <;> simp at e' <;> first | (exfalso; omega) | (rw [show a2 = b2 by omega])
  have := nodup_le (m := (L.map fun l => 2 * l) ++ L.map fun l => 2 * l + 1) hn fun c hc => by
    obtain ⟨⟨s, l⟩, hm, rfl⟩ := List.mem_map.mp hc
    have hl := h.inL _ hm
    cases s with
    | false => exact List.mem_append_left _ (List.mem_map_of_mem (f := fun l => 2 * l) hl)
    | true => exact List.mem_append_right _ (List.mem_map_of_mem (f := fun l => 2 * l + 1) hl)
  rw [List.length_map, List.length_append, List.length_map, List.length_map] at this
  omega
theorem bi_comp {J : List (Nat × Nat)} {L : S} {first : Nd} {part : List Nd} (h : BI J L first part part.length) : Comp J (endsOf part, begsOf part) := by
  have nb : ∀ n ∈ part, ∀ o ∈ nbr J n, o ∈ part := fun n hn o ho => by
    obtain ⟨k, hk, rfl⟩ := List.mem_iff_getElem.mp hn
    exact h.done k hk hk o ho
  have clo : Clo J (· ∈ endsOf part) (· ∈ begsOf part) := fun p hp => by
    show p.1 ∈ endsOf part ↔ p.2 ∈ begsOf part
    rw [mem_ends, mem_begs]
    constructor
    · exact fun hm => nb _ hm (true, p.2) (List.mem_map.mpr ⟨p, List.mem_filter.mpr ⟨hp, decide_eq_true rfl⟩, rfl⟩)
    · exact fun hm => nb _ hm (false, p.1) (List.mem_map.mpr ⟨p, List.mem_filter.mpr ⟨hp, decide_eq_true rfl⟩, rfl⟩)
  refine ⟨clo, fun PE PB hc hx => ?_, ?_, nd_ends h.nd, nd_begs h.nd⟩
  · have hf : Pn2 PE PB first := by
      apply Classical.byContradiction
      intro hn
      have hc2 : Clo J (fun l => ¬ PE l) (fun l => ¬ PB l) := fun p hp => not_congr (hc p hp)
      have hf2 : Pn2 (fun l => ¬ PE l) (fun l => ¬ PB l) first := by
        unfold Pn2 at hn ⊢
        split at hn <;> rename_i hs
        · rw [if_pos hs]; exact hn
        · rw [if_neg hs]; exact hn
      have hall := h.reach _ _ hc2 hf2
      rcases hx with ⟨l, hl, hP⟩ | ⟨l, hl, hP⟩
      · exact hall _ (mem_ends.mp hl) hP
      · exact hall _ (mem_begs.mp hl) hP
    have hall := h.reach PE PB hc hf
    exact ⟨fun l hl => hall _ (mem_ends.mp hl), fun l hl => hall _ (mem_begs.mp hl)⟩
  · obtain ⟨s, l⟩ := first
    cases s with
    | false => exact .inl (List.ne_nil_of_mem (mem_ends.mpr h.fst))
    | true => exact .inr (List.ne_nil_of_mem (mem_begs.mpr h.fst))
structure OI (J : List (Nat × Nat)) (L : S) (fs seen : List Nd) (cs : List Cm) : Prop where
  comp : ∀ c ∈ cs, Comp J c
  nd : cs.Nodup
  u1 : ∀ c ∈ cs, ∀ d ∈ cs, ∀ l, l ∈ c.1 → l ∈ d.1 → c = d
  u2 : ∀ c ∈ cs, ∀ d ∈ cs, ∀ l, l ∈ c.2 → l ∈ d.2 → c = d
  in1 : ∀ c ∈ cs, ∀ l ∈ c.1, l ∈ L
  in2 : ∀ c ∈ cs, ∀ l ∈ c.2, l ∈ L
  s1 : ∀ l, (false, l) ∈ seen ↔ ∃ c ∈ cs, l ∈ c.1
  s2 : ∀ l, (true, l) ∈ seen ↔ ∃ c ∈ cs, l ∈ c.2
  all : ∀ f ∈ fs, f ∈ seen
  len : seen.length ≤ 2 * L.length * cs.length
  few : cs.length ≤ fs.length
theorem oi_nil {J : List (Nat × Nat)} {L : S} : OI J L [] [] [] :=
  ⟨fun c h => (nomatch h), List.nodup_nil, fun c h => (nomatch h), fun c h => (nomatch h), fun c h => (nomatch h), fun c h => (nomatch h), fun l => ⟨fun h => (nomatch h), fun ⟨c, h, _⟩ => (nomatch h)⟩, fun l => ⟨fun h => (nomatch h), fun ⟨c, h, _⟩ => (nomatch h)⟩, fun f h => (nomatch h), Nat.zero_le _, Nat.le_refl _⟩
theorem oi_skip {J : List (Nat × Nat)} {L : S} {fs seen : List Nd} {cs : List Cm} {f : Nd} (h : OI J L fs seen cs) (hf : f ∈ seen) : OI J L (fs ++ [f]) seen cs :=
  ⟨h.comp, h.nd, h.u1, h.u2, h.in1, h.in2, h.s1, h.s2, fun g hg => (List.mem_append.mp hg).elim (h.all g) fun e => by rw [List.mem_singleton.mp e]; exact hf, h.len, by rw [List.length_append]; have := h.few; omega⟩
theorem oi_new {J : List (Nat × Nat)} {L : S} {fs seen : List Nd} {cs : List Cm} {f : Nd} {part : List Nd} (h : OI J L fs seen cs) (hf : f ∉ seen) (b : BI J L f part part.length) : OI J L (fs ++ [f]) (seen ++ part) (cs ++ [(endsOf part, begsOf part)]) := by
  have cp := bi_comp b
  have hfc : ∀ d ∈ cs, ¬ ((∃ l, l ∈ endsOf part ∧ l ∈ d.1) ∨ ∃ l, l ∈ begsOf part ∧ l ∈ d.2) := fun d hd hx => by
    obtain ⟨e1, e2⟩ := same_comp cp (h.comp d hd) hx
    obtain ⟨s, l⟩ := f
    cases s with
    | false => exact hf ((h.s1 l).mpr ⟨d, hd, (e1 l).mp (mem_ends.mpr b.fst)⟩)
    | true => exact hf ((h.s2 l).mpr ⟨d, hd, (e2 l).mp (mem_begs.mpr b.fst)⟩)
  have blen := bi_len b
  refine ⟨fun c hc => ?_, ?_, fun c hc d hd l h1 h2 => ?_, fun c hc d hd l h1 h2 => ?_, fun c hc l hl => ?_, fun c hc l hl => ?_, fun l => ?_, fun l => ?_, fun g hg => ?_, ?_, ?_⟩
  · rcases List.mem_append.mp hc with hc | hc
    · exact h.comp c hc
    · rw [List.mem_singleton.mp hc]; exact cp
  · rw [List.nodup_append]
    refine ⟨h.nd, by simp, fun a ha c hc e => ?_⟩
    rw [List.mem_singleton.mp hc] at e
    subst e
    rcases mem_node cp with ⟨l, hl⟩ | ⟨l, hl⟩
    · exact hfc _ ha (.inl ⟨l, hl, hl⟩)
    · exact hfc _ ha (.inr ⟨l, hl, hl⟩)
  · rcases List.mem_append.mp hc with hc | hc <;> rcases List.mem_append.mp hd with hd | hd
    · exact h.u1 c hc d hd l h1 h2
    · rw [List.mem_singleton.mp hd] at h2
      exact absurd (.inl ⟨l, h2, h1⟩) (hfc c hc)
    · rw [List.mem_singleton.mp hc] at h1
      exact absurd (.inl ⟨l, h1, h2⟩) (hfc d hd)
    · rw [List.mem_singleton.mp hc, List.mem_singleton.mp hd]
  · rcases List.mem_append.mp hc with hc | hc <;> rcases List.mem_append.mp hd with hd | hd
    · exact h.u2 c hc d hd l h1 h2
    · rw [List.mem_singleton.mp hd] at h2
      exact absurd (.inr ⟨l, h2, h1⟩) (hfc c hc)
    · rw [List.mem_singleton.mp hc] at h1
      exact absurd (.inr ⟨l, h1, h2⟩) (hfc d hd)
    · rw [List.mem_singleton.mp hc, List.mem_singleton.mp hd]
  · rcases List.mem_append.mp hc with hc | hc
    · exact h.in1 c hc l hl
    · rw [List.mem_singleton.mp hc] at hl
      exact b.inL _ (mem_ends.mp hl)
  · rcases List.mem_append.mp hc with hc | hc
    · exact h.in2 c hc l hl
    · rw [List.mem_singleton.mp hc] at hl
      exact b.inL _ (mem_begs.mp hl)
  · rw [List.mem_append, h.s1]
    constructor
    · rintro (⟨c, hc, hl⟩ | hl)
      · exact ⟨c, List.mem_append_left _ hc, hl⟩
      · exact ⟨_, List.mem_append_right _ (List.mem_singleton.mpr rfl), mem_ends.mpr hl⟩
    · rintro ⟨c, hc, hl⟩
      rcases List.mem_append.mp hc with hc | hc
      · exact .inl ⟨c, hc, hl⟩
      · rw [List.mem_singleton.mp hc] at hl
        exact .inr (mem_ends.mp hl)
  · rw [List.mem_append, h.s2]
    constructor
    · rintro (⟨c, hc, hl⟩ | hl)
      · exact ⟨c, List.mem_append_left _ hc, hl⟩
      · exact ⟨_, List.mem_append_right _ (List.mem_singleton.mpr rfl), mem_begs.mpr hl⟩
    · rintro ⟨c, hc, hl⟩
      rcases List.mem_append.mp hc with hc | hc
      · exact .inl ⟨c, hc, hl⟩
      · rw [List.mem_singleton.mp hc] at hl
        exact .inr (mem_begs.mp hl)
  · rcases List.mem_append.mp hg with hg | hg
    · exact List.mem_append_left _ (h.all g hg)
    · rw [List.mem_singleton.mp hg]; exact List.mem_append_right _ b.fst
  · have := h.len
    rw [List.length_append, List.length_append, List.length_singleton, Nat.mul_add]
    omega
  · have := h.few
    rw [List.length_append, List.length_append, List.length_singleton, List.length_singleton]
    omega
theorem oi_parts {J : List (Nat × Nat)} {L : S} {seen : List Nd} {cs : List Cm} (h : OI J L (L.map (fun l => (false, l)) ++ L.map fun l => (true, l)) seen cs) : Parts J L cs :=
  ⟨h.comp, h.nd, h.u1, h.u2, fun l hl => (h.s1 l).mp (h.all _ (List.mem_append_left _ (List.mem_map_of_mem hl))), fun l hl => (h.s2 l).mp (h.all _ (List.mem_append_right _ (List.mem_map_of_mem hl))), h.in1, h.in2⟩
end Mi
end S_Cp2
section S_Vp
set_option Elab.async false
set_option linter.all false
set_option maxRecDepth 100000
set_option maxHeartbeats 4000000
namespace Mi
open PySem PySem.Spec PyProof.Rows L2
theorem pat_of {z : S} {m : Int} (hm : m ≤ 7) (a1 : 1 ≤ z.length) (a2 : (z.length : Int) ≤ 20) (a3 : ∀ c ∈ z, c ∈ cCAPS) (a4 : ((dedup z).length : Int) ≤ m) : Pat z := ⟨a1, by omega, a3, by omega⟩
def unS : PV → S
  | .str w => w
  | _ => []
def elems : PV → List PV
  | .tup xs => xs
  | .lst xs => xs
  | _ => []
def patB : PV → Bool
  | .str z => decide (1 ≤ z.length ∧ z.length ≤ 20) && ((z.all fun c => decide (c ∈ cCAPS)) && decide ((dedup z).length ≤ 7))
  | _ => false
theorem e_letters {d : Nat} {z : S} {hp : List Ob} (hd : 1 ≤ d) (hz : z.length ≤ 1000000) : G T d 1 [.str z] hp = .ok (.str (dedup z)) false hp := wpC_det (letters_ok hd hz)
theorem e_isPat {d : Nat} {x : PV} {hp : List Ob} (hd : 2 ≤ d) (h : (tyN x).isSome = true) : G T d 2 [x] hp = .ok (.bl (patB x)) false hp := by
  obtain ⟨d, rfl⟩ : ∃ e, d = e + 1 := ⟨d - 1, by omega⟩
  refine wpC_det (wpC_fn (F := F_is_pattern) rfl rfl ?_)
  show Wp (b_is_pattern (G T d)) _ _ ⟨[.sh x, .un], hp⟩
  unfold b_is_pattern
  cases x with
  | str w =>
    by_cases hl : 1 ≤ w.length ∧ w.length ≤ 20
    · refine wp_seq ⟨[.sh (.str w), .un], hp⟩ ?_ ?_
      · have h1' : (1 : Int) ≤ w.length := by omega
        have h2' : (w.length : Int) ≤ 20 := by omega
        simp [tyN, isN, h1', h2']
      simp only [↓wp_gRet, ↓wp_fAndV, ↓wp_fB, ↓wp_fOCons, ↓wp_fLoc]
      refine wp_fMapG ch (fun c => .bl (decide (c ∈ cCAPS))) ?_
      simp only [↓wp_fSeq, ↓wp_fVar, ↓slQ_zero]
      refine ⟨w, _, _, rfl, rfl, by simp, rfl, by omega, fun c hc => by simp, ?_⟩
      simp only [↓wp_fONil, ↓lsQ_cons, ↓lsQ_nil, ↓opQ_rdval, ↓allP_map]
      cases ha : w.all fun c => decide (c ∈ cCAPS) with
      | false => simp [patB, hl, ha]
      | true =>
        simp only [↓wp_fOp2, ↓wp_fLoc, ↓wp_fB, ↓wp_fOCons, ↓wp_fCall, ↓wp_fCons, ↓wp_fVar, ↓slQ_zero, ↓wp_fNil]
        rw [e_letters (by omega) (by omega)]
        simp [patB, hl, ha]
        omega
    · have : ¬ (1 : Int) ≤ w.length ∨ ¬ (w.length : Int) ≤ 20 := by omega
      rcases this with h1 | h1
      · simp [tyN, isN, h1, patB, hl]
      · by_cases h2 : (1 : Int) ≤ w.length
        · simp [tyN, isN, h1, h2, patB, hl]
        · simp [tyN, isN, h1, h2, patB, hl]
  | _ => first | (simp [tyN] at h; done) | simp [tyN, isN, patB]
theorem e_reqPat {d : Nat} {x : PV} {hp : List Ob} (hd : 3 ≤ d) (h : (tyN x).isSome = true) : G T d 3 [x] hp = if patB x = true then .ok .non false hp else .ex (.exc 1 []) hp := by
  obtain ⟨d, rfl⟩ : ∃ e, d = e + 1 := ⟨d - 1, by omega⟩
  have e := e_isPat (d := d) (hp := hp) (by omega) h
  split
  · rename_i hp
    refine wpC_det (wpC_fn (F := F_require_pattern) rfl rfl ?_)
    simp [F_require_pattern, b_require_pattern, start0, e, hp]
  · rename_i hp
    refine wpC_detx (wpC_fn (F := F_require_pattern) rfl rfl ?_)
    simp [F_require_pattern, b_require_pattern, start0, e, hp]
theorem data_ty {n : Nat} {x : PV} (h : data n x = true) : (tyN x).isSome = true := by
  cases x with
  | dic _ => cases n <;> cases h
  | obj _ => cases n <;> cases h
  | exc _ _ => cases n <;> cases h
  | fn _ => cases n <;> cases h
  | scr _ => cases n <;> cases h
  | _ => rfl
theorem patB_str {x : PV} (h : patB x = true) : ∃ z, x = .str z ∧ Pat z := by
  cases x with
  | str z =>
    unfold patB at h
    rw [Bool.and_eq_true, Bool.and_eq_true, decide_eq_true_eq, decide_eq_true_eq, List.all_eq_true] at h
    obtain ⟨⟨h1, h2⟩, h3, h4⟩ := h
    exact ⟨z, rfl, h1, h2, fun c hc => of_decide_eq_true (h3 c hc), h4⟩
  | _ => cases h

end Mi
end S_Vp
section S_J1
set_option Elab.async false
set_option linter.all false
set_option maxRecDepth 100000
set_option maxHeartbeats 4000000
namespace Mi
open PySem PySem.Spec PyProof.Rows L2
def pairV (p : Nat × Nat) : PV := .str [p.1, p.2]
def adjP (z : S) : List (Nat × Nat) := (List.range (z.length - 1)).map fun k => (z.getD k 0, z.getD (k + 1) 0)
theorem adj_cut {z : S} {k : Nat} (h : k < z.length - 1) : cut z (some (k : Int)) (some ((k : Int) + 2)) = [z.getD k 0, z.getD (k + 1) 0] := by
  have h1 : cut z (some (k : Int)) (some ((k : Int) + 2)) = (z.drop k).take 2 := by
    rw [cut_mid (by omega) (by omega)]
    congr 1
    omega
  have hk : k < z.length := by omega
  have hk1 : k + 1 < z.length := by omega
  rw [h1, List.drop_eq_getElem_cons hk, List.drop_eq_getElem_cons hk1, List.getD_eq_getElem?_getD, List.getD_eq_getElem?_getD, List.getElem?_eq_getElem hk, List.getElem?_eq_getElem hk1]
  rfl
theorem adj_in {z : S} : ∀ p ∈ adjP z, p.1 ∈ dedup z ∧ p.2 ∈ dedup z := fun p hp => by
  unfold adjP at hp
  obtain ⟨k, hk, rfl⟩ := List.mem_map.mp hp
  have := List.mem_range.mp hk
  have g : ∀ i, i < z.length → z.getD i 0 ∈ z := fun i hi => by
    rw [List.getD_eq_getElem?_getD, List.getElem?_eq_getElem hi]
    exact List.getElem_mem hi
  exact ⟨mem_dedup.mpr (g k (by omega)), mem_dedup.mpr (g (k + 1) (by omega))⟩
theorem len1 {z : S} (h : 1 ≤ z.length) : ∃ m : Nat, m = z.length - 1 ∧ (z.length : Int) - 1 = (m : Int) := ⟨_, rfl, by omega⟩
theorem adj_map {z : S} {m : Nat} (hm : m = z.length - 1) : ((List.range m).map fun (k : Nat) => pairV (z.getD k 0, z.getD (k + 1) 0)) = (adjP z).map pairV := by
  unfold adjP
  rw [List.map_map, hm]
  rfl
theorem pairs_of {zs : List S} (h : ∀ x ∈ zs, ∃ a b : Nat, x = [a, b]) : zs.map PV.str = (zs.map fun x => (x.getD 0 0, x.getD 1 0)).map pairV := by
  rw [List.map_map]
  refine List.map_congr_left fun x hx => ?_
  obtain ⟨a, b, rfl⟩ := h x hx
  rfl
theorem e_joins {d : Nat} {z : S} {hp : List Ob} (hd : 1 ≤ d) (h1 : 1 ≤ z.length) (hz : z.length ≤ 1000) : ∃ Js : List (Nat × Nat), (∀ p, p ∈ Js ↔ p ∈ adjP z) ∧ Js.length ≤ z.length ∧ G T d 31 [.str z] hp = .ok (.lst (Js.map pairV)) true hp := by
  obtain ⟨d, rfl⟩ : ∃ e, d = e + 1 := ⟨d - 1, by omega⟩
  obtain ⟨ys, e1, e2, e3⟩ := set_strs ((adjP z).map fun p => [p.1, p.2])
  have hys : ∀ x ∈ ys, ∃ a b : Nat, x = [a, b] := fun x hx => by
    obtain ⟨p, _, rfl⟩ := List.mem_map.mp ((e2 x).mp hx)
    exact ⟨_, _, rfl⟩
  have ev : (adjP z).map pairV = ((adjP z).map fun p => [p.1, p.2]).map PV.str := by rw [List.map_map]; rfl
  rw [List.length_map] at e3
  have la : (adjP z).length = z.length - 1 := by unfold adjP; simp
  refine ⟨ys.map fun x => (x.getD 0 0, x.getD 1 0), fun p => ?_, by rw [List.length_map]; omega, ?_⟩
  · rw [List.mem_map]
    constructor
    · rintro ⟨x, hx, rfl⟩
      obtain ⟨p, hp, rfl⟩ := List.mem_map.mp ((e2 x).mp hx)
      exact hp
    · intro hp
      exact ⟨[p.1, p.2], (e2 _).mpr (List.mem_map_of_mem (f := fun p : Nat × Nat => [p.1, p.2]) hp), rfl⟩
  · rw [← pairs_of hys]
    refine wpC_det (wpC_fn (F := F_find_joins) rfl rfl ?_)
    show Wp (b_find_joins (G T d)) _ _ ⟨[.sh (.str z), .un], hp⟩
    unfold b_find_joins
    simp only [↓wp_gRetF, ↓wp_fB, ↓wp_fOCons, ↓wp_fLoc]
    refine wp_fMapG (fun (k : Nat) => PV.int k) (fun (k : Nat) => pairV (z.getD k 0, z.getD (k + 1) 0)) ?_
    simp only [↓wp_fRng1, ↓wp_fCons, ↓wp_fNil, ↓wp_fOp2, ↓wp_fLoc, ↓wp_fB, ↓wp_fOCons, ↓wp_fONil, ↓wp_fAt, ↓slQ_zero, ↓opQ_rdat, ↓lsQ_cons, ↓lsQ_nil, ↓lenP_str, ↓wp_pure, ↓opQ_rdval, ↓subP_int]
    obtain ⟨m, hm, e4⟩ := len1 h1
    rw [e4]
    have hrl : (rng1 (m : Int)) = (List.range m).map fun (k : Nat) => PV.int k := rng_map m
    refine ⟨inR_small (by omega) (by omega), List.range m, _, _, hrl, rfl, by simp, rfl, by simp; omega, fun k hk => ?_, ?_⟩
    · have hk2 := List.mem_range.mp hk
      have e5 := adj_cut (z := z) (k := k) (by omega)
      simp only [List.set_cons_succ, List.set_cons_zero, ↓wp_fCut, ↓wp_fAt, ↓slQ_zero, ↓slQ_succ, ↓wp_fSome, ↓wp_fVar, ↓opQ_rdat, ↓wp_fOp2, ↓wp_fLoc, ↓wp_pure, ↓opQ_rdval, ↓addP_int, ↓cutP_str, e5]
      exact ⟨rfl, trivial⟩
    · rw [adj_map hm, ev]
      have g : ∀ Q : PV → Prop, OpQ (sortSetP [.lst (((adjP z).map fun p => [p.1, p.2]).map PV.str)]) Q = Q (.lst (ys.map PV.str)) := fun Q => by
        rw [sortSet_ok (xs := ((adjP z).map fun p => [p.1, p.2]).map PV.str) rfl (.inl ?_) (by rw [List.length_map, List.length_map]; omega), e1]
        rw [List.all_map, List.all_eq_true]
        intro x _
        rfl
      simp only [↓wp_fONil, ↓lsQ_cons, ↓lsQ_nil, ↓opQ_rdval, g]
      exact ⟨trivial, trivial, trivial⟩
theorem tup_0 {x y : PV} {st : Fs} {Q : PV → Prop} : OpQ (ixP st (.tup [x, y]) (.int 0)) Q = Q x := rfl
theorem tup_1 {x y : PV} {st : Fs} {Q : PV → Prop} : OpQ (ixP st (.tup [x, y]) (.int 1)) Q = Q y := rfl
theorem str_0 {a b : Nat} {st : Fs} {Q : PV → Prop} : OpQ (ixP st (.str [a, b]) (.int 0)) Q = Q (ch a) := rfl
theorem str_1 {a b : Nat} {st : Fs} {Q : PV → Prop} : OpQ (ixP st (.str [a, b]) (.int 1)) Q = Q (ch b) := rfl
def Few (n k : Nat) (cs : List Cm) : Prop := cs.length ≤ n ∧ ∀ c ∈ cs, c.1.length ≤ k ∧ c.2.length ≤ k
theorem e_merge {d : Nat} {cs : List Cm} {p : Nat × Nat} {hp : List Ob} (hd : 1 ≤ d) (hc : Few 1000 100 cs) : G T d 32 [.lst (cs.map cmV), pairV p] hp = .ok (.lst ((mergeP cs p.1 p.2).map cmV)) false hp := by
  obtain ⟨d, rfl⟩ : ∃ e, d = e + 1 := ⟨d - 1, by omega⟩
  obtain ⟨p, q⟩ := p
  refine wpC_det (wpC_fn (F := F_merge) rfl rfl ?_)
  show Wp (b_merge (G T d)) _ _ ⟨[.sh (.lst (cs.map cmV)), .sh (.str [p, q]), .un, .un, .un, .un], hp⟩
  unfold b_merge
  refine wp_seq ⟨[.sh (.lst (cs.map cmV)), .sh (.str [p, q]), .un, .un, .sh (.str []), .sh (.str [])], hp⟩ (by simp [lenOk_iff, sizeLine_val]) ?_
  refine wp_seq ⟨[.sh (.lst (cs.map cmV)), .sh (.str [p, q]), .ow (.lst []), .un, .sh (.str []), .sh (.str [])], hp⟩ (by simp [lenOk_iff, sizeLine_val]) ?_
  refine wp_seq' (fun s => ∃ y : Slot, s = ⟨[.sh (.lst (cs.map cmV)), .sh (.str [p, q]), .ow (.lst ((cs.filter fun c => !touch p q c).map cmV)), y, .sh (.str ((cs.filter (touch p q)).map (·.1)).flatten), .sh (.str ((cs.filter (touch p q)).map (·.2)).flatten)], hp⟩) ?_ ?_
  · simp only [↓wp_gFor, ↓wp_fSeq, ↓wp_fVar, ↓slQ_zero]
    refine wp_loopG (zs := cs) cmV (fun done s => ∃ y : Slot, s = ⟨[.sh (.lst (cs.map cmV)), .sh (.str [p, q]), .ow (.lst ((done.filter fun c => !touch p q c).map cmV)), y, .sh (.str ((done.filter (touch p q)).map (·.1)).flatten), .sh (.str ((done.filter (touch p q)).map (·.2)).flatten)], hp⟩) rfl ⟨.un, rfl⟩ ?_ (fun s ⟨y, e⟩ => ⟨rfl, y, e⟩)
    rintro done c rest s hcs ⟨y, rfl⟩
    have hdl : done.length ≤ 1000 := by
      have := hc.1
      rw [hcs, List.length_append] at this
      omega
    have hin : ∀ e ∈ done, e ∈ cs := fun e he => by rw [hcs]; exact List.mem_append_left _ he
    have hcm : c ∈ cs := by rw [hcs]; simp
    have b1 := flat_le (k := 100) (ins := (done.filter (touch p q)).map (·.1)) fun x hx => by
      obtain ⟨e, he, rfl⟩ := List.mem_map.mp hx
      exact (hc.2 e (hin e (List.mem_filter.mp he).1)).1
    have b2 := flat_le (k := 100) (ins := (done.filter (touch p q)).map (·.2)) fun x hx => by
      obtain ⟨e, he, rfl⟩ := List.mem_map.mp hx
      exact (hc.2 e (hin e (List.mem_filter.mp he).1)).2
    have fl := List.length_filter_le (touch p q) done
    have fl2 := List.length_filter_le (fun c => !touch p q c) done
    rw [List.length_map] at b1 b2
    have hcc := hc.2 c hcm
    obtain ⟨c1, c2⟩ := c
    have hcc1 : c1.length ≤ 100 := hcc.1
    have hcc2 : c2.length ≤ 100 := hcc.2
    have ef : ∀ b : Bool, touch p q (c1, c2) = b → (done ++ [(c1, c2)]).filter (touch p q) = done.filter (touch p q) ++ (if b = true then [(c1, c2)] else []) ∧ (done ++ [(c1, c2)]).filter (fun c => !touch p q c) = done.filter (fun c => !touch p q c) ++ (if b = true then [] else [(c1, c2)]) := fun b hb => by
      rw [List.filter_append, List.filter_append]
      cases b <;> simp [hb]
    show SetQ (uName 3 (.tup [.str c1, .str c2]) _) _
    simp only [↓uName_eq, ↓setQ_some, List.set_cons_succ, List.set_cons_zero]
    by_cases ht : touch p q (c1, c2) = true
    · obtain ⟨f1, f2⟩ := ef true ht
      rw [f1, f2, if_pos rfl, if_pos rfl]
      have g : Wp (fOr (asB (fOp2 (fLoc (fIx (fAt 1) (fLoc (M.pure (.int 0))))) (fLoc (fIx (fAt 3) (fLoc (M.pure (.int 0))))) inP)) (asB (fOp2 (fLoc (fIx (fAt 1) (fLoc (M.pure (.int 1))))) (fLoc (fIx (fAt 3) (fLoc (M.pure (.int 1))))) inP))) (fun b s => b = true ∧ s = ⟨[.sh (.lst (cs.map cmV)), .sh (.str [p, q]), .ow (.lst ((done.filter fun c => !touch p q c).map cmV)), .sh (.tup [.str c1, .str c2]), .sh (.str ((done.filter (touch p q)).map (·.1)).flatten), .sh (.str ((done.filter (touch p q)).map (·.2)).flatten)], hp⟩) (fun _ _ => False) ⟨[.sh (.lst (cs.map cmV)), .sh (.str [p, q]), .ow (.lst ((done.filter fun c => !touch p q c).map cmV)), .sh (.tup [.str c1, .str c2]), .sh (.str ((done.filter (touch p q)).map (·.1)).flatten), .sh (.str ((done.filter (touch p q)).map (·.2)).flatten)], hp⟩ := by
        simp only [↓wp_fOr, ↓wp_asB, ↓wp_fOp2, ↓wp_fLoc, ↓wp_fIx, ↓wp_fAt, ↓slQ_zero, ↓slQ_succ, ↓wp_pure, ↓opQ_rdat, ↓opQ_rdval, tup_0, tup_1, str_0, str_1, ↓inP_ch]
        have hx : p ∈ c1 ∨ q ∈ c2 := touch_iff.mp ht
        by_cases h1 : p ∈ c1
        · simp [h1]
        · simp [h1, hx.resolve_left h1]
      rw [wp_gIf]
      refine wp_imp g (fun b s q => ?_) fun _ _ q => q.elim
      obtain ⟨rfl, rfl⟩ := q
      rw [if_pos rfl]
      simp only [↓wp_gSeq, ↓wp_gAsg, ↓wp_fOp2, ↓wp_fLoc, ↓wp_fIx, ↓wp_fAt, ↓slQ_zero, ↓slQ_succ, ↓wp_pure, ↓opQ_rdat, ↓opQ_rdval, tup_0, tup_1, ↓addP_str, sizeLine_val, ↓uName_eq, ↓setQ_some, List.set_cons_succ, List.set_cons_zero]
      refine ⟨by omega, by omega, .sh (.tup [.str c1, .str c2]), ?_⟩
      simp
    · have hf : touch p q (c1, c2) = false := by simpa using ht
      obtain ⟨f1, f2⟩ := ef false hf
      rw [f1, f2, if_neg Bool.false_ne_true, if_neg Bool.false_ne_true]
      have hx : ¬ (p ∈ c1 ∨ q ∈ c2) := fun z => ht (touch_iff.mpr z)
      have h1 : p ∉ c1 := fun z => hx (.inl z)
      have h2 : q ∉ c2 := fun z => hx (.inr z)
      simp only [↓wp_gIf, ↓wp_fOr, ↓wp_asB, ↓wp_fOp2, ↓wp_fLoc, ↓wp_fIx, ↓wp_fAt, ↓slQ_zero, ↓slQ_succ, ↓wp_pure, ↓opQ_rdat, ↓opQ_rdval, tup_0, tup_1, str_0, str_1, ↓inP_ch, h1, h2, decide_false]
      simp [putL, appendM, lenOk_iff, sizeLine_val]
      exact ⟨by omega, rfl⟩
  · rintro s ⟨y, rfl⟩
    have l2 := List.length_filter_le (fun c => !touch p q c) cs
    have := hc.1
    simp only [↓wp_gRet, ↓wp_fOp2, ↓wp_fAt, ↓slQ_zero, ↓slQ_succ, ↓wp_fLoc, ↓wp_fLst, ↓wp_fCons, ↓wp_fTup, ↓wp_fVar, ↓wp_fNil, lenOk_iff, sizeLine_val, ↓opQ_rdat, ↓opQ_rdval, ↓addP_lst]
    refine ⟨by simp, by simp, by simp; omega, ?_, trivial, trivial⟩
    unfold mergeP
    simp [cmV]
end Mi
end S_J1
section S_J2
set_option Elab.async false
set_option linter.all false
set_option maxRecDepth 100000
set_option maxHeartbeats 4000000
namespace Mi
open PySem PySem.Spec PyProof.Rows L2
theorem parts_few {J : List (Nat × Nat)} {L : S} {cs : List Cm} (h : Parts J L cs) (hL : L.length ≤ 100) : ∀ c ∈ cs, c.1.length ≤ 100 ∧ c.2.length ≤ 100 := fun c hc =>
  ⟨Nat.le_trans (nodup_le (h.comp c hc).nd1 (h.in1 c hc)) hL, Nat.le_trans (nodup_le (h.comp c hc).nd2 (h.in2 c hc)) hL⟩
theorem merge_len (cs : List Cm) (p q : Nat) : (mergeP cs p q).length ≤ cs.length + 1 := by
  unfold mergeP
  rw [List.length_append, List.length_singleton]
  have := List.length_filter_le (fun c => !touch p q c) cs
  omega
theorem join_srt {z : S} {Q : PV → Prop} (h : z.length ≤ 16777216) : OpQ (joinP (.str []) [.lst (srt (z.map ch))]) Q = Q (.str (isort z)) := by
  rw [srt_chs]
  have hl : (isort z).length = z.length := (isort_perm z).length_eq
  exact join_ch (by omega)
theorem e_comps {d : Nat} {z : S} {hp : List Ob} (hd : 2 ≤ d) (hz : Pat z) : ∃ cs : List Cm, Parts (adjP z) (dedup z) cs ∧ cs.length ≤ 100 ∧ G T d 33 [.str z] hp = .ok (.lst (srt ((cs.map canon).map cmV))) true hp := by
  obtain ⟨d, rfl⟩ : ∃ e, d = e + 1 := ⟨d - 1, by omega⟩
  have hne := hz.ne
  have hle := hz.le
  have hfew := hz.few
  have e1 := e_letters (d := d) (z := z) (hp := hp) (by omega) (by omega)
  obtain ⟨Js, hJ, hJl, e2⟩ := e_joins (d := d) (z := z) (hp := hp) (by omega) hne (by omega)
  have hJin : ∀ p ∈ Js, p.1 ∈ dedup z ∧ p.2 ∈ dedup z := fun p hp => adj_in p ((hJ p).mp hp)
  have P0 := parts_singles (nodup_dedup z)
  have P1 := parts_fold Js P0 hJin
  have P2 : Parts (adjP z) (dedup z) (Js.foldl (fun cs p => mergeP cs p.1 p.2) (singles (dedup z))) := P1.congr fun p => by rw [List.append_nil, List.mem_reverse, hJ]
  have lenf : ∀ (Js : List (Nat × Nat)) (cs : List Cm), (Js.foldl (fun cs p => mergeP cs p.1 p.2) cs).length ≤ cs.length + Js.length := fun Js => by
    induction Js with
    | nil => intro cs; simp
    | cons p Js ih =>
      intro cs
      rw [List.foldl_cons, List.length_cons]
      have a := ih (mergeP cs p.1 p.2)
      have b := merge_len cs p.1 p.2
      omega
  have len0 : (singles (dedup z)).length ≤ 14 := by unfold singles; simp; omega
  have len1 := lenf Js (singles (dedup z))
  refine ⟨_, P2, by omega, ?_⟩
  refine wpC_det (wpC_fn (F := F_find_components) rfl rfl ?_)
  show Wp (b_find_components (G T d)) _ _ ⟨[.sh (.str z), .un, .un, .un, .un, .un, .un], hp⟩
  unfold b_find_components
  refine wp_seq ⟨[.sh (.str z), .sh (.str (dedup z)), .un, .un, .un, .un, .un], hp⟩ (by simp [e1]) ?_
  refine wp_seq ⟨[.sh (.str z), .sh (.str (dedup z)), .sh (.lst ((singles (dedup z)).map cmV)), .un, .un, .un, .un], hp⟩ ?_ ?_
  · simp only [↓wp_gAsg, ↓wp_fOp2, ↓wp_fLoc]
    refine wp_fMapG ch (fun l => cmV ([l], [])) ?_
    simp only [↓wp_fSeq, ↓wp_fVar, ↓slQ_zero, ↓slQ_succ]
    refine ⟨dedup z, _, _, rfl, rfl, by simp, rfl, by omega, fun c hc => ?_, ?_⟩
    · simp only [List.set_cons_succ, List.set_cons_zero, ↓wp_fTup, ↓wp_fCons, ↓wp_fVar, ↓slQ_zero, ↓slQ_succ, ↓wp_pure, ↓wp_fNil, lenOk_iff, sizeLine_val]
      exact ⟨by simp, rfl, trivial⟩
    · refine wp_fMapG ch (fun l => cmV ([], [l])) ?_
      simp only [↓wp_fSeq, ↓wp_fVar, ↓slQ_zero, ↓slQ_succ]
      refine ⟨dedup z, _, _, rfl, rfl, by simp, rfl, by omega, fun c hc => ?_, ?_⟩
      · simp only [List.set_cons_succ, List.set_cons_zero, ↓wp_fTup, ↓wp_fCons, ↓wp_fVar, ↓slQ_zero, ↓slQ_succ, ↓wp_pure, ↓wp_fNil, lenOk_iff, sizeLine_val]
        exact ⟨by simp, rfl, trivial⟩
      · simp only [↓opQ_rdval, ↓addP_lst, sizeLine_val, List.length_map]
        refine ⟨by omega, ?_⟩
        have e3 : ((dedup z).map fun l => cmV ([l], [])) ++ ((dedup z).map fun l => cmV ([], [l])) = (singles (dedup z)).map cmV := by
          unfold singles
          rw [List.map_append, List.map_map, List.map_map]
          rfl
        rw [e3]
        simp only [↓uName_eq, ↓setQ_some, List.set_cons_succ, List.set_cons_zero]
        exact ⟨trivial, trivial⟩
  refine wp_seq' (fun s => ∃ y : Slot, s = ⟨[.sh (.str z), .sh (.str (dedup z)), .sh (.lst ((Js.foldl (fun cs p => mergeP cs p.1 p.2) (singles (dedup z))).map cmV)), y, .un, .un, .un], hp⟩) ?_ ?_
  · simp only [↓wp_gFor, ↓wp_fSeq, ↓wp_fCall, ↓wp_fCons, ↓wp_fVar, ↓slQ_zero, ↓wp_fNil, e2, ↓wpC_ok]
    refine wp_loopG (zs := Js) pairV (fun done s => (∃ rest, Js = done ++ rest) ∧ ∃ y : Slot, s = ⟨[.sh (.str z), .sh (.str (dedup z)), .sh (.lst ((done.foldl (fun cs p => mergeP cs p.1 p.2) (singles (dedup z))).map cmV)), y, .un, .un, .un], hp⟩) rfl ⟨⟨Js, rfl⟩, .un, rfl⟩ ?_ (fun s ⟨_, y, e⟩ => ⟨rfl, y, e⟩)
    rintro done p rest s hjs ⟨_, y, rfl⟩
    have hin : ∀ e ∈ done, e.1 ∈ dedup z ∧ e.2 ∈ dedup z := fun e he => hJin e (by rw [hjs]; exact List.mem_append_left _ he)
    have Pd := parts_fold done P0 hin
    have ld := lenf done (singles (dedup z))
    have hdl : done.length ≤ Js.length := by rw [hjs, List.length_append]; omega
    have em := e_merge (d := d) (p := p) (hp := hp) (by omega) ⟨(show (done.foldl (fun cs p => mergeP cs p.1 p.2) (singles (dedup z))).length ≤ 1000 by omega), parts_few Pd (by omega)⟩
    simp only [↓uName_eq, ↓setQ_some, List.set_cons_succ, List.set_cons_zero, ↓wp_gAsg, ↓wp_fCall, ↓wp_fCons, ↓wp_fVar, ↓slQ_zero, ↓slQ_succ, ↓wp_fNil, em, ↓wpC_ok]
    refine ⟨⟨rest, by simpa using hjs⟩, .sh (pairV p), ?_⟩
    rw [List.foldl_append]
    rfl
  rintro s' ⟨y, rfl⟩
  generalize hcs : Js.foldl (fun cs p => mergeP cs p.1 p.2) (singles (dedup z)) = cs at *
  have hfw := parts_few P2 (by omega)
  simp only [↓wp_gRetF, ↓wp_fB, ↓wp_fOCons, ↓wp_fLoc]
  refine wp_compG cmV ?_
  simp only [↓wp_fSeq, ↓wp_fVar, ↓slQ_zero, ↓slQ_succ]
  refine ⟨rfl, cs, fun done acc s => (∃ rest, cs = done ++ rest) ∧ ∃ (a b : Slot), acc = (done.map canon).map cmV ∧ s = ⟨[.sh (.str z), .sh (.str (dedup z)), .sh (.lst (cs.map cmV)), y, .un, a, b], hp⟩, rfl, ⟨⟨cs, rfl⟩, .un, .un, rfl, rfl⟩, ?_, ?_⟩
  · rintro done c rest acc s hc ⟨_, a, b, rfl, rfl⟩
    have hcm : c ∈ cs := by rw [hc]; simp
    have hl := hfw c hcm
    obtain ⟨c1, c2⟩ := c
    have hl1 : c1.length ≤ 100 := hl.1
    have hl2 : c2.length ≤ 100 := hl.2
    have g1 : ∀ Q : PV → Prop, OpQ (joinP (.str []) [.lst (srt (c1.map ch))]) Q = Q (.str (isort c1)) := fun Q => join_srt (by omega)
    have g2 : ∀ Q : PV → Prop, OpQ (joinP (.str []) [.lst (srt (c2.map ch))]) Q = Q (.str (isort c2)) := fun Q => join_srt (by omega)
    show SetQ (some ⟨[.sh (.str z), .sh (.str (dedup z)), .sh (.lst (cs.map cmV)), y, .un, .sh (.str c1), .sh (.str c2)], hp⟩) _
    simp only [↓setQ_some, ↓wp_fTup, ↓wp_fCons, ↓wp_fMeth, ↓wp_fLoc, ↓wp_pure, ↓opQ_rdval, ↓wp_fOCons, ↓wp_fB, ↓wp_fAt, ↓slQ_zero, ↓slQ_succ, ↓wp_fONil, ↓lsQ_cons, ↓lsQ_nil, ↓opQ_rdat, ↓sortedP_str, g1, g2, ↓wp_fNil, lenOk_iff, sizeLine_val]
    refine ⟨⟨rfl, rfl⟩, ⟨rfl, rfl⟩, by simp, ⟨rest, by simpa using hc⟩, _, _, ?_, rfl⟩
    rw [List.map_append, List.map_append]
    rfl
  · rintro acc s ⟨_, a, b, rfl, rfl⟩
    refine ⟨lenOk_of (by rw [List.length_map, List.length_map, sizeLine_val]; omega), ?_⟩
    have g3 : ∀ Q : PV → Prop, OpQ (sortedP' [.lst ((cs.map canon).map cmV)]) Q = Q (.lst (srt ((cs.map canon).map cmV))) := fun Q => sortedP'_ok (sok_cms _)
    simp only [↓wp_fONil, ↓lsQ_cons, ↓lsQ_nil, ↓opQ_rdval, g3]
    exact ⟨trivial, trivial, trivial⟩
theorem e_joined {d : Nat} {x : PV} {hp : List Ob} (hd : 4 ≤ d) (h : (tyN x).isSome = true) : (patB x = true → ∃ cs : List Cm, Parts (adjP (unS x)) (dedup (unS x)) cs ∧ cs.length ≤ 100 ∧ G T d 83 [x] hp = .ok (.lst (srt ((cs.map canon).map cmV))) true hp) ∧ (patB x = false → G T d 83 [x] hp = .ex (.exc 1 []) hp) := by
  obtain ⟨d, rfl⟩ : ∃ e, d = e + 1 := ⟨d - 1, by omega⟩
  have e1 := e_reqPat (d := d) (hp := hp) (by omega) h
  refine ⟨fun hb => ?_, fun hb => ?_⟩
  · rw [if_pos hb] at e1
    obtain ⟨z, rfl, hz⟩ := patB_str hb
    obtain ⟨cs, P, l, e2⟩ := e_comps (d := d) (z := z) (hp := hp) (by omega) hz
    refine ⟨cs, P, l, wpC_det (wpC_fn (F := F_joined) rfl rfl ?_)⟩
    simp [F_joined, b_joined, start0, e1, e2]
  · rw [hb, if_neg Bool.false_ne_true] at e1
    refine wpC_detx (wpC_fn (F := F_joined) rfl rfl ?_)
    simp [F_joined, b_joined, start0, e1]
end Mi
end S_J2
section S_J3
set_option Elab.async false
set_option linter.all false
set_option maxRecDepth 100000
set_option maxHeartbeats 4000000
namespace Mi
open PySem PySem.Spec PyProof.Rows L2
theorem wp_compF2 {α : Type} {f : M (List PV)} {vs : List Nat} {g : PV → Fs → Option Fs} {t : M Bool} {e : M PV} {Q : PV → Fs → Prop} {E : PV → Fs → Prop} {s : Fs} (inj : α → PV) (h : Wp f (fun items s1 => okV s1.sl vs = true ∧ ∃ (zs : List α) (I : List α → List PV → Fs → Prop), items = zs.map inj ∧ I [] [] s1 ∧
    (∀ done x rest acc s, zs = done ++ x :: rest → I done acc s → SetQ (g (inj x) { s with sl := wipeS s.sl vs }) fun s2 => Wp t (fun b s3 => if b = true then Wp e (fun y s4 => I (done ++ [x]) (acc ++ [y]) s4) (fun _ _ => False) s3 else I (done ++ [x]) acc s3) (fun _ _ => False) s2) ∧
    (∀ acc s', I zs acc s' → lenOk acc = true ∧ Q (.lst acc) { s' with sl := backS s1.sl s'.sl vs })) E s) : Wp (fComp f vs g t e) Q E s := by
  refine wp_comp (wp_imp h (fun items s1 q => ?_) fun _ _ q => q)
  obtain ⟨ho, zs, I, rfl, h0, hs, he⟩ := q
  refine ⟨ho, fun r acc s => ∃ done rest, done ++ rest = zs ∧ r = rest.map inj ∧ I done acc s, ⟨[], zs, rfl, rfl, h0⟩, ?_, ?_⟩
  · rintro x r acc s ⟨done, rest, e1, er, hI⟩
    cases rest with
    | nil => cases er
    | cons z rest =>
      obtain ⟨rfl, rfl⟩ := List.cons.inj er
      have h := hs done z rest acc s e1.symm hI
      cases eg : g (inj z) { s with sl := wipeS s.sl vs } with
      | none => rw [eg] at h; exact h
      | some s2 =>
        rw [eg] at h
        rw [setQ_some]
        refine wp_imp h (fun b s3 q => ?_) fun _ _ q => q
        cases b with
        | true =>
          rw [if_pos rfl] at q ⊢
          refine wp_imp q (fun y s4 q => ?_) fun _ _ q => q
          exact ⟨done ++ [z], rest, by simpa using e1, rfl, q⟩
        | false =>
          rw [if_neg Bool.false_ne_true] at q ⊢
          exact ⟨done ++ [z], rest, by simpa using e1, rfl, q⟩
  · rintro acc s ⟨done, rest, e1, er, hI⟩
    have : rest = [] := by simpa using er.symm
    subst this
    rw [List.append_nil] at e1
    subst e1
    exact he acc s hI
theorem zip_at {z : S} {done : List (Nat × Nat)} {c o : Nat} {rest : List (Nat × Nat)} (h : z.zipIdx = done ++ (c, o) :: rest) : o = done.length ∧ done.map (·.1) = z.take o ∧ o < z.length ∧ z.take (o + 1) = z.take o ++ [c] := by
  have hl : done.length < z.length := by
    have := congrArg List.length h
    simp at this
    omega
  have e1 : z.zipIdx[done.length]? = some (c, o) := by rw [h, List.getElem?_append_right (Nat.le_refl _), Nat.sub_self]; rfl
  rw [List.getElem?_zipIdx, List.getElem?_eq_getElem hl] at e1
  have e2 := Option.some.inj e1
  have eo : o = done.length := by
    have := congrArg Prod.snd e2
    have h2 : 0 + done.length = o := this
    omega
  have ec : z[done.length] = c := congrArg Prod.fst e2
  have em : z = (done ++ (c, o) :: rest).map (·.1) := by
    rw [← h]
    exact (List.zipIdx_map_fst 0 z).symm
  have et : done.map (·.1) = z.take o := by
    rw [eo, em, List.map_append, List.take_append_of_le_length (by simp)]
    rw [List.take_of_length_le (by simp)]
  refine ⟨eo, et, by omega, ?_⟩
  rw [List.take_succ, eo, List.getElem?_eq_getElem hl, ec]
  rfl
theorem e_lletters {d : Nat} {z : S} {hp : List Ob} (hd : 1 ≤ d) (hz : z.length ≤ 1000) : G T d 8 [.str z] hp = .ok (.str (dedup z)) false hp := by
  obtain ⟨d, rfl⟩ : ∃ e, d = e + 1 := ⟨d - 1, by omega⟩
  refine wpC_det (wpC_fn (F := F__law_letters) rfl rfl ?_)
  show Wp (b__law_letters (G T d)) _ _ ⟨[.sh (.str z), .un, .un], hp⟩
  unfold b__law_letters
  simp only [↓wp_gRet, ↓wp_fMeth, ↓wp_fLoc, ↓wp_pure, ↓opQ_rdval, ↓wp_fOCons]
  refine ⟨⟨rfl, rfl⟩, ?_⟩
  refine wp_compF2 (fun p : Nat × Nat => PV.tup [.int p.2, ch p.1]) ?_
  simp only [↓wp_fEnumS, ↓wp_fCons, ↓wp_fVar, ↓slQ_zero, ↓wp_fNil]
  have ez : ((z.map ch).zipIdx.map fun p => PV.tup [.int (p.2 : Nat), p.1]) = z.zipIdx.map fun p : Nat × Nat => PV.tup [.int p.2, ch p.1] := by
    rw [List.zipIdx_map, List.map_map]
    rfl
  refine ⟨rfl, z.zipIdx, fun done acc s => acc = (dedup (done.map (·.1))).map ch ∧ ∃ a b : Slot, s = ⟨[.sh (.str z), a, b], hp⟩, ez, ⟨rfl, .un, .un, rfl⟩, ?_, ?_⟩
  · rintro done ⟨c, o⟩ rest acc s hzs ⟨rfl, a, b, rfl⟩
    obtain ⟨eo, et, hol, hts⟩ := zip_at hzs
    have e5 : cut z none (some (o : Int)) = z.take o := cut_to (by omega)
    show SetQ (some ⟨[.sh (.str z), .sh (.int o), .sh (ch c)], hp⟩) _
    have ed : dedup ((done ++ [(c, o)]).map (·.1)) = if c ∈ dedup (z.take o) then dedup (z.take o) else dedup (z.take o) ++ [c] := by
      rw [List.map_append, et]
      unfold dedup
      rw [List.foldl_append]
      rfl
    dsimp only
    rw [ed, et]
    simp only [↓setQ_some, ↓wp_asB, ↓wp_fOp2, ↓wp_fAt, ↓slQ_zero, ↓slQ_succ, ↓opQ_rdat, ↓wp_fLoc, ↓wp_fCut, ↓wp_fNone, ↓wp_fSome, ↓wp_fVar, ↓cutP_str, e5, ↓opQ_rdval, ↓notInP_ch]
    by_cases hc : c ∈ z.take o
    · rw [if_neg (by simp [hc]), if_pos (mem_dedup.mpr hc)]
      exact ⟨rfl, _, _, rfl⟩
    · rw [if_pos (by simp [hc]), if_neg fun h => hc (mem_dedup.mp h)]
      exact ⟨by simp, _, _, rfl⟩
  · rintro acc s ⟨rfl, a, b, rfl⟩
    have em : z.zipIdx.map (·.1) = z := List.zipIdx_map_fst 0 z
    rw [em]
    have hl := dedup_len z
    refine ⟨lenOk_of (by rw [List.length_map, sizeLine_val]; omega), ?_⟩
    have g : ∀ Q : PV → Prop, OpQ (joinP (.str []) [.lst ((dedup z).map ch)]) Q = Q (.str (dedup z)) := fun Q => join_ch (by omega)
    simp only [↓wp_fONil, ↓opQ_rdval, ↓lsQ_cons, ↓lsQ_nil, g]
    exact ⟨trivial, trivial, trivial⟩
theorem e_set {d : Nat} {l : S} {hp : List Ob} (hd : 1 ≤ d) (hl : l.length ≤ 1000) (hn : l.Nodup) : G T d 41 [.lst (l.map ch)] hp = .ok (.str (isort l)) false hp := by
  obtain ⟨d, rfl⟩ : ∃ e, d = e + 1 := ⟨d - 1, by omega⟩
  refine wpC_det (wpC_fn (F := F__law_set) rfl rfl ?_)
  show Wp (b__law_set (G T d)) _ _ ⟨[.sh (.lst (l.map ch))], hp⟩
  unfold b__law_set
  have g1 : ∀ Q : PV → Prop, OpQ (sortSetP [.lst (l.map ch)]) Q = Q (.lst ((isort l).map ch)) := fun Q => by
    rw [sortSet_ok (xs := l.map ch) rfl (.inl (by rw [List.all_map, List.all_eq_true]; intro c _; rfl)) (by rw [List.length_map]; omega), set_chs hn]
  have hl2 : (isort l).length = l.length := (isort_perm l).length_eq
  have g2 : ∀ Q : PV → Prop, OpQ (joinP (.str []) [.lst ((isort l).map ch)]) Q = Q (.str (isort l)) := fun Q => join_ch (by omega)
  simp only [↓wp_gRet, ↓wp_fMeth, ↓wp_fLoc, ↓wp_pure, ↓opQ_rdval, ↓wp_fOCons, ↓wp_fB, ↓wp_fAt, ↓slQ_zero, ↓wp_fONil, ↓lsQ_cons, ↓lsQ_nil, ↓opQ_rdat, g1, g2]
  exact ⟨⟨rfl, rfl⟩, trivial, trivial, trivial⟩
def sI (s : Bool) : Int := if s = true then 1 else 0
def ndV (n : Nd) : PV := .tup [.int (sI n.1), ch n.2]
theorem eqv_nd (n m : Nd) : eqv (ndV n) (ndV m) = decide (n = m) := by
  obtain ⟨s, l⟩ := n
  obtain ⟨t, k⟩ := m
  show (decide (sI s = sI t) && (decide ([l] = [k]) && true)) = _
  by_cases h : l = k
  · subst h
    cases s <;> cases t <;> simp [sI]
  · have h2 : ¬ ((s, l) : Nd) = (t, k) := fun e => h (congrArg Prod.snd e)
    rw [decide_eq_false h2]
    simp [h]
theorem inL_nds (n : Nd) : ∀ ms : List Nd, inL (ndV n) (ms.map ndV) = decide (n ∈ ms)
  | [] => rfl
  | m :: ms => by
    show (eqv (ndV m) (ndV n) || inL (ndV n) (ms.map ndV)) = _
    rw [eqv_nd, inL_nds n ms]
    by_cases h : m = n
    · simp [h]
    · have h2 : ¬ n = m := fun e => h e.symm
      simp [h, h2]
theorem datas_nds (ms : List Nd) : (ms.map ndV).all (data 60) = true := by
  rw [List.all_map, List.all_eq_true]
  intro m _
  rfl
theorem notIn_nds {n : Nd} {ms : List Nd} {Q : PV → Prop} : OpQ (notInP (ndV n) (.lst (ms.map ndV))) Q = Q (.bl (!decide (n ∈ ms))) := by
  have e : notInP (ndV n) (.lst (ms.map ndV)) = some (.bl (!decide (n ∈ ms))) := by
    show ((if data 60 (ndV n) = true ∧ (ms.map ndV).all (data 60) = true then some (inL (ndV n) (ms.map ndV)) else none).map fun b => PV.bl (!b)) = _
    rw [if_pos ⟨rfl, datas_nds ms⟩, inL_nds]
    rfl
  rw [e]
  rfl
theorem ix_pair {p : Nat × Nat} {s : Bool} {st : Fs} {Q : PV → Prop} : OpQ (ixP st (pairV p) (.int (sI s))) Q = Q (ch (sel s p)) := by
  cases s <;> rfl
theorem ix_pairN {p : Nat × Nat} {s : Bool} {st : Fs} {Q : PV → Prop} : OpQ (ixP st (pairV p) (.int (1 - sI s))) Q = Q (ch (sel (!s) p)) := by
  cases s <;> rfl
theorem sI_not (s : Bool) : 1 - sI s = sI (!s) := by cases s <;> rfl
theorem eqP_ch {a b : Nat} {Q : PV → Prop} : OpQ (eqP (ch a) (ch b)) Q = Q (.bl (decide (a = b))) := by
  show Q (.bl (eqv (ch a) (ch b))) = _
  rw [eqv_ch]
theorem ix_nds {ns : List Nd} {i : Nat} {st : Fs} {Q : PV → Prop} (h : i < ns.length) : OpQ (ixP st (.lst (ns.map ndV)) (.int (i : Nat))) Q = Q (ndV ns[i]) := by
  have e : ixP st (.lst (ns.map ndV)) (.int (i : Nat)) = some (ndV ns[i]) := by
    show L2.atI (ns.map ndV) (i : Int) = _
    rw [atI_nat (by simpa using h)]
    simp
  rw [e]
  rfl
end Mi
end S_J3
section S_J4
set_option Elab.async false
set_option linter.all false
set_option maxRecDepth 100000
set_option maxHeartbeats 4000000
namespace Mi
open PySem PySem.Spec PyProof.Rows L2
def shO : Option PV → Slot
  | none => .un
  | some v => .sh v
theorem nbr_map {J : List (Nat × Nat)} {n : Nd} : ((J.filter fun p => decide (sel n.1 p = n.2)).map fun p => ndV (!n.1, sel (!n.1) p)) = (nbr J n).map ndV := by
  unfold nbr
  rw [List.map_map]
  rfl
theorem ends_snoc (done : List Nd) (n : Nd) : endsOf (done ++ [n]) = if n.1 = true then endsOf done else endsOf done ++ [n.2] := by
  obtain ⟨s, l⟩ := n
  unfold endsOf
  rw [List.filter_append, List.map_append]
  cases s <;> simp
theorem begs_snoc (done : List Nd) (n : Nd) : begsOf (done ++ [n]) = if n.1 = true then begsOf done ++ [n.2] else begsOf done := by
  obtain ⟨s, l⟩ := n
  unfold begsOf
  rw [List.filter_append, List.map_append]
  cases s <;> simp
theorem ends_len (part : List Nd) : (endsOf part).length ≤ part.length := by
  unfold endsOf
  rw [List.length_map]
  exact List.length_filter_le ..
theorem begs_len (part : List Nd) : (begsOf part).length ≤ part.length := by
  unfold begsOf
  rw [List.length_map]
  exact List.length_filter_le ..
section
variable {d : Nat} {z : S} {hp : List Ob}
theorem sprd_ok {part : List Nd} {i : Nat} {f : Nd} {kb : Bool} {x0 x2 x3 x4 x5 x6 x7 x11 : Slot} {o8 o12 o13 : Option PV} (hJ : ∀ p ∈ adjP z, p.1 ∈ dedup z ∧ p.2 ∈ dedup z) (hJl : (adjP z).length ≤ 1000) (hL : (dedup z).length ≤ 100) (h : BI (adjP z) (dedup z) f part i) (hi : i < part.length)
    {Q2 : Fl → Fs → Prop} {E : PV → Fs → Prop} (q : ∀ (part' : List Nd) (x11 : Slot) (o8 o12 o13 : Option PV), BI (adjP z) (dedup z) f part' (i + 1) → Q2 .nx ⟨[x0, .sh (.lst ((adjP z).map pairV)), x2, x3, x4, x5, x6, x7, shO o8, .ow (.lst (part'.map ndV)), .sh (.int (i + 1 : Nat)), x11, shO o12, shO o13], hp⟩) :
    Wp (gSeq (gAsg (fIx (fAt 9) (fAt 10)) (uTup 2 (uCons (uName 12) (uCons (uName 8) (uNil))))) (gSeq (gFor (fSeq (fComp (fSeq (fVar 1)) [13] (uName 13) (asB (fOp2 (fLoc (fIx (fAt 13) (fAt 12))) (fAt 8) eqP)) (fTup (fCons (fOp2 (fLoc (M.pure (.int 1))) (fAt 12) subP) (fCons (fIx (fAt 13) (fLoc (fOp2 (fLoc (M.pure (.int 1))) (fAt 12) subP))) (fNil)))))) (uName 11) (gIf (asB (fOp2 (fAt 11) (fAt 9) notInP)) (gDrop (fMut (fAt 9) (fCons (fVar 11) (fNil)) appendM)) (gNx))) (gAsg (fOp2 (fAt 10) (fLoc (M.pure (.int 1))) addP) (uName 10)))) Q2 E
      ⟨[x0, slotOf (.lst ((adjP z).map pairV), kb), x2, x3, x4, x5, x6, x7, shO o8, .ow (.lst (part.map ndV)), .sh (.int i), x11, shO o12, shO o13], hp⟩ := by
  obtain ⟨n, hn⟩ : ∃ n, n = part[i] := ⟨_, rfl⟩
  refine wp_seq ⟨[x0, slotOf (.lst ((adjP z).map pairV), kb), x2, x3, x4, x5, x6, x7, .sh (ch n.2), .ow (.lst (part.map ndV)), .sh (.int i), x11, .sh (.int (sI n.1)), shO o13], hp⟩ ?_ ?_
  · have e1 := fun st Q => ix_nds (ns := part) (st := st) (Q := Q) hi
    rw [← hn] at e1
    simp only [↓wp_gAsg, ↓wp_fIx, ↓wp_fAt, ↓slQ_zero, ↓slQ_succ, ↓opQ_rdat, e1]
    exact ⟨by first | rfl | trivial, by first | rfl | trivial⟩
  have step := bi_step hJ h hi
  rw [← hn] at step
  have plen := bi_len step
  refine wp_seq' (fun s => ∃ y : Slot, s = ⟨[x0, .sh (.lst ((adjP z).map pairV)), x2, x3, x4, x5, x6, x7, .sh (ch n.2), .ow (.lst (((nbr (adjP z) n).foldl add1 part).map ndV)), .sh (.int i), y, .sh (.int (sI n.1)), shO o13], hp⟩) ?_ ?_
  · simp only [↓wp_gFor, ↓wp_fSeq]
    refine wp_fFil pairV (fun p => decide (sel n.1 p = n.2)) (fun p => ndV (!n.1, sel (!n.1) p)) ?_
    have hv : Wp (fSeq (fVar 1)) (fun items s1 => items = (adjP z).map pairV ∧ s1 = ⟨[x0, .sh (.lst ((adjP z).map pairV)), x2, x3, x4, x5, x6, x7, .sh (ch n.2), .ow (.lst (part.map ndV)), .sh (.int i), x11, .sh (.int (sI n.1)), shO o13], hp⟩) (fun _ _ => False) ⟨[x0, slotOf (.lst ((adjP z).map pairV), kb), x2, x3, x4, x5, x6, x7, .sh (ch n.2), .ow (.lst (part.map ndV)), .sh (.int i), x11, .sh (.int (sI n.1)), shO o13], hp⟩ := by
      cases kb <;> simp [slotOf]
    refine wp_imp hv (fun items s1 q1 => ?_) fun _ _ q => q.elim
    obtain ⟨rfl, rfl⟩ := q1
    refine ⟨adjP z, _, _, rfl, rfl, by simp, by cases o13 <;> rfl, by omega, fun p hpm => ?_, fun p hpm hs => ?_, ?_⟩
    · simp only [List.set_cons_succ, List.set_cons_zero, ↓wp_asB, ↓wp_fOp2, ↓wp_fLoc, ↓wp_fIx, ↓wp_fAt, ↓slQ_zero, ↓slQ_succ, ↓opQ_rdat, ix_pair, ↓opQ_rdval, eqP_ch]
      exact ⟨by first | rfl | trivial, by first | rfl | trivial⟩
    · simp only [List.set_cons_succ, List.set_cons_zero, ↓wp_fTup, ↓wp_fCons, ↓wp_fOp2, ↓wp_fLoc, ↓wp_pure, ↓wp_fIx, ↓wp_fAt, ↓slQ_zero, ↓slQ_succ, ↓opQ_rdat, ↓opQ_rdval, ↓subP_int, ix_pairN, ↓wp_fNil, lenOk_iff, sizeLine_val]
      refine ⟨by simp, ?_, by first | rfl | trivial⟩
      rw [sI_not]
      rfl
    · rw [nbr_map]
      simp only []
      refine wp_loopG (zs := nbr (adjP z) n) ndV (fun done s => (∃ rest, nbr (adjP z) n = done ++ rest) ∧ ∃ y : Slot, s = ⟨[x0, .sh (.lst ((adjP z).map pairV)), x2, x3, x4, x5, x6, x7, .sh (ch n.2), .ow (.lst ((done.foldl add1 part).map ndV)), .sh (.int i), y, .sh (.int (sI n.1)), shO o13], hp⟩) rfl ⟨⟨_, rfl⟩, x11, rfl⟩ ?_ (fun s ⟨_, y, e⟩ => ⟨rfl, y, e⟩)
      rintro done o rest s hd ⟨_, y, rfl⟩
      obtain ⟨cur, hcur⟩ : ∃ cur, cur = done.foldl add1 part := ⟨_, rfl⟩
      have hgrow : ∀ (os ps : List Nd), ps.length ≤ (os.foldl add1 ps).length := fun os => by
        induction os with
        | nil => intro ps; exact Nat.le_refl _
        | cons a os ih =>
          intro ps
          have := ih (add1 ps a)
          have h2 : ps.length ≤ (add1 ps a).length := by unfold add1; split <;> simp
          rw [List.foldl_cons]
          omega
      have hle : cur.length ≤ 2 * (dedup z).length := by
        have e3 : (nbr (adjP z) n).foldl add1 part = (o :: rest).foldl add1 cur := by rw [hd, List.foldl_append, hcur]
        rw [e3] at plen
        have := hgrow (o :: rest) cur
        omega
      rw [← hcur]
      have ef : (done ++ [o]).foldl add1 part = add1 cur o := by rw [List.foldl_append, hcur]; rfl
      rw [ef]
      simp only [↓uName_eq, ↓setQ_some, List.set_cons_succ, List.set_cons_zero, ↓wp_gIf, ↓wp_asB, ↓wp_fOp2, ↓wp_fAt, ↓slQ_zero, ↓slQ_succ, ↓opQ_rdat, notIn_nds]
      by_cases hm : o ∈ cur
      · have ea : add1 cur o = cur := if_pos hm
        rw [ea]
        simp [hm]
        exact ⟨rest, hd⟩
      · have ea : add1 cur o = cur ++ [o] := if_neg hm
        rw [ea]
        simp [hm, putL, appendM, lenOk_iff, sizeLine_val]
        exact ⟨by omega, rest, hd⟩
  rintro s' ⟨y, rfl⟩
  have e9 : (i : Int) + 1 = ((i + 1 : Nat) : Int) := by omega
  simp only [↓wp_gAsg, ↓wp_fOp2, ↓wp_fAt, ↓slQ_zero, ↓slQ_succ, ↓wp_fLoc, ↓wp_pure, ↓opQ_rdat, ↓opQ_rdval, ↓addP_int, e9, ↓uName_eq, ↓setQ_some, List.set_cons_succ, List.set_cons_zero]
  exact q _ y (some (ch n.2)) (some (.int (sI n.1))) o13 step
theorem side_ok {part : List Nd} {ow : Bool} {b : Bool} {x0 x1 x2 x3 x4 x5 x6 x7 x10 x11 x13 : Slot} {o8 o12 : Option PV} (hl : part.length ≤ 1000) {Q : PV → Fs → Prop} {E : PV → Fs → Prop} {k : Int} (hk : k = sI b)
    (q : Q (.lst ((if b = true then begsOf part else endsOf part).map ch)) ⟨[x0, x1, x2, x3, x4, x5, x6, x7, shO o8, .sh (.lst (part.map ndV)), x10, x11, shO o12, x13], hp⟩) :
    Wp (fComp (fSeq (fVar 9)) [12, 8] (uTup 2 (uCons (uName 12) (uCons (uName 8) (uNil)))) (asB (fOp2 (fAt 12) (fLoc (M.pure (.int k))) eqP)) (fVar 8)) Q E ⟨[x0, x1, x2, x3, x4, x5, x6, x7, shO o8, slotOf (.lst (part.map ndV), ow), x10, x11, shO o12, x13], hp⟩ := by
  subst hk
  refine wp_compF2 ndV ?_
  have hv : Wp (fSeq (fVar 9)) (fun items s1 => items = part.map ndV ∧ s1 = ⟨[x0, x1, x2, x3, x4, x5, x6, x7, shO o8, .sh (.lst (part.map ndV)), x10, x11, shO o12, x13], hp⟩) (fun _ _ => False) ⟨[x0, x1, x2, x3, x4, x5, x6, x7, shO o8, slotOf (.lst (part.map ndV), ow), x10, x11, shO o12, x13], hp⟩ := by
    cases ow <;> simp [slotOf]
  refine wp_imp hv (fun items s1 q1 => ?_) fun _ _ q => q.elim
  obtain ⟨rfl, rfl⟩ := q1
  refine ⟨by cases o8 <;> cases o12 <;> rfl, part, fun done acc s => acc = (if b = true then begsOf done else endsOf done).map ch ∧ ∃ y w : Slot, s = ⟨[x0, x1, x2, x3, x4, x5, x6, x7, y, .sh (.lst (part.map ndV)), x10, x11, w, x13], hp⟩, rfl, ⟨by cases b <;> rfl, _, _, rfl⟩, ?_, ?_⟩
  · rintro done n rest acc s hp2 ⟨rfl, y, w, rfl⟩
    obtain ⟨s, l⟩ := n
    show SetQ (some ⟨[x0, x1, x2, x3, x4, x5, x6, x7, .sh (ch l), .sh (.lst (part.map ndV)), x10, x11, .sh (.int (sI s)), x13], hp⟩) _
    dsimp only
    rw [begs_snoc, ends_snoc]
    simp only [↓setQ_some, ↓wp_asB, ↓wp_fOp2, ↓wp_fAt, ↓slQ_zero, ↓slQ_succ, ↓opQ_rdat, ↓wp_fLoc, ↓wp_pure, ↓opQ_rdval, ↓eqP_int]
    have es : decide (sI s = sI b) = decide (s = b) := by cases s <;> cases b <;> rfl
    rw [es]
    cases s <;> cases b <;> simp
  · rintro acc s ⟨rfl, y, w, rfl⟩
    have l1 := ends_len part
    have l2 := begs_len part
    refine ⟨lenOk_of (by rw [List.length_map, sizeLine_val]; split <;> omega), ?_⟩
    exact q
end
end Mi
end S_J4
section S_J5
set_option Elab.async false
set_option linter.all false
set_option maxRecDepth 100000
set_option maxHeartbeats 4000000
namespace Mi
open PySem PySem.Spec PyProof.Rows L2
def firsts (L : S) : List Nd := L.map (fun l => (false, l)) ++ L.map fun l => (true, l)
end Mi
end S_J5
section S_J6
set_option Elab.async false
set_option linter.all false
set_option maxRecDepth 100000
set_option maxHeartbeats 4000000
namespace Mi
open PySem PySem.Spec PyProof.Rows L2
def Ok (x : PV) : Prop := sm 7 20 x = true ∧ wt 7 20 x ≤ 300000
def Asc (z : S) : Prop := ∀ c ∈ z, c < 128
theorem asc_all {z : S} (h : Asc z) : (z.all fun c => decide (c < 128)) = true := by
  rw [List.all_eq_true]
  exact fun c hc => decide_eq_true (h c hc)
theorem Asc.app {y z : S} (h : Asc y) (h2 : Asc z) : Asc (y ++ z) := fun c hc => (List.mem_append.mp hc).elim (h c) (h2 c)
theorem Asc.take {z : S} (h : Asc z) (k : Nat) : Asc (z.take k) := fun c hc => h c (List.mem_of_mem_take hc)
theorem Asc.drop {z : S} (h : Asc z) (k : Nat) : Asc (z.drop k) := fun c hc => h c (List.mem_of_mem_drop hc)
theorem Asc.lo {z : S} (h : Asc z) : Asc (z.map lo1) := fun c hc => by
  obtain ⟨b, hb, rfl⟩ := List.mem_map.mp hc
  exact lo1_lt (h b hb)
theorem Asc.up {z : S} (h : Asc z) : Asc (z.map up1) := fun c hc => by
  obtain ⟨b, hb, rfl⟩ := List.mem_map.mp hc
  exact up1_lt (h b hb)
theorem asc_rep {c n : Nat} (h : c < 128) : Asc (repS n [c]) := fun b hb => by
  unfold repS at hb
  obtain ⟨l, hl, hm⟩ := List.mem_flatten.mp hb
  rw [List.eq_of_mem_replicate hl] at hm
  rw [List.mem_singleton.mp hm]
  exact h
theorem wt_str {k n : Nat} {w : S} : wt k n (.str w) = w.length := by cases n <;> rfl
theorem sm_str {k n : Nat} {w : S} (h : Asc w) : sm k n (.str w) = true := by
  have := asc_all h
  cases n <;> exact this
theorem ok_str {z : S} (h : Asc z) (hl : z.length ≤ 300000) : Ok (.str z) := ⟨sm_str h, by rw [wt_str]; exact hl⟩
theorem ok_chs {z : S} (h : Asc z) (hl : z.length ≤ 1000) : Ok (.lst (z.map ch)) := by
  constructor
  · show (z.map ch).all (sm 7 19) = true
    rw [List.all_map, List.all_eq_true]
    exact fun c hc => sm_str fun b hb => by rw [List.mem_singleton.mp hb]; exact h c hc
  · show ((z.map ch).map fun x => wt 7 19 x + 1).sum ≤ _
    have : ∀ z : S, ((z.map ch).map fun x => wt 7 19 x + 1).sum = 2 * z.length := fun z => by
      induction z with
      | nil => rfl
      | cons c z ih =>
        rw [List.map_cons, List.map_cons, List.sum_cons, ih, List.length_cons]
        show wt 7 19 (.str [c]) + 1 + _ = _
        rw [wt_str, List.length_singleton]
        omega
    rw [this]
    omega
theorem case_ok {f : Nat → Nat} {a : S} {Q : PV → Prop} (h : a.length ≤ 5592405) : OpQ (caseP f (.str a) []) Q = Q (.str (a.map f)) := by
  have e : caseP f (.str a) [] = some (.str (a.map f)) := if_pos h
  rw [e]
  rfl
theorem caps_asc {z : S} (h : ∀ c ∈ z, c ∈ cCAPS) : Asc z := by
  have : ∀ c ∈ cCAPS, c < 128 := by decide +kernel
  exact fun c hc => this c (h c hc)
theorem small_asc {z : S} (h : ∀ c ∈ z, c ∈ cSMALL) : Asc z := by
  have : ∀ c ∈ cSMALL, c < 128 := by decide +kernel
  exact fun c hc => this c (h c hc)
theorem sum_le {α : Type} (f : α → Nat) (k : Nat) : ∀ xs : List α, (∀ x ∈ xs, f x ≤ k) → (xs.map f).sum ≤ xs.length * k
  | [], _ => by simp
  | x :: xs, h => by
    have a := h x (List.mem_cons_self ..)
    have b := sum_le f k xs fun y hy => h y (List.mem_cons_of_mem _ hy)
    rw [List.map_cons, List.sum_cons, List.length_cons, Nat.succ_mul]
    omega
theorem ok_tup1 {z : S} (h : Asc z) (hl : z.length ≤ 1000) : Ok (.tup [.str z]) := by
  have h2 : sm 7 19 (.str z) = true := sm_str h
  have h3 : wt 7 19 (.str z) = z.length := wt_str
  constructor
  · show (sm 7 19 (.str z) && true) = true
    simp [h2]
  · show (wt 7 19 (.str z) + 1 + 0) ≤ 300000
    omega

variable {obs : List Ob}
theorem pat_sub {nm z : S} (hn : nm.length = 7) (hc : ∀ c ∈ nm, c ∈ cCAPS) (h1 : 1 ≤ z.length) (h2 : z.length ≤ 20) (hz : ∀ c ∈ z, c ∈ nm) : Pat z where
  ne := h1
  le := h2
  cap := fun c h => hc c (hz c h)
  few := by
    have := nodup_le (nodup_dedup z) fun c h => hz c (mem_dedup.mp h)
    omega
theorem names_ok : ∀ v ∈ ([.str s_ABCDEFG, .str s_GFEDCBA, .str s_XAZBYCQ, .str s_MNOPQRS] : List PV), ∃ nm : S, v = .str nm ∧ nm.length = 7 ∧ ∀ c ∈ nm, c ∈ cCAPS := by
  intro v hv
  simp only [List.mem_cons, List.not_mem_nil, or_false] at hv
  rcases hv with rfl | rfl | rfl | rfl <;> exact ⟨_, rfl, by decide, by decide⟩
theorem lpat_ok {d n : Nat} {hp : List Ob} {most : Int} {E : PV → List Ob → Prop} (hd : 4 ≤ d) (hp0 : Pen (n + 60) obs hp) (h0 : 1 ≤ most) (h1 : most ≤ 20) : WpC (G T d 10 [.obj 0, .int most, .int 7] hp) (fun v b hp' => ∃ z : S, v = .str z ∧ Pat z ∧ Pen n obs hp') E := by
  obtain ⟨d, rfl⟩ : ∃ e, d = e + 1 := ⟨d - 1, by omega⟩
  refine wpC_fn (F := F__law_pattern) rfl rfl ?_
  show Wp (b__law_pattern (G T d)) _ _ ⟨[.sh (.obj 0), .sh (.int most), .sh (.int 7), .un, .un, .un, .un, .un, .un, .un, .un, .un], hp⟩
  unfold b__law_pattern
  refine wp_seq' (fun s => ∃ (nm : S) (hp' : List Ob), (nm.length = 7 ∧ ∀ c ∈ nm, c ∈ cCAPS) ∧ s = ⟨[.sh (.obj 0), .sh (.int most), .sh (.int 7), .sh (.str nm), .un, .un, .un, .un, .un, .un, .un, .un], hp'⟩ ∧ Pen (n + 59) obs hp') ?_ ?_
  · simp only [↓wp_gAsg, ↓wp_fCut, ↓wp_fLoc, ↓wp_fCall, ↓wp_fCons, ↓wp_fVar, ↓wp_pure, ↓slQ_zero, ↓slQ_succ, ↓wp_fNil, ↓wp_fLst, lenOk_iff, sizeLine_val]
    refine ⟨by simp, ?_⟩
    refine wpC_imp (one_ok (n := n + 59) (E := fun _ _ => False) (by omega) hp0 (by simp) (by simp)) (fun v b hp3 q => ?_) fun _ _ q => q.elim
    obtain ⟨hv, _, pen3⟩ := q
    obtain ⟨nm, rfl, n1, n2⟩ := names_ok v hv
    have c1 : cut nm none (some 7) = nm := by rw [cut_to (by omega)]; exact List.take_of_length_le (by rw [n1]; decide)
    simp only [↓wp_fNone, ↓wp_fSome, ↓wp_fVar, ↓slQ_zero, ↓slQ_succ, ↓opQ_rdval, ↓cutP_str, c1, ↓uName_eq, ↓setQ_some, List.set_cons_succ, List.set_cons_zero]
    exact ⟨trivial, nm, hp3, ⟨n1, n2⟩, rfl, pen3⟩
  rintro s' ⟨nm, hp1, ⟨n1, n2⟩, rfl, pen1⟩
  have nne : nm ≠ [] := by intro h; rw [h] at n1; cases n1
  refine wp_seq' (fun s => ∃ (size : Nat) (so : Int) (hp' : List Ob), (1 ≤ size ∧ size ≤ 20) ∧ s = ⟨[.sh (.obj 0), .sh (.int most), .sh (.int 7), .sh (.str nm), .un, .un, .un, .un, .sh (.int size), .sh (.int so), .un, .un], hp'⟩ ∧ Pen (n + 50) obs hp') ?_ ?_
  · simp only [↓wp_gPar, ↓wp_fCons, ↓wp_fOp2, ↓wp_fLoc, ↓wp_pure, ↓wp_fCall, ↓wp_fVar, ↓slQ_zero, ↓slQ_succ, ↓wp_fNil]
    refine wpC_imp (take_ok (n := n + 58) (E := fun _ _ => False) (by omega) pen1 (by omega) (by omega)) (fun v b hp4 q => ?_) fun _ _ q => q.elim
    obtain ⟨t, rfl, t0, t1, pen4⟩ := q
    simp only [↓opQ_rdval, ↓addP_int]
    refine wpC_imp (take_ok (n := n + 50) (E := fun _ _ => False) (by omega) (pen4.mono (by omega)) (by omega) (by omega)) (fun v b hp5 q => ?_) fun _ _ q => q.elim
    obtain ⟨so, rfl, _, _, pen5⟩ := q
    obtain ⟨sz, hsz⟩ : ∃ sz : Nat, 1 + t = (sz : Int) := ⟨(1 + t).toNat, by omega⟩
    rw [hsz]
    simp only [List.set_cons_succ, List.set_cons_zero]
    exact ⟨trivial, sz, so, hp5, ⟨by omega, by omega⟩, rfl, pen5⟩
  rintro s' ⟨size, so, hp2, ⟨sz1, sz2⟩, rfl, pen2⟩
  rw [wp_gSeq]
  simp only [↓wp_gIf, ↓wp_asB, ↓wp_fOp2, ↓wp_fAt, ↓slQ_zero, ↓slQ_succ, ↓wp_fLoc, ↓wp_pure, ↓opQ_rdat, ↓opQ_rdval, ↓eqP_int]
  by_cases h : so = 0
  · rw [decide_eq_true h, if_pos rfl]
    simp only [↓wp_gRet, ↓wp_fMeth, ↓wp_fLoc, ↓wp_pure, ↓opQ_rdval, ↓wp_fOCons]
    refine ⟨⟨rfl, rfl⟩, ?_⟩
    refine wp_compG (fun (k : Nat) => PV.int k) ?_
    simp only [↓wp_fRng1, ↓wp_fCons, ↓wp_fVar, ↓slQ_zero, ↓slQ_succ, ↓wp_fNil]
    have hrl : (rng1 (size : Int)) = (List.range size).map fun (k : Nat) => PV.int k := rng_map size
    refine ⟨inR_small (by omega) (by omega), rfl, List.range size, fun done acc s => ∃ (w : S) (hp' : List Ob) (y : Slot), acc = w.map ch ∧ w.length = done.length ∧ (∀ c ∈ w, c ∈ nm) ∧ s = ⟨[.sh (.obj 0), .sh (.int most), .sh (.int 7), .sh (.str nm), .un, .un, .un, .un, .sh (.int size), .sh (.int so), .un, y], hp'⟩ ∧ Pen (n + (size - done.length)) obs hp', hrl,
      ⟨[], hp2, .un, rfl, rfl, by simp, rfl, pen2.mono (by simp; omega)⟩, ?_, ?_⟩
    · rintro done x rest acc s hzs ⟨w, hp', y, rfl, hl, hw, rfl, pen⟩
      have hdl : done.length < size := by
        have := congrArg List.length hzs
        simp at this
        omega
      simp only [wipeS, ↓uName_eq, ↓setQ_some, List.set_cons_succ, List.set_cons_zero, ↓wp_fCall, ↓wp_fCons, ↓wp_fVar, ↓slQ_zero, ↓slQ_succ, ↓wp_fNil]
      refine wpC_imp (oneS_ok (n := n + (size - (done.length + 1))) (E := fun _ _ => False) (by omega) (pen.mono (by omega)) nne (by omega)) (fun v b hp4 q => ?_) fun _ _ q => q.elim
      obtain ⟨⟨c, hc, rfl⟩, _, pen4⟩ := q
      refine ⟨w ++ [c], hp4, _, by simp, by simp [hl], fun b hb => ?_, rfl, pen4.mono (by simp)⟩
      rcases List.mem_append.mp hb with h | h
      · exact hw b h
      · rw [List.mem_singleton.mp h]; exact hc
    · rintro acc s ⟨w, hp', y, rfl, hl, hw, rfl, pen⟩
      rw [List.length_range] at hl
      refine ⟨lenOk_of (by rw [List.length_map, sizeLine_val]; omega), ?_⟩
      have g : ∀ Q : PV → Prop, OpQ (joinP (.str []) [.lst (w.map ch)]) Q = Q (.str w) := fun Q => join_ch (by omega)
      simp only [↓wp_fONil, ↓opQ_rdval, ↓lsQ_cons, ↓lsQ_nil, g]
      exact ⟨w, rfl, pat_sub n1 n2 (by omega) (by omega) hw, pen.mono (by omega)⟩
  rw [decide_eq_false h, if_neg Bool.false_ne_true]
  simp only [wp_gNx]
  refine wp_seq ⟨[.sh (.obj 0), .sh (.int most), .sh (.int 7), .sh (.str nm), .sh (.str []), .un, .un, .un, .sh (.int size), .sh (.int so), .un, .un], hp2⟩ (by simp) ?_
  refine wp_seq' (fun s => ∃ (st : S) (y : Slot) (hp' : List Ob), (1 ≤ st.length ∧ st.length ≤ 127 ∧ ∀ c ∈ st, c ∈ nm) ∧ s = ⟨[.sh (.obj 0), .sh (.int most), .sh (.int 7), .sh (.str nm), .sh (.str st), y, .un, .un, .sh (.int size), .sh (.int so), .un, .un], hp'⟩ ∧ Pen (n + 40) obs hp') ?_ ?_
  · simp only [↓wp_gFor, ↓wp_fSeq, ↓wp_fCut, ↓wp_fAt, ↓slQ_zero, ↓slQ_succ, ↓wp_fNone, ↓wp_fSome, ↓wp_fOp2, ↓wp_fLoc, ↓wp_pure, ↓wp_fCall, ↓wp_fCons, ↓wp_fVar, ↓wp_fB, ↓wp_fOCons, ↓wp_fONil, ↓lsQ_cons, ↓lsQ_nil, ↓opQ_rdat, ↓lenP_str, ↓wp_fNil]
    refine wpC_imp (take_ok (n := n + 40) (E := fun _ _ => False) (by omega) (pen2.mono (by omega)) (by omega) (by omega)) (fun v b hp4 q => ?_) fun _ _ q => q.elim
    obtain ⟨t, rfl, t0, t1, pen4⟩ := q
    obtain ⟨k, hk⟩ : ∃ k : Nat, 1 + t = (k : Int) := ⟨(1 + t).toNat, by omega⟩
    have c1 : cut nm none (some (k : Int)) = nm.take k := by rw [cut_to (by omega)]; rfl
    simp only [↓opQ_rdval, ↓addP_int, hk, ↓opQ_rdat, ↓slQ_zero, ↓slQ_succ, ↓cutP_str, c1]
    refine wp_loopG (zs := nm.take k) ch (fun done s => (∃ r, nm.take k = done ++ r) ∧ ∃ (st : S) (y : Slot), (st.length + 1 = 2 ^ done.length ∧ ∀ c ∈ st, c ∈ nm) ∧ s = ⟨[.sh (.obj 0), .sh (.int most), .sh (.int 7), .sh (.str nm), .sh (.str st), y, .un, .un, .sh (.int size), .sh (.int so), .un, .un], hp4⟩) rfl ⟨⟨_, rfl⟩, [], .un, ⟨rfl, by simp⟩, rfl⟩ ?_ ?_
    · rintro done c rest s hzs ⟨_, st, y, ⟨l1, l2⟩, rfl⟩
      have hdl : done.length < 7 := by
        have := congrArg List.length hzs
        rw [List.length_take, List.length_append, List.length_cons] at this
        omega
      have h64 : 2 ^ done.length ≤ 2 ^ 6 := Nat.pow_le_pow_right (by omega) (by omega)
      have hcm : c ∈ nm := by
        have : c ∈ nm.take k := by rw [hzs]; simp
        exact List.mem_of_mem_take this
      have ea : ∀ (a : S) (c : Nat) (Q : PV → Prop), OpQ (addP (.str a) (ch c)) Q ↔ a.length + [c].length ≤ sizeLine ∧ Q (.str (a ++ [c])) := fun a c Q => addP_str
      simp only [↓uName_eq, ↓setQ_some, List.set_cons_succ, List.set_cons_zero, ↓wp_gAsg, ↓wp_fOp2, ↓wp_fLoc, ↓wp_fAt, ↓slQ_zero, ↓slQ_succ, ↓opQ_rdat, ↓opQ_rdval, ea, ↓addP_str, sizeLine_val, List.length_append, List.length_singleton]
      refine ⟨by omega, by omega, ⟨rest, by simpa using hzs⟩, _, _, ⟨?_, fun b hb => ?_⟩, rfl⟩
      · rw [Nat.pow_succ, List.length_append, List.length_append, List.length_singleton]
        omega
      · rcases List.mem_append.mp hb with hb | hb
        · rcases List.mem_append.mp hb with hb | hb
          · exact l2 b hb
          · rw [List.mem_singleton.mp hb]; exact hcm
        · exact l2 b hb
    · rintro s ⟨_, st, y, ⟨l1, l2⟩, rfl⟩
      have hk7 : (nm.take k).length = k := by rw [List.length_take]; omega
      rw [hk7] at l1
      have h2 : 2 ^ 1 ≤ 2 ^ k := Nat.pow_le_pow_right (by omega) (by omega)
      have h128 : 2 ^ k ≤ 2 ^ 7 := Nat.pow_le_pow_right (by omega) (by omega)
      exact ⟨rfl, st, y, hp4, ⟨by omega, by omega, l2⟩, rfl, pen4⟩
  rintro s' ⟨st, y, hp3, ⟨st1, st2, st3⟩, rfl, pen3⟩
  refine wp_seq' (fun s => ∃ (a : Int) (hp' : List Ob), (0 ≤ a ∧ a < st.length) ∧ s = ⟨[.sh (.obj 0), .sh (.int most), .sh (.int 7), .sh (.str nm), .sh (.str st), y, .sh (.int a), .un, .sh (.int size), .sh (.int so), .un, .un], hp'⟩ ∧ Pen (n + 30) obs hp') ?_ ?_
  · simp only [↓wp_gAsg, ↓wp_fCall, ↓wp_fCons, ↓wp_fVar, ↓slQ_zero, ↓slQ_succ, ↓wp_fB, ↓wp_fOCons, ↓wp_fAt, ↓wp_fONil, ↓lsQ_cons, ↓lsQ_nil, ↓opQ_rdat, ↓lenP_str, ↓wp_fNil]
    refine wpC_imp (take_ok (n := n + 30) (E := fun _ _ => False) (by omega) (pen3.mono (by omega)) (by omega) (by omega)) (fun v b hp4 q => ?_) fun _ _ q => q.elim
    obtain ⟨a, rfl, a0, a1, pen4⟩ := q
    simp only [↓uName_eq, ↓setQ_some, List.set_cons_succ, List.set_cons_zero]
    exact ⟨trivial, a, hp4, ⟨a0, a1⟩, rfl, pen4⟩
  rintro s' ⟨a, hp4, ⟨a0, a1⟩, rfl, pen4⟩
  have c2 : cut st (some a) (some (a + size)) = (st.drop a.toNat).take size := by
    rw [cut_mid a0 (by omega)]
    congr 1
    omega
  obtain ⟨w, hw⟩ : ∃ w, w = (st.drop a.toNat).take size := ⟨_, rfl⟩
  have w1 : 1 ≤ w.length ∧ w.length ≤ 20 := by rw [hw, List.length_take, List.length_drop]; omega
  have w2 : ∀ c ∈ w, c ∈ nm := fun c hc => st3 c (by rw [hw] at hc; exact List.mem_of_mem_drop (List.mem_of_mem_take hc))
  refine wp_seq ⟨[.sh (.obj 0), .sh (.int most), .sh (.int 7), .sh (.str nm), .sh (.str st), y, .sh (.int a), .sh (.str w), .sh (.int size), .sh (.int so), .un, .un], hp4⟩ ?_ ?_
  · simp only [↓wp_gAsg, ↓wp_fCut, ↓wp_fAt, ↓slQ_zero, ↓slQ_succ, ↓wp_fSome, ↓wp_fVar, ↓wp_fOp2, ↓opQ_rdat, ↓addP_int, ↓cutP_str, c2, ← hw, ↓uName_eq, ↓setQ_some, List.set_cons_succ, List.set_cons_zero]
    exact ⟨trivial, trivial⟩
  refine wp_seq' (fun s => ∃ (v : S) (y10 : Slot) (hp' : List Ob), ((1 ≤ v.length ∧ v.length ≤ 20) ∧ ∀ c ∈ v, c ∈ nm) ∧ s = ⟨[.sh (.obj 0), .sh (.int most), .sh (.int 7), .sh (.str nm), .sh (.str st), y, .sh (.int a), .sh (.str v), .sh (.int size), .sh (.int so), y10, .un], hp'⟩ ∧ Pen n obs hp') ?_ ?_
  · simp only [↓wp_gIf, ↓wp_asB, ↓wp_fOp2, ↓wp_fAt, ↓slQ_zero, ↓slQ_succ, ↓wp_fLoc, ↓wp_pure, ↓opQ_rdat, ↓opQ_rdval, ↓eqP_int]
    by_cases h3 : so = 3
    · rw [decide_eq_true h3, if_pos rfl]
      simp only [↓wp_gSeq, ↓wp_gAsg, ↓wp_fCall, ↓wp_fCons, ↓wp_fVar, ↓slQ_zero, ↓slQ_succ, ↓wp_fB, ↓wp_fOCons, ↓wp_fAt, ↓wp_fONil, ↓lsQ_cons, ↓lsQ_nil, ↓opQ_rdat, ↓lenP_str, ↓wp_fNil]
      refine wpC_imp (take_ok (n := n + 20) (E := fun _ _ => False) (by omega) (pen4.mono (by omega)) (by omega) (by omega)) (fun v b hp5 q => ?_) fun _ _ q => q.elim
      obtain ⟨e, rfl, e0, e1, pen5⟩ := q
      have c3 : cut w none (some e) = w.take e.toNat := cut_to e0
      have c4 : cut w (some (e + 1)) none = w.drop (e + 1).toNat := cut_from (by omega)
      simp only [↓uName_eq, ↓setQ_some, List.set_cons_succ, List.set_cons_zero, ↓wp_fOp2, ↓wp_fLoc, ↓wp_fCut, ↓wp_fAt, ↓slQ_zero, ↓slQ_succ, ↓wp_fNone, ↓wp_fSome, ↓wp_fVar, ↓opQ_rdat, ↓cutP_str, c3, ↓wp_fCall, ↓wp_fCons, ↓wp_fNil]
      refine wpC_imp (oneS_ok (n := n) (E := fun _ _ => False) (by omega) (pen5.mono (by omega)) nne (by omega)) (fun v b hp6 q => ?_) fun _ _ q => q.elim
      obtain ⟨⟨c, hc, rfl⟩, _, pen6⟩ := q
      have ea : ∀ (a : S) (c : Nat) (Q : PV → Prop), OpQ (addP (.str a) (ch c)) Q ↔ a.length + [c].length ≤ sizeLine ∧ Q (.str (a ++ [c])) := fun a c Q => addP_str
      simp only [↓opQ_rdval, ea, ↓wp_pure, ↓addP_int, ↓cutP_str, c4, ↓addP_str, sizeLine_val, ↓uName_eq, ↓setQ_some, List.set_cons_succ, List.set_cons_zero]
      have k1 : (w.take e.toNat).length = e.toNat := by rw [List.length_take]; omega
      have k2 : (w.drop (e + 1).toNat).length = w.length - (e + 1).toNat := List.length_drop
      refine ⟨by rw [List.length_singleton]; omega, ?_⟩
      simp only [↓opQ_rdat, ↓slQ_zero, ↓slQ_succ, ↓addP_int, ↓cutP_str, c4, ↓addP_str, sizeLine_val, ↓uName_eq, ↓setQ_some, List.set_cons_succ, List.set_cons_zero]
      refine ⟨by rw [List.length_append, List.length_singleton]; omega, trivial, _, _, hp6, ⟨⟨?_, ?_⟩, fun b hb => ?_⟩, rfl, pen6⟩
      · rw [List.length_append, List.length_append, List.length_singleton]; omega
      · rw [List.length_append, List.length_append, List.length_singleton]; omega
      · rcases List.mem_append.mp hb with hb | hb
        · rcases List.mem_append.mp hb with hb | hb
          · exact w2 b (List.mem_of_mem_take hb)
          · rw [List.mem_singleton.mp hb]; exact hc
        · exact w2 b (List.mem_of_mem_drop hb)
    · rw [decide_eq_false h3, if_neg Bool.false_ne_true]
      simp only [wp_gNx]
      exact ⟨trivial, w, _, hp4, ⟨w1, w2⟩, rfl, pen4.mono (by omega)⟩
  rintro s' ⟨v, y10, hp5, ⟨v1, v2⟩, rfl, pen5⟩
  simp
  exact ⟨pat_sub n1 n2 v1.1 v1.2 v2, pen5⟩
end Mi
end S_J6
section S_J7
set_option Elab.async false
set_option linter.all false
set_option maxRecDepth 100000
set_option maxHeartbeats 4000000
namespace Mi
open PySem PySem.Spec PyProof.Rows L2
variable {obs : List Ob}
theorem patB_bad {w : S} {c : Nat} (hc : c ∈ w) (h : c ∉ cCAPS) : patB (.str w) = false := by
  cases e : patB (.str w) with
  | false => rfl
  | true =>
    obtain ⟨z, e2, hz⟩ := patB_str e
    cases e2
    exact absurd (hz.cap c hc) h
def Bad (v : PV) : Prop := patB v = false ∧ Ok v
theorem lo_caps : ∀ c ∈ cCAPS, lo1 c ∉ cCAPS := by decide +kernel
theorem bent_ok : ∀ v ∈ ([.str [32], .str [97], .str [49], .str [45], .str [91], .str [64]] : List PV), ∃ c : Nat, v = .str [c] ∧ c ∉ cCAPS ∧ c < 128 := by
  intro v hv
  simp only [List.mem_cons, List.not_mem_nil, or_false] at hv
  rcases hv with rfl | rfl | rfl | rfl | rfl | rfl <;> exact ⟨_, rfl, by decide, by decide⟩
theorem bad_ok {d n : Nat} {z : S} {hp : List Ob} {E : PV → List Ob → Prop} (hd : 4 ≤ d) (hz : Pat z) (hp0 : Pen (n + 10) obs hp) : WpC (G T d 161 [.obj 0, .str z] hp) (fun v b hp' => Bad v ∧ Pen n obs hp') E := by
  obtain ⟨d, rfl⟩ : ∃ e, d = e + 1 := ⟨d - 1, by omega⟩
  have hne := hz.ne
  have hle := hz.le
  have az := caps_asc hz.cap
  refine wpC_fn (F := F__law_bad_pattern) rfl rfl ?_
  show Wp (b__law_bad_pattern (G T d)) _ _ ⟨[.sh (.obj 0), .sh (.str z), .un, .un, .un], hp⟩
  unfold b__law_bad_pattern
  refine wp_seq' (fun s => ∃ (e : Int) (hp' : List Ob), 0 ≤ e ∧ s = ⟨[.sh (.obj 0), .sh (.str z), .sh (.int e), .un, .un], hp'⟩ ∧ Pen (n + 9) obs hp') ?_ ?_
  · simp only [↓wp_gAsg, ↓wp_fCall, ↓wp_fCons, ↓wp_fVar, ↓wp_pure, ↓slQ_zero, ↓slQ_succ, ↓wp_fNil, ↓wp_fOp2, ↓wp_fLoc, ↓wp_fB, ↓wp_fOCons, ↓wp_fAt, ↓wp_fONil, ↓lsQ_cons, ↓lsQ_nil, ↓opQ_rdat, ↓lenP_str, ↓opQ_rdval, ↓addP_int]
    refine wpC_imp (take_ok (n := n + 9) (E := fun _ _ => False) (by omega) hp0 (by omega) (by omega)) (fun v b hp4 q => ?_) fun _ _ q => q.elim
    obtain ⟨e, rfl, e0, e1, pen4⟩ := q
    simp only [↓uName_eq, ↓setQ_some, List.set_cons_succ, List.set_cons_zero]
    exact ⟨trivial, e, hp4, e0, rfl, pen4⟩
  rintro s' ⟨e, hp1, e0, rfl, pen1⟩
  have c3 : cut z none (some e) = z.take e.toNat := cut_to e0
  have c4 : cut z (some (e + 1)) none = z.drop (e + 1).toNat := cut_from (by omega)
  have t1 : (z.take e.toNat).length ≤ 20 := by rw [List.length_take]; omega
  have t2 : (z.drop (e + 1).toNat).length ≤ 20 := by rw [List.length_drop]; omega
  refine wp_seq' (fun s => ∃ (c : Nat) (hp' : List Ob), (c ∉ cCAPS ∧ c < 128) ∧ s = ⟨[.sh (.obj 0), .sh (.str z), .sh (.int e), .sh (.str (z.take e.toNat ++ [c] ++ z.drop (e + 1).toNat)), .un], hp'⟩ ∧ Pen (n + 8) obs hp') ?_ ?_
  · simp only [↓wp_gAsg, ↓wp_fOp2, ↓wp_fLoc, ↓wp_fCut, ↓wp_fAt, ↓slQ_zero, ↓slQ_succ, ↓wp_fNone, ↓wp_fSome, ↓wp_fVar, ↓opQ_rdat, ↓cutP_str, c3, ↓wp_fCall, ↓wp_fCons, ↓wp_fLst, ↓wp_pure, ↓wp_fNil, lenOk_iff, sizeLine_val]
    refine ⟨by simp, ?_⟩
    refine wpC_imp (one_ok (n := n + 8) (E := fun _ _ => False) (by omega) pen1 (by simp) (by simp)) (fun v b hp5 q => ?_) fun _ _ q => q.elim
    obtain ⟨hv, _, pen5⟩ := q
    obtain ⟨c, rfl, hc1, hc2⟩ := bent_ok v hv
    simp only [↓opQ_rdval, ↓addP_str, sizeLine_val]
    refine ⟨by rw [List.length_singleton]; omega, ?_⟩
    simp only [↓opQ_rdat, ↓slQ_zero, ↓slQ_succ, ↓addP_int, ↓cutP_str, c4, ↓addP_str, sizeLine_val, ↓uName_eq, ↓setQ_some, List.set_cons_succ, List.set_cons_zero]
    exact ⟨by rw [List.length_append, List.length_singleton]; omega, trivial, c, hp5, ⟨hc1, hc2⟩, rfl, pen5⟩
  rintro s' ⟨c, hp2, ⟨hc1, hc2⟩, rfl, pen2⟩
  have ec : ∀ Q : PV → Prop, OpQ (caseP lo1 (.str z) []) Q = Q (.str (z.map lo1)) := fun Q => case_ok (by omega)
  have el : listP' [.str z] = some (.lst (z.map ch)) := rfl
  obtain ⟨c0, hc0⟩ := List.exists_mem_of_ne_nil z (by intro h; rw [h] at hne; simp at hne)
  have one : ∀ c : Nat, c < 128 → Asc [c] := fun c hc b hb => by rw [List.mem_singleton.mp hb]; exact hc
  have bent : Bad (.str (z.take e.toNat ++ [c] ++ z.drop (e + 1).toNat)) := ⟨patB_bad (c := c) (by simp) hc1, ok_str (((az.take _).app (one c hc2)).app (az.drop _)) (by rw [List.length_append, List.length_append, List.length_singleton]; omega)⟩
  refine wp_seq' (fun s => ∃ vs : List PV, ((∀ v ∈ vs, Bad v) ∧ vs.length = 10) ∧ s = ⟨[.sh (.obj 0), .sh (.str z), .sh (.int e), .sh (.str (z.take e.toNat ++ [c] ++ z.drop (e + 1).toNat)), .ow (.lst vs)], hp2⟩) ?_ ?_
  · simp only [↓wp_gOwn, ↓wp_fLst, ↓wp_fCons, ↓wp_pure, ↓wp_fNil, lenOk_iff, sizeLine_val, ↓wp_fVar, ↓slQ_zero, ↓slQ_succ, ↓wp_fOp2, ↓wp_fLoc, ↓wp_fAt, ↓opQ_rdat, ↓opQ_rdval, ↓addP_str, ↓wp_fTup, ↓wp_fMeth, ↓wp_fONil, ↓lsQ_nil, ↓wp_fB, ↓wp_fOCons, ↓lsQ_cons, el, opQ_some, ec, List.set_cons_succ, List.set_cons_zero]
    refine ⟨⟨rfl, rfl⟩, by rw [List.length_singleton]; omega, by rw [List.length_singleton]; omega, by simp, by simp, by simp, trivial, _, ⟨?_, rfl⟩, rfl⟩
    intro v hv
    simp only [List.mem_cons, List.not_mem_nil, or_false] at hv
    rcases hv with rfl | rfl | rfl | rfl | rfl | rfl | rfl | rfl | rfl | rfl
    · exact ⟨rfl, by decide, by decide⟩
    · exact ⟨patB_bad (List.mem_map_of_mem hc0) (lo_caps c0 (hz.cap c0 hc0)), ok_str az.lo (by rw [List.length_map]; omega)⟩
    · exact ⟨patB_bad (c := 97) (by simp) (by decide), ok_str (az.app (one 97 (by decide))) (by rw [List.length_append, List.length_singleton]; omega)⟩
    · exact ⟨patB_bad (c := 32) (by simp) (by decide), ok_str ((one 32 (by decide)).app az) (by rw [List.length_append, List.length_singleton]; omega)⟩
    · exact ⟨rfl, by decide, by decide⟩
    · exact ⟨rfl, by decide, by decide⟩
    · exact ⟨rfl, by decide, by decide⟩
    · exact ⟨rfl, ok_tup1 az (by omega)⟩
    · refine ⟨rfl, ?_⟩
      have h2 : sm 7 19 (.str z) = true := sm_str az
      have h3 : wt 7 19 (.str z) = z.length := wt_str
      constructor
      · show (sm 7 19 (.str z) && true) = true
        simp [h2]
      · show (wt 7 19 (.str z) + 1 + 0) ≤ 300000
        omega
    · exact ⟨rfl, ok_chs az (by omega)⟩
  rintro s' ⟨vs, ⟨hvs, hvl⟩, rfl⟩
  simp only [↓wp_gRetCall, ↓wp_fCons, ↓wp_fVar, ↓slQ_zero, ↓slQ_succ, ↓wp_fOp2, ↓wp_fAt, ↓wp_fLoc, ↓wp_fLst, ↓wp_pure, ↓opQ_rdat, ↓opQ_rdval, ↓mulP_str, ↓addP_str, ↓wp_fNil, lenOk_iff, sizeLine_val, ↓addP_lst]
  refine ⟨⟨by decide, by decide, by simp⟩, by rw [List.length_singleton]; omega, by simp, by simp [hvl], ?_⟩
  refine wpC_imp (one_ok (n := n) (E := fun _ _ => False) (by omega) (pen2.mono (by omega)) (by simp) (by simp [hvl])) (fun v b hp5 q => ?_) fun _ _ q => q.elim
  obtain ⟨hv, _, pen5⟩ := q
  refine ⟨?_, pen5⟩
  simp only [List.mem_append, List.mem_cons, List.not_mem_nil, or_false] at hv
  rcases hv with hv | rfl | rfl | rfl | rfl | rfl | rfl
  · exact hvs v hv
  · exact bent
  · exact bent
  · exact ⟨by decide +kernel, ok_str (caps_asc (by decide)) (by decide)⟩
  · refine ⟨by decide +kernel, ok_str (asc_rep (by decide)) (by rw [repS_len]; decide)⟩
  · exact ⟨patB_bad (c := 49) (by simp) (by decide), ok_str (az.app (one 49 (by decide))) (by rw [List.length_append, List.length_singleton]; omega)⟩
  · exact ⟨by decide +kernel, by decide +kernel, by decide +kernel⟩
theorem list_ok {z : S} {cs : List Cm} (hz : Pat z) (P : Parts (adjP z) (dedup z) cs) (hl : cs.length ≤ 14) : Ok (.lst (srt ((cs.map canon).map cmV))) := by
  have hm : ∀ x ∈ srt ((cs.map canon).map cmV), ∃ c ∈ cs, x = cmV (canon c) := fun x hx => by
    have := (srt_perm _).mem_iff.mp hx
    rw [List.map_map] at this
    obtain ⟨c, hc, rfl⟩ := List.mem_map.mp this
    exact ⟨c, hc, rfl⟩
  have hf := hz.few
  have hlen : (srt ((cs.map canon).map cmV)).length = cs.length := by rw [(srt_perm _).length_eq, List.length_map, List.length_map]
  have asc1 : ∀ c ∈ cs, Asc (isort c.1) := fun c hc => caps_asc fun l hl => hz.cap l (mem_dedup.mp (P.in1 c hc l (isort_mem.mp hl)))
  have asc2 : ∀ c ∈ cs, Asc (isort c.2) := fun c hc => caps_asc fun l hl => hz.cap l (mem_dedup.mp (P.in2 c hc l (isort_mem.mp hl)))
  have few := parts_few P (by omega)
  constructor
  · show (srt ((cs.map canon).map cmV)).all (sm 7 19) = true
    rw [List.all_eq_true]
    intro x hx
    obtain ⟨c, hc, rfl⟩ := hm x hx
    show (sm 7 18 (.str (isort c.1)) && (sm 7 18 (.str (isort c.2)) && true)) = true
    rw [sm_str (asc1 c hc), sm_str (asc2 c hc)]
    rfl
  · show ((srt ((cs.map canon).map cmV)).map fun x => wt 7 19 x + 1).sum ≤ _
    have := sum_le (fun x => wt 7 19 x + 1) 300 (srt ((cs.map canon).map cmV)) fun x hx => by
      obtain ⟨c, hc, rfl⟩ := hm x hx
      have h1 : (isort c.1).length = c.1.length := (isort_perm _).length_eq
      have h2 : (isort c.2).length = c.2.length := (isort_perm _).length_eq
      have h3 := few c hc
      have w1 : wt 7 18 (.str (isort c.1)) = (isort c.1).length := wt_str
      have w2 : wt 7 18 (.str (isort c.2)) = (isort c.2).length := wt_str
      show (wt 7 18 (.str (isort c.1)) + 1 + (wt 7 18 (.str (isort c.2)) + 1 + 0)) + 1 ≤ 300
      omega
    rw [hlen] at this
    omega
end Mi
end S_J7
section S_Fr
set_option Elab.async false
set_option linter.all false
set_option maxRecDepth 100000
set_option maxHeartbeats 4000000
namespace Mi
open PySem PySem.Spec PyProof.Rows L2
theorem snoc_ind {p : S → Prop} (nil : p []) (snoc : ∀ (L : S) (c : Nat), p L → p (L ++ [c])) (L : S) : p L := by
  have h : ∀ M : S, p M.reverse := fun M => by
    induction M with
    | nil => exact nil
    | cons c M ih => rw [List.reverse_cons]; exact snoc _ c ih
  have := h L.reverse
  rwa [List.reverse_reverse] at this
def leKB : PV → PV → Bool := PySem.W.dataLe false kP
theorem leKB_total : PySem.W.TotalLe leKB := PySem.W.sortLe_total (PyProof.Rows.listOrd PyProof.Rows.itemOrd) false fun b => PySem.W.keyToks (kP b)
theorem kP_lt (x y : S) : PySem.W.dataLt (kP (.str x)) (kP (.str y)) = if x.length = y.length then decide (x < y) else decide (x.length < y.length) := by
  unfold kP
  rw [PySem.W.dataLt_pair rfl rfl, PySem.W.dataLt_int, PySem.W.dataLt_str]
  have e1 : ∀ z : S, (strOf z).length = z.length := fun z => by show (strOf z).cps.size = _; simp [strOf]
  have e2 : ∀ z : S, (strOf z).cps.toList = z := fun z => by simp [strOf]
  rw [e1, e1, e2, e2]
  have e3 : PyData.eqv (.int (x.length : Nat)) (.int (y.length : Nat)) = decide (x.length = y.length) := by
    by_cases h : x.length = y.length
    · simp [PyData.eqv, h]
    · simp [PyData.eqv, h]
      exact fun z => h (Int.ofNat.inj z)
  have e4 : PyData.eqv (.str (strOf x)) (.str (strOf y)) = decide (x = y) := by
    by_cases h : x = y
    · subst h; simp [PyData.eqv]
    · have : strOf x ≠ strOf y := fun z => h (strOf_inj.mp z)
      simp [PyData.eqv, h, this]
  rw [e3, e4]
  by_cases h : x.length = y.length
  · rw [if_pos (by simpa using h), if_pos h]
    by_cases g : x = y
    · subst g
      simp
    · simp [g]
  · rw [if_neg (by simpa using h), if_neg h]
    simp
theorem leKB_str (x y : S) : leKB (.str x) (.str y) = !(if y.length = x.length then decide (y < x) else decide (y.length < x.length)) := by
  unfold leKB
  rw [PySem.W.dataLe_eq]
  show (!PySem.W.dataLt (kP (.str y)) (kP (.str x))) = _
  rw [kP_lt]
theorem leKB_len {x y : S} (h : x.length < y.length) : leKB (.str x) (.str y) = true := by
  rw [leKB_str, if_neg (by omega), decide_eq_false (by omega)]
  rfl
theorem leB_strs (x y : S) : leB (.str x) (.str y) = !decide (y < x) := by
  unfold leB ltB
  show (!PySem.W.dataLt (.str (strOf y)) (.str (strOf x))) = _
  rw [PySem.W.dataLt_str]
  have e2 : ∀ z : S, (strOf z).cps.toList = z := fun z => by simp [strOf]
  rw [e2, e2]
theorem leKB_same {x y : S} (h : x.length = y.length) : leKB (.str x) (.str y) = leB (.str x) (.str y) := by
  rw [leKB_str, if_pos h.symm, leB_strs]
theorem leKB_anti {x y : S} (h1 : leKB (.str x) (.str y) = true) (h2 : leKB (.str y) (.str x) = true) : x = y := by
  rw [leKB_str] at h1 h2
  by_cases h : x.length = y.length
  · rw [if_pos h.symm] at h1
    rw [if_pos h] at h2
    have a : ¬ y < x := by simpa using h1
    have b : ¬ x < y := by simpa using h2
    exact List.le_antisymm (List.not_lt.mp a) (List.not_lt.mp b)
  · rw [if_neg (fun z => h z.symm)] at h1
    rw [if_neg h] at h2
    have a : ¬ y.length < x.length := by simpa using h1
    have b : ¬ x.length < y.length := by simpa using h2
    omega
theorem srtK_of {xs ys : List S} (p : ys.Perm xs) (s : (ys.map PV.str).Pairwise fun a b => leKB a b = true) : srtK (xs.map PV.str) = ys.map PV.str := by
  have s2 : (srtK (xs.map PV.str)).Pairwise fun a b => leKB a b = true := PySem.W.sort_pairwise leKB_total _
  have p2 : (srtK (xs.map PV.str)).Perm (xs.map PV.str) := List.mergeSort_perm _ _
  refine List.Perm.eq_of_pairwise (le := fun a b => leKB a b = true) ?_ s2 s (p2.trans (p.map PV.str).symm)
  intro a b ha hb h1 h2
  obtain ⟨c, _, rfl⟩ := List.mem_map.mp (p2.mem_iff.mp ha)
  obtain ⟨d, _, rfl⟩ := List.mem_map.mp hb
  rw [leKB_anti h1 h2]
def powL (L : S) : List S := L.foldl (fun F c => F ++ F.map fun x => x ++ [c]) [[]]
theorem pow_snoc (L : S) (c : Nat) : powL (L ++ [c]) = powL L ++ (powL L).map fun x => x ++ [c] := by
  unfold powL
  rw [List.foldl_append]
  rfl
theorem pow_shape (L : S) : ∃ t : List S, powL L = [] :: t ∧ (∀ x ∈ t, x ≠ []) := by
  induction L using snoc_ind with
  | nil => exact ⟨[], rfl, fun _ h => nomatch h⟩
  | snoc L c ih =>
    obtain ⟨t, e, h⟩ := ih
    refine ⟨t ++ (powL L).map fun x => x ++ [c], by rw [pow_snoc, e]; rfl, fun x hx => ?_⟩
    rcases List.mem_append.mp hx with hx | hx
    · exact h x hx
    · obtain ⟨y, _, rfl⟩ := List.mem_map.mp hx
      simp
theorem pow_len (L : S) : (powL L).length = 2 ^ L.length := by
  induction L using snoc_ind with
  | nil => rfl
  | snoc L c ih =>
    rw [pow_snoc, List.length_append, List.length_map, ih, List.length_append, List.length_singleton, Nat.pow_succ]
    omega
theorem pow_mem {L x : S} : x ∈ powL L ↔ x.Sublist L := by
  induction L using snoc_ind generalizing x with
  | nil => simp [powL]
  | snoc L c ih =>
    rw [pow_snoc, List.mem_append, List.mem_map, List.sublist_append_iff]
    constructor
    · rintro (h | ⟨y, h, rfl⟩)
      · exact ⟨x, [], by simp, ih.mp h, List.nil_sublist _⟩
      · exact ⟨y, [c], rfl, ih.mp h, List.Sublist.refl _⟩
    · rintro ⟨y, z, rfl, h1, h2⟩
      rcases List.sublist_cons_iff.mp h2 with h3 | ⟨r, e, h3⟩
      · rw [List.sublist_nil.mp h3, List.append_nil]
        exact .inl (ih.mpr h1)
      · rw [e, List.sublist_nil.mp h3]
        exact .inr ⟨y, ih.mpr h1, rfl⟩
theorem pow_long {L x : S} (h : x ∈ powL L) : x.length ≤ L.length := (pow_mem.mp h).length_le
end Mi
end S_Fr
section S_Fs
set_option Elab.async false
set_option linter.all false
set_option maxRecDepth 100000
set_option maxHeartbeats 4000000
namespace Mi
open PySem PySem.Spec PyProof.Rows L2
theorem dedup_self_aux : ∀ (z acc : S), (acc ++ z).Nodup → z.foldl (fun acc c => if c ∈ acc then acc else acc ++ [c]) acc = acc ++ z
  | [], acc, _ => by simp
  | c :: z, acc, h => by
    have hc : c ∉ acc := fun hm => by
      rw [List.nodup_append] at h
      exact h.2.2 c hm c (List.mem_cons_self ..) rfl
    rw [List.foldl_cons, if_neg hc, dedup_self_aux z (acc ++ [c]) (by simpa using h)]
    simp
theorem dedup_self {z : S} (h : z.Nodup) : dedup z = z := dedup_self_aux z [] h
theorem all_str {V : List PV} (h : ∀ x ∈ V, ∃ w : S, x = .str w) : V = (V.map unS).map PV.str := by
  rw [List.map_map]
  conv => lhs; rw [← List.map_id V]
  refine List.map_congr_left fun x hx => ?_
  obtain ⟨w, rfl⟩ := h x hx
  rfl
theorem unS_map (xs : List S) : (xs.map PV.str).map unS = xs := by
  rw [List.map_map]
  conv => rhs; rw [← List.map_id xs]
  exact List.map_congr_left fun _ _ => rfl
def setsL (L : S) : List S := (srtK ((powL L).tail.map PV.str)).map unS
theorem srtK_perm (xs : List PV) : (srtK xs).Perm xs := List.mergeSort_perm _ _
theorem setsL_eq (L : S) : srtK ((powL L).tail.map PV.str) = (setsL L).map PV.str := all_str fun x hx => by
  obtain ⟨w, _, rfl⟩ := List.mem_map.mp ((srtK_perm _).mem_iff.mp hx)
  exact ⟨w, rfl⟩
theorem setsL_perm (L : S) : (setsL L).Perm (powL L).tail := by
  have := (srtK_perm ((powL L).tail.map PV.str)).map unS
  rwa [unS_map] at this
theorem setsL_mem {L x : S} : x ∈ setsL L ↔ x ≠ [] ∧ x.Sublist L := by
  rw [(setsL_perm L).mem_iff]
  obtain ⟨t, e, h⟩ := pow_shape L
  rw [e]
  have : x ∈ powL L ↔ x = [] ∨ x ∈ t := by rw [e]; exact List.mem_cons
  rw [pow_mem] at this
  constructor
  · exact fun hx => ⟨h x hx, this.mpr (.inr hx)⟩
  · exact fun ⟨h1, h2⟩ => (this.mp h2).resolve_left h1
theorem setsL_len (L : S) : (setsL L).length ≤ 2 ^ L.length := by
  rw [(setsL_perm L).length_eq, List.length_tail, pow_len]
  exact Nat.sub_le _ _
theorem sok_strs (xs : List S) : sokB (xs.map PV.str) = true := by
  unfold sokB
  rw [Bool.and_eq_true, Bool.and_eq_true, Bool.or_eq_true]
  refine ⟨?_, ?_, .inr ?_⟩
  · rw [List.all_map, List.all_eq_true]
    intro c _
    rfl
  · rw [List.all_map, List.all_eq_true]
    intro c _
    show ((xs.map PV.str).all fun y => PySem.W.alike (pd (.str c)) (pd y)) = true
    rw [List.all_map, List.all_eq_true]
    intro d _
    show PySem.W.alike (.str (strOf c)) (.str (strOf d)) = true
    simp [PySem.W.alike]
  · rw [List.all_map, List.all_eq_true]
    intro c _
    rfl
def levV (L : S) (ks : List Nat) : List PV := (ks.map fun k => srt (((powL L).filter fun x => decide (x.length = k + 1)).map PV.str)).flatten
theorem levV_snoc (L : S) (ks : List Nat) (k : Nat) : levV L (ks ++ [k]) = levV L ks ++ srt (((powL L).filter fun x => decide (x.length = k + 1)).map PV.str) := by
  unfold levV
  rw [List.map_append, List.flatten_append]
  simp
theorem mem_lev {xs : List S} {k : Nat} {v : PV} (h : v ∈ srt ((xs.filter fun x => decide (x.length = k + 1)).map PV.str)) : ∃ w : S, v = .str w ∧ w.length = k + 1 := by
  obtain ⟨w, hw, rfl⟩ := List.mem_map.mp ((srt_perm _).mem_iff.mp h)
  exact ⟨w, rfl, of_decide_eq_true (List.mem_filter.mp hw).2⟩
theorem levV_mem {L : S} {n : Nat} {v : PV} (h : v ∈ levV L (List.range n)) : ∃ w : S, v = .str w ∧ w.length ≤ n := by
  unfold levV at h
  obtain ⟨l, hl, hv⟩ := List.mem_flatten.mp h
  obtain ⟨k, hk, rfl⟩ := List.mem_map.mp hl
  obtain ⟨w, rfl, e⟩ := mem_lev hv
  exact ⟨w, rfl, by have := List.mem_range.mp hk; omega⟩
theorem levV_perm (L : S) : ∀ n, (levV L (List.range n)).Perm (((powL L).filter fun x => decide (1 ≤ x.length ∧ x.length ≤ n)).map PV.str)
  | 0 => by
    have : (powL L).filter (fun x => decide (1 ≤ x.length ∧ x.length ≤ 0)) = [] := by
      rw [List.filter_eq_nil_iff]
      intro x _
      simp only [decide_eq_true_eq]
      omega
    rw [this]
    exact .refl _
  | n + 1 => by
    rw [List.range_succ, levV_snoc]
    have a := levV_perm L n
    have b := srt_perm (((powL L).filter fun x => decide (x.length = n + 1)).map PV.str)
    refine (a.append b).trans ?_
    rw [← List.map_append]
    refine List.Perm.map _ ?_
    have c := List.filter_append_perm (fun x : S => decide (x.length ≤ n)) ((powL L).filter fun x => decide (1 ≤ x.length ∧ x.length ≤ n + 1))
    rw [List.filter_filter, List.filter_filter] at c
    refine List.Perm.trans (List.Perm.of_eq ?_) c
    congr 1
    · refine List.filter_congr fun x _ => ?_
      rw [Bool.eq_iff_iff]
      simp only [Bool.and_eq_true, decide_eq_true_eq, Bool.not_eq_true', decide_eq_false_iff_not]
      omega
    · refine List.filter_congr fun x _ => ?_
      rw [Bool.eq_iff_iff]
      simp only [Bool.and_eq_true, decide_eq_true_eq, Bool.not_eq_true', decide_eq_false_iff_not]
      omega
theorem levV_sorted (L : S) : ∀ n, (levV L (List.range n)).Pairwise fun a b => leKB a b = true
  | 0 => List.Pairwise.nil
  | n + 1 => by
    rw [List.range_succ, levV_snoc, List.pairwise_append]
    refine ⟨levV_sorted L n, ?_, ?_⟩
    · refine List.Pairwise.imp_of_mem (fun {a b} ha hb h => ?_) (srt_sorted _)
      obtain ⟨w, rfl, e1⟩ := mem_lev ha
      obtain ⟨y, rfl, e2⟩ := mem_lev hb
      rw [leKB_same (e1.trans e2.symm)]
      exact h
    · intro a ha b hb
      obtain ⟨w, rfl, e1⟩ := levV_mem ha
      obtain ⟨y, rfl, e2⟩ := mem_lev hb
      exact leKB_len (by omega)
theorem levV_eq (L : S) : levV L (List.range L.length) = (setsL L).map PV.str := by
  have hs : levV L (List.range L.length) = ((levV L (List.range L.length)).map unS).map PV.str := all_str fun x hx => by
    obtain ⟨w, rfl, _⟩ := levV_mem hx
    exact ⟨w, rfl⟩
  have hf : (powL L).filter (fun x => decide (1 ≤ x.length ∧ x.length ≤ L.length)) = (powL L).tail := by
    obtain ⟨t, e, h⟩ := pow_shape L
    have hl : ∀ x ∈ t, x.length ≤ L.length := fun x hx => pow_long (by rw [e]; exact List.mem_cons_of_mem _ hx)
    rw [e]
    show List.filter _ ([] :: t) = t
    rw [List.filter_cons_of_neg (by simp), List.filter_eq_self]
    intro x hx
    have h1 := List.length_pos_iff.mpr (h x hx)
    have h2 := hl x hx
    simp
    omega
  have p := levV_perm L L.length
  rw [hf] at p
  have p2 := p.map unS
  rw [unS_map] at p2
  have s := levV_sorted L L.length
  rw [hs] at s
  rw [hs, ← setsL_eq]
  exact (srtK_of p2 s).symm
end Mi
end S_Fs
section S_Ga
set_option Elab.async false
set_option linter.all false
set_option maxRecDepth 100000
set_option maxHeartbeats 4000000
namespace Mi
open PySem PySem.Spec PyProof.Rows L2
theorem ch_str (c : Nat) : ch c = PV.str [c] := rfl
theorem eqvs_chs : ∀ (y z : S), eqvs (y.map ch) (z.map ch) = decide (y = z)
  | [], [] => rfl
  | [], _ :: _ => rfl
  | _ :: _, [] => rfl
  | a :: y, b :: z => by
    show (eqv (ch a) (ch b) && eqvs (y.map ch) (z.map ch)) = _
    rw [eqvs_chs y z, eqv_ch]
    by_cases h : a = b
    · subst h; simp
    · simp [h]
theorem data_chs (n : Nat) (z : S) : data (n + 1) (.lst (z.map ch)) = true := datas_ch n z
theorem neP_chs {y z : S} {Q : PV → Prop} : OpQ (neP (.lst (y.map ch)) (.lst (z.map ch))) Q = Q (.bl (!decide (y = z))) := by
  unfold neP
  rw [if_pos ⟨data_chs 59 y, data_chs 59 z⟩]
  show Q (.bl (!eqvs (y.map ch) (z.map ch))) = _
  rw [eqvs_chs]
theorem eqP_chs {y z : S} {Q : PV → Prop} : OpQ (eqP (.lst (y.map ch)) (.lst (z.map ch))) Q = Q (.bl (decide (y = z))) := by
  unfold eqP
  rw [if_pos ⟨data_chs 59 y, data_chs 59 z⟩]
  show Q (.bl (eqvs (y.map ch) (z.map ch))) = _
  rw [eqvs_chs]
theorem neP_nil {y : S} {Q : PV → Prop} : OpQ (neP (.lst (y.map ch)) (.lst [])) Q = Q (.bl (!decide (y = []))) := neP_chs (z := [])
theorem eqP_nil {y : S} {Q : PV → Prop} : OpQ (eqP (.lst (y.map ch)) (.lst [])) Q = Q (.bl (decide (y = []))) := eqP_chs (z := [])
def shB (e l : S) : Bool := e.any fun c => decide (c ∈ l)
theorem filt_ne (e l : S) : (!decide (e.filter (fun c => decide (c ∈ l)) = [])) = shB e l := by
  unfold shB
  rw [Bool.eq_iff_iff]
  simp [List.filter_eq_nil_iff]
def freeC (cs : List Cm) (l : S) : Bool := cs.all fun c => !(shB c.1 l && shB c.2 l)
theorem freeC_perm {cs ds : List Cm} (h : cs.Perm ds) (l : S) : freeC cs l = freeC ds l := by
  unfold freeC
  rw [Bool.eq_iff_iff, List.all_eq_true, List.all_eq_true]
  exact ⟨fun a c hc => a c (h.mem_iff.mpr hc), fun a c hc => a c (h.mem_iff.mp hc)⟩
theorem srt_cmV (cs : List Cm) : ∃ ds : List Cm, srt (cs.map cmV) = ds.map cmV ∧ ds.Perm cs := by
  obtain ⟨unC, hu⟩ : ∃ f : PV → Cm, ∀ c, f (cmV c) = c := ⟨fun v => match v with
    | .tup [a, b] => (unS a, unS b)
    | _ => ([], []), fun c => rfl⟩
  refine ⟨(srt (cs.map cmV)).map unC, ?_, ?_⟩
  · rw [List.map_map]
    conv => lhs; rw [← List.map_id (srt (cs.map cmV))]
    refine List.map_congr_left fun x hx => ?_
    obtain ⟨c, _, rfl⟩ := List.mem_map.mp ((srt_perm _).mem_iff.mp hx)
    show cmV c = cmV (unC (cmV c))
    rw [hu]
  · have := (srt_perm (cs.map cmV)).map unC
    rw [List.map_map] at this
    refine this.trans (List.Perm.of_eq ?_)
    conv => rhs; rw [← List.map_id cs]
    exact List.map_congr_left fun c _ => hu c
theorem e_shares {d : Nat} {e l : S} {hp : List Ob} (hd : 1 ≤ d) (he : e.length ≤ 1000) : G T d 78 [.str e, .str l] hp = .ok (.bl (shB e l)) false hp := by
  obtain ⟨d, rfl⟩ : ∃ e, d = e + 1 := ⟨d - 1, by omega⟩
  refine wpC_det (wpC_fn (F := F_shares) rfl rfl ?_)
  show Wp (b_shares (G T d)) _ _ ⟨[.sh (.str e), .sh (.str l), .un], hp⟩
  unfold b_shares
  simp only [↓wp_gRet, ↓wp_fOp2, ↓wp_fLoc]
  refine wp_fFil ch (fun c => decide (c ∈ l)) ch ?_
  simp only [↓wp_fSeq, ↓wp_fVar, ↓slQ_zero]
  refine ⟨e, _, _, rfl, rfl, by simp, rfl, by omega, fun c hc => by simp, fun c hc h => by simp, ?_⟩
  simp only [↓wp_fLst, ↓wp_fNil, ↓opQ_rdval, neP_nil, filt_ne]
  simp [lenOk_iff]
theorem e_isFreeSet {d : Nat} {z l : S} {ds : List Cm} {hp : List Ob} (hd : 2 ≤ d) (hds : ∀ c ∈ ds, c.1.length ≤ 100 ∧ c.2.length ≤ 100) (e33 : G T (d - 1) 33 [.str z] hp = .ok (.lst (ds.map cmV)) true hp) : G T d 81 [.str z, .str l] hp = .ok (.bl (freeC ds l)) false hp := by
  obtain ⟨d, rfl⟩ : ∃ e, d = e + 1 := ⟨d - 1, by omega⟩
  have e33' : G T d 33 [.str z] hp = .ok (.lst (ds.map cmV)) true hp := e33
  refine wpC_det (wpC_fn (F := F_is_free_set) rfl rfl ?_)
  show Wp (b_is_free_set (G T d)) _ _ ⟨[.sh (.str z), .sh (.str l), .un, .un], hp⟩
  unfold b_is_free_set
  simp only [↓wp_gSeq, ↓wp_gFor, ↓wp_fSeq, ↓wp_fCall, ↓wp_fCons, ↓wp_fVar, ↓slQ_zero, ↓slQ_succ, ↓wp_fNil, e33', ↓wpC_ok]
  refine wp_loopG (zs := ds) cmV (fun done s => freeC done l = true ∧ ∃ y2 y3 : Slot, s = ⟨[.sh (.str z), .sh (.str l), y2, y3], hp⟩) rfl ⟨rfl, .un, .un, rfl⟩ ?_ ?_
  · rintro done c rest s hc ⟨hf, y2, y3, rfl⟩
    have hcm : c ∈ ds := by rw [hc]; simp
    have hl := hds c hcm
    obtain ⟨c1, c2⟩ := c
    have e1 := e_shares (d := d) (e := c1) (l := l) (hp := hp) (by omega) (Nat.le_trans hl.1 (by omega))
    have e2 := e_shares (d := d) (e := c2) (l := l) (hp := hp) (by omega) (Nat.le_trans hl.2 (by omega))
    show SetQ (some ⟨[.sh (.str z), .sh (.str l), .sh (.str c1), .sh (.str c2)], hp⟩) _
    simp only [↓setQ_some, ↓wp_gIf, ↓wp_fAnd, ↓wp_asB, ↓wp_fCall, ↓wp_fCons, ↓wp_fVar, ↓slQ_zero, ↓slQ_succ, ↓wp_fNil, e1, e2, ↓wpC_ok]
    have hfr : freeC (done ++ [(c1, c2)]) l = !(shB c1 l && shB c2 l) := by
      unfold freeC at hf ⊢
      rw [List.all_append, hf]
      simp
    have hall : (shB c1 l && shB c2 l) = true → freeC ds l = false := fun h => by
      unfold freeC
      rw [List.all_eq_false]
      exact ⟨_, hcm, by simpa using h⟩
    cases h1 : shB c1 l with
    | false =>
      rw [h1] at hfr
      simp only [Bool.false_eq_true, if_false, ↓wp_gNx]
      exact ⟨hfr, _, _, rfl⟩
    | true =>
      rw [h1] at hfr hall
      simp only [if_true]
      cases h2 : shB c2 l with
      | false =>
        rw [h2] at hfr
        simp only [Bool.false_eq_true, if_false, ↓wp_gNx]
        exact ⟨hfr, _, _, rfl⟩
      | true =>
        rw [h2] at hall
        simp only [if_true, ↓wp_gRet, ↓wp_pure]
        rw [hall rfl]
        refine ⟨?_, ?_, ?_⟩ <;> first | trivial | rfl
  · rintro s ⟨hf, y2, y3, rfl⟩
    simp only [↓wp_gRet, ↓wp_pure, hf]
    exact ⟨trivial, trivial, trivial⟩
theorem pow_le {n k : Nat} (h : n ≤ k) : 2 ^ n ≤ 2 ^ k := Nat.pow_le_pow_right (by omega) h
theorem pow_step (done : S) (c : Nat) : ((powL done).map PV.str) ++ ((powL done).map fun x => PV.str (x ++ [c])) = (powL (done ++ [c])).map PV.str := by
  rw [pow_snoc, List.map_append, List.map_map]
  rfl
theorem e_allSets {d : Nat} {L : S} {hp : List Ob} (hd : 1 ≤ d) (hL : L.length ≤ 10) : G T d 36 [.str L] hp = .ok (.lst ((setsL L).map PV.str)) true hp := by
  obtain ⟨d, rfl⟩ : ∃ e, d = e + 1 := ⟨d - 1, by omega⟩
  refine wpC_det (wpC_fn (F := F_all_sets) rfl rfl ?_)
  show Wp (b_all_sets (G T d)) _ _ ⟨[.sh (.str L), .un, .un, .un], hp⟩
  unfold b_all_sets
  refine wp_seq ⟨[.sh (.str L), .ow (.lst [.str []]), .un, .un], hp⟩ (by simp [lenOk_iff, sizeLine_val]) ?_
  refine wp_seq' (fun s => ∃ (kb : Bool) (y2 : Slot), s = ⟨[.sh (.str L), slotOf (.lst ((powL L).map PV.str), kb), y2, .un], hp⟩) ?_ ?_
  · simp only [↓wp_gFor, ↓wp_fSeq, ↓wp_fVar, ↓slQ_zero]
    refine wp_loopG (zs := L) ch (fun done s => ∃ (kb : Bool) (y2 : Slot), s = ⟨[.sh (.str L), slotOf (.lst ((powL done).map PV.str), kb), y2, .un], hp⟩) rfl ⟨true, .un, rfl⟩ ?_ (fun s ⟨kb, y2, e⟩ => ⟨rfl, kb, y2, e⟩)
    rintro done c rest s hc ⟨kb, y2, rfl⟩
    have hdl : done.length ≤ 9 := by
      have := congrArg List.length hc
      rw [List.length_append, List.length_cons] at this
      omega
    have hpl : (powL done).length ≤ 512 := by
      rw [pow_len]
      exact pow_le (k := 9) hdl
    have hb : ∀ x ∈ powL done, x.length ≤ 10 := fun x hx => by have := pow_long hx; omega
    cases kb <;> simp only [slotOf_f, slotOf_t, ↓uName_eq, ↓setQ_some, List.set_cons_succ, List.set_cons_zero, ↓wp_gAsg, ↓wp_fOp2, ↓wp_fLoc, ↓wp_fAt, ↓slQ_zero, ↓slQ_succ]
    all_goals
      refine wp_fMapG PV.str (fun x => PV.str (x ++ [c])) ?_
      simp only [↓wp_fSeq, ↓wp_fVar, ↓slQ_zero, ↓slQ_succ, List.set_cons_succ, List.set_cons_zero]
      refine ⟨powL done, _, _, rfl, rfl, by simp, rfl, by omega, fun x hx => ?_, ?_⟩
      · have := hb x hx
        simp only [List.set_cons_succ, List.set_cons_zero, ↓wp_fOp2, ↓wp_fLoc, ↓wp_fAt, ↓slQ_zero, ↓slQ_succ, ↓opQ_rdat, ch_str, ↓addP_str, sizeLine_val]
        exact ⟨by rw [List.length_singleton]; omega, trivial, trivial⟩
      · simp only [↓opQ_rdat, ↓slQ_zero, ↓slQ_succ, ↓opQ_rdval, ↓addP_lst, sizeLine_val, List.length_map, List.length_append]
        refine ⟨by omega, ?_⟩
        rw [pow_step]
        exact ⟨false, _, rfl⟩
  · rintro s ⟨kb, y2, rfl⟩
    have hk : ∀ Q : PV → Prop, OpQ (srtKP [.lst ((powL L).tail.map PV.str)]) Q = Q (.lst ((setsL L).map PV.str)) := fun Q => by
      rw [srtKP_ok (by rw [List.all_map, List.all_eq_true]; intro x _; rfl), setsL_eq]
    have hc : cut ((powL L).map PV.str) (some 1) none = (powL L).tail.map PV.str := by
      rw [cut_from (by omega)]
      show List.drop 1 _ = _
      rw [List.drop_one, List.map_tail]
    cases kb <;> simp only [slotOf_f, slotOf_t, ↓wp_gRetF, ↓wp_fB, ↓wp_fOCons, ↓wp_fLoc, ↓wp_fCut, ↓wp_fAt, ↓wp_fSome, ↓wp_pure, ↓wp_fNone, ↓opQ_rdat, ↓slQ_zero, ↓slQ_succ, ↓cutP_lst, hc, ↓wp_fONil, ↓lsQ_cons, ↓lsQ_nil, ↓opQ_rdval, hk] <;> exact ⟨trivial, trivial, trivial⟩
def freeL (ds : List Cm) (L : S) : List S := (setsL L).filter (freeC ds)
theorem isort_len (z : S) : (isort z).length = z.length := (isort_perm z).length_eq
theorem e_freeSets {d : Nat} {z : S} {ds : List Cm} {hp : List Ob} (hd : 3 ≤ d) (hz : Pat z) (hdl : ds.length ≤ 100) (hds : ∀ c ∈ ds, c.1.length ≤ 100 ∧ c.2.length ≤ 100) (e33 : G T (d - 1) 33 [.str z] hp = .ok (.lst (ds.map cmV)) true hp) : G T d 82 [.str z] hp = .ok (.lst ((freeL ds (isort (dedup z))).map PV.str)) true hp := by
  obtain ⟨d, rfl⟩ : ∃ e, d = e + 1 := ⟨d - 1, by omega⟩
  have e33' : G T d 33 [.str z] hp = .ok (.lst (ds.map cmV)) true hp := e33
  have hle := hz.le
  have hfew := hz.few
  obtain ⟨L, hL⟩ : ∃ L, L = isort (dedup z) := ⟨_, rfl⟩
  have hLl : L.length ≤ 7 := by rw [hL, isort_len]; exact hfew
  have e1 := e_letters (d := d) (z := z) (hp := hp) (by omega) (by omega)
  have e2 := e_allSets (d := d) (L := L) (hp := hp) (by omega) (by omega)
  have g1 : ∀ Q : PV → Prop, OpQ (joinP (.str []) [.lst (srt ((dedup z).map ch))]) Q = Q (.str L) := fun Q => by rw [hL]; exact join_srt (by omega)
  have hsl : (setsL L).length ≤ 128 := Nat.le_trans (setsL_len L) (pow_le (k := 7) hLl)
  rw [← hL]
  refine wpC_det (wpC_fn (F := F_find_free_sets) rfl rfl ?_)
  show Wp (b_find_free_sets (G T d)) _ _ ⟨[.sh (.str z), .un, .un, .un, .un, .un], hp⟩
  unfold b_find_free_sets
  refine wp_seq ⟨[.sh (.str z), .sh (.lst (ds.map cmV)), .un, .un, .un, .un], hp⟩ (by simp [e33']) ?_
  refine wp_seq ⟨[.sh (.str z), .sh (.lst (ds.map cmV)), .ow (.lst []), .un, .un, .un], hp⟩ (by simp [lenOk_iff, sizeLine_val]) ?_
  refine wp_seq' (fun s => ∃ y3 : Slot, s = ⟨[.sh (.str z), .sh (.lst (ds.map cmV)), .ow (.lst ((freeL ds L).map PV.str)), y3, .un, .un], hp⟩) ?_ ?_
  · simp only [↓wp_gFor, ↓wp_fSeq, ↓wp_fCall, ↓wp_fCons, ↓wp_fMeth, ↓wp_fLoc, ↓wp_pure, ↓opQ_rdval, ↓wp_fOCons, ↓wp_fB, ↓wp_fVar, ↓slQ_zero, ↓slQ_succ, ↓wp_fNil, e1, ↓wpC_ok, ↓wp_fONil, ↓lsQ_cons, ↓lsQ_nil, ↓sortedP_str, g1, e2]
    refine ⟨⟨rfl, rfl⟩, ?_⟩
    refine wp_loopG (zs := setsL L) PV.str (fun done s => ∃ y3 : Slot, s = ⟨[.sh (.str z), .sh (.lst (ds.map cmV)), .ow (.lst ((done.filter (freeC ds)).map PV.str)), y3, .un, .un], hp⟩) rfl ⟨.un, rfl⟩ ?_ (fun s ⟨y3, e⟩ => ⟨rfl, y3, e⟩)
    rintro done l rest s hc ⟨y3, rfl⟩
    have hdn : done.length ≤ 128 := by
      have := congrArg List.length hc
      rw [List.length_append, List.length_cons] at this
      omega
    have hfl := List.length_filter_le (freeC ds) done
    simp only [↓uName_eq, ↓setQ_some, List.set_cons_succ, List.set_cons_zero, ↓wp_gIf, ↓wp_fNot, ↓wp_asB, ↓wp_fB, ↓wp_fOCons, ↓wp_fLoc]
    refine wp_compG cmV ?_
    simp only [↓wp_fSeq, ↓wp_fVar, ↓slQ_zero, ↓slQ_succ]
    refine ⟨rfl, ds, fun done2 acc s => (∃ rest, ds = done2 ++ rest) ∧ ∃ (a b : Slot), acc = (done2.map fun c => PV.bl (shB c.1 l && shB c.2 l)) ∧ s = ⟨[.sh (.str z), .sh (.lst (ds.map cmV)), .ow (.lst ((done.filter (freeC ds)).map PV.str)), .sh (.str l), a, b], hp⟩, rfl, ⟨⟨ds, rfl⟩, .un, .un, rfl, rfl⟩, ?_, ?_⟩
    · rintro done2 c rest2 acc s hc2 ⟨_, a, b, rfl, rfl⟩
      have hcm : c ∈ ds := by rw [hc2]; simp
      have hl := hds c hcm
      obtain ⟨c1, c2⟩ := c
      have e1 := e_shares (d := d) (e := c1) (l := l) (hp := hp) (by omega) (Nat.le_trans hl.1 (by omega))
      have e2 := e_shares (d := d) (e := c2) (l := l) (hp := hp) (by omega) (Nat.le_trans hl.2 (by omega))
      show SetQ (some ⟨[.sh (.str z), .sh (.lst (ds.map cmV)), .ow (.lst ((done.filter (freeC ds)).map PV.str)), .sh (.str l), .sh (.str c1), .sh (.str c2)], hp⟩) _
      simp only [↓setQ_some, ↓wp_fAndV, ↓wp_fCall, ↓wp_fCons, ↓wp_fVar, ↓slQ_zero, ↓slQ_succ, ↓wp_fNil, e1, ↓wpC_ok]
      have hr : ∃ r, ds = (done2 ++ [(c1, c2)]) ++ r := ⟨rest2, by simpa using hc2⟩
      cases h1 : shB c1 l with
      | false =>
        refine ⟨hr, _, _, ?_, rfl⟩
        simp [h1]
      | true =>
        simp only [e2, ↓wpC_ok]
        refine ⟨hr, _, _, ?_, rfl⟩
        simp [h1]
    · rintro acc s ⟨_, a, b, rfl, rfl⟩
      refine ⟨lenOk_of (by rw [List.length_map, sizeLine_val]; omega), ?_⟩
      have hfr : freeC ds l = !(ds.any fun c => shB c.1 l && shB c.2 l) := by unfold freeC; rw [← List.not_any_eq_all_not]
      simp only [↓wp_fONil, ↓lsQ_cons, ↓lsQ_nil, ↓opQ_rdval, ↓anyP_map, ← hfr]
      cases hb : freeC ds l with
      | false =>
        simp only [Bool.false_eq_true, if_false, ↓wp_gNx]
        refine ⟨.sh (.str l), ?_⟩
        rw [List.filter_append, List.filter_cons_of_neg (by simp [hb]), List.filter_nil, List.append_nil]
        rfl
      | true =>
        simp only [if_true]
        show Wp (gDrop (fMut (fAt 2) (fCons (fVar 3) (fNil)) appendM)) _ _ ⟨[.sh (.str z), .sh (.lst (ds.map cmV)), .ow (.lst ((done.filter (freeC ds)).map PV.str)), .sh (.str l), .un, .un], hp⟩
        simp [putL, appendM, lenOk_iff, sizeLine_val, hb]
        omega
  · rintro s ⟨y3, rfl⟩
    simp
def lsB (z : S) : PV → Bool
  | .str w => (!decide (w = [])) && decide (isort (dedup w) = w) && w.all fun c => decide (c ∈ z)
  | _ => false
theorem sortSet_str {w : S} {Q : PV → Prop} (h : w.length < 4000) : OpQ (sortSetP [.str w]) Q = Q (.lst ((isort (dedup w)).map ch)) := by
  rw [sortSet_ok (xs := w.map ch) rfl (.inl (by rw [List.all_map, List.all_eq_true]; intro c _; rfl)) (by rw [List.length_map]; omega), uniq_chs, srt_chs]
theorem e_isLetterSet {d : Nat} {z : S} {x : PV} {hp : List Ob} (hd : 1 ≤ d) (h : (tyN x).isSome = true) (hl : (unS x).length ≤ 1000) : G T d 79 [.str z, x] hp = .ok (.bl (lsB z x)) false hp := by
  obtain ⟨d, rfl⟩ : ∃ e, d = e + 1 := ⟨d - 1, by omega⟩
  refine wpC_det (wpC_fn (F := F_is_letter_set) rfl rfl ?_)
  show Wp (b_is_letter_set (G T d)) _ _ ⟨[.sh (.str z), .sh x, .un], hp⟩
  unfold b_is_letter_set
  cases x with
  | str w =>
    have hw : w.length ≤ 1000 := hl
    have g1 : ∀ Q : PV → Prop, OpQ (sortSetP [.str w]) Q = Q (.lst ((isort (dedup w)).map ch)) := fun Q => sortSet_str (by omega)
    have g2 : listP' [.str w] = some (.lst (w.map ch)) := rfl
    by_cases h1 : w = []
    · subst h1
      simp [tyN, isN, lsB]
    · by_cases h2 : isort (dedup w) = w
      · refine wp_seq ⟨[.sh (.str z), .sh (.str w), .un], hp⟩ ?_ ?_
        · simp [tyN, isN, h1, g1, g2, neP_chs, h2]
        simp only [↓wp_gRet, ↓wp_fB, ↓wp_fOCons, ↓wp_fLoc]
        refine wp_fMapG ch (fun c => .bl (decide (c ∈ z))) ?_
        simp only [↓wp_fSeq, ↓wp_fVar, ↓slQ_zero, ↓slQ_succ]
        refine ⟨w, _, _, rfl, rfl, by simp, rfl, by omega, fun c hc => by simp, ?_⟩
        simp only [↓wp_fONil, ↓lsQ_cons, ↓lsQ_nil, ↓opQ_rdval, ↓allP_map]
        simp [lsB, h1, h2]
      · simp [tyN, isN, h1, g1, g2, neP_chs, h2, lsB]
  | _ => first | (simp [tyN] at h; done) | simp [tyN, isN, lsB]
theorem e_reqLetters {d : Nat} {z : S} {x : PV} {hp : List Ob} (hd : 2 ≤ d) (h : (tyN x).isSome = true) (hl : (unS x).length ≤ 1000) : G T d 80 [.str z, x] hp = if lsB z x = true then .ok .non false hp else .ex (.exc 8 []) hp := by
  obtain ⟨d, rfl⟩ : ∃ e, d = e + 1 := ⟨d - 1, by omega⟩
  have e := e_isLetterSet (d := d) (z := z) (hp := hp) (by omega) h hl
  split
  · rename_i hp
    refine wpC_det (wpC_fn (F := F_require_letters) rfl rfl ?_)
    simp [F_require_letters, b_require_letters, start0, e, hp]
  · rename_i hp
    refine wpC_detx (wpC_fn (F := F_require_letters) rfl rfl ?_)
    simp [F_require_letters, b_require_letters, start0, e, hp]
theorem lsB_str {z : S} {x : PV} (h : lsB z x = true) : ∃ w, x = .str w ∧ w ≠ [] ∧ isort (dedup w) = w ∧ ∀ c ∈ w, c ∈ z := by
  cases x with
  | str w =>
    unfold lsB at h
    simp at h
    exact ⟨w, rfl, h.1.1, h.1.2, h.2⟩
  | _ => cases h
end Mi
end S_Ga
section S_Gb
set_option Elab.async false
set_option linter.all false
set_option maxRecDepth 100000
set_option maxHeartbeats 4000000
namespace Mi
open PySem PySem.Spec PyProof.Rows L2
structure PD (z : S) (ds : List Cm) : Prop where
  pat : Pat z
  ex : ∃ cs : List Cm, Parts (adjP z) (dedup z) cs ∧ cs.length ≤ 14 ∧ srt ((cs.map canon).map cmV) = ds.map cmV ∧ ds.Perm (cs.map canon)
theorem few2 {z : S} (hz : Pat z) {cs : List Cm} (P : Parts (adjP z) (dedup z) cs) : ∀ c ∈ cs, c.1.length ≤ 7 ∧ c.2.length ≤ 7 := fun c hc =>
  ⟨Nat.le_trans (nodup_le (P.comp c hc).nd1 (P.in1 c hc)) hz.few, Nat.le_trans (nodup_le (P.comp c hc).nd2 (P.in2 c hc)) hz.few⟩
theorem PD.few {z : S} {ds : List Cm} (h : PD z ds) : ∀ c ∈ ds, c.1.length ≤ 7 ∧ c.2.length ≤ 7 := fun c hc => by
  obtain ⟨cs, P, _, _, p⟩ := h.ex
  obtain ⟨e, he, rfl⟩ := List.mem_map.mp (p.mem_iff.mp hc)
  have := few2 h.pat P e he
  exact ⟨by show (isort e.1).length ≤ 7; rw [isort_len]; exact this.1, by show (isort e.2).length ≤ 7; rw [isort_len]; exact this.2⟩
theorem PD.few1 {z : S} {ds : List Cm} (h : PD z ds) : ∀ c ∈ ds, c.1.length ≤ 100 ∧ c.2.length ≤ 100 := fun c hc => by
  have := h.few c hc
  omega
theorem PD.len {z : S} {ds : List Cm} (h : PD z ds) : ds.length ≤ 14 := by
  obtain ⟨cs, P, l, _, p⟩ := h.ex
  rw [p.length_eq, List.length_map]
  exact l
theorem PD.e33 {z : S} {ds : List Cm} (h : PD z ds) {d : Nat} {hp : List Ob} (hd : 2 ≤ d) : G T d 33 [.str z] hp = .ok (.lst (ds.map cmV)) true hp := by
  obtain ⟨cs, P, _, e, _⟩ := h.ex
  obtain ⟨cs2, P2, _, e2⟩ := e_comps (d := d) (z := z) (hp := hp) hd h.pat
  rw [e2, ← e, srt_cms (parts_perm P2 P)]
theorem parts_len {J : List (Nat × Nat)} {L : S} {cs : List Cm} (P : Parts J L cs) : cs.length ≤ 2 * L.length := by
  have h := canon_nodup P
  have key : ∀ (cs : List Cm), (∀ c ∈ cs, Comp J c) → cs.Nodup → (∀ c ∈ cs, ∀ d ∈ cs, ∀ l, l ∈ c.1 → l ∈ d.1 → c = d) → (∀ c ∈ cs, ∀ d ∈ cs, ∀ l, l ∈ c.2 → l ∈ d.2 → c = d) → ∃ M N : S, M.Nodup ∧ N.Nodup ∧ (∀ l ∈ M, ∃ c ∈ cs, l ∈ c.1) ∧ (∀ l ∈ N, ∃ c ∈ cs, l ∈ c.2) ∧ cs.length ≤ M.length + N.length := fun cs => by
    induction cs with
    | nil =>
      intro _ _ _ _
      exact ⟨[], [], List.nodup_nil, List.nodup_nil, fun x h => absurd h (List.not_mem_nil), fun x h => absurd h (List.not_mem_nil), Nat.le_refl _⟩
    | cons c cs ih =>
      intro h1 h2 h3 h4
      obtain ⟨hc, h2'⟩ := List.nodup_cons.mp h2
      obtain ⟨M, N, m1, n1, m2, n2, l⟩ := ih (fun d hd => h1 d (List.mem_cons_of_mem _ hd)) h2' (fun a ha b hb => h3 a (List.mem_cons_of_mem _ ha) b (List.mem_cons_of_mem _ hb)) (fun a ha b hb => h4 a (List.mem_cons_of_mem _ ha) b (List.mem_cons_of_mem _ hb))
      have m2' : ∀ l ∈ M, ∃ d ∈ c :: cs, l ∈ d.1 := fun l hl => by obtain ⟨d, a, b⟩ := m2 l hl; exact ⟨d, List.mem_cons_of_mem _ a, b⟩
      have n2' : ∀ l ∈ N, ∃ d ∈ c :: cs, l ∈ d.2 := fun l hl => by obtain ⟨d, a, b⟩ := n2 l hl; exact ⟨d, List.mem_cons_of_mem _ a, b⟩
      rcases mem_node (h1 c (List.mem_cons_self ..)) with ⟨x, hx⟩ | ⟨x, hx⟩
      · refine ⟨x :: M, N, List.nodup_cons.mpr ⟨fun hm => ?_, m1⟩, n1, fun l hl => ?_, n2', by simp; omega⟩
        · obtain ⟨d, a, b⟩ := m2 x hm
          exact hc (by rw [h3 c (List.mem_cons_self ..) d (List.mem_cons_of_mem _ a) x hx b]; exact a)
        · rcases List.mem_cons.mp hl with rfl | hl
          · exact ⟨c, List.mem_cons_self .., hx⟩
          · exact m2' l hl
      · refine ⟨M, x :: N, m1, List.nodup_cons.mpr ⟨fun hm => ?_, n1⟩, m2', fun l hl => ?_, by simp; omega⟩
        · obtain ⟨d, a, b⟩ := n2 x hm
          exact hc (by rw [h4 c (List.mem_cons_self ..) d (List.mem_cons_of_mem _ a) x hx b]; exact a)
        · rcases List.mem_cons.mp hl with rfl | hl
          · exact ⟨c, List.mem_cons_self .., hx⟩
          · exact n2' l hl
  obtain ⟨M, N, m1, n1, m2, n2, l⟩ := key cs P.comp P.nd P.u1 P.u2
  have a := nodup_le m1 fun x hx => by obtain ⟨c, hc, h⟩ := m2 x hx; exact P.in1 c hc x h
  have b := nodup_le n1 fun x hx => by obtain ⟨c, hc, h⟩ := n2 x hx; exact P.in2 c hc x h
  omega
theorem pd_of {z : S} (hz : Pat z) : ∃ ds, PD z ds := by
  obtain ⟨cs, P, _, _⟩ := e_comps (d := 2) (z := z) (hp := []) (by omega) hz
  obtain ⟨ds, e, p⟩ := srt_cmV (cs.map canon)
  have := parts_len P
  have := hz.few
  exact ⟨ds, hz, cs, P, by omega, e, p⟩
theorem e_setS {d : Nat} {z : S} {hp : List Ob} (hd : 1 ≤ d) (hl : z.length ≤ 1000) : G T d 41 [.str z] hp = .ok (.str (isort (dedup z))) false hp := by
  obtain ⟨d, rfl⟩ : ∃ e, d = e + 1 := ⟨d - 1, by omega⟩
  refine wpC_det (wpC_fn (F := F__law_set) rfl rfl ?_)
  show Wp (b__law_set (G T d)) _ _ ⟨[.sh (.str z)], hp⟩
  unfold b__law_set
  have g1 : ∀ Q : PV → Prop, OpQ (sortSetP [.str z]) Q = Q (.lst ((isort (dedup z)).map ch)) := fun Q => sortSet_str (by omega)
  have hl2 : (isort (dedup z)).length ≤ z.length := by rw [isort_len]; exact dedup_len z
  have g2 : ∀ Q : PV → Prop, OpQ (joinP (.str []) [.lst ((isort (dedup z)).map ch)]) Q = Q (.str (isort (dedup z))) := fun Q => join_ch (by omega)
  simp only [↓wp_gRet, ↓wp_fMeth, ↓wp_fLoc, ↓wp_pure, ↓opQ_rdval, ↓wp_fOCons, ↓wp_fB, ↓wp_fAt, ↓slQ_zero, ↓wp_fONil, ↓lsQ_cons, ↓lsQ_nil, ↓opQ_rdat, g1, g2]
  exact ⟨⟨rfl, rfl⟩, trivial, trivial, trivial⟩
theorem isort_isort (z : S) : isort (isort z) = isort z := isort_eq (isort_perm z)
theorem rngS_one (n : Nat) : rngS 1 1 n = (List.range n).map fun (k : Nat) => PV.int (1 + k) := by
  unfold rngS
  exact List.map_congr_left fun k _ => by rw [Int.mul_one]
end Mi
end S_Gb
section S_Gc
set_option Elab.async false
set_option linter.all false
set_option maxRecDepth 100000
set_option maxHeartbeats 4000000
namespace Mi
open PySem PySem.Spec PyProof.Rows L2
theorem e_isFree {d : Nat} {z : S} {ds : List Cm} {y : PV} {hp : List Ob} (hd : 4 ≤ d) (h : PD z ds) (hpz : patB (.str z) = true) (hy : (tyN y).isSome = true) (hl : (unS y).length ≤ 1000) : G T d 235 [.str z, y] hp = if lsB z y = true then .ok (.bl (freeC ds (unS y))) false hp else .ex (.exc 8 []) hp := by
  obtain ⟨d, rfl⟩ : ∃ e, d = e + 1 := ⟨d - 1, by omega⟩
  have e1 := e_reqPat (d := d) (x := .str z) (hp := hp) (by omega) rfl
  rw [if_pos hpz] at e1
  have e2 := e_reqLetters (d := d) (z := z) (x := y) (hp := hp) (by omega) hy hl
  split
  · rename_i hb
    rw [if_pos hb] at e2
    obtain ⟨w, rfl, _⟩ := lsB_str hb
    have e3 := e_isFreeSet (d := d) (z := z) (l := w) (hp := hp) (by omega) h.few1 (h.e33 (d := d - 1) (by omega))
    refine wpC_det (wpC_fn (F := F_is_free) rfl rfl ?_)
    simp [F_is_free, b_is_free, start0, e1, e2, e3, unS]
  · rename_i hb
    rw [if_neg hb] at e2
    refine wpC_detx (wpC_fn (F := F_is_free) rfl rfl ?_)
    simp [F_is_free, b_is_free, start0, e1, e2]
theorem e_isFreeX {d : Nat} {x y : PV} {hp : List Ob} (hd : 4 ≤ d) (hx : (tyN x).isSome = true) (hb : patB x = false) : G T d 235 [x, y] hp = .ex (.exc 1 []) hp := by
  obtain ⟨d, rfl⟩ : ∃ e, d = e + 1 := ⟨d - 1, by omega⟩
  have e1 := e_reqPat (d := d) (x := x) (hp := hp) (by omega) hx
  rw [hb, if_neg Bool.false_ne_true] at e1
  refine wpC_detx (wpC_fn (F := F_is_free) rfl rfl ?_)
  simp [F_is_free, b_is_free, start0, e1]
theorem e_fsets {d : Nat} {z : S} {ds : List Cm} {hp : List Ob} (hd : 4 ≤ d) (h : PD z ds) (hpz : patB (.str z) = true) : G T d 84 [.str z] hp = .ok (.lst ((freeL ds (isort (dedup z))).map PV.str)) true hp := by
  obtain ⟨d, rfl⟩ : ∃ e, d = e + 1 := ⟨d - 1, by omega⟩
  have e1 := e_reqPat (d := d) (x := .str z) (hp := hp) (by omega) rfl
  rw [if_pos hpz] at e1
  have e2 := e_freeSets (d := d) (z := z) (ds := ds) (hp := hp) (by omega) h.pat (by have := h.len; omega) h.few1 (h.e33 (by omega))
  refine wpC_det (wpC_fn (F := F_free_sets) rfl rfl ?_)
  simp [F_free_sets, b_free_sets, start0, e1, e2]
theorem e_fsetsX {d : Nat} {x : PV} {hp : List Ob} (hd : 4 ≤ d) (hx : (tyN x).isSome = true) (hb : patB x = false) : G T d 84 [x] hp = .ex (.exc 1 []) hp := by
  obtain ⟨d, rfl⟩ : ∃ e, d = e + 1 := ⟨d - 1, by omega⟩
  have e1 := e_reqPat (d := d) (x := x) (hp := hp) (by omega) hx
  rw [hb, if_neg Bool.false_ne_true] at e1
  refine wpC_detx (wpC_fn (F := F_free_sets) rfl rfl ?_)
  simp [F_free_sets, b_free_sets, start0, e1]
theorem repr2 {x y : PV} (hx : Ok x) (hy : Ok y) : ∃ R : S, ∀ Q : PV → Prop, OpQ (reprP [.tup [x, y]]) Q = Q (.str R) := by
  refine ⟨reprS (.tup [x, y]), fun Q => repr_ok (k := 7) (n := 21) (by omega) (by omega) (by omega) ?_ ?_⟩
  · show (sm 7 20 x && (sm 7 20 y && true)) = true
    rw [hx.1, hy.1]
    rfl
  · have h1 := hx.2
    have h2 := hy.2
    show (7 + 3) * (wt 7 20 x + 1 + (wt 7 20 y + 1 + 0)) + (7 + 1) ≤ _
    omega
theorem Ok.ty {x : PV} (h : Ok x) : (tyN x).isSome = true := data_ty (sm_leaves (k := 7) (by omega) 20 x h.1).2.2
theorem isort_nodup {w : S} (h : w.Nodup) : (isort w).Nodup := (isort_perm w).nodup_iff.mpr h
theorem lsB_not {z w : S} {c : Nat} (hc : c ∈ w) (h : c ∉ z) : lsB z (.str w) = false := by
  cases hb : lsB z (.str w) with
  | false => rfl
  | true =>
    obtain ⟨w2, e, _, _, h3⟩ := lsB_str hb
    cases e
    exact absurd (h3 c hc) h
theorem lsB_dup {z w : S} (h : ¬ w.Nodup) : lsB z (.str w) = false := by
  cases hb : lsB z (.str w) with
  | false => rfl
  | true =>
    obtain ⟨w2, e, _, h2, _⟩ := lsB_str hb
    cases e
    exact absurd (by rw [← h2]; exact isort_nodup (nodup_dedup w)) h
theorem lsB_rev {z L : S} (hs : isort L = L) (hn : L.Nodup) (h2 : 1 < L.length) : lsB z (.str L.reverse) = false := by
  cases hb : lsB z (.str L.reverse) with
  | false => rfl
  | true =>
    obtain ⟨w2, e, _, h3, _⟩ := lsB_str hb
    cases e
    have s1 : L.Pairwise (· ≤ ·) := by rw [← hs]; exact isort_sorted L
    have s2 : L.reverse.Pairwise (· ≤ ·) := by rw [← h3]; exact isort_sorted _
    rw [List.pairwise_reverse] at s2
    match L, h2, hn, s1, s2 with
    | a :: b :: t, _, hn, s1, s2 =>
      have h4 := (List.pairwise_cons.mp s1).1 b (List.mem_cons_self ..)
      have h5 := (List.pairwise_cons.mp s2).1 b (List.mem_cons_self ..)
      have h6 : a = b := Nat.le_antisymm h4 h5
      exact absurd (by rw [h6]; exact List.mem_cons_self ..) (List.nodup_cons.mp hn).1
def BadS (z : S) (v : PV) : Prop := lsB z v = false ∧ Ok v ∧ (unS v).length ≤ 1000
theorem bs_str {z w : S} (h : lsB z (.str w) = false) (ha : Asc w) (hl : w.length ≤ 1000) : BadS z (.str w) := ⟨h, ok_str ha (by omega), hl⟩
theorem other_ok {z : S} (hz : Pat z) : ∃ o r, cCAPS.filter (fun c => !decide (c ∈ z)) = o :: r ∧ o ∉ z ∧ o ∈ cCAPS := by
  cases h : cCAPS.filter (fun c => !decide (c ∈ z)) with
  | nil =>
    have h1 : ∀ c ∈ cCAPS, c ∈ dedup z := fun c hc => by
      have := List.filter_eq_nil_iff.mp h c hc
      simp at this
      exact mem_dedup.mpr this
    have h2 := nodup_le (l := cCAPS) (by decide +kernel) h1
    have h3 : cCAPS.length = 26 := by decide +kernel
    have := hz.few
    omega
  | cons o r =>
    have : o ∈ cCAPS.filter (fun c => !decide (c ∈ z)) := by rw [h]; exact List.mem_cons_self ..
    obtain ⟨h1, h2⟩ := List.mem_filter.mp this
    exact ⟨o, r, rfl, by simpa using h2, h1⟩
theorem atI0 {α : Type} {a : α} {t : List α} : L2.atI (a :: t) 0 = some a := by
  have := atI_nat (xs := a :: t) (k := 0) (by simp)
  simpa using this
theorem lst_hd {o : Nat} {r : S} {st : Fs} {Q : PV → Prop} : OpQ (ixP st (.lst ((o :: r).map ch)) (.int 0)) Q = Q (ch o) := by
  rw [ixP_lst, List.map_cons, atI0]
  rfl
theorem str_hd {o : Nat} {r : S} {st : Fs} {Q : PV → Prop} : OpQ (ixP st (.str (o :: r)) (.int 0)) Q = Q (ch o) := by
  rw [ixP_str, atI0]
  rfl
theorem inL_strs (w : S) : ∀ xs : List S, inL (.str w) (xs.map PV.str) = decide (w ∈ xs)
  | [] => by simp [inL]
  | a :: xs => by
    have ih := inL_strs w xs
    unfold inL at ih ⊢
    rw [List.map_cons, List.any_cons, ih]
    show (decide (a = w) || _) = _
    by_cases h : a = w
    · subst h; simp
    · have h' : ¬ w = a := fun z => h z.symm
      simp [h, h']
theorem datas_strs (n : Nat) (xs : List S) : (xs.map PV.str).all (data n) = true := by
  rw [List.all_map, List.all_eq_true]
  intro c _
  cases n <;> rfl
theorem inP_strs {w : S} {xs : List S} {Q : PV → Prop} : OpQ (inP (.str w) (.lst (xs.map PV.str))) Q = Q (.bl (decide (w ∈ xs))) := by
  have e : inB (.str w) (.lst (xs.map PV.str)) = some (decide (w ∈ xs)) := by
    show (if data 60 (.str w) = true ∧ (xs.map PV.str).all (data 60) = true then some (inL (.str w) (xs.map PV.str)) else none) = _
    rw [if_pos ⟨rfl, datas_strs 60 xs⟩, inL_strs]
  unfold inP
  rw [e]
  rfl
theorem ok_strs {xs : List S} (h : ∀ x ∈ xs, Asc x ∧ x.length ≤ 1000) (hl : xs.length ≤ 200) : Ok (.lst (xs.map PV.str)) := by
  constructor
  · show (xs.map PV.str).all (sm 7 19) = true
    rw [List.all_map, List.all_eq_true]
    exact fun c hc => sm_str (h c hc).1
  · show ((xs.map PV.str).map fun x => wt 7 19 x + 1).sum ≤ _
    have := sum_le (fun x => wt 7 19 x + 1) 1001 (xs.map PV.str) fun x hx => by
      obtain ⟨w, hw, rfl⟩ := List.mem_map.mp hx
      show wt 7 19 (.str w) + 1 ≤ _
      rw [wt_str]
      have := (h w hw).2
      omega
    rw [List.length_map] at this
    omega
theorem patB_of {z : S} (hz : Pat z) : patB (.str z) = true := by
  unfold patB
  have h1 := hz.ne
  have h2 := hz.le
  have h3 := hz.few
  have h4 : (z.all fun c => decide (c ∈ cCAPS)) = true := by
    rw [List.all_eq_true]
    exact fun c hc => decide_eq_true (hz.cap c hc)
  simp only [h1, h2, h3, h4, and_self, decide_true, Bool.and_self]
theorem ls_ok {z w : S} (hz : Pat z) (h : w ∈ setsL (isort (dedup z))) : lsB z (.str w) = true ∧ Asc w ∧ w.length ≤ 7 := by
  obtain ⟨h1, h2⟩ := setsL_mem.mp h
  have hn : w.Nodup := h2.nodup (isort_nodup (nodup_dedup z))
  have hs : w.Pairwise (· ≤ ·) := (isort_sorted _).sublist h2
  have hm : ∀ c ∈ w, c ∈ z := fun c hc => mem_dedup.mp (isort_mem.mp (h2.subset hc))
  have hd : dedup w = w := dedup_self hn
  have hi : isort w = w := List.Perm.eq_of_pairwise (le := (· ≤ ·)) (fun a b _ _ h1 h2 => Nat.le_antisymm h1 h2) (isort_sorted w) hs (isort_perm w)
  have hl := h2.length_le
  rw [isort_len] at hl
  have := hz.few
  refine ⟨?_, caps_asc fun c hc => hz.cap c (hm c hc), by omega⟩
  show (!decide (w = []) && decide (isort (dedup w) = w) && w.all fun c => decide (c ∈ z)) = true
  rw [hd, hi]
  simp [h1]
  exact hm
theorem full_in {z : S} (hz : Pat z) : isort (dedup z) ∈ setsL (isort (dedup z)) := by
  refine setsL_mem.mpr ⟨fun h => ?_, List.Sublist.refl _⟩
  have h1 := hz.ne
  obtain ⟨c, hc⟩ := List.exists_mem_of_ne_nil z (by intro h; rw [h] at h1; simp at h1)
  have := isort_mem.mpr (mem_dedup.mpr hc)
  rw [h] at this
  cases this
end Mi
end S_Gc
section S_Kp
set_option Elab.async false
set_option linter.all false
set_option maxRecDepth 100000
set_option maxHeartbeats 4000000
namespace Mi
open PySem PySem.Spec PyProof.Rows L2
def sw (c : Cm) : Cm := (c.2, c.1)
theorem nodup_map {α β : Type} {f : α → β} {l : List α} (h : l.Nodup) (hi : ∀ a ∈ l, ∀ b ∈ l, f a = f b → a = b) : (l.map f).Nodup := by
  rw [List.nodup_iff_pairwise_ne, List.pairwise_map]
  exact List.Pairwise.imp_of_mem (fun {a b} ha hb hne e => hne (hi a ha b hb e)) (List.nodup_iff_pairwise_ne.mp h)
theorem Parts.swap {J K : List (Nat × Nat)} {L M : S} {cs : List Cm} (h : Parts J L cs) (hK : ∀ a b, (a, b) ∈ K ↔ (b, a) ∈ J) (hM : ∀ l, l ∈ M ↔ l ∈ L) : Parts K M (cs.map sw) := by
  have hc : ∀ c ∈ cs, Comp K (sw c) := fun c hc => by
    have g := h.comp c hc
    refine ⟨fun p hp => ?_, fun PE PB hcl hx => ?_, g.ne.symm, g.nd2, g.nd1⟩
    · exact (g.clo (p.2, p.1) ((hK p.1 p.2).mp hp)).symm
    · have := g.mini PB PE (fun p hp => (hcl (p.2, p.1) ((hK p.2 p.1).mpr hp)).symm) hx.symm
      exact ⟨this.2, this.1⟩
  have hm : ∀ {c}, c ∈ cs.map sw → ∃ d ∈ cs, c = sw d := fun {c} hc => by
    obtain ⟨d, hd, rfl⟩ := List.mem_map.mp hc
    exact ⟨d, hd, rfl⟩
  refine ⟨fun c hc' => ?_, nodup_map h.nd fun a _ b _ e => ?_, fun c hc' d hd l h1 h2 => ?_, fun c hc' d hd l h1 h2 => ?_, fun l hl => ?_, fun l hl => ?_, fun c hc' l hl => ?_, fun c hc' l hl => ?_⟩
  · obtain ⟨d, hd, rfl⟩ := hm hc'
    exact hc d hd
  · exact Prod.ext (congrArg Prod.snd e) (congrArg Prod.fst e)
  · obtain ⟨c0, m1, rfl⟩ := hm hc'
    obtain ⟨d0, m2, rfl⟩ := hm hd
    rw [h.u2 c0 m1 d0 m2 l h1 h2]
  · obtain ⟨c0, m1, rfl⟩ := hm hc'
    obtain ⟨d0, m2, rfl⟩ := hm hd
    rw [h.u1 c0 m1 d0 m2 l h1 h2]
  · obtain ⟨c, a, b⟩ := h.all2 l ((hM l).mp hl)
    exact ⟨_, List.mem_map_of_mem a, b⟩
  · obtain ⟨c, a, b⟩ := h.all1 l ((hM l).mp hl)
    exact ⟨_, List.mem_map_of_mem a, b⟩
  · obtain ⟨d, hd, rfl⟩ := hm hc'
    exact (hM l).mpr (h.in2 d hd l hl)
  · obtain ⟨d, hd, rfl⟩ := hm hc'
    exact (hM l).mpr (h.in1 d hd l hl)
def fm (f : Nat → Nat) (c : Cm) : Cm := (c.1.map f, c.2.map f)
theorem mem_inj {f : Nat → Nat} {L l : S} {a : Nat} (hi : InjOn f L) (ha : a ∈ L) (hl : ∀ x ∈ l, x ∈ L) : f a ∈ l.map f ↔ a ∈ l := by
  constructor
  · intro h
    obtain ⟨b, hb, e⟩ := List.mem_map.mp h
    rw [← hi b (hl b hb) a ha e]
    exact hb
  · exact fun h => List.mem_map_of_mem h
theorem Parts.ren {J : List (Nat × Nat)} {L : S} {cs : List Cm} {f : Nat → Nat} (h : Parts J L cs) (hi : InjOn f L) (hJ : ∀ p ∈ J, p.1 ∈ L ∧ p.2 ∈ L) : Parts (J.map fun p => (f p.1, f p.2)) (L.map f) (cs.map (fm f)) := by
  have hm : ∀ {c}, c ∈ cs.map (fm f) → ∃ d ∈ cs, c = fm f d := fun {c} hc => by
    obtain ⟨d, hd, rfl⟩ := List.mem_map.mp hc
    exact ⟨d, hd, rfl⟩
  have U1 : ∀ c ∈ cs, ∀ d ∈ cs, ∀ l, l ∈ (fm f c).1 → l ∈ (fm f d).1 → c = d := fun c hc d hd l h1 h2 => by
    obtain ⟨a, ha, rfl⟩ := List.mem_map.mp h1
    exact h.u1 c hc d hd a ha ((mem_inj hi (h.in1 c hc a ha) (h.in1 d hd)).mp h2)
  have U2 : ∀ c ∈ cs, ∀ d ∈ cs, ∀ l, l ∈ (fm f c).2 → l ∈ (fm f d).2 → c = d := fun c hc d hd l h1 h2 => by
    obtain ⟨a, ha, rfl⟩ := List.mem_map.mp h1
    exact h.u2 c hc d hd a ha ((mem_inj hi (h.in2 c hc a ha) (h.in2 d hd)).mp h2)
  refine ⟨fun c hc => ?_, nodup_map h.nd fun a ha b hb e => ?_, fun c hc d hd l h1 h2 => ?_, fun c hc d hd l h1 h2 => ?_, fun l hl => ?_, fun l hl => ?_, fun c hc l hl => ?_, fun c hc l hl => ?_⟩
  · obtain ⟨d, hd, rfl⟩ := hm hc
    have g := h.comp d hd
    refine ⟨fun p hp => ?_, fun PE PB hcl hx => ?_, ?_, nodup_map g.nd1 fun a ha b hb => hi a (h.in1 d hd a ha) b (h.in1 d hd b hb), nodup_map g.nd2 fun a ha b hb => hi a (h.in2 d hd a ha) b (h.in2 d hd b hb)⟩
    · obtain ⟨q, hq, rfl⟩ := List.mem_map.mp hp
      obtain ⟨q1, q2⟩ := hJ q hq
      exact (mem_inj hi q1 (h.in1 d hd)).trans ((g.clo q hq).trans (mem_inj hi q2 (h.in2 d hd)).symm)
    · have := g.mini (fun l => PE (f l)) (fun l => PB (f l)) (fun p hp => hcl (f p.1, f p.2) (List.mem_map_of_mem (f := fun p : Nat × Nat => (f p.1, f p.2)) hp)) (by
        rcases hx with ⟨l, hl, hP⟩ | ⟨l, hl, hP⟩
        · obtain ⟨a, ha, rfl⟩ := List.mem_map.mp hl
          exact .inl ⟨a, ha, hP⟩
        · obtain ⟨a, ha, rfl⟩ := List.mem_map.mp hl
          exact .inr ⟨a, ha, hP⟩)
      refine ⟨fun l hl => ?_, fun l hl => ?_⟩
      · obtain ⟨a, ha, rfl⟩ := List.mem_map.mp hl
        exact this.1 a ha
      · obtain ⟨a, ha, rfl⟩ := List.mem_map.mp hl
        exact this.2 a ha
    · rcases g.ne with h1 | h1
      · exact .inl fun e => h1 (List.map_eq_nil_iff.mp e)
      · exact .inr fun e => h1 (List.map_eq_nil_iff.mp e)
  · have e1 : a.1.map f = b.1.map f := congrArg Prod.fst e
    have e2 : a.2.map f = b.2.map f := congrArg Prod.snd e
    rcases mem_node (h.comp a ha) with ⟨x, hx⟩ | ⟨x, hx⟩
    · exact U1 a ha b hb (f x) (List.mem_map_of_mem hx) (by show f x ∈ b.1.map f; rw [← e1]; exact List.mem_map_of_mem hx)
    · exact U2 a ha b hb (f x) (List.mem_map_of_mem hx) (by show f x ∈ b.2.map f; rw [← e2]; exact List.mem_map_of_mem hx)
  · obtain ⟨c0, m1, rfl⟩ := hm hc
    obtain ⟨d0, m2, rfl⟩ := hm hd
    rw [U1 c0 m1 d0 m2 l h1 h2]
  · obtain ⟨c0, m1, rfl⟩ := hm hc
    obtain ⟨d0, m2, rfl⟩ := hm hd
    rw [U2 c0 m1 d0 m2 l h1 h2]
  · obtain ⟨x, hx, rfl⟩ := List.mem_map.mp hl
    obtain ⟨c, a, b⟩ := h.all1 x hx
    exact ⟨_, List.mem_map_of_mem a, List.mem_map_of_mem b⟩
  · obtain ⟨x, hx, rfl⟩ := List.mem_map.mp hl
    obtain ⟨c, a, b⟩ := h.all2 x hx
    exact ⟨_, List.mem_map_of_mem a, List.mem_map_of_mem b⟩
  · obtain ⟨d, hd, rfl⟩ := hm hc
    obtain ⟨x, hx, rfl⟩ := List.mem_map.mp hl
    exact List.mem_map_of_mem (h.in1 d hd x hx)
  · obtain ⟨d, hd, rfl⟩ := hm hc
    obtain ⟨x, hx, rfl⟩ := List.mem_map.mp hl
    exact List.mem_map_of_mem (h.in2 d hd x hx)
theorem adj_mem {z : S} {a b : Nat} : (a, b) ∈ adjP z ↔ ∃ k, k + 1 < z.length ∧ z.getD k 0 = a ∧ z.getD (k + 1) 0 = b := by
  unfold adjP
  rw [List.mem_map]
  constructor
  · rintro ⟨k, hk, e⟩
    have := List.mem_range.mp hk
    exact ⟨k, by omega, congrArg Prod.fst e, congrArg Prod.snd e⟩
  · rintro ⟨k, hk, rfl, rfl⟩
    exact ⟨k, List.mem_range.mpr (by omega), rfl⟩
theorem getD_rev {z : S} {k : Nat} (h : k < z.length) : z.reverse.getD k 0 = z.getD (z.length - 1 - k) 0 := by
  rw [List.getD_eq_getElem?_getD, List.getD_eq_getElem?_getD, List.getElem?_reverse h]
theorem adj_rev1 {z : S} {a b : Nat} (h : (b, a) ∈ adjP z) : (a, b) ∈ adjP z.reverse := by
  obtain ⟨k, hk, e1, e2⟩ := adj_mem.mp h
  refine adj_mem.mpr ⟨z.length - 2 - k, by rw [List.length_reverse]; omega, ?_, ?_⟩
  · rw [getD_rev (by omega), ← e2]
    congr 1
    omega
  · rw [getD_rev (by omega), ← e1]
    congr 1
    omega
theorem adj_rev {z : S} (a b : Nat) : (a, b) ∈ adjP z.reverse ↔ (b, a) ∈ adjP z :=
  ⟨fun h => by have := adj_rev1 (z := z.reverse) (a := b) (b := a) h; rwa [List.reverse_reverse] at this, adj_rev1⟩
theorem adj_ren {z : S} {f : Nat → Nat} : adjP (z.map f) = (adjP z).map fun p => (f p.1, f p.2) := by
  unfold adjP
  rw [List.map_map, List.length_map]
  refine List.map_congr_left fun k hk => ?_
  have := List.mem_range.mp hk
  have g : ∀ i, i < z.length → (z.map f).getD i 0 = f (z.getD i 0) := fun i hi => by
    rw [List.getD_eq_getElem?_getD, List.getD_eq_getElem?_getD, List.getElem?_map, List.getElem?_eq_getElem hi]
    rfl
  show (_, _) = (f _, f _)
  rw [g k (by omega), g (k + 1) (by omega)]
theorem pat_rev {z : S} (h : Pat z) : Pat z.reverse where
  ne := by rw [List.length_reverse]; exact h.ne
  le := by rw [List.length_reverse]; exact h.le
  cap := fun c hc => h.cap c (List.mem_reverse.mp hc)
  few := Nat.le_trans (nodup_le (nodup_dedup _) fun c hc => mem_dedup.mpr (List.mem_reverse.mp (mem_dedup.mp hc))) h.few
theorem PD.rev {z : S} {ds es : List Cm} (h : PD z ds) (g : PD z.reverse es) : es.Perm (ds.map sw) := by
  obtain ⟨cs, P, _, _, p⟩ := h.ex
  obtain ⟨fs, Q, _, _, q⟩ := g.ex
  have R := P.swap (K := adjP z.reverse) (M := dedup z.reverse) adj_rev fun l => by rw [mem_dedup, mem_dedup, List.mem_reverse]
  have e : (cs.map sw).map canon = (cs.map canon).map sw := by
    rw [List.map_map, List.map_map]
    rfl
  have r := parts_perm Q R
  rw [e] at r
  exact q.trans (r.trans (p.map sw).symm)
theorem canon_fm (f : Nat → Nat) (c : Cm) : canon (fm f (canon c)) = canon (fm f c) := by
  unfold canon fm
  dsimp only
  rw [isort_eq ((isort_perm c.1).map f), isort_eq ((isort_perm c.2).map f)]
theorem PD.ren {z : S} {ds es : List Cm} {f : Nat → Nat} (h : PD z ds) (hi : InjOn f z) (g : PD (z.map f) es) : es.Perm (ds.map fun c => canon (fm f c)) := by
  obtain ⟨cs, P, _, _, p⟩ := h.ex
  obtain ⟨fs, Q, _, _, q⟩ := g.ex
  have R := P.ren (inj_dedup hi) adj_in
  rw [← adj_ren, ← dedup_map hi] at R
  have r := parts_perm Q R
  have e : (cs.map (fm f)).map canon = (cs.map canon).map fun c => canon (fm f c) := by
    rw [List.map_map, List.map_map]
    exact List.map_congr_left fun c _ => (canon_fm f c).symm
  rw [e] at r
  exact q.trans (r.trans (p.map fun c => canon (fm f c)).symm)
theorem PD.sub1 {z : S} {ds : List Cm} (h : PD z ds) : ∀ c ∈ ds, (∀ l ∈ c.1, l ∈ z) ∧ ∀ l ∈ c.2, l ∈ z := fun c hc => by
  obtain ⟨cs, P, _, _, p⟩ := h.ex
  obtain ⟨d, hd, rfl⟩ := List.mem_map.mp (p.mem_iff.mp hc)
  exact ⟨fun l hl => mem_dedup.mp (P.in1 d hd l (isort_mem.mp hl)), fun l hl => mem_dedup.mp (P.in2 d hd l (isort_mem.mp hl))⟩
theorem shB_iff {e l : S} : shB e l = true ↔ ∃ c ∈ e, c ∈ l := by
  unfold shB
  simp [List.any_eq_true]
theorem freeC_sw (ds : List Cm) (w : S) : freeC (ds.map sw) w = freeC ds w := by
  unfold freeC
  rw [List.all_map]
  congr 1
  funext c
  show (!(shB c.2 w && shB c.1 w)) = _
  rw [Bool.and_comm]
theorem shB_ren {f : Nat → Nat} {z e w v : S} (hi : InjOn f z) (he : ∀ l ∈ e, l ∈ z) (hw : ∀ l ∈ w, l ∈ z) (hv : ∀ x, x ∈ v ↔ x ∈ w.map f) : shB (isort (e.map f)) v = shB e w := by
  rw [Bool.eq_iff_iff, shB_iff, shB_iff]
  constructor
  · rintro ⟨c, h1, h2⟩
    obtain ⟨a, ha, rfl⟩ := List.mem_map.mp (isort_mem.mp h1)
    exact ⟨a, ha, (mem_inj hi (he a ha) hw).mp ((hv _).mp h2)⟩
  · rintro ⟨c, h1, h2⟩
    exact ⟨f c, isort_mem.mpr (List.mem_map_of_mem h1), (hv _).mpr (List.mem_map_of_mem h2)⟩
theorem freeC_ren {f : Nat → Nat} {z w v : S} {ds : List Cm} (hi : InjOn f z) (hd : ∀ c ∈ ds, (∀ l ∈ c.1, l ∈ z) ∧ ∀ l ∈ c.2, l ∈ z) (hw : ∀ l ∈ w, l ∈ z) (hv : ∀ x, x ∈ v ↔ x ∈ w.map f) : freeC (ds.map fun c => canon (fm f c)) v = freeC ds w := by
  unfold freeC
  rw [List.all_map, Bool.eq_iff_iff, List.all_eq_true, List.all_eq_true]
  have e : ∀ c ∈ ds, (!(shB (isort (c.1.map f)) v && shB (isort (c.2.map f)) v)) = !(shB c.1 w && shB c.2 w) := fun c hc => by
    rw [shB_ren hi (hd c hc).1 hw hv, shB_ren hi (hd c hc).2 hw hv]
  constructor
  · intro h c hc
    rw [← e c hc]
    exact h c hc
  · intro h c hc
    have := h c hc
    rw [← e c hc] at this
    exact this
theorem flat_perm {z : S} {ds : List Cm} (h : PD z ds) (s : Bool) : ((ds.map fun c => if s = true then c.2 else c.1).flatten).Perm (dedup z) := by
  obtain ⟨cs, P, _, _, p⟩ := h.ex
  refine ((p.map fun c : Cm => if s = true then c.2 else c.1).flatten).trans ?_
  rw [List.map_map]
  have g : ∀ c : Cm, ((fun c : Cm => if s = true then c.2 else c.1) ∘ canon) c = isort (if s = true then c.2 else c.1) := fun c => by
    cases s <;> rfl
  rw [List.map_congr_left fun c _ => g c]
  have inn : ∀ c ∈ cs, ∀ l ∈ (if s = true then c.2 else c.1), l ∈ dedup z := fun c hc => by
    cases s
    · exact P.in1 c hc
    · exact P.in2 c hc
  have un : ∀ c ∈ cs, ∀ d ∈ cs, ∀ l, l ∈ (if s = true then c.2 else c.1) → l ∈ (if s = true then d.2 else d.1) → c = d := by
    cases s
    · exact P.u1
    · exact P.u2
  have nd : ∀ c ∈ cs, (if s = true then c.2 else c.1).Nodup := fun c hc => by
    cases s
    · exact (P.comp c hc).nd1
    · exact (P.comp c hc).nd2
  have al : ∀ l ∈ dedup z, ∃ c ∈ cs, l ∈ (if s = true then c.2 else c.1) := by
    cases s
    · exact P.all1
    · exact P.all2
  refine (List.perm_ext_iff_of_nodup (nodup_flat _ (fun l hl => ?_) ?_) (nodup_dedup z)).mpr fun x => ?_
  · obtain ⟨c, hc, rfl⟩ := List.mem_map.mp hl
    exact isort_nodup (nd c hc)
  · rw [List.pairwise_map]
    refine List.Pairwise.imp_of_mem (fun {a b} ha hb hne => ?_) (List.nodup_iff_pairwise_ne.mp P.nd)
    intro l h1 h2
    exact hne (un a ha b hb l (isort_mem.mp h1) (isort_mem.mp h2))
  · rw [List.mem_flatten]
    constructor
    · rintro ⟨l, hl, hx⟩
      obtain ⟨c, hc, rfl⟩ := List.mem_map.mp hl
      exact inn c hc x (isort_mem.mp hx)
    · intro hx
      obtain ⟨c, hc, h2⟩ := al x hx
      exact ⟨_, List.mem_map_of_mem hc, isort_mem.mpr h2⟩
theorem pow_nodup (L : S) : L.Nodup → (powL L).Nodup := by
  induction L using snoc_ind with
  | nil => exact fun _ => by unfold powL; simp
  | snoc L c ih =>
    intro h
    rw [List.nodup_append] at h
    have hc : c ∉ L := fun hm => h.2.2 c hm c (List.mem_singleton.mpr rfl) rfl
    rw [pow_snoc, List.nodup_append]
    refine ⟨ih h.1, nodup_map (ih h.1) fun a _ b _ e => List.append_cancel_right e, fun a ha b hb e => ?_⟩
    obtain ⟨d, _, rfl⟩ := List.mem_map.mp hb
    exact hc ((pow_mem.mp ha).subset (by rw [e]; simp))
theorem setsL_nodup {L : S} (h : L.Nodup) : (setsL L).Nodup := (setsL_perm L).nodup_iff.mpr ((pow_nodup L h).sublist (List.tail_sublist _))
theorem sorted_eq {w : S} (h : w.Pairwise (· ≤ ·)) : isort w = w := List.Perm.eq_of_pairwise (le := (· ≤ ·)) (fun a b _ _ h1 h2 => Nat.le_antisymm h1 h2) (isort_sorted w) h (isort_perm w)
theorem sub_of {w L : S} (hw : isort w = w) (hn : w.Nodup) (hL : L.Pairwise (· ≤ ·)) (hLn : L.Nodup) (h : ∀ c ∈ w, c ∈ L) : w.Sublist L := by
  have e : L.filter (fun c => decide (c ∈ w)) = w := by
    have s : (L.filter (fun c => decide (c ∈ w))).Pairwise (· ≤ ·) := hL.filter _
    have e := isort_of_mem (hLn.filter fun c => decide (c ∈ w)) hn fun a => by
      rw [List.mem_filter, decide_eq_true_eq]
      exact ⟨fun h => h.2, fun ha => ⟨h a ha, ha⟩⟩
    rw [sorted_eq s, hw] at e
    exact e
  rw [← e]
  exact List.filter_sublist
theorem free_ren {z : S} {ds es : List Cm} {f : Nat → Nat} (h : PD z ds) (hi : InjOn f z) (g : PD (z.map f) es) : (freeL es (isort (dedup (z.map f)))).Perm ((freeL ds (isort (dedup z))).map fun w => isort (w.map f)) := by
  obtain ⟨L, hL⟩ : ∃ L, L = isort (dedup z) := ⟨_, rfl⟩
  obtain ⟨M, hM⟩ : ∃ M, M = isort (dedup (z.map f)) := ⟨_, rfl⟩
  have Ln : L.Nodup := by rw [hL]; exact isort_nodup (nodup_dedup z)
  have Mn : M.Nodup := by rw [hM]; exact isort_nodup (nodup_dedup _)
  have Ls : L.Pairwise (· ≤ ·) := by rw [hL]; exact isort_sorted _
  have Ms : M.Pairwise (· ≤ ·) := by rw [hM]; exact isort_sorted _
  have Lm : ∀ c, c ∈ L ↔ c ∈ z := fun c => by rw [hL, isort_mem, mem_dedup]
  have Mm : ∀ c, c ∈ M ↔ c ∈ z.map f := fun c => by rw [hM, isort_mem, mem_dedup]
  have key : ∀ {w v : S}, (∀ l ∈ w, l ∈ z) → (∀ x, x ∈ v ↔ x ∈ w.map f) → freeC es v = freeC ds w := fun {w v} hw hv => by
    rw [freeC_perm (h.ren hi g)]
    exact freeC_ren hi h.sub1 hw hv
  rw [← hL, ← hM]
  have inL : ∀ {w}, w ∈ freeL ds L → (w ≠ [] ∧ w.Sublist L) ∧ freeC ds w = true := fun {w} hw => by
    obtain ⟨h1, h2⟩ := List.mem_filter.mp hw
    exact ⟨setsL_mem.mp h1, h2⟩
  have wz : ∀ {w : S}, w.Sublist L → ∀ l ∈ w, l ∈ z := fun {w} hw l hl => (Lm l).mp (hw.subset hl)
  refine (List.perm_ext_iff_of_nodup ((setsL_nodup Mn).filter _) (nodup_map ((setsL_nodup Ln).filter _) fun a ha b hb e => ?_)).mpr fun v => ?_
  · obtain ⟨⟨_, a1⟩, _⟩ := inL ha
    obtain ⟨⟨_, b1⟩, _⟩ := inL hb
    have e' : isort (a.map f) = isort (b.map f) := e
    have hm : ∀ c, c ∈ a ↔ c ∈ b := fun c => by
      constructor
      · intro hc
        have : f c ∈ isort (b.map f) := by rw [← e']; exact isort_mem.mpr (List.mem_map_of_mem hc)
        exact (mem_inj hi (wz a1 c hc) (wz b1)).mp (isort_mem.mp this)
      · intro hc
        have : f c ∈ isort (a.map f) := by rw [e']; exact isort_mem.mpr (List.mem_map_of_mem hc)
        exact (mem_inj hi (wz b1 c hc) (wz a1)).mp (isort_mem.mp this)
    rw [← sorted_eq (Ls.sublist a1), ← sorted_eq (Ls.sublist b1)]
    exact isort_of_mem (Ln.sublist a1) (Ln.sublist b1) hm
  · rw [List.mem_map]
    constructor
    · intro hv
      obtain ⟨h1, h2⟩ := List.mem_filter.mp hv
      obtain ⟨v1, v2⟩ := setsL_mem.mp h1
      have sub : (L.filter fun c => decide (f c ∈ v)).Sublist L := List.filter_sublist
      have hmv : ∀ x, x ∈ v ↔ x ∈ (L.filter fun c => decide (f c ∈ v)).map f := fun x => by
        rw [List.mem_map]
        constructor
        · intro hx
          obtain ⟨c, hc, rfl⟩ := List.mem_map.mp ((Mm x).mp (v2.subset hx))
          exact ⟨c, List.mem_filter.mpr ⟨(Lm c).mpr hc, decide_eq_true hx⟩, rfl⟩
        · rintro ⟨c, hc, rfl⟩
          exact of_decide_eq_true (List.mem_filter.mp hc).2
      refine ⟨L.filter fun c => decide (f c ∈ v), List.mem_filter.mpr ⟨setsL_mem.mpr ⟨fun e => v1 ?_, sub⟩, ?_⟩, ?_⟩
      · rw [e] at hmv
        exact List.eq_nil_iff_forall_not_mem.mpr fun x hx => by
          have := (hmv x).mp hx
          cases this
      · rw [← key (wz sub) hmv]
        exact h2
      · refine Eq.trans ?_ (sorted_eq (Ms.sublist v2))
        exact isort_of_mem (nodup_map (Ln.sublist sub) fun a ha b hb => hi a (wz sub a ha) b (wz sub b hb)) (Mn.sublist v2) fun a => (hmv a).symm
    · rintro ⟨w, hw, rfl⟩
      obtain ⟨⟨w1, w2⟩, w3⟩ := inL (w := w) hw
      have nd : (w.map f).Nodup := nodup_map (Ln.sublist w2) fun a ha b hb => hi a (wz w2 a ha) b (wz w2 b hb)
      refine List.mem_filter.mpr ⟨setsL_mem.mpr ⟨fun e => w1 ?_, sub_of (isort_isort _) (isort_nodup nd) Ms Mn fun c hc => ?_⟩, ?_⟩
      · have : (isort (w.map f)).length = 0 := by rw [e]; rfl
        rw [isort_len, List.length_map] at this
        exact List.length_eq_zero_iff.mp this
      · obtain ⟨a, ha, rfl⟩ := List.mem_map.mp (isort_mem.mp hc)
        exact (Mm _).mpr (List.mem_map_of_mem (wz w2 a ha))
      · rw [key (wz w2) fun x => isort_mem]
        exact w3
theorem free_adj {z w : S} {ds : List Cm} (h : PD z ds) (hw : freeC ds w = true) {a b : Nat} (hab : (a, b) ∈ adjP z) : ¬ (a ∈ w ∧ b ∈ w) := fun ⟨ha, hb⟩ => by
  obtain ⟨cs, P, _, _, p⟩ := h.ex
  obtain ⟨c, hc, hac⟩ := P.all1 a (adj_in _ hab).1
  have hbc : b ∈ c.2 := ((P.comp c hc).clo _ hab).mp hac
  have hd : canon c ∈ ds := p.mem_iff.mpr (List.mem_map_of_mem hc)
  unfold freeC at hw
  have := List.all_eq_true.mp hw _ hd
  have e1 : shB (canon c).1 w = true := shB_iff.mpr ⟨a, isort_mem.mpr hac, ha⟩
  have e2 : shB (canon c).2 w = true := shB_iff.mpr ⟨b, isort_mem.mpr hbc, hb⟩
  rw [e1, e2] at this
  cases this
theorem shB_mono {e w v : S} (h : ∀ c ∈ v, c ∈ w) (hs : shB e v = true) : shB e w = true := by
  obtain ⟨c, h1, h2⟩ := shB_iff.mp hs
  exact shB_iff.mpr ⟨c, h1, h c h2⟩
theorem freeC_mono {ds : List Cm} {w v : S} (h : ∀ c ∈ v, c ∈ w) (hw : freeC ds w = true) : freeC ds v = true := by
  unfold freeC at hw ⊢
  rw [List.all_eq_true] at hw ⊢
  intro c hc
  have := hw c hc
  cases h1 : shB c.1 v with
  | false => rfl
  | true =>
    cases h2 : shB c.2 v with
    | false => rfl
    | true =>
      rw [shB_mono h h1, shB_mono h h2] at this
      cases this
theorem srt_strs {xs ys : List S} (p : xs.Perm ys) : srt (xs.map PV.str) = srt (ys.map PV.str) := by
  refine List.Perm.eq_of_pairwise (le := fun a b => leB a b = true) ?_ (srt_sorted _) (srt_sorted _) ((srt_perm _).trans ((p.map PV.str).trans (srt_perm _).symm))
  intro a b ha hb h1 h2
  obtain ⟨c, _, rfl⟩ := List.mem_map.mp ((srt_perm _).mem_iff.mp ha)
  obtain ⟨d, _, rfl⟩ := List.mem_map.mp ((srt_perm _).mem_iff.mp hb)
  rw [leB_strs] at h1 h2
  have a : ¬ d < c := by simpa using h1
  have b : ¬ c < d := by simpa using h2
  rw [List.le_antisymm (List.not_lt.mp a) (List.not_lt.mp b)]
theorem eqv_refl : ∀ (n : Nat) (x : PV), data n x = true → eqv x x = true
  | _, .non, _ => rfl
  | _, .bl _, _ => by simp [eqv]
  | _, .int _, _ => by simp [eqv]
  | _, .str _, _ => by simp [eqv]
  | n + 1, .tup xs, h => by
    have h' : xs.all (data n) = true := h
    show eqvs xs xs = true
    have : ∀ ys : List PV, (∀ y ∈ ys, eqv y y = true) → eqvs ys ys = true := fun ys => by
      induction ys with
      | nil => exact fun _ => rfl
      | cons y ys ih =>
        intro hy
        show (eqv y y && eqvs ys ys) = true
        rw [hy y (List.mem_cons_self ..), ih fun u hu => hy u (List.mem_cons_of_mem _ hu)]
        rfl
    exact this xs fun y hy => eqv_refl n y (List.all_eq_true.mp h' y hy)
  | n + 1, .lst xs, h => by
    have h' : xs.all (data n) = true := h
    show eqvs xs xs = true
    have : ∀ ys : List PV, (∀ y ∈ ys, eqv y y = true) → eqvs ys ys = true := fun ys => by
      induction ys with
      | nil => exact fun _ => rfl
      | cons y ys ih =>
        intro hy
        show (eqv y y && eqvs ys ys) = true
        rw [hy y (List.mem_cons_self ..), ih fun u hu => hy u (List.mem_cons_of_mem _ hu)]
        rfl
    exact this xs fun y hy => eqv_refl n y (List.all_eq_true.mp h' y hy)
  | 0, .tup _, h => nomatch h
  | 0, .lst _, h => nomatch h
  | n, .dic _, h => by cases n <;> cases h
  | n, .obj _, h => by cases n <;> cases h
  | n, .exc _ _, h => by cases n <;> cases h
  | n, .fn _, h => by cases n <;> cases h
  | n, .scr _, h => by cases n <;> cases h
theorem neP_self {x : PV} {Q : PV → Prop} (h : data 60 x = true) : OpQ (neP x x) Q = Q (.bl false) := by
  unfold neP
  rw [if_pos ⟨h, h⟩, eqv_refl 60 x h]
  rfl
theorem eqP_self {x : PV} {Q : PV → Prop} (h : data 60 x = true) : OpQ (eqP x x) Q = Q (.bl true) := by
  unfold eqP
  rw [if_pos ⟨h, h⟩, eqv_refl 60 x h]
  rfl
end Mi
end S_Kp
section S_K16
set_option Elab.async false
set_option linter.all false
set_option maxRecDepth 100000
set_option maxHeartbeats 4000000
namespace Mi
open PySem PySem.Spec PyProof.Rows L2
theorem PD.e83 {z : S} {ds : List Cm} (h : PD z ds) {d : Nat} {hp : List Ob} (hd : 4 ≤ d) : G T d 83 [.str z] hp = .ok (.lst (ds.map cmV)) true hp := by
  obtain ⟨d, rfl⟩ : ∃ e, d = e + 1 := ⟨d - 1, by omega⟩
  have e1 := e_reqPat (d := d) (x := .str z) (hp := hp) (by omega) rfl
  rw [if_pos (patB_of h.pat)] at e1
  have e2 := h.e33 (d := d) (hp := hp) (by omega)
  refine wpC_det (wpC_fn (F := F_joined) rfl rfl ?_)
  simp [F_joined, b_joined, start0, e1, e2]
theorem PD.e84 {z : S} {ds : List Cm} (h : PD z ds) {d : Nat} {hp : List Ob} (hd : 4 ≤ d) : G T d 84 [.str z] hp = .ok (.lst ((freeL ds (isort (dedup z))).map PV.str)) true hp := e_fsets hd h (patB_of h.pat)
theorem tup_sel {c : Cm} {s : Nat} {st : Fs} {Q : PV → Prop} (h : s < 2) : OpQ (ixP st (cmV c) (.int (s : Nat))) Q = Q (.str (if decide (s = 1) = true then c.2 else c.1)) := by
  match s, h with
  | 0, _ => rfl
  | 1, _ => rfl
theorem data_cms (cs : List Cm) : data 60 (.lst (cs.map cmV)) = true := by
  show (cs.map cmV).all (data 59) = true
  rw [List.all_map, List.all_eq_true]
  exact fun _ _ => rfl
theorem data_strl (xs : List S) : data 60 (.lst (xs.map PV.str)) = true := by
  show (xs.map PV.str).all (data 59) = true
  rw [List.all_map, List.all_eq_true]
  exact fun _ _ => rfl
theorem e_ren {d : Nat} {t L0 os : S} {hp : List Ob} (hd : 1 ≤ d) (ht : t.length ≤ 1000) (hL : os.length = L0.length) (hm : ∀ c ∈ t, c ∈ L0) : G T d 13 [.str t, .str L0, .lst (os.map ch)] hp = .ok (.str (t.map fun c => os.getD (idx L0 c) 0)) false hp := by
  obtain ⟨d, rfl⟩ : ∃ e, d = e + 1 := ⟨d - 1, by omega⟩
  refine wpC_det (wpC_fn (F := F__law_renamed) rfl rfl ?_)
  show Wp (b__law_renamed (G T d)) _ _ ⟨[.sh (.str t), .sh (.str L0), .sh (.lst (os.map ch)), .un], hp⟩
  unfold b__law_renamed
  simp only [↓wp_gRet, ↓wp_fMeth, ↓wp_fLoc, ↓wp_pure, ↓opQ_rdval, ↓wp_fOCons]
  refine ⟨⟨rfl, rfl⟩, ?_⟩
  refine wp_fMapG ch (fun c => ch (os.getD (idx L0 c) 0)) ?_
  simp only [↓wp_fSeq, ↓wp_fVar, ↓slQ_zero, ↓slQ_succ]
  refine ⟨t, _, _, rfl, rfl, by simp, rfl, by omega, fun c hc => ?_, ?_⟩
  · have g2 := fun Q => index_ok (Q := Q) (hm c hc)
    obtain ⟨hi, _⟩ := idx_lt (hm c hc)
    have g3 : ∀ (st : Fs) (Q : PV → Prop), OpQ (ixP st (.lst (os.map ch)) (.int (idx L0 c : Nat))) Q = Q (ch (os.getD (idx L0 c) 0)) := fun st Q => by
      have hi2 : idx L0 c < os.length := by omega
      rw [ixP_lst, atI_nat (by rw [List.length_map]; exact hi2), List.getElem_map, List.getD_eq_getElem?_getD, List.getElem?_eq_getElem hi2]
      rfl
    simp only [List.set_cons_succ, List.set_cons_zero, ↓wp_fIx, ↓wp_fLoc, ↓wp_pure, ↓wp_fAt, ↓wp_fMeth2, ↓wp_fOCons, ↓wp_fONil, ↓slQ_zero, ↓slQ_succ, ↓opQ_rdat, ↓opQ_rdval, ↓lsQ_cons, ↓lsQ_nil, g2, g3]
    refine ⟨?_, ?_⟩ <;> first | trivial | rfl
  · simp only [↓wp_fONil, ↓opQ_rdval, ↓lsQ_cons, ↓lsQ_nil]
    rw [joinP_chs (by omega)]
    refine ⟨?_, ?_, ?_⟩ <;> first | trivial | rfl
theorem fresh_ok : ∀ v ∈ ([.str s_HIJKLMN, .str s_TUVWXYZ, .str s_GFEDCBA] : List PV), ∃ nm : S, v = .str nm ∧ nm.length = 7 ∧ nm.Nodup ∧ ∀ c ∈ nm, c ∈ cCAPS := by
  intro v hv
  simp only [List.mem_cons, List.not_mem_nil, or_false] at hv
  rcases hv with rfl | rfl | rfl <;> exact ⟨_, rfl, by decide, by decide, by decide⟩
theorem cut_m3 {α : Type} (xs : List α) : cut xs (some (-3)) none = xs.drop (xs.length - 3) := by
  unfold cut HT.sIx
  simp only [show ((-3 : Int) < 0) by omega, if_true]
  rw [show ((-3 : Int) + (xs.length : Int)).toNat = xs.length - 3 by omega]
  exact List.take_of_length_le (by simp)
theorem okV11 {x0 x1 x2 x3 x4 x5 x6 x7 x8 x9 x10 x12 x13 x14 x15 x16 : Slot} {o : Option PV} : okV [x0, x1, x2, x3, x4, x5, x6, x7, x8, x9, x10, shO o, x12, x13, x14, x15, x16] [11] = true := by cases o <;> rfl
theorem law_ok (ns : List Int) (hn : ns.length ≤ 63) : ∃ b hp, G T 20 278 [.scr ns] [] = .ok (.bl true) b hp := by
  suffices h : WpC (G T 20 278 [.scr ns] []) (fun v _ _ => v = .bl true) (fun _ _ => False) by
    have h2 := h.run
    cases e : G T 20 278 [.scr ns] [] with
    | ok v b hp =>
      rw [e] at h2
      have h3 : v = .bl true := h2
      exact ⟨b, hp, by rw [h3]⟩
    | ex v hp => rw [e] at h2; exact h2.elim
    | no => rw [e] at h2; exact h2.elim
  refine wpC_fn (F := F_law) rfl rfl ?_
  show Wp (b_law (G T 19)) _ _ ⟨[.sh (.scr ns), .un, .un, .un, .un, .un, .un, .un, .un, .un, .un, .un, .un, .un, .un, .un, .un], []⟩
  unfold b_law
  refine wp_seq' (fun s => ∃ hp, s = ⟨[.sh (.scr ns), .sh (.obj 0), .un, .un, .un, .un, .un, .un, .un, .un, .un, .un, .un, .un, .un, .un, .un], hp⟩ ∧ Pen 100000 [] hp) ?_ ?_
  · simp only [↓wp_gAsg, ↓wp_fCall, ↓wp_fCons, ↓wp_fVar, ↓slQ_zero, ↓wp_fNil]
    refine wpC_imp (open_ok (E := fun _ _ => False) (by omega) hn) (fun v b hp' q => ?_) fun _ _ q => q.elim
    obtain ⟨rfl, _, pen⟩ := q
    simp
    exact pen.mono (by omega)
  rintro s' ⟨hp1, rfl, pen1⟩
  refine wp_seq' (fun _ => True) ?_ (fun s _ => by simp)
  simp only [↓wp_gFor, ↓wp_fRng1, ↓wp_fCons, ↓wp_pure, ↓wp_fNil]
  refine ⟨by decide, ?_⟩
  refine wp_loopG (fun (k : Nat) => PV.int k) (fun done s => ∃ (hp' : List Ob) (s2 s3 s4 s5 s6 s7 s8 s9 s10 s12 s13 : Slot) (o : Option PV), s = ⟨[.sh (.scr ns), .sh (.obj 0), s2, s3, s4, s5, s6, s7, s8, s9, s10, shO o, s12, s13, .un, .un, .un], hp'⟩ ∧ Pen (1000 * (5 - done.length)) [] hp') (rng_map 5)
    ⟨hp1, .un, .un, .un, .un, .un, .un, .un, .un, .un, .un, .un, none, rfl, pen1.mono (by simp)⟩ ?_ (fun s _ => ⟨rfl, trivial⟩)
  rintro done x rest s hzs ⟨hp', s2, s3, s4, s5, s6, s7, s8, s9, s10, s12, s13, o, rfl, pen⟩
  have hlen : done.length < 5 := by
    have := congrArg List.length hzs
    simp at this
    omega
  obtain ⟨m, hm⟩ : ∃ m, m = 1000 * (5 - (done.length + 1)) := ⟨_, rfl⟩
  have hm2 : 1000 * (5 - done.length) = m + 1000 := by omega
  rw [hm2] at pen
  simp only [↓uName_eq, ↓setQ_some, List.set_cons_succ, List.set_cons_zero]
  refine wp_seq' (fun s => ∃ (z : S) (hp' : List Ob), Pat z ∧ s = ⟨[.sh (.scr ns), .sh (.obj 0), .sh (.int x), .sh (.str z), s4, s5, s6, s7, s8, s9, s10, shO o, s12, s13, .un, .un, .un], hp'⟩ ∧ Pen (m + 900) [] hp') ?_ ?_
  · simp only [↓wp_gAsg, ↓wp_fCall, ↓wp_fCons, ↓wp_fVar, ↓wp_pure, ↓slQ_zero, ↓slQ_succ, ↓wp_fNil]
    refine wpC_imp (anew_ok (n := m + 1000) (E := fun _ _ => False) (by omega) pen) (fun v b hp2 q => ?_) fun _ _ q => q.elim
    obtain ⟨rfl, _, pen⟩ := q
    refine wpC_imp (lpat_ok (n := m + 900) (E := fun _ _ => False) (by omega) (pen.mono (by omega)) (by decide) (by decide)) (fun v b hp4 q => ?_) fun _ _ q => q.elim
    obtain ⟨z, rfl, hz, pen4⟩ := q
    simp only [↓uName_eq, ↓setQ_some, List.set_cons_succ, List.set_cons_zero]
    exact ⟨trivial, z, hp4, hz, rfl, pen4⟩
  rintro s' ⟨z, hp2, hz, rfl, pen2⟩
  have hle := hz.le
  have hne := hz.ne
  have hfew := hz.few
  have hpat := patB_of hz
  obtain ⟨ds, pd⟩ := pd_of hz
  have hdl := pd.len
  have hdf := pd.few
  obtain ⟨F, hF⟩ : ∃ F, F = freeL ds (isort (dedup z)) := ⟨_, rfl⟩
  have hFl : F.length ≤ 128 := by
    rw [hF]
    exact Nat.le_trans (List.length_filter_le ..) (Nat.le_trans (setsL_len _) (pow_le (k := 7) (by rw [isort_len]; exact hfew)))
  have hFm : ∀ w ∈ F, w ∈ setsL (isort (dedup z)) ∧ freeC ds w = true := fun w hw => by
    rw [hF] at hw
    exact List.mem_filter.mp hw
  have e84 : ∀ hp : List Ob, G T 19 84 [.str z] hp = .ok (.lst (F.map PV.str)) true hp := fun hp => by rw [hF]; exact pd.e84 (by omega)
  have e83 : ∀ hp : List Ob, G T 19 83 [.str z] hp = .ok (.lst (ds.map cmV)) true hp := fun hp => pd.e83 (by omega)
  refine wp_seq ⟨[.sh (.scr ns), .sh (.obj 0), .sh (.int x), .sh (.str z), s4, s5, s6, s7, s8, s9, s10, shO o, .sh (.lst (ds.map cmV)), .sh (.lst (F.map PV.str)), .un, .un, .un], hp2⟩ (by simp [e83, e84]) ?_
  have e8 : ∀ hp : List Ob, G T 19 8 [.str z] hp = .ok (.str (dedup z)) false hp := fun hp => e_lletters (by omega) (by omega)
  refine wp_seq ⟨[.sh (.scr ns), .sh (.obj 0), .sh (.int x), .sh (.str z), .sh (.str (dedup z)), s5, s6, s7, s8, s9, s10, shO o, .sh (.lst (ds.map cmV)), .sh (.lst (F.map PV.str)), .un, .un, .un], hp2⟩ (by simp [e8]) ?_
  have hsrt : srt ((dedup z).map ch) = (isort (dedup z)).map ch := srt_chs _
  refine wp_seq' (fun s => ∃ t5 : Slot, s = ⟨[.sh (.scr ns), .sh (.obj 0), .sh (.int x), .sh (.str z), .sh (.str (dedup z)), t5, s6, s7, s8, s9, s10, shO o, .sh (.lst (ds.map cmV)), .sh (.lst (F.map PV.str)), .un, .un, .un], hp2⟩) ?_ ?_
  · simp only [↓wp_gFor, ↓wp_fRng1, ↓wp_fCons, ↓wp_pure, ↓wp_fNil]
    refine ⟨by decide, ?_⟩
    refine wp_loopG (zs := List.range 2) (fun (k : Nat) => PV.int k) (fun done s => ∃ t5 : Slot, s = ⟨[.sh (.scr ns), .sh (.obj 0), .sh (.int x), .sh (.str z), .sh (.str (dedup z)), t5, s6, s7, s8, s9, s10, shO o, .sh (.lst (ds.map cmV)), .sh (.lst (F.map PV.str)), .un, .un, .un], hp2⟩) (rng_map 2) ⟨s5, rfl⟩ ?_ (fun s ⟨t, e⟩ => ⟨rfl, t, e⟩)
    rintro done2 k rest2 s hzs2 ⟨t5, rfl⟩
    have hk : k < 2 := by
      have : k ∈ List.range 2 := by rw [hzs2]; simp
      exact List.mem_range.mp this
    simp only [↓uName_eq, ↓setQ_some, List.set_cons_succ, List.set_cons_zero, ↓wp_gIf, ↓wp_asB, ↓wp_fOp2, ↓wp_fLoc, ↓wp_fB, ↓wp_fOCons, ↓wp_fMeth, ↓wp_pure, ↓opQ_rdval]
    refine ⟨⟨rfl, rfl⟩, ?_⟩
    refine wp_fMapG cmV (fun c => PV.str (if decide (k = 1) = true then c.2 else c.1)) ?_
    simp only [↓wp_fSeq, ↓wp_fVar, ↓slQ_zero, ↓slQ_succ]
    refine ⟨ds, _, _, rfl, rfl, by simp, rfl, by omega, fun c hc => ?_, ?_⟩
    · have g := fun st Q => tup_sel (c := c) (st := st) (Q := Q) hk
      simp only [List.set_cons_succ, List.set_cons_zero, ↓wp_fIx, ↓wp_fAt, ↓slQ_zero, ↓slQ_succ, ↓opQ_rdat, g]
      exact ⟨trivial, trivial⟩
    · have fp := flat_perm pd (decide (k = 1))
      have fl := fp.length_eq
      have ej : ∀ Q : PV → Prop, OpQ (joinP (.str []) [.lst (ds.map fun c => PV.str (if decide (k = 1) = true then c.2 else c.1))]) Q = Q (.str (ds.map fun c => if decide (k = 1) = true then c.2 else c.1).flatten) := fun Q => joinP_map (by omega)
      have es : srt ((ds.map fun c => if decide (k = 1) = true then c.2 else c.1).flatten.map ch) = (isort (dedup z)).map ch := by rw [srt_chs, isort_eq fp]
      simp only [↓wp_fONil, ↓lsQ_cons, ↓lsQ_nil, ↓opQ_rdval, ej, ↓sortedP_str, es, ↓wp_fAt, ↓slQ_zero, ↓slQ_succ, ↓opQ_rdat, hsrt, neP_chs, decide_true, Bool.not_true, Bool.false_eq_true, if_false, ↓wp_gNx]
      exact ⟨_, rfl⟩
  rintro s' ⟨t5, rfl⟩
  have hzr := pat_rev hz
  obtain ⟨es, pdr⟩ := pd_of hzr
  have per := pd.rev pdr
  have e83r : ∀ hp : List Ob, G T 19 83 [.str z.reverse] hp = .ok (.lst (es.map cmV)) true hp := fun hp => pdr.e83 (by omega)
  have e84r : ∀ hp : List Ob, G T 19 84 [.str z.reverse] hp = .ok (.lst (F.map PV.str)) true hp := fun hp => by
    have e := pdr.e84 (d := 19) (hp := hp) (by omega)
    have e1 : isort (dedup z.reverse) = isort (dedup z) := isort_of_mem (nodup_dedup _) (nodup_dedup _) fun a => by rw [mem_dedup, mem_dedup, List.mem_reverse]
    have e2 : freeC es = freeC ds := by
      funext w
      rw [freeC_perm per, freeC_sw]
    have e3 : freeL es (isort (dedup z.reverse)) = F := by
      rw [hF]
      unfold freeL
      rw [e1, e2]
    rw [e3] at e
    exact e
  have hel := pdr.len
  have esrt : srt ((es.map sw).map cmV) = ds.map cmV := by
    obtain ⟨cs, _, _, e, p⟩ := pd.ex
    rw [← e]
    refine srt_cms ?_
    have := per.map sw
    rw [List.map_map] at this
    have e2 : ds.map (sw ∘ sw) = ds := by
      conv => rhs; rw [← List.map_id ds]
      exact List.map_congr_left fun c _ => rfl
    rw [e2] at this
    exact this.trans p
  refine wp_seq ⟨[.sh (.scr ns), .sh (.obj 0), .sh (.int x), .sh (.str z), .sh (.str (dedup z)), t5, .ow (.lst ((es.map sw).map cmV)), s7, s8, s9, s10, shO o, .sh (.lst (ds.map cmV)), .sh (.lst (F.map PV.str)), .un, .un, .un], hp2⟩ ?_ ?_
  · simp only [↓wp_gOwn]
    refine wp_fMapG cmV (fun c => cmV (sw c)) ?_
    simp only [↓wp_fSeq, ↓wp_fCall, ↓wp_fCons, ↓wp_fRev, ↓wp_fVar, ↓slQ_zero, ↓slQ_succ, ↓wp_fNil, e83r, ↓wpC_ok]
    refine ⟨es, _, _, rfl, rfl, by simp, rfl, by omega, fun c hc => ?_, ?_⟩
    · obtain ⟨c1, c2⟩ := c
      have g0 : ∀ (st : Fs) (Q : PV → Prop), OpQ (ixP st (cmV (c1, c2)) (.int 0)) Q = Q (.str c1) := fun _ _ => rfl
      have g1 : ∀ (st : Fs) (Q : PV → Prop), OpQ (ixP st (cmV (c1, c2)) (.int 1)) Q = Q (.str c2) := fun _ _ => rfl
      simp only [List.set_cons_succ, List.set_cons_zero, ↓wp_fTup, ↓wp_fCons, ↓wp_fIx, ↓wp_fAt, ↓slQ_zero, ↓slQ_succ, ↓wp_fLoc, ↓wp_pure, ↓opQ_rdat, ↓opQ_rdval, g0, g1, ↓wp_fNil, lenOk_iff, sizeLine_val]
      exact ⟨by simp, rfl, trivial⟩
    · have e : (es.map fun c => cmV (sw c)) = (es.map sw).map cmV := by rw [List.map_map]; rfl
      rw [e]
      simp only [List.set_cons_succ, List.set_cons_zero]
      exact ⟨trivial, trivial⟩
  have g3 : ∀ Q : PV → Prop, OpQ (sortedP' [.lst ((es.map sw).map cmV)]) Q = Q (.lst (ds.map cmV)) := fun Q => by rw [sortedP'_ok (sok_cms _), esrt]
  have n1 : ∀ Q : PV → Prop, OpQ (neP (.lst (ds.map cmV)) (.lst (ds.map cmV))) Q = Q (.bl false) := fun Q => neP_self (data_cms ds)
  have n2 : ∀ Q : PV → Prop, OpQ (neP (.lst (F.map PV.str)) (.lst (F.map PV.str))) Q = Q (.bl false) := fun Q => neP_self (data_strl F)
  refine wp_seq ⟨[.sh (.scr ns), .sh (.obj 0), .sh (.int x), .sh (.str z), .sh (.str (dedup z)), t5, .ow (.lst ((es.map sw).map cmV)), s7, s8, s9, s10, shO o, .sh (.lst (ds.map cmV)), .sh (.lst (F.map PV.str)), .un, .un, .un], hp2⟩ ?_ ?_
  · simp only [↓wp_gIf, ↓wp_fOr, ↓wp_asB, ↓wp_fOp2, ↓wp_fLoc, ↓wp_fB, ↓wp_fOCons, ↓wp_fAt, ↓slQ_zero, ↓slQ_succ, ↓wp_fONil, ↓lsQ_cons, ↓lsQ_nil, ↓opQ_rdat, ↓opQ_rdval, g3, n1, Bool.false_eq_true, if_false, ↓wp_fCall, ↓wp_fCons, ↓wp_fRev, ↓wp_fVar, ↓wp_fNil, e84r, ↓wpC_ok, n2, ↓wp_gNx]
    exact ⟨trivial, trivial⟩
  generalize Slot.ow (.lst ((es.map sw).map cmV)) = s6'
  refine wp_seq' (fun s => ∃ (nm : S) (hp' : List Ob), (nm.length = 7 ∧ nm.Nodup ∧ ∀ c ∈ nm, c ∈ cCAPS) ∧ s = ⟨[.sh (.scr ns), .sh (.obj 0), .sh (.int x), .sh (.str z), .sh (.str (dedup z)), t5, s6', .sh (.str nm), s8, s9, s10, shO o, .sh (.lst (ds.map cmV)), .sh (.lst (F.map PV.str)), .un, .un, .un], hp'⟩ ∧ Pen (m + 800) [] hp') ?_ ?_
  · simp only [↓wp_gAsg, ↓wp_fCall, ↓wp_fCons, ↓wp_fVar, ↓wp_pure, ↓slQ_zero, ↓slQ_succ, ↓wp_fNil, ↓wp_fLst, lenOk_iff, sizeLine_val]
    refine ⟨by simp, ?_⟩
    refine wpC_imp (one_ok (n := m + 800) (E := fun _ _ => False) (by omega) (pen2.mono (by omega)) (by simp) (by simp)) (fun v b hp3 q => ?_) fun _ _ q => q.elim
    obtain ⟨hv, _, pen3⟩ := q
    obtain ⟨nm, rfl, h1⟩ := fresh_ok v hv
    simp only [↓uName_eq, ↓setQ_some, List.set_cons_succ, List.set_cons_zero]
    exact ⟨trivial, nm, hp3, h1, rfl, pen3⟩
  rintro s' ⟨nm, hp3, ⟨nl, nn, nc⟩, rfl, pen3⟩
  obtain ⟨dl, hdl2⟩ : ∃ dl : Nat, dl = (dedup z).length := ⟨_, rfl⟩
  refine wp_seq' (fun s => ∃ (os : S) (hp' : List Ob), (os.length = (dedup z).length ∧ os.Nodup ∧ ∀ c ∈ os, c ∈ cCAPS) ∧ s = ⟨[.sh (.scr ns), .sh (.obj 0), .sh (.int x), .sh (.str z), .sh (.str (dedup z)), t5, s6', .sh (.str nm), .ow (.lst (os.map ch)), s9, s10, shO o, .sh (.lst (ds.map cmV)), .sh (.lst (F.map PV.str)), .un, .un, .un], hp'⟩ ∧ Pen (m + 700) [] hp') ?_ ?_
  · simp only [↓wp_gOwn]
    refine wp_fMapG (fun (k : Nat) => PV.int k) (fun k => ch (nm.getD k 0)) ?_
    simp only [↓wp_fSeq, ↓wp_fCall, ↓wp_fCons, ↓wp_fVar, ↓slQ_zero, ↓slQ_succ, ↓wp_fB, ↓wp_fOCons, ↓wp_fAt, ↓wp_fONil, ↓lsQ_cons, ↓lsQ_nil, ↓opQ_rdat, ↓lenP_str, ↓wp_fNil, ← hdl2]
    refine wpC_imp (drawn_ok (n := m + 700) (m := dl) (E := fun _ _ => False) (by omega) (by omega) (pen3.mono (by omega))) (fun v b hp4 q => ?_) fun _ _ q => q.elim
    obtain ⟨ks, rfl, _, pk, pen4⟩ := q
    have hkl : ks.length = dl := by rw [pk.length_eq, List.length_range]
    have hkn : ks.Nodup := pk.nodup_iff.mpr List.nodup_range
    have hlt := perm_ne pk
    refine ⟨ks, _, _, rfl, rfl, by simp, rfl, by omega, fun k hk => ?_, ?_⟩
    · have hk7 : k < nm.length := by have := hlt k hk; omega
      have g : ∀ (st : Fs) (Q : PV → Prop), OpQ (ixP st (.str nm) (.int (k : Nat))) Q = Q (ch (nm.getD k 0)) := fun st Q => by
        rw [ixP_str, atI_nat hk7, List.getD_eq_getElem?_getD, List.getElem?_eq_getElem hk7]
        rfl
      simp only [List.set_cons_succ, List.set_cons_zero, ↓wp_fIx, ↓wp_fAt, ↓slQ_zero, ↓slQ_succ, ↓opQ_rdat, g]
      exact ⟨trivial, trivial⟩
    · have e : (ks.map fun k => ch (nm.getD k 0)) = (ks.map fun k => nm.getD k 0).map ch := by rw [List.map_map]; rfl
      rw [e]
      have gd : ∀ k ∈ ks, ∃ h : k < nm.length, nm.getD k 0 = nm[k] := fun k hk => by
        have hk7 : k < nm.length := by have := hlt k hk; omega
        exact ⟨hk7, by rw [List.getD_eq_getElem?_getD, List.getElem?_eq_getElem hk7]; rfl⟩
      simp only [List.set_cons_succ, List.set_cons_zero]
      refine ⟨trivial, ks.map fun k => nm.getD k 0, hp4, ⟨by rw [List.length_map, hkl, hdl2], nodup_map hkn fun a ha b hb e => ?_, fun c hc => ?_⟩, rfl, pen4⟩
      · obtain ⟨h1, e1⟩ := gd a ha
        obtain ⟨h2, e2⟩ := gd b hb
        rw [e1, e2] at e
        exact (List.getElem_inj nn).mp e
      · obtain ⟨k, hk, rfl⟩ := List.mem_map.mp hc
        obtain ⟨h1, e1⟩ := gd k hk
        rw [e1]
        exact nc _ (List.getElem_mem h1)
  rintro s' ⟨os, hp4, ⟨ol, on, oc⟩, rfl, pen4⟩
  obtain ⟨f, hf⟩ : ∃ f : Nat → Nat, f = fun c => os.getD (idx (dedup z) c) 0 := ⟨_, rfl⟩
  have fget : ∀ c ∈ z, ∃ h : idx (dedup z) c < os.length, f c = os[idx (dedup z) c] := fun c hc => by
    obtain ⟨h, _⟩ := idx_lt (mem_dedup.mpr hc)
    have h2 : idx (dedup z) c < os.length := by omega
    exact ⟨h2, by rw [hf]; show os.getD _ 0 = _; rw [List.getD_eq_getElem?_getD, List.getElem?_eq_getElem h2]; rfl⟩
  have fi : InjOn f z := fun a ha b hb e => by
    obtain ⟨h1, e1⟩ := fget a ha
    obtain ⟨h2, e2⟩ := fget b hb
    rw [e1, e2] at e
    exact idx_inj (mem_dedup.mpr ha) (mem_dedup.mpr hb) ((List.getElem_inj on).mp e)
  have fc : ∀ c ∈ z, f c ∈ cCAPS := fun c hc => by
    obtain ⟨h1, e1⟩ := fget c hc
    rw [e1]
    exact oc _ (List.getElem_mem h1)
  have hzm : Pat (z.map f) := pat_map hz fc (by rw [dedup_map fi, List.length_map]; exact hfew)
  obtain ⟨gs, pdm⟩ := pd_of hzm
  have e13 : ∀ (t : S) (hp : List Ob), t.length ≤ 1000 → (∀ c ∈ t, c ∈ z) → G T 19 13 [.str t, .str (dedup z), .lst (os.map ch)] hp = .ok (.str (t.map f)) false hp := fun t hp h1 h2 => by
    rw [hf]
    exact e_ren (by omega) h1 ol fun c hc => mem_dedup.mpr (h2 c hc)
  have e13z := e13 z hp4 (by omega) fun _ h => h
  refine wp_seq ⟨[.sh (.scr ns), .sh (.obj 0), .sh (.int x), .sh (.str z), .sh (.str (dedup z)), t5, s6', .sh (.str nm), .sh (.lst (os.map ch)), .sh (.str (z.map f)), s10, shO o, .sh (.lst (ds.map cmV)), .sh (.lst (F.map PV.str)), .un, .un, .un], hp4⟩ (by simp [e13z]) ?_
  obtain ⟨D, hD⟩ : ∃ D : List S, D = F.map fun w => isort (w.map f) := ⟨_, rfl⟩
  have wz : ∀ w ∈ F, w.length ≤ 7 ∧ ∀ c ∈ w, c ∈ z := fun w hw => by
    have h1 := (ls_ok hz (hFm w hw).1)
    exact ⟨h1.2.2, fun c hc => mem_dedup.mp (isort_mem.mp ((setsL_mem.mp (hFm w hw).1).2.subset hc))⟩
  refine wp_seq ⟨[.sh (.scr ns), .sh (.obj 0), .sh (.int x), .sh (.str z), .sh (.str (dedup z)), t5, s6', .sh (.str nm), .sh (.lst (os.map ch)), .sh (.str (z.map f)), .ow (.lst (D.map PV.str)), shO o, .sh (.lst (ds.map cmV)), .sh (.lst (F.map PV.str)), .un, .un, .un], hp4⟩ ?_ ?_
  · simp only [↓wp_gOwn]
    refine wp_fMapG PV.str (fun w => PV.str (isort (w.map f))) ?_
    simp only [↓wp_fSeq, ↓wp_fVar, ↓slQ_zero, ↓slQ_succ]
    refine ⟨F, _, _, rfl, rfl, by simp, okV11, by omega, fun w hw => ?_, ?_⟩
    · obtain ⟨w1, w2⟩ := wz w hw
      have a1 := e13 w hp4 (by omega) w2
      have nd : (w.map f).Nodup := by
        have hn2 : w.Nodup := (setsL_mem.mp (hFm w hw).1).2.nodup (isort_nodup (nodup_dedup z))
        exact nodup_map hn2 fun a ha b hb => fi a (w2 a ha) b (w2 b hb)
      have a2 := e_setS (d := 19) (z := w.map f) (hp := hp4) (by omega) (by rw [List.length_map]; omega)
      rw [dedup_self nd] at a2
      simp only [List.set_cons_succ, List.set_cons_zero, ↓wp_fCall, ↓wp_fCons, ↓wp_fVar, ↓slQ_zero, ↓slQ_succ, ↓wp_fNil, a1, a2, ↓wpC_ok]
      exact ⟨trivial, trivial⟩
    · have e : (F.map fun w => PV.str (isort (w.map f))) = D.map PV.str := by rw [hD, List.map_map]; rfl
      rw [e]
      simp only [List.set_cons_succ, List.set_cons_zero]
      exact ⟨trivial, trivial⟩
  have e84m := pdm.e84 (d := 19) (hp := hp4) (by omega)
  have pm := free_ren pd fi pdm
  rw [← hF, ← hD] at pm
  obtain ⟨M, hM⟩ : ∃ M, M = freeL gs (isort (dedup (z.map f))) := ⟨_, rfl⟩
  rw [← hM] at e84m pm
  have g5 : ∀ Q : PV → Prop, OpQ (sortedP' [.lst (M.map PV.str)]) Q = Q (.lst (srt (D.map PV.str))) := fun Q => by rw [sortedP'_ok (sok_strs _), srt_strs pm]
  have g6 : ∀ Q : PV → Prop, OpQ (sortedP' [.lst (D.map PV.str)]) Q = Q (.lst (srt (D.map PV.str))) := fun Q => sortedP'_ok (sok_strs _)
  have dsr : data 60 (.lst (srt (D.map PV.str))) = true := by
    show (srt (D.map PV.str)).all (data 59) = true
    rw [List.all_eq_true]
    intro y hy
    obtain ⟨w, _, rfl⟩ := List.mem_map.mp ((srt_perm _).mem_iff.mp hy)
    rfl
  have n3 : ∀ Q : PV → Prop, OpQ (neP (.lst (srt (D.map PV.str))) (.lst (srt (D.map PV.str)))) Q = Q (.bl false) := fun Q => neP_self dsr
  refine wp_seq ⟨[.sh (.scr ns), .sh (.obj 0), .sh (.int x), .sh (.str z), .sh (.str (dedup z)), t5, s6', .sh (.str nm), .sh (.lst (os.map ch)), .sh (.str (z.map f)), .ow (.lst (D.map PV.str)), shO o, .sh (.lst (ds.map cmV)), .sh (.lst (F.map PV.str)), .un, .un, .un], hp4⟩ ?_ ?_
  · simp only [↓wp_gIf, ↓wp_asB, ↓wp_fOp2, ↓wp_fLoc, ↓wp_fB, ↓wp_fOCons, ↓wp_fCall, ↓wp_fCons, ↓wp_fVar, ↓slQ_zero, ↓slQ_succ, ↓wp_fNil, e84m, ↓wpC_ok, ↓wp_fONil, ↓lsQ_cons, ↓lsQ_nil, ↓opQ_rdval, g5, ↓wp_fAt, ↓opQ_rdat, g6, n3, Bool.false_eq_true, if_false, ↓wp_gNx]
    exact ⟨trivial, trivial⟩
  have hcut : cut (F.map PV.str) (some (-3)) none = (F.drop (F.length - 3)).map PV.str := by rw [cut_m3, List.length_map, List.map_drop]
  simp only [↓wp_gFor, ↓wp_fSeq, ↓wp_fCut, ↓wp_fAt, ↓slQ_zero, ↓slQ_succ, ↓wp_fSome, ↓wp_fNeg, ↓wp_pure, ↓wp_fNone, ↓opQ_rdat, ↓cutP_lst, hcut]
  refine wp_loopG (zs := F.drop (F.length - 3)) PV.str (fun done s => ∃ o : Option PV, s = ⟨[.sh (.scr ns), .sh (.obj 0), .sh (.int x), .sh (.str z), .sh (.str (dedup z)), t5, s6', .sh (.str nm), .sh (.lst (os.map ch)), .sh (.str (z.map f)), .ow (.lst (D.map PV.str)), shO o, .sh (.lst (ds.map cmV)), .sh (.lst (F.map PV.str)), .un, .un, .un], hp4⟩) rfl ⟨o, rfl⟩ ?_ (fun s ⟨o, e⟩ => ⟨hp4, _, _, _, _, _, _, _, _, _, _, _, o, e, pen4.mono (by simp; omega)⟩)
  rintro done3 w rest3 s hc ⟨o, rfl⟩
  have hwF : w ∈ F := List.mem_of_mem_drop (by rw [hc]; simp : w ∈ F.drop (F.length - 3))
  obtain ⟨w1, w2⟩ := wz w hwF
  have wfree := (hFm w hwF).2
  simp only [↓uName_eq, ↓setQ_some, List.set_cons_succ, List.set_cons_zero]
  refine wp_seq ⟨[.sh (.scr ns), .sh (.obj 0), .sh (.int x), .sh (.str z), .sh (.str (dedup z)), t5, s6', .sh (.str nm), .sh (.lst (os.map ch)), .sh (.str (z.map f)), .ow (.lst (D.map PV.str)), .sh (.str w), .sh (.lst (ds.map cmV)), .sh (.lst (F.map PV.str)), .un, .un, .un], hp4⟩ ?_ ?_
  · simp only [↓wp_gIf, ↓wp_asB, ↓wp_fOp2, ↓wp_fLoc]
    refine wp_fFil ch (fun _ => false) ch ?_
    simp only [↓wp_fSeq, ↓wp_fVar, ↓slQ_zero, ↓slQ_succ]
    refine ⟨w, _, _, rfl, rfl, by simp, rfl, by omega, fun c hc => ?_, fun c hc h => absurd h Bool.false_ne_true, ?_⟩
    · have hcz := w2 c hc
      have lb : lsB z (ch c) = true := by
        show (!decide ([c] = []) && decide (isort (dedup [c]) = [c]) && [c].all fun c => decide (c ∈ z)) = true
        have e1 : isort (dedup [c]) = [c] := rfl
        rw [e1]
        simp [hcz]
      have e := e_isFree (d := 19) (z := z) (ds := ds) (y := ch c) (hp := hp4) (by omega) pd hpat rfl (by show [c].length ≤ 1000; simp)
      rw [if_pos lb] at e
      have e2 : freeC ds (unS (ch c)) = true := freeC_mono (w := w) (fun b hb => by
        have : b = c := List.mem_singleton.mp hb
        rw [this]; exact hc) wfree
      rw [e2] at e
      simp only [List.set_cons_succ, List.set_cons_zero, ↓wp_fNot, ↓wp_asB, ↓wp_fCall, ↓wp_fCons, ↓wp_fVar, ↓slQ_zero, ↓slQ_succ, ↓wp_fNil, e, ↓wpC_ok]
      exact ⟨rfl, trivial⟩
    · have e0 : w.filter (fun _ => false) = [] := by simp
      rw [e0]
      simp only [↓wp_fLst, ↓wp_fNil, ↓opQ_rdval, neP_nil]
      refine ⟨lenOk_of (by simp), ?_⟩
      simp
  · simp only [↓wp_gIf, ↓wp_asB, ↓wp_fOp2, ↓wp_fLoc]
    refine wp_fFil (fun (k : Nat) => PV.int k) (fun _ => false) (fun (k : Nat) => PV.int k) ?_
    simp only [↓wp_fRng1, ↓wp_fCons, ↓wp_fNil, ↓wp_fOp2, ↓wp_fLoc, ↓wp_fB, ↓wp_fOCons, ↓wp_fONil, ↓wp_fAt, ↓slQ_zero, ↓slQ_succ, ↓opQ_rdat, ↓lsQ_cons, ↓lsQ_nil, ↓lenP_str, ↓wp_pure, ↓opQ_rdval, ↓subP_int]
    obtain ⟨m2, hm2, e4⟩ := len1 hne
    rw [e4]
    have hrl : (rng1 (m2 : Int)) = (List.range m2).map fun (k : Nat) => PV.int k := rng_map m2
    refine ⟨inR_small (by omega) (by omega), List.range m2, _, _, hrl, rfl, by simp, rfl, by simp; omega, fun k hk => ?_, fun k hk h => absurd h Bool.false_ne_true, ?_⟩
    · have hk2 := List.mem_range.mp hk
      have k0 : k < z.length := by omega
      have k1 : k + 1 < z.length := by omega
      have gd : ∀ i (hi : i < z.length), z.getD i 0 = z[i] := fun i hi => by rw [List.getD_eq_getElem?_getD, List.getElem?_eq_getElem hi]; rfl
      have gx : ∀ (i : Nat) (hi : i < z.length) (st : Fs) (Q : PV → Prop), OpQ (ixP st (.str z) (.int (i : Nat))) Q = Q (ch (z.getD i 0)) := fun i hi st Q => by
        rw [ixP_str, atI_nat hi, gd i hi]
        rfl
      have gx0 := gx k k0
      have gx1 := gx (k + 1) k1
      obtain ⟨k', hk'⟩ : ∃ k' : Nat, k' = k + 1 := ⟨_, rfl⟩
      have ek : (k : Int) + 1 = (k' : Int) := by omega
      rw [← hk'] at gx1
      have hadj := free_adj pd wfree (a := z.getD k 0) (b := z.getD k' 0) (by rw [hk']; exact adj_mem.mpr ⟨k, k1, rfl, rfl⟩)
      simp only [List.set_cons_succ, List.set_cons_zero, ↓wp_fAnd, ↓wp_asB, ↓wp_fOp2, ↓wp_fLoc, ↓wp_fIx, ↓wp_fAt, ↓slQ_zero, ↓slQ_succ, ↓wp_pure, ↓opQ_rdat, ↓opQ_rdval, gx0, ↓inP_ch, ↓addP_int, ek, gx1]
      by_cases h1 : z.getD k 0 ∈ w
      · have h2 : z.getD k' 0 ∉ w := fun h => hadj ⟨h1, h⟩
        rw [decide_eq_true h1, if_pos rfl, decide_eq_false h2]
        refine ⟨?_, ?_⟩ <;> first | trivial | rfl
      · rw [decide_eq_false h1, if_neg Bool.false_ne_true]
        refine ⟨?_, ?_⟩ <;> first | trivial | rfl
    · have e0 : (List.range m2).filter (fun _ => false) = [] := by simp
      rw [e0]
      have nn0 : ∀ Q : PV → Prop, OpQ (neP (.lst []) (.lst [])) Q = Q (.bl false) := fun Q => rfl
      simp only [List.map_nil, ↓wp_fLst, ↓wp_fNil, ↓opQ_rdval, nn0, Bool.false_eq_true, if_false, ↓wp_gNx]
      exact ⟨lenOk_of (by simp), some (.str w), rfl⟩
end Mi
end S_K16
section S_Zz_k16
set_option Elab.async false
theorem PySem.Challenge.cw_surepatterns_k16_whole_free_sets_of_chan_holds : PySem.Challenge.rw_surepatterns_k16_whole_free_sets_of_chan.Holds :=
  Mi.fin Mi.law_ok
end S_Zz_k16
