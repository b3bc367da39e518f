import PyProof.Rows.All
import Wide.All
import OpenK.AllK
import Wide.FinOn
import KE.KStateDown
import HandS.ForMost
import HandS.Exc
import HandS.WordsExc
import HandS.ExcOwn
import HandS.TryOnly
import HandS.ExcIs
import HandS.ExcValue
import HandS.Defaults
import HandS.Wide
import HandS.Flow
import HandS.WideBits
import HandS.SortInts
import HandS.IsInst
import HandS.HeadHook2
import HandS.CallSlots
import HandS.Conv
import HandS.HotCalls
import HandS.MapSum
import HandS.RaiseMore
import HandS.HeadEnd
import HandS.Head2
import HandS.Head0
import HandS.Head1
import HandS.HeadHook1
import HandS.Style
import HandS.SetFor
import KE.BitLaws
import PySem.Challenge.RW_healhalves_k81_nothing_heard
set_option Elab.async false
set_option linter.all false
set_option maxRecDepth 100000
/-! AL1: abstract values, the memory of mutable objects, what stands for them in HandS's heap, the readings of expressions and statements over them. -/
namespace AL
open PySem PySem.Spec PyProof.Rows L2

/-- abstract values: lst, tup: data that never change any more; frz: the script; loc: a mutable object of the memory; exc: an exception that was caught; fn: a def by its name -/
inductive A where
  | non | bl (b : Bool) | int (i : Int) | str (x : Str) | lst (xs : List A) | tup (xs : List A) | frz (xs : List A) | loc (n : Nat) | exc (c : Nat) | fn (x : Str)
inductive MO where
  | lst (xs : List A) | ins (c : Nat) (fs : List (Nat × A)) | dic (kvs : List (Str × A)) | gone
abbrev Mem := List MO
abbrev Ro := List (Option A)
inductive R (α : Type) where
  | ok (a : α) (M : Mem) | err (c : Nat) (M : Mem) | stuck
def R.bind {α β : Type} (r : R α) (f : α → Mem → R β) : R β := match r with
  | .ok a M => f a M
  | .err c M => .err c M
  | .stuck => .stuck
/-- the classes and the fields by number -/
def clsN : List Str := ["HealError", "NoSize", "NoCore", "NoPlace", "NoNet", "NoLoss", "NoNumber", "NoRoad", "NoTurn", "NoCode", "NoData", "NoCame", "TooMany", "NoSeals", "NoPlan", "NoSign", "Clash", "NoDeed", "NoText", "NoRow", "NoName", "Solving", "Receiver", "Seat", "Desk"]
def clsS (n : Nat) : Str := clsN.getD n ""
def fldN : List Str := ["kept_rows", "kept_code", "kept_came", "kept_order", "my_code", "my_receiver", "seats"]
def fldS (n : Nat) : Str := fldN.getD n ""
theorem fldS_inj : ∀ i j : Fin 7, fldS i.val = fldS j.val → i = j := by decide +kernel

/-! ### what stands for them -/
def excHO (C : Value) (p : Addr) : HO := .ext fun h => ∃ (oe : Obj) (vs : Array Value), h.get? p = some oe ∧ Zc C none oe ∧ oe.data = .fields vs
section
variable (K : PySem.W.Frag) (mg : Str → Option Value)
mutual
def Rp (F : Hp) (io : List Addr) : A → V → Prop
  | .non, v => v = .non
  | .bl b, v => v = .bl b
  | .int i, v => v = .int i
  | .str x, v => v = .str x
  | .lst xs, v => ∃ p vs, v = .ref p ∧ F p = some (.lst vs) ∧ Rps F io xs vs
  | .tup xs, v => ∃ p vs, v = .ref p ∧ SqT K F p vs ∧ Rps F io xs vs
  | .frz xs, v => ∃ p vs, v = .ref p ∧ SqL K F p vs ∧ Rps F io xs vs
  | .loc n, v => ∃ p, v = .ref p ∧ io[n]? = some p
  | .exc c, v => ∃ p C, v = .ref p ∧ mg (clsS c) = some (.ref C) ∧ F p = some (excHO (.ref C) p)
  | .fn x, v => ∃ f, v = .ref f ∧ mg x = some (.ref f)
def Rps (F : Hp) (io : List Addr) : List A → List V → Prop
  | [], vs => vs = []
  | a :: r, vs => ∃ v vr, vs = v :: vr ∧ Rp F io a v ∧ Rps F io r vr
end
def FldOk (F : Hp) (io : List Addr) (fs : List (Nat × A)) (gs : List (Str × V)) : Prop :=
  (∀ f, f < 7 → match fs.lookup f with
    | some a => ∃ v, gs.lookup (fldS f) = some v ∧ Rp K mg F io a v
    | none => gs.lookup (fldS f) = none) ∧ (∀ m, (∀ f, f < 7 → fldS f ≠ m) → gs.lookup m = none) ∧ gs.length ≤ fs.length
def DicOk (F : Hp) (io : List Addr) : List (Str × A) → List (Key × V) → Prop
  | [], gs => gs = []
  | (k, a) :: r, gs => ∃ v gr, gs = (.inr k, v) :: gr ∧ Rp K mg F io a v ∧ DicOk F io r gr
def MoOk (F : Hp) (io : List Addr) (H : Hp) (p : Addr) : MO → Prop
  | .lst xs => ∃ vs, H p = some (.lst vs) ∧ Rps K mg F io xs vs
  | .ins c fs => ∃ C dx gs, mg (clsS c) = some (.ref C) ∧ H p = some (.ins C dx gs) ∧ FldOk K mg F io fs gs
  | .dic kvs => ∃ gs, H p = some (.dK gs) ∧ DicOk K mg F io kvs gs
  | .gone => True
/-- the memory stands in the heap H; F: the part that never changes; io: where the objects stand -/
structure MR (F : Hp) (io : List Addr) (M : Mem) (H : Hp) : Prop where
  sub : Same F H
  len : io.length = M.length
  nd : io.Nodup
  nn : ∀ p, p ∈ io → H p ≠ none
  obj : ∀ (n : Nat) (p : Addr) (o : MO), io[n]? = some p → M[n]? = some o → (o = .gone ∨ F p = none) ∧ MoOk K mg F io H p o
end
/-- from one state to a later one -/
structure Ext (F : Hp) (io : List Addr) (H : Hp) (F' : Hp) (io' : List Addr) (H' : Hp) : Prop where
  fr : Same F F'
  pre : ∀ (n : Nat) (p : Addr), io[n]? = some p → io'[n]? = some p
  keep : ∀ p o, p ∉ io → H p = some o → H' p = some o
  there : ∀ p, H p ≠ none → H' p ≠ none
  newI : ∀ p, p ∈ io' → p ∈ io ∨ H p = none
  newF : ∀ p o, F' p = some o → F p = some o ∨ p ∈ io ∨ H p = none

section
variable {K : PySem.W.Frag} {mg : Str → Option Value} {F F' F'' : Hp} {io io' io'' : List Addr} {H H' H'' : Hp} {M M' : Mem}
theorem Ext.refl : Ext F io H F io H := ⟨fun _ _ h => h, fun _ _ h => h, fun _ _ _ h => h, fun _ h => h, fun _ h => .inl h, fun _ _ h => .inl h⟩
theorem Ext.trans (a : Ext F io H F' io' H') (b : Ext F' io' H' F'' io'' H'') : Ext F io H F'' io'' H'' where
  fr := a.fr.trans b.fr
  pre := fun n p h => b.pre n p (a.pre n p h)
  keep := fun p o hp h => by
    refine b.keep p o (fun hi => ?_) (a.keep p o hp h)
    rcases a.newI p hi with z | z
    · exact hp z
    · rw [z] at h; cases h
  there := fun p h => b.there p (a.there p h)
  newI := fun p h => by
    rcases b.newI p h with z | z
    · exact a.newI p z
    · by_cases q : H p = none
      · exact .inr q
      · exact absurd z (a.there p q)
  newF := fun p o h => by
    rcases b.newF p o h with z | z | z
    · exact a.newF p o z
    · rcases a.newI p z with q | q
      · exact .inr (.inl q)
      · exact .inr (.inr q)
    · by_cases q : H p = none
      · exact .inr (.inr q)
      · exact absurd z (a.there p q)
theorem Same.sqT {a : Addr} {xs : List V} (e : Same F F') (h : SqT K F a xs) : SqT K F' a xs := by
  rcases h with (h | ⟨o, h⟩) | h
  · exact .inl (.inl (e _ _ h))
  · exact .inl (.inr ⟨o, e _ _ h⟩)
  · exact .inr h
mutual
theorem Rp.mono (e : Same F F') (pre : ∀ (n : Nat) (p : Addr), io[n]? = some p → io'[n]? = some p) : ∀ {a : A} {v : V}, Rp K mg F io a v → Rp K mg F' io' a v
  | .non, _, h => h
  | .bl _, _, h => h
  | .int _, _, h => h
  | .str _, _, h => h
  | .lst _, _, ⟨p, vs, h1, h2, h3⟩ => ⟨p, vs, h1, e _ _ h2, Rps.mono e pre h3⟩
  | .tup _, _, ⟨p, vs, h1, h2, h3⟩ => ⟨p, vs, h1, Same.sqT e h2, Rps.mono e pre h3⟩
  | .frz _, _, ⟨p, vs, h1, h2, h3⟩ => ⟨p, vs, h1, e.seq h2, Rps.mono e pre h3⟩
  | .loc _, _, ⟨p, h1, h2⟩ => ⟨p, h1, pre _ _ h2⟩
  | .exc _, _, ⟨p, C, h1, h2, h3⟩ => ⟨p, C, h1, h2, e _ _ h3⟩
  | .fn _, _, h => h
theorem Rps.mono (e : Same F F') (pre : ∀ (n : Nat) (p : Addr), io[n]? = some p → io'[n]? = some p) : ∀ {as : List A} {vs : List V}, Rps K mg F io as vs → Rps K mg F' io' as vs
  | [], _, h => h
  | _ :: _, _, ⟨v, vr, h1, h2, h3⟩ => ⟨v, vr, h1, Rp.mono e pre h2, Rps.mono e pre h3⟩
end
theorem Rps.length : ∀ {as : List A} {vs : List V}, Rps K mg F io as vs → as.length = vs.length
  | [], _, h => by cases h; rfl
  | _ :: _, _, ⟨v, vr, h1, _, h3⟩ => by subst h1; simp [Rps.length h3]
theorem Rps.get : ∀ {as : List A} {vs : List V} {i : Nat} {a : A}, Rps K mg F io as vs → as[i]? = some a → ∃ v, vs[i]? = some v ∧ Rp K mg F io a v
  | [], _, i, a, h, e => by simp at e
  | b :: r, _, 0, a, ⟨v, vr, h1, h2, h3⟩, e => by
    subst h1
    have : b = a := by simpa using e
    subst this
    exact ⟨v, rfl, h2⟩
  | b :: r, _, i + 1, a, ⟨v, vr, h1, h2, h3⟩, e => by
    subst h1
    obtain ⟨w, q1, q2⟩ := Rps.get (i := i) (a := a) h3 (by simpa using e)
    exact ⟨w, by simpa using q1, q2⟩
theorem Rps.getV : ∀ {as : List A} {vs : List V} {i : Nat} {v : V}, Rps K mg F io as vs → vs[i]? = some v → ∃ a, as[i]? = some a ∧ Rp K mg F io a v := fun {as vs i v} h e => by
  have hl := h.length
  have hi : i < vs.length := (List.getElem?_eq_some_iff.mp e).1
  have ha : as[i]? = some (as[i]'(by omega)) := by simp
  obtain ⟨w, q1, q2⟩ := h.get ha
  rw [e] at q1
  cases q1
  exact ⟨_, ha, q2⟩
theorem Rps.append : ∀ {as bs : List A} {vs ws : List V}, Rps K mg F io as vs → Rps K mg F io bs ws → Rps K mg F io (as ++ bs) (vs ++ ws)
  | [], _, _, _, h, h' => by cases h; exact h'
  | _ :: _, _, _, _, ⟨v, vr, h1, h2, h3⟩, h' => by subst h1; exact ⟨v, _, rfl, h2, h3.append h'⟩
theorem Rps.take : ∀ {as : List A} {vs : List V} (n : Nat), Rps K mg F io as vs → Rps K mg F io (as.take n) (vs.take n)
  | _, _, 0, _ => by simp [Rps]
  | [], _, n + 1, h => by cases h; simp [Rps]
  | _ :: _, _, n + 1, ⟨v, vr, h1, h2, h3⟩ => by subst h1; exact ⟨v, _, rfl, h2, h3.take n⟩
theorem Rps.drop : ∀ {as : List A} {vs : List V} (n : Nat), Rps K mg F io as vs → Rps K mg F io (as.drop n) (vs.drop n)
  | _, _, 0, h => h
  | [], _, n + 1, h => by cases h; simp [Rps]
  | _ :: _, _, n + 1, ⟨v, vr, h1, h2, h3⟩ => by subst h1; exact h3.drop n
theorem Rps.set {a : A} {v : V} (r : Rp K mg F io a v) : ∀ {as : List A} {vs : List V} (n : Nat), Rps K mg F io as vs → Rps K mg F io (as.set n a) (vs.set n v)
  | [], _, n, h => by cases h; exact rfl
  | _ :: _, _, 0, ⟨w, vr, h1, h2, h3⟩ => by subst h1; exact ⟨v, _, rfl, r, h3⟩
  | _ :: _, _, n + 1, ⟨w, vr, h1, h2, h3⟩ => by subst h1; exact ⟨w, _, rfl, h2, h3.set r n⟩
theorem Rps.erase : ∀ {as : List A} {vs : List V} (n : Nat), Rps K mg F io as vs → Rps K mg F io (as.eraseIdx n) (vs.eraseIdx n)
  | [], _, n, h => by cases h; exact rfl
  | _ :: _, _, 0, ⟨w, vr, h1, h2, h3⟩ => by subst h1; exact h3
  | _ :: _, _, n + 1, ⟨w, vr, h1, h2, h3⟩ => by subst h1; exact ⟨w, _, rfl, h2, h3.erase n⟩
theorem Rps.one {a : A} {v : V} (r : Rp K mg F io a v) : Rps K mg F io [a] [v] := ⟨v, [], rfl, r, rfl⟩
theorem Rps.reverse : ∀ {as : List A} {vs : List V}, Rps K mg F io as vs → Rps K mg F io as.reverse vs.reverse
  | [], _, h => by cases h; exact rfl
  | _ :: _, _, ⟨w, vr, h1, h2, h3⟩ => by
    subst h1
    rw [List.reverse_cons, List.reverse_cons]
    exact h3.reverse.append (Rps.one h2)
theorem Rps.rep {as : List A} {vs : List V} (h : Rps K mg F io as vs) : ∀ k : Nat, Rps K mg F io (List.replicate k as).flatten (List.replicate k vs).flatten
  | 0 => rfl
  | k + 1 => by
    rw [List.replicate_succ, List.replicate_succ, List.flatten_cons, List.flatten_cons]
    exact h.append (Rps.rep h k)
theorem FldOk.mono (e : Same F F') (pre : ∀ (n : Nat) (p : Addr), io[n]? = some p → io'[n]? = some p) {fs : List (Nat × A)} {gs : List (Str × V)} (h : FldOk K mg F io fs gs) : FldOk K mg F' io' fs gs := by
  refine ⟨fun f hf => ?_, h.2⟩
  have q := h.1 f hf
  split at q
  · obtain ⟨v, q1, q2⟩ := q
    exact ⟨v, q1, Rp.mono e pre q2⟩
  · exact q
theorem DicOk.mono (e : Same F F') (pre : ∀ (n : Nat) (p : Addr), io[n]? = some p → io'[n]? = some p) : ∀ {fs : List (Str × A)} {gs : List (Key × V)}, DicOk K mg F io fs gs → DicOk K mg F' io' fs gs
  | [], _, h => h
  | (_, _) :: _, _, ⟨v, gr, h1, h2, h3⟩ => ⟨v, gr, h1, Rp.mono e pre h2, DicOk.mono e pre h3⟩
/-- an object whose cell stays is still there -/
theorem MoOk.mono (e : Same F F') (pre : ∀ (n : Nat) (p : Addr), io[n]? = some p → io'[n]? = some p) {p : Addr} (hp : H' p = H p) : ∀ {o : MO}, MoOk K mg F io H p o → MoOk K mg F' io' H' p o
  | .lst _, ⟨vs, h1, h2⟩ => ⟨vs, hp.trans h1, Rps.mono e pre h2⟩
  | .ins _ _, ⟨C, dx, gs, h1, h2, h3⟩ => ⟨C, dx, gs, h1, hp.trans h2, FldOk.mono e pre h3⟩
  | .dic _, ⟨gs, h1, h2⟩ => ⟨gs, hp.trans h1, DicOk.mono e pre h2⟩
  | .gone, _ => trivial
theorem mem_io {n : Nat} {p : Addr} (h : io[n]? = some p) : p ∈ io := List.mem_of_getElem? h
theorem io_inj (nd : io.Nodup) {n m : Nat} {p : Addr} (h : io[n]? = some p) (h' : io[m]? = some p) : n = m := nd_ix nd h h'

/-! ### steps of the memory -/
/-- the heap grows by cells that nobody speaks of -/
theorem MR.grow (m : MR K mg F io M H) (s : Same H H') : MR K mg F io M H' where
  sub := m.sub.trans s
  len := m.len
  nd := m.nd
  nn := fun p hp e => by
    cases q : H p with
    | none => exact m.nn p hp q
    | some o => rw [s p o q] at e; cases e
  obj := fun n p o h1 h2 => by
    obtain ⟨a, b⟩ := m.obj n p o h1 h2
    refine ⟨a, MoOk.mono (fun _ _ z => z) (fun _ _ z => z) ?_ b⟩
    cases q : H p with
    | none => exact absurd q (m.nn p (mem_io h1))
    | some u => exact s p u q
theorem Ext.grow (s : Same H H') : Ext F io H F io H' where
  fr := fun _ _ z => z
  pre := fun _ _ z => z
  keep := fun p o _ h => s p o h
  there := fun p h e => by
    cases q : H p with
    | none => exact h q
    | some o => rw [s p o q] at e; cases e
  newI := fun _ h => .inl h
  newF := fun _ _ h => .inl h
theorem same_upd {p : Addr} {o : HO} (h : H p = none) : Same H (upd H p o) := fun b u e => by rw [upd_ne (ne_of_none e h)]; exact e
theorem F_none (m : MR K mg F io M H) {p : Addr} (h : H p = none) : F p = none := m.sub.free h
theorem io_not (m : MR K mg F io M H) {p : Addr} (h : H p = none) : p ∉ io := fun z => m.nn p z h
/-- a new cell that never changes -/
theorem MR.cell (m : MR K mg F io M H) {p : Addr} {o : HO} (h : H p = none) : MR K mg (upd F p o) io M (upd H p o) where
  sub := fun b u e => by
    by_cases hb : b = p
    · subst hb; rw [upd_same] at e ⊢; exact e
    · rw [upd_ne hb] at e ⊢; exact m.sub b u e
  len := m.len
  nd := m.nd
  nn := fun q hq e => by
    have hqp : q ≠ p := fun z => io_not m h (z ▸ hq)
    rw [upd_ne hqp] at e
    exact m.nn q hq e
  obj := fun n q u h1 h2 => by
    obtain ⟨a, b⟩ := m.obj n q u h1 h2
    have hqp : q ≠ p := fun z => io_not m h (z ▸ mem_io h1)
    refine ⟨a.imp id fun z => by rw [upd_ne hqp]; exact z, MoOk.mono (same_upd (F_none m h)) (fun _ _ z => z) (upd_ne hqp) b⟩
theorem Ext.cell (m : MR K mg F io M H) {p : Addr} {o : HO} (h : H p = none) : Ext F io H (upd F p o) io (upd H p o) where
  fr := same_upd (F_none m h)
  pre := fun _ _ z => z
  keep := fun q u _ e => same_upd h q u e
  there := fun q e z => by
    by_cases hq : q = p
    · subst hq; rw [upd_same] at z; cases z
    · rw [upd_ne hq] at z; exact e z
  newI := fun _ h => .inl h
  newF := fun q u e => by
    by_cases hq : q = p
    · subst hq; exact .inr (.inr h)
    · rw [upd_ne hq] at e; exact .inl e
/-- a new object of the memory -/
theorem MR.alloc (m : MR K mg F io M H) {p : Addr} {o : HO} {mo : MO} (h : H p = none) (ok : MoOk K mg F (io ++ [p]) (upd H p o) p mo) : MR K mg F (io ++ [p]) (M ++ [mo]) (upd H p o) where
  sub := fun b u e => same_upd h b u (m.sub b u e)
  len := by simp [m.len]
  nd := by
    rw [List.nodup_append]
    refine ⟨m.nd, by simp, fun a ha b hb e => ?_⟩
    have : b = p := by simpa using hb
    subst this
    subst e
    exact io_not m h ha
  nn := fun q hq e => by
    by_cases hqp : q = p
    · subst hqp; rw [upd_same] at e; cases e
    · rw [upd_ne hqp] at e
      rcases List.mem_append.mp hq with z | z
      · exact m.nn q z e
      · exact hqp (by simpa using z)
  obj := fun n q u h1 h2 => by
    by_cases hn : n < io.length
    · rw [List.getElem?_append_left hn] at h1
      rw [List.getElem?_append_left (by rw [← m.len]; exact hn)] at h2
      obtain ⟨a, b⟩ := m.obj n q u h1 h2
      have hqp : q ≠ p := fun z => io_not m h (z ▸ mem_io h1)
      refine ⟨a, MoOk.mono (fun _ _ z => z) (fun k r z => ?_) (upd_ne hqp) b⟩
      rw [List.getElem?_append_left (List.getElem?_eq_some_iff.mp z).1]
      exact z
    · have hlen : n < (io ++ [p]).length := (List.getElem?_eq_some_iff.mp h1).1
      have e : n = io.length := by simp at hlen; omega
      subst e
      have e1 : p = q := by simpa using h1
      have e2 : mo = u := by rw [m.len] at h2; simpa using h2
      subst e1 e2
      exact ⟨.inr (F_none m h), ok⟩
theorem Ext.alloc {p : Addr} {o : HO} (h : H p = none) : Ext F io H F (io ++ [p]) (upd H p o) where
  fr := fun _ _ z => z
  pre := fun n q z => by rw [List.getElem?_append_left (List.getElem?_eq_some_iff.mp z).1]; exact z
  keep := fun q u _ e => same_upd h q u e
  there := fun q e z => by
    by_cases hq : q = p
    · subst hq; rw [upd_same] at z; cases z
    · rw [upd_ne hq] at z; exact e z
  newI := fun q hq => by
    rcases List.mem_append.mp hq with z | z
    · exact .inl z
    · have : q = p := by simpa using z
      subst this
      exact .inr h
  newF := fun _ _ z => .inl z
/-- an object is written -/
theorem MR.write (m : MR K mg F io M H) {n : Nat} {p : Addr} {o : HO} {mo mo' : MO} (hp : io[n]? = some p) (hm : M[n]? = some mo') (hg : mo' ≠ .gone) (ok : MoOk K mg F io (upd H p o) p mo) : MR K mg F io (M.set n mo) (upd H p o) where
  sub := fun b u e => by
    obtain ⟨a, _⟩ := m.obj n p _ hp hm
    have fp : F p = none := a.resolve_left hg
    by_cases hb : b = p
    · subst hb; rw [fp] at e; cases e
    · rw [upd_ne hb]; exact m.sub b u e
  len := by simp [m.len]
  nd := m.nd
  nn := fun q hq e => by
    by_cases hqp : q = p
    · subst hqp; rw [upd_same] at e; cases e
    · rw [upd_ne hqp] at e; exact m.nn q hq e
  obj := fun k q u h1 h2 => by
    by_cases hk : k = n
    · subst hk
      rw [hp] at h1; cases h1
      have hl : k < M.length := (List.getElem?_eq_some_iff.mp hm).1
      rw [List.getElem?_set_self hl] at h2; cases h2
      obtain ⟨a, _⟩ := m.obj k p _ hp hm
      exact ⟨.inr (a.resolve_left hg), ok⟩
    · rw [List.getElem?_set_ne (Ne.symm hk)] at h2
      obtain ⟨a, b⟩ := m.obj k q u h1 h2
      have hqp : q ≠ p := fun z => hk (io_inj m.nd (z ▸ h1) hp)
      exact ⟨a, MoOk.mono (fun _ _ z => z) (fun _ _ z => z) (upd_ne hqp) b⟩
theorem Ext.write {n : Nat} {p : Addr} {o : HO} (hp : io[n]? = some p) : Ext F io H F io (upd H p o) where
  fr := fun _ _ z => z
  pre := fun _ _ z => z
  keep := fun q u hq e => by
    have : q ≠ p := fun z => hq (z ▸ mem_io hp)
    rw [upd_ne this]; exact e
  there := fun q e z => by
    by_cases hq : q = p
    · subst hq; rw [upd_same] at z; cases z
    · rw [upd_ne hq] at z; exact e z
  newI := fun _ h => .inl h
  newF := fun _ _ z => .inl z
/-- an object of the memory is given up: from now on it never changes -/
theorem MR.freeze (m : MR K mg F io M H) {n : Nat} {p : Addr} {o : HO} {mo : MO} (hp : io[n]? = some p) (hm : M[n]? = some mo) (ho : H p = some o) (hF : F p = none) : MR K mg (upd F p o) io (M.set n .gone) H where
  sub := fun b u e => by
    by_cases hb : b = p
    · subst hb; rw [upd_same] at e; cases e; exact ho
    · rw [upd_ne hb] at e; exact m.sub b u e
  len := by simp [m.len]
  nd := m.nd
  nn := m.nn
  obj := fun k q u h1 h2 => by
    by_cases hk : k = n
    · subst hk
      have hl : k < M.length := (List.getElem?_eq_some_iff.mp hm).1
      rw [List.getElem?_set_self hl] at h2; cases h2
      exact ⟨.inl rfl, trivial⟩
    · rw [List.getElem?_set_ne (Ne.symm hk)] at h2
      obtain ⟨a, b⟩ := m.obj k q u h1 h2
      have hqp : q ≠ p := fun z => hk (io_inj m.nd (z ▸ h1) hp)
      exact ⟨a.imp id fun z => by rw [upd_ne hqp]; exact z, MoOk.mono (same_upd hF) (fun _ _ z => z) rfl b⟩
theorem Ext.freeze {n : Nat} {p : Addr} {o : HO} (hp : io[n]? = some p) (hF : F p = none) : Ext F io H (upd F p o) io H where
  fr := same_upd hF
  pre := fun _ _ z => z
  keep := fun _ _ _ e => e
  there := fun _ e => e
  newI := fun _ h => .inl h
  newF := fun q u e => by
    by_cases hq : q = p
    · subst hq; exact .inr (.inl (mem_io hp))
    · rw [upd_ne hq] at e; exact .inl e

/-! ### sequences -/
def asL (M : Mem) : A → Option (List A)
  | .lst xs => some xs
  | .frz xs => some xs
  | .loc n => match M[n]? with
    | some (.lst xs) => some xs
    | _ => none
  | _ => none
theorem asL_ok (m : MR K mg F io M H) {a : A} {v : V} {xs : List A} (r : Rp K mg F io a v) (h : asL M a = some xs) : ∃ p vs, v = .ref p ∧ SqL K H p vs ∧ Rps K mg F io xs vs := by
  cases a with
  | lst ys =>
    obtain ⟨p, vs, h1, h2, h3⟩ := r
    cases h
    exact ⟨p, vs, h1, .inl (.inl (m.sub _ _ h2)), h3⟩
  | frz ys =>
    obtain ⟨p, vs, h1, h2, h3⟩ := r
    cases h
    exact ⟨p, vs, h1, m.sub.seq h2, h3⟩
  | loc n =>
    obtain ⟨p, h1, h2⟩ := r
    cases e : M[n]? with
    | none => simp [asL, e] at h
    | some o =>
      cases o with
      | lst ys =>
        have e2 : ys = xs := by simpa [asL, e] using h
        subst e2
        obtain ⟨vs, q1, q2⟩ := (m.obj n p _ h2 e).2
        exact ⟨p, vs, h1, .inl (.inl q1), q2⟩
      | _ => simp [asL, e] at h
  | _ => simp [asL] at h
/-- not the script: the very list -/
def asL1 (M : Mem) : A → Option (List A)
  | .lst xs => some xs
  | .loc n => match M[n]? with
    | some (.lst xs) => some xs
    | _ => none
  | _ => none
theorem asL1_ok (m : MR K mg F io M H) {a : A} {v : V} {xs : List A} (r : Rp K mg F io a v) (h : asL1 M a = some xs) : ∃ p vs, v = .ref p ∧ H p = some (.lst vs) ∧ Rps K mg F io xs vs := by
  cases a with
  | lst ys =>
    obtain ⟨p, vs, h1, h2, h3⟩ := r
    cases h
    exact ⟨p, vs, h1, m.sub _ _ h2, h3⟩
  | loc n =>
    obtain ⟨p, h1, h2⟩ := r
    cases e : M[n]? with
    | none => simp [asL1, e] at h
    | some o =>
      cases o with
      | lst ys =>
        have e2 : ys = xs := by simpa [asL1, e] using h
        subst e2
        obtain ⟨vs, q1, q2⟩ := (m.obj n p _ h2 e).2
        exact ⟨p, vs, h1, q1, q2⟩
      | _ => simp [asL1, e] at h
  | _ => simp [asL1] at h
theorem tup_ok (m : MR K mg F io M H) {v : V} {xs : List A} (r : Rp K mg F io (.tup xs) v) : ∃ p vs, v = .ref p ∧ SqT K H p vs ∧ Rps K mg F io xs vs := by
  obtain ⟨p, vs, h1, h2, h3⟩ := r
  exact ⟨p, vs, h1, Same.sqT m.sub h2, h3⟩
end
end AL

/-! AL2: readings over abstract values; the rules for expressions. -/
namespace AL
open PySem PySem.Spec L2

section
variable (K : PySem.W.Frag) (mg : Str → Option Value)
/-- what is wanted behind a run, by its abstract outcome -/
def PostG {α β : Type} (rel : Hp → List Addr → α → β → Prop) (W : WX) (F : Hp) (io : List Addr) (H : Hp) (σ : St) (r : R α) (Q : β → Hp → Prop) : Prop := match r with
  | .ok a M' => ∀ F' io' v H', Ext F io H F' io' H' → MR K mg F' io' M' H' → rel F' io' a v → Q v H'
  | .err c M' => ∀ F' io' H' C, Ext F io H F' io' H' → MR K mg F' io' M' H' → mg (clsS c) = some (.ref C) → W (.ref C) none σ H'
  | .stuck => False
/-- the names -/
def ER (F : Hp) (io : List Addr) (ro : Ro) (σ : St) : Prop := ro.length = σ.length ∧ ∀ (i : Nat) (a : A), ro[i]? = some (some a) → ∃ v, σ[i]? = some (some v) ∧ Rp K mg F io a v
def tG {α β : Type} (rel : Hp → List Addr → α → β → Prop) (W : WX) (f : Ro → Mem → R α) : St → Hp → (β → Hp → Prop) → Prop := fun σ H Q =>
  ∃ F io ro M, ER K mg F io ro σ ∧ MR K mg F io M H ∧ PostG K mg rel W F io H σ (f ro M) Q
def relB (_ : Hp) (_ : List Addr) (a b : Bool) : Prop := a = b
abbrev tE (W : WX) (f : Ro → Mem → R A) : TE := tG K mg (Rp K mg) W f
abbrev tT (W : WX) (f : Ro → Mem → R Bool) : TT := tG K mg relB W f
abbrev tA (W : WX) (f : Ro → Mem → R (List A)) : TA := tG K mg (Rps K mg) W f
end

section
variable {K : PySem.W.Frag} {mg : Str → Option Value} {F F' : Hp} {io io' : List Addr} {H H' : Hp} {M : Mem} {σ : St} {ro : Ro} {W : WX}
variable {α β γ δ : Type} {rel : Hp → List Addr → α → β → Prop} {rel2 : Hp → List Addr → γ → δ → Prop}
theorem ER.ext (h : ER K mg F io ro σ) (e : Ext F io H F' io' H') : ER K mg F' io' ro σ := ⟨h.1, fun i a q => by
  obtain ⟨v, q1, q2⟩ := h.2 i a q
  exact ⟨v, q1, Rp.mono e.fr e.pre q2⟩⟩
theorem PostG.ext {r : R α} {Q : β → Hp → Prop} (h : PostG K mg rel W F io H σ r Q) (e : Ext F io H F' io' H') : PostG K mg rel W F' io' H' σ r Q := by
  cases r with
  | ok a M' => exact fun F2 io2 v H2 e2 => h F2 io2 v H2 (e.trans e2)
  | err c M' => exact fun F2 io2 H2 C e2 => h F2 io2 H2 C (e.trans e2)
  | stuck => exact h
theorem PostG.mono {r : R α} {Q Q' : β → Hp → Prop} (h : PostG K mg rel W F io H σ r Q) (i : ∀ v H', Q v H' → Q' v H') : PostG K mg rel W F io H σ r Q' := by
  cases r with
  | ok a M' => exact fun F2 io2 v H2 e2 m2 r2 => i _ _ (h F2 io2 v H2 e2 m2 r2)
  | err c M' => exact h
  | stuck => exact h
theorem PostG.bind {r : R α} {g : α → Mem → R γ} {Q : δ → Hp → Prop} (h : PostG K mg rel2 W F io H σ (r.bind g) Q) :
    PostG K mg rel W F io H σ r (fun v H1 => ∃ F1 io1 M1 a, Ext F io H F1 io1 H1 ∧ MR K mg F1 io1 M1 H1 ∧ rel F1 io1 a v ∧ PostG K mg rel2 W F1 io1 H1 σ (g a M1) Q) := by
  cases r with
  | ok a M' => exact fun F2 io2 v H2 e2 m2 r2 => ⟨F2, io2, M', a, e2, m2, r2, PostG.ext h e2⟩
  | err c M' => exact h
  | stuck => exact h
/-- a value at once -/
theorem PostG.now {a : α} {v : β} {Q : β → Hp → Prop} (h : PostG K mg rel W F io H σ (.ok a M) Q) (m : MR K mg F io M H) (r : rel F io a v) : Q v H := h F io v H Ext.refl m r
theorem PostG.lit {a : α} {M' : Mem} {v : β} {Q : β → Hp → Prop} (h : PostG K mg rel W F io H σ (.ok a M') Q) (e : Ext F io H F' io' H') (m : MR K mg F' io' M' H') (r : rel F' io' a v) : Q v H' := h F' io' v H' e m r
end

theorem PE.imp {X : Cx} {e : Expr} {t t' : TE} (h : PE X e t) (i : ∀ σ H Q, t' σ H Q → t σ H Q) : PE X e t' := ⟨fun pins s σ H Q I q => h.run pins s σ H Q I (i σ H Q q)⟩
theorem PT.imp {X : Cx} {e : Expr} {t t' : TT} (h : PT X e t) (i : ∀ σ H Q, t' σ H Q → t σ H Q) : PT X e t' := ⟨fun pins s σ H Q I q => h.run pins s σ H Q I (i σ H Q q)⟩
theorem PW.imp {X : Cx} {e : Expr} {t t' : TT} (h : PW X e t) (i : ∀ σ H Q, t' σ H Q → t σ H Q) : PW X e t' := ⟨fun wh pins s σ H Q I q => h.run wh pins s σ H Q I (i σ H Q q)⟩
theorem PA.imp {X : Cx} {es : List Expr} {t t' : TA} (h : PA X es t) (i : ∀ σ H Q, t' σ H Q → t σ H Q) : PA X es t' := ⟨fun p pins s σ H Q I q => h.run p pins s σ H Q I (i σ H Q q)⟩
theorem PS.imp {X : Cx} {s : Stmt} {t t' : TS} (h : PS X s t) (i : ∀ D σ H, t' D σ H → t D σ H) : PS X s t' := ⟨fun pins s σ H D I q => h.run pins s σ H D I (i D σ H q)⟩
theorem PSs.imp {X : Cx} {s : List Stmt} {t t' : TS} (h : PSs X s t) (i : ∀ D σ H, t' D σ H → t D σ H) : PSs X s t' := ⟨fun pins s σ H D I q => h.run pins s σ H D I (i D σ H q)⟩
theorem PG.imp {X : Cx} {e : Expr} {t t' : TG} (h : PG X e t) (i : ∀ v σ H Q, t' v σ H Q → t v σ H Q) : PG X e t' := ⟨fun pins s σ H v u Q I r q => h.run pins s σ H v u Q I r (i v σ H Q q)⟩
theorem PI.imp {X : Cx} {tg e : Expr} {t t' : TI} (h : PI X tg e t) (i : ∀ σ H Q, t' σ H Q → t σ H Q) : PI X tg e t' := ⟨fun pins s σ H Q I q => h.run pins s σ H Q I (i σ H Q q)⟩

/-! ### the semantics' words -/
abbrev SE := Ro → Mem → R A
abbrev ST := Ro → Mem → R Bool
abbrev SA := Ro → Mem → R (List A)
def eVar (i : Nat) : SE := fun ro M => match ro[i]? with
  | some (some a) => .ok a M
  | _ => .stuck
def eC (a : A) : SE := fun _ M => .ok a M
def e1 (f : A → Mem → R A) (ea : SE) : SE := fun ro M => (ea ro M).bind f
def e2 (f : A → A → Mem → R A) (ea eb : SE) : SE := fun ro M => (ea ro M).bind fun x M1 => (eb ro M1).bind fun y M2 => f x y M2
def aNil : SA := fun _ M => .ok [] M
def aCons (ea : SE) (er : SA) : SA := fun ro M => (ea ro M).bind fun x M1 => (er ro M1).bind fun xs M2 => .ok (x :: xs) M2
def eA (f : List A → Mem → R A) (ea : SA) : SE := fun ro M => (ea ro M).bind f
/-- what is said of one operation's values: its rule's reading follows from the abstract outcome -/
def Snd1 (K : PySem.W.Frag) (mg : Str → Option Value) (r : V → Hp → VK → Prop) (f : A → Mem → R A) : Prop := ∀ (F : Hp) (io : List Addr) (M : Mem) (H : Hp) (x : A) (v : V) (σ : St) (W : WX) (Q : VK), MR K mg F io M H → Rp K mg F io x v → PostG K mg (Rp K mg) W F io H σ (f x M) Q → r v H Q
def Snd2 (K : PySem.W.Frag) (mg : Str → Option Value) (r : R2) (f : A → A → Mem → R A) : Prop := ∀ (F : Hp) (io : List Addr) (M : Mem) (H : Hp) (x y : A) (v w : V) (σ : St) (W : WX) (Q : VK), MR K mg F io M H → Rp K mg F io x v → Rp K mg F io y w → PostG K mg (Rp K mg) W F io H σ (f x y M) Q → r v w H Q
def SndA (K : PySem.W.Frag) (mg : Str → Option Value) (r : List V → Hp → VK → Prop) (f : List A → Mem → R A) : Prop := ∀ (F : Hp) (io : List Addr) (M : Mem) (H : Hp) (x : List A) (v : List V) (σ : St) (W : WX) (Q : VK), MR K mg F io M H → Rps K mg F io x v → PostG K mg (Rp K mg) W F io H σ (f x M) Q → r v H Q

section
variable {X : Cx} {W : WX} {a b c : Expr} {fa fb fc : SE} {pos : Pos}
theorem de_var (i : Nat) {x : Str} (hN : X.N[i]? = some x := by rfl) (hv : Vis X.env.scope x := by first | exact Or.inl rfl | exact Or.inr (Or.inl rfl) | exact Or.inr (Or.inr rfl)) (hd : (x == ("__debug__" : Str)) = false := by decide)
    (hcd : (x == ("__classdict__" : Str)) = false := by decide) : PE X (.Name x pos) (tE X.K X.mg W (eVar i)) := PE.imp (pe_var hN hv hd hcd) fun σ H Q ⟨F, io, ro, M, er, mr, p⟩ => by
  unfold eVar at p
  cases h : ro[i]? with
  | none => rw [h] at p; exact p.elim
  | some o =>
    cases o with
    | none => rw [h] at p; exact p.elim
    | some a =>
      rw [h] at p
      obtain ⟨v, q1, q2⟩ := er.2 i a h
      exact ⟨v, q1, p.now mr q2⟩
theorem de_C {u : A} {v : V} (h : PE X a (tC v)) (r : ∀ F io, Rp X.K X.mg F io u v) : PE X a (tE X.K X.mg W (eC u)) := PE.imp h fun σ H Q ⟨F, io, ro, M, er, mr, p⟩ => p.now mr (r F io)
theorem de_int {i : Int} {j} : PE X (.Constant (.int i) j pos) (tE X.K X.mg W (eC (.int i))) := de_C pe_int fun _ _ => rfl
theorem de_bl {i : Bool} {j} : PE X (.Constant (.bool i) j pos) (tE X.K X.mg W (eC (.bl i))) := de_C pe_bl fun _ _ => rfl
theorem de_non {j} : PE X (.Constant .none j pos) (tE X.K X.mg W (eC .non)) := de_C pe_non fun _ _ => rfl
theorem de_str {i : Str} {j} : PE X (.Constant (.str i) j pos) (tE X.K X.mg W (eC (.str i))) := de_C pe_str fun _ _ => rfl
/-- one subexpression -/
theorem run1 {f : A → Mem → R A} {r : V → Hp → VK → Prop} (hs : Snd1 X.K X.mg r f) {σ : St} {H : Hp} {Q : VK} (h : tE X.K X.mg W (e1 f fa) σ H Q) : tE X.K X.mg W fa σ H fun v H1 => r v H1 Q := by
  obtain ⟨F, io, ro, M, er, mr, p⟩ := h
  exact ⟨F, io, ro, M, er, mr, PostG.mono (PostG.bind (rel := Rp X.K X.mg) p) fun v H1 ⟨F1, io1, M1, x, _, m1, r1, p1⟩ => hs F1 io1 M1 H1 x v σ W Q m1 r1 p1⟩
/-- two in a row -/
theorem run2 {f : A → A → Mem → R A} {r : R2} (hs : Snd2 X.K X.mg r f) {σ : St} {H : Hp} {Q : VK} (h : tE X.K X.mg W (e2 f fa fb) σ H Q) : tE X.K X.mg W fa σ H fun v H1 => tE X.K X.mg W fb σ H1 fun w H2 => r v w H2 Q := by
  obtain ⟨F, io, ro, M, er, mr, p⟩ := h
  exact ⟨F, io, ro, M, er, mr, PostG.mono (PostG.bind (rel := Rp X.K X.mg) p) fun v H1 ⟨F1, io1, M1, x, x1, m1, r1, p1⟩ =>
    ⟨F1, io1, ro, M1, er.ext x1, m1, PostG.mono (PostG.bind (rel := Rp X.K X.mg) p1) fun w H2 ⟨F2, io2, M2, y, x2, m2, r2, p2⟩ => hs F2 io2 M2 H2 x y v w σ W Q m2 (Rp.mono x2.fr x2.pre r1) r2 p2⟩⟩
theorem runA {f : List A → Mem → R A} {ga : SA} {r : List V → Hp → VK → Prop} (hs : SndA X.K X.mg r f) {σ : St} {H : Hp} {Q : VK} (h : tE X.K X.mg W (eA f ga) σ H Q) : tA X.K X.mg W ga σ H fun v H1 => r v H1 Q := by
  obtain ⟨F, io, ro, M, er, mr, p⟩ := h
  exact ⟨F, io, ro, M, er, mr, PostG.mono (PostG.bind (rel := Rps X.K X.mg) p) fun v H1 ⟨F1, io1, M1, x, _, m1, r1, p1⟩ => hs F1 io1 M1 H1 x v σ W Q m1 r1 p1⟩
theorem da_nil : PA X [] (tA X.K X.mg W aNil) := PA.imp pa_nil fun σ H Q ⟨F, io, ro, M, er, mr, p⟩ => p.now mr rfl
theorem da_cons {e : Expr} {es : List Expr} {fe : SE} {ga : SA} (ha : PE X e (tE X.K X.mg W fe)) (hr : PA X es (tA X.K X.mg W ga)) (hs : starEach (e :: es) X.env = (false, eval e X.env) :: starEach es X.env := by rfl) : PA X (e :: es) (tA X.K X.mg W (aCons fe ga)) := PA.imp (pa_cons ha hr hs) fun σ H Q ⟨F, io, ro, M, er, mr, p⟩ =>
  ⟨F, io, ro, M, er, mr, PostG.mono (PostG.bind (rel := Rp X.K X.mg) p) fun v H1 ⟨F1, io1, M1, x, x1, m1, r1, p1⟩ =>
    ⟨F1, io1, ro, M1, er.ext x1, m1, PostG.mono (PostG.bind (rel := Rps X.K X.mg) p1) fun w H2 ⟨F2, io2, M2, y, x2, m2, r2, p2⟩ => p2.now m2 ⟨v, w, rfl, Rp.mono x2.fr x2.pre r1, r2⟩⟩⟩
theorem de_op {op : Operator} {f : A → A → Mem → R A} {r : R2} (ho : OpR X (binaryOp op) r) (hs : Snd2 X.K X.mg r f) (ha : PE X a (tE X.K X.mg W fa)) (hb : PE X b (tE X.K X.mg W fb)) : PE X (.BinOp a op b pos) (tE X.K X.mg W (e2 f fa fb)) := PE.imp (pe_op ho ha hb) fun _ _ _ h => run2 hs h
theorem de_un {op : UnaryOp} {f : A → Mem → R A} {r : V → Hp → VK → Prop} (ho : UnR X (unaryOp op) r) (hs : Snd1 X.K X.mg r f) (ha : PE X a (tE X.K X.mg W fa)) : PE X (.UnaryOp op a pos) (tE X.K X.mg W (e1 f fa)) := PE.imp (pe_un ho ha) fun _ _ _ h => run1 hs h
theorem de_cmp {op : CmpOp} {f : A → A → Mem → R A} {r : R2} (ho : OpR X (compareOp op) r) (hs : Snd2 X.K X.mg r f) (ha : PE X a (tE X.K X.mg W fa)) (hb : PE X b (tE X.K X.mg W fb)) (hm : behindInMarks op b = false) : PE X (.Compare a [op] [b] pos) (tE X.K X.mg W (e2 f fa fb)) := PE.imp (pe_cmpR ho ha hb hm) fun _ _ _ h => run2 hs h
theorem de_ix {f : A → A → Mem → R A} {r : R2} (ho : IxR X r) (hs : Snd2 X.K X.mg r f) (ha : PE X a (tE X.K X.mg W fa)) (hb : PE X b (tE X.K X.mg W fb)) (hp : PlainIx b := by exact fun _ _ => rfl) : PE X (.Subscript a b pos) (tE X.K X.mg W (e2 f fa fb)) := PE.imp (pe_ix ho ha hb hp) fun _ _ _ h => run2 hs h

/-! ### tests -/
/-- the truth of a value -/
def truA (M : Mem) : A → Option Bool
  | .non => some false
  | .bl b => some b
  | .int i => some (i != 0)
  | .tup xs => some (!xs.isEmpty)
  | a => (asL M a).map fun xs => !xs.isEmpty
def tru (a : A) (M : Mem) : R Bool := match truA M a with
  | some b => .ok b M
  | none => .stuck
def tV (fa : SE) : ST := fun ro M => (fa ro M).bind tru
theorem isEmpty_rps {K : PySem.W.Frag} {mg : Str → Option Value} {F : Hp} {io : List Addr} {xs : List A} {vs : List V} (h : Rps K mg F io xs vs) : xs.isEmpty = vs.isEmpty := by
  have := h.length
  cases xs <;> cases vs <;> simp_all
theorem tru_snd {K : PySem.W.Frag} {mg : Str → Option Value} {F : Hp} {io : List Addr} {M : Mem} {H : Hp} (m : MR K mg F io M H) {x : A} {v : V} {k : Bool} (r : Rp K mg F io x v) (h : truA M x = some k) : TruV K v H k := by
  cases x with
  | non => cases r; cases h; exact rfl
  | bl b => cases r; cases h; exact rfl
  | int i => cases r; cases h; exact rfl
  | tup xs =>
    obtain ⟨p, vs, rfl, h2, h3⟩ := tup_ok m r
    cases h
    exact .inr (.inl ⟨vs, h2, by rw [isEmpty_rps h3]⟩)
  | lst xs =>
    obtain ⟨p, vs, rfl, h2, h3⟩ := asL_ok m r rfl
    have : (!xs.isEmpty) = k := by simpa [truA, asL] using h
    subst this
    exact .inl ⟨vs, h2, by rw [isEmpty_rps h3]⟩
  | frz xs =>
    obtain ⟨p, vs, rfl, h2, h3⟩ := asL_ok m r rfl
    have : (!xs.isEmpty) = k := by simpa [truA, asL] using h
    subst this
    exact .inl ⟨vs, h2, by rw [isEmpty_rps h3]⟩
  | loc n =>
    cases e : asL M (.loc n) with
    | none => simp [truA, e] at h
    | some xs =>
      obtain ⟨p, vs, rfl, h2, h3⟩ := asL_ok m r e
      have : (!xs.isEmpty) = k := by simpa [truA, e] using h
      subst this
      exact .inl ⟨vs, h2, by rw [isEmpty_rps h3]⟩
  | _ => simp [truA, asL] at h
theorem pt_tru {a : Expr} {ta : TE} (ha : PE X a ta) (he : ∀ whole, isTrue a X.env whole = (do let v ← whole; standAt a.pos; holding [v] (truthy v))) : PT X a (fun σ H Q => ta σ H fun x H1 => ∃ k, TruV X.K x H1 k ∧ Q k H1) := by
  refine ⟨fun pins s σ H Q I h => ?_⟩
  refine PyProof.Rows.isTrue_plain (thn (ha.run pins s σ H _ I h) fun v s1 ⟨x, H1, I1, r1, q1⟩ => ?_) (he _)
  exact tru_ok pins s1 σ H1 x v _ I1 r1 q1
theorem dt_val (ha : PE X a (tE X.K X.mg W fa)) (he : ∀ whole, isTrue a X.env whole = (do let v ← whole; standAt a.pos; holding [v] (truthy v)) := by intro _; rfl) : PT X a (tT X.K X.mg W (tV fa)) := PT.imp (pt_tru ha he) fun σ H Q ⟨F, io, ro, M, er, mr, p⟩ =>
  ⟨F, io, ro, M, er, mr, PostG.mono (PostG.bind (rel := Rp X.K X.mg) p) fun v H1 ⟨F1, io1, M1, x, x1, m1, r1, p1⟩ => by
    unfold tru at p1
    cases e : truA M1 x with
    | none => rw [e] at p1; exact p1.elim
    | some k =>
      rw [e] at p1
      exact ⟨k, tru_snd m1 r1 e, p1.now m1 rfl⟩⟩
/-- a comparison as a test -/
def truB (a : A) (M : Mem) : R Bool := match a with
  | .bl b => .ok b M
  | _ => .stuck
def tB (fa : SE) : ST := fun ro M => (fa ro M).bind truB
theorem truB_snd {K : PySem.W.Frag} {mg : Str → Option Value} {F : Hp} {io : List Addr} {M : Mem} {H : Hp} {σ : L2.St} {W : WX} {Q : Bool → Hp → Prop} (m : MR K mg F io M H) {x : A} {v : V} (r : Rp K mg F io x v) (p : PostG K mg relB W F io H σ (truB x M) Q) : ∃ k, v = .bl k ∧ Q k H := by
  cases x with
  | bl b => cases r; exact ⟨b, rfl, p.now m rfl⟩
  | _ => exact p.elim
theorem runB {fa : SE} {σ : L2.St} {H : Hp} {Q : Bool → Hp → Prop} (h : tT X.K X.mg W (tB fa) σ H Q) : tE X.K X.mg W fa σ H (fun x H' => ∃ k, x = .bl k ∧ Q k H') := by
  obtain ⟨F, io, ro, M, er, mr, p⟩ := h
  exact ⟨F, io, ro, M, er, mr, PostG.mono (PostG.bind (rel := Rp X.K X.mg) p) fun v H1 ⟨F1, io1, M1, x, x1, m1, r1, p1⟩ => truB_snd m1 r1 p1⟩
theorem dt_cmp {op : CmpOp} {f : A → A → Mem → R A} {r : R2} (ho : OpR X (compareOp op) r) (hs : Snd2 X.K X.mg r f) (ha : PE X a (tE X.K X.mg W fa)) (hb : PE X b (tE X.K X.mg W fb)) (hm : behindInMarks op b = false) : PT X (.Compare a [op] [b] pos) (tT X.K X.mg W (tB (e2 f fa fb))) := PT.imp (pt_cmpR ho ha hb hm) fun _ _ _ h => run2 hs (runB h)
/-- chains -/
def eChain (f g : A → A → Mem → R A) (fa fb fc : SE) : SE := fun ro M => (fa ro M).bind fun x M1 => (fb ro M1).bind fun y M2 => (f x y M2).bind fun z M3 => (truB z M3).bind fun k M4 => match k with
  | true => (fc ro M4).bind fun w M5 => g y w M5
  | false => .ok (.bl false) M4
theorem run_chain {f g : A → A → Mem → R A} {r r' : R2} (hs : Snd2 X.K X.mg r f) (hs' : Snd2 X.K X.mg r' g) {σ : L2.St} {H : Hp} {Q : VK} (h : tE X.K X.mg W (eChain f g fa fb fc) σ H Q) : tChain r r' (tE X.K X.mg W fa) (tE X.K X.mg W fb) (tE X.K X.mg W fc) σ H Q := by
  obtain ⟨F, io, ro, M, er, mr, p⟩ := h
  refine ⟨F, io, ro, M, er, mr, PostG.mono (PostG.bind (rel := Rp X.K X.mg) p) fun v H1 ⟨F1, io1, M1, x, x1, m1, r1, p1⟩ => ?_⟩
  have er1 := er.ext x1
  refine ⟨F1, io1, ro, M1, er1, m1, PostG.mono (PostG.bind (rel := Rp X.K X.mg) p1) fun w H2 ⟨F2, io2, M2, y, x2, m2, r2, p2⟩ => ?_⟩
  have er2 := er1.ext x2
  refine hs F2 io2 M2 H2 x y v w σ W _ m2 (Rp.mono x2.fr x2.pre r1) r2 (PostG.mono (PostG.bind (rel := Rp X.K X.mg) p2) fun z H3 ⟨F3, io3, M3, zz, x3, m3, r3, p3⟩ => ?_)
  have er3 := er2.ext x3
  cases zz with
  | bl k =>
    cases r3
    refine ⟨k, rfl, ?_⟩
    cases k with
    | true =>
      rw [if_pos rfl]
      exact ⟨F3, io3, ro, M3, er3, m3, PostG.mono (PostG.bind (rel := Rp X.K X.mg) p3) fun u H4 ⟨F4, io4, M4, uu, x4, m4, r4, p4⟩ => hs' F4 io4 M4 H4 y uu w u σ W Q m4 (Rp.mono x4.fr x4.pre (Rp.mono x3.fr x3.pre r2)) r4 p4⟩
    | false =>
      rw [if_neg Bool.false_ne_true]
      exact PostG.now p3 m3 rfl
  | _ => exact False.elim p3
theorem de_chain {op op' : CmpOp} {f g : A → A → Mem → R A} {r r' : R2} (ho : OpR X (compareOp op) r) (hs : Snd2 X.K X.mg r f) (ho' : OpR X (compareOp op') r') (hs' : Snd2 X.K X.mg r' g) (ha : PE X a (tE X.K X.mg W fa)) (hb : PE X b (tE X.K X.mg W fb)) (hc : PE X c (tE X.K X.mg W fc))
    (hm : lastMarks [op, op'] [b, c] = false := by with_unfolding_all rfl) : PE X (.Compare a [op, op'] [b, c] pos) (tE X.K X.mg W (eChain f g fa fb fc)) := PE.imp (pe_chain ho ho' ha hb hc hm) fun _ _ _ h => run_chain hs hs' h
theorem dt_chain {op op' : CmpOp} {f g : A → A → Mem → R A} {r r' : R2} (ho : OpR X (compareOp op) r) (hs : Snd2 X.K X.mg r f) (ho' : OpR X (compareOp op') r') (hs' : Snd2 X.K X.mg r' g) (ha : PE X a (tE X.K X.mg W fa)) (hb : PE X b (tE X.K X.mg W fb)) (hc : PE X c (tE X.K X.mg W fc))
    (hm : lastMarks [op, op'] [b, c] = false := by with_unfolding_all rfl) : PT X (.Compare a [op, op'] [b, c] pos) (tT X.K X.mg W (tB (eChain f g fa fb fc))) := PT.imp (pt_chain ho ho' ha hb hc hm) fun _ _ _ h => run_chain hs hs' (runB h)
/-! and, or, not: as tests -/
def tAnd (ta tb : ST) : ST := fun ro M => (ta ro M).bind fun k M1 => match k with
  | true => tb ro M1
  | false => .ok false M1
def tOr (ta tb : ST) : ST := fun ro M => (ta ro M).bind fun k M1 => match k with
  | true => .ok true M1
  | false => tb ro M1
def tNot (ta : ST) : ST := fun ro M => (ta ro M).bind fun k M1 => .ok (!k) M1
variable {ta tb : ST} {rest : List Expr}
theorem dw_and1 (ha : PT X a (tT X.K X.mg W ta)) : PW X (.BoolOp .And [a] pos) (tT X.K X.mg W ta) := pw_and1 ha
theorem dw_or1 (ha : PT X a (tT X.K X.mg W ta)) : PW X (.BoolOp .Or [a] pos) (tT X.K X.mg W ta) := pw_or1 ha
theorem dw_and (ha : PT X a (tT X.K X.mg W ta)) (hb : PW X (.BoolOp .And (b :: rest) pos) (tT X.K X.mg W tb)) : PW X (.BoolOp .And (a :: b :: rest) pos) (tT X.K X.mg W (tAnd ta tb)) := PW.imp (pw_and ha hb) fun σ H Q ⟨F, io, ro, M, er, mr, p⟩ =>
  ⟨F, io, ro, M, er, mr, PostG.mono (PostG.bind (rel := relB) p) fun v H1 ⟨F1, io1, M1, x, x1, m1, r1, p1⟩ => by
    cases r1
    cases v with
    | true => rw [if_pos rfl]; exact ⟨F1, io1, ro, M1, er.ext x1, m1, p1⟩
    | false => rw [if_neg Bool.false_ne_true]; exact PostG.now p1 m1 rfl⟩
theorem dw_or (ha : PT X a (tT X.K X.mg W ta)) (hb : PW X (.BoolOp .Or (b :: rest) pos) (tT X.K X.mg W tb)) : PW X (.BoolOp .Or (a :: b :: rest) pos) (tT X.K X.mg W (tOr ta tb)) := PW.imp (pw_or ha hb) fun σ H Q ⟨F, io, ro, M, er, mr, p⟩ =>
  ⟨F, io, ro, M, er, mr, PostG.mono (PostG.bind (rel := relB) p) fun v H1 ⟨F1, io1, M1, x, x1, m1, r1, p1⟩ => by
    cases r1
    cases v with
    | true => rw [if_pos rfl]; exact PostG.now p1 m1 rfl
    | false => rw [if_neg Bool.false_ne_true]; exact ⟨F1, io1, ro, M1, er.ext x1, m1, p1⟩⟩
theorem dt_not (ha : PT X a (tT X.K X.mg W ta)) : PT X (.UnaryOp .Not a pos) (tT X.K X.mg W (tNot ta)) := PT.imp (pt_not ha) fun σ H Q ⟨F, io, ro, M, er, mr, p⟩ =>
  ⟨F, io, ro, M, er, mr, PostG.mono (PostG.bind (rel := relB) p) fun v H1 ⟨F1, io1, M1, x, x1, m1, r1, p1⟩ => by
    cases r1
    exact PostG.now p1 m1 rfl⟩
/-! .. as values -/
def eAnd (fa fb : SE) : SE := fun ro M => (fa ro M).bind fun x M1 => (tru x M1).bind fun k M2 => match k with
  | true => fb ro M2
  | false => .ok x M2
def eOr (fa fb : SE) : SE := fun ro M => (fa ro M).bind fun x M1 => (tru x M1).bind fun k M2 => match k with
  | true => .ok x M2
  | false => fb ro M2
def eNot (fa : SE) : SE := fun ro M => (fa ro M).bind fun x M1 => (tru x M1).bind fun k M2 => .ok (.bl (!k)) M2
theorem de_one {op} (ha : PE X a (tE X.K X.mg W fa)) : PE X (.BoolOp op [a] pos) (tE X.K X.mg W fa) := pe_one ha
theorem de_and (ha : PE X a (tE X.K X.mg W fa)) (hb : PE X (.BoolOp .And (b :: rest) pos) (tE X.K X.mg W fb)) : PE X (.BoolOp .And (a :: b :: rest) pos) (tE X.K X.mg W (eAnd fa fb)) := PE.imp (pe_andT ha hb) fun σ H Q ⟨F, io, ro, M, er, mr, p⟩ =>
  ⟨F, io, ro, M, er, mr, PostG.mono (PostG.bind (rel := Rp X.K X.mg) p) fun v H1 ⟨F1, io1, M1, x, x1, m1, r1, p1⟩ => by
    unfold tru at p1
    cases e : truA M1 x with
    | none => rw [e] at p1; exact p1.elim
    | some k =>
      rw [e] at p1
      refine ⟨k, tru_snd m1 r1 e, ?_⟩
      cases k with
      | true => rw [if_pos rfl]; exact ⟨F1, io1, ro, M1, er.ext x1, m1, p1⟩
      | false => rw [if_neg Bool.false_ne_true]; exact PostG.now p1 m1 r1⟩
theorem de_or (ha : PE X a (tE X.K X.mg W fa)) (hb : PE X (.BoolOp .Or (b :: rest) pos) (tE X.K X.mg W fb)) : PE X (.BoolOp .Or (a :: b :: rest) pos) (tE X.K X.mg W (eOr fa fb)) := PE.imp (pe_orT ha hb) fun σ H Q ⟨F, io, ro, M, er, mr, p⟩ =>
  ⟨F, io, ro, M, er, mr, PostG.mono (PostG.bind (rel := Rp X.K X.mg) p) fun v H1 ⟨F1, io1, M1, x, x1, m1, r1, p1⟩ => by
    unfold tru at p1
    cases e : truA M1 x with
    | none => rw [e] at p1; exact p1.elim
    | some k =>
      rw [e] at p1
      refine ⟨k, tru_snd m1 r1 e, ?_⟩
      cases k with
      | true => rw [if_pos rfl]; exact PostG.now p1 m1 r1
      | false => rw [if_neg Bool.false_ne_true]; exact ⟨F1, io1, ro, M1, er.ext x1, m1, p1⟩⟩
theorem de_not (ha : PE X a (tE X.K X.mg W fa)) : PE X (.UnaryOp .Not a pos) (tE X.K X.mg W (eNot fa)) := PE.imp (pe_notT ha) fun σ H Q ⟨F, io, ro, M, er, mr, p⟩ =>
  ⟨F, io, ro, M, er, mr, PostG.mono (PostG.bind (rel := Rp X.K X.mg) p) fun v H1 ⟨F1, io1, M1, x, x1, m1, r1, p1⟩ => by
    unfold tru at p1
    cases e : truA M1 x with
    | none => rw [e] at p1; exact p1.elim
    | some k =>
      rw [e] at p1
      exact ⟨k, tru_snd m1 r1 e, PostG.now p1 m1 rfl⟩⟩

/-! ### an object given up: from now on plain data -/
def frz (a : A) (M : Mem) : R A := match a with
  | .loc n => match M[n]? with
    | some (.lst xs) => .ok (.lst xs) (M.set n .gone)
    | _ => .stuck
  | a => .ok a M
def eFrz (fa : SE) : SE := fun ro M => (fa ro M).bind frz
theorem frz_snd {K : PySem.W.Frag} {mg : Str → Option Value} {F : Hp} {io : List Addr} {M : Mem} {H : Hp} {σ : L2.St} {W : WX} {Q : VK} (m : MR K mg F io M H) {x : A} {v : V} (r : Rp K mg F io x v) (p : PostG K mg (Rp K mg) W F io H σ (frz x M) Q) : Q v H := by
  cases x with
  | loc n =>
    unfold frz at p
    dsimp only at p
    cases e : M[n]? with
    | none => rw [e] at p; exact p.elim
    | some o =>
      rw [e] at p
      cases o with
      | lst xs =>
        obtain ⟨q, rfl, hq⟩ := r
        obtain ⟨a, vs, h1, h2⟩ := m.obj n q _ hq e
        have fq : F q = none := a.resolve_left (fun z => nomatch z)
        exact PostG.lit p (Ext.freeze hq fq) (m.freeze hq e h1 fq) ⟨q, vs, rfl, upd_same, Rps.mono (same_upd fq) (fun _ _ z => z) h2⟩
      | _ => exact p.elim
  | _ => exact PostG.now p m r
theorem de_frz (ha : PE X a (tE X.K X.mg W fa)) : PE X a (tE X.K X.mg W (eFrz fa)) := PE.imp ha fun σ H Q ⟨F, io, ro, M, er, mr, p⟩ =>
  ⟨F, io, ro, M, er, mr, PostG.mono (PostG.bind (rel := Rp X.K X.mg) p) fun v H1 ⟨F1, io1, M1, x, x1, m1, r1, p1⟩ => frz_snd m1 r1 p1⟩

/-! ### new lists and tuples -/
/-- a new list: plain data (true), or an object of the memory -/
def mkL (fz : Bool) (xs : List A) (M : Mem) : R A := if xs.length ≤ sizeLine then (match fz with
  | true => .ok (.lst xs) M
  | false => .ok (.loc M.length) (M ++ [.lst xs])) else .stuck
def mkT (xs : List A) (M : Mem) : R A := if xs.length ≤ sizeLine then .ok (.tup xs) M else .stuck
theorem mkL_snd {K : PySem.W.Frag} {mg : Str → Option Value} {F : Hp} {io : List Addr} {M : Mem} {H : Hp} {σ : L2.St} {W : WX} {Q : VK} {fz : Bool} (m : MR K mg F io M H) {xs : List A} {vs : List V} (r : Rps K mg F io xs vs) (p : PostG K mg (Rp K mg) W F io H σ (mkL fz xs M) Q) :
    vs.length ≤ sizeLine ∧ ∀ p, H p = none → Q (.ref p) (upd H p (.lst vs)) := by
  unfold mkL at p
  split at p
  · rename_i hl
    refine ⟨by rw [← r.length]; exact hl, fun q hq => ?_⟩
    cases fz with
    | true => exact PostG.lit p (Ext.cell m hq) (m.cell hq) ⟨q, vs, rfl, upd_same, Rps.mono (same_upd (F_none m hq)) (fun _ _ z => z) r⟩
    | false =>
      have x := Ext.alloc (F := F) (io := io) (o := .lst vs) hq
      exact PostG.lit p x (m.alloc hq ⟨vs, upd_same, Rps.mono x.fr x.pre r⟩) ⟨q, rfl, by rw [← m.len]; simp⟩
  · exact p.elim
theorem mkT_snd {K : PySem.W.Frag} {mg : Str → Option Value} {F : Hp} {io : List Addr} {M : Mem} {H : Hp} {σ : L2.St} {W : WX} {Q : VK} (m : MR K mg F io M H) {xs : List A} {vs : List V} (r : Rps K mg F io xs vs) (p : PostG K mg (Rp K mg) W F io H σ (mkT xs M) Q) :
    vs.length ≤ sizeLine ∧ ∀ p, H p = none → Q (.ref p) (upd H p (.tup vs)) := by
  unfold mkT at p
  split at p
  · rename_i hl
    refine ⟨by rw [← r.length]; exact hl, fun q hq => ?_⟩
    exact PostG.lit p (Ext.cell m hq) (m.cell hq) ⟨q, vs, rfl, .inl (.inl upd_same), Rps.mono (same_upd (F_none m hq)) (fun _ _ z => z) r⟩
  · exact p.elim
def eLst (fz : Bool) (ga : SA) : SE := eA (mkL fz) ga
def eTup (ga : SA) : SE := eA mkT ga
theorem de_lst (fz : Bool) {es : List Expr} {ga : SA} (h : PA X es (tA X.K X.mg W ga)) : PE X (.List es pos) (tE X.K X.mg W (eLst fz ga)) := PE.imp (pe_lst h) fun σ H Q q => runA (r := fun xs H1 Q => xs.length ≤ sizeLine ∧ ∀ p, H1 p = none → Q (.ref p) (upd H1 p (.lst xs))) (fun F io M H x v σ W Q m r p => mkL_snd m r p) q
theorem de_tup {k} {es : List Expr} {ga : SA} (h : PA X es (tA X.K X.mg W ga)) : PE X (.Tuple es k pos) (tE X.K X.mg W (eTup ga)) := PE.imp (pe_tup h) fun σ H Q q => runA (r := fun xs H1 Q => xs.length ≤ sizeLine ∧ ∀ p, H1 p = none → Q (.ref p) (upd H1 p (.tup xs))) (fun F io M H x v σ W Q m r p => mkT_snd m r p) q
end
end AL

/-! AL3: operators, subscripts, slices, equality, membership. -/
namespace AL
open PySem PySem.Spec L2

section
variable {K : PySem.W.Frag} {mg : Str → Option Value}
/-! ### ints -/
def opI (C : Int → Int → Bool) (g : Int → Int → Int) : A → A → Mem → R A := fun x y M => match x, y with
  | .int i, .int j => if C i j = true then .ok (.int (g i j)) M else .stuck
  | _, _ => .stuck
theorem opI_snd {Cp : Int → Int → Prop} {C : Int → Int → Bool} {g : Int → Int → Int} (h : ∀ i j, C i j = true → Cp i j) : Snd2 K mg (rI Cp fun i j => .int (g i j)) (opI C g) := by
  intro F io M H x y v w σ W Q m r1 r2 p
  unfold opI at p
  split at p
  · cases r1; cases r2
    split at p
    · rename_i hc
      exact ⟨_, _, rfl, rfl, h _ _ hc, PostG.now p m rfl⟩
    · exact p.elim
  · exact p.elim
theorem opI0_snd {g : Int → Int → Int} : Snd2 K mg (rI0 fun i j => .int (g i j)) (opI (fun _ _ => true) g) := by
  intro F io M H x y v w σ W Q m r1 r2 p
  unfold opI at p
  split at p
  · cases r1; cases r2
    rw [if_pos rfl] at p
    exact ⟨_, _, rfl, rfl, PostG.now p m rfl⟩
  · exact p.elim
def opIB (g : Int → Int → Bool) : A → A → Mem → R A := fun x y M => match x, y with
  | .int i, .int j => .ok (.bl (g i j)) M
  | _, _ => .stuck
theorem opIB_snd {g : Int → Int → Bool} : Snd2 K mg (rI0 fun i j => .bl (g i j)) (opIB g) := by
  intro F io M H x y v w σ W Q m r1 r2 p
  unfold opIB at p
  split at p
  · cases r1; cases r2
    exact ⟨_, _, rfl, rfl, PostG.now p m rfl⟩
  · exact p.elim
abbrev vSub := opI (fun _ _ => true) (· - ·)
abbrev vMod := opI (fun _ j => decide (0 < j)) (· % ·)
abbrev vFdiv := opI (fun _ j => decide (0 < j) && decide (j.natAbs.log2 < 9000)) (· / ·)
abbrev vPow := opI (fun i j => decide (0 ≤ j) && (decide (j ≤ 1000000) && decide (i.natAbs < 2 ^ 64))) fun i j => i ^ j.toNat
abbrev vShl := opI (fun i j => decide (0 ≤ j) && (decide (j ≤ 1000000) && decide (i.natAbs < 2 ^ 64))) fun i j => i * 2 ^ j.toNat
abbrev vShr := opI (fun _ j => decide (0 ≤ j)) fun i j => i / 2 ^ j.toNat
abbrev vAnd := opI (fun _ _ => true) Builtin.bitAnd
abbrev vXor := opI (fun _ _ => true) Builtin.bitXor
abbrev vLt := opIB fun i j => decide (i < j)
abbrev vLe := opIB fun i j => decide (i ≤ j)
abbrev vGt := opIB fun i j => decide (j < i)
abbrev vGe := opIB fun i j => decide (j ≤ i)
theorem sMod : Snd2 K mg (rI (fun _ j => 0 < j) fun i j => .int (i % j)) vMod := opI_snd fun i j h => of_decide_eq_true h
theorem sFdiv : Snd2 K mg (rI CDivW fun i j => .int (i / j)) vFdiv := opI_snd fun i j h => by
  simp only [Bool.and_eq_true, decide_eq_true_eq] at h
  exact h
theorem sPow : Snd2 K mg (rI CPow fun i j => .int (i ^ j.toNat)) vPow := opI_snd fun i j h => by
  simp only [Bool.and_eq_true, decide_eq_true_eq] at h
  exact h
theorem sShl : Snd2 K mg (rI CPow fun i j => .int (i * 2 ^ j.toNat)) vShl := opI_snd fun i j h => by
  simp only [Bool.and_eq_true, decide_eq_true_eq] at h
  exact h
theorem sShr : Snd2 K mg (rI (fun _ j => 0 ≤ j) fun i j => .int (i / 2 ^ j.toNat)) vShr := opI_snd fun i j h => of_decide_eq_true h
def vNeg : A → Mem → R A := fun x M => match x with
  | .int i => .ok (.int (-i)) M
  | _ => .stuck
theorem sNeg : Snd1 K mg (rU fun i => .int (-i)) vNeg := by
  intro F io M H x v σ W Q m r1 p
  unfold vNeg at p
  split at p
  · cases r1
    exact ⟨_, rfl, PostG.now p m rfl⟩
  · exact p.elim

/-! ### + -/
def rAddT : R2 := fun x y H Q => ∃ i j, x = .str i ∧ y = .str j ∧ i.length + j.length ≤ sizeLine ∧ Q (.str (i ++ j)) H
def rAddAll (K : PySem.W.Frag) : R2 := fun x y H Q => rI0 (fun i j => .int (i + j)) x y H Q ∨ rAddT x y H Q ∨ rCat x y H Q
theorem op_addAll {X : Cx} : OpR X (binaryOp .Add) (rAddAll X.K) := OpR.or op_add (OpR.or op_add_str op_cat)
def vAdd (fz : Bool) : A → A → Mem → R A := fun x y M => match x, y with
  | .int i, .int j => .ok (.int (i + j)) M
  | .str i, .str j => if i.length + j.length ≤ sizeLine then .ok (.str (i ++ j)) M else .stuck
  | a, b => match asL1 M a, asL1 M b with
    | some xs, some ys => mkL fz (xs ++ ys) M
    | _, _ => .stuck
theorem sAdd {fz : Bool} : Snd2 K mg (rAddAll K) (vAdd fz) := by
  intro F io M H x y v w σ W Q m r1 r2 p
  unfold vAdd at p
  split at p
  · cases r1; cases r2
    exact .inl ⟨_, _, rfl, rfl, PostG.now p m rfl⟩
  · cases r1; cases r2
    split at p
    · rename_i hl
      exact .inr (.inl ⟨_, _, rfl, rfl, hl, PostG.now p m rfl⟩)
    · exact p.elim
  · split at p
    · rename_i xs ys e1 e2
      obtain ⟨p1, vs, rfl, h1, q1⟩ := asL1_ok m r1 e1
      obtain ⟨p2, ws, rfl, h2, q2⟩ := asL1_ok m r2 e2
      obtain ⟨hl, hq⟩ := mkL_snd m (q1.append q2) p
      exact .inr (.inr ⟨p1, p2, vs, ws, rfl, rfl, h1, h2, by simpa using hl, hq⟩)
    · exact p.elim
/-! ### * -/
def mulOk (i j : Int) : Bool := decide (i.natAbs < 2 ^ 64) || (decide (j.natAbs < 2 ^ 64) || decide (i.natAbs.log2 + j.natAbs.log2 < 1000000))
def rMulAll (K : PySem.W.Frag) : R2 := fun x y H Q => rI CMul (fun i j => .int (i * j)) x y H Q ∨ rI CMulW (fun i j => .int (i * j)) x y H Q ∨ rRep x y H Q
theorem op_mulAll {X : Cx} : OpR X (binaryOp .Mult) (rMulAll X.K) := OpR.or op_mul (OpR.or op_mulW op_rep)
def vMul (fz : Bool) : A → A → Mem → R A := fun x y M => match x, y with
  | .int i, .int j => if mulOk i j = true then .ok (.int (i * j)) M else .stuck
  | a, .int k => match asL1 M a with
    | some xs => if k.natAbs < 2 ^ 63 then mkL fz (List.replicate k.toNat xs).flatten M else .stuck
    | _ => .stuck
  | _, _ => .stuck
theorem flat_len {α : Type} (xs : List α) (k : Nat) : (List.replicate k xs).flatten.length = xs.length * k := by
  induction k with
  | zero => simp
  | succ k ih => rw [List.replicate_succ, List.flatten_cons, List.length_append, ih, Nat.mul_succ, Nat.add_comm]
theorem sMul {fz : Bool} : Snd2 K mg (rMulAll K) (vMul fz) := by
  intro F io M H x y v w σ W Q m r1 r2 p
  unfold vMul at p
  split at p
  · rename_i i j
    cases r1; cases r2
    split at p
    · rename_i hc
      unfold mulOk at hc
      simp only [Bool.or_eq_true, decide_eq_true_eq] at hc
      rcases hc with hc | hc | hc
      · exact .inl ⟨_, _, rfl, rfl, .inl (by omega), PostG.now p m rfl⟩
      · exact .inl ⟨_, _, rfl, rfl, .inr (by omega), PostG.now p m rfl⟩
      · exact .inr (.inl ⟨_, _, rfl, rfl, hc, PostG.now p m rfl⟩)
    · exact p.elim
  · rename_i k _
    cases r2
    split at p
    · rename_i xs e1
      split at p
      · rename_i hk
        obtain ⟨p1, vs, rfl, h1, q1⟩ := asL1_ok m r1 e1
        obtain ⟨hl, hq⟩ := mkL_snd m (q1.rep k.toNat) p
        rw [flat_len] at hl
        exact .inr (.inr ⟨p1, k, vs, rfl, rfl, h1, by omega, by omega, hl, hq⟩)
      · exact p.elim
    · exact p.elim
  · exact p.elim

/-! ### is None -/
def isNon : A → Bool
  | .non => true
  | _ => false
def vIsN : A → A → Mem → R A := fun x y M => match y with
  | .non => .ok (.bl (isNon x)) M
  | _ => .stuck
def vNotN : A → A → Mem → R A := fun x y M => match y with
  | .non => .ok (.bl (!isNon x)) M
  | _ => .stuck
theorem isNon_ok {F : Hp} {io : List Addr} {x : A} {v : V} (r : Rp K mg F io x v) : decide (v = .non) = isNon x := by
  cases x with
  | non => cases r; rfl
  | bl _ => cases r; rfl
  | int _ => cases r; rfl
  | str _ => cases r; rfl
  | lst _ => obtain ⟨_, _, rfl, _⟩ := r; rfl
  | tup _ => obtain ⟨_, _, rfl, _⟩ := r; rfl
  | frz _ => obtain ⟨_, _, rfl, _⟩ := r; rfl
  | loc _ => obtain ⟨_, rfl, _⟩ := r; rfl
  | exc _ => obtain ⟨_, _, rfl, _⟩ := r; rfl
  | fn _ => obtain ⟨_, rfl, _⟩ := r; rfl
theorem sIsN : Snd2 K mg (fun x y H Q => y = .non ∧ Q (.bl (decide (x = .non))) H) vIsN := by
  intro F io M H x y v w σ W Q m r1 r2 p
  unfold vIsN at p
  split at p
  · cases r2
    exact ⟨rfl, PostG.now p m (isNon_ok r1 ▸ rfl)⟩
  · exact p.elim
theorem sNotN : Snd2 K mg (fun x y H Q => y = .non ∧ Q (.bl (!decide (x = .non))) H) vNotN := by
  intro F io M H x y v w σ W Q m r1 r2 p
  unfold vNotN at p
  split at p
  · cases r2
    exact ⟨rfl, PostG.now p m (isNon_ok r1 ▸ rfl)⟩
  · exact p.elim

/-! ### subscripts -/
def vIx : A → A → Mem → R A := fun x y M => match y with
  | .int i => match x with
    | .tup xs => match atI xs i with
      | some a => .ok a M
      | none => .stuck
    | .str z => if z.length ≤ sizeLine then (match atI z.cps.toList i with
      | some c => .ok (.str ⟨#[c]⟩) M
      | none => .stuck) else .stuck
    | x => match asL M x with
      | some xs => match atI xs i with
        | some a => .ok a M
        | none => .stuck
      | none => .stuck
  | _ => .stuck
theorem atI_rps {F : Hp} {io : List Addr} {xs : List A} {vs : List V} {i : Int} {a : A} (h : Rps K mg F io xs vs) (e : atI xs i = some a) : ∃ v, atI vs i = some v ∧ Rp K mg F io a v := by
  unfold atI at e ⊢
  rw [← h.length]
  cases q : ixN xs.length i with
  | none => rw [q] at e; cases e
  | some j =>
    rw [q] at e
    exact h.get e
theorem sIx : Snd2 K mg (rIx K) vIx := by
  intro F io M H x y v w σ W Q m r1 r2 p
  unfold vIx at p
  split at p
  · rename_i i
    cases r2
    split at p
    · split at p
      · rename_i a e
        obtain ⟨q, vs, rfl, h2, h3⟩ := tup_ok m r1
        obtain ⟨u, e', ru⟩ := atI_rps h3 e
        exact .inr (.inl ⟨q, vs, i, u, rfl, rfl, h2, e', PostG.now p m ru⟩)
      · exact p.elim
    · cases r1
      split at p
      · rename_i hl
        split at p
        · rename_i c e
          exact .inr (.inr ⟨_, i, c, rfl, rfl, hl, e, PostG.now p m rfl⟩)
        · exact p.elim
      · exact p.elim
    · split at p
      · rename_i xs e
        split at p
        · rename_i a e2
          obtain ⟨q, vs, rfl, h2, h3⟩ := asL_ok m r1 e
          obtain ⟨u, e', ru⟩ := atI_rps h3 e2
          exact .inl ⟨q, vs, i, u, rfl, rfl, h2, e', PostG.now p m ru⟩
        · exact p.elim
      · exact p.elim
  · exact p.elim

/-! ### slices -/
abbrev SO := Ro → Mem → R (Option Int)
def relO (_ : Hp) (_ : List Addr) (a b : Option Int) : Prop := a = b
def oNo : SO := fun _ M => .ok none M
def oSome (fa : SE) : SO := fun ro M => (fa ro M).bind fun a M1 => match a with
  | .int i => .ok (some i) M1
  | _ => .stuck
def cutA (xs : List A) (lo hi : Option Int) : List A := (xs.drop (HT.sIx xs.length 0 lo)).take (HT.sIx xs.length xs.length hi - HT.sIx xs.length 0 lo)
theorem cut_rps {F : Hp} {io : List Addr} {xs : List A} {vs : List V} {lo hi : Option Int} (h : Rps K mg F io xs vs) : Rps K mg F io (cutA xs lo hi) (cutV vs lo hi) := by
  unfold cutA cutV
  rw [h.length]
  exact (h.drop _).take _
def vCut (fz : Bool) (x : A) (lo hi : Option Int) (M : Mem) : R A := match x with
  | .tup xs => if HT.sIx xs.length 0 lo = 0 ∧ HT.sIx xs.length xs.length hi = xs.length then .stuck else mkT (cutA xs lo hi) M
  | x => match asL M x with
    | some xs => mkL fz (cutA xs lo hi) M
    | none => .stuck
def eCut (fz : Bool) (fa : SE) (lo hi : SO) : SE := fun ro M => (fa ro M).bind fun x M1 => (lo ro M1).bind fun l M2 => (hi ro M2).bind fun u M3 => vCut fz x l u M3
theorem PO.imp {X : Cx} {e : Option Expr} {t t' : TO} (h : PO X e t) (i : ∀ σ H Q, t' σ H Q → t σ H Q) : PO X e t' := ⟨fun pins s σ H Q I q => h.run pins s σ H Q I (i σ H Q q)⟩
theorem do_no {X : Cx} {W : WX} : PO X none (tG X.K X.mg relO W oNo) := PO.imp po_none fun σ H Q ⟨F, io, ro, M, er, mr, p⟩ => PostG.now p mr rfl
theorem do_some {X : Cx} {W : WX} {e : Expr} {fa : SE} (h : PE X e (tE X.K X.mg W fa)) : PO X (some e) (tG X.K X.mg relO W (oSome fa)) := PO.imp (po_some h) fun σ H Q ⟨F, io, ro, M, er, mr, p⟩ =>
  ⟨F, io, ro, M, er, mr, PostG.mono (PostG.bind (rel := Rp X.K X.mg) p) fun v H1 ⟨F1, io1, M1, x, x1, m1, r1, p1⟩ => by
    cases x with
    | int i => cases r1; exact ⟨i, rfl, PostG.now p1 m1 rfl⟩
    | _ => exact p1.elim⟩
theorem de_cut (fz : Bool) {X : Cx} {W : WX} {e : Expr} {lo hi : Option Expr} {fa : SE} {l u : SO} {p2 pos : Pos} (ha : PE X e (tE X.K X.mg W fa)) (hl : PO X lo (tG X.K X.mg relO W l)) (hu : PO X hi (tG X.K X.mg relO W u)) :
    PE X (.Subscript e (.Slice lo hi none p2) pos) (tE X.K X.mg W (eCut fz fa l u)) := PE.imp (pe_slice (SlR.or sl_list sl_tup) ha hl hu) fun σ H Q ⟨F, io, ro, M, er, mr, p⟩ => by
  refine ⟨F, io, ro, M, er, mr, PostG.mono (PostG.bind (rel := Rp X.K X.mg) p) fun v H1 ⟨F1, io1, M1, x, x1, m1, r1, p1⟩ => ?_⟩
  have er1 := er.ext x1
  refine ⟨F1, io1, ro, M1, er1, m1, PostG.mono (PostG.bind (rel := relO) p1) fun w H2 ⟨F2, io2, M2, y, x2, m2, r2, p2⟩ => ?_⟩
  have er2 := er1.ext x2
  cases r2
  refine ⟨F2, io2, ro, M2, er2, m2, PostG.mono (PostG.bind (rel := relO) p2) fun z H3 ⟨F3, io3, M3, yy, x3, m3, r3, p3⟩ => ?_⟩
  cases r3
  have rx : Rp X.K X.mg F3 io3 x v := Rp.mono x3.fr x3.pre (Rp.mono x2.fr x2.pre r1)
  unfold vCut at p3
  split at p3
  · obtain ⟨q, vs, rfl, h2, h3⟩ := tup_ok m3 rx
    split at p3
    · exact p3.elim
    · rename_i hn
      rw [h3.length] at hn
      exact .inr ⟨q, vs, rfl, h2, hn, (mkT_snd m3 (cut_rps h3) p3).2⟩
  · split at p3
    · rename_i xs e1
      obtain ⟨q, vs, rfl, h2, h3⟩ := asL_ok m3 rx e1
      exact .inl ⟨q, vs, rfl, h2, (mkL_snd m3 (cut_rps h3) p3).2⟩
    · exact p3.elim

/-! ### equality at any depth -/
mutual
/-- the data that an abstract value is, by the memory (to a depth) -/
def dat (M : Mem) : Nat → A → Option PyData
  | _, .non => some .none
  | _, .bl b => some (.bool b)
  | _, .int i => some (.int i)
  | _, .str x => some (.str x)
  | n + 1, .lst xs => (dats M n xs).map .list
  | n + 1, .frz xs => (dats M n xs).map .list
  | n + 1, .tup xs => (dats M n xs).map .tuple
  | n + 1, .loc k => match M[k]? with
    | some (.lst xs) => (dats M n xs).map .list
    | _ => none
  | _, _ => none
def dats (M : Mem) : Nat → List A → Option (List PyData)
  | _, [] => some []
  | n, a :: r => match dat M n a, dats M n r with
    | some d, some ds => some (d :: ds)
    | _, _ => none
end
def datC (M : Mem) (a : A) : Option PyData := match dat M 8 a with
  | some d => if SeqAt.shaped d = true then some d else none
  | none => none
def vEq : A → A → Mem → R A := fun x y M => match datC M x, datC M y with
  | some d, some e => .ok (.bl (PyData.eqv d e)) M
  | _, _ => .stuck
def vNe : A → A → Mem → R A := fun x y M => match datC M x, datC M y with
  | some d, some e => .ok (.bl (!PyData.eqv d e)) M
  | _, _ => .stuck
section
variable {F : Hp} {io : List Addr} {M : Mem} {H : Hp}
theorem some_map {α β : Type} {o : Option α} {f : α → β} {b : β} (h : o.map f = some b) : ∃ a, o = some a ∧ f a = b := by
  cases o with
  | none => cases h
  | some a => exact ⟨a, rfl, Option.some.inj h⟩
mutual
theorem dat_ok (m : MR K mg F io M H) : ∀ (n : Nat) (a : A) {v : V} {d : PyData}, Rp K mg F io a v → dat M n a = some d → Dp K H v d
  | _, .non, _, _, r, h => by cases r; simp [dat] at h; subst h; exact .non
  | _, .bl b, _, _, r, h => by cases r; simp [dat] at h; subst h; exact .bl b
  | _, .int i, _, _, r, h => by cases r; simp [dat] at h; subst h; exact .int i
  | _, .str x, _, _, r, h => by cases r; simp [dat] at h; subst h; exact .str x
  | n + 1, .lst xs, _, _, r, h => by
    obtain ⟨p, vs, rfl, h2, h3⟩ := asL_ok m r (xs := xs) rfl
    simp only [dat] at h
    obtain ⟨ds, e, rfl⟩ := some_map h
    exact .lst h2 (dats_ok m n xs h3 e)
  | n + 1, .frz xs, _, _, r, h => by
    obtain ⟨p, vs, rfl, h2, h3⟩ := asL_ok m r (xs := xs) rfl
    simp only [dat] at h
    obtain ⟨ds, e, rfl⟩ := some_map h
    exact .lst h2 (dats_ok m n xs h3 e)
  | n + 1, .tup xs, _, _, r, h => by
    obtain ⟨p, vs, rfl, h2, h3⟩ := tup_ok m r
    simp only [dat] at h
    obtain ⟨ds, e, rfl⟩ := some_map h
    exact .tup h2 (dats_ok m n xs h3 e)
  | n + 1, .loc k, _, _, r, h => by
    simp only [dat] at h
    cases e : M[k]? with
    | none => rw [e] at h; cases h
    | some o =>
      rw [e] at h
      cases o with
      | lst xs =>
        obtain ⟨p, vs, rfl, h2, h3⟩ := asL_ok m r (xs := xs) (by simp [asL, e])
        obtain ⟨ds, e2, rfl⟩ := some_map h
        exact .lst h2 (dats_ok m n xs h3 e2)
      | _ => cases h
  | 0, .lst _, _, _, _, h => by simp [dat] at h
  | 0, .frz _, _, _, _, h => by simp [dat] at h
  | 0, .tup _, _, _, _, h => by simp [dat] at h
  | 0, .loc _, _, _, _, h => by simp [dat] at h
  | _, .exc _, _, _, _, h => by simp [dat] at h
  | _, .fn _, _, _, _, h => by simp [dat] at h
theorem dats_ok (m : MR K mg F io M H) : ∀ (n : Nat) (as : List A) {vs : List V} {ds : List PyData}, Rps K mg F io as vs → dats M n as = some ds → DpAll K H vs ds
  | _, [], _, _, r, h => by cases r; simp [dats] at h; subst h; exact .nil
  | n, a :: as, _, _, r, h => by
    obtain ⟨v, vr, rfl, h1, h2⟩ := r
    simp only [dats] at h
    split at h
    · rename_i d ds e1 e2
      cases h
      exact .cons (dat_ok m n a h1 e1) (dats_ok m n as h2 e2)
    · cases h
end
end
theorem datC_ok {F : Hp} {io : List Addr} {M : Mem} {H : Hp} (m : MR K mg F io M H) {a : A} {v : V} {d : PyData} (r : Rp K mg F io a v) (h : datC M a = some d) : Dp K H v d ∧ SeqAt.shaped d = true := by
  unfold datC at h
  split at h
  · rename_i d' e
    split at h
    · rename_i hs
      cases h
      exact ⟨dat_ok m 8 a r e, hs⟩
    · cases h
  · cases h
theorem sEq : Snd2 K mg (rEqD K) vEq := by
  intro F io M H x y v w σ W Q m r1 r2 p
  unfold vEq at p
  split at p
  · rename_i d e h1 h2
    obtain ⟨a1, b1⟩ := datC_ok m r1 h1
    obtain ⟨a2, b2⟩ := datC_ok m r2 h2
    exact ⟨d, e, a1, a2, b1, b2, PostG.now p m rfl⟩
  · exact p.elim
theorem sNe : Snd2 K mg (rNeD K) vNe := by
  intro F io M H x y v w σ W Q m r1 r2 p
  unfold vNe at p
  split at p
  · rename_i d e h1 h2
    obtain ⟨a1, b1⟩ := datC_ok m r1 h1
    obtain ⟨a2, b2⟩ := datC_ok m r2 h2
    exact ⟨d, e, a1, a2, b1, b2, PostG.now p m rfl⟩
  · exact p.elim
/-! ### membership of flat values -/
def flatA : A → Bool
  | .non => true
  | .bl _ => true
  | .int _ => true
  | .str _ => true
  | _ => false
def toV : A → V
  | .non => .non
  | .bl b => .bl b
  | .int i => .int i
  | .str x => .str x
  | _ => .non
def asS (M : Mem) : A → Option (List A)
  | .tup xs => some xs
  | a => asL M a
def vIn (neg : Bool) : A → A → Mem → R A := fun x y M => match asS M y with
  | some xs => if flatA x = true ∧ xs.all flatA = true then .ok (.bl (if neg then !inV (toV x) (xs.map toV) else inV (toV x) (xs.map toV))) M else .stuck
  | none => .stuck
theorem toV_ok {F : Hp} {io : List Addr} {x : A} {v : V} (r : Rp K mg F io x v) (h : flatA x = true) : v = toV x ∧ flatV v = true := by
  cases x <;> first | (cases r; exact ⟨rfl, rfl⟩) | cases h
theorem toVs_ok {F : Hp} {io : List Addr} : ∀ {xs : List A} {vs : List V}, Rps K mg F io xs vs → xs.all flatA = true → vs = xs.map toV ∧ vs.all flatV = true
  | [], _, h, _ => by cases h; exact ⟨rfl, rfl⟩
  | a :: r, _, ⟨v, vr, e, h1, h2⟩, h => by
    subst e
    simp only [List.all_cons, Bool.and_eq_true] at h
    obtain ⟨q1, q2⟩ := toV_ok h1 h.1
    obtain ⟨q3, q4⟩ := toVs_ok h2 h.2
    simp [← q1, ← q3, q2, q4]
theorem asS_ok {F : Hp} {io : List Addr} {M : Mem} {H : Hp} (m : MR K mg F io M H) {a : A} {v : V} {xs : List A} (r : Rp K mg F io a v) (h : asS M a = some xs) : ∃ p vs, v = .ref p ∧ (SqL K H p vs ∨ SqT K H p vs) ∧ Rps K mg F io xs vs := by
  cases a with
  | tup ys =>
    obtain ⟨p, vs, h1, h2, h3⟩ := tup_ok m r
    cases h
    exact ⟨p, vs, h1, .inr h2, h3⟩
  | _ => obtain ⟨p, vs, h1, h2, h3⟩ := asL_ok m r h; exact ⟨p, vs, h1, .inl h2, h3⟩
theorem sIn {neg : Bool} : Snd2 K mg (rIn K neg) (vIn neg) := by
  intro F io M H x y v w σ W Q m r1 r2 p
  unfold vIn at p
  split at p
  · rename_i xs e
    split at p
    · rename_i hf
      obtain ⟨q, vs, rfl, h2, h3⟩ := asS_ok m r2 e
      obtain ⟨a1, a2⟩ := toV_ok r1 hf.1
      obtain ⟨b1, b2⟩ := toVs_ok h3 hf.2
      refine ⟨q, vs, rfl, h2, a2, b2, PostG.now p m ?_⟩
      rw [a1, b1]
      cases neg <;> rfl
    · exact p.elim
  · exact p.elim
end
end AL

/-! AL4: statements, targets, loops, comprehensions. -/
namespace AL
open PySem PySem.Spec L2

/-- how a statement ends -/
inductive Fl where
  | nx (ro : Ro) (M : Mem) | rt (a : A) (M : Mem) | bk (ro : Ro) (M : Mem) | ct (ro : Ro) (M : Mem) | er (c : Nat) (ro : Ro) (M : Mem) | stuck
abbrev SS := Ro → Mem → Fl
section
variable (K : PySem.W.Frag) (mg : Str → Option Value)
def PostS (W : WX) (F : Hp) (io : List Addr) (H : Hp) (f : Fl) (D : Ends) : Prop := match f with
  | .nx ro' M' => ∀ F' io' σ' H', Ext F io H F' io' H' → ER K mg F' io' ro' σ' → MR K mg F' io' M' H' → D.nx σ' H'
  | .rt a M' => ∀ F' io' v H', Ext F io H F' io' H' → MR K mg F' io' M' H' → Rp K mg F' io' a v → D.rt v H'
  | .bk ro' M' => ∀ F' io' σ' H', Ext F io H F' io' H' → ER K mg F' io' ro' σ' → MR K mg F' io' M' H' → D.bk σ' H'
  | .ct ro' M' => ∀ F' io' σ' H', Ext F io H F' io' H' → ER K mg F' io' ro' σ' → MR K mg F' io' M' H' → D.ct σ' H'
  | .er c ro' M' => ∀ F' io' σ' H' C, Ext F io H F' io' H' → ER K mg F' io' ro' σ' → MR K mg F' io' M' H' → mg (clsS c) = some (.ref C) → W (.ref C) none σ' H'
  | .stuck => False
def tS (W : WX) (f : SS) : TS := fun D σ H => ∃ F io ro M, ER K mg F io ro σ ∧ MR K mg F io M H ∧ PostS K mg W F io H (f ro M) D
end
/-- from an expression's outcome -/
def Fl.of {α : Type} (r : R α) (ro : Ro) (k : α → Mem → Fl) : Fl := match r with
  | .ok a M => k a M
  | .err c M => .er c ro M
  | .stuck => .stuck
section
variable {K : PySem.W.Frag} {mg : Str → Option Value} {F F' : Hp} {io io' : List Addr} {H H' : Hp} {M : Mem} {σ : L2.St} {ro : Ro} {W : WX} {D D' : Ends}
theorem PostS.ext {f : Fl} (h : PostS K mg W F io H f D) (e : Ext F io H F' io' H') : PostS K mg W F' io' H' f D := by
  cases f with
  | nx ro M => exact fun F2 io2 σ2 H2 e2 => h F2 io2 σ2 H2 (e.trans e2)
  | rt a M => exact fun F2 io2 v H2 e2 => h F2 io2 v H2 (e.trans e2)
  | bk ro M => exact fun F2 io2 σ2 H2 e2 => h F2 io2 σ2 H2 (e.trans e2)
  | ct ro M => exact fun F2 io2 σ2 H2 e2 => h F2 io2 σ2 H2 (e.trans e2)
  | er c ro M => exact fun F2 io2 σ2 H2 C e2 => h F2 io2 σ2 H2 C (e.trans e2)
  | stuck => exact h
theorem PostS.mono {f : Fl} (h : PostS K mg W F io H f D) (i1 : ∀ σ H, D.nx σ H → D'.nx σ H) (i2 : ∀ v H, D.rt v H → D'.rt v H) (i3 : ∀ σ H, D.bk σ H → D'.bk σ H) (i4 : ∀ σ H, D.ct σ H → D'.ct σ H) : PostS K mg W F io H f D' := by
  cases f with
  | nx ro M => exact fun F2 io2 σ2 H2 e2 a b => i1 _ _ (h F2 io2 σ2 H2 e2 a b)
  | rt a M => exact fun F2 io2 v H2 e2 a b => i2 _ _ (h F2 io2 v H2 e2 a b)
  | bk ro M => exact fun F2 io2 σ2 H2 e2 a b => i3 _ _ (h F2 io2 σ2 H2 e2 a b)
  | ct ro M => exact fun F2 io2 σ2 H2 e2 a b => i4 _ _ (h F2 io2 σ2 H2 e2 a b)
  | er c ro M => exact h
  | stuck => exact h
/-- an expression within a statement -/
theorem PostS.of {α β : Type} {rel : Hp → List Addr → α → β → Prop} {r : R α} {k : α → Mem → Fl} (h : PostS K mg W F io H (Fl.of r ro k) D) (er : ER K mg F io ro σ) :
    PostG K mg rel W F io H σ r (fun v H1 => ∃ F1 io1 M1 a, Ext F io H F1 io1 H1 ∧ MR K mg F1 io1 M1 H1 ∧ rel F1 io1 a v ∧ ER K mg F1 io1 ro σ ∧ PostS K mg W F1 io1 H1 (k a M1) D) := by
  cases r with
  | ok a M' => exact fun F2 io2 v H2 e2 m2 r2 => ⟨F2, io2, M', a, e2, m2, r2, er.ext e2, PostS.ext h e2⟩
  | err c M' => exact fun F2 io2 H2 C e2 m2 hc => h F2 io2 σ H2 C e2 (er.ext e2) m2 hc
  | stuck => exact h
theorem PostS.now (h : PostS K mg W F io H (.nx ro M) D) (er : ER K mg F io ro σ) (m : MR K mg F io M H) : D.nx σ H := h F io σ H Ext.refl er m
theorem ER.set (er : ER K mg F io ro σ) {a : A} {v : V} (r : Rp K mg F io a v) (i : Nat) : ER K mg F io (ro.set i (some a)) (σ.set i (some v)) := ⟨by simp [er.1], fun j b h => by
  by_cases hj : j = i
  · subst hj
    have hl : j < ro.length := by
      have := (List.getElem?_eq_some_iff.mp h).1
      simpa using this
    rw [List.getElem?_set_self hl] at h
    cases h
    exact ⟨v, List.getElem?_set_self (by rw [← er.1]; exact hl), r⟩
  · rw [List.getElem?_set_ne (Ne.symm hj)] at h
    obtain ⟨w, q1, q2⟩ := er.2 j b h
    exact ⟨w, by rw [List.getElem?_set_ne (Ne.symm hj)]; exact q1, q2⟩⟩
end

/-! ### statements' words -/
def sNext : SS := fun ro M => .nx ro M
def sSeq (f g : SS) : SS := fun ro M => match f ro M with
  | .nx ro' M' => g ro' M'
  | e => e
def sSet (i : Nat) (fa : SE) : SS := fun ro M => Fl.of (fa ro M) ro fun a M1 => .nx (ro.set i (some a)) M1
def sExpr (fa : SE) : SS := fun ro M => Fl.of (fa ro M) ro fun _ M1 => .nx ro M1
def sRet (fa : SE) : SS := fun ro M => Fl.of (fa ro M) ro fun a M1 => .rt a M1
def sRetN : SS := fun _ M => .rt .non M
def sIf (t : ST) (f g : SS) : SS := fun ro M => Fl.of (t ro M) ro fun k M1 => match k with
  | true => f ro M1
  | false => g ro M1
def sRaise (c : Nat) : SS := fun ro M => .er c ro M
/-- targets: what is stored where -/
abbrev SG := A → Ro → Mem → Option (Ro × Mem)
def gNm (i : Nat) : SG := fun a ro M => some (ro.set i (some a), M)
abbrev SGs := List A → Ro → Mem → Option (Ro × Mem)
def gsNil : SGs := fun as ro M => match as with
  | [] => some (ro, M)
  | _ => none
def gsCons (g : SG) (r : SGs) : SGs := fun as ro M => match as with
  | a :: as => match g a ro M with
    | some (ro1, M1) => r as ro1 M1
    | none => none
  | [] => none
def gTp (n : Nat) (g : SGs) : SG := fun a ro M => match a with
  | .tup xs => if xs.length = n then g xs ro M else none
  | _ => none
/-- o[i] = v, o a list of the memory -/
def setIx (o i a : A) (M : Mem) : Option Mem := match o, i with
  | .loc n, .int k => match M[n]? with
    | some (.lst xs) => match ixN xs.length k with
      | some j => some (M.set n (.lst (xs.set j a)))
      | none => none
    | _ => none
  | _, _ => none
def gIx (fo fi : SE) : SG := fun a ro M => match fo ro M with
  | .ok o M1 => match fi ro M1 with
    | .ok i M2 => match setIx o i a M2 with
      | some M3 => some (ro, M3)
      | none => none
    | _ => none
  | _ => none
def sAsg (g : SG) (fa : SE) : SS := fun ro M => Fl.of (fa ro M) ro fun a M1 => match g a ro M1 with
  | some (ro2, M2) => .nx ro2 M2
  | none => .stuck

section
variable {X : Cx} {W : WX}
abbrev tGt (K : PySem.W.Frag) (mg : Str → Option Value) (g : SG) : TG := fun v σ H Q => ∃ F io ro M a, ER K mg F io ro σ ∧ MR K mg F io M H ∧ Rp K mg F io a v ∧ ∃ ro2 M2, g a ro M = some (ro2, M2) ∧ ∀ F' io' σ' H', Ext F io H F' io' H' → ER K mg F' io' ro2 σ' → MR K mg F' io' M2 H' → Q σ' H'
abbrev tGts (K : PySem.W.Frag) (mg : Str → Option Value) (g : SGs) : TGs := fun v σ H Q => ∃ F io ro M a, ER K mg F io ro σ ∧ MR K mg F io M H ∧ Rps K mg F io a v ∧ ∃ ro2 M2, g a ro M = some (ro2, M2) ∧ ∀ F' io' σ' H', Ext F io H F' io' H' → ER K mg F' io' ro2 σ' → MR K mg F' io' M2 H' → Q σ' H'
theorem dg_name {i : Nat} {x : Str} {pos : Pos} (hN : X.N.Nodup) (hi : X.N[i]? = some x) (hx : Loc X.env.scope x) (hf : X.fn x = true ∨ X.env.scope.names.lookup x = some .local := by first | exact .inl rfl | exact .inr rfl | assumption) : PG X (.Name x pos) (tGt X.K X.mg (gNm i)) :=
  PG.imp (pg_name hN hi hx hf) fun v σ H Q ⟨F, io, ro, M, a, er, mr, ra, ro2, M2, hg, q⟩ => by
    unfold gNm at hg
    cases hg
    exact q F io _ H Ext.refl (er.set ra i) mr
theorem PGs.imp {es : List Expr} {t t' : TGs} (h : PGs X es t) (i : ∀ v σ H Q, t' v σ H Q → t v σ H Q) : PGs X es t' := ⟨fun pins s σ H vs us Q I r q => h.run pins s σ H vs us Q I r (i vs σ H Q q)⟩
theorem dgs_nil : PGs X [] (tGts X.K X.mg gsNil) := PGs.imp pgs_nil fun v σ H Q ⟨F, io, ro, M, a, er, mr, ra, ro2, M2, hg, q⟩ => by
  cases a with
  | nil =>
    cases ra
    cases hg
    exact ⟨rfl, q F io _ H Ext.refl er mr⟩
  | cons _ _ => cases hg
theorem dgs_cons {e : Expr} {es : List Expr} {g : SG} {r : SGs} (h1 : PG X e (tGt X.K X.mg g)) (h2 : PGs X es (tGts X.K X.mg r)) (hs : (assignEach (e :: es) X.env).map (·.2) = assign e X.env :: (assignEach es X.env).map (·.2) := by rfl) : PGs X (e :: es) (tGts X.K X.mg (gsCons g r)) :=
  PGs.imp (pgs_cons h1 h2 hs) fun v σ H Q ⟨F, io, ro, M, a, er, mr, ra, ro2, M2, hg, q⟩ => by
    cases a with
    | nil => cases hg
    | cons b bs =>
      obtain ⟨w, wr, rfl, rb, rbs⟩ := ra
      unfold gsCons at hg
      dsimp only at hg
      cases e1 : g b ro M with
      | none => rw [e1] at hg; cases hg
      | some z =>
        obtain ⟨ro1, M1⟩ := z
        rw [e1] at hg
        exact ⟨w, wr, rfl, F, io, ro, M, b, er, mr, rb, ro1, M1, e1, fun F1 io1 σ1 H1 x1 er1 m1 => ⟨F1, io1, ro1, M1, bs, er1, m1, Rps.mono x1.fr x1.pre rbs, ro2, M2, hg, fun F2 io2 σ2 H2 x2 er2 m2 => q F2 io2 σ2 H2 (x1.trans x2) er2 m2⟩⟩
theorem dg_tup {es : List Expr} {k : Nat} {g : SGs} {n : Nat} {pos : Pos} (hc : X.calm = true) (h : PGs X es (tGts X.K X.mg g)) (hn : (assignEach es X.env).length = n := by rfl) (hst : (assignEach es X.env).findIdx? (·.1) = none := by rfl) : PG X (.Tuple es k pos) (tGt X.K X.mg (gTp n g)) :=
  PG.imp (pg_tup hc h hn hst) fun v σ H Q ⟨F, io, ro, M, a, er, mr, ra, ro2, M2, hg, q⟩ => by
    cases a with
    | tup xs =>
      unfold gTp at hg
      dsimp only at hg
      split at hg
      · rename_i hl
        obtain ⟨p, vs, rfl, h2, h3⟩ := tup_ok mr ra
        exact ⟨p, vs, rfl, h2, by rw [← h3.length]; exact hl, F, io, ro, M, xs, er, mr, h3, ro2, M2, hg, q⟩
      · cases hg
    | _ => cases hg
theorem dg_ix {o i : Expr} {fo fi : SE} {pos : Pos} (ho : PE X o (tE X.K X.mg (fun _ _ _ _ => False) fo)) (hi : PE X i (tE X.K X.mg (fun _ _ _ _ => False) fi))
    (ha : ∀ v, assign (.Subscript o i pos) X.env v = (do
      let ov ← holding [v] (eval o X.env)
      let iv ← holding [v, ov] (eval i X.env)
      standAt pos
      holding [v, ov, iv] (setItem ov iv v)
      release [v, ov, iv] []) := by intro _; rfl) : PG X (.Subscript o i pos) (tGt X.K X.mg (gIx fo fi)) :=
  PG.imp (pg_sub ho hi set_list ha) fun v σ H Q ⟨F, io, ro, M, a, er, mr, ra, ro2, M2, hg, q⟩ => by
    unfold gIx at hg
    cases e1 : fo ro M with
    | err _ _ => rw [e1] at hg; cases hg
    | stuck => rw [e1] at hg; cases hg
    | ok ob M1 =>
      rw [e1] at hg
      dsimp only at hg
      refine ⟨F, io, ro, M, er, mr, ?_⟩
      rw [e1]
      intro F1 io1 ov H1 x1 m1 r1
      cases e2 : fi ro M1 with
      | err _ _ => rw [e2] at hg; cases hg
      | stuck => rw [e2] at hg; cases hg
      | ok ib M3 =>
        rw [e2] at hg
        dsimp only at hg
        refine ⟨F1, io1, ro, M1, er.ext x1, m1, ?_⟩
        rw [e2]
        intro F2 io2 iv H2 x2 m2 r2
        cases e3 : setIx ob ib a M3 with
        | none => rw [e3] at hg; cases hg
        | some M4 =>
          rw [e3] at hg
          cases hg
          have r1' : Rp X.K X.mg F2 io2 ob ov := Rp.mono x2.fr x2.pre r1
          have ra' : Rp X.K X.mg F2 io2 a v := Rp.mono x2.fr x2.pre (Rp.mono x1.fr x1.pre ra)
          unfold setIx at e3
          split at e3
          · rename_i n k
            cases r2
            obtain ⟨p, rfl, hp⟩ := r1'
            split at e3
            · rename_i xs e4
              split at e3
              · rename_i j e5
                cases e3
                obtain ⟨_, vs, h1, h2⟩ := m2.obj n p _ hp e4
                refine ⟨p, vs, k, j, rfl, rfl, h1, by rw [← h2.length]; exact e5, ?_⟩
                have x3 := Ext.write (F := F2) (H := H2) (o := .lst (vs.set j v)) hp
                exact q F2 io2 σ _ (x1.trans (x2.trans x3)) ((er.ext x1).ext x2 |>.ext x3) (m2.write hp e4 (fun z => nomatch z) ⟨_, upd_same, h2.set ra' j⟩)
              · cases e3
            · cases e3
          · cases e3

/-! ### small statements -/
variable {fa : SE} {a : Expr} {pos : Pos}
theorem ds_nil : PSs X [] (tS X.K X.mg W sNext) := PSs.imp pss_nil fun D σ H ⟨F, io, ro, M, er, mr, p⟩ => PostS.now p er mr
theorem ds_cons {st : Stmt} {rest : List Stmt} {f g : SS} (h1 : PS X st (tS X.K X.mg W f)) (h2 : PSs X rest (tS X.K X.mg W g)) : PSs X (st :: rest) (tS X.K X.mg W (sSeq f g)) := PSs.imp (pss_cons h1 h2) fun D σ H ⟨F, io, ro, M, er, mr, p⟩ => by
  refine ⟨F, io, ro, M, er, mr, ?_⟩
  unfold sSeq at p
  cases e : f ro M with
  | nx ro1 M1 =>
    rw [e] at p
    exact fun F1 io1 σ1 H1 x1 er1 m1 => ⟨F1, io1, ro1, M1, er1, m1, PostS.ext p x1⟩
  | rt a M => rw [e] at p; exact p
  | bk ro M => rw [e] at p; exact p
  | ct ro M => rw [e] at p; exact p
  | er c ro M => rw [e] at p; exact p
  | stuck => rw [e] at p; exact p
theorem ds_one {st : Stmt} {f : SS} (h1 : PS X st (tS X.K X.mg W f)) : PSs X [st] (tS X.K X.mg W f) := pss_one h1
theorem ds_pass : PS X (.Pass pos) (tS X.K X.mg W sNext) := PS.imp ps_pass fun D σ H ⟨F, io, ro, M, er, mr, p⟩ => PostS.now p er mr
theorem ds_doc {x j pos'} : PS X (.Expr (.Constant (.str x) j pos) pos') (tS X.K X.mg W sNext) := PS.imp ps_doc fun D σ H ⟨F, io, ro, M, er, mr, p⟩ => PostS.now p er mr
theorem ds_asg {tg : Expr} {g : SG} (he : PE X a (tE X.K X.mg W fa)) (hg : PG X tg (tGt X.K X.mg g)) (hs : swapsWithSole [tg] a pos.line X.env = pure false := by rfl) (hw : swappedStores [tg] a X.env = pure none := by rfl) (h1 : (assignEach [tg] X.env).map (·.2) = [assign tg X.env] := by rfl) : PS X (.Assign [tg] a pos) (tS X.K X.mg W (sAsg g fa)) :=
  PS.imp (ps_asg he hg hs hw h1) fun D σ H ⟨F, io, ro, M, er, mr, p⟩ => by
    refine ⟨F, io, ro, M, er, mr, PostG.mono (PostS.of (rel := Rp X.K X.mg) p er) fun v H1 ⟨F1, io1, M1, x, x1, m1, r1, er1, p1⟩ => ?_⟩
    cases e : g x ro M1 with
    | none => rw [e] at p1; exact p1.elim
    | some z =>
      obtain ⟨ro2, M2⟩ := z
      rw [e] at p1
      exact ⟨F1, io1, ro, M1, x, er1, m1, r1, ro2, M2, e, p1⟩
theorem ds_set {i : Nat} {x : Str} {pos' : Pos} (hN : X.N.Nodup) (hi : X.N[i]? = some x) (hx : Loc X.env.scope x) (he : PE X a (tE X.K X.mg W fa)) (hs : swapsWith a (some (.Name x pos')) pos.line X.env = pure false := by rfl) (hf : X.fn x = true ∨ X.env.scope.names.lookup x = some .local := by first | exact .inl rfl | exact .inr rfl | assumption) : PS X (.Assign [.Name x pos'] a pos) (tS X.K X.mg W (sSet i fa)) :=
  PS.imp (ps_set hN hi hx he hs hf) fun D σ H ⟨F, io, ro, M, er, mr, p⟩ =>
    ⟨F, io, ro, M, er, mr, PostG.mono (PostS.of (rel := Rp X.K X.mg) p er) fun v H1 ⟨F1, io1, M1, x, x1, m1, r1, er1, p1⟩ => PostS.now p1 (er1.set r1 i) m1⟩
theorem ds_expr (he : PE X a (tE X.K X.mg W fa)) (hs : swapsWith a none pos.line X.env = pure false := by rfl) : PS X (.Expr a pos) (tS X.K X.mg W (sExpr fa)) := PS.imp (ps_expr he hs) fun D σ H ⟨F, io, ro, M, er, mr, p⟩ =>
  ⟨F, io, ro, M, er, mr, PostG.mono (PostS.of (rel := Rp X.K X.mg) p er) fun v H1 ⟨F1, io1, M1, x, x1, m1, r1, er1, p1⟩ => PostS.now p1 er1 m1⟩
theorem ds_ret (he : PE X a (tE X.K X.mg W fa)) : PS X (.Return (some a) pos) (tS X.K X.mg W (sRet fa)) := PS.imp (ps_ret he) fun D σ H ⟨F, io, ro, M, er, mr, p⟩ =>
  ⟨F, io, ro, M, er, mr, PostG.mono (PostS.of (rel := Rp X.K X.mg) p er) fun v H1 ⟨F1, io1, M1, x, x1, m1, r1, er1, p1⟩ => p1 F1 io1 v H1 Ext.refl m1 r1⟩
theorem ds_retN : PS X (.Return none pos) (tS X.K X.mg W sRetN) := PS.imp ps_retN fun D σ H ⟨F, io, ro, M, er, mr, p⟩ => p F io _ H Ext.refl mr rfl
theorem ds_if {c : Expr} {p q : List Stmt} {t : ST} {f g : SS} (hc : PT X c (tT X.K X.mg W t)) (hp : PSs X p (tS X.K X.mg W f)) (hq : PSs X q (tS X.K X.mg W g)) : PS X (.If c p q pos) (tS X.K X.mg W (sIf t f g)) := PS.imp (ps_if hc hp hq) fun D σ H ⟨F, io, ro, M, er, mr, p⟩ =>
  ⟨F, io, ro, M, er, mr, PostG.mono (PostS.of (rel := relB) p er) fun v H1 ⟨F1, io1, M1, x, x1, m1, r1, er1, p1⟩ => by
    cases r1
    cases v with
    | true => rw [if_pos rfl]; exact ⟨F1, io1, ro, M1, er1, m1, p1⟩
    | false => rw [if_neg Bool.false_ne_true]; exact ⟨F1, io1, ro, M1, er1, m1, p1⟩⟩
/-- raise X('..') -/
theorem ds_raise {c : Nat} {x m : Str} {C : Addr} {j : Nat} {p p2 pos2 : Pos} (hc : X.calm = true) (tk : Takes X W) (hx : x = clsS c) (q : PySem.W.excIn X.K C He.veBase "ValueError.__new__" = true) (gC : X.mg x = some (.ref C)) (kC : PySem.W.keepIn X.K (.ref C) = true) (r : Raises X (.ref C)) (hg : Gl X x)
    (hdb : (x == ("__debug__" : Str)) = false := by decide) : PS X (.Raise (some (.Call (.Name x p) [.Constant (.str m) j p2] [] pos)) none pos2) (tS X.K X.mg W (sRaise c)) :=
  PS.imp (ps_raise hc tk (pmk_own PySem.F.excBase_ValueError q gC kC r hg hdb)) fun D σ H ⟨F, io, ro, M, er, mr, p⟩ => p F io σ H C Ext.refl er mr (by rw [← hx]; exact gC)
end
end AL

/-! AL5: what is walked; for, while; comprehensions. -/
namespace AL
open PySem PySem.Spec L2

/-- what is walked: the items, and the lists that must stay as they are -/
structure AI where
  xs : List A
  src : List (A × List A)
def live (M : Mem) (ai : AI) : Prop := ∀ p ∈ ai.src, asL M p.1 = some p.2
section
variable (K : PySem.W.Frag) (mg : Str → Option Value)
structure JOk (F : Hp) (io : List Addr) (ai : AI) (J : It) : Prop where
  go : ∀ (F' : Hp) (io' : List Addr) (M : Mem) (H : Hp) (i : Nat) (x : A), Same F F' → (∀ (n : Nat) (p : Addr), io[n]? = some p → io'[n]? = some p) → MR K mg F' io' M H → live M ai → ai.xs[i]? = some x →
    J.go i H ∧ ∀ v H', J.yld i H v H' → ∃ F'', Ext F' io' H F'' io' H' ∧ MR K mg F'' io' M H' ∧ Rp K mg F'' io' x v
  stop : ∀ (F' : Hp) (io' : List Addr) (M : Mem) (H : Hp) (i : Nat), Same F F' → (∀ (n : Nat) (p : Addr), io[n]? = some p → io'[n]? = some p) → MR K mg F' io' M H → live M ai → ai.xs.length ≤ i → J.stop i H
abbrev tI (W : WX) (f : Ro → Mem → R AI) : TI := tG K mg (JOk K mg) W f
end
abbrev SI := Ro → Mem → R AI
open Classical in
noncomputable def forGo (ai : AI) (g : SG) (b : SS) : List A → SS
  | [], ro, M => if live M ai then .nx ro M else .stuck
  | x :: r, ro, M => if live M ai then (match g x ro M with
    | some (ro1, M1) => match b ro1 M1 with
      | .nx ro2 M2 => forGo ai g b r ro2 M2
      | .ct ro2 M2 => forGo ai g b r ro2 M2
      | .bk ro2 M2 => .nx ro2 M2
      | f => f
    | none => .stuck) else .stuck
noncomputable def sFor (fi : SI) (g : SG) (b : SS) : SS := fun ro M => Fl.of (fi ro M) ro fun ai M1 => forGo ai g b ai.xs ro M1

section
variable {X : Cx} {W : WX}
theorem ds_for {tg iter : Expr} {body : List Stmt} {fi : SI} {g : SG} {b : SS} {pos : Pos} (hp : PassesOwn (model X.prog X.w) X.A X.env X.xe) (hc : X.calm = true) (hi : PI X tg iter (tI X.K X.mg W fi)) (hg : PG X tg (tGt X.K X.mg g)) (hb : PSs X body (tS X.K X.mg W b))
    (hs : ∀ x, foldedSetIterable iter X.env x = pure x := by intro _; rfl) : PS X (.For tg iter body [] pos) (tS X.K X.mg W (sFor fi g b)) :=
  PS.imp (ps_for hp hc hi hg hb hs) fun D σ H ⟨F, io, ro, M, er, mr, p⟩ => by
    refine ⟨F, io, ro, M, er, mr, PostG.mono (PostS.of (rel := JOk X.K X.mg) p er) fun J H1 ⟨F1, io1, M1, ai, x1, m1, j1, er1, p1⟩ => ?_⟩
    refine ⟨fun i m σ' H' => m = ai.xs.length - i ∧ i ≤ ai.xs.length ∧ ∃ F' io' ro' M', Ext F1 io1 H1 F' io' H' ∧ ER X.K X.mg F' io' ro' σ' ∧ MR X.K X.mg F' io' M' H' ∧ PostS X.K X.mg W F' io' H' (forGo ai g b (ai.xs.drop i) ro' M') D,
      ⟨_, rfl, Nat.zero_le _, F1, io1, ro, M1, Ext.refl, er1, m1, p1⟩, ?_⟩
    rintro i m σ' H' ⟨rfl, hi, F', io', ro', M', x', er', m', p'⟩
    by_cases hl : i < ai.xs.length
    · have hx : ai.xs[i]? = some ai.xs[i] := by simp [hl]
      rw [List.drop_eq_getElem_cons hl] at p'
      unfold forGo at p'
      split at p'
      · rename_i lv
        obtain ⟨go, yl⟩ := j1.go F' io' M' H' i _ x'.fr x'.pre m' lv hx
        cases e1 : g ai.xs[i] ro' M' with
        | none => rw [e1] at p'; exact p'.elim
        | some z =>
          obtain ⟨ro1, M2⟩ := z
          rw [e1] at p'
          dsimp only at p'
          refine .inr ⟨go, fun σ2 H2 => (ai.xs.length - (i + 1)) = ai.xs.length - (i + 1) ∧ i + 1 ≤ ai.xs.length ∧ ∃ F' io' ro' M', Ext F1 io1 H1 F' io' H2 ∧ ER X.K X.mg F' io' ro' σ2 ∧ MR X.K X.mg F' io' M' H2 ∧ PostS X.K X.mg W F' io' H2 (forGo ai g b (ai.xs.drop (i + 1)) ro' M') D,
            fun σ2 H2 q => ⟨_, by omega, q⟩, fun v H2 y => ?_⟩
          obtain ⟨F2, x2, m2, r2⟩ := yl v H2 y
          refine ⟨F2, io', ro', M', _, er'.ext x2, m2, r2, ro1, M2, e1, fun F3 io3 σ3 H3 x3 er3 m3 => ⟨F3, io3, ro1, M2, er3, m3, ?_⟩⟩
          have p2 : PostS X.K X.mg W F3 io3 H3 _ D := PostS.ext p' (x2.trans x3)
          have x13 := x'.trans (x2.trans x3)
          cases e2 : b ro1 M2 with
          | nx ro2 M3 => rw [e2] at p2; exact fun F4 io4 σ4 H4 x4 er4 m4 => ⟨rfl, hl, F4, io4, ro2, M3, x13.trans x4, er4, m4, PostS.ext p2 x4⟩
          | ct ro2 M3 => rw [e2] at p2; exact fun F4 io4 σ4 H4 x4 er4 m4 => ⟨rfl, hl, F4, io4, ro2, M3, x13.trans x4, er4, m4, PostS.ext p2 x4⟩
          | bk ro2 M3 => rw [e2] at p2; exact fun F4 io4 σ4 H4 x4 er4 m4 => p2 F4 io4 σ4 H4 x4 er4 m4
          | rt a M3 => rw [e2] at p2; exact p2
          | er c ro2 M3 => rw [e2] at p2; exact p2
          | stuck => rw [e2] at p2; exact p2.elim
      · exact p'.elim
    · have e : i = ai.xs.length := by omega
      subst e
      rw [List.drop_length] at p'
      unfold forGo at p'
      split at p'
      · rename_i lv
        exact .inl ⟨j1.stop F' io' M' H' _ x'.fr x'.pre m' lv (Nat.le_refl _), PostS.now p' er' m'⟩
      · exact p'.elim

/-! ### while -/
def whGo (t : ST) (b : SS) : Nat → SS
  | 0, _, _ => .stuck
  | n + 1, ro, M => Fl.of (t ro M) ro fun k M1 => match k with
    | true => match b ro M1 with
      | .nx ro2 M2 => whGo t b n ro2 M2
      | .ct ro2 M2 => whGo t b n ro2 M2
      | .bk ro2 M2 => .nx ro2 M2
      | f => f
    | false => .nx ro M1
open Classical in
noncomputable def sWhile (t : ST) (b : SS) : SS := fun ro M => if h : ∃ n, whGo t b n ro M ≠ .stuck then whGo t b h.choose ro M else .stuck
theorem whGo_more {t : ST} {b : SS} : ∀ {n : Nat} {ro : Ro} {M : Mem}, whGo t b n ro M ≠ .stuck → whGo t b (n + 1) ro M = whGo t b n ro M
  | 0, _, _, h => absurd rfl h
  | n + 1, ro, M, h => by
    rw [whGo, whGo.eq_2]
    rw [whGo] at h
    cases e : t ro M with
    | ok k M1 =>
      rw [e] at h
      cases k with
      | false => rfl
      | true =>
        simp only [Fl.of] at h ⊢
        cases e2 : b ro M1 with
        | nx ro2 M2 => rw [e2] at h; exact whGo_more h
        | ct ro2 M2 => rw [e2] at h; exact whGo_more h
        | _ => rfl
    | _ => rfl
theorem whGo_le {t : ST} {b : SS} {n : Nat} {ro : Ro} {M : Mem} (h : whGo t b n ro M ≠ .stuck) : ∀ k, whGo t b (n + k) ro M = whGo t b n ro M
  | 0 => rfl
  | k + 1 => by
    have ih := whGo_le h k
    rw [← Nat.add_assoc, whGo_more (by rw [ih]; exact h), ih]
theorem sWhile_of {t : ST} {b : SS} {n : Nat} {ro : Ro} {M : Mem} {f : Fl} (h : whGo t b n ro M = f) (hf : f ≠ .stuck) : sWhile t b ro M = f := by
  have he : ∃ n, whGo t b n ro M ≠ .stuck := ⟨n, by rw [h]; exact hf⟩
  unfold sWhile
  rw [dif_pos he]
  have h1 := he.choose_spec
  have h2 : whGo t b n ro M ≠ .stuck := by rw [h]; exact hf
  have a1 := whGo_le h1 n
  have a2 := whGo_le h2 he.choose
  rw [← a1, Nat.add_comm, a2, h]
theorem ds_while {c : Expr} {body : List Stmt} {t : ST} {b : SS} {pos : Pos} (hp : PassesOwn (model X.prog X.w) X.A X.env X.xe) (hc : PT X c (tT X.K X.mg W t)) (hb : PSs X body (tS X.K X.mg W b)) : PS X (.While c body [] pos) (tS X.K X.mg W (sWhile t b)) :=
  PS.imp (ps_while hp hc hb) fun D σ H ⟨F, io, ro, M, er, mr, p⟩ => by
    by_cases he : ∃ n, whGo t b n ro M ≠ .stuck
    · obtain ⟨n0, hn0⟩ := he
      rw [sWhile_of rfl hn0] at p
      refine ⟨fun n σ' H' => ∃ F' io' ro' M', Ext F io H F' io' H' ∧ ER X.K X.mg F' io' ro' σ' ∧ MR X.K X.mg F' io' M' H' ∧ PostS X.K X.mg W F' io' H' (whGo t b n ro' M') D, ⟨n0, F, io, ro, M, Ext.refl, er, mr, p⟩, ?_⟩
      rintro n σ' H' ⟨F', io', ro', M', x', er', m', p'⟩
      cases n with
      | zero => exact p'.elim
      | succ n =>
        rw [whGo] at p'
        refine ⟨F', io', ro', M', er', m', PostG.mono (PostS.of (rel := relB) p' er') fun k H1 ⟨F1, io1, M1, kk, x1, m1, r1, er1, p1⟩ => ?_⟩
        cases r1
        cases k with
        | false => rw [if_neg Bool.false_ne_true]; exact PostS.now p1 er1 m1
        | true =>
          rw [if_pos rfl]
          refine ⟨fun σ' H' => ∃ F' io' ro' M', Ext F io H F' io' H' ∧ ER X.K X.mg F' io' ro' σ' ∧ MR X.K X.mg F' io' M' H' ∧ PostS X.K X.mg W F' io' H' (whGo t b n ro' M') D, fun σ2 H2 q => ⟨n, Nat.lt_succ_self n, q⟩, F1, io1, ro', M1, er1, m1, ?_⟩
          dsimp only at p1
          have x01 := x'.trans x1
          cases e2 : b ro' M1 with
          | nx ro2 M3 => rw [e2] at p1; exact fun F4 io4 σ4 H4 x4 er4 m4 => ⟨F4, io4, ro2, M3, x01.trans x4, er4, m4, PostS.ext p1 x4⟩
          | ct ro2 M3 => rw [e2] at p1; exact fun F4 io4 σ4 H4 x4 er4 m4 => ⟨F4, io4, ro2, M3, x01.trans x4, er4, m4, PostS.ext p1 x4⟩
          | bk ro2 M3 => rw [e2] at p1; exact fun F4 io4 σ4 H4 x4 er4 m4 => p1 F4 io4 σ4 H4 x4 er4 m4
          | rt a M3 => rw [e2] at p1; exact p1
          | er c ro2 M3 => rw [e2] at p1; exact p1
          | stuck => rw [e2] at p1; exact p1.elim
    · unfold sWhile at p
      rw [dif_neg he] at p
      exact p.elim
end

/-! ### iterables -/
section
variable {K : PySem.W.Frag} {mg : Str → Option Value}
def mkI (xs : List A) (src : List (A × List A)) (M : Mem) : R AI := .ok ⟨xs, src⟩ M
/-- a list -/
def iLst (fa : SE) : SI := fun ro M => (fa ro M).bind fun a M1 => match asL M1 a with
  | some xs => .ok ⟨xs, [(a, xs)]⟩ M1
  | none => .stuck
def iTup (fa : SE) : SI := fun ro M => (fa ro M).bind fun a M1 => match a with
  | .tup xs => .ok ⟨xs, []⟩ M1
  | _ => .stuck
def iStr (fa : SE) : SI := fun ro M => (fa ro M).bind fun a M1 => match a with
  | .str x => .ok ⟨x.cps.toList.map fun c => .str ⟨#[c]⟩, []⟩ M1
  | _ => .stuck
def rngA (lo : Int) (n : Nat) : List A := (List.range n).map fun k => .int (lo + (k : Nat))
def iRng1 (fa : SE) : SI := fun ro M => (fa ro M).bind fun a M1 => match a with
  | .int j => if j.natAbs < 2 ^ 62 then .ok ⟨rngA 0 j.toNat, []⟩ M1 else .stuck
  | _ => .stuck
def iRng2 (fa fb : SE) : SI := fun ro M => (fa ro M).bind fun a M1 => (fb ro M1).bind fun b M2 => match a, b with
  | .int i, .int j => if i.natAbs < 2 ^ 62 ∧ j.natAbs < 2 ^ 62 then .ok ⟨rngA i (j - i).toNat, []⟩ M2 else .stuck
  | _, _ => .stuck
def rngC (lo c : Int) (n : Nat) : List A := (List.range n).map fun k => .int (lo + (k : Nat) * c)
/-- range(i, j, -1) -/
def iRngD (fa fb : SE) : SI := fun ro M => (fa ro M).bind fun a M1 => (fb ro M1).bind fun b M2 => match a, b with
  | .int i, .int j => if i.natAbs < 2 ^ 62 ∧ j.natAbs < 2 ^ 62 then .ok ⟨rngC i (-1) (i - j).toNat, []⟩ M2 else .stuck
  | _, _ => .stuck
def iZip (fa fb : SE) : SI := fun ro M => (fa ro M).bind fun a M1 => (fb ro M1).bind fun b M2 => match asL M2 a, asL M2 b with
    | some xs, some ys => .ok ⟨List.zipWith (fun x y => .tup [x, y]) xs ys, [(a, xs), (b, ys)]⟩ M2
    | _, _ => .stuck
def enumA (xs : List A) : List A := (List.range xs.length).zipWith (fun k x => .tup [.int (k : Nat), x]) xs
def iEnum (fa : SE) : SI := fun ro M => (fa ro M).bind fun a M1 => match asL M1 a with
    | some xs => .ok ⟨enumA xs, [(a, xs)]⟩ M1
    | none => .stuck
def iRev (fa : SE) : SI := fun ro M => (fa ro M).bind fun a M1 => match asL M1 a with
    | some xs => .ok ⟨xs.reverse, [(a, xs)]⟩ M1
    | none => .stuck
variable {F : Hp} {io : List Addr} {M : Mem} {H : Hp}
theorem live_one {a : A} {xs : List A} {ys : List A} (h : live M ⟨ys, [(a, xs)]⟩) : asL M a = some xs := h _ (List.mem_singleton.mpr rfl)
/-- a list value is a list at all times, where it is live -/
theorem asL_at (m : MR K mg F io M H) {a : A} {p : Addr} {xs : List A} (r : Rp K mg F io a (.ref p)) (h : asL M a = some xs) : ∃ vs, SqL K H p vs ∧ Rps K mg F io xs vs := by
  obtain ⟨q, vs, e, h2, h3⟩ := asL_ok m r h
  cases e
  exact ⟨vs, h2, h3⟩
theorem jok_list {a : A} {p : Addr} {xs : List A} (r : Rp K mg F io a (.ref p)) : JOk K mg F io ⟨xs, [(a, xs)]⟩ (Itl K p) where
  go := fun F' io' M H i x s pre m lv hx => by
    obtain ⟨vs, h2, h3⟩ := asL_at m (Rp.mono s pre r) (live_one lv)
    obtain ⟨v, hv, rv⟩ := h3.get hx
    refine ⟨⟨vs, v, h2, hv⟩, fun w H' y => ?_⟩
    obtain ⟨rfl, y⟩ := y
    have e := y vs h2
    rw [hv] at e
    cases e
    exact ⟨F', Ext.refl, m, rv⟩
  stop := fun F' io' M H i s pre m lv hx => by
    obtain ⟨vs, h2, h3⟩ := asL_at m (Rp.mono s pre r) (live_one lv)
    exact ⟨vs, h2, by rw [← h3.length]; exact hx⟩
theorem jok_tup {p : Addr} {xs : List A} (r : Rp K mg F io (.tup xs) (.ref p)) : JOk K mg F io ⟨xs, []⟩ (Itt K p) where
  go := fun F' io' M H i x s pre m lv hx => by
    obtain ⟨q, vs, e, h2, h3⟩ := tup_ok m (Rp.mono s pre r)
    cases e
    obtain ⟨v, hv, rv⟩ := h3.get hx
    refine ⟨⟨vs, v, h2, hv⟩, fun w H' y => ?_⟩
    obtain ⟨rfl, y⟩ := y
    have e := y vs h2
    rw [hv] at e
    cases e
    exact ⟨F', Ext.refl, m, rv⟩
  stop := fun F' io' M H i s pre m lv hx => by
    obtain ⟨q, vs, e, h2, h3⟩ := tup_ok m (Rp.mono s pre r)
    cases e
    exact ⟨vs, h2, by rw [← h3.length]; exact hx⟩
theorem jok_rng {lo : Int} {n : Nat} : JOk K mg F io ⟨rngA lo n, []⟩ (Itr lo n) where
  go := fun F' io' M H i x s pre m lv hx => by
    have hi : i < n := by
      have := (List.getElem?_eq_some_iff.mp hx).1
      simpa [rngA] using this
    have e : x = .int (lo + (i : Nat)) := by simpa [rngA, hi] using hx.symm
    subst e
    refine ⟨hi, fun w H' y => ?_⟩
    obtain ⟨rfl, rfl⟩ := y
    exact ⟨F', Ext.refl, m, rfl⟩
  stop := fun F' io' M H i s pre m lv hx => by
    have h : n ≤ i := by simpa [rngA] using hx
    exact h
theorem jok_rngC {lo c : Int} {n : Nat} : JOk K mg F io ⟨rngC lo c n, []⟩ (Itc lo c n) where
  go := fun F' io' M H i x s pre m lv hx => by
    have hi : i < n := by
      have := (List.getElem?_eq_some_iff.mp hx).1
      simpa [rngC] using this
    have e : x = .int (lo + (i : Nat) * c) := by simpa [rngC, hi] using hx.symm
    subst e
    refine ⟨hi, fun w H' y => ?_⟩
    obtain ⟨rfl, rfl⟩ := y
    exact ⟨F', Ext.refl, m, rfl⟩
  stop := fun F' io' M H i s pre m lv hx => by
    have h : n ≤ i := by simpa [rngC] using hx
    exact h
theorem jok_str {z : Str} : JOk K mg F io ⟨z.cps.toList.map fun c => .str ⟨#[c]⟩, []⟩ (Its z) where
  go := fun F' io' M H i x s pre m lv hx => by
    have hi : i < z.cps.size := by
      have := (List.getElem?_eq_some_iff.mp hx).1
      simpa using this
    have e : x = .str ⟨#[z.cps[i]]⟩ := by simpa [hi] using hx.symm
    subst e
    refine ⟨hi, fun w H' y => ?_⟩
    obtain ⟨rfl, c, hc, rfl⟩ := y
    have : z.cps[i] = c := by simpa [hi] using hc
    subst this
    exact ⟨F', Ext.refl, m, rfl⟩
  stop := fun F' io' M H i s pre m lv hx => by
    have h : z.cps.size ≤ i := by simpa using hx
    exact h
theorem tup2_new (m : MR K mg F io M H) {T : Addr} {a b : A} {v w : V} (hT : H T = none) (ra : Rp K mg F io a v) (rb : Rp K mg F io b w) :
    Ext F io H (upd F T (.tup [v, w])) io (upd H T (.tup [v, w])) ∧ MR K mg (upd F T (.tup [v, w])) io M (upd H T (.tup [v, w])) ∧ Rp K mg (upd F T (.tup [v, w])) io (.tup [a, b]) (.ref T) := by
  have s := same_upd (o := HO.tup [v, w]) (F_none m hT)
  exact ⟨Ext.cell m hT, m.cell hT, T, [v, w], rfl, .inl (.inl upd_same), v, [w], rfl, Rp.mono s (fun _ _ z => z) ra, w, [], rfl, Rp.mono s (fun _ _ z => z) rb, rfl⟩
theorem jok_zip {a b : A} {p q : Addr} {xs ys : List A} (r1 : Rp K mg F io a (.ref p)) (r2 : Rp K mg F io b (.ref q)) : JOk K mg F io ⟨List.zipWith (fun x y => .tup [x, y]) xs ys, [(a, xs), (b, ys)]⟩ (Itz K p q) where
  go := fun F' io' M H i x s pre m lv hx => by
    obtain ⟨vs, h2, h3⟩ := asL_at m (Rp.mono s pre r1) (lv (a, xs) (by simp))
    obtain ⟨ws, k2, k3⟩ := asL_at m (Rp.mono s pre r2) (lv (b, ys) (by simp))
    rw [List.getElem?_zipWith] at hx
    cases e1 : xs[i]? with
    | none => simp [e1] at hx
    | some x1 =>
      cases e2 : ys[i]? with
      | none => simp [e1, e2] at hx
      | some y1 =>
        have e : x = .tup [x1, y1] := by simpa [e1, e2] using hx.symm
        subst e
        obtain ⟨v, hv, rv⟩ := h3.get e1
        obtain ⟨w, hw, rw'⟩ := k3.get e2
        refine ⟨⟨vs, ws, v, w, h2, k2, hv, hw⟩, fun u H' y => ?_⟩
        obtain ⟨T, v', w', rfl, hT, rfl, y1, y2⟩ := y
        have z1 := y1 vs h2
        have z2 := y2 ws k2
        rw [hv] at z1
        rw [hw] at z2
        cases z1
        cases z2
        obtain ⟨t1, t2, t3⟩ := tup2_new m hT rv rw'
        exact ⟨_, t1, t2, t3⟩
  stop := fun F' io' M H i s pre m lv hx => by
    obtain ⟨vs, h2, h3⟩ := asL_at m (Rp.mono s pre r1) (lv (a, xs) (by simp))
    obtain ⟨ws, k2, k3⟩ := asL_at m (Rp.mono s pre r2) (lv (b, ys) (by simp))
    refine ⟨vs, ws, h2, k2, ?_⟩
    have e1 : xs.length = vs.length := h3.length
    have e2 : ys.length = ws.length := k3.length
    simp only [List.length_zipWith] at hx
    omega
theorem jok_enum {a : A} {p : Addr} {xs : List A} (r1 : Rp K mg F io a (.ref p)) : JOk K mg F io ⟨enumA xs, [(a, xs)]⟩ (Ite K p) where
  go := fun F' io' M H i x s pre m lv hx => by
    obtain ⟨vs, h2, h3⟩ := asL_at m (Rp.mono s pre r1) (live_one lv)
    unfold enumA at hx
    rw [List.getElem?_zipWith] at hx
    cases e1 : xs[i]? with
    | none => simp [e1] at hx
    | some x1 =>
      have hi := (List.getElem?_eq_some_iff.mp e1).1
      have e0 : xs[i] = x1 := by simpa [hi] using e1
      have e : x = .tup [.int (i : Nat), x1] := by rw [← e0]; simpa [hi] using hx.symm
      subst e
      obtain ⟨v, hv, rv⟩ := h3.get e1
      refine ⟨⟨vs, v, h2, hv⟩, fun u H' y => ?_⟩
      obtain ⟨T, v', rfl, hT, rfl, y1⟩ := y
      have z1 := y1 vs h2
      rw [hv] at z1
      cases z1
      obtain ⟨t1, t2, t3⟩ := tup2_new (a := .int (i : Nat)) (v := .int (i : Nat)) m hT rfl rv
      exact ⟨_, t1, t2, t3⟩
  stop := fun F' io' M H i s pre m lv hx => by
    obtain ⟨vs, h2, h3⟩ := asL_at m (Rp.mono s pre r1) (live_one lv)
    refine ⟨vs, h2, ?_⟩
    rw [← h3.length]
    simpa [enumA] using hx
theorem jok_rev {a : A} {p : Addr} {xs : List A} (r : Rp K mg F io a (.ref p)) : JOk K mg F io ⟨xs.reverse, [(a, xs)]⟩ (Itv K p xs.length) where
  go := fun F' io' M H i x s pre m lv hx => by
    obtain ⟨vs, h2, h3⟩ := asL_at m (Rp.mono s pre r) (live_one lv)
    have hi : i < xs.length := by
      have := (List.getElem?_eq_some_iff.mp hx).1
      simpa using this
    rw [List.getElem?_reverse hi] at hx
    obtain ⟨v, hv, rv⟩ := h3.get hx
    refine ⟨⟨hi, vs, v, h2, hv⟩, fun w H' y => ?_⟩
    obtain ⟨rfl, y⟩ := y
    have e := y vs h2
    rw [hv] at e
    cases e
    exact ⟨F', Ext.refl, m, rv⟩
  stop := fun F' io' M H i s pre m lv hx => by
    have h : xs.length ≤ i := by simpa using hx
    exact h
end
section
variable {X : Cx} {W : WX} {tg e : Expr} {fa : SE} {ga : SA} {pos p : Pos}
theorem di_list (h : PE X e (tE X.K X.mg W fa)) : PI X tg e (tI X.K X.mg W (iLst fa)) := PI.imp (pi_list h) fun σ H Q ⟨F, io, ro, M, er, mr, q⟩ =>
  ⟨F, io, ro, M, er, mr, PostG.mono (PostG.bind (rel := Rp X.K X.mg) q) fun v H1 ⟨F1, io1, M1, a, x1, m1, r1, p1⟩ => by
    cases e1 : asL M1 a with
    | none => rw [e1] at p1; exact p1.elim
    | some xs =>
      rw [e1] at p1
      obtain ⟨p, vs, rfl, h2, h3⟩ := asL_ok m1 r1 e1
      exact ⟨p, rfl, ⟨vs, h2⟩, PostG.now p1 m1 (jok_list r1)⟩⟩
theorem di_tup (h : PE X e (tE X.K X.mg W fa)) : PI X tg e (tI X.K X.mg W (iTup fa)) := PI.imp (pi_tup h) fun σ H Q ⟨F, io, ro, M, er, mr, q⟩ =>
  ⟨F, io, ro, M, er, mr, PostG.mono (PostG.bind (rel := Rp X.K X.mg) q) fun v H1 ⟨F1, io1, M1, a, x1, m1, r1, p1⟩ => by
    cases a with
    | tup xs =>
      obtain ⟨p, vs, rfl, h2, h3⟩ := tup_ok m1 r1
      exact ⟨p, rfl, ⟨vs, h2⟩, PostG.now p1 m1 (jok_tup r1)⟩
    | _ => exact p1.elim⟩
theorem di_str (h : PE X e (tE X.K X.mg W fa)) : PI X tg e (tI X.K X.mg W (iStr fa)) := PI.imp (pi_str h) fun σ H Q ⟨F, io, ro, M, er, mr, q⟩ =>
  ⟨F, io, ro, M, er, mr, PostG.mono (PostG.bind (rel := Rp X.K X.mg) q) fun v H1 ⟨F1, io1, M1, a, x1, m1, r1, p1⟩ => by
    cases a with
    | str x => cases r1; exact ⟨x, rfl, PostG.now p1 m1 jok_str⟩
    | _ => exact p1.elim⟩
/-- one argument, two arguments, in a row -/
theorem ta1 {fa : SE} {α β : Type} {rel : Hp → List Addr → α → β → Prop} {f : A → Mem → R α} {r : V → Hp → (β → Hp → Prop) → Prop} {σ : L2.St} {H : Hp} {Q : β → Hp → Prop}
    (h : tG X.K X.mg rel W (fun ro M => (fa ro M).bind f) σ H Q) (hs : ∀ F io M H x v, MR X.K X.mg F io M H → Rp X.K X.mg F io x v → PostG X.K X.mg rel W F io H σ (f x M) Q → r v H Q) : tA X.K X.mg W (aCons fa aNil) σ H (fun vs H1 => ∃ v, vs = [v] ∧ r v H1 Q) := by
  obtain ⟨F, io, ro, M, er, mr, p⟩ := h
  refine ⟨F, io, ro, M, er, mr, ?_⟩
  have p' := PostG.bind (rel := Rp X.K X.mg) p
  unfold aCons aNil
  cases e : fa ro M with
  | ok a M1 =>
    rw [e] at p'
    intro F1 io1 vs H1 x1 m1 r1
    obtain ⟨v, vr, rfl, q1, q2⟩ := r1
    cases q2
    obtain ⟨F2, io2, M2, y, x2, m2, r2, p2⟩ := p' F1 io1 v H1 x1 m1 q1
    exact ⟨v, rfl, hs F2 io2 M2 H1 y v m2 r2 p2⟩
  | err c M1 => rw [e] at p'; exact p'
  | stuck => rw [e] at p'; exact p'
theorem ta2 {fa fb : SE} {α β : Type} {rel : Hp → List Addr → α → β → Prop} {f : A → A → Mem → R α} {r : V → V → Hp → (β → Hp → Prop) → Prop} {σ : L2.St} {H : Hp} {Q : β → Hp → Prop}
    (h : tG X.K X.mg rel W (fun ro M => (fa ro M).bind fun a M1 => (fb ro M1).bind fun b M2 => f a b M2) σ H Q) (hs : ∀ F io M H x y v w, MR X.K X.mg F io M H → Rp X.K X.mg F io x v → Rp X.K X.mg F io y w → PostG X.K X.mg rel W F io H σ (f x y M) Q → r v w H Q) :
    tCons (tE X.K X.mg W fa) (tCons (tE X.K X.mg W fb) tNil) σ H (fun vs H1 => ∃ v w, vs = [v, w] ∧ r v w H1 Q) := by
  obtain ⟨F, io, ro, M, er, mr, p⟩ := h
  refine ⟨F, io, ro, M, er, mr, PostG.mono (PostG.bind (rel := Rp X.K X.mg) p) fun v H1 ⟨F1, io1, M1, x, x1, m1, r1, p1⟩ => ?_⟩
  refine ⟨F1, io1, ro, M1, er.ext x1, m1, PostG.mono (PostG.bind (rel := Rp X.K X.mg) p1) fun w H2 ⟨F2, io2, M2, y, x2, m2, r2, p2⟩ => ?_⟩
  exact ⟨v, w, rfl, hs F2 io2 M2 H2 x y v w m2 (Rp.mono x2.fr x2.pre r1) r2 p2⟩
theorem ta1' {fa : SE} {α β : Type} {rel : Hp → List Addr → α → β → Prop} {f : A → Mem → R α} {r : V → Hp → (β → Hp → Prop) → Prop} {σ : L2.St} {H : Hp} {Q : β → Hp → Prop}
    (h : tG X.K X.mg rel W (fun ro M => (fa ro M).bind f) σ H Q) (hs : ∀ F io M H x v, MR X.K X.mg F io M H → Rp X.K X.mg F io x v → PostG X.K X.mg rel W F io H σ (f x M) Q → r v H Q) : tCons (tE X.K X.mg W fa) tNil σ H (fun vs H1 => ∃ v, vs = [v] ∧ r v H1 Q) := by
  obtain ⟨F, io, ro, M, er, mr, p⟩ := h
  refine ⟨F, io, ro, M, er, mr, PostG.mono (PostG.bind (rel := Rp X.K X.mg) p) fun v H1 ⟨F1, io1, M1, x, x1, m1, r1, p1⟩ => ?_⟩
  exact ⟨v, rfl, hs F1 io1 M1 H1 x v m1 r1 p1⟩
theorem TE.mono' {fa : SE} {σ : L2.St} {H : Hp} {Q Q' : VK} (h : tE X.K X.mg W fa σ H Q) (i : ∀ v H, Q v H → Q' v H) : tE X.K X.mg W fa σ H Q' := by
  obtain ⟨F, io, ro, M, er, mr, p⟩ := h
  exact ⟨F, io, ro, M, er, mr, PostG.mono p i⟩
theorem di_range1 {a : Expr} (hg : Gl X "range") (hm : X.mg "range" = none) (ha : PE X a (tE X.K X.mg W fa)) (hs : starEach [a] X.env = [(false, eval a X.env)] := by rfl) (hs1 : starEach (a :: []) X.env = (false, eval a X.env) :: starEach [] X.env := by rfl) : PI X tg (.Call (.Name "range" p) [a] [] pos) (tI X.K X.mg W (iRng1 fa)) :=
  PI.imp (pi_range1 hg hm (pa_cons ha pa_nil hs1) hs) fun σ H Q q => by
    have z := ta1' (r := fun v H1 Q => ∃ j : Int, v = .int j ∧ -(2 ^ 62) ≤ j ∧ j < 2 ^ 62 ∧ Q (Itr 0 j.toNat) H1) q fun F io M H x v m r p => by
      cases x with
      | int j =>
        cases r
        dsimp only at p
        split at p
        · rename_i hj; exact ⟨j, rfl, by omega, by omega, PostG.now p m jok_rng⟩
        · exact p.elim
      | _ => exact p.elim
    exact TE.mono' z fun v H ⟨w, e, j, e2, a, b, c⟩ => ⟨j, by rw [e, e2], a, b, c⟩
theorem di_range2 {a b : Expr} {fb : SE} (hg : Gl X "range") (hm : X.mg "range" = none) (ha : PE X a (tE X.K X.mg W fa)) (hb : PE X b (tE X.K X.mg W fb)) (hs : starEach [a, b] X.env = [(false, eval a X.env), (false, eval b X.env)] := by rfl) (hs2 : starEach [b] X.env = [(false, eval b X.env)] := by rfl)
    (hs1 : starEach (a :: [b]) X.env = (false, eval a X.env) :: starEach [b] X.env := by rfl) (hs3 : starEach (b :: []) X.env = (false, eval b X.env) :: starEach [] X.env := by rfl) : PI X tg (.Call (.Name "range" p) [a, b] [] pos) (tI X.K X.mg W (iRng2 fa fb)) :=
  PI.imp (pi_range2 hg hm (pa_cons ha (pa_cons hb pa_nil hs3) hs1) hs hs2) fun σ H Q q => by
    have z := ta2 (r := fun v w H1 Q => ∃ i j : Int, v = .int i ∧ w = .int j ∧ (-(2 ^ 62) ≤ i ∧ i < 2 ^ 62 ∧ -(2 ^ 62) ≤ j ∧ j < 2 ^ 62) ∧ Q (Itr i (j - i).toNat) H1) q fun F io M H x y v w m r r' p => by
      cases x with
      | int i =>
        cases y with
        | int j =>
          cases r
          cases r'
          dsimp only at p
          split at p
          · rename_i hj; exact ⟨i, j, rfl, rfl, by omega, PostG.now p m jok_rng⟩
          · exact p.elim
        | _ => exact p.elim
      | _ => exact p.elim
    exact TE.mono' z fun v H z => TE.mono' z fun w H ⟨v', w', e, i, j, e2, e3, a, c⟩ => ⟨i, j, by cases e; rw [e2, e3], a, c⟩
theorem di_rangeD {a b : Expr} {fb : SE} {p1 p2 : Pos} {j1 : Nat} (hg : Gl X "range") (hm : X.mg "range" = none) (ha : PE X a (tE X.K X.mg W fa)) (hb : PE X b (tE X.K X.mg W fb)) {c : Expr} (hc : PE X c (tE X.K X.mg W (e1 vNeg (eC (.int 1)))))
    (h1 : starEach (a :: [b, c]) X.env = (false, eval a X.env) :: starEach [b, c] X.env := by rfl) (h2 : starEach (b :: [c]) X.env = (false, eval b X.env) :: starEach [c] X.env := by rfl) (h3 : starEach (c :: []) X.env = (false, eval c X.env) :: starEach [] X.env := by rfl)
    (H1 : PI X tg (.Call (.Name "range" p) [a, b, c] [] pos) (L2.iRng3 (tCons (tE X.K X.mg W fa) (tCons (tE X.K X.mg W fb) (tCons (tE X.K X.mg W (e1 vNeg (eC (.int 1)))) tNil))))) : PI X tg (.Call (.Name "range" p) [a, b, c] [] pos) (tI X.K X.mg W (iRngD fa fb)) :=
  PI.imp H1 fun σ H Q q => by
    have z : tE X.K X.mg W fa σ H fun v H1 => tE X.K X.mg W fb σ H1 fun w H2 => tE X.K X.mg W (e1 vNeg (eC (.int 1))) σ H2 fun u H3 => ∃ i j : Int, v = .int i ∧ w = .int j ∧ u = .int (-1) ∧ (-(2 ^ 62) ≤ i ∧ i < 2 ^ 62 ∧ -(2 ^ 62) ≤ j ∧ j < 2 ^ 62) ∧ Q (Itc i (-1) (i - j).toNat) H3 := by
      obtain ⟨F, io, ro, M, er, mr, p⟩ := q
      refine ⟨F, io, ro, M, er, mr, PostG.mono (PostG.bind (rel := Rp X.K X.mg) p) fun v H1 ⟨F1, io1, M1, x, x1, m1, r1, p1⟩ => ?_⟩
      refine ⟨F1, io1, ro, M1, er.ext x1, m1, PostG.mono (PostG.bind (rel := Rp X.K X.mg) p1) fun w H2 ⟨F2, io2, M2, y, x2, m2, r2, p2⟩ => ?_⟩
      refine ⟨F2, io2, ro, M2, (er.ext x1).ext x2, m2, ?_⟩
      show PostG X.K X.mg (Rp X.K X.mg) W F2 io2 H2 σ (.ok (.int (-1)) M2) _
      intro F3 io3 u H3 x3 m3 r3
      cases r3
      have r1' := Rp.mono x2.fr x2.pre r1
      cases x with
      | int i =>
        cases y with
        | int j =>
          cases r1
          cases r2
          dsimp only at p2
          split at p2
          · rename_i hj; exact ⟨i, j, rfl, rfl, rfl, by omega, PostG.now (PostG.ext p2 x3) m3 jok_rngC⟩
          · exact p2.elim
        | _ => exact p2.elim
      | _ => exact p2.elim
    exact TE.mono' z fun v H z => TE.mono' z fun w H z => TE.mono' z fun u H ⟨i, j, e1, e2, e3, hj, q⟩ => ⟨i, j, -1, _, by rw [e1, e2, e3], RgC.neg hj.1 hj.2.1 hj.2.2.1 hj.2.2.2, q⟩
theorem di_zip {a b : Expr} {fb : SE} {tpos : Pos} {elts : List Expr} {kk : Nat} (hg : Gl X "zip") (hm : X.mg "zip" = none) (ha : PE X a (tE X.K X.mg W fa)) (hb : PE X b (tE X.K X.mg W fb)) (hs : starEach [a, b] X.env = (false, eval a X.env) :: starEach [b] X.env := by rfl) (hpl : (backTo pos (starEach [b] X.env)).any (·.1) = false := by rfl)
    (hs3 : starEach (b :: []) X.env = (false, eval b X.env) :: starEach [] X.env := by rfl) : PI X (.Tuple elts kk tpos) (.Call (.Name "zip" p) [a, b] [] pos) (tI X.K X.mg W (iZip fa fb)) :=
  PI.imp (pi_zip hg hm (pa_cons ha (pa_cons hb pa_nil hs3) hs) hs hpl) fun σ H Q q => by
    have z := ta2 (r := fun v w H1 Q => ∃ a b xs ys, v = .ref a ∧ w = .ref b ∧ SqL X.K H1 a xs ∧ SqL X.K H1 b ys ∧ Q (Itz X.K a b) H1) q fun F io M H x y v w m r r' p => by
      cases e1 : asL M x with
      | none => rw [e1] at p; exact p.elim
      | some xs =>
        cases e2 : asL M y with
        | none => rw [e1, e2] at p; exact p.elim
        | some ys =>
          rw [e1, e2] at p
          obtain ⟨p1, vs, rfl, h2, h3⟩ := asL_ok m r e1
          obtain ⟨p2, ws, rfl, k2, k3⟩ := asL_ok m r' e2
          exact ⟨p1, p2, vs, ws, rfl, rfl, h2, k2, PostG.now p m (jok_zip r r')⟩
    exact TE.mono' z fun v H z => TE.mono' z fun w H ⟨v', w', e, a, b, xs, ys, e1, e2, q1, q2, q3⟩ => ⟨a, b, xs, ys, by cases e; rw [e1, e2], q1, q2, q3⟩
theorem di_enum {a : Expr} {tpos : Pos} {elts : List Expr} {kk : Nat} (hg : Gl X "enumerate") (hm : X.mg "enumerate" = none) (ha : PE X a (tE X.K X.mg W fa)) (hs : starEach [a] X.env = [(false, eval a X.env)] := by rfl)
    (hs3 : starEach (a :: []) X.env = (false, eval a X.env) :: starEach [] X.env := by rfl) : PI X (.Tuple elts kk tpos) (.Call (.Name "enumerate" p) [a] [] pos) (tI X.K X.mg W (iEnum fa)) :=
  PI.imp (pi_enum hg hm (pa_cons ha pa_nil hs3) hs) fun σ H Q q => by
    have z := ta1' (r := fun v H1 Q => ∃ a xs, v = .ref a ∧ SqL X.K H1 a xs ∧ Q (Ite X.K a) H1) q fun F io M H x v m r p => by
      cases e1 : asL M x with
      | none => rw [e1] at p; exact p.elim
      | some xs =>
        rw [e1] at p
        obtain ⟨p1, vs, rfl, h2, h3⟩ := asL_ok m r e1
        exact ⟨p1, vs, rfl, h2, PostG.now p m (jok_enum r)⟩
    exact TE.mono' z fun v H ⟨v', e, a, xs, e1, q1, q3⟩ => ⟨a, xs, by cases e; rw [e1], q1, q3⟩
theorem di_rev {a : Expr} (hg : Gl X "reversed") (hm : X.mg "reversed" = none) (ha : PE X a (tE X.K X.mg W fa)) (hs : starEach [a] X.env = [(false, eval a X.env)] := by rfl)
    (hs3 : starEach (a :: []) X.env = (false, eval a X.env) :: starEach [] X.env := by rfl) : PI X tg (.Call (.Name "reversed" p) [a] [] pos) (tI X.K X.mg W (iRev fa)) :=
  PI.imp (pi_reversed hg hm (pa_cons ha pa_nil hs3) hs) fun σ H Q q => by
    have z := ta1' (r := fun v H1 Q => ∃ a xs, v = .ref a ∧ SqL X.K H1 a xs ∧ Q (Itv X.K a xs.length) H1) q fun F io M H x v m r p => by
      cases e1 : asL M x with
      | none => rw [e1] at p; exact p.elim
      | some xs =>
        rw [e1] at p
        obtain ⟨p1, vs, rfl, h2, h3⟩ := asL_ok m r e1
        exact ⟨p1, vs, rfl, h2, PostG.now p m (by rw [← h3.length]; exact jok_rev r)⟩
    exact TE.mono' z fun v H ⟨v', e, a, xs, e1, q1, q3⟩ => ⟨a, xs, by cases e; rw [e1], q1, q3⟩
end

/-! ### comprehensions -/
inductive CT where
  | nm (i : Nat) | tp (is : List Nat)
def setNs : List Nat → List A → Ro → Option Ro
  | [], [], ro => some ro
  | i :: is, a :: as, ro => setNs is as (ro.set i (some a))
  | _, _, _ => none
def CT.bind (c : CT) (a : A) (ro : Ro) : Option Ro := match c with
  | .nm i => some (ro.set i (some a))
  | .tp is => match a with
    | .tup xs => setNs is xs ro
    | _ => none
def wipeA (ro : Ro) : List Nat → Ro
  | [] => ro
  | v :: vs => (wipeA ro vs).set v none
/-- as bind, where nothing may be raised -/
def R.bindN {α β : Type} (r : R α) (f : α → Mem → R β) : R β := match r with
  | .ok a M => f a M
  | _ => .stuck
open Classical in
noncomputable def lcGo (ai : AI) (c : CT) (t : ST) (e : SE) (ro : Ro) : List A → List A → Mem → R (List A)
  | [], acc, M => if live M ai then .ok acc M else .stuck
  | x :: r, acc, M => if live M ai then (match c.bind x ro with
    | some ro1 => (t ro1 M).bindN fun k M1 => match k with
      | true => (e ro1 M1).bindN fun y M2 => if acc.length < sizeLine then lcGo ai c t e ro r (acc ++ [y]) M2 else .stuck
      | false => lcGo ai c t e ro r acc M1
    | none => .stuck) else .stuck
noncomputable def eLc (fz : Bool) (fi : SI) (c : CT) (t : ST) (e : SE) (vs : List Nat) : SE := fun ro M => (fi ro M).bind fun ai M1 => (lcGo ai c t e (wipeA ro vs) ai.xs [] M1).bind fun acc M2 => mkL fz acc M2
section
variable {K : PySem.W.Frag} {mg : Str → Option Value} {F F' : Hp} {io io' : List Addr} {M : Mem} {H H' : Hp}
/-- a cell beside -/
theorem MR.beside (m : MR K mg F io M H) {D : Addr} {o : HO} (hF : F D = none) (hi : D ∉ io) : MR K mg F io M (upd H D o) where
  sub := fun b u e => by
    have : b ≠ D := fun z => by rw [z, hF] at e; cases e
    rw [upd_ne this]
    exact m.sub b u e
  len := m.len
  nd := m.nd
  nn := fun p hp e => by
    have : p ≠ D := fun z => hi (z ▸ hp)
    rw [upd_ne this] at e
    exact m.nn p hp e
  obj := fun n p u h1 h2 => by
    obtain ⟨a, b⟩ := m.obj n p u h1 h2
    have : p ≠ D := fun z => hi (z ▸ mem_io h1)
    exact ⟨a, MoOk.mono (fun _ _ z => z) (fun _ _ z => z) (upd_ne this) b⟩
theorem Ext.beside (x : Ext F io H F' io' H') {D : Addr} {o : HO} (hD : H D = none) : Ext F io H F' io' (upd H' D o) where
  fr := x.fr
  pre := x.pre
  keep := fun p u hp e => by
    have : p ≠ D := fun z => by rw [z, hD] at e; cases e
    rw [upd_ne this]
    exact x.keep p u hp e
  there := fun p e z => by
    by_cases hp : p = D
    · subst hp; rw [upd_same] at z; cases z
    · rw [upd_ne hp] at z; exact x.there p e z
  newI := x.newI
  newF := x.newF
/-- a cell beside comes to the data that never change -/
theorem MR.adopt (m : MR K mg F io M H) {D : Addr} {o : HO} (hH : H D = some o) (hF : F D = none) (hi : D ∉ io) : MR K mg (upd F D o) io M H where
  sub := fun b u e => by
    by_cases hb : b = D
    · subst hb; rw [upd_same] at e; rw [hH]; exact e
    · rw [upd_ne hb] at e; exact m.sub b u e
  len := m.len
  nd := m.nd
  nn := m.nn
  obj := fun n p u h1 h2 => by
    obtain ⟨a, b⟩ := m.obj n p u h1 h2
    have : p ≠ D := fun z => hi (z ▸ mem_io h1)
    exact ⟨a.imp id fun z => by rw [upd_ne this]; exact z, MoOk.mono (same_upd hF) (fun _ _ z => z) rfl b⟩
theorem Ext.adopt (x : Ext F io H F' io' H') {D : Addr} {o : HO} (hD : H D = none) (hF : F' D = none) : Ext F io H (upd F' D o) io' H' where
  fr := x.fr.trans (same_upd hF)
  pre := x.pre
  keep := x.keep
  there := x.there
  newI := x.newI
  newF := fun p u e => by
    by_cases hp : p = D
    · subst hp; exact .inr (.inr hD)
    · rw [upd_ne hp] at e; exact x.newF p u e
/-- .. or to the memory -/
theorem MR.take_in (m : MR K mg F io M H) {D : Addr} {mo : MO} (hH : H D ≠ none) (hF : F D = none) (hi : D ∉ io) (ok : MoOk K mg F (io ++ [D]) H D mo) : MR K mg F (io ++ [D]) (M ++ [mo]) H where
  sub := m.sub
  len := by simp [m.len]
  nd := by
    rw [List.nodup_append]
    refine ⟨m.nd, by simp, fun a ha b hb e => ?_⟩
    have : b = D := by simpa using hb
    subst this
    subst e
    exact hi ha
  nn := fun p hp => by
    rcases List.mem_append.mp hp with z | z
    · exact m.nn p z
    · have : p = D := by simpa using z
      subst this
      exact hH
  obj := fun n q u h1 h2 => by
    by_cases hn : n < io.length
    · rw [List.getElem?_append_left hn] at h1
      rw [List.getElem?_append_left (by rw [← m.len]; exact hn)] at h2
      obtain ⟨a, b⟩ := m.obj n q u h1 h2
      refine ⟨a, MoOk.mono (fun _ _ z => z) (fun k r z => ?_) rfl b⟩
      rw [List.getElem?_append_left (List.getElem?_eq_some_iff.mp z).1]
      exact z
    · have hlen : n < (io ++ [D]).length := (List.getElem?_eq_some_iff.mp h1).1
      have e : n = io.length := by simp at hlen; omega
      subst e
      have e1 : D = q := by simpa using h1
      have e2 : mo = u := by rw [m.len] at h2; simpa using h2
      subst e1 e2
      exact ⟨.inr hF, ok⟩
theorem Ext.take_in (x : Ext F io H F' io' H') {D : Addr} (hD : H D = none) : Ext F io H F' (io' ++ [D]) H' where
  fr := x.fr
  pre := fun n q z => by
    have := x.pre n q z
    rw [List.getElem?_append_left (List.getElem?_eq_some_iff.mp this).1]
    exact this
  keep := x.keep
  there := x.there
  newI := fun p hp => by
    rcases List.mem_append.mp hp with z | z
    · exact x.newI p z
    · have : p = D := by simpa using z
      subst this
      exact .inr hD
  newF := x.newF
theorem wipeA_er {ro : Ro} {σ : L2.St} (er : ER K mg F io ro σ) : ∀ vs : List Nat, ER K mg F io (wipeA ro vs) (wipe σ vs)
  | [] => er
  | v :: vs => by
    have ih := wipeA_er er vs
    refine ⟨by simp [wipeA, wipe, ih.1], fun i a h => ?_⟩
    unfold wipeA at h
    by_cases hi : i = v
    · subst hi
      by_cases hl : i < (wipeA ro vs).length
      · rw [List.getElem?_set_self hl] at h; cases h
      · rw [List.getElem?_eq_none (by simpa using hl)] at h; cases h
    · rw [List.getElem?_set_ne (Ne.symm hi)] at h
      obtain ⟨w, q1, q2⟩ := ih.2 i a h
      exact ⟨w, by unfold wipe; rw [List.getElem?_set_ne (Ne.symm hi)]; exact q1, q2⟩
/-- the wiped names' values do not matter -/
theorem wipe_get (σ : L2.St) (i : Nat) : ∀ vs : List Nat, i ∈ vs → i < σ.length → (wipe σ vs)[i]? = some none
  | v :: vs, hi, hl => by
    unfold wipe
    by_cases e : i = v
    · subst e
      rw [List.getElem?_set_self (by rw [wipe_length]; exact hl)]
    · rw [List.getElem?_set_ne (Ne.symm e)]
      exact wipe_get σ i vs ((List.mem_cons.mp hi).resolve_left e) hl
theorem wipe_ext {σ σ' : L2.St} {vs : List Nat} (hl : σ'.length = σ.length) (h : ∀ i, i ∉ vs → σ'[i]? = σ[i]?) : wipe σ' vs = wipe σ vs := by
  apply List.ext_getElem?
  intro i
  by_cases hi : i ∈ vs
  · by_cases hlt : i < σ.length
    · rw [wipe_get σ i vs hi hlt, wipe_get σ' i vs hi (by omega)]
    · rw [List.getElem?_eq_none (by rw [wipe_length]; omega), List.getElem?_eq_none (by rw [wipe_length]; omega)]
  · rw [wipe_out hi, wipe_out hi, h i hi]
theorem wipe_wipe (σ : L2.St) (vs : List Nat) : wipe (wipe σ vs) vs = wipe σ vs := wipe_ext (wipe_length _ _) fun i hi => by rw [wipe_out hi]
end
end AL

/-! AL6: the rule of comprehensions. -/
namespace AL
open PySem PySem.Spec L2
def gNames : List Nat → TGs
  | [] => gNil
  | i :: r => gCons (gName i) (gNames r)
def CT.tg (K : PySem.W.Frag) : CT → TG
  | .nm i => gName i
  | .tp is => gTup K is.length (gNames is)
def CT.ns : CT → List Nat
  | .nm i => [i]
  | .tp is => is
section
variable {K : PySem.W.Frag} {mg : Str → Option Value} {F : Hp} {io : List Addr} {M : Mem} {H : Hp}
theorem setNs_ok : ∀ (is : List Nat) (as : List A) {ws : List V} {ro ro1 : Ro} {σ : L2.St} {Q : L2.St → Hp → Prop}, Rps K mg F io as ws → setNs is as ro = some ro1 → ER K mg F io ro σ →
    (∀ σ', ER K mg F io ro1 σ' → σ'.length = σ.length → (∀ i, i ∉ is → σ'[i]? = σ[i]?) → Q σ' H) → gNames is ws σ H Q
  | [], [], _, ro, ro1, σ, Q, r, h, er, q => by
    cases r
    cases h
    exact ⟨rfl, q σ er rfl fun _ _ => rfl⟩
  | i :: is, a :: as, _, ro, ro1, σ, Q, ⟨v, vr, e, r1, r2⟩, h, er, q => by
    subst e
    refine ⟨v, vr, rfl, ?_⟩
    refine setNs_ok is as r2 h (er.set r1 i) fun σ' er' hl ho => q σ' er' (by rw [hl]; simp) fun j hj => ?_
    rw [ho j fun z => hj (List.mem_cons_of_mem _ z), List.getElem?_set_ne (fun z => hj (by rw [z]; exact List.mem_cons_self))]
  | [], _ :: _, _, _, _, _, _, _, h, _, _ => nomatch h
  | _ :: _, [], _, _, _, _, _, _, h, _, _ => nomatch h
theorem CT.bind_ok (m : MR K mg F io M H) {c : CT} {a : A} {v : V} {ro ro1 : Ro} {σ : L2.St} {Q : L2.St → Hp → Prop} (r : Rp K mg F io a v) (h : c.bind a ro = some ro1) (er : ER K mg F io ro σ)
    (q : ∀ σ', ER K mg F io ro1 σ' → σ'.length = σ.length → (∀ i, i ∉ c.ns → σ'[i]? = σ[i]?) → Q σ' H) : c.tg K v σ H Q := by
  cases c with
  | nm i =>
    cases h
    exact q _ (er.set r i) (by simp) fun j hj => by rw [List.getElem?_set_ne (fun z => hj (by rw [z]; exact List.mem_singleton.mpr rfl))]
  | tp is =>
    cases a with
    | tup xs =>
      obtain ⟨p, vs, rfl, h2, h3⟩ := tup_ok m r
      have hl : vs.length = is.length := by
        rw [← h3.length]
        have : ∀ (is : List Nat) (xs : List A) (ro : Ro), setNs is xs ro = some ro1 → xs.length = is.length := by
          intro is
          induction is with
          | nil => intro xs ro h; cases xs with
            | nil => rfl
            | cons _ _ => cases h
          | cons i is ih => intro xs ro h; cases xs with
            | nil => cases h
            | cons x xs => simp [ih xs _ h]
        exact this is xs ro h
      exact ⟨p, vs, rfl, h2, hl, setNs_ok is xs h3 h er q⟩
    | _ => cases h
end
section
variable {X : Cx} {W : WX}
theorem dts_nil {X : Cx} {W : WX} : PTs X [] (tT X.K X.mg W (fun _ M => .ok true M)) := ⟨fun pins s σ H Q I h => pts_nil.run pins s σ H Q I (by
  obtain ⟨F, io, ro, M, er, mr, p⟩ := h
  exact PostG.now p mr rfl)⟩
theorem dts_one {X : Cx} {W : WX} {c : Expr} {t : ST} (h : PT X c (tT X.K X.mg W t)) : PTs X [c] (tT X.K X.mg W t) := pts_one h
abbrev W0 : WX := fun _ _ _ _ => False
theorem lc_read {fz : Bool} {fi : SI} {c : CT} {t : ST} {e : SE} {vs : List Nat} {σ : L2.St} {H : Hp} {Q : VK} (hv : ∀ i, i ∈ c.ns → i ∈ vs) (h : tE X.K X.mg W (eLc fz fi c t e vs) σ H Q) :
    tLc (tI X.K X.mg W fi) (c.tg X.K) (tT X.K X.mg W0 t) (tE X.K X.mg W0 e) vs σ H Q := by
  obtain ⟨F, io, ro, M, er, mr, p⟩ := h
  refine ⟨F, io, ro, M, er, mr, PostG.mono (PostG.bind (rel := JOk X.K X.mg) p) fun J H1 ⟨F1, io1, M1, ai, x1, m1, j1, p1⟩ => ?_⟩
  have er1 := er.ext x1
  intro D hD
  -- the whole outcome
  generalize ht : lcGo ai c t e (wipeA ro vs) ai.xs [] M1 = tot at p1
  have F1D := F_none m1 hD
  have io1D := io_not m1 hD
  refine ⟨fun i m H' => m = ai.xs.length - i ∧ i ≤ ai.xs.length ∧ ∃ F' io' M' acc accv, Ext F1 io1 H1 F' io' H' ∧ MR X.K X.mg F' io' M' H' ∧ H' D = some (.lst accv) ∧ F' D = none ∧ D ∉ io' ∧ Rps X.K X.mg F' io' acc accv ∧
    lcGo ai c t e (wipeA ro vs) (ai.xs.drop i) acc M' = tot, ⟨_, rfl, Nat.zero_le _, F1, io1, M1, [], [], Ext.beside Ext.refl hD, m1.beside F1D io1D, upd_same, F1D, io1D, rfl, ht⟩, ?_⟩
  rintro i m H' ⟨rfl, hi, F', io', M', acc, accv, x', m', hD', FD, ioD, ra, htot⟩
  by_cases hl : i < ai.xs.length
  · have hx : ai.xs[i]? = some ai.xs[i] := by simp [hl]
    rw [List.drop_eq_getElem_cons hl] at htot
    unfold lcGo at htot
    split at htot
    · rename_i lv
      obtain ⟨go, yl⟩ := j1.go F' io' M' H' i _ x'.fr x'.pre m' lv hx
      cases e1 : c.bind ai.xs[i] (wipeA ro vs) with
      | none => rw [e1] at htot; subst htot; exact p1.elim
      | some ro1 =>
        rw [e1] at htot
        dsimp only at htot
        refine .inr ⟨go, fun H2 => (ai.xs.length - (i + 1)) = ai.xs.length - (i + 1) ∧ i + 1 ≤ ai.xs.length ∧ ∃ F' io' M' acc accv, Ext F1 io1 H1 F' io' H2 ∧ MR X.K X.mg F' io' M' H2 ∧ H2 D = some (.lst accv) ∧ F' D = none ∧ D ∉ io' ∧ Rps X.K X.mg F' io' acc accv ∧
          lcGo ai c t e (wipeA ro vs) (ai.xs.drop (i + 1)) acc M' = tot, fun H2 q => ⟨_, by omega, q⟩, fun v H2 y => ?_⟩
        obtain ⟨F2, x2, m2, r2⟩ := yl v H2 y
        -- D stays through a step
        have stay : ∀ {F3 io3 H3}, Ext F' io' H' F3 io3 H3 → H3 D = some (.lst accv) ∧ F3 D = none ∧ D ∉ io3 := fun {F3 io3 H3} x => by
          refine ⟨x.keep D _ ioD hD', ?_, fun z => ?_⟩
          · cases q : F3 D with
            | none => rfl
            | some o =>
              rcases x.newF D o q with z | z | z
              · rw [FD] at z; cases z
              · exact absurd z ioD
              · rw [hD'] at z; cases z
          · rcases x.newI D z with z | z
            · exact ioD z
            · rw [hD'] at z; cases z
        have er2 : ER X.K X.mg F2 io' (wipeA ro vs) (wipe σ vs) := wipeA_er ((er1.ext x').ext x2) vs
        refine CT.bind_ok m2 r2 e1 er2 fun σ3 er3 hl3 ho3 => ⟨?_, ?_⟩
        · rw [wipe_ext hl3 fun i hi => ho3 i fun z => hi (hv i z), wipe_wipe]
        · refine ⟨F2, io', ro1, M', er3, m2, ?_⟩
          cases e2 : t ro1 M' with
          | err cc M2 => rw [e2] at htot; subst htot; exact p1.elim
          | stuck => rw [e2] at htot; subst htot; exact p1.elim
          | ok k M2 =>
            rw [e2] at htot
            intro F3 io3 b H3 x3 m3 rb
            cases rb
            cases k with
            | false =>
              rw [if_neg Bool.false_ne_true]
              obtain ⟨a1, a2, a3⟩ := stay (x2.trans x3)
              exact ⟨rfl, hl, F3, io3, M2, acc, accv, x'.trans (x2.trans x3), m3, a1, a2, a3, Rps.mono (x2.trans x3).fr (x2.trans x3).pre ra, htot⟩
            | true =>
              rw [if_pos rfl]
              dsimp only [R.bindN] at htot
              refine ⟨F3, io3, ro1, M2, er3.ext x3, m3, ?_⟩
              cases e3 : e ro1 M2 with
              | err cc M3 => rw [e3] at htot; subst htot; exact p1.elim
              | stuck => rw [e3] at htot; subst htot; exact p1.elim
              | ok yv M3 =>
                rw [e3] at htot
                intro F4 io4 w H4 x4 m4 r4
                dsimp only [R.bindN] at htot
                split at htot
                · rename_i hz
                  have x24 := x2.trans (x3.trans x4)
                  obtain ⟨a1, a2, a3⟩ := stay x24
                  have ra4 := Rps.mono x24.fr x24.pre ra
                  refine ⟨accv, a1, by rw [← ra4.length]; exact hz, rfl, hl, F4, io4, M3, acc ++ [yv], accv ++ [w], Ext.beside (x'.trans x24) hD, m4.beside a2 a3, upd_same, a2, a3, ra4.append (Rps.one r4), htot⟩
                · subst htot; exact p1.elim
    · subst htot; exact p1.elim
  · have hie : i = ai.xs.length := by omega
    subst hie
    rw [List.drop_length] at htot
    unfold lcGo at htot
    split at htot
    · rename_i lv
      refine .inl ⟨j1.stop F' io' M' H' _ x'.fr x'.pre m' lv (Nat.le_refl _), ?_⟩
      subst htot
      have p2 : PostG X.K X.mg (Rp X.K X.mg) W F1 io1 H1 σ (mkL fz acc M') Q := p1
      unfold mkL at p2
      split at p2
      · cases fz with
        | true => exact PostG.lit p2 (Ext.adopt x' hD FD) (m'.adopt hD' FD ioD) ⟨D, accv, rfl, upd_same, Rps.mono (same_upd FD) (fun _ _ z => z) ra⟩
        | false =>
          have pre2 : ∀ (n : Nat) (p : Addr), io'[n]? = some p → (io' ++ [D])[n]? = some p := fun n p z => by rw [List.getElem?_append_left (List.getElem?_eq_some_iff.mp z).1]; exact z
          exact PostG.lit p2 (Ext.take_in x' hD) (m'.take_in (by rw [hD']; exact fun z => nomatch z) FD ioD ⟨accv, hD', Rps.mono (fun _ _ z => z) pre2 ra⟩) ⟨D, rfl, by rw [← m'.len]; simp⟩
      · exact p2.elim
    · subst htot; exact p1.elim
theorem de_lc (fz : Bool) {c : CT} {elt tg iter : Expr} {ifs : List Expr} {scope : Scope} {own : List (Str × Nat)} {pos : Pos} {fi : SI} {t : ST} {e : SE} (hc : X.calm = true) (hN : X.N.Nodup) (hi : PI X tg iter (tI X.K X.mg W fi)) (ok : BlkOk X.N X.env.scope scope own) (hv : ∀ i, i ∈ c.ns → i ∈ own.map (·.2))
    (hg : ∀ (s : Shared) (H : Hp) (C : Addr) (cl : List (Str × Addr)) (fp : List Addr), PG (X.blk s H scope (compEnvC scope cl C X.env) fp) tg (c.tg X.K)) (ht : ∀ (s : Shared) (H : Hp) (C : Addr) (cl : List (Str × Addr)) (fp : List Addr), PTs (X.blk s H scope (compEnvC scope cl C X.env) fp) ifs (tT X.K X.mg W0 t))
    (he : ∀ (s : Shared) (H : Hp) (C : Addr) (cl : List (Str × Addr)) (fp : List Addr), PE (X.blk s H scope (compEnvC scope cl C X.env) fp) elt (tE X.K X.mg W0 e)) (hs : ∀ x, foldedSetIterable iter X.env x = pure x := by intro _; rfl) :
    PE X (.ListComp elt [⟨tg, iter, ifs, 0⟩] scope pos) (tE X.K X.mg W (eLc fz fi c t e (own.map (·.2)))) := PE.imp (pe_lc hc hN hi ok hg ht he hs) fun _ _ _ h => lc_read hv h
/-- name = [..] on one line -/
theorem ds_setLc (fz : Bool) {i : Nat} {y : Str} {py : Pos} {c : CT} {elt tg iter : Expr} {ifs : List Expr} {scope : Scope} {own : List (Str × Nat)} {pos spos : Pos} {fi : SI} {t : ST} {e : SE} (hc : X.calm = true) (hN : X.N.Nodup) (hy : X.N[i]? = some y) (hyl : X.env.scope.names.lookup y = some .local)
    (hsw : swapsWith (.ListComp elt [⟨tg, iter, ifs, 0⟩] scope pos) (some (.Name y py)) spos.line X.env = pure true) (hi : PI X tg iter (tI X.K X.mg W fi)) (ok : BlkOk X.N X.env.scope scope own) (hv : ∀ i, i ∈ c.ns → i ∈ own.map (·.2))
    (hg : ∀ (s : Shared) (H : Hp) (C : Addr) (cl : List (Str × Addr)) (fp : List Addr), PG (X.blk s H scope (compEnvC scope cl C X.env) fp) tg (c.tg X.K)) (ht : ∀ (s : Shared) (H : Hp) (C : Addr) (cl : List (Str × Addr)) (fp : List Addr), PTs (X.blk s H scope (compEnvC scope cl C X.env) fp) ifs (tT X.K X.mg W0 t))
    (he : ∀ (s : Shared) (H : Hp) (C : Addr) (cl : List (Str × Addr)) (fp : List Addr), PE (X.blk s H scope (compEnvC scope cl C X.env) fp) elt (tE X.K X.mg W0 e)) (hs : ∀ x, foldedSetIterable iter X.env x = pure x := by intro _; rfl) :
    PS X (.Assign [.Name y py] (.ListComp elt [⟨tg, iter, ifs, 0⟩] scope pos) spos) (tS X.K X.mg W (sSet i (eLc fz fi c t e (own.map (·.2))))) :=
  PS.imp (ps_setLc hc hN hy hyl hsw hi ok hg ht he hs) fun D σ H ⟨F, io, ro, M, er, mr, p⟩ => lc_read hv ⟨F, io, ro, M, er, mr, PostG.mono (PostS.of (rel := Rp X.K X.mg) p er) fun v H1 ⟨F1, io1, M1, x, x1, m1, r1, er1, p1⟩ => PostS.now p1 (er1.set r1 i) m1⟩
theorem dgc_name {i : Nat} {x : Str} {pos : Pos} (hN : X.N.Nodup) (hi : X.N[i]? = some x) (hx : Loc X.env.scope x) (hf : X.fn x = true ∨ X.env.scope.names.lookup x = some .local := by first | exact .inl rfl | exact .inr rfl | assumption) : PG X (.Name x pos) ((CT.nm i).tg X.K) := pg_name hN hi hx hf
theorem dgc_nil : PGs X [] (gNames []) := pgs_nil
theorem dgc_cons {e : Expr} {es : List Expr} {i : Nat} {is : List Nat} (h1 : PG X e (gName i)) (h2 : PGs X es (gNames is)) (hs : (assignEach (e :: es) X.env).map (·.2) = assign e X.env :: (assignEach es X.env).map (·.2) := by rfl) : PGs X (e :: es) (gNames (i :: is)) := pgs_cons h1 h2 hs
theorem dgc_tup {es : List Expr} {k : Nat} {is : List Nat} {pos : Pos} (hc : X.calm = true) (h : PGs X es (gNames is)) (hn : (assignEach es X.env).length = is.length := by rfl) (hst : (assignEach es X.env).findIdx? (·.1) = none := by rfl) : PG X (.Tuple es k pos) ((CT.tp is).tg X.K) := pg_tup hc h hn hst
end
end AL

/-! AL7: defs: their end, their promise, their calls. -/
namespace AL
open PySem PySem.Spec L2

/-! ### bounds of the objects that a value names -/
mutual
def bnd (k : Nat) : A → Bool
  | .lst xs => bnds k xs
  | .tup xs => bnds k xs
  | .frz xs => bnds k xs
  | .loc n => decide (n < k)
  | _ => true
def bnds (k : Nat) : List A → Bool
  | [] => true
  | a :: r => bnd k a && bnds k r
end
def bndM (k : Nat) : MO → Prop
  | .lst xs => bnds k xs = true
  | .ins _ fs => ∀ f, f < 7 → ∀ a, fs.lookup f = some a → bnd k a = true
  | .dic kvs => (kvs.all fun p => bnd k p.2) = true
  | .gone => True
theorem bndM_ins {k c : Nat} {fs : List (Nat × A)} (h : (fs.all fun p => bnd k p.2) = true) : bndM k (.ins c fs) := fun f _ a e => by
  obtain ⟨l1, l2, e2⟩ := List.lookup_eq_some_iff.mp e
  exact List.all_eq_true.mp h (f, a) (by rw [e2.1]; simp)
section
variable {K : PySem.W.Frag} {mg : Str → Option Value} {F F' : Hp} {io io' : List Addr} {H H' : Hp} {M M' : Mem}
mutual
theorem Rp.bnd : ∀ {a : A} {v : V}, Rp K mg F io a v → bnd io.length a = true
  | .non, _, _ => rfl
  | .bl _, _, _ => rfl
  | .int _, _, _ => rfl
  | .str _, _, _ => rfl
  | .exc _, _, _ => rfl
  | .fn _, _, _ => rfl
  | .lst _, _, ⟨_, _, _, _, h⟩ => Rps.bnd h
  | .tup _, _, ⟨_, _, _, _, h⟩ => Rps.bnd h
  | .frz _, _, ⟨_, _, _, _, h⟩ => Rps.bnd h
  | .loc _, _, ⟨_, _, h⟩ => decide_eq_true (List.getElem?_eq_some_iff.mp h).1
theorem Rps.bnd : ∀ {as : List A} {vs : List V}, Rps K mg F io as vs → bnds io.length as = true
  | [], _, _ => rfl
  | _ :: _, _, ⟨_, _, _, h1, h2⟩ => by
    unfold bnds
    rw [Rp.bnd h1, Rps.bnd h2]
    rfl
end
mutual
theorem Rp.shrink (h : ∀ (n : Nat) (p : Addr), n < io.length → io'[n]? = some p → io[n]? = some p) : ∀ {a : A} {v : V}, Rp K mg F io' a v → AL.bnd io.length a = true → Rp K mg F io a v
  | .non, _, r, _ => r
  | .bl _, _, r, _ => r
  | .int _, _, r, _ => r
  | .str _, _, r, _ => r
  | .exc _, _, r, _ => r
  | .fn _, _, r, _ => r
  | .lst _, _, ⟨p, vs, h1, h2, h3⟩, b => ⟨p, vs, h1, h2, Rps.shrink h h3 b⟩
  | .tup _, _, ⟨p, vs, h1, h2, h3⟩, b => ⟨p, vs, h1, h2, Rps.shrink h h3 b⟩
  | .frz _, _, ⟨p, vs, h1, h2, h3⟩, b => ⟨p, vs, h1, h2, Rps.shrink h h3 b⟩
  | .loc n, _, ⟨p, h1, h2⟩, b => ⟨p, h1, h n p (of_decide_eq_true b) h2⟩
theorem Rps.shrink (h : ∀ (n : Nat) (p : Addr), n < io.length → io'[n]? = some p → io[n]? = some p) : ∀ {as : List A} {vs : List V}, Rps K mg F io' as vs → bnds io.length as = true → Rps K mg F io as vs
  | [], _, r, _ => r
  | _ :: _, _, ⟨v, vr, e, h1, h2⟩, b => by
    unfold bnds at b
    obtain ⟨b1, b2⟩ := Bool.and_eq_true_iff.mp b
    exact ⟨v, vr, e, Rp.shrink h h1 b1, Rps.shrink h h2 b2⟩
end
theorem FldOk.bnd {fs : List (Nat × A)} {gs : List (Str × V)} (h : FldOk K mg F io fs gs) : ∀ f, f < 7 → ∀ a, fs.lookup f = some a → AL.bnd io.length a = true := fun f hf a e => by
  have q := h.1 f hf
  rw [e] at q
  obtain ⟨v, _, r⟩ := q
  exact r.bnd
theorem MoOk.shrink (h : ∀ (n : Nat) (p : Addr), n < io.length → io'[n]? = some p → io[n]? = some p) {p : Addr} : ∀ {o : MO}, MoOk K mg F io' H p o → bndM io.length o → MoOk K mg F io H p o
  | .lst _, ⟨vs, h1, h2⟩, b => ⟨vs, h1, Rps.shrink h h2 b⟩
  | .ins _ fs, ⟨C, dx, gs, h1, h2, h3⟩, b => ⟨C, dx, gs, h1, h2, ⟨fun f hf => by
      have q := h3.1 f hf
      split at q
      · rename_i a e
        obtain ⟨v, q1, q2⟩ := q
        exact ⟨v, q1, Rp.shrink h q2 (b f hf a e)⟩
      · exact q, h3.2⟩⟩
  | .dic kvs, ⟨gs, h1, h2⟩, b => ⟨gs, h1, by
      unfold bndM at b
      have : ∀ (kvs : List (Str × A)) (gs : List (Key × V)), DicOk K mg F io' kvs gs → (kvs.all fun p => AL.bnd io.length p.2) = true → DicOk K mg F io kvs gs := by
        intro kvs
        induction kvs with
        | nil => intro gs h _; exact h
        | cons kv r ih =>
          intro gs h2 b
          obtain ⟨k, a⟩ := kv
          obtain ⟨v, gr, e, r1, r2⟩ := h2
          simp only [List.all_cons, Bool.and_eq_true] at b
          exact ⟨v, gr, e, Rp.shrink h r1 b.1, ih gr r2 b.2⟩
      exact this kvs gs h2 b⟩
  | .gone, _, _ => trivial
theorem MoOk.bnd {p : Addr} : ∀ {o : MO}, MoOk K mg F io H p o → bndM io.length o
  | .lst _, ⟨vs, h1, h2⟩ => h2.bnd
  | .ins _ fs, ⟨C, dx, gs, h1, h2, h3⟩ => h3.bnd
  | .dic kvs, ⟨gs, h1, h2⟩ => by
      have : ∀ (kvs : List (Str × A)) (gs : List (Key × V)), DicOk K mg F io kvs gs → (kvs.all fun p => AL.bnd io.length p.2) = true := by
        intro kvs
        induction kvs with
        | nil => intro gs h; rfl
        | cons kv r ih =>
          intro gs h2
          obtain ⟨k, a⟩ := kv
          obtain ⟨v, gr, e, r1, r2⟩ := h2
          simp [r1.bnd, ih gr r2]
      exact this kvs gs h2
  | .gone, _ => trivial
theorem Ext.back (x : Ext F io H F' io' H') : ∀ (n : Nat) (p : Addr), n < io.length → io'[n]? = some p → io[n]? = some p := fun n p hn e => by
  have h1 : io[n]? = some io[n] := by simp [hn]
  have h2 := x.pre _ _ h1
  rw [e] at h2
  cases h2
  exact h1
theorem Ext.len (x : Ext F io H F' io' H') : io.length ≤ io'.length := by
  by_cases h0 : io.length = 0
  · omega
  · have : io[io.length - 1]? = some (io[io.length - 1]'(by omega)) := by simp
    have q := (List.getElem?_eq_some_iff.mp (x.pre _ _ this)).1
    omega
/-- the memory cut to what was there before: where it names nothing new -/
theorem MR.cut (m0 : MR K mg F io M H) (x : Ext F io H F' io' H') (m : MR K mg F' io' M' H') (hk : ∀ i, i < M.length → M'[i]? = M[i]? ∨ ∃ o, M'[i]? = some o ∧ bndM M.length o) : MR K mg F' io (M'.take M.length) H' := by
  have hle := x.len
  have back := x.back
  refine ⟨m.sub, ?_, m0.nd, fun p hp => x.there p (m0.nn p hp), fun n p o h1 h2 => ?_⟩
  · rw [List.length_take, m0.len, ← m.len]
    rw [← m0.len]
    omega
  · have hn : n < M.length := by rw [← m0.len]; exact (List.getElem?_eq_some_iff.mp h1).1
    rw [List.getElem?_take_of_lt hn] at h2
    obtain ⟨a, b⟩ := m.obj n p o (x.pre _ _ h1) h2
    refine ⟨a, MoOk.shrink back b ?_⟩
    rcases hk n hn with e | ⟨o', e, hb⟩
    · rw [e] at h2
      exact (m0.obj n p o h1 h2).2.bnd
    · rw [e] at h2
      cases h2
      rw [m0.len]
      exact hb
/-- the memory as it was, and one object more -/
theorem MR.cut1 (m0 : MR K mg F io M H) (x : Ext F io H F' io' H') (m : MR K mg F' io' M' H') (hk : ∀ i, i < M.length → M'[i]? = M[i]? ∨ ∃ o, M'[i]? = some o ∧ bndM M.length o) {n : Nat} {p : Addr} {o : MO} (hp : io'[n]? = some p) (hn : M.length ≤ n) (ho : M'[n]? = some o) (hb : bndM M.length o) (hg : o ≠ .gone) :
    MR K mg F' (io ++ [p]) (M'.take M.length ++ [o]) H' := by
  have c := m0.cut x m hk
  obtain ⟨a, b⟩ := m.obj n p o hp ho
  have hpi : p ∉ io := fun z => by
    obtain ⟨k, hk, e⟩ := List.getElem_of_mem z
    have e1 : io[k]? = some p := by rw [List.getElem?_eq_getElem hk, e]
    have e2 := io_inj m.nd (x.pre _ _ e1) hp
    have : io.length = M.length := m0.len
    omega
  have fin : MoOk K mg F' io H' p o := MoOk.shrink x.back b (by rw [m0.len]; exact hb)
  refine c.take_in (m.nn p (mem_io hp)) (a.resolve_left hg) hpi (MoOk.mono (fun _ _ z => z) (fun k r z => ?_) rfl fin)
  rw [List.getElem?_append_left (List.getElem?_eq_some_iff.mp z).1]
  exact z
theorem Ext.cut (x : Ext F io H F' io' H') : Ext F io H F' io H' := ⟨x.fr, fun _ _ z => z, x.keep, x.there, fun _ z => .inl z, x.newF⟩
theorem Ext.cut1 (x : Ext F io H F' io' H') {n : Nat} {p : Addr} (hp : io'[n]? = some p) : Ext F io H F' (io ++ [p]) H' := ⟨x.fr, fun k q z => by rw [List.getElem?_append_left (List.getElem?_eq_some_iff.mp z).1]; exact z, x.keep, x.there, fun q z => by
  rcases List.mem_append.mp z with z | z
  · exact .inl z
  · have : q = p := by simpa using z
    subst this
    exact x.newI _ (mem_io hp), x.newF⟩
end

/-! ### the end of a def: what it made and nobody names is forgotten -/
def SameOrB (M M' : Mem) : Prop := ∀ i, i < M.length → M'[i]? = M[i]? ∨ ∃ o, M'[i]? = some o ∧ bndM M.length o
open Classical in
noncomputable def exit (M : Mem) (r : R A) : R A := match r with
  | .ok a M' => if SameOrB M M' then (if bnd M.length a = true then .ok a (M'.take M.length) else match a with
    | .loc n => match M'[n]? with
      | some o => if M.length ≤ n ∧ bndM M.length o ∧ o ≠ .gone then .ok (.loc M.length) (M'.take M.length ++ [o]) else .ok a M'
      | none => .ok a M'
    | a => .ok a M') else .ok a M'
  | .err c M' => if SameOrB M M' then .err c (M'.take M.length) else .err c M'
  | .stuck => .stuck
section
variable {K : PySem.W.Frag} {mg : Str → Option Value} {F : Hp} {io : List Addr} {H : Hp} {M : Mem} {W : WX} {σ : L2.St} {Q : VK}
theorem exit_snd (m0 : MR K mg F io M H) {r : R A} (p : PostG K mg (Rp K mg) W F io H σ (exit M r) Q) : PostG K mg (Rp K mg) W F io H σ r Q := by
  cases r with
  | stuck => exact p
  | err c M' =>
    unfold exit at p
    dsimp only at p
    split at p
    · rename_i hs
      exact fun F' io' H' C x m hc => p F' io H' C x.cut (m0.cut x m hs) hc
    · exact p
  | ok a M' =>
    unfold exit at p
    dsimp only at p
    split at p
    · rename_i hs
      split at p
      · rename_i hb
        exact fun F' io' v H' x m ra => p F' io v H' x.cut (m0.cut x m hs) (Rp.shrink x.back ra (by rw [m0.len]; exact hb))
      · split at p
        · rename_i n _
          split at p
          · rename_i o ho
            split at p
            · rename_i hc
              intro F' io' v H' x m ra
              obtain ⟨q, rfl, hq⟩ := ra
              exact p F' (io ++ [q]) _ H' (x.cut1 hq) (m0.cut1 x m hs hq hc.1 ho hc.2.1 hc.2.2) ⟨q, rfl, by rw [← m0.len]; simp⟩
            · exact p
          · exact p
        · exact p
    · exact p
end
def start0 (n : Nat) (as : List A) : Ro := as.map some ++ List.replicate (n - as.length) none
def fin : Fl → R A
  | .nx _ M => .ok .non M
  | .rt a M => .ok a M
  | .er c _ M => .err c M
  | _ => .stuck
/-- what a def is worth: n names, np of them parameters -/
noncomputable def defSem (n np : Nat) (b : SS) : List A → Mem → R A := fun as M => if as.length = np then exit M (fin (b (start0 n as) M)) else .stuck
/-- its promise -/
def spF (K : PySem.W.Frag) (mg : Str → Option Value) (np : Nat) (sem : List A → Mem → R A) : Sp := fun vs H Q E => vs.length = np ∧ ∃ F io M as, MR K mg F io M H ∧ Rps K mg F io as vs ∧ PostG K mg (Rp K mg) (fun c d _ H => E c d H) F io H [] (sem as M) Q
section
variable {P : Program} {w : World} {K : PySem.W.Frag} {mg : Str → Option Value} {base : Heap} {x qual : Str} {params : Arguments} {body : List Stmt} {scope : Scope} {f : Addr} {fd : FuncData}
theorem start_er {F : Hp} {io : List Addr} {as : List A} {vs : List V} (r : Rps K mg F io as vs) (N : List Str) : ER K mg F io (start0 N.length as) (L2.start N vs) := by
  refine ⟨by simp [start0, L2.start, r.length], fun i a h => ?_⟩
  unfold start0 at h
  by_cases hi : i < as.length
  · rw [List.getElem?_append_left (by simpa using hi), List.getElem?_map] at h
    have e : as[i]? = some as[i] := by simp [hi]
    rw [e] at h
    have e2 : as[i] = a := by simpa using h
    obtain ⟨v, q1, q2⟩ := r.get e
    refine ⟨v, ?_, by rw [← e2]; exact q2⟩
    unfold L2.start
    rw [List.getElem?_append_left (by rw [List.length_map, ← r.length]; exact hi), List.getElem?_map, q1]
    rfl
  · rw [List.getElem?_append_right (by simpa using Nat.le_of_not_lt hi)] at h
    have hm := List.mem_of_getElem? h
    have := List.eq_of_mem_replicate hm
    cases this
/-- THE RULE of a def -/
theorem def_ok {N ps : List Str} {k : Nat} {b : SS} (D : FunD K x qual params body scope [] [] f fd) (S : FnScope N ps scope)
    (hb : ∀ (cdv : Value) (A : Around) (outer : List Env) (s : Shared) (H : Hp) (E : XK), Room k (A.deeper (PyProof.Rows.envOfC qual scope s.heap.objs.size f cdv)) →
      PSs (cxOf (L2.CX P w) P w K mg base N qual scope f cdv A outer s H E) body (tS K mg (fun c d _ H => E c d H) b)) : FnOk P w K mg base (L2.CX P w) (k + 1) f fd ps (spF K mg ps.length (defSem N.length ps.length b)) := by
  refine D.ok S (fun vs H Q E h => h.1) fun cdv A outer s H vs Q E hr h => ⟨_, hb cdv A outer s H E hr, ?_⟩
  obtain ⟨hl, F, io, M, as, m, r, p⟩ := h
  have hla : as.length = ps.length := by rw [r.length]; exact hl
  unfold defSem at p
  rw [if_pos hla] at p
  have p2 := exit_snd m p
  refine ⟨F, io, start0 N.length as, M, start_er r N, m, ?_⟩
  generalize b (start0 N.length as) M = z at p2 ⊢
  cases z with
  | nx ro M' => exact fun F' io' σ' H' x er m' => p2 F' io' _ H' x m' rfl
  | rt a M' => exact fun F' io' v H' x m' ra => p2 F' io' v H' x m' ra
  | er c ro M' => exact fun F' io' σ' H' C x er m' hc => p2 F' io' H' C x m' hc
  | bk ro M' => exact p2.elim
  | ct ro M' => exact p2.elim
  | stuck => exact p2.elim
theorem bnd_stuck {P : Program} {w : World} {K : PySem.W.Frag} {mg : Str → Option Value} {base : Heap} {k np : Nat} {f : Addr} {fd : FuncData} {ps : List Str} (h : ps.length = np) : FnOk P w K mg base (L2.CX P w) k f fd ps (spF K mg np fun _ _ => .stuck) :=
  ⟨fun vs H Q E h' => by rw [h]; exact h'.1, fun A outer s H args us vs Q E _ _ _ _ h => by
    obtain ⟨_, _, _, _, _, _, _, p⟩ := h
    exact p.elim⟩
end

/-! ### calls -/
section
variable {X : Cx} {W : WX} {k : Nat} {f C : Addr} {fd : FuncData} {ps : List Str} {np : Nat} {sem : List A → Mem → R A} {x m : Str} {p pos apos : Pos} {e o : Expr} {es : List Expr} {ga : SA} {fa : SE}
theorem sp_snd {F : Hp} {io : List Addr} {M : Mem} {H : Hp} {as : List A} {vs : List V} {σ : L2.St} {Q : VK} (hl : vs.length = np) (mr : MR X.K X.mg F io M H) (r : Rps X.K X.mg F io as vs) (q : PostG X.K X.mg (Rp X.K X.mg) W F io H σ (sem as M) Q) : spF X.K X.mg np sem vs H Q (WE W σ) :=
  ⟨hl, F, io, M, as, mr, r, q⟩
/-- the length of the arguments, by the syntax -/
def SA.len (n : Nat) (ga : SA) : Prop := ∀ ro M as M', ga ro M = .ok as M' → as.length = n
theorem len_nil : SA.len 0 aNil := fun ro M as M' h => by cases h; rfl
theorem len_cons {n : Nat} (h : SA.len n ga) : SA.len (n + 1) (aCons fa ga) := fun ro M as M' q => by
  unfold aCons at q
  cases e1 : fa ro M with
  | ok a M1 =>
    rw [e1] at q
    dsimp only [R.bind] at q
    cases e2 : ga ro M1 with
    | ok bs M2 =>
      rw [e2] at q
      cases q
      simp [h _ _ _ _ e2]
    | err _ _ => rw [e2] at q; cases q
    | stuck => rw [e2] at q; cases q
  | err _ _ => rw [e1] at q; cases q
  | stuck => rw [e1] at q; cases q
theorem runAl {r : List V → Hp → VK → Prop} {g : List A → Mem → R A} (hl : SA.len np ga) {σ : L2.St} {H : Hp} {Q : VK} (h : tE X.K X.mg W (eA g ga) σ H Q)
    (hs : ∀ F io M H as vs, MR X.K X.mg F io M H → Rps X.K X.mg F io as vs → as.length = np → PostG X.K X.mg (Rp X.K X.mg) W F io H σ (g as M) Q → r vs H Q) : tA X.K X.mg W ga σ H fun v H1 => r v H1 Q := by
  obtain ⟨F, io, ro, M, er, mr, q⟩ := h
  refine ⟨F, io, ro, M, er, mr, ?_⟩
  have q' := PostG.bind (rel := Rps X.K X.mg) q
  cases e : ga ro M with
  | ok as M1 =>
    rw [e] at q'
    intro F1 io1 vs H1 x1 m1 r1
    have hla := hl ro M as M1 e
    have q2 : PostG X.K X.mg (Rp X.K X.mg) W F io H σ (g as M1) Q := by
      have := q
      unfold eA at this
      rw [e] at this
      exact this
    exact hs F1 io1 M1 H1 as vs m1 r1 hla (PostG.ext q2 x1)
  | err c M1 => rw [e] at q'; exact q'
  | stuck => rw [e] at q'; exact q'
theorem de_call (hF : FnOk X.prog X.w X.K X.mg X.base (L2.CX X.prog X.w) k f fd ps (spF X.K X.mg np sem)) (tk : Takes X W) (hr : Room k X.A) (hg : Gl X x) (hm : X.mg x = some (.ref f)) (hk : PySem.W.keepIn X.K (.ref f) = true) (hb : Binds X.K fd ps [])
    (ha : PA X (e :: es) (tA X.K X.mg W ga)) (hl : SA.len np ga) (hdb : (x == ("__debug__" : Str)) = false := by decide) (he : starEach (e :: es) X.env = (false, eval e X.env) :: starEach es X.env := by rfl) (hpl : (backTo pos (starEach es X.env)).any (·.1) = false := by rfl) :
    PE X (.Call (.Name x p) (e :: es) [] pos) (tE X.K X.mg W (eA sem ga)) := PE.imp (pe_callS hF hr hg hm hk hb (fun σ => passAt tk σ) ha hdb he hpl) fun σ H Q h =>
  runAl (r := fun vs H Q => spF X.K X.mg np sem vs H Q (WE W σ)) hl h fun F io M H as vs mr r hla q => sp_snd (by rw [← r.length]; exact hla) mr r q
end
end AL

/-! AL8: methods, instances, attributes. -/
namespace AL
open PySem PySem.Spec L2

section
variable {X : Cx} {W : WX} {k : Nat} {f C : Addr} {fd : FuncData} {ps : List Str} {np : Nat} {sem : List A → Mem → R A} {x m : Str} {p pos apos : Pos} {e o : Expr} {es : List Expr} {ga : SA} {fa : SE}
/-- the reading of o.m(..), what is raised wished for at the slots -/
def rdM (C : Addr) (m : Str) (sp : Sp) (E : L2.St → XK) (ta : TE) (t : TA) : TE := fun σ H Q => ta σ H fun x H1 => ∃ a dx fs, x = .ref a ∧ H1 a = some (.ins C dx fs) ∧ fs.lookup m = none ∧ t σ H1 fun vs H2 => sp (x :: vs) H2 Q (E σ)
theorem pe_mS {sp : Sp} {E : L2.St → XK} {ta : TE} {t : TA} {pl : Sem Bool} (he : PE X o ta) (c : Cls X.K C) (hm : Meth X.K C m f) (hF : FnOk X.prog X.w X.K X.mg X.base (L2.CX X.prog X.w) k f fd ps sp) (hr : Room k X.A) (hb : Binds X.K fd ps []) (hx : ∀ σ, PassesAt (L2.CX X.prog X.w) X σ (E σ)) (ha : PA X (e :: es) t)
    (hst : starEach (e :: es) X.env = (false, eval e X.env) :: starEach es X.env := by rfl) (hpl : (backTo pos (starEach es X.env)).any (·.1) = false := by rfl)
    (ht : eval (.Call (.Attribute o m apos) (e :: es) [] pos) X.env = (do
      let ov ← eval o X.env
      standAt apos.atName
      let (g, first) ← holding [ov] (getMethod ov m pl)
      callWith pos g first (backTo pos (starEach (e :: es) X.env)) (backToKw pos (keywordEach [] X.env))) := by rfl) :
    PE X (.Call (.Attribute o m apos) (e :: es) [] pos) (rdM C m sp E ta t) := ⟨fun pins s σ H Q I h => by
  refine PySem.W.methodCall_KW (pl := pl) (thn (he.run pins s σ H _ I h) fun u s1 z => ?_) ht
  obtain ⟨y, H1, I1, ry, a, dx, fs, rfl, hy, hl, hq⟩ := z
  cases ry
  refine getmeth_ok I1 hy c hm hl (PySem.W.callWith_K (first := [.ref a]) (h₀ := X.base) I1.ok.mod.kin hm.kp (thn (ha.run pos pins s1 σ H1 _ I1 hq) fun us s2 z => ?_) hst hpl)
  obtain ⟨vs, H2, I2, r2, q2⟩ := z
  exact ⟨I2.kIn, run_fnS (vs := V.ref a :: vs) hF hr hb (hx σ) I2 (.cons rfl r2) q2⟩⟩
theorem pe_mS0 {sp : Sp} {E : L2.St → XK} {ta : TE} {pl : Sem Bool} (he : PE X o ta) (c : Cls X.K C) (hm : Meth X.K C m f) (hF : FnOk X.prog X.w X.K X.mg X.base (L2.CX X.prog X.w) k f fd ps sp) (hr : Room k X.A) (hb : Binds X.K fd ps []) (hx : ∀ σ, PassesAt (L2.CX X.prog X.w) X σ (E σ))
    (ht : eval (.Call (.Attribute o m apos) [] [] pos) X.env = (do
      let ov ← eval o X.env
      standAt apos.atName
      let (g, first) ← holding [ov] (getMethod ov m pl)
      callWith pos g first (backTo pos (starEach [] X.env)) (backToKw pos (keywordEach [] X.env))) := by rfl) :
    PE X (.Call (.Attribute o m apos) [] [] pos) (rdM C m sp E ta tNil) := ⟨fun pins s σ H Q I h => by
  refine PySem.W.methodCall_KW (pl := pl) (thn (he.run pins s σ H _ I h) fun u s1 z => ?_) ht
  obtain ⟨y, H1, I1, ry, a, dx, fs, rfl, hy, hl, hq⟩ := z
  cases ry
  exact getmeth_ok I1 hy c hm hl (PySem.W.callWith_K0 (first := [.ref a]) I1.kIn hm.kp (run_fnS (us := [Value.ref a]) (vs := [V.ref a]) hF hr hb (hx σ) I1 (.cons rfl .nil) hq))⟩
/-- an instance of the class c -/
def isInsOf (c : Nat) (M : Mem) : A → Bool
  | .loc n => match M[n]? with
    | some (.ins d _) => c == d
    | _ => false
  | _ => false
def eM (c : Nat) (sem : List A → Mem → R A) (fo : SE) (ga : SA) : SE := fun ro M => (fo ro M).bind fun o M1 => if isInsOf c M1 o = true then (ga ro M1).bind fun as M2 => sem (o :: as) M2 else .stuck
theorem insOf_ok {K : PySem.W.Frag} {mg : Str → Option Value} {F : Hp} {io : List Addr} {M : Mem} {H : Hp} {c : Nat} {a : A} {v : V} {C : Addr} (m : MR K mg F io M H) (r : Rp K mg F io a v) (h : isInsOf c M a = true) (hC : mg (clsS c) = some (.ref C)) : ∃ n p dx gs fs, a = .loc n ∧ v = .ref p ∧ io[n]? = some p ∧ M[n]? = some (.ins c fs) ∧ H p = some (.ins C dx gs) ∧ FldOk K mg F io fs gs := by
  unfold isInsOf at h
  split at h
  · rename_i n
    split at h
    · rename_i d fs e
      have : c = d := by simpa using h
      subst this
      obtain ⟨p, rfl, hp⟩ := r
      obtain ⟨_, C', dx, gs, h1, h2, h3⟩ := m.obj n p _ hp e
      rw [hC] at h1
      cases h1
      exact ⟨n, p, dx, gs, fs, rfl, rfl, hp, e, h2, h3⟩
    · cases h
  · cases h
def fldNo (m : Str) : Prop := ∀ f : Fin 7, fldS f.val ≠ m
theorem fldNo_ok {K : PySem.W.Frag} {mg : Str → Option Value} {F : Hp} {io : List Addr} {m : Str} (h : fldNo m) {fs : List (Nat × A)} {gs : List (Str × V)} (q : FldOk K mg F io fs gs) : gs.lookup m = none := q.2.1 m fun f hf => h ⟨f, hf⟩
theorem runAx {r : List V → Hp → VK → Prop} {g : List A → Mem → R A} (hl : SA.len np ga) {F : Hp} {io : List Addr} {ro : Ro} {M : Mem} {σ : L2.St} {H : Hp} {Q : VK} (er : ER X.K X.mg F io ro σ) (mr : MR X.K X.mg F io M H) (q : PostG X.K X.mg (Rp X.K X.mg) W F io H σ ((ga ro M).bind g) Q)
    (hs : ∀ F' io' M' H' as vs, Ext F io H F' io' H' → MR X.K X.mg F' io' M' H' → Rps X.K X.mg F' io' as vs → as.length = np → PostG X.K X.mg (Rp X.K X.mg) W F' io' H' σ (g as M') Q → r vs H' Q) : tA X.K X.mg W ga σ H fun v H1 => r v H1 Q := by
  refine ⟨F, io, ro, M, er, mr, ?_⟩
  have q' := PostG.bind (rel := Rps X.K X.mg) q
  cases e : ga ro M with
  | ok as M1 =>
    rw [e] at q' q
    intro F1 io1 vs H1 x1 m1 r1
    exact hs F1 io1 M1 H1 as vs x1 m1 r1 (hl ro M as M1 e) (PostG.ext q x1)
  | err c M1 => rw [e] at q'; exact q'
  | stuck => rw [e] at q'; exact q'
theorem de_m {c : Nat} {pl : Sem Bool} (he : PE X o (tE X.K X.mg W fa)) (hC : X.mg (clsS c) = some (.ref C)) (cl : Cls X.K C) (hm : Meth X.K C m f) (hF : FnOk X.prog X.w X.K X.mg X.base (L2.CX X.prog X.w) k f fd ps (spF X.K X.mg (np + 1) sem)) (tk : Takes X W) (hr : Room k X.A) (hb : Binds X.K fd ps []) (ha : PA X (e :: es) (tA X.K X.mg W ga)) (hl : SA.len np ga) (hn : fldNo m)
    (hst : starEach (e :: es) X.env = (false, eval e X.env) :: starEach es X.env := by rfl) (hpl : (backTo pos (starEach es X.env)).any (·.1) = false := by rfl)
    (ht : eval (.Call (.Attribute o m apos) (e :: es) [] pos) X.env = (do
      let ov ← eval o X.env
      standAt apos.atName
      let (g, first) ← holding [ov] (getMethod ov m pl)
      callWith pos g first (backTo pos (starEach (e :: es) X.env)) (backToKw pos (keywordEach [] X.env))) := by rfl) :
    PE X (.Call (.Attribute o m apos) (e :: es) [] pos) (tE X.K X.mg W (eM c sem fa ga)) := PE.imp (pe_mS he cl hm hF hr hb (fun σ => passAt tk σ) ha hst hpl ht) fun σ H Q ⟨F, io, ro, M, er, mr, q⟩ =>
  ⟨F, io, ro, M, er, mr, PostG.mono (PostG.bind (rel := Rp X.K X.mg) q) fun v H1 ⟨F1, io1, M1, a, x1, m1, r1, p1⟩ => by
    split at p1
    · rename_i hi
      obtain ⟨n, p, dx, gs, fs, rfl, rfl, hp, hM, h2, h3⟩ := insOf_ok m1 r1 hi hC
      refine ⟨p, dx, gs, rfl, h2, fldNo_ok hn h3, ?_⟩
      exact runAx (r := fun vs H Q => spF X.K X.mg (np + 1) sem (.ref p :: vs) H Q (WE W σ)) hl (er.ext x1) m1 p1 fun F2 io2 M2 H2 as vs x2 m2 r2 hla q2 =>
        sp_snd (as := .loc n :: as) (by simp [← r2.length, hla]) m2 ⟨_, _, rfl, Rp.mono x2.fr x2.pre r1, r2⟩ q2
    · exact p1.elim⟩
theorem de_m0 {c : Nat} {pl : Sem Bool} (he : PE X o (tE X.K X.mg W fa)) (hC : X.mg (clsS c) = some (.ref C)) (cl : Cls X.K C) (hm : Meth X.K C m f) (hF : FnOk X.prog X.w X.K X.mg X.base (L2.CX X.prog X.w) k f fd ps (spF X.K X.mg 1 sem)) (tk : Takes X W) (hr : Room k X.A) (hb : Binds X.K fd ps []) (hn : fldNo m)
    (ht : eval (.Call (.Attribute o m apos) [] [] pos) X.env = (do
      let ov ← eval o X.env
      standAt apos.atName
      let (g, first) ← holding [ov] (getMethod ov m pl)
      callWith pos g first (backTo pos (starEach [] X.env)) (backToKw pos (keywordEach [] X.env))) := by rfl) :
    PE X (.Call (.Attribute o m apos) [] [] pos) (tE X.K X.mg W (eM c sem fa aNil)) := PE.imp (pe_mS0 he cl hm hF hr hb (fun σ => passAt tk σ) ht) fun σ H Q ⟨F, io, ro, M, er, mr, q⟩ =>
  ⟨F, io, ro, M, er, mr, PostG.mono (PostG.bind (rel := Rp X.K X.mg) q) fun v H1 ⟨F1, io1, M1, a, x1, m1, r1, p1⟩ => by
    split at p1
    · rename_i hi
      obtain ⟨n, p, dx, gs, fs, rfl, rfl, hp, hM, h2, h3⟩ := insOf_ok m1 r1 hi hC
      exact ⟨p, dx, gs, rfl, h2, fldNo_ok hn h3, sp_snd (as := [.loc n]) rfl m1 ⟨_, _, rfl, r1, rfl⟩ p1⟩
    · exact p1.elim⟩

/-! ### a new instance -/
def rdMk (C : Addr) (sp : Sp) (E : L2.St → XK) (t : TA) : TE := fun σ H Q => t σ H fun vs H1 => ∀ x dx, H1 x = none → H1 dx = none → dx ≠ x → sp (.ref x :: vs) (upd (upd H1 dx (.own x)) x (.ins C dx [])) (fun v H2 => v = .non ∧ Q (.ref x) H2) (E σ)
theorem runMk {sp : Sp} {E : L2.St → XK} {pins : List (Addr × Obj)} {σ : L2.St} {H : Hp} {s : Shared} {Q : VK} {us : List Value} {vs : List V} (mk : Mk X.K C f) (hF : FnOk X.prog X.w X.K X.mg X.base (L2.CX X.prog X.w) k f fd ps sp) (hr : Room (k + 1) X.A) (hb : Binds X.K fd ps []) (hx : PassesAt (L2.CX X.prog X.w) X σ (E σ)) (I : Inv X pins σ H s) (r : Vals vs us)
    (h : ∀ x dx, H x = none → H dx = none → dx ≠ x → sp (.ref x :: vs) (upd (upd H dx (.own x)) x (.ins C dx [])) (fun v H2 => v = .non ∧ Q (.ref x) H2) (E σ)) : wpAny (model X.prog X.w) X.A (call (.ref C) us) (EP X pins σ Q) X.xe s := by
  have I2 := Inv.made (C := C) I
  have hs := h (s.heap.objs.size + 1) s.heap.objs.size (I.hok.fresh (Nat.le_succ _)) (I.hok.fresh (Nat.le_refl _)) (Nat.ne_of_lt (Nat.lt_succ_self _))
  have rv : Vals (V.ref (s.heap.objs.size + 1) :: vs) (Value.ref (s.heap.objs.size + 1) :: us) := .cons rfl r
  have hlen : (Value.ref (s.heap.objs.size + 1) :: us ++ []).length = ps.length := by
    rw [List.append_nil, ← rv.length]
    exact hF.len _ _ _ _ hs
  have bd := hb _ (Value.ref (s.heap.objs.size + 1) :: us) I2.kIn hlen
  rw [List.append_nil] at bd
  refine wpAny_call (make_map (f := f) I.kIn mk.makes mk.init (beq_iff_eq.mp mk.fn) (codeAny_mono (hF.run _ X.stack _ _ ⟨Value.ref (s.heap.objs.size + 1) :: us, []⟩ _ _ _ (E σ) (hr.make C us []) (I2.env0.make C us []) bd rv hs) fun z s' hz => ?_))
  match z, hz with
  | .error e, hz => exact hx pins _ _ e s' I2 hz
  | .ok (.ret u), hz =>
    obtain ⟨v, H', I3, rv, rfl, q⟩ := I2.after hz
    exact ⟨rv, V.ref (s.heap.objs.size + 1), H', I3, rfl, q⟩
  | .ok .next, hz => exact hz.elim
  | .ok .brk, hz => exact hz.elim
  | .ok .cont, hz => exact hz.elim
theorem pe_mkS {sp : Sp} {E : L2.St → XK} {t : TA} (mk : Mk X.K C f) (hF : FnOk X.prog X.w X.K X.mg X.base (L2.CX X.prog X.w) k f fd ps sp) (hr : Room (k + 1) X.A) (hg : Gl X x) (hm : X.mg x = some (.ref C)) (hb : Binds X.K fd ps []) (hx : ∀ σ, PassesAt (L2.CX X.prog X.w) X σ (E σ)) (ha : PA X (e :: es) t)
    (hdb : (x == ("__debug__" : Str)) = false := by decide) (he : starEach (e :: es) X.env = (false, eval e X.env) :: starEach es X.env := by rfl) (hpl : (backTo pos (starEach es X.env)).any (·.1) = false := by rfl) : PE X (.Call (.Name x p) (e :: es) [] pos) (rdMk C sp E t) := ⟨fun pins s σ H Q I h => by
  refine wpAny_Call_Name_kw (ld_glob I hg hm (PySem.W.callWith_K (h₀ := X.base) I.ok.mod.kin mk.kp (thn (ha.run pos pins s σ H _ I h) fun us s1 z => ?_) he hpl) hdb)
  obtain ⟨vs, H1, I1, r1, q1⟩ := z
  exact ⟨I1.kIn, runMk mk hF hr hb (hx σ) I1 r1 q1⟩⟩
theorem pe_mkS0 {sp : Sp} {E : L2.St → XK} (mk : Mk X.K C f) (hF : FnOk X.prog X.w X.K X.mg X.base (L2.CX X.prog X.w) k f fd ps sp) (hr : Room (k + 1) X.A) (hg : Gl X x) (hm : X.mg x = some (.ref C)) (hb : Binds X.K fd ps []) (hx : ∀ σ, PassesAt (L2.CX X.prog X.w) X σ (E σ))
    (hdb : (x == ("__debug__" : Str)) = false := by decide) : PE X (.Call (.Name x p) [] [] pos) (rdMk C sp E tNil) := ⟨fun pins s σ H Q I h =>
  wpAny_Call_Name_kw (ld_glob I hg hm (PySem.W.callWith_K0 I.kIn mk.kp (runMk (us := []) (vs := []) mk hF hr hb (hx σ) I .nil h)) hdb)⟩
/-- C(..) by its __init__ -/
def mkSem (c : Nat) (sem : List A → Mem → R A) (as : List A) (M : Mem) : R A := (sem (.loc M.length :: as) (M ++ [.ins c []])).bind fun a M2 => match a with
  | .non => .ok (.loc M.length) M2
  | _ => .stuck
def eMk (c : Nat) (sem : List A → Mem → R A) (ga : SA) : SE := eA (mkSem c sem) ga
theorem fldNil {K : PySem.W.Frag} {mg : Str → Option Value} {F : Hp} {io : List Addr} : FldOk K mg F io [] [] := ⟨fun _ _ => rfl, fun _ _ => rfl, Nat.le_refl _⟩
theorem upd2_ext {K : PySem.W.Frag} {mg : Str → Option Value} {F : Hp} {io : List Addr} {M : Mem} {H : Hp} {c : Nat} {x dx : Addr} (m : MR K mg F io M H) (hC : mg (clsS c) = some (.ref C)) (hx : H x = none) (hdx : H dx = none) (hne : dx ≠ x) :
    Ext F io H F (io ++ [x]) (upd (upd H dx (.own x)) x (.ins C dx [])) ∧ MR K mg F (io ++ [x]) (M ++ [.ins c []]) (upd (upd H dx (.own x)) x (.ins C dx [])) := by
  have s1 : Same H (upd H dx (.own x)) := same_upd hdx
  have m1 := m.grow s1
  have hx1 : (upd H dx (.own x)) x = none := by rw [upd_ne (Ne.symm hne)]; exact hx
  exact ⟨(Ext.grow s1).trans (Ext.alloc hx1), m1.alloc hx1 ⟨C, dx, [], hC, upd_same, fldNil⟩⟩
theorem mk_snd {c : Nat} {F : Hp} {io : List Addr} {M : Mem} {H : Hp} {as : List A} {vs : List V} {σ : L2.St} {Q : VK} (hC : X.mg (clsS c) = some (.ref C)) (hl : vs.length = np) (m : MR X.K X.mg F io M H) (r : Rps X.K X.mg F io as vs) (q : PostG X.K X.mg (Rp X.K X.mg) W F io H σ (mkSem c sem as M) Q) :
    ∀ x dx, H x = none → H dx = none → dx ≠ x → spF X.K X.mg (np + 1) sem (.ref x :: vs) (upd (upd H dx (.own x)) x (.ins C dx [])) (fun v H2 => v = .non ∧ Q (.ref x) H2) (WE W σ) := by
  intro x dx hx hdx hne
  obtain ⟨x1, m1⟩ := upd2_ext (c := c) m hC hx hdx hne
  have e0 : (io ++ [x])[M.length]? = some x := by rw [← m.len]; simp
  refine ⟨by simp [hl], F, io ++ [x], M ++ [.ins c []], .loc M.length :: as, m1, ⟨_, _, rfl, ⟨x, rfl, e0⟩, Rps.mono x1.fr x1.pre r⟩, ?_⟩
  unfold mkSem at q
  have q1 := PostG.ext q x1
  generalize sem (.loc M.length :: as) (M ++ [.ins c []]) = z at q1 ⊢
  cases z with
  | ok a M2 =>
    cases a with
    | non =>
      intro F2 io2 v H2 x2 m2 r2
      cases r2
      exact ⟨rfl, q1 F2 io2 _ H2 x2 m2 ⟨x, rfl, x2.pre _ _ e0⟩⟩
    | _ => exact q1.elim
  | err c M2 => exact q1
  | stuck => exact q1.elim
theorem de_mk {c : Nat} (mk : Mk X.K C f) (hF : FnOk X.prog X.w X.K X.mg X.base (L2.CX X.prog X.w) k f fd ps (spF X.K X.mg (np + 1) sem)) (tk : Takes X W) (hr : Room (k + 1) X.A) (hg : Gl X x) (hm : X.mg x = some (.ref C)) (hx : x = clsS c) (hb : Binds X.K fd ps []) (ha : PA X (e :: es) (tA X.K X.mg W ga)) (hl : SA.len np ga)
    (hdb : (x == ("__debug__" : Str)) = false := by decide) (he : starEach (e :: es) X.env = (false, eval e X.env) :: starEach es X.env := by rfl) (hpl : (backTo pos (starEach es X.env)).any (·.1) = false := by rfl) : PE X (.Call (.Name x p) (e :: es) [] pos) (tE X.K X.mg W (eMk c sem ga)) :=
  PE.imp (pe_mkS mk hF hr hg hm hb (fun σ => passAt tk σ) ha hdb he hpl) fun σ H Q h => runAl (r := fun vs H Q => ∀ x dx, H x = none → H dx = none → dx ≠ x → spF X.K X.mg (np + 1) sem (.ref x :: vs) (upd (upd H dx (.own x)) x (.ins C dx [])) (fun v H2 => v = .non ∧ Q (.ref x) H2) (WE W σ)) hl h
    fun F io M H as vs mr r hla q => mk_snd (by rw [← hx]; exact hm) (by rw [← r.length]; exact hla) mr r q
theorem de_mk0 {c : Nat} (mk : Mk X.K C f) (hF : FnOk X.prog X.w X.K X.mg X.base (L2.CX X.prog X.w) k f fd ps (spF X.K X.mg 1 sem)) (tk : Takes X W) (hr : Room (k + 1) X.A) (hg : Gl X x) (hm : X.mg x = some (.ref C)) (hx : x = clsS c) (hb : Binds X.K fd ps [])
    (hdb : (x == ("__debug__" : Str)) = false := by decide) : PE X (.Call (.Name x p) [] [] pos) (tE X.K X.mg W (eMk c sem aNil)) :=
  PE.imp (pe_mkS0 mk hF hr hg hm hb (fun σ => passAt tk σ) hdb) fun σ H Q ⟨F, io, ro, M, er, mr, q⟩ =>
    mk_snd (np := 0) (as := []) (by rw [← hx]; exact hm) rfl mr rfl q

/-! ### attributes -/
def vFld (f : Nat) : A → Mem → R A := fun a M => match a with
  | .loc n => match M[n]? with
    | some (.ins _ fs) => match fs.lookup f with
      | some b => .ok b M
      | none => .stuck
    | _ => .stuck
  | _ => .stuck
/-- what the class c says of its instances -/
structure ClsOk (K : PySem.W.Frag) (mg : Str → Option Value) (c : Nat) : Prop where
  ex : ∃ C, mg (clsS c) = some (.ref C) ∧ Cls K C ∧ ∀ f : Fin 7, NoAttr K C (fldS f.val)
def vFldC (c f : Nat) : A → Mem → R A := fun a M => if isInsOf c M a = true then vFld f a M else .stuck
theorem fld_snd {K : PySem.W.Frag} {mg : Str → Option Value} {c f : Nat} (hc : ClsOk K mg c) (hf : f < 7) : Snd1 K mg (fun x H Q => ∃ a C dx fs v, x = .ref a ∧ H a = some (.ins C dx fs) ∧ Cls K C ∧ NoAttr K C (fldS f) ∧ fs.lookup (fldS f) = some v ∧ Q v H) (vFldC c f) := by
  intro F io M H x v σ W Q m r p
  unfold vFldC at p
  split at p
  · rename_i hi
    obtain ⟨C, hC, hcl, hna⟩ := hc.ex
    obtain ⟨n, q, dx, gs, fs, rfl, rfl, hp, hM, h2, h3⟩ := insOf_ok m r hi hC
    unfold vFld at p
    dsimp only at p
    rw [hM] at p
    dsimp only at p
    cases e : fs.lookup f with
    | none => rw [e] at p; exact p.elim
    | some b =>
      rw [e] at p
      have z := h3.1 f hf
      rw [e] at z
      obtain ⟨w, q1, q2⟩ := z
      exact ⟨q, C, dx, gs, w, rfl, h2, hcl, hna ⟨f, hf⟩, q1, PostG.now p m q2⟩
  · exact p.elim
theorem de_fld {c f : Nat} {y : Str} (hc : ClsOk X.K X.mg c) (hf : f < 7) (hy : y = fldS f) (he : PE X e (tE X.K X.mg W fa)) (hb : attributeBase e y X.env (eval e X.env) = eval e X.env := by rfl) : PE X (.Attribute e y pos) (tE X.K X.mg W (e1 (vFldC c f) fa)) := by
  subst hy
  exact PE.imp (pe_fld he hb) fun σ H Q h => run1 (fld_snd hc hf) h
/-- o.f = v -/
def putA (f : Nat) (a : A) : List (Nat × A) → List (Nat × A)
  | [] => [(f, a)]
  | (g, b) :: r => if g = f then (g, a) :: r else (g, b) :: putA f a r
theorem lookup_putA (f g : Nat) (a : A) : ∀ fs : List (Nat × A), (putA f a fs).lookup g = if g = f then some a else fs.lookup g
  | [] => by
    unfold putA
    by_cases h : g = f
    · subst h; simp [List.lookup]
    · have : (g == f) = false := by simpa using h
      simp [List.lookup, this, h]
  | (k, b) :: r => by
    unfold putA
    by_cases hk : k = f
    · subst hk
      rw [if_pos rfl]
      by_cases h : g = k
      · subst h; simp [List.lookup]
      · have : (g == k) = false := by simpa using h
        simp [List.lookup, this, h]
    · rw [if_neg hk]
      by_cases h : g = k
      · subst h
        have : ¬ g = f := hk
        simp [List.lookup, this]
      · have e : (g == k) = false := by simpa using h
        simp only [List.lookup, e]
        exact lookup_putA f g a r
def sFldA (c f : Nat) (fo fv : SE) : SS := fun ro M => Fl.of (fv ro M) ro fun a M1 => Fl.of (fo ro M1) ro fun o M2 => if isInsOf c M2 o = true then (match o with
  | .loc n => match M2[n]? with
    | some (.ins d fs) => if fs.length < 50 then .nx ro (M2.set n (.ins d (putA f a fs))) else .stuck
    | _ => .stuck
  | _ => .stuck) else .stuck
theorem putF_same {k : Str} {v w : V} : ∀ {gs : List (Str × V)}, gs.lookup k = some w → (putF k v gs).length = gs.length
  | [], h => by simp [List.lookup] at h
  | (g, u) :: r, h => by
    unfold putF
    by_cases e : g = k
    · rw [if_pos e]; rfl
    · rw [if_neg e]
      have : (k == g) = false := by simpa using fun z : k = g => e z.symm
      simp only [List.lookup, this] at h
      simp [putF_same h]
theorem putA_len (f : Nat) (a : A) : ∀ fs : List (Nat × A), (putA f a fs).length = if (fs.lookup f).isSome then fs.length else fs.length + 1
  | [] => by simp [putA, List.lookup]
  | (g, b) :: r => by
    unfold putA
    by_cases e : g = f
    · subst e; simp [List.lookup]
    · have : (f == g) = false := by simpa using fun z : f = g => e z.symm
      rw [if_neg e]
      simp only [List.lookup, this, List.length_cons, putA_len f a r]
      split <;> rfl
theorem fldOk_put {K : PySem.W.Frag} {mg : Str → Option Value} {F : Hp} {io : List Addr} {fs : List (Nat × A)} {gs : List (Str × V)} {f : Nat} {a : A} {v : V} (hf : f < 7) (h : FldOk K mg F io fs gs) (r : Rp K mg F io a v) : FldOk K mg F io (putA f a fs) (putF (fldS f) v gs) := by
  refine ⟨fun g hg => ?_, fun m hm => ?_, ?_⟩
  · rw [lookup_putA, lookup_putF]
    by_cases e : g = f
    · subst e
      rw [if_pos rfl, if_pos rfl]
      exact ⟨v, rfl, r⟩
    · have e2 : fldS g ≠ fldS f := fun z => e (congrArg Fin.val (fldS_inj ⟨g, hg⟩ ⟨f, hf⟩ z))
      rw [if_neg e, if_neg e2]
      exact h.1 g hg
  · rw [lookup_putF, if_neg (fun z => hm f hf z.symm)]
    exact h.2.1 m hm
  · rw [putA_len]
    have z := h.1 f hf
    cases e : fs.lookup f with
    | some b =>
      rw [e] at z
      obtain ⟨w, q1, _⟩ := z
      rw [putF_same q1]
      exact h.2.2
    | none =>
      have := length_putF (fldS f) v gs
      have := h.2.2
      simp only [Option.isSome_none, Bool.false_eq_true, if_false]
      omega
theorem ds_fld {c f : Nat} {y : Str} {o value : Expr} {fo fv : SE} {pos' : Pos} (hc : ClsOk X.K X.mg c) (hf : f < 7) (hy : y = fldS f) (ho : PE X o (tE X.K X.mg W fo)) (hv : PE X value (tE X.K X.mg W fv)) (hs : swapsWith value (some (.Attribute o y pos')) pos.line X.env = pure false) : PS X (.Assign [.Attribute o y pos'] value pos) (tS X.K X.mg W (sFldA c f fo fv)) := by
  subst hy
  refine PS.imp (ps_fld ho hv hs) fun D σ H ⟨F, io, ro, M, er, mr, p⟩ => ?_
  refine ⟨F, io, ro, M, er, mr, PostG.mono (PostS.of (rel := Rp X.K X.mg) p er) fun v H1 ⟨F1, io1, M1, a, x1, m1, r1, er1, p1⟩ => ?_⟩
  refine ⟨F1, io1, ro, M1, er1, m1, PostG.mono (PostS.of (rel := Rp X.K X.mg) p1 er1) fun w H2 ⟨F2, io2, M2, ob, x2, m2, r2, er2, p2⟩ => ?_⟩
  split at p2
  · rename_i hi
    obtain ⟨C, hC, hcl, hna⟩ := hc.ex
    obtain ⟨n, q, dx, gs, fs, rfl, rfl, hp, hM, h2, h3⟩ := insOf_ok m2 r2 hi hC
    dsimp only at p2
    rw [hM] at p2
    dsimp only at p2
    split at p2
    · rename_i hl
      have r1' := Rp.mono x2.fr x2.pre r1
      have hl2 := h3.2.2
      refine ⟨q, C, dx, gs, rfl, h2, hcl, hna ⟨f, hf⟩, by omega, ?_⟩
      have x3 := Ext.write (F := F2) (H := H2) (o := .ins C dx (putF (fldS f) v gs)) hp
      exact p2 F2 io2 σ _ x3 (er2.ext x3) (m2.write hp hM (fun z => nomatch z) ⟨C, dx, _, hC, upd_same, fldOk_put hf h3 r1'⟩)
    · exact p2.elim
  · exact p2.elim
end
end AL

/-! AL9: built-in functions, methods of lists. -/
namespace AL
open PySem PySem.Spec L2

section
variable {X : Cx} {W : WX} {x : Str} {p pos apos : Pos} {e e2 o : Expr} {es : List Expr} {ga : SA} {fa fb : SE} {id T : String}
theorem de_callB {r : List V → Hp → VK → Prop} {f : List A → Mem → R A} (hc : CallR X (.builtin id) r) (hs : SndA X.K X.mg r f) (hg : Gl X x) (hm : X.mg x = none) (hv : bootBuiltins x = some (.builtin id)) (ha : PA X (e :: es) (tA X.K X.mg W ga)) (hn : x ≠ "__name__" := by decide) (hdb : (x == ("__debug__" : Str)) = false := by decide)
    (he : starEach (e :: es) X.env = (false, eval e X.env) :: starEach es X.env := by rfl) (hpl : (backTo pos (starEach es X.env)).any (·.1) = false := by rfl) : PE X (.Call (.Name x p) (e :: es) [] pos) (tE X.K X.mg W (eA f ga)) := PE.imp (pe_callB hc hg hm hv ha hn hdb he hpl) fun σ H Q h => runA hs h
theorem de_callT {r : List V → Hp → VK → Prop} {f : List A → Mem → R A} (hc : CallR X (.type T) r) (hs : SndA X.K X.mg r f) (hg : Gl X x) (hm : X.mg x = none) (hv : bootBuiltins x = some (.type T)) (ha : PA X (e :: es) (tA X.K X.mg W ga)) (hn : x ≠ "__name__" := by decide) (hdb : (x == ("__debug__" : Str)) = false := by decide)
    (he : starEach (e :: es) X.env = (false, eval e X.env) :: starEach es X.env := by rfl) (hpl : (backTo pos (starEach es X.env)).any (·.1) = false := by rfl) : PE X (.Call (.Name x p) (e :: es) [] pos) (tE X.K X.mg W (eA f ga)) := PE.imp (pe_callTy hc hg hm hv ha hn hdb he hpl) fun σ H Q h => runA hs h
end
section
variable {K : PySem.W.Frag} {mg : Str → Option Value}
/-! ### len -/
def rLenA (K : PySem.W.Frag) : List V → Hp → VK → Prop := fun xs H Q => (∃ p ys, xs = [.ref p] ∧ (SqL K H p ys ∨ SqT K H p ys) ∧ Q (.int ys.length) H) ∨ ∃ z, xs = [.str z] ∧ z.length ≤ sizeLine ∧ Q (.int z.length) H
theorem call_lenA {X : Cx} : CallR X (.builtin "len") (rLenA X.K) := CallR.or call_len_seq call_len_str
def vLen : List A → Mem → R A := fun as M => match as with
  | [.str z] => if z.length ≤ sizeLine then .ok (.int z.length) M else .stuck
  | [a] => match asS M a with
    | some xs => .ok (.int xs.length) M
    | none => .stuck
  | _ => .stuck
theorem sLen : SndA K mg (rLenA K) vLen := by
  intro F io M H as vs σ W Q m r p
  unfold vLen at p
  split at p
  · obtain ⟨v, vr, rfl, r1, r2⟩ := r
    cases r1; cases r2
    split at p
    · rename_i hl
      exact .inr ⟨_, rfl, hl, PostG.now p m rfl⟩
    · exact p.elim
  · obtain ⟨v, vr, rfl, r1, r2⟩ := r
    cases r2
    split at p
    · rename_i xs e
      obtain ⟨q, ws, rfl, h2, h3⟩ := asS_ok m r1 e
      exact .inl ⟨q, ws, rfl, h2, PostG.now p m (by rw [← h3.length]; rfl)⟩
    · exact p.elim
  · exact p.elim
/-! ### list(..) of a list or a tuple -/
def vList (fz : Bool) : List A → Mem → R A := fun as M => match as with
  | [a] => match asS M a with
    | some xs => mkL fz xs M
    | none => .stuck
  | _ => .stuck
theorem sList {fz : Bool} : SndA K mg (fun xs H Q => ∃ p ys, xs = [.ref p] ∧ (SqL K H p ys ∨ SqT K H p ys) ∧ ∀ l, H l = none → Q (.ref l) (upd H l (.lst ys))) (vList fz) := by
  intro F io M H as vs σ W Q m r p
  unfold vList at p
  split at p
  · obtain ⟨v, vr, rfl, r1, r2⟩ := r
    cases r2
    split at p
    · rename_i xs e
      obtain ⟨q, ws, rfl, h2, h3⟩ := asS_ok m r1 e
      exact ⟨q, ws, rfl, h2, (mkL_snd m h3 p).2⟩
    · exact p.elim
  · exact p.elim
/-! ### sum, all, any -/
def toInts : List A → Option (List Int)
  | [] => some []
  | .int i :: r => (toInts r).map (i :: ·)
  | _ => none
def toBools : List A → Option (List Bool)
  | [] => some []
  | .bl i :: r => (toBools r).map (i :: ·)
  | _ => none
theorem ints_ok {F : Hp} {io : List Addr} : ∀ {xs : List A} {vs : List V} {ns : List Int}, Rps K mg F io xs vs → toInts xs = some ns → vs = ns.map V.int
  | [], _, _, r, h => by cases r; cases h; rfl
  | .int i :: xs, _, _, r, h => by
    obtain ⟨v, vr, rfl, r1, r2⟩ := r
    cases r1
    unfold toInts at h
    obtain ⟨ms, e, rfl⟩ := some_map h
    rw [ints_ok r2 e]
    rfl
  | .non :: _, _, _, _, h => nomatch h
  | .bl _ :: _, _, _, _, h => nomatch h
  | .str _ :: _, _, _, _, h => nomatch h
  | .lst _ :: _, _, _, _, h => nomatch h
  | .tup _ :: _, _, _, _, h => nomatch h
  | .frz _ :: _, _, _, _, h => nomatch h
  | .loc _ :: _, _, _, _, h => nomatch h
  | .exc _ :: _, _, _, _, h => nomatch h
  | .fn _ :: _, _, _, _, h => nomatch h
theorem bools_ok {F : Hp} {io : List Addr} : ∀ {xs : List A} {vs : List V} {ns : List Bool}, Rps K mg F io xs vs → toBools xs = some ns → vs = ns.map V.bl
  | [], _, _, r, h => by cases r; cases h; rfl
  | .bl i :: xs, _, _, r, h => by
    obtain ⟨v, vr, rfl, r1, r2⟩ := r
    cases r1
    unfold toBools at h
    obtain ⟨ms, e, rfl⟩ := some_map h
    rw [bools_ok r2 e]
    rfl
  | .non :: _, _, _, _, h => nomatch h
  | .int _ :: _, _, _, _, h => nomatch h
  | .str _ :: _, _, _, _, h => nomatch h
  | .lst _ :: _, _, _, _, h => nomatch h
  | .tup _ :: _, _, _, _, h => nomatch h
  | .frz _ :: _, _, _, _, h => nomatch h
  | .loc _ :: _, _, _, _, h => nomatch h
  | .exc _ :: _, _, _, _, h => nomatch h
  | .fn _ :: _, _, _, _, h => nomatch h
theorem ints_map (ns : List Int) : toInts (ns.map A.int) = some ns := by
  induction ns with
  | nil => rfl
  | cons n r ih => simp [toInts, ih]
theorem bools_map (ns : List Bool) : toBools (ns.map A.bl) = some ns := by
  induction ns with
  | nil => rfl
  | cons n r ih => simp [toBools, ih]
def vSum : List A → Mem → R A := fun as M => match as with
  | [a] => match (asL M a).bind toInts with
    | some ns => .ok (.int ns.sum) M
    | none => .stuck
  | _ => .stuck
theorem sSum : SndA K mg (rSum K) vSum := by
  intro F io M H as vs σ W Q m r p
  unfold vSum at p
  split at p
  · obtain ⟨v, vr, rfl, r1, r2⟩ := r
    cases r2
    split at p
    · rename_i ns e
      obtain ⟨xs, e1, e2⟩ := Option.bind_eq_some_iff.mp e
      obtain ⟨q, ws, rfl, h2, h3⟩ := asL_ok m r1 e1
      have := ints_ok h3 e2
      subst this
      exact ⟨q, ns, rfl, h2, PostG.now p m rfl⟩
    · exact p.elim
  · exact p.elim
def vAnyAll (g : List Bool → Bool) : List A → Mem → R A := fun as M => match as with
  | [a] => match (asL M a).bind toBools with
    | some ns => .ok (.bl (g ns)) M
    | none => .stuck
  | _ => .stuck
theorem sAll : SndA K mg (rAll K) (vAnyAll (·.all id)) := by
  intro F io M H as vs σ W Q m r p
  unfold vAnyAll at p
  split at p
  · obtain ⟨v, vr, rfl, r1, r2⟩ := r
    cases r2
    split at p
    · rename_i ns e
      obtain ⟨xs, e1, e2⟩ := Option.bind_eq_some_iff.mp e
      obtain ⟨q, ws, rfl, h2, h3⟩ := asL_ok m r1 e1
      have := bools_ok h3 e2
      subst this
      exact ⟨q, ns, rfl, h2, PostG.now p m rfl⟩
    · exact p.elim
  · exact p.elim
theorem sAny : SndA K mg (rAny K) (vAnyAll (·.any id)) := by
  intro F io M H as vs σ W Q m r p
  unfold vAnyAll at p
  split at p
  · obtain ⟨v, vr, rfl, r1, r2⟩ := r
    cases r2
    split at p
    · rename_i ns e
      obtain ⟨xs, e1, e2⟩ := Option.bind_eq_some_iff.mp e
      obtain ⟨q, ws, rfl, h2, h3⟩ := asL_ok m r1 e1
      have := bools_ok h3 e2
      subst this
      exact ⟨q, ns, rfl, h2, PostG.now p m rfl⟩
    · exact p.elim
  · exact p.elim
/-! ### int, max, min, abs -/
def vInt : List A → Mem → R A := fun as M => match as with
  | [.int i] => .ok (.int i) M
  | [.bl b] => .ok (.int (if b then 1 else 0)) M
  | _ => .stuck
theorem sInt : SndA K mg (fun xs H Q => (∃ i, xs = [.int i] ∧ Q (.int i) H) ∨ ∃ k, xs = [.bl k] ∧ Q (.int (if k then 1 else 0)) H) vInt := by
  intro F io M H as vs σ W Q m r p
  unfold vInt at p
  split at p
  · obtain ⟨v, vr, rfl, r1, r2⟩ := r
    cases r1; cases r2
    exact .inl ⟨_, rfl, PostG.now p m rfl⟩
  · obtain ⟨v, vr, rfl, r1, r2⟩ := r
    cases r1; cases r2
    exact .inr ⟨_, rfl, PostG.now p m rfl⟩
  · exact p.elim
def vI2 (g : Int → Int → Int) : List A → Mem → R A := fun as M => match as with
  | [.int i, .int j] => .ok (.int (g i j)) M
  | _ => .stuck
theorem sI2 {g : Int → Int → Int} : SndA K mg (fun xs H Q => ∃ i j, xs = [.int i, .int j] ∧ Q (.int (g i j)) H) (vI2 g) := by
  intro F io M H as vs σ W Q m r p
  unfold vI2 at p
  split at p
  · obtain ⟨v, vr, rfl, r1, r2⟩ := r
    obtain ⟨v2, vr2, rfl, r3, r4⟩ := r2
    cases r1; cases r3; cases r4
    exact ⟨_, _, rfl, PostG.now p m rfl⟩
  · exact p.elim
def vAbs : List A → Mem → R A := fun as M => match as with
  | [.int i] => .ok (.int (if i < 0 then -i else i)) M
  | _ => .stuck
theorem sAbs : SndA K mg (fun xs H Q => ∃ i, xs = [.int i] ∧ Q (.int (if i < 0 then -i else i)) H) vAbs := by
  intro F io M H as vs σ W Q m r p
  unfold vAbs at p
  split at p
  · obtain ⟨v, vr, rfl, r1, r2⟩ := r
    cases r1; cases r2
    exact ⟨_, rfl, PostG.now p m rfl⟩
  · exact p.elim
/-! ### isinstance of a built-in class -/
inductive Ty where
  | non | bl | int | str | lst | tup
def Ty.nm : Ty → String
  | .non => "NoneType"
  | .bl => "bool"
  | .int => "int"
  | .str => "str"
  | .lst => "list"
  | .tup => "tuple"
def tyN (M : Mem) : A → Option Ty
  | .non => some .non
  | .bl _ => some .bl
  | .int _ => some .int
  | .str _ => some .str
  | .lst _ => some .lst
  | .frz _ => some .lst
  | .tup _ => some .tup
  | .loc n => match M[n]? with
    | some (.lst _) => some .lst
    | _ => none
  | _ => none
def tyIs : Ty → Ty → Bool
  | .non, .non => true
  | .bl, .bl => true
  | .bl, .int => true
  | .int, .int => true
  | .str, .str => true
  | .lst, .lst => true
  | .tup, .tup => true
  | _, _ => false
def vIsi (T : Ty) : A → Mem → R A := fun a M => match tyN M a with
  | some t => .ok (.bl (tyIs t T)) M
  | none => .stuck
theorem kit_ty' (t T : Ty) : PySem.W.kitOne K (.type t.nm) (.type T.nm) = some (tyIs t T) := by
  cases t <;> cases T <;> rfl
theorem tyX_ok {F : Hp} {io : List Addr} {M : Mem} {H : Hp} (m : MR K mg F io M H) {a : A} {v : V} {t : Ty} (r : Rp K mg F io a v) (h : tyN M a = some t) : TyX K H v (.type t.nm) := by
  cases a with
  | non => cases r; cases h; exact .base .non
  | bl b => cases r; cases h; exact .base (.bl b)
  | int i => cases r; cases h; exact .base (.int i)
  | str z => cases r; cases h; exact .base (.str z)
  | lst xs =>
    obtain ⟨p, vs, rfl, h2, _⟩ := r
    cases h
    exact .base (.lst (m.sub _ _ h2))
  | frz xs =>
    obtain ⟨p, vs, rfl, h2, _⟩ := r
    cases h
    rcases m.sub.seq h2 with (h2 | ⟨ob, h2⟩) | ⟨ob, its, n, h2, h3, _⟩
    · exact .base (.lst h2)
    · exact .base (.frz h2)
    · exact .kList h2 h3
  | tup xs =>
    obtain ⟨p, vs, rfl, h2, _⟩ := tup_ok m r
    cases h
    rcases h2 with (h2 | ⟨ob, h2⟩) | ⟨ob, its, n, h2, h3, _⟩
    · exact .base (.tup h2)
    · exact .fTuple h2
    · exact .kTuple h2 h3
  | loc n =>
    obtain ⟨p, rfl, hp⟩ := r
    unfold tyN at h
    dsimp only at h
    cases e : M[n]? with
    | none => rw [e] at h; cases h
    | some ob =>
      rw [e] at h
      cases ob with
      | lst xs =>
        cases h
        obtain ⟨_, vs, h1, _⟩ := m.obj n p _ hp e
        exact .base (.lst h1)
      | _ => cases h
  | exc _ => cases h
  | fn _ => cases h
theorem de_isi {X : Cx} {W : WX} {T' : Str} {T : Ty} {p p2 pos : Pos} {e : Expr} {fa : SE} (hg : Gl X "isinstance") (hm : X.mg "isinstance" = none) (hg2 : Gl X T') (hm2 : X.mg T' = none) (hv2 : bootBuiltins T' = some (.type T.nm)) (hn2 : T' ≠ "__name__") (hd2 : (T' == ("__debug__" : Str)) = false)
    (he : PE X e (tE X.K X.mg W fa)) (h1 : starEach (e :: [.Name T' p2]) X.env = (false, eval e X.env) :: starEach [.Name T' p2] X.env := by rfl) (h2 : starEach (.Name T' p2 :: []) X.env = (false, eval (.Name T' p2) X.env) :: starEach [] X.env := by rfl) (hpl : (backTo pos (starEach [.Name T' p2] X.env)).any (·.1) = false := by rfl) :
    PE X (.Call (.Name "isinstance" p) [e, .Name T' p2] [] pos) (tE X.K X.mg W (e1 (vIsi T) fa)) := by
  have hb : PE X (.Name T' p2) (tC (.ty T.nm)) := pe_bltn hg2 hm2 hv2 rfl hn2 hd2
  refine PE.imp (pe_callB call_isi hg hm PyProof.Rows.boot_isinstance (pa_cons he (pa_cons hb pa_nil h2) h1) (by decide) (by decide) h1 hpl) fun σ H Q ⟨F, io, ro, M, er, mr, q⟩ => ?_
  refine ⟨F, io, ro, M, er, mr, PostG.mono (PostG.bind (rel := Rp X.K X.mg) q) fun v H1 ⟨F1, io1, M1, a, x1, m1, r1, p1⟩ => ?_⟩
  unfold vIsi at p1
  split at p1
  · rename_i t e1
    exact ⟨v, .ty T.nm, .type t.nm, .type T.nm, tyIs t T, rfl, .ty T.nm, tyX_ok m1 r1 e1, kit_ty' t T, PostG.now p1 m1 rfl⟩
  · exact p1.elim
end
end AL

/-! AL10: methods of lists; a try whose error is kept. -/
namespace AL
open PySem PySem.Spec L2

section
variable {X : Cx} {W : WX} {x name : Str} {p apos cpos : Pos} {e o : Expr} {es : List Expr} {ga : SA} {fa : SE} {id : String}
def Snd1A (K : PySem.W.Frag) (mg : Str → Option Value) (r : V → List V → Hp → VK → Prop) (f : A → List A → Mem → R A) : Prop := ∀ (F : Hp) (io : List Addr) (M : Mem) (H : Hp) (x : A) (v : V) (as : List A) (vs : List V) (σ : L2.St) (W : WX) (Q : VK), MR K mg F io M H → Rp K mg F io x v → Rps K mg F io as vs → PostG K mg (Rp K mg) W F io H σ (f x as M) Q → r v vs H Q
/-- o.m(..), o a list -/
def eBm (f : A → List A → Mem → R A) (fo : SE) (ga : SA) : SE := fun ro M => (fo ro M).bind fun a M1 => match asL M1 a with
  | some _ => (ga ro M1).bind fun as M2 => f a as M2
  | none => .stuck
theorem tyV_list {K : PySem.W.Frag} {mg : Str → Option Value} {F : Hp} {io : List Addr} {M : Mem} {H : Hp} (m : MR K mg F io M H) {a : A} {v : V} {xs : List A} (r : Rp K mg F io a v) (h : asL M a = some xs) : tyV K "list" v H := by
  obtain ⟨p, vs, rfl, h2, h3⟩ := asL_ok m r h
  exact .inl ⟨rfl, vs, h2⟩
theorem de_bm {f : A → List A → Mem → R A} {r : V → List V → Hp → VK → Prop} (slot : Slot "list" name id) (hty : typeOf (.builtin id) = pure (.type "method_descriptor")) (hm : MtR X id r) (hs' : Snd1A X.K X.mg r f) (ho : PE X o (tE X.K X.mg W fa)) (ha : PA X (e :: es) (tA X.K X.mg W ga))
    (hbase : attributeBase o name X.env (eval o X.env) = eval o X.env := by rfl)
    (hfew : ((backTo cpos (starEach (e :: es) X.env)).all (fun x => !x.1) && (backToKw cpos (keywordEach [] X.env)).all (fun x => x.1.isSome)
      && decide ((e :: es).length + ([] : List Keyword).length + (if ([] : List Keyword).isEmpty then 0 else 1) < 30)) = true := by rfl)
    (hline : (apos.endLine == cpos.line) = true := by rfl) (hs : starEach (e :: es) X.env = (false, eval e X.env) :: starEach es X.env := by rfl) (hplain : (backTo cpos (starEach es X.env)).any (·.1) = false := by rfl) :
    PE X (.Call (.Attribute o name apos) (e :: es) [] cpos) (tE X.K X.mg W (eBm f fa ga)) := PE.imp (pe_bm PySem.F.plainAttrs_list slot hty hm ho ha hbase hfew hline hs hplain) fun σ H Q ⟨F, io, ro, M, er, mr, q⟩ =>
  ⟨F, io, ro, M, er, mr, PostG.mono (PostG.bind (rel := Rp X.K X.mg) q) fun v H1 ⟨F1, io1, M1, a, x1, m1, r1, p1⟩ => by
    cases h : asL M1 a with
    | none => rw [h] at p1; exact p1.elim
    | some xs =>
      rw [h] at p1
      exact ⟨tyV_list m1 r1 h, F1, io1, ro, M1, er.ext x1, m1, PostG.mono (PostG.bind (rel := Rps X.K X.mg) p1) fun ws H2 ⟨F2, io2, M2, as, x2, m2, r2, p2⟩ => hs' F2 io2 M2 H2 a v as ws σ W Q m2 (Rp.mono x2.fr x2.pre r1) r2 p2⟩⟩
theorem de_bm0 {f : A → List A → Mem → R A} {r : V → List V → Hp → VK → Prop} (slot : Slot "list" name id) (hty : typeOf (.builtin id) = pure (.type "method_descriptor")) (hm : MtR X id r) (hs' : Snd1A X.K X.mg r f) (ho : PE X o (tE X.K X.mg W fa))
    (hbase : attributeBase o name X.env (eval o X.env) = eval o X.env := by rfl) (hline : (apos.endLine == cpos.line) = true := by rfl) : PE X (.Call (.Attribute o name apos) [] [] cpos) (tE X.K X.mg W (eBm f fa aNil)) :=
  PE.imp (pe_bm0 PySem.F.plainAttrs_list slot hty hm ho hbase hline) fun σ H Q ⟨F, io, ro, M, er, mr, q⟩ =>
  ⟨F, io, ro, M, er, mr, PostG.mono (PostG.bind (rel := Rp X.K X.mg) q) fun v H1 ⟨F1, io1, M1, a, x1, m1, r1, p1⟩ => by
    cases h : asL M1 a with
    | none => rw [h] at p1; exact p1.elim
    | some xs =>
      rw [h] at p1
      exact ⟨tyV_list m1 r1 h, hs' F1 io1 M1 H1 a v [] [] σ W Q m1 r1 rfl p1⟩⟩
end
section
variable {K : PySem.W.Frag} {mg : Str → Option Value}
/-- a list of the memory, by its place -/
def locL (M : Mem) : A → Option (Nat × List A)
  | .loc n => match M[n]? with
    | some (.lst xs) => some (n, xs)
    | _ => none
  | _ => none
theorem locL_ok {F : Hp} {io : List Addr} {M : Mem} {H : Hp} (m : MR K mg F io M H) {a : A} {v : V} {n : Nat} {xs : List A} (r : Rp K mg F io a v) (h : locL M a = some (n, xs)) : ∃ p vs, v = .ref p ∧ io[n]? = some p ∧ M[n]? = some (.lst xs) ∧ H p = some (.lst vs) ∧ Rps K mg F io xs vs := by
  cases a with
  | loc k =>
    unfold locL at h
    dsimp only at h
    cases e : M[k]? with
    | none => rw [e] at h; cases h
    | some ob =>
      rw [e] at h
      cases ob with
      | lst ys =>
        cases h
        obtain ⟨p, rfl, hp⟩ := r
        obtain ⟨_, vs, h1, h2⟩ := m.obj n p _ hp e
        exact ⟨p, vs, rfl, hp, e, h1, h2⟩
      | _ => cases h
  | _ => cases h
theorem wr {F : Hp} {io : List Addr} {M : Mem} {H : Hp} {W : WX} {σ : L2.St} {Q : VK} {n : Nat} {p : Addr} {xs ys : List A} {vs ws : List V} {a : A} {v : V} (m : MR K mg F io M H) (hp : io[n]? = some p) (e : M[n]? = some (.lst xs)) (h2 : Rps K mg F io ys ws) (ra : Rp K mg F io a v) (q : PostG K mg (Rp K mg) W F io H σ (.ok a (M.set n (.lst ys))) Q) : Q v (upd H p (.lst ws)) :=
  PostG.lit q (Ext.write hp) (m.write hp e (fun z => nomatch z) ⟨ws, upd_same, h2⟩) ra
def mAppend : A → List A → Mem → R A := fun o as M => match locL M o, as with
  | some (n, xs), [a] => if xs.length < sizeLine then .ok .non (M.set n (.lst (xs ++ [a]))) else .stuck
  | _, _ => .stuck
theorem sAppend : Snd1A K mg rAppend mAppend := by
  intro F io M H x v as vs σ W Q m r rs q
  unfold mAppend at q
  split at q
  · rename_i n xs a e
    obtain ⟨p, ws, rfl, hp, hM, h1, h2⟩ := locL_ok m r e
    obtain ⟨w, wr', rfl, r1, r2⟩ := rs
    cases r2
    split at q
    · rename_i hl
      exact ⟨p, ws, w, rfl, rfl, h1, by rw [← h2.length]; exact hl, wr (a := .non) (vs := ws) m hp hM (h2.append (Rps.one r1)) rfl q⟩
    · exact q.elim
  · exact q.elim
def mExtend : A → List A → Mem → R A := fun o as M => match locL M o, as with
  | some (n, xs), [a] => match asL1 M a with
    | some ys => if xs.length + ys.length ≤ sizeLine then .ok .non (M.set n (.lst (xs ++ ys))) else .stuck
    | none => .stuck
  | _, _ => .stuck
theorem sExtend : Snd1A K mg rExtend mExtend := by
  intro F io M H x v as vs σ W Q m r rs q
  unfold mExtend at q
  split at q
  · rename_i n xs a e
    obtain ⟨p, ws, rfl, hp, hM, h1, h2⟩ := locL_ok m r e
    obtain ⟨w, wr', rfl, r1, r2⟩ := rs
    cases r2
    split at q
    · rename_i ys e2
      obtain ⟨p2, us, rfl, k1, k2⟩ := asL1_ok m r1 e2
      split at q
      · rename_i hl
        exact ⟨p, p2, ws, us, rfl, rfl, h1, k1, by rw [← h2.length, ← k2.length]; exact hl, wr (a := .non) (vs := ws) m hp hM (h2.append k2) rfl q⟩
      · exact q.elim
    · exact q.elim
  · exact q.elim
def mClear : A → List A → Mem → R A := fun o as M => match locL M o, as with
  | some (n, xs), [] => .ok .non (M.set n (.lst []))
  | _, _ => .stuck
theorem sClear : Snd1A K mg rClear mClear := by
  intro F io M H x v as vs σ W Q m r rs q
  unfold mClear at q
  split at q
  · rename_i n xs e
    obtain ⟨p, ws, rfl, hp, hM, h1, h2⟩ := locL_ok m r e
    cases rs
    exact ⟨p, ws, rfl, rfl, h1, wr (a := .non) (vs := ws) (ys := []) m hp hM rfl rfl q⟩
  · exact q.elim
theorem Rps.dropLast {F : Hp} {io : List Addr} {xs : List A} {vs : List V} (h : Rps K mg F io xs vs) : Rps K mg F io xs.dropLast vs.dropLast := by
  rw [List.dropLast_eq_take, List.dropLast_eq_take, h.length]
  exact h.take _
def mPop : A → List A → Mem → R A := fun o as M => match locL M o, as with
  | some (n, xs), [] => match xs[xs.length - 1]? with
    | some a => .ok a (M.set n (.lst xs.dropLast))
    | none => .stuck
  | _, _ => .stuck
theorem sPop : Snd1A K mg rPop mPop := by
  intro F io M H x v as vs σ W Q m r rs q
  unfold mPop at q
  split at q
  · rename_i n xs e
    obtain ⟨p, ws, rfl, hp, hM, h1, h2⟩ := locL_ok m r e
    cases rs
    split at q
    · rename_i a ea
      obtain ⟨u, hu, ru⟩ := h2.get ea
      exact ⟨p, ws, u, rfl, rfl, h1, by rw [← h2.length]; exact hu, wr (vs := ws) m hp hM h2.dropLast ru q⟩
    · exact q.elim
  · exact q.elim
def mPopAt : A → List A → Mem → R A := fun o as M => match locL M o, as with
  | some (n, xs), [.int i] => if 0 ≤ i ∧ i.natAbs < 2 ^ 63 then (match xs[i.toNat]? with
    | some a => .ok a (M.set n (.lst (xs.eraseIdx i.toNat)))
    | none => .stuck) else .stuck
  | _, _ => .stuck
theorem seqIndex_nat {i : Int} {n k : Nat} (h0 : 0 ≤ i) (h : i.toNat < n) : seqIndex? i n = some i.toNat := by
  unfold seqIndex?
  have h1 : ¬ i < 0 := by omega
  have h2 : i < (n : Int) := by omega
  simp [h1, h2, h0]
theorem sPopAt : Snd1A K mg rPopAt mPopAt := by
  intro F io M H x v as vs σ W Q m r rs q
  unfold mPopAt at q
  split at q
  · rename_i n xs i e
    obtain ⟨p, ws, rfl, hp, hM, h1, h2⟩ := locL_ok m r e
    obtain ⟨w, wr', rfl, r1, r2⟩ := rs
    cases r1
    cases r2
    split at q
    · rename_i hi
      split at q
      · rename_i a ea
        obtain ⟨u, hu, ru⟩ := h2.get ea
        have hl : i.toNat < ws.length := (List.getElem?_eq_some_iff.mp hu).1
        exact ⟨p, ws, i, i.toNat, u, rfl, rfl, h1, by omega, by omega, seqIndex_nat (k := 0) hi.1 hl, hu, wr (vs := ws) m hp hM (h2.erase _) ru q⟩
      · exact q.elim
    · exact q.elim
  · exact q.elim
def mInsert : A → List A → Mem → R A := fun o as M => match locL M o, as with
  | some (n, xs), [.int i, a] => if xs.length < sizeLine ∧ 0 ≤ i ∧ i.natAbs < 2 ^ 63 then .ok .non (M.set n (.lst (xs.take i.toNat ++ [a] ++ xs.drop i.toNat))) else .stuck
  | _, _ => .stuck
theorem sInsert : Snd1A K mg (fun x vs H Q => ∃ (l : Addr) (xs : List V) (i : Int) (y : V), x = .ref l ∧ vs = [.int i, y] ∧ H l = some (.lst xs) ∧ xs.length < sizeLine ∧ 0 ≤ i ∧ i < 2 ^ 63 ∧ Q .non (upd H l (.lst (xs.take i.toNat ++ [y] ++ xs.drop i.toNat)))) mInsert := by
  intro F io M H x v as vs σ W Q m r rs q
  unfold mInsert at q
  split at q
  · rename_i n xs i a e
    obtain ⟨p, ws, rfl, hp, hM, h1, h2⟩ := locL_ok m r e
    obtain ⟨w, wr', rfl, r1, r2⟩ := rs
    cases r1
    obtain ⟨w2, wr2, rfl, r3, r4⟩ := r2
    cases r4
    split at q
    · rename_i hi
      exact ⟨p, ws, i, w2, rfl, rfl, h1, by rw [← h2.length]; exact hi.1, hi.2.1, by omega, wr (a := .non) (vs := ws) m hp hM (((h2.take _).append (Rps.one r3)).append (h2.drop _)) rfl q⟩
    · exact q.elim
  · exact q.elim
/-- xs.index(v), flat things -/
def mIndex : A → List A → Mem → R A := fun o as M => match asL M o, as with
  | some xs, [a] => if flatA a = true ∧ xs.all flatA = true then (match xs.findIdx? (fun z => eqV (toV z) (toV a)) with
    | some j => .ok (.int (j : Nat)) M
    | none => .stuck) else .stuck
  | _, _ => .stuck
end
end AL

/-! AL11: a try whose exception is kept; isinstance of it. -/
namespace L2
open PySem PySem.Spec PyProof.Rows
theorem Sky.noB {B : Heap} {l : List Env} {a : Addr} {Z : Obj → Prop} {L : Addr} {h : Heap} (s : Sky B l a Z L h) : B.get? a = none := by
  rcases s with h | h | h
  · exact h.2.1
  · exact h.2.1
  · exact h.2.1
/-- the context of an except suite whose exception stands in the abstract heap -/
abbrev Cx.hotS (X : Cx) (a : Addr) (pn : List (Addr × Obj)) : Cx := { X with A := X.A.mark (some (.ref a)), calm := false, pn := pn, xe := fun _ _ => False }
theorem excHO_ok {P : Program} {w : World} {H : Hp} {h : Heap} {a : Addr} {cls : Value} {oe : Obj} {vs : Array Value} (e : h.get? a = some oe) (z : Zc cls none oe) (d : oe.data = .fields vs) : ObjOk P w H h a (AL.excHO cls a) :=
  ⟨⟨oe, vs, e, z, d⟩, ⟨oe, e⟩, fun _ _ ⟨o, v, q, r⟩ k => ⟨o, v, k o q, r⟩⟩
theorem Inv.track {X : Cx} {pins : List (Addr × Obj)} {σ : St} {H : Hp} {s : Shared} (I : Inv X pins σ H s) {a : Addr} {oe : Obj} {vs : Array Value} {cls : Value} (ha : s.heap.get? a = some oe) (hz : Zc cls none oe) (hd : oe.data = .fields vs) (na : H a = none) (nL : a ≠ X.env.locals) (nF : a ∉ X.fs)
    (n0 : X.s_0.heap.get? a = none) (np : ∀ p ∈ X.pn ++ pins, p.1 ≠ a) : Inv (X.hotS a (X.pn ++ pins)) [] σ (upd H a (AL.excHO cls a)) s where
  ok := I.ok.suite a _
  os := I.os
  bare := I.bare
  base := ⟨fun b o e n hb hx => I.base.keep b o e n hb hx, fun b o e n hb hx => I.base.slot b o e n hb hx, fun b o e n hx => by
      rw [upd_ne (fun z => by rw [z, n0] at e; cases e)]; exact I.base.free b o e n hx, fun b o e hx => I.base.there b o e hx, fun b xs e => by
      have q := I.base.tups b xs e
      rw [upd_ne (ne_of_none q na)]; exact q, fun b o u e => by
      have q := I.base.frzs b o u e
      rw [upd_ne (ne_of_none q na)]; exact q, fun b ps e => by
      obtain ⟨more, q⟩ := I.base.tbls b ps e
      exact ⟨more, by rw [upd_ne (ne_of_none q na)]; exact q⟩⟩
  loc := I.loc
  cell := I.cell
  free := by rw [upd_ne (Ne.symm nL)]; exact I.free
  freeC := fun x c h => by
    have : c ≠ a := fun z => by
      subst z
      obtain ⟨v, z⟩ := I.cell x c h
      obtain ⟨o, e1, e2⟩ := z
      rw [ha] at e1
      cases e1
      rw [hd] at e2
      cases e2
    rw [upd_ne this]
    exact I.freeC x c h
  pin := fun p hp => by
    have hp' : p ∈ X.pn ++ pins := by rw [List.append_nil] at hp; exact hp
    obtain ⟨h1, h2, h3, h4, h5⟩ := I.pin p hp'
    exact ⟨h1, by rw [upd_ne (np p hp')]; exact h2, h3, h4, h5⟩
  hok := fun b o e => by
    by_cases hb : b = a
    · subst hb
      rw [upd_same] at e
      cases e
      exact excHO_ok ha hz hd
    · rw [upd_ne hb] at e
      exact (I.hok b o e).stay (fun _ _ _ q => q) (fun c q => by rw [upd_ne (ne_of_none q na)]; exact q) fun c xs q => by rw [upd_ne (ne_of_none q na)]; exact q
  len := I.len
theorem Inv.untrackX {X : Cx} {pins : List (Addr × Obj)} {σ : St} {H : Hp} {s : Shared} {a : Addr} {pn' : List (Addr × Obj)} (I : Inv (X.hotS a (X.pn ++ pins)) pn' σ H s) (ok : X.Ok) : Inv X pins σ H s :=
  ⟨ok, I.os, I.bare, I.base, I.loc, I.cell, I.free, I.freeC, fun p hp => I.pin p (List.mem_append_left _ hp), I.hok, I.len⟩
/-- what the clause 'except x as n' wishes of an exception of the body: slot i is n's -/
def wAx (K : PySem.W.Frag) (c : Value) (i : Nat) (ts : TS) (Wout : WX) (D : Ends) : WX := fun cls d σ H =>
  d = none ∧ ∃ b, PySem.W.exmOne K cls c = some b ∧ (b = true → ∀ a, H a = none → ts { nx := fun σ' H' => D.nx (σ'.set i none) H', rt := D.rt, bk := fun σ' H' => D.bk (σ'.set i none) H', ct := fun σ' H' => D.ct (σ'.set i none) H' } (σ.set i (some (.ref a))) (upd H a (AL.excHO cls a))) ∧
    (b = false → Wout cls d σ H)
section
variable {X : Cx} {x n : Str} {c : Value} {i : Nat} {body suite : List Stmt} {b₀ : Stmt} {np pos pos' : Pos} {tb : WX → TS} {ts : TS} {Wout : WX}
theorem ps_try_ax (hs : X.stack = X.env :: X.outer) (hf : X.env.frame = some X.env.locals) (hex : X.ex = []) (hN : X.N.Nodup) (hi : X.N[i]? = some n) (hln : X.env.kindOf n = some .local) (hc : Names X x c) (tk : Takes X Wout)
    (hb : ∀ (W : WX) (pn : List (Addr × Obj)) (xe : Value → Shared → Prop), Takes (X.tr pn xe) W → PassesOwn (model X.prog X.w) X.A X.env xe → PSs (X.tr pn xe) body (tb W))
    (hsu : ∀ (a : Addr) (pn : List (Addr × Obj)), PSs (X.hotS a pn) (b₀ :: suite) ts) :
    PS X (.Try body [.ExceptHandler (some (.Name x np)) (some n) (b₀ :: suite) pos'] [] [] pos) (fun D σ H => tb (wAx X.K c i ts Wout D) D σ H) := by
  refine ⟨fun pins s σ H D I h => ?_⟩
  have ok := I.ok
  have hfr : X.A.frames = some (X.env :: X.outer) := by rw [ok.frames, hs]
  have hloc : Loc X.env.scope n := .inl hln
  refine wpAny_Try_except ?_
  refine wpAny_mono ((hb (wAx X.K c i ts Wout D) (X.pn ++ pins) (fun e s₁ => wpAny (model X.prog X.w) X.A (noteFrame e X.env) (fun _ s₂ => wpAny (model X.prog X.w) X.A (setFlight e none) (fun _ s₃ =>
    wpAny (model X.prog X.w) X.A (handleBy e X.env [.ExceptHandler (some (.Name x np)) (some n) (b₀ :: suite) pos']) (SP X pins D) X.xe s₃) X.xe s₂) X.xe s₁) (fun u s' xx => ?_) PassesOwn.looking).run [] s σ H D (I.toTry _) h) (fun f s1 hsp => ?_) (fun e s1 he => he)
  · -- the catch
    obtain ⟨a, B, sI, pins', σ', H', cls, d, rfl, J', nb, up, sky, na, os, ag, hd0, b, hb1, hyes, hno⟩ := xx
    subst hd0
    have J : Inv X pins σ' H' sI := J'.ofTry ok
    have noB : B.get? a = none := sky.noB
    have sky' : Sky B (X.env :: X.outer) a (Zc cls none) X.env.locals s'.heap := by rw [← hs]; exact sky
    show wpAny (model X.prog X.w) X.A (noteFrame (.ref a) X.env) _ _ _
    refine Sky.land Zc.steady hfr hf sky' fun h3 fl3 up3 => ?_
    have J3 : Inv X pins σ' H' { s' with heap := h3 } := J.landed nb fl3.1 (up.trans up3) os ag
    obtain ⟨oe3, vs3, he3, hz3, hd3⟩ := fl3.there
    have notFr : ∀ {h : Heap} {o : Obj} {vs : Array Value}, h.FunFrames B (X.env :: X.outer) → h.get? a = some o → o.data = .fields vs → a ∉ frs (X.env :: X.outer) := fun {h o vs} ff e dd hm => by
      obtain ⟨_, o', e', hnf⟩ := ff.mem hm
      rw [e] at e'; cases e'
      exact hnf _ dd
    have nfr := notFr fl3.2.2.1 he3 hd3
    have nL : a ≠ X.env.locals := fun z => nfr (List.mem_filterMap.mpr ⟨X.env, List.mem_cons_self, by rw [hf, z]⟩)
    have nF : a ∉ X.fs := fun hm => by
      obtain ⟨e, he, q⟩ := List.mem_filterMap.mp hm
      exact nfr (List.mem_filterMap.mpr ⟨e, List.mem_cons_of_mem _ he, q⟩)
    have nS : a ∉ frs X.stack := by rw [hs]; exact nfr
    have n0 : X.s_0.heap.get? a = none := by
      cases e : X.s_0.heap.get? a with
      | none => rfl
      | some o =>
        obtain ⟨o', e'⟩ := J.base.there a o e (by rw [hex]; simp)
        have := nb a o' e' nS
        rw [noB] at this
        cases this
    have npn : ∀ p ∈ X.pn ++ pins, p.1 ≠ a := fun p hp z => by
      obtain ⟨h1, _⟩ := J.pin p hp
      rw [z] at h1
      have := nb a p.2 h1 nS
      rw [noB] at this
      cases this
    have S3 := J3.suite he3 hd3 na nL nF
    refine wpAny_handleBy_cons (codeAny_handlers_test ?_) (by intro q; cases q)
    have LT : PySem.W.Looks (model X.prog X.w) h3 (typeOf (.ref a)) cls := fun A Q E s k q => wpAny_typeOf_ref (k _ _ he3) (by rw [hz3.1]; exact q)
    have LM := PySem.W.exm_one (M := model X.prog X.w) (J3.kIn) LT hb1
    have test : ∀ {Q : Value → Shared → Prop} {E : Value → Shared → Prop}, Q c { s' with heap := h3 } → wpAny (model X.prog X.w) (X.A.mark (some (.ref a))) (eval (.Name x np) X.env) Q E { s' with heap := h3 } := fun {Q E} q => by
      obtain ⟨hg, hdbg, hm | ⟨hm, hv, hnn⟩⟩ := hc
      · exact ld_glob (X := X.suite a ((a, oe3) :: (X.pn ++ pins))) S3 hg hm q hdbg
      · exact ld_blt (X := X.suite a ((a, oe3) :: (X.pn ++ pins))) S3 hg hm hv q hnn hdbg
    refine test (LM.here ?_)
    cases b with
    | true =>
      refine codeAny_handlers_suite_as ?_
      refine HandSPX.lands_againZ fl3 fun h4 fl4 up4 => ?_
      have J4 : Inv X pins σ' H' { s' with heap := h4 } := J.landed nb fl4.1 ((up.trans up3).trans up4) os ag
      obtain ⟨oe4, vs4, he4, hz4, hd4⟩ := fl4.there
      have S4 := J4.track he4 hz4 hd4 na nL nF n0 npn
      refine store_ok (X := X.hotS a (X.pn ++ pins)) (v := .ref a) S4 hN hi hloc rfl (fun s5 S5 => ?_) (.inr hln)
      refine wpAny_mono ((hsu a (X.pn ++ pins)).run [] s5 _ _ _ S5 (hyes rfl a na)) (fun f s6 hsp => ?_) (fun _ _ z => False.elim z)
      have end_ : ∀ {σ6 : St} {H6 : Hp} {Q : Shared → Prop}, Inv (X.hotS a (X.pn ++ pins)) [] σ6 H6 s6 → (∀ s7, Inv X pins (σ6.set i none) H6 s7 → Q s7) →
          wpAny (model X.prog X.w) X.A (do bindName X.env n .none; unbindBehindTheSuite X.env n pos') (fun _ s7 => Q s7) X.xe s6 := fun {σ6 H6 Q} S6 hq => gone_ok (S6.untrackX ok) hN hi hln hq
      cases f with
      | next =>
        obtain ⟨σ6, H6, S6, q6⟩ := hsp
        exact end_ S6 fun s7 J7 => ⟨_, _, J7, q6⟩
      | brk =>
        obtain ⟨σ6, H6, S6, q6⟩ := hsp
        exact end_ S6 fun s7 J7 => ⟨_, _, J7, q6⟩
      | cont =>
        obtain ⟨σ6, H6, S6, q6⟩ := hsp
        exact end_ S6 fun s7 J7 => ⟨_, _, J7, q6⟩
      | ret u =>
        obtain ⟨v6, σ6, H6, S6, r6, q6⟩ := hsp
        exact end_ S6 fun s7 J7 => ⟨_, _, _, J7, r6, q6⟩
    | false =>
      show wpAny _ X.A (handleBy (.ref a) X.env []) _ _ _
      refine wpAny_handleBy_nil ?_
      obtain ⟨k1, k2, k3, oe, vs, T, oT, ts', he, hz, hd, h1, hr⟩ := id fl3
      unfold PySem.passOn
      refine wpAny_bind (wpAny_field he hd h1 ?_)
      rw [if_neg (show ¬ ((Value.ref T == Value.none) = true) from by simp)]
      have fin : wpAny (model X.prog X.w) X.A (setFlight (.ref a) X.env.frame) (fun _ s4 => wpAny (model X.prog X.w) X.A (throw (.ref a) : Sem Flow) (SP X pins D) X.xe s4) X.xe { s' with heap := h3 } := by
        rw [hf]
        refine HandSPX.setFlight_upZ fl3 fun h4 hh4 up4 => wpAny_throw (tk _ _ ?_)
        exact ⟨a, B, sI, pins, σ', H', cls, none, rfl, J, nb, (up.trans up3).trans up4, .inr (.inr (by rw [hs]; exact hh4)), na, os, ag, hno rfl⟩
      first
        | exact wpAny_bind (wpAny_pure (wpAny_bind fin))
        | exact wpAny_bind fin
  · cases f with
    | next =>
      obtain ⟨σ', H', J', q⟩ := hsp
      exact wpAny_execs_nil ⟨σ', H', J'.ofTry ok, q⟩
    | brk =>
      obtain ⟨σ', H', J', q⟩ := hsp
      exact ⟨σ', H', J'.ofTry ok, q⟩
    | cont =>
      obtain ⟨σ', H', J', q⟩ := hsp
      exact ⟨σ', H', J'.ofTry ok, q⟩
    | ret u =>
      obtain ⟨v, σ', H', J', r, q⟩ := hsp
      exact ⟨v, σ', H', J'.ofTry ok, r, q⟩
end
end L2

/-! AL12: try over abstract values; isinstance of a kept exception. -/
namespace AL
open PySem PySem.Spec L2

/-- the except name goes -/
def clrF (i : Nat) : Fl → Fl
  | .nx ro M => .nx (ro.set i none) M
  | .rt a M => .rt a M
  | .bk ro M => .bk (ro.set i none) M
  | .ct ro M => .ct (ro.set i none) M
  | _ => .stuck
def sTry (i : Nat) (m : Nat → Option Bool) (body suite : SS) : SS := fun ro M => match body ro M with
  | .er c ro1 M1 => match m c with
    | some true => clrF i (suite (ro1.set i (some (.exc c))) M1)
    | some false => .er c ro1 M1
    | none => .stuck
  | e => e
def sTryO (m : Nat → Option Bool) (body suite : SS) : SS := fun ro M => match body ro M with
  | .er c ro1 M1 => match m c with
    | some true => (match suite ro1 M1 with
      | .er _ _ _ => .stuck
      | e => e)
    | some false => .er c ro1 M1
    | none => .stuck
  | e => e
section
variable {K : PySem.W.Frag} {mg : Str → Option Value} {F : Hp} {io : List Addr} {H : Hp} {M : Mem} {σ : L2.St} {ro : Ro} {W : WX} {D : Ends}
theorem ER.clr (er : ER K mg F io ro σ) (i : Nat) : ER K mg F io (ro.set i none) (σ.set i none) := ⟨by simp [er.1], fun j b h => by
  by_cases hj : j = i
  · subst hj
    by_cases hl : j < ro.length
    · rw [List.getElem?_set_self hl] at h; cases h
    · rw [List.getElem?_eq_none (by simpa using hl)] at h; cases h
  · rw [List.getElem?_set_ne (Ne.symm hj)] at h
    obtain ⟨w, q1, q2⟩ := er.2 j b h
    exact ⟨w, by rw [List.getElem?_set_ne (Ne.symm hj)]; exact q1, q2⟩⟩
theorem PostS.clr {W' : WX} {f : Fl} {i : Nat} (h : PostS K mg W F io H (clrF i f) D) : PostS K mg W' F io H f { nx := fun σ' H' => D.nx (σ'.set i none) H', rt := D.rt, bk := fun σ' H' => D.bk (σ'.set i none) H', ct := fun σ' H' => D.ct (σ'.set i none) H' } := by
  cases f with
  | nx ro M => exact fun F2 io2 σ2 H2 e2 er mr => h F2 io2 _ H2 e2 (er.clr i) mr
  | rt a M => exact h
  | bk ro M => exact fun F2 io2 σ2 H2 e2 er mr => h F2 io2 _ H2 e2 (er.clr i) mr
  | ct ro M => exact fun F2 io2 σ2 H2 e2 er mr => h F2 io2 _ H2 e2 (er.clr i) mr
  | er c ro M => exact h.elim
  | stuck => exact h.elim
end
/-- what the clause's class says of the exceptions by number -/
def ExmOk (K : PySem.W.Frag) (mg : Str → Option Value) (cv : Value) (m : Nat → Option Bool) : Prop := ∀ c b C, m c = some b → mg (clsS c) = some (.ref C) → PySem.W.exmOne K (.ref C) cv = some b
section
variable {X : Cx} {W : WX} {x n : Str} {cv : Value} {i : Nat} {body suite : List Stmt} {b₀ : Stmt} {np pos pos' : Pos} {fb fs : SS} {m : Nat → Option Bool}
theorem ds_try (hs : X.stack = X.env :: X.outer) (hf : X.env.frame = some X.env.locals) (hex : X.ex = []) (hN : X.N.Nodup) (hi : X.N[i]? = some n) (hln : X.env.kindOf n = some .local) (hc : Names X x cv) (tk : Takes X W) (hm : ExmOk X.K X.mg cv m)
    (hb : ∀ (W : WX) (pn : List (Addr × Obj)) (xe : Value → Shared → Prop), Takes (X.tr pn xe) W → PassesOwn (model X.prog X.w) X.A X.env xe → PSs (X.tr pn xe) body (tS X.K X.mg W fb))
    (hsu : ∀ (a : Addr) (pn : List (Addr × Obj)), PSs (X.hotS a pn) (b₀ :: suite) (tS X.K X.mg W0 fs)) :
    PS X (.Try body [.ExceptHandler (some (.Name x np)) (some n) (b₀ :: suite) pos'] [] [] pos) (tS X.K X.mg W (sTry i m fb fs)) :=
  PS.imp (ps_try_ax hs hf hex hN hi hln hc tk hb hsu) fun D σ H ⟨F, io, ro, M, er, mr, p⟩ => by
    refine ⟨F, io, ro, M, er, mr, ?_⟩
    unfold sTry at p
    cases e : fb ro M with
    | er c ro1 M1 =>
      rw [e] at p
      dsimp only at p
      intro F1 io1 σ1 H1 C x1 er1 m1 hC
      cases em : m c with
      | none => rw [em] at p; exact p.elim
      | some b =>
        refine ⟨rfl, b, hm c b C em hC, fun hb a ha => ?_, fun hb => ?_⟩
        · subst hb
          rw [em] at p
          dsimp only at p
          have x2 : Ext F1 io1 H1 (upd F1 a (excHO (.ref C) a)) io1 (upd H1 a (excHO (.ref C) a)) := Ext.cell m1 ha
          refine ⟨_, io1, ro1.set i (some (.exc c)), M1, (er1.ext x2).set (a := .exc c) ⟨a, C, rfl, hC, upd_same⟩ i, m1.cell ha, PostS.clr (PostS.ext p (x1.trans x2))⟩
        · subst hb
          rw [em] at p
          exact p F1 io1 σ1 H1 C x1 er1 m1 hC
    | nx ro M => rw [e] at p; exact p
    | rt a M => rw [e] at p; exact p
    | bk ro M => rw [e] at p; exact p
    | ct ro M => rw [e] at p; exact p
    | stuck => rw [e] at p; exact p
theorem ds_tryO (hs : X.stack = X.env :: X.outer) (hf : X.env.frame = some X.env.locals) (hc : Names X x cv) (tk : Takes X W) (hm : ExmOk X.K X.mg cv m)
    (hb : ∀ (W : WX) (pn : List (Addr × Obj)) (xe : Value → Shared → Prop), Takes (X.tr pn xe) W → PassesOwn (model X.prog X.w) X.A X.env xe → PSs (X.tr pn xe) body (tS X.K X.mg W fb))
    (hsu : ∀ (a : Addr) (pn : List (Addr × Obj)), PSs (X.suite a pn) (b₀ :: suite) (tS X.K X.mg W0 fs)) :
    PS X (.Try body [.ExceptHandler (some (.Name x np)) none (b₀ :: suite) pos'] [] [] pos) (tS X.K X.mg W (sTryO m fb fs)) :=
  PS.imp (ps_try_only (ts := fun _ _ _ => tS X.K X.mg W0 fs) hs hf hc tk hb fun a oe cls d pn _ _ => hsu a _) fun D σ H ⟨F, io, ro, M, er, mr, p⟩ => by
    refine ⟨F, io, ro, M, er, mr, ?_⟩
    unfold sTryO at p
    cases e : fb ro M with
    | er c ro1 M1 =>
      rw [e] at p
      dsimp only at p
      intro F1 io1 σ1 H1 C x1 er1 m1 hC
      cases em : m c with
      | none => rw [em] at p; exact p.elim
      | some b =>
        refine ⟨b, hm c b C em hC, fun hb a ha => ?_, fun hb => ?_⟩
        · subst hb
          rw [em] at p
          dsimp only at p
          refine ⟨F1, io1, ro1, M1, er1, m1, ?_⟩
          cases e2 : fs ro1 M1 with
          | er c ro M => rw [e2] at p; exact p.elim
          | nx ro M => rw [e2] at p; exact PostS.ext (f := .nx ro M) p x1
          | rt a M => rw [e2] at p; exact PostS.ext (f := .rt a M) p x1
          | bk ro M => rw [e2] at p; exact PostS.ext (f := .bk ro M) p x1
          | ct ro M => rw [e2] at p; exact PostS.ext (f := .ct ro M) p x1
          | stuck => rw [e2] at p; exact p.elim
        · subst hb
          rw [em] at p
          exact p F1 io1 σ1 H1 C x1 er1 m1 hC
    | nx ro M => rw [e] at p; exact p
    | rt a M => rw [e] at p; exact p
    | bk ro M => rw [e] at p; exact p
    | ct ro M => rw [e] at p; exact p
    | stuck => rw [e] at p; exact p
end

/-! ### isinstance of a kept exception -/
def rIsX (K : PySem.W.Frag) : List V → Hp → VK → Prop := fun xs H Q => ∃ (a D : Addr) (c : V) (cv : Value) (b : Bool), xs = [.ref a, c] ∧ H a = some (excHO (.ref D) a) ∧ ExcC K D ∧ ClsV c cv ∧ PySem.W.kitOne K (.ref D) cv = some b ∧ Q (.bl b) H
def rIsXT (K : PySem.W.Frag) : List V → Hp → VK → Prop := fun xs H Q => ∃ (a D tp : Addr) (cs : List V) (cvs : List Value) (b : Bool), xs = [.ref a, .ref tp] ∧ H a = some (excHO (.ref D) a) ∧ ExcC K D ∧ H tp = some (.tup cs) ∧ Paired ClsV cs cvs ∧ PySem.W.kitAny K (.ref D) cvs = some b ∧ Q (.bl b) H
section
variable {X : Cx}
theorem inst_exc {pins : List (Addr × Obj)} {σ : L2.St} {H : Hp} {s : Shared} (I : Inv X pins σ H s) {a D : Addr} (h : H a = some (excHO (.ref D) a)) : ∃ oe, PySem.W.InstAt s.heap a oe D none := by
  obtain ⟨⟨oe, vs, hget, hz, hv⟩, _⟩ := I.hok a _ h
  refine ⟨oe, ?_⟩
  obtain ⟨oc, od, oda, osl⟩ := oe
  obtain ⟨h1, h2⟩ := hz
  dsimp only at h1 h2 hv
  subst h1 h2 hv
  exact ⟨hget, rfl, rfl, trivial⟩
theorem call_isX : CallR X (.builtin "isinstance") (rIsX X.K) := by
  intro pins s σ H xs us Q I r h
  obtain ⟨a, D, c, cv, b, rfl, ha, C, k, e, q⟩ := h
  obtain ⟨u1, u2, rfl, r1, r2⟩ := vals2 r
  have e2 := k.eq r2
  subst e2
  cases (show u1 = Value.ref a from r1)
  obtain ⟨oe, J⟩ := inst_exc I ha
  exact PySem.W.kia_one (PySem.W.handS_kitx_exc C.hg C.hk C.hs C.hd C.ha C.hn C.ht C.hm) I.kIn J e (fun z => nomatch z) fun tk => ⟨.bl b, H, I.tok tk, rfl, q⟩
theorem call_isXT : CallR X (.builtin "isinstance") (rIsXT X.K) := by
  intro pins s σ H xs us Q I r h
  obtain ⟨a, D, tp, cs, cvs, b, rfl, ha, C, hT, k, e, q⟩ := h
  obtain ⟨u1, u2, rfl, r1, r2⟩ := vals2 r
  cases (show u1 = Value.ref a from r1)
  cases (show u2 = Value.ref tp from r2)
  obtain ⟨oe, J⟩ := inst_exc I ha
  obtain ⟨_, its, rv, o, h1, h2, n, h3⟩ := (show ObjOk X.prog X.w H s.heap tp (.tup cs) from I.hok tp _ hT)
  have e3 := ClsV.all k rv
  subst e3
  obtain ⟨oc, od, dt, sl⟩ := o
  simp only at h2 h3
  subst h2 h3
  exact PySem.W.kia_tup (PySem.W.handS_kitx_exc C.hg C.hk C.hs C.hd C.ha C.hn C.ht C.hm) I.kIn J h1 e (fun z => nomatch z) fun tk => ⟨.bl b, H, I.tok tk, rfl, q⟩
end
/-- the class named x as a value -/
inductive ClsN (X : Cx) : Str → V → Value → Prop where
  | own {x : Str} {D : Addr} (hg : Gl X x) (hm : X.mg x = some (.ref D)) (hd : (x == ("__debug__" : Str)) = false) : ClsN X x (.ref D) (.ref D)
  | blt {x : Str} {T : String} (hg : Gl X x) (hm : X.mg x = none) (hv : bootBuiltins x = some (.type T)) (hn : x ≠ "__name__") (hd : (x == ("__debug__" : Str)) = false) : ClsN X x (.ty T) (.type T)
theorem ClsN.pe {X : Cx} {x : Str} {v : V} {u : Value} {p : Pos} (h : ClsN X x v u) : PE X (.Name x p) (tC v) := by
  cases h with
  | own hg hm hd => exact pe_glob hg hm rfl hd
  | blt hg hm hv hn hd => exact pe_bltn hg hm hv rfl hn hd
theorem ClsN.cl {X : Cx} {x : Str} {v : V} {u : Value} (h : ClsN X x v u) : ClsV v u := by
  cases h with
  | own hg hm hd => exact .own _
  | blt hg hm hv hn hd => exact .ty _
/-- what isinstance says of the exceptions by number -/
def IsxOk (K : PySem.W.Frag) (mg : Str → Option Value) (cvs : List Value) (m : Nat → Option Bool) : Prop := ∀ c b C, m c = some b → mg (clsS c) = some (.ref C) → ExcC K C ∧ PySem.W.kitAny K (.ref C) cvs = some b
def vIsx (m : Nat → Option Bool) : A → Mem → R A := fun a M => match a with
  | .exc c => match m c with
    | some b => .ok (.bl b) M
    | none => .stuck
  | _ => .stuck
theorem kitAny1 {K : PySem.W.Frag} {t c : Value} {b : Bool} (h : PySem.W.kitAny K t [c] = some b) : PySem.W.kitOne K t c = some b := by
  unfold PySem.W.kitAny at h
  split at h
  · cases h; assumption
  · unfold PySem.W.kitAny at h; cases h; assumption
  · cases h
section
variable {X : Cx} {W : WX} {p p2 pos : Pos} {e : Expr} {fa : SE} {m : Nat → Option Bool}
theorem de_isx {T' : Str} {cv : V} {u : Value} (hg : Gl X "isinstance") (hm : X.mg "isinstance" = none) (hT : ClsN X T' cv u) (hk : IsxOk X.K X.mg [u] m)
    (he : PE X e (tE X.K X.mg W fa)) (h1 : starEach (e :: [.Name T' p2]) X.env = (false, eval e X.env) :: starEach [.Name T' p2] X.env := by rfl) (h2 : starEach (.Name T' p2 :: []) X.env = (false, eval (.Name T' p2) X.env) :: starEach [] X.env := by rfl) (hpl : (backTo pos (starEach [.Name T' p2] X.env)).any (·.1) = false := by rfl) :
    PE X (.Call (.Name "isinstance" p) [e, .Name T' p2] [] pos) (tE X.K X.mg W (e1 (vIsx m) fa)) := by
  refine PE.imp (pe_callB call_isX hg hm PyProof.Rows.boot_isinstance (pa_cons he (pa_cons hT.pe pa_nil h2) h1) (by decide) (by decide) h1 hpl) fun σ H Q ⟨F, io, ro, M, er, mr, q⟩ => ?_
  refine ⟨F, io, ro, M, er, mr, PostG.mono (PostG.bind (rel := Rp X.K X.mg) q) fun v H1 ⟨F1, io1, M1, a, x1, m1, r1, p1⟩ => ?_⟩
  unfold vIsx at p1
  split at p1
  · rename_i c
    split at p1
    · rename_i b e1
      obtain ⟨q, C, rfl, hC, hF⟩ := r1
      obtain ⟨h3, h4⟩ := hk c b C e1 hC
      exact ⟨q, C, cv, u, b, rfl, m1.sub _ _ hF, h3, hT.cl, kitAny1 h4, PostG.now p1 m1 rfl⟩
    · exact p1.elim
  · exact p1.elim
/-- a tuple of classes by their names -/
inductive ClsNs (X : Cx) : List Expr → List V → List Value → Prop where
  | nil : ClsNs X [] [] []
  | cons {x : Str} {p : Pos} {v : V} {u : Value} {es : List Expr} {vs : List V} {us : List Value} (h : ClsN X x v u) (hs : starEach (.Name x p :: es) X.env = (false, eval (.Name x p) X.env) :: starEach es X.env) (t : ClsNs X es vs us) : ClsNs X (.Name x p :: es) (v :: vs) (u :: us)
theorem ClsNs.cl {es : List Expr} {vs : List V} {us : List Value} (h : ClsNs X es vs us) : Paired ClsV vs us := by
  induction h with
  | nil => exact .nil
  | cons h _ t ih => exact .cons h.cl ih
theorem ClsNs.pa {es : List Expr} {vs : List V} {us : List Value} (h : ClsNs X es vs us) : PA X es (fun σ H Q => Q vs H) := by
  induction h with
  | nil => exact PA.imp pa_nil fun σ H Q q => q
  | cons h hs t ih => exact PA.imp (pa_cons h.pe ih hs) fun σ H Q q => q
theorem de_isxT {es : List Expr} {vs : List V} {us : List Value} {k : Nat} (hg : Gl X "isinstance") (hm : X.mg "isinstance" = none) (hT : ClsNs X es vs us) (hl : vs.length ≤ sizeLine) (hk : IsxOk X.K X.mg us m)
    (he : PE X e (tE X.K X.mg W fa)) (h1 : starEach (e :: [.Tuple es k p2]) X.env = (false, eval e X.env) :: starEach [.Tuple es k p2] X.env := by rfl) (h2 : starEach (.Tuple es k p2 :: []) X.env = (false, eval (.Tuple es k p2) X.env) :: starEach [] X.env := by rfl) (hpl : (backTo pos (starEach [.Tuple es k p2] X.env)).any (·.1) = false := by rfl) :
    PE X (.Call (.Name "isinstance" p) [e, .Tuple es k p2] [] pos) (tE X.K X.mg W (e1 (vIsx m) fa)) := by
  refine PE.imp (pe_callB call_isXT hg hm PyProof.Rows.boot_isinstance (pa_cons he (pa_cons (pe_tup hT.pa) pa_nil h2) h1) (by decide) (by decide) h1 hpl) fun σ H Q ⟨F, io, ro, M, er, mr, q⟩ => ?_
  refine ⟨F, io, ro, M, er, mr, PostG.mono (PostG.bind (rel := Rp X.K X.mg) q) fun v H1 ⟨F1, io1, M1, a, x1, m1, r1, p1⟩ => ?_⟩
  refine ⟨hl, fun t ht => ?_⟩
  unfold vIsx at p1
  split at p1
  · rename_i c
    split at p1
    · rename_i b e1
      obtain ⟨q, C, rfl, hC, hF⟩ := r1
      obtain ⟨h3, h4⟩ := hk c b C e1 hC
      have hne : q ≠ t := fun z => by
        have := m1.sub _ _ hF
        rw [z, ht] at this
        cases this
      refine ⟨q, C, t, vs, us, b, rfl, ?_, h3, upd_same, hT.cl, h4, PostG.lit p1 (Ext.grow (same_upd ht)) (m1.grow (same_upd ht)) rfl⟩
      rw [upd_ne hne]
      exact m1.sub _ _ hF
    · exact p1.elim
  · exact p1.elim
end
end AL

/-! AL13: sum of bools, index, repr. -/
namespace AL
open PySem PySem.Spec L2 PyProof.Rows

def sumB (bs : List Bool) : Int := (bs.map fun b => if b = true then (1 : Int) else 0).sum
theorem preSum_bools (bs : List Bool) : ∀ n, n ≤ bs.length → preSum (fun i => if bs.getD i false = true then (1 : Int) else 0) n = sumB (bs.take n)
  | 0, _ => rfl
  | n + 1, h => by
    rw [preSum, preSum_bools bs n (by omega), List.take_add_one]
    have e : bs[n]? = some (bs[n]'(by omega)) := by simp
    rw [List.getD_eq_getElem?_getD, e]
    unfold sumB
    rw [List.map_append, List.sum_append]
    show _ = _ + ([_] : List Int).sum
    rw [List.sum_singleton]
    rfl
section
variable {X : Cx}
def rSumB (K : PySem.W.Frag) : List V → Hp → VK → Prop := fun vs H Q => ∃ (a : Addr) (bs : List Bool), vs = [V.ref a] ∧ SqL K H a (bs.map V.bl) ∧ Q (.int (sumB bs)) H
theorem cr_sumB (hc : X.calm = true) : CallR X (.builtin "sum") (rSumB X.K) := by
  intro pins s σ H vs us Q I r h
  obtain ⟨a, bs, rfl, hs, q⟩ := h
  obtain ⟨its, rv, hl, _⟩ := I.list hs
  rw [Vals.ref1 r]
  have hb := rv.bls
  refine call_sum_walkAnyB (iter_any hl.isList fun s₂ e2 st hne => ?_)
  subst e2
  refine ⟨_, _, _, _, _, _, _, fun i => if bs.getD i false = true then (1 : Int) else 0, rfl, (Walks.list (A := X.A.in1) (I.ok.hd hc) _ a hne its.toArray).toS, st, fun b hb' => ?_, fun i v hv => ?_, fun s' t' hm => ?_⟩
  · rcases List.mem_cons.mp hb' with rfl | hb'
    · obtain ⟨⟨o, ho, _⟩, _⟩ := st
      exact Heap.lt_size ho
    · rw [List.mem_singleton.mp hb']
      obtain ⟨_, ⟨o, ho, _⟩⟩ := st
      exact Heap.lt_size ho
  · have hv' : its[i]? = some v := by simpa using hv
    rw [hb, List.getElem?_map] at hv'
    obtain ⟨b, hb2, rfl⟩ := Option.map_eq_some_iff.mp hv'
    exact .inr ⟨b, rfl, by simp [List.getD_eq_getElem?_getD, hb2]⟩
  · rw [Moved.eq_with hm]
    have e : its.toArray.size = bs.length := by rw [hb]; simp
    rw [e, preSum_bools bs _ (Nat.le_refl _), List.take_length]
    exact ⟨.int _, H, I.kept fun b o eo => hm.heap b o (fun hmem => Nat.ne_of_lt (Heap.lt_size eo) (List.mem_singleton.mp hmem)) (Heap.get?_push_of_some _ eo), ⟨_, rfl⟩, q⟩
end
def rSumAll (K : PySem.W.Frag) : List V → Hp → VK → Prop := fun vs H Q => rSum K vs H Q ∨ rSumB K vs H Q
theorem cr_sumAll {X : Cx} (hc : X.calm = true) : CallR X (.builtin "sum") (rSumAll X.K) := CallR.or (cr_sum hc) (cr_sumB hc)
section
variable {K : PySem.W.Frag} {mg : Str → Option Value}
def vSumAll : List A → Mem → R A := fun as M => match as with
  | [a] => match asL M a with
    | some xs => match toInts xs with
      | some ns => .ok (.int ns.sum) M
      | none => match toBools xs with
        | some bs => .ok (.int (sumB bs)) M
        | none => .stuck
    | none => .stuck
  | _ => .stuck
theorem sSumAll : SndA K mg (rSumAll K) vSumAll := by
  intro F io M H as vs σ W Q m r p
  unfold vSumAll at p
  split at p
  · obtain ⟨v, vr, rfl, r1, r2⟩ := r
    cases r2
    split at p
    · rename_i xs e1
      obtain ⟨q, ws, rfl, h2, h3⟩ := asL_ok m r1 e1
      split at p
      · rename_i ns e2
        have := ints_ok h3 e2
        subst this
        exact .inl ⟨q, ns, rfl, h2, PostG.now p m rfl⟩
      · split at p
        · rename_i bs e2
          have := bools_ok h3 e2
          subst this
          exact .inr ⟨q, bs, rfl, h2, PostG.now p m rfl⟩
        · exact p.elim
    · exact p.elim
  · exact p.elim
/-! ### index -/
theorem findIdx_spec {α : Type} {p : α → Bool} : ∀ {xs : List α} {j : Nat}, xs.findIdx? p = some j → (∃ z, xs[j]? = some z ∧ p z = true) ∧ ∀ (m : Nat) (z : α), m < j → xs[m]? = some z → p z = false
  | [], j, h => by simp at h
  | x :: r, j, h => by
    rw [List.findIdx?_cons] at h
    by_cases hx : p x = true
    · rw [if_pos hx] at h
      cases h
      exact ⟨⟨x, rfl, hx⟩, fun m z hm => absurd hm (Nat.not_lt_zero m)⟩
    · rw [if_neg hx] at h
      obtain ⟨i, hi, rfl⟩ := Option.map_eq_some_iff.mp h
      obtain ⟨⟨z, h1, h2⟩, h3⟩ := findIdx_spec hi
      refine ⟨⟨z, by simpa using h1, h2⟩, fun m z hm e => ?_⟩
      cases m with
      | zero =>
        have : x = z := by simpa using e
        rw [← this]
        exact Bool.eq_false_iff.mpr hx
      | succ m => exact h3 m z (by omega) (by simpa using e)
theorem sIndex : Snd1A K mg (rIndex K) mIndex := by
  intro F io M H x v as vs σ W Q m r rs q
  unfold mIndex at q
  split at q
  · rename_i xs a e
    obtain ⟨p, ws, rfl, h2, h3⟩ := asL_ok m r e
    obtain ⟨w, wr', rfl, r1, r2⟩ := rs
    cases r2
    split at q
    · rename_i hf
      obtain ⟨a1, a2⟩ := toV_ok r1 hf.1
      obtain ⟨b1, b2⟩ := toVs_ok h3 hf.2
      split at q
      · rename_i j ej
        obtain ⟨⟨z, c1, c2⟩, c3⟩ := findIdx_spec ej
        have hz : ws[j]? = some (toV z) := by rw [b1, List.getElem?_map, c1]; rfl
        refine ⟨p, ws, w, j, toV z, rfl, rfl, h2, a2, b2, hz, by rw [a1]; exact c2, fun k z' hk ez => ?_, PostG.now q m rfl⟩
        rw [b1, List.getElem?_map] at ez
        obtain ⟨z2, d1, rfl⟩ := Option.map_eq_some_iff.mp ez
        rw [a1]
        exact c3 k z2 hk d1
      · exact q.elim
    · exact q.elim
  · exact q.elim
end
/-! ### repr -/
def rRepr (K : PySem.W.Frag) : List V → Hp → VK → Prop := fun vs H Q => ∃ (a : Addr) (d : PyData), vs = [V.ref a] ∧ Dp K H (.ref a) d ∧ SeqAt.shaped d = true ∧ d.showable = true ∧ d.hasDict = false ∧ d.shown.length ≤ sizeLine ∧ Q (.str d.shown) H
theorem call_reprD {X : Cx} (hg : X.A.guards = some []) (hu : X.A.units + 65 < cLine) : CallR X (.builtin "repr") (rRepr X.K) := by
  intro pins s σ H vs us Q I r h
  obtain ⟨a, d, rfl, hd, hsh, hs, hnd, hz, q⟩ := h
  rw [Vals.ref1 r]
  obtain ⟨as, r1⟩ := Dp.reads I d (.ref a) (.ref a) hd rfl
  have := SeqAt.depth_of_shaped hsh
  exact repr_of_reads' r1 hs (fun e => by rw [hnd] at e; cases e) hg (by omega) (fun _ _ e => e) (fun h' u tk hk => ⟨.str _, H, I.kept hk, ⟨_, rfl⟩, q⟩) hz
section
variable {K : PySem.W.Frag} {mg : Str → Option Value}
def isRefA : A → Bool
  | .lst _ => true
  | .frz _ => true
  | .tup _ => true
  | .loc _ => true
  | _ => false
theorem isRefA_ok {F : Hp} {io : List Addr} {a : A} {v : V} (r : Rp K mg F io a v) (h : isRefA a = true) : ∃ p, v = .ref p := by
  cases a with
  | lst _ => obtain ⟨p, _, rfl, _⟩ := r; exact ⟨p, rfl⟩
  | frz _ => obtain ⟨p, _, rfl, _⟩ := r; exact ⟨p, rfl⟩
  | tup _ => obtain ⟨p, _, rfl, _⟩ := r; exact ⟨p, rfl⟩
  | loc _ => obtain ⟨p, rfl, _⟩ := r; exact ⟨p, rfl⟩
  | _ => cases h
def vRepr : List A → Mem → R A := fun as M => match as with
  | [a] => match datC M a with
    | some d => if isRefA a = true ∧ d.showable = true ∧ d.hasDict = false ∧ d.shown.length ≤ sizeLine then .ok (.str d.shown) M else .stuck
    | none => .stuck
  | _ => .stuck
theorem sRepr : SndA K mg (rRepr K) vRepr := by
  intro F io M H as vs σ W Q m r p
  unfold vRepr at p
  split at p
  · obtain ⟨v, vr, rfl, r1, r2⟩ := r
    cases r2
    split at p
    · rename_i d e
      split at p
      · rename_i hc
        obtain ⟨q, rfl⟩ := isRefA_ok r1 hc.1
        obtain ⟨hd, hs⟩ := datC_ok m r1 e
        exact ⟨q, d, rfl, hd, hs, hc.2.1, hc.2.2.1, hc.2.2.2, PostG.now p m rfl⟩
      · exact p.elim
    · exact p.elim
  · exact p.elim
end
end AL

/-! AL14: a law's own def at the very caller (its guards are known there); the law's end. -/
namespace AL
open PySem PySem.Spec L2 PyProof.Rows

/-- the very call of the law -/
def LawAt (P : Program) (w : World) (K : PySem.W.Frag) (mg : Str → Option Value) (base : Heap) (f : Addr) (sp : Sp) : Prop :=
  ∀ (s : Shared) (H : Hp) (a : Addr), Env0 P w K mg base callerA [] s H → sp [.ref a] H (fun v _ => v = .bl true) (fun _ _ _ => False) →
    codeAny (model P w) callerA (.call (.ref f) ⟨[.ref a], []⟩) (CR (L2.CX P w) [] P w H s (fun v _ => v = .bl true) (fun _ _ _ => False)) s
section
variable {P : Program} {w : World} {K : PySem.W.Frag} {mg : Str → Option Value} {base : Heap} {x qual p0 : Str} {params : Arguments} {body : List Stmt} {scope : Scope} {f : Addr} {fd : FuncData}
theorem law_ok {N : List Str} {k : Nat} {b : SS} (D : FunD K x qual params body scope [] [] f fd) (S : FnScope N [p0] scope) (hr : Room (k + 1) callerA) (hbind : ∀ (s : Shared) (u : Value), BindsTo s fd ⟨[u], []⟩ [(p0, u)])
    (hb : ∀ (cdv : Value) (s : Shared) (H : Hp) (E : XK), Room k (callerA.deeper (PyProof.Rows.envOfC qual scope s.heap.objs.size f cdv)) →
      PSs (cxOf (L2.CX P w) P w K mg base N qual scope f cdv callerA [] s H E) body (tS K mg (fun c d _ H => E c d H) b)) : LawAt P w K mg base f (spF K mg 1 (defSem N.length 1 b)) := by
  obtain ⟨oc, od, dV, kV, doc, pm, an, cdv, ct, osl, rfl, lk, hcd, _, _⟩ := D.ex
  intro s H a e0 hsp
  obtain ⟨hl, F, io, M, as, m, r, p⟩ := hsp
  have hla : as.length = 1 := by rw [r.length]; exact hl
  unfold defSem at p
  rw [if_pos hla] at p
  have p2 := exit_snd m p
  have KX : K.In s.heap := e0.mod.kin.keeps fun b o e => (e0.bs b o e).1
  have lim : s.heap.NoLimit := e0.mod.nolimit.keeps fun b o e => (e0.bs b o e).1
  have rv : Vals [V.ref a] [Value.ref a] := .cons rfl .nil
  have hkind : ∀ y ∈ [p0].zip [Value.ref a], scope.names.lookup y.1 = some .local ∨ (scope.names.lookup y.1 = some .cell ∧ ((cellsFrom (s.heap.objs.size + 1) scope.names []).lookup y.1).isSome = true) := fun ⟨n, v⟩ hy => by
    rcases S.par n (List.of_mem_zip hy).1 with q | q
    · exact .inl q
    · exact .inr ⟨q, PySem.W.cellsFrom_some _ _ _ (.inl q)⟩
  refine codeAny_call_function hr.depth (KX _ _ lk) rfl S.co S.gen rfl (PySem.W.codeRec_of KX hcd) (hbind _ _ _ _ _ _ ?_)
  refine wpAny_newFunctionEnv_cells S.kind hkind fun env he s1 xx => ?_
  subst he
  refine ⟨lim.keeps xx.toInCall.keep, codeAny_func ?_⟩
  have I : Inv (cxOf (L2.CX P w) P w K mg base N qual scope f cdv callerA [] s H (fun _ _ _ => False)) [] (L2.start N [V.ref a]) H s1 := inv_start S hr.hd e0 (by rfl) rv xx
  have hD : tS K mg (fun c d _ H => False) b { nx := fun _ H' => V.non = .bl true, rt := fun v _ => v = .bl true } (L2.start N [V.ref a]) H := by
    refine ⟨F, io, start0 N.length as, M, start_er r N, m, ?_⟩
    generalize b (start0 N.length as) M = z at p2 ⊢
    cases z with
    | nx ro M' => exact fun F' io' σ' H' x er m' => p2 F' io' _ H' x m' rfl
    | rt a M' => exact fun F' io' v H' x m' ra => p2 F' io' v H' x m' ra
    | er c ro M' => exact fun F' io' σ' H' C x er m' hc => p2 F' io' H' C x m' hc
    | bk ro M' => exact p2.elim
    | ct ro M' => exact p2.elim
    | stuck => exact p2.elim
  refine wpAny_mono ((hb cdv s H (fun _ _ _ => False) (hr.deeper _)).run [] s1 (L2.start N [V.ref a]) H _ I hD) (fun fl s' hs => ?_) fun e s' hs => hs
  have fin : ∀ {σ' : L2.St} {H' : Hp} {v : V} {u : Value}, Inv (cxOf (L2.CX P w) P w K mg base N qual scope f cdv callerA [] s H (fun _ _ _ => False)) [] σ' H' s' → RelV v u → v = .bl true → CE [] P w H s (fun v _ => v = .bl true) u s' :=
    fun {σ' H' v u} J rv q => ⟨v, H', J.os, J.bare, J.base, J.hok, rv, q⟩
  cases fl with
  | ret u =>
    obtain ⟨v, σ', H', J, rv, q⟩ := hs
    exact fin J rv q
  | next =>
    obtain ⟨σ', H', J, q⟩ := hs
    exact fin (v := V.non) (u := Value.none) J rfl q
  | brk => obtain ⟨_, _, _, q⟩ := hs; exact q.elim
  | cont => obtain ⟨_, _, _, q⟩ := hs; exact q.elim
end
theorem cx_false {P : Program} {w : World} (H : Hp) (s : Shared) (e : Value) (s' : Shared) (h : L2.CX P w [] H s (fun _ _ _ => False) e s') : False := by
  obtain ⟨a, B, H', cls, d, _, _, _, _, _, _, _, q⟩ := h
  exact q
/-- the law at the heap behind the top -/
theorem law_run {P : Program} {w : World} {K : PySem.W.Frag} {mg mb : Str → Option Value} {fa a : Addr} {sp : Sp} {s₁ : Shared} {vs : List Value} {ns : List Int}
    (KX : K.In s₁.heap) (hns : s₁.heap.Ns mainGlobals mg) (hb : s₁.heap.Ns builtinsNs mb) (hbb : ∀ x : Str, x ≠ "__name__" → mb x = bootBuiltins x) (hlim : s₁.heap.NoLimit) (hg : s₁.gens = #[])
    (ha : s₁.heap.get? a = some { cls := .type "list", data := .seq vs.toArray }) (hi : IntsAre vs ns) (hl : ns.length ≤ sizeLine)
    (F : ∀ base : Heap, K.In base → base.Ns mainGlobals mg → LawAt P w K mg base fa sp)
    (hsp : ∀ H : Hp, Only H → SqL K H a (ns.map V.int) → sp [.ref a] H (fun v _ => v = .bl true) fun _ _ _ => False) :
    codeAny (model P w) callerA (.call (.ref fa) ⟨[.ref a], []⟩) (fun r s' => r = .ok (.ret (.bool true)) ∧ OldK s₁.heap s'.heap ∧ s'.os = s₁.os ∧ AllBare s'.gens) s₁ := by
  have rv := vals_ints hi
  have lenV := hi.length
  have core : ∀ H : Hp, Only H → SqL K H a (ns.map V.int) → HOk P w H s₁.heap → (∀ b, H b ≠ none → b = a) → (H a ≠ none → K.lookup a = none) →
      codeAny (model P w) callerA (.call (.ref fa) ⟨[.ref a], []⟩) (fun r s' => r = .ok (.ret (.bool true)) ∧ OldK s₁.heap s'.heap ∧ s'.os = s₁.os ∧ AllBare s'.gens) s₁ := by
    intro H hO hS hok hA hK
    have none_at : ∀ {b : Addr} {o : Obj}, s₁.heap.get? b = some o → (∀ n, o.data ≠ .seq vs.toArray n) → H b = none := fun {b o} e d => by
      cases q : H b with
      | none => rfl
      | some u =>
        have e' : b = a := hA b (by rw [q]; simp)
        subst e'
        rw [ha] at e
        cases e
        exact absurd rfl (d _)
    have nsK : ∀ {b : Addr} {m : Str → Option Value}, s₁.heap.Ns b m → (hidT s₁.heap H).Ns b m := fun {b m} ⟨o, es, ep, e, d, r⟩ => ⟨o, es, ep, hidT_get e (none_at e fun n z => by rw [d] at z; cases z), d, r⟩
    have hKb : K.In (hidT s₁.heap H) := fun b o e => hidT_get (KX b o e) (by
      cases q : H b with
      | none => rfl
      | some u =>
        have e' : b = a := hA b (by rw [q]; simp)
        subst e'
        rw [hK (by rw [q]; simp)] at e
        cases e)
    have hM : Mod K mg (hidT s₁.heap H) := ⟨hKb, nsK hns, ⟨mb, nsK hb, hbb⟩, let ⟨mc, h1, h2⟩ := hlim; ⟨mc, nsK h1, h2⟩⟩
    have e0 : Env0 P w K mg (hidT s₁.heap H) callerA [] s₁ H := ⟨rfl, hM, fun b o e => of_hidT e, Nat.le_of_eq (hidT_size _ _), trivial, fun b hb => absurd (show b ∈ ([] : List Addr) from hb) (by simp), hok, .of_eq hg⟩
    refine codeAny_mono (F _ hKb (nsK hns) s₁ H a e0 (hsp H hO hS)) fun r s' h => ?_
    cases r with
    | error e => exact (cx_false H s₁ e s' h).elim
    | ok fl =>
      cases fl with
      | ret u =>
        obtain ⟨v, H', os, bare, un, hok', r', q⟩ := h
        have q' : v = .bl true := q
        subst q'
        obtain rfl : u = Value.bool true := r'
        refine ⟨rfl, OldK.of_keep fun b o e => ?_, os, bare⟩
        cases q : H b with
        | none => exact un.keep b o e q (by intro z; exact absurd (show b ∈ ([] : List Addr) from z) (by simp)) (by simp)
        | some u =>
          rcases hO b with z | ⟨ob, xs, z⟩
          · rw [q] at z; cases z
          · obtain ⟨e1, _⟩ := hok b _ z
            obtain ⟨e2, _⟩ := hok' b _ (un.frzs b ob _ z)
            rw [e] at e1
            cases e1
            exact e2
      | next => exact False.elim h
      | brk => exact False.elim h
      | cont => exact False.elim h
  cases hk : K.lookup a with
  | some o =>
    have e := KX a o hk
    rw [ha] at e
    cases e
    exact core (fun _ => none) (fun _ => .inl rfl) (.inr ⟨_, vs.toArray, _, hk, rfl, rfl, rfl, by rw [List.size_toArray, lenV]; exact hl, by simpa using rv⟩) (fun b u z => nomatch z) (fun b z => absurd rfl z) fun z => absurd rfl z
  | none =>
    refine core (upd (fun _ => none) a (.frz { cls := .type "list", data := .seq vs.toArray } (.lst (ns.map V.int)))) (fun b => ?_) (.inl (.inr ⟨_, upd_same⟩)) (fun b u z => ?_) (fun b z => ?_) fun _ => hk
    · by_cases hb : b = a
      · subst hb; exact .inr ⟨_, _, upd_same⟩
      · rw [upd_ne hb]; exact .inl rfl
    · by_cases hb : b = a
      · subst hb
        rw [upd_same] at z
        cases z
        exact ⟨ha, by rw [List.length_map]; exact hl, vs, _, rv, ha⟩
      · rw [upd_ne hb] at z; cases z
    · by_cases hb : b = a
      · exact hb
      · rw [upd_ne hb] at z; exact absurd rfl z
/-- the script as an abstract value -/
abbrev scr (ns : List Int) : A := .frz (ns.map A.int)
theorem rps_ints {K : PySem.W.Frag} {mg : Str → Option Value} {F : Hp} {io : List Addr} : ∀ ns : List Int, Rps K mg F io (ns.map A.int) (ns.map V.int)
  | [] => rfl
  | n :: r => ⟨_, _, rfl, rfl, rps_ints r⟩
theorem mr_only {K : PySem.W.Frag} {mg : Str → Option Value} (H : Hp) : MR K mg H [] [] H := ⟨fun _ _ h => h, rfl, List.nodup_nil, fun p hp => (nomatch hp), fun n p o h => by simp at h⟩
theorem spF_start {K : PySem.W.Frag} {mg : Str → Option Value} {sem : List A → Mem → R A} {H : Hp} {a : Addr} {ns : List Int} (hS : SqL K H a (ns.map V.int)) (h : ∃ M', sem [scr ns] [] = .ok (.bl true) M') : spF K mg 1 sem [.ref a] H (fun v _ => v = .bl true) (fun _ _ _ => False) := by
  obtain ⟨M', e⟩ := h
  refine ⟨rfl, H, [], [], [scr ns], mr_only H, ⟨_, _, rfl, ⟨a, _, rfl, hS, rps_ints ns⟩, rfl⟩, ?_⟩
  rw [e]
  intro F' io' v H' x m r
  exact r
/-- a law's end -/
theorem walk_al {l : PySem.W.OpenLaw} {n : Nat} {q : Program} {loose : List Str} {XP : (Str → Option Value) → Heap → Prop} {YP : World → Heap → Prop} {d : DefRec} (hn : l.most = some n) (hn2 : n ≤ sizeLine) (hdf : d.params.defaults = [])
    {sem : List A → Mem → R A}
    (F : ∀ (w : World) (mg : Str → Option Value) (fa : Addr) (h : Heap), YP w h → h.Ns mainGlobals mg → mg d.name = some (.ref fa) → ∃ (K : PySem.W.Frag), K.In h ∧ ∀ base : Heap, K.In base → base.Ns mainGlobals mg → LawAt l.prog w K mg base fa (spF K mg 1 sem))
    (hs : ∀ ns : List Int, ns.length ≤ n → ∃ M', sem [scr ns] [] = .ok (.bl true) M') :
    PySem.W.WalkO q loose XP YP l.row.toRowW d [] (fun f vs => PySem.call f vs) := by
  refine Att.attach_call hn hdf fun w s₀ s₁ mg mb fa o pm cd doc a vs ns G Y ho hd hcd hmg hobj hints hlen hg => ?_
  obtain ⟨K, KX, hF⟩ := F w mg fa _ Y G.T.g hmg
  exact law_run KX G.T.g G.T.b G.T.builtins G.T.nolimit hg hobj hints (Nat.le_trans hlen hn2) hF fun H _ hS => spF_start hS (hs ns hlen)
end AL

/-! AL15: names of built-ins, constants, the top's facts. -/
namespace AL
open PySem PySem.Spec L2 PyProof.Rows

theorem b_len : bootBuiltins "len" = some (.builtin "len") := by decide +kernel
theorem b_list : bootBuiltins "list" = some (.type "list") := by decide +kernel
theorem b_int : bootBuiltins "int" = some (.type "int") := by decide +kernel
theorem b_str : bootBuiltins "str" = some (.type "str") := by decide +kernel
theorem b_bool : bootBuiltins "bool" = some (.type "bool") := by decide +kernel
theorem b_tuple : bootBuiltins "tuple" = some (.type "tuple") := by decide +kernel
theorem b_max : bootBuiltins "max" = some (.builtin "max") := by decide +kernel
theorem b_min : bootBuiltins "min" = some (.builtin "min") := by decide +kernel
theorem b_abs : bootBuiltins "abs" = some (.builtin "abs") := by decide +kernel
theorem b_sum : bootBuiltins "sum" = some (.builtin "sum") := by decide +kernel
theorem b_any : bootBuiltins "any" = some (.builtin "any") := by decide +kernel
theorem b_all : bootBuiltins "all" = some (.builtin "all") := by decide +kernel
theorem b_sorted : bootBuiltins "sorted" = some (.builtin "sorted") := by decide +kernel
theorem b_repr : bootBuiltins "repr" = some (.builtin "repr") := by decide +kernel
theorem b_ValueError : bootBuiltins "ValueError" = some (.type "ValueError") := by decide +kernel
theorem hu64 {k : Nat} {A : Around} (r : Room k A) : A.units + 64 < cLine := by have := r.un; omega
theorem hu65 {k : Nat} {A : Around} (r : Room k A) : A.units + 65 < cLine := by have := r.un; omega
/-- a constant of the module -/
theorem de_con {X : Cx} {W : WX} {x : Str} {v : V} {u : Value} {a : A} {pos : Pos} (hg : Gl X x) (hm : X.mg x = some u) (r : RelV v u) (h : ∀ F io, Rp X.K X.mg F io a v) (hd : (x == ("__debug__" : Str)) = false := by decide) : PE X (.Name x pos) (tE X.K X.mg W (eC a)) := de_C (pe_glob hg hm r hd) h
theorem rp_tup {K : PySem.W.Frag} {mg : Str → Option Value} {x : Str} {ns : List Int} (h : He.tupB K x (ns.map He.Dv.int) = true) (F : Hp) (io : List Addr) : Rp K mg F io (.tup (ns.map A.int)) (.ref (He.ga K x)) := by
  refine ⟨_, ns.map V.int, rfl, ?_, rps_ints ns⟩
  have := He.tupB_ok h F
  rw [List.map_map] at this
  exact this

/-! ### the top's facts -/
def excCB (K : PySem.W.Frag) (x : Str) : Bool := He.eqO (PySem.W.findIn K (.ref (He.ga K x)) "__getattribute__") (some (some (.builtin "BaseException.__getattribute__"))) && (He.eqO (PySem.W.findIn K (.ref (He.ga K x)) "__getattr__") (some none) &&
  (decide (PySem.W.subIn K (.ref (He.ga K x)) (.type "BaseException") = some true) && (PySem.W.hasDictIn K (He.ga K x) && (He.eqO (PySem.W.findIn K (.ref (He.ga K x)) "__class__") (some (some (.builtin "object.__class__"))) &&
  (He.eqO (PySem.W.specialIn K (.builtin "object.__class__") "__get__") (some (some (.builtin "getset_descriptor.__get__"))) && (decide (PySem.W.takesIn K (.builtin "object.__class__") = some true) && decide (PySem.W.mroIn K (He.ga K x) (.type "object") = some true)))))))
theorem excCB_ok {K : PySem.W.Frag} {x : Str} (h : excCB K x = true) : ExcC K (He.ga K x) := by
  unfold excCB at h
  obtain ⟨h1, h⟩ := He.ba h
  obtain ⟨h2, h⟩ := He.ba h
  obtain ⟨h3, h⟩ := He.ba h
  obtain ⟨h4, h⟩ := He.ba h
  obtain ⟨h5, h⟩ := He.ba h
  obtain ⟨h6, h⟩ := He.ba h
  obtain ⟨h7, h8⟩ := He.ba h
  exact ⟨He.eqO_ok h1, He.eqO_ok h2, of_decide_eq_true h3, h4, He.eqO_ok h5, He.eqO_ok h6, of_decide_eq_true h7, of_decide_eq_true h8⟩
/-- a class by its name: an own one (true), a built-in one -/
def cvOf (K : PySem.W.Frag) (p : Bool × Str × String) : Value := if p.1 then .ref (He.ga K p.2.1) else .type p.2.2
def gloB (K : PySem.W.Frag) (x : Str) : Bool := (He.Fa.glo x).ok K
/-- isinstance, except: what the classes say of the errors by number -/
def isxB (l : List (Nat × Bool)) (cs : List (Bool × Str × String)) (K : PySem.W.Frag) : Bool := l.all fun p => gloB K (clsS p.1) && (excCB K (clsS p.1) && decide (PySem.W.kitAny K (.ref (He.ga K (clsS p.1))) (cs.map (cvOf K)) = some p.2))
def mOf (l : List (Nat × Bool)) (c : Nat) : Option Bool := l.lookup c
def exmB (l : List (Nat × Bool)) (c : Bool × Str × String) (K : PySem.W.Frag) : Bool := l.all fun p => gloB K (clsS p.1) && decide (PySem.W.exmOne K (.ref (He.ga K (clsS p.1))) (cvOf K c) = some p.2)
theorem lookup_mem {l : List (Nat × Bool)} {c : Nat} {b : Bool} (h : mOf l c = some b) : (c, b) ∈ l := by
  unfold mOf at h
  induction l with
  | nil => cases h
  | cons p r ih =>
    obtain ⟨c', b'⟩ := p
    rw [List.lookup_cons] at h
    split at h
    · rename_i e
      have : c = c' := by simpa using e
      subst this
      cases h
      exact List.mem_cons_self
    · exact List.mem_cons_of_mem _ (ih h)
section
variable {K : PySem.W.Frag} {mg : Str → Option Value} {h : Heap} {l : List (Nat × Bool)}
theorem isx_ok (X : K.In h) (G : h.Ns mainGlobals mg) {cs : List (Bool × Str × String)} (q : isxB l cs K = true) : IsxOk K mg (cs.map (cvOf K)) (mOf l) := fun c b C e hC => by
  have z := List.all_eq_true.mp q _ (lookup_mem e)
  obtain ⟨z1, z⟩ := He.ba z
  obtain ⟨z2, z3⟩ := He.ba z
  have g := He.glo_ok X G z1
  rw [hC] at g
  cases g
  exact ⟨excCB_ok z2, of_decide_eq_true z3⟩
theorem exm_ok (X : K.In h) (G : h.Ns mainGlobals mg) {c : Bool × Str × String} (q : exmB l c K = true) : ExmOk K mg (cvOf K c) (mOf l) := fun c b C e hC => by
  have z := List.all_eq_true.mp q _ (lookup_mem e)
  obtain ⟨z1, z2⟩ := He.ba z
  have g := He.glo_ok X G z1
  rw [hC] at g
  cases g
  exact of_decide_eq_true z2
end
abbrev Ck := PySem.W.Frag → Bool
def obsX (cks : List Ck) (fa : List He.Fa) (fn : List He.DefD) (K : PySem.W.Frag) : He.AlD := ((He.obsD fa fn K).1 && cks.all fun f => f K, (He.obsD fa fn K).2)
def obsXG (n : Nat) (cks : List Ck) (fa : List He.Fa) (fn : List He.DefD) (g : Addr → Option Obj) : He.AlD := obsX cks fa fn (He.frG g (He.asD g n))
def SaysX (cks : List Ck) (fa : List He.Fa) (fn : List He.DefD) (K : PySem.W.Frag) : Prop := obsX cks fa fn K = He.valD fn
def hookX (n : Nat) (cks : List Ck) (fa : List He.Fa) (fn : List He.DefD) : PySem.W.Hook where
  α := He.AlD
  obs := fun s => obsXG n cks fa fn s.heap.get?
  val := fun _ => He.valD fn
  says := fun _ h => ∃ K : PySem.W.Frag, K.In h ∧ SaysX cks fa fn K
  of := fun _ _ e => ⟨_, He.frG_in, e⟩
  keeps := fun _ _ _ ⟨K, hK, c⟩ k => ⟨K, PySem.W.Frag.In.keeps hK k, c⟩
theorem obsXG_eq {n : Nat} {cks : List Ck} {fa : List He.Fa} {fn : List He.DefD} {g : Addr → Option Obj} {s : Shared} (h : ∀ a, g a = s.heap.get? a) : obsXG n cks fa fn g = (hookX n cks fa fn).obs s := by
  have e : g = s.heap.get? := funext h
  rw [e] <;> rfl
theorem SaysX.d {cks : List Ck} {fa : List He.Fa} {fn : List He.DefD} {K : PySem.W.Frag} (c : SaysX cks fa fn K) : He.SaysD fa fn K ∧ ∀ (i : Nat) {f : Ck}, cks[i]? = some f → f K = true := by
  have e1 : ((He.obsD fa fn K).1 && cks.all fun f => f K) = true := congrArg (fun z : He.AlD => z.1) c
  obtain ⟨h1, h2⟩ := He.ba e1
  have e2 : (He.obsD fa fn K).2 = (He.valD fn).2 := by
    have c' : obsX cks fa fn K = He.valD fn := c
    have := congrArg (fun z : He.AlD => z.2) c'
    exact this
  exact ⟨Prod.ext h1 e2, fun i f h => List.all_eq_true.mp h2 f (List.mem_of_getElem? h)⟩
/-- what is known behind the top -/
structure Tp (cks : List Ck) (fa : List He.Fa) (fn : List He.DefD) (K : PySem.W.Frag) (mg : Str → Option Value) : Prop where
  ex : ∃ h : Heap, K.In h ∧ h.Ns mainGlobals mg ∧ SaysX cks fa fn K
section
variable {cks : List Ck} {fa : List He.Fa} {fn : List He.DefD} {K : PySem.W.Frag} {mg : Str → Option Value}
theorem Tp.fact (T : Tp cks fa fn K mg) (i : Nat) {f : He.Fa} (h : fa[i]? = some f) : f.ok K = true := by
  obtain ⟨_, _, _, c⟩ := T.ex
  exact c.d.1.fact i h
theorem Tp.ck (T : Tp cks fa fn K mg) (i : Nat) {f : Ck} (h : cks[i]? = some f) : f K = true := by
  obtain ⟨_, _, _, c⟩ := T.ex
  exact c.d.2 i h
theorem Tp.glo (T : Tp cks fa fn K mg) (i : Nat) {x : Str} (h : fa[i]? = some (.glo x)) : mg x = some (.ref (He.ga K x)) := by
  obtain ⟨_, X, G, c⟩ := T.ex
  exact He.glo_ok X G (c.d.1.fact i h)
theorem Tp.free (T : Tp cks fa fn K mg) (i : Nat) {x : Str} (h : fa[i]? = some (.free x)) : mg x = none := by
  obtain ⟨_, X, G, c⟩ := T.ex
  exact He.free_ok X G (c.d.1.fact i h)
theorem Tp.isx (T : Tp cks fa fn K mg) (i : Nat) {l : List (Nat × Bool)} {cs : List (Bool × Str × String)} (h : cks[i]? = some (isxB l cs)) : IsxOk K mg (cs.map (cvOf K)) (mOf l) := by
  obtain ⟨_, X, G, c⟩ := T.ex
  exact isx_ok X G (c.d.2 i h)
theorem Tp.exm (T : Tp cks fa fn K mg) (i : Nat) {l : List (Nat × Bool)} {c : Bool × Str × String} (h : cks[i]? = some (exmB l c)) : ExmOk K mg (cvOf K c) (mOf l) := by
  obtain ⟨_, X, G, c⟩ := T.ex
  exact exm_ok X G (c.d.2 i h)
theorem Tp.int (T : Tp cks fa fn K mg) (i : Nat) {x : Str} {n : Int} (h : fa[i]? = some (.int x n)) : ∃ t, mg x = some (.int n t) := by
  obtain ⟨_, X, G, c⟩ := T.ex
  exact He.int_ok X G (c.d.1.fact i h)
theorem Tp.str (T : Tp cks fa fn K mg) (i : Nat) {x z : Str} (h : fa[i]? = some (.str x z)) : ∃ t, mg x = some (.str z t) := by
  obtain ⟨_, X, G, c⟩ := T.ex
  exact He.str_ok X G (c.d.1.fact i h)
theorem Tp.def_ (T : Tp cks fa fn K mg) (i : Nat) {d : He.DefD} (h : fn[i]? = some d) : ∃ fd, FunD K d.name d.qual d.params d.body d.scope (d.dvs K) (d.kws K) (He.fAd K d.at_) fd := by
  obtain ⟨_, X, G, c⟩ := T.ex
  exact c.d.1.def_ i h
/-- a class: cls, then its noat for the seven fields -/
theorem Tp.clsOk (T : Tp cks fa fn K mg) (i : Nat) {c : Nat} {x : Str} (hx : x = clsS c) (j : Nat) (h1 : fa[i]? = some (.glo x)) (h2 : fa[j]? = some (.cls x)) (h3 : (fa.drop (j + 1)).take 7 = (List.range 7).map fun f => .noat x (fldS f)) : ClsOk K mg c := by
  subst hx
  refine ⟨_, T.glo i h1, He.cls_ok (T.fact j h2), fun f => He.noat_ok (T.fact (j + 1 + f.val) ?_)⟩
  have e : ((fa.drop (j + 1)).take 7)[f.val]? = some (.noat (clsS c) (fldS f.val)) := by
    rw [h3, List.getElem?_map, List.getElem?_range f.isLt]
    rfl
  rw [List.getElem?_take_of_lt f.isLt, List.getElem?_drop] at e
  exact e
theorem fldNo_by {m : Str} (h : ((List.range 7).all fun f => !(fldS f == m)) = true) : fldNo m := fun f e => by
  have := List.all_eq_true.mp h f.val (List.mem_range.mpr f.isLt)
  rw [e] at this
  simp at this
end
end AL

/-! AL16: more words. -/
namespace AL
open PySem PySem.Spec L2 PyProof.Rows
def sBrk : SS := fun ro M => .bk ro M
def sCnt : SS := fun ro M => .ct ro M
theorem ds_brk {X : Cx} {W : WX} {pos : Pos} : PS X (.Break pos) (tS X.K X.mg W sBrk) := PS.imp ps_break fun D σ H ⟨F, io, ro, M, er, mr, p⟩ => p F io σ H Ext.refl er mr
theorem ds_cnt {X : Cx} {W : WX} {pos : Pos} : PS X (.Continue pos) (tS X.K X.mg W sCnt) := PS.imp ps_continue fun D σ H ⟨F, io, ro, M, er, mr, p⟩ => p F io σ H Ext.refl er mr
end AL

/-! AL17: the combinators evaluated. -/
namespace AL
open PySem PySem.Spec L2 PyProof.Rows
section
variable {α β : Type} {a b c x y : A} {M M1 : Mem} {ro : Ro} {i : Nat} {fa fb fc : SE} {ga : SA} {ta tb : ST} {f g h : SS}
@[simp] theorem r_ok {a : α} {f : α → Mem → R β} : (R.ok a M).bind f = f a M := rfl
@[simp] theorem r_err {c : Nat} {f : α → Mem → R β} : (R.err c M).bind f = .err c M := rfl
@[simp] theorem r_stuck {f : α → Mem → R β} : (R.stuck).bind f = .stuck := rfl
@[simp] theorem rn_ok {a : α} {f : α → Mem → R β} : (R.ok a M).bindN f = f a M := rfl
@[simp] theorem fl_ok {a : α} {k : α → Mem → Fl} : Fl.of (R.ok a M) ro k = k a M := rfl
@[simp] theorem fl_err {c : Nat} {k : α → Mem → Fl} : Fl.of (R.err c M) ro k = .er c ro M := rfl
@[simp] theorem v_var : eVar i ro M = (match ro[i]? with | some (some a) => .ok a M | _ => .stuck) := rfl
@[simp] theorem v_C : eC a ro M = .ok a M := rfl
@[simp] theorem v_e1 {f : A → Mem → R A} : e1 f fa ro M = (fa ro M).bind f := rfl
@[simp] theorem v_e2 {f : A → A → Mem → R A} : e2 f fa fb ro M = (fa ro M).bind fun x M1 => (fb ro M1).bind fun y M2 => f x y M2 := rfl
@[simp] theorem v_nil : aNil ro M = .ok [] M := rfl
@[simp] theorem v_cons : aCons fa ga ro M = (fa ro M).bind fun x M1 => (ga ro M1).bind fun xs M2 => .ok (x :: xs) M2 := rfl
@[simp] theorem v_A {f : List A → Mem → R A} : eA f ga ro M = (ga ro M).bind f := rfl
@[simp] theorem v_V : tV fa ro M = (fa ro M).bind tru := rfl
@[simp] theorem v_B : tB fa ro M = (fa ro M).bind truB := rfl
@[simp] theorem v_truB {b : Bool} : truB (.bl b) M = .ok b M := rfl
@[simp] theorem v_tru_bl {b : Bool} : tru (.bl b) M = .ok b M := rfl
@[simp] theorem v_tru_int {b : Int} : tru (.int b) M = .ok (b != 0) M := rfl
@[simp] theorem v_tru_non : tru .non M = .ok false M := rfl
@[simp] theorem v_tru_lst {xs : List A} : tru (.lst xs) M = .ok (!xs.isEmpty) M := rfl
@[simp] theorem v_tru_tup {xs : List A} : tru (.tup xs) M = .ok (!xs.isEmpty) M := rfl
@[simp] theorem v_tAnd : tAnd ta tb ro M = (ta ro M).bind fun k M1 => match k with | true => tb ro M1 | false => .ok false M1 := rfl
@[simp] theorem v_tOr : tOr ta tb ro M = (ta ro M).bind fun k M1 => match k with | true => .ok true M1 | false => tb ro M1 := rfl
@[simp] theorem v_tNot : tNot ta ro M = (ta ro M).bind fun k M1 => .ok (!k) M1 := rfl
@[simp] theorem v_eAnd : eAnd fa fb ro M = (fa ro M).bind fun x M1 => (tru x M1).bind fun k M2 => match k with | true => fb ro M2 | false => .ok x M2 := rfl
@[simp] theorem v_eOr : eOr fa fb ro M = (fa ro M).bind fun x M1 => (tru x M1).bind fun k M2 => match k with | true => .ok x M2 | false => fb ro M2 := rfl
@[simp] theorem v_eNot : eNot fa ro M = (fa ro M).bind fun x M1 => (tru x M1).bind fun k M2 => .ok (.bl (!k)) M2 := rfl
@[simp] theorem v_chain {f g : A → A → Mem → R A} : eChain f g fa fb fc ro M = (fa ro M).bind fun x M1 => (fb ro M1).bind fun y M2 => (f x y M2).bind fun z M3 => (truB z M3).bind fun k M4 => match k with
  | true => (fc ro M4).bind fun w M5 => g y w M5
  | false => .ok (.bl false) M4 := rfl
@[simp] theorem v_lst {fz : Bool} : eLst fz ga ro M = (ga ro M).bind (mkL fz) := rfl
@[simp] theorem v_tup : eTup ga ro M = (ga ro M).bind mkT := rfl
@[simp] theorem v_frz : eFrz fa ro M = (fa ro M).bind frz := rfl
@[simp] theorem v_next : sNext ro M = .nx ro M := rfl
@[simp] theorem v_seq : sSeq f g ro M = (match f ro M with | .nx ro' M' => g ro' M' | e => e) := rfl
@[simp] theorem v_set : sSet i fa ro M = Fl.of (fa ro M) ro fun a M1 => .nx (ro.set i (some a)) M1 := rfl
@[simp] theorem v_expr : sExpr fa ro M = Fl.of (fa ro M) ro fun _ M1 => .nx ro M1 := rfl
@[simp] theorem v_ret : sRet fa ro M = Fl.of (fa ro M) ro fun a M1 => .rt a M1 := rfl
@[simp] theorem v_retN : sRetN ro M = .rt .non M := rfl
@[simp] theorem v_if : sIf ta f g ro M = Fl.of (ta ro M) ro fun k M1 => match k with | true => f ro M1 | false => g ro M1 := rfl
@[simp] theorem v_raise {c : Nat} : sRaise c ro M = .er c ro M := rfl
@[simp] theorem v_asg {g : SG} : sAsg g fa ro M = Fl.of (fa ro M) ro fun a M1 => match g a ro M1 with | some (ro2, M2) => .nx ro2 M2 | none => .stuck := rfl
@[simp] theorem v_gNm : gNm i a ro M = some (ro.set i (some a), M) := rfl
@[simp] theorem v_gsNil {ro : Ro} : gsNil [] ro M = some (ro, M) := rfl
@[simp] theorem v_gsCons {g : SG} {r : SGs} {as : List A} : gsCons g r (a :: as) ro M = (match g a ro M with | some (ro1, M1) => r as ro1 M1 | none => none) := rfl
@[simp] theorem v_gTp {n : Nat} {g : SGs} {xs : List A} : gTp n g (.tup xs) ro M = if xs.length = n then g xs ro M else none := rfl
@[simp] theorem v_gIx {fo fi : SE} : gIx fo fi a ro M = (match fo ro M with
  | .ok o M1 => match fi ro M1 with
    | .ok i M2 => match setIx o i a M2 with
      | some M3 => some (ro, M3)
      | none => none
    | _ => none
  | _ => none) := rfl
theorem v_for {fi : SI} {g : SG} {b : SS} : sFor fi g b ro M = Fl.of (fi ro M) ro fun ai M1 => forGo ai g b ai.xs ro M1 := rfl
@[simp] theorem v_cut {fz : Bool} {lo hi : SO} : eCut fz fa lo hi ro M = (fa ro M).bind fun x M1 => (lo ro M1).bind fun l M2 => (hi ro M2).bind fun u M3 => vCut fz x l u M3 := rfl
@[simp] theorem v_oNo : oNo ro M = .ok none M := rfl
@[simp] theorem v_oSome : oSome fa ro M = (fa ro M).bind fun a M1 => match a with | .int i => .ok (some i) M1 | _ => .stuck := rfl
@[simp] theorem v_eM {c : Nat} {sem : List A → Mem → R A} {fo : SE} : eM c sem fo ga ro M = (fo ro M).bind fun o M1 => if isInsOf c M1 o = true then (ga ro M1).bind fun as M2 => sem (o :: as) M2 else .stuck := rfl
@[simp] theorem v_eMk {c : Nat} {sem : List A → Mem → R A} : eMk c sem ga ro M = (ga ro M).bind (mkSem c sem) := rfl
@[simp] theorem v_eBm {f : A → List A → Mem → R A} {fo : SE} : eBm f fo ga ro M = (fo ro M).bind fun a M1 => match asL M1 a with
  | some _ => (ga ro M1).bind fun as M2 => f a as M2
  | none => .stuck := rfl
theorem v_lc {fz : Bool} {fi : SI} {c : CT} {t : ST} {e : SE} {vs : List Nat} : eLc fz fi c t e vs ro M = (fi ro M).bind fun ai M1 => (lcGo ai c t e (wipeA ro vs) ai.xs [] M1).bind fun acc M2 => mkL fz acc M2 := rfl
end
/-! operators -/
section
variable {M : Mem} {i j : Int}
@[simp] theorem w_sub : vSub (.int i) (.int j) M = .ok (.int (i - j)) M := rfl
@[simp] theorem w_and : vAnd (.int i) (.int j) M = .ok (.int (Builtin.bitAnd i j)) M := rfl
@[simp] theorem w_xor : vXor (.int i) (.int j) M = .ok (.int (Builtin.bitXor i j)) M := rfl
theorem w_mod (h : 0 < j) : vMod (.int i) (.int j) M = .ok (.int (i % j)) M := by simp [opI, h]
theorem w_fdiv (h : 0 < j) (h2 : j.natAbs.log2 < 9000) : vFdiv (.int i) (.int j) M = .ok (.int (i / j)) M := by simp [opI, h, h2]
theorem w_pow (h : 0 ≤ j) (h2 : j ≤ 1000000) (h3 : i.natAbs < 2 ^ 64) : vPow (.int i) (.int j) M = .ok (.int (i ^ j.toNat)) M := by simp [opI, h, h2, h3]
theorem w_shl (h : 0 ≤ j) (h2 : j ≤ 1000000) (h3 : i.natAbs < 2 ^ 64) : vShl (.int i) (.int j) M = .ok (.int (i * 2 ^ j.toNat)) M := by simp [opI, h, h2, h3]
theorem w_shr (h : 0 ≤ j) : vShr (.int i) (.int j) M = .ok (.int (i / 2 ^ j.toNat)) M := by simp [opI, h]
@[simp] theorem w_add {fz : Bool} : vAdd fz (.int i) (.int j) M = .ok (.int (i + j)) M := rfl
theorem w_mul {fz : Bool} (h : i.natAbs < 2 ^ 64 ∨ j.natAbs < 2 ^ 64) : vMul fz (.int i) (.int j) M = .ok (.int (i * j)) M := by
  have : mulOk i j = true := by
    unfold mulOk
    simp only [Bool.or_eq_true, decide_eq_true_eq]
    rcases h with h | h
    · exact .inl h
    · exact .inr (.inl h)
  simp [vMul, this]
@[simp] theorem w_lt : vLt (.int i) (.int j) M = .ok (.bl (decide (i < j))) M := rfl
@[simp] theorem w_le : vLe (.int i) (.int j) M = .ok (.bl (decide (i ≤ j))) M := rfl
@[simp] theorem w_gt : vGt (.int i) (.int j) M = .ok (.bl (decide (j < i))) M := rfl
@[simp] theorem w_ge : vGe (.int i) (.int j) M = .ok (.bl (decide (j ≤ i))) M := rfl
@[simp] theorem w_neg : vNeg (.int i) M = .ok (.int (-i)) M := rfl
@[simp] theorem w_isN {a : A} : vIsN a .non M = .ok (.bl (isNon a)) M := rfl
@[simp] theorem w_notN {a : A} : vNotN a .non M = .ok (.bl (!isNon a)) M := rfl
@[simp] theorem w_int : vInt [.int i] M = .ok (.int i) M := rfl
@[simp] theorem w_intb {b : Bool} : vInt [.bl b] M = .ok (.int (if b then 1 else 0)) M := rfl
@[simp] theorem w_I2 {g : Int → Int → Int} : vI2 g [.int i, .int j] M = .ok (.int (g i j)) M := rfl
theorem w_mkT {xs : List A} (h : xs.length ≤ 64) : mkT xs M = .ok (.tup xs) M := by
  unfold mkT
  rw [if_pos (Nat.le_trans h (by rw [sizeLine_eq]; decide))]
theorem w_mkLt {xs : List A} (h : xs.length ≤ 4096) : mkL true xs M = .ok (.lst xs) M := by
  unfold mkL
  rw [if_pos (Nat.le_trans h (by rw [sizeLine_eq]; decide))]
theorem w_mkLf {xs : List A} (h : xs.length ≤ 4096) : mkL false xs M = .ok (.loc M.length) (M ++ [.lst xs]) := by
  unfold mkL
  rw [if_pos (Nat.le_trans h (by rw [sizeLine_eq]; decide))]
end
end AL

/-! AL18: loops, comprehensions, ends of defs: what they come to. -/
namespace AL
open PySem PySem.Spec L2 PyProof.Rows
/-! ### the end of a def -/
theorem exit_ok {M M' : Mem} {a : A} (h : SameOrB M M') (hb : bnd M.length a = true) : exit M (.ok a M') = .ok a (M'.take M.length) := by
  unfold AL.exit
  simp only
  rw [if_pos h, if_pos hb]
theorem take_same {M M' : Mem} (h : ∀ i, i < M.length → M'[i]? = M[i]?) : M'.take M.length = M := by
  apply List.ext_getElem?
  intro i
  by_cases hi : i < M.length
  · rw [List.getElem?_take_of_lt hi, h i hi]
  · rw [List.getElem?_eq_none (by simp; omega), List.getElem?_eq_none (by omega)]
theorem exit_same {M M' : Mem} {a : A} (h : ∀ i, i < M.length → M'[i]? = M[i]?) (hb : bnd M.length a = true) : exit M (.ok a M') = .ok a M := by
  rw [exit_ok (fun i hi => .inl (h i hi)) hb, take_same h]
theorem exit_pure {M : Mem} {a : A} (hb : bnd M.length a = true) : exit M (.ok a M) = .ok a M := exit_same (fun _ _ => rfl) hb
theorem exit_app {M E : Mem} {a : A} (hb : bnd M.length a = true) : exit M (.ok a (M ++ E)) = .ok a M := exit_same (fun i hi => List.getElem?_append_left hi) hb
theorem exit_set {M : Mem} {n : Nat} {o : MO} {a : A} (ho : bndM M.length o) (hb : bnd M.length a = true) : exit M (.ok a (M.set n o)) = .ok a (M.set n o) := by
  rw [exit_ok (fun i hi => ?_) hb, List.take_of_length_le (by simp)]
  by_cases e : i = n
  · subst e
    exact .inr ⟨o, List.getElem?_set_self hi, ho⟩
  · exact .inl (List.getElem?_set_ne (Ne.symm e))
theorem exit_set2 {M : Mem} {n n2 : Nat} {o o2 : MO} {a : A} (ho : bndM M.length o) (ho2 : bndM M.length o2) (hb : bnd M.length a = true) : exit M (.ok a ((M.set n o).set n2 o2)) = .ok a ((M.set n o).set n2 o2) := by
  rw [exit_ok (fun i hi => ?_) hb, List.take_of_length_le (by simp)]
  by_cases e : i = n2
  · subst e
    exact .inr ⟨o2, List.getElem?_set_self (by simpa using hi), ho2⟩
  · rw [List.getElem?_set_ne (Ne.symm e)]
    by_cases e : i = n
    · subst e
      exact .inr ⟨o, List.getElem?_set_self hi, ho⟩
    · exact .inl (List.getElem?_set_ne (Ne.symm e))
theorem exit_new {M E : Mem} {o : MO} (ho : bndM M.length o) (hg : o ≠ .gone) : exit M (.ok (.loc M.length) (M ++ o :: E)) = .ok (.loc M.length) (M ++ [o]) := by
  unfold AL.exit
  simp only
  have hs : SameOrB M (M ++ o :: E) := fun i hi => .inl (List.getElem?_append_left hi)
  have hb : bnd M.length (.loc M.length) = false := by simp [bnd]
  rw [if_pos hs, hb]
  simp [ho, hg]
theorem exit_err {M M' : Mem} {c : Nat} (h : SameOrB M M') : exit M (.err c M') = .err c (M'.take M.length) := by
  unfold AL.exit
  simp only
  rw [if_pos h]
theorem exit_err_pure {M : Mem} {c : Nat} : exit M (.err c M) = .err c M := by
  rw [exit_err (fun _ _ => .inl rfl), List.take_of_length_le (Nat.le_refl _)]
theorem def_of {n np : Nat} {b : SS} {as : List A} {M : Mem} (h : as.length = np) : defSem n np b as M = exit M (fin (b (start0 n as) M)) := by
  unfold defSem
  rw [if_pos h]
theorem bnds_ints {k : Nat} : ∀ ns : List Int, bnds k (ns.map A.int) = true
  | [] => rfl
  | n :: r => by simp [bnds, bnd, bnds_ints r]
theorem bnds_all {k : Nat} : ∀ {xs : List A}, (∀ x ∈ xs, bnd k x = true) → bnds k xs = true
  | [], _ => rfl
  | x :: r, h => by simp [bnds, h x List.mem_cons_self, bnds_all (xs := r) fun y hy => h y (List.mem_cons_of_mem _ hy)]
/-! ### loops -/
theorem forGo_from {ai : AI} {g : SG} {b : SS} (P : Nat → Ro → Mem → Prop) (Out : Fl → Prop) (lv : ∀ k ro M, k ≤ ai.xs.length → P k ro M → live M ai)
    (step : ∀ k x ro M, ai.xs[k]? = some x → P k ro M → ∃ ro1 M1, g x ro M = some (ro1, M1) ∧ ((∃ ro2 M2, (b ro1 M1 = .nx ro2 M2 ∨ b ro1 M1 = .ct ro2 M2) ∧ P (k + 1) ro2 M2) ∨ (∃ ro2 M2, b ro1 M1 = .bk ro2 M2 ∧ Out (.nx ro2 M2)) ∨ (∃ a M2, b ro1 M1 = .rt a M2 ∧ Out (.rt a M2)) ∨ ∃ c ro2 M2, b ro1 M1 = .er c ro2 M2 ∧ Out (.er c ro2 M2))) :
    ∀ (n k : Nat) (ro : Ro) (M : Mem), n + k = ai.xs.length → P k ro M → (∃ ro' M', forGo ai g b (ai.xs.drop k) ro M = .nx ro' M' ∧ P ai.xs.length ro' M') ∨ ∃ f, forGo ai g b (ai.xs.drop k) ro M = f ∧ Out f := by
  intro n
  induction n with
  | zero =>
    intro k ro M hk hp
    have : k = ai.xs.length := by omega
    subst this
    rw [List.drop_length, forGo, if_pos (lv _ ro M (Nat.le_refl _) hp)]
    exact .inl ⟨ro, M, rfl, hp⟩
  | succ n ih =>
    intro k ro M hk hp
    have hl : k < ai.xs.length := by omega
    rw [List.drop_eq_getElem_cons hl, forGo, if_pos (lv _ ro M (by omega) hp)]
    obtain ⟨ro1, M1, e1, h⟩ := step k ai.xs[k] ro M (by simp [hl]) hp
    rw [e1]
    simp only
    rcases h with ⟨ro2, M2, e2 | e2, hp2⟩ | ⟨ro2, M2, e2, ho⟩ | ⟨a, M2, e2, ho⟩ | ⟨c, ro2, M2, e2, ho⟩
    · rw [e2]; exact ih (k + 1) ro2 M2 (by omega) hp2
    · rw [e2]; exact ih (k + 1) ro2 M2 (by omega) hp2
    · rw [e2]; exact .inr ⟨_, rfl, ho⟩
    · rw [e2]; exact .inr ⟨_, rfl, ho⟩
    · rw [e2]; exact .inr ⟨_, rfl, ho⟩
theorem forGo_out {ai : AI} {g : SG} {b : SS} (P : Nat → Ro → Mem → Prop) (Out : Fl → Prop) (lv : ∀ k ro M, k ≤ ai.xs.length → P k ro M → live M ai)
    (step : ∀ k x ro M, ai.xs[k]? = some x → P k ro M → ∃ ro1 M1, g x ro M = some (ro1, M1) ∧ ((∃ ro2 M2, (b ro1 M1 = .nx ro2 M2 ∨ b ro1 M1 = .ct ro2 M2) ∧ P (k + 1) ro2 M2) ∨ (∃ ro2 M2, b ro1 M1 = .bk ro2 M2 ∧ Out (.nx ro2 M2)) ∨ (∃ a M2, b ro1 M1 = .rt a M2 ∧ Out (.rt a M2)) ∨ ∃ c ro2 M2, b ro1 M1 = .er c ro2 M2 ∧ Out (.er c ro2 M2)))
    (ro : Ro) (M : Mem) (hp : P 0 ro M) : (∃ ro' M', forGo ai g b ai.xs ro M = .nx ro' M' ∧ P ai.xs.length ro' M') ∨ ∃ f, forGo ai g b ai.xs ro M = f ∧ Out f := by
  have := forGo_from P Out lv step ai.xs.length 0 ro M (by omega) hp
  simpa using this
theorem forGo_all {ai : AI} {g : SG} {b : SS} (P : Nat → Ro → Mem → Prop) (lv : ∀ k ro M, k ≤ ai.xs.length → P k ro M → live M ai)
    (step : ∀ k x ro M, ai.xs[k]? = some x → P k ro M → ∃ ro1 M1 ro2 M2, g x ro M = some (ro1, M1) ∧ (b ro1 M1 = .nx ro2 M2 ∨ b ro1 M1 = .ct ro2 M2) ∧ P (k + 1) ro2 M2)
    (ro : Ro) (M : Mem) (hp : P 0 ro M) : ∃ ro' M', forGo ai g b ai.xs ro M = .nx ro' M' ∧ P ai.xs.length ro' M' := by
  rcases forGo_out P (fun _ => False) lv (fun k x ro M h1 h2 => by
    obtain ⟨ro1, M1, ro2, M2, e1, e2, e3⟩ := step k x ro M h1 h2
    exact ⟨ro1, M1, e1, .inl ⟨ro2, M2, e2, e3⟩⟩) ro M hp with h | ⟨_, _, h⟩
  · exact h
  · exact h.elim
/-- while, by a measure -/
theorem whGo_inv {t : ST} {b : SS} (P : Nat → Ro → Mem → Prop) (Out : Fl → Prop) (hO : ∀ f, Out f → f ≠ .stuck)
    (step : ∀ n ro M, P n ro M → (∃ M1, t ro M = .ok false M1 ∧ Out (.nx ro M1)) ∨ (∃ M1, t ro M = .ok true M1 ∧ ((∃ k ro2 M2, k < n ∧ (b ro M1 = .nx ro2 M2 ∨ b ro M1 = .ct ro2 M2) ∧ P k ro2 M2) ∨ (∃ ro2 M2, b ro M1 = .bk ro2 M2 ∧ Out (.nx ro2 M2)) ∨ (∃ a M2, b ro M1 = .rt a M2 ∧ Out (.rt a M2)) ∨ ∃ c ro2 M2, b ro M1 = .er c ro2 M2 ∧ Out (.er c ro2 M2)))) :
    ∀ (n : Nat) (ro : Ro) (M : Mem), P n ro M → ∃ f, whGo t b (n + 1) ro M = f ∧ Out f := by
  intro n
  induction n using Nat.strongRecOn with
  | ind n ih =>
    intro ro M hp
    rw [whGo]
    rcases step n ro M hp with ⟨M1, e, ho⟩ | ⟨M1, e, h⟩
    · rw [e]; exact ⟨_, rfl, ho⟩
    · rw [e]
      simp only [fl_ok]
      rcases h with ⟨k, ro2, M2, hk, e2 | e2, hp2⟩ | ⟨ro2, M2, e2, ho⟩ | ⟨a, M2, e2, ho⟩ | ⟨c, ro2, M2, e2, ho⟩
      · rw [e2]
        obtain ⟨f, hf, hof⟩ := ih k hk ro2 M2 hp2
        refine ⟨f, ?_, hof⟩
        have := whGo_le (n := k + 1) (t := t) (b := b) (ro := ro2) (M := M2) (by rw [hf]; exact hO f hof) (n - (k + 1))
        rw [show k + 1 + (n - (k + 1)) = n by omega] at this
        exact this.trans hf
      · rw [e2]
        obtain ⟨f, hf, hof⟩ := ih k hk ro2 M2 hp2
        refine ⟨f, ?_, hof⟩
        have := whGo_le (n := k + 1) (t := t) (b := b) (ro := ro2) (M := M2) (by rw [hf]; exact hO f hof) (n - (k + 1))
        rw [show k + 1 + (n - (k + 1)) = n by omega] at this
        exact this.trans hf
      · rw [e2]; exact ⟨_, rfl, ho⟩
      · rw [e2]; exact ⟨_, rfl, ho⟩
      · rw [e2]; exact ⟨_, rfl, ho⟩
theorem sWhile_inv {t : ST} {b : SS} (P : Nat → Ro → Mem → Prop) (Out : Fl → Prop) (hO : ∀ f, Out f → f ≠ .stuck)
    (step : ∀ n ro M, P n ro M → (∃ M1, t ro M = .ok false M1 ∧ Out (.nx ro M1)) ∨ (∃ M1, t ro M = .ok true M1 ∧ ((∃ k ro2 M2, k < n ∧ (b ro M1 = .nx ro2 M2 ∨ b ro M1 = .ct ro2 M2) ∧ P k ro2 M2) ∨ (∃ ro2 M2, b ro M1 = .bk ro2 M2 ∧ Out (.nx ro2 M2)) ∨ (∃ a M2, b ro M1 = .rt a M2 ∧ Out (.rt a M2)) ∨ ∃ c ro2 M2, b ro M1 = .er c ro2 M2 ∧ Out (.er c ro2 M2))))
    (n : Nat) (ro : Ro) (M : Mem) (hp : P n ro M) : ∃ f, sWhile t b ro M = f ∧ Out f := by
  obtain ⟨f, hf, ho⟩ := whGo_inv P Out hO step n ro M hp
  exact ⟨f, sWhile_of hf (hO f ho), ho⟩
/-! ### comprehensions -/
theorem lcGo_from {ai : AI} {c : CT} {t : ST} {e : SE} {ro : Ro} (P : Nat → List A → Mem → Prop) (hz : ai.xs.length ≤ 4096) (lv : ∀ k acc M, k ≤ ai.xs.length → P k acc M → live M ai)
    (step : ∀ k x acc M, ai.xs[k]? = some x → P k acc M → ∃ ro1 b M1, c.bind x ro = some ro1 ∧ t ro1 M = .ok b M1 ∧ ((b = false ∧ P (k + 1) acc M1) ∨ (b = true ∧ ∃ y M2, e ro1 M1 = .ok y M2 ∧ P (k + 1) (acc ++ [y]) M2))) :
    ∀ (n k : Nat) (acc : List A) (M : Mem), n + k = ai.xs.length → acc.length ≤ k → P k acc M → ∃ acc' M', lcGo ai c t e ro (ai.xs.drop k) acc M = .ok acc' M' ∧ P ai.xs.length acc' M' ∧ acc'.length ≤ ai.xs.length := by
  have hs : ai.xs.length < sizeLine := by rw [sizeLine_eq]; omega
  intro n
  induction n with
  | zero =>
    intro k acc M hk ha hp
    have : k = ai.xs.length := by omega
    subst this
    rw [List.drop_length, lcGo, if_pos (lv _ acc M (Nat.le_refl _) hp)]
    exact ⟨acc, M, rfl, hp, ha⟩
  | succ n ih =>
    intro k acc M hk ha hp
    have hl : k < ai.xs.length := by omega
    rw [List.drop_eq_getElem_cons hl, lcGo, if_pos (lv _ acc M (by omega) hp)]
    obtain ⟨ro1, b, M1, e1, e2, h⟩ := step k ai.xs[k] acc M (by simp [hl]) hp
    rw [e1]
    simp only
    rw [e2]
    rcases h with ⟨rfl, hp2⟩ | ⟨rfl, y, M2, e3, hp2⟩
    · exact ih (k + 1) acc M1 (by omega) (by omega) hp2
    · simp only [rn_ok]
      rw [e3]
      simp only [rn_ok]
      rw [if_pos (by omega)]
      exact ih (k + 1) (acc ++ [y]) M2 (by omega) (by simp; omega) hp2
theorem lcGo_inv {ai : AI} {c : CT} {t : ST} {e : SE} {ro : Ro} (P : Nat → List A → Mem → Prop) (hz : ai.xs.length ≤ 4096) (lv : ∀ k acc M, k ≤ ai.xs.length → P k acc M → live M ai)
    (step : ∀ k x acc M, ai.xs[k]? = some x → P k acc M → ∃ ro1 b M1, c.bind x ro = some ro1 ∧ t ro1 M = .ok b M1 ∧ ((b = false ∧ P (k + 1) acc M1) ∨ (b = true ∧ ∃ y M2, e ro1 M1 = .ok y M2 ∧ P (k + 1) (acc ++ [y]) M2)))
    {M : Mem} (hp : P 0 [] M) : ∃ acc' M', lcGo ai c t e ro ai.xs [] M = .ok acc' M' ∧ P ai.xs.length acc' M' ∧ acc'.length ≤ ai.xs.length := by
  have := lcGo_from (ro := ro) P hz lv step ai.xs.length 0 [] M (by omega) (by simp) hp
  simpa using this
/-- nothing changes: a filter and a map -/
theorem lcGo_pure {ai : AI} {c : CT} {t : ST} {e : SE} {ro : Ro} {M : Mem} (p : A → Bool) (f : A → A) (hz : ai.xs.length ≤ 4096) (lv : live M ai)
    (step : ∀ x ∈ ai.xs, ∃ ro1, c.bind x ro = some ro1 ∧ t ro1 M = .ok (p x) M ∧ (p x = true → e ro1 M = .ok (f x) M)) : lcGo ai c t e ro ai.xs [] M = .ok ((ai.xs.filter p).map f) M := by
  obtain ⟨acc, M', h1, ⟨rfl, h2⟩, _⟩ := lcGo_inv (ai := ai) (c := c) (t := t) (e := e) (ro := ro) (fun k acc M' => M' = M ∧ acc = ((ai.xs.take k).filter p).map f) hz (fun k acc M' _ h => by rw [h.1]; exact lv) (fun k x acc M' hx h => by
    obtain ⟨rfl, rfl⟩ := h
    obtain ⟨ro1, e1, e2, e3⟩ := step x (List.mem_of_getElem? hx)
    refine ⟨ro1, p x, M', e1, e2, ?_⟩
    rw [List.take_add_one, hx, List.filter_append, List.map_append]
    cases hp : p x with
    | false => exact .inl ⟨rfl, rfl, by simp [hp]⟩
    | true => exact .inr ⟨rfl, f x, M', e3 hp, rfl, by simp [hp]⟩) (M := M) ⟨rfl, by simp⟩
  rw [h1, h2, List.take_length]
/-- nothing changes, all are kept: a map -/
theorem lcGo_map {ai : AI} {c : CT} {t : ST} {e : SE} {ro : Ro} {M : Mem} (f : A → A) (hz : ai.xs.length ≤ 4096) (lv : live M ai)
    (step : ∀ x ∈ ai.xs, ∃ ro1, c.bind x ro = some ro1 ∧ t ro1 M = .ok true M ∧ e ro1 M = .ok (f x) M) : lcGo ai c t e ro ai.xs [] M = .ok (ai.xs.map f) M := by
  have := lcGo_pure (ai := ai) (c := c) (t := t) (e := e) (ro := ro) (M := M) (fun _ => true) f hz lv (fun x hx => by
    obtain ⟨ro1, h1, h2, h3⟩ := step x hx
    exact ⟨ro1, h1, h2, fun _ => h3⟩)
  rw [this, List.filter_eq_self.mpr (fun _ _ => rfl)]
/-! ### things of a list -/
theorem atI_nat {xs : List A} {i : Int} (h0 : 0 ≤ i) : atI xs i = xs[i.toNat]? := by
  unfold atI ixN
  rw [if_pos h0]
  by_cases h : i < xs.length
  · rw [if_pos h]; rfl
  · rw [if_neg h, List.getElem?_eq_none (by omega)]; rfl
theorem vIx_of {M : Mem} {a b : A} {xs : List A} {i : Int} (h : asS M a = some xs) (h0 : 0 ≤ i) (e : xs[i.toNat]? = some b) : vIx a (.int i) M = .ok b M := by
  have h1 : atI xs i = some b := by rw [atI_nat h0, e]
  cases a with
  | tup ys => cases h; simp [vIx, h1]
  | str z => cases h
  | _ => (simp only [asS] at h; simp [vIx, h, h1])
theorem setIx_of {M : Mem} {n : Nat} {xs : List A} {i : Int} {a : A} (h : M[n]? = some (.lst xs)) (h0 : 0 ≤ i) (h1 : i < xs.length) : setIx (.loc n) (.int i) a M = some (M.set n (.lst (xs.set i.toNat a))) := by
  unfold setIx
  simp only [h]
  unfold ixN
  rw [if_pos h0, if_pos h1]
theorem asL_loc {M : Mem} {n : Nat} {xs : List A} (h : M[n]? = some (.lst xs)) : asL M (.loc n) = some xs := by simp [asL, h]
theorem asL1_loc {M : Mem} {n : Nat} {xs : List A} (h : M[n]? = some (.lst xs)) : asL1 M (.loc n) = some xs := by simp [asL1, h]
theorem locL_loc {M : Mem} {n : Nat} {xs : List A} (h : M[n]? = some (.lst xs)) : locL M (.loc n) = some (n, xs) := by simp [locL, h]
end AL

/-! AL19: plain data: equality, membership. -/
namespace AL
open PySem PySem.Spec L2 PyProof.Rows
noncomputable instance : DecidableEq A := fun _ _ => Classical.propDecidable _
mutual
/-- none, ints, texts, lists and tuples of these, to a depth -/
def pl : Nat → A → Bool
  | _, .non => true
  | _, .int _ => true
  | _, .str x => PyData.strOk x
  | n + 1, .lst xs => pls n xs
  | n + 1, .tup xs => pls n xs
  | _, _ => false
def pls : Nat → List A → Bool
  | _, [] => true
  | n, a :: r => pl n a && pls n r
end
mutual
def pyA : A → PyData
  | .non => .none
  | .int i => .int i
  | .str x => .str x
  | .bl b => .bool b
  | .lst xs => .list (pyAs xs)
  | .tup xs => .tuple (pyAs xs)
  | _ => .none
def pyAs : List A → List PyData
  | [] => []
  | a :: r => pyA a :: pyAs r
end
mutual
theorem dat_pl (M : Mem) : ∀ (n : Nat) (a : A), pl n a = true → dat M n a = some (pyA a)
  | n, .non, _ => by cases n <;> simp [dat, pyA]
  | n, .int i, _ => by cases n <;> simp [dat, pyA]
  | n, .str x, _ => by cases n <;> simp [dat, pyA]
  | n + 1, .lst xs, h => by
    rw [pl] at h
    rw [dat, dats_pl M n xs h, pyA]; rfl
  | n + 1, .tup xs, h => by
    rw [pl] at h
    rw [dat, dats_pl M n xs h, pyA]; rfl
  | 0, .lst _, h => by simp [pl] at h
  | 0, .tup _, h => by simp [pl] at h
  | 0, .bl _, h => by simp [pl] at h
  | 0, .frz _, h => by simp [pl] at h
  | 0, .loc _, h => by simp [pl] at h
  | 0, .exc _, h => by simp [pl] at h
  | 0, .fn _, h => by simp [pl] at h
  | n + 1, .bl _, h => by simp [pl] at h
  | n + 1, .frz _, h => by simp [pl] at h
  | n + 1, .loc _, h => by simp [pl] at h
  | n + 1, .exc _, h => by simp [pl] at h
  | n + 1, .fn _, h => by simp [pl] at h
theorem dats_pl (M : Mem) : ∀ (n : Nat) (xs : List A), pls n xs = true → dats M n xs = some (pyAs xs)
  | n, [], _ => by rw [dats, pyAs]
  | n, a :: r, h => by
    rw [pls, Bool.and_eq_true] at h
    rw [dats, dat_pl M n a h.1, dats_pl M n r h.2, pyAs]
end
mutual
theorem lay_pl : ∀ (n : Nat) (a : A), pl n a = true → (pyA a).canLay0 = true ∧ (pyA a).depth ≤ n
  | n, .non, _ => by simp [pyA, PyData.canLay0, PyData.depth]
  | n, .int i, _ => by simp [pyA, PyData.canLay0, PyData.depth]
  | n, .str x, h => by
    have : PyData.strOk x = true := by cases n <;> simpa [pl] using h
    simp [pyA, PyData.canLay0, PyData.depth, this]
  | n + 1, .lst xs, h => by
    rw [pl] at h
    obtain ⟨h1, h2⟩ := lays_pl n xs h
    simp [pyA, PyData.canLay0, PyData.depth, h1]; omega
  | n + 1, .tup xs, h => by
    rw [pl] at h
    obtain ⟨h1, h2⟩ := lays_pl n xs h
    simp [pyA, PyData.canLay0, PyData.depth, h1]; omega
  | 0, .lst _, h => by simp [pl] at h
  | 0, .tup _, h => by simp [pl] at h
  | 0, .bl _, h => by simp [pl] at h
  | 0, .frz _, h => by simp [pl] at h
  | 0, .loc _, h => by simp [pl] at h
  | 0, .exc _, h => by simp [pl] at h
  | 0, .fn _, h => by simp [pl] at h
  | n + 1, .bl _, h => by simp [pl] at h
  | n + 1, .frz _, h => by simp [pl] at h
  | n + 1, .loc _, h => by simp [pl] at h
  | n + 1, .exc _, h => by simp [pl] at h
  | n + 1, .fn _, h => by simp [pl] at h
theorem lays_pl : ∀ (n : Nat) (xs : List A), pls n xs = true → PyData.canLayAll0 (pyAs xs) = true ∧ PyData.depthAll (pyAs xs) ≤ n
  | n, [], _ => by simp [pyAs, PyData.canLayAll0, PyData.depthAll]
  | n, a :: r, h => by
    rw [pls, Bool.and_eq_true] at h
    obtain ⟨h1, h2⟩ := lay_pl n a h.1
    obtain ⟨h3, h4⟩ := lays_pl n r h.2
    simp [pyAs, PyData.canLayAll0, PyData.depthAll, h1, h3]; omega
end
mutual
theorem eqv_pl : ∀ (n : Nat) (a b : A), pl n a = true → pl n b = true → (PyData.eqv (pyA a) (pyA b) = true ↔ a = b)
  | n, a, b, ha, hb => by
    cases n with
    | zero =>
      cases a <;> simp only [pl] at ha <;> first | (cases ha; done) | (cases b <;> simp only [pl] at hb <;> first | (cases hb; done) | simp [pyA, PyData.eqv])
    | succ n =>
      cases a <;> simp only [pl] at ha <;> first | (cases ha; done) | (cases b <;> simp only [pl] at hb <;> first | (cases hb; done) | (simp [pyA, PyData.eqv]; done) | (simp only [pyA, PyData.eqv]; rw [eqvs_pl n _ _ ha hb]; simp))
theorem eqvs_pl : ∀ (n : Nat) (a b : List A), pls n a = true → pls n b = true → (PyData.eqvAll (pyAs a) (pyAs b) = true ↔ a = b)
  | n, [], [], _, _ => by simp [pyAs, PyData.eqvAll]
  | n, [], _ :: _, _, _ => by simp [pyAs, PyData.eqvAll]
  | n, _ :: _, [], _, _ => by simp [pyAs, PyData.eqvAll]
  | n, a :: r, b :: q, ha, hb => by
    rw [pls, Bool.and_eq_true] at ha hb
    rw [pyAs, pyAs, PyData.eqvAll, Bool.and_eq_true, eqv_pl n a b ha.1 hb.1, eqvs_pl n r q ha.2 hb.2, List.cons.injEq]
end
theorem datC_pl (M : Mem) {a : A} (h : pl 8 a = true) : datC M a = some (pyA a) := by
  unfold datC
  obtain ⟨h1, h2⟩ := lay_pl 8 a h
  have : SeqAt.shaped (pyA a) = true := by
    unfold SeqAt.shaped
    rw [h1, Bool.true_and, decide_eq_true_eq]
    omega
  rw [dat_pl M 8 a h]
  simp only
  rw [if_pos this]
theorem datC_loc {M : Mem} {n : Nat} {xs : List A} (h : M[n]? = some (.lst xs)) : datC M (.loc n) = datC M (.lst xs) := by
  unfold datC
  rw [dat, dat, h]
theorem datC_frz {M : Mem} {xs : List A} : datC M (.frz xs) = datC M (.lst xs) := by
  unfold datC
  rw [dat, dat]
theorem eqv_dec {a b : A} (ha : pl 8 a = true) (hb : pl 8 b = true) : PyData.eqv (pyA a) (pyA b) = decide (a = b) := by
  rw [Bool.eq_iff_iff, decide_eq_true_eq]
  exact eqv_pl 8 a b ha hb
theorem vEq_dat {M : Mem} {a b a' b' : A} (h1 : datC M a = some (pyA a')) (h2 : datC M b = some (pyA b')) (ha : pl 8 a' = true) (hb : pl 8 b' = true) : vEq a b M = .ok (.bl (decide (a' = b'))) M := by
  unfold vEq
  rw [h1, h2]
  simp only
  rw [eqv_dec ha hb]
theorem vNe_dat {M : Mem} {a b a' b' : A} (h1 : datC M a = some (pyA a')) (h2 : datC M b = some (pyA b')) (ha : pl 8 a' = true) (hb : pl 8 b' = true) : vNe a b M = .ok (.bl (!decide (a' = b'))) M := by
  unfold vNe
  rw [h1, h2]
  simp only
  rw [eqv_dec ha hb]
theorem vEq_pl {M : Mem} {a b : A} (ha : pl 8 a = true) (hb : pl 8 b = true) : vEq a b M = .ok (.bl (decide (a = b))) M := vEq_dat (datC_pl M ha) (datC_pl M hb) ha hb
theorem vNe_pl {M : Mem} {a b : A} (ha : pl 8 a = true) (hb : pl 8 b = true) : vNe a b M = .ok (.bl (!decide (a = b))) M := vNe_dat (datC_pl M ha) (datC_pl M hb) ha hb
theorem pl_int {n : Nat} {i : Int} : pl n (.int i) = true := by cases n <;> simp [pl]
theorem pl_non {n : Nat} : pl n .non = true := by cases n <;> simp [pl]
@[simp] theorem vEq_int {M : Mem} {i j : Int} : vEq (.int i) (.int j) M = .ok (.bl (decide (i = j))) M := by
  rw [vEq_pl pl_int pl_int]; simp
@[simp] theorem vNe_int {M : Mem} {i j : Int} : vNe (.int i) (.int j) M = .ok (.bl (!decide (i = j))) M := by
  rw [vNe_pl pl_int pl_int]; simp
theorem pls_all {n : Nat} : ∀ {xs : List A}, (∀ x ∈ xs, pl n x = true) → pls n xs = true
  | [], _ => by rw [pls]
  | x :: r, h => by rw [pls, h x List.mem_cons_self, pls_all fun y hy => h y (List.mem_cons_of_mem _ hy)]; rfl
theorem pl_ints {n : Nat} {ns : List Int} : pl (n + 1) (.lst (ns.map A.int)) = true := by
  rw [pl]
  exact pls_all fun x hx => by
    obtain ⟨i, _, rfl⟩ := List.mem_map.mp hx
    exact pl_int
/-! membership of ints -/
theorem inV_int {i : Int} : ∀ ns : List Int, inV (.int i) ((ns.map A.int).map toV) = decide (i ∈ ns)
  | [] => by simp [inV]
  | n :: r => by
    have ih := inV_int (i := i) r
    simp only [inV, List.map_cons, List.any_cons] at ih ⊢
    rw [ih]
    rw [Bool.eq_iff_iff]
    simp [toV, eqV]
    constructor
    · rintro (h | h)
      · exact .inl h.symm
      · exact .inr h
    · rintro (h | h)
      · exact .inl h.symm
      · exact .inr h
theorem flat_ints : ∀ ns : List Int, (ns.map A.int).all flatA = true
  | [] => rfl
  | n :: r => by simp [flatA]
theorem vIn_ints {M : Mem} {a : A} {i : Int} {ns : List Int} {neg : Bool} (h : asS M a = some (ns.map A.int)) : vIn neg (.int i) a M = .ok (.bl (if neg then !decide (i ∈ ns) else decide (i ∈ ns))) M := by
  unfold vIn
  rw [h]
  simp only
  rw [if_pos ⟨rfl, flat_ints ns⟩]
  have := inV_int (i := i) ns
  simp only [toV] at this ⊢
  rw [this]
end AL

/-! AL20: x += e, bit_length, list(range(..)), a, b = x, y, is True, sorted ints, count of ints. -/
namespace AL
open PySem PySem.Spec L2 PyProof.Rows
/-! ### name op= e, ints -/
def sAug (i : Nat) (f : A → A → Mem → R A) (fe : SE) : SS := fun ro M => match ro[i]? with
  | some (some x) => Fl.of (fe ro M) ro fun y M1 => Fl.of (f x y M1) ro fun z M2 => .nx (ro.set i (some z)) M2
  | _ => .stuck
section
variable {X : Cx} {W : WX} {x : Str} {pos' pos : Pos} {e : Expr} {fe : SE}
theorem ds_aug {i : Nat} {op : Operator} {ti : TIp} {f : A → A → Mem → R A} (hN : X.N.Nodup) (hi : X.N[i]? = some x) (hx : Loc X.env.scope x) (ho : PIp X op ti) (hs : Snd2 X.K X.mg ti f) (he : PE X e (tE X.K X.mg W fe))
    (hf : X.fn x = true ∨ X.env.scope.names.lookup x = some .local := by first | exact .inl rfl | exact .inr rfl | assumption) : PS X (.AugAssign (.Name x pos') op e pos) (tS X.K X.mg W (sAug i f fe)) :=
  PS.imp (ps_aug hN hi hx he ho hf) fun D σ H ⟨F, io, ro, M, er, mr, p⟩ => by
    unfold sAug at p
    cases h : ro[i]? with
    | none => rw [h] at p; exact p.elim
    | some o =>
      cases o with
      | none => rw [h] at p; exact p.elim
      | some a =>
        rw [h] at p
        obtain ⟨v, q1, q2⟩ := er.2 i a h
        refine ⟨v, q1, F, io, ro, M, er, mr, PostG.mono (PostS.of (rel := Rp X.K X.mg) p er) fun w H1 ⟨F1, io1, M1, y, x1, m1, r1, er1, p1⟩ => ?_⟩
        refine hs F1 io1 M1 H1 a y v w σ W _ m1 (Rp.mono x1.fr x1.pre q2) r1 (PostG.mono (PostS.of (rel := Rp X.K X.mg) p1 er1) fun u H2 ⟨F2, io2, M2, z, x2, m2, r2, er2, p2⟩ => ?_)
        exact PostS.now p2 (er2.set r2 i) m2
abbrev vAddI := opI (fun _ _ => true) (· + ·)
theorem sIpAdd {K : PySem.W.Frag} {mg : Str → Option Value} : Snd2 K mg (ipI fun i j => i + j) (opI (fun _ _ => true) (· + ·)) := opI0_snd
theorem sIpSub {K : PySem.W.Frag} {mg : Str → Option Value} : Snd2 K mg (ipI fun i j => i - j) (opI (fun _ _ => true) (· - ·)) := opI0_snd
/-! ### n.bit_length() -/
def vBits : A → Mem → R A := fun a M => match a with
  | .int i => .ok (.int (Builtin.Int.intBits i : Nat)) M
  | _ => .stuck
theorem de_bits {o : Expr} {fo : SE} {apos : Pos} (ho : PE X o (tE X.K X.mg W fo)) (hbase : attributeBase o "bit_length" X.env (eval o X.env) = eval o X.env := by rfl) (hline : (apos.endLine == pos.line) = true := by rfl) : PE X (.Call (.Attribute o "bit_length" apos) [] [] pos) (tE X.K X.mg W (e1 vBits fo)) :=
  PE.imp (pe_bits ho hbase hline) fun σ H Q ⟨F, io, ro, M, er, mr, p⟩ => ⟨F, io, ro, M, er, mr, PostG.mono (PostG.bind (rel := Rp X.K X.mg) p) fun v H1 ⟨F1, io1, M1, a, x1, m1, r1, p1⟩ => by
    cases a with
    | int i => cases r1; exact ⟨i, rfl, PostG.now p1 m1 rfl⟩
    | _ => exact p1.elim⟩
/-! ### list(range(..)) -/
theorem rgV_rps {K : PySem.W.Frag} {mg : Str → Option Value} {F : Hp} {io : List Addr} (a b : Int) : Rps K mg F io (rngA a (b - a).toNat) (rgV a b) := by
  have e : rngA a (b - a).toNat = ((List.range (b - a).toNat).map fun k => a + ((k : Nat) : Int)).map A.int := by unfold rngA; rw [List.map_map]; rfl
  have e2 : rgV a b = ((List.range (b - a).toNat).map fun k => a + ((k : Nat) : Int)).map V.int := by unfold rgV; rw [List.map_map]; rfl
  rw [e, e2]
  exact rps_ints _
def okRg (a b : Int) : Bool := decide (a.natAbs < 2 ^ 61) && (decide (b.natAbs < 2 ^ 61) && decide ((b - a).toNat ≤ 2 ^ 20))
theorem okRg_ok {a b : Int} (h : okRg a b = true) : RgOk a b ∧ (b - a).toNat ≤ sizeLine := by
  unfold okRg at h
  simp only [Bool.and_eq_true, decide_eq_true_eq] at h
  refine ⟨⟨by omega, by omega, by omega, by omega, by omega⟩, ?_⟩
  rw [sizeLine_eq]
  omega
def eLrg1 (fz : Bool) (fa : SE) : SE := fun ro M => (fa ro M).bind fun a M1 => match a with
  | .int n => if okRg 0 n = true then mkL fz (rngA 0 (n - 0).toNat) M1 else .stuck
  | _ => .stuck
def eLrg2 (fz : Bool) (fa fb : SE) : SE := fun ro M => (fa ro M).bind fun a M1 => (fb ro M1).bind fun b M2 => match a, b with
  | .int i, .int n => if okRg i n = true then mkL fz (rngA i (n - i).toNat) M2 else .stuck
  | _, _ => .stuck
theorem de_lrg1 (fz : Bool) {a : Expr} {fa : SE} {p p2 pos2 : Pos} (hc : X.calm = true) (hg : Gl X "list") (hm : X.mg "list" = none) (hg2 : Gl X "range") (hm2 : X.mg "range" = none) (ha : PE X a (tE X.K X.mg W fa))
    (na : starEach [.Call (.Name "range" p2) [a] [] pos2] X.env = (false, eval (.Call (.Name "range" p2) [a] [] pos2) X.env) :: starEach [] X.env := by rfl) (nb : starEach [a] X.env = (false, eval a X.env) :: starEach [] X.env := by rfl) :
    PE X (.Call (.Name "list" p) [.Call (.Name "range" p2) [a] [] pos2] [] pos) (tE X.K X.mg W (eLrg1 fz fa)) := PE.imp (pe_listRg hc hg hm (prg_1 hg2 hm2 ha nb) na) fun σ H Q ⟨F, io, ro, M, er, mr, p⟩ =>
  ⟨F, io, ro, M, er, mr, PostG.mono (PostG.bind (rel := Rp X.K X.mg) p) fun v H1 ⟨F1, io1, M1, a, x1, m1, r1, p1⟩ => by
    cases a with
    | int n =>
      cases r1
      dsimp only at p1
      split at p1
      · rename_i h
        obtain ⟨h1, h2⟩ := okRg_ok h
        exact ⟨n, rfl, h1, (mkL_snd m1 (rgV_rps 0 n) p1).2⟩
      · exact p1.elim
    | _ => exact p1.elim⟩
theorem de_lrg2 (fz : Bool) {a b : Expr} {fa fb : SE} {p p2 pos2 : Pos} (hc : X.calm = true) (hg : Gl X "list") (hm : X.mg "list" = none) (hg2 : Gl X "range") (hm2 : X.mg "range" = none) (ha : PE X a (tE X.K X.mg W fa)) (hb : PE X b (tE X.K X.mg W fb))
    (na : starEach [.Call (.Name "range" p2) [a, b] [] pos2] X.env = (false, eval (.Call (.Name "range" p2) [a, b] [] pos2) X.env) :: starEach [] X.env := by rfl) (nb : starEach [a, b] X.env = (false, eval a X.env) :: starEach [b] X.env := by rfl)
    (nc : starEach [b] X.env = (false, eval b X.env) :: starEach [] X.env := by rfl) (hp : (backTo pos2 (starEach [b] X.env)).any (·.1) = false := by rfl) :
    PE X (.Call (.Name "list" p) [.Call (.Name "range" p2) [a, b] [] pos2] [] pos) (tE X.K X.mg W (eLrg2 fz fa fb)) := PE.imp (pe_listRg hc hg hm (prg_2 hg2 hm2 ha hb nb nc hp) na) fun σ H Q ⟨F, io, ro, M, er, mr, p⟩ =>
  ⟨F, io, ro, M, er, mr, PostG.mono (PostG.bind (rel := Rp X.K X.mg) p) fun v H1 ⟨F1, io1, M1, a, x1, m1, r1, p1⟩ =>
    ⟨F1, io1, ro, M1, er.ext x1, m1, PostG.mono (PostG.bind (rel := Rp X.K X.mg) p1) fun w H2 ⟨F2, io2, M2, b, x2, m2, r2, p2⟩ => by
      have r1' := Rp.mono x2.fr x2.pre r1
      cases a with
      | int i =>
        cases b with
        | int n =>
          cases r1'
          cases r2
          dsimp only at p2
          split at p2
          · rename_i h
            obtain ⟨h1, h2⟩ := okRg_ok h
            exact ⟨i, n, rfl, rfl, h1, (mkL_snd m2 (rgV_rps i n) p2).2⟩
          · exact p2.elim
        | _ => exact p2.elim
      | _ => exact p2.elim⟩⟩
/-! ### a, b = x, y -/
def sPar (i j : Nat) (ga : SA) : SS := fun ro M => Fl.of (ga ro M) ro fun as M1 => match as with
  | [a, b] => .nx ((ro.set i (some a)).set j (some b)) M1
  | _ => .stuck
theorem ds_par {i j : Nat} {y : Str} {a b : Expr} {ga : SA} {px py pt : Pos} {kt k2 pt2} (hc : X.calm = true) (hN : X.N.Nodup) (hi : X.N[i]? = some x) (hj : X.N[j]? = some y) (hij : i ≠ j)
    (hx : X.env.scope.names.lookup x = some .local) (hy : X.env.scope.names.lookup y = some .local) (ha : PA X [a, b] (tA X.K X.mg W ga))
    (hw : swappedStores [.Tuple [.Name x px, .Name y py] kt pt] (.Tuple [a, b] k2 pt2) X.env = pure (some [x, y]))
    (hs : swapsWithSole [.Tuple [.Name x px, .Name y py] kt pt] (.Tuple [a, b] k2 pt2) pos.line X.env = pure false := by rfl) :
    PS X (.Assign [.Tuple [.Name x px, .Name y py] kt pt] (.Tuple [a, b] k2 pt2) pos) (tS X.K X.mg W (sPar i j ga)) := PS.imp (ps_par hc hN hi hj hij hx hy ha hw hs) fun D σ H ⟨F, io, ro, M, er, mr, p⟩ =>
  ⟨F, io, ro, M, er, mr, PostG.mono (PostS.of (rel := Rps X.K X.mg) p er) fun vs H1 ⟨F1, io1, M1, as, x1, m1, r1, er1, p1⟩ => by
    split at p1
    · obtain ⟨v, vr, rfl, q1, q2⟩ := r1
      obtain ⟨w, wr, rfl, q3, q4⟩ := q2
      cases q4
      exact ⟨v, w, rfl, PostS.now p1 ((er1.set q1 i).set q3 j) m1⟩
    · exact p1.elim⟩
end
/-! ### xs[::-1] -/
def eRevL (fz : Bool) (fa : SE) : SE := fun ro M => (fa ro M).bind fun a M1 => match asL M1 a with
  | some xs => mkL fz xs.reverse M1
  | none => .stuck
theorem de_revL (fz : Bool) {X : Cx} {W : WX} {e : Expr} {fa : SE} {k : Nat} {p1 p2 p3 pos : Pos} (he : PE X e (tE X.K X.mg W fa)) : PE X (.Subscript e (.Slice none none (some (.UnaryOp .USub (.Constant (.int 1) k p1) p2)) p3) pos) (tE X.K X.mg W (eRevL fz fa)) := PE.imp (pe_revL he) fun σ H Q ⟨F, io, ro, M, er, mr, p⟩ =>
  ⟨F, io, ro, M, er, mr, PostG.mono (PostG.bind (rel := Rp X.K X.mg) p) fun v H1 ⟨F1, io1, M1, a, x1, m1, r1, p1⟩ => by
    cases e : asL M1 a with
    | none => rw [e] at p1; exact p1.elim
    | some xs =>
      rw [e] at p1
      obtain ⟨q, vs, rfl, h2, h3⟩ := asL_ok m1 r1 e
      exact ⟨q, vs, rfl, h2, (mkL_snd m1 h3.reverse p1).2⟩⟩
/-! ### is True, is False -/
section
variable {K : PySem.W.Frag} {mg : Str → Option Value}
def vIsB : A → A → Mem → R A := fun x y M => match x, y with
  | .bl a, .bl b => .ok (.bl (decide (a = b))) M
  | _, _ => .stuck
def vNotB : A → A → Mem → R A := fun x y M => match x, y with
  | .bl a, .bl b => .ok (.bl (!decide (a = b))) M
  | _, _ => .stuck
theorem sIsB : Snd2 K mg rIsB vIsB := by
  intro F io M H x y v w σ W Q m r1 r2 p
  unfold vIsB at p
  split at p
  · cases r1
    cases r2
    exact ⟨_, _, rfl, rfl, PostG.now p m rfl⟩
  · exact p.elim
theorem sNotB : Snd2 K mg rNotB vNotB := by
  intro F io M H x y v w σ W Q m r1 r2 p
  unfold vNotB at p
  split at p
  · cases r1
    cases r2
    exact ⟨_, _, rfl, rfl, PostG.now p m rfl⟩
  · exact p.elim
def vSorted (fz : Bool) : List A → Mem → R A := fun as M => match as with
  | [a] => match (asL M a).bind toInts with
    | some ns => mkL fz ((ns.mergeSort (· ≤ ·)).map A.int) M
    | none => .stuck
  | _ => .stuck
theorem sort_uniq : ∀ {xs ys : List Int}, xs.Perm ys → xs.Pairwise (· ≤ ·) → ys.Pairwise (· ≤ ·) → xs = ys
  | [], ys, p, _, _ => (List.nil_perm.mp p).symm
  | x :: r, [], p, _, _ => absurd p.length_eq (by simp)
  | x :: r, y :: q, p, h1, h2 => by
    rw [List.pairwise_cons] at h1 h2
    have hx : x ∈ y :: q := p.mem_iff.mp List.mem_cons_self
    have hy : y ∈ x :: r := p.mem_iff.mpr List.mem_cons_self
    have e : x = y := by
      rcases List.mem_cons.mp hx with e | hx
      · exact e
      · rcases List.mem_cons.mp hy with e | hy
        · exact e.symm
        · exact Int.le_antisymm (h1.1 y hy) (h2.1 x hx)
    subst e
    rw [sort_uniq (List.perm_cons x |>.mp p) h1.2 h2.2]
theorem msort_le (ns : List Int) : (ns.mergeSort (· ≤ ·)).Pairwise (· ≤ ·) := by
  have := List.pairwise_mergeSort (le := fun a b : Int => decide (a ≤ b)) (fun a b c h1 h2 => by simp at *; omega) (fun a b => by simp; omega) ns
  exact this.imp fun h => by simpa using h
theorem sSorted {fz : Bool} : SndA K mg (rSortedI K) (vSorted fz) := by
  intro F io M H as vs σ W Q m r p
  unfold vSorted at p
  split at p
  · obtain ⟨v, vr, rfl, r1, r2⟩ := r
    cases r2
    split at p
    · rename_i ns e
      obtain ⟨xs, e1, e2⟩ := Option.bind_eq_some_iff.mp e
      obtain ⟨q, ws, rfl, h2, h3⟩ := asL_ok m r1 e1
      have := ints_ok h3 e2
      subst this
      refine ⟨q, ns, rfl, h2, fun ns' l hp hs hl => ?_⟩
      have : ns' = ns.mergeSort (· ≤ ·) := sort_uniq (hp.trans (List.mergeSort_perm ns _).symm) hs (msort_le ns)
      rw [this]
      exact (mkL_snd m (rps_ints (ns.mergeSort (· ≤ ·))) p).2 l hl
    · exact p.elim
  · exact p.elim
def mCount : A → List A → Mem → R A := fun o as M => match (asL M o).bind toInts, as with
  | some ns, [.int k] => .ok (.int (ns.count k : Nat)) M
  | _, _ => .stuck
theorem sCount : Snd1A K mg (rCntI K) mCount := by
  intro F io M H x v as vs σ W Q m r rs q
  unfold mCount at q
  split at q
  · rename_i ns k e
    obtain ⟨xs, e1, e2⟩ := Option.bind_eq_some_iff.mp e
    obtain ⟨p, ws, rfl, h2, h3⟩ := asL_ok m r e1
    have := ints_ok h3 e2
    subst this
    obtain ⟨w, wr', rfl, r1, r2⟩ := rs
    cases r1
    cases r2
    exact ⟨p, ns, k, rfl, rfl, h2, PostG.now q m rfl⟩
  · exact q.elim
end
/-! constants of the module: ints, texts -/
theorem de_conI {X : Cx} {W : WX} {x : Str} (n : Int) {pos : Pos} (hg : Gl X x) (hm : ∃ t, X.mg x = some (.int n t)) (hd : (x == ("__debug__" : Str)) = false := by decide) : PE X (.Name x pos) (tE X.K X.mg W (eC (.int n))) := by
  obtain ⟨t, h⟩ := hm
  exact de_con (v := .int n) hg h ⟨t, rfl⟩ (fun _ _ => rfl) hd
theorem de_conS {X : Cx} {W : WX} {x z : Str} {pos : Pos} (hg : Gl X x) (hm : ∃ t, X.mg x = some (.str z t)) (hd : (x == ("__debug__" : Str)) = false := by decide) : PE X (.Name x pos) (tE X.K X.mg W (eC (.str z))) := by
  obtain ⟨t, h⟩ := hm
  exact de_con (v := .str z) hg h ⟨t, rfl⟩ (fun _ _ => rfl) hd
@[simp] theorem w_addI {M : Mem} {i j : Int} : vAddI (.int i) (.int j) M = .ok (.int (i + j)) M := rfl
end AL

set_option maxHeartbeats 0
/-! what each def of the cut program is worth (by gen.py) -/
namespace G
open PySem PySem.Spec L2 AL
def n_law_begun : List Str := ["_law_script", "_law_k", "_law_cell", "_law_number", "_law_mixed"]
noncomputable def s_law_begun : SS :=
  sSeq (sSet 2 (e2 vIx (e2 (vAdd true) (eCut true (eVar 0) (oSome (eVar 1)) (oSome (e2 (vAdd true) (eVar 1) (eC (.int 1))))) (eLst true (aCons (eC (.int 0)) (aNil)))) (eC (.int 0)))) (
  sSeq (sSet 3 (eA (vI2 fun i j => if j > i then j else i) (aCons (eVar 2) (aCons (e2 (vSub) (e1 vNeg (eC (.int 1))) (eVar 2)) (aNil))))) (
  sSeq (sSet 4 (e2 (vMod) (e2 (vAdd true) (e2 (vAdd true) (e2 (vAdd true) (e2 (vMod) (eVar 3) (eC (.int 2147483629))) (e2 (vMul true) (eC (.int 7919)) (eVar 1))) (e2 (vMul true) (e2 (vMul true) (eC (.int 104729)) (eVar 1)) (eVar 1))) (eC (.int 11))) (eC (.int 2147483629)))) (
  sRet (eLst false (aCons (eVar 3) (aCons (eVar 4) (aCons (e2 vGe (eVar 3) (e2 (vPow) (eC (.int 10)) (eC (.int 18)))) (aNil))))))))
noncomputable def m_law_begun : List A → Mem → R A := defSem 5 2 s_law_begun
def n_law_take : List Str := ["_law_state", "_law_many", "_law_digit", "_law_made_here", "_law_turn"]
noncomputable def i_law_take_1 : SS := sIf (tV (e2 vIx (eVar 0) (eC (.int 2)))) (sSeq (sSet 2 (e2 (vMod) (e2 vIx (eVar 0) (eC (.int 0))) (eVar 1))) (
  sSeq (sAsg (gIx (eVar 0) (eC (.int 0))) (e2 (vFdiv) (e2 vIx (eVar 0) (eC (.int 0))) (eVar 1))) (
  sSeq (sAsg (gIx (eVar 0) (eC (.int 2))) (e2 vGt (e2 vIx (eVar 0) (eC (.int 0))) (eC (.int 0)))) (
  sRet (eVar 2))))) (sNext)
noncomputable def fb_law_take_2 : SS :=
  sSeq (sAsg (gIx (eVar 0) (eC (.int 1))) (e2 (vMod) (e2 (vAdd true) (e2 (vMul true) (e2 vIx (eVar 0) (eC (.int 1))) (eC (.int 48271))) (eC (.int 11))) (eC (.int 2147483647)))) (
  sSet 3 (e2 (vAdd true) (e2 (vMul true) (eVar 3) (eC (.int 2147483587))) (e2 (vMod) (e2 (vMul true) (e2 vIx (eVar 0) (eC (.int 1))) (e2 vIx (eVar 0) (eC (.int 1)))) (eC (.int 2147483587)))))
noncomputable def f_law_take_2 : SS := sFor (iRng1 (e2 (vAdd true) (eC (.int 1)) (eA (vInt) (aCons (e2 vGt (eVar 1) (e2 (vPow) (eC (.int 10)) (eC (.int 6)))) (aNil))))) (gNm 4) fb_law_take_2
noncomputable def s_law_take : SS :=
  sSeq (i_law_take_1) (
  sSeq (sSet 3 (eC (.int 0))) (
  sSeq (f_law_take_2) (
  sRet (e2 (vMod) (e2 (vFdiv) (eVar 3) (eC (.int 64))) (eVar 1)))))
noncomputable def m_law_take : List A → Mem → R A := defSem 5 2 s_law_take
def n_law_code : List Str := ["_law_state", "_law_size", "_law_many", "_law_way", "_law_free", "_law_fixed", "_law_place"]
noncomputable def ct_law_code_1 : ST := (tB (e2 vEq (eA m_law_take (aCons (eVar 0) (aCons (e2 vIx (eLst true (aCons (eC (.int 2)) (aCons (eC (.int 2)) (aCons (eC (.int 3)) (aCons (eC (.int 8)) (aNil)))))) (eVar 3)) (aNil)))) (eC (.int 0))))
noncomputable def ce_law_code_1 : SE := eVar 6
noncomputable def c_law_code_1 : SE := eLc true (iRng1 (eVar 2)) (.nm 6) ct_law_code_1 ce_law_code_1 [6]
noncomputable def ct_law_code_2 : ST := (tB (e2 (vIn true) (eVar 6) (eVar 4)))
noncomputable def ce_law_code_2 : SE := eVar 6
noncomputable def c_law_code_2 : SE := eLc true (iRng1 (eVar 2)) (.nm 6) ct_law_code_2 ce_law_code_2 [6]
noncomputable def i_law_code_3 : SS := sIf (tB (e2 vEq (eVar 3) (eC (.int 1)))) (sSet 4 (c_law_code_2)) (sNext)
noncomputable def i_law_code_4 : SS := sIf (tB (e2 vEq (eVar 4) (eLst true (aNil)))) (sSet 4 (eLst true (aCons (eA m_law_take (aCons (eVar 0) (aCons (eVar 2) (aNil)))) (aNil)))) (sNext)
noncomputable def ce_law_code_5 : SE := e2 (vMul true) (eA m_law_take (aCons (eVar 0) (aCons (eC (.int 2)) (aNil)))) (eA (vInt) (aCons (e2 vLt (eVar 3) (eC (.int 2))) (aNil)))
noncomputable def c_law_code_5 : SE := eLc true (iRng1 (e2 (vSub) (eVar 2) (eA (vLen) (aCons (eVar 4) (aNil))))) (.nm 6) (fun _ M => .ok true M) ce_law_code_5 [6]
noncomputable def s_law_code : SS :=
  sSeq (sSet 2 (e2 vIx (eLst true (aCons (eC (.int 1)) (aCons (eC (.int 2)) (aCons (eC (.int 4)) (aCons (eC (.int 8)) (aCons (eC (.int 16)) (aCons (eC (.int 32)) (aNil)))))))) (eVar 1))) (
  sSeq (sSet 3 (eA m_law_take (aCons (eVar 0) (aCons (eC (.int 4)) (aNil))))) (
  sSeq (sSet 4 (c_law_code_1)) (
  sSeq (i_law_code_3) (
  sSeq (i_law_code_4) (
  sSeq (sSet 5 (c_law_code_5)) (
  sRet (eTup (aCons (eVar 1) (aCons (eVar 4) (aCons (eVar 5) (aNil)))))))))))
noncomputable def m_law_code : List A → Mem → R A := defSem 7 2 s_law_code
def n_is_whole : List Str := ["thing"]
noncomputable def s_is_whole : SS :=
  sRet (eAnd (e1 (vIsi .int) (eVar 0)) (eNot (e1 (vIsi .bl) (eVar 0))))
noncomputable def m_is_whole : List A → Mem → R A := defSem 1 1 s_is_whole
def n_is_sign : List Str := ["thing"]
noncomputable def s_is_sign : SS :=
  sRet (eAnd (eA m_is_whole (aCons (eVar 0) (aNil))) (eChain vLe vLe (eC (.int 0)) (eVar 0) (eC (.int 1))))
noncomputable def m_is_sign : List A → Mem → R A := defSem 1 1 s_is_sign
def n_is_signs : List Str := ["thing", "one"]
noncomputable def ce_is_signs_1 : SE := eA m_is_sign (aCons (eVar 1) (aNil))
noncomputable def c_is_signs_1 : SE := eLc true (iLst (eVar 0)) (.nm 1) (fun _ M => .ok true M) ce_is_signs_1 [1]
noncomputable def s_is_signs : SS :=
  sRet (eAnd (e1 (vIsi .lst) (eVar 0)) (eA (vAnyAll (·.all id)) (aCons (c_is_signs_1) (aNil))))
noncomputable def m_is_signs : List A → Mem → R A := defSem 2 1 s_is_signs
def n_is_rising : List Str := ["thing", "low", "high", "ahead", "one"]
noncomputable def i_is_rising_1 : SS := sIf (tNot (tV (e1 (vIsi .lst) (eVar 0)))) (sRet (eC (.bl false))) (sNext)
noncomputable def i_is_rising_2 : SS := sIf (tOr (tNot (tV (eA m_is_whole (aCons (eVar 4) (aNil))))) (tNot (tB (eChain vLt vLt (eVar 3) (eVar 4) (eVar 2))))) (sRet (eC (.bl false))) (sNext)
noncomputable def fb_is_rising_3 : SS :=
  sSeq (i_is_rising_2) (
  sSet 3 (eVar 4))
noncomputable def f_is_rising_3 : SS := sFor (iLst (eVar 0)) (gNm 4) fb_is_rising_3
noncomputable def s_is_rising : SS :=
  sSeq (i_is_rising_1) (
  sSeq (sSet 3 (e2 (vSub) (eVar 1) (eC (.int 1)))) (
  sSeq (f_is_rising_3) (
  sRet (eC (.bl true)))))
noncomputable def m_is_rising : List A → Mem → R A := defSem 5 3 s_is_rising
def n_is_code : List Str := ["thing", "many"]
noncomputable def i_is_code_1 : SS := sIf (tOr (tNot (tV (e1 (vIsi .tup) (eVar 0)))) (tOr (tB (e2 vNe (eA (vLen) (aCons (eVar 0) (aNil))) (eC (.int 3)))) (tOr (tNot (tV (eA m_is_whole (aCons (e2 vIx (eVar 0) (eC (.int 0))) (aNil))))) (tNot (tB (eChain vLe vLe (eC (.int 1)) (e2 vIx (eVar 0) (eC (.int 0))) (eC (.int 5)))))))) (sRet (eC (.bl false))) (sNext)
noncomputable def i_is_code_2 : SS := sIf (tOr (tNot (tV (eA m_is_rising (aCons (e2 vIx (eVar 0) (eC (.int 1))) (aCons (eC (.int 0)) (aCons (eVar 1) (aNil))))))) (tB (e2 vEq (eA (vLen) (aCons (e2 vIx (eVar 0) (eC (.int 1))) (aNil))) (eC (.int 0))))) (sRet (eC (.bl false))) (sNext)
noncomputable def s_is_code : SS :=
  sSeq (i_is_code_1) (
  sSeq (sSet 1 (e2 vIx (eC (.tup (([1, 2, 4, 8, 16, 32] : List Int).map A.int))) (e2 vIx (eVar 0) (eC (.int 0))))) (
  sSeq (i_is_code_2) (
  sRet (eAnd (eA m_is_signs (aCons (e2 vIx (eVar 0) (eC (.int 2))) (aNil))) (e2 vEq (e2 (vAdd true) (eA (vLen) (aCons (e2 vIx (eVar 0) (eC (.int 1))) (aNil))) (eA (vLen) (aCons (e2 vIx (eVar 0) (eC (.int 2))) (aNil)))) (eVar 1))))))
noncomputable def m_is_code : List A → Mem → R A := defSem 2 1 s_is_code
def n_look_at_code : List Str := ["code"]
noncomputable def i_look_at_code_1 : SS := sIf (tNot (tV (eA m_is_code (aCons (eVar 0) (aNil))))) (sRaise 9) (sNext)
noncomputable def s_look_at_code : SS :=
  i_look_at_code_1
noncomputable def m_look_at_code : List A → Mem → R A := defSem 1 1 s_look_at_code
def n_Receiver_init : List Str := ["self", "code"]
noncomputable def s_Receiver_init : SS :=
  sSeq (sExpr (eA m_look_at_code (aCons (eVar 1) (aNil)))) (
  sSeq (sFldA 22 1 (eVar 0) (eTup (aCons (e2 vIx (eVar 1) (eC (.int 0))) (aCons (eA (vList true) (aCons (e2 vIx (eVar 1) (eC (.int 1))) (aNil))) (aCons (eA (vList true) (aCons (e2 vIx (eVar 1) (eC (.int 2))) (aNil))) (aNil)))))) (
  sSeq (sFldA 22 2 (eVar 0) (e2 (vMul false) (eLst true (aCons (eC .non) (aNil))) (e2 vIx (eC (.tup (([1, 2, 4, 8, 16, 32] : List Int).map A.int))) (e2 vIx (eVar 1) (eC (.int 0)))))) (
  sFldA 22 3 (eVar 0) (eLst false (aNil)))))
noncomputable def m_Receiver_init : List A → Mem → R A := defSem 2 2 s_Receiver_init
def n_look_at_place : List Str := ["size", "place"]
noncomputable def i_look_at_place_1 : SS := sIf (tOr (tNot (tV (eA m_is_whole (aCons (eVar 1) (aNil))))) (tNot (tB (eChain vLe vLt (eC (.int 0)) (eVar 1) (e2 vIx (eC (.tup (([1, 2, 4, 8, 16, 32] : List Int).map A.int))) (eVar 0)))))) (sRaise 3) (sNext)
noncomputable def s_look_at_place : SS :=
  i_look_at_place_1
noncomputable def m_look_at_place : List A → Mem → R A := defSem 2 2 s_look_at_place
def n_Receiver_hear : List Str := ["self", "spot", "sign"]
noncomputable def i_Receiver_hear_1 : SS := sIf (tNot (tV (eA m_is_sign (aCons (eVar 2) (aNil))))) (sRaise 15) (sNext)
noncomputable def i_Receiver_hear_2 : SS := sIf (tB (e2 vNe (e2 vIx (e1 (vFldC 22 2) (eVar 0)) (eVar 1)) (eVar 2))) (sRaise 16) (sNext)
noncomputable def i_Receiver_hear_3 : SS := sIf (tB (e2 vIsN (e2 vIx (e1 (vFldC 22 2) (eVar 0)) (eVar 1)) (eC .non))) (sSeq (sAsg (gIx (e1 (vFldC 22 2) (eVar 0)) (eVar 1)) (eVar 2)) (
  sExpr (eBm mAppend (e1 (vFldC 22 3) (eVar 0)) (aCons (eVar 1) (aNil))))) (i_Receiver_hear_2)
noncomputable def s_Receiver_hear : SS :=
  sSeq (sExpr (eA m_look_at_place (aCons (e2 vIx (e1 (vFldC 22 1) (eVar 0)) (eC (.int 0))) (aCons (eVar 1) (aNil))))) (
  sSeq (i_Receiver_hear_1) (
  i_Receiver_hear_3))
noncomputable def m_Receiver_hear : List A → Mem → R A := defSem 3 3 s_Receiver_hear
def n_Receiver_forget : List Str := ["self"]
noncomputable def i_Receiver_forget_1 : SS := sIf (tB (e2 vEq (e1 (vFldC 22 3) (eVar 0)) (eLst true (aNil)))) (sRaise 17) (sNext)
noncomputable def s_Receiver_forget : SS :=
  sSeq (i_Receiver_forget_1) (
  sAsg (gIx (e1 (vFldC 22 2) (eVar 0)) (eBm mPop (e1 (vFldC 22 3) (eVar 0)) aNil)) (eC .non))
noncomputable def m_Receiver_forget : List A → Mem → R A := defSem 1 1 s_Receiver_forget
def n_Receiver_came : List Str := ["self"]
noncomputable def s_Receiver_came : SS :=
  sRet (eA (vList true) (aCons (e1 (vFldC 22 2) (eVar 0)) (aNil)))
noncomputable def m_Receiver_came : List A → Mem → R A := defSem 1 1 s_Receiver_came
def n_Solving_init : List Str := ["self"]
noncomputable def s_Solving_init : SS :=
  sFldA 21 0 (eVar 0) (eLst true (aNil))
noncomputable def m_Solving_init : List A → Mem → R A := defSem 1 1 s_Solving_init
def n_Solving_lowered : List Str := ["self", "mask", "made", "head", "other", "others"]
noncomputable def i_Solving_lowered_1 : SS := sIf (tB (e2 vNe (e2 (vAnd) (eVar 1) (eVar 3)) (eC (.int 0)))) (sSeq (sSet 1 (e2 (vXor) (eVar 1) (eVar 4))) (
  sSet 2 (e2 (vXor) (eVar 2) (eVar 5)))) (sNext)
noncomputable def fb_Solving_lowered_2 : SS :=
  i_Solving_lowered_1
noncomputable def f_Solving_lowered_2 : SS := sFor (iLst (e1 (vFldC 21 0) (eVar 0))) (gTp 3 (gsCons (gNm 3) (gsCons (gNm 4) (gsCons (gNm 5) (gsNil))))) fb_Solving_lowered_2
noncomputable def s_Solving_lowered : SS :=
  sSeq (f_Solving_lowered_2) (
  sRet (eTup (aCons (eVar 1) (aCons (eVar 2) (aNil)))))
noncomputable def m_Solving_lowered : List A → Mem → R A := defSem 6 3 s_Solving_lowered
def n_Solving_put : List Str := ["self", "mask", "spot", "made", "head", "rows", "one", "other", "others"]
noncomputable def i_Solving_put_1 : SS := sIf (tB (e2 vNe (e2 (vAnd) (eVar 7) (eVar 4)) (eC (.int 0)))) (sExpr (eBm mAppend (eVar 5) (aCons (eTup (aCons (eVar 6) (aCons (e2 (vXor) (eVar 7) (eVar 1)) (aCons (e2 (vXor) (eVar 8) (eVar 3)) (aNil))))) (aNil)))) (sExpr (eBm mAppend (eVar 5) (aCons (eTup (aCons (eVar 6) (aCons (eVar 7) (aCons (eVar 8) (aNil))))) (aNil))))
noncomputable def fb_Solving_put_2 : SS :=
  i_Solving_put_1
noncomputable def f_Solving_put_2 : SS := sFor (iLst (e1 (vFldC 21 0) (eVar 0))) (gTp 3 (gsCons (gNm 6) (gsCons (gNm 7) (gsCons (gNm 8) (gsNil))))) fb_Solving_put_2
noncomputable def i_Solving_put_3 : SS := sIf (tB (e2 vNe (eVar 1) (eC (.int 0)))) (sSeq (sSet 4 (e2 (vAnd) (eVar 1) (e2 (vSub) (eC (.int 0)) (eVar 1)))) (
  sSeq (sSet 5 (eLst false (aNil))) (
  sSeq (f_Solving_put_2) (
  sFldA 21 0 (eVar 0) (e2 (vAdd true) (eVar 5) (eLst true (aCons (eTup (aCons (eVar 4) (aCons (eVar 1) (aCons (eVar 3) (aNil))))) (aNil)))))))) (sNext)
noncomputable def s_Solving_put : SS :=
  sSeq (sAsg (gTp 2 (gsCons (gNm 1) (gsCons (gNm 3) (gsNil)))) (eM 21 m_Solving_lowered (eVar 0) (aCons (eVar 1) (aCons (e2 (vShl) (eC (.int 1)) (eVar 2)) (aNil))))) (
  sSeq (i_Solving_put_3) (
  sRet (eTup (aCons (eVar 1) (aCons (eVar 3) (aNil))))))
noncomputable def m_Solving_put : List A → Mem → R A := defSem 9 3 s_Solving_put
def n_comes_to : List Str := ["place", "spot"]
noncomputable def s_comes_to : SS :=
  sRet (e2 vEq (e2 (vAnd) (eVar 0) (eVar 1)) (eVar 1))
noncomputable def m_comes_to : List A → Mem → R A := defSem 2 2 s_comes_to
def n_unknowns_at : List Str := ["code", "spot", "found", "number", "place"]
noncomputable def i_unknowns_at_1 : SS := sIf (tV (eA m_comes_to (aCons (eVar 4) (aCons (eVar 1) (aNil))))) (sAug 2 vAddI (e2 (vShl) (eC (.int 1)) (eVar 3))) (sNext)
noncomputable def fb_unknowns_at_2 : SS :=
  i_unknowns_at_1
noncomputable def f_unknowns_at_2 : SS := sFor (iEnum (e2 vIx (eVar 0) (eC (.int 1)))) (gTp 2 (gsCons (gNm 3) (gsCons (gNm 4) (gsNil)))) fb_unknowns_at_2
noncomputable def s_unknowns_at : SS :=
  sSeq (sSet 2 (eC (.int 0))) (
  sSeq (f_unknowns_at_2) (
  sRet (eVar 2)))
noncomputable def m_unknowns_at : List A → Mem → R A := defSem 5 2 s_unknowns_at
def n_signs_fixed : List Str := ["code", "found", "at", "place"]
noncomputable def i_signs_fixed_1 : SS := sIf (tB (e2 (vIn false) (eVar 3) (e2 vIx (eVar 0) (eC (.int 1))))) (sExpr (eBm mAppend (eVar 1) (aCons (eC .non) (aNil)))) (sSeq (sExpr (eBm mAppend (eVar 1) (aCons (e2 vIx (e2 vIx (eVar 0) (eC (.int 2))) (eVar 2)) (aNil)))) (
  sAug 2 vAddI (eC (.int 1))))
noncomputable def fb_signs_fixed_2 : SS :=
  i_signs_fixed_1
noncomputable def f_signs_fixed_2 : SS := sFor (iRng1 (e2 vIx (eC (.tup (([1, 2, 4, 8, 16, 32] : List Int).map A.int))) (e2 vIx (eVar 0) (eC (.int 0))))) (gNm 3) fb_signs_fixed_2
noncomputable def s_signs_fixed : SS :=
  sSeq (sSet 1 (eLst false (aNil))) (
  sSeq (sSet 2 (eC (.int 0))) (
  sSeq (f_signs_fixed_2) (
  sRet (eFrz (eVar 1)))))
noncomputable def m_signs_fixed : List A → Mem → R A := defSem 4 1 s_signs_fixed
def n_sum_of : List Str := ["signs"]
noncomputable def s_sum_of : SS :=
  sRet (e2 (vMod) (eA (vSumAll) (aCons (eVar 0) (aNil))) (eC (.int 2)))
noncomputable def m_sum_of : List A → Mem → R A := defSem 1 1 s_sum_of
def n_left_at : List Str := ["code", "came", "spots", "fixed", "signs", "spot", "place", "sign"]
noncomputable def ce_left_at_1 : SE := e2 vIx (eVar 1) (eVar 5)
noncomputable def c_left_at_1 : SE := eLc false (iLst (eVar 2)) (.nm 5) (fun _ M => .ok true M) ce_left_at_1 [5]
noncomputable def ct_left_at_2 : ST := (tAnd (tB (e2 vNotN (eVar 7) (eC .non))) (tV (eA m_comes_to (aCons (eVar 6) (aCons (eVar 5) (aNil))))))
noncomputable def ce_left_at_2 : SE := eVar 7
noncomputable def c_left_at_2 : SE := eLc true (iEnum (eVar 3)) (.tp [6, 7]) ct_left_at_2 ce_left_at_2 [6, 7]
noncomputable def fb_left_at_3 : SS :=
  sExpr (eBm mExtend (eVar 4) (aCons (c_left_at_2) (aNil)))
noncomputable def f_left_at_3 : SS := sFor (iLst (eVar 2)) (gNm 5) fb_left_at_3
noncomputable def s_left_at : SS :=
  sSeq (sSet 3 (eA m_signs_fixed (aCons (eVar 0) (aNil)))) (
  sSeq (sSet 4 (c_left_at_1)) (
  sSeq (f_left_at_3) (
  sRet (eA m_sum_of (aCons (eVar 4) (aNil))))))
noncomputable def m_left_at : List A → Mem → R A := defSem 8 3 s_left_at
def n_spots_in : List Str := ["made", "spot"]
noncomputable def ct_spots_in_1 : ST := (tB (e2 vEq (e2 (vAnd) (e2 (vShr) (eVar 0) (eVar 1)) (eC (.int 1))) (eC (.int 1))))
noncomputable def ce_spots_in_1 : SE := eVar 1
noncomputable def c_spots_in_1 : SE := eLc true (iRng1 (eC (.int 32))) (.nm 1) ct_spots_in_1 ce_spots_in_1 [1]
noncomputable def s_spots_in : SS :=
  sRet (c_spots_in_1)
noncomputable def m_spots_in : List A → Mem → R A := defSem 2 1 s_spots_in
def n_solved : List Str := ["code", "came", "solving", "spot", "mask", "made"]
noncomputable def i_solved_1 : SS := sIf (tAnd (tB (e2 vEq (eVar 4) (eC (.int 0)))) (tB (e2 vEq (eA m_left_at (aCons (eVar 0) (aCons (eVar 1) (aCons (eA m_spots_in (aCons (eVar 5) (aNil))) (aNil))))) (eC (.int 1))))) (sRet (eTup (aCons (eVar 2) (aCons (eA m_spots_in (aCons (eVar 5) (aNil))) (aNil))))) (sNext)
noncomputable def i_solved_2 : SS := sIf (tB (e2 vNotN (e2 vIx (eVar 1) (eVar 3)) (eC .non))) (sSeq (sAsg (gTp 2 (gsCons (gNm 4) (gsCons (gNm 5) (gsNil)))) (eM 21 m_Solving_put (eVar 2) (aCons (eA m_unknowns_at (aCons (eVar 0) (aCons (eVar 3) (aNil)))) (aCons (eVar 3) (aNil))))) (
  i_solved_1)) (sNext)
noncomputable def fb_solved_3 : SS :=
  i_solved_2
noncomputable def f_solved_3 : SS := sFor (iRng1 (e2 vIx (eC (.tup (([1, 2, 4, 8, 16, 32] : List Int).map A.int))) (e2 vIx (eVar 0) (eC (.int 0))))) (gNm 3) fb_solved_3
noncomputable def s_solved : SS :=
  sSeq (sSet 2 (eMk 21 m_Solving_init aNil)) (
  sSeq (f_solved_3) (
  sRet (eTup (aCons (eVar 2) (aCons (eC .non) (aNil))))))
noncomputable def m_solved : List A → Mem → R A := defSem 6 2 s_solved
def n_Solving_rows : List Str := ["self"]
noncomputable def s_Solving_rows : SS :=
  sRet (eA (vList true) (aCons (e1 (vFldC 21 0) (eVar 0)) (aNil)))
noncomputable def m_Solving_rows : List A → Mem → R A := defSem 1 1 s_Solving_rows
def n_many_open : List Str := ["code", "solving"]
noncomputable def s_many_open : SS :=
  sRet (e2 (vSub) (eA (vLen) (aCons (e2 vIx (eVar 0) (eC (.int 1))) (aNil))) (eA (vLen) (aCons (eM 21 m_Solving_rows (eVar 1) aNil) (aNil))))
noncomputable def m_many_open : List A → Mem → R A := defSem 2 2 s_many_open
def n_Receiver_left : List Str := ["self", "solving", "wrong"]
noncomputable def i_Receiver_left_1 : SS := sIf (tB (e2 vNotN (eVar 2) (eC .non))) (sRet (eC .non)) (sNext)
noncomputable def s_Receiver_left : SS :=
  sSeq (sAsg (gTp 2 (gsCons (gNm 1) (gsCons (gNm 2) (gsNil)))) (eA m_solved (aCons (e1 (vFldC 22 1) (eVar 0)) (aCons (e1 (vFldC 22 2) (eVar 0)) (aNil))))) (
  sSeq (i_Receiver_left_1) (
  sRet (eA m_many_open (aCons (e1 (vFldC 22 1) (eVar 0)) (aCons (eVar 1) (aNil))))))
noncomputable def m_Receiver_left : List A → Mem → R A := defSem 3 1 s_Receiver_left
def n_data_by : List Str := ["code", "came", "solving", "chosen", "found", "head", "mask", "made", "number", "others", "k"]
noncomputable def ct_data_by_1 : ST := (tAnd (tB (e2 vNe (eVar 10) (eVar 8))) (tB (e2 vEq (e2 (vAnd) (e2 (vShr) (eVar 6) (eVar 10)) (eC (.int 1))) (eC (.int 1)))))
noncomputable def ce_data_by_1 : SE := e2 vIx (eVar 3) (eVar 10)
noncomputable def c_data_by_1 : SE := eLc true (iRng1 (eA (vLen) (aCons (eVar 3) (aNil)))) (.nm 10) ct_data_by_1 ce_data_by_1 [10]
noncomputable def fb_data_by_2 : SS :=
  sSeq (sSet 8 (e2 (vSub) (e1 vBits (eVar 5)) (eC (.int 1)))) (
  sSeq (sSet 9 (c_data_by_1)) (
  sAsg (gIx (eVar 4) (eVar 8)) (eA m_sum_of (aCons (e2 (vAdd true) (eVar 9) (eLst true (aCons (eA m_left_at (aCons (eVar 0) (aCons (eVar 1) (aCons (eA m_spots_in (aCons (eVar 7) (aNil))) (aNil))))) (aNil)))) (aNil)))))
noncomputable def f_data_by_2 : SS := sFor (iLst (eM 21 m_Solving_rows (eVar 2) aNil)) (gTp 3 (gsCons (gNm 5) (gsCons (gNm 6) (gsCons (gNm 7) (gsNil))))) fb_data_by_2
noncomputable def s_data_by : SS :=
  sSeq (sSet 4 (eA (vList false) (aCons (eVar 3) (aNil)))) (
  sSeq (f_data_by_2) (
  sRet (eFrz (eVar 4))))
noncomputable def m_data_by : List A → Mem → R A := defSem 11 4 s_data_by
def n_Receiver_known : List Str := ["self", "solving", "wrong", "many", "signs", "sure", "head", "mask", "made", "number", "sign"]
noncomputable def i_Receiver_known_1 : SS := sIf (tB (e2 vNotN (eVar 2) (eC .non))) (sRet (e2 (vMul true) (eLst true (aCons (eC .non) (aNil))) (eVar 3))) (sNext)
noncomputable def ct_Receiver_known_2 : ST := (tB (e2 vEq (eVar 7) (eVar 6)))
noncomputable def ce_Receiver_known_2 : SE := eVar 7
noncomputable def c_Receiver_known_2 : SE := eLc true (iLst (eM 21 m_Solving_rows (eVar 1) aNil)) (.tp [6, 7, 8]) ct_Receiver_known_2 ce_Receiver_known_2 [6, 7, 8]
noncomputable def ce_Receiver_known_3 : SE := e2 vIx (eLst true (aCons (eC .non) (aCons (eVar 10) (aNil)))) (eA (vInt) (aCons (e2 (vIn false) (e2 (vShl) (eC (.int 1)) (eVar 9)) (eVar 5)) (aNil)))
noncomputable def c_Receiver_known_3 : SE := eLc true (iEnum (eVar 4)) (.tp [9, 10]) (fun _ M => .ok true M) ce_Receiver_known_3 [9, 10]
noncomputable def s_Receiver_known : SS :=
  sSeq (sAsg (gTp 2 (gsCons (gNm 1) (gsCons (gNm 2) (gsNil)))) (eA m_solved (aCons (e1 (vFldC 22 1) (eVar 0)) (aCons (e1 (vFldC 22 2) (eVar 0)) (aNil))))) (
  sSeq (sSet 3 (eA (vLen) (aCons (e2 vIx (e1 (vFldC 22 1) (eVar 0)) (eC (.int 1))) (aNil)))) (
  sSeq (i_Receiver_known_1) (
  sSeq (sSet 4 (eA m_data_by (aCons (e1 (vFldC 22 1) (eVar 0)) (aCons (e1 (vFldC 22 2) (eVar 0)) (aCons (eVar 1) (aCons (e2 (vMul true) (eLst true (aCons (eC (.int 0)) (aNil))) (eVar 3)) (aNil))))))) (
  sSeq (sSet 5 (c_Receiver_known_2)) (
  sRet (c_Receiver_known_3))))))
noncomputable def m_Receiver_known : List A → Mem → R A := defSem 11 1 s_Receiver_known
def n_law_kind : List Str := ["_law_error", "_law_kinds"]
noncomputable def i_law_kind_1 : SS := sIf (tOr (tV (e1 (vIsx (mOf [(0, false), (1, true), (3, false), (9, false), (10, true), (11, true), (15, false), (16, false), (17, false)])) (eVar 0))) (tOr (tNot (tV (e1 (vIsx (mOf [(0, true), (1, true), (3, true), (9, true), (10, true), (11, true), (15, true), (16, true), (17, true)])) (eVar 0)))) (tB (e2 vNe (eA (vSumAll) (aCons (eVar 1) (aNil))) (eC (.int 1)))))) (sRet (eC (.str "odd"))) (sNext)
noncomputable def s_law_kind : SS :=
  sSeq (sSet 1 (eLst false (aCons (e1 (vIsx (mOf [(0, false), (1, false), (3, false), (9, true), (10, false), (11, false), (15, false), (16, false), (17, false)])) (eVar 0)) (aCons (e1 (vIsx (mOf [(0, false), (1, false), (3, true), (9, false), (10, false), (11, false), (15, false), (16, false), (17, false)])) (eVar 0)) (aCons (e1 (vIsx (mOf [(0, false), (1, false), (3, false), (9, false), (10, false), (11, false), (15, true), (16, false), (17, false)])) (eVar 0)) (aNil)))))) (
  sSeq (sExpr (eBm mAppend (eVar 1) (aCons (e1 (vIsx (mOf [(0, false), (1, false), (3, false), (9, false), (10, false), (11, false), (15, false), (16, true), (17, false)])) (eVar 0)) (aNil)))) (
  sSeq (i_law_kind_1) (
  sRet (e2 vIx (eLst true (aCons (eC (.str "code")) (aCons (eC (.str "place")) (aCons (eC (.str "sign")) (aCons (eC (.str "clash")) (aNil)))))) (eBm mIndex (eVar 1) (aCons (eC (.bl true)) (aNil)))))))
noncomputable def m_law_kind : List A → Mem → R A := defSem 2 1 s_law_kind
def n_law_heard : List Str := ["_law_receiver", "_law_spot", "_law_sign", "_law_error", "e"]
noncomputable def i_law_heard_1 : SS := sIf (tB (e2 vIsN (eVar 3) (eC .non))) (sRet (eC (.str "good"))) (sNext)
noncomputable def s_law_heard : SS :=
  sSeq (sSet 3 (eC .non)) (
  sSeq (sTry 4 (mOf [(0, true), (1, true), (3, true), (9, true), (10, true), (11, true), (15, true), (16, true), (17, true)]) (sExpr (eM 22 m_Receiver_hear (eVar 0) (aCons (eVar 1) (aCons (eVar 2) (aNil))))) (sSet 3 (eVar 4))) (
  sSeq (i_law_heard_1) (
  sRet (eA m_law_kind (aCons (eVar 3) (aNil))))))
noncomputable def m_law_heard : List A → Mem → R A := defSem 5 3 s_law_heard
def n_law_right : List Str := ["_law_state", "_law_receiver", "_law_many", "_law_heard_here", "_law_ahead", "_law_spot", "_law_sign", "_law_due", "_law_last"]
noncomputable def i_law_right_1 : SS := sIf (tB (e2 vEq (eVar 7) (eC (.str "clash")))) (sSet 6 (e2 (vSub) (eC (.int 1)) (eVar 6))) (sNext)
noncomputable def i_law_right_2 : SS := sIf (tB (e2 vEq (eA m_law_take (aCons (eVar 0) (aCons (eC (.int 3)) (aNil)))) (eC (.int 0)))) (sSeq (sSet 6 (e2 vIx (eLst true (aCons (eC (.int 2)) (aCons (e1 vNeg (eC (.int 1))) (aCons (eC (.bl true)) (aCons (eC (.bl false)) (aCons (eC .non) (aCons (eC (.str "0")) (aCons (eLst true (aCons (eC (.int 0)) (aNil))) (aCons (e2 (vPow) (eC (.int 10)) (eC (.int 30))) (aNil)))))))))) (eA m_law_take (aCons (eVar 0) (aCons (eC (.int 8)) (aNil)))))) (
  sSet 7 (eC (.str "sign")))) (sNext)
noncomputable def i_law_right_3 : SS := sIf (tB (e2 vEq (eA m_law_take (aCons (eVar 0) (aCons (eC (.int 3)) (aNil)))) (eC (.int 0)))) (sSeq (sSet 5 (e2 vIx (eLst true (aCons (eVar 2) (aCons (e1 vNeg (eC (.int 1))) (aCons (eC (.bl true)) (aCons (eC (.bl false)) (aCons (eC .non) (aCons (eC (.str "0")) (aCons (eLst true (aCons (eC (.int 0)) (aNil))) (aCons (e2 (vPow) (eC (.int 10)) (eC (.int 30))) (aNil)))))))))) (eA m_law_take (aCons (eVar 0) (aCons (eC (.int 8)) (aNil)))))) (
  sSet 7 (eC (.str "place")))) (sNext)
noncomputable def i_law_right_4 : SS := sIf (tB (e2 vNe (eA m_law_heard (aCons (eVar 1) (aCons (eVar 5) (aCons (eVar 6) (aNil))))) (eVar 7))) (sRet (eC (.bl false))) (sNext)
noncomputable def i_law_right_5 : SS := sIf (tB (e2 vNe (eLst true (aCons (eM 22 m_Receiver_came (eVar 1) aNil) (aCons (eM 22 m_Receiver_left (eVar 1) aNil) (aCons (eM 22 m_Receiver_known (eVar 1) aNil) (aNil))))) (eVar 4))) (sRet (eC (.bl false))) (sNext)
noncomputable def s_law_right : SS :=
  sSeq (sSet 4 (eLst true (aCons (eM 22 m_Receiver_came (eVar 1) aNil) (aCons (eM 22 m_Receiver_left (eVar 1) aNil) (aCons (eM 22 m_Receiver_known (eVar 1) aNil) (aNil)))))) (
  sSeq (sAsg (gTp 2 (gsCons (gNm 5) (gsCons (gNm 6) (gsNil)))) (e2 vIx (eVar 3) (eA m_law_take (aCons (eVar 0) (aCons (eA (vLen) (aCons (eVar 3) (aNil))) (aNil)))))) (
  sSeq (sSet 7 (e2 vIx (eLst true (aCons (eC (.str "good")) (aCons (eC (.str "clash")) (aNil)))) (eA m_law_take (aCons (eVar 0) (aCons (eC (.int 2)) (aNil)))))) (
  sSeq (i_law_right_1) (
  sSeq (i_law_right_2) (
  sSeq (i_law_right_3) (
  sSeq (i_law_right_4) (
  sSeq (i_law_right_5) (
  sSeq (sSet 8 (e2 vIx (eVar 3) (e1 vNeg (eC (.int 1))))) (
  sSeq (sExpr (eM 22 m_Receiver_forget (eVar 1) aNil)) (
  sSeq (sSet 7 (eA (vList false) (aCons (e2 vIx (eVar 4) (eC (.int 0))) (aNil)))) (
  sSeq (sAsg (gIx (eVar 7) (e2 vIx (eVar 8) (eC (.int 0)))) (eC .non)) (
  sRet (eAnd (e2 vEq (eM 22 m_Receiver_came (eVar 1) aNil) (eVar 7)) (e2 vEq (eA m_law_heard (aCons (eVar 1) (aCons (e2 vIx (eVar 8) (eC (.int 0))) (aCons (e2 vIx (eVar 8) (eC (.int 1))) (aNil))))) (eC (.str "good"))))))))))))))))
noncomputable def m_law_right : List A → Mem → R A := defSem 9 4 s_law_right
def n_law_made : List Str := ["_law_code_here", "_law_error", "e"]
noncomputable def i_law_made_1 : SS := sIf (tB (e2 vIsN (eVar 1) (eC .non))) (sRet (eC (.str "good"))) (sNext)
noncomputable def s_law_made : SS :=
  sSeq (sSet 1 (eC .non)) (
  sSeq (sTry 2 (mOf [(0, true), (1, true), (3, true), (9, true), (10, true), (11, true), (15, true), (16, true), (17, true)]) (sExpr (eMk 22 m_Receiver_init (aCons (eVar 0) (aNil)))) (sSet 1 (eVar 2))) (
  sSeq (i_law_made_1) (
  sRet (eA m_law_kind (aCons (eVar 1) (aNil))))))
noncomputable def m_law_made : List A → Mem → R A := defSem 3 1 s_law_made
def n_law : List Str := ["_law_script", "_law_k", "_law_state", "_law_code_here", "_law_many", "_law_receiver", "_law_heard_here", "_law_turn", "_law_spot", "_law_bad", "_law_one"]
noncomputable def ce_law_1 : SE := e2 vIx (eVar 10) (eC (.int 0))
noncomputable def c_law_1 : SE := eLc true (iLst (eVar 6)) (.nm 10) (fun _ M => .ok true M) ce_law_1 [10]
noncomputable def i_law_2 : SS := sIf (tB (e2 (vIn true) (eVar 8) (c_law_1))) (sSeq (sExpr (eBm mAppend (eVar 6) (aCons (eTup (aCons (eVar 8) (aCons (eA m_law_take (aCons (eVar 2) (aCons (eC (.int 2)) (aNil)))) (aNil)))) (aNil)))) (
  sExpr (eM 22 m_Receiver_hear (eVar 5) (aCons (e2 vIx (e2 vIx (eVar 6) (e1 vNeg (eC (.int 1)))) (eC (.int 0))) (aCons (e2 vIx (e2 vIx (eVar 6) (e1 vNeg (eC (.int 1)))) (eC (.int 1))) (aNil)))))) (sNext)
noncomputable def fb_law_3 : SS :=
  sSeq (sSet 8 (eA m_law_take (aCons (eVar 2) (aCons (eVar 4) (aNil))))) (
  i_law_2)
noncomputable def f_law_3 : SS := sFor (iRng1 (e2 (vAdd true) (eC (.int 1)) (eA m_law_take (aCons (eVar 2) (aCons (eC (.int 4)) (aNil)))))) (gNm 7) fb_law_3
noncomputable def i_law_4 : SS := sIf (tNot (tV (eA m_law_right (aCons (eVar 2) (aCons (eVar 5) (aCons (eVar 4) (aCons (eVar 6) (aNil)))))))) (sRet (eC (.bl false))) (sNext)
noncomputable def fb_law_5 : SS :=
  i_law_4
noncomputable def f_law_5 : SS := sFor (iRng1 (eC (.int 3))) (gNm 7) fb_law_5
noncomputable def i_law_6 : SS := sIf (tB (e2 vNe (eA m_law_made (aCons (e2 vIx (eVar 9) (eA m_law_take (aCons (eVar 2) (aCons (eC (.int 10)) (aNil))))) (aNil))) (eC (.str "code")))) (sRet (eC (.bl false))) (sNext)
noncomputable def i_law_7 : SS := sIf (tB (e2 vEq (eA m_law_take (aCons (eVar 2) (aCons (eC (.int 4)) (aNil)))) (eC (.int 0)))) (sSeq (sSet 9 (eLst true (aCons (eC .non) (aCons (eLst true (aNil)) (aCons (eC (.str "**")) (aCons (eTup (aCons (e2 vIx (eVar 3) (eC (.int 0))) (aCons (eLst true (aNil)) (aCons (e2 vIx (eVar 3) (eC (.int 2))) (aNil))))) (aCons (eCut true (eVar 3) oNo (oSome (eC (.int 2)))) (aCons (eLst true (aCons (e2 vIx (eVar 3) (eC (.int 0))) (aCons (e2 vIx (eVar 3) (eC (.int 1))) (aCons (e2 vIx (eVar 3) (eC (.int 2))) (aNil))))) (aNil))))))))) (
  sSeq (sSet 9 (e2 (vAdd true) (eVar 9) (eLst true (aCons (eTup (aCons (eC (.int 6)) (aCons (e2 vIx (eVar 3) (eC (.int 1))) (aCons (e2 vIx (eVar 3) (eC (.int 2))) (aNil))))) (aCons (eTup (aCons (e2 vIx (eVar 3) (eC (.int 0))) (aCons (e2 vIx (eVar 3) (eC (.int 1))) (aCons (e2 (vAdd true) (e2 vIx (eVar 3) (eC (.int 2))) (eLst true (aCons (eC (.int 0)) (aNil)))) (aNil))))) (aCons (eTup (aCons (eC (.bl true)) (aCons (eLst true (aCons (eC (.int 0)) (aNil))) (aCons (eLst true (aCons (eC (.int 0)) (aNil))) (aNil))))) (aCons (eTup (aCons (eC (.int 0)) (aCons (eLst true (aCons (eC (.int 0)) (aNil))) (aCons (eLst true (aNil)) (aNil))))) (aNil)))))))) (
  i_law_6))) (sNext)
noncomputable def fb_law_8 : SS :=
  sSeq (sSet 2 (eA m_law_begun (aCons (eVar 0) (aCons (eVar 1) (aNil))))) (
  sSeq (sSet 3 (eA m_law_code (aCons (eVar 2) (aCons (e2 (vAdd true) (eC (.int 1)) (eA m_law_take (aCons (eVar 2) (aCons (eC (.int 5)) (aNil))))) (aNil))))) (
  sSeq (sSet 4 (e2 (vAdd true) (eA (vLen) (aCons (e2 vIx (eVar 3) (eC (.int 1))) (aNil))) (eA (vLen) (aCons (e2 vIx (eVar 3) (eC (.int 2))) (aNil))))) (
  sSeq (sSet 5 (eMk 22 m_Receiver_init (aCons (eVar 3) (aNil)))) (
  sSeq (sSet 6 (eLst false (aNil))) (
  sSeq (f_law_3) (
  sSeq (f_law_5) (
  i_law_7)))))))
noncomputable def f_law_8 : SS := sFor (iRng1 (eA (vI2 fun i j => if j > i then j else i) (aCons (eC (.int 1)) (aCons (eA (vI2 fun i j => if j < i then j else i) (aCons (eC (.int 40)) (aCons (eA (vLen) (aCons (eVar 0) (aNil))) (aNil)))) (aNil))))) (gNm 1) fb_law_8
noncomputable def s_law : SS :=
  sSeq (f_law_8) (
  sRet (eC (.bl true)))
noncomputable def m_law : List A → Mem → R A := defSem 11 1 s_law
end G

namespace G
open PySem PySem.Spec L2 AL
/-! the state that numbers are drawn from -/
abbrev stMO (a b : Int) (c : Bool) : MO := .lst [.int a, .int b, .bl c]
def StOk (a b : Int) : Prop := 0 ≤ a ∧ 0 ≤ b ∧ b < 2147483647
theorem at_lt {M : Mem} {n : Nat} {o : MO} (h : M[n]? = some o) : n < M.length := (List.getElem?_eq_some_iff.mp h).1
theorem set_self {M : Mem} {n : Nat} {o : MO} (h : M[n]? = some o) : M.set n o = M := by
  apply List.ext_getElem?
  intro i
  by_cases e : i = n
  · subst e
    rw [List.getElem?_set_self (List.getElem?_eq_some_iff.mp h).1, h]
  · rw [List.getElem?_set_ne (Ne.symm e)]
section
variable {M : Mem} {n : Nat} {a b x : Int} {c y : Bool}
theorem st_at (hn : n < M.length) : (M.set n (stMO a b c))[n]? = some (stMO a b c) := List.getElem?_set_self hn
theorem st_ix0 (hn : n < M.length) : vIx (.loc n) (.int 0) (M.set n (stMO a b c)) = .ok (.int a) (M.set n (stMO a b c)) := vIx_of (asL_loc (st_at hn)) (by decide) rfl
theorem st_ix1 (hn : n < M.length) : vIx (.loc n) (.int 1) (M.set n (stMO a b c)) = .ok (.int b) (M.set n (stMO a b c)) := vIx_of (asL_loc (st_at hn)) (by decide) rfl
theorem st_ix2 (hn : n < M.length) : vIx (.loc n) (.int 2) (M.set n (stMO a b c)) = .ok (.bl c) (M.set n (stMO a b c)) := vIx_of (asL_loc (st_at hn)) (by decide) rfl
theorem st_set0 (hn : n < M.length) : setIx (.loc n) (.int 0) (.int x) (M.set n (stMO a b c)) = some (M.set n (stMO x b c)) := by
  rw [setIx_of (st_at hn) (by decide) (by simp), List.set_set]; rfl
theorem st_set1 (hn : n < M.length) : setIx (.loc n) (.int 1) (.int x) (M.set n (stMO a b c)) = some (M.set n (stMO a x c)) := by
  rw [setIx_of (st_at hn) (by decide) (by simp), List.set_set]; rfl
theorem st_set2 (hn : n < M.length) : setIx (.loc n) (.int 2) (.bl y) (M.set n (stMO a b c)) = some (M.set n (stMO a b y)) := by
  rw [setIx_of (st_at hn) (by decide) (by simp), List.set_set]; rfl
theorem st_bnd {k : Nat} : bndM k (stMO a b c) := rfl
end
theorem log_small {m : Int} (h : 0 < m) (h2 : m < 2 ^ 60) : m.natAbs.log2 < 9000 := by
  have : m.natAbs < 2 ^ 60 := by omega
  have := (Nat.log2_lt (n := m.natAbs) (k := 60) (by omega)).mpr this
  omega
theorem take_ok {M : Mem} {n : Nat} {a b m : Int} {c : Bool} (hn : n < M.length) (hs : StOk a b) (hm : 0 < m) (hm2 : m < 2 ^ 60) :
    ∃ d a' b' c', m_law_take [.loc n, .int m] (M.set n (stMO a b c)) = .ok (.int d) (M.set n (stMO a' b' c')) ∧ StOk a' b' ∧ 0 ≤ d ∧ d < m := by
  obtain ⟨ha, hb, hb2⟩ := hs
  have hl := log_small hm hm2
  have fin_ : ∀ (d a' b' : Int) (c' : Bool), AL.exit (M.set n (stMO a b c)) (.ok (.int d) (M.set n (stMO a' b' c'))) = .ok (.int d) (M.set n (stMO a' b' c')) := fun d a' b' c' => by
    have := exit_set (M := M.set n (stMO a b c)) (n := n) (o := stMO a' b' c') (a := .int d) rfl rfl
    rwa [List.set_set] at this
  have hd : m_law_take [.loc n, .int m] (M.set n (stMO a b c)) = AL.exit (M.set n (stMO a b c)) (fin (s_law_take (start0 5 [.loc n, .int m]) (M.set n (stMO a b c)))) := def_of rfl
  rw [hd]
  cases c with
  | true =>
    refine ⟨a % m, a / m, b, decide (0 < a / m), ?_, ⟨Int.ediv_nonneg ha (by omega), hb, hb2⟩, Int.emod_nonneg _ (by omega), Int.emod_lt_of_pos _ hm⟩
    rw [← fin_]
    simp [s_law_take, i_law_take_1, start0, fin, st_ix0 hn, st_ix1 hn, st_ix2 hn, st_set0 hn, st_set2 hn, w_mod hm, w_fdiv hm hl]
  | false =>
    have loop : ∃ made b' x, 0 ≤ b' ∧ b' < 2147483647 ∧ f_law_take_2 [some (.loc n), some (.int m), none, some (.int 0), none] (M.set n (stMO a b false)) = .nx [some (.loc n), some (.int m), none, some (.int made), x] (M.set n (stMO a b' false)) := by
      have hp : vPow (.int 10) (.int 6) (M.set n (stMO a b false)) = .ok (.int (10 ^ 6)) (M.set n (stMO a b false)) := w_pow (by decide) (by decide) (by decide)
      have hi : ∃ k : Nat, k ≤ 2 ∧ f_law_take_2 [some (.loc n), some (.int m), none, some (.int 0), none] (M.set n (stMO a b false)) = forGo ⟨rngA 0 k, []⟩ (gNm 4) fb_law_take_2 (rngA 0 k) [some (.loc n), some (.int m), none, some (.int 0), none] (M.set n (stMO a b false)) := by
        unfold f_law_take_2
        by_cases h : (1000000 : Int) < m
        · exact ⟨2, by decide, by simp [v_for, AL.iRng1, hp, h]⟩
        · exact ⟨1, by decide, by simp [v_for, AL.iRng1, hp, h]⟩
      obtain ⟨k, hk, hi⟩ := hi
      rw [hi]
      obtain ⟨ro', M', h1, made, b', x, h2, h3, h4, h5⟩ := forGo_all (ai := ⟨rngA 0 k, []⟩) (g := gNm 4) (b := fb_law_take_2)
        (fun _ ro M' => ∃ made b' x, 0 ≤ b' ∧ b' < 2147483647 ∧ ro = [some (.loc n), some (.int m), none, some (.int made), x] ∧ M' = M.set n (stMO a b' false)) (fun _ _ _ _ _ p hp => nomatch hp)
        (fun k x ro M' _ h => by
          obtain ⟨made, b', x4, h2, h3, rfl, rfl⟩ := h
          refine ⟨_, _, _, _, rfl, .inl ?_, made * 2147483587 + ((b' * 48271 + 11) % 2147483647) * ((b' * 48271 + 11) % 2147483647) % 2147483587, (b' * 48271 + 11) % 2147483647, some x, Int.emod_nonneg _ (by decide), Int.emod_lt_of_pos _ (by decide), rfl, rfl⟩
          have q1 : ∀ M : Mem, vMul true (.int b') (.int 48271) M = .ok (.int (b' * 48271)) M := fun M => w_mul (.inr (by decide))
          have q2 : ∀ (j : Int) (M : Mem), vMod (.int j) (.int 2147483647) M = .ok (.int (j % 2147483647)) M := fun j M => w_mod (by decide)
          have q3 : ∀ (j : Int) (M : Mem), vMod (.int j) (.int 2147483587) M = .ok (.int (j % 2147483587)) M := fun j M => w_mod (by decide)
          have q4 : ∀ M : Mem, vMul true (.int made) (.int 2147483587) M = .ok (.int (made * 2147483587)) M := fun M => w_mul (.inr (by decide))
          have q5 : ∀ M : Mem, vMul true (.int ((b' * 48271 + 11) % 2147483647)) (.int ((b' * 48271 + 11) % 2147483647)) M = .ok (.int (((b' * 48271 + 11) % 2147483647) * ((b' * 48271 + 11) % 2147483647))) M := fun M => w_mul (.inr (by omega))
          simp [fb_law_take_2, q1, q2, q3, q4, q5, st_ix1 hn, st_set1 hn])
        [some (.loc n), some (.int m), none, some (.int 0), none] (M.set n (stMO a b false)) ⟨0, b, none, hb, hb2, rfl, rfl⟩
      exact ⟨made, b', x, h2, h3, by rw [← h4, ← h5]; exact h1⟩
    obtain ⟨made, b', x, h1, h2, h3⟩ := loop
    refine ⟨made / 64 % m, a, b', false, ?_, ⟨ha, h1, h2⟩, Int.emod_nonneg _ (by omega), Int.emod_lt_of_pos _ hm⟩
    rw [← fin_]
    have q1 : ∀ M : Mem, vFdiv (.int made) (.int 64) M = .ok (.int (made / 64)) M := fun M => w_fdiv (by decide) (by decide)
    simp [s_law_take, i_law_take_1, start0, st_ix2 hn, h3, fin, q1, w_mod hm]

/-! the script's cells -/
theorem cut_ints (ns : List Int) (lo hi : Option Int) : ∃ ms : List Int, cutA (ns.map A.int) lo hi = ms.map A.int ∧ ms.length ≤ ns.length := by
  unfold cutA
  rw [← List.map_drop, ← List.map_take]
  exact ⟨_, rfl, by simp; omega⟩
theorem begun_ok {M : Mem} {ns : List Int} {k : Int} (hl : ns.length ≤ 63) (h0 : 0 ≤ k) (hk : k < 1000) : ∃ a b c, StOk a b ∧ m_law_begun [scr ns, .int k] M = .ok (.loc M.length) (M ++ [stMO a b c]) := by
  have hd : m_law_begun [scr ns, .int k] M = AL.exit M (fin (s_law_begun (start0 5 [scr ns, .int k]) M)) := def_of rfl
  rw [hd]
  obtain ⟨ms, e, hms⟩ := cut_ints ns (some k) (some (k + 1))
  have q0 : vCut true (scr ns) (some k) (some (k + 1)) M = .ok (.lst (ms.map A.int)) M := by
    show mkL true (cutA (ns.map A.int) (some k) (some (k + 1))) M = _
    rw [e, w_mkLt (by simp; omega)]
  have q1 : vAdd true (.lst (ms.map A.int)) (.lst [.int 0]) M = .ok (.lst ((ms ++ [0]).map A.int)) M := by
    show mkL true (ms.map A.int ++ [.int 0]) M = _
    rw [w_mkLt (by simp; omega)]
    simp
  obtain ⟨cell, hc⟩ : ∃ cell, (ms ++ [0])[0]? = some cell := ⟨_, List.getElem?_eq_getElem (by simp)⟩
  have q2 : vIx (.lst ((ms ++ [0]).map A.int)) (.int 0) M = .ok (.int cell) M := vIx_of (xs := (ms ++ [0]).map A.int) rfl (by decide) (by rw [List.getElem?_map]; show Option.map _ ((ms ++ [0])[0]?) = _; rw [hc]; rfl)
  obtain ⟨L, q1, q2⟩ : ∃ L, vAdd true (.lst (ms.map A.int)) (.lst [.int 0]) M = .ok (.lst L) M ∧ vIx (.lst L) (.int 0) M = .ok (.int cell) M := ⟨_, q1, q2⟩
  have q3 : mkL true [.int 0] M = .ok (.lst [.int 0]) M := w_mkLt (by simp)
  have q4 : ∀ i, vMod (.int i) (.int 2147483629) M = .ok (.int (i % 2147483629)) M := fun i => w_mod (by decide)
  have q5 : vMul true (.int 7919) (.int k) M = .ok (.int (7919 * k)) M := w_mul (.inl (by decide))
  have q6 : vMul true (.int 104729) (.int k) M = .ok (.int (104729 * k)) M := w_mul (.inl (by decide))
  have q7 : vMul true (.int (104729 * k)) (.int k) M = .ok (.int (104729 * k * k)) M := w_mul (.inr (by omega))
  have q8 : vPow (.int 10) (.int 18) M = .ok (.int (10 ^ 18)) M := w_pow (by decide) (by decide) (by decide)
  have q9 : ∀ a b c, mkL false [.int a, .int b, .bl c] M = .ok (.loc M.length) (M ++ [stMO a b c]) := fun a b c => w_mkLf (by simp)
  have fin_ : ∀ a b c, AL.exit M (.ok (.loc M.length) (M ++ [stMO a b c])) = .ok (.loc M.length) (M ++ [stMO a b c]) := fun a b c => exit_new (E := []) (o := stMO a b c) rfl (fun z => nomatch z)
  obtain ⟨N, hN⟩ : ∃ N, N = (if -1 - cell > cell then -1 - cell else cell) := ⟨_, rfl⟩
  have hN0 : 0 ≤ N := by rw [hN]; split <;> omega
  refine ⟨N, (N % 2147483629 + 7919 * k + 104729 * k * k + 11) % 2147483629, decide (10 ^ 18 ≤ N), ⟨hN0, Int.emod_nonneg _ (by decide), Int.lt_trans (Int.emod_lt_of_pos _ (by decide : (0 : Int) < 2147483629)) (by decide)⟩, ?_⟩
  rw [← fin_]
  simp [s_law_begun, start0, fin, q0, q1, q2, q3, q4, q5, q6, q7, q8, q9, ← hN]

/-! codes -/
def rg (n : Nat) : List Int := (List.range n).map Int.ofNat
theorem rngA0 (n : Nat) : rngA 0 n = (rg n).map A.int := by
  unfold rngA rg
  rw [List.map_map]
  apply List.map_congr_left
  intro k _
  simp
theorem rng1_of {fa : SE} {ro : Ro} {M M1 : Mem} {m : Nat} (h : fa ro M = .ok (.int (m : Nat)) M1) (hm : m ≤ 4096) : AL.iRng1 fa ro M = .ok ⟨(rg m).map A.int, []⟩ M1 := by
  have hc : ((m : Nat) : Int).natAbs < 2 ^ 62 := by omega
  unfold AL.iRng1
  rw [h, r_ok]
  simp only
  rw [if_pos hc, Int.toNat_natCast, rngA0]
theorem rg_len (n : Nat) : (rg n).length = n := by simp [rg]
theorem rg_mem {n : Nat} {x : Int} (h : x ∈ rg n) : 0 ≤ x ∧ x < n := by
  obtain ⟨k, hk, rfl⟩ := List.mem_map.mp h
  have := List.mem_range.mp hk
  exact ⟨Int.natCast_nonneg k, by show (k : Int) < n; omega⟩
theorem mem_rg {n : Nat} {x : Int} (h0 : 0 ≤ x) (h : x < n) : x ∈ rg n := List.mem_map.mpr ⟨x.toNat, List.mem_range.mpr (by omega), by show ((x.toNat : Nat) : Int) = x; omega⟩
theorem tab_ix {s : Int} (h0 : 0 ≤ s) (h1 : s ≤ 5) : ([1, 2, 4, 8, 16, 32] : List Int)[s.toNat]? = some ((2 ^ s.toNat : Nat) : Int) := by
  have h : ∀ n : Fin 6, ([1, 2, 4, 8, 16, 32] : List Int)[n.val]? = some ((2 ^ n.val : Nat) : Int) := by decide
  exact h ⟨s.toNat, by omega⟩
theorem many_le {s : Int} (h0 : 0 ≤ s) (h1 : s ≤ 5) : 2 ^ s.toNat ≤ 32 := by
  have h : ∀ n : Fin 6, 2 ^ n.val ≤ 32 := by decide
  exact h ⟨s.toNat, by omega⟩
theorem many_pos (s : Int) : 0 < 2 ^ s.toNat := Nat.two_pow_pos _
structure GC (s : Int) (free fixed : List Int) : Prop where
  s1 : 1 ≤ s
  s5 : s ≤ 5
  sub : free.Sublist (rg (2 ^ s.toNat))
  ne : free ≠ []
  fx : ∀ x ∈ fixed, x = 0 ∨ x = 1
  len : free.length + fixed.length = 2 ^ s.toNat
abbrev codeA (s : Int) (free fixed : List Int) : A := .tup [.int s, .lst (free.map A.int), .lst (fixed.map A.int)]
section
variable {M : Mem} {n : Nat} {a b : Int} {c : Bool}
theorem code_c1 (hn : n < M.length) (hs : StOk a b) {x1 x4 x5 x6 : Option A} {m w : Int} (hm0 : 0 ≤ m) (hm : m ≤ 64) (hw0 : 0 ≤ w) (hw : w < 4) :
    ∃ (l : List Int) (a' b' : Int) (c' : Bool), c_law_code_1 [some (.loc n), x1, some (.int m), some (.int w), x4, x5, x6] (M.set n (stMO a b c)) = .ok (.lst (l.map A.int)) (M.set n (stMO a' b' c')) ∧ StOk a' b' ∧ l.Sublist (rg m.toNat) := by
  have hi : (AL.iRng1 (eVar 2)) [some (.loc n), x1, some (.int m), some (.int w), x4, x5, x6] (M.set n (stMO a b c)) = .ok ⟨(rg m.toNat).map A.int, []⟩ (M.set n (stMO a b c)) := by
    simp [AL.iRng1, rngA0]
    omega
  obtain ⟨acc, M', h1, ⟨a', b', c', l, h2, h3, h4, h5⟩, h6⟩ := lcGo_inv (ai := ⟨(rg m.toNat).map A.int, []⟩) (c := .nm 6) (t := ct_law_code_1) (e := ce_law_code_1) (ro := wipeA [some (.loc n), x1, some (.int m), some (.int w), x4, x5, x6] [6])
    (fun k acc M' => ∃ (a' b' : Int) (c' : Bool) (l : List Int), StOk a' b' ∧ M' = M.set n (stMO a' b' c') ∧ acc = l.map A.int ∧ l.Sublist ((rg m.toNat).take k)) (by simp [rg_len]; omega) (fun _ _ _ _ _ p hp => nomatch hp)
    (fun k x acc M' hx h => by
      obtain ⟨a', b', c', l, h2, rfl, rfl, h5⟩ := h
      rw [List.getElem?_map] at hx
      obtain ⟨i, hi, rfl⟩ := Option.map_eq_some_iff.mp hx
      obtain ⟨m2, hm2, hm3⟩ : ∃ m2 : Int, ([2, 2, 3, 8] : List Int)[w.toNat]? = some m2 ∧ 0 < m2 ∧ m2 < 2 ^ 60 := by
        have : ∀ k : Fin 4, ∃ m2 : Int, ([2, 2, 3, 8] : List Int)[k.val]? = some m2 ∧ 0 < m2 ∧ m2 < 2 ^ 60 := by decide
        exact this ⟨w.toNat, by omega⟩
      obtain ⟨d, a2, b2, c2, e1, e2, e3, e4⟩ := take_ok (c := c') hn h2 hm3.1 hm3.2
      refine ⟨_, decide (d = 0), M.set n (stMO a2 b2 c2), rfl, ?_, ?_⟩
      · have q1 : ∀ M : Mem, vIx (.lst [.int 2, .int 2, .int 3, .int 8]) (.int w) M = .ok (.int m2) M := fun M => vIx_of (xs := [.int 2, .int 2, .int 3, .int 8]) rfl hw0 (by
          have : ([2, 2, 3, 8] : List Int).map A.int = [.int 2, .int 2, .int 3, .int 8] := rfl
          rw [← this, List.getElem?_map, hm2]; rfl)
        have q2 : ∀ M : Mem, mkL true [.int 2, .int 2, .int 3, .int 8] M = .ok (.lst [.int 2, .int 2, .int 3, .int 8]) M := fun M => w_mkLt (by simp)
        simp [ct_law_code_1, wipeA, q1, q2, e1]
      · have ht : (rg m.toNat).take (k + 1) = (rg m.toNat).take k ++ [i] := by rw [List.take_add_one, hi]; rfl
        by_cases hd : d = 0
        · refine .inr ⟨by simp [hd], .int i, M.set n (stMO a2 b2 c2), by simp [ce_law_code_1, wipeA], a2, b2, c2, l ++ [i], e2, rfl, by simp, ?_⟩
          rw [ht]
          exact h5.append (List.Sublist.refl _)
        · exact .inl ⟨by simp [hd], a2, b2, c2, l, e2, rfl, rfl, by rw [ht]; exact h5.trans (List.sublist_append_left _ _)⟩) (M := M.set n (stMO a b c)) ⟨a, b, c, [], hs, rfl, rfl, by simp⟩
  refine ⟨l, a', b', c', ?_, h2, by rw [List.length_map, List.take_of_length_le (by simp)] at h5; exact h5⟩
  unfold c_law_code_1
  rw [v_lc, hi, r_ok]
  simp only
  rw [h1, r_ok, w_mkLt (by simp [rg_len] at h6; omega), h3, h4]
theorem code_c2 {M : Mem} {free : List Int} {x0 x1 x3 x5 x6 : Option A} {m : Int} (hm0 : 0 ≤ m) (hm : m ≤ 64) : ∃ l : List Int, c_law_code_2 [x0, x1, some (.int m), x3, some (.lst (free.map A.int)), x5, x6] M = .ok (.lst (l.map A.int)) M ∧ l.Sublist (rg m.toNat) := by
  have hi : (AL.iRng1 (eVar 2)) [x0, x1, some (.int m), x3, some (.lst (free.map A.int)), x5, x6] M = .ok ⟨(rg m.toNat).map A.int, []⟩ M := by
    simp [AL.iRng1, rngA0]
    omega
  refine ⟨(rg m.toNat).filter fun i => !decide (i ∈ free), ?_, List.filter_sublist⟩
  unfold c_law_code_2
  rw [v_lc, hi, r_ok]
  simp only
  rw [lcGo_pure (fun x => match x with | .int i => !decide (i ∈ free) | _ => false) id (by simp [rg_len]; omega) (by intro p hp; cases hp) (fun x hx => by
    obtain ⟨i, hi, rfl⟩ := List.mem_map.mp hx
    refine ⟨_, rfl, ?_, fun _ => by simp [ce_law_code_2, wipeA]⟩
    have q : vIn true (.int i) (.lst (free.map A.int)) M = _ := vIn_ints (neg := true) rfl
    simp [ct_law_code_2, wipeA, q])]
  rw [r_ok, w_mkLt (by
    rw [List.map_id]
    exact Nat.le_trans (List.length_filter_le _ _) (by simp [rg_len]; omega))]
  congr 2
  rw [List.map_id, List.filter_map]
  rfl
theorem code_c3 (hn : n < M.length) (hs : StOk a b) {free : List Int} {x1 x5 x6 : Option A} {m w : Int} (hm : m ≤ 64) (hf : free.length ≤ m) :
    ∃ (l : List Int) (a' b' : Int) (c' : Bool), c_law_code_5 [some (.loc n), x1, some (.int m), some (.int w), some (.lst (free.map A.int)), x5, x6] (M.set n (stMO a b c)) = .ok (.lst (l.map A.int)) (M.set n (stMO a' b' c')) ∧ StOk a' b' ∧ (∀ x ∈ l, x = 0 ∨ x = 1) ∧ (l.length : Int) = m - free.length := by
  have hi : (AL.iRng1 (e2 (vSub) (eVar 2) (eA (vLen) (aCons (eVar 4) (aNil))))) [some (.loc n), x1, some (.int m), some (.int w), some (.lst (free.map A.int)), x5, x6] (M.set n (stMO a b c)) = .ok ⟨(rg (m - free.length).toNat).map A.int, []⟩ (M.set n (stMO a b c)) := by
    simp [AL.iRng1, rngA0, vLen, asS, asL]
    omega
  obtain ⟨acc, M', h1, ⟨a', b', c', l, h2, h3, h4, h5, h6⟩, _⟩ := lcGo_inv (ai := ⟨(rg (m - free.length).toNat).map A.int, []⟩) (c := .nm 6) (t := fun _ M => .ok true M) (e := ce_law_code_5) (ro := wipeA [some (.loc n), x1, some (.int m), some (.int w), some (.lst (free.map A.int)), x5, x6] [6])
    (fun k acc M' => ∃ (a' b' : Int) (c' : Bool) (l : List Int), StOk a' b' ∧ M' = M.set n (stMO a' b' c') ∧ acc = l.map A.int ∧ (∀ x ∈ l, x = 0 ∨ x = 1) ∧ l.length = k) (by simp [rg_len]; omega) (fun _ _ _ _ _ p hp => nomatch hp)
    (fun k x acc M' hx h => by
      obtain ⟨a', b', c', l, h2, rfl, rfl, h5, h6⟩ := h
      obtain ⟨d, a2, b2, c2, e1, e2, e3, e4⟩ := take_ok (c := c') (m := 2) hn h2 (by decide) (by decide)
      refine ⟨_, true, _, rfl, rfl, .inr ⟨rfl, .int (d * if w < 2 then 1 else 0), M.set n (stMO a2 b2 c2), ?_, a2, b2, c2, l ++ [d * if w < 2 then 1 else 0], e2, rfl, by simp, ?_, by simp [h6]⟩⟩
      · have q : ∀ (j : Int) (M : Mem), vMul true (.int d) (.int j) M = .ok (.int (d * j)) M := fun j M => w_mul (.inl (by omega))
        simp [ce_law_code_5, wipeA, e1, q]
      · intro y hy
        rcases List.mem_append.mp hy with hy | hy
        · exact h5 y hy
        · rw [List.mem_singleton.mp hy]
          split <;> omega) (M := M.set n (stMO a b c)) ⟨a, b, c, [], hs, rfl, rfl, by simp, rfl⟩
  refine ⟨l, a', b', c', ?_, h2, h5, by simp [rg_len] at h6; omega⟩
  unfold c_law_code_5
  rw [v_lc, hi, r_ok]
  simp only
  rw [h1, r_ok, w_mkLt (by rw [h4]; simp [rg_len] at h6; simp; omega), h3, h4]
end

theorem code_ok {M : Mem} {n : Nat} {a b s : Int} {c : Bool} (hn : n < M.length) (hs : StOk a b) (h1 : 1 ≤ s) (h5 : s ≤ 5) :
    ∃ (free fixed : List Int) (a' b' : Int) (c' : Bool), m_law_code [.loc n, .int s] (M.set n (stMO a b c)) = .ok (codeA s free fixed) (M.set n (stMO a' b' c')) ∧ StOk a' b' ∧ GC s free fixed := by
  have hd : m_law_code [.loc n, .int s] (M.set n (stMO a b c)) = AL.exit (M.set n (stMO a b c)) (fin (s_law_code (start0 7 [.loc n, .int s]) (M.set n (stMO a b c)))) := def_of rfl
  rw [hd]
  have hm := many_le (by omega : 0 ≤ s) h5
  have hp := many_pos s
  obtain ⟨m, hm'⟩ : ∃ m : Int, m = ((2 ^ s.toNat : Nat) : Int) := ⟨_, rfl⟩
  have q1 : ∀ M : Mem, vIx (.lst [.int 1, .int 2, .int 4, .int 8, .int 16, .int 32]) (.int s) M = .ok (.int m) M := fun M => vIx_of (xs := ([1, 2, 4, 8, 16, 32] : List Int).map A.int) rfl (by omega) (by rw [List.getElem?_map, tab_ix (by omega) h5, hm']; rfl)
  have q2 : ∀ M : Mem, mkL true [.int 1, .int 2, .int 4, .int 8, .int 16, .int 32] M = .ok (.lst [.int 1, .int 2, .int 4, .int 8, .int 16, .int 32]) M := fun M => w_mkLt (by simp)
  obtain ⟨w, a1, b1, c1, t1, s1, w0, w4⟩ := take_ok (c := c) (m := 4) hn hs (by decide) (by decide)
  obtain ⟨l, a2, b2, c2, t2, s2, sub2⟩ := code_c1 (c := c1) (x1 := some (.int s)) (x4 := none) (x5 := none) (x6 := none) (m := m) hn s1 (by omega) (by omega) w0 w4
  -- the places of the second road
  obtain ⟨l3, t3, sub3⟩ : ∃ l3 : List Int, i_law_code_3 [some (.loc n), some (.int s), some (.int m), some (.int w), some (.lst (l.map A.int)), none, none] (M.set n (stMO a2 b2 c2)) = .nx [some (.loc n), some (.int s), some (.int m), some (.int w), some (.lst (l3.map A.int)), none, none] (M.set n (stMO a2 b2 c2)) ∧ l3.Sublist (rg m.toNat) := by
    by_cases hw : w = 1
    · obtain ⟨l3, e, sub⟩ := code_c2 (M := M.set n (stMO a2 b2 c2)) (free := l) (x0 := some (.loc n)) (x1 := some (.int s)) (x3 := some (.int w)) (x5 := none) (x6 := none) (m := m) (by omega) (by omega)
      exact ⟨l3, by subst hw; simp [i_law_code_3, e], sub⟩
    · exact ⟨l, by simp [i_law_code_3, hw], sub2⟩
  -- none free: one
  obtain ⟨l4, a4, b4, c4, t4, s4, sub4, ne4⟩ : ∃ (l4 : List Int) (a4 b4 : Int) (c4 : Bool), i_law_code_4 [some (.loc n), some (.int s), some (.int m), some (.int w), some (.lst (l3.map A.int)), none, none] (M.set n (stMO a2 b2 c2)) = .nx [some (.loc n), some (.int s), some (.int m), some (.int w), some (.lst (l4.map A.int)), none, none] (M.set n (stMO a4 b4 c4)) ∧ StOk a4 b4 ∧ l4.Sublist (rg m.toNat) ∧ l4 ≠ [] := by
    have z : ∀ M, mkL true [] M = .ok (.lst []) M := fun M => w_mkLt (by simp)
    have q : ∀ M, vEq (.lst (l3.map A.int)) (.lst []) M = .ok (.bl (decide (A.lst (l3.map A.int) = .lst []))) M := fun M => vEq_pl (pl_ints (n := 7)) (pl_ints (n := 7) (ns := []))
    by_cases h3 : l3 = []
    · subst h3
      obtain ⟨d, a4, b4, c4, e, s4, d0, dm⟩ := take_ok (c := c2) (m := m) hn s2 (by omega) (by omega)
      have z1 : ∀ M, mkL true [.int d] M = .ok (.lst [.int d]) M := fun M => w_mkLt (by simp)
      refine ⟨[d], a4, b4, c4, ?_, s4, ?_, by simp⟩
      · have q := q
        simp only [List.map_nil] at q
        simp [i_law_code_4, z, q, e, z1]
      · rw [List.singleton_sublist]
        exact mem_rg d0 (by omega)
    · refine ⟨l3, a2, b2, c2, ?_, s2, sub3, h3⟩
      simp [i_law_code_4, z, q, h3]
  have hlen := sub4.length_le
  rw [rg_len] at hlen
  obtain ⟨l5, a5, b5, c5, t5, s5, fx5, len5⟩ := code_c3 (c := c4) (x1 := some (.int s)) (x5 := none) (x6 := none) (m := m) (w := w) (free := l4) hn s4 (by omega) (by omega)
  have z : ∀ M, mkT [.int s, .lst (l4.map A.int), .lst (l5.map A.int)] M = .ok (codeA s l4 l5) M := fun M => w_mkT (by simp)
  refine ⟨l4, l5, a5, b5, c5, ?_, s5, h1, h5, ?_, ne4, fx5, by omega⟩
  · have fin_ := exit_set (M := M.set n (stMO a b c)) (n := n) (o := stMO a5 b5 c5) (a := codeA s l4 l5) rfl (by simp [bnd, bnds, bnds_ints])
    rw [List.set_set] at fin_
    rw [← fin_]
    simp [s_law_code, start0, q1, q2, t1, t2, t3, t4, t5, z, fin]
  · rw [show 2 ^ s.toNat = m.toNat by omega]
    exact sub4
end G

namespace G
open PySem PySem.Spec L2 AL
section
variable {M : Mem}
@[simp] theorem is_whole_int {i : Int} : m_is_whole [.int i] M = .ok (.bl true) M := by
  rw [show m_is_whole [.int i] M = AL.exit M (fin (s_is_whole (start0 1 [.int i]) M)) from def_of rfl]
  rw [← exit_pure (M := M) (a := .bl true) rfl]
  simp [s_is_whole, start0, fin, vIsi, tyN, tyIs]
@[simp] theorem is_sign_int {i : Int} : m_is_sign [.int i] M = .ok (.bl (decide (0 ≤ i) && decide (i ≤ 1))) M := by
  rw [show m_is_sign [.int i] M = AL.exit M (fin (s_is_sign (start0 1 [.int i]) M)) from def_of rfl]
  rw [← exit_pure (M := M) (a := .bl (decide (0 ≤ i) && decide (i ≤ 1))) rfl]
  by_cases h : 0 ≤ i <;> simp [s_is_sign, start0, fin, h]
theorem toBools_map {ns : List Int} {f : Int → Bool} : toBools (ns.map fun i => A.bl (f i)) = some (ns.map f) := by
  have := bools_map (ns.map f)
  rw [List.map_map] at this
  exact this
theorem is_signs_ints {ns : List Int} (hl : ns.length ≤ 4096) : m_is_signs [.lst (ns.map A.int)] M = .ok (.bl (ns.all fun i => decide (0 ≤ i) && decide (i ≤ 1))) M := by
  rw [show m_is_signs [.lst (ns.map A.int)] M = AL.exit M (fin (s_is_signs (start0 2 [.lst (ns.map A.int)]) M)) from def_of rfl]
  rw [← exit_pure (M := M) (a := .bl (ns.all fun i => decide (0 ≤ i) && decide (i ≤ 1))) rfl]
  have hc : c_is_signs_1 [some (.lst (ns.map A.int)), none] M = .ok (.lst (ns.map fun i => A.bl (decide (0 ≤ i) && decide (i ≤ 1)))) M := by
    unfold c_is_signs_1
    rw [v_lc]
    simp only [iLst, v_var]
    simp only [List.getElem?_cons_zero, r_ok, asL]
    rw [lcGo_map (fun x => match x with | .int i => .bl (decide (0 ≤ i) && decide (i ≤ 1)) | _ => .non) (by simp; omega) (by intro p hp; rw [List.mem_singleton.mp hp]; rfl) (fun x hx => by
      obtain ⟨i, hi, rfl⟩ := List.mem_map.mp hx
      exact ⟨_, rfl, rfl, by simp [ce_is_signs_1, wipeA]⟩)]
    rw [r_ok, w_mkLt (by simp; omega), List.map_map]
    rfl
  simp [s_is_signs, start0, fin, vIsi, tyN, tyIs, hc, vAnyAll, asL, toBools_map, List.all_map]
theorem is_rising_ok {ns : List Int} {low high : Int} (hp : ns.Pairwise (· < ·)) (hb : ∀ x ∈ ns, low ≤ x ∧ x < high) : m_is_rising [.lst (ns.map A.int), .int low, .int high] M = .ok (.bl true) M := by
  rw [show m_is_rising [.lst (ns.map A.int), .int low, .int high] M = AL.exit M (fin (s_is_rising (start0 5 [.lst (ns.map A.int), .int low, .int high]) M)) from def_of rfl]
  rw [← exit_pure (M := M) (a := .bl true) rfl]
  have loop : ∃ x y, f_is_rising_3 [some (.lst (ns.map A.int)), some (.int low), some (.int high), some (.int (low - 1)), none] M = .nx [some (.lst (ns.map A.int)), some (.int low), some (.int high), x, y] M := by
    unfold f_is_rising_3
    rw [v_for]
    simp only [iLst, v_var]
    simp only [List.getElem?_cons_zero, r_ok, asL, fl_ok]
    obtain ⟨ro', M', h1, h2, ahead, y, h3, _⟩ := forGo_all (ai := ⟨ns.map A.int, [(A.lst (ns.map A.int), ns.map A.int)]⟩) (g := gNm 4) (b := fb_is_rising_3)
      (fun k ro M' => M' = M ∧ ∃ (ahead : Int) (y : Option A), ro = [some (.lst (ns.map A.int)), some (.int low), some (.int high), some (.int ahead), y] ∧ ∀ z ∈ ns.drop k, ahead < z)
      (fun k ro M' _ h => by obtain ⟨rfl, _⟩ := h; intro p hp; rw [List.mem_singleton.mp hp]; rfl)
      (fun k x ro M' hx h => by
        obtain ⟨rfl, ahead, y, rfl, h⟩ := h
        rw [List.getElem?_map] at hx
        obtain ⟨i, hi, rfl⟩ := Option.map_eq_some_iff.mp hx
        have hk : k < ns.length := (List.getElem?_eq_some_iff.mp hi).1
        have hd : ns.drop k = i :: ns.drop (k + 1) := by rw [List.drop_eq_getElem_cons hk]; congr 1; exact (List.getElem?_eq_some_iff.mp hi).2
        have hai : ahead < i := h i (by rw [hd]; exact List.mem_cons_self)
        obtain ⟨_, hih⟩ := hb i (List.mem_of_getElem? hi)
        refine ⟨_, _, _, _, rfl, .inl ?_, rfl, i, some (.int i), rfl, fun z hz => ?_⟩
        · simp [fb_is_rising_3, i_is_rising_2, hai, hih]
        · have := hp.drop (i := k)
          rw [hd, List.pairwise_cons] at this
          exact this.1 z hz)
      [some (.lst (ns.map A.int)), some (.int low), some (.int high), some (.int (low - 1)), none] M ⟨rfl, low - 1, none, rfl, fun z hz => by
        have := (hb z (List.mem_of_mem_drop hz)).1
        omega⟩
    subst h2
    exact ⟨some (.int ahead), y, by rw [← h3]; exact h1⟩
  obtain ⟨x, y, loop⟩ := loop
  simp [s_is_rising, i_is_rising_1, start0, fin, vIsi, tyN, tyIs, loop]
end

theorem rg_lt (n : Nat) : (rg n).Pairwise (· < ·) := by
  unfold rg
  rw [List.pairwise_map]
  exact List.pairwise_lt_range.imp fun h => by
    show (Int.ofNat _) < Int.ofNat _
    exact Int.ofNat_lt.mpr h
theorem GC.rise {s : Int} {free fixed : List Int} (g : GC s free fixed) : free.Pairwise (· < ·) := (rg_lt _).sublist g.sub
theorem GC.inb {s : Int} {free fixed : List Int} (g : GC s free fixed) : ∀ x ∈ free, 0 ≤ x ∧ x < ((2 ^ s.toNat : Nat) : Int) := fun x hx => rg_mem (g.sub.subset hx)
theorem GC.le {s : Int} {free fixed : List Int} (g : GC s free fixed) : free.length ≤ 32 ∧ fixed.length ≤ 32 := by
  have := many_le (by have := g.s1; omega : 0 ≤ s) g.s5
  have := g.len
  omega
theorem tab_tup {M : Mem} {s : Int} (h0 : 0 ≤ s) (h5 : s ≤ 5) : vIx (.tup (([1, 2, 4, 8, 16, 32] : List Int).map A.int)) (.int s) M = .ok (.int ((2 ^ s.toNat : Nat) : Int)) M := vIx_of rfl h0 (by rw [List.getElem?_map, tab_ix h0 h5]; rfl)
theorem is_code_ok {M : Mem} {s : Int} {free fixed : List Int} (g : GC s free fixed) : m_is_code [codeA s free fixed] M = .ok (.bl true) M := by
  rw [show m_is_code [codeA s free fixed] M = AL.exit M (fin (s_is_code (start0 2 [codeA s free fixed]) M)) from def_of rfl]
  rw [← exit_pure (M := M) (a := .bl true) rfl]
  obtain ⟨m, hm⟩ : ∃ m : Int, m = ((2 ^ s.toNat : Nat) : Int) := ⟨_, rfl⟩
  have h1 := g.s1
  have h5 := g.s5
  have hl := g.len
  have x0 : vIx (codeA s free fixed) (.int 0) M = .ok (.int s) M := vIx_of rfl (by decide) rfl
  have x1 : vIx (codeA s free fixed) (.int 1) M = .ok (.lst (free.map A.int)) M := vIx_of rfl (by decide) rfl
  have x2 : vIx (codeA s free fixed) (.int 2) M = .ok (.lst (fixed.map A.int)) M := vIx_of rfl (by decide) rfl
  have t0 : vIx (.tup [.int 1, .int 2, .int 4, .int 8, .int 16, .int 32]) (.int s) M = .ok (.int m) M := by rw [hm]; exact tab_tup (by omega) h5
  have r1 : m_is_rising [.lst (free.map A.int), .int 0, .int m] M = .ok (.bl true) M := is_rising_ok g.rise (by rw [hm]; exact g.inb)
  have r2 : m_is_signs [.lst (fixed.map A.int)] M = .ok (.bl true) M := by
    rw [is_signs_ints (by have := g.le; omega)]
    congr 2
    rw [List.all_eq_true]
    intro x hx
    rcases g.fx x hx with rfl | rfl <;> rfl
  have ne : (free.length : Int) ≠ 0 := by
    have := g.ne
    cases free with
    | nil => exact absurd rfl this
    | cons _ _ => simp; omega
  have e3 : (free.length : Int) + fixed.length = m := by omega
  have i1 : i_is_code_1 [some (codeA s free fixed), none] M = .nx [some (codeA s free fixed), none] M := by
    simp [i_is_code_1, vIsi, tyN, tyIs, vLen, asS, x0, h1, h5]
  have i2 : i_is_code_2 [some (codeA s free fixed), some (.int m)] M = .nx [some (codeA s free fixed), some (.int m)] M := by
    have ne' : ¬ free = [] := g.ne
    simp [i_is_code_2, x1, r1, vLen, asS, asL, ne']
  simp [s_is_code, start0, fin, i1, i2, x0, x1, x2, t0, r1, r2, vLen, asS, asL, e3]
theorem look_at_code_ok {M : Mem} {s : Int} {free fixed : List Int} (g : GC s free fixed) : m_look_at_code [codeA s free fixed] M = .ok .non M := by
  rw [show m_look_at_code [codeA s free fixed] M = AL.exit M (fin (s_look_at_code (start0 1 [codeA s free fixed]) M)) from def_of rfl]
  rw [← exit_pure (M := M) (a := .non) rfl]
  simp [s_look_at_code, i_look_at_code_1, start0, fin, is_code_ok g]
end G

namespace G
open PySem PySem.Spec L2 AL
abbrev recMO (s : Int) (free fixed : List Int) (c o : Nat) : MO := .ins 22 [(1, codeA s free fixed), (2, .loc c), (3, .loc o)]
structure RA (M : Mem) (r c o : Nat) (s : Int) (free fixed : List Int) (came : List A) (order : List Int) : Prop where
  gr : M[r]? = some (recMO s free fixed c o)
  gc : M[c]? = some (.lst came)
  go : M[o]? = some (.lst (order.map A.int))
  n1 : r ≠ c
  n2 : r ≠ o
  n3 : c ≠ o
theorem isIns_of {M : Mem} {r c : Nat} {fs : List (Nat × A)} (h : M[r]? = some (.ins c fs)) : isInsOf c M (.loc r) = true := by simp [isInsOf, h]
theorem fld_of {M : Mem} {r c f : Nat} {fs : List (Nat × A)} {a : A} (h : M[r]? = some (.ins c fs)) (e : fs.lookup f = some a) : vFldC c f (.loc r) M = .ok a M := by
  unfold vFldC
  rw [if_pos (isIns_of h)]
  simp [vFld, h, e]
theorem setFld_of {M : Mem} {r c f : Nat} {fs : List (Nat × A)} {a : A} {fo fv : SE} {ro : Ro} {M0 : Mem} (hv : fv ro M0 = .ok a M) (ho : fo ro M = .ok (.loc r) M) (h : M[r]? = some (.ins c fs)) (hl : fs.length < 50) : sFldA c f fo fv ro M0 = .nx ro (M.set r (.ins c (putA f a fs))) := by
  unfold sFldA
  rw [hv, fl_ok, ho, fl_ok, if_pos (isIns_of h)]
  simp [h, hl]
theorem flat_rep (k : Nat) : (List.replicate k [A.non]).flatten = List.replicate k A.non := by
  induction k with
  | zero => rfl
  | succ k ih => rw [List.replicate_succ, List.flatten_cons, ih, List.replicate_succ]; rfl
theorem mul_rep {m : Nat} (hm : m ≤ 32) : ∀ M : Mem, vMul false (.lst [.non]) (.int (m : Int)) M = .ok (.loc M.length) (M ++ [.lst (List.replicate m .non)]) := fun M => by
    have hz : (m : Int).natAbs < 2 ^ 63 := by omega
    unfold vMul
    simp only [asL1]
    rw [if_pos hz, Int.toNat_natCast, flat_rep, w_mkLf (by simp; omega)]
theorem bnd_code {k : Nat} {s : Int} {free fixed : List Int} : bnd k (codeA s free fixed) = true := by simp [bnd, bnds, bnds_ints]
section
variable {M : Mem} {r c o : Nat} {s : Int} {free fixed : List Int} {came : List A} {order : List Int}
theorem init_ok (g : GC s free fixed) (hr : M[r]? = some (.ins 22 [])) : m_Receiver_init [.loc r, codeA s free fixed] M = .ok .non (M.set r (recMO s free fixed M.length (M.length + 1)) ++ [.lst (List.replicate (2 ^ s.toNat) .non), .lst []]) := by
  have hl : r < M.length := (List.getElem?_eq_some_iff.mp hr).1
  rw [show m_Receiver_init [.loc r, codeA s free fixed] M = AL.exit M (fin (s_Receiver_init (start0 2 [.loc r, codeA s free fixed]) M)) from def_of rfl]
  have h1 := g.s1
  have h5 := g.s5
  have hm := many_le (by omega : 0 ≤ s) h5
  have t0 : ∀ M : Mem, vIx (.tup [.int 1, .int 2, .int 4, .int 8, .int 16, .int 32]) (.int s) M = .ok (.int ((2 ^ s.toNat : Nat) : Int)) M := fun M => tab_tup (by omega) h5
  generalize 2 ^ s.toNat = m at t0 hm ⊢
  have x0 : ∀ M : Mem, vIx (codeA s free fixed) (.int 0) M = .ok (.int s) M := fun M => vIx_of rfl (by decide) rfl
  have x1 : ∀ M : Mem, vIx (codeA s free fixed) (.int 1) M = .ok (.lst (free.map A.int)) M := fun M => vIx_of rfl (by decide) rfl
  have x2 : ∀ M : Mem, vIx (codeA s free fixed) (.int 2) M = .ok (.lst (fixed.map A.int)) M := fun M => vIx_of rfl (by decide) rfl
  have y1 : ∀ M : Mem, vList true [.lst (free.map A.int)] M = .ok (.lst (free.map A.int)) M := fun M => w_mkLt (by have := g.le; simp; omega)
  have y2 : ∀ M : Mem, vList true [.lst (fixed.map A.int)] M = .ok (.lst (fixed.map A.int)) M := fun M => w_mkLt (by have := g.le; simp; omega)
  have y3 : ∀ M : Mem, mkT [.int s, .lst (free.map A.int), .lst (fixed.map A.int)] M = .ok (codeA s free fixed) M := fun M => w_mkT (by simp)
  have y4 : ∀ M : Mem, mkL true [.non] M = .ok (.lst [.non]) M := fun M => w_mkLt (by simp)
  have y5 := mul_rep hm
  have y6 : ∀ M : Mem, mkL false [] M = .ok (.loc M.length) (M ++ [.lst []]) := fun M => w_mkLf (by simp)
  have f1 : sFldA 22 1 (eVar 0) (eTup (aCons (e2 vIx (eVar 1) (eC (.int 0))) (aCons (eA (vList true) (aCons (e2 vIx (eVar 1) (eC (.int 1))) (aNil))) (aCons (eA (vList true) (aCons (e2 vIx (eVar 1) (eC (.int 2))) (aNil))) (aNil))))) [some (.loc r), some (codeA s free fixed)] M = .nx [some (.loc r), some (codeA s free fixed)] (M.set r (.ins 22 [(1, codeA s free fixed)])) :=
    setFld_of (by simp [x0, x1, x2, y1, y2, y3]) (by simp) hr (by simp)
  have f2 : sFldA 22 2 (eVar 0) (e2 (vMul false) (eLst true (aCons (eC .non) (aNil))) (e2 vIx (eC (.tup (([1, 2, 4, 8, 16, 32] : List Int).map A.int))) (e2 vIx (eVar 1) (eC (.int 0))))) [some (.loc r), some (codeA s free fixed)] (M.set r (.ins 22 [(1, codeA s free fixed)])) =
      .nx [some (.loc r), some (codeA s free fixed)] (M.set r (.ins 22 [(1, codeA s free fixed), (2, .loc M.length)]) ++ [.lst (List.replicate (m) .non)]) := by
    rw [setFld_of (r := r) (a := .loc M.length) (M := M.set r (.ins 22 [(1, codeA s free fixed)]) ++ [.lst (List.replicate (m) .non)]) (by simp [y4, x0, t0, y5]) (by simp) (by rw [List.getElem?_append_left (by simpa using hl), List.getElem?_set_self hl]) (by simp), List.set_append_left _ _ (by simpa using hl), List.set_set]
    simp [putA]
  have f3 : sFldA 22 3 (eVar 0) (eLst false aNil) [some (.loc r), some (codeA s free fixed)] (M.set r (.ins 22 [(1, codeA s free fixed), (2, .loc M.length)]) ++ [.lst (List.replicate (m) .non)]) =
      .nx [some (.loc r), some (codeA s free fixed)] (M.set r (recMO s free fixed M.length (M.length + 1)) ++ [.lst (List.replicate (m) .non), .lst []]) := by
    rw [setFld_of (r := r) (a := .loc (M.length + 1)) (M := M.set r (.ins 22 [(1, codeA s free fixed), (2, .loc M.length)]) ++ [.lst (List.replicate (m) .non), .lst []]) (by simp [y6]) (by simp) (by rw [List.getElem?_append_left (by simpa using hl), List.getElem?_set_self hl]) (by simp), List.set_append_left _ _ (by simpa using hl), List.set_set]
    simp [putA]
  have hE : s_Receiver_init (start0 2 [.loc r, codeA s free fixed]) M = .nx [some (.loc r), some (codeA s free fixed)] (M.set r (recMO s free fixed M.length (M.length + 1)) ++ [.lst (List.replicate (m) .non), .lst []]) := by
    have z : start0 2 [.loc r, codeA s free fixed] = [some (.loc r), some (codeA s free fixed)] := rfl
    have z2 : sExpr (eA m_look_at_code (aCons (eVar 1) (aNil))) [some (.loc r), some (codeA s free fixed)] M = .nx [some (.loc r), some (codeA s free fixed)] M := by simp [look_at_code_ok g]
    rw [s_Receiver_init, z, v_seq, z2]
    simp only
    rw [v_seq, f1]
    simp only
    rw [v_seq, f2]
    simp only
    rw [f3]
  rw [hE]
  show AL.exit M (.ok .non _) = _
  unfold AL.exit
  simp only
  rw [if_neg]
  intro hs
  have e : (M.set r (recMO s free fixed M.length (M.length + 1)) ++ [.lst (List.replicate (m) .non), .lst []])[r]? = some (recMO s free fixed M.length (M.length + 1)) := by
    rw [List.getElem?_append_left (by simpa using hl), List.getElem?_set_self hl]
  rcases hs r hl with h | ⟨ob, h, hb⟩
  · rw [e, hr] at h
    cases h
  · rw [e] at h
    cases h
    have := hb 2 (by decide) (.loc M.length) rfl
    simp [bnd] at this
theorem mk_ok (g : GC s free fixed) : mkSem 22 m_Receiver_init [codeA s free fixed] M = .ok (.loc M.length) (M ++ [recMO s free fixed (M.length + 1) (M.length + 2), .lst (List.replicate (2 ^ s.toNat) .non), .lst []]) := by
  unfold mkSem
  rw [init_ok g (by simp)]
  simp
end
end G

namespace G
open PySem PySem.Spec L2 AL
/-- an item of what came -/
def CamA : A → Prop
  | .non => True
  | .int _ => True
  | _ => False
theorem CamA.bnd {a : A} {k : Nat} (h : CamA a) : AL.bnd k a = true := by cases a <;> first | rfl | cases h
theorem CamA.pl {a : A} {k : Nat} (h : CamA a) : AL.pl k a = true := by cases a <;> first | exact pl_non | exact pl_int | cases h
section
variable {M : Mem} {r c o : Nat} {s : Int} {free fixed : List Int} {came : List A} {order : List Int}
theorem place_ok {s p : Int} (h0 : 0 ≤ s) (h5 : s ≤ 5) (p0 : 0 ≤ p) (p1 : p < ((2 ^ s.toNat : Nat) : Int)) : m_look_at_place [.int s, .int p] M = .ok .non M := by
  rw [show m_look_at_place [.int s, .int p] M = AL.exit M (fin (s_look_at_place (start0 2 [.int s, .int p]) M)) from def_of rfl]
  rw [← exit_pure (M := M) (a := .non) rfl]
  have t0 : ∀ M : Mem, vIx (.tup [.int 1, .int 2, .int 4, .int 8, .int 16, .int 32]) (.int s) M = .ok (.int ((2 ^ s.toNat : Nat) : Int)) M := fun M => tab_tup h0 h5
  generalize ((2 ^ s.toNat : Nat) : Int) = m at t0 p1
  simp [s_look_at_place, i_look_at_place_1, start0, fin, t0, p0, p1]
/-- a sign is heard -/
theorem RA.hear_new (h : RA M r c o s free fixed came order) (hs0 : 0 ≤ s) (hs5 : s ≤ 5) {p g : Int} (p0 : 0 ≤ p) (p1 : p < ((2 ^ s.toNat : Nat) : Int)) (hg : g = 0 ∨ g = 1) (hl : came.length = 2 ^ s.toNat) (hb : ∀ a ∈ came, CamA a) (ho : order.length ≤ 4096) (hc : came[p.toNat]? = some .non) :
    m_Receiver_hear [.loc r, .int p, .int g] M = .ok .non ((M.set c (.lst (came.set p.toNat (.int g)))).set o (.lst ((order ++ [p]).map A.int))) := by
  rw [show m_Receiver_hear [.loc r, .int p, .int g] M = AL.exit M (fin (s_Receiver_hear (start0 3 [.loc r, .int p, .int g]) M)) from def_of rfl]
  have f1 : vFldC 22 1 (.loc r) M = .ok (codeA s free fixed) M := fld_of h.gr rfl
  have f2 : vFldC 22 2 (.loc r) M = .ok (.loc c) M := fld_of h.gr rfl
  have x0 : vIx (codeA s free fixed) (.int 0) M = .ok (.int s) M := vIx_of rfl (by decide) rfl
  have x1 : vIx (.loc c) (.int p) M = .ok .non M := vIx_of (asL_loc h.gc) p0 hc
  have x2 : setIx (.loc c) (.int p) (.int g) M = some (M.set c (.lst (came.set p.toNat (.int g)))) := setIx_of h.gc p0 (by omega)
  have lr : r < M.length := (List.getElem?_eq_some_iff.mp h.gr).1
  have f3 : vFldC 22 3 (.loc r) (M.set c (.lst (came.set p.toNat (.int g)))) = .ok (.loc o) (M.set c (.lst (came.set p.toNat (.int g)))) := fld_of (fs := [(1, codeA s free fixed), (2, .loc c), (3, .loc o)]) (by rw [List.getElem?_set_ne (Ne.symm h.n1)]; exact h.gr) rfl
  have go' : (M.set c (.lst (came.set p.toNat (.int g))))[o]? = some (.lst (order.map A.int)) := by rw [List.getElem?_set_ne h.n3]; exact h.go
  have x3 : mAppend (.loc o) [.int p] (M.set c (.lst (came.set p.toNat (.int g)))) = .ok .non ((M.set c (.lst (came.set p.toNat (.int g)))).set o (.lst ((order ++ [p]).map A.int))) := by
    unfold mAppend
    rw [locL_loc go']
    simp only
    rw [if_pos (by rw [sizeLine_eq]; simp; omega)]
    simp
  have a1 := asL_loc go'
  have hgb : (decide (0 ≤ g) && decide (g ≤ 1)) = true := by rcases hg with rfl | rfl <;> rfl
  have i2 : i_Receiver_hear_1 [some (.loc r), some (.int p), some (.int g)] M = .nx [some (.loc r), some (.int p), some (.int g)] M := by
    simp [i_Receiver_hear_1, hgb]
  have hE : s_Receiver_hear (start0 3 [.loc r, .int p, .int g]) M = .nx [some (.loc r), some (.int p), some (.int g)] ((M.set c (.lst (came.set p.toNat (.int g)))).set o (.lst ((order ++ [p]).map A.int))) := by
    simp [s_Receiver_hear, i_Receiver_hear_3, start0, f1, f2, f3, x0, x1, x2, x3, i2, a1, place_ok hs0 hs5 p0 p1, AL.isNon]
  rw [hE]
  show AL.exit M (.ok .non _) = _
  exact exit_set2 (bnds_all fun a ha => by
    rcases List.mem_or_eq_of_mem_set ha with z | z
    · exact (hb a z).bnd
    · rw [z]; rfl) (bnds_ints _) rfl
/-- heard ahead, the same or the other sign -/
theorem RA.hear_old (h : RA M r c o s free fixed came order) (hs0 : 0 ≤ s) (hs5 : s ≤ 5) {p g g' : Int} (p0 : 0 ≤ p) (p1 : p < ((2 ^ s.toNat : Nat) : Int)) (hg : g = 0 ∨ g = 1) (hc : came[p.toNat]? = some (.int g')) :
    m_Receiver_hear [.loc r, .int p, .int g] M = if g' = g then .ok .non M else .err 16 M := by
  rw [show m_Receiver_hear [.loc r, .int p, .int g] M = AL.exit M (fin (s_Receiver_hear (start0 3 [.loc r, .int p, .int g]) M)) from def_of rfl]
  have f1 : vFldC 22 1 (.loc r) M = .ok (codeA s free fixed) M := fld_of h.gr rfl
  have f2 : vFldC 22 2 (.loc r) M = .ok (.loc c) M := fld_of h.gr rfl
  have x0 : vIx (codeA s free fixed) (.int 0) M = .ok (.int s) M := vIx_of rfl (by decide) rfl
  have x1 : vIx (.loc c) (.int p) M = .ok (.int g') M := vIx_of (asL_loc h.gc) p0 hc
  have hgb : (decide (0 ≤ g) && decide (g ≤ 1)) = true := by rcases hg with rfl | rfl <;> rfl
  have i2 : i_Receiver_hear_1 [some (.loc r), some (.int p), some (.int g)] M = .nx [some (.loc r), some (.int p), some (.int g)] M := by
    simp [i_Receiver_hear_1, hgb]
  by_cases e : g' = g
  · rw [if_pos e]
    have hE : s_Receiver_hear (start0 3 [.loc r, .int p, .int g]) M = .nx [some (.loc r), some (.int p), some (.int g)] M := by
      simp [s_Receiver_hear, i_Receiver_hear_3, i_Receiver_hear_2, start0, f1, f2, x0, x1, i2, place_ok hs0 hs5 p0 p1, AL.isNon, e]
    rw [hE]
    exact exit_pure rfl
  · rw [if_neg e]
    have hE : s_Receiver_hear (start0 3 [.loc r, .int p, .int g]) M = .er 16 [some (.loc r), some (.int p), some (.int g)] M := by
      simp [s_Receiver_hear, i_Receiver_hear_3, i_Receiver_hear_2, start0, f1, f2, x0, x1, i2, place_ok hs0 hs5 p0 p1, AL.isNon, e]
    rw [hE]
    exact exit_err_pure
theorem RA.forget_none (h : RA M r c o s free fixed came []) : m_Receiver_forget [.loc r] M = .err 17 M := by
  rw [show m_Receiver_forget [.loc r] M = AL.exit M (fin (s_Receiver_forget (start0 1 [.loc r]) M)) from def_of rfl]
  have f3 : vFldC 22 3 (.loc r) M = .ok (.loc o) M := fld_of h.gr rfl
  have z : mkL true [] M = .ok (.lst []) M := w_mkLt (by simp)
  have q : vEq (.loc o) (.lst []) M = .ok (.bl true) M := by
    rw [vEq_dat (a' := .lst []) (b' := .lst []) ((datC_loc h.go).trans (datC_pl M (pl_ints (n := 7) (ns := [])))) (datC_pl M (pl_ints (n := 7) (ns := []))) (pl_ints (n := 7) (ns := [])) (pl_ints (n := 7) (ns := []))]
    simp
  have hE : s_Receiver_forget (start0 1 [.loc r]) M = .er 17 [some (.loc r)] M := by
    simp [s_Receiver_forget, i_Receiver_forget_1, start0, f3, z, q]
  rw [hE]
  exact exit_err_pure
theorem RA.forget_ok {p : Int} (h : RA M r c o s free fixed came (order ++ [p])) (p0 : 0 ≤ p) (p1 : p < came.length) (hb : ∀ a ∈ came, CamA a) :
    m_Receiver_forget [.loc r] M = .ok .non ((M.set o (.lst (order.map A.int))).set c (.lst (came.set p.toNat .non))) := by
  rw [show m_Receiver_forget [.loc r] M = AL.exit M (fin (s_Receiver_forget (start0 1 [.loc r]) M)) from def_of rfl]
  have f2 : vFldC 22 2 (.loc r) M = .ok (.loc c) M := fld_of h.gr rfl
  have f3 : vFldC 22 3 (.loc r) M = .ok (.loc o) M := fld_of h.gr rfl
  have z : mkL true [] M = .ok (.lst []) M := w_mkLt (by simp)
  have q : vEq (.loc o) (.lst []) M = .ok (.bl false) M := by
    rw [vEq_dat (a' := .lst ((order ++ [p]).map A.int)) (b' := .lst []) ((datC_loc h.go).trans (datC_pl M (pl_ints (n := 7)))) (datC_pl M (pl_ints (n := 7) (ns := []))) (pl_ints (n := 7)) (pl_ints (n := 7) (ns := []))]
    simp
  have x3 : mPop (.loc o) [] M = .ok (.int p) (M.set o (.lst (order.map A.int))) := by
    unfold mPop
    rw [locL_loc h.go]
    simp
  have a1 := asL_loc h.go
  have gc' : (M.set o (.lst (order.map A.int)))[c]? = some (.lst came) := by rw [List.getElem?_set_ne (Ne.symm h.n3)]; exact h.gc
  have x2 : setIx (.loc c) (.int p) .non (M.set o (.lst (order.map A.int))) = some ((M.set o (.lst (order.map A.int))).set c (.lst (came.set p.toNat .non))) := setIx_of gc' p0 p1
  have hE : s_Receiver_forget (start0 1 [.loc r]) M = .nx [some (.loc r)] ((M.set o (.lst (order.map A.int))).set c (.lst (came.set p.toNat .non))) := by
    simp [s_Receiver_forget, i_Receiver_forget_1, start0, f2, f3, z, q, x3, a1, x2]
  rw [hE]
  exact exit_set2 (bnds_ints _) (bnds_all fun a ha => by
    rcases List.mem_or_eq_of_mem_set ha with z | z
    · exact (hb a z).bnd
    · rw [z]; rfl) rfl
end
end G

namespace G
open PySem PySem.Spec L2 AL
section
variable {M : Mem} {r c o : Nat} {s : Int} {free fixed : List Int} {came : List A} {order : List Int}
theorem RA.came_ok (h : RA M r c o s free fixed came order) (hl : came.length ≤ 4096) (hb : ∀ a ∈ came, CamA a) : m_Receiver_came [.loc r] M = .ok (.lst came) M := by
  rw [show m_Receiver_came [.loc r] M = AL.exit M (fin (s_Receiver_came (start0 1 [.loc r]) M)) from def_of rfl]
  have x : vFldC 22 2 (.loc r) M = .ok (.loc c) M := fld_of h.gr rfl
  have y : vList true [.loc c] M = .ok (.lst came) M := by
    simp [vList, asS, asL_loc h.gc, w_mkLt hl]
  rw [← exit_pure (M := M) (a := .lst came) (bnds_all fun a ha => (hb a ha).bnd)]
  simp [s_Receiver_came, start0, fin, x, y]
end
end G

/-! B1: bits: the program's ints as Nat. -/
namespace G
open PySem PySem.Spec L2 AL
theorem and_nat (a b : Nat) : Builtin.bitAnd (a : Int) (b : Int) = ((a &&& b : Nat) : Int) := by
  unfold Builtin.bitAnd
  have h1 : decide ((0 : Int) ≤ (a : Int)) = true := by simp
  have h2 : decide ((0 : Int) ≤ (b : Int)) = true := by simp
  rw [h1, h2]
  simp
theorem xor_sum : ∀ (n a b : Nat), a < 2 ^ n → b < 2 ^ n → a + b = (a ^^^ b) + 2 * (a &&& b)
  | 0, a, b, ha, hb => by
    have : a = 0 := by simpa using ha
    have : b = 0 := by simpa using hb
    subst_vars
    rfl
  | n + 1, a, b, ha, hb => by
    have ih := xor_sum n (a / 2) (b / 2) (by rw [Nat.pow_succ] at ha; omega) (by rw [Nat.pow_succ] at hb; omega)
    have e1 : (a ^^^ b) / 2 = a / 2 ^^^ b / 2 := Nat.xor_div_two
    have e2 : (a &&& b) / 2 = a / 2 &&& b / 2 := Nat.and_div_two
    have e3 : (a ^^^ b) % 2 = (a + b) % 2 := by
      have h := Nat.xor_mod_two_pow (a := a) (b := b) (n := 1)
      rw [Nat.pow_one] at h
      rw [h, Nat.add_mod]
      rcases Nat.mod_two_eq_zero_or_one a with h1 | h1 <;> rcases Nat.mod_two_eq_zero_or_one b with h2 | h2 <;> rw [h1, h2] <;> rfl
    have e4 : (a &&& b) % 2 = (a % 2) * (b % 2) := by
      have h := Nat.and_mod_two_pow (a := a) (b := b) (n := 1)
      rw [Nat.pow_one] at h
      rw [h]
      rcases Nat.mod_two_eq_zero_or_one a with h1 | h1 <;> rcases Nat.mod_two_eq_zero_or_one b with h2 | h2 <;> rw [h1, h2] <;> rfl
    have h1 := Nat.div_add_mod (a ^^^ b) 2
    have h2 := Nat.div_add_mod (a &&& b) 2
    have h3 := Nat.div_add_mod a 2
    have h4 := Nat.div_add_mod b 2
    rw [e1] at h1
    rw [e2, e4] at h2
    rw [e3] at h1
    rcases Nat.mod_two_eq_zero_or_one a with k1 | k1 <;> rcases Nat.mod_two_eq_zero_or_one b with k2 | k2 <;> rw [k1, k2] at h2 <;> omega
theorem xor_nat (a b : Nat) : Builtin.bitXor (a : Int) (b : Int) = ((a ^^^ b : Nat) : Int) := by
  rw [PyProof.Rows.bitXor_and, and_nat]
  have := xor_sum (a + b) a b (Nat.lt_of_le_of_lt (Nat.le_add_right a b) Nat.lt_two_pow_self) (Nat.lt_of_le_of_lt (Nat.le_add_left b a) Nat.lt_two_pow_self)
  omega
/-- the lowest bit -/
def lowb (m : Nat) : Nat := m - (m &&& (m - 1))
theorem low_int {m : Nat} (h : 0 < m) : Builtin.bitAnd (m : Int) (0 - (m : Int)) = ((lowb m : Nat) : Int) := by
  unfold Builtin.bitAnd Builtin.bitNot
  have h1 : decide ((0 : Int) ≤ (m : Int)) = true := by simp
  have h2 : decide ((0 : Int) ≤ 0 - (m : Int)) = false := by simp; omega
  rw [h1, h2]
  simp only
  have e : (-(0 - (m : Int)) - 1).toNat = m - 1 := by omega
  rw [e, Int.toNat_natCast]
  unfold lowb
  have : m &&& (m - 1) ≤ m := Nat.and_le_left
  omega
theorem low_spec : ∀ m : Nat, 0 < m → ∃ t, lowb m = 2 ^ t ∧ m.testBit t = true ∧ ∀ j, j < t → m.testBit j = false := by
  intro m
  induction m using Nat.strongRecOn with
  | ind m ih =>
    intro h
    by_cases ho : m % 2 = 1
    · refine ⟨0, ?_, by simp [Nat.testBit_zero, ho], fun j hj => absurd hj (Nat.not_lt_zero j)⟩
      have e : m &&& (m - 1) = m - 1 := by
        apply Nat.eq_of_testBit_eq
        intro i
        rw [Nat.testBit_and]
        cases i with
        | zero =>
          have : (m - 1) % 2 = 0 := by omega
          simp [Nat.testBit_zero, this]
        | succ i =>
          rw [Nat.testBit_succ, Nat.testBit_succ]
          have : (m - 1) / 2 = m / 2 := by omega
          rw [this, Bool.and_self]
      unfold lowb
      rw [e]
      omega
    · obtain ⟨n, rfl⟩ : ∃ n, m = 2 * n := ⟨m / 2, by omega⟩
      obtain ⟨t, h1, h2, h3⟩ := ih n (by omega) (by omega)
      have e : (2 * n) &&& (2 * n - 1) = 2 * (n &&& (n - 1)) := by
        apply Nat.eq_of_testBit_eq
        intro i
        rw [Nat.testBit_and]
        cases i with
        | zero => simp [Nat.testBit_zero]
        | succ i =>
          rw [Nat.testBit_succ, Nat.testBit_succ, Nat.testBit_succ]
          have a1 : 2 * n / 2 = n := by omega
          have a2 : (2 * n - 1) / 2 = n - 1 := by omega
          have a3 : 2 * (n &&& (n - 1)) / 2 = n &&& (n - 1) := by omega
          rw [a1, a2, a3, Nat.testBit_and]
      refine ⟨t + 1, ?_, ?_, fun j hj => ?_⟩
      · unfold lowb at h1 ⊢
        rw [e, Nat.pow_succ]
        have : n &&& (n - 1) ≤ n := Nat.and_le_left
        omega
      · rw [Nat.testBit_succ]
        have a1 : 2 * n / 2 = n := by omega
        rw [a1]; exact h2
      · cases j with
        | zero => simp [Nat.testBit_zero]
        | succ j =>
          rw [Nat.testBit_succ]
          have a1 : 2 * n / 2 = n := by omega
          rw [a1]; exact h3 j (by omega)
/-- n >> k & 1 == 1 -/
theorem bit_at (n k : Nat) : (Builtin.bitAnd ((n : Int) / 2 ^ k) 1 = 1) ↔ n.testBit k = true := by
  rw [PyProof.Rows.bitAnd_m1, Nat.testBit_eq_decide_div_mod_eq, decide_eq_true_eq]
  have : (n : Int) / 2 ^ k = ((n / 2 ^ k : Nat) : Int) := by
    rw [Int.natCast_ediv]
    congr 1
  rw [this]
  omega
theorem bits_pow (t : Nat) : Builtin.Int.intBits ((2 ^ t : Nat) : Int) = t + 1 := by
  unfold Builtin.Int.intBits
  have h0 : 0 < 2 ^ t := Nat.two_pow_pos t
  have h1 : ((((2 ^ t : Nat) : Int)) == 0) = false := beq_eq_false_iff_ne.mpr (by omega)
  rw [h1]
  simp only [Bool.false_eq_true, if_false, Int.natAbs_natCast]
  rw [Nat.log2_two_pow]
end G

/-! L1: what the defs of the fitting compute: comes_to, unknowns_at, signs_fixed, sum_of, left_at, spots_in. -/
namespace G
open PySem PySem.Spec L2 AL
/-- the place p comes to the spot x -/
def comesB (p x : Int) : Bool := decide (Builtin.bitAnd p x = x)
theorem comes_ok {M : Mem} {p x : Int} : m_comes_to [.int p, .int x] M = .ok (.bl (comesB p x)) M := by
  rw [show m_comes_to [.int p, .int x] M = AL.exit M (fin (s_comes_to (start0 2 [.int p, .int x]) M)) from def_of rfl]
  rw [← exit_pure (M := M) (a := .bl (comesB p x)) rfl]
  simp [s_comes_to, start0, fin, comesB]
/-- the unknowns of a spot, as a mask -/
def unkN (free : List Int) (x : Int) : Nat → Nat
  | 0 => 0
  | k + 1 => unkN free x k + (if comesB (free.getD k 0) x then 2 ^ k else 0)
def unkF (free : List Int) (x : Int) : Nat := unkN free x free.length
section
variable {M : Mem} {s : Int} {free fixed : List Int}
theorem code_x0 : vIx (codeA s free fixed) (.int 0) M = .ok (.int s) M := vIx_of rfl (by decide) rfl
theorem code_x1 : vIx (codeA s free fixed) (.int 1) M = .ok (.lst (free.map A.int)) M := vIx_of rfl (by decide) rfl
theorem code_x2 : vIx (codeA s free fixed) (.int 2) M = .ok (.lst (fixed.map A.int)) M := vIx_of rfl (by decide) rfl
theorem enum_at {xs : List A} {k : Nat} {x : A} (h : (enumA xs)[k]? = some x) : ∃ y, xs[k]? = some y ∧ x = .tup [.int (k : Nat), y] := by
  unfold enumA at h
  rw [List.getElem?_zipWith] at h
  cases e1 : (List.range xs.length)[k]? with
  | none => rw [e1] at h; cases h
  | some j =>
    cases e2 : xs[k]? with
    | none => rw [e1, e2] at h; cases h
    | some y =>
      rw [e1, e2] at h
      have hk : k < xs.length := (List.getElem?_eq_some_iff.mp e2).1
      rw [List.getElem?_range hk] at e1
      cases e1
      cases h
      exact ⟨y, rfl, rfl⟩
theorem enum_len {xs : List A} : (enumA xs).length = xs.length := by simp [enumA]
theorem unk_ok {x : Int} (hl : free.length ≤ 64) : m_unknowns_at [codeA s free fixed, .int x] M = .ok (.int (unkF free x : Nat)) M := by
  rw [show m_unknowns_at [codeA s free fixed, .int x] M = AL.exit M (fin (s_unknowns_at (start0 5 [codeA s free fixed, .int x]) M)) from def_of rfl]
  rw [← exit_pure (M := M) (a := .int (unkF free x : Nat)) rfl]
  have loop : ∃ y z, f_unknowns_at_2 [some (codeA s free fixed), some (.int x), some (.int 0), none, none] M = .nx [some (codeA s free fixed), some (.int x), some (.int (unkF free x : Nat)), y, z] M := by
    have hf : f_unknowns_at_2 [some (codeA s free fixed), some (.int x), some (.int 0), none, none] M = forGo ⟨enumA (free.map A.int), [(.lst (free.map A.int), free.map A.int)]⟩ (gTp 2 (gsCons (gNm 3) (gsCons (gNm 4) (gsNil)))) fb_unknowns_at_2 (enumA (free.map A.int)) [some (codeA s free fixed), some (.int x), some (.int 0), none, none] M := by
      unfold f_unknowns_at_2
      rw [v_for]
      simp [AL.iEnum, code_x1, asL]
    rw [hf]
    obtain ⟨ro', M', h1, h2, y, z, h3⟩ := forGo_all (ai := ⟨enumA (free.map A.int), [(.lst (free.map A.int), free.map A.int)]⟩) (g := gTp 2 (gsCons (gNm 3) (gsCons (gNm 4) (gsNil)))) (b := fb_unknowns_at_2)
      (fun k ro M' => M' = M ∧ ∃ y z, ro = [some (codeA s free fixed), some (.int x), some (.int (unkN free x k : Nat)), y, z])
      (fun k ro M' _ h => by obtain ⟨rfl, _⟩ := h; intro p hp; rw [List.mem_singleton.mp hp]; rfl)
      (fun k w ro M' hx h => by
        obtain ⟨rfl, y, z, rfl⟩ := h
        obtain ⟨v, hv, rfl⟩ := enum_at hx
        rw [List.getElem?_map] at hv
        obtain ⟨p, hp, rfl⟩ := Option.map_eq_some_iff.mp hv
        have hg : free.getD k 0 = p := by rw [List.getD_eq_getElem?_getD, hp]; rfl
        have hk : k < free.length := (List.getElem?_eq_some_iff.mp hp).1
        refine ⟨[some (codeA s free fixed), some (.int x), some (.int (unkN free x k : Nat)), some (.int (k : Nat)), some (.int p)], M', [some (codeA s free fixed), some (.int x), some (.int (unkN free x (k + 1) : Nat)), some (.int (k : Nat)), some (.int p)], M', by simp, .inl ?_, rfl, _, _, rfl⟩
        have sh : vShl (.int 1) (.int (k : Nat)) M' = .ok (.int ((2 ^ k : Nat) : Int)) M' := by
          rw [w_shl (by omega) (by omega) (by decide)]
          congr 2
          rw [Int.one_mul, Int.toNat_natCast]
          exact (Int.natCast_pow 2 k).symm
        cases hc : comesB p x with
        | false =>
          have e : unkN free x (k + 1) = unkN free x k := by rw [unkN, hg, hc]; simp
          rw [e]
          simp [fb_unknowns_at_2, i_unknowns_at_1, comes_ok, hc]
        | true =>
          have e : ((unkN free x (k + 1) : Nat) : Int) = (unkN free x k : Nat) + ((2 ^ k : Nat) : Int) := by rw [unkN, hg, hc]; simp
          rw [e]
          generalize ((2 ^ k : Nat) : Int) = q at sh
          simp [fb_unknowns_at_2, i_unknowns_at_1, comes_ok, hc, sAug, sh])
      [some (codeA s free fixed), some (.int x), some (.int 0), none, none] M ⟨rfl, none, none, rfl⟩
    subst h2
    have e : (enumA (free.map A.int)).length = free.length := by rw [enum_len]; simp
    rw [e] at h3
    exact ⟨y, z, by rw [h1, h3]; rfl⟩
  obtain ⟨y, z, loop⟩ := loop
  simp [s_unknowns_at, start0, fin, loop]
/-- sum_of -/
theorem sum_ok {ns : List Int} {a : A} (h : asL M a = some (ns.map A.int)) : m_sum_of [a] M = .ok (.int (ns.sum % 2)) M := by
  rw [show m_sum_of [a] M = AL.exit M (fin (s_sum_of (start0 1 [a]) M)) from def_of rfl]
  rw [← exit_pure (M := M) (a := .int (ns.sum % 2)) rfl]
  have x : vSumAll [a] M = .ok (.int ns.sum) M := by simp [vSumAll, h, ints_map]
  have y : vMod (.int ns.sum) (.int 2) M = .ok (.int (ns.sum % 2)) M := w_mod (by decide)
  simp [s_sum_of, start0, fin, x, y]
/-- the spots of a mask -/
def spotsF (made : Nat) : List Int := (rg 32).filter fun x => made.testBit x.toNat
theorem spots_ok {made : Nat} : m_spots_in [.int (made : Nat)] M = .ok (.lst ((spotsF made).map A.int)) M := by
  rw [show m_spots_in [.int (made : Nat)] M = AL.exit M (fin (s_spots_in (start0 2 [.int (made : Nat)]) M)) from def_of rfl]
  rw [← exit_pure (M := M) (a := .lst ((spotsF made).map A.int)) (bnds_ints _)]
  have hc : c_spots_in_1 [some (.int (made : Nat)), none] M = .ok (.lst ((spotsF made).map A.int)) M := by
    unfold c_spots_in_1
    have hi : (AL.iRng1 (eC (.int 32))) [some (.int (made : Nat)), none] M = .ok ⟨(rg 32).map A.int, []⟩ M := by
      simp [AL.iRng1, rngA0]
    rw [v_lc, hi, r_ok]
    simp only
    rw [lcGo_pure (fun x => match x with | .int i => made.testBit i.toNat | _ => false) id (by simp [rg_len]) (by intro p hp; cases hp) (fun x hx => by
      obtain ⟨i, hi, rfl⟩ := List.mem_map.mp hx
      obtain ⟨i0, i1⟩ := rg_mem hi
      refine ⟨_, rfl, ?_, fun _ => by simp [ce_spots_in_1, wipeA]⟩
      have sh : vShr (.int (made : Nat)) (.int i) M = .ok (.int ((made : Int) / 2 ^ i.toNat)) M := w_shr i0
      have b := bit_at made i.toNat
      generalize (made : Int) / 2 ^ i.toNat = q at sh b
      cases ht : made.testBit i.toNat with
      | true =>
        have b' := b.mpr ht
        simp [ct_spots_in_1, wipeA, sh, b', ht]
      | false =>
        have b' : ¬ Builtin.bitAnd q 1 = 1 := fun h => by rw [b.mp h] at ht; cases ht
        simp [ct_spots_in_1, wipeA, sh, b', ht])]
    rw [r_ok, w_mkLt (by
      rw [List.map_id]
      exact Nat.le_trans (List.length_filter_le _ _) (by simp [rg_len]))]
    congr 2
    rw [List.map_id, List.filter_map]
    rfl
  simp [s_spots_in, start0, fin, hc]
end
end G

/-! L1b: signs_fixed, left_at. -/
namespace G
open PySem PySem.Spec L2 AL
/-- how many places below k are fixed -/
def nfc (free : List Int) : Nat → Nat
  | 0 => 0
  | k + 1 => nfc free k + (if (k : Int) ∈ free then 0 else 1)
/-- the fixed sign of a place -/
def fsg (free fixed : List Int) (k : Nat) : Int := fixed.getD (nfc free k) 0
def fixA (free fixed : List Int) (k : Nat) : A := if (k : Int) ∈ free then .non else .int (fsg free fixed k)
def fixL (free fixed : List Int) (m : Nat) : List A := (List.range m).map (fixA free fixed)
theorem nfc_mono (free : List Int) : ∀ {j k : Nat}, j ≤ k → nfc free j ≤ nfc free k
  | j, 0, h => by have : j = 0 := by omega
                  subst this; exact Nat.le_refl _
  | j, k + 1, h => by
    by_cases e : j = k + 1
    · subst e; exact Nat.le_refl _
    · have := nfc_mono free (j := j) (k := k) (by omega)
      rw [nfc]
      omega
theorem sub_filter {α : Type} [DecidableEq α] : ∀ {l L : List α}, l.Sublist L → L.Nodup → L.filter (fun x => decide (x ∈ l)) = l := by
  intro l L h
  induction h with
  | slnil => intro _; rfl
  | @cons l L a h ih =>
    intro nd
    rw [List.nodup_cons] at nd
    have : a ∉ l := fun z => nd.1 (h.subset z)
    rw [List.filter_cons, if_neg (by simpa using this), ih nd.2]
  | @cons_cons l L a h ih =>
    intro nd
    rw [List.nodup_cons] at nd
    rw [List.filter_cons, if_pos (by simp)]
    congr 1
    rw [← ih nd.2]
    apply List.filter_congr
    intro x hx
    have : x ≠ a := fun e => nd.1 (e ▸ hx)
    rw [ih nd.2]
    simp [this]
theorem nfc_count (free : List Int) : ∀ m : Nat, nfc free m + ((rg m).filter fun x => decide (x ∈ free)).length = m
  | 0 => rfl
  | m + 1 => by
    have ih := nfc_count free m
    have e : rg (m + 1) = rg m ++ [(m : Int)] := by simp [rg, List.range_succ]
    rw [e, List.filter_append, List.length_append, nfc]
    by_cases h : (m : Int) ∈ free
    · simp [h]; omega
    · simp [h]; omega
theorem GC.nfc_all {s : Int} {free fixed : List Int} (g : GC s free fixed) : nfc free (2 ^ s.toNat) = fixed.length := by
  have h := nfc_count free (2 ^ s.toNat)
  have nd : (rg (2 ^ s.toNat)).Nodup := (rg_lt _).imp (fun h => by omega)
  rw [sub_filter g.sub nd] at h
  have := g.len
  omega
theorem GC.nfc_lt {s : Int} {free fixed : List Int} (g : GC s free fixed) {k : Nat} (hk : k < 2 ^ s.toNat) (h : (k : Int) ∉ free) : nfc free k < fixed.length := by
  have h1 : nfc free (k + 1) = nfc free k + 1 := by rw [nfc, if_neg h]
  have h2 := nfc_mono free (j := k + 1) (k := 2 ^ s.toNat) hk
  rw [g.nfc_all] at h2
  omega
section
variable {M : Mem} {s : Int} {free fixed : List Int}
theorem fix_ok (g : GC s free fixed) : m_signs_fixed [codeA s free fixed] M = .ok (.lst (fixL free fixed (2 ^ s.toNat))) M := by
  rw [show m_signs_fixed [codeA s free fixed] M = AL.exit M (fin (s_signs_fixed (start0 4 [codeA s free fixed]) M)) from def_of rfl]
  have hs1 := g.s1
  have hs5 := g.s5
  have hm := many_le (by omega : 0 ≤ s) hs5
  have hlt := fun k => g.nfc_lt (k := k)
  have t0 : ∀ M : Mem, vIx (.tup [.int 1, .int 2, .int 4, .int 8, .int 16, .int 32]) (.int s) M = .ok (.int ((2 ^ s.toNat : Nat) : Int)) M := fun M => tab_tup (by omega) hs5
  generalize 2 ^ s.toNat = m at t0 hm hlt ⊢
  have z : mkL false [] M = .ok (.loc M.length) (M ++ [.lst []]) := w_mkLf (by simp)
  have loop : ∃ x, f_signs_fixed_2 [some (codeA s free fixed), some (.loc M.length), some (.int 0), none] (M ++ [.lst []]) = .nx [some (codeA s free fixed), some (.loc M.length), some (.int (nfc free m : Nat)), x] (M ++ [.lst (fixL free fixed m)]) := by
    have hf : f_signs_fixed_2 [some (codeA s free fixed), some (.loc M.length), some (.int 0), none] (M ++ [.lst []]) = forGo ⟨(rg m).map A.int, []⟩ (gNm 3) fb_signs_fixed_2 ((rg m).map A.int) [some (codeA s free fixed), some (.loc M.length), some (.int 0), none] (M ++ [.lst []]) := by
      unfold f_signs_fixed_2
      rw [v_for]
      rw [rng1_of (m := m) (M1 := M ++ [.lst []]) (by simp [code_x0, t0]) (by omega), fl_ok]
    rw [hf]
    obtain ⟨ro', M', h1, ⟨x, h2⟩, h3⟩ := forGo_all (ai := ⟨(rg m).map A.int, []⟩) (g := gNm 3) (b := fb_signs_fixed_2)
      (fun k ro M' => (∃ x, ro = [some (codeA s free fixed), some (.loc M.length), some (.int (nfc free k : Nat)), x]) ∧ M' = M ++ [.lst (fixL free fixed k)])
      (fun _ _ _ _ _ p hp => nomatch hp)
      (fun k w ro M' hx h => by
        obtain ⟨⟨x, rfl⟩, rfl⟩ := h
        rw [List.getElem?_map] at hx
        obtain ⟨p, hp, rfl⟩ := Option.map_eq_some_iff.mp hx
        have hk : k < m := by have := (List.getElem?_eq_some_iff.mp hp).1; rwa [rg_len] at this
        have hpk : p = (k : Int) := by
          have : (rg m)[k]? = some (k : Int) := by simp [rg, hk]
          rw [this] at hp
          cases hp
          rfl
        subst hpk
        have gl : (M ++ [MO.lst (fixL free fixed k)])[M.length]? = some (.lst (fixL free fixed k)) := by simp
        have fl : (fixL free fixed k).length = k := by simp [fixL]
        have fs : fixL free fixed (k + 1) = fixL free fixed k ++ [fixA free fixed k] := by simp [fixL, List.range_succ]
        have inn : vIn false (.int (k : Int)) (.lst (free.map A.int)) (M ++ [.lst (fixL free fixed k)]) = .ok (.bl (decide ((k : Int) ∈ free))) (M ++ [.lst (fixL free fixed k)]) := vIn_ints (neg := false) rfl
        have ap : ∀ a, mAppend (.loc M.length) [a] (M ++ [.lst (fixL free fixed k)]) = .ok .non (M ++ [.lst (fixL free fixed k ++ [a])]) := fun a => by
          unfold mAppend
          rw [locL_loc gl]
          simp only
          rw [if_pos (by rw [sizeLine_eq, fl]; omega)]
          simp
        have al := asL_loc gl
        by_cases hin : (k : Int) ∈ free
        · have e1 : nfc free (k + 1) = nfc free k := by rw [nfc, if_pos hin]; rfl
          have e2 : fixA free fixed k = .non := by rw [fixA, if_pos hin]
          refine ⟨_, _, [some (codeA s free fixed), some (.loc M.length), some (.int (nfc free k : Nat)), some (.int (k : Int))], M ++ [.lst (fixL free fixed k ++ [.non])], rfl, .inl ?_, ⟨some (.int (k : Int)), by rw [e1]⟩, by rw [fs, e2]⟩
          simp [fb_signs_fixed_2, i_signs_fixed_1, code_x1, inn, hin, al, ap]
        · have e1 : ((nfc free (k + 1) : Nat) : Int) = (nfc free k : Nat) + 1 := by rw [nfc, if_neg hin]; simp
          have e2 : fixA free fixed k = .int (fsg free fixed k) := by rw [fixA, if_neg hin]
          have hl := hlt k hk hin
          have ix : vIx (.lst (fixed.map A.int)) (.int (nfc free k : Nat)) (M ++ [.lst (fixL free fixed k)]) = .ok (.int (fsg free fixed k)) (M ++ [.lst (fixL free fixed k)]) := vIx_of (xs := fixed.map A.int) rfl (by omega) (by
            rw [List.getElem?_map, Int.toNat_natCast, List.getElem?_eq_getElem hl]
            simp [fsg, List.getD_eq_getElem?_getD, hl])
          refine ⟨_, _, [some (codeA s free fixed), some (.loc M.length), some (.int ((nfc free k : Nat) + 1)), some (.int (k : Int))], M ++ [.lst (fixL free fixed k ++ [.int (fsg free fixed k)])], rfl, .inl ?_, ⟨some (.int (k : Int)), by rw [e1]⟩, by rw [fs, e2]⟩
          simp [fb_signs_fixed_2, i_signs_fixed_1, code_x1, code_x2, inn, hin, al, ap, ix, sAug])
      [some (codeA s free fixed), some (.loc M.length), some (.int 0), none] (M ++ [.lst []]) ⟨⟨none, rfl⟩, rfl⟩
    have e : ((rg m).map A.int).length = m := by simp [rg_len]
    rw [e] at h2 h3
    exact ⟨x, by rw [h1, h2, h3]⟩
  obtain ⟨x, loop⟩ := loop
  have fz : frz (.loc M.length) (M ++ [.lst (fixL free fixed m)]) = .ok (.lst (fixL free fixed m)) (M ++ [.gone]) := by
    simp [frz]
  rw [← exit_app (E := [.gone]) (show bnd M.length (.lst (fixL free fixed m)) = true from bnds_all fun a ha => by
    obtain ⟨k, _, rfl⟩ := List.mem_map.mp ha
    unfold fixA
    split <;> rfl)]
  simp [s_signs_fixed, start0, z, loop, fin, fz]
end
end G

/-! L1c: left_at. -/
namespace G
open PySem PySem.Spec L2 AL
/-- what came at a spot -/
def cv (came : List A) (x : Int) : Int := match came[x.toNat]? with
  | some (.int v) => v
  | _ => 0
/-- the fixed signs of the places that come to a spot -/
def fxL (free fixed : List Int) (m : Nat) (x : Int) : List Int := ((List.range m).filter fun k : Nat => !decide ((k : Int) ∈ free) && comesB (k : Int) x).map (fsg free fixed)
def leftF (free fixed : List Int) (m : Nat) (came : List A) (spots : List Int) : Int := (spots.map (cv came) ++ spots.flatMap (fxL free fixed m)).sum % 2
/-- a spot of which a sign came -/
def Heard (came : List A) (x : Int) : Prop := 0 ≤ x ∧ ∃ v, came[x.toNat]? = some (.int v)
theorem enum_range {m : Nat} {f : Nat → A} : enumA ((List.range m).map f) = (List.range m).map fun k => .tup [.int (k : Nat), f k] := by
  apply List.ext_getElem?
  intro i
  by_cases h : i < m
  · unfold enumA
    rw [List.getElem?_zipWith, List.length_map, List.length_range, List.getElem?_range h, List.getElem?_map, List.getElem?_map, List.getElem?_range h]
    rfl
  · rw [List.getElem?_eq_none (by rw [enum_len]; simp; omega), List.getElem?_eq_none (by simp; omega)]
section
variable {M : Mem} {s : Int} {free fixed : List Int} {came : List A}
theorem fxL_len {m : Nat} {x : Int} : (fxL free fixed m x).length ≤ m := by
  unfold fxL
  rw [List.length_map]
  exact Nat.le_trans (List.length_filter_le _ _) (by simp)
theorem left_c2 {m : Nat} (hm : m ≤ 32) {r0 r1 r2 r4 r6 r7 : Option A} {x : Int} : c_left_at_2 [r0, r1, r2, some (.lst (fixL free fixed m)), r4, some (.int x), r6, r7] M = .ok (.lst ((fxL free fixed m x).map A.int)) M := by
  unfold c_left_at_2
  have hi : (AL.iEnum (eVar 3)) [r0, r1, r2, some (.lst (fixL free fixed m)), r4, some (.int x), r6, r7] M = .ok ⟨enumA (fixL free fixed m), [(.lst (fixL free fixed m), fixL free fixed m)]⟩ M := by
    simp [AL.iEnum, asL]
  rw [v_lc, hi, r_ok]
  simp only
  rw [lcGo_pure (fun y => match y with | .tup [.int k, .int _] => comesB k x | _ => false) (fun y => match y with | .tup [_, z] => z | _ => .non) (by show (enumA (fixL free fixed m)).length ≤ 4096; rw [enum_len]; simp [fixL]; omega) (by intro p hp; rw [List.mem_singleton.mp hp]; rfl) (fun y hy => by
    have hy' : y ∈ enumA (fixL free fixed m) := hy
    unfold fixL at hy'
    rw [enum_range] at hy'
    obtain ⟨k, _, rfl⟩ := List.mem_map.mp hy'
    refine ⟨_, rfl, ?_, fun h => ?_⟩
    · unfold fixA
      split
      · simp [ct_left_at_2, wipeA, AL.isNon]
      · simp [ct_left_at_2, wipeA, AL.isNon, comes_ok]
    · simp [ce_left_at_2, wipeA])]
  have e : ((enumA (fixL free fixed m)).filter fun y => match y with | .tup [.int k, .int _] => comesB k x | _ => false).map (fun y => match y with | .tup [_, z] => z | _ => .non) = (fxL free fixed m x).map A.int := by
    unfold fixL fxL
    rw [enum_range, List.filter_map, List.map_map, List.map_map]
    have e1 : ((fun y => match y with | A.tup [.int k, .int _] => comesB k x | _ => false) ∘ fun k : Nat => A.tup [.int (k : Nat), fixA free fixed k]) = fun k : Nat => !decide ((k : Int) ∈ free) && comesB (k : Int) x := by
      funext k
      simp only [Function.comp, fixA]
      by_cases h : (k : Int) ∈ free
      · simp [h]
      · simp [h]
    rw [e1]
    apply List.map_congr_left
    intro k hk
    have hk2 := (List.mem_filter.mp hk).2
    simp only [Bool.and_eq_true, Bool.not_eq_true', decide_eq_false_iff_not] at hk2
    simp only [Function.comp, fixA]
    rw [if_neg hk2.1]
  show (R.ok (List.map _ (List.filter _ (enumA (fixL free fixed m)))) M).bind _ = _
  rw [e, r_ok, w_mkLt (by rw [List.length_map]; have := fxL_len (free := free) (fixed := fixed) (m := m) (x := x); omega)]
theorem left_ok (g : GC s free fixed) {cameV : A} {spots : List Int} (hc : asL M cameV = some came) (hh : ∀ x ∈ spots, Heard came x) (hl : spots.length ≤ 32) (hb : bnd M.length cameV = true) :
    m_left_at [codeA s free fixed, cameV, .lst (spots.map A.int)] M = .ok (.int (leftF free fixed (2 ^ s.toNat) came spots)) M := by
  rw [show m_left_at [codeA s free fixed, cameV, .lst (spots.map A.int)] M = AL.exit M (fin (s_left_at (start0 8 [codeA s free fixed, cameV, .lst (spots.map A.int)]) M)) from def_of rfl]
  have hs1 := g.s1
  have hs5 := g.s5
  have hm := many_le (by omega : 0 ≤ s) hs5
  have fx := fun M => fix_ok (M := M) g
  generalize 2 ^ s.toNat = m at hm fx ⊢
  have asx : ∀ (E : Mem), asL (M ++ E) cameV = some came := fun E => by
    cases cameV with
    | loc n =>
      have hn : n < M.length := by simpa [bnd] using hb
      simp only [asL] at hc ⊢
      rw [List.getElem?_append_left hn]
      exact hc
    | lst ys => exact hc
    | frz ys => exact hc
    | _ => cases hc
  have asS' : ∀ E, asS (M ++ E) cameV = some came := fun E => by
    cases cameV with
    | tup _ => cases hc
    | _ => exact asx E
  have c1 : c_left_at_1 [some (codeA s free fixed), some cameV, some (.lst (spots.map A.int)), some (.lst (fixL free fixed m)), none, none, none, none] M = .ok (.loc M.length) (M ++ [.lst ((spots.map (cv came)).map A.int)]) := by
    unfold c_left_at_1
    have hi : (AL.iLst (eVar 2)) [some (codeA s free fixed), some cameV, some (.lst (spots.map A.int)), some (.lst (fixL free fixed m)), none, none, none, none] M = .ok ⟨spots.map A.int, [(.lst (spots.map A.int), spots.map A.int)]⟩ M := by
      simp [AL.iLst, asL]
    rw [v_lc, hi, r_ok]
    simp only
    rw [lcGo_map (fun y => match y with | .int x => .int (cv came x) | _ => .non) (by simp; omega) (by intro p hp; rw [List.mem_singleton.mp hp]; rfl) (fun y hy => by
      obtain ⟨x, hx, rfl⟩ := List.mem_map.mp hy
      obtain ⟨x0, v, hv⟩ := hh x hx
      have e : cv came x = v := by unfold cv; rw [hv]
      refine ⟨_, rfl, rfl, ?_⟩
      have ix : vIx cameV (.int x) M = .ok (.int v) M := vIx_of (by have := asS' []; simpa using this) x0 hv
      simp [ce_left_at_1, wipeA, ix, e])]
    rw [r_ok, w_mkLf (by simp; omega), List.map_map, List.map_map]
    rfl
  have loop : ∃ y, f_left_at_3 [some (codeA s free fixed), some cameV, some (.lst (spots.map A.int)), some (.lst (fixL free fixed m)), some (.loc M.length), none, none, none] (M ++ [.lst ((spots.map (cv came)).map A.int)]) =
      .nx [some (codeA s free fixed), some cameV, some (.lst (spots.map A.int)), some (.lst (fixL free fixed m)), some (.loc M.length), y, none, none] (M ++ [.lst ((spots.map (cv came) ++ spots.flatMap (fxL free fixed m)).map A.int)]) := by
    have hf : f_left_at_3 [some (codeA s free fixed), some cameV, some (.lst (spots.map A.int)), some (.lst (fixL free fixed m)), some (.loc M.length), none, none, none] (M ++ [.lst ((spots.map (cv came)).map A.int)]) =
        forGo ⟨spots.map A.int, [(.lst (spots.map A.int), spots.map A.int)]⟩ (gNm 5) fb_left_at_3 (spots.map A.int) [some (codeA s free fixed), some cameV, some (.lst (spots.map A.int)), some (.lst (fixL free fixed m)), some (.loc M.length), none, none, none] (M ++ [.lst ((spots.map (cv came)).map A.int)]) := by
      unfold f_left_at_3
      rw [v_for]
      simp [AL.iLst, asL]
    rw [hf]
    obtain ⟨ro', M', h1, ⟨y, h2⟩, h3, _⟩ := forGo_all (ai := ⟨spots.map A.int, [(.lst (spots.map A.int), spots.map A.int)]⟩) (g := gNm 5) (b := fb_left_at_3)
      (fun k ro M' => (∃ y, ro = [some (codeA s free fixed), some cameV, some (.lst (spots.map A.int)), some (.lst (fixL free fixed m)), some (.loc M.length), y, none, none]) ∧ M' = M ++ [.lst ((spots.map (cv came) ++ (spots.take k).flatMap (fxL free fixed m)).map A.int)] ∧ ((spots.take k).flatMap (fxL free fixed m)).length ≤ 32 * k)
      (fun k ro M' _ h => by intro p hp; rw [List.mem_singleton.mp hp]; rfl)
      (fun k w ro M' hx h => by
        obtain ⟨⟨y, rfl⟩, rfl, hlen⟩ := h
        rw [List.getElem?_map] at hx
        obtain ⟨x, hp, rfl⟩ := Option.map_eq_some_iff.mp hx
        have hk : k < spots.length := (List.getElem?_eq_some_iff.mp hp).1
        have tk : (spots.take (k + 1)).flatMap (fxL free fixed m) = (spots.take k).flatMap (fxL free fixed m) ++ fxL free fixed m x := by
          rw [List.take_add_one, hp, List.flatMap_append]
          simp
        have fl := fxL_len (free := free) (fixed := fixed) (m := m) (x := x)
        have gl : (M ++ [MO.lst ((spots.map (cv came) ++ (spots.take k).flatMap (fxL free fixed m)).map A.int)])[M.length]? = some (.lst ((spots.map (cv came) ++ (spots.take k).flatMap (fxL free fixed m)).map A.int)) := by simp
        have c2 := left_c2 (M := M ++ [MO.lst ((spots.map (cv came) ++ (spots.take k).flatMap (fxL free fixed m)).map A.int)]) (free := free) (fixed := fixed) hm (r0 := some (codeA s free fixed)) (r1 := some cameV) (r2 := some (.lst (spots.map A.int))) (r4 := some (.loc M.length)) (r6 := none) (r7 := none) (x := x)
        have ex : mExtend (.loc M.length) [.lst ((fxL free fixed m x).map A.int)] (M ++ [MO.lst ((spots.map (cv came) ++ (spots.take k).flatMap (fxL free fixed m)).map A.int)]) = .ok .non (M ++ [MO.lst ((spots.map (cv came) ++ (spots.take (k + 1)).flatMap (fxL free fixed m)).map A.int)]) := by
          unfold mExtend
          rw [locL_loc gl]
          simp only [asL1]
          rw [if_pos (by
            rw [sizeLine_eq, List.length_map, List.length_map, List.length_append, List.length_map]
            omega), tk]
          simp
        have al := asL_loc gl
        refine ⟨_, _, [some (codeA s free fixed), some cameV, some (.lst (spots.map A.int)), some (.lst (fixL free fixed m)), some (.loc M.length), some (.int x), none, none], _, rfl, .inl ?_, ⟨_, rfl⟩, rfl, by rw [tk, List.length_append]; omega⟩
        generalize (spots.map (cv came) ++ (spots.take k).flatMap (fxL free fixed m)).map A.int = q1 at c2 ex al ⊢
        simp only [fb_left_at_3, v_expr, v_eBm, v_var, v_cons, v_nil]
        simp [al, c2, ex])
      [some (codeA s free fixed), some cameV, some (.lst (spots.map A.int)), some (.lst (fixL free fixed m)), some (.loc M.length), none, none, none] (M ++ [.lst ((spots.map (cv came)).map A.int)]) ⟨⟨none, rfl⟩, by simp, by simp⟩
    have e : spots.take (spots.map A.int).length = spots := by rw [List.length_map, List.take_length]
    rw [e] at h3
    exact ⟨y, by rw [h1, h2, h3]⟩
  obtain ⟨y, loop⟩ := loop
  have sm : m_sum_of [.loc M.length] (M ++ [.lst ((spots.map (cv came) ++ spots.flatMap (fxL free fixed m)).map A.int)]) = .ok (.int (leftF free fixed m came spots)) (M ++ [.lst ((spots.map (cv came) ++ spots.flatMap (fxL free fixed m)).map A.int)]) := sum_ok (asL_loc (by simp))
  rw [← exit_app (E := [.lst ((spots.map (cv came) ++ spots.flatMap (fxL free fixed m)).map A.int)]) (show bnd M.length (.int (leftF free fixed m came spots)) = true from rfl)]
  generalize (spots.map (cv came) ++ spots.flatMap (fxL free fixed m)).map A.int = q at loop sm ⊢
  generalize (spots.map (cv came)).map A.int = q0 at c1 loop
  simp only [s_left_at, start0, v_seq, v_set, v_A, v_cons, v_nil, v_var, v_ret]
  simp [fx, c1, loop, sm, fin]
end
end G

/-! L1d: Solving. -/
namespace G
open PySem PySem.Spec L2 AL
abbrev Row3 : Type := Nat × Nat × Nat
abbrev r3A (r : Row3) : A := .tup [.int (r.1 : Nat), .int (r.2.1 : Nat), .int (r.2.2 : Nat)]
abbrev rows3 (rows : List Row3) : A := .lst (rows.map r3A)
abbrev solMO (rows : List Row3) : MO := .ins 21 [(0, rows3 rows)]
theorem bnd_rows {k : Nat} (rows : List Row3) : bnd k (rows3 rows) = true := bnds_all fun x hx => by
  obtain ⟨q, _, rfl⟩ := List.mem_map.mp hx
  rfl
theorem bndM_sol {k : Nat} (rows : List Row3) : bndM k (solMO rows) := bndM_ins (by simp [bnd_rows])
def lowStep (p : Nat × Nat) (r : Row3) : Nat × Nat := if p.1 &&& r.1 ≠ 0 then (p.1 ^^^ r.2.1, p.2 ^^^ r.2.2) else p
def lowF (rows : List Row3) (mask made : Nat) : Nat × Nat := rows.foldl lowStep (mask, made)
def putRow (head mask made : Nat) (r : Row3) : Row3 := if r.2.1 &&& head ≠ 0 then (r.1, r.2.1 ^^^ mask, r.2.2 ^^^ made) else r
/-- the rows behind a put, and what it tells -/
def putF (rows : List Row3) (mask spot : Nat) : List Row3 × Nat × Nat :=
  let p := lowF rows mask (2 ^ spot)
  (if p.1 = 0 then rows else rows.map (putRow (lowb p.1) p.1 p.2) ++ [(lowb p.1, p.1, p.2)], p)
section
variable {M : Mem} {n : Nat} {rows : List Row3}
theorem sol_init (h : M[n]? = some (.ins 21 [])) : m_Solving_init [.loc n] M = .ok .non (M.set n (solMO [])) := by
  rw [show m_Solving_init [.loc n] M = AL.exit M (fin (s_Solving_init (start0 1 [.loc n]) M)) from def_of rfl]
  have z : mkL true [] M = .ok (.lst []) M := w_mkLt (by simp)
  have e : s_Solving_init (start0 1 [.loc n]) M = .nx [some (.loc n)] (M.set n (solMO [])) := by
    have := setFld_of (r := n) (c := 21) (f := 0) (fs := []) (a := .lst []) (fo := eVar 0) (fv := eLst true aNil) (ro := [some (.loc n)]) (M0 := M) (M := M) (by simp [z]) (by simp) h (by simp)
    exact this
  rw [e]
  exact exit_set (bndM_sol []) rfl
theorem sol_mk : mkSem 21 m_Solving_init [] M = .ok (.loc M.length) (M ++ [solMO []]) := by
  unfold mkSem
  rw [sol_init (by simp)]
  simp
theorem low_ok {mask made : Nat} (h : M[n]? = some (solMO rows)) (hl : rows.length ≤ 64) : m_Solving_lowered [.loc n, .int (mask : Nat), .int (made : Nat)] M = .ok (.tup [.int ((lowF rows mask made).1 : Nat), .int ((lowF rows mask made).2 : Nat)]) M := by
  rw [show m_Solving_lowered [.loc n, .int (mask : Nat), .int (made : Nat)] M = AL.exit M (fin (s_Solving_lowered (start0 6 [.loc n, .int (mask : Nat), .int (made : Nat)]) M)) from def_of rfl]
  rw [← exit_pure (M := M) (a := .tup [.int ((lowF rows mask made).1 : Nat), .int ((lowF rows mask made).2 : Nat)]) rfl]
  have fl : vFldC 21 0 (.loc n) M = .ok (rows3 rows) M := fld_of h rfl
  have loop : ∃ x y z, f_Solving_lowered_2 [some (.loc n), some (.int (mask : Nat)), some (.int (made : Nat)), none, none, none] M = .nx [some (.loc n), some (.int ((lowF rows mask made).1 : Nat)), some (.int ((lowF rows mask made).2 : Nat)), x, y, z] M := by
    have hf : f_Solving_lowered_2 [some (.loc n), some (.int (mask : Nat)), some (.int (made : Nat)), none, none, none] M = forGo ⟨rows.map r3A, [(rows3 rows, rows.map r3A)]⟩ (gTp 3 (gsCons (gNm 3) (gsCons (gNm 4) (gsCons (gNm 5) (gsNil))))) fb_Solving_lowered_2 (rows.map r3A) [some (.loc n), some (.int (mask : Nat)), some (.int (made : Nat)), none, none, none] M := by
      unfold f_Solving_lowered_2
      rw [v_for]
      simp [AL.iLst, fl, asL]
    rw [hf]
    obtain ⟨ro', M', h1, h2, x, y, z, h3⟩ := forGo_all (ai := ⟨rows.map r3A, [(rows3 rows, rows.map r3A)]⟩) (g := gTp 3 (gsCons (gNm 3) (gsCons (gNm 4) (gsCons (gNm 5) (gsNil))))) (b := fb_Solving_lowered_2)
      (fun k ro M' => M' = M ∧ ∃ x y z, ro = [some (.loc n), some (.int ((lowF (rows.take k) mask made).1 : Nat)), some (.int ((lowF (rows.take k) mask made).2 : Nat)), x, y, z])
      (fun k ro M' _ h => by obtain ⟨rfl, _⟩ := h; intro p hp; rw [List.mem_singleton.mp hp]; rfl)
      (fun k w ro M' hx h => by
        obtain ⟨rfl, x, y, z, rfl⟩ := h
        rw [List.getElem?_map] at hx
        obtain ⟨r, hr, rfl⟩ := Option.map_eq_some_iff.mp hx
        have tk : lowF (rows.take (k + 1)) mask made = lowStep (lowF (rows.take k) mask made) r := by
          unfold lowF
          rw [List.take_add_one, hr, List.foldl_append]
          rfl
        generalize lowF (rows.take k) mask made = p at tk
        obtain ⟨a, b⟩ := p
        have an : ∀ M : Mem, vAnd (.int (a : Nat)) (.int (r.1 : Nat)) M = .ok (.int ((a &&& r.1 : Nat) : Int)) M := fun M => by rw [w_and, and_nat]
        have x1 : ∀ M : Mem, vXor (.int (a : Nat)) (.int (r.2.1 : Nat)) M = .ok (.int ((a ^^^ r.2.1 : Nat) : Int)) M := fun M => by rw [w_xor, xor_nat]
        have x2 : ∀ M : Mem, vXor (.int (b : Nat)) (.int (r.2.2 : Nat)) M = .ok (.int ((b ^^^ r.2.2 : Nat) : Int)) M := fun M => by rw [w_xor, xor_nat]
        refine ⟨[some (.loc n), some (.int (a : Nat)), some (.int (b : Nat)), some (.int (r.1 : Nat)), some (.int (r.2.1 : Nat)), some (.int (r.2.2 : Nat))], M', [some (.loc n), some (.int ((lowStep (a, b) r).1 : Nat)), some (.int ((lowStep (a, b) r).2 : Nat)), some (.int (r.1 : Nat)), some (.int (r.2.1 : Nat)), some (.int (r.2.2 : Nat))], M', by simp, .inl ?_, rfl, _, _, _, by rw [tk]⟩
        unfold lowStep
        by_cases hc : a &&& r.1 = 0
        · simp [fb_Solving_lowered_2, i_Solving_lowered_1, -w_and, -w_xor, an, hc]
        · have hc' : ¬ ((a &&& r.1 : Nat) : Int) = 0 := by omega
          generalize ((a &&& r.1 : Nat) : Int) = q at an hc'
          simp [fb_Solving_lowered_2, i_Solving_lowered_1, -w_and, -w_xor, an, x1, x2, hc, hc'])
      [some (.loc n), some (.int (mask : Nat)), some (.int (made : Nat)), none, none, none] M ⟨rfl, none, none, none, rfl⟩
    subst h2
    have e : rows.take (rows.map r3A).length = rows := by rw [List.length_map, List.take_length]
    rw [e] at h3
    exact ⟨x, y, z, by rw [h1, h3]⟩
  obtain ⟨x, y, z, loop⟩ := loop
  have tp : ∀ a b : A, mkT [a, b] M = .ok (.tup [a, b]) M := fun a b => w_mkT (by simp)
  simp [s_Solving_lowered, start0, loop, tp, fin]
theorem exit_set_app {M E : Mem} {n : Nat} {o : MO} {a : A} (ho : bndM M.length o) (hb : bnd M.length a = true) : AL.exit M (.ok a (M.set n o ++ E)) = .ok a (M.set n o) := by
  have tk : (M.set n o ++ E).take M.length = M.set n o := by
    have : M.length = (M.set n o).length := by simp
    rw [this, List.take_left']
    rfl
  rw [exit_ok (fun i hi => ?_) hb, tk]
  rw [List.getElem?_append_left (by simpa using hi)]
  by_cases e : i = n
  · subst e
    exact .inr ⟨o, List.getElem?_set_self hi, ho⟩
  · exact .inl (List.getElem?_set_ne (Ne.symm e))
theorem tup2 {M : Mem} (a b : A) : mkT [a, b] M = .ok (.tup [a, b]) M := w_mkT (by simp)
theorem tup3 {M : Mem} (a b c : A) : mkT [a, b, c] M = .ok (.tup [a, b, c]) M := w_mkT (by simp)
theorem put_ok {mask spot : Nat} (h : M[n]? = some (solMO rows)) (hl : rows.length ≤ 64) (hs : spot ≤ 64) : m_Solving_put [.loc n, .int (mask : Nat), .int (spot : Nat)] M = .ok (.tup [.int ((putF rows mask spot).2.1 : Nat), .int ((putF rows mask spot).2.2 : Nat)]) (M.set n (solMO (putF rows mask spot).1)) := by
  rw [show m_Solving_put [.loc n, .int (mask : Nat), .int (spot : Nat)] M = AL.exit M (fin (s_Solving_put (start0 9 [.loc n, .int (mask : Nat), .int (spot : Nat)]) M)) from def_of rfl]
  have hn := at_lt h
  have sh : vShl (.int 1) (.int (spot : Nat)) M = .ok (.int ((2 ^ spot : Nat) : Int)) M := by
    rw [w_shl (by omega) (by omega) (by decide)]
    congr 2
    rw [Int.one_mul, Int.toNat_natCast]
    exact (Int.natCast_pow 2 spot).symm
  have lo := low_ok (mask := mask) (made := 2 ^ spot) h hl
  have isi : isInsOf 21 M (.loc n) = true := isIns_of h
  obtain ⟨p, hp⟩ : ∃ p, p = lowF rows mask (2 ^ spot) := ⟨_, rfl⟩
  have e2 : (putF rows mask spot).2 = p := by rw [hp]; rfl
  have e1 : (putF rows mask spot).1 = if p.1 = 0 then rows else rows.map (putRow (lowb p.1) p.1 p.2) ++ [(lowb p.1, p.1, p.2)] := by rw [hp]; rfl
  rw [e1, e2]
  rw [← hp] at lo
  clear e1 e2 hp
  obtain ⟨a, b⟩ := p
  simp only at lo ⊢
  generalize ((2 ^ spot : Nat) : Int) = q at sh lo
  by_cases h0 : a = 0
  · subst h0
    rw [if_pos rfl, set_self h, ← exit_pure (M := M) (a := .tup [.int ((0 : Nat) : Int), .int (b : Nat)]) rfl]
    have i3 : i_Solving_put_3 [some (.loc n), some (.int ((0 : Nat) : Int)), some (.int (spot : Nat)), some (.int (b : Nat)), none, none, none, none, none] M = .nx [some (.loc n), some (.int ((0 : Nat) : Int)), some (.int (spot : Nat)), some (.int (b : Nat)), none, none, none, none, none] M := by
      simp [i_Solving_put_3]
    generalize ((0 : Nat) : Int) = zz at i3 lo ⊢
    simp [s_Solving_put, start0, isi, sh, lo, i3, tup2, fin]
  · rw [if_neg h0]
    have lw : vAnd (.int (a : Nat)) (.int (0 - (a : Int))) M = .ok (.int (lowb a : Nat)) M := by rw [w_and, low_int (by omega)]
    have z : mkL false [] M = .ok (.loc M.length) (M ++ [.lst []]) := w_mkLf (by simp)
    have isi2 : ∀ E : Mem, (M ++ E)[n]? = some (solMO rows) := fun E => by rw [List.getElem?_append_left hn]; exact h
    have loop : ∃ x y z, f_Solving_put_2 [some (.loc n), some (.int (a : Nat)), some (.int (spot : Nat)), some (.int (b : Nat)), some (.int (lowb a : Nat)), some (.loc M.length), none, none, none] (M ++ [.lst []]) =
        .nx [some (.loc n), some (.int (a : Nat)), some (.int (spot : Nat)), some (.int (b : Nat)), some (.int (lowb a : Nat)), some (.loc M.length), x, y, z] (M ++ [.lst ((rows.map (putRow (lowb a) a b)).map r3A)]) := by
      have hf : f_Solving_put_2 [some (.loc n), some (.int (a : Nat)), some (.int (spot : Nat)), some (.int (b : Nat)), some (.int (lowb a : Nat)), some (.loc M.length), none, none, none] (M ++ [.lst []]) = forGo ⟨rows.map r3A, [(rows3 rows, rows.map r3A)]⟩ (gTp 3 (gsCons (gNm 6) (gsCons (gNm 7) (gsCons (gNm 8) (gsNil))))) fb_Solving_put_2 (rows.map r3A) [some (.loc n), some (.int (a : Nat)), some (.int (spot : Nat)), some (.int (b : Nat)), some (.int (lowb a : Nat)), some (.loc M.length), none, none, none] (M ++ [.lst []]) := by
        have fl : vFldC 21 0 (.loc n) (M ++ [.lst []]) = .ok (rows3 rows) (M ++ [.lst []]) := fld_of (isi2 _) rfl
        unfold f_Solving_put_2
        rw [v_for]
        simp [AL.iLst, fl, asL]
      rw [hf]
      obtain ⟨ro', M', h1, ⟨x, y, z, h3⟩, h2⟩ := forGo_all (ai := ⟨rows.map r3A, [(rows3 rows, rows.map r3A)]⟩) (g := gTp 3 (gsCons (gNm 6) (gsCons (gNm 7) (gsCons (gNm 8) (gsNil))))) (b := fb_Solving_put_2)
        (fun k ro M' => (∃ x y z, ro = [some (.loc n), some (.int (a : Nat)), some (.int (spot : Nat)), some (.int (b : Nat)), some (.int (lowb a : Nat)), some (.loc M.length), x, y, z]) ∧ M' = M ++ [.lst (((rows.take k).map (putRow (lowb a) a b)).map r3A)])
        (fun k ro M' _ h => by intro p hp; rw [List.mem_singleton.mp hp]; rfl)
        (fun k w ro M' hx h => by
          obtain ⟨⟨x, y, z, rfl⟩, rfl⟩ := h
          rw [List.getElem?_map] at hx
          obtain ⟨r, hr, rfl⟩ := Option.map_eq_some_iff.mp hx
          have hk : k < rows.length := (List.getElem?_eq_some_iff.mp hr).1
          have tk : ((rows.take (k + 1)).map (putRow (lowb a) a b)).map r3A = ((rows.take k).map (putRow (lowb a) a b)).map r3A ++ [r3A (putRow (lowb a) a b r)] := by
            rw [List.take_add_one, hr]
            simp
          have ln : (((rows.take k).map (putRow (lowb a) a b)).map r3A).length = k := by simp; omega
          rw [tk]
          generalize ((rows.take k).map (putRow (lowb a) a b)).map r3A = acc at ln
          have gl : (M ++ [MO.lst acc])[M.length]? = some (.lst acc) := by simp
          have al := asL_loc gl
          have ap : ∀ v, mAppend (.loc M.length) [v] (M ++ [.lst acc]) = .ok .non (M ++ [.lst (acc ++ [v])]) := fun v => by
            unfold mAppend
            rw [locL_loc gl]
            simp only
            rw [if_pos (by rw [sizeLine_eq, ln]; omega)]
            simp
          have an : ∀ M : Mem, vAnd (.int (r.2.1 : Nat)) (.int (lowb a : Nat)) M = .ok (.int ((r.2.1 &&& lowb a : Nat) : Int)) M := fun M => by rw [w_and, and_nat]
          have x1 : ∀ M : Mem, vXor (.int (r.2.1 : Nat)) (.int (a : Nat)) M = .ok (.int ((r.2.1 ^^^ a : Nat) : Int)) M := fun M => by rw [w_xor, xor_nat]
          have x2 : ∀ M : Mem, vXor (.int (r.2.2 : Nat)) (.int (b : Nat)) M = .ok (.int ((r.2.2 ^^^ b : Nat) : Int)) M := fun M => by rw [w_xor, xor_nat]
          refine ⟨[some (.loc n), some (.int (a : Nat)), some (.int (spot : Nat)), some (.int (b : Nat)), some (.int (lowb a : Nat)), some (.loc M.length), some (.int (r.1 : Nat)), some (.int (r.2.1 : Nat)), some (.int (r.2.2 : Nat))], M ++ [.lst acc], [some (.loc n), some (.int (a : Nat)), some (.int (spot : Nat)), some (.int (b : Nat)), some (.int (lowb a : Nat)), some (.loc M.length), some (.int (r.1 : Nat)), some (.int (r.2.1 : Nat)), some (.int (r.2.2 : Nat))], M ++ [.lst (acc ++ [r3A (putRow (lowb a) a b r)])], by simp, .inl ?_, ⟨_, _, _, rfl⟩, rfl⟩
          unfold putRow
          by_cases hc : r.2.1 &&& lowb a = 0
          · simp [fb_Solving_put_2, i_Solving_put_1, -w_and, -w_xor, an, hc, al, tup3, ap]
          · have hc' : ¬ ((r.2.1 &&& lowb a : Nat) : Int) = 0 := by omega
            rw [if_pos hc]
            generalize ((r.2.1 &&& lowb a : Nat) : Int) = q2 at an hc'
            simp [fb_Solving_put_2, i_Solving_put_1, -w_and, -w_xor, an, x1, x2, hc', al, tup3, ap])
        [some (.loc n), some (.int (a : Nat)), some (.int (spot : Nat)), some (.int (b : Nat)), some (.int (lowb a : Nat)), some (.loc M.length), none, none, none] (M ++ [.lst []]) ⟨⟨none, none, none, rfl⟩, by simp⟩
      have e : rows.take (rows.map r3A).length = rows := by rw [List.length_map, List.take_length]
      rw [e] at h2
      exact ⟨x, y, z, by rw [h1, h2, h3]⟩
    obtain ⟨x, y, z2, loop⟩ := loop
    have ad : vAdd true (.loc M.length) (.lst [r3A (lowb a, a, b)]) (M ++ [.lst ((rows.map (putRow (lowb a) a b)).map r3A)]) = .ok (rows3 (rows.map (putRow (lowb a) a b) ++ [(lowb a, a, b)])) (M ++ [.lst ((rows.map (putRow (lowb a) a b)).map r3A)]) := by
      have gl : (M ++ [MO.lst ((rows.map (putRow (lowb a) a b)).map r3A)])[M.length]? = some (.lst ((rows.map (putRow (lowb a) a b)).map r3A)) := by simp
      have e : ∀ (k : Nat) (xs ys : List A) (M : Mem), M[k]? = some (.lst xs) → vAdd true (.loc k) (.lst ys) M = mkL true (xs ++ ys) M := fun k xs ys M h => by simp [vAdd, asL1, h]
      rw [e _ _ _ _ gl, w_mkLt (by simp; omega)]
      simp
    have l1 : ∀ M, mkL true [r3A (lowb a, a, b)] M = .ok (.lst [r3A (lowb a, a, b)]) M := fun M => w_mkLt (by simp)
    generalize (rows.map (putRow (lowb a) a b)).map r3A = q1 at loop ad
    have fldS : sFldA 21 0 (eVar 0) (e2 (vAdd true) (eVar 5) (eLst true (aCons (eTup (aCons (eVar 4) (aCons (eVar 1) (aCons (eVar 3) (aNil))))) (aNil)))) [some (.loc n), some (.int (a : Nat)), some (.int (spot : Nat)), some (.int (b : Nat)), some (.int (lowb a : Nat)), some (.loc M.length), x, y, z2] (M ++ [.lst q1]) =
        .nx [some (.loc n), some (.int (a : Nat)), some (.int (spot : Nat)), some (.int (b : Nat)), some (.int (lowb a : Nat)), some (.loc M.length), x, y, z2] (M.set n (solMO (rows.map (putRow (lowb a) a b) ++ [(lowb a, a, b)])) ++ [.lst q1]) := by
      rw [setFld_of (r := n) (fs := [(0, rows3 rows)]) (a := rows3 (rows.map (putRow (lowb a) a b) ++ [(lowb a, a, b)])) (M := M ++ [.lst q1]) (by simp [tup3, l1, ad]) (by simp) (isi2 _) (by simp), List.set_append_left _ _ hn]
      simp [putA]
    have i3 : i_Solving_put_3 [some (.loc n), some (.int (a : Nat)), some (.int (spot : Nat)), some (.int (b : Nat)), none, none, none, none, none] M = .nx [some (.loc n), some (.int (a : Nat)), some (.int (spot : Nat)), some (.int (b : Nat)), some (.int (lowb a : Nat)), some (.loc M.length), x, y, z2] (M.set n (solMO (rows.map (putRow (lowb a) a b) ++ [(lowb a, a, b)])) ++ [.lst q1]) := by
      have lw' : vAnd (.int (a : Nat)) (.int (-(a : Int))) M = .ok (.int (lowb a : Nat)) M := by rw [show -(a : Int) = 0 - (a : Int) by omega]; exact lw
      simp only [i_Solving_put_3, v_if, v_B, v_e2, v_var, v_C, v_seq, v_set, v_lst, v_nil]
      simp [-w_and, h0, lw', z, loop, fldS]
    rw [← exit_set_app (M := M) (E := [.lst q1]) (n := n) (o := solMO (rows.map (putRow (lowb a) a b) ++ [(lowb a, a, b)])) (a := .tup [.int (a : Nat), .int (b : Nat)]) (bndM_sol _) rfl]
    generalize M.set n (solMO (rows.map (putRow (lowb a) a b) ++ [(lowb a, a, b)])) ++ [MO.lst q1] = MM at i3 ⊢
    simp [s_Solving_put, start0, isi, sh, lo, i3, tup2, fin]
end
end G

/-! L1e: solved, many_open, left. -/
namespace G
open PySem PySem.Spec L2 AL
def Msk (P : Nat → Prop) (m : Nat) : Prop := ∀ j, m.testBit j = true → P j
theorem Msk.xor {P : Nat → Prop} {a b : Nat} (h : Msk P a) (h' : Msk P b) : Msk P (a ^^^ b) := fun j hj => by
  rw [Nat.testBit_xor] at hj
  cases ha : a.testBit j with
  | true => exact h j ha
  | false => exact h' j (by rw [ha] at hj; simpa using hj)
theorem Msk.pow {P : Nat → Prop} {k : Nat} (h : P k) : Msk P (2 ^ k) := fun j hj => by
  rw [Nat.testBit_two_pow] at hj
  have : k = j := by simpa using hj
  exact this ▸ h
theorem low_msk {P : Nat → Prop} : ∀ {rows : List Row3} {p : Nat × Nat}, (∀ r ∈ rows, Msk P r.2.2) → Msk P p.2 → Msk P (rows.foldl lowStep p).2
  | [], _, _, h => h
  | r :: rs, p, h, hp => by
    rw [List.foldl_cons]
    refine low_msk (fun x hx => h x (List.mem_cons_of_mem _ hx)) ?_
    unfold lowStep
    split
    · exact hp.xor (h r List.mem_cons_self)
    · exact hp
theorem put_msk {P : Nat → Prop} {rows : List Row3} {mask spot : Nat} (h : ∀ r ∈ rows, Msk P r.2.2) (hs : P spot) : (∀ r ∈ (putF rows mask spot).1, Msk P r.2.2) ∧ Msk P (putF rows mask spot).2.2 := by
  have hp : Msk P (lowF rows mask (2 ^ spot)).2 := low_msk h (Msk.pow hs)
  refine ⟨fun r hr => ?_, hp⟩
  unfold putF at hr
  simp only at hr
  split at hr
  · exact h r hr
  · rcases List.mem_append.mp hr with hr | hr
    · obtain ⟨q, hq, rfl⟩ := List.mem_map.mp hr
      unfold putRow
      split
      · exact (h q hq).xor hp
      · exact h q hq
    · rw [List.mem_singleton.mp hr]; exact hp
theorem put_len {rows : List Row3} {mask spot : Nat} : (putF rows mask spot).1.length ≤ rows.length + 1 := by
  unfold putF
  simp only
  split
  · omega
  · simp
def solAt (free fixed : List Int) (m : Nat) (came : List A) : Nat → List Row3 × Option (List Int)
  | 0 => ([], none)
  | k + 1 => match solAt free fixed m came k with
    | (rows, some w) => (rows, some w)
    | (rows, none) => match came[k]? with
      | some (.int _) => if (putF rows (unkF free (k : Int)) k).2.1 = 0 ∧ leftF free fixed m came (spotsF (putF rows (unkF free (k : Int)) k).2.2) = 1 then ((putF rows (unkF free (k : Int)) k).1, some (spotsF (putF rows (unkF free (k : Int)) k).2.2)) else ((putF rows (unkF free (k : Int)) k).1, none)
      | _ => (rows, none)
def wrongA : Option (List Int) → A
  | none => .non
  | some w => .lst (w.map A.int)
theorem asL_app {M E : Mem} {a : A} {xs : List A} (h : asL M a = some xs) (hb : bnd M.length a = true) : asL (M ++ E) a = some xs := by
  cases a with
  | loc n =>
    have hn : n < M.length := by simpa [bnd] using hb
    simp only [asL] at h ⊢
    rw [List.getElem?_append_left hn]
    exact h
  | lst ys => exact h
  | frz ys => exact h
  | _ => cases h
theorem asS_of {M : Mem} {a : A} {xs : List A} (h : asL M a = some xs) : asS M a = some xs := by
  cases a with
  | tup _ => cases h
  | _ => exact h
section
variable {M : Mem} {s : Int} {free fixed : List Int} {came : List A}
theorem spots_heard {made m : Nat} (h : Msk (fun j => j < m ∧ Heard came (j : Int)) made) : ∀ x ∈ spotsF made, Heard came x := fun x hx => by
  obtain ⟨h1, h2⟩ := List.mem_filter.mp hx
  obtain ⟨x0, _⟩ := rg_mem h1
  have := (h x.toNat h2).2
  rwa [Int.toNat_of_nonneg x0] at this
theorem spots_len {made : Nat} : (spotsF made).length ≤ 32 := Nat.le_trans (List.length_filter_le _ _) (by simp [rg_len])
theorem bnd_app {k j : Nat} {a : A} (hkj : k ≤ j) (hb : bnd k a = true) {M : Mem} {xs : List A} (h : asL M a = some xs) (h2 : ∀ ys, a ≠ .lst ys) (h3 : ∀ ys, a ≠ .frz ys) : bnd j a = true := by
  cases a with
  | loc n => simp [bnd] at hb ⊢; omega
  | lst ys => exact absurd rfl (h2 ys)
  | frz ys => exact absurd rfl (h3 ys)
  | _ => cases h
theorem solved_ok (g : GC s free fixed) {cameV : A} (hc : asL M cameV = some came) (hcl : came.length = 2 ^ s.toNat) (hcam : ∀ a ∈ came, CamA a) (hb : ∀ k, M.length ≤ k → bnd k cameV = true) :
    m_solved [codeA s free fixed, cameV] M = .ok (.tup [.loc M.length, wrongA (solAt free fixed (2 ^ s.toNat) came (2 ^ s.toNat)).2]) (M ++ [solMO (solAt free fixed (2 ^ s.toNat) came (2 ^ s.toNat)).1]) := by
  rw [show m_solved [codeA s free fixed, cameV] M = AL.exit M (fin (s_solved (start0 6 [codeA s free fixed, cameV]) M)) from def_of rfl]
  have hs1 := g.s1
  have hs5 := g.s5
  have hm := many_le (by omega : 0 ≤ s) hs5
  have hgl := g.le
  have lf := fun (M : Mem) (spots : List Int) => left_ok (M := M) (came := came) (cameV := cameV) (spots := spots) g
  have t0 : ∀ M : Mem, vIx (.tup [.int 1, .int 2, .int 4, .int 8, .int 16, .int 32]) (.int s) M = .ok (.int ((2 ^ s.toNat : Nat) : Int)) M := fun M => tab_tup (by omega) hs5
  generalize 2 ^ s.toNat = m at t0 hm lf hcl ⊢
  have isi : ∀ rows, isInsOf 21 (M ++ [solMO rows]) (.loc M.length) = true := fun rows => isIns_of (fs := [(0, rows3 rows)]) (by simp)
  have exf : ∀ rows w, AL.exit M (.ok (.tup [.loc M.length, w]) (M ++ [solMO rows])) = .ok (.tup [.loc M.length, w]) (M ++ [solMO rows]) := fun rows w => by
    unfold AL.exit
    simp only
    have hs : SameOrB M (M ++ [solMO rows]) := fun i hi => .inl (List.getElem?_append_left hi)
    rw [if_pos hs, if_neg (by simp [bnd, bnds])]
  -- the loop
  have loop : (∃ x y z, f_solved_3 [some (codeA s free fixed), some cameV, some (.loc M.length), none, none, none] (M ++ [solMO []]) = .nx [some (codeA s free fixed), some cameV, some (.loc M.length), x, y, z] (M ++ [solMO (solAt free fixed m came m).1]) ∧ (solAt free fixed m came m).2 = none) ∨
      ∃ w, (solAt free fixed m came m).2 = some w ∧ f_solved_3 [some (codeA s free fixed), some cameV, some (.loc M.length), none, none, none] (M ++ [solMO []]) = .rt (.tup [.loc M.length, .lst (w.map A.int)]) (M ++ [solMO (solAt free fixed m came m).1]) := by
    have hf : f_solved_3 [some (codeA s free fixed), some cameV, some (.loc M.length), none, none, none] (M ++ [solMO []]) = forGo ⟨(rg m).map A.int, []⟩ (gNm 3) fb_solved_3 ((rg m).map A.int) [some (codeA s free fixed), some cameV, some (.loc M.length), none, none, none] (M ++ [solMO []]) := by
      unfold f_solved_3
      rw [v_for, rng1_of (m := m) (M1 := M ++ [solMO []]) (by simp [code_x0, t0]) (by omega), fl_ok]
    rw [hf]
    have stay : ∀ k j : Nat, k ≤ j → ∀ w, (solAt free fixed m came k).2 = some w → solAt free fixed m came j = ((solAt free fixed m came k).1, some w) := by
      intro k j hkj w hw
      induction j with
      | zero => have : k = 0 := by omega
                subst this; exact Prod.ext rfl hw
      | succ j ih =>
        by_cases e : k = j + 1
        · subst e; exact Prod.ext rfl hw
        · rw [solAt, ih (by omega)]
    have := forGo_out (ai := ⟨(rg m).map A.int, []⟩) (g := gNm 3) (b := fb_solved_3)
      (fun k ro M' => (∃ x y z, ro = [some (codeA s free fixed), some cameV, some (.loc M.length), x, y, z]) ∧ M' = M ++ [solMO (solAt free fixed m came k).1] ∧ (solAt free fixed m came k).2 = none ∧ (solAt free fixed m came k).1.length ≤ k ∧ ∀ r ∈ (solAt free fixed m came k).1, Msk (fun j => j < m ∧ Heard came (j : Int)) r.2.2)
      (fun f => ∃ w, (solAt free fixed m came m).2 = some w ∧ f = .rt (.tup [.loc M.length, .lst (w.map A.int)]) (M ++ [solMO (solAt free fixed m came m).1]))
      (fun _ _ _ _ _ p hp => nomatch hp)
      (fun k w ro M' hx h => by
        obtain ⟨⟨x, y, z, rfl⟩, rfl, hno, hln, hms⟩ := h
        rw [List.getElem?_map] at hx
        obtain ⟨p, hp, rfl⟩ := Option.map_eq_some_iff.mp hx
        have hk : k < m := by have := (List.getElem?_eq_some_iff.mp hp).1; rwa [rg_len] at this
        have hpk : p = (k : Int) := by
          have : (rg m)[k]? = some (k : Int) := by simp [rg, hk]
          rw [this] at hp
          cases hp
          rfl
        subst hpk
        obtain ⟨ca, hca⟩ : ∃ ca, came[k]? = some ca := ⟨_, List.getElem?_eq_getElem (by omega)⟩
        have hcc := hcam ca (List.mem_of_getElem? hca)
        have e0 : solAt free fixed m came k = ((solAt free fixed m came k).1, none) := Prod.ext rfl hno
        have ix : ∀ rows, vIx cameV (.int (k : Int)) (M ++ [solMO rows]) = .ok ca (M ++ [solMO rows]) := fun rows => vIx_of (asS_of (asL_app hc (hb _ (Nat.le_refl _)))) (by omega) (by rw [Int.toNat_natCast]; exact hca)
        refine ⟨_, _, rfl, ?_⟩
        generalize hR : (solAt free fixed m came k).1 = rows at hln hms e0 ⊢
        cases ca with
        | non =>
          have e1 : solAt free fixed m came (k + 1) = (rows, none) := by rw [solAt, e0, hca]
          rw [e1]
          refine .inl ⟨[some (codeA s free fixed), some cameV, some (.loc M.length), some (.int (k : Int)), y, z], M ++ [solMO rows], .inl ?_, ⟨_, _, _, rfl⟩, rfl, rfl, by simp; omega, hms⟩
          simp [fb_solved_3, i_solved_2, ix, AL.isNon]
        | int v =>
          have hk' : Heard came (k : Int) := ⟨by omega, v, by rw [Int.toNat_natCast]; exact hca⟩
          obtain ⟨ms1, ms2⟩ := put_msk (mask := unkF free (k : Int)) hms (show (fun j => j < m ∧ Heard came (j : Int)) k from ⟨hk, hk'⟩)
          have pl := put_len (rows := rows) (mask := unkF free (k : Int)) (spot := k)
          have un := unk_ok (M := M ++ [solMO rows]) (s := s) (free := free) (fixed := fixed) (x := (k : Int)) (by omega)
          have pt := put_ok (M := M ++ [solMO rows]) (n := M.length) (rows := rows) (mask := unkF free (k : Int)) (spot := k) (by simp) (by omega) (by omega)
          have st : (M ++ [solMO rows]).set M.length (solMO (putF rows (unkF free (k : Int)) k).1) = M ++ [solMO (putF rows (unkF free (k : Int)) k).1] := by simp
          rw [st] at pt
          have e1 : solAt free fixed m came (k + 1) = if (putF rows (unkF free (k : Int)) k).2.1 = 0 ∧ leftF free fixed m came (spotsF (putF rows (unkF free (k : Int)) k).2.2) = 1 then ((putF rows (unkF free (k : Int)) k).1, some (spotsF (putF rows (unkF free (k : Int)) k).2.2)) else ((putF rows (unkF free (k : Int)) k).1, none) := by rw [solAt, e0, hca]
          rw [e1]
          generalize putF rows (unkF free (k : Int)) k = q at pt e1 ms1 ms2 pl
          obtain ⟨rows', mask', made'⟩ := q
          simp only at pt e1 ms1 ms2 pl ⊢
          have sp := spots_ok (M := M ++ [solMO rows']) (made := made')
          have lf' := lf (M ++ [solMO rows']) (spotsF made') (asL_app hc (hb _ (Nat.le_refl _))) (spots_heard ms2) spots_len (hb _ (by simp))
          generalize leftF free fixed m came (spotsF made') = L at lf' e1 ⊢
          by_cases hz : mask' = 0 ∧ L = 1
          · obtain ⟨hz1, hz2⟩ := hz
            subst hz1 hz2
            rw [if_pos ⟨rfl, rfl⟩] at e1 ⊢
            refine .inr (.inr (.inl ⟨.tup [.loc M.length, .lst ((spotsF made').map A.int)], M ++ [solMO rows'], ?_, spotsF made', ?_, ?_⟩))
            · generalize ((unkF free (k : Int) : Nat) : Int) = uu at un pt
              simp [fb_solved_3, i_solved_2, i_solved_1, ix, AL.isNon, isi, un, pt, sp, lf', tup2]
            · rw [stay (k + 1) m hk _ (by rw [e1])]
            · rw [stay (k + 1) m hk _ (by rw [e1]), e1]
          · rw [if_neg hz]
            refine .inl ⟨[some (codeA s free fixed), some cameV, some (.loc M.length), some (.int (k : Int)), some (.int (mask' : Nat)), some (.int (made' : Nat))], M ++ [solMO rows'], .inl ?_, ⟨_, _, _, rfl⟩, rfl, rfl, by simp; omega, ms1⟩
            generalize ((unkF free (k : Int) : Nat) : Int) = uu at un pt
            by_cases h1 : mask' = 0
            · have h2 : ¬ L = 1 := fun h => hz ⟨h1, h⟩
              subst h1
              simp [fb_solved_3, i_solved_2, i_solved_1, ix, AL.isNon, isi, un, pt, sp, lf', h2]
            · simp [fb_solved_3, i_solved_2, i_solved_1, ix, AL.isNon, isi, un, pt, h1]
        | _ => exact hcc.elim)
      [some (codeA s free fixed), some cameV, some (.loc M.length), none, none, none] (M ++ [solMO []]) ⟨⟨none, none, none, rfl⟩, rfl, rfl, Nat.le_refl _, fun r hr => nomatch hr⟩
    have e : ((rg m).map A.int).length = m := by simp [rg_len]
    rcases this with ⟨ro', M', h1, ⟨x, y, z, h2⟩, h3, h4, _⟩ | ⟨f, h1, w, hw, h2⟩
    · rw [e] at h3 h4
      exact .inl ⟨x, y, z, by rw [h1, h2, h3], h4⟩
    · exact .inr ⟨w, hw, by rw [h1, h2]⟩
  have mk := sol_mk (M := M)
  rcases loop with ⟨x, y, z, h, hn⟩ | ⟨w, hw, h⟩
  · rw [hn]
    rw [← exf]
    generalize M ++ [solMO (solAt free fixed m came m).1] = MM at h ⊢
    simp [s_solved, start0, mk, h, tup2, fin, wrongA]
  · rw [hw]
    rw [← exf]
    generalize M ++ [solMO (solAt free fixed m came m).1] = MM at h ⊢
    simp [s_solved, start0, mk, h, fin, wrongA]
end
end G

/-! L1f: rows, many_open, left; what is known of the rows. -/
namespace G
open PySem PySem.Spec L2 AL
theorem unkN_lt (free : List Int) (x : Int) : ∀ k, unkN free x k < 2 ^ k
  | 0 => by simp [unkN]
  | k + 1 => by
    have := unkN_lt free x k
    rw [unkN, Nat.pow_succ]
    split <;> omega
/-- heads are single bits, masks stay below -/
def RInv (n : Nat) (rows : List Row3) : Prop := ∀ r ∈ rows, (∃ t, t < n ∧ r.1 = 2 ^ t) ∧ r.2.1 < 2 ^ n
theorem low_lt {n : Nat} : ∀ {rows : List Row3} {p : Nat × Nat}, RInv n rows → p.1 < 2 ^ n → (rows.foldl lowStep p).1 < 2 ^ n
  | [], _, _, h => h
  | r :: rs, p, h, hp => by
    rw [List.foldl_cons]
    refine low_lt (fun x hx => h x (List.mem_cons_of_mem _ hx)) ?_
    unfold lowStep
    split
    · exact Nat.xor_lt_two_pow hp (h r List.mem_cons_self).2
    · exact hp
theorem put_inv {n : Nat} {rows : List Row3} {mask spot : Nat} (h : RInv n rows) (hm : mask < 2 ^ n) : RInv n (putF rows mask spot).1 ∧ (putF rows mask spot).2.1 < 2 ^ n := by
  have hp : (lowF rows mask (2 ^ spot)).1 < 2 ^ n := low_lt h hm
  refine ⟨fun r hr => ?_, hp⟩
  unfold putF at hr
  simp only at hr
  split at hr
  · exact h r hr
  · rename_i h0
    rcases List.mem_append.mp hr with hr | hr
    · obtain ⟨q, hq, rfl⟩ := List.mem_map.mp hr
      unfold putRow
      split
      · exact ⟨(h q hq).1, Nat.xor_lt_two_pow (h q hq).2 hp⟩
      · exact h q hq
    · rw [List.mem_singleton.mp hr]
      obtain ⟨t, h1, h2, _⟩ := low_spec _ (Nat.pos_of_ne_zero h0)
      refine ⟨⟨t, ?_, h1⟩, hp⟩
      have := Nat.ge_two_pow_of_testBit h2
      exact (Nat.pow_lt_pow_iff_right (by decide : 1 < 2)).mp (Nat.lt_of_le_of_lt this hp)
theorem sol_inv {free fixed : List Int} {m : Nat} {came : List A} (hcam : ∀ a ∈ came, CamA a) : ∀ k, k ≤ m → RInv free.length (solAt free fixed m came k).1 ∧ (solAt free fixed m came k).1.length ≤ k ∧ ∀ r ∈ (solAt free fixed m came k).1, Msk (fun j => j < m ∧ Heard came (j : Int)) r.2.2
  | 0, _ => ⟨fun r hr => (nomatch hr), Nat.le_refl _, fun r hr => (nomatch hr)⟩
  | k + 1, hk => by
    obtain ⟨h1, h2, h3⟩ := sol_inv (free := free) (fixed := fixed) (m := m) hcam k (by omega)
    rw [solAt]
    generalize solAt free fixed m came k = q at h1 h2 h3
    obtain ⟨rows, w⟩ := q
    cases w with
    | some w => exact ⟨h1, Nat.le_trans h2 (by omega), h3⟩
    | none =>
      have h2' : rows.length ≤ k := h2
      simp only
      split
      · rename_i v hv
        have hh : Heard came (k : Int) := ⟨by omega, v, by rw [Int.toNat_natCast]; exact hv⟩
        obtain ⟨a1, _⟩ := put_inv (spot := k) h1 (unkN_lt free (k : Int) free.length)
        obtain ⟨a2, _⟩ := put_msk (P := fun j => j < m ∧ Heard came (j : Int)) (mask := unkF free (k : Int)) (spot := k) h3 ⟨by omega, hh⟩
        have a3 := put_len (rows := rows) (mask := unkF free (k : Int)) (spot := k)
        split
        · exact ⟨a1, Nat.le_trans a3 (Nat.succ_le_succ h2'), a2⟩
        · exact ⟨a1, Nat.le_trans a3 (Nat.succ_le_succ h2'), a2⟩
      · exact ⟨h1, Nat.le_trans h2 (by omega), h3⟩
section
variable {M : Mem} {s : Int} {free fixed : List Int} {came : List A} {n r c o : Nat} {rows : List Row3} {order : List Int}
theorem rows_ok (h : M[n]? = some (solMO rows)) (hl : rows.length ≤ 64) : m_Solving_rows [.loc n] M = .ok (rows3 rows) M := by
  rw [show m_Solving_rows [.loc n] M = AL.exit M (fin (s_Solving_rows (start0 1 [.loc n]) M)) from def_of rfl]
  rw [← exit_pure (M := M) (bnd_rows rows)]
  have fl : vFldC 21 0 (.loc n) M = .ok (rows3 rows) M := fld_of h rfl
  have vl : vList true [rows3 rows] M = .ok (rows3 rows) M := w_mkLt (by simp; omega)
  simp [s_Solving_rows, start0, fl, vl, fin]
theorem open_ok (h : M[n]? = some (solMO rows)) (hl : rows.length ≤ 64) : m_many_open [codeA s free fixed, .loc n] M = .ok (.int ((free.length : Int) - rows.length)) M := by
  rw [show m_many_open [codeA s free fixed, .loc n] M = AL.exit M (fin (s_many_open (start0 2 [codeA s free fixed, .loc n]) M)) from def_of rfl]
  rw [← exit_pure (M := M) (a := .int ((free.length : Int) - rows.length)) rfl]
  have isi : isInsOf 21 M (.loc n) = true := isIns_of h
  have ro := rows_ok h hl
  have l1 : ∀ xs : List A, vLen [.lst xs] M = .ok (.int xs.length) M := fun xs => by simp [vLen, asS, asL]
  simp [s_many_open, start0, code_x1, l1, isi, ro, fin]
/-- what left tells -/
def leftA (free fixed : List Int) (m : Nat) (came : List A) : A := match (solAt free fixed m came m).2 with
  | some _ => .non
  | none => .int ((free.length : Int) - (solAt free fixed m came m).1.length)
theorem RA.left_ok (h : RA M r c o s free fixed came order) (g : GC s free fixed) (hcl : came.length = 2 ^ s.toNat) (hcam : ∀ a ∈ came, CamA a) : m_Receiver_left [.loc r] M = .ok (leftA free fixed (2 ^ s.toNat) came) M := by
  rw [show m_Receiver_left [.loc r] M = AL.exit M (fin (s_Receiver_left (start0 3 [.loc r]) M)) from def_of rfl]
  have hs1 := g.s1
  have hm := many_le (by omega : 0 ≤ s) g.s5
  have sv := solved_ok (M := M) g (cameV := .loc c) (asL_loc h.gc) hcl hcam (fun k hk => by have := at_lt h.gc; simp [bnd]; omega)
  obtain ⟨_, hl, _⟩ := sol_inv (free := free) (fixed := fixed) (m := 2 ^ s.toNat) hcam (2 ^ s.toNat) (Nat.le_refl _)
  generalize 2 ^ s.toNat = m at sv hl hm ⊢
  have f1 : vFldC 22 1 (.loc r) M = .ok (codeA s free fixed) M := fld_of h.gr rfl
  have f2 : vFldC 22 2 (.loc r) M = .ok (.loc c) M := fld_of h.gr rfl
  unfold leftA
  generalize solAt free fixed m came m = q at sv hl ⊢
  obtain ⟨rows, w⟩ := q
  simp only at sv hl ⊢
  have f1' : vFldC 22 1 (.loc r) (M ++ [solMO rows]) = .ok (codeA s free fixed) (M ++ [solMO rows]) := fld_of (by rw [List.getElem?_append_left (at_lt h.gr)]; exact h.gr) rfl
  have op := open_ok (M := M ++ [solMO rows]) (n := M.length) (rows := rows) (s := s) (free := free) (fixed := fixed) (by simp) (by omega)
  cases w with
  | some w =>
    rw [← exit_app (M := M) (E := [solMO rows]) (a := .non) rfl]
    simp [s_Receiver_left, i_Receiver_left_1, start0, f1, f2, sv, wrongA, AL.isNon, fin]
  | none =>
    simp only
    rw [← exit_app (M := M) (E := [solMO rows]) (a := .int ((free.length : Int) - rows.length)) rfl]
    simp [s_Receiver_left, i_Receiver_left_1, start0, f1, f2, f1', sv, wrongA, AL.isNon, op, fin]
end
end G

/-! L1g: data_by. -/
namespace G
open PySem PySem.Spec L2 AL
def othersF (chosen : List Int) (t mask : Nat) : List Int := ((List.range chosen.length).filter fun k : Nat => !decide (k = t) && mask.testBit k).map fun k => chosen.getD k 0
def dataStep (free fixed : List Int) (m : Nat) (came : List A) (chosen f : List Int) (r : Row3) : List Int :=
  f.set r.1.log2 ((othersF chosen r.1.log2 r.2.1 ++ [leftF free fixed m came (spotsF r.2.2)]).sum % 2)
def dataF (free fixed : List Int) (m : Nat) (came : List A) (rows : List Row3) (chosen : List Int) : List Int := rows.foldl (dataStep free fixed m came chosen) chosen
theorem dataF_len {free fixed : List Int} {m : Nat} {came : List A} {chosen : List Int} : ∀ (rows : List Row3) (f : List Int), (rows.foldl (dataStep free fixed m came chosen) f).length = f.length
  | [], _ => rfl
  | r :: rs, f => by rw [List.foldl_cons, dataF_len rs]; simp [dataStep]
section
variable {M : Mem} {s : Int} {free fixed : List Int} {came : List A} {n : Nat} {rows : List Row3} {chosen : List Int}
theorem data_c1 {r0 r1 r2 r4 r5 r7 r9 r10 : Option A} {mask t : Nat} (hl : chosen.length ≤ 64) : c_data_by_1 [r0, r1, r2, some (.lst (chosen.map A.int)), r4, r5, some (.int (mask : Nat)), r7, some (.int (t : Nat)), r9, r10] M = .ok (.lst ((othersF chosen t mask).map A.int)) M := by
  unfold c_data_by_1
  rw [v_lc, rng1_of (m := chosen.length) (M1 := M) (by simp [vLen, asS, asL]) (by omega), r_ok]
  simp only
  rw [lcGo_pure (fun x => match x with | .int i => !decide (i.toNat = t) && mask.testBit i.toNat | _ => false) (fun x => match x with | .int i => .int (chosen.getD i.toNat 0) | _ => .non) (by simp [rg_len]; omega) (by intro p hp; cases hp) (fun x hx => by
    obtain ⟨i, hi, rfl⟩ := List.mem_map.mp hx
    obtain ⟨i0, i1⟩ := rg_mem hi
    have sh : vShr (.int (mask : Nat)) (.int i) M = .ok (.int ((mask : Int) / 2 ^ i.toNat)) M := w_shr i0
    have b := bit_at mask i.toNat
    have eqd : (i = (t : Int)) ↔ i.toNat = t := by omega
    have hch : (chosen.map A.int)[i.toNat]? = some (.int (chosen.getD i.toNat 0)) := by
      rw [List.getElem?_map, List.getElem?_eq_getElem (by omega)]
      simp [List.getD_eq_getElem?_getD, show i.toNat < chosen.length by omega]
    have ix : vIx (.lst (chosen.map A.int)) (.int i) M = .ok (.int (chosen.getD i.toNat 0)) M := vIx_of (xs := chosen.map A.int) rfl i0 hch
    generalize (mask : Int) / 2 ^ i.toNat = q at sh b
    refine ⟨_, rfl, ?_, fun _ => by simp [ce_data_by_1, wipeA, ix]⟩
    by_cases e : i.toNat = t
    · have e' := eqd.mpr e
      simp [ct_data_by_1, wipeA, e']
    · have e' : ¬ i = (t : Int) := fun z => e (eqd.mp z)
      cases ht : mask.testBit i.toNat with
      | true =>
        have b' := b.mpr ht
        simp [ct_data_by_1, wipeA, e', sh, b', e, ht]
      | false =>
        have b' : ¬ Builtin.bitAnd q 1 = 1 := fun h => by rw [b.mp h] at ht; cases ht
        simp [ct_data_by_1, wipeA, e', sh, b', e, ht])]
  have e : (((rg chosen.length).map A.int).filter fun x => match x with | .int i => !decide (i.toNat = t) && mask.testBit i.toNat | _ => false).map (fun x => match x with | .int i => .int (chosen.getD i.toNat 0) | _ => .non) = (othersF chosen t mask).map A.int := by
    unfold othersF rg
    rw [List.map_map, List.filter_map, List.map_map, List.map_map]
    rfl
  show (R.ok (List.map _ (List.filter _ ((rg chosen.length).map A.int))) M).bind _ = _
  rw [e, r_ok, w_mkLt (by
    unfold othersF
    rw [List.length_map, List.length_map]
    exact Nat.le_trans (List.length_filter_le _ _) (by simp; omega))]
theorem data_ok (g : GC s free fixed) {cameV : A} (hc : asL M cameV = some came) (hb : ∀ k, M.length ≤ k → bnd k cameV = true) (hcl : chosen.length = free.length) (hn : M[n]? = some (solMO rows)) (hl : rows.length ≤ 64)
    (hr : RInv free.length rows) (hms : ∀ r ∈ rows, Msk (fun j => j < 2 ^ s.toNat ∧ Heard came (j : Int)) r.2.2) :
    m_data_by [codeA s free fixed, cameV, .loc n, .lst (chosen.map A.int)] M = .ok (.lst ((dataF free fixed (2 ^ s.toNat) came rows chosen).map A.int)) M := by
  rw [show m_data_by [codeA s free fixed, cameV, .loc n, .lst (chosen.map A.int)] M = AL.exit M (fin (s_data_by (start0 11 [codeA s free fixed, cameV, .loc n, .lst (chosen.map A.int)]) M)) from def_of rfl]
  have hgl := g.le
  have lf := fun (M : Mem) (spots : List Int) => left_ok (M := M) (came := came) (cameV := cameV) (spots := spots) g
  generalize 2 ^ s.toNat = m at lf hms ⊢
  have ls : vList false [.lst (chosen.map A.int)] M = .ok (.loc M.length) (M ++ [.lst (chosen.map A.int)]) := w_mkLf (by simp; omega)
  have loop : ∃ x5 x6 x7 x8 x9, f_data_by_2 [some (codeA s free fixed), some cameV, some (.loc n), some (.lst (chosen.map A.int)), some (.loc M.length), none, none, none, none, none, none] (M ++ [.lst (chosen.map A.int)]) =
      .nx [some (codeA s free fixed), some cameV, some (.loc n), some (.lst (chosen.map A.int)), some (.loc M.length), x5, x6, x7, x8, x9, none] (M ++ [.lst ((dataF free fixed m came rows chosen).map A.int)]) := by
    have hf : f_data_by_2 [some (codeA s free fixed), some cameV, some (.loc n), some (.lst (chosen.map A.int)), some (.loc M.length), none, none, none, none, none, none] (M ++ [.lst (chosen.map A.int)]) = forGo ⟨rows.map r3A, [(rows3 rows, rows.map r3A)]⟩ (gTp 3 (gsCons (gNm 5) (gsCons (gNm 6) (gsCons (gNm 7) (gsNil))))) fb_data_by_2 (rows.map r3A) [some (codeA s free fixed), some cameV, some (.loc n), some (.lst (chosen.map A.int)), some (.loc M.length), none, none, none, none, none, none] (M ++ [.lst (chosen.map A.int)]) := by
      have h' : (M ++ [MO.lst (chosen.map A.int)])[n]? = some (solMO rows) := by rw [List.getElem?_append_left (at_lt hn)]; exact hn
      have isi : isInsOf 21 (M ++ [MO.lst (chosen.map A.int)]) (.loc n) = true := isIns_of h'
      have ro := rows_ok h' hl
      unfold f_data_by_2
      rw [v_for]
      simp [AL.iLst, isi, ro, asL]
    rw [hf]
    obtain ⟨ro', M', h1, ⟨x5, x6, x7, x8, x9, h2⟩, h3⟩ := forGo_all (ai := ⟨rows.map r3A, [(rows3 rows, rows.map r3A)]⟩) (g := gTp 3 (gsCons (gNm 5) (gsCons (gNm 6) (gsCons (gNm 7) (gsNil))))) (b := fb_data_by_2)
      (fun k ro M' => (∃ x5 x6 x7 x8 x9, ro = [some (codeA s free fixed), some cameV, some (.loc n), some (.lst (chosen.map A.int)), some (.loc M.length), x5, x6, x7, x8, x9, none]) ∧ M' = M ++ [.lst ((dataF free fixed m came (rows.take k) chosen).map A.int)])
      (fun k ro M' _ h => by intro p hp; rw [List.mem_singleton.mp hp]; rfl)
      (fun k w ro M' hx h => by
        obtain ⟨⟨x5, x6, x7, x8, x9, rfl⟩, rfl⟩ := h
        rw [List.getElem?_map] at hx
        obtain ⟨r, hr', rfl⟩ := Option.map_eq_some_iff.mp hx
        have hmem := List.mem_of_getElem? hr'
        obtain ⟨⟨t, ht, h2t⟩, hmk⟩ := hr r hmem
        have tk : dataF free fixed m came (rows.take (k + 1)) chosen = dataStep free fixed m came chosen (dataF free fixed m came (rows.take k) chosen) r := by
          unfold dataF
          rw [List.take_add_one, hr', List.foldl_append]
          rfl
        have fl : (dataF free fixed m came (rows.take k) chosen).length = free.length := by unfold dataF; rw [dataF_len]; exact hcl
        have lg : r.1.log2 = t := by rw [h2t, Nat.log2_two_pow]
        rw [tk]
        unfold dataStep
        rw [lg]
        generalize dataF free fixed m came (rows.take k) chosen = f at fl
        have hbl := hb _ (show M.length ≤ (M ++ [MO.lst (f.map A.int)]).length by simp)
        have c1 := data_c1 (M := M ++ [MO.lst (f.map A.int)]) (chosen := chosen) (r0 := some (codeA s free fixed)) (r1 := some cameV) (r2 := some (.loc n)) (r4 := some (.loc M.length)) (r5 := some (.int (r.1 : Nat))) (r7 := some (.int (r.2.2 : Nat))) (r9 := x9) (r10 := none) (mask := r.2.1) (t := t) (by omega)
        have sp := spots_ok (M := M ++ [MO.lst (f.map A.int)]) (made := r.2.2)
        have lf' := lf (M ++ [MO.lst (f.map A.int)]) (spotsF r.2.2) (asL_app hc (hb _ (Nat.le_refl _))) (spots_heard (hms r hmem)) spots_len hbl
        generalize leftF free fixed m came (spotsF r.2.2) = L at lf' ⊢
        have ol : (othersF chosen t r.2.1).length ≤ 64 := by
          unfold othersF
          rw [List.length_map]
          exact Nat.le_trans (List.length_filter_le _ _) (by simp; omega)
        generalize othersF chosen t r.2.1 = oth at c1 ol ⊢
        have l1 : ∀ M, mkL true [A.int L] M = .ok (.lst [.int L]) M := fun M => w_mkLt (by simp)
        have ad : ∀ M, vAdd true (.lst (oth.map A.int)) (.lst [.int L]) M = .ok (.lst ((oth ++ [L]).map A.int)) M := fun M => by
          show mkL true (oth.map A.int ++ [.int L]) M = _
          rw [w_mkLt (by simp; omega)]
          simp
        have sm : m_sum_of [.lst ((oth ++ [L]).map A.int)] (M ++ [MO.lst (f.map A.int)]) = .ok (.int ((oth ++ [L]).sum % 2)) (M ++ [MO.lst (f.map A.int)]) := sum_ok rfl
        generalize (oth ++ [L]).sum % 2 = S at sm ⊢
        generalize (oth ++ [L]).map A.int = ol2 at ad sm
        have bt : vBits (.int (r.1 : Nat)) (M ++ [MO.lst (f.map A.int)]) = .ok (.int ((t : Int) + 1)) (M ++ [MO.lst (f.map A.int)]) := by
          rw [h2t]
          show R.ok (A.int (Builtin.Int.intBits ((2 ^ t : Nat) : Int) : Nat)) _ = _
          rw [bits_pow]
          simp
        have st : setIx (.loc M.length) (.int (t : Nat)) (.int S) (M ++ [MO.lst (f.map A.int)]) = some (M ++ [MO.lst ((f.set t S).map A.int)]) := by
          rw [setIx_of (xs := f.map A.int) (by simp) (by omega) (by simp; omega), Int.toNat_natCast, ← List.map_set]
          simp
        refine ⟨[some (codeA s free fixed), some cameV, some (.loc n), some (.lst (chosen.map A.int)), some (.loc M.length), some (.int (r.1 : Nat)), some (.int (r.2.1 : Nat)), some (.int (r.2.2 : Nat)), x8, x9, none], M ++ [MO.lst (f.map A.int)], [some (codeA s free fixed), some cameV, some (.loc n), some (.lst (chosen.map A.int)), some (.loc M.length), some (.int (r.1 : Nat)), some (.int (r.2.1 : Nat)), some (.int (r.2.2 : Nat)), some (.int (t : Nat)), some (.lst (oth.map A.int)), none], M ++ [MO.lst ((f.set t S).map A.int)], by simp, .inl ?_, ⟨_, _, _, _, _, rfl⟩, rfl⟩
        generalize M ++ [MO.lst (f.map A.int)] = M1 at bt c1 sp lf' sm st ⊢
        have sb : (t : Int) + 1 - 1 = t := by omega
        simp [fb_data_by_2, bt, sb, c1, sp, lf', l1, ad, sm, st])
      [some (codeA s free fixed), some cameV, some (.loc n), some (.lst (chosen.map A.int)), some (.loc M.length), none, none, none, none, none, none] (M ++ [.lst (chosen.map A.int)]) ⟨⟨none, none, none, none, none, rfl⟩, rfl⟩
    have e : rows.take (rows.map r3A).length = rows := by rw [List.length_map, List.take_length]
    rw [e] at h3
    exact ⟨x5, x6, x7, x8, x9, by rw [h1, h2, h3]⟩
  obtain ⟨x5, x6, x7, x8, x9, loop⟩ := loop
  have fz : frz (.loc M.length) (M ++ [.lst ((dataF free fixed m came rows chosen).map A.int)]) = .ok (.lst ((dataF free fixed m came rows chosen).map A.int)) (M ++ [.gone]) := by
    simp [frz]
  rw [← exit_app (M := M) (E := [.gone]) (show bnd M.length (.lst ((dataF free fixed m came rows chosen).map A.int)) = true from bnds_ints _)]
  generalize (dataF free fixed m came rows chosen).map A.int = q at loop fz ⊢
  simp [s_data_by, start0, ls, loop, fz, fin]
end
end G

/-! L1h: known. -/
namespace G
open PySem PySem.Spec L2 AL
def sureF (rows : List Row3) : List Nat := (rows.filter fun r => decide (r.2.1 = r.1)).map (·.2.1)
def zerosF (n : Nat) : List Int := List.replicate n 0
def knownF (free fixed : List Int) (m : Nat) (came : List A) : List A := match (solAt free fixed m came m).2 with
  | some _ => List.replicate free.length .non
  | none => (List.range free.length).map fun k => if 2 ^ k ∈ sureF (solAt free fixed m came m).1 then .int ((dataF free fixed m came (solAt free fixed m came m).1 (zerosF free.length)).getD k 0) else .non
theorem known_len {free fixed : List Int} {m : Nat} {came : List A} : (knownF free fixed m came).length = free.length := by
  unfold knownF
  split <;> simp
theorem known_cam {free fixed : List Int} {m : Nat} {came : List A} : ∀ a ∈ knownF free fixed m came, CamA a := by
  unfold knownF
  split
  · intro a ha
    rw [List.eq_of_mem_replicate ha]
    trivial
  · intro a ha
    obtain ⟨k, _, rfl⟩ := List.mem_map.mp ha
    split <;> trivial
theorem rep_mul {M : Mem} {a : A} {n : Nat} (hn : n ≤ 64) : vMul true (.lst [a]) (.int (n : Int)) M = .ok (.lst (List.replicate n a)) M := by
  have hz : (n : Int).natAbs < 2 ^ 63 := by omega
  have hf : ∀ k : Nat, (List.replicate k [a]).flatten = List.replicate k a := fun k => by
    induction k with
    | zero => rfl
    | succ k ih => rw [List.replicate_succ, List.flatten_cons, ih, List.replicate_succ]; rfl
  unfold vMul
  simp only [asL1]
  rw [if_pos hz, Int.toNat_natCast, hf, w_mkLt (by simp; omega)]
section
variable {M : Mem} {s : Int} {free fixed : List Int} {came : List A} {n r c o : Nat} {rows : List Row3} {order : List Int}
theorem known_c2 {r0 r2 r3 r4 r5 r6 r7 r8 r9 r10 : Option A} (hn : M[n]? = some (solMO rows)) (hl : rows.length ≤ 64) : c_Receiver_known_2 [r0, some (.loc n), r2, r3, r4, r5, r6, r7, r8, r9, r10] M = .ok (.lst ((sureF rows).map fun x => .int (x : Nat))) M := by
  have isi : isInsOf 21 M (.loc n) = true := isIns_of hn
  have ro := rows_ok hn hl
  unfold c_Receiver_known_2
  have hi : (AL.iLst (eM 21 m_Solving_rows (eVar 1) aNil)) [r0, some (.loc n), r2, r3, r4, r5, r6, r7, r8, r9, r10] M = .ok ⟨rows.map r3A, [(rows3 rows, rows.map r3A)]⟩ M := by
    simp [AL.iLst, isi, ro, asL]
  rw [v_lc, hi, r_ok]
  simp only
  rw [lcGo_pure (fun x => match x with | .tup [.int h, .int k, _] => decide (k = h) | _ => false) (fun x => match x with | .tup [_, k, _] => k | _ => .non) (by show (rows.map r3A).length ≤ 4096; simp; omega) (by intro p hp; rw [List.mem_singleton.mp hp]; rfl) (fun x hx => by
    obtain ⟨q, hq, rfl⟩ := List.mem_map.mp (show x ∈ rows.map r3A from hx)
    refine ⟨_, rfl, ?_, fun _ => by simp [ce_Receiver_known_2, wipeA]⟩
    simp [ct_Receiver_known_2, wipeA])]
  have e : ((rows.map r3A).filter fun x => match x with | .tup [.int h, .int k, _] => decide (k = h) | _ => false).map (fun x => match x with | .tup [_, k, _] => k | _ => .non) = (sureF rows).map fun x => A.int (x : Nat) := by
    unfold sureF
    rw [List.filter_map, List.map_map, List.map_map]
    have e1 : ((fun x => match x with | A.tup [.int h, .int k, _] => decide (k = h) | _ => false) ∘ r3A) = fun q : Row3 => decide (q.2.1 = q.1) := by
      funext q
      simp only [Function.comp]
      rw [Bool.eq_iff_iff, decide_eq_true_eq, decide_eq_true_eq]
      omega
    rw [e1]
    rfl
  show (R.ok (List.map _ (List.filter _ (rows.map r3A))) M).bind _ = _
  rw [e, r_ok, w_mkLt (by
    unfold sureF
    rw [List.length_map, List.length_map]
    exact Nat.le_trans (List.length_filter_le _ _) (by omega))]
theorem known_c3 {r0 r1 r2 r3 r6 r7 r8 r9 r10 : Option A} {signs : List Int} {sure : List Nat} (hl : signs.length ≤ 64) : c_Receiver_known_3 [r0, r1, r2, r3, some (.lst (signs.map A.int)), some (.lst (sure.map fun x => .int (x : Nat))), r6, r7, r8, r9, r10] M =
    .ok (.lst ((List.range signs.length).map fun k => if 2 ^ k ∈ sure then A.int (signs.getD k 0) else .non)) M := by
  unfold c_Receiver_known_3
  have hi : (AL.iEnum (eVar 4)) [r0, r1, r2, r3, some (.lst (signs.map A.int)), some (.lst (sure.map fun x => .int (x : Nat))), r6, r7, r8, r9, r10] M = .ok ⟨enumA (signs.map A.int), [(.lst (signs.map A.int), signs.map A.int)]⟩ M := by
    simp [AL.iEnum, asL]
  rw [v_lc, hi, r_ok]
  simp only
  have es : signs.map A.int = (List.range signs.length).map fun k => A.int (signs.getD k 0) := by
    apply List.ext_getElem?
    intro i
    by_cases h : i < signs.length
    · rw [List.getElem?_map, List.getElem?_map, List.getElem?_range h, List.getElem?_eq_getElem h]
      simp [List.getD_eq_getElem?_getD, h]
    · rw [List.getElem?_eq_none (by simp; omega), List.getElem?_eq_none (by simp; omega)]
  have en : enumA (signs.map A.int) = (List.range signs.length).map fun k => A.tup [.int (k : Nat), .int (signs.getD k 0)] := by rw [es, enum_range]
  have sm : sure.map (fun x => A.int ((x : Nat) : Int)) = (sure.map fun x => ((x : Nat) : Int)).map A.int := by rw [List.map_map]; rfl
  rw [lcGo_map (fun x => match x with | .tup [.int k, y] => if 2 ^ k.toNat ∈ sure then y else .non | _ => .non) (by show (enumA (signs.map A.int)).length ≤ 4096; rw [enum_len]; simp; omega) (by intro p hp; rw [List.mem_singleton.mp hp]; rfl) (fun x hx => by
    have hx' : x ∈ enumA (signs.map A.int) := hx
    rw [en] at hx'
    obtain ⟨k, hk, rfl⟩ := List.mem_map.mp hx'
    have hk' := List.mem_range.mp hk
    refine ⟨_, rfl, rfl, ?_⟩
    have sh : ∀ M, vShl (.int 1) (.int (k : Nat)) M = .ok (.int ((2 ^ k : Nat) : Int)) M := fun M => by
      rw [w_shl (by omega) (by omega) (by decide)]
      congr 2
      rw [Int.one_mul, Int.toNat_natCast]
      exact (Int.natCast_pow 2 k).symm
    have inn : ∀ M, vIn false (.int ((2 ^ k : Nat) : Int)) (.lst (sure.map fun x => .int (x : Nat))) M = .ok (.bl (decide (2 ^ k ∈ sure))) M := fun M => by
      have := vIn_ints (M := M) (a := .lst (sure.map fun x => .int (x : Nat))) (i := ((2 ^ k : Nat) : Int)) (neg := false) (ns := sure.map fun x => ((x : Nat) : Int)) (by rw [sm]; rfl)
      rw [this]
      congr 2
      simp only [Bool.false_eq_true, if_false]
      rw [Bool.eq_iff_iff, decide_eq_true_eq, decide_eq_true_eq]
      constructor
      · intro h
        obtain ⟨x, hx, e⟩ := List.mem_map.mp h
        have : x = 2 ^ k := by omega
        exact this ▸ hx
      · intro h
        exact List.mem_map.mpr ⟨_, h, rfl⟩
    have l2 : ∀ a M, mkL true [.non, a] M = .ok (.lst [.non, a]) M := fun a M => w_mkLt (by simp)
    generalize ((2 ^ k : Nat) : Int) = q at sh inn
    have ix0 : ∀ a M, vIx (.lst [.non, a]) (.int 0) M = .ok .non M := fun a M => vIx_of (xs := [.non, a]) rfl (by decide) rfl
    have ix1 : ∀ a M, vIx (.lst [.non, a]) (.int 1) M = .ok a M := fun a M => vIx_of (xs := [.non, a]) rfl (by decide) rfl
    by_cases hin : 2 ^ k ∈ sure
    · simp [ce_Receiver_known_3, wipeA, sh, inn, hin, l2, ix1]
    · simp [ce_Receiver_known_3, wipeA, sh, inn, hin, l2, ix0])]
  show (R.ok (List.map _ (enumA (signs.map A.int))) M).bind _ = _
  rw [en, List.map_map, r_ok, w_mkLt (by simp; omega)]
  rfl
theorem RA.known_ok (h : RA M r c o s free fixed came order) (g : GC s free fixed) (hcl : came.length = 2 ^ s.toNat) (hcam : ∀ a ∈ came, CamA a) : m_Receiver_known [.loc r] M = .ok (.lst (knownF free fixed (2 ^ s.toNat) came)) M := by
  rw [show m_Receiver_known [.loc r] M = AL.exit M (fin (s_Receiver_known (start0 11 [.loc r]) M)) from def_of rfl]
  have hs1 := g.s1
  have hgl := g.le
  have hm := many_le (by omega : 0 ≤ s) g.s5
  have sv := solved_ok (M := M) g (cameV := .loc c) (asL_loc h.gc) hcl hcam (fun k hk => by have := at_lt h.gc; simp [bnd]; omega)
  obtain ⟨hri, hl, hms⟩ := sol_inv (free := free) (fixed := fixed) (m := 2 ^ s.toNat) hcam (2 ^ s.toNat) (Nat.le_refl _)
  have f1 : vFldC 22 1 (.loc r) M = .ok (codeA s free fixed) M := fld_of h.gr rfl
  have f2 : vFldC 22 2 (.loc r) M = .ok (.loc c) M := fld_of h.gr rfl
  have f1' : ∀ rows, vFldC 22 1 (.loc r) (M ++ [solMO rows]) = .ok (codeA s free fixed) (M ++ [solMO rows]) := fun rows => fld_of (by rw [List.getElem?_append_left (at_lt h.gr)]; exact h.gr) rfl
  have f2' : ∀ rows, vFldC 22 2 (.loc r) (M ++ [solMO rows]) = .ok (.loc c) (M ++ [solMO rows]) := fun rows => fld_of (fs := [(1, codeA s free fixed), (2, .loc c), (3, .loc o)]) (by rw [List.getElem?_append_left (at_lt h.gr)]; exact h.gr) rfl
  have kb : bnd M.length (.lst (knownF free fixed (2 ^ s.toNat) came)) = true := bnds_all fun a ha => (known_cam a ha).bnd
  have z0 : ∀ M, mkL true [.int 0] M = .ok (.lst [.int 0]) M := fun M => w_mkLt (by simp)
  have zn : ∀ M, mkL true [.non] M = .ok (.lst [.non]) M := fun M => w_mkLt (by simp)
  have m0 : ∀ M, vMul true (.lst [.int 0]) (.int (free.length : Int)) M = .ok (.lst ((zerosF free.length).map A.int)) M := fun M => by rw [rep_mul (by omega)]; simp [zerosF]
  have mn : ∀ M, vMul true (.lst [.non]) (.int (free.length : Int)) M = .ok (.lst (List.replicate free.length .non)) M := fun M => rep_mul (by omega)
  have ll : ∀ M, vLen [.lst (free.map A.int)] M = .ok (.int (free.length : Int)) M := fun M => by simp [vLen, asS, asL]
  have db := fun (rows : List Row3) (hr : RInv free.length rows) (hl : rows.length ≤ 64) (hms : ∀ r ∈ rows, Msk (fun j => j < 2 ^ s.toNat ∧ Heard came (j : Int)) r.2.2) => data_ok (M := M ++ [solMO rows]) (n := M.length) (rows := rows) (chosen := zerosF free.length) g (cameV := .loc c) (asL_app (asL_loc h.gc) (by have := at_lt h.gc; simp [bnd]; omega)) (fun k hk => by have := at_lt h.gc; simp [bnd] at hk ⊢; omega) (by simp [zerosF]) (by simp) hl hr hms
  generalize 2 ^ s.toNat = m at sv hri hl hms hm kb db ⊢
  unfold knownF at kb ⊢
  generalize solAt free fixed m came m = q at sv hri hl hms kb ⊢
  obtain ⟨rows, w⟩ := q
  simp only at sv hri hl hms kb ⊢
  cases w with
  | some w =>
    simp only at kb ⊢
    rw [← exit_app (M := M) (E := [solMO rows]) kb]
    simp [s_Receiver_known, i_Receiver_known_1, start0, f1, f2, f1', sv, wrongA, AL.isNon, code_x1, ll, zn, mn, fin]
  | none =>
    simp only at kb ⊢
    have db' := db rows hri (by omega) hms
    have dl : (dataF free fixed m came rows (zerosF free.length)).length = free.length := by unfold dataF; rw [dataF_len]; simp [zerosF]
    generalize dataF free fixed m came rows (zerosF free.length) = signs at db' dl kb ⊢
    have c2 := fun r0 r2 r3 r4 r5 => known_c2 (M := M ++ [solMO rows]) (n := M.length) (rows := rows) (r0 := r0) (r2 := r2) (r3 := r3) (r4 := r4) (r5 := r5) (r6 := none) (r7 := none) (r8 := none) (r9 := none) (r10 := none) (by simp) (by omega)
    have c3 := fun r0 r1 r2 r3 => known_c3 (M := M ++ [solMO rows]) (signs := signs) (sure := sureF rows) (r0 := r0) (r1 := r1) (r2 := r2) (r3 := r3) (r6 := none) (r7 := none) (r8 := none) (r9 := none) (r10 := none) (by omega)
    rw [dl] at c3
    rw [← exit_app (M := M) (E := [solMO rows]) kb]
    generalize (List.range free.length).map (fun k => if 2 ^ k ∈ sureF rows then A.int (signs.getD k 0) else .non) = kn at c3 ⊢
    generalize (sureF rows).map (fun x => A.int ((x : Nat) : Int)) = su at c2 c3
    generalize signs.map A.int = sg at db' c3
    generalize (zerosF free.length).map A.int = zs at m0 db'
    simp [s_Receiver_known, i_Receiver_known_1, start0, f1, f2, f1', f2', sv, wrongA, AL.isNon, code_x1, ll, z0, m0, db', c2, c3, fin]
end
end G

/-! T5: what was heard (a row of pairs), what came of it; numbers drawn at a state anywhere. -/
namespace G
open PySem PySem.Spec L2 AL
abbrev prA (q : Int × Int) : A := .tup [.int q.1, .int q.2]
abbrev rowA (row : List (Int × Int)) : A := .lst (row.map prA)
structure RowOk (m : Int) (row : List (Int × Int)) : Prop where
  inb : ∀ q ∈ row, 0 ≤ q.1 ∧ q.1 < m ∧ (q.2 = 0 ∨ q.2 = 1)
  nd : (row.map (·.1)).Nodup
def cameOf (m : Nat) (row : List (Int × Int)) : List A := row.foldl (fun l q => l.set q.1.toNat (.int q.2)) (List.replicate m .non)
theorem came_len (m : Nat) (row : List (Int × Int)) : (cameOf m row).length = m := by
  unfold cameOf
  have : ∀ (l : List A), (row.foldl (fun l q => l.set q.1.toNat (.int q.2)) l).length = l.length := by
    induction row with
    | nil => intro l; rfl
    | cons q r ih => intro l; rw [List.foldl_cons, ih]; simp
  rw [this]; simp
theorem came_snoc (m : Nat) (row : List (Int × Int)) (q : Int × Int) : cameOf m (row ++ [q]) = (cameOf m row).set q.1.toNat (.int q.2) := by
  unfold cameOf
  rw [List.foldl_append]
  rfl
theorem came_cam (m : Nat) (row : List (Int × Int)) : ∀ a ∈ cameOf m row, CamA a := by
  unfold cameOf
  have : ∀ (l : List A), (∀ a ∈ l, CamA a) → ∀ a ∈ row.foldl (fun l q => l.set q.1.toNat (.int q.2)) l, CamA a := by
    induction row with
    | nil => intro l h; exact h
    | cons q r ih =>
      intro l h
      rw [List.foldl_cons]
      refine ih _ fun a ha => ?_
      rcases List.mem_or_eq_of_mem_set ha with z | z
      · exact h a z
      · rw [z]; trivial
  exact this _ fun a ha => by rw [List.eq_of_mem_replicate ha]; trivial
theorem came_at {m : Nat} {row : List (Int × Int)} {p : Int} (hr : RowOk m row) (p0 : 0 ≤ p) (p1 : p < m) : (cameOf m row)[p.toNat]? = some (match row.find? (fun q => q.1 == p) with | some q => .int q.2 | none => .non) := by
  have gen : ∀ (l : List A), p.toNat < l.length → (∀ q ∈ row, 0 ≤ q.1) → (row.map (·.1)).Nodup → (row.foldl (fun l q => l.set q.1.toNat (.int q.2)) l)[p.toNat]? = (match row.find? (fun q => q.1 == p) with | some q => some (.int q.2) | none => l[p.toNat]?) := by
    clear hr
    induction row with
    | nil => intro l _ _ _; rfl
    | cons q r ih =>
      intro l hl h0 hn
      rw [List.foldl_cons, ih _ (by simpa using hl) (fun q hq => h0 q (List.mem_cons_of_mem _ hq)) (List.nodup_cons.mp hn).2, List.find?_cons]
      by_cases e : q.1 = p
      · have : r.find? (fun q => q.1 == p) = none := by
          rw [List.find?_eq_none]
          intro q' hq' hc
          have : q'.1 = p := by simpa using hc
          exact (List.nodup_cons.mp hn).1 (List.mem_map.mpr ⟨q', hq', this.trans e.symm⟩)
        rw [this]
        simp only [e, beq_self_eq_true]
        exact List.getElem?_set_self hl
      · have e1 : (q.1 == p) = false := by simpa using e
        rw [e1]
        cases r.find? (fun q => q.1 == p) with
        | some q' => rfl
        | none =>
          simp only
          have := h0 q List.mem_cons_self
          exact List.getElem?_set_ne (by omega)
  unfold cameOf
  rw [gen _ (by simp; omega) (fun q hq => (hr.inb q hq).1) hr.nd]
  cases row.find? (fun q => q.1 == p) with
  | some q => rfl
  | none =>
    simp only
    rw [List.getElem?_replicate, if_pos (by omega)]
theorem came_back {m : Nat} {row : List (Int × Int)} {q : Int × Int} (hr : RowOk m (row ++ [q])) : (cameOf m (row ++ [q])).set q.1.toNat .non = cameOf m row := by
  obtain ⟨q0, q1, _⟩ := hr.inb q (by simp)
  have hr' : RowOk m row := ⟨fun x hx => hr.inb x (List.mem_append_left _ hx), by
    have := hr.nd
    rw [List.map_append] at this
    exact (List.nodup_append.mp this).1⟩
  have hn : row.find? (fun x => x.1 == q.1) = none := by
    rw [List.find?_eq_none]
    intro x hx hc
    have e : x.1 = q.1 := by simpa using hc
    have := hr.nd
    rw [List.map_append, List.nodup_append] at this
    exact this.2.2 _ (List.mem_map.mpr ⟨x, hx, e⟩) _ (by simp) rfl
  have := came_at hr' q0 q1
  rw [hn] at this
  rw [came_snoc, List.set_set]
  apply List.ext_getElem?
  intro i
  by_cases e : i = q.1.toNat
  · subst e
    rw [List.getElem?_set_self (by rw [came_len]; omega), this]
  · rw [List.getElem?_set_ne (Ne.symm e)]
/-! the deed done -/
section
variable {M : Mem} {n : Nat} {a b m s : Int} {c : Bool}
theorem take_at (h : M[n]? = some (stMO a b c)) (hs : StOk a b) (hm : 0 < m) (hm2 : m < 2 ^ 60) : ∃ d a' b' c', m_law_take [.loc n, .int m] M = .ok (.int d) (M.set n (stMO a' b' c')) ∧ StOk a' b' ∧ 0 ≤ d ∧ d < m := by
  have := take_ok (c := c) (at_lt h) hs hm hm2
  rwa [set_self h] at this
theorem code_at (h : M[n]? = some (stMO a b c)) (hs : StOk a b) (h1 : 1 ≤ s) (h5 : s ≤ 5) : ∃ (free fixed : List Int) (a' b' : Int) (c' : Bool), m_law_code [.loc n, .int s] M = .ok (codeA s free fixed) (M.set n (stMO a' b' c')) ∧ StOk a' b' ∧ GC s free fixed := by
  have := code_ok (c := c) (at_lt h) hs h1 h5
  rwa [set_self h] at this
end
section
variable {M M' : Mem} {r c o : Nat} {s : Int} {free fixed : List Int} {came : List A} {order : List Int}
theorem RA.mono (h : RA M r c o s free fixed came order) (k : ∀ i, i < M.length → M'[i]? = M[i]?) : RA M' r c o s free fixed came order := by
  refine ⟨?_, ?_, ?_, h.n1, h.n2, h.n3⟩
  · rw [k _ (at_lt h.gr)]; exact h.gr
  · rw [k _ (at_lt h.gc)]; exact h.gc
  · rw [k _ (at_lt h.go)]; exact h.go
theorem RA.app {E : Mem} (h : RA M r c o s free fixed came order) : RA (M ++ E) r c o s free fixed came order := h.mono fun i hi => List.getElem?_append_left hi
end

/-! texts -/
theorem str_ne {M : Mem} {x : Str} (h : PyData.strOk x = true) : vNe (.str x) (.str x) M = .ok (.bl false) M := by
  rw [vNe_pl (by simp [pl, h]) (by simp [pl, h])]
  simp
theorem str_same {M : Mem} {x : Str} (h : PyData.strOk x = true) : vEq (.str x) (.str x) M = .ok (.bl true) M := by
  rw [vEq_pl (by simp [pl, h]) (by simp [pl, h])]
  simp
theorem str_diff {M : Mem} {x y : Str} (h : PyData.strOk x = true) (h2 : PyData.strOk y = true) (n : x ≠ y) : vEq (.str x) (.str y) M = .ok (.bl false) M := by
  rw [vEq_pl (by simp [pl, h]) (by simp [pl, h2])]
  simp [n]
/-- the last item -/
theorem vIx_last {M : Mem} {a b : A} {xs : List A} (h : asS M a = some (xs ++ [b])) : vIx a (.int (-1)) M = .ok b M := by
  have e : atI (xs ++ [b]) (-1) = some b := by
    have h1 : ¬ (0 : Int) ≤ -1 := by decide
    have h2 : (-1 + ((xs.length : Int) + 1)).toNat = xs.length := by omega
    have h3 : (1 : Int) ≤ (xs.length : Int) + 1 := by omega
    unfold atI ixN
    simp [h2, h3]
  cases a with
  | tup ys => cases h; simp [vIx, e]
  | str z => cases h
  | _ => (simp only [asS] at h; simp [vIx, h, e])
end G

/-! E1 (k81): odd values are refused; the kind of an error. -/
namespace G
open PySem PySem.Spec L2 AL
/-- values that are no ints (bools are none here) -/
def NW : A → Prop
  | .bl _ => True
  | .non => True
  | .str _ => True
  | .lst _ => True
  | .tup _ => True
  | _ => False
section
variable {M : Mem} {a : A}
theorem is_whole_no (h : NW a) : m_is_whole [a] M = .ok (.bl false) M := by
  rw [show m_is_whole [a] M = AL.exit M (fin (s_is_whole (start0 1 [a]) M)) from def_of rfl]
  rw [← exit_pure (M := M) (a := .bl false) rfl]
  cases a <;> first | exact h.elim | simp [s_is_whole, start0, fin, vIsi, tyN, tyIs]
theorem is_sign_no (h : NW a) : m_is_sign [a] M = .ok (.bl false) M := by
  rw [show m_is_sign [a] M = AL.exit M (fin (s_is_sign (start0 1 [a]) M)) from def_of rfl]
  rw [← exit_pure (M := M) (a := .bl false) rfl]
  simp [s_is_sign, start0, fin, is_whole_no h]
/-- no sign at all -/
def NS : A → Prop
  | .int i => i < 0 ∨ 1 < i
  | a => NW a
theorem is_sign_ns (h : NS a) : m_is_sign [a] M = .ok (.bl false) M := by
  cases a with
  | int i =>
    rw [is_sign_int]
    congr 2
    have h' : i < 0 ∨ 1 < i := h
    rw [Bool.and_eq_false_iff, decide_eq_false_iff_not, decide_eq_false_iff_not]
    omega
  | _ => exact is_sign_no h
/-- no place among m -/
def NP (m : Int) : A → Prop
  | .int i => i < 0 ∨ m ≤ i
  | a => NW a
theorem place_np {s : Int} (h0 : 0 ≤ s) (h5 : s ≤ 5) (h : NP ((2 ^ s.toNat : Nat) : Int) a) : m_look_at_place [.int s, a] M = .err 3 M := by
  rw [show m_look_at_place [.int s, a] M = AL.exit M (fin (s_look_at_place (start0 2 [.int s, a]) M)) from def_of rfl]
  rw [← exit_err_pure (M := M)]
  have t0 : ∀ M : Mem, vIx (.tup [.int 1, .int 2, .int 4, .int 8, .int 16, .int 32]) (.int s) M = .ok (.int ((2 ^ s.toNat : Nat) : Int)) M := fun M => tab_tup h0 h5
  generalize ((2 ^ s.toNat : Nat) : Int) = m at t0 h
  have w : ∀ a, NW a → exit M (fin (s_look_at_place (start0 2 [.int s, a]) M)) = exit M (.err 3 M) := fun a h => by
    simp [s_look_at_place, i_look_at_place_1, start0, fin, is_whole_no h]
  cases a with
  | int i =>
    have h' : i < 0 ∨ m ≤ i := h
    by_cases h1 : 0 ≤ i
    · have h2 : ¬ i < m := by omega
      simp [s_look_at_place, i_look_at_place_1, start0, fin, t0, h1, h2]
    · simp [s_look_at_place, i_look_at_place_1, start0, fin, t0, h1]
  | _ => exact w _ h
end
def kindW (c : Nat) : Str := if c = 9 then "code" else if c = 3 then "place" else if c = 15 then "sign" else "clash"
theorem kind_ok {M : Mem} {c : Nat} (hc : c = 9 ∨ c = 3 ∨ c = 15 ∨ c = 16) : m_law_kind [.exc c] M = .ok (.str (kindW c)) M := by
  rw [show m_law_kind [.exc c] M = AL.exit M (fin (s_law_kind (start0 2 [.exc c]) M)) from def_of rfl]
  have l3 : ∀ (a b c : Bool) M, mkL false [.bl a, .bl b, .bl c] M = .ok (.loc M.length) (M ++ [.lst [.bl a, .bl b, .bl c]]) := fun a b c M => w_mkLf (by simp)
  have ap : ∀ (a b c d : Bool), mAppend (.loc M.length) [.bl d] (M ++ [.lst [.bl a, .bl b, .bl c]]) = .ok .non (M ++ [.lst [.bl a, .bl b, .bl c, .bl d]]) := fun a b c d => by
    unfold mAppend
    rw [locL_loc (by simp; rfl)]
    simp only
    rw [if_pos (by rw [sizeLine_eq]; simp)]
    simp
  have a3 : ∀ (a b c : Bool), asL (M ++ [.lst [.bl a, .bl b, .bl c]]) (.loc M.length) = some [.bl a, .bl b, .bl c] := fun a b c => asL_loc (by simp)
  have a4 : ∀ (a b c d : Bool), asL (M ++ [.lst [.bl a, .bl b, .bl c, .bl d]]) (.loc M.length) = some [.bl a, .bl b, .bl c, .bl d] := fun a b c d => asL_loc (by simp)
  have lk : ∀ M, mkL true [.str "code", .str "place", .str "sign", .str "clash"] M = .ok (.lst [.str "code", .str "place", .str "sign", .str "clash"]) M := fun M => w_mkLt (by simp)
  have x0 : ∀ M, vIx (.lst [.str "code", .str "place", .str "sign", .str "clash"]) (.int 0) M = .ok (.str "code") M := fun M => vIx_of (xs := [.str "code", .str "place", .str "sign", .str "clash"]) rfl (by decide) rfl
  have x1 : ∀ M, vIx (.lst [.str "code", .str "place", .str "sign", .str "clash"]) (.int 1) M = .ok (.str "place") M := fun M => vIx_of (xs := [.str "code", .str "place", .str "sign", .str "clash"]) rfl (by decide) rfl
  have x2 : ∀ M, vIx (.lst [.str "code", .str "place", .str "sign", .str "clash"]) (.int 2) M = .ok (.str "sign") M := fun M => vIx_of (xs := [.str "code", .str "place", .str "sign", .str "clash"]) rfl (by decide) rfl
  have x3 : ∀ M, vIx (.lst [.str "code", .str "place", .str "sign", .str "clash"]) (.int 3) M = .ok (.str "clash") M := fun M => vIx_of (xs := [.str "code", .str "place", .str "sign", .str "clash"]) rfl (by decide) rfl
  have sm : ∀ (a b c d : Bool), vSumAll [.loc M.length] (M ++ [.lst [.bl a, .bl b, .bl c, .bl d]]) = .ok (.int (sumB [a, b, c, d])) (M ++ [.lst [.bl a, .bl b, .bl c, .bl d]]) := fun a b c d => by simp [vSumAll, a4, toInts, toBools]
  have ix : ∀ (a b c d : Bool), mIndex (.loc M.length) [.bl true] (M ++ [.lst [.bl a, .bl b, .bl c, .bl d]]) = (match [a, b, c, d].findIdx? (fun z => z == true) with | some j => .ok (.int (j : Nat)) (M ++ [.lst [.bl a, .bl b, .bl c, .bl d]]) | none => .stuck) := fun a b c d => by
    unfold mIndex
    rw [a4]
    cases a <;> cases b <;> cases c <;> cases d <;> simp [flatA, toV, eqV, List.findIdx?_cons]
  rcases hc with rfl | rfl | rfl | rfl
  · rw [← exit_app (M := M) (E := [.lst [.bl true, .bl false, .bl false, .bl false]]) (a := .str (kindW 9)) rfl]
    have h1 : sumB [true, false, false, false] = 1 := rfl
    simp [s_law_kind, i_law_kind_1, start0, fin, vIsx, mOf, List.lookup, l3, ap, a3, a4, sm, h1, ix, lk, x0, kindW, List.findIdx?_cons]
  · rw [← exit_app (M := M) (E := [.lst [.bl false, .bl true, .bl false, .bl false]]) (a := .str (kindW 3)) rfl]
    have h1 : sumB [false, true, false, false] = 1 := rfl
    simp [s_law_kind, i_law_kind_1, start0, fin, vIsx, mOf, List.lookup, l3, ap, a3, a4, sm, h1, ix, lk, x1, kindW, List.findIdx?_cons]
  · rw [← exit_app (M := M) (E := [.lst [.bl false, .bl false, .bl true, .bl false]]) (a := .str (kindW 15)) rfl]
    have h1 : sumB [false, false, true, false] = 1 := rfl
    simp [s_law_kind, i_law_kind_1, start0, fin, vIsx, mOf, List.lookup, l3, ap, a3, a4, sm, h1, ix, lk, x2, kindW, List.findIdx?_cons]
  · rw [← exit_app (M := M) (E := [.lst [.bl false, .bl false, .bl false, .bl true]]) (a := .str (kindW 16)) rfl]
    have h1 : sumB [false, false, false, true] = 1 := rfl
    simp [s_law_kind, i_law_kind_1, start0, fin, vIsx, mOf, List.lookup, l3, ap, a3, a4, sm, h1, ix, lk, x3, kindW, List.findIdx?_cons]
end G

/-! E2 (k81): what hear refuses; bad codes; _law_heard, _law_made. -/
namespace G
open PySem PySem.Spec L2 AL
section
variable {M M' : Mem} {r c o : Nat} {s : Int} {free fixed : List Int} {came : List A} {order : List Int}
theorem RA.hear_np {x y : A} (h : RA M r c o s free fixed came order) (hs0 : 0 ≤ s) (hs5 : s ≤ 5) (hx : NP ((2 ^ s.toNat : Nat) : Int) x) : m_Receiver_hear [.loc r, x, y] M = .err 3 M := by
  rw [show m_Receiver_hear [.loc r, x, y] M = AL.exit M (fin (s_Receiver_hear (start0 3 [.loc r, x, y]) M)) from def_of rfl]
  have f1 : vFldC 22 1 (.loc r) M = .ok (codeA s free fixed) M := fld_of h.gr rfl
  have x0 : vIx (codeA s free fixed) (.int 0) M = .ok (.int s) M := vIx_of rfl (by decide) rfl
  have pl := place_np (M := M) hs0 hs5 hx
  rw [← exit_err_pure (M := M)]
  simp [s_Receiver_hear, start0, f1, x0, pl, fin]
theorem RA.hear_ns {p : Int} {y : A} (h : RA M r c o s free fixed came order) (hs0 : 0 ≤ s) (hs5 : s ≤ 5) (p0 : 0 ≤ p) (p1 : p < ((2 ^ s.toNat : Nat) : Int)) (hy : NS y) : m_Receiver_hear [.loc r, .int p, y] M = .err 15 M := by
  rw [show m_Receiver_hear [.loc r, .int p, y] M = AL.exit M (fin (s_Receiver_hear (start0 3 [.loc r, .int p, y]) M)) from def_of rfl]
  have f1 : vFldC 22 1 (.loc r) M = .ok (codeA s free fixed) M := fld_of h.gr rfl
  have x0 : vIx (codeA s free fixed) (.int 0) M = .ok (.int s) M := vIx_of rfl (by decide) rfl
  have pl := place_ok (M := M) hs0 hs5 p0 p1
  have sg := is_sign_ns (M := M) hy
  rw [← exit_err_pure (M := M)]
  simp [s_Receiver_hear, i_Receiver_hear_1, start0, f1, x0, pl, sg, fin]
theorem heard_fine {x y : A} (hr : isInsOf 22 M (.loc r) = true) (h : m_Receiver_hear [.loc r, x, y] M = .ok .non M') : m_law_heard [.loc r, x, y] M = AL.exit M (.ok (.str "good") M') := by
  rw [show m_law_heard [.loc r, x, y] M = AL.exit M (fin (s_law_heard (start0 5 [.loc r, x, y]) M)) from def_of rfl]
  have t : sTry 4 (mOf [(0, true), (1, true), (3, true), (9, true), (10, true), (11, true), (15, true), (16, true), (17, true)]) (sExpr (eM 22 m_Receiver_hear (eVar 0) (aCons (eVar 1) (aCons (eVar 2) (aNil))))) (sSet 3 (eVar 4)) [some (.loc r), some x, some y, some .non, none] M = .nx [some (.loc r), some x, some y, some .non, none] M' := by
    unfold sTry
    simp [hr, h]
  congr 1
  simp [s_law_heard, start0, t, i_law_heard_1, AL.isNon, fin]
theorem heard_err {x y : A} {e : Nat} (hc : e = 9 ∨ e = 3 ∨ e = 15 ∨ e = 16) (hr : isInsOf 22 M (.loc r) = true) (h : m_Receiver_hear [.loc r, x, y] M = .err e M) : m_law_heard [.loc r, x, y] M = .ok (.str (kindW e)) M := by
  rw [show m_law_heard [.loc r, x, y] M = AL.exit M (fin (s_law_heard (start0 5 [.loc r, x, y]) M)) from def_of rfl]
  have t : sTry 4 (mOf [(0, true), (1, true), (3, true), (9, true), (10, true), (11, true), (15, true), (16, true), (17, true)]) (sExpr (eM 22 m_Receiver_hear (eVar 0) (aCons (eVar 1) (aCons (eVar 2) (aNil))))) (sSet 3 (eVar 4)) [some (.loc r), some x, some y, some .non, none] M = .nx [some (.loc r), some x, some y, some (.exc e), none] M := by
    unfold sTry
    rcases hc with rfl | rfl | rfl | rfl <;> simp [hr, h, mOf, List.lookup, clrF]
  rw [← exit_pure (M := M) (a := .str (kindW e)) rfl]
  congr 1
  have k := kind_ok (M := M) hc
  simp [s_law_heard, start0, t, i_law_heard_1, AL.isNon, fin, k]
end
/-! bad codes -/
def badL (s : Int) (free fixed : List Int) : List A :=
  [.non, .lst [], .str "**", .tup [.int s, .lst [], .lst (fixed.map A.int)], .tup [.int s, .lst (free.map A.int)], .lst [.int s, .lst (free.map A.int), .lst (fixed.map A.int)],
   .tup [.int 6, .lst (free.map A.int), .lst (fixed.map A.int)], .tup [.int s, .lst (free.map A.int), .lst ((fixed ++ [0]).map A.int)], .tup [.bl true, .lst [.int 0], .lst [.int 0]], .tup [.int 0, .lst [.int 0], .lst []]]
section
variable {M : Mem} {s : Int} {free fixed : List Int}
theorem is_code_bad (g : GC s free fixed) : ∀ a ∈ badL s free fixed, m_is_code [a] M = .ok (.bl false) M := by
  have h1 := g.s1
  have h5 := g.s5
  have hl := g.len
  have gl := g.le
  have d : ∀ a, m_is_code [a] M = AL.exit M (fin (s_is_code (start0 2 [a]) M)) := fun a => def_of rfl
  have t0 : vIx (.tup [.int 1, .int 2, .int 4, .int 8, .int 16, .int 32]) (.int s) M = .ok (.int ((2 ^ s.toNat : Nat) : Int)) M := tab_tup (by omega) h5
  have nt : ∀ a, tyN M a = some .non ∨ tyN M a = some .lst ∨ tyN M a = some .str → m_is_code [a] M = .ok (.bl false) M := fun a h => by
    rw [d, ← exit_pure (M := M) (a := .bl false) rfl]
    rcases h with h | h | h <;> simp [s_is_code, i_is_code_1, start0, fin, vIsi, h, tyIs]
  have ix : ∀ (xs : List A) (i : Nat) (a : A), xs[i]? = some a → vIx (.tup xs) (.int (i : Nat)) M = .ok a M := fun xs i a h => vIx_of rfl (by omega) (by simpa using h)
  have ix0 : ∀ a b c, vIx (.tup [a, b, c]) (.int 0) M = .ok a M := fun a b c => ix [a, b, c] 0 a rfl
  have ix1 : ∀ a b c, vIx (.tup [a, b, c]) (.int 1) M = .ok b M := fun a b c => ix [a, b, c] 1 b rfl
  have ix2 : ∀ a b c, vIx (.tup [a, b, c]) (.int 2) M = .ok c M := fun a b c => ix [a, b, c] 2 c rfl
  have r0 : ∀ m : Int, m_is_rising [.lst [], .int 0, .int m] M = .ok (.bl true) M := fun m => is_rising_ok (ns := []) (by simp) (by simp)
  intro a ha
  simp only [badL, List.mem_cons, List.not_mem_nil, or_false] at ha
  rcases ha with rfl | rfl | rfl | rfl | rfl | rfl | rfl | rfl | rfl | rfl
  · exact nt _ (.inl rfl)
  · exact nt _ (.inr (.inl rfl))
  · exact nt _ (.inr (.inr rfl))
  · rw [d, ← exit_pure (M := M) (a := .bl false) rfl]
    generalize ((2 ^ s.toNat : Nat) : Int) = m at t0
    simp [s_is_code, i_is_code_1, i_is_code_2, start0, fin, vIsi, tyN, tyIs, vLen, asS, asL, ix0, ix1, h1, h5, t0, r0]
  · rw [d, ← exit_pure (M := M) (a := .bl false) rfl]
    simp [s_is_code, i_is_code_1, start0, fin, vIsi, tyN, tyIs, vLen, asS]
  · exact nt _ (.inr (.inl rfl))
  · rw [d, ← exit_pure (M := M) (a := .bl false) rfl]
    simp [s_is_code, i_is_code_1, start0, fin, vIsi, tyN, tyIs, vLen, asS, ix0]
  · rw [d, ← exit_pure (M := M) (a := .bl false) rfl]
    have r1 : m_is_rising [.lst (free.map A.int), .int 0, .int ((2 ^ s.toNat : Nat) : Int)] M = .ok (.bl true) M := is_rising_ok g.rise g.inb
    have r2 : m_is_signs [.lst ((fixed ++ [0]).map A.int)] M = .ok (.bl true) M := by
      rw [is_signs_ints (by simp; omega)]
      congr 2
      rw [List.all_eq_true]
      intro x hx
      rcases List.mem_append.mp hx with hx | hx
      · rcases g.fx x hx with rfl | rfl <;> rfl
      · rw [List.mem_singleton.mp hx]; rfl
    have len2 : ((fixed ++ [0]).map A.int).length = fixed.length + 1 := by simp
    generalize (fixed ++ [0]).map A.int = fx at r2 len2
    have ne' : ¬ free = [] := g.ne
    have e3 : ¬ (free.length : Int) + ((fixed.length : Int) + 1) = ((2 ^ s.toNat : Nat) : Int) := by omega
    generalize ((2 ^ s.toNat : Nat) : Int) = m at t0 r1 e3
    simp [s_is_code, i_is_code_1, i_is_code_2, start0, fin, vIsi, tyN, tyIs, vLen, asS, asL, ix0, ix1, ix2, h1, h5, t0, r1, r2, len2, ne', e3]
  · have w := is_whole_no (M := M) (a := .bl true) trivial
    rw [d, ← exit_pure (M := M) (a := .bl false) rfl]
    simp [s_is_code, i_is_code_1, start0, fin, vIsi, tyN, tyIs, vLen, asS, ix0, w]
  · rw [d, ← exit_pure (M := M) (a := .bl false) rfl]
    simp [s_is_code, i_is_code_1, start0, fin, vIsi, tyN, tyIs, vLen, asS, ix0]
theorem look_bad {a : A} (h : m_is_code [a] M = .ok (.bl false) M) : m_look_at_code [a] M = .err 9 M := by
  rw [show m_look_at_code [a] M = AL.exit M (fin (s_look_at_code (start0 1 [a]) M)) from def_of rfl]
  rw [← exit_err_pure (M := M)]
  simp [s_look_at_code, i_look_at_code_1, start0, fin, h]
theorem mk_bad (g : GC s free fixed) {a : A} (ha : a ∈ badL s free fixed) : mkSem 22 m_Receiver_init [a] M = .err 9 (M ++ [.ins 22 []]) := by
  unfold mkSem
  have h := look_bad (is_code_bad (M := M ++ [.ins 22 []]) g a ha)
  have e : m_Receiver_init [.loc M.length, a] (M ++ [.ins 22 []]) = .err 9 (M ++ [.ins 22 []]) := by
    rw [show m_Receiver_init [.loc M.length, a] (M ++ [.ins 22 []]) = AL.exit (M ++ [.ins 22 []]) (fin (s_Receiver_init (start0 2 [.loc M.length, a]) (M ++ [.ins 22 []]))) from def_of rfl]
    rw [← exit_err_pure (M := (M ++ [MO.ins 22 []] : Mem)) (c := 9)]
    simp [s_Receiver_init, start0, fin, h]
  rw [e]
  rfl
theorem made_bad (g : GC s free fixed) {a : A} (ha : a ∈ badL s free fixed) : m_law_made [a] M = .ok (.str "code") M := by
  rw [show m_law_made [a] M = AL.exit M (fin (s_law_made (start0 3 [a]) M)) from def_of rfl]
  have t : sTry 2 (mOf [(0, true), (1, true), (3, true), (9, true), (10, true), (11, true), (15, true), (16, true), (17, true)]) (sExpr (eMk 22 m_Receiver_init (aCons (eVar 0) (aNil)))) (sSet 1 (eVar 2)) [some a, some .non, none] M = .nx [some a, some (.exc 9), none] (M ++ [.ins 22 []]) := by
    unfold sTry
    simp [mk_bad g ha, mOf, List.lookup, clrF]
  rw [← exit_app (M := M) (E := [.ins 22 []]) (a := .str "code") rfl]
  congr 1
  have k := kind_ok (M := M ++ [.ins 22 []]) (c := 9) (.inl rfl)
  rw [show kindW 9 = "code" from rfl] at k
  simp [s_law_made, start0, t, i_law_made_1, AL.isNon, fin, k]
end
end G

/-! K81c: _law_right. -/
namespace G
open PySem PySem.Spec L2 AL
def wGood : Str := "good"
def wPlace : Str := "place"
def wSign : Str := "sign"
def wClash : Str := "clash"
theorem ok_good : PyData.strOk wGood = true := by decide +kernel
theorem ok_place : PyData.strOk wPlace = true := by decide +kernel
theorem ok_sign : PyData.strOk wSign = true := by decide +kernel
theorem ok_clash : PyData.strOk wClash = true := by decide +kernel
theorem good_clash : wGood ≠ wClash := by decide +kernel
def WOk (w : Str) : Prop := w = wGood ∨ w = wPlace ∨ w = wSign ∨ w = wClash
theorem WOk.ok {w : Str} (h : WOk w) : PyData.strOk w = true := by
  rcases h with rfl | rfl | rfl | rfl
  · exact ok_good
  · exact ok_place
  · exact ok_sign
  · exact ok_clash
def badS : List A := [.int 2, .int (-1), .bl true, .bl false, .non, .str "0", .lst [.int 0], .int (10 ^ 30)]
def badP (m : Int) : List A := [.int m, .int (-1), .bl true, .bl false, .non, .str "0", .lst [.int 0], .int (10 ^ 30)]
theorem badS_ns : ∀ a ∈ badS, NS a := by
  intro a ha
  simp only [badS, List.mem_cons, List.not_mem_nil, or_false] at ha
  rcases ha with rfl | rfl | rfl | rfl | rfl | rfl | rfl | rfl
  · exact .inr (by decide)
  · exact .inl (by decide)
  all_goals first | trivial | exact .inr (by decide)
theorem badP_np {m : Int} (hm : m ≤ 32) : ∀ a ∈ badP m, NP m a := by
  intro a ha
  simp only [badP, List.mem_cons, List.not_mem_nil, or_false] at ha
  rcases ha with rfl | rfl | rfl | rfl | rfl | rfl | rfl | rfl
  · exact .inr (Int.le_refl m)
  · exact .inl (by decide)
  all_goals first | trivial | exact .inr (Int.le_trans hm (by decide))
theorem pick {M : Mem} {xs : List A} {d : Int} (h0 : 0 ≤ d) (h1 : d < xs.length) : ∃ a ∈ xs, vIx (.lst xs) (.int d) M = .ok a M :=
  ⟨xs[d.toNat]'(by omega), List.getElem_mem _, vIx_of rfl h0 (List.getElem?_eq_getElem (by omega))⟩
/-- what _law_heard says at every memory that holds the receiver -/
def Told (r c o : Nat) (s : Int) (free fixed : List Int) (came : List A) (order : List Int) (x y : A) (w : Str) : Prop := WOk w ∧ ∀ N, RA N r c o s free fixed came order → m_law_heard [.loc r, x, y] N = .ok (.str w) N
section
variable {M : Mem} {n r c o q : Nat} {s a b m : Int} {c0 : Bool} {free fixed : List Int} {came : List A} {order : List Int} {row : List (Int × Int)}
/-- two signs are drawn upon -/
theorem right_1 {r0 r1 r2 r3 r4 : Option A} {x8 : Option A} {p g d : Int} (hs0 : 0 ≤ s) (hs5 : s ≤ 5) (p0 : 0 ≤ p) (p1 : p < ((2 ^ s.toNat : Nat) : Int)) (hg : g = 0 ∨ g = 1) (hd : d = 0 ∨ d = 1) (hc : came[p.toNat]? = some (.int g)) :
    ∃ (g1 : Int) (w : Str), i_law_right_1 [r0, r1, r2, r3, r4, some (.int p), some (.int g), some (.str (if d = 0 then wGood else wClash)), x8] M = .nx [r0, r1, r2, r3, r4, some (.int p), some (.int g1), some (.str w), x8] M ∧ Told r c o s free fixed came order (.int p) (.int g1) w := by
  rcases hd with rfl | rfl
  · have e : vEq (.str wGood) (.str "clash") M = .ok (.bl false) M := str_diff ok_good ok_clash good_clash
    refine ⟨g, wGood, by simp [i_law_right_1, e], .inl rfl, fun N h => ?_⟩
    have f := h.hear_old hs0 hs5 p0 p1 hg hc
    rw [if_pos rfl] at f
    rw [heard_fine (isIns_of h.gr) f]
    exact exit_pure rfl
  · have e : vEq (.str wClash) (.str "clash") M = .ok (.bl true) M := str_same ok_clash
    refine ⟨1 - g, wClash, by simp [i_law_right_1, e], .inr (.inr (.inr rfl)), fun N h => ?_⟩
    have f := h.hear_old hs0 hs5 p0 p1 (g := 1 - g) (by omega) hc
    rw [if_neg (by omega)] at f
    exact heard_err (.inr (.inr (.inr rfl))) (isIns_of h.gr) f
theorem right_2 {r1 r2 r3 r4 x8 : Option A} {p : Int} {y : A} {w : Str} (hn : n < M.length) (hs : StOk a b) (hs0 : 0 ≤ s) (hs5 : s ≤ 5) (p0 : 0 ≤ p) (p1 : p < ((2 ^ s.toNat : Nat) : Int)) (ht : Told r c o s free fixed came order (.int p) y w) :
    ∃ (y' : A) (w' : Str) (a' b' : Int) (c' : Bool), i_law_right_2 [some (.loc n), r1, r2, r3, r4, some (.int p), some y, some (.str w), x8] (M.set n (stMO a b c0)) = .nx [some (.loc n), r1, r2, r3, r4, some (.int p), some y', some (.str w'), x8] (M.set n (stMO a' b' c')) ∧ StOk a' b' ∧ Told r c o s free fixed came order (.int p) y' w' := by
  obtain ⟨d, a1, b1, c1, h1, st1, d0, d1⟩ := take_ok (c := c0) (m := 3) hn hs (by decide) (by decide)
  by_cases e : d = 0
  · obtain ⟨d', a2, b2, c2, h2, st2, d0', d1'⟩ := take_ok (c := c1) (m := 8) hn st1 (by decide) (by decide)
    obtain ⟨y', hy, h3⟩ := pick (M := M.set n (stMO a2 b2 c2)) (xs := badS) d0' d1'
    have l0 : ∀ M, mkL true [.int 0] M = .ok (.lst [.int 0]) M := fun M => w_mkLt (by simp)
    have l1 : ∀ M, mkL true [.int 2, .int (-1), .bl true, .bl false, .non, .str "0", .lst [.int 0], .int (10 ^ 30)] M = .ok (.lst badS) M := fun M => w_mkLt (by simp)
    have pw : ∀ M, vPow (.int 10) (.int 30) M = .ok (.int (10 ^ 30)) M := fun M => w_pow (by decide) (by decide) (by decide)
    generalize (10 : Int) ^ 30 = big at l1 pw
    refine ⟨y', wSign, a2, b2, c2, ?_, st2, .inr (.inr (.inl rfl)), fun N h => ?_⟩
    · generalize badS = bs at l1 h3
      subst e
      simp [i_law_right_2, h1, l0, l1, pw, h2, h3, wSign]
    · exact heard_err (.inr (.inr (.inl rfl))) (isIns_of h.gr) (h.hear_ns hs0 hs5 p0 p1 (badS_ns _ hy))
  · exact ⟨y, w, a1, b1, c1, by simp [i_law_right_2, h1, e], st1, ht⟩
theorem right_3 {r1 r3 r4 x8 : Option A} {p : Int} {y : A} {w : Str} (hm : m = ((2 ^ s.toNat : Nat) : Int)) (hm32 : m ≤ 32) (hn : n < M.length) (hs : StOk a b) (hs0 : 0 ≤ s) (hs5 : s ≤ 5) (ht : Told r c o s free fixed came order (.int p) y w) :
    ∃ (x' : A) (w' : Str) (a' b' : Int) (c' : Bool), i_law_right_3 [some (.loc n), r1, some (.int m), r3, r4, some (.int p), some y, some (.str w), x8] (M.set n (stMO a b c0)) = .nx [some (.loc n), r1, some (.int m), r3, r4, some x', some y, some (.str w'), x8] (M.set n (stMO a' b' c')) ∧ StOk a' b' ∧ Told r c o s free fixed came order x' y w' := by
  obtain ⟨d, a1, b1, c1, h1, st1, d0, d1⟩ := take_ok (c := c0) (m := 3) hn hs (by decide) (by decide)
  by_cases e : d = 0
  · obtain ⟨d', a2, b2, c2, h2, st2, d0', d1'⟩ := take_ok (c := c1) (m := 8) hn st1 (by decide) (by decide)
    obtain ⟨y', hy, h3⟩ := pick (M := M.set n (stMO a2 b2 c2)) (xs := badP m) d0' d1'
    have l0 : ∀ M, mkL true [.int 0] M = .ok (.lst [.int 0]) M := fun M => w_mkLt (by simp)
    have l1 : ∀ M, mkL true [.int m, .int (-1), .bl true, .bl false, .non, .str "0", .lst [.int 0], .int (10 ^ 30)] M = .ok (.lst (badP m)) M := fun M => w_mkLt (by simp)
    have pw : ∀ M, vPow (.int 10) (.int 30) M = .ok (.int (10 ^ 30)) M := fun M => w_pow (by decide) (by decide) (by decide)
    generalize (10 : Int) ^ 30 = big at l1 pw
    refine ⟨y', wPlace, a2, b2, c2, ?_, st2, .inr (.inl rfl), fun N h => ?_⟩
    · generalize badP m = bs at l1 h3
      subst e
      simp [i_law_right_3, h1, l0, l1, pw, h2, h3, wPlace]
    · exact heard_err (.inr (.inl rfl)) (isIns_of h.gr) (h.hear_np hs0 hs5 (by rw [← hm]; exact badP_np hm32 _ hy))
  · exact ⟨.int p, w, a1, b1, c1, by simp [i_law_right_3, h1, e], st1, ht⟩
end
end G

/-! K81d: _law_right whole. -/
namespace G
open PySem PySem.Spec L2 AL
theorem leftA_pl {k : Nat} {free fixed : List Int} {m : Nat} {came : List A} : pl k (leftA free fixed m came) = true := by
  unfold leftA
  split
  · exact pl_non
  · exact pl_int
theorem cams_pl {k : Nat} {xs : List A} (h : ∀ a ∈ xs, CamA a) : pl (k + 1) (.lst xs) = true := by
  rw [pl]
  exact pls_all fun x hx => (h x hx).pl
theorem find_nd {e : Int × Int} : ∀ {row : List (Int × Int)}, (row.map (·.1)).Nodup → e ∈ row → row.find? (fun q => q.1 == e.1) = some e
  | x :: t, nd, hm => by
    rw [List.map_cons, List.nodup_cons] at nd
    rw [List.find?_cons]
    by_cases ex : x.1 = e.1
    · have : x = e := by
        rcases List.mem_cons.mp hm with h | h
        · exact h.symm
        · exact absurd (List.mem_map.mpr ⟨e, h, ex.symm⟩) nd.1
      subst this
      simp
    · have e1 : (x.1 == e.1) = false := by simpa using ex
      rw [e1]
      exact find_nd nd.2 (by
        rcases List.mem_cons.mp hm with h | h
        · exact absurd (congrArg Prod.fst h.symm) ex
        · exact h)
section
variable {M : Mem} {n r c o q : Nat} {s a b : Int} {c0 : Bool} {free fixed : List Int} {m : Nat} {row : List (Int × Int)}
/-- forgotten, then heard again -/
theorem back_ok {N E : Mem} {l : Int × Int} (h : RA N r c o s free fixed (cameOf m (row ++ [l])) ((row ++ [l]).map (·.1))) (hm : m = 2 ^ s.toNat) (hs0 : 0 ≤ s) (hs5 : s ≤ 5) (hr : RowOk m (row ++ [l])) (hl : row.length ≤ 64) :
    m_law_heard [.loc r, .int l.1, .int l.2] ((N.set o (.lst ((row.map (·.1)).map A.int))).set c (.lst (cameOf m row)) ++ E) = .ok (.str "good") (N ++ E) := by
  obtain ⟨q0, q1, hg⟩ := hr.inb l (by simp)
  have lc := at_lt h.gc
  have lo := at_lt h.go
  have hr' : RowOk m row := ⟨fun x hx => hr.inb x (List.mem_append_left _ hx), by
    have := hr.nd
    rw [List.map_append] at this
    exact (List.nodup_append.mp this).1⟩
  have hn : row.find? (fun x => x.1 == l.1) = none := by
    rw [List.find?_eq_none]
    intro x hx hc
    have e : x.1 = l.1 := by simpa using hc
    have := hr.nd
    rw [List.map_append, List.nodup_append] at this
    exact this.2.2 _ (List.mem_map.mpr ⟨x, hx, e⟩) _ (by simp) rfl
  have at_ := came_at hr' q0 q1
  rw [hn] at at_
  obtain ⟨N1, hN1⟩ : ∃ N1, N1 = (N.set o (.lst ((row.map (·.1)).map A.int))).set c (.lst (cameOf m row)) := ⟨_, rfl⟩
  rw [← hN1]
  have R1 : RA N1 r c o s free fixed (cameOf m row) (row.map (·.1)) := by
    rw [hN1]
    refine ⟨?_, ?_, ?_, h.n1, h.n2, h.n3⟩
    · rw [List.getElem?_set_ne (Ne.symm h.n1), List.getElem?_set_ne (Ne.symm h.n2)]; exact h.gr
    · rw [List.getElem?_set_self (by simpa using lc)]
    · rw [List.getElem?_set_ne h.n3, List.getElem?_set_self lo]
  have f := (R1.app (E := E)).hear_new hs0 hs5 q0 (by rw [← hm]; exact q1) hg (by rw [came_len, hm]) (came_cam m row) (by simp; omega) at_
  rw [heard_fine (isIns_of R1.app.gr) f]
  have ex := exit_set2 (M := N1 ++ E) (n := c) (n2 := o) (o := .lst ((cameOf m row).set l.1.toNat (.int l.2))) (o2 := .lst ((row.map (·.1) ++ [l.1]).map A.int)) (a := .str "good") (bnds_all fun a ha => by
    rcases List.mem_or_eq_of_mem_set ha with z | z
    · exact (came_cam m row a z).bnd
    · rw [z]; rfl) (bnds_ints _) rfl
  refine ex.trans ?_
  have e1 : (cameOf m row).set l.1.toNat (.int l.2) = cameOf m (row ++ [l]) := (came_snoc m row l).symm
  have e2 : row.map (·.1) ++ [l.1] = (row ++ [l]).map (·.1) := by simp
  have lc1 : c < N1.length := by rw [hN1]; simpa using lc
  have lo1 : o < (N1.set c (.lst (cameOf m (row ++ [l])))).length := by rw [hN1]; simpa using lo
  rw [e1, e2, List.set_append_left _ _ lc1, List.set_append_left _ _ lo1, hN1, List.set_set, List.set_comm _ _ h.n3, List.set_set, set_self h.go, set_self h.gc]
theorem right_ok (st : M[n]? = some (stMO a b c0)) (hs : StOk a b) (h : RA M r c o s free fixed (cameOf m row) (row.map (·.1))) (hm : m = 2 ^ s.toNat) (g : GC s free fixed) (hr : RowOk m row) (hne : row ≠ []) (hl : row.length ≤ 8) (hq : M[q]? = some (.lst (row.map prA))) (nc : n ≠ c) (no : n ≠ o) (qc : q ≠ c) (qo : q ≠ o) :
    ∃ (a' b' : Int) (c' : Bool), m_law_right [.loc n, .loc r, .int (m : Int), .loc q] M = .ok (.bl true) (M.set n (stMO a' b' c')) ∧ StOk a' b' := by
  have hs1 := g.s1
  have hs5 := g.s5
  have hs0 : 0 ≤ s := by omega
  have hm32 : m ≤ 32 := by rw [hm]; exact many_le hs0 hs5
  have hn := at_lt st
  have hcam := came_cam m row
  have hlen := came_len m row
  have nq : n ≠ q := fun e => by
    rw [e, hq] at st
    cases row with
    | nil => exact hne rfl
    | cons x _ => simp at st
  have nr : n ≠ r := fun e => by rw [e, h.gr] at st; cases st
  -- any state
  have RN : ∀ a b c0, RA (M.set n (stMO a b c0)) r c o s free fixed (cameOf m row) (row.map (·.1)) := fun a b c0 => by
    refine ⟨?_, ?_, ?_, h.n1, h.n2, h.n3⟩
    · rw [List.getElem?_set_ne nr]; exact h.gr
    · rw [List.getElem?_set_ne nc]; exact h.gc
    · rw [List.getElem?_set_ne no]; exact h.go
  have Q : ∀ a b c0, asL (M.set n (stMO a b c0)) (.loc q) = some (row.map prA) := fun a b c0 => asL_loc (by rw [List.getElem?_set_ne nq]; exact hq)
  have Q0 : asL M (.loc q) = some (row.map prA) := asL_loc hq
  have cm : ∀ a b c0, m_Receiver_came [.loc r] (M.set n (stMO a b c0)) = .ok (.lst (cameOf m row)) (M.set n (stMO a b c0)) := fun a b c0 => (RN a b c0).came_ok (by rw [hlen]; omega) hcam
  have lf : ∀ a b c0, m_Receiver_left [.loc r] (M.set n (stMO a b c0)) = .ok (leftA free fixed m (cameOf m row)) (M.set n (stMO a b c0)) := fun a b c0 => by rw [hm]; exact (hm ▸ RN a b c0).left_ok g (by rw [← hm]; exact hlen) (hm ▸ hcam)
  have kn : ∀ a b c0, m_Receiver_known [.loc r] (M.set n (stMO a b c0)) = .ok (.lst (knownF free fixed m (cameOf m row))) (M.set n (stMO a b c0)) := fun a b c0 => by rw [hm]; exact (hm ▸ RN a b c0).known_ok g (by rw [← hm]; exact hlen) (hm ▸ hcam)
  have M0 : M.set n (stMO a b c0) = M := set_self st
  have isr : ∀ a b c0, isInsOf 22 (M.set n (stMO a b c0)) (.loc r) = true := fun a b c0 => isIns_of (RN a b c0).gr
  -- the numbers that are drawn
  obtain ⟨d1, a1, b1, c1, t1, st1, d10, d11⟩ := take_ok (c := c0) (m := (row.length : Int)) hn hs (by have := List.length_pos_iff.mpr hne; omega) (by omega)
  obtain ⟨d2, a2, b2, c2, t2, st2, d20, d21⟩ := take_ok (c := c1) (m := 2) hn st1 (by decide) (by decide)
  obtain ⟨e, he⟩ : ∃ e, row[d1.toNat]? = some e := ⟨_, List.getElem?_eq_getElem (by omega)⟩
  have hemem := List.mem_of_getElem? he
  obtain ⟨p0, p1, hg⟩ := hr.inb e hemem
  have p1' : e.1 < ((2 ^ s.toNat : Nat) : Int) := by rw [← hm]; exact p1
  have xq : vIx (.loc q) (.int d1) (M.set n (stMO a1 b1 c1)) = .ok (prA e) (M.set n (stMO a1 b1 c1)) := vIx_of (Q _ _ _) d10 (by rw [List.getElem?_map, he]; rfl)
  have ce : (cameOf m row)[e.1.toNat]? = some (.int e.2) := by
    rw [came_at hr p0 p1]
    have hf : row.find? (fun q => q.1 == e.1) = some e := find_nd hr.nd hemem
    rw [hf]
  have hd2 : d2 = 0 ∨ d2 = 1 := by omega
  have lw : ∀ M, mkL true [.str "good", .str "clash"] M = .ok (.lst [.str "good", .str "clash"]) M := fun M => w_mkLt (by simp)
  have xw : ∀ M, vIx (.lst [.str "good", .str "clash"]) (.int d2) M = .ok (.str (if d2 = 0 then wGood else wClash)) M := fun M => by
    rcases hd2 with rfl | rfl
    · exact vIx_of (xs := [.str "good", .str "clash"]) rfl (by decide) rfl
    · exact vIx_of (xs := [.str "good", .str "clash"]) rfl (by decide) rfl
  obtain ⟨ah, hah⟩ : ∃ ah : A, ah = .lst [.lst (cameOf m row), leftA free fixed m (cameOf m row), .lst (knownF free fixed m (cameOf m row))] := ⟨_, rfl⟩
  have la : ∀ M, mkL true [.lst (cameOf m row), leftA free fixed m (cameOf m row), .lst (knownF free fixed m (cameOf m row))] M = .ok ah M := fun M => by rw [hah]; exact w_mkLt (by simp)
  have pa : pl 8 ah = true := by
    rw [hah, pl]
    simp only [pls, Bool.and_eq_true]
    exact ⟨cams_pl hcam, leftA_pl, cams_pl known_cam, trivial⟩
  have na : ∀ M, vNe ah ah M = .ok (.bl false) M := fun M => by rw [vNe_pl pa pa]; simp
  have xa : ∀ M, vIx ah (.int 0) M = .ok (.lst (cameOf m row)) M := fun M => by rw [hah]; exact vIx_of rfl (by decide) rfl
  obtain ⟨g1, w1, i1, T1⟩ := right_1 (M := M.set n (stMO a2 b2 c2)) (r0 := some (.loc n)) (r1 := some (.loc r)) (r2 := some (.int (m : Int))) (r3 := some (.loc q)) (r4 := some ah) (x8 := none) (r := r) (c := c) (o := o) (free := free) (fixed := fixed) (order := row.map (·.1)) hs0 hs5 p0 p1' hg hd2 ce
  obtain ⟨y2, w2, a3, b3, c3, i2, st3, T2⟩ := right_2 (r1 := some (.loc r)) (r2 := some (.int (m : Int))) (r3 := some (.loc q)) (r4 := some ah) (x8 := none) (c0 := c2) hn st2 hs0 hs5 p0 p1' T1
  obtain ⟨x3, w3, a4, b4, c4, i3, st4, T3⟩ := right_3 (r1 := some (.loc r)) (r3 := some (.loc q)) (r4 := some ah) (x8 := none) (c0 := c3) (m := (m : Int)) (by rw [hm]) (by omega) hn st3 hs0 hs5 T2
  have hd := T3.2 _ (RN a4 b4 c4)
  have i4 : i_law_right_4 [some (.loc n), some (.loc r), some (.int (m : Int)), some (.loc q), some ah, some x3, some y2, some (.str w3), none] (M.set n (stMO a4 b4 c4)) = .nx [some (.loc n), some (.loc r), some (.int (m : Int)), some (.loc q), some ah, some x3, some y2, some (.str w3), none] (M.set n (stMO a4 b4 c4)) := by
    simp [i_law_right_4, hd, str_ne T3.1.ok]
  have i5 : i_law_right_5 [some (.loc n), some (.loc r), some (.int (m : Int)), some (.loc q), some ah, some x3, some y2, some (.str w3), none] (M.set n (stMO a4 b4 c4)) = .nx [some (.loc n), some (.loc r), some (.int (m : Int)), some (.loc q), some ah, some x3, some y2, some (.str w3), none] (M.set n (stMO a4 b4 c4)) := by
    simp [i_law_right_5, isr, cm, lf, kn, la, na]
  -- the last one
  obtain ⟨row', l, rfl⟩ : ∃ row' l, row = row' ++ [l] := ⟨row.dropLast, row.getLast hne, (List.dropLast_concat_getLast hne).symm⟩
  obtain ⟨l0, l1, _⟩ := hr.inb l (by simp)
  have xl : vIx (.loc q) (.int (-1)) (M.set n (stMO a4 b4 c4)) = .ok (prA l) (M.set n (stMO a4 b4 c4)) := vIx_last (xs := row'.map prA) ((Q a4 b4 c4).trans (by simp))
  have f := RA.forget_ok (order := row'.map (·.1)) (p := l.1) (by simpa using RN a4 b4 c4) l0 (by rw [hlen]; exact l1) hcam
  rw [came_back hr] at f
  have bk := fun E => back_ok (E := E) (RN a4 b4 c4) hm hs0 hs5 hr (by simp at hl; omega)
  have xl0 : ∀ M, vIx (prA l) (.int 0) M = .ok (.int l.1) M := fun M => vIx_of (xs := [.int l.1, .int l.2]) rfl (by decide) rfl
  have xl1 : ∀ M, vIx (prA l) (.int 1) M = .ok (.int l.2) M := fun M => vIx_of (xs := [.int l.1, .int l.2]) rfl (by decide) rfl
  obtain ⟨N, hN⟩ : ∃ N, N = M.set n (stMO a4 b4 c4) := ⟨_, rfl⟩
  have hR := RN a4 b4 c4
  have isN := isr a4 b4 c4
  have lc : c < N.length := by rw [hN]; exact at_lt hR.gc
  have lo : o < N.length := by rw [hN]; exact at_lt hR.go
  rw [← hN] at f bk xl i3 i4 i5 hR isN
  obtain ⟨N1, hN1⟩ : ∃ N1, N1 = (N.set o (.lst ((row'.map (·.1)).map A.int))).set c (.lst (cameOf m row')) := ⟨_, rfl⟩
  rw [← hN1] at f bk
  have R1 : RA N1 r c o s free fixed (cameOf m row') (row'.map (·.1)) := by
    rw [hN1]
    refine ⟨?_, ?_, ?_, h.n1, h.n2, h.n3⟩
    · rw [List.getElem?_set_ne (Ne.symm h.n1), List.getElem?_set_ne (Ne.symm h.n2)]; exact hR.gr
    · rw [List.getElem?_set_self (by simpa using lc)]
    · rw [List.getElem?_set_ne h.n3, List.getElem?_set_self lo]
  have N1l : N1.length = N.length := by rw [hN1]; simp
  have vl : vList false [.lst (cameOf m (row' ++ [l]))] N1 = .ok (.loc N1.length) (N1 ++ [.lst (cameOf m (row' ++ [l]))]) := w_mkLf (by rw [came_len]; omega)
  have sx : setIx (.loc N1.length) (.int l.1) .non (N1 ++ [.lst (cameOf m (row' ++ [l]))]) = some (N1 ++ [.lst (cameOf m row')]) := by
    rw [setIx_of (xs := cameOf m (row' ++ [l])) (by simp) l0 (by rw [came_len]; exact l1), came_back hr]
    simp
  have cm2 : m_Receiver_came [.loc r] (N1 ++ [.lst (cameOf m row')]) = .ok (.lst (cameOf m row')) (N1 ++ [.lst (cameOf m row')]) := (R1.app).came_ok (by rw [came_len]; omega) (came_cam m row')
  have isr1 : isInsOf 22 (N1 ++ [.lst (cameOf m row')]) (.loc r) = true := isIns_of R1.app.gr
  have plc : pl 8 (.lst (cameOf m row')) = true := cams_pl (came_cam m row')
  have eq_ : vEq (.lst (cameOf m row')) (.loc N1.length) (N1 ++ [.lst (cameOf m row')]) = .ok (.bl true) (N1 ++ [.lst (cameOf m row')]) := by
    rw [vEq_dat (a' := .lst (cameOf m row')) (b' := .lst (cameOf m row')) (datC_pl _ plc) ((datC_loc (by simp)).trans (datC_pl _ plc)) plc plc]
    simp
  have sg : ∀ M, vEq (.str "good") (.str "good") M = .ok (.bl true) M := fun M => str_same ok_good
  have fin_ : AL.exit M (.ok (.bl true) (N ++ [.lst (cameOf m row')])) = .ok (.bl true) N := by
    rw [hN, exit_ok (fun i hi => ?_) rfl, List.take_append_of_le_length (by simp), List.take_of_length_le (by simp)]
    rw [List.getElem?_append_left (by simpa using hi)]
    by_cases e : i = n
    · subst e
      exact .inr ⟨_, List.getElem?_set_self hi, rfl⟩
    · exact .inl (List.getElem?_set_ne (Ne.symm e))
  refine ⟨a4, b4, c4, ?_, st4⟩
  rw [show m_law_right [.loc n, .loc r, .int (m : Int), .loc q] M = AL.exit M (fin (s_law_right (start0 9 [.loc n, .loc r, .int (m : Int), .loc q]) M)) from def_of rfl, ← hN, ← fin_]
  congr 1
  have cm0 := cm a b c0
  have lf0 := lf a b c0
  have kn0 := kn a b c0
  have is0 := isr a b c0
  rw [M0] at cm0 lf0 kn0 is0 t1
  have bk1 := bk [.lst (cameOf m row')]
  have len0 : vLen [.loc q] M = .ok (.int (((row' ++ [l]).length : Nat) : Int)) M := by simp [vLen, asS, Q0]
  generalize ((row' ++ [l]).length : Int) = ln at len0 t1
  have asg : (gTp 2 (gsCons (gNm 5) (gsCons (gNm 6) (gsNil)))) (prA e) [some (.loc n), some (.loc r), some (.int (m : Int)), some (.loc q), some ah, none, none, none, none] (M.set n (stMO a1 b1 c1)) = some ([some (.loc n), some (.loc r), some (.int (m : Int)), some (.loc q), some ah, some (.int e.1), some (.int e.2), none, none], M.set n (stMO a1 b1 c1)) := by simp
  simp only [s_law_right, start0, v_seq]
  simp [cm0, lf0, kn0, is0, la, len0, t1, xq, t2, lw, xw, i1, i2, i3, i4, i5, xl, isN, f, xa, vl, xl0, xl1, sx, cm2, isr1, eq_, bk1, sg, fin]
end
end G

/-! E_k81: the law's loops. -/
namespace G
open PySem PySem.Spec L2 AL
/-- what a turn holds from place L on: state, receiver, its two lists, the pairs heard -/
structure S81 (L : Nat) (s : Int) (free fixed : List Int) (m : Nat) (row : List (Int × Int)) (M : Mem) : Prop where
  gs : ∃ a b c0, M[L]? = some (stMO a b c0) ∧ StOk a b
  gR : RA M (L + 1) (L + 2) (L + 3) s free fixed (cameOf m row) (row.map (·.1))
  gq : M[L + 4]? = some (.lst (row.map prA))
  ok : RowOk m row
section
variable {M : Mem} {L m : Nat} {s : Int} {free fixed : List Int} {row : List (Int × Int)}
theorem S81.st (h : S81 L s free fixed m row M) {a b : Int} {c0 : Bool} (hs : StOk a b) : S81 L s free fixed m row (M.set L (stMO a b c0)) := by
  refine ⟨⟨a, b, c0, List.getElem?_set_self (by obtain ⟨_, _, _, h, _⟩ := h.gs; exact at_lt h), hs⟩, ⟨?_, ?_, ?_, h.gR.n1, h.gR.n2, h.gR.n3⟩, ?_, h.ok⟩
  · rw [List.getElem?_set_ne (by omega)]; exact h.gR.gr
  · rw [List.getElem?_set_ne (by omega)]; exact h.gR.gc
  · rw [List.getElem?_set_ne (by omega)]; exact h.gR.go
  · rw [List.getElem?_set_ne (by omega)]; exact h.gq
theorem S81.take (h : S81 L s free fixed m row M) {k : Int} (k0 : 0 < k) (k1 : k < 2 ^ 60) : ∃ d M', m_law_take [.loc L, .int k] M = .ok (.int d) M' ∧ S81 L s free fixed m row M' ∧ 0 ≤ d ∧ d < k := by
  obtain ⟨a, b, c0, g, hs⟩ := h.gs
  obtain ⟨d, a', b', c', e, hs', d0, d1⟩ := take_at g hs k0 k1
  exact ⟨d, _, e, h.st hs', d0, d1⟩
theorem c1_ok {r0 r1 r2 r3 r4 r5 r7 r8 r9 r10 : Option A} (hl : row.length ≤ 64) (hq : M[L + 4]? = some (.lst (row.map prA))) : c_law_1 [r0, r1, r2, r3, r4, r5, some (.loc (L + 4)), r7, r8, r9, r10] M = .ok (.lst ((row.map (·.1)).map A.int)) M := by
  unfold c_law_1
  have hi : (AL.iLst (eVar 6)) [r0, r1, r2, r3, r4, r5, some (.loc (L + 4)), r7, r8, r9, r10] M = .ok ⟨row.map prA, [(.loc (L + 4), row.map prA)]⟩ M := by
    simp [AL.iLst, asL_loc hq]
  rw [v_lc, hi, r_ok]
  simp only
  rw [lcGo_map (fun x => match x with | .tup [y, _] => y | _ => .non) (by show (row.map prA).length ≤ 4096; simp; omega) (by intro p hp; rw [List.mem_singleton.mp hp]; exact asL_loc hq) (fun x hx => by
    obtain ⟨e, _, rfl⟩ := List.mem_map.mp (show x ∈ row.map prA from hx)
    refine ⟨_, rfl, rfl, ?_⟩
    have x0 : ∀ M, vIx (prA e) (.int 0) M = .ok (.int e.1) M := fun M => vIx_of (xs := [.int e.1, .int e.2]) rfl (by decide) rfl
    simp [ce_law_1, wipeA, x0])]
  rw [r_ok]
  show mkL true (List.map _ (row.map prA)) M = _
  rw [w_mkLt (by simp; omega), List.map_map, List.map_map]
  rfl
/-- one more spot is drawn, and heard if it is new -/
theorem turn3 {r0 r1 r7 r8 r9 r10 : Option A} (h : S81 L s free fixed m row M) (g : GC s free fixed) (hm : m = 2 ^ s.toNat) (hl : row.length ≤ 8) :
    ∃ (x8 : A) (row' : List (Int × Int)) (M' : Mem), fb_law_3 [r0, r1, some (.loc L), some (codeA s free fixed), some (.int (m : Int)), some (.loc (L + 1)), some (.loc (L + 4)), r7, r8, r9, r10] M = .nx [r0, r1, some (.loc L), some (codeA s free fixed), some (.int (m : Int)), some (.loc (L + 1)), some (.loc (L + 4)), r7, some x8, r9, r10] M' ∧ S81 L s free fixed m row' M' ∧ row'.length ≤ row.length + 1 ∧ 1 ≤ row'.length := by
  have hs1 := g.s1
  have hs5 := g.s5
  have hs0 : 0 ≤ s := by omega
  have hm32 : m ≤ 32 := by rw [hm]; exact many_le hs0 hs5
  have hm0 : 0 < m := by rw [hm]; exact many_pos s
  obtain ⟨p, M1, t1, h1, p0, p1⟩ := h.take (k := (m : Int)) (by omega) (by omega)
  have c1 := c1_ok (r0 := r0) (r1 := r1) (r2 := some (.loc L)) (r3 := some (codeA s free fixed)) (r4 := some (.int (m : Int))) (r5 := some (.loc (L + 1))) (r7 := r7) (r8 := some (.int p)) (r9 := r9) (r10 := r10) (by omega) h1.gq
  have inn : vIn true (.int p) (.lst ((row.map (·.1)).map A.int)) M1 = .ok (.bl (!decide (p ∈ row.map (·.1)))) M1 := vIn_ints (ns := row.map (·.1)) rfl
  generalize (row.map (·.1)).map A.int = HH at c1 inn
  by_cases hp : p ∈ row.map (·.1)
  · refine ⟨.int p, row, M1, ?_, h1, by omega, ?_⟩
    · simp only [hp, decide_true, Bool.not_true] at inn
      simp [fb_law_3, t1, i_law_2, c1, inn]
    · cases row with
      | nil => cases hp
      | cons _ _ => simp
  · simp only [hp, decide_false, Bool.not_false] at inn
    obtain ⟨d, M2, t2, h2, d0, d1⟩ := h1.take (k := 2) (by decide) (by decide)
    have mt : ∀ M, mkT [.int p, .int d] M = .ok (prA (p, d)) M := fun M => w_mkT (by simp)
    have hn : row.find? (fun x => x.1 == p) = none := by
      rw [List.find?_eq_none]
      intro x hx hc
      exact hp (List.mem_map.mpr ⟨x, hx, by simpa using hc⟩)
    have at_ := came_at h2.ok p0 p1
    rw [hn] at at_
    have lq := at_lt h2.gq
    obtain ⟨M3, hM3⟩ : ∃ M3, M3 = M2.set (L + 4) (.lst ((row ++ [(p, d)]).map prA)) := ⟨_, rfl⟩
    have ap : mAppend (.loc (L + 4)) [prA (p, d)] M2 = .ok .non M3 := by
      unfold mAppend
      rw [locL_loc h2.gq]
      simp only
      rw [if_pos (by rw [sizeLine_eq]; simp; omega), hM3]
      simp
    have R3 : RA M3 (L + 1) (L + 2) (L + 3) s free fixed (cameOf m row) (row.map (·.1)) := by
      rw [hM3]
      refine ⟨?_, ?_, ?_, h2.gR.n1, h2.gR.n2, h2.gR.n3⟩
      · rw [List.getElem?_set_ne (by omega)]; exact h2.gR.gr
      · rw [List.getElem?_set_ne (by omega)]; exact h2.gR.gc
      · rw [List.getElem?_set_ne (by omega)]; exact h2.gR.go
    have q3 : M3[L + 4]? = some (.lst ((row ++ [(p, d)]).map prA)) := by rw [hM3, List.getElem?_set_self lq]
    have aq : asL M1 (.loc (L + 4)) = some (row.map prA) := asL_loc h1.gq
    have xl : vIx (.loc (L + 4)) (.int (-1)) M3 = .ok (prA (p, d)) M3 := vIx_last (xs := row.map prA) ((asL_loc q3).trans (by simp))
    have xl0 : ∀ M, vIx (prA (p, d)) (.int 0) M = .ok (.int p) M := fun M => vIx_of (xs := [.int p, .int d]) rfl (by decide) rfl
    have xl1 : ∀ M, vIx (prA (p, d)) (.int 1) M = .ok (.int d) M := fun M => vIx_of (xs := [.int p, .int d]) rfl (by decide) rfl
    have f := R3.hear_new hs0 hs5 (p := p) (g := d) p0 (by rw [← hm]; exact p1) (by omega) (by rw [came_len, hm]) (came_cam m row) (by simp; omega) at_
    have isr : isInsOf 22 M3 (.loc (L + 1)) = true := isIns_of R3.gr
    have lc := at_lt R3.gc
    have lo := at_lt R3.go
    refine ⟨.int p, row ++ [(p, d)], (M3.set (L + 2) (.lst ((cameOf m row).set p.toNat (.int d)))).set (L + 3) (.lst ((row.map (·.1) ++ [p]).map A.int)), ?_, ⟨?_, ⟨?_, ?_, ?_, by omega, by omega, by omega⟩, ?_, ⟨fun x hx => ?_, ?_⟩⟩, by simp, by simp⟩
    · generalize hE : (M3.set (L + 2) (.lst ((cameOf m row).set p.toNat (.int d)))).set (L + 3) (.lst ((row.map (·.1) ++ [p]).map A.int)) = ME at f
      simp only [fb_law_3, i_law_2]
      generalize prA (p, d) = pd at mt ap xl xl0 xl1
      simp [t1, c1, inn, t2, mt, aq, ap, isr, xl, xl0, xl1, f]
    · obtain ⟨a, b, c0, e, hs⟩ := h2.gs
      exact ⟨a, b, c0, by rw [List.getElem?_set_ne (by omega), List.getElem?_set_ne (by omega), hM3, List.getElem?_set_ne (by omega)]; exact e, hs⟩
    · rw [List.getElem?_set_ne (by omega), List.getElem?_set_ne (by omega)]; exact R3.gr
    · rw [List.getElem?_set_ne (by omega), List.getElem?_set_self lc, came_snoc]
    · rw [List.getElem?_set_self (by simpa using lo)]
      simp
    · rw [List.getElem?_set_ne (by omega), List.getElem?_set_ne (by omega)]; exact q3
    · rcases List.mem_append.mp hx with hx | hx
      · exact h2.ok.inb x hx
      · rw [List.mem_singleton.mp hx]; exact ⟨p0, p1, by show d = 0 ∨ d = 1; omega⟩
    · rw [List.map_append, List.nodup_append]
      refine ⟨h2.ok.nd, by simp, fun x hx y hy e => ?_⟩
      have : y = p := by simpa using hy
      subst this
      subst e
      exact hp hx
/-- the first inner loop -/
theorem loop3 {r0 r1 r7 r8 r9 r10 : Option A} (h : S81 L s free fixed m [] M) (g : GC s free fixed) (hm : m = 2 ^ s.toNat) :
    ∃ (x7 x8 : Option A) (row' : List (Int × Int)) (M' : Mem), f_law_3 [r0, r1, some (.loc L), some (codeA s free fixed), some (.int (m : Int)), some (.loc (L + 1)), some (.loc (L + 4)), r7, r8, r9, r10] M = .nx [r0, r1, some (.loc L), some (codeA s free fixed), some (.int (m : Int)), some (.loc (L + 1)), some (.loc (L + 4)), x7, x8, r9, r10] M' ∧ S81 L s free fixed m row' M' ∧ row'.length ≤ 8 ∧ row' ≠ [] := by
  obtain ⟨d, M1, t1, h1, d0, d1⟩ := h.take (k := 4) (by decide) (by decide)
  have hr : (AL.iRng1 (e2 (vAdd true) (eC (.int 1)) (eA m_law_take (aCons (eVar 2) (aCons (eC (.int 4)) (aNil)))))) [r0, r1, some (.loc L), some (codeA s free fixed), some (.int (m : Int)), some (.loc (L + 1)), some (.loc (L + 4)), r7, r8, r9, r10] M = .ok ⟨(rg (1 + d.toNat)).map A.int, []⟩ M1 := by
    refine rng1_of (m := 1 + d.toNat) ?_ (by omega)
    have e : (1 : Int) + d = ((1 + d.toNat : Nat) : Int) := by omega
    rw [← e]
    simp [t1]
  have hf : f_law_3 [r0, r1, some (.loc L), some (codeA s free fixed), some (.int (m : Int)), some (.loc (L + 1)), some (.loc (L + 4)), r7, r8, r9, r10] M = forGo ⟨(rg (1 + d.toNat)).map A.int, []⟩ (gNm 7) fb_law_3 ((rg (1 + d.toNat)).map A.int) [r0, r1, some (.loc L), some (codeA s free fixed), some (.int (m : Int)), some (.loc (L + 1)), some (.loc (L + 4)), r7, r8, r9, r10] M1 := by
    unfold f_law_3
    rw [v_for, hr, fl_ok]
  obtain ⟨ro', M', e, x7, x8, row', rfl, h2, h3, h4⟩ := forGo_all (ai := ⟨(rg (1 + d.toNat)).map A.int, []⟩) (g := gNm 7) (b := fb_law_3)
    (fun k ro M => ∃ (x7 x8 : Option A) (row' : List (Int × Int)), ro = [r0, r1, some (.loc L), some (codeA s free fixed), some (.int (m : Int)), some (.loc (L + 1)), some (.loc (L + 4)), x7, x8, r9, r10] ∧ S81 L s free fixed m row' M ∧ row'.length ≤ k ∧ (1 ≤ k → 1 ≤ row'.length)) (fun _ _ _ _ _ p hp => nomatch hp)
    (fun k x ro M hx h => by
      obtain ⟨x7, x8, row', rfl, h2, h3, _⟩ := h
      have hk : k < 1 + d.toNat := by
        have := (List.getElem?_eq_some_iff.mp hx).1
        simpa [rg_len] using this
      obtain ⟨y8, row2, M2, e, h4, h5, h6⟩ := turn3 (r0 := r0) (r1 := r1) (r7 := some x) (r8 := x8) (r9 := r9) (r10 := r10) h2 g hm (by omega)
      exact ⟨_, _, _, _, rfl, .inl e, some x, some y8, row2, rfl, h4, by omega, fun _ => h6⟩)
    [r0, r1, some (.loc L), some (codeA s free fixed), some (.int (m : Int)), some (.loc (L + 1)), some (.loc (L + 4)), r7, r8, r9, r10] M1 ⟨r7, r8, [], rfl, h1, Nat.le_refl _, fun h => absurd h (by decide)⟩
  refine ⟨x7, x8, row', M', by rw [hf]; exact e, h2, ?_, fun e => ?_⟩
  · simp [rg_len] at h3
    omega
  · have := h4 (by simp [rg_len])
    rw [e] at this
    exact absurd this (by decide)
/-- three times right -/
theorem loop5 {r0 r1 r7 r8 r9 r10 : Option A} (h : S81 L s free fixed m row M) (g : GC s free fixed) (hm : m = 2 ^ s.toNat) (hl : row.length ≤ 8) (hne : row ≠ []) :
    ∃ (x7 : Option A) (M' : Mem), f_law_5 [r0, r1, some (.loc L), some (codeA s free fixed), some (.int (m : Int)), some (.loc (L + 1)), some (.loc (L + 4)), r7, r8, r9, r10] M = .nx [r0, r1, some (.loc L), some (codeA s free fixed), some (.int (m : Int)), some (.loc (L + 1)), some (.loc (L + 4)), x7, r8, r9, r10] M' ∧ S81 L s free fixed m row M' := by
  have hr : (AL.iRng1 (eC (.int 3))) [r0, r1, some (.loc L), some (codeA s free fixed), some (.int (m : Int)), some (.loc (L + 1)), some (.loc (L + 4)), r7, r8, r9, r10] M = .ok ⟨(rg 3).map A.int, []⟩ M := rng1_of (m := 3) rfl (by omega)
  have hf : f_law_5 [r0, r1, some (.loc L), some (codeA s free fixed), some (.int (m : Int)), some (.loc (L + 1)), some (.loc (L + 4)), r7, r8, r9, r10] M = forGo ⟨(rg 3).map A.int, []⟩ (gNm 7) fb_law_5 ((rg 3).map A.int) [r0, r1, some (.loc L), some (codeA s free fixed), some (.int (m : Int)), some (.loc (L + 1)), some (.loc (L + 4)), r7, r8, r9, r10] M := by
    unfold f_law_5
    rw [v_for, hr, fl_ok]
  obtain ⟨ro', M', e, x7, rfl, h2⟩ := forGo_all (ai := ⟨(rg 3).map A.int, []⟩) (g := gNm 7) (b := fb_law_5)
    (fun k ro M => ∃ (x7 : Option A), ro = [r0, r1, some (.loc L), some (codeA s free fixed), some (.int (m : Int)), some (.loc (L + 1)), some (.loc (L + 4)), x7, r8, r9, r10] ∧ S81 L s free fixed m row M) (fun _ _ _ _ _ p hp => nomatch hp)
    (fun k x ro M hx h => by
      obtain ⟨x7, rfl, h2⟩ := h
      obtain ⟨a, b, c0, st, hs⟩ := h2.gs
      obtain ⟨a', b', c', e, hs'⟩ := right_ok st hs h2.gR hm g h2.ok hne hl h2.gq (by omega) (by omega) (by omega) (by omega)
      refine ⟨_, _, _, M.set L (stMO a' b' c'), rfl, .inl ?_, some x, rfl, h2.st hs'⟩
      simp [fb_law_5, i_law_4, e])
    [r0, r1, some (.loc L), some (codeA s free fixed), some (.int (m : Int)), some (.loc (L + 1)), some (.loc (L + 4)), r7, r8, r9, r10] M ⟨r7, rfl, h⟩
  exact ⟨x7, M', by rw [hf]; exact e, h2⟩
/-- a bad code -/
theorem bad7 {r0 r1 r7 r8 r9 r10 : Option A} (h : S81 L s free fixed m row M) (g : GC s free fixed) :
    ∃ (x9 : Option A) (M' : Mem), i_law_7 [r0, r1, some (.loc L), some (codeA s free fixed), some (.int (m : Int)), some (.loc (L + 1)), some (.loc (L + 4)), r7, r8, r9, r10] M = .nx [r0, r1, some (.loc L), some (codeA s free fixed), some (.int (m : Int)), some (.loc (L + 1)), some (.loc (L + 4)), r7, r8, x9, r10] M' := by
  obtain ⟨d, M1, t1, h1, d0, d1⟩ := h.take (k := 4) (by decide) (by decide)
  have gl := g.le
  by_cases e : d = 0
  · subst e
    obtain ⟨d', M2, t2, h2, d0', d1'⟩ := h1.take (k := 10) (by decide) (by decide)
    obtain ⟨y, hy, h3⟩ := pick (M := M2) (xs := badL s free fixed) d0' d1'
    have mb := made_bad (M := M2) g hy
    have x0 : ∀ M, vIx (codeA s free fixed) (.int 0) M = .ok (.int s) M := fun M => vIx_of rfl (by decide) rfl
    have x1 : ∀ M, vIx (codeA s free fixed) (.int 1) M = .ok (.lst (free.map A.int)) M := fun M => vIx_of rfl (by decide) rfl
    have x2 : ∀ M, vIx (codeA s free fixed) (.int 2) M = .ok (.lst (fixed.map A.int)) M := fun M => vIx_of rfl (by decide) rfl
    have ct : ∀ M, vCut true (codeA s free fixed) none (some 2) M = .ok (.tup [.int s, .lst (free.map A.int)]) M := fun M => by
      unfold vCut
      simp only
      rw [if_neg (by simp [HT.sIx])]
      rw [show cutA [A.int s, .lst (free.map A.int), .lst (fixed.map A.int)] none (some 2) = [A.int s, .lst (free.map A.int)] from rfl]
      exact w_mkT (by simp)
    have ad : ∀ M, vAdd true (.lst (fixed.map A.int)) (.lst [.int 0]) M = .ok (.lst ((fixed ++ [0]).map A.int)) M := fun M => by
      show mkL true (fixed.map A.int ++ [.int 0]) M = _
      rw [w_mkLt (by simp; omega)]
      simp
    have ml : ∀ xs M, xs.length ≤ 64 → mkL true xs M = .ok (.lst xs) M := fun xs M h => w_mkLt (by omega)
    have mt : ∀ xs M, xs.length ≤ 64 → mkT xs M = .ok (.tup xs) M := fun xs M h => w_mkT h
    have ad2 : ∀ (xs ys : List A) M, xs.length + ys.length ≤ 64 → vAdd true (.lst xs) (.lst ys) M = .ok (.lst (xs ++ ys)) M := fun xs ys M h => by
      show mkL true (xs ++ ys) M = _
      exact w_mkLt (by simp; omega)
    have sn : ∀ M, vNe (.str "code") (.str "code") M = .ok (.bl false) M := fun M => str_ne (by decide +kernel)
    refine ⟨some (.lst (badL s free fixed)), M2, ?_⟩
    unfold badL at h3 ⊢
    generalize codeA s free fixed = cod at x0 x1 x2 ct ⊢
    generalize (fixed ++ [0]).map A.int = fx at ad h3 ⊢
    generalize free.map A.int = fr at x1 ct h3 ⊢
    generalize fixed.map A.int = fi at x2 ad h3 ⊢
    simp [i_law_7, i_law_6, t1, x0, x1, x2, ct, ml, mt, ad, ad2, t2, h3, mb, sn]
  · exact ⟨r9, M1, by simp [i_law_7, t1, e]⟩
end
theorem law_end (ns : List Int) (hns : ns.length ≤ 63) : ∃ M', m_law [scr ns] [] = .ok (.bl true) M' := by
  rw [show m_law [scr ns] [] = AL.exit [] (fin (s_law (start0 11 [scr ns]) [])) from def_of rfl]
  obtain ⟨K, hK⟩ : ∃ K : Int, K = (if (if (ns.length : Int) < 40 then (ns.length : Int) else 40) > 1 then (if (ns.length : Int) < 40 then (ns.length : Int) else 40) else 1) := ⟨_, rfl⟩
  have hK2 : 1 ≤ K ∧ K ≤ 40 := by rw [hK]; split <;> split <;> omega
  have hr : (AL.iRng1 (eA (vI2 fun i j => if j > i then j else i) (aCons (eC (.int 1)) (aCons (eA (vI2 fun i j => if j < i then j else i) (aCons (eC (.int 40)) (aCons (eA (vLen) (aCons (eVar 0) (aNil))) (aNil)))) (aNil))))) [some (scr ns), none, none, none, none, none, none, none, none, none, none] [] = .ok ⟨(rg K.toNat).map A.int, []⟩ [] := by
    refine rng1_of (m := K.toNat) ?_ (by omega)
    have e : (K.toNat : Int) = K := by omega
    rw [e]
    simp only [v_C, r_ok, v_A, v_cons, v_nil, v_var, List.getElem?_cons_zero, vLen, asS, asL, List.length_map, w_I2, ← hK]
  have hf : f_law_8 [some (scr ns), none, none, none, none, none, none, none, none, none, none] [] = forGo ⟨(rg K.toNat).map A.int, []⟩ (gNm 1) fb_law_8 ((rg K.toNat).map A.int) [some (scr ns), none, none, none, none, none, none, none, none, none, none] [] := by
    unfold f_law_8
    rw [v_for, hr, fl_ok]
  obtain ⟨ro', M', e, _⟩ := forGo_all (ai := ⟨(rg K.toNat).map A.int, []⟩) (g := gNm 1) (b := fb_law_8)
    (fun k ro M => ∃ (x1 x2 x3 x4 x5 x6 x7 x8 x9 x10 : Option A), ro = [some (scr ns), x1, x2, x3, x4, x5, x6, x7, x8, x9, x10]) (fun _ _ _ _ _ p hp => nomatch hp)
    (fun k x ro M hx h => by
      obtain ⟨x1, x2, x3, x4, x5, x6, x7, x8, x9, x10, rfl⟩ := h
      rw [List.getElem?_map] at hx
      obtain ⟨i, hi, rfl⟩ := Option.map_eq_some_iff.mp hx
      obtain ⟨i0, i1⟩ := rg_mem (List.mem_of_getElem? hi)
      obtain ⟨a, b, c, st, b1⟩ := begun_ok (M := M) hns (k := i) i0 (by omega)
      obtain ⟨d, a2, b2, c2, t1, st2, d0, d5⟩ := take_at (M := M ++ [stMO a b c]) (n := M.length) (a := a) (b := b) (c := c) (m := 5) (by simp) st (by decide) (by decide)
      have t1' : m_law_take [.loc M.length, .int 5] (M ++ [stMO a b c]) = .ok (.int d) (M ++ [stMO a2 b2 c2]) := by rw [t1]; simp
      obtain ⟨free, fixed, a4, b4, c4, cd, st4, g⟩ := code_at (M := M ++ [stMO a2 b2 c2]) (n := M.length) (a := a2) (b := b2) (c := c2) (s := 1 + d) (by simp) st2 (by omega) (by omega)
      obtain ⟨s, hs⟩ : ∃ s, s = 1 + d := ⟨_, rfl⟩
      rw [← hs] at cd g
      have cd' : m_law_code [.loc M.length, .int s] (M ++ [stMO a2 b2 c2]) = .ok (codeA s free fixed) (M ++ [stMO a4 b4 c4]) := by rw [cd]; simp
      have gl := g.len
      obtain ⟨m, hm⟩ : ∃ m, m = 2 ^ s.toNat := ⟨_, rfl⟩
      have y1 : ∀ M, vIx (codeA s free fixed) (.int 1) M = .ok (.lst (free.map A.int)) M := fun M => vIx_of rfl (by decide) rfl
      have y2 : ∀ M, vIx (codeA s free fixed) (.int 2) M = .ok (.lst (fixed.map A.int)) M := fun M => vIx_of rfl (by decide) rfl
      have len : (free.length : Int) + fixed.length = m := by omega
      have mk := mk_ok (M := M ++ [stMO a4 b4 c4]) g
      have l1 : (M ++ [stMO a4 b4 c4]).length = M.length + 1 := by simp
      rw [l1, ← hm] at mk
      obtain ⟨M5, hM5⟩ : ∃ M5, M5 = M ++ [stMO a4 b4 c4] ++ [recMO s free fixed (M.length + 1 + 1) (M.length + 1 + 2), .lst (List.replicate m .non), .lst []] := ⟨_, rfl⟩
      rw [← hM5] at mk
      have l5 : M5.length = M.length + 4 := by rw [hM5]; simp
      have z : mkL false [] M5 = .ok (.loc (M.length + 4)) (M5 ++ [.lst []]) := by rw [← l5]; exact w_mkLf (by simp)
      have S0 : S81 M.length s free fixed m [] (M5 ++ [.lst []]) := by
        rw [hM5]
        have at_ : ∀ j (o : MO), [stMO a4 b4 c4, recMO s free fixed (M.length + 1 + 1) (M.length + 1 + 2), .lst (List.replicate m .non), .lst [], .lst []][j]? = some o → (M ++ [stMO a4 b4 c4] ++ [recMO s free fixed (M.length + 1 + 1) (M.length + 1 + 2), .lst (List.replicate m .non), .lst []] ++ [.lst []])[M.length + j]? = some o := fun j o h => by
          simp only [List.append_assoc, List.cons_append, List.nil_append]
          rw [List.getElem?_append_right (by omega), Nat.add_sub_cancel_left]
          exact h
        exact ⟨⟨a4, b4, c4, at_ 0 _ rfl, st4⟩, ⟨at_ 1 _ rfl, at_ 2 _ rfl, at_ 3 _ rfl, by omega, by omega, by omega⟩, at_ 4 _ rfl, ⟨by simp, by simp⟩⟩
      obtain ⟨z7, z8, row, M6, e3, S1, rl, rn⟩ := loop3 (r0 := some (scr ns)) (r1 := some (.int i)) (r7 := x7) (r8 := x8) (r9 := x9) (r10 := x10) S0 g hm
      obtain ⟨w7, M7, e5, S2⟩ := loop5 (r0 := some (scr ns)) (r1 := some (.int i)) (r7 := z7) (r8 := z8) (r9 := x9) (r10 := x10) S1 g hm rl rn
      obtain ⟨w9, M8, e7⟩ := bad7 (r0 := some (scr ns)) (r1 := some (.int i)) (r7 := w7) (r8 := z8) (r9 := x9) (r10 := x10) S2 g
      refine ⟨[some (scr ns), some (.int i), x2, x3, x4, x5, x6, x7, x8, x9, x10], M, [some (scr ns), some (.int i), some (.loc M.length), some (codeA s free fixed), some (.int (m : Int)), some (.loc (M.length + 1)), some (.loc (M.length + 4)), w7, z8, w9, x10], M8, rfl, .inl ?_, _, _, _, _, _, _, _, _, _, _, rfl⟩
      simp only [fb_law_8]
      simp [b1, t1', ← hs, cd', y1, y2, vLen, asS, asL, len, mk, z, e3, e5, e7])
    [some (scr ns), none, none, none, none, none, none, none, none, none, none] [] ⟨_, _, _, _, _, _, _, _, _, _, rfl⟩
  have hE : s_law (start0 11 [scr ns]) [] = .rt (.bl true) M' := by
    have hs : start0 11 [scr ns] = [some (scr ns), none, none, none, none, none, none, none, none, none, none] := rfl
    rw [hs, s_law, v_seq, hf, e]
    simp
  rw [hE]
  exact ⟨_, exit_ok (fun i hi => absurd hi (Nat.not_lt_zero i)) rfl⟩
end G

/-! the ties of the defs, the facts of the top (by gen.py) -/
namespace G
open PySem PySem.Spec L2 AL PyProof.Rows
def top (i : Nat) : Stmt := PySem.Challenge.pw_healhalves_k81_nothing_heard.main.body.getD i (.Pass ⟨0, 0, 0, 0⟩)
def d_is_whole : He.DefD := ⟨("is_whole", none), "is_whole", "is_whole", defArgs (top 12), defBody (top 12), defScope (top 12), [], []⟩
def d_is_sign : He.DefD := ⟨("is_sign", none), "is_sign", "is_sign", defArgs (top 13), defBody (top 13), defScope (top 13), [], []⟩
def d_is_signs : He.DefD := ⟨("is_signs", none), "is_signs", "is_signs", defArgs (top 14), defBody (top 14), defScope (top 14), [], []⟩
def d_sum_of : He.DefD := ⟨("sum_of", none), "sum_of", "sum_of", defArgs (top 15), defBody (top 15), defScope (top 15), [], []⟩
def d_look_at_place : He.DefD := ⟨("look_at_place", none), "look_at_place", "look_at_place", defArgs (top 18), defBody (top 18), defScope (top 18), [], []⟩
def d_comes_to : He.DefD := ⟨("comes_to", none), "comes_to", "comes_to", defArgs (top 19), defBody (top 19), defScope (top 19), [], []⟩
def d_is_rising : He.DefD := ⟨("is_rising", none), "is_rising", "is_rising", defArgs (top 21), defBody (top 21), defScope (top 21), [], []⟩
def d_is_code : He.DefD := ⟨("is_code", none), "is_code", "is_code", defArgs (top 23), defBody (top 23), defScope (top 23), [], []⟩
def d_look_at_code : He.DefD := ⟨("look_at_code", none), "look_at_code", "look_at_code", defArgs (top 24), defBody (top 24), defScope (top 24), [], []⟩
def d_signs_fixed : He.DefD := ⟨("signs_fixed", none), "signs_fixed", "signs_fixed", defArgs (top 25), defBody (top 25), defScope (top 25), [], []⟩
def d_Solving_init : He.DefD := ⟨("Solving", some "__init__"), "__init__", "Solving.__init__", defArgs (inClass (top 27) 0), defBody (inClass (top 27) 0), defScope (inClass (top 27) 0), [], []⟩
def d_Solving_lowered : He.DefD := ⟨("Solving", some "lowered"), "lowered", "Solving.lowered", defArgs (inClass (top 27) 1), defBody (inClass (top 27) 1), defScope (inClass (top 27) 1), [], []⟩
def d_Solving_put : He.DefD := ⟨("Solving", some "put"), "put", "Solving.put", defArgs (inClass (top 27) 2), defBody (inClass (top 27) 2), defScope (inClass (top 27) 2), [], []⟩
def d_Solving_rows : He.DefD := ⟨("Solving", some "rows"), "rows", "Solving.rows", defArgs (inClass (top 27) 3), defBody (inClass (top 27) 3), defScope (inClass (top 27) 3), [], []⟩
def d_spots_in : He.DefD := ⟨("spots_in", none), "spots_in", "spots_in", defArgs (top 28), defBody (top 28), defScope (top 28), [], []⟩
def d_unknowns_at : He.DefD := ⟨("unknowns_at", none), "unknowns_at", "unknowns_at", defArgs (top 30), defBody (top 30), defScope (top 30), [], []⟩
def d_left_at : He.DefD := ⟨("left_at", none), "left_at", "left_at", defArgs (top 31), defBody (top 31), defScope (top 31), [], []⟩
def d_solved : He.DefD := ⟨("solved", none), "solved", "solved", defArgs (top 32), defBody (top 32), defScope (top 32), [], []⟩
def d_many_open : He.DefD := ⟨("many_open", none), "many_open", "many_open", defArgs (top 33), defBody (top 33), defScope (top 33), [], []⟩
def d_data_by : He.DefD := ⟨("data_by", none), "data_by", "data_by", defArgs (top 34), defBody (top 34), defScope (top 34), [], []⟩
def d_Receiver_init : He.DefD := ⟨("Receiver", some "__init__"), "__init__", "Receiver.__init__", defArgs (inClass (top 36) 0), defBody (inClass (top 36) 0), defScope (inClass (top 36) 0), [], []⟩
def d_Receiver_hear : He.DefD := ⟨("Receiver", some "hear"), "hear", "Receiver.hear", defArgs (inClass (top 36) 1), defBody (inClass (top 36) 1), defScope (inClass (top 36) 1), [], []⟩
def d_Receiver_forget : He.DefD := ⟨("Receiver", some "forget"), "forget", "Receiver.forget", defArgs (inClass (top 36) 2), defBody (inClass (top 36) 2), defScope (inClass (top 36) 2), [], []⟩
def d_Receiver_came : He.DefD := ⟨("Receiver", some "came"), "came", "Receiver.came", defArgs (inClass (top 36) 3), defBody (inClass (top 36) 3), defScope (inClass (top 36) 3), [], []⟩
def d_Receiver_left : He.DefD := ⟨("Receiver", some "left"), "left", "Receiver.left", defArgs (inClass (top 36) 4), defBody (inClass (top 36) 4), defScope (inClass (top 36) 4), [], []⟩
def d_Receiver_known : He.DefD := ⟨("Receiver", some "known"), "known", "Receiver.known", defArgs (inClass (top 36) 5), defBody (inClass (top 36) 5), defScope (inClass (top 36) 5), [], []⟩
def d_law_begun : He.DefD := ⟨("_law_begun", none), "_law_begun", "_law_begun", defArgs (top 38), defBody (top 38), defScope (top 38), [], []⟩
def d_law_take : He.DefD := ⟨("_law_take", none), "_law_take", "_law_take", defArgs (top 39), defBody (top 39), defScope (top 39), [], []⟩
def d_law_code : He.DefD := ⟨("_law_code", none), "_law_code", "_law_code", defArgs (top 40), defBody (top 40), defScope (top 40), [], []⟩
def d_law_kind : He.DefD := ⟨("_law_kind", none), "_law_kind", "_law_kind", defArgs (top 43), defBody (top 43), defScope (top 43), [], []⟩
def d_law_made : He.DefD := ⟨("_law_made", none), "_law_made", "_law_made", defArgs (top 44), defBody (top 44), defScope (top 44), [], []⟩
def d_law_heard : He.DefD := ⟨("_law_heard", none), "_law_heard", "_law_heard", defArgs (top 45), defBody (top 45), defScope (top 45), [], []⟩
def d_law_right : He.DefD := ⟨("_law_right", none), "_law_right", "_law_right", defArgs (top 46), defBody (top 46), defScope (top 46), [], []⟩
def d_law : He.DefD := ⟨("law", none), "law", "law", defArgs (top 47), defBody (top 47), defScope (top 47), [], []⟩
def fn : List He.DefD := ([d_is_whole, d_is_sign, d_is_signs, d_sum_of, d_look_at_place, d_comes_to, d_is_rising, d_is_code, d_look_at_code, d_signs_fixed, d_Solving_init, d_Solving_lowered, d_Solving_put, d_Solving_rows, d_spots_in, d_unknowns_at, d_left_at, d_solved, d_many_open, d_data_by, d_Receiver_init, d_Receiver_hear, d_Receiver_forget, d_Receiver_came, d_Receiver_left] : List He.DefD) ++ ([d_Receiver_known, d_law_begun, d_law_take, d_law_code, d_law_kind, d_law_made, d_law_heard, d_law_right, d_law] : List He.DefD)
def fa : List He.Fa := ([.free "max", .free "int", .free "range", .glo "_law_take", .free "len", .free "isinstance", .free "bool", .glo "is_whole", .free "list", .free "all", .glo "is_sign", .free "tuple", .glo "MANY", .glo "is_rising", .glo "is_signs", .glo "is_code", .exc "NoCode", .glo "NoCode", .glo "look_at_code", .glo "Receiver", .cls "Receiver", .noat "Receiver" "kept_rows", .noat "Receiver" "kept_code", .noat "Receiver" "kept_came", .noat "Receiver" "kept_order"] : List He.Fa) ++ ([.noat "Receiver" "my_code", .noat "Receiver" "my_receiver", .noat "Receiver" "seats", .exc "NoPlace", .glo "NoPlace", .glo "look_at_place", .exc "NoSign", .glo "NoSign", .exc "Clash", .glo "Clash", .exc "NoDeed", .glo "NoDeed", .glo "Solving", .cls "Solving", .noat "Solving" "kept_rows", .noat "Solving" "kept_code", .noat "Solving" "kept_came", .noat "Solving" "kept_order", .noat "Solving" "my_code", .noat "Solving" "my_receiver", .noat "Solving" "seats", .meth "Solving" "lowered", .free "enumerate", .glo "comes_to", .free "sum"] : List He.Fa) ++ ([.glo "signs_fixed", .glo "sum_of", .mkr "Solving", .glo "unknowns_at", .meth "Solving" "put", .glo "spots_in", .glo "left_at", .meth "Solving" "rows", .glo "solved", .glo "many_open", .glo "data_by", .glo "NoSize", .glo "NoData", .glo "NoCame", .free "ValueError", .glo "HealError", .meth "Receiver" "hear", .glo "_law_kind", .meth "Receiver" "came", .meth "Receiver" "left", .meth "Receiver" "known", .glo "_law_heard", .meth "Receiver" "forget", .mkr "Receiver", .free "min"] : List He.Fa) ++ ([.glo "_law_begun", .glo "_law_code", .glo "_law_right", .glo "_law_made", .glo "law"] : List He.Fa)
def cks : List Ck := ([(fun K => He.tupB K "MANY" (([1, 2, 4, 8, 16, 32] : List Int).map He.Dv.int)), isxB [(0, false), (1, false), (3, false), (9, true), (10, false), (11, false), (15, false), (16, false), (17, false)] [(true, "NoCode", "")], isxB [(0, false), (1, false), (3, true), (9, false), (10, false), (11, false), (15, false), (16, false), (17, false)] [(true, "NoPlace", "")], isxB [(0, false), (1, false), (3, false), (9, false), (10, false), (11, false), (15, true), (16, false), (17, false)] [(true, "NoSign", "")], isxB [(0, false), (1, false), (3, false), (9, false), (10, false), (11, false), (15, false), (16, true), (17, false)] [(true, "Clash", "")], isxB [(0, false), (1, true), (3, false), (9, false), (10, true), (11, true), (15, false), (16, false), (17, false)] [(true, "NoCame", ""), (true, "NoData", ""), (true, "NoSize", "")], isxB [(0, true), (1, true), (3, true), (9, true), (10, true), (11, true), (15, true), (16, true), (17, true)] [(false, "", "ValueError")], exmB [(0, true), (1, true), (3, true), (9, true), (10, true), (11, true), (15, true), (16, true), (17, true)] (true, "HealError", "")] : List Ck)
def names : List Str := (["_wall", "__name__", "HealError", "NoSize", "NoPlace", "NoCode", "NoData", "NoCame", "NoSign", "Clash", "NoDeed", "is_whole", "is_sign", "is_signs", "sum_of", "MANY", "look_at_place", "comes_to", "is_rising", "is_code", "look_at_code", "signs_fixed", "Solving", "spots_in", "unknowns_at"] : List Str) ++ (["left_at", "solved", "many_open", "data_by", "Receiver", "_law_begun", "_law_take", "_law_code", "_law_signs_fixed", "_law_core_for", "_law_kind", "_law_made", "_law_heard", "_law_right"] : List Str)
section
variable {P : Program} {w : World} {K : PySem.W.Frag} {mg : Str → Option Value} {base : Heap}
theorem sc_law_begun : FnScope n_law_begun ["_law_script", "_law_k"] (defScope (top 38)) := ⟨rfl, rfl, rfl, by decide +kernel, rfl, by decide +kernel, by decide +kernel⟩
theorem ok_law_begun (T : Tp cks fa fn K mg) : ∃ fd, PySem.W.keepIn K (.ref (He.fAd K ("_law_begun", none))) = true ∧ Binds K fd ["_law_script", "_law_k"] [] ∧ FnOk P w K mg base (L2.CX P w) 1 (He.fAd K ("_law_begun", none)) fd ["_law_script", "_law_k"] (spF K mg 2 m_law_begun) := by
  obtain ⟨fd, D⟩ := T.def_ 26 (d := d_law_begun) rfl
  have D0 : FunD K "_law_begun" "_law_begun" (defArgs (top 38)) (defBody (top 38)) (defScope (top 38)) [] [] (He.fAd K ("_law_begun", none)) fd := D
  refine ⟨fd, D0.kp, D0.bindsN (fun _ _ _ _ _ _ us hl => match us, hl with | [_, _], _ => rfl), def_ok (N := n_law_begun) (ps := ["_law_script", "_law_k"]) (k := 0) (b := s_law_begun) D0 sc_law_begun fun cdv A outer s H E hr => ?_⟩
  exact ds_cons (ds_set (i := 2) sc_law_begun.nd (by rfl) (by first | exact Or.inl (by rfl) | exact Or.inr (by rfl)) (de_ix ix_seq sIx (de_op op_addAll (sAdd (fz := true)) (de_cut true (de_var 0) (do_some (de_var 1)) (do_some (de_op op_addAll (sAdd (fz := true)) (de_var 1) (de_int)))) (de_lst true (da_cons (de_int) (da_nil)))) (de_int))) (
    ds_cons (ds_set (i := 3) sc_law_begun.nd (by rfl) (by first | exact Or.inl (by rfl) | exact Or.inr (by rfl)) (de_callB (call_max2 (by rfl)) sI2 (by rfl) (T.free 0 (by rfl)) b_max (da_cons (de_var 2) (da_cons (de_op op_sub opI0_snd (de_un un_neg sNeg (de_int)) (de_var 2)) (da_nil))))) (
    ds_cons (ds_set (i := 4) sc_law_begun.nd (by rfl) (by first | exact Or.inl (by rfl) | exact Or.inr (by rfl)) (de_op op_mod sMod (de_op op_addAll (sAdd (fz := true)) (de_op op_addAll (sAdd (fz := true)) (de_op op_addAll (sAdd (fz := true)) (de_op op_mod sMod (de_var 3) (de_int)) (de_op op_mulAll (sMul (fz := true)) (de_int) (de_var 1))) (de_op op_mulAll (sMul (fz := true)) (de_op op_mulAll (sMul (fz := true)) (de_int) (de_var 1)) (de_var 1))) (de_int)) (de_int))) (
    ds_one (ds_ret (de_lst false (da_cons (de_var 3) (da_cons (de_var 4) (da_cons (de_cmp op_ge opIB_snd (de_var 3) (de_op op_pow sPow (de_int) (de_int)) (by rfl)) (da_nil)))))))))
theorem sc_law_take : FnScope n_law_take ["_law_state", "_law_many"] (defScope (top 39)) := ⟨rfl, rfl, rfl, by decide +kernel, rfl, by decide +kernel, by decide +kernel⟩
theorem ok_law_take (T : Tp cks fa fn K mg) : ∃ fd, PySem.W.keepIn K (.ref (He.fAd K ("_law_take", none))) = true ∧ Binds K fd ["_law_state", "_law_many"] [] ∧ FnOk P w K mg base (L2.CX P w) 1 (He.fAd K ("_law_take", none)) fd ["_law_state", "_law_many"] (spF K mg 2 m_law_take) := by
  obtain ⟨fd, D⟩ := T.def_ 27 (d := d_law_take) rfl
  have D0 : FunD K "_law_take" "_law_take" (defArgs (top 39)) (defBody (top 39)) (defScope (top 39)) [] [] (He.fAd K ("_law_take", none)) fd := D
  refine ⟨fd, D0.kp, D0.bindsN (fun _ _ _ _ _ _ us hl => match us, hl with | [_, _], _ => rfl), def_ok (N := n_law_take) (ps := ["_law_state", "_law_many"]) (k := 0) (b := s_law_take) D0 sc_law_take fun cdv A outer s H E hr => ?_⟩
  exact ds_cons (ds_if (dt_val (de_ix ix_seq sIx (de_var 0) (de_int))) (ds_cons (ds_set (i := 2) sc_law_take.nd (by rfl) (by first | exact Or.inl (by rfl) | exact Or.inr (by rfl)) (de_op op_mod sMod (de_ix ix_seq sIx (de_var 0) (de_int)) (de_var 1))) (
    ds_cons (ds_asg (de_op op_fdivW sFdiv (de_ix ix_seq sIx (de_var 0) (de_int)) (de_var 1)) (dg_ix (de_var 0) (de_int))) (
    ds_cons (ds_asg (de_cmp op_gt opIB_snd (de_ix ix_seq sIx (de_var 0) (de_int)) (de_int) (by rfl)) (dg_ix (de_var 0) (de_int))) (
    ds_one (ds_ret (de_var 2)))))) (ds_nil)) (
    ds_cons (ds_set (i := 3) sc_law_take.nd (by rfl) (by first | exact Or.inl (by rfl) | exact Or.inr (by rfl)) (de_int)) (
    ds_cons (ds_for (passes_of (by rfl)) (by rfl) (di_range1 (by rfl) (T.free 2 (by rfl)) (de_op op_addAll (sAdd (fz := true)) (de_int) (de_callT call_int1 sInt (by rfl) (T.free 1 (by rfl)) b_int (da_cons (de_cmp op_gt opIB_snd (de_var 1) (de_op op_pow sPow (de_int) (de_int)) (by rfl)) (da_nil))))) (dg_name sc_law_take.nd (by rfl) (by first | exact Or.inl (by rfl) | exact Or.inr (by rfl))) (ds_cons (ds_asg (de_op op_mod sMod (de_op op_addAll (sAdd (fz := true)) (de_op op_mulAll (sMul (fz := true)) (de_ix ix_seq sIx (de_var 0) (de_int)) (de_int)) (de_int)) (de_int)) (dg_ix (de_var 0) (de_int))) (
    ds_one (ds_set (i := 3) sc_law_take.nd (by rfl) (by first | exact Or.inl (by rfl) | exact Or.inr (by rfl)) (de_op op_addAll (sAdd (fz := true)) (de_op op_mulAll (sMul (fz := true)) (de_var 3) (de_int)) (de_op op_mod sMod (de_op op_mulAll (sMul (fz := true)) (de_ix ix_seq sIx (de_var 0) (de_int)) (de_ix ix_seq sIx (de_var 0) (de_int))) (de_int))))))) (
    ds_one (ds_ret (de_op op_mod sMod (de_op op_fdivW sFdiv (de_var 3) (de_int)) (de_var 1))))))
theorem sc_law_code : FnScope n_law_code ["_law_state", "_law_size"] (defScope (top 40)) := ⟨rfl, rfl, rfl, by decide +kernel, rfl, by decide +kernel, by decide +kernel⟩
theorem ok_law_code (T : Tp cks fa fn K mg) : ∃ fd, PySem.W.keepIn K (.ref (He.fAd K ("_law_code", none))) = true ∧ Binds K fd ["_law_state", "_law_size"] [] ∧ FnOk P w K mg base (L2.CX P w) 3 (He.fAd K ("_law_code", none)) fd ["_law_state", "_law_size"] (spF K mg 2 m_law_code) := by
  obtain ⟨fd, D⟩ := T.def_ 28 (d := d_law_code) rfl
  obtain ⟨_, k_law_take, b_law_take, h_law_take⟩ := ok_law_take (P := P) (w := w) (base := base) T
  have D0 : FunD K "_law_code" "_law_code" (defArgs (top 40)) (defBody (top 40)) (defScope (top 40)) [] [] (He.fAd K ("_law_code", none)) fd := D
  refine ⟨fd, D0.kp, D0.bindsN (fun _ _ _ _ _ _ us hl => match us, hl with | [_, _], _ => rfl), def_ok (N := n_law_code) (ps := ["_law_state", "_law_size"]) (k := 2) (b := s_law_code) D0 sc_law_code fun cdv A outer s H E hr => ?_⟩
  exact ds_cons (ds_set (i := 2) sc_law_code.nd (by rfl) (by first | exact Or.inl (by rfl) | exact Or.inr (by rfl)) (de_ix ix_seq sIx (de_lst true (da_cons (de_int) (da_cons (de_int) (da_cons (de_int) (da_cons (de_int) (da_cons (de_int) (da_cons (de_int) (da_nil)))))))) (de_var 1))) (
    ds_cons (ds_set (i := 3) sc_law_code.nd (by rfl) (by first | exact Or.inl (by rfl) | exact Or.inr (by rfl)) (de_call h_law_take (takes_of (by rfl) (by rfl) (by rfl) (by rfl)) (hr.mono (by decide)) (by rfl) (T.glo 3 (by rfl)) k_law_take b_law_take (da_cons (de_var 0) (da_cons (de_int) (da_nil))) (len_cons (len_cons len_nil)))) (
    ds_cons (ds_set (i := 4) sc_law_code.nd (by rfl) (by first | exact Or.inl (by rfl) | exact Or.inr (by rfl)) (de_lc true (c := .nm 6) (by rfl) sc_law_code.nd (di_range1 (by rfl) (T.free 2 (by rfl)) (de_var 2)) (blkOk_by (own := [("_law_place", 6)]) (by kernel_rfl)) (by decide) (fun _ _ _ _ _ => dgc_name sc_law_code.nd (by rfl) (by first | exact Or.inl (by rfl) | exact Or.inr (by rfl))) (fun _ _ _ _ _ => dts_one (dt_cmp (op_eqD (hu64 hr)) sEq (de_call h_law_take takes0 (hr.mono (by decide)) (by rfl) (T.glo 3 (by rfl)) k_law_take b_law_take (da_cons (de_var 0) (da_cons (de_ix ix_seq sIx (de_lst true (da_cons (de_int) (da_cons (de_int) (da_cons (de_int) (da_cons (de_int) (da_nil)))))) (de_var 3)) (da_nil))) (len_cons (len_cons len_nil))) (de_int) (by rfl))) (fun _ _ _ _ _ => de_var 6))) (
    ds_cons (ds_if (dt_cmp (op_eqD (hu64 hr)) sEq (de_var 3) (de_int) (by rfl)) (ds_one (ds_set (i := 4) sc_law_code.nd (by rfl) (by first | exact Or.inl (by rfl) | exact Or.inr (by rfl)) (de_lc true (c := .nm 6) (by rfl) sc_law_code.nd (di_range1 (by rfl) (T.free 2 (by rfl)) (de_var 2)) (blkOk_by (own := [("_law_place", 6)]) (by kernel_rfl)) (by decide) (fun _ _ _ _ _ => dgc_name sc_law_code.nd (by rfl) (by first | exact Or.inl (by rfl) | exact Or.inr (by rfl))) (fun _ _ _ _ _ => dts_one (dt_cmp op_notIn_seq (sIn (neg := true)) (de_var 6) (de_var 4) (by rfl))) (fun _ _ _ _ _ => de_var 6)))) (ds_nil)) (
    ds_cons (ds_if (dt_cmp (op_eqD (hu64 hr)) sEq (de_var 4) (de_lst true (da_nil)) (by rfl)) (ds_one (ds_set (i := 4) sc_law_code.nd (by rfl) (by first | exact Or.inl (by rfl) | exact Or.inr (by rfl)) (de_lst true (da_cons (de_call h_law_take (takes_of (by rfl) (by rfl) (by rfl) (by rfl)) (hr.mono (by decide)) (by rfl) (T.glo 3 (by rfl)) k_law_take b_law_take (da_cons (de_var 0) (da_cons (de_var 2) (da_nil))) (len_cons (len_cons len_nil))) (da_nil))))) (ds_nil)) (
    ds_cons (ds_setLc true (i := 5) (c := .nm 6) (by rfl) sc_law_code.nd (by rfl) (by rfl) (by rfl) (di_range1 (by rfl) (T.free 2 (by rfl)) (de_op op_sub opI0_snd (de_var 2) (de_callB call_lenA sLen (by rfl) (T.free 4 (by rfl)) b_len (da_cons (de_var 4) (da_nil))))) (blkOk_by (own := [("_law_place", 6)]) (by kernel_rfl)) (by decide) (fun _ _ _ _ _ => dgc_name sc_law_code.nd (by rfl) (by first | exact Or.inl (by rfl) | exact Or.inr (by rfl))) (fun _ _ _ _ _ => dts_nil) (fun _ _ _ _ _ => de_op op_mulAll (sMul (fz := true)) (de_call h_law_take takes0 (hr.mono (by decide)) (by rfl) (T.glo 3 (by rfl)) k_law_take b_law_take (da_cons (de_var 0) (da_cons (de_int) (da_nil))) (len_cons (len_cons len_nil))) (de_callT call_int1 sInt (by rfl) (T.free 1 (by rfl)) b_int (da_cons (de_cmp op_lt opIB_snd (de_var 3) (de_int) (by rfl)) (da_nil))))) (
    ds_one (ds_ret (de_tup (da_cons (de_var 1) (da_cons (de_var 4) (da_cons (de_var 5) (da_nil))))))))))))
theorem sc_is_whole : FnScope n_is_whole ["thing"] (defScope (top 12)) := ⟨rfl, rfl, rfl, by decide +kernel, rfl, by decide +kernel, by decide +kernel⟩
theorem ok_is_whole (T : Tp cks fa fn K mg) : ∃ fd, PySem.W.keepIn K (.ref (He.fAd K ("is_whole", none))) = true ∧ Binds K fd ["thing"] [] ∧ FnOk P w K mg base (L2.CX P w) 1 (He.fAd K ("is_whole", none)) fd ["thing"] (spF K mg 1 m_is_whole) := by
  obtain ⟨fd, D⟩ := T.def_ 0 (d := d_is_whole) rfl
  have D0 : FunD K "is_whole" "is_whole" (defArgs (top 12)) (defBody (top 12)) (defScope (top 12)) [] [] (He.fAd K ("is_whole", none)) fd := D
  refine ⟨fd, D0.kp, D0.bindsN (fun _ _ _ _ _ _ us hl => match us, hl with | [_], _ => rfl), def_ok (N := n_is_whole) (ps := ["thing"]) (k := 0) (b := s_is_whole) D0 sc_is_whole fun cdv A outer s H E hr => ?_⟩
  exact ds_one (ds_ret (de_and (de_isi (T := .int) (by rfl) (T.free 5 (by rfl)) (by rfl) (T.free 1 (by rfl)) b_int (by decide) (by decide) (de_var 0)) (de_one (de_not (de_isi (T := .bl) (by rfl) (T.free 5 (by rfl)) (by rfl) (T.free 6 (by rfl)) b_bool (by decide) (by decide) (de_var 0))))))
theorem sc_is_sign : FnScope n_is_sign ["thing"] (defScope (top 13)) := ⟨rfl, rfl, rfl, by decide +kernel, rfl, by decide +kernel, by decide +kernel⟩
theorem ok_is_sign (T : Tp cks fa fn K mg) : ∃ fd, PySem.W.keepIn K (.ref (He.fAd K ("is_sign", none))) = true ∧ Binds K fd ["thing"] [] ∧ FnOk P w K mg base (L2.CX P w) 3 (He.fAd K ("is_sign", none)) fd ["thing"] (spF K mg 1 m_is_sign) := by
  obtain ⟨fd, D⟩ := T.def_ 1 (d := d_is_sign) rfl
  obtain ⟨_, k_is_whole, b_is_whole, h_is_whole⟩ := ok_is_whole (P := P) (w := w) (base := base) T
  have D0 : FunD K "is_sign" "is_sign" (defArgs (top 13)) (defBody (top 13)) (defScope (top 13)) [] [] (He.fAd K ("is_sign", none)) fd := D
  refine ⟨fd, D0.kp, D0.bindsN (fun _ _ _ _ _ _ us hl => match us, hl with | [_], _ => rfl), def_ok (N := n_is_sign) (ps := ["thing"]) (k := 2) (b := s_is_sign) D0 sc_is_sign fun cdv A outer s H E hr => ?_⟩
  exact ds_one (ds_ret (de_and (de_call h_is_whole (takes_of (by rfl) (by rfl) (by rfl) (by rfl)) (hr.mono (by decide)) (by rfl) (T.glo 7 (by rfl)) k_is_whole b_is_whole (da_cons (de_var 0) (da_nil)) (len_cons len_nil)) (de_one (de_chain op_le opIB_snd op_le opIB_snd (de_int) (de_var 0) (de_int)))))
theorem sc_is_signs : FnScope n_is_signs ["thing"] (defScope (top 14)) := ⟨rfl, rfl, rfl, by decide +kernel, rfl, by decide +kernel, by decide +kernel⟩
theorem ok_is_signs (T : Tp cks fa fn K mg) : ∃ fd, PySem.W.keepIn K (.ref (He.fAd K ("is_signs", none))) = true ∧ Binds K fd ["thing"] [] ∧ FnOk P w K mg base (L2.CX P w) 5 (He.fAd K ("is_signs", none)) fd ["thing"] (spF K mg 1 m_is_signs) := by
  obtain ⟨fd, D⟩ := T.def_ 2 (d := d_is_signs) rfl
  obtain ⟨_, k_is_sign, b_is_sign, h_is_sign⟩ := ok_is_sign (P := P) (w := w) (base := base) T
  have D0 : FunD K "is_signs" "is_signs" (defArgs (top 14)) (defBody (top 14)) (defScope (top 14)) [] [] (He.fAd K ("is_signs", none)) fd := D
  refine ⟨fd, D0.kp, D0.bindsN (fun _ _ _ _ _ _ us hl => match us, hl with | [_], _ => rfl), def_ok (N := n_is_signs) (ps := ["thing"]) (k := 4) (b := s_is_signs) D0 sc_is_signs fun cdv A outer s H E hr => ?_⟩
  exact ds_one (ds_ret (de_and (de_isi (T := .lst) (by rfl) (T.free 5 (by rfl)) (by rfl) (T.free 8 (by rfl)) b_list (by decide) (by decide) (de_var 0)) (de_one (de_callB (cr_all (by rfl)) sAll (by rfl) (T.free 9 (by rfl)) b_all (da_cons (de_lc true (c := .nm 1) (by rfl) sc_is_signs.nd (di_list (de_var 0)) (blkOk_by (own := [("one", 1)]) (by kernel_rfl)) (by decide) (fun _ _ _ _ _ => dgc_name sc_is_signs.nd (by rfl) (by first | exact Or.inl (by rfl) | exact Or.inr (by rfl))) (fun _ _ _ _ _ => dts_nil) (fun _ _ _ _ _ => de_call h_is_sign takes0 (hr.mono (by decide)) (by rfl) (T.glo 10 (by rfl)) k_is_sign b_is_sign (da_cons (de_var 1) (da_nil)) (len_cons len_nil))) (da_nil))))))
theorem sc_is_rising : FnScope n_is_rising ["thing", "low", "high"] (defScope (top 21)) := ⟨rfl, rfl, rfl, by decide +kernel, rfl, by decide +kernel, by decide +kernel⟩
theorem ok_is_rising (T : Tp cks fa fn K mg) : ∃ fd, PySem.W.keepIn K (.ref (He.fAd K ("is_rising", none))) = true ∧ Binds K fd ["thing", "low", "high"] [] ∧ FnOk P w K mg base (L2.CX P w) 3 (He.fAd K ("is_rising", none)) fd ["thing", "low", "high"] (spF K mg 3 m_is_rising) := by
  obtain ⟨fd, D⟩ := T.def_ 6 (d := d_is_rising) rfl
  obtain ⟨_, k_is_whole, b_is_whole, h_is_whole⟩ := ok_is_whole (P := P) (w := w) (base := base) T
  have D0 : FunD K "is_rising" "is_rising" (defArgs (top 21)) (defBody (top 21)) (defScope (top 21)) [] [] (He.fAd K ("is_rising", none)) fd := D
  refine ⟨fd, D0.kp, D0.bindsN (fun _ _ _ _ _ _ us hl => match us, hl with | [_, _, _], _ => rfl), def_ok (N := n_is_rising) (ps := ["thing", "low", "high"]) (k := 2) (b := s_is_rising) D0 sc_is_rising fun cdv A outer s H E hr => ?_⟩
  exact ds_cons (ds_if (dt_not (dt_val (de_isi (T := .lst) (by rfl) (T.free 5 (by rfl)) (by rfl) (T.free 8 (by rfl)) b_list (by decide) (by decide) (de_var 0)))) (ds_one (ds_ret (de_bl))) (ds_nil)) (
    ds_cons (ds_set (i := 3) sc_is_rising.nd (by rfl) (by first | exact Or.inl (by rfl) | exact Or.inr (by rfl)) (de_op op_sub opI0_snd (de_var 1) (de_int))) (
    ds_cons (ds_for (passes_of (by rfl)) (by rfl) (di_list (de_var 0)) (dg_name sc_is_rising.nd (by rfl) (by first | exact Or.inl (by rfl) | exact Or.inr (by rfl))) (ds_cons (ds_if ((dw_or (dt_not (dt_val (de_call h_is_whole (takes_of (by rfl) (by rfl) (by rfl) (by rfl)) (hr.mono (by decide)) (by rfl) (T.glo 7 (by rfl)) k_is_whole b_is_whole (da_cons (de_var 4) (da_nil)) (len_cons len_nil)))) (dw_or1 (dt_not (dt_chain op_lt opIB_snd op_lt opIB_snd (de_var 3) (de_var 4) (de_var 2))))).pt) (ds_one (ds_ret (de_bl))) (ds_nil)) (
    ds_one (ds_set (i := 3) sc_is_rising.nd (by rfl) (by first | exact Or.inl (by rfl) | exact Or.inr (by rfl)) (de_var 4))))) (
    ds_one (ds_ret (de_bl)))))
theorem sc_is_code : FnScope n_is_code ["thing"] (defScope (top 23)) := ⟨rfl, rfl, rfl, by decide +kernel, rfl, by decide +kernel, by decide +kernel⟩
theorem ok_is_code (T : Tp cks fa fn K mg) : ∃ fd, PySem.W.keepIn K (.ref (He.fAd K ("is_code", none))) = true ∧ Binds K fd ["thing"] [] ∧ FnOk P w K mg base (L2.CX P w) 7 (He.fAd K ("is_code", none)) fd ["thing"] (spF K mg 1 m_is_code) := by
  obtain ⟨fd, D⟩ := T.def_ 7 (d := d_is_code) rfl
  obtain ⟨_, k_is_signs, b_is_signs, h_is_signs⟩ := ok_is_signs (P := P) (w := w) (base := base) T
  obtain ⟨_, k_is_whole, b_is_whole, h_is_whole⟩ := ok_is_whole (P := P) (w := w) (base := base) T
  obtain ⟨_, k_is_rising, b_is_rising, h_is_rising⟩ := ok_is_rising (P := P) (w := w) (base := base) T
  have D0 : FunD K "is_code" "is_code" (defArgs (top 23)) (defBody (top 23)) (defScope (top 23)) [] [] (He.fAd K ("is_code", none)) fd := D
  refine ⟨fd, D0.kp, D0.bindsN (fun _ _ _ _ _ _ us hl => match us, hl with | [_], _ => rfl), def_ok (N := n_is_code) (ps := ["thing"]) (k := 6) (b := s_is_code) D0 sc_is_code fun cdv A outer s H E hr => ?_⟩
  exact ds_cons (ds_if ((dw_or (dt_not (dt_val (de_isi (T := .tup) (by rfl) (T.free 5 (by rfl)) (by rfl) (T.free 11 (by rfl)) b_tuple (by decide) (by decide) (de_var 0)))) (dw_or (dt_cmp (op_neD (hu64 hr)) sNe (de_callB call_lenA sLen (by rfl) (T.free 4 (by rfl)) b_len (da_cons (de_var 0) (da_nil))) (de_int) (by rfl)) (dw_or (dt_not (dt_val (de_call h_is_whole (takes_of (by rfl) (by rfl) (by rfl) (by rfl)) (hr.mono (by decide)) (by rfl) (T.glo 7 (by rfl)) k_is_whole b_is_whole (da_cons (de_ix ix_seq sIx (de_var 0) (de_int)) (da_nil)) (len_cons len_nil)))) (dw_or1 (dt_not (dt_chain op_le opIB_snd op_le opIB_snd (de_int) (de_ix ix_seq sIx (de_var 0) (de_int)) (de_int))))))).pt) (ds_one (ds_ret (de_bl))) (ds_nil)) (
    ds_cons (ds_set (i := 1) sc_is_code.nd (by rfl) (by first | exact Or.inl (by rfl) | exact Or.inr (by rfl)) (de_ix ix_seq sIx (de_con (by rfl) (T.glo 12 (by rfl)) (by rfl) (rp_tup (T.ck 0 (by rfl)))) (de_ix ix_seq sIx (de_var 0) (de_int)))) (
    ds_cons (ds_if ((dw_or (dt_not (dt_val (de_call h_is_rising (takes_of (by rfl) (by rfl) (by rfl) (by rfl)) (hr.mono (by decide)) (by rfl) (T.glo 13 (by rfl)) k_is_rising b_is_rising (da_cons (de_ix ix_seq sIx (de_var 0) (de_int)) (da_cons (de_int) (da_cons (de_var 1) (da_nil)))) (len_cons (len_cons (len_cons len_nil)))))) (dw_or1 (dt_cmp (op_eqD (hu64 hr)) sEq (de_callB call_lenA sLen (by rfl) (T.free 4 (by rfl)) b_len (da_cons (de_ix ix_seq sIx (de_var 0) (de_int)) (da_nil))) (de_int) (by rfl)))).pt) (ds_one (ds_ret (de_bl))) (ds_nil)) (
    ds_one (ds_ret (de_and (de_call h_is_signs (takes_of (by rfl) (by rfl) (by rfl) (by rfl)) (hr.mono (by decide)) (by rfl) (T.glo 14 (by rfl)) k_is_signs b_is_signs (da_cons (de_ix ix_seq sIx (de_var 0) (de_int)) (da_nil)) (len_cons len_nil)) (de_one (de_cmp (op_eqD (hu64 hr)) sEq (de_op op_addAll (sAdd (fz := true)) (de_callB call_lenA sLen (by rfl) (T.free 4 (by rfl)) b_len (da_cons (de_ix ix_seq sIx (de_var 0) (de_int)) (da_nil))) (de_callB call_lenA sLen (by rfl) (T.free 4 (by rfl)) b_len (da_cons (de_ix ix_seq sIx (de_var 0) (de_int)) (da_nil)))) (de_var 1) (by rfl))))))))
theorem sc_look_at_code : FnScope n_look_at_code ["code"] (defScope (top 24)) := ⟨rfl, rfl, rfl, by decide +kernel, rfl, by decide +kernel, by decide +kernel⟩
theorem ok_look_at_code (T : Tp cks fa fn K mg) : ∃ fd, PySem.W.keepIn K (.ref (He.fAd K ("look_at_code", none))) = true ∧ Binds K fd ["code"] [] ∧ FnOk P w K mg base (L2.CX P w) 9 (He.fAd K ("look_at_code", none)) fd ["code"] (spF K mg 1 m_look_at_code) := by
  obtain ⟨fd, D⟩ := T.def_ 8 (d := d_look_at_code) rfl
  obtain ⟨_, k_is_code, b_is_code, h_is_code⟩ := ok_is_code (P := P) (w := w) (base := base) T
  have D0 : FunD K "look_at_code" "look_at_code" (defArgs (top 24)) (defBody (top 24)) (defScope (top 24)) [] [] (He.fAd K ("look_at_code", none)) fd := D
  refine ⟨fd, D0.kp, D0.bindsN (fun _ _ _ _ _ _ us hl => match us, hl with | [_], _ => rfl), def_ok (N := n_look_at_code) (ps := ["code"]) (k := 8) (b := s_look_at_code) D0 sc_look_at_code fun cdv A outer s H E hr => ?_⟩
  exact ds_one (ds_if (dt_not (dt_val (de_call h_is_code (takes_of (by rfl) (by rfl) (by rfl) (by rfl)) (hr.mono (by decide)) (by rfl) (T.glo 15 (by rfl)) k_is_code b_is_code (da_cons (de_var 0) (da_nil)) (len_cons len_nil)))) (ds_one (ds_raise (c := 9) (by rfl) (takes_of (by rfl) (by rfl) (by rfl) (by rfl)) (by rfl) (He.exc_ok (T.fact 16 (by rfl))).1 (T.glo 17 (by rfl)) (He.exc_ok (T.fact 16 (by rfl))).2.1 (raises_own (He.exc_ok (T.fact 16 (by rfl))).2.2.1 (He.exc_ok (T.fact 16 (by rfl))).2.2.2) (by rfl))) (ds_nil))
theorem sc_Receiver_init : FnScope n_Receiver_init ["self", "code"] (defScope (inClass (top 36) 0)) := ⟨rfl, rfl, rfl, by decide +kernel, rfl, by decide +kernel, by decide +kernel⟩
theorem ok_Receiver_init (T : Tp cks fa fn K mg) : ∃ fd, PySem.W.keepIn K (.ref (He.fAd K ("Receiver", some "__init__"))) = true ∧ Binds K fd ["self", "code"] [] ∧ FnOk P w K mg base (L2.CX P w) 11 (He.fAd K ("Receiver", some "__init__")) fd ["self", "code"] (spF K mg 2 m_Receiver_init) := by
  obtain ⟨fd, D⟩ := T.def_ 20 (d := d_Receiver_init) rfl
  obtain ⟨_, k_look_at_code, b_look_at_code, h_look_at_code⟩ := ok_look_at_code (P := P) (w := w) (base := base) T
  have D0 : FunD K "__init__" "Receiver.__init__" (defArgs (inClass (top 36) 0)) (defBody (inClass (top 36) 0)) (defScope (inClass (top 36) 0)) [] [] (He.fAd K ("Receiver", some "__init__")) fd := D
  refine ⟨fd, D0.kp, D0.bindsN (fun _ _ _ _ _ _ us hl => match us, hl with | [_, _], _ => rfl), def_ok (N := n_Receiver_init) (ps := ["self", "code"]) (k := 10) (b := s_Receiver_init) D0 sc_Receiver_init fun cdv A outer s H E hr => ?_⟩
  exact ds_cons (ds_expr (de_call h_look_at_code (takes_of (by rfl) (by rfl) (by rfl) (by rfl)) (hr.mono (by decide)) (by rfl) (T.glo 18 (by rfl)) k_look_at_code b_look_at_code (da_cons (de_var 1) (da_nil)) (len_cons len_nil))) (
    ds_cons (ds_fld (c := 22) (f := 1) (T.clsOk (c := 22) 19 (x := "Receiver") (by rfl) 20 (by rfl) (by rfl) (by rfl)) (by decide) (by rfl) (de_var 0) (de_tup (da_cons (de_ix ix_seq sIx (de_var 1) (de_int)) (da_cons (de_callT call_list_of (sList (fz := true)) (by rfl) (T.free 8 (by rfl)) b_list (da_cons (de_ix ix_seq sIx (de_var 1) (de_int)) (da_nil))) (da_cons (de_callT call_list_of (sList (fz := true)) (by rfl) (T.free 8 (by rfl)) b_list (da_cons (de_ix ix_seq sIx (de_var 1) (de_int)) (da_nil))) (da_nil))))) (by rfl)) (
    ds_cons (ds_fld (c := 22) (f := 2) (T.clsOk (c := 22) 19 (x := "Receiver") (by rfl) 20 (by rfl) (by rfl) (by rfl)) (by decide) (by rfl) (de_var 0) (de_op op_mulAll (sMul (fz := false)) (de_lst true (da_cons (de_non) (da_nil))) (de_ix ix_seq sIx (de_con (by rfl) (T.glo 12 (by rfl)) (by rfl) (rp_tup (T.ck 0 (by rfl)))) (de_ix ix_seq sIx (de_var 1) (de_int)))) (by rfl)) (
    ds_one (ds_fld (c := 22) (f := 3) (T.clsOk (c := 22) 19 (x := "Receiver") (by rfl) 20 (by rfl) (by rfl) (by rfl)) (by decide) (by rfl) (de_var 0) (de_lst false (da_nil)) (by rfl)))))
theorem sc_look_at_place : FnScope n_look_at_place ["size", "place"] (defScope (top 18)) := ⟨rfl, rfl, rfl, by decide +kernel, rfl, by decide +kernel, by decide +kernel⟩
theorem ok_look_at_place (T : Tp cks fa fn K mg) : ∃ fd, PySem.W.keepIn K (.ref (He.fAd K ("look_at_place", none))) = true ∧ Binds K fd ["size", "place"] [] ∧ FnOk P w K mg base (L2.CX P w) 3 (He.fAd K ("look_at_place", none)) fd ["size", "place"] (spF K mg 2 m_look_at_place) := by
  obtain ⟨fd, D⟩ := T.def_ 4 (d := d_look_at_place) rfl
  obtain ⟨_, k_is_whole, b_is_whole, h_is_whole⟩ := ok_is_whole (P := P) (w := w) (base := base) T
  have D0 : FunD K "look_at_place" "look_at_place" (defArgs (top 18)) (defBody (top 18)) (defScope (top 18)) [] [] (He.fAd K ("look_at_place", none)) fd := D
  refine ⟨fd, D0.kp, D0.bindsN (fun _ _ _ _ _ _ us hl => match us, hl with | [_, _], _ => rfl), def_ok (N := n_look_at_place) (ps := ["size", "place"]) (k := 2) (b := s_look_at_place) D0 sc_look_at_place fun cdv A outer s H E hr => ?_⟩
  exact ds_one (ds_if ((dw_or (dt_not (dt_val (de_call h_is_whole (takes_of (by rfl) (by rfl) (by rfl) (by rfl)) (hr.mono (by decide)) (by rfl) (T.glo 7 (by rfl)) k_is_whole b_is_whole (da_cons (de_var 1) (da_nil)) (len_cons len_nil)))) (dw_or1 (dt_not (dt_chain op_le opIB_snd op_lt opIB_snd (de_int) (de_var 1) (de_ix ix_seq sIx (de_con (by rfl) (T.glo 12 (by rfl)) (by rfl) (rp_tup (T.ck 0 (by rfl)))) (de_var 0)))))).pt) (ds_one (ds_raise (c := 3) (by rfl) (takes_of (by rfl) (by rfl) (by rfl) (by rfl)) (by rfl) (He.exc_ok (T.fact 28 (by rfl))).1 (T.glo 29 (by rfl)) (He.exc_ok (T.fact 28 (by rfl))).2.1 (raises_own (He.exc_ok (T.fact 28 (by rfl))).2.2.1 (He.exc_ok (T.fact 28 (by rfl))).2.2.2) (by rfl))) (ds_nil))
theorem sc_Receiver_hear : FnScope n_Receiver_hear ["self", "spot", "sign"] (defScope (inClass (top 36) 1)) := ⟨rfl, rfl, rfl, by decide +kernel, rfl, by decide +kernel, by decide +kernel⟩
theorem ok_Receiver_hear (T : Tp cks fa fn K mg) : ∃ fd, PySem.W.keepIn K (.ref (He.fAd K ("Receiver", some "hear"))) = true ∧ Binds K fd ["self", "spot", "sign"] [] ∧ FnOk P w K mg base (L2.CX P w) 5 (He.fAd K ("Receiver", some "hear")) fd ["self", "spot", "sign"] (spF K mg 3 m_Receiver_hear) := by
  obtain ⟨fd, D⟩ := T.def_ 21 (d := d_Receiver_hear) rfl
  obtain ⟨_, k_look_at_place, b_look_at_place, h_look_at_place⟩ := ok_look_at_place (P := P) (w := w) (base := base) T
  obtain ⟨_, k_is_sign, b_is_sign, h_is_sign⟩ := ok_is_sign (P := P) (w := w) (base := base) T
  have D0 : FunD K "hear" "Receiver.hear" (defArgs (inClass (top 36) 1)) (defBody (inClass (top 36) 1)) (defScope (inClass (top 36) 1)) [] [] (He.fAd K ("Receiver", some "hear")) fd := D
  refine ⟨fd, D0.kp, D0.bindsN (fun _ _ _ _ _ _ us hl => match us, hl with | [_, _, _], _ => rfl), def_ok (N := n_Receiver_hear) (ps := ["self", "spot", "sign"]) (k := 4) (b := s_Receiver_hear) D0 sc_Receiver_hear fun cdv A outer s H E hr => ?_⟩
  exact ds_cons (ds_expr (de_call h_look_at_place (takes_of (by rfl) (by rfl) (by rfl) (by rfl)) (hr.mono (by decide)) (by rfl) (T.glo 30 (by rfl)) k_look_at_place b_look_at_place (da_cons (de_ix ix_seq sIx (de_fld (c := 22) (f := 1) (T.clsOk (c := 22) 19 (x := "Receiver") (by rfl) 20 (by rfl) (by rfl) (by rfl)) (by decide) (by rfl) (de_var 0)) (de_int)) (da_cons (de_var 1) (da_nil))) (len_cons (len_cons len_nil)))) (
    ds_cons (ds_if (dt_not (dt_val (de_call h_is_sign (takes_of (by rfl) (by rfl) (by rfl) (by rfl)) (hr.mono (by decide)) (by rfl) (T.glo 10 (by rfl)) k_is_sign b_is_sign (da_cons (de_var 2) (da_nil)) (len_cons len_nil)))) (ds_one (ds_raise (c := 15) (by rfl) (takes_of (by rfl) (by rfl) (by rfl) (by rfl)) (by rfl) (He.exc_ok (T.fact 31 (by rfl))).1 (T.glo 32 (by rfl)) (He.exc_ok (T.fact 31 (by rfl))).2.1 (raises_own (He.exc_ok (T.fact 31 (by rfl))).2.2.1 (He.exc_ok (T.fact 31 (by rfl))).2.2.2) (by rfl))) (ds_nil)) (
    ds_one (ds_if (dt_cmp op_isN sIsN (de_ix ix_seq sIx (de_fld (c := 22) (f := 2) (T.clsOk (c := 22) 19 (x := "Receiver") (by rfl) 20 (by rfl) (by rfl) (by rfl)) (by decide) (by rfl) (de_var 0)) (de_var 1)) (de_non) (by rfl)) (ds_cons (ds_asg (de_var 2) (dg_ix (de_fld (c := 22) (f := 2) (T.clsOk (c := 22) 19 (x := "Receiver") (by rfl) 20 (by rfl) (by rfl) (by rfl)) (by decide) (by rfl) (de_var 0)) (de_var 1))) (
    ds_one (ds_expr (de_bm PySem.F.slot_list_append (by rfl) mt_append sAppend (de_fld (c := 22) (f := 3) (T.clsOk (c := 22) 19 (x := "Receiver") (by rfl) 20 (by rfl) (by rfl) (by rfl)) (by decide) (by rfl) (de_var 0)) (da_cons (de_var 1) (da_nil)))))) (ds_one (ds_if (dt_cmp (op_neD (hu64 hr)) sNe (de_ix ix_seq sIx (de_fld (c := 22) (f := 2) (T.clsOk (c := 22) 19 (x := "Receiver") (by rfl) 20 (by rfl) (by rfl) (by rfl)) (by decide) (by rfl) (de_var 0)) (de_var 1)) (de_var 2) (by rfl)) (ds_one (ds_raise (c := 16) (by rfl) (takes_of (by rfl) (by rfl) (by rfl) (by rfl)) (by rfl) (He.exc_ok (T.fact 33 (by rfl))).1 (T.glo 34 (by rfl)) (He.exc_ok (T.fact 33 (by rfl))).2.1 (raises_own (He.exc_ok (T.fact 33 (by rfl))).2.2.1 (He.exc_ok (T.fact 33 (by rfl))).2.2.2) (by rfl))) (ds_nil))))))
theorem sc_Receiver_forget : FnScope n_Receiver_forget ["self"] (defScope (inClass (top 36) 2)) := ⟨rfl, rfl, rfl, by decide +kernel, rfl, by decide +kernel, by decide +kernel⟩
theorem ok_Receiver_forget (T : Tp cks fa fn K mg) : ∃ fd, PySem.W.keepIn K (.ref (He.fAd K ("Receiver", some "forget"))) = true ∧ Binds K fd ["self"] [] ∧ FnOk P w K mg base (L2.CX P w) 1 (He.fAd K ("Receiver", some "forget")) fd ["self"] (spF K mg 1 m_Receiver_forget) := by
  obtain ⟨fd, D⟩ := T.def_ 22 (d := d_Receiver_forget) rfl
  have D0 : FunD K "forget" "Receiver.forget" (defArgs (inClass (top 36) 2)) (defBody (inClass (top 36) 2)) (defScope (inClass (top 36) 2)) [] [] (He.fAd K ("Receiver", some "forget")) fd := D
  refine ⟨fd, D0.kp, D0.bindsN (fun _ _ _ _ _ _ us hl => match us, hl with | [_], _ => rfl), def_ok (N := n_Receiver_forget) (ps := ["self"]) (k := 0) (b := s_Receiver_forget) D0 sc_Receiver_forget fun cdv A outer s H E hr => ?_⟩
  exact ds_cons (ds_if (dt_cmp (op_eqD (hu64 hr)) sEq (de_fld (c := 22) (f := 3) (T.clsOk (c := 22) 19 (x := "Receiver") (by rfl) 20 (by rfl) (by rfl) (by rfl)) (by decide) (by rfl) (de_var 0)) (de_lst true (da_nil)) (by rfl)) (ds_one (ds_raise (c := 17) (by rfl) (takes_of (by rfl) (by rfl) (by rfl) (by rfl)) (by rfl) (He.exc_ok (T.fact 35 (by rfl))).1 (T.glo 36 (by rfl)) (He.exc_ok (T.fact 35 (by rfl))).2.1 (raises_own (He.exc_ok (T.fact 35 (by rfl))).2.2.1 (He.exc_ok (T.fact 35 (by rfl))).2.2.2) (by rfl))) (ds_nil)) (
    ds_one (ds_asg (de_non) (dg_ix (de_fld (c := 22) (f := 2) (T.clsOk (c := 22) 19 (x := "Receiver") (by rfl) 20 (by rfl) (by rfl) (by rfl)) (by decide) (by rfl) (de_var 0)) (de_bm0 PySem.F.slot_list_pop (by rfl) mt_pop sPop (de_fld (c := 22) (f := 3) (T.clsOk (c := 22) 19 (x := "Receiver") (by rfl) 20 (by rfl) (by rfl) (by rfl)) (by decide) (by rfl) (de_var 0))))))
theorem sc_Receiver_came : FnScope n_Receiver_came ["self"] (defScope (inClass (top 36) 3)) := ⟨rfl, rfl, rfl, by decide +kernel, rfl, by decide +kernel, by decide +kernel⟩
theorem ok_Receiver_came (T : Tp cks fa fn K mg) : ∃ fd, PySem.W.keepIn K (.ref (He.fAd K ("Receiver", some "came"))) = true ∧ Binds K fd ["self"] [] ∧ FnOk P w K mg base (L2.CX P w) 1 (He.fAd K ("Receiver", some "came")) fd ["self"] (spF K mg 1 m_Receiver_came) := by
  obtain ⟨fd, D⟩ := T.def_ 23 (d := d_Receiver_came) rfl
  have D0 : FunD K "came" "Receiver.came" (defArgs (inClass (top 36) 3)) (defBody (inClass (top 36) 3)) (defScope (inClass (top 36) 3)) [] [] (He.fAd K ("Receiver", some "came")) fd := D
  refine ⟨fd, D0.kp, D0.bindsN (fun _ _ _ _ _ _ us hl => match us, hl with | [_], _ => rfl), def_ok (N := n_Receiver_came) (ps := ["self"]) (k := 0) (b := s_Receiver_came) D0 sc_Receiver_came fun cdv A outer s H E hr => ?_⟩
  exact ds_one (ds_ret (de_callT call_list_of (sList (fz := true)) (by rfl) (T.free 8 (by rfl)) b_list (da_cons (de_fld (c := 22) (f := 2) (T.clsOk (c := 22) 19 (x := "Receiver") (by rfl) 20 (by rfl) (by rfl) (by rfl)) (by decide) (by rfl) (de_var 0)) (da_nil))))
theorem sc_Solving_init : FnScope n_Solving_init ["self"] (defScope (inClass (top 27) 0)) := ⟨rfl, rfl, rfl, by decide +kernel, rfl, by decide +kernel, by decide +kernel⟩
theorem ok_Solving_init (T : Tp cks fa fn K mg) : ∃ fd, PySem.W.keepIn K (.ref (He.fAd K ("Solving", some "__init__"))) = true ∧ Binds K fd ["self"] [] ∧ FnOk P w K mg base (L2.CX P w) 1 (He.fAd K ("Solving", some "__init__")) fd ["self"] (spF K mg 1 m_Solving_init) := by
  obtain ⟨fd, D⟩ := T.def_ 10 (d := d_Solving_init) rfl
  have D0 : FunD K "__init__" "Solving.__init__" (defArgs (inClass (top 27) 0)) (defBody (inClass (top 27) 0)) (defScope (inClass (top 27) 0)) [] [] (He.fAd K ("Solving", some "__init__")) fd := D
  refine ⟨fd, D0.kp, D0.bindsN (fun _ _ _ _ _ _ us hl => match us, hl with | [_], _ => rfl), def_ok (N := n_Solving_init) (ps := ["self"]) (k := 0) (b := s_Solving_init) D0 sc_Solving_init fun cdv A outer s H E hr => ?_⟩
  exact ds_one (ds_fld (c := 21) (f := 0) (T.clsOk (c := 21) 37 (x := "Solving") (by rfl) 38 (by rfl) (by rfl) (by rfl)) (by decide) (by rfl) (de_var 0) (de_lst true (da_nil)) (by rfl))
theorem sc_Solving_lowered : FnScope n_Solving_lowered ["self", "mask", "made"] (defScope (inClass (top 27) 1)) := ⟨rfl, rfl, rfl, by decide +kernel, rfl, by decide +kernel, by decide +kernel⟩
theorem ok_Solving_lowered (T : Tp cks fa fn K mg) : ∃ fd, PySem.W.keepIn K (.ref (He.fAd K ("Solving", some "lowered"))) = true ∧ Binds K fd ["self", "mask", "made"] [] ∧ FnOk P w K mg base (L2.CX P w) 1 (He.fAd K ("Solving", some "lowered")) fd ["self", "mask", "made"] (spF K mg 3 m_Solving_lowered) := by
  obtain ⟨fd, D⟩ := T.def_ 11 (d := d_Solving_lowered) rfl
  have D0 : FunD K "lowered" "Solving.lowered" (defArgs (inClass (top 27) 1)) (defBody (inClass (top 27) 1)) (defScope (inClass (top 27) 1)) [] [] (He.fAd K ("Solving", some "lowered")) fd := D
  refine ⟨fd, D0.kp, D0.bindsN (fun _ _ _ _ _ _ us hl => match us, hl with | [_, _, _], _ => rfl), def_ok (N := n_Solving_lowered) (ps := ["self", "mask", "made"]) (k := 0) (b := s_Solving_lowered) D0 sc_Solving_lowered fun cdv A outer s H E hr => ?_⟩
  exact ds_cons (ds_for (passes_of (by rfl)) (by rfl) (di_list (de_fld (c := 21) (f := 0) (T.clsOk (c := 21) 37 (x := "Solving") (by rfl) 38 (by rfl) (by rfl) (by rfl)) (by decide) (by rfl) (de_var 0))) (dg_tup (by rfl) (dgs_cons (dg_name sc_Solving_lowered.nd (by rfl) (by first | exact Or.inl (by rfl) | exact Or.inr (by rfl))) (dgs_cons (dg_name sc_Solving_lowered.nd (by rfl) (by first | exact Or.inl (by rfl) | exact Or.inr (by rfl))) (dgs_cons (dg_name sc_Solving_lowered.nd (by rfl) (by first | exact Or.inl (by rfl) | exact Or.inr (by rfl))) (dgs_nil))))) (ds_one (ds_if (dt_cmp (op_neD (hu64 hr)) sNe (de_op op_and opI0_snd (de_var 1) (de_var 3)) (de_int) (by rfl)) (ds_cons (ds_set (i := 1) sc_Solving_lowered.nd (by rfl) (by first | exact Or.inl (by rfl) | exact Or.inr (by rfl)) (de_op op_xor opI0_snd (de_var 1) (de_var 4))) (
    ds_one (ds_set (i := 2) sc_Solving_lowered.nd (by rfl) (by first | exact Or.inl (by rfl) | exact Or.inr (by rfl)) (de_op op_xor opI0_snd (de_var 2) (de_var 5))))) (ds_nil)))) (
    ds_one (ds_ret (de_tup (da_cons (de_var 1) (da_cons (de_var 2) (da_nil))))))
theorem sc_Solving_put : FnScope n_Solving_put ["self", "mask", "spot"] (defScope (inClass (top 27) 2)) := ⟨rfl, rfl, rfl, by decide +kernel, rfl, by decide +kernel, by decide +kernel⟩
theorem ok_Solving_put (T : Tp cks fa fn K mg) : ∃ fd, PySem.W.keepIn K (.ref (He.fAd K ("Solving", some "put"))) = true ∧ Binds K fd ["self", "mask", "spot"] [] ∧ FnOk P w K mg base (L2.CX P w) 3 (He.fAd K ("Solving", some "put")) fd ["self", "mask", "spot"] (spF K mg 3 m_Solving_put) := by
  obtain ⟨fd, D⟩ := T.def_ 12 (d := d_Solving_put) rfl
  obtain ⟨_, k_Solving_lowered, b_Solving_lowered, h_Solving_lowered⟩ := ok_Solving_lowered (P := P) (w := w) (base := base) T
  have D0 : FunD K "put" "Solving.put" (defArgs (inClass (top 27) 2)) (defBody (inClass (top 27) 2)) (defScope (inClass (top 27) 2)) [] [] (He.fAd K ("Solving", some "put")) fd := D
  refine ⟨fd, D0.kp, D0.bindsN (fun _ _ _ _ _ _ us hl => match us, hl with | [_, _, _], _ => rfl), def_ok (N := n_Solving_put) (ps := ["self", "mask", "spot"]) (k := 2) (b := s_Solving_put) D0 sc_Solving_put fun cdv A outer s H E hr => ?_⟩
  exact ds_cons (ds_asg (de_m (c := 21) (de_var 0) (T.glo 37 (by rfl)) (He.cls_ok (T.fact 38 (by rfl))) (He.meth_ok (T.fact 46 (by rfl))) h_Solving_lowered (takes_of (by rfl) (by rfl) (by rfl) (by rfl)) (hr.mono (by decide)) b_Solving_lowered (da_cons (de_var 1) (da_cons (de_op op_shl sShl (de_int) (de_var 2)) (da_nil))) (len_cons (len_cons len_nil)) (fldNo_by rfl)) (dg_tup (by rfl) (dgs_cons (dg_name sc_Solving_put.nd (by rfl) (by first | exact Or.inl (by rfl) | exact Or.inr (by rfl))) (dgs_cons (dg_name sc_Solving_put.nd (by rfl) (by first | exact Or.inl (by rfl) | exact Or.inr (by rfl))) (dgs_nil))))) (
    ds_cons (ds_if (dt_cmp (op_neD (hu64 hr)) sNe (de_var 1) (de_int) (by rfl)) (ds_cons (ds_set (i := 4) sc_Solving_put.nd (by rfl) (by first | exact Or.inl (by rfl) | exact Or.inr (by rfl)) (de_op op_and opI0_snd (de_var 1) (de_op op_sub opI0_snd (de_int) (de_var 1)))) (
    ds_cons (ds_set (i := 5) sc_Solving_put.nd (by rfl) (by first | exact Or.inl (by rfl) | exact Or.inr (by rfl)) (de_lst false (da_nil))) (
    ds_cons (ds_for (passes_of (by rfl)) (by rfl) (di_list (de_fld (c := 21) (f := 0) (T.clsOk (c := 21) 37 (x := "Solving") (by rfl) 38 (by rfl) (by rfl) (by rfl)) (by decide) (by rfl) (de_var 0))) (dg_tup (by rfl) (dgs_cons (dg_name sc_Solving_put.nd (by rfl) (by first | exact Or.inl (by rfl) | exact Or.inr (by rfl))) (dgs_cons (dg_name sc_Solving_put.nd (by rfl) (by first | exact Or.inl (by rfl) | exact Or.inr (by rfl))) (dgs_cons (dg_name sc_Solving_put.nd (by rfl) (by first | exact Or.inl (by rfl) | exact Or.inr (by rfl))) (dgs_nil))))) (ds_one (ds_if (dt_cmp (op_neD (hu64 hr)) sNe (de_op op_and opI0_snd (de_var 7) (de_var 4)) (de_int) (by rfl)) (ds_one (ds_expr (de_bm PySem.F.slot_list_append (by rfl) mt_append sAppend (de_var 5) (da_cons (de_tup (da_cons (de_var 6) (da_cons (de_op op_xor opI0_snd (de_var 7) (de_var 1)) (da_cons (de_op op_xor opI0_snd (de_var 8) (de_var 3)) (da_nil))))) (da_nil))))) (ds_one (ds_expr (de_bm PySem.F.slot_list_append (by rfl) mt_append sAppend (de_var 5) (da_cons (de_tup (da_cons (de_var 6) (da_cons (de_var 7) (da_cons (de_var 8) (da_nil))))) (da_nil)))))))) (
    ds_one (ds_fld (c := 21) (f := 0) (T.clsOk (c := 21) 37 (x := "Solving") (by rfl) 38 (by rfl) (by rfl) (by rfl)) (by decide) (by rfl) (de_var 0) (de_op op_addAll (sAdd (fz := true)) (de_var 5) (de_lst true (da_cons (de_tup (da_cons (de_var 4) (da_cons (de_var 1) (da_cons (de_var 3) (da_nil))))) (da_nil)))) (by rfl)))))) (ds_nil)) (
    ds_one (ds_ret (de_tup (da_cons (de_var 1) (da_cons (de_var 3) (da_nil)))))))
theorem sc_comes_to : FnScope n_comes_to ["place", "spot"] (defScope (top 19)) := ⟨rfl, rfl, rfl, by decide +kernel, rfl, by decide +kernel, by decide +kernel⟩
theorem ok_comes_to (T : Tp cks fa fn K mg) : ∃ fd, PySem.W.keepIn K (.ref (He.fAd K ("comes_to", none))) = true ∧ Binds K fd ["place", "spot"] [] ∧ FnOk P w K mg base (L2.CX P w) 1 (He.fAd K ("comes_to", none)) fd ["place", "spot"] (spF K mg 2 m_comes_to) := by
  obtain ⟨fd, D⟩ := T.def_ 5 (d := d_comes_to) rfl
  have D0 : FunD K "comes_to" "comes_to" (defArgs (top 19)) (defBody (top 19)) (defScope (top 19)) [] [] (He.fAd K ("comes_to", none)) fd := D
  refine ⟨fd, D0.kp, D0.bindsN (fun _ _ _ _ _ _ us hl => match us, hl with | [_, _], _ => rfl), def_ok (N := n_comes_to) (ps := ["place", "spot"]) (k := 0) (b := s_comes_to) D0 sc_comes_to fun cdv A outer s H E hr => ?_⟩
  exact ds_one (ds_ret (de_cmp (op_eqD (hu64 hr)) sEq (de_op op_and opI0_snd (de_var 0) (de_var 1)) (de_var 1) (by rfl)))
theorem sc_unknowns_at : FnScope n_unknowns_at ["code", "spot"] (defScope (top 30)) := ⟨rfl, rfl, rfl, by decide +kernel, rfl, by decide +kernel, by decide +kernel⟩
theorem ok_unknowns_at (T : Tp cks fa fn K mg) : ∃ fd, PySem.W.keepIn K (.ref (He.fAd K ("unknowns_at", none))) = true ∧ Binds K fd ["code", "spot"] [] ∧ FnOk P w K mg base (L2.CX P w) 3 (He.fAd K ("unknowns_at", none)) fd ["code", "spot"] (spF K mg 2 m_unknowns_at) := by
  obtain ⟨fd, D⟩ := T.def_ 15 (d := d_unknowns_at) rfl
  obtain ⟨_, k_comes_to, b_comes_to, h_comes_to⟩ := ok_comes_to (P := P) (w := w) (base := base) T
  have D0 : FunD K "unknowns_at" "unknowns_at" (defArgs (top 30)) (defBody (top 30)) (defScope (top 30)) [] [] (He.fAd K ("unknowns_at", none)) fd := D
  refine ⟨fd, D0.kp, D0.bindsN (fun _ _ _ _ _ _ us hl => match us, hl with | [_, _], _ => rfl), def_ok (N := n_unknowns_at) (ps := ["code", "spot"]) (k := 2) (b := s_unknowns_at) D0 sc_unknowns_at fun cdv A outer s H E hr => ?_⟩
  exact ds_cons (ds_set (i := 2) sc_unknowns_at.nd (by rfl) (by first | exact Or.inl (by rfl) | exact Or.inr (by rfl)) (de_int)) (
    ds_cons (ds_for (passes_of (by rfl)) (by rfl) (di_enum (by rfl) (T.free 47 (by rfl)) (de_ix ix_seq sIx (de_var 0) (de_int))) (dg_tup (by rfl) (dgs_cons (dg_name sc_unknowns_at.nd (by rfl) (by first | exact Or.inl (by rfl) | exact Or.inr (by rfl))) (dgs_cons (dg_name sc_unknowns_at.nd (by rfl) (by first | exact Or.inl (by rfl) | exact Or.inr (by rfl))) (dgs_nil)))) (ds_one (ds_if (dt_val (de_call h_comes_to (takes_of (by rfl) (by rfl) (by rfl) (by rfl)) (hr.mono (by decide)) (by rfl) (T.glo 48 (by rfl)) k_comes_to b_comes_to (da_cons (de_var 4) (da_cons (de_var 1) (da_nil))) (len_cons (len_cons len_nil)))) (ds_one (ds_aug (i := 2) sc_unknowns_at.nd (by rfl) (by first | exact Or.inl (by rfl) | exact Or.inr (by rfl)) ip_add sIpAdd (de_op op_shl sShl (de_int) (de_var 3)))) (ds_nil)))) (
    ds_one (ds_ret (de_var 2))))
theorem sc_signs_fixed : FnScope n_signs_fixed ["code"] (defScope (top 25)) := ⟨rfl, rfl, rfl, by decide +kernel, rfl, by decide +kernel, by decide +kernel⟩
theorem ok_signs_fixed (T : Tp cks fa fn K mg) : ∃ fd, PySem.W.keepIn K (.ref (He.fAd K ("signs_fixed", none))) = true ∧ Binds K fd ["code"] [] ∧ FnOk P w K mg base (L2.CX P w) 1 (He.fAd K ("signs_fixed", none)) fd ["code"] (spF K mg 1 m_signs_fixed) := by
  obtain ⟨fd, D⟩ := T.def_ 9 (d := d_signs_fixed) rfl
  have D0 : FunD K "signs_fixed" "signs_fixed" (defArgs (top 25)) (defBody (top 25)) (defScope (top 25)) [] [] (He.fAd K ("signs_fixed", none)) fd := D
  refine ⟨fd, D0.kp, D0.bindsN (fun _ _ _ _ _ _ us hl => match us, hl with | [_], _ => rfl), def_ok (N := n_signs_fixed) (ps := ["code"]) (k := 0) (b := s_signs_fixed) D0 sc_signs_fixed fun cdv A outer s H E hr => ?_⟩
  exact ds_cons (ds_set (i := 1) sc_signs_fixed.nd (by rfl) (by first | exact Or.inl (by rfl) | exact Or.inr (by rfl)) (de_lst false (da_nil))) (
    ds_cons (ds_set (i := 2) sc_signs_fixed.nd (by rfl) (by first | exact Or.inl (by rfl) | exact Or.inr (by rfl)) (de_int)) (
    ds_cons (ds_for (passes_of (by rfl)) (by rfl) (di_range1 (by rfl) (T.free 2 (by rfl)) (de_ix ix_seq sIx (de_con (by rfl) (T.glo 12 (by rfl)) (by rfl) (rp_tup (T.ck 0 (by rfl)))) (de_ix ix_seq sIx (de_var 0) (de_int)))) (dg_name sc_signs_fixed.nd (by rfl) (by first | exact Or.inl (by rfl) | exact Or.inr (by rfl))) (ds_one (ds_if (dt_cmp op_in_seq (sIn (neg := false)) (de_var 3) (de_ix ix_seq sIx (de_var 0) (de_int)) (by rfl)) (ds_one (ds_expr (de_bm PySem.F.slot_list_append (by rfl) mt_append sAppend (de_var 1) (da_cons (de_non) (da_nil))))) (ds_cons (ds_expr (de_bm PySem.F.slot_list_append (by rfl) mt_append sAppend (de_var 1) (da_cons (de_ix ix_seq sIx (de_ix ix_seq sIx (de_var 0) (de_int)) (de_var 2)) (da_nil)))) (
    ds_one (ds_aug (i := 2) sc_signs_fixed.nd (by rfl) (by first | exact Or.inl (by rfl) | exact Or.inr (by rfl)) ip_add sIpAdd (de_int))))))) (
    ds_one (ds_ret (de_frz (de_var 1))))))
theorem sc_sum_of : FnScope n_sum_of ["signs"] (defScope (top 15)) := ⟨rfl, rfl, rfl, by decide +kernel, rfl, by decide +kernel, by decide +kernel⟩
theorem ok_sum_of (T : Tp cks fa fn K mg) : ∃ fd, PySem.W.keepIn K (.ref (He.fAd K ("sum_of", none))) = true ∧ Binds K fd ["signs"] [] ∧ FnOk P w K mg base (L2.CX P w) 1 (He.fAd K ("sum_of", none)) fd ["signs"] (spF K mg 1 m_sum_of) := by
  obtain ⟨fd, D⟩ := T.def_ 3 (d := d_sum_of) rfl
  have D0 : FunD K "sum_of" "sum_of" (defArgs (top 15)) (defBody (top 15)) (defScope (top 15)) [] [] (He.fAd K ("sum_of", none)) fd := D
  refine ⟨fd, D0.kp, D0.bindsN (fun _ _ _ _ _ _ us hl => match us, hl with | [_], _ => rfl), def_ok (N := n_sum_of) (ps := ["signs"]) (k := 0) (b := s_sum_of) D0 sc_sum_of fun cdv A outer s H E hr => ?_⟩
  exact ds_one (ds_ret (de_op op_mod sMod (de_callB (cr_sumAll (by rfl)) sSumAll (by rfl) (T.free 49 (by rfl)) b_sum (da_cons (de_var 0) (da_nil))) (de_int)))
theorem sc_left_at : FnScope n_left_at ["code", "came", "spots"] (defScope (top 31)) := ⟨rfl, rfl, rfl, by decide +kernel, rfl, by decide +kernel, by decide +kernel⟩
theorem ok_left_at (T : Tp cks fa fn K mg) : ∃ fd, PySem.W.keepIn K (.ref (He.fAd K ("left_at", none))) = true ∧ Binds K fd ["code", "came", "spots"] [] ∧ FnOk P w K mg base (L2.CX P w) 3 (He.fAd K ("left_at", none)) fd ["code", "came", "spots"] (spF K mg 3 m_left_at) := by
  obtain ⟨fd, D⟩ := T.def_ 16 (d := d_left_at) rfl
  obtain ⟨_, k_signs_fixed, b_signs_fixed, h_signs_fixed⟩ := ok_signs_fixed (P := P) (w := w) (base := base) T
  obtain ⟨_, k_sum_of, b_sum_of, h_sum_of⟩ := ok_sum_of (P := P) (w := w) (base := base) T
  obtain ⟨_, k_comes_to, b_comes_to, h_comes_to⟩ := ok_comes_to (P := P) (w := w) (base := base) T
  have D0 : FunD K "left_at" "left_at" (defArgs (top 31)) (defBody (top 31)) (defScope (top 31)) [] [] (He.fAd K ("left_at", none)) fd := D
  refine ⟨fd, D0.kp, D0.bindsN (fun _ _ _ _ _ _ us hl => match us, hl with | [_, _, _], _ => rfl), def_ok (N := n_left_at) (ps := ["code", "came", "spots"]) (k := 2) (b := s_left_at) D0 sc_left_at fun cdv A outer s H E hr => ?_⟩
  exact ds_cons (ds_set (i := 3) sc_left_at.nd (by rfl) (by first | exact Or.inl (by rfl) | exact Or.inr (by rfl)) (de_call h_signs_fixed (takes_of (by rfl) (by rfl) (by rfl) (by rfl)) (hr.mono (by decide)) (by rfl) (T.glo 50 (by rfl)) k_signs_fixed b_signs_fixed (da_cons (de_var 0) (da_nil)) (len_cons len_nil))) (
    ds_cons (ds_setLc false (i := 4) (c := .nm 5) (by rfl) sc_left_at.nd (by rfl) (by rfl) (by rfl) (di_list (de_var 2)) (blkOk_by (own := [("spot", 5)]) (by kernel_rfl)) (by decide) (fun _ _ _ _ _ => dgc_name sc_left_at.nd (by rfl) (by first | exact Or.inl (by rfl) | exact Or.inr (by rfl))) (fun _ _ _ _ _ => dts_nil) (fun _ _ _ _ _ => de_ix ix_seq sIx (de_var 1) (de_var 5))) (
    ds_cons (ds_for (passes_of (by rfl)) (by rfl) (di_list (de_var 2)) (dg_name sc_left_at.nd (by rfl) (by first | exact Or.inl (by rfl) | exact Or.inr (by rfl))) (ds_one (ds_expr (de_bm PySem.F.slot_list_extend (by rfl) mt_extend sExtend (de_var 4) (da_cons (de_lc true (c := .tp [6, 7]) (by rfl) sc_left_at.nd (di_enum (by rfl) (T.free 47 (by rfl)) (de_var 3)) (blkOk_by (own := [("place", 6), ("sign", 7)]) (by kernel_rfl)) (by decide) (fun _ _ _ _ _ => dgc_tup (by rfl) (dgc_cons (dgc_name sc_left_at.nd (by rfl) (by first | exact Or.inl (by rfl) | exact Or.inr (by rfl))) (dgc_cons (dgc_name sc_left_at.nd (by rfl) (by first | exact Or.inl (by rfl) | exact Or.inr (by rfl))) (dgc_nil)))) (fun _ _ _ _ _ => dts_one ((dw_and (dt_cmp op_notN sNotN (de_var 7) (de_non) (by rfl)) (dw_and1 (dt_val (de_call h_comes_to takes0 (hr.mono (by decide)) (by rfl) (T.glo 48 (by rfl)) k_comes_to b_comes_to (da_cons (de_var 6) (da_cons (de_var 5) (da_nil))) (len_cons (len_cons len_nil)))))).pt)) (fun _ _ _ _ _ => de_var 7)) (da_nil)))))) (
    ds_one (ds_ret (de_call h_sum_of (takes_of (by rfl) (by rfl) (by rfl) (by rfl)) (hr.mono (by decide)) (by rfl) (T.glo 51 (by rfl)) k_sum_of b_sum_of (da_cons (de_var 4) (da_nil)) (len_cons len_nil))))))
theorem sc_spots_in : FnScope n_spots_in ["made"] (defScope (top 28)) := ⟨rfl, rfl, rfl, by decide +kernel, rfl, by decide +kernel, by decide +kernel⟩
theorem ok_spots_in (T : Tp cks fa fn K mg) : ∃ fd, PySem.W.keepIn K (.ref (He.fAd K ("spots_in", none))) = true ∧ Binds K fd ["made"] [] ∧ FnOk P w K mg base (L2.CX P w) 1 (He.fAd K ("spots_in", none)) fd ["made"] (spF K mg 1 m_spots_in) := by
  obtain ⟨fd, D⟩ := T.def_ 14 (d := d_spots_in) rfl
  have D0 : FunD K "spots_in" "spots_in" (defArgs (top 28)) (defBody (top 28)) (defScope (top 28)) [] [] (He.fAd K ("spots_in", none)) fd := D
  refine ⟨fd, D0.kp, D0.bindsN (fun _ _ _ _ _ _ us hl => match us, hl with | [_], _ => rfl), def_ok (N := n_spots_in) (ps := ["made"]) (k := 0) (b := s_spots_in) D0 sc_spots_in fun cdv A outer s H E hr => ?_⟩
  exact ds_one (ds_ret (de_lc true (c := .nm 1) (by rfl) sc_spots_in.nd (di_range1 (by rfl) (T.free 2 (by rfl)) (de_int)) (blkOk_by (own := [("spot", 1)]) (by kernel_rfl)) (by decide) (fun _ _ _ _ _ => dgc_name sc_spots_in.nd (by rfl) (by first | exact Or.inl (by rfl) | exact Or.inr (by rfl))) (fun _ _ _ _ _ => dts_one (dt_cmp (op_eqD (hu64 hr)) sEq (de_op op_and opI0_snd (de_op op_shr sShr (de_var 0) (de_var 1)) (de_int)) (de_int) (by rfl))) (fun _ _ _ _ _ => de_var 1)))
theorem sc_solved : FnScope n_solved ["code", "came"] (defScope (top 32)) := ⟨rfl, rfl, rfl, by decide +kernel, rfl, by decide +kernel, by decide +kernel⟩
theorem ok_solved (T : Tp cks fa fn K mg) : ∃ fd, PySem.W.keepIn K (.ref (He.fAd K ("solved", none))) = true ∧ Binds K fd ["code", "came"] [] ∧ FnOk P w K mg base (L2.CX P w) 5 (He.fAd K ("solved", none)) fd ["code", "came"] (spF K mg 2 m_solved) := by
  obtain ⟨fd, D⟩ := T.def_ 17 (d := d_solved) rfl
  obtain ⟨_, k_Solving_init, b_Solving_init, h_Solving_init⟩ := ok_Solving_init (P := P) (w := w) (base := base) T
  obtain ⟨_, k_Solving_put, b_Solving_put, h_Solving_put⟩ := ok_Solving_put (P := P) (w := w) (base := base) T
  obtain ⟨_, k_unknowns_at, b_unknowns_at, h_unknowns_at⟩ := ok_unknowns_at (P := P) (w := w) (base := base) T
  obtain ⟨_, k_left_at, b_left_at, h_left_at⟩ := ok_left_at (P := P) (w := w) (base := base) T
  obtain ⟨_, k_spots_in, b_spots_in, h_spots_in⟩ := ok_spots_in (P := P) (w := w) (base := base) T
  have D0 : FunD K "solved" "solved" (defArgs (top 32)) (defBody (top 32)) (defScope (top 32)) [] [] (He.fAd K ("solved", none)) fd := D
  refine ⟨fd, D0.kp, D0.bindsN (fun _ _ _ _ _ _ us hl => match us, hl with | [_, _], _ => rfl), def_ok (N := n_solved) (ps := ["code", "came"]) (k := 4) (b := s_solved) D0 sc_solved fun cdv A outer s H E hr => ?_⟩
  exact ds_cons (ds_set (i := 2) sc_solved.nd (by rfl) (by first | exact Or.inl (by rfl) | exact Or.inr (by rfl)) (de_mk0 (c := 21) (He.mkr_ok (T.fact 52 (by rfl))) h_Solving_init (takes_of (by rfl) (by rfl) (by rfl) (by rfl)) (hr.mono (by decide)) (by rfl) (T.glo 37 (by rfl)) (by rfl) b_Solving_init)) (
    ds_cons (ds_for (passes_of (by rfl)) (by rfl) (di_range1 (by rfl) (T.free 2 (by rfl)) (de_ix ix_seq sIx (de_con (by rfl) (T.glo 12 (by rfl)) (by rfl) (rp_tup (T.ck 0 (by rfl)))) (de_ix ix_seq sIx (de_var 0) (de_int)))) (dg_name sc_solved.nd (by rfl) (by first | exact Or.inl (by rfl) | exact Or.inr (by rfl))) (ds_one (ds_if (dt_cmp op_notN sNotN (de_ix ix_seq sIx (de_var 1) (de_var 3)) (de_non) (by rfl)) (ds_cons (ds_asg (de_m (c := 21) (de_var 2) (T.glo 37 (by rfl)) (He.cls_ok (T.fact 38 (by rfl))) (He.meth_ok (T.fact 54 (by rfl))) h_Solving_put (takes_of (by rfl) (by rfl) (by rfl) (by rfl)) (hr.mono (by decide)) b_Solving_put (da_cons (de_call h_unknowns_at (takes_of (by rfl) (by rfl) (by rfl) (by rfl)) (hr.mono (by decide)) (by rfl) (T.glo 53 (by rfl)) k_unknowns_at b_unknowns_at (da_cons (de_var 0) (da_cons (de_var 3) (da_nil))) (len_cons (len_cons len_nil))) (da_cons (de_var 3) (da_nil))) (len_cons (len_cons len_nil)) (fldNo_by rfl)) (dg_tup (by rfl) (dgs_cons (dg_name sc_solved.nd (by rfl) (by first | exact Or.inl (by rfl) | exact Or.inr (by rfl))) (dgs_cons (dg_name sc_solved.nd (by rfl) (by first | exact Or.inl (by rfl) | exact Or.inr (by rfl))) (dgs_nil))))) (
    ds_one (ds_if ((dw_and (dt_cmp (op_eqD (hu64 hr)) sEq (de_var 4) (de_int) (by rfl)) (dw_and1 (dt_cmp (op_eqD (hu64 hr)) sEq (de_call h_left_at (takes_of (by rfl) (by rfl) (by rfl) (by rfl)) (hr.mono (by decide)) (by rfl) (T.glo 56 (by rfl)) k_left_at b_left_at (da_cons (de_var 0) (da_cons (de_var 1) (da_cons (de_call h_spots_in (takes_of (by rfl) (by rfl) (by rfl) (by rfl)) (hr.mono (by decide)) (by rfl) (T.glo 55 (by rfl)) k_spots_in b_spots_in (da_cons (de_var 5) (da_nil)) (len_cons len_nil)) (da_nil)))) (len_cons (len_cons (len_cons len_nil)))) (de_int) (by rfl)))).pt) (ds_one (ds_ret (de_tup (da_cons (de_var 2) (da_cons (de_call h_spots_in (takes_of (by rfl) (by rfl) (by rfl) (by rfl)) (hr.mono (by decide)) (by rfl) (T.glo 55 (by rfl)) k_spots_in b_spots_in (da_cons (de_var 5) (da_nil)) (len_cons len_nil)) (da_nil)))))) (ds_nil)))) (ds_nil)))) (
    ds_one (ds_ret (de_tup (da_cons (de_var 2) (da_cons (de_non) (da_nil)))))))
theorem sc_Solving_rows : FnScope n_Solving_rows ["self"] (defScope (inClass (top 27) 3)) := ⟨rfl, rfl, rfl, by decide +kernel, rfl, by decide +kernel, by decide +kernel⟩
theorem ok_Solving_rows (T : Tp cks fa fn K mg) : ∃ fd, PySem.W.keepIn K (.ref (He.fAd K ("Solving", some "rows"))) = true ∧ Binds K fd ["self"] [] ∧ FnOk P w K mg base (L2.CX P w) 1 (He.fAd K ("Solving", some "rows")) fd ["self"] (spF K mg 1 m_Solving_rows) := by
  obtain ⟨fd, D⟩ := T.def_ 13 (d := d_Solving_rows) rfl
  have D0 : FunD K "rows" "Solving.rows" (defArgs (inClass (top 27) 3)) (defBody (inClass (top 27) 3)) (defScope (inClass (top 27) 3)) [] [] (He.fAd K ("Solving", some "rows")) fd := D
  refine ⟨fd, D0.kp, D0.bindsN (fun _ _ _ _ _ _ us hl => match us, hl with | [_], _ => rfl), def_ok (N := n_Solving_rows) (ps := ["self"]) (k := 0) (b := s_Solving_rows) D0 sc_Solving_rows fun cdv A outer s H E hr => ?_⟩
  exact ds_one (ds_ret (de_callT call_list_of (sList (fz := true)) (by rfl) (T.free 8 (by rfl)) b_list (da_cons (de_fld (c := 21) (f := 0) (T.clsOk (c := 21) 37 (x := "Solving") (by rfl) 38 (by rfl) (by rfl) (by rfl)) (by decide) (by rfl) (de_var 0)) (da_nil))))
theorem sc_many_open : FnScope n_many_open ["code", "solving"] (defScope (top 33)) := ⟨rfl, rfl, rfl, by decide +kernel, rfl, by decide +kernel, by decide +kernel⟩
theorem ok_many_open (T : Tp cks fa fn K mg) : ∃ fd, PySem.W.keepIn K (.ref (He.fAd K ("many_open", none))) = true ∧ Binds K fd ["code", "solving"] [] ∧ FnOk P w K mg base (L2.CX P w) 3 (He.fAd K ("many_open", none)) fd ["code", "solving"] (spF K mg 2 m_many_open) := by
  obtain ⟨fd, D⟩ := T.def_ 18 (d := d_many_open) rfl
  obtain ⟨_, k_Solving_rows, b_Solving_rows, h_Solving_rows⟩ := ok_Solving_rows (P := P) (w := w) (base := base) T
  have D0 : FunD K "many_open" "many_open" (defArgs (top 33)) (defBody (top 33)) (defScope (top 33)) [] [] (He.fAd K ("many_open", none)) fd := D
  refine ⟨fd, D0.kp, D0.bindsN (fun _ _ _ _ _ _ us hl => match us, hl with | [_, _], _ => rfl), def_ok (N := n_many_open) (ps := ["code", "solving"]) (k := 2) (b := s_many_open) D0 sc_many_open fun cdv A outer s H E hr => ?_⟩
  exact ds_one (ds_ret (de_op op_sub opI0_snd (de_callB call_lenA sLen (by rfl) (T.free 4 (by rfl)) b_len (da_cons (de_ix ix_seq sIx (de_var 0) (de_int)) (da_nil))) (de_callB call_lenA sLen (by rfl) (T.free 4 (by rfl)) b_len (da_cons (de_m0 (c := 21) (de_var 1) (T.glo 37 (by rfl)) (He.cls_ok (T.fact 38 (by rfl))) (He.meth_ok (T.fact 57 (by rfl))) h_Solving_rows (takes_of (by rfl) (by rfl) (by rfl) (by rfl)) (hr.mono (by decide)) b_Solving_rows (fldNo_by rfl)) (da_nil)))))
theorem sc_Receiver_left : FnScope n_Receiver_left ["self"] (defScope (inClass (top 36) 4)) := ⟨rfl, rfl, rfl, by decide +kernel, rfl, by decide +kernel, by decide +kernel⟩
theorem ok_Receiver_left (T : Tp cks fa fn K mg) : ∃ fd, PySem.W.keepIn K (.ref (He.fAd K ("Receiver", some "left"))) = true ∧ Binds K fd ["self"] [] ∧ FnOk P w K mg base (L2.CX P w) 7 (He.fAd K ("Receiver", some "left")) fd ["self"] (spF K mg 1 m_Receiver_left) := by
  obtain ⟨fd, D⟩ := T.def_ 24 (d := d_Receiver_left) rfl
  obtain ⟨_, k_solved, b_solved, h_solved⟩ := ok_solved (P := P) (w := w) (base := base) T
  obtain ⟨_, k_many_open, b_many_open, h_many_open⟩ := ok_many_open (P := P) (w := w) (base := base) T
  have D0 : FunD K "left" "Receiver.left" (defArgs (inClass (top 36) 4)) (defBody (inClass (top 36) 4)) (defScope (inClass (top 36) 4)) [] [] (He.fAd K ("Receiver", some "left")) fd := D
  refine ⟨fd, D0.kp, D0.bindsN (fun _ _ _ _ _ _ us hl => match us, hl with | [_], _ => rfl), def_ok (N := n_Receiver_left) (ps := ["self"]) (k := 6) (b := s_Receiver_left) D0 sc_Receiver_left fun cdv A outer s H E hr => ?_⟩
  exact ds_cons (ds_asg (de_call h_solved (takes_of (by rfl) (by rfl) (by rfl) (by rfl)) (hr.mono (by decide)) (by rfl) (T.glo 58 (by rfl)) k_solved b_solved (da_cons (de_fld (c := 22) (f := 1) (T.clsOk (c := 22) 19 (x := "Receiver") (by rfl) 20 (by rfl) (by rfl) (by rfl)) (by decide) (by rfl) (de_var 0)) (da_cons (de_fld (c := 22) (f := 2) (T.clsOk (c := 22) 19 (x := "Receiver") (by rfl) 20 (by rfl) (by rfl) (by rfl)) (by decide) (by rfl) (de_var 0)) (da_nil))) (len_cons (len_cons len_nil))) (dg_tup (by rfl) (dgs_cons (dg_name sc_Receiver_left.nd (by rfl) (by first | exact Or.inl (by rfl) | exact Or.inr (by rfl))) (dgs_cons (dg_name sc_Receiver_left.nd (by rfl) (by first | exact Or.inl (by rfl) | exact Or.inr (by rfl))) (dgs_nil))))) (
    ds_cons (ds_if (dt_cmp op_notN sNotN (de_var 2) (de_non) (by rfl)) (ds_one (ds_ret (de_non))) (ds_nil)) (
    ds_one (ds_ret (de_call h_many_open (takes_of (by rfl) (by rfl) (by rfl) (by rfl)) (hr.mono (by decide)) (by rfl) (T.glo 59 (by rfl)) k_many_open b_many_open (da_cons (de_fld (c := 22) (f := 1) (T.clsOk (c := 22) 19 (x := "Receiver") (by rfl) 20 (by rfl) (by rfl) (by rfl)) (by decide) (by rfl) (de_var 0)) (da_cons (de_var 1) (da_nil))) (len_cons (len_cons len_nil))))))
theorem sc_data_by : FnScope n_data_by ["code", "came", "solving", "chosen"] (defScope (top 34)) := ⟨rfl, rfl, rfl, by decide +kernel, rfl, by decide +kernel, by decide +kernel⟩
theorem ok_data_by (T : Tp cks fa fn K mg) : ∃ fd, PySem.W.keepIn K (.ref (He.fAd K ("data_by", none))) = true ∧ Binds K fd ["code", "came", "solving", "chosen"] [] ∧ FnOk P w K mg base (L2.CX P w) 5 (He.fAd K ("data_by", none)) fd ["code", "came", "solving", "chosen"] (spF K mg 4 m_data_by) := by
  obtain ⟨fd, D⟩ := T.def_ 19 (d := d_data_by) rfl
  obtain ⟨_, k_Solving_rows, b_Solving_rows, h_Solving_rows⟩ := ok_Solving_rows (P := P) (w := w) (base := base) T
  obtain ⟨_, k_sum_of, b_sum_of, h_sum_of⟩ := ok_sum_of (P := P) (w := w) (base := base) T
  obtain ⟨_, k_left_at, b_left_at, h_left_at⟩ := ok_left_at (P := P) (w := w) (base := base) T
  obtain ⟨_, k_spots_in, b_spots_in, h_spots_in⟩ := ok_spots_in (P := P) (w := w) (base := base) T
  have D0 : FunD K "data_by" "data_by" (defArgs (top 34)) (defBody (top 34)) (defScope (top 34)) [] [] (He.fAd K ("data_by", none)) fd := D
  refine ⟨fd, D0.kp, D0.bindsN (fun _ _ _ _ _ _ us hl => match us, hl with | [_, _, _, _], _ => rfl), def_ok (N := n_data_by) (ps := ["code", "came", "solving", "chosen"]) (k := 4) (b := s_data_by) D0 sc_data_by fun cdv A outer s H E hr => ?_⟩
  exact ds_cons (ds_set (i := 4) sc_data_by.nd (by rfl) (by first | exact Or.inl (by rfl) | exact Or.inr (by rfl)) (de_callT call_list_of (sList (fz := false)) (by rfl) (T.free 8 (by rfl)) b_list (da_cons (de_var 3) (da_nil)))) (
    ds_cons (ds_for (passes_of (by rfl)) (by rfl) (di_list (de_m0 (c := 21) (de_var 2) (T.glo 37 (by rfl)) (He.cls_ok (T.fact 38 (by rfl))) (He.meth_ok (T.fact 57 (by rfl))) h_Solving_rows (takes_of (by rfl) (by rfl) (by rfl) (by rfl)) (hr.mono (by decide)) b_Solving_rows (fldNo_by rfl))) (dg_tup (by rfl) (dgs_cons (dg_name sc_data_by.nd (by rfl) (by first | exact Or.inl (by rfl) | exact Or.inr (by rfl))) (dgs_cons (dg_name sc_data_by.nd (by rfl) (by first | exact Or.inl (by rfl) | exact Or.inr (by rfl))) (dgs_cons (dg_name sc_data_by.nd (by rfl) (by first | exact Or.inl (by rfl) | exact Or.inr (by rfl))) (dgs_nil))))) (ds_cons (ds_set (i := 8) sc_data_by.nd (by rfl) (by first | exact Or.inl (by rfl) | exact Or.inr (by rfl)) (de_op op_sub opI0_snd (de_bits (de_var 5)) (de_int))) (
    ds_cons (ds_setLc true (i := 9) (c := .nm 10) (by rfl) sc_data_by.nd (by rfl) (by rfl) (by rfl) (di_range1 (by rfl) (T.free 2 (by rfl)) (de_callB call_lenA sLen (by rfl) (T.free 4 (by rfl)) b_len (da_cons (de_var 3) (da_nil)))) (blkOk_by (own := [("k", 10)]) (by kernel_rfl)) (by decide) (fun _ _ _ _ _ => dgc_name sc_data_by.nd (by rfl) (by first | exact Or.inl (by rfl) | exact Or.inr (by rfl))) (fun _ _ _ _ _ => dts_one ((dw_and (dt_cmp (op_neD (hu64 hr)) sNe (de_var 10) (de_var 8) (by rfl)) (dw_and1 (dt_cmp (op_eqD (hu64 hr)) sEq (de_op op_and opI0_snd (de_op op_shr sShr (de_var 6) (de_var 10)) (de_int)) (de_int) (by rfl)))).pt)) (fun _ _ _ _ _ => de_ix ix_seq sIx (de_var 3) (de_var 10))) (
    ds_one (ds_asg (de_call h_sum_of (takes_of (by rfl) (by rfl) (by rfl) (by rfl)) (hr.mono (by decide)) (by rfl) (T.glo 51 (by rfl)) k_sum_of b_sum_of (da_cons (de_op op_addAll (sAdd (fz := true)) (de_var 9) (de_lst true (da_cons (de_call h_left_at (takes_of (by rfl) (by rfl) (by rfl) (by rfl)) (hr.mono (by decide)) (by rfl) (T.glo 56 (by rfl)) k_left_at b_left_at (da_cons (de_var 0) (da_cons (de_var 1) (da_cons (de_call h_spots_in (takes_of (by rfl) (by rfl) (by rfl) (by rfl)) (hr.mono (by decide)) (by rfl) (T.glo 55 (by rfl)) k_spots_in b_spots_in (da_cons (de_var 7) (da_nil)) (len_cons len_nil)) (da_nil)))) (len_cons (len_cons (len_cons len_nil)))) (da_nil)))) (da_nil)) (len_cons len_nil)) (dg_ix (de_var 4) (de_var 8))))))) (
    ds_one (ds_ret (de_frz (de_var 4)))))
theorem sc_Receiver_known : FnScope n_Receiver_known ["self"] (defScope (inClass (top 36) 5)) := ⟨rfl, rfl, rfl, by decide +kernel, rfl, by decide +kernel, by decide +kernel⟩
theorem ok_Receiver_known (T : Tp cks fa fn K mg) : ∃ fd, PySem.W.keepIn K (.ref (He.fAd K ("Receiver", some "known"))) = true ∧ Binds K fd ["self"] [] ∧ FnOk P w K mg base (L2.CX P w) 7 (He.fAd K ("Receiver", some "known")) fd ["self"] (spF K mg 1 m_Receiver_known) := by
  obtain ⟨fd, D⟩ := T.def_ 25 (d := d_Receiver_known) rfl
  obtain ⟨_, k_solved, b_solved, h_solved⟩ := ok_solved (P := P) (w := w) (base := base) T
  obtain ⟨_, k_data_by, b_data_by, h_data_by⟩ := ok_data_by (P := P) (w := w) (base := base) T
  obtain ⟨_, k_Solving_rows, b_Solving_rows, h_Solving_rows⟩ := ok_Solving_rows (P := P) (w := w) (base := base) T
  have D0 : FunD K "known" "Receiver.known" (defArgs (inClass (top 36) 5)) (defBody (inClass (top 36) 5)) (defScope (inClass (top 36) 5)) [] [] (He.fAd K ("Receiver", some "known")) fd := D
  refine ⟨fd, D0.kp, D0.bindsN (fun _ _ _ _ _ _ us hl => match us, hl with | [_], _ => rfl), def_ok (N := n_Receiver_known) (ps := ["self"]) (k := 6) (b := s_Receiver_known) D0 sc_Receiver_known fun cdv A outer s H E hr => ?_⟩
  exact ds_cons (ds_asg (de_call h_solved (takes_of (by rfl) (by rfl) (by rfl) (by rfl)) (hr.mono (by decide)) (by rfl) (T.glo 58 (by rfl)) k_solved b_solved (da_cons (de_fld (c := 22) (f := 1) (T.clsOk (c := 22) 19 (x := "Receiver") (by rfl) 20 (by rfl) (by rfl) (by rfl)) (by decide) (by rfl) (de_var 0)) (da_cons (de_fld (c := 22) (f := 2) (T.clsOk (c := 22) 19 (x := "Receiver") (by rfl) 20 (by rfl) (by rfl) (by rfl)) (by decide) (by rfl) (de_var 0)) (da_nil))) (len_cons (len_cons len_nil))) (dg_tup (by rfl) (dgs_cons (dg_name sc_Receiver_known.nd (by rfl) (by first | exact Or.inl (by rfl) | exact Or.inr (by rfl))) (dgs_cons (dg_name sc_Receiver_known.nd (by rfl) (by first | exact Or.inl (by rfl) | exact Or.inr (by rfl))) (dgs_nil))))) (
    ds_cons (ds_set (i := 3) sc_Receiver_known.nd (by rfl) (by first | exact Or.inl (by rfl) | exact Or.inr (by rfl)) (de_callB call_lenA sLen (by rfl) (T.free 4 (by rfl)) b_len (da_cons (de_ix ix_seq sIx (de_fld (c := 22) (f := 1) (T.clsOk (c := 22) 19 (x := "Receiver") (by rfl) 20 (by rfl) (by rfl) (by rfl)) (by decide) (by rfl) (de_var 0)) (de_int)) (da_nil)))) (
    ds_cons (ds_if (dt_cmp op_notN sNotN (de_var 2) (de_non) (by rfl)) (ds_one (ds_ret (de_op op_mulAll (sMul (fz := true)) (de_lst true (da_cons (de_non) (da_nil))) (de_var 3)))) (ds_nil)) (
    ds_cons (ds_set (i := 4) sc_Receiver_known.nd (by rfl) (by first | exact Or.inl (by rfl) | exact Or.inr (by rfl)) (de_call h_data_by (takes_of (by rfl) (by rfl) (by rfl) (by rfl)) (hr.mono (by decide)) (by rfl) (T.glo 60 (by rfl)) k_data_by b_data_by (da_cons (de_fld (c := 22) (f := 1) (T.clsOk (c := 22) 19 (x := "Receiver") (by rfl) 20 (by rfl) (by rfl) (by rfl)) (by decide) (by rfl) (de_var 0)) (da_cons (de_fld (c := 22) (f := 2) (T.clsOk (c := 22) 19 (x := "Receiver") (by rfl) 20 (by rfl) (by rfl) (by rfl)) (by decide) (by rfl) (de_var 0)) (da_cons (de_var 1) (da_cons (de_op op_mulAll (sMul (fz := true)) (de_lst true (da_cons (de_int) (da_nil))) (de_var 3)) (da_nil))))) (len_cons (len_cons (len_cons (len_cons len_nil)))))) (
    ds_cons (ds_set (i := 5) sc_Receiver_known.nd (by rfl) (by first | exact Or.inl (by rfl) | exact Or.inr (by rfl)) (de_lc true (c := .tp [6, 7, 8]) (by rfl) sc_Receiver_known.nd (di_list (de_m0 (c := 21) (de_var 1) (T.glo 37 (by rfl)) (He.cls_ok (T.fact 38 (by rfl))) (He.meth_ok (T.fact 57 (by rfl))) h_Solving_rows (takes_of (by rfl) (by rfl) (by rfl) (by rfl)) (hr.mono (by decide)) b_Solving_rows (fldNo_by rfl))) (blkOk_by (own := [("head", 6), ("mask", 7), ("made", 8)]) (by kernel_rfl)) (by decide) (fun _ _ _ _ _ => dgc_tup (by rfl) (dgc_cons (dgc_name sc_Receiver_known.nd (by rfl) (by first | exact Or.inl (by rfl) | exact Or.inr (by rfl))) (dgc_cons (dgc_name sc_Receiver_known.nd (by rfl) (by first | exact Or.inl (by rfl) | exact Or.inr (by rfl))) (dgc_cons (dgc_name sc_Receiver_known.nd (by rfl) (by first | exact Or.inl (by rfl) | exact Or.inr (by rfl))) (dgc_nil))))) (fun _ _ _ _ _ => dts_one (dt_cmp (op_eqD (hu64 hr)) sEq (de_var 7) (de_var 6) (by rfl))) (fun _ _ _ _ _ => de_var 7))) (
    ds_one (ds_ret (de_lc true (c := .tp [9, 10]) (by rfl) sc_Receiver_known.nd (di_enum (by rfl) (T.free 47 (by rfl)) (de_var 4)) (blkOk_by (own := [("number", 9), ("sign", 10)]) (by kernel_rfl)) (by decide) (fun _ _ _ _ _ => dgc_tup (by rfl) (dgc_cons (dgc_name sc_Receiver_known.nd (by rfl) (by first | exact Or.inl (by rfl) | exact Or.inr (by rfl))) (dgc_cons (dgc_name sc_Receiver_known.nd (by rfl) (by first | exact Or.inl (by rfl) | exact Or.inr (by rfl))) (dgc_nil)))) (fun _ _ _ _ _ => dts_nil) (fun _ _ _ _ _ => de_ix ix_seq sIx (de_lst true (da_cons (de_non) (da_cons (de_var 10) (da_nil)))) (de_callT call_int1 sInt (by rfl) (T.free 1 (by rfl)) b_int (da_cons (de_cmp op_in_seq (sIn (neg := false)) (de_op op_shl sShl (de_int) (de_var 9)) (de_var 5) (by rfl)) (da_nil)))))))))))
theorem sc_law_kind : FnScope n_law_kind ["_law_error"] (defScope (top 43)) := ⟨rfl, rfl, rfl, by decide +kernel, rfl, by decide +kernel, by decide +kernel⟩
theorem ok_law_kind (T : Tp cks fa fn K mg) : ∃ fd, PySem.W.keepIn K (.ref (He.fAd K ("_law_kind", none))) = true ∧ Binds K fd ["_law_error"] [] ∧ FnOk P w K mg base (L2.CX P w) 1 (He.fAd K ("_law_kind", none)) fd ["_law_error"] (spF K mg 1 m_law_kind) := by
  obtain ⟨fd, D⟩ := T.def_ 29 (d := d_law_kind) rfl
  have D0 : FunD K "_law_kind" "_law_kind" (defArgs (top 43)) (defBody (top 43)) (defScope (top 43)) [] [] (He.fAd K ("_law_kind", none)) fd := D
  refine ⟨fd, D0.kp, D0.bindsN (fun _ _ _ _ _ _ us hl => match us, hl with | [_], _ => rfl), def_ok (N := n_law_kind) (ps := ["_law_error"]) (k := 0) (b := s_law_kind) D0 sc_law_kind fun cdv A outer s H E hr => ?_⟩
  exact ds_cons (ds_set (i := 1) sc_law_kind.nd (by rfl) (by first | exact Or.inl (by rfl) | exact Or.inr (by rfl)) (de_lst false (da_cons (de_isx (by rfl) (T.free 5 (by rfl)) (ClsN.own (by rfl) (T.glo 17 (by rfl)) (by decide)) (T.isx 1 (l := [(0, false), (1, false), (3, false), (9, true), (10, false), (11, false), (15, false), (16, false), (17, false)]) (cs := [(true, "NoCode", "")]) (by rfl)) (de_var 0)) (da_cons (de_isx (by rfl) (T.free 5 (by rfl)) (ClsN.own (by rfl) (T.glo 29 (by rfl)) (by decide)) (T.isx 2 (l := [(0, false), (1, false), (3, true), (9, false), (10, false), (11, false), (15, false), (16, false), (17, false)]) (cs := [(true, "NoPlace", "")]) (by rfl)) (de_var 0)) (da_cons (de_isx (by rfl) (T.free 5 (by rfl)) (ClsN.own (by rfl) (T.glo 32 (by rfl)) (by decide)) (T.isx 3 (l := [(0, false), (1, false), (3, false), (9, false), (10, false), (11, false), (15, true), (16, false), (17, false)]) (cs := [(true, "NoSign", "")]) (by rfl)) (de_var 0)) (da_nil)))))) (
    ds_cons (ds_expr (de_bm PySem.F.slot_list_append (by rfl) mt_append sAppend (de_var 1) (da_cons (de_isx (by rfl) (T.free 5 (by rfl)) (ClsN.own (by rfl) (T.glo 34 (by rfl)) (by decide)) (T.isx 4 (l := [(0, false), (1, false), (3, false), (9, false), (10, false), (11, false), (15, false), (16, true), (17, false)]) (cs := [(true, "Clash", "")]) (by rfl)) (de_var 0)) (da_nil)))) (
    ds_cons (ds_if ((dw_or (dt_val (de_isxT (by rfl) (T.free 5 (by rfl)) (ClsNs.cons (ClsN.own (by rfl) (T.glo 63 (by rfl)) (by decide)) (by rfl) (ClsNs.cons (ClsN.own (by rfl) (T.glo 62 (by rfl)) (by decide)) (by rfl) (ClsNs.cons (ClsN.own (by rfl) (T.glo 61 (by rfl)) (by decide)) (by rfl) ClsNs.nil))) (small64 (by simp)) (T.isx 5 (l := [(0, false), (1, true), (3, false), (9, false), (10, true), (11, true), (15, false), (16, false), (17, false)]) (cs := [(true, "NoCame", ""), (true, "NoData", ""), (true, "NoSize", "")]) (by rfl)) (de_var 0))) (dw_or (dt_not (dt_val (de_isx (by rfl) (T.free 5 (by rfl)) (ClsN.blt (by rfl) (T.free 64 (by rfl)) b_ValueError (by decide) (by decide)) (T.isx 6 (l := [(0, true), (1, true), (3, true), (9, true), (10, true), (11, true), (15, true), (16, true), (17, true)]) (cs := [(false, "", "ValueError")]) (by rfl)) (de_var 0)))) (dw_or1 (dt_cmp (op_neD (hu64 hr)) sNe (de_callB (cr_sumAll (by rfl)) sSumAll (by rfl) (T.free 49 (by rfl)) b_sum (da_cons (de_var 1) (da_nil))) (de_int) (by rfl))))).pt) (ds_one (ds_ret (de_str))) (ds_nil)) (
    ds_one (ds_ret (de_ix ix_seq sIx (de_lst true (da_cons (de_str) (da_cons (de_str) (da_cons (de_str) (da_cons (de_str) (da_nil)))))) (de_bm PySem.F.slot_list_index (by rfl) mt_index sIndex (de_var 1) (da_cons (de_bl) (da_nil))))))))
theorem sc_law_heard : FnScope n_law_heard ["_law_receiver", "_law_spot", "_law_sign"] (defScope (top 45)) := ⟨rfl, rfl, rfl, by decide +kernel, rfl, by decide +kernel, by decide +kernel⟩
theorem ok_law_heard (T : Tp cks fa fn K mg) : ∃ fd, PySem.W.keepIn K (.ref (He.fAd K ("_law_heard", none))) = true ∧ Binds K fd ["_law_receiver", "_law_spot", "_law_sign"] [] ∧ FnOk P w K mg base (L2.CX P w) 7 (He.fAd K ("_law_heard", none)) fd ["_law_receiver", "_law_spot", "_law_sign"] (spF K mg 3 m_law_heard) := by
  obtain ⟨fd, D⟩ := T.def_ 31 (d := d_law_heard) rfl
  obtain ⟨_, k_law_kind, b_law_kind, h_law_kind⟩ := ok_law_kind (P := P) (w := w) (base := base) T
  obtain ⟨_, k_Receiver_hear, b_Receiver_hear, h_Receiver_hear⟩ := ok_Receiver_hear (P := P) (w := w) (base := base) T
  have D0 : FunD K "_law_heard" "_law_heard" (defArgs (top 45)) (defBody (top 45)) (defScope (top 45)) [] [] (He.fAd K ("_law_heard", none)) fd := D
  refine ⟨fd, D0.kp, D0.bindsN (fun _ _ _ _ _ _ us hl => match us, hl with | [_, _, _], _ => rfl), def_ok (N := n_law_heard) (ps := ["_law_receiver", "_law_spot", "_law_sign"]) (k := 6) (b := s_law_heard) D0 sc_law_heard fun cdv A outer s H E hr => ?_⟩
  exact ds_cons (ds_set (i := 3) sc_law_heard.nd (by rfl) (by first | exact Or.inl (by rfl) | exact Or.inr (by rfl)) (de_non)) (
    ds_cons (ds_try (i := 4) (by rfl) (by rfl) (by rfl) sc_law_heard.nd (by rfl) (by rfl) ⟨(by rfl), by decide, .inl (T.glo 65 (by rfl))⟩ (takes_of (by rfl) (by rfl) (by rfl) (by rfl)) (T.exm 7 (l := [(0, true), (1, true), (3, true), (9, true), (10, true), (11, true), (15, true), (16, true), (17, true)]) (c := (true, "HealError", "")) (by rfl)) (fun W pn xe tk po => ds_one (ds_expr (de_m (c := 22) (de_var 0) (T.glo 19 (by rfl)) (He.cls_ok (T.fact 20 (by rfl))) (He.meth_ok (T.fact 66 (by rfl))) h_Receiver_hear tk (hr.mono (by decide)) b_Receiver_hear (da_cons (de_var 1) (da_cons (de_var 2) (da_nil))) (len_cons (len_cons len_nil)) (fldNo_by rfl)))) (fun _ _ => ds_one (ds_set (i := 3) sc_law_heard.nd (by rfl) (by first | exact Or.inl (by rfl) | exact Or.inr (by rfl)) (de_var 4)))) (
    ds_cons (ds_if (dt_cmp op_isN sIsN (de_var 3) (de_non) (by rfl)) (ds_one (ds_ret (de_str))) (ds_nil)) (
    ds_one (ds_ret (de_call h_law_kind (takes_of (by rfl) (by rfl) (by rfl) (by rfl)) (hr.mono (by decide)) (by rfl) (T.glo 67 (by rfl)) k_law_kind b_law_kind (da_cons (de_var 3) (da_nil)) (len_cons len_nil))))))
theorem sc_law_right : FnScope n_law_right ["_law_state", "_law_receiver", "_law_many", "_law_heard_here"] (defScope (top 46)) := ⟨rfl, rfl, rfl, by decide +kernel, rfl, by decide +kernel, by decide +kernel⟩
theorem ok_law_right (T : Tp cks fa fn K mg) : ∃ fd, PySem.W.keepIn K (.ref (He.fAd K ("_law_right", none))) = true ∧ Binds K fd ["_law_state", "_law_receiver", "_law_many", "_law_heard_here"] [] ∧ FnOk P w K mg base (L2.CX P w) 9 (He.fAd K ("_law_right", none)) fd ["_law_state", "_law_receiver", "_law_many", "_law_heard_here"] (spF K mg 4 m_law_right) := by
  obtain ⟨fd, D⟩ := T.def_ 32 (d := d_law_right) rfl
  obtain ⟨_, k_Receiver_forget, b_Receiver_forget, h_Receiver_forget⟩ := ok_Receiver_forget (P := P) (w := w) (base := base) T
  obtain ⟨_, k_Receiver_came, b_Receiver_came, h_Receiver_came⟩ := ok_Receiver_came (P := P) (w := w) (base := base) T
  obtain ⟨_, k_Receiver_left, b_Receiver_left, h_Receiver_left⟩ := ok_Receiver_left (P := P) (w := w) (base := base) T
  obtain ⟨_, k_Receiver_known, b_Receiver_known, h_Receiver_known⟩ := ok_Receiver_known (P := P) (w := w) (base := base) T
  obtain ⟨_, k_law_take, b_law_take, h_law_take⟩ := ok_law_take (P := P) (w := w) (base := base) T
  obtain ⟨_, k_law_heard, b_law_heard, h_law_heard⟩ := ok_law_heard (P := P) (w := w) (base := base) T
  have D0 : FunD K "_law_right" "_law_right" (defArgs (top 46)) (defBody (top 46)) (defScope (top 46)) [] [] (He.fAd K ("_law_right", none)) fd := D
  refine ⟨fd, D0.kp, D0.bindsN (fun _ _ _ _ _ _ us hl => match us, hl with | [_, _, _, _], _ => rfl), def_ok (N := n_law_right) (ps := ["_law_state", "_law_receiver", "_law_many", "_law_heard_here"]) (k := 8) (b := s_law_right) D0 sc_law_right fun cdv A outer s H E hr => ?_⟩
  exact ds_cons (ds_set (i := 4) sc_law_right.nd (by rfl) (by first | exact Or.inl (by rfl) | exact Or.inr (by rfl)) (de_lst true (da_cons (de_m0 (c := 22) (de_var 1) (T.glo 19 (by rfl)) (He.cls_ok (T.fact 20 (by rfl))) (He.meth_ok (T.fact 68 (by rfl))) h_Receiver_came (takes_of (by rfl) (by rfl) (by rfl) (by rfl)) (hr.mono (by decide)) b_Receiver_came (fldNo_by rfl)) (da_cons (de_m0 (c := 22) (de_var 1) (T.glo 19 (by rfl)) (He.cls_ok (T.fact 20 (by rfl))) (He.meth_ok (T.fact 69 (by rfl))) h_Receiver_left (takes_of (by rfl) (by rfl) (by rfl) (by rfl)) (hr.mono (by decide)) b_Receiver_left (fldNo_by rfl)) (da_cons (de_m0 (c := 22) (de_var 1) (T.glo 19 (by rfl)) (He.cls_ok (T.fact 20 (by rfl))) (He.meth_ok (T.fact 70 (by rfl))) h_Receiver_known (takes_of (by rfl) (by rfl) (by rfl) (by rfl)) (hr.mono (by decide)) b_Receiver_known (fldNo_by rfl)) (da_nil)))))) (
    ds_cons (ds_asg (de_ix ix_seq sIx (de_var 3) (de_call h_law_take (takes_of (by rfl) (by rfl) (by rfl) (by rfl)) (hr.mono (by decide)) (by rfl) (T.glo 3 (by rfl)) k_law_take b_law_take (da_cons (de_var 0) (da_cons (de_callB call_lenA sLen (by rfl) (T.free 4 (by rfl)) b_len (da_cons (de_var 3) (da_nil))) (da_nil))) (len_cons (len_cons len_nil)))) (dg_tup (by rfl) (dgs_cons (dg_name sc_law_right.nd (by rfl) (by first | exact Or.inl (by rfl) | exact Or.inr (by rfl))) (dgs_cons (dg_name sc_law_right.nd (by rfl) (by first | exact Or.inl (by rfl) | exact Or.inr (by rfl))) (dgs_nil))))) (
    ds_cons (ds_set (i := 7) sc_law_right.nd (by rfl) (by first | exact Or.inl (by rfl) | exact Or.inr (by rfl)) (de_ix ix_seq sIx (de_lst true (da_cons (de_str) (da_cons (de_str) (da_nil)))) (de_call h_law_take (takes_of (by rfl) (by rfl) (by rfl) (by rfl)) (hr.mono (by decide)) (by rfl) (T.glo 3 (by rfl)) k_law_take b_law_take (da_cons (de_var 0) (da_cons (de_int) (da_nil))) (len_cons (len_cons len_nil))))) (
    ds_cons (ds_if (dt_cmp (op_eqD (hu64 hr)) sEq (de_var 7) (de_str) (by rfl)) (ds_one (ds_set (i := 6) sc_law_right.nd (by rfl) (by first | exact Or.inl (by rfl) | exact Or.inr (by rfl)) (de_op op_sub opI0_snd (de_int) (de_var 6)))) (ds_nil)) (
    ds_cons (ds_if (dt_cmp (op_eqD (hu64 hr)) sEq (de_call h_law_take (takes_of (by rfl) (by rfl) (by rfl) (by rfl)) (hr.mono (by decide)) (by rfl) (T.glo 3 (by rfl)) k_law_take b_law_take (da_cons (de_var 0) (da_cons (de_int) (da_nil))) (len_cons (len_cons len_nil))) (de_int) (by rfl)) (ds_cons (ds_set (i := 6) sc_law_right.nd (by rfl) (by first | exact Or.inl (by rfl) | exact Or.inr (by rfl)) (de_ix ix_seq sIx (de_lst true (da_cons (de_int) (da_cons (de_un un_neg sNeg (de_int)) (da_cons (de_bl) (da_cons (de_bl) (da_cons (de_non) (da_cons (de_str) (da_cons (de_lst true (da_cons (de_int) (da_nil))) (da_cons (de_op op_pow sPow (de_int) (de_int)) (da_nil)))))))))) (de_call h_law_take (takes_of (by rfl) (by rfl) (by rfl) (by rfl)) (hr.mono (by decide)) (by rfl) (T.glo 3 (by rfl)) k_law_take b_law_take (da_cons (de_var 0) (da_cons (de_int) (da_nil))) (len_cons (len_cons len_nil))))) (
    ds_one (ds_set (i := 7) sc_law_right.nd (by rfl) (by first | exact Or.inl (by rfl) | exact Or.inr (by rfl)) (de_str)))) (ds_nil)) (
    ds_cons (ds_if (dt_cmp (op_eqD (hu64 hr)) sEq (de_call h_law_take (takes_of (by rfl) (by rfl) (by rfl) (by rfl)) (hr.mono (by decide)) (by rfl) (T.glo 3 (by rfl)) k_law_take b_law_take (da_cons (de_var 0) (da_cons (de_int) (da_nil))) (len_cons (len_cons len_nil))) (de_int) (by rfl)) (ds_cons (ds_set (i := 5) sc_law_right.nd (by rfl) (by first | exact Or.inl (by rfl) | exact Or.inr (by rfl)) (de_ix ix_seq sIx (de_lst true (da_cons (de_var 2) (da_cons (de_un un_neg sNeg (de_int)) (da_cons (de_bl) (da_cons (de_bl) (da_cons (de_non) (da_cons (de_str) (da_cons (de_lst true (da_cons (de_int) (da_nil))) (da_cons (de_op op_pow sPow (de_int) (de_int)) (da_nil)))))))))) (de_call h_law_take (takes_of (by rfl) (by rfl) (by rfl) (by rfl)) (hr.mono (by decide)) (by rfl) (T.glo 3 (by rfl)) k_law_take b_law_take (da_cons (de_var 0) (da_cons (de_int) (da_nil))) (len_cons (len_cons len_nil))))) (
    ds_one (ds_set (i := 7) sc_law_right.nd (by rfl) (by first | exact Or.inl (by rfl) | exact Or.inr (by rfl)) (de_str)))) (ds_nil)) (
    ds_cons (ds_if (dt_cmp (op_neD (hu64 hr)) sNe (de_call h_law_heard (takes_of (by rfl) (by rfl) (by rfl) (by rfl)) (hr.mono (by decide)) (by rfl) (T.glo 71 (by rfl)) k_law_heard b_law_heard (da_cons (de_var 1) (da_cons (de_var 5) (da_cons (de_var 6) (da_nil)))) (len_cons (len_cons (len_cons len_nil)))) (de_var 7) (by rfl)) (ds_one (ds_ret (de_bl))) (ds_nil)) (
    ds_cons (ds_if (dt_cmp (op_neD (hu64 hr)) sNe (de_lst true (da_cons (de_m0 (c := 22) (de_var 1) (T.glo 19 (by rfl)) (He.cls_ok (T.fact 20 (by rfl))) (He.meth_ok (T.fact 68 (by rfl))) h_Receiver_came (takes_of (by rfl) (by rfl) (by rfl) (by rfl)) (hr.mono (by decide)) b_Receiver_came (fldNo_by rfl)) (da_cons (de_m0 (c := 22) (de_var 1) (T.glo 19 (by rfl)) (He.cls_ok (T.fact 20 (by rfl))) (He.meth_ok (T.fact 69 (by rfl))) h_Receiver_left (takes_of (by rfl) (by rfl) (by rfl) (by rfl)) (hr.mono (by decide)) b_Receiver_left (fldNo_by rfl)) (da_cons (de_m0 (c := 22) (de_var 1) (T.glo 19 (by rfl)) (He.cls_ok (T.fact 20 (by rfl))) (He.meth_ok (T.fact 70 (by rfl))) h_Receiver_known (takes_of (by rfl) (by rfl) (by rfl) (by rfl)) (hr.mono (by decide)) b_Receiver_known (fldNo_by rfl)) (da_nil))))) (de_var 4) (by rfl)) (ds_one (ds_ret (de_bl))) (ds_nil)) (
    ds_cons (ds_set (i := 8) sc_law_right.nd (by rfl) (by first | exact Or.inl (by rfl) | exact Or.inr (by rfl)) (de_ix ix_seq sIx (de_var 3) (de_un un_neg sNeg (de_int)))) (
    ds_cons (ds_expr (de_m0 (c := 22) (de_var 1) (T.glo 19 (by rfl)) (He.cls_ok (T.fact 20 (by rfl))) (He.meth_ok (T.fact 72 (by rfl))) h_Receiver_forget (takes_of (by rfl) (by rfl) (by rfl) (by rfl)) (hr.mono (by decide)) b_Receiver_forget (fldNo_by rfl))) (
    ds_cons (ds_set (i := 7) sc_law_right.nd (by rfl) (by first | exact Or.inl (by rfl) | exact Or.inr (by rfl)) (de_callT call_list_of (sList (fz := false)) (by rfl) (T.free 8 (by rfl)) b_list (da_cons (de_ix ix_seq sIx (de_var 4) (de_int)) (da_nil)))) (
    ds_cons (ds_asg (de_non) (dg_ix (de_var 7) (de_ix ix_seq sIx (de_var 8) (de_int)))) (
    ds_one (ds_ret (de_and (de_cmp (op_eqD (hu64 hr)) sEq (de_m0 (c := 22) (de_var 1) (T.glo 19 (by rfl)) (He.cls_ok (T.fact 20 (by rfl))) (He.meth_ok (T.fact 68 (by rfl))) h_Receiver_came (takes_of (by rfl) (by rfl) (by rfl) (by rfl)) (hr.mono (by decide)) b_Receiver_came (fldNo_by rfl)) (de_var 7) (by rfl)) (de_one (de_cmp (op_eqD (hu64 hr)) sEq (de_call h_law_heard (takes_of (by rfl) (by rfl) (by rfl) (by rfl)) (hr.mono (by decide)) (by rfl) (T.glo 71 (by rfl)) k_law_heard b_law_heard (da_cons (de_var 1) (da_cons (de_ix ix_seq sIx (de_var 8) (de_int)) (da_cons (de_ix ix_seq sIx (de_var 8) (de_int)) (da_nil)))) (len_cons (len_cons (len_cons len_nil)))) (de_str) (by rfl)))))))))))))))))
theorem sc_law_made : FnScope n_law_made ["_law_code_here"] (defScope (top 44)) := ⟨rfl, rfl, rfl, by decide +kernel, rfl, by decide +kernel, by decide +kernel⟩
theorem ok_law_made (T : Tp cks fa fn K mg) : ∃ fd, PySem.W.keepIn K (.ref (He.fAd K ("_law_made", none))) = true ∧ Binds K fd ["_law_code_here"] [] ∧ FnOk P w K mg base (L2.CX P w) 13 (He.fAd K ("_law_made", none)) fd ["_law_code_here"] (spF K mg 1 m_law_made) := by
  obtain ⟨fd, D⟩ := T.def_ 30 (d := d_law_made) rfl
  obtain ⟨_, k_law_kind, b_law_kind, h_law_kind⟩ := ok_law_kind (P := P) (w := w) (base := base) T
  obtain ⟨_, k_Receiver_init, b_Receiver_init, h_Receiver_init⟩ := ok_Receiver_init (P := P) (w := w) (base := base) T
  have D0 : FunD K "_law_made" "_law_made" (defArgs (top 44)) (defBody (top 44)) (defScope (top 44)) [] [] (He.fAd K ("_law_made", none)) fd := D
  refine ⟨fd, D0.kp, D0.bindsN (fun _ _ _ _ _ _ us hl => match us, hl with | [_], _ => rfl), def_ok (N := n_law_made) (ps := ["_law_code_here"]) (k := 12) (b := s_law_made) D0 sc_law_made fun cdv A outer s H E hr => ?_⟩
  exact ds_cons (ds_set (i := 1) sc_law_made.nd (by rfl) (by first | exact Or.inl (by rfl) | exact Or.inr (by rfl)) (de_non)) (
    ds_cons (ds_try (i := 2) (by rfl) (by rfl) (by rfl) sc_law_made.nd (by rfl) (by rfl) ⟨(by rfl), by decide, .inl (T.glo 65 (by rfl))⟩ (takes_of (by rfl) (by rfl) (by rfl) (by rfl)) (T.exm 7 (l := [(0, true), (1, true), (3, true), (9, true), (10, true), (11, true), (15, true), (16, true), (17, true)]) (c := (true, "HealError", "")) (by rfl)) (fun W pn xe tk po => ds_one (ds_expr (de_mk (c := 22) (He.mkr_ok (T.fact 73 (by rfl))) h_Receiver_init tk (hr.mono (by decide)) (by rfl) (T.glo 19 (by rfl)) (by rfl) b_Receiver_init (da_cons (de_var 0) (da_nil)) (len_cons len_nil)))) (fun _ _ => ds_one (ds_set (i := 1) sc_law_made.nd (by rfl) (by first | exact Or.inl (by rfl) | exact Or.inr (by rfl)) (de_var 2)))) (
    ds_cons (ds_if (dt_cmp op_isN sIsN (de_var 1) (de_non) (by rfl)) (ds_one (ds_ret (de_str))) (ds_nil)) (
    ds_one (ds_ret (de_call h_law_kind (takes_of (by rfl) (by rfl) (by rfl) (by rfl)) (hr.mono (by decide)) (by rfl) (T.glo 67 (by rfl)) k_law_kind b_law_kind (da_cons (de_var 1) (da_nil)) (len_cons len_nil))))))
theorem sc_law : FnScope n_law ["_law_script"] (defScope (top 47)) := ⟨rfl, rfl, rfl, by decide +kernel, rfl, by decide +kernel, by decide +kernel⟩
theorem ok_law (T : Tp cks fa fn K mg) : LawAt P w K mg base (He.fAd K ("law", none)) (spF K mg 1 m_law) := by
  obtain ⟨fd, D⟩ := T.def_ 33 (d := d_law) rfl
  obtain ⟨_, k_law_begun, b_law_begun, h_law_begun⟩ := ok_law_begun (P := P) (w := w) (base := base) T
  obtain ⟨_, k_law_code, b_law_code, h_law_code⟩ := ok_law_code (P := P) (w := w) (base := base) T
  obtain ⟨_, k_Receiver_init, b_Receiver_init, h_Receiver_init⟩ := ok_Receiver_init (P := P) (w := w) (base := base) T
  obtain ⟨_, k_law_take, b_law_take, h_law_take⟩ := ok_law_take (P := P) (w := w) (base := base) T
  obtain ⟨_, k_Receiver_hear, b_Receiver_hear, h_Receiver_hear⟩ := ok_Receiver_hear (P := P) (w := w) (base := base) T
  obtain ⟨_, k_law_right, b_law_right, h_law_right⟩ := ok_law_right (P := P) (w := w) (base := base) T
  obtain ⟨_, k_law_made, b_law_made, h_law_made⟩ := ok_law_made (P := P) (w := w) (base := base) T
  have D0 : FunD K "law" "law" (defArgs (top 47)) (defBody (top 47)) (defScope (top 47)) [] [] (He.fAd K ("law", none)) fd := D
  refine law_ok (N := n_law) (p0 := "_law_script") (k := 15) (b := s_law) D0 sc_law ⟨rfl, by decide, by decide⟩ (fun s u => D0.bindsA (ps := ["_law_script"]) (fun _ _ _ _ _ _ us hl => match us, hl with | [_], _ => rfl) s [u] rfl) fun cdv s H E hr => ?_
  have hG : (callerA.deeper (PyProof.Rows.envOfC "law" (defScope (top 47)) s.heap.objs.size (He.fAd K ("law", none)) cdv)).guards = some [] := rfl
  exact ds_cons (ds_for (passes_of (by rfl)) (by rfl) (di_range1 (by rfl) (T.free 2 (by rfl)) (de_callB (call_max2 (by rfl)) sI2 (by rfl) (T.free 0 (by rfl)) b_max (da_cons (de_int) (da_cons (de_callB (call_min2 (by rfl)) sI2 (by rfl) (T.free 74 (by rfl)) b_min (da_cons (de_int) (da_cons (de_callB call_lenA sLen (by rfl) (T.free 4 (by rfl)) b_len (da_cons (de_var 0) (da_nil))) (da_nil)))) (da_nil))))) (dg_name sc_law.nd (by rfl) (by first | exact Or.inl (by rfl) | exact Or.inr (by rfl))) (ds_cons (ds_set (i := 2) sc_law.nd (by rfl) (by first | exact Or.inl (by rfl) | exact Or.inr (by rfl)) (de_call h_law_begun (takes_of (by rfl) (by rfl) (by rfl) (by rfl)) (hr.mono (by decide)) (by rfl) (T.glo 75 (by rfl)) k_law_begun b_law_begun (da_cons (de_var 0) (da_cons (de_var 1) (da_nil))) (len_cons (len_cons len_nil)))) (
    ds_cons (ds_set (i := 3) sc_law.nd (by rfl) (by first | exact Or.inl (by rfl) | exact Or.inr (by rfl)) (de_call h_law_code (takes_of (by rfl) (by rfl) (by rfl) (by rfl)) (hr.mono (by decide)) (by rfl) (T.glo 76 (by rfl)) k_law_code b_law_code (da_cons (de_var 2) (da_cons (de_op op_addAll (sAdd (fz := true)) (de_int) (de_call h_law_take (takes_of (by rfl) (by rfl) (by rfl) (by rfl)) (hr.mono (by decide)) (by rfl) (T.glo 3 (by rfl)) k_law_take b_law_take (da_cons (de_var 2) (da_cons (de_int) (da_nil))) (len_cons (len_cons len_nil)))) (da_nil))) (len_cons (len_cons len_nil)))) (
    ds_cons (ds_set (i := 4) sc_law.nd (by rfl) (by first | exact Or.inl (by rfl) | exact Or.inr (by rfl)) (de_op op_addAll (sAdd (fz := true)) (de_callB call_lenA sLen (by rfl) (T.free 4 (by rfl)) b_len (da_cons (de_ix ix_seq sIx (de_var 3) (de_int)) (da_nil))) (de_callB call_lenA sLen (by rfl) (T.free 4 (by rfl)) b_len (da_cons (de_ix ix_seq sIx (de_var 3) (de_int)) (da_nil))))) (
    ds_cons (ds_set (i := 5) sc_law.nd (by rfl) (by first | exact Or.inl (by rfl) | exact Or.inr (by rfl)) (de_mk (c := 22) (He.mkr_ok (T.fact 73 (by rfl))) h_Receiver_init (takes_of (by rfl) (by rfl) (by rfl) (by rfl)) (hr.mono (by decide)) (by rfl) (T.glo 19 (by rfl)) (by rfl) b_Receiver_init (da_cons (de_var 3) (da_nil)) (len_cons len_nil))) (
    ds_cons (ds_set (i := 6) sc_law.nd (by rfl) (by first | exact Or.inl (by rfl) | exact Or.inr (by rfl)) (de_lst false (da_nil))) (
    ds_cons (ds_for (passes_of (by rfl)) (by rfl) (di_range1 (by rfl) (T.free 2 (by rfl)) (de_op op_addAll (sAdd (fz := true)) (de_int) (de_call h_law_take (takes_of (by rfl) (by rfl) (by rfl) (by rfl)) (hr.mono (by decide)) (by rfl) (T.glo 3 (by rfl)) k_law_take b_law_take (da_cons (de_var 2) (da_cons (de_int) (da_nil))) (len_cons (len_cons len_nil))))) (dg_name sc_law.nd (by rfl) (by first | exact Or.inl (by rfl) | exact Or.inr (by rfl))) (ds_cons (ds_set (i := 8) sc_law.nd (by rfl) (by first | exact Or.inl (by rfl) | exact Or.inr (by rfl)) (de_call h_law_take (takes_of (by rfl) (by rfl) (by rfl) (by rfl)) (hr.mono (by decide)) (by rfl) (T.glo 3 (by rfl)) k_law_take b_law_take (da_cons (de_var 2) (da_cons (de_var 4) (da_nil))) (len_cons (len_cons len_nil)))) (
    ds_one (ds_if (dt_cmp op_notIn_seq (sIn (neg := true)) (de_var 8) (de_lc true (c := .nm 10) (by rfl) sc_law.nd (di_list (de_var 6)) (blkOk_by (own := [("_law_one", 10)]) (by kernel_rfl)) (by decide) (fun _ _ _ _ _ => dgc_name sc_law.nd (by rfl) (by first | exact Or.inl (by rfl) | exact Or.inr (by rfl))) (fun _ _ _ _ _ => dts_nil) (fun _ _ _ _ _ => de_ix ix_seq sIx (de_var 10) (de_int))) (by rfl)) (ds_cons (ds_expr (de_bm PySem.F.slot_list_append (by rfl) mt_append sAppend (de_var 6) (da_cons (de_tup (da_cons (de_var 8) (da_cons (de_call h_law_take (takes_of (by rfl) (by rfl) (by rfl) (by rfl)) (hr.mono (by decide)) (by rfl) (T.glo 3 (by rfl)) k_law_take b_law_take (da_cons (de_var 2) (da_cons (de_int) (da_nil))) (len_cons (len_cons len_nil))) (da_nil)))) (da_nil)))) (
    ds_one (ds_expr (de_m (c := 22) (de_var 5) (T.glo 19 (by rfl)) (He.cls_ok (T.fact 20 (by rfl))) (He.meth_ok (T.fact 66 (by rfl))) h_Receiver_hear (takes_of (by rfl) (by rfl) (by rfl) (by rfl)) (hr.mono (by decide)) b_Receiver_hear (da_cons (de_ix ix_seq sIx (de_ix ix_seq sIx (de_var 6) (de_un un_neg sNeg (de_int))) (de_int)) (da_cons (de_ix ix_seq sIx (de_ix ix_seq sIx (de_var 6) (de_un un_neg sNeg (de_int))) (de_int)) (da_nil))) (len_cons (len_cons len_nil)) (fldNo_by rfl))))) (ds_nil))))) (
    ds_cons (ds_for (passes_of (by rfl)) (by rfl) (di_range1 (by rfl) (T.free 2 (by rfl)) (de_int)) (dg_name sc_law.nd (by rfl) (by first | exact Or.inl (by rfl) | exact Or.inr (by rfl))) (ds_one (ds_if (dt_not (dt_val (de_call h_law_right (takes_of (by rfl) (by rfl) (by rfl) (by rfl)) (hr.mono (by decide)) (by rfl) (T.glo 77 (by rfl)) k_law_right b_law_right (da_cons (de_var 2) (da_cons (de_var 5) (da_cons (de_var 4) (da_cons (de_var 6) (da_nil))))) (len_cons (len_cons (len_cons (len_cons len_nil))))))) (ds_one (ds_ret (de_bl))) (ds_nil)))) (
    ds_one (ds_if (dt_cmp (op_eqD (hu64 hr)) sEq (de_call h_law_take (takes_of (by rfl) (by rfl) (by rfl) (by rfl)) (hr.mono (by decide)) (by rfl) (T.glo 3 (by rfl)) k_law_take b_law_take (da_cons (de_var 2) (da_cons (de_int) (da_nil))) (len_cons (len_cons len_nil))) (de_int) (by rfl)) (ds_cons (ds_set (i := 9) sc_law.nd (by rfl) (by first | exact Or.inl (by rfl) | exact Or.inr (by rfl)) (de_lst true (da_cons (de_non) (da_cons (de_lst true (da_nil)) (da_cons (de_str) (da_cons (de_tup (da_cons (de_ix ix_seq sIx (de_var 3) (de_int)) (da_cons (de_lst true (da_nil)) (da_cons (de_ix ix_seq sIx (de_var 3) (de_int)) (da_nil))))) (da_cons (de_cut true (de_var 3) do_no (do_some (de_int))) (da_cons (de_lst true (da_cons (de_ix ix_seq sIx (de_var 3) (de_int)) (da_cons (de_ix ix_seq sIx (de_var 3) (de_int)) (da_cons (de_ix ix_seq sIx (de_var 3) (de_int)) (da_nil))))) (da_nil))))))))) (
    ds_cons (ds_set (i := 9) sc_law.nd (by rfl) (by first | exact Or.inl (by rfl) | exact Or.inr (by rfl)) (de_op op_addAll (sAdd (fz := true)) (de_var 9) (de_lst true (da_cons (de_tup (da_cons (de_int) (da_cons (de_ix ix_seq sIx (de_var 3) (de_int)) (da_cons (de_ix ix_seq sIx (de_var 3) (de_int)) (da_nil))))) (da_cons (de_tup (da_cons (de_ix ix_seq sIx (de_var 3) (de_int)) (da_cons (de_ix ix_seq sIx (de_var 3) (de_int)) (da_cons (de_op op_addAll (sAdd (fz := true)) (de_ix ix_seq sIx (de_var 3) (de_int)) (de_lst true (da_cons (de_int) (da_nil)))) (da_nil))))) (da_cons (de_tup (da_cons (de_bl) (da_cons (de_lst true (da_cons (de_int) (da_nil))) (da_cons (de_lst true (da_cons (de_int) (da_nil))) (da_nil))))) (da_cons (de_tup (da_cons (de_int) (da_cons (de_lst true (da_cons (de_int) (da_nil))) (da_cons (de_lst true (da_nil)) (da_nil))))) (da_nil)))))))) (
    ds_one (ds_if (dt_cmp (op_neD (hu64 hr)) sNe (de_call h_law_made (takes_of (by rfl) (by rfl) (by rfl) (by rfl)) (hr.mono (by decide)) (by rfl) (T.glo 78 (by rfl)) k_law_made b_law_made (da_cons (de_ix ix_seq sIx (de_var 9) (de_call h_law_take (takes_of (by rfl) (by rfl) (by rfl) (by rfl)) (hr.mono (by decide)) (by rfl) (T.glo 3 (by rfl)) k_law_take b_law_take (da_cons (de_var 2) (da_cons (de_int) (da_nil))) (len_cons (len_cons len_nil)))) (da_nil)) (len_cons len_nil)) (de_str) (by rfl)) (ds_one (ds_ret (de_bl))) (ds_nil))))) (ds_nil))))))))))) (
    ds_one (ds_ret (de_bl)))
end
end G

/-! the head -/
namespace G
open PySem PySem.Spec L2 AL PyProof.Rows
abbrev hk : PySem.W.Hook := hookX 4 cks fa fn
abbrev RO : PySem.W.OpenRow := PySem.W.OpenLaw.row PySem.Challenge.rw_healhalves_k81_nothing_heard
def ob (s : PySem.W.SharedT) : He.AlD := obsXG 4 cks fa fn (HandSHeadRun.getT s)
theorem ob_eq (s : PySem.W.SharedT) : ob s = hk.obs s.abs := obsXG_eq (HandSHeadRun.getT_eq s)
theorem run (w : World) : HandSHeadRun.RunEq RO (PySem.W.view RO.prog [47]) hk ob 8000 names w := by
  intro os
  kernel_rfl
end G

/-! the end -/
open PySem PySem.W PySem.Calls PyProof.Rows
theorem PySem.Challenge.cw_healhalves_k81_nothing_heard_holds : PySem.Challenge.rw_healhalves_k81_nothing_heard.Holds := by
  w_on; o_law
  refine HandSHeadRun.head_any (r := OpenLaw.row PySem.Challenge.rw_healhalves_k81_nothing_heard) (q := view (OpenLaw.row PySem.Challenge.rw_healhalves_k81_nothing_heard).prog [47]) (H := G.hk) (ob := G.ob) (M := 8000) (loose := G.names) (d := HandSHeadRun.topDef (OpenLaw.row PySem.Challenge.rw_healhalves_k81_nothing_heard).prog 47) (kwd := []) G.ob_eq
    (by kernel_rfl) (fun s => by kernel_rfl) G.run (by kernel_rfl) (by kernel_rfl) (by kernel_rfl) (by rfl) (by first | assumption | decide +kernel) (by decide +kernel) ⟨rfl, rfl, rfl, rfl, rfl, by decide +kernel⟩ ?hw ?hc
  case hw => w_witness2
  case hc =>
    refine AL.walk_al (l := PySem.Challenge.rw_healhalves_k81_nothing_heard) (n := 63) (sem := G.m_law) rfl (by decide) (by kernel_rfl) ?F G.law_end
    intro w mg fa h Y Gn hmg0
    obtain ⟨K, KX, c⟩ := Y
    have T : AL.Tp G.cks G.fa G.fn K mg := ⟨h, KX, Gn, c⟩
    have hmg : mg ("law" : PySem.Str) = some (.ref fa) := by
      have e : (HandSHeadRun.topDef (OpenLaw.row PySem.Challenge.rw_healhalves_k81_nothing_heard).prog 47).name = ("law" : PySem.Str) := by kernel_rfl
      rw [← e]
      exact hmg0
    have e := hmg.symm.trans (T.glo 79 rfl)
    cases e
    exact ⟨K, KX, fun base _ _ => G.ok_law T⟩
