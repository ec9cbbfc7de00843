import PyProof.Rows.All
import Wide.All
import OpenK.AllK
import Wide.FinOn
import PySem.Challenge.RW_halflink_k00_errors_and_their_fields
import HandS.ForMost
import HandS.ForExc
import HandS.TupAny
import HandS.Wide
import HandS.Deep
import KE.KExcSuper
import KE.KExcInit
import PyProof.ExcBaseAll.IndexError
import PyProof.Rows.FactsExc_KeyError
import HandS.ExcValue
import HandS.IsInst
import HandS.ExcField
import HandS.ExcIs
import KE.KExcIs
import KE.KExcStr
import KE.KIsAll
import PyProof.ReprRoads
set_option Elab.async false
set_option linter.all false
set_option maxRecDepth 100000
set_option maxHeartbeats 4000000
/-! M0: the mirror layer: plain data D, cells, what stands for what, results. -/
namespace Mx
open PySem L2

/-- plain data; ref: a cell that may change; con: a value that the program's text holds (a def, a class) -/
inductive D where
  | non | bl (b : Bool) | int (i : Int) | str (s : Str)
  | tup (ds : List D) | lst (ds : List D) | dic (kvs : List (Key × D))
  | ref (n : Nat) | con (v : V) | scr (ds : List D)
  /-- an exception object as a value: its class, its field (none: a message alone), what it holds -/
  | exo (C : Addr) (fld : Option Str) (d : D)
inductive Cell where
  | lst (ds : List D) | dic (kvs : List (Key × D))
abbrev Mem := List Cell
abbrev Env := List (Option D)
/-- an exception: its class, its one field -/
structure Ex where
  cls : Value
  fld : Option (Str × D)
inductive Res (β : Type) where
  | ok (b : β) (m : Mem) | ex (e : Ex) (m : Mem) | bad
def Res.bind {β γ : Type} : Res β → (β → Mem → Res γ) → Res γ
  | .ok b m, k => k b m
  | .ex e m, _ => .ex e m
  | .bad, _ => .bad

def WrT (K : PySem.W.Frag) (a : Addr) (xs : List V) : Prop :=
  ∃ (o : Obj) (its : Array Value) (n : Nat), K.lookup a = some o ∧ o.cls = .type "tuple" ∧ o.data = .seq its n ∧ its.size ≤ sizeLine ∧ Vals xs its.toList
def WrL (K : PySem.W.Frag) (a : Addr) (xs : List V) : Prop :=
  ∃ (o : Obj) (its : Array Value) (n : Nat), K.lookup a = some o ∧ o.cls = .type "list" ∧ o.dict = none ∧ o.data = .seq its n ∧ its.size ≤ sizeLine ∧ Vals xs its.toList

/-- where the cells stand; what is hidden (a list that a comprehension makes) -/
structure Ad where
  cells : List Addr
  hid : List Addr
def Ad.off (Γ : Ad) (a : Addr) : Prop := a ∉ Γ.cells ∧ a ∉ Γ.hid

/-- an exception object, its args at t, no dict -/
def exMO (a C t : Addr) : HO := .ext fun h => h.get? a = some ({ cls := .ref C, data := .fields #[.ref t, .none, .none, .none, .bool false, .none] } : Obj)
/-- an exception object whose dict is at dx -/
def exFO (a C dx : Addr) : HO := .ext fun h => ∃ t : Addr, h.get? a = some ({ cls := .ref C, dict := some dx, data := .fields #[.ref t, .none, .none, .none, .bool false, .none] } : Obj)
mutual
inductive Rep (K : PySem.W.Frag) (α : Ad) (H : Hp) : D → V → Prop
  | non : Rep K α H .non .non
  | bl (b : Bool) : Rep K α H (.bl b) (.bl b)
  | int (i : Int) : Rep K α H (.int i) (.int i)
  | str (x : Str) : Rep K α H (.str x) (.str x)
  | tup {a : Addr} {xs : List V} {ds : List D} : α.off a → Rd H a (.tup xs) → RepL K α H ds xs → Rep K α H (.tup ds) (.ref a)
  | tupK {a : Addr} {xs : List V} {ds : List D} : WrT K a xs → RepL K α H ds xs → Rep K α H (.tup ds) (.ref a)
  | lst {a : Addr} {xs : List V} {ds : List D} : α.off a → H a = some (.lst xs) → RepL K α H ds xs → Rep K α H (.lst ds) (.ref a)
  | scr {a : Addr} {xs : List V} {ds : List D} : α.off a → (∃ o, H a = some (.frz o (.lst xs))) → RepL K α H ds xs → Rep K α H (.scr ds) (.ref a)
  | scrK {a : Addr} {xs : List V} {ds : List D} : WrL K a xs → RepL K α H ds xs → Rep K α H (.scr ds) (.ref a)
  | dic {a : Addr} {kvs : List (Key × V)} {ds : List (Key × D)} : α.off a → H a = some (.dK kvs) → RepK K α H ds kvs → Rep K α H (.dic ds) (.ref a)
  | ref {n : Nat} {a : Addr} : α.cells[n]? = some a → Rep K α H (.ref n) (.ref a)
  | con (v : V) : Rep K α H (.con v) v
  | exm {a t C : Addr} {d : D} {v : V} : α.off a → α.off t → H a = some (exMO a C t) → H t = some (.tup [v]) → Rep K α H d v → Rep K α H (.exo C none d) (.ref a)
  | exf {a dx C : Addr} {f : Str} {d : D} {v : V} : α.off a → α.off dx → H a = some (exFO a C dx) → H dx = some (.xd [(f, v)]) → Rep K α H d v → Rep K α H (.exo C (some f) d) (.ref a)
inductive RepL (K : PySem.W.Frag) (α : Ad) (H : Hp) : List D → List V → Prop
  | nil : RepL K α H [] []
  | cons {d : D} {v : V} {ds : List D} {vs : List V} : Rep K α H d v → RepL K α H ds vs → RepL K α H (d :: ds) (v :: vs)
inductive RepK (K : PySem.W.Frag) (α : Ad) (H : Hp) : List (Key × D) → List (Key × V) → Prop
  | nil : RepK K α H [] []
  | cons {k : Key} {d : D} {v : V} {ds : List (Key × D)} {vs : List (Key × V)} : Rep K α H d v → RepK K α H ds vs → RepK K α H ((k, d) :: ds) ((k, v) :: vs)
end

/-- what is no cell and not hidden stays; the cells are the same and perhaps more -/
structure Lk (α : Ad) (H : Hp) (α' : Ad) (H' : Hp) : Prop where
  keep : ∀ a o, α.off a → H a = some o → α'.off a ∧ H' a = some o
  pre : ∃ β, α'.cells = α.cells ++ β
/-- later: also what is hidden stays -/
structure Lt (α : Ad) (H : Hp) (α' : Ad) (H' : Hp) : Prop extends Lk α H α' H' where
  hold : ∀ a o, a ∈ α.hid → a ∉ α.cells → H a = some o → a ∉ α'.cells ∧ H' a = some o
  hideq : α'.hid = α.hid
theorem Lk.refl (α : Ad) (H : Hp) : Lk α H α H := ⟨fun _ _ h e => ⟨h, e⟩, [], by simp⟩
theorem Lt.refl (α : Ad) (H : Hp) : Lt α H α H := ⟨Lk.refl α H, fun _ _ _ h e => ⟨h, e⟩, rfl⟩
theorem Lk.trans {α β γ : Ad} {H H1 H2 : Hp} (a : Lk α H β H1) (b : Lk β H1 γ H2) : Lk α H γ H2 :=
  ⟨fun x o h e => let ⟨h1, e1⟩ := a.keep x o h e; b.keep x o h1 e1, by
    obtain ⟨u, e1⟩ := a.pre
    obtain ⟨v, e2⟩ := b.pre
    exact ⟨u ++ v, by rw [e2, e1]; simp⟩⟩
theorem Lt.trans {α β γ : Ad} {H H1 H2 : Hp} (a : Lt α H β H1) (b : Lt β H1 γ H2) : Lt α H γ H2 :=
  ⟨a.toLk.trans b.toLk, fun x o h1 h2 e => let ⟨q1, q2⟩ := a.hold x o h1 h2 e; b.hold x o (by rw [a.hideq]; exact h1) q1 q2, b.hideq.trans a.hideq⟩
theorem Lk.get {α β : Ad} {H H1 : Hp} (l : Lk α H β H1) {n : Nat} {a : Addr} (h : α.cells[n]? = some a) : β.cells[n]? = some a := by
  obtain ⟨u, e⟩ := l.pre
  rw [e, List.getElem?_append_left (List.getElem?_eq_some_iff.mp h).1]
  exact h
theorem Lt.same {α : Ad} {H H' : Hp} (e : Same H H') : Lt α H α H' := ⟨⟨fun a o h q => ⟨h, e a o q⟩, [], by simp⟩, fun a o _ h q => ⟨h, e a o q⟩, rfl⟩
theorem Lk.rd {α β : Ad} {H H1 : Hp} (l : Lk α H β H1) {a : Addr} {u : HO} (h : α.off a) (r : Rd H a u) : β.off a ∧ Rd H1 a u := by
  rcases r with r | ⟨o, r⟩
  · exact ⟨(l.keep _ _ h r).1, .inl (l.keep _ _ h r).2⟩
  · exact ⟨(l.keep _ _ h r).1, .inr ⟨o, (l.keep _ _ h r).2⟩⟩
section
variable {K : PySem.W.Frag} {α β : Ad} {H H1 : Hp}
mutual
theorem Rep.mono (l : Lk α H β H1) : ∀ {d : D} {v : V}, Rep K α H d v → Rep K β H1 d v
  | _, _, .non => .non
  | _, _, .bl b => .bl b
  | _, _, .int i => .int i
  | _, _, .str x => .str x
  | _, _, .tup h r rs => .tup (l.rd h r).1 (l.rd h r).2 (RepL.mono l rs)
  | _, _, .tupK h rs => .tupK h (RepL.mono l rs)
  | _, _, .lst h r rs => .lst (l.keep _ _ h r).1 (l.keep _ _ h r).2 (RepL.mono l rs)
  | _, _, .scr h ⟨o, r⟩ rs => .scr (l.keep _ _ h r).1 ⟨o, (l.keep _ _ h r).2⟩ (RepL.mono l rs)
  | _, _, .scrK h rs => .scrK h (RepL.mono l rs)
  | _, _, .dic h r rs => .dic (l.keep _ _ h r).1 (l.keep _ _ h r).2 (RepK.mono l rs)
  | _, _, .ref h => .ref (l.get h)
  | _, _, .con v => .con v
  | _, _, .exm h h2 r r2 rs => .exm (l.keep _ _ h r).1 (l.keep _ _ h2 r2).1 (l.keep _ _ h r).2 (l.keep _ _ h2 r2).2 (Rep.mono l rs)
  | _, _, .exf h h2 r r2 rs => .exf (l.keep _ _ h r).1 (l.keep _ _ h2 r2).1 (l.keep _ _ h r).2 (l.keep _ _ h2 r2).2 (Rep.mono l rs)
theorem RepL.mono (l : Lk α H β H1) : ∀ {ds : List D} {vs : List V}, RepL K α H ds vs → RepL K β H1 ds vs
  | _, _, .nil => .nil
  | _, _, .cons h t => .cons (Rep.mono l h) (RepL.mono l t)
theorem RepK.mono (l : Lk α H β H1) : ∀ {ds : List (Key × D)} {vs : List (Key × V)}, RepK K α H ds vs → RepK K β H1 ds vs
  | _, _, .nil => .nil
  | _, _, .cons h t => .cons (Rep.mono l h) (RepK.mono l t)
end
theorem RepL.length : ∀ {ds : List D} {vs : List V}, RepL K α H ds vs → ds.length = vs.length
  | _, _, .nil => rfl
  | _, _, .cons _ t => congrArg (· + 1) (RepL.length t)
theorem RepL.get : ∀ {ds : List D} {vs : List V} {i : Nat} {d : D}, RepL K α H ds vs → ds[i]? = some d → ∃ v, vs[i]? = some v ∧ Rep K α H d v
  | _, _, _, _, .nil, e => by simp at e
  | _, _, 0, _, .cons h _, e => by simp at e; subst e; exact ⟨_, rfl, h⟩
  | _, _, i + 1, _, .cons _ t, e => by
    obtain ⟨v, h1, h2⟩ := RepL.get (i := i) t (by simpa using e)
    exact ⟨v, by simpa using h1, h2⟩
theorem RepL.getV : ∀ {ds : List D} {vs : List V} {i : Nat} {v : V}, RepL K α H ds vs → vs[i]? = some v → ∃ d, ds[i]? = some d ∧ Rep K α H d v
  | _, _, _, _, .nil, e => by simp at e
  | _, _, 0, _, .cons h _, e => by simp at e; subst e; exact ⟨_, rfl, h⟩
  | _, _, i + 1, _, .cons _ t, e => by
    obtain ⟨v, h1, h2⟩ := RepL.getV (i := i) t (by simpa using e)
    exact ⟨v, by simpa using h1, h2⟩
theorem RepL.append : ∀ {ds es : List D} {vs us : List V}, RepL K α H ds vs → RepL K α H es us → RepL K α H (ds ++ es) (vs ++ us)
  | _, _, _, _, .nil, s => s
  | _, _, _, _, .cons h t, s => .cons h (RepL.append t s)
theorem RepL.take : ∀ {ds : List D} {vs : List V} (n : Nat), RepL K α H ds vs → RepL K α H (ds.take n) (vs.take n)
  | _, _, 0, _ => .nil
  | _, _, _ + 1, .nil => .nil
  | _, _, n + 1, .cons r t => .cons r (RepL.take n t)
theorem RepL.drop : ∀ {ds : List D} {vs : List V} (n : Nat), RepL K α H ds vs → RepL K α H (ds.drop n) (vs.drop n)
  | _, _, 0, r => r
  | _, _, _ + 1, .nil => .nil
  | _, _, n + 1, .cons _ t => RepL.drop n t
theorem RepL.set {d : D} {v : V} (h : Rep K α H d v) : ∀ {ds : List D} {vs : List V} (i : Nat), RepL K α H ds vs → RepL K α H (ds.set i d) (vs.set i v)
  | _, _, _, .nil => .nil
  | _, _, 0, .cons _ t => .cons h t
  | _, _, i + 1, .cons q t => .cons q (RepL.set h i t)
theorem RepL.snoc {ds : List D} {vs : List V} {d : D} {v : V} (r : RepL K α H ds vs) (h : Rep K α H d v) : RepL K α H (ds ++ [d]) (vs ++ [v]) := r.append (.cons h .nil)
theorem RepL.rev : ∀ {ds : List D} {vs : List V}, RepL K α H ds vs → RepL K α H ds.reverse vs.reverse
  | _, _, .nil => .nil
  | _, _, .cons h t => by
    rw [List.reverse_cons, List.reverse_cons]
    exact (RepL.rev t).snoc h
theorem Rep.seqT {ds : List D} {v : V} (r : Rep K α H (.tup ds) v) : ∃ a xs, v = .ref a ∧ SqT K H a xs ∧ RepL K α H ds xs := by
  cases r with
  | tup _ r rs => exact ⟨_, _, rfl, .inl r, rs⟩
  | tupK w rs => exact ⟨_, _, rfl, .inr w, rs⟩
theorem Rep.seqL {ds : List D} {v : V} (r : Rep K α H (.lst ds) v) : ∃ a xs, v = .ref a ∧ SqL K H a xs ∧ RepL K α H ds xs := by
  cases r with
  | lst _ r rs => exact ⟨_, _, rfl, SqL.of r, rs⟩
theorem Rep.seqS {ds : List D} {v : V} (r : Rep K α H (.scr ds) v) : ∃ a xs, v = .ref a ∧ SqL K H a xs ∧ RepL K α H ds xs := by
  cases r with
  | scr _ r rs => exact ⟨_, _, rfl, .inl (.inr r), rs⟩
  | scrK w rs => exact ⟨_, _, rfl, .inr w, rs⟩
theorem Rep.ref_ {n : Nat} {v : V} (r : Rep K α H (.ref n) v) : ∃ a, v = .ref a ∧ α.cells[n]? = some a := by
  cases r with
  | ref h => exact ⟨_, rfl, h⟩
end

/-- what stands at a cell -/
def CellAt (K : PySem.W.Frag) (α : Ad) (H : Hp) (a : Addr) : Cell → Prop
  | .lst ds => ∃ xs, H a = some (.lst xs) ∧ RepL K α H ds xs
  | .dic ds => ∃ kvs, H a = some (.dK kvs) ∧ RepK K α H ds kvs
structure MemRep (K : PySem.W.Frag) (α : Ad) (H : Hp) (mem : Mem) : Prop where
  nd : α.cells.Nodup
  len : α.cells.length = mem.length
  cell : ∀ (n : Nat) (a : Addr) (c : Cell), α.cells[n]? = some a → mem[n]? = some c → CellAt K α H a c
  hid : ∀ a ∈ α.hid, (∃ o, H a = some o) ∧ a ∉ α.cells
def LocRep (K : PySem.W.Frag) (α : Ad) (H : Hp) (loc : Env) (σ : St) : Prop :=
  loc.length = σ.length ∧ ∀ (i : Nat) (d : D), loc[i]? = some (some d) → ∃ v, σ[i]? = some (some v) ∧ Rep K α H d v
def RepX (K : PySem.W.Frag) (α : Ad) (H : Hp) (e : Ex) (cls : Value) (dd : Option Addr) : Prop :=
  e.cls = cls ∧ match e.fld with
  | none => dd = none
  | some (f, d) => ∃ a v, dd = some a ∧ α.off a ∧ H a = some (.xd [(f, v)]) ∧ Rep K α H d v
section
variable {K : PySem.W.Frag} {α β : Ad} {H H1 : Hp} {mem : Mem}
theorem CellAt.mono (l : Lk α H β H1) {a : Addr} (hh : H1 a = H a) : ∀ {c : Cell}, CellAt K α H a c → CellAt K β H1 a c
  | .lst _, ⟨xs, h, r⟩ => ⟨xs, by rw [hh]; exact h, r.mono l⟩
  | .dic _, ⟨xs, h, r⟩ => ⟨xs, by rw [hh]; exact h, r.mono l⟩
theorem CellAt.some {a : Addr} : ∀ {c : Cell}, CellAt K α H a c → ∃ o, H a = Option.some o
  | .lst _, ⟨_, h, _⟩ => ⟨_, h⟩
  | .dic _, ⟨_, h, _⟩ => ⟨_, h⟩
theorem LocRep.mono (l : Lk α H β H1) {loc : Env} {σ : St} (h : LocRep K α H loc σ) : LocRep K β H1 loc σ :=
  ⟨h.1, fun i d e => let ⟨v, q, r⟩ := h.2 i d e; ⟨v, q, r.mono l⟩⟩
theorem LocRep.set {loc : Env} {σ : St} {d : D} {v : V} (h : LocRep K α H loc σ) (r : Rep K α H d v) (i : Nat) : LocRep K α H (loc.set i (some d)) (σ.set i (some v)) := by
  refine ⟨by simp [h.1], fun j e q => ?_⟩
  by_cases hj : i = j
  · subst hj
    by_cases hl : i < loc.length
    · rw [List.getElem?_set_self hl] at q
      cases q
      exact ⟨v, List.getElem?_set_self (h.1 ▸ hl), r⟩
    · rw [List.getElem?_eq_none (by simpa using hl)] at q
      cases q
  · rw [List.getElem?_set_ne hj] at q
    obtain ⟨u, q1, r1⟩ := h.2 j e q
    exact ⟨u, by rw [List.getElem?_set_ne hj]; exact q1, r1⟩
theorem MemRep.at_ (h : MemRep K α H mem) {n : Nat} {a : Addr} (e : α.cells[n]? = some a) : ∃ c, mem[n]? = some c ∧ CellAt K α H a c := by
  have hl : n < mem.length := by rw [← h.len]; exact (List.getElem?_eq_some_iff.mp e).1
  exact ⟨mem[n], List.getElem?_eq_getElem hl, h.cell n a _ e (List.getElem?_eq_getElem hl)⟩
theorem MemRep.at2 (h : MemRep K α H mem) {n : Nat} {c : Cell} (e : mem[n]? = some c) : ∃ a, α.cells[n]? = some a ∧ CellAt K α H a c := by
  have hl : n < α.cells.length := by rw [h.len]; exact (List.getElem?_eq_some_iff.mp e).1
  exact ⟨α.cells[n], List.getElem?_eq_getElem hl, h.cell n _ c (List.getElem?_eq_getElem hl) e⟩
theorem MemRep.tracked (h : MemRep K α H mem) {a : Addr} (e : a ∈ α.cells) : ∃ o, H a = some o := by
  obtain ⟨n, hn⟩ := List.getElem?_of_mem e
  obtain ⟨c, _, hc⟩ := h.at_ hn
  exact hc.some
/-- an extension of the heap -/
theorem MemRep.same (h : MemRep K α H mem) (e : Same H H1) : MemRep K α H1 mem :=
  ⟨h.nd, h.len, fun n a c q1 q2 => by
    have hc := h.cell n a c q1 q2
    obtain ⟨o, ho⟩ := hc.some
    exact hc.mono (Lt.same e).toLk (by rw [ho]; exact e _ _ ho), fun a ha => let ⟨⟨o, ho⟩, hn⟩ := h.hid a ha; ⟨⟨o, e _ _ ho⟩, hn⟩⟩
theorem same_new {p : Addr} {o : HO} (h : H p = none) : Same H (upd H p o) := fun b u e => by
  rw [upd_ne (ne_of_none e h)]
  exact e
theorem MemRep.fresh (h : MemRep K α H mem) {p : Addr} (hp : H p = none) : α.off p := ⟨(fun q => by
  obtain ⟨o, ho⟩ := h.tracked q
  rw [hp] at ho
  cases ho), (fun q => by
  obtain ⟨⟨o, ho⟩, _⟩ := h.hid p q
  rw [hp] at ho
  cases ho)⟩
def Ad.push (α : Ad) (p : Addr) : Ad := ⟨α.cells ++ [p], α.hid⟩
/-- a new cell -/
theorem Lt.cell {p : Addr} {o : HO} (hp : H p = none) : Lt α H (α.push p) (upd H p o) :=
  ⟨⟨fun a u h e => ⟨⟨(fun q => by
    rcases List.mem_append.mp q with q | q
    · exact h.1 q
    · rw [List.mem_singleton.mp q, hp] at e
      cases e), h.2⟩, same_new hp a u e⟩, [p], rfl⟩, fun a u h1 h2 e => ⟨(fun q => by
    rcases List.mem_append.mp q with q | q
    · exact h2 q
    · rw [List.mem_singleton.mp q, hp] at e
      cases e), same_new hp a u e⟩, rfl⟩
theorem MemRep.push {p : Addr} {o : HO} {c : Cell} (h : MemRep K α H mem) (hp : H p = none) (hc : CellAt K (α.push p) (upd H p o) p c) : MemRep K (α.push p) (upd H p o) (mem ++ [c]) := by
  refine ⟨?_, by simp [Ad.push, h.len], fun n a d e1 e2 => ?_, fun a ha => ?_⟩
  · show (α.cells ++ [p]).Nodup
    rw [List.nodup_append]
    refine ⟨h.nd, by simp, fun a ha b hb => ?_⟩
    rw [List.mem_singleton.mp hb]
    rintro rfl
    exact (h.fresh hp).1 ha
  · have e1 : (α.cells ++ [p])[n]? = Option.some a := e1
    by_cases hn : n < α.cells.length
    · rw [List.getElem?_append_left hn] at e1
      rw [List.getElem?_append_left (h.len ▸ hn)] at e2
      have hc := h.cell n a d e1 e2
      obtain ⟨u, hu⟩ := hc.some
      exact hc.mono (Lt.cell hp).toLk (by rw [hu]; exact same_new hp _ _ hu)
    · have h1 := (List.getElem?_eq_some_iff.mp e1).1
      rw [List.length_append, List.length_singleton] at h1
      have hn' : n = α.cells.length := by omega
      subst hn'
      rw [List.getElem?_append_right (Nat.le_refl _)] at e1
      rw [h.len, List.getElem?_append_right (Nat.le_refl _)] at e2
      simp at e1 e2
      subst e1 e2
      exact hc
  · obtain ⟨⟨u, hu⟩, hn⟩ := h.hid a ha
    refine ⟨⟨u, same_new hp _ _ hu⟩, fun q => ?_⟩
    rcases List.mem_append.mp q with q | q
    · exact hn q
    · rw [List.mem_singleton.mp q, hp] at hu
      cases hu
/-- a cell is written -/
theorem Lk.write {a : Addr} {o : HO} (ha : ¬ α.off a) : Lk α H α (upd H a o) :=
  ⟨fun b u h e => ⟨h, by rw [upd_ne (fun z : b = a => ha (by rw [← z]; exact h))]; exact e⟩, [], by simp⟩
theorem Lt.write {a : Addr} {o : HO} (ha : a ∈ α.cells) : Lt α H α (upd H a o) :=
  ⟨Lk.write (fun h => h.1 ha), fun b u h1 h2 e => ⟨h2, by rw [upd_ne (fun z : b = a => h2 (by rw [z]; exact ha))]; exact e⟩, rfl⟩
theorem MemRep.write {n : Nat} {a : Addr} {o : HO} {c : Cell} (h : MemRep K α H mem) (hn : α.cells[n]? = some a) (hc : CellAt K α (upd H a o) a c) : MemRep K α (upd H a o) (mem.set n c) := by
  have ha := List.mem_of_getElem? hn
  refine ⟨h.nd, by simp [h.len], fun m b d e1 e2 => ?_, fun b hb => ?_⟩
  · by_cases hm : n = m
    · subst hm
      rw [e1] at hn
      cases hn
      rw [List.getElem?_set_self (h.len ▸ (List.getElem?_eq_some_iff.mp e1).1)] at e2
      cases e2
      exact hc
    · rw [List.getElem?_set_ne hm] at e2
      have hb : b ≠ a := fun z => by
        subst z
        obtain ⟨h1, q1⟩ := List.getElem?_eq_some_iff.mp e1
        obtain ⟨h2, q2⟩ := List.getElem?_eq_some_iff.mp hn
        exact hm ((List.getElem_inj h.nd).mp (q2.trans q1.symm))
      exact (h.cell m b d e1 e2).mono (Lt.write ha).toLk (upd_ne hb)
  · obtain ⟨⟨u, hu⟩, hn⟩ := h.hid b hb
    exact ⟨⟨u, by rw [upd_ne (fun z : b = a => hn (by rw [z]; exact ha))]; exact hu⟩, hn⟩
/-- what is hidden is written -/
theorem MemRep.writeH {a : Addr} {o : HO} (h : MemRep K α H mem) (ha : a ∈ α.hid) : MemRep K α (upd H a o) mem := by
  have na := (h.hid a ha).2
  refine ⟨h.nd, h.len, fun n b c e1 e2 => ?_, fun b hb => ?_⟩
  · have hb : b ≠ a := fun z => na (by rw [← z]; exact List.mem_of_getElem? e1)
    exact (h.cell n b c e1 e2).mono (Lk.write fun q => q.2 ha) (upd_ne hb)
  · obtain ⟨⟨u, hu⟩, hn⟩ := h.hid b hb
    by_cases e : b = a
    · subst e; exact ⟨⟨o, upd_same⟩, hn⟩
    · exact ⟨⟨u, by rw [upd_ne e]; exact hu⟩, hn⟩
/-- something new is hidden -/
def Ad.hide (α : Ad) (p : Addr) : Ad := ⟨α.cells, p :: α.hid⟩
theorem Lk.hide {p : Addr} {o : HO} (hp : H p = none) : Lk α H (α.hide p) (upd H p o) :=
  ⟨fun a u h e => ⟨⟨h.1, fun q => by
    rcases List.mem_cons.mp q with q | q
    · rw [q, hp] at e; cases e
    · exact h.2 q⟩, same_new hp a u e⟩, [], by simp [Ad.hide]⟩
theorem MemRep.hide {p : Addr} {o : HO} (h : MemRep K α H mem) (hp : H p = none) : MemRep K (α.hide p) (upd H p o) mem := by
  have h1 := h.same (same_new (o := o) hp)
  refine ⟨h1.nd, h1.len, fun n a c e1 e2 => ?_, fun a ha => ?_⟩
  · have hc := h.cell n a c e1 e2
    obtain ⟨u, hu⟩ := hc.some
    exact hc.mono (Lk.hide hp) (by rw [hu]; exact same_new hp _ _ hu)
  · rcases List.mem_cons.mp ha with q | q
    · rw [q]; exact ⟨⟨o, upd_same⟩, (h.fresh hp).1⟩
    · exact h1.hid a q
/-- .. and shown again -/
theorem Lk.unhide {l : List Addr} (hl : ∀ a ∈ l, a ∈ α.hid) : Lk α H ⟨α.cells, l⟩ H := ⟨fun a o h e => ⟨⟨h.1, fun q => h.2 (hl a q)⟩, e⟩, [], by simp⟩
theorem MemRep.unhide {l : List Addr} (h : MemRep K α H mem) (hl : ∀ a ∈ l, a ∈ α.hid) : MemRep K ⟨α.cells, l⟩ H mem :=
  ⟨h.nd, h.len, fun n a c e1 e2 => (h.cell n a c e1 e2).mono (Lk.unhide hl) rfl, fun a ha => h.hid a (hl a ha)⟩
end

/-- what is wanted behind a result -/
def Post {β γ : Type} (R : Ad → Hp → β → γ → Prop) (K : PySem.W.Frag) (α : Ad) (H : Hp) (r : Res β) (Q : γ → Hp → Prop) (W : XK) : Prop :=
  match r with
  | .ok d m => ∀ α' H' v, Lt α H α' H' → MemRep K α' H' m → R α' H' d v → Q v H'
  | .ex e m => ∀ α' H' c dd, Lt α H α' H' → MemRep K α' H' m → RepX K α' H' e c dd → W c dd H'
  | .bad => False
theorem Post.later {β γ : Type} {R : Ad → Hp → β → γ → Prop} {K : PySem.W.Frag} {α α1 : Ad} {H H1 : Hp} {r : Res β} {Q : γ → Hp → Prop} {W : XK} (l : Lt α H α1 H1) (h : Post R K α H r Q W) : Post R K α1 H1 r Q W := by
  cases r with
  | ok d m => exact fun α' H' v l' => h α' H' v (l.trans l')
  | ex e m => exact fun α' H' c dd l' => h α' H' c dd (l.trans l')
  | bad => exact h
theorem Post.imp {β γ : Type} {R : Ad → Hp → β → γ → Prop} {K : PySem.W.Frag} {α : Ad} {H : Hp} {r : Res β} {Q Q' : γ → Hp → Prop} {W W' : XK} (h : Post R K α H r Q W) (hq : ∀ v H, Q v H → Q' v H) (hw : ∀ c d H, W c d H → W' c d H) : Post R K α H r Q' W' := by
  cases r with
  | ok d m => exact fun α' H' v l' m' r' => hq _ _ (h α' H' v l' m' r')
  | ex e m => exact fun α' H' c dd l' m' r' => hw _ _ _ (h α' H' c dd l' m' r')
  | bad => exact h
abbrev RB (_ : Ad) (_ : Hp) (a b : Bool) : Prop := a = b
/-- a reading by a mirror -/
def tG {β γ : Type} (R : Ad → Hp → β → γ → Prop) (K : PySem.W.Frag) (m : Env → Mem → Res β) (W : WX) : St → Hp → (γ → Hp → Prop) → Prop := fun σ H Q =>
  ∃ α loc mem, MemRep K α H mem ∧ LocRep K α H loc σ ∧ Post R K α H (m loc mem) Q (fun c d H' => W c d σ H')
abbrev E1 := Env → Mem → Res D
abbrev EL := Env → Mem → Res (List D)
abbrev EB := Env → Mem → Res Bool
abbrev tE (K : PySem.W.Frag) (m : E1) (W : WX) : TE := tG (Rep K) K m W
abbrev tL (K : PySem.W.Frag) (m : EL) (W : WX) : TA := tG (RepL K) K m W
abbrev tT (K : PySem.W.Frag) (m : EB) (W : WX) : TT := tG RB K m W
/-- the judgements -/
structure ME (X : Cx) (W : WX) (e : Expr) (m : E1) : Prop where
  pe : PE X e (tE X.K m W)
structure ML (X : Cx) (W : WX) (es : List Expr) (m : EL) : Prop where
  pa : PA X es (tL X.K m W)
  len : ∀ loc mem ds m', m loc mem = .ok ds m' → ds.length = es.length
structure MT (X : Cx) (W : WX) (e : Expr) (m : EB) : Prop where
  pt : PT X e (tT X.K m W)
structure MW (X : Cx) (W : WX) (e : Expr) (m : EB) : Prop where
  pw : PW X e (tT X.K m W)
theorem PE.imp {X : Cx} {e : Expr} {t t' : TE} (h : PE X e t) (i : ∀ σ H Q, t' σ H Q → t σ H Q) : PE X e t' := ⟨fun pins s σ H Q I q => h.run pins s σ H Q I (i σ H Q q)⟩
theorem PT.imp {X : Cx} {e : Expr} {t t' : TT} (h : PT X e t) (i : ∀ σ H Q, t' σ H Q → t σ H Q) : PT X e t' := ⟨fun pins s σ H Q I q => h.run pins s σ H Q I (i σ H Q q)⟩
theorem PW.imp {X : Cx} {e : Expr} {t t' : TT} (h : PW X e t) (i : ∀ σ H Q, t' σ H Q → t σ H Q) : PW X e t' := ⟨fun w pins s σ H Q I q => h.run w pins s σ H Q I (i σ H Q q)⟩
theorem PA.imp {X : Cx} {e : List Expr} {t t' : TA} (h : PA X e t) (i : ∀ σ H Q, t' σ H Q → t σ H Q) : PA X e t' := ⟨fun p pins s σ H Q I q => h.run p pins s σ H Q I (i σ H Q q)⟩
theorem PS.imp {X : Cx} {e : Stmt} {t t' : TS} (h : PS X e t) (i : ∀ Z σ H, t' Z σ H → t Z σ H) : PS X e t' := ⟨fun pins s σ H Z I q => h.run pins s σ H Z I (i Z σ H q)⟩
theorem PSs.imp {X : Cx} {e : List Stmt} {t t' : TS} (h : PSs X e t) (i : ∀ Z σ H, t' Z σ H → t Z σ H) : PSs X e t' := ⟨fun pins s σ H Z I q => h.run pins s σ H Z I (i Z σ H q)⟩

/-- one part, then the rest -/
theorem tG_go {β γ β' γ' : Type} {R : Ad → Hp → β → γ → Prop} {R' : Ad → Hp → β' → γ' → Prop} {K : PySem.W.Frag} {α : Ad} {loc : Env} {mem : Mem} {m : Env → Mem → Res β} {k : β → Mem → Res β'} {W : WX} {σ : St} {H : Hp} {Q : γ' → Hp → Prop} {Q' : γ → Hp → Prop}
    (hm : MemRep K α H mem) (hl : LocRep K α H loc σ) (hp : Post R' K α H ((m loc mem).bind k) Q (fun c d H' => W c d σ H'))
    (hk : ∀ α1 H1 mem1 d v, Lt α H α1 H1 → MemRep K α1 H1 mem1 → LocRep K α1 H1 loc σ → R α1 H1 d v → Post R' K α1 H1 (k d mem1) Q (fun c d H' => W c d σ H') → Q' v H1) : tG R K m W σ H Q' := by
  refine ⟨α, loc, mem, hm, hl, ?_⟩
  cases e : m loc mem with
  | ok d m' =>
    rw [e] at hp
    exact fun α' H' v l hm' hr => hk α' H' m' d v l hm' (hl.mono l.toLk) hr (Post.later l hp)
  | ex e' m' =>
    rw [e] at hp
    exact hp
  | bad =>
    rw [e] at hp
    exact hp.elim
end Mx

/-! M1: expressions. -/
namespace Mx
open PySem L2

def ofP : Option (D × Mem) → Res D
  | some (d, m) => .ok d m
  | none => .bad
/-- an operation by data: the memory, the operands -/
abbrev OpD := Mem → List D → Option (D × Mem)
def pu (g : Mem → List D → Option D) : OpD := fun mem ds => (g mem ds).map fun d => (d, mem)
def rB (K : PySem.W.Frag) (g : OpD) : List V → Hp → VK → Prop := fun xs H Q =>
  ∃ α mem ds z mem', MemRep K α H mem ∧ RepL K α H ds xs ∧ g mem ds = some (z, mem') ∧ ∀ α' H' v, Lt α H α' H' → MemRep K α' H' mem' → Rep K α' H' z v → Q v H'
abbrev rB2 (K : PySem.W.Frag) (g : OpD) : R2 := fun x y H Q => rB K g [x, y] H Q
abbrev rB1 (K : PySem.W.Frag) (g : OpD) : V → Hp → VK → Prop := fun x H Q => rB K g [x] H Q

def eVar (i : Nat) : E1 := fun loc mem => match loc[i]? with
  | some (some d) => .ok d mem
  | _ => .bad
def eC (d : D) : E1 := fun _ mem => .ok d mem
def e1 (g : OpD) (a : E1) : E1 := fun loc mem => (a loc mem).bind fun x m1 => ofP (g m1 [x])
def e2 (g : OpD) (a b : E1) : E1 := fun loc mem => (a loc mem).bind fun x m1 => (b loc m1).bind fun y m2 => ofP (g m2 [x, y])
def eN (g : OpD) (a : EL) : E1 := fun loc mem => (a loc mem).bind fun xs m1 => ofP (g m1 xs)
/-- a receiver of a type, then the arguments -/
def eM (ty : Mem → D → Bool) (g : OpD) (o : E1) (a : EL) : E1 := fun loc mem => (o loc mem).bind fun x m1 => if ty m1 x = true then (a loc m1).bind fun xs m2 => ofP (g m2 (x :: xs)) else .bad
def eM0 (ty : Mem → D → Bool) (g : OpD) (o : E1) : E1 := fun loc mem => (o loc mem).bind fun x m1 => if ty m1 x = true then ofP (g m1 [x]) else .bad
def tyL (mem : Mem) : D → Bool
  | .lst _ => true
  | .ref n => match mem[n]? with
    | some (.lst _) => true
    | _ => false
  | _ => false
def tyS (mem : Mem) : D → Bool
  | .str _ => true
  | _ => false
def tyDc (mem : Mem) : D → Bool
  | .dic _ => true
  | .ref n => match mem[n]? with
    | some (.dic _) => true
    | _ => false
  | _ => false
def lNil : EL := fun _ mem => .ok [] mem
def lCons (a : E1) (r : EL) : EL := fun loc mem => (a loc mem).bind fun x m1 => (r loc m1).bind fun xs m2 => .ok (x :: xs) m2
def eTup (a : EL) : E1 := fun loc mem => (a loc mem).bind fun xs m1 => .ok (.tup xs) m1
def eLst (a : EL) : E1 := fun loc mem => (a loc mem).bind fun xs m1 => .ok (.lst xs) m1
/-- a new cell -/
def eLstC (a : EL) : E1 := fun loc mem => (a loc mem).bind fun xs m1 => .ok (.ref m1.length) (m1 ++ [.lst xs])
def eIf (c : EB) (a b : E1) : E1 := fun loc mem => (c loc mem).bind fun t m1 => if t = true then a loc m1 else b loc m1
def D.bool? : D → Option Bool
  | .bl b => some b
  | _ => none
def eAnd (a b : E1) : E1 := fun loc mem => (a loc mem).bind fun x m1 => match x with
  | .bl true => b loc m1
  | .bl false => .ok (.bl false) m1
  | _ => .bad
def eOr (a b : E1) : E1 := fun loc mem => (a loc mem).bind fun x m1 => match x with
  | .bl true => .ok (.bl true) m1
  | .bl false => b loc m1
  | _ => .bad
def eNot (a : E1) : E1 := fun loc mem => (a loc mem).bind fun x m1 => match x with
  | .bl b => .ok (.bl (!b)) m1
  | _ => .bad
/-- tests -/
def bE (a : E1) : EB := fun loc mem => (a loc mem).bind fun x m1 => match x with
  | .bl b => .ok b m1
  | _ => .bad
def bAnd (a b : EB) : EB := fun loc mem => (a loc mem).bind fun t m1 => if t = true then b loc m1 else .ok false m1
def bOr (a b : EB) : EB := fun loc mem => (a loc mem).bind fun t m1 => if t = true then .ok true m1 else b loc m1
def bNot (a : EB) : EB := fun loc mem => (a loc mem).bind fun t m1 => .ok (!t) m1
/-- a op b op' c -/
def eCh (g g' : OpD) (a b c : E1) : E1 := fun loc mem => (a loc mem).bind fun x m1 => (b loc m1).bind fun y m2 => (ofP (g m2 [x, y])).bind fun z m3 => match z with
  | .bl true => (c loc m3).bind fun w m4 => ofP (g' m4 [y, w])
  | .bl false => .ok (.bl false) m3
  | _ => .bad

section
variable {X : Cx} {W : WX} {e a b c : Expr} {es rest : List Expr} {ma mb mc : E1} {ml : EL} {pos : Pos}

theorem me_var {i : Nat} {x : Str} (h : PE X (.Name x pos) (tVar i)) : ME X W (.Name x pos) (eVar i) := ⟨PE.imp h fun σ H Q q => by
  obtain ⟨α, loc, mem, hm, hl, hp⟩ := q
  unfold eVar at hp
  cases e : loc[i]? with
  | none => rw [e] at hp; exact hp.elim
  | some o =>
    cases o with
    | none => rw [e] at hp; exact hp.elim
    | some d =>
      rw [e] at hp
      obtain ⟨v, hv, hr⟩ := hl.2 i d e
      exact ⟨v, hv, hp α H v (Lt.refl _ _) hm hr⟩⟩
theorem me_c {d : D} {v : V} (h : PE X e (tC v)) (hr : ∀ α H, Rep X.K α H d v) : ME X W e (eC d) := ⟨PE.imp h fun σ H Q q => by
  obtain ⟨α, loc, mem, hm, hl, hp⟩ := q
  exact hp α H v (Lt.refl _ _) hm (hr α H)⟩
theorem me_int {i j} : ME X W (.Constant (.int i) j pos) (eC (.int i)) := me_c pe_int fun _ _ => .int i
theorem me_bl {i j} : ME X W (.Constant (.bool i) j pos) (eC (.bl i)) := me_c pe_bl fun _ _ => .bl i
theorem me_non {j} : ME X W (.Constant .none j pos) (eC .non) := me_c pe_non fun _ _ => .non
theorem me_str {i j} : ME X W (.Constant (.str i) j pos) (eC (.str i)) := me_c pe_str fun _ _ => .str i

theorem rB_of {K : PySem.W.Frag} {α : Ad} {H : Hp} {mem : Mem} {ds : List D} {xs : List V} {g : OpD} {Q : VK} {W : XK} (hm : MemRep K α H mem) (hr : RepL K α H ds xs) (hp : Post (Rep K) K α H (ofP (g mem ds)) Q W) : rB K g xs H Q := by
  cases e : g mem ds with
  | none => rw [e] at hp; exact hp.elim
  | some p =>
    obtain ⟨z, m'⟩ := p
    rw [e] at hp
    exact ⟨α, mem, ds, z, m', hm, hr, e, hp⟩
theorem tE2 {K : PySem.W.Frag} {g : OpD} {σ : St} {H : Hp} {Q : VK} (h : tE K (e2 g ma mb) W σ H Q) : tOp (rB2 K g) (tE K ma W) (tE K mb W) σ H Q := by
  obtain ⟨α, loc, mem, hm, hl, hp⟩ := h
  exact tG_go hm hl hp fun α1 H1 m1 d x l1 hm1 hl1 hr1 hp1 => tG_go hm1 hl1 hp1 fun α2 H2 m2 e y l2 hm2 hl2 hr2 hp2 => rB_of hm2 (.cons (hr1.mono l2.toLk) (.cons hr2 .nil)) hp2
theorem tE1 {K : PySem.W.Frag} {g : OpD} {σ : St} {H : Hp} {Q : VK} (h : tE K (e1 g ma) W σ H Q) : tUn (rB1 K g) (tE K ma W) σ H Q := by
  obtain ⟨α, loc, mem, hm, hl, hp⟩ := h
  exact tG_go hm hl hp fun α1 H1 m1 d x l1 hm1 hl1 hr1 hp1 => rB_of hm1 (.cons hr1 .nil) hp1
theorem tEN {K : PySem.W.Frag} {g : OpD} {σ : St} {H : Hp} {Q : VK} (h : tE K (eN g ml) W σ H Q) : tCB (rB K g) (tL K ml W) σ H Q := by
  obtain ⟨α, loc, mem, hm, hl, hp⟩ := h
  exact tG_go hm hl hp fun α1 H1 m1 d x l1 hm1 hl1 hr1 hp1 => rB_of hm1 hr1 hp1
/-- a op b -/
theorem me_op {op : Operator} {g : OpD} (ho : OpR X (binaryOp op) (rB2 X.K g)) (ha : ME X W a ma) (hb : ME X W b mb) : ME X W (.BinOp a op b pos) (e2 g ma mb) := ⟨PE.imp (pe_op ho ha.pe hb.pe) fun _ _ _ h => tE2 h⟩
theorem me_un {op : UnaryOp} {g : OpD} (ho : UnR X (unaryOp op) (rB1 X.K g)) (ha : ME X W a ma) : ME X W (.UnaryOp op a pos) (e1 g ma) := ⟨PE.imp (pe_un ho ha.pe) fun _ _ _ h => tE1 h⟩
theorem me_cmp {op : CmpOp} {g : OpD} (ho : OpR X (compareOp op) (rB2 X.K g)) (hm : behindInMarks op b = false) (ha : ME X W a ma) (hb : ME X W b mb) : ME X W (.Compare a [op] [b] pos) (e2 g ma mb) := ⟨PE.imp (pe_cmpR ho ha.pe hb.pe hm) fun _ _ _ h => tE2 h⟩
theorem me_ix {g : OpD} (hr : IxR X (rB2 X.K g)) (hs : PlainIx b) (ha : ME X W a ma) (hb : ME X W b mb) : ME X W (.Subscript a b pos) (e2 g ma mb) := ⟨PE.imp (pe_ix hr ha.pe hb.pe hs) fun _ _ _ h => tE2 h⟩
theorem tCh_ {K : PySem.W.Frag} {g g' : OpD} {σ : St} {H : Hp} {Q : VK} (h : tE K (eCh g g' ma mb mc) W σ H Q) : tChain (rB2 K g) (rB2 K g') (tE K ma W) (tE K mb W) (tE K mc W) σ H Q := by
  obtain ⟨α, loc, mem, hm, hl, hp⟩ := h
  refine tG_go hm hl hp fun α1 H1 m1 d x l1 hm1 hl1 hr1 hp1 => tG_go hm1 hl1 hp1 fun α2 H2 m2 e y l2 hm2 hl2 hr2 hp2 => ?_
  have hr1' := hr1.mono l2.toLk
  cases ez : g m2 [d, e] with
  | none => rw [ez] at hp2; exact hp2.elim
  | some p =>
    obtain ⟨z, m3⟩ := p
    rw [ez] at hp2
    refine ⟨α2, m2, [d, e], z, m3, hm2, .cons hr1' (.cons hr2 .nil), ez, fun α3 H3 v l3 hm3 hr3 => ?_⟩
    have hp3 := Post.later l3 hp2
    clear hp2
    cases z with
    | bl k =>
      cases hr3
      refine ⟨k, rfl, ?_⟩
      cases k with
      | true =>
        rw [if_pos rfl]
        exact tG_go hm3 (hl2.mono l3.toLk) hp3 fun α4 H4 m4 w' u l4 hm4 hl4 hr4 hp4 => rB_of hm4 (.cons ((hr2.mono l3.toLk).mono l4.toLk) (.cons hr4 .nil)) hp4
      | false =>
        rw [if_neg (by simp)]
        exact hp3 α3 H3 _ (Lt.refl _ _) hm3 (.bl false)
    | _ => exact hp3.elim
theorem me_ch {op op' : CmpOp} {g g' : OpD} (ho : OpR X (compareOp op) (rB2 X.K g)) (ho' : OpR X (compareOp op') (rB2 X.K g')) (ha : ME X W a ma) (hb : ME X W b mb) (hc : ME X W c mc) (hm : lastMarks [op, op'] [b, c] = false := by with_unfolding_all rfl) : ME X W (.Compare a [op, op'] [b, c] pos) (eCh g g' ma mb mc) := ⟨PE.imp (pe_chain ho ho' ha.pe hb.pe hc.pe hm) fun _ _ _ h => tCh_ h⟩

/-! lists of expressions -/
theorem ml_nil : ML X W [] lNil := ⟨PA.imp pa_nil fun σ H Q h => by
  obtain ⟨α, loc, mem, hm, hl, hp⟩ := h
  exact hp α H [] (Lt.refl _ _) hm .nil, fun _ _ _ _ h => by cases h; rfl⟩
theorem ml_cons {ml : EL} (ha : ME X W e ma) (hr : ML X W es ml) (hs : starEach (e :: es) X.env = (false, eval e X.env) :: starEach es X.env := by rfl) : ML X W (e :: es) (lCons ma ml) := ⟨PA.imp (pa_cons ha.pe hr.pa hs) fun σ H Q h => by
  obtain ⟨α, loc, mem, hm, hl, hp⟩ := h
  exact tG_go hm hl hp fun α1 H1 m1 d x l1 hm1 hl1 hr1 hp1 => tG_go hm1 hl1 hp1 fun α2 H2 m2 ds xs l2 hm2 hl2 hr2 hp2 => hp2 α2 H2 _ (Lt.refl _ _) hm2 (.cons (hr1.mono l2.toLk) hr2), fun loc mem ds m' h => by
    unfold lCons at h
    cases e1 : ma loc mem with
    | ok x m1 =>
      rw [e1] at h
      cases e2 : ml loc m1 with
      | ok xs m2 =>
        simp only [Res.bind, e2] at h
        cases h
        exact congrArg (· + 1) (hr.len _ _ _ _ e2)
      | ex _ _ => simp only [Res.bind, e2] at h; cases h
      | bad => simp only [Res.bind, e2] at h; cases h
    | ex _ _ => rw [e1] at h; cases h
    | bad => rw [e1] at h; cases h⟩
theorem small_of {n : Nat} (h : n ≤ 1000000) : n ≤ sizeLine := Nat.le_trans h (by rw [sizeLine_eq]; decide)
/-- as tG_go, the result of the part known -/
theorem tG_goE {β γ β' γ' : Type} {R : Ad → Hp → β → γ → Prop} {R' : Ad → Hp → β' → γ' → Prop} {K : PySem.W.Frag} {α : Ad} {loc : Mx.Env} {mem : Mem} {m : Mx.Env → Mem → Res β} {k : β → Mem → Res β'} {W : WX} {σ : St} {H : Hp} {Q : γ' → Hp → Prop} {Q' : γ → Hp → Prop}
    (hm : MemRep K α H mem) (hl : LocRep K α H loc σ) (hp : Post R' K α H ((m loc mem).bind k) Q (fun c d H' => W c d σ H'))
    (hk : ∀ α1 H1 mem1 d v, m loc mem = .ok d mem1 → Lt α H α1 H1 → MemRep K α1 H1 mem1 → LocRep K α1 H1 loc σ → R α1 H1 d v → Post R' K α1 H1 (k d mem1) Q (fun c d H' => W c d σ H') → Q' v H1) : tG R K m W σ H Q' := by
  refine ⟨α, loc, mem, hm, hl, ?_⟩
  cases e : m loc mem with
  | ok d m' =>
    rw [e] at hp
    exact fun α' H' v l hm' hr => hk α' H' m' d v e l hm' (hl.mono l.toLk) hr (Post.later l hp)
  | ex e' m' =>
    rw [e] at hp
    exact hp
  | bad =>
    rw [e] at hp
    exact hp.elim
theorem me_tup {x1} (h : ML X W es ml) (hz : es.length ≤ 1000000 := by decide) : ME X W (.Tuple es x1 pos) (eTup ml) := ⟨PE.imp (pe_tup h.pa) fun σ H Q q => by
  obtain ⟨α, loc, mem, hm, hl, hp⟩ := q
  refine tG_goE hm hl hp fun α1 H1 m1 ds xs e1 l1 hm1 hl1 hr1 hp1 => ?_
  refine ⟨small_of (by rw [← hr1.length, h.len _ _ _ _ e1]; exact hz), fun p np => ?_⟩
  have sm := same_new (o := .tup xs) np
  exact hp1 α1 _ _ (Lt.same sm) (hm1.same sm) (.tup (hm1.fresh np) (.inl upd_same) (hr1.mono (Lt.same sm).toLk))⟩
theorem me_lst (h : ML X W es ml) (hz : es.length ≤ 1000000 := by decide) : ME X W (.List es pos) (eLst ml) := ⟨PE.imp (pe_lst h.pa) fun σ H Q q => by
  obtain ⟨α, loc, mem, hm, hl, hp⟩ := q
  refine tG_goE hm hl hp fun α1 H1 m1 ds xs e1 l1 hm1 hl1 hr1 hp1 => ?_
  refine ⟨small_of (by rw [← hr1.length, h.len _ _ _ _ e1]; exact hz), fun p np => ?_⟩
  have sm := same_new (o := .lst xs) np
  exact hp1 α1 _ _ (Lt.same sm) (hm1.same sm) (.lst (hm1.fresh np) upd_same (hr1.mono (Lt.same sm).toLk))⟩
theorem cell_new {α : Ad} {p : Addr} {mem : Mem} (h : α.cells.length = mem.length) : (α.push p).cells[mem.length]? = some p := by
  show (α.cells ++ [p])[mem.length]? = some p
  rw [← h, List.getElem?_append_right (Nat.le_refl _)]
  simp
theorem me_lstC (h : ML X W es ml) (hz : es.length ≤ 1000000 := by decide) : ME X W (.List es pos) (eLstC ml) := ⟨PE.imp (pe_lst h.pa) fun σ H Q q => by
  obtain ⟨α, loc, mem, hm, hl, hp⟩ := q
  refine tG_goE hm hl hp fun α1 H1 m1 ds xs e1 l1 hm1 hl1 hr1 hp1 => ?_
  refine ⟨small_of (by rw [← hr1.length, h.len _ _ _ _ e1]; exact hz), fun p np => ?_⟩
  have lc := Lt.cell (α := α1) (o := .lst xs) np
  exact hp1 _ _ _ lc (hm1.push np ⟨xs, upd_same, hr1.mono lc.toLk⟩) (.ref (cell_new hm1.len))⟩
theorem me_callB {id : String} {x : Str} {p : Pos} {g : OpD} (hc : CallR X (.builtin id) (rB X.K g)) (h : PE X (.Call (.Name x p) (e :: es) [] pos) (tCB (rB X.K g) (tL X.K ml W))) : ME X W (.Call (.Name x p) (e :: es) [] pos) (eN g ml) := ⟨PE.imp h fun _ _ _ h => tEN h⟩

/-! tests, conditionals -/
variable {mt mu : EB}
theorem me_if (hc : MT X W c mt) (ha : ME X W a ma) (hb : ME X W b mb) : ME X W (.IfExp c a b pos) (eIf mt ma mb) := ⟨PE.imp (pe_ifExp hc.pt ha.pe hb.pe) fun σ H Q q => by
  obtain ⟨α, loc, mem, hm, hl, hp⟩ := q
  refine tG_go hm hl hp fun α1 H1 m1 t t' l1 hm1 hl1 hr1 hp1 => ?_
  cases hr1
  cases t with
  | true => rw [if_pos rfl] at hp1 ⊢; exact ⟨α1, loc, m1, hm1, hl1, hp1⟩
  | false => rw [if_neg (by simp)] at hp1 ⊢; exact ⟨α1, loc, m1, hm1, hl1, hp1⟩⟩
theorem mt_val (ha : ME X W a ma) (he : ∀ whole, isTrue a X.env whole = (do let v ← whole; standAt a.pos; holding [v] (truthy v)) := by intro _; rfl) : MT X W a (bE ma) := ⟨PT.imp (pt_val ha.pe he) fun σ H Q q => by
  obtain ⟨α, loc, mem, hm, hl, hp⟩ := q
  refine tG_go hm hl hp fun α1 H1 m1 d x l1 hm1 hl1 hr1 hp1 => ?_
  cases d with
  | bl b => cases hr1; exact ⟨b, rfl, hp1 α1 H1 b (Lt.refl _ _) hm1 rfl⟩
  | _ => exact hp1.elim⟩
theorem mt_cmp {op : CmpOp} {g : OpD} (ho : OpR X (compareOp op) (rB2 X.K g)) (hm : behindInMarks op b = false) (ha : ME X W a ma) (hb : ME X W b mb) : MT X W (.Compare a [op] [b] pos) (bE (e2 g ma mb)) := ⟨PT.imp (pt_cmpR ho ha.pe hb.pe hm) fun σ H Q q => by
  obtain ⟨α, loc, mem, hm, hl, hp⟩ := q
  refine tE2 (W := W) (g := g) (Q := _) ?_
  refine tG_go hm hl hp fun α1 H1 m1 d x l1 hm1 hl1 hr1 hp1 => ?_
  cases d with
  | bl b => cases hr1; exact ⟨b, rfl, hp1 α1 H1 b (Lt.refl _ _) hm1 rfl⟩
  | _ => exact hp1.elim⟩
theorem mt_ch {op op' : CmpOp} {g g' : OpD} (ho : OpR X (compareOp op) (rB2 X.K g)) (ho' : OpR X (compareOp op') (rB2 X.K g')) (ha : ME X W a ma) (hb : ME X W b mb) (hc : ME X W c mc) (hm : lastMarks [op, op'] [b, c] = false := by with_unfolding_all rfl) : MT X W (.Compare a [op, op'] [b, c] pos) (bE (eCh g g' ma mb mc)) := ⟨PT.imp (pt_chain ho ho' ha.pe hb.pe hc.pe hm) fun σ H Q q => by
  obtain ⟨α, loc, mem, hm, hl, hp⟩ := q
  refine tCh_ (W := W) (Q := _) ?_
  refine tG_go hm hl hp fun α1 H1 m1 d x l1 hm1 hl1 hr1 hp1 => ?_
  cases d with
  | bl b => cases hr1; exact ⟨b, rfl, hp1 α1 H1 b (Lt.refl _ _) hm1 rfl⟩
  | _ => exact hp1.elim⟩
theorem MW.toT (h : MW X W e mt) : MT X W e mt := ⟨h.pw.pt⟩
theorem mw_and1 (ha : MT X W a mt) : MW X W (.BoolOp .And [a] pos) mt := ⟨pw_and1 ha.pt⟩
theorem mw_or1 (ha : MT X W a mt) : MW X W (.BoolOp .Or [a] pos) mt := ⟨pw_or1 ha.pt⟩
theorem mw_and (ha : MT X W a mt) (hb : MW X W (.BoolOp .And (b :: rest) pos) mu) : MW X W (.BoolOp .And (a :: b :: rest) pos) (bAnd mt mu) := ⟨PW.imp (pw_and ha.pt hb.pw) fun σ H Q q => by
  obtain ⟨α, loc, mem, hm, hl, hp⟩ := q
  refine tG_go hm hl hp fun α1 H1 m1 t t' l1 hm1 hl1 hr1 hp1 => ?_
  cases hr1
  cases t with
  | true => rw [if_pos rfl] at hp1 ⊢; exact ⟨α1, loc, m1, hm1, hl1, hp1⟩
  | false => rw [if_neg (by simp)] at hp1 ⊢; exact hp1 α1 H1 _ (Lt.refl _ _) hm1 rfl⟩
theorem mw_or (ha : MT X W a mt) (hb : MW X W (.BoolOp .Or (b :: rest) pos) mu) : MW X W (.BoolOp .Or (a :: b :: rest) pos) (bOr mt mu) := ⟨PW.imp (pw_or ha.pt hb.pw) fun σ H Q q => by
  obtain ⟨α, loc, mem, hm, hl, hp⟩ := q
  refine tG_go hm hl hp fun α1 H1 m1 t t' l1 hm1 hl1 hr1 hp1 => ?_
  cases hr1
  cases t with
  | true => rw [if_pos rfl] at hp1 ⊢; exact hp1 α1 H1 _ (Lt.refl _ _) hm1 rfl
  | false => rw [if_neg (by simp)] at hp1 ⊢; exact ⟨α1, loc, m1, hm1, hl1, hp1⟩⟩
theorem mt_not (ha : MT X W a mt) : MT X W (.UnaryOp .Not a pos) (bNot mt) := ⟨PT.imp (pt_not ha.pt) fun σ H Q q => by
  obtain ⟨α, loc, mem, hm, hl, hp⟩ := q
  exact tG_go hm hl hp fun α1 H1 m1 t t' l1 hm1 hl1 hr1 hp1 => by cases hr1; exact hp1 α1 H1 _ (Lt.refl _ _) hm1 rfl⟩
theorem me_one {op} (h : ME X W a ma) : ME X W (.BoolOp op [a] pos) ma := ⟨pe_one h.pe⟩
theorem me_and (ha : ME X W a ma) (hb : ME X W (.BoolOp .And (b :: rest) pos) mb) : ME X W (.BoolOp .And (a :: b :: rest) pos) (eAnd ma mb) := ⟨PE.imp (pe_and ha.pe hb.pe) fun σ H Q q => by
  obtain ⟨α, loc, mem, hm, hl, hp⟩ := q
  refine tG_go hm hl hp fun α1 H1 m1 d x l1 hm1 hl1 hr1 hp1 => ?_
  cases d with
  | bl t =>
    cases hr1
    refine ⟨t, rfl, ?_⟩
    cases t with
    | true => rw [if_pos rfl]; exact ⟨α1, loc, m1, hm1, hl1, hp1⟩
    | false => rw [if_neg (by simp)]; exact hp1 α1 H1 _ (Lt.refl _ _) hm1 (.bl _)
  | _ => exact hp1.elim⟩
theorem me_or (ha : ME X W a ma) (hb : ME X W (.BoolOp .Or (b :: rest) pos) mb) : ME X W (.BoolOp .Or (a :: b :: rest) pos) (eOr ma mb) := ⟨PE.imp (pe_or ha.pe hb.pe) fun σ H Q q => by
  obtain ⟨α, loc, mem, hm, hl, hp⟩ := q
  refine tG_go hm hl hp fun α1 H1 m1 d x l1 hm1 hl1 hr1 hp1 => ?_
  cases d with
  | bl t =>
    cases hr1
    refine ⟨t, rfl, ?_⟩
    cases t with
    | true => rw [if_pos rfl]; exact hp1 α1 H1 _ (Lt.refl _ _) hm1 (.bl _)
    | false => rw [if_neg (by simp)]; exact ⟨α1, loc, m1, hm1, hl1, hp1⟩
  | _ => exact hp1.elim⟩
theorem me_not (ha : ME X W a ma) : ME X W (.UnaryOp .Not a pos) (eNot ma) := ⟨PE.imp (pe_not ha.pe) fun σ H Q q => by
  obtain ⟨α, loc, mem, hm, hl, hp⟩ := q
  refine tG_go hm hl hp fun α1 H1 m1 d x l1 hm1 hl1 hr1 hp1 => ?_
  cases d with
  | bl t =>
    cases hr1
    exact ⟨t, rfl, hp1 α1 H1 _ (Lt.refl _ _) hm1 (.bl _)⟩
  | _ => exact hp1.elim⟩
/-! a method of a built-in type -/
def TyOk (K : PySem.W.Frag) (ty : Mem → D → Bool) (T : String) : Prop := ∀ α H mem d x, MemRep K α H mem → Rep K α H d x → ty mem d = true → tyV K T x H
theorem ty_list {K : PySem.W.Frag} : TyOk K tyL "list" := fun α H mem d x hm hr h => by
  cases d with
  | lst ds =>
    obtain ⟨a, xs, rfl, hs, _⟩ := hr.seqL
    exact .inl ⟨rfl, xs, hs⟩
  | ref n =>
    obtain ⟨a, rfl, ha⟩ := hr.ref_
    obtain ⟨c, hc, hc'⟩ := hm.at_ ha
    unfold tyL at h
    simp only [hc] at h
    cases c with
    | lst ds =>
      obtain ⟨xs, hx, _⟩ := hc'
      exact .inl ⟨rfl, xs, SqL.of hx⟩
    | dic _ => cases h
  | _ => cases h
theorem ty_str {K : PySem.W.Frag} : TyOk K tyS "str" := fun α H mem d x hm hr h => by
  cases d with
  | str y => cases hr; rfl
  | _ => cases h
theorem ty_dict {K : PySem.W.Frag} : TyOk K tyDc "dict" := fun α H mem d x hm hr h => by
  cases d with
  | dic ds =>
    cases hr with
    | dic _ hx _ => exact .inr (.inr (.inl ⟨rfl, .inl ⟨_, hx⟩⟩))
  | ref n =>
    obtain ⟨a, rfl, ha⟩ := hr.ref_
    obtain ⟨c, hc, hc'⟩ := hm.at_ ha
    unfold tyDc at h
    simp only [hc] at h
    cases c with
    | lst ds => cases h
    | dic _ =>
      obtain ⟨xs, hx, _⟩ := hc'
      exact .inr (.inr (.inl ⟨rfl, .inl ⟨_, hx⟩⟩))
  | _ => cases h
theorem me_bm {T : String} {name : Str} {apos : Pos} {o : Expr} {mo : E1} {g : OpD} {ty : Mem → D → Bool} (hty : TyOk X.K ty T)
    (h : PE X (.Call (.Attribute o name apos) (e :: es) [] pos) (tBM X.K T (fun x xs H Q => rB X.K g (x :: xs) H Q) (tE X.K mo W) (tL X.K ml W))) : ME X W (.Call (.Attribute o name apos) (e :: es) [] pos) (eM ty g mo ml) := ⟨PE.imp h fun σ H Q q => by
  obtain ⟨α, loc, mem, hm, hl, hp⟩ := q
  refine tG_go hm hl hp fun α1 H1 m1 d x l1 hm1 hl1 hr1 hp1 => ?_
  by_cases ht : ty m1 d = true
  · rw [if_pos ht] at hp1
    exact ⟨hty _ _ _ _ _ hm1 hr1 ht, tG_go hm1 hl1 hp1 fun α2 H2 m2 ds xs l2 hm2 hl2 hr2 hp2 => rB_of hm2 (.cons (hr1.mono l2.toLk) hr2) hp2⟩
  · rw [if_neg ht] at hp1
    exact hp1.elim⟩
theorem me_bm0 {T : String} {name : Str} {apos : Pos} {o : Expr} {mo : E1} {g : OpD} {ty : Mem → D → Bool} (hty : TyOk X.K ty T)
    (h : PE X (.Call (.Attribute o name apos) [] [] pos) (tBM0 X.K T (fun x xs H Q => rB X.K g (x :: xs) H Q) (tE X.K mo W))) : ME X W (.Call (.Attribute o name apos) [] [] pos) (eM0 ty g mo) := ⟨PE.imp h fun σ H Q q => by
  obtain ⟨α, loc, mem, hm, hl, hp⟩ := q
  refine tG_go hm hl hp fun α1 H1 m1 d x l1 hm1 hl1 hr1 hp1 => ?_
  by_cases ht : ty m1 d = true
  · rw [if_pos ht] at hp1
    exact ⟨hty _ _ _ _ _ hm1 hr1 ht, rB_of hm1 (.cons hr1 .nil) hp1⟩
  · rw [if_neg ht] at hp1
    exact hp1.elim⟩

/-! slices -/
/-- the bounds: none or an int -/
def oNone : Mx.Env → Mem → Res (Option Int) := fun _ mem => .ok none mem
def oSome (a : E1) : Mx.Env → Mem → Res (Option Int) := fun loc mem => (a loc mem).bind fun x m1 => match x with
  | .int i => .ok (some i) m1
  | _ => .bad
abbrev EO := Mx.Env → Mem → Res (Option Int)
abbrev RO (_ : Ad) (_ : Hp) (a b : Option Int) : Prop := a = b
abbrev tO (K : PySem.W.Frag) (m : EO) (W : WX) : TO := tG RO K m W
structure MO (X : Cx) (W : WX) (e : Option Expr) (m : EO) : Prop where
  po : PO X e (tO X.K m W)
theorem mo_none : MO X W none oNone := ⟨⟨fun pins s σ H Q I q => po_none.run pins s σ H Q I (by
  obtain ⟨α, loc, mem, hm, hl, hp⟩ := q
  exact hp α H none (Lt.refl _ _) hm rfl)⟩⟩
theorem mo_some (ha : ME X W a ma) : MO X W (some a) (oSome ma) := ⟨⟨fun pins s σ H Q I q => (po_some ha.pe).run pins s σ H Q I (by
  obtain ⟨α, loc, mem, hm, hl, hp⟩ := q
  refine tG_go hm hl hp fun α1 H1 m1 d x l1 hm1 hl1 hr1 hp1 => ?_
  cases d with
  | int i => cases hr1; exact ⟨i, rfl, hp1 α1 H1 _ (Lt.refl _ _) hm1 rfl⟩
  | _ => exact hp1.elim)⟩⟩
def eSl (g : Option Int → Option Int → OpD) (a : E1) (lo hi : EO) : E1 := fun loc mem => (a loc mem).bind fun x m1 => (lo loc m1).bind fun l m2 => (hi loc m2).bind fun u m3 => ofP (g l u m3 [x])
theorem me_sl {g : Option Int → Option Int → OpD} {lo hi : Option Expr} {ml' mh : EO} {p2 : Pos} (hr : SlR X (fun x l u H Q => rB X.K (g l u) [x] H Q)) (ha : ME X W a ma) (hlo : MO X W lo ml') (hhi : MO X W hi mh) : ME X W (.Subscript a (.Slice lo hi none p2) pos) (eSl g ma ml' mh) := ⟨PE.imp (pe_slice hr ha.pe hlo.po hhi.po) fun σ H Q q => by
  obtain ⟨α, loc, mem, hm, hl, hp⟩ := q
  exact tG_go hm hl hp fun α1 H1 m1 d x l1 hm1 hl1 hr1 hp1 => tG_go hm1 hl1 hp1 fun α2 H2 m2 l l' l2 hm2 hl2 hr2 hp2 => by
    cases hr2
    exact tG_go hm2 hl2 hp2 fun α3 H3 m3 u u' l3 hm3 hl3 hr3 hp3 => by
      cases hr3
      exact rB_of hm3 (.cons ((hr1.mono l2.toLk).mono l3.toLk) .nil) hp3⟩
end
end Mx

/-! M2: data decided; targets, statements, loops, comprehensions. -/
namespace Mx
open PySem L2
mutual
def D.beq : D → D → Bool
  | .non, .non => true
  | .bl a, .bl b => a == b
  | .int a, .int b => a == b
  | .str a, .str b => decide (a = b)
  | .tup a, .tup b => D.beqL a b
  | .lst a, .lst b => D.beqL a b
  | .dic a, .dic b => D.beqK a b
  | .ref a, .ref b => a == b
  | .con a, .con b => decide (a = b)
  | .scr a, .scr b => D.beqL a b
  | .exo c f a, .exo e g b => decide (c = e) && decide (f = g) && D.beq a b
  | _, _ => false
def D.beqL : List D → List D → Bool
  | [], [] => true
  | a :: as, b :: bs => D.beq a b && D.beqL as bs
  | _, _ => false
def D.beqK : List (Key × D) → List (Key × D) → Bool
  | [], [] => true
  | (k, a) :: as, (l, b) :: bs => decide (k = l) && D.beq a b && D.beqK as bs
  | _, _ => false
end
mutual
theorem D.of_beq : ∀ {a b : D}, D.beq a b = true → a = b
  | .non, b, h => by cases b <;> first | rfl | (exact absurd h (by simp [D.beq]))
  | .bl x, b, h => by cases b <;> first | (simp [D.beq] at h; subst h; rfl) | (exact absurd h (by simp [D.beq]))
  | .int x, b, h => by cases b <;> first | (simp [D.beq] at h; subst h; rfl) | (exact absurd h (by simp [D.beq]))
  | .str x, b, h => by cases b <;> first | (simp [D.beq] at h; subst h; rfl) | (exact absurd h (by simp [D.beq]))
  | .tup x, b, h => by
    cases b with
    | tup y => rw [D.beq] at h; rw [D.of_beqL h]
    | _ => exact absurd h (by simp [D.beq])
  | .lst x, b, h => by
    cases b with
    | lst y => rw [D.beq] at h; rw [D.of_beqL h]
    | _ => exact absurd h (by simp [D.beq])
  | .dic x, b, h => by
    cases b with
    | dic y => rw [D.beq] at h; rw [D.of_beqK h]
    | _ => exact absurd h (by simp [D.beq])
  | .ref x, b, h => by cases b <;> first | (simp [D.beq] at h; subst h; rfl) | (exact absurd h (by simp [D.beq]))
  | .con x, b, h => by cases b <;> first | (simp [D.beq] at h; subst h; rfl) | (exact absurd h (by simp [D.beq]))
  | .scr x, b, h => by
    cases b with
    | scr y => rw [D.beq] at h; rw [D.of_beqL h]
    | _ => exact absurd h (by simp [D.beq])
  | .exo C f x, b, h => by
    cases b with
    | exo C' f' y =>
      rw [D.beq, Bool.and_eq_true, Bool.and_eq_true] at h
      rw [of_decide_eq_true h.1.1, of_decide_eq_true h.1.2, D.of_beq h.2]
    | _ => exact absurd h (by simp [D.beq])
theorem D.of_beqL : ∀ {a b : List D}, D.beqL a b = true → a = b
  | [], [], _ => rfl
  | [], _ :: _, h => absurd h (by simp [D.beqL])
  | _ :: _, [], h => absurd h (by simp [D.beqL])
  | a :: as, b :: bs, h => by
    rw [D.beqL, Bool.and_eq_true] at h
    rw [D.of_beq h.1, D.of_beqL h.2]
theorem D.of_beqK : ∀ {a b : List (Key × D)}, D.beqK a b = true → a = b
  | [], [], _ => rfl
  | [], _ :: _, h => absurd h (by simp [D.beqK])
  | _ :: _, [], h => absurd h (by simp [D.beqK])
  | (k, a) :: as, (l, b) :: bs, h => by
    rw [D.beqK, Bool.and_eq_true, Bool.and_eq_true] at h
    rw [of_decide_eq_true h.1.1, D.of_beq h.1.2, D.of_beqK h.2]
end
mutual
theorem D.beq_self : ∀ a : D, D.beq a a = true
  | .non => by simp [D.beq]
  | .bl x => by simp [D.beq]
  | .int x => by simp [D.beq]
  | .str x => by simp [D.beq]
  | .tup x => by rw [D.beq]; exact D.beqL_self x
  | .lst x => by rw [D.beq]; exact D.beqL_self x
  | .dic x => by rw [D.beq]; exact D.beqK_self x
  | .ref x => by simp [D.beq]
  | .con x => by simp [D.beq]
  | .scr x => by rw [D.beq]; exact D.beqL_self x
  | .exo C f x => by rw [D.beq, D.beq_self x]; simp
theorem D.beqL_self : ∀ a : List D, D.beqL a a = true
  | [] => rfl
  | a :: as => by rw [D.beqL, D.beq_self a, D.beqL_self as]; rfl
theorem D.beqK_self : ∀ a : List (Key × D), D.beqK a a = true
  | [] => rfl
  | (k, a) :: as => by rw [D.beqK, D.beq_self a, D.beqK_self as]; simp
end
instance : DecidableEq D := fun a b => if h : D.beq a b = true then isTrue (D.of_beq h) else isFalse fun e => h (by rw [e]; exact D.beq_self b)

/-! ### what is walked -/
structure Wk where
  items : List D
  guard : Mem → Bool := fun _ => true
structure RW (K : PySem.W.Frag) (α : Ad) (H : Hp) (wk : Wk) (J : It) : Prop where
  len : wk.items.length ≤ sizeLine
  go : ∀ α' H' mem' (i : Nat) d, Lk α H α' H' → MemRep K α' H' mem' → wk.guard mem' = true → wk.items[i]? = some d → J.go i H' ∧ ∀ x H'', J.yld i H' x H'' → Same H' H'' ∧ Rep K α' H'' d x
  stop : ∀ α' H' mem' (i : Nat), Lk α H α' H' → MemRep K α' H' mem' → wk.guard mem' = true → wk.items.length ≤ i → J.stop i H'
abbrev EW := Mx.Env → Mem → Res Wk
structure MI (X : Cx) (W : WX) (tg iter : Expr) (m : EW) : Prop where
  pi : PI X tg iter (tG (RW X.K) X.K m W)

/-! ### targets: names, tuples of them -/
inductive Tg where
  | n (i : Nat) | t (gs : List Tg)
def seqOf (mem : Mem) : D → Option (List D)
  | .tup ds => some ds
  | .lst ds => some ds
  | .scr ds => some ds
  | .ref n => match mem[n]? with
    | some (.lst ds) => some ds
    | _ => none
  | _ => none
mutual
def Tg.asg (mem : Mem) : Tg → D → Option (List (Nat × D))
  | .n i, d => some [(i, d)]
  | .t gs, d => match seqOf mem d with
    | some ds => Tg.asgL mem gs ds
    | none => none
def Tg.asgL (mem : Mem) : List Tg → List D → Option (List (Nat × D))
  | [], [] => some []
  | g :: gs, d :: ds => match Tg.asg mem g d, Tg.asgL mem gs ds with
    | some a, some b => some (a ++ b)
    | _, _ => none
  | _, _ => none
end
def setV (σ : St) : List (Nat × V) → St
  | [] => σ
  | (i, v) :: r => setV (σ.set i (some v)) r
def setL (loc : Mx.Env) : List (Nat × D) → Mx.Env
  | [] => loc
  | (i, d) :: r => setL (loc.set i (some d)) r
inductive RepA (K : PySem.W.Frag) (α : Ad) (H : Hp) : List (Nat × D) → List (Nat × V) → Prop
  | nil : RepA K α H [] []
  | cons {i : Nat} {d : D} {v : V} {ds : List (Nat × D)} {vs : List (Nat × V)} : Rep K α H d v → RepA K α H ds vs → RepA K α H ((i, d) :: ds) ((i, v) :: vs)
section
variable {K : PySem.W.Frag} {α : Ad} {H : Hp}
theorem RepA.append : ∀ {ds es : List (Nat × D)} {vs us : List (Nat × V)}, RepA K α H ds vs → RepA K α H es us → RepA K α H (ds ++ es) (vs ++ us)
  | _, _, _, _, .nil, s => s
  | _, _, _, _, .cons h t, s => .cons h (RepA.append t s)
theorem setV_append : ∀ (vs us : List (Nat × V)) (σ : St), setV σ (vs ++ us) = setV (setV σ vs) us
  | [], _, _ => rfl
  | (i, v) :: r, us, σ => setV_append r us _
theorem LocRep.setA {asg : List (Nat × D)} {vs : List (Nat × V)} (r : RepA K α H asg vs) : ∀ {loc : Mx.Env} {σ : St}, LocRep K α H loc σ → LocRep K α H (setL loc asg) (setV σ vs) := by
  induction r with
  | nil => exact fun h => h
  | cons r _ ih => exact fun h => ih (h.set r _)
end
def tGt (K : PySem.W.Frag) (g : Tg) : TG := fun v σ H Q => ∃ α mem d asg, MemRep K α H mem ∧ Rep K α H d v ∧ g.asg mem d = some asg ∧ ∀ vs, RepA K α H asg vs → Q (setV σ vs) H
def tGs (K : PySem.W.Frag) (gs : List Tg) : TGs := fun vs σ H Q => ∃ α mem ds asg, MemRep K α H mem ∧ RepL K α H ds vs ∧ Tg.asgL mem gs ds = some asg ∧ ∀ vs, RepA K α H asg vs → Q (setV σ vs) H
structure MG (X : Cx) (tg : Expr) (g : Tg) : Prop where
  pg : PG X tg (tGt X.K g)
structure MGs (X : Cx) (tg : List Expr) (g : List Tg) : Prop where
  pgs : PGs X tg (tGs X.K g)
theorem PG.imp {X : Cx} {e : Expr} {t t' : TG} (h : PG X e t) (i : ∀ v σ H Q, t' v σ H Q → t v σ H Q) : PG X e t' := ⟨fun pins s σ H v u Q I r q => h.run pins s σ H v u Q I r (i v σ H Q q)⟩
theorem PGs.imp {X : Cx} {e : List Expr} {t t' : TGs} (h : PGs X e t) (i : ∀ v σ H Q, t' v σ H Q → t v σ H Q) : PGs X e t' := ⟨fun pins s σ H v u Q I r q => h.run pins s σ H v u Q I r (i v σ H Q q)⟩
theorem seqOf_sq {K : PySem.W.Frag} {α : Ad} {H : Hp} {mem : Mem} {d : D} {v : V} {ds : List D} (hm : MemRep K α H mem) (hr : Rep K α H d v) (h : seqOf mem d = some ds) : ∃ a xs, v = .ref a ∧ RepL K α H ds xs ∧ (SqT K H a xs ∨ SqL K H a xs) := by
  cases d with
  | tup es =>
    obtain ⟨a, xs, rfl, hs, hl⟩ := hr.seqT
    cases h
    exact ⟨a, xs, rfl, hl, .inl hs⟩
  | lst es =>
    obtain ⟨a, xs, rfl, hs, hl⟩ := hr.seqL
    cases h
    exact ⟨a, xs, rfl, hl, .inr hs⟩
  | scr es =>
    obtain ⟨a, xs, rfl, hs, hl⟩ := hr.seqS
    cases h
    exact ⟨a, xs, rfl, hl, .inr hs⟩
  | ref n =>
    obtain ⟨a, rfl, ha⟩ := hr.ref_
    obtain ⟨c, hc, hc'⟩ := hm.at_ ha
    unfold seqOf at h
    simp only [hc] at h
    cases c with
    | lst es =>
      obtain ⟨xs, hx, hl⟩ := hc'
      cases h
      exact ⟨a, xs, rfl, hl, .inr (SqL.of hx)⟩
    | dic _ => cases h
  | _ => cases h
section
variable {X : Cx} {pos : Pos}
theorem mg_name {i : Nat} {x : Str} (h : PG X (.Name x pos) (gName i)) : MG X (.Name x pos) (.n i) := ⟨PG.imp h fun v σ H Q ⟨α, mem, d, asg, hm, hr, ha, q⟩ => by
  cases ha
  exact q [(i, v)] (.cons hr .nil)⟩
theorem mgs_nil : MGs X [] [] := ⟨PGs.imp pgs_nil fun vs σ H Q ⟨α, mem, ds, asg, hm, hr, ha, q⟩ => by
  cases hr with
  | nil => cases ha; exact ⟨rfl, q [] .nil⟩
  | cons _ _ => cases ha⟩
theorem mgs_cons {e : Expr} {es : List Expr} {g : Tg} {gs : List Tg} (h1 : MG X e g) (h2 : MGs X es gs) (hs : (assignEach (e :: es) X.env).map (·.2) = assign e X.env :: (assignEach es X.env).map (·.2) := by rfl) : MGs X (e :: es) (g :: gs) := ⟨PGs.imp (pgs_cons h1.pg h2.pgs hs) fun vs σ H Q ⟨α, mem, ds, asg, hm, hr, ha, q⟩ => by
  cases hr with
  | nil => cases ha
  | @cons d v ds vs r rs =>
    rw [Tg.asgL] at ha
    cases e1 : Tg.asg mem g d with
    | none => rw [e1] at ha; cases ha
    | some a =>
      cases e2 : Tg.asgL mem gs ds with
      | none => rw [e1, e2] at ha; cases ha
      | some b =>
        rw [e1, e2] at ha
        cases ha
        exact ⟨v, vs, rfl, α, mem, d, a, hm, r, e1, fun us hu => ⟨α, mem, ds, b, hm, rs, e2, fun ws hw => by
          rw [← setV_append]
          exact q _ (hu.append hw)⟩⟩⟩
theorem mg_tup {es : List Expr} {k : Nat} {gs : List Tg} (h : MGs X es gs) (h1 : PG X (.Tuple es k pos) (gTup X.K gs.length (tGs X.K gs))) (h2 : PG X (.Tuple es k pos) (gLst X.K gs.length (tGs X.K gs))) : MG X (.Tuple es k pos) (.t gs) :=
  ⟨⟨fun pins s σ H v u Q I r ⟨α, mem, d, asg, hm, hr, ha, q⟩ => by
    rw [Tg.asg] at ha
    cases e : seqOf mem d with
    | none => rw [e] at ha; cases ha
    | some ds =>
      rw [e] at ha
      have hlen : ∀ (gs : List Tg) (ds : List D) (asg : List (Nat × D)), Tg.asgL mem gs ds = some asg → ds.length = gs.length := by
        intro gs
        induction gs with
        | nil =>
          intro ds asg h
          cases ds with
          | nil => rfl
          | cons _ _ => cases h
        | cons g gs ih =>
          intro ds asg h
          cases ds with
          | nil => cases h
          | cons d ds =>
            rw [Tg.asgL] at h
            cases e1 : Tg.asg mem g d with
            | none => rw [e1] at h; cases h
            | some a =>
              cases e2 : Tg.asgL mem gs ds with
              | none => rw [e1, e2] at h; cases h
              | some b => exact congrArg (· + 1) (ih ds b e2)
      obtain ⟨a, xs, rfl, rs, hs⟩ := seqOf_sq hm hr e
      have hl : xs.length = gs.length := by rw [← rs.length]; exact hlen _ _ _ ha
      rcases hs with hs | hs
      · exact h1.run pins s σ H _ u Q I r ⟨a, xs, rfl, hs, hl, α, mem, ds, asg, hm, rs, ha, q⟩
      · exact h2.run pins s σ H _ u Q I r ⟨a, xs, rfl, hs, hl, α, mem, ds, asg, hm, rs, ha, q⟩⟩⟩
end

/-! ### statements -/
inductive RS where
  | nx (l : Mx.Env) (m : Mem) | rt (d : D) (m : Mem) | bk (l : Mx.Env) (m : Mem) | ct (l : Mx.Env) (m : Mem) | ex (e : Ex) (l : Mx.Env) (m : Mem) | bad
abbrev S1 := Mx.Env → Mem → RS
def PostS (K : PySem.W.Frag) (α : Ad) (H : Hp) (r : RS) (Z : Ends) (W : WX) : Prop :=
  match r with
  | .nx l m => ∀ α' H' σ', Lt α H α' H' → MemRep K α' H' m → LocRep K α' H' l σ' → Z.nx σ' H'
  | .rt d m => ∀ α' H' v, Lt α H α' H' → MemRep K α' H' m → Rep K α' H' d v → Z.rt v H'
  | .bk l m => ∀ α' H' σ', Lt α H α' H' → MemRep K α' H' m → LocRep K α' H' l σ' → Z.bk σ' H'
  | .ct l m => ∀ α' H' σ', Lt α H α' H' → MemRep K α' H' m → LocRep K α' H' l σ' → Z.ct σ' H'
  | .ex e l m => ∀ α' H' σ' c dd, Lt α H α' H' → MemRep K α' H' m → LocRep K α' H' l σ' → RepX K α' H' e c dd → W c dd σ' H'
  | .bad => False
theorem PostS.later {K : PySem.W.Frag} {α α1 : Ad} {H H1 : Hp} {r : RS} {Z : Ends} {W : WX} (l : Lt α H α1 H1) (h : PostS K α H r Z W) : PostS K α1 H1 r Z W := by
  cases r with
  | nx _ _ => exact fun α' H' v l' => h α' H' v (l.trans l')
  | rt _ _ => exact fun α' H' v l' => h α' H' v (l.trans l')
  | bk _ _ => exact fun α' H' v l' => h α' H' v (l.trans l')
  | ct _ _ => exact fun α' H' v l' => h α' H' v (l.trans l')
  | ex _ _ _ => exact fun α' H' σ' c dd l' => h α' H' σ' c dd (l.trans l')
  | bad => exact h
def tS (K : PySem.W.Frag) (m : S1) (W : WX) : TS := fun Z σ H => ∃ α loc mem, MemRep K α H mem ∧ LocRep K α H loc σ ∧ PostS K α H (m loc mem) Z W
structure MS (X : Cx) (W : WX) (st : Stmt) (m : S1) : Prop where
  ps : PS X st (tS X.K m W)
structure MSs (X : Cx) (W : WX) (st : List Stmt) (m : S1) : Prop where
  pss : PSs X st (tS X.K m W)
/-- an expression's result, then .. -/
def Res.thenS {β : Type} (loc : Mx.Env) : Res β → (β → Mem → RS) → RS
  | .ok b m, k => k b m
  | .ex e m, _ => .ex e loc m
  | .bad, _ => .bad
theorem tG_goS {β γ : Type} {R : Ad → Hp → β → γ → Prop} {K : PySem.W.Frag} {α : Ad} {loc : Mx.Env} {mem : Mem} {m : Mx.Env → Mem → Res β} {k : β → Mem → RS} {W : WX} {σ : St} {H : Hp} {Z : Ends} {Q' : γ → Hp → Prop}
    (hm : MemRep K α H mem) (hl : LocRep K α H loc σ) (hp : PostS K α H ((m loc mem).thenS loc k) Z W)
    (hk : ∀ α1 H1 mem1 d v, Lt α H α1 H1 → MemRep K α1 H1 mem1 → LocRep K α1 H1 loc σ → R α1 H1 d v → PostS K α1 H1 (k d mem1) Z W → Q' v H1) : tG R K m W σ H Q' := by
  refine ⟨α, loc, mem, hm, hl, ?_⟩
  cases e : m loc mem with
  | ok d m' =>
    rw [e] at hp
    exact fun α' H' v l hm' hr => hk α' H' m' d v l hm' (hl.mono l.toLk) hr (PostS.later l hp)
  | ex e' m' =>
    rw [e] at hp
    exact fun α' H' c dd l hm' hx => hp α' H' σ c dd l hm' (hl.mono l.toLk) hx
  | bad =>
    rw [e] at hp
    exact hp.elim
def sNil : S1 := fun loc mem => .nx loc mem
def sSeq (a b : S1) : S1 := fun loc mem => match a loc mem with
  | .nx l m => b l m
  | r => r
def sPass : S1 := fun loc mem => .nx loc mem
def sBreak : S1 := fun loc mem => .bk loc mem
def sCont : S1 := fun loc mem => .ct loc mem
def sExpr (e : E1) : S1 := fun loc mem => (e loc mem).thenS loc fun _ m => .nx loc m
def sRet (e : E1) : S1 := fun loc mem => (e loc mem).thenS loc fun d m => .rt d m
def sRetN : S1 := fun loc mem => .rt .non mem
def sIf (c : EB) (a b : S1) : S1 := fun loc mem => (c loc mem).thenS loc fun t m => if t = true then a loc m else b loc m
def sSet (i : Nat) (e : E1) : S1 := fun loc mem => (e loc mem).thenS loc fun d m => .nx (loc.set i (some d)) m
def sAsg (g : Tg) (e : E1) : S1 := fun loc mem => (e loc mem).thenS loc fun d m => match g.asg m d with
  | some asg => .nx (setL loc asg) m
  | none => .bad
def sPar (is : List Nat) (e : EL) : S1 := fun loc mem => (e loc mem).thenS loc fun ds m => .nx (setL loc (is.zip ds)) m
section
variable {X : Cx} {W : WX} {pos : Pos} {e : Expr} {ma : E1} {st : Stmt} {rest : List Stmt} {m1 m2 : S1}
theorem mss_nil : MSs X W [] sNil := ⟨PSs.imp pss_nil fun Z σ H ⟨α, loc, mem, hm, hl, hp⟩ => hp α H σ (Lt.refl _ _) hm hl⟩
theorem tS_seq {K : PySem.W.Frag} {Z : Ends} {σ : St} {H : Hp} (h : tS K (sSeq m1 m2) W Z σ H) : tSeq (tS K m1 W) (tS K m2 W) Z σ H := by
  obtain ⟨α, loc, mem, hm, hl, hp⟩ := h
  refine ⟨α, loc, mem, hm, hl, ?_⟩
  unfold sSeq at hp
  cases e : m1 loc mem with
  | nx l m =>
    rw [e] at hp
    exact fun α' H' σ' lt hm' hl' => ⟨α', l, m, hm', hl', PostS.later lt hp⟩
  | _ =>
    rw [e] at hp
    exact hp
theorem mss_cons (h1 : MS X W st m1) (h2 : MSs X W rest m2) : MSs X W (st :: rest) (sSeq m1 m2) := ⟨PSs.imp (pss_cons h1.ps h2.pss) fun Z σ H h => tS_seq h⟩
theorem mss_one (h1 : MS X W st m1) : MSs X W [st] m1 := ⟨pss_one h1.ps⟩
theorem ms_pass : MS X W (.Pass pos) sPass := ⟨PS.imp ps_pass fun Z σ H ⟨α, loc, mem, hm, hl, hp⟩ => hp α H σ (Lt.refl _ _) hm hl⟩
theorem ms_break : MS X W (.Break pos) sBreak := ⟨PS.imp ps_break fun Z σ H ⟨α, loc, mem, hm, hl, hp⟩ => hp α H σ (Lt.refl _ _) hm hl⟩
theorem ms_cont : MS X W (.Continue pos) sCont := ⟨PS.imp ps_continue fun Z σ H ⟨α, loc, mem, hm, hl, hp⟩ => hp α H σ (Lt.refl _ _) hm hl⟩
theorem ms_expr (he : ME X W e ma) (hs : swapsWith e none pos.line X.env = pure false := by rfl) : MS X W (.Expr e pos) (sExpr ma) := ⟨PS.imp (ps_expr he.pe hs) fun Z σ H ⟨α, loc, mem, hm, hl, hp⟩ =>
  tG_goS hm hl hp fun α1 H1 m1 d v l1 hm1 hl1 hr1 hp1 => hp1 α1 H1 σ (Lt.refl _ _) hm1 hl1⟩
theorem ms_ret (he : ME X W e ma) : MS X W (.Return (some e) pos) (sRet ma) := ⟨PS.imp (ps_ret he.pe) fun Z σ H ⟨α, loc, mem, hm, hl, hp⟩ =>
  tG_goS hm hl hp fun α1 H1 m1 d v l1 hm1 hl1 hr1 hp1 => hp1 α1 H1 v (Lt.refl _ _) hm1 hr1⟩
theorem ms_retN : MS X W (.Return none pos) sRetN := ⟨PS.imp ps_retN fun Z σ H ⟨α, loc, mem, hm, hl, hp⟩ => hp α H .non (Lt.refl _ _) hm .non⟩
theorem ms_if {c : Expr} {a b : List Stmt} {mc : EB} (hc : MT X W c mc) (ha : MSs X W a m1) (hb : MSs X W b m2) : MS X W (.If c a b pos) (sIf mc m1 m2) := ⟨PS.imp (ps_if hc.pt ha.pss hb.pss) fun Z σ H ⟨α, loc, mem, hm, hl, hp⟩ =>
  tG_goS hm hl hp fun α1 H1 m1 t t' l1 hm1 hl1 hr1 hp1 => by
    cases hr1
    cases t with
    | true => rw [if_pos rfl] at hp1 ⊢; exact ⟨α1, loc, m1, hm1, hl1, hp1⟩
    | false => rw [if_neg (by simp)] at hp1 ⊢; exact ⟨α1, loc, m1, hm1, hl1, hp1⟩⟩
theorem ms_set {i : Nat} {x : Str} {p : Pos} (he : ME X W e ma) (h : PS X (.Assign [.Name x p] e pos) (tAsg (tE X.K ma W) (gName i))) : MS X W (.Assign [.Name x p] e pos) (sSet i ma) := ⟨PS.imp h fun Z σ H ⟨α, loc, mem, hm, hl, hp⟩ =>
  tG_goS hm hl hp fun α1 H1 m1 d v l1 hm1 hl1 hr1 hp1 => hp1 α1 H1 _ (Lt.refl _ _) hm1 (hl1.set hr1 i)⟩
theorem ms_asg {tg : Expr} {g : Tg} (he : ME X W e ma) (hg : MG X tg g) (hs : swapsWithSole [tg] e pos.line X.env = pure false := by rfl) (hw : swappedStores [tg] e X.env = pure none := by rfl)
    (h1 : (assignEach [tg] X.env).map (·.2) = [assign tg X.env] := by rfl) : MS X W (.Assign [tg] e pos) (sAsg g ma) := ⟨PS.imp (ps_asg he.pe hg.pg hs hw h1) fun Z σ H ⟨α, loc, mem, hm, hl, hp⟩ =>
  tG_goS hm hl hp fun α1 H1 m1 d v l1 hm1 hl1 hr1 hp1 => by
    cases e : g.asg m1 d with
    | none => rw [e] at hp1; exact hp1.elim
    | some asg =>
      rw [e] at hp1
      exact ⟨α1, m1, d, asg, hm1, hr1, e, fun vs hv => hp1 α1 H1 _ (Lt.refl _ _) hm1 (hl1.setA hv)⟩⟩
theorem tG_goSE {β γ : Type} {R : Ad → Hp → β → γ → Prop} {K : PySem.W.Frag} {α : Ad} {loc : Mx.Env} {mem : Mem} {m : Mx.Env → Mem → Res β} {k : β → Mem → RS} {W : WX} {σ : St} {H : Hp} {Z : Ends} {Q' : γ → Hp → Prop}
    (hm : MemRep K α H mem) (hl : LocRep K α H loc σ) (hp : PostS K α H ((m loc mem).thenS loc k) Z W)
    (hk : ∀ α1 H1 mem1 d v, m loc mem = .ok d mem1 → Lt α H α1 H1 → MemRep K α1 H1 mem1 → LocRep K α1 H1 loc σ → R α1 H1 d v → PostS K α1 H1 (k d mem1) Z W → Q' v H1) : tG R K m W σ H Q' := by
  refine ⟨α, loc, mem, hm, hl, ?_⟩
  cases e : m loc mem with
  | ok d m' =>
    rw [e] at hp
    exact fun α' H' v l hm' hr => hk α' H' m' d v e l hm' (hl.mono l.toLk) hr (PostS.later l hp)
  | ex e' m' =>
    rw [e] at hp
    exact fun α' H' c dd l hm' hx => hp α' H' σ c dd l hm' (hl.mono l.toLk) hx
  | bad =>
    rw [e] at hp
    exact hp.elim
theorem ms_par {i j : Nat} {tg e : Expr} {ml : EL} {es : List Expr} (h : ML X W es ml) (hp : PS X (.Assign [tg] e pos) (tPar i j (tL X.K ml W))) (hz : es.length = 2 := by rfl) : MS X W (.Assign [tg] e pos) (sPar [i, j] ml) := ⟨PS.imp hp fun Z σ H ⟨α, loc, mem, hm, hl, hp⟩ => by
  refine tG_goSE hm hl hp fun α1 H1 m1 ds vs e l1 hm1 hl1 hr1 hp1 => ?_
  have hd := h.len _ _ _ _ e
  rw [hz] at hd
  cases hr1 with
  | nil => cases hd
  | cons r1 hr1 =>
    cases hr1 with
    | nil => cases hd
    | cons r2 hr2 =>
      cases hr2 with
      | nil => exact ⟨_, _, rfl, hp1 α1 H1 _ (Lt.refl _ _) hm1 ((hl1.set r1 i).set r2 j)⟩
      | cons _ _ => simp at hd⟩

/-! ### for -/
def loop (g : Tg) (body : S1) (guard : Mem → Bool) : List D → S1
  | [], loc, mem => if guard mem = true then .nx loc mem else .bad
  | d :: ds, loc, mem => if guard mem = true then match g.asg mem d with
    | none => .bad
    | some asg => match body (setL loc asg) mem with
      | .nx l m => loop g body guard ds l m
      | .ct l m => loop g body guard ds l m
      | .bk l m => .nx l m
      | r => r
    else .bad
def sFor (g : Tg) (i : EW) (body : S1) : S1 := fun loc mem => (i loc mem).thenS loc fun wk m => loop g body wk.guard wk.items loc m
theorem ms_for {tg iter : Expr} {body : List Stmt} {g : Tg} {mi : EW} {mb : S1} (hp : PassesOwn (model X.prog X.w) X.A X.env X.xe) (hc : X.calm = true) (hi : MI X W tg iter mi) (hg : MG X tg g) (hb : MSs X W body mb)
    (hs : ∀ x, foldedSetIterable iter X.env x = pure x := by intro _; rfl) : MS X W (.For tg iter body [] pos) (sFor g mi mb) := ⟨PS.imp (ps_for hp hc hi.pi hg.pg hb.pss hs) fun Z σ H ⟨α, loc, mem, hm, hl, hp⟩ => by
  refine tG_goS hm hl hp fun α1 H1 m1 wk J l1 hm1 hl1 hr1 hp1 => ?_
  refine ⟨fun i n σ H => n = wk.items.length - i ∧ i ≤ wk.items.length ∧ ∃ α2 loc2 mem2, Lt α1 H1 α2 H ∧ MemRep X.K α2 H mem2 ∧ LocRep X.K α2 H loc2 σ ∧ PostS X.K α2 H (loop g mb wk.guard (wk.items.drop i) loc2 mem2) Z W,
    ⟨_, rfl, Nat.zero_le _, α1, loc, m1, Lt.refl _ _, hm1, hl1, hp1⟩, ?_⟩
  rintro i n σ2 H2 ⟨rfl, hi, α2, loc2, mem2, l2, hm2, hl2, hp2⟩
  by_cases hlt : i < wk.items.length
  · rw [List.drop_eq_getElem_cons hlt, loop] at hp2
    by_cases hgd : wk.guard mem2 = true
    · rw [if_pos hgd] at hp2
      obtain ⟨hgo, hy⟩ := hr1.go α2 H2 mem2 i _ l2.toLk hm2 hgd (List.getElem?_eq_getElem hlt)
      refine .inr ⟨hgo, fun σ' H' => ∃ α3 loc3 mem3, Lt α1 H1 α3 H' ∧ MemRep X.K α3 H' mem3 ∧ LocRep X.K α3 H' loc3 σ' ∧ PostS X.K α3 H' (loop g mb wk.guard (wk.items.drop (i + 1)) loc3 mem3) Z W,
        fun σ' H' q => ⟨_, by omega, rfl, hlt, q⟩, fun x H3 y => ?_⟩
      obtain ⟨sm, hx⟩ := hy x H3 y
      cases ea : g.asg mem2 wk.items[i] with
      | none => rw [ea] at hp2; exact hp2.elim
      | some asg =>
        rw [ea] at hp2
        have l3 : Lt α2 H2 α2 H3 := Lt.same sm
        refine ⟨α2, mem2, wk.items[i], asg, hm2.same sm, hx, ea, fun vs hv => ?_⟩
        refine ⟨α2, setL loc2 asg, mem2, hm2.same sm, (hl2.mono l3.toLk).setA hv, ?_⟩
        have hp3 := PostS.later l3 hp2
        clear hp2
        cases eb : mb (setL loc2 asg) mem2 with
        | nx l m =>
          simp only [eb] at hp3
          exact fun α' H' σ' l' hm' hl' => ⟨α', l, m, (l2.trans l3).trans l', hm', hl', PostS.later l' hp3⟩
        | ct l m =>
          simp only [eb] at hp3
          exact fun α' H' σ' l' hm' hl' => ⟨α', l, m, (l2.trans l3).trans l', hm', hl', PostS.later l' hp3⟩
        | bk l m =>
          simp only [eb] at hp3
          exact fun α' H' σ' l' hm' hl' => hp3 α' H' σ' l' hm' hl'
        | rt d m =>
          simp only [eb] at hp3
          exact hp3
        | ex e l m =>
          simp only [eb] at hp3
          exact hp3
        | bad =>
          simp only [eb] at hp3
          exact hp3
    · rw [if_neg hgd] at hp2
      exact hp2.elim
  · rw [List.drop_eq_nil_of_le (Nat.le_of_not_lt hlt), loop] at hp2
    by_cases hgd : wk.guard mem2 = true
    · rw [if_pos hgd] at hp2
      exact .inl ⟨hr1.stop α2 H2 mem2 i l2.toLk hm2 hgd (Nat.le_of_not_lt hlt), hp2 α2 H2 σ2 (Lt.refl _ _) hm2 hl2⟩
    · rw [if_neg hgd] at hp2
      exact hp2.elim⟩

/-! ### list comprehensions -/
def wipeL (loc : Mx.Env) : List Nat → Mx.Env
  | [] => loc
  | v :: vs => (wipeL loc vs).set v none
def comp (g : Tg) (tt : EB) (te : E1) (guard : Mem → Bool) : List D → Mx.Env → Mem → Res (List D)
  | [], loc, mem => if guard mem = true then .ok [] mem else .bad
  | d :: ds, loc, mem => if guard mem = true then match g.asg mem d with
    | none => .bad
    | some asg => (tt (setL loc asg) mem).bind fun b m1 => if b = true then (te (setL loc asg) m1).bind fun y m2 => (comp g tt te guard ds loc m2).bind fun ys m3 => .ok (y :: ys) m3 else comp g tt te guard ds loc m1
    else .bad
def Res.noex {β : Type} : Res β → Res β
  | .ex _ _ => .bad
  | r => r
def eLc (own : List Nat) (g : Tg) (i : EW) (tt : EB) (te : E1) : E1 := fun loc mem => (i loc mem).bind fun wk m => (comp g tt te wk.guard wk.items (wipeL loc own) m).noex.bind fun ds m' => .ok (.lst ds) m'
mutual
def Tg.slots : Tg → List Nat
  | .n i => [i]
  | .t gs => Tg.slotsL gs
def Tg.slotsL : List Tg → List Nat
  | [] => []
  | g :: gs => g.slots ++ Tg.slotsL gs
end
def bYes : EB := fun _ mem => .ok true mem
structure MTs (X : Cx) (W : WX) (ifs : List Expr) (m : EB) : Prop where
  pts : PTs X ifs (tT X.K m W)
theorem PTs.imp {X : Cx} {e : List Expr} {t t' : TT} (h : PTs X e t) (i : ∀ σ H Q, t' σ H Q → t σ H Q) : PTs X e t' := ⟨fun pins s σ H Q I q => h.run pins s σ H Q I (i σ H Q q)⟩
theorem mts_nil : MTs X W [] bYes := ⟨PTs.imp pts_nil fun σ H Q ⟨α, loc, mem, hm, hl, hp⟩ => hp α H true (Lt.refl _ _) hm rfl⟩
theorem mts_one {c : Expr} {m : EB} (h : MT X W c m) : MTs X W [c] m := ⟨pts_one h.pt⟩
mutual
theorem Tg.asg_slots {mem : Mem} : ∀ (g : Tg) (d : D) (asg : List (Nat × D)), g.asg mem d = some asg → ∀ p ∈ asg, p.1 ∈ g.slots
  | .n i, d, asg, h, p, hp => by
    rw [Tg.asg] at h
    cases h
    rw [List.mem_singleton.mp hp, Tg.slots]
    exact List.mem_singleton.mpr rfl
  | .t gs, d, asg, h, p, hp => by
    rw [Tg.asg] at h
    cases e : seqOf mem d with
    | none => rw [e] at h; cases h
    | some ds =>
      rw [e] at h
      rw [Tg.slots]
      exact Tg.asgL_slots gs ds asg h p hp
theorem Tg.asgL_slots {mem : Mem} : ∀ (gs : List Tg) (ds : List D) (asg : List (Nat × D)), Tg.asgL mem gs ds = some asg → ∀ p ∈ asg, p.1 ∈ Tg.slotsL gs
  | [], [], asg, h, p, hp => by
    rw [Tg.asgL] at h
    cases h
    cases hp
  | [], _ :: _, asg, h, p, hp => by cases h
  | _ :: _, [], asg, h, p, hp => by cases h
  | g :: gs, d :: ds, asg, h, p, hp => by
    rw [Tg.asgL] at h
    cases e1 : Tg.asg mem g d with
    | none => rw [e1] at h; cases h
    | some a =>
      cases e2 : Tg.asgL mem gs ds with
      | none => rw [e1, e2] at h; cases h
      | some b =>
        rw [e1, e2] at h
        cases h
        rw [Tg.slotsL]
        rcases List.mem_append.mp hp with q | q
        · exact List.mem_append_left _ (Tg.asg_slots g d a e1 p q)
        · exact List.mem_append_right _ (Tg.asgL_slots gs ds b e2 p q)
end
theorem wipe_set {i : Nat} {v : Option V} : ∀ {vs : List Nat} {σ : St}, i ∈ vs → wipe (σ.set i v) vs = wipe σ vs
  | [], _, h => nomatch h
  | u :: vs, σ, h => by
    unfold wipe
    by_cases hi : i ∈ vs
    · rw [wipe_set hi]
    · have e : i = u := (List.mem_cons.mp h).resolve_right hi
      subst e
      have : ∀ (vs : List Nat) (σ : St), i ∉ vs → wipe (σ.set i v) vs = (wipe σ vs).set i v := by
        intro vs
        induction vs with
        | nil => intro σ _; rfl
        | cons w vs ih =>
          intro σ hn
          unfold wipe
          rw [ih σ (fun q => hn (List.mem_cons_of_mem _ q)), List.set_comm]
          exact fun e => hn (by rw [e]; exact List.mem_cons_self)
      rw [this vs σ hi, List.set_set]
theorem wipe_setV {own : List Nat} : ∀ {vs : List (Nat × V)} {σ : St}, (∀ p ∈ vs, p.1 ∈ own) → wipe (setV σ vs) own = wipe σ own
  | [], _, _ => rfl
  | (i, v) :: r, σ, h => by
    rw [setV, wipe_setV (fun p hp => h p (List.mem_cons_of_mem _ hp)), wipe_set (h (i, v) List.mem_cons_self)]
theorem wipe_wipe (σ : St) (own : List Nat) : wipe (wipe σ own) own = wipe σ own := by
  have key : ∀ (vs ws : List Nat), (∀ i ∈ vs, i ∈ ws) → wipe (wipe σ vs) ws = wipe σ ws := by
    intro vs
    induction vs with
    | nil => intro ws _; rfl
    | cons v vs ih =>
      intro ws h
      show wipe ((wipe σ vs).set v none) ws = wipe σ ws
      rw [wipe_set (h v List.mem_cons_self)]
      exact ih ws fun i hi => h i (List.mem_cons_of_mem _ hi)
  exact key own own fun _ h => h
theorem RepA.slots {K : PySem.W.Frag} {α : Ad} {H : Hp} {asg : List (Nat × D)} {vs : List (Nat × V)} (r : RepA K α H asg vs) {P : Nat → Prop} (h : ∀ p ∈ asg, P p.1) : ∀ p ∈ vs, P p.1 := by
  induction r with
  | nil => exact fun _ h => nomatch h
  | cons _ _ ih =>
    intro p hp
    rcases List.mem_cons.mp hp with e | hp
    · rw [e]; exact h _ List.mem_cons_self
    · exact ih (fun q hq => h q (List.mem_cons_of_mem _ hq)) p hp
theorem LocRep.unset {K : PySem.W.Frag} {α : Ad} {H : Hp} {loc : Mx.Env} {σ : St} (h : LocRep K α H loc σ) (i : Nat) : LocRep K α H (loc.set i none) (σ.set i none) := by
  refine ⟨by simp [h.1], fun j d q => ?_⟩
  by_cases hj : i = j
  · subst hj
    by_cases hl : i < loc.length
    · rw [List.getElem?_set_self hl] at q; cases q
    · rw [List.getElem?_eq_none (by simpa using hl)] at q; cases q
  · rw [List.getElem?_set_ne hj] at q
    obtain ⟨v, q1, r⟩ := h.2 j d q
    exact ⟨v, by rw [List.getElem?_set_ne hj]; exact q1, r⟩
theorem LocRep.wipe {K : PySem.W.Frag} {α : Ad} {H : Hp} {loc : Mx.Env} {σ : St} (h : LocRep K α H loc σ) : ∀ vs : List Nat, LocRep K α H (wipeL loc vs) (L2.wipe σ vs)
  | [] => h
  | v :: vs => (LocRep.wipe h vs).unset v
end
end Mx

/-! M3: list comprehensions; what is walked; calls of defs. -/
namespace Mx
open PySem L2
abbrev W0 : WX := fun _ _ _ _ => False
section
variable {X : Cx} {W : WX} {pos : Pos}
/-- the state within a comprehension, at turn i -/
structure LcAt (K : PySem.W.Frag) (α1 : Ad) (H1 : Hp) (D : Addr) (loc : Mx.Env) (σ : St) (α2 : Ad) (H : Hp) (mem2 : Mem) (acc : List Mx.D) (xs : List V) : Prop where
  lk : Lk α1 H1 α2 H
  hd : α2.hid = D :: α1.hid
  hold : ∀ a o, a ∈ α1.hid → a ∉ α1.cells → H1 a = some o → a ∉ α2.cells ∧ H a = some o
  at_ : H D = some (.lst xs)
  rs : RepL K α2 H acc xs
  hm : MemRep K α2 H mem2
  hl : LocRep K α2 H loc σ
theorem LcAt.next {K : PySem.W.Frag} {α1 α2 α3 : Ad} {H1 H H' : Hp} {D : Addr} {loc : Mx.Env} {σ : St} {mem2 mem3 : Mem} {acc : List Mx.D} {xs : List V} (h : LcAt K α1 H1 D loc σ α2 H mem2 acc xs) (l : Lt α2 H α3 H') (hm : MemRep K α3 H' mem3) : LcAt K α1 H1 D loc σ α3 H' mem3 acc xs := by
  have hD : D ∈ α2.hid := by rw [h.hd]; exact List.mem_cons_self
  refine ⟨h.lk.trans l.toLk, l.hideq.trans h.hd, fun a o h1 h2 e => ?_, (l.hold D _ hD (h.hm.hid D hD).2 h.at_).2, h.rs.mono l.toLk, hm, h.hl.mono l.toLk⟩
  obtain ⟨q1, q2⟩ := h.hold a o h1 h2 e
  exact l.hold a o (by rw [h.hd]; exact List.mem_cons_of_mem _ h1) q1 q2
theorem LcAt.put {K : PySem.W.Frag} {α1 α2 : Ad} {H1 H : Hp} {D : Addr} {loc : Mx.Env} {σ : St} {mem2 : Mem} {acc : List Mx.D} {xs : List V} {d : Mx.D} {v : V} (h : LcAt K α1 H1 D loc σ α2 H mem2 acc xs) (nD : H1 D = none) (r : Rep K α2 H d v) :
    LcAt K α1 H1 D loc σ α2 (upd H D (.lst (xs ++ [v]))) mem2 (acc ++ [d]) (xs ++ [v]) := by
  have hD : D ∈ α2.hid := by rw [h.hd]; exact List.mem_cons_self
  have lw : Lk α2 H α2 (upd H D (.lst (xs ++ [v]))) := Lk.write fun q => q.2 hD
  refine ⟨⟨fun a o ha e => ?_, h.lk.pre⟩, h.hd, fun a o h1 h2 e => ?_, upd_same, (h.rs.snoc r).mono lw, h.hm.writeH hD, h.hl.mono lw⟩
  · obtain ⟨q1, q2⟩ := h.lk.keep a o ha e
    exact ⟨q1, by rw [upd_ne (ne_of_none e nD)]; exact q2⟩
  · obtain ⟨q1, q2⟩ := h.hold a o h1 h2 e
    exact ⟨q1, by rw [upd_ne (ne_of_none e nD)]; exact q2⟩
theorem lc_read {own : List (Str × Nat)} {g : Tg} {mi : EW} {mt : EB} {me : E1}
    (hsl : ∀ i ∈ g.slots, i ∈ own.map (·.2)) :
    ∀ σ H Q, tE X.K (eLc (own.map (·.2)) g mi mt me) W σ H Q → tLc (tG (RW X.K) X.K mi W) (tGt X.K g) (tT X.K mt W0) (tE X.K me W0) (own.map (·.2)) σ H Q := fun σ H Q ⟨α, loc, mem, hm, hl, hp⟩ => by
  refine tG_go hm hl hp fun α1 H1 m1 wk J l1 hm1 hl1 hr1 hp1 => fun D nD => ?_
  refine ⟨fun i n H => n = wk.items.length - i ∧ i ≤ wk.items.length ∧ ∃ α2 mem2 acc xs, LcAt X.K α1 H1 D (wipeL loc (own.map (·.2))) (wipe σ (own.map (·.2))) α2 H mem2 acc xs ∧ acc.length ≤ i ∧
    Post (Rep X.K) X.K α1 H1 ((comp g mt me wk.guard (wk.items.drop i) (wipeL loc (own.map (·.2))) mem2).noex.bind fun ys m => .ok (.lst (acc ++ ys)) m) Q (fun c d H' => W c d σ H'),
    ⟨_, rfl, Nat.zero_le _, α1.hide D, m1, [], [], ⟨Lk.hide nD, rfl, fun a o h1 h2 e => ⟨h2, same_new nD _ _ e⟩, upd_same, .nil, hm1.hide nD, (hl1.wipe _).mono (Lk.hide nD)⟩, Nat.le_refl _, hp1⟩, ?_⟩
  rintro i n H2 ⟨rfl, hi, α2, mem2, acc, xs, L, hacc, hp2⟩
  have hlen := L.rs.length
  have hD : D ∈ α2.hid := by rw [L.hd]; exact List.mem_cons_self
  by_cases hlt : i < wk.items.length
  · rw [List.drop_eq_getElem_cons hlt, comp] at hp2
    by_cases hgd : wk.guard mem2 = true
    · rw [if_pos hgd] at hp2
      obtain ⟨hgo, hy⟩ := hr1.go α2 H2 mem2 i _ L.lk L.hm hgd (List.getElem?_eq_getElem hlt)
      refine .inr ⟨hgo, fun H' => ∃ α2 mem2 acc xs, LcAt X.K α1 H1 D (wipeL loc (own.map (·.2))) (wipe σ (own.map (·.2))) α2 H' mem2 acc xs ∧ acc.length ≤ i + 1 ∧
        Post (Rep X.K) X.K α1 H1 ((comp g mt me wk.guard (wk.items.drop (i + 1)) (wipeL loc (own.map (·.2))) mem2).noex.bind fun ys m => .ok (.lst (acc ++ ys)) m) Q (fun c d H' => W c d σ H'),
        fun H' q => ⟨_, by omega, rfl, hlt, q⟩, fun x H3 y => ?_⟩
      obtain ⟨sm, hx⟩ := hy x H3 y
      cases ea : g.asg mem2 wk.items[i] with
      | none => rw [ea] at hp2; exact hp2.elim
      | some asg =>
        rw [ea] at hp2
        dsimp only at hp2
        have L3 := L.next (Lt.same sm) (L.hm.same sm)
        refine ⟨α2, mem2, wk.items[i], asg, L3.hm, hx, ea, fun vs hv => ⟨?_, ?_⟩⟩
        · have hsub : ∀ p ∈ vs, p.1 ∈ own.map (·.2) := hv.slots fun p hp => hsl _ (Tg.asg_slots g _ _ ea p hp)
          rw [wipe_setV hsub, wipe_wipe]
        · refine ⟨α2, setL (wipeL loc (own.map (·.2))) asg, mem2, L3.hm, L3.hl.setA hv, ?_⟩
          cases et : mt (setL (wipeL loc (own.map (·.2))) asg) mem2 with
          | ok b m3 =>
            rw [et] at hp2
            intro α3 H4 b' l4 hm3 eb
            cases eb
            have L4 := L3.next l4 hm3
            cases b with
            | false =>
              rw [if_neg (by simp)]
              exact ⟨α3, m3, acc, xs, L4, Nat.le_succ_of_le hacc, by simpa [Res.bind] using hp2⟩
            | true =>
              rw [if_pos rfl]
              simp only [Res.bind, if_true] at hp2
              refine ⟨α3, setL (wipeL loc (own.map (·.2))) asg, m3, hm3, (L3.hl.setA hv).mono l4.toLk, ?_⟩
              cases ey : me (setL (wipeL loc (own.map (·.2))) asg) m3 with
              | ok y m4 =>
                rw [ey] at hp2
                intro α4 H5 v l5 hm4 hv4
                have L5 := L4.next l5 hm4
                refine ⟨xs, L5.at_, by have := hr1.len; omega, α4, m4, acc ++ [y], xs ++ [v], L5.put nD hv4, by simp; omega, ?_⟩
                dsimp only at hp2
                cases ec : comp g mt me wk.guard (wk.items.drop (i + 1)) (wipeL loc (own.map (·.2))) m4 with
                | ok ys m5 => rw [ec] at hp2; simpa [Res.bind, Res.noex] using hp2
                | ex e m5 => rw [ec] at hp2; exact hp2
                | bad => rw [ec] at hp2; exact hp2
              | ex e m => rw [ey] at hp2; exact hp2.elim
              | bad => rw [ey] at hp2; exact hp2.elim
          | ex e m => rw [et] at hp2; exact hp2.elim
          | bad => rw [et] at hp2; exact hp2.elim
    · rw [if_neg hgd] at hp2
      exact hp2.elim
  · rw [List.drop_eq_nil_of_le (Nat.le_of_not_lt hlt), comp] at hp2
    by_cases hgd : wk.guard mem2 = true
    · rw [if_pos hgd] at hp2
      have hsub : ∀ a ∈ α1.hid, a ∈ α2.hid := fun a ha => by rw [L.hd]; exact List.mem_cons_of_mem _ ha
      have lu : Lk α2 H2 ⟨α2.cells, α1.hid⟩ H2 := Lk.unhide hsub
      refine .inl ⟨hr1.stop α2 H2 mem2 i L.lk L.hm hgd (Nat.le_of_not_lt hlt), ?_⟩
      refine hp2 ⟨α2.cells, α1.hid⟩ H2 _ ⟨L.lk.trans lu, L.hold, rfl⟩ (L.hm.unhide hsub) ?_
      rw [List.append_nil]
      exact .lst ⟨(L.hm.hid D hD).2, fun q => (by
        obtain ⟨⟨o, ho⟩, _⟩ := hm1.hid D q
        rw [nD] at ho
        cases ho)⟩ L.at_ (L.rs.mono lu)
    · rw [if_neg hgd] at hp2
      exact hp2.elim
section
variable {elt tg iter : Expr} {ifs : List Expr} {scope : Scope} {own : List (Str × Nat)} {g : Tg} {mi : EW} {mt : EB} {me : E1}
theorem me_lc (hc : X.calm = true) (hN : X.N.Nodup) (ok : BlkOk X.N X.env.scope scope own) (hsl : (g.slots.all fun i => (own.map (·.2)).contains i) = true) (hi : MI X W tg iter mi)
    (hg : ∀ (s : Shared) (H : Hp) (C : Addr) (cl : List (Str × Addr)) (fp : List Addr), MG (X.blk s H scope (compEnvC scope cl C X.env) fp) tg g)
    (ht : ∀ (s : Shared) (H : Hp) (C : Addr) (cl : List (Str × Addr)) (fp : List Addr), MTs (X.blk s H scope (compEnvC scope cl C X.env) fp) W0 ifs mt)
    (he : ∀ (s : Shared) (H : Hp) (C : Addr) (cl : List (Str × Addr)) (fp : List Addr), ME (X.blk s H scope (compEnvC scope cl C X.env) fp) W0 elt me)
    (hs : ∀ x, foldedSetIterable iter X.env x = pure x := by intro _; rfl) : ME X W (.ListComp elt [⟨tg, iter, ifs, 0⟩] scope pos) (eLc (own.map (·.2)) g mi mt me) :=
  ⟨PE.imp (pe_lc (own := own) hc hN hi.pi ok (fun s H C cl fp => (hg s H C cl fp).pg) (fun s H C cl fp => (ht s H C cl fp).pts) (fun s H C cl fp => (he s H C cl fp).pe) hs)
    (lc_read fun i hi => by
      have := List.all_eq_true.mp hsl i hi
      simpa using this)⟩
theorem ms_setLc {i : Nat} {y : Str} {py spos : Pos} (hc : X.calm = true) (hN : X.N.Nodup) (hy : X.N[i]? = some y) (hyl : X.env.scope.names.lookup y = some .local)
    (hsw : swapsWith (.ListComp elt [⟨tg, iter, ifs, 0⟩] scope pos) (some (.Name y py)) spos.line X.env = pure true) (ok : BlkOk X.N X.env.scope scope own) (hsl : (g.slots.all fun i => (own.map (·.2)).contains i) = true) (hi : MI X W tg iter mi)
    (hg : ∀ (s : Shared) (H : Hp) (C : Addr) (cl : List (Str × Addr)) (fp : List Addr), MG (X.blk s H scope (compEnvC scope cl C X.env) fp) tg g)
    (ht : ∀ (s : Shared) (H : Hp) (C : Addr) (cl : List (Str × Addr)) (fp : List Addr), MTs (X.blk s H scope (compEnvC scope cl C X.env) fp) W0 ifs mt)
    (he : ∀ (s : Shared) (H : Hp) (C : Addr) (cl : List (Str × Addr)) (fp : List Addr), ME (X.blk s H scope (compEnvC scope cl C X.env) fp) W0 elt me)
    (hs : ∀ x, foldedSetIterable iter X.env x = pure x := by intro _; rfl) : MS X W (.Assign [.Name y py] (.ListComp elt [⟨tg, iter, ifs, 0⟩] scope pos) spos) (sSet i (eLc (own.map (·.2)) g mi mt me)) :=
  ⟨PS.imp (ps_setLc (own := own) hc hN hy hyl hsw hi.pi ok (fun s H C cl fp => (hg s H C cl fp).pg) (fun s H C cl fp => (ht s H C cl fp).pts) (fun s H C cl fp => (he s H C cl fp).pe) hs) fun Z σ H ⟨α, loc, mem, hm, hl, hp⟩ => by
    refine lc_read (mt := mt) (me := me) (fun i hi => by
      have := List.all_eq_true.mp hsl i hi
      simpa using this) σ H _ ?_
    exact tG_goS hm hl hp fun α1 H1 m1 d v l1 hm1 hl1 hr1 hp1 => hp1 α1 H1 _ (Lt.refl _ _) hm1 (hl1.set hr1 i)⟩
end

end
end Mx

/-! M4: what is walked; calls of defs. -/
namespace Mx
open PySem L2
section
variable {X : Cx} {W : WX} {pos : Pos}
/-! ### what is walked: a list, a tuple, a cell that holds a list -/
def isLst (ds : List D) (mem : Mem) (n : Nat) : Bool := match mem[n]? with
  | some (.lst es) => D.beqL ds es
  | _ => false
def wkOf (mem : Mem) : D → Option Wk
  | .tup ds => some { items := ds }
  | .lst ds => some { items := ds }
  | .scr ds => some { items := ds }
  | .str x => if x.length ≤ 1000000 then some { items := x.cps.toList.map fun c => .str ⟨#[c]⟩ } else none
  | .ref n => match mem[n]? with
    | some (.lst ds) => some { items := ds, guard := fun m => isLst ds m n }
    | _ => none
  | _ => none
def ofW : Option Wk → Mem → Res Wk
  | some w, m => .ok w m
  | none, _ => .bad
def wIt (a : E1) : EW := fun loc mem => (a loc mem).bind fun d m => ofW (wkOf m d) m
theorem rw_list {K : PySem.W.Frag} {α : Ad} {H : Hp} {a : Addr} {ds : List D} {xs : List V} (hz : xs.length ≤ sizeLine) (hr : ∀ α' H', Lk α H α' H' → ∃ ys, SqL K H' a ys ∧ RepL K α' H' ds ys) (hxs : RepL K α H ds xs) : RW K α H { items := ds } (Itl K a) := by
  refine ⟨by rw [hxs.length]; exact hz, fun α' H' mem' i d lk hm hg e => ?_, fun α' H' mem' i lk hm hg e => ?_⟩
  · obtain ⟨ys, hy, hys⟩ := hr α' H' lk
    obtain ⟨v, hv, hrv⟩ := hys.get e
    exact ⟨⟨ys, v, hy, hv⟩, fun x H'' ⟨e1, e2⟩ => by
      subst e1
      have := e2 ys hy
      rw [hv] at this
      cases this
      exact ⟨Same.refl _, hrv⟩⟩
  · obtain ⟨ys, hy, hys⟩ := hr α' H' lk
    exact ⟨ys, hy, by rw [← hys.length]; exact e⟩
theorem rw_tup {K : PySem.W.Frag} {α : Ad} {H : Hp} {a : Addr} {ds : List D} {xs : List V} (hz : xs.length ≤ sizeLine) (hr : Rep K α H (.tup ds) (.ref a)) (hxs : RepL K α H ds xs) : RW K α H { items := ds } (Itt K a) := by
  refine ⟨by rw [hxs.length]; exact hz, fun α' H' mem' i d lk hm hg e => ?_, fun α' H' mem' i lk hm hg e => ?_⟩
  · obtain ⟨b, ys, eb, hy, hys⟩ := (hr.mono lk).seqT
    cases eb
    obtain ⟨v, hv, hrv⟩ := hys.get e
    exact ⟨⟨ys, v, hy, hv⟩, fun x H'' ⟨e1, e2⟩ => by
      subst e1
      have := e2 ys hy
      rw [hv] at this
      cases this
      exact ⟨Same.refl _, hrv⟩⟩
  · obtain ⟨b, ys, eb, hy, hys⟩ := (hr.mono lk).seqT
    cases eb
    exact ⟨ys, hy, by rw [← hys.length]; exact e⟩
theorem cell_list {K : PySem.W.Frag} {α : Ad} {H : Hp} {mem : Mem} {n : Nat} {a : Addr} {ds : List D} (hm : MemRep K α H mem) (ha : α.cells[n]? = some a) (h : isLst ds mem n = true) : ∃ xs, SqL K H a xs ∧ RepL K α H ds xs := by
  obtain ⟨c, hc, hc'⟩ := hm.at_ ha
  unfold isLst at h
  rw [hc] at h
  cases c with
  | lst es =>
    have e := D.of_beqL h
    subst e
    obtain ⟨xs, hx, hl⟩ := hc'
    exact ⟨xs, SqL.of hx, hl⟩
  | dic _ => cases h
theorem rw_cell {K : PySem.W.Frag} {α : Ad} {H : Hp} {n : Nat} {a : Addr} {ds : List D} (hz : ds.length ≤ sizeLine) (ha : α.cells[n]? = some a) : RW K α H { items := ds, guard := fun m => isLst ds m n } (Itl K a) := by
  refine ⟨hz, fun α' H' mem' i d lk hm hg e => ?_, fun α' H' mem' i lk hm hg e => ?_⟩
  · obtain ⟨ys, hy, hys⟩ := cell_list hm (lk.get ha) hg
    obtain ⟨v, hv, hrv⟩ := hys.get e
    exact ⟨⟨ys, v, hy, hv⟩, fun x H'' ⟨e1, e2⟩ => by
      subst e1
      have := e2 ys hy
      rw [hv] at this
      cases this
      exact ⟨Same.refl _, hrv⟩⟩
  · obtain ⟨ys, hy, hys⟩ := cell_list hm (lk.get ha) hg
    exact ⟨ys, hy, by rw [← hys.length]; exact e⟩
theorem rw_str {K : PySem.W.Frag} {α : Ad} {H : Hp} {x : Str} (hz : x.length ≤ 1000000) : RW K α H { items := x.cps.toList.map fun c => .str ⟨#[c]⟩ } (Its x) := by
  have hl : (x.cps.toList.map fun c => D.str ⟨#[c]⟩).length = x.cps.size := by simp
  refine ⟨?_, fun α' H' mem' i d lk hm hg e => ?_, fun α' H' mem' i lk hm hg e => ?_⟩
  · rw [hl]; exact small_of hz
  · dsimp only at e
    rw [List.getElem?_map] at e
    cases ec : x.cps.toList[i]? with
    | none => rw [ec] at e; cases e
    | some c =>
      rw [ec] at e
      cases e
      have ec' : x.cps[i]? = some c := by rw [← Array.getElem?_toList]; exact ec
      refine ⟨(Array.getElem?_eq_some_iff.mp ec').1, fun v H'' ⟨e1, c', e2, e3⟩ => ?_⟩
      subst e1 e3
      rw [ec'] at e2
      cases e2
      exact ⟨Same.refl _, .str _⟩
  · dsimp only at e
    rw [hl] at e
    exact e
theorem mi_it {tg l : Expr} {ml : E1} (hl : ME X W l ml) : MI X W tg l (wIt ml) := by
  refine ⟨⟨fun pins s σ H R I ⟨α, loc, mem, hm, hlc, hp⟩ => ?_⟩⟩
  have hq : tE X.K ml W σ H (fun x H1 => ∃ α1 m1 d, MemRep X.K α1 H1 m1 ∧ Rep X.K α1 H1 d x ∧ Post (RW X.K) X.K α1 H1 (ofW (wkOf m1 d) m1) R (fun c d H' => W c d σ H')) :=
    tG_go hm hlc hp fun α1 H1 m1 d x l1 hm1 hl1 hr1 hp1 => ⟨α1, m1, d, hm1, hr1, hp1⟩
  refine thn (hl.pe.run pins s σ H _ I hq) fun v s1 ⟨x, H1, I1, r1, α1, m1, d, hm1, hr1, hp1⟩ => ?_
  have fin1 : ∀ b ∈ [s1.heap.objs.size], FpOk X pins H1 b := fun b hb => by
    have e : b = s1.heap.objs.size := by simpa using hb
    subst e
    exact I1.fpOk (Nat.le_refl _) (I1.hok.fresh (Nat.le_refl _))
  have goL : ∀ (a : Addr) (xs : List V), x = .ref a → SqL X.K H1 a xs → (xs.length ≤ sizeLine → R (Itl X.K a) H1) → wpAny (model X.prog X.w) X.A (pyIter v) (PIE X pins σ tg R) X.xe s1 := fun a xs e hx q => by
    subst e
    cases r1
    obtain ⟨its, rv, p, hz⟩ := I1.list hx
    refine wpAny_pyIter_list p.isList ?_
    exact ⟨s1.heap.objs.size, [s1.heap.objs.size], _, _, H1, rfl, I1.kept (t' := s1.toks) fun b o e => Heap.get?_push_of_some _ e, turn_list a _, ⟨_, Heap.get?_push_size _ rfl, rfl, rfl⟩, fin1, q hz⟩
  cases d with
  | tup ds =>
    obtain ⟨a, xs, rfl, hx, hxs⟩ := hr1.seqT
    cases r1
    obtain ⟨its, rv, p, hz⟩ := I1.tuple hx
    refine wpAny_pyIter_tuple (show s1.heap.IsTuple a its.toArray from p) ?_
    exact ⟨s1.heap.objs.size, [s1.heap.objs.size], _, _, H1, rfl, I1.kept (t' := s1.toks) fun b o e => Heap.get?_push_of_some _ e, turn_tuple a _, ⟨_, Heap.get?_push_size _ rfl, rfl, rfl⟩, fin1,
      hp1 α1 H1 _ (Lt.refl _ _) hm1 (rw_tup hz hr1 hxs)⟩
  | lst ds =>
    obtain ⟨a, xs, rfl, hx, hxs⟩ := hr1.seqL
    exact goL a xs rfl hx fun hz => hp1 α1 H1 _ (Lt.refl _ _) hm1 (rw_list hz (fun α' H' lk => by
      obtain ⟨b, ys, eb, hy, hys⟩ := (hr1.mono lk).seqL
      cases eb
      exact ⟨ys, hy, hys⟩) hxs)
  | scr ds =>
    obtain ⟨a, xs, rfl, hx, hxs⟩ := hr1.seqS
    exact goL a xs rfl hx fun hz => hp1 α1 H1 _ (Lt.refl _ _) hm1 (rw_list hz (fun α' H' lk => by
      obtain ⟨b, ys, eb, hy, hys⟩ := (hr1.mono lk).seqS
      cases eb
      exact ⟨ys, hy, hys⟩) hxs)
  | ref n =>
    obtain ⟨a, rfl, ha⟩ := hr1.ref_
    obtain ⟨c, hc, hc'⟩ := hm1.at_ ha
    unfold wkOf at hp1
    simp only [hc] at hp1
    cases c with
    | lst ds =>
      obtain ⟨xs, hx, hxs⟩ := hc'
      exact goL a xs rfl (SqL.of hx) fun hz => hp1 α1 H1 _ (Lt.refl _ _) hm1 (rw_cell (by rw [hxs.length]; exact hz) ha)
    | dic _ => exact hp1.elim
  | str z =>
    cases hr1
    obtain ⟨t, rfl⟩ := r1
    dsimp only [wkOf] at hp1
    by_cases hz : z.length ≤ 1000000
    · rw [if_pos hz] at hp1
      have q := hp1 α1 H1 _ (Lt.refl _ _) hm1 (rw_str hz)
      cases ha : z.cps.all (· < 128)
      · exact wpAny_pyIter_wide ha (pi_one (tk := s1.toks) I1 _ (turn_str _ z t "str_iterator" (.inr rfl)) ⟨_, Heap.get?_push_size _ rfl, rfl, rfl⟩ q)
      · exact wpAny_pyIter_ascii ha (pi_one (tk := s1.toks) I1 _ (turn_str _ z t "str_ascii_iterator" (.inl rfl)) ⟨_, Heap.get?_push_size _ rfl, rfl, rfl⟩ q)
    · rw [if_neg hz] at hp1
      exact hp1.elim
  | _ => exact hp1.elim
end
end Mx

/-! M4: what is walked; calls of defs. -/
namespace Mx
open PySem L2 PyProof.Rows
section
variable {X : Cx} {W : WX} {pos : Pos}
/-! a range -/
def rangeD (lo : Int) (n : Nat) : List D := (List.range n).map fun i => .int (lo + (i : Nat))
theorem rw_range {K : PySem.W.Frag} {α : Ad} {H : Hp} {lo : Int} {n : Nat} (hz : n ≤ 1000000) : RW K α H { items := rangeD lo n } (Itr lo n) := by
  have hl : (rangeD lo n).length = n := by simp [rangeD]
  refine ⟨by rw [hl]; exact small_of hz, fun α' H' mem' i d lk hm hg e => ?_, fun α' H' mem' i lk hm hg e => by dsimp only at e; rw [hl] at e; exact e⟩
  have hi : i < n := by
    have := (List.getElem?_eq_some_iff.mp e).1
    dsimp only at this
    rw [hl] at this
    exact this
  refine ⟨hi, fun x H'' ⟨e1, e2⟩ => ?_⟩
  subst e1 e2
  dsimp only [rangeD] at e
  rw [List.getElem?_map, List.getElem?_range hi] at e
  cases e
  exact ⟨Same.refl _, .int _⟩
def wRange1 (a : EL) : EW := fun loc mem => (a loc mem).bind fun ds m => match ds with
  | [.int j] => if j ≤ 1000000 ∧ -1000000 ≤ j then .ok { items := rangeD 0 j.toNat } m else .bad
  | _ => .bad
def wRange2 (a : EL) : EW := fun loc mem => (a loc mem).bind fun ds m => match ds with
  | [.int i, .int j] => if (j ≤ 500000 ∧ -500000 ≤ j) ∧ i ≤ 500000 ∧ -500000 ≤ i then .ok { items := rangeD i (j - i).toNat } m else .bad
  | _ => .bad
theorem PI.imp {tg e : Expr} {t t' : TI} (h : PI X tg e t) (i : ∀ σ H Q, t' σ H Q → t σ H Q) : PI X tg e t' := ⟨fun pins s σ H Q I q => h.run pins s σ H Q I (i σ H Q q)⟩
theorem mi_range1 {tg a : Expr} {p : Pos} {ml : EL} (h : ML X W [a] ml) (hp : PI X tg (.Call (.Name "range" p) [a] [] pos) (iRng1 (tL X.K ml W))) : MI X W tg (.Call (.Name "range" p) [a] [] pos) (wRange1 ml) := ⟨PI.imp hp fun σ H R ⟨α, loc, mem, hm, hl, hp⟩ =>
  tG_go hm hl hp fun α1 H1 m1 ds xs l1 hm1 hl1 hr1 hp1 => by
    cases hr1 with
    | nil => exact hp1.elim
    | cons r rs =>
      cases rs with
      | nil =>
        cases r with
        | int j =>
          dsimp only at hp1
          by_cases hj : j ≤ 1000000 ∧ -1000000 ≤ j
          · rw [if_pos hj] at hp1
            exact ⟨j, rfl, by omega, by omega, hp1 α1 H1 _ (Lt.refl _ _) hm1 (rw_range (by omega))⟩
          · rw [if_neg hj] at hp1
            exact hp1.elim
        | _ => exact hp1.elim
      | cons _ _ => cases r <;> exact hp1.elim⟩
theorem mi_range2 {tg a b : Expr} {p : Pos} {ml : EL} (h : ML X W [a, b] ml) (hp : PI X tg (.Call (.Name "range" p) [a, b] [] pos) (iRng2 (tL X.K ml W))) : MI X W tg (.Call (.Name "range" p) [a, b] [] pos) (wRange2 ml) := ⟨PI.imp hp fun σ H R ⟨α, loc, mem, hm, hl, hp⟩ =>
  tG_go hm hl hp fun α1 H1 m1 ds xs l1 hm1 hl1 hr1 hp1 => by
    cases hr1 with
    | nil => exact hp1.elim
    | cons r rs =>
      cases rs with
      | nil => cases r <;> exact hp1.elim
      | cons r2 rs2 =>
        cases rs2 with
        | nil =>
          cases r with
          | int i =>
            cases r2 with
            | int j =>
              dsimp only at hp1
              by_cases hj : (j ≤ 500000 ∧ -500000 ≤ j) ∧ i ≤ 500000 ∧ -500000 ≤ i
              · rw [if_pos hj] at hp1
                exact ⟨i, j, rfl, ⟨by omega, by omega, by omega, by omega⟩, hp1 α1 H1 _ (Lt.refl _ _) hm1 (rw_range (by omega))⟩
              · rw [if_neg hj] at hp1
                exact hp1.elim
            | _ => exact hp1.elim
          | _ => exact hp1.elim
        | cons _ _ => cases r <;> first | exact hp1.elim | (cases r2 <;> exact hp1.elim)⟩
/-! enumerate of a list -/
def enumD : Nat → List D → List D
  | _, [] => []
  | n, d :: ds => .tup [.int (n : Int), d] :: enumD (n + 1) ds
theorem enumD_get : ∀ (ds : List D) (n i : Nat), (enumD n ds)[i]? = (ds[i]?).map fun d => .tup [.int ((n + i : Nat) : Int), d]
  | [], n, i => by simp [enumD]
  | d :: ds, n, 0 => by simp [enumD]
  | d :: ds, n, i + 1 => by
    rw [enumD, List.getElem?_cons_succ, List.getElem?_cons_succ, enumD_get ds (n + 1) i]
    have : n + 1 + i = n + (i + 1) := by omega
    rw [this]
theorem enumD_len (ds : List D) (n : Nat) : (enumD n ds).length = ds.length := by
  induction ds generalizing n with
  | nil => rfl
  | cons d ds ih => simp [enumD, ih]
def wkEnumL (mem : Mem) : List D → Option Wk
  | [.lst ds] => some { items := enumD 0 ds }
  | [.scr ds] => some { items := enumD 0 ds }
  | [.ref n] => match mem[n]? with
    | some (.lst ds) => some { items := enumD 0 ds, guard := fun m => isLst ds m n }
    | _ => none
  | _ => none
def wEnumL (a : EL) : EW := fun loc mem => (a loc mem).bind fun ds m => ofW (wkEnumL m ds) m
theorem pair_new {K : PySem.W.Frag} {α : Ad} {H : Hp} {mem : Mem} {T : Addr} {x y : V} {d e : D} (hm : MemRep K α H mem) (nT : H T = none) (rx : Rep K α H d x) (ry : Rep K α H e y) : Same H (upd H T (.tup [x, y])) ∧ Rep K α (upd H T (.tup [x, y])) (.tup [d, e]) (.ref T) := by
  have sm := same_new (o := .tup [x, y]) nT
  exact ⟨sm, .tup (hm.fresh nT) (.inl upd_same) (.cons (rx.mono (Lt.same sm).toLk) (.cons (ry.mono (Lt.same sm).toLk) .nil))⟩
theorem rw_enumL {K : PySem.W.Frag} {α : Ad} {H : Hp} {a : Addr} {ds : List D} {guard : Mem → Bool} (hz : ds.length ≤ sizeLine)
    (h : ∀ α' H' mem', Lk α H α' H' → MemRep K α' H' mem' → guard mem' = true → ∃ xs, SqL K H' a xs ∧ RepL K α' H' ds xs) : RW K α H { items := enumD 0 ds, guard := guard } (Ite K a) := by
  refine ⟨by rw [enumD_len]; exact hz, fun α' H' mem' i d lk hm hg e => ?_, fun α' H' mem' i lk hm hg e => ?_⟩
  · obtain ⟨ys, hy, hys⟩ := h α' H' mem' lk hm hg
    dsimp only at e
    rw [enumD_get] at e
    cases ed : ds[i]? with
    | none => rw [ed] at e; cases e
    | some d0 =>
      rw [ed] at e
      cases e
      obtain ⟨v, hv, hrv⟩ := hys.get ed
      refine ⟨⟨ys, v, hy, hv⟩, fun x H'' ⟨T, y, e1, e2, e3, e4⟩ => ?_⟩
      subst e1 e3
      have := e4 ys hy
      rw [hv] at this
      cases this
      rw [Nat.zero_add]
      exact pair_new hm e2 (.int _) hrv
  · obtain ⟨ys, hy, hys⟩ := h α' H' mem' lk hm hg
    dsimp only at e
    rw [enumD_len] at e
    exact ⟨ys, hy, by rw [← hys.length]; exact e⟩
theorem mi_enumL {elts : List Expr} {kk : Nat} {tpos : Pos} {a : Expr} {p : Pos} {ml : EL} (h : ML X W [a] ml) (hg : Gl X "enumerate") (hmg : X.mg "enumerate" = none) (hs : starEach [a] X.env = [(false, eval a X.env)] := by rfl) :
    MI X W (.Tuple elts kk tpos) (.Call (.Name "enumerate" p) [a] [] pos) (wEnumL ml) := by
  refine ⟨⟨fun pins s σ H R I ⟨α, loc, mem, hm, hl, hp⟩ => ?_⟩⟩
  have key : tL X.K ml W σ H (fun xs H1 => ∃ a ys, xs = [.ref a] ∧ SqL X.K H1 a ys ∧ (ys.length ≤ sizeLine → R (Ite X.K a) H1)) :=
    tG_go hm hl hp fun α1 H1 m1 ds xs l1 hm1 hl1 hr1 hp1 => by
      cases hr1 with
      | nil => exact hp1.elim
      | @cons d v ds vs r rs =>
        cases rs with
        | cons _ _ => cases d <;> exact hp1.elim
        | nil =>
          cases d with
          | lst ds =>
            obtain ⟨b, ys, rfl, hy, hys⟩ := r.seqL
            exact ⟨b, ys, rfl, hy, fun hz => hp1 α1 H1 _ (Lt.refl _ _) hm1 (rw_enumL (by rw [hys.length]; exact hz) fun α' H' mem' lk hm' _ => by
              obtain ⟨c, zs, ec, h1, h2⟩ := (r.mono lk).seqL
              cases ec
              exact ⟨zs, h1, h2⟩)⟩
          | scr ds =>
            obtain ⟨b, ys, rfl, hy, hys⟩ := r.seqS
            exact ⟨b, ys, rfl, hy, fun hz => hp1 α1 H1 _ (Lt.refl _ _) hm1 (rw_enumL (by rw [hys.length]; exact hz) fun α' H' mem' lk hm' _ => by
              obtain ⟨c, zs, ec, h1, h2⟩ := (r.mono lk).seqS
              cases ec
              exact ⟨zs, h1, h2⟩)⟩
          | ref n =>
            obtain ⟨b, rfl, ha⟩ := r.ref_
            obtain ⟨c, hc, hc'⟩ := hm1.at_ ha
            dsimp only [wkEnumL] at hp1
            simp only [hc] at hp1
            cases c with
            | lst ds =>
              obtain ⟨ys, hy, hys⟩ := hc'
              exact ⟨b, ys, rfl, SqL.of hy, fun hz => hp1 α1 H1 _ (Lt.refl _ _) hm1 (rw_enumL (by rw [hys.length]; exact hz) fun α' H' mem' lk hm' hg' => cell_list hm' (lk.get ha) hg')⟩
            | dic _ => exact hp1.elim
          | _ => exact hp1.elim
  refine Call_ (ld_blt I hg hmg boot_enumerate (PyProof.Rows.callWith_type1 (thn (h.pa.run pos pins s σ H _ I key) fun us s1 ⟨vs, H1, I1, r1, q1⟩ => ?_) hs rfl))
  obtain ⟨a, xs, ex, hq, q⟩ := q1
  subst ex
  cases r1 with
  | cons r rr =>
    cases rr
    cases r
    obtain ⟨its, rv, p', hz⟩ := I1.list hq
    refine call_enumerate_list p'.isList fun h' he hit hsz hk => wpAny_pyIter_enum he ?_
    have I2 : L2.Inv X pins σ H1 { s1 with heap := h' } := I1.kept (t' := s1.toks) hk
    refine ⟨s1.heap.objs.size + 1, [s1.heap.objs.size + 1, s1.heap.objs.size], _, _, H1, rfl, I2, turn_enum a (s1.heap.objs.size + 1) s1.heap.objs.size, ⟨⟨.none, he⟩, hit, Nat.succ_ne_self _⟩, fun b hb => ?_, q hz⟩
    have e' : b = s1.heap.objs.size + 1 ∨ b = s1.heap.objs.size := by simpa using hb
    have hle : s1.heap.objs.size ≤ b := by
      rcases e' with z | z
      · rw [z]; exact Nat.le_add_right _ _
      · rw [z]; exact Nat.le_refl _
    exact I1.fpOk hle (I1.hok.fresh hle)

/-! ### defs -/
/-- what a def does with its arguments and the memory -/
abbrev Fn := List D → Mem → Res D
def spM (K : PySem.W.Frag) (n : Nat) (F : Fn) : Sp := fun vs H Q E => vs.length = n ∧ ∃ α mem ds, MemRep K α H mem ∧ RepL K α H ds vs ∧ Post (Rep K) K α H (F ds mem) Q E
/-- room, and no repr under way -/
structure Rm (k : Nat) (A : Around) : Prop extends Room k A where
  gd : A.guards = some []
theorem Rm.mono {j k : Nat} {A : Around} (r : Rm k A) (h : j ≤ k) : Rm j A := ⟨r.toRoom.mono h, r.gd⟩
theorem Rm.deeper {k : Nat} {A : Around} (r : Rm (k + 1) A) (env : PySem.Env) : Rm k (A.deeper env) := ⟨r.toRoom.deeper env, r.gd⟩
/-- a def's promise where no repr is under way -/
structure FnG (P : Program) (w : World) (K : PySem.W.Frag) (mg : Str → Option Value) (base : Heap) (k : Nat) (f : Addr) (fd : FuncData) (ps : List Str) (sp : Sp) : Prop where
  len : ∀ vs H Q E, sp vs H Q E → vs.length = ps.length
  go : ∀ (A : Around) (outer : List PySem.Env) (s : Shared) (H : Hp) (args : Args) (us : List Value) (vs : List V) (Q : VK) (E : XK), Rm k A → Env0 P w K mg base A outer s H →
    BindsTo s fd args (ps.zip us) → Vals vs us → sp vs H Q E → codeAny (model P w) A (.call (.ref f) args) (CR (L2.CX P w) outer P w H s Q E) s
/-- a def of the text, callable by its name, that does F -/
structure Cal (P : Program) (w : World) (K : PySem.W.Frag) (mg : Str → Option Value) (base : Heap) (k : Nat) (x : Str) (ps : List Str) (F : Fn) : Prop where
  ex : ∃ f fd, mg x = some (.ref f) ∧ PySem.W.keepIn K (.ref f) = true ∧ Binds K fd ps [] ∧ FnG P w K mg base k f fd ps (spM K ps.length F)
def eCall (F : Fn) (a : EL) : E1 := fun loc mem => (a loc mem).bind fun ds m => F ds m
/-- what is raised in a call within X is taken by W -/
structure Tk (X : Cx) (W : WX) : Prop where
  tk : Takes X W
/-- the call of a def, its arguments' values at hand -/
theorem go_fn {pins : List (Addr × Obj)} {σ : L2.St} {H : Hp} {s : Shared} {Q : VK} {us : List Value} {vs : List V} {k : Nat} {f : Addr} {fd : FuncData} {ps : List Str} {sp : Sp} (G : FnG X.prog X.w X.K X.mg X.base k f fd ps sp) (rm : Rm k X.A) (hbd : Binds X.K fd ps []) (tk : Takes X W)
    (I : L2.Inv X pins σ H s) (rv : Vals vs us) (q : sp vs H Q (fun cls d H' => W cls d σ H')) : wpAny (model X.prog X.w) X.A (call (.ref f) us) (EP X pins σ Q) X.xe s := by
  have many : us.length = ps.length := rv.length.symm.trans (G.len _ _ _ _ q)
  have bound := hbd s us I.kIn ((List.append_nil us).symm ▸ many)
  refine wpAny_call (codeAny_mono (G.go X.A X.stack s H ⟨us, []⟩ us vs Q _ rm I.env0 (by simpa using bound) rv q) ?_)
  intro res s' done
  match res, done with
  | .error e, done => exact tk e s' (XE.of_call I (fun _ _ _ h => h) done)
  | .ok (.ret _), done => exact I.after done
  | .ok .next, done => exact done.elim
  | .ok .brk, done => exact done.elim
  | .ok .cont, done => exact done.elim
theorem me_call {x : Str} {ps : List Str} {F : Fn} {k : Nat} {p : Pos} {e : Expr} {es : List Expr} {ml : EL} (C : Cal X.prog X.w X.K X.mg X.base k x ps F) (rm : Rm k X.A) (hg : Gl X x) (t : Tk X W) (ha : ML X W (e :: es) ml) (hlen : (e :: es).length = ps.length := by rfl)
    (hdb : (x == ("__debug__" : Str)) = false := by decide) (hst : starEach (e :: es) X.env = (false, eval e X.env) :: starEach es X.env := by rfl) (hpl : (backTo pos (starEach es X.env)).any (·.1) = false := by rfl) :
    ME X W (.Call (.Name x p) (e :: es) [] pos) (eCall F ml) := by
  obtain ⟨f, fd, hm, hk, hb, G⟩ := C.ex
  refine ⟨⟨fun pins s σ H Q I ⟨α, loc, mem, hmm, hl, hp⟩ => ?_⟩⟩
  have key : tL X.K ml W σ H (fun vs H1 => spM X.K ps.length F vs H1 Q (fun cls d H' => W cls d σ H')) :=
    tG_goE hmm hl hp fun α1 H1 m1 ds xs e1 l1 hm1 hl1 hr1 hp1 => ⟨by rw [← hr1.length, ha.len _ _ _ _ e1]; exact hlen, α1, m1, ds, hm1, hr1, hp1⟩
  refine wpAny_Call_Name_kw (ld_glob I hg hm ?_ hdb)
  refine PySem.W.callWith_K (h₀ := X.base) I.ok.mod.kin hk ?_ hst hpl
  exact thn (ha.pa.run pos pins s σ H _ I key) fun us s1 ⟨vs, H1, I1, r, q⟩ => ⟨I1.kIn, go_fn G rm hb t.tk I1 r q⟩
end
end Mx

/-! M5: a def by its body. -/
namespace Mx
open PySem L2 PyProof.Rows
mutual
/-- all cells that are named are among the first n -/
def D.bel (n : Nat) : D → Bool
  | .tup ds => D.belL n ds
  | .lst ds => D.belL n ds
  | .dic ds => D.belK n ds
  | .scr ds => D.belL n ds
  | .ref m => decide (m < n)
  | .exo _ _ d => D.bel n d
  | _ => true
def D.belL (n : Nat) : List D → Bool
  | [] => true
  | d :: ds => D.bel n d && D.belL n ds
def D.belK (n : Nat) : List (Key × D) → Bool
  | [] => true
  | (_, d) :: ds => D.bel n d && D.belK n ds
end
def Cell.bel (n : Nat) : Cell → Bool
  | .lst ds => D.belL n ds
  | .dic ds => D.belK n ds
section
variable {K : PySem.W.Frag} {α : Ad} {H : Hp}
mutual
theorem Rep.bel : ∀ {d : D} {v : V}, Rep K α H d v → D.bel α.cells.length d = true
  | _, _, .non => by simp [D.bel]
  | _, _, .bl b => by simp [D.bel]
  | _, _, .int i => by simp [D.bel]
  | _, _, .str x => by simp [D.bel]
  | _, _, .tup h r rs => by rw [D.bel]; exact RepL.bel rs
  | _, _, .tupK h rs => by rw [D.bel]; exact RepL.bel rs
  | _, _, .lst h r rs => by rw [D.bel]; exact RepL.bel rs
  | _, _, .scr h r rs => by rw [D.bel]; exact RepL.bel rs
  | _, _, .scrK h rs => by rw [D.bel]; exact RepL.bel rs
  | _, _, .dic h r rs => by rw [D.bel]; exact RepK.bel rs
  | _, _, .ref h => by rw [D.bel]; exact decide_eq_true (List.getElem?_eq_some_iff.mp h).1
  | _, _, .con v => by simp [D.bel]
  | _, _, .exm _ _ _ _ r => by rw [D.bel]; exact Rep.bel r
  | _, _, .exf _ _ _ _ r => by rw [D.bel]; exact Rep.bel r
theorem RepL.bel : ∀ {ds : List D} {vs : List V}, RepL K α H ds vs → D.belL α.cells.length ds = true
  | _, _, .nil => by simp [D.belL]
  | _, _, .cons h t => by rw [D.belL, Rep.bel h, RepL.bel t]; rfl
theorem RepK.bel : ∀ {ds : List (Key × D)} {vs : List (Key × V)}, RepK K α H ds vs → D.belK α.cells.length ds = true
  | _, _, .nil => by simp [D.belK]
  | _, _, .cons h t => by rw [D.belK, Rep.bel h, RepK.bel t]; rfl
end
theorem off_cut {β : List Addr} {hid : List Addr} {cs : List Addr} {a : Addr} (h : (⟨cs ++ β, hid⟩ : Ad).off a) : (⟨cs, hid⟩ : Ad).off a := ⟨fun q => h.1 (List.mem_append_left _ q), h.2⟩
mutual
/-- the first cells alone -/
theorem Rep.cut {cs β hid : List Addr} : ∀ {d : D} {v : V}, D.bel cs.length d = true → Rep K ⟨cs ++ β, hid⟩ H d v → Rep K ⟨cs, hid⟩ H d v
  | _, _, _, .non => .non
  | _, _, _, .bl b => .bl b
  | _, _, _, .int i => .int i
  | _, _, _, .str x => .str x
  | _, _, hb, .tup h r rs => .tup (off_cut h) r (RepL.cut (by rw [D.bel] at hb; exact hb) rs)
  | _, _, hb, .tupK h rs => .tupK h (RepL.cut (by rw [D.bel] at hb; exact hb) rs)
  | _, _, hb, .lst h r rs => .lst (off_cut h) r (RepL.cut (by rw [D.bel] at hb; exact hb) rs)
  | _, _, hb, .scr h r rs => .scr (off_cut h) r (RepL.cut (by rw [D.bel] at hb; exact hb) rs)
  | _, _, hb, .scrK h rs => .scrK h (RepL.cut (by rw [D.bel] at hb; exact hb) rs)
  | _, _, hb, .dic h r rs => .dic (off_cut h) r (RepK.cut (by rw [D.bel] at hb; exact hb) rs)
  | _, _, hb, .ref h => .ref (by
    rw [D.bel] at hb
    have hb := of_decide_eq_true hb
    have h : (cs ++ β)[_]? = some _ := h
    rw [List.getElem?_append_left hb] at h
    exact h)
  | _, _, _, .con v => .con v
  | _, _, hb, .exm h h2 r r2 rs => .exm (off_cut h) (off_cut h2) r r2 (Rep.cut (by rw [D.bel] at hb; exact hb) rs)
  | _, _, hb, .exf h h2 r r2 rs => .exf (off_cut h) (off_cut h2) r r2 (Rep.cut (by rw [D.bel] at hb; exact hb) rs)
theorem RepL.cut {cs β hid : List Addr} : ∀ {ds : List D} {vs : List V}, D.belL cs.length ds = true → RepL K ⟨cs ++ β, hid⟩ H ds vs → RepL K ⟨cs, hid⟩ H ds vs
  | _, _, _, .nil => .nil
  | _, _, hb, .cons h t => by
    rw [D.belL, Bool.and_eq_true] at hb
    exact .cons (Rep.cut hb.1 h) (RepL.cut hb.2 t)
theorem RepK.cut {cs β hid : List Addr} : ∀ {ds : List (Key × D)} {vs : List (Key × V)}, D.belK cs.length ds = true → RepK K ⟨cs ++ β, hid⟩ H ds vs → RepK K ⟨cs, hid⟩ H ds vs
  | _, _, _, .nil => .nil
  | _, _, hb, .cons h t => by
    rw [D.belK, Bool.and_eq_true] at hb
    exact .cons (Rep.cut hb.1 h) (RepK.cut hb.2 t)
end
theorem CellAt.cut {cs β hid : List Addr} {a : Addr} : ∀ {c : Cell}, c.bel cs.length = true → CellAt K ⟨cs ++ β, hid⟩ H a c → CellAt K ⟨cs, hid⟩ H a c
  | .lst _, hb, ⟨xs, h, r⟩ => ⟨xs, h, RepL.cut hb r⟩
  | .dic _, hb, ⟨xs, h, r⟩ => ⟨xs, h, RepK.cut hb r⟩
theorem CellAt.bel {a : Addr} : ∀ {c : Cell}, CellAt K α H a c → c.bel α.cells.length = true
  | .lst _, ⟨xs, h, r⟩ => RepL.bel r
  | .dic _, ⟨xs, h, r⟩ => RepK.bel r
end
/-- the cells of m0 are those of mem, or name none of the new ones -/
def MemOk (mem m0 : Mem) : Prop := mem.length ≤ m0.length ∧ ∀ (i : Nat) (c : Cell), m0[i]? = some c → mem[i]? = some c ∨ c.bel m0.length = true
theorem MemOk.refl (mem : Mem) : MemOk mem mem := ⟨Nat.le_refl _, fun _ _ h => .inl h⟩
mutual
theorem D.bel_mono {n m : Nat} (h : n ≤ m) : ∀ d : D, d.bel n = true → d.bel m = true
  | .non, _ => by simp [D.bel]
  | .bl _, _ => by simp [D.bel]
  | .int _, _ => by simp [D.bel]
  | .str _, _ => by simp [D.bel]
  | .tup ds, q => by rw [D.bel] at q ⊢; exact D.belL_mono h ds q
  | .lst ds, q => by rw [D.bel] at q ⊢; exact D.belL_mono h ds q
  | .dic ds, q => by rw [D.bel] at q ⊢; exact D.belK_mono h ds q
  | .ref k, q => by rw [D.bel] at q ⊢; have := of_decide_eq_true q; exact decide_eq_true (by omega)
  | .con _, _ => by simp [D.bel]
  | .scr ds, q => by rw [D.bel] at q ⊢; exact D.belL_mono h ds q
  | .exo _ _ d, q => by rw [D.bel] at q ⊢; exact D.bel_mono h d q
theorem D.belL_mono {n m : Nat} (h : n ≤ m) : ∀ ds : List D, D.belL n ds = true → D.belL m ds = true
  | [], _ => by simp [D.belL]
  | d :: ds, q => by
    rw [D.belL, Bool.and_eq_true] at q ⊢
    exact ⟨D.bel_mono h d q.1, D.belL_mono h ds q.2⟩
theorem D.belK_mono {n m : Nat} (h : n ≤ m) : ∀ ds : List (Key × D), D.belK n ds = true → D.belK m ds = true
  | [], _ => by simp [D.belK]
  | (_, d) :: ds, q => by
    rw [D.belK, Bool.and_eq_true] at q ⊢
    exact ⟨D.bel_mono h d q.1, D.belK_mono h ds q.2⟩
end
theorem Cell.bel_mono {n m : Nat} (h : n ≤ m) : ∀ c : Cell, c.bel n = true → c.bel m = true
  | .lst ds => D.belL_mono h ds
  | .dic ds => D.belK_mono h ds
/-- a body's result r may be taken as r' by the caller -/
inductive Ref (mem : Mem) : Res D → Res D → Prop
  | same (r : Res D) : Ref mem r r
  | drop {d : D} {m0 junk : Mem} : MemOk mem m0 → d.bel m0.length = true → Ref mem (.ok d (m0 ++ junk)) (.ok d m0)
  | freeze {n : Nat} {ds : List D} {m0 junk : Mem} : MemOk mem m0 → m0.length ≤ n → (m0 ++ junk)[n]? = some (.lst ds) → D.belL m0.length ds = true → Ref mem (.ok (.ref n) (m0 ++ junk)) (.ok (.lst ds) m0)
  | exdrop {e : Ex} {m0 junk : Mem} : MemOk mem m0 → (∀ f d, e.fld = some (f, d) → d.bel m0.length = true) → Ref mem (.ex e (m0 ++ junk)) (.ex e m0)
  | bad {r : Res D} : Ref mem r .bad
section
variable {K : PySem.W.Frag} {α : Ad} {H : Hp} {mem : Mem}
theorem memrep_cut {m0 junk : Mem} {α' : Ad} {H' : Hp} (hm : MemRep K α H mem) (ok : MemOk mem m0) (l : Lt α H α' H') (h : MemRep K α' H' (m0 ++ junk)) : ∃ cs β, α' = ⟨cs ++ β, α.hid⟩ ∧ cs.length = m0.length ∧ MemRep K ⟨cs, α.hid⟩ H' m0 ∧ Lt α H ⟨cs, α.hid⟩ H' := by
  obtain ⟨cs, hid⟩ := α'
  obtain ⟨β, e⟩ := l.pre
  have e2 : hid = α.hid := l.hideq
  dsimp only at e
  subst e2
  have hlen : cs.length = m0.length + junk.length := by
    have := h.len
    rw [List.length_append] at this
    exact this
  have hle := ok.1
  have hal : α.cells.length = mem.length := hm.len
  have ecut : cs.take m0.length = α.cells ++ β.take (m0.length - α.cells.length) := by
    rw [e, List.take_append, List.take_of_length_le (by omega)]
  have esp : cs = cs.take m0.length ++ cs.drop m0.length := (List.take_append_drop _ _).symm
  have hl0 : (cs.take m0.length).length = m0.length := by rw [List.length_take]; omega
  have get0 : ∀ (n : Nat) (a : Addr), (cs.take m0.length)[n]? = some a → cs[n]? = some a := fun n a q => by
    rw [esp, List.getElem?_append_left (List.getElem?_eq_some_iff.mp q).1]
    exact q
  have sub0 : ∀ a, a ∈ cs.take m0.length → a ∈ cs := fun a q => List.mem_of_mem_take q
  refine ⟨cs.take m0.length, cs.drop m0.length, by rw [← esp], hl0, ⟨?_, hl0, fun n a c e1 e2 => ?_, fun a ha => let ⟨h1, h2⟩ := h.hid a ha; ⟨h1, fun q => h2 (sub0 a q)⟩⟩, ⟨⟨fun a o ho ea => ?_, _, ecut⟩, fun a o h1 h2 ea => ⟨fun q => (l.hold a o h1 h2 ea).1 (sub0 a q), (l.hold a o h1 h2 ea).2⟩, rfl⟩⟩
  · have := h.nd
    dsimp only at this
    rw [esp] at this
    exact (List.nodup_append.mp this).1
  · have hc : CellAt K ⟨cs.take m0.length ++ cs.drop m0.length, α.hid⟩ H' a c := by
      rw [← esp]
      exact h.cell n a c (get0 n a e1) (by rw [List.getElem?_append_left (List.getElem?_eq_some_iff.mp e2).1]; exact e2)
    refine hc.cut ?_
    rw [hl0]
    rcases ok.2 n c e2 with q | q
    · obtain ⟨b, hb, hcb⟩ := hm.at2 q
      have := hcb.bel
      rw [hal] at this
      exact Cell.bel_mono hle c this
    · exact q
  · obtain ⟨q1, q2⟩ := l.keep a o ho ea
    exact ⟨⟨fun q => q1.1 (sub0 a q), q1.2⟩, q2⟩
theorem Ref.post {r r' : Res D} {Q : VK} {W : XK} (hm : MemRep K α H mem) (rf : Ref mem r r') (hp : Post (Rep K) K α H r' Q W) : Post (Rep K) K α H r Q W := by
  cases rf with
  | same => exact hp
  | drop ok hb =>
    intro α' H' v l hm' hr
    obtain ⟨cs, β, rfl, hl, h1, h2⟩ := memrep_cut hm ok l hm'
    exact hp _ H' v h2 h1 (Rep.cut (by rw [hl]; exact hb) hr)
  | @freeze n ds m0 junk ok hn hc hb =>
    intro α' H' v l hm' hr
    obtain ⟨cs, β, rfl, hl, h1, h2⟩ := memrep_cut hm ok l hm'
    obtain ⟨a, rfl, ha⟩ := hr.ref_
    obtain ⟨xs, hx, hxs⟩ := hm'.cell n a _ ha hc
    refine hp _ H' _ h2 h1 (.lst ⟨fun q => ?_, fun q => (hm'.hid a q).2 (List.mem_of_getElem? ha)⟩ hx (RepL.cut (by rw [hl]; exact hb) hxs))
    have nd := hm'.nd
    obtain ⟨i, hi⟩ := List.getElem?_of_mem q
    have hi' : i < cs.length := (List.getElem?_eq_some_iff.mp hi).1
    have h1 : (cs ++ β)[i]? = some a := by rw [List.getElem?_append_left hi']; exact hi
    obtain ⟨g1, q1⟩ := List.getElem?_eq_some_iff.mp h1
    obtain ⟨g2, q2⟩ := List.getElem?_eq_some_iff.mp ha
    have := (List.getElem_inj nd).mp (q1.trans q2.symm)
    omega
  | @exdrop e m0 junk ok hb =>
    intro α' H' c dd l hm' hx
    obtain ⟨cs, β, rfl, hl, h1, h2⟩ := memrep_cut hm ok l hm'
    refine hp _ H' c dd h2 h1 ⟨hx.1, ?_⟩
    have hx2 := hx.2
    cases ef : e.fld with
    | none => rw [ef] at hx2; exact hx2
    | some p =>
      obtain ⟨f, d⟩ := p
      rw [ef] at hx2
      obtain ⟨a, v, q1, q2, q3, q4⟩ := hx2
      exact ⟨a, v, q1, off_cut q2, q3, Rep.cut (by rw [hl]; exact hb f d ef) q4⟩
  | bad => exact hp.elim
end

/-! ### a def by its body -/
def startL (n : Nat) (ds : List D) : Mx.Env := ds.map some ++ List.replicate (n - ds.length) none
def runB (n : Nat) (m : S1) : Fn := fun ds mem => match m (startL n ds) mem with
  | .rt d m' => .ok d m'
  | .nx _ m' => .ok .non m'
  | .ex e _ m' => .ex e m'
  | _ => .bad
theorem start_rep {K : PySem.W.Frag} {α : Ad} {H : Hp} {ds : List D} {vs : List V} (N : List Str) (h : RepL K α H ds vs) : LocRep K α H (startL N.length ds) (start N vs) := by
  refine ⟨by simp [startL, L2.start, h.length], fun i d e => ?_⟩
  unfold startL at e
  by_cases hi : i < ds.length
  · rw [List.getElem?_append_left (by simpa using hi), List.getElem?_map] at e
    cases ed : ds[i]? with
    | none => rw [ed] at e; cases e
    | some d0 =>
      rw [ed] at e
      cases e
      obtain ⟨v, hv, hr⟩ := h.get ed
      refine ⟨v, ?_, hr⟩
      unfold L2.start
      rw [List.getElem?_append_left (by rw [List.length_map, ← h.length]; exact hi), List.getElem?_map, hv]
      rfl
  · rw [List.getElem?_append_right (by simpa using Nat.le_of_not_lt hi), List.getElem?_replicate] at e
    split at e <;> cases e
abbrev cxF (P : Program) (w : World) (K : PySem.W.Frag) (mg : Str → Option Value) (base : Heap) (N : List Str) (qual : Str) (st : Stmt) (f : Addr) (cdv : Value) (A : Around) (outer : List PySem.Env) (s : Shared) (H : Hp) (E : XK) : Cx :=
  cxOf (L2.CX P w) P w K mg base N qual (defScope st) f cdv A outer s H E
abbrev wxF (E : XK) : WX := fun cls d _ H => E cls d H
section
variable {P : Program} {w : World} {K : PySem.W.Frag} {mg : Str → Option Value} {base : Heap}
theorem tkF {N : List Str} {qual : Str} {st : Stmt} {f : Addr} {cdv : Value} {A : Around} {outer : List PySem.Env} {s : Shared} {H : Hp} {E : XK} : Tk (cxF P w K mg base N qual st f cdv A outer s H E) (wxF E) := ⟨takes_of rfl rfl rfl rfl⟩
theorem passF {N : List Str} {qual : Str} {st : Stmt} {f : Addr} {cdv : Value} {A : Around} {outer : List PySem.Env} {s : Shared} {H : Hp} {E : XK} : PassesOwn (model P w) (cxF P w K mg base N qual st f cdv A outer s H E).A (cxF P w K mg base N qual st f cdv A outer s H E).env (cxF P w K mg base N qual st f cdv A outer s H E).xe :=
  passes_of (X := cxF P w K mg base N qual st f cdv A outer s H E) rfl
/-- a def's body and its promise, where no repr is under way -/
theorem fnG_of {x qual : Str} {st : Stmt} {f : Addr} {fd : FuncData} {N ps : List Str} {k : Nat} {sp : Sp} (G : Fun K x qual st f fd) (S : FnScope N ps (defScope st)) (hlen : ∀ vs H Q E, sp vs H Q E → vs.length = ps.length)
    (body : ∀ (cdv : Value) (A : Around) (outer : List PySem.Env) (s : Shared) (H : Hp) (vs : List V) (Q : VK) (E : XK), Rm k (A.deeper (envOfC qual (defScope st) s.heap.objs.size f cdv)) → sp vs H Q E →
      ∃ t, PSs (cxF P w K mg base N qual st f cdv A outer s H E) (defBody st) t ∧ t { nx := fun _ H' => Q .non H', rt := Q } (L2.start N vs) H) : FnG P w K mg base (k + 1) f fd ps sp := by
  obtain ⟨oc, od, kV, doc, pm, an, cdv, ct, osl, rfl, look, code⟩ := G.ex
  refine ⟨hlen, fun A outer s H args us vs Q E rm env bound rv q => ?_⟩
  have inK : K.In s.heap := env.mod.kin.keeps fun b o e => (env.bs b o e).1
  have nol : s.heap.NoLimit := env.mod.nolimit.keeps fun b o e => (env.bs b o e).1
  have kinds : ∀ y ∈ ps.zip us, (defScope st).names.lookup y.1 = some .local ∨ ((defScope st).names.lookup y.1 = some .cell ∧ ((cellsFrom (s.heap.objs.size + 1) (defScope st).names []).lookup y.1).isSome = true) := by
    rintro ⟨n, v⟩ hy
    exact (S.par n (List.of_mem_zip hy).1).imp id fun c => ⟨c, PySem.W.cellsFrom_some _ _ _ (.inl c)⟩
  refine codeAny_call_function rm.toRoom.depth (inK _ _ look) rfl S.co S.gen rfl (PySem.W.codeRec_of inK code) (bound _ _ _ _ ?_)
  refine wpAny_newFunctionEnv_cells S.kind kinds ?_
  rintro _ rfl s1 new
  refine ⟨nol.keeps new.toInCall.keep, codeAny_func ?_⟩
  obtain ⟨t, hps, ht⟩ := body cdv A outer s H vs Q E (rm.deeper _) q
  have I0 : L2.Inv (cxF P w K mg base N qual st f cdv A outer s H E) [] (L2.start N vs) H s1 := inv_start S rm.hd env (hlen _ _ _ _ q) rv new
  refine wpAny_mono (hps.run [] s1 _ H _ I0 ht) ?_ fun _ _ z => z
  intro fl s' z
  match fl, z with
  | .ret u, ⟨v, _, H', J, r, q'⟩ => exact ⟨v, H', J.os, J.bare, J.base, J.hok, r, q'⟩
  | .next, ⟨_, H', J, q'⟩ => exact ⟨.non, H', J.os, J.bare, J.base, J.hok, rfl, q'⟩
  | .brk, ⟨_, _, _, q'⟩ => exact q'.elim
  | .cont, ⟨_, _, _, q'⟩ => exact q'.elim
theorem fnM_of {x qual : Str} {st : Stmt} {f : Addr} {fd : FuncData} {N ps : List Str} {k : Nat} {m : S1} {F : Fn} (G : Fun K x qual st f fd) (S : FnScope N ps (defScope st))
    (body : ∀ (cdv : Value) (A : Around) (outer : List PySem.Env) (s : Shared) (H : Hp) (E : XK), Rm k (A.deeper (envOfC qual (defScope st) s.heap.objs.size f cdv)) → MSs (cxF P w K mg base N qual st f cdv A outer s H E) (wxF E) (defBody st) m)
    (rf : ∀ ds mem, ds.length = ps.length → Ref mem (runB N.length m ds mem) (F ds mem)) : FnG P w K mg base (k + 1) f fd ps (spM K ps.length F) := by
  refine fnG_of G S (fun vs H Q E h => h.1) fun cdv A outer s H vs Q E hr ⟨hl, α, mem, ds, hm, hrs, hp⟩ => ?_
  refine ⟨_, (body cdv A outer s H E hr).pss, α, startL N.length ds, mem, hm, start_rep N hrs, ?_⟩
  have hp2 := (rf ds mem (by rw [hrs.length]; exact hl)).post hm hp
  unfold runB at hp2
  cases e : m (startL N.length ds) mem with
  | nx l m' =>
    rw [e] at hp2
    exact fun α' H' σ' lt hm' _ => hp2 α' H' .non lt hm' .non
  | rt d m' =>
    rw [e] at hp2
    exact hp2
  | ex e' l m' =>
    rw [e] at hp2
    exact fun α' H' σ' c dd lt hm' _ hx => hp2 α' H' c dd lt hm' hx
  | bk _ _ => rw [e] at hp2; exact hp2.elim
  | ct _ _ => rw [e] at hp2; exact hp2.elim
  | bad => rw [e] at hp2; exact hp2.elim
theorem cal_of {x qual : Str} {st : Stmt} {f : Addr} {fd : FuncData} {N ps : List Str} {k : Nat} {m : S1} {F : Fn} (G : Fun K x qual st f fd) (S : FnScope N ps (defScope st)) (hmg : mg x = some (.ref f)) (hb : Binds K fd ps [])
    (body : ∀ (cdv : Value) (A : Around) (outer : List PySem.Env) (s : Shared) (H : Hp) (E : XK), Rm k (A.deeper (envOfC qual (defScope st) s.heap.objs.size f cdv)) → MSs (cxF P w K mg base N qual st f cdv A outer s H E) (wxF E) (defBody st) m)
    (rf : ∀ ds mem, ds.length = ps.length → Ref mem (runB N.length m ds mem) (F ds mem)) : Cal P w K mg base (k + 1) x ps F := ⟨f, fd, hmg, G.kp, hb, fnM_of G S body rf⟩
/-- a def of the top -/
structure Def (K : PySem.W.Frag) (mg : Str → Option Value) (x : Str) (st : Stmt) : Prop where
  ex : ∃ f fd, mg x = some (.ref f) ∧ Fun K x x st f fd
theorem def_mk {h : Heap} {x : Str} {st : Stmt} {f : Addr} {oc : Value} {od an : Option Addr} {osl : Array (Option Value)} {kV doc pm cdv ct : Value} (X : K.In h) (G : h.Ns mainGlobals mg) (a : PySem.W.nsIn K mainGlobals x = some (some (.ref f)))
    (l : K.lookup f = some ⟨oc, od, .func (PySem.W.fnOf x x (defArgs st) (defBody st) (defScope st) .none kV doc pm an cdv ct), osl⟩) (c : PySem.W.codeIn K cdv x = true) (k : PySem.W.keepIn K (.ref f) = true) : Def K mg x st := ⟨f, _, PySem.W.mg_of X G a, fun_mk (st := st) l c k⟩
abbrev BindsAll (x : Str) (st : Stmt) (ps : List Str) : Prop := ∀ (kV doc pm : Value) (an : Option Addr) (cdv ct : Value) (us : List Value), us.length = ps.length → bindArgs (PySem.W.fnOf x x (defArgs st) (defBody st) (defScope st) .none kV doc pm an cdv ct) ⟨us, []⟩ = pure (ps.zip us)
theorem cal_def {x : Str} {st : Stmt} {N ps : List Str} {k : Nat} {m : S1} {F : Fn} (D : Def K mg x st) (S : FnScope N ps (defScope st)) (hb : BindsAll x st ps)
    (body : ∀ (f : Addr) (cdv : Value) (A : Around) (outer : List PySem.Env) (s : Shared) (H : Hp) (E : XK), Rm k (A.deeper (envOfC x (defScope st) s.heap.objs.size f cdv)) → MSs (cxF P w K mg base N x st f cdv A outer s H E) (wxF E) (defBody st) m)
    (rf : ∀ ds mem, ds.length = ps.length → Ref mem (runB N.length m ds mem) (F ds mem)) : Cal P w K mg base (k + 1) x ps F := by
  obtain ⟨f, fd, hm, G⟩ := D.ex
  exact cal_of G S hm (G.binds hb) (body f) rf
theorem Cal.mono {x : Str} {ps : List Str} {F : Fn} {j k : Nat} (C : Cal P w K mg base j x ps F) (h : j ≤ k) : Cal P w K mg base k x ps F := by
  obtain ⟨f, fd, h1, h2, h3, G⟩ := C.ex
  exact ⟨f, fd, h1, h2, h3, G.len, fun A outer s H args us vs Q E rm => G.go A outer s H args us vs Q E (rm.mono h)⟩
end

/-! ### the law's end -/
/-- sys.modules is a dict (so no list of ours stands there) -/
def SysD (h : Heap) : Prop := ∃ mm, h.Ns sysModules mm
/-- the law's def gives True, from the heap that stands behind the top: what is tracked there is the script alone -/
theorem end_call {P : Program} {w : World} {K : PySem.W.Frag} {mg mb : Str → Option Value} {k : Nat} {fa a : Addr} {fd : FuncData} {x : Str} {sp : Sp} {s₁ : Shared} {vs : List Value} {ns : List Int}
    (KX : K.In s₁.heap) (gl : s₁.heap.Ns mainGlobals mg) (bl : s₁.heap.Ns builtinsNs mb) (boot : ∀ x : Str, x ≠ "__name__" → mb x = bootBuiltins x) (nol : s₁.heap.NoLimit) (nog : s₁.gens = #[])
    (obj : s₁.heap.get? a = some { cls := .type "list", data := .seq vs.toArray }) (isI : IntsAre vs ns) (few : ns.length ≤ sizeLine) (rm : Rm k callerA) (sy : SysD s₁.heap)
    (F : ∀ base : Heap, K.In base → base.Ns mainGlobals mg → SysD base → FnG P w K mg base k fa fd [x] sp) (bind1 : ∀ (s : Shared) (u : Value), BindsTo s fd ⟨[u], []⟩ [(x, u)])
    (want : ∀ H : Hp, Only H → SqL K H a (ns.map V.int) → sp [.ref a] H (fun v _ => v = .bl true) fun _ _ _ => False) :
    codeAny (model P w) callerA (.call (.ref fa) ⟨[.ref a], []⟩) (fun r s' => r = .ok (.ret (.bool true)) ∧ OldK s₁.heap s'.heap ∧ s'.os = s₁.os ∧ AllBare s'.gens) s₁ := by
  have rel := vals_ints isI
  -- whatever is tracked is the script, and then it is none of the module's own objects
  suffices main : ∀ H : Hp, Only H → SqL K H a (ns.map V.int) → HOk P w H s₁.heap → (∀ b u, H b = some u → b = a ∧ K.lookup a = none) → _ by
    by_cases hk : ∃ o, K.lookup a = some o
    · obtain ⟨o, hk⟩ := hk
      have same := KX a o hk
      rw [obj] at same
      cases same
      exact main (fun _ => none) (fun _ => .inl rfl) (.inr ⟨_, vs.toArray, _, hk, rfl, rfl, rfl, by rw [List.size_toArray, isI.length]; exact few, by simpa using rel⟩) (fun _ _ z => nomatch z) (fun _ _ z => nomatch z)
    · have hk0 : K.lookup a = none := by
        cases q : K.lookup a with
        | none => rfl
        | some o => exact absurd ⟨o, q⟩ hk
      let H : Hp := fun b => if b = a then some (.frz { cls := .type "list", data := .seq vs.toArray } (.lst (ns.map V.int))) else none
      have at_a : H a = some (.frz { cls := .type "list", data := .seq vs.toArray } (.lst (ns.map V.int))) := if_pos rfl
      have off : ∀ b, b ≠ a → H b = none := fun b h => if_neg h
      refine main H (fun b => ?_) (.inl (.inr ⟨_, at_a⟩)) (fun b u z => ?_) fun b u z => ⟨?_, hk0⟩
      · by_cases h : b = a
        · exact .inr ⟨_, _, by rw [h]; exact at_a⟩
        · exact .inl (off b h)
      · by_cases h : b = a
        · subst h
          rw [at_a] at z
          cases z
          exact ⟨obj, by rw [List.length_map]; exact few, vs, _, rel, obj⟩
        · rw [off b h] at z
          cases z
      · by_cases h : b = a
        · exact h
        · rw [off b h] at z
          cases z
  intro H only sq hok track
  have free : ∀ {b : Addr} {o : Obj} {es : Array DictEntry} {ep : Nat}, s₁.heap.get? b = some o → o.data = .dict es ep → H b = none := by
    intro b o es ep e d
    cases q : H b with
    | none => rfl
    | some u =>
      have e' := (track b u q).1
      subst e'
      rw [obj] at e
      cases e
      exact nomatch d
  have ns' : ∀ {b : Addr} {m : Str → Option Value}, s₁.heap.Ns b m → (hidT s₁.heap H).Ns b m := by
    rintro b m ⟨o, es, ep, e, d, r⟩
    exact ⟨o, es, ep, hidT_get e (free e d), d, r⟩
  have inB : K.In (hidT s₁.heap H) := by
    intro b o e
    refine hidT_get (KX b o e) ?_
    cases q : H b with
    | none => rfl
    | some u =>
      obtain ⟨rfl, no⟩ := track b u q
      rw [no] at e
      cases e
  obtain ⟨mc, l1, l2⟩ := nol
  have env : Env0 P w K mg (hidT s₁.heap H) callerA [] s₁ H := ⟨rfl, ⟨inB, ns' gl, ⟨mb, ns' bl, boot⟩, mc, ns' l1, l2⟩, fun b o e => of_hidT e, Nat.le_of_eq (hidT_size _ _), trivial, (fun b z => nomatch z), hok, .of_eq nog⟩
  refine codeAny_mono ((F _ inB (ns' gl) (let ⟨mm, z⟩ := sy; ⟨mm, ns' z⟩)).go callerA [] s₁ H ⟨[.ref a], []⟩ [.ref a] [.ref a] _ _ rm env (bind1 s₁ (.ref a)) (.cons rfl .nil) (want H only sq)) ?_
  intro res s' z
  match res, z with
  | .error e, z =>
    obtain ⟨_, _, _, _, _, _, _, _, _, _, _, _, no⟩ := z
    exact no.elim
  | .ok .next, z => exact z.elim
  | .ok .brk, z => exact z.elim
  | .ok .cont, z => exact z.elim
  | .ok (.ret u), ⟨v, H', os, bare, un, hok', r, q⟩ =>
    have q' : v = .bl true := q
    subst q'
    have ru : u = Value.bool true := r
    subst ru
    refine ⟨rfl, OldK.of_keep fun b o e => ?_, os, bare⟩
    rcases only b with n | ⟨ob, xs, fz⟩
    · exact un.keep b o e n (fun z => nomatch z) (fun z => nomatch z)
    · obtain ⟨e1, _⟩ := hok b _ fz
      obtain ⟨e2, _⟩ := hok' b _ (un.frzs b ob _ fz)
      rw [e] at e1
      cases e1
      exact e2
/-- the goal that the head leaves -/
theorem end_walk {l : PySem.W.OpenLaw} {n k : Nat} {q : Program} {loose : List Str} {XP : (Str → Option Value) → Heap → Prop} {YP : World → Heap → Prop} {d : DefRec} {K : Params → PySem.W.Frag} {sp : PySem.W.Frag → Sp} {x : Str}
    (most : l.most = some n) (few : n ≤ sizeLine) (nod : d.params.defaults = []) (rm : Rm k callerA) (imp : importsNone q = true) (hY : ∀ (w : World) (h : Heap), YP w h → (K w.params).In h)
    (F : ∀ (w : World) (mg : Str → Option Value) (fa : Addr) (h : Heap), (K w.params).In h → h.Ns mainGlobals mg → mg d.name = some (.ref fa) →
      ∃ fd : FuncData, (∀ (s : Shared) (u : Value), BindsTo s fd ⟨[u], []⟩ [(x, u)]) ∧ ∀ base : Heap, (K w.params).In base → base.Ns mainGlobals mg → SysD base → FnG l.prog w (K w.params) mg base k fa fd [x] (sp (K w.params)))
    (want : ∀ (K : PySem.W.Frag) (H : Hp) (a : Addr) (ns : List Int), ns.length ≤ n → Only H → SqL K H a (ns.map V.int) → sp K [.ref a] H (fun v _ => v = .bl true) fun _ _ _ => False) :
    PySem.W.WalkO q loose XP YP l.row.toRowW d [] (fun f vs => PySem.call f vs) := by
  refine Att.attach_call most nod ?_
  intro w s₀ s₁ mg mb fa o pm cd doc a vs ns G Y ho hd hcd hmg obj isI hlen nog
  obtain ⟨fd, bind1, FF⟩ := F w mg fa _ (hY w _ Y) G.T.g hmg
  exact end_call (hY w _ Y) G.T.g G.T.b G.T.builtins G.T.nolimit nog obj isI (Nat.le_trans hlen few) rm (let ⟨mm, z, _⟩ := (G.T.seer imp).mods; ⟨mm, z⟩) FF bind1 fun H only sq => want _ H a ns hlen only sq
end Mx

/-! M6: operations on data. -/
namespace Mx
open PySem L2
/-- a list's items: a list, the script, a cell -/
def listOf (mem : Mem) : D → Option (List D)
  | .lst ds => some ds
  | .ref n => match mem[n]? with
    | some (.lst ds) => some ds
    | _ => none
  | _ => none
theorem listOf_at {K : PySem.W.Frag} {α : Ad} {H : Hp} {mem : Mem} {d : D} {v : V} {ds : List D} (hm : MemRep K α H mem) (hr : Rep K α H d v) (h : listOf mem d = some ds) : ∃ a xs, v = .ref a ∧ H a = some (.lst xs) ∧ RepL K α H ds xs := by
  cases d with
  | lst es =>
    cases h
    cases hr with
    | lst _ r rs => exact ⟨_, _, rfl, r, rs⟩
  | ref n =>
    obtain ⟨a, rfl, ha⟩ := hr.ref_
    obtain ⟨c, hc, hc'⟩ := hm.at_ ha
    unfold listOf at h
    simp only [hc] at h
    cases c with
    | lst es =>
      obtain ⟨xs, hx, hl⟩ := hc'
      cases h
      exact ⟨a, xs, rfl, hx, hl⟩
    | dic _ => cases h
  | _ => cases h
abbrev OpP := Mem → List D → Option D
section
variable {X : Cx}
/-- an operation that changes no cell, by its one rule -/
theorem opP {f : Value → Value → Sem Value} {g : OpP}
    (h : ∀ (pins : List (Addr × Obj)) (s : Shared) (σ : St) (H : Hp) (x y : V) (v u : Value) (Q : VK) (α : Ad) (mem : Mem) (d e z : D), L2.Inv X pins σ H s → RelV x v → RelV y u → MemRep X.K α H mem → Rep X.K α H d x → Rep X.K α H e y → g mem [d, e] = some z →
      (∀ H' w', Same H H' → Rep X.K α H' z w' → Q w' H') → wpAny (model X.prog X.w) X.A (f v u) (EP X pins σ Q) X.xe s) : OpR X f (rB2 X.K (pu g)) := by
  intro pins s σ H x y v u Q I rx ry ⟨α, mem, ds, z, mem', hm, hr, hg, q⟩
  cases hr with
  | cons r1 hr =>
    cases hr with
    | cons r2 hr =>
      cases hr
      unfold pu at hg
      cases eg : g mem _ with
      | none => rw [eg] at hg; cases hg
      | some z' =>
        rw [eg] at hg
        cases hg
        exact h pins s σ H x y v u Q α mem _ _ _ I rx ry hm r1 r2 eg fun H' w' sm hw => q α H' w' (Lt.same sm) (hm.same sm) hw
theorem unP {f : Value → Sem Value} {g : OpP}
    (h : ∀ (pins : List (Addr × Obj)) (s : Shared) (σ : St) (H : Hp) (x : V) (v : Value) (Q : VK) (α : Ad) (mem : Mem) (d z : D), L2.Inv X pins σ H s → RelV x v → MemRep X.K α H mem → Rep X.K α H d x → g mem [d] = some z →
      (∀ H' w', Same H H' → Rep X.K α H' z w' → Q w' H') → wpAny (model X.prog X.w) X.A (f v) (EP X pins σ Q) X.xe s) : UnR X f (rB1 X.K (pu g)) := by
  intro pins s σ H x v Q I rx ⟨α, mem, ds, z, mem', hm, hr, hg, q⟩
  cases hr with
  | cons r1 hr =>
    cases hr
    unfold pu at hg
    cases eg : g mem _ with
    | none => rw [eg] at hg; cases hg
    | some z' =>
      rw [eg] at hg
      cases hg
      exact h pins s σ H x v Q α mem _ _ I rx hm r1 eg fun H' w' sm hw => q α H' w' (Lt.same sm) (hm.same sm) hw
theorem callP {f : Value} {g : OpP}
    (h : ∀ (pins : List (Addr × Obj)) (s : Shared) (σ : St) (H : Hp) (xs : List V) (us : List Value) (Q : VK) (α : Ad) (mem : Mem) (ds : List D) (z : D), L2.Inv X pins σ H s → Vals xs us → MemRep X.K α H mem → RepL X.K α H ds xs → g mem ds = some z →
      (∀ H' w', Same H H' → Rep X.K α H' z w' → Q w' H') → wpAny (model X.prog X.w) X.A (call f us) (EP X pins σ Q) X.xe s) : CallR X f (rB X.K (pu g)) := by
  intro pins s σ H xs us Q I rx ⟨α, mem, ds, z, mem', hm, hr, hg, q⟩
  unfold pu at hg
  cases eg : g mem _ with
  | none => rw [eg] at hg; cases hg
  | some z' =>
    rw [eg] at hg
    cases hg
    exact h pins s σ H xs us Q α mem _ _ I rx hm hr eg fun H' w' sm hw => q α H' w' (Lt.same sm) (hm.same sm) hw

/-! ### ints, texts, tuples, lists: + - * // % ** -/
def gAdd : OpP := fun mem ds => match ds with
  | [.int a, .int b] => some (.int (a + b))
  | [.str a, .str b] => if a.length + b.length ≤ 1000000 then some (.str (a ++ b)) else none
  | [.tup a, .tup b] => if a.length + b.length ≤ 1000000 then some (.tup (a ++ b)) else none
  | [x, y] => match listOf mem x, listOf mem y with
    | some a, some b => if a.length + b.length ≤ 1000000 then some (.lst (a ++ b)) else none
    | _, _ => none
  | _ => none
theorem add_lists {pins : List (Addr × Obj)} {s : Shared} {σ : St} {H : Hp} {x y : V} {v u : Value} {Q : VK} {α : Ad} {mem : Mem} {d e : D} {a b : List D} (I : L2.Inv X pins σ H s) (rx : RelV x v) (ry : RelV y u) (hm : MemRep X.K α H mem) (r1 : Rep X.K α H d x) (r2 : Rep X.K α H e y)
    (ha : listOf mem d = some a) (hb : listOf mem e = some b) (hz : a.length + b.length ≤ 1000000) (q : ∀ H' w', Same H H' → Rep X.K α H' (.lst (a ++ b)) w' → Q w' H') : wpAny (model X.prog X.w) X.A (binaryOp .Add v u) (EP X pins σ Q) X.xe s := by
  obtain ⟨l, xs, rfl, hl, hxs⟩ := listOf_at hm r1 ha
  obtain ⟨k, ys, rfl, hk, hys⟩ := listOf_at hm r2 hb
  refine op_cat pins s σ H _ _ v u Q I rx ry ⟨l, k, xs, ys, rfl, rfl, hl, hk, by rw [← hxs.length, ← hys.length]; exact small_of hz, fun p np => ?_⟩
  have sm := same_new (o := .lst (xs ++ ys)) np
  exact q _ _ sm (.lst (hm.fresh np) upd_same ((hxs.append hys).mono (Lt.same sm).toLk))
theorem op_gAdd : OpR X (binaryOp .Add) (rB2 X.K (pu gAdd)) := opP fun pins s σ H x y v u Q α mem d e z I rx ry hm r1 r2 hg q => by
  have lists : ∀ (a b : List D), listOf mem d = some a → listOf mem e = some b → (∀ i j, d = .int i → e = .int j → False) → gAdd mem [d, e] = (if a.length + b.length ≤ 1000000 then some (.lst (a ++ b)) else none) → wpAny (model X.prog X.w) X.A (binaryOp .Add v u) (EP X pins σ Q) X.xe s := fun a b ha hb _ he => by
    rw [hg] at he
    by_cases hz : a.length + b.length ≤ 1000000
    · rw [if_pos hz] at he
      cases he
      exact add_lists I rx ry hm r1 r2 ha hb hz q
    · rw [if_neg hz] at he
      cases he
  cases d with
  | int i =>
    cases e with
    | int j =>
      cases hg
      cases r1
      cases r2
      exact op_add pins s σ H _ _ v u Q I rx ry ⟨i, j, rfl, rfl, q H _ (Same.refl _) (.int _)⟩
    | _ => cases hg
  | str a =>
    cases e with
    | str b =>
      dsimp only [gAdd] at hg
      by_cases hz : a.length + b.length ≤ 1000000
      · rw [if_pos hz] at hg
        cases hg
        cases r1
        cases r2
        exact op_add_str pins s σ H _ _ v u Q I rx ry ⟨a, b, rfl, rfl, small_of hz, q H _ (Same.refl _) (.str _)⟩
      · rw [if_neg hz] at hg
        cases hg
    | _ => cases hg
  | tup a =>
    cases e with
    | tup b =>
      dsimp only [gAdd] at hg
      by_cases hz : a.length + b.length ≤ 1000000
      · rw [if_pos hz] at hg
        cases hg
        obtain ⟨l, xs, rfl, hl, hxs⟩ := r1.seqT
        obtain ⟨k, ys, rfl, hk, hys⟩ := r2.seqT
        refine op_catA pins s σ H _ _ v u Q I rx ry ⟨l, k, xs, ys, rfl, rfl, hl, hk, by rw [← hxs.length, ← hys.length]; exact small_of hz, fun e0 => ?_, fun _ e0 => ?_, fun _ _ p np => ?_⟩
        · subst e0
          cases hxs
          exact q H _ (Same.refl _) r2
        · subst e0
          cases hys
          rw [List.append_nil] at q
          exact q H _ (Same.refl _) r1
        · have sm := same_new (o := .tup (xs ++ ys)) np
          exact q _ _ sm (.tup (hm.fresh np) (.inl upd_same) ((hxs.append hys).mono (Lt.same sm).toLk))
      · rw [if_neg hz] at hg
        cases hg
    | _ => cases hg
  | lst a =>
    cases eb : listOf mem e with
    | none => cases e <;> simp [gAdd, listOf] at hg eb <;> simp [eb] at hg
    | some b => exact lists a b rfl eb (fun i j h => nomatch h) (by cases e <;> simp [gAdd, listOf] at eb ⊢ <;> simp [eb])
  | ref n =>
    cases ea : listOf mem (.ref n) with
    | none => cases e <;> simp [gAdd, ea] at hg
    | some a =>
      cases eb : listOf mem e with
      | none => cases e <;> simp [gAdd, ea, eb] at hg
      | some b => exact lists a b ea eb (fun i j h => nomatch h) (by cases e <;> simp [gAdd, ea, eb])
  | _ => cases e <;> simp [gAdd, listOf] at hg
def gI (c : Int → Int → Bool) (f : Int → Int → Int) : OpP := fun _ ds => match ds with
  | [.int a, .int b] => if c a b = true then some (.int (f a b)) else none
  | _ => none
theorem op_gI {op : Operator} {C : Int → Int → Prop} {c : Int → Int → Bool} {f : Int → Int → Int} (ho : OpR X (binaryOp op) (rI C fun i j => .int (f i j))) (hc : ∀ i j, c i j = true → C i j) : OpR X (binaryOp op) (rB2 X.K (pu (gI c f))) := opP fun pins s σ H x y v u Q α mem d e z I rx ry hm r1 r2 hg q => by
  cases d with
  | int i =>
    cases e with
    | int j =>
      dsimp only [gI] at hg
      by_cases h : c i j = true
      · rw [if_pos h] at hg
        cases hg
        cases r1
        cases r2
        exact ho pins s σ H _ _ v u Q I rx ry ⟨i, j, rfl, rfl, hc i j h, q H _ (Same.refl _) (.int _)⟩
      · rw [if_neg h] at hg
        cases hg
    | _ => cases hg
  | _ => cases e <;> cases hg
theorem op_subC : OpR X (binaryOp .Sub) (rI (fun _ _ => True) fun i j => .int (i - j)) := opI fun _ _ _ _ _ _ _ _ q => PyProof.Rows.sub_int q
def gMinus : OpP := gI (fun _ _ => true) fun i j => i - j
theorem op_gMinus : OpR X (binaryOp .Sub) (rB2 X.K (pu gMinus)) := op_gI op_subC fun _ _ _ => trivial
/-- % by a positive number -/
def gMod : OpP := gI (fun _ j => decide (0 < j)) fun i j => i % j
theorem op_gMod : OpR X (binaryOp .Mod) (rB2 X.K (pu gMod)) := op_gI op_mod fun _ _ h => of_decide_eq_true h
def gDiv : OpP := gI (fun _ j => decide (0 < j ∧ j.natAbs.log2 < 9000)) fun i j => i / j
theorem op_gDiv : OpR X (binaryOp .FloorDiv) (rB2 X.K (pu gDiv)) := op_gI op_fdivW fun i j h => show CDivW i j from of_decide_eq_true (p := 0 < j ∧ j.natAbs.log2 < 9000) h
theorem op_powC : OpR X (binaryOp .Pow) (rI (fun i j => 0 ≤ j ∧ (Builtin.Int.intBits i : Int) * j ≤ 2 ^ 27) fun i j => .int (i ^ j.toNat)) := opI fun _ _ _ _ _ _ _ hc q => PyProof.Rows.pow_int hc.1 hc.2 q
def gPow : OpP := gI (fun i j => decide (0 ≤ j ∧ (Builtin.Int.intBits i : Int) * j ≤ 2 ^ 27)) fun i j => i ^ j.toNat
theorem op_gPow : OpR X (binaryOp .Pow) (rB2 X.K (pu gPow)) := op_gI op_powC fun _ _ h => of_decide_eq_true h
/-- a product of ints; a list, a text times an int -/
def gMul : OpP := fun mem ds => match ds with
  | [.int a, .int b] => if a.natAbs.log2 + b.natAbs.log2 < 1000000 then some (.int (a * b)) else none
  | [x, .int k] => match listOf mem x with
    | some a => if 0 ≤ k ∧ k ≤ 1000 ∧ a.length ≤ 1000 then some (.lst (List.replicate k.toNat a).flatten) else none
    | none => none
  | _ => none
theorem RepL.rep {K : PySem.W.Frag} {α : Ad} {H : Hp} {ds : List D} {xs : List V} (h : RepL K α H ds xs) : ∀ n : Nat, RepL K α H (List.replicate n ds).flatten (List.replicate n xs).flatten
  | 0 => .nil
  | n + 1 => by
    rw [List.replicate_succ, List.replicate_succ, List.flatten_cons, List.flatten_cons]
    exact h.append (h.rep n)
theorem op_gMul : OpR X (binaryOp .Mult) (rB2 X.K (pu gMul)) := opP fun pins s σ H x y v u Q α mem d e z I rx ry hm r1 r2 hg q => by
  have lists : ∀ (a : List D) (k : Int), listOf mem d = some a → e = .int k → gMul mem [d, .int k] = (if 0 ≤ k ∧ k ≤ 1000 ∧ a.length ≤ 1000 then some (.lst (List.replicate k.toNat a).flatten) else none) → wpAny (model X.prog X.w) X.A (binaryOp .Mult v u) (EP X pins σ Q) X.xe s := fun a k ha ek he => by
    subst ek
    rw [hg] at he
    by_cases hz : 0 ≤ k ∧ k ≤ 1000 ∧ a.length ≤ 1000
    · rw [if_pos hz] at he
      cases he
      obtain ⟨l, xs, rfl, hl, hxs⟩ := listOf_at hm r1 ha
      cases r2
      refine op_rep pins s σ H _ _ v u Q I rx ry ⟨l, k, xs, rfl, rfl, hl, by omega, by omega, ?_, fun p np => ?_⟩
      · rw [← hxs.length]
        exact small_of (Nat.le_trans (Nat.mul_le_mul hz.2.2 (show k.toNat ≤ 1000 by omega)) (by decide))
      · have sm := same_new (o := .lst (List.replicate k.toNat xs).flatten) np
        exact q _ _ sm (.lst (hm.fresh np) upd_same ((hxs.rep k.toNat).mono (Lt.same sm).toLk))
    · rw [if_neg hz] at he
      cases he
  cases e with
  | int j =>
    cases d with
    | int i =>
      dsimp only [gMul] at hg
      by_cases h : i.natAbs.log2 + j.natAbs.log2 < 1000000
      · rw [if_pos h] at hg
        cases hg
        cases r1
        cases r2
        exact op_mulW pins s σ H _ _ v u Q I rx ry ⟨i, j, rfl, rfl, h, q H _ (Same.refl _) (.int _)⟩
      · rw [if_neg h] at hg
        cases hg
    | lst a => exact lists a j rfl rfl rfl
    | ref n =>
      cases ea : listOf mem (.ref n) with
      | none => simp [gMul, ea] at hg
      | some a => exact lists a j ea rfl (by simp [gMul, ea])
    | _ => simp [gMul, listOf] at hg
  | _ => cases d <;> simp [gMul] at hg
def gNeg : OpP := fun _ ds => match ds with
  | [.int a] => some (.int (-a))
  | _ => none
theorem un_gNeg : UnR X (unaryOp .USub) (rB1 X.K (pu gNeg)) := unP fun pins s σ H x v Q α mem d z I rx hm r1 hg q => by
  cases d with
  | int i =>
    cases hg
    cases r1
    exact un_neg pins s σ H _ v Q I rx ⟨i, rfl, q H _ (Same.refl _) (.int _)⟩
  | _ => cases hg

/-! ### comparisons of ints and of texts -/
def gCmp (f : Int → Int → Bool) (k : List Nat → List Nat → Bool) : OpP := fun _ ds => match ds with
  | [.int a, .int b] => some (.bl (f a b))
  | [.str a, .str b] => some (.bl (k a.cps.toList b.cps.toList))
  | _ => none
theorem op_gCmp {op : CmpOp} {f : Int → Int → Bool} {k : List Nat → List Nat → Bool} (ho : OpR X (compareOp op) (rI0 fun i j => .bl (f i j))) (hs : OpR X (compareOp op) (fun x y H Q => ∃ i j : Str, x = .str i ∧ y = .str j ∧ Q (.bl (k i.cps.toList j.cps.toList)) H)) : OpR X (compareOp op) (rB2 X.K (pu (gCmp f k))) := opP fun pins s σ H x y v u Q α mem d e z I rx ry hm r1 r2 hg q => by
  cases d with
  | int i =>
    cases e with
    | int j =>
      cases hg
      cases r1
      cases r2
      exact ho pins s σ H _ _ v u Q I rx ry ⟨i, j, rfl, rfl, q H _ (Same.refl _) (.bl _)⟩
    | _ => cases hg
  | str i =>
    cases e with
    | str j =>
      cases hg
      cases r1
      cases r2
      exact hs pins s σ H _ _ v u Q I rx ry ⟨i, j, rfl, rfl, q H _ (Same.refl _) (.bl _)⟩
    | _ => cases hg
  | _ => cases e <;> cases hg
def gLt : OpP := gCmp (fun i j => decide (i < j)) fun a b => decide (a < b)
def gLe : OpP := gCmp (fun i j => decide (i ≤ j)) fun a b => !decide (b < a)
def gGt : OpP := gCmp (fun i j => decide (j < i)) fun a b => decide (b < a)
def gGe : OpP := gCmp (fun i j => decide (j ≤ i)) fun a b => !decide (a < b)
theorem op_gLt : OpR X (compareOp .Lt) (rB2 X.K (pu gLt)) := op_gCmp op_lt op_lt_str
theorem op_gLe : OpR X (compareOp .LtE) (rB2 X.K (pu gLe)) := op_gCmp op_le op_le_str
theorem op_gGt : OpR X (compareOp .Gt) (rB2 X.K (pu gGt)) := op_gCmp op_gt op_gt_str
theorem op_gGe : OpR X (compareOp .GtE) (rB2 X.K (pu gGe)) := op_gCmp op_ge op_ge_str
end

/-! ### data as the library has it -/
mutual
def D.py : D → Option PyData
  | .non => some .none
  | .bl b => some (.bool b)
  | .int i => some (.int i)
  | .str x => some (.str x)
  | .tup ds => match D.pyL ds with
    | some ps => some (.tuple ps)
    | none => none
  | .lst ds => match D.pyL ds with
    | some ps => some (.list ps)
    | none => none
  | .dic _ => none
  | .ref _ => none
  | .con _ => none
  | .scr _ => none
  | .exo _ _ _ => none
def D.pyL : List D → Option (List PyData)
  | [] => some []
  | d :: ds => match D.py d, D.pyL ds with
    | some p, some ps => some (p :: ps)
    | _, _ => none
end
section
variable {K : PySem.W.Frag} {α : Ad} {H : Hp}
mutual
theorem Rep.dp : ∀ {d : D} {v : V} {p : PyData}, Rep K α H d v → D.py d = some p → Dp K H v p
  | _, _, _, .non, h => by rw [D.py] at h; cases h; exact .non
  | _, _, _, .bl b, h => by rw [D.py] at h; cases h; exact .bl b
  | _, _, _, .int i, h => by rw [D.py] at h; cases h; exact .int i
  | _, _, _, .str x, h => by rw [D.py] at h; cases h; exact .str x
  | _, _, _, .tup (ds := ds) _ r rs, h => by
    rw [D.py] at h
    cases e : D.pyL ds with
    | none => rw [e] at h; cases h
    | some ps => rw [e] at h; cases h; exact .tup (.inl r) (RepL.dp rs e)
  | _, _, _, .tupK (ds := ds) w rs, h => by
    rw [D.py] at h
    cases e : D.pyL ds with
    | none => rw [e] at h; cases h
    | some ps => rw [e] at h; cases h; exact .tup (.inr w) (RepL.dp rs e)
  | _, _, _, .lst (ds := ds) _ r rs, h => by
    rw [D.py] at h
    cases e : D.pyL ds with
    | none => rw [e] at h; cases h
    | some ps => rw [e] at h; cases h; exact .lst (SqL.of r) (RepL.dp rs e)
  | _, _, _, .scr _ _ _, h => by rw [D.py] at h; cases h
  | _, _, _, .scrK _ _, h => by rw [D.py] at h; cases h
  | _, _, _, .dic _ _ _, h => by rw [D.py] at h; cases h
  | _, _, _, .ref _, h => by rw [D.py] at h; cases h
  | _, _, _, .con _, h => by rw [D.py] at h; cases h
  | _, _, _, .exm _ _ _ _ _, h => by rw [D.py] at h; cases h
  | _, _, _, .exf _ _ _ _ _, h => by rw [D.py] at h; cases h
theorem RepL.dp : ∀ {ds : List D} {vs : List V} {ps : List PyData}, RepL K α H ds vs → D.pyL ds = some ps → DpAll K H vs ps
  | _, _, _, .nil, h => by rw [D.pyL] at h; cases h; exact .nil
  | _, _, _, .cons (d := d) (ds := ds) r rs, h => by
    rw [D.pyL] at h
    cases e1 : D.py d with
    | none => rw [e1] at h; cases h
    | some p =>
      cases e2 : D.pyL ds with
      | none => rw [e1, e2] at h; cases h
      | some ps => rw [e1, e2] at h; cases h; exact .cons (Rep.dp r e1) (RepL.dp rs e2)
end
/-- a cell's list as data -/
def rdC (mem : Mem) : D → D
  | .ref n => match mem[n]? with
    | some (.lst ds) => .lst ds
    | _ => .ref n
  | d => d
theorem rdC_dp {mem : Mem} {d : D} {v : V} {p : PyData} (hm : MemRep K α H mem) (hr : Rep K α H d v) (h : D.py (rdC mem d) = some p) : Dp K H v p := by
  cases d with
  | ref n =>
    obtain ⟨a, rfl, ha⟩ := hr.ref_
    obtain ⟨c, hc, hc'⟩ := hm.at_ ha
    unfold rdC at h
    simp only [hc] at h
    cases c with
    | lst ds =>
      obtain ⟨xs, hx, hl⟩ := hc'
      dsimp only at h
      rw [D.py] at h
      cases e : D.pyL ds with
      | none => rw [e] at h; cases h
      | some ps => rw [e] at h; cases h; exact .lst (SqL.of hx) (hl.dp e)
    | dic _ => dsimp only at h; rw [D.py] at h; cases h
  | _ => exact hr.dp h
end
section
variable {X : Cx}
/-- == of data -/
def gEqD (neg : Bool) : OpP := fun mem ds => match ds with
  | [x, y] => match D.py (rdC mem x), D.py (rdC mem y) with
    | some p, some q => if (SeqAt.shaped p && SeqAt.shaped q) = true then some (.bl (neg != PyData.eqv p q)) else none
    | _, _ => none
  | _ => none
theorem op_gEqD (hu : X.A.units + 64 < cLine) : OpR X (compareOp .Eq) (rB2 X.K (pu (gEqD false))) := opP fun pins s σ H x y v u Q α mem d e z I rx ry hm r1 r2 hg q => by
  dsimp only [gEqD] at hg
  cases e1 : D.py (rdC mem d) with
  | none => rw [e1] at hg; cases hg
  | some p =>
    cases e2 : D.py (rdC mem e) with
    | none => rw [e1, e2] at hg; cases hg
    | some p' =>
      rw [e1, e2] at hg
      dsimp only at hg
      by_cases h : (SeqAt.shaped p && SeqAt.shaped p') = true
      · rw [if_pos h] at hg
        cases hg
        rw [Bool.and_eq_true] at h
        exact op_eqD hu pins s σ H x y v u Q I rx ry ⟨p, p', rdC_dp hm r1 e1, rdC_dp hm r2 e2, h.1, h.2, q H _ (Same.refl _) (by rw [Bool.false_bne]; exact .bl _)⟩
      · rw [if_neg h] at hg
        cases hg
theorem op_gNeD (hu : X.A.units + 64 < cLine) : OpR X (compareOp .NotEq) (rB2 X.K (pu (gEqD true))) := opP fun pins s σ H x y v u Q α mem d e z I rx ry hm r1 r2 hg q => by
  dsimp only [gEqD] at hg
  cases e1 : D.py (rdC mem d) with
  | none => rw [e1] at hg; cases hg
  | some p =>
    cases e2 : D.py (rdC mem e) with
    | none => rw [e1, e2] at hg; cases hg
    | some p' =>
      rw [e1, e2] at hg
      dsimp only at hg
      by_cases h : (SeqAt.shaped p && SeqAt.shaped p') = true
      · rw [if_pos h] at hg
        cases hg
        rw [Bool.and_eq_true] at h
        exact op_neD hu pins s σ H x y v u Q I rx ry ⟨p, p', rdC_dp hm r1 e1, rdC_dp hm r2 e2, h.1, h.2, q H _ (Same.refl _) (by rw [Bool.true_bne]; exact .bl _)⟩
      · rw [if_neg h] at hg
        cases hg
/-- ==: of texts whatever they are; else of data -/
def gEq (neg : Bool) : OpP := fun mem ds => match ds with
  | [.str a, .str b] => some (.bl (neg != decide (a = b)))
  | ds => gEqD neg mem ds
theorem dec_str {a b : Str} : decide (V.str a = V.str b) = decide (a = b) := by
  by_cases h : a = b
  · rw [h, decide_eq_true rfl, decide_eq_true rfl]
  · rw [decide_eq_false h, decide_eq_false fun e => h (V.str.inj e)]
theorem or_str {f : Value → Value → Sem Value} {neg : Bool} (hD : OpR X f (rB2 X.K (pu (gEqD neg))))
    (hS : ∀ (pins : List (Addr × Obj)) (s : Shared) (σ : St) (H : Hp) (a b : Str) (v u : Value) (Q : VK), L2.Inv X pins σ H s → RelV (.str a) v → RelV (.str b) u → Q (.bl (neg != decide (a = b))) H → wpAny (model X.prog X.w) X.A (f v u) (EP X pins σ Q) X.xe s) : OpR X f (rB2 X.K (pu (gEq neg))) := by
  intro pins s σ H x y v u Q I rx ry ⟨α, mem, ds, z, mem', hm, hr, hg, q⟩
  by_cases c : ∃ a b, ds = [.str a, .str b]
  · obtain ⟨a, b, rfl⟩ := c
    cases hr with
    | cons r1 hr =>
      cases hr with
      | cons r2 hr =>
        cases hr
        cases r1
        cases r2
        cases hg
        exact hS pins s σ H a b v u Q I rx ry (q α H _ (Lt.refl _ _) hm (.bl _))
  · have e : gEq neg mem ds = gEqD neg mem ds := by
      unfold gEq
      split
      · rename_i a b
        exact absurd ⟨a, b, rfl⟩ c
      · rfl
    unfold pu at hg
    rw [e] at hg
    exact hD pins s σ H x y v u Q I rx ry ⟨α, mem, ds, z, mem', hm, hr, hg, q⟩
theorem op_gEq (hu : X.A.units + 64 < cLine) : OpR X (compareOp .Eq) (rB2 X.K (pu (gEq false))) := or_str (op_gEqD hu) fun pins s σ H a b v u Q I rx ry q =>
  op_eq pins s σ H _ _ v u Q I rx ry ⟨rfl, by rw [dec_str]; rw [Bool.false_bne] at q; exact q⟩
theorem op_gNe (hu : X.A.units + 64 < cLine) : OpR X (compareOp .NotEq) (rB2 X.K (pu (gEq true))) := or_str (op_gNeD hu) fun pins s σ H a b v u Q I rx ry q =>
  op_ne pins s σ H _ _ v u Q I rx ry ⟨rfl, by rw [dec_str]; rw [Bool.true_bne] at q; exact q⟩
/-- is None, is not None -/
def gIsN (neg : Bool) : OpP := fun _ ds => match ds with
  | [x, .non] => match x with
    | .con _ => none
    | _ => some (.bl (neg != decide (x = .non)))
  | _ => none
theorem Rep.non_iff {K : PySem.W.Frag} {α : Ad} {H : Hp} {d : D} {v : V} (h : Rep K α H d v) (hc : ∀ c, d ≠ .con c) : decide (v = .non) = decide (d = .non) := by
  cases h with
  | con => exact absurd rfl (hc _)
  | non => simp
  | _ => simp
theorem op_gIs : OpR X (compareOp .Is) (rB2 X.K (pu (gIsN false))) := opP fun pins s σ H x y v u Q α mem d e z I rx ry hm r1 r2 hg q => by
  cases e with
  | non =>
    cases r2
    have hd : ∀ c, d ≠ .con c := fun c h => by subst h; cases hg
    refine op_isN pins s σ H _ _ v u Q I rx ry ⟨rfl, ?_⟩
    rw [r1.non_iff hd]
    have hz : z = .bl (decide (d = .non)) := by
      cases d <;> first | (exact absurd rfl (hd _)) | (dsimp only [gIsN] at hg; rw [Bool.false_bne] at hg; cases hg; rfl)
    subst hz
    exact q H _ (Same.refl _) (.bl _)
  | _ => cases hg
theorem op_gIsNot : OpR X (compareOp .IsNot) (rB2 X.K (pu (gIsN true))) := opP fun pins s σ H x y v u Q α mem d e z I rx ry hm r1 r2 hg q => by
  cases e with
  | non =>
    cases r2
    have hd : ∀ c, d ≠ .con c := fun c h => by subst h; cases hg
    refine op_notN pins s σ H _ _ v u Q I rx ry ⟨rfl, ?_⟩
    rw [r1.non_iff hd]
    have hz : z = .bl (!decide (d = .non)) := by
      cases d <;> first | (exact absurd rfl (hd _)) | (dsimp only [gIsN] at hg; rw [Bool.true_bne] at hg; cases hg; rfl)
    subst hz
    exact q H _ (Same.refl _) (.bl _)
  | _ => cases hg

/-! ### items -/
def gIx : OpP := fun mem ds => match ds with
  | [.str z, .int i] => if z.length ≤ 1000000 then (atI z.cps.toList i).map fun c => .str ⟨#[c]⟩ else none
  | [x, .int i] => match seqOf mem x with
    | some ds => atI ds i
    | none => none
  | _ => none
theorem RepL.atI {K : PySem.W.Frag} {α : Ad} {H : Hp} {ds : List D} {xs : List V} {i : Int} {d : D} (h : RepL K α H ds xs) (e : L2.atI ds i = some d) : ∃ v, L2.atI xs i = some v ∧ Rep K α H d v := by
  unfold L2.atI at e ⊢
  rw [← h.length]
  cases ej : ixN ds.length i with
  | none => rw [ej] at e; cases e
  | some j =>
    rw [ej] at e
    obtain ⟨v, h1, h2⟩ := h.get e
    exact ⟨v, h1, h2⟩
theorem ix_g : IxR X (rB2 X.K (pu gIx)) := by
  intro value slice pins s σ H x y v u Q I rx ry h hs
  obtain ⟨α, mem, ds, z, mem', hm, hr, hg, q⟩ := h
  cases hr with
  | @cons d _ _ _ r1 hr =>
    cases hr with
    | @cons e _ _ _ r2 hr =>
      cases hr
      unfold pu at hg
      cases eg : gIx mem [d, e] with
      | none => rw [eg] at hg; cases hg
      | some z' =>
        rw [eg] at hg
        cases hg
        have fin : ∀ w, Rep X.K α H z w → Q w H := fun w hw => q α H w (Lt.refl _ _) hm hw
        cases e with
        | int i =>
          cases r2
          have seq : ∀ (ds : List D), seqOf mem d = some ds → L2.atI ds i = some z → wpAny (model X.prog X.w) X.A (PyProof.Rows.subscriptTail value slice v u) (EP X pins σ Q) X.xe s := fun ds hds hat => by
            obtain ⟨a, xs, rfl, hxs, hq⟩ := seqOf_sq hm r1 hds
            obtain ⟨w, hw, hrw⟩ := hxs.atI hat
            rcases hq with hq | hq
            · exact ix_tup value slice pins s σ H _ _ v u Q I rx ry ⟨a, xs, i, w, rfl, rfl, hq, hw, fin w hrw⟩ hs
            · exact ix_list value slice pins s σ H _ _ v u Q I rx ry ⟨a, xs, i, w, rfl, rfl, hq, hw, fin w hrw⟩ hs
          cases d with
          | str y =>
            cases r1
            dsimp only [gIx] at eg
            by_cases hz : y.length ≤ 1000000
            · rw [if_pos hz] at eg
              cases ec : L2.atI y.cps.toList i with
              | none => rw [ec] at eg; cases eg
              | some c =>
                rw [ec] at eg
                cases eg
                exact ix_str value slice pins s σ H _ _ v u Q I rx ry ⟨y, i, c, rfl, rfl, small_of hz, ec, fin _ (.str _)⟩ hs
            · rw [if_neg hz] at eg
              cases eg
          | _ =>
            dsimp only [gIx] at eg
            split at eg
            · exact seq _ (by assumption) eg
            · cases eg
        | _ => cases d <;> cases eg
end
end Mx

/-! M7: built-in functions, stores, methods. -/
namespace Mx
open PySem L2
section
variable {X : Cx} {W : WX} {pos : Pos}
def gLen : OpP := fun mem ds => match ds with
  | [.str z] => if z.length ≤ 1000000 then some (.int z.length) else none
  | [x] => match seqOf mem x with
    | some ds => some (.int ds.length)
    | none => none
  | _ => none
theorem call_gLen : CallR X (.builtin "len") (rB X.K (pu gLen)) := callP fun pins s σ H xs us Q α mem ds z I rv hm hr hg q => by
  cases hr with
  | nil => cases hg
  | @cons d x _ _ r1 hr =>
    cases hr with
    | cons _ _ => cases d <;> cases hg
    | nil =>
      have seq : ∀ (ds : List D), seqOf mem d = some ds → z = .int ds.length → wpAny (model X.prog X.w) X.A (call (.builtin "len") us) (EP X pins σ Q) X.xe s := fun ds hds hz => by
        subst hz
        obtain ⟨a, xs, rfl, hxs, hq⟩ := seqOf_sq hm r1 hds
        refine call_len pins s σ H _ us Q I rv ⟨_, xs.length, rfl, ?_, q H _ (Same.refl _) (by rw [hxs.length]; exact .int _)⟩
        rcases hq with hq | hq
        · exact .inr ⟨xs, hq, rfl⟩
        · exact .inl ⟨xs, hq, rfl⟩
      cases d with
      | str y =>
        cases r1
        dsimp only [gLen] at hg
        by_cases hz : y.length ≤ 1000000
        · rw [if_pos hz] at hg
          cases hg
          exact call_len pins s σ H _ us Q I rv ⟨_, y.length, rfl, ⟨small_of hz, rfl⟩, q H _ (Same.refl _) (.int _)⟩
        · rw [if_neg hz] at hg
          cases hg
      | _ =>
        dsimp only [gLen] at hg
        split at hg
        · exact seq _ (by assumption) (Option.some.inj hg).symm
        · cases hg
def gAbs : OpP := fun _ ds => match ds with
  | [.int i] => some (.int (if i < 0 then -i else i))
  | _ => none
theorem call_gAbs : CallR X (.builtin "abs") (rB X.K (pu gAbs)) := callP fun pins s σ H xs us Q α mem ds z I rv hm hr hg q => by
  cases hr with
  | nil => cases hg
  | @cons d x _ _ r1 hr =>
    cases hr with
    | cons _ _ => cases d <;> cases hg
    | nil =>
      cases d with
      | int i =>
        cases hg
        cases r1
        exact call_abs pins s σ H _ us Q I rv ⟨i, rfl, q H _ (Same.refl _) (.int _)⟩
      | _ => cases hg
def gInt1 : OpP := fun _ ds => match ds with
  | [.int i] => some (.int i)
  | [.bl b] => some (.int (if b then 1 else 0))
  | _ => none
theorem call_gInt1 : CallR X (.type "int") (rB X.K (pu gInt1)) := callP fun pins s σ H xs us Q α mem ds z I rv hm hr hg q => by
  cases hr with
  | nil => cases hg
  | @cons d x _ _ r1 hr =>
    cases hr with
    | cons _ _ => cases d <;> cases hg
    | nil =>
      cases d with
      | int i =>
        cases hg
        cases r1
        exact call_int1 pins s σ H _ us Q I rv (.inl ⟨i, rfl, q H _ (Same.refl _) (.int _)⟩)
      | bl b =>
        cases hg
        cases r1
        exact call_int1 pins s σ H _ us Q I rv (.inr ⟨b, rfl, q H _ (Same.refl _) (.int _)⟩)
      | _ => cases hg
def gMax2 : OpP := fun _ ds => match ds with
  | [.int i, .int j] => some (.int (if j > i then j else i))
  | _ => none
def gMin2 : OpP := fun _ ds => match ds with
  | [.int i, .int j] => some (.int (if j < i then j else i))
  | _ => none
theorem call_gMax2 (hc : X.calm = true) : CallR X (.builtin "max") (rB X.K (pu gMax2)) := callP fun pins s σ H xs us Q α mem ds z I rv hm hr hg q => by
  cases hr with
  | nil => cases hg
  | @cons d x _ _ r1 hr =>
    cases hr with
    | nil => cases d <;> cases hg
    | @cons e y _ _ r2 hr =>
      cases hr with
      | cons _ _ => cases d <;> cases e <;> cases hg
      | nil =>
        cases d with
        | int i =>
          cases e with
          | int j =>
            cases hg
            cases r1
            cases r2
            exact call_max2 hc pins s σ H _ us Q I rv ⟨i, j, rfl, q H _ (Same.refl _) (.int _)⟩
          | _ => cases hg
        | _ => cases e <;> cases hg
theorem call_gMin2 (hc : X.calm = true) : CallR X (.builtin "min") (rB X.K (pu gMin2)) := callP fun pins s σ H xs us Q α mem ds z I rv hm hr hg q => by
  cases hr with
  | nil => cases hg
  | @cons d x _ _ r1 hr =>
    cases hr with
    | nil => cases d <;> cases hg
    | @cons e y _ _ r2 hr =>
      cases hr with
      | cons _ _ => cases d <;> cases e <;> cases hg
      | nil =>
        cases d with
        | int i =>
          cases e with
          | int j =>
            cases hg
            cases r1
            cases r2
            exact call_min2 hc pins s σ H _ us Q I rv ⟨i, j, rfl, q H _ (Same.refl _) (.int _)⟩
          | _ => cases hg
        | _ => cases e <;> cases hg
/-! built-ins by their names -/
theorem me_bB {id : String} {x : Str} {p : Pos} {g : OpP} {e : Expr} {es : List Expr} {ml : EL} (hc : CallR X (.builtin id) (rB X.K (pu g))) (hg : Gl X x) (hm : X.mg x = none) (hv : bootBuiltins x = some (.builtin id)) (ha : ML X W (e :: es) ml) (hn : x ≠ "__name__" := by decide) (hdb : (x == ("__debug__" : Str)) = false := by decide)
    (he : starEach (e :: es) X.env = (false, eval e X.env) :: starEach es X.env := by rfl) (hpl : (backTo pos (starEach es X.env)).any (·.1) = false := by rfl) : ME X W (.Call (.Name x p) (e :: es) [] pos) (eN (pu g) ml) := ⟨PE.imp (pe_callB hc hg hm hv ha.pa hn hdb he hpl) fun _ _ _ h => tEN h⟩
theorem me_bT {id : String} {x : Str} {p : Pos} {g : OpP} {e : Expr} {es : List Expr} {ml : EL} (hc : CallR X (.type id) (rB X.K (pu g))) (hg : Gl X x) (hm : X.mg x = none) (hv : bootBuiltins x = some (.type id)) (ha : ML X W (e :: es) ml) (hn : x ≠ "__name__" := by decide) (hdb : (x == ("__debug__" : Str)) = false := by decide)
    (he : starEach (e :: es) X.env = (false, eval e X.env) :: starEach es X.env := by rfl) (hpl : (backTo pos (starEach es X.env)).any (·.1) = false := by rfl) : ME X W (.Call (.Name x p) (e :: es) [] pos) (eN (pu g) ml) := ⟨PE.imp (pe_callTy hc hg hm hv ha.pa hn hdb he hpl) fun _ _ _ h => tEN h⟩

/-! o[i] = e: a list in a cell -/
def putIx (mem : Mem) (o i v : D) : Option Mem := match o, i with
  | .ref n, .int k => match mem[n]? with
    | some (.lst ds) => match ixN ds.length k with
      | some j => some (mem.set n (.lst (ds.set j v)))
      | none => none
    | _ => none
  | _, _ => none
def sPut (o i e : E1) : S1 := fun loc mem => (e loc mem).thenS loc fun v m1 => (o loc m1).thenS loc fun ov m2 => (i loc m2).thenS loc fun iv m3 => match putIx m3 ov iv v with
  | some m4 => .nx loc m4
  | none => .bad
theorem ms_put {o i e : Expr} {mo mi me : E1} {tpos : Pos} (ho : ME X W o mo) (hi : ME X W i mi) (he : ME X W e me) (hs : swapsWithSole [.Subscript o i tpos] e pos.line X.env = pure false := by rfl) (hw : swappedStores [.Subscript o i tpos] e X.env = pure none := by rfl)
    (h1 : (assignEach [.Subscript o i tpos] X.env).map (·.2) = [assign (.Subscript o i tpos) X.env] := by rfl) (hsub : ∀ v, assign (.Subscript o i tpos) X.env v = (do
      let ov ← holding [v] (eval o X.env)
      let iv ← holding [v, ov] (eval i X.env)
      standAt tpos
      holding [v, ov, iv] (setItem ov iv v)
      release [v, ov, iv] []) := by intro _; rfl) :
    MS X W (.Assign [.Subscript o i tpos] e pos) (sPut mo mi me) := ⟨PS.imp (ps_asg he.pe (pg_sub ho.pe hi.pe set_list hsub) hs hw h1) fun Z σ H ⟨α, loc, mem, hm, hl, hp⟩ =>
  tG_goS hm hl hp fun α1 H1 m1 v vv l1 hm1 hl1 hr1 hp1 => tG_goS hm1 hl1 hp1 fun α2 H2 m2 ov ovv l2 hm2 hl2 hr2 hp2 => tG_goS hm2 hl2 hp2 fun α3 H3 m3 iv ivv l3 hm3 hl3 hr3 hp3 => by
    have r1 := (hr1.mono l2.toLk).mono l3.toLk
    have r2 := hr2.mono l3.toLk
    cases ov with
    | ref n =>
      cases iv with
      | int k =>
        cases hr3
        obtain ⟨a, rfl, ha⟩ := r2.ref_
        obtain ⟨c, hc, hc'⟩ := hm3.at_ ha
        dsimp only [putIx] at hp3
        rw [hc] at hp3
        cases c with
        | lst ds =>
          obtain ⟨xs, hx, hxs⟩ := hc'
          dsimp only at hp3
          cases ej : ixN ds.length k with
          | none => rw [ej] at hp3; exact hp3.elim
          | some j =>
            rw [ej] at hp3
            have lw : Lt α3 H3 α3 (upd H3 a (.lst (xs.set j vv))) := Lt.write (List.mem_of_getElem? ha)
            refine ⟨a, xs, k, j, rfl, rfl, hx, by rw [← hxs.length]; exact ej, ?_⟩
            exact hp3 α3 _ σ lw (hm3.write ha ⟨_, upd_same, ((hxs.set r1 j).mono lw.toLk)⟩) (hl3.mono lw.toLk)
        | dic _ => exact hp3.elim
      | _ => exact hp3.elim
    | _ => cases iv <;> exact hp3.elim⟩
end
end Mx

/-! M8: the forms that a printed derivation uses. -/
namespace Mx
open PySem L2
section
variable {X : Cx} {W : WX} {pos : Pos} {e : Expr} {ma : E1}
theorem ms_setD {i : Nat} {x : Str} {p : Pos} (hN : X.N.Nodup) (hi : X.N[i]? = some x) (hx : Loc X.env.scope x) (he : ME X W e ma) (hs : swapsWith e (some (.Name x p)) pos.line X.env = pure false := by rfl)
    (hf : X.fn x = true ∨ X.env.scope.names.lookup x = some .local := by first | exact .inl rfl | exact .inr rfl | assumption) : MS X W (.Assign [.Name x p] e pos) (sSet i ma) := ms_set he (ps_set hN hi hx he.pe hs hf)
theorem mg_tupD {es : List Expr} {k : Nat} {gs : List Tg} (h : MGs X es gs) (hc : X.calm = true) (hn : (assignEach es X.env).length = gs.length := by rfl) (hst : (assignEach es X.env).findIdx? (·.1) = none := by rfl) : MG X (.Tuple es k pos) (.t gs) :=
  mg_tup h (pg_tup hc h.pgs hn hst) (pg_lst hc h.pgs hn hst)
theorem mi_range1D {tg a : Expr} {p : Pos} {ml : EL} (h : ML X W [a] ml) (hg : Gl X "range") (hm : X.mg "range" = none) (hs : starEach [a] X.env = [(false, eval a X.env)] := by rfl) : MI X W tg (.Call (.Name "range" p) [a] [] pos) (wRange1 ml) :=
  mi_range1 h (pi_range1 hg hm h.pa hs)
theorem mi_range2D {tg a b : Expr} {p : Pos} {ml : EL} (h : ML X W [a, b] ml) (hg : Gl X "range") (hm : X.mg "range" = none) (hs : starEach [a, b] X.env = [(false, eval a X.env), (false, eval b X.env)] := by rfl) (hs2 : starEach [b] X.env = [(false, eval b X.env)] := by rfl) :
    MI X W tg (.Call (.Name "range" p) [a, b] [] pos) (wRange2 ml) := mi_range2 h (pi_range2 hg hm h.pa hs hs2)
theorem ms_parD {i j : Nat} {x y : Str} {a b : Expr} {ml : EL} {px py pt : Pos} {kt k2 pt2} (hN : X.N.Nodup) (h : ML X W [a, b] ml) (hc : X.calm = true := by rfl) (hi : X.N[i]? = some x := by rfl) (hj : X.N[j]? = some y := by rfl) (hij : i ≠ j := by decide)
    (hx : X.env.scope.names.lookup x = some .local := by rfl) (hy : X.env.scope.names.lookup y = some .local := by rfl) (hw : swappedStores [.Tuple [.Name x px, .Name y py] kt pt] (.Tuple [a, b] k2 pt2) X.env = pure (some [x, y]) := by rfl)
    (hs : swapsWithSole [.Tuple [.Name x px, .Name y py] kt pt] (.Tuple [a, b] k2 pt2) pos.line X.env = pure false := by rfl) : MS X W (.Assign [.Tuple [.Name x px, .Name y py] kt pt] (.Tuple [a, b] k2 pt2) pos) (sPar [i, j] ml) :=
  ms_par h (ps_par hc hN hi hj hij hx hy h.pa hw hs)
abbrev wEnum := wEnumL
theorem mi_enum {elts : List Expr} {kk : Nat} {tpos : Pos} {a : Expr} {p : Pos} {ml : EL} (h : ML X W [a] ml) (hg : Gl X "enumerate") (hmg : X.mg "enumerate" = none) (hs : starEach [a] X.env = [(false, eval a X.env)] := by rfl) :
    MI X W (.Tuple elts kk tpos) (.Call (.Name "enumerate" p) [a] [] pos) (wEnum ml) := mi_enumL h hg hmg hs
/-- a built-in class by its name -/
theorem me_ty {x : Str} {n : String} (hg : Gl X x) (hm : X.mg x = none) (hv : bootBuiltins x = some (.type n)) (hn : x ≠ "__name__" := by decide) (hd : (x == ("__debug__" : Str)) = false := by decide) : ME X W (.Name x pos) (eC (.con (.ty n))) :=
  me_c (v := .ty n) (pe_bltn (v := .ty n) hg hm hv rfl hn hd) fun _ _ => .con _
end
end Mx

/-! M8b: an own exception class is called: a version that covers KeyError, whose __new__ is LookupError's. -/
namespace Mx
open PySem PySem.W PySem.Calls PyProof.Rows PySem.HandSPX
/-- what bm must say beside the facts of __new__'s owner -/
structure Tl (O : String) (bm : List Value) : Prop where
  hO : bm.contains (.type O) = true
  hA : bm.contains (.type "AttributeError") = false
  hN : bm.contains (.type "NameError") = false
section
variable {prog : Program} {w : World} {A : Around} {E : Value → Shared → Prop} {R : Result → Shared → Prop} {hp : Heap} {g : Array GenState} {d : Drawn} {t : Nat} {os : OsState}
variable {nm q : Str} {C N : Addr} {bs bm bmB : List Value} {hdct : Bool} {sn : List Str} {sub : List Value} {ab : Bool} {col : Option Bool} {dd : Option Addr} {k0 k1 k2 k3 k5 : Option Value} {O newId iO : String}
theorem tl_check (F : ExcBaseFacts O newId iO bmB) (T : Tl O bm) {vs : List Value} {Q : Unit → Shared → Prop} (cl : hp.get? C = some (excClassObj nm q C N bs bm hdct sn sub ab col dd k0 k1 k2 k3 k5 newId)) (fin : Q () ⟨hp, g, d, t, os⟩) :
    wpAny (model prog w) A (checkBuiltinCall newId ⟨.ref C :: vs, []⟩) Q E ⟨hp, g, d, t, os⟩ := by
  have yes : (Value.ref C :: bm).contains (.type O) = true := by
    rw [List.contains_cons]
    rw [T.hO, Bool.or_true]
  have nostar := F.noStar
  simp only [checkBuiltinCall, F.newKind,
    F.newSplit, F.newRow]
  repeat (first | refine wpAny_loadPart_at cl ?_ | (refine wpAny_isSubtype_exc cl ?_; rw [yes]) | refine wpAny_staticBase_exc cl ?_ | refine wpAny_madeBy_exc cl ?_ | simp only [bne_self_eq_false, Bool.false_eq_true, if_false] | wp_step)
  exact fin
theorem tl_new (F : ExcBaseFacts O newId iO bmB) (T : Tl O bm) {vs : List Value} (cl : hp.get? C = some (excClassObj nm q C N bs bm hdct sn sub ab col dd k0 k1 k2 k3 k5 newId)) (few : vs.length ≤ sizeLine)
    (fin : R (.ok (.ret (.ref (hp.objs.size + 1)))) ⟨(hp.push (kdv_tup vs)).push (excO C hp.objs.size), g, d, t, os⟩) : codeAny (model prog w) A (.builtin newId ⟨.ref C :: vs, []⟩) R ⟨hp, g, d, t, os⟩ := by
  have ends := F.ends
  have yO : (Value.ref C :: bm).contains (.type O) = true := by
    rw [List.contains_cons]
    rw [T.hO, Bool.or_true]
  have nA : (Value.ref C :: bm).contains (.type "AttributeError") = false := by
    rw [List.contains_cons, T.hA]
    rfl
  have nN : (Value.ref C :: bm).contains (.type "NameError") = false := by
    rw [List.contains_cons, T.hN]
    rfl
  refine codeAny_builtinAt F.entry ?_
  unfold Builtin.«BaseException.__new__»
  refine PySem.wpAt_bind ?_
  show PySem.wpAt _ _ _ (stack >>= _) _ _ _
  refine PySem.wpAt_bind (PySem.wpAt_stack fun _ _ => PySem.wpAt_of_wpAny ?_)
  wp_walk
  refine PySem.wpAt_of_wpAny ?_
  rw [F.owner]
  repeat (first | with_reducible refine wpAny_madeHere_exc F.canon cl ?_ | with_reducible refine wpAny_loadPart_at cl ?_ | (with_reducible refine wpAny_isSubtype_exc cl ?_; first | rw [yO] | rw [nA] | rw [nN]) | wp_step)
  show R _ _
  rw [Heap.size_push]
  exact fin
theorem tl_type_call (F : ExcBaseFacts O newId iO bmB) (T : Tl O bm) {vs : List Value} {fI : Addr} {Q : Fin → Shared → Prop} (cl : hp.get? C = some (excClassObj nm q C N bs bm hdct sn sub ab col dd k0 k1 k2 k3 k5 newId)) (ini : Looks (model prog w) hp (typeLookup (.ref C) "__init__") (some (.ref fI))) (bnd : ∀ self, Looks (model prog w) hp (bindSpecial (.ref fI) self) (.ref fI, [self])) (few : vs.length ≤ sizeLine)
    (fin : codeAny (model prog w) A (.call (.ref fI) ⟨.ref (hp.objs.size + 1) :: vs, []⟩)
      (fun r s' => match r with | .ok (.ret v) => v = .none ∧ Q (.done (.ret (.ref (hp.objs.size + 1)))) s' | .ok _ => False | .error e => E e s') ⟨(hp.push (kdv_tup vs)).push (excO C hp.objs.size), g, d, t, os⟩) :
    wpAny (model prog w) A (Builtin.«type.__call__» ⟨.ref C :: vs, []⟩) Q E ⟨hp, g, d, t, os⟩ := by
  repeat (first | with_reducible refine wpAny_loadPart_at cl ?_ | with_reducible refine wpAny_madeBy_exc cl ?_ | wp_step)
  refine codeAny_call_builtin_code (Code.quiet_builtin _ F.quiet) (tl_check F T cl (tl_new F T cl few ?_))
  show wpAny _ _ _ _ _ _
  have kp : ∀ b o, hp.get? b = some o → ((hp.push (kdv_tup vs)).push (excO C hp.objs.size)).get? b = some o := fun b o e => Heap.get?_push_of_some _ (Heap.get?_push_of_some _ e)
  have cl1 := kp _ _ cl
  have new1 : ((hp.push (kdv_tup vs)).push (excO C hp.objs.size)).get? (hp.objs.size + 1) = some (excO C hp.objs.size) := by heap_get
  have own : (Value.ref C :: bm).contains (.ref C) = true := by simp
  have ini1 := ini.keeps kp
  have bnd1 := (bnd (.ref (hp.objs.size + 1))).keeps kp
  unfold isInstance
  repeat (first | with_reducible refine wpAny_loadPart_at new1 ?_ | (with_reducible refine wpAny_isSubtype_exc cl1 ?_; rw [own]) | wp_step)
  show wpAny _ _ (typeLookup (.ref C) _) _ _ _
  refine ini1.at ?_
  refine wpAny_holding (wpAny_bind (bnd1.at ?_))
  refine wpAny_bind (wpAny_call (codeAny_mono fin fun r s' z => ?_))
  rcases r with e | (v | _ | _ | _) <;> first | exact z | exact z.elim | skip
  obtain ⟨rfl, z⟩ := z
  first
    | exact wpAny_pure (wpAny_pure z)
    | (wp_walk; exact z)
theorem tl_call (F : ExcBaseFacts O newId iO bmB) (T : Tl O bm) {vs : List Value} {fI : Addr} (cl : hp.get? C = some (excClassObj nm q C N bs bm hdct sn sub ab col dd k0 k1 k2 k3 k5 newId)) (ini : Looks (model prog w) hp (typeLookup (.ref C) "__init__") (some (.ref fI))) (bnd : ∀ self, Looks (model prog w) hp (bindSpecial (.ref fI) self) (.ref fI, [self])) (few : vs.length ≤ sizeLine)
    (fin : codeAny (model prog w) (A.under (.builtin "type.__call__" ⟨.ref C :: vs, []⟩)) (.call (.ref fI) ⟨.ref (hp.objs.size + 1) :: vs, []⟩) (InitBack (hp.objs.size + 1) R) ⟨(hp.push (kdv_tup vs)).push (excO C hp.objs.size), g, d, t, os⟩) :
    codeAny (model prog w) A (.call (.ref C) ⟨vs, []⟩) R ⟨hp, g, d, t, os⟩ := by
  have a1 := tc_lookup
  have a2 := tc_bind (.ref C)
  have a3 : (⟨hp, g, d, t, os⟩ : Shared).TypeIs (.ref C) "type" := ⟨_, cl, rfl⟩
  refine codeAny_of_tree ?_
  show wpAny _ _ (callAny (.ref C) _) _ _ _
  repeat (any_goals (first | assumption | with_reducible refine wpAny_loadPart_at cl ?_ | wp_step))
  refine ⟨rfl, ?_⟩
  refine codeAny_call_builtin_at (Code.quiet_builtin _ (by decide +kernel)) entry_typeCall (wpAny_check_type_call_sub cl (tl_type_call F T cl ini bnd few ?_))
  refine codeAny_mono fin fun r s' z => ?_
  rcases r with e | (v | _ | _ | _) <;> exact z
/-- an __init__ that is BaseException's -/
structure Ini (B initId : String) : Prop where
  kind : builtinKind initId = some .slot
  row : Manifest.signature? initId = some ⟨.positional, "*", B, .self, [⟨"args", .varPos, false⟩]⟩
  star : (B != "*") = true
  plain : plainId initId = true
  entry : entryFor table initId = some Builtin.«BaseException.__init__»
theorem Ini.of {B newId initId : String} (F : ExcCallFacts B newId initId) : Ini B initId := ⟨F.initKind, F.initRow, F.noStar, F.init.plain, F.initEntry⟩
theorem Ini.key : Ini "KeyError" "KeyError.__init__" := ⟨excClass_KeyError.initKind, excClass_KeyError.initSig, excClass_KeyError.notStar, excClass_KeyError.init.plain, excClass_KeyError.initEntry⟩
theorem Ini.check {B initId newId : String} (F : Ini B initId) {M : Model} {e : Addr} {oe : Obj} {vs : List Value} {Q : Unit → Shared → Prop}
    (cl : hp.get? C = some (excClassObj nm q C N bs bm hdct sn sub ab col dd k0 k1 k2 k3 k5 newId)) (he : hp.get? e = some oe) (hcls : oe.cls = .ref C) (fin : Q () ⟨hp, g, d, t, os⟩) : wpAny M A (checkBoundCall initId ⟨.ref e :: vs, []⟩) Q E ⟨hp, g, d, t, os⟩ := by
  have nostar := F.star
  simp only [checkBoundCall, F.kind,
    F.row]
  repeat (first | (with_reducible refine wpAny_loadPart_at he ?_; rw [hcls]) | with_reducible refine wpAny_loadPart_at cl ?_ | wp_step)
  refine wpAny_onRaise ?_
  rw [show ∀ (a b : String) (n : Nat), Bind.check ⟨.positional, "*", B, .self, [⟨"args", .varPos, false⟩]⟩ a b n (List.map (fun x => x.fst) ({ pos := Value.ref e :: vs } : Args).kw) = pure () from fun a b n => check_star_args _ _ _ _ _ _]
  exact wpAny_pure fin
end
end Mx

/-! M9: errors of own classes that say super().__init__(x); self.f = x. -/
namespace Mx
open PySem PySem.W PySem.Calls PyProof.Rows PySem.HandSPX

/-- a built-in base -/
structure Bas (B newId initId : String) (bm : List Value) : Prop where
  F : ∃ O iO bmB, ExcBaseFacts O newId iO bmB ∧ Tl O bm
  I : Ini B initId
  KF : KxsFacts B initId
  pass : ∀ self : Value, refuseLoop self "__setattr__" bm = pure ()
  ne : bm.isEmpty = false
  ob : bm.contains (.type "object") = true
  tl : excTail bm bm = true
abbrev mKey : List Value := [.type "KeyError", .type "LookupError", .type "Exception", .type "BaseException", .type "object"]
abbrev mIndex : List Value := [.type "IndexError", .type "LookupError", .type "Exception", .type "BaseException", .type "object"]
abbrev mLookup : List Value := [.type "LookupError", .type "Exception", .type "BaseException", .type "object"]
abbrev mOver : List Value := [.type "OverflowError", .type "ArithmeticError", .type "Exception", .type "BaseException", .type "object"]
abbrev mRun : List Value := [.type "RuntimeError", .type "Exception", .type "BaseException", .type "object"]
abbrev mArith : List Value := [.type "ArithmeticError", .type "Exception", .type "BaseException", .type "object"]
theorem bKey : Bas "KeyError" "LookupError.__new__" "KeyError.__init__" mKey := ⟨⟨_, _, _, PySem.F.excBase_LookupError, by decide +kernel, by decide +kernel, by decide +kernel⟩, .key, ⟨by show builtinType _ = _; rw [builtinType_eq_fast]; kernel_rfl, by kernel_rfl⟩, fun _ => by kernel_rfl, rfl, by decide +kernel, by decide +kernel⟩
theorem bIndex : Bas "IndexError" "IndexError.__new__" "IndexError.__init__" mIndex := ⟨⟨_, _, _, PySem.F.excBase_IndexError, by decide +kernel, by decide +kernel, by decide +kernel⟩, .of PySem.F.excBase_IndexError.toExcCallFacts, kxs_IndexError, fun _ => by kernel_rfl, rfl, by decide +kernel, by decide +kernel⟩
theorem bLookup : Bas "LookupError" "LookupError.__new__" "LookupError.__init__" mLookup := ⟨⟨_, _, _, PySem.F.excBase_LookupError, by decide +kernel, by decide +kernel, by decide +kernel⟩, .of PySem.F.excBase_LookupError.toExcCallFacts, kxs_LookupError, fun _ => by kernel_rfl, rfl, by decide +kernel, by decide +kernel⟩
theorem bOver : Bas "OverflowError" "OverflowError.__new__" "OverflowError.__init__" mOver := ⟨⟨_, _, _, PySem.F.excBase_OverflowError, by decide +kernel, by decide +kernel, by decide +kernel⟩, .of PySem.F.excBase_OverflowError.toExcCallFacts, kxs_OverflowError, fun _ => by kernel_rfl, rfl, by decide +kernel, by decide +kernel⟩
theorem bRun : Bas "RuntimeError" "RuntimeError.__new__" "RuntimeError.__init__" mRun := ⟨⟨_, _, _, PySem.F.excBase_RuntimeError, by decide +kernel, by decide +kernel, by decide +kernel⟩, .of PySem.F.excBase_RuntimeError.toExcCallFacts, kxs_RuntimeError, fun _ => by kernel_rfl, rfl, by decide +kernel, by decide +kernel⟩
theorem bArith : Bas "ArithmeticError" "ArithmeticError.__new__" "ArithmeticError.__init__" mArith := ⟨⟨_, _, _, PySem.F.excBase_ArithmeticError, by decide +kernel, by decide +kernel, by decide +kernel⟩, .of PySem.F.excBase_ArithmeticError.toExcCallFacts, kxs_ArithmeticError, fun _ => by kernel_rfl, rfl, by decide +kernel, by decide +kernel⟩

/-- what the written part says of the class at C, of its __init__ at fI, whose text is st; fld: the one field -/
structure Xi (prog : Program) (K : Frag) (mg : Str → Option Value) (st : Stmt) (cn qual fld : Str) (C fI : Addr) (B newId initId : String) (bm : List Value) : Prop where
  bas : Bas B newId initId bm
  gC : mg cn = some (.ref C)
  cls : ∃ nm q N bs sn sub ab col dd k0 k1 k2 k3 k5, K.lookup C = some (excClassObj nm q C N bs bm true sn sub ab col dd k0 k1 k2 k3 k5 newId)
  sa : findIn K (.ref C) "__setattr__" = some (some (.builtin "object.__setattr__"))
  ga : findIn K (.ref C) "__getattribute__" = some (some (.builtin "BaseException.__getattribute__"))
  gg : findIn K (.ref C) "__getattr__" = some none
  noF : findIn K (.ref C) fld = some none
  iC : findIn K (.ref C) "__init__" = some (some (.ref fI))
  tI : typeIn K (.ref fI) = some (.type "function")
  kC : keepIn K (.ref C) = true
  exC : subIn K (.ref C) (.type "BaseException") = some true
  tyC : typeIn K (.ref C) = some (.type "type")
  hdC : hasDictIn K C = true
  subB : subIn K (.ref C) (.type B) = some true
  self : mroIn K C (.ref C) = some true
  sup : ks_superIn K C C "__init__" = some (some (.builtin initId))
  op : nsIn K cStatics "thirdparty.any" = some none
  fn : ∃ (oc : Value) (od : Option Addr) (doc pm : Value) (an : Option Addr) (cda : Addr) (ct : Value) (osl : Array (Option Value)) (cc : Addr) (cl : Value) (cld : Option Addr) (csl : Array (Option Value)) (ccl : Value) (cdd : Option Addr) (vs : Array Value) (ccs : Array (Option Value)) (file : Str) (tf : Tok),
    K.lookup fI = some ⟨oc, od, .func (ksFn "__init__" qual (L2.defArgs st) (L2.defBody st) (L2.defScope st) .none .none doc pm an (.ref cda) ct cc), osl⟩ ∧ codeIn K (.ref cda) qual = true ∧
    K.lookup cc = some ⟨cl, cld, .cell (some (.ref C)), csl⟩ ∧ K.lookup cda = some ⟨ccl, cdd, .fields vs, ccs⟩ ∧ vs[2]? = some (.str file tf) ∧ ((prog.main.file : Str) == file) = true
  top : (prog.main.scope.names.lookup ("super" : Str)).isSome = false
/-- the text of such an __init__ -/
structure XiT (st : Stmt) (fld : Str) : Prop where
  body : ∃ p0 p1 p2 p3 p4 p5 q1 q2 q3 q4, L2.defBody st = [.Expr (.Call (.Attribute (.Call (.Name "super" p0) [] [] p1) "__init__" p2) [.Name fld p3] [] p4) p5, .Assign [.Attribute (.Name "self" q1) fld q2] (.Name fld q3) q4] ∧
    (∀ env : PySem.Env, ∃ pl : Sem Bool, PySem.eval (.Call (.Attribute (.Call (.Name "super" p0) [] [] p1) "__init__" p2) [.Name fld p3] [] p4) env = (do
      let ov ← attributeBase (.Call (.Name "super" p0) [] [] p1) "__init__" env (PySem.eval (.Call (.Name "super" p0) [] [] p1) env)
      standAt p2.atName
      let (f, first) ← holding [ov] (getMethod ov "__init__" pl)
      callWith p4 f first (backTo p4 (starEach [.Name fld p3] env)) [])) ∧
    (∀ env : PySem.Env, swapsWith (.Call (.Attribute (.Call (.Name "super" p0) [] [] p1) "__init__" p2) [.Name fld p3] [] p4) none p5.line env = pure false) ∧
    (∀ env : PySem.Env, swapsWith (.Name fld q3) (some (.Attribute (.Name "self" q1) fld q2)) q4.line env = pure false)
  args : ∀ (qual : Str) (doc pm : Value) (an : Option Addr) (cd ct : Value) (cc : Addr) (u v : Value), bindArgs (ksFn "__init__" qual (L2.defArgs st) (L2.defBody st) (L2.defScope st) .none .none doc pm an cd ct cc) ⟨[u, v], []⟩ = pure [(("self" : Str), u), (fld, v)]
  head : ∃ ar : Arg, ((L2.defArgs st).posonlyargs ++ (L2.defArgs st).args).head? = some ar ∧ ar.arg = "self"
  ne : fld ≠ "self"
  kind : (L2.defScope st).kind = .function
  co : (L2.defScope st).isCoroutine = false
  gen : (L2.defScope st).isGenerator = false
  nocell : ∀ x ∈ (L2.defScope st).names, x.2 ≠ .cell
  s1 : (L2.defScope st).names.lookup ("self" : Str) = some .local
  s2 : (L2.defScope st).names.lookup fld = some .local
  s3 : (L2.defScope st).names.lookup ("super" : Str) = some .globalImplicit
  s4 : (L2.defScope st).names.lookup ("__class__" : Str) = some .free
  dbg : (fld == ("__debug__" : Str)) = false
section
open Builtin Builtin.ObjectAttr
variable {prog : Program} {w : World} {A : Around} {E : Value → Shared → Prop} {R : Result → Shared → Prop} {hp : Heap} {g : Array GenState} {d : Drawn} {t : Nat} {os : OsState}
/-- self.name = v where there is no dict yet -/
theorem osaB {K : Frag} {name : Str} {tk : Tok} {v : Value} {x C : Addr} {fv : Array Value} {cd : ClassData} {bm : List Value} (pass : ∀ self : Value, refuseLoop self "__setattr__" bm = pure ()) (tl : excTail bm bm = true) (ob : bm.contains (.type "object") = true)
    (KX : K.In hp) (hx : hp.get? x = some { cls := .ref C, data := .fields fv }) (hcd : clsIn K C = some cd) (hm : cd.mro = .ref C :: bm) (hh : cd.hasDict = true) (ha : findIn K (.ref C) name = some none)
    (fin : ∀ h' tk' dx, (∀ b o, b ≠ x → hp.get? b = some o → h'.get? b = some o) → hp.objs.size ≤ dx → dx ≠ x → h'.get? x = some { cls := .ref C, dict := some dx, data := .fields fv } →
      h'.Ns1 dx (fun y => if y = name then some v else none) → R (.ok (.ret .none)) ⟨h', g, d, tk', os⟩) : codeAny (model prog w) A (.call (.builtin "object.__setattr__") ⟨[.ref x, .str name tk, v], []⟩) R ⟨hp, g, d, t, os⟩ := by
  have J : InstAt hp x { cls := .ref C, data := .fields fv } C none := ⟨hx, rfl, rfl, trivial⟩
  have SF := PySem.F.store_object
  have far : x ≠ hp.objs.size := Nat.ne_of_lt (Heap.lt_size hx)
  have has : cd.mro.contains (.type "object") = true := by rw [hm, List.contains_cons, ob, Bool.or_true]
  have isO : Looks (model prog w) hp (isInstance (.ref x) (.type "object")) true := J.type.andThen (looks_mroIn KX (by unfold mroIn; rw [hcd, Option.bind_some, if_neg (by rw [hm]; simp), has]))
  refine codeAny_call_builtin SF.slot.plain SF.entry (@check_slot (model prog w) _ _ ⟨hp, g, d, t, os⟩ "object.__setattr__" "object" "__setattr__" (.ref x) [.str name tk, v] [] _ SF.kind SF.split isO (SF.args (.ref x) (.str name tk) v) ?_)
  have mro : Looks (model prog w) hp (mroOf (.ref C)) cd.mro := (looks_clsIn KX hcd).andThen .now
  have none_ : Looks (model prog w) hp (storeTaker? none) none := .now
  have data_ : Looks (model prog w) hp (classData C) cd := looks_clsIn KX hcd
  rw [osa_eq, refuse_eq]
  refine wpAny_bind (wpAny_bind (J.type.at (wpAny_bind (mro.at ?_))))
  rw [hm, excTail_pass (bmB := bm) _ (pass _) (.ref C :: bm) tl]
  refine wpAny_pure (wpAny_bind (J.type.at (wpAny_bind ((looks_findIn KX ha).at (wpAny_bind (none_.at ?_))))))
  show wpAny _ _ (storeInOwnDict (.ref x) (.ref C) (.str name tk) name v false) _ _ _
  obtain ⟨nm, bs, mr, ns, qn, hd, sn, sb, ab, col, dl⟩ := cd
  dsimp only at hh
  subst hh
  unfold storeInOwnDict ownDictForStores
  repeat (first | with_reducible refine store_in_new ?_ ?_ | with_reducible refine wpAny_loadPart_at hx ?_ | with_reducible refine data_.at ?_ | wp_step)
  · exact ⟨_, #[], _, (Heap.get?_update_ne _ _ _ _ far.symm).trans (Heap.get?_push_at rfl rfl), rfl, fun e he => absurd he (by simp), fun _ => rfl⟩
  · intro h' tk' nsd same
    refine fin h' tk' hp.objs.size ?_ (Nat.le_refl _) far.symm ?_ nsd
    · intro b o hb ho
      rw [same.2 b (Nat.ne_of_lt (Heap.lt_size ho)), Heap.get?_update_ne _ _ _ _ hb]
      exact Heap.get?_push_of_some _ ho
    · rw [same.2 x far]
      exact Heap.get?_update_self _ (Heap.get?_push_of_some _ hx) rfl
/-- what __init__ leaves of a fresh exception at x -/
structure Xe (h h' : Heap) (x C dx t1 : Addr) (fld : Str) (v : Value) : Prop where
  keep : ∀ b o, b ≠ x → h.get? b = some o → h'.get? b = some o
  obj : h'.get? x = some { cls := .ref C, dict := some dx, data := .fields #[.ref t1, .none, .none, .none, .bool false, .none] }
  far : h.objs.size ≤ dx
  dne : dx ≠ x
  ns : h'.Ns1 dx (fun y => if y = fld then some v else none)
/-- the bound BaseException.__init__ is called: the args are laid anew -/
theorem bound_init {nm q : Str} {C N : Addr} {bs bm : List Value} {hdct : Bool} {sn : List Str} {sub : List Value} {ab : Bool} {col : Option Bool} {dd : Option Addr} {k0 k1 k2 k3 k5 : Option Value} {B newId initId : String} (FC : Ini B initId) {u x t0 : Addr} {vs : List Value} {Q : Value → Shared → Prop} (few : vs.length ≤ sizeLine)
    (hC : hp.get? C = some (excClassObj nm q C N bs bm hdct sn sub ab col dd k0 k1 k2 k3 k5 newId)) (hu : hp.get? u = some (kxs_mw initId x)) (hx : hp.get? x = some (excO C t0))
    (fin : ∀ h' t1, (∀ b o, b ≠ x → hp.get? b = some o → h'.get? b = some o) → h'.get? x = some (excO C t1) → Q .none ⟨h', g, d, t, os⟩) : wpAny (model prog w) A (call (.ref u) vs) Q E ⟨hp, g, d, t, os⟩ := by
  refine wpAny_call (codeAny_of_tree (show wpAny _ A.in1 (callAny (.ref u) ⟨vs, []⟩) _ _ _ from ?_))
  unfold callAny
  refine wpAny_bind (wpAny_load hu ?_)
  have yes : (Value.type "method-wrapper" == Value.type "method" || Value.type "method-wrapper" == Value.type "builtin_function_or_method" || Value.type "method-wrapper" == Value.type "method-wrapper") = true := by decide
  simp only [kxs_mw, yes, if_true]
  refine KFB.if_so (by decide) (wpAny_bind (FC.check hC hx rfl (wpAny_bind (wpAny_pure (wpAny_pure ⟨plainId_quiet FC.plain _, codeAny_builtin FC.entry ?_⟩)))))
  exact exc_init_tree (cls := .ref C) (t0 := t0) (dv := none) (c2 := .none) (c3 := .none) (b4 := .bool false) hx few fun h' k e _ => fin h' _ k e
theorem xi_init {K : Frag} {mg : Str → Option Value} {st : Stmt} {cn qual fld : Str} {C fI : Addr} {B newId initId : String} {bm : List Value} {mb : Str → Option Value} (T : Xi prog K mg st cn qual fld C fI B newId initId bm) (S : XiT st fld) {x t0 : Addr} {v : Value} (KX : K.In hp) (hlim : hp.NoLimit)
    (gl : hp.Ns mainGlobals mg) (nosup : mg "super" = none) (bl : hp.Ns builtinsNs mb) (boot : mb "super" = some (.type "super")) (hx : hp.get? x = some (excO C t0)) (hnx : K.lookup x = none) (hroom : A.depth < recursionLimit)
    (fin : ∀ h' tk dx t1, Xe hp h' x C dx t1 fld v → R (.ok (.ret .none)) ⟨h', g, d, tk, os⟩) : codeAny (model prog w) A (.call (.ref fI) ⟨[.ref x, v], []⟩) R ⟨hp, g, d, t, os⟩ := by
  obtain ⟨oc, od, doc, pm, an, cda, ct, osl, cc, cl, cld, csl, ccl, cdd, vs, ccs, file, tf, look, code, cell, cobj, cfile, same⟩ := T.fn
  obtain ⟨nm, q, N, bs, sn, sub, ab, col, dd, k0, k1, k2, k3, k5, hC⟩ := T.cls
  have hcl : clsIn K C = some { name := nm, bases := bs, mro := .ref C :: bm, ns := N, qualname := q, hasDict := true, slotNames := sn, subclasses := sub, abstract := ab, collection := col, hasDel := false } := by
    unfold clsIn
    rw [hC]
    all_goals rfl
  obtain ⟨p0, p1, p2, p3, p4, p5, q1, q2, q3, q4, hbody, hev, hsw1, hsw2⟩ := S.body
  obtain ⟨ar, har, harn⟩ := S.head
  refine ks_codeAny_call_defAt (fd := ksFn "__init__" qual (L2.defArgs st) (L2.defBody st) (L2.defScope st) .none .none doc pm an (.ref cda) ct cc) (body := L2.defBody st) (binds := [(("self" : Str), .ref x), (fld, v)])
    hroom (KX _ _ look) rfl hlim (codeRec_of KX code) rfl (BindsTo.of_eq (S.args qual doc pm an (.ref cda) ct cc (.ref x) v)) S.nocell ?_ ?_ S.co S.gen S.kind
  · intro y hy
    rcases List.mem_cons.mp hy with e | hy
    · rw [e]; exact S.s1
    · rw [List.mem_singleton.mp hy]; exact S.s2
  intro h₁ ns1 kp
  have KX1 : K.In h₁ := KX.keeps kp
  have hx1 := kp _ _ hx
  have selfV : List.lookup ("self" : Str) [(("self" : Str), Value.ref x), (fld, v)].reverse = some (.ref x) := by
    have ne : (("self" : Str) == fld) = false := by simpa using fun e => S.ne e.symm
    simp [List.lookup, ne]
  have fldV : List.lookup fld [(("self" : Str), Value.ref x), (fld, v)].reverse = some v := by simp [List.lookup]
  rw [show callEnv (ksFn "__init__" qual (L2.defArgs st) (L2.defBody st) (L2.defScope st) .none .none doc pm an (.ref cda) ct cc) hp.objs.size fI = ksEnv qual (L2.defScope st) hp.objs.size fI (.ref cda) cc from rfl]
  have kd1 : (ksEnv qual (L2.defScope st) hp.objs.size fI (.ref cda) cc).kindOf "self" = some .local := S.s1
  have kd2 : (ksEnv qual (L2.defScope st) hp.objs.size fI (.ref cda) cc).kindOf fld = some .local := S.s2
  have kd3 : (ksEnv qual (L2.defScope st) hp.objs.size fI (.ref cda) cc).kindOf "super" = some .globalImplicit := S.s3
  have kd4 : (ksEnv qual (L2.defScope st) hp.objs.size fI (.ref cda) cc).kindOf "__class__" = some .free := S.s4
  suffices go : ∀ bd : List Stmt, bd = [.Expr (.Call (.Attribute (.Call (.Name "super" p0) [] [] p1) "__init__" p2) [.Name fld p3] [] p4) p5, .Assign [.Attribute (.Name "self" q1) fld q2] (.Name fld q3) q4] →
      _root_.PySem.wpAt (model prog w) (A.deeper (ksEnv qual (L2.defScope st) hp.objs.size fI (.ref cda) cc)) (.func (L2.defBody st) (ksEnv qual (L2.defScope st) hp.objs.size fI (.ref cda) cc)) (execs bd (ksEnv qual (L2.defScope st) hp.objs.size fI (.ref cda) cc)) _ _ _ from go _ hbody
  rintro _ rfl
  have quiet : interactive (ksEnv qual (L2.defScope st) hp.objs.size fI (.ref cda) cc) = false := by simp [interactive, S.kind]
  obtain ⟨pl, hpl⟩ := hev (ksEnv qual (L2.defScope st) hp.objs.size fI (.ref cda) cc)
  have ldF : ∀ {M : Model} {A : Around} {E : Value → Shared → Prop} {s : Shared} {p : Pos} {Q : Value → Shared → Prop}, s.heap.Ns hp.objs.size (fun z => [(("self" : Str), Value.ref x), (fld, v)].reverse.lookup z) → Q v s → wpAny M A (PySem.eval (.Name fld p) (ksEnv qual (L2.defScope st) hp.objs.size fI (.ref cda) cc)) Q E s :=
    fun hn hq => wpAny_Name (wpAny_loadName_local S.kind kd2 hn fldV hq) S.dbg
  have hDcls : ∃ oD cdD, h₁.get? C = some oD ∧ oD.data = .cls cdD := ⟨_, _, KX1 _ _ hC, rfl⟩
  obtain ⟨oD, cdD, hD1, hD2⟩ := hDcls
  refine ks_wpAt_execs_cons (ks_wpAt_Expr_any (ks_wpAt_MethodCall (pl := pl) (ks_wpAt_super_base kd3 kd4 (by decide) rfl (KX1 _ _ look) rfl har rfl (KX1 _ _ cobj) rfl cfile same T.top ?_) hpl) quiet (hsw1 _))
  refine ks_loadName_global S.kind kd3 (loadGlobal_builtin (gl.keeps kp) nosup (bl.keeps kp) boot ⟨rfl, ?_⟩)
  refine wpAny_loadName_free S.kind kd4 rfl ⟨_, KX1 _ _ cell, rfl⟩ ?_
  rw [harn]
  refine wpAny_loadName_local S.kind kd1 ns1 selfV ?_
  refine ks_wpAny_isType_cls hD1 hD2 ⟨rfl, ?_⟩
  refine ks_wpAny_call_super hD1 hD2 hx1 rfl (fun c e => nomatch e) (looks_mroIn KX1 T.self) fun h₂ so2 kp2 => ?_
  have KX2 : K.In h₂ := KX1.keeps kp2
  have hx2 := kp2 _ _ hx1
  have xC : x ≠ C := fun e => by
    rw [e, hC] at hnx
    cases hnx
  have along : alongIn K "__init__" (((Value.ref C :: bm).dropWhile (· != .ref C)).drop 1) = some (some (.builtin initId)) := by
    have z := T.sup
    unfold ks_superIn at z
    rw [hcl] at z
    exact z
  have isB : Looks (model prog w) h₂ (isInstance (.ref x) (.type B)) true := (show InstAt h₂ x (excO C t0) C none from ⟨hx2, rfl, rfl, trivial⟩).type.andThen (looks_subIn KX2 T.subB)
  refine kxs_getMethod T.bas.KF so2 (looks_opaque KX2 T.op) (l₀ := Value.ref C :: bm) (fun A Q E s k q => wpAny_bind ((looks_clsIn KX2 hcl) A _ E s k (wpAny_pure q))) rfl KX2 along isB xC (by decide) ?_
  have hu : (h₂.push (kxs_mw initId x)).get? h₂.objs.size = some (kxs_mw initId x) := Heap.get?_push_size _ rfl
  have kp3 : ∀ b o, h₂.get? b = some o → (h₂.push (kxs_mw initId x)).get? b = some o := fun b o e => Heap.get?_push_of_some _ e
  have ns3 := (ns1.keeps kp2).keeps kp3
  refine kxs_callWith (i := initId) (x := x) (by rfl) ?_
  refine evalArgs_plain (spliced_cons ?_)
  rw [if_neg (by decide)]
  refine ldF ns3 (Calls.spliced_nil ⟨hu, ?_⟩)
  have few1 : [v].length ≤ sizeLine := by
    rw [sizeLine_eq]
    exact (by decide : 1 ≤ 16777216)
  refine bound_init T.bas.I few1 (kp3 _ _ (KX2 _ _ hC)) hu (kp3 _ _ hx2) fun h₄ t1 k4 hx4 => ?_
  have k14 : ∀ b o, b ≠ x → h₁.get? b = some o → h₄.get? b = some o := fun b o hb e => k4 b o hb (kp3 _ _ (kp2 _ _ e))
  have KX4 : K.In h₄ := fun b o e => k14 b o (fun z => by
    rw [z, hnx] at e
    cases e) (KX1 b o e)
  have xL : hp.objs.size ≠ x := Nat.ne_of_gt (Heap.lt_size hx)
  have ns4 : h₄.Ns hp.objs.size (fun z => [(("self" : Str), Value.ref x), (fld, v)].reverse.lookup z) := by
    obtain ⟨o, es, ep, e1, e2⟩ := ns1
    exact ⟨o, es, ep, k14 _ _ xL e1, e2⟩
  refine ks_wpAt_execs_cons (ks_wpAt_Assign_Attr (wpAt_of_wpAny (ldF ns4 ?_)) (hsw2 _))
  refine wpAny_Name (wpAny_loadName_local S.kind kd1 ns4 selfV ?_) (by decide)
  refine set_plain KX4 (ox := excO C t1) (od := none) ⟨hx4, rfl, rfl, trivial⟩ T.sa ?_
  refine osaB T.bas.pass T.bas.tl T.bas.ob KX4 hx4 hcl rfl rfl T.noF fun h₅ tk5 dx k5 far dne hx5 nsd => ?_
  show _root_.PySem.wpAt _ _ _ (execs [] _) _ _ _
  refine wpAt_of_wpAny (wpAny_execs_nil (fin h₅ tk5 dx t1 ⟨fun b o hb e => k5 b o hb (k14 b o hb (kp b o e)), hx5, ?_, dne, nsd⟩))
  have lt1 : hp.objs.size < h₄.objs.size := ns4.lt
  exact Nat.le_trans (Nat.le_of_lt lt1) far
/-- C(v) is made -/
structure Xm (h h' : Heap) (e C dx : Addr) (fld : Str) (v : Value) : Prop where
  keep : ∀ b o, h.get? b = some o → h'.get? b = some o
  new : h.objs.size ≤ e
  obj : ∃ t1 : Addr, h'.get? e = some { cls := .ref C, dict := some dx, data := .fields #[.ref t1, .none, .none, .none, .bool false, .none] }
  far : h.objs.size ≤ dx
  dne : dx ≠ e
  ns : h'.Ns1 dx (fun y => if y = fld then some v else none)
theorem xi_made {K : Frag} {mg : Str → Option Value} {st : Stmt} {cn qual fld : Str} {C fI : Addr} {B newId initId : String} {bm : List Value} {mb : Str → Option Value} (T : Xi prog K mg st cn qual fld C fI B newId initId bm) (S : XiT st fld) {v : Value} (KX : K.In hp) (hlim : hp.NoLimit)
    (gl : hp.Ns mainGlobals mg) (nosup : mg "super" = none) (bl : hp.Ns builtinsNs mb) (boot : mb "super" = some (.type "super")) (hroom : A.depth + 1 < recursionLimit)
    (fin : ∀ h' tk e dx, Xm hp h' e C dx fld v → R (.ok (.ret (.ref e))) ⟨h', g, d, tk, os⟩) : codeAny (model prog w) A (.call (.ref C) ⟨[v], []⟩) R ⟨hp, g, d, t, os⟩ := by
  obtain ⟨nm, q, N, bs, sn, sub, ab, col, dd, k0, k1, k2, k3, k5, hC⟩ := T.cls
  have kp : ∀ b o, hp.get? b = some o → ((hp.push (kdv_tup [v])).push (excO C hp.objs.size)).get? b = some o := fun b o e => Heap.get?_push_of_some _ (Heap.get?_push_of_some _ e)
  have at_ : ((hp.push (kdv_tup [v])).push (excO C hp.objs.size)).get? (hp.objs.size + 1) = some (excO C hp.objs.size) := by heap_get
  have free : K.lookup (hp.objs.size + 1) = none := by
    cases e : K.lookup (hp.objs.size + 1) with
    | none => rfl
    | some o => exact absurd (Nat.lt_of_succ_lt (Heap.lt_size (KX _ _ e))) (Nat.lt_irrefl _)
  have few1 : [v].length ≤ sizeLine := by
    rw [sizeLine_eq]
    exact (by decide : 1 ≤ 16777216)
  obtain ⟨_, _, _, FB, TT⟩ := T.bas.F
  refine tl_call FB TT (KX _ _ hC) (looks_findIn KX T.iC) (fun self => bind_fn KX self T.tI) few1 ?_
  refine xi_init T S (KX.keeps kp) (hlim.keeps kp) (gl.keeps kp) nosup (bl.keeps kp) boot at_ free (show A.depth + 1 < recursionLimit from hroom) fun h' tk' dx t1 E => ⟨rfl, ?_⟩
  have sz : ((hp.push (kdv_tup [v])).push (excO C hp.objs.size)).objs.size = hp.objs.size + 1 + 1 := by simp [Heap.size_push]
  refine fin h' tk' (hp.objs.size + 1) dx ⟨fun b o e => E.keep b o (Nat.ne_of_lt (Nat.lt_succ_of_lt (Heap.lt_size e))) (kp b o e), Nat.le_succ _, ⟨_, E.obj⟩, ?_, E.dne, E.ns⟩
  have := E.far
  rw [sz] at this
  omega
end
end Mx

/-! M10: raise, in mirrors. -/
namespace Mx
open PySem L2
theorem relO_one {fld : Str} {v : V} {u : Value} (r : RelV v u) (f : Str) : RelO (List.lookup f [(fld, v)]) (if f = fld then some u else none) := by
  by_cases h : f = fld
  · subst h
    rw [if_pos rfl]
    simp only [List.lookup, beq_self_eq_true]
    exact r
  · have ne : (f == fld) = false := by simpa using h
    simp [List.lookup, ne, h, RelO]
section
variable {X : Cx} {W : WX} {pos : Pos}
theorem pmk_xi {st : Stmt} {cn qual fld : Str} {C fI : Addr} {B newId initId : String} {bm : List Value} {a : Expr} {ta : TA} {p : Pos} {k : Nat} (T : Xi X.prog X.K X.mg st cn qual fld C fI B newId initId bm) (S : XiT st fld) (nosup : X.mg "super" = none) (rm : Room k X.A) (ha : PA X [a] ta) (hg : Gl X cn)
    (hdb : (cn == ("__debug__" : Str)) = false := by decide) (he : starEach [a] X.env = (false, eval a X.env) :: starEach [] X.env := by rfl) (hpl : (backTo pos (starEach [] X.env)).any (·.1) = false := by rfl) :
    PMk X (.Call (.Name cn p) [a] [] pos) (fun σ H Q => ta σ H fun vs H1 => ∃ v, vs = [v] ∧ ∀ d, H1 d = none → Q (.ref C) (some d) (upd H1 d (.xd [(fld, v)]))) := by
  intro pins s σ H Q I h
  refine wpAny_Call_Name_kw (ld_glob I hg T.gC ?_ hdb)
  refine PySem.W.callWith_K (h₀ := X.base) I.ok.mod.kin T.kC (thn (ha.run pos pins s σ H _ I h) ?_) he hpl
  rintro us s1 ⟨vs, H1, I1, r1, v, rfl, q1⟩
  refine ⟨I1.kIn, ?_⟩
  obtain ⟨u, rfl, rv⟩ := vals1 r1
  show wpAny _ _ (call (.ref C) [u]) _ _ _
  obtain ⟨mb, bl, boot⟩ := I1.mod.blt
  have hlim := I1.nolimit
  have KX1 := I1.kIn
  have gl1 := I1.mod.glob.keeps I1.bk
  have bl1 := bl.keeps I1.bk
  obtain ⟨hp, g, dr, tk, os⟩ := s1
  refine wpAny_call (xi_made T S KX1 hlim gl1 nosup bl1 ((boot _ (by decide)).trans (by decide +kernel)) (by have := rm.dp; omega) fun h' tk' e d M => ?_)
  show MkP X pins σ Q (.ref e) ⟨h', g, dr, tk', os⟩
  obtain ⟨t1, hoe⟩ := M.obj
  obtain ⟨G', g1, g2⟩ := restrict h' fun b => decide (b ≠ e)
  have gk : ∀ b, b ≠ e → G'.get? b = h'.get? b := fun b hb => g1 b (decide_eq_true hb)
  have ge : G'.get? e = none := g2 e (by simp)
  have old : ∀ b o, hp.get? b = some o → G'.get? b = some o := fun b o q => by
    rw [gk b (Nat.ne_of_lt (Nat.lt_of_lt_of_le (Heap.lt_size q) M.new))]
    exact M.keep b o q
  have J : L2.Inv X pins σ (upd H1 d (.xd [(fld, v)])) ⟨G', g, dr, tk', os⟩ := I1.laid (t' := tk') old M.far ⟨_, M.ns.at (fun o q => (gk d M.dne).trans q), fun f => relO_one rv f⟩
  refine ⟨e, _, _, ⟨G', g, dr, tk', os⟩, _, .ref C, some d, rfl, J, fun b o q => ?_, ge, hoe, ⟨rfl, rfl⟩, rfl, rfl, ?_, rfl, I1.bare, raises_own T.exC T.tyC, q1 d (I1.hok.fresh M.far)⟩
  · by_cases hb : b = e
    · subst hb
      have q' : G'.get? b = some o := q
      rw [ge] at q'
      cases q'
    · rw [← gk b hb]
      exact q
  · rw [upd_ne (Ne.symm M.dne)]
    exact I1.hok.fresh M.new
/-- raise C(e), e kept as the field -/
def sRaise (C : Addr) (fld : Str) (a : EL) : S1 := fun loc mem => (a loc mem).thenS loc fun ds m => match ds with
  | [d] => .ex ⟨.ref C, some (fld, d)⟩ loc m
  | _ => .bad
theorem ms_raise {st : Stmt} {cn qual fld : Str} {C fI : Addr} {B newId initId : String} {bm : List Value} {a : Expr} {ml : EL} {p p2 : Pos} {k : Nat} (T : Xi X.prog X.K X.mg st cn qual fld C fI B newId initId bm) (S : XiT st fld) (nosup : X.mg "super" = none) (rm : Rm k X.A) (tk : Tk X W) (ha : ML X W [a] ml) (hg : Gl X cn) (hc : X.calm = true := by rfl)
    (hdb : (cn == ("__debug__" : Str)) = false := by decide) (he : starEach [a] X.env = (false, eval a X.env) :: starEach [] X.env := by rfl) (hpl : (backTo pos (starEach [] X.env)).any (·.1) = false := by rfl) :
    MS X W (.Raise (some (.Call (.Name cn p) [a] [] pos)) none p2) (sRaise C fld ml) := ⟨PS.imp (ps_raise hc tk.tk (pmk_xi T S nosup rm.toRoom ha.pa hg hdb he hpl)) fun Z σ H ⟨α, loc, mem, hm, hl, hp⟩ =>
  tG_goSE hm hl hp fun α1 H1 m1 ds vs e1 l1 hm1 hl1 hr1 hp1 => by
    cases hr1 with
    | nil => exact hp1.elim
    | @cons d v _ _ r hr =>
      cases hr with
      | cons _ _ => exact hp1.elim
      | nil =>
        refine ⟨v, rfl, fun dd nd => ?_⟩
        have sm := same_new (o := .xd [(fld, v)]) nd
        exact hp1 α1 _ σ _ _ (Lt.same sm) (hm1.same sm) (hl1.mono (Lt.same sm).toLk) ⟨rfl, dd, v, rfl, hm1.fresh nd, upd_same, r.mono (Lt.same sm).toLk⟩⟩
end
end Mx

/-! M11: exceptions as values: made, asked by isinstance, str, read. -/
namespace Mx
open PySem L2
theorem exMO_ok {P : Program} {w : World} {H : Hp} {h : Heap} {a C t : Addr} (e : h.get? a = some ({ cls := .ref C, data := .fields #[.ref t, .none, .none, .none, .bool false, .none] } : Obj)) : ObjOk P w H h a (exMO a C t) :=
  ⟨e, ⟨_, e⟩, fun _ _ q k => k _ q⟩
theorem exFO_ok {P : Program} {w : World} {H : Hp} {h : Heap} {a C dx t : Addr} (e : h.get? a = some ({ cls := .ref C, dict := some dx, data := .fields #[.ref t, .none, .none, .none, .bool false, .none] } : Obj)) : ObjOk P w H h a (exFO a C dx) :=
  ⟨⟨t, e⟩, ⟨_, e⟩, fun _ _ ⟨u, q⟩ k => ⟨u, k _ q⟩⟩
/-- how the object stands in the heap -/
theorem inst_of {X : Cx} {pins : List (Addr × Obj)} {σ : L2.St} {H : Hp} {s : Shared} {α : Ad} {C : Addr} {f : Option Str} {d : D} {x : V} (I : L2.Inv X pins σ H s) (r : Rep X.K α H (.exo C f d) x) : ∃ a ox od, x = .ref a ∧ PySem.W.InstAt s.heap a ox C od := by
  cases r with
  | exm h1 h2 ha ht rd =>
    obtain ⟨q, _, _⟩ := I.hok _ _ ha
    exact ⟨_, _, none, rfl, q, rfl, rfl, trivial⟩
  | exf h1 h2 ha hd rd =>
    obtain ⟨⟨t, q⟩, _, _⟩ := I.hok _ _ ha
    obtain ⟨mA, hns, hr⟩ := I.hok _ _ hd
    obtain ⟨od, ho, hl⟩ := lookIn_ns hns
    exact ⟨_, _, some od, rfl, q, rfl, rfl, ho⟩
theorem kitx_any {K : PySem.W.Frag} {x D : Addr} (T : L2.ExcC K D) : PySem.W.KitX K (.ref x) (.ref D) (fun h => ∃ ox od, PySem.W.InstAt h x ox D od) where
  ty := fun _ _ _ ⟨_, _, I⟩ => I.type
  it := fun M h X _ => by
    obtain ⟨cd, hc, _⟩ := PySem.W.any_some T.hd
    unfold PySem.W.clsIn at hc
    split at hc
    · rename_i ho
      intro A' Q' E' s' k q
      unfold isType loadHead
      exact wpAny_bind (wpAny_loadPart (k _ _ (X _ _ ho)) (wpAny_pure q))
    · cases hc
  ne := (PySem.W.handS_kitx_exc (x := x) (ox := { cls := .none }) T.hg T.hk T.hs T.hd T.ha T.hn T.ht T.hm).ne
  ca := fun X ⟨_, _, I⟩ k => PySem.W.kx_classE X I T.hg T.hk T.hs (PySem.W.findObj_dataE (by obtain ⟨cd, hc, _⟩ := PySem.W.any_some T.hd; rw [hc]; rfl) T.ha T.hn T.ht) T.hm k
def gIsE (tab : Addr → V → Option Bool) : OpP := fun _ ds => match ds with
  | [.exo C _ _, .con c] => (tab C c).map .bl
  | _ => none
section
variable {X : Cx} {W : WX} {pos : Pos}
def IsTab (K : PySem.W.Frag) (tab : Addr → V → Option Bool) : Prop := ∀ C c b, tab C c = some b → L2.ExcC K C ∧ ∃ cv, L2.ClsV c cv ∧ PySem.W.kitOne K (.ref C) cv = some b
theorem call_gIsE {tab : Addr → V → Option Bool} (ht : IsTab X.K tab) : CallR X (.builtin "isinstance") (rB X.K (pu (gIsE tab))) := callP fun pins s σ H xs us Q α mem ds z I rv hm hr hg q => by
  unfold gIsE at hg
  split at hg
  · rename_i C f d c
    obtain ⟨b, hb, rfl⟩ := Option.map_eq_some_iff.mp hg
    obtain ⟨T, cv, hc, hk⟩ := ht _ _ _ hb
    cases hr with
    | cons r1 hr =>
      cases hr with
      | cons r2 hr =>
        cases hr
        cases r2
        obtain ⟨a, ox, od, rfl, J⟩ := inst_of I r1
        cases rv with
        | cons ra rv =>
          cases rv with
          | cons rc rv =>
            cases rv
            cases ra
            have ec := hc.eq rc
            subst ec
            exact PySem.W.kia_one (kitx_any T) I.kIn ⟨ox, od, J⟩ hk (fun z => nomatch z) fun tk => ⟨.bl b, H, I.kept (t' := tk) fun _ _ z => z, rfl, q H _ (Same.refl _) (.bl b)⟩
  · cases hg
/-- str(e), e with a message -/
def gStrE (ok : Addr → Bool) : OpP := fun _ ds => match ds with
  | [.exo C none (.str x)] => if ok C = true then some (.str x) else none
  | _ => none
def StrTab (K : PySem.W.Frag) (ok : Addr → Bool) : Prop := ∀ C, ok C = true → PySem.W.findIn K (.ref C) "__str__" = some (some (.builtin "BaseException.__str__")) ∧ PySem.W.subIn K (.ref C) (.type "BaseException") = some true
theorem call_gStrE {ok : Addr → Bool} {k : Nat} (ht : StrTab X.K ok) (rm : Rm k X.A) : CallR X (.type "str") (rB X.K (pu (gStrE ok))) := callP fun pins s σ H xs us Q α mem ds z I rv hm hr hg q => by
  unfold gStrE at hg
  split at hg
  · rename_i C x
    split at hg
    · rename_i h
      cases hg
      obtain ⟨h1, h2⟩ := ht _ h
      cases hr with
      | cons r1 hr =>
        cases hr
        cases r1 with
        | exm o1 o2 ha htt rd =>
          cases rd
          cases rv with
          | cons ra rv =>
            cases rv
            cases ra
            obtain ⟨qq, _, _⟩ := I.hok _ _ ha
            obtain ⟨_, its, rit, o, ho, hc, n, hd⟩ := I.hok _ _ htt
            cases rit with
            | cons ri rit =>
              cases rit
              obtain ⟨tk, rfl⟩ := ri
              have un := rm.un
              exact PySem.P.str_of_C_one (by omega) ⟨I.kIn, _, _, qq, rfl, rfl, rfl⟩ ⟨o, n, ho, hc, hd⟩ h1 h2 ⟨.str x, H, I, ⟨tk, rfl⟩, q H _ (Same.refl _) (.str x)⟩
    · cases hg
  · cases hg
/-- e.f -/
def gAtE (f : Str) (ok : Addr → Bool) : OpP := fun _ ds => match ds with
  | [.exo C (some g) d] => if g = f ∧ ok C = true then some d else none
  | _ => none
def AtTab (K : PySem.W.Frag) (f : Str) (ok : Addr → Bool) : Prop := ∀ C, ok C = true → L2.XfC K C ∧ PySem.W.findIn K (.ref C) f = some none
theorem me_atE {f : Str} {ok : Addr → Bool} {e : Expr} {m : E1} (ht : AtTab X.K f ok) (he : ME X W e m) (hb : attributeBase e f X.env (eval e X.env) = eval e X.env := by rfl) : ME X W (.Attribute e f pos) (e1 (pu (gAtE f ok)) m) := by
  refine ⟨⟨fun pins s σ H Q I h => attr_of hb (thn (he.pe.run pins s σ H _ I (tE1 h)) fun u s1 ⟨x, H1, I1, rx, α, mem, ds, z, mem', hm, hr, hg, q⟩ => ?_)⟩⟩
  unfold pu gAtE at hg
  split at hg
  · rename_i C g d
    split at hg
    · rename_i hh
      obtain ⟨rfl, hok⟩ := hh
      cases hg
      obtain ⟨T, hno⟩ := ht _ hok
      cases hr with
      | cons r1 hr =>
        cases hr
        cases r1 with
        | @exf a dx _ _ _ v o1 o2 ha hd rd =>
          cases rx
          obtain ⟨⟨t, qa⟩, _, _⟩ := I1.hok _ _ ha
          obtain ⟨mA, hns, hrr⟩ := I1.hok _ _ hd
          obtain ⟨od, ho, hl⟩ := lookIn_ns hns
          have l := hrr g
          rw [show List.lookup g [(g, v)] = some v from by simp [List.lookup]] at l
          obtain ⟨u, hu, ru⟩ := RelO.some_of l
          have J : PySem.W.InstAt s1.heap _ _ C (some od) := ⟨qa, rfl, rfl, ho⟩
          exact HandSPX.exc_get I1.kIn J T.ga T.gg T.exC (PySem.W.findObj_own T.hdC hno rfl (by rw [hl, hu])) (handed_of ru) ⟨_, H1, I1.tok _, ru, q α H1 _ (Lt.refl _ _) hm rd⟩
    · cases hg
  · cases hg
/-- C(a): a new exception that holds a message -/
def eMkM (C : Addr) (a : E1) : E1 := fun loc mem => (a loc mem).bind fun d m => .ok (.exo C none d) m
/-- C(a): a new exception that keeps a as its field -/
def eMkF (C : Addr) (fld : Str) (a : EL) : E1 := fun loc mem => (a loc mem).bind fun ds m => match ds with
  | [d] => .ok (.exo C (some fld) d) m
  | _ => .bad
theorem two_laid {pins : List (Addr × Obj)} {σ : L2.St} {H : Hp} {s : Shared} {h' : Heap} {a t : Addr} {o : HO} {t' : Nat} {φ : Heap → Prop} (I : L2.Inv X pins σ H s) (kp : ∀ b u, s.heap.get? b = some u → h'.get? b = some u) (na : s.heap.get? a = none) (nt : s.heap.get? t = none) (ne : t ≠ a)
    (new : ∀ G : Heap, (∀ b, b ≠ a → G.get? b = h'.get? b) → ObjOk X.prog X.w (upd H t o) G t o) (newA : ∀ H, ObjOk X.prog X.w H h' a (.ext φ)) : L2.Inv X pins σ (upd (upd H t o) a (.ext φ)) { s with heap := h', toks := t' } ∧ H a = none ∧ H t = none := by
  have ha : H a = none := I.hok.gone na
  have htt : H t = none := I.hok.gone nt
  obtain ⟨G, g1, g2⟩ := restrict h' fun b => decide (b ≠ a)
  have gk : ∀ b, b ≠ a → G.get? b = h'.get? b := fun b hb => g1 b (decide_eq_true hb)
  have ga : G.get? a = none := g2 a (by simp)
  have J : L2.Inv X pins σ (upd H t o) { s with heap := G, toks := t' } := I.laidN (fun b u q => by
    rw [gk b (fun e => by
      rw [e, na] at q
      cases q)]
    exact kp b u q) nt htt (new G gk)
  have ha' : upd H t o a = none := by
    rw [upd_ne (Ne.symm ne)]
    exact ha
  exact ⟨J.laidN (h' := h') (t' := t') (fun b u q => by
    by_cases hb : b = a
    · have q' : G.get? b = some u := q
      rw [hb, ga] at q'
      cases q'
    · rw [← gk b hb]
      exact q) ga ha' (newA _), ha, htt⟩
theorem me_mkM {C : Addr} {bmB : List Value} {B newId initId : String} {x : Str} {e : Expr} {m : E1} {p : Pos} (F : ExcBaseFacts B newId initId bmB) (qx : PySem.W.excIn X.K C bmB newId = true) (gC : X.mg x = some (.ref C)) (kC : PySem.W.keepIn X.K (.ref C) = true) (hg : Gl X x) (he : ME X W e m)
    (hs : starEach [e] X.env = (false, eval e X.env) :: starEach [] X.env := by rfl) (hdb : (x == ("__debug__" : Str)) = false := by decide) : ME X W (.Call (.Name x p) [e] [] pos) (eMkM C m) := by
  refine ⟨⟨fun pins s σ H Q I h => ?_⟩⟩
  have h2 : tE X.K m W σ H (fun v H1 => ∀ a t, H1 a = none → H1 t = none → t ≠ a → Q (.ref a) (upd (upd H1 t (.tup [v])) a (exMO a C t))) := by
    obtain ⟨α, loc, mem, hm, hl, hp⟩ := h
    refine tG_goE hm hl hp fun α1 H1 m1 d v e1 l1 hm1 hl1 hr1 hp1 a t na nt ne => ?_
    have s1 := same_new (o := .tup [v]) nt
    have na' : upd H1 t (.tup [v]) a = none := by
      rw [upd_ne (Ne.symm ne)]
      exact na
    have s2 := same_new (o := exMO a C t) na'
    have sm := s1.trans s2
    exact hp1 α1 _ _ (Lt.same sm) (hm1.same sm) (.exm (hm1.fresh na) (hm1.fresh nt) upd_same (by rw [upd_ne ne]; exact upd_same) (hr1.mono (Lt.same sm).toLk))
  refine wpAny_Call_Name_kw (ld_glob I hg gC ?_ hdb)
  refine PySem.W.callWith_K (h₀ := X.base) I.ok.mod.kin kC ?_ hs (by rfl)
  rw [hs]
  show wpAny _ _ (spliced ((false, eval e X.env) :: backTo pos (starEach [] X.env))) _ _ s
  refine Calls.spliced_cons (thn (he.pe.run pins s σ H _ I h2) fun u s1 ⟨v, H1, I1, r1, q1⟩ => ?_)
  refine Calls.spliced_nil ⟨I1.kIn, ?_⟩
  show wpAny _ _ (call (.ref C) [u]) _ _ _
  obtain ⟨bm, N, nm, qn, bs, hdct, sn, sub, ab, col, dd, k0, k1, k2, k3, k5, mN, hC, hN, hni, T⟩ := exc_obj I1.kIn qx
  refine wpAny_call_exc_subT F T hC hN hni (fun h' a hmd => ?_) (by show 1 ≤ sizeLine; rw [sizeLine_eq]; omega)
  obtain ⟨t, hat, hnt, htt⟩ := hmd.there
  have ne : t ≠ a := fun e => by
    rw [e, hat] at htt
    cases htt
  obtain ⟨J, na, nt⟩ := two_laid (t' := s1.toks) (o := .tup [v]) (φ := fun h => h.get? a = some ({ cls := .ref C, data := .fields #[.ref t, .none, .none, .none, .bool false, .none] } : Obj)) I1 hmd.keeps hmd.new hnt ne (fun G gk => ⟨small_of (show 1 ≤ 1000000 by decide), [u], .cons r1 .nil, _, (gk t ne).trans htt, rfl, _, rfl⟩) (fun _ => exMO_ok hat)
  exact ⟨.ref a, _, J, rfl, q1 a t na nt ne⟩
theorem me_mkF {st : Stmt} {cn qual fld : Str} {C fI : Addr} {B newId initId : String} {bm : List Value} {a : Expr} {ml : EL} {p : Pos} {k : Nat} (T : Xi X.prog X.K X.mg st cn qual fld C fI B newId initId bm) (S : XiT st fld) (nosup : X.mg "super" = none) (rm : Rm k X.A) (ha : ML X W [a] ml) (hg : Gl X cn)
    (hdb : (cn == ("__debug__" : Str)) = false := by decide) (he : starEach [a] X.env = (false, eval a X.env) :: starEach [] X.env := by rfl) (hpl : (backTo pos (starEach [] X.env)).any (·.1) = false := by rfl) : ME X W (.Call (.Name cn p) [a] [] pos) (eMkF C fld ml) := by
  refine ⟨⟨fun pins s σ H Q I h => ?_⟩⟩
  have h2 : tL X.K ml W σ H (fun vs H1 => ∃ v, vs = [v] ∧ ∀ a t, H1 a = none → H1 t = none → t ≠ a → Q (.ref a) (upd (upd H1 t (.xd [(fld, v)])) a (exFO a C t))) := by
    obtain ⟨α, loc, mem, hm, hl, hp⟩ := h
    refine tG_goE hm hl hp fun α1 H1 m1 ds vs e1 l1 hm1 hl1 hr1 hp1 => ?_
    cases hr1 with
    | nil => exact hp1.elim
    | @cons d v _ _ r hr =>
      cases hr with
      | cons _ _ => exact hp1.elim
      | nil =>
        refine ⟨v, rfl, fun a t na nt ne => ?_⟩
        have s1 := same_new (o := .xd [(fld, v)]) nt
        have na' : upd H1 t (.xd [(fld, v)]) a = none := by
          rw [upd_ne (Ne.symm ne)]
          exact na
        have s2 := same_new (o := exFO a C t) na'
        have sm := s1.trans s2
        exact hp1 α1 _ _ (Lt.same sm) (hm1.same sm) (.exf (hm1.fresh na) (hm1.fresh nt) upd_same (by rw [upd_ne ne]; exact upd_same) (r.mono (Lt.same sm).toLk))
  refine wpAny_Call_Name_kw (ld_glob I hg T.gC ?_ hdb)
  refine PySem.W.callWith_K (h₀ := X.base) I.ok.mod.kin T.kC (thn (ha.pa.run pos pins s σ H _ I h2) ?_) he hpl
  rintro us s1 ⟨vs, H1, I1, r1, v, rfl, q1⟩
  refine ⟨I1.kIn, ?_⟩
  obtain ⟨u, rfl, rv⟩ := vals1 r1
  show wpAny _ _ (call (.ref C) [u]) _ _ _
  obtain ⟨mb, bl, boot⟩ := I1.mod.blt
  have hlim := I1.nolimit
  have KX1 := I1.kIn
  have gl1 := I1.mod.glob.keeps I1.bk
  have bl1 := bl.keeps I1.bk
  obtain ⟨hp, g, dr, tk, os⟩ := s1
  refine wpAny_call (xi_made T S KX1 hlim gl1 nosup bl1 ((boot _ (by decide)).trans (by decide +kernel)) (by have := rm.dp; omega) fun h' tk' e d M => ?_)
  obtain ⟨t1, hoe⟩ := M.obj
  have gone : ∀ b, hp.objs.size ≤ b → hp.get? b = none := fun b hb => by
    cases q : hp.get? b with
    | none => rfl
    | some o => exact absurd (Nat.lt_of_lt_of_le (Heap.lt_size q) hb) (Nat.lt_irrefl _)
  obtain ⟨J, na, nt⟩ := two_laid (t' := tk') (o := .xd [(fld, v)]) (φ := fun h => ∃ t : Addr, h.get? e = some ({ cls := .ref C, dict := some d, data := .fields #[.ref t, .none, .none, .none, .bool false, .none] } : Obj)) I1 M.keep (gone e M.new) (gone d M.far) M.dne
    (fun G gk => ⟨_, M.ns.at (fun o q => (gk d M.dne).trans q), fun f => relO_one rv f⟩) (fun _ => exFO_ok hoe)
  exact ⟨.ref e, _, J, rfl, q1 e d na nt M.dne⟩
end
end Mx

/-! M12: repr, in. -/
namespace Mx
open PySem L2
/-! ### data with dicts -/
def keyPy : Key → PyData
  | .inl i => .int i
  | .inr x => .str x
mutual
def D.pyR : D → Option PyData
  | .non => some .none
  | .bl b => some (.bool b)
  | .int i => some (.int i)
  | .str x => some (.str x)
  | .tup ds => match D.pyRL ds with
    | some ps => some (.tuple ps)
    | none => none
  | .lst ds => match D.pyRL ds with
    | some ps => some (.list ps)
    | none => none
  | .dic ds => match D.pyRK ds with
    | some ps => some (.dict ps)
    | none => none
  | _ => none
def D.pyRL : List D → Option (List PyData)
  | [] => some []
  | d :: ds => match D.pyR d, D.pyRL ds with
    | some p, some ps => some (p :: ps)
    | _, _ => none
def D.pyRK : List (Key × D) → Option (List (PyData × PyData))
  | [] => some []
  | (k, d) :: ds => match D.pyR d, D.pyRK ds with
    | some p, some ps => some ((keyPy k, p) :: ps)
    | _, _ => none
end
theorem sd_of {X : Cx} (h : SysD X.base) : ∀ pins σ H s, L2.Inv X pins σ H s → SysD s.heap := fun _ _ _ _ I => let ⟨mm, z⟩ := h; ⟨mm, z.keeps I.bk⟩
theorem readsAll_keys {P : Program} {w : World} {h : Heap} : ∀ {es : List DictEntry} {vs : List (Key × Value)}, Pairs (mixKind P w) es vs → ReadsAll h (es.map (·.key)) (vs.map fun p => keyPy p.1) []
  | _, _, .nil => .nil
  | _, _, .cons (e := e) (kv := kv) hk hv t => by
    have r : Reads h e.key (keyPy kv.1) [] := by
      rcases keyIs_shape hk with ⟨i, tk, e1, e2⟩ | ⟨x, tk, e1, e2⟩
      · rw [e1, e2]; exact .int i tk
      · rw [e1, e2]; exact .str x tk
    exact .cons (as := []) (bs := []) r (readsAll_keys t)
section
variable {X : Cx} {pins : List (Addr × Obj)} {σ : L2.St} {H : Hp} {s : Shared} {α : Ad}
theorem SysD.ne {h : Heap} {a : Addr} {o : Obj} (sd : SysD h) {its : Array Value} {n : Nat} (e : h.get? a = some o) (hc : o.data = .seq its n) : sysModules ≠ a := fun z => by
  obtain ⟨mm, o', es, ep, e', hd, _⟩ := sd
  rw [z, e] at e'
  cases e'
  rw [hc] at hd
  cases hd
mutual
theorem Rep.rr (I : L2.Inv X pins σ H s) (sd : SysD s.heap) : ∀ {d : D} {v : V} {p : PyData} {u : Value}, Rep X.K α H d v → D.pyR d = some p → RelV v u → ∃ as, Reads s.heap u p as ∧ sysModules ∉ as
  | _, _, _, _, .non, h, r => by rw [D.pyR] at h; cases h; cases r; exact ⟨_, .none, by simp⟩
  | _, _, _, _, .bl b, h, r => by rw [D.pyR] at h; cases h; cases r; exact ⟨_, .bool b, by simp⟩
  | _, _, _, _, .int i, h, r => by rw [D.pyR] at h; cases h; obtain ⟨t, rfl⟩ := r; exact ⟨_, .int i t, by simp⟩
  | _, _, _, _, .str x, h, r => by rw [D.pyR] at h; cases h; obtain ⟨t, rfl⟩ := r; exact ⟨_, .str x t, by simp⟩
  | _, _, _, _, .tup (ds := ds) _ rd rs, h, r => by
    rw [D.pyR] at h
    cases e : D.pyRL ds with
    | none => rw [e] at h; cases h
    | some ps =>
      rw [e] at h; cases h; cases r
      obtain ⟨its, rv, ⟨o, ho, hc, n, hd⟩, _⟩ := I.tuple (.inl rd)
      obtain ⟨as, q, nq⟩ := RepL.rr I sd rs e rv
      exact ⟨_, .tuple ho hc hd q, nq⟩
  | _, _, _, _, .tupK (ds := ds) w rs, h, r => by
    rw [D.pyR] at h
    cases e : D.pyRL ds with
    | none => rw [e] at h; cases h
    | some ps =>
      rw [e] at h; cases h; cases r
      obtain ⟨its, rv, ⟨o, ho, hc, n, hd⟩, _⟩ := I.tuple (.inr w)
      obtain ⟨as, q, nq⟩ := RepL.rr I sd rs e rv
      exact ⟨_, .tuple ho hc hd q, nq⟩
  | _, _, _, _, .lst (ds := ds) _ rd rs, h, r => by
    rw [D.pyR] at h
    cases e : D.pyRL ds with
    | none => rw [e] at h; cases h
    | some ps =>
      rw [e] at h; cases h; cases r
      obtain ⟨its, rv, ⟨o, n, ho, hc, _, hd⟩, _⟩ := I.list (SqL.of rd)
      obtain ⟨as, q, nq⟩ := RepL.rr I sd rs e rv
      exact ⟨_, .list ho hc hd q, fun z => (List.mem_cons.mp z).elim (sd.ne ho hd) nq⟩
  | _, _, _, _, .dic (ds := ds) _ rd rs, h, r => by
    rw [D.pyR] at h
    cases e : D.pyRK ds with
    | none => rw [e] at h; cases h
    | some ps =>
      rw [e] at h; cases h; cases r
      obtain ⟨_, nm, vs, kv, o, es, ep, ho, hx, hd, _, hp, _⟩ := dk_of I.hok rd
      obtain ⟨as, q, nq, ek⟩ := RepK.rr I sd rs e kv hp
      refine ⟨_, .dict (as := []) ho hx.1 hd (by rw [← ek]; exact readsAll_keys hp) q, fun z => ?_⟩
      rcases List.mem_cons.mp z with z | z
      · exact absurd z.symm (by simpa using nm)
      · exact nq z
  | _, _, _, _, .scr _ _ _, h, _ => by rw [D.pyR] at h <;> first | cases h | simp
  | _, _, _, _, .scrK _ _, h, _ => by rw [D.pyR] at h <;> first | cases h | simp
  | _, _, _, _, .ref _, h, _ => by rw [D.pyR] at h <;> first | cases h | simp
  | _, _, _, _, .con _, h, _ => by rw [D.pyR] at h <;> first | cases h | simp
  | _, _, _, _, .exm _ _ _ _ _, h, _ => by rw [D.pyR] at h <;> first | cases h | simp
  | _, _, _, _, .exf _ _ _ _ _, h, _ => by rw [D.pyR] at h <;> first | cases h | simp
theorem RepL.rr (I : L2.Inv X pins σ H s) (sd : SysD s.heap) : ∀ {ds : List D} {vs : List V} {ps : List PyData} {us : List Value}, RepL X.K α H ds vs → D.pyRL ds = some ps → Vals vs us → ∃ as, ReadsAll s.heap us ps as ∧ sysModules ∉ as
  | _, _, _, _, .nil, h, r => by rw [D.pyRL] at h; cases h; cases r; exact ⟨_, .nil, by simp⟩
  | _, _, _, _, .cons (d := d) (ds := ds) q qs, h, r => by
    rw [D.pyRL] at h
    cases e1 : D.pyR d with
    | none => rw [e1] at h; cases h
    | some p =>
      cases e2 : D.pyRL ds with
      | none => rw [e1, e2] at h; cases h
      | some ps =>
        rw [e1, e2] at h; cases h
        cases r with
        | cons r1 r2 =>
          obtain ⟨as, h1, n1⟩ := Rep.rr I sd q e1 r1
          obtain ⟨bs, h2, n2⟩ := RepL.rr I sd qs e2 r2
          exact ⟨_, .cons h1 h2, fun z => (List.mem_append.mp z).elim n1 n2⟩
theorem RepK.rr (I : L2.Inv X pins σ H s) (sd : SysD s.heap) : ∀ {ds : List (Key × D)} {vs : List (Key × V)} {ps : List (PyData × PyData)} {us : List (Key × Value)} {es : List DictEntry}, RepK X.K α H ds vs → D.pyRK ds = some ps → KV vs us → Pairs (mixKind X.prog X.w) es us →
    ∃ as, ReadsAll s.heap (es.map (·.val)) (ps.map (·.2)) as ∧ sysModules ∉ as ∧ (us.map fun p => keyPy p.1) = ps.map (·.1)
  | _, _, _, _, _, .nil, h, r, hp => by rw [D.pyRK] at h; cases h; cases r; cases hp; exact ⟨_, .nil, by simp, rfl⟩
  | _, _, _, _, _, .cons (k := k) (d := d) (ds := ds) q qs, h, r, hp => by
    rw [D.pyRK] at h
    cases e1 : D.pyR d with
    | none => rw [e1] at h; cases h
    | some p =>
      cases e2 : D.pyRK ds with
      | none => rw [e1, e2] at h; cases h
      | some ps =>
        rw [e1, e2] at h; cases h
        cases r with
        | cons r1 r2 =>
          cases hp with
          | cons hk hv hp =>
            obtain ⟨as, h1, n1⟩ := Rep.rr I sd q e1 r1.2
            obtain ⟨bs, h2, n2, ek⟩ := RepK.rr I sd qs e2 r2 hp
            rw [← hv] at h1
            refine ⟨_, .cons h1 h2, fun z => (List.mem_append.mp z).elim n1 n2, ?_⟩
            show keyPy _ :: _ = keyPy k :: _
            rw [ek, ← r1.1]
end
end
/-- repr of a list or tuple -/
def gRepr : OpP := fun mem ds => match ds with
  | [x] => match D.pyR (rdC mem x) with
    | some (.list ps) => if PyData.showable (.list ps) = true ∧ (PyData.list ps).depth ≤ 100 ∧ (PyData.list ps).shown.length ≤ 1000000 then some (.str (PyData.list ps).shown) else none
    | some (.tuple ps) => if PyData.showable (.tuple ps) = true ∧ (PyData.tuple ps).depth ≤ 100 ∧ (PyData.tuple ps).shown.length ≤ 1000000 then some (.str (PyData.tuple ps).shown) else none
    | _ => none
  | _ => none
section
variable {X : Cx} {pins : List (Addr × Obj)} {σ : L2.St} {H : Hp} {s : Shared} {α : Ad}
theorem rdC_rr {mem : Mem} {d : D} {v : V} {p : PyData} {u : Value} (I : L2.Inv X pins σ H s) (sd : SysD s.heap) (hm : MemRep X.K α H mem) (hr : Rep X.K α H d v) (h : D.pyR (rdC mem d) = some p) (r : RelV v u) : ∃ as, Reads s.heap u p as ∧ sysModules ∉ as := by
  cases d with
  | ref n =>
    obtain ⟨a, rfl, ha⟩ := hr.ref_
    obtain ⟨c, hc, hc'⟩ := hm.at_ ha
    unfold rdC at h
    simp only [hc] at h
    cases c with
    | lst ds =>
      obtain ⟨xs, hx, hl⟩ := hc'
      dsimp only at h
      rw [D.pyR] at h
      cases e : D.pyRL ds with
      | none => rw [e] at h; cases h
      | some ps =>
        rw [e] at h; cases h; cases r
        obtain ⟨its, rv, ⟨o, n, ho, hc, _, hd⟩, _⟩ := I.list (SqL.of hx)
        obtain ⟨as, q, nq⟩ := RepL.rr I sd hl e rv
        exact ⟨_, .list ho hc hd q, fun z => (List.mem_cons.mp z).elim (sd.ne ho hd) nq⟩
    | dic _ => dsimp only at h; rw [D.pyR] at h <;> first | cases h | simp
  | _ => exact hr.rr I sd h r
theorem repr_go {mem : Mem} {d : D} {v : V} {p : PyData} {u : Value} {k : Nat} {Q : VK} (rm : Rm k X.A) (I : L2.Inv X pins σ H s) (sd : SysD s.heap) (hm : MemRep X.K α H mem) (hr : Rep X.K α H d v) (h : D.pyR (rdC mem d) = some p) (r : RelV v u) (hh : ∃ a, u = .ref a)
    (g : PyData.showable p = true ∧ p.depth ≤ 100 ∧ p.shown.length ≤ 1000000) (q : Q (.str p.shown) H) : wpAny (model X.prog X.w) X.A (call (.builtin "repr") [u]) (EP X pins σ Q) X.xe s := by
  obtain ⟨as, rd, ns⟩ := rdC_rr I sd hm hr h r
  obtain ⟨a, rfl⟩ := hh
  have un := rm.un
  exact repr_of_reads' rd g.1 (fun _ => ns) rm.gd (by have := g.2.1; omega) (fun _ _ e => e) (fun h' t tk kp => ⟨.str p.shown, H, I.kept (t' := tk) kp, ⟨t, rfl⟩, q⟩) (small_of g.2.2)
theorem rr_ref {s : Shared} {u : Value} {p : PyData} {as : List Addr} (r : Reads s.heap u p as) (h : (∃ ps, p = .list ps) ∨ ∃ ps, p = .tuple ps) : ∃ a, u = .ref a := by
  rcases h with ⟨ps, rfl⟩ | ⟨ps, rfl⟩ <;> cases r <;> exact ⟨_, rfl⟩
theorem call_gRepr {k : Nat} (rm : Rm k X.A) (sd : ∀ pins σ H s, L2.Inv X pins σ H s → SysD s.heap) : CallR X (.builtin "repr") (rB X.K (pu gRepr)) := callP fun pins s σ H xs us Q α mem ds z I rv hm hr hg q => by
  unfold gRepr at hg
  split at hg
  · rename_i x
    cases hr with
    | cons r1 hr =>
      cases hr
      obtain ⟨u, rfl, ru⟩ := vals1 rv
      split at hg
      · rename_i ps e
        split at hg
        · rename_i g
          cases hg
          exact repr_go rm I (sd _ _ _ _ I) hm r1 e ru (rr_ref (rdC_rr I (sd _ _ _ _ I) hm r1 e ru).choose_spec.1 (.inl ⟨_, rfl⟩)) g (q H _ (Same.refl _) (.str _))
        · cases hg
      · rename_i ps e
        split at hg
        · rename_i g
          cases hg
          exact repr_go rm I (sd _ _ _ _ I) hm r1 e ru (rr_ref (rdC_rr I (sd _ _ _ _ I) hm r1 e ru).choose_spec.1 (.inr ⟨_, rfl⟩)) g (q H _ (Same.refl _) (.str _))
        · cases hg
      · cases hg
  · cases hg
/-- in a list -/
def gInL (neg : Bool) : OpP := fun mem ds => match ds with
  | [x, y] => match D.py (rdC mem x), D.py (rdC mem y) with
    | some p, some (.list qs) => if (SeqAt.shaped p && SeqAt.shaped (.list qs)) = true then some (.bl (neg != qs.any fun z => PyData.eqv z p)) else none
    | _, _ => none
  | _ => none
theorem op_gInL (hu : X.A.units + 65 < cLine) : OpR X (compareOp .In) (rB2 X.K (pu (gInL false))) := opP fun pins s σ H x y v u Q α mem d e z I rx ry hm r1 r2 hg q => by
  dsimp only [gInL] at hg
  split at hg
  · rename_i p qs e1 e2
    split at hg
    · rename_i h
      cases hg
      rw [Bool.and_eq_true] at h
      exact op_inD hu pins s σ H x y v u Q I rx ry ⟨p, qs, rdC_dp hm r1 e1, rdC_dp hm r2 e2, h.1, h.2, q H _ (Same.refl _) (by rw [Bool.false_bne]; exact .bl _)⟩
    · cases hg
  · cases hg
theorem op_gNotInL (hu : X.A.units + 65 < cLine) : OpR X (compareOp .NotIn) (rB2 X.K (pu (gInL true))) := opP fun pins s σ H x y v u Q α mem d e z I rx ry hm r1 r2 hg q => by
  dsimp only [gInL] at hg
  split at hg
  · rename_i p qs e1 e2
    split at hg
    · rename_i h
      cases hg
      rw [Bool.and_eq_true] at h
      exact op_notInD hu pins s σ H x y v u Q I rx ry ⟨p, qs, rdC_dp hm r1 e1, rdC_dp hm r2 e2, h.1, h.2, q H _ (Same.refl _) (by rw [Bool.true_bne]; exact .bl _)⟩
    · cases hg
  · cases hg
end
end Mx

/-! M13: what the written part says of classes, asked by one run of the kernel. -/
namespace Mx
open PySem PySem.W
def eqB {α : Type} [DecidableEq α] (a b : α) : Bool := decide (a = b)
theorem of_eqB {α : Type} [DecidableEq α] {a b : α} (h : eqB a b = true) : a = b := of_decide_eq_true h
/-- a class of exceptions at C, its mro l -/
def xcB (K : Frag) (C : Addr) (l : List Value) : Bool :=
  eqB (findIn K (.ref C) "__getattribute__") (some (some (.builtin "BaseException.__getattribute__"))) && (eqB (findIn K (.ref C) "__getattr__") (some none) && (eqB (subIn K (.ref C) (.type "BaseException")) (some true) &&
  (hasDictIn K C && (eqB (findIn K (.ref C) "__class__") (some (some (.builtin "object.__class__"))) && (eqB (specialIn K (.builtin "object.__class__") "__get__") (some (some (.builtin "getset_descriptor.__get__"))) &&
  (eqB (takesIn K (.builtin "object.__class__")) (some true) && (eqB (mroIn K C (.type "object")) (some true) && (eqB (typeIn K (.ref C)) (some (.type "type")) && (l.contains (.ref C) && match clsIn K C with
    | some cd => eqB cd.mro l
    | none => false)))))))))
structure Xc (K : Frag) (C : Addr) (l : List Value) : Prop where
  ex : L2.ExcC K C
  ty : typeIn K (.ref C) = some (.type "type")
  me : l.contains (.ref C) = true
  mro : ∃ cd, clsIn K C = some cd ∧ cd.mro = l
theorem xcB_ok {K : Frag} {C : Addr} {l : List Value} (h : xcB K C l = true) : Xc K C l := by
  unfold xcB at h
  simp only [Bool.and_eq_true] at h
  obtain ⟨h1, h2, h3, h4, h5, h6, h7, h8, h9, h10, h11⟩ := h
  refine ⟨⟨of_eqB h1, of_eqB h2, of_eqB h3, h4, of_eqB h5, of_eqB h6, of_eqB h7, of_eqB h8⟩, of_eqB h9, h10, ?_⟩
  cases e : clsIn K C with
  | none => rw [e] at h11; cases h11
  | some cd => rw [e] at h11; exact ⟨cd, rfl, of_eqB h11⟩
def tabOf (ms : List (Addr × List Value)) (ts : List String) (C : Addr) (c : L2.V) : Option Bool := match ms.lookup C with
  | none => none
  | some l => match c with
    | .ref A => if (ms.lookup A).isSome = true then some (l.contains (.ref A)) else none
    | .ty n => if ts.contains n = true then some (l.contains (.type n)) else none
    | _ => none
theorem mem_of_lookup {β : Type} : ∀ {ms : List (Addr × β)} {a : Addr} {l : β}, ms.lookup a = some l → (a, l) ∈ ms
  | [], _, _, h => by cases h
  | (b, y) :: ms, a, l, h => by
    rw [List.lookup_cons] at h
    by_cases e : (a == b) = true
    · rw [e] at h
      cases h
      rw [beq_iff_eq.mp e]
      exact List.mem_cons_self
    · rw [Bool.not_eq_true _ |>.mp e] at h
      exact List.mem_cons_of_mem _ (mem_of_lookup h)
theorem isTab_of {K : Frag} {ms : List (Addr × List Value)} {ts : List String} (h : (ms.all fun p => xcB K p.1 p.2) = true) (ht : ts.all kitMeta = true) : IsTab K (tabOf ms ts) := by
  intro C c b e
  unfold tabOf at e
  cases el : ms.lookup C with
  | none => rw [el] at e; cases e
  | some l =>
    rw [el] at e
    dsimp only at e
    have X := xcB_ok (List.all_eq_true.mp h _ (mem_of_lookup el))
    obtain ⟨cd, hc, hm⟩ := X.mro
    have ne : cd.mro.isEmpty = false := by
      rw [hm]
      cases l with
      | nil => exact absurd X.me (by simp)
      | cons _ _ => rfl
    have sub : ∀ v : Value, subIn K (.ref C) v = some (l.contains v) := fun v => by
      show mroIn K C v = _
      unfold mroIn
      rw [hc, Option.bind_some, ne, hm]
      rfl
    refine ⟨X.ex, ?_⟩
    cases c with
    | ref A =>
      dsimp only at e
      split at e
      · rename_i hA
        cases e
        obtain ⟨lA, hA⟩ := Option.isSome_iff_exists.mp hA
        have XA := xcB_ok (List.all_eq_true.mp h _ (mem_of_lookup hA))
        obtain ⟨cA, hcA, _⟩ := XA.mro
        refine ⟨.ref A, .own A, ?_⟩
        unfold kitOne kitCls
        by_cases eq : (Value.ref C == Value.ref A) = true
        · rw [if_pos eq, ← beq_iff_eq.mp eq, X.me]
        · rw [if_neg eq]
          dsimp only
          rw [if_pos (by rw [hcA, XA.ty]; rfl)]
          exact sub _
      · cases e
    | ty n =>
      dsimp only at e
      split at e
      · rename_i hn
        cases e
        refine ⟨.type n, .ty n, ?_⟩
        have km : kitMeta n = true := List.all_eq_true.mp ht n (by simpa using hn)
        unfold kitOne kitCls
        rw [if_neg (by exact Bool.false_ne_true)]
        dsimp only
        rw [if_pos km]
        exact sub _
      · cases e
    | _ => cases e
def strB (K : Frag) (C : Addr) : Bool := eqB (findIn K (.ref C) "__str__") (some (some (.builtin "BaseException.__str__"))) && eqB (subIn K (.ref C) (.type "BaseException")) (some true)
theorem strTab_of {K : Frag} {cs : List Addr} (h : (cs.all fun C => strB K C) = true) : StrTab K (fun C => cs.contains C) := fun C e => by
  have z := List.all_eq_true.mp h C (by simpa using e)
  unfold strB at z
  rw [Bool.and_eq_true] at z
  exact ⟨of_eqB z.1, of_eqB z.2⟩
theorem atTab_of {K : Frag} {f : Str} {cs : List Addr} (h : (cs.all fun C => L2.xfB K C && eqB (findIn K (.ref C) f) (some none)) = true) : AtTab K f (fun C => cs.contains C) := fun C e => by
  have z := List.all_eq_true.mp h C (by simpa using e)
  rw [Bool.and_eq_true] at z
  exact ⟨L2.xfB_ok z.1, of_eqB z.2⟩
/-- the plain facts of Xi -/
def xiB (prog : Program) (K : Frag) (fld : Str) (C fI : Addr) (B initId : String) : Bool :=
  eqB (findIn K (.ref C) "__setattr__") (some (some (.builtin "object.__setattr__"))) && (eqB (findIn K (.ref C) "__getattribute__") (some (some (.builtin "BaseException.__getattribute__"))) && (eqB (findIn K (.ref C) "__getattr__") (some none) && (eqB (findIn K (.ref C) fld) (some none) &&
  (eqB (findIn K (.ref C) "__init__") (some (some (.ref fI))) && (eqB (typeIn K (.ref fI)) (some (.type "function")) && (keepIn K (.ref C) && (eqB (subIn K (.ref C) (.type "BaseException")) (some true) && (eqB (typeIn K (.ref C)) (some (.type "type")) && (hasDictIn K C &&
  (eqB (subIn K (.ref C) (.type B)) (some true) && (eqB (mroIn K C (.ref C)) (some true) && (eqB (ks_superIn K C C "__init__") (some (some (.builtin initId))) && (eqB (nsIn K cStatics "thirdparty.any") (some none) && !(prog.main.scope.names.lookup ("super" : Str)).isSome)))))))))))))
theorem xi_of {prog : Program} {K : Frag} {h : Heap} {mg : Str → Option Value} {st : Stmt} {cn qual fld : Str} {C fI : Addr} {B newId initId : String} {bm : List Value} (bas : Bas B newId initId bm) (gC : mg cn = some (.ref C)) (iC : findIn K (.ref C) "__init__" = some (some (.ref fI))) (z : xiB prog K fld C fI B initId = true)
    {nm q : Str} {N : Addr} {bs : List Value} {sn : List Str} {sub : List Value} {ab : Bool} {col : Option Bool} {dd : Option Addr} {k0 k1 k2 k3 k5 : Option Value} (hC : K.lookup C = some (excClassObj nm q C N bs bm true sn sub ab col dd k0 k1 k2 k3 k5 newId))
    {oc doc pm ct cl ccl : Value} {od an cld cdd : Option Addr} {cda cc : Addr} {osl csl ccs : Array (Option Value)} {vs : Array Value} {file : Str} {tf : Tok}
    (lf : K.lookup fI = some ⟨oc, od, .func (ksFn "__init__" qual (L2.defArgs st) (L2.defBody st) (L2.defScope st) .none .none doc pm an (.ref cda) ct cc), osl⟩) (code : codeIn K (.ref cda) qual = true)
    (lc : K.lookup cc = some ⟨cl, cld, .cell (some (.ref C)), csl⟩) (ld : K.lookup cda = some ⟨ccl, cdd, .fields vs, ccs⟩) (hf : vs[2]? = some (.str file tf)) (same : ((prog.main.file : Str) == file) = true) : Xi prog K mg st cn qual fld C fI B newId initId bm := by
  unfold xiB at z
  simp only [Bool.and_eq_true, Bool.not_eq_true'] at z
  obtain ⟨z1, z2, z3, z4, z5, z6, z7, z8, z9, z10, z11, z12, z13, z14, z15⟩ := z
  exact ⟨bas, gC, ⟨_, _, _, _, _, _, _, _, _, _, _, _, _, _, hC⟩, of_eqB z1, of_eqB z2, of_eqB z3, of_eqB z4, of_eqB z5, of_eqB z6, z7, of_eqB z8, of_eqB z9, z10, of_eqB z11, of_eqB z12, of_eqB z13, of_eqB z14,
    ⟨_, _, _, _, _, _, _, _, _, _, _, _, _, _, _, _, _, _, lf, code, lc, ld, hf, same⟩, z15⟩
section
open L2
variable {X : Cx} {W : WX} {pos : Pos}
theorem me_cls {x : Str} {C : Addr} (hg : Gl X x) (hm : X.mg x = some (.ref C)) (hd : (x == ("__debug__" : Str)) = false := by decide) : ME X W (.Name x pos) (eC (.con (.ref C))) :=
  me_c (v := .ref C) (pe_glob (v := .ref C) hg hm rfl hd) fun _ _ => .con _
/-- an empty dict that stays as it is -/
def eDic0 : E1 := fun _ mem => .ok (.dic []) mem
theorem me_dic0 : ME X W (.Dict [] [] pos) eDic0 := ⟨PE.imp pe_dnewK fun σ H Q q => by
  obtain ⟨α, loc, mem, hm, hl, hp⟩ := q
  intro p np
  have sm := same_new (o := .dK []) np
  exact hp α _ _ (Lt.same sm) (hm.same sm) (.dic (hm.fresh np) upd_same .nil)⟩
theorem me_mkFx {st : Stmt} {cn qual fld : Str} {C : Addr} {B newId initId : String} {bm : List Value} {a : Expr} {ml : EL} {p : Pos} {k : Nat} (T : ∃ fI, Xi X.prog X.K X.mg st cn qual fld C fI B newId initId bm) (S : XiT st fld) (nosup : X.mg "super" = none) (rm : Rm k X.A) (ha : ML X W [a] ml) (hg : Gl X cn)
    (hdb : (cn == ("__debug__" : Str)) = false := by decide) (he : starEach [a] X.env = (false, eval a X.env) :: starEach [] X.env := by rfl) (hpl : (backTo pos (starEach [] X.env)).any (·.1) = false := by rfl) : ME X W (.Call (.Name cn p) [a] [] pos) (eMkF C fld ml) :=
  let ⟨_, t⟩ := T
  me_mkF t S nosup rm ha hg hdb he hpl
theorem Rm.u65 {k : Nat} {A : Around} (r : Rm k A) : A.units + 65 < cLine := by
  have := r.un
  omega
end
end Mx

/-! M14: the dice, in plain Lean. -/
namespace Mx
open PySem L2
theorem bits_le {i : Int} {k : Nat} (h : i.natAbs < 2 ^ k) : Builtin.Int.intBits i ≤ k := by
  unfold Builtin.Int.intBits
  split
  · exact Nat.zero_le _
  · rename_i ne
    have n0 : i.natAbs ≠ 0 := fun e => ne (by simp [Int.natAbs_eq_zero.mp e])
    exact (Nat.log2_lt n0).mpr h
theorem pow_ok {mem : Mem} {i : Int} {e : Nat} (k : Nat) (h : i.natAbs < 2 ^ k) (hk : k * e ≤ 2 ^ 27) : gPow mem [.int i, .int (e : Nat)] = some (.int (i ^ e)) := by
  have b := bits_le h
  have c : Builtin.Int.intBits i * e ≤ 2 ^ 27 := Nat.le_trans (Nat.mul_le_mul_right e b) hk
  have c' : ((Builtin.Int.intBits i : Nat) : Int) * (e : Nat) ≤ 2 ^ 27 := by exact_mod_cast c
  unfold gPow gI
  dsimp only
  rw [if_pos (decide_eq_true ⟨Int.natCast_nonneg _, c'⟩)]
  rfl
theorem mod_ok {mem : Mem} {i j : Int} (h : 0 < j) : gMod mem [.int i, .int j] = some (.int (i % j)) := by
  unfold gMod gI
  dsimp only
  rw [if_pos (decide_eq_true h)]
theorem log_lt {n k : Nat} (h : n < k) : n.log2 < k := Nat.lt_of_le_of_lt (Nat.log2_le_self n) h
theorem div_ok {mem : Mem} {i j : Int} (h : 0 < j) (hj : j < 9000) : gDiv mem [.int i, .int j] = some (.int (i / j)) := by
  unfold gDiv gI
  dsimp only
  rw [if_pos (decide_eq_true ⟨h, log_lt (by omega)⟩)]
theorem mul_ok {mem : Mem} {i j : Int} (hi : i.natAbs.log2 < 1000) (hj : j.natAbs < 990000) : gMul mem [.int i, .int j] = some (.int (i * j)) := by
  have := log_lt hj
  show (if i.natAbs.log2 + j.natAbs.log2 < 1000000 then some (D.int (i * j)) else none) = _
  rw [if_pos (by omega)]
theorem add_ok {mem : Mem} {i j : Int} : gAdd mem [.int i, .int j] = some (.int (i + j)) := rfl
theorem gt_ok {mem : Mem} {i j : Int} : gGt mem [.int i, .int j] = some (.bl (decide (j < i))) := rfl
/-! running mirrors by hand -/
theorem e2_of {g : OpP} {a b : E1} {loc : Mx.Env} {mem m1 m2 : Mem} {x y z : D} (ha : a loc mem = .ok x m1) (hb : b loc m1 = .ok y m2) (hg : g m2 [x, y] = some z) : e2 (pu g) a b loc mem = .ok z m2 := by
  unfold e2
  rw [ha]
  show (b loc m1).bind _ = _
  rw [hb]
  show ofP (pu g m2 [x, y]) = _
  unfold pu
  rw [hg]
  rfl
theorem var_of {loc : Mx.Env} {mem : Mem} {i : Nat} {d : D} (h : loc[i]? = some (some d)) : eVar i loc mem = .ok d mem := by
  unfold eVar
  rw [h]
theorem set_of {e : E1} {i : Nat} {loc : Mx.Env} {mem m1 : Mem} {d : D} (h : e loc mem = .ok d m1) : sSet i e loc mem = .nx (loc.set i (some d)) m1 := by
  unfold sSet
  rw [h]
  rfl
theorem ret_of {e : E1} {loc : Mx.Env} {mem m1 : Mem} {d : D} (h : e loc mem = .ok d m1) : sRet e loc mem = .rt d m1 := by
  unfold sRet
  rw [h]
  rfl
theorem seq_of {a b : S1} {loc l1 : Mx.Env} {mem m1 : Mem} (h : a loc mem = .nx l1 m1) : sSeq a b loc mem = b l1 m1 := by
  unfold sSeq
  rw [h]
theorem seq_rt {a b : S1} {loc : Mx.Env} {mem m1 : Mem} {d : D} (h : a loc mem = .rt d m1) : sSeq a b loc mem = .rt d m1 := by
  unfold sSeq
  rw [h]
theorem if_of {c : EB} {a b : S1} {loc : Mx.Env} {mem m1 : Mem} {t : Bool} (h : c loc mem = .ok t m1) : sIf c a b loc mem = if t = true then a loc m1 else b loc m1 := by
  unfold sIf
  rw [h]
  rfl
theorem bE_of {a : E1} {loc : Mx.Env} {mem m1 : Mem} {t : Bool} (h : a loc mem = .ok (.bl t) m1) : bE a loc mem = .ok t m1 := by
  unfold bE
  rw [h]
  rfl
theorem put_of {o i e : E1} {loc : Mx.Env} {mem m1 m2 m3 m4 : Mem} {v ov iv : D} (h1 : e loc mem = .ok v m1) (h2 : o loc m1 = .ok ov m2) (h3 : i loc m2 = .ok iv m3) (h4 : putIx m3 ov iv v = some m4) : sPut o i e loc mem = .nx loc m4 := by
  unfold sPut
  rw [h1]
  show (o loc m1).thenS loc _ = _
  rw [h2]
  show (i loc m2).thenS loc _ = _
  rw [h3]
  show (match putIx m3 ov iv v with | some m4 => RS.nx loc m4 | none => RS.bad) = _
  rw [h4]
theorem one_of {g : OpP} {a : E1} {loc : Mx.Env} {mem m1 : Mem} {x z : D} (h : a loc mem = .ok x m1) (hg : g m1 [x] = some z) : eN (pu g) (lCons a lNil) loc mem = .ok z m1 := by
  unfold eN lCons lNil
  rw [h]
  show ofP (pu g m1 [x]) = _
  unfold pu
  rw [hg]
  rfl
theorem run_rt {n : Nat} {m : S1} {ds : List D} {mem m1 : Mem} {d : D} (h : m (startL n ds) mem = .rt d m1) : runB n m ds mem = .ok d m1 := by
  unfold runB
  rw [h]
/-! the dice -/
def mRoll : S1 := sSeq (sIf (bE (e2 (pu gGt) (e2 (pu gIx) (eVar 0) (eC (.int 0))) (eC (.int 0)))) (sSeq (sSet 2 (e2 (pu gMod) (e2 (pu gIx) (eVar 0) (eC (.int 0))) (eVar 1))) (sSeq (sPut (eVar 0) (eC (.int 0)) (e2 (pu gDiv) (e2 (pu gIx) (eVar 0) (eC (.int 0))) (eVar 1))) (sRet (eVar 2)))) (sNil)) (sSeq (sPut (eVar 0) (eC (.int 2)) (e2 (pu gAdd) (e2 (pu gIx) (eVar 0) (eC (.int 2))) (eC (.int 1)))) (sSeq (sSet 3 (e2 (pu gMod) (e2 (pu gPow) (e2 (pu gAdd) (e2 (pu gIx) (eVar 0) (eC (.int 1))) (e2 (pu gMul) (eC (.int 15485867)) (e2 (pu gIx) (eVar 0) (eC (.int 2))))) (eC (.int 3))) (eC (.int 2305843009213693951)))) (sSeq (sSet 4 (e2 (pu gMod) (e2 (pu gPow) (e2 (pu gAdd) (e2 (pu gAdd) (eVar 3) (e2 (pu gMod) (e2 (pu gIx) (eVar 0) (eC (.int 1))) (eC (.int 1000081)))) (e2 (pu gMul) (eC (.int 41)) (e2 (pu gIx) (eVar 0) (eC (.int 2))))) (eC (.int 5))) (eC (.int 2305843009213693907)))) (sRet (e2 (pu gMod) (e2 (pu gDiv) (eVar 4) (eC (.int 8192))) (eVar 1))))))
def fRoll : Fn := runB 5 mRoll
/-- a cell that holds dice, N rolls at most behind it -/
def dcell (g s c : Int) : Cell := .lst [.int g, .int s, .int c]
structure Dc (N : Nat) (g s c : Int) : Prop where
  g0 : 0 ≤ g
  s0 : 0 ≤ s
  s1 : s < 2305843009213693921
  c0 : 0 ≤ c
  c1 : c ≤ N
theorem dix {mem : Mem} {n : Nat} {g s c : Int} (h : mem[n]? = some (dcell g s c)) : gIx mem [.ref n, .int 0] = some (.int g) ∧ gIx mem [.ref n, .int 1] = some (.int s) ∧ gIx mem [.ref n, .int 2] = some (.int c) := by
  unfold dcell at h
  refine ⟨?_, ?_, ?_⟩ <;> (simp only [gIx, seqOf, listOf, h]; rfl)
theorem dput {mem : Mem} {n : Nat} {g s c : Int} (h : mem[n]? = some (dcell g s c)) (v : Int) : putIx mem (.ref n) (.int 0) (.int v) = some (mem.set n (dcell v s c)) ∧ putIx mem (.ref n) (.int 2) (.int v) = some (mem.set n (dcell g s v)) := by
  unfold dcell at h ⊢
  refine ⟨?_, ?_⟩ <;> (simp only [putIx, h]; rfl)
theorem get_set {mem : Mem} {n : Nat} {c d : Cell} (h : mem[n]? = some c) : (mem.set n d)[n]? = some d := by
  rw [List.getElem?_set_self (List.getElem?_eq_some_iff.mp h).1]
theorem roll_ok {N n : Nat} {g s c t : Int} {mem : Mem} (h : mem[n]? = some (dcell g s c)) (d : Dc N g s c) (hN : N < 900000) (t0 : 0 < t) (t1 : t < 9000) :
    ∃ r g' c', fRoll [.ref n, .int t] mem = .ok (.int r) (mem.set n (dcell g' s c')) ∧ 0 ≤ r ∧ r < t ∧ Dc (N + 1) g' s c' := by
  obtain ⟨i0, i1, i2⟩ := dix h
  have lv0 : ∀ {m : Mem} {l : List (Option D)}, eVar 0 (some (.ref n) :: l) m = .ok (.ref n) m := fun {m l} => rfl
  have ix0 := e2_of (loc := [some (.ref n), some (.int t), none, none, none]) (mem := mem) (a := eVar 0) (b := eC (.int 0)) rfl rfl i0
  suffices ∃ r g' c', mRoll [some (.ref n), some (.int t), none, none, none] mem = .rt (.int r) (mem.set n (dcell g' s c')) ∧ 0 ≤ r ∧ r < t ∧ Dc (N + 1) g' s c' by
    obtain ⟨r, g', c', h1, h2⟩ := this
    exact ⟨r, g', c', run_rt h1, h2⟩
  have test := bE_of (e2_of (b := eC (.int 0)) ix0 rfl (gt_ok (j := 0)))
  unfold mRoll
  by_cases hg : 0 < g
  · refine ⟨g % t, g / t, c, ?_, Int.emod_nonneg _ (by omega), Int.emod_lt_of_pos _ t0, Int.ediv_nonneg d.g0 (by omega), d.s0, d.s1, d.c0, by have := d.c1; push_cast; omega⟩
    rw [seq_rt (d := .int (g % t)) (m1 := mem.set n (dcell (g / t) s c))]
    rw [if_of test, if_pos (decide_eq_true hg)]
    rw [seq_of (set_of (e2_of (b := eVar 1) ix0 rfl (mod_ok t0)))]
    rw [seq_of (put_of (e2_of (b := eVar 1) (e2_of (a := eVar 0) (b := eC (.int 0)) rfl rfl i0) rfl (div_ok t0 t1)) rfl rfl (dput h _).1)]
    exact ret_of rfl
  · have h2 := get_set (d := dcell g s (c + 1)) h
    obtain ⟨j0, j1, j2⟩ := dix h2
    have c1 := d.c1
    have c0 := d.c0
    have s0 := d.s0
    have s1 := d.s1
    have cb : c + 1 ≤ 900000 := by omega
    have m1 : ((15485867 : Int)).natAbs.log2 < 1000 := by decide
    have m2 : ((41 : Int)).natAbs.log2 < 1000 := by decide
    have cn : (c + 1).natAbs < 990000 := by omega
    have p1 : (s + 15485867 * (c + 1)).natAbs < 2 ^ 70 := by omega
    have o0 : 0 ≤ (s + 15485867 * (c + 1)) ^ 3 % 2305843009213693951 := Int.emod_nonneg _ (by decide)
    have o1 : (s + 15485867 * (c + 1)) ^ 3 % 2305843009213693951 < 2305843009213693951 := Int.emod_lt_of_pos _ (by decide)
    have q0 : 0 ≤ s % 1000081 := Int.emod_nonneg _ (by decide)
    have q1 : s % 1000081 < 1000081 := Int.emod_lt_of_pos _ (by decide)
    generalize hone : (s + 15485867 * (c + 1)) ^ 3 % 2305843009213693951 = one at o0 o1
    have p2 : (one + s % 1000081 + 41 * (c + 1)).natAbs < 2 ^ 70 := by omega
    refine ⟨(one + s % 1000081 + 41 * (c + 1)) ^ 5 % 2305843009213693907 / 8192 % t, g, c + 1, ?_, Int.emod_nonneg _ (by omega), Int.emod_lt_of_pos _ t0, d.g0, d.s0, d.s1, by omega, by push_cast; omega⟩
    rw [seq_of (l1 := [some (.ref n), some (.int t), none, none, none]) (m1 := mem)]
    · rw [seq_of (put_of (e2_of (b := eC (.int 1)) (e2_of (a := eVar 0) (b := eC (.int 2)) rfl rfl i2) rfl add_ok) rfl rfl (dput h _).2)]
      rw [seq_of (set_of (e2_of (b := eC (.int 2305843009213693951)) (e2_of (b := eC (.int 3)) (e2_of (e2_of (a := eVar 0) (b := eC (.int 1)) rfl rfl j1) (e2_of (a := eC (.int 15485867)) rfl (e2_of (a := eVar 0) (b := eC (.int 2)) rfl rfl j2) (mul_ok m1 cn)) add_ok) rfl (pow_ok 70 p1 (by decide))) rfl (mod_ok (by decide))))]
      rw [hone]
      rw [seq_of (set_of (e2_of (b := eC (.int 2305843009213693907)) (e2_of (b := eC (.int 5)) (e2_of (e2_of (a := eVar 3) rfl (e2_of (b := eC (.int 1000081)) (e2_of (a := eVar 0) (b := eC (.int 1)) rfl rfl j1) rfl (mod_ok (by decide))) add_ok) (e2_of (a := eC (.int 41)) rfl (e2_of (a := eVar 0) (b := eC (.int 2)) rfl rfl j2) (mul_ok m2 cn)) add_ok) rfl (pow_ok 70 p2 (by decide))) rfl (mod_ok (by decide))))]
      rw [ret_of (e2_of (b := eVar 1) (e2_of (a := eVar 4) (b := eC (.int 8192)) rfl rfl (div_ok (by decide) (by decide))) rfl (mod_ok t0))]
    · rw [if_of test, if_neg (by simpa using hg)]
      rfl
end Mx

/-! M15: more of the dice. -/
namespace Mx
open PySem L2
theorem atI_nat {α : Type} (xs : List α) (k : Nat) : atI xs (k : Int) = xs[k]? := by
  unfold atI ixN
  rw [if_pos (Int.natCast_nonneg k)]
  by_cases h : k < xs.length
  · rw [if_pos (by exact_mod_cast h)]
    simp
  · rw [if_neg (by exact_mod_cast h)]
    simp [List.getElem?_eq_none (Nat.le_of_not_lt h)]
theorem atI_in {α : Type} {xs : List α} {r : Int} (h0 : 0 ≤ r) (h1 : r < xs.length) : ∃ x, xs[r.toNat]? = some x ∧ atI xs r = some x ∧ x ∈ xs := by
  obtain ⟨k, rfl⟩ : ∃ k : Nat, r = k := ⟨r.toNat, (Int.toNat_of_nonneg h0).symm⟩
  have hk : k < xs.length := by exact_mod_cast h1
  refine ⟨xs[k], ?_, ?_, List.getElem_mem hk⟩
  · rw [Int.toNat_natCast]
    exact List.getElem?_eq_getElem hk
  · rw [atI_nat]
    exact List.getElem?_eq_getElem hk
def mOneOf : S1 := sRet (e2 (pu gIx) (eVar 1) (eCall fRoll (lCons (eVar 0) (lCons (eN (pu gLen) (lCons (eVar 1) (lNil))) (lNil)))))
def fOneOf : Fn := runB 2 mOneOf
theorem call2_of {F : Fn} {a b : E1} {loc : Mx.Env} {mem m1 m2 : Mem} {x y : D} (ha : a loc mem = .ok x m1) (hb : b loc m1 = .ok y m2) : eCall F (lCons a (lCons b lNil)) loc mem = F [x, y] m2 := by
  simp only [eCall, lCons, lNil, ha, hb, Res.bind]
theorem oneOf_ok {N n : Nat} {g s c : Int} {mem : Mem} {ds : List D} (h : mem[n]? = some (dcell g s c)) (d : Dc N g s c) (hN : N < 900000) (l0 : 0 < ds.length) (l1 : ds.length < 9000) :
    ∃ x g' c', fOneOf [.ref n, .lst ds] mem = .ok x (mem.set n (dcell g' s c')) ∧ x ∈ ds ∧ Dc (N + 1) g' s c' := by
  obtain ⟨r, g', c', hr, r0, r1, d'⟩ := roll_ok h d hN (t := (ds.length : Int)) (by omega) (by omega)
  obtain ⟨x, _, hx, mx⟩ := atI_in (xs := ds) r0 (by exact_mod_cast r1)
  refine ⟨x, g', c', run_rt (ret_of (e2_of (x := .lst ds) (y := .int r) (m1 := mem) rfl ?_ ?_)), mx, d'⟩
  · rw [call2_of (x := .ref n) (y := .int ds.length) (m1 := mem) (m2 := mem) rfl (one_of (x := .lst ds) rfl rfl)]
    exact hr
  · exact hx
/-! the making of dice -/
theorem mul_okg {mem : Mem} {i j : Int} (h : i.natAbs.log2 + j.natAbs.log2 < 1000000) : gMul mem [.int i, .int j] = some (.int (i * j)) := by
  show (if i.natAbs.log2 + j.natAbs.log2 < 1000000 then some (D.int (i * j)) else none) = _
  rw [if_pos h]
theorem log2_le {n k : Nat} (h : n < 2 ^ k) : n.log2 ≤ k := by
  by_cases e : n = 0
  · subst e
    exact Nat.zero_le _
  · exact Nat.le_of_lt ((Nat.log2_lt e).mpr h)
theorem div_okg {mem : Mem} {i j : Int} (h : 0 < j ∧ j.natAbs.log2 < 9000) : gDiv mem [.int i, .int j] = some (.int (i / j)) := by
  unfold gDiv gI
  dsimp only
  rw [if_pos (decide_eq_true h)]
def mDice : S1 := sSeq (sSet 2 (eIf (bE (e2 (pu gLt) (eVar 1) (eN (pu gLen) (lCons (eVar 0) (lNil))))) (e2 (pu gIx) (eVar 0) (eVar 1)) (e2 (pu gAdd) (e2 (pu gMul) (eC (.int 13)) (eVar 1)) (eC (.int 5))))) (sSeq (sSet 3 (e2 (pu gMod) (eN (pu gAbs) (lCons (eVar 2) (lNil))) (e2 (pu gPow) (e2 (pu gPow) (eC (.int 10)) (eC (.int 60))) (eC (.int 13))))) (sSeq (sSet 4 (e2 (pu gAdd) (e2 (pu gAdd) (e2 (pu gAdd) (e2 (pu gMod) (eVar 3) (eC (.int 2305843009213693907))) (e2 (pu gMul) (eC (.int 8191)) (eVar 1))) (e2 (pu gMul) (eC (.int 5)) (eN (pu gInt1) (lCons (e2 (pu gLt) (eVar 2) (eC (.int 0))) (lNil))))) (eC (.int 29)))) (sSeq (sFor (.t [.n 5, .n 6]) (wEnum (lCons (eVar 0) (lNil))) (sIf (bE (e2 (pu (gEq true)) (eVar 5) (eVar 1))) (sSet 4 (e2 (pu gMod) (e2 (pu gAdd) (e2 (pu gAdd) (e2 (pu gMul) (eC (.int 1000033)) (eVar 4)) (eVar 6)) (eVar 5)) (eC (.int 2305843009213693907)))) (sNil))) (sSeq (sSet 4 (e2 (pu gMod) (e2 (pu gPow) (eVar 4) (eC (.int 3))) (eC (.int 2305843009213693921)))) (sRet (eLstC (lCons (e2 (pu gMul) (e2 (pu gDiv) (eVar 3) (e2 (pu gPow) (eC (.int 10)) (eC (.int 18)))) (eN (pu gInt1) (lCons (e2 (pu gGe) (eVar 3) (e2 (pu gPow) (eC (.int 10)) (eC (.int 18)))) (lNil)))) (lCons (eVar 4) (lCons (eC (.int 0)) (lNil))))))))))
def fDice : Fn := runB 7 mDice
abbrev bDice : S1 := sIf (bE (e2 (pu (gEq true)) (eVar 5) (eVar 1))) (sSet 4 (e2 (pu gMod) (e2 (pu gAdd) (e2 (pu gAdd) (e2 (pu gMul) (eC (.int 1000033)) (eVar 4)) (eVar 6)) (eVar 5)) (eC (.int 2305843009213693907)))) (sNil)
theorem ne_ints {mem : Mem} {i j : Int} : ∃ b, gEq true mem [.int i, .int j] = some (.bl b) := ⟨_, rfl⟩
theorem dice_turn {sc c0 c1 c2 : D} {mem : Mem} {p a v seed : Int} {o5 o6 : Option D} (hs : seed.natAbs < 2 ^ 64) :
    ∃ seed', bDice [some sc, some (.int a), some c0, some c1, some (.int seed), some (.int p), some (.int v)] mem = .nx [some sc, some (.int a), some c0, some c1, some (.int seed'), some (.int p), some (.int v)] mem ∧ seed'.natAbs < 2 ^ 64 := by
  obtain ⟨b, hb⟩ := ne_ints (mem := mem) (i := p) (j := a)
  have test := bE_of (e2_of (loc := [some sc, some (.int a), some c0, some c1, some (.int seed), some (.int p), some (.int v)]) (mem := mem) (a := eVar 5) (b := eVar 1) rfl rfl hb)
  cases b with
  | false => exact ⟨seed, by rw [bDice, if_of test]; rfl, hs⟩
  | true =>
    have m0 : 0 ≤ (1000033 * seed + v + p) % 2305843009213693907 := Int.emod_nonneg _ (by decide)
    have m1 : (1000033 * seed + v + p) % 2305843009213693907 < 2305843009213693907 := Int.emod_lt_of_pos _ (by decide)
    refine ⟨(1000033 * seed + v + p) % 2305843009213693907, ?_, by omega⟩
    rw [bDice, if_of test, if_pos rfl]
    have lg : ((1000033 : Int)).natAbs.log2 + seed.natAbs.log2 < 1000000 := by
      have h1 : ((1000033 : Int)).natAbs.log2 < 100 := by decide
      have h2 := log2_le hs
      omega
    exact set_of (e2_of (b := eC (.int 2305843009213693907)) (e2_of (b := eVar 5) (e2_of (b := eVar 6) (e2_of (a := eC (.int 1000033)) (b := eVar 4) rfl rfl (mul_okg lg)) rfl add_ok) rfl add_ok) rfl (mod_ok (by decide)))
theorem dice_loop {sc c0 c1 : D} {mem : Mem} {a : Int} : ∀ (ns : List Int) (k : Nat) (seed : Int) (o5 o6 : Option D), seed.natAbs < 2 ^ 64 →
    ∃ seed' o5' o6', loop (.t [.n 5, .n 6]) bDice (fun _ => true) (enumD k (ns.map .int)) [some sc, some (.int a), some c0, some c1, some (.int seed), o5, o6] mem = .nx [some sc, some (.int a), some c0, some c1, some (.int seed'), o5', o6'] mem ∧ seed'.natAbs < 2 ^ 64
  | [], k, seed, o5, o6, hs => ⟨seed, o5, o6, rfl, hs⟩
  | v :: ns, k, seed, o5, o6, hs => by
    obtain ⟨s1, h1, b1⟩ := dice_turn (sc := sc) (c0 := c0) (c1 := c1) (mem := mem) (p := k) (a := a) (v := v) (c2 := .non) (o5 := none) (o6 := none) hs
    obtain ⟨s2, p5, p6, h2, b2⟩ := dice_loop (mem := mem) ns (k + 1) s1 (some (.int k)) (some (.int v)) b1
    refine ⟨s2, p5, p6, ?_, b2⟩
    rw [List.map_cons, enumD, loop, if_pos rfl]
    show (match bDice [some sc, some (.int a), some c0, some c1, some (.int seed), some (.int k), some (.int v)] mem with
      | .nx l m => loop (.t [.n 5, .n 6]) bDice (fun _ => true) (enumD (k + 1) (ns.map .int)) l m
      | .ct l m => loop (.t [.n 5, .n 6]) bDice (fun _ => true) (enumD (k + 1) (ns.map .int)) l m
      | .bk l m => .nx l m
      | r => r) = _
    rw [h1]
    exact h2
theorem eIf_of {c : EB} {a b : E1} {loc : Mx.Env} {mem m1 : Mem} {t : Bool} (h : c loc mem = .ok t m1) : eIf c a b loc mem = if t = true then a loc m1 else b loc m1 := by
  unfold eIf
  rw [h]
  rfl
theorem for_of {g : Tg} {i : EW} {body : S1} {loc : Mx.Env} {mem m1 : Mem} {wk : Wk} (h : i loc mem = .ok wk m1) : sFor g i body loc mem = loop g body wk.guard wk.items loc m1 := by
  unfold sFor
  rw [h]
  rfl
theorem lst3_of {a b c : E1} {loc : Mx.Env} {mem m1 m2 m3 : Mem} {x y z : D} (ha : a loc mem = .ok x m1) (hb : b loc m1 = .ok y m2) (hc : c loc m2 = .ok z m3) : eLstC (lCons a (lCons b (lCons c lNil))) loc mem = .ok (.ref m3.length) (m3 ++ [.lst [x, y, z]]) := by
  simp only [eLstC, lCons, lNil, ha, hb, hc, Res.bind]
theorem dice_ok {ns : List Int} {k : Nat} {mem : Mem} (hk : k ≤ 1000) : ∃ g s, fDice [.scr (ns.map .int), .int k] mem = .ok (.ref mem.length) (mem ++ [dcell g s 0]) ∧ Dc 0 g s 0 := by
  suffices ∃ g s, mDice [some (.scr (ns.map .int)), some (.int k), none, none, none, none, none] mem = .rt (.ref mem.length) (mem ++ [dcell g s 0]) ∧ Dc 0 g s 0 by
    obtain ⟨g, s, h1, h2⟩ := this
    exact ⟨g, s, run_rt h1, h2⟩
  have len : (eN (pu gLen) (lCons (eVar 0) (lNil))) [some (.scr (ns.map .int)), some (.int k), none, none, none, none, none] mem = .ok (.int (ns.map D.int).length) mem := one_of (x := .scr (ns.map .int)) rfl rfl
  have kb : ((k : Nat) : Int).natAbs < 990000 := by omega
  have cell : ∃ v, (eIf (bE (e2 (pu gLt) (eVar 1) (eN (pu gLen) (lCons (eVar 0) (lNil))))) (e2 (pu gIx) (eVar 0) (eVar 1)) (e2 (pu gAdd) (e2 (pu gMul) (eC (.int 13)) (eVar 1)) (eC (.int 5)))) [some (.scr (ns.map .int)), some (.int k), none, none, none, none, none] mem = .ok (.int v) mem := by
    rw [eIf_of (bE_of (e2_of (x := .int k) rfl len rfl))]
    by_cases h : (k : Int) < (ns.map D.int).length
    · rw [if_pos (decide_eq_true h)]
      have h' : k < ns.length := by simpa using h
      refine ⟨ns[k], e2_of (x := .scr (ns.map .int)) (y := .int k) rfl rfl ?_⟩
      show atI (ns.map D.int) (k : Int) = _
      rw [atI_nat, List.getElem?_map, List.getElem?_eq_getElem h']
      rfl
    · rw [if_neg (by simpa using h)]
      exact ⟨_, e2_of (b := eC (.int 5)) (e2_of (a := eC (.int 13)) (b := eVar 1) rfl rfl (mul_ok (by decide) kb)) rfl add_ok⟩
  obtain ⟨v, hv⟩ := cell
  unfold mDice
  rw [seq_of (set_of hv)]
  show ∃ g s, sSeq _ _ [some (.scr (ns.map .int)), some (.int k), some (.int v), none, none, none, none] mem = _ ∧ _
  have big : (e2 (pu gPow) (e2 (pu gPow) (eC (.int 10)) (eC (.int 60))) (eC (.int 13))) [some (.scr (ns.map .int)), some (.int k), some (.int v), none, none, none, none] mem = .ok (.int ((10 ^ 60) ^ 13)) mem :=
    e2_of (b := eC (.int 13)) (e2_of (a := eC (.int 10)) (b := eC (.int 60)) rfl rfl (pow_ok (e := 60) 4 (by decide) (by decide))) rfl (pow_ok (e := 13) 200 (by decide +kernel) (by decide))
  have g0 : 0 ≤ (if v < 0 then -v else v) % (10 ^ 60) ^ 13 := Int.emod_nonneg _ (by decide)
  have g1 : (if v < 0 then -v else v) % (10 ^ 60) ^ 13 < (10 ^ 60) ^ 13 := Int.emod_lt_of_pos _ (by decide)
  rw [seq_of (set_of (e2_of (x := .int (if v < 0 then -v else v)) (one_of (x := .int v) rfl rfl) big (mod_ok (by decide))))]
  generalize (if v < 0 then -v else v) % (10 ^ 60) ^ 13 = great at g0 g1
  show ∃ g s, sSeq _ _ [some (.scr (ns.map .int)), some (.int k), some (.int v), some (.int great), none, none, none] mem = _ ∧ _
  have r0 : 0 ≤ great % 2305843009213693907 := Int.emod_nonneg _ (by decide)
  have r1 : great % 2305843009213693907 < 2305843009213693907 := Int.emod_lt_of_pos _ (by decide)
  have bb : (0 : Int) ≤ (if decide (v < 0) = true then 1 else 0) ∧ (if decide (v < 0) = true then (1 : Int) else 0) ≤ 1 := by split <;> omega
  rw [seq_of (set_of (e2_of (b := eC (.int 29)) (e2_of (e2_of (e2_of (a := eVar 3) (b := eC (.int 2305843009213693907)) rfl rfl (mod_ok (by decide))) (e2_of (a := eC (.int 8191)) (b := eVar 1) rfl rfl (mul_ok (by decide) kb)) add_ok)
    (e2_of (a := eC (.int 5)) rfl (one_of (x := .bl (decide (v < 0))) (z := .int (if decide (v < 0) = true then 1 else 0)) (e2_of (a := eVar 2) (b := eC (.int 0)) rfl rfl rfl) rfl) (mul_ok (by decide) (by omega))) add_ok) rfl add_ok))]
  generalize hsd : great % 2305843009213693907 + 8191 * (k : Int) + 5 * (if decide (v < 0) = true then 1 else 0) + 29 = seed
  have sb : seed.natAbs < 2 ^ 64 := by omega
  show ∃ g s, sSeq _ _ [some (.scr (ns.map .int)), some (.int k), some (.int v), some (.int great), some (.int seed), none, none] mem = _ ∧ _
  obtain ⟨s2, p5, p6, hl, b2⟩ := dice_loop (sc := .scr (ns.map .int)) (c0 := .int v) (c1 := .int great) (mem := mem) (a := k) ns 0 seed none none sb
  have hf : sFor (.t [.n 5, .n 6]) (wEnum (lCons (eVar 0) (lNil))) bDice [some (.scr (ns.map .int)), some (.int k), some (.int v), some (.int great), some (.int seed), none, none] mem = _ := (for_of (wk := { items := enumD 0 (ns.map .int) }) rfl).trans hl
  rw [seq_of hf]
  have t0 : 0 ≤ s2 ^ 3 % 2305843009213693921 := Int.emod_nonneg _ (by decide)
  have t1 : s2 ^ 3 % 2305843009213693921 < 2305843009213693921 := Int.emod_lt_of_pos _ (by decide)
  rw [seq_of (set_of (e2_of (b := eC (.int 2305843009213693921)) (e2_of (a := eVar 4) (b := eC (.int 3)) rfl rfl (pow_ok (e := 3) 64 b2 (by decide))) rfl (mod_ok (by decide))))]
  generalize s2 ^ 3 % 2305843009213693921 = s3 at t0 t1
  have ten : ∀ loc, (e2 (pu gPow) (eC (.int 10)) (eC (.int 18))) loc mem = .ok (.int (10 ^ 18)) mem := fun loc => e2_of (a := eC (.int 10)) (b := eC (.int 18)) rfl rfl (pow_ok (e := 18) 4 (by decide) (by decide))
  have ib : (0 : Int) ≤ (if decide ((10 : Int) ^ 18 ≤ great) = true then 1 else 0) ∧ (if decide ((10 : Int) ^ 18 ≤ great) = true then (1 : Int) else 0) ≤ 1 := by split <;> omega
  have q0 : 0 ≤ great / 10 ^ 18 := Int.ediv_nonneg g0 (by decide)
  have q1 : great / 10 ^ 18 ≤ great := Int.ediv_le_self _ g0
  have lg : (great / 10 ^ 18).natAbs.log2 + ((if decide ((10 : Int) ^ 18 ≤ great) = true then (1 : Int) else 0)).natAbs.log2 < 1000000 := by
    have h1 : (great / 10 ^ 18).natAbs.log2 ≤ 2600 := log2_le (by
      have : (great / 10 ^ 18).natAbs < ((10 ^ 60) ^ 13 : Nat) := by omega
      exact Nat.lt_of_lt_of_le this (by decide +kernel))
    have h2 : ((if decide ((10 : Int) ^ 18 ≤ great) = true then (1 : Int) else 0)).natAbs.log2 < 2 := log_lt (by omega)
    omega
  refine ⟨great / 10 ^ 18 * (if decide ((10 : Int) ^ 18 ≤ great) = true then 1 else 0), s3, ret_of (lst3_of (m1 := mem) (m2 := mem) (m3 := mem) (e2_of (e2_of (a := eVar 3) rfl (ten _) (div_okg ⟨by decide, by decide +kernel⟩)) (one_of (x := .bl (decide ((10 : Int) ^ 18 ≤ great))) (e2_of (a := eVar 3) rfl (ten _) rfl) rfl) (mul_okg lg)) rfl rfl), ?_, t0, t1, Int.le_refl _, Int.le_refl _⟩
  exact Int.mul_nonneg q0 ib.1
end Mx

namespace K00
open PySem L2 Mx
def top (i : Nat) : Stmt := PySem.Challenge.pw_halflink_k00_errors_and_their_fields.main.body.getD i (.Pass ⟨0, 0, 0, 0⟩)
def initOf (i : Nat) : Stmt := match top i with
  | .ClassDef _ _ _ b _ _ _ _ _ _ _ => b.getD 0 (.Pass ⟨0, 0, 0, 0⟩)
  | _ => .Pass ⟨0, 0, 0, 0⟩
abbrev C_LinkError : Addr := 24
abbrev C_InvalidMachine : Addr := 37
abbrev C_InvalidNetwork : Addr := 49
abbrev C_InvalidConfiguration : Addr := 61
abbrev C_InvalidLogs : Addr := 73
abbrev C_InvalidView : Addr := 85
abbrev C_InvalidWord : Addr := 97
abbrev C_InvalidOperation : Addr := 109
abbrev C_ParseError : Addr := 121
abbrev C_InvalidCommand : Addr := 133
abbrev C_UnknownName : Addr := 154
abbrev C_InvalidNumber : Addr := 176
abbrev C_InvalidRun : Addr := 198
abbrev C_InvalidPath : Addr := 220
abbrev C_TooMany : Addr := 242
abbrev C_Crossed : Addr := 264
abbrev C_NothingToUndo : Addr := 286
abbrev mVal : List Value := [.type "ValueError", .type "Exception", .type "BaseException", .type "object"]
def ms : List (Addr × List Value) := [(C_LinkError, .ref C_LinkError :: mVal), (C_InvalidMachine, .ref C_InvalidMachine :: .ref C_LinkError :: mVal), (C_InvalidNetwork, .ref C_InvalidNetwork :: .ref C_LinkError :: mVal), (C_InvalidConfiguration, .ref C_InvalidConfiguration :: .ref C_LinkError :: mVal), (C_InvalidLogs, .ref C_InvalidLogs :: .ref C_LinkError :: mVal), (C_InvalidView, .ref C_InvalidView :: .ref C_LinkError :: mVal), (C_InvalidWord, .ref C_InvalidWord :: .ref C_LinkError :: mVal), (C_InvalidOperation, .ref C_InvalidOperation :: .ref C_LinkError :: mVal), (C_ParseError, .ref C_ParseError :: .ref C_LinkError :: mVal), (C_InvalidCommand, .ref C_InvalidCommand :: .ref C_LinkError :: mVal), (C_UnknownName, .ref C_UnknownName :: mKey), (C_InvalidNumber, .ref C_InvalidNumber :: mIndex), (C_InvalidRun, .ref C_InvalidRun :: mLookup), (C_InvalidPath, .ref C_InvalidPath :: mLookup), (C_TooMany, .ref C_TooMany :: mOver), (C_Crossed, .ref C_Crossed :: mRun), (C_NothingToUndo, .ref C_NothingToUndo :: mArith)]
def ts : List String := ["ValueError", "KeyError", "IndexError", "LookupError", "OverflowError", "RuntimeError", "ArithmeticError"]
def tab : Addr → V → Option Bool := tabOf ms ts
abbrev cStr : List Addr := [C_LinkError, C_InvalidMachine, C_InvalidNetwork, C_InvalidConfiguration, C_InvalidLogs, C_InvalidView, C_InvalidWord, C_InvalidOperation, C_ParseError, C_InvalidCommand]
def at_str : Addr → Bool := fun C => cStr.contains C
abbrev c_name : List Addr := [C_UnknownName]
def at_name : Addr → Bool := fun C => c_name.contains C
abbrev c_value : List Addr := [C_InvalidNumber]
def at_value : Addr → Bool := fun C => c_value.contains C
abbrev c_at : List Addr := [C_InvalidRun, C_InvalidPath]
def at_at : Addr → Bool := fun C => c_at.contains C
abbrev c_limit : List Addr := [C_TooMany]
def at_limit : Addr → Bool := fun C => c_limit.contains C
abbrev c_run : List Addr := [C_Crossed]
def at_run : Addr → Bool := fun C => c_run.contains C
abbrev c_many : List Addr := [C_NothingToUndo]
def at_many : Addr → Bool := fun C => c_many.contains C
abbrev i_UnknownName : Stmt := initOf 11
theorem xt_UnknownName : XiT i_UnknownName "name" := ⟨⟨_, _, _, _, _, _, _, _, _, _, rfl, fun _ => ⟨_, rfl⟩, fun _ => rfl, fun _ => rfl⟩, fun _ _ _ _ _ _ _ _ _ => rfl, ⟨_, rfl, rfl⟩, by decide, rfl, rfl, rfl, by decide +kernel, rfl, rfl, rfl, rfl, by decide⟩
abbrev i_InvalidNumber : Stmt := initOf 12
theorem xt_InvalidNumber : XiT i_InvalidNumber "value" := ⟨⟨_, _, _, _, _, _, _, _, _, _, rfl, fun _ => ⟨_, rfl⟩, fun _ => rfl, fun _ => rfl⟩, fun _ _ _ _ _ _ _ _ _ => rfl, ⟨_, rfl, rfl⟩, by decide, rfl, rfl, rfl, by decide +kernel, rfl, rfl, rfl, rfl, by decide⟩
abbrev i_InvalidRun : Stmt := initOf 13
theorem xt_InvalidRun : XiT i_InvalidRun "at" := ⟨⟨_, _, _, _, _, _, _, _, _, _, rfl, fun _ => ⟨_, rfl⟩, fun _ => rfl, fun _ => rfl⟩, fun _ _ _ _ _ _ _ _ _ => rfl, ⟨_, rfl, rfl⟩, by decide, rfl, rfl, rfl, by decide +kernel, rfl, rfl, rfl, rfl, by decide⟩
abbrev i_InvalidPath : Stmt := initOf 14
theorem xt_InvalidPath : XiT i_InvalidPath "at" := ⟨⟨_, _, _, _, _, _, _, _, _, _, rfl, fun _ => ⟨_, rfl⟩, fun _ => rfl, fun _ => rfl⟩, fun _ _ _ _ _ _ _ _ _ => rfl, ⟨_, rfl, rfl⟩, by decide, rfl, rfl, rfl, by decide +kernel, rfl, rfl, rfl, rfl, by decide⟩
abbrev i_TooMany : Stmt := initOf 15
theorem xt_TooMany : XiT i_TooMany "limit" := ⟨⟨_, _, _, _, _, _, _, _, _, _, rfl, fun _ => ⟨_, rfl⟩, fun _ => rfl, fun _ => rfl⟩, fun _ _ _ _ _ _ _ _ _ => rfl, ⟨_, rfl, rfl⟩, by decide, rfl, rfl, rfl, by decide +kernel, rfl, rfl, rfl, rfl, by decide⟩
abbrev i_Crossed : Stmt := initOf 16
theorem xt_Crossed : XiT i_Crossed "run" := ⟨⟨_, _, _, _, _, _, _, _, _, _, rfl, fun _ => ⟨_, rfl⟩, fun _ => rfl, fun _ => rfl⟩, fun _ _ _ _ _ _ _ _ _ => rfl, ⟨_, rfl, rfl⟩, by decide, rfl, rfl, rfl, by decide +kernel, rfl, rfl, rfl, rfl, by decide⟩
abbrev i_NothingToUndo : Stmt := initOf 17
theorem xt_NothingToUndo : XiT i_NothingToUndo "many" := ⟨⟨_, _, _, _, _, _, _, _, _, _, rfl, fun _ => ⟨_, rfl⟩, fun _ => rfl, fun _ => rfl⟩, fun _ _ _ _ _ _ _ _ _ => rfl, ⟨_, rfl, rfl⟩, by decide, rfl, rfl, rfl, by decide +kernel, rfl, rfl, rfl, rfl, by decide⟩
structure Txt (P : Program) (K : PySem.W.Frag) (mg : Str → Option Value) (base : Heap) : Prop where
  sys : SysD base
  nosup : mg "super" = none
  tab : IsTab K tab
  st : StrTab K at_str
  b_len : mg "len" = none
  b_abs : mg "abs" = none
  b_int : mg "int" = none
  b_enumerate : mg "enumerate" = none
  b_range : mg "range" = none
  b_max : mg "max" = none
  b_min : mg "min" = none
  b_isinstance : mg "isinstance" = none
  b_str : mg "str" = none
  b_repr : mg "repr" = none
  b_ValueError : mg "ValueError" = none
  b_KeyError : mg "KeyError" = none
  b_IndexError : mg "IndexError" = none
  b_LookupError : mg "LookupError" = none
  b_OverflowError : mg "OverflowError" = none
  b_RuntimeError : mg "RuntimeError" = none
  b_ArithmeticError : mg "ArithmeticError" = none
  at_name : AtTab K "name" at_name
  at_value : AtTab K "value" at_value
  at_at : AtTab K "at" at_at
  at_limit : AtTab K "limit" at_limit
  at_run : AtTab K "run" at_run
  at_many : AtTab K "many" at_many
  g_LinkError : mg "LinkError" = some (.ref C_LinkError)
  g_InvalidMachine : mg "InvalidMachine" = some (.ref C_InvalidMachine)
  g_InvalidNetwork : mg "InvalidNetwork" = some (.ref C_InvalidNetwork)
  g_InvalidConfiguration : mg "InvalidConfiguration" = some (.ref C_InvalidConfiguration)
  g_InvalidLogs : mg "InvalidLogs" = some (.ref C_InvalidLogs)
  g_InvalidView : mg "InvalidView" = some (.ref C_InvalidView)
  g_InvalidWord : mg "InvalidWord" = some (.ref C_InvalidWord)
  g_InvalidOperation : mg "InvalidOperation" = some (.ref C_InvalidOperation)
  g_ParseError : mg "ParseError" = some (.ref C_ParseError)
  g_InvalidCommand : mg "InvalidCommand" = some (.ref C_InvalidCommand)
  g_UnknownName : mg "UnknownName" = some (.ref C_UnknownName)
  g_InvalidNumber : mg "InvalidNumber" = some (.ref C_InvalidNumber)
  g_InvalidRun : mg "InvalidRun" = some (.ref C_InvalidRun)
  g_InvalidPath : mg "InvalidPath" = some (.ref C_InvalidPath)
  g_TooMany : mg "TooMany" = some (.ref C_TooMany)
  g_Crossed : mg "Crossed" = some (.ref C_Crossed)
  g_NothingToUndo : mg "NothingToUndo" = some (.ref C_NothingToUndo)
  ex_LinkError : PySem.W.excIn K C_LinkError mVal "ValueError.__new__" = true
  kp_LinkError : PySem.W.keepIn K (.ref C_LinkError) = true
  ex_InvalidMachine : PySem.W.excIn K C_InvalidMachine mVal "ValueError.__new__" = true
  kp_InvalidMachine : PySem.W.keepIn K (.ref C_InvalidMachine) = true
  ex_InvalidNetwork : PySem.W.excIn K C_InvalidNetwork mVal "ValueError.__new__" = true
  kp_InvalidNetwork : PySem.W.keepIn K (.ref C_InvalidNetwork) = true
  ex_InvalidConfiguration : PySem.W.excIn K C_InvalidConfiguration mVal "ValueError.__new__" = true
  kp_InvalidConfiguration : PySem.W.keepIn K (.ref C_InvalidConfiguration) = true
  ex_InvalidLogs : PySem.W.excIn K C_InvalidLogs mVal "ValueError.__new__" = true
  kp_InvalidLogs : PySem.W.keepIn K (.ref C_InvalidLogs) = true
  ex_InvalidView : PySem.W.excIn K C_InvalidView mVal "ValueError.__new__" = true
  kp_InvalidView : PySem.W.keepIn K (.ref C_InvalidView) = true
  ex_InvalidWord : PySem.W.excIn K C_InvalidWord mVal "ValueError.__new__" = true
  kp_InvalidWord : PySem.W.keepIn K (.ref C_InvalidWord) = true
  ex_InvalidOperation : PySem.W.excIn K C_InvalidOperation mVal "ValueError.__new__" = true
  kp_InvalidOperation : PySem.W.keepIn K (.ref C_InvalidOperation) = true
  ex_ParseError : PySem.W.excIn K C_ParseError mVal "ValueError.__new__" = true
  kp_ParseError : PySem.W.keepIn K (.ref C_ParseError) = true
  ex_InvalidCommand : PySem.W.excIn K C_InvalidCommand mVal "ValueError.__new__" = true
  kp_InvalidCommand : PySem.W.keepIn K (.ref C_InvalidCommand) = true
  xi_UnknownName : ∃ fI, Xi P K mg i_UnknownName "UnknownName" "UnknownName.__init__" "name" C_UnknownName fI "KeyError" "LookupError.__new__" "KeyError.__init__" mKey
  xi_InvalidNumber : ∃ fI, Xi P K mg i_InvalidNumber "InvalidNumber" "InvalidNumber.__init__" "value" C_InvalidNumber fI "IndexError" "IndexError.__new__" "IndexError.__init__" mIndex
  xi_InvalidRun : ∃ fI, Xi P K mg i_InvalidRun "InvalidRun" "InvalidRun.__init__" "at" C_InvalidRun fI "LookupError" "LookupError.__new__" "LookupError.__init__" mLookup
  xi_InvalidPath : ∃ fI, Xi P K mg i_InvalidPath "InvalidPath" "InvalidPath.__init__" "at" C_InvalidPath fI "LookupError" "LookupError.__new__" "LookupError.__init__" mLookup
  xi_TooMany : ∃ fI, Xi P K mg i_TooMany "TooMany" "TooMany.__init__" "limit" C_TooMany fI "OverflowError" "OverflowError.__new__" "OverflowError.__init__" mOver
  xi_Crossed : ∃ fI, Xi P K mg i_Crossed "Crossed" "Crossed.__init__" "run" C_Crossed fI "RuntimeError" "RuntimeError.__new__" "RuntimeError.__init__" mRun
  xi_NothingToUndo : ∃ fI, Xi P K mg i_NothingToUndo "NothingToUndo" "NothingToUndo.__init__" "many" C_NothingToUndo fI "ArithmeticError" "ArithmeticError.__new__" "ArithmeticError.__init__" mArith
variable {P : Program} {w : World} {K : PySem.W.Frag} {mg : Str → Option Value} {base : Heap}
abbrev s_dice : Stmt := top 19
abbrev N_dice : List Str := ["_law_script", "_law_at", "_law_cell", "_law_great", "_law_seed", "_law_place", "_law_other"]
theorem sc_dice : FnScope N_dice ["_law_script", "_law_at"] (defScope s_dice) := ⟨rfl, rfl, rfl, by decide +kernel, rfl, by decide +kernel, by decide +kernel⟩
def m_dice : S1 := sSeq (sSet 2 (eIf (bE (e2 (pu gLt) (eVar 1) (eN (pu gLen) (lCons (eVar 0) (lNil))))) (e2 (pu gIx) (eVar 0) (eVar 1)) (e2 (pu gAdd) (e2 (pu gMul) (eC (.int 13)) (eVar 1)) (eC (.int 5))))) (sSeq (sSet 3 (e2 (pu gMod) (eN (pu gAbs) (lCons (eVar 2) (lNil))) (e2 (pu gPow) (e2 (pu gPow) (eC (.int 10)) (eC (.int 60))) (eC (.int 13))))) (sSeq (sSet 4 (e2 (pu gAdd) (e2 (pu gAdd) (e2 (pu gAdd) (e2 (pu gMod) (eVar 3) (eC (.int 2305843009213693907))) (e2 (pu gMul) (eC (.int 8191)) (eVar 1))) (e2 (pu gMul) (eC (.int 5)) (eN (pu gInt1) (lCons (e2 (pu gLt) (eVar 2) (eC (.int 0))) (lNil))))) (eC (.int 29)))) (sSeq (sFor (.t [.n 5, .n 6]) (wEnum (lCons (eVar 0) (lNil))) (sIf (bE (e2 (pu (gEq true)) (eVar 5) (eVar 1))) (sSet 4 (e2 (pu gMod) (e2 (pu gAdd) (e2 (pu gAdd) (e2 (pu gMul) (eC (.int 1000033)) (eVar 4)) (eVar 6)) (eVar 5)) (eC (.int 2305843009213693907)))) (sNil))) (sSeq (sSet 4 (e2 (pu gMod) (e2 (pu gPow) (eVar 4) (eC (.int 3))) (eC (.int 2305843009213693921)))) (sRet (eLstC (lCons (e2 (pu gMul) (e2 (pu gDiv) (eVar 3) (e2 (pu gPow) (eC (.int 10)) (eC (.int 18)))) (eN (pu gInt1) (lCons (e2 (pu gGe) (eVar 3) (e2 (pu gPow) (eC (.int 10)) (eC (.int 18)))) (lNil)))) (lCons (eVar 4) (lCons (eC (.int 0)) (lNil))))))))))
theorem d_dice (T : Txt P K mg base)  {f : Addr} {cdv : Value} {A : Around} {outer : List PySem.Env} {s : Shared} {H : Hp} {E : XK} (rm : Rm 1 (A.deeper (PyProof.Rows.envOfC "_law_dice" (defScope s_dice) s.heap.objs.size f cdv))) :
    MSs (cxF P w K mg base N_dice "_law_dice" s_dice f cdv A outer s H E) (wxF E) (defBody s_dice) m_dice := by
  exact mss_cons (ms_setD (i := 2) sc_dice.nd rfl (Or.inl rfl) (me_if (mt_cmp op_gLt (nomark _) (me_var (pv 1)) (me_bB call_gLen (by rfl) T.b_len (by decide +kernel) (ml_cons (me_var (pv 0)) (ml_nil)))) (me_ix ix_g (fun _ _ => rfl) (me_var (pv 0)) (me_var (pv 1))) (me_op op_gAdd (me_op op_gMul (me_int) (me_var (pv 1))) (me_int)))) (mss_cons (ms_setD (i := 3) sc_dice.nd rfl (Or.inl rfl) (me_op op_gMod (me_bB call_gAbs (by rfl) T.b_abs (by decide +kernel) (ml_cons (me_var (pv 2)) (ml_nil))) (me_op op_gPow (me_op op_gPow (me_int) (me_int)) (me_int)))) (mss_cons (ms_setD (i := 4) sc_dice.nd rfl (Or.inl rfl) (me_op op_gAdd (me_op op_gAdd (me_op op_gAdd (me_op op_gMod (me_var (pv 3)) (me_int)) (me_op op_gMul (me_int) (me_var (pv 1)))) (me_op op_gMul (me_int) (me_bT call_gInt1 (by rfl) T.b_int (by decide +kernel) (ml_cons (me_cmp op_gLt (nomark _) (me_var (pv 2)) (me_int)) (ml_nil))))) (me_int))) (mss_cons (ms_for passF rfl (mi_enum (ml_cons (me_var (pv 0)) (ml_nil)) (by rfl) T.b_enumerate) (mg_tupD (mgs_cons (mg_name (pg_name (i := 5) sc_dice.nd rfl (Or.inl rfl))) (mgs_cons (mg_name (pg_name (i := 6) sc_dice.nd rfl (Or.inl rfl))) (mgs_nil))) rfl) (mss_one (ms_if (mt_cmp (op_gNe rm.toRoom.units) (nomark _) (me_var (pv 5)) (me_var (pv 1))) (mss_one (ms_setD (i := 4) sc_dice.nd rfl (Or.inl rfl) (me_op op_gMod (me_op op_gAdd (me_op op_gAdd (me_op op_gMul (me_int) (me_var (pv 4))) (me_var (pv 6))) (me_var (pv 5))) (me_int)))) (mss_nil)))) (mss_cons (ms_setD (i := 4) sc_dice.nd rfl (Or.inl rfl) (me_op op_gMod (me_op op_gPow (me_var (pv 4)) (me_int)) (me_int))) (mss_one (ms_ret (me_lstC (ml_cons (me_op op_gMul (me_op op_gDiv (me_var (pv 3)) (me_op op_gPow (me_int) (me_int))) (me_bT call_gInt1 (by rfl) T.b_int (by decide +kernel) (ml_cons (me_cmp op_gGe (nomark _) (me_var (pv 3)) (me_op op_gPow (me_int) (me_int))) (ml_nil)))) (ml_cons (me_var (pv 4)) (ml_cons (me_int) (ml_nil)))))))))))
def F_dice : Fn := runB N_dice.length m_dice
abbrev s_roll : Stmt := top 20
abbrev N_roll : List Str := ["_law_dice_here", "_law_total", "_law_found", "_law_one", "_law_two"]
theorem sc_roll : FnScope N_roll ["_law_dice_here", "_law_total"] (defScope s_roll) := ⟨rfl, rfl, rfl, by decide +kernel, rfl, by decide +kernel, by decide +kernel⟩
def m_roll : S1 := sSeq (sIf (bE (e2 (pu gGt) (e2 (pu gIx) (eVar 0) (eC (.int 0))) (eC (.int 0)))) (sSeq (sSet 2 (e2 (pu gMod) (e2 (pu gIx) (eVar 0) (eC (.int 0))) (eVar 1))) (sSeq (sPut (eVar 0) (eC (.int 0)) (e2 (pu gDiv) (e2 (pu gIx) (eVar 0) (eC (.int 0))) (eVar 1))) (sRet (eVar 2)))) (sNil)) (sSeq (sPut (eVar 0) (eC (.int 2)) (e2 (pu gAdd) (e2 (pu gIx) (eVar 0) (eC (.int 2))) (eC (.int 1)))) (sSeq (sSet 3 (e2 (pu gMod) (e2 (pu gPow) (e2 (pu gAdd) (e2 (pu gIx) (eVar 0) (eC (.int 1))) (e2 (pu gMul) (eC (.int 15485867)) (e2 (pu gIx) (eVar 0) (eC (.int 2))))) (eC (.int 3))) (eC (.int 2305843009213693951)))) (sSeq (sSet 4 (e2 (pu gMod) (e2 (pu gPow) (e2 (pu gAdd) (e2 (pu gAdd) (eVar 3) (e2 (pu gMod) (e2 (pu gIx) (eVar 0) (eC (.int 1))) (eC (.int 1000081)))) (e2 (pu gMul) (eC (.int 41)) (e2 (pu gIx) (eVar 0) (eC (.int 2))))) (eC (.int 5))) (eC (.int 2305843009213693907)))) (sRet (e2 (pu gMod) (e2 (pu gDiv) (eVar 4) (eC (.int 8192))) (eVar 1))))))
theorem d_roll (T : Txt P K mg base)  {f : Addr} {cdv : Value} {A : Around} {outer : List PySem.Env} {s : Shared} {H : Hp} {E : XK} (rm : Rm 1 (A.deeper (PyProof.Rows.envOfC "_law_roll" (defScope s_roll) s.heap.objs.size f cdv))) :
    MSs (cxF P w K mg base N_roll "_law_roll" s_roll f cdv A outer s H E) (wxF E) (defBody s_roll) m_roll := by
  exact mss_cons (ms_if (mt_cmp op_gGt (nomark _) (me_ix ix_g (fun _ _ => rfl) (me_var (pv 0)) (me_int)) (me_int)) (mss_cons (ms_setD (i := 2) sc_roll.nd rfl (Or.inl rfl) (me_op op_gMod (me_ix ix_g (fun _ _ => rfl) (me_var (pv 0)) (me_int)) (me_var (pv 1)))) (mss_cons (ms_put (me_var (pv 0)) (me_int) (me_op op_gDiv (me_ix ix_g (fun _ _ => rfl) (me_var (pv 0)) (me_int)) (me_var (pv 1)))) (mss_one (ms_ret (me_var (pv 2)))))) (mss_nil)) (mss_cons (ms_put (me_var (pv 0)) (me_int) (me_op op_gAdd (me_ix ix_g (fun _ _ => rfl) (me_var (pv 0)) (me_int)) (me_int))) (mss_cons (ms_setD (i := 3) sc_roll.nd rfl (Or.inl rfl) (me_op op_gMod (me_op op_gPow (me_op op_gAdd (me_ix ix_g (fun _ _ => rfl) (me_var (pv 0)) (me_int)) (me_op op_gMul (me_int) (me_ix ix_g (fun _ _ => rfl) (me_var (pv 0)) (me_int)))) (me_int)) (me_int))) (mss_cons (ms_setD (i := 4) sc_roll.nd rfl (Or.inl rfl) (me_op op_gMod (me_op op_gPow (me_op op_gAdd (me_op op_gAdd (me_var (pv 3)) (me_op op_gMod (me_ix ix_g (fun _ _ => rfl) (me_var (pv 0)) (me_int)) (me_int))) (me_op op_gMul (me_int) (me_ix ix_g (fun _ _ => rfl) (me_var (pv 0)) (me_int)))) (me_int)) (me_int))) (mss_one (ms_ret (me_op op_gMod (me_op op_gDiv (me_var (pv 4)) (me_int)) (me_var (pv 1))))))))
def F_roll : Fn := runB N_roll.length m_roll
abbrev s_one_of : Stmt := top 21
abbrev N_one_of : List Str := ["_law_dice_here", "_law_items"]
theorem sc_one_of : FnScope N_one_of ["_law_dice_here", "_law_items"] (defScope s_one_of) := ⟨rfl, rfl, rfl, by decide +kernel, rfl, by decide +kernel, by decide +kernel⟩
def m_one_of : S1 := sRet (e2 (pu gIx) (eVar 1) (eCall F_roll (lCons (eVar 0) (lCons (eN (pu gLen) (lCons (eVar 1) (lNil))) (lNil)))))
theorem d_one_of (T : Txt P K mg base) (c_roll : Cal P w K mg base 2 "_law_roll" ["_law_dice_here", "_law_total"] F_roll) {f : Addr} {cdv : Value} {A : Around} {outer : List PySem.Env} {s : Shared} {H : Hp} {E : XK} (rm : Rm 2 (A.deeper (PyProof.Rows.envOfC "_law_one_of" (defScope s_one_of) s.heap.objs.size f cdv))) :
    MSs (cxF P w K mg base N_one_of "_law_one_of" s_one_of f cdv A outer s H E) (wxF E) (defBody s_one_of) m_one_of := by
  exact mss_one (ms_ret (me_ix ix_g (fun _ _ => rfl) (me_var (pv 1)) (me_call c_roll (rm.mono (by decide)) (by rfl) tkF (ml_cons (me_var (pv 0)) (ml_cons (me_bB call_gLen (by rfl) T.b_len (by decide +kernel) (ml_cons (me_var (pv 1)) (ml_nil))) (ml_nil))))))
def F_one_of : Fn := runB N_one_of.length m_one_of
abbrev s_kinds : Stmt := top 22
abbrev N_kinds : List Str := ["_law_error", "_law_found"]
theorem sc_kinds : FnScope N_kinds ["_law_error"] (defScope s_kinds) := ⟨rfl, rfl, rfl, by decide +kernel, rfl, by decide +kernel, by decide +kernel⟩
def m_kinds : S1 := sSeq (sSet 1 (eLst (lCons (eN (pu (gIsE tab)) (lCons (eVar 0) (lCons (eC (.con (.ref C_InvalidMachine))) (lNil)))) (lCons (eN (pu (gIsE tab)) (lCons (eVar 0) (lCons (eC (.con (.ref C_InvalidNetwork))) (lNil)))) (lCons (eN (pu (gIsE tab)) (lCons (eVar 0) (lCons (eC (.con (.ref C_InvalidLogs))) (lNil)))) (lNil)))))) (sSeq (sSet 1 (e2 (pu gAdd) (eVar 1) (eLst (lCons (eN (pu (gIsE tab)) (lCons (eVar 0) (lCons (eC (.con (.ref C_InvalidConfiguration))) (lNil)))) (lCons (eN (pu (gIsE tab)) (lCons (eVar 0) (lCons (eC (.con (.ref C_InvalidView))) (lNil)))) (lNil)))))) (sSeq (sSet 1 (e2 (pu gAdd) (eVar 1) (eLst (lCons (eN (pu (gIsE tab)) (lCons (eVar 0) (lCons (eC (.con (.ref C_InvalidWord))) (lNil)))) (lCons (eN (pu (gIsE tab)) (lCons (eVar 0) (lCons (eC (.con (.ref C_InvalidOperation))) (lNil)))) (lNil)))))) (sRet (e2 (pu gAdd) (eVar 1) (eLst (lCons (eN (pu (gIsE tab)) (lCons (eVar 0) (lCons (eC (.con (.ref C_ParseError))) (lNil)))) (lCons (eN (pu (gIsE tab)) (lCons (eVar 0) (lCons (eC (.con (.ref C_InvalidCommand))) (lNil)))) (lNil))))))))
theorem d_kinds (T : Txt P K mg base)  {f : Addr} {cdv : Value} {A : Around} {outer : List PySem.Env} {s : Shared} {H : Hp} {E : XK} (rm : Rm 1 (A.deeper (PyProof.Rows.envOfC "_law_kinds" (defScope s_kinds) s.heap.objs.size f cdv))) :
    MSs (cxF P w K mg base N_kinds "_law_kinds" s_kinds f cdv A outer s H E) (wxF E) (defBody s_kinds) m_kinds := by
  exact mss_cons (ms_setD (i := 1) sc_kinds.nd rfl (Or.inl rfl) (me_lst (ml_cons (me_bB (call_gIsE T.tab) (by rfl) T.b_isinstance (by decide +kernel) (ml_cons (me_var (pv 0)) (ml_cons (me_cls (by rfl) T.g_InvalidMachine) (ml_nil)))) (ml_cons (me_bB (call_gIsE T.tab) (by rfl) T.b_isinstance (by decide +kernel) (ml_cons (me_var (pv 0)) (ml_cons (me_cls (by rfl) T.g_InvalidNetwork) (ml_nil)))) (ml_cons (me_bB (call_gIsE T.tab) (by rfl) T.b_isinstance (by decide +kernel) (ml_cons (me_var (pv 0)) (ml_cons (me_cls (by rfl) T.g_InvalidLogs) (ml_nil)))) (ml_nil)))))) (mss_cons (ms_setD (i := 1) sc_kinds.nd rfl (Or.inl rfl) (me_op op_gAdd (me_var (pv 1)) (me_lst (ml_cons (me_bB (call_gIsE T.tab) (by rfl) T.b_isinstance (by decide +kernel) (ml_cons (me_var (pv 0)) (ml_cons (me_cls (by rfl) T.g_InvalidConfiguration) (ml_nil)))) (ml_cons (me_bB (call_gIsE T.tab) (by rfl) T.b_isinstance (by decide +kernel) (ml_cons (me_var (pv 0)) (ml_cons (me_cls (by rfl) T.g_InvalidView) (ml_nil)))) (ml_nil)))))) (mss_cons (ms_setD (i := 1) sc_kinds.nd rfl (Or.inl rfl) (me_op op_gAdd (me_var (pv 1)) (me_lst (ml_cons (me_bB (call_gIsE T.tab) (by rfl) T.b_isinstance (by decide +kernel) (ml_cons (me_var (pv 0)) (ml_cons (me_cls (by rfl) T.g_InvalidWord) (ml_nil)))) (ml_cons (me_bB (call_gIsE T.tab) (by rfl) T.b_isinstance (by decide +kernel) (ml_cons (me_var (pv 0)) (ml_cons (me_cls (by rfl) T.g_InvalidOperation) (ml_nil)))) (ml_nil)))))) (mss_one (ms_ret (me_op op_gAdd (me_var (pv 1)) (me_lst (ml_cons (me_bB (call_gIsE T.tab) (by rfl) T.b_isinstance (by decide +kernel) (ml_cons (me_var (pv 0)) (ml_cons (me_cls (by rfl) T.g_ParseError) (ml_nil)))) (ml_cons (me_bB (call_gIsE T.tab) (by rfl) T.b_isinstance (by decide +kernel) (ml_cons (me_var (pv 0)) (ml_cons (me_cls (by rfl) T.g_InvalidCommand) (ml_nil)))) (ml_nil)))))))))
def F_kinds : Fn := runB N_kinds.length m_kinds
abbrev s_bases : Stmt := top 23
abbrev N_bases : List Str := ["_law_error", "_law_found"]
theorem sc_bases : FnScope N_bases ["_law_error"] (defScope s_bases) := ⟨rfl, rfl, rfl, by decide +kernel, rfl, by decide +kernel, by decide +kernel⟩
def m_bases : S1 := sSeq (sSet 1 (eLst (lCons (eN (pu (gIsE tab)) (lCons (eVar 0) (lCons (eC (.con (.ty "ValueError"))) (lNil)))) (lCons (eN (pu (gIsE tab)) (lCons (eVar 0) (lCons (eC (.con (.ty "KeyError"))) (lNil)))) (lCons (eN (pu (gIsE tab)) (lCons (eVar 0) (lCons (eC (.con (.ty "IndexError"))) (lNil)))) (lNil)))))) (sSeq (sSet 1 (e2 (pu gAdd) (eVar 1) (eLst (lCons (eN (pu (gIsE tab)) (lCons (eVar 0) (lCons (eC (.con (.ty "LookupError"))) (lNil)))) (lCons (eN (pu (gIsE tab)) (lCons (eVar 0) (lCons (eC (.con (.ty "OverflowError"))) (lNil)))) (lNil)))))) (sRet (e2 (pu gAdd) (eVar 1) (eLst (lCons (eN (pu (gIsE tab)) (lCons (eVar 0) (lCons (eC (.con (.ty "RuntimeError"))) (lNil)))) (lCons (eN (pu (gIsE tab)) (lCons (eVar 0) (lCons (eC (.con (.ty "ArithmeticError"))) (lNil)))) (lNil)))))))
theorem d_bases (T : Txt P K mg base)  {f : Addr} {cdv : Value} {A : Around} {outer : List PySem.Env} {s : Shared} {H : Hp} {E : XK} (rm : Rm 1 (A.deeper (PyProof.Rows.envOfC "_law_bases" (defScope s_bases) s.heap.objs.size f cdv))) :
    MSs (cxF P w K mg base N_bases "_law_bases" s_bases f cdv A outer s H E) (wxF E) (defBody s_bases) m_bases := by
  exact mss_cons (ms_setD (i := 1) sc_bases.nd rfl (Or.inl rfl) (me_lst (ml_cons (me_bB (call_gIsE T.tab) (by rfl) T.b_isinstance (by decide +kernel) (ml_cons (me_var (pv 0)) (ml_cons (me_ty (by rfl) T.b_ValueError (by decide +kernel)) (ml_nil)))) (ml_cons (me_bB (call_gIsE T.tab) (by rfl) T.b_isinstance (by decide +kernel) (ml_cons (me_var (pv 0)) (ml_cons (me_ty (by rfl) T.b_KeyError (by decide +kernel)) (ml_nil)))) (ml_cons (me_bB (call_gIsE T.tab) (by rfl) T.b_isinstance (by decide +kernel) (ml_cons (me_var (pv 0)) (ml_cons (me_ty (by rfl) T.b_IndexError (by decide +kernel)) (ml_nil)))) (ml_nil)))))) (mss_cons (ms_setD (i := 1) sc_bases.nd rfl (Or.inl rfl) (me_op op_gAdd (me_var (pv 1)) (me_lst (ml_cons (me_bB (call_gIsE T.tab) (by rfl) T.b_isinstance (by decide +kernel) (ml_cons (me_var (pv 0)) (ml_cons (me_ty (by rfl) T.b_LookupError (by decide +kernel)) (ml_nil)))) (ml_cons (me_bB (call_gIsE T.tab) (by rfl) T.b_isinstance (by decide +kernel) (ml_cons (me_var (pv 0)) (ml_cons (me_ty (by rfl) T.b_OverflowError (by decide +kernel)) (ml_nil)))) (ml_nil)))))) (mss_one (ms_ret (me_op op_gAdd (me_var (pv 1)) (me_lst (ml_cons (me_bB (call_gIsE T.tab) (by rfl) T.b_isinstance (by decide +kernel) (ml_cons (me_var (pv 0)) (ml_cons (me_ty (by rfl) T.b_RuntimeError (by decide +kernel)) (ml_nil)))) (ml_cons (me_bB (call_gIsE T.tab) (by rfl) T.b_isinstance (by decide +kernel) (ml_cons (me_var (pv 0)) (ml_cons (me_ty (by rfl) T.b_ArithmeticError (by decide +kernel)) (ml_nil)))) (ml_nil))))))))
def F_bases : Fn := runB N_bases.length m_bases
abbrev s_others : Stmt := top 24
abbrev N_others : List Str := ["_law_error", "_law_found"]
theorem sc_others : FnScope N_others ["_law_error"] (defScope s_others) := ⟨rfl, rfl, rfl, by decide +kernel, rfl, by decide +kernel, by decide +kernel⟩
def m_others : S1 := sSeq (sSet 1 (eLst (lCons (eN (pu (gIsE tab)) (lCons (eVar 0) (lCons (eC (.con (.ref C_UnknownName))) (lNil)))) (lCons (eN (pu (gIsE tab)) (lCons (eVar 0) (lCons (eC (.con (.ref C_InvalidNumber))) (lNil)))) (lCons (eN (pu (gIsE tab)) (lCons (eVar 0) (lCons (eC (.con (.ref C_InvalidRun))) (lNil)))) (lNil)))))) (sSeq (sSet 1 (e2 (pu gAdd) (eVar 1) (eLst (lCons (eN (pu (gIsE tab)) (lCons (eVar 0) (lCons (eC (.con (.ref C_InvalidPath))) (lNil)))) (lCons (eN (pu (gIsE tab)) (lCons (eVar 0) (lCons (eC (.con (.ref C_TooMany))) (lNil)))) (lCons (eN (pu (gIsE tab)) (lCons (eVar 0) (lCons (eC (.con (.ref C_Crossed))) (lNil)))) (lNil))))))) (sRet (e2 (pu gAdd) (eVar 1) (eLst (lCons (eN (pu (gIsE tab)) (lCons (eVar 0) (lCons (eC (.con (.ref C_NothingToUndo))) (lNil)))) (lNil))))))
theorem d_others (T : Txt P K mg base)  {f : Addr} {cdv : Value} {A : Around} {outer : List PySem.Env} {s : Shared} {H : Hp} {E : XK} (rm : Rm 1 (A.deeper (PyProof.Rows.envOfC "_law_others" (defScope s_others) s.heap.objs.size f cdv))) :
    MSs (cxF P w K mg base N_others "_law_others" s_others f cdv A outer s H E) (wxF E) (defBody s_others) m_others := by
  exact mss_cons (ms_setD (i := 1) sc_others.nd rfl (Or.inl rfl) (me_lst (ml_cons (me_bB (call_gIsE T.tab) (by rfl) T.b_isinstance (by decide +kernel) (ml_cons (me_var (pv 0)) (ml_cons (me_cls (by rfl) T.g_UnknownName) (ml_nil)))) (ml_cons (me_bB (call_gIsE T.tab) (by rfl) T.b_isinstance (by decide +kernel) (ml_cons (me_var (pv 0)) (ml_cons (me_cls (by rfl) T.g_InvalidNumber) (ml_nil)))) (ml_cons (me_bB (call_gIsE T.tab) (by rfl) T.b_isinstance (by decide +kernel) (ml_cons (me_var (pv 0)) (ml_cons (me_cls (by rfl) T.g_InvalidRun) (ml_nil)))) (ml_nil)))))) (mss_cons (ms_setD (i := 1) sc_others.nd rfl (Or.inl rfl) (me_op op_gAdd (me_var (pv 1)) (me_lst (ml_cons (me_bB (call_gIsE T.tab) (by rfl) T.b_isinstance (by decide +kernel) (ml_cons (me_var (pv 0)) (ml_cons (me_cls (by rfl) T.g_InvalidPath) (ml_nil)))) (ml_cons (me_bB (call_gIsE T.tab) (by rfl) T.b_isinstance (by decide +kernel) (ml_cons (me_var (pv 0)) (ml_cons (me_cls (by rfl) T.g_TooMany) (ml_nil)))) (ml_cons (me_bB (call_gIsE T.tab) (by rfl) T.b_isinstance (by decide +kernel) (ml_cons (me_var (pv 0)) (ml_cons (me_cls (by rfl) T.g_Crossed) (ml_nil)))) (ml_nil))))))) (mss_one (ms_ret (me_op op_gAdd (me_var (pv 1)) (me_lst (ml_cons (me_bB (call_gIsE T.tab) (by rfl) T.b_isinstance (by decide +kernel) (ml_cons (me_var (pv 0)) (ml_cons (me_cls (by rfl) T.g_NothingToUndo) (ml_nil)))) (ml_nil)))))))
def F_others : Fn := runB N_others.length m_others
abbrev s_messages_right : Stmt := top 25
abbrev N_messages_right : List Str := ["_law_text", "_law_some", "_law_at", "_law_error", "_law_other", "_law_whole"]
theorem sc_messages_right : FnScope N_messages_right ["_law_text"] (defScope s_messages_right) := ⟨rfl, rfl, rfl, by decide +kernel, rfl, by decide +kernel, by decide +kernel⟩
def m_messages_right : S1 := sSeq (sSet 1 (eLst (lCons (eMkM C_InvalidMachine (eVar 0)) (lCons (eMkM C_InvalidNetwork (eVar 0)) (lCons (eMkM C_InvalidLogs (eVar 0)) (lCons (eMkM C_InvalidConfiguration (eVar 0)) (lNil))))))) (sSeq (sSet 1 (e2 (pu gAdd) (eVar 1) (eLst (lCons (eMkM C_InvalidView (eVar 0)) (lCons (eMkM C_InvalidWord (eVar 0)) (lCons (eMkM C_InvalidOperation (eVar 0)) (lCons (eMkM C_ParseError (eVar 0)) (lCons (eMkM C_InvalidCommand (eVar 0)) (lNil))))))))) (sSeq (sFor (.t [.n 2, .n 3]) (wEnum (lCons (eVar 1) (lNil))) (sSeq (sIf (bOr (bE (e2 (pu (gEq true)) (eCall F_kinds (lCons (eVar 3) (lNil))) (eLc [4] (.n 4) (wRange1 (lCons (eC (.int 9)) (lNil))) (bYes) (e2 (pu (gEq false)) (eVar 4) (eVar 2))))) (bNot (bE (eN (pu (gIsE tab)) (lCons (eVar 3) (lCons (eC (.con (.ref C_LinkError))) (lNil))))))) (sRet (eC (.bl false))) (sNil)) (sIf (bOr (bE (e2 (pu (gEq true)) (eCall F_bases (lCons (eVar 3) (lNil))) (e2 (pu gAdd) (eLst (lCons (eC (.bl true)) (lNil))) (e2 (pu gMul) (eLst (lCons (eC (.bl false)) (lNil))) (eC (.int 6)))))) (bOr (bE (e2 (pu (gInL false)) (eC (.bl true)) (eCall F_others (lCons (eVar 3) (lNil))))) (bE (e2 (pu (gEq true)) (eN (pu (gStrE at_str)) (lCons (eVar 3) (lNil))) (eVar 0))))) (sRet (eC (.bl false))) (sNil)))) (sSeq (sSet 5 (eMkM C_LinkError (eVar 0))) (sRet (eAnd (e2 (pu (gEq false)) (eN (pu (gStrE at_str)) (lCons (eVar 5) (lNil))) (eVar 0)) (eAnd (e2 (pu (gEq false)) (eCall F_kinds (lCons (eVar 5) (lNil))) (e2 (pu gMul) (eLst (lCons (eC (.bl false)) (lNil))) (eC (.int 9)))) (e2 (pu (gEq false)) (eCall F_bases (lCons (eVar 5) (lNil))) (e2 (pu gAdd) (eLst (lCons (eC (.bl true)) (lNil))) (e2 (pu gMul) (eLst (lCons (eC (.bl false)) (lNil))) (eC (.int 6)))))))))))
theorem d_messages_right (T : Txt P K mg base) (c_kinds : Cal P w K mg base 2 "_law_kinds" ["_law_error"] F_kinds) (c_bases : Cal P w K mg base 2 "_law_bases" ["_law_error"] F_bases) (c_others : Cal P w K mg base 2 "_law_others" ["_law_error"] F_others) {f : Addr} {cdv : Value} {A : Around} {outer : List PySem.Env} {s : Shared} {H : Hp} {E : XK} (rm : Rm 2 (A.deeper (PyProof.Rows.envOfC "_law_messages_right" (defScope s_messages_right) s.heap.objs.size f cdv))) :
    MSs (cxF P w K mg base N_messages_right "_law_messages_right" s_messages_right f cdv A outer s H E) (wxF E) (defBody s_messages_right) m_messages_right := by
  exact mss_cons (ms_setD (i := 1) sc_messages_right.nd rfl (Or.inl rfl) (me_lst (ml_cons (me_mkM PySem.F.excBase_ValueError T.ex_InvalidMachine T.g_InvalidMachine T.kp_InvalidMachine (by rfl) (me_var (pv 0))) (ml_cons (me_mkM PySem.F.excBase_ValueError T.ex_InvalidNetwork T.g_InvalidNetwork T.kp_InvalidNetwork (by rfl) (me_var (pv 0))) (ml_cons (me_mkM PySem.F.excBase_ValueError T.ex_InvalidLogs T.g_InvalidLogs T.kp_InvalidLogs (by rfl) (me_var (pv 0))) (ml_cons (me_mkM PySem.F.excBase_ValueError T.ex_InvalidConfiguration T.g_InvalidConfiguration T.kp_InvalidConfiguration (by rfl) (me_var (pv 0))) (ml_nil))))))) (mss_cons (ms_setD (i := 1) sc_messages_right.nd rfl (Or.inl rfl) (me_op op_gAdd (me_var (pv 1)) (me_lst (ml_cons (me_mkM PySem.F.excBase_ValueError T.ex_InvalidView T.g_InvalidView T.kp_InvalidView (by rfl) (me_var (pv 0))) (ml_cons (me_mkM PySem.F.excBase_ValueError T.ex_InvalidWord T.g_InvalidWord T.kp_InvalidWord (by rfl) (me_var (pv 0))) (ml_cons (me_mkM PySem.F.excBase_ValueError T.ex_InvalidOperation T.g_InvalidOperation T.kp_InvalidOperation (by rfl) (me_var (pv 0))) (ml_cons (me_mkM PySem.F.excBase_ValueError T.ex_ParseError T.g_ParseError T.kp_ParseError (by rfl) (me_var (pv 0))) (ml_cons (me_mkM PySem.F.excBase_ValueError T.ex_InvalidCommand T.g_InvalidCommand T.kp_InvalidCommand (by rfl) (me_var (pv 0))) (ml_nil))))))))) (mss_cons (ms_for passF rfl (mi_enum (ml_cons (me_var (pv 1)) (ml_nil)) (by rfl) T.b_enumerate) (mg_tupD (mgs_cons (mg_name (pg_name (i := 2) sc_messages_right.nd rfl (Or.inr rfl))) (mgs_cons (mg_name (pg_name (i := 3) sc_messages_right.nd rfl (Or.inl rfl))) (mgs_nil))) rfl) (mss_cons (ms_if (MW.toT (mw_or (mt_cmp (op_gNe rm.toRoom.units) (nomark _) (me_call c_kinds (rm.mono (by decide)) (by rfl) tkF (ml_cons (me_var (pv 3)) (ml_nil))) (me_lc (own := [("_law_other", 4)]) rfl sc_messages_right.nd (blkOk_by (own := [("_law_other", 4)]) (N := N_messages_right) (sc := defScope s_messages_right) (by decide +kernel)) (by decide +kernel) (mi_range1D (ml_cons (me_int) (ml_nil)) (by rfl) T.b_range) (fun _ _ _ _ _ => mg_name (pg_name (i := 4) sc_messages_right.nd rfl (Or.inl rfl))) (fun _ _ _ _ _ => mts_nil) (fun _ _ _ _ _ => me_cmp (op_gEq rm.toRoom.units) (nomark _) (me_var (pv 4)) (me_var (pv 2))))) (mw_or1 (mt_not (mt_val (me_bB (call_gIsE T.tab) (by rfl) T.b_isinstance (by decide +kernel) (ml_cons (me_var (pv 3)) (ml_cons (me_cls (by rfl) T.g_LinkError) (ml_nil))))))))) (mss_one (ms_ret (me_bl))) (mss_nil)) (mss_one (ms_if (MW.toT (mw_or (mt_cmp (op_gNe rm.toRoom.units) (nomark _) (me_call c_bases (rm.mono (by decide)) (by rfl) tkF (ml_cons (me_var (pv 3)) (ml_nil))) (me_op op_gAdd (me_lst (ml_cons (me_bl) (ml_nil))) (me_op op_gMul (me_lst (ml_cons (me_bl) (ml_nil))) (me_int)))) (mw_or (mt_cmp (op_gInL rm.u65) (by rfl) (me_bl) (me_call c_others (rm.mono (by decide)) (by rfl) tkF (ml_cons (me_var (pv 3)) (ml_nil)))) (mw_or1 (mt_cmp (op_gNe rm.toRoom.units) (nomark _) (me_bT (call_gStrE T.st rm) (by rfl) T.b_str (by decide +kernel) (ml_cons (me_var (pv 3)) (ml_nil))) (me_var (pv 0))))))) (mss_one (ms_ret (me_bl))) (mss_nil))))) (mss_cons (ms_setD (i := 5) sc_messages_right.nd rfl (Or.inl rfl) (me_mkM PySem.F.excBase_ValueError T.ex_LinkError T.g_LinkError T.kp_LinkError (by rfl) (me_var (pv 0)))) (mss_one (ms_ret (me_and (me_cmp (op_gEq rm.toRoom.units) (nomark _) (me_bT (call_gStrE T.st rm) (by rfl) T.b_str (by decide +kernel) (ml_cons (me_var (pv 5)) (ml_nil))) (me_var (pv 0))) (me_and (me_cmp (op_gEq rm.toRoom.units) (nomark _) (me_call c_kinds (rm.mono (by decide)) (by rfl) tkF (ml_cons (me_var (pv 5)) (ml_nil))) (me_op op_gMul (me_lst (ml_cons (me_bl) (ml_nil))) (me_int))) (me_one (me_cmp (op_gEq rm.toRoom.units) (nomark _) (me_call c_bases (rm.mono (by decide)) (by rfl) tkF (ml_cons (me_var (pv 5)) (ml_nil))) (me_op op_gAdd (me_lst (ml_cons (me_bl) (ml_nil))) (me_op op_gMul (me_lst (ml_cons (me_bl) (ml_nil))) (me_int))))))))))))
def F_messages_right : Fn := runB N_messages_right.length m_messages_right
abbrev s_values_right : Stmt := top 26
abbrev N_values_right : List Str := ["_law_thing", "_law_number", "_law_run", "_law_some", "_law_kept", "_law_bases_here", "_law_at", "_law_error", "_law_other"]
theorem sc_values_right : FnScope N_values_right ["_law_thing", "_law_number", "_law_run"] (defScope s_values_right) := ⟨rfl, rfl, rfl, by decide +kernel, rfl, by decide +kernel, by decide +kernel⟩
def m_values_right : S1 := sSeq (sSet 3 (eLst (lCons (eMkF C_UnknownName "name" (lCons (eVar 0) (lNil))) (lCons (eMkF C_InvalidNumber "value" (lCons (eVar 0) (lNil))) (lCons (eMkF C_InvalidRun "at" (lCons (eVar 1) (lNil))) (lCons (eMkF C_InvalidPath "at" (lCons (eVar 1) (lNil))) (lCons (eMkF C_TooMany "limit" (lCons (eVar 1) (lNil))) (lNil)))))))) (sSeq (sSet 3 (e2 (pu gAdd) (eVar 3) (eLst (lCons (eMkF C_Crossed "run" (lCons (eVar 2) (lNil))) (lCons (eMkF C_NothingToUndo "many" (lCons (eVar 1) (lNil))) (lNil)))))) (sSeq (sSet 4 (eLst (lCons (e1 (pu (gAtE "name" at_name)) (e2 (pu gIx) (eVar 3) (eC (.int 0)))) (lCons (e1 (pu (gAtE "value" at_value)) (e2 (pu gIx) (eVar 3) (eC (.int 1)))) (lCons (e1 (pu (gAtE "at" at_at)) (e2 (pu gIx) (eVar 3) (eC (.int 2)))) (lCons (e1 (pu (gAtE "at" at_at)) (e2 (pu gIx) (eVar 3) (eC (.int 3)))) (lCons (e1 (pu (gAtE "limit" at_limit)) (e2 (pu gIx) (eVar 3) (eC (.int 4)))) (lCons (e1 (pu (gAtE "run" at_run)) (e2 (pu gIx) (eVar 3) (eC (.int 5)))) (lCons (e1 (pu (gAtE "many" at_many)) (e2 (pu gIx) (eVar 3) (eC (.int 6)))) (lNil)))))))))) (sSeq (sIf (bE (e2 (pu (gEq true)) (eN (pu gRepr) (lCons (eVar 4) (lNil))) (eN (pu gRepr) (lCons (eLst (lCons (eVar 0) (lCons (eVar 0) (lCons (eVar 1) (lCons (eVar 1) (lCons (eVar 1) (lCons (eVar 2) (lCons (eVar 1) (lNil))))))))) (lNil))))) (sRet (eC (.bl false))) (sNil)) (sSeq (sSet 5 (eLst (lCons (eLst (lCons (eC (.int 1)) (lCons (eC (.int 3)) (lNil)))) (lCons (eLst (lCons (eC (.int 2)) (lCons (eC (.int 3)) (lNil)))) (lCons (eLst (lCons (eC (.int 3)) (lNil))) (lCons (eLst (lCons (eC (.int 3)) (lNil))) (lCons (eLst (lCons (eC (.int 4)) (lCons (eC (.int 6)) (lNil)))) (lCons (eLst (lCons (eC (.int 5)) (lNil))) (lCons (eLst (lCons (eC (.int 6)) (lNil))) (lNil)))))))))) (sSeq (sFor (.t [.n 6, .n 7]) (wEnum (lCons (eVar 3) (lNil))) (sSeq (sIf (bOr (bE (e2 (pu (gEq true)) (eCall F_others (lCons (eVar 7) (lNil))) (eLc [8] (.n 8) (wRange1 (lCons (eC (.int 7)) (lNil))) (bYes) (e2 (pu (gEq false)) (eVar 8) (eVar 6))))) (bE (e2 (pu (gInL false)) (eC (.bl true)) (eCall F_kinds (lCons (eVar 7) (lNil)))))) (sRet (eC (.bl false))) (sNil)) (sIf (bOr (bE (eN (pu (gIsE tab)) (lCons (eVar 7) (lCons (eC (.con (.ref C_LinkError))) (lNil))))) (bE (e2 (pu (gEq true)) (eCall F_bases (lCons (eVar 7) (lNil))) (eLc [8] (.n 8) (wRange1 (lCons (eC (.int 7)) (lNil))) (bYes) (e2 (pu (gInL false)) (eVar 8) (e2 (pu gIx) (eVar 5) (eVar 6))))))) (sRet (eC (.bl false))) (sNil)))) (sRet (eC (.bl true))))))))
theorem d_values_right (T : Txt P K mg base) (c_others : Cal P w K mg base 2 "_law_others" ["_law_error"] F_others) (c_kinds : Cal P w K mg base 2 "_law_kinds" ["_law_error"] F_kinds) (c_bases : Cal P w K mg base 2 "_law_bases" ["_law_error"] F_bases) {f : Addr} {cdv : Value} {A : Around} {outer : List PySem.Env} {s : Shared} {H : Hp} {E : XK} (rm : Rm 2 (A.deeper (PyProof.Rows.envOfC "_law_values_right" (defScope s_values_right) s.heap.objs.size f cdv))) :
    MSs (cxF P w K mg base N_values_right "_law_values_right" s_values_right f cdv A outer s H E) (wxF E) (defBody s_values_right) m_values_right := by
  exact mss_cons (ms_setD (i := 3) sc_values_right.nd rfl (Or.inl rfl) (me_lst (ml_cons (me_mkFx T.xi_UnknownName xt_UnknownName T.nosup rm (ml_cons (me_var (pv 0)) (ml_nil)) (by rfl)) (ml_cons (me_mkFx T.xi_InvalidNumber xt_InvalidNumber T.nosup rm (ml_cons (me_var (pv 0)) (ml_nil)) (by rfl)) (ml_cons (me_mkFx T.xi_InvalidRun xt_InvalidRun T.nosup rm (ml_cons (me_var (pv 1)) (ml_nil)) (by rfl)) (ml_cons (me_mkFx T.xi_InvalidPath xt_InvalidPath T.nosup rm (ml_cons (me_var (pv 1)) (ml_nil)) (by rfl)) (ml_cons (me_mkFx T.xi_TooMany xt_TooMany T.nosup rm (ml_cons (me_var (pv 1)) (ml_nil)) (by rfl)) (ml_nil)))))))) (mss_cons (ms_setD (i := 3) sc_values_right.nd rfl (Or.inl rfl) (me_op op_gAdd (me_var (pv 3)) (me_lst (ml_cons (me_mkFx T.xi_Crossed xt_Crossed T.nosup rm (ml_cons (me_var (pv 2)) (ml_nil)) (by rfl)) (ml_cons (me_mkFx T.xi_NothingToUndo xt_NothingToUndo T.nosup rm (ml_cons (me_var (pv 1)) (ml_nil)) (by rfl)) (ml_nil)))))) (mss_cons (ms_setD (i := 4) sc_values_right.nd rfl (Or.inl rfl) (me_lst (ml_cons (me_atE T.at_name (me_ix ix_g (fun _ _ => rfl) (me_var (pv 3)) (me_int))) (ml_cons (me_atE T.at_value (me_ix ix_g (fun _ _ => rfl) (me_var (pv 3)) (me_int))) (ml_cons (me_atE T.at_at (me_ix ix_g (fun _ _ => rfl) (me_var (pv 3)) (me_int))) (ml_cons (me_atE T.at_at (me_ix ix_g (fun _ _ => rfl) (me_var (pv 3)) (me_int))) (ml_cons (me_atE T.at_limit (me_ix ix_g (fun _ _ => rfl) (me_var (pv 3)) (me_int))) (ml_cons (me_atE T.at_run (me_ix ix_g (fun _ _ => rfl) (me_var (pv 3)) (me_int))) (ml_cons (me_atE T.at_many (me_ix ix_g (fun _ _ => rfl) (me_var (pv 3)) (me_int))) (ml_nil)))))))))) (mss_cons (ms_if (mt_cmp (op_gNe rm.toRoom.units) (nomark _) (me_bB (call_gRepr rm (sd_of T.sys)) (by rfl) T.b_repr (by decide +kernel) (ml_cons (me_var (pv 4)) (ml_nil))) (me_bB (call_gRepr rm (sd_of T.sys)) (by rfl) T.b_repr (by decide +kernel) (ml_cons (me_lst (ml_cons (me_var (pv 0)) (ml_cons (me_var (pv 0)) (ml_cons (me_var (pv 1)) (ml_cons (me_var (pv 1)) (ml_cons (me_var (pv 1)) (ml_cons (me_var (pv 2)) (ml_cons (me_var (pv 1)) (ml_nil))))))))) (ml_nil)))) (mss_one (ms_ret (me_bl))) (mss_nil)) (mss_cons (ms_setD (i := 5) sc_values_right.nd rfl (Or.inr rfl) (me_lst (ml_cons (me_lst (ml_cons (me_int) (ml_cons (me_int) (ml_nil)))) (ml_cons (me_lst (ml_cons (me_int) (ml_cons (me_int) (ml_nil)))) (ml_cons (me_lst (ml_cons (me_int) (ml_nil))) (ml_cons (me_lst (ml_cons (me_int) (ml_nil))) (ml_cons (me_lst (ml_cons (me_int) (ml_cons (me_int) (ml_nil)))) (ml_cons (me_lst (ml_cons (me_int) (ml_nil))) (ml_cons (me_lst (ml_cons (me_int) (ml_nil))) (ml_nil)))))))))) (mss_cons (ms_for passF rfl (mi_enum (ml_cons (me_var (pv 3)) (ml_nil)) (by rfl) T.b_enumerate) (mg_tupD (mgs_cons (mg_name (pg_name (i := 6) sc_values_right.nd rfl (Or.inr rfl))) (mgs_cons (mg_name (pg_name (i := 7) sc_values_right.nd rfl (Or.inl rfl))) (mgs_nil))) rfl) (mss_cons (ms_if (MW.toT (mw_or (mt_cmp (op_gNe rm.toRoom.units) (nomark _) (me_call c_others (rm.mono (by decide)) (by rfl) tkF (ml_cons (me_var (pv 7)) (ml_nil))) (me_lc (own := [("_law_other", 8)]) rfl sc_values_right.nd (blkOk_by (own := [("_law_other", 8)]) (N := N_values_right) (sc := defScope s_values_right) (by decide +kernel)) (by decide +kernel) (mi_range1D (ml_cons (me_int) (ml_nil)) (by rfl) T.b_range) (fun _ _ _ _ _ => mg_name (pg_name (i := 8) sc_values_right.nd rfl (Or.inl rfl))) (fun _ _ _ _ _ => mts_nil) (fun _ _ _ _ _ => me_cmp (op_gEq rm.toRoom.units) (nomark _) (me_var (pv 8)) (me_var (pv 6))))) (mw_or1 (mt_cmp (op_gInL rm.u65) (by rfl) (me_bl) (me_call c_kinds (rm.mono (by decide)) (by rfl) tkF (ml_cons (me_var (pv 7)) (ml_nil))))))) (mss_one (ms_ret (me_bl))) (mss_nil)) (mss_one (ms_if (MW.toT (mw_or (mt_val (me_bB (call_gIsE T.tab) (by rfl) T.b_isinstance (by decide +kernel) (ml_cons (me_var (pv 7)) (ml_cons (me_cls (by rfl) T.g_LinkError) (ml_nil))))) (mw_or1 (mt_cmp (op_gNe rm.toRoom.units) (nomark _) (me_call c_bases (rm.mono (by decide)) (by rfl) tkF (ml_cons (me_var (pv 7)) (ml_nil))) (me_lc (own := [("_law_other", 8)]) rfl sc_values_right.nd (blkOk_by (own := [("_law_other", 8)]) (N := N_values_right) (sc := defScope s_values_right) (by decide +kernel)) (by decide +kernel) (mi_range1D (ml_cons (me_int) (ml_nil)) (by rfl) T.b_range) (fun _ _ _ _ _ => mg_name (pg_name (i := 8) sc_values_right.nd rfl (Or.inl rfl))) (fun _ _ _ _ _ => mts_nil) (fun _ _ _ _ _ => me_cmp (op_gInL rm.u65) (by rfl) (me_var (pv 8)) (me_ix ix_g (fun _ _ => rfl) (me_var (pv 5)) (me_var (pv 6))))))))) (mss_one (ms_ret (me_bl))) (mss_nil))))) (mss_one (ms_ret (me_bl))))))))
def F_values_right : Fn := runB N_values_right.length m_values_right
abbrev s_law : Stmt := top 27
abbrev N_law : List Str := ["_law_script", "_law_at", "_law_dice_here", "_law_thing", "_law_text", "_law_number", "_law_run"]
theorem sc_law : FnScope N_law ["_law_script"] (defScope s_law) := ⟨rfl, rfl, rfl, by decide +kernel, rfl, by decide +kernel, by decide +kernel⟩
def m_law : S1 := sSeq (sFor (.n 1) (wRange1 (lCons (eN (pu gMax2) (lCons (eC (.int 1)) (lCons (eN (pu gMin2) (lCons (eC (.int 6)) (lCons (eN (pu gLen) (lCons (eVar 0) (lNil))) (lNil)))) (lNil)))) (lNil))) (sSeq (sSet 2 (eCall F_dice (lCons (eVar 0) (lCons (eVar 1) (lNil))))) (sSeq (sSet 3 (eCall F_one_of (lCons (eVar 2) (lCons (eLst (lCons (eC .non) (lCons (eC (.int 0)) (lCons (e1 (pu gNeg) (eC (.int 1))) (lCons (eC (.str "a")) (lCons (eTup (lNil)) (lCons (eTup (lCons (eC (.str "a")) (lCons (eC (.int 0)) (lNil)))) (lCons (eLst (lCons (eC (.int 1)) (lNil))) (lCons (eDic0) (lCons (e2 (pu gPow) (eC (.int 10)) (eC (.int 39))) (lCons (eTup (lCons (eTup (lCons (eC (.str "a")) (lCons (eC (.int 0)) (lNil)))) (lCons (eTup (lCons (eC (.str "b")) (lCons (eC (.int 1)) (lNil)))) (lNil)))) (lCons (eC (.bl true)) (lNil))))))))))))) (lNil))))) (sSeq (sSet 4 (eCall F_one_of (lCons (eVar 2) (lCons (eLst (lCons (eC (.str "a machine is expected")) (lCons (eC (.str "")) (lCons (eC (.str "x")) (lCons (eC (.str "two words")) (lNil)))))) (lNil))))) (sSeq (sSet 5 (eCall F_one_of (lCons (eVar 2) (lCons (eLst (lCons (eC (.int 0)) (lCons (eC (.int 1)) (lCons (eC (.int 7)) (lCons (eC (.int 20)) (lCons (eC (.int 2000)) (lCons (e2 (pu gPow) (eC (.int 10)) (eC (.int 39))) (lNil)))))))) (lNil))))) (sSeq (sSet 6 (eCall F_one_of (lCons (eVar 2) (lCons (eLst (lCons (eTup (lNil)) (lCons (eTup (lCons (eTup (lCons (eC (.str "a")) (lCons (eC (.int 0)) (lNil)))) (lNil))) (lCons (eTup (lCons (eTup (lCons (eC (.str "a")) (lCons (eC (.int 0)) (lNil)))) (lCons (eTup (lCons (eC (.str "b")) (lCons (eC (.int 1)) (lNil)))) (lNil)))) (lNil))))) (lNil))))) (sIf (bOr (bNot (bE (eCall F_messages_right (lCons (eVar 4) (lNil))))) (bNot (bE (eCall F_values_right (lCons (eVar 3) (lCons (eVar 5) (lCons (eVar 6) (lNil)))))))) (sRet (eC (.bl false))) (sNil)))))))) (sRet (eC (.bl true)))
theorem d_law (T : Txt P K mg base) (c_dice : Cal P w K mg base 2 "_law_dice" ["_law_script", "_law_at"] F_dice) (c_one_of : Cal P w K mg base 3 "_law_one_of" ["_law_dice_here", "_law_items"] F_one_of) (c_messages_right : Cal P w K mg base 3 "_law_messages_right" ["_law_text"] F_messages_right) (c_values_right : Cal P w K mg base 3 "_law_values_right" ["_law_thing", "_law_number", "_law_run"] F_values_right) {f : Addr} {cdv : Value} {A : Around} {outer : List PySem.Env} {s : Shared} {H : Hp} {E : XK} (rm : Rm 3 (A.deeper (PyProof.Rows.envOfC "law" (defScope s_law) s.heap.objs.size f cdv))) :
    MSs (cxF P w K mg base N_law "law" s_law f cdv A outer s H E) (wxF E) (defBody s_law) m_law := by
  exact mss_cons (ms_for passF rfl (mi_range1D (ml_cons (me_bB (call_gMax2 rfl) (by rfl) T.b_max (by decide +kernel) (ml_cons (me_int) (ml_cons (me_bB (call_gMin2 rfl) (by rfl) T.b_min (by decide +kernel) (ml_cons (me_int) (ml_cons (me_bB call_gLen (by rfl) T.b_len (by decide +kernel) (ml_cons (me_var (pv 0)) (ml_nil))) (ml_nil)))) (ml_nil)))) (ml_nil)) (by rfl) T.b_range) (mg_name (pg_name (i := 1) sc_law.nd rfl (Or.inl rfl))) (mss_cons (ms_setD (i := 2) sc_law.nd rfl (Or.inl rfl) (me_call c_dice (rm.mono (by decide)) (by rfl) tkF (ml_cons (me_var (pv 0)) (ml_cons (me_var (pv 1)) (ml_nil))))) (mss_cons (ms_setD (i := 3) sc_law.nd rfl (Or.inl rfl) (me_call c_one_of (rm.mono (by decide)) (by rfl) tkF (ml_cons (me_var (pv 2)) (ml_cons (me_lst (ml_cons (me_non) (ml_cons (me_int) (ml_cons (me_un un_gNeg (me_int)) (ml_cons (me_str) (ml_cons (me_tup (ml_nil)) (ml_cons (me_tup (ml_cons (me_str) (ml_cons (me_int) (ml_nil)))) (ml_cons (me_lst (ml_cons (me_int) (ml_nil))) (ml_cons (me_dic0) (ml_cons (me_op op_gPow (me_int) (me_int)) (ml_cons (me_tup (ml_cons (me_tup (ml_cons (me_str) (ml_cons (me_int) (ml_nil)))) (ml_cons (me_tup (ml_cons (me_str) (ml_cons (me_int) (ml_nil)))) (ml_nil)))) (ml_cons (me_bl) (ml_nil))))))))))))) (ml_nil))))) (mss_cons (ms_setD (i := 4) sc_law.nd rfl (Or.inl rfl) (me_call c_one_of (rm.mono (by decide)) (by rfl) tkF (ml_cons (me_var (pv 2)) (ml_cons (me_lst (ml_cons (me_str) (ml_cons (me_str) (ml_cons (me_str) (ml_cons (me_str) (ml_nil)))))) (ml_nil))))) (mss_cons (ms_setD (i := 5) sc_law.nd rfl (Or.inl rfl) (me_call c_one_of (rm.mono (by decide)) (by rfl) tkF (ml_cons (me_var (pv 2)) (ml_cons (me_lst (ml_cons (me_int) (ml_cons (me_int) (ml_cons (me_int) (ml_cons (me_int) (ml_cons (me_int) (ml_cons (me_op op_gPow (me_int) (me_int)) (ml_nil)))))))) (ml_nil))))) (mss_cons (ms_setD (i := 6) sc_law.nd rfl (Or.inl rfl) (me_call c_one_of (rm.mono (by decide)) (by rfl) tkF (ml_cons (me_var (pv 2)) (ml_cons (me_lst (ml_cons (me_tup (ml_nil)) (ml_cons (me_tup (ml_cons (me_tup (ml_cons (me_str) (ml_cons (me_int) (ml_nil)))) (ml_nil))) (ml_cons (me_tup (ml_cons (me_tup (ml_cons (me_str) (ml_cons (me_int) (ml_nil)))) (ml_cons (me_tup (ml_cons (me_str) (ml_cons (me_int) (ml_nil)))) (ml_nil)))) (ml_nil))))) (ml_nil))))) (mss_one (ms_if (MW.toT (mw_or (mt_not (mt_val (me_call c_messages_right (rm.mono (by decide)) (by rfl) tkF (ml_cons (me_var (pv 4)) (ml_nil))))) (mw_or1 (mt_not (mt_val (me_call c_values_right (rm.mono (by decide)) (by rfl) tkF (ml_cons (me_var (pv 3)) (ml_cons (me_var (pv 5)) (ml_cons (me_var (pv 6)) (ml_nil)))))))))) (mss_one (ms_ret (me_bl))) (mss_nil))))))))) (mss_one (ms_ret (me_bl)))
def F_law : Fn := runB N_law.length m_law
theorem b_dice : BindsAll "_law_dice" s_dice ["_law_script", "_law_at"] := fun _ _ _ _ _ _ us hl => match us, hl with | [_, _], _ => rfl
theorem cal_dice (T : Txt P K mg base) (D_dice : Def K mg "_law_dice" s_dice)  : Cal P w K mg base 2 "_law_dice" ["_law_script", "_law_at"] F_dice := cal_def D_dice sc_dice b_dice (fun f cdv A outer s H E rm => d_dice T  rm) fun _ _ _ => .same _
theorem b_roll : BindsAll "_law_roll" s_roll ["_law_dice_here", "_law_total"] := fun _ _ _ _ _ _ us hl => match us, hl with | [_, _], _ => rfl
theorem cal_roll (T : Txt P K mg base) (D_roll : Def K mg "_law_roll" s_roll)  : Cal P w K mg base 2 "_law_roll" ["_law_dice_here", "_law_total"] F_roll := cal_def D_roll sc_roll b_roll (fun f cdv A outer s H E rm => d_roll T  rm) fun _ _ _ => .same _
theorem b_one_of : BindsAll "_law_one_of" s_one_of ["_law_dice_here", "_law_items"] := fun _ _ _ _ _ _ us hl => match us, hl with | [_, _], _ => rfl
theorem cal_one_of (T : Txt P K mg base) (D_one_of : Def K mg "_law_one_of" s_one_of) (c_roll : Cal P w K mg base 2 "_law_roll" ["_law_dice_here", "_law_total"] F_roll) : Cal P w K mg base 3 "_law_one_of" ["_law_dice_here", "_law_items"] F_one_of := cal_def D_one_of sc_one_of b_one_of (fun f cdv A outer s H E rm => d_one_of T c_roll rm) fun _ _ _ => .same _
theorem b_kinds : BindsAll "_law_kinds" s_kinds ["_law_error"] := fun _ _ _ _ _ _ us hl => match us, hl with | [_], _ => rfl
theorem cal_kinds (T : Txt P K mg base) (D_kinds : Def K mg "_law_kinds" s_kinds)  : Cal P w K mg base 2 "_law_kinds" ["_law_error"] F_kinds := cal_def D_kinds sc_kinds b_kinds (fun f cdv A outer s H E rm => d_kinds T  rm) fun _ _ _ => .same _
theorem b_bases : BindsAll "_law_bases" s_bases ["_law_error"] := fun _ _ _ _ _ _ us hl => match us, hl with | [_], _ => rfl
theorem cal_bases (T : Txt P K mg base) (D_bases : Def K mg "_law_bases" s_bases)  : Cal P w K mg base 2 "_law_bases" ["_law_error"] F_bases := cal_def D_bases sc_bases b_bases (fun f cdv A outer s H E rm => d_bases T  rm) fun _ _ _ => .same _
theorem b_others : BindsAll "_law_others" s_others ["_law_error"] := fun _ _ _ _ _ _ us hl => match us, hl with | [_], _ => rfl
theorem cal_others (T : Txt P K mg base) (D_others : Def K mg "_law_others" s_others)  : Cal P w K mg base 2 "_law_others" ["_law_error"] F_others := cal_def D_others sc_others b_others (fun f cdv A outer s H E rm => d_others T  rm) fun _ _ _ => .same _
theorem b_messages_right : BindsAll "_law_messages_right" s_messages_right ["_law_text"] := fun _ _ _ _ _ _ us hl => match us, hl with | [_], _ => rfl
theorem cal_messages_right (T : Txt P K mg base) (D_messages_right : Def K mg "_law_messages_right" s_messages_right) (c_kinds : Cal P w K mg base 2 "_law_kinds" ["_law_error"] F_kinds) (c_bases : Cal P w K mg base 2 "_law_bases" ["_law_error"] F_bases) (c_others : Cal P w K mg base 2 "_law_others" ["_law_error"] F_others) : Cal P w K mg base 3 "_law_messages_right" ["_law_text"] F_messages_right := cal_def D_messages_right sc_messages_right b_messages_right (fun f cdv A outer s H E rm => d_messages_right T c_kinds c_bases c_others rm) fun _ _ _ => .same _
theorem b_values_right : BindsAll "_law_values_right" s_values_right ["_law_thing", "_law_number", "_law_run"] := fun _ _ _ _ _ _ us hl => match us, hl with | [_, _, _], _ => rfl
theorem cal_values_right (T : Txt P K mg base) (D_values_right : Def K mg "_law_values_right" s_values_right) (c_others : Cal P w K mg base 2 "_law_others" ["_law_error"] F_others) (c_kinds : Cal P w K mg base 2 "_law_kinds" ["_law_error"] F_kinds) (c_bases : Cal P w K mg base 2 "_law_bases" ["_law_error"] F_bases) : Cal P w K mg base 3 "_law_values_right" ["_law_thing", "_law_number", "_law_run"] F_values_right := cal_def D_values_right sc_values_right b_values_right (fun f cdv A outer s H E rm => d_values_right T c_others c_kinds c_bases rm) fun _ _ _ => .same _
theorem b_law : BindsAll "law" s_law ["_law_script"] := fun _ _ _ _ _ _ us hl => match us, hl with | [_], _ => rfl
theorem fin {fa : Addr} (hfa : mg "law" = some (.ref fa)) (T : ∀ base, SysD base → Txt P K mg base) (D_dice : Def K mg "_law_dice" s_dice) (D_roll : Def K mg "_law_roll" s_roll) (D_one_of : Def K mg "_law_one_of" s_one_of) (D_kinds : Def K mg "_law_kinds" s_kinds) (D_bases : Def K mg "_law_bases" s_bases) (D_others : Def K mg "_law_others" s_others) (D_messages_right : Def K mg "_law_messages_right" s_messages_right) (D_values_right : Def K mg "_law_values_right" s_values_right) (D_law : Def K mg "law" s_law) : ∃ fd : FuncData, (∀ (s : Shared) (u : Value), PySem.BindsTo s fd ⟨[u], []⟩ [("_law_script", u)]) ∧ ∀ base : Heap, K.In base → base.Ns mainGlobals mg → SysD base → FnG P w K mg base 4 fa fd ["_law_script"] (spM K 1 F_law) := by
  obtain ⟨f, fd, hm, G⟩ := D_law.ex
  have e := hfa.symm.trans hm
  cases e
  obtain ⟨oc, od, kV, doc, pm, an, cdv, ct, osl, rfl, lk, hcd⟩ := id G.ex
  refine ⟨PySem.W.fnOf "law" "law" (defArgs s_law) (defBody s_law) (defScope s_law) .none kV doc pm an cdv ct, fun s u => .of_eq rfl, fun base _ _ sy => ?_⟩
  have T := T base sy
  have c_dice := cal_dice (w := w) T D_dice 
  have c_roll := cal_roll (w := w) T D_roll 
  have c_one_of := cal_one_of (w := w) T D_one_of c_roll
  have c_kinds := cal_kinds (w := w) T D_kinds 
  have c_bases := cal_bases (w := w) T D_bases 
  have c_others := cal_others (w := w) T D_others 
  have c_messages_right := cal_messages_right (w := w) T D_messages_right c_kinds c_bases c_others
  have c_values_right := cal_values_right (w := w) T D_values_right c_others c_kinds c_bases
  exact fnM_of G sc_law (fun cdv A outer s H E rm => d_law T c_dice c_one_of c_messages_right c_values_right rm) fun _ _ _ => .same _
theorem txt {h : Heap} (X : K.In h) (G : h.Ns mainGlobals mg) (z_super : PySem.W.nsIn K mainGlobals "super" = some none) (z_len : PySem.W.nsIn K mainGlobals "len" = some none) (z_abs : PySem.W.nsIn K mainGlobals "abs" = some none) (z_int : PySem.W.nsIn K mainGlobals "int" = some none) (z_enumerate : PySem.W.nsIn K mainGlobals "enumerate" = some none) (z_range : PySem.W.nsIn K mainGlobals "range" = some none) (z_max : PySem.W.nsIn K mainGlobals "max" = some none) (z_min : PySem.W.nsIn K mainGlobals "min" = some none) (z_isinstance : PySem.W.nsIn K mainGlobals "isinstance" = some none) (z_str : PySem.W.nsIn K mainGlobals "str" = some none) (z_repr : PySem.W.nsIn K mainGlobals "repr" = some none) (z_ValueError : PySem.W.nsIn K mainGlobals "ValueError" = some none) (z_KeyError : PySem.W.nsIn K mainGlobals "KeyError" = some none) (z_IndexError : PySem.W.nsIn K mainGlobals "IndexError" = some none) (z_LookupError : PySem.W.nsIn K mainGlobals "LookupError" = some none) (z_OverflowError : PySem.W.nsIn K mainGlobals "OverflowError" = some none) (z_RuntimeError : PySem.W.nsIn K mainGlobals "RuntimeError" = some none) (z_ArithmeticError : PySem.W.nsIn K mainGlobals "ArithmeticError" = some none) (y_LinkError : PySem.W.nsIn K mainGlobals "LinkError" = some (some (.ref C_LinkError))) (y_InvalidMachine : PySem.W.nsIn K mainGlobals "InvalidMachine" = some (some (.ref C_InvalidMachine))) (y_InvalidNetwork : PySem.W.nsIn K mainGlobals "InvalidNetwork" = some (some (.ref C_InvalidNetwork))) (y_InvalidConfiguration : PySem.W.nsIn K mainGlobals "InvalidConfiguration" = some (some (.ref C_InvalidConfiguration))) (y_InvalidLogs : PySem.W.nsIn K mainGlobals "InvalidLogs" = some (some (.ref C_InvalidLogs))) (y_InvalidView : PySem.W.nsIn K mainGlobals "InvalidView" = some (some (.ref C_InvalidView))) (y_InvalidWord : PySem.W.nsIn K mainGlobals "InvalidWord" = some (some (.ref C_InvalidWord))) (y_InvalidOperation : PySem.W.nsIn K mainGlobals "InvalidOperation" = some (some (.ref C_InvalidOperation))) (y_ParseError : PySem.W.nsIn K mainGlobals "ParseError" = some (some (.ref C_ParseError))) (y_InvalidCommand : PySem.W.nsIn K mainGlobals "InvalidCommand" = some (some (.ref C_InvalidCommand))) (y_UnknownName : PySem.W.nsIn K mainGlobals "UnknownName" = some (some (.ref C_UnknownName))) (y_InvalidNumber : PySem.W.nsIn K mainGlobals "InvalidNumber" = some (some (.ref C_InvalidNumber))) (y_InvalidRun : PySem.W.nsIn K mainGlobals "InvalidRun" = some (some (.ref C_InvalidRun))) (y_InvalidPath : PySem.W.nsIn K mainGlobals "InvalidPath" = some (some (.ref C_InvalidPath))) (y_TooMany : PySem.W.nsIn K mainGlobals "TooMany" = some (some (.ref C_TooMany))) (y_Crossed : PySem.W.nsIn K mainGlobals "Crossed" = some (some (.ref C_Crossed))) (y_NothingToUndo : PySem.W.nsIn K mainGlobals "NothingToUndo" = some (some (.ref C_NothingToUndo))) (x1 : (ms.all fun p => xcB K p.1 p.2) = true) (x2 : (cStr.all fun C => strB K C) = true) (x3 : (cStr.all fun C => PySem.W.excIn K C mVal "ValueError.__new__" && PySem.W.keepIn K (.ref C)) = true) (v_name : (c_name.all fun C => L2.xfB K C && eqB (PySem.W.findIn K (.ref C) "name") (some none)) = true) (v_value : (c_value.all fun C => L2.xfB K C && eqB (PySem.W.findIn K (.ref C) "value") (some none)) = true) (v_at : (c_at.all fun C => L2.xfB K C && eqB (PySem.W.findIn K (.ref C) "at") (some none)) = true) (v_limit : (c_limit.all fun C => L2.xfB K C && eqB (PySem.W.findIn K (.ref C) "limit") (some none)) = true) (v_run : (c_run.all fun C => L2.xfB K C && eqB (PySem.W.findIn K (.ref C) "run") (some none)) = true) (v_many : (c_many.all fun C => L2.xfB K C && eqB (PySem.W.findIn K (.ref C) "many") (some none)) = true) (w_UnknownName : ∀ mg, mg "UnknownName" = some (.ref C_UnknownName) → ∃ fI, Xi P K mg i_UnknownName "UnknownName" "UnknownName.__init__" "name" C_UnknownName fI "KeyError" "LookupError.__new__" "KeyError.__init__" mKey) (w_InvalidNumber : ∀ mg, mg "InvalidNumber" = some (.ref C_InvalidNumber) → ∃ fI, Xi P K mg i_InvalidNumber "InvalidNumber" "InvalidNumber.__init__" "value" C_InvalidNumber fI "IndexError" "IndexError.__new__" "IndexError.__init__" mIndex) (w_InvalidRun : ∀ mg, mg "InvalidRun" = some (.ref C_InvalidRun) → ∃ fI, Xi P K mg i_InvalidRun "InvalidRun" "InvalidRun.__init__" "at" C_InvalidRun fI "LookupError" "LookupError.__new__" "LookupError.__init__" mLookup) (w_InvalidPath : ∀ mg, mg "InvalidPath" = some (.ref C_InvalidPath) → ∃ fI, Xi P K mg i_InvalidPath "InvalidPath" "InvalidPath.__init__" "at" C_InvalidPath fI "LookupError" "LookupError.__new__" "LookupError.__init__" mLookup) (w_TooMany : ∀ mg, mg "TooMany" = some (.ref C_TooMany) → ∃ fI, Xi P K mg i_TooMany "TooMany" "TooMany.__init__" "limit" C_TooMany fI "OverflowError" "OverflowError.__new__" "OverflowError.__init__" mOver) (w_Crossed : ∀ mg, mg "Crossed" = some (.ref C_Crossed) → ∃ fI, Xi P K mg i_Crossed "Crossed" "Crossed.__init__" "run" C_Crossed fI "RuntimeError" "RuntimeError.__new__" "RuntimeError.__init__" mRun) (w_NothingToUndo : ∀ mg, mg "NothingToUndo" = some (.ref C_NothingToUndo) → ∃ fI, Xi P K mg i_NothingToUndo "NothingToUndo" "NothingToUndo.__init__" "many" C_NothingToUndo fI "ArithmeticError" "ArithmeticError.__new__" "ArithmeticError.__init__" mArith) : ∀ base, SysD base → Txt P K mg base := by
  intro base sy
  have k3 : ∀ C ∈ cStr, PySem.W.excIn K C mVal "ValueError.__new__" = true ∧ PySem.W.keepIn K (.ref C) = true := fun C hC => by
    have z := List.all_eq_true.mp x3 C hC
    rwa [Bool.and_eq_true] at z
  exact ⟨sy, (PySem.W.mg_none_of X G z_super), (isTab_of x1 (by decide +kernel)), (strTab_of x2), (PySem.W.mg_none_of X G z_len), (PySem.W.mg_none_of X G z_abs), (PySem.W.mg_none_of X G z_int), (PySem.W.mg_none_of X G z_enumerate), (PySem.W.mg_none_of X G z_range), (PySem.W.mg_none_of X G z_max), (PySem.W.mg_none_of X G z_min), (PySem.W.mg_none_of X G z_isinstance), (PySem.W.mg_none_of X G z_str), (PySem.W.mg_none_of X G z_repr), (PySem.W.mg_none_of X G z_ValueError), (PySem.W.mg_none_of X G z_KeyError), (PySem.W.mg_none_of X G z_IndexError), (PySem.W.mg_none_of X G z_LookupError), (PySem.W.mg_none_of X G z_OverflowError), (PySem.W.mg_none_of X G z_RuntimeError), (PySem.W.mg_none_of X G z_ArithmeticError), (atTab_of v_name), (atTab_of v_value), (atTab_of v_at), (atTab_of v_limit), (atTab_of v_run), (atTab_of v_many), (PySem.W.mg_of X G y_LinkError), (PySem.W.mg_of X G y_InvalidMachine), (PySem.W.mg_of X G y_InvalidNetwork), (PySem.W.mg_of X G y_InvalidConfiguration), (PySem.W.mg_of X G y_InvalidLogs), (PySem.W.mg_of X G y_InvalidView), (PySem.W.mg_of X G y_InvalidWord), (PySem.W.mg_of X G y_InvalidOperation), (PySem.W.mg_of X G y_ParseError), (PySem.W.mg_of X G y_InvalidCommand), (PySem.W.mg_of X G y_UnknownName), (PySem.W.mg_of X G y_InvalidNumber), (PySem.W.mg_of X G y_InvalidRun), (PySem.W.mg_of X G y_InvalidPath), (PySem.W.mg_of X G y_TooMany), (PySem.W.mg_of X G y_Crossed), (PySem.W.mg_of X G y_NothingToUndo), (k3 _ (by decide)).1, (k3 _ (by decide)).2, (k3 _ (by decide)).1, (k3 _ (by decide)).2, (k3 _ (by decide)).1, (k3 _ (by decide)).2, (k3 _ (by decide)).1, (k3 _ (by decide)).2, (k3 _ (by decide)).1, (k3 _ (by decide)).2, (k3 _ (by decide)).1, (k3 _ (by decide)).2, (k3 _ (by decide)).1, (k3 _ (by decide)).2, (k3 _ (by decide)).1, (k3 _ (by decide)).2, (k3 _ (by decide)).1, (k3 _ (by decide)).2, (k3 _ (by decide)).1, (k3 _ (by decide)).2, (w_UnknownName mg (PySem.W.mg_of X G y_UnknownName)), (w_InvalidNumber mg (PySem.W.mg_of X G y_InvalidNumber)), (w_InvalidRun mg (PySem.W.mg_of X G y_InvalidRun)), (w_InvalidPath mg (PySem.W.mg_of X G y_InvalidPath)), (w_TooMany mg (PySem.W.mg_of X G y_TooMany)), (w_Crossed mg (PySem.W.mg_of X G y_Crossed)), (w_NothingToUndo mg (PySem.W.mg_of X G y_NothingToUndo))⟩
end K00

namespace K00
open PySem L2 Mx
/-! ### the plain law of k00 -/
def things : List D := [.non, .int 0, .int (-1), .str "a", .tup [], .tup [.str "a", .int 0], .lst [.int 1], .dic [], .int (10 ^ 39), .tup [.tup [.str "a", .int 0], .tup [.str "b", .int 1]], .bl true]
def texts : List D := [.str "a machine is expected", .str "", .str "x", .str "two words"]
def numbers : List D := [.int 0, .int 1, .int 7, .int 20, .int 2000, .int (10 ^ 39)]
def runs : List D := [.tup [], .tup [.tup [.str "a", .int 0]], .tup [.tup [.str "a", .int 0], .tup [.str "b", .int 1]]]
theorem each4 {a b c d : D} {p : D → Prop} (ha : p a) (hb : p b) (hc : p c) (hd : p d) : ∀ x ∈ [a, b, c, d], p x := by
  intro x hx
  simp only [List.mem_cons, List.not_mem_nil, or_false] at hx
  rcases hx with rfl | rfl | rfl | rfl <;> assumption
theorem msg_ok (mem : Mem) : ∀ x ∈ texts, F_messages_right [x] mem = .ok (.bl true) mem := each4 (by kernel_rfl) (by kernel_rfl) (by kernel_rfl) (by kernel_rfl)
theorem repr_str {mem : Mem} {ds : List D} (h : (gRepr mem ds).isSome = true) : ∃ t, gRepr mem ds = some (.str t) := by
  obtain ⟨d, e⟩ := Option.isSome_iff_exists.mp h
  refine (show ∃ t, d = .str t from ?_).imp fun t ht => by rw [e, ht]
  unfold gRepr at e
  split at e
  · split at e
    · split at e
      · cases e
        exact ⟨_, rfl⟩
      · cases e
    · split at e
      · cases e
        exact ⟨_, rfl⟩
      · cases e
    · cases e
  · cases e
theorem ne_same {mem : Mem} {t : Str} : gEq true mem [.str t, .str t] = some (.bl false) := by
  show some (D.bl (true != decide (t = t))) = _
  rw [decide_eq_true rfl]
  rfl
def seven (x y z : D) : List D := [.exo C_UnknownName (some "name") x, .exo C_InvalidNumber (some "value") x, .exo C_InvalidRun (some "at") y, .exo C_InvalidPath (some "at") y, .exo C_TooMany (some "limit") y, .exo C_Crossed (some "run") z, .exo C_NothingToUndo (some "many") y]
theorem val_gen {x y z : D} {t : Str} {mem : Mem} (h : gRepr mem [.lst [x, x, y, y, y, z, y]] = some (.str t)) : F_values_right [x, y, z] mem = .ok (.bl true) mem := by
  refine run_rt ?_
  show m_values_right [some x, some y, some z, none, none, none, none, none, none] mem = _
  unfold m_values_right
  rw [seq_of (l1 := [some x, some y, some z, some (.lst ((seven x y z).take 5)), none, none, none, none, none]) (m1 := mem) (by kernel_rfl)]
  rw [seq_of (l1 := [some x, some y, some z, some (.lst (seven x y z)), none, none, none, none, none]) (m1 := mem) (by kernel_rfl)]
  rw [seq_of (l1 := [some x, some y, some z, some (.lst (seven x y z)), some (.lst [x, x, y, y, y, z, y]), none, none, none, none]) (m1 := mem) (by kernel_rfl)]
  have c1 : sIf (bE (e2 (pu (gEq true)) (eN (pu gRepr) (lCons (eVar 4) (lNil))) (eN (pu gRepr) (lCons (eLst (lCons (eVar 0) (lCons (eVar 0) (lCons (eVar 1) (lCons (eVar 1) (lCons (eVar 1) (lCons (eVar 2) (lCons (eVar 1) (lNil))))))))) (lNil))))) (sRet (eC (.bl false))) (sNil)
      [some x, some y, some z, some (.lst (seven x y z)), some (.lst [x, x, y, y, y, z, y]), none, none, none, none] mem = .nx [some x, some y, some z, some (.lst (seven x y z)), some (.lst [x, x, y, y, y, z, y]), none, none, none, none] mem := by
    rw [if_of (bE_of (e2_of (one_of (x := .lst [x, x, y, y, y, z, y]) (m1 := mem) rfl h) (one_of (x := .lst [x, x, y, y, y, z, y]) (m1 := mem) rfl h) ne_same)), if_neg Bool.false_ne_true]
    rfl
  rw [seq_of c1]
  kernel_rfl
theorem shown_ok (mem : Mem) : ∀ x ∈ things, ∀ y ∈ numbers, ∀ z ∈ runs, (gRepr mem [.lst [x, x, y, y, y, z, y]]).isSome = true := by
  intro x hx y hy z hz
  simp only [things, numbers, runs, List.mem_cons, List.not_mem_nil, or_false] at hx hy hz
  rcases hx with rfl | rfl | rfl | rfl | rfl | rfl | rfl | rfl | rfl | rfl | rfl <;> rcases hy with rfl | rfl | rfl | rfl | rfl | rfl <;> rcases hz with rfl | rfl | rfl <;> kernel_rfl
theorem val_ok (mem : Mem) : ∀ x ∈ things, ∀ y ∈ numbers, ∀ z ∈ runs, F_values_right [x, y, z] mem = .ok (.bl true) mem := fun x hx y hy z hz =>
  let ⟨_, h⟩ := repr_str (shown_ok mem x hx y hy z hz)
  val_gen h
theorem call1_of {F : Fn} {a : E1} {loc : Mx.Env} {mem m1 : Mem} {x : D} (ha : a loc mem = .ok x m1) : eCall F (lCons a lNil) loc mem = F [x] m1 := by
  simp only [eCall, lCons, lNil, ha, Res.bind]
theorem call3_of {F : Fn} {a b c : E1} {loc : Mx.Env} {mem m1 m2 m3 : Mem} {x y z : D} (ha : a loc mem = .ok x m1) (hb : b loc m1 = .ok y m2) (hc : c loc m2 = .ok z m3) : eCall F (lCons a (lCons b (lCons c lNil))) loc mem = F [x, y, z] m3 := by
  simp only [eCall, lCons, lNil, ha, hb, hc, Res.bind]
theorem bNot_of {a : EB} {loc : Mx.Env} {mem m1 : Mem} {t : Bool} (h : a loc mem = .ok t m1) : bNot a loc mem = .ok (!t) m1 := by
  unfold bNot
  rw [h]
  rfl
theorem bOr_ff {a b : EB} {loc : Mx.Env} {mem m1 m2 : Mem} (h : a loc mem = .ok false m1) (h2 : b loc m1 = .ok false m2) : bOr a b loc mem = .ok false m2 := by
  simp only [bOr, h, Res.bind, Bool.false_eq_true, if_false]
  exact h2
def body : S1 := sSeq (sSet 2 (eCall F_dice (lCons (eVar 0) (lCons (eVar 1) (lNil))))) (sSeq (sSet 3 (eCall F_one_of (lCons (eVar 2) (lCons (eLst (lCons (eC .non) (lCons (eC (.int 0)) (lCons (e1 (pu gNeg) (eC (.int 1))) (lCons (eC (.str "a")) (lCons (eTup (lNil)) (lCons (eTup (lCons (eC (.str "a")) (lCons (eC (.int 0)) (lNil)))) (lCons (eLst (lCons (eC (.int 1)) (lNil))) (lCons (eDic0) (lCons (e2 (pu gPow) (eC (.int 10)) (eC (.int 39))) (lCons (eTup (lCons (eTup (lCons (eC (.str "a")) (lCons (eC (.int 0)) (lNil)))) (lCons (eTup (lCons (eC (.str "b")) (lCons (eC (.int 1)) (lNil)))) (lNil)))) (lCons (eC (.bl true)) (lNil))))))))))))) (lNil))))) (sSeq (sSet 4 (eCall F_one_of (lCons (eVar 2) (lCons (eLst (lCons (eC (.str "a machine is expected")) (lCons (eC (.str "")) (lCons (eC (.str "x")) (lCons (eC (.str "two words")) (lNil)))))) (lNil))))) (sSeq (sSet 5 (eCall F_one_of (lCons (eVar 2) (lCons (eLst (lCons (eC (.int 0)) (lCons (eC (.int 1)) (lCons (eC (.int 7)) (lCons (eC (.int 20)) (lCons (eC (.int 2000)) (lCons (e2 (pu gPow) (eC (.int 10)) (eC (.int 39))) (lNil)))))))) (lNil))))) (sSeq (sSet 6 (eCall F_one_of (lCons (eVar 2) (lCons (eLst (lCons (eTup (lNil)) (lCons (eTup (lCons (eTup (lCons (eC (.str "a")) (lCons (eC (.int 0)) (lNil)))) (lNil))) (lCons (eTup (lCons (eTup (lCons (eC (.str "a")) (lCons (eC (.int 0)) (lNil)))) (lCons (eTup (lCons (eC (.str "b")) (lCons (eC (.int 1)) (lNil)))) (lNil)))) (lNil))))) (lNil))))) (sIf (bOr (bNot (bE (eCall F_messages_right (lCons (eVar 4) (lNil))))) (bNot (bE (eCall F_values_right (lCons (eVar 3) (lCons (eVar 5) (lCons (eVar 6) (lNil)))))))) (sRet (eC (.bl false))) (sNil))))))
theorem pick {N n : Nat} {g s c : Int} {mem : Mem} {ds : List D} {loc : Mx.Env} {e : E1} (h2 : loc[2]? = some (some (.ref n))) (he : ∀ m : Mem, e loc m = .ok (.lst ds) m) (h : mem[n]? = some (dcell g s c)) (d : Dc N g s c) (hN : N < 900000) (l0 : 0 < ds.length) (l1 : ds.length < 9000) :
    ∃ x g' c' mem', eCall F_one_of (lCons (eVar 2) (lCons e lNil)) loc mem = .ok x mem' ∧ mem'[n]? = some (dcell g' s c') ∧ x ∈ ds ∧ Dc (N + 1) g' s c' := by
  obtain ⟨x, g', c', hx, mx, d'⟩ := oneOf_ok h d hN l0 l1
  exact ⟨x, g', c', _, (call2_of (var_of h2) (he mem)).trans hx, get_set h, mx, d'⟩
theorem turn {ns : List Int} {k : Nat} (hk : k ≤ 1000) {o2 o3 o4 o5 o6 : Option D} {mem : Mem} : ∃ p2 p3 p4 p5 p6 mem', body [some (.scr (ns.map .int)), some (.int k), o2, o3, o4, o5, o6] mem = .nx [some (.scr (ns.map .int)), some (.int k), p2, p3, p4, p5, p6] mem' := by
  obtain ⟨g, s, h, d⟩ := dice_ok (ns := ns) (k := k) (mem := mem) hk
  have at0 : (mem ++ [dcell g s 0])[mem.length]? = some (dcell g s 0) := by simp
  unfold body
  rw [seq_of (set_of ((call2_of (F := F_dice) (x := .scr (ns.map .int)) (y := .int k) (m1 := mem) (m2 := mem) rfl rfl).trans h))]
  generalize mem ++ [dcell g s 0] = m0 at at0
  generalize mem.length = n at at0
  show ∃ p2 p3 p4 p5 p6 mem', sSeq _ _ [some (.scr (ns.map .int)), some (.int k), some (.ref n), o3, o4, o5, o6] m0 = _
  obtain ⟨x3, g3, c3, m3, e3, a3, i3, d3⟩ := pick (ds := things) (loc := [some (.scr (ns.map .int)), some (.int k), some (.ref n), o3, o4, o5, o6]) (e := eLst (lCons (eC .non) (lCons (eC (.int 0)) (lCons (e1 (pu gNeg) (eC (.int 1))) (lCons (eC (.str "a")) (lCons (eTup (lNil)) (lCons (eTup (lCons (eC (.str "a")) (lCons (eC (.int 0)) (lNil)))) (lCons (eLst (lCons (eC (.int 1)) (lNil))) (lCons (eDic0) (lCons (e2 (pu gPow) (eC (.int 10)) (eC (.int 39))) (lCons (eTup (lCons (eTup (lCons (eC (.str "a")) (lCons (eC (.int 0)) (lNil)))) (lCons (eTup (lCons (eC (.str "b")) (lCons (eC (.int 1)) (lNil)))) (lNil)))) (lCons (eC (.bl true)) (lNil))))))))))))) rfl (fun m => by kernel_rfl) at0 d (by decide) (by decide) (by decide)
  rw [seq_of (set_of e3)]
  show ∃ p2 p3 p4 p5 p6 mem', sSeq _ _ [some (.scr (ns.map .int)), some (.int k), some (.ref n), some x3, o4, o5, o6] m3 = _
  obtain ⟨x4, g4, c4, m4, e4, a4, i4, d4⟩ := pick (ds := texts) (loc := [some (.scr (ns.map .int)), some (.int k), some (.ref n), some x3, o4, o5, o6]) (e := eLst (lCons (eC (.str "a machine is expected")) (lCons (eC (.str "")) (lCons (eC (.str "x")) (lCons (eC (.str "two words")) (lNil)))))) rfl (fun m => by kernel_rfl) a3 d3 (by decide) (by decide) (by decide)
  rw [seq_of (set_of e4)]
  show ∃ p2 p3 p4 p5 p6 mem', sSeq _ _ [some (.scr (ns.map .int)), some (.int k), some (.ref n), some x3, some x4, o5, o6] m4 = _
  obtain ⟨x5, g5, c5, m5, e5, a5, i5, d5⟩ := pick (ds := numbers) (loc := [some (.scr (ns.map .int)), some (.int k), some (.ref n), some x3, some x4, o5, o6]) (e := eLst (lCons (eC (.int 0)) (lCons (eC (.int 1)) (lCons (eC (.int 7)) (lCons (eC (.int 20)) (lCons (eC (.int 2000)) (lCons (e2 (pu gPow) (eC (.int 10)) (eC (.int 39))) (lNil)))))))) rfl (fun m => by kernel_rfl) a4 d4 (by decide) (by decide) (by decide)
  rw [seq_of (set_of e5)]
  show ∃ p2 p3 p4 p5 p6 mem', sSeq _ _ [some (.scr (ns.map .int)), some (.int k), some (.ref n), some x3, some x4, some x5, o6] m5 = _
  obtain ⟨x6, g6, c6, m6, e6, a6, i6, d6⟩ := pick (ds := runs) (loc := [some (.scr (ns.map .int)), some (.int k), some (.ref n), some x3, some x4, some x5, o6]) (e := eLst (lCons (eTup (lNil)) (lCons (eTup (lCons (eTup (lCons (eC (.str "a")) (lCons (eC (.int 0)) (lNil)))) (lNil))) (lCons (eTup (lCons (eTup (lCons (eC (.str "a")) (lCons (eC (.int 0)) (lNil)))) (lCons (eTup (lCons (eC (.str "b")) (lCons (eC (.int 1)) (lNil)))) (lNil)))) (lNil))))) rfl (fun m => by kernel_rfl) a5 d5 (by decide) (by decide) (by decide)
  rw [seq_of (set_of e6)]
  show ∃ p2 p3 p4 p5 p6 mem', sIf _ _ _ [some (.scr (ns.map .int)), some (.int k), some (.ref n), some x3, some x4, some x5, some x6] m6 = _
  have t1 := bNot_of (bE_of ((call1_of (F := F_messages_right) (a := eVar 4) (loc := [some (.scr (ns.map .int)), some (.int k), some (.ref n), some x3, some x4, some x5, some x6]) (mem := m6) (x := x4) (m1 := m6) rfl).trans (msg_ok m6 x4 i4)))
  have t2 := bNot_of (bE_of ((call3_of (F := F_values_right) (a := eVar 3) (b := eVar 5) (c := eVar 6) (loc := [some (.scr (ns.map .int)), some (.int k), some (.ref n), some x3, some x4, some x5, some x6]) (mem := m6) (x := x3) (y := x5) (z := x6) (m1 := m6) (m2 := m6) (m3 := m6) rfl rfl rfl).trans (val_ok m6 x3 i3 x5 i5 x6 i6)))
  rw [if_of (bOr_ff t1 t2), if_neg Bool.false_ne_true]
  exact ⟨_, _, _, _, _, _, rfl⟩
theorem turns {ns : List Int} : ∀ (ks : List Nat) (o1 o2 o3 o4 o5 o6 : Option D) (mem : Mem), (∀ k ∈ ks, k ≤ 1000) → ∃ p1 p2 p3 p4 p5 p6 mem', loop (.n 1) body (fun _ => true) (ks.map fun i => .int (0 + (i : Nat))) [some (.scr (ns.map .int)), o1, o2, o3, o4, o5, o6] mem = .nx [some (.scr (ns.map .int)), p1, p2, p3, p4, p5, p6] mem'
  | [], _, _, _, _, _, _, _, _ => ⟨_, _, _, _, _, _, _, rfl⟩
  | k :: ks, o1, o2, o3, o4, o5, o6, mem, hb => by
    obtain ⟨p2, p3, p4, p5, p6, m1, h1⟩ := turn (ns := ns) (k := k) (hb k List.mem_cons_self) (o2 := o2) (o3 := o3) (o4 := o4) (o5 := o5) (o6 := o6) (mem := mem)
    obtain ⟨q1, q2, q3, q4, q5, q6, m2, h2⟩ := turns ks (some (.int k)) p2 p3 p4 p5 p6 m1 fun j hj => hb j (List.mem_cons_of_mem _ hj)
    refine ⟨q1, q2, q3, q4, q5, q6, m2, ?_⟩
    rw [List.map_cons, loop, if_pos rfl, Int.zero_add]
    show (match body [some (.scr (ns.map .int)), some (.int k), o2, o3, o4, o5, o6] mem with
      | .nx l m => loop (.n 1) body (fun _ => true) (ks.map fun i => .int (0 + (i : Nat))) l m
      | .ct l m => loop (.n 1) body (fun _ => true) (ks.map fun i => .int (0 + (i : Nat))) l m
      | .bk l m => .nx l m
      | r => r) = _
    rw [h1]
    exact h2
theorem law_true {ns : List Int} (hl : ns.length ≤ 63) (mem : Mem) : ∃ mem', F_law [.scr (ns.map .int)] mem = .ok (.bl true) mem' := by
  have rng : ∃ j : Nat, j ≤ 1000 ∧ wRange1 (lCons (eN (pu gMax2) (lCons (eC (.int 1)) (lCons (eN (pu gMin2) (lCons (eC (.int 6)) (lCons (eN (pu gLen) (lCons (eVar 0) (lNil))) (lNil)))) (lNil)))) (lNil)) [some (.scr (ns.map .int)), none, none, none, none, none, none] mem = .ok { items := rangeD 0 j } mem := by
    have ev : wRange1 (lCons (eN (pu gMax2) (lCons (eC (.int 1)) (lCons (eN (pu gMin2) (lCons (eC (.int 6)) (lCons (eN (pu gLen) (lCons (eVar 0) (lNil))) (lNil)))) (lNil)))) (lNil)) [some (.scr (ns.map .int)), none, none, none, none, none, none] mem =
      (if (if (if ((ns.map D.int).length : Int) < 6 then ((ns.map D.int).length : Int) else 6) > 1 then (if ((ns.map D.int).length : Int) < 6 then ((ns.map D.int).length : Int) else 6) else 1) ≤ (1000000 : Int) ∧ (-1000000 : Int) ≤ (if (if ((ns.map D.int).length : Int) < 6 then ((ns.map D.int).length : Int) else 6) > 1 then (if ((ns.map D.int).length : Int) < 6 then ((ns.map D.int).length : Int) else 6) else 1) then
        Res.ok ({ items := rangeD 0 (if (if ((ns.map D.int).length : Int) < 6 then ((ns.map D.int).length : Int) else 6) > 1 then (if ((ns.map D.int).length : Int) < 6 then ((ns.map D.int).length : Int) else 6) else 1).toNat } : Wk) mem else .bad) := rfl
    rw [ev]
    generalize hz : (if (if ((ns.map D.int).length : Int) < 6 then ((ns.map D.int).length : Int) else 6) > 1 then (if ((ns.map D.int).length : Int) < 6 then ((ns.map D.int).length : Int) else 6) else 1) = z
    have h01 : 0 ≤ z ∧ z ≤ 6 := by
      subst hz
      split <;> split <;> omega
    refine ⟨z.toNat, by omega, ?_⟩
    rw [if_pos ⟨by omega, by omega⟩]
  obtain ⟨j, hj, hr⟩ := rng
  obtain ⟨p1, p2, p3, p4, p5, p6, m1, h1⟩ := turns (ns := ns) (List.range j) none none none none none none mem fun k hk => by
    have := List.mem_range.mp hk
    omega
  refine ⟨m1, run_rt ?_⟩
  show m_law [some (.scr (ns.map .int)), none, none, none, none, none, none] mem = _
  show sSeq (sFor (.n 1) (wRange1 (lCons (eN (pu gMax2) (lCons (eC (.int 1)) (lCons (eN (pu gMin2) (lCons (eC (.int 6)) (lCons (eN (pu gLen) (lCons (eVar 0) (lNil))) (lNil)))) (lNil)))) (lNil))) body) (sRet (eC (.bl true))) [some (.scr (ns.map .int)), none, none, none, none, none, none] mem = _
  rw [seq_of ((for_of hr).trans h1)]
  exact ret_of rfl
theorem reps_int {K : PySem.W.Frag} {α : Ad} {H : Hp} : ∀ ns : List Int, RepL K α H (ns.map .int) (ns.map V.int)
  | [] => .nil
  | n :: ns => .cons (.int n) (reps_int ns)
theorem scr_of {K : PySem.W.Frag} {H : Hp} {a : Addr} {ns : List Int} (only : Only H) (sq : SqL K H a (ns.map V.int)) : Rep K ⟨[], []⟩ H (.scr (ns.map .int)) (.ref a) := by
  rcases sq with (r | r) | r
  · rcases only a with n | ⟨o, xs, f⟩
    · rw [n] at r
      cases r
    · rw [f] at r
      cases r
  · exact .scr ⟨by simp, by simp⟩ r (reps_int ns)
  · exact .scrK r (reps_int ns)
theorem want (K : PySem.W.Frag) (H : Hp) (a : Addr) (ns : List Int) (hl : ns.length ≤ 63) (only : Only H) (sq : SqL K H a (ns.map V.int)) : spM K 1 F_law [.ref a] H (fun v _ => v = .bl true) fun _ _ _ => False := by
  obtain ⟨m', h⟩ := law_true hl []
  refine ⟨rfl, ⟨[], []⟩, [], [.scr (ns.map .int)], ?_, .cons ?_ .nil, ?_⟩
  · exact ⟨List.nodup_nil, rfl, fun n a c e => by simp at e, fun a e => by simp at e⟩
  · exact scr_of only sq
  · rw [h]
    intro α' H' v l hm hr
    cases hr
    rfl
end K00

open PySem PySem.W PyProof.Rows
set_option maxRecDepth 100000 in
set_option maxHeartbeats 0 in
theorem PySem.Challenge.cw_halflink_k00_errors_and_their_fields_holds : PySem.Challenge.rw_halflink_k00_errors_and_their_fields.Holds := by
  w_on; o_law; k_head; (case hw => w_witness2)
  k_fill
  refine Mx.end_walk (l := PySem.Challenge.rw_halflink_k00_errors_and_their_fields) (n := 63) (k := 4) (x := "_law_script") (sp := fun K => Mx.spM K 1 K00.F_law) rfl (by decide) rfl ⟨⟨rfl, by decide, by decide⟩, rfl⟩ ?imp (fun w h Y => PySem.W.kIn_of Y) ?F ?want
  case imp => first | rfl | decide +kernel
  case want => exact K00.want
  case F =>
    intro w mg fa h KX G hmg
    refine K00.fin hmg ?tx ?D_dice ?D_roll ?D_one_of ?D_kinds ?D_bases ?D_others ?D_messages_right ?D_values_right ?D_law
    case tx =>
      refine' K00.txt KX G ?z_super ?z_len ?z_abs ?z_int ?z_enumerate ?z_range ?z_max ?z_min ?z_isinstance ?z_str ?z_repr ?z_ValueError ?z_KeyError ?z_IndexError ?z_LookupError ?z_OverflowError ?z_RuntimeError ?z_ArithmeticError ?y_LinkError ?y_InvalidMachine ?y_InvalidNetwork ?y_InvalidConfiguration ?y_InvalidLogs ?y_InvalidView ?y_InvalidWord ?y_InvalidOperation ?y_ParseError ?y_InvalidCommand ?y_UnknownName ?y_InvalidNumber ?y_InvalidRun ?y_InvalidPath ?y_TooMany ?y_Crossed ?y_NothingToUndo ?x1 ?x2 ?x3 ?v_name ?v_value ?v_at ?v_limit ?v_run ?v_many ?w_UnknownName ?w_InvalidNumber ?w_InvalidRun ?w_InvalidPath ?w_TooMany ?w_Crossed ?w_NothingToUndo
      (case z_super => k_is)
      (case z_len => k_is)
      (case z_abs => k_is)
      (case z_int => k_is)
      (case z_enumerate => k_is)
      (case z_range => k_is)
      (case z_max => k_is)
      (case z_min => k_is)
      (case z_isinstance => k_is)
      (case z_str => k_is)
      (case z_repr => k_is)
      (case z_ValueError => k_is)
      (case z_KeyError => k_is)
      (case z_IndexError => k_is)
      (case z_LookupError => k_is)
      (case z_OverflowError => k_is)
      (case z_RuntimeError => k_is)
      (case z_ArithmeticError => k_is)
      (case y_LinkError => k_is)
      (case y_InvalidMachine => k_is)
      (case y_InvalidNetwork => k_is)
      (case y_InvalidConfiguration => k_is)
      (case y_InvalidLogs => k_is)
      (case y_InvalidView => k_is)
      (case y_InvalidWord => k_is)
      (case y_InvalidOperation => k_is)
      (case y_ParseError => k_is)
      (case y_InvalidCommand => k_is)
      (case y_UnknownName => k_is)
      (case y_InvalidNumber => k_is)
      (case y_InvalidRun => k_is)
      (case y_InvalidPath => k_is)
      (case y_TooMany => k_is)
      (case y_Crossed => k_is)
      (case y_NothingToUndo => k_is)
      (case x1 => kernel_rfl)
      (case x2 => kernel_rfl)
      (case x3 => kernel_rfl)
      (case v_name => kernel_rfl)
      (case v_value => kernel_rfl)
      (case v_at => kernel_rfl)
      (case v_limit => kernel_rfl)
      (case v_run => kernel_rfl)
      (case v_many => kernel_rfl)
      case w_UnknownName =>
        intro mg hg
        refine' ⟨_, Mx.xi_of (h := h) Mx.bKey hg ?iC ?z ?hC ?lf ?code ?lc ?ld ?hf ?same⟩
        (case iC => k_is); (case hC => k_is); (case lf => k_is); (case code => k_is); (case lc => k_is); (case ld => k_is); (case hf => exact rfl); (case same => kernel_rfl); (case z => kernel_rfl)
      case w_InvalidNumber =>
        intro mg hg
        refine' ⟨_, Mx.xi_of (h := h) Mx.bIndex hg ?iC ?z ?hC ?lf ?code ?lc ?ld ?hf ?same⟩
        (case iC => k_is); (case hC => k_is); (case lf => k_is); (case code => k_is); (case lc => k_is); (case ld => k_is); (case hf => exact rfl); (case same => kernel_rfl); (case z => kernel_rfl)
      case w_InvalidRun =>
        intro mg hg
        refine' ⟨_, Mx.xi_of (h := h) Mx.bLookup hg ?iC ?z ?hC ?lf ?code ?lc ?ld ?hf ?same⟩
        (case iC => k_is); (case hC => k_is); (case lf => k_is); (case code => k_is); (case lc => k_is); (case ld => k_is); (case hf => exact rfl); (case same => kernel_rfl); (case z => kernel_rfl)
      case w_InvalidPath =>
        intro mg hg
        refine' ⟨_, Mx.xi_of (h := h) Mx.bLookup hg ?iC ?z ?hC ?lf ?code ?lc ?ld ?hf ?same⟩
        (case iC => k_is); (case hC => k_is); (case lf => k_is); (case code => k_is); (case lc => k_is); (case ld => k_is); (case hf => exact rfl); (case same => kernel_rfl); (case z => kernel_rfl)
      case w_TooMany =>
        intro mg hg
        refine' ⟨_, Mx.xi_of (h := h) Mx.bOver hg ?iC ?z ?hC ?lf ?code ?lc ?ld ?hf ?same⟩
        (case iC => k_is); (case hC => k_is); (case lf => k_is); (case code => k_is); (case lc => k_is); (case ld => k_is); (case hf => exact rfl); (case same => kernel_rfl); (case z => kernel_rfl)
      case w_Crossed =>
        intro mg hg
        refine' ⟨_, Mx.xi_of (h := h) Mx.bRun hg ?iC ?z ?hC ?lf ?code ?lc ?ld ?hf ?same⟩
        (case iC => k_is); (case hC => k_is); (case lf => k_is); (case code => k_is); (case lc => k_is); (case ld => k_is); (case hf => exact rfl); (case same => kernel_rfl); (case z => kernel_rfl)
      case w_NothingToUndo =>
        intro mg hg
        refine' ⟨_, Mx.xi_of (h := h) Mx.bArith hg ?iC ?z ?hC ?lf ?code ?lc ?ld ?hf ?same⟩
        (case iC => k_is); (case hC => k_is); (case lf => k_is); (case code => k_is); (case lc => k_is); (case ld => k_is); (case hf => exact rfl); (case same => kernel_rfl); (case z => kernel_rfl)
    case D_dice =>
      refine' Mx.def_mk KX G ?a ?l ?c ?k
      (case a => k_is); (case l => k_is); (case c => k_is); (case k => k_is)
    case D_roll =>
      refine' Mx.def_mk KX G ?a ?l ?c ?k
      (case a => k_is); (case l => k_is); (case c => k_is); (case k => k_is)
    case D_one_of =>
      refine' Mx.def_mk KX G ?a ?l ?c ?k
      (case a => k_is); (case l => k_is); (case c => k_is); (case k => k_is)
    case D_kinds =>
      refine' Mx.def_mk KX G ?a ?l ?c ?k
      (case a => k_is); (case l => k_is); (case c => k_is); (case k => k_is)
    case D_bases =>
      refine' Mx.def_mk KX G ?a ?l ?c ?k
      (case a => k_is); (case l => k_is); (case c => k_is); (case k => k_is)
    case D_others =>
      refine' Mx.def_mk KX G ?a ?l ?c ?k
      (case a => k_is); (case l => k_is); (case c => k_is); (case k => k_is)
    case D_messages_right =>
      refine' Mx.def_mk KX G ?a ?l ?c ?k
      (case a => k_is); (case l => k_is); (case c => k_is); (case k => k_is)
    case D_values_right =>
      refine' Mx.def_mk KX G ?a ?l ?c ?k
      (case a => k_is); (case l => k_is); (case c => k_is); (case k => k_is)
    case D_law =>
      refine' Mx.def_mk KX G ?a ?l ?c ?k
      (case a => k_is); (case l => k_is); (case c => k_is); (case k => k_is)

