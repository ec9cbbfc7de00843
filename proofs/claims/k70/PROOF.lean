import PyProof.Rows.All
import Wide.All
import OpenK.AllK
import Wide.FinOn
import PySem.Challenge.RW_halflink_k70_words_and_moves_as_texts
import HandS.ForMost
import HandS.ForExc
import HandS.Lambda
import HandS.TupAny
import HandS.Wide
import HandS.Deep
import KE.KExcSuper
import KE.KExcInit
import PyProof.ExcBaseAll.IndexError
import PyProof.Rows.FactsExc_KeyError
import HandS.ExcValue
import HandS.IsInst
import HandS.ExcField
import HandS.ExcIs
import KE.KExcIs
import KE.KExcStr
import KE.KIsAll
import PyProof.ReprRoads
import KE.DataCmp
import KE.DataAny
import HandS.RaiseMore
import HandS.Zip
import HandS.Style
import KE.GoesMore
import PyProof.EnumMake
import PyProof.TupleKey
import PyProof.P3Eq
import HandS.TupSets
import KE.SortData
import HandS.SetBool
import HandS.EndTab
import HandS.Replace
import HandS.FStr
import HandS.Text
import PyProof.StrOps2
import KE.KRevSl
set_option Elab.async false
set_option linter.all false
set_option maxRecDepth 100000
set_option maxHeartbeats 4000000
/-! M0: the mirror layer: plain data D, cells, what stands for what, results. -/
namespace Mx
open PySem L2

/-- plain data; ref: a cell that may change; con: a value that the program's text holds (a def, a class) -/
inductive D where
  | non | bl (b : Bool) | int (i : Int) | str (s : Str)
  | tup (ds : List D) | lst (ds : List D) | dic (kvs : List (Key × D))
  | ref (n : Nat) | con (v : V) | scr (ds : List D)
  /-- an exception object as a value: its class, its field (none: a message alone), what it holds -/
  | exo (C : Addr) (fld : Option Str) (d : D)
inductive Cell where
  | lst (ds : List D) | dic (kvs : List (Key × D))
  /-- the table at P of code objects of the name q -/
  | tab (P : Addr) (q : Str)
abbrev Mem := List Cell
abbrev Env := List (Option D)
/-- an exception: its class, its one field -/
structure Ex where
  cls : Value
  fld : Option (Str × D)
inductive Res (β : Type) where
  | ok (b : β) (m : Mem) | ex (e : Ex) (m : Mem) | bad
def Res.bind {β γ : Type} : Res β → (β → Mem → Res γ) → Res γ
  | .ok b m, k => k b m
  | .ex e m, _ => .ex e m
  | .bad, _ => .bad

def WrT (K : PySem.W.Frag) (a : Addr) (xs : List V) : Prop :=
  ∃ (o : Obj) (its : Array Value) (n : Nat), K.lookup a = some o ∧ o.cls = .type "tuple" ∧ o.data = .seq its n ∧ its.size ≤ sizeLine ∧ Vals xs its.toList
def WrL (K : PySem.W.Frag) (a : Addr) (xs : List V) : Prop :=
  ∃ (o : Obj) (its : Array Value) (n : Nat), K.lookup a = some o ∧ o.cls = .type "list" ∧ o.dict = none ∧ o.data = .seq its n ∧ its.size ≤ sizeLine ∧ Vals xs its.toList

/-- where the cells stand; what is hidden (a list that a comprehension makes) -/
structure Ad where
  cells : List Addr
  hid : List Addr
def Ad.off (Γ : Ad) (a : Addr) : Prop := a ∉ Γ.cells ∧ a ∉ Γ.hid

/-- an exception object, its args at t, no dict -/
def exMO (a C t : Addr) : HO := .ext fun h => h.get? a = some ({ cls := .ref C, data := .fields #[.ref t, .none, .none, .none, .bool false, .none] } : Obj)
/-- an exception object of a class, its dict at dx -/
def exGO (a C : Addr) (dx : Option Addr) : HO := .ext fun h => ∃ o : Obj, h.get? a = some o ∧ o.cls = .ref C ∧ o.dict = dx ∧ ∃ vs, o.data = .fields vs
abbrev exFO (a C dx : Addr) : HO := exGO a C (some dx)
mutual
inductive Rep (K : PySem.W.Frag) (α : Ad) (H : Hp) : D → V → Prop
  | non : Rep K α H .non .non
  | bl (b : Bool) : Rep K α H (.bl b) (.bl b)
  | int (i : Int) : Rep K α H (.int i) (.int i)
  | str (x : Str) : Rep K α H (.str x) (.str x)
  | tup {a : Addr} {xs : List V} {ds : List D} : α.off a → Rd H a (.tup xs) → RepL K α H ds xs → Rep K α H (.tup ds) (.ref a)
  | tupK {a : Addr} {xs : List V} {ds : List D} : WrT K a xs → RepL K α H ds xs → Rep K α H (.tup ds) (.ref a)
  | lst {a : Addr} {xs : List V} {ds : List D} : α.off a → H a = some (.lst xs) → RepL K α H ds xs → Rep K α H (.lst ds) (.ref a)
  | scr {a : Addr} {xs : List V} {ds : List D} : α.off a → (∃ o, H a = some (.frz o (.lst xs))) → RepL K α H ds xs → Rep K α H (.scr ds) (.ref a)
  | scrK {a : Addr} {xs : List V} {ds : List D} : WrL K a xs → RepL K α H ds xs → Rep K α H (.scr ds) (.ref a)
  | dic {a : Addr} {kvs : List (Key × V)} {ds : List (Key × D)} : α.off a → H a = some (.dK kvs) → RepK K α H ds kvs → Rep K α H (.dic ds) (.ref a)
  | ref {n : Nat} {a : Addr} : α.cells[n]? = some a → Rep K α H (.ref n) (.ref a)
  | con (v : V) : Rep K α H (.con v) v
  | exm {a t C : Addr} {d : D} {v : V} : α.off a → α.off t → H a = some (exMO a C t) → H t = some (.tup [v]) → Rep K α H d v → Rep K α H (.exo C none d) (.ref a)
  | exf {a dx C : Addr} {f : Str} {d : D} {v : V} : α.off a → α.off dx → H a = some (exFO a C dx) → H dx = some (.xd [(f, v)]) → Rep K α H d v → Rep K α H (.exo C (some f) d) (.ref a)
  /-- caught, and but its class is known -/
  | exn {a C : Addr} : α.off a → H a = some (exGO a C none) → Rep K α H (.exo C (some "") .non) (.ref a)
inductive RepL (K : PySem.W.Frag) (α : Ad) (H : Hp) : List D → List V → Prop
  | nil : RepL K α H [] []
  | cons {d : D} {v : V} {ds : List D} {vs : List V} : Rep K α H d v → RepL K α H ds vs → RepL K α H (d :: ds) (v :: vs)
inductive RepK (K : PySem.W.Frag) (α : Ad) (H : Hp) : List (Key × D) → List (Key × V) → Prop
  | nil : RepK K α H [] []
  | cons {k : Key} {d : D} {v : V} {ds : List (Key × D)} {vs : List (Key × V)} : Rep K α H d v → RepK K α H ds vs → RepK K α H ((k, d) :: ds) ((k, v) :: vs)
end

/-- what is no cell and not hidden stays; the cells are the same and perhaps more -/
structure Lk (α : Ad) (H : Hp) (α' : Ad) (H' : Hp) : Prop where
  keep : ∀ a o, α.off a → H a = some o → α'.off a ∧ H' a = some o
  pre : ∃ β, α'.cells = α.cells ++ β
/-- later: also what is hidden stays -/
structure Lt (α : Ad) (H : Hp) (α' : Ad) (H' : Hp) : Prop extends Lk α H α' H' where
  hold : ∀ a o, a ∈ α.hid → a ∉ α.cells → H a = some o → a ∉ α'.cells ∧ H' a = some o
  hideq : α'.hid = α.hid
theorem Lk.refl (α : Ad) (H : Hp) : Lk α H α H := ⟨fun _ _ h e => ⟨h, e⟩, [], by simp⟩
theorem Lt.refl (α : Ad) (H : Hp) : Lt α H α H := ⟨Lk.refl α H, fun _ _ _ h e => ⟨h, e⟩, rfl⟩
theorem Lk.trans {α β γ : Ad} {H H1 H2 : Hp} (a : Lk α H β H1) (b : Lk β H1 γ H2) : Lk α H γ H2 :=
  ⟨fun x o h e => let ⟨h1, e1⟩ := a.keep x o h e; b.keep x o h1 e1, by
    obtain ⟨u, e1⟩ := a.pre
    obtain ⟨v, e2⟩ := b.pre
    exact ⟨u ++ v, by rw [e2, e1]; simp⟩⟩
theorem Lt.trans {α β γ : Ad} {H H1 H2 : Hp} (a : Lt α H β H1) (b : Lt β H1 γ H2) : Lt α H γ H2 :=
  ⟨a.toLk.trans b.toLk, fun x o h1 h2 e => let ⟨q1, q2⟩ := a.hold x o h1 h2 e; b.hold x o (by rw [a.hideq]; exact h1) q1 q2, b.hideq.trans a.hideq⟩
theorem Lk.get {α β : Ad} {H H1 : Hp} (l : Lk α H β H1) {n : Nat} {a : Addr} (h : α.cells[n]? = some a) : β.cells[n]? = some a := by
  obtain ⟨u, e⟩ := l.pre
  rw [e, List.getElem?_append_left (List.getElem?_eq_some_iff.mp h).1]
  exact h
theorem Lt.same {α : Ad} {H H' : Hp} (e : Same H H') : Lt α H α H' := ⟨⟨fun a o h q => ⟨h, e a o q⟩, [], by simp⟩, fun a o _ h q => ⟨h, e a o q⟩, rfl⟩
theorem Lk.rd {α β : Ad} {H H1 : Hp} (l : Lk α H β H1) {a : Addr} {u : HO} (h : α.off a) (r : Rd H a u) : β.off a ∧ Rd H1 a u := by
  rcases r with r | ⟨o, r⟩
  · exact ⟨(l.keep _ _ h r).1, .inl (l.keep _ _ h r).2⟩
  · exact ⟨(l.keep _ _ h r).1, .inr ⟨o, (l.keep _ _ h r).2⟩⟩
section
variable {K : PySem.W.Frag} {α β : Ad} {H H1 : Hp}
mutual
theorem Rep.mono (l : Lk α H β H1) : ∀ {d : D} {v : V}, Rep K α H d v → Rep K β H1 d v
  | _, _, .non => .non
  | _, _, .bl b => .bl b
  | _, _, .int i => .int i
  | _, _, .str x => .str x
  | _, _, .tup h r rs => .tup (l.rd h r).1 (l.rd h r).2 (RepL.mono l rs)
  | _, _, .tupK h rs => .tupK h (RepL.mono l rs)
  | _, _, .lst h r rs => .lst (l.keep _ _ h r).1 (l.keep _ _ h r).2 (RepL.mono l rs)
  | _, _, .scr h ⟨o, r⟩ rs => .scr (l.keep _ _ h r).1 ⟨o, (l.keep _ _ h r).2⟩ (RepL.mono l rs)
  | _, _, .scrK h rs => .scrK h (RepL.mono l rs)
  | _, _, .dic h r rs => .dic (l.keep _ _ h r).1 (l.keep _ _ h r).2 (RepK.mono l rs)
  | _, _, .ref h => .ref (l.get h)
  | _, _, .con v => .con v
  | _, _, .exm h h2 r r2 rs => .exm (l.keep _ _ h r).1 (l.keep _ _ h2 r2).1 (l.keep _ _ h r).2 (l.keep _ _ h2 r2).2 (Rep.mono l rs)
  | _, _, .exf h h2 r r2 rs => .exf (l.keep _ _ h r).1 (l.keep _ _ h2 r2).1 (l.keep _ _ h r).2 (l.keep _ _ h2 r2).2 (Rep.mono l rs)
  | _, _, .exn h r => .exn (l.keep _ _ h r).1 (l.keep _ _ h r).2
theorem RepL.mono (l : Lk α H β H1) : ∀ {ds : List D} {vs : List V}, RepL K α H ds vs → RepL K β H1 ds vs
  | _, _, .nil => .nil
  | _, _, .cons h t => .cons (Rep.mono l h) (RepL.mono l t)
theorem RepK.mono (l : Lk α H β H1) : ∀ {ds : List (Key × D)} {vs : List (Key × V)}, RepK K α H ds vs → RepK K β H1 ds vs
  | _, _, .nil => .nil
  | _, _, .cons h t => .cons (Rep.mono l h) (RepK.mono l t)
end
theorem RepL.length : ∀ {ds : List D} {vs : List V}, RepL K α H ds vs → ds.length = vs.length
  | _, _, .nil => rfl
  | _, _, .cons _ t => congrArg (· + 1) (RepL.length t)
theorem RepL.get : ∀ {ds : List D} {vs : List V} {i : Nat} {d : D}, RepL K α H ds vs → ds[i]? = some d → ∃ v, vs[i]? = some v ∧ Rep K α H d v
  | _, _, _, _, .nil, e => by simp at e
  | _, _, 0, _, .cons h _, e => by simp at e; subst e; exact ⟨_, rfl, h⟩
  | _, _, i + 1, _, .cons _ t, e => by
    obtain ⟨v, h1, h2⟩ := RepL.get (i := i) t (by simpa using e)
    exact ⟨v, by simpa using h1, h2⟩
theorem RepL.getV : ∀ {ds : List D} {vs : List V} {i : Nat} {v : V}, RepL K α H ds vs → vs[i]? = some v → ∃ d, ds[i]? = some d ∧ Rep K α H d v
  | _, _, _, _, .nil, e => by simp at e
  | _, _, 0, _, .cons h _, e => by simp at e; subst e; exact ⟨_, rfl, h⟩
  | _, _, i + 1, _, .cons _ t, e => by
    obtain ⟨v, h1, h2⟩ := RepL.getV (i := i) t (by simpa using e)
    exact ⟨v, by simpa using h1, h2⟩
theorem RepL.append : ∀ {ds es : List D} {vs us : List V}, RepL K α H ds vs → RepL K α H es us → RepL K α H (ds ++ es) (vs ++ us)
  | _, _, _, _, .nil, s => s
  | _, _, _, _, .cons h t, s => .cons h (RepL.append t s)
theorem RepL.take : ∀ {ds : List D} {vs : List V} (n : Nat), RepL K α H ds vs → RepL K α H (ds.take n) (vs.take n)
  | _, _, 0, _ => .nil
  | _, _, _ + 1, .nil => .nil
  | _, _, n + 1, .cons r t => .cons r (RepL.take n t)
theorem RepL.drop : ∀ {ds : List D} {vs : List V} (n : Nat), RepL K α H ds vs → RepL K α H (ds.drop n) (vs.drop n)
  | _, _, 0, r => r
  | _, _, _ + 1, .nil => .nil
  | _, _, n + 1, .cons _ t => RepL.drop n t
theorem RepL.set {d : D} {v : V} (h : Rep K α H d v) : ∀ {ds : List D} {vs : List V} (i : Nat), RepL K α H ds vs → RepL K α H (ds.set i d) (vs.set i v)
  | _, _, _, .nil => .nil
  | _, _, 0, .cons _ t => .cons h t
  | _, _, i + 1, .cons q t => .cons q (RepL.set h i t)
theorem RepL.snoc {ds : List D} {vs : List V} {d : D} {v : V} (r : RepL K α H ds vs) (h : Rep K α H d v) : RepL K α H (ds ++ [d]) (vs ++ [v]) := r.append (.cons h .nil)
theorem RepL.rev : ∀ {ds : List D} {vs : List V}, RepL K α H ds vs → RepL K α H ds.reverse vs.reverse
  | _, _, .nil => .nil
  | _, _, .cons h t => by
    rw [List.reverse_cons, List.reverse_cons]
    exact (RepL.rev t).snoc h
theorem Rep.seqT {ds : List D} {v : V} (r : Rep K α H (.tup ds) v) : ∃ a xs, v = .ref a ∧ SqT K H a xs ∧ RepL K α H ds xs := by
  cases r with
  | tup _ r rs => exact ⟨_, _, rfl, .inl r, rs⟩
  | tupK w rs => exact ⟨_, _, rfl, .inr w, rs⟩
theorem Rep.seqL {ds : List D} {v : V} (r : Rep K α H (.lst ds) v) : ∃ a xs, v = .ref a ∧ SqL K H a xs ∧ RepL K α H ds xs := by
  cases r with
  | lst _ r rs => exact ⟨_, _, rfl, SqL.of r, rs⟩
theorem Rep.seqS {ds : List D} {v : V} (r : Rep K α H (.scr ds) v) : ∃ a xs, v = .ref a ∧ SqL K H a xs ∧ RepL K α H ds xs := by
  cases r with
  | scr _ r rs => exact ⟨_, _, rfl, .inl (.inr r), rs⟩
  | scrK w rs => exact ⟨_, _, rfl, .inr w, rs⟩
theorem Rep.ref_ {n : Nat} {v : V} (r : Rep K α H (.ref n) v) : ∃ a, v = .ref a ∧ α.cells[n]? = some a := by
  cases r with
  | ref h => exact ⟨_, rfl, h⟩
end

/-- what stands at a cell -/
def CellAt (K : PySem.W.Frag) (α : Ad) (H : Hp) (a : Addr) : Cell → Prop
  | .lst ds => ∃ xs, H a = some (.lst xs) ∧ RepL K α H ds xs
  | .dic ds => ∃ kvs, H a = some (.dK kvs) ∧ RepK K α H ds kvs
  | .tab P q => a = P ∧ ∃ ps : Array Value, H a = some (.tbl ps) ∧ TriplesOk ps.toList ∧ ∀ (pos : Pos) (cv : Value), codeAmong pos ps.toList = some cv → ∃ c, cv = .ref c ∧ α.off c ∧ H c = some (LamX.CodeO c q)
structure MemRep (K : PySem.W.Frag) (α : Ad) (H : Hp) (mem : Mem) : Prop where
  nd : α.cells.Nodup
  len : α.cells.length = mem.length
  cell : ∀ (n : Nat) (a : Addr) (c : Cell), α.cells[n]? = some a → mem[n]? = some c → CellAt K α H a c
  hid : ∀ a ∈ α.hid, (∃ o, H a = some o) ∧ a ∉ α.cells
def LocRep (K : PySem.W.Frag) (α : Ad) (H : Hp) (loc : Env) (σ : St) : Prop :=
  loc.length = σ.length ∧ ∀ (i : Nat) (d : D), loc[i]? = some (some d) → ∃ v, σ[i]? = some (some v) ∧ Rep K α H d v
def RepX (K : PySem.W.Frag) (α : Ad) (H : Hp) (e : Ex) (cls : Value) (dd : Option Addr) : Prop :=
  e.cls = cls ∧ match e.fld with
  | none => dd = none
  | some (f, d) => ∃ a v, dd = some a ∧ α.off a ∧ H a = some (.xd [(f, v)]) ∧ Rep K α H d v
section
variable {K : PySem.W.Frag} {α β : Ad} {H H1 : Hp} {mem : Mem}
theorem CellAt.mono (l : Lk α H β H1) {a : Addr} (hh : H1 a = H a) : ∀ {c : Cell}, CellAt K α H a c → CellAt K β H1 a c
  | .lst _, ⟨xs, h, r⟩ => ⟨xs, by rw [hh]; exact h, r.mono l⟩
  | .dic _, ⟨xs, h, r⟩ => ⟨xs, by rw [hh]; exact h, r.mono l⟩
  | .tab _ _, ⟨e, ps, h, h2, h3⟩ => ⟨e, ps, by rw [hh]; exact h, h2, fun pos cv q => let ⟨c, c1, c2, c3⟩ := h3 pos cv q; ⟨c, c1, (l.keep _ _ c2 c3).1, (l.keep _ _ c2 c3).2⟩⟩
theorem CellAt.some {a : Addr} : ∀ {c : Cell}, CellAt K α H a c → ∃ o, H a = Option.some o
  | .lst _, ⟨_, h, _⟩ => ⟨_, h⟩
  | .dic _, ⟨_, h, _⟩ => ⟨_, h⟩
  | .tab _ _, ⟨_, _, h, _⟩ => ⟨_, h⟩
theorem LocRep.mono (l : Lk α H β H1) {loc : Env} {σ : St} (h : LocRep K α H loc σ) : LocRep K β H1 loc σ :=
  ⟨h.1, fun i d e => let ⟨v, q, r⟩ := h.2 i d e; ⟨v, q, r.mono l⟩⟩
theorem LocRep.set {loc : Env} {σ : St} {d : D} {v : V} (h : LocRep K α H loc σ) (r : Rep K α H d v) (i : Nat) : LocRep K α H (loc.set i (some d)) (σ.set i (some v)) := by
  refine ⟨by simp [h.1], fun j e q => ?_⟩
  by_cases hj : i = j
  · subst hj
    by_cases hl : i < loc.length
    · rw [List.getElem?_set_self hl] at q
      cases q
      exact ⟨v, List.getElem?_set_self (h.1 ▸ hl), r⟩
    · rw [List.getElem?_eq_none (by simpa using hl)] at q
      cases q
  · rw [List.getElem?_set_ne hj] at q
    obtain ⟨u, q1, r1⟩ := h.2 j e q
    exact ⟨u, by rw [List.getElem?_set_ne hj]; exact q1, r1⟩
theorem MemRep.at_ (h : MemRep K α H mem) {n : Nat} {a : Addr} (e : α.cells[n]? = some a) : ∃ c, mem[n]? = some c ∧ CellAt K α H a c := by
  have hl : n < mem.length := by rw [← h.len]; exact (List.getElem?_eq_some_iff.mp e).1
  exact ⟨mem[n], List.getElem?_eq_getElem hl, h.cell n a _ e (List.getElem?_eq_getElem hl)⟩
theorem MemRep.at2 (h : MemRep K α H mem) {n : Nat} {c : Cell} (e : mem[n]? = some c) : ∃ a, α.cells[n]? = some a ∧ CellAt K α H a c := by
  have hl : n < α.cells.length := by rw [h.len]; exact (List.getElem?_eq_some_iff.mp e).1
  exact ⟨α.cells[n], List.getElem?_eq_getElem hl, h.cell n _ c (List.getElem?_eq_getElem hl) e⟩
theorem MemRep.tracked (h : MemRep K α H mem) {a : Addr} (e : a ∈ α.cells) : ∃ o, H a = some o := by
  obtain ⟨n, hn⟩ := List.getElem?_of_mem e
  obtain ⟨c, _, hc⟩ := h.at_ hn
  exact hc.some
/-- an extension of the heap -/
theorem MemRep.same (h : MemRep K α H mem) (e : Same H H1) : MemRep K α H1 mem :=
  ⟨h.nd, h.len, fun n a c q1 q2 => by
    have hc := h.cell n a c q1 q2
    obtain ⟨o, ho⟩ := hc.some
    exact hc.mono (Lt.same e).toLk (by rw [ho]; exact e _ _ ho), fun a ha => let ⟨⟨o, ho⟩, hn⟩ := h.hid a ha; ⟨⟨o, e _ _ ho⟩, hn⟩⟩
theorem same_new {p : Addr} {o : HO} (h : H p = none) : Same H (upd H p o) := fun b u e => by
  rw [upd_ne (ne_of_none e h)]
  exact e
theorem MemRep.fresh (h : MemRep K α H mem) {p : Addr} (hp : H p = none) : α.off p := ⟨(fun q => by
  obtain ⟨o, ho⟩ := h.tracked q
  rw [hp] at ho
  cases ho), (fun q => by
  obtain ⟨⟨o, ho⟩, _⟩ := h.hid p q
  rw [hp] at ho
  cases ho)⟩
def Ad.push (α : Ad) (p : Addr) : Ad := ⟨α.cells ++ [p], α.hid⟩
/-- a new cell -/
theorem Lt.cell {p : Addr} {o : HO} (hp : H p = none) : Lt α H (α.push p) (upd H p o) :=
  ⟨⟨fun a u h e => ⟨⟨(fun q => by
    rcases List.mem_append.mp q with q | q
    · exact h.1 q
    · rw [List.mem_singleton.mp q, hp] at e
      cases e), h.2⟩, same_new hp a u e⟩, [p], rfl⟩, fun a u h1 h2 e => ⟨(fun q => by
    rcases List.mem_append.mp q with q | q
    · exact h2 q
    · rw [List.mem_singleton.mp q, hp] at e
      cases e), same_new hp a u e⟩, rfl⟩
theorem MemRep.push {p : Addr} {o : HO} {c : Cell} (h : MemRep K α H mem) (hp : H p = none) (hc : CellAt K (α.push p) (upd H p o) p c) : MemRep K (α.push p) (upd H p o) (mem ++ [c]) := by
  refine ⟨?_, by simp [Ad.push, h.len], fun n a d e1 e2 => ?_, fun a ha => ?_⟩
  · show (α.cells ++ [p]).Nodup
    rw [List.nodup_append]
    refine ⟨h.nd, by simp, fun a ha b hb => ?_⟩
    rw [List.mem_singleton.mp hb]
    rintro rfl
    exact (h.fresh hp).1 ha
  · have e1 : (α.cells ++ [p])[n]? = Option.some a := e1
    by_cases hn : n < α.cells.length
    · rw [List.getElem?_append_left hn] at e1
      rw [List.getElem?_append_left (h.len ▸ hn)] at e2
      have hc := h.cell n a d e1 e2
      obtain ⟨u, hu⟩ := hc.some
      exact hc.mono (Lt.cell hp).toLk (by rw [hu]; exact same_new hp _ _ hu)
    · have h1 := (List.getElem?_eq_some_iff.mp e1).1
      rw [List.length_append, List.length_singleton] at h1
      have hn' : n = α.cells.length := by omega
      subst hn'
      rw [List.getElem?_append_right (Nat.le_refl _)] at e1
      rw [h.len, List.getElem?_append_right (Nat.le_refl _)] at e2
      simp at e1 e2
      subst e1 e2
      exact hc
  · obtain ⟨⟨u, hu⟩, hn⟩ := h.hid a ha
    refine ⟨⟨u, same_new hp _ _ hu⟩, fun q => ?_⟩
    rcases List.mem_append.mp q with q | q
    · exact hn q
    · rw [List.mem_singleton.mp q, hp] at hu
      cases hu
/-- a cell is written -/
theorem Lk.write {a : Addr} {o : HO} (ha : ¬ α.off a) : Lk α H α (upd H a o) :=
  ⟨fun b u h e => ⟨h, by rw [upd_ne (fun z : b = a => ha (by rw [← z]; exact h))]; exact e⟩, [], by simp⟩
theorem Lt.write {a : Addr} {o : HO} (ha : a ∈ α.cells) : Lt α H α (upd H a o) :=
  ⟨Lk.write (fun h => h.1 ha), fun b u h1 h2 e => ⟨h2, by rw [upd_ne (fun z : b = a => h2 (by rw [z]; exact ha))]; exact e⟩, rfl⟩
theorem MemRep.write {n : Nat} {a : Addr} {o : HO} {c : Cell} (h : MemRep K α H mem) (hn : α.cells[n]? = some a) (hc : CellAt K α (upd H a o) a c) : MemRep K α (upd H a o) (mem.set n c) := by
  have ha := List.mem_of_getElem? hn
  refine ⟨h.nd, by simp [h.len], fun m b d e1 e2 => ?_, fun b hb => ?_⟩
  · by_cases hm : n = m
    · subst hm
      rw [e1] at hn
      cases hn
      rw [List.getElem?_set_self (h.len ▸ (List.getElem?_eq_some_iff.mp e1).1)] at e2
      cases e2
      exact hc
    · rw [List.getElem?_set_ne hm] at e2
      have hb : b ≠ a := fun z => by
        subst z
        obtain ⟨h1, q1⟩ := List.getElem?_eq_some_iff.mp e1
        obtain ⟨h2, q2⟩ := List.getElem?_eq_some_iff.mp hn
        exact hm ((List.getElem_inj h.nd).mp (q2.trans q1.symm))
      exact (h.cell m b d e1 e2).mono (Lt.write ha).toLk (upd_ne hb)
  · obtain ⟨⟨u, hu⟩, hn⟩ := h.hid b hb
    exact ⟨⟨u, by rw [upd_ne (fun z : b = a => hn (by rw [z]; exact ha))]; exact hu⟩, hn⟩
/-- what is hidden is written -/
theorem MemRep.writeH {a : Addr} {o : HO} (h : MemRep K α H mem) (ha : a ∈ α.hid) : MemRep K α (upd H a o) mem := by
  have na := (h.hid a ha).2
  refine ⟨h.nd, h.len, fun n b c e1 e2 => ?_, fun b hb => ?_⟩
  · have hb : b ≠ a := fun z => na (by rw [← z]; exact List.mem_of_getElem? e1)
    exact (h.cell n b c e1 e2).mono (Lk.write fun q => q.2 ha) (upd_ne hb)
  · obtain ⟨⟨u, hu⟩, hn⟩ := h.hid b hb
    by_cases e : b = a
    · subst e; exact ⟨⟨o, upd_same⟩, hn⟩
    · exact ⟨⟨u, by rw [upd_ne e]; exact hu⟩, hn⟩
/-- something new is hidden -/
def Ad.hide (α : Ad) (p : Addr) : Ad := ⟨α.cells, p :: α.hid⟩
theorem Lk.hide {p : Addr} {o : HO} (hp : H p = none) : Lk α H (α.hide p) (upd H p o) :=
  ⟨fun a u h e => ⟨⟨h.1, fun q => by
    rcases List.mem_cons.mp q with q | q
    · rw [q, hp] at e; cases e
    · exact h.2 q⟩, same_new hp a u e⟩, [], by simp [Ad.hide]⟩
theorem MemRep.hide {p : Addr} {o : HO} (h : MemRep K α H mem) (hp : H p = none) : MemRep K (α.hide p) (upd H p o) mem := by
  have h1 := h.same (same_new (o := o) hp)
  refine ⟨h1.nd, h1.len, fun n a c e1 e2 => ?_, fun a ha => ?_⟩
  · have hc := h.cell n a c e1 e2
    obtain ⟨u, hu⟩ := hc.some
    exact hc.mono (Lk.hide hp) (by rw [hu]; exact same_new hp _ _ hu)
  · rcases List.mem_cons.mp ha with q | q
    · rw [q]; exact ⟨⟨o, upd_same⟩, (h.fresh hp).1⟩
    · exact h1.hid a q
/-- .. and shown again -/
theorem Lk.unhide {l : List Addr} (hl : ∀ a ∈ l, a ∈ α.hid) : Lk α H ⟨α.cells, l⟩ H := ⟨fun a o h e => ⟨⟨h.1, fun q => h.2 (hl a q)⟩, e⟩, [], by simp⟩
theorem MemRep.unhide {l : List Addr} (h : MemRep K α H mem) (hl : ∀ a ∈ l, a ∈ α.hid) : MemRep K ⟨α.cells, l⟩ H mem :=
  ⟨h.nd, h.len, fun n a c e1 e2 => (h.cell n a c e1 e2).mono (Lk.unhide hl) rfl, fun a ha => h.hid a (hl a ha)⟩
end

/-- what is wanted behind a result -/
def Post {β γ : Type} (R : Ad → Hp → β → γ → Prop) (K : PySem.W.Frag) (α : Ad) (H : Hp) (r : Res β) (Q : γ → Hp → Prop) (W : XK) : Prop :=
  match r with
  | .ok d m => ∀ α' H' v, Lt α H α' H' → MemRep K α' H' m → R α' H' d v → Q v H'
  | .ex e m => ∀ α' H' c dd, Lt α H α' H' → MemRep K α' H' m → RepX K α' H' e c dd → W c dd H'
  | .bad => False
theorem Post.later {β γ : Type} {R : Ad → Hp → β → γ → Prop} {K : PySem.W.Frag} {α α1 : Ad} {H H1 : Hp} {r : Res β} {Q : γ → Hp → Prop} {W : XK} (l : Lt α H α1 H1) (h : Post R K α H r Q W) : Post R K α1 H1 r Q W := by
  cases r with
  | ok d m => exact fun α' H' v l' => h α' H' v (l.trans l')
  | ex e m => exact fun α' H' c dd l' => h α' H' c dd (l.trans l')
  | bad => exact h
theorem Post.imp {β γ : Type} {R : Ad → Hp → β → γ → Prop} {K : PySem.W.Frag} {α : Ad} {H : Hp} {r : Res β} {Q Q' : γ → Hp → Prop} {W W' : XK} (h : Post R K α H r Q W) (hq : ∀ v H, Q v H → Q' v H) (hw : ∀ c d H, W c d H → W' c d H) : Post R K α H r Q' W' := by
  cases r with
  | ok d m => exact fun α' H' v l' m' r' => hq _ _ (h α' H' v l' m' r')
  | ex e m => exact fun α' H' c dd l' m' r' => hw _ _ _ (h α' H' c dd l' m' r')
  | bad => exact h
abbrev RB (_ : Ad) (_ : Hp) (a b : Bool) : Prop := a = b
/-- a reading by a mirror -/
def tG {β γ : Type} (R : Ad → Hp → β → γ → Prop) (K : PySem.W.Frag) (m : Env → Mem → Res β) (W : WX) : St → Hp → (γ → Hp → Prop) → Prop := fun σ H Q =>
  ∃ α loc mem, MemRep K α H mem ∧ LocRep K α H loc σ ∧ Post R K α H (m loc mem) Q (fun c d H' => W c d σ H')
abbrev E1 := Env → Mem → Res D
abbrev EL := Env → Mem → Res (List D)
abbrev EB := Env → Mem → Res Bool
abbrev tE (K : PySem.W.Frag) (m : E1) (W : WX) : TE := tG (Rep K) K m W
abbrev tL (K : PySem.W.Frag) (m : EL) (W : WX) : TA := tG (RepL K) K m W
abbrev tT (K : PySem.W.Frag) (m : EB) (W : WX) : TT := tG RB K m W
/-- the judgements -/
structure ME (X : Cx) (W : WX) (e : Expr) (m : E1) : Prop where
  pe : PE X e (tE X.K m W)
structure ML (X : Cx) (W : WX) (es : List Expr) (m : EL) : Prop where
  pa : PA X es (tL X.K m W)
  len : ∀ loc mem ds m', m loc mem = .ok ds m' → ds.length = es.length
structure MT (X : Cx) (W : WX) (e : Expr) (m : EB) : Prop where
  pt : PT X e (tT X.K m W)
structure MW (X : Cx) (W : WX) (e : Expr) (m : EB) : Prop where
  pw : PW X e (tT X.K m W)
theorem PE.imp {X : Cx} {e : Expr} {t t' : TE} (h : PE X e t) (i : ∀ σ H Q, t' σ H Q → t σ H Q) : PE X e t' := ⟨fun pins s σ H Q I q => h.run pins s σ H Q I (i σ H Q q)⟩
theorem PT.imp {X : Cx} {e : Expr} {t t' : TT} (h : PT X e t) (i : ∀ σ H Q, t' σ H Q → t σ H Q) : PT X e t' := ⟨fun pins s σ H Q I q => h.run pins s σ H Q I (i σ H Q q)⟩
theorem PW.imp {X : Cx} {e : Expr} {t t' : TT} (h : PW X e t) (i : ∀ σ H Q, t' σ H Q → t σ H Q) : PW X e t' := ⟨fun w pins s σ H Q I q => h.run w pins s σ H Q I (i σ H Q q)⟩
theorem PA.imp {X : Cx} {e : List Expr} {t t' : TA} (h : PA X e t) (i : ∀ σ H Q, t' σ H Q → t σ H Q) : PA X e t' := ⟨fun p pins s σ H Q I q => h.run p pins s σ H Q I (i σ H Q q)⟩
theorem PS.imp {X : Cx} {e : Stmt} {t t' : TS} (h : PS X e t) (i : ∀ Z σ H, t' Z σ H → t Z σ H) : PS X e t' := ⟨fun pins s σ H Z I q => h.run pins s σ H Z I (i Z σ H q)⟩
theorem PSs.imp {X : Cx} {e : List Stmt} {t t' : TS} (h : PSs X e t) (i : ∀ Z σ H, t' Z σ H → t Z σ H) : PSs X e t' := ⟨fun pins s σ H Z I q => h.run pins s σ H Z I (i Z σ H q)⟩

/-- one part, then the rest -/
theorem tG_go {β γ β' γ' : Type} {R : Ad → Hp → β → γ → Prop} {R' : Ad → Hp → β' → γ' → Prop} {K : PySem.W.Frag} {α : Ad} {loc : Env} {mem : Mem} {m : Env → Mem → Res β} {k : β → Mem → Res β'} {W : WX} {σ : St} {H : Hp} {Q : γ' → Hp → Prop} {Q' : γ → Hp → Prop}
    (hm : MemRep K α H mem) (hl : LocRep K α H loc σ) (hp : Post R' K α H ((m loc mem).bind k) Q (fun c d H' => W c d σ H'))
    (hk : ∀ α1 H1 mem1 d v, Lt α H α1 H1 → MemRep K α1 H1 mem1 → LocRep K α1 H1 loc σ → R α1 H1 d v → Post R' K α1 H1 (k d mem1) Q (fun c d H' => W c d σ H') → Q' v H1) : tG R K m W σ H Q' := by
  refine ⟨α, loc, mem, hm, hl, ?_⟩
  cases e : m loc mem with
  | ok d m' =>
    rw [e] at hp
    exact fun α' H' v l hm' hr => hk α' H' m' d v l hm' (hl.mono l.toLk) hr (Post.later l hp)
  | ex e' m' =>
    rw [e] at hp
    exact hp
  | bad =>
    rw [e] at hp
    exact hp.elim
end Mx

/-! M1: expressions. -/
namespace Mx
open PySem L2

def ofP : Option (D × Mem) → Res D
  | some (d, m) => .ok d m
  | none => .bad
/-- an operation by data: the memory, the operands -/
abbrev OpD := Mem → List D → Option (D × Mem)
def pu (g : Mem → List D → Option D) : OpD := fun mem ds => (g mem ds).map fun d => (d, mem)
def rB (K : PySem.W.Frag) (g : OpD) : List V → Hp → VK → Prop := fun xs H Q =>
  ∃ α mem ds z mem', MemRep K α H mem ∧ RepL K α H ds xs ∧ g mem ds = some (z, mem') ∧ ∀ α' H' v, Lt α H α' H' → MemRep K α' H' mem' → Rep K α' H' z v → Q v H'
abbrev rB2 (K : PySem.W.Frag) (g : OpD) : R2 := fun x y H Q => rB K g [x, y] H Q
abbrev rB1 (K : PySem.W.Frag) (g : OpD) : V → Hp → VK → Prop := fun x H Q => rB K g [x] H Q

def eVar (i : Nat) : E1 := fun loc mem => match loc[i]? with
  | some (some d) => .ok d mem
  | _ => .bad
def eC (d : D) : E1 := fun _ mem => .ok d mem
def e1 (g : OpD) (a : E1) : E1 := fun loc mem => (a loc mem).bind fun x m1 => ofP (g m1 [x])
def e2 (g : OpD) (a b : E1) : E1 := fun loc mem => (a loc mem).bind fun x m1 => (b loc m1).bind fun y m2 => ofP (g m2 [x, y])
def eN (g : OpD) (a : EL) : E1 := fun loc mem => (a loc mem).bind fun xs m1 => ofP (g m1 xs)
/-- a receiver of a type, then the arguments -/
def eM (ty : Mem → D → Bool) (g : OpD) (o : E1) (a : EL) : E1 := fun loc mem => (o loc mem).bind fun x m1 => if ty m1 x = true then (a loc m1).bind fun xs m2 => ofP (g m2 (x :: xs)) else .bad
def eM0 (ty : Mem → D → Bool) (g : OpD) (o : E1) : E1 := fun loc mem => (o loc mem).bind fun x m1 => if ty m1 x = true then ofP (g m1 [x]) else .bad
def tyL (mem : Mem) : D → Bool
  | .lst _ => true
  | .ref n => match mem[n]? with
    | some (.lst _) => true
    | _ => false
  | _ => false
def tyS (mem : Mem) : D → Bool
  | .str _ => true
  | _ => false
def tyDc (mem : Mem) : D → Bool
  | .dic _ => true
  | .ref n => match mem[n]? with
    | some (.dic _) => true
    | _ => false
  | _ => false
def lNil : EL := fun _ mem => .ok [] mem
def lCons (a : E1) (r : EL) : EL := fun loc mem => (a loc mem).bind fun x m1 => (r loc m1).bind fun xs m2 => .ok (x :: xs) m2
def eTup (a : EL) : E1 := fun loc mem => (a loc mem).bind fun xs m1 => .ok (.tup xs) m1
def eLst (a : EL) : E1 := fun loc mem => (a loc mem).bind fun xs m1 => .ok (.lst xs) m1
/-- a new cell -/
def eLstC (a : EL) : E1 := fun loc mem => (a loc mem).bind fun xs m1 => .ok (.ref m1.length) (m1 ++ [.lst xs])
def eIf (c : EB) (a b : E1) : E1 := fun loc mem => (c loc mem).bind fun t m1 => if t = true then a loc m1 else b loc m1
def D.bool? : D → Option Bool
  | .bl b => some b
  | _ => none
def eAnd (a b : E1) : E1 := fun loc mem => (a loc mem).bind fun x m1 => match x with
  | .bl true => b loc m1
  | .bl false => .ok (.bl false) m1
  | _ => .bad
def eOr (a b : E1) : E1 := fun loc mem => (a loc mem).bind fun x m1 => match x with
  | .bl true => .ok (.bl true) m1
  | .bl false => b loc m1
  | _ => .bad
def eNot (a : E1) : E1 := fun loc mem => (a loc mem).bind fun x m1 => match x with
  | .bl b => .ok (.bl (!b)) m1
  | _ => .bad
/-- tests -/
def bE (a : E1) : EB := fun loc mem => (a loc mem).bind fun x m1 => match x with
  | .bl b => .ok b m1
  | _ => .bad
def bAnd (a b : EB) : EB := fun loc mem => (a loc mem).bind fun t m1 => if t = true then b loc m1 else .ok false m1
def bOr (a b : EB) : EB := fun loc mem => (a loc mem).bind fun t m1 => if t = true then .ok true m1 else b loc m1
def bNot (a : EB) : EB := fun loc mem => (a loc mem).bind fun t m1 => .ok (!t) m1
/-- a op b op' c -/
def eCh (g g' : OpD) (a b c : E1) : E1 := fun loc mem => (a loc mem).bind fun x m1 => (b loc m1).bind fun y m2 => (ofP (g m2 [x, y])).bind fun z m3 => match z with
  | .bl true => (c loc m3).bind fun w m4 => ofP (g' m4 [y, w])
  | .bl false => .ok (.bl false) m3
  | _ => .bad

section
variable {X : Cx} {W : WX} {e a b c : Expr} {es rest : List Expr} {ma mb mc : E1} {ml : EL} {pos : Pos}

theorem me_var {i : Nat} {x : Str} (h : PE X (.Name x pos) (tVar i)) : ME X W (.Name x pos) (eVar i) := ⟨PE.imp h fun σ H Q q => by
  obtain ⟨α, loc, mem, hm, hl, hp⟩ := q
  unfold eVar at hp
  cases e : loc[i]? with
  | none => rw [e] at hp; exact hp.elim
  | some o =>
    cases o with
    | none => rw [e] at hp; exact hp.elim
    | some d =>
      rw [e] at hp
      obtain ⟨v, hv, hr⟩ := hl.2 i d e
      exact ⟨v, hv, hp α H v (Lt.refl _ _) hm hr⟩⟩
theorem me_c {d : D} {v : V} (h : PE X e (tC v)) (hr : ∀ α H, Rep X.K α H d v) : ME X W e (eC d) := ⟨PE.imp h fun σ H Q q => by
  obtain ⟨α, loc, mem, hm, hl, hp⟩ := q
  exact hp α H v (Lt.refl _ _) hm (hr α H)⟩
theorem me_int {i j} : ME X W (.Constant (.int i) j pos) (eC (.int i)) := me_c pe_int fun _ _ => .int i
theorem me_bl {i j} : ME X W (.Constant (.bool i) j pos) (eC (.bl i)) := me_c pe_bl fun _ _ => .bl i
theorem me_non {j} : ME X W (.Constant .none j pos) (eC .non) := me_c pe_non fun _ _ => .non
theorem me_str {i j} : ME X W (.Constant (.str i) j pos) (eC (.str i)) := me_c pe_str fun _ _ => .str i

theorem rB_of {K : PySem.W.Frag} {α : Ad} {H : Hp} {mem : Mem} {ds : List D} {xs : List V} {g : OpD} {Q : VK} {W : XK} (hm : MemRep K α H mem) (hr : RepL K α H ds xs) (hp : Post (Rep K) K α H (ofP (g mem ds)) Q W) : rB K g xs H Q := by
  cases e : g mem ds with
  | none => rw [e] at hp; exact hp.elim
  | some p =>
    obtain ⟨z, m'⟩ := p
    rw [e] at hp
    exact ⟨α, mem, ds, z, m', hm, hr, e, hp⟩
theorem tE2 {K : PySem.W.Frag} {g : OpD} {σ : St} {H : Hp} {Q : VK} (h : tE K (e2 g ma mb) W σ H Q) : tOp (rB2 K g) (tE K ma W) (tE K mb W) σ H Q := by
  obtain ⟨α, loc, mem, hm, hl, hp⟩ := h
  exact tG_go hm hl hp fun α1 H1 m1 d x l1 hm1 hl1 hr1 hp1 => tG_go hm1 hl1 hp1 fun α2 H2 m2 e y l2 hm2 hl2 hr2 hp2 => rB_of hm2 (.cons (hr1.mono l2.toLk) (.cons hr2 .nil)) hp2
theorem tE1 {K : PySem.W.Frag} {g : OpD} {σ : St} {H : Hp} {Q : VK} (h : tE K (e1 g ma) W σ H Q) : tUn (rB1 K g) (tE K ma W) σ H Q := by
  obtain ⟨α, loc, mem, hm, hl, hp⟩ := h
  exact tG_go hm hl hp fun α1 H1 m1 d x l1 hm1 hl1 hr1 hp1 => rB_of hm1 (.cons hr1 .nil) hp1
theorem tEN {K : PySem.W.Frag} {g : OpD} {σ : St} {H : Hp} {Q : VK} (h : tE K (eN g ml) W σ H Q) : tCB (rB K g) (tL K ml W) σ H Q := by
  obtain ⟨α, loc, mem, hm, hl, hp⟩ := h
  exact tG_go hm hl hp fun α1 H1 m1 d x l1 hm1 hl1 hr1 hp1 => rB_of hm1 hr1 hp1
/-- a op b -/
theorem me_op {op : Operator} {g : OpD} (ho : OpR X (binaryOp op) (rB2 X.K g)) (ha : ME X W a ma) (hb : ME X W b mb) : ME X W (.BinOp a op b pos) (e2 g ma mb) := ⟨PE.imp (pe_op ho ha.pe hb.pe) fun _ _ _ h => tE2 h⟩
theorem me_un {op : UnaryOp} {g : OpD} (ho : UnR X (unaryOp op) (rB1 X.K g)) (ha : ME X W a ma) : ME X W (.UnaryOp op a pos) (e1 g ma) := ⟨PE.imp (pe_un ho ha.pe) fun _ _ _ h => tE1 h⟩
theorem me_cmp {op : CmpOp} {g : OpD} (ho : OpR X (compareOp op) (rB2 X.K g)) (hm : behindInMarks op b = false) (ha : ME X W a ma) (hb : ME X W b mb) : ME X W (.Compare a [op] [b] pos) (e2 g ma mb) := ⟨PE.imp (pe_cmpR ho ha.pe hb.pe hm) fun _ _ _ h => tE2 h⟩
theorem me_ix {g : OpD} (hr : IxR X (rB2 X.K g)) (hs : PlainIx b) (ha : ME X W a ma) (hb : ME X W b mb) : ME X W (.Subscript a b pos) (e2 g ma mb) := ⟨PE.imp (pe_ix hr ha.pe hb.pe hs) fun _ _ _ h => tE2 h⟩
theorem tCh_ {K : PySem.W.Frag} {g g' : OpD} {σ : St} {H : Hp} {Q : VK} (h : tE K (eCh g g' ma mb mc) W σ H Q) : tChain (rB2 K g) (rB2 K g') (tE K ma W) (tE K mb W) (tE K mc W) σ H Q := by
  obtain ⟨α, loc, mem, hm, hl, hp⟩ := h
  refine tG_go hm hl hp fun α1 H1 m1 d x l1 hm1 hl1 hr1 hp1 => tG_go hm1 hl1 hp1 fun α2 H2 m2 e y l2 hm2 hl2 hr2 hp2 => ?_
  have hr1' := hr1.mono l2.toLk
  cases ez : g m2 [d, e] with
  | none => rw [ez] at hp2; exact hp2.elim
  | some p =>
    obtain ⟨z, m3⟩ := p
    rw [ez] at hp2
    refine ⟨α2, m2, [d, e], z, m3, hm2, .cons hr1' (.cons hr2 .nil), ez, fun α3 H3 v l3 hm3 hr3 => ?_⟩
    have hp3 := Post.later l3 hp2
    clear hp2
    cases z with
    | bl k =>
      cases hr3
      refine ⟨k, rfl, ?_⟩
      cases k with
      | true =>
        rw [if_pos rfl]
        exact tG_go hm3 (hl2.mono l3.toLk) hp3 fun α4 H4 m4 w' u l4 hm4 hl4 hr4 hp4 => rB_of hm4 (.cons ((hr2.mono l3.toLk).mono l4.toLk) (.cons hr4 .nil)) hp4
      | false =>
        rw [if_neg (by simp)]
        exact hp3 α3 H3 _ (Lt.refl _ _) hm3 (.bl false)
    | _ => exact hp3.elim
theorem me_ch {op op' : CmpOp} {g g' : OpD} (ho : OpR X (compareOp op) (rB2 X.K g)) (ho' : OpR X (compareOp op') (rB2 X.K g')) (ha : ME X W a ma) (hb : ME X W b mb) (hc : ME X W c mc) (hm : lastMarks [op, op'] [b, c] = false := by with_unfolding_all rfl) : ME X W (.Compare a [op, op'] [b, c] pos) (eCh g g' ma mb mc) := ⟨PE.imp (pe_chain ho ho' ha.pe hb.pe hc.pe hm) fun _ _ _ h => tCh_ h⟩

/-! lists of expressions -/
theorem ml_nil : ML X W [] lNil := ⟨PA.imp pa_nil fun σ H Q h => by
  obtain ⟨α, loc, mem, hm, hl, hp⟩ := h
  exact hp α H [] (Lt.refl _ _) hm .nil, fun _ _ _ _ h => by cases h; rfl⟩
theorem ml_cons {ml : EL} (ha : ME X W e ma) (hr : ML X W es ml) (hs : starEach (e :: es) X.env = (false, eval e X.env) :: starEach es X.env := by rfl) : ML X W (e :: es) (lCons ma ml) := ⟨PA.imp (pa_cons ha.pe hr.pa hs) fun σ H Q h => by
  obtain ⟨α, loc, mem, hm, hl, hp⟩ := h
  exact tG_go hm hl hp fun α1 H1 m1 d x l1 hm1 hl1 hr1 hp1 => tG_go hm1 hl1 hp1 fun α2 H2 m2 ds xs l2 hm2 hl2 hr2 hp2 => hp2 α2 H2 _ (Lt.refl _ _) hm2 (.cons (hr1.mono l2.toLk) hr2), fun loc mem ds m' h => by
    unfold lCons at h
    cases e1 : ma loc mem with
    | ok x m1 =>
      rw [e1] at h
      cases e2 : ml loc m1 with
      | ok xs m2 =>
        simp only [Res.bind, e2] at h
        cases h
        exact congrArg (· + 1) (hr.len _ _ _ _ e2)
      | ex _ _ => simp only [Res.bind, e2] at h; cases h
      | bad => simp only [Res.bind, e2] at h; cases h
    | ex _ _ => rw [e1] at h; cases h
    | bad => rw [e1] at h; cases h⟩
theorem small_of {n : Nat} (h : n ≤ 1000000) : n ≤ sizeLine := Nat.le_trans h (by rw [sizeLine_eq]; decide)
/-- as tG_go, the result of the part known -/
theorem tG_goE {β γ β' γ' : Type} {R : Ad → Hp → β → γ → Prop} {R' : Ad → Hp → β' → γ' → Prop} {K : PySem.W.Frag} {α : Ad} {loc : Mx.Env} {mem : Mem} {m : Mx.Env → Mem → Res β} {k : β → Mem → Res β'} {W : WX} {σ : St} {H : Hp} {Q : γ' → Hp → Prop} {Q' : γ → Hp → Prop}
    (hm : MemRep K α H mem) (hl : LocRep K α H loc σ) (hp : Post R' K α H ((m loc mem).bind k) Q (fun c d H' => W c d σ H'))
    (hk : ∀ α1 H1 mem1 d v, m loc mem = .ok d mem1 → Lt α H α1 H1 → MemRep K α1 H1 mem1 → LocRep K α1 H1 loc σ → R α1 H1 d v → Post R' K α1 H1 (k d mem1) Q (fun c d H' => W c d σ H') → Q' v H1) : tG R K m W σ H Q' := by
  refine ⟨α, loc, mem, hm, hl, ?_⟩
  cases e : m loc mem with
  | ok d m' =>
    rw [e] at hp
    exact fun α' H' v l hm' hr => hk α' H' m' d v e l hm' (hl.mono l.toLk) hr (Post.later l hp)
  | ex e' m' =>
    rw [e] at hp
    exact hp
  | bad =>
    rw [e] at hp
    exact hp.elim
theorem me_tup {x1} (h : ML X W es ml) (hz : es.length ≤ 1000000 := by decide) : ME X W (.Tuple es x1 pos) (eTup ml) := ⟨PE.imp (pe_tup h.pa) fun σ H Q q => by
  obtain ⟨α, loc, mem, hm, hl, hp⟩ := q
  refine tG_goE hm hl hp fun α1 H1 m1 ds xs e1 l1 hm1 hl1 hr1 hp1 => ?_
  refine ⟨small_of (by rw [← hr1.length, h.len _ _ _ _ e1]; exact hz), fun p np => ?_⟩
  have sm := same_new (o := .tup xs) np
  exact hp1 α1 _ _ (Lt.same sm) (hm1.same sm) (.tup (hm1.fresh np) (.inl upd_same) (hr1.mono (Lt.same sm).toLk))⟩
theorem me_lst (h : ML X W es ml) (hz : es.length ≤ 1000000 := by decide) : ME X W (.List es pos) (eLst ml) := ⟨PE.imp (pe_lst h.pa) fun σ H Q q => by
  obtain ⟨α, loc, mem, hm, hl, hp⟩ := q
  refine tG_goE hm hl hp fun α1 H1 m1 ds xs e1 l1 hm1 hl1 hr1 hp1 => ?_
  refine ⟨small_of (by rw [← hr1.length, h.len _ _ _ _ e1]; exact hz), fun p np => ?_⟩
  have sm := same_new (o := .lst xs) np
  exact hp1 α1 _ _ (Lt.same sm) (hm1.same sm) (.lst (hm1.fresh np) upd_same (hr1.mono (Lt.same sm).toLk))⟩
theorem cell_new {α : Ad} {p : Addr} {mem : Mem} (h : α.cells.length = mem.length) : (α.push p).cells[mem.length]? = some p := by
  show (α.cells ++ [p])[mem.length]? = some p
  rw [← h, List.getElem?_append_right (Nat.le_refl _)]
  simp
theorem me_lstC (h : ML X W es ml) (hz : es.length ≤ 1000000 := by decide) : ME X W (.List es pos) (eLstC ml) := ⟨PE.imp (pe_lst h.pa) fun σ H Q q => by
  obtain ⟨α, loc, mem, hm, hl, hp⟩ := q
  refine tG_goE hm hl hp fun α1 H1 m1 ds xs e1 l1 hm1 hl1 hr1 hp1 => ?_
  refine ⟨small_of (by rw [← hr1.length, h.len _ _ _ _ e1]; exact hz), fun p np => ?_⟩
  have lc := Lt.cell (α := α1) (o := .lst xs) np
  exact hp1 _ _ _ lc (hm1.push np ⟨xs, upd_same, hr1.mono lc.toLk⟩) (.ref (cell_new hm1.len))⟩
theorem me_callB {id : String} {x : Str} {p : Pos} {g : OpD} (hc : CallR X (.builtin id) (rB X.K g)) (h : PE X (.Call (.Name x p) (e :: es) [] pos) (tCB (rB X.K g) (tL X.K ml W))) : ME X W (.Call (.Name x p) (e :: es) [] pos) (eN g ml) := ⟨PE.imp h fun _ _ _ h => tEN h⟩

/-! tests, conditionals -/
variable {mt mu : EB}
theorem me_if (hc : MT X W c mt) (ha : ME X W a ma) (hb : ME X W b mb) : ME X W (.IfExp c a b pos) (eIf mt ma mb) := ⟨PE.imp (pe_ifExp hc.pt ha.pe hb.pe) fun σ H Q q => by
  obtain ⟨α, loc, mem, hm, hl, hp⟩ := q
  refine tG_go hm hl hp fun α1 H1 m1 t t' l1 hm1 hl1 hr1 hp1 => ?_
  cases hr1
  cases t with
  | true => rw [if_pos rfl] at hp1 ⊢; exact ⟨α1, loc, m1, hm1, hl1, hp1⟩
  | false => rw [if_neg (by simp)] at hp1 ⊢; exact ⟨α1, loc, m1, hm1, hl1, hp1⟩⟩
theorem mt_val (ha : ME X W a ma) (he : ∀ whole, isTrue a X.env whole = (do let v ← whole; standAt a.pos; holding [v] (truthy v)) := by intro _; rfl) : MT X W a (bE ma) := ⟨PT.imp (pt_val ha.pe he) fun σ H Q q => by
  obtain ⟨α, loc, mem, hm, hl, hp⟩ := q
  refine tG_go hm hl hp fun α1 H1 m1 d x l1 hm1 hl1 hr1 hp1 => ?_
  cases d with
  | bl b => cases hr1; exact ⟨b, rfl, hp1 α1 H1 b (Lt.refl _ _) hm1 rfl⟩
  | _ => exact hp1.elim⟩
theorem mt_cmp {op : CmpOp} {g : OpD} (ho : OpR X (compareOp op) (rB2 X.K g)) (hm : behindInMarks op b = false) (ha : ME X W a ma) (hb : ME X W b mb) : MT X W (.Compare a [op] [b] pos) (bE (e2 g ma mb)) := ⟨PT.imp (pt_cmpR ho ha.pe hb.pe hm) fun σ H Q q => by
  obtain ⟨α, loc, mem, hm, hl, hp⟩ := q
  refine tE2 (W := W) (g := g) (Q := _) ?_
  refine tG_go hm hl hp fun α1 H1 m1 d x l1 hm1 hl1 hr1 hp1 => ?_
  cases d with
  | bl b => cases hr1; exact ⟨b, rfl, hp1 α1 H1 b (Lt.refl _ _) hm1 rfl⟩
  | _ => exact hp1.elim⟩
theorem mt_ch {op op' : CmpOp} {g g' : OpD} (ho : OpR X (compareOp op) (rB2 X.K g)) (ho' : OpR X (compareOp op') (rB2 X.K g')) (ha : ME X W a ma) (hb : ME X W b mb) (hc : ME X W c mc) (hm : lastMarks [op, op'] [b, c] = false := by with_unfolding_all rfl) : MT X W (.Compare a [op, op'] [b, c] pos) (bE (eCh g g' ma mb mc)) := ⟨PT.imp (pt_chain ho ho' ha.pe hb.pe hc.pe hm) fun σ H Q q => by
  obtain ⟨α, loc, mem, hm, hl, hp⟩ := q
  refine tCh_ (W := W) (Q := _) ?_
  refine tG_go hm hl hp fun α1 H1 m1 d x l1 hm1 hl1 hr1 hp1 => ?_
  cases d with
  | bl b => cases hr1; exact ⟨b, rfl, hp1 α1 H1 b (Lt.refl _ _) hm1 rfl⟩
  | _ => exact hp1.elim⟩
theorem MW.toT (h : MW X W e mt) : MT X W e mt := ⟨h.pw.pt⟩
theorem mw_and1 (ha : MT X W a mt) : MW X W (.BoolOp .And [a] pos) mt := ⟨pw_and1 ha.pt⟩
theorem mw_or1 (ha : MT X W a mt) : MW X W (.BoolOp .Or [a] pos) mt := ⟨pw_or1 ha.pt⟩
theorem mw_and (ha : MT X W a mt) (hb : MW X W (.BoolOp .And (b :: rest) pos) mu) : MW X W (.BoolOp .And (a :: b :: rest) pos) (bAnd mt mu) := ⟨PW.imp (pw_and ha.pt hb.pw) fun σ H Q q => by
  obtain ⟨α, loc, mem, hm, hl, hp⟩ := q
  refine tG_go hm hl hp fun α1 H1 m1 t t' l1 hm1 hl1 hr1 hp1 => ?_
  cases hr1
  cases t with
  | true => rw [if_pos rfl] at hp1 ⊢; exact ⟨α1, loc, m1, hm1, hl1, hp1⟩
  | false => rw [if_neg (by simp)] at hp1 ⊢; exact hp1 α1 H1 _ (Lt.refl _ _) hm1 rfl⟩
theorem mw_or (ha : MT X W a mt) (hb : MW X W (.BoolOp .Or (b :: rest) pos) mu) : MW X W (.BoolOp .Or (a :: b :: rest) pos) (bOr mt mu) := ⟨PW.imp (pw_or ha.pt hb.pw) fun σ H Q q => by
  obtain ⟨α, loc, mem, hm, hl, hp⟩ := q
  refine tG_go hm hl hp fun α1 H1 m1 t t' l1 hm1 hl1 hr1 hp1 => ?_
  cases hr1
  cases t with
  | true => rw [if_pos rfl] at hp1 ⊢; exact hp1 α1 H1 _ (Lt.refl _ _) hm1 rfl
  | false => rw [if_neg (by simp)] at hp1 ⊢; exact ⟨α1, loc, m1, hm1, hl1, hp1⟩⟩
theorem mt_not (ha : MT X W a mt) : MT X W (.UnaryOp .Not a pos) (bNot mt) := ⟨PT.imp (pt_not ha.pt) fun σ H Q q => by
  obtain ⟨α, loc, mem, hm, hl, hp⟩ := q
  exact tG_go hm hl hp fun α1 H1 m1 t t' l1 hm1 hl1 hr1 hp1 => by cases hr1; exact hp1 α1 H1 _ (Lt.refl _ _) hm1 rfl⟩
theorem me_one {op} (h : ME X W a ma) : ME X W (.BoolOp op [a] pos) ma := ⟨pe_one h.pe⟩
theorem me_and (ha : ME X W a ma) (hb : ME X W (.BoolOp .And (b :: rest) pos) mb) : ME X W (.BoolOp .And (a :: b :: rest) pos) (eAnd ma mb) := ⟨PE.imp (pe_and ha.pe hb.pe) fun σ H Q q => by
  obtain ⟨α, loc, mem, hm, hl, hp⟩ := q
  refine tG_go hm hl hp fun α1 H1 m1 d x l1 hm1 hl1 hr1 hp1 => ?_
  cases d with
  | bl t =>
    cases hr1
    refine ⟨t, rfl, ?_⟩
    cases t with
    | true => rw [if_pos rfl]; exact ⟨α1, loc, m1, hm1, hl1, hp1⟩
    | false => rw [if_neg (by simp)]; exact hp1 α1 H1 _ (Lt.refl _ _) hm1 (.bl _)
  | _ => exact hp1.elim⟩
theorem me_or (ha : ME X W a ma) (hb : ME X W (.BoolOp .Or (b :: rest) pos) mb) : ME X W (.BoolOp .Or (a :: b :: rest) pos) (eOr ma mb) := ⟨PE.imp (pe_or ha.pe hb.pe) fun σ H Q q => by
  obtain ⟨α, loc, mem, hm, hl, hp⟩ := q
  refine tG_go hm hl hp fun α1 H1 m1 d x l1 hm1 hl1 hr1 hp1 => ?_
  cases d with
  | bl t =>
    cases hr1
    refine ⟨t, rfl, ?_⟩
    cases t with
    | true => rw [if_pos rfl]; exact hp1 α1 H1 _ (Lt.refl _ _) hm1 (.bl _)
    | false => rw [if_neg (by simp)]; exact ⟨α1, loc, m1, hm1, hl1, hp1⟩
  | _ => exact hp1.elim⟩
theorem me_not (ha : ME X W a ma) : ME X W (.UnaryOp .Not a pos) (eNot ma) := ⟨PE.imp (pe_not ha.pe) fun σ H Q q => by
  obtain ⟨α, loc, mem, hm, hl, hp⟩ := q
  refine tG_go hm hl hp fun α1 H1 m1 d x l1 hm1 hl1 hr1 hp1 => ?_
  cases d with
  | bl t =>
    cases hr1
    exact ⟨t, rfl, hp1 α1 H1 _ (Lt.refl _ _) hm1 (.bl _)⟩
  | _ => exact hp1.elim⟩
/-! a method of a built-in type -/
def TyOk (K : PySem.W.Frag) (ty : Mem → D → Bool) (T : String) : Prop := ∀ α H mem d x, MemRep K α H mem → Rep K α H d x → ty mem d = true → tyV K T x H
theorem ty_list {K : PySem.W.Frag} : TyOk K tyL "list" := fun α H mem d x hm hr h => by
  cases d with
  | lst ds =>
    obtain ⟨a, xs, rfl, hs, _⟩ := hr.seqL
    exact .inl ⟨rfl, xs, hs⟩
  | ref n =>
    obtain ⟨a, rfl, ha⟩ := hr.ref_
    obtain ⟨c, hc, hc'⟩ := hm.at_ ha
    unfold tyL at h
    simp only [hc] at h
    cases c with
    | lst ds =>
      obtain ⟨xs, hx, _⟩ := hc'
      exact .inl ⟨rfl, xs, SqL.of hx⟩
    | dic _ => cases h
    | tab _ _ => cases h
  | _ => cases h
theorem ty_str {K : PySem.W.Frag} : TyOk K tyS "str" := fun α H mem d x hm hr h => by
  cases d with
  | str y => cases hr; rfl
  | _ => cases h
theorem ty_dict {K : PySem.W.Frag} : TyOk K tyDc "dict" := fun α H mem d x hm hr h => by
  cases d with
  | dic ds =>
    cases hr with
    | dic _ hx _ => exact .inr (.inr (.inl ⟨rfl, .inl ⟨_, hx⟩⟩))
  | ref n =>
    obtain ⟨a, rfl, ha⟩ := hr.ref_
    obtain ⟨c, hc, hc'⟩ := hm.at_ ha
    unfold tyDc at h
    simp only [hc] at h
    cases c with
    | lst ds => cases h
    | tab _ _ => cases h
    | dic _ =>
      obtain ⟨xs, hx, _⟩ := hc'
      exact .inr (.inr (.inl ⟨rfl, .inl ⟨_, hx⟩⟩))
  | _ => cases h
theorem me_bm {T : String} {name : Str} {apos : Pos} {o : Expr} {mo : E1} {g : OpD} {ty : Mem → D → Bool} (hty : TyOk X.K ty T)
    (h : PE X (.Call (.Attribute o name apos) (e :: es) [] pos) (tBM X.K T (fun x xs H Q => rB X.K g (x :: xs) H Q) (tE X.K mo W) (tL X.K ml W))) : ME X W (.Call (.Attribute o name apos) (e :: es) [] pos) (eM ty g mo ml) := ⟨PE.imp h fun σ H Q q => by
  obtain ⟨α, loc, mem, hm, hl, hp⟩ := q
  refine tG_go hm hl hp fun α1 H1 m1 d x l1 hm1 hl1 hr1 hp1 => ?_
  by_cases ht : ty m1 d = true
  · rw [if_pos ht] at hp1
    exact ⟨hty _ _ _ _ _ hm1 hr1 ht, tG_go hm1 hl1 hp1 fun α2 H2 m2 ds xs l2 hm2 hl2 hr2 hp2 => rB_of hm2 (.cons (hr1.mono l2.toLk) hr2) hp2⟩
  · rw [if_neg ht] at hp1
    exact hp1.elim⟩
theorem me_bm0 {T : String} {name : Str} {apos : Pos} {o : Expr} {mo : E1} {g : OpD} {ty : Mem → D → Bool} (hty : TyOk X.K ty T)
    (h : PE X (.Call (.Attribute o name apos) [] [] pos) (tBM0 X.K T (fun x xs H Q => rB X.K g (x :: xs) H Q) (tE X.K mo W))) : ME X W (.Call (.Attribute o name apos) [] [] pos) (eM0 ty g mo) := ⟨PE.imp h fun σ H Q q => by
  obtain ⟨α, loc, mem, hm, hl, hp⟩ := q
  refine tG_go hm hl hp fun α1 H1 m1 d x l1 hm1 hl1 hr1 hp1 => ?_
  by_cases ht : ty m1 d = true
  · rw [if_pos ht] at hp1
    exact ⟨hty _ _ _ _ _ hm1 hr1 ht, rB_of hm1 (.cons hr1 .nil) hp1⟩
  · rw [if_neg ht] at hp1
    exact hp1.elim⟩

/-! slices -/
/-- the bounds: none or an int -/
def oNone : Mx.Env → Mem → Res (Option Int) := fun _ mem => .ok none mem
def oSome (a : E1) : Mx.Env → Mem → Res (Option Int) := fun loc mem => (a loc mem).bind fun x m1 => match x with
  | .int i => .ok (some i) m1
  | _ => .bad
abbrev EO := Mx.Env → Mem → Res (Option Int)
abbrev RO (_ : Ad) (_ : Hp) (a b : Option Int) : Prop := a = b
abbrev tO (K : PySem.W.Frag) (m : EO) (W : WX) : TO := tG RO K m W
structure MO (X : Cx) (W : WX) (e : Option Expr) (m : EO) : Prop where
  po : PO X e (tO X.K m W)
theorem mo_none : MO X W none oNone := ⟨⟨fun pins s σ H Q I q => po_none.run pins s σ H Q I (by
  obtain ⟨α, loc, mem, hm, hl, hp⟩ := q
  exact hp α H none (Lt.refl _ _) hm rfl)⟩⟩
theorem mo_some (ha : ME X W a ma) : MO X W (some a) (oSome ma) := ⟨⟨fun pins s σ H Q I q => (po_some ha.pe).run pins s σ H Q I (by
  obtain ⟨α, loc, mem, hm, hl, hp⟩ := q
  refine tG_go hm hl hp fun α1 H1 m1 d x l1 hm1 hl1 hr1 hp1 => ?_
  cases d with
  | int i => cases hr1; exact ⟨i, rfl, hp1 α1 H1 _ (Lt.refl _ _) hm1 rfl⟩
  | _ => exact hp1.elim)⟩⟩
def eSl (g : Option Int → Option Int → OpD) (a : E1) (lo hi : EO) : E1 := fun loc mem => (a loc mem).bind fun x m1 => (lo loc m1).bind fun l m2 => (hi loc m2).bind fun u m3 => ofP (g l u m3 [x])
theorem me_sl {g : Option Int → Option Int → OpD} {lo hi : Option Expr} {ml' mh : EO} {p2 : Pos} (hr : SlR X (fun x l u H Q => rB X.K (g l u) [x] H Q)) (ha : ME X W a ma) (hlo : MO X W lo ml') (hhi : MO X W hi mh) : ME X W (.Subscript a (.Slice lo hi none p2) pos) (eSl g ma ml' mh) := ⟨PE.imp (pe_slice hr ha.pe hlo.po hhi.po) fun σ H Q q => by
  obtain ⟨α, loc, mem, hm, hl, hp⟩ := q
  exact tG_go hm hl hp fun α1 H1 m1 d x l1 hm1 hl1 hr1 hp1 => tG_go hm1 hl1 hp1 fun α2 H2 m2 l l' l2 hm2 hl2 hr2 hp2 => by
    cases hr2
    exact tG_go hm2 hl2 hp2 fun α3 H3 m3 u u' l3 hm3 hl3 hr3 hp3 => by
      cases hr3
      exact rB_of hm3 (.cons ((hr1.mono l2.toLk).mono l3.toLk) .nil) hp3⟩
end
end Mx

/-! M2: data decided; targets, statements, loops, comprehensions. -/
namespace Mx
open PySem L2
mutual
def D.beq : D → D → Bool
  | .non, .non => true
  | .bl a, .bl b => a == b
  | .int a, .int b => a == b
  | .str a, .str b => decide (a = b)
  | .tup a, .tup b => D.beqL a b
  | .lst a, .lst b => D.beqL a b
  | .dic a, .dic b => D.beqK a b
  | .ref a, .ref b => a == b
  | .con a, .con b => decide (a = b)
  | .scr a, .scr b => D.beqL a b
  | .exo c f a, .exo e g b => decide (c = e) && decide (f = g) && D.beq a b
  | _, _ => false
def D.beqL : List D → List D → Bool
  | [], [] => true
  | a :: as, b :: bs => D.beq a b && D.beqL as bs
  | _, _ => false
def D.beqK : List (Key × D) → List (Key × D) → Bool
  | [], [] => true
  | (k, a) :: as, (l, b) :: bs => decide (k = l) && D.beq a b && D.beqK as bs
  | _, _ => false
end
mutual
theorem D.of_beq : ∀ {a b : D}, D.beq a b = true → a = b
  | .non, b, h => by cases b <;> first | rfl | (exact absurd h (by simp [D.beq]))
  | .bl x, b, h => by cases b <;> first | (simp [D.beq] at h; subst h; rfl) | (exact absurd h (by simp [D.beq]))
  | .int x, b, h => by cases b <;> first | (simp [D.beq] at h; subst h; rfl) | (exact absurd h (by simp [D.beq]))
  | .str x, b, h => by cases b <;> first | (simp [D.beq] at h; subst h; rfl) | (exact absurd h (by simp [D.beq]))
  | .tup x, b, h => by
    cases b with
    | tup y => rw [D.beq] at h; rw [D.of_beqL h]
    | _ => exact absurd h (by simp [D.beq])
  | .lst x, b, h => by
    cases b with
    | lst y => rw [D.beq] at h; rw [D.of_beqL h]
    | _ => exact absurd h (by simp [D.beq])
  | .dic x, b, h => by
    cases b with
    | dic y => rw [D.beq] at h; rw [D.of_beqK h]
    | _ => exact absurd h (by simp [D.beq])
  | .ref x, b, h => by cases b <;> first | (simp [D.beq] at h; subst h; rfl) | (exact absurd h (by simp [D.beq]))
  | .con x, b, h => by cases b <;> first | (simp [D.beq] at h; subst h; rfl) | (exact absurd h (by simp [D.beq]))
  | .scr x, b, h => by
    cases b with
    | scr y => rw [D.beq] at h; rw [D.of_beqL h]
    | _ => exact absurd h (by simp [D.beq])
  | .exo C f x, b, h => by
    cases b with
    | exo C' f' y =>
      rw [D.beq, Bool.and_eq_true, Bool.and_eq_true] at h
      rw [of_decide_eq_true h.1.1, of_decide_eq_true h.1.2, D.of_beq h.2]
    | _ => exact absurd h (by simp [D.beq])
theorem D.of_beqL : ∀ {a b : List D}, D.beqL a b = true → a = b
  | [], [], _ => rfl
  | [], _ :: _, h => absurd h (by simp [D.beqL])
  | _ :: _, [], h => absurd h (by simp [D.beqL])
  | a :: as, b :: bs, h => by
    rw [D.beqL, Bool.and_eq_true] at h
    rw [D.of_beq h.1, D.of_beqL h.2]
theorem D.of_beqK : ∀ {a b : List (Key × D)}, D.beqK a b = true → a = b
  | [], [], _ => rfl
  | [], _ :: _, h => absurd h (by simp [D.beqK])
  | _ :: _, [], h => absurd h (by simp [D.beqK])
  | (k, a) :: as, (l, b) :: bs, h => by
    rw [D.beqK, Bool.and_eq_true, Bool.and_eq_true] at h
    rw [of_decide_eq_true h.1.1, D.of_beq h.1.2, D.of_beqK h.2]
end
mutual
theorem D.beq_self : ∀ a : D, D.beq a a = true
  | .non => by simp [D.beq]
  | .bl x => by simp [D.beq]
  | .int x => by simp [D.beq]
  | .str x => by simp [D.beq]
  | .tup x => by rw [D.beq]; exact D.beqL_self x
  | .lst x => by rw [D.beq]; exact D.beqL_self x
  | .dic x => by rw [D.beq]; exact D.beqK_self x
  | .ref x => by simp [D.beq]
  | .con x => by simp [D.beq]
  | .scr x => by rw [D.beq]; exact D.beqL_self x
  | .exo C f x => by rw [D.beq, D.beq_self x]; simp
theorem D.beqL_self : ∀ a : List D, D.beqL a a = true
  | [] => rfl
  | a :: as => by rw [D.beqL, D.beq_self a, D.beqL_self as]; rfl
theorem D.beqK_self : ∀ a : List (Key × D), D.beqK a a = true
  | [] => rfl
  | (k, a) :: as => by rw [D.beqK, D.beq_self a, D.beqK_self as]; simp
end
instance : DecidableEq D := fun a b => if h : D.beq a b = true then isTrue (D.of_beq h) else isFalse fun e => h (by rw [e]; exact D.beq_self b)

/-! ### what is walked -/
structure Wk where
  items : List D
  guard : Mem → Bool := fun _ => true
structure RW (K : PySem.W.Frag) (α : Ad) (H : Hp) (wk : Wk) (J : It) : Prop where
  len : wk.items.length ≤ sizeLine
  go : ∀ α' H' mem' (i : Nat) d, Lk α H α' H' → MemRep K α' H' mem' → wk.guard mem' = true → wk.items[i]? = some d → J.go i H' ∧ ∀ x H'', J.yld i H' x H'' → Same H' H'' ∧ Rep K α' H'' d x
  stop : ∀ α' H' mem' (i : Nat), Lk α H α' H' → MemRep K α' H' mem' → wk.guard mem' = true → wk.items.length ≤ i → J.stop i H'
abbrev EW := Mx.Env → Mem → Res Wk
structure MI (X : Cx) (W : WX) (tg iter : Expr) (m : EW) : Prop where
  pi : PI X tg iter (tG (RW X.K) X.K m W)

/-! ### targets: names, tuples of them -/
inductive Tg where
  | n (i : Nat) | t (gs : List Tg)
def seqOf (mem : Mem) : D → Option (List D)
  | .tup ds => some ds
  | .lst ds => some ds
  | .scr ds => some ds
  | .ref n => match mem[n]? with
    | some (.lst ds) => some ds
    | _ => none
  | _ => none
mutual
def Tg.asg (mem : Mem) : Tg → D → Option (List (Nat × D))
  | .n i, d => some [(i, d)]
  | .t gs, d => match seqOf mem d with
    | some ds => Tg.asgL mem gs ds
    | none => none
def Tg.asgL (mem : Mem) : List Tg → List D → Option (List (Nat × D))
  | [], [] => some []
  | g :: gs, d :: ds => match Tg.asg mem g d, Tg.asgL mem gs ds with
    | some a, some b => some (a ++ b)
    | _, _ => none
  | _, _ => none
end
def setV (σ : St) : List (Nat × V) → St
  | [] => σ
  | (i, v) :: r => setV (σ.set i (some v)) r
def setL (loc : Mx.Env) : List (Nat × D) → Mx.Env
  | [] => loc
  | (i, d) :: r => setL (loc.set i (some d)) r
inductive RepA (K : PySem.W.Frag) (α : Ad) (H : Hp) : List (Nat × D) → List (Nat × V) → Prop
  | nil : RepA K α H [] []
  | cons {i : Nat} {d : D} {v : V} {ds : List (Nat × D)} {vs : List (Nat × V)} : Rep K α H d v → RepA K α H ds vs → RepA K α H ((i, d) :: ds) ((i, v) :: vs)
section
variable {K : PySem.W.Frag} {α : Ad} {H : Hp}
theorem RepA.append : ∀ {ds es : List (Nat × D)} {vs us : List (Nat × V)}, RepA K α H ds vs → RepA K α H es us → RepA K α H (ds ++ es) (vs ++ us)
  | _, _, _, _, .nil, s => s
  | _, _, _, _, .cons h t, s => .cons h (RepA.append t s)
theorem setV_append : ∀ (vs us : List (Nat × V)) (σ : St), setV σ (vs ++ us) = setV (setV σ vs) us
  | [], _, _ => rfl
  | (i, v) :: r, us, σ => setV_append r us _
theorem LocRep.setA {asg : List (Nat × D)} {vs : List (Nat × V)} (r : RepA K α H asg vs) : ∀ {loc : Mx.Env} {σ : St}, LocRep K α H loc σ → LocRep K α H (setL loc asg) (setV σ vs) := by
  induction r with
  | nil => exact fun h => h
  | cons r _ ih => exact fun h => ih (h.set r _)
end
def tGt (K : PySem.W.Frag) (g : Tg) : TG := fun v σ H Q => ∃ α mem d asg, MemRep K α H mem ∧ Rep K α H d v ∧ g.asg mem d = some asg ∧ ∀ vs, RepA K α H asg vs → Q (setV σ vs) H
def tGs (K : PySem.W.Frag) (gs : List Tg) : TGs := fun vs σ H Q => ∃ α mem ds asg, MemRep K α H mem ∧ RepL K α H ds vs ∧ Tg.asgL mem gs ds = some asg ∧ ∀ vs, RepA K α H asg vs → Q (setV σ vs) H
structure MG (X : Cx) (tg : Expr) (g : Tg) : Prop where
  pg : PG X tg (tGt X.K g)
structure MGs (X : Cx) (tg : List Expr) (g : List Tg) : Prop where
  pgs : PGs X tg (tGs X.K g)
theorem PG.imp {X : Cx} {e : Expr} {t t' : TG} (h : PG X e t) (i : ∀ v σ H Q, t' v σ H Q → t v σ H Q) : PG X e t' := ⟨fun pins s σ H v u Q I r q => h.run pins s σ H v u Q I r (i v σ H Q q)⟩
theorem PGs.imp {X : Cx} {e : List Expr} {t t' : TGs} (h : PGs X e t) (i : ∀ v σ H Q, t' v σ H Q → t v σ H Q) : PGs X e t' := ⟨fun pins s σ H v u Q I r q => h.run pins s σ H v u Q I r (i v σ H Q q)⟩
theorem seqOf_sq {K : PySem.W.Frag} {α : Ad} {H : Hp} {mem : Mem} {d : D} {v : V} {ds : List D} (hm : MemRep K α H mem) (hr : Rep K α H d v) (h : seqOf mem d = some ds) : ∃ a xs, v = .ref a ∧ RepL K α H ds xs ∧ (SqT K H a xs ∨ SqL K H a xs) := by
  cases d with
  | tup es =>
    obtain ⟨a, xs, rfl, hs, hl⟩ := hr.seqT
    cases h
    exact ⟨a, xs, rfl, hl, .inl hs⟩
  | lst es =>
    obtain ⟨a, xs, rfl, hs, hl⟩ := hr.seqL
    cases h
    exact ⟨a, xs, rfl, hl, .inr hs⟩
  | scr es =>
    obtain ⟨a, xs, rfl, hs, hl⟩ := hr.seqS
    cases h
    exact ⟨a, xs, rfl, hl, .inr hs⟩
  | ref n =>
    obtain ⟨a, rfl, ha⟩ := hr.ref_
    obtain ⟨c, hc, hc'⟩ := hm.at_ ha
    unfold seqOf at h
    simp only [hc] at h
    cases c with
    | lst es =>
      obtain ⟨xs, hx, hl⟩ := hc'
      cases h
      exact ⟨a, xs, rfl, hl, .inr (SqL.of hx)⟩
    | dic _ => cases h
    | tab _ _ => cases h
  | _ => cases h
section
variable {X : Cx} {pos : Pos}
theorem mg_name {i : Nat} {x : Str} (h : PG X (.Name x pos) (gName i)) : MG X (.Name x pos) (.n i) := ⟨PG.imp h fun v σ H Q ⟨α, mem, d, asg, hm, hr, ha, q⟩ => by
  cases ha
  exact q [(i, v)] (.cons hr .nil)⟩
theorem mgs_nil : MGs X [] [] := ⟨PGs.imp pgs_nil fun vs σ H Q ⟨α, mem, ds, asg, hm, hr, ha, q⟩ => by
  cases hr with
  | nil => cases ha; exact ⟨rfl, q [] .nil⟩
  | cons _ _ => cases ha⟩
theorem mgs_cons {e : Expr} {es : List Expr} {g : Tg} {gs : List Tg} (h1 : MG X e g) (h2 : MGs X es gs) (hs : (assignEach (e :: es) X.env).map (·.2) = assign e X.env :: (assignEach es X.env).map (·.2) := by rfl) : MGs X (e :: es) (g :: gs) := ⟨PGs.imp (pgs_cons h1.pg h2.pgs hs) fun vs σ H Q ⟨α, mem, ds, asg, hm, hr, ha, q⟩ => by
  cases hr with
  | nil => cases ha
  | @cons d v ds vs r rs =>
    rw [Tg.asgL] at ha
    cases e1 : Tg.asg mem g d with
    | none => rw [e1] at ha; cases ha
    | some a =>
      cases e2 : Tg.asgL mem gs ds with
      | none => rw [e1, e2] at ha; cases ha
      | some b =>
        rw [e1, e2] at ha
        cases ha
        exact ⟨v, vs, rfl, α, mem, d, a, hm, r, e1, fun us hu => ⟨α, mem, ds, b, hm, rs, e2, fun ws hw => by
          rw [← setV_append]
          exact q _ (hu.append hw)⟩⟩⟩
theorem mg_tup {es : List Expr} {k : Nat} {gs : List Tg} (h : MGs X es gs) (h1 : PG X (.Tuple es k pos) (gTup X.K gs.length (tGs X.K gs))) (h2 : PG X (.Tuple es k pos) (gLst X.K gs.length (tGs X.K gs))) : MG X (.Tuple es k pos) (.t gs) :=
  ⟨⟨fun pins s σ H v u Q I r ⟨α, mem, d, asg, hm, hr, ha, q⟩ => by
    rw [Tg.asg] at ha
    cases e : seqOf mem d with
    | none => rw [e] at ha; cases ha
    | some ds =>
      rw [e] at ha
      have hlen : ∀ (gs : List Tg) (ds : List D) (asg : List (Nat × D)), Tg.asgL mem gs ds = some asg → ds.length = gs.length := by
        intro gs
        induction gs with
        | nil =>
          intro ds asg h
          cases ds with
          | nil => rfl
          | cons _ _ => cases h
        | cons g gs ih =>
          intro ds asg h
          cases ds with
          | nil => cases h
          | cons d ds =>
            rw [Tg.asgL] at h
            cases e1 : Tg.asg mem g d with
            | none => rw [e1] at h; cases h
            | some a =>
              cases e2 : Tg.asgL mem gs ds with
              | none => rw [e1, e2] at h; cases h
              | some b => exact congrArg (· + 1) (ih ds b e2)
      obtain ⟨a, xs, rfl, rs, hs⟩ := seqOf_sq hm hr e
      have hl : xs.length = gs.length := by rw [← rs.length]; exact hlen _ _ _ ha
      rcases hs with hs | hs
      · exact h1.run pins s σ H _ u Q I r ⟨a, xs, rfl, hs, hl, α, mem, ds, asg, hm, rs, ha, q⟩
      · exact h2.run pins s σ H _ u Q I r ⟨a, xs, rfl, hs, hl, α, mem, ds, asg, hm, rs, ha, q⟩⟩⟩
end

/-! ### statements -/
inductive RS where
  | nx (l : Mx.Env) (m : Mem) | rt (d : D) (m : Mem) | bk (l : Mx.Env) (m : Mem) | ct (l : Mx.Env) (m : Mem) | ex (e : Ex) (l : Mx.Env) (m : Mem) | bad
abbrev S1 := Mx.Env → Mem → RS
def PostS (K : PySem.W.Frag) (α : Ad) (H : Hp) (r : RS) (Z : Ends) (W : WX) : Prop :=
  match r with
  | .nx l m => ∀ α' H' σ', Lt α H α' H' → MemRep K α' H' m → LocRep K α' H' l σ' → Z.nx σ' H'
  | .rt d m => ∀ α' H' v, Lt α H α' H' → MemRep K α' H' m → Rep K α' H' d v → Z.rt v H'
  | .bk l m => ∀ α' H' σ', Lt α H α' H' → MemRep K α' H' m → LocRep K α' H' l σ' → Z.bk σ' H'
  | .ct l m => ∀ α' H' σ', Lt α H α' H' → MemRep K α' H' m → LocRep K α' H' l σ' → Z.ct σ' H'
  | .ex e l m => ∀ α' H' σ' c dd, Lt α H α' H' → MemRep K α' H' m → LocRep K α' H' l σ' → RepX K α' H' e c dd → W c dd σ' H'
  | .bad => False
theorem PostS.later {K : PySem.W.Frag} {α α1 : Ad} {H H1 : Hp} {r : RS} {Z : Ends} {W : WX} (l : Lt α H α1 H1) (h : PostS K α H r Z W) : PostS K α1 H1 r Z W := by
  cases r with
  | nx _ _ => exact fun α' H' v l' => h α' H' v (l.trans l')
  | rt _ _ => exact fun α' H' v l' => h α' H' v (l.trans l')
  | bk _ _ => exact fun α' H' v l' => h α' H' v (l.trans l')
  | ct _ _ => exact fun α' H' v l' => h α' H' v (l.trans l')
  | ex _ _ _ => exact fun α' H' σ' c dd l' => h α' H' σ' c dd (l.trans l')
  | bad => exact h
def tS (K : PySem.W.Frag) (m : S1) (W : WX) : TS := fun Z σ H => ∃ α loc mem, MemRep K α H mem ∧ LocRep K α H loc σ ∧ PostS K α H (m loc mem) Z W
structure MS (X : Cx) (W : WX) (st : Stmt) (m : S1) : Prop where
  ps : PS X st (tS X.K m W)
structure MSs (X : Cx) (W : WX) (st : List Stmt) (m : S1) : Prop where
  pss : PSs X st (tS X.K m W)
/-- an expression's result, then .. -/
def Res.thenS {β : Type} (loc : Mx.Env) : Res β → (β → Mem → RS) → RS
  | .ok b m, k => k b m
  | .ex e m, _ => .ex e loc m
  | .bad, _ => .bad
theorem tG_goS {β γ : Type} {R : Ad → Hp → β → γ → Prop} {K : PySem.W.Frag} {α : Ad} {loc : Mx.Env} {mem : Mem} {m : Mx.Env → Mem → Res β} {k : β → Mem → RS} {W : WX} {σ : St} {H : Hp} {Z : Ends} {Q' : γ → Hp → Prop}
    (hm : MemRep K α H mem) (hl : LocRep K α H loc σ) (hp : PostS K α H ((m loc mem).thenS loc k) Z W)
    (hk : ∀ α1 H1 mem1 d v, Lt α H α1 H1 → MemRep K α1 H1 mem1 → LocRep K α1 H1 loc σ → R α1 H1 d v → PostS K α1 H1 (k d mem1) Z W → Q' v H1) : tG R K m W σ H Q' := by
  refine ⟨α, loc, mem, hm, hl, ?_⟩
  cases e : m loc mem with
  | ok d m' =>
    rw [e] at hp
    exact fun α' H' v l hm' hr => hk α' H' m' d v l hm' (hl.mono l.toLk) hr (PostS.later l hp)
  | ex e' m' =>
    rw [e] at hp
    exact fun α' H' c dd l hm' hx => hp α' H' σ c dd l hm' (hl.mono l.toLk) hx
  | bad =>
    rw [e] at hp
    exact hp.elim
def sNil : S1 := fun loc mem => .nx loc mem
def sSeq (a b : S1) : S1 := fun loc mem => match a loc mem with
  | .nx l m => b l m
  | r => r
def sPass : S1 := fun loc mem => .nx loc mem
def sBreak : S1 := fun loc mem => .bk loc mem
def sCont : S1 := fun loc mem => .ct loc mem
def sExpr (e : E1) : S1 := fun loc mem => (e loc mem).thenS loc fun _ m => .nx loc m
def sRet (e : E1) : S1 := fun loc mem => (e loc mem).thenS loc fun d m => .rt d m
def sRetN : S1 := fun loc mem => .rt .non mem
def sIf (c : EB) (a b : S1) : S1 := fun loc mem => (c loc mem).thenS loc fun t m => if t = true then a loc m else b loc m
def sSet (i : Nat) (e : E1) : S1 := fun loc mem => (e loc mem).thenS loc fun d m => .nx (loc.set i (some d)) m
def sAsg (g : Tg) (e : E1) : S1 := fun loc mem => (e loc mem).thenS loc fun d m => match g.asg m d with
  | some asg => .nx (setL loc asg) m
  | none => .bad
def sPar (is : List Nat) (e : EL) : S1 := fun loc mem => (e loc mem).thenS loc fun ds m => .nx (setL loc (is.zip ds)) m
section
variable {X : Cx} {W : WX} {pos : Pos} {e : Expr} {ma : E1} {st : Stmt} {rest : List Stmt} {m1 m2 : S1}
theorem mss_nil : MSs X W [] sNil := ⟨PSs.imp pss_nil fun Z σ H ⟨α, loc, mem, hm, hl, hp⟩ => hp α H σ (Lt.refl _ _) hm hl⟩
theorem tS_seq {K : PySem.W.Frag} {Z : Ends} {σ : St} {H : Hp} (h : tS K (sSeq m1 m2) W Z σ H) : tSeq (tS K m1 W) (tS K m2 W) Z σ H := by
  obtain ⟨α, loc, mem, hm, hl, hp⟩ := h
  refine ⟨α, loc, mem, hm, hl, ?_⟩
  unfold sSeq at hp
  cases e : m1 loc mem with
  | nx l m =>
    rw [e] at hp
    exact fun α' H' σ' lt hm' hl' => ⟨α', l, m, hm', hl', PostS.later lt hp⟩
  | _ =>
    rw [e] at hp
    exact hp
theorem mss_cons (h1 : MS X W st m1) (h2 : MSs X W rest m2) : MSs X W (st :: rest) (sSeq m1 m2) := ⟨PSs.imp (pss_cons h1.ps h2.pss) fun Z σ H h => tS_seq h⟩
theorem mss_one (h1 : MS X W st m1) : MSs X W [st] m1 := ⟨pss_one h1.ps⟩
theorem ms_pass : MS X W (.Pass pos) sPass := ⟨PS.imp ps_pass fun Z σ H ⟨α, loc, mem, hm, hl, hp⟩ => hp α H σ (Lt.refl _ _) hm hl⟩
theorem ms_break : MS X W (.Break pos) sBreak := ⟨PS.imp ps_break fun Z σ H ⟨α, loc, mem, hm, hl, hp⟩ => hp α H σ (Lt.refl _ _) hm hl⟩
theorem ms_cont : MS X W (.Continue pos) sCont := ⟨PS.imp ps_continue fun Z σ H ⟨α, loc, mem, hm, hl, hp⟩ => hp α H σ (Lt.refl _ _) hm hl⟩
theorem ms_expr (he : ME X W e ma) (hs : swapsWith e none pos.line X.env = pure false := by rfl) : MS X W (.Expr e pos) (sExpr ma) := ⟨PS.imp (ps_expr he.pe hs) fun Z σ H ⟨α, loc, mem, hm, hl, hp⟩ =>
  tG_goS hm hl hp fun α1 H1 m1 d v l1 hm1 hl1 hr1 hp1 => hp1 α1 H1 σ (Lt.refl _ _) hm1 hl1⟩
theorem ms_ret (he : ME X W e ma) : MS X W (.Return (some e) pos) (sRet ma) := ⟨PS.imp (ps_ret he.pe) fun Z σ H ⟨α, loc, mem, hm, hl, hp⟩ =>
  tG_goS hm hl hp fun α1 H1 m1 d v l1 hm1 hl1 hr1 hp1 => hp1 α1 H1 v (Lt.refl _ _) hm1 hr1⟩
theorem ms_retN : MS X W (.Return none pos) sRetN := ⟨PS.imp ps_retN fun Z σ H ⟨α, loc, mem, hm, hl, hp⟩ => hp α H .non (Lt.refl _ _) hm .non⟩
theorem ms_if {c : Expr} {a b : List Stmt} {mc : EB} (hc : MT X W c mc) (ha : MSs X W a m1) (hb : MSs X W b m2) : MS X W (.If c a b pos) (sIf mc m1 m2) := ⟨PS.imp (ps_if hc.pt ha.pss hb.pss) fun Z σ H ⟨α, loc, mem, hm, hl, hp⟩ =>
  tG_goS hm hl hp fun α1 H1 m1 t t' l1 hm1 hl1 hr1 hp1 => by
    cases hr1
    cases t with
    | true => rw [if_pos rfl] at hp1 ⊢; exact ⟨α1, loc, m1, hm1, hl1, hp1⟩
    | false => rw [if_neg (by simp)] at hp1 ⊢; exact ⟨α1, loc, m1, hm1, hl1, hp1⟩⟩
theorem ms_set {i : Nat} {x : Str} {p : Pos} (he : ME X W e ma) (h : PS X (.Assign [.Name x p] e pos) (tAsg (tE X.K ma W) (gName i))) : MS X W (.Assign [.Name x p] e pos) (sSet i ma) := ⟨PS.imp h fun Z σ H ⟨α, loc, mem, hm, hl, hp⟩ =>
  tG_goS hm hl hp fun α1 H1 m1 d v l1 hm1 hl1 hr1 hp1 => hp1 α1 H1 _ (Lt.refl _ _) hm1 (hl1.set hr1 i)⟩
theorem ms_asg {tg : Expr} {g : Tg} (he : ME X W e ma) (hg : MG X tg g) (hs : swapsWithSole [tg] e pos.line X.env = pure false := by rfl) (hw : swappedStores [tg] e X.env = pure none := by rfl)
    (h1 : (assignEach [tg] X.env).map (·.2) = [assign tg X.env] := by rfl) : MS X W (.Assign [tg] e pos) (sAsg g ma) := ⟨PS.imp (ps_asg he.pe hg.pg hs hw h1) fun Z σ H ⟨α, loc, mem, hm, hl, hp⟩ =>
  tG_goS hm hl hp fun α1 H1 m1 d v l1 hm1 hl1 hr1 hp1 => by
    cases e : g.asg m1 d with
    | none => rw [e] at hp1; exact hp1.elim
    | some asg =>
      rw [e] at hp1
      exact ⟨α1, m1, d, asg, hm1, hr1, e, fun vs hv => hp1 α1 H1 _ (Lt.refl _ _) hm1 (hl1.setA hv)⟩⟩
theorem tG_goSE {β γ : Type} {R : Ad → Hp → β → γ → Prop} {K : PySem.W.Frag} {α : Ad} {loc : Mx.Env} {mem : Mem} {m : Mx.Env → Mem → Res β} {k : β → Mem → RS} {W : WX} {σ : St} {H : Hp} {Z : Ends} {Q' : γ → Hp → Prop}
    (hm : MemRep K α H mem) (hl : LocRep K α H loc σ) (hp : PostS K α H ((m loc mem).thenS loc k) Z W)
    (hk : ∀ α1 H1 mem1 d v, m loc mem = .ok d mem1 → Lt α H α1 H1 → MemRep K α1 H1 mem1 → LocRep K α1 H1 loc σ → R α1 H1 d v → PostS K α1 H1 (k d mem1) Z W → Q' v H1) : tG R K m W σ H Q' := by
  refine ⟨α, loc, mem, hm, hl, ?_⟩
  cases e : m loc mem with
  | ok d m' =>
    rw [e] at hp
    exact fun α' H' v l hm' hr => hk α' H' m' d v e l hm' (hl.mono l.toLk) hr (PostS.later l hp)
  | ex e' m' =>
    rw [e] at hp
    exact fun α' H' c dd l hm' hx => hp α' H' σ c dd l hm' (hl.mono l.toLk) hx
  | bad =>
    rw [e] at hp
    exact hp.elim
theorem ms_par {i j : Nat} {tg e : Expr} {ml : EL} {es : List Expr} (h : ML X W es ml) (hp : PS X (.Assign [tg] e pos) (tPar i j (tL X.K ml W))) (hz : es.length = 2 := by rfl) : MS X W (.Assign [tg] e pos) (sPar [i, j] ml) := ⟨PS.imp hp fun Z σ H ⟨α, loc, mem, hm, hl, hp⟩ => by
  refine tG_goSE hm hl hp fun α1 H1 m1 ds vs e l1 hm1 hl1 hr1 hp1 => ?_
  have hd := h.len _ _ _ _ e
  rw [hz] at hd
  cases hr1 with
  | nil => cases hd
  | cons r1 hr1 =>
    cases hr1 with
    | nil => cases hd
    | cons r2 hr2 =>
      cases hr2 with
      | nil => exact ⟨_, _, rfl, hp1 α1 H1 _ (Lt.refl _ _) hm1 ((hl1.set r1 i).set r2 j)⟩
      | cons _ _ => simp at hd⟩

/-! ### for -/
def loop (g : Tg) (body : S1) (guard : Mem → Bool) : List D → S1
  | [], loc, mem => if guard mem = true then .nx loc mem else .bad
  | d :: ds, loc, mem => if guard mem = true then match g.asg mem d with
    | none => .bad
    | some asg => match body (setL loc asg) mem with
      | .nx l m => loop g body guard ds l m
      | .ct l m => loop g body guard ds l m
      | .bk l m => .nx l m
      | r => r
    else .bad
def sFor (g : Tg) (i : EW) (body : S1) : S1 := fun loc mem => (i loc mem).thenS loc fun wk m => loop g body wk.guard wk.items loc m
theorem ms_for {tg iter : Expr} {body : List Stmt} {g : Tg} {mi : EW} {mb : S1} (hp : PassesOwn (model X.prog X.w) X.A X.env X.xe) (hc : X.calm = true) (hi : MI X W tg iter mi) (hg : MG X tg g) (hb : MSs X W body mb)
    (hs : ∀ x, foldedSetIterable iter X.env x = pure x := by intro _; rfl) : MS X W (.For tg iter body [] pos) (sFor g mi mb) := ⟨PS.imp (ps_for hp hc hi.pi hg.pg hb.pss hs) fun Z σ H ⟨α, loc, mem, hm, hl, hp⟩ => by
  refine tG_goS hm hl hp fun α1 H1 m1 wk J l1 hm1 hl1 hr1 hp1 => ?_
  refine ⟨fun i n σ H => n = wk.items.length - i ∧ i ≤ wk.items.length ∧ ∃ α2 loc2 mem2, Lt α1 H1 α2 H ∧ MemRep X.K α2 H mem2 ∧ LocRep X.K α2 H loc2 σ ∧ PostS X.K α2 H (loop g mb wk.guard (wk.items.drop i) loc2 mem2) Z W,
    ⟨_, rfl, Nat.zero_le _, α1, loc, m1, Lt.refl _ _, hm1, hl1, hp1⟩, ?_⟩
  rintro i n σ2 H2 ⟨rfl, hi, α2, loc2, mem2, l2, hm2, hl2, hp2⟩
  by_cases hlt : i < wk.items.length
  · rw [List.drop_eq_getElem_cons hlt, loop] at hp2
    by_cases hgd : wk.guard mem2 = true
    · rw [if_pos hgd] at hp2
      obtain ⟨hgo, hy⟩ := hr1.go α2 H2 mem2 i _ l2.toLk hm2 hgd (List.getElem?_eq_getElem hlt)
      refine .inr ⟨hgo, fun σ' H' => ∃ α3 loc3 mem3, Lt α1 H1 α3 H' ∧ MemRep X.K α3 H' mem3 ∧ LocRep X.K α3 H' loc3 σ' ∧ PostS X.K α3 H' (loop g mb wk.guard (wk.items.drop (i + 1)) loc3 mem3) Z W,
        fun σ' H' q => ⟨_, by omega, rfl, hlt, q⟩, fun x H3 y => ?_⟩
      obtain ⟨sm, hx⟩ := hy x H3 y
      cases ea : g.asg mem2 wk.items[i] with
      | none => rw [ea] at hp2; exact hp2.elim
      | some asg =>
        rw [ea] at hp2
        have l3 : Lt α2 H2 α2 H3 := Lt.same sm
        refine ⟨α2, mem2, wk.items[i], asg, hm2.same sm, hx, ea, fun vs hv => ?_⟩
        refine ⟨α2, setL loc2 asg, mem2, hm2.same sm, (hl2.mono l3.toLk).setA hv, ?_⟩
        have hp3 := PostS.later l3 hp2
        clear hp2
        cases eb : mb (setL loc2 asg) mem2 with
        | nx l m =>
          simp only [eb] at hp3
          exact fun α' H' σ' l' hm' hl' => ⟨α', l, m, (l2.trans l3).trans l', hm', hl', PostS.later l' hp3⟩
        | ct l m =>
          simp only [eb] at hp3
          exact fun α' H' σ' l' hm' hl' => ⟨α', l, m, (l2.trans l3).trans l', hm', hl', PostS.later l' hp3⟩
        | bk l m =>
          simp only [eb] at hp3
          exact fun α' H' σ' l' hm' hl' => hp3 α' H' σ' l' hm' hl'
        | rt d m =>
          simp only [eb] at hp3
          exact hp3
        | ex e l m =>
          simp only [eb] at hp3
          exact hp3
        | bad =>
          simp only [eb] at hp3
          exact hp3
    · rw [if_neg hgd] at hp2
      exact hp2.elim
  · rw [List.drop_eq_nil_of_le (Nat.le_of_not_lt hlt), loop] at hp2
    by_cases hgd : wk.guard mem2 = true
    · rw [if_pos hgd] at hp2
      exact .inl ⟨hr1.stop α2 H2 mem2 i l2.toLk hm2 hgd (Nat.le_of_not_lt hlt), hp2 α2 H2 σ2 (Lt.refl _ _) hm2 hl2⟩
    · rw [if_neg hgd] at hp2
      exact hp2.elim⟩

/-! ### list comprehensions -/
def wipeL (loc : Mx.Env) : List Nat → Mx.Env
  | [] => loc
  | v :: vs => (wipeL loc vs).set v none
def comp (g : Tg) (tt : EB) (te : E1) (guard : Mem → Bool) : List D → Mx.Env → Mem → Res (List D)
  | [], loc, mem => if guard mem = true then .ok [] mem else .bad
  | d :: ds, loc, mem => if guard mem = true then match g.asg mem d with
    | none => .bad
    | some asg => (tt (setL loc asg) mem).bind fun b m1 => if b = true then (te (setL loc asg) m1).bind fun y m2 => (comp g tt te guard ds loc m2).bind fun ys m3 => .ok (y :: ys) m3 else comp g tt te guard ds loc m1
    else .bad
def Res.noex {β : Type} : Res β → Res β
  | .ex _ _ => .bad
  | r => r
def eLc (own : List Nat) (g : Tg) (i : EW) (tt : EB) (te : E1) : E1 := fun loc mem => (i loc mem).bind fun wk m => (comp g tt te wk.guard wk.items (wipeL loc own) m).noex.bind fun ds m' => .ok (.lst ds) m'
mutual
def Tg.slots : Tg → List Nat
  | .n i => [i]
  | .t gs => Tg.slotsL gs
def Tg.slotsL : List Tg → List Nat
  | [] => []
  | g :: gs => g.slots ++ Tg.slotsL gs
end
def bYes : EB := fun _ mem => .ok true mem
structure MTs (X : Cx) (W : WX) (ifs : List Expr) (m : EB) : Prop where
  pts : PTs X ifs (tT X.K m W)
theorem PTs.imp {X : Cx} {e : List Expr} {t t' : TT} (h : PTs X e t) (i : ∀ σ H Q, t' σ H Q → t σ H Q) : PTs X e t' := ⟨fun pins s σ H Q I q => h.run pins s σ H Q I (i σ H Q q)⟩
theorem mts_nil : MTs X W [] bYes := ⟨PTs.imp pts_nil fun σ H Q ⟨α, loc, mem, hm, hl, hp⟩ => hp α H true (Lt.refl _ _) hm rfl⟩
theorem mts_one {c : Expr} {m : EB} (h : MT X W c m) : MTs X W [c] m := ⟨pts_one h.pt⟩
mutual
theorem Tg.asg_slots {mem : Mem} : ∀ (g : Tg) (d : D) (asg : List (Nat × D)), g.asg mem d = some asg → ∀ p ∈ asg, p.1 ∈ g.slots
  | .n i, d, asg, h, p, hp => by
    rw [Tg.asg] at h
    cases h
    rw [List.mem_singleton.mp hp, Tg.slots]
    exact List.mem_singleton.mpr rfl
  | .t gs, d, asg, h, p, hp => by
    rw [Tg.asg] at h
    cases e : seqOf mem d with
    | none => rw [e] at h; cases h
    | some ds =>
      rw [e] at h
      rw [Tg.slots]
      exact Tg.asgL_slots gs ds asg h p hp
theorem Tg.asgL_slots {mem : Mem} : ∀ (gs : List Tg) (ds : List D) (asg : List (Nat × D)), Tg.asgL mem gs ds = some asg → ∀ p ∈ asg, p.1 ∈ Tg.slotsL gs
  | [], [], asg, h, p, hp => by
    rw [Tg.asgL] at h
    cases h
    cases hp
  | [], _ :: _, asg, h, p, hp => by cases h
  | _ :: _, [], asg, h, p, hp => by cases h
  | g :: gs, d :: ds, asg, h, p, hp => by
    rw [Tg.asgL] at h
    cases e1 : Tg.asg mem g d with
    | none => rw [e1] at h; cases h
    | some a =>
      cases e2 : Tg.asgL mem gs ds with
      | none => rw [e1, e2] at h; cases h
      | some b =>
        rw [e1, e2] at h
        cases h
        rw [Tg.slotsL]
        rcases List.mem_append.mp hp with q | q
        · exact List.mem_append_left _ (Tg.asg_slots g d a e1 p q)
        · exact List.mem_append_right _ (Tg.asgL_slots gs ds b e2 p q)
end
theorem wipe_set {i : Nat} {v : Option V} : ∀ {vs : List Nat} {σ : St}, i ∈ vs → wipe (σ.set i v) vs = wipe σ vs
  | [], _, h => nomatch h
  | u :: vs, σ, h => by
    unfold wipe
    by_cases hi : i ∈ vs
    · rw [wipe_set hi]
    · have e : i = u := (List.mem_cons.mp h).resolve_right hi
      subst e
      have : ∀ (vs : List Nat) (σ : St), i ∉ vs → wipe (σ.set i v) vs = (wipe σ vs).set i v := by
        intro vs
        induction vs with
        | nil => intro σ _; rfl
        | cons w vs ih =>
          intro σ hn
          unfold wipe
          rw [ih σ (fun q => hn (List.mem_cons_of_mem _ q)), List.set_comm]
          exact fun e => hn (by rw [e]; exact List.mem_cons_self)
      rw [this vs σ hi, List.set_set]
theorem wipe_setV {own : List Nat} : ∀ {vs : List (Nat × V)} {σ : St}, (∀ p ∈ vs, p.1 ∈ own) → wipe (setV σ vs) own = wipe σ own
  | [], _, _ => rfl
  | (i, v) :: r, σ, h => by
    rw [setV, wipe_setV (fun p hp => h p (List.mem_cons_of_mem _ hp)), wipe_set (h (i, v) List.mem_cons_self)]
theorem wipe_wipe (σ : St) (own : List Nat) : wipe (wipe σ own) own = wipe σ own := by
  have key : ∀ (vs ws : List Nat), (∀ i ∈ vs, i ∈ ws) → wipe (wipe σ vs) ws = wipe σ ws := by
    intro vs
    induction vs with
    | nil => intro ws _; rfl
    | cons v vs ih =>
      intro ws h
      show wipe ((wipe σ vs).set v none) ws = wipe σ ws
      rw [wipe_set (h v List.mem_cons_self)]
      exact ih ws fun i hi => h i (List.mem_cons_of_mem _ hi)
  exact key own own fun _ h => h
theorem RepA.slots {K : PySem.W.Frag} {α : Ad} {H : Hp} {asg : List (Nat × D)} {vs : List (Nat × V)} (r : RepA K α H asg vs) {P : Nat → Prop} (h : ∀ p ∈ asg, P p.1) : ∀ p ∈ vs, P p.1 := by
  induction r with
  | nil => exact fun _ h => nomatch h
  | cons _ _ ih =>
    intro p hp
    rcases List.mem_cons.mp hp with e | hp
    · rw [e]; exact h _ List.mem_cons_self
    · exact ih (fun q hq => h q (List.mem_cons_of_mem _ hq)) p hp
theorem LocRep.unset {K : PySem.W.Frag} {α : Ad} {H : Hp} {loc : Mx.Env} {σ : St} (h : LocRep K α H loc σ) (i : Nat) : LocRep K α H (loc.set i none) (σ.set i none) := by
  refine ⟨by simp [h.1], fun j d q => ?_⟩
  by_cases hj : i = j
  · subst hj
    by_cases hl : i < loc.length
    · rw [List.getElem?_set_self hl] at q; cases q
    · rw [List.getElem?_eq_none (by simpa using hl)] at q; cases q
  · rw [List.getElem?_set_ne hj] at q
    obtain ⟨v, q1, r⟩ := h.2 j d q
    exact ⟨v, by rw [List.getElem?_set_ne hj]; exact q1, r⟩
theorem LocRep.wipe {K : PySem.W.Frag} {α : Ad} {H : Hp} {loc : Mx.Env} {σ : St} (h : LocRep K α H loc σ) : ∀ vs : List Nat, LocRep K α H (wipeL loc vs) (L2.wipe σ vs)
  | [] => h
  | v :: vs => (LocRep.wipe h vs).unset v
end
end Mx

/-! M3: list comprehensions; what is walked; calls of defs. -/
namespace Mx
open PySem L2
abbrev W0 : WX := fun _ _ _ _ => False
section
variable {X : Cx} {W : WX} {pos : Pos}
/-- the state within a comprehension, at turn i -/
structure LcAt (K : PySem.W.Frag) (α1 : Ad) (H1 : Hp) (D : Addr) (loc : Mx.Env) (σ : St) (α2 : Ad) (H : Hp) (mem2 : Mem) (acc : List Mx.D) (xs : List V) : Prop where
  lk : Lk α1 H1 α2 H
  hd : α2.hid = D :: α1.hid
  hold : ∀ a o, a ∈ α1.hid → a ∉ α1.cells → H1 a = some o → a ∉ α2.cells ∧ H a = some o
  at_ : H D = some (.lst xs)
  rs : RepL K α2 H acc xs
  hm : MemRep K α2 H mem2
  hl : LocRep K α2 H loc σ
theorem LcAt.next {K : PySem.W.Frag} {α1 α2 α3 : Ad} {H1 H H' : Hp} {D : Addr} {loc : Mx.Env} {σ : St} {mem2 mem3 : Mem} {acc : List Mx.D} {xs : List V} (h : LcAt K α1 H1 D loc σ α2 H mem2 acc xs) (l : Lt α2 H α3 H') (hm : MemRep K α3 H' mem3) : LcAt K α1 H1 D loc σ α3 H' mem3 acc xs := by
  have hD : D ∈ α2.hid := by rw [h.hd]; exact List.mem_cons_self
  refine ⟨h.lk.trans l.toLk, l.hideq.trans h.hd, fun a o h1 h2 e => ?_, (l.hold D _ hD (h.hm.hid D hD).2 h.at_).2, h.rs.mono l.toLk, hm, h.hl.mono l.toLk⟩
  obtain ⟨q1, q2⟩ := h.hold a o h1 h2 e
  exact l.hold a o (by rw [h.hd]; exact List.mem_cons_of_mem _ h1) q1 q2
theorem LcAt.put {K : PySem.W.Frag} {α1 α2 : Ad} {H1 H : Hp} {D : Addr} {loc : Mx.Env} {σ : St} {mem2 : Mem} {acc : List Mx.D} {xs : List V} {d : Mx.D} {v : V} (h : LcAt K α1 H1 D loc σ α2 H mem2 acc xs) (nD : H1 D = none) (r : Rep K α2 H d v) :
    LcAt K α1 H1 D loc σ α2 (upd H D (.lst (xs ++ [v]))) mem2 (acc ++ [d]) (xs ++ [v]) := by
  have hD : D ∈ α2.hid := by rw [h.hd]; exact List.mem_cons_self
  have lw : Lk α2 H α2 (upd H D (.lst (xs ++ [v]))) := Lk.write fun q => q.2 hD
  refine ⟨⟨fun a o ha e => ?_, h.lk.pre⟩, h.hd, fun a o h1 h2 e => ?_, upd_same, (h.rs.snoc r).mono lw, h.hm.writeH hD, h.hl.mono lw⟩
  · obtain ⟨q1, q2⟩ := h.lk.keep a o ha e
    exact ⟨q1, by rw [upd_ne (ne_of_none e nD)]; exact q2⟩
  · obtain ⟨q1, q2⟩ := h.hold a o h1 h2 e
    exact ⟨q1, by rw [upd_ne (ne_of_none e nD)]; exact q2⟩
theorem lc_read {own : List (Str × Nat)} {g : Tg} {mi : EW} {mt : EB} {me : E1}
    (hsl : ∀ i ∈ g.slots, i ∈ own.map (·.2)) :
    ∀ σ H Q, tE X.K (eLc (own.map (·.2)) g mi mt me) W σ H Q → tLc (tG (RW X.K) X.K mi W) (tGt X.K g) (tT X.K mt W0) (tE X.K me W0) (own.map (·.2)) σ H Q := fun σ H Q ⟨α, loc, mem, hm, hl, hp⟩ => by
  refine tG_go hm hl hp fun α1 H1 m1 wk J l1 hm1 hl1 hr1 hp1 => fun D nD => ?_
  refine ⟨fun i n H => n = wk.items.length - i ∧ i ≤ wk.items.length ∧ ∃ α2 mem2 acc xs, LcAt X.K α1 H1 D (wipeL loc (own.map (·.2))) (wipe σ (own.map (·.2))) α2 H mem2 acc xs ∧ acc.length ≤ i ∧
    Post (Rep X.K) X.K α1 H1 ((comp g mt me wk.guard (wk.items.drop i) (wipeL loc (own.map (·.2))) mem2).noex.bind fun ys m => .ok (.lst (acc ++ ys)) m) Q (fun c d H' => W c d σ H'),
    ⟨_, rfl, Nat.zero_le _, α1.hide D, m1, [], [], ⟨Lk.hide nD, rfl, fun a o h1 h2 e => ⟨h2, same_new nD _ _ e⟩, upd_same, .nil, hm1.hide nD, (hl1.wipe _).mono (Lk.hide nD)⟩, Nat.le_refl _, hp1⟩, ?_⟩
  rintro i n H2 ⟨rfl, hi, α2, mem2, acc, xs, L, hacc, hp2⟩
  have hlen := L.rs.length
  have hD : D ∈ α2.hid := by rw [L.hd]; exact List.mem_cons_self
  by_cases hlt : i < wk.items.length
  · rw [List.drop_eq_getElem_cons hlt, comp] at hp2
    by_cases hgd : wk.guard mem2 = true
    · rw [if_pos hgd] at hp2
      obtain ⟨hgo, hy⟩ := hr1.go α2 H2 mem2 i _ L.lk L.hm hgd (List.getElem?_eq_getElem hlt)
      refine .inr ⟨hgo, fun H' => ∃ α2 mem2 acc xs, LcAt X.K α1 H1 D (wipeL loc (own.map (·.2))) (wipe σ (own.map (·.2))) α2 H' mem2 acc xs ∧ acc.length ≤ i + 1 ∧
        Post (Rep X.K) X.K α1 H1 ((comp g mt me wk.guard (wk.items.drop (i + 1)) (wipeL loc (own.map (·.2))) mem2).noex.bind fun ys m => .ok (.lst (acc ++ ys)) m) Q (fun c d H' => W c d σ H'),
        fun H' q => ⟨_, by omega, rfl, hlt, q⟩, fun x H3 y => ?_⟩
      obtain ⟨sm, hx⟩ := hy x H3 y
      cases ea : g.asg mem2 wk.items[i] with
      | none => rw [ea] at hp2; exact hp2.elim
      | some asg =>
        rw [ea] at hp2
        dsimp only at hp2
        have L3 := L.next (Lt.same sm) (L.hm.same sm)
        refine ⟨α2, mem2, wk.items[i], asg, L3.hm, hx, ea, fun vs hv => ⟨?_, ?_⟩⟩
        · have hsub : ∀ p ∈ vs, p.1 ∈ own.map (·.2) := hv.slots fun p hp => hsl _ (Tg.asg_slots g _ _ ea p hp)
          rw [wipe_setV hsub, wipe_wipe]
        · refine ⟨α2, setL (wipeL loc (own.map (·.2))) asg, mem2, L3.hm, L3.hl.setA hv, ?_⟩
          cases et : mt (setL (wipeL loc (own.map (·.2))) asg) mem2 with
          | ok b m3 =>
            rw [et] at hp2
            intro α3 H4 b' l4 hm3 eb
            cases eb
            have L4 := L3.next l4 hm3
            cases b with
            | false =>
              rw [if_neg (by simp)]
              exact ⟨α3, m3, acc, xs, L4, Nat.le_succ_of_le hacc, by simpa [Res.bind] using hp2⟩
            | true =>
              rw [if_pos rfl]
              simp only [Res.bind, if_true] at hp2
              refine ⟨α3, setL (wipeL loc (own.map (·.2))) asg, m3, hm3, (L3.hl.setA hv).mono l4.toLk, ?_⟩
              cases ey : me (setL (wipeL loc (own.map (·.2))) asg) m3 with
              | ok y m4 =>
                rw [ey] at hp2
                intro α4 H5 v l5 hm4 hv4
                have L5 := L4.next l5 hm4
                refine ⟨xs, L5.at_, by have := hr1.len; omega, α4, m4, acc ++ [y], xs ++ [v], L5.put nD hv4, by simp; omega, ?_⟩
                dsimp only at hp2
                cases ec : comp g mt me wk.guard (wk.items.drop (i + 1)) (wipeL loc (own.map (·.2))) m4 with
                | ok ys m5 => rw [ec] at hp2; simpa [Res.bind, Res.noex] using hp2
                | ex e m5 => rw [ec] at hp2; exact hp2
                | bad => rw [ec] at hp2; exact hp2
              | ex e m => rw [ey] at hp2; exact hp2.elim
              | bad => rw [ey] at hp2; exact hp2.elim
          | ex e m => rw [et] at hp2; exact hp2.elim
          | bad => rw [et] at hp2; exact hp2.elim
    · rw [if_neg hgd] at hp2
      exact hp2.elim
  · rw [List.drop_eq_nil_of_le (Nat.le_of_not_lt hlt), comp] at hp2
    by_cases hgd : wk.guard mem2 = true
    · rw [if_pos hgd] at hp2
      have hsub : ∀ a ∈ α1.hid, a ∈ α2.hid := fun a ha => by rw [L.hd]; exact List.mem_cons_of_mem _ ha
      have lu : Lk α2 H2 ⟨α2.cells, α1.hid⟩ H2 := Lk.unhide hsub
      refine .inl ⟨hr1.stop α2 H2 mem2 i L.lk L.hm hgd (Nat.le_of_not_lt hlt), ?_⟩
      refine hp2 ⟨α2.cells, α1.hid⟩ H2 _ ⟨L.lk.trans lu, L.hold, rfl⟩ (L.hm.unhide hsub) ?_
      rw [List.append_nil]
      exact .lst ⟨(L.hm.hid D hD).2, fun q => (by
        obtain ⟨⟨o, ho⟩, _⟩ := hm1.hid D q
        rw [nD] at ho
        cases ho)⟩ L.at_ (L.rs.mono lu)
    · rw [if_neg hgd] at hp2
      exact hp2.elim
section
variable {elt tg iter : Expr} {ifs : List Expr} {scope : Scope} {own : List (Str × Nat)} {g : Tg} {mi : EW} {mt : EB} {me : E1}
theorem me_lc (hc : X.calm = true) (hN : X.N.Nodup) (ok : BlkOk X.N X.env.scope scope own) (hsl : (g.slots.all fun i => (own.map (·.2)).contains i) = true) (hi : MI X W tg iter mi)
    (hg : ∀ (s : Shared) (H : Hp) (C : Addr) (cl : List (Str × Addr)) (fp : List Addr), MG (X.blk s H scope (compEnvC scope cl C X.env) fp) tg g)
    (ht : ∀ (s : Shared) (H : Hp) (C : Addr) (cl : List (Str × Addr)) (fp : List Addr), MTs (X.blk s H scope (compEnvC scope cl C X.env) fp) W0 ifs mt)
    (he : ∀ (s : Shared) (H : Hp) (C : Addr) (cl : List (Str × Addr)) (fp : List Addr), ME (X.blk s H scope (compEnvC scope cl C X.env) fp) W0 elt me)
    (hs : ∀ x, foldedSetIterable iter X.env x = pure x := by intro _; rfl) : ME X W (.ListComp elt [⟨tg, iter, ifs, 0⟩] scope pos) (eLc (own.map (·.2)) g mi mt me) :=
  ⟨PE.imp (pe_lc (own := own) hc hN hi.pi ok (fun s H C cl fp => (hg s H C cl fp).pg) (fun s H C cl fp => (ht s H C cl fp).pts) (fun s H C cl fp => (he s H C cl fp).pe) hs)
    (lc_read fun i hi => by
      have := List.all_eq_true.mp hsl i hi
      simpa using this)⟩
theorem ms_setLc {i : Nat} {y : Str} {py spos : Pos} (hc : X.calm = true) (hN : X.N.Nodup) (hy : X.N[i]? = some y) (hyl : X.env.scope.names.lookup y = some .local)
    (hsw : swapsWith (.ListComp elt [⟨tg, iter, ifs, 0⟩] scope pos) (some (.Name y py)) spos.line X.env = pure true) (ok : BlkOk X.N X.env.scope scope own) (hsl : (g.slots.all fun i => (own.map (·.2)).contains i) = true) (hi : MI X W tg iter mi)
    (hg : ∀ (s : Shared) (H : Hp) (C : Addr) (cl : List (Str × Addr)) (fp : List Addr), MG (X.blk s H scope (compEnvC scope cl C X.env) fp) tg g)
    (ht : ∀ (s : Shared) (H : Hp) (C : Addr) (cl : List (Str × Addr)) (fp : List Addr), MTs (X.blk s H scope (compEnvC scope cl C X.env) fp) W0 ifs mt)
    (he : ∀ (s : Shared) (H : Hp) (C : Addr) (cl : List (Str × Addr)) (fp : List Addr), ME (X.blk s H scope (compEnvC scope cl C X.env) fp) W0 elt me)
    (hs : ∀ x, foldedSetIterable iter X.env x = pure x := by intro _; rfl) : MS X W (.Assign [.Name y py] (.ListComp elt [⟨tg, iter, ifs, 0⟩] scope pos) spos) (sSet i (eLc (own.map (·.2)) g mi mt me)) :=
  ⟨PS.imp (ps_setLc (own := own) hc hN hy hyl hsw hi.pi ok (fun s H C cl fp => (hg s H C cl fp).pg) (fun s H C cl fp => (ht s H C cl fp).pts) (fun s H C cl fp => (he s H C cl fp).pe) hs) fun Z σ H ⟨α, loc, mem, hm, hl, hp⟩ => by
    refine lc_read (mt := mt) (me := me) (fun i hi => by
      have := List.all_eq_true.mp hsl i hi
      simpa using this) σ H _ ?_
    exact tG_goS hm hl hp fun α1 H1 m1 d v l1 hm1 hl1 hr1 hp1 => hp1 α1 H1 _ (Lt.refl _ _) hm1 (hl1.set hr1 i)⟩
end

end
end Mx

/-! M4: what is walked; calls of defs. -/
namespace Mx
open PySem L2
section
variable {X : Cx} {W : WX} {pos : Pos}
/-! ### what is walked: a list, a tuple, a cell that holds a list -/
def isLst (ds : List D) (mem : Mem) (n : Nat) : Bool := match mem[n]? with
  | some (.lst es) => D.beqL ds es
  | _ => false
def wkOf (mem : Mem) : D → Option Wk
  | .tup ds => some { items := ds }
  | .lst ds => some { items := ds }
  | .scr ds => some { items := ds }
  | .str x => if x.length ≤ 1000000 then some { items := x.cps.toList.map fun c => .str ⟨#[c]⟩ } else none
  | .ref n => match mem[n]? with
    | some (.lst ds) => some { items := ds, guard := fun m => isLst ds m n }
    | _ => none
  | _ => none
def ofW : Option Wk → Mem → Res Wk
  | some w, m => .ok w m
  | none, _ => .bad
def wIt (a : E1) : EW := fun loc mem => (a loc mem).bind fun d m => ofW (wkOf m d) m
theorem rw_list {K : PySem.W.Frag} {α : Ad} {H : Hp} {a : Addr} {ds : List D} {xs : List V} (hz : xs.length ≤ sizeLine) (hr : ∀ α' H', Lk α H α' H' → ∃ ys, SqL K H' a ys ∧ RepL K α' H' ds ys) (hxs : RepL K α H ds xs) : RW K α H { items := ds } (Itl K a) := by
  refine ⟨by rw [hxs.length]; exact hz, fun α' H' mem' i d lk hm hg e => ?_, fun α' H' mem' i lk hm hg e => ?_⟩
  · obtain ⟨ys, hy, hys⟩ := hr α' H' lk
    obtain ⟨v, hv, hrv⟩ := hys.get e
    exact ⟨⟨ys, v, hy, hv⟩, fun x H'' ⟨e1, e2⟩ => by
      subst e1
      have := e2 ys hy
      rw [hv] at this
      cases this
      exact ⟨Same.refl _, hrv⟩⟩
  · obtain ⟨ys, hy, hys⟩ := hr α' H' lk
    exact ⟨ys, hy, by rw [← hys.length]; exact e⟩
theorem rw_tup {K : PySem.W.Frag} {α : Ad} {H : Hp} {a : Addr} {ds : List D} {xs : List V} (hz : xs.length ≤ sizeLine) (hr : Rep K α H (.tup ds) (.ref a)) (hxs : RepL K α H ds xs) : RW K α H { items := ds } (Itt K a) := by
  refine ⟨by rw [hxs.length]; exact hz, fun α' H' mem' i d lk hm hg e => ?_, fun α' H' mem' i lk hm hg e => ?_⟩
  · obtain ⟨b, ys, eb, hy, hys⟩ := (hr.mono lk).seqT
    cases eb
    obtain ⟨v, hv, hrv⟩ := hys.get e
    exact ⟨⟨ys, v, hy, hv⟩, fun x H'' ⟨e1, e2⟩ => by
      subst e1
      have := e2 ys hy
      rw [hv] at this
      cases this
      exact ⟨Same.refl _, hrv⟩⟩
  · obtain ⟨b, ys, eb, hy, hys⟩ := (hr.mono lk).seqT
    cases eb
    exact ⟨ys, hy, by rw [← hys.length]; exact e⟩
theorem cell_list {K : PySem.W.Frag} {α : Ad} {H : Hp} {mem : Mem} {n : Nat} {a : Addr} {ds : List D} (hm : MemRep K α H mem) (ha : α.cells[n]? = some a) (h : isLst ds mem n = true) : ∃ xs, SqL K H a xs ∧ RepL K α H ds xs := by
  obtain ⟨c, hc, hc'⟩ := hm.at_ ha
  unfold isLst at h
  rw [hc] at h
  cases c with
  | lst es =>
    have e := D.of_beqL h
    subst e
    obtain ⟨xs, hx, hl⟩ := hc'
    exact ⟨xs, SqL.of hx, hl⟩
  | dic _ => cases h
  | tab _ _ => cases h
theorem rw_cell {K : PySem.W.Frag} {α : Ad} {H : Hp} {n : Nat} {a : Addr} {ds : List D} (hz : ds.length ≤ sizeLine) (ha : α.cells[n]? = some a) : RW K α H { items := ds, guard := fun m => isLst ds m n } (Itl K a) := by
  refine ⟨hz, fun α' H' mem' i d lk hm hg e => ?_, fun α' H' mem' i lk hm hg e => ?_⟩
  · obtain ⟨ys, hy, hys⟩ := cell_list hm (lk.get ha) hg
    obtain ⟨v, hv, hrv⟩ := hys.get e
    exact ⟨⟨ys, v, hy, hv⟩, fun x H'' ⟨e1, e2⟩ => by
      subst e1
      have := e2 ys hy
      rw [hv] at this
      cases this
      exact ⟨Same.refl _, hrv⟩⟩
  · obtain ⟨ys, hy, hys⟩ := cell_list hm (lk.get ha) hg
    exact ⟨ys, hy, by rw [← hys.length]; exact e⟩
theorem rw_str {K : PySem.W.Frag} {α : Ad} {H : Hp} {x : Str} (hz : x.length ≤ 1000000) : RW K α H { items := x.cps.toList.map fun c => .str ⟨#[c]⟩ } (Its x) := by
  have hl : (x.cps.toList.map fun c => D.str ⟨#[c]⟩).length = x.cps.size := by simp
  refine ⟨?_, fun α' H' mem' i d lk hm hg e => ?_, fun α' H' mem' i lk hm hg e => ?_⟩
  · rw [hl]; exact small_of hz
  · dsimp only at e
    rw [List.getElem?_map] at e
    cases ec : x.cps.toList[i]? with
    | none => rw [ec] at e; cases e
    | some c =>
      rw [ec] at e
      cases e
      have ec' : x.cps[i]? = some c := by rw [← Array.getElem?_toList]; exact ec
      refine ⟨(Array.getElem?_eq_some_iff.mp ec').1, fun v H'' ⟨e1, c', e2, e3⟩ => ?_⟩
      subst e1 e3
      rw [ec'] at e2
      cases e2
      exact ⟨Same.refl _, .str _⟩
  · dsimp only at e
    rw [hl] at e
    exact e
theorem mi_it {tg l : Expr} {ml : E1} (hl : ME X W l ml) : MI X W tg l (wIt ml) := by
  refine ⟨⟨fun pins s σ H R I ⟨α, loc, mem, hm, hlc, hp⟩ => ?_⟩⟩
  have hq : tE X.K ml W σ H (fun x H1 => ∃ α1 m1 d, MemRep X.K α1 H1 m1 ∧ Rep X.K α1 H1 d x ∧ Post (RW X.K) X.K α1 H1 (ofW (wkOf m1 d) m1) R (fun c d H' => W c d σ H')) :=
    tG_go hm hlc hp fun α1 H1 m1 d x l1 hm1 hl1 hr1 hp1 => ⟨α1, m1, d, hm1, hr1, hp1⟩
  refine thn (hl.pe.run pins s σ H _ I hq) fun v s1 ⟨x, H1, I1, r1, α1, m1, d, hm1, hr1, hp1⟩ => ?_
  have fin1 : ∀ b ∈ [s1.heap.objs.size], FpOk X pins H1 b := fun b hb => by
    have e : b = s1.heap.objs.size := by simpa using hb
    subst e
    exact I1.fpOk (Nat.le_refl _) (I1.hok.fresh (Nat.le_refl _))
  have goL : ∀ (a : Addr) (xs : List V), x = .ref a → SqL X.K H1 a xs → (xs.length ≤ sizeLine → R (Itl X.K a) H1) → wpAny (model X.prog X.w) X.A (pyIter v) (PIE X pins σ tg R) X.xe s1 := fun a xs e hx q => by
    subst e
    cases r1
    obtain ⟨its, rv, p, hz⟩ := I1.list hx
    refine wpAny_pyIter_list p.isList ?_
    exact ⟨s1.heap.objs.size, [s1.heap.objs.size], _, _, H1, rfl, I1.kept (t' := s1.toks) fun b o e => Heap.get?_push_of_some _ e, turn_list a _, ⟨_, Heap.get?_push_size _ rfl, rfl, rfl⟩, fin1, q hz⟩
  cases d with
  | tup ds =>
    obtain ⟨a, xs, rfl, hx, hxs⟩ := hr1.seqT
    cases r1
    obtain ⟨its, rv, p, hz⟩ := I1.tuple hx
    refine wpAny_pyIter_tuple (show s1.heap.IsTuple a its.toArray from p) ?_
    exact ⟨s1.heap.objs.size, [s1.heap.objs.size], _, _, H1, rfl, I1.kept (t' := s1.toks) fun b o e => Heap.get?_push_of_some _ e, turn_tuple a _, ⟨_, Heap.get?_push_size _ rfl, rfl, rfl⟩, fin1,
      hp1 α1 H1 _ (Lt.refl _ _) hm1 (rw_tup hz hr1 hxs)⟩
  | lst ds =>
    obtain ⟨a, xs, rfl, hx, hxs⟩ := hr1.seqL
    exact goL a xs rfl hx fun hz => hp1 α1 H1 _ (Lt.refl _ _) hm1 (rw_list hz (fun α' H' lk => by
      obtain ⟨b, ys, eb, hy, hys⟩ := (hr1.mono lk).seqL
      cases eb
      exact ⟨ys, hy, hys⟩) hxs)
  | scr ds =>
    obtain ⟨a, xs, rfl, hx, hxs⟩ := hr1.seqS
    exact goL a xs rfl hx fun hz => hp1 α1 H1 _ (Lt.refl _ _) hm1 (rw_list hz (fun α' H' lk => by
      obtain ⟨b, ys, eb, hy, hys⟩ := (hr1.mono lk).seqS
      cases eb
      exact ⟨ys, hy, hys⟩) hxs)
  | ref n =>
    obtain ⟨a, rfl, ha⟩ := hr1.ref_
    obtain ⟨c, hc, hc'⟩ := hm1.at_ ha
    unfold wkOf at hp1
    simp only [hc] at hp1
    cases c with
    | lst ds =>
      obtain ⟨xs, hx, hxs⟩ := hc'
      exact goL a xs rfl (SqL.of hx) fun hz => hp1 α1 H1 _ (Lt.refl _ _) hm1 (rw_cell (by rw [hxs.length]; exact hz) ha)
    | dic _ => exact hp1.elim
    | tab _ _ => exact hp1.elim
  | str z =>
    cases hr1
    obtain ⟨t, rfl⟩ := r1
    dsimp only [wkOf] at hp1
    by_cases hz : z.length ≤ 1000000
    · rw [if_pos hz] at hp1
      have q := hp1 α1 H1 _ (Lt.refl _ _) hm1 (rw_str hz)
      cases ha : z.cps.all (· < 128)
      · exact wpAny_pyIter_wide ha (pi_one (tk := s1.toks) I1 _ (turn_str _ z t "str_iterator" (.inr rfl)) ⟨_, Heap.get?_push_size _ rfl, rfl, rfl⟩ q)
      · exact wpAny_pyIter_ascii ha (pi_one (tk := s1.toks) I1 _ (turn_str _ z t "str_ascii_iterator" (.inl rfl)) ⟨_, Heap.get?_push_size _ rfl, rfl, rfl⟩ q)
    · rw [if_neg hz] at hp1
      exact hp1.elim
  | _ => exact hp1.elim
end
end Mx

/-! M4: what is walked; calls of defs. -/
namespace Mx
open PySem L2 PyProof.Rows
section
variable {X : Cx} {W : WX} {pos : Pos}
/-! a range -/
def rangeD (lo : Int) (n : Nat) : List D := (List.range n).map fun i => .int (lo + (i : Nat))
theorem rw_range {K : PySem.W.Frag} {α : Ad} {H : Hp} {lo : Int} {n : Nat} (hz : n ≤ 1000000) : RW K α H { items := rangeD lo n } (Itr lo n) := by
  have hl : (rangeD lo n).length = n := by simp [rangeD]
  refine ⟨by rw [hl]; exact small_of hz, fun α' H' mem' i d lk hm hg e => ?_, fun α' H' mem' i lk hm hg e => by dsimp only at e; rw [hl] at e; exact e⟩
  have hi : i < n := by
    have := (List.getElem?_eq_some_iff.mp e).1
    dsimp only at this
    rw [hl] at this
    exact this
  refine ⟨hi, fun x H'' ⟨e1, e2⟩ => ?_⟩
  subst e1 e2
  dsimp only [rangeD] at e
  rw [List.getElem?_map, List.getElem?_range hi] at e
  cases e
  exact ⟨Same.refl _, .int _⟩
def wRange1 (a : EL) : EW := fun loc mem => (a loc mem).bind fun ds m => match ds with
  | [.int j] => if j ≤ 1000000 ∧ -1000000 ≤ j then .ok { items := rangeD 0 j.toNat } m else .bad
  | _ => .bad
def wRange2 (a : EL) : EW := fun loc mem => (a loc mem).bind fun ds m => match ds with
  | [.int i, .int j] => if (j ≤ 500000 ∧ -500000 ≤ j) ∧ i ≤ 500000 ∧ -500000 ≤ i then .ok { items := rangeD i (j - i).toNat } m else .bad
  | _ => .bad
theorem PI.imp {tg e : Expr} {t t' : TI} (h : PI X tg e t) (i : ∀ σ H Q, t' σ H Q → t σ H Q) : PI X tg e t' := ⟨fun pins s σ H Q I q => h.run pins s σ H Q I (i σ H Q q)⟩
theorem mi_range1 {tg a : Expr} {p : Pos} {ml : EL} (h : ML X W [a] ml) (hp : PI X tg (.Call (.Name "range" p) [a] [] pos) (iRng1 (tL X.K ml W))) : MI X W tg (.Call (.Name "range" p) [a] [] pos) (wRange1 ml) := ⟨PI.imp hp fun σ H R ⟨α, loc, mem, hm, hl, hp⟩ =>
  tG_go hm hl hp fun α1 H1 m1 ds xs l1 hm1 hl1 hr1 hp1 => by
    cases hr1 with
    | nil => exact hp1.elim
    | cons r rs =>
      cases rs with
      | nil =>
        cases r with
        | int j =>
          dsimp only at hp1
          by_cases hj : j ≤ 1000000 ∧ -1000000 ≤ j
          · rw [if_pos hj] at hp1
            exact ⟨j, rfl, by omega, by omega, hp1 α1 H1 _ (Lt.refl _ _) hm1 (rw_range (by omega))⟩
          · rw [if_neg hj] at hp1
            exact hp1.elim
        | _ => exact hp1.elim
      | cons _ _ => cases r <;> exact hp1.elim⟩
theorem mi_range2 {tg a b : Expr} {p : Pos} {ml : EL} (h : ML X W [a, b] ml) (hp : PI X tg (.Call (.Name "range" p) [a, b] [] pos) (iRng2 (tL X.K ml W))) : MI X W tg (.Call (.Name "range" p) [a, b] [] pos) (wRange2 ml) := ⟨PI.imp hp fun σ H R ⟨α, loc, mem, hm, hl, hp⟩ =>
  tG_go hm hl hp fun α1 H1 m1 ds xs l1 hm1 hl1 hr1 hp1 => by
    cases hr1 with
    | nil => exact hp1.elim
    | cons r rs =>
      cases rs with
      | nil => cases r <;> exact hp1.elim
      | cons r2 rs2 =>
        cases rs2 with
        | nil =>
          cases r with
          | int i =>
            cases r2 with
            | int j =>
              dsimp only at hp1
              by_cases hj : (j ≤ 500000 ∧ -500000 ≤ j) ∧ i ≤ 500000 ∧ -500000 ≤ i
              · rw [if_pos hj] at hp1
                exact ⟨i, j, rfl, ⟨by omega, by omega, by omega, by omega⟩, hp1 α1 H1 _ (Lt.refl _ _) hm1 (rw_range (by omega))⟩
              · rw [if_neg hj] at hp1
                exact hp1.elim
            | _ => exact hp1.elim
          | _ => exact hp1.elim
        | cons _ _ => cases r <;> first | exact hp1.elim | (cases r2 <;> exact hp1.elim)⟩
/-! enumerate of a list -/
def enumD : Nat → List D → List D
  | _, [] => []
  | n, d :: ds => .tup [.int (n : Int), d] :: enumD (n + 1) ds
theorem enumD_get : ∀ (ds : List D) (n i : Nat), (enumD n ds)[i]? = (ds[i]?).map fun d => .tup [.int ((n + i : Nat) : Int), d]
  | [], n, i => by simp [enumD]
  | d :: ds, n, 0 => by simp [enumD]
  | d :: ds, n, i + 1 => by
    rw [enumD, List.getElem?_cons_succ, List.getElem?_cons_succ, enumD_get ds (n + 1) i]
    have : n + 1 + i = n + (i + 1) := by omega
    rw [this]
theorem enumD_len (ds : List D) (n : Nat) : (enumD n ds).length = ds.length := by
  induction ds generalizing n with
  | nil => rfl
  | cons d ds ih => simp [enumD, ih]
def wkEnumL (mem : Mem) : List D → Option Wk
  | [.lst ds] => some { items := enumD 0 ds }
  | [.scr ds] => some { items := enumD 0 ds }
  | [.ref n] => match mem[n]? with
    | some (.lst ds) => some { items := enumD 0 ds, guard := fun m => isLst ds m n }
    | _ => none
  | _ => none
def wEnumL (a : EL) : EW := fun loc mem => (a loc mem).bind fun ds m => ofW (wkEnumL m ds) m
theorem pair_new {K : PySem.W.Frag} {α : Ad} {H : Hp} {mem : Mem} {T : Addr} {x y : V} {d e : D} (hm : MemRep K α H mem) (nT : H T = none) (rx : Rep K α H d x) (ry : Rep K α H e y) : Same H (upd H T (.tup [x, y])) ∧ Rep K α (upd H T (.tup [x, y])) (.tup [d, e]) (.ref T) := by
  have sm := same_new (o := .tup [x, y]) nT
  exact ⟨sm, .tup (hm.fresh nT) (.inl upd_same) (.cons (rx.mono (Lt.same sm).toLk) (.cons (ry.mono (Lt.same sm).toLk) .nil))⟩
theorem rw_enumL {K : PySem.W.Frag} {α : Ad} {H : Hp} {a : Addr} {ds : List D} {guard : Mem → Bool} (hz : ds.length ≤ sizeLine)
    (h : ∀ α' H' mem', Lk α H α' H' → MemRep K α' H' mem' → guard mem' = true → ∃ xs, SqL K H' a xs ∧ RepL K α' H' ds xs) : RW K α H { items := enumD 0 ds, guard := guard } (Ite K a) := by
  refine ⟨by rw [enumD_len]; exact hz, fun α' H' mem' i d lk hm hg e => ?_, fun α' H' mem' i lk hm hg e => ?_⟩
  · obtain ⟨ys, hy, hys⟩ := h α' H' mem' lk hm hg
    dsimp only at e
    rw [enumD_get] at e
    cases ed : ds[i]? with
    | none => rw [ed] at e; cases e
    | some d0 =>
      rw [ed] at e
      cases e
      obtain ⟨v, hv, hrv⟩ := hys.get ed
      refine ⟨⟨ys, v, hy, hv⟩, fun x H'' ⟨T, y, e1, e2, e3, e4⟩ => ?_⟩
      subst e1 e3
      have := e4 ys hy
      rw [hv] at this
      cases this
      rw [Nat.zero_add]
      exact pair_new hm e2 (.int _) hrv
  · obtain ⟨ys, hy, hys⟩ := h α' H' mem' lk hm hg
    dsimp only at e
    rw [enumD_len] at e
    exact ⟨ys, hy, by rw [← hys.length]; exact e⟩
theorem mi_enumL {elts : List Expr} {kk : Nat} {tpos : Pos} {a : Expr} {p : Pos} {ml : EL} (h : ML X W [a] ml) (hg : Gl X "enumerate") (hmg : X.mg "enumerate" = none) (hs : starEach [a] X.env = [(false, eval a X.env)] := by rfl) :
    MI X W (.Tuple elts kk tpos) (.Call (.Name "enumerate" p) [a] [] pos) (wEnumL ml) := by
  refine ⟨⟨fun pins s σ H R I ⟨α, loc, mem, hm, hl, hp⟩ => ?_⟩⟩
  have key : tL X.K ml W σ H (fun xs H1 => ∃ a ys, xs = [.ref a] ∧ SqL X.K H1 a ys ∧ (ys.length ≤ sizeLine → R (Ite X.K a) H1)) :=
    tG_go hm hl hp fun α1 H1 m1 ds xs l1 hm1 hl1 hr1 hp1 => by
      cases hr1 with
      | nil => exact hp1.elim
      | @cons d v ds vs r rs =>
        cases rs with
        | cons _ _ => cases d <;> exact hp1.elim
        | nil =>
          cases d with
          | lst ds =>
            obtain ⟨b, ys, rfl, hy, hys⟩ := r.seqL
            exact ⟨b, ys, rfl, hy, fun hz => hp1 α1 H1 _ (Lt.refl _ _) hm1 (rw_enumL (by rw [hys.length]; exact hz) fun α' H' mem' lk hm' _ => by
              obtain ⟨c, zs, ec, h1, h2⟩ := (r.mono lk).seqL
              cases ec
              exact ⟨zs, h1, h2⟩)⟩
          | scr ds =>
            obtain ⟨b, ys, rfl, hy, hys⟩ := r.seqS
            exact ⟨b, ys, rfl, hy, fun hz => hp1 α1 H1 _ (Lt.refl _ _) hm1 (rw_enumL (by rw [hys.length]; exact hz) fun α' H' mem' lk hm' _ => by
              obtain ⟨c, zs, ec, h1, h2⟩ := (r.mono lk).seqS
              cases ec
              exact ⟨zs, h1, h2⟩)⟩
          | ref n =>
            obtain ⟨b, rfl, ha⟩ := r.ref_
            obtain ⟨c, hc, hc'⟩ := hm1.at_ ha
            dsimp only [wkEnumL] at hp1
            simp only [hc] at hp1
            cases c with
            | lst ds =>
              obtain ⟨ys, hy, hys⟩ := hc'
              exact ⟨b, ys, rfl, SqL.of hy, fun hz => hp1 α1 H1 _ (Lt.refl _ _) hm1 (rw_enumL (by rw [hys.length]; exact hz) fun α' H' mem' lk hm' hg' => cell_list hm' (lk.get ha) hg')⟩
            | dic _ => exact hp1.elim
            | tab _ _ => exact hp1.elim
          | _ => exact hp1.elim
  refine Call_ (ld_blt I hg hmg boot_enumerate (PyProof.Rows.callWith_type1 (thn (h.pa.run pos pins s σ H _ I key) fun us s1 ⟨vs, H1, I1, r1, q1⟩ => ?_) hs rfl))
  obtain ⟨a, xs, ex, hq, q⟩ := q1
  subst ex
  cases r1 with
  | cons r rr =>
    cases rr
    cases r
    obtain ⟨its, rv, p', hz⟩ := I1.list hq
    refine call_enumerate_list p'.isList fun h' he hit hsz hk => wpAny_pyIter_enum he ?_
    have I2 : L2.Inv X pins σ H1 { s1 with heap := h' } := I1.kept (t' := s1.toks) hk
    refine ⟨s1.heap.objs.size + 1, [s1.heap.objs.size + 1, s1.heap.objs.size], _, _, H1, rfl, I2, turn_enum a (s1.heap.objs.size + 1) s1.heap.objs.size, ⟨⟨.none, he⟩, hit, Nat.succ_ne_self _⟩, fun b hb => ?_, q hz⟩
    have e' : b = s1.heap.objs.size + 1 ∨ b = s1.heap.objs.size := by simpa using hb
    have hle : s1.heap.objs.size ≤ b := by
      rcases e' with z | z
      · rw [z]; exact Nat.le_add_right _ _
      · rw [z]; exact Nat.le_refl _
    exact I1.fpOk hle (I1.hok.fresh hle)

/-! ### defs -/
/-- what a def does with its arguments and the memory -/
abbrev Fn := List D → Mem → Res D
def spM (K : PySem.W.Frag) (n : Nat) (F : Fn) : Sp := fun vs H Q E => vs.length = n ∧ ∃ α mem ds, MemRep K α H mem ∧ RepL K α H ds vs ∧ Post (Rep K) K α H (F ds mem) Q E
/-- room, and no repr under way -/
structure Rm (k : Nat) (A : Around) : Prop extends Room k A where
  gd : A.guards = some []
theorem Rm.mono {j k : Nat} {A : Around} (r : Rm k A) (h : j ≤ k) : Rm j A := ⟨r.toRoom.mono h, r.gd⟩
theorem Rm.deeper {k : Nat} {A : Around} (r : Rm (k + 1) A) (env : PySem.Env) : Rm k (A.deeper env) := ⟨r.toRoom.deeper env, r.gd⟩
/-- a def's promise where no repr is under way -/
structure FnG (P : Program) (w : World) (K : PySem.W.Frag) (mg : Str → Option Value) (base : Heap) (k : Nat) (f : Addr) (fd : FuncData) (ps : List Str) (sp : Sp) : Prop where
  len : ∀ vs H Q E, sp vs H Q E → vs.length = ps.length
  go : ∀ (A : Around) (outer : List PySem.Env) (s : Shared) (H : Hp) (args : Args) (us : List Value) (vs : List V) (Q : VK) (E : XK), Rm k A → Env0 P w K mg base A outer s H →
    BindsTo s fd args (ps.zip us) → Vals vs us → sp vs H Q E → codeAny (model P w) A (.call (.ref f) args) (CR (L2.CX P w) outer P w H s Q E) s
/-- a def of the text, callable by its name, that does F -/
structure Cal (P : Program) (w : World) (K : PySem.W.Frag) (mg : Str → Option Value) (base : Heap) (k : Nat) (x : Str) (ps : List Str) (F : Fn) : Prop where
  ex : ∃ f fd, mg x = some (.ref f) ∧ PySem.W.keepIn K (.ref f) = true ∧ Binds K fd ps [] ∧ FnG P w K mg base k f fd ps (spM K ps.length F)
def eCall (F : Fn) (a : EL) : E1 := fun loc mem => (a loc mem).bind fun ds m => F ds m
/-- what is raised in a call within X is taken by W -/
structure Tk (X : Cx) (W : WX) : Prop where
  tk : Takes X W
/-- the call of a def, its arguments' values at hand -/
theorem go_fn {pins : List (Addr × Obj)} {σ : L2.St} {H : Hp} {s : Shared} {Q : VK} {us : List Value} {vs : List V} {k : Nat} {f : Addr} {fd : FuncData} {ps : List Str} {sp : Sp} (G : FnG X.prog X.w X.K X.mg X.base k f fd ps sp) (rm : Rm k X.A) (hbd : Binds X.K fd ps []) (tk : Takes X W)
    (I : L2.Inv X pins σ H s) (rv : Vals vs us) (q : sp vs H Q (fun cls d H' => W cls d σ H')) : wpAny (model X.prog X.w) X.A (call (.ref f) us) (EP X pins σ Q) X.xe s := by
  have many : us.length = ps.length := rv.length.symm.trans (G.len _ _ _ _ q)
  have bound := hbd s us I.kIn ((List.append_nil us).symm ▸ many)
  refine wpAny_call (codeAny_mono (G.go X.A X.stack s H ⟨us, []⟩ us vs Q _ rm I.env0 (by simpa using bound) rv q) ?_)
  intro res s' done
  match res, done with
  | .error e, done => exact tk e s' (XE.of_call I (fun _ _ _ h => h) done)
  | .ok (.ret _), done => exact I.after done
  | .ok .next, done => exact done.elim
  | .ok .brk, done => exact done.elim
  | .ok .cont, done => exact done.elim
theorem me_call {x : Str} {ps : List Str} {F : Fn} {k : Nat} {p : Pos} {e : Expr} {es : List Expr} {ml : EL} (C : Cal X.prog X.w X.K X.mg X.base k x ps F) (rm : Rm k X.A) (hg : Gl X x) (t : Tk X W) (ha : ML X W (e :: es) ml) (hlen : (e :: es).length = ps.length := by rfl)
    (hdb : (x == ("__debug__" : Str)) = false := by decide) (hst : starEach (e :: es) X.env = (false, eval e X.env) :: starEach es X.env := by rfl) (hpl : (backTo pos (starEach es X.env)).any (·.1) = false := by rfl) :
    ME X W (.Call (.Name x p) (e :: es) [] pos) (eCall F ml) := by
  obtain ⟨f, fd, hm, hk, hb, G⟩ := C.ex
  refine ⟨⟨fun pins s σ H Q I ⟨α, loc, mem, hmm, hl, hp⟩ => ?_⟩⟩
  have key : tL X.K ml W σ H (fun vs H1 => spM X.K ps.length F vs H1 Q (fun cls d H' => W cls d σ H')) :=
    tG_goE hmm hl hp fun α1 H1 m1 ds xs e1 l1 hm1 hl1 hr1 hp1 => ⟨by rw [← hr1.length, ha.len _ _ _ _ e1]; exact hlen, α1, m1, ds, hm1, hr1, hp1⟩
  refine wpAny_Call_Name_kw (ld_glob I hg hm ?_ hdb)
  refine PySem.W.callWith_K (h₀ := X.base) I.ok.mod.kin hk ?_ hst hpl
  exact thn (ha.pa.run pos pins s σ H _ I key) fun us s1 ⟨vs, H1, I1, r, q⟩ => ⟨I1.kIn, go_fn G rm hb t.tk I1 r q⟩
end
end Mx

/-! M5: a def by its body. -/
namespace Mx
open PySem L2 PyProof.Rows
mutual
/-- all cells that are named are among the first n -/
def D.bel (n : Nat) : D → Bool
  | .tup ds => D.belL n ds
  | .lst ds => D.belL n ds
  | .dic ds => D.belK n ds
  | .scr ds => D.belL n ds
  | .ref m => decide (m < n)
  | .exo _ _ d => D.bel n d
  | _ => true
def D.belL (n : Nat) : List D → Bool
  | [] => true
  | d :: ds => D.bel n d && D.belL n ds
def D.belK (n : Nat) : List (Key × D) → Bool
  | [] => true
  | (_, d) :: ds => D.bel n d && D.belK n ds
end
def Cell.bel (n : Nat) : Cell → Bool
  | .lst ds => D.belL n ds
  | .dic ds => D.belK n ds
  | .tab _ _ => true
section
variable {K : PySem.W.Frag} {α : Ad} {H : Hp}
mutual
theorem Rep.bel : ∀ {d : D} {v : V}, Rep K α H d v → D.bel α.cells.length d = true
  | _, _, .non => by simp [D.bel]
  | _, _, .bl b => by simp [D.bel]
  | _, _, .int i => by simp [D.bel]
  | _, _, .str x => by simp [D.bel]
  | _, _, .tup h r rs => by rw [D.bel]; exact RepL.bel rs
  | _, _, .tupK h rs => by rw [D.bel]; exact RepL.bel rs
  | _, _, .lst h r rs => by rw [D.bel]; exact RepL.bel rs
  | _, _, .scr h r rs => by rw [D.bel]; exact RepL.bel rs
  | _, _, .scrK h rs => by rw [D.bel]; exact RepL.bel rs
  | _, _, .dic h r rs => by rw [D.bel]; exact RepK.bel rs
  | _, _, .ref h => by rw [D.bel]; exact decide_eq_true (List.getElem?_eq_some_iff.mp h).1
  | _, _, .con v => by simp [D.bel]
  | _, _, .exm _ _ _ _ r => by rw [D.bel]; exact Rep.bel r
  | _, _, .exf _ _ _ _ r => by rw [D.bel]; exact Rep.bel r
  | _, _, .exn _ _ => by simp [D.bel]
theorem RepL.bel : ∀ {ds : List D} {vs : List V}, RepL K α H ds vs → D.belL α.cells.length ds = true
  | _, _, .nil => by simp [D.belL]
  | _, _, .cons h t => by rw [D.belL, Rep.bel h, RepL.bel t]; rfl
theorem RepK.bel : ∀ {ds : List (Key × D)} {vs : List (Key × V)}, RepK K α H ds vs → D.belK α.cells.length ds = true
  | _, _, .nil => by simp [D.belK]
  | _, _, .cons h t => by rw [D.belK, Rep.bel h, RepK.bel t]; rfl
end
theorem off_cut {β : List Addr} {hid : List Addr} {cs : List Addr} {a : Addr} (h : (⟨cs ++ β, hid⟩ : Ad).off a) : (⟨cs, hid⟩ : Ad).off a := ⟨fun q => h.1 (List.mem_append_left _ q), h.2⟩
mutual
/-- the first cells alone -/
theorem Rep.cut {cs β hid : List Addr} : ∀ {d : D} {v : V}, D.bel cs.length d = true → Rep K ⟨cs ++ β, hid⟩ H d v → Rep K ⟨cs, hid⟩ H d v
  | _, _, _, .non => .non
  | _, _, _, .bl b => .bl b
  | _, _, _, .int i => .int i
  | _, _, _, .str x => .str x
  | _, _, hb, .tup h r rs => .tup (off_cut h) r (RepL.cut (by rw [D.bel] at hb; exact hb) rs)
  | _, _, hb, .tupK h rs => .tupK h (RepL.cut (by rw [D.bel] at hb; exact hb) rs)
  | _, _, hb, .lst h r rs => .lst (off_cut h) r (RepL.cut (by rw [D.bel] at hb; exact hb) rs)
  | _, _, hb, .scr h r rs => .scr (off_cut h) r (RepL.cut (by rw [D.bel] at hb; exact hb) rs)
  | _, _, hb, .scrK h rs => .scrK h (RepL.cut (by rw [D.bel] at hb; exact hb) rs)
  | _, _, hb, .dic h r rs => .dic (off_cut h) r (RepK.cut (by rw [D.bel] at hb; exact hb) rs)
  | _, _, hb, .ref h => .ref (by
    rw [D.bel] at hb
    have hb := of_decide_eq_true hb
    have h : (cs ++ β)[_]? = some _ := h
    rw [List.getElem?_append_left hb] at h
    exact h)
  | _, _, _, .con v => .con v
  | _, _, hb, .exm h h2 r r2 rs => .exm (off_cut h) (off_cut h2) r r2 (Rep.cut (by rw [D.bel] at hb; exact hb) rs)
  | _, _, hb, .exf h h2 r r2 rs => .exf (off_cut h) (off_cut h2) r r2 (Rep.cut (by rw [D.bel] at hb; exact hb) rs)
  | _, _, _, .exn h r => .exn (off_cut h) r
theorem RepL.cut {cs β hid : List Addr} : ∀ {ds : List D} {vs : List V}, D.belL cs.length ds = true → RepL K ⟨cs ++ β, hid⟩ H ds vs → RepL K ⟨cs, hid⟩ H ds vs
  | _, _, _, .nil => .nil
  | _, _, hb, .cons h t => by
    rw [D.belL, Bool.and_eq_true] at hb
    exact .cons (Rep.cut hb.1 h) (RepL.cut hb.2 t)
theorem RepK.cut {cs β hid : List Addr} : ∀ {ds : List (Key × D)} {vs : List (Key × V)}, D.belK cs.length ds = true → RepK K ⟨cs ++ β, hid⟩ H ds vs → RepK K ⟨cs, hid⟩ H ds vs
  | _, _, _, .nil => .nil
  | _, _, hb, .cons h t => by
    rw [D.belK, Bool.and_eq_true] at hb
    exact .cons (Rep.cut hb.1 h) (RepK.cut hb.2 t)
end
theorem CellAt.cut {cs β hid : List Addr} {a : Addr} : ∀ {c : Cell}, c.bel cs.length = true → CellAt K ⟨cs ++ β, hid⟩ H a c → CellAt K ⟨cs, hid⟩ H a c
  | .lst _, hb, ⟨xs, h, r⟩ => ⟨xs, h, RepL.cut hb r⟩
  | .dic _, hb, ⟨xs, h, r⟩ => ⟨xs, h, RepK.cut hb r⟩
  | .tab _ _, _, ⟨e, ps, h, h2, h3⟩ => ⟨e, ps, h, h2, fun pos cv q => let ⟨c, c1, c2, c3⟩ := h3 pos cv q; ⟨c, c1, off_cut c2, c3⟩⟩
theorem CellAt.bel {a : Addr} : ∀ {c : Cell}, CellAt K α H a c → c.bel α.cells.length = true
  | .lst _, ⟨xs, h, r⟩ => RepL.bel r
  | .dic _, ⟨xs, h, r⟩ => RepK.bel r
  | .tab _ _, _ => rfl
end
/-- the cells of m0 are those of mem, or name none of the new ones -/
def MemOk (mem m0 : Mem) : Prop := mem.length ≤ m0.length ∧ ∀ (i : Nat) (c : Cell), m0[i]? = some c → mem[i]? = some c ∨ c.bel m0.length = true
theorem MemOk.refl (mem : Mem) : MemOk mem mem := ⟨Nat.le_refl _, fun _ _ h => .inl h⟩
mutual
theorem D.bel_mono {n m : Nat} (h : n ≤ m) : ∀ d : D, d.bel n = true → d.bel m = true
  | .non, _ => by simp [D.bel]
  | .bl _, _ => by simp [D.bel]
  | .int _, _ => by simp [D.bel]
  | .str _, _ => by simp [D.bel]
  | .tup ds, q => by rw [D.bel] at q ⊢; exact D.belL_mono h ds q
  | .lst ds, q => by rw [D.bel] at q ⊢; exact D.belL_mono h ds q
  | .dic ds, q => by rw [D.bel] at q ⊢; exact D.belK_mono h ds q
  | .ref k, q => by rw [D.bel] at q ⊢; have := of_decide_eq_true q; exact decide_eq_true (by omega)
  | .con _, _ => by simp [D.bel]
  | .scr ds, q => by rw [D.bel] at q ⊢; exact D.belL_mono h ds q
  | .exo _ _ d, q => by rw [D.bel] at q ⊢; exact D.bel_mono h d q
theorem D.belL_mono {n m : Nat} (h : n ≤ m) : ∀ ds : List D, D.belL n ds = true → D.belL m ds = true
  | [], _ => by simp [D.belL]
  | d :: ds, q => by
    rw [D.belL, Bool.and_eq_true] at q ⊢
    exact ⟨D.bel_mono h d q.1, D.belL_mono h ds q.2⟩
theorem D.belK_mono {n m : Nat} (h : n ≤ m) : ∀ ds : List (Key × D), D.belK n ds = true → D.belK m ds = true
  | [], _ => by simp [D.belK]
  | (_, d) :: ds, q => by
    rw [D.belK, Bool.and_eq_true] at q ⊢
    exact ⟨D.bel_mono h d q.1, D.belK_mono h ds q.2⟩
end
theorem Cell.bel_mono {n m : Nat} (h : n ≤ m) : ∀ c : Cell, c.bel n = true → c.bel m = true
  | .lst ds => D.belL_mono h ds
  | .dic ds => D.belK_mono h ds
  | .tab _ _ => fun _ => rfl
/-- a body's result r may be taken as r' by the caller -/
inductive Ref (mem : Mem) : Res D → Res D → Prop
  | same (r : Res D) : Ref mem r r
  | drop {d : D} {m0 junk : Mem} : MemOk mem m0 → d.bel m0.length = true → Ref mem (.ok d (m0 ++ junk)) (.ok d m0)
  | freeze {n : Nat} {ds : List D} {m0 junk : Mem} : MemOk mem m0 → m0.length ≤ n → (m0 ++ junk)[n]? = some (.lst ds) → D.belL m0.length ds = true → Ref mem (.ok (.ref n) (m0 ++ junk)) (.ok (.lst ds) m0)
  | exdrop {e : Ex} {m0 junk : Mem} : MemOk mem m0 → (∀ f d, e.fld = some (f, d) → d.bel m0.length = true) → Ref mem (.ex e (m0 ++ junk)) (.ex e m0)
  | bad {r : Res D} : Ref mem r .bad
section
variable {K : PySem.W.Frag} {α : Ad} {H : Hp} {mem : Mem}
theorem memrep_cut {m0 junk : Mem} {α' : Ad} {H' : Hp} (hm : MemRep K α H mem) (ok : MemOk mem m0) (l : Lt α H α' H') (h : MemRep K α' H' (m0 ++ junk)) : ∃ cs β, α' = ⟨cs ++ β, α.hid⟩ ∧ cs.length = m0.length ∧ MemRep K ⟨cs, α.hid⟩ H' m0 ∧ Lt α H ⟨cs, α.hid⟩ H' := by
  obtain ⟨cs, hid⟩ := α'
  obtain ⟨β, e⟩ := l.pre
  have e2 : hid = α.hid := l.hideq
  dsimp only at e
  subst e2
  have hlen : cs.length = m0.length + junk.length := by
    have := h.len
    rw [List.length_append] at this
    exact this
  have hle := ok.1
  have hal : α.cells.length = mem.length := hm.len
  have ecut : cs.take m0.length = α.cells ++ β.take (m0.length - α.cells.length) := by
    rw [e, List.take_append, List.take_of_length_le (by omega)]
  have esp : cs = cs.take m0.length ++ cs.drop m0.length := (List.take_append_drop _ _).symm
  have hl0 : (cs.take m0.length).length = m0.length := by rw [List.length_take]; omega
  have get0 : ∀ (n : Nat) (a : Addr), (cs.take m0.length)[n]? = some a → cs[n]? = some a := fun n a q => by
    rw [esp, List.getElem?_append_left (List.getElem?_eq_some_iff.mp q).1]
    exact q
  have sub0 : ∀ a, a ∈ cs.take m0.length → a ∈ cs := fun a q => List.mem_of_mem_take q
  refine ⟨cs.take m0.length, cs.drop m0.length, by rw [← esp], hl0, ⟨?_, hl0, fun n a c e1 e2 => ?_, fun a ha => let ⟨h1, h2⟩ := h.hid a ha; ⟨h1, fun q => h2 (sub0 a q)⟩⟩, ⟨⟨fun a o ho ea => ?_, _, ecut⟩, fun a o h1 h2 ea => ⟨fun q => (l.hold a o h1 h2 ea).1 (sub0 a q), (l.hold a o h1 h2 ea).2⟩, rfl⟩⟩
  · have := h.nd
    dsimp only at this
    rw [esp] at this
    exact (List.nodup_append.mp this).1
  · have hc : CellAt K ⟨cs.take m0.length ++ cs.drop m0.length, α.hid⟩ H' a c := by
      rw [← esp]
      exact h.cell n a c (get0 n a e1) (by rw [List.getElem?_append_left (List.getElem?_eq_some_iff.mp e2).1]; exact e2)
    refine hc.cut ?_
    rw [hl0]
    rcases ok.2 n c e2 with q | q
    · obtain ⟨b, hb, hcb⟩ := hm.at2 q
      have := hcb.bel
      rw [hal] at this
      exact Cell.bel_mono hle c this
    · exact q
  · obtain ⟨q1, q2⟩ := l.keep a o ho ea
    exact ⟨⟨fun q => q1.1 (sub0 a q), q1.2⟩, q2⟩
theorem Ref.post {r r' : Res D} {Q : VK} {W : XK} (hm : MemRep K α H mem) (rf : Ref mem r r') (hp : Post (Rep K) K α H r' Q W) : Post (Rep K) K α H r Q W := by
  cases rf with
  | same => exact hp
  | drop ok hb =>
    intro α' H' v l hm' hr
    obtain ⟨cs, β, rfl, hl, h1, h2⟩ := memrep_cut hm ok l hm'
    exact hp _ H' v h2 h1 (Rep.cut (by rw [hl]; exact hb) hr)
  | @freeze n ds m0 junk ok hn hc hb =>
    intro α' H' v l hm' hr
    obtain ⟨cs, β, rfl, hl, h1, h2⟩ := memrep_cut hm ok l hm'
    obtain ⟨a, rfl, ha⟩ := hr.ref_
    obtain ⟨xs, hx, hxs⟩ := hm'.cell n a _ ha hc
    refine hp _ H' _ h2 h1 (.lst ⟨fun q => ?_, fun q => (hm'.hid a q).2 (List.mem_of_getElem? ha)⟩ hx (RepL.cut (by rw [hl]; exact hb) hxs))
    have nd := hm'.nd
    obtain ⟨i, hi⟩ := List.getElem?_of_mem q
    have hi' : i < cs.length := (List.getElem?_eq_some_iff.mp hi).1
    have h1 : (cs ++ β)[i]? = some a := by rw [List.getElem?_append_left hi']; exact hi
    obtain ⟨g1, q1⟩ := List.getElem?_eq_some_iff.mp h1
    obtain ⟨g2, q2⟩ := List.getElem?_eq_some_iff.mp ha
    have := (List.getElem_inj nd).mp (q1.trans q2.symm)
    omega
  | @exdrop e m0 junk ok hb =>
    intro α' H' c dd l hm' hx
    obtain ⟨cs, β, rfl, hl, h1, h2⟩ := memrep_cut hm ok l hm'
    refine hp _ H' c dd h2 h1 ⟨hx.1, ?_⟩
    have hx2 := hx.2
    cases ef : e.fld with
    | none => rw [ef] at hx2; exact hx2
    | some p =>
      obtain ⟨f, d⟩ := p
      rw [ef] at hx2
      obtain ⟨a, v, q1, q2, q3, q4⟩ := hx2
      exact ⟨a, v, q1, off_cut q2, q3, Rep.cut (by rw [hl]; exact hb f d ef) q4⟩
  | bad => exact hp.elim
end

/-! ### a def by its body -/
def startL (n : Nat) (ds : List D) : Mx.Env := ds.map some ++ List.replicate (n - ds.length) none
def runB (n : Nat) (m : S1) : Fn := fun ds mem => match m (startL n ds) mem with
  | .rt d m' => .ok d m'
  | .nx _ m' => .ok .non m'
  | .ex e _ m' => .ex e m'
  | _ => .bad
theorem start_rep {K : PySem.W.Frag} {α : Ad} {H : Hp} {ds : List D} {vs : List V} (N : List Str) (h : RepL K α H ds vs) : LocRep K α H (startL N.length ds) (start N vs) := by
  refine ⟨by simp [startL, L2.start, h.length], fun i d e => ?_⟩
  unfold startL at e
  by_cases hi : i < ds.length
  · rw [List.getElem?_append_left (by simpa using hi), List.getElem?_map] at e
    cases ed : ds[i]? with
    | none => rw [ed] at e; cases e
    | some d0 =>
      rw [ed] at e
      cases e
      obtain ⟨v, hv, hr⟩ := h.get ed
      refine ⟨v, ?_, hr⟩
      unfold L2.start
      rw [List.getElem?_append_left (by rw [List.length_map, ← h.length]; exact hi), List.getElem?_map, hv]
      rfl
  · rw [List.getElem?_append_right (by simpa using Nat.le_of_not_lt hi), List.getElem?_replicate] at e
    split at e <;> cases e
abbrev cxF (P : Program) (w : World) (K : PySem.W.Frag) (mg : Str → Option Value) (base : Heap) (N : List Str) (qual : Str) (st : Stmt) (f : Addr) (cdv : Value) (A : Around) (outer : List PySem.Env) (s : Shared) (H : Hp) (E : XK) : Cx :=
  cxOf (L2.CX P w) P w K mg base N qual (defScope st) f cdv A outer s H E
abbrev wxF (E : XK) : WX := fun cls d _ H => E cls d H
section
variable {P : Program} {w : World} {K : PySem.W.Frag} {mg : Str → Option Value} {base : Heap}
theorem tkF {N : List Str} {qual : Str} {st : Stmt} {f : Addr} {cdv : Value} {A : Around} {outer : List PySem.Env} {s : Shared} {H : Hp} {E : XK} : Tk (cxF P w K mg base N qual st f cdv A outer s H E) (wxF E) := ⟨takes_of rfl rfl rfl rfl⟩
theorem passF {N : List Str} {qual : Str} {st : Stmt} {f : Addr} {cdv : Value} {A : Around} {outer : List PySem.Env} {s : Shared} {H : Hp} {E : XK} : PassesOwn (model P w) (cxF P w K mg base N qual st f cdv A outer s H E).A (cxF P w K mg base N qual st f cdv A outer s H E).env (cxF P w K mg base N qual st f cdv A outer s H E).xe :=
  passes_of (X := cxF P w K mg base N qual st f cdv A outer s H E) rfl
/-- a def's body and its promise, where no repr is under way -/
theorem fnG_of {x qual : Str} {st : Stmt} {f : Addr} {fd : FuncData} {N ps : List Str} {k : Nat} {sp : Sp} (G : Fun K x qual st f fd) (S : FnScope N ps (defScope st)) (hlen : ∀ vs H Q E, sp vs H Q E → vs.length = ps.length)
    (body : ∀ (cdv : Value) (A : Around) (outer : List PySem.Env) (s : Shared) (H : Hp) (vs : List V) (Q : VK) (E : XK), Rm k (A.deeper (envOfC qual (defScope st) s.heap.objs.size f cdv)) → sp vs H Q E →
      ∃ t, PSs (cxF P w K mg base N qual st f cdv A outer s H E) (defBody st) t ∧ t { nx := fun _ H' => Q .non H', rt := Q } (L2.start N vs) H) : FnG P w K mg base (k + 1) f fd ps sp := by
  obtain ⟨oc, od, kV, doc, pm, an, cdv, ct, osl, rfl, look, code⟩ := G.ex
  refine ⟨hlen, fun A outer s H args us vs Q E rm env bound rv q => ?_⟩
  have inK : K.In s.heap := env.mod.kin.keeps fun b o e => (env.bs b o e).1
  have nol : s.heap.NoLimit := env.mod.nolimit.keeps fun b o e => (env.bs b o e).1
  have kinds : ∀ y ∈ ps.zip us, (defScope st).names.lookup y.1 = some .local ∨ ((defScope st).names.lookup y.1 = some .cell ∧ ((cellsFrom (s.heap.objs.size + 1) (defScope st).names []).lookup y.1).isSome = true) := by
    rintro ⟨n, v⟩ hy
    exact (S.par n (List.of_mem_zip hy).1).imp id fun c => ⟨c, PySem.W.cellsFrom_some _ _ _ (.inl c)⟩
  refine codeAny_call_function rm.toRoom.depth (inK _ _ look) rfl S.co S.gen rfl (PySem.W.codeRec_of inK code) (bound _ _ _ _ ?_)
  refine wpAny_newFunctionEnv_cells S.kind kinds ?_
  rintro _ rfl s1 new
  refine ⟨nol.keeps new.toInCall.keep, codeAny_func ?_⟩
  obtain ⟨t, hps, ht⟩ := body cdv A outer s H vs Q E (rm.deeper _) q
  have I0 : L2.Inv (cxF P w K mg base N qual st f cdv A outer s H E) [] (L2.start N vs) H s1 := inv_start S rm.hd env (hlen _ _ _ _ q) rv new
  refine wpAny_mono (hps.run [] s1 _ H _ I0 ht) ?_ fun _ _ z => z
  intro fl s' z
  match fl, z with
  | .ret u, ⟨v, _, H', J, r, q'⟩ => exact ⟨v, H', J.os, J.bare, J.base, J.hok, r, q'⟩
  | .next, ⟨_, H', J, q'⟩ => exact ⟨.non, H', J.os, J.bare, J.base, J.hok, rfl, q'⟩
  | .brk, ⟨_, _, _, q'⟩ => exact q'.elim
  | .cont, ⟨_, _, _, q'⟩ => exact q'.elim
theorem fnM_of {x qual : Str} {st : Stmt} {f : Addr} {fd : FuncData} {N ps : List Str} {k : Nat} {m : S1} {F : Fn} (G : Fun K x qual st f fd) (S : FnScope N ps (defScope st))
    (body : ∀ (cdv : Value) (A : Around) (outer : List PySem.Env) (s : Shared) (H : Hp) (E : XK), Rm k (A.deeper (envOfC qual (defScope st) s.heap.objs.size f cdv)) → MSs (cxF P w K mg base N qual st f cdv A outer s H E) (wxF E) (defBody st) m)
    (rf : ∀ ds mem, ds.length = ps.length → Ref mem (runB N.length m ds mem) (F ds mem)) : FnG P w K mg base (k + 1) f fd ps (spM K ps.length F) := by
  refine fnG_of G S (fun vs H Q E h => h.1) fun cdv A outer s H vs Q E hr ⟨hl, α, mem, ds, hm, hrs, hp⟩ => ?_
  refine ⟨_, (body cdv A outer s H E hr).pss, α, startL N.length ds, mem, hm, start_rep N hrs, ?_⟩
  have hp2 := (rf ds mem (by rw [hrs.length]; exact hl)).post hm hp
  unfold runB at hp2
  cases e : m (startL N.length ds) mem with
  | nx l m' =>
    rw [e] at hp2
    exact fun α' H' σ' lt hm' _ => hp2 α' H' .non lt hm' .non
  | rt d m' =>
    rw [e] at hp2
    exact hp2
  | ex e' l m' =>
    rw [e] at hp2
    exact fun α' H' σ' c dd lt hm' _ hx => hp2 α' H' c dd lt hm' hx
  | bk _ _ => rw [e] at hp2; exact hp2.elim
  | ct _ _ => rw [e] at hp2; exact hp2.elim
  | bad => rw [e] at hp2; exact hp2.elim
theorem cal_of {x qual : Str} {st : Stmt} {f : Addr} {fd : FuncData} {N ps : List Str} {k : Nat} {m : S1} {F : Fn} (G : Fun K x qual st f fd) (S : FnScope N ps (defScope st)) (hmg : mg x = some (.ref f)) (hb : Binds K fd ps [])
    (body : ∀ (cdv : Value) (A : Around) (outer : List PySem.Env) (s : Shared) (H : Hp) (E : XK), Rm k (A.deeper (envOfC qual (defScope st) s.heap.objs.size f cdv)) → MSs (cxF P w K mg base N qual st f cdv A outer s H E) (wxF E) (defBody st) m)
    (rf : ∀ ds mem, ds.length = ps.length → Ref mem (runB N.length m ds mem) (F ds mem)) : Cal P w K mg base (k + 1) x ps F := ⟨f, fd, hmg, G.kp, hb, fnM_of G S body rf⟩
/-- a def of the top -/
structure Def (K : PySem.W.Frag) (mg : Str → Option Value) (x : Str) (st : Stmt) : Prop where
  ex : ∃ f fd, mg x = some (.ref f) ∧ Fun K x x st f fd
theorem def_mk {h : Heap} {x : Str} {st : Stmt} {f : Addr} {oc : Value} {od an : Option Addr} {osl : Array (Option Value)} {kV doc pm cdv ct : Value} (X : K.In h) (G : h.Ns mainGlobals mg) (a : PySem.W.nsIn K mainGlobals x = some (some (.ref f)))
    (l : K.lookup f = some ⟨oc, od, .func (PySem.W.fnOf x x (defArgs st) (defBody st) (defScope st) .none kV doc pm an cdv ct), osl⟩) (c : PySem.W.codeIn K cdv x = true) (k : PySem.W.keepIn K (.ref f) = true) : Def K mg x st := ⟨f, _, PySem.W.mg_of X G a, fun_mk (st := st) l c k⟩
abbrev BindsAll (x : Str) (st : Stmt) (ps : List Str) : Prop := ∀ (kV doc pm : Value) (an : Option Addr) (cdv ct : Value) (us : List Value), us.length = ps.length → bindArgs (PySem.W.fnOf x x (defArgs st) (defBody st) (defScope st) .none kV doc pm an cdv ct) ⟨us, []⟩ = pure (ps.zip us)
theorem cal_def {x : Str} {st : Stmt} {N ps : List Str} {k : Nat} {m : S1} {F : Fn} (D : Def K mg x st) (S : FnScope N ps (defScope st)) (hb : BindsAll x st ps)
    (body : ∀ (f : Addr) (cdv : Value) (A : Around) (outer : List PySem.Env) (s : Shared) (H : Hp) (E : XK), Rm k (A.deeper (envOfC x (defScope st) s.heap.objs.size f cdv)) → MSs (cxF P w K mg base N x st f cdv A outer s H E) (wxF E) (defBody st) m)
    (rf : ∀ ds mem, ds.length = ps.length → Ref mem (runB N.length m ds mem) (F ds mem)) : Cal P w K mg base (k + 1) x ps F := by
  obtain ⟨f, fd, hm, G⟩ := D.ex
  exact cal_of G S hm (G.binds hb) (body f) rf
theorem Cal.mono {x : Str} {ps : List Str} {F : Fn} {j k : Nat} (C : Cal P w K mg base j x ps F) (h : j ≤ k) : Cal P w K mg base k x ps F := by
  obtain ⟨f, fd, h1, h2, h3, G⟩ := C.ex
  exact ⟨f, fd, h1, h2, h3, G.len, fun A outer s H args us vs Q E rm => G.go A outer s H args us vs Q E (rm.mono h)⟩
end

/-! ### the law's end -/
/-- sys.modules is a dict (so no list of ours stands there) -/
def SysD (h : Heap) : Prop := ∃ mm, h.Ns sysModules mm
/-- the law's def gives True, from the heap that stands behind the top: what is tracked there is the script alone -/
theorem end_call {P : Program} {w : World} {K : PySem.W.Frag} {mg mb : Str → Option Value} {k : Nat} {fa a : Addr} {fd : FuncData} {x : Str} {sp : Sp} {s₁ : Shared} {vs : List Value} {ns : List Int}
    (KX : K.In s₁.heap) (gl : s₁.heap.Ns mainGlobals mg) (bl : s₁.heap.Ns builtinsNs mb) (boot : ∀ x : Str, x ≠ "__name__" → mb x = bootBuiltins x) (nol : s₁.heap.NoLimit) (nog : s₁.gens = #[])
    (obj : s₁.heap.get? a = some { cls := .type "list", data := .seq vs.toArray }) (isI : IntsAre vs ns) (few : ns.length ≤ sizeLine) (rm : Rm k callerA) (sy : SysD s₁.heap)
    (F : ∀ base : Heap, K.In base → base.Ns mainGlobals mg → SysD base → FnG P w K mg base k fa fd [x] sp) (bind1 : ∀ (s : Shared) (u : Value), BindsTo s fd ⟨[u], []⟩ [(x, u)])
    (want : ∀ H : Hp, Only H → SqL K H a (ns.map V.int) → sp [.ref a] H (fun v _ => v = .bl true) fun _ _ _ => False) :
    codeAny (model P w) callerA (.call (.ref fa) ⟨[.ref a], []⟩) (fun r s' => r = .ok (.ret (.bool true)) ∧ OldK s₁.heap s'.heap ∧ s'.os = s₁.os ∧ AllBare s'.gens) s₁ := by
  have rel := vals_ints isI
  -- whatever is tracked is the script, and then it is none of the module's own objects
  suffices main : ∀ H : Hp, Only H → SqL K H a (ns.map V.int) → HOk P w H s₁.heap → (∀ b u, H b = some u → b = a ∧ K.lookup a = none) → _ by
    by_cases hk : ∃ o, K.lookup a = some o
    · obtain ⟨o, hk⟩ := hk
      have same := KX a o hk
      rw [obj] at same
      cases same
      exact main (fun _ => none) (fun _ => .inl rfl) (.inr ⟨_, vs.toArray, _, hk, rfl, rfl, rfl, by rw [List.size_toArray, isI.length]; exact few, by simpa using rel⟩) (fun _ _ z => nomatch z) (fun _ _ z => nomatch z)
    · have hk0 : K.lookup a = none := by
        cases q : K.lookup a with
        | none => rfl
        | some o => exact absurd ⟨o, q⟩ hk
      let H : Hp := fun b => if b = a then some (.frz { cls := .type "list", data := .seq vs.toArray } (.lst (ns.map V.int))) else none
      have at_a : H a = some (.frz { cls := .type "list", data := .seq vs.toArray } (.lst (ns.map V.int))) := if_pos rfl
      have off : ∀ b, b ≠ a → H b = none := fun b h => if_neg h
      refine main H (fun b => ?_) (.inl (.inr ⟨_, at_a⟩)) (fun b u z => ?_) fun b u z => ⟨?_, hk0⟩
      · by_cases h : b = a
        · exact .inr ⟨_, _, by rw [h]; exact at_a⟩
        · exact .inl (off b h)
      · by_cases h : b = a
        · subst h
          rw [at_a] at z
          cases z
          exact ⟨obj, by rw [List.length_map]; exact few, vs, _, rel, obj⟩
        · rw [off b h] at z
          cases z
      · by_cases h : b = a
        · exact h
        · rw [off b h] at z
          cases z
  intro H only sq hok track
  have free : ∀ {b : Addr} {o : Obj} {es : Array DictEntry} {ep : Nat}, s₁.heap.get? b = some o → o.data = .dict es ep → H b = none := by
    intro b o es ep e d
    cases q : H b with
    | none => rfl
    | some u =>
      have e' := (track b u q).1
      subst e'
      rw [obj] at e
      cases e
      exact nomatch d
  have ns' : ∀ {b : Addr} {m : Str → Option Value}, s₁.heap.Ns b m → (hidT s₁.heap H).Ns b m := by
    rintro b m ⟨o, es, ep, e, d, r⟩
    exact ⟨o, es, ep, hidT_get e (free e d), d, r⟩
  have inB : K.In (hidT s₁.heap H) := by
    intro b o e
    refine hidT_get (KX b o e) ?_
    cases q : H b with
    | none => rfl
    | some u =>
      obtain ⟨rfl, no⟩ := track b u q
      rw [no] at e
      cases e
  obtain ⟨mc, l1, l2⟩ := nol
  have env : Env0 P w K mg (hidT s₁.heap H) callerA [] s₁ H := ⟨rfl, ⟨inB, ns' gl, ⟨mb, ns' bl, boot⟩, mc, ns' l1, l2⟩, fun b o e => of_hidT e, Nat.le_of_eq (hidT_size _ _), trivial, (fun b z => nomatch z), hok, .of_eq nog⟩
  refine codeAny_mono ((F _ inB (ns' gl) (let ⟨mm, z⟩ := sy; ⟨mm, ns' z⟩)).go callerA [] s₁ H ⟨[.ref a], []⟩ [.ref a] [.ref a] _ _ rm env (bind1 s₁ (.ref a)) (.cons rfl .nil) (want H only sq)) ?_
  intro res s' z
  match res, z with
  | .error e, z =>
    obtain ⟨_, _, _, _, _, _, _, _, _, _, _, _, no⟩ := z
    exact no.elim
  | .ok .next, z => exact z.elim
  | .ok .brk, z => exact z.elim
  | .ok .cont, z => exact z.elim
  | .ok (.ret u), ⟨v, H', os, bare, un, hok', r, q⟩ =>
    have q' : v = .bl true := q
    subst q'
    have ru : u = Value.bool true := r
    subst ru
    refine ⟨rfl, OldK.of_keep fun b o e => ?_, os, bare⟩
    rcases only b with n | ⟨ob, xs, fz⟩
    · exact un.keep b o e n (fun z => nomatch z) (fun z => nomatch z)
    · obtain ⟨e1, _⟩ := hok b _ fz
      obtain ⟨e2, _⟩ := hok' b _ (un.frzs b ob _ fz)
      rw [e] at e1
      cases e1
      exact e2
/-- the goal that the head leaves -/
theorem end_walk {l : PySem.W.OpenLaw} {n k : Nat} {q : Program} {loose : List Str} {XP : (Str → Option Value) → Heap → Prop} {YP : World → Heap → Prop} {d : DefRec} {K : Params → PySem.W.Frag} {sp : PySem.W.Frag → Sp} {x : Str}
    (most : l.most = some n) (few : n ≤ sizeLine) (nod : d.params.defaults = []) (rm : Rm k callerA) (imp : importsNone q = true) (hY : ∀ (w : World) (h : Heap), YP w h → (K w.params).In h)
    (F : ∀ (w : World) (mg : Str → Option Value) (fa : Addr) (h : Heap), (K w.params).In h → h.Ns mainGlobals mg → mg d.name = some (.ref fa) →
      ∃ fd : FuncData, (∀ (s : Shared) (u : Value), BindsTo s fd ⟨[u], []⟩ [(x, u)]) ∧ ∀ base : Heap, (K w.params).In base → base.Ns mainGlobals mg → SysD base → FnG l.prog w (K w.params) mg base k fa fd [x] (sp (K w.params)))
    (want : ∀ (K : PySem.W.Frag) (H : Hp) (a : Addr) (ns : List Int), ns.length ≤ n → Only H → SqL K H a (ns.map V.int) → sp K [.ref a] H (fun v _ => v = .bl true) fun _ _ _ => False) :
    PySem.W.WalkO q loose XP YP l.row.toRowW d [] (fun f vs => PySem.call f vs) := by
  refine Att.attach_call most nod ?_
  intro w s₀ s₁ mg mb fa o pm cd doc a vs ns G Y ho hd hcd hmg obj isI hlen nog
  obtain ⟨fd, bind1, FF⟩ := F w mg fa _ (hY w _ Y) G.T.g hmg
  exact end_call (hY w _ Y) G.T.g G.T.b G.T.builtins G.T.nolimit nog obj isI (Nat.le_trans hlen few) rm (let ⟨mm, z, _⟩ := (G.T.seer imp).mods; ⟨mm, z⟩) FF bind1 fun H only sq => want _ H a ns hlen only sq
end Mx

/-! M6: operations on data. -/
namespace Mx
open PySem L2
/-- a list's items: a list, the script, a cell -/
def listOf (mem : Mem) : D → Option (List D)
  | .lst ds => some ds
  | .ref n => match mem[n]? with
    | some (.lst ds) => some ds
    | _ => none
  | _ => none
theorem listOf_at {K : PySem.W.Frag} {α : Ad} {H : Hp} {mem : Mem} {d : D} {v : V} {ds : List D} (hm : MemRep K α H mem) (hr : Rep K α H d v) (h : listOf mem d = some ds) : ∃ a xs, v = .ref a ∧ H a = some (.lst xs) ∧ RepL K α H ds xs := by
  cases d with
  | lst es =>
    cases h
    cases hr with
    | lst _ r rs => exact ⟨_, _, rfl, r, rs⟩
  | ref n =>
    obtain ⟨a, rfl, ha⟩ := hr.ref_
    obtain ⟨c, hc, hc'⟩ := hm.at_ ha
    unfold listOf at h
    simp only [hc] at h
    cases c with
    | lst es =>
      obtain ⟨xs, hx, hl⟩ := hc'
      cases h
      exact ⟨a, xs, rfl, hx, hl⟩
    | dic _ => cases h
    | tab _ _ => cases h
  | _ => cases h
abbrev OpP := Mem → List D → Option D
section
variable {X : Cx}
/-- an operation that changes no cell, by its one rule -/
theorem opP {f : Value → Value → Sem Value} {g : OpP}
    (h : ∀ (pins : List (Addr × Obj)) (s : Shared) (σ : St) (H : Hp) (x y : V) (v u : Value) (Q : VK) (α : Ad) (mem : Mem) (d e z : D), L2.Inv X pins σ H s → RelV x v → RelV y u → MemRep X.K α H mem → Rep X.K α H d x → Rep X.K α H e y → g mem [d, e] = some z →
      (∀ H' w', Same H H' → Rep X.K α H' z w' → Q w' H') → wpAny (model X.prog X.w) X.A (f v u) (EP X pins σ Q) X.xe s) : OpR X f (rB2 X.K (pu g)) := by
  intro pins s σ H x y v u Q I rx ry ⟨α, mem, ds, z, mem', hm, hr, hg, q⟩
  cases hr with
  | cons r1 hr =>
    cases hr with
    | cons r2 hr =>
      cases hr
      unfold pu at hg
      cases eg : g mem _ with
      | none => rw [eg] at hg; cases hg
      | some z' =>
        rw [eg] at hg
        cases hg
        exact h pins s σ H x y v u Q α mem _ _ _ I rx ry hm r1 r2 eg fun H' w' sm hw => q α H' w' (Lt.same sm) (hm.same sm) hw
theorem unP {f : Value → Sem Value} {g : OpP}
    (h : ∀ (pins : List (Addr × Obj)) (s : Shared) (σ : St) (H : Hp) (x : V) (v : Value) (Q : VK) (α : Ad) (mem : Mem) (d z : D), L2.Inv X pins σ H s → RelV x v → MemRep X.K α H mem → Rep X.K α H d x → g mem [d] = some z →
      (∀ H' w', Same H H' → Rep X.K α H' z w' → Q w' H') → wpAny (model X.prog X.w) X.A (f v) (EP X pins σ Q) X.xe s) : UnR X f (rB1 X.K (pu g)) := by
  intro pins s σ H x v Q I rx ⟨α, mem, ds, z, mem', hm, hr, hg, q⟩
  cases hr with
  | cons r1 hr =>
    cases hr
    unfold pu at hg
    cases eg : g mem _ with
    | none => rw [eg] at hg; cases hg
    | some z' =>
      rw [eg] at hg
      cases hg
      exact h pins s σ H x v Q α mem _ _ I rx hm r1 eg fun H' w' sm hw => q α H' w' (Lt.same sm) (hm.same sm) hw
theorem callP {f : Value} {g : OpP}
    (h : ∀ (pins : List (Addr × Obj)) (s : Shared) (σ : St) (H : Hp) (xs : List V) (us : List Value) (Q : VK) (α : Ad) (mem : Mem) (ds : List D) (z : D), L2.Inv X pins σ H s → Vals xs us → MemRep X.K α H mem → RepL X.K α H ds xs → g mem ds = some z →
      (∀ H' w', Same H H' → Rep X.K α H' z w' → Q w' H') → wpAny (model X.prog X.w) X.A (call f us) (EP X pins σ Q) X.xe s) : CallR X f (rB X.K (pu g)) := by
  intro pins s σ H xs us Q I rx ⟨α, mem, ds, z, mem', hm, hr, hg, q⟩
  unfold pu at hg
  cases eg : g mem _ with
  | none => rw [eg] at hg; cases hg
  | some z' =>
    rw [eg] at hg
    cases hg
    exact h pins s σ H xs us Q α mem _ _ I rx hm hr eg fun H' w' sm hw => q α H' w' (Lt.same sm) (hm.same sm) hw

/-! ### ints, texts, tuples, lists: + - * // % ** -/
def gAdd : OpP := fun mem ds => match ds with
  | [.int a, .int b] => some (.int (a + b))
  | [.str a, .str b] => if a.length + b.length ≤ 1000000 then some (.str (a ++ b)) else none
  | [.tup a, .tup b] => if a.length + b.length ≤ 1000000 then some (.tup (a ++ b)) else none
  | [x, y] => match listOf mem x, listOf mem y with
    | some a, some b => if a.length + b.length ≤ 1000000 then some (.lst (a ++ b)) else none
    | _, _ => none
  | _ => none
theorem add_lists {pins : List (Addr × Obj)} {s : Shared} {σ : St} {H : Hp} {x y : V} {v u : Value} {Q : VK} {α : Ad} {mem : Mem} {d e : D} {a b : List D} (I : L2.Inv X pins σ H s) (rx : RelV x v) (ry : RelV y u) (hm : MemRep X.K α H mem) (r1 : Rep X.K α H d x) (r2 : Rep X.K α H e y)
    (ha : listOf mem d = some a) (hb : listOf mem e = some b) (hz : a.length + b.length ≤ 1000000) (q : ∀ H' w', Same H H' → Rep X.K α H' (.lst (a ++ b)) w' → Q w' H') : wpAny (model X.prog X.w) X.A (binaryOp .Add v u) (EP X pins σ Q) X.xe s := by
  obtain ⟨l, xs, rfl, hl, hxs⟩ := listOf_at hm r1 ha
  obtain ⟨k, ys, rfl, hk, hys⟩ := listOf_at hm r2 hb
  refine op_cat pins s σ H _ _ v u Q I rx ry ⟨l, k, xs, ys, rfl, rfl, hl, hk, by rw [← hxs.length, ← hys.length]; exact small_of hz, fun p np => ?_⟩
  have sm := same_new (o := .lst (xs ++ ys)) np
  exact q _ _ sm (.lst (hm.fresh np) upd_same ((hxs.append hys).mono (Lt.same sm).toLk))
theorem op_gAdd : OpR X (binaryOp .Add) (rB2 X.K (pu gAdd)) := opP fun pins s σ H x y v u Q α mem d e z I rx ry hm r1 r2 hg q => by
  have lists : ∀ (a b : List D), listOf mem d = some a → listOf mem e = some b → (∀ i j, d = .int i → e = .int j → False) → gAdd mem [d, e] = (if a.length + b.length ≤ 1000000 then some (.lst (a ++ b)) else none) → wpAny (model X.prog X.w) X.A (binaryOp .Add v u) (EP X pins σ Q) X.xe s := fun a b ha hb _ he => by
    rw [hg] at he
    by_cases hz : a.length + b.length ≤ 1000000
    · rw [if_pos hz] at he
      cases he
      exact add_lists I rx ry hm r1 r2 ha hb hz q
    · rw [if_neg hz] at he
      cases he
  cases d with
  | int i =>
    cases e with
    | int j =>
      cases hg
      cases r1
      cases r2
      exact op_add pins s σ H _ _ v u Q I rx ry ⟨i, j, rfl, rfl, q H _ (Same.refl _) (.int _)⟩
    | _ => cases hg
  | str a =>
    cases e with
    | str b =>
      dsimp only [gAdd] at hg
      by_cases hz : a.length + b.length ≤ 1000000
      · rw [if_pos hz] at hg
        cases hg
        cases r1
        cases r2
        exact op_add_str pins s σ H _ _ v u Q I rx ry ⟨a, b, rfl, rfl, small_of hz, q H _ (Same.refl _) (.str _)⟩
      · rw [if_neg hz] at hg
        cases hg
    | _ => cases hg
  | tup a =>
    cases e with
    | tup b =>
      dsimp only [gAdd] at hg
      by_cases hz : a.length + b.length ≤ 1000000
      · rw [if_pos hz] at hg
        cases hg
        obtain ⟨l, xs, rfl, hl, hxs⟩ := r1.seqT
        obtain ⟨k, ys, rfl, hk, hys⟩ := r2.seqT
        refine op_catA pins s σ H _ _ v u Q I rx ry ⟨l, k, xs, ys, rfl, rfl, hl, hk, by rw [← hxs.length, ← hys.length]; exact small_of hz, fun e0 => ?_, fun _ e0 => ?_, fun _ _ p np => ?_⟩
        · subst e0
          cases hxs
          exact q H _ (Same.refl _) r2
        · subst e0
          cases hys
          rw [List.append_nil] at q
          exact q H _ (Same.refl _) r1
        · have sm := same_new (o := .tup (xs ++ ys)) np
          exact q _ _ sm (.tup (hm.fresh np) (.inl upd_same) ((hxs.append hys).mono (Lt.same sm).toLk))
      · rw [if_neg hz] at hg
        cases hg
    | _ => cases hg
  | lst a =>
    cases eb : listOf mem e with
    | none => cases e <;> simp [gAdd, listOf] at hg eb <;> simp [eb] at hg
    | some b => exact lists a b rfl eb (fun i j h => nomatch h) (by cases e <;> simp [gAdd, listOf] at eb ⊢ <;> simp [eb])
  | ref n =>
    cases ea : listOf mem (.ref n) with
    | none => cases e <;> simp [gAdd, ea] at hg
    | some a =>
      cases eb : listOf mem e with
      | none => cases e <;> simp [gAdd, ea, eb] at hg
      | some b => exact lists a b ea eb (fun i j h => nomatch h) (by cases e <;> simp [gAdd, ea, eb])
  | _ => cases e <;> simp [gAdd, listOf] at hg
def gI (c : Int → Int → Bool) (f : Int → Int → Int) : OpP := fun _ ds => match ds with
  | [.int a, .int b] => if c a b = true then some (.int (f a b)) else none
  | _ => none
theorem op_gI {op : Operator} {C : Int → Int → Prop} {c : Int → Int → Bool} {f : Int → Int → Int} (ho : OpR X (binaryOp op) (rI C fun i j => .int (f i j))) (hc : ∀ i j, c i j = true → C i j) : OpR X (binaryOp op) (rB2 X.K (pu (gI c f))) := opP fun pins s σ H x y v u Q α mem d e z I rx ry hm r1 r2 hg q => by
  cases d with
  | int i =>
    cases e with
    | int j =>
      dsimp only [gI] at hg
      by_cases h : c i j = true
      · rw [if_pos h] at hg
        cases hg
        cases r1
        cases r2
        exact ho pins s σ H _ _ v u Q I rx ry ⟨i, j, rfl, rfl, hc i j h, q H _ (Same.refl _) (.int _)⟩
      · rw [if_neg h] at hg
        cases hg
    | _ => cases hg
  | _ => cases e <;> cases hg
theorem op_subC : OpR X (binaryOp .Sub) (rI (fun _ _ => True) fun i j => .int (i - j)) := opI fun _ _ _ _ _ _ _ _ q => PyProof.Rows.sub_int q
def gMinus : OpP := gI (fun _ _ => true) fun i j => i - j
theorem op_gMinus : OpR X (binaryOp .Sub) (rB2 X.K (pu gMinus)) := op_gI op_subC fun _ _ _ => trivial
/-- % by a positive number -/
def gMod : OpP := gI (fun _ j => decide (0 < j)) fun i j => i % j
theorem op_gMod : OpR X (binaryOp .Mod) (rB2 X.K (pu gMod)) := op_gI op_mod fun _ _ h => of_decide_eq_true h
def gDiv : OpP := gI (fun _ j => decide (0 < j ∧ j.natAbs.log2 < 9000)) fun i j => i / j
theorem op_gDiv : OpR X (binaryOp .FloorDiv) (rB2 X.K (pu gDiv)) := op_gI op_fdivW fun i j h => show CDivW i j from of_decide_eq_true (p := 0 < j ∧ j.natAbs.log2 < 9000) h
theorem op_powC : OpR X (binaryOp .Pow) (rI (fun i j => 0 ≤ j ∧ (Builtin.Int.intBits i : Int) * j ≤ 2 ^ 27) fun i j => .int (i ^ j.toNat)) := opI fun _ _ _ _ _ _ _ hc q => PyProof.Rows.pow_int hc.1 hc.2 q
def gPow : OpP := gI (fun i j => decide (0 ≤ j ∧ (Builtin.Int.intBits i : Int) * j ≤ 2 ^ 27)) fun i j => i ^ j.toNat
theorem op_gPow : OpR X (binaryOp .Pow) (rB2 X.K (pu gPow)) := op_gI op_powC fun _ _ h => of_decide_eq_true h
/-- a product of ints; a list, a text times an int -/
def gMul : OpP := fun mem ds => match ds with
  | [.int a, .int b] => if a.natAbs.log2 + b.natAbs.log2 < 1000000 then some (.int (a * b)) else none
  | [x, .int k] => match listOf mem x with
    | some a => if 0 ≤ k ∧ k ≤ 1000 ∧ a.length ≤ 1000 then some (.lst (List.replicate k.toNat a).flatten) else none
    | none => none
  | _ => none
theorem RepL.rep {K : PySem.W.Frag} {α : Ad} {H : Hp} {ds : List D} {xs : List V} (h : RepL K α H ds xs) : ∀ n : Nat, RepL K α H (List.replicate n ds).flatten (List.replicate n xs).flatten
  | 0 => .nil
  | n + 1 => by
    rw [List.replicate_succ, List.replicate_succ, List.flatten_cons, List.flatten_cons]
    exact h.append (h.rep n)
theorem op_gMul : OpR X (binaryOp .Mult) (rB2 X.K (pu gMul)) := opP fun pins s σ H x y v u Q α mem d e z I rx ry hm r1 r2 hg q => by
  have lists : ∀ (a : List D) (k : Int), listOf mem d = some a → e = .int k → gMul mem [d, .int k] = (if 0 ≤ k ∧ k ≤ 1000 ∧ a.length ≤ 1000 then some (.lst (List.replicate k.toNat a).flatten) else none) → wpAny (model X.prog X.w) X.A (binaryOp .Mult v u) (EP X pins σ Q) X.xe s := fun a k ha ek he => by
    subst ek
    rw [hg] at he
    by_cases hz : 0 ≤ k ∧ k ≤ 1000 ∧ a.length ≤ 1000
    · rw [if_pos hz] at he
      cases he
      obtain ⟨l, xs, rfl, hl, hxs⟩ := listOf_at hm r1 ha
      cases r2
      refine op_rep pins s σ H _ _ v u Q I rx ry ⟨l, k, xs, rfl, rfl, hl, by omega, by omega, ?_, fun p np => ?_⟩
      · rw [← hxs.length]
        exact small_of (Nat.le_trans (Nat.mul_le_mul hz.2.2 (show k.toNat ≤ 1000 by omega)) (by decide))
      · have sm := same_new (o := .lst (List.replicate k.toNat xs).flatten) np
        exact q _ _ sm (.lst (hm.fresh np) upd_same ((hxs.rep k.toNat).mono (Lt.same sm).toLk))
    · rw [if_neg hz] at he
      cases he
  cases e with
  | int j =>
    cases d with
    | int i =>
      dsimp only [gMul] at hg
      by_cases h : i.natAbs.log2 + j.natAbs.log2 < 1000000
      · rw [if_pos h] at hg
        cases hg
        cases r1
        cases r2
        exact op_mulW pins s σ H _ _ v u Q I rx ry ⟨i, j, rfl, rfl, h, q H _ (Same.refl _) (.int _)⟩
      · rw [if_neg h] at hg
        cases hg
    | lst a => exact lists a j rfl rfl rfl
    | ref n =>
      cases ea : listOf mem (.ref n) with
      | none => simp [gMul, ea] at hg
      | some a => exact lists a j ea rfl (by simp [gMul, ea])
    | _ => simp [gMul, listOf] at hg
  | _ => cases d <;> simp [gMul] at hg
def gNeg : OpP := fun _ ds => match ds with
  | [.int a] => some (.int (-a))
  | _ => none
theorem un_gNeg : UnR X (unaryOp .USub) (rB1 X.K (pu gNeg)) := unP fun pins s σ H x v Q α mem d z I rx hm r1 hg q => by
  cases d with
  | int i =>
    cases hg
    cases r1
    exact un_neg pins s σ H _ v Q I rx ⟨i, rfl, q H _ (Same.refl _) (.int _)⟩
  | _ => cases hg

/-! ### comparisons of ints and of texts -/
def gCmp (f : Int → Int → Bool) (k : List Nat → List Nat → Bool) : OpP := fun _ ds => match ds with
  | [.int a, .int b] => some (.bl (f a b))
  | [.str a, .str b] => some (.bl (k a.cps.toList b.cps.toList))
  | _ => none
theorem op_gCmp {op : CmpOp} {f : Int → Int → Bool} {k : List Nat → List Nat → Bool} (ho : OpR X (compareOp op) (rI0 fun i j => .bl (f i j))) (hs : OpR X (compareOp op) (fun x y H Q => ∃ i j : Str, x = .str i ∧ y = .str j ∧ Q (.bl (k i.cps.toList j.cps.toList)) H)) : OpR X (compareOp op) (rB2 X.K (pu (gCmp f k))) := opP fun pins s σ H x y v u Q α mem d e z I rx ry hm r1 r2 hg q => by
  cases d with
  | int i =>
    cases e with
    | int j =>
      cases hg
      cases r1
      cases r2
      exact ho pins s σ H _ _ v u Q I rx ry ⟨i, j, rfl, rfl, q H _ (Same.refl _) (.bl _)⟩
    | _ => cases hg
  | str i =>
    cases e with
    | str j =>
      cases hg
      cases r1
      cases r2
      exact hs pins s σ H _ _ v u Q I rx ry ⟨i, j, rfl, rfl, q H _ (Same.refl _) (.bl _)⟩
    | _ => cases hg
  | _ => cases e <;> cases hg
def gLt : OpP := gCmp (fun i j => decide (i < j)) fun a b => decide (a < b)
def gLe : OpP := gCmp (fun i j => decide (i ≤ j)) fun a b => !decide (b < a)
def gGt : OpP := gCmp (fun i j => decide (j < i)) fun a b => decide (b < a)
def gGe : OpP := gCmp (fun i j => decide (j ≤ i)) fun a b => !decide (a < b)
theorem op_gLt : OpR X (compareOp .Lt) (rB2 X.K (pu gLt)) := op_gCmp op_lt op_lt_str
theorem op_gLe : OpR X (compareOp .LtE) (rB2 X.K (pu gLe)) := op_gCmp op_le op_le_str
theorem op_gGt : OpR X (compareOp .Gt) (rB2 X.K (pu gGt)) := op_gCmp op_gt op_gt_str
theorem op_gGe : OpR X (compareOp .GtE) (rB2 X.K (pu gGe)) := op_gCmp op_ge op_ge_str
end

/-! ### data as the library has it -/
mutual
def D.py : D → Option PyData
  | .non => some .none
  | .bl b => some (.bool b)
  | .int i => some (.int i)
  | .str x => some (.str x)
  | .tup ds => match D.pyL ds with
    | some ps => some (.tuple ps)
    | none => none
  | .lst ds => match D.pyL ds with
    | some ps => some (.list ps)
    | none => none
  | .dic _ => none
  | .ref _ => none
  | .con _ => none
  | .scr _ => none
  | .exo _ _ _ => none
def D.pyL : List D → Option (List PyData)
  | [] => some []
  | d :: ds => match D.py d, D.pyL ds with
    | some p, some ps => some (p :: ps)
    | _, _ => none
end
section
variable {K : PySem.W.Frag} {α : Ad} {H : Hp}
mutual
theorem Rep.dp : ∀ {d : D} {v : V} {p : PyData}, Rep K α H d v → D.py d = some p → Dp K H v p
  | _, _, _, .non, h => by rw [D.py] at h; cases h; exact .non
  | _, _, _, .bl b, h => by rw [D.py] at h; cases h; exact .bl b
  | _, _, _, .int i, h => by rw [D.py] at h; cases h; exact .int i
  | _, _, _, .str x, h => by rw [D.py] at h; cases h; exact .str x
  | _, _, _, .tup (ds := ds) _ r rs, h => by
    rw [D.py] at h
    cases e : D.pyL ds with
    | none => rw [e] at h; cases h
    | some ps => rw [e] at h; cases h; exact .tup (.inl r) (RepL.dp rs e)
  | _, _, _, .tupK (ds := ds) w rs, h => by
    rw [D.py] at h
    cases e : D.pyL ds with
    | none => rw [e] at h; cases h
    | some ps => rw [e] at h; cases h; exact .tup (.inr w) (RepL.dp rs e)
  | _, _, _, .lst (ds := ds) _ r rs, h => by
    rw [D.py] at h
    cases e : D.pyL ds with
    | none => rw [e] at h; cases h
    | some ps => rw [e] at h; cases h; exact .lst (SqL.of r) (RepL.dp rs e)
  | _, _, _, .scr _ _ _, h => by rw [D.py] at h; cases h
  | _, _, _, .scrK _ _, h => by rw [D.py] at h; cases h
  | _, _, _, .dic _ _ _, h => by rw [D.py] at h; cases h
  | _, _, _, .ref _, h => by rw [D.py] at h; cases h
  | _, _, _, .con _, h => by rw [D.py] at h; cases h
  | _, _, _, .exm _ _ _ _ _, h => by rw [D.py] at h; cases h
  | _, _, _, .exf _ _ _ _ _, h => by rw [D.py] at h; cases h
  | _, _, _, .exn _ _, h => by rw [D.py] at h; cases h
theorem RepL.dp : ∀ {ds : List D} {vs : List V} {ps : List PyData}, RepL K α H ds vs → D.pyL ds = some ps → DpAll K H vs ps
  | _, _, _, .nil, h => by rw [D.pyL] at h; cases h; exact .nil
  | _, _, _, .cons (d := d) (ds := ds) r rs, h => by
    rw [D.pyL] at h
    cases e1 : D.py d with
    | none => rw [e1] at h; cases h
    | some p =>
      cases e2 : D.pyL ds with
      | none => rw [e1, e2] at h; cases h
      | some ps => rw [e1, e2] at h; cases h; exact .cons (Rep.dp r e1) (RepL.dp rs e2)
end
/-- a cell's list as data -/
def rdC (mem : Mem) : D → D
  | .ref n => match mem[n]? with
    | some (.lst ds) => .lst ds
    | _ => .ref n
  | d => d
theorem rdC_dp {mem : Mem} {d : D} {v : V} {p : PyData} (hm : MemRep K α H mem) (hr : Rep K α H d v) (h : D.py (rdC mem d) = some p) : Dp K H v p := by
  cases d with
  | ref n =>
    obtain ⟨a, rfl, ha⟩ := hr.ref_
    obtain ⟨c, hc, hc'⟩ := hm.at_ ha
    unfold rdC at h
    simp only [hc] at h
    cases c with
    | lst ds =>
      obtain ⟨xs, hx, hl⟩ := hc'
      dsimp only at h
      rw [D.py] at h
      cases e : D.pyL ds with
      | none => rw [e] at h; cases h
      | some ps => rw [e] at h; cases h; exact .lst (SqL.of hx) (hl.dp e)
    | dic _ => dsimp only at h; rw [D.py] at h; cases h
    | tab _ _ => dsimp only at h; rw [D.py] at h; cases h
  | _ => exact hr.dp h
end
section
variable {X : Cx}
/-- == of data -/
def gEqD (neg : Bool) : OpP := fun mem ds => match ds with
  | [x, y] => match D.py (rdC mem x), D.py (rdC mem y) with
    | some p, some q => if (SeqAt.shaped p && SeqAt.shaped q) = true then some (.bl (neg != PyData.eqv p q)) else none
    | _, _ => none
  | _ => none
theorem op_gEqD (hu : X.A.units + 64 < cLine) : OpR X (compareOp .Eq) (rB2 X.K (pu (gEqD false))) := opP fun pins s σ H x y v u Q α mem d e z I rx ry hm r1 r2 hg q => by
  dsimp only [gEqD] at hg
  cases e1 : D.py (rdC mem d) with
  | none => rw [e1] at hg; cases hg
  | some p =>
    cases e2 : D.py (rdC mem e) with
    | none => rw [e1, e2] at hg; cases hg
    | some p' =>
      rw [e1, e2] at hg
      dsimp only at hg
      by_cases h : (SeqAt.shaped p && SeqAt.shaped p') = true
      · rw [if_pos h] at hg
        cases hg
        rw [Bool.and_eq_true] at h
        exact op_eqD hu pins s σ H x y v u Q I rx ry ⟨p, p', rdC_dp hm r1 e1, rdC_dp hm r2 e2, h.1, h.2, q H _ (Same.refl _) (by rw [Bool.false_bne]; exact .bl _)⟩
      · rw [if_neg h] at hg
        cases hg
theorem op_gNeD (hu : X.A.units + 64 < cLine) : OpR X (compareOp .NotEq) (rB2 X.K (pu (gEqD true))) := opP fun pins s σ H x y v u Q α mem d e z I rx ry hm r1 r2 hg q => by
  dsimp only [gEqD] at hg
  cases e1 : D.py (rdC mem d) with
  | none => rw [e1] at hg; cases hg
  | some p =>
    cases e2 : D.py (rdC mem e) with
    | none => rw [e1, e2] at hg; cases hg
    | some p' =>
      rw [e1, e2] at hg
      dsimp only at hg
      by_cases h : (SeqAt.shaped p && SeqAt.shaped p') = true
      · rw [if_pos h] at hg
        cases hg
        rw [Bool.and_eq_true] at h
        exact op_neD hu pins s σ H x y v u Q I rx ry ⟨p, p', rdC_dp hm r1 e1, rdC_dp hm r2 e2, h.1, h.2, q H _ (Same.refl _) (by rw [Bool.true_bne]; exact .bl _)⟩
      · rw [if_neg h] at hg
        cases hg
/-- ==: of texts whatever they are; else of data -/
def gEq (neg : Bool) : OpP := fun mem ds => match ds with
  | [.str a, .str b] => some (.bl (neg != decide (a = b)))
  | ds => gEqD neg mem ds
theorem dec_str {a b : Str} : decide (V.str a = V.str b) = decide (a = b) := by
  by_cases h : a = b
  · rw [h, decide_eq_true rfl, decide_eq_true rfl]
  · rw [decide_eq_false h, decide_eq_false fun e => h (V.str.inj e)]
theorem or_str {f : Value → Value → Sem Value} {neg : Bool} (hD : OpR X f (rB2 X.K (pu (gEqD neg))))
    (hS : ∀ (pins : List (Addr × Obj)) (s : Shared) (σ : St) (H : Hp) (a b : Str) (v u : Value) (Q : VK), L2.Inv X pins σ H s → RelV (.str a) v → RelV (.str b) u → Q (.bl (neg != decide (a = b))) H → wpAny (model X.prog X.w) X.A (f v u) (EP X pins σ Q) X.xe s) : OpR X f (rB2 X.K (pu (gEq neg))) := by
  intro pins s σ H x y v u Q I rx ry ⟨α, mem, ds, z, mem', hm, hr, hg, q⟩
  by_cases c : ∃ a b, ds = [.str a, .str b]
  · obtain ⟨a, b, rfl⟩ := c
    cases hr with
    | cons r1 hr =>
      cases hr with
      | cons r2 hr =>
        cases hr
        cases r1
        cases r2
        cases hg
        exact hS pins s σ H a b v u Q I rx ry (q α H _ (Lt.refl _ _) hm (.bl _))
  · have e : gEq neg mem ds = gEqD neg mem ds := by
      unfold gEq
      split
      · rename_i a b
        exact absurd ⟨a, b, rfl⟩ c
      · rfl
    unfold pu at hg
    rw [e] at hg
    exact hD pins s σ H x y v u Q I rx ry ⟨α, mem, ds, z, mem', hm, hr, hg, q⟩
theorem op_gEq (hu : X.A.units + 64 < cLine) : OpR X (compareOp .Eq) (rB2 X.K (pu (gEq false))) := or_str (op_gEqD hu) fun pins s σ H a b v u Q I rx ry q =>
  op_eq pins s σ H _ _ v u Q I rx ry ⟨rfl, by rw [dec_str]; rw [Bool.false_bne] at q; exact q⟩
theorem op_gNe (hu : X.A.units + 64 < cLine) : OpR X (compareOp .NotEq) (rB2 X.K (pu (gEq true))) := or_str (op_gNeD hu) fun pins s σ H a b v u Q I rx ry q =>
  op_ne pins s σ H _ _ v u Q I rx ry ⟨rfl, by rw [dec_str]; rw [Bool.true_bne] at q; exact q⟩
/-- is None, is not None -/
def gIsN (neg : Bool) : OpP := fun _ ds => match ds with
  | [x, .non] => match x with
    | .con _ => none
    | _ => some (.bl (neg != decide (x = .non)))
  | _ => none
theorem Rep.non_iff {K : PySem.W.Frag} {α : Ad} {H : Hp} {d : D} {v : V} (h : Rep K α H d v) (hc : ∀ c, d ≠ .con c) : decide (v = .non) = decide (d = .non) := by
  cases h with
  | con => exact absurd rfl (hc _)
  | non => simp
  | _ => simp
theorem op_gIs : OpR X (compareOp .Is) (rB2 X.K (pu (gIsN false))) := opP fun pins s σ H x y v u Q α mem d e z I rx ry hm r1 r2 hg q => by
  cases e with
  | non =>
    cases r2
    have hd : ∀ c, d ≠ .con c := fun c h => by subst h; cases hg
    refine op_isN pins s σ H _ _ v u Q I rx ry ⟨rfl, ?_⟩
    rw [r1.non_iff hd]
    have hz : z = .bl (decide (d = .non)) := by
      cases d <;> first | (exact absurd rfl (hd _)) | (dsimp only [gIsN] at hg; rw [Bool.false_bne] at hg; cases hg; rfl)
    subst hz
    exact q H _ (Same.refl _) (.bl _)
  | _ => cases hg
theorem op_gIsNot : OpR X (compareOp .IsNot) (rB2 X.K (pu (gIsN true))) := opP fun pins s σ H x y v u Q α mem d e z I rx ry hm r1 r2 hg q => by
  cases e with
  | non =>
    cases r2
    have hd : ∀ c, d ≠ .con c := fun c h => by subst h; cases hg
    refine op_notN pins s σ H _ _ v u Q I rx ry ⟨rfl, ?_⟩
    rw [r1.non_iff hd]
    have hz : z = .bl (!decide (d = .non)) := by
      cases d <;> first | (exact absurd rfl (hd _)) | (dsimp only [gIsN] at hg; rw [Bool.true_bne] at hg; cases hg; rfl)
    subst hz
    exact q H _ (Same.refl _) (.bl _)
  | _ => cases hg

/-! ### items -/
def gIx : OpP := fun mem ds => match ds with
  | [.str z, .int i] => if z.length ≤ 1000000 then (atI z.cps.toList i).map fun c => .str ⟨#[c]⟩ else none
  | [x, .int i] => match seqOf mem x with
    | some ds => atI ds i
    | none => none
  | _ => none
theorem RepL.atI {K : PySem.W.Frag} {α : Ad} {H : Hp} {ds : List D} {xs : List V} {i : Int} {d : D} (h : RepL K α H ds xs) (e : L2.atI ds i = some d) : ∃ v, L2.atI xs i = some v ∧ Rep K α H d v := by
  unfold L2.atI at e ⊢
  rw [← h.length]
  cases ej : ixN ds.length i with
  | none => rw [ej] at e; cases e
  | some j =>
    rw [ej] at e
    obtain ⟨v, h1, h2⟩ := h.get e
    exact ⟨v, h1, h2⟩
theorem ix_g : IxR X (rB2 X.K (pu gIx)) := by
  intro value slice pins s σ H x y v u Q I rx ry h hs
  obtain ⟨α, mem, ds, z, mem', hm, hr, hg, q⟩ := h
  cases hr with
  | @cons d _ _ _ r1 hr =>
    cases hr with
    | @cons e _ _ _ r2 hr =>
      cases hr
      unfold pu at hg
      cases eg : gIx mem [d, e] with
      | none => rw [eg] at hg; cases hg
      | some z' =>
        rw [eg] at hg
        cases hg
        have fin : ∀ w, Rep X.K α H z w → Q w H := fun w hw => q α H w (Lt.refl _ _) hm hw
        cases e with
        | int i =>
          cases r2
          have seq : ∀ (ds : List D), seqOf mem d = some ds → L2.atI ds i = some z → wpAny (model X.prog X.w) X.A (PyProof.Rows.subscriptTail value slice v u) (EP X pins σ Q) X.xe s := fun ds hds hat => by
            obtain ⟨a, xs, rfl, hxs, hq⟩ := seqOf_sq hm r1 hds
            obtain ⟨w, hw, hrw⟩ := hxs.atI hat
            rcases hq with hq | hq
            · exact ix_tup value slice pins s σ H _ _ v u Q I rx ry ⟨a, xs, i, w, rfl, rfl, hq, hw, fin w hrw⟩ hs
            · exact ix_list value slice pins s σ H _ _ v u Q I rx ry ⟨a, xs, i, w, rfl, rfl, hq, hw, fin w hrw⟩ hs
          cases d with
          | str y =>
            cases r1
            dsimp only [gIx] at eg
            by_cases hz : y.length ≤ 1000000
            · rw [if_pos hz] at eg
              cases ec : L2.atI y.cps.toList i with
              | none => rw [ec] at eg; cases eg
              | some c =>
                rw [ec] at eg
                cases eg
                exact ix_str value slice pins s σ H _ _ v u Q I rx ry ⟨y, i, c, rfl, rfl, small_of hz, ec, fin _ (.str _)⟩ hs
            · rw [if_neg hz] at eg
              cases eg
          | _ =>
            dsimp only [gIx] at eg
            split at eg
            · exact seq _ (by assumption) eg
            · cases eg
        | _ => cases d <;> cases eg
end
end Mx

/-! M7: built-in functions, stores, methods. -/
namespace Mx
open PySem L2
section
variable {X : Cx} {W : WX} {pos : Pos}
def gLen : OpP := fun mem ds => match ds with
  | [.str z] => if z.length ≤ 1000000 then some (.int z.length) else none
  | [x] => match seqOf mem x with
    | some ds => some (.int ds.length)
    | none => none
  | _ => none
theorem call_gLen : CallR X (.builtin "len") (rB X.K (pu gLen)) := callP fun pins s σ H xs us Q α mem ds z I rv hm hr hg q => by
  cases hr with
  | nil => cases hg
  | @cons d x _ _ r1 hr =>
    cases hr with
    | cons _ _ => cases d <;> cases hg
    | nil =>
      have seq : ∀ (ds : List D), seqOf mem d = some ds → z = .int ds.length → wpAny (model X.prog X.w) X.A (call (.builtin "len") us) (EP X pins σ Q) X.xe s := fun ds hds hz => by
        subst hz
        obtain ⟨a, xs, rfl, hxs, hq⟩ := seqOf_sq hm r1 hds
        refine call_len pins s σ H _ us Q I rv ⟨_, xs.length, rfl, ?_, q H _ (Same.refl _) (by rw [hxs.length]; exact .int _)⟩
        rcases hq with hq | hq
        · exact .inr ⟨xs, hq, rfl⟩
        · exact .inl ⟨xs, hq, rfl⟩
      cases d with
      | str y =>
        cases r1
        dsimp only [gLen] at hg
        by_cases hz : y.length ≤ 1000000
        · rw [if_pos hz] at hg
          cases hg
          exact call_len pins s σ H _ us Q I rv ⟨_, y.length, rfl, ⟨small_of hz, rfl⟩, q H _ (Same.refl _) (.int _)⟩
        · rw [if_neg hz] at hg
          cases hg
      | _ =>
        dsimp only [gLen] at hg
        split at hg
        · exact seq _ (by assumption) (Option.some.inj hg).symm
        · cases hg
def gAbs : OpP := fun _ ds => match ds with
  | [.int i] => some (.int (if i < 0 then -i else i))
  | _ => none
theorem call_gAbs : CallR X (.builtin "abs") (rB X.K (pu gAbs)) := callP fun pins s σ H xs us Q α mem ds z I rv hm hr hg q => by
  cases hr with
  | nil => cases hg
  | @cons d x _ _ r1 hr =>
    cases hr with
    | cons _ _ => cases d <;> cases hg
    | nil =>
      cases d with
      | int i =>
        cases hg
        cases r1
        exact call_abs pins s σ H _ us Q I rv ⟨i, rfl, q H _ (Same.refl _) (.int _)⟩
      | _ => cases hg
def gInt1 : OpP := fun _ ds => match ds with
  | [.int i] => some (.int i)
  | [.bl b] => some (.int (if b then 1 else 0))
  | _ => none
theorem call_gInt1 : CallR X (.type "int") (rB X.K (pu gInt1)) := callP fun pins s σ H xs us Q α mem ds z I rv hm hr hg q => by
  cases hr with
  | nil => cases hg
  | @cons d x _ _ r1 hr =>
    cases hr with
    | cons _ _ => cases d <;> cases hg
    | nil =>
      cases d with
      | int i =>
        cases hg
        cases r1
        exact call_int1 pins s σ H _ us Q I rv (.inl ⟨i, rfl, q H _ (Same.refl _) (.int _)⟩)
      | bl b =>
        cases hg
        cases r1
        exact call_int1 pins s σ H _ us Q I rv (.inr ⟨b, rfl, q H _ (Same.refl _) (.int _)⟩)
      | _ => cases hg
def gMax2 : OpP := fun _ ds => match ds with
  | [.int i, .int j] => some (.int (if j > i then j else i))
  | _ => none
def gMin2 : OpP := fun _ ds => match ds with
  | [.int i, .int j] => some (.int (if j < i then j else i))
  | _ => none
theorem call_gMax2 (hc : X.calm = true) : CallR X (.builtin "max") (rB X.K (pu gMax2)) := callP fun pins s σ H xs us Q α mem ds z I rv hm hr hg q => by
  cases hr with
  | nil => cases hg
  | @cons d x _ _ r1 hr =>
    cases hr with
    | nil => cases d <;> cases hg
    | @cons e y _ _ r2 hr =>
      cases hr with
      | cons _ _ => cases d <;> cases e <;> cases hg
      | nil =>
        cases d with
        | int i =>
          cases e with
          | int j =>
            cases hg
            cases r1
            cases r2
            exact call_max2 hc pins s σ H _ us Q I rv ⟨i, j, rfl, q H _ (Same.refl _) (.int _)⟩
          | _ => cases hg
        | _ => cases e <;> cases hg
theorem call_gMin2 (hc : X.calm = true) : CallR X (.builtin "min") (rB X.K (pu gMin2)) := callP fun pins s σ H xs us Q α mem ds z I rv hm hr hg q => by
  cases hr with
  | nil => cases hg
  | @cons d x _ _ r1 hr =>
    cases hr with
    | nil => cases d <;> cases hg
    | @cons e y _ _ r2 hr =>
      cases hr with
      | cons _ _ => cases d <;> cases e <;> cases hg
      | nil =>
        cases d with
        | int i =>
          cases e with
          | int j =>
            cases hg
            cases r1
            cases r2
            exact call_min2 hc pins s σ H _ us Q I rv ⟨i, j, rfl, q H _ (Same.refl _) (.int _)⟩
          | _ => cases hg
        | _ => cases e <;> cases hg
/-! built-ins by their names -/
theorem me_bB {id : String} {x : Str} {p : Pos} {g : OpP} {e : Expr} {es : List Expr} {ml : EL} (hc : CallR X (.builtin id) (rB X.K (pu g))) (hg : Gl X x) (hm : X.mg x = none) (hv : bootBuiltins x = some (.builtin id)) (ha : ML X W (e :: es) ml) (hn : x ≠ "__name__" := by decide) (hdb : (x == ("__debug__" : Str)) = false := by decide)
    (he : starEach (e :: es) X.env = (false, eval e X.env) :: starEach es X.env := by rfl) (hpl : (backTo pos (starEach es X.env)).any (·.1) = false := by rfl) : ME X W (.Call (.Name x p) (e :: es) [] pos) (eN (pu g) ml) := ⟨PE.imp (pe_callB hc hg hm hv ha.pa hn hdb he hpl) fun _ _ _ h => tEN h⟩
theorem me_bT {id : String} {x : Str} {p : Pos} {g : OpP} {e : Expr} {es : List Expr} {ml : EL} (hc : CallR X (.type id) (rB X.K (pu g))) (hg : Gl X x) (hm : X.mg x = none) (hv : bootBuiltins x = some (.type id)) (ha : ML X W (e :: es) ml) (hn : x ≠ "__name__" := by decide) (hdb : (x == ("__debug__" : Str)) = false := by decide)
    (he : starEach (e :: es) X.env = (false, eval e X.env) :: starEach es X.env := by rfl) (hpl : (backTo pos (starEach es X.env)).any (·.1) = false := by rfl) : ME X W (.Call (.Name x p) (e :: es) [] pos) (eN (pu g) ml) := ⟨PE.imp (pe_callTy hc hg hm hv ha.pa hn hdb he hpl) fun _ _ _ h => tEN h⟩

/-! o[i] = e: a list in a cell -/
def putIx (mem : Mem) (o i v : D) : Option Mem := match o, i with
  | .ref n, .int k => match mem[n]? with
    | some (.lst ds) => match ixN ds.length k with
      | some j => some (mem.set n (.lst (ds.set j v)))
      | none => none
    | _ => none
  | _, _ => none
def sPut (o i e : E1) : S1 := fun loc mem => (e loc mem).thenS loc fun v m1 => (o loc m1).thenS loc fun ov m2 => (i loc m2).thenS loc fun iv m3 => match putIx m3 ov iv v with
  | some m4 => .nx loc m4
  | none => .bad
theorem ms_put {o i e : Expr} {mo mi me : E1} {tpos : Pos} (ho : ME X W o mo) (hi : ME X W i mi) (he : ME X W e me) (hs : swapsWithSole [.Subscript o i tpos] e pos.line X.env = pure false := by rfl) (hw : swappedStores [.Subscript o i tpos] e X.env = pure none := by rfl)
    (h1 : (assignEach [.Subscript o i tpos] X.env).map (·.2) = [assign (.Subscript o i tpos) X.env] := by rfl) (hsub : ∀ v, assign (.Subscript o i tpos) X.env v = (do
      let ov ← holding [v] (eval o X.env)
      let iv ← holding [v, ov] (eval i X.env)
      standAt tpos
      holding [v, ov, iv] (setItem ov iv v)
      release [v, ov, iv] []) := by intro _; rfl) :
    MS X W (.Assign [.Subscript o i tpos] e pos) (sPut mo mi me) := ⟨PS.imp (ps_asg he.pe (pg_sub ho.pe hi.pe set_list hsub) hs hw h1) fun Z σ H ⟨α, loc, mem, hm, hl, hp⟩ =>
  tG_goS hm hl hp fun α1 H1 m1 v vv l1 hm1 hl1 hr1 hp1 => tG_goS hm1 hl1 hp1 fun α2 H2 m2 ov ovv l2 hm2 hl2 hr2 hp2 => tG_goS hm2 hl2 hp2 fun α3 H3 m3 iv ivv l3 hm3 hl3 hr3 hp3 => by
    have r1 := (hr1.mono l2.toLk).mono l3.toLk
    have r2 := hr2.mono l3.toLk
    cases ov with
    | ref n =>
      cases iv with
      | int k =>
        cases hr3
        obtain ⟨a, rfl, ha⟩ := r2.ref_
        obtain ⟨c, hc, hc'⟩ := hm3.at_ ha
        dsimp only [putIx] at hp3
        rw [hc] at hp3
        cases c with
        | lst ds =>
          obtain ⟨xs, hx, hxs⟩ := hc'
          dsimp only at hp3
          cases ej : ixN ds.length k with
          | none => rw [ej] at hp3; exact hp3.elim
          | some j =>
            rw [ej] at hp3
            have lw : Lt α3 H3 α3 (upd H3 a (.lst (xs.set j vv))) := Lt.write (List.mem_of_getElem? ha)
            refine ⟨a, xs, k, j, rfl, rfl, hx, by rw [← hxs.length]; exact ej, ?_⟩
            exact hp3 α3 _ σ lw (hm3.write ha ⟨_, upd_same, ((hxs.set r1 j).mono lw.toLk)⟩) (hl3.mono lw.toLk)
        | dic _ => exact hp3.elim
        | tab _ _ => exact hp3.elim
      | _ => exact hp3.elim
    | _ => cases iv <;> exact hp3.elim⟩
end
end Mx

/-! M8: the forms that a printed derivation uses. -/
namespace Mx
open PySem L2
section
variable {X : Cx} {W : WX} {pos : Pos} {e : Expr} {ma : E1}
theorem ms_setD {i : Nat} {x : Str} {p : Pos} (hN : X.N.Nodup) (hi : X.N[i]? = some x) (hx : Loc X.env.scope x) (he : ME X W e ma) (hs : swapsWith e (some (.Name x p)) pos.line X.env = pure false := by rfl)
    (hf : X.fn x = true ∨ X.env.scope.names.lookup x = some .local := by first | exact .inl rfl | exact .inr rfl | assumption) : MS X W (.Assign [.Name x p] e pos) (sSet i ma) := ms_set he (ps_set hN hi hx he.pe hs hf)
theorem mg_tupD {es : List Expr} {k : Nat} {gs : List Tg} (h : MGs X es gs) (hc : X.calm = true) (hn : (assignEach es X.env).length = gs.length := by rfl) (hst : (assignEach es X.env).findIdx? (·.1) = none := by rfl) : MG X (.Tuple es k pos) (.t gs) :=
  mg_tup h (pg_tup hc h.pgs hn hst) (pg_lst hc h.pgs hn hst)
theorem mi_range1D {tg a : Expr} {p : Pos} {ml : EL} (h : ML X W [a] ml) (hg : Gl X "range") (hm : X.mg "range" = none) (hs : starEach [a] X.env = [(false, eval a X.env)] := by rfl) : MI X W tg (.Call (.Name "range" p) [a] [] pos) (wRange1 ml) :=
  mi_range1 h (pi_range1 hg hm h.pa hs)
theorem mi_range2D {tg a b : Expr} {p : Pos} {ml : EL} (h : ML X W [a, b] ml) (hg : Gl X "range") (hm : X.mg "range" = none) (hs : starEach [a, b] X.env = [(false, eval a X.env), (false, eval b X.env)] := by rfl) (hs2 : starEach [b] X.env = [(false, eval b X.env)] := by rfl) :
    MI X W tg (.Call (.Name "range" p) [a, b] [] pos) (wRange2 ml) := mi_range2 h (pi_range2 hg hm h.pa hs hs2)
theorem ms_parD {i j : Nat} {x y : Str} {a b : Expr} {ml : EL} {px py pt : Pos} {kt k2 pt2} (hN : X.N.Nodup) (h : ML X W [a, b] ml) (hc : X.calm = true := by rfl) (hi : X.N[i]? = some x := by rfl) (hj : X.N[j]? = some y := by rfl) (hij : i ≠ j := by decide)
    (hx : X.env.scope.names.lookup x = some .local := by rfl) (hy : X.env.scope.names.lookup y = some .local := by rfl) (hw : swappedStores [.Tuple [.Name x px, .Name y py] kt pt] (.Tuple [a, b] k2 pt2) X.env = pure (some [x, y]) := by rfl)
    (hs : swapsWithSole [.Tuple [.Name x px, .Name y py] kt pt] (.Tuple [a, b] k2 pt2) pos.line X.env = pure false := by rfl) : MS X W (.Assign [.Tuple [.Name x px, .Name y py] kt pt] (.Tuple [a, b] k2 pt2) pos) (sPar [i, j] ml) :=
  ms_par h (ps_par hc hN hi hj hij hx hy h.pa hw hs)
abbrev wEnum := wEnumL
theorem mi_enum {elts : List Expr} {kk : Nat} {tpos : Pos} {a : Expr} {p : Pos} {ml : EL} (h : ML X W [a] ml) (hg : Gl X "enumerate") (hmg : X.mg "enumerate" = none) (hs : starEach [a] X.env = [(false, eval a X.env)] := by rfl) :
    MI X W (.Tuple elts kk tpos) (.Call (.Name "enumerate" p) [a] [] pos) (wEnum ml) := mi_enumL h hg hmg hs
/-- a built-in class by its name -/
theorem me_ty {x : Str} {n : String} (hg : Gl X x) (hm : X.mg x = none) (hv : bootBuiltins x = some (.type n)) (hn : x ≠ "__name__" := by decide) (hd : (x == ("__debug__" : Str)) = false := by decide) : ME X W (.Name x pos) (eC (.con (.ty n))) :=
  me_c (v := .ty n) (pe_bltn (v := .ty n) hg hm hv rfl hn hd) fun _ _ => .con _
end
end Mx

/-! M8b: an own exception class is called: a version that covers KeyError, whose __new__ is LookupError's. -/
namespace Mx
open PySem PySem.W PySem.Calls PyProof.Rows PySem.HandSPX
/-- what bm must say beside the facts of __new__'s owner -/
structure Tl (O : String) (bm : List Value) : Prop where
  hO : bm.contains (.type O) = true
  hA : bm.contains (.type "AttributeError") = false
  hN : bm.contains (.type "NameError") = false
section
variable {prog : Program} {w : World} {A : Around} {E : Value → Shared → Prop} {R : Result → Shared → Prop} {hp : Heap} {g : Array GenState} {d : Drawn} {t : Nat} {os : OsState}
variable {nm q : Str} {C N : Addr} {bs bm bmB : List Value} {hdct : Bool} {sn : List Str} {sub : List Value} {ab : Bool} {col : Option Bool} {dd : Option Addr} {k0 k1 k2 k3 k5 : Option Value} {O newId iO : String}
theorem tl_check (F : ExcBaseFacts O newId iO bmB) (T : Tl O bm) {vs : List Value} {Q : Unit → Shared → Prop} (cl : hp.get? C = some (excClassObj nm q C N bs bm hdct sn sub ab col dd k0 k1 k2 k3 k5 newId)) (fin : Q () ⟨hp, g, d, t, os⟩) :
    wpAny (model prog w) A (checkBuiltinCall newId ⟨.ref C :: vs, []⟩) Q E ⟨hp, g, d, t, os⟩ := by
  have yes : (Value.ref C :: bm).contains (.type O) = true := by
    rw [List.contains_cons]
    rw [T.hO, Bool.or_true]
  have nostar := F.noStar
  simp only [checkBuiltinCall, F.newKind,
    F.newSplit, F.newRow]
  repeat (first | refine wpAny_loadPart_at cl ?_ | (refine wpAny_isSubtype_exc cl ?_; rw [yes]) | refine wpAny_staticBase_exc cl ?_ | refine wpAny_madeBy_exc cl ?_ | simp only [bne_self_eq_false, Bool.false_eq_true, if_false] | wp_step)
  exact fin
theorem tl_new (F : ExcBaseFacts O newId iO bmB) (T : Tl O bm) {vs : List Value} (cl : hp.get? C = some (excClassObj nm q C N bs bm hdct sn sub ab col dd k0 k1 k2 k3 k5 newId)) (few : vs.length ≤ sizeLine)
    (fin : R (.ok (.ret (.ref (hp.objs.size + 1)))) ⟨(hp.push (kdv_tup vs)).push (excO C hp.objs.size), g, d, t, os⟩) : codeAny (model prog w) A (.builtin newId ⟨.ref C :: vs, []⟩) R ⟨hp, g, d, t, os⟩ := by
  have ends := F.ends
  have yO : (Value.ref C :: bm).contains (.type O) = true := by
    rw [List.contains_cons]
    rw [T.hO, Bool.or_true]
  have nA : (Value.ref C :: bm).contains (.type "AttributeError") = false := by
    rw [List.contains_cons, T.hA]
    rfl
  have nN : (Value.ref C :: bm).contains (.type "NameError") = false := by
    rw [List.contains_cons, T.hN]
    rfl
  refine codeAny_builtinAt F.entry ?_
  unfold Builtin.«BaseException.__new__»
  refine PySem.wpAt_bind ?_
  show PySem.wpAt _ _ _ (stack >>= _) _ _ _
  refine PySem.wpAt_bind (PySem.wpAt_stack fun _ _ => PySem.wpAt_of_wpAny ?_)
  wp_walk
  refine PySem.wpAt_of_wpAny ?_
  rw [F.owner]
  repeat (first | with_reducible refine wpAny_madeHere_exc F.canon cl ?_ | with_reducible refine wpAny_loadPart_at cl ?_ | (with_reducible refine wpAny_isSubtype_exc cl ?_; first | rw [yO] | rw [nA] | rw [nN]) | wp_step)
  show R _ _
  rw [Heap.size_push]
  exact fin
theorem tl_type_call (F : ExcBaseFacts O newId iO bmB) (T : Tl O bm) {vs : List Value} {fI : Addr} {Q : Fin → Shared → Prop} (cl : hp.get? C = some (excClassObj nm q C N bs bm hdct sn sub ab col dd k0 k1 k2 k3 k5 newId)) (ini : Looks (model prog w) hp (typeLookup (.ref C) "__init__") (some (.ref fI))) (bnd : ∀ self, Looks (model prog w) hp (bindSpecial (.ref fI) self) (.ref fI, [self])) (few : vs.length ≤ sizeLine)
    (fin : codeAny (model prog w) A (.call (.ref fI) ⟨.ref (hp.objs.size + 1) :: vs, []⟩)
      (fun r s' => match r with | .ok (.ret v) => v = .none ∧ Q (.done (.ret (.ref (hp.objs.size + 1)))) s' | .ok _ => False | .error e => E e s') ⟨(hp.push (kdv_tup vs)).push (excO C hp.objs.size), g, d, t, os⟩) :
    wpAny (model prog w) A (Builtin.«type.__call__» ⟨.ref C :: vs, []⟩) Q E ⟨hp, g, d, t, os⟩ := by
  repeat (first | with_reducible refine wpAny_loadPart_at cl ?_ | with_reducible refine wpAny_madeBy_exc cl ?_ | wp_step)
  refine codeAny_call_builtin_code (Code.quiet_builtin _ F.quiet) (tl_check F T cl (tl_new F T cl few ?_))
  show wpAny _ _ _ _ _ _
  have kp : ∀ b o, hp.get? b = some o → ((hp.push (kdv_tup vs)).push (excO C hp.objs.size)).get? b = some o := fun b o e => Heap.get?_push_of_some _ (Heap.get?_push_of_some _ e)
  have cl1 := kp _ _ cl
  have new1 : ((hp.push (kdv_tup vs)).push (excO C hp.objs.size)).get? (hp.objs.size + 1) = some (excO C hp.objs.size) := by heap_get
  have own : (Value.ref C :: bm).contains (.ref C) = true := by simp
  have ini1 := ini.keeps kp
  have bnd1 := (bnd (.ref (hp.objs.size + 1))).keeps kp
  unfold isInstance
  repeat (first | with_reducible refine wpAny_loadPart_at new1 ?_ | (with_reducible refine wpAny_isSubtype_exc cl1 ?_; rw [own]) | wp_step)
  show wpAny _ _ (typeLookup (.ref C) _) _ _ _
  refine ini1.at ?_
  refine wpAny_holding (wpAny_bind (bnd1.at ?_))
  refine wpAny_bind (wpAny_call (codeAny_mono fin fun r s' z => ?_))
  rcases r with e | (v | _ | _ | _) <;> first | exact z | exact z.elim | skip
  obtain ⟨rfl, z⟩ := z
  first
    | exact wpAny_pure (wpAny_pure z)
    | (wp_walk; exact z)
theorem tl_call (F : ExcBaseFacts O newId iO bmB) (T : Tl O bm) {vs : List Value} {fI : Addr} (cl : hp.get? C = some (excClassObj nm q C N bs bm hdct sn sub ab col dd k0 k1 k2 k3 k5 newId)) (ini : Looks (model prog w) hp (typeLookup (.ref C) "__init__") (some (.ref fI))) (bnd : ∀ self, Looks (model prog w) hp (bindSpecial (.ref fI) self) (.ref fI, [self])) (few : vs.length ≤ sizeLine)
    (fin : codeAny (model prog w) (A.under (.builtin "type.__call__" ⟨.ref C :: vs, []⟩)) (.call (.ref fI) ⟨.ref (hp.objs.size + 1) :: vs, []⟩) (InitBack (hp.objs.size + 1) R) ⟨(hp.push (kdv_tup vs)).push (excO C hp.objs.size), g, d, t, os⟩) :
    codeAny (model prog w) A (.call (.ref C) ⟨vs, []⟩) R ⟨hp, g, d, t, os⟩ := by
  have a1 := tc_lookup
  have a2 := tc_bind (.ref C)
  have a3 : (⟨hp, g, d, t, os⟩ : Shared).TypeIs (.ref C) "type" := ⟨_, cl, rfl⟩
  refine codeAny_of_tree ?_
  show wpAny _ _ (callAny (.ref C) _) _ _ _
  repeat (any_goals (first | assumption | with_reducible refine wpAny_loadPart_at cl ?_ | wp_step))
  refine ⟨rfl, ?_⟩
  refine codeAny_call_builtin_at (Code.quiet_builtin _ (by decide +kernel)) entry_typeCall (wpAny_check_type_call_sub cl (tl_type_call F T cl ini bnd few ?_))
  refine codeAny_mono fin fun r s' z => ?_
  rcases r with e | (v | _ | _ | _) <;> exact z
/-- an __init__ that is BaseException's -/
structure Ini (B initId : String) : Prop where
  kind : builtinKind initId = some .slot
  row : Manifest.signature? initId = some ⟨.positional, "*", B, .self, [⟨"args", .varPos, false⟩]⟩
  star : (B != "*") = true
  plain : plainId initId = true
  entry : entryFor table initId = some Builtin.«BaseException.__init__»
theorem Ini.of {B newId initId : String} (F : ExcCallFacts B newId initId) : Ini B initId := ⟨F.initKind, F.initRow, F.noStar, F.init.plain, F.initEntry⟩
theorem Ini.key : Ini "KeyError" "KeyError.__init__" := ⟨excClass_KeyError.initKind, excClass_KeyError.initSig, excClass_KeyError.notStar, excClass_KeyError.init.plain, excClass_KeyError.initEntry⟩
theorem Ini.check {B initId newId : String} (F : Ini B initId) {M : Model} {e : Addr} {oe : Obj} {vs : List Value} {Q : Unit → Shared → Prop}
    (cl : hp.get? C = some (excClassObj nm q C N bs bm hdct sn sub ab col dd k0 k1 k2 k3 k5 newId)) (he : hp.get? e = some oe) (hcls : oe.cls = .ref C) (fin : Q () ⟨hp, g, d, t, os⟩) : wpAny M A (checkBoundCall initId ⟨.ref e :: vs, []⟩) Q E ⟨hp, g, d, t, os⟩ := by
  have nostar := F.star
  simp only [checkBoundCall, F.kind,
    F.row]
  repeat (first | (with_reducible refine wpAny_loadPart_at he ?_; rw [hcls]) | with_reducible refine wpAny_loadPart_at cl ?_ | wp_step)
  refine wpAny_onRaise ?_
  rw [show ∀ (a b : String) (n : Nat), Bind.check ⟨.positional, "*", B, .self, [⟨"args", .varPos, false⟩]⟩ a b n (List.map (fun x => x.fst) ({ pos := Value.ref e :: vs } : Args).kw) = pure () from fun a b n => check_star_args _ _ _ _ _ _]
  exact wpAny_pure fin
end
end Mx

/-! M9: errors of own classes that say super().__init__(x); self.f = x. -/
namespace Mx
open PySem PySem.W PySem.Calls PyProof.Rows PySem.HandSPX

/-- a built-in base -/
structure Bas (B newId initId : String) (bm : List Value) : Prop where
  F : ∃ O iO bmB, ExcBaseFacts O newId iO bmB ∧ Tl O bm
  I : Ini B initId
  KF : KxsFacts B initId
  pass : ∀ self : Value, refuseLoop self "__setattr__" bm = pure ()
  ne : bm.isEmpty = false
  ob : bm.contains (.type "object") = true
  tl : excTail bm bm = true
abbrev mKey : List Value := [.type "KeyError", .type "LookupError", .type "Exception", .type "BaseException", .type "object"]
abbrev mIndex : List Value := [.type "IndexError", .type "LookupError", .type "Exception", .type "BaseException", .type "object"]
abbrev mLookup : List Value := [.type "LookupError", .type "Exception", .type "BaseException", .type "object"]
abbrev mOver : List Value := [.type "OverflowError", .type "ArithmeticError", .type "Exception", .type "BaseException", .type "object"]
abbrev mRun : List Value := [.type "RuntimeError", .type "Exception", .type "BaseException", .type "object"]
abbrev mArith : List Value := [.type "ArithmeticError", .type "Exception", .type "BaseException", .type "object"]
theorem bKey : Bas "KeyError" "LookupError.__new__" "KeyError.__init__" mKey := ⟨⟨_, _, _, PySem.F.excBase_LookupError, by decide +kernel, by decide +kernel, by decide +kernel⟩, .key, ⟨by show builtinType _ = _; rw [builtinType_eq_fast]; kernel_rfl, by kernel_rfl⟩, fun _ => by kernel_rfl, rfl, by decide +kernel, by decide +kernel⟩
theorem bIndex : Bas "IndexError" "IndexError.__new__" "IndexError.__init__" mIndex := ⟨⟨_, _, _, PySem.F.excBase_IndexError, by decide +kernel, by decide +kernel, by decide +kernel⟩, .of PySem.F.excBase_IndexError.toExcCallFacts, kxs_IndexError, fun _ => by kernel_rfl, rfl, by decide +kernel, by decide +kernel⟩
theorem bLookup : Bas "LookupError" "LookupError.__new__" "LookupError.__init__" mLookup := ⟨⟨_, _, _, PySem.F.excBase_LookupError, by decide +kernel, by decide +kernel, by decide +kernel⟩, .of PySem.F.excBase_LookupError.toExcCallFacts, kxs_LookupError, fun _ => by kernel_rfl, rfl, by decide +kernel, by decide +kernel⟩
theorem bOver : Bas "OverflowError" "OverflowError.__new__" "OverflowError.__init__" mOver := ⟨⟨_, _, _, PySem.F.excBase_OverflowError, by decide +kernel, by decide +kernel, by decide +kernel⟩, .of PySem.F.excBase_OverflowError.toExcCallFacts, kxs_OverflowError, fun _ => by kernel_rfl, rfl, by decide +kernel, by decide +kernel⟩
theorem bRun : Bas "RuntimeError" "RuntimeError.__new__" "RuntimeError.__init__" mRun := ⟨⟨_, _, _, PySem.F.excBase_RuntimeError, by decide +kernel, by decide +kernel, by decide +kernel⟩, .of PySem.F.excBase_RuntimeError.toExcCallFacts, kxs_RuntimeError, fun _ => by kernel_rfl, rfl, by decide +kernel, by decide +kernel⟩
theorem bArith : Bas "ArithmeticError" "ArithmeticError.__new__" "ArithmeticError.__init__" mArith := ⟨⟨_, _, _, PySem.F.excBase_ArithmeticError, by decide +kernel, by decide +kernel, by decide +kernel⟩, .of PySem.F.excBase_ArithmeticError.toExcCallFacts, kxs_ArithmeticError, fun _ => by kernel_rfl, rfl, by decide +kernel, by decide +kernel⟩

/-- what the written part says of the class at C, of its __init__ at fI, whose text is st; fld: the one field -/
structure Xi (prog : Program) (K : Frag) (mg : Str → Option Value) (st : Stmt) (cn qual fld : Str) (C fI : Addr) (B newId initId : String) (bm : List Value) : Prop where
  bas : Bas B newId initId bm
  gC : mg cn = some (.ref C)
  cls : ∃ nm q N bs sn sub ab col dd k0 k1 k2 k3 k5, K.lookup C = some (excClassObj nm q C N bs bm true sn sub ab col dd k0 k1 k2 k3 k5 newId)
  sa : findIn K (.ref C) "__setattr__" = some (some (.builtin "object.__setattr__"))
  ga : findIn K (.ref C) "__getattribute__" = some (some (.builtin "BaseException.__getattribute__"))
  gg : findIn K (.ref C) "__getattr__" = some none
  noF : findIn K (.ref C) fld = some none
  iC : findIn K (.ref C) "__init__" = some (some (.ref fI))
  tI : typeIn K (.ref fI) = some (.type "function")
  kC : keepIn K (.ref C) = true
  exC : subIn K (.ref C) (.type "BaseException") = some true
  tyC : typeIn K (.ref C) = some (.type "type")
  hdC : hasDictIn K C = true
  subB : subIn K (.ref C) (.type B) = some true
  self : mroIn K C (.ref C) = some true
  sup : ks_superIn K C C "__init__" = some (some (.builtin initId))
  op : nsIn K cStatics "thirdparty.any" = some none
  fn : ∃ (oc : Value) (od : Option Addr) (doc pm : Value) (an : Option Addr) (cda : Addr) (ct : Value) (osl : Array (Option Value)) (cc : Addr) (cl : Value) (cld : Option Addr) (csl : Array (Option Value)) (ccl : Value) (cdd : Option Addr) (vs : Array Value) (ccs : Array (Option Value)) (file : Str) (tf : Tok),
    K.lookup fI = some ⟨oc, od, .func (ksFn "__init__" qual (L2.defArgs st) (L2.defBody st) (L2.defScope st) .none .none doc pm an (.ref cda) ct cc), osl⟩ ∧ codeIn K (.ref cda) qual = true ∧
    K.lookup cc = some ⟨cl, cld, .cell (some (.ref C)), csl⟩ ∧ K.lookup cda = some ⟨ccl, cdd, .fields vs, ccs⟩ ∧ vs[2]? = some (.str file tf) ∧ ((prog.main.file : Str) == file) = true
  top : (prog.main.scope.names.lookup ("super" : Str)).isSome = false
/-- the text of such an __init__ -/
structure XiT (st : Stmt) (fld : Str) : Prop where
  body : ∃ p0 p1 p2 p3 p4 p5 q1 q2 q3 q4, L2.defBody st = [.Expr (.Call (.Attribute (.Call (.Name "super" p0) [] [] p1) "__init__" p2) [.Name fld p3] [] p4) p5, .Assign [.Attribute (.Name "self" q1) fld q2] (.Name fld q3) q4] ∧
    (∀ env : PySem.Env, ∃ pl : Sem Bool, PySem.eval (.Call (.Attribute (.Call (.Name "super" p0) [] [] p1) "__init__" p2) [.Name fld p3] [] p4) env = (do
      let ov ← attributeBase (.Call (.Name "super" p0) [] [] p1) "__init__" env (PySem.eval (.Call (.Name "super" p0) [] [] p1) env)
      standAt p2.atName
      let (f, first) ← holding [ov] (getMethod ov "__init__" pl)
      callWith p4 f first (backTo p4 (starEach [.Name fld p3] env)) [])) ∧
    (∀ env : PySem.Env, swapsWith (.Call (.Attribute (.Call (.Name "super" p0) [] [] p1) "__init__" p2) [.Name fld p3] [] p4) none p5.line env = pure false) ∧
    (∀ env : PySem.Env, swapsWith (.Name fld q3) (some (.Attribute (.Name "self" q1) fld q2)) q4.line env = pure false)
  args : ∀ (qual : Str) (doc pm : Value) (an : Option Addr) (cd ct : Value) (cc : Addr) (u v : Value), bindArgs (ksFn "__init__" qual (L2.defArgs st) (L2.defBody st) (L2.defScope st) .none .none doc pm an cd ct cc) ⟨[u, v], []⟩ = pure [(("self" : Str), u), (fld, v)]
  head : ∃ ar : Arg, ((L2.defArgs st).posonlyargs ++ (L2.defArgs st).args).head? = some ar ∧ ar.arg = "self"
  ne : fld ≠ "self"
  kind : (L2.defScope st).kind = .function
  co : (L2.defScope st).isCoroutine = false
  gen : (L2.defScope st).isGenerator = false
  nocell : ∀ x ∈ (L2.defScope st).names, x.2 ≠ .cell
  s1 : (L2.defScope st).names.lookup ("self" : Str) = some .local
  s2 : (L2.defScope st).names.lookup fld = some .local
  s3 : (L2.defScope st).names.lookup ("super" : Str) = some .globalImplicit
  s4 : (L2.defScope st).names.lookup ("__class__" : Str) = some .free
  dbg : (fld == ("__debug__" : Str)) = false
section
open Builtin Builtin.ObjectAttr
variable {prog : Program} {w : World} {A : Around} {E : Value → Shared → Prop} {R : Result → Shared → Prop} {hp : Heap} {g : Array GenState} {d : Drawn} {t : Nat} {os : OsState}
/-- self.name = v where there is no dict yet -/
theorem osaB {K : Frag} {name : Str} {tk : Tok} {v : Value} {x C : Addr} {fv : Array Value} {cd : ClassData} {bm : List Value} (pass : ∀ self : Value, refuseLoop self "__setattr__" bm = pure ()) (tl : excTail bm bm = true) (ob : bm.contains (.type "object") = true)
    (KX : K.In hp) (hx : hp.get? x = some { cls := .ref C, data := .fields fv }) (hcd : clsIn K C = some cd) (hm : cd.mro = .ref C :: bm) (hh : cd.hasDict = true) (ha : findIn K (.ref C) name = some none)
    (fin : ∀ h' tk' dx, (∀ b o, b ≠ x → hp.get? b = some o → h'.get? b = some o) → hp.objs.size ≤ dx → dx ≠ x → h'.get? x = some { cls := .ref C, dict := some dx, data := .fields fv } →
      h'.Ns1 dx (fun y => if y = name then some v else none) → R (.ok (.ret .none)) ⟨h', g, d, tk', os⟩) : codeAny (model prog w) A (.call (.builtin "object.__setattr__") ⟨[.ref x, .str name tk, v], []⟩) R ⟨hp, g, d, t, os⟩ := by
  have J : InstAt hp x { cls := .ref C, data := .fields fv } C none := ⟨hx, rfl, rfl, trivial⟩
  have SF := PySem.F.store_object
  have far : x ≠ hp.objs.size := Nat.ne_of_lt (Heap.lt_size hx)
  have has : cd.mro.contains (.type "object") = true := by rw [hm, List.contains_cons, ob, Bool.or_true]
  have isO : Looks (model prog w) hp (isInstance (.ref x) (.type "object")) true := J.type.andThen (looks_mroIn KX (by unfold mroIn; rw [hcd, Option.bind_some, if_neg (by rw [hm]; simp), has]))
  refine codeAny_call_builtin SF.slot.plain SF.entry (@check_slot (model prog w) _ _ ⟨hp, g, d, t, os⟩ "object.__setattr__" "object" "__setattr__" (.ref x) [.str name tk, v] [] _ SF.kind SF.split isO (SF.args (.ref x) (.str name tk) v) ?_)
  have mro : Looks (model prog w) hp (mroOf (.ref C)) cd.mro := (looks_clsIn KX hcd).andThen .now
  have none_ : Looks (model prog w) hp (storeTaker? none) none := .now
  have data_ : Looks (model prog w) hp (classData C) cd := looks_clsIn KX hcd
  rw [osa_eq, refuse_eq]
  refine wpAny_bind (wpAny_bind (J.type.at (wpAny_bind (mro.at ?_))))
  rw [hm, excTail_pass (bmB := bm) _ (pass _) (.ref C :: bm) tl]
  refine wpAny_pure (wpAny_bind (J.type.at (wpAny_bind ((looks_findIn KX ha).at (wpAny_bind (none_.at ?_))))))
  show wpAny _ _ (storeInOwnDict (.ref x) (.ref C) (.str name tk) name v false) _ _ _
  obtain ⟨nm, bs, mr, ns, qn, hd, sn, sb, ab, col, dl⟩ := cd
  dsimp only at hh
  subst hh
  unfold storeInOwnDict ownDictForStores
  repeat (first | with_reducible refine store_in_new ?_ ?_ | with_reducible refine wpAny_loadPart_at hx ?_ | with_reducible refine data_.at ?_ | wp_step)
  · exact ⟨_, #[], _, (Heap.get?_update_ne _ _ _ _ far.symm).trans (Heap.get?_push_at rfl rfl), rfl, fun e he => absurd he (by simp), fun _ => rfl⟩
  · intro h' tk' nsd same
    refine fin h' tk' hp.objs.size ?_ (Nat.le_refl _) far.symm ?_ nsd
    · intro b o hb ho
      rw [same.2 b (Nat.ne_of_lt (Heap.lt_size ho)), Heap.get?_update_ne _ _ _ _ hb]
      exact Heap.get?_push_of_some _ ho
    · rw [same.2 x far]
      exact Heap.get?_update_self _ (Heap.get?_push_of_some _ hx) rfl
/-- what __init__ leaves of a fresh exception at x -/
structure Xe (h h' : Heap) (x C dx t1 : Addr) (fld : Str) (v : Value) : Prop where
  keep : ∀ b o, b ≠ x → h.get? b = some o → h'.get? b = some o
  obj : h'.get? x = some { cls := .ref C, dict := some dx, data := .fields #[.ref t1, .none, .none, .none, .bool false, .none] }
  far : h.objs.size ≤ dx
  dne : dx ≠ x
  ns : h'.Ns1 dx (fun y => if y = fld then some v else none)
/-- the bound BaseException.__init__ is called: the args are laid anew -/
theorem bound_init {nm q : Str} {C N : Addr} {bs bm : List Value} {hdct : Bool} {sn : List Str} {sub : List Value} {ab : Bool} {col : Option Bool} {dd : Option Addr} {k0 k1 k2 k3 k5 : Option Value} {B newId initId : String} (FC : Ini B initId) {u x t0 : Addr} {vs : List Value} {Q : Value → Shared → Prop} (few : vs.length ≤ sizeLine)
    (hC : hp.get? C = some (excClassObj nm q C N bs bm hdct sn sub ab col dd k0 k1 k2 k3 k5 newId)) (hu : hp.get? u = some (kxs_mw initId x)) (hx : hp.get? x = some (excO C t0))
    (fin : ∀ h' t1, (∀ b o, b ≠ x → hp.get? b = some o → h'.get? b = some o) → h'.get? x = some (excO C t1) → Q .none ⟨h', g, d, t, os⟩) : wpAny (model prog w) A (call (.ref u) vs) Q E ⟨hp, g, d, t, os⟩ := by
  refine wpAny_call (codeAny_of_tree (show wpAny _ A.in1 (callAny (.ref u) ⟨vs, []⟩) _ _ _ from ?_))
  unfold callAny
  refine wpAny_bind (wpAny_load hu ?_)
  have yes : (Value.type "method-wrapper" == Value.type "method" || Value.type "method-wrapper" == Value.type "builtin_function_or_method" || Value.type "method-wrapper" == Value.type "method-wrapper") = true := by decide
  simp only [kxs_mw, yes, if_true]
  refine KFB.if_so (by decide) (wpAny_bind (FC.check hC hx rfl (wpAny_bind (wpAny_pure (wpAny_pure ⟨plainId_quiet FC.plain _, codeAny_builtin FC.entry ?_⟩)))))
  exact exc_init_tree (cls := .ref C) (t0 := t0) (dv := none) (c2 := .none) (c3 := .none) (b4 := .bool false) hx few fun h' k e _ => fin h' _ k e
theorem xi_init {K : Frag} {mg : Str → Option Value} {st : Stmt} {cn qual fld : Str} {C fI : Addr} {B newId initId : String} {bm : List Value} {mb : Str → Option Value} (T : Xi prog K mg st cn qual fld C fI B newId initId bm) (S : XiT st fld) {x t0 : Addr} {v : Value} (KX : K.In hp) (hlim : hp.NoLimit)
    (gl : hp.Ns mainGlobals mg) (nosup : mg "super" = none) (bl : hp.Ns builtinsNs mb) (boot : mb "super" = some (.type "super")) (hx : hp.get? x = some (excO C t0)) (hnx : K.lookup x = none) (hroom : A.depth < recursionLimit)
    (fin : ∀ h' tk dx t1, Xe hp h' x C dx t1 fld v → R (.ok (.ret .none)) ⟨h', g, d, tk, os⟩) : codeAny (model prog w) A (.call (.ref fI) ⟨[.ref x, v], []⟩) R ⟨hp, g, d, t, os⟩ := by
  obtain ⟨oc, od, doc, pm, an, cda, ct, osl, cc, cl, cld, csl, ccl, cdd, vs, ccs, file, tf, look, code, cell, cobj, cfile, same⟩ := T.fn
  obtain ⟨nm, q, N, bs, sn, sub, ab, col, dd, k0, k1, k2, k3, k5, hC⟩ := T.cls
  have hcl : clsIn K C = some { name := nm, bases := bs, mro := .ref C :: bm, ns := N, qualname := q, hasDict := true, slotNames := sn, subclasses := sub, abstract := ab, collection := col, hasDel := false } := by
    unfold clsIn
    rw [hC]
    all_goals rfl
  obtain ⟨p0, p1, p2, p3, p4, p5, q1, q2, q3, q4, hbody, hev, hsw1, hsw2⟩ := S.body
  obtain ⟨ar, har, harn⟩ := S.head
  refine ks_codeAny_call_defAt (fd := ksFn "__init__" qual (L2.defArgs st) (L2.defBody st) (L2.defScope st) .none .none doc pm an (.ref cda) ct cc) (body := L2.defBody st) (binds := [(("self" : Str), .ref x), (fld, v)])
    hroom (KX _ _ look) rfl hlim (codeRec_of KX code) rfl (BindsTo.of_eq (S.args qual doc pm an (.ref cda) ct cc (.ref x) v)) S.nocell ?_ ?_ S.co S.gen S.kind
  · intro y hy
    rcases List.mem_cons.mp hy with e | hy
    · rw [e]; exact S.s1
    · rw [List.mem_singleton.mp hy]; exact S.s2
  intro h₁ ns1 kp
  have KX1 : K.In h₁ := KX.keeps kp
  have hx1 := kp _ _ hx
  have selfV : List.lookup ("self" : Str) [(("self" : Str), Value.ref x), (fld, v)].reverse = some (.ref x) := by
    have ne : (("self" : Str) == fld) = false := by simpa using fun e => S.ne e.symm
    simp [List.lookup, ne]
  have fldV : List.lookup fld [(("self" : Str), Value.ref x), (fld, v)].reverse = some v := by simp [List.lookup]
  rw [show callEnv (ksFn "__init__" qual (L2.defArgs st) (L2.defBody st) (L2.defScope st) .none .none doc pm an (.ref cda) ct cc) hp.objs.size fI = ksEnv qual (L2.defScope st) hp.objs.size fI (.ref cda) cc from rfl]
  have kd1 : (ksEnv qual (L2.defScope st) hp.objs.size fI (.ref cda) cc).kindOf "self" = some .local := S.s1
  have kd2 : (ksEnv qual (L2.defScope st) hp.objs.size fI (.ref cda) cc).kindOf fld = some .local := S.s2
  have kd3 : (ksEnv qual (L2.defScope st) hp.objs.size fI (.ref cda) cc).kindOf "super" = some .globalImplicit := S.s3
  have kd4 : (ksEnv qual (L2.defScope st) hp.objs.size fI (.ref cda) cc).kindOf "__class__" = some .free := S.s4
  suffices go : ∀ bd : List Stmt, bd = [.Expr (.Call (.Attribute (.Call (.Name "super" p0) [] [] p1) "__init__" p2) [.Name fld p3] [] p4) p5, .Assign [.Attribute (.Name "self" q1) fld q2] (.Name fld q3) q4] →
      _root_.PySem.wpAt (model prog w) (A.deeper (ksEnv qual (L2.defScope st) hp.objs.size fI (.ref cda) cc)) (.func (L2.defBody st) (ksEnv qual (L2.defScope st) hp.objs.size fI (.ref cda) cc)) (execs bd (ksEnv qual (L2.defScope st) hp.objs.size fI (.ref cda) cc)) _ _ _ from go _ hbody
  rintro _ rfl
  have quiet : interactive (ksEnv qual (L2.defScope st) hp.objs.size fI (.ref cda) cc) = false := by simp [interactive, S.kind]
  obtain ⟨pl, hpl⟩ := hev (ksEnv qual (L2.defScope st) hp.objs.size fI (.ref cda) cc)
  have ldF : ∀ {M : Model} {A : Around} {E : Value → Shared → Prop} {s : Shared} {p : Pos} {Q : Value → Shared → Prop}, s.heap.Ns hp.objs.size (fun z => [(("self" : Str), Value.ref x), (fld, v)].reverse.lookup z) → Q v s → wpAny M A (PySem.eval (.Name fld p) (ksEnv qual (L2.defScope st) hp.objs.size fI (.ref cda) cc)) Q E s :=
    fun hn hq => wpAny_Name (wpAny_loadName_local S.kind kd2 hn fldV hq) S.dbg
  have hDcls : ∃ oD cdD, h₁.get? C = some oD ∧ oD.data = .cls cdD := ⟨_, _, KX1 _ _ hC, rfl⟩
  obtain ⟨oD, cdD, hD1, hD2⟩ := hDcls
  refine ks_wpAt_execs_cons (ks_wpAt_Expr_any (ks_wpAt_MethodCall (pl := pl) (ks_wpAt_super_base kd3 kd4 (by decide) rfl (KX1 _ _ look) rfl har rfl (KX1 _ _ cobj) rfl cfile same T.top ?_) hpl) quiet (hsw1 _))
  refine ks_loadName_global S.kind kd3 (loadGlobal_builtin (gl.keeps kp) nosup (bl.keeps kp) boot ⟨rfl, ?_⟩)
  refine wpAny_loadName_free S.kind kd4 rfl ⟨_, KX1 _ _ cell, rfl⟩ ?_
  rw [harn]
  refine wpAny_loadName_local S.kind kd1 ns1 selfV ?_
  refine ks_wpAny_isType_cls hD1 hD2 ⟨rfl, ?_⟩
  refine ks_wpAny_call_super hD1 hD2 hx1 rfl (fun c e => nomatch e) (looks_mroIn KX1 T.self) fun h₂ so2 kp2 => ?_
  have KX2 : K.In h₂ := KX1.keeps kp2
  have hx2 := kp2 _ _ hx1
  have xC : x ≠ C := fun e => by
    rw [e, hC] at hnx
    cases hnx
  have along : alongIn K "__init__" (((Value.ref C :: bm).dropWhile (· != .ref C)).drop 1) = some (some (.builtin initId)) := by
    have z := T.sup
    unfold ks_superIn at z
    rw [hcl] at z
    exact z
  have isB : Looks (model prog w) h₂ (isInstance (.ref x) (.type B)) true := (show InstAt h₂ x (excO C t0) C none from ⟨hx2, rfl, rfl, trivial⟩).type.andThen (looks_subIn KX2 T.subB)
  refine kxs_getMethod T.bas.KF so2 (looks_opaque KX2 T.op) (l₀ := Value.ref C :: bm) (fun A Q E s k q => wpAny_bind ((looks_clsIn KX2 hcl) A _ E s k (wpAny_pure q))) rfl KX2 along isB xC (by decide) ?_
  have hu : (h₂.push (kxs_mw initId x)).get? h₂.objs.size = some (kxs_mw initId x) := Heap.get?_push_size _ rfl
  have kp3 : ∀ b o, h₂.get? b = some o → (h₂.push (kxs_mw initId x)).get? b = some o := fun b o e => Heap.get?_push_of_some _ e
  have ns3 := (ns1.keeps kp2).keeps kp3
  refine kxs_callWith (i := initId) (x := x) (by rfl) ?_
  refine evalArgs_plain (spliced_cons ?_)
  rw [if_neg (by decide)]
  refine ldF ns3 (Calls.spliced_nil ⟨hu, ?_⟩)
  have few1 : [v].length ≤ sizeLine := by
    rw [sizeLine_eq]
    exact (by decide : 1 ≤ 16777216)
  refine bound_init T.bas.I few1 (kp3 _ _ (KX2 _ _ hC)) hu (kp3 _ _ hx2) fun h₄ t1 k4 hx4 => ?_
  have k14 : ∀ b o, b ≠ x → h₁.get? b = some o → h₄.get? b = some o := fun b o hb e => k4 b o hb (kp3 _ _ (kp2 _ _ e))
  have KX4 : K.In h₄ := fun b o e => k14 b o (fun z => by
    rw [z, hnx] at e
    cases e) (KX1 b o e)
  have xL : hp.objs.size ≠ x := Nat.ne_of_gt (Heap.lt_size hx)
  have ns4 : h₄.Ns hp.objs.size (fun z => [(("self" : Str), Value.ref x), (fld, v)].reverse.lookup z) := by
    obtain ⟨o, es, ep, e1, e2⟩ := ns1
    exact ⟨o, es, ep, k14 _ _ xL e1, e2⟩
  refine ks_wpAt_execs_cons (ks_wpAt_Assign_Attr (wpAt_of_wpAny (ldF ns4 ?_)) (hsw2 _))
  refine wpAny_Name (wpAny_loadName_local S.kind kd1 ns4 selfV ?_) (by decide)
  refine set_plain KX4 (ox := excO C t1) (od := none) ⟨hx4, rfl, rfl, trivial⟩ T.sa ?_
  refine osaB T.bas.pass T.bas.tl T.bas.ob KX4 hx4 hcl rfl rfl T.noF fun h₅ tk5 dx k5 far dne hx5 nsd => ?_
  show _root_.PySem.wpAt _ _ _ (execs [] _) _ _ _
  refine wpAt_of_wpAny (wpAny_execs_nil (fin h₅ tk5 dx t1 ⟨fun b o hb e => k5 b o hb (k14 b o hb (kp b o e)), hx5, ?_, dne, nsd⟩))
  have lt1 : hp.objs.size < h₄.objs.size := ns4.lt
  exact Nat.le_trans (Nat.le_of_lt lt1) far
/-- C(v) is made -/
structure Xm (h h' : Heap) (e C dx : Addr) (fld : Str) (v : Value) : Prop where
  keep : ∀ b o, h.get? b = some o → h'.get? b = some o
  new : h.objs.size ≤ e
  obj : ∃ t1 : Addr, h'.get? e = some { cls := .ref C, dict := some dx, data := .fields #[.ref t1, .none, .none, .none, .bool false, .none] }
  far : h.objs.size ≤ dx
  dne : dx ≠ e
  ns : h'.Ns1 dx (fun y => if y = fld then some v else none)
theorem xi_made {K : Frag} {mg : Str → Option Value} {st : Stmt} {cn qual fld : Str} {C fI : Addr} {B newId initId : String} {bm : List Value} {mb : Str → Option Value} (T : Xi prog K mg st cn qual fld C fI B newId initId bm) (S : XiT st fld) {v : Value} (KX : K.In hp) (hlim : hp.NoLimit)
    (gl : hp.Ns mainGlobals mg) (nosup : mg "super" = none) (bl : hp.Ns builtinsNs mb) (boot : mb "super" = some (.type "super")) (hroom : A.depth + 1 < recursionLimit)
    (fin : ∀ h' tk e dx, Xm hp h' e C dx fld v → R (.ok (.ret (.ref e))) ⟨h', g, d, tk, os⟩) : codeAny (model prog w) A (.call (.ref C) ⟨[v], []⟩) R ⟨hp, g, d, t, os⟩ := by
  obtain ⟨nm, q, N, bs, sn, sub, ab, col, dd, k0, k1, k2, k3, k5, hC⟩ := T.cls
  have kp : ∀ b o, hp.get? b = some o → ((hp.push (kdv_tup [v])).push (excO C hp.objs.size)).get? b = some o := fun b o e => Heap.get?_push_of_some _ (Heap.get?_push_of_some _ e)
  have at_ : ((hp.push (kdv_tup [v])).push (excO C hp.objs.size)).get? (hp.objs.size + 1) = some (excO C hp.objs.size) := by heap_get
  have free : K.lookup (hp.objs.size + 1) = none := by
    cases e : K.lookup (hp.objs.size + 1) with
    | none => rfl
    | some o => exact absurd (Nat.lt_of_succ_lt (Heap.lt_size (KX _ _ e))) (Nat.lt_irrefl _)
  have few1 : [v].length ≤ sizeLine := by
    rw [sizeLine_eq]
    exact (by decide : 1 ≤ 16777216)
  obtain ⟨_, _, _, FB, TT⟩ := T.bas.F
  refine tl_call FB TT (KX _ _ hC) (looks_findIn KX T.iC) (fun self => bind_fn KX self T.tI) few1 ?_
  refine xi_init T S (KX.keeps kp) (hlim.keeps kp) (gl.keeps kp) nosup (bl.keeps kp) boot at_ free (show A.depth + 1 < recursionLimit from hroom) fun h' tk' dx t1 E => ⟨rfl, ?_⟩
  have sz : ((hp.push (kdv_tup [v])).push (excO C hp.objs.size)).objs.size = hp.objs.size + 1 + 1 := by simp [Heap.size_push]
  refine fin h' tk' (hp.objs.size + 1) dx ⟨fun b o e => E.keep b o (Nat.ne_of_lt (Nat.lt_succ_of_lt (Heap.lt_size e))) (kp b o e), Nat.le_succ _, ⟨_, E.obj⟩, ?_, E.dne, E.ns⟩
  have := E.far
  rw [sz] at this
  omega
end
end Mx

/-! M10: raise, in mirrors. -/
namespace Mx
open PySem L2
theorem relO_one {fld : Str} {v : V} {u : Value} (r : RelV v u) (f : Str) : RelO (List.lookup f [(fld, v)]) (if f = fld then some u else none) := by
  by_cases h : f = fld
  · subst h
    rw [if_pos rfl]
    simp only [List.lookup, beq_self_eq_true]
    exact r
  · have ne : (f == fld) = false := by simpa using h
    simp [List.lookup, ne, h, RelO]
section
variable {X : Cx} {W : WX} {pos : Pos}
theorem pmk_xi {st : Stmt} {cn qual fld : Str} {C fI : Addr} {B newId initId : String} {bm : List Value} {a : Expr} {ta : TA} {p : Pos} {k : Nat} (T : Xi X.prog X.K X.mg st cn qual fld C fI B newId initId bm) (S : XiT st fld) (nosup : X.mg "super" = none) (rm : Room k X.A) (ha : PA X [a] ta) (hg : Gl X cn)
    (hdb : (cn == ("__debug__" : Str)) = false := by decide) (he : starEach [a] X.env = (false, eval a X.env) :: starEach [] X.env := by rfl) (hpl : (backTo pos (starEach [] X.env)).any (·.1) = false := by rfl) :
    PMk X (.Call (.Name cn p) [a] [] pos) (fun σ H Q => ta σ H fun vs H1 => ∃ v, vs = [v] ∧ ∀ d, H1 d = none → Q (.ref C) (some d) (upd H1 d (.xd [(fld, v)]))) := by
  intro pins s σ H Q I h
  refine wpAny_Call_Name_kw (ld_glob I hg T.gC ?_ hdb)
  refine PySem.W.callWith_K (h₀ := X.base) I.ok.mod.kin T.kC (thn (ha.run pos pins s σ H _ I h) ?_) he hpl
  rintro us s1 ⟨vs, H1, I1, r1, v, rfl, q1⟩
  refine ⟨I1.kIn, ?_⟩
  obtain ⟨u, rfl, rv⟩ := vals1 r1
  show wpAny _ _ (call (.ref C) [u]) _ _ _
  obtain ⟨mb, bl, boot⟩ := I1.mod.blt
  have hlim := I1.nolimit
  have KX1 := I1.kIn
  have gl1 := I1.mod.glob.keeps I1.bk
  have bl1 := bl.keeps I1.bk
  obtain ⟨hp, g, dr, tk, os⟩ := s1
  refine wpAny_call (xi_made T S KX1 hlim gl1 nosup bl1 ((boot _ (by decide)).trans (by decide +kernel)) (by have := rm.dp; omega) fun h' tk' e d M => ?_)
  show MkP X pins σ Q (.ref e) ⟨h', g, dr, tk', os⟩
  obtain ⟨t1, hoe⟩ := M.obj
  obtain ⟨G', g1, g2⟩ := restrict h' fun b => decide (b ≠ e)
  have gk : ∀ b, b ≠ e → G'.get? b = h'.get? b := fun b hb => g1 b (decide_eq_true hb)
  have ge : G'.get? e = none := g2 e (by simp)
  have old : ∀ b o, hp.get? b = some o → G'.get? b = some o := fun b o q => by
    rw [gk b (Nat.ne_of_lt (Nat.lt_of_lt_of_le (Heap.lt_size q) M.new))]
    exact M.keep b o q
  have J : L2.Inv X pins σ (upd H1 d (.xd [(fld, v)])) ⟨G', g, dr, tk', os⟩ := I1.laid (t' := tk') old M.far ⟨_, M.ns.at (fun o q => (gk d M.dne).trans q), fun f => relO_one rv f⟩
  refine ⟨e, _, _, ⟨G', g, dr, tk', os⟩, _, .ref C, some d, rfl, J, fun b o q => ?_, ge, hoe, ⟨rfl, rfl⟩, rfl, rfl, ?_, rfl, I1.bare, raises_own T.exC T.tyC, q1 d (I1.hok.fresh M.far)⟩
  · by_cases hb : b = e
    · subst hb
      have q' : G'.get? b = some o := q
      rw [ge] at q'
      cases q'
    · rw [← gk b hb]
      exact q
  · rw [upd_ne (Ne.symm M.dne)]
    exact I1.hok.fresh M.new
/-- raise C(e), e kept as the field -/
def sRaise (C : Addr) (fld : Str) (a : EL) : S1 := fun loc mem => (a loc mem).thenS loc fun ds m => match ds with
  | [d] => .ex ⟨.ref C, some (fld, d)⟩ loc m
  | _ => .bad
theorem ms_raise {st : Stmt} {cn qual fld : Str} {C fI : Addr} {B newId initId : String} {bm : List Value} {a : Expr} {ml : EL} {p p2 : Pos} {k : Nat} (T : Xi X.prog X.K X.mg st cn qual fld C fI B newId initId bm) (S : XiT st fld) (nosup : X.mg "super" = none) (rm : Rm k X.A) (tk : Tk X W) (ha : ML X W [a] ml) (hg : Gl X cn) (hc : X.calm = true := by rfl)
    (hdb : (cn == ("__debug__" : Str)) = false := by decide) (he : starEach [a] X.env = (false, eval a X.env) :: starEach [] X.env := by rfl) (hpl : (backTo pos (starEach [] X.env)).any (·.1) = false := by rfl) :
    MS X W (.Raise (some (.Call (.Name cn p) [a] [] pos)) none p2) (sRaise C fld ml) := ⟨PS.imp (ps_raise hc tk.tk (pmk_xi T S nosup rm.toRoom ha.pa hg hdb he hpl)) fun Z σ H ⟨α, loc, mem, hm, hl, hp⟩ =>
  tG_goSE hm hl hp fun α1 H1 m1 ds vs e1 l1 hm1 hl1 hr1 hp1 => by
    cases hr1 with
    | nil => exact hp1.elim
    | @cons d v _ _ r hr =>
      cases hr with
      | cons _ _ => exact hp1.elim
      | nil =>
        refine ⟨v, rfl, fun dd nd => ?_⟩
        have sm := same_new (o := .xd [(fld, v)]) nd
        exact hp1 α1 _ σ _ _ (Lt.same sm) (hm1.same sm) (hl1.mono (Lt.same sm).toLk) ⟨rfl, dd, v, rfl, hm1.fresh nd, upd_same, r.mono (Lt.same sm).toLk⟩⟩
end
end Mx

/-! M11: exceptions as values: made, asked by isinstance, str, read. -/
namespace Mx
open PySem L2
theorem exMO_ok {P : Program} {w : World} {H : Hp} {h : Heap} {a C t : Addr} (e : h.get? a = some ({ cls := .ref C, data := .fields #[.ref t, .none, .none, .none, .bool false, .none] } : Obj)) : ObjOk P w H h a (exMO a C t) :=
  ⟨e, ⟨_, e⟩, fun _ _ q k => k _ q⟩
theorem exFO_ok {P : Program} {w : World} {H : Hp} {h : Heap} {a C dx t : Addr} (e : h.get? a = some ({ cls := .ref C, dict := some dx, data := .fields #[.ref t, .none, .none, .none, .bool false, .none] } : Obj)) : ObjOk P w H h a (exFO a C dx) :=
  ⟨⟨_, e, rfl, rfl, _, rfl⟩, ⟨_, e⟩, fun _ _ ⟨o, q, r⟩ k => ⟨o, k _ q, r⟩⟩
/-- how the object stands in the heap -/
theorem inst_of {X : Cx} {pins : List (Addr × Obj)} {σ : L2.St} {H : Hp} {s : Shared} {α : Ad} {C : Addr} {f : Option Str} {d : D} {x : V} (I : L2.Inv X pins σ H s) (r : Rep X.K α H (.exo C f d) x) : ∃ a ox od, x = .ref a ∧ PySem.W.InstAt s.heap a ox C od := by
  cases r with
  | exm h1 h2 ha ht rd =>
    obtain ⟨q, _, _⟩ := I.hok _ _ ha
    exact ⟨_, _, none, rfl, q, rfl, rfl, trivial⟩
  | exf h1 h2 ha hd rd =>
    obtain ⟨⟨o, q, q1, q2, vs, q3⟩, _, _⟩ := I.hok _ _ ha
    obtain ⟨mA, hns, hr⟩ := I.hok _ _ hd
    obtain ⟨od, ho, hl⟩ := lookIn_ns hns
    exact ⟨_, o, some od, rfl, q, q1, by unfold PySem.W.notCls; rw [q3] <;> rfl, by rw [q2]; exact ho⟩
  | exn h1 ha =>
    obtain ⟨⟨o, q, q1, q2, vs, q3⟩, _, _⟩ := I.hok _ _ ha
    exact ⟨_, o, none, rfl, q, q1, by unfold PySem.W.notCls; rw [q3] <;> rfl, by rw [q2]; trivial⟩
theorem kitx_any {K : PySem.W.Frag} {x D : Addr} (T : L2.ExcC K D) : PySem.W.KitX K (.ref x) (.ref D) (fun h => ∃ ox od, PySem.W.InstAt h x ox D od) where
  ty := fun _ _ _ ⟨_, _, I⟩ => I.type
  it := fun M h X _ => by
    obtain ⟨cd, hc, _⟩ := PySem.W.any_some T.hd
    unfold PySem.W.clsIn at hc
    split at hc
    · rename_i ho
      intro A' Q' E' s' k q
      unfold isType loadHead
      exact wpAny_bind (wpAny_loadPart (k _ _ (X _ _ ho)) (wpAny_pure q))
    · cases hc
  ne := (PySem.W.handS_kitx_exc (x := x) (ox := { cls := .none }) T.hg T.hk T.hs T.hd T.ha T.hn T.ht T.hm).ne
  ca := fun X ⟨_, _, I⟩ k => PySem.W.kx_classE X I T.hg T.hk T.hs (PySem.W.findObj_dataE (by obtain ⟨cd, hc, _⟩ := PySem.W.any_some T.hd; rw [hc]; rfl) T.ha T.hn T.ht) T.hm k
def gIsE (tab : Addr → V → Option Bool) : OpP := fun _ ds => match ds with
  | [.exo C _ _, .con c] => (tab C c).map .bl
  | _ => none
section
variable {X : Cx} {W : WX} {pos : Pos}
def IsTab (K : PySem.W.Frag) (tab : Addr → V → Option Bool) : Prop := ∀ C c b, tab C c = some b → L2.ExcC K C ∧ ∃ cv, L2.ClsV c cv ∧ PySem.W.kitOne K (.ref C) cv = some b
theorem call_gIsE {tab : Addr → V → Option Bool} (ht : IsTab X.K tab) : CallR X (.builtin "isinstance") (rB X.K (pu (gIsE tab))) := callP fun pins s σ H xs us Q α mem ds z I rv hm hr hg q => by
  unfold gIsE at hg
  split at hg
  · rename_i C f d c
    obtain ⟨b, hb, rfl⟩ := Option.map_eq_some_iff.mp hg
    obtain ⟨T, cv, hc, hk⟩ := ht _ _ _ hb
    cases hr with
    | cons r1 hr =>
      cases hr with
      | cons r2 hr =>
        cases hr
        cases r2
        obtain ⟨a, ox, od, rfl, J⟩ := inst_of I r1
        cases rv with
        | cons ra rv =>
          cases rv with
          | cons rc rv =>
            cases rv
            cases ra
            have ec := hc.eq rc
            subst ec
            exact PySem.W.kia_one (kitx_any T) I.kIn ⟨ox, od, J⟩ hk (fun z => nomatch z) fun tk => ⟨.bl b, H, I.kept (t' := tk) fun _ _ z => z, rfl, q H _ (Same.refl _) (.bl b)⟩
  · cases hg
/-- str(e), e with a message -/
def gStrE (ok : Addr → Bool) : OpP := fun _ ds => match ds with
  | [.exo C none (.str x)] => if ok C = true then some (.str x) else none
  | _ => none
def StrTab (K : PySem.W.Frag) (ok : Addr → Bool) : Prop := ∀ C, ok C = true → PySem.W.findIn K (.ref C) "__str__" = some (some (.builtin "BaseException.__str__")) ∧ PySem.W.subIn K (.ref C) (.type "BaseException") = some true
theorem call_gStrE {ok : Addr → Bool} {k : Nat} (ht : StrTab X.K ok) (rm : Rm k X.A) : CallR X (.type "str") (rB X.K (pu (gStrE ok))) := callP fun pins s σ H xs us Q α mem ds z I rv hm hr hg q => by
  unfold gStrE at hg
  split at hg
  · rename_i C x
    split at hg
    · rename_i h
      cases hg
      obtain ⟨h1, h2⟩ := ht _ h
      cases hr with
      | cons r1 hr =>
        cases hr
        cases r1 with
        | exm o1 o2 ha htt rd =>
          cases rd
          cases rv with
          | cons ra rv =>
            cases rv
            cases ra
            obtain ⟨qq, _, _⟩ := I.hok _ _ ha
            obtain ⟨_, its, rit, o, ho, hc, n, hd⟩ := I.hok _ _ htt
            cases rit with
            | cons ri rit =>
              cases rit
              obtain ⟨tk, rfl⟩ := ri
              have un := rm.un
              exact PySem.P.str_of_C_one (by omega) ⟨I.kIn, _, _, qq, rfl, rfl, rfl⟩ ⟨o, n, ho, hc, hd⟩ h1 h2 ⟨.str x, H, I, ⟨tk, rfl⟩, q H _ (Same.refl _) (.str x)⟩
    · cases hg
  · cases hg
/-- e.f -/
def gAtE (f : Str) (ok : Addr → Bool) : OpP := fun _ ds => match ds with
  | [.exo C (some g) d] => if g = f ∧ ok C = true ∧ f ≠ "" then some d else none
  | _ => none
def AtTab (K : PySem.W.Frag) (f : Str) (ok : Addr → Bool) : Prop := ∀ C, ok C = true → L2.XfC K C ∧ PySem.W.findIn K (.ref C) f = some none
theorem me_atE {f : Str} {ok : Addr → Bool} {e : Expr} {m : E1} (ht : AtTab X.K f ok) (he : ME X W e m) (hb : attributeBase e f X.env (eval e X.env) = eval e X.env := by rfl) : ME X W (.Attribute e f pos) (e1 (pu (gAtE f ok)) m) := by
  refine ⟨⟨fun pins s σ H Q I h => attr_of hb (thn (he.pe.run pins s σ H _ I (tE1 h)) fun u s1 ⟨x, H1, I1, rx, α, mem, ds, z, mem', hm, hr, hg, q⟩ => ?_)⟩⟩
  unfold pu gAtE at hg
  split at hg
  · rename_i C g d
    split at hg
    · rename_i hh
      obtain ⟨rfl, hok, hne⟩ := hh
      cases hg
      obtain ⟨T, hno⟩ := ht _ hok
      cases hr with
      | cons r1 hr =>
        cases hr
        cases r1 with
        | @exf a dx _ _ _ v o1 o2 ha hd rd =>
          cases rx
          obtain ⟨⟨oo, qa, qa1, qa2, vs, qa3⟩, _, _⟩ := I1.hok _ _ ha
          obtain ⟨mA, hns, hrr⟩ := I1.hok _ _ hd
          obtain ⟨od, ho, hl⟩ := lookIn_ns hns
          have l := hrr g
          rw [show List.lookup g [(g, v)] = some v from by simp [List.lookup]] at l
          obtain ⟨u, hu, ru⟩ := RelO.some_of l
          have J : PySem.W.InstAt s1.heap _ _ C (some od) := ⟨qa, qa1, by unfold PySem.W.notCls; rw [qa3] <;> rfl, by rw [qa2]; exact ho⟩
          exact HandSPX.exc_get I1.kIn J T.ga T.gg T.exC (PySem.W.findObj_own T.hdC hno rfl (by rw [hl, hu])) (handed_of ru) ⟨_, H1, I1.tok _, ru, q α H1 _ (Lt.refl _ _) hm rd⟩
        | exn _ _ => exact absurd rfl hne
    · cases hg
  · cases hg
/-- C(a): a new exception that holds a message -/
def eMkM (C : Addr) (a : E1) : E1 := fun loc mem => (a loc mem).bind fun d m => .ok (.exo C none d) m
/-- C(a): a new exception that keeps a as its field -/
def eMkF (C : Addr) (fld : Str) (a : EL) : E1 := fun loc mem => (a loc mem).bind fun ds m => match ds with
  | [d] => .ok (.exo C (some fld) d) m
  | _ => .bad
theorem two_laid {pins : List (Addr × Obj)} {σ : L2.St} {H : Hp} {s : Shared} {h' : Heap} {a t : Addr} {o : HO} {t' : Nat} {φ : Heap → Prop} (I : L2.Inv X pins σ H s) (kp : ∀ b u, s.heap.get? b = some u → h'.get? b = some u) (na : s.heap.get? a = none) (nt : s.heap.get? t = none) (ne : t ≠ a)
    (new : ∀ G : Heap, (∀ b, b ≠ a → G.get? b = h'.get? b) → ObjOk X.prog X.w (upd H t o) G t o) (newA : ∀ H, ObjOk X.prog X.w H h' a (.ext φ)) : L2.Inv X pins σ (upd (upd H t o) a (.ext φ)) { s with heap := h', toks := t' } ∧ H a = none ∧ H t = none := by
  have ha : H a = none := I.hok.gone na
  have htt : H t = none := I.hok.gone nt
  obtain ⟨G, g1, g2⟩ := restrict h' fun b => decide (b ≠ a)
  have gk : ∀ b, b ≠ a → G.get? b = h'.get? b := fun b hb => g1 b (decide_eq_true hb)
  have ga : G.get? a = none := g2 a (by simp)
  have J : L2.Inv X pins σ (upd H t o) { s with heap := G, toks := t' } := I.laidN (fun b u q => by
    rw [gk b (fun e => by
      rw [e, na] at q
      cases q)]
    exact kp b u q) nt htt (new G gk)
  have ha' : upd H t o a = none := by
    rw [upd_ne (Ne.symm ne)]
    exact ha
  exact ⟨J.laidN (h' := h') (t' := t') (fun b u q => by
    by_cases hb : b = a
    · have q' : G.get? b = some u := q
      rw [hb, ga] at q'
      cases q'
    · rw [← gk b hb]
      exact q) ga ha' (newA _), ha, htt⟩
theorem me_mkM {C : Addr} {bmB : List Value} {B newId initId : String} {x : Str} {e : Expr} {m : E1} {p : Pos} (F : ExcBaseFacts B newId initId bmB) (qx : PySem.W.excIn X.K C bmB newId = true) (gC : X.mg x = some (.ref C)) (kC : PySem.W.keepIn X.K (.ref C) = true) (hg : Gl X x) (he : ME X W e m)
    (hs : starEach [e] X.env = (false, eval e X.env) :: starEach [] X.env := by rfl) (hdb : (x == ("__debug__" : Str)) = false := by decide) : ME X W (.Call (.Name x p) [e] [] pos) (eMkM C m) := by
  refine ⟨⟨fun pins s σ H Q I h => ?_⟩⟩
  have h2 : tE X.K m W σ H (fun v H1 => ∀ a t, H1 a = none → H1 t = none → t ≠ a → Q (.ref a) (upd (upd H1 t (.tup [v])) a (exMO a C t))) := by
    obtain ⟨α, loc, mem, hm, hl, hp⟩ := h
    refine tG_goE hm hl hp fun α1 H1 m1 d v e1 l1 hm1 hl1 hr1 hp1 a t na nt ne => ?_
    have s1 := same_new (o := .tup [v]) nt
    have na' : upd H1 t (.tup [v]) a = none := by
      rw [upd_ne (Ne.symm ne)]
      exact na
    have s2 := same_new (o := exMO a C t) na'
    have sm := s1.trans s2
    exact hp1 α1 _ _ (Lt.same sm) (hm1.same sm) (.exm (hm1.fresh na) (hm1.fresh nt) upd_same (by rw [upd_ne ne]; exact upd_same) (hr1.mono (Lt.same sm).toLk))
  refine wpAny_Call_Name_kw (ld_glob I hg gC ?_ hdb)
  refine PySem.W.callWith_K (h₀ := X.base) I.ok.mod.kin kC ?_ hs (by rfl)
  rw [hs]
  show wpAny _ _ (spliced ((false, eval e X.env) :: backTo pos (starEach [] X.env))) _ _ s
  refine Calls.spliced_cons (thn (he.pe.run pins s σ H _ I h2) fun u s1 ⟨v, H1, I1, r1, q1⟩ => ?_)
  refine Calls.spliced_nil ⟨I1.kIn, ?_⟩
  show wpAny _ _ (call (.ref C) [u]) _ _ _
  obtain ⟨bm, N, nm, qn, bs, hdct, sn, sub, ab, col, dd, k0, k1, k2, k3, k5, mN, hC, hN, hni, T⟩ := exc_obj I1.kIn qx
  refine wpAny_call_exc_subT F T hC hN hni (fun h' a hmd => ?_) (by show 1 ≤ sizeLine; rw [sizeLine_eq]; omega)
  obtain ⟨t, hat, hnt, htt⟩ := hmd.there
  have ne : t ≠ a := fun e => by
    rw [e, hat] at htt
    cases htt
  obtain ⟨J, na, nt⟩ := two_laid (t' := s1.toks) (o := .tup [v]) (φ := fun h => h.get? a = some ({ cls := .ref C, data := .fields #[.ref t, .none, .none, .none, .bool false, .none] } : Obj)) I1 hmd.keeps hmd.new hnt ne (fun G gk => ⟨small_of (show 1 ≤ 1000000 by decide), [u], .cons r1 .nil, _, (gk t ne).trans htt, rfl, _, rfl⟩) (fun _ => exMO_ok hat)
  exact ⟨.ref a, _, J, rfl, q1 a t na nt ne⟩
theorem me_mkF {st : Stmt} {cn qual fld : Str} {C fI : Addr} {B newId initId : String} {bm : List Value} {a : Expr} {ml : EL} {p : Pos} {k : Nat} (T : Xi X.prog X.K X.mg st cn qual fld C fI B newId initId bm) (S : XiT st fld) (nosup : X.mg "super" = none) (rm : Rm k X.A) (ha : ML X W [a] ml) (hg : Gl X cn)
    (hdb : (cn == ("__debug__" : Str)) = false := by decide) (he : starEach [a] X.env = (false, eval a X.env) :: starEach [] X.env := by rfl) (hpl : (backTo pos (starEach [] X.env)).any (·.1) = false := by rfl) : ME X W (.Call (.Name cn p) [a] [] pos) (eMkF C fld ml) := by
  refine ⟨⟨fun pins s σ H Q I h => ?_⟩⟩
  have h2 : tL X.K ml W σ H (fun vs H1 => ∃ v, vs = [v] ∧ ∀ a t, H1 a = none → H1 t = none → t ≠ a → Q (.ref a) (upd (upd H1 t (.xd [(fld, v)])) a (exFO a C t))) := by
    obtain ⟨α, loc, mem, hm, hl, hp⟩ := h
    refine tG_goE hm hl hp fun α1 H1 m1 ds vs e1 l1 hm1 hl1 hr1 hp1 => ?_
    cases hr1 with
    | nil => exact hp1.elim
    | @cons d v _ _ r hr =>
      cases hr with
      | cons _ _ => exact hp1.elim
      | nil =>
        refine ⟨v, rfl, fun a t na nt ne => ?_⟩
        have s1 := same_new (o := .xd [(fld, v)]) nt
        have na' : upd H1 t (.xd [(fld, v)]) a = none := by
          rw [upd_ne (Ne.symm ne)]
          exact na
        have s2 := same_new (o := exFO a C t) na'
        have sm := s1.trans s2
        exact hp1 α1 _ _ (Lt.same sm) (hm1.same sm) (.exf (hm1.fresh na) (hm1.fresh nt) upd_same (by rw [upd_ne ne]; exact upd_same) (r.mono (Lt.same sm).toLk))
  refine wpAny_Call_Name_kw (ld_glob I hg T.gC ?_ hdb)
  refine PySem.W.callWith_K (h₀ := X.base) I.ok.mod.kin T.kC (thn (ha.pa.run pos pins s σ H _ I h2) ?_) he hpl
  rintro us s1 ⟨vs, H1, I1, r1, v, rfl, q1⟩
  refine ⟨I1.kIn, ?_⟩
  obtain ⟨u, rfl, rv⟩ := vals1 r1
  show wpAny _ _ (call (.ref C) [u]) _ _ _
  obtain ⟨mb, bl, boot⟩ := I1.mod.blt
  have hlim := I1.nolimit
  have KX1 := I1.kIn
  have gl1 := I1.mod.glob.keeps I1.bk
  have bl1 := bl.keeps I1.bk
  obtain ⟨hp, g, dr, tk, os⟩ := s1
  refine wpAny_call (xi_made T S KX1 hlim gl1 nosup bl1 ((boot _ (by decide)).trans (by decide +kernel)) (by have := rm.dp; omega) fun h' tk' e d M => ?_)
  obtain ⟨t1, hoe⟩ := M.obj
  have gone : ∀ b, hp.objs.size ≤ b → hp.get? b = none := fun b hb => by
    cases q : hp.get? b with
    | none => rfl
    | some o => exact absurd (Nat.lt_of_lt_of_le (Heap.lt_size q) hb) (Nat.lt_irrefl _)
  obtain ⟨J, na, nt⟩ := two_laid (t' := tk') (o := .xd [(fld, v)]) (φ := fun h => ∃ o : Obj, h.get? e = some o ∧ o.cls = .ref C ∧ o.dict = some d ∧ ∃ vs, o.data = .fields vs) I1 M.keep (gone e M.new) (gone d M.far) M.dne
    (fun G gk => ⟨_, M.ns.at (fun o q => (gk d M.dne).trans q), fun f => relO_one rv f⟩) (fun _ => exFO_ok hoe)
  exact ⟨.ref e, _, J, rfl, q1 e d na nt M.dne⟩
end
end Mx

/-! M12: repr, in. -/
namespace Mx
open PySem L2
/-! ### data with dicts -/
def keyPy : Key → PyData
  | .inl i => .int i
  | .inr x => .str x
mutual
def D.pyR : D → Option PyData
  | .non => some .none
  | .bl b => some (.bool b)
  | .int i => some (.int i)
  | .str x => some (.str x)
  | .tup ds => match D.pyRL ds with
    | some ps => some (.tuple ps)
    | none => none
  | .lst ds => match D.pyRL ds with
    | some ps => some (.list ps)
    | none => none
  | .dic ds => match D.pyRK ds with
    | some ps => some (.dict ps)
    | none => none
  | _ => none
def D.pyRL : List D → Option (List PyData)
  | [] => some []
  | d :: ds => match D.pyR d, D.pyRL ds with
    | some p, some ps => some (p :: ps)
    | _, _ => none
def D.pyRK : List (Key × D) → Option (List (PyData × PyData))
  | [] => some []
  | (k, d) :: ds => match D.pyR d, D.pyRK ds with
    | some p, some ps => some ((keyPy k, p) :: ps)
    | _, _ => none
end
theorem sd_of {X : Cx} (h : SysD X.base) : ∀ pins σ H s, L2.Inv X pins σ H s → SysD s.heap := fun _ _ _ _ I => let ⟨mm, z⟩ := h; ⟨mm, z.keeps I.bk⟩
theorem readsAll_keys {P : Program} {w : World} {h : Heap} : ∀ {es : List DictEntry} {vs : List (Key × Value)}, Pairs (mixKind P w) es vs → ReadsAll h (es.map (·.key)) (vs.map fun p => keyPy p.1) []
  | _, _, .nil => .nil
  | _, _, .cons (e := e) (kv := kv) hk hv t => by
    have r : Reads h e.key (keyPy kv.1) [] := by
      rcases keyIs_shape hk with ⟨i, tk, e1, e2⟩ | ⟨x, tk, e1, e2⟩
      · rw [e1, e2]; exact .int i tk
      · rw [e1, e2]; exact .str x tk
    exact .cons (as := []) (bs := []) r (readsAll_keys t)
section
variable {X : Cx} {pins : List (Addr × Obj)} {σ : L2.St} {H : Hp} {s : Shared} {α : Ad}
theorem SysD.ne {h : Heap} {a : Addr} {o : Obj} (sd : SysD h) {its : Array Value} {n : Nat} (e : h.get? a = some o) (hc : o.data = .seq its n) : sysModules ≠ a := fun z => by
  obtain ⟨mm, o', es, ep, e', hd, _⟩ := sd
  rw [z, e] at e'
  cases e'
  rw [hc] at hd
  cases hd
mutual
theorem Rep.rr (I : L2.Inv X pins σ H s) (sd : SysD s.heap) : ∀ {d : D} {v : V} {p : PyData} {u : Value}, Rep X.K α H d v → D.pyR d = some p → RelV v u → ∃ as, Reads s.heap u p as ∧ sysModules ∉ as
  | _, _, _, _, .non, h, r => by rw [D.pyR] at h; cases h; cases r; exact ⟨_, .none, by simp⟩
  | _, _, _, _, .bl b, h, r => by rw [D.pyR] at h; cases h; cases r; exact ⟨_, .bool b, by simp⟩
  | _, _, _, _, .int i, h, r => by rw [D.pyR] at h; cases h; obtain ⟨t, rfl⟩ := r; exact ⟨_, .int i t, by simp⟩
  | _, _, _, _, .str x, h, r => by rw [D.pyR] at h; cases h; obtain ⟨t, rfl⟩ := r; exact ⟨_, .str x t, by simp⟩
  | _, _, _, _, .tup (ds := ds) _ rd rs, h, r => by
    rw [D.pyR] at h
    cases e : D.pyRL ds with
    | none => rw [e] at h; cases h
    | some ps =>
      rw [e] at h; cases h; cases r
      obtain ⟨its, rv, ⟨o, ho, hc, n, hd⟩, _⟩ := I.tuple (.inl rd)
      obtain ⟨as, q, nq⟩ := RepL.rr I sd rs e rv
      exact ⟨_, .tuple ho hc hd q, nq⟩
  | _, _, _, _, .tupK (ds := ds) w rs, h, r => by
    rw [D.pyR] at h
    cases e : D.pyRL ds with
    | none => rw [e] at h; cases h
    | some ps =>
      rw [e] at h; cases h; cases r
      obtain ⟨its, rv, ⟨o, ho, hc, n, hd⟩, _⟩ := I.tuple (.inr w)
      obtain ⟨as, q, nq⟩ := RepL.rr I sd rs e rv
      exact ⟨_, .tuple ho hc hd q, nq⟩
  | _, _, _, _, .lst (ds := ds) _ rd rs, h, r => by
    rw [D.pyR] at h
    cases e : D.pyRL ds with
    | none => rw [e] at h; cases h
    | some ps =>
      rw [e] at h; cases h; cases r
      obtain ⟨its, rv, ⟨o, n, ho, hc, _, hd⟩, _⟩ := I.list (SqL.of rd)
      obtain ⟨as, q, nq⟩ := RepL.rr I sd rs e rv
      exact ⟨_, .list ho hc hd q, fun z => (List.mem_cons.mp z).elim (sd.ne ho hd) nq⟩
  | _, _, _, _, .dic (ds := ds) _ rd rs, h, r => by
    rw [D.pyR] at h
    cases e : D.pyRK ds with
    | none => rw [e] at h; cases h
    | some ps =>
      rw [e] at h; cases h; cases r
      obtain ⟨_, nm, vs, kv, o, es, ep, ho, hx, hd, _, hp, _⟩ := dk_of I.hok rd
      obtain ⟨as, q, nq, ek⟩ := RepK.rr I sd rs e kv hp
      refine ⟨_, .dict (as := []) ho hx.1 hd (by rw [← ek]; exact readsAll_keys hp) q, fun z => ?_⟩
      rcases List.mem_cons.mp z with z | z
      · exact absurd z.symm (by simpa using nm)
      · exact nq z
  | _, _, _, _, .scr _ _ _, h, _ => by rw [D.pyR] at h <;> first | cases h | simp
  | _, _, _, _, .scrK _ _, h, _ => by rw [D.pyR] at h <;> first | cases h | simp
  | _, _, _, _, .ref _, h, _ => by rw [D.pyR] at h <;> first | cases h | simp
  | _, _, _, _, .con _, h, _ => by rw [D.pyR] at h <;> first | cases h | simp
  | _, _, _, _, .exm _ _ _ _ _, h, _ => by rw [D.pyR] at h <;> first | cases h | simp
  | _, _, _, _, .exf _ _ _ _ _, h, _ => by rw [D.pyR] at h <;> first | cases h | simp
  | _, _, _, _, .exn _ _, h, _ => by rw [D.pyR] at h <;> first | cases h | simp
theorem RepL.rr (I : L2.Inv X pins σ H s) (sd : SysD s.heap) : ∀ {ds : List D} {vs : List V} {ps : List PyData} {us : List Value}, RepL X.K α H ds vs → D.pyRL ds = some ps → Vals vs us → ∃ as, ReadsAll s.heap us ps as ∧ sysModules ∉ as
  | _, _, _, _, .nil, h, r => by rw [D.pyRL] at h; cases h; cases r; exact ⟨_, .nil, by simp⟩
  | _, _, _, _, .cons (d := d) (ds := ds) q qs, h, r => by
    rw [D.pyRL] at h
    cases e1 : D.pyR d with
    | none => rw [e1] at h; cases h
    | some p =>
      cases e2 : D.pyRL ds with
      | none => rw [e1, e2] at h; cases h
      | some ps =>
        rw [e1, e2] at h; cases h
        cases r with
        | cons r1 r2 =>
          obtain ⟨as, h1, n1⟩ := Rep.rr I sd q e1 r1
          obtain ⟨bs, h2, n2⟩ := RepL.rr I sd qs e2 r2
          exact ⟨_, .cons h1 h2, fun z => (List.mem_append.mp z).elim n1 n2⟩
theorem RepK.rr (I : L2.Inv X pins σ H s) (sd : SysD s.heap) : ∀ {ds : List (Key × D)} {vs : List (Key × V)} {ps : List (PyData × PyData)} {us : List (Key × Value)} {es : List DictEntry}, RepK X.K α H ds vs → D.pyRK ds = some ps → KV vs us → Pairs (mixKind X.prog X.w) es us →
    ∃ as, ReadsAll s.heap (es.map (·.val)) (ps.map (·.2)) as ∧ sysModules ∉ as ∧ (us.map fun p => keyPy p.1) = ps.map (·.1)
  | _, _, _, _, _, .nil, h, r, hp => by rw [D.pyRK] at h; cases h; cases r; cases hp; exact ⟨_, .nil, by simp, rfl⟩
  | _, _, _, _, _, .cons (k := k) (d := d) (ds := ds) q qs, h, r, hp => by
    rw [D.pyRK] at h
    cases e1 : D.pyR d with
    | none => rw [e1] at h; cases h
    | some p =>
      cases e2 : D.pyRK ds with
      | none => rw [e1, e2] at h; cases h
      | some ps =>
        rw [e1, e2] at h; cases h
        cases r with
        | cons r1 r2 =>
          cases hp with
          | cons hk hv hp =>
            obtain ⟨as, h1, n1⟩ := Rep.rr I sd q e1 r1.2
            obtain ⟨bs, h2, n2, ek⟩ := RepK.rr I sd qs e2 r2 hp
            rw [← hv] at h1
            refine ⟨_, .cons h1 h2, fun z => (List.mem_append.mp z).elim n1 n2, ?_⟩
            show keyPy _ :: _ = keyPy k :: _
            rw [ek, ← r1.1]
end
end
/-- repr of a list or tuple -/
def gRepr : OpP := fun mem ds => match ds with
  | [x] => match D.pyR (rdC mem x) with
    | some (.list ps) => if PyData.showable (.list ps) = true ∧ (PyData.list ps).depth ≤ 100 ∧ (PyData.list ps).shown.length ≤ 1000000 then some (.str (PyData.list ps).shown) else none
    | some (.tuple ps) => if PyData.showable (.tuple ps) = true ∧ (PyData.tuple ps).depth ≤ 100 ∧ (PyData.tuple ps).shown.length ≤ 1000000 then some (.str (PyData.tuple ps).shown) else none
    | _ => none
  | _ => none
section
variable {X : Cx} {pins : List (Addr × Obj)} {σ : L2.St} {H : Hp} {s : Shared} {α : Ad}
theorem rdC_rr {mem : Mem} {d : D} {v : V} {p : PyData} {u : Value} (I : L2.Inv X pins σ H s) (sd : SysD s.heap) (hm : MemRep X.K α H mem) (hr : Rep X.K α H d v) (h : D.pyR (rdC mem d) = some p) (r : RelV v u) : ∃ as, Reads s.heap u p as ∧ sysModules ∉ as := by
  cases d with
  | ref n =>
    obtain ⟨a, rfl, ha⟩ := hr.ref_
    obtain ⟨c, hc, hc'⟩ := hm.at_ ha
    unfold rdC at h
    simp only [hc] at h
    cases c with
    | lst ds =>
      obtain ⟨xs, hx, hl⟩ := hc'
      dsimp only at h
      rw [D.pyR] at h
      cases e : D.pyRL ds with
      | none => rw [e] at h; cases h
      | some ps =>
        rw [e] at h; cases h; cases r
        obtain ⟨its, rv, ⟨o, n, ho, hc, _, hd⟩, _⟩ := I.list (SqL.of hx)
        obtain ⟨as, q, nq⟩ := RepL.rr I sd hl e rv
        exact ⟨_, .list ho hc hd q, fun z => (List.mem_cons.mp z).elim (sd.ne ho hd) nq⟩
    | dic _ => dsimp only at h; rw [D.pyR] at h <;> first | cases h | simp
    | tab _ _ => dsimp only at h; rw [D.pyR] at h <;> first | cases h | simp
  | _ => exact hr.rr I sd h r
theorem repr_go {mem : Mem} {d : D} {v : V} {p : PyData} {u : Value} {k : Nat} {Q : VK} (rm : Rm k X.A) (I : L2.Inv X pins σ H s) (sd : SysD s.heap) (hm : MemRep X.K α H mem) (hr : Rep X.K α H d v) (h : D.pyR (rdC mem d) = some p) (r : RelV v u) (hh : ∃ a, u = .ref a)
    (g : PyData.showable p = true ∧ p.depth ≤ 100 ∧ p.shown.length ≤ 1000000) (q : Q (.str p.shown) H) : wpAny (model X.prog X.w) X.A (call (.builtin "repr") [u]) (EP X pins σ Q) X.xe s := by
  obtain ⟨as, rd, ns⟩ := rdC_rr I sd hm hr h r
  obtain ⟨a, rfl⟩ := hh
  have un := rm.un
  exact repr_of_reads' rd g.1 (fun _ => ns) rm.gd (by have := g.2.1; omega) (fun _ _ e => e) (fun h' t tk kp => ⟨.str p.shown, H, I.kept (t' := tk) kp, ⟨t, rfl⟩, q⟩) (small_of g.2.2)
theorem rr_ref {s : Shared} {u : Value} {p : PyData} {as : List Addr} (r : Reads s.heap u p as) (h : (∃ ps, p = .list ps) ∨ ∃ ps, p = .tuple ps) : ∃ a, u = .ref a := by
  rcases h with ⟨ps, rfl⟩ | ⟨ps, rfl⟩ <;> cases r <;> exact ⟨_, rfl⟩
theorem call_gRepr {k : Nat} (rm : Rm k X.A) (sd : ∀ pins σ H s, L2.Inv X pins σ H s → SysD s.heap) : CallR X (.builtin "repr") (rB X.K (pu gRepr)) := callP fun pins s σ H xs us Q α mem ds z I rv hm hr hg q => by
  unfold gRepr at hg
  split at hg
  · rename_i x
    cases hr with
    | cons r1 hr =>
      cases hr
      obtain ⟨u, rfl, ru⟩ := vals1 rv
      split at hg
      · rename_i ps e
        split at hg
        · rename_i g
          cases hg
          exact repr_go rm I (sd _ _ _ _ I) hm r1 e ru (rr_ref (rdC_rr I (sd _ _ _ _ I) hm r1 e ru).choose_spec.1 (.inl ⟨_, rfl⟩)) g (q H _ (Same.refl _) (.str _))
        · cases hg
      · rename_i ps e
        split at hg
        · rename_i g
          cases hg
          exact repr_go rm I (sd _ _ _ _ I) hm r1 e ru (rr_ref (rdC_rr I (sd _ _ _ _ I) hm r1 e ru).choose_spec.1 (.inr ⟨_, rfl⟩)) g (q H _ (Same.refl _) (.str _))
        · cases hg
      · cases hg
  · cases hg
/-- in a list -/
def gInL (neg : Bool) : OpP := fun mem ds => match ds with
  | [x, y] => match D.py (rdC mem x), D.py (rdC mem y) with
    | some p, some (.list qs) => if (SeqAt.shaped p && SeqAt.shaped (.list qs)) = true then some (.bl (neg != qs.any fun z => PyData.eqv z p)) else none
    | _, _ => none
  | _ => none
theorem op_gInL (hu : X.A.units + 65 < cLine) : OpR X (compareOp .In) (rB2 X.K (pu (gInL false))) := opP fun pins s σ H x y v u Q α mem d e z I rx ry hm r1 r2 hg q => by
  dsimp only [gInL] at hg
  split at hg
  · rename_i p qs e1 e2
    split at hg
    · rename_i h
      cases hg
      rw [Bool.and_eq_true] at h
      exact op_inD hu pins s σ H x y v u Q I rx ry ⟨p, qs, rdC_dp hm r1 e1, rdC_dp hm r2 e2, h.1, h.2, q H _ (Same.refl _) (by rw [Bool.false_bne]; exact .bl _)⟩
    · cases hg
  · cases hg
theorem op_gNotInL (hu : X.A.units + 65 < cLine) : OpR X (compareOp .NotIn) (rB2 X.K (pu (gInL true))) := opP fun pins s σ H x y v u Q α mem d e z I rx ry hm r1 r2 hg q => by
  dsimp only [gInL] at hg
  split at hg
  · rename_i p qs e1 e2
    split at hg
    · rename_i h
      cases hg
      rw [Bool.and_eq_true] at h
      exact op_notInD hu pins s σ H x y v u Q I rx ry ⟨p, qs, rdC_dp hm r1 e1, rdC_dp hm r2 e2, h.1, h.2, q H _ (Same.refl _) (by rw [Bool.true_bne]; exact .bl _)⟩
    · cases hg
  · cases hg
end
end Mx

/-! M13: what the written part says of classes, asked by one run of the kernel. -/
namespace Mx
open PySem PySem.W
def eqB {α : Type} [DecidableEq α] (a b : α) : Bool := decide (a = b)
theorem of_eqB {α : Type} [DecidableEq α] {a b : α} (h : eqB a b = true) : a = b := of_decide_eq_true h
/-- a class of exceptions at C, its mro l -/
def xcB (K : Frag) (C : Addr) (l : List Value) : Bool :=
  eqB (findIn K (.ref C) "__getattribute__") (some (some (.builtin "BaseException.__getattribute__"))) && (eqB (findIn K (.ref C) "__getattr__") (some none) && (eqB (subIn K (.ref C) (.type "BaseException")) (some true) &&
  (hasDictIn K C && (eqB (findIn K (.ref C) "__class__") (some (some (.builtin "object.__class__"))) && (eqB (specialIn K (.builtin "object.__class__") "__get__") (some (some (.builtin "getset_descriptor.__get__"))) &&
  (eqB (takesIn K (.builtin "object.__class__")) (some true) && (eqB (mroIn K C (.type "object")) (some true) && (eqB (typeIn K (.ref C)) (some (.type "type")) && (l.contains (.ref C) && match clsIn K C with
    | some cd => eqB cd.mro l
    | none => false)))))))))
structure Xc (K : Frag) (C : Addr) (l : List Value) : Prop where
  ex : L2.ExcC K C
  ty : typeIn K (.ref C) = some (.type "type")
  me : l.contains (.ref C) = true
  mro : ∃ cd, clsIn K C = some cd ∧ cd.mro = l
theorem xcB_ok {K : Frag} {C : Addr} {l : List Value} (h : xcB K C l = true) : Xc K C l := by
  unfold xcB at h
  simp only [Bool.and_eq_true] at h
  obtain ⟨h1, h2, h3, h4, h5, h6, h7, h8, h9, h10, h11⟩ := h
  refine ⟨⟨of_eqB h1, of_eqB h2, of_eqB h3, h4, of_eqB h5, of_eqB h6, of_eqB h7, of_eqB h8⟩, of_eqB h9, h10, ?_⟩
  cases e : clsIn K C with
  | none => rw [e] at h11; cases h11
  | some cd => rw [e] at h11; exact ⟨cd, rfl, of_eqB h11⟩
def tabOf (ms : List (Addr × List Value)) (ts : List String) (C : Addr) (c : L2.V) : Option Bool := match ms.lookup C with
  | none => none
  | some l => match c with
    | .ref A => if (ms.lookup A).isSome = true then some (l.contains (.ref A)) else none
    | .ty n => if ts.contains n = true then some (l.contains (.type n)) else none
    | _ => none
theorem mem_of_lookup {β : Type} : ∀ {ms : List (Addr × β)} {a : Addr} {l : β}, ms.lookup a = some l → (a, l) ∈ ms
  | [], _, _, h => by cases h
  | (b, y) :: ms, a, l, h => by
    rw [List.lookup_cons] at h
    by_cases e : (a == b) = true
    · rw [e] at h
      cases h
      rw [beq_iff_eq.mp e]
      exact List.mem_cons_self
    · rw [Bool.not_eq_true _ |>.mp e] at h
      exact List.mem_cons_of_mem _ (mem_of_lookup h)
theorem isTab_of {K : Frag} {ms : List (Addr × List Value)} {ts : List String} (h : (ms.all fun p => xcB K p.1 p.2) = true) (ht : ts.all kitMeta = true) : IsTab K (tabOf ms ts) := by
  intro C c b e
  unfold tabOf at e
  cases el : ms.lookup C with
  | none => rw [el] at e; cases e
  | some l =>
    rw [el] at e
    dsimp only at e
    have X := xcB_ok (List.all_eq_true.mp h _ (mem_of_lookup el))
    obtain ⟨cd, hc, hm⟩ := X.mro
    have ne : cd.mro.isEmpty = false := by
      rw [hm]
      cases l with
      | nil => exact absurd X.me (by simp)
      | cons _ _ => rfl
    have sub : ∀ v : Value, subIn K (.ref C) v = some (l.contains v) := fun v => by
      show mroIn K C v = _
      unfold mroIn
      rw [hc, Option.bind_some, ne, hm]
      rfl
    refine ⟨X.ex, ?_⟩
    cases c with
    | ref A =>
      dsimp only at e
      split at e
      · rename_i hA
        cases e
        obtain ⟨lA, hA⟩ := Option.isSome_iff_exists.mp hA
        have XA := xcB_ok (List.all_eq_true.mp h _ (mem_of_lookup hA))
        obtain ⟨cA, hcA, _⟩ := XA.mro
        refine ⟨.ref A, .own A, ?_⟩
        unfold kitOne kitCls
        by_cases eq : (Value.ref C == Value.ref A) = true
        · rw [if_pos eq, ← beq_iff_eq.mp eq, X.me]
        · rw [if_neg eq]
          dsimp only
          rw [if_pos (by rw [hcA, XA.ty]; rfl)]
          exact sub _
      · cases e
    | ty n =>
      dsimp only at e
      split at e
      · rename_i hn
        cases e
        refine ⟨.type n, .ty n, ?_⟩
        have km : kitMeta n = true := List.all_eq_true.mp ht n (by simpa using hn)
        unfold kitOne kitCls
        rw [if_neg (by exact Bool.false_ne_true)]
        dsimp only
        rw [if_pos km]
        exact sub _
      · cases e
    | _ => cases e
def strB (K : Frag) (C : Addr) : Bool := eqB (findIn K (.ref C) "__str__") (some (some (.builtin "BaseException.__str__"))) && eqB (subIn K (.ref C) (.type "BaseException")) (some true)
theorem strTab_of {K : Frag} {cs : List Addr} (h : (cs.all fun C => strB K C) = true) : StrTab K (fun C => cs.contains C) := fun C e => by
  have z := List.all_eq_true.mp h C (by simpa using e)
  unfold strB at z
  rw [Bool.and_eq_true] at z
  exact ⟨of_eqB z.1, of_eqB z.2⟩
theorem atTab_of {K : Frag} {f : Str} {cs : List Addr} (h : (cs.all fun C => L2.xfB K C && eqB (findIn K (.ref C) f) (some none)) = true) : AtTab K f (fun C => cs.contains C) := fun C e => by
  have z := List.all_eq_true.mp h C (by simpa using e)
  rw [Bool.and_eq_true] at z
  exact ⟨L2.xfB_ok z.1, of_eqB z.2⟩
/-- the plain facts of Xi -/
def xiB (prog : Program) (K : Frag) (fld : Str) (C fI : Addr) (B initId : String) : Bool :=
  eqB (findIn K (.ref C) "__setattr__") (some (some (.builtin "object.__setattr__"))) && (eqB (findIn K (.ref C) "__getattribute__") (some (some (.builtin "BaseException.__getattribute__"))) && (eqB (findIn K (.ref C) "__getattr__") (some none) && (eqB (findIn K (.ref C) fld) (some none) &&
  (eqB (findIn K (.ref C) "__init__") (some (some (.ref fI))) && (eqB (typeIn K (.ref fI)) (some (.type "function")) && (keepIn K (.ref C) && (eqB (subIn K (.ref C) (.type "BaseException")) (some true) && (eqB (typeIn K (.ref C)) (some (.type "type")) && (hasDictIn K C &&
  (eqB (subIn K (.ref C) (.type B)) (some true) && (eqB (mroIn K C (.ref C)) (some true) && (eqB (ks_superIn K C C "__init__") (some (some (.builtin initId))) && (eqB (nsIn K cStatics "thirdparty.any") (some none) && !(prog.main.scope.names.lookup ("super" : Str)).isSome)))))))))))))
theorem xi_of {prog : Program} {K : Frag} {h : Heap} {mg : Str → Option Value} {st : Stmt} {cn qual fld : Str} {C fI : Addr} {B newId initId : String} {bm : List Value} (bas : Bas B newId initId bm) (gC : mg cn = some (.ref C)) (iC : findIn K (.ref C) "__init__" = some (some (.ref fI))) (z : xiB prog K fld C fI B initId = true)
    {nm q : Str} {N : Addr} {bs : List Value} {sn : List Str} {sub : List Value} {ab : Bool} {col : Option Bool} {dd : Option Addr} {k0 k1 k2 k3 k5 : Option Value} (hC : K.lookup C = some (excClassObj nm q C N bs bm true sn sub ab col dd k0 k1 k2 k3 k5 newId))
    {oc doc pm ct cl ccl : Value} {od an cld cdd : Option Addr} {cda cc : Addr} {osl csl ccs : Array (Option Value)} {vs : Array Value} {file : Str} {tf : Tok}
    (lf : K.lookup fI = some ⟨oc, od, .func (ksFn "__init__" qual (L2.defArgs st) (L2.defBody st) (L2.defScope st) .none .none doc pm an (.ref cda) ct cc), osl⟩) (code : codeIn K (.ref cda) qual = true)
    (lc : K.lookup cc = some ⟨cl, cld, .cell (some (.ref C)), csl⟩) (ld : K.lookup cda = some ⟨ccl, cdd, .fields vs, ccs⟩) (hf : vs[2]? = some (.str file tf)) (same : ((prog.main.file : Str) == file) = true) : Xi prog K mg st cn qual fld C fI B newId initId bm := by
  unfold xiB at z
  simp only [Bool.and_eq_true, Bool.not_eq_true'] at z
  obtain ⟨z1, z2, z3, z4, z5, z6, z7, z8, z9, z10, z11, z12, z13, z14, z15⟩ := z
  exact ⟨bas, gC, ⟨_, _, _, _, _, _, _, _, _, _, _, _, _, _, hC⟩, of_eqB z1, of_eqB z2, of_eqB z3, of_eqB z4, of_eqB z5, of_eqB z6, z7, of_eqB z8, of_eqB z9, z10, of_eqB z11, of_eqB z12, of_eqB z13, of_eqB z14,
    ⟨_, _, _, _, _, _, _, _, _, _, _, _, _, _, _, _, _, _, lf, code, lc, ld, hf, same⟩, z15⟩
section
open L2
variable {X : Cx} {W : WX} {pos : Pos}
theorem me_cls {x : Str} {C : Addr} (hg : Gl X x) (hm : X.mg x = some (.ref C)) (hd : (x == ("__debug__" : Str)) = false := by decide) : ME X W (.Name x pos) (eC (.con (.ref C))) :=
  me_c (v := .ref C) (pe_glob (v := .ref C) hg hm rfl hd) fun _ _ => .con _
/-- an empty dict that stays as it is -/
def eDic0 : E1 := fun _ mem => .ok (.dic []) mem
theorem me_dic0 : ME X W (.Dict [] [] pos) eDic0 := ⟨PE.imp pe_dnewK fun σ H Q q => by
  obtain ⟨α, loc, mem, hm, hl, hp⟩ := q
  intro p np
  have sm := same_new (o := .dK []) np
  exact hp α _ _ (Lt.same sm) (hm.same sm) (.dic (hm.fresh np) upd_same .nil)⟩
theorem me_mkFx {st : Stmt} {cn qual fld : Str} {C : Addr} {B newId initId : String} {bm : List Value} {a : Expr} {ml : EL} {p : Pos} {k : Nat} (T : ∃ fI, Xi X.prog X.K X.mg st cn qual fld C fI B newId initId bm) (S : XiT st fld) (nosup : X.mg "super" = none) (rm : Rm k X.A) (ha : ML X W [a] ml) (hg : Gl X cn)
    (hdb : (cn == ("__debug__" : Str)) = false := by decide) (he : starEach [a] X.env = (false, eval a X.env) :: starEach [] X.env := by rfl) (hpl : (backTo pos (starEach [] X.env)).any (·.1) = false := by rfl) : ME X W (.Call (.Name cn p) [a] [] pos) (eMkF C fld ml) :=
  let ⟨_, t⟩ := T
  me_mkF t S nosup rm ha hg hdb he hpl
theorem Rm.u65 {k : Nat} {A : Around} (r : Rm k A) : A.units + 65 < cLine := by
  have := r.un
  omega
end
end Mx

/-! M14: the dice, in plain Lean. -/
namespace Mx
open PySem L2
theorem bits_le {i : Int} {k : Nat} (h : i.natAbs < 2 ^ k) : Builtin.Int.intBits i ≤ k := by
  unfold Builtin.Int.intBits
  split
  · exact Nat.zero_le _
  · rename_i ne
    have n0 : i.natAbs ≠ 0 := fun e => ne (by simp [Int.natAbs_eq_zero.mp e])
    exact (Nat.log2_lt n0).mpr h
theorem pow_ok {mem : Mem} {i : Int} {e : Nat} (k : Nat) (h : i.natAbs < 2 ^ k) (hk : k * e ≤ 2 ^ 27) : gPow mem [.int i, .int (e : Nat)] = some (.int (i ^ e)) := by
  have b := bits_le h
  have c : Builtin.Int.intBits i * e ≤ 2 ^ 27 := Nat.le_trans (Nat.mul_le_mul_right e b) hk
  have c' : ((Builtin.Int.intBits i : Nat) : Int) * (e : Nat) ≤ 2 ^ 27 := by exact_mod_cast c
  unfold gPow gI
  dsimp only
  rw [if_pos (decide_eq_true ⟨Int.natCast_nonneg _, c'⟩)]
  rfl
theorem mod_ok {mem : Mem} {i j : Int} (h : 0 < j) : gMod mem [.int i, .int j] = some (.int (i % j)) := by
  unfold gMod gI
  dsimp only
  rw [if_pos (decide_eq_true h)]
theorem log_lt {n k : Nat} (h : n < k) : n.log2 < k := Nat.lt_of_le_of_lt (Nat.log2_le_self n) h
theorem div_ok {mem : Mem} {i j : Int} (h : 0 < j) (hj : j < 9000) : gDiv mem [.int i, .int j] = some (.int (i / j)) := by
  unfold gDiv gI
  dsimp only
  rw [if_pos (decide_eq_true ⟨h, log_lt (by omega)⟩)]
theorem mul_ok {mem : Mem} {i j : Int} (hi : i.natAbs.log2 < 1000) (hj : j.natAbs < 990000) : gMul mem [.int i, .int j] = some (.int (i * j)) := by
  have := log_lt hj
  show (if i.natAbs.log2 + j.natAbs.log2 < 1000000 then some (D.int (i * j)) else none) = _
  rw [if_pos (by omega)]
theorem add_ok {mem : Mem} {i j : Int} : gAdd mem [.int i, .int j] = some (.int (i + j)) := rfl
theorem gt_ok {mem : Mem} {i j : Int} : gGt mem [.int i, .int j] = some (.bl (decide (j < i))) := rfl
/-! running mirrors by hand -/
theorem e2_of {g : OpP} {a b : E1} {loc : Mx.Env} {mem m1 m2 : Mem} {x y z : D} (ha : a loc mem = .ok x m1) (hb : b loc m1 = .ok y m2) (hg : g m2 [x, y] = some z) : e2 (pu g) a b loc mem = .ok z m2 := by
  unfold e2
  rw [ha]
  show (b loc m1).bind _ = _
  rw [hb]
  show ofP (pu g m2 [x, y]) = _
  unfold pu
  rw [hg]
  rfl
theorem var_of {loc : Mx.Env} {mem : Mem} {i : Nat} {d : D} (h : loc[i]? = some (some d)) : eVar i loc mem = .ok d mem := by
  unfold eVar
  rw [h]
theorem set_of {e : E1} {i : Nat} {loc : Mx.Env} {mem m1 : Mem} {d : D} (h : e loc mem = .ok d m1) : sSet i e loc mem = .nx (loc.set i (some d)) m1 := by
  unfold sSet
  rw [h]
  rfl
theorem ret_of {e : E1} {loc : Mx.Env} {mem m1 : Mem} {d : D} (h : e loc mem = .ok d m1) : sRet e loc mem = .rt d m1 := by
  unfold sRet
  rw [h]
  rfl
theorem seq_of {a b : S1} {loc l1 : Mx.Env} {mem m1 : Mem} (h : a loc mem = .nx l1 m1) : sSeq a b loc mem = b l1 m1 := by
  unfold sSeq
  rw [h]
theorem seq_rt {a b : S1} {loc : Mx.Env} {mem m1 : Mem} {d : D} (h : a loc mem = .rt d m1) : sSeq a b loc mem = .rt d m1 := by
  unfold sSeq
  rw [h]
theorem if_of {c : EB} {a b : S1} {loc : Mx.Env} {mem m1 : Mem} {t : Bool} (h : c loc mem = .ok t m1) : sIf c a b loc mem = if t = true then a loc m1 else b loc m1 := by
  unfold sIf
  rw [h]
  rfl
theorem bE_of {a : E1} {loc : Mx.Env} {mem m1 : Mem} {t : Bool} (h : a loc mem = .ok (.bl t) m1) : bE a loc mem = .ok t m1 := by
  unfold bE
  rw [h]
  rfl
theorem put_of {o i e : E1} {loc : Mx.Env} {mem m1 m2 m3 m4 : Mem} {v ov iv : D} (h1 : e loc mem = .ok v m1) (h2 : o loc m1 = .ok ov m2) (h3 : i loc m2 = .ok iv m3) (h4 : putIx m3 ov iv v = some m4) : sPut o i e loc mem = .nx loc m4 := by
  unfold sPut
  rw [h1]
  show (o loc m1).thenS loc _ = _
  rw [h2]
  show (i loc m2).thenS loc _ = _
  rw [h3]
  show (match putIx m3 ov iv v with | some m4 => RS.nx loc m4 | none => RS.bad) = _
  rw [h4]
theorem one_of {g : OpP} {a : E1} {loc : Mx.Env} {mem m1 : Mem} {x z : D} (h : a loc mem = .ok x m1) (hg : g m1 [x] = some z) : eN (pu g) (lCons a lNil) loc mem = .ok z m1 := by
  unfold eN lCons lNil
  rw [h]
  show ofP (pu g m1 [x]) = _
  unfold pu
  rw [hg]
  rfl
theorem run_rt {n : Nat} {m : S1} {ds : List D} {mem m1 : Mem} {d : D} (h : m (startL n ds) mem = .rt d m1) : runB n m ds mem = .ok d m1 := by
  unfold runB
  rw [h]
/-! the dice -/
def mRoll : S1 := sSeq (sIf (bE (e2 (pu gGt) (e2 (pu gIx) (eVar 0) (eC (.int 0))) (eC (.int 0)))) (sSeq (sSet 2 (e2 (pu gMod) (e2 (pu gIx) (eVar 0) (eC (.int 0))) (eVar 1))) (sSeq (sPut (eVar 0) (eC (.int 0)) (e2 (pu gDiv) (e2 (pu gIx) (eVar 0) (eC (.int 0))) (eVar 1))) (sRet (eVar 2)))) (sNil)) (sSeq (sPut (eVar 0) (eC (.int 2)) (e2 (pu gAdd) (e2 (pu gIx) (eVar 0) (eC (.int 2))) (eC (.int 1)))) (sSeq (sSet 3 (e2 (pu gMod) (e2 (pu gPow) (e2 (pu gAdd) (e2 (pu gIx) (eVar 0) (eC (.int 1))) (e2 (pu gMul) (eC (.int 15485867)) (e2 (pu gIx) (eVar 0) (eC (.int 2))))) (eC (.int 3))) (eC (.int 2305843009213693951)))) (sSeq (sSet 4 (e2 (pu gMod) (e2 (pu gPow) (e2 (pu gAdd) (e2 (pu gAdd) (eVar 3) (e2 (pu gMod) (e2 (pu gIx) (eVar 0) (eC (.int 1))) (eC (.int 1000081)))) (e2 (pu gMul) (eC (.int 41)) (e2 (pu gIx) (eVar 0) (eC (.int 2))))) (eC (.int 5))) (eC (.int 2305843009213693907)))) (sRet (e2 (pu gMod) (e2 (pu gDiv) (eVar 4) (eC (.int 8192))) (eVar 1))))))
def fRoll : Fn := runB 5 mRoll
/-- a cell that holds dice, N rolls at most behind it -/
def dcell (g s c : Int) : Cell := .lst [.int g, .int s, .int c]
structure Dc (N : Nat) (g s c : Int) : Prop where
  g0 : 0 ≤ g
  s0 : 0 ≤ s
  s1 : s < 2305843009213693921
  c0 : 0 ≤ c
  c1 : c ≤ N
theorem dix {mem : Mem} {n : Nat} {g s c : Int} (h : mem[n]? = some (dcell g s c)) : gIx mem [.ref n, .int 0] = some (.int g) ∧ gIx mem [.ref n, .int 1] = some (.int s) ∧ gIx mem [.ref n, .int 2] = some (.int c) := by
  unfold dcell at h
  refine ⟨?_, ?_, ?_⟩ <;> (simp only [gIx, seqOf, listOf, h]; rfl)
theorem dput {mem : Mem} {n : Nat} {g s c : Int} (h : mem[n]? = some (dcell g s c)) (v : Int) : putIx mem (.ref n) (.int 0) (.int v) = some (mem.set n (dcell v s c)) ∧ putIx mem (.ref n) (.int 2) (.int v) = some (mem.set n (dcell g s v)) := by
  unfold dcell at h ⊢
  refine ⟨?_, ?_⟩ <;> (simp only [putIx, h]; rfl)
theorem get_set {mem : Mem} {n : Nat} {c d : Cell} (h : mem[n]? = some c) : (mem.set n d)[n]? = some d := by
  rw [List.getElem?_set_self (List.getElem?_eq_some_iff.mp h).1]
theorem roll_ok {N n : Nat} {g s c t : Int} {mem : Mem} (h : mem[n]? = some (dcell g s c)) (d : Dc N g s c) (hN : N < 900000) (t0 : 0 < t) (t1 : t < 9000) :
    ∃ r g' c', fRoll [.ref n, .int t] mem = .ok (.int r) (mem.set n (dcell g' s c')) ∧ 0 ≤ r ∧ r < t ∧ Dc (N + 1) g' s c' := by
  obtain ⟨i0, i1, i2⟩ := dix h
  have lv0 : ∀ {m : Mem} {l : List (Option D)}, eVar 0 (some (.ref n) :: l) m = .ok (.ref n) m := fun {m l} => rfl
  have ix0 := e2_of (loc := [some (.ref n), some (.int t), none, none, none]) (mem := mem) (a := eVar 0) (b := eC (.int 0)) rfl rfl i0
  suffices ∃ r g' c', mRoll [some (.ref n), some (.int t), none, none, none] mem = .rt (.int r) (mem.set n (dcell g' s c')) ∧ 0 ≤ r ∧ r < t ∧ Dc (N + 1) g' s c' by
    obtain ⟨r, g', c', h1, h2⟩ := this
    exact ⟨r, g', c', run_rt h1, h2⟩
  have test := bE_of (e2_of (b := eC (.int 0)) ix0 rfl (gt_ok (j := 0)))
  unfold mRoll
  by_cases hg : 0 < g
  · refine ⟨g % t, g / t, c, ?_, Int.emod_nonneg _ (by omega), Int.emod_lt_of_pos _ t0, Int.ediv_nonneg d.g0 (by omega), d.s0, d.s1, d.c0, by have := d.c1; push_cast; omega⟩
    rw [seq_rt (d := .int (g % t)) (m1 := mem.set n (dcell (g / t) s c))]
    rw [if_of test, if_pos (decide_eq_true hg)]
    rw [seq_of (set_of (e2_of (b := eVar 1) ix0 rfl (mod_ok t0)))]
    rw [seq_of (put_of (e2_of (b := eVar 1) (e2_of (a := eVar 0) (b := eC (.int 0)) rfl rfl i0) rfl (div_ok t0 t1)) rfl rfl (dput h _).1)]
    exact ret_of rfl
  · have h2 := get_set (d := dcell g s (c + 1)) h
    obtain ⟨j0, j1, j2⟩ := dix h2
    have c1 := d.c1
    have c0 := d.c0
    have s0 := d.s0
    have s1 := d.s1
    have cb : c + 1 ≤ 900000 := by omega
    have m1 : ((15485867 : Int)).natAbs.log2 < 1000 := by decide
    have m2 : ((41 : Int)).natAbs.log2 < 1000 := by decide
    have cn : (c + 1).natAbs < 990000 := by omega
    have p1 : (s + 15485867 * (c + 1)).natAbs < 2 ^ 70 := by omega
    have o0 : 0 ≤ (s + 15485867 * (c + 1)) ^ 3 % 2305843009213693951 := Int.emod_nonneg _ (by decide)
    have o1 : (s + 15485867 * (c + 1)) ^ 3 % 2305843009213693951 < 2305843009213693951 := Int.emod_lt_of_pos _ (by decide)
    have q0 : 0 ≤ s % 1000081 := Int.emod_nonneg _ (by decide)
    have q1 : s % 1000081 < 1000081 := Int.emod_lt_of_pos _ (by decide)
    generalize hone : (s + 15485867 * (c + 1)) ^ 3 % 2305843009213693951 = one at o0 o1
    have p2 : (one + s % 1000081 + 41 * (c + 1)).natAbs < 2 ^ 70 := by omega
    refine ⟨(one + s % 1000081 + 41 * (c + 1)) ^ 5 % 2305843009213693907 / 8192 % t, g, c + 1, ?_, Int.emod_nonneg _ (by omega), Int.emod_lt_of_pos _ t0, d.g0, d.s0, d.s1, by omega, by push_cast; omega⟩
    rw [seq_of (l1 := [some (.ref n), some (.int t), none, none, none]) (m1 := mem)]
    · rw [seq_of (put_of (e2_of (b := eC (.int 1)) (e2_of (a := eVar 0) (b := eC (.int 2)) rfl rfl i2) rfl add_ok) rfl rfl (dput h _).2)]
      rw [seq_of (set_of (e2_of (b := eC (.int 2305843009213693951)) (e2_of (b := eC (.int 3)) (e2_of (e2_of (a := eVar 0) (b := eC (.int 1)) rfl rfl j1) (e2_of (a := eC (.int 15485867)) rfl (e2_of (a := eVar 0) (b := eC (.int 2)) rfl rfl j2) (mul_ok m1 cn)) add_ok) rfl (pow_ok 70 p1 (by decide))) rfl (mod_ok (by decide))))]
      rw [hone]
      rw [seq_of (set_of (e2_of (b := eC (.int 2305843009213693907)) (e2_of (b := eC (.int 5)) (e2_of (e2_of (a := eVar 3) rfl (e2_of (b := eC (.int 1000081)) (e2_of (a := eVar 0) (b := eC (.int 1)) rfl rfl j1) rfl (mod_ok (by decide))) add_ok) (e2_of (a := eC (.int 41)) rfl (e2_of (a := eVar 0) (b := eC (.int 2)) rfl rfl j2) (mul_ok m2 cn)) add_ok) rfl (pow_ok 70 p2 (by decide))) rfl (mod_ok (by decide))))]
      rw [ret_of (e2_of (b := eVar 1) (e2_of (a := eVar 4) (b := eC (.int 8192)) rfl rfl (div_ok (by decide) (by decide))) rfl (mod_ok t0))]
    · rw [if_of test, if_neg (by simpa using hg)]
      rfl
end Mx

/-! M15: more of the dice. -/
namespace Mx
open PySem L2
theorem atI_nat {α : Type} (xs : List α) (k : Nat) : atI xs (k : Int) = xs[k]? := by
  unfold atI ixN
  rw [if_pos (Int.natCast_nonneg k)]
  by_cases h : k < xs.length
  · rw [if_pos (by exact_mod_cast h)]
    simp
  · rw [if_neg (by exact_mod_cast h)]
    simp [List.getElem?_eq_none (Nat.le_of_not_lt h)]
theorem atI_in {α : Type} {xs : List α} {r : Int} (h0 : 0 ≤ r) (h1 : r < xs.length) : ∃ x, xs[r.toNat]? = some x ∧ atI xs r = some x ∧ x ∈ xs := by
  obtain ⟨k, rfl⟩ : ∃ k : Nat, r = k := ⟨r.toNat, (Int.toNat_of_nonneg h0).symm⟩
  have hk : k < xs.length := by exact_mod_cast h1
  refine ⟨xs[k], ?_, ?_, List.getElem_mem hk⟩
  · rw [Int.toNat_natCast]
    exact List.getElem?_eq_getElem hk
  · rw [atI_nat]
    exact List.getElem?_eq_getElem hk
def mOneOf : S1 := sRet (e2 (pu gIx) (eVar 1) (eCall fRoll (lCons (eVar 0) (lCons (eN (pu gLen) (lCons (eVar 1) (lNil))) (lNil)))))
def fOneOf : Fn := runB 2 mOneOf
theorem call2_of {F : Fn} {a b : E1} {loc : Mx.Env} {mem m1 m2 : Mem} {x y : D} (ha : a loc mem = .ok x m1) (hb : b loc m1 = .ok y m2) : eCall F (lCons a (lCons b lNil)) loc mem = F [x, y] m2 := by
  simp only [eCall, lCons, lNil, ha, hb, Res.bind]
theorem oneOf_ok {N n : Nat} {g s c : Int} {mem : Mem} {ds : List D} (h : mem[n]? = some (dcell g s c)) (d : Dc N g s c) (hN : N < 900000) (l0 : 0 < ds.length) (l1 : ds.length < 9000) :
    ∃ x g' c', fOneOf [.ref n, .lst ds] mem = .ok x (mem.set n (dcell g' s c')) ∧ x ∈ ds ∧ Dc (N + 1) g' s c' := by
  obtain ⟨r, g', c', hr, r0, r1, d'⟩ := roll_ok h d hN (t := (ds.length : Int)) (by omega) (by omega)
  obtain ⟨x, _, hx, mx⟩ := atI_in (xs := ds) r0 (by exact_mod_cast r1)
  refine ⟨x, g', c', run_rt (ret_of (e2_of (x := .lst ds) (y := .int r) (m1 := mem) rfl ?_ ?_)), mx, d'⟩
  · rw [call2_of (x := .ref n) (y := .int ds.length) (m1 := mem) (m2 := mem) rfl (one_of (x := .lst ds) rfl rfl)]
    exact hr
  · exact hx
/-! the making of dice -/
theorem mul_okg {mem : Mem} {i j : Int} (h : i.natAbs.log2 + j.natAbs.log2 < 1000000) : gMul mem [.int i, .int j] = some (.int (i * j)) := by
  show (if i.natAbs.log2 + j.natAbs.log2 < 1000000 then some (D.int (i * j)) else none) = _
  rw [if_pos h]
theorem log2_le {n k : Nat} (h : n < 2 ^ k) : n.log2 ≤ k := by
  by_cases e : n = 0
  · subst e
    exact Nat.zero_le _
  · exact Nat.le_of_lt ((Nat.log2_lt e).mpr h)
theorem div_okg {mem : Mem} {i j : Int} (h : 0 < j ∧ j.natAbs.log2 < 9000) : gDiv mem [.int i, .int j] = some (.int (i / j)) := by
  unfold gDiv gI
  dsimp only
  rw [if_pos (decide_eq_true h)]
def mDice : S1 := sSeq (sSet 2 (eIf (bE (e2 (pu gLt) (eVar 1) (eN (pu gLen) (lCons (eVar 0) (lNil))))) (e2 (pu gIx) (eVar 0) (eVar 1)) (e2 (pu gAdd) (e2 (pu gMul) (eC (.int 13)) (eVar 1)) (eC (.int 5))))) (sSeq (sSet 3 (e2 (pu gMod) (eN (pu gAbs) (lCons (eVar 2) (lNil))) (e2 (pu gPow) (e2 (pu gPow) (eC (.int 10)) (eC (.int 60))) (eC (.int 13))))) (sSeq (sSet 4 (e2 (pu gAdd) (e2 (pu gAdd) (e2 (pu gAdd) (e2 (pu gMod) (eVar 3) (eC (.int 2305843009213693907))) (e2 (pu gMul) (eC (.int 8191)) (eVar 1))) (e2 (pu gMul) (eC (.int 5)) (eN (pu gInt1) (lCons (e2 (pu gLt) (eVar 2) (eC (.int 0))) (lNil))))) (eC (.int 29)))) (sSeq (sFor (.t [.n 5, .n 6]) (wEnum (lCons (eVar 0) (lNil))) (sIf (bE (e2 (pu (gEq true)) (eVar 5) (eVar 1))) (sSet 4 (e2 (pu gMod) (e2 (pu gAdd) (e2 (pu gAdd) (e2 (pu gMul) (eC (.int 1000033)) (eVar 4)) (eVar 6)) (eVar 5)) (eC (.int 2305843009213693907)))) (sNil))) (sSeq (sSet 4 (e2 (pu gMod) (e2 (pu gPow) (eVar 4) (eC (.int 3))) (eC (.int 2305843009213693921)))) (sRet (eLstC (lCons (e2 (pu gMul) (e2 (pu gDiv) (eVar 3) (e2 (pu gPow) (eC (.int 10)) (eC (.int 18)))) (eN (pu gInt1) (lCons (e2 (pu gGe) (eVar 3) (e2 (pu gPow) (eC (.int 10)) (eC (.int 18)))) (lNil)))) (lCons (eVar 4) (lCons (eC (.int 0)) (lNil))))))))))
def fDice : Fn := runB 7 mDice
abbrev bDice : S1 := sIf (bE (e2 (pu (gEq true)) (eVar 5) (eVar 1))) (sSet 4 (e2 (pu gMod) (e2 (pu gAdd) (e2 (pu gAdd) (e2 (pu gMul) (eC (.int 1000033)) (eVar 4)) (eVar 6)) (eVar 5)) (eC (.int 2305843009213693907)))) (sNil)
theorem ne_ints {mem : Mem} {i j : Int} : ∃ b, gEq true mem [.int i, .int j] = some (.bl b) := ⟨_, rfl⟩
theorem dice_turn {sc c0 c1 c2 : D} {mem : Mem} {p a v seed : Int} {o5 o6 : Option D} (hs : seed.natAbs < 2 ^ 64) :
    ∃ seed', bDice [some sc, some (.int a), some c0, some c1, some (.int seed), some (.int p), some (.int v)] mem = .nx [some sc, some (.int a), some c0, some c1, some (.int seed'), some (.int p), some (.int v)] mem ∧ seed'.natAbs < 2 ^ 64 := by
  obtain ⟨b, hb⟩ := ne_ints (mem := mem) (i := p) (j := a)
  have test := bE_of (e2_of (loc := [some sc, some (.int a), some c0, some c1, some (.int seed), some (.int p), some (.int v)]) (mem := mem) (a := eVar 5) (b := eVar 1) rfl rfl hb)
  cases b with
  | false => exact ⟨seed, by rw [bDice, if_of test]; rfl, hs⟩
  | true =>
    have m0 : 0 ≤ (1000033 * seed + v + p) % 2305843009213693907 := Int.emod_nonneg _ (by decide)
    have m1 : (1000033 * seed + v + p) % 2305843009213693907 < 2305843009213693907 := Int.emod_lt_of_pos _ (by decide)
    refine ⟨(1000033 * seed + v + p) % 2305843009213693907, ?_, by omega⟩
    rw [bDice, if_of test, if_pos rfl]
    have lg : ((1000033 : Int)).natAbs.log2 + seed.natAbs.log2 < 1000000 := by
      have h1 : ((1000033 : Int)).natAbs.log2 < 100 := by decide
      have h2 := log2_le hs
      omega
    exact set_of (e2_of (b := eC (.int 2305843009213693907)) (e2_of (b := eVar 5) (e2_of (b := eVar 6) (e2_of (a := eC (.int 1000033)) (b := eVar 4) rfl rfl (mul_okg lg)) rfl add_ok) rfl add_ok) rfl (mod_ok (by decide)))
theorem dice_loop {sc c0 c1 : D} {mem : Mem} {a : Int} : ∀ (ns : List Int) (k : Nat) (seed : Int) (o5 o6 : Option D), seed.natAbs < 2 ^ 64 →
    ∃ seed' o5' o6', loop (.t [.n 5, .n 6]) bDice (fun _ => true) (enumD k (ns.map .int)) [some sc, some (.int a), some c0, some c1, some (.int seed), o5, o6] mem = .nx [some sc, some (.int a), some c0, some c1, some (.int seed'), o5', o6'] mem ∧ seed'.natAbs < 2 ^ 64
  | [], k, seed, o5, o6, hs => ⟨seed, o5, o6, rfl, hs⟩
  | v :: ns, k, seed, o5, o6, hs => by
    obtain ⟨s1, h1, b1⟩ := dice_turn (sc := sc) (c0 := c0) (c1 := c1) (mem := mem) (p := k) (a := a) (v := v) (c2 := .non) (o5 := none) (o6 := none) hs
    obtain ⟨s2, p5, p6, h2, b2⟩ := dice_loop (mem := mem) ns (k + 1) s1 (some (.int k)) (some (.int v)) b1
    refine ⟨s2, p5, p6, ?_, b2⟩
    rw [List.map_cons, enumD, loop, if_pos rfl]
    show (match bDice [some sc, some (.int a), some c0, some c1, some (.int seed), some (.int k), some (.int v)] mem with
      | .nx l m => loop (.t [.n 5, .n 6]) bDice (fun _ => true) (enumD (k + 1) (ns.map .int)) l m
      | .ct l m => loop (.t [.n 5, .n 6]) bDice (fun _ => true) (enumD (k + 1) (ns.map .int)) l m
      | .bk l m => .nx l m
      | r => r) = _
    rw [h1]
    exact h2
theorem eIf_of {c : EB} {a b : E1} {loc : Mx.Env} {mem m1 : Mem} {t : Bool} (h : c loc mem = .ok t m1) : eIf c a b loc mem = if t = true then a loc m1 else b loc m1 := by
  unfold eIf
  rw [h]
  rfl
theorem for_of {g : Tg} {i : EW} {body : S1} {loc : Mx.Env} {mem m1 : Mem} {wk : Wk} (h : i loc mem = .ok wk m1) : sFor g i body loc mem = loop g body wk.guard wk.items loc m1 := by
  unfold sFor
  rw [h]
  rfl
theorem lst3_of {a b c : E1} {loc : Mx.Env} {mem m1 m2 m3 : Mem} {x y z : D} (ha : a loc mem = .ok x m1) (hb : b loc m1 = .ok y m2) (hc : c loc m2 = .ok z m3) : eLstC (lCons a (lCons b (lCons c lNil))) loc mem = .ok (.ref m3.length) (m3 ++ [.lst [x, y, z]]) := by
  simp only [eLstC, lCons, lNil, ha, hb, hc, Res.bind]
theorem dice_ok {ns : List Int} {k : Nat} {mem : Mem} (hk : k ≤ 1000) : ∃ g s, fDice [.scr (ns.map .int), .int k] mem = .ok (.ref mem.length) (mem ++ [dcell g s 0]) ∧ Dc 0 g s 0 := by
  suffices ∃ g s, mDice [some (.scr (ns.map .int)), some (.int k), none, none, none, none, none] mem = .rt (.ref mem.length) (mem ++ [dcell g s 0]) ∧ Dc 0 g s 0 by
    obtain ⟨g, s, h1, h2⟩ := this
    exact ⟨g, s, run_rt h1, h2⟩
  have len : (eN (pu gLen) (lCons (eVar 0) (lNil))) [some (.scr (ns.map .int)), some (.int k), none, none, none, none, none] mem = .ok (.int (ns.map D.int).length) mem := one_of (x := .scr (ns.map .int)) rfl rfl
  have kb : ((k : Nat) : Int).natAbs < 990000 := by omega
  have cell : ∃ v, (eIf (bE (e2 (pu gLt) (eVar 1) (eN (pu gLen) (lCons (eVar 0) (lNil))))) (e2 (pu gIx) (eVar 0) (eVar 1)) (e2 (pu gAdd) (e2 (pu gMul) (eC (.int 13)) (eVar 1)) (eC (.int 5)))) [some (.scr (ns.map .int)), some (.int k), none, none, none, none, none] mem = .ok (.int v) mem := by
    rw [eIf_of (bE_of (e2_of (x := .int k) rfl len rfl))]
    by_cases h : (k : Int) < (ns.map D.int).length
    · rw [if_pos (decide_eq_true h)]
      have h' : k < ns.length := by simpa using h
      refine ⟨ns[k], e2_of (x := .scr (ns.map .int)) (y := .int k) rfl rfl ?_⟩
      show atI (ns.map D.int) (k : Int) = _
      rw [atI_nat, List.getElem?_map, List.getElem?_eq_getElem h']
      rfl
    · rw [if_neg (by simpa using h)]
      exact ⟨_, e2_of (b := eC (.int 5)) (e2_of (a := eC (.int 13)) (b := eVar 1) rfl rfl (mul_ok (by decide) kb)) rfl add_ok⟩
  obtain ⟨v, hv⟩ := cell
  unfold mDice
  rw [seq_of (set_of hv)]
  show ∃ g s, sSeq _ _ [some (.scr (ns.map .int)), some (.int k), some (.int v), none, none, none, none] mem = _ ∧ _
  have big : (e2 (pu gPow) (e2 (pu gPow) (eC (.int 10)) (eC (.int 60))) (eC (.int 13))) [some (.scr (ns.map .int)), some (.int k), some (.int v), none, none, none, none] mem = .ok (.int ((10 ^ 60) ^ 13)) mem :=
    e2_of (b := eC (.int 13)) (e2_of (a := eC (.int 10)) (b := eC (.int 60)) rfl rfl (pow_ok (e := 60) 4 (by decide) (by decide))) rfl (pow_ok (e := 13) 200 (by decide +kernel) (by decide))
  have g0 : 0 ≤ (if v < 0 then -v else v) % (10 ^ 60) ^ 13 := Int.emod_nonneg _ (by decide)
  have g1 : (if v < 0 then -v else v) % (10 ^ 60) ^ 13 < (10 ^ 60) ^ 13 := Int.emod_lt_of_pos _ (by decide)
  rw [seq_of (set_of (e2_of (x := .int (if v < 0 then -v else v)) (one_of (x := .int v) rfl rfl) big (mod_ok (by decide))))]
  generalize (if v < 0 then -v else v) % (10 ^ 60) ^ 13 = great at g0 g1
  show ∃ g s, sSeq _ _ [some (.scr (ns.map .int)), some (.int k), some (.int v), some (.int great), none, none, none] mem = _ ∧ _
  have r0 : 0 ≤ great % 2305843009213693907 := Int.emod_nonneg _ (by decide)
  have r1 : great % 2305843009213693907 < 2305843009213693907 := Int.emod_lt_of_pos _ (by decide)
  have bb : (0 : Int) ≤ (if decide (v < 0) = true then 1 else 0) ∧ (if decide (v < 0) = true then (1 : Int) else 0) ≤ 1 := by split <;> omega
  rw [seq_of (set_of (e2_of (b := eC (.int 29)) (e2_of (e2_of (e2_of (a := eVar 3) (b := eC (.int 2305843009213693907)) rfl rfl (mod_ok (by decide))) (e2_of (a := eC (.int 8191)) (b := eVar 1) rfl rfl (mul_ok (by decide) kb)) add_ok)
    (e2_of (a := eC (.int 5)) rfl (one_of (x := .bl (decide (v < 0))) (z := .int (if decide (v < 0) = true then 1 else 0)) (e2_of (a := eVar 2) (b := eC (.int 0)) rfl rfl rfl) rfl) (mul_ok (by decide) (by omega))) add_ok) rfl add_ok))]
  generalize hsd : great % 2305843009213693907 + 8191 * (k : Int) + 5 * (if decide (v < 0) = true then 1 else 0) + 29 = seed
  have sb : seed.natAbs < 2 ^ 64 := by omega
  show ∃ g s, sSeq _ _ [some (.scr (ns.map .int)), some (.int k), some (.int v), some (.int great), some (.int seed), none, none] mem = _ ∧ _
  obtain ⟨s2, p5, p6, hl, b2⟩ := dice_loop (sc := .scr (ns.map .int)) (c0 := .int v) (c1 := .int great) (mem := mem) (a := k) ns 0 seed none none sb
  have hf : sFor (.t [.n 5, .n 6]) (wEnum (lCons (eVar 0) (lNil))) bDice [some (.scr (ns.map .int)), some (.int k), some (.int v), some (.int great), some (.int seed), none, none] mem = _ := (for_of (wk := { items := enumD 0 (ns.map .int) }) rfl).trans hl
  rw [seq_of hf]
  have t0 : 0 ≤ s2 ^ 3 % 2305843009213693921 := Int.emod_nonneg _ (by decide)
  have t1 : s2 ^ 3 % 2305843009213693921 < 2305843009213693921 := Int.emod_lt_of_pos _ (by decide)
  rw [seq_of (set_of (e2_of (b := eC (.int 2305843009213693921)) (e2_of (a := eVar 4) (b := eC (.int 3)) rfl rfl (pow_ok (e := 3) 64 b2 (by decide))) rfl (mod_ok (by decide))))]
  generalize s2 ^ 3 % 2305843009213693921 = s3 at t0 t1
  have ten : ∀ loc, (e2 (pu gPow) (eC (.int 10)) (eC (.int 18))) loc mem = .ok (.int (10 ^ 18)) mem := fun loc => e2_of (a := eC (.int 10)) (b := eC (.int 18)) rfl rfl (pow_ok (e := 18) 4 (by decide) (by decide))
  have ib : (0 : Int) ≤ (if decide ((10 : Int) ^ 18 ≤ great) = true then 1 else 0) ∧ (if decide ((10 : Int) ^ 18 ≤ great) = true then (1 : Int) else 0) ≤ 1 := by split <;> omega
  have q0 : 0 ≤ great / 10 ^ 18 := Int.ediv_nonneg g0 (by decide)
  have q1 : great / 10 ^ 18 ≤ great := Int.ediv_le_self _ g0
  have lg : (great / 10 ^ 18).natAbs.log2 + ((if decide ((10 : Int) ^ 18 ≤ great) = true then (1 : Int) else 0)).natAbs.log2 < 1000000 := by
    have h1 : (great / 10 ^ 18).natAbs.log2 ≤ 2600 := log2_le (by
      have : (great / 10 ^ 18).natAbs < ((10 ^ 60) ^ 13 : Nat) := by omega
      exact Nat.lt_of_lt_of_le this (by decide +kernel))
    have h2 : ((if decide ((10 : Int) ^ 18 ≤ great) = true then (1 : Int) else 0)).natAbs.log2 < 2 := log_lt (by omega)
    omega
  refine ⟨great / 10 ^ 18 * (if decide ((10 : Int) ^ 18 ≤ great) = true then 1 else 0), s3, ret_of (lst3_of (m1 := mem) (m2 := mem) (m3 := mem) (e2_of (e2_of (a := eVar 3) rfl (ten _) (div_okg ⟨by decide, by decide +kernel⟩)) (one_of (x := .bl (decide ((10 : Int) ^ 18 ≤ great))) (e2_of (a := eVar 3) rfl (ten _) rfl) rfl) (mul_okg lg)) rfl rfl), ?_, t0, t1, Int.le_refl _, Int.le_refl _⟩
  exact Int.mul_nonneg q0 ib.1
end Mx

/-! M16: isinstance of data, <, tuple(), list(), in, slices. -/
namespace Mx
open PySem L2
section
variable {X : Cx} {W : WX} {pos : Pos}
/-! isinstance -/
def tyN (mem : Mem) : D → Option String
  | .non => some "NoneType"
  | .bl _ => some "bool"
  | .int _ => some "int"
  | .str _ => some "str"
  | .tup _ => some "tuple"
  | .lst _ => some "list"
  | .scr _ => some "list"
  | .dic _ => some "dict"
  | .ref n => match mem[n]? with
    | some (.lst _) => some "list"
    | some (.dic _) => some "dict"
    | some (.tab _ _) => none
    | none => none
  | _ => none
theorem tyN_ok {K : PySem.W.Frag} {α : Ad} {H : Hp} {mem : Mem} {d : D} {v : V} {n : String} (hm : MemRep K α H mem) (r : Rep K α H d v) (e : tyN mem d = some n) : TyX K H v (.type n) := by
  cases r with
  | non => cases e; exact .base .non
  | bl b => cases e; exact .base (.bl b)
  | int i => cases e; exact .base (.int i)
  | str x => cases e; exact .base (.str x)
  | tup h r rs =>
    cases e
    rcases r with r | ⟨o, r⟩
    · exact .base (.tup r)
    · exact .fTuple r
  | tupK w rs =>
    cases e
    obtain ⟨o, its, n, h1, h2, _⟩ := w
    exact .kTuple h1 h2
  | lst h r rs => cases e; exact .base (.lst r)
  | scr h r rs =>
    cases e
    obtain ⟨o, r⟩ := r
    exact .base (.frz r)
  | scrK w rs =>
    cases e
    obtain ⟨o, its, n, h1, h2, _⟩ := w
    exact .kList h1 h2
  | dic h r rs => cases e; exact .base (.dK r)
  | ref h =>
    obtain ⟨c, hc, hc'⟩ := hm.at_ h
    unfold tyN at e
    simp only [hc] at e
    cases c with
    | lst ds =>
      cases e
      obtain ⟨xs, hx, _⟩ := hc'
      exact .base (.lst hx)
    | tab _ _ => cases e
    | dic ds =>
      cases e
      obtain ⟨xs, hx, _⟩ := hc'
      exact .base (.dK hx)
  | con v => cases e
  | exm _ _ _ _ _ => cases e
  | exf _ _ _ _ _ => cases e
  | exn _ _ => cases e
def gIsi : OpP := fun mem ds => match ds with
  | [x, .con (.ty n)] => match tyN mem x with
    | some a => match kitB a n with
      | some b => some (.bl b)
      | none => none
    | none => none
  | _ => none
theorem call_gIsi : CallR X (.builtin "isinstance") (rB X.K (pu gIsi)) := callP fun pins s σ H xs us Q α mem ds z I rv hm hr hg q => by
  unfold gIsi at hg
  split at hg
  · rename_i x n
    split at hg
    · rename_i a ea
      split at hg
      · rename_i b eb
        cases hg
        cases hr with
        | cons r1 hr =>
          cases hr with
          | cons r2 hr =>
            cases hr
            cases r2
            exact call_isi pins s σ H _ us Q I rv ⟨_, _, .type a, .type n, b, rfl, .ty n, tyN_ok hm r1 ea, kit_ty eb, q H _ (Same.refl _) (.bl b)⟩
      · cases hg
    · cases hg
  · cases hg
/-! < of data -/
def gLtD : OpP := fun mem ds => match ds with
  | [.int a, .int b] => some (.bl (decide (a < b)))
  | [.str a, .str b] => some (.bl (decide (a.cps.toList < b.cps.toList)))
  | [x, y] => match D.py (rdC mem x), D.py (rdC mem y) with
    | some (.tuple ps), some (.tuple qs) => if PySem.W.alike (.tuple ps) (.tuple qs) = true ∧ (PyData.tuple ps).depth ≤ 100 then some (.bl (PySem.W.dataLt (.tuple ps) (.tuple qs))) else none
    | _, _ => none
  | _ => none
theorem op_gLtD {k : Nat} (rm : Rm k X.A) : OpR X (compareOp .Lt) (rB2 X.K (pu gLtD)) := opP fun pins s σ H x y v u Q α mem d e z I rx ry hm r1 r2 hg q => by
  unfold gLtD at hg
  split at hg
  · rename_i a b h
    cases h
    cases hg
    cases r1
    cases r2
    exact op_lt pins s σ H _ _ v u Q I rx ry ⟨_, _, rfl, rfl, q H _ (Same.refl _) (.bl _)⟩
  · rename_i a b h
    cases h
    cases hg
    cases r1
    cases r2
    exact op_lt_str pins s σ H _ _ v u Q I rx ry ⟨_, _, rfl, rfl, q H _ (Same.refl _) (.bl _)⟩
  · rename_i h
    cases h
    split at hg
    · rename_i ps qs e1 e2
      split at hg
      · rename_i g
        cases hg
        obtain ⟨as, h1⟩ := Dp.reads I _ _ _ (rdC_dp hm r1 e1) rx
        obtain ⟨bs, h2⟩ := Dp.reads I _ _ _ (rdC_dp hm r2 e2) ry
        have un := rm.un
        exact PySem.W.lt_data h1 h2 g.1 (fun z => nomatch z) (by have := g.2; omega) ⟨.bl _, H, I, rfl, q H _ (Same.refl _) (.bl _)⟩
      · cases hg
    · cases hg
  · cases hg
/-! in -/
def gIn (neg : Bool) : OpP := fun mem ds => match ds with
  | [.str a, .str b] => some (.bl (neg != !(Builtin.Str.occurrences b a 0 b.length 1).isEmpty))
  | [x, y] => match D.py (rdC mem x), D.py (rdC mem y) with
    | some p, some (.list qs) => if (SeqAt.shaped p && SeqAt.shaped (.list qs)) = true then some (.bl (neg != qs.any fun z => PyData.eqv z p)) else none
    | some p, some (.tuple qs) => if (SeqAt.shaped p && SeqAt.shaped (.tuple qs)) = true then some (.bl (neg != qs.any fun z => PyData.eqv z p)) else none
    | _, _ => none
  | _ => none
theorem op_gIn (hu : X.A.units + 65 < cLine) : OpR X (compareOp .In) (rB2 X.K (pu (gIn false))) := opP fun pins s σ H x y v u Q α mem d e z I rx ry hm r1 r2 hg q => by
  unfold gIn at hg
  split at hg
  · rename_i a b h
    cases h
    cases hg
    cases r1
    cases r2
    exact op_in_str pins s σ H _ _ v u Q I rx ry ⟨_, _, rfl, rfl, q H _ (Same.refl _) (by rw [Bool.false_bne]; exact .bl _)⟩
  · rename_i h
    cases h
    split at hg
    · rename_i p qs e1 e2
      split at hg
      · rename_i h
        cases hg
        rw [Bool.and_eq_true] at h
        exact op_inD hu pins s σ H x y v u Q I rx ry ⟨p, qs, rdC_dp hm r1 e1, rdC_dp hm r2 e2, h.1, h.2, q H _ (Same.refl _) (by rw [Bool.false_bne]; exact .bl _)⟩
      · cases hg
    · rename_i p qs e1 e2
      split at hg
      · rename_i h
        cases hg
        rw [Bool.and_eq_true] at h
        obtain ⟨as, h1⟩ := Dp.reads I _ _ _ (rdC_dp hm r1 e1) rx
        obtain ⟨bs, h2⟩ := Dp.reads I _ _ _ (rdC_dp hm r2 e2) ry
        exact SeqAt.in_tuple_reads h2 h1 (SeqAt.canLay_of_shaped h.2) (SeqAt.canLay_of_shaped h.1) (PyProof.Rows.room_in_shaped h.1 hu) ⟨.bl _, H, I, rfl, q H _ (Same.refl _) (by rw [Bool.false_bne]; exact .bl _)⟩
      · cases hg
    · cases hg
  · cases hg
theorem op_gNotIn (hu : X.A.units + 65 < cLine) : OpR X (compareOp .NotIn) (rB2 X.K (pu (gIn true))) := opP fun pins s σ H x y v u Q α mem d e z I rx ry hm r1 r2 hg q => by
  unfold gIn at hg
  split at hg
  · rename_i a b h
    cases h
    cases hg
    cases r1
    cases r2
    exact op_notin_str pins s σ H _ _ v u Q I rx ry ⟨_, _, rfl, rfl, q H _ (Same.refl _) (by rw [Bool.true_bne, Bool.not_not]; exact .bl _)⟩
  · rename_i h
    cases h
    split at hg
    · rename_i p qs e1 e2
      split at hg
      · rename_i h
        cases hg
        rw [Bool.and_eq_true] at h
        exact op_notInD hu pins s σ H x y v u Q I rx ry ⟨p, qs, rdC_dp hm r1 e1, rdC_dp hm r2 e2, h.1, h.2, q H _ (Same.refl _) (by rw [Bool.true_bne]; exact .bl _)⟩
      · cases hg
    · rename_i p qs e1 e2
      split at hg
      · rename_i h
        cases hg
        rw [Bool.and_eq_true] at h
        obtain ⟨as, h1⟩ := Dp.reads I _ _ _ (rdC_dp hm r1 e1) rx
        obtain ⟨bs, h2⟩ := Dp.reads I _ _ _ (rdC_dp hm r2 e2) ry
        exact SeqAt.notIn_tuple_reads h2 h1 (SeqAt.canLay_of_shaped h.2) (SeqAt.canLay_of_shaped h.1) (PyProof.Rows.room_in_shaped h.1 hu) ⟨.bl _, H, I, rfl, q H _ (Same.refl _) (by rw [Bool.true_bne]; exact .bl _)⟩
      · cases hg
    · cases hg
  · cases hg
/-! tuple(x), list(x) -/
theorem seqOf_at {K : PySem.W.Frag} {α : Ad} {H : Hp} {mem : Mem} {d : D} {v : V} {ds : List D} (hm : MemRep K α H mem) (r : Rep K α H d v) (h : seqOf mem d = some ds) : ∃ a xs, v = .ref a ∧ (SqL K H a xs ∨ (SqT K H a xs ∧ ∃ es, d = .tup es)) ∧ RepL K α H ds xs := by
  cases d with
  | tup es => cases h; obtain ⟨a, xs, rfl, h1, h2⟩ := r.seqT; exact ⟨a, xs, rfl, .inr ⟨h1, _, rfl⟩, h2⟩
  | lst es => cases h; obtain ⟨a, xs, rfl, h1, h2⟩ := r.seqL; exact ⟨a, xs, rfl, .inl h1, h2⟩
  | scr es => cases h; obtain ⟨a, xs, rfl, h1, h2⟩ := r.seqS; exact ⟨a, xs, rfl, .inl h1, h2⟩
  | ref n =>
    obtain ⟨a, rfl, ha⟩ := r.ref_
    obtain ⟨c, hc, hc'⟩ := hm.at_ ha
    unfold seqOf at h
    simp only [hc] at h
    cases c with
    | lst es =>
      cases h
      obtain ⟨xs, hx, hl⟩ := hc'
      exact ⟨a, xs, rfl, .inl (SqL.of hx), hl⟩
    | dic _ => cases h
    | tab _ _ => cases h
  | _ => cases h
def gTuple : OpP := fun mem ds => match ds with
  | [x] => (seqOf mem x).map .tup
  | _ => none
theorem call_gTuple : CallR X (.type "tuple") (rB X.K (pu gTuple)) := callP fun pins s σ H xs us Q α mem ds z I rv hm hr hg q => by
  unfold gTuple at hg
  split at hg
  · rename_i x
    obtain ⟨es, he, rfl⟩ := Option.map_eq_some_iff.mp hg
    cases hr with
    | cons r1 hr =>
      cases hr
      cases x with
      | tup ts =>
        cases he
        obtain ⟨a, ys, rfl, hs, hl⟩ := r1.seqT
        exact call_tuple_of pins s σ H _ us Q I rv ⟨a, ys, rfl, .inr ⟨hs, q H _ (Same.refl _) r1⟩⟩
      | _ =>
        obtain ⟨a, ys, rfl, hs, hl⟩ := seqOf_at hm r1 he
        rcases hs with hs | hs
        · exact call_tuple_of pins s σ H _ us Q I rv ⟨a, ys, rfl, .inl ⟨hs, fun p np => q _ _ (same_new np) (.tup (hm.fresh np) (.inl upd_same) (hl.mono (Lt.same (same_new np)).toLk))⟩⟩
        · obtain ⟨_, _, hh⟩ := hs
          cases hh
  · cases hg
def gList : OpP := fun mem ds => match ds with
  | [x] => (seqOf mem x).map .lst
  | _ => none
theorem call_gList : CallR X (.type "list") (rB X.K (pu gList)) := callP fun pins s σ H xs us Q α mem ds z I rv hm hr hg q => by
  unfold gList at hg
  split at hg
  · rename_i x
    obtain ⟨es, he, rfl⟩ := Option.map_eq_some_iff.mp hg
    cases hr with
    | cons r1 hr =>
      cases hr
      obtain ⟨a, ys, rfl, hs, hl⟩ := seqOf_at hm r1 he
      exact call_list_of pins s σ H _ us Q I rv ⟨a, ys, rfl, hs.imp id And.left, fun p np => q _ _ (same_new np) (.lst (hm.fresh np) upd_same (hl.mono (Lt.same (same_new np)).toLk))⟩
  · cases hg
/-! x[lo:hi] -/
def cutD (xs : List D) (lo hi : Option Int) : List D := (xs.drop (HT.sIx xs.length 0 lo)).take (HT.sIx xs.length xs.length hi - HT.sIx xs.length 0 lo)
theorem RepL.cutted {K : PySem.W.Frag} {α : Ad} {H : Hp} {ds : List D} {xs : List V} (h : RepL K α H ds xs) (lo hi : Option Int) : RepL K α H (cutD ds lo hi) (cutV xs lo hi) := by
  unfold cutD cutV
  rw [h.length]
  exact (h.drop _).take _
theorem cutD_whole {ds : List D} {lo hi : Option Int} (h : HT.sIx ds.length 0 lo = 0 ∧ HT.sIx ds.length ds.length hi = ds.length) : cutD ds lo hi = ds := by
  unfold cutD
  rw [h.1, h.2]
  simp
def gSl (lo hi : Option Int) : OpD := pu fun mem ds => match ds with
  | [.str z] => if z.length ≤ 1000000 then some (.str (cutS z lo hi)) else none
  | [.tup es] => some (.tup (cutD es lo hi))
  | [x] => (listOf mem x).map fun es => .lst (cutD es lo hi)
  | _ => none
theorem sl_g : SlR X (fun x l u H Q => rB X.K (gSl l u) [x] H Q) := by
  intro pins s σ H x v vl vu lo hi sl Q I rx hs pl pu_ ⟨α, mem, ds, z, mem', hm, hr, hg, q⟩
  cases hr with
  | @cons d _ _ _ r1 hr =>
    cases hr
    unfold gSl pu at hg
    dsimp only at hg
    have done : ∀ es, listOf mem d = some es → z = .lst (cutD es lo hi) → mem' = mem → ∃ T id, typeLookup (.type T) "__getitem__" = pure (some (.builtin id)) ∧ s.TypeIs v T ∧ wpAny (model X.prog X.w) X.A (getItem v (.ref sl)) (EP X pins σ Q) X.xe s := fun es he hz hm' => by
      subst hz hm'
      obtain ⟨a, xs, rfl, ha, hl⟩ := listOf_at hm r1 he
      exact sl_list pins s σ H _ v vl vu lo hi sl Q I rx hs pl pu_ ⟨a, xs, rfl, SqL.of ha, fun p np => q α _ _ (Lt.same (same_new np)) (hm.same (same_new np)) (.lst (hm.fresh np) upd_same ((hl.cutted lo hi).mono (Lt.same (same_new np)).toLk))⟩
    cases d with
    | str y =>
      have hg : Option.map (fun d => (d, mem)) (if y.length ≤ 1000000 then some (D.str (cutS y lo hi)) else none) = some (z, mem') := hg
      by_cases hz : y.length ≤ 1000000
      · rw [if_pos hz] at hg
        cases hg
        cases r1
        exact sl_str pins s σ H _ v vl vu lo hi sl Q I rx hs pl pu_ ⟨y, rfl, small_of hz, q α H _ (Lt.refl _ _) hm (.str _)⟩
      · rw [if_neg hz] at hg
        cases hg
    | tup es =>
      cases hg
      obtain ⟨a, xs, rfl, hx, hl⟩ := id r1.seqT
      refine sl_tupA pins s σ H _ v vl vu lo hi sl Q I rx hs pl pu_ ⟨a, xs, rfl, hx, fun hw => ?_, fun _ p np => ?_⟩
      · rw [← hl.length] at hw
        exact q α H _ (Lt.refl _ _) hm (by rw [cutD_whole hw]; exact r1)
      · exact q α _ _ (Lt.same (same_new np)) (hm.same (same_new np)) (.tup (hm.fresh np) (.inl upd_same) ((hl.cutted lo hi).mono (Lt.same (same_new np)).toLk))
    | lst es => cases hg; exact done es rfl rfl rfl
    | ref n =>
      have hg : Option.map (fun d => (d, mem)) ((listOf mem (.ref n)).map fun es => .lst (cutD es lo hi)) = some (z, mem') := hg
      cases e : listOf mem (.ref n) with
      | none => rw [e] at hg; cases hg
      | some es => rw [e] at hg; cases hg; exact done es e rfl rfl
    | _ => cases hg
end
end Mx

/-! M17: list methods on cells, raise of message classes, all, any. -/
namespace Mx
open PySem L2
section
variable {X : Cx} {W : WX} {pos : Pos}
theorem cell_at {K : PySem.W.Frag} {α : Ad} {H : Hp} {mem : Mem} {n : Nat} {v : V} {ds : List D} (hm : MemRep K α H mem) (r : Rep K α H (.ref n) v) (h : mem[n]? = some (.lst ds)) : ∃ a xs, v = .ref a ∧ α.cells[n]? = some a ∧ H a = some (.lst xs) ∧ RepL K α H ds xs := by
  obtain ⟨a, rfl, ha⟩ := r.ref_
  obtain ⟨c, hc, hc'⟩ := hm.at_ ha
  rw [h] at hc
  cases hc
  obtain ⟨xs, hx, hl⟩ := hc'
  exact ⟨a, xs, rfl, ha, hx, hl⟩
/-- a cell's list is written -/
theorem cell_put {K : PySem.W.Frag} {α : Ad} {H : Hp} {mem : Mem} {n : Nat} {a : Addr} {es : List D} {ys : List V} (hm : MemRep K α H mem) (ha : α.cells[n]? = some a) (hl : RepL K α H es ys) :
    Lt α H α (upd H a (.lst ys)) ∧ MemRep K α (upd H a (.lst ys)) (mem.set n (.lst es)) :=
  let lw : Lt α H α (upd H a (.lst ys)) := Lt.write (List.mem_of_getElem? ha)
  ⟨lw, hm.write ha ⟨_, upd_same, hl.mono lw.toLk⟩⟩
def gApp : OpD := fun mem ds => match ds with
  | [.ref n, v] => match mem[n]? with
    | some (.lst es) => if es.length ≤ 1000000 then some (.non, mem.set n (.lst (es ++ [v]))) else none
    | _ => none
  | _ => none
theorem mt_gApp : MtR X "list.append" (fun x xs H Q => rB X.K gApp (x :: xs) H Q) := by
  intro pins s σ H x xs v us Q I rx rxs ⟨α, mem, ds, z, mem', hm, hr, hg, q⟩
  unfold gApp at hg
  split at hg
  · rename_i n y
    split at hg
    · rename_i es he
      split at hg
      · rename_i hz
        cases hg
        cases hr with
        | cons r1 hr =>
          cases hr with
          | cons r2 hr =>
            cases hr
            obtain ⟨a, ys, rfl, ha, hx, hl⟩ := cell_at hm r1 he
            obtain ⟨lw, hm'⟩ := cell_put hm ha (hl.snoc r2)
            have sz : ys.length < sizeLine := by
              rw [← hl.length]
              exact Nat.lt_of_le_of_lt hz (by decide)
            exact mt_append pins s σ H _ _ v us Q I rx rxs ⟨a, ys, _, rfl, rfl, hx, sz, q α _ _ lw hm' .non⟩
      · cases hg
    · cases hg
  · cases hg
def gExt : OpD := fun mem ds => match ds with
  | [.ref n, y] => match mem[n]?, listOf mem y with
    | some (.lst es), some fs => if es.length + fs.length ≤ 1000000 then some (.non, mem.set n (.lst (es ++ fs))) else none
    | _, _ => none
  | _ => none
theorem mt_gExt : MtR X "list.extend" (fun x xs H Q => rB X.K gExt (x :: xs) H Q) := by
  intro pins s σ H x xs v us Q I rx rxs ⟨α, mem, ds, z, mem', hm, hr, hg, q⟩
  unfold gExt at hg
  split at hg
  · rename_i n y
    split at hg
    · rename_i es fs he hf
      split at hg
      · rename_i hz
        cases hg
        cases hr with
        | cons r1 hr =>
          cases hr with
          | cons r2 hr =>
            cases hr
            obtain ⟨a, ys, rfl, ha, hx, hl⟩ := cell_at hm r1 he
            obtain ⟨b, zs, rfl, hb, hl2⟩ := listOf_at hm r2 hf
            obtain ⟨lw, hm'⟩ := cell_put hm ha (hl.append hl2)
            exact mt_extend pins s σ H _ _ v us Q I rx rxs ⟨a, b, ys, zs, rfl, rfl, hx, hb, by rw [← hl.length, ← hl2.length]; exact small_of hz, q α _ _ lw hm' .non⟩
      · cases hg
    · cases hg
  · cases hg
def gPop : OpD := fun mem ds => match ds with
  | [.ref n] => match mem[n]? with
    | some (.lst es) => match es.getLast? with
      | some y => some (y, mem.set n (.lst es.dropLast))
      | none => none
    | _ => none
  | _ => none
theorem RepL.front {K : PySem.W.Frag} {α : Ad} {H : Hp} {ds : List D} {xs : List V} (h : RepL K α H ds xs) : RepL K α H ds.dropLast xs.dropLast := by
  rw [List.dropLast_eq_take, List.dropLast_eq_take, h.length]
  exact h.take _
theorem mt_gPop : MtR X "list.pop" (fun x xs H Q => rB X.K gPop (x :: xs) H Q) := by
  intro pins s σ H x xs v us Q I rx rxs ⟨α, mem, ds, z, mem', hm, hr, hg, q⟩
  unfold gPop at hg
  split at hg
  · rename_i n
    split at hg
    · rename_i es he
      split at hg
      · rename_i y hy
        cases hg
        cases hr with
        | cons r1 hr =>
          cases hr
          obtain ⟨a, ys, rfl, ha, hx, hl⟩ := cell_at hm r1 he
          obtain ⟨lw, hm'⟩ := cell_put hm ha hl.front
          rw [List.getLast?_eq_getElem?] at hy
          obtain ⟨w, hw, rw'⟩ := hl.get hy
          rw [hl.length] at hw
          exact mt_pop pins s σ H _ _ v us Q I rx rxs ⟨a, ys, w, rfl, rfl, hx, hw, q α _ _ lw hm' (rw'.mono lw.toLk)⟩
      · cases hg
    · cases hg
  · cases hg
variable {o e : Expr} {es : List Expr} {mo : E1} {ml : EL} {apos : Pos}
theorem me_append (ho : ME X W o mo) (ha : ML X W [e] ml) (hbase : attributeBase o "append" X.env (eval o X.env) = eval o X.env := by rfl)
    (hfew : ((backTo pos (starEach [e] X.env)).all (fun x => !x.1) && (backToKw pos (keywordEach [] X.env)).all (fun x => x.1.isSome) && decide ([e].length + ([] : List Keyword).length + (if ([] : List Keyword).isEmpty then 0 else 1) < 30)) = true := by rfl)
    (hline : (apos.endLine == pos.line) = true := by rfl) (hs : starEach [e] X.env = (false, eval e X.env) :: starEach [] X.env := by rfl) (hplain : (backTo pos (starEach [] X.env)).any (·.1) = false := by rfl) : ME X W (.Call (.Attribute o "append" apos) [e] [] pos) (eM tyL gApp mo ml) :=
  me_bm ty_list (pe_bm F.plainAttrs_list F.slot_list_append F.type_list_append mt_gApp ho.pe ha.pa hbase hfew hline hs hplain)
theorem me_extend (ho : ME X W o mo) (ha : ML X W [e] ml) (hbase : attributeBase o "extend" X.env (eval o X.env) = eval o X.env := by rfl)
    (hfew : ((backTo pos (starEach [e] X.env)).all (fun x => !x.1) && (backToKw pos (keywordEach [] X.env)).all (fun x => x.1.isSome) && decide ([e].length + ([] : List Keyword).length + (if ([] : List Keyword).isEmpty then 0 else 1) < 30)) = true := by rfl)
    (hline : (apos.endLine == pos.line) = true := by rfl) (hs : starEach [e] X.env = (false, eval e X.env) :: starEach [] X.env := by rfl) (hplain : (backTo pos (starEach [] X.env)).any (·.1) = false := by rfl) : ME X W (.Call (.Attribute o "extend" apos) [e] [] pos) (eM tyL gExt mo ml) :=
  me_bm ty_list (pe_bm F.plainAttrs_list F.slot_list_extend F.type_list_extend mt_gExt ho.pe ha.pa hbase hfew hline hs hplain)
theorem me_pop (ho : ME X W o mo) (hbase : attributeBase o "pop" X.env (eval o X.env) = eval o X.env := by rfl) (hline : (apos.endLine == pos.line) = true := by rfl) : ME X W (.Call (.Attribute o "pop" apos) [] [] pos) (eM0 tyL gPop mo) :=
  me_bm0 ty_list (pe_bm0 F.plainAttrs_list F.slot_list_pop F.type_list_pop mt_gPop ho.pe hbase hline)
/-! raise C(e), C a class that keeps a message -/
def sRaise0 (C : Addr) (a : E1) : S1 := fun loc mem => (a loc mem).thenS loc fun _ m => .ex ⟨.ref C, none⟩ loc m
theorem ms_raise0 {C : Addr} {bmB : List Value} {B newId initId : String} {x : Str} {a : Expr} {ma : E1} {p p2 : Pos} (F : ExcBaseFacts B newId initId bmB) (qx : PySem.W.excIn X.K C bmB newId = true) (gC : X.mg x = some (.ref C)) (kC : PySem.W.keepIn X.K (.ref C) = true)
    (exC : PySem.W.subIn X.K (.ref C) (.type "BaseException") = some true) (tyC : PySem.W.typeIn X.K (.ref C) = some (.type "type")) (tk : Tk X W) (ha : ME X W a ma) (hg : Gl X x) (hc : X.calm = true := by rfl)
    (hs : starEach [a] X.env = (false, eval a X.env) :: starEach [] X.env := by rfl) (hdb : (x == ("__debug__" : Str)) = false := by decide) :
    MS X W (.Raise (some (.Call (.Name x p) [a] [] pos)) none p2) (sRaise0 C ma) := ⟨PS.imp (ps_raise hc tk.tk (SkE.pmk_own1 F qx gC kC (raises_own exC tyC) hg ha.pe hs hdb)) fun Z σ H ⟨α, loc, mem, hm, hl, hp⟩ =>
  tG_goS hm hl hp fun α1 H1 m1 d v l1 hm1 hl1 hr1 hp1 => hp1 α1 H1 σ _ _ (Lt.refl _ _) hm1 hl1 ⟨rfl, rfl⟩⟩
/-! all, any of a list of truth values -/
def blsOf : List D → Option (List Bool)
  | [] => some []
  | .bl b :: ds => (blsOf ds).map (b :: ·)
  | _ => none
def gAll : OpP := fun mem ds => match ds with
  | [x] => match seqOf mem x with
    | some es => (blsOf es).map fun bs => .bl (bs.all id)
    | none => none
  | _ => none
theorem bls_reads {K : PySem.W.Frag} {α : Ad} {H : Hp} {h : Heap} : ∀ {es : List D} {xs : List V} {us : List Value} {bs : List Bool}, RepL K α H es xs → blsOf es = some bs → Vals xs us → ReadsAll h us (bs.map .bool) []
  | [], _, _, _, .nil, e, rv => by cases e; cases rv; exact .nil
  | .bl b :: es, _, _, _, .cons r rs, e, rv => by
    rw [blsOf] at e
    obtain ⟨cs, hc, rfl⟩ := Option.map_eq_some_iff.mp e
    cases r
    cases rv with
    | cons r1 rv =>
      cases r1
      exact .cons (as := []) (bs := []) (.bool b) (bls_reads rs hc rv)
theorem call_gAll (hc : X.A.handled = none) : CallR X (.builtin "all") (rB X.K (pu gAll)) := callP fun pins s σ H xs us Q α mem ds z I rv hm hr hg q => by
  unfold gAll at hg
  split at hg
  · rename_i x
    split at hg
    · rename_i es he
      obtain ⟨bs, hb, rfl⟩ := Option.map_eq_some_iff.mp hg
      cases hr with
      | cons r1 hr =>
        cases hr
        obtain ⟨u, rfl, ru⟩ := vals1 rv
        obtain ⟨a, ys, rfl, hs, hl⟩ := seqOf_at hm r1 he
        cases ru
        have tr : (bs.map PyData.bool).all PyData.truthy = bs.all id := by
          rw [List.all_map]
          rfl
        have pl : PyData.plainAll (bs.map .bool) = true := by
          clear hb hg q tr
          induction bs with
          | nil => rfl
          | cons b bs ih => simp [PyData.plainAll, PyData.plain, ih]
        have ft : ∀ x ∈ bs.map PyData.bool, x.fits63 := fun x hx => by
          obtain ⟨b, _, rfl⟩ := List.mem_map.mp hx
          exact trivial
        rcases hs with hs | ⟨hs, _⟩
        · obtain ⟨its, rvv, ⟨o, n, ho, hcl, _, hd⟩, _⟩ := I.list hs
          exact PySem.W.all_list_data hc ⟨o, ho, hcl, n, hd⟩ (bls_reads hl hb rvv) pl ft fun h' tk kp => ⟨.bl _, H, I.kept (t' := tk) kp, rfl, by rw [tr]; exact q H _ (Same.refl _) (.bl _)⟩
        · obtain ⟨its, rvv, ⟨o, ho, hcl, n, hd⟩, _⟩ := I.tuple hs
          exact PySem.W.all_tuple_data hc ⟨o, ho, hcl, n, hd⟩ (bls_reads hl hb rvv) pl ft fun h' tk kp => ⟨.bl _, H, I.kept (t' := tk) kp, rfl, by rw [tr]; exact q H _ (Same.refl _) (.bl _)⟩
    · cases hg
  · cases hg
end
end Mx

/-! M18: zip of two tuples, of two lists. -/
namespace Mx
open PySem L2
def zipD : List D → List D → List D
  | a :: as, b :: bs => .tup [a, b] :: zipD as bs
  | _, _ => []
theorem zipD_len : ∀ as bs : List D, (zipD as bs).length = min as.length bs.length
  | [], _ => by simp [zipD]
  | _ :: _, [] => by simp [zipD]
  | a :: as, b :: bs => by
    simp only [zipD, List.length_cons, zipD_len as bs]
    omega
theorem zipD_get : ∀ (as bs : List D) (i : Nat) (d : D), (zipD as bs)[i]? = some d → ∃ x y, as[i]? = some x ∧ bs[i]? = some y ∧ d = .tup [x, y]
  | [], _, i, d, h => by simp [zipD] at h
  | _ :: _, [], i, d, h => by simp [zipD] at h
  | a :: as, b :: bs, 0, d, h => by
    simp only [zipD, List.getElem?_cons_zero, Option.some.injEq] at h
    exact ⟨a, b, rfl, rfl, h.symm⟩
  | a :: as, b :: bs, i + 1, d, h => by
    simp only [zipD, List.getElem?_cons_succ] at h
    obtain ⟨x, y, h1, h2, h3⟩ := zipD_get as bs i d h
    exact ⟨x, y, by simpa using h1, by simpa using h2, h3⟩
def wkZip : List D → Option Wk
  | [.lst as, .lst bs] => if as.length ≤ 1000000 then some { items := zipD as bs } else none
  | [.tup as, .tup bs] => if as.length ≤ 1000000 then some { items := zipD as bs } else none
  | _ => none
def wZip (a : EL) : EW := fun loc mem => (a loc mem).bind fun ds m => ofW (wkZip ds) m
section
variable {X : Cx} {W : WX} {pos : Pos}
theorem rw_zipT {K : PySem.W.Frag} {α : Ad} {H : Hp} {a b : Addr} {as bs : List D} (hz : as.length ≤ 1000000) (ra : Rep K α H (.tup as) (.ref a)) (rb : Rep K α H (.tup bs) (.ref b)) : RW K α H { items := zipD as bs } (RZ.ItzT K a b) := by
  have ask : ∀ α' H', Lk α H α' H' → ∃ xs ys, SqT K H' a xs ∧ SqT K H' b ys ∧ RepL K α' H' as xs ∧ RepL K α' H' bs ys := fun α' H' lk => by
    obtain ⟨_, xs, e1, h1, l1⟩ := (ra.mono lk).seqT
    obtain ⟨_, ys, e2, h2, l2⟩ := (rb.mono lk).seqT
    cases e1
    cases e2
    exact ⟨xs, ys, h1, h2, l1, l2⟩
  refine ⟨by rw [zipD_len]; exact small_of (Nat.le_trans (Nat.min_le_left _ _) hz), fun α' H' mem' i d lk hm _ e => ?_, fun α' H' mem' i lk hm _ e => ?_⟩
  · obtain ⟨xs, ys, h1, h2, l1, l2⟩ := ask α' H' lk
    obtain ⟨x, y, ex, ey, rfl⟩ := zipD_get _ _ _ _ e
    obtain ⟨vx, hx, rx⟩ := l1.get ex
    obtain ⟨vy, hy, ry⟩ := l2.get ey
    refine ⟨⟨xs, ys, vx, vy, h1, h2, hx, hy⟩, fun v H'' ⟨T, x', y', e1, e2, e3, e4, e5⟩ => ?_⟩
    subst e1 e3
    have q1 := e4 xs h1
    have q2 := e5 ys h2
    rw [hx] at q1
    rw [hy] at q2
    cases q1
    cases q2
    exact pair_new hm e2 rx ry
  · obtain ⟨xs, ys, h1, h2, l1, l2⟩ := ask α' H' lk
    dsimp only at e
    rw [zipD_len] at e
    refine ⟨xs, ys, h1, h2, ?_⟩
    rw [← l1.length, ← l2.length]
    omega
theorem rw_zipL {K : PySem.W.Frag} {α : Ad} {H : Hp} {a b : Addr} {as bs : List D} (hz : as.length ≤ 1000000) (ra : Rep K α H (.lst as) (.ref a)) (rb : Rep K α H (.lst bs) (.ref b)) : RW K α H { items := zipD as bs } (Itz K a b) := by
  have ask : ∀ α' H', Lk α H α' H' → ∃ xs ys, SqL K H' a xs ∧ SqL K H' b ys ∧ RepL K α' H' as xs ∧ RepL K α' H' bs ys := fun α' H' lk => by
    obtain ⟨_, xs, e1, h1, l1⟩ := (ra.mono lk).seqL
    obtain ⟨_, ys, e2, h2, l2⟩ := (rb.mono lk).seqL
    cases e1
    cases e2
    exact ⟨xs, ys, h1, h2, l1, l2⟩
  refine ⟨by rw [zipD_len]; exact small_of (Nat.le_trans (Nat.min_le_left _ _) hz), fun α' H' mem' i d lk hm _ e => ?_, fun α' H' mem' i lk hm _ e => ?_⟩
  · obtain ⟨xs, ys, h1, h2, l1, l2⟩ := ask α' H' lk
    obtain ⟨x, y, ex, ey, rfl⟩ := zipD_get _ _ _ _ e
    obtain ⟨vx, hx, rx⟩ := l1.get ex
    obtain ⟨vy, hy, ry⟩ := l2.get ey
    refine ⟨⟨xs, ys, vx, vy, h1, h2, hx, hy⟩, fun v H'' ⟨T, x', y', e1, e2, e3, e4, e5⟩ => ?_⟩
    subst e1 e3
    have q1 := e4 xs h1
    have q2 := e5 ys h2
    rw [hx] at q1
    rw [hy] at q2
    cases q1
    cases q2
    exact pair_new hm e2 rx ry
  · obtain ⟨xs, ys, h1, h2, l1, l2⟩ := ask α' H' lk
    dsimp only at e
    rw [zipD_len] at e
    refine ⟨xs, ys, h1, h2, ?_⟩
    rw [← l1.length, ← l2.length]
    omega
theorem mi_zip {elts : List Expr} {kk : Nat} {tpos : Pos} {a b : Expr} {p : Pos} {ml : EL} (h : ML X W [a, b] ml) (hg : Gl X "zip") (hmg : X.mg "zip" = none)
    (hs : starEach [a, b] X.env = (false, eval a X.env) :: starEach [b] X.env := by rfl) (hpl : (backTo pos (starEach [b] X.env)).any (·.1) = false := by rfl) : MI X W (.Tuple elts kk tpos) (.Call (.Name "zip" p) [a, b] [] pos) (wZip ml) :=
  ⟨PI.imp (RZ.pi_zipA hg hmg h.pa hs hpl) fun σ H R ⟨α, loc, mem, hm, hl, hp⟩ => tG_go hm hl hp fun α1 H1 m1 ds xs l1 hm1 hl1 hr1 hp1 => by
    cases e : wkZip ds with
    | none => rw [e] at hp1; exact hp1.elim
    | some wk =>
      rw [e] at hp1
      unfold wkZip at e
      split at e
      · rename_i as bs
        split at e
        · rename_i hz
          cases e
          cases hr1 with
          | cons r1 hr1 =>
            cases hr1 with
            | cons r2 hr1 =>
              cases hr1
              obtain ⟨x, xs, rfl, h1, _⟩ := r1.seqL
              obtain ⟨y, ys, rfl, h2, _⟩ := r2.seqL
              exact ⟨x, y, xs, ys, rfl, .inl ⟨h1, h2, hp1 α1 H1 _ (Lt.refl _ _) hm1 (rw_zipL hz r1 r2)⟩⟩
        · cases e
      · rename_i as bs
        split at e
        · rename_i hz
          cases e
          cases hr1 with
          | cons r1 hr1 =>
            cases hr1 with
            | cons r2 hr1 =>
              cases hr1
              obtain ⟨x, xs, rfl, h1, _⟩ := r1.seqT
              obtain ⟨y, ys, rfl, h2, _⟩ := r2.seqT
              exact ⟨x, y, xs, ys, rfl, .inr ⟨h1, h2, hp1 α1 H1 _ (Lt.refl _ _) hm1 (rw_zipT hz r1 r2)⟩⟩
        · cases e
      · cases e⟩
end
end Mx

/-! M19: repr of anything, is True/False. -/
namespace Mx
open PySem L2
section
variable {X : Cx} {W : WX} {pos : Pos}
/-- one rule or the other -/
def orG (g g' : OpP) : OpP := fun mem ds => match g mem ds with
  | some z => some z
  | none => g' mem ds
theorem orG_pu {g g' : OpP} {mem mem' : Mem} {ds : List D} {z : D} (h : pu (orG g g') mem ds = some (z, mem')) : pu g mem ds = some (z, mem') ∨ pu g' mem ds = some (z, mem') := by
  unfold pu orG at h
  unfold pu
  cases e : g mem ds with
  | none => rw [e] at h; exact .inr h
  | some y => rw [e] at h; exact .inl h
theorem call_or {f : Value} {g g' : OpP} (h : CallR X f (rB X.K (pu g))) (h' : CallR X f (rB X.K (pu g'))) : CallR X f (rB X.K (pu (orG g g'))) := fun pins s σ H xs us Q I rv ⟨α, mem, ds, z, mem', hm, hr, hg, q⟩ =>
  (orG_pu hg).elim (fun e => h pins s σ H xs us Q I rv ⟨α, mem, ds, z, mem', hm, hr, e, q⟩) fun e => h' pins s σ H xs us Q I rv ⟨α, mem, ds, z, mem', hm, hr, e, q⟩
theorem op_or {f : Value → Value → Sem Value} {g g' : OpP} (h : OpR X f (rB2 X.K (pu g))) (h' : OpR X f (rB2 X.K (pu g'))) : OpR X f (rB2 X.K (pu (orG g g'))) := fun pins s σ H x y v u Q I rx ry ⟨α, mem, ds, z, mem', hm, hr, hg, q⟩ =>
  (orG_pu hg).elim (fun e => h pins s σ H x y v u Q I rx ry ⟨α, mem, ds, z, mem', hm, hr, e, q⟩) fun e => h' pins s σ H x y v u Q I rx ry ⟨α, mem, ds, z, mem', hm, hr, e, q⟩
def gRepS : OpP := fun mem ds => match ds with
  | [.bl b] => some (.str (if b then "True" else "False"))
  | [.non] => some (.str "None")
  | [.int i] => if i.natAbs.log2 < 1920 then some (.str (toString i)) else none
  | [.str x] => if (reprText x).length ≤ 1000000 then some (.str (reprText x)) else none
  | _ => none
theorem call_gRepS : CallR X (.builtin "repr") (rB X.K (pu gRepS)) := callP fun pins s σ H xs us Q α mem ds z I rv hm hr hg q => by
  unfold gRepS at hg
  split at hg
  · cases hg
    cases hr with
    | cons r1 hr =>
      cases hr
      cases r1
      obtain ⟨u, rfl, ru⟩ := vals1 rv
      cases ru
      exact PySem.P.repr_of_bool ⟨.str _, H, I.tok _, ⟨_, rfl⟩, q H _ (Same.refl _) (.str _)⟩
  · cases hg
    cases hr with
    | cons r1 hr =>
      cases hr
      cases r1
      obtain ⟨u, rfl, ru⟩ := vals1 rv
      cases ru
      exact PySem.P.repr_of_none ⟨.str _, H, I.tok _, ⟨_, rfl⟩, q H _ (Same.refl _) (.str _)⟩
  · split at hg
    · rename_i hz
      cases hg
      cases hr with
      | cons r1 hr =>
        cases hr
        cases r1
        obtain ⟨u, rfl, ru⟩ := vals1 rv
        obtain ⟨t, rfl⟩ := ru
        exact PySem.P.repr_of_int hz ⟨.str _, H, I.tok _, ⟨_, rfl⟩, q H _ (Same.refl _) (.str _)⟩
    · cases hg
  · split at hg
    · rename_i hz
      cases hg
      cases hr with
      | cons r1 hr =>
        cases hr
        cases r1
        obtain ⟨u, rfl, ru⟩ := vals1 rv
        obtain ⟨t, rfl⟩ := ru
        exact PySem.P.repr_of_str ⟨.str _, H, I.tok _, ⟨_, rfl⟩, q H _ (Same.refl _) (.str _)⟩ (small_of hz)
    · cases hg
  · cases hg
def gRep : OpP := orG gRepS gRepr
theorem call_gRep {k : Nat} (rm : Rm k X.A) (sd : ∀ pins σ H s, L2.Inv X pins σ H s → SysD s.heap) : CallR X (.builtin "repr") (rB X.K (pu gRep)) := call_or call_gRepS (call_gRepr rm sd)
/-! is -/
def gIsB (neg : Bool) : OpP := fun _ ds => match ds with
  | [.bl a, .bl b] => some (.bl (neg != decide (a = b)))
  | _ => none
theorem op_gIsB : OpR X (compareOp .Is) (rB2 X.K (pu (gIsB false))) := opP fun pins s σ H x y v u Q α mem d e z I rx ry hm r1 r2 hg q => by
  unfold gIsB at hg
  split at hg
  · rename_i h
    cases h
    cases hg
    cases r1
    cases r2
    exact op_isBl pins s σ H _ _ v u Q I rx ry ⟨_, _, rfl, rfl, q H _ (Same.refl _) (by rw [Bool.false_bne]; exact .bl _)⟩
  · cases hg
theorem op_gIsNotB : OpR X (compareOp .IsNot) (rB2 X.K (pu (gIsB true))) := opP fun pins s σ H x y v u Q α mem d e z I rx ry hm r1 r2 hg q => by
  unfold gIsB at hg
  split at hg
  · rename_i h
    cases h
    cases hg
    cases r1
    cases r2
    exact op_notBl pins s σ H _ _ v u Q I rx ry ⟨_, _, rfl, rfl, q H _ (Same.refl _) (by rw [Bool.true_bne]; exact .bl _)⟩
  · cases hg
def gIsA (neg : Bool) : OpP := orG (gIsN neg) (gIsB neg)
theorem op_gIsA : OpR X (compareOp .Is) (rB2 X.K (pu (gIsA false))) := op_or op_gIs op_gIsB
theorem op_gIsNotA : OpR X (compareOp .IsNot) (rB2 X.K (pu (gIsA true))) := op_or op_gIsNot op_gIsNotB
end
end Mx

/-! M20: enumerate of a tuple. -/
namespace Mx
open PySem L2 PyProof.Rows
open AutoSeq1 (wpAny_loadPart')
theorem enumT_new (l : Addr) (its : Array Value) : Meets (Builtin.«enumerate.__new__» ⟨[.type "enumerate", .ref l], []⟩) (fun _ R s => s.heap.IsTuple l its ∧
      R (.ok (.ret (.ref (s.heap.push { cls := .type "tuple_iterator", data := .fields #[.ref l, .int 0 0] }).objs.size)))
        { s with heap := (s.heap.push { cls := .type "tuple_iterator", data := .fields #[.ref l, .int 0 0] }).push { cls := .type "enumerate", data := .fields #[.none, .bool false, .ref s.heap.objs.size, rawInt 0, .none, .none] } }) :=
  .of_wp fun prog w A R s h => by
    obtain ⟨hp, g, d, tk, os⟩ := s
    obtain ⟨hT, h⟩ := h
    obtain ⟨o, ho, hc, n, hd⟩ := id hT
    have sub := sub_enumerate
    wp_walk using wpAny_loadPart' ho
    refine wpAny_stack_any fun _ => wpAny_pure ?_
    split
    · rename_i c _ _ _ _ _
      cases (c == Value.type "enumerate")
      · wp_walk using wpAny_loadPart' ho, wpAny_pyIter_tuple hT
        exact ⟨_, rfl, h⟩
      · wp_walk using wpAny_loadPart' ho, wpAny_pyIter_tuple hT
        exact ⟨_, rfl, h⟩
    · wp_walk using wpAny_loadPart' ho, wpAny_pyIter_tuple hT
      exact ⟨_, rfl, h⟩
section
variable {prog : Program} {w : World} {A : Around} {E : Value → Shared → Prop} {s : Shared}
theorem call_enumT {l : Addr} {its : Array Value} {Q : Value → Shared → Prop} (hT : s.heap.IsTuple l its)
    (h : ∀ h', IsEnum h' (s.heap.objs.size + 1) s.heap.objs.size 0 .none → h'.IsTupleIter s.heap.objs.size l 0 → (∀ b o, s.heap.get? b = some o → h'.get? b = some o) → Q (.ref (s.heap.objs.size + 1)) { s with heap := h' }) :
    wpAny (model prog w) A (call (.type "enumerate") [.ref l]) Q E s := by
  refine callType_new F.called_enumerate (by decide) (F.typeCall_enumerate_1 _) (F.newCall_enumerate_1 _) (fun obj => F.args_object_init_2 obj _) F.entry_enumerate_new (enumT_new l its) ⟨hT, ?_⟩
  have hz : (s.heap.push { cls := .type "tuple_iterator", data := .fields #[.ref l, .int 0 0] }).objs.size = s.heap.objs.size + 1 := Heap.size_push ..
  show _ ∧ _
  rw [hz]
  have he : IsEnum ((s.heap.push { cls := .type "tuple_iterator", data := .fields #[.ref l, .int 0 0] }).push { cls := .type "enumerate", data := .fields #[.none, .bool false, .ref s.heap.objs.size, rawInt 0, .none, .none] }) (s.heap.objs.size + 1) s.heap.objs.size 0 .none := by
    have z := Heap.get?_push_size (s.heap.push { cls := .type "tuple_iterator", data := .fields #[.ref l, .int 0 0] }) (o := { cls := .type "enumerate", data := .fields #[.none, .bool false, .ref s.heap.objs.size, rawInt 0, .none, .none] }) rfl
    rw [hz] at z
    exact z
  refine ⟨⟨_, he, rfl⟩, h _ he ⟨_, Heap.get?_push_of_some _ (Heap.get?_push_size _ rfl), rfl, rfl⟩ fun b o y => Heap.get?_push_of_some _ (Heap.get?_push_of_some _ y)⟩
end
/-- the tuple at a, its items in new pairs -/
def IteT (K : PySem.W.Frag) (a : Addr) : It :=
  ⟨fun i H => ∃ xs x, SqT K H a xs ∧ xs[i]? = some x, fun i H v H' => ∃ T x, v = .ref T ∧ H T = none ∧ H' = upd H T (.tup [.int (i : Nat), x]) ∧ ∀ xs, SqT K H a xs → xs[i]? = some x, fun i H => ∃ xs, SqT K H a xs ∧ xs.length ≤ i⟩
theorem draws_over {prog : Program} {w : World} {A : Around} (hh : A.handled = none) {it t : Addr} {its : Array Value} {i : Nat} (hi : its[i]? = none) : Draws prog w A it [it, t] 0 (fun _ _ => True) (fun _ h => h.IsTupleIter it t i ∧ h.IsTuple t its) where
  live := fun _ _ st => let ⟨o, ho, _⟩ := st.1; ⟨o, ho⟩
  frame := fun _ _ _ st hk => ⟨st.1.at fun o e => hk it (by simp) o e, st.2.at fun o e => hk t (by simp) o e⟩
  item := fun j s Q E hj => absurd hj (Nat.not_lt_zero j)
  done := fun s Q E st hE => wpAny_nextOf_tuple_end hh st.1 st.2 hi hE
theorem turn_enumT {P : Program} {w : World} {K : PySem.W.Frag} {elts : List Expr} {kk : Nat} {tpos : Pos} (a e it : Addr) :
    Turn P w K (.Tuple elts kk tpos) (IteT K a) [e, it] e (fun i h => (∃ old, IsEnum h e it ((i : Nat) : Int) old) ∧ h.IsTupleIter it a i ∧ e ≠ it ∧ a ≠ it ∧ e ≠ a) where
  mem := by simp
  obj := fun i h st b hb => by
    obtain ⟨⟨old, he⟩, ⟨o, ho, hc, hd⟩, _⟩ := st
    rcases (show b = e ∨ b = it by simpa using hb) with z | z
    · rw [z]
      exact ⟨_, he, fun v q => nomatch q⟩
    · rw [z]
      exact ⟨o, ho, fun v q => by
        rw [hd] at q
        cases q⟩
  keep := fun i h h' st k => let ⟨⟨old, he⟩, hi, hne⟩ := st; ⟨⟨old, k e (by simp) _ he⟩, hi.at fun o q => k it (by simp) o q, hne⟩
  item := by
    intro X hP hw hK hc i pins s σ H E I hf st hg
    subst hP hw hK
    obtain ⟨⟨old, he⟩, hit, hne, hai, hea⟩ := st
    obtain ⟨xs, x, hq, hx⟩ := hg
    obtain ⟨its, rv, p, hz⟩ := I.tuple hq
    obtain ⟨u, hu, ru⟩ := rv.get hx
    have hel : e < s.heap.objs.size := Heap.lt_size he
    have hil : it < s.heap.objs.size := by
      obtain ⟨_, q, _⟩ := hit
      exact Heap.lt_size q
    have hlt : i < its.toArray.size := by
      rw [List.size_toArray]
      exact (List.getElem?_eq_some_iff.mp hu).1
    refine wpAny_pyNext_enum_itemD (Draws.tuple (A := X.A.in1) (I.ok.hd hc) it a hai its.toArray) he ⟨hit, p⟩ hlt hne (by simp [hne, hea]) fun y h' tk hy ho st' hT hsz hk => ?_
    have ey : y = u := by
      have : its.toArray[i]? = some u := by simpa using hu
      rw [this] at hy
      exact (Option.some.inj hy).symm
    subst ey
    refine ⟨_, rfl, wpAny_letOwnedTupleGo_enum (s := { s with heap := h', toks := tk + 1 }) ho fun h'' he' sb => ?_⟩
    have hT2 : h''.get? s.heap.objs.size = some { cls := .type "tuple", data := .seq #[.int i tk, y] } := (sb.2 _ (Nat.ne_of_gt hel)).trans hT
    have new : ObjOk X.prog X.w (upd H s.heap.objs.size (.tup [.int (i : Nat), x])) h'' s.heap.objs.size (.tup [.int (i : Nat), x]) :=
      ⟨(show 2 ≤ sizeLine by decide), [.int i tk, y], .cons ⟨_, rfl⟩ (.cons ru .nil), ⟨_, hT2, rfl, _, rfl⟩⟩
    have I1 : L2.Inv X pins σ (upd H s.heap.objs.size (.tup [.int (i : Nat), x])) { s with heap := h'', toks := tk + 1 } :=
      I.turnedNew (ch := [e, it]) (fun b ob hb q => (sb.2 b (fun z => hb (by simp [z]))).trans (hk b ob (fun z => hb (by simp [z])) (fun z => hb (by simp [z])) q)) hf (Nat.le_refl _) new
    refine ⟨.ref s.heap.objs.size, _, I1, rfl, ⟨_, x, rfl, I.hok.fresh (Nat.le_refl _), rfl, fun ys hy => by rw [I.tuple_inj hy hq]; exact hx⟩, ⟨⟨y, ?_⟩, st'.1.at fun o q => (sb.2 it (Ne.symm hne)).trans q, hne, hai, hea⟩, fun b hb => ?_⟩
    · have e1 : ((i + 1 : Nat) : Int) = (i : Int) + 1 := by omega
      rw [e1]
      exact he'
    · have hb' : b < s.heap.objs.size := by
        rcases (show b = e ∨ b = it by simpa using hb) with z | z
        · rw [z]
          exact hel
        · rw [z]
          exact hil
      rw [upd_ne (Nat.ne_of_lt hb')]
      exact (hf b hb).1
  done := by
    intro X hP hw hK hc i pins s σ H E I hf st hg
    subst hP hw hK
    obtain ⟨⟨old, he⟩, hit, hne, hai, hea⟩ := st
    obtain ⟨xs, hq, hx⟩ := hg
    obtain ⟨its, rv, p, hz⟩ := I.tuple hq
    obtain ⟨f0, f1, f2, f3, f4, f5⟩ := hf it (by simp)
    have over : its.toArray[i]? = none := by
      have := rv.length
      simp
      omega
    exact wpAny_pyNext_enum_endD (draws_over (A := X.A.in1) (I.ok.hd hc) over) he ⟨hit, p⟩ fun h' eb => ⟨rfl, I.turned (t' := s.toks) (fun b o hb q => eb b o hb q) f0 f1 f3 f4 f5⟩
  self := fun A i s Q E st h => let ⟨⟨_, he⟩, _⟩ := st; wpAny_pyIter_enum he h
section
variable {X : Cx} {W : WX} {pos : Pos}
def iEnumT (K : PySem.W.Frag) (ta : TA) : TI := fun σ H R => ta σ H fun vs H1 => ∃ a xs, vs = [.ref a] ∧ SqT K H1 a xs ∧ (xs.length ≤ sizeLine → R (IteT K a) H1)
theorem pi_enumT {e : Expr} {ta : TA} {p tpos : Pos} {elts : List Expr} {kk : Nat} (hg : Gl X "enumerate") (hm : X.mg "enumerate" = none) (ha : PA X [e] ta) (hs : starEach [e] X.env = [(false, eval e X.env)] := by rfl) :
    PI X (.Tuple elts kk tpos) (.Call (.Name "enumerate" p) [e] [] pos) (iEnumT X.K ta) := by
  refine ⟨fun pins s σ H R I h => ?_⟩
  refine Call_ (ld_blt I hg hm boot_enumerate (PyProof.Rows.callWith_type1 (thn (ha.run pos pins s σ H _ I h) fun us s1 ⟨vs, H1, I1, r1, q1⟩ => ?_) hs rfl))
  obtain ⟨a, xs, rfl, hq, q⟩ := q1
  obtain ⟨u, rfl, ru⟩ := vals1 r1
  cases ru
  obtain ⟨its, rv, p', hz⟩ := I1.tuple hq
  have hal : a < s1.heap.objs.size := by
    obtain ⟨o, ho, _⟩ := p'
    exact Heap.lt_size ho
  refine call_enumT p' fun h' he hit hk => wpAny_pyIter_enum he ?_
  have I2 : L2.Inv X pins σ H1 { s1 with heap := h' } := I1.kept (t' := s1.toks) hk
  refine ⟨s1.heap.objs.size + 1, [s1.heap.objs.size + 1, s1.heap.objs.size], _, _, H1, rfl, I2, turn_enumT a (s1.heap.objs.size + 1) s1.heap.objs.size, ⟨⟨.none, he⟩, hit, Nat.succ_ne_self _, Nat.ne_of_lt hal, (Nat.ne_of_lt (Nat.lt_succ_of_lt hal)).symm⟩, fun b hb => ?_, q hz⟩
  have hle : s1.heap.objs.size ≤ b := by
    rcases (show b = s1.heap.objs.size + 1 ∨ b = s1.heap.objs.size by simpa using hb) with z | z
    · rw [z]
      exact Nat.le_succ _
    · rw [z]
      exact Nat.le_refl _
  exact I1.fpOk hle (I1.hok.fresh hle)
theorem rw_enumT {K : PySem.W.Frag} {α : Ad} {H : Hp} {a : Addr} {ds : List D} (hz : ds.length ≤ sizeLine) (r : Rep K α H (.tup ds) (.ref a)) : RW K α H { items := enumD 0 ds } (IteT K a) := by
  have ask : ∀ α' H', Lk α H α' H' → ∃ xs, SqT K H' a xs ∧ RepL K α' H' ds xs := fun α' H' lk => by
    obtain ⟨_, xs, e1, h1, l1⟩ := (r.mono lk).seqT
    cases e1
    exact ⟨xs, h1, l1⟩
  refine ⟨by rw [enumD_len]; exact hz, fun α' H' mem' i d lk hm hg e => ?_, fun α' H' mem' i lk hm hg e => ?_⟩
  · obtain ⟨ys, hy, hys⟩ := ask α' H' lk
    dsimp only at e
    rw [enumD_get] at e
    cases ed : ds[i]? with
    | none => rw [ed] at e; cases e
    | some d0 =>
      rw [ed] at e
      cases e
      obtain ⟨v, hv, hrv⟩ := hys.get ed
      refine ⟨⟨ys, v, hy, hv⟩, fun x H'' ⟨T, y, e1, e2, e3, e4⟩ => ?_⟩
      subst e1 e3
      have := e4 ys hy
      rw [hv] at this
      cases this
      rw [Nat.zero_add]
      exact pair_new hm e2 (.int _) hrv
  · obtain ⟨ys, hy, hys⟩ := ask α' H' lk
    dsimp only at e
    rw [enumD_len] at e
    exact ⟨ys, hy, by rw [← hys.length]; exact e⟩
def wkEnumT : List D → Option Wk
  | [.tup ds] => some { items := enumD 0 ds }
  | _ => none
def wEnumT (a : EL) : EW := fun loc mem => (a loc mem).bind fun ds m => ofW (wkEnumT ds) m
theorem mi_enumT {elts : List Expr} {kk : Nat} {tpos : Pos} {a : Expr} {p : Pos} {ml : EL} (h : ML X W [a] ml) (hg : Gl X "enumerate") (hmg : X.mg "enumerate" = none) (hs : starEach [a] X.env = [(false, eval a X.env)] := by rfl) :
    MI X W (.Tuple elts kk tpos) (.Call (.Name "enumerate" p) [a] [] pos) (wEnumT ml) :=
  ⟨PI.imp (pi_enumT hg hmg h.pa hs) fun σ H R ⟨α, loc, mem, hm, hl, hp⟩ => tG_go hm hl hp fun α1 H1 m1 ds xs l1 hm1 hl1 hr1 hp1 => by
    cases e : wkEnumT ds with
    | none => rw [e] at hp1; exact hp1.elim
    | some wk =>
      rw [e] at hp1
      unfold wkEnumT at e
      split at e
      · cases e
        cases hr1 with
        | cons r1 hr1 =>
          cases hr1
          obtain ⟨x, ys, rfl, h1, hl1⟩ := r1.seqT
          exact ⟨x, ys, rfl, h1, fun hz => hp1 α1 H1 _ (Lt.refl _ _) hm1 (rw_enumT (by rw [hl1.length]; exact hz) r1)⟩
      · cases e⟩
end
end Mx

/-! M21: one mirror or another of the same text. -/
namespace Mx
open PySem L2
section
variable {X : Cx} {W : WX} {pos : Pos}
def wOr (a b : EW) : EW := fun loc mem => match a loc mem with
  | .bad => b loc mem
  | r => r
theorem mi_or {tg it : Expr} {m m' : EW} (h : MI X W tg it m) (h' : MI X W tg it m') : MI X W tg it (wOr m m') := ⟨⟨fun pins s σ H R I ⟨α, loc, mem, hm, hl, hp⟩ => by
  unfold wOr at hp
  cases e : m loc mem with
  | bad => rw [e] at hp; exact h'.pi.run pins s σ H R I ⟨α, loc, mem, hm, hl, hp⟩
  | ok b m1 => rw [e] at hp; exact h.pi.run pins s σ H R I ⟨α, loc, mem, hm, hl, by rw [e]; exact hp⟩
  | ex b m1 => rw [e] at hp; exact h.pi.run pins s σ H R I ⟨α, loc, mem, hm, hl, by rw [e]; exact hp⟩⟩⟩
def eAlt (a b : E1) : E1 := fun loc mem => match a loc mem with
  | .bad => b loc mem
  | r => r
theorem me_alt {e : Expr} {m m' : E1} (h : ME X W e m) (h' : ME X W e m') : ME X W e (eAlt m m') := ⟨⟨fun pins s σ H R I ⟨α, loc, mem, hm, hl, hp⟩ => by
  unfold eAlt at hp
  cases e : m loc mem with
  | bad => rw [e] at hp; exact h'.pe.run pins s σ H R I ⟨α, loc, mem, hm, hl, hp⟩
  | ok b m1 => rw [e] at hp; exact h.pe.run pins s σ H R I ⟨α, loc, mem, hm, hl, by rw [e]; exact hp⟩
  | ex b m1 => rw [e] at hp; exact h.pe.run pins s σ H R I ⟨α, loc, mem, hm, hl, by rw [e]; exact hp⟩⟩⟩
/-- enumerate of a list, a cell, the script, a tuple -/
def wEnumA (a : EL) : EW := wOr (wEnum a) (wEnumT a)
theorem mi_enumA {elts : List Expr} {kk : Nat} {tpos : Pos} {a : Expr} {p : Pos} {ml : EL} (h : ML X W [a] ml) (hg : Gl X "enumerate") (hmg : X.mg "enumerate" = none) (hs : starEach [a] X.env = [(false, eval a X.env)] := by rfl) :
    MI X W (.Tuple elts kk tpos) (.Call (.Name "enumerate" p) [a] [] pos) (wEnumA ml) := mi_or (mi_enum h hg hmg hs) (mi_enumT h hg hmg hs)
/-- a global name that holds data -/
def GlD (K : PySem.W.Frag) (mg : Str → Option Value) (x : Str) (d : D) : Prop := ∃ v u, mg x = some u ∧ RelV v u ∧ ∀ α H, Rep K α H d v
theorem me_gD {x : Str} {d : D} (hm : GlD X.K X.mg x d) (hg : Gl X x) (hd : (x == ("__debug__" : Str)) = false := by decide) : ME X W (.Name x pos) (eC d) :=
  let ⟨_, _, h1, h2, h3⟩ := hm
  me_c (pe_glob hg h1 h2 hd) h3
theorem gld_int {K : PySem.W.Frag} {mg : Str → Option Value} {x : Str} {i : Int} {t : Tok} (h : mg x = some (.int i t)) : GlD K mg x (.int i) := ⟨.int i, _, h, ⟨t, rfl⟩, fun _ _ => .int i⟩
theorem gld_str {K : PySem.W.Frag} {mg : Str → Option Value} {x z : Str} {t : Tok} (h : mg x = some (.str z t)) : GlD K mg x (.str z) := ⟨.str z, _, h, ⟨t, rfl⟩, fun _ _ => .str z⟩
theorem ms_raisex {st : Stmt} {cn qual fld : Str} {C : Addr} {B newId initId : String} {bm : List Value} {a : Expr} {ml : EL} {p p2 : Pos} {k : Nat} (T : ∃ fI, Xi X.prog X.K X.mg st cn qual fld C fI B newId initId bm) (S : XiT st fld) (nosup : X.mg "super" = none) (rm : Rm k X.A) (tk : Tk X W) (ha : ML X W [a] ml) (hg : Gl X cn) (hc : X.calm = true := by rfl)
    (hdb : (cn == ("__debug__" : Str)) = false := by decide) (he : starEach [a] X.env = (false, eval a X.env) :: starEach [] X.env := by rfl) (hpl : (backTo pos (starEach [] X.env)).any (·.1) = false := by rfl) :
    MS X W (.Raise (some (.Call (.Name cn p) [a] [] pos)) none p2) (sRaise C fld ml) :=
  let ⟨_, t⟩ := T
  ms_raise t S nosup rm tk ha hg hc hdb he hpl
end
end Mx

/-! M22: the hash of nested tuples of ints and texts. -/
namespace Mx
open PySem L2
mutual
/-- what may be a member here: ints, texts, tuples of such -/
def hOk : PyData → Bool
  | .int _ => true
  | .str _ => true
  | .tuple ps => hOkL ps
  | _ => false
def hOkL : List PyData → Bool
  | [] => true
  | p :: ps => hOk p && hOkL ps
end
mutual
def hD (w : World) : PyData → Int
  | .int i => hashInt i
  | .str x => hashStr w x
  | .tuple ps => reduceHash (Builtin.Tuple.tupleHashOf (hDL w ps))
  | _ => 0
def hDL (w : World) : List PyData → List Int
  | [] => []
  | p :: ps => hD w p :: hDL w ps
end
section
variable {prog : Program} {w : World} {E : Value → Shared → Prop}
mutual
theorem hash_data : ∀ (p : PyData) {A : Around} {s : Shared} {v : Value} {as : List Addr} {Q : Int → Shared → Prop}, hOk p = true → A.units + p.depth < cLine → Reads s.heap v p as → (∀ tk, s.toks ≤ tk → Q (hD w p) { s with toks := tk }) → wpAny (model prog w) A (pyHash v) Q E s
  | .int i, A, s, v, as, Q, _, _, r, q => by
    cases r
    rw [hD] at q
    exact wpAny_pyHash_int (q _ (Nat.le_succ _))
  | .str x, A, s, v, as, Q, _, _, r, q => by
    cases r
    rw [hD] at q
    exact wpAny_pyHash_str (q _ (Nat.le_succ _))
  | .tuple ps, A, s, v, as, Q, ok, hu, r, q => by
    cases r with
    | @tuple a o vs n _ _ ho hc hd rs =>
      rw [hOk] at ok
      rw [hD] at q
      have hT : s.TypeIs (.ref a) "tuple" := ⟨o, ho, hc⟩
      have hu0 : A.units < cLine := by omega
      unfold pyHash
      first | unfold pyHashByItsType | skip
      first | refine wpAny_bind (wpAny_cRoomFor_or (.inr hu0) ?_) | skip
      refine wpAny_bind (wpAny_specialOf hT F.slot_tuple_hash.lookup ?_)
      show wpAny _ _ (if (some (Value.builtin "tuple.__hash__") == some Value.none) = true then _ else _) Q E s
      rw [if_neg (by rw [beq_builtin_none]; exact Bool.false_ne_true)]
      refine wpAny_bind (wpAny_specialOf hT F.slot_tuple_hash.lookup ?_)
      show wpAny _ _ (callSpecialIfBoundUnlessNone? (.ref a) "__hash__" _ >>= _) Q E s
      refine wpAny_bind (wpAny_callSpecialIfBoundUnlessNone?_slot hT F.slot_tuple_hash (wpAny_call_entry F.slot_tuple_hash hT F.entry_tuple_hash ?_ (F.args_tuple_hash_1 _)))
      show wpAny _ _ (Builtin.Tuple.tupleItemsOf (.ref a) >>= _) _ _ s
      refine wpAny_bind (wpAny_tupleItemsOf ho hd ?_)
      refine wpAny_bind ?_
      rw [← Array.forIn_toList]
      have hu1 : A.in1.units + PyData.depthAll ps < cLine := by
        rw [PyData.depth] at hu
        show A.units + 1 + PyData.depthAll ps < cLine
        omega
      refine hash_all ps #[] ok hu1 rs fun tk htk => ?_
      show wpAny _ _ (retInt (Builtin.Tuple.tupleHashOf (#[] ++ (hDL w ps).toArray).toList)) _ _ _
      rw [show ((#[] : Array Int) ++ (hDL w ps).toArray).toList = hDL w ps by simp]
      refine wpAny_ret_mkInt ?_
      show wpAny _ _ (if (decide (-(2 : Int) ^ 63 ≤ Builtin.Tuple.tupleHashOf (hDL w ps)) && decide (Builtin.Tuple.tupleHashOf (hDL w ps) < 2 ^ 63)) = true then _ else _) Q E _
      unfold reduceHash at q
      by_cases hr : (decide (-(2 : Int) ^ 63 ≤ Builtin.Tuple.tupleHashOf (hDL w ps)) && decide (Builtin.Tuple.tupleHashOf (hDL w ps) < 2 ^ 63)) = true
      · rw [if_pos hr]
        rw [if_pos hr] at q
        exact wpAny_pure (q _ (Nat.le_succ_of_le htk))
      · rw [if_neg hr]
        rw [if_neg hr] at q
        exact wpAny_bind (wpAny_rule (wpAny_pure (q _ (Nat.le_succ_of_le htk))))
  | .none, _, _, _, _, _, ok, _, _, _ => by rw [hOk] at ok <;> first | cases ok | simp
  | .bool _, _, _, _, _, _, ok, _, _, _ => by rw [hOk] at ok <;> first | cases ok | simp
  | .list _, _, _, _, _, _, ok, _, _, _ => by rw [hOk] at ok <;> first | cases ok | simp
  | .dict _, _, _, _, _, _, ok, _, _, _ => by rw [hOk] at ok <;> first | cases ok | simp
theorem hash_all : ∀ (ps : List PyData) (acc : Array Int) {A : Around} {s : Shared} {vs : List Value} {as : List Addr} {Q : Array Int → Shared → Prop}, hOkL ps = true → A.units + PyData.depthAll ps < cLine → ReadsAll s.heap vs ps as → (∀ tk, s.toks ≤ tk → Q (acc ++ (hDL w ps).toArray) { s with toks := tk }) →
    wpAny (model prog w) A (forIn vs acc fun x hs => do
      let h ← pyHash x
      pure (ForInStep.yield (hs.push h))) Q E s
  | [], acc, A, s, vs, as, Q, _, _, r, q => by
    cases r
    rw [List.forIn_nil]
    have := q s.toks (Nat.le_refl _)
    rw [hDL] at this
    simp only [Array.append_empty] at this
    exact wpAny_pure this
  | p :: ps, acc, A, s, vs, as, Q, ok, hu, r, q => by
    cases r with
    | @cons v vs _ _ _ _ r1 r2 =>
      rw [hOkL, Bool.and_eq_true] at ok
      rw [PyData.depthAll] at hu
      rw [List.forIn_cons]
      refine wpAny_bind (wpAny_bind (hash_data p ok.1 (by omega) r1 fun tk h1 => ?_))
      refine wpAny_pure ?_
      refine hash_all ps (acc.push (hD w p)) ok.2 (by omega) r2 fun tk2 h2 => ?_
      have := q tk2 (Nat.le_trans h1 h2)
      rw [hDL] at this
      rw [show acc.push (hD w p) ++ (hDL w ps).toArray = acc ++ (hD w p :: hDL w ps).toArray by simp]
      exact this
end
end
end Mx

/-! M23: what a set asks of its members. -/
namespace Mx
open PySem L2
section
variable {prog : Program} {w : World} {E : Value → Shared → Prop}
mutual
theorem ofA_data : ∀ (p : PyData) (n : Nat) {A : Around} {s : Shared} {v : Value} {as : List Addr} {Q : Bool → Shared → Prop}, hOk p = true → p.depth ≤ n → Reads s.heap v p as → Q false s → wpAny (model prog w) A (ofAClassStatement n v) Q E s
  | .int i, n, A, s, v, as, Q, _, _, r, q => by
    cases r
    rw [show ofAClassStatement n (.int i _) = pure false by cases n <;> rfl]
    exact wpAny_pure q
  | .str x, n, A, s, v, as, Q, _, _, r, q => by
    cases r
    rw [show ofAClassStatement n (.str x _) = pure false by cases n <;> rfl]
    exact wpAny_pure q
  | .tuple ps, n, A, s, v, as, Q, ok, hn, r, q => by
    cases r with
    | @tuple a o vs m _ _ ho hc hd rs =>
      rw [hOk] at ok
      rw [PyData.depth] at hn
      obtain ⟨n', rfl⟩ : ∃ n', n = n' + 1 := ⟨n - 1, by omega⟩
      have hT : s.TypeIs (.ref a) "tuple" := ⟨o, ho, hc⟩
      unfold ofAClassStatement
      refine wpAny_bind (wpAny_typeOf hT ?_)
      dsimp only
      have e : (("tuple" : String) == "tuple") = true := by decide
      simp only [e, if_true, Bool.not_true, Bool.false_eq_true, if_false]
      try refine wpAny_bind (wpAny_pure ?_)
      try simp only [Bool.not_true, Bool.false_eq_true, if_false]
      show wpAny _ _ (seqItems? (.ref a) >>= _) _ _ s
      refine wpAny_bind (wpAny_seqItems ho hd ?_)
      dsimp only
      refine wpAny_bind ?_
      show wpAny _ _ (forIn vs _ _) _ _ s
      rw [← Array.forIn_toList]
      exact ofA_all ps n' ok (by omega) rs (wpAny_pure q)
  | .none, _, _, _, _, _, _, ok, _, _, _ => by rw [hOk] at ok <;> first | cases ok | simp
  | .bool _, _, _, _, _, _, _, ok, _, _, _ => by rw [hOk] at ok <;> first | cases ok | simp
  | .list _, _, _, _, _, _, _, ok, _, _, _ => by rw [hOk] at ok <;> first | cases ok | simp
  | .dict _, _, _, _, _, _, _, ok, _, _, _ => by rw [hOk] at ok <;> first | cases ok | simp
theorem ofA_all : ∀ (ps : List PyData) (n : Nat) {A : Around} {s : Shared} {vs : List Value} {as : List Addr} {Q : Option Bool × Unit → Shared → Prop}, hOkL ps = true → PyData.depthAll ps ≤ n → ReadsAll s.heap vs ps as → Q (none, ()) s →
    wpAny (model prog w) A (forIn vs ((none : Option Bool), ()) fun y _ => do
      if (← ofAClassStatement n y) = true then pure (ForInStep.done (some true, ())) else pure (ForInStep.yield (none, ())))
    Q E s
  | [], n, A, s, vs, as, Q, _, _, r, q => by
    cases r
    rw [List.forIn_nil]
    exact wpAny_pure q
  | p :: ps, n, A, s, vs, as, Q, ok, hn, r, q => by
    cases r with
    | @cons v vs _ _ _ _ r1 r2 =>
      rw [hOkL, Bool.and_eq_true] at ok
      rw [PyData.depthAll] at hn
      rw [List.forIn_cons]
      refine wpAny_bind (wpAny_bind (ofA_data p n ok.1 (by omega) r1 ?_))
      rw [if_neg Bool.false_ne_true]
      refine wpAny_pure ?_
      exact ofA_all ps n ok.2 (by omega) r2 q
end
mutual
theorem quiet_data : ∀ (p : PyData) (n : Nat) {A : Around} {s : Shared} {v : Value} {as : List Addr} {Q : Bool → Shared → Prop}, hOk p = true → p.depth ≤ n → Reads s.heap v p as → Q true s → wpAny (model prog w) A (eqIsQuiet n v) Q E s
  | .int i, n, A, s, v, as, Q, _, _, r, q => by
    cases r
    rw [eqIsQuiet_byValue n rfl]
    exact wpAny_pure q
  | .str x, n, A, s, v, as, Q, _, _, r, q => by
    cases r
    rw [eqIsQuiet_byValue n rfl]
    exact wpAny_pure q
  | .tuple ps, n, A, s, v, as, Q, ok, hn, r, q => by
    cases r with
    | @tuple a o vs m _ _ ho hc hd rs =>
      rw [hOk] at ok
      rw [PyData.depth] at hn
      obtain ⟨n', rfl⟩ : ∃ n', n = n' + 1 := ⟨n - 1, by omega⟩
      have hT : s.TypeIs (.ref a) "tuple" := ⟨o, ho, hc⟩
      unfold eqIsQuiet
      refine wpAny_bind (wpAny_specialOf hT F.slot_tuple_eq.lookup ?_)
      show wpAny _ _ (isInstance (.ref a) (.type "tuple") >>= _) _ _ s
      refine wpAny_bind (wpAny_isInstance hT isSubtype_tuple_tuple ?_)
      simp only [Bool.not_true, Bool.false_eq_true, if_false]
      refine wpAny_bind (wpAny_seqItems ho hd ?_)
      refine wpAny_bind ?_
      show wpAny _ _ (forIn vs _ _) _ _ s
      rw [← Array.forIn_toList]
      exact quiet_all ps n' ok (by omega) rs (wpAny_pure q)
  | .none, _, _, _, _, _, _, ok, _, _, _ => by rw [hOk] at ok <;> first | cases ok | simp
  | .bool _, _, _, _, _, _, _, ok, _, _, _ => by rw [hOk] at ok <;> first | cases ok | simp
  | .list _, _, _, _, _, _, _, ok, _, _, _ => by rw [hOk] at ok <;> first | cases ok | simp
  | .dict _, _, _, _, _, _, _, ok, _, _, _ => by rw [hOk] at ok <;> first | cases ok | simp
theorem quiet_all : ∀ (ps : List PyData) (n : Nat) {A : Around} {s : Shared} {vs : List Value} {as : List Addr} {Q : Option Bool × Unit → Shared → Prop}, hOkL ps = true → PyData.depthAll ps ≤ n → ReadsAll s.heap vs ps as → Q (none, ()) s →
    wpAny (model prog w) A (forIn vs ((none : Option Bool), ()) fun y _ => do
      if (!(← eqIsQuiet n y)) = true then pure (ForInStep.done (some false, ())) else pure (ForInStep.yield (none, ())))
    Q E s
  | [], n, A, s, vs, as, Q, _, _, r, q => by
    cases r
    rw [List.forIn_nil]
    exact wpAny_pure q
  | p :: ps, n, A, s, vs, as, Q, ok, hn, r, q => by
    cases r with
    | @cons v vs _ _ _ _ r1 r2 =>
      rw [hOkL, Bool.and_eq_true] at ok
      rw [PyData.depthAll] at hn
      rw [List.forIn_cons]
      refine wpAny_bind (wpAny_bind (quiet_data p n ok.1 (by omega) r1 ?_))
      rw [Bool.not_true, if_neg Bool.false_ne_true]
      refine wpAny_pure ?_
      exact quiet_all ps n ok.2 (by omega) r2 q
end
end
end Mx

/-! M24: == of members. -/
namespace Mx
open PySem L2
mutual
theorem eqv_iff : ∀ (p q : PyData), hOk p = true → hOk q = true → (PyData.eqv p q = true ↔ p = q)
  | .int i, .int j, _, _ => by simp [PyData.eqv]
  | .str x, .str y, _, _ => by simp [PyData.eqv]
  | .tuple ps, .tuple qs, hp, hq => by
    rw [hOk] at hp hq
    rw [PyData.eqv, eqvAll_iff ps qs hp hq]
    simp
  | .int i, .str y, _, _ => by simp [PyData.eqv]
  | .int i, .tuple y, _, _ => by simp [PyData.eqv]
  | .str i, .int y, _, _ => by simp [PyData.eqv]
  | .str i, .tuple y, _, _ => by simp [PyData.eqv]
  | .tuple i, .int y, _, _ => by simp [PyData.eqv]
  | .tuple i, .str y, _, _ => by simp [PyData.eqv]
  | .none, _, hp, _ => by rw [hOk] at hp <;> first | cases hp | simp
  | .bool _, _, hp, _ => by rw [hOk] at hp <;> first | cases hp | simp
  | .list _, _, hp, _ => by rw [hOk] at hp <;> first | cases hp | simp
  | .dict _, _, hp, _ => by rw [hOk] at hp <;> first | cases hp | simp
  | _, .none, _, hq => by rw [hOk] at hq <;> first | cases hq | simp
  | _, .bool _, _, hq => by rw [hOk] at hq <;> first | cases hq | simp
  | _, .list _, _, hq => by rw [hOk] at hq <;> first | cases hq | simp
  | _, .dict _, _, hq => by rw [hOk] at hq <;> first | cases hq | simp
theorem eqvAll_iff : ∀ (ps qs : List PyData), hOkL ps = true → hOkL qs = true → (PyData.eqvAll ps qs = true ↔ ps = qs)
  | [], [], _, _ => by simp [PyData.eqvAll]
  | [], _ :: _, _, _ => by simp [PyData.eqvAll]
  | _ :: _, [], _, _ => by simp [PyData.eqvAll]
  | p :: ps, q :: qs, hp, hq => by
    rw [hOkL, Bool.and_eq_true] at hp hq
    rw [PyData.eqvAll, Bool.and_eq_true, eqv_iff p q hp.1 hq.1, eqvAll_iff ps qs hp.2 hq.2]
    simp
end
end Mx

/-! M25: sets: members that read as data; texts and ints by scan, tuples by the table (fewer than 64). -/
namespace Mx
open PySem PySem.Spec PyProof.Rows L2

def mOk (p : PyData) : Bool := hOk p && p.canLay0 && decide (p.depth ≤ 8)
theorem mOk.h {p : PyData} (e : mOk p = true) : hOk p = true := by
  unfold mOk at e; rw [Bool.and_eq_true, Bool.and_eq_true] at e; exact e.1.1
theorem mOk.c {p : PyData} (e : mOk p = true) : p.canLay0 = true := by
  unfold mOk at e; rw [Bool.and_eq_true, Bool.and_eq_true] at e; exact e.1.2
theorem mOk.d {p : PyData} (e : mOk p = true) : p.depth ≤ 8 := by
  unfold mOk at e; rw [Bool.and_eq_true, Bool.and_eq_true] at e; exact of_decide_eq_true e.2
abbrev Mb := Value × PyData
def MbAt (h : Heap) (p : Mb) : Prop := mOk p.2 = true ∧ ∃ as, Reads h p.1 p.2 as

section
variable {h h' : Heap} {a : Addr}
mutual
theorem reads_but (k : ∀ b o, b ≠ a → h.get? b = some o → h'.get? b = some o) (na : ∀ o, h.get? a = some o → o.cls ≠ .type "tuple") : ∀ (p : PyData) {v : Value} {as : List Addr}, hOk p = true → Reads h v p as → Reads h' v p as
  | .int _, _, _, _, r => by cases r; exact .int _ _
  | .str _, _, _, _, r => by cases r; exact .str _ _
  | .tuple ps, _, _, ok, r => by
    cases r with
    | @tuple b o vs n _ _ e1 e2 e3 e4 =>
      rw [hOk] at ok
      have ne : b ≠ a := fun z => na o (by rw [← z]; exact e1) e2
      exact .tuple (k _ _ ne e1) e2 e3 (reads_butL k na ps ok e4)
  | .none, _, _, ok, _ => by rw [hOk] at ok <;> first | cases ok | simp
  | .bool _, _, _, ok, _ => by rw [hOk] at ok <;> first | cases ok | simp
  | .list _, _, _, ok, _ => by rw [hOk] at ok <;> first | cases ok | simp
  | .dict _, _, _, ok, _ => by rw [hOk] at ok <;> first | cases ok | simp
theorem reads_butL (k : ∀ b o, b ≠ a → h.get? b = some o → h'.get? b = some o) (na : ∀ o, h.get? a = some o → o.cls ≠ .type "tuple") : ∀ (ps : List PyData) {vs : List Value} {as : List Addr}, hOkL ps = true → ReadsAll h vs ps as → ReadsAll h' vs ps as
  | [], _, _, _, r => by cases r; exact .nil
  | p :: ps, _, _, ok, r => by
    cases r with
    | cons r1 r2 =>
      rw [hOkL, Bool.and_eq_true] at ok
      exact .cons (reads_but k na p ok.1 r1) (reads_butL k na ps ok.2 r2)
end
end
theorem MbAt.but {h h' : Heap} {a : Addr} {p : Mb} (q : MbAt h p) (k : ∀ b o, b ≠ a → h.get? b = some o → h'.get? b = some o) (na : ∀ o, h.get? a = some o → o.cls ≠ .type "tuple") : MbAt h' p :=
  ⟨q.1, q.2.imp fun as r => reads_but k na p.2 (mOk.h q.1) r⟩
theorem MbAt.keep {h h' : Heap} {p : Mb} (q : MbAt h p) (k : ∀ b o, h.get? b = some o → h'.get? b = some o) : MbAt h' p :=
  ⟨q.1, q.2.imp fun as r => PyProof.Rows.Reads.keeps k r⟩

def rowsG (w : World) (L : List Mb) : List (Int × Value) := L.map fun p => (hD w p.2, p.1)
abbrev hsG (w : World) (L : List Mb) : List Int := L.map fun p => hD w p.2
/-- the set's own object: its members L; tb: the table is led (tuples), else scanned (texts, ints) -/
structure SetG (w : World) (h : Heap) (a : Addr) (tb : Bool) (L : List Mb) (es : Array (Int × Value)) (ep : Nat) (t : SetTable) : Prop where
  ob : ∃ o, h.get? a = some o ∧ o.ExactSet ∧ o.data = .set es ep t
  rows : es.toList = rowsG w L
  nd : (L.map (·.2)).Nodup
  fit : t.fits es.size = true
  ris : Ris t.place.toList
  led : w.params.followText "set-order" = true ∨ t.led = true
  few : L.length < scanBound
  kT : tb = true → TabOk t (hsG w L) ∧ L.length * 5 < t.mask * 3 ∧ L.length < 64 ∧ ∀ p ∈ L, ∃ b, p.1 = Value.ref b
  kF : tb = false → ∀ p ∈ L, p.1.scannable = true
section
variable {P : Program} {w : World} {A : Around} {E : Value → Shared → Prop} {s : Shared} {a : Addr} {tb : Bool} {L : List Mb} {es : Array (Int × Value)} {ep : Nat} {t : SetTable}
theorem SetG.size {h : Heap} (g : SetG w h a tb L es ep t) : es.size = L.length := by
  have e := congrArg List.length g.rows
  unfold rowsG at e
  rw [Array.length_toList, List.length_map] at e
  exact e
theorem SetG.entry {h : Heap} (g : SetG w h a tb L es ep t) {i : Nat} {p : Mb} (e : L[i]? = some p) : es[i]? = some (hD w p.2, p.1) := by
  rw [← Array.getElem?_toList, g.rows]
  unfold rowsG
  rw [List.getElem?_map, e] <;> rfl
theorem SetG.keep {h h' : Heap} (g : SetG w h a tb L es ep t) (k : ∀ o, h.get? a = some o → h'.get? a = some o) : SetG w h' a tb L es ep t := by
  obtain ⟨o, ho, r⟩ := g.ob
  exact ⟨⟨o, k o ho, r⟩, g.rows, g.nd, g.fit, g.ris, g.led, g.few, g.kT, g.kF⟩

/-- == of members -/
theorem eq_mb {p q : Mb} (hp : MbAt s.heap p) (hq : MbAt s.heap q) (hu : A.units + 8 < cLine) {Q : Bool → Shared → Prop} (h1 : p.2 = q.2 → Q true s) (h2 : p.2 ≠ q.2 → Q false s) : wpAny (model P w) A (eqBool p.1 q.1) Q E s := by
  obtain ⟨as, r1⟩ := hp.2
  obtain ⟨bs, r2⟩ := hq.2
  have dp := mOk.d hp.1
  refine SeqAt.eqAt_reads p.2 q.2 A s p.1 q.1 as bs r1 r2 (mOk.c hp.1) (mOk.c hq.1) (by omega) P w E Q ?_
  have e := eqv_iff _ _ (mOk.h hp.1) (mOk.h hq.1)
  cases z : PyData.eqv p.2 q.2 with
  | true => exact h1 (e.1 z)
  | false => exact h2 fun y => by rw [e.2 y] at z; cases z
/-- no search among tuples is seen -/
theorem seen_mb {x : Addr} {k : PyData} (hp : MbAt s.heap (.ref x, k)) {ys : List Value} (hy : ∀ y ∈ ys, ∃ c k, y = Value.ref c ∧ MbAt s.heap (.ref c, k)) {Q : Bool → Shared → Prop} (h : Q false s) : wpAny (model P w) A (searchCouldBeSeen (.ref x) ys) Q E s := by
  obtain ⟨m1, as, r1⟩ := id hp
  unfold searchCouldBeSeen
  refine wpAny_bind ?_
  refine wpAny_forIn_list _ (fun rest r s' => r.1 = none ∧ s' = s ∧ ∀ y ∈ rest, ∃ c k, y = Value.ref c ∧ MbAt s.heap (.ref c, k)) _ ?_ ?_ _ _ ⟨rfl, rfl, hy⟩
  · rintro y rest r s' ⟨hr, rfl, al⟩
    obtain ⟨c, k2, rfl, m2, bs, r2⟩ := al y List.mem_cons_self
    have al2 : ∀ y ∈ rest, ∃ c k, y = Value.ref c ∧ MbAt s'.heap (.ref c, k) := fun u hu' => al u (List.mem_cons_of_mem _ hu')
    dsimp only
    by_cases hv : (x == c || (carriedByValue (.ref x) && carriedByValue (.ref c))) = true
    · exact wp_if_pos hv (wpAny_pure ⟨rfl, rfl, al2⟩)
    · refine wp_if_neg hv (wpAny_bind (quiet_data k 8 (mOk.h m1) (mOk.d m1) r1 ?_))
      simp only [Bool.not_true, Bool.false_eq_true, if_false]
      refine wpAny_bind (quiet_data k2 8 (mOk.h m2) (mOk.d m2) r2 ?_)
      simp only [Bool.not_true, Bool.false_eq_true, if_false]
      refine wpAny_bind (ofA_data k 8 (mOk.h m1) (mOk.d m1) r1 ?_)
      simp only [Bool.false_eq_true, if_false]
      refine wpAny_bind (ofA_data k2 8 (mOk.h m2) (mOk.d m2) r2 ?_)
      simp only [Bool.false_eq_true, if_false]
      exact wpAny_pure ⟨rfl, rfl, al2⟩
  · rintro ⟨r1', r2'⟩ s' ⟨hr, rfl, _⟩
    simp only at hr
    subst hr
    exact wpAny_pure h
end
section
variable {prog : Program} {w : World} {E : Value → Shared → Prop}
mutual
theorem hby_data : ∀ (p : PyData) (n : Nat) {A : Around} {s : Shared} {v : Value} {as : List Addr} {Q : Bool → Shared → Prop}, hOk p = true → p.depth ≤ n → Reads s.heap v p as → (∀ b, Q b s) → wpAny (model prog w) A (hashByValue n v) Q E s
  | .int i, n, A, s, v, as, Q, _, _, r, q => by
    cases r
    rw [show hashByValue n (.int i _) = pure true by cases n <;> rfl]
    exact wpAny_pure (q _)
  | .str x, n, A, s, v, as, Q, _, _, r, q => by
    cases r
    rw [show hashByValue n (.str x _) = pure false by cases n <;> rfl]
    exact wpAny_pure (q _)
  | .tuple ps, n, A, s, v, as, Q, ok, hn, r, q => by
    cases r with
    | @tuple a o vs m _ _ ho hc hd rs =>
      rw [hOk] at ok
      rw [PyData.depth] at hn
      obtain ⟨n', rfl⟩ : ∃ n', n = n' + 1 := ⟨n - 1, by omega⟩
      have hT : s.TypeIs (.ref a) "tuple" := ⟨o, ho, hc⟩
      unfold hashByValue
      refine wpAny_bind (wpAny_specialOf hT F.slot_tuple_hash.lookup ?_)
      show wpAny _ _ (seqItems? (.ref a) >>= _) _ _ s
      refine wpAny_bind (wpAny_seqItems ho hd ?_)
      refine wpAny_bind ?_
      show wpAny _ _ (forIn vs _ _) _ _ s
      rw [← Array.forIn_toList]
      exact hby_all ps n' ok (by omega) rs (wpAny_pure (q _)) (wpAny_pure (q _))
  | .none, _, _, _, _, _, _, ok, _, _, _ => by rw [hOk] at ok <;> first | cases ok | simp
  | .bool _, _, _, _, _, _, _, ok, _, _, _ => by rw [hOk] at ok <;> first | cases ok | simp
  | .list _, _, _, _, _, _, _, ok, _, _, _ => by rw [hOk] at ok <;> first | cases ok | simp
  | .dict _, _, _, _, _, _, _, ok, _, _, _ => by rw [hOk] at ok <;> first | cases ok | simp
theorem hby_all : ∀ (ps : List PyData) (n : Nat) {A : Around} {s : Shared} {vs : List Value} {as : List Addr} {Q : Option Bool × Unit → Shared → Prop}, hOkL ps = true → PyData.depthAll ps ≤ n → ReadsAll s.heap vs ps as → Q (none, ()) s → Q (some false, ()) s →
    wpAny (model prog w) A (forIn vs ((none : Option Bool), ()) fun y _ => do
      if (!(← hashByValue n y)) = true then pure (ForInStep.done (some false, ())) else pure (ForInStep.yield (none, ())))
    Q E s
  | [], n, A, s, vs, as, Q, _, _, r, q, _ => by
    cases r
    rw [List.forIn_nil]
    exact wpAny_pure q
  | p :: ps, n, A, s, vs, as, Q, ok, hn, r, q, q2 => by
    cases r with
    | @cons v vs _ _ _ _ r1 r2 =>
      rw [hOkL, Bool.and_eq_true] at ok
      rw [PyData.depthAll] at hn
      rw [List.forIn_cons]
      refine wpAny_bind (wpAny_bind (hby_data p n ok.1 (by omega) r1 fun b => ?_))
      cases b with
      | true =>
        rw [Bool.not_true, if_neg Bool.false_ne_true]
        exact wpAny_pure (hby_all ps n ok.2 (by omega) r2 q q2)
      | false =>
        rw [Bool.not_false, if_pos rfl]
        exact wpAny_pure (wpAny_pure q2)
end
end
end Mx

/-! M26: a member is sought and put into a set. -/
namespace Mx
open PySem PySem.Spec PyProof.Rows L2
section
variable {P : Program} {w : World} {A : Around} {E : Value → Shared → Prop} {s : Shared} {a : Addr} {L : List Mb} {es : Array (Int × Value)} {ep : Nat} {t : SetTable}
abbrev stG (t : SetTable) (hk : Int) : SetTable.Probe := runAt t.mask (SetTable.bits hk % (t.mask + 1)) (SetTable.bits hk)
theorem nth_dummy (m : Nat) : ∀ (n : Nat) (p : SetTable.Probe), p.dummy = none → (nth m p n).dummy = none
  | 0, _, e => e
  | n + 1, p, e => nth_dummy m n (adv m p) (by unfold adv; split <;> exact e)
/-- the search, from the c-th step of the way on -/
theorem find_from (g : SetG w s.heap a true L es ep t) (mb : ∀ p ∈ L, MbAt s.heap p) {x : Addr} {k : PyData} (hx : MbAt s.heap (.ref x, k)) (hu : A.units + 8 < cLine) {N : Nat} (hNf : N < 10 * SetTable.turns t.mask)
    (hN : way t.mask (hD w k) N ∉ t.place.toList) (hNb : ∀ c, c < N → way t.mask (hD w k) c ∈ t.place.toList) {Q : SetFound → Shared → Prop}
    (hin : k ∈ L.map (·.2) → Q (.there none) s) (hout : k ∉ L.map (·.2) → Q (.free (way t.mask (hD w k) N) false) s) :
    ∀ (f c : Nat) (stand : Option SetTable.Probe), stand.getD (t.probeStart (hD w k)) = nth t.mask (stG t (hD w k)) c → c ≤ N → N - c < f →
      (∀ (i : Nat) p, L[i]? = some p → p.2 = k → ∃ d, c ≤ d ∧ d < N ∧ t.place.toList[i]? = some (way t.mask (hD w k) d)) →
      wpAny (model P w) A (setSearchFrom a (.ref x) (hD w k) true f stand) Q E s
  | 0, c, stand, _, _, hf, _ => absurd hf (Nat.not_lt_zero _)
  | f + 1, c, stand, hst, hc, hf, later => by
    obtain ⟨oo, e1, e2, e3⟩ := g.ob
    obtain ⟨tab, room, few, refs⟩ := g.kT rfl
    have ngw : ¬ t.gaveWay = true := by
      unfold SetTable.gaveWay
      rw [mask_odd tab.mok]
      decide
    rw [setSearchFrom_succ]
    refine wpAny_bind (wpAny_setState_of e1 e3 g.fit ?_)
    dsimp only
    refine wp_if_neg ngw ?_
    try refine wpAny_bind (wpAny_pure ?_)
    have sh : ∀ q, nth t.mask (nth t.mask (stG t (hD w k)) c) q = nth t.mask (stG t (hD w k)) (c + q) := fun q => (nth_add t.mask c _ q).symm
    have sj : ∀ q, (nth t.mask (nth t.mask (stG t (hD w k)) c) q).j = way t.mask (hD w k) (c + q) := fun q => congrArg SetTable.Probe.j (sh q)
    have spec := go_spec t tab.ris tab.dm (fun i => (es[i]?.map (·.1)).getD 0) (hD w k) (10 * SetTable.turns t.mask) (N - c) _ (nth_dummy t.mask c _ rfl) (by omega)
      (fun q hq => by rw [sj]; exact hNb (c + q) (by omega)) (by rw [sj, show c + (N - c) = N by omega]; exact hN)
    have hashAt : ∀ (i : Nat) p, L[i]? = some p → (fun i => (es[i]?.map (·.1)).getD 0) i = hD w p.2 := fun i p hp => by
      show (es[i]?.map (·.1)).getD 0 = _
      rw [g.entry hp] <;> rfl
    rcases spec with ⟨q, i, hq, hi, hh, hno, hpr⟩ | ⟨hno, hpr⟩
    · have hpr2 : t.probe (fun i => (es[i]?.map (·.1)).getD 0) (hD w k) (stand.getD (t.probeStart (hD w k))) = some (.candidate (way t.mask (hD w k) (c + q)) i (nth t.mask (stG t (hD w k)) (c + (q + 1)))) := by
        rw [hst, ← sj, ← sh]
        exact hpr
      rw [hpr2]
      dsimp only
      rw [sj] at hi
      have hil : i < L.length := by
        have z1 : i < t.place.toList.length := (List.getElem?_eq_some_iff.mp hi).1
        have z2 := tab.sz
        rw [List.length_map] at z2
        rw [Array.length_toList] at z1
        omega
      obtain ⟨p, hp⟩ : ∃ p, L[i]? = some p := ⟨_, List.getElem?_eq_getElem hil⟩
      have hmem : p ∈ L := List.mem_of_getElem? hp
      have hpm := mb p hmem
      obtain ⟨y, ey⟩ := refs p hmem
      have rest : wpAny (model P w) A (searchRest a (.ref x) (hD w k) true f es t (way t.mask (hD w k) (c + q)) i (nth t.mask (stG t (hD w k)) (c + (q + 1)))) Q E s := by
        unfold searchRest
        rw [g.entry hp]
        dsimp only
        refine wpAny_bind (wpAny_holding (eq_mb (q := (Value.ref x, k)) hpm hx hu (fun hk => ?_) fun hk => ?_))
        · refine wpAny_bind (wpAny_setState_of e1 e3 g.fit ?_)
          dsimp only
          exact wp_if_pos rfl (wpAny_pure (hin (List.mem_map.mpr ⟨p, hmem, hk⟩)))
        · refine wpAny_bind (wpAny_setState_of e1 e3 g.fit ?_)
          dsimp only
          refine wp_if_neg (by decide) ?_
          try refine wpAny_bind (wpAny_pure ?_)
          rw [sameMem]
          dsimp only
          have hsl : t.slot (way t.mask (hD w k) (c + q)) = .live i := slot_live tab.ris hi
          simp only [if_true, hsl, g.entry hp]
          rw [ey]
          refine wpAny_bind (wpAny_isSame_ref_self (wpAny_bind (wpAny_pure ?_)))
          simp only [if_true]
          refine wp_if_neg (by decide) ?_
          refine find_from g mb hx hu hNf hN hNb hin hout f (c + (q + 1)) _ rfl (by omega) (by omega) fun j p0 h0 hk0 => ?_
          obtain ⟨d, a1, a2, a3⟩ := later j p0 h0 hk0
          refine ⟨d, ?_, a2, a3⟩
          rcases Nat.lt_trichotomy d (c + q) with z | z | z
          · refine (hno (d - c) j (by omega) (by rw [sj, show c + (d - c) = d by omega]; exact a3) ?_).elim
            exact (hashAt j p0 h0).trans (congrArg (hD w) hk0)
          · exfalso
            rw [z] at a3
            have s0 := slot_live tab.ris a3
            rw [hsl] at s0
            injection s0 with s0
            rw [← s0, hp] at h0
            exact hk ((congrArg Prod.snd (Option.some.inj h0)).trans hk0)
          · omega
      by_cases hl : t.led = true
      · refine wp_if_neg (by simp [hl]) ?_
        try refine wpAny_bind (wpAny_pure ?_)
        exact rest
      · refine wp_if_pos (by simp [hl]) ?_
        refine wpAny_bind (seen_mb hx (fun y hy => ?_) ?_)
        · obtain ⟨e, he, ee⟩ := List.mem_map.mp hy
          have he1 : e ∈ es ∧ e.1 = hD w k := by simpa using he
          have he2 : e ∈ es.toList := by simpa using he1.1
          rw [g.rows] at he2
          obtain ⟨p2, hp2, e2'⟩ := List.mem_map.mp he2
          obtain ⟨c2, ec2⟩ := refs p2 hp2
          refine ⟨c2, p2.2, ?_, ?_⟩
          · rw [← ee, ← e2', ← ec2]
          · have := mb p2 hp2
            rw [show p2 = (Value.ref c2, p2.2) from Prod.ext ec2 rfl] at this
            exact this
        · refine wp_if_neg (by decide) ?_
          try refine wpAny_bind (wpAny_pure ?_)
          exact rest
    · have hpr2 : t.probe (fun i => (es[i]?.map (·.1)).getD 0) (hD w k) (stand.getD (t.probeStart (hD w k))) = some (.empty (way t.mask (hD w k) N) none) := by
        have z : way t.mask (hD w k) N = (nth t.mask (nth t.mask (stG t (hD w k)) c) (N - c)).j := by
          rw [sj, show c + (N - c) = N by omega]
        rw [hst, z]
        exact hpr
      rw [hpr2]
      dsimp only
      refine wpAny_pure (hout fun hm => ?_)
      obtain ⟨p0, h0, hk0⟩ := List.mem_map.mp hm
      obtain ⟨j, hj, e0⟩ := List.getElem_of_mem h0
      have h00 : L[j]? = some p0 := by rw [List.getElem?_eq_getElem hj, e0]
      obtain ⟨d, a1, a2, a3⟩ := later j p0 h00 hk0
      refine hno (d - c) j (by omega) (by rw [sj, show c + (d - c) = d by omega]; exact a3) ?_
      exact (hashAt j p0 h00).trans (congrArg (hD w) hk0)
theorem find_at (g : SetG w s.heap a true L es ep t) (mb : ∀ p ∈ L, MbAt s.heap p) {x : Addr} {k : PyData} (hx : MbAt s.heap (.ref x, k)) (hu : A.units + 8 < cLine) {Q : SetFound → Shared → Prop}
    (hin : k ∈ L.map (·.2) → Q (.there none) s)
    (hout : ∀ N, k ∉ L.map (·.2) → way t.mask (hD w k) N ∉ t.place.toList → (∀ c, c < N → way t.mask (hD w k) c ∈ t.place.toList) → Q (.free (way t.mask (hD w k) N) false) s) :
    wpAny (model P w) A (setSearch a (.ref x) (hD w k) true) Q E s := by
  obtain ⟨tab, room, few, refs⟩ := g.kT rfl
  obtain ⟨N, hNf, hN, hNb⟩ := tab.first (by rw [List.length_map]; omega) (hD w k)
  have big : N < 100000 := by
    have : 10 * SetTable.turns t.mask ≤ 1420 := by
      unfold SetTable.turns
      rcases tab.mok with e | e | e <;> omega
    omega
  unfold setSearch
  refine find_from g mb hx hu hNf hN hNb hin (fun hn => hout N hn hN hNb) 100000 0 none rfl (Nat.zero_le _) (by omega) fun i p hp hk => ?_
  have hi : (hsG w L)[i]? = some (hD w k) := by rw [List.getElem?_map, hp, ← hk] <;> rfl
  have hil : i < t.place.toList.length := by
    have z1 : i < L.length := (List.getElem?_eq_some_iff.mp hp).1
    have z2 := tab.sz
    rw [List.length_map] at z2
    rw [Array.length_toList]
    omega
  have hj := List.getElem?_eq_getElem hil
  obtain ⟨c, hc, e⟩ := tab.before hN hi hj
  exact ⟨c, Nat.zero_le _, hc, by rw [hj, e]⟩

theorem rowsG_put (L : List Mb) (p : Nat) (x : Mb) : rowsG w (L.take p ++ x :: L.drop p) = (rowsG w L).take p ++ (hD w x.2, x.1) :: (rowsG w L).drop p := by
  unfold rowsG
  rw [List.map_append, List.map_cons, List.map_take, List.map_drop]
theorem order_G (L : List Mb) (es : Array (Int × Value)) (order : Array Nat) (hr : es.toList = rowsG w L) (hp : order.toList.Perm (List.range L.length)) :
    ∃ L2, (order.filterMap (es[·]?)).toList = rowsG w L2 ∧ L2.Perm L ∧ hsG w L2 = order.toList.map fun i => (es.map (·.1)).getD i 0 := by
  have hsz : es.size = L.length := by
    have e := congrArg List.length hr
    unfold rowsG at e
    rw [Array.length_toList, List.length_map] at e
    exact e
  have ent : ∀ i (h : i < L.length), es[i]? = some (hD w (L[i]).2, (L[i]).1) := fun i h => by
    rw [← Array.getElem?_toList, hr]
    unfold rowsG
    rw [List.getElem?_map, List.getElem?_eq_getElem h] <;> rfl
  have key : ∀ l : List Nat, (∀ i ∈ l, i < L.length) → ∃ L2 : List Mb, l.filterMap (fun i => es[i]?) = rowsG w L2 ∧ L2 = l.filterMap (fun i => L[i]?) ∧ hsG w L2 = l.map fun i => (es.map (·.1)).getD i 0 := by
    intro l
    induction l with
    | nil => intro _; exact ⟨[], rfl, rfl, rfl⟩
    | cons i l ih =>
      intro hl
      have hi := hl i List.mem_cons_self
      obtain ⟨L2, z1, z2, z3⟩ := ih fun j hj => hl j (List.mem_cons_of_mem _ hj)
      refine ⟨L[i] :: L2, ?_, ?_, ?_⟩
      · rw [List.filterMap_cons_some (ent i hi), z1] <;> rfl
      · rw [List.filterMap_cons_some (List.getElem?_eq_getElem hi), z2]
      · show hD w (L[i]).2 :: hsG w L2 = _ :: _
        have z5 : (es.map (·.1))[i]? = some (hD w (L[i]).2) := by rw [Array.getElem?_map, ent i hi] <;> rfl
        have z6 : (es.map (·.1)).getD i 0 = hD w (L[i]).2 := by simp [Array.getD_eq_getD_getElem?, z5]
        rw [z3]
        exact congrArg (· :: _) z6.symm
  obtain ⟨L2, z1, z2, z3⟩ := key order.toList fun i hi => List.mem_range.mp (hp.mem_iff.mp hi)
  refine ⟨L2, by first | (rw [Array.toList_filterMap]; exact z1) | simpa using z1, ?_, z3⟩
  have pm : L2.Perm ((List.range L.length).filterMap fun i => L[i]?) := by
    rw [z2]
    exact hp.filterMap _
  have all : ∀ n, n ≤ L.length → (List.range n).filterMap (fun i => L[i]?) = L.take n := by
    intro n
    induction n with
    | zero => intro _; rfl
    | succ n ih =>
      intro hn
      have hlt : n < L.length := hn
      rw [List.range_succ, List.filterMap_append, ih (Nat.le_of_lt hlt), List.take_succ, List.getElem?_eq_getElem hlt, List.filterMap_cons_some (List.getElem?_eq_getElem hlt)] <;> rfl
  rw [all L.length (Nat.le_refl _), List.take_length] at pm
  exact pm
/-- the table laid anew, larger -/
theorem again_at {o : Obj} (ho : s.heap.get? a = some o) (hex : o.ExactSet) (hd : o.data = .set es ep t) (hrows : es.toList = rowsG w L) (hfit : t.fits es.size = true)
    (nd : (L.map (·.2)).Nodup) (refs : ∀ p ∈ L, ∃ b, p.1 = Value.ref b) (ld : w.params.followText "set-order" = true ∨ t.led = true) (few : L.length < 64) {wanted M : Nat}
    (hw : SetTable.sizeAbove wanted - 1 = M) (hM : MaskOk M) (hw2 : SetTable.sizeAbove wanted ≤ 128) (hn : L.length * 5 < M * 3) {Q : Unit → Shared → Prop}
    (hQ : ∀ h' L' es' ep' t', Heap.SameBut a s.heap h' → SetG w h' a true L' es' ep' t' → L'.Perm L → Q () { s with heap := h' }) : wpAny (model P w) A (setRelay a wanted) Q E s := by
  have hsl : es.size = L.length := by
    have e := congrArg List.length hrows
    unfold rowsG at e
    rw [Array.length_toList, List.length_map] at e
    exact e
  obtain ⟨t', order, e, hp, T, em, el, ep', ed⟩ := relaid_ok t (hs := es.map (·.1)) (wanted := wanted) hw hM (by rw [Array.size_map, hsl]; omega)
  rw [Array.size_map, hsl] at hp
  obtain ⟨L2, r1, r2, r3⟩ := order_G L es order hrows hp
  rw [← r3] at T
  have hs2 : (order.filterMap (es[·]?)).size = es.size := by
    have z := congrArg List.length r1
    unfold rowsG at z
    rw [Array.length_toList, List.length_map, r2.length_eq] at z
    rw [z, hsl]
  rw [setRelay_eq]
  refine wpAny_bind (wpAny_setState_of ho hd hfit ?_)
  dsimp only
  refine wp_if_neg (by rw [sizeLine_eq]; omega) ?_
  try refine wpAny_bind (wpAny_pure ?_)
  rw [e]
  dsimp only
  refine wpAny_bind ?_
  refine wp_if_neg (by rw [hs2]; simp) ?_
  try refine wpAny_bind (wpAny_pure ?_)
  refine wpAny_pure ?_
  dsimp only
  refine wpAny_storeSet_of ho hd ?_ (by rw [hs2, hsl, sizeLine_eq]; omega)
  have sb : Heap.SameBut a s.heap (s.heap.update a (Obj.putSet (order.filterMap (es[·]?)) t')) := Heap.SameBut.update ..
  refine hQ _ L2 (order.filterMap (es[·]?)) (ep + 1) t' sb ?_ r2
  have fit2 : t'.fits (order.filterMap (es[·]?)).size = true := by
    have z := T.sz
    rw [List.length_map, r2.length_eq] at z
    unfold SetTable.fits SetTable.fill
    rw [T.dm, Bool.and_eq_true, beq_iff_eq, decide_eq_true_eq, hs2, hsl, em]
    show t'.place.size = L.length ∧ t'.place.size + 0 ≤ M
    omega
  refine ⟨⟨_, store_at ho hd, ⟨hex.1, hex.2.1, hex.2.2⟩, rfl⟩, r1, (r2.map (·.2)).nodup_iff.mpr nd, fit2, T.ris, by rw [el]; exact ld, ?_, fun _ => ⟨T, ?_, ?_, fun p hpm => refs p (r2.mem_iff.mp hpm)⟩, fun z => nomatch z⟩
  · rw [r2.length_eq]; unfold scanBound; omega
  · rw [r2.length_eq, em]; exact hn
  · rw [r2.length_eq]; exact few
/-- a tuple is put in -/
theorem add_tab (g : SetG w s.heap a true L es ep t) (mb : ∀ p ∈ L, MbAt s.heap p) {x : Addr} {k : PyData} (hx : MbAt s.heap (.ref x, k)) (hu : A.units + 8 < cLine) (hfew : L.length + 1 < 64) {Q : Bool → Shared → Prop}
    (hQ : ∀ b h' L' es' ep' t', Heap.SameBut a s.heap h' → SetG w h' a true L' es' ep' t' → (k ∈ L.map (·.2) → L' = L) → (k ∉ L.map (·.2) → L'.Perm ((.ref x, k) :: L)) → Q b { s with heap := h' }) :
    wpAny (model P w) A (setAddHashed a (.ref x) (hD w k)) Q E s := by
  obtain ⟨oo, e1, e2, e3⟩ := g.ob
  obtain ⟨tab, room, few, refs⟩ := g.kT rfl
  have hsl := g.size
  unfold setAddHashed
  refine wpAny_holding ?_
  rw [show (100000 : Nat) = 99999 + 1 from rfl, setAddHashedIn_succ]
  refine wpAny_bind (wpAny_setState_of e1 e3 g.fit ?_)
  dsimp only
  refine wp_if_neg (by simp [byScan, Value.scannable]) ?_
  try refine wpAny_bind (wpAny_pure ?_)
  refine wpAny_bind (find_at g mb hx hu (fun hm => ?_) fun N hm hN hb => ?_)
  · dsimp only
    exact wpAny_pure (hQ false s.heap L es ep t (Heap.SameBut.refl a s.heap) g (fun _ => rfl) fun z => absurd hm z)
  · dsimp only
    refine wpAny_bind (wpAny_setState_of e1 e3 g.fit ?_)
    dsimp only
    obtain ⟨q1, q2, q3, q4, q5, q6, q7, q8, q9⟩ := tab.put hN hb
    generalize hpt : t.put (way t.mask (hD w k) N) = pt at q1 q3 q4 q5 q6 q7 q8 q9 ⊢
    obtain ⟨t1, p⟩ := pt
    dsimp only at q1 q3 q4 q5 q6 q7 q8 q9 ⊢
    subst q1
    have hin : (SetTable.insertAt es (SetTable.below t.place (way t.mask (hD w k) N)) (hD w k, Value.ref x)).toList = rowsG w (L.take (SetTable.below t.place (way t.mask (hD w k) N)) ++ (Value.ref x, k) :: L.drop (SetTable.below t.place (way t.mask (hD w k) N))) := by
      rw [SetTable.toList_insertAt, rowsG_put, g.rows]
    generalize hpp : SetTable.below t.place (way t.mask (hD w k) N) = p at q2 q3 hin ⊢
    have pm := put_perm L p (Value.ref x, k)
    have hlen : (L.take p ++ (Value.ref x, k) :: L.drop p).length = L.length + 1 := pm.length_eq
    have hhs : hsG w (L.take p ++ (Value.ref x, k) :: L.drop p) = (hsG w L).take p ++ hD w k :: (hsG w L).drop p := by
      unfold hsG
      rw [List.map_append, List.map_cons, List.map_take, List.map_drop]
    rw [← hhs] at q3
    have nd1 : ((L.take p ++ (Value.ref x, k) :: L.drop p).map (·.2)).Nodup := by
      refine (pm.map (·.2)).nodup_iff.mpr ?_
      rw [List.map_cons]
      exact List.nodup_cons.mpr ⟨hm, g.nd⟩
    have hes : (SetTable.insertAt es p (hD w k, Value.ref x)).size = L.length + 1 := by
      have z := congrArg List.length hin
      unfold rowsG at z
      rw [Array.length_toList, List.length_map, hlen] at z
      exact z
    generalize SetTable.insertAt es p (hD w k, Value.ref x) = es1 at hin hes ⊢
    generalize L.take p ++ (Value.ref x, k) :: L.drop p = L1 at pm hlen q3 nd1 hin
    have refs1 : ∀ p ∈ L1, ∃ b, p.1 = Value.ref b := fun p hp => by
      rcases List.mem_cons.mp (pm.mem_iff.mp hp) with e | hp
      · rw [e]; exact ⟨x, rfl⟩
      · exact refs p hp
    have goOn : ∀ t2 : SetTable, t2.mask = t1.mask → t2.place = t1.place → t2.dummies = t1.dummies → t2.led = t1.led →
        wpAny (model P w) A (do
          storeSet a es1 t2
          if (!false && t2.tooFull) = true then do
              setRelay a (SetTable.grown (es.size + 1))
              pure true
            else pure true) Q E s := fun t2 m1 m2 m3 m4 => by
      have T2 : TabOk t2 (hsG w L1) := ⟨by rw [m2]; exact q3.ris, by rw [m3]; exact q3.dm, by rw [m2]; exact q3.sz, by rw [m1]; exact q3.mok, by rw [m1, m2]; exact q3.bd, by rw [m1, m2]; exact q3.reach⟩
      have ld1 : w.params.followText "set-order" = true ∨ t2.led = true := by rw [m4, q5]; exact g.led
      have hsz1 : t2.place.size = es1.size := by
        have z := T2.sz
        rw [List.length_map, hlen] at z
        rw [z, hes]
      have fill2 : t2.fill = L.length + 1 := by
        have z := q9
        rw [List.length_map] at z
        unfold SetTable.fill at z ⊢
        rw [m2, m3]
        exact z
      refine wpAny_bind (wpAny_storeSet_of e1 e3 ?_ (by rw [hes, sizeLine_eq]; omega))
      have sb : Heap.SameBut a s.heap (s.heap.update a (Obj.putSet es1 t2)) := Heap.SameBut.update ..
      have ho1 := store_at (es' := es1) (t' := t2) e1 e3
      generalize s.heap.update a (Obj.putSet es1 t2) = h1 at sb ho1 ⊢
      by_cases hf : t2.tooFull = true
      · have hfull : (L.length + 1) * 5 ≥ t.mask * 3 := by
          have z := hf
          unfold SetTable.tooFull at z
          rw [decide_eq_true_eq, fill2, m1, q4] at z
          exact z
        have two : (t.mask = 7 ∧ L.length = 4) ∨ (t.mask = 31 ∧ L.length = 18) := by
          rcases tab.mok with e | e | e
          · left; rw [e] at hfull room; exact ⟨e, by omega⟩
          · right; rw [e] at hfull room; exact ⟨e, by omega⟩
          · exfalso; rw [e] at hfull; omega
        have fit1 : t2.fits es1.size = true := by
          unfold SetTable.fits
          rw [Bool.and_eq_true, beq_iff_eq, decide_eq_true_eq, fill2, m1, q4]
          refine ⟨hsz1, ?_⟩
          rcases two with ⟨e, e'⟩ | ⟨e, e'⟩ <;> omega
        have go : ∀ M, SetTable.sizeAbove (SetTable.grown (L.length + 1)) - 1 = M → MaskOk M → SetTable.sizeAbove (SetTable.grown (L.length + 1)) ≤ 128 → (L.length + 1) * 5 < M * 3 →
            wpAny (model P w) A (setRelay a (SetTable.grown (L.length + 1))) (fun _ s' => wpAny (model P w) A (pure true) Q E s') E { s with heap := h1 } := fun M z1 z2 z3 z4 => by
          refine again_at (s := { s with heap := h1 }) ho1 ⟨e2.1, e2.2.1, e2.2.2⟩ rfl hin fit1 nd1 refs1 ld1 (by rw [hlen]; exact hfew) z1 z2 z3 (by rw [hlen]; exact z4) ?_
          intro h2 L2 es2 ep2 t2' sb2 g2 pm2
          exact wpAny_pure (hQ true h2 L2 es2 ep2 t2' (sb.trans sb2) g2 (fun z => absurd z hm) fun _ => pm2.trans pm)
        refine wp_if_pos (by rw [hf]; rfl) (wpAny_bind ?_)
        rw [hsl]
        rcases two with ⟨_, e'⟩ | ⟨_, e'⟩
        · refine go 31 (by rw [e', size_20]) (.inr (.inl rfl)) (by rw [e', size_20]; decide) (by omega)
        · refine go 127 (by rw [e', size_76]) (.inr (.inr rfl)) (by rw [e', size_76]; decide) (by omega)
      · have hfree : (L.length + 1) * 5 < t.mask * 3 := by
          have z := hf
          unfold SetTable.tooFull at z
          rw [decide_eq_true_eq, fill2, m1, q4] at z
          omega
        have fit1 : t2.fits es1.size = true := by
          unfold SetTable.fits
          rw [Bool.and_eq_true, beq_iff_eq, decide_eq_true_eq, fill2, m1, q4]
          exact ⟨hsz1, by omega⟩
        refine wp_if_neg (by rw [Bool.eq_false_iff.mpr hf]; decide) (wpAny_pure (hQ true h1 L1 es1 (ep + 1) t2 sb ⟨⟨_, ho1, ⟨e2.1, e2.2.1, e2.2.2⟩, rfl⟩, hin, nd1, fit1, T2.ris, ld1, by rw [hlen]; unfold scanBound; omega, fun _ => ⟨T2, by rw [hlen, m1, q4]; exact hfree, by rw [hlen]; exact hfew, refs1⟩, fun z => nomatch z⟩ (fun z => absurd z hm) fun _ => pm))
    have fin : ∀ b : Bool, wpAny (model P w) A (do
          storeSet a es1 (if b = true then t1 else { t1 with plain := false })
          if (!false && (if b = true then t1 else { t1 with plain := false }).tooFull) = true then do
              setRelay a (SetTable.grown (es.size + 1))
              pure true
            else pure true) Q E s := fun b => by
      cases b with
      | true => exact goOn t1 rfl rfl rfl rfl
      | false => exact goOn { t1 with plain := false } rfl rfl rfl rfl
    obtain ⟨m1, as, r1⟩ := hx
    by_cases hp1 : t1.plain = true
    · exact wp_if_pos hp1 (wpAny_bind (hby_data k 8 (mOk.h m1) (mOk.d m1) r1 fun b => fin b))
    · exact wp_if_neg hp1 (wpAny_bind (wpAny_pure (fin true)))
end
end Mx

/-! M27: ints and texts are put into a set (by scan); a set of a list. -/
namespace Mx
open PySem PySem.Spec PyProof.Rows L2
section
variable {P : Program} {w : World} {A : Around} {E : Value → Shared → Prop} {s : Shared} {a : Addr} {L : List Mb} {es : Array (Int × Value)} {ep : Nat} {t : SetTable}
theorem scan_key {h : Heap} {p : Mb} (hm : MbAt h p) (sc : p.1.scannable = true) : ∃ k : Key, (mixKind P w).is k p.1 = true ∧ p.2 = keyPy k ∧ hD w p.2 = (mixKind P w).hash k := by
  obtain ⟨v, d⟩ := p
  obtain ⟨m1, as, r⟩ := hm
  dsimp only at *
  cases r with
  | int i u => exact ⟨.inl i, by show keyIs (.inl i) (.int i u) = true; simp [keyIs, Value.isInt], rfl, by rw [hD]; rfl⟩
  | str x u => exact ⟨.inr x, by show keyIs (.inr x) (.str x u) = true; simp [keyIs, Value.isStr, Value.isStrOf], rfl, by rw [hD]; rfl⟩
  | none => exact absurd (mOk.h m1) (by rw [hOk] <;> simp)
  | bool b => exact absurd (mOk.h m1) (by rw [hOk] <;> simp)
  | list => cases sc
  | tuple => cases sc
  | dict => cases sc
theorem keyPy_inj {k k' : Key} (e : keyPy k = keyPy k') : k = k' := by
  cases k <;> cases k' <;> simp_all [keyPy]
theorem elemsG {h : Heap} (mb : ∀ p ∈ L, MbAt h p) (sc : ∀ p ∈ L, p.1.scannable = true) : ElemsOf (mixKind P w) (rowsG w L) := fun e he => by
  obtain ⟨p, hp, rfl⟩ := List.mem_map.mp he
  obtain ⟨k, k1, k2, k3⟩ := scan_key (P := P) (w := w) (mb p hp) (sc p hp)
  exact ⟨⟨k, k1, k3⟩, sc p hp⟩
theorem perm_rows {l : List (Int × Value)} {L : List Mb} (h : l.Perm (rowsG w L)) : ∃ L', l = rowsG w L' ∧ L'.Perm L := by
  have gen : ∀ {α β : Type} (f : α → β) {l : List β} {m : List β}, l.Perm m → ∀ L : List α, m = L.map f → ∃ L' : List α, l = L'.map f ∧ L'.Perm L := by
    intro α β f l m h
    induction h with
    | nil => intro L e; exact ⟨[], rfl, by rw [List.map_eq_nil_iff.mp e.symm]⟩
    | cons x h ih =>
      intro L e
      cases L with
      | nil => simp at e
      | cons y L =>
        rw [List.map_cons] at e
        injection e with e1 e2
        obtain ⟨L', a1, a2⟩ := ih L e2
        exact ⟨y :: L', by rw [List.map_cons, a1, e1], a2.cons y⟩
    | swap x y l =>
      intro L e
      match L, e with
      | u :: v :: L, e =>
        rw [List.map_cons, List.map_cons] at e
        injection e with e1 e2
        injection e2 with e2 e3
        exact ⟨v :: u :: L, by rw [List.map_cons, List.map_cons, e1, e2, e3], List.Perm.swap u v L⟩
    | trans h1 h2 ih1 ih2 =>
      intro L e
      obtain ⟨L1, a1, a2⟩ := ih2 L e
      obtain ⟨L2, b1, b2⟩ := ih1 L1 a1
      exact ⟨L2, b1, b2.trans a2⟩
  exact gen _ h L rfl
/-- behind the scan: stored, and the table laid anew if it is full -/
theorem scan_tail {g : Bool → Sem Unit} (hg : ∀ (b : Bool) (s₁ : Shared) (Q' : Unit → Shared → Prop), Q' () s₁ → wpAny (model P w) A (g b) Q' E s₁) {o : Obj} (ho : s.heap.get? a = some o) (hex : o.ExactSet) (hd : o.data = .set es ep t)
    {L1 : List Mb} {es1 : Array (Int × Value)} {t2 : SetTable} (r1 : es1.toList = rowsG w L1) (nd1 : (L1.map (·.2)).Nodup) (sc1 : ∀ p ∈ L1, p.1.scannable = true) (few1 : L1.length < scanBound) (hf2 : t2.fits es1.size = true) (hr : Ris t2.place.toList)
    (hl : w.params.followText "set-order" = true ∨ t2.led = true) {wasDummy : Bool} {R : Option Bool → Shared → Prop}
    (hR : ∀ h' L' es' ep' t', Heap.SameBut a s.heap h' → SetG w h' a false L' es' ep' t' → L'.Perm L1 → R (some true) { s with heap := h' }) :
    wpAny (model P w) A (do
        storeSet a es1 t2
        if (!wasDummy && t2.tooFull) = true then do
            g (relayAll t2 es1 (SetTable.grown es1.size)).2.2
            storeSet a (relayAll t2 es1 (SetTable.grown es1.size)).1 (relayAll t2 es1 (SetTable.grown es1.size)).2.1
            pure (some true)
          else pure (some true)) R E s := by
  have hz1 : es1.size = L1.length := by
    have e := congrArg List.length r1
    unfold rowsG at e
    rw [Array.length_toList, List.length_map] at e
    exact e
  refine wpAny_bind (wpAny_storeSet_of ho hd ?_ (fits_of_scanBound (by rw [hz1]; exact few1)))
  have ho1 := store_at (es' := es1) (t' := t2) ho hd
  have sb1 := Heap.SameBut.update s.heap a (Obj.putSet es1 t2)
  split
  · have pm := relayAll_perm t2 es1 (SetTable.grown es1.size)
    have f3 := relayAll_fits t2 es1 (SetTable.grown es1.size)
    have i3 := relayAll_ris t2 es1 (SetTable.grown es1.size)
    have l3 := relayAll_led t2 es1 (SetTable.grown es1.size)
    generalize relayAll t2 es1 (SetTable.grown es1.size) = Z at pm f3 i3 l3 ⊢
    obtain ⟨es2, t3, gave⟩ := Z
    dsimp only at pm f3 i3 l3 ⊢
    rw [r1] at pm
    obtain ⟨L2, r2, p2⟩ := perm_rows pm
    have few2 : L2.length < scanBound := by rw [p2.length_eq]; exact few1
    have hz2 : es2.size = L2.length := by
      have e := congrArg List.length r2
      unfold rowsG at e
      rw [Array.length_toList, List.length_map] at e
      exact e
    refine wpAny_bind (hg _ _ _ ?_)
    refine wpAny_bind (wpAny_storeSet_of ho1 rfl ?_ (fits_of_scanBound (by rw [hz2]; exact few2)))
    have ho2 := store_at (es' := es2) (t' := t3) ho1 rfl
    refine wpAny_pure (hR _ L2 es2 _ t3 (sb1.trans (Heap.SameBut.update _ a _)) ⟨⟨_, ho2, hex, rfl⟩, r2, (p2.map (·.2)).nodup_iff.mpr nd1, f3, i3, hl.imp id fun z => by rw [l3]; exact z, few2, fun z => (nomatch z), fun _ p hp => sc1 p (p2.mem_iff.mp hp)⟩ p2)
  · exact wpAny_pure (hR _ L1 es1 _ t2 sb1 ⟨⟨_, ho1, hex, rfl⟩, r1, nd1, hf2, hr, hl, few1, fun z => (nomatch z), fun _ => sc1⟩ (List.Perm.refl _))
theorem add_scan (g : SetG w s.heap a false L es ep t) (mb : ∀ p ∈ L, MbAt s.heap p) {v : Value} {k : PyData} (hx : MbAt s.heap (v, k)) (hsc : v.scannable = true) (room : L.length + 1 < scanBound) {Q : Bool → Shared → Prop}
    (hQ : ∀ b h' L' es' ep' t', Heap.SameBut a s.heap h' → SetG w h' a false L' es' ep' t' → (k ∈ L.map (·.2) → L' = L) → (k ∉ L.map (·.2) → L'.Perm ((v, k) :: L)) → Q b { s with heap := h' }) :
    wpAny (model P w) A (setAddHashed a v (hD w k)) Q E s := by
  obtain ⟨oo, e1, e2, e3⟩ := g.ob
  have hsl := g.size
  obtain ⟨kk, k1, k2, k3⟩ := scan_key (P := P) (w := w) hx hsc
  dsimp only at k1 k2 k3
  have hel : ElemsOf (mixKind P w) es.toList := by rw [g.rows]; exact elemsG mb (g.kF rfl)
  have hb : es.size < scanBound := by rw [hsl]; exact g.few
  unfold setAddHashed setAddHashedIn
  refine wpAny_holding (wpAny_bind (wpAny_setState_of e1 e3 g.fit ?_))
  dsimp only
  rw [byScan_of hsc hb hel]
  simp only [↓reduceIte]
  unfold setAddByScan
  refine wpAny_bind (wpAny_bind (wpAny_rule ?_))
  rw [k3]
  refine wpAny_bind (wpAny_setScan_of k1 e1 e3 g.fit hel ?_)
  have same : ∀ p ∈ L, (mixKind P w).is kk p.1 = true ↔ p.2 = k := fun p hp => by
    obtain ⟨k', c1, c2, c3⟩ := scan_key (P := P) (w := w) (mb p hp) (g.kF rfl p hp)
    constructor
    · intro z
      rw [c2, k2, (mixKind P w).inj _ _ _ c1 z]
    · intro z
      rw [z, k2] at c2
      rw [keyPy_inj c2]
      exact c1
  cases hfi : List.findIdx? (fun e => (mixKind P w).is kk e.2) es.toList with
  | some j =>
    dsimp only
    obtain ⟨hj, pj, _⟩ := List.findIdx?_eq_some_iff_getElem.mp hfi
    have hin : k ∈ L.map (·.2) := by
      have hm : es.toList[j] ∈ rowsG w L := by
        rw [← g.rows]
        exact List.getElem_mem hj
      obtain ⟨p, hp, ep'⟩ := List.mem_map.mp hm
      have : (es.toList[j]).2 = p.1 := by rw [← ep']
      rw [this] at pj
      exact List.mem_map.mpr ⟨p, hp, (same p hp).1 pj⟩
    exact wpAny_pure (wpAny_pure (hQ false s.heap L es ep t (Heap.SameBut.refl a s.heap) g (fun _ => rfl) fun z => absurd hin z))
  | none =>
    dsimp only
    have hnk : k ∉ L.map (·.2) := fun z => by
      obtain ⟨p, hp, e⟩ := List.mem_map.mp z
      have c := List.findIdx?_eq_none_iff.mp hfi (hD w p.2, p.1) (by rw [g.rows]; exact List.mem_map.mpr ⟨p, hp, rfl⟩)
      dsimp only at c
      rw [(same p hp).2 e] at c
      cases c
    have hgw : ∀ (b : Bool) {s₁ : Shared} {Q' : Unit → Shared → Prop}, Q' () s₁ → wpAny (model P w) A (match b with | true => rule "set.scan.the-table-gave-way" | false => pure ()) Q' E s₁ := fun b s₁ Q' q => by cases b <;> first | exact wpAny_pure q | exact wpAny_rule q
    have pm := layNew_perm t es ((mixKind P w).hash kk) v
    have f1 := layNew_fits t es ((mixKind P w).hash kk) v
    have i1 := layNew_ris t es ((mixKind P w).hash kk) v g.ris
    have l1 := layNew_led t es ((mixKind P w).hash kk) v
    generalize layNew t es ((mixKind P w).hash kk) v = Z at pm f1 i1 l1 ⊢
    obtain ⟨es1, t1, wasDummy, gave⟩ := Z
    dsimp only at pm f1 i1 l1 ⊢
    rw [Array.toList_push, g.rows, ← k3] at pm
    have pm2 : es1.toList.Perm (rowsG w ((v, k) :: L)) := pm.trans (List.perm_append_singleton _ _)
    obtain ⟨L1, r1, p1⟩ := perm_rows pm2
    have nd1 : (L1.map (·.2)).Nodup := (p1.map (·.2)).nodup_iff.mpr (by rw [List.map_cons]; exact List.nodup_cons.mpr ⟨hnk, g.nd⟩)
    have sc1 : ∀ p ∈ L1, p.1.scannable = true := fun p hp => by
      rcases List.mem_cons.mp (p1.mem_iff.mp hp) with e | z
      · rw [e]; exact hsc
      · exact g.kF rfl p z
    have few1 : L1.length < scanBound := by rw [p1.length_eq]; exact room
    have led1 : w.params.followText "set-order" = true ∨ t1.led = true := g.led.imp id fun z => by rw [l1]; exact z
    have fin : ∀ h' L' es' ep' t', Heap.SameBut a s.heap h' → SetG w h' a false L' es' ep' t' → L'.Perm L1 → Q true { s with heap := h' } := fun h' L' es' ep' t' sb g' p' =>
      hQ true h' L' es' ep' t' sb g' (fun z => absurd z hnk) fun _ => p'.trans p1
    refine wpAny_bind (hgw _ ?_)
    split
    · refine wpAny_bind ?_
      rw [hashByValue_scannable 8 hsc]
      refine wpAny_pure ?_
      refine scan_tail (fun b s₁ Q' q => by cases b <;> first | exact wpAny_pure q | exact wpAny_rule q) e1 e2 e3 r1 nd1 sc1 few1 ?_ ?_ ?_ fun h' L' es' ep' t' sb g' p' => ?_
      · first | (split <;> first | exact f1 | exact SetTable.fits_plain_off f1) | exact f1
      · first | (split <;> exact i1) | exact i1
      · first | (split <;> exact led1) | exact led1
      · dsimp only; exact wpAny_pure (fin h' L' es' ep' t' sb g' p')
    · refine wpAny_bind (wpAny_pure ?_)
      simp only [↓reduceIte]
      refine scan_tail (fun b s₁ Q' q => by cases b <;> first | exact wpAny_pure q | exact wpAny_rule q) e1 e2 e3 r1 nd1 sc1 few1 f1 i1 led1 fun h' L' es' ep' t' sb g' p' => ?_
      dsimp only; exact wpAny_pure (fin h' L' es' ep' t' sb g' p')
/-- what kind of set takes it -/
def kindOk (tb : Bool) (p : Mb) : Prop := if tb = true then ∃ b, p.1 = Value.ref b else p.1.scannable = true
def capG (tb : Bool) : Nat := if tb = true then 63 else 4000
theorem add_G {tb : Bool} (g : SetG w s.heap a tb L es ep t) (mb : ∀ p ∈ L, MbAt s.heap p) {v : Value} {k : PyData} (hx : MbAt s.heap (v, k)) (hk : kindOk tb (v, k)) (hu : A.units + 8 < cLine) (room : L.length + 1 ≤ capG tb) {Q : Bool → Shared → Prop}
    (hQ : ∀ b h' L' es' ep' t', Heap.SameBut a s.heap h' → SetG w h' a tb L' es' ep' t' → (k ∈ L.map (·.2) → L' = L) → (k ∉ L.map (·.2) → L'.Perm ((v, k) :: L)) → Q b { s with heap := h' }) :
    wpAny (model P w) A (setAddHashed a v (hD w k)) Q E s := by
  cases tb with
  | true =>
    obtain ⟨b, e⟩ := hk
    dsimp only at e
    subst e
    exact add_tab g mb hx hu (by simp [capG] at room; omega) hQ
  | false => exact add_scan g mb hx hk (by simp [capG] at room; unfold scanBound; omega) hQ
end
/-- what the set has got of the first i items -/
structure GotG (ks : List Mb) (i : Nat) (L : List Mb) : Prop where
  sub : ∀ p ∈ L, p ∈ ks.take i
  all : ∀ p ∈ ks.take i, p.2 ∈ L.map (·.2)
  len : L.length ≤ i
theorem GotG.zero (ks : List Mb) : GotG ks 0 [] := ⟨fun p h => (by cases h), fun p h => (by simp at h), Nat.le_refl _⟩
theorem GotG.next {ks L L' : List Mb} {i : Nat} {x : Mb} (g : GotG ks i L) (h : ks[i]? = some x) (c1 : x.2 ∈ L.map (·.2) → L' = L) (c2 : x.2 ∉ L.map (·.2) → L'.Perm (x :: L)) : GotG ks (i + 1) L' := by
  have tk := take_next h
  rcases Classical.em (x.2 ∈ L.map (·.2)) with c | c
  · rw [c1 c]
    refine ⟨fun p hp => ?_, fun p hp => ?_, Nat.le_succ_of_le g.len⟩
    · rw [tk]; exact List.mem_append_left _ (g.sub p hp)
    · rw [tk] at hp
      rcases List.mem_append.mp hp with z | z
      · exact g.all p z
      · rw [List.mem_singleton.mp z]; exact c
  · have pm := c2 c
    refine ⟨fun p hp => ?_, fun p hp => ?_, ?_⟩
    · rw [tk]
      rcases List.mem_cons.mp (pm.mem_iff.mp hp) with e | z
      · rw [e]; exact List.mem_append_right _ (List.mem_singleton.mpr rfl)
      · exact List.mem_append_left _ (g.sub p z)
    · rw [(pm.map (·.2)).mem_iff, List.map_cons]
      rw [tk] at hp
      rcases List.mem_append.mp hp with z | z
      · exact List.mem_cons_of_mem _ (g.all p z)
      · rw [List.mem_singleton.mp z]; exact List.mem_cons_self
    · rw [pm.length_eq, List.length_cons]
      exact Nat.succ_le_succ g.len
section
variable {P : Program} {w : World} {A : Around} {E : Value → Shared → Prop} {s : Shared}
theorem setG_fresh {h : Heap} {a : Addr} (tb : Bool) (ho : h.get? a = some { cls := .type "set", dict := none, data := .set #[] 0 (.fresh 0 0 (!w.params.followText "set-order")) }) : SetG w h a tb [] #[] 0 (.fresh 0 0 (!w.params.followText "set-order")) where
  ob := ⟨_, ho, ⟨rfl, rfl, rfl⟩, rfl⟩
  rows := rfl
  nd := List.nodup_nil
  fit := rfl
  ris := List.Pairwise.nil
  led := by
    show _ ∨ (!w.params.followText "set-order") = true
    cases w.params.followText "set-order"
    · exact .inr rfl
    · exact .inl rfl
  few := by show 0 < scanBound; unfold scanBound; omega
  kT := fun _ => ⟨⟨List.Pairwise.nil, rfl, rfl, .inl rfl, fun x hx => (by cases hx), fun i h j hi => (by simp at hi)⟩, by show 0 * 5 < 7 * 3; decide, by show 0 < 64; decide, fun p hp => (by cases hp)⟩
  kF := fun _ p hp => by cases hp
theorem set_ne_tuple {h : Heap} {a : Addr} {tb : Bool} {L : List Mb} {es : Array (Int × Value)} {ep : Nat} {t : SetTable} (g : SetG w h a tb L es ep t) : ∀ o, h.get? a = some o → o.cls ≠ .type "tuple" := fun o e z => by
  obtain ⟨o', e1, e2, e3⟩ := g.ob
  obtain rfl : o = o' := Option.some.inj (e.symm.trans e1)
  rw [e2.1] at z
  injection z with z
  exact absurd z (by decide)
/-- update's loop -/
theorem update_G {tb : Bool} {I : Addr} {fp wr : List Addr} {G : Array GenState → Array GenState → Prop} {n : Nat} {Pv : Nat → Value → Prop} {St : Nat → Shared → Prop} {R : Result → Shared → Prop}
    (W : WalksS P w A.in1 I fp wr G n Pv St) (S : Addr) (hSf : S ∉ fp) (ks : List Mb) (hn : n = ks.length) (cap : ks.length ≤ capG tb) (hval : ∀ i v, Pv i v → ∃ p, ks[i]? = some p ∧ v = p.1)
    (h0 : Heap) (hk : ∀ p ∈ ks, MbAt h0 p ∧ kindOk tb p) (hS0 : h0.get? S = none) (hw0 : ∀ b ∈ wr, h0.get? b = none) (hu : A.in1.units + 16 < cLine) :
    ∀ (k i : Nat) (s : Shared), n - i = k → i ≤ n → St i s → (∀ b o, h0.get? b = some o → s.heap.get? b = some o) → (∃ L es ep t, SetG w s.heap S tb L es ep t ∧ GotG ks i L) →
      (∀ s' L es ep t, Moved (S :: wr) G s s' → SetG w s'.heap S tb L es ep t → GotG ks n L → (∀ b o, h0.get? b = some o → s'.heap.get? b = some o) → R (.ok (.ret .none)) s') →
      codeAny (model P w) A (.builtin "set.update.loop" ⟨[.ref S, .ref I], []⟩) R s := by
  have hSw : S ∉ wr := fun h => hSf (W.sub _ h)
  have up : ∀ b ∈ wr, b ∈ S :: wr := fun b hb => List.mem_cons_of_mem _ hb
  have keepM : ∀ {s s' : Shared}, Moved wr G s s' → (∀ b o, h0.get? b = some o → s.heap.get? b = some o) → ∀ b o, h0.get? b = some o → s'.heap.get? b = some o := fun hm hkp b o e => hm.heap b o (fun hb => by rw [hw0 b hb] at e; cases e) (hkp b o e)
  intro k
  induction k with
  | zero =>
    intro i s hk' hi hst hkp ⟨L, es, ep, t, hS, g⟩ hR
    obtain rfl : i = n := by omega
    refine codeAny_builtin F.entry_set_update_loop ?_
    rw [Around.under_plainId F.plain_set_update_loop _]
    show wpAny _ A.in1 (pyNext (.ref I) >>= _) _ _ s
    refine wpAny_bind (W.done s _ _ hst fun s' hm => ?_)
    show wpAny _ A.in1 (ret Value.none) _ _ s'
    exact wpAny_pure (hR s' L es ep t (hm.mono up) (hS.keep fun o e => hm.heap S o hSw e) g (keepM hm hkp))
  | succ k ih =>
    intro i s hk' hi hst hkp ⟨L, es, ep, t, hS, g⟩ hR
    have hlt : i < n := by omega
    refine codeAny_builtin F.entry_set_update_loop ?_
    rw [Around.under_plainId F.plain_set_update_loop _]
    show wpAny _ A.in1 (pyNext (.ref I) >>= _) _ _ s
    refine wpAny_bind (W.item i s _ _ hlt hst fun v s' hP hst' hm => ?_)
    obtain ⟨p, hp, rfl⟩ := hval i v hP
    have kp2 := keepM hm hkp
    have hS2 : SetG w s'.heap S tb L es ep t := hS.keep fun o e => hm.heap S o hSw e
    have mb : ∀ q ∈ L, MbAt s'.heap q := fun q hq => (hk q (List.mem_of_mem_take (g.sub q hq))).1.keep kp2
    have hx : MbAt s'.heap p := (hk p (List.mem_of_getElem? hp)).1.keep kp2
    obtain ⟨x1, as, x2⟩ := id hx
    have xd := mOk.d x1
    show wpAny _ A.in1 (holding [p.1] (setAdd S p.1) >>= _) _ _ s'
    refine wpAny_bind (wpAny_holding ?_)
    unfold setAdd
    refine wpAny_holding ?_
    refine wpAny_bind (hash_data p.2 (mOk.h x1) (by omega) x2 fun tk tkle => ?_)
    refine add_G (s := { s' with toks := tk }) hS2 mb hx (hk p (List.mem_of_getElem? hp)).2 (by omega) (by have := g.len; omega) fun b h' L' es' ep' t' hsb hS3 c1 c2 => ?_
    have g' : GotG ks (i + 1) L' := g.next hp c1 c2
    have kp3 : ∀ b o, h0.get? b = some o → h'.get? b = some o := fun b o e => (hsb.2 b (fun z => by rw [z, hS0] at e; cases e)).trans (kp2 b o e)
    refine wpAny_pure ⟨plainId_quiet F.plain_set_update_loop _, ih (i + 1) _ (by omega) hlt (W.frame _ s' _ _ hst' tkle fun b hb o e => ?_) kp3 ⟨L', es', ep', t', hS3, g'⟩ fun s'' L2 es2 ep2 t2 hm2 hS4 g2 kp4 => ?_⟩
    · rw [hsb.2 b (fun h : b = S => hSf (by rw [← h]; exact hb))]; exact e
    · refine hR s'' L2 es2 ep2 t2 (Moved.trans W.gtrans ((hm.mono up).then_heap tkle fun b o hb e => ?_) hm2) hS4 g2 kp4
      rw [hsb.2 b (fun h : b = S => hb (by rw [h]; exact List.mem_cons_self))]; exact e
end
end Mx

/-! M28: set(list), sorted(set), the order of data. -/
namespace Mx
open PySem PySem.Spec PyProof.Rows L2 PySem.W

section
variable {h : Heap}
mutual
theorem reads_nil : ∀ (p : PyData) {v : Value} {as : List Addr}, hOk p = true → Reads h v p as → as = []
  | .int _, _, _, _, r => by cases r; rfl
  | .str _, _, _, _, r => by cases r; rfl
  | .tuple ps, _, _, ok, r => by
    cases r with
    | @tuple b o vs n _ _ e1 e2 e3 e4 =>
      rw [hOk] at ok
      exact reads_nilL ps ok e4
  | .none, _, _, ok, _ => by rw [hOk] at ok <;> first | cases ok | simp
  | .bool _, _, _, ok, _ => by rw [hOk] at ok <;> first | cases ok | simp
  | .list _, _, _, ok, _ => by rw [hOk] at ok <;> first | cases ok | simp
  | .dict _, _, _, ok, _ => by rw [hOk] at ok <;> first | cases ok | simp
theorem reads_nilL : ∀ (ps : List PyData) {vs : List Value} {as : List Addr}, hOkL ps = true → ReadsAll h vs ps as → as = []
  | [], _, _, _, r => by cases r; rfl
  | p :: ps, _, _, ok, r => by
    cases r with
    | cons r1 r2 =>
      rw [hOkL, Bool.and_eq_true] at ok
      rw [reads_nil p ok.1 r1, reads_nilL ps ok.2 r2] <;> rfl
end
end
/-! ### the order -/
theorem dlt_irr (p : PyData) : dataLt p p = false := lex_irrefl _
theorem dlt_trans {p q r : PyData} (h1 : dataLt p q = true) (h2 : dataLt q r = true) : dataLt p r = true := lex_trans _ _ _ h1 h2
theorem dlt_anti {p q : PyData} (al : alike p q = true) (hp : hOk p = true) (hq : hOk q = true) (h1 : dataLt p q = false) (h2 : dataLt q p = false) : p = q := by
  have e : keyToks p = keyToks q := lex_total _ _ h1 h2
  cases z : PyData.eqv p q with
  | true => exact (eqv_iff p q hp hq).1 z
  | false =>
    exfalso
    have k := (toks_eqv p q al).2 z
    have k1 := k [] []
    have k2 := k [] [.inl 0]
    rw [e] at k1 k2
    rw [lex_pre] at k1 k2
    rw [← k1] at k2
    revert k2
    decide
def leD (p q : PyData) : Bool := !dataLt q p
theorem leD_le {β : Type} (k : β → PyData) : dataLe false k = fun a b => leD (k a) (k b) := rfl
theorem leD_total (p q : PyData) : (leD p q || leD q p) = true := by
  unfold leD
  cases z : dataLt q p with
  | false => rfl
  | true =>
    cases y : dataLt p q with
    | false => rfl
    | true =>
      have := dlt_trans z y
      rw [dlt_irr] at this
      cases this
theorem leD_trans (p q r : PyData) (h1 : leD p q = true) (h2 : leD q r = true) : leD p r = true := by
  unfold leD at *
  cases z : dataLt r p with
  | false => rfl
  | true =>
    rcases lex_negTrans _ (keyToks q) _ z with c | c
    · rw [show dataLt r q = true from c] at h2; cases h2
    · rw [show dataLt q p = true from c] at h1; cases h1
/-- two ascending lists of the same members -/
theorem sorted_eq : ∀ {l m : List PyData}, l.Perm m → l.Pairwise (fun a b => leD a b = true) → m.Pairwise (fun a b => leD a b = true) → (∀ a ∈ l, ∀ b ∈ l, alike a b = true) → (∀ a ∈ l, hOk a = true) → l = m
  | [], m, h, _, _, _, _ => (List.nil_perm.mp h).symm
  | x :: l, [], h, _, _, _, _ => absurd h.length_eq (by simp)
  | x :: l, y :: m, h, hl, hm, al, ok => by
    have mx : x ∈ y :: m := h.mem_iff.mp List.mem_cons_self
    have my : y ∈ x :: l := h.mem_iff.mpr List.mem_cons_self
    have e : x = y := by
      rcases List.mem_cons.mp mx with z | z
      · exact z
      · rcases List.mem_cons.mp my with w | w
        · exact w.symm
        · have a1 := (List.pairwise_cons.mp hl).1 y w
          have a2 := (List.pairwise_cons.mp hm).1 x z
          unfold leD at a1 a2
          refine dlt_anti (al x List.mem_cons_self y my) (ok x List.mem_cons_self) (ok y my) ?_ ?_
          · simpa using a2
          · simpa using a1
    subst e
    rw [sorted_eq ((List.perm_cons x).mp h) (List.pairwise_cons.mp hl).2 (List.pairwise_cons.mp hm).2 (fun a ha b hb => al a (List.mem_cons_of_mem _ ha) b (List.mem_cons_of_mem _ hb)) fun a ha => ok a (List.mem_cons_of_mem _ ha)]
/-- each member once -/
def ddp : List PyData → List PyData
  | [] => []
  | p :: ps => if (ddp ps).any (fun q => PyData.eqv p q) then ddp ps else p :: ddp ps
def insD (p : PyData) : List PyData → List PyData
  | [] => [p]
  | q :: qs => if leD p q then p :: q :: qs else q :: insD p qs
/-- sorted, each member once -/
def srt (ps : List PyData) : List PyData := (ddp ps).foldr insD []
theorem insD_perm (p : PyData) : ∀ l : List PyData, (insD p l).Perm (p :: l)
  | [] => List.Perm.refl _
  | q :: qs => by
    rw [insD]
    split
    · exact List.Perm.refl _
    · exact ((insD_perm p qs).cons q).trans (List.Perm.swap p q qs)
theorem insD_le (p : PyData) : ∀ l : List PyData, l.Pairwise (fun a b => leD a b = true) → (insD p l).Pairwise (fun a b => leD a b = true)
  | [], _ => by simp [insD]
  | q :: qs, h => by
    have h' := List.pairwise_cons.mp h
    rw [insD]
    split
    · rename_i c
      refine List.pairwise_cons.mpr ⟨fun a ha => ?_, h⟩
      rcases List.mem_cons.mp ha with z | z
      · rw [z]; exact c
      · exact leD_trans p q a c (h'.1 a z)
    · rename_i c
      refine List.pairwise_cons.mpr ⟨fun a ha => ?_, insD_le p qs h'.2⟩
      rcases List.mem_cons.mp ((insD_perm p qs).mem_iff.mp ha) with z | z
      · have t := leD_total q p
        rw [Bool.or_eq_true] at t
        rw [z]
        exact t.resolve_right c
      · exact h'.1 a z
theorem isort_perm : ∀ l : List PyData, (l.foldr insD []).Perm l
  | [] => List.Perm.refl _
  | p :: l => (insD_perm p _).trans ((isort_perm l).cons p)
theorem isort_le : ∀ l : List PyData, (l.foldr insD []).Pairwise (fun a b => leD a b = true)
  | [] => List.Pairwise.nil
  | p :: l => insD_le p _ (isort_le l)
theorem ddp_sub : ∀ (ps : List PyData) {x : PyData}, x ∈ ddp ps → x ∈ ps
  | [], x, h => by simp [ddp] at h
  | p :: ps, x, h => by
    rw [ddp] at h
    split at h
    · exact List.mem_cons_of_mem _ (ddp_sub ps h)
    · rcases List.mem_cons.mp h with z | z
      · rw [z]; exact List.mem_cons_self
      · exact List.mem_cons_of_mem _ (ddp_sub ps z)
theorem ddp_mem : ∀ (ps : List PyData) (ok : ∀ p ∈ ps, hOk p = true) {x : PyData}, x ∈ ddp ps ↔ x ∈ ps
  | [], _, x => by simp [ddp]
  | p :: ps, ok, x => by
    have ih := ddp_mem ps (fun q hq => ok q (List.mem_cons_of_mem _ hq)) (x := x)
    rw [ddp]
    split
    · rename_i h
      obtain ⟨q, hq, e⟩ := List.any_eq_true.mp h
      have eq := (eqv_iff p q (ok p List.mem_cons_self) (ok q (List.mem_cons_of_mem _ (ddp_sub ps hq)))).1 e
      rw [ih]
      refine ⟨List.mem_cons_of_mem _, fun z => ?_⟩
      rcases List.mem_cons.mp z with z | z
      · rw [z, eq]; exact ddp_sub ps hq
      · exact z
    · rw [List.mem_cons, List.mem_cons, ih]
theorem ddp_nodup : ∀ (ps : List PyData) (ok : ∀ p ∈ ps, hOk p = true), (ddp ps).Nodup
  | [], _ => by simp [ddp]
  | p :: ps, ok => by
    have ih := ddp_nodup ps fun q hq => ok q (List.mem_cons_of_mem _ hq)
    rw [ddp]
    split
    · exact ih
    · rename_i h
      refine List.nodup_cons.mpr ⟨fun z => h ?_, ih⟩
      exact List.any_eq_true.mpr ⟨p, z, (eqv_iff p p (ok p List.mem_cons_self) (ok p List.mem_cons_self)).2 rfl⟩
theorem ddp_len : ∀ (ps : List PyData), (ddp ps).length ≤ ps.length
  | [] => Nat.le_refl _
  | p :: ps => by
    rw [ddp]
    have := ddp_len ps
    split <;> simp <;> omega
theorem srt_perm (ps : List PyData) : (srt ps).Perm (ddp ps) := isort_perm _
theorem srt_mem {ps : List PyData} (ok : ∀ p ∈ ps, hOk p = true) {x : PyData} : x ∈ srt ps ↔ x ∈ ps := by
  rw [(srt_perm ps).mem_iff, ddp_mem ps ok]
theorem srt_nodup {ps : List PyData} (ok : ∀ p ∈ ps, hOk p = true) : (srt ps).Nodup := (srt_perm ps).nodup_iff.mpr (ddp_nodup ps ok)
theorem srt_le (ps : List PyData) : (srt ps).Pairwise (fun a b => leD a b = true) := isort_le _
/-- what has the same members, each once, ascending -/
theorem srt_is {ps l : List PyData} (ok : ∀ p ∈ ps, hOk p = true) (al : ∀ a ∈ ps, ∀ b ∈ ps, alike a b = true) (nd : l.Nodup) (mem : ∀ x, x ∈ l ↔ x ∈ ps) (so : l.Pairwise (fun a b => leD a b = true)) : l = srt ps := by
  refine sorted_eq ((List.perm_ext_iff_of_nodup nd (srt_nodup ok)).mpr fun x => ?_) so (srt_le ps) (fun a ha b hb => al a ((mem a).1 ha) b ((mem b).1 hb)) fun a ha => ok a ((mem a).1 ha)
  rw [mem x, srt_mem ok]
theorem srt_ext {ps qs : List PyData} (ok : ∀ p ∈ ps, hOk p = true) (al : ∀ a ∈ ps, ∀ b ∈ ps, alike a b = true) (h : ∀ x, x ∈ qs ↔ x ∈ ps) : srt qs = srt ps := by
  have okq : ∀ p ∈ qs, hOk p = true := fun p hp => ok p ((h p).1 hp)
  exact srt_is ok al (srt_nodup okq) (fun x => by rw [srt_mem okq, h x]) (srt_le qs)

theorem perm_map {α β : Type} (f : α → β) {l m : List β} (h : l.Perm m) : ∀ L : List α, m = L.map f → ∃ L' : List α, l = L'.map f ∧ L'.Perm L := by
  induction h with
  | nil => intro L e; exact ⟨[], rfl, by rw [List.map_eq_nil_iff.mp e.symm]⟩
  | cons x h ih =>
    intro L e
    cases L with
    | nil => simp at e
    | cons y L =>
      rw [List.map_cons] at e
      injection e with e1 e2
      obtain ⟨L', a1, a2⟩ := ih L e2
      exact ⟨y :: L', by rw [List.map_cons, a1, e1], a2.cons y⟩
  | swap x y l =>
    intro L e
    match L, e with
    | u :: v :: L, e =>
      rw [List.map_cons, List.map_cons] at e
      injection e with e1 e2
      injection e2 with e2 e3
      exact ⟨v :: u :: L, by rw [List.map_cons, List.map_cons, e1, e2, e3], List.Perm.swap u v L⟩
  | trans h1 h2 ih1 ih2 =>
    intro L e
    obtain ⟨L1, a1, a2⟩ := ih2 L e
    obtain ⟨L2, b1, b2⟩ := ih1 L1 a1
    exact ⟨L2, b1, b2.trans a2⟩
section
variable {P : Program} {w : World} {A : Around} {E : Value → Shared → Prop} {s : Shared}
theorem each_self {α : Type} (f : α → Value) {R : Value → α → Prop} : ∀ (l : List α), (∀ x ∈ l, R (f x) x) → EachIs R (l.map f) l
  | [], _ => .nil
  | x :: l, h => .cons (h x List.mem_cons_self) (each_self f l fun y hy => h y (List.mem_cons_of_mem _ hy))
/-- sorted(a set) -/
theorem sorted_G {a : Addr} {tb : Bool} {L : List Mb} {es : Array (Int × Value)} {ep : Nat} {t : SetTable} (g : SetG w s.heap a tb L es ep t) (mb : ∀ p ∈ L, MbAt s.heap p) (hh : A.handled = none) (al : AllAlike (L.map (·.2))) (so : Sortable (L.map (·.2))) (hu : A.units + 12 < cLine) {Q : Value → Shared → Prop}
    (hQ : ∀ s' b (out : List Mb) (c : Nat), (∀ b o, s.heap.get? b = some o → s'.heap.get? b = some o) → s'.gens = s.gens → s'.os = s.os → s.heap.objs.size ≤ b →
      s'.heap.get? b = some (seqObj "list" (out.map (·.1)).toArray c) → out.Perm L → (out.map (·.2)).Pairwise (fun a b => leD a b = true) → Q (.ref b) s') :
    wpAny (model P w) A (call (.builtin "sorted") [.ref a]) Q E s := by
  obtain ⟨o, e1, e2, e3⟩ := g.ob
  have hsz := g.size
  have hes : es.toList.map (·.2) = L.map (·.1) := by
    rw [g.rows]
    unfold rowsG
    rw [List.map_map] <;> rfl
  refine Calls.call_function_entry kind_sorted plain_sorted entry_sorted (args_sorted1 _) ?_
  unfold Builtin.«sorted»
  refine wpAny_bind (m := checkCount "sorted" 1 1 _) (wpAny_pure ?_)
  refine wpAny_bind (collect_set (A := A.in1) hh ⟨o, e1, e2.1, e3⟩ g.fit (by rw [hsz]; exact g.few) g.ris g.led fun s1 vs k1 hz g1 o1 pm => ?_)
  rw [hes] at pm
  obtain ⟨L1, ev, pL⟩ := perm_map (fun p : Mb => p.1) pm L rfl
  subst ev
  have few1 : L1.length < 4096 := by rw [pL.length_eq]; exact g.few
  refine wpAny_bind (wpAny_newList ?_ (by rw [List.length_map, sizeLine_eq]; omega))
  have hoL : (s1.heap.push (seqObj "list" (L1.map (·.1)).toArray 0)).get? s1.heap.objs.size = some (seqObj "list" (L1.map (·.1)).toArray 0) := Heap.get?_push_size _ rfl
  have mb1 : ∀ p ∈ L1, MbAt (s1.heap.push (seqObj "list" (L1.map (·.1)).toArray 0)) p := fun p hp => (mb p (pL.mem_iff.mp hp)).keep fun b u e => Heap.get?_push_of_some _ (k1 b u e)
  have noA : ∀ p ∈ L1, ∃ as, Reads (s1.heap.push (seqObj "list" (L1.map (·.1)).toArray 0)) p.1 p.2 as ∧ s1.heap.objs.size ∉ as := fun p hp => by
    obtain ⟨m1, as, r⟩ := mb p (pL.mem_iff.mp hp)
    have r1 : Reads s1.heap p.1 p.2 as := PyProof.Rows.Reads.keeps k1 r
    refine ⟨as, PyProof.Rows.Reads.keeps (fun b u e => Heap.get?_push_of_some _ e) r1, fun z => ?_⟩
    rw [reads_nil p.2 (mOk.h m1) r1] at z
    cases z
  refine wpAny_bind (wpAny_holding (list_sort_data (s := { s1 with heap := s1.heap.push (seqObj "list" (L1.map (·.1)).toArray 0) }) (R := fun v p => v = p.1) (bs := L1) (enc := fun p => p.2) hoL (each_self _ L1 fun _ _ => rfl) (each_self _ L1 noA)
    (fun d hd d' hd' => al d ((pL.map (·.2)).mem_iff.mp hd) d' ((pL.map (·.2)).mem_iff.mp hd')) ?_ (by rw [sizeLine_eq]; omega) (fun p hp => ?_) fun out ho eo => ?_))
  · rcases so with so | so
    · exact .inl fun d hd => so d ((pL.map (·.2)).mem_iff.mp hd)
    · exact .inr fun d hd => so d ((pL.map (·.2)).mem_iff.mp hd)
  · have := mOk.d (mb1 p hp).1
    show A.units + 1 + 1 + p.2.depth < cLine
    omega
  · have eo2 : out = (L1.mergeSort (dataLe false fun p => p.2)).map (·.1) := by
      have gen : ∀ {vs : List Value} {bs : List Mb}, EachIs (fun v (p : Mb) => v = p.1) vs bs → vs = bs.map (·.1) := fun {vs bs} h => by
        induction h with
        | nil => rfl
        | cons h1 _ ih => rw [List.map_cons, ← ih, h1]
      exact gen eo
    subst eo2
    obtain ⟨c, hc⟩ := sortedHeap_at (vs := L1.map (·.1)) (out := ((L1.mergeSort (dataLe false fun p => p.2)).map (·.1)).toArray) hoL
    refine wpAny_pure ⟨_, rfl, hQ _ s1.heap.objs.size (L1.mergeSort (dataLe false fun p => p.2)) c (fun b u e => ?_) g1 o1 hz hc ((List.mergeSort_perm _ _).trans pL) ?_⟩
    · have q := k1 b u e
      have hlt := Heap.lt_size q
      show (sortedHeap (s1.heap.push (seqObj "list" (L1.map (·.1)).toArray 0)) s1.heap.objs.size (L1.map (·.1)) _).get? b = some u
      rw [sortedHeap_old (Nat.ne_of_lt hlt) (by rw [size_push']; exact Nat.lt_succ_of_lt hlt)]
      exact Heap.get?_push_of_some _ q
    · refine List.pairwise_map.mpr ?_
      exact List.pairwise_mergeSort (fun p q r h1 h2 => leD_trans p.2 q.2 r.2 h1 h2) (fun p q => leD_total p.2 q.2) _
end
end Mx

/-! M29: set(a list). -/
namespace Mx
open PySem PySem.Spec PyProof.Rows L2 PySem.W
section
variable {P : Program} {w : World} {A : Around} {E : Value → Shared → Prop} {s : Shared}
abbrev newS (w : World) : Obj := { cls := .type "set", dict := none, data := .set #[] 0 (.fresh 0 0 (!w.params.followText "set-order")) }
theorem call_set_G {l : Addr} {items : Array Value} (tb : Bool) (ks : List Mb) {Q : Value → Shared → Prop} (hh : A.handled = none) (hl : s.heap.IsList l items) (hit : items.toList = ks.map (·.1))
    (hk : ∀ p ∈ ks, MbAt s.heap p ∧ kindOk tb p) (cap : ks.length ≤ capG tb) (hu : A.units + 20 < cLine)
    (h : ∀ (h' : Heap) (tk : Nat) L es ep t, SetG w h' s.heap.objs.size tb L es ep t → GotG ks ks.length L → (∀ b o, s.heap.get? b = some o → h'.get? b = some o) → Q (.ref s.heap.objs.size) { s with heap := h', toks := tk }) :
    wpAny (model P w) A (call (.type "set") [.ref l]) Q E s := by
  have hisz : items.size = ks.length := by
    have q := congrArg List.length hit
    rw [Array.length_toList, List.length_map] at q
    exact q
  obtain ⟨c, tl, hmro⟩ := F.called_set.mro
  have made := F.called_set.made
  have subt := F.called_set.sub
  refine wpAny_call (codeAny_of_tree ?_)
  show wpAny _ _ (callAny (.type "set") _) _ _ _
  refine wpAny_pure ⟨Code.quiet_builtin _ (by decide +kernel), codeAny_builtin F.entry_type_call ?_⟩
  rw [Around.under_plain (weight_type_call_type "set" [.ref l] []) rfl]
  have n1 := F.called_set.notType
  have n2 := F.called_set.canCreate
  have n3 := F.typeCall_set_1 (.ref l)
  repeat any_goals first | assumption | wp_step
  refine codeAny_mono (code_set_led1 (.ref l) (E := E) (Q₁ := fun obj s₁ => obj = .ref s.heap.objs.size ∧ s₁ = { s with heap := s.heap.push (newS w) }) ⟨rfl, rfl⟩) fun r s₁ hr => ?_
  cases r with
  | error e => exact hr
  | ok fl =>
    cases fl with
    | ret obj =>
      obtain ⟨rfl, rfl⟩ := hr
      have hS : (s.heap.push (newS w)).get? s.heap.objs.size = some (newS w) := Heap.get?_push_size _ rfl
      have hT : Shared.TypeIs { s with heap := s.heap.push (newS w) } (.ref s.heap.objs.size) "set" := ⟨_, hS, rfl⟩
      have i1 := F.called_set.init.lookup
      have i2 := F.called_set.init.bind (.ref s.heap.objs.size)
      repeat any_goals first | assumption | wp_step
      refine codeAny_mono (codeAny_call_builtin (R := wants (fun r s₂ => r = .none ∧ ∃ h' tk L es ep t, s₂ = { s with heap := h', toks := tk } ∧ SetG w h' s.heap.objs.size tb L es ep t ∧ GotG ks ks.length L ∧ (∀ b o, s.heap.get? b = some o → h'.get? b = some o)) E) F.called_set.init.plain F.entry_set_init (check_set_init_1 hT ?_)) fun r₂ s₂ hr₂ => ?_
      · obtain ⟨ol, hol, hcl, nl, hdl⟩ := hl
        obtain ⟨ocls, odict, odata, oslots⟩ := ol
        simp only at hcl hdl
        subst hcl; subst hdl
        have hol2 : (s.heap.push (newS w)).get? l = some { cls := .type "list", dict := odict, data := .seq items nl, slots := oslots } := Heap.get?_push_of_some _ hol
        have f1 := F.sub_list_set
        have f2 := F.sub_list_frozenset
        have f3 : (Value.type "list" == Value.type "dict") = false := by decide
        have hl1 : (s.heap.push (newS w)).IsList l items := ⟨_, hol2, rfl, nl, rfl⟩
        unfold Builtin.«set.__init__» noKeywords Builtin.Frozenset.updateFrom
        generalize hPI : pyIter = PI
        wp_walk
        subst hPI
        refine wpAny_pyIter_list hl1 ?_
        refine wpAny_bind (wpAny_runValue ?_)
        have hlS : l < s.heap.objs.size := Heap.lt_size hol
        have hh3 : A.in1.in1.in1.handled = none := by simp [hh]
        have hneI : l ≠ (s.heap.push (newS w)).objs.size := by
          rw [Heap.size_push]; exact Nat.ne_of_lt (Nat.lt_succ_of_lt hlS)
        have hSf : s.heap.objs.size ∉ [(s.heap.push (newS w)).objs.size, l] := by
          rw [Heap.size_push]; simp only [List.mem_cons, List.mem_singleton, List.not_mem_nil, or_false, not_or]
          exact ⟨Nat.ne_of_lt (Nat.lt_succ_self _), Nat.ne_of_gt hlS⟩
        have hval : ∀ (i : Nat) (v : Value), items[i]? = some v → ∃ p, ks[i]? = some p ∧ v = p.1 := fun i v hv => by
          have q : items.toList[i]? = some v := by rw [Array.getElem?_toList]; exact hv
          rw [hit, List.getElem?_map] at q
          obtain ⟨p, hp, e⟩ := Option.map_eq_some_iff.mp q
          exact ⟨p, hp, e.symm⟩
        have none_of : ∀ b, s.heap.objs.size ≤ b → s.heap.get? b = none := fun b hb => by
          cases q : s.heap.get? b with
          | none => rfl
          | some o => exact absurd (Nat.lt_of_lt_of_le (Heap.lt_size q) hb) (Nat.lt_irrefl _)
        refine update_G (tb := tb) ((Walks.list hh3 _ l hneI items).toS) s.heap.objs.size hSf ks hisz cap hval s.heap hk (none_of _ (Nat.le_refl _)) (fun b hb => none_of b (by
            rw [List.mem_singleton.mp hb, Heap.size_push]
            exact Nat.le_succ _)) (by show A.units + 1 + 1 + 1 + 16 < cLine; omega) (items.size - 0) 0 _ (by omega) (Nat.zero_le _)
          ⟨⟨_, Heap.get?_push_size _ rfl, rfl, rfl⟩, (hl1.push _)⟩ (fun b o e => Heap.get?_push_of_some _ (Heap.get?_push_of_some _ e)) ?hS0 ?hR
        case hS0 =>
          exact ⟨[], #[], 0, _, setG_fresh tb (Heap.get?_push_of_some _ hS), GotG.zero ks⟩
        case hR =>
          intro s' L es ep t hm hS' g' hkp
          obtain ⟨h', g2, d', tk', os'⟩ := s'
          have eg : g2 = s.gens := hm.gens
          have ed : d' = s.drawn := hm.drawn
          have eo : os' = s.os := hm.os
          subst eg; subst ed; subst eo
          show wpAny _ _ _ _ _ _
          refine wpAny_pure ?_
          show wpAny _ _ (ret Value.none) _ _ _
          rw [hisz] at g'
          exact wpAny_pure ⟨rfl, h', tk', L, es, ep, t, rfl, hS', g', hkp⟩
      · cases r₂ with
        | error e => exact hr₂
        | ok fl₂ =>
          cases fl₂ with
          | ret r =>
            obtain ⟨rfl, h', tk, L, es, ep, t, rfl, hS', g', hk'⟩ := hr₂
            repeat any_goals first | assumption | wp_step
            exact h _ _ _ _ _ _ hS' g' hk'
          | _ => exact hr₂.elim
    | _ => exact hr.elim
end
end Mx

/-! M30: sets as objects: set(list), sorted, len, add. -/
namespace Mx
open PySem L2
abbrev Mv := V × PyData
abbrev M3 := V × Value × PyData
def M3.mb (q : M3) : Mb := (q.2.1, q.2.2)
def M3.mv (q : M3) : Mv := (q.1, q.2.2)
def SetGO (w : World) (a : Addr) (tb : Bool) (L : List Mv) : HO := .ext fun h => ∃ (T : List M3) (es : Array (Int × Value)) (ep : Nat) (t : SetTable), SetG w h a tb (T.map M3.mb) es ep t ∧ T.map M3.mv = L ∧ ∀ q ∈ T, RelV q.1 q.2.1
theorem setGO_new {P : Program} {w : World} {H : Hp} {h : Heap} {a : Addr} {tb : Bool} {T : List M3} {es : Array (Int × Value)} {ep : Nat} {t : SetTable} (g : SetG w h a tb (T.map M3.mb) es ep t) (hT : ∀ q ∈ T, RelV q.1 q.2.1) : ObjOk P w H h a (SetGO w a tb (T.map M3.mv)) := by
  have ⟨o, ho, _⟩ := g.ob
  refine ⟨⟨T, es, ep, t, g, rfl, hT⟩, ⟨o, ho⟩, fun h1 h2 p k => ?_⟩
  have ⟨T', es', ep', t', g', e', r'⟩ := p
  exact ⟨T', es', ep', t', g'.keep k, e', r'⟩
def kindP (tb : Bool) : PyData → Bool
  | .tuple _ => tb
  | .int _ => !tb
  | .str _ => !tb
  | _ => false
theorem kindOk_of {h : Heap} {tb : Bool} {p : Mb} (hm : MbAt h p) (hk : kindP tb p.2 = true) : kindOk tb p := by
  obtain ⟨v, d⟩ := p
  obtain ⟨m1, as, r⟩ := hm
  dsimp only at *
  unfold kindOk
  cases r with
  | int i u => cases tb with | true => cases hk | false => rfl
  | str x u => cases tb with | true => cases hk | false => rfl
  | tuple => cases tb with | true => exact ⟨_, rfl⟩ | false => cases hk
  | none => cases hk
  | bool b => cases hk
  | list => cases hk
  | dict => cases hk
section
variable {X : Cx} {pins : List (Addr × Obj)} {σ : St} {H : Hp} {s : Shared}
theorem mb_of (I : L2.Inv X pins σ H s) {x : V} {u : Value} {k : PyData} (d : Dp X.K H x k) (r : RelV x u) (m : mOk k = true) : MbAt s.heap (u, k) := ⟨m, Dp.reads I k x u d r⟩
/-- the items, what they are and what they read as -/
theorem trip_of (I : L2.Inv X pins σ H s) : ∀ {xs : List V} {us : List Value} {ps : List PyData}, Vals xs us → DpAll X.K H xs ps → (∀ p ∈ ps, mOk p = true) →
    ∃ T : List M3, T.map (·.2.1) = us ∧ T.map M3.mv = xs.zip ps ∧ T.map (·.2.2) = ps ∧ ∀ q ∈ T, RelV q.1 q.2.1 ∧ Dp X.K H q.1 q.2.2 ∧ MbAt s.heap q.mb
  | _, _, _, .nil, .nil, _ => ⟨[], rfl, rfl, rfl, fun q hq => by cases hq⟩
  | x :: xs, u :: us, p :: ps, .cons r rs, .cons d ds, m => by
    obtain ⟨T, e1, e2, e3, hT⟩ := trip_of I rs ds fun p hp => m p (List.mem_cons_of_mem _ hp)
    refine ⟨(x, u, p) :: T, by simp [e1], by simp [e2, M3.mv], by simp [e3], fun q hq => ?_⟩
    rcases List.mem_cons.mp hq with z | z
    · rw [z]; exact ⟨r, d, mb_of I d r (m p List.mem_cons_self)⟩
    · exact hT q z
def rSetG (K : PySem.W.Frag) (w : World) : List V → Hp → VK → Prop := fun vs H Q => ∃ (l : Addr) (xs : List V) (ps : List PyData) (tb : Bool), vs = [V.ref l] ∧ SqL K H l xs ∧ DpAll K H xs ps ∧ (∀ p ∈ ps, mOk p = true ∧ kindP tb p = true) ∧ ps.length ≤ capG tb ∧
  ∀ (a : Addr) (L : List Mv), H a = none → (∀ p ∈ L, p ∈ xs.zip ps) → (∀ p ∈ ps, p ∈ L.map (·.2)) → (L.map (·.2)).Nodup → Q (.ref a) (upd H a (SetGO w a tb L))
theorem cr_setG (hc : X.calm = true) (hu : X.A.units + 64 < cLine) : CallR X (.type "set") (rSetG X.K X.w) := by
  intro pins s σ H vs us Q I r ⟨l, xs, ps, tb, e, hl, hd, hk, cap, q⟩
  subst e
  rw [Vals.ref1 r]
  obtain ⟨its, rv, pl, hz⟩ := I.list hl
  obtain ⟨T, e1, e2, e3, hT⟩ := trip_of I rv hd fun p hp => (hk p hp).1
  have hlen : T.length = ps.length := by rw [← e3, List.length_map]
  refine call_set_G (P := X.prog) (w := X.w) tb (T.map M3.mb) (I.ok.hd hc) pl.isList (by rw [List.map_map]; exact e1.symm) (fun p hp => ?_) (by rw [List.length_map, hlen]; exact cap) (by omega) fun h' tk L es ep t g got k => ?_
  · obtain ⟨t, ht, rfl⟩ := List.mem_map.mp hp
    refine ⟨(hT t ht).2.2, kindOk_of (hT t ht).2.2 (hk t.2.2 ?_).2⟩
    rw [← e3]
    exact List.mem_map.mpr ⟨t, ht, rfl⟩
  · have lift : ∀ L : List Mb, (∀ p ∈ L, p ∈ T.map M3.mb) → ∃ T' : List M3, L = T'.map M3.mb ∧ ∀ t ∈ T', t ∈ T := by
      intro L
      induction L with
      | nil => intro _; exact ⟨[], rfl, fun t ht => by cases ht⟩
      | cons p L ih =>
        intro h
        obtain ⟨t, ht, e⟩ := List.mem_map.mp (h p List.mem_cons_self)
        obtain ⟨T', e', h'⟩ := ih fun p hp => h p (List.mem_cons_of_mem _ hp)
        refine ⟨t :: T', by rw [List.map_cons, e, e'], fun u hu => ?_⟩
        rcases List.mem_cons.mp hu with z | z
        · rw [z]; exact ht
        · exact h' u z
    obtain ⟨T', rfl, hT'⟩ := lift L fun p hp => List.mem_of_mem_take (got.sub p hp)
    have snd : (T'.map M3.mv).map (·.2) = (T'.map M3.mb).map (·.2) := by rw [List.map_map, List.map_map]; rfl
    refine ⟨.ref s.heap.objs.size, _, I.laid (t' := tk) k (Nat.le_refl _) (setGO_new g fun t ht => (hT t (hT' t ht)).1), rfl, q _ _ (I.hok.fresh (Nat.le_refl _)) (fun p hp => ?_) (fun p hp => ?_) ?_⟩
    · obtain ⟨t, ht, rfl⟩ := List.mem_map.mp hp
      rw [← e2]
      exact List.mem_map.mpr ⟨t, hT' t ht, rfl⟩
    · rw [snd]
      rw [← e3] at hp
      obtain ⟨t, ht, rfl⟩ := List.mem_map.mp hp
      exact got.all t.mb (by rw [List.take_length]; exact List.mem_map.mpr ⟨t, ht, rfl⟩)
    · rw [snd]; exact g.nd
/-- what is known of a tracked set -/
theorem setGO_get {a : Addr} {tb : Bool} {L : List Mv} (I : L2.Inv X pins σ H s) (ha : H a = some (SetGO X.w a tb L)) : ∃ (T : List M3) (es : Array (Int × Value)) (ep : Nat) (t : SetTable), SetG X.w s.heap a tb (T.map M3.mb) es ep t ∧ T.map M3.mv = L ∧ ∀ q ∈ T, RelV q.1 q.2.1 := (I.hok a _ ha).1
def rSortG (K : PySem.W.Frag) (w : World) : List V → Hp → VK → Prop := fun vs H Q => ∃ (a : Addr) (tb : Bool) (L : List Mv), vs = [V.ref a] ∧ H a = some (SetGO w a tb L) ∧ (∀ p ∈ L, Dp K H p.1 p.2 ∧ mOk p.2 = true) ∧ PySem.W.AllAlike (L.map (·.2)) ∧ PySem.W.Sortable (L.map (·.2)) ∧
  ∀ (out : List Mv) (b : Addr), out.Perm L → (out.map (·.2)).Pairwise (fun a b => leD a b = true) → H b = none → Q (.ref b) (upd H b (.lst (out.map (·.1))))
theorem vals_trip : ∀ (T : List M3), (∀ q ∈ T, RelV q.1 q.2.1) → Vals (T.map (·.1)) (T.map (·.2.1))
  | [], _ => .nil
  | q :: T, h => .cons (h q List.mem_cons_self) (vals_trip T fun p hp => h p (List.mem_cons_of_mem _ hp))
theorem cr_sortG (hc : X.calm = true) (hu : X.A.units + 64 < cLine) : CallR X (.builtin "sorted") (rSortG X.K X.w) := by
  intro pins s σ H vs us Q I r ⟨a, tb, L, e, ha, hm, al, so, q⟩
  subst e
  rw [Vals.ref1 r]
  obtain ⟨T, es, ep, t, g, rfl, hT⟩ := setGO_get I ha
  have snd : (T.map M3.mv).map (·.2) = (T.map M3.mb).map (·.2) := by rw [List.map_map, List.map_map]; rfl
  rw [snd] at al so
  have mb : ∀ p ∈ T.map M3.mb, MbAt s.heap p := fun p hp => by
    obtain ⟨t, ht, rfl⟩ := List.mem_map.mp hp
    obtain ⟨d, m⟩ := hm t.mv (List.mem_map.mpr ⟨t, ht, rfl⟩)
    exact mb_of I d (hT t ht) m
  refine sorted_G (P := X.prog) g mb (I.ok.hd hc) al so (by omega) fun s' b out c k g1 o1 hz hb pm pw => ?_
  obtain ⟨T', rfl, pT⟩ := perm_map M3.mb pm T rfl
  have few : T'.length < 4096 := by
    have := g.few
    rw [List.length_map] at this
    rw [pT.length_eq]; exact this
  have hn : H b = none := I.hok.fresh hz
  have hlen : (T'.map (·.1)).length ≤ sizeLine := by rw [List.length_map, sizeLine_eq]; omega
  have hv : Vals (T'.map (·.1)) (T'.map (·.2.1)) := vals_trip T' fun q hq => hT q (pT.mem_iff.mp hq)
  have fst1 : ((T'.map M3.mb).map (·.1)) = T'.map (·.2.1) := by rw [List.map_map]; rfl
  have fst2 : ((T'.map M3.mv).map (·.1)) = T'.map (·.1) := by rw [List.map_map]; rfl
  rw [fst1] at hb
  have J : L2.Inv X pins σ (upd H b (.lst (T'.map (·.1)))) { s with heap := s'.heap, gens := s'.gens, drawn := s'.drawn, toks := s'.toks } :=
    I.call (ch := []) (Un.laid k hz hn) (I.hok.laid k hz ⟨hlen, T'.map (·.2.1), c, hv, hb⟩) (by rw [g1]; exact I.bare) (fun _ z => nomatch z)
  have e : s' = { s with heap := s'.heap, gens := s'.gens, drawn := s'.drawn, toks := s'.toks } := by
    cases s'
    cases s
    cases o1
    rfl
  rw [e]
  have fin := q (T'.map M3.mv) b (pT.map _) (by
    have : (T'.map M3.mv).map (·.2) = (T'.map M3.mb).map (·.2) := by rw [List.map_map, List.map_map]; rfl
    rw [this]; exact pw) hn
  rw [fst2] at fin
  exact ⟨.ref b, _, J, rfl, fin⟩
def rLenG (w : World) : List V → Hp → VK → Prop := fun vs H Q => ∃ (a : Addr) (tb : Bool) (L : List Mv), vs = [V.ref a] ∧ H a = some (SetGO w a tb L) ∧ Q (.int L.length) H
theorem cr_lenG : CallR X (.builtin "len") (rLenG X.w) := by
  intro pins s σ H vs us Q I r ⟨a, tb, L, e, ha, q⟩
  subst e
  rw [Vals.ref1 r]
  obtain ⟨T, es, ep, t, g, rfl, hT⟩ := setGO_get I ha
  obtain ⟨o, e1, e2, e3⟩ := g.ob
  have hsz := g.size
  have few := g.few
  rw [List.length_map] at hsz few
  refine PySem.call_len_set e1 e2 e3 g.fit (by unfold scanBound at few; rw [hsz] <;> omega) ⟨.int _, H, I.tok _, ⟨_, by rw [hsz]⟩, ?_⟩
  rw [List.length_map] at q
  exact q
/-- set.add -/
theorem add_GO {E : Value → Shared → Prop} {D : Addr} {tb : Bool} {L : List Mv} {y : V} {u : Value} {k : PyData} {Q : Value → Shared → Prop} (I : L2.Inv X pins σ H s) (hD : H D = some (SetGO X.w D tb L)) (hL : ∀ p ∈ L, Dp X.K H p.1 p.2 ∧ mOk p.2 = true)
    (ry : RelV y u) (dk : Dp X.K H y k) (mk : mOk k = true) (kk : kindP tb k = true) (room : L.length + 1 ≤ capG tb) (hu : X.A.units + 64 < cLine)
    (h : ∀ s' L', (k ∈ L.map (·.2) → L' = L) → (k ∉ L.map (·.2) → L'.Perm ((y, k) :: L)) → L2.Inv X pins σ (upd H D (SetGO X.w D tb L')) s' → Q .none s') : wpAny (model X.prog X.w) X.A (call (.builtin "set.add") [.ref D, u]) Q E s := by
  obtain ⟨T, es, ep, t, g, rfl, hT⟩ := setGO_get I hD
  obtain ⟨o, e1, e2, e3⟩ := g.ob
  have mb : ∀ p ∈ T.map M3.mb, MbAt s.heap p := fun p hp => by
    obtain ⟨t, ht, rfl⟩ := List.mem_map.mp hp
    obtain ⟨d, m⟩ := hL t.mv (List.mem_map.mpr ⟨t, ht, rfl⟩)
    exact mb_of I d (hT t ht) m
  have hx := mb_of I dk ry mk
  have dd := mOk.d mk
  have hTy : s.TypeIs (.ref D) "set" := ⟨o, e1, e2.1⟩
  have snd : (T.map M3.mv).map (·.2) = (T.map M3.mb).map (·.2) := by rw [List.map_map, List.map_map]; rfl
  refine wpAny_call_entry F.slot_set_add hTy F.entry_set_add ?_ (F.args_set_add_2 _ _)
  unfold Builtin.«set.add» Builtin.Frozenset.oneOther
  simp only [List.isEmpty_nil, bind_assoc]
  unfold Builtin.Frozenset.addrOf setAdd
  refine wpAny_bind (wpAny_pure ?_)
  try dsimp only
  refine wpAny_bind (wpAny_pure ?_)
  try dsimp only
  refine wpAny_bind ?_
  refine wpAny_holding ?_
  obtain ⟨_, as, rd⟩ := id hx
  refine wpAny_bind (hash_data k (mOk.h mk) (by show X.A.units + 1 + k.depth < cLine; omega) rd fun tk _ => ?_)
  refine add_G (s := { s with toks := tk }) g mb hx (kindOk_of hx kk) (by show X.A.units + 1 + 8 < cLine; omega) (by rw [List.length_map] at room ⊢; exact room) fun b h' L' es' ep' t' sb g' c1 c2 => ?_
  show wpAny _ _ (ret Value.none) _ _ _
  have he : ∃ u, h'.get? D = some u := by
    have ⟨o', ho', _⟩ := g'.ob
    exact ⟨o', ho'⟩
  have wr : ∀ T' : List M3, T'.map M3.mb = L' → (∀ q ∈ T', RelV q.1 q.2.1) → L2.Inv X pins σ (upd H D (SetGO X.w D tb (T'.map M3.mv))) { s with heap := h', toks := tk } := fun T' e hT' => by
    subst e
    exact I.write (e := D) (t' := tk) (by rw [hD]; trivial) (.inl rfl) (fun b u hb hu => (sb.2 b hb).trans hu) he (setGO_new g' hT')
  rcases Classical.em (k ∈ (T.map M3.mv).map (·.2)) with c | c
  · have e := c1 (by rw [← snd]; exact c)
    exact wpAny_pure ⟨_, rfl, h _ _ (fun _ => rfl) (fun z => absurd c z) (wr T e.symm hT)⟩
  · have pm := c2 (by rw [← snd]; exact c)
    obtain ⟨T', e', pT⟩ := perm_map M3.mb pm ((y, u, k) :: T) rfl
    refine wpAny_pure ⟨_, rfl, h _ (T'.map M3.mv) (fun z => absurd z c) (fun _ => pT.map M3.mv) (wr T' e'.symm fun q hq => ?_)⟩
    rcases List.mem_cons.mp (pT.mem_iff.mp hq) with z | z
    · rw [z]; exact ry
    · exact hT q z
end
end Mx

/-! M31: sorted(set(e)), len(set(e)) by mirrors. -/
namespace Mx
open PySem L2
mutual
/-- data back to D: ints, texts, tuples -/
def pyD : PyData → D
  | .int i => .int i
  | .str x => .str x
  | .tuple ps => .tup (pyDL ps)
  | _ => .non
def pyDL : List PyData → List D
  | [] => []
  | p :: ps => pyD p :: pyDL ps
end
theorem pyDL_map : ∀ ps : List PyData, pyDL ps = ps.map pyD
  | [] => by rw [pyDL] <;> rfl
  | p :: ps => by rw [pyDL, List.map_cons, pyDL_map ps]
mutual
theorem pyD_of : ∀ {d : D} {p : PyData}, D.py d = some p → hOk p = true → pyD p = d
  | .int i, p, e, _ => by rw [D.py] at e; cases e; rw [pyD]
  | .str i, p, e, _ => by rw [D.py] at e; cases e; rw [pyD]
  | .tup ds, p, e, ok => by
    rw [D.py] at e
    cases q : D.pyL ds with
    | none => rw [q] at e; cases e
    | some ps =>
      rw [q] at e
      cases e
      rw [hOk] at ok
      rw [pyD, pyDL_of q ok]
  | .lst ds, p, e, ok => by
    rw [D.py] at e
    cases q : D.pyL ds with
    | none => rw [q] at e; cases e
    | some ps => rw [q] at e; cases e; rw [hOk] at ok <;> first | cases ok | simp
  | .non, p, e, ok => by rw [D.py] at e; cases e; rw [hOk] at ok <;> first | cases ok | simp
  | .bl b, p, e, ok => by rw [D.py] at e; cases e; rw [hOk] at ok <;> first | cases ok | simp
  | .dic _, p, e, _ => by rw [D.py] at e; cases e
  | .ref _, p, e, _ => by rw [D.py] at e; cases e
  | .con _, p, e, _ => by rw [D.py] at e; cases e
  | .scr _, p, e, _ => by rw [D.py] at e; cases e
  | .exo _ _ _, p, e, _ => by rw [D.py] at e; cases e
theorem pyDL_of : ∀ {ds : List D} {ps : List PyData}, D.pyL ds = some ps → hOkL ps = true → pyDL ps = ds
  | [], ps, e, _ => by rw [D.pyL] at e; cases e; rw [pyDL]
  | d :: ds, ps, e, ok => by
    rw [D.pyL] at e
    cases q1 : D.py d with
    | none => rw [q1] at e; cases e
    | some p =>
      cases q2 : D.pyL ds with
      | none => rw [q1, q2] at e; cases e
      | some ps' =>
        rw [q1, q2] at e
        cases e
        rw [hOkL, Bool.and_eq_true] at ok
        rw [pyDL, pyD_of q1 ok.1, pyDL_of q2 ok.2]
end
/-- a list's items -/
def lsOf (mem : Mem) : D → Option (List D)
  | .lst ds => some ds
  | .ref n => match mem[n]? with
    | some (.lst ds) => some ds
    | _ => none
  | _ => none
/-- which kind of set these go into -/
def setKd (ps : List PyData) : Option Bool :=
  if (ps.all mOk && ps.all (kindP false) && decide (ps.length ≤ 4000)) = true then some false
  else if (ps.all mOk && ps.all (kindP true) && decide (ps.length ≤ 63)) = true then some true
  else none
def isTup1 : PyData → Bool
  | .tuple (_ :: _) => true
  | _ => false
def notTup : PyData → Bool
  | .tuple _ => false
  | .none => false
  | _ => true
def srtOk (ps : List PyData) : Bool := ps.all (fun p => ps.all fun q => PySem.W.alike p q) && (ps.all isTup1 || ps.all notTup)
def gSrtS : OpP := fun mem ds => match ds with
  | [x] => match lsOf mem x with
    | some es => match D.pyL es with
      | some ps => if ((setKd ps).isSome && srtOk ps) = true then some (.lst ((srt ps).map pyD)) else none
      | none => none
    | none => none
  | _ => none
def gLenS : OpP := fun mem ds => match ds with
  | [x] => match lsOf mem x with
    | some es => match D.pyL es with
      | some ps => if (setKd ps).isSome = true then some (.int (ddp ps).length) else none
      | none => none
    | none => none
  | _ => none
theorem setKd_ok {ps : List PyData} {tb : Bool} (h : setKd ps = some tb) : (∀ p ∈ ps, mOk p = true ∧ kindP tb p = true) ∧ ps.length ≤ capG tb := by
  unfold setKd at h
  split at h
  · rename_i c
    cases h
    rw [Bool.and_eq_true, Bool.and_eq_true] at c
    exact ⟨fun p hp => ⟨List.all_eq_true.mp c.1.1 p hp, List.all_eq_true.mp c.1.2 p hp⟩, of_decide_eq_true c.2⟩
  · split at h
    · rename_i c
      cases h
      rw [Bool.and_eq_true, Bool.and_eq_true] at c
      exact ⟨fun p hp => ⟨List.all_eq_true.mp c.1.1 p hp, List.all_eq_true.mp c.1.2 p hp⟩, of_decide_eq_true c.2⟩
    · cases h
theorem srtOk_al {ps : List PyData} (h : srtOk ps = true) : ∀ a ∈ ps, ∀ b ∈ ps, PySem.W.alike a b = true := by
  unfold srtOk at h
  rw [Bool.and_eq_true] at h
  exact fun a ha b hb => List.all_eq_true.mp (List.all_eq_true.mp h.1 a ha) b hb
theorem srtOk_so {ps : List PyData} (h : srtOk ps = true) : PySem.W.Sortable ps := by
  unfold srtOk at h
  rw [Bool.and_eq_true, Bool.or_eq_true] at h
  rcases h.2 with c | c
  · refine .inl fun d hd => ?_
    have := List.all_eq_true.mp c d hd
    cases d with
    | tuple xs => cases xs with
      | nil => cases this
      | cons x r => exact ⟨x, r, rfl⟩
    | _ => cases this
  · refine .inr fun d hd => ?_
    have := List.all_eq_true.mp c d hd
    cases d with
    | tuple xs => cases this
    | none => cases this
    | _ => exact ⟨(fun z => by cases z), (fun xs z => by cases z)⟩
section
variable {K : PySem.W.Frag} {α : Ad} {H : Hp} {mem : Mem}
theorem lsOf_at {d : D} {v : V} {ds : List D} (hm : MemRep K α H mem) (r : Rep K α H d v) (h : lsOf mem d = some ds) : ∃ a xs, v = .ref a ∧ SqL K H a xs ∧ RepL K α H ds xs := by
  cases d with
  | lst es => cases h; obtain ⟨a, xs, rfl, h1, h2⟩ := r.seqL; exact ⟨a, xs, rfl, h1, h2⟩
  | ref n =>
    obtain ⟨a, rfl, ha⟩ := r.ref_
    obtain ⟨c, hc, hc'⟩ := hm.at_ ha
    unfold lsOf at h
    simp only [hc] at h
    cases c with
    | lst es =>
      cases h
      obtain ⟨xs, hx, hl⟩ := hc'
      exact ⟨a, xs, rfl, SqL.of hx, hl⟩
    | dic _ => cases h
    | tab _ _ => cases h
  | _ => cases h
/-- each pair of an item and its data -/
theorem zip_rep : ∀ {es : List D} {xs : List V} {ps : List PyData}, RepL K α H es xs → D.pyL es = some ps → ∀ q ∈ xs.zip ps, q.2 ∈ ps ∧ ∃ d, D.py d = some q.2 ∧ Rep K α H d q.1
  | _, _, _, .nil, h, q, hq => by rw [D.pyL] at h; cases h; cases hq
  | _, _, _, .cons (d := d) (ds := ds) r rs, h, q, hq => by
    rw [D.pyL] at h
    cases e1 : D.py d with
    | none => rw [e1] at h; cases h
    | some p =>
      cases e2 : D.pyL ds with
      | none => rw [e1, e2] at h; cases h
      | some ps =>
        rw [e1, e2] at h
        cases h
        rw [List.zip_cons_cons] at hq
        rcases List.mem_cons.mp hq with z | z
        · rw [z]; exact ⟨List.mem_cons_self, d, e1, r⟩
        · obtain ⟨a1, a2⟩ := zip_rep rs e2 q z
          exact ⟨List.mem_cons_of_mem _ a1, a2⟩
theorem repL_of : ∀ (out : List Mv), (∀ q ∈ out, Rep K α H (pyD q.2) q.1) → RepL K α H ((out.map (·.2)).map pyD) (out.map (·.1))
  | [], _ => .nil
  | q :: out, h => .cons (h q List.mem_cons_self) (repL_of out fun p hp => h p (List.mem_cons_of_mem _ hp))
/-- the sorted members stand for the sorted data -/
theorem sortG_rep {es : List D} {xs : List V} {ps : List PyData} {L out : List Mv} (rs : RepL K α H es xs) (e : D.pyL es = some ps) (ok : ∀ p ∈ ps, mOk p = true) (al : ∀ a ∈ ps, ∀ b ∈ ps, PySem.W.alike a b = true)
    (sub : ∀ p ∈ L, p ∈ xs.zip ps) (all : ∀ p ∈ ps, p ∈ L.map (·.2)) (nd : (L.map (·.2)).Nodup) (pm : out.Perm L) (pw : (out.map (·.2)).Pairwise (fun a b => leD a b = true)) : RepL K α H ((srt ps).map pyD) (out.map (·.1)) := by
  have hz := zip_rep rs e
  have e1 : out.map (·.2) = srt ps := by
    refine srt_is (fun p hp => mOk.h (ok p hp)) al ((pm.map (·.2)).nodup_iff.mpr nd) (fun x => ⟨fun hx => ?_, fun hx => ?_⟩) pw
    · obtain ⟨q, hq, rfl⟩ := List.mem_map.mp hx
      exact (hz q (sub q (pm.mem_iff.mp hq))).1
    · exact (pm.map (·.2)).mem_iff.mpr (all x hx)
  rw [← e1]
  refine repL_of out fun q hq => ?_
  obtain ⟨a1, d, a2, a3⟩ := hz q (sub q (pm.mem_iff.mp hq))
  rw [pyD_of a2 (mOk.h (ok q.2 a1))]
  exact a3
theorem lenG_is {es : List D} {xs : List V} {ps : List PyData} {L : List Mv} (rs : RepL K α H es xs) (e : D.pyL es = some ps) (ok : ∀ p ∈ ps, mOk p = true)
    (sub : ∀ p ∈ L, p ∈ xs.zip ps) (all : ∀ p ∈ ps, p ∈ L.map (·.2)) (nd : (L.map (·.2)).Nodup) : L.length = (ddp ps).length := by
  have hz := zip_rep rs e
  have okh : ∀ p ∈ ps, hOk p = true := fun p hp => mOk.h (ok p hp)
  have pm : (L.map (·.2)).Perm (ddp ps) := (List.perm_ext_iff_of_nodup nd (ddp_nodup ps okh)).mpr fun x => by
    rw [ddp_mem ps okh]
    refine ⟨fun hx => ?_, fun hx => all x hx⟩
    obtain ⟨q, hq, rfl⟩ := List.mem_map.mp hx
    exact (hz q (sub q hq)).1
  rw [← pm.length_eq, List.length_map]
theorem zip_dp : ∀ {xs : List V} {ps : List PyData}, DpAll K H xs ps → ∀ q ∈ xs.zip ps, Dp K H q.1 q.2
  | _, _, .nil, q, hq => by cases hq
  | _, _, .cons d ds, q, hq => by
    rw [List.zip_cons_cons] at hq
    rcases List.mem_cons.mp hq with z | z
    · rw [z]; exact d
    · exact zip_dp ds q z
theorem rd_same {H' : Hp} (sm : Same H H') {a : Addr} {u : HO} : Rd H a u → Rd H' a u
  | .inl h => .inl (sm _ _ h)
  | .inr ⟨o, h⟩ => .inr ⟨o, sm _ _ h⟩
theorem sqL_same {H' : Hp} (sm : Same H H') {a : Addr} {xs : List V} : SqL K H a xs → SqL K H' a xs
  | .inl h => .inl (rd_same sm h)
  | .inr h => .inr h
theorem sqT_same {H' : Hp} (sm : Same H H') {a : Addr} {xs : List V} : SqT K H a xs → SqT K H' a xs
  | .inl h => .inl (rd_same sm h)
  | .inr h => .inr h
mutual
theorem dp_same {H' : Hp} (sm : Same H H') : ∀ {x : V} {p : PyData}, Dp K H x p → Dp K H' x p
  | _, _, .non => .non
  | _, _, .bl b => .bl b
  | _, _, .int i => .int i
  | _, _, .str x => .str x
  | _, _, .lst h t => .lst (sqL_same sm h) (dp_sameL sm t)
  | _, _, .tup h t => .tup (sqT_same sm h) (dp_sameL sm t)
theorem dp_sameL {H' : Hp} (sm : Same H H') : ∀ {xs : List V} {ps : List PyData}, DpAll K H xs ps → DpAll K H' xs ps
  | _, _, .nil => .nil
  | _, _, .cons d t => .cons (dp_same sm d) (dp_sameL sm t)
end
end
section
variable {X : Cx} {W : WX} {e : Expr} {me : E1} {p1 p2 q1 q2 : Pos}
theorem me_srtS (hc : X.calm = true) (hu : X.A.units + 64 < cLine) (hg : Gl X "sorted") (hm : X.mg "sorted" = none) (hg2 : Gl X "set") (hm2 : X.mg "set" = none) (he : ME X W e me)
    (s1 : starEach [e] X.env = (false, eval e X.env) :: starEach [] X.env := by rfl) (s2 : starEach [.Call (.Name "set" p2) [e] [] q2] X.env = (false, eval (.Call (.Name "set" p2) [e] [] q2) X.env) :: starEach [] X.env := by rfl) :
    ME X W (.Call (.Name "sorted" p1) [.Call (.Name "set" p2) [e] [] q2] [] q1) (e1 (pu gSrtS) me) :=
  ⟨PE.imp (pe_callB (cr_sortG hc hu) hg hm (by decide +kernel) (pa_cons (pe_callTy (cr_setG hc hu) hg2 hm2 PyProof.Rows.boot_set (pa_cons he.pe pa_nil s1) (by decide) (by decide) s1 rfl) pa_nil s2) (by decide) (by decide) s2 rfl) fun σ H Q h => by
    obtain ⟨α, loc, mem, hm, hl, hp⟩ := h
    refine tG_go hm hl hp fun α1 H1 m1 d x l1 hm1 hl1 hr1 hp1 => ?_
    unfold pu at hp1
    dsimp only [gSrtS] at hp1
    cases e1 : lsOf m1 d with
    | none => rw [e1] at hp1; exact hp1.elim
    | some es =>
      rw [e1] at hp1
      dsimp only at hp1
      cases e2 : D.pyL es with
      | none => rw [e2] at hp1; exact hp1.elim
      | some ps =>
        rw [e2] at hp1
        dsimp only at hp1
        by_cases c : ((setKd ps).isSome && srtOk ps) = true
        · rw [if_pos c] at hp1
          rw [Bool.and_eq_true] at c
          obtain ⟨tb, etb⟩ := Option.isSome_iff_exists.mp c.1
          obtain ⟨k1, k2⟩ := setKd_ok etb
          obtain ⟨a, xs, rfl, hs, hl⟩ := lsOf_at hm1 hr1 e1
          have dp := hl.dp e2
          refine ⟨a, xs, ps, tb, rfl, hs, dp, k1, k2, fun b L nb sub all nd => ?_⟩
          have sm : Same H1 (upd H1 b (SetGO X.w b tb L)) := same_new nb
          have sp : ∀ q ∈ L, q.2 ∈ ps := fun q hq => (List.of_mem_zip (sub q hq)).2
          refine ⟨b, tb, L, rfl, upd_same, fun q hq => ⟨dp_same sm (zip_dp dp q (sub q hq)), (k1 q.2 (sp q hq)).1⟩, fun u hu v hv => ?_, ?_, fun out b2 pm pw nb2 => ?_⟩
          · obtain ⟨q, hq, rfl⟩ := List.mem_map.mp hu
            obtain ⟨q', hq', rfl⟩ := List.mem_map.mp hv
            exact srtOk_al c.2 _ (sp q hq) _ (sp q' hq')
          · rcases srtOk_so c.2 with so | so
            · refine .inl fun u hu => ?_
              obtain ⟨q, hq, rfl⟩ := List.mem_map.mp hu
              exact so _ (sp q hq)
            · refine .inr fun u hu => ?_
              obtain ⟨q, hq, rfl⟩ := List.mem_map.mp hu
              exact so _ (sp q hq)
          · have sm2 := same_new (o := .lst (out.map (·.1))) nb2
            have sm3 : Same H1 (upd (upd H1 b (SetGO X.w b tb L)) b2 (.lst (out.map (·.1)))) := fun a o z => sm2 a o (sm a o z)
            refine hp1 α1 _ _ (Lt.same sm3) (hm1.same sm3) (.lst ((hm1.same sm).fresh nb2) upd_same ?_)
            exact (sortG_rep hl e2 (fun p hp => (k1 p hp).1) (srtOk_al c.2) sub all nd pm pw).mono (Lt.same sm3).toLk
        · rw [if_neg c] at hp1
          exact hp1.elim⟩
theorem me_lenS (hc : X.calm = true) (hu : X.A.units + 64 < cLine) (hg : Gl X "len") (hm : X.mg "len" = none) (hg2 : Gl X "set") (hm2 : X.mg "set" = none) (he : ME X W e me)
    (s1 : starEach [e] X.env = (false, eval e X.env) :: starEach [] X.env := by rfl) (s2 : starEach [.Call (.Name "set" p2) [e] [] q2] X.env = (false, eval (.Call (.Name "set" p2) [e] [] q2) X.env) :: starEach [] X.env := by rfl) :
    ME X W (.Call (.Name "len" p1) [.Call (.Name "set" p2) [e] [] q2] [] q1) (e1 (pu gLenS) me) :=
  ⟨PE.imp (pe_callB cr_lenG hg hm PySem.boot_len (pa_cons (pe_callTy (cr_setG hc hu) hg2 hm2 PyProof.Rows.boot_set (pa_cons he.pe pa_nil s1) (by decide) (by decide) s1 rfl) pa_nil s2) (by decide) (by decide) s2 rfl) fun σ H Q h => by
    obtain ⟨α, loc, mem, hm, hl, hp⟩ := h
    refine tG_go hm hl hp fun α1 H1 m1 d x l1 hm1 hl1 hr1 hp1 => ?_
    unfold pu at hp1
    dsimp only [gLenS] at hp1
    cases e1 : lsOf m1 d with
    | none => rw [e1] at hp1; exact hp1.elim
    | some es =>
      rw [e1] at hp1
      dsimp only at hp1
      cases e2 : D.pyL es with
      | none => rw [e2] at hp1; exact hp1.elim
      | some ps =>
        rw [e2] at hp1
        dsimp only at hp1
        by_cases c : (setKd ps).isSome = true
        · rw [if_pos c] at hp1
          obtain ⟨tb, etb⟩ := Option.isSome_iff_exists.mp c
          obtain ⟨k1, k2⟩ := setKd_ok etb
          obtain ⟨a, xs, rfl, hs, hl⟩ := lsOf_at hm1 hr1 e1
          have dp := hl.dp e2
          refine ⟨a, xs, ps, tb, rfl, hs, dp, k1, k2, fun b L nb sub all nd => ?_⟩
          have sm : Same H1 (upd H1 b (SetGO X.w b tb L)) := same_new nb
          refine ⟨b, tb, L, rfl, upd_same, ?_⟩
          have := hp1 α1 _ _ (Lt.same sm) (hm1.same sm) (.int _)
          rw [lenG_is hl e2 (fun p hp => (k1 p hp).1) sub all nd]
          exact this
        · rw [if_neg c] at hp1
          exact hp1.elim⟩
end
end Mx

/-! M32: set comprehensions, sorted or counted at once. -/
namespace Mx
open PySem PySem.Spec PyProof.Rows L2
section
variable {X : Cx}
/-- {elt for target in iter if ..}: D the new set -/
def tScG (K : PySem.W.Frag) (w : World) (wi : TI) (g : TG) (tt : TT) (te : TE) (vs : List Nat) : TE := fun σ H Q => wi σ H fun J H1 => ∃ tb : Bool, ∀ D, H1 D = none → ∃ W : Nat → Nat → Hp → Prop, (∃ m, W 0 m (upd H1 D (SetGO w D tb []))) ∧ ∀ i m H, W i m H →
  (J.stop i H ∧ Q (.ref D) H) ∨ (J.go i H ∧ ∃ Nx : Hp → Prop, (∀ H', Nx H' → ∃ m', m' < m ∧ W (i + 1) m' H') ∧ ∀ x H', J.yld i H x H' → g x (wipe σ vs) H' fun σ2 H2 => wipe σ2 vs = wipe σ vs ∧ tt σ2 H2 fun b H3 =>
    if b = true then te σ2 H3 fun y H4 => ∃ (k : PyData) (L : List Mv), H4 D = some (SetGO w D tb L) ∧ (∀ p ∈ L, Dp K H4 p.1 p.2 ∧ mOk p.2 = true) ∧ Dp K H4 y k ∧ mOk k = true ∧ kindP tb k = true ∧ L.length + 1 ≤ capG tb ∧
      ∀ L', (k ∈ L.map (·.2) → L' = L) → (k ∉ L.map (·.2) → L'.Perm ((y, k) :: L)) → Nx (upd H4 D (SetGO w D tb L')) else Nx H3)
theorem scG_core {pins : List (Addr × Obj)} {s : Shared} {σ : L2.St} {H : Hp} {Q : VK} {elt tg iter : Expr} {ifs : List Expr} {scope : Scope} {own : List (PySem.Str × Nat)} {pos pos' : Pos} {wi : TI} {g : TG} {tt : TT} {te : TE} {use : Option (Value → Sem Unit)} {Qf : Value → Shared → Prop}
    (hc : X.calm = true) (hu : X.A.units + 64 < cLine) (hN : X.N.Nodup) (I : L2.Inv X pins σ H s) (hi : PI X tg iter wi) (ok : BlkOk X.N X.env.scope scope own)
    (hg : ∀ (s : Shared) (H : Hp) (C : Addr) (cl : List (PySem.Str × Addr)) (fp : List Addr), PG (X.blk s H scope (compEnvC scope cl C X.env) fp) tg g)
    (ht : ∀ (s : Shared) (H : Hp) (C : Addr) (cl : List (PySem.Str × Addr)) (fp : List Addr), PTs (X.blk s H scope (compEnvC scope cl C X.env) fp) ifs tt)
    (he : ∀ (s : Shared) (H : Hp) (C : Addr) (cl : List (PySem.Str × Addr)) (fp : List Addr), PE (X.blk s H scope (compEnvC scope cl C X.env) fp) elt te) (hs : ∀ x, foldedSetIterable iter X.env x = pure x)
    (h : tScG X.K X.w wi g tt te (own.map (·.2)) σ H Q)
    (hRR : ∀ D C s' m H', L2.Inv X pins σ H' s' → Q (.ref D) H' → s'.heap.Ns C m → FpOk X pins H' C → compPost (model X.prog X.w) X.A X.xe use Qf (.ref D) C (.ok .next) s') :
    wpAny (model X.prog X.w) X.A (comprehension (.SetComp elt [⟨tg, iter, ifs, 0⟩] scope pos) scope X.env pos' (newSet (.type "set")) false (eval iter X.env) use) Qf X.xe s := by
  have free : ∀ y ∈ scope.names, y.2 = .free → ∃ c, X.env.cells.lookup y.1 = some c := fun y hy e => (ok.free y hy e).elim (fun k => I.ok.has _ (.inl k)) fun k => I.ok.has _ (.inr k)
  refine wpAny_comprehension_free (use := use) rfl hs (closure_ok free) ok.kind (fun y hy e => by rw [ok.uniq y hy, e]) (thn (hi.run pins s σ H _ I h) fun xv s1 hx => thn hx fun itv s2 h2 => ?_)
  obtain ⟨it, fp, tn, J, H2, e, I2, T, st2, f2, tb, q⟩ := h2
  subst e
  refine PpSet.newSet_ok (newEnv_comp ?_)
  generalize hD : s2.heap.objs.size = D
  obtain ⟨W, ⟨m0, w0⟩, turn⟩ := q D (I2.hok.fresh (Nat.le_of_eq hD))
  generalize hs3 : ({ s2 with heap := s2.heap.push (newS X.w) } : Shared) = s3
  have I3 : L2.Inv X pins σ (upd H2 D (SetGO X.w D tb [])) s3 := by
    rw [← hs3]
    refine I2.laid (t' := s2.toks) (fun b o e => Heap.get?_push_of_some _ e) (Nat.le_of_eq hD) ?_
    rw [← hD]
    exact setGO_new (T := []) (setG_fresh tb (Heap.get?_push_size _ rfl)) fun q hq => by cases hq
  have h3 : s3.heap = s2.heap.push (newS X.w) := by rw [← hs3]
  have sz : ∀ b ∈ fp, b < s2.heap.objs.size := fun b hb => let ⟨o, e, _⟩ := T.obj _ _ st2 b hb; Heap.lt_size e
  have f3 : ∀ b ∈ fp, FpOk X pins (upd H2 D (SetGO X.w D tb [])) b ∧ b < s3.heap.objs.size := fun b hb => by
    refine ⟨⟨?_, (f2 b hb).2⟩, by rw [h3, Heap.size_push]; exact Nat.lt_succ_of_lt (sz b hb)⟩
    rw [upd_ne (by rw [← hD]; exact Nat.ne_of_lt (sz b hb))]
    exact (f2 b hb).1
  have st3 : tn 0 s3.heap := T.keep _ _ _ st2 fun b _ o e => by rw [h3]; exact Heap.get?_push_of_some _ e
  have I4 := block_start I3 ok hN f3
  have pg := hg s3 (upd H2 D (SetGO X.w D tb [])) s3.heap.objs.size (cellsFrom (s3.heap.objs.size + 1) scope.names (cloFrom X.env.cells scope.names [])) fp
  have pt := ht s3 (upd H2 D (SetGO X.w D tb [])) s3.heap.objs.size (cellsFrom (s3.heap.objs.size + 1) scope.names (cloFrom X.env.cells scope.names [])) fp
  have pe := he s3 (upd H2 D (SetGO X.w D tb [])) s3.heap.objs.size (cellsFrom (s3.heap.objs.size + 1) scope.names (cloFrom X.env.cells scope.names [])) fp
  show codeAny _ _ (.compStart (.SetComp elt [⟨tg, iter, ifs, 0⟩] scope pos) 0 (.ref it) (.ref D) (compEnvC scope (cellsFrom (s3.heap.objs.size + 1) scope.names (cloFrom X.env.cells scope.names [])) s3.heap.objs.size X.env)) (compPost (model X.prog X.w) X.A X.xe use Qf (.ref D) s3.heap.objs.size) { s3 with heap := pushCells (s3.heap.push { cls := .type "dict", data := .dict #[] }) scope.names }
  have nfp : ∀ b ∈ fp, (upd H2 D (SetGO X.w D tb [])) b = none := fun b hb => (f3 b hb).1.1
  generalize hce : compEnvC scope (cellsFrom (s3.heap.objs.size + 1) scope.names (cloFrom X.env.cells scope.names [])) s3.heap.objs.size X.env = ce at I4 pg pt pe ⊢
  have cL : ce.locals = s3.heap.objs.size := by subst hce; rfl
  generalize hH3 : upd H2 D (SetGO X.w D tb []) = H3 at I3 I4 pg pt pe w0 nfp f3
  generalize hs4 : ({ s3 with heap := pushCells (s3.heap.push { cls := .type "dict", data := .dict #[] }) scope.names } : Shared) = s4 at I4 ⊢
  have st4 : tn 0 s4.heap := T.keep _ _ _ st3 fun b _ o e => by rw [← hs4]; exact pushCells_keeps _ _ _ _ (Heap.get?_push_of_some _ e)
  have stat : ∀ {σ' : L2.St} {H' : Hp} {s' : Shared}, L2.Inv (X.blk s3 H3 scope ce fp) [] σ' H' s' → (∀ b ∈ fp, H' b = none) → ∀ b ∈ fp, FpOk (X.blk s3 H3 scope ce fp) [] H' b := fun {σ' H' s'} I' hn b hb =>
    ⟨hn b hb, (I'.ok.exf b hb).1, I'.ok.exfs b hb, .inl hb, fun x c e => (I'.ok.exf b hb).2 x c e, fun p hp => absurd (show p ∈ ([] : List (Addr × Obj)) ++ [] from hp) (by simp)⟩
  have loop : codeAny (model X.prog X.w) X.A (.compLoop (.SetComp elt [⟨tg, iter, ifs, 0⟩] scope pos) 0 (.ref it) (.ref D) ce) (compPost (model X.prog X.w) X.A X.xe use Qf (.ref D) s3.heap.objs.size) s4 := by
    refine PpSet.compLoopS_any (fun n s' => ∃ i H', L2.Inv (X.blk s3 H3 scope ce fp) [] (wipe σ (own.map (·.2))) H' s' ∧ tn i s'.heap ∧ (∀ b ∈ fp, H' b = none) ∧ W i n H') ?_ m0 ⟨0, H3, I4, st4, nfp, w0⟩
    rintro n s5 ⟨i, H5, I5, st5, n5, w5⟩
    rcases turn i n H5 w5 with ⟨stop, qq⟩ | ⟨go, Nx, hNx, step⟩
    · refine thnF (T.done (X.blk s3 H3 scope ce fp) rfl rfl rfl hc i [] s5 _ H5 (fun _ _ => False) I5 (stat I5 n5) st5 stop) fun r s6 ⟨hr, I6⟩ => ?_
      subst hr
      have I7 : L2.Inv X pins σ H5 s6 := I3.call' (ch := fp) I6.os I6.base I6.hok I6.bare fun b hb => ⟨(f3 b hb).1.2.2.2.1, (f3 b hb).1.2.1, (f3 b hb).1.2.2.2.2.1, (f3 b hb).1.2.2.2.2.2⟩
      have nC : H5 s3.heap.objs.size = none := by
        have z : H5 ce.locals = none := I6.free
        rw [cL] at z
        exact z
      obtain ⟨m, hn, _⟩ := I6.loc
      have hn : s6.heap.Ns ce.locals m := hn
      rw [cL] at hn
      exact hRR D s3.heap.objs.size s6 m H5 I7 qq hn (I3.fpOk (Nat.le_refl _) nC)
    · refine thnF (T.item (X.blk s3 H3 scope ce fp) rfl rfl rfl hc i [] s5 _ H5 (fun _ _ => False) I5 (stat I5 n5) st5 go) fun r s6 ⟨u, hr, h6⟩ => ?_
      subst hr
      refine thnF h6 fun _ s7 ⟨x, H7, I7, r7, y7, st7, n7⟩ => ?_
      have I7' := I7.pinned (stat I7 n7) (T.obj _ _ st7)
      refine thnF (pg.run _ s7 _ H7 x u _ I7' r7 (step x H7 y7)) fun _ s8 ⟨σ8, H8, I8, hw8, q8⟩ => ?_
      refine thnF (pt.run _ s8 σ8 H8 _ I8 q8) fun b s9 ⟨H9, I9, q9⟩ => ?_
      have fin : ∀ {s' : Shared} {H' : Hp}, L2.Inv (X.blk s3 H3 scope ce fp) ([] ++ pinsAt fp s7.heap) σ8 H' s' → Nx H' → ∃ m, m < n ∧ ∃ i H', L2.Inv (X.blk s3 H3 scope ce fp) [] (wipe σ (own.map (·.2))) H' s' ∧ tn i s'.heap ∧ (∀ b ∈ fp, H' b = none) ∧ W i m H' := fun {s' H'} I' nx => by
        obtain ⟨m', hm, w'⟩ := hNx H' nx
        have pin' : ∀ b ∈ fp, ∀ o, s7.heap.get? b = some o → s'.heap.get? b = some o ∧ H' b = none := fun b hb o e =>
          let z := I'.pin (b, o) (List.mem_append_right _ (List.mem_append_right _ (mem_pinsAt hb e)))
          ⟨z.1, z.2.1⟩
        have hl : (wipe σ (own.map (·.2))).length = σ8.length := by rw [← hw8, wipe_length]
        refine ⟨m', hm, i + 1, H', (I'.unpinned (pins := [])).weak hl (fun j v e => ?_), T.keep _ _ _ st7 fun b hb o e => (pin' b hb o e).1, fun b hb => ?_, w'⟩
        · rw [← hw8] at e
          exact (wipe_some e).1
        · obtain ⟨o, e, _⟩ := T.obj _ _ st7 b hb
          exact (pin' b hb o e).2
      cases b with
      | false =>
        simp only [Bool.false_eq_true, if_false] at q9 ⊢
        exact fin I9 q9
      | true =>
        simp only [if_true] at q9 ⊢
        refine thnF (pe.run _ s9 σ8 H9 _ I9 q9) fun z s10 ⟨yv, H10, I10, r10, k, L, hD10, hL10, dk, mk, kk, room, nx⟩ => ?_
        exact add_GO (X := X.blk s3 H3 scope ce fp) I10 hD10 hL10 r10 dk mk kk room hu fun s11 L' c1 c2 I11 => fin I11 (nx L' c1 c2)
  exact PpSet.codeAny_compStart_set loop (T.self X.A 0 _ _ _ st4 loop)
theorem pe_scG {elt tg iter : Expr} {ifs : List Expr} {scope : Scope} {own : List (PySem.Str × Nat)} {pos : Pos} {wi : TI} {g : TG} {tt : TT} {te : TE} (hc : X.calm = true) (hu : X.A.units + 64 < cLine) (hN : X.N.Nodup) (hi : PI X tg iter wi) (ok : BlkOk X.N X.env.scope scope own)
    (hg : ∀ (s : Shared) (H : Hp) (C : Addr) (cl : List (PySem.Str × Addr)) (fp : List Addr), PG (X.blk s H scope (compEnvC scope cl C X.env) fp) tg g)
    (ht : ∀ (s : Shared) (H : Hp) (C : Addr) (cl : List (PySem.Str × Addr)) (fp : List Addr), PTs (X.blk s H scope (compEnvC scope cl C X.env) fp) ifs tt)
    (he : ∀ (s : Shared) (H : Hp) (C : Addr) (cl : List (PySem.Str × Addr)) (fp : List Addr), PE (X.blk s H scope (compEnvC scope cl C X.env) fp) elt te) (hs : ∀ x, foldedSetIterable iter X.env x = pure x) :
    PE X (.SetComp elt [⟨tg, iter, ifs, 0⟩] scope pos) (tScG X.K X.w wi g tt te (own.map (·.2))) := by
  refine ⟨fun pins s σ H Q I h => ?_⟩
  rw [PpSet.eval_SetComp]
  refine scG_core hc hu hN I hi ok hg ht he hs h fun D C s' m H' I' q hn f => ⟨m, hn, fun h'' sb => ?_⟩
  obtain ⟨f0, f1, f2, f3, f4, f5⟩ := f
  exact ⟨.ref D, H', I'.turned (t' := s'.toks) (fun b o hb e => (sb.2 b hb).trans e) f0 f1 f3 f4 f5, rfl, q⟩
end
end Mx

/-! M33: sorted({..}), len({..}) by mirrors. -/
namespace Mx
open PySem L2
theorem pyL_len : ∀ {ds : List D} {ps : List PyData}, D.pyL ds = some ps → ps.length = ds.length
  | [], ps, h => by rw [D.pyL] at h; cases h; rfl
  | d :: ds, ps, h => by
    rw [D.pyL] at h
    cases e1 : D.py d with
    | none => rw [e1] at h; cases h
    | some p =>
      cases e2 : D.pyL ds with
      | none => rw [e1, e2] at h; cases h
      | some qs => rw [e1, e2] at h; cases h; simp [pyL_len e2]
theorem pyL_app : ∀ {as bs : List D} {ps : List PyData}, D.pyL (as ++ bs) = some ps → ∃ p1 p2, D.pyL as = some p1 ∧ D.pyL bs = some p2 ∧ ps = p1 ++ p2
  | [], bs, ps, h => ⟨[], ps, by rw [D.pyL], h, rfl⟩
  | a :: as, bs, ps, h => by
    rw [List.cons_append, D.pyL] at h
    cases e1 : D.py a with
    | none => rw [e1] at h; cases h
    | some p =>
      cases e2 : D.pyL (as ++ bs) with
      | none => rw [e1, e2] at h; cases h
      | some qs =>
        rw [e1, e2] at h
        cases h
        obtain ⟨p1, p2, a1, a2, rfl⟩ := pyL_app e2
        exact ⟨p :: p1, p2, by rw [D.pyL, e1, a1], a2, rfl⟩
theorem pyL_app2 : ∀ {as bs : List D} {p1 p2 : List PyData}, D.pyL as = some p1 → D.pyL bs = some p2 → D.pyL (as ++ bs) = some (p1 ++ p2)
  | [], bs, p1, p2, h1, h2 => by rw [D.pyL] at h1; cases h1; exact h2
  | a :: as, bs, p1, p2, h1, h2 => by
    rw [D.pyL] at h1
    cases e1 : D.py a with
    | none => rw [e1] at h1; cases h1
    | some p =>
      cases e2 : D.pyL as with
      | none => rw [e1, e2] at h1; cases h1
      | some qs =>
        rw [e1, e2] at h1
        cases h1
        rw [List.cons_append, D.pyL, e1, pyL_app2 e2 h2]
        rfl
theorem Res.bind_assoc {β γ δ : Type} (r : Res β) (f : β → Mem → Res γ) (g : γ → Mem → Res δ) : (r.bind f).bind g = r.bind fun b m => (f b m).bind g := by
  cases r <;> rfl
/-- what has been got of all items -/
structure GotV (xs : List V) (ps : List PyData) (L : List Mv) : Prop where
  sub : ∀ p ∈ L, p ∈ xs.zip ps
  all : ∀ p ∈ ps, p ∈ L.map (·.2)
  nd : (L.map (·.2)).Nodup
  len : L.length ≤ ps.length
theorem GotV.put {xs : List V} {ps : List PyData} {L L' : List Mv} {v : V} {k : PyData} (g : GotV xs ps L) (hl : xs.length = ps.length) (c1 : k ∈ L.map (·.2) → L' = L) (c2 : k ∉ L.map (·.2) → L'.Perm ((v, k) :: L)) : GotV (xs ++ [v]) (ps ++ [k]) L' := by
  have z : (xs ++ [v]).zip (ps ++ [k]) = xs.zip ps ++ [(v, k)] := by
    rw [List.zip_append hl]
    rfl
  rcases Classical.em (k ∈ L.map (·.2)) with c | c
  · rw [c1 c]
    refine ⟨fun p hp => by rw [z]; exact List.mem_append_left _ (g.sub p hp), fun p hp => ?_, g.nd, by rw [List.length_append]; exact Nat.le_succ_of_le g.len⟩
    rcases List.mem_append.mp hp with h | h
    · exact g.all p h
    · rw [List.mem_singleton.mp h]; exact c
  · have pm := c2 c
    refine ⟨fun p hp => ?_, fun p hp => ?_, (pm.map (·.2)).nodup_iff.mpr (by rw [List.map_cons]; exact List.nodup_cons.mpr ⟨c, g.nd⟩), ?_⟩
    · rw [z]
      rcases List.mem_cons.mp (pm.mem_iff.mp hp) with h | h
      · rw [h]; exact List.mem_append_right _ (List.mem_singleton.mpr rfl)
      · exact List.mem_append_left _ (g.sub p h)
    · refine (pm.map (·.2)).mem_iff.mpr ?_
      rcases List.mem_append.mp hp with h | h
      · exact List.mem_cons_of_mem _ (g.all p h)
      · rw [List.mem_singleton.mp h]; exact List.mem_cons_self
    · rw [pm.length_eq, List.length_append]
      exact Nat.succ_le_succ g.len
section
variable {X : Cx} {W : WX} {pos : Pos}
/-- the state within a set comprehension -/
structure ScAt (K : PySem.W.Frag) (w : World) (α1 : Ad) (H1 : Hp) (D0 : Addr) (tb : Bool) (loc : Mx.Env) (σ : St) (α2 : Ad) (H : Hp) (mem2 : Mem) (acc : List D) (xs : List V) (ps : List PyData) (L : List Mv) : Prop where
  lk : Lk α1 H1 α2 H
  hd : α2.hid = D0 :: α1.hid
  hold : ∀ a o, a ∈ α1.hid → a ∉ α1.cells → H1 a = some o → a ∉ α2.cells ∧ H a = some o
  at_ : H D0 = some (SetGO w D0 tb L)
  rs : RepL K α2 H acc xs
  py : D.pyL acc = some ps
  got : GotV xs ps L
  hm : MemRep K α2 H mem2
  hl : LocRep K α2 H loc σ
section
variable {K : PySem.W.Frag} {w : World} {α1 α2 α3 : Ad} {H1 H H' : Hp} {D0 : Addr} {tb : Bool} {loc : Mx.Env} {σ : St} {mem2 mem3 : Mem} {acc : List D} {xs : List V} {ps : List PyData} {L L' : List Mv}
theorem ScAt.next (h : ScAt K w α1 H1 D0 tb loc σ α2 H mem2 acc xs ps L) (l : Lt α2 H α3 H') (hm : MemRep K α3 H' mem3) : ScAt K w α1 H1 D0 tb loc σ α3 H' mem3 acc xs ps L := by
  have hD : D0 ∈ α2.hid := by rw [h.hd]; exact List.mem_cons_self
  refine ⟨h.lk.trans l.toLk, l.hideq.trans h.hd, fun a o h1 h2 e => ?_, (l.hold D0 _ hD (h.hm.hid D0 hD).2 h.at_).2, h.rs.mono l.toLk, h.py, h.got, hm, h.hl.mono l.toLk⟩
  obtain ⟨q1, q2⟩ := h.hold a o h1 h2 e
  exact l.hold a o (by rw [h.hd]; exact List.mem_cons_of_mem _ h1) q1 q2
theorem ScAt.put {d : D} {v : V} {k : PyData} (h : ScAt K w α1 H1 D0 tb loc σ α2 H mem2 acc xs ps L) (nD : H1 D0 = none) (r : Rep K α2 H d v) (e : D.py d = some k) (c1 : k ∈ L.map (·.2) → L' = L) (c2 : k ∉ L.map (·.2) → L'.Perm ((v, k) :: L)) :
    ScAt K w α1 H1 D0 tb loc σ α2 (upd H D0 (SetGO w D0 tb L')) mem2 (acc ++ [d]) (xs ++ [v]) (ps ++ [k]) L' := by
  have hD : D0 ∈ α2.hid := by rw [h.hd]; exact List.mem_cons_self
  have lw : Lk α2 H α2 (upd H D0 (SetGO w D0 tb L')) := Lk.write fun q => q.2 hD
  refine ⟨⟨fun a o ha e => ?_, h.lk.pre⟩, h.hd, fun a o h1 h2 e => ?_, upd_same, (h.rs.snoc r).mono lw, pyL_app2 h.py (by rw [D.pyL, e]; rfl), h.got.put ?_ c1 c2, h.hm.writeH hD, h.hl.mono lw⟩
  · obtain ⟨q1, q2⟩ := h.lk.keep a o ha e
    exact ⟨q1, by rw [upd_ne (ne_of_none e nD)]; exact q2⟩
  · obtain ⟨q1, q2⟩ := h.hold a o h1 h2 e
    exact ⟨q1, by rw [upd_ne (ne_of_none e nD)]; exact q2⟩
  · rw [← h.rs.length, pyL_len h.py]
end
/-- behind the comprehension: the set, what has been put in, what is wanted -/
structure ScEnd (K : PySem.W.Frag) (w : World) (gS : OpP) (Q : VK) (W' : XK) (x : V) (H : Hp) : Prop where
  ex : ∃ (a : Addr) (tb : Bool) (L : List Mv) (es : List D) (xs : List V) (ps : List PyData) (α : Ad) (mem : Mem), x = .ref a ∧ H a = some (SetGO w a tb L) ∧ MemRep K α H mem ∧ RepL K α H es xs ∧ D.pyL es = some ps ∧ setKd ps = some tb ∧ GotV xs ps L ∧ Post (Rep K) K α H (ofP (pu gS mem [.lst es])) Q W'
theorem sc_read {own : List (Str × Nat)} {g : Tg} {mi : EW} {mt : EB} {me : E1} {gS : OpP} (hgs : ∀ m es z, gS m [.lst es] = some z → ∃ ps tb, D.pyL es = some ps ∧ setKd ps = some tb) (hsl : ∀ i ∈ g.slots, i ∈ own.map (·.2)) :
    ∀ σ H Q, tE X.K (e1 (pu gS) (eLc (own.map (·.2)) g mi mt me)) W σ H Q → tScG X.K X.w (tG (RW X.K) X.K mi W) (tGt X.K g) (tT X.K mt W0) (tE X.K me W0) (own.map (·.2)) σ H (ScEnd X.K X.w gS Q (fun c d H' => W c d σ H')) := fun σ H Q ⟨α, loc, mem, hm, hl, hp⟩ => by
  unfold e1 eLc at hp
  rw [Res.bind_assoc] at hp
  refine tG_go hm hl hp fun α1 H1 m1 wk J l1 hm1 hl1 hr1 hp1 => ?_
  cases ec : comp g mt me wk.guard wk.items (wipeL loc (own.map (·.2))) m1 with
  | ex e m => rw [ec] at hp1; exact hp1.elim
  | bad => rw [ec] at hp1; exact hp1.elim
  | ok total mF =>
    rw [ec] at hp1
    have hp1 : Post (Rep X.K) X.K α1 H1 (ofP (pu gS mF [.lst total])) Q (fun c d H' => W c d σ H') := hp1
    have hz : ∃ z, gS mF [.lst total] = some z := by
      cases ez : gS mF [.lst total] with
      | none => unfold pu at hp1; rw [ez] at hp1; exact hp1.elim
      | some z => exact ⟨z, rfl⟩
    obtain ⟨z, ez⟩ := hz
    obtain ⟨psT, tb, ePs, eKd⟩ := hgs mF total z ez
    obtain ⟨k1, k2⟩ := setKd_ok eKd
    refine ⟨tb, fun D0 nD => ?_⟩
    refine ⟨fun i n H => n = wk.items.length - i ∧ i ≤ wk.items.length ∧ ∃ α2 mem2 acc xs ps L, ScAt X.K X.w α1 H1 D0 tb (wipeL loc (own.map (·.2))) (wipe σ (own.map (·.2))) α2 H mem2 acc xs ps L ∧
      ∃ ys, comp g mt me wk.guard (wk.items.drop i) (wipeL loc (own.map (·.2))) mem2 = .ok ys mF ∧ acc ++ ys = total,
      ⟨_, rfl, Nat.zero_le _, α1.hide D0, m1, [], [], [], [], ⟨Lk.hide nD, rfl, fun a o h1 h2 e => ⟨h2, same_new nD _ _ e⟩, upd_same, .nil, by rw [D.pyL], ⟨(fun p hp => by cases hp), (fun p hp => by cases hp), List.nodup_nil, Nat.le_refl _⟩, hm1.hide nD, (hl1.wipe _).mono (Lk.hide nD)⟩, total, ec, rfl⟩, ?_⟩
    rintro i n H2 ⟨rfl, hi, α2, mem2, acc, xs, ps, L, A, ys, ey, et⟩
    have hD : D0 ∈ α2.hid := by rw [A.hd]; exact List.mem_cons_self
    by_cases hlt : i < wk.items.length
    · rw [List.drop_eq_getElem_cons hlt, comp] at ey
      by_cases hgd : wk.guard mem2 = true
      · rw [if_pos hgd] at ey
        obtain ⟨hgo, hy⟩ := hr1.go α2 H2 mem2 i _ A.lk A.hm hgd (List.getElem?_eq_getElem hlt)
        refine .inr ⟨hgo, fun H' => ∃ α2 mem2 acc xs ps L, ScAt X.K X.w α1 H1 D0 tb (wipeL loc (own.map (·.2))) (wipe σ (own.map (·.2))) α2 H' mem2 acc xs ps L ∧
          ∃ ys, comp g mt me wk.guard (wk.items.drop (i + 1)) (wipeL loc (own.map (·.2))) mem2 = .ok ys mF ∧ acc ++ ys = total,
          fun H' q => ⟨_, by omega, rfl, hlt, q⟩, fun x H3 y => ?_⟩
        obtain ⟨sm, hx⟩ := hy x H3 y
        cases ea : g.asg mem2 wk.items[i] with
        | none => rw [ea] at ey; cases ey
        | some asg =>
          rw [ea] at ey
          dsimp only at ey
          have A3 := A.next (Lt.same sm) (A.hm.same sm)
          refine ⟨α2, mem2, wk.items[i], asg, A3.hm, hx, ea, fun vs hv => ⟨?_, ?_⟩⟩
          · have hsub : ∀ p ∈ vs, p.1 ∈ own.map (·.2) := hv.slots fun p hp => hsl _ (Tg.asg_slots g _ _ ea p hp)
            rw [wipe_setV hsub, wipe_wipe]
          · refine ⟨α2, setL (wipeL loc (own.map (·.2))) asg, mem2, A3.hm, A3.hl.setA hv, ?_⟩
            cases eb : mt (setL (wipeL loc (own.map (·.2))) asg) mem2 with
            | ok b m3 =>
              rw [eb] at ey
              intro α3 H4 b' l4 hm3 eb'
              cases eb'
              have A4 := A3.next l4 hm3
              cases b with
              | false =>
                rw [if_neg (by simp)]
                exact ⟨α3, m3, acc, xs, ps, L, A4, ys, by simpa [Res.bind] using ey, et⟩
              | true =>
                rw [if_pos rfl]
                simp only [Res.bind, if_true] at ey
                refine ⟨α3, setL (wipeL loc (own.map (·.2))) asg, m3, hm3, (A3.hl.setA hv).mono l4.toLk, ?_⟩
                cases ed : me (setL (wipeL loc (own.map (·.2))) asg) m3 with
                | ok d m4 =>
                  rw [ed] at ey
                  intro α4 H5 v l5 hm4 hv4
                  have A5 := A4.next l5 hm4
                  dsimp only at ey
                  cases er : comp g mt me wk.guard (wk.items.drop (i + 1)) (wipeL loc (own.map (·.2))) m4 with
                  | ok ys' m5 =>
                    rw [er] at ey
                    cases ey
                    have eT : D.pyL (acc ++ d :: ys') = some psT := by rw [et]; exact ePs
                    obtain ⟨p1, p2, b1, b2, b3⟩ := pyL_app eT
                    rw [A.py] at b1
                    cases b1
                    rw [D.pyL] at b2
                    cases e1 : D.py d with
                    | none => rw [e1] at b2; cases b2
                    | some k =>
                      cases e2 : D.pyL ys' with
                      | none => rw [e1, e2] at b2; cases b2
                      | some qs =>
                        rw [e1, e2] at b2
                        cases b2
                        have hk : k ∈ psT := by rw [b3]; exact List.mem_append_right _ List.mem_cons_self
                        have hps : ∀ p ∈ ps, p ∈ psT := fun p hp => by rw [b3]; exact List.mem_append_left _ hp
                        have dps := A5.rs.dp A5.py
                        refine ⟨k, L, A5.at_, fun p hp => ⟨zip_dp dps p (A5.got.sub p hp), (k1 p.2 (hps _ (List.of_mem_zip (A5.got.sub p hp)).2)).1⟩, hv4.dp e1, (k1 k hk).1, (k1 k hk).2, ?_, fun L' c1 c2 => ?_⟩
                        · have := A5.got.len
                          have e3 := congrArg List.length b3
                          rw [List.length_append, List.length_cons] at e3
                          omega
                        · exact ⟨α4, m4, acc ++ [d], xs ++ [v], ps ++ [k], L', A5.put nD hv4 e1 c1 c2, ys', er, by rw [List.append_assoc]; exact et⟩
                  | ex e m5 => rw [er] at ey; cases ey
                  | bad => rw [er] at ey; cases ey
                | ex e m => rw [ed] at ey; cases ey
                | bad => rw [ed] at ey; cases ey
            | ex e m => rw [eb] at ey; cases ey
            | bad => rw [eb] at ey; cases ey
      · rw [if_neg hgd] at ey
        cases ey
    · rw [List.drop_eq_nil_of_le (Nat.le_of_not_lt hlt), comp] at ey
      by_cases hgd : wk.guard mem2 = true
      · rw [if_pos hgd] at ey
        injection ey with ey1 ey2
        subst ey1
        subst ey2
        rw [List.append_nil] at et
        subst et
        have hsub : ∀ a ∈ α1.hid, a ∈ α2.hid := fun a ha => by rw [A.hd]; exact List.mem_cons_of_mem _ ha
        have lu : Lk α2 H2 ⟨α2.cells, α1.hid⟩ H2 := Lk.unhide hsub
        refine .inl ⟨hr1.stop α2 H2 mem2 i A.lk A.hm hgd (Nat.le_of_not_lt hlt), ⟨D0, tb, L, acc, xs, ps, ⟨α2.cells, α1.hid⟩, mem2, rfl, A.at_, A.hm.unhide hsub, A.rs.mono lu, A.py, ?_, A.got, ?_⟩⟩
        · rw [A.py] at ePs
          cases ePs
          exact eKd
        · exact Post.later ⟨A.lk.trans lu, A.hold, rfl⟩ hp1
      · rw [if_neg hgd] at ey
        cases ey
theorem scG_mono {K : PySem.W.Frag} {w : World} {mi : EW} {g : TG} {tt : TT} {te : TE} {vs : List Nat} {σ : St} {H : Hp} {Q Q' : VK} {W : WX} (q : ∀ x H, Q x H → Q' x H) (h : tScG K w (tG (RW K) K mi W) g tt te vs σ H Q) : tScG K w (tG (RW K) K mi W) g tt te vs σ H Q' := by
  obtain ⟨α, loc, mem, hm, hl, hp⟩ := h
  refine ⟨α, loc, mem, hm, hl, hp.imp (fun J H1 ⟨tb, h⟩ => ⟨tb, fun D nD => ?_⟩) fun _ _ _ h => h⟩
  obtain ⟨W, w0, turn⟩ := h D nD
  exact ⟨W, w0, fun i m H hw => (turn i m H hw).imp (fun ⟨a, b⟩ => ⟨a, q _ _ b⟩) id⟩
theorem gSrtS_kd (m : Mem) (es : List D) (z : D) (h : gSrtS m [.lst es] = some z) : ∃ ps tb, D.pyL es = some ps ∧ setKd ps = some tb := by
  dsimp only [gSrtS, lsOf] at h
  cases e : D.pyL es with
  | none => rw [e] at h; cases h
  | some ps =>
    rw [e] at h
    dsimp only at h
    split at h
    · rename_i c
      rw [Bool.and_eq_true] at c
      obtain ⟨tb, etb⟩ := Option.isSome_iff_exists.mp c.1
      exact ⟨ps, tb, rfl, etb⟩
    · cases h
theorem gLenS_kd (m : Mem) (es : List D) (z : D) (h : gLenS m [.lst es] = some z) : ∃ ps tb, D.pyL es = some ps ∧ setKd ps = some tb := by
  dsimp only [gLenS, lsOf] at h
  cases e : D.pyL es with
  | none => rw [e] at h; cases h
  | some ps =>
    rw [e] at h
    dsimp only at h
    split at h
    · rename_i c
      obtain ⟨tb, etb⟩ := Option.isSome_iff_exists.mp c
      exact ⟨ps, tb, rfl, etb⟩
    · cases h
theorem srt_end {K : PySem.W.Frag} {w : World} {Q : VK} {W' : XK} {x : V} {H : Hp} (h : ScEnd K w gSrtS Q W' x H) : rSortG K w [x] H Q := by
  obtain ⟨a, tb, L, es, xs, ps, α, mem, rfl, ha, hm, hr, e2, ek, g, hp⟩ := h.ex
  unfold pu at hp
  dsimp only [gSrtS, lsOf] at hp
  rw [e2] at hp
  dsimp only at hp
  obtain ⟨k1, k2⟩ := setKd_ok ek
  have dp := hr.dp e2
  by_cases c : ((setKd ps).isSome && srtOk ps) = true
  · rw [if_pos c] at hp
    rw [Bool.and_eq_true] at c
    have sp : ∀ q ∈ L, q.2 ∈ ps := fun q hq => (List.of_mem_zip (g.sub q hq)).2
    refine ⟨a, tb, L, rfl, ha, fun q hq => ⟨zip_dp dp q (g.sub q hq), (k1 q.2 (sp q hq)).1⟩, fun u hu v hv => ?_, ?_, fun out b2 pm pw nb2 => ?_⟩
    · obtain ⟨q, hq, rfl⟩ := List.mem_map.mp hu
      obtain ⟨q', hq', rfl⟩ := List.mem_map.mp hv
      exact srtOk_al c.2 _ (sp q hq) _ (sp q' hq')
    · rcases srtOk_so c.2 with so | so
      · refine .inl fun u hu => ?_
        obtain ⟨q, hq, rfl⟩ := List.mem_map.mp hu
        exact so _ (sp q hq)
      · refine .inr fun u hu => ?_
        obtain ⟨q, hq, rfl⟩ := List.mem_map.mp hu
        exact so _ (sp q hq)
    · have sm2 := same_new (o := .lst (out.map (·.1))) nb2
      refine hp α _ _ (Lt.same sm2) (hm.same sm2) (.lst (hm.fresh nb2) upd_same ?_)
      exact (sortG_rep hr e2 (fun p hp => (k1 p hp).1) (srtOk_al c.2) g.sub g.all g.nd pm pw).mono (Lt.same sm2).toLk
  · rw [if_neg c] at hp
    exact hp.elim
theorem len_end {K : PySem.W.Frag} {w : World} {Q : VK} {W' : XK} {x : V} {H : Hp} (h : ScEnd K w gLenS Q W' x H) : rLenG w [x] H Q := by
  obtain ⟨a, tb, L, es, xs, ps, α, mem, rfl, ha, hm, hr, e2, ek, g, hp⟩ := h.ex
  unfold pu at hp
  dsimp only [gLenS, lsOf] at hp
  rw [e2] at hp
  dsimp only at hp
  obtain ⟨k1, k2⟩ := setKd_ok ek
  rw [if_pos (by rw [ek]; rfl)] at hp
  refine ⟨a, tb, L, rfl, ha, ?_⟩
  have := hp α H _ (Lt.refl _ _) hm (.int _)
  rw [lenG_is hr e2 (fun p hp => (k1 p hp).1) g.sub g.all g.nd]
  exact this
section
variable {elt tg iter : Expr} {ifs : List Expr} {scope : Scope} {own : List (Str × Nat)} {g : Tg} {mi : EW} {mt : EB} {me : E1} {p1 q1 : Pos}
theorem me_srtC (hu : X.A.units + 64 < cLine) (hgl : Gl X "sorted") (hmg : X.mg "sorted" = none) (hc : X.calm = true) (hN : X.N.Nodup) (ok : BlkOk X.N X.env.scope scope own) (hsl : (g.slots.all fun i => (own.map (·.2)).contains i) = true) (hi : MI X W tg iter mi)
    (hg : ∀ (s : Shared) (H : Hp) (C : Addr) (cl : List (Str × Addr)) (fp : List Addr), MG (X.blk s H scope (compEnvC scope cl C X.env) fp) tg g)
    (ht : ∀ (s : Shared) (H : Hp) (C : Addr) (cl : List (Str × Addr)) (fp : List Addr), MTs (X.blk s H scope (compEnvC scope cl C X.env) fp) W0 ifs mt)
    (he : ∀ (s : Shared) (H : Hp) (C : Addr) (cl : List (Str × Addr)) (fp : List Addr), ME (X.blk s H scope (compEnvC scope cl C X.env) fp) W0 elt me)
    (hs : ∀ x, foldedSetIterable iter X.env x = pure x := by intro _; rfl) (s2 : starEach [.SetComp elt [⟨tg, iter, ifs, 0⟩] scope pos] X.env = (false, eval (.SetComp elt [⟨tg, iter, ifs, 0⟩] scope pos) X.env) :: starEach [] X.env := by rfl) :
    ME X W (.Call (.Name "sorted" p1) [.SetComp elt [⟨tg, iter, ifs, 0⟩] scope pos] [] q1) (e1 (pu gSrtS) (eLc (own.map (·.2)) g mi mt me)) :=
  ⟨PE.imp (pe_callB (cr_sortG hc hu) hgl hmg (by decide +kernel) (pa_cons (pe_scG (own := own) hc hu hN hi.pi ok (fun s H C cl fp => (hg s H C cl fp).pg) (fun s H C cl fp => (ht s H C cl fp).pts) (fun s H C cl fp => (he s H C cl fp).pe) hs) pa_nil s2) (by decide) (by decide) s2 rfl) fun σ H Q h => by
    refine scG_mono (fun x H1 h => srt_end h) (sc_read gSrtS_kd (fun i hi => ?_) σ H Q h)
    have := List.all_eq_true.mp hsl i hi
    simpa using this⟩
theorem me_lenC (hu : X.A.units + 64 < cLine) (hgl : Gl X "len") (hmg : X.mg "len" = none) (hc : X.calm = true) (hN : X.N.Nodup) (ok : BlkOk X.N X.env.scope scope own) (hsl : (g.slots.all fun i => (own.map (·.2)).contains i) = true) (hi : MI X W tg iter mi)
    (hg : ∀ (s : Shared) (H : Hp) (C : Addr) (cl : List (Str × Addr)) (fp : List Addr), MG (X.blk s H scope (compEnvC scope cl C X.env) fp) tg g)
    (ht : ∀ (s : Shared) (H : Hp) (C : Addr) (cl : List (Str × Addr)) (fp : List Addr), MTs (X.blk s H scope (compEnvC scope cl C X.env) fp) W0 ifs mt)
    (he : ∀ (s : Shared) (H : Hp) (C : Addr) (cl : List (Str × Addr)) (fp : List Addr), ME (X.blk s H scope (compEnvC scope cl C X.env) fp) W0 elt me)
    (hs : ∀ x, foldedSetIterable iter X.env x = pure x := by intro _; rfl) (s2 : starEach [.SetComp elt [⟨tg, iter, ifs, 0⟩] scope pos] X.env = (false, eval (.SetComp elt [⟨tg, iter, ifs, 0⟩] scope pos) X.env) :: starEach [] X.env := by rfl) :
    ME X W (.Call (.Name "len" p1) [.SetComp elt [⟨tg, iter, ifs, 0⟩] scope pos] [] q1) (e1 (pu gLenS) (eLc (own.map (·.2)) g mi mt me)) :=
  ⟨PE.imp (pe_callB cr_lenG hgl hmg PySem.boot_len (pa_cons (pe_scG (own := own) hc hu hN hi.pi ok (fun s H C cl fp => (hg s H C cl fp).pg) (fun s H C cl fp => (ht s H C cl fp).pts) (fun s H C cl fp => (he s H C cl fp).pe) hs) pa_nil s2) (by decide) (by decide) s2 rfl) fun σ H Q h => by
    refine scG_mono (fun x H1 h => len_end h) (sc_read gLenS_kd (fun i hi => ?_) σ H Q h)
    have := List.all_eq_true.mp hsl i hi
    simpa using this⟩
end
end
end Mx

/-! M34: try with several clauses, with and without names. -/
namespace Mx
open PySem L2
section
variable {X : Cx} {pins : List (Addr × Obj)} {σ : L2.St} {H : Hp} {s : Shared}
/-- an object of the heap that wasn't tracked is tracked -/
theorem inv_track (I : L2.Inv X pins σ H s) {a : Addr} {o : HO} (na : H a = none) (n0 : X.s_0.heap.get? a = none) (nL : a ≠ X.env.locals) (nc : ∀ x c, X.env.cells.lookup x = some c → c ≠ a) (np : ∀ p ∈ X.pn ++ pins, p.1 ≠ a)
    (new : ObjOk X.prog X.w (upd H a o) s.heap a o) : L2.Inv X pins σ (upd H a o) s :=
  ⟨I.ok, I.os, I.bare, ⟨I.base.keep, I.base.slot, fun b u e n hx => by
      rw [upd_ne (fun z => by rw [z, n0] at e; cases e)]
      exact I.base.free b u e n hx, I.base.there, fun b xs e => by
      have q := I.base.tups b xs e
      rw [upd_ne (ne_of_none q na)]
      exact q, fun b u xs e => by
      have q := I.base.frzs b u xs e
      rw [upd_ne (ne_of_none q na)]
      exact q, fun b ps e => by
      obtain ⟨more, q⟩ := I.base.tbls b ps e
      exact ⟨more, by rw [upd_ne (ne_of_none q na)]; exact q⟩⟩, I.loc, I.cell, by rw [upd_ne nL.symm]; exact I.free, fun x c e => by rw [upd_ne (nc x c e)]; exact I.freeC x c e, fun p hp => by
      obtain ⟨q1, q2, q3⟩ := I.pin p hp
      exact ⟨q1, by rw [upd_ne (np p hp)]; exact q2, q3⟩, I.hok.laidN (fun _ _ e => e) na new, I.len⟩
theorem inv_suite (I : L2.Inv X pins σ H s) (a : Addr) : L2.Inv (X.suite a (X.pn ++ pins)) [] σ H s :=
  ⟨I.ok.suite _ _, I.os, I.bare, I.base, I.loc, I.cell, I.free, I.freeC, fun p hp => I.pin p (by rw [List.append_nil] at hp; exact hp), I.hok, I.len⟩
theorem inv_unsuite {a : Addr} {pn' : List (Addr × Obj)} (I : L2.Inv (X.suite a (X.pn ++ pins)) pn' σ H s) (ok : X.Ok) : L2.Inv X pins σ H s :=
  ⟨ok, I.os, I.bare, I.base, I.loc, I.cell, I.free, I.freeC, fun p hp => I.pin p (List.mem_append_left _ hp), I.hok, I.len⟩
end
def endSet (Z : Ends) (i : Nat) : Ends := { nx := fun σ' H' => Z.nx (σ'.set i none) H', rt := Z.rt, bk := fun σ' H' => Z.bk (σ'.set i none) H', ct := fun σ' H' => Z.ct (σ'.set i none) H' }
/-- what the clauses wish -/
def wMix (K : PySem.W.Frag) (Wout : WX) (Z : Ends) : List (Value × Option Nat × TS) → WX
  | [] => Wout
  | (c, none, ts) :: r => fun cls d σ H => ∃ b, PySem.W.exmOne K cls c = some b ∧ (b = true → ∃ C, cls = .ref C ∧ ∀ a, H a = none → ts Z σ (upd H a (exGO a C d))) ∧ (b = false → wMix K Wout Z r cls d σ H)
  | (c, some i, ts) :: r => fun cls d σ H => ∃ b, PySem.W.exmOne K cls c = some b ∧ (b = true → ∃ C, cls = .ref C ∧ ∀ a, H a = none → ts (endSet Z i) (σ.set i (some (.ref a))) (upd H a (exGO a C d))) ∧ (b = false → wMix K Wout Z r cls d σ H)
inductive HdsM (X : Cx) : List ExceptHandler → List (Value × Option Nat × TS) → Prop
  | nil : HdsM X [] []
  | plain {x : Str} {c : Value} {ts : TS} {b₀ : Stmt} {suite : List Stmt} {np pos' : Pos} {hds : List ExceptHandler} {l : List (Value × Option Nat × TS)} (hc : Names X x c) (hsu : ∀ (a : Addr) (pn : List (Addr × Obj)), PSs (X.suite a pn) (b₀ :: suite) ts) (r : HdsM X hds l) :
      HdsM X (.ExceptHandler (some (.Name x np)) none (b₀ :: suite) pos' :: hds) ((c, none, ts) :: l)
  | named {x n : Str} {c : Value} {i : Nat} {ts : TS} {b₀ : Stmt} {suite : List Stmt} {np pos' : Pos} {hds : List ExceptHandler} {l : List (Value × Option Nat × TS)} (hc : Names X x c) (hi : X.N[i]? = some n) (hln : X.env.kindOf n = some .local)
      (hsu : ∀ (a : Addr) (pn : List (Addr × Obj)), PSs (X.suite a pn) (b₀ :: suite) ts) (r : HdsM X hds l) :
      HdsM X (.ExceptHandler (some (.Name x np)) (some n) (b₀ :: suite) pos' :: hds) ((c, some i, ts) :: l)
section
variable {X : Cx} {body : List Stmt} {h₀ : ExceptHandler} {hds : List ExceptHandler} {l : List (Value × Option Nat × TS)} {pos : Pos} {tb : WX → TS} {Wout : WX}
theorem ps_tryM (hs : X.stack = X.env :: X.outer) (hf : X.env.frame = some X.env.locals) (hx : X.ex = []) (hN : X.N.Nodup) (tk : Takes X Wout)
    (hb : ∀ (W : WX) (pn : List (Addr × Obj)) (xe : Value → Shared → Prop), Takes (X.tr pn xe) W → PassesOwn (model X.prog X.w) X.A X.env xe → PSs (X.tr pn xe) body (tb W))
    (hh : HdsM X (h₀ :: hds) l) : PS X (.Try body (h₀ :: hds) [] [] pos) (fun Z σ H => tb (wMix X.K Wout Z l) Z σ H) := by
  refine ⟨fun pins s σ H Z I h => ?_⟩
  have ok := I.ok
  have hfr : X.A.frames = some (X.env :: X.outer) := by rw [ok.frames, hs]
  refine wpAny_Try_except ?_
  refine wpAny_mono ((hb (wMix X.K Wout Z l) (X.pn ++ pins) (fun e s₁ => wpAny (model X.prog X.w) X.A (noteFrame e X.env) (fun _ s₂ => wpAny (model X.prog X.w) X.A (setFlight e none) (fun _ s₃ =>
    wpAny (model X.prog X.w) X.A (handleBy e X.env (h₀ :: hds)) (SP X pins Z) X.xe s₃) X.xe s₂) X.xe s₁) (fun u s' xx => ?_) PassesOwn.looking).run [] s σ H Z (I.toTry _) h) (fun f s1 hsp => ?_) (fun e s1 he => he)
  · obtain ⟨a, B, sI, pins', σ', H', cls, d, rfl, J', nb, up, sky, na, os, ag, w⟩ := xx
    have J : L2.Inv X pins σ' H' sI := J'.ofTry ok
    have sky' : Sky B (X.env :: X.outer) a (Zc cls d) X.env.locals s'.heap := by rw [← hs]; exact sky
    show wpAny (model X.prog X.w) X.A (noteFrame (.ref a) X.env) _ _ _
    refine Sky.land Zc.steady hfr hf sky' fun h3 fl3 up3 => ?_
    have J3 : L2.Inv X pins σ' H' { s' with heap := h3 } := J.landed nb fl3.1 (up.trans up3) os ag
    obtain ⟨oe3, vs3, he3, hz3, hd3⟩ := fl3.there
    have nfr : a ∉ frs (X.env :: X.outer) := fun hm => by
      obtain ⟨_, o', e', hnf⟩ := fl3.2.2.1.mem hm
      rw [he3] at e'; cases e'
      exact hnf _ hd3
    have nL : a ≠ X.env.locals := fun z => nfr (List.mem_filterMap.mpr ⟨X.env, List.mem_cons_self, by rw [hf, z]⟩)
    have nF : a ∉ X.fs := fun hm => by
      obtain ⟨e, he, q⟩ := List.mem_filterMap.mp hm
      exact nfr (List.mem_filterMap.mpr ⟨e, List.mem_cons_of_mem _ he, q⟩)
    have gone : sI.heap.get? a = none := by
      cases q : sI.heap.get? a with
      | none => rfl
      | some o =>
        have z := nb a o q (by rw [hs]; exact nfr)
        rw [fl3.2.1] at z
        cases z
    have n0 : X.s_0.heap.get? a = none := by
      cases q : X.s_0.heap.get? a with
      | none => rfl
      | some o =>
        obtain ⟨o', z⟩ := J.base.there a o q (by rw [hx]; exact fun z => nomatch z)
        rw [gone] at z
        cases z
    have np : ∀ p ∈ X.pn ++ pins, p.1 ≠ a := fun p hp z => by
      have q := (J.pin p hp).1
      rw [z, gone] at q
      cases q
    have S3 := J3.suite he3 hd3 na nL nF
    have tracked : ∀ {h4 : Heap} {oe4 : Obj} {vs4 : Array Value} {C : Addr}, L2.Inv X pins σ' H' { s' with heap := h4 } → h4.get? a = some oe4 → Zc cls d oe4 → oe4.data = .fields vs4 → cls = .ref C → L2.Inv X pins σ' (upd H' a (exGO a C d)) { s' with heap := h4 } := fun {h4 oe4 vs4 C} J4 he4 hz4 hd4 hC =>
      inv_track J4 na n0 nL (fun x c e z => by
        obtain ⟨v, oc, e1, e2⟩ := J4.cell x c e
        rw [z] at e1
        have e1' : h4.get? a = some oc := e1
        rw [he4] at e1'
        cases e1'
        rw [hd4] at e2
        exact nomatch e2) np ⟨⟨oe4, he4, hz4.1.trans hC, hz4.2, vs4, hd4⟩, ⟨oe4, he4⟩, fun _ _ ⟨o, q, r⟩ k => ⟨o, k _ q, r⟩⟩
    have go : ∀ {hds' : List ExceptHandler} {l' : List (Value × Option Nat × TS)}, HdsM X hds' l' → wMix X.K Wout Z l' cls d σ' H' →
        wpAny (model X.prog X.w) X.A (handleBy (.ref a) X.env hds') (SP X pins Z) X.xe { s' with heap := h3 } := by
      intro hds' l' hk
      have LT : PySem.W.Looks (model X.prog X.w) h3 (typeOf (.ref a)) cls := fun A Q E s k q => wpAny_typeOf_ref (k _ _ he3) (by rw [hz3.1]; exact q)
      have test : ∀ {x : Str} {c : Value} {np : Pos} {Q : Value → Shared → Prop} {E : Value → Shared → Prop}, Names X x c → Q c { s' with heap := h3 } → wpAny (model X.prog X.w) (X.A.mark (some (.ref a))) (eval (.Name x np) X.env) Q E { s' with heap := h3 } := fun {x c np Q E} hc q => by
        obtain ⟨hg, hdbg, hm | ⟨hm, hv, hnn⟩⟩ := hc
        · exact ld_glob (X := X.suite a ((a, oe3) :: (X.pn ++ pins))) S3 hg hm q hdbg
        · exact ld_blt (X := X.suite a ((a, oe3) :: (X.pn ++ pins))) S3 hg hm hv q hnn hdbg
      induction hk with
      | nil =>
        intro w
        refine wpAny_handleBy_nil ?_
        obtain ⟨k1, k2, k3, oe, vs, T, oT, ts', he, hz, hd, h1, hr⟩ := id fl3
        unfold PySem.passOn
        refine wpAny_bind (wpAny_field he hd h1 ?_)
        rw [if_neg (show ¬ ((Value.ref T == Value.none) = true) from by simp)]
        have fin : wpAny (model X.prog X.w) X.A (setFlight (.ref a) X.env.frame) (fun _ s4 => wpAny (model X.prog X.w) X.A (throw (.ref a) : Sem Flow) (SP X pins Z) X.xe s4) X.xe { s' with heap := h3 } := by
          rw [hf]
          refine HandSPX.setFlight_upZ fl3 fun h4 hh4 up4 => wpAny_throw (tk _ _ ?_)
          exact ⟨a, B, sI, pins, σ', H', cls, d, rfl, J, nb, (up.trans up3).trans up4, .inr (.inr (by rw [hs]; exact hh4)), na, os, ag, w⟩
        first
          | exact wpAny_bind (wpAny_pure (wpAny_bind fin))
          | exact wpAny_bind fin
      | @plain x c ts b₀ suite np pos' hds2 l2 hc hsu r ih =>
        intro w
        obtain ⟨b, hb1, hyes, hno⟩ := w
        refine wpAny_handleBy_cons (codeAny_handlers_test ?_) (by intro q; cases q)
        refine test hc ((PySem.W.exm_one (M := model X.prog X.w) (J3.kIn) LT hb1).here ?_)
        cases b with
        | true =>
          obtain ⟨C, hC, hw⟩ := hyes rfl
          refine codeAny_handlers_suite ?_
          refine HandSPX.lands_againZ fl3 fun h4 fl4 up4 => ?_
          have J4 : L2.Inv X pins σ' H' { s' with heap := h4 } := J.landed nb fl4.1 ((up.trans up3).trans up4) os ag
          obtain ⟨oe4, vs4, he4, hz4, hd4⟩ := fl4.there
          refine wpAny_mono ((hsu a (X.pn ++ pins)).run [] _ _ _ _ (inv_suite (tracked J4 he4 hz4 hd4 hC) a) (hw a na)) (fun f s6 hsp => ?_) (fun _ _ z => False.elim z)
          cases f with
          | next =>
            obtain ⟨σ6, H6, S6, q6⟩ := hsp
            exact ⟨_, _, inv_unsuite S6 ok, q6⟩
          | brk =>
            obtain ⟨σ6, H6, S6, q6⟩ := hsp
            exact ⟨_, _, inv_unsuite S6 ok, q6⟩
          | cont =>
            obtain ⟨σ6, H6, S6, q6⟩ := hsp
            exact ⟨_, _, inv_unsuite S6 ok, q6⟩
          | ret u =>
            obtain ⟨v6, σ6, H6, S6, r6, q6⟩ := hsp
            exact ⟨_, _, _, inv_unsuite S6 ok, r6, q6⟩
        | false =>
          show wpAny _ X.A (handleBy (.ref a) X.env hds2) _ _ _
          exact ih (hno rfl)
      | @named x n c i ts b₀ suite np pos' hds2 l2 hc hi hln hsu r ih =>
        intro w
        obtain ⟨b, hb1, hyes, hno⟩ := w
        refine wpAny_handleBy_cons (codeAny_handlers_test ?_) (by intro q; cases q)
        refine test hc ((PySem.W.exm_one (M := model X.prog X.w) (J3.kIn) LT hb1).here ?_)
        cases b with
        | true =>
          obtain ⟨C, hC, hw⟩ := hyes rfl
          refine codeAny_handlers_suite_as ?_
          refine HandSPX.lands_againZ fl3 fun h4 fl4 up4 => ?_
          have J4 : L2.Inv X pins σ' H' { s' with heap := h4 } := J.landed nb fl4.1 ((up.trans up3).trans up4) os ag
          obtain ⟨oe4, vs4, he4, hz4, hd4⟩ := fl4.there
          have S4 := inv_suite (tracked J4 he4 hz4 hd4 hC) a
          refine store_ok (X := X.suite a (X.pn ++ pins)) (v := .ref a) S4 hN hi (.inl hln) rfl (fun s5 S5 => ?_) (.inr hln)
          refine wpAny_mono ((hsu a (X.pn ++ pins)).run [] _ _ _ _ S5 (hw a na)) (fun f s6 hsp => ?_) (fun _ _ z => False.elim z)
          have end_ : ∀ {σ6 : L2.St} {H6 : Hp} {Q : Shared → Prop}, L2.Inv (X.suite a (X.pn ++ pins)) [] σ6 H6 s6 → (∀ s7, L2.Inv X pins (σ6.set i none) H6 s7 → Q s7) →
              wpAny (model X.prog X.w) X.A (do bindName X.env n .none; unbindBehindTheSuite X.env n pos') (fun _ s7 => Q s7) X.xe s6 := fun {σ6 H6 Q} S6 hq => gone_ok (inv_unsuite S6 ok) hN hi hln hq
          cases f with
          | next =>
            obtain ⟨σ6, H6, S6, q6⟩ := hsp
            exact end_ S6 fun s7 J7 => ⟨_, _, J7, q6⟩
          | brk =>
            obtain ⟨σ6, H6, S6, q6⟩ := hsp
            exact end_ S6 fun s7 J7 => ⟨_, _, J7, q6⟩
          | cont =>
            obtain ⟨σ6, H6, S6, q6⟩ := hsp
            exact end_ S6 fun s7 J7 => ⟨_, _, J7, q6⟩
          | ret u =>
            obtain ⟨v6, σ6, H6, S6, r6, q6⟩ := hsp
            exact end_ S6 fun s7 J7 => ⟨_, _, _, J7, r6, q6⟩
        | false =>
          show wpAny _ X.A (handleBy (.ref a) X.env hds2) _ _ _
          exact ih (hno rfl)
    exact go hh w
  · cases f with
    | next =>
      obtain ⟨σ', H', J', q⟩ := hsp
      exact wpAny_execs_nil ⟨σ', H', J'.ofTry ok, q⟩
    | brk =>
      obtain ⟨σ', H', J', q⟩ := hsp
      exact ⟨σ', H', J'.ofTry ok, q⟩
    | cont =>
      obtain ⟨σ', H', J', q⟩ := hsp
      exact ⟨σ', H', J'.ofTry ok, q⟩
    | ret u =>
      obtain ⟨v, σ', H', J', r, q⟩ := hsp
      exact ⟨v, σ', H', J'.ofTry ok, r, q⟩
end
/-! ### by mirrors -/
structure Hd where
  hit : Addr → Option Bool
  slot : Option Nat
  m : S1
def exD (e : Ex) : Option D := match e.cls, e.fld with
  | .ref C, some (f, d) => some (.exo C (some f) d)
  | .ref C, none => some (.exo C (some "") .non)
  | _, _ => none
def RS.un (i : Nat) : RS → RS
  | .nx l m => .nx (l.set i none) m
  | .bk l m => .bk (l.set i none) m
  | .ct l m => .ct (l.set i none) m
  | .rt d m => .rt d m
  | _ => .bad
def RS.noex : RS → RS
  | .ex _ _ _ => .bad
  | r => r
def runH : List Hd → Ex → Mx.Env → Mem → RS
  | [], e, l, m => .ex e l m
  | h :: hs, e, l, m => match e.cls with
    | .ref C => match h.hit C with
      | some true => match h.slot with
        | none => (h.m l m).noex
        | some i => (h.m (l.set i (exD e)) m).un i
      | some false => runH hs e l m
      | none => .bad
    | _ => .bad
def sTry (body : S1) (hs : List Hd) : S1 := fun loc mem => match body loc mem with
  | .ex e l m => runH hs e l m
  | r => r
inductive MHd (X : Cx) : List ExceptHandler → List Hd → Prop
  | nil : MHd X [] []
  | plain {x : Str} {c : Value} {hit : Addr → Option Bool} {m : S1} {b₀ : Stmt} {suite : List Stmt} {np pos' : Pos} {hds : List ExceptHandler} {hs : List Hd} (hc : Names X x c) (ht : ∀ C b, hit C = some b → PySem.W.exmOne X.K (.ref C) c = some b)
      (hsu : ∀ (a : Addr) (pn : List (Addr × Obj)), MSs (X.suite a pn) W0 (b₀ :: suite) m) (r : MHd X hds hs) : MHd X (.ExceptHandler (some (.Name x np)) none (b₀ :: suite) pos' :: hds) (⟨hit, none, m⟩ :: hs)
  | named {x n : Str} {c : Value} {i : Nat} {hit : Addr → Option Bool} {m : S1} {b₀ : Stmt} {suite : List Stmt} {np pos' : Pos} {hds : List ExceptHandler} {hs : List Hd} (hc : Names X x c) (ht : ∀ C b, hit C = some b → PySem.W.exmOne X.K (.ref C) c = some b) (hi : X.N[i]? = some n) (hln : X.env.kindOf n = some .local)
      (hsu : ∀ (a : Addr) (pn : List (Addr × Obj)), MSs (X.suite a pn) W0 (b₀ :: suite) m) (r : MHd X hds hs) : MHd X (.ExceptHandler (some (.Name x np)) (some n) (b₀ :: suite) pos' :: hds) (⟨hit, some i, m⟩ :: hs)
theorem post_noex {K : PySem.W.Frag} {α : Ad} {H : Hp} {r : RS} {Z : Ends} {W : WX} (h : PostS K α H r.noex Z W) : PostS K α H r Z W0 := by
  cases r with
  | ex _ _ _ => exact h.elim
  | nx _ _ => exact h
  | rt _ _ => exact h
  | bk _ _ => exact h
  | ct _ _ => exact h
  | bad => exact h
theorem post_un {K : PySem.W.Frag} {α : Ad} {H : Hp} {r : RS} {Z : Ends} {W : WX} {i : Nat} (h : PostS K α H (r.un i) Z W) : PostS K α H r (endSet Z i) W0 := by
  cases r with
  | ex _ _ _ => exact h.elim
  | nx _ _ => exact fun α' H' σ' l hm hl => h α' H' _ l hm (hl.unset i)
  | bk _ _ => exact fun α' H' σ' l hm hl => h α' H' _ l hm (hl.unset i)
  | ct _ _ => exact fun α' H' σ' l hm hl => h α' H' _ l hm (hl.unset i)
  | rt _ _ => exact h
  | bad => exact h
theorem mhd_ok {X : Cx} {hds : List ExceptHandler} {hs : List Hd} (h : MHd X hds hs) : ∃ l, HdsM X hds l ∧ ∀ (W : WX) (Z : Ends) (α : Ad) (H : Hp) (e : Ex) (lx : Mx.Env) (m : Mem), PostS X.K α H (runH hs e lx m) Z W → ∀ (α' : Ad) (H' : Hp) (σ' : L2.St) (c : Value) (dd : Option Addr), Lt α H α' H' → MemRep X.K α' H' m → LocRep X.K α' H' lx σ' → RepX X.K α' H' e c dd → wMix X.K W Z l c dd σ' H' := by
  induction h with
  | nil => exact ⟨[], .nil, fun W Z α H e lx m hp α' H' σ' c dd l hm hl hx => hp α' H' σ' c dd l hm hl hx⟩
  | @plain x c hit mm b₀ suite np pos' hds hs hc ht hsu r ih =>
    obtain ⟨l, k1, k2⟩ := ih
    refine ⟨(c, none, tS X.K mm W0) :: l, .plain hc (fun a pn => (hsu a pn).pss) k1, fun W Z α H e lx m hp α' H' σ' cls dd lt hm hl hx => ?_⟩
    have hcls : e.cls = cls := hx.1
    rw [runH] at hp
    cases ec : e.cls with
    | ref C =>
      rw [ec] at hp
      dsimp only at hp
      rw [ec] at hcls
      subst hcls
      cases eh : hit C with
      | none => rw [eh] at hp; exact hp.elim
      | some b =>
        rw [eh] at hp
        refine ⟨b, ht C b eh, fun hb => ⟨C, rfl, fun a na => ?_⟩, fun hb => ?_⟩
        · subst hb
          dsimp only at hp
          have sm := same_new (o := exGO a C dd) na
          exact ⟨α', lx, m, hm.same sm, hl.mono (Lt.same sm).toLk, post_noex (PostS.later (lt.trans (Lt.same sm)) hp)⟩
        · subst hb
          exact k2 W Z α H e lx m hp α' H' σ' _ dd lt hm hl hx
    | _ => rw [ec] at hp; exact hp.elim
  | @named x n c i hit mm b₀ suite np pos' hds hs hc ht hi hln hsu r ih =>
    obtain ⟨l, k1, k2⟩ := ih
    refine ⟨(c, some i, tS X.K mm W0) :: l, .named hc hi hln (fun a pn => (hsu a pn).pss) k1, fun W Z α H e lx m hp α' H' σ' cls dd lt hm hl hx => ?_⟩
    obtain ⟨hcls, hfld⟩ := id hx
    rw [runH] at hp
    cases ec : e.cls with
    | ref C =>
      rw [ec] at hp
      dsimp only at hp
      rw [ec] at hcls
      subst hcls
      cases eh : hit C with
      | none => rw [eh] at hp; exact hp.elim
      | some b =>
        rw [eh] at hp
        refine ⟨b, ht C b eh, fun hb => ⟨C, rfl, fun a na => ?_⟩, fun hb => ?_⟩
        · subst hb
          dsimp only at hp
          have sm := same_new (o := exGO a C dd) na
          have lk := (Lt.same (α := α') sm).toLk
          refine ⟨α', lx.set i (exD e), m, hm.same sm, ?_, post_un (PostS.later (lt.trans (Lt.same sm)) hp)⟩
          unfold exD
          rw [ec]
          cases ef : e.fld with
          | none =>
            rw [ef] at hfld
            dsimp only at hfld ⊢
            subst hfld
            exact (hl.mono lk).set (.exn (hm.fresh na) upd_same) i
          | some p =>
            obtain ⟨f, d⟩ := p
            rw [ef] at hfld
            obtain ⟨dx, v, rfl, o1, o2, o3⟩ := hfld
            exact (hl.mono lk).set (.exf (hm.fresh na) o1 upd_same (sm _ _ o2) (o3.mono lk)) i
        · subst hb
          exact k2 W Z α H e lx m hp α' H' σ' _ dd lt hm hl hx
    | _ => rw [ec] at hp; exact hp.elim
theorem ms_try {X : Cx} {W : WX} {body : List Stmt} {h₀ : ExceptHandler} {hds : List ExceptHandler} {hs : List Hd} {mb : S1} {pos : Pos} (hst : X.stack = X.env :: X.outer) (hf : X.env.frame = some X.env.locals) (hx : X.ex = []) (hN : X.N.Nodup) (tk : Tk X W)
    (hb : ∀ (W : WX) (pn : List (Addr × Obj)) (xe : Value → Shared → Prop), Tk (X.tr pn xe) W → PassesOwn (model X.prog X.w) X.A X.env xe → MSs (X.tr pn xe) W body mb) (hh : MHd X (h₀ :: hds) hs) : MS X W (.Try body (h₀ :: hds) [] [] pos) (sTry mb hs) := by
  obtain ⟨l, k1, k2⟩ := mhd_ok hh
  refine ⟨PS.imp (ps_tryM (tb := fun W => tS X.K mb W) hst hf hx hN tk.tk (fun W pn xe t p => (hb W pn xe ⟨t⟩ p).pss) k1) fun Z σ H ⟨α, loc, mem, hm, hl, hp⟩ => ⟨α, loc, mem, hm, hl, ?_⟩⟩
  unfold sTry at hp
  cases e : mb loc mem with
  | ex ex lx m =>
    rw [e] at hp
    exact fun α' H' σ' c dd lt hm' hl' hx' => k2 W Z α H ex lx m hp α' H' σ' c dd lt hm' hl' hx'
  | nx _ _ => rw [e] at hp; exact hp
  | rt _ _ => rw [e] at hp; exact hp
  | bk _ _ => rw [e] at hp; exact hp
  | ct _ _ => rw [e] at hp; exact hp
  | bad => rw [e] at hp; exact hp.elim
end Mx

/-! M35: f(lambda: e), f a def whose first deed is to call what it got. -/
namespace Mx
open PySem L2
section
variable {X : Cx} {pins : List (Addr × Obj)} {σ : L2.St} {H : Hp} {s : Shared}
/-- the lambda is made: but the table and a new code object all stays -/
theorem lam_mk {c P : Addr} {q : Str} {params : Arguments} {body : Expr} {scope : Scope} {pos : Pos} {ps0 : Array Value} {E : Value → Shared → Prop} {Q : Value → Shared → Prop} (I : L2.Inv X pins σ H s) (TB : LamX.TabB X.base X.mg c P) (hcode : X.env.code = .ref c) (hq : q = X.env.qual ++ "<lambda>")
    (hP : H P = some (.tbl ps0)) (ht : TriplesOk ps0.toList) (ha : ∀ (pos : Pos) (cv : Value), codeAmong pos ps0.toList = some cv → ∃ c, cv = .ref c ∧ H c = some (LamX.CodeO c q)) (hdef : defaultsOf params X.env = ([], []))
    (free : ∀ y ∈ scope.names, y.2 = .free → ∃ c, X.env.cells.lookup y.1 = some c)
    (h : ∀ (f c' : Addr) (pm ctv : Value) (H1 : Hp) (s' : Shared), L2.Inv X pins σ H1 s' → (∀ b o, b ≠ P → H b = some o → H1 b = some o) → (∃ ps, H1 P = some (.tbl ps) ∧ TriplesOk ps.toList ∧ ∀ (pos : Pos) (cv : Value), codeAmong pos ps.toList = some cv → ∃ c, cv = .ref c ∧ H1 c = some (LamX.CodeO c q) ∧ (H c = none ∨ ∃ pos', codeAmong pos' ps0.toList = some (.ref c))) →
      s'.heap.get? f = some (PySem.W.kla_obj "<lambda>" q params body scope (L2.cloFrom X.env.cells scope.names []) pm c' ctv) → H1 f = none → f ∉ frs X.stack → H1 c' = some (LamX.CodeO c' q) → Q (.ref f) s') :
    wpAny (model X.prog X.w) X.A (eval (.Lambda params body scope pos) X.env) Q E s := by
  subst hq
  refine PySem.W.kla_eval hdef ?_
  have bP : s.heap.BuiltinsAt X.mg P := TB.bm.keeps I.bk
  have atP : s.heap.get? P = some { cls := .none, data := .fields ps0 } := I.hok P _ hP
  have nofr : ∀ f, s.heap.objs.size ≤ f → f ∉ frs X.stack := fun f hf z => by
    rcases List.mem_cons.mp (I.stkSub _ z) with e | e
    · have h1 := I.lt
      rw [← e] at h1
      exact Nat.lt_irrefl _ (Nat.lt_of_lt_of_le h1 hf)
    · exact I.nofs hf e
  cases hc : codeAmong pos ps0.toList with
  | none =>
    refine PySem.W.kla_makeFunction (mg := X.mg) (c := c) (P := P) (ps := ps0) (closure_ok free) I.ok.glob (I.mod.glob.keeps I.bk) hcode (TB.code.keeps I.bk) atP ht hc TB.gP bP fun c' ctv h' tk hx hge hlt hrec htb => ?_
    obtain ⟨c2, oc, vs, t, e2, hoc, hd, hv⟩ := hrec
    cases e2
    have hsz : s.heap.objs.size ≤ h'.objs.size := Nat.le_trans hge (Nat.le_of_lt hlt)
    have nC : H c' = none := I.hok.fresh hge
    have I1 := LamX.inv_table (t' := tk) (more := #[rawInt pos.line, rawInt pos.col, .ref c']) (h' := h'.push (PySem.W.kla_obj "<lambda>" (X.env.qual ++ "<lambda>") params body scope (L2.cloFrom X.env.cells scope.names []) ((X.mg "__name__").getD .none) c' ctv)) I hP
      (fun b o hb e => Heap.get?_push_of_some _ (hx b o hb e)) (Heap.get?_push_of_some _ htb) hge ⟨oc, vs, t, Heap.get?_push_of_some _ hoc, hd, hv⟩
    have eL : (ps0 ++ #[rawInt pos.line, rawInt pos.col, .ref c']).toList = ps0.toList ++ [rawInt pos.line, rawInt pos.col, .ref c'] := by simp
    have keep : ∀ b o, b ≠ P → H b = some o → upd (upd H P (.tbl (ps0 ++ #[rawInt pos.line, rawInt pos.col, .ref c']))) c' (LamX.CodeO c' (X.env.qual ++ "<lambda>")) b = some o := fun b o hb e => by
      rw [upd_ne (ne_of_none e nC), upd_ne hb]
      exact e
    refine h h'.objs.size c' ((X.mg "__name__").getD .none) ctv _ _ I1 keep ⟨_, by rw [upd_ne (ne_of_none hP nC), upd_same], by rw [eL]; exact PySem.TriplesOk_snoc _ _ _ _ ht, fun p' cv hcv => ?_⟩ (Heap.get?_push_size _ rfl) ?_ (nofr _ hsz) upd_same
    · rw [eL] at hcv
      rcases LamX.among_app _ ht hcv with z | z
      · obtain ⟨c0, e1, e2⟩ := ha p' cv z
        have ne : c0 ≠ P := fun w => by
          rw [w, hP] at e2
          exact absurd (Option.some.inj e2).symm (LamX.codeO_ne _)
        subst e1
        exact ⟨c0, rfl, keep _ _ ne e2, .inr ⟨p', z⟩⟩
      · exact ⟨c', z, upd_same, .inl nC⟩
    · have n1 : h'.objs.size ≠ c' := Nat.ne_of_gt hlt
      have n2 : h'.objs.size ≠ P := Nat.ne_of_gt (Nat.lt_of_lt_of_le (Heap.lt_size atP) hsz)
      rw [upd_ne n1, upd_ne n2]
      exact I.hok.fresh hsz
  | some cv =>
    obtain ⟨c', e, hco⟩ := ha pos cv hc
    subst e
    refine PySem.W.kla_makeFunctionHit (mg := X.mg) (c := c) (P := P) (ps := ps0) (closure_ok free) I.ok.glob (I.mod.glob.keeps I.bk) hcode (TB.code.keeps I.bk) atP ht hc bP fun ctv h' tk hx hsz => ?_
    have I1 : L2.Inv X pins σ H { s with heap := h'.push (PySem.W.kla_obj "<lambda>" (X.env.qual ++ "<lambda>") params body scope (L2.cloFrom X.env.cells scope.names []) ((X.mg "__name__").getD .none) c' ctv), toks := tk } := I.kept fun b o e => Heap.get?_push_of_some _ (hx b o e)
    exact h h'.objs.size c' ((X.mg "__name__").getD .none) ctv H _ I1 (fun _ _ _ e => e) ⟨ps0, hP, ht, fun p' cv hcv => let ⟨c0, e1, e2⟩ := ha p' cv hcv; ⟨c0, e1, e2, .inr ⟨p', by rw [← e1]; exact hcv⟩⟩⟩ (Heap.get?_push_size _ rfl) (I.hok.fresh hsz) (nofr _ hsz) hco
end
end Mx

/-! M36: f(lambda: e) by mirrors. -/
namespace Mx
open PySem L2 PyProof.Rows
section
variable {P : Program} {w : World} {K : PySem.W.Frag} {mg : Str → Option Value} {base : Heap}
/-- a def called in a very state -/
theorem run_at {x qual : Str} {st : Stmt} {f : Addr} {fd : FuncData} {N ps : List Str} {k : Nat} (G : Fun K x qual st f fd) (S : FnScope N ps (defScope st)) {A : Around} {outer : List PySem.Env} {s : Shared} {H : Hp} {args : Args} {us : List Value} {vs : List V} {Q : VK} {E : XK}
    (rm : Rm (k + 1) A) (env : Env0 P w K mg base A outer s H) (bound : BindsTo s fd args (ps.zip us)) (rv : Vals vs us) (hlen : vs.length = ps.length)
    (body : ∀ cdv : Value, Rm k (A.deeper (PyProof.Rows.envOfC qual (defScope st) s.heap.objs.size f cdv)) → ∃ t, PSs (cxF P w K mg base N qual st f cdv A outer s H E) (defBody st) t ∧ t { nx := fun _ H' => Q .non H', rt := Q } (L2.start N vs) H) :
    codeAny (model P w) A (.call (.ref f) args) (CR (L2.CX P w) outer P w H s Q E) s := by
  obtain ⟨oc, od, kV, doc, pm, an, cdv, ct, osl, rfl, look, code⟩ := G.ex
  have inK : K.In s.heap := env.mod.kin.keeps fun b o e => (env.bs b o e).1
  have nol : s.heap.NoLimit := env.mod.nolimit.keeps fun b o e => (env.bs b o e).1
  have kinds : ∀ y ∈ ps.zip us, (defScope st).names.lookup y.1 = some .local ∨ ((defScope st).names.lookup y.1 = some .cell ∧ ((cellsFrom (s.heap.objs.size + 1) (defScope st).names []).lookup y.1).isSome = true) := by
    rintro ⟨n, v⟩ hy
    exact (S.par n (List.of_mem_zip hy).1).imp id fun c => ⟨c, PySem.W.cellsFrom_some _ _ _ (.inl c)⟩
  refine codeAny_call_function rm.toRoom.depth (inK _ _ look) rfl S.co S.gen rfl (PySem.W.codeRec_of inK code) (bound _ _ _ _ ?_)
  refine wpAny_newFunctionEnv_cells S.kind kinds ?_
  rintro _ rfl s1 new
  refine ⟨nol.keeps new.toInCall.keep, codeAny_func ?_⟩
  obtain ⟨t, hps, ht⟩ := body cdv (rm.deeper _)
  have I0 : L2.Inv (cxF P w K mg base N qual st f cdv A outer s H E) [] (L2.start N vs) H s1 := inv_start S rm.hd env hlen rv new
  refine wpAny_mono (hps.run [] s1 _ H _ I0 ht) ?_ fun _ _ z => z
  intro fl s' z
  match fl, z with
  | .ret u, ⟨v, _, H', J, r, q'⟩ => exact ⟨v, H', J.os, J.bare, J.base, J.hok, r, q'⟩
  | .next, ⟨_, H', J, q'⟩ => exact ⟨.non, H', J.os, J.bare, J.base, J.hok, rfl, q'⟩
  | .brk, ⟨_, _, _, q'⟩ => exact q'.elim
  | .cont, ⟨_, _, _, q'⟩ => exact q'.elim
end
section
variable {X : Cx} {pins : List (Addr × Obj)} {σ : L2.St} {H : Hp} {s : Shared}
/-- a(), in the def that got the lambda -/
theorem pe_lamact {Ng : List Str} {x : Str} {stg : Stmt} {g f c' : Addr} {cdg pm ctv : Value} {params : Arguments} {body : Expr} {scope : Scope} {k i : Nat} {a : Str} {pn : List (Addr × Obj)} {xe : Value → Shared → Prop} {W : WX} {Eg : XK} {mE : E1} {p1 p2 : Pos}
    (I : L2.Inv X pins σ H s) (L : LamX.LamS X.env.scope scope) (hf : s.heap.get? f = some (PySem.W.kla_obj "<lambda>" (X.env.qual ++ "<lambda>") params body scope (L2.cloFrom X.env.cells scope.names []) pm c' ctv)) (hfn : H f = none) (hfr : f ∉ frs X.stack)
    (hbind : bindArgs (PySem.W.kla_fn "<lambda>" (X.env.qual ++ "<lambda>") params body scope (L2.cloFrom X.env.cells scope.names []) pm (.ref c') ctv) ⟨[], []⟩ = pure [])
    (tk : Takes ((cxF X.prog X.w X.K X.mg X.base Ng x stg g cdg X.A X.stack s H Eg).tr pn xe) W) (hr : Rm (k + 1) (X.A.deeper (PyProof.Rows.envOfC x (defScope stg) s.heap.objs.size g cdg)))
    (hbody : ∀ (A : Around) (outer : List PySem.Env) (s : Shared) (H : Hp) (E : XK), Rm k (A.deeper (LamX.lamEnv X scope s.heap.objs.size f c')) → ME (LamX.lamCx X A outer s H E scope f c') (fun cls d _ H' => E cls d H') body mE)
    (hN : Ng[i]? = some a) (hv : Vis (defScope stg) a) (hd : (a == ("__debug__" : Str)) = false := by decide) (hcd : (a == ("__classdict__" : Str)) = false := by decide) :
    PE ((cxF X.prog X.w X.K X.mg X.base Ng x stg g cdg X.A X.stack s H Eg).tr pn xe) (.Call (.Name a p1) [] [] p2)
      (fun σZ HZ Q => σZ[i]? = some (some (.ref f)) ∧ HZ c' = some (LamX.CodeO c' (X.env.qual ++ "<lambda>")) ∧ tE X.K mE (fun cls d _ H' => W cls d σZ H') σ HZ Q) := by
  refine ⟨fun pinsZ sZ σZ HZ Q IZ h => ?_⟩
  obtain ⟨hs, hc, ht⟩ := h
  refine wpAny_Call_Name_kw (thn ((pe_var (pos := p1) (i := i) hN hv hd hcd).run pinsZ sZ σZ HZ (fun v H1 => v = .ref f ∧ H1 = HZ) IZ ⟨.ref f, hs, rfl, rfl⟩) fun u s1 ⟨v, H1, I1, r1, q1⟩ => ?_)
  obtain ⟨ev, eH⟩ := q1
  subst ev
  rw [eH] at I1
  obtain rfl : u = Value.ref f := r1
  have of1 : s1.heap.get? f = some (PySem.W.kla_obj "<lambda>" (X.env.qual ++ "<lambda>") params body scope (L2.cloFrom X.env.cells scope.names []) pm c' ctv) := I1.base.keep f _ hf hfn hfr (fun z => nomatch (show f ∈ ([] : List Addr) from z))
  refine PySem.W.callWith_F0 ⟨_, _, _, _, of1⟩ ?_
  have un : Un (frs X.stack) [] H HZ s.heap s1.heap := I1.base
  obtain ⟨⟨oc, vs, t, hoc, hdc, hvc⟩, _, _⟩ := I1.hok c' _ hc
  have rc : codeAny (model X.prog X.w) (X.A.deeper (PyProof.Rows.envOfC x (defScope stg) s.heap.objs.size g cdg)) (.call (.ref f) ⟨[], []⟩) (CR (L2.CX X.prog X.w) (PyProof.Rows.envOfC x (defScope stg) s.heap.objs.size g cdg :: X.stack) X.prog X.w HZ s1 Q (fun cls d H' => W cls d σZ H')) s1 := by
    refine PySem.W.kla_callFunE hr.toRoom.depth of1 rfl L.co L.gen rfl ⟨c', oc, vs, t, rfl, hoc, hdc, hvc⟩ ?_
    rw [hbind]
    refine wpAny_pure (wpAny_newFunctionEnv (fun y hy => (L.own y hy).2) (fun y hy => absurd hy (by simp)) (fun h₁ hns hsb => ⟨I1.nolimit.fresh _ hsb, ?_⟩) L.kind)
    show codeAny _ _ (.expr body (LamX.lamEnv X scope s1.heap.objs.size f c')) _ _
    have kp : ∀ b o, s1.heap.get? b = some o → h₁.get? b = some o := fun b o e => hsb.extBut b o (Nat.ne_of_lt (Heap.lt_size e)) (Heap.get?_push_of_some _ e)
    have J := LamX.lam_start2 (E := fun cls d H' => W cls d σZ H') (f := f) (c' := c') (tk := s1.toks + ([] : List (Str × Value)).length) I L I1.env0 hr.hd un hns kp
    refine PySem.W.kla_codeExpr (wpAny_mono ((hbody _ _ s1 HZ _ (hr.deeper _)).pe.run [] _ _ HZ Q J ht) (fun v s' hq => ?_) fun e s' hq => hq)
    obtain ⟨w', H', J', rv, q⟩ := hq
    exact ⟨w', H', J'.os, J'.bare, J'.base, J'.hok, rv, q⟩
  refine wpAny_call (codeAny_mono rc fun r s' done => ?_)
  match r, done with
  | .error e, done => exact tk e s' (XE.of_call I1 (fun _ _ _ h => h) done)
  | .ok (.ret _), done => exact I1.after done
  | .ok .next, done => exact done.elim
  | .ok .brk, done => exact done.elim
  | .ok .cont, done => exact done.elim
end
/-! ### the shapes of the statement that calls -/
/-- b calls a() and makes of its value what k says -/
structure Shape (b : Stmt) (a : Str) (k : Mx.D → Mx.Env → Mem → RS) (tq : Ends → L2.St → VK) : Prop where
  go : ∀ (Z : Cx) (tA : TE), (∀ p1 p2, PE Z (.Call (.Name a p1) [] [] p2) tA) → PS Z b (fun D σ H => tA σ H (tq D σ))
  ok : ∀ (K : PySem.W.Frag) (D : Ends) (σ : L2.St) (α : Ad) (H : Hp) (d : Mx.D) (v : V) (loc : Mx.Env) (m : Mem), MemRep K α H m → Rep K α H d v → LocRep K α H loc σ → PostS K α H (k d loc m) D W0 → tq D σ v H
def kRet (d : Mx.D) (_ : Mx.Env) (m : Mem) : RS := .rt d m
def kLst (w : Str) (d : Mx.D) (_ : Mx.Env) (m : Mem) : RS := .rt (.lst [.str w, d]) m
def kDrop (_ : Mx.D) (l : Mx.Env) (m : Mem) : RS := .nx l m
theorem shape_ret {a : Str} {p1 p2 p3 : Pos} : Shape (.Return (some (.Call (.Name a p1) [] [] p2)) p3) a kRet (fun D _ => D.rt) :=
  ⟨fun Z tA h => ps_ret (h p1 p2), fun K D σ α H d v loc m hm hr _ hp => hp α H v (Lt.refl _ _) hm hr⟩
theorem shape_drop {a : Str} {p1 p2 p3 : Pos} (hs : ∀ env, swapsWith (.Call (.Name a p1) [] [] p2) none p3.line env = pure false := by intro _; rfl) : Shape (.Expr (.Call (.Name a p1) [] [] p2) p3) a kDrop (fun D σ _ H => D.nx σ H) :=
  ⟨fun Z tA h => ps_expr (h p1 p2) (hs _), fun K D σ α H d v loc m hm hr hl hp => hp α H σ (Lt.refl _ _) hm hl⟩
theorem shape_lst {a w : Str} {j : Nat} {p1 p2 p3 p4 p5 : Pos} : Shape (.Return (some (.List [.Constant (.str w) j p4, .Call (.Name a p1) [] [] p2] p5)) p3) a (kLst w) (fun D _ v H => [V.str w, v].length ≤ sizeLine ∧ ∀ p, H p = none → D.rt (.ref p) (upd H p (.lst [.str w, v]))) :=
  ⟨fun Z tA h => ps_ret (pe_lst (pa_cons pe_str (pa_cons (h p1 p2) pa_nil (by rfl)) (by rfl))), fun K D σ α H d v loc m hm hr _ hp => ⟨small_of (by show 2 ≤ 1000000; decide), fun p np => by
    have sm := same_new (o := .lst [.str w, v]) np
    exact hp α _ _ (Lt.same sm) (hm.same sm) (.lst (hm.fresh np) upd_same (.cons (.str w) (.cons (hr.mono (Lt.same sm).toLk) .nil)))⟩⟩
/-! ### the call -/
def finR (mr : S1) : RS → Res Mx.D
  | .rt d m => .ok d m
  | .nx l m => match mr l m with
    | .rt d m' => .ok d m'
    | .nx _ m' => .ok .non m'
    | _ => .bad
  | _ => .bad
def eLam (j : Nat) (P : Addr) (q : Str) (mE : E1) (k : Mx.D → Mx.Env → Mem → RS) (hs : List Hd) (n : Nat) (mr : S1) : E1 := fun loc mem =>
  match mem[j]? with
  | some (.tab P' q') => if P' = P ∧ q' = q then (match mE loc mem with
    | .ok d m => finR mr (k d (List.replicate n none) m)
    | .ex e m => finR mr (runH hs e (List.replicate n none) m)
    | .bad => .bad) else .bad
  | _ => .bad
theorem post_fin {K : PySem.W.Frag} {α : Ad} {H : Hp} {mr : S1} {r : RS} {Q : VK} {W' : XK} (h : Post (Rep K) K α H (finR mr r) Q W') :
    PostS K α H r { nx := tS K mr W0 { nx := fun _ H' => Q .non H', rt := Q }, rt := Q } W0 := by
  cases r with
  | rt d m => exact h
  | nx l m =>
    intro α' H' σ' lt hm hl
    refine ⟨α', l, m, hm, hl, ?_⟩
    unfold finR at h
    cases e : mr l m with
    | rt d m' =>
      simp only [e] at h
      exact fun α2 H2 v l2 => h α2 H2 v (lt.trans l2)
    | nx l2 m' =>
      simp only [e] at h
      exact fun α2 H2 σ2 lt2 hm2 _ => h α2 H2 .non (lt.trans lt2) hm2 .non
    | bk _ _ => simp only [e] at h; exact h.elim
    | ct _ _ => simp only [e] at h; exact h.elim
    | ex _ _ _ => simp only [e] at h; exact h.elim
    | bad => simp only [e] at h; exact h.elim
  | bk _ _ => exact h.elim
  | ct _ _ => exact h.elim
  | ex _ _ _ => exact h.elim
  | bad => exact h.elim
theorem locrep_none {K : PySem.W.Frag} {α : Ad} {H : Hp} {σ : L2.St} {n : Nat} (h : σ.length = n) : LocRep K α H (List.replicate n none) σ :=
  ⟨by rw [List.length_replicate, h], fun i d e => by
    rw [List.getElem?_replicate] at e
    split at e <;> cases e⟩
abbrev E0 : XK := fun _ _ _ => False
theorem me_lam {X : Cx} {W : WX} {x a q : Str} {stg b1 : Stmt} {h₀ : ExceptHandler} {hds : List ExceptHandler} {rest : List Stmt} {hs : List Hd} {Ng : List Str} {c P : Addr} {k j : Nat} {mE : E1} {mr : S1} {kS : Mx.D → Mx.Env → Mem → RS} {tq : Ends → L2.St → VK} {params : Arguments} {body : Expr} {scope : Scope} {p lpos pos tpos : Pos}
    (G : Def X.K X.mg x stg) (Sg : FnScope Ng [a] (defScope stg)) (hb : BindsAll x stg [a]) (hbd : defBody stg = .Try [b1] (h₀ :: hds) [] [] tpos :: rest) (sh : Shape b1 a kS tq)
    (hh : ∀ (g : Addr) (cdv : Value) (s : Shared) (H : Hp), MHd (cxF X.prog X.w X.K X.mg X.base Ng x stg g cdv X.A X.stack s H E0) (h₀ :: hds) hs)
    (hrest : ∀ (g : Addr) (cdv : Value) (s : Shared) (H : Hp), MSs (cxF X.prog X.w X.K X.mg X.base Ng x stg g cdv X.A X.stack s H E0) W0 rest mr)
    (TB : LamX.TabB X.base X.mg c P) (hcode : X.env.code = .ref c) (hq : q = X.env.qual ++ "<lambda>") (L : LamX.LamS X.env.scope scope) (rm : Rm (k + 2) X.A)
    (hE : ∀ (A : Around) (outer : List PySem.Env) (s : Shared) (H : Hp) (E : XK) (f c' : Addr), Rm k (A.deeper (LamX.lamEnv X scope s.heap.objs.size f c')) → ME (LamX.lamCx X A outer s H E scope f c') (fun cls d _ H' => E cls d H') body mE)
    (hg : Gl X x) (hv : Vis (defScope stg) a) (hN0 : Ng[0]? = some a := by rfl) (hdef : defaultsOf params X.env = ([], []) := by rfl)
    (hbind : ∀ (q : Str) (cl : List (Str × Addr)) (pm cv ctv : Value), bindArgs (PySem.W.kla_fn "<lambda>" q params body scope cl pm cv ctv) ⟨[], []⟩ = pure [] := by intros; rfl)
    (hdb : (x == ("__debug__" : Str)) = false := by decide) (hd : (a == ("__debug__" : Str)) = false := by decide) (hcd : (a == ("__classdict__" : Str)) = false := by decide) :
    ME X W (.Call (.Name x p) [.Lambda params body scope lpos] [] pos) (eLam j P q mE kS hs Ng.length mr) := by
  refine ⟨⟨fun pins s σ H Q I ⟨α, loc, mem, hm, hl, hp⟩ => ?_⟩⟩
  obtain ⟨g, fd, hmg, F⟩ := G.ex
  subst hq
  unfold eLam at hp
  split at hp
  case h_2 => exact hp.elim
  rename_i P' q' hmem
  split at hp
  case isFalse => exact hp.elim
  rename_i hPq
  obtain ⟨rfl, rfl⟩ := hPq
  obtain ⟨aP, hcell, haP⟩ := hm.at2 hmem
  obtain ⟨rfl, ps0, hP, ht, hco⟩ := haP
  have inP : aP ∈ α.cells := List.mem_of_getElem? hcell
  refine wpAny_Call_Name_kw (ld_glob I hg hmg ?_ hdb)
  refine PySem.W.callWith_K (h₀ := X.base) I.ok.mod.kin F.kp ?_ (by rfl) (by rfl)
  show wpAny _ _ (spliced ((false, eval (.Lambda params body scope lpos) X.env) :: backTo pos (starEach [] X.env))) _ _ s
  refine Calls.spliced_cons (lam_mk I TB hcode rfl hP ht (fun p' cv e => let ⟨c0, e1, _, e3⟩ := hco p' cv e; ⟨c0, e1, e3⟩) hdef (L.has I.ok) fun f c' pm' ctv H1 s' I1 keep tb1 hf hfn hfr hc' => ?_)
  refine Calls.spliced_nil ⟨I1.kIn, ?_⟩
  have offP : ∀ b, α.off b → b ≠ aP := fun b hb z => hb.1 (by rw [z]; exact inP)
  have lt1 : Lt α H α H1 := ⟨⟨fun b o hb e => ⟨hb, keep b o (offP b hb) e⟩, [], by simp⟩, fun b o _ h2 e => ⟨h2, keep b o (fun z => h2 (by rw [z]; exact inP)) e⟩, rfl⟩
  have hm1 : MemRep X.K α H1 mem := by
    refine ⟨hm.nd, hm.len, fun n b cl e1 e2 => ?_, fun b hb => ?_⟩
    · by_cases hbP : b = aP
      · have en : n = j := by
          obtain ⟨g1, q1⟩ := List.getElem?_eq_some_iff.mp e1
          obtain ⟨g2, q2⟩ := List.getElem?_eq_some_iff.mp hcell
          exact (List.getElem_inj hm.nd).mp (q1.trans (hbP.trans q2.symm))
        subst en
        rw [hmem] at e2
        cases e2
        subst hbP
        obtain ⟨ps1, t1, t2, t3⟩ := tb1
        refine ⟨rfl, ps1, t1, t2, fun p' cv e => ?_⟩
        obtain ⟨c0, z1, z2, z3⟩ := t3 p' cv e
        refine ⟨c0, z1, ?_, z2⟩
        rcases z3 with z3 | ⟨p3, z3⟩
        · exact hm.fresh z3
        · obtain ⟨c9, y1, y2, _⟩ := hco p3 _ z3
          cases y1
          exact y2
      · have hc0 := hm.cell n b cl e1 e2
        obtain ⟨o, ho⟩ := hc0.some
        exact hc0.mono lt1.toLk (by rw [ho]; exact keep b o hbP ho)
    · obtain ⟨⟨o, ho⟩, hn⟩ := hm.hid b hb
      exact ⟨⟨o, keep b o (fun z => hn (by rw [z]; exact inP)) ho⟩, hn⟩
  have hl1 := hl.mono lt1.toLk
  have rc : codeAny (model X.prog X.w) X.A (.call (.ref g) ⟨[.ref f], []⟩) (CR (L2.CX X.prog X.w) X.stack X.prog X.w H1 s' Q E0) s' := by
    have bound := F.binds hb s' [.ref f] I1.kIn rfl
    refine run_at (N := Ng) (ps := [a]) (us := [.ref f]) (vs := [.ref f]) F Sg rm I1.env0 (by simpa using bound) (.cons rfl .nil) rfl fun cdv rm' => ?_
    obtain ⟨l, k1, k2⟩ := mhd_ok (hh g cdv s' H1)
    rw [hbd]
    have st0 : (L2.start Ng [V.ref f])[0]? = some (some (V.ref f)) := rfl
    have len0 : (L2.start Ng [V.ref f]).length = Ng.length := by
      obtain ⟨_, h0⟩ := List.getElem?_eq_some_iff.mp hN0
      have : 0 < Ng.length := (List.getElem?_eq_some_iff.mp hN0).1
      simp [L2.start]
      omega
    refine ⟨_, pss_cons (ps_tryM (X := cxF X.prog X.w X.K X.mg X.base Ng x stg g cdv X.A X.stack s' H1 E0) (Wout := W0) (l := l)
      (tb := fun W D σZ HZ => σZ[0]? = some (some (.ref f)) ∧ HZ c' = some (LamX.CodeO c' (X.env.qual ++ "<lambda>")) ∧ tE X.K mE (fun cls d _ H' => W cls d σZ H') σ HZ (tq D σZ))
      rfl rfl rfl Sg.nd takes0 (fun W pn xe t _ => pss_one (sh.go _ _ fun p1 p2 => pe_lamact I1 L hf hfn hfr (hbind _ _ _ _ _) t rm' (fun A outer s H E hr => hE A outer s H E f c' hr) hN0 hv hd hcd)) k1) (hrest g cdv s' H1).pss, ?_⟩
    refine ⟨st0, hc', α, loc, mem, hm1, hl1, ?_⟩
    cases eE : mE loc mem with
    | ok d m =>
      rw [eE] at hp
      exact fun α' H' v l' hm' hr' => sh.ok X.K _ _ α' H' d v _ m hm' hr' (locrep_none len0) (PostS.later (lt1.trans l') (post_fin hp))
    | ex e m =>
      rw [eE] at hp
      exact fun α' H' cc dd l' hm' hx' => k2 W0 _ α H e _ m (post_fin hp) α' H' _ cc dd (lt1.trans l') hm' (locrep_none len0) hx'
    | bad => rw [eE] at hp; exact hp.elim
  refine wpAny_call (codeAny_mono rc fun r s2 done => ?_)
  match r, done with
  | .error e, done =>
    obtain ⟨_, _, _, _, _, _, _, _, _, _, _, _, no⟩ := done
    exact no.elim
  | .ok (.ret _), done => exact I1.after done
  | .ok .next, done => exact done.elim
  | .ok .brk, done => exact done.elim
  | .ok .cont, done => exact done.elim
end Mx

/-! M37: str.index; defs whose code is known; the law's end with tables. -/
namespace Mx
open PySem L2 PyProof.Rows
section
variable {X : Cx} {W : WX}
def gSIdx : OpD := pu fun _ ds => match ds with
  | [.str a, .str b] => match Builtin.Str.occurrences a b 0 a.length 1 with
    | i :: _ => some (.int (i : Nat))
    | [] => none
  | _ => none
theorem mt_gSIdx : MtR X "str.index" (fun x xs H Q => rB X.K gSIdx (x :: xs) H Q) := by
  intro pins s σ H x xs v us Q I rx rxs ⟨α, mem, ds, z, mem', hm, hr, hg, q⟩
  unfold gSIdx pu at hg
  dsimp only at hg
  split at hg
  · rename_i a b
    split at hg
    · rename_i i rest e
      cases hg
      cases hr with
      | cons r1 hr =>
        cases hr with
        | cons r2 hr =>
          cases hr
          cases r1
          cases r2
          exact mt_sindex pins s σ H _ _ v us Q I rx rxs ⟨a, b, i, rest, rfl, rfl, e, q α H _ (Lt.refl _ _) hm (.int _)⟩
    · cases hg
  · cases hg
variable {e o : Expr} {mo : E1} {ml : EL} {apos pos : Pos}
theorem me_sindex (ho : ME X W o mo) (ha : ML X W [e] ml) (hbase : attributeBase o "index" X.env (eval o X.env) = eval o X.env := by rfl)
    (hfew : ((backTo pos (starEach [e] X.env)).all (fun x => !x.1) && (backToKw pos (keywordEach [] X.env)).all (fun x => x.1.isSome) && decide ([e].length + ([] : List Keyword).length + (if ([] : List Keyword).isEmpty then 0 else 1) < 30)) = true := by rfl)
    (hline : (apos.endLine == pos.line) = true := by rfl) (hs : starEach [e] X.env = (false, eval e X.env) :: starEach [] X.env := by rfl) (hplain : (backTo pos (starEach [] X.env)).any (·.1) = false := by rfl) : ME X W (.Call (.Attribute o "index" apos) [e] [] pos) (eM tyS gSIdx mo ml) :=
  me_bm ty_str (pe_bm F.plainAttrs_str F.slot_str_index F.type_str_index mt_gSIdx ho.pe ha.pa hbase hfew hline hs hplain)
end
section
variable {P : Program} {w : World} {K : PySem.W.Frag} {mg : Str → Option Value} {base : Heap}
/-- a def of the top whose code object stands at c -/
structure DefC (K : PySem.W.Frag) (mg : Str → Option Value) (x : Str) (st : Stmt) (c : Addr) : Prop where
  ex : ∃ f fd, mg x = some (.ref f) ∧ Fun K x x st f fd ∧ fd.code = .ref c
theorem DefC.d {x : Str} {st : Stmt} {c : Addr} (D : DefC K mg x st c) : Def K mg x st := let ⟨f, fd, h1, h2, _⟩ := D.ex; ⟨f, fd, h1, h2⟩
theorem defC_mk {h : Heap} {x : Str} {st : Stmt} {f c : Addr} {oc : Value} {od an : Option Addr} {osl : Array (Option Value)} {kV doc pm ct : Value} (X : K.In h) (G : h.Ns mainGlobals mg) (a : PySem.W.nsIn K mainGlobals x = some (some (.ref f)))
    (l : K.lookup f = some ⟨oc, od, .func (PySem.W.fnOf x x (defArgs st) (defBody st) (defScope st) .none kV doc pm an (.ref c) ct), osl⟩) (cd : PySem.W.codeIn K (.ref c) x = true) (k : PySem.W.keepIn K (.ref f) = true) : DefC K mg x st c := ⟨f, _, PySem.W.mg_of X G a, fun_mk (st := st) l cd k, rfl⟩
/-- a def that makes lambdas -/
theorem fnC_of {x : Str} {st : Stmt} {c f : Addr} {fd : FuncData} {N ps : List Str} {k : Nat} {m : S1} {F : Fn} (G : Fun K x x st f fd) (hc : fd.code = .ref c) (S : FnScope N ps (defScope st))
    (body : ∀ (A : Around) (outer : List PySem.Env) (s : Shared) (H : Hp) (E : XK), Rm k (A.deeper (envOfC x (defScope st) s.heap.objs.size f (.ref c))) → MSs (cxF P w K mg base N x st f (.ref c) A outer s H E) (wxF E) (defBody st) m)
    (rf : ∀ ds mem, ds.length = ps.length → Ref mem (runB N.length m ds mem) (F ds mem)) : FnG P w K mg base (k + 1) f fd ps (spM K ps.length F) := by
  obtain ⟨oc, od, kV, doc, pm, an, cdv, ct, osl, rfl, look, code⟩ := G.ex
  have hc : cdv = .ref c := hc
  subst hc
  refine ⟨fun vs H Q E h => h.1, fun A outer s H args us vs Q E rm env bound rv sp => ?_⟩
  have inK : K.In s.heap := env.mod.kin.keeps fun b o e => (env.bs b o e).1
  have nol : s.heap.NoLimit := env.mod.nolimit.keeps fun b o e => (env.bs b o e).1
  have kinds : ∀ y ∈ ps.zip us, (defScope st).names.lookup y.1 = some .local ∨ ((defScope st).names.lookup y.1 = some .cell ∧ ((cellsFrom (s.heap.objs.size + 1) (defScope st).names []).lookup y.1).isSome = true) := by
    rintro ⟨n, v⟩ hy
    exact (S.par n (List.of_mem_zip hy).1).imp id fun c => ⟨c, PySem.W.cellsFrom_some _ _ _ (.inl c)⟩
  refine codeAny_call_function rm.toRoom.depth (inK _ _ look) rfl S.co S.gen rfl (PySem.W.codeRec_of inK code) (bound _ _ _ _ ?_)
  refine wpAny_newFunctionEnv_cells S.kind kinds ?_
  rintro _ rfl s1 new
  refine ⟨nol.keeps new.toInCall.keep, codeAny_func ?_⟩
  obtain ⟨hlen, α, mem, ds, hm', hrs, hp⟩ := sp
  have I0 : L2.Inv (cxF P w K mg base N x st f (.ref c) A outer s H E) [] (L2.start N vs) H s1 := inv_start S rm.hd env hlen rv new
  have hp2 := (rf ds mem (by rw [hrs.length]; exact hlen)).post hm' hp
  have ht : tS K m (wxF E) { nx := fun _ H' => Q .non H', rt := Q } (L2.start N vs) H := by
    refine ⟨α, startL N.length ds, mem, hm', start_rep N hrs, ?_⟩
    unfold runB at hp2
    cases e : m (startL N.length ds) mem with
    | nx l m' =>
      rw [e] at hp2
      exact fun α' H' σ' lt hm' _ => hp2 α' H' .non lt hm' .non
    | rt d m' =>
      rw [e] at hp2
      exact hp2
    | ex e' l m' =>
      rw [e] at hp2
      exact fun α' H' σ' c dd lt hm' _ hx => hp2 α' H' c dd lt hm' hx
    | bk _ _ => rw [e] at hp2; exact hp2.elim
    | ct _ _ => rw [e] at hp2; exact hp2.elim
    | bad => rw [e] at hp2; exact hp2.elim
  refine wpAny_mono ((body A outer s H E (rm.deeper _)).pss.run [] s1 _ H _ I0 ht) ?_ fun _ _ z => z
  intro fl s' z
  match fl, z with
  | .ret u, ⟨v, _, H', J, r, q'⟩ => exact ⟨v, H', J.os, J.bare, J.base, J.hok, r, q'⟩
  | .next, ⟨_, H', J, q'⟩ => exact ⟨.non, H', J.os, J.bare, J.base, J.hok, rfl, q'⟩
  | .brk, ⟨_, _, _, q'⟩ => exact q'.elim
  | .cont, ⟨_, _, _, q'⟩ => exact q'.elim
theorem cal_defC {x : Str} {st : Stmt} {c : Addr} {N ps : List Str} {k : Nat} {m : S1} {F : Fn} (D : DefC K mg x st c) (S : FnScope N ps (defScope st)) (hb : BindsAll x st ps)
    (body : ∀ (f : Addr) (A : Around) (outer : List PySem.Env) (s : Shared) (H : Hp) (E : XK), Rm k (A.deeper (envOfC x (defScope st) s.heap.objs.size f (.ref c))) → MSs (cxF P w K mg base N x st f (.ref c) A outer s H E) (wxF E) (defBody st) m)
    (rf : ∀ ds mem, ds.length = ps.length → Ref mem (runB N.length m ds mem) (F ds mem)) : Cal P w K mg base (k + 1) x ps F := by
  obtain ⟨f, fd, hm, G, hc⟩ := D.ex
  exact ⟨f, fd, hm, G.kp, G.binds hb, fnC_of G hc S (body f) rf⟩
/-- what is raised within a lambda -/
theorem tkL {X : Cx} {A : Around} {outer : List PySem.Env} {s : Shared} {H : Hp} {E : XK} {scope : Scope} {f c' : Addr} : Tk (LamX.lamCx X A outer s H E scope f c') (fun cls d _ H' => E cls d H') := ⟨takes_of rfl rfl rfl rfl⟩
end
/-- which classes are taken by a clause -/
def hitOf (l : List (Addr × Bool)) (C : Addr) : Option Bool := l.lookup C
def hitB (K : PySem.W.Frag) (c : Value) (l : List (Addr × Bool)) : Bool := l.all fun p => eqB (PySem.W.exmOne K (.ref p.1) c) (some p.2)
theorem look_mem : ∀ {l : List (Addr × Bool)} {C : Addr} {b : Bool}, l.lookup C = some b → (C, b) ∈ l
  | [], _, _, e => by cases e
  | (D, c) :: l, C, b, e => by
    rw [List.lookup_cons] at e
    split at e
    · rename_i h
      cases e
      rw [eq_of_beq h]
      exact List.mem_cons_self
    · exact List.mem_cons_of_mem _ (look_mem e)
theorem hit_of {K : PySem.W.Frag} {c : Value} {l : List (Addr × Bool)} (h : hitB K c l = true) : ∀ C b, hitOf l C = some b → PySem.W.exmOne K (.ref C) c = some b := fun C b e =>
  of_eqB (List.all_eq_true.mp h (C, b) (look_mem e))
/-! ### the law's end -/
/-- the law's def gives True; cs: code objects, their tables and the names -/
theorem end_callT {P : Program} {w : World} {K : PySem.W.Frag} {mg mb : Str → Option Value} {k : Nat} {fa a : Addr} {fd : FuncData} {x : Str} {F : Fn} {s₁ : Shared} {vs : List Value} {ns : List Int} {cs : List (Addr × Addr × Str)}
    (KX : K.In s₁.heap) (gl : s₁.heap.Ns mainGlobals mg) (bl : s₁.heap.Ns builtinsNs mb) (boot : ∀ x : Str, x ≠ "__name__" → mb x = bootBuiltins x) (nol : s₁.heap.NoLimit) (nog : s₁.gens = #[])
    (obj : s₁.heap.get? a = some { cls := .type "list", data := .seq vs.toArray }) (isI : IntsAre vs ns) (few : ns.length ≤ sizeLine) (rm : Rm k callerA) (sy : SysD s₁.heap)
    (tab : ∀ p ∈ cs, s₁.heap.get? p.2.1 = some { cls := .none, data := .fields #[] }) (noK : ∀ p ∈ cs, K.lookup p.2.1 = none) (cod : ∀ p ∈ cs, PySem.W.CodeHd s₁.heap p.1 p.2.1) (nd : (cs.map (·.2.1)).Nodup)
    (bmod : ∃ (bm : Addr) (ob : Obj), mg "__builtins__" = some (.ref bm) ∧ bm ≠ builtinsNs ∧ s₁.heap.get? bm = some ob ∧ ob.cls = .type "module" ∧ ob.dict = some builtinsNs ∧ ob.data = .plain)
    (FF : ∀ base : Heap, K.In base → base.Ns mainGlobals mg → SysD base → (∀ p ∈ cs, LamX.TabB base mg p.1 p.2.1) → FnG P w K mg base k fa fd [x] (spM K 1 F)) (bind1 : ∀ (s : Shared) (u : Value), BindsTo s fd ⟨[u], []⟩ [(x, u)])
    (want : ∃ m', F [.scr (ns.map .int)] (cs.map fun p => .tab p.2.1 p.2.2) = .ok (.bl true) m') :
    codeAny (model P w) callerA (.call (.ref fa) ⟨[.ref a], []⟩) (fun r s' => r = .ok (.ret (.bool true)) ∧ OldK s₁.heap s'.heap ∧ s'.os = s₁.os ∧ AllBare s'.gens) s₁ := by
  have rel := vals_ints isI
  have isT : ∀ b ∈ cs.map (·.2.1), s₁.heap.get? b = some { cls := .none, data := .fields #[] } := fun b hb => by
    obtain ⟨p, hp, rfl⟩ := List.mem_map.mp hb
    exact tab p hp
  have aT : a ∉ cs.map (·.2.1) := fun z => by
    have q := isT a z
    rw [obj] at q
    have z' : Data.seq vs.toArray _ = Data.fields #[] := congrArg Obj.data (Option.some.inj q)
    cases z'
  suffices main : ∀ H : Hp, (∀ b ∈ cs.map (·.2.1), H b = some (.tbl #[])) → (∀ b, b ∉ cs.map (·.2.1) → H b = none ∨ ∃ o xs, H b = some (.frz o (.lst xs))) → SqL K H a (ns.map V.int) → HOk P w H s₁.heap → (∀ b u, b ∉ cs.map (·.2.1) → H b = some u → b = a ∧ K.lookup a = none) → _ by
    by_cases hk : ∃ o, K.lookup a = some o
    · obtain ⟨o, hk⟩ := hk
      have same := KX a o hk
      rw [obj] at same
      cases same
      refine main (fun b => if b ∈ cs.map (·.2.1) then some (.tbl #[]) else none) (fun b hb => if_pos hb) (fun b hb => .inl (if_neg hb)) (.inr ⟨_, vs.toArray, _, hk, rfl, rfl, rfl, by rw [List.size_toArray, isI.length]; exact few, by simpa using rel⟩) (fun b u z => ?_) (fun b u hb z => ?_)
      · by_cases hb : b ∈ cs.map (·.2.1)
        · have z' := (if_pos hb).symm.trans z
          cases z'
          exact isT b hb
        · exact nomatch (if_neg hb).symm.trans z
      · exact nomatch (if_neg hb).symm.trans z
    · have hk0 : K.lookup a = none := by
        cases q : K.lookup a with
        | none => rfl
        | some o => exact absurd ⟨o, q⟩ hk
      let H : Hp := fun b => if b ∈ cs.map (·.2.1) then some (.tbl #[]) else if b = a then some (.frz { cls := .type "list", data := .seq vs.toArray } (.lst (ns.map V.int))) else none
      have onT : ∀ b ∈ cs.map (·.2.1), H b = some (.tbl #[]) := fun b hb => if_pos hb
      have at_a : H a = some (.frz { cls := .type "list", data := .seq vs.toArray } (.lst (ns.map V.int))) := (if_neg aT).trans (if_pos rfl)
      have off : ∀ b, b ∉ cs.map (·.2.1) → b ≠ a → H b = none := fun b h1 h2 => (if_neg h1).trans (if_neg h2)
      refine main H onT (fun b hb => ?_) (.inl (.inr ⟨_, at_a⟩)) (fun b u z => ?_) fun b u hb z => ⟨?_, hk0⟩
      · by_cases h : b = a
        · exact .inr ⟨_, _, by rw [h]; exact at_a⟩
        · exact .inl (off b hb h)
      · by_cases hb : b ∈ cs.map (·.2.1)
        · rw [onT b hb] at z
          cases z
          exact isT b hb
        · by_cases h : b = a
          · subst h
            rw [at_a] at z
            cases z
            exact ⟨obj, by rw [List.length_map]; exact few, vs, _, rel, obj⟩
          · rw [off b hb h] at z
            cases z
      · by_cases h : b = a
        · exact h
        · rw [off b hb h] at z
          cases z
  intro H onT only sq hok track
  have free0 : ∀ {b : Addr} {o : Obj}, s₁.heap.get? b = some o → (∀ vs n, o.data ≠ .seq vs n) → o.data ≠ .fields #[] → H b = none := by
    intro b o e d1 d2
    cases q : H b with
    | none => rfl
    | some u =>
      by_cases hb : b ∈ cs.map (·.2.1)
      · rw [isT b hb] at e
        cases e
        exact absurd rfl d2
      · have e' := (track b u hb q).1
        subst e'
        rw [obj] at e
        cases e
        exact absurd rfl (d1 _ _)
  have free : ∀ {b : Addr} {o : Obj} {es : Array DictEntry} {ep : Nat}, s₁.heap.get? b = some o → o.data = .dict es ep → H b = none := fun {b o es ep} e d => free0 e (fun vs n z => by rw [d] at z; cases z) fun z => by rw [d] at z; cases z
  have ns' : ∀ {b : Addr} {m : Str → Option Value}, s₁.heap.Ns b m → (hidT s₁.heap H).Ns b m := by
    rintro b m ⟨o, es, ep, e, d, r⟩
    exact ⟨o, es, ep, hidT_get e (free e d), d, r⟩
  have inB : K.In (hidT s₁.heap H) := by
    intro b o e
    refine hidT_get (KX b o e) ?_
    cases q : H b with
    | none => rfl
    | some u =>
      by_cases hb : b ∈ cs.map (·.2.1)
      · obtain ⟨p, hp, rfl⟩ := List.mem_map.mp hb
        rw [noK p hp] at e
        cases e
      · obtain ⟨rfl, no⟩ := track b u hb q
        rw [no] at e
        cases e
  obtain ⟨mc, l1, l2⟩ := nol
  have env : Env0 P w K mg (hidT s₁.heap H) callerA [] s₁ H := ⟨rfl, ⟨inB, ns' gl, ⟨mb, ns' bl, boot⟩, mc, ns' l1, l2⟩, fun b o e => of_hidT e, Nat.le_of_eq (hidT_size _ _), trivial, (fun b z => nomatch z), hok, .of_eq nog⟩
  have TB : ∀ p ∈ cs, LamX.TabB (hidT s₁.heap H) mg p.1 p.2.1 := fun p hp => by
    have hTp := tab p hp
    refine ⟨?_, ?_, fun z => ?_⟩
    · obtain ⟨o, us, file, tf, flags, tg, inF, text, tt, e1, r1, r2, r3, r⟩ := cod p hp
      refine ⟨o, us, file, tf, flags, tg, inF, text, tt, hidT_get e1 (free0 e1 (fun vs n z => ?_) fun z => ?_), r1, r2, r3, r⟩
      · rw [r2] at z; cases z
      · rw [r2] at z; cases z; simp at r3
    · obtain ⟨bm, ob, b1, b2, b3, b4, b5, b6⟩ := bmod
      have nG : bm ≠ mainGlobals := fun q => by
        obtain ⟨o, es, ep, e, hd, _⟩ := gl
        rw [q, e] at b3
        cases b3
        rw [hd] at b6
        cases b6
      have nP : bm ≠ p.2.1 := fun q => by
        rw [q, hTp] at b3
        cases b3
        cases b6
      refine ⟨bm, ob, b1, b2, nG, nP, hidT_get b3 (free0 b3 (fun vs n z => ?_) fun z => ?_), b4, b5, b6⟩
      · rw [b6] at z; cases z
      · rw [b6] at z; cases z
    · obtain ⟨o, es, ep, e, hd, _⟩ := gl
      rw [z, hTp] at e
      cases e
      cases hd
  have hsp : spM K 1 F [.ref a] H (fun v _ => v = .bl true) fun _ _ _ => False := by
    refine ⟨rfl, ⟨cs.map (·.2.1), []⟩, cs.map fun p => .tab p.2.1 p.2.2, [.scr (ns.map .int)], ⟨nd, by simp, fun n b c e1 e2 => ?_, fun b z => nomatch z⟩, .cons ?_ .nil, ?_⟩
    · rw [List.getElem?_map] at e1 e2
      obtain ⟨p, hp, rfl⟩ := Option.map_eq_some_iff.mp e1
      rw [hp] at e2
      cases e2
      refine ⟨rfl, #[], onT _ (List.mem_map.mpr ⟨p, List.mem_of_getElem? hp, rfl⟩), trivial, fun pos cv z => ?_⟩
      have z : codeAmong pos [] = some cv := z
      simp [codeAmong] at z
    · have rp : RepL K ⟨cs.map (·.2.1), []⟩ H (ns.map D.int) (ns.map V.int) := by
        clear sq isI few want rel
        induction ns with
        | nil => exact .nil
        | cons n ns ih => exact .cons (.int n) ih
      have offa : (⟨cs.map (·.2.1), []⟩ : Ad).off a := ⟨aT, fun z => nomatch z⟩
      rcases sq with (q | ⟨o, q⟩) | q
      · rcases only a aT with z | ⟨o, xs, z⟩
        · rw [q] at z; cases z
        · rw [q] at z; cases z
      · exact .scr offa ⟨o, q⟩ rp
      · exact .scrK q rp
    · obtain ⟨m', e⟩ := want
      rw [e]
      intro α' H' v _ _ r
      cases r
      rfl
  refine codeAny_mono ((FF _ inB (ns' gl) (let ⟨mm, z⟩ := sy; ⟨mm, ns' z⟩) TB).go callerA [] s₁ H ⟨[.ref a], []⟩ [.ref a] [.ref a] _ _ rm env (bind1 s₁ (.ref a)) (.cons rfl .nil) hsp) ?_
  intro res s' z
  match res, z with
  | .error e, z =>
    obtain ⟨_, _, _, _, _, _, _, _, _, _, _, _, no⟩ := z
    exact no.elim
  | .ok .next, z => exact z.elim
  | .ok .brk, z => exact z.elim
  | .ok .cont, z => exact z.elim
  | .ok (.ret u), ⟨v, H', os, bare, un, hok', r, q⟩ =>
    have q' : v = .bl true := q
    subst q'
    have ru : u = Value.bool true := r
    subst ru
    have key : ∀ b o, b ∉ cs.map (·.2.1) → s₁.heap.get? b = some o → s'.heap.get? b = some o := fun b o hb e => by
      rcases only b hb with n | ⟨ob, xs, fz⟩
      · exact un.keep b o e n (fun z => nomatch z) (fun z => nomatch z)
      · obtain ⟨e1, _⟩ := hok b _ fz
        obtain ⟨e2, _⟩ := hok' b _ (un.frzs b ob _ fz)
        rw [e] at e1
        cases e1
        exact e2
    have grown : ∀ b ∈ cs.map (·.2.1), ∃ more : Array Value, s'.heap.get? b = some { cls := .none, data := .fields more } := fun b hb => by
      obtain ⟨more, z⟩ := un.tbls b #[] (onT b hb)
      exact ⟨_, hok' b _ z⟩
    refine ⟨rfl, ⟨fun b o e => ?_, fun b o e => ?_⟩, os, bare⟩
    · by_cases hb : b ∈ cs.map (·.2.1)
      · obtain ⟨more, hm⟩ := grown b hb
        obtain ⟨p, hp, rfl⟩ := List.mem_map.mp hb
        rw [tab p hp] at e
        cases e
        exact .inr (.inl ⟨((cod p hp).tab (tab p hp)).isCodeTable, rfl, #[], more, rfl, by rw [Array.empty_append]; exact hm⟩)
      · exact .inl (key b o hb e)
    · by_cases hb : b ∈ cs.map (·.2.1)
      · obtain ⟨more, hm⟩ := grown b hb
        exact ⟨_, hm⟩
      · exact ⟨o, key b o hb e⟩
/-- the goal that the head leaves; lams: the names of the defs that make lambdas, their code objects, tables and the names of these -/
theorem end_walkT {l : PySem.W.OpenLaw} {n k : Nat} {q : Program} {loose : List Str} {XP : (Str → Option Value) → Heap → Prop} {YP : World → Heap → Prop} {d : DefRec} {K : Params → PySem.W.Frag} {F : Fn} {x : Str} {cs : List (Addr × Addr × Str)}
    (most : l.most = some n) (few : n ≤ sizeLine) (nod : d.params.defaults = []) (rm : Rm k callerA) (imp : importsNone q = true) (hY : ∀ (w : World) (h : Heap), YP w h → (K w.params).In h)
    (tabs : ∀ (w : World) (h : Heap), YP w h → ∀ p ∈ cs, h.get? p.2.1 = some { cls := .none, data := .fields #[] })
    (nd : (cs.map (·.2.1)).Nodup) (noK : ∀ w : World, ∀ p ∈ cs, (K w.params).lookup p.2.1 = none) (hd : ∀ (w : World) (h : Heap), (K w.params).In h → ∀ p ∈ cs, PySem.W.CodeHd h p.1 p.2.1)
    (FF : ∀ (w : World) (mg : Str → Option Value) (fa : Addr) (h : Heap), (K w.params).In h → h.Ns mainGlobals mg → mg d.name = some (.ref fa) →
      ∃ fd : FuncData, (∀ (s : Shared) (u : Value), BindsTo s fd ⟨[u], []⟩ [(x, u)]) ∧ ∀ base : Heap, (K w.params).In base → base.Ns mainGlobals mg → SysD base → (∀ p ∈ cs, LamX.TabB base mg p.1 p.2.1) → FnG l.prog w (K w.params) mg base k fa fd [x] (spM (K w.params) 1 F))
    (want : ∀ ns : List Int, ns.length ≤ n → ∃ m', F [.scr (ns.map .int)] (cs.map fun p => .tab p.2.1 p.2.2) = .ok (.bl true) m') :
    PySem.W.WalkO q loose XP YP l.row.toRowW d [] (fun f vs => PySem.call f vs) := by
  refine Att.attach_call most nod ?_
  intro w s₀ s₁ mg mb fa o pm cd doc a vs ns G Y ho hdd hcd hmg obj isI hlen nog
  have KX := hY w _ Y
  obtain ⟨fd, bind1, F1⟩ := FF w mg fa _ KX G.T.g hmg
  refine end_callT KX G.T.g G.T.b G.T.builtins G.T.nolimit nog obj isI (Nat.le_trans hlen few) rm (let ⟨mm, z, _⟩ := (G.T.seer imp).mods; ⟨mm, z⟩) (tabs w _ Y) (noK w) (hd w _ KX) nd G.T.bmain F1 bind1 (want ns hlen)
end Mx

namespace Mx
open PySem L2
/-! M38: loops and comprehensions in plain Lean. -/
theorem comp_of {g : Tg} {tt : EB} {te : E1} {guard : Mem → Bool} {loc : Mx.Env} {mem : Mem} (b : D → Bool) (f : D → D) (hg : guard mem = true) : ∀ (items : List D), (∀ d ∈ items, ∃ asg, g.asg mem d = some asg ∧ tt (setL loc asg) mem = .ok (b d) mem ∧ (b d = true → te (setL loc asg) mem = .ok (f d) mem)) →
    comp g tt te guard items loc mem = .ok ((items.filter b).map f) mem
  | [], _ => by rw [comp, if_pos hg]; rfl
  | d :: ds, h => by
    obtain ⟨asg, h1, h2, h3⟩ := h d List.mem_cons_self
    have ih := comp_of b f hg ds fun e he => h e (List.mem_cons_of_mem _ he)
    rw [comp, if_pos hg, h1]
    dsimp only
    rw [h2]
    cases eb : b d with
    | false =>
      simp only [Res.bind, Bool.false_eq_true, if_false]
      rw [ih, List.filter_cons_of_neg (by rw [eb]; exact Bool.false_ne_true)]
    | true =>
      simp only [Res.bind, if_true, h3 eb, ih]
      rw [List.filter_cons_of_pos eb, List.map_cons]
theorem comp_map {g : Tg} {te : E1} {guard : Mem → Bool} {loc : Mx.Env} {mem : Mem} (f : D → D) (hg : guard mem = true) (items : List D) (h : ∀ d ∈ items, ∃ asg, g.asg mem d = some asg ∧ te (setL loc asg) mem = .ok (f d) mem) : comp g bYes te guard items loc mem = .ok (items.map f) mem := by
  rw [comp_of (fun _ => true) f hg items fun d hd => let ⟨asg, h1, h2⟩ := h d hd; ⟨asg, h1, rfl, fun _ => h2⟩, List.filter_eq_self.mpr fun _ _ => rfl]
theorem lc_of {own : List Nat} {g : Tg} {i : EW} {tt : EB} {te : E1} {loc l2 : Mx.Env} {mem m1 m2 : Mem} {wk : Wk} {ds : List D} (hi : i loc mem = .ok wk m1) (hl : wipeL loc own = l2) (hc : comp g tt te wk.guard wk.items l2 m1 = .ok ds m2) : eLc own g i tt te loc mem = .ok (.lst ds) m2 := by
  unfold eLc
  rw [hi]
  show (comp g tt te wk.guard wk.items (wipeL loc own) m1).noex.bind _ = _
  rw [hl, hc]
  rfl
theorem it_of {a : E1} {loc : Mx.Env} {mem m1 : Mem} {d : D} {wk : Wk} (ha : a loc mem = .ok d m1) (hw : wkOf m1 d = some wk) : wIt a loc mem = .ok wk m1 := by
  unfold wIt
  rw [ha]
  show ofW (wkOf m1 d) m1 = _
  rw [hw]
  rfl
theorem call1_of {F : Fn} {a : E1} {loc : Mx.Env} {mem m1 : Mem} {x : D} (ha : a loc mem = .ok x m1) : eCall F (lCons a lNil) loc mem = F [x] m1 := by
  simp only [eCall, lCons, lNil, ha, Res.bind]
theorem call3_of {F : Fn} {a b c : E1} {loc : Mx.Env} {mem m1 m2 m3 : Mem} {x y z : D} (ha : a loc mem = .ok x m1) (hb : b loc m1 = .ok y m2) (hc : c loc m2 = .ok z m3) : eCall F (lCons a (lCons b (lCons c lNil))) loc mem = F [x, y, z] m3 := by
  simp only [eCall, lCons, lNil, ha, hb, hc, Res.bind]
theorem call4_of {F : Fn} {a b c d : E1} {loc : Mx.Env} {mem m1 m2 m3 m4 : Mem} {x y z u : D} (ha : a loc mem = .ok x m1) (hb : b loc m1 = .ok y m2) (hc : c loc m2 = .ok z m3) (hd : d loc m3 = .ok u m4) : eCall F (lCons a (lCons b (lCons c (lCons d lNil)))) loc mem = F [x, y, z, u] m4 := by
  simp only [eCall, lCons, lNil, ha, hb, hc, hd, Res.bind]
theorem e1_of {g : OpP} {a : E1} {loc : Mx.Env} {mem m1 : Mem} {x z : D} (ha : a loc mem = .ok x m1) (hg : g m1 [x] = some z) : e1 (pu g) a loc mem = .ok z m1 := by
  unfold e1
  rw [ha]
  show ofP (pu g m1 [x]) = _
  unfold pu
  rw [hg]
  rfl
theorem two_of {g : OpP} {a b : E1} {loc : Mx.Env} {mem m1 m2 : Mem} {x y z : D} (ha : a loc mem = .ok x m1) (hb : b loc m1 = .ok y m2) (hg : g m2 [x, y] = some z) : eN (pu g) (lCons a (lCons b lNil)) loc mem = .ok z m2 := by
  simp only [eN, lCons, lNil, ha, hb, Res.bind, ofP, pu, hg, Option.map_some]
theorem and_of {a b : E1} {loc : Mx.Env} {mem m1 : Mem} (ha : a loc mem = .ok (.bl true) m1) : eAnd a b loc mem = b loc m1 := by
  unfold eAnd
  rw [ha]
  rfl
theorem and_no {a b : E1} {loc : Mx.Env} {mem m1 : Mem} (ha : a loc mem = .ok (.bl false) m1) : eAnd a b loc mem = .ok (.bl false) m1 := by
  unfold eAnd
  rw [ha]
  rfl
theorem bOr_no {a b : EB} {loc : Mx.Env} {mem m1 : Mem} (ha : a loc mem = .ok false m1) : bOr a b loc mem = b loc m1 := by
  unfold bOr
  rw [ha]
  rfl
theorem bOr_yes {a b : EB} {loc : Mx.Env} {mem m1 : Mem} (ha : a loc mem = .ok true m1) : bOr a b loc mem = .ok true m1 := by
  unfold bOr
  rw [ha]
  rfl
theorem bAnd_yes {a b : EB} {loc : Mx.Env} {mem m1 : Mem} (ha : a loc mem = .ok true m1) : bAnd a b loc mem = b loc m1 := by
  unfold bAnd
  rw [ha]
  rfl
theorem bAnd_no {a b : EB} {loc : Mx.Env} {mem m1 : Mem} (ha : a loc mem = .ok false m1) : bAnd a b loc mem = .ok false m1 := by
  unfold bAnd
  rw [ha]
  rfl
theorem bNot_of {a : EB} {loc : Mx.Env} {mem m1 : Mem} {t : Bool} (ha : a loc mem = .ok t m1) : bNot a loc mem = .ok (!t) m1 := by
  unfold bNot
  rw [ha]
  rfl
theorem asg_of {g : Tg} {e : E1} {loc : Mx.Env} {mem m1 : Mem} {d : D} {asg : List (Nat × D)} (h : e loc mem = .ok d m1) (ha : g.asg m1 d = some asg) : sAsg g e loc mem = .nx (setL loc asg) m1 := by
  unfold sAsg
  rw [h]
  show (match g.asg m1 d with | some asg => RS.nx (setL loc asg) m1 | none => RS.bad) = _
  rw [ha]
theorem expr_of {e : E1} {loc : Mx.Env} {mem m1 : Mem} {d : D} (h : e loc mem = .ok d m1) : sExpr e loc mem = .nx loc m1 := by
  unfold sExpr
  rw [h]
  rfl
theorem run_ex {n : Nat} {m : S1} {ds : List D} {mem m1 : Mem} {e : Ex} {l : Mx.Env} (h : m (startL n ds) mem = .ex e l m1) : runB n m ds mem = .ex e m1 := by
  unfold runB
  rw [h]
theorem run_nx {n : Nat} {m : S1} {ds : List D} {mem m1 : Mem} {l : Mx.Env} (h : m (startL n ds) mem = .nx l m1) : runB n m ds mem = .ok .non m1 := by
  unfold runB
  rw [h]
theorem expr_ex {e : E1} {loc : Mx.Env} {mem m1 : Mem} {x : Ex} (h : e loc mem = .ex x m1) : sExpr e loc mem = .ex x loc m1 := by
  unfold sExpr
  rw [h]
  rfl
theorem seq_ex {a b : S1} {loc l1 : Mx.Env} {mem m1 : Mem} {x : Ex} (h : a loc mem = .ex x l1 m1) : sSeq a b loc mem = .ex x l1 m1 := by
  unfold sSeq
  rw [h]
theorem ret_ex {e : E1} {loc : Mx.Env} {mem m1 : Mem} {x : Ex} (h : e loc mem = .ex x m1) : sRet e loc mem = .ex x loc m1 := by
  unfold sRet
  rw [h]
  rfl
/-- a loop that keeps I -/
theorem loop_of {g : Tg} {body : S1} {guard : Mem → Bool} (I : Nat → Mx.Env → Mem → Prop) : ∀ (items : List D) (k : Nat) (loc : Mx.Env) (mem : Mem), I k loc mem → (∀ k loc mem, I k loc mem → guard mem = true) →
    (∀ (j : Nat) (d : D) loc mem, items[j]? = some d → I (k + j) loc mem → ∃ asg, g.asg mem d = some asg ∧ ∃ l m, body (setL loc asg) mem = .nx l m ∧ I (k + j + 1) l m) →
    ∃ l m, loop g body guard items loc mem = .nx l m ∧ I (k + items.length) l m
  | [], k, loc, mem, h, hg, _ => ⟨loc, mem, by rw [loop, if_pos (hg _ _ _ h)], h⟩
  | d :: ds, k, loc, mem, h, hg, st => by
    obtain ⟨asg, h1, l, m, h2, h3⟩ := st 0 d loc mem rfl h
    obtain ⟨l2, m2, e, h4⟩ := loop_of I ds (k + 1) l m h3 hg fun j d' loc' mem' e i => by
      have := st (j + 1) d' loc' mem' e (by rw [show k + (j + 1) = k + 1 + j by omega]; exact i)
      rw [show k + (j + 1) + 1 = k + 1 + j + 1 by omega] at this
      exact this
    refine ⟨l2, m2, ?_, by rw [List.length_cons, show k + (ds.length + 1) = k + 1 + ds.length by omega]; exact h4⟩
    rw [loop, if_pos (hg _ _ _ h), h1]
    dsimp only
    rw [h2]
    exact e
/-! the dice's state -/
def Dst (n k : Nat) (mem : Mem) : Prop := ∃ N g s c, mem[n]? = some (dcell g s c) ∧ Dc N g s c ∧ N ≤ k
/-- but cell n all stays; cells may be new -/
def Stp (n : Nat) (mem mem' : Mem) : Prop := mem.length ≤ mem'.length ∧ ∀ i, i ≠ n → i < mem.length → mem'[i]? = mem[i]?
theorem Stp.refl (n : Nat) (mem : Mem) : Stp n mem mem := ⟨Nat.le_refl _, fun _ _ _ => rfl⟩
theorem Stp.trans {n : Nat} {a b c : Mem} (h : Stp n a b) (h2 : Stp n b c) : Stp n a c := ⟨Nat.le_trans h.1 h2.1, fun i hi hl => (h2.2 i hi (Nat.lt_of_lt_of_le hl h.1)).trans (h.2 i hi hl)⟩
theorem Stp.get {n i : Nat} {a b : Mem} {c : Cell} (h : Stp n a b) (hi : i ≠ n) (e : a[i]? = some c) : b[i]? = some c := (h.2 i hi (List.getElem?_eq_some_iff.mp e).1).trans e
theorem Stp.set {n : Nat} {a : Mem} (c : Cell) : Stp n a (a.set n c) := ⟨by rw [List.length_set]; exact Nat.le_refl _, fun i hi _ => List.getElem?_set_ne (Ne.symm hi)⟩
theorem Dst.lt {n k : Nat} {mem : Mem} (h : Dst n k mem) : n < mem.length := let ⟨_, _, _, _, e, _⟩ := h; (List.getElem?_eq_some_iff.mp e).1
theorem Dst.mono {n k j : Nat} {mem : Mem} (h : Dst n k mem) (hk : k ≤ j) : Dst n j mem := let ⟨N, g, s, c, e, d, hN⟩ := h; ⟨N, g, s, c, e, d, Nat.le_trans hN hk⟩
theorem Dst.app {n k : Nat} {mem : Mem} (h : Dst n k mem) (r : Mem) : Dst n k (mem ++ r) := by
  obtain ⟨N, g, s, c, e, d, hN⟩ := h
  exact ⟨N, g, s, c, by rw [List.getElem?_append_left (List.getElem?_eq_some_iff.mp e).1]; exact e, d, hN⟩
theorem Stp.app {n : Nat} (a r : Mem) : Stp n a (a ++ r) := ⟨by simp, fun i _ hl => List.getElem?_append_left hl⟩
theorem roll2 {n k : Nat} {mem : Mem} {t : Int} (h : Dst n k mem) (hk : k < 900000) (t0 : 0 < t) (t1 : t < 9000) : ∃ r mem', fRoll [.ref n, .int t] mem = .ok (.int r) mem' ∧ 0 ≤ r ∧ r < t ∧ Stp n mem mem' ∧ Dst n (k + 1) mem' ∧ mem'.length = mem.length := by
  obtain ⟨N, g, s, c, e, d, hN⟩ := h
  obtain ⟨r, g', c', h1, h2, h3, h4⟩ := roll_ok e d (by omega) t0 t1
  exact ⟨r, _, h1, h2, h3, Stp.set _, ⟨N + 1, g', s, c', get_set e, h4, by omega⟩, by simp⟩
theorem oneOf2 {n k : Nat} {mem : Mem} {ds : List D} (h : Dst n k mem) (hk : k < 900000) (l0 : 0 < ds.length) (l1 : ds.length < 9000) : ∃ x mem', fOneOf [.ref n, .lst ds] mem = .ok x mem' ∧ x ∈ ds ∧ Stp n mem mem' ∧ Dst n (k + 1) mem' ∧ mem'.length = mem.length := by
  obtain ⟨N, g, s, c, e, d, hN⟩ := h
  obtain ⟨x, g', c', h1, h2, h4⟩ := oneOf_ok e d (by omega) l0 l1
  exact ⟨x, _, h1, h2, Stp.set _, ⟨N + 1, g', s, c', get_set e, h4, by omega⟩, by simp⟩
/-- the same, the list in a cell -/
theorem oneOf3 {n k j : Nat} {mem : Mem} {ds : List D} (h : Dst n k mem) (hj : mem[j]? = some (.lst ds)) (nj : j ≠ n) (hk : k < 900000) (l0 : 0 < ds.length) (l1 : ds.length < 9000) : ∃ x mem', fOneOf [.ref n, .ref j] mem = .ok x mem' ∧ x ∈ ds ∧ Stp n mem mem' ∧ Dst n (k + 1) mem' ∧ mem'.length = mem.length := by
  obtain ⟨r, mem', hr, r0, r1, st, d', hl⟩ := roll2 h hk (t := (ds.length : Int)) (by omega) (by omega)
  obtain ⟨x, _, hx, mx⟩ := atI_in (xs := ds) r0 (by exact_mod_cast r1)
  refine ⟨x, mem', run_rt (ret_of (e2_of (x := .ref j) (y := .int r) (m1 := mem) rfl ?_ ?_)), mx, st, d', hl⟩
  · rw [call2_of (x := .ref n) (y := .int ds.length) (m1 := mem) (m2 := mem) rfl (one_of (x := .ref j) rfl ?_)]
    · exact hr
    · simp only [gLen, seqOf, hj]
  · simp only [gIx, seqOf, st.get nj hj]
    exact hx
end Mx

/-! M39: == of lists of other lengths, whatever they hold. -/
namespace Mx
open PySem L2
section
variable {X : Cx}
def gEqL (neg : Bool) : OpP := fun mem ds => match ds with
  | [x, y] => match listOf mem x, listOf mem y with
    | some a, some b => if a.length = b.length then none else some (.bl neg)
    | _, _ => none
  | _ => none
theorem lens_of {neg : Bool} {mem : Mem} {d e z : D} (h : gEqL neg mem [d, e] = some z) : ∃ a b, listOf mem d = some a ∧ listOf mem e = some b ∧ a.length ≠ b.length ∧ z = .bl neg := by
  unfold gEqL at h
  dsimp only at h
  split at h
  · rename_i a b h1 h2
    split at h
    · cases h
    · rename_i c
      cases h
      exact ⟨a, b, h1, h2, c, rfl⟩
  · cases h
theorem op_gEqL (hu : X.A.units + 64 < cLine) : OpR X (compareOp .Eq) (rB2 X.K (pu (gEqL false))) := opP fun pins s σ H x y v u Q α mem d e z I rx ry hm r1 r2 hg q => by
  obtain ⟨a, b, h1, h2, ne, rfl⟩ := lens_of hg
  obtain ⟨l, xs, rfl, hl, hxs⟩ := listOf_at hm r1 h1
  obtain ⟨k, ys, rfl, hk, hys⟩ := listOf_at hm r2 h2
  obtain ⟨its, rv, pl, _⟩ := I.list (SqL.of hl)
  obtain ⟨its2, rv2, pl2, _⟩ := I.list (SqL.of hk)
  cases rx
  cases ry
  have sz : (its.toArray.size != its2.toArray.size) = true := by
    have e1 := rv.length
    have e2 := rv2.length
    have e3 := hxs.length
    have e4 := hys.length
    rw [List.size_toArray, List.size_toArray]
    simp
    omega
  exact SeqAt.RcAt.lists_lengths pl.isList pl2.isList sz (by omega) X.prog X.w X.xe _ ⟨.bl false, H, I, rfl, q H _ (Same.refl _) (.bl false)⟩
theorem op_gNeL (hu : X.A.units + 64 < cLine) : OpR X (compareOp .NotEq) (rB2 X.K (pu (gEqL true))) := opP fun pins s σ H x y v u Q α mem d e z I rx ry hm r1 r2 hg q => by
  obtain ⟨a, b, h1, h2, ne, rfl⟩ := lens_of hg
  obtain ⟨l, xs, rfl, hl, hxs⟩ := listOf_at hm r1 h1
  obtain ⟨k, ys, rfl, hk, hys⟩ := listOf_at hm r2 h2
  obtain ⟨its, rv, pl, _⟩ := I.list (SqL.of hl)
  obtain ⟨its2, rv2, pl2, _⟩ := I.list (SqL.of hk)
  cases rx
  cases ry
  have sz : (its.toArray.size != its2.toArray.size) = true := by
    have e1 := rv.length
    have e2 := rv2.length
    have e3 := hxs.length
    have e4 := hys.length
    rw [List.size_toArray, List.size_toArray]
    simp
    omega
  exact SeqAt.RcNeAt.lists_lengths pl.isList pl2.isList sz (by omega) X.prog X.w X.xe _ ⟨.bl true, H, I, rfl, q H _ (Same.refl _) (.bl true)⟩
def gEqA (neg : Bool) : OpP := orG (gEqL neg) (gEq neg)
theorem op_gEqA (hu : X.A.units + 64 < cLine) : OpR X (compareOp .Eq) (rB2 X.K (pu (gEqA false))) := op_or (op_gEqL hu) (op_gEq hu)
theorem op_gNeA (hu : X.A.units + 64 < cLine) : OpR X (compareOp .NotEq) (rB2 X.K (pu (gEqA true))) := op_or (op_gNeL hu) (op_gNe hu)
end
end Mx

/-! M40: when repr tells; comprehensions that roll. -/
namespace Mx
open PySem L2
/-- shown in at most b signs, dp deep -/
def Sh (dp b : Nat) (d : D) : Prop := ∃ p, D.pyR d = some p ∧ p.showable = true ∧ p.depth ≤ dp ∧ p.shown.length ≤ b
theorem Sh.mono {dp dp' b b' : Nat} {d : D} (h : Sh dp b d) (h1 : dp ≤ dp') (h2 : b ≤ b') : Sh dp' b' d :=
  let ⟨p, e, s, g, l⟩ := h
  ⟨p, e, s, Nat.le_trans g h1, Nat.le_trans l h2⟩
theorem sh_all {dp b : Nat} : ∀ ds : List D, (∀ d ∈ ds, Sh dp b d) → ∃ ps, D.pyRL ds = some ps ∧ PyData.showableAll ps = true ∧ PyData.depthAll ps ≤ dp ∧ ((PyData.shownAll ps).map (·.length)).sum ≤ ds.length * b ∧ (PyData.shownAll ps).length = ds.length
  | [], _ => ⟨[], by rw [D.pyRL], rfl, by rw [PyData.depthAll]; exact Nat.zero_le _, by simp [PyData.shownAll], rfl⟩
  | d :: ds, h => by
    obtain ⟨p, e, s, g, l⟩ := h d List.mem_cons_self
    obtain ⟨ps, e2, s2, g2, l2, n2⟩ := sh_all ds fun x hx => h x (List.mem_cons_of_mem _ hx)
    refine ⟨p :: ps, by rw [D.pyRL, e, e2], by rw [PyData.showableAll, s, s2]; rfl, by rw [PyData.depthAll]; exact Nat.max_le.mpr ⟨g, g2⟩, ?_, by rw [PyData.shownAll, List.length_cons, n2, List.length_cons]⟩
    rw [PyData.shownAll, List.map_cons, List.sum_cons, List.length_cons, Nat.succ_mul]
    omega
theorem sh_lst {ds : List D} {dp b n : Nat} (h : ∀ d ∈ ds, Sh dp b d) (hn : ds.length ≤ n) : Sh (dp + 1) (n * (b + 2) + 3) (.lst ds) := by
  obtain ⟨ps, e, s, g, l, k⟩ := sh_all ds h
  refine ⟨.list ps, by rw [D.pyR, e], by rw [PyData.showable]; exact s, by rw [PyData.depth]; omega, ?_⟩
  have := listText_len_le (PyData.shownAll ps)
  rw [PyData.shown]
  have m1 : ds.length * b ≤ n * b := Nat.mul_le_mul_right _ hn
  rw [Nat.mul_add]
  omega
theorem sh_tup {ds : List D} {dp b n : Nat} (h : ∀ d ∈ ds, Sh dp b d) (hn : ds.length ≤ n) : Sh (dp + 1) (n * (b + 2) + 3) (.tup ds) := by
  obtain ⟨ps, e, s, g, l, k⟩ := sh_all ds h
  refine ⟨.tuple ps, by rw [D.pyR, e], by rw [PyData.showable]; exact s, by rw [PyData.depth]; omega, ?_⟩
  have := tupleText_len_le (PyData.shownAll ps)
  rw [PyData.shown]
  have m1 : ds.length * b ≤ n * b := Nat.mul_le_mul_right _ hn
  rw [Nat.mul_add]
  omega
theorem sh_str {x : Str} {n : Nat} (h : x.length ≤ n) (hc : (PyData.str x).canLay0 = true) : Sh 0 (15 * n + 13) (.str x) := by
  refine ⟨.str x, by rw [D.pyR], rfl, by rw [PyData.depth]; exact Nat.le_refl _, ?_⟩
  have := PyData.shown_le 13 (by decide) (.str x) (PyData.leavesShort_of_canLay0 13 _ hc rfl)
  have e : PyData.weight (.str x) = x.length := by rw [PyData.weight]; rfl
  rw [e] at this
  omega
theorem sh_int {i : Int} (h : i.natAbs < 10 ^ 12) : Sh 0 13 (.int i) := by
  refine ⟨.int i, by rw [D.pyR], ?_, by rw [PyData.depth]; exact Nat.le_refl _, PyData.shown_int_le h⟩
  rw [PyData.showable, decide_eq_true_eq]
  by_cases z : i.natAbs = 0
  · rw [z]; decide
  · have : i.natAbs.log2 < 40 := (Nat.log2_lt z).mpr (Nat.lt_of_lt_of_le h (by decide))
    omega
theorem rep_lst {ds : List D} {dp b : Nat} (h : Sh dp b (.lst ds)) (h1 : dp ≤ 100) (h2 : b ≤ 1000000) : ∃ t : Str, ∀ mem, gRep mem [.lst ds] = some (.str t) := by
  obtain ⟨p, e, s, g, l⟩ := h
  have ep : ∃ ps, p = .list ps := by
    rw [D.pyR] at e
    split at e
    · cases e; exact ⟨_, rfl⟩
    · cases e
  obtain ⟨ps, rfl⟩ := ep
  refine ⟨(PyData.list ps).shown, fun mem => ?_⟩
  have e2 : D.pyR (rdC mem (.lst ds)) = some (.list ps) := e
  have e3 : gRep mem [.lst ds] = gRepr mem [.lst ds] := rfl
  rw [e3]
  simp only [gRepr, e2]
  rw [if_pos ⟨s, Nat.le_trans g h1, Nat.le_trans l h2⟩]
theorem rep_cell {ds : List D} {k : Nat} {mem : Mem} (h : mem[k]? = some (.lst ds)) : gRep mem [.ref k] = gRep mem [.lst ds] := by
  have e1 : gRep mem [.ref k] = gRepr mem [.ref k] := rfl
  have e3 : gRep mem [.lst ds] = gRepr mem [.lst ds] := rfl
  rw [e1, e3]
  have r1 : rdC mem (.ref k) = .lst ds := by
    unfold rdC
    simp only [h]
  have r2 : rdC mem (.lst ds) = .lst ds := rfl
  simp only [gRepr, r1, r2]
/-- a comprehension whose deeds change the memory -/
theorem comp_go {g : Tg} {te : E1} {guard : Mem → Bool} {loc : Mx.Env} (I : Nat → Mem → Prop) (P : D → Prop) (hg : ∀ k mem, I k mem → guard mem = true) : ∀ (items : List D) (k : Nat) (mem : Mem), I k mem →
    (∀ d ∈ items, ∀ j mem, k ≤ j → j < k + items.length → I j mem → ∃ asg, g.asg mem d = some asg ∧ ∃ x m, te (setL loc asg) mem = .ok x m ∧ P x ∧ I (j + 1) m) →
    ∃ ds m, comp g bYes te guard items loc mem = .ok ds m ∧ ds.length = items.length ∧ (∀ x ∈ ds, P x) ∧ I (k + items.length) m
  | [], k, mem, h, _ => ⟨[], mem, by rw [comp, if_pos (hg _ _ h)], rfl, (fun x hx => by cases hx), h⟩
  | d :: ds, k, mem, h, st => by
    obtain ⟨asg, h1, x, m, h2, h3, h4⟩ := st d List.mem_cons_self k mem (Nat.le_refl _) (by rw [List.length_cons]; omega) h
    obtain ⟨xs, m2, e, el, hp, h5⟩ := comp_go I P hg ds (k + 1) m h4 fun d' hd' j mem' hj hj2 hi => st d' (List.mem_cons_of_mem _ hd') j mem' (by omega) (by rw [List.length_cons]; omega) hi
    refine ⟨x :: xs, m2, ?_, by rw [List.length_cons, el, List.length_cons], fun y hy => (List.mem_cons.mp hy).elim (fun z => z ▸ h3) (hp y), by rw [List.length_cons, show k + (ds.length + 1) = k + 1 + ds.length by omega]; exact h5⟩
    rw [comp, if_pos (hg _ _ h), h1]
    simp only [bYes, Res.bind, if_true, h2, e]
theorem lst1_of {a : E1} {loc : Mx.Env} {mem m1 : Mem} {x : D} (ha : a loc mem = .ok x m1) : eLst (lCons a lNil) loc mem = .ok (.lst [x]) m1 := by
  simp only [eLst, lCons, lNil, ha, Res.bind]
theorem lst2_of {a b : E1} {loc : Mx.Env} {mem m1 m2 : Mem} {x y : D} (ha : a loc mem = .ok x m1) (hb : b loc m1 = .ok y m2) : eLst (lCons a (lCons b lNil)) loc mem = .ok (.lst [x, y]) m2 := by
  simp only [eLst, lCons, lNil, ha, hb, Res.bind]
theorem tup1_of {a : E1} {loc : Mx.Env} {mem m1 : Mem} {x : D} (ha : a loc mem = .ok x m1) : eTup (lCons a lNil) loc mem = .ok (.tup [x]) m1 := by
  simp only [eTup, lCons, lNil, ha, Res.bind]
theorem tup2_of {a b : E1} {loc : Mx.Env} {mem m1 m2 : Mem} {x y : D} (ha : a loc mem = .ok x m1) (hb : b loc m1 = .ok y m2) : eTup (lCons a (lCons b lNil)) loc mem = .ok (.tup [x, y]) m2 := by
  simp only [eTup, lCons, lNil, ha, hb, Res.bind]
theorem tup3_of {a b c : E1} {loc : Mx.Env} {mem m1 m2 m3 : Mem} {x y z : D} (ha : a loc mem = .ok x m1) (hb : b loc m1 = .ok y m2) (hc : c loc m2 = .ok z m3) : eTup (lCons a (lCons b (lCons c lNil))) loc mem = .ok (.tup [x, y, z]) m3 := by
  simp only [eTup, lCons, lNil, ha, hb, hc, Res.bind]
theorem ift_of {c : EB} {a b : E1} {loc : Mx.Env} {mem m1 : Mem} (hc : c loc mem = .ok true m1) : eIf c a b loc mem = a loc m1 := by
  simp only [eIf, hc, Res.bind, if_true]
theorem iff_of {c : EB} {a b : E1} {loc : Mx.Env} {mem m1 : Mem} (hc : c loc mem = .ok false m1) : eIf c a b loc mem = b loc m1 := by
  simp only [eIf, hc, Res.bind, Bool.false_eq_true, if_false]
theorem par2_of {i j : Nat} {a b : E1} {loc : Mx.Env} {mem m1 m2 : Mem} {x y : D} (ha : a loc mem = .ok x m1) (hb : b loc m1 = .ok y m2) : sPar [i, j] (lCons a (lCons b lNil)) loc mem = .nx (setL loc [(i, x), (j, y)]) m2 := by
  simp only [sPar, lCons, lNil, ha, hb, Res.bind, Res.thenS]
  rfl
/-- a lambda handed to a def that catches -/
theorem lam_ok {j n : Nat} {P : Addr} {q : Str} {mE : E1} {k : Mx.D → Mx.Env → Mem → RS} {hs : List Hd} {mr : S1} {loc : Mx.Env} {mem m1 m2 : Mem} {d z : D} (h0 : mem[j]? = some (.tab P q)) (h1 : mE loc mem = .ok d m1) (h2 : finR mr (k d (List.replicate n none) m1) = .ok z m2) : eLam j P q mE k hs n mr loc mem = .ok z m2 := by
  simp only [eLam, h0, and_self, if_true, h1, h2]
theorem lam_ex {j n : Nat} {P : Addr} {q : Str} {mE : E1} {k : Mx.D → Mx.Env → Mem → RS} {hs : List Hd} {mr : S1} {loc : Mx.Env} {mem m1 m2 : Mem} {x : Ex} {z : D} (h0 : mem[j]? = some (.tab P q)) (h1 : mE loc mem = .ex x m1) (h2 : finR mr (runH hs x (List.replicate n none) m1) = .ok z m2) : eLam j P q mE k hs n mr loc mem = .ok z m2 := by
  simp only [eLam, h0, and_self, if_true, h1, h2]
end Mx

/-! M41: constants of a module, asked by one kernel run. -/
namespace Mx
open PySem L2
mutual
def valB (K : PySem.W.Frag) : D → Value → Bool
  | .int i, .int j _ => decide (i = j)
  | .str x, .str y _ => decide (x = y)
  | .bl b, .bool c => decide (b = c)
  | .non, .none => true
  | .tup ds, .ref a => match K.lookup a with
    | some ⟨.type "tuple", _, .seq its _, _⟩ => decide (its.size ≤ 1000) && valsB K ds its.toList
    | _ => false
  | _, _ => false
def valsB (K : PySem.W.Frag) : List D → List Value → Bool
  | [], [] => true
  | d :: ds, u :: us => valB K d u && valsB K ds us
  | _, _ => false
end
mutual
theorem val_of {K : PySem.W.Frag} : ∀ {d : D} {u : Value}, valB K d u = true → ∃ v, RelV v u ∧ ∀ α H, Rep K α H d v
  | .int i, u, h => by
    cases u with
    | int j t => rw [valB, decide_eq_true_eq] at h; subst h; exact ⟨.int i, ⟨t, rfl⟩, fun _ _ => .int i⟩
    | _ => simp [valB] at h
  | .str x, u, h => by
    cases u with
    | str j t => rw [valB, decide_eq_true_eq] at h; subst h; exact ⟨.str x, ⟨t, rfl⟩, fun _ _ => .str x⟩
    | _ => simp [valB] at h
  | .bl b, u, h => by
    cases u with
    | bool c => rw [valB, decide_eq_true_eq] at h; subst h; exact ⟨.bl b, rfl, fun _ _ => .bl b⟩
    | _ => simp [valB] at h
  | .non, u, h => by
    cases u with
    | none => exact ⟨.non, rfl, fun _ _ => .non⟩
    | _ => simp [valB] at h
  | .tup ds, u, h => by
    cases u with
    | ref a =>
      rw [valB] at h
      split at h
      · rename_i dc its n sl hk
        rw [Bool.and_eq_true, decide_eq_true_eq] at h
        obtain ⟨vs, h1, h2⟩ := vals_of h.2
        exact ⟨.ref a, rfl, fun α H => .tupK ⟨_, its, n, hk, rfl, rfl, small_of (Nat.le_trans h.1 (by decide)), h1⟩ (h2 α H)⟩
      · cases h
    | _ => simp [valB] at h
  | .lst _, u, h => by simp [valB] at h
  | .dic _, u, h => by simp [valB] at h
  | .ref _, u, h => by simp [valB] at h
  | .con _, u, h => by simp [valB] at h
  | .scr _, u, h => by simp [valB] at h
  | .exo _ _ _, u, h => by simp [valB] at h
theorem vals_of {K : PySem.W.Frag} : ∀ {ds : List D} {us : List Value}, valsB K ds us = true → ∃ vs, Vals vs us ∧ ∀ α H, RepL K α H ds vs
  | [], [], _ => ⟨[], .nil, fun _ _ => .nil⟩
  | [], _ :: _, h => by simp [valsB] at h
  | _ :: _, [], h => by simp [valsB] at h
  | d :: ds, u :: us, h => by
    rw [valsB, Bool.and_eq_true] at h
    obtain ⟨v, r1, p1⟩ := val_of h.1
    obtain ⟨vs, r2, p2⟩ := vals_of h.2
    exact ⟨v :: vs, .cons r1 r2, fun α H => .cons (p1 α H) (p2 α H)⟩
end
def gldB (K : PySem.W.Frag) (x : Str) (d : D) : Bool := match PySem.W.nsIn K mainGlobals x with
  | some (some u) => valB K d u
  | _ => false
theorem gld_of {K : PySem.W.Frag} {h : Heap} {mg : Str → Option Value} {x : Str} {d : D} (X : K.In h) (G : h.Ns mainGlobals mg) (e : gldB K x d = true) : GlD K mg x d := by
  unfold gldB at e
  split at e
  · rename_i u hu
    obtain ⟨v, r, p⟩ := val_of e
    exact ⟨v, u, PySem.W.mg_of X G hu, r, p⟩
  · cases e
/-- all names of a list are no globals -/
def nonB (K : PySem.W.Frag) (xs : List Str) : Bool := xs.all fun x => match PySem.W.nsIn K mainGlobals x with
  | some none => true
  | _ => false
theorem non_of {K : PySem.W.Frag} {h : Heap} {mg : Str → Option Value} {xs : List Str} (X : K.In h) (G : h.Ns mainGlobals mg) (e : nonB K xs = true) : ∀ x ∈ xs, mg x = none := fun x hx => by
  have := List.all_eq_true.mp e x hx
  split at this
  · rename_i hn
    exact PySem.W.mg_none_of X G hn
  · cases this
/-- the classes that names hold -/
def clsB (K : PySem.W.Frag) (xs : List (Str × Addr)) : Bool := xs.all fun p => match PySem.W.nsIn K mainGlobals p.1 with
  | some (some (.ref a)) => a == p.2
  | _ => false
theorem cls_of {K : PySem.W.Frag} {h : Heap} {mg : Str → Option Value} {xs : List (Str × Addr)} (X : K.In h) (G : h.Ns mainGlobals mg) (e : clsB K xs = true) : ∀ p ∈ xs, mg p.1 = some (.ref p.2) := fun p hp => by
  have := List.all_eq_true.mp e p hp
  split at this
  · rename_i a ha
    rw [beq_iff_eq] at this
    subst this
    exact PySem.W.mg_of X G ha
  · cases this
end Mx

/-! M42: texts: split, partition, join, startswith, upper, int, str, f-strings, *, <=. -/
namespace Mx
open PySem L2 PyProof.Rows
theorem repL_strs {K : PySem.W.Frag} {α : Ad} {H : Hp} : ∀ ys : List Str, RepL K α H (ys.map D.str) (ys.map V.str)
  | [] => .nil
  | y :: ys => .cons (.str y) (repL_strs ys)
def strsOf : List D → Option (List Str)
  | [] => some []
  | .str x :: ds => (strsOf ds).map (x :: ·)
  | _ :: _ => none
theorem strsOf_map : ∀ ys : List Str, strsOf (ys.map D.str) = some ys
  | [] => rfl
  | y :: ys => by rw [List.map_cons, strsOf, strsOf_map ys]; rfl
theorem strsOf_is : ∀ {ds : List D} {ys : List Str}, strsOf ds = some ys → ds = ys.map D.str
  | [], ys, h => by cases h; rfl
  | d :: ds, ys, h => by
    cases d with
    | str x =>
      rw [strsOf] at h
      cases e : strsOf ds with
      | none => rw [e] at h; cases h
      | some zs => rw [e] at h; cases h; rw [strsOf_is e]; rfl
    | _ => cases h
theorem repL_strs_is {K : PySem.W.Frag} {α : Ad} {H : Hp} : ∀ {ys : List Str} {xs : List V}, RepL K α H (ys.map D.str) xs → xs = ys.map V.str
  | [], _, .nil => rfl
  | y :: ys, _, .cons r rs => by cases r; rw [repL_strs_is rs]; rfl
section
variable {X : Cx} {W : WX}
def gSplit : OpD := pu fun _ ds => match ds with
  | [.str a, .str b] => if (b.length == 0) = false ∧ a.length ≤ 1000000 then some (.lst ((Txt.split a b).map D.str)) else none
  | _ => none
theorem mt_gSplit : MtR X "str.split" (fun x xs H Q => rB X.K gSplit (x :: xs) H Q) := by
  intro pins s σ H x xs v us Q I rx rxs ⟨α, mem, ds, z, mem', hm, hr, hg, q⟩
  unfold gSplit pu at hg
  dsimp only at hg
  split at hg
  · rename_i a b
    split at hg
    · rename_i hc
      cases hg
      cases hr with
      | cons r1 hr =>
        cases hr with
        | cons r2 hr =>
          cases hr
          cases r1
          cases r2
          refine mt_split pins s σ H _ _ v us Q I rx rxs ⟨a, b, rfl, rfl, hc.1, by have := hc.2; rw [sizeLine_eq]; omega, fun p np => ?_⟩
          have sm := same_new (o := .lst ((Txt.split a b).map V.str)) np
          exact q α _ _ (Lt.same sm) (hm.same sm) (.lst (hm.fresh np) upd_same (repL_strs _))
    · cases hg
  · cases hg
def gPart : OpD := pu fun _ ds => match ds with
  | [.str a, .str b] => if (b.length == 0) = false ∧ a.length ≤ 1000000 then some (.tup [.str (Txt.partition a b).1, .str (Txt.partition a b).2.1, .str (Txt.partition a b).2.2]) else none
  | _ => none
theorem mt_gPart : MtR X "str.partition" (fun x xs H Q => rB X.K gPart (x :: xs) H Q) := by
  intro pins s σ H x xs v us Q I rx rxs ⟨α, mem, ds, z, mem', hm, hr, hg, q⟩
  unfold gPart pu at hg
  dsimp only at hg
  split at hg
  · rename_i a b
    split at hg
    · rename_i hc
      cases hg
      cases hr with
      | cons r1 hr =>
        cases hr with
        | cons r2 hr =>
          cases hr
          cases r1
          cases r2
          refine mt_partition pins s σ H _ _ v us Q I rx rxs ⟨a, b, rfl, rfl, hc.1, by have := hc.2; rw [sizeLine_eq]; omega, fun p np => ?_⟩
          have sm := same_new (o := .tup [.str (Txt.partition a b).1, .str (Txt.partition a b).2.1, .str (Txt.partition a b).2.2]) np
          exact q α _ _ (Lt.same sm) (hm.same sm) (.tup (hm.fresh np) (.inl upd_same) (.cons (.str _) (.cons (.str _) (.cons (.str _) .nil))))
    · cases hg
  · cases hg
def gStarts : OpD := pu fun _ ds => match ds with
  | [.str a, .str b] => some (.bl (Txt.startswith a b))
  | _ => none
theorem mt_gStarts : MtR X "str.startswith" (fun x xs H Q => rB X.K gStarts (x :: xs) H Q) := by
  intro pins s σ H x xs v us Q I rx rxs ⟨α, mem, ds, z, mem', hm, hr, hg, q⟩
  unfold gStarts pu at hg
  dsimp only at hg
  split at hg
  · rename_i a b
    cases hg
    cases hr with
    | cons r1 hr =>
      cases hr with
      | cons r2 hr =>
        cases hr
        cases r1
        cases r2
        exact mt_startswith pins s σ H _ _ v us Q I rx rxs ⟨a, b, rfl, rfl, q α H _ (Lt.refl _ _) hm (.bl _)⟩
  · cases hg
def gJoin : OpD := pu fun mem ds => match ds with
  | [.str a, x] => match seqOf mem x with
    | some es => match strsOf es with
      | some ys => if (ys.map (·.length)).sum + ys.length * a.length ≤ 1000000 then some (.str (Txt.join a ys)) else none
      | none => none
    | none => none
  | _ => none
theorem mt_gJoin : MtR X "str.join" (fun x xs H Q => rB X.K gJoin (x :: xs) H Q) := by
  intro pins s σ H x xs v us Q I rx rxs ⟨α, mem, ds, z, mem', hm, hr, hg, q⟩
  unfold gJoin pu at hg
  dsimp only at hg
  split at hg
  · rename_i a y
    cases e1 : seqOf mem y with
    | none => rw [e1] at hg; cases hg
    | some es =>
      rw [e1] at hg
      dsimp only at hg
      cases e2 : strsOf es with
      | none => rw [e2] at hg; cases hg
      | some ys =>
        rw [e2] at hg
        dsimp only at hg
        split at hg
        · rename_i hc
          cases hg
          cases hr with
          | cons r1 hr =>
            cases hr with
            | cons r2 hr =>
              cases hr
              cases r1
              obtain ⟨p, zs, rfl, hs, hl⟩ := seqOf_at hm r2 e1
              rw [strsOf_is e2] at hl
              rw [repL_strs_is hl] at hs
              exact mt_join pins s σ H _ _ v us Q I rx rxs ⟨a, p, ys, rfl, rfl, hs.imp id And.left, by omega, q α H _ (Lt.refl _ _) hm (.str _)⟩
        · cases hg
  · cases hg
def gUpper : OpD := pu fun _ ds => match ds with
  | [.str a] => if a.length ≤ 1000000 then some (.str (Txt.upper a)) else none
  | _ => none
theorem mt_gUpper : MtR X "str.upper" (fun x xs H Q => rB X.K gUpper (x :: xs) H Q) := by
  intro pins s σ H x xs v us Q I rx rxs ⟨α, mem, ds, z, mem', hm, hr, hg, q⟩
  unfold gUpper pu at hg
  dsimp only at hg
  split at hg
  · rename_i a
    split at hg
    · rename_i hc
      cases hg
      cases hr with
      | cons r1 hr =>
        cases hr
        cases r1
        exact mt_upper pins s σ H _ _ v us Q I rx rxs ⟨a, rfl, rfl, by omega, q α H _ (Lt.refl _ _) hm (.str _)⟩
    · cases hg
  · cases hg
variable {e o : Expr} {mo : E1} {ml : EL} {apos pos : Pos}
theorem me_split (ho : ME X W o mo) (ha : ML X W [e] ml) (hbase : attributeBase o "split" X.env (eval o X.env) = eval o X.env := by rfl)
    (hfew : ((backTo pos (starEach [e] X.env)).all (fun x => !x.1) && (backToKw pos (keywordEach [] X.env)).all (fun x => x.1.isSome) && decide ([e].length + ([] : List Keyword).length + (if ([] : List Keyword).isEmpty then 0 else 1) < 30)) = true := by rfl)
    (hline : (apos.endLine == pos.line) = true := by rfl) (hs : starEach [e] X.env = (false, eval e X.env) :: starEach [] X.env := by rfl) (hplain : (backTo pos (starEach [] X.env)).any (·.1) = false := by rfl) : ME X W (.Call (.Attribute o "split" apos) [e] [] pos) (eM tyS gSplit mo ml) :=
  me_bm ty_str (pe_bm F.plainAttrs_str F.slot_str_split F.type_str_split mt_gSplit ho.pe ha.pa hbase hfew hline hs hplain)
theorem me_partition (ho : ME X W o mo) (ha : ML X W [e] ml) (hbase : attributeBase o "partition" X.env (eval o X.env) = eval o X.env := by rfl)
    (hfew : ((backTo pos (starEach [e] X.env)).all (fun x => !x.1) && (backToKw pos (keywordEach [] X.env)).all (fun x => x.1.isSome) && decide ([e].length + ([] : List Keyword).length + (if ([] : List Keyword).isEmpty then 0 else 1) < 30)) = true := by rfl)
    (hline : (apos.endLine == pos.line) = true := by rfl) (hs : starEach [e] X.env = (false, eval e X.env) :: starEach [] X.env := by rfl) (hplain : (backTo pos (starEach [] X.env)).any (·.1) = false := by rfl) : ME X W (.Call (.Attribute o "partition" apos) [e] [] pos) (eM tyS gPart mo ml) :=
  me_bm ty_str (pe_bm F.plainAttrs_str F.slot_str_partition F.type_str_partition mt_gPart ho.pe ha.pa hbase hfew hline hs hplain)
theorem me_startswith (ho : ME X W o mo) (ha : ML X W [e] ml) (hbase : attributeBase o "startswith" X.env (eval o X.env) = eval o X.env := by rfl)
    (hfew : ((backTo pos (starEach [e] X.env)).all (fun x => !x.1) && (backToKw pos (keywordEach [] X.env)).all (fun x => x.1.isSome) && decide ([e].length + ([] : List Keyword).length + (if ([] : List Keyword).isEmpty then 0 else 1) < 30)) = true := by rfl)
    (hline : (apos.endLine == pos.line) = true := by rfl) (hs : starEach [e] X.env = (false, eval e X.env) :: starEach [] X.env := by rfl) (hplain : (backTo pos (starEach [] X.env)).any (·.1) = false := by rfl) : ME X W (.Call (.Attribute o "startswith" apos) [e] [] pos) (eM tyS gStarts mo ml) :=
  me_bm ty_str (pe_bm F.plainAttrs_str F.slot_str_startswith F.type_str_startswith mt_gStarts ho.pe ha.pa hbase hfew hline hs hplain)
theorem me_join (ho : ME X W o mo) (ha : ML X W [e] ml) (hbase : attributeBase o "join" X.env (eval o X.env) = eval o X.env := by rfl)
    (hfew : ((backTo pos (starEach [e] X.env)).all (fun x => !x.1) && (backToKw pos (keywordEach [] X.env)).all (fun x => x.1.isSome) && decide ([e].length + ([] : List Keyword).length + (if ([] : List Keyword).isEmpty then 0 else 1) < 30)) = true := by rfl)
    (hline : (apos.endLine == pos.line) = true := by rfl) (hs : starEach [e] X.env = (false, eval e X.env) :: starEach [] X.env := by rfl) (hplain : (backTo pos (starEach [] X.env)).any (·.1) = false := by rfl) : ME X W (.Call (.Attribute o "join" apos) [e] [] pos) (eM tyS gJoin mo ml) :=
  me_bm ty_str (pe_bm F.plainAttrs_str F.slot_str_join F.type_str_join mt_gJoin ho.pe ha.pa hbase hfew hline hs hplain)
end
section
variable {X : Cx} {W : WX} {pos : Pos}
def gIntS : OpP := fun _ ds => match ds with
  | [.str a] => match PySem.intText? a with
    | some n => if a.length ≤ 640 then some (.int n) else none
    | none => none
  | _ => none
theorem call_gIntS : CallR X (.type "int") (rB X.K (pu gIntS)) := callP fun pins s σ H xs us Q α mem ds z I rv hm hr hg q => by
  unfold gIntS at hg
  split at hg
  · rename_i a
    cases e : PySem.intText? a with
    | none => rw [e] at hg; cases hg
    | some n =>
      rw [e] at hg
      dsimp only at hg
      split at hg
      · rename_i hc
        cases hg
        cases hr with
        | cons r1 hr =>
          cases hr
          cases r1
          exact call_int_str pins s σ H _ us Q I rv ⟨a, n, rfl, e, hc, q H _ (Same.refl _) (.int _)⟩
      · cases hg
  · cases hg
def gIntA : OpP := orG gInt1 gIntS
theorem call_gIntA : CallR X (.type "int") (rB X.K (pu gIntA)) := call_or call_gInt1 call_gIntS
def gStrI : OpP := fun _ ds => match ds with
  | [.int i] => if i.natAbs.log2 < 1920 then some (.str (toString i)) else none
  | _ => none
theorem call_gStrI : CallR X (.type "str") (rB X.K (pu gStrI)) := callP fun pins s σ H xs us Q α mem ds z I rv hm hr hg q => by
  unfold gStrI at hg
  split at hg
  · rename_i i
    split at hg
    · rename_i hc
      cases hg
      cases hr with
      | cons r1 hr =>
        cases hr
        cases r1
        exact call_str_int pins s σ H _ us Q I rv ⟨i, rfl, hc, q H _ (Same.refl _) (.str _)⟩
    · cases hg
  · cases hg
/-! order of texts -/
def gLeS : OpP := fun _ ds => match ds with
  | [.str a, .str b] => some (.bl (!decide (b.cps.toList < a.cps.toList)))
  | _ => none
theorem op_gLeS : OpR X (compareOp .LtE) (rB2 X.K (pu gLeS)) := opP fun pins s σ H x y v u Q α mem d e z I rx ry hm r1 r2 hg q => by
  unfold gLeS at hg
  split at hg
  · rename_i a b h
    cases h
    cases hg
    cases r1
    cases r2
    exact op_le_str pins s σ H _ _ v u Q I rx ry ⟨a, b, rfl, rfl, q H _ (Same.refl _) (.bl _)⟩
  · cases hg
def gLeA : OpP := orG gLe gLeS
theorem op_gLeA : OpR X (compareOp .LtE) (rB2 X.K (pu gLeA)) := op_or op_gLe op_gLeS
/-! a text, so many times -/
def repS (x : Str) (n : Int) : Str := if n < 1 then Str.empty else if (n == 1 || x.length == 0) = true then x else ⟨(List.replicate n.toNat x.cps).foldl (· ++ ·) #[]⟩
def gMulS : OpP := fun _ ds => match ds with
  | [.str x, .int n] => if n ≤ 100000 ∧ -100000 ≤ n ∧ x.length * n.toNat ≤ 1000000 then some (.str (repS x n)) else none
  | _ => none
end
end Mx

/-! M43: text * int, text[::-1], f-strings. -/
namespace Mx
open PySem L2 PyProof.Rows
theorem fold_rep (c : Array Nat) : ∀ (n : Nat) (acc : Array Nat), ((List.replicate n c).foldl (· ++ ·) acc).toList = acc.toList ++ (List.replicate n c.toList).flatten
  | 0, acc => by simp
  | n + 1, acc => by
    rw [List.replicate_succ, List.foldl_cons, fold_rep c n, List.replicate_succ, List.flatten_cons]
    simp
theorem repS_tl (x : Str) (n : Int) : (repS x n).cps.toList = (List.replicate n.toNat x.cps.toList).flatten := by
  unfold repS
  split
  · rename_i h
    rw [show n.toNat = 0 by omega]
    rfl
  · split
    · rename_i h1 h2
      rw [Bool.or_eq_true, beq_iff_eq, beq_iff_eq] at h2
      rcases h2 with h2 | h2
      · subst h2
        simp
      · have e : x.cps.toList = [] := List.eq_nil_of_length_eq_zero (by rw [Array.length_toList]; exact h2)
        rw [e]
        simp
    · exact fold_rep x.cps n.toNat #[]
theorem flat_len (l : List Nat) : ∀ n : Nat, (List.replicate n l).flatten.length = n * l.length
  | 0 => by simp
  | n + 1 => by rw [List.replicate_succ, List.flatten_cons, List.length_append, flat_len l n, Nat.succ_mul]; omega
theorem repS_len (x : Str) (n : Int) : (repS x n).length = n.toNat * x.length := by
  show (repS x n).cps.size = _
  rw [← Array.length_toList, repS_tl, flat_len, Array.length_toList]
  rfl
section
variable {X : Cx} {W : WX} {pos : Pos}
theorem op_gMulS : OpR X (binaryOp .Mult) (rB2 X.K (pu gMulS)) := opP fun pins s σ H x y v u Q α mem d e z I rx ry hm r1 r2 hg q => by
  unfold gMulS at hg
  split at hg
  · rename_i a n h
    cases h
    split at hg
    · rename_i hc
      cases hg
      cases r1
      cases r2
      obtain ⟨t, rfl⟩ := rx
      obtain ⟨t', rfl⟩ := ry
      have key : Q (.str (repS a n)) H := q H _ (Same.refl _) (.str _)
      have hlen := repS_len a n
      have e63 : (2 : Int) ^ 63 = 9223372036854775808 := by decide
      refine PySem.P.mul_str (by rw [e63, decide_eq_false (by omega), decide_eq_false (by omega)]; rfl) (fun h1 _ => ?_) (fun h1 _ => ?_) ?_
      · rw [e63]
        have : (a.length : Int) ≤ (9223372036854775808 - 1) / n := by
          refine (Int.le_ediv_iff_mul_le (by omega)).mpr ?_
          have h3 : a.length * n.toNat ≤ 1000000 := hc.2.2
          have h4 : ((a.length * n.toNat : Nat) : Int) = (a.length : Int) * n := by rw [Int.natCast_mul, Int.toNat_of_nonneg (by omega)]
          rw [← h4]
          have : ((a.length * n.toNat : Nat) : Int) ≤ ((1000000 : Nat) : Int) := Int.ofNat_le.mpr h3
          omega
        omega
      · show decide (a.length * n.toNat > sizeLine) = false
        rw [decide_eq_false_iff_not, sizeLine_eq]
        have := hc.2.2
        omega
      · unfold repS at key hlen
        split
        · rename_i h1
          rw [if_pos h1] at key
          exact ⟨Nat.zero_le _, .str _, H, I.tok _, ⟨_, rfl⟩, key⟩
        · rename_i h1
          rw [if_neg h1] at key hlen
          split
          · rename_i h2
            rw [if_pos h2] at key
            exact ⟨.str _, H, I.tok _, ⟨_, rfl⟩, key⟩
          · rename_i h2
            rw [if_neg h2] at key hlen
            refine ⟨?_, .str _, H, I.tok _, ⟨_, rfl⟩, key⟩
            rw [hlen, sizeLine_eq, Nat.mul_comm]
            have := hc.2.2
            omega
    · cases hg
  · cases hg
def gMulA : OpP := orG gMul gMulS
theorem op_gMulA : OpR X (binaryOp .Mult) (rB2 X.K (pu gMulA)) := op_or op_gMul op_gMulS
/-! z[::-1] -/
def revS (z : Str) : Str := ⟨z.cps.toList.reverse.toArray⟩
theorem picked_rev (z : Str) (tk : Tok) : ((slicePicked z none none (some (-1, tk))).filterMap (z.cps[·]?)).toArray = z.cps.toList.reverse.toArray := by
  have e : slicePicked z none none (some (-1, tk)) = sliceRange ((z.cps.size : Int) - 1) (-1) (-1) := rfl
  rw [e, PySem.W.krv_sliceRange, PySem.W.krv_range, List.filterMap_reverse, PySem.W.krv_all]
def tRevS (te : TE) : TE := fun σ H Q => te σ H fun x H1 => ∃ z, x = .str z ∧ z.length ≤ sizeLine ∧ Q (.str (revS z)) H1
theorem pe_revS {e : Expr} {te : TE} {k : Nat} {p1 p2 p3 pos : Pos} (he : PE X e te) : PE X (.Subscript e (.Slice none none (some (.UnaryOp .USub (.Constant (.int 1) k p1) p2)) p3) pos) (tRevS te) := by
  refine ⟨fun pins s σ H Q I h => ?_⟩
  refine Subscript_ (thn (he.run pins s σ H _ I h) fun v s1 ⟨x, H1, I1, r1, q1⟩ => ?_)
  obtain ⟨z, ez, hz, q⟩ := q1
  subst ez
  obtain ⟨tz, rfl⟩ := r1
  have hst : PO X (some (.UnaryOp .USub (.Constant (.int 1) k p1) p2)) (tPart (tUn (rU fun i => .int (-i)) (tC (.int 1)))) := po_some (pe_un un_neg pe_int)
  refine wpAny_Slice (thn (po_none.run pins s1 σ H1 (fun o H2 => o = none ∧ H2 = H1) I1 ⟨rfl, rfl⟩) fun vl s2 ⟨l, H2, I2, pl, el, e2⟩ => ?_)
  subst el e2
  refine thn (po_none.run pins s2 σ H2 (fun o H3 => o = none ∧ H3 = H2) I2 ⟨rfl, rfl⟩) fun vu s3 ⟨u, H3, I3, pu, eu, e3⟩ => ?_
  subst eu e3
  refine thn (hst.run pins s3 σ H3 (fun o H4 => o = some (-1) ∧ H4 = H3) I3 ⟨1, rfl, -1, rfl, rfl, rfl⟩) fun vs s4 ⟨o, H4, I4, ps, eo, e4⟩ => ?_
  subst eo e4
  have I5 : Inv X pins σ H4 { s4 with heap := s4.heap.push { cls := .type "slice", data := .fields #[vl, vu, vs] } } := I4.kept (t' := s4.toks) fun b ob q => Heap.get?_push_of_some _ q
  obtain ⟨l1, rfl, el1⟩ := IsPart.raw pl
  obtain ⟨u1, rfl, eu1⟩ := IsPart.raw pu
  obtain ⟨t1, rfl, et1⟩ := IsPart.raw ps
  have hl1 : l1 = none := by cases l1 with | none => rfl | some _ => cases el1
  have hu1 : u1 = none := by cases u1 with | none => rfl | some _ => cases eu1
  obtain ⟨tk, rfl⟩ : ∃ tk, t1 = some (-1, tk) := by
    cases t1 with
    | none => cases et1
    | some p => obtain ⟨i, tk⟩ := p; cases et1; exact ⟨tk, rfl⟩
  subst hl1 hu1
  show wpAny (model X.prog X.w) X.A (subscriptTail e (.Slice none none (some (.UnaryOp .USub (.Constant (.int 1) k p1) p2)) p3) (.str z tz) (.ref s4.heap.objs.size)) (EP X pins σ Q) X.xe _
  refine tail_any (ops := [.str z tz, .ref s4.heap.objs.size]) (typeIs_str _ _ _) F.slot_str_getitem.lookup ?_ (by with_unfolding_all rfl)
  refine wpAny_getItem_str_slice (l := none) (u := none) (st := some (-1, tk)) ⟨_, Heap.get?_push_size _ rfl, rfl, rfl⟩ rfl ?_
  unfold sliceMade
  rw [if_neg (by show ¬ (((-1 : Int) == 1 && _) = true); simp), picked_rev]
  refine ⟨?_, .str _, H4, I5.tok _, ⟨_, rfl⟩, q⟩
  show (z.cps.toList.reverse.toArray).size ≤ sizeLine
  rw [List.size_toArray, List.length_reverse, Array.length_toList]
  exact hz
def gRev : OpP := fun _ ds => match ds with
  | [.str z] => if z.length ≤ 1000000 then some (.str (revS z)) else none
  | _ => none
theorem me_revS {e : Expr} {m : E1} {k : Nat} {p1 p2 p3 pos : Pos} (he : ME X W e m) : ME X W (.Subscript e (.Slice none none (some (.UnaryOp .USub (.Constant (.int 1) k p1) p2)) p3) pos) (e1 (pu gRev) m) := ⟨PE.imp (pe_revS he.pe) fun σ H Q h => by
  obtain ⟨α, loc, mem, hm, hl, hp⟩ := h
  refine tG_go hm hl hp fun α1 H1 m1 d v l1 hm1 hl1 hr1 hp1 => ?_
  unfold pu gRev at hp1
  cases d with
  | str z =>
    cases hr1
    dsimp only at hp1
    by_cases hz : z.length ≤ 1000000
    · rw [if_pos hz] at hp1
      exact ⟨z, rfl, by rw [sizeLine_eq]; omega, hp1 α1 H1 _ (Lt.refl _ _) hm1 (.str _)⟩
    · rw [if_neg hz] at hp1
      exact hp1.elim
  | _ => exact hp1.elim⟩
/-! f-strings -/
def gFmt : OpP := fun _ ds => match ds with
  | [.str y] => if y.length ≤ 1000000 then some (.str y) else none
  | [.int i] => if i.natAbs.log2 < 1920 then some (.str (toString i)) else none
  | _ => none
theorem me_fmt {e : Expr} {m : E1} {pos : Pos} (he : ME X W e m) : ME X W (.FormattedValue e (-1) none pos) (e1 (pu gFmt) m) := ⟨PE.imp (pe_fmt he.pe) fun σ H Q h => by
  obtain ⟨α, loc, mem, hm, hl, hp⟩ := h
  refine tG_go hm hl hp fun α1 H1 m1 d v l1 hm1 hl1 hr1 hp1 => ?_
  unfold pu gFmt at hp1
  cases d with
  | str z =>
    cases hr1
    dsimp only at hp1
    by_cases hz : z.length ≤ 1000000
    · rw [if_pos hz] at hp1
      exact .inl ⟨z, rfl, by rw [sizeLine_eq]; omega, hp1 α1 H1 _ (Lt.refl _ _) hm1 (.str _)⟩
    · rw [if_neg hz] at hp1
      exact hp1.elim
  | int i =>
    cases hr1
    dsimp only at hp1
    by_cases hz : i.natAbs.log2 < 1920
    · rw [if_pos hz] at hp1
      exact .inr ⟨i, rfl, hz, hp1 α1 H1 _ (Lt.refl _ _) hm1 (.str _)⟩
    · rw [if_neg hz] at hp1
      exact hp1.elim
  | _ => exact hp1.elim⟩
/-- the parts' texts one behind the other -/
def eJ : List E1 → Str → E1
  | [], acc => fun _ mem => .ok (.str acc) mem
  | m :: ms, acc => fun loc mem => (m loc mem).bind fun x m1 => match x with
    | .str y => if (acc ++ y).length ≤ 1000000 then eJ ms (acc ++ y) loc m1 else .bad
    | _ => .bad
inductive MJ (X : Cx) (W : WX) : List Expr → List E1 → Prop
  | nil : MJ X W [] []
  | cons {e : Expr} {m : E1} {es : List Expr} {ms : List E1} (h : ME X W e m) (r : MJ X W es ms) : MJ X W (e :: es) (m :: ms)
theorem mj_run {es : List Expr} {ms : List E1} (h : MJ X W es ms) : ∃ ts, PJ X es ts ∧ ∀ (acc : Str) (σ : L2.St) (H : Hp) (Q : VK), tE X.K (eJ ms acc) W σ H Q → tJs ts acc σ H fun x H' => Q (.str x) H' := by
  induction h with
  | nil =>
    refine ⟨[], .nil, fun acc σ H Q ⟨α, loc, mem, hm, hl, hp⟩ => ?_⟩
    exact hp α H _ (Lt.refl _ _) hm (.str acc)
  | @cons e m es ms h r ih =>
    obtain ⟨ts, pj, k⟩ := ih
    refine ⟨_ :: ts, .cons h.pe pj, fun acc σ H Q ⟨α, loc, mem, hm, hl, hp⟩ => ?_⟩
    refine tG_go hm hl hp fun α1 H1 m1 d v l1 hm1 hl1 hr1 hp1 => ?_
    cases d with
    | str y =>
      cases hr1
      dsimp only at hp1
      by_cases hz : (acc ++ y).length ≤ 1000000
      · rw [if_pos hz] at hp1
        exact ⟨y, rfl, by rw [sizeLine_eq]; omega, k (acc ++ y) σ H1 Q ⟨α1, loc, m1, hm1, hl1, hp1⟩⟩
      · rw [if_neg hz] at hp1
        exact hp1.elim
    | _ => exact hp1.elim
theorem me_joined {v1 v2 : Expr} {rest : List Expr} {ms : List E1} {pos : Pos} (h : MJ X W (v1 :: v2 :: rest) ms) : ME X W (.JoinedStr (v1 :: v2 :: rest) pos) (eJ ms Str.empty) :=
  let ⟨_, pj, k⟩ := mj_run h
  ⟨PE.imp (pe_joined pj) fun σ H Q q => k Str.empty σ H Q q⟩
end
end Mx

/-! M44: a dict of the module whose keys are texts: d[k], d.items(). -/
namespace Mx
open PySem L2 PySem.Spec PyProof.Rows
def enB (K : PySem.W.Frag) : List DictEntry → List (Str × D) → Bool
  | [], [] => true
  | e :: es, (x, d) :: r => (match e.key with
    | .str y _ => decide (y = x)
    | _ => false) && (valB K d e.val && enB K es r)
  | _, _ => false
/-- the global nm holds a written dict -/
structure KDc (K : PySem.W.Frag) (w : World) (mg : Str → Option Value) (nm : Str) (kvs : List (Str × D)) : Prop where
  ex : ∃ (a : Addr) (es : Array DictEntry) (n : Nat), mg nm = some (.ref a) ∧ K.lookup a = some ⟨.type "dict", none, .dict es n, #[]⟩ ∧ PySem.W.KeysLit w.params es.toList ∧ (a == sysModules) = false ∧ enB K es.toList kvs = true ∧ (kvs.map (·.1)).Nodup
/-- the entries stand for the data -/
inductive EnR (K : PySem.W.Frag) (P : Program) (w : World) : List DictEntry → List (Str × D) → List (Str × Value) → List (Str × V) → Prop
  | nil : EnR K P w [] [] [] []
  | cons {e : DictEntry} {x : Str} {d : D} {u : Value} {v : V} {es kvs us vs} : (strKind P w).is x e.key = true → e.val = u → RelV v u → (∀ α H, Rep K α H d v) → EnR K P w es kvs us vs → EnR K P w (e :: es) ((x, d) :: kvs) ((x, u) :: us) ((x, v) :: vs)
theorem enR_of {K : PySem.W.Frag} {P : Program} {w : World} : ∀ {es : List DictEntry} {kvs : List (Str × D)}, enB K es kvs = true → ∃ us vs, EnR K P w es kvs us vs
  | [], [], _ => ⟨[], [], .nil⟩
  | [], _ :: _, h => by simp [enB] at h
  | _ :: _, [], h => by simp [enB] at h
  | e :: es, (x, d) :: r, h => by
    simp only [enB, Bool.and_eq_true] at h
    obtain ⟨h1, h2, h3⟩ := h
    obtain ⟨us, vs, q⟩ := enR_of (P := P) (w := w) h3
    obtain ⟨v, rv, rp⟩ := val_of h2
    refine ⟨(x, e.val) :: us, (x, v) :: vs, .cons ?_ rfl rv rp q⟩
    split at h1
    · rename_i y t ek
      rw [ek]
      have e1 : y = x := of_decide_eq_true h1
      rw [e1]
      exact strKind_is P w x t
    · cases h1
section
variable {K : PySem.W.Frag} {P : Program} {w : World} {es : List DictEntry} {kvs : List (Str × D)} {us : List (Str × Value)} {vs : List (Str × V)}
theorem EnR.pairs : ∀ {es : List DictEntry} {kvs : List (Str × D)} {us : List (Str × Value)} {vs : List (Str × V)}, EnR K P w es kvs us vs → Pairs (strKind P w) es us
  | _, _, _, _, .nil => .nil
  | _, _, _, _, .cons h1 h2 _ _ t => .cons h1 h2 t.pairs
theorem EnR.keys : ∀ {es : List DictEntry} {kvs : List (Str × D)} {us : List (Str × Value)} {vs : List (Str × V)}, EnR K P w es kvs us vs → us.map (·.1) = kvs.map (·.1)
  | _, _, _, _, .nil => rfl
  | _, _, _, _, .cons _ _ _ _ t => by simp only [List.map_cons]; rw [t.keys]
theorem EnR.len : ∀ {es : List DictEntry} {kvs : List (Str × D)} {us : List (Str × Value)} {vs : List (Str × V)}, EnR K P w es kvs us vs → kvs.length = vs.length ∧ us.length = vs.length
  | _, _, _, _, .nil => ⟨rfl, rfl⟩
  | _, _, _, _, .cons _ _ _ _ t => ⟨congrArg (· + 1) t.len.1, congrArg (· + 1) t.len.2⟩
theorem EnR.get : ∀ {es : List DictEntry} {kvs : List (Str × D)} {us : List (Str × Value)} {vs : List (Str × V)} {i : Nat} {x : Str} {v : V}, EnR K P w es kvs us vs → vs[i]? = some (x, v) → ∃ u d, us[i]? = some (x, u) ∧ kvs[i]? = some (x, d) ∧ RelV v u ∧ ∀ α H, Rep K α H d v
  | _, _, _, _, _, _, _, .nil, h => by simp at h
  | _, _, _, _, 0, _, _, .cons h1 h2 h3 h4 t, h => by
    simp only [List.getElem?_cons_zero, Option.some.injEq, Prod.mk.injEq] at h
    obtain ⟨rfl, rfl⟩ := h
    exact ⟨_, _, rfl, rfl, h3, h4⟩
  | _, _, _, _, i + 1, _, _, .cons h1 h2 h3 h4 t, h => by
    simp only [List.getElem?_cons_succ] at h ⊢
    exact t.get h
theorem EnR.find : ∀ {es : List DictEntry} {kvs : List (Str × D)} {us : List (Str × Value)} {vs : List (Str × V)} {z : Str} {d : D}, EnR K P w es kvs us vs → kvs.lookup z = some d → ∃ u v, (es.find? fun e => Value.isStrOf z e.key).map (·.val) = some u ∧ RelV v u ∧ ∀ α H, Rep K α H d v
  | _, _, _, _, _, _, .nil, h => by simp at h
  | _, _, _, _, z, d, .cons (x := x) h1 h2 h3 h4 t, h => by
    have his : Value.isStrOf z _ = decide (z = x) := KeyKind.is_eq_decide (knd := strKind P w) h1 z
    simp only [List.find?_cons, his]
    simp only [List.lookup] at h
    by_cases hz : z = x
    · subst hz
      simp only [beq_self_eq_true] at h
      cases h
      exact ⟨_, _, by simp only [decide_true]; exact congrArg some h2, h3, h4⟩
    · rw [show (z == x) = false from by simp [hz]] at h
      simp only [decide_eq_false hz]
      exact t.find h
theorem dictAt_of {h : Heap} {a : Addr} {es : Array DictEntry} {n : Nat} (X : K.In h) (hl : K.lookup a = some ⟨.type "dict", none, .dict es n, #[]⟩) (hk : PySem.W.KeysLit w.params es.toList) (nd : (kvs.map (·.1)).Nodup) (E : EnR K P w es.toList kvs us vs) : h.DictAt (strKind P w) a us n :=
  ⟨_, es, X _ _ hl, ⟨rfl, rfl, rfl⟩, rfl, fun e he => by
    obtain ⟨x, t, e1, e2⟩ := hk.all e (Array.mem_toList_iff.mpr he)
    exact ⟨x, by rw [e1]; exact strKind_is P w x t, e2⟩, E.pairs, by rw [E.keys]; exact nd⟩
end
/-- d[k] -/
def gKd (kvs : List (Str × D)) : OpP := fun _ ds => match ds with
  | [.str z] => kvs.lookup z
  | _ => none
section
variable {X : Cx} {W : WX} {pos : Pos}
theorem me_kd {nm : Str} {kvs : List (Str × D)} {e : Expr} {m : E1} {p : Pos} (D : KDc X.K X.w X.mg nm kvs) (hg : Gl X nm) (hs : PlainIx e) (he : ME X W e m) (hd : (nm == ("__debug__" : Str)) = false := by decide) : ME X W (.Subscript (.Name nm p) e pos) (e1 (pu (gKd kvs)) m) := by
  obtain ⟨a, es, n, hm, hl, hk, low, hen, nd⟩ := D.ex
  obtain ⟨us, vs, E⟩ := enR_of (P := X.prog) (w := X.w) hen
  have hr : IxR X (fun x y H Q => x = .ref a ∧ ∃ z d, y = .str z ∧ kvs.lookup z = some d ∧ ∀ v, (∀ α H, Rep X.K α H d v) → Q v H) := by
    intro value slice pins s σ H x y v u Q I rx ry h hsl
    obtain ⟨rfl, z, d, rfl, ez, q⟩ := h
    obtain rfl : v = Value.ref a := rx
    obtain ⟨t, rfl⟩ := ry
    have hmm := PySem.W.mapOf_K (prog := X.prog) (w := X.w) I.kIn hl hk
    obtain ⟨u0, v0, e0, r0, p0⟩ := E.find ez
    have e1 : PySem.findBy Value.isStrOf es z = some u0 := by
      unfold PySem.findBy
      rw [← e0]
      obtain ⟨l⟩ := es
      simp only [List.find?_toArray]
    exact tail_any hmm.typeIs slot_dict_getitem.lookup (wpAny_getItem_of (strKind_is X.prog X.w z t) hmm e1 ⟨v0, H, I.tok _, r0, q v0 p0⟩) hsl
  refine ⟨PE.imp (pe_ix hr (pe_glob (v := .ref a) hg hm rfl hd) he.pe hs) fun σ H Q q => ?_⟩
  obtain ⟨α, loc, mem, hm', hlc, hp⟩ := q
  show tE X.K m W σ H _
  refine tG_go hm' hlc hp fun α1 H1 m1 d x l1 hm1 hl1 hr1 hp1 => ?_
  cases d with
  | str z =>
    cases hr1
    cases ez : kvs.lookup z with
    | none => simp only [pu, gKd, ez] at hp1; exact hp1.elim
    | some d =>
      simp only [pu, gKd, ez] at hp1
      exact ⟨rfl, z, d, rfl, ez, fun v hv => hp1 α1 H1 v (Lt.refl _ _) hm1 (hv _ _)⟩
  | _ => exact hp1.elim
/-- the pairs of a written dict, each a new tuple -/
def ItKd (kv : List (Str × V)) : It :=
  ⟨fun i H => i < kv.length, fun i H x H' => ∃ T k v, kv[i]? = some (k, v) ∧ x = .ref T ∧ H T = none ∧ H' = upd H T (.tup [.str k, v]), fun i H => kv.length ≤ i⟩
theorem turn_kd {P : Program} {w : World} {K : PySem.W.Frag} {a : Addr} {es : Array DictEntry} {n : Nat} {kvs : List (Str × D)} {us : List (Str × Value)} {vs : List (Str × V)} {elts : List Expr} {kk : Nat} {tpos : Pos} (it : Addr) (hl : K.lookup a = some ⟨.type "dict", none, .dict es n, #[]⟩) (hk : PySem.W.KeysLit w.params es.toList) (nd : (kvs.map (·.1)).Nodup) (EE : EnR K P w es.toList kvs us vs) :
    Turn P w K (.Tuple elts kk tpos) (ItKd vs) [it] it (fun i h => ∃ ok ov, IsItemIter h it a i vs.length n ok ov) where
  mem := by simp
  obj := fun i h st b hb => by
    have e : b = it := by simpa using hb
    subst e
    obtain ⟨ok, ov, e⟩ := st
    exact ⟨_, e, fun v z => nomatch z⟩
  keep := fun i h h' st k => let ⟨ok, ov, e⟩ := st; ⟨ok, ov, k it (by simp) _ e⟩
  item := by
    intro X hP hw hK hc i pins s σ H E I hf st hi
    subst hP hw hK
    have hm := dictAt_of (h := s.heap) I.kIn hl hk nd EE
    obtain ⟨⟨k, v⟩, hkv⟩ : ∃ p, vs[i]? = some p := ⟨vs[i], List.getElem?_eq_getElem hi⟩
    obtain ⟨u, dd, hu, _, ru, _⟩ := EE.get hkv
    have hle : vs.length = us.length := EE.len.2.symm
    obtain ⟨ok, ov, he⟩ := st
    rw [hle] at he
    have hlt : it < s.heap.objs.size := Heap.lt_size he
    refine wpAny_pyNext_items_item he hm hu fun key h' hkey ho hT hz hk => ?_
    refine ⟨_, rfl, wpAny_letOwnedTupleGo_items (s := { s with heap := h' }) ho fun h'' he' sb => ?_⟩
    have hT2 : h''.get? s.heap.objs.size = some { cls := .type "tuple", data := .seq #[key, u] } := (sb.2 _ (Nat.ne_of_gt hlt)).trans hT
    have rk : RelV (.str k) key := by
      obtain ⟨t, e⟩ := Value.isStrOf_shape (show Value.isStrOf k key = true from hkey)
      exact ⟨t, e⟩
    have new : ObjOk X.prog X.w (upd H s.heap.objs.size (.tup [.str k, v])) h'' s.heap.objs.size (.tup [.str k, v]) :=
      ⟨by show 2 ≤ sizeLine; decide, [key, u], .cons rk (.cons ru .nil), ⟨_, hT2, rfl, _, rfl⟩⟩
    have I1 : L2.Inv X pins σ (upd H s.heap.objs.size (.tup [.str k, v])) { s with heap := h'' } :=
      I.turnedNew (t' := s.toks) (ch := [it]) (fun b ob hb e => (sb.2 b (by simpa using hb)).trans (hk b ob (by simpa using hb) e)) hf (Nat.le_refl _) new
    refine ⟨.ref s.heap.objs.size, _, I1, rfl, ⟨_, k, v, hkv, rfl, I.hok.fresh (Nat.le_refl _), rfl⟩, ⟨key, u, ?_⟩, fun b hb => ?_⟩
    · rw [hle]; exact he'
    · have e : b = it := by simpa using hb
      rw [e, upd_ne (Nat.ne_of_lt hlt)]
      exact (hf it (by simp)).1
  done := by
    intro X hP hw hK hc i pins s σ H E I hf st hi
    subst hP hw hK
    obtain ⟨f0, f1, f2, f3, f4, f5⟩ := hf it (by simp)
    have hm := dictAt_of (h := s.heap) I.kIn hl hk nd EE
    have hle : vs.length = us.length := EE.len.2.symm
    obtain ⟨ok, ov, he⟩ := st
    rw [hle] at he
    have hi' : vs.length ≤ i := hi
    exact wpAny_pyNext_items_end (I.ok.hd hc) he hm (List.getElem?_eq_none (by omega)) fun h' eb => ⟨rfl, I.turned (t' := s.toks) (fun b ob hb e => eb b ob hb e) f0 f1 f3 f4 f5⟩
  self := fun A i s Q E st h => let ⟨_, _, e⟩ := st; PySem.W.kcp_self e h
def wKd (kvs : List (Str × D)) : EW := fun _ mem => .ok { items := kvs.map fun p => .tup [.str p.1, p.2] } mem
theorem mi_kd {nm : Str} {kvs : List (Str × D)} {elts : List Expr} {kk : Nat} {tpos p apos cpos : Pos} (D : KDc X.K X.w X.mg nm kvs) (hg : Gl X nm) (hz : kvs.length ≤ 1000000 := by decide) (hd : (nm == ("__debug__" : Str)) = false := by decide)
    (hbase : attributeBase (.Name nm p) "items" X.env (eval (.Name nm p) X.env) = eval (.Name nm p) X.env := by rfl) (hline : (apos.endLine == cpos.line) = true := by rfl) :
    MI X W (.Tuple elts kk tpos) (.Call (.Attribute (.Name nm p) "items" apos) [] [] cpos) (wKd kvs) := by
  obtain ⟨a, es, n, hm, hl, hk, low, hen, nd⟩ := D.ex
  obtain ⟨us, vs, EE⟩ := enR_of (P := X.prog) (w := X.w) hen
  have he : PE X (.Name nm p) (tC (.ref a)) := pe_glob (v := .ref a) hg hm rfl hd
  have hpi : PI X (.Tuple elts kk tpos) (.Call (.Attribute (.Name nm p) "items" apos) [] [] cpos) (fun σ H R => R (ItKd vs) H) := by
    refine ⟨fun pins s σ H R I h => ?_⟩
    refine wpAny_Call_method (T := "dict") (id := "dict.items") hbase rfl hline F.plainAttrs_dict F.slot_dict_items F.type_dict_items (thn (he.run pins s σ H (fun x H' => x = .ref a ∧ R (ItKd vs) H') I ⟨rfl, h⟩) fun u s1 ⟨x, H1, I1, rx, ex, q⟩ => ?_)
    subst ex
    obtain rfl : u = Value.ref a := rx
    have hmd := dictAt_of (h := s1.heap) I1.kIn hl hk nd EE
    refine ⟨hmd.dictOf.typeIs, hmd.dictOf.mapOf.noDict, ?_⟩
    have I2 : L2.Inv X pins σ H1 { s1 with heap := s1.heap.push { cls := .type "dict_items", data := .fields #[.ref a] } } := I1.kept (t' := s1.toks) fun b ob q => Heap.get?_push_of_some _ q
    have fin : wpAny (model X.prog X.w) X.A (pyIter (.ref s1.heap.objs.size)) (PIE X pins σ (.Tuple elts kk tpos) R) X.xe { s1 with heap := s1.heap.push { cls := .type "dict_items", data := .fields #[.ref a] } } := by
      refine wpAny_pyIter_items (d := a) (knd := strKind X.prog X.w) ⟨_, Heap.get?_push_size _ rfl, rfl, rfl⟩ (hmd.push _) (pi_one (tk := s1.toks) I2 _ (turn_kd _ hl hk nd EE) ⟨.none, .none, ?_⟩ q)
      rw [← EE.len.2]
      exact Heap.get?_push_size _ rfl
    show wpAny _ _ (callWith cpos (.builtin "dict.items") [.ref a] [] []) _ X.xe s1
    exact method_meetsIn F.slot_dict_items F.entry_dict_items rfl (PySem.evalArgs_none ⟨rfl, hmd.dictOf.typeIs, F.args_dict_items_1 _, _, meets_dict_items (strKind X.prog X.w) a low, ⟨us, hmd.dictOf⟩, fin⟩)
  refine ⟨PI.imp hpi fun σ H R ⟨α, loc, mem, hm, hl', hp⟩ => hp α H _ (Lt.refl _ _) hm ⟨?_, fun α' H' mem' i d lk hm' _ e => ?_, fun α' H' mem' i lk hm' _ e => ?_⟩⟩
  · simpa using small_of hz
  · dsimp only at e
    rw [List.getElem?_map] at e
    obtain ⟨⟨k, d0⟩, ek, ed⟩ := Option.map_eq_some_iff.mp e
    subst ed
    have hlt : i < vs.length := by rw [← EE.len.1]; exact (List.getElem?_eq_some_iff.mp ek).1
    refine ⟨hlt, fun v H'' ⟨T, k', v', h1, h2, h3, h4⟩ => ?_⟩
    subst h2 h4
    obtain ⟨u, d', _, g2, _, rp⟩ := EE.get h1
    rw [ek] at g2
    cases g2
    exact pair_new hm' h3 (.str _) (rp _ _)
  · show vs.length ≤ i
    rw [← EE.len.1]
    simpa using e
end
theorem kdc_mk {K : PySem.W.Frag} {w : World} {mg : Str → Option Value} {h : Heap} {nm : Str} {a : Addr} {es : Array DictEntry} {n : Nat} {kvs : List (Str × D)} (X : K.In h) (G : h.Ns mainGlobals mg) (e : PySem.W.nsIn K mainGlobals nm = some (some (.ref a)))
    (l : K.lookup a = some ⟨.type "dict", none, .dict es n, #[]⟩) (k : PySem.W.KeysLit w.params es.toList) (low : (a == sysModules) = false) (en : enB K es.toList kvs = true) (nd : (kvs.map (·.1)).Nodup) : KDc K w mg nm kvs := ⟨a, es, n, PySem.W.mg_of X G e, l, k, low, en, nd⟩
end Mx

/-! M45: == of a dict and a text. -/
namespace Mx
open PySem L2
open AutoSeq1 (wpAny_loadPart')
open MeetsSeq
theorem dict_eq_no_str (l : Addr) (es : Array DictEntry) (n : Nat) (b : Str) (u : Tok) :
    Meets (Builtin.«dict.__eq__» ⟨[.ref l, .str b u], []⟩) (fun _ R s => s.heap.get? l = some { cls := .type "dict", dict := none, data := .dict es n, slots := #[] } ∧ R (.ok (.ret .notImplemented)) s) :=
  .of_wp fun prog w A R s h => by obtain ⟨hp, g, d, tk, os⟩ := s; obtain ⟨hl, h⟩ := h; have f1 := F.sub_str_dict; wp_walk using wpAny_loadPart' hl, wpAny_load hl; exact ⟨_, rfl, h⟩
theorem str_eq_no_dict (b : Str) (u : Tok) (l : Addr) (es : Array DictEntry) (n : Nat) :
    Meets (Builtin.«str.__eq__» ⟨[.str b u, .ref l], []⟩) (fun _ R s => s.heap.get? l = some { cls := .type "dict", dict := none, data := .dict es n, slots := #[] } ∧ R (.ok (.ret .notImplemented)) s) :=
  .of_wp fun prog w A R s h => by obtain ⟨hp, g, d, tk, os⟩ := s; obtain ⟨hl, h⟩ := h; wp_walk using wpAny_loadPart' hl, wpAny_load hl; exact ⟨_, rfl, h⟩
theorem rc_dict_str {A : Around} {s : Shared} {l : Addr} {es : Array DictEntry} {n : Nat} (b : Str) (u : Tok) (ho : s.heap.get? l = some { cls := .type "dict", dict := none, data := .dict es n, slots := #[] }) (hu : A.units < cLine) : SeqAt.RcAt A s (.ref l) (.str b u) false := fun prog w E Q h =>
  SeqAt.rc_eq_decline_or (k := false) ⟨_, ho, rfl⟩ (typeIs_str s b u) (by decide) F.sub_str_dict F.slot_dict_eq F.slot_str_eq_refl
    (fun _ hq => call_meets F.slot_dict_eq ⟨_, ho, rfl⟩ F.entry_dict_eq (F.args_dict_eq_2 _ _) (dict_eq_no_str l es n b u) ⟨ho, hq⟩)
    (fun _ hq => call_meets F.slot_str_eq_refl (typeIs_str s b u) F.entry_str_eq (F.args_str_eq_2 _ _) (str_eq_no_dict b u l es n) ⟨ho, hq⟩)
    (fun _ hq => wpAny_of_eq (rfl : isSame (.ref l) (.str b u) = pure false) hq) (.inr hu) h
section
variable {X : Cx}
def gEqDS : OpP := fun _ ds => match ds with
  | [.dic _, .str _] => some (.bl false)
  | _ => none
theorem op_gEqDS (hu : X.A.units + 64 < cLine) : OpR X (compareOp .Eq) (rB2 X.K (pu gEqDS)) := opP fun pins s σ H x y v u Q α mem d e z I rx ry hm r1 r2 hg q => by
  unfold gEqDS at hg
  split at hg
  · rename_i ks b heq
    cases heq
    cases hg
    cases r2
    cases r1 with
    | dic _ hd _ =>
      obtain ⟨_, _, vs, kv, o, es, ep, ho, hx, hdt, _⟩ := I.hok _ _ hd
      obtain ⟨c, dd, data, sl⟩ := o
      obtain ⟨h1, h2, h3⟩ := hx
      simp only at h1 h2 h3 hdt
      subst h1 h2 h3 hdt
      cases rx
      obtain ⟨t, rfl⟩ := ry
      exact rc_dict_str b t ho (by omega) X.prog X.w X.xe _ ⟨.bl false, H, I, rfl, q H _ (Same.refl _) (.bl false)⟩
  · cases hg
def gEqX : OpP := orG (gEq false) gEqDS
theorem op_gEqX (hu : X.A.units + 64 < cLine) : OpR X (compareOp .Eq) (rB2 X.K (pu gEqX)) := op_or (op_gEq hu) (op_gEqDS hu)
end
end Mx

/-! M46: mirrors run backwards: what is wanted behind a mirror's result. -/
namespace Mx
open PySem L2
/-- r is a value that holds Q, or an exception that holds X -/
def St {β : Type} (r : Res β) (Q : β → Mem → Prop) (X : Ex → Mem → Prop) : Prop := match r with
  | .ok b m => Q b m
  | .ex e m => X e m
  | .bad => False
structure Po where
  nx : Mx.Env → Mem → Prop
  rt : D → Mem → Prop
  bk : Mx.Env → Mem → Prop := fun _ _ => False
  ct : Mx.Env → Mem → Prop := fun _ _ => False
  ex : Ex → Mem → Prop := fun _ _ => False
def Ss (r : RS) (P : Po) : Prop := match r with
  | .nx l m => P.nx l m
  | .rt d m => P.rt d m
  | .bk l m => P.bk l m
  | .ct l m => P.ct l m
  | .ex e _ m => P.ex e m
  | .bad => False
abbrev No : Ex → Mem → Prop := fun _ _ => False
section
variable {β γ : Type} {Q : β → Mem → Prop} {X : Ex → Mem → Prop} {r : Res β} {k : β → Mem → Res γ} {Q2 : γ → Mem → Prop}
theorem St.bind (h : St r (fun b m => St (k b m) Q2 X) X) : St (r.bind k) Q2 X := by
  cases r <;> exact h
theorem st_eq {b : β} {m : Mem} (h : r = .ok b m) (q : Q b m) : St r Q X := by rw [h]; exact q
theorem st_ex {e : Ex} {m : Mem} (h : r = .ex e m) (q : X e m) : St r Q X := by rw [h]; exact q
theorem St.imp {Q' : β → Mem → Prop} {X' : Ex → Mem → Prop} (h : St r Q X) (q : ∀ b m, Q b m → Q' b m) (x : ∀ e m, X e m → X' e m) : St r Q' X' := by
  cases r with
  | ok b m => exact q _ _ h
  | ex e m => exact x _ _ h
  | bad => exact h
theorem St.get (h : St r Q No) : ∃ b m, r = .ok b m ∧ Q b m := by
  cases r with
  | ok b m => exact ⟨b, m, rfl, h⟩
  | ex e m => exact h.elim
  | bad => exact h.elim
end
section
variable {Q : D → Mem → Prop} {X : Ex → Mem → Prop} {loc : Mx.Env} {mem : Mem} {QL : List D → Mem → Prop} {QB : Bool → Mem → Prop} {QO : Option Int → Mem → Prop} {QW : Wk → Mem → Prop}
theorem w_var {i : Nat} {d : D} (h : loc[i]? = some (some d)) (q : Q d mem) : St (eVar i loc mem) Q X := by
  unfold eVar
  rw [h]
  exact q
theorem w_c {d : D} (q : Q d mem) : St (eC d loc mem) Q X := q
theorem w_op {g : OpP} {ds : List D} {z : D} (h : g mem ds = some z) (q : Q z mem) : St (ofP (pu g mem ds)) Q X := by
  unfold pu
  rw [h]
  exact q
theorem w_opd {g : OpD} {ds : List D} {z : D} {m : Mem} (h : g mem ds = some (z, m)) (q : Q z m) : St (ofP (g mem ds)) Q X := by
  rw [h]
  exact q
theorem w_e1 {g : OpD} {a : E1} (h : St (a loc mem) (fun x m => St (ofP (g m [x])) Q X) X) : St (e1 g a loc mem) Q X := h.bind
theorem w_e2 {g : OpD} {a b : E1} (h : St (a loc mem) (fun x m1 => St (b loc m1) (fun y m2 => St (ofP (g m2 [x, y])) Q X) X) X) : St (e2 g a b loc mem) Q X := St.bind (h.imp (fun _ _ q => St.bind q) fun _ _ q => q)
theorem w_n {g : OpD} {a : EL} (h : St (a loc mem) (fun xs m => St (ofP (g m xs)) Q X) X) : St (eN g a loc mem) Q X := h.bind
theorem w_nil (q : QL [] mem) : St (lNil loc mem) QL X := q
theorem w_cons {a : E1} {r : EL} (h : St (a loc mem) (fun x m1 => St (r loc m1) (fun xs m2 => QL (x :: xs) m2) X) X) : St (lCons a r loc mem) QL X := St.bind (h.imp (fun _ _ q => St.bind q) fun _ _ q => q)
theorem w_m {ty : Mem → D → Bool} {g : OpD} {o : E1} {a : EL} (h : St (o loc mem) (fun x m1 => ty m1 x = true ∧ St (a loc m1) (fun xs m2 => St (ofP (g m2 (x :: xs))) Q X) X) X) : St (eM ty g o a loc mem) Q X :=
  St.bind (h.imp (fun x m q => by rw [if_pos q.1]; exact q.2.bind) fun _ _ q => q)
theorem w_m0 {ty : Mem → D → Bool} {g : OpD} {o : E1} (h : St (o loc mem) (fun x m1 => ty m1 x = true ∧ St (ofP (g m1 [x])) Q X) X) : St (eM0 ty g o loc mem) Q X :=
  St.bind (h.imp (fun x m q => by rw [if_pos q.1]; exact q.2) fun _ _ q => q)
theorem w_tup {a : EL} (h : St (a loc mem) (fun xs m => Q (.tup xs) m) X) : St (eTup a loc mem) Q X := h.bind
theorem w_lst {a : EL} (h : St (a loc mem) (fun xs m => Q (.lst xs) m) X) : St (eLst a loc mem) Q X := h.bind
theorem w_lstC {a : EL} (h : St (a loc mem) (fun xs m => Q (.ref m.length) (m ++ [.lst xs])) X) : St (eLstC a loc mem) Q X := h.bind
theorem w_if {c : EB} {a b : E1} (h : St (c loc mem) (fun t m => if t = true then St (a loc m) Q X else St (b loc m) Q X) X) : St (eIf c a b loc mem) Q X :=
  St.bind (h.imp (fun t m q => by cases t <;> exact q) fun _ _ q => q)
theorem w_and {a b : E1} (h : St (a loc mem) (fun x m => ∃ t, x = .bl t ∧ if t = true then St (b loc m) Q X else Q (.bl false) m) X) : St (eAnd a b loc mem) Q X :=
  St.bind (h.imp (fun x m q => by obtain ⟨t, rfl, q⟩ := q; cases t <;> exact q) fun _ _ q => q)
theorem w_or {a b : E1} (h : St (a loc mem) (fun x m => ∃ t, x = .bl t ∧ if t = true then Q (.bl true) m else St (b loc m) Q X) X) : St (eOr a b loc mem) Q X :=
  St.bind (h.imp (fun x m q => by obtain ⟨t, rfl, q⟩ := q; cases t <;> exact q) fun _ _ q => q)
theorem w_not {a : E1} (h : St (a loc mem) (fun x m => ∃ t, x = .bl t ∧ Q (.bl (!t)) m) X) : St (eNot a loc mem) Q X :=
  St.bind (h.imp (fun x m q => by obtain ⟨t, rfl, q⟩ := q; exact q) fun _ _ q => q)
theorem w_bE {a : E1} (h : St (a loc mem) (fun x m => ∃ t, x = .bl t ∧ QB t m) X) : St (bE a loc mem) QB X :=
  St.bind (h.imp (fun x m q => by obtain ⟨t, rfl, q⟩ := q; exact q) fun _ _ q => q)
theorem w_bAnd {a b : EB} (h : St (a loc mem) (fun t m => if t = true then St (b loc m) QB X else QB false m) X) : St (bAnd a b loc mem) QB X :=
  St.bind (h.imp (fun t m q => by cases t <;> exact q) fun _ _ q => q)
theorem w_bOr {a b : EB} (h : St (a loc mem) (fun t m => if t = true then QB true m else St (b loc m) QB X) X) : St (bOr a b loc mem) QB X :=
  St.bind (h.imp (fun t m q => by cases t <;> exact q) fun _ _ q => q)
theorem w_bNot {a : EB} (h : St (a loc mem) (fun t m => QB (!t) m) X) : St (bNot a loc mem) QB X := h.bind
theorem w_yes (q : QB true mem) : St (bYes loc mem) QB X := q
theorem w_ch {g g' : OpD} {a b c : E1} (h : St (a loc mem) (fun x m1 => St (b loc m1) (fun y m2 => St (ofP (g m2 [x, y])) (fun z m3 => ∃ t, z = .bl t ∧ if t = true then St (c loc m3) (fun w m4 => St (ofP (g' m4 [y, w])) Q X) X else Q (.bl false) m3) X) X) X) : St (eCh g g' a b c loc mem) Q X :=
  St.bind (h.imp (fun x m1 q => St.bind (q.imp (fun y m2 q => St.bind (q.imp (fun z m3 q => by
    obtain ⟨t, rfl, q⟩ := q
    cases t
    · exact q
    · exact St.bind q) fun _ _ q => q)) fun _ _ q => q)) fun _ _ q => q)
theorem w_oN (q : QO none mem) : St (oNone loc mem) QO X := q
theorem w_oS {a : E1} (h : St (a loc mem) (fun x m => ∃ i, x = .int i ∧ QO (some i) m) X) : St (oSome a loc mem) QO X :=
  St.bind (h.imp (fun x m q => by obtain ⟨t, rfl, q⟩ := q; exact q) fun _ _ q => q)
theorem w_sl {g : Option Int → Option Int → OpD} {a : E1} {lo hi : EO} (h : St (a loc mem) (fun x m1 => St (lo loc m1) (fun l m2 => St (hi loc m2) (fun u m3 => St (ofP (g l u m3 [x])) Q X) X) X) X) : St (eSl g a lo hi loc mem) Q X :=
  St.bind (h.imp (fun x m1 q => St.bind (q.imp (fun y m2 q => St.bind q) fun _ _ q => q)) fun _ _ q => q)
theorem w_call {F : Fn} {a : EL} (h : St (a loc mem) (fun ds m => St (F ds m) Q X) X) : St (eCall F a loc mem) Q X := h.bind
theorem w_alt {a b : E1} (h : St (a loc mem) Q X) : St (eAlt a b loc mem) Q X := by
  unfold eAlt
  cases e : a loc mem with
  | bad => rw [e] at h; exact h.elim
  | ok d m => rw [e] at h; exact h
  | ex d m => rw [e] at h; exact h
theorem w_dic0 (q : Q (.dic []) mem) : St (eDic0 loc mem) Q X := q
theorem w_jN {acc : Str} (q : Q (.str acc) mem) : St (eJ [] acc loc mem) Q X := q
theorem w_jC {m : E1} {ms : List E1} {acc : Str} (h : St (m loc mem) (fun x m1 => ∃ y, x = .str y ∧ (acc ++ y).length ≤ 1000000 ∧ St (eJ ms (acc ++ y) loc m1) Q X) X) : St (eJ (m :: ms) acc loc mem) Q X :=
  St.bind (h.imp (fun x m q => by obtain ⟨t, rfl, q1, q⟩ := q; dsimp only; rw [if_pos q1]; exact q) fun _ _ q => q)
/-! what is walked -/
theorem w_it {a : E1} (h : St (a loc mem) (fun d m => ∃ wk, wkOf m d = some wk ∧ QW wk m) X) : St (wIt a loc mem) QW X :=
  St.bind (h.imp (fun d m q => by obtain ⟨wk, e, q⟩ := q; rw [e]; exact q) fun _ _ q => q)
theorem w_range1 {a : EL} (h : St (a loc mem) (fun ds m => ∃ j : Int, ds = [.int j] ∧ (j ≤ 1000000 ∧ -1000000 ≤ j) ∧ QW { items := rangeD 0 j.toNat } m) X) : St (wRange1 a loc mem) QW X :=
  St.bind (h.imp (fun d m q => by obtain ⟨j, rfl, e, q⟩ := q; dsimp only; rw [if_pos e]; exact q) fun _ _ q => q)
theorem w_kd {kvs : List (Str × D)} (q : QW { items := kvs.map fun p => .tup [.str p.1, p.2] } mem) : St (wKd kvs loc mem) QW X := q
/-! comprehensions -/
theorem w_lc {own : List Nat} {g : Tg} {i : EW} {tt : EB} {te : E1} (h : St (i loc mem) (fun wk m => St (comp g tt te wk.guard wk.items (wipeL loc own) m) (fun ds m' => Q (.lst ds) m') No) X) : St (eLc own g i tt te loc mem) Q X :=
  St.bind (h.imp (fun wk m q => by
    show St ((comp g tt te wk.guard wk.items (wipeL loc own) m).noex.bind _) Q X
    obtain ⟨ds, m', e, q⟩ := q.get
    rw [e]
    exact q) fun _ _ q => q)
/-- a comprehension that changes nothing and drops nothing -/
theorem w_comp {g : Tg} {te : E1} {guard : Mem → Bool} {items : List D} (f : D → D) (h : ∀ d ∈ items, ∃ asg, g.asg mem d = some asg ∧ St (te (setL loc asg) mem) (fun x m => x = f d ∧ m = mem) No) (q : QL (items.map f) mem) (hg : guard mem = true := by rfl) : St (comp g bYes te guard items loc mem) QL X :=
  st_eq (comp_map f hg items fun d hd => by
    obtain ⟨asg, e, h1⟩ := h d hd
    obtain ⟨x, m, e2, rfl, rfl⟩ := h1.get
    exact ⟨asg, e, e2⟩) q
/-- a comprehension that changes nothing -/
theorem w_compF {g : Tg} {tt : EB} {te : E1} {guard : Mem → Bool} {items : List D} (b : D → Bool) (f : D → D) (h : ∀ d ∈ items, ∃ asg, g.asg mem d = some asg ∧ St (tt (setL loc asg) mem) (fun x m => x = b d ∧ m = mem) No ∧ (b d = true → St (te (setL loc asg) mem) (fun x m => x = f d ∧ m = mem) No)) (q : QL ((items.filter b).map f) mem) (hg : guard mem = true := by rfl) : St (comp g tt te guard items loc mem) QL X :=
  st_eq (comp_of b f hg items fun d hd => by
    obtain ⟨asg, e, h1, h2⟩ := h d hd
    obtain ⟨x, m, e2, rfl, rfl⟩ := h1.get
    refine ⟨asg, e, e2, fun hb => ?_⟩
    obtain ⟨x, m, e3, rfl, rfl⟩ := (h2 hb).get
    exact e3) q
/-- a comprehension whose deeds change the memory -/
theorem w_compM {g : Tg} {te : E1} {guard : Mem → Bool} {items : List D} (I : Nat → Mem → Prop) (P : D → Prop) (h0 : I 0 mem) (h : ∀ d ∈ items, ∀ j mem, j < items.length → I j mem → ∃ asg, g.asg mem d = some asg ∧ St (te (setL loc asg) mem) (fun x m => P x ∧ I (j + 1) m) No)
    (q : ∀ ds m, ds.length = items.length → (∀ x ∈ ds, P x) → I items.length m → QL ds m) (hg : ∀ k mem, I k mem → guard mem = true := by intros; rfl) : St (comp g bYes te guard items loc mem) QL X := by
  obtain ⟨ds, m, e, h1, h2, h3⟩ := comp_go (te := te) (g := g) (guard := guard) (loc := loc) I P hg items 0 mem h0 fun d hd j mem hj hj2 i => by
    obtain ⟨asg, e, h1⟩ := h d hd j mem (by omega) i
    obtain ⟨x, m, e2, p, i2⟩ := h1.get
    exact ⟨asg, e, x, m, e2, p, i2⟩
  rw [Nat.zero_add] at h3
  exact st_eq e (q ds m h1 h2 h3)
/-! a lambda handed on -/
theorem w_lam {j n : Nat} {P : Addr} {q : Str} {mE : E1} {k : Mx.D → Mx.Env → Mem → RS} {hs : List Hd} {mr : S1} (h0 : mem[j]? = some (.tab P q)) (h : St (mE loc mem) (fun d m => St (finR mr (k d (List.replicate n none) m)) Q X) (fun e m => St (finR mr (runH hs e (List.replicate n none) m)) Q X)) : St (eLam j P q mE k hs n mr loc mem) Q X := by
  unfold eLam
  rw [h0]
  dsimp only
  rw [if_pos ⟨rfl, rfl⟩]
  cases e : mE loc mem with
  | bad => rw [e] at h; exact h.elim
  | ok d m => rw [e] at h; exact h
  | ex d m => rw [e] at h; exact h
end
/-! statements -/
section
variable {P : Po} {loc : Mx.Env} {mem : Mem}
theorem St.thenS {β : Type} {r : Res β} {k : β → Mem → RS} (h : St r (fun b m => Ss (k b m) P) P.ex) : Ss (r.thenS loc k) P := by
  cases r <;> exact h
theorem s_seq {a b : S1} (h : Ss (a loc mem) ⟨fun l m => Ss (b l m) P, P.rt, P.bk, P.ct, P.ex⟩) : Ss (sSeq a b loc mem) P := by
  unfold sSeq
  cases e : a loc mem <;> rw [e] at h <;> exact h
theorem s_nil (q : P.nx loc mem) : Ss (sNil loc mem) P := q
theorem s_pass (q : P.nx loc mem) : Ss (sPass loc mem) P := q
theorem s_break (q : P.bk loc mem) : Ss (sBreak loc mem) P := q
theorem s_cont (q : P.ct loc mem) : Ss (sCont loc mem) P := q
theorem s_expr {e : E1} (h : St (e loc mem) (fun _ m => P.nx loc m) P.ex) : Ss (sExpr e loc mem) P := St.thenS h
theorem s_ret {e : E1} (h : St (e loc mem) (fun d m => P.rt d m) P.ex) : Ss (sRet e loc mem) P := St.thenS h
theorem s_retN (q : P.rt .non mem) : Ss (sRetN loc mem) P := q
theorem s_if {c : EB} {a b : S1} (h : St (c loc mem) (fun t m => if t = true then Ss (a loc m) P else Ss (b loc m) P) P.ex) : Ss (sIf c a b loc mem) P :=
  St.thenS (h.imp (fun t m q => by cases t <;> exact q) fun _ _ q => q)
theorem s_set {i : Nat} {e : E1} (h : St (e loc mem) (fun d m => P.nx (loc.set i (some d)) m) P.ex) : Ss (sSet i e loc mem) P := St.thenS h
theorem s_asg {g : Tg} {e : E1} (h : St (e loc mem) (fun d m => ∃ asg, g.asg m d = some asg ∧ P.nx (setL loc asg) m) P.ex) : Ss (sAsg g e loc mem) P :=
  St.thenS (h.imp (fun d m q => by obtain ⟨asg, e, q⟩ := q; rw [e]; exact q) fun _ _ q => q)
theorem s_par {is : List Nat} {e : EL} (h : St (e loc mem) (fun ds m => P.nx (setL loc (is.zip ds)) m) P.ex) : Ss (sPar is e loc mem) P := St.thenS h
theorem s_put {o i e : E1} (h : St (e loc mem) (fun v m1 => St (o loc m1) (fun ov m2 => St (i loc m2) (fun iv m3 => ∃ m4, putIx m3 ov iv v = some m4 ∧ P.nx loc m4) P.ex) P.ex) P.ex) : Ss (sPut o i e loc mem) P :=
  St.thenS (h.imp (fun v m1 q => St.thenS (q.imp (fun ov m2 q => St.thenS (q.imp (fun iv m3 q => by obtain ⟨m4, e, q⟩ := q; rw [e]; exact q) fun _ _ q => q)) fun _ _ q => q)) fun _ _ q => q)
theorem s_raise0 {C : Addr} {a : E1} (h : St (a loc mem) (fun _ m => P.ex ⟨.ref C, none⟩ m) P.ex) : Ss (sRaise0 C a loc mem) P := St.thenS h
theorem s_for {g : Tg} {i : EW} {body : S1} (h : St (i loc mem) (fun wk m => Ss (loop g body wk.guard wk.items loc m) P) P.ex) : Ss (sFor g i body loc mem) P := St.thenS h
/-- a loop that keeps I -/
theorem s_loop {g : Tg} {body : S1} {guard : Mem → Bool} {items : List D} (I : Nat → Mx.Env → Mem → Prop) (h0 : I 0 loc mem)
    (st : ∀ (j : Nat) (d : D) loc mem, items[j]? = some d → I j loc mem → ∃ asg, g.asg mem d = some asg ∧ Ss (body (setL loc asg) mem) ⟨I (j + 1), P.rt, P.nx, I (j + 1), P.ex⟩) (q : ∀ loc mem, I items.length loc mem → P.nx loc mem) (hg : ∀ k loc mem, I k loc mem → guard mem = true := by intros; rfl) : Ss (loop g body guard items loc mem) P := by
  induction items generalizing I loc mem with
  | nil =>
    rw [loop, if_pos (hg _ _ _ h0)]
    exact q _ _ h0
  | cons d ds ih =>
    rw [loop, if_pos (hg _ _ _ h0)]
    obtain ⟨asg, e, h⟩ := st 0 d loc mem rfl h0
    rw [e]
    dsimp only
    have go : ∀ l m, I 1 l m → Ss (loop g body guard ds l m) P := fun l m i1 => ih (fun k => I (k + 1)) i1 (fun j d' l' m' e' i' => st (j + 1) d' l' m' (by simpa using e') i') (fun l' m' i' => q l' m' i') (fun k => hg (k + 1))
    cases eb : body (setL loc asg) mem with
    | nx l m => rw [eb] at h; exact go l m h
    | ct l m => rw [eb] at h; exact go l m h
    | bk l m => rw [eb] at h; exact h
    | rt d m => rw [eb] at h; exact h
    | ex x l m => rw [eb] at h; exact h
    | bad => rw [eb] at h; exact h
/-- a loop by its turns, one by one -/
theorem s_loop0 {g : Tg} {body : S1} {guard : Mem → Bool} (hg : guard mem = true) (q : P.nx loc mem) : Ss (loop g body guard [] loc mem) P := by
  rw [loop, if_pos hg]
  exact q
theorem s_loop1 {g : Tg} {body : S1} {guard : Mem → Bool} {d : D} {ds : List D} {asg : List (Nat × D)} (hg : guard mem = true) (e : g.asg mem d = some asg) (h : Ss (body (setL loc asg) mem) ⟨fun l m => Ss (loop g body guard ds l m) P, P.rt, P.nx, fun l m => Ss (loop g body guard ds l m) P, P.ex⟩) : Ss (loop g body guard (d :: ds) loc mem) P := by
  rw [loop, if_pos hg, e]
  dsimp only
  cases eb : body (setL loc asg) mem <;> rw [eb] at h <;> exact h
theorem w_run {Q : D → Mem → Prop} {X : Ex → Mem → Prop} {n : Nat} {m : S1} {ds : List D} (h : Ss (m (startL n ds) mem) { nx := fun _ m => Q .non m, rt := Q, ex := X }) : St (runB n m ds mem) Q X := by
  unfold runB
  cases e : m (startL n ds) mem <;> rw [e] at h <;> exact h
theorem w_fin {Q : D → Mem → Prop} {X : Ex → Mem → Prop} {mr : S1} {r : RS} (h : Ss r { nx := fun l m => Ss (mr l m) { nx := fun _ m => Q .non m, rt := Q }, rt := Q }) : St (finR mr r) Q X := by
  unfold finR
  cases r with
  | nx l m =>
    dsimp only
    have h : Ss (mr l m) _ := h
    cases e : mr l m <;> rw [e] at h <;> exact h
  | rt d m => exact h
  | bk l m => exact h
  | ct l m => exact h
  | ex e l m => exact h
  | bad => exact h
end
theorem w_ifT {t : Bool} {A B : Prop} (h : t = true) (q : A) : if t = true then A else B := by rw [if_pos h]; exact q
theorem w_ifF {t : Bool} {A B : Prop} (h : t = false) (q : B) : if t = true then A else B := by rw [h, if_neg Bool.false_ne_true]; exact q
end Mx

/-! M47: texts as lists of signs: split, join, partition, slices. -/
namespace Mx
open PySem L2
abbrev cl (x : Str) : List Nat := x.cps.toList
abbrev mkS (l : List Nat) : Str := ⟨l.toArray⟩
theorem cl_mk (l : List Nat) : cl (mkS l) = l := rfl
theorem mk_cl (x : Str) : mkS (cl x) = x := by obtain ⟨⟨l⟩⟩ := x; rfl
theorem cl_inj {x y : Str} (h : cl x = cl y) : x = y := by rw [← mk_cl x, ← mk_cl y, h]
theorem cl_len (x : Str) : (cl x).length = x.length := rfl
theorem cl_app (a b : Str) : cl (a ++ b) = cl a ++ cl b := by
  show (a ++ b).cps.toList = _
  rw [Str.cps_append, Array.toList_append]
theorem cl_empty : cl Str.empty = [] := rfl
def joinL (c : Nat) : List (List Nat) → List Nat
  | [] => []
  | [p] => p
  | p :: q :: r => p ++ c :: joinL c (q :: r)
def spl (c : Nat) : List Nat → List (List Nat)
  | [] => [[]]
  | x :: r => if x = c then [] :: spl c r else match spl c r with
    | p :: ps => (x :: p) :: ps
    | [] => [[x]]
theorem spl_ne (c : Nat) : ∀ l, spl c l ≠ []
  | [] => by simp [spl]
  | x :: r => by
    rw [spl]
    split
    · simp
    · split <;> simp
theorem spl_app {c : Nat} : ∀ (p r : List Nat), c ∉ p → spl c (p ++ c :: r) = p :: spl c r
  | [], r, _ => by simp [spl]
  | x :: p, r, h => by
    simp only [List.mem_cons, not_or] at h
    rw [List.cons_append, spl, if_neg (fun e => h.1 e.symm), spl_app p r h.2]
theorem spl_free {c : Nat} : ∀ (p : List Nat), c ∉ p → spl c p = [p]
  | [], _ => by simp [spl]
  | x :: p, h => by
    simp only [List.mem_cons, not_or] at h
    rw [spl, if_neg (fun e => h.1 e.symm), spl_free p h.2]
theorem spl_join {c : Nat} : ∀ (ps : List (List Nat)), ps ≠ [] → (∀ p ∈ ps, c ∉ p) → spl c (joinL c ps) = ps
  | [], h, _ => absurd rfl h
  | [p], _, h => spl_free p (h p List.mem_cons_self)
  | p :: q :: r, _, h => by
    rw [joinL, spl_app p _ (h p List.mem_cons_self), spl_join (q :: r) (by simp) fun x hx => h x (List.mem_cons_of_mem _ hx)]
theorem cl_join (c : Nat) : ∀ xs : List Str, cl (Str.join ⟨#[c]⟩ xs) = joinL c (xs.map cl)
  | [] => rfl
  | [x] => rfl
  | x :: y :: r => by
    show cl (x ++ ⟨#[c]⟩ ++ Str.join ⟨#[c]⟩ (y :: r)) = _
    rw [cl_app, cl_app, cl_join c (y :: r), List.append_assoc]
    rfl
theorem split_ne (x y : Str) : Txt.split x y ≠ [] := fun e => by
  have := PyProof.Rows.split_pos x y
  rw [e] at this
  simp at this
theorem split_is (x : Str) (c : Nat) : Txt.split x ⟨#[c]⟩ = (spl c (cl x)).map mkS := by
  have h1 := cl_join c (Txt.split x ⟨#[c]⟩)
  rw [PySem.StrLaws.join_split] at h1
  rw [h1, spl_join _ (by simpa using split_ne x _) (fun p hp => by
    obtain ⟨z, hz, rfl⟩ := List.mem_map.mp hp
    exact PySem.StrLaws.split_free x c z hz), List.map_map]
  conv => lhs; rw [← List.map_id (Txt.split x ⟨#[c]⟩)]
  exact List.map_congr_left fun z _ => (mk_cl z).symm
theorem tjoin_is (c : Nat) (xs : List Str) : cl (Txt.join ⟨#[c]⟩ xs) = joinL c (xs.map cl) := by
  show cl (Builtin.Str.glued _ _) = _
  rw [PySem.StrLaws.glued_eq_join, cl_join]
theorem tjoin0_is : ∀ (xs : List Str), cl (Txt.join Str.empty xs) = (xs.map cl).flatten := by
  intro xs
  show cl (Builtin.Str.glued _ _) = _
  rw [PySem.StrLaws.glued_eq_join]
  induction xs with
  | nil => rfl
  | cons x r ih =>
    cases r with
    | nil => simp [Str.join]
    | cons y r =>
      show cl (x ++ Str.empty ++ Str.join Str.empty (y :: r)) = _
      rw [cl_app, cl_app, ih, cl_empty, List.append_nil]
      rfl
/-- the first place of c -/
theorem part_none {x : Str} {c : Nat} (h : c ∉ cl x) : Txt.partition x ⟨#[c]⟩ = (x, Str.empty, Str.empty) := by
  rcases PySem.StrLaws.occ_head x ⟨#[c]⟩ 1 (Nat.le_refl _) with ⟨e, _⟩ | ⟨i, r, e, ha, _⟩
  · unfold Txt.partition
    rw [e]
  · exact absurd (List.mem_of_getElem? ((PySem.StrLaws.subAt_one x c i).mp ha)) h
theorem part_some {x : Str} {c : Nat} {p q : List Nat} (h : cl x = p ++ c :: q) (hp : c ∉ p) : Txt.partition x ⟨#[c]⟩ = (mkS p, ⟨#[c]⟩, mkS q) := by
  have at0 : (cl x)[p.length]? = some c := by rw [h]; simp
  rcases PySem.StrLaws.occ_head x ⟨#[c]⟩ 1 (Nat.le_refl _) with ⟨e, hn⟩ | ⟨i, r, e, ha, hn⟩
  · exact absurd ((PySem.StrLaws.subAt_one x c p.length).mpr at0) (hn p.length)
  · have ai := (PySem.StrLaws.subAt_one x c i).mp ha
    have ei : i = p.length := by
      by_cases h1 : i < p.length
      · exfalso
        have ai : (cl x)[i]? = some c := ai
        rw [h, List.getElem?_append_left h1] at ai
        exact hp (List.mem_of_getElem? ai)
      · by_cases h2 : p.length < i
        · exact absurd ((PySem.StrLaws.subAt_one x c p.length).mpr at0) (hn p.length h2)
        · omega
    subst ei
    unfold Txt.partition
    rw [e]
    dsimp only
    have lx : x.length = p.length + 1 + q.length := by rw [← cl_len, h]; simp; omega
    have l1 : (⟨#[c]⟩ : Str).length = 1 := rfl
    refine Prod.ext (cl_inj ?_) (Prod.ext rfl (cl_inj ?_))
    · show (Builtin.Str.strSub x 0 p.length).cps.toList = p
      rw [PySem.StrLaws.strSub_toList]
      show ((cl x).drop 0).take (p.length - 0) = p
      rw [h]
      simp
    · show (Builtin.Str.strSub x (p.length + (⟨#[c]⟩ : Str).length) x.length).cps.toList = q
      rw [PySem.StrLaws.strSub_toList, l1]
      show ((cl x).drop (p.length + 1)).take (x.length - (p.length + 1)) = q
      rw [h, lx, show p.length + 1 + q.length - (p.length + 1) = q.length by omega]
      have : (p ++ c :: q).drop (p.length + 1) = q := by
        rw [← List.drop_drop, List.drop_left]
        rfl
      rw [this, List.take_length]
/-- where c stands first -/
theorem first_at {c : Nat} : ∀ (l : List Nat), c ∈ l → ∃ p q, l = p ++ c :: q ∧ c ∉ p
  | [], h => by cases h
  | x :: l, h => by
    by_cases e : x = c
    · subst e
      exact ⟨[], l, rfl, by simp⟩
    · rcases List.mem_cons.mp h with z | z
      · exact absurd z.symm e
      · obtain ⟨p, q, e1, e2⟩ := first_at l z
        exact ⟨x :: p, q, by rw [e1]; rfl, by simp only [List.mem_cons, not_or]; exact ⟨fun z => e z.symm, e2⟩⟩
theorem cut_from (z : Str) (k : Nat) : cl (cutS z (some (k : Int)) none) = (cl z).drop k := by
  show ((cl z).drop (HT.sIx z.length 0 (some (k : Int)))).take (HT.sIx z.length z.length none - HT.sIx z.length 0 (some (k : Int))) = _
  rw [HT.sIx_nat, HT.sIx_none]
  have h : (cl z).length = z.length := rfl
  by_cases hk : k ≤ z.length
  · rw [Nat.min_eq_left hk, List.take_of_length_le (by rw [List.length_drop]; omega)]
  · rw [Nat.min_eq_right (by omega), List.drop_of_length_le (by omega : (cl z).length ≤ z.length), List.drop_of_length_le (by omega : (cl z).length ≤ k)]
    simp
theorem cut_to (z : Str) (k : Nat) : cl (cutS z none (some (k : Int))) = (cl z).take k := by
  show ((cl z).drop (HT.sIx z.length 0 none)).take (HT.sIx z.length z.length (some (k : Int)) - HT.sIx z.length 0 none) = _
  rw [HT.sIx_nat, HT.sIx_none]
  have h : (cl z).length = z.length := rfl
  rw [List.drop_zero, Nat.sub_zero]
  by_cases hk : k ≤ z.length
  · rw [Nat.min_eq_left hk]
  · rw [Nat.min_eq_right (by omega), List.take_of_length_le (by omega : (cl z).length ≤ z.length), List.take_of_length_le (by omega : (cl z).length ≤ k)]
theorem cut_mid (z : Str) (j k : Nat) : cl (cutS z (some (j : Int)) (some (k : Int))) = ((cl z).drop j).take (k - j) := by
  show ((cl z).drop (HT.sIx z.length 0 (some (j : Int)))).take (HT.sIx z.length z.length (some (k : Int)) - HT.sIx z.length 0 (some (j : Int))) = _
  rw [HT.sIx_nat, HT.sIx_nat]
  have h : (cl z).length = z.length := rfl
  by_cases hj : j ≤ z.length
  · rw [Nat.min_eq_left hj]
    by_cases hk : k ≤ z.length
    · rw [Nat.min_eq_left hk]
    · rw [Nat.min_eq_right (by omega), List.take_of_length_le (by rw [List.length_drop]; omega), List.take_of_length_le (by rw [List.length_drop]; omega)]
  · rw [Nat.min_eq_right (by omega : z.length ≤ j), List.drop_of_length_le (by omega : (cl z).length ≤ z.length), List.drop_of_length_le (by omega : (cl z).length ≤ j)]
    simp
/-! operations on texts -/
section
variable {Q : D → Mem → Prop} {X : Ex → Mem → Prop} {loc : Mx.Env} {mem : Mem}
theorem len_str {z : Str} (h : z.length ≤ 1000000) : gLen mem [.str z] = some (.int z.length) := by simp only [gLen, if_pos h]
theorem add_str {a b : Str} (h : a.length + b.length ≤ 1000000) : gAdd mem [.str a, .str b] = some (.str (a ++ b)) := by simp only [gAdd, if_pos h]
theorem add_tup {a b : List D} (h : a.length + b.length ≤ 1000000) : gAdd mem [.tup a, .tup b] = some (.tup (a ++ b)) := by simp only [gAdd, if_pos h]
theorem add_lst {a b : List D} (h : a.length + b.length ≤ 1000000) : gAdd mem [.lst a, .lst b] = some (.lst (a ++ b)) := by simp only [gAdd, listOf, if_pos h]
theorem eq_str {a b : Str} {neg : Bool} : gEq neg mem [.str a, .str b] = some (.bl (neg != decide (a = b))) := rfl
theorem wk_str {x : Str} (h : x.length ≤ 1000000) : wkOf mem (.str x) = some { items := (cl x).map fun c => .str ⟨#[c]⟩ } := by simp only [wkOf, if_pos h]
theorem w_slS {lo hi : Option Int} {z : Str} (h : z.length ≤ 1000000) (q : Q (.str (cutS z lo hi)) mem) : St (ofP (gSl lo hi mem [.str z])) Q X := by
  simp only [gSl, pu, if_pos h, Option.map_some, ofP, St]
  exact q
theorem w_slL {lo hi : Option Int} {ds : List D} (q : Q (.lst (cutD ds lo hi)) mem) : St (ofP (gSl lo hi mem [.lst ds])) Q X := q
theorem w_slT {lo hi : Option Int} {ds : List D} (q : Q (.tup (cutD ds lo hi)) mem) : St (ofP (gSl lo hi mem [.tup ds])) Q X := q
theorem w_split {z : Str} {c : Nat} (h : z.length ≤ 1000000) (q : Q (.lst ((spl c (cl z)).map fun l => .str (mkS l))) mem) : St (ofP (gSplit mem [.str z, .str ⟨#[c]⟩])) Q X := by
  have e : gSplit mem [.str z, .str ⟨#[c]⟩] = some (.lst ((spl c (cl z)).map fun l => .str (mkS l)), mem) := by
    unfold gSplit pu
    dsimp only
    rw [if_pos ⟨rfl, h⟩, split_is, List.map_map]
    rfl
  exact w_opd e q
theorem w_join {a : Str} {ys : List Str} (h : (ys.map (·.length)).sum + ys.length * a.length ≤ 1000000) (q : Q (.str (Txt.join a ys)) mem) : St (ofP (gJoin mem [.str a, .lst (ys.map D.str)])) Q X := by
  have e : gJoin mem [.str a, .lst (ys.map D.str)] = some (.str (Txt.join a ys), mem) := by
    unfold gJoin pu
    simp only [seqOf, strsOf_map, if_pos h, Option.map_some]
  exact w_opd e q
theorem w_ifB {t : Bool} {A B : Prop} (h1 : t = true → A) (h2 : t = false → B) : if t = true then A else B := by
  cases t with
  | true => exact h1 rfl
  | false => exact h2 rfl
theorem comp_mapA {α : Type} {g : Tg} {te : E1} {guard : Mem → Bool} {h : α → D} (f : α → D) (hg : guard mem = true) : ∀ (l : List α), (∀ a ∈ l, ∃ asg, g.asg mem (h a) = some asg ∧ te (setL loc asg) mem = .ok (f a) mem) → comp g bYes te guard (l.map h) loc mem = .ok (l.map f) mem
  | [], _ => by rw [List.map_nil, comp, if_pos hg]; rfl
  | a :: l, hh => by
    obtain ⟨asg, e1, e2⟩ := hh a List.mem_cons_self
    have ih := comp_mapA f hg l fun b hb => hh b (List.mem_cons_of_mem _ hb)
    rw [List.map_cons, comp, if_pos hg, e1]
    show (Res.bind (Res.ok true mem) _) = _
    simp only [Res.bind, if_true, e2, ih, List.map_cons]
theorem w_compA {α : Type} {QL : List D → Mem → Prop} {g : Tg} {te : E1} {guard : Mem → Bool} {l : List α} {h : α → D} (f : α → D) (hh : ∀ a ∈ l, ∃ asg, g.asg mem (h a) = some asg ∧ St (te (setL loc asg) mem) (fun x m => x = f a ∧ m = mem) No) (q : QL (l.map f) mem) (hg : guard mem = true := by rfl) : St (comp g bYes te guard (l.map h) loc mem) QL X :=
  st_eq (comp_mapA f hg l fun a ha => by
    obtain ⟨asg, e, h1⟩ := hh a ha
    obtain ⟨x, m, e2, rfl, rfl⟩ := h1.get
    exact ⟨asg, e, e2⟩) q
end
end Mx

/-! M48: plain data: ==, in, repr. -/
namespace Mx
open PySem L2
/-- plain data of real signs, at most k deep -/
def Gd (k : Nat) (d : D) : Prop := ∃ p, D.py d = some p ∧ p.canLay0 = true ∧ p.depth ≤ k
abbrev sOk (x : Str) : Prop := ∀ c ∈ cl x, c < 1114112
theorem sOk_lay {x : Str} (h : sOk x) : (PyData.str x).canLay0 = true := by
  rw [PyData.canLay0]
  show (x.cps.all fun c => decide (c < 0x110000)) = true
  rw [← Array.all_toList, List.all_eq_true]
  exact fun c hc => decide_eq_true (h c hc)
theorem Gd.mono {j k : Nat} {d : D} (h : Gd j d) (hk : j ≤ k) : Gd k d := let ⟨p, e, l, g⟩ := h; ⟨p, e, l, Nat.le_trans g hk⟩
theorem gd_non {k : Nat} : Gd k .non := ⟨.none, by rw [D.py], rfl, by rw [PyData.depth]; exact Nat.zero_le _⟩
theorem gd_bl {k : Nat} (b : Bool) : Gd k (.bl b) := ⟨.bool b, by rw [D.py], rfl, by rw [PyData.depth]; exact Nat.zero_le _⟩
theorem gd_int {k : Nat} (i : Int) : Gd k (.int i) := ⟨.int i, by rw [D.py], rfl, by rw [PyData.depth]; exact Nat.zero_le _⟩
theorem gd_str {k : Nat} {x : Str} (h : sOk x) : Gd k (.str x) := ⟨.str x, by rw [D.py], sOk_lay h, by rw [PyData.depth]; exact Nat.zero_le _⟩
theorem gd_all {k : Nat} : ∀ {ds : List D}, (∀ d ∈ ds, Gd k d) → ∃ ps, D.pyL ds = some ps ∧ PyData.canLayAll0 ps = true ∧ PyData.depthAll ps ≤ k
  | [], _ => ⟨[], by rw [D.pyL], rfl, by rw [PyData.depthAll]; exact Nat.zero_le _⟩
  | d :: ds, h => by
    obtain ⟨p, e, l, g⟩ := h d List.mem_cons_self
    obtain ⟨ps, e2, l2, g2⟩ := gd_all fun x hx => h x (List.mem_cons_of_mem _ hx)
    exact ⟨p :: ps, by rw [D.pyL, e, e2], by rw [PyData.canLayAll0, l, l2]; rfl, by rw [PyData.depthAll]; exact Nat.max_le.mpr ⟨g, g2⟩⟩
theorem gd_tup {k : Nat} {ds : List D} (h : ∀ d ∈ ds, Gd k d) : Gd (k + 1) (.tup ds) := by
  obtain ⟨ps, e, l, g⟩ := gd_all h
  exact ⟨.tuple ps, by rw [D.py, e], by rw [PyData.canLay0]; exact l, by rw [PyData.depth]; omega⟩
theorem gd_lst {k : Nat} {ds : List D} (h : ∀ d ∈ ds, Gd k d) : Gd (k + 1) (.lst ds) := by
  obtain ⟨ps, e, l, g⟩ := gd_all h
  exact ⟨.list ps, by rw [D.py, e], by rw [PyData.canLay0]; exact l, by rw [PyData.depth]; omega⟩
theorem Gd.rd {k : Nat} {d : D} (h : Gd k d) (mem : Mem) : rdC mem d = d := by
  obtain ⟨p, e, _⟩ := h
  cases d with
  | ref n => rw [D.py] at e; cases e
  | _ => rfl
def eqD (d e : D) : Bool := match D.py d, D.py e with
  | some p, some q => PyData.eqv p q
  | _, _ => false
theorem Gd.shaped {k : Nat} {d : D} (h : Gd k d) (hk : k ≤ 64) : ∃ p, D.py d = some p ∧ SeqAt.shaped p = true := by
  obtain ⟨p, e, l, g⟩ := h
  exact ⟨p, e, by unfold SeqAt.shaped; rw [l, decide_eq_true (by omega)]; rfl⟩
theorem eq_gd {k : Nat} {d e : D} {neg : Bool} {mem : Mem} (h1 : Gd k d) (h2 : Gd k e) (hk : k ≤ 64) : gEq neg mem [d, e] = some (.bl (neg != eqD d e)) := by
  obtain ⟨p, e1, s1⟩ := h1.shaped hk
  obtain ⟨q, e2, s2⟩ := h2.shaped hk
  have key : gEqD neg mem [d, e] = some (.bl (neg != eqD d e)) := by
    unfold gEqD
    dsimp only
    rw [h1.rd, h2.rd, e1, e2]
    dsimp only
    rw [s1, s2, Bool.and_self, if_pos rfl]
    unfold eqD
    rw [e1, e2]
  unfold gEq
  split
  · rename_i a b he
    cases he
    unfold eqD
    rw [D.py, D.py]
    show _ = some (D.bl (neg != PyData.eqv (.str a) (.str b)))
    rw [PyData.eqv]
    rfl
  · exact key
mutual
theorem eqv_self : ∀ p : PyData, p.canLay0 = true → PyData.eqv p p = true
  | .none, _ => rfl
  | .bool b, _ => by rw [PyData.eqv]; simp
  | .int i, _ => by rw [PyData.eqv]; simp
  | .str x, _ => by rw [PyData.eqv]; simp
  | .list ps, h => by rw [PyData.eqv]; exact eqvAll_self ps (by rw [PyData.canLay0] at h; exact h)
  | .tuple ps, h => by rw [PyData.eqv]; exact eqvAll_self ps (by rw [PyData.canLay0] at h; exact h)
  | .dict ps, h => by rw [PyData.canLay0] at h; cases h
theorem eqvAll_self : ∀ ps : List PyData, PyData.canLayAll0 ps = true → PyData.eqvAll ps ps = true
  | [], _ => rfl
  | p :: ps, h => by
    rw [PyData.canLayAll0, Bool.and_eq_true] at h
    rw [PyData.eqvAll, eqv_self p h.1, eqvAll_self ps h.2]
    rfl
end
theorem eqD_self {k : Nat} {d : D} (h : Gd k d) : eqD d d = true := by
  obtain ⟨p, e, l, _⟩ := h
  unfold eqD
  rw [e]
  exact eqv_self p l
theorem eq_self {k : Nat} {d : D} {neg : Bool} {mem : Mem} (h : Gd k d) (hk : k ≤ 64) : gEq neg mem [d, d] = some (.bl (!neg)) := by
  rw [eq_gd h h hk, eqD_self h]
  cases neg <;> rfl
/-- a text is no tuple, no list, no None, no number -/
theorem eqD_strT {k : Nat} {x : Str} {ds : List D} (h : Gd k (.tup ds)) : eqD (.tup ds) (.str x) = false := by
  obtain ⟨p, e, _⟩ := h
  unfold eqD
  rw [e, D.py]
  rw [D.py] at e
  split at e
  · cases e; rfl
  · cases e
theorem eqD_lstS {k : Nat} {x : Str} {ds : List D} (h : Gd k (.lst ds)) : eqD (.lst ds) (.str x) = false := by
  obtain ⟨p, e, _⟩ := h
  unfold eqD
  rw [e, D.py]
  rw [D.py] at e
  split at e
  · cases e; rfl
  · cases e
theorem any_py {k : Nat} {x : D} {p : PyData} (hx : D.py x = some p) : ∀ {ds : List D} {ps : List PyData}, D.pyL ds = some ps → (ps.any fun z => PyData.eqv z p) = ds.any fun d => eqD d x
  | [], ps, h => by rw [D.pyL] at h; cases h; rfl
  | d :: ds, ps, h => by
    rw [D.pyL] at h
    split at h
    · rename_i q qs e1 e2
      cases h
      rw [List.any_cons, List.any_cons, any_py (k := k) hx e2]
      congr 1
      unfold eqD
      rw [e1, hx]
    · cases h
theorem in_lst {k : Nat} {x : D} {ds : List D} {neg : Bool} {mem : Mem} (h1 : Gd k x) (h2 : Gd k (.lst ds)) (hk : k ≤ 64) : gIn neg mem [x, .lst ds] = some (.bl (neg != ds.any fun d => eqD d x)) := by
  obtain ⟨p, e1, s1⟩ := h1.shaped hk
  obtain ⟨q, e2, s2⟩ := h2.shaped hk
  have e0 := e2
  rw [D.py] at e2
  split at e2
  · rename_i ps ep
    cases e2
    unfold gIn
    split
    · rename_i heq; cases heq
    · rename_i a b _ heq
      cases heq
      rw [h1.rd, h2.rd, e1, e0]
      dsimp only
      rw [s1, s2, Bool.and_self, if_pos rfl, any_py (k := k) e1 ep]
    · rename_i hh
      exact absurd rfl (hh _ _)
  · cases e2
theorem in_tup {k : Nat} {x : D} {ds : List D} {neg : Bool} {mem : Mem} (h1 : Gd k x) (h2 : Gd k (.tup ds)) (hk : k ≤ 64) : gIn neg mem [x, .tup ds] = some (.bl (neg != ds.any fun d => eqD d x)) := by
  obtain ⟨p, e1, s1⟩ := h1.shaped hk
  obtain ⟨q, e2, s2⟩ := h2.shaped hk
  have e0 := e2
  rw [D.py] at e2
  split at e2
  · rename_i ps ep
    cases e2
    unfold gIn
    split
    · rename_i heq; cases heq
    · rename_i a b _ heq
      cases heq
      rw [h1.rd, h2.rd, e1, e0]
      dsimp only
      rw [s1, s2, Bool.and_self, if_pos rfl, any_py (k := k) e1 ep]
    · rename_i hh
      exact absurd rfl (hh _ _)
  · cases e2
theorem eqD_strs {a b : Str} : eqD (.str a) (.str b) = decide (a = b) := by
  unfold eqD
  rw [D.py, D.py]
  show PyData.eqv (.str a) (.str b) = _
  rw [PyData.eqv]
  by_cases c : a = b
  · subst c; simp
  · rw [decide_eq_false c]; exact beq_eq_false_iff_ne.mpr c
/-- repr tells of d, whatever the memory is -/
def Rp (d : D) : Prop := ∃ t : Str, ∀ mem, gRep mem [d] = some (.str t)
theorem sh_strO {x : Str} {n : Nat} (h : x.length ≤ n) (hc : sOk x) : Sh 0 (15 * n + 13) (.str x) := sh_str h (sOk_lay hc)
theorem rp_str {x : Str} (h : x.length ≤ 60000) (hc : sOk x) : Rp (.str x) := by
  obtain ⟨p, e, s, g, l⟩ := sh_strO h hc
  rw [D.pyR] at e
  cases e
  have l2 : (reprText x).length ≤ 15 * 60000 + 13 := by
    have : (PyData.str x).shown = reprText x := by rw [PyData.shown]
    rw [this] at l
    exact l
  refine ⟨reprText x, fun mem => ?_⟩
  have e3 : gRepS mem [.str x] = some (.str (reprText x)) := by
    simp only [gRepS]
    rw [if_pos (by omega)]
  unfold gRep orG
  rw [e3]
theorem rp_tup {ds : List D} {dp b : Nat} (h : Sh dp b (.tup ds)) (h1 : dp ≤ 100) (h2 : b ≤ 1000000) : Rp (.tup ds) := by
  obtain ⟨p, e, s, g, l⟩ := h
  have ep : ∃ ps, p = .tuple ps := by
    rw [D.pyR] at e
    split at e
    · cases e; exact ⟨_, rfl⟩
    · cases e
  obtain ⟨ps, rfl⟩ := ep
  refine ⟨(PyData.tuple ps).shown, fun mem => ?_⟩
  have e2 : D.pyR (rdC mem (.tup ds)) = some (.tuple ps) := e
  have e3 : gRep mem [.tup ds] = gRepr mem [.tup ds] := rfl
  rw [e3]
  simp only [gRepr, e2]
  rw [if_pos ⟨s, Nat.le_trans g h1, Nat.le_trans l h2⟩]
theorem rp_lst {ds : List D} {dp b : Nat} (h : Sh dp b (.lst ds)) (h1 : dp ≤ 100) (h2 : b ≤ 1000000) : Rp (.lst ds) := rep_lst h h1 h2
theorem le_one {a b : Nat} {mem : Mem} : gLe mem [.str ⟨#[a]⟩, .str ⟨#[b]⟩] = some (.bl (decide (a ≤ b))) := by
  show some (D.bl (!decide ([b] < [a]))) = _
  rw [PySem.StrLaws.lt_cons_cons, PySem.StrLaws.lt_nil_nil]
  congr 2
  by_cases h : a ≤ b
  · rw [decide_eq_true h, decide_eq_false (by omega)]; simp
  · rw [decide_eq_false h, decide_eq_true (by omega)]; simp
theorem filt_empty {α : Type} (p : α → Bool) (l : List α) : (l.filter p).isEmpty = l.all fun a => !p a := by
  induction l with
  | nil => rfl
  | cons a l ih =>
    rw [List.filter_cons, List.all_cons]
    cases p a with
    | true => rfl
    | false => simpa using ih
theorem eq_int {a b : Int} {neg : Bool} {mem : Mem} : gEq neg mem [.int a, .int b] = some (.bl (neg != decide (a = b))) := by
  rw [eq_gd (gd_int (k := 0) a) (gd_int b) (by decide)]
  congr 2
theorem ix_lst0 {x : D} {xs : List D} {mem : Mem} : gIx mem [.lst (x :: xs), .int 0] = some x := by
  show atI (x :: xs) 0 = some x
  exact atI_nat (x :: xs) 0
theorem le_int {a b : Int} {mem : Mem} : gLe mem [.int a, .int b] = some (.bl (decide (a ≤ b))) := rfl
theorem lt_int {a b : Int} {mem : Mem} : gLt mem [.int a, .int b] = some (.bl (decide (a < b))) := rfl
theorem gt_int {a b : Int} {mem : Mem} : gGt mem [.int a, .int b] = some (.bl (decide (b < a))) := rfl
theorem ge_int {a b : Int} {mem : Mem} : gGe mem [.int a, .int b] = some (.bl (decide (b ≤ a))) := rfl
theorem sub_int {a b : Int} {mem : Mem} : gMinus mem [.int a, .int b] = some (.int (a - b)) := rfl
theorem add_int {a b : Int} {mem : Mem} : gAdd mem [.int a, .int b] = some (.int (a + b)) := rfl
section
variable {Q : D → Mem → Prop} {X : Ex → Mem → Prop} {mem : Mem}
theorem starts1 (x : Str) (c : Nat) : Txt.startswith x ⟨#[c]⟩ = decide ((cl x)[0]? = some c) := by
  rw [Bool.eq_iff_iff, decide_eq_true_eq, ← PySem.StrLaws.subAt_one x c 0]
  unfold Txt.startswith
  rw [Bool.and_eq_true, decide_eq_true_eq]
theorem w_starts {z : Str} {c : Nat} (q : Q (.bl (decide ((cl z)[0]? = some c))) mem) : St (ofP (gStarts mem [.str z, .str ⟨#[c]⟩])) Q X := by
  rw [← starts1] at q
  exact q
theorem w_part0 {z : Str} {c : Nat} (h : z.length ≤ 1000000) (hn : c ∉ cl z) (q : Q (.tup [.str z, .str Str.empty, .str Str.empty]) mem) : St (ofP (gPart mem [.str z, .str ⟨#[c]⟩])) Q X := by
  have e : gPart mem [.str z, .str ⟨#[c]⟩] = some (.tup [.str z, .str Str.empty, .str Str.empty], mem) := by
    unfold gPart pu
    dsimp only
    rw [if_pos ⟨rfl, h⟩, part_none hn]
    rfl
  exact w_opd e q
theorem w_part1 {z : Str} {c : Nat} {p r : List Nat} (h : z.length ≤ 1000000) (e : cl z = p ++ c :: r) (hp : c ∉ p) (q : Q (.tup [.str (mkS p), .str ⟨#[c]⟩, .str (mkS r)]) mem) : St (ofP (gPart mem [.str z, .str ⟨#[c]⟩])) Q X := by
  have e : gPart mem [.str z, .str ⟨#[c]⟩] = some (.tup [.str (mkS p), .str ⟨#[c]⟩, .str (mkS r)], mem) := by
    unfold gPart pu
    dsimp only
    rw [if_pos ⟨rfl, h⟩, part_some e hp]
    rfl
  exact w_opd e q
theorem w_rep {d : D} {t : Str} (h : ∀ mem, gRep mem [d] = some (.str t)) (q : Q (.str t) mem) : St (ofP (pu gRep mem [d])) Q X := w_op (h mem) q
theorem w_app {n : Nat} {es : List D} {v : D} (h : mem[n]? = some (.lst es)) (hl : es.length ≤ 1000000) (q : Q .non (mem.set n (.lst (es ++ [v])))) : St (ofP (gApp mem [.ref n, v])) Q X := by
  refine w_opd (z := .non) (m := mem.set n (.lst (es ++ [v]))) ?_ q
  simp only [gApp, h, if_pos hl]
theorem tyL_ref {n : Nat} {es : List D} (h : mem[n]? = some (.lst es)) : tyL mem (.ref n) = true := by simp only [tyL, h]
theorem get_last {c : Cell} : (mem ++ [c])[mem.length]? = some c := by simp
theorem set_last {c c' : Cell} : (mem ++ [c]).set mem.length c' = mem ++ [c'] := by simp
theorem tup_ref {n : Nat} {es : List D} (h : mem[n]? = some (.lst es)) : gTuple mem [.ref n] = some (.tup es) := by simp only [gTuple, seqOf, h, Option.map_some]
end
end Mx

/-! M49: the dice, run backwards. -/
namespace Mx
open PySem L2
/-- since b but cell n all has stayed; n holds dice, k rolls at most behind -/
def Sv (n k : Nat) (b m : Mem) : Prop := Stp n b m ∧ Dst n k m
section
variable {n k : Nat} {b m m' : Mem} {Q : D → Mem → Prop} {X : Ex → Mem → Prop}
theorem Sv.mono {j : Nat} (h : Sv n k b m) (hk : k ≤ j) : Sv n j b m := ⟨h.1, h.2.mono hk⟩
theorem Sv.app (h : Sv n k b m) (r : Mem) : Sv n k b (m ++ r) := ⟨h.1.trans (Stp.app _ _), h.2.app r⟩
theorem Sv.get {i : Nat} {c : Cell} (h : Sv n k b m) (hi : i ≠ n) (e : b[i]? = some c) : m[i]? = some c := h.1.get hi e
theorem Sv.trans {j : Nat} {c : Mem} (h : Sv n k b m) (h2 : Sv n j m c) : Sv n j b c := ⟨h.1.trans h2.1, h2.2⟩
theorem Sv.start (h : Dst n k m) : Sv n k m m := ⟨Stp.refl _ _, h⟩
theorem w_roll {t : Int} (h : Sv n k b m) (hk : k < 900000) (t0 : 0 < t) (t1 : t < 9000) (q : ∀ (r : Int) m', 0 ≤ r → r < t → Sv n (k + 1) b m' → Q (.int r) m') : St (fRoll [.ref n, .int t] m) Q X := by
  obtain ⟨r, m', e, r0, r1, s, d, _⟩ := roll2 h.2 hk t0 t1
  exact st_eq e (q r m' r0 r1 ⟨h.1.trans s, d⟩)
theorem w_rollL {t : Int} (h : Sv n k b m) (hk : k < 900000) (t0 : 0 < t) (t1 : t < 9000) (q : ∀ (r : Int) m', 0 ≤ r → r < t → Sv n (k + 1) b m' → m'.length = m.length → Q (.int r) m') : St (fRoll [.ref n, .int t] m) Q X := by
  obtain ⟨r, m', e, r0, r1, s, d, l⟩ := roll2 h.2 hk t0 t1
  exact st_eq e (q r m' r0 r1 ⟨h.1.trans s, d⟩ l)
theorem w_oneOf {ds : List D} (h : Sv n k b m) (hk : k < 900000) (l0 : 0 < ds.length) (l1 : ds.length < 9000) (q : ∀ x m', x ∈ ds → Sv n (k + 1) b m' → Q x m') : St (fOneOf [.ref n, .lst ds] m) Q X := by
  obtain ⟨x, m', e, hx, s, d⟩ := oneOf2 h.2 hk l0 l1
  exact st_eq e (q x m' hx ⟨h.1.trans s, d.1⟩)
theorem w_ixIn {ds : List D} {r : Int} (h0 : 0 ≤ r) (h1 : r < ds.length) (q : ∀ x ∈ ds, Q x m) : St (ofP (pu gIx m [.lst ds, .int r])) Q X := by
  obtain ⟨x, _, e, hx⟩ := atI_in (xs := ds) h0 h1
  exact w_op (z := x) e (q x hx)
end
theorem abc_ix {r : Int} (h0 : 0 ≤ r) (h1 : r < 26) {mem : Mem} : ∃ c, (97 ≤ c ∧ c ≤ 122) ∧ gIx mem [.str "abcdefghijklmnopqrstuvwxyz", .int r] = some (.str ⟨#[c]⟩) := by
  have e0 : ("abcdefghijklmnopqrstuvwxyz" : Str).cps.toList = [97, 98, 99, 100, 101, 102, 103, 104, 105, 106, 107, 108, 109, 110, 111, 112, 113, 114, 115, 116, 117, 118, 119, 120, 121, 122] := by kernel_rfl
  obtain ⟨c, _, e, hc⟩ := atI_in (xs := [97, 98, 99, 100, 101, 102, 103, 104, 105, 106, 107, 108, 109, 110, 111, 112, 113, 114, 115, 116, 117, 118, 119, 120, 121, 122]) h0 (by simpa using h1)
  refine ⟨c, ?_, ?_⟩
  · simp only [List.mem_cons, List.not_mem_nil, or_false] at hc
    omega
  · have hl : ("abcdefghijklmnopqrstuvwxyz" : Str).length ≤ 1000000 := by
      rw [← cl_len]
      show ("abcdefghijklmnopqrstuvwxyz" : Str).cps.toList.length ≤ _
      rw [e0]
      decide
    simp only [gIx, if_pos hl, e0, e, Option.map_some]
theorem singles {ds : List D} {P : Nat → Prop} (h : ∀ x ∈ ds, ∃ c, P c ∧ x = .str ⟨#[c]⟩) : ∃ ls : List Nat, ds = ls.map (fun c => D.str ⟨#[c]⟩) ∧ ∀ c ∈ ls, P c := by
  induction ds with
  | nil => exact ⟨[], rfl, fun c hc => by cases hc⟩
  | cons x ds ih =>
    obtain ⟨ls, e, hp⟩ := ih fun y hy => h y (List.mem_cons_of_mem _ hy)
    obtain ⟨c, pc, rfl⟩ := h x List.mem_cons_self
    refine ⟨c :: ls, by rw [e]; rfl, fun d hd => ?_⟩
    rcases List.mem_cons.mp hd with rfl | hd
    · exact pc
    · exact hp d hd
theorem flat_one : ∀ ls : List Nat, ((ls.map fun c => (⟨#[c]⟩ : Str)).map cl).flatten = ls
  | [] => rfl
  | c :: ls => by
    rw [List.map_cons, List.map_cons, List.flatten_cons, flat_one ls]
    rfl
/-- all of a list are f of something -/
theorem images {α : Type} {ds : List D} {f : α → D} {P : α → Prop} (h : ∀ x ∈ ds, ∃ a, P a ∧ x = f a) : ∃ ls : List α, ds = ls.map f ∧ ∀ a ∈ ls, P a := by
  induction ds with
  | nil => exact ⟨[], rfl, fun c hc => by cases hc⟩
  | cons x ds ih =>
    obtain ⟨ls, e, hp⟩ := ih fun y hy => h y (List.mem_cons_of_mem _ hy)
    obtain ⟨c, pc, rfl⟩ := h x List.mem_cons_self
    refine ⟨c :: ls, by rw [e]; rfl, fun d hd => ?_⟩
    rcases List.mem_cons.mp hd with rfl | hd
    · exact pc
    · exact hp d hd
theorem sum_le {ys : List Str} {b : Nat} (h : ∀ y ∈ ys, y.length ≤ b) : (ys.map (·.length)).sum ≤ ys.length * b := by
  induction ys with
  | nil => simp
  | cons y ys ih =>
    have := h y List.mem_cons_self
    have := ih fun z hz => h z (List.mem_cons_of_mem _ hz)
    rw [List.map_cons, List.sum_cons, List.length_cons, Nat.succ_mul]
    omega
theorem w_joinB {Q : D → Mem → Prop} {X : Ex → Mem → Prop} {mem : Mem} {a : Str} {ys : List Str} (h : ys.length ≤ 1000) (h1 : ∀ y ∈ ys, y.length ≤ 500) (ha : a.length ≤ 10) (q : Q (.str (Txt.join a ys)) mem) : St (ofP (gJoin mem [.str a, .lst (ys.map D.str)])) Q X := by
  refine w_join ?_ q
  have h2 := sum_le h1
  have h3 : ys.length * a.length ≤ 1000 * 10 := Nat.mul_le_mul h ha
  have h4 : ys.length * 500 ≤ 1000 * 500 := Nat.mul_le_mul_right _ h
  omega
theorem eqD_nil {k : Nat} {ds : List D} (h : Gd k (.tup ds)) : eqD (.tup ds) (.tup []) = ds.isEmpty := by
  obtain ⟨p, e, _⟩ := h
  have e0 := e
  rw [D.py] at e
  split at e
  · rename_i ps ep
    cases e
    unfold eqD
    rw [e0]
    cases ds with
    | nil => rw [D.pyL] at ep; cases ep; rfl
    | cons d ds =>
      rw [D.pyL] at ep
      split at ep
      · cases ep; rfl
      · cases ep
  · cases e
theorem Ss.imp {r : RS} {P P' : Po} (h : Ss r P) (h1 : ∀ l m, P.nx l m → P'.nx l m) (h2 : ∀ d m, P.rt d m → P'.rt d m) (h3 : ∀ l m, P.bk l m → P'.bk l m) (h4 : ∀ l m, P.ct l m → P'.ct l m) (h5 : ∀ e m, P.ex e m → P'.ex e m) : Ss r P' := by
  cases r with
  | nx l m => exact h1 _ _ h
  | rt d m => exact h2 _ _ h
  | bk l m => exact h3 _ _ h
  | ct l m => exact h4 _ _ h
  | ex e l m => exact h5 _ _ h
  | bad => exact h
/-- it goes on -/
abbrev goOn (N : Mx.Env → Mem → Prop) : Po := ⟨N, fun _ _ => False, fun _ _ => False, fun _ _ => False, fun _ _ => False⟩
theorem Ss.on {r : RS} {N : Mx.Env → Mem → Prop} {P : Po} (h : Ss r (goOn N)) (h1 : ∀ l m, N l m → P.nx l m) : Ss r P := h.imp h1 (fun _ _ x => x.elim) (fun _ _ x => x.elim) (fun _ _ x => x.elim) fun _ _ x => x.elim
/-- range(max(1, min(c, len(script)))) -/
theorem w_cells {c : Nat} {ds : List D} {loc : Mx.Env} {mem : Mem} {QW : Wk → Mem → Prop} {X : Ex → Mem → Prop} (h : loc[0]? = some (some (.scr ds))) (c1 : 1 ≤ c) (c2 : c ≤ 1000) (q : ∀ j, j ≤ c → QW { items := rangeD 0 j } mem) :
    St (wRange1 (lCons (eN (pu gMax2) (lCons (eC (.int 1)) (lCons (eN (pu gMin2) (lCons (eC (.int (c : Nat))) (lCons (eN (pu gLen) (lCons (eVar 0) (lNil))) (lNil)))) (lNil)))) (lNil)) loc mem) QW X := by
  refine w_range1 (w_cons (w_n (w_cons (w_c (w_cons (w_n (w_cons (w_c (w_cons (w_n (w_cons (w_var h (w_nil (w_op (z := .int (ds.length : Nat)) rfl (w_nil (w_op rfl (w_nil (w_op rfl (w_nil ⟨_, rfl, ?_, ?_⟩)))))))))))))))))))
  · constructor
    · split <;> split <;> omega
    · split <;> split <;> omega
  · refine q _ ?_
    split <;> split <;> omega
theorem w_diceF {ns : List Int} {k : Nat} {mem : Mem} {Q : D → Mem → Prop} {X : Ex → Mem → Prop} (hk : k ≤ 1000) (q : ∀ m', Sv mem.length 0 mem m' → Q (.ref mem.length) m') : St (fDice [.scr (ns.map .int), .int (k : Nat)] mem) Q X := by
  obtain ⟨g, s, e, d⟩ := dice_ok (ns := ns) (mem := mem) hk
  refine st_eq e (q _ ⟨Stp.app _ _, 0, g, s, 0, by simp, d, Nat.le_refl _⟩)
theorem st_ex_eq {β : Type} {r : Res β} {e0 : Ex} {m0 : Mem} (h : St r (fun _ _ => False) (fun e m => e = e0 ∧ m = m0)) : r = .ex e0 m0 := by
  cases r with
  | ok b m => exact h.elim
  | ex e m => obtain ⟨rfl, rfl⟩ := h; rfl
  | bad => exact h.elim
end Mx

namespace K70
open PySem L2 Mx
def top (i : Nat) : Stmt := PySem.Challenge.pw_halflink_k70_words_and_moves_as_texts.main.body.getD i (.Pass ⟨0, 0, 0, 0⟩)
def initOf (i : Nat) : Stmt := match top i with
  | .ClassDef _ _ _ b _ _ _ _ _ _ _ => b.getD 0 (.Pass ⟨0, 0, 0, 0⟩)
  | _ => .Pass ⟨0, 0, 0, 0⟩
abbrev C_LinkError : Addr := 24
abbrev C_InvalidWord : Addr := 37
abbrev C_InvalidOperation : Addr := 49
abbrev C_ParseError : Addr := 61
abbrev mVal : List Value := [.type "ValueError", .type "Exception", .type "BaseException", .type "object"]
abbrev hl_LinkError : List (Addr × Bool) := [(C_LinkError, true), (C_InvalidWord, true), (C_InvalidOperation, true), (C_ParseError, true)]
def hit_LinkError : Addr → Option Bool := hitOf hl_LinkError
abbrev hl_InvalidWord : List (Addr × Bool) := [(C_LinkError, false), (C_InvalidWord, true), (C_InvalidOperation, false), (C_ParseError, false)]
def hit_InvalidWord : Addr → Option Bool := hitOf hl_InvalidWord
abbrev hl_InvalidOperation : List (Addr × Bool) := [(C_LinkError, false), (C_InvalidWord, false), (C_InvalidOperation, true), (C_ParseError, false)]
def hit_InvalidOperation : Addr → Option Bool := hitOf hl_InvalidOperation
abbrev hl_ParseError : List (Addr × Bool) := [(C_LinkError, false), (C_InvalidWord, false), (C_InvalidOperation, false), (C_ParseError, true)]
def hit_ParseError : Addr → Option Bool := hitOf hl_ParseError
abbrev K_words_right : Addr := 243
abbrev P_words_right : Addr := 241
abbrev q_words_right : Str := "_law_words_right.<locals>.<lambda>"
abbrev K_moves_right : Addr := 248
abbrev P_moves_right : Addr := 246
abbrev q_moves_right : Str := "_law_moves_right.<locals>.<lambda>"
abbrev K_law : Addr := 255
abbrev P_law : Addr := 251
abbrev q_law : Str := "law.<locals>.<lambda>"
abbrev kvSIGNS : List (Str × D) := [("send", .str "!"), ("take", .str "?")]
structure Txt (P : Program) (w : World) (K : PySem.W.Frag) (mg : Str → Option Value) (base : Heap) : Prop where
  sys : SysD base
  nosup : mg "super" = none
  b_len : mg "len" = none
  b_abs : mg "abs" = none
  b_int : mg "int" = none
  b_enumerate : mg "enumerate" = none
  b_range : mg "range" = none
  b_max : mg "max" = none
  b_min : mg "min" = none
  b_isinstance : mg "isinstance" = none
  b_repr : mg "repr" = none
  b_all : mg "all" = none
  b_tuple : mg "tuple" = none
  b_list : mg "list" = none
  b_str : mg "str" = none
  b_bool : mg "bool" = none
  k_MAX_TRANSITIONS : GlD K mg "MAX_TRANSITIONS" (.int 90)
  k_MAX_LETTERS : GlD K mg "MAX_LETTERS" (.int 8)
  k_ALPHABET : GlD K mg "ALPHABET" (.str "abcdefghijklmnopqrstuvwxyz")
  k_SEND : GlD K mg "SEND" (.str "send")
  k_TAKE : GlD K mg "TAKE" (.str "take")
  k_NOTHING : GlD K mg "NOTHING" (.str "-")
  k_DIGITS : GlD K mg "DIGITS" (.str "0123456789")
  kd_SIGNS : KDc K w mg "SIGNS" kvSIGNS
  g_LinkError : mg "LinkError" = some (.ref C_LinkError)
  g_InvalidWord : mg "InvalidWord" = some (.ref C_InvalidWord)
  g_InvalidOperation : mg "InvalidOperation" = some (.ref C_InvalidOperation)
  g_ParseError : mg "ParseError" = some (.ref C_ParseError)
  hit_LinkError : ∀ C b, hit_LinkError C = some b → PySem.W.exmOne K (.ref C) (.ref C_LinkError) = some b
  hit_InvalidWord : ∀ C b, hit_InvalidWord C = some b → PySem.W.exmOne K (.ref C) (.ref C_InvalidWord) = some b
  hit_InvalidOperation : ∀ C b, hit_InvalidOperation C = some b → PySem.W.exmOne K (.ref C) (.ref C_InvalidOperation) = some b
  hit_ParseError : ∀ C b, hit_ParseError C = some b → PySem.W.exmOne K (.ref C) (.ref C_ParseError) = some b
  ex_LinkError : PySem.W.excIn K C_LinkError mVal "ValueError.__new__" = true
  kp_LinkError : PySem.W.keepIn K (.ref C_LinkError) = true
  xs_LinkError : PySem.W.subIn K (.ref C_LinkError) (.type "BaseException") = some true
  xt_LinkError : PySem.W.typeIn K (.ref C_LinkError) = some (.type "type")
  ex_InvalidWord : PySem.W.excIn K C_InvalidWord mVal "ValueError.__new__" = true
  kp_InvalidWord : PySem.W.keepIn K (.ref C_InvalidWord) = true
  xs_InvalidWord : PySem.W.subIn K (.ref C_InvalidWord) (.type "BaseException") = some true
  xt_InvalidWord : PySem.W.typeIn K (.ref C_InvalidWord) = some (.type "type")
  ex_InvalidOperation : PySem.W.excIn K C_InvalidOperation mVal "ValueError.__new__" = true
  kp_InvalidOperation : PySem.W.keepIn K (.ref C_InvalidOperation) = true
  xs_InvalidOperation : PySem.W.subIn K (.ref C_InvalidOperation) (.type "BaseException") = some true
  xt_InvalidOperation : PySem.W.typeIn K (.ref C_InvalidOperation) = some (.type "type")
  ex_ParseError : PySem.W.excIn K C_ParseError mVal "ValueError.__new__" = true
  kp_ParseError : PySem.W.keepIn K (.ref C_ParseError) = true
  xs_ParseError : PySem.W.subIn K (.ref C_ParseError) (.type "BaseException") = some true
  xt_ParseError : PySem.W.typeIn K (.ref C_ParseError) = some (.type "type")
variable {P : Program} {w : World} {K : PySem.W.Frag} {mg : Str → Option Value} {base : Heap}
abbrev s_is_integer : Stmt := top 11
abbrev N_is_integer : List Str := ["value"]
theorem sc_is_integer : FnScope N_is_integer ["value"] (defScope s_is_integer) := ⟨rfl, rfl, rfl, by decide +kernel, rfl, by decide +kernel, by decide +kernel⟩
def m_is_integer : S1 := sRet (eAnd (eN (pu gIsi) (lCons (eVar 0) (lCons (eC (.con (.ty "int"))) (lNil)))) (eNot (eN (pu gIsi) (lCons (eVar 0) (lCons (eC (.con (.ty "bool"))) (lNil))))))
theorem d_is_integer (T : Txt P w K mg base)  {f : Addr} {cdv : Value} {A : Around} {outer : List PySem.Env} {s : Shared} {H : Hp} {E : XK} (rm : Rm 1 (A.deeper (PyProof.Rows.envOfC "is_integer" (defScope s_is_integer) s.heap.objs.size f cdv))) :
    MSs (cxF P w K mg base N_is_integer "is_integer" s_is_integer f cdv A outer s H E) (wxF E) (defBody s_is_integer) m_is_integer := by
  exact mss_one (ms_ret (me_and (me_bB call_gIsi (by rfl) T.b_isinstance (by decide +kernel) (ml_cons (me_var (pv 0)) (ml_cons (me_ty (by rfl) T.b_int (by decide +kernel)) (ml_nil)))) (me_one (me_not (me_bB call_gIsi (by rfl) T.b_isinstance (by decide +kernel) (ml_cons (me_var (pv 0)) (ml_cons (me_ty (by rfl) T.b_bool (by decide +kernel)) (ml_nil))))))))
def F_is_integer : Fn := runB N_is_integer.length m_is_integer
abbrev s_is_between : Stmt := top 12
abbrev N_is_between : List Str := ["value", "low", "high"]
theorem sc_is_between : FnScope N_is_between ["value", "low", "high"] (defScope s_is_between) := ⟨rfl, rfl, rfl, by decide +kernel, rfl, by decide +kernel, by decide +kernel⟩
def m_is_between : S1 := sRet (eAnd (eCall F_is_integer (lCons (eVar 0) (lNil))) (eCh (pu gLe) (pu gLe) (eVar 1) (eVar 0) (eVar 2)))
theorem d_is_between (T : Txt P w K mg base) (c_is_integer : Cal P w K mg base 2 "is_integer" ["value"] F_is_integer) {f : Addr} {cdv : Value} {A : Around} {outer : List PySem.Env} {s : Shared} {H : Hp} {E : XK} (rm : Rm 2 (A.deeper (PyProof.Rows.envOfC "is_between" (defScope s_is_between) s.heap.objs.size f cdv))) :
    MSs (cxF P w K mg base N_is_between "is_between" s_is_between f cdv A outer s H E) (wxF E) (defBody s_is_between) m_is_between := by
  exact mss_one (ms_ret (me_and (me_call c_is_integer (rm.mono (by decide)) (by rfl) tkF (ml_cons (me_var (pv 0)) (ml_nil))) (me_one (me_ch op_gLe op_gLe (me_var (pv 1)) (me_var (pv 0)) (me_var (pv 2))))))
def F_is_between : Fn := runB N_is_between.length m_is_between
abbrev s_is_name : Stmt := top 13
abbrev N_is_name : List Str := ["value", "sign"]
theorem sc_is_name : FnScope N_is_name ["value"] (defScope s_is_name) := ⟨rfl, rfl, rfl, by decide +kernel, rfl, by decide +kernel, by decide +kernel⟩
def m_is_name : S1 := sSeq (sIf (bOr (bNot (bE (eN (pu gIsi) (lCons (eVar 0) (lCons (eC (.con (.ty "str"))) (lNil)))))) (bNot (bE (eCh (pu gLe) (pu gLe) (eC (.int 1)) (eN (pu gLen) (lCons (eVar 0) (lNil))) (eC (.int 8)))))) (sRet (eC (.bl false))) (sNil)) (sRet (eN (pu gAll) (lCons (eLc [1] (.n 1) (wIt (eVar 0)) (bYes) (e2 (pu (gIn false)) (eVar 1) (eC (.str "abcdefghijklmnopqrstuvwxyz")))) (lNil))))
theorem d_is_name (T : Txt P w K mg base)  {f : Addr} {cdv : Value} {A : Around} {outer : List PySem.Env} {s : Shared} {H : Hp} {E : XK} (rm : Rm 1 (A.deeper (PyProof.Rows.envOfC "is_name" (defScope s_is_name) s.heap.objs.size f cdv))) :
    MSs (cxF P w K mg base N_is_name "is_name" s_is_name f cdv A outer s H E) (wxF E) (defBody s_is_name) m_is_name := by
  exact mss_cons (ms_if (MW.toT (mw_or (mt_not (mt_val (me_bB call_gIsi (by rfl) T.b_isinstance (by decide +kernel) (ml_cons (me_var (pv 0)) (ml_cons (me_ty (by rfl) T.b_str (by decide +kernel)) (ml_nil)))))) (mw_or1 (mt_not (mt_ch op_gLe op_gLe (me_int) (me_bB call_gLen (by rfl) T.b_len (by decide +kernel) (ml_cons (me_var (pv 0)) (ml_nil))) (me_gD T.k_MAX_LETTERS (by rfl))))))) (mss_one (ms_ret (me_bl))) (mss_nil)) (mss_one (ms_ret (me_bB (call_gAll rm.toRoom.hd) (by rfl) T.b_all (by decide +kernel) (ml_cons (me_lc (own := [("sign", 1)]) rfl sc_is_name.nd (blkOk_by (own := [("sign", 1)]) (N := N_is_name) (sc := defScope s_is_name) (by decide +kernel)) (by decide +kernel) (mi_it (me_var (pv 0))) (fun _ _ _ _ _ => mg_name (pg_name (i := 1) sc_is_name.nd rfl (Or.inl rfl))) (fun _ _ _ _ _ => mts_nil) (fun _ _ _ _ _ => me_cmp (op_gIn rm.u65) (by rfl) (me_var (pv 1)) (me_gD T.k_ALPHABET (by rfl)))) (ml_nil)))))
def F_is_name : Fn := runB N_is_name.length m_is_name
abbrev s_is_sign : Stmt := top 15
abbrev N_is_sign : List Str := ["value", "part"]
theorem sc_is_sign : FnScope N_is_sign ["value"] (defScope s_is_sign) := ⟨rfl, rfl, rfl, by decide +kernel, rfl, by decide +kernel, by decide +kernel⟩
def m_is_sign : S1 := sSeq (sIf (bOr (bNot (bE (eN (pu gIsi) (lCons (eVar 0) (lCons (eC (.con (.ty "tuple"))) (lNil)))))) (bOr (bE (e2 (pu (gEq true)) (eN (pu gLen) (lCons (eVar 0) (lNil))) (eC (.int 2)))) (bNot (bE (eN (pu gAll) (lCons (eLc [1] (.n 1) (wIt (eVar 0)) (bYes) (eN (pu gIsi) (lCons (eVar 1) (lCons (eC (.con (.ty "str"))) (lNil))))) (lNil))))))) (sRet (eC (.bl false))) (sNil)) (sRet (eAnd (e2 (pu (gIn false)) (e2 (pu gIx) (eVar 0) (eC (.int 0))) (eTup (lCons (eC (.str "send")) (lCons (eC (.str "take")) (lNil))))) (eCall F_is_name (lCons (e2 (pu gIx) (eVar 0) (eC (.int 1))) (lNil)))))
theorem d_is_sign (T : Txt P w K mg base) (c_is_name : Cal P w K mg base 2 "is_name" ["value"] F_is_name) {f : Addr} {cdv : Value} {A : Around} {outer : List PySem.Env} {s : Shared} {H : Hp} {E : XK} (rm : Rm 2 (A.deeper (PyProof.Rows.envOfC "is_sign" (defScope s_is_sign) s.heap.objs.size f cdv))) :
    MSs (cxF P w K mg base N_is_sign "is_sign" s_is_sign f cdv A outer s H E) (wxF E) (defBody s_is_sign) m_is_sign := by
  exact mss_cons (ms_if (MW.toT (mw_or (mt_not (mt_val (me_bB call_gIsi (by rfl) T.b_isinstance (by decide +kernel) (ml_cons (me_var (pv 0)) (ml_cons (me_ty (by rfl) T.b_tuple (by decide +kernel)) (ml_nil)))))) (mw_or (mt_cmp (op_gNe rm.toRoom.units) (nomark _) (me_bB call_gLen (by rfl) T.b_len (by decide +kernel) (ml_cons (me_var (pv 0)) (ml_nil))) (me_int)) (mw_or1 (mt_not (mt_val (me_bB (call_gAll rm.toRoom.hd) (by rfl) T.b_all (by decide +kernel) (ml_cons (me_lc (own := [("part", 1)]) rfl sc_is_sign.nd (blkOk_by (own := [("part", 1)]) (N := N_is_sign) (sc := defScope s_is_sign) (by decide +kernel)) (by decide +kernel) (mi_it (me_var (pv 0))) (fun _ _ _ _ _ => mg_name (pg_name (i := 1) sc_is_sign.nd rfl (Or.inl rfl))) (fun _ _ _ _ _ => mts_nil) (fun _ _ _ _ _ => me_bB call_gIsi (by rfl) T.b_isinstance (by decide +kernel) (ml_cons (me_var (pv 1)) (ml_cons (me_ty (by rfl) T.b_str (by decide +kernel)) (ml_nil))))) (ml_nil))))))))) (mss_one (ms_ret (me_bl))) (mss_nil)) (mss_one (ms_ret (me_and (me_cmp (op_gIn rm.u65) (by rfl) (me_ix ix_g (fun _ _ => rfl) (me_var (pv 0)) (me_int)) (me_tup (ml_cons (me_gD T.k_SEND (by rfl)) (ml_cons (me_gD T.k_TAKE (by rfl)) (ml_nil))))) (me_one (me_call c_is_name (rm.mono (by decide)) (by rfl) tkF (ml_cons (me_ix ix_g (fun _ _ => rfl) (me_var (pv 0)) (me_int)) (ml_nil)))))))
def F_is_sign : Fn := runB N_is_sign.length m_is_sign
abbrev s_is_word : Stmt := top 16
abbrev N_is_word : List Str := ["value", "sign"]
theorem sc_is_word : FnScope N_is_word ["value"] (defScope s_is_word) := ⟨rfl, rfl, rfl, by decide +kernel, rfl, by decide +kernel, by decide +kernel⟩
def m_is_word : S1 := sRet (eAnd (eN (pu gIsi) (lCons (eVar 0) (lCons (eC (.con (.ty "tuple"))) (lNil)))) (eN (pu gAll) (lCons (eLc [1] (.n 1) (wIt (eVar 0)) (bYes) (eCall F_is_sign (lCons (eVar 1) (lNil)))) (lNil))))
theorem d_is_word (T : Txt P w K mg base) (c_is_sign : Cal P w K mg base 3 "is_sign" ["value"] F_is_sign) {f : Addr} {cdv : Value} {A : Around} {outer : List PySem.Env} {s : Shared} {H : Hp} {E : XK} (rm : Rm 3 (A.deeper (PyProof.Rows.envOfC "is_word" (defScope s_is_word) s.heap.objs.size f cdv))) :
    MSs (cxF P w K mg base N_is_word "is_word" s_is_word f cdv A outer s H E) (wxF E) (defBody s_is_word) m_is_word := by
  exact mss_one (ms_ret (me_and (me_bB call_gIsi (by rfl) T.b_isinstance (by decide +kernel) (ml_cons (me_var (pv 0)) (ml_cons (me_ty (by rfl) T.b_tuple (by decide +kernel)) (ml_nil)))) (me_one (me_bB (call_gAll rm.toRoom.hd) (by rfl) T.b_all (by decide +kernel) (ml_cons (me_lc (own := [("sign", 1)]) rfl sc_is_word.nd (blkOk_by (own := [("sign", 1)]) (N := N_is_word) (sc := defScope s_is_word) (by decide +kernel)) (by decide +kernel) (mi_it (me_var (pv 0))) (fun _ _ _ _ _ => mg_name (pg_name (i := 1) sc_is_word.nd rfl (Or.inl rfl))) (fun _ _ _ _ _ => mts_nil) (fun _ _ _ _ _ => me_call c_is_sign (rm.mono (by decide)) (by rfl) ⟨takes0⟩ (ml_cons (me_var (pv 1)) (ml_nil)))) (ml_nil))))))
def F_is_word : Fn := runB N_is_word.length m_is_word
abbrev s_require_word : Stmt := top 17
abbrev N_require_word : List Str := ["word"]
theorem sc_require_word : FnScope N_require_word ["word"] (defScope s_require_word) := ⟨rfl, rfl, rfl, by decide +kernel, rfl, by decide +kernel, by decide +kernel⟩
def m_require_word : S1 := sIf (bNot (bE (eCall F_is_word (lCons (eVar 0) (lNil))))) (sRaise0 C_InvalidWord (eC (.str "a tuple of signs is expected"))) (sNil)
theorem d_require_word (T : Txt P w K mg base) (c_is_word : Cal P w K mg base 4 "is_word" ["value"] F_is_word) {f : Addr} {cdv : Value} {A : Around} {outer : List PySem.Env} {s : Shared} {H : Hp} {E : XK} (rm : Rm 4 (A.deeper (PyProof.Rows.envOfC "require_word" (defScope s_require_word) s.heap.objs.size f cdv))) :
    MSs (cxF P w K mg base N_require_word "require_word" s_require_word f cdv A outer s H E) (wxF E) (defBody s_require_word) m_require_word := by
  exact mss_one (ms_if (mt_not (mt_val (me_call c_is_word (rm.mono (by decide)) (by rfl) tkF (ml_cons (me_var (pv 0)) (ml_nil))))) (mss_one (ms_raise0 PySem.F.excBase_ValueError T.ex_InvalidWord T.g_InvalidWord T.kp_InvalidWord T.xs_InvalidWord T.xt_InvalidWord tkF (me_str) (by rfl))) (mss_nil))
def F_require_word : Fn := runB N_require_word.length m_require_word
abbrev s_number_in_text : Stmt := top 22
abbrev N_number_in_text : List Str := ["part", "sign"]
theorem sc_number_in_text : FnScope N_number_in_text ["part"] (defScope s_number_in_text) := ⟨rfl, rfl, rfl, by decide +kernel, rfl, by decide +kernel, by decide +kernel⟩
def m_number_in_text : S1 := sSeq (sIf (bOr (bNot (bE (eCh (pu gLe) (pu gLe) (eC (.int 1)) (eN (pu gLen) (lCons (eVar 0) (lNil))) (eC (.int 2))))) (bNot (bE (eN (pu gAll) (lCons (eLc [1] (.n 1) (wIt (eVar 0)) (bYes) (e2 (pu (gIn false)) (eVar 1) (eC (.str "0123456789")))) (lNil)))))) (sRet (eC .non)) (sNil)) (sRet (eIf (bAnd (bE (e2 (pu (gEq false)) (eN (pu gLen) (lCons (eVar 0) (lNil))) (eC (.int 2)))) (bE (e2 (pu (gEq false)) (e2 (pu gIx) (eVar 0) (eC (.int 0))) (eC (.str "0"))))) (eC .non) (eN (pu gIntA) (lCons (eVar 0) (lNil)))))
theorem d_number_in_text (T : Txt P w K mg base)  {f : Addr} {cdv : Value} {A : Around} {outer : List PySem.Env} {s : Shared} {H : Hp} {E : XK} (rm : Rm 1 (A.deeper (PyProof.Rows.envOfC "number_in_text" (defScope s_number_in_text) s.heap.objs.size f cdv))) :
    MSs (cxF P w K mg base N_number_in_text "number_in_text" s_number_in_text f cdv A outer s H E) (wxF E) (defBody s_number_in_text) m_number_in_text := by
  exact mss_cons (ms_if (MW.toT (mw_or (mt_not (mt_ch op_gLe op_gLe (me_int) (me_bB call_gLen (by rfl) T.b_len (by decide +kernel) (ml_cons (me_var (pv 0)) (ml_nil))) (me_int))) (mw_or1 (mt_not (mt_val (me_bB (call_gAll rm.toRoom.hd) (by rfl) T.b_all (by decide +kernel) (ml_cons (me_lc (own := [("sign", 1)]) rfl sc_number_in_text.nd (blkOk_by (own := [("sign", 1)]) (N := N_number_in_text) (sc := defScope s_number_in_text) (by decide +kernel)) (by decide +kernel) (mi_it (me_var (pv 0))) (fun _ _ _ _ _ => mg_name (pg_name (i := 1) sc_number_in_text.nd rfl (Or.inl rfl))) (fun _ _ _ _ _ => mts_nil) (fun _ _ _ _ _ => me_cmp (op_gIn rm.u65) (by rfl) (me_var (pv 1)) (me_gD T.k_DIGITS (by rfl)))) (ml_nil)))))))) (mss_one (ms_ret (me_non))) (mss_nil)) (mss_one (ms_ret (me_if (MW.toT (mw_and (mt_cmp (op_gEq rm.toRoom.units) (nomark _) (me_bB call_gLen (by rfl) T.b_len (by decide +kernel) (ml_cons (me_var (pv 0)) (ml_nil))) (me_int)) (mw_and1 (mt_cmp (op_gEq rm.toRoom.units) (nomark _) (me_ix ix_g (fun _ _ => rfl) (me_var (pv 0)) (me_int)) (me_str))))) (me_non) (me_bT call_gIntA (by rfl) T.b_int (by decide +kernel) (ml_cons (me_var (pv 0)) (ml_nil))))))
def F_number_in_text : Fn := runB N_number_in_text.length m_number_in_text
abbrev s_sign_text : Stmt := top 23
abbrev N_sign_text : List Str := ["sign"]
theorem sc_sign_text : FnScope N_sign_text ["sign"] (defScope s_sign_text) := ⟨rfl, rfl, rfl, by decide +kernel, rfl, by decide +kernel, by decide +kernel⟩
def m_sign_text : S1 := sRet (e2 (pu gAdd) (e1 (pu (gKd kvSIGNS)) (e2 (pu gIx) (eVar 0) (eC (.int 0)))) (e2 (pu gIx) (eVar 0) (eC (.int 1))))
theorem d_sign_text (T : Txt P w K mg base)  {f : Addr} {cdv : Value} {A : Around} {outer : List PySem.Env} {s : Shared} {H : Hp} {E : XK} (rm : Rm 1 (A.deeper (PyProof.Rows.envOfC "sign_text" (defScope s_sign_text) s.heap.objs.size f cdv))) :
    MSs (cxF P w K mg base N_sign_text "sign_text" s_sign_text f cdv A outer s H E) (wxF E) (defBody s_sign_text) m_sign_text := by
  exact mss_one (ms_ret (me_op op_gAdd (me_kd T.kd_SIGNS (by rfl) (fun _ _ => rfl) (me_ix ix_g (fun _ _ => rfl) (me_var (pv 0)) (me_int))) (me_ix ix_g (fun _ _ => rfl) (me_var (pv 0)) (me_int))))
def F_sign_text : Fn := runB N_sign_text.length m_sign_text
abbrev s_sign_in_text : Stmt := top 24
abbrev N_sign_in_text : List Str := ["part", "word", "mark"]
theorem sc_sign_in_text : FnScope N_sign_in_text ["part"] (defScope s_sign_in_text) := ⟨rfl, rfl, rfl, by decide +kernel, rfl, by decide +kernel, by decide +kernel⟩
def m_sign_in_text : S1 := sSeq (sFor (.t [.n 1, .n 2]) (wKd kvSIGNS) (sIf (bAnd (bE (eM tyS gStarts (eVar 0) (lCons (eVar 2) (lNil)))) (bE (eCall F_is_name (lCons (eSl gSl (eVar 0) (oSome (eC (.int 1))) (oNone)) (lNil))))) (sRet (eTup (lCons (eVar 1) (lCons (eSl gSl (eVar 0) (oSome (eC (.int 1))) (oNone)) (lNil))))) (sNil))) (sRet (eC .non))
theorem d_sign_in_text (T : Txt P w K mg base) (c_is_name : Cal P w K mg base 2 "is_name" ["value"] F_is_name) {f : Addr} {cdv : Value} {A : Around} {outer : List PySem.Env} {s : Shared} {H : Hp} {E : XK} (rm : Rm 2 (A.deeper (PyProof.Rows.envOfC "sign_in_text" (defScope s_sign_in_text) s.heap.objs.size f cdv))) :
    MSs (cxF P w K mg base N_sign_in_text "sign_in_text" s_sign_in_text f cdv A outer s H E) (wxF E) (defBody s_sign_in_text) m_sign_in_text := by
  exact mss_cons (ms_for passF rfl (mi_kd T.kd_SIGNS (by rfl)) (mg_tupD (mgs_cons (mg_name (pg_name (i := 1) sc_sign_in_text.nd rfl (Or.inl rfl))) (mgs_cons (mg_name (pg_name (i := 2) sc_sign_in_text.nd rfl (Or.inl rfl))) (mgs_nil))) rfl) (mss_one (ms_if (MW.toT (mw_and (mt_val (me_startswith (me_var (pv 0)) (ml_cons (me_var (pv 2)) (ml_nil)))) (mw_and1 (mt_val (me_call c_is_name (rm.mono (by decide)) (by rfl) tkF (ml_cons (me_sl sl_g (me_var (pv 0)) (mo_some (me_int)) (mo_none)) (ml_nil))))))) (mss_one (ms_ret (me_tup (ml_cons (me_var (pv 1)) (ml_cons (me_sl sl_g (me_var (pv 0)) (mo_some (me_int)) (mo_none)) (ml_nil)))))) (mss_nil)))) (mss_one (ms_ret (me_non)))
def F_sign_in_text : Fn := runB N_sign_in_text.length m_sign_in_text
abbrev s_format_word : Stmt := top 25
abbrev N_format_word : List Str := ["word", "sign"]
theorem sc_format_word : FnScope N_format_word ["word"] (defScope s_format_word) := ⟨rfl, rfl, rfl, by decide +kernel, rfl, by decide +kernel, by decide +kernel⟩
def m_format_word : S1 := sSeq (sExpr (eCall F_require_word (lCons (eVar 0) (lNil)))) (sRet (eIf (bE (e2 (pu (gEq false)) (eVar 0) (eTup (lNil)))) (eC (.str "-")) (eM tyS gJoin (eC (.str " ")) (lCons (eLc [1] (.n 1) (wIt (eVar 0)) (bYes) (eCall F_sign_text (lCons (eVar 1) (lNil)))) (lNil)))))
theorem d_format_word (T : Txt P w K mg base) (c_require_word : Cal P w K mg base 5 "require_word" ["word"] F_require_word) (c_sign_text : Cal P w K mg base 2 "sign_text" ["sign"] F_sign_text) {f : Addr} {cdv : Value} {A : Around} {outer : List PySem.Env} {s : Shared} {H : Hp} {E : XK} (rm : Rm 5 (A.deeper (PyProof.Rows.envOfC "format_word" (defScope s_format_word) s.heap.objs.size f cdv))) :
    MSs (cxF P w K mg base N_format_word "format_word" s_format_word f cdv A outer s H E) (wxF E) (defBody s_format_word) m_format_word := by
  exact mss_cons (ms_expr (me_call c_require_word (rm.mono (by decide)) (by rfl) tkF (ml_cons (me_var (pv 0)) (ml_nil)))) (mss_one (ms_ret (me_if (mt_cmp (op_gEq rm.toRoom.units) (nomark _) (me_var (pv 0)) (me_tup (ml_nil))) (me_gD T.k_NOTHING (by rfl)) (me_join (me_str) (ml_cons (me_lc (own := [("sign", 1)]) rfl sc_format_word.nd (blkOk_by (own := [("sign", 1)]) (N := N_format_word) (sc := defScope s_format_word) (by decide +kernel)) (by decide +kernel) (mi_it (me_var (pv 0))) (fun _ _ _ _ _ => mg_name (pg_name (i := 1) sc_format_word.nd rfl (Or.inl rfl))) (fun _ _ _ _ _ => mts_nil) (fun _ _ _ _ _ => me_call c_sign_text (rm.mono (by decide)) (by rfl) ⟨takes0⟩ (ml_cons (me_var (pv 1)) (ml_nil)))) (ml_nil))))))
def F_format_word : Fn := runB N_format_word.length m_format_word
abbrev s_parts_in : Stmt := top 27
abbrev N_parts_in : List Str := ["text"]
theorem sc_parts_in : FnScope N_parts_in ["text"] (defScope s_parts_in) := ⟨rfl, rfl, rfl, by decide +kernel, rfl, by decide +kernel, by decide +kernel⟩
def m_parts_in : S1 := sSeq (sIf (bNot (bE (eN (pu gIsi) (lCons (eVar 0) (lCons (eC (.con (.ty "str"))) (lNil)))))) (sRaise0 C_ParseError (eC (.str "text expected"))) (sNil)) (sRet (eM tyS gSplit (eVar 0) (lCons (eC (.str " ")) (lNil))))
theorem d_parts_in (T : Txt P w K mg base)  {f : Addr} {cdv : Value} {A : Around} {outer : List PySem.Env} {s : Shared} {H : Hp} {E : XK} (rm : Rm 1 (A.deeper (PyProof.Rows.envOfC "parts_in" (defScope s_parts_in) s.heap.objs.size f cdv))) :
    MSs (cxF P w K mg base N_parts_in "parts_in" s_parts_in f cdv A outer s H E) (wxF E) (defBody s_parts_in) m_parts_in := by
  exact mss_cons (ms_if (mt_not (mt_val (me_bB call_gIsi (by rfl) T.b_isinstance (by decide +kernel) (ml_cons (me_var (pv 0)) (ml_cons (me_ty (by rfl) T.b_str (by decide +kernel)) (ml_nil)))))) (mss_one (ms_raise0 PySem.F.excBase_ValueError T.ex_ParseError T.g_ParseError T.kp_ParseError T.xs_ParseError T.xt_ParseError tkF (me_str) (by rfl))) (mss_nil)) (mss_one (ms_ret (me_split (me_var (pv 0)) (ml_cons (me_str) (ml_nil)))))
def F_parts_in : Fn := runB N_parts_in.length m_parts_in
abbrev s_parse_word : Stmt := top 26
abbrev N_parse_word : List Str := ["text", "found", "part"]
theorem sc_parse_word : FnScope N_parse_word ["text"] (defScope s_parse_word) := ⟨rfl, rfl, rfl, by decide +kernel, rfl, by decide +kernel, by decide +kernel⟩
def m_parse_word : S1 := sSeq (sIf (bE (e2 (pu gEqX) (eVar 0) (eC (.str "-")))) (sRet (eTup (lNil))) (sNil)) (sSeq (sSet 1 (eN (pu gTuple) (lCons (eLc [2] (.n 2) (wIt (eCall F_parts_in (lCons (eVar 0) (lNil)))) (bYes) (eCall F_sign_in_text (lCons (eVar 2) (lNil)))) (lNil)))) (sSeq (sIf (bNot (bE (eCall F_is_word (lCons (eVar 1) (lNil))))) (sRaise0 C_ParseError (eC (.str "signs expected"))) (sNil)) (sRet (eVar 1))))
theorem d_parse_word (T : Txt P w K mg base) (c_parts_in : Cal P w K mg base 2 "parts_in" ["text"] F_parts_in) (c_sign_in_text : Cal P w K mg base 3 "sign_in_text" ["part"] F_sign_in_text) (c_is_word : Cal P w K mg base 4 "is_word" ["value"] F_is_word) {f : Addr} {cdv : Value} {A : Around} {outer : List PySem.Env} {s : Shared} {H : Hp} {E : XK} (rm : Rm 4 (A.deeper (PyProof.Rows.envOfC "parse_word" (defScope s_parse_word) s.heap.objs.size f cdv))) :
    MSs (cxF P w K mg base N_parse_word "parse_word" s_parse_word f cdv A outer s H E) (wxF E) (defBody s_parse_word) m_parse_word := by
  exact mss_cons (ms_if (mt_cmp (op_gEqX rm.toRoom.units) (nomark _) (me_var (pv 0)) (me_gD T.k_NOTHING (by rfl))) (mss_one (ms_ret (me_tup (ml_nil)))) (mss_nil)) (mss_cons (ms_setD (i := 1) sc_parse_word.nd rfl (Or.inl rfl) (me_bT call_gTuple (by rfl) T.b_tuple (by decide +kernel) (ml_cons (me_lc (own := [("part", 2)]) rfl sc_parse_word.nd (blkOk_by (own := [("part", 2)]) (N := N_parse_word) (sc := defScope s_parse_word) (by decide +kernel)) (by decide +kernel) (mi_it (me_call c_parts_in (rm.mono (by decide)) (by rfl) tkF (ml_cons (me_var (pv 0)) (ml_nil)))) (fun _ _ _ _ _ => mg_name (pg_name (i := 2) sc_parse_word.nd rfl (Or.inl rfl))) (fun _ _ _ _ _ => mts_nil) (fun _ _ _ _ _ => me_call c_sign_in_text (rm.mono (by decide)) (by rfl) ⟨takes0⟩ (ml_cons (me_var (pv 2)) (ml_nil)))) (ml_nil)))) (mss_cons (ms_if (mt_not (mt_val (me_call c_is_word (rm.mono (by decide)) (by rfl) tkF (ml_cons (me_var (pv 1)) (ml_nil))))) (mss_one (ms_raise0 PySem.F.excBase_ValueError T.ex_ParseError T.g_ParseError T.kp_ParseError T.xs_ParseError T.xt_ParseError tkF (me_str) (by rfl))) (mss_nil)) (mss_one (ms_ret (me_var (pv 1))))))
def F_parse_word : Fn := runB N_parse_word.length m_parse_word
abbrev s_is_move : Stmt := top 28
abbrev N_is_move : List Str := ["value"]
theorem sc_is_move : FnScope N_is_move ["value"] (defScope s_is_move) := ⟨rfl, rfl, rfl, by decide +kernel, rfl, by decide +kernel, by decide +kernel⟩
def m_is_move : S1 := sSeq (sIf (bOr (bNot (bE (eN (pu gIsi) (lCons (eVar 0) (lCons (eC (.con (.ty "tuple"))) (lNil)))))) (bOr (bE (e2 (pu (gEq true)) (eN (pu gLen) (lCons (eVar 0) (lNil))) (eC (.int 2)))) (bNot (bE (eCall F_is_name (lCons (e2 (pu gIx) (eVar 0) (eC (.int 0))) (lNil))))))) (sRet (eC (.bl false))) (sNil)) (sRet (eCall F_is_between (lCons (e2 (pu gIx) (eVar 0) (eC (.int 1))) (lCons (eC (.int 0)) (lCons (e2 (pu gMinus) (eC (.int 90)) (eC (.int 1))) (lNil))))))
theorem d_is_move (T : Txt P w K mg base) (c_is_name : Cal P w K mg base 2 "is_name" ["value"] F_is_name) (c_is_between : Cal P w K mg base 3 "is_between" ["value", "low", "high"] F_is_between) {f : Addr} {cdv : Value} {A : Around} {outer : List PySem.Env} {s : Shared} {H : Hp} {E : XK} (rm : Rm 3 (A.deeper (PyProof.Rows.envOfC "is_move" (defScope s_is_move) s.heap.objs.size f cdv))) :
    MSs (cxF P w K mg base N_is_move "is_move" s_is_move f cdv A outer s H E) (wxF E) (defBody s_is_move) m_is_move := by
  exact mss_cons (ms_if (MW.toT (mw_or (mt_not (mt_val (me_bB call_gIsi (by rfl) T.b_isinstance (by decide +kernel) (ml_cons (me_var (pv 0)) (ml_cons (me_ty (by rfl) T.b_tuple (by decide +kernel)) (ml_nil)))))) (mw_or (mt_cmp (op_gNe rm.toRoom.units) (nomark _) (me_bB call_gLen (by rfl) T.b_len (by decide +kernel) (ml_cons (me_var (pv 0)) (ml_nil))) (me_int)) (mw_or1 (mt_not (mt_val (me_call c_is_name (rm.mono (by decide)) (by rfl) tkF (ml_cons (me_ix ix_g (fun _ _ => rfl) (me_var (pv 0)) (me_int)) (ml_nil))))))))) (mss_one (ms_ret (me_bl))) (mss_nil)) (mss_one (ms_ret (me_call c_is_between (rm.mono (by decide)) (by rfl) tkF (ml_cons (me_ix ix_g (fun _ _ => rfl) (me_var (pv 0)) (me_int)) (ml_cons (me_int) (ml_cons (me_op op_gMinus (me_gD T.k_MAX_TRANSITIONS (by rfl)) (me_int)) (ml_nil)))))))
def F_is_move : Fn := runB N_is_move.length m_is_move
abbrev s_moves_text : Stmt := top 29
abbrev N_moves_text : List Str := ["moves", "name", "index"]
theorem sc_moves_text : FnScope N_moves_text ["moves"] (defScope s_moves_text) := ⟨rfl, rfl, rfl, by decide +kernel, rfl, by decide +kernel, by decide +kernel⟩
def m_moves_text : S1 := sRet (eIf (bE (e2 (pu (gEq false)) (eVar 0) (eTup (lNil)))) (eC (.str "-")) (eM tyS gJoin (eC (.str " ")) (lCons (eLc [1, 2] (.t [.n 1, .n 2]) (wIt (eVar 0)) (bYes) (eJ [e1 (pu gFmt) (eVar 1), eC (.str "."), e1 (pu gFmt) (eVar 2)] Str.empty)) (lNil))))
theorem d_moves_text (T : Txt P w K mg base)  {f : Addr} {cdv : Value} {A : Around} {outer : List PySem.Env} {s : Shared} {H : Hp} {E : XK} (rm : Rm 1 (A.deeper (PyProof.Rows.envOfC "moves_text" (defScope s_moves_text) s.heap.objs.size f cdv))) :
    MSs (cxF P w K mg base N_moves_text "moves_text" s_moves_text f cdv A outer s H E) (wxF E) (defBody s_moves_text) m_moves_text := by
  exact mss_one (ms_ret (me_if (mt_cmp (op_gEq rm.toRoom.units) (nomark _) (me_var (pv 0)) (me_tup (ml_nil))) (me_gD T.k_NOTHING (by rfl)) (me_join (me_str) (ml_cons (me_lc (own := [("name", 1), ("index", 2)]) rfl sc_moves_text.nd (blkOk_by (own := [("name", 1), ("index", 2)]) (N := N_moves_text) (sc := defScope s_moves_text) (by decide +kernel)) (by decide +kernel) (mi_it (me_var (pv 0))) (fun _ _ _ _ _ => mg_tupD (mgs_cons (mg_name (pg_name (i := 1) sc_moves_text.nd rfl (Or.inl rfl))) (mgs_cons (mg_name (pg_name (i := 2) sc_moves_text.nd rfl (Or.inl rfl))) (mgs_nil))) rfl) (fun _ _ _ _ _ => mts_nil) (fun _ _ _ _ _ => me_joined (MJ.cons (me_fmt (me_var (pv 1))) (MJ.cons (me_str) (MJ.cons (me_fmt (me_var (pv 2))) (MJ.nil)))))) (ml_nil)))))
def F_moves_text : Fn := runB N_moves_text.length m_moves_text
abbrev s_format_moves : Stmt := top 30
abbrev N_format_moves : List Str := ["moves", "move"]
theorem sc_format_moves : FnScope N_format_moves ["moves"] (defScope s_format_moves) := ⟨rfl, rfl, rfl, by decide +kernel, rfl, by decide +kernel, by decide +kernel⟩
def m_format_moves : S1 := sSeq (sIf (bOr (bNot (bE (eN (pu gIsi) (lCons (eVar 0) (lCons (eC (.con (.ty "tuple"))) (lNil)))))) (bNot (bE (eN (pu gAll) (lCons (eLc [1] (.n 1) (wIt (eVar 0)) (bYes) (eCall F_is_move (lCons (eVar 1) (lNil)))) (lNil)))))) (sRaise0 C_InvalidOperation (eC (.str "moves expected"))) (sNil)) (sRet (eCall F_moves_text (lCons (eVar 0) (lNil))))
theorem d_format_moves (T : Txt P w K mg base) (c_is_move : Cal P w K mg base 4 "is_move" ["value"] F_is_move) (c_moves_text : Cal P w K mg base 2 "moves_text" ["moves"] F_moves_text) {f : Addr} {cdv : Value} {A : Around} {outer : List PySem.Env} {s : Shared} {H : Hp} {E : XK} (rm : Rm 4 (A.deeper (PyProof.Rows.envOfC "format_moves" (defScope s_format_moves) s.heap.objs.size f cdv))) :
    MSs (cxF P w K mg base N_format_moves "format_moves" s_format_moves f cdv A outer s H E) (wxF E) (defBody s_format_moves) m_format_moves := by
  exact mss_cons (ms_if (MW.toT (mw_or (mt_not (mt_val (me_bB call_gIsi (by rfl) T.b_isinstance (by decide +kernel) (ml_cons (me_var (pv 0)) (ml_cons (me_ty (by rfl) T.b_tuple (by decide +kernel)) (ml_nil)))))) (mw_or1 (mt_not (mt_val (me_bB (call_gAll rm.toRoom.hd) (by rfl) T.b_all (by decide +kernel) (ml_cons (me_lc (own := [("move", 1)]) rfl sc_format_moves.nd (blkOk_by (own := [("move", 1)]) (N := N_format_moves) (sc := defScope s_format_moves) (by decide +kernel)) (by decide +kernel) (mi_it (me_var (pv 0))) (fun _ _ _ _ _ => mg_name (pg_name (i := 1) sc_format_moves.nd rfl (Or.inl rfl))) (fun _ _ _ _ _ => mts_nil) (fun _ _ _ _ _ => me_call c_is_move (rm.mono (by decide)) (by rfl) ⟨takes0⟩ (ml_cons (me_var (pv 1)) (ml_nil)))) (ml_nil)))))))) (mss_one (ms_raise0 PySem.F.excBase_ValueError T.ex_InvalidOperation T.g_InvalidOperation T.kp_InvalidOperation T.xs_InvalidOperation T.xt_InvalidOperation tkF (me_str) (by rfl))) (mss_nil)) (mss_one (ms_ret (me_call c_moves_text (rm.mono (by decide)) (by rfl) tkF (ml_cons (me_var (pv 0)) (ml_nil)))))
def F_format_moves : Fn := runB N_format_moves.length m_format_moves
abbrev s_move_in_text : Stmt := top 31
abbrev N_move_in_text : List Str := ["part", "name", "mark", "number", "found"]
theorem sc_move_in_text : FnScope N_move_in_text ["part"] (defScope s_move_in_text) := ⟨rfl, rfl, rfl, by decide +kernel, rfl, by decide +kernel, by decide +kernel⟩
def m_move_in_text : S1 := sSeq (sAsg (.t [.n 1, .n 2, .n 3]) (eM tyS gPart (eVar 0) (lCons (eC (.str ".")) (lNil)))) (sSeq (sSet 4 (eTup (lCons (eVar 1) (lCons (eCall F_number_in_text (lCons (eVar 3) (lNil))) (lNil))))) (sRet (eIf (bE (eCall F_is_move (lCons (eVar 4) (lNil)))) (eVar 4) (eC .non))))
theorem d_move_in_text (T : Txt P w K mg base) (c_number_in_text : Cal P w K mg base 2 "number_in_text" ["part"] F_number_in_text) (c_is_move : Cal P w K mg base 4 "is_move" ["value"] F_is_move) {f : Addr} {cdv : Value} {A : Around} {outer : List PySem.Env} {s : Shared} {H : Hp} {E : XK} (rm : Rm 4 (A.deeper (PyProof.Rows.envOfC "move_in_text" (defScope s_move_in_text) s.heap.objs.size f cdv))) :
    MSs (cxF P w K mg base N_move_in_text "move_in_text" s_move_in_text f cdv A outer s H E) (wxF E) (defBody s_move_in_text) m_move_in_text := by
  exact mss_cons (ms_asg (me_partition (me_var (pv 0)) (ml_cons (me_str) (ml_nil))) (mg_tupD (mgs_cons (mg_name (pg_name (i := 1) sc_move_in_text.nd rfl (Or.inl rfl))) (mgs_cons (mg_name (pg_name (i := 2) sc_move_in_text.nd rfl (Or.inl rfl))) (mgs_cons (mg_name (pg_name (i := 3) sc_move_in_text.nd rfl (Or.inl rfl))) (mgs_nil)))) rfl)) (mss_cons (ms_setD (i := 4) sc_move_in_text.nd rfl (Or.inl rfl) (me_tup (ml_cons (me_var (pv 1)) (ml_cons (me_call c_number_in_text (rm.mono (by decide)) (by rfl) tkF (ml_cons (me_var (pv 3)) (ml_nil))) (ml_nil))))) (mss_one (ms_ret (me_if (mt_val (me_call c_is_move (rm.mono (by decide)) (by rfl) tkF (ml_cons (me_var (pv 4)) (ml_nil)))) (me_var (pv 4)) (me_non)))))
def F_move_in_text : Fn := runB N_move_in_text.length m_move_in_text
abbrev s_parse_moves : Stmt := top 32
abbrev N_parse_moves : List Str := ["text", "found", "part"]
theorem sc_parse_moves : FnScope N_parse_moves ["text"] (defScope s_parse_moves) := ⟨rfl, rfl, rfl, by decide +kernel, rfl, by decide +kernel, by decide +kernel⟩
def m_parse_moves : S1 := sSeq (sIf (bE (e2 (pu (gEq false)) (eVar 0) (eC (.str "-")))) (sRet (eTup (lNil))) (sNil)) (sSeq (sSet 1 (eN (pu gTuple) (lCons (eLc [2] (.n 2) (wIt (eCall F_parts_in (lCons (eVar 0) (lNil)))) (bYes) (eCall F_move_in_text (lCons (eVar 2) (lNil)))) (lNil)))) (sSeq (sIf (bE (e2 (pu (gIn false)) (eC .non) (eVar 1))) (sRaise0 C_ParseError (eC (.str "moves expected"))) (sNil)) (sRet (eVar 1))))
theorem d_parse_moves (T : Txt P w K mg base) (c_parts_in : Cal P w K mg base 2 "parts_in" ["text"] F_parts_in) (c_move_in_text : Cal P w K mg base 5 "move_in_text" ["part"] F_move_in_text) {f : Addr} {cdv : Value} {A : Around} {outer : List PySem.Env} {s : Shared} {H : Hp} {E : XK} (rm : Rm 5 (A.deeper (PyProof.Rows.envOfC "parse_moves" (defScope s_parse_moves) s.heap.objs.size f cdv))) :
    MSs (cxF P w K mg base N_parse_moves "parse_moves" s_parse_moves f cdv A outer s H E) (wxF E) (defBody s_parse_moves) m_parse_moves := by
  exact mss_cons (ms_if (mt_cmp (op_gEq rm.toRoom.units) (nomark _) (me_var (pv 0)) (me_gD T.k_NOTHING (by rfl))) (mss_one (ms_ret (me_tup (ml_nil)))) (mss_nil)) (mss_cons (ms_setD (i := 1) sc_parse_moves.nd rfl (Or.inl rfl) (me_bT call_gTuple (by rfl) T.b_tuple (by decide +kernel) (ml_cons (me_lc (own := [("part", 2)]) rfl sc_parse_moves.nd (blkOk_by (own := [("part", 2)]) (N := N_parse_moves) (sc := defScope s_parse_moves) (by decide +kernel)) (by decide +kernel) (mi_it (me_call c_parts_in (rm.mono (by decide)) (by rfl) tkF (ml_cons (me_var (pv 0)) (ml_nil)))) (fun _ _ _ _ _ => mg_name (pg_name (i := 2) sc_parse_moves.nd rfl (Or.inl rfl))) (fun _ _ _ _ _ => mts_nil) (fun _ _ _ _ _ => me_call c_move_in_text (rm.mono (by decide)) (by rfl) ⟨takes0⟩ (ml_cons (me_var (pv 2)) (ml_nil)))) (ml_nil)))) (mss_cons (ms_if (mt_cmp (op_gIn rm.u65) (by rfl) (me_non) (me_var (pv 1))) (mss_one (ms_raise0 PySem.F.excBase_ValueError T.ex_ParseError T.g_ParseError T.kp_ParseError T.xs_ParseError T.xt_ParseError tkF (me_str) (by rfl))) (mss_nil)) (mss_one (ms_ret (me_var (pv 1))))))
def F_parse_moves : Fn := runB N_parse_moves.length m_parse_moves
abbrev s_dice : Stmt := top 34
abbrev N_dice : List Str := ["_law_script", "_law_at", "_law_cell", "_law_great", "_law_seed", "_law_place", "_law_other"]
theorem sc_dice : FnScope N_dice ["_law_script", "_law_at"] (defScope s_dice) := ⟨rfl, rfl, rfl, by decide +kernel, rfl, by decide +kernel, by decide +kernel⟩
def m_dice : S1 := sSeq (sSet 2 (eIf (bE (e2 (pu gLt) (eVar 1) (eN (pu gLen) (lCons (eVar 0) (lNil))))) (e2 (pu gIx) (eVar 0) (eVar 1)) (e2 (pu gAdd) (e2 (pu gMul) (eC (.int 13)) (eVar 1)) (eC (.int 5))))) (sSeq (sSet 3 (e2 (pu gMod) (eN (pu gAbs) (lCons (eVar 2) (lNil))) (e2 (pu gPow) (e2 (pu gPow) (eC (.int 10)) (eC (.int 60))) (eC (.int 13))))) (sSeq (sSet 4 (e2 (pu gAdd) (e2 (pu gAdd) (e2 (pu gAdd) (e2 (pu gMod) (eVar 3) (eC (.int 2305843009213693907))) (e2 (pu gMul) (eC (.int 8191)) (eVar 1))) (e2 (pu gMul) (eC (.int 5)) (eN (pu gInt1) (lCons (e2 (pu gLt) (eVar 2) (eC (.int 0))) (lNil))))) (eC (.int 29)))) (sSeq (sFor (.t [.n 5, .n 6]) (wEnum (lCons (eVar 0) (lNil))) (sIf (bE (e2 (pu (gEq true)) (eVar 5) (eVar 1))) (sSet 4 (e2 (pu gMod) (e2 (pu gAdd) (e2 (pu gAdd) (e2 (pu gMul) (eC (.int 1000033)) (eVar 4)) (eVar 6)) (eVar 5)) (eC (.int 2305843009213693907)))) (sNil))) (sSeq (sSet 4 (e2 (pu gMod) (e2 (pu gPow) (eVar 4) (eC (.int 3))) (eC (.int 2305843009213693921)))) (sRet (eLstC (lCons (e2 (pu gMul) (e2 (pu gDiv) (eVar 3) (e2 (pu gPow) (eC (.int 10)) (eC (.int 18)))) (eN (pu gInt1) (lCons (e2 (pu gGe) (eVar 3) (e2 (pu gPow) (eC (.int 10)) (eC (.int 18)))) (lNil)))) (lCons (eVar 4) (lCons (eC (.int 0)) (lNil))))))))))
theorem d_dice (T : Txt P w K mg base)  {f : Addr} {cdv : Value} {A : Around} {outer : List PySem.Env} {s : Shared} {H : Hp} {E : XK} (rm : Rm 1 (A.deeper (PyProof.Rows.envOfC "_law_dice" (defScope s_dice) s.heap.objs.size f cdv))) :
    MSs (cxF P w K mg base N_dice "_law_dice" s_dice f cdv A outer s H E) (wxF E) (defBody s_dice) m_dice := by
  exact mss_cons (ms_setD (i := 2) sc_dice.nd rfl (Or.inl rfl) (me_if (mt_cmp op_gLt (nomark _) (me_var (pv 1)) (me_bB call_gLen (by rfl) T.b_len (by decide +kernel) (ml_cons (me_var (pv 0)) (ml_nil)))) (me_ix ix_g (fun _ _ => rfl) (me_var (pv 0)) (me_var (pv 1))) (me_op op_gAdd (me_op op_gMul (me_int) (me_var (pv 1))) (me_int)))) (mss_cons (ms_setD (i := 3) sc_dice.nd rfl (Or.inl rfl) (me_op op_gMod (me_bB call_gAbs (by rfl) T.b_abs (by decide +kernel) (ml_cons (me_var (pv 2)) (ml_nil))) (me_op op_gPow (me_op op_gPow (me_int) (me_int)) (me_int)))) (mss_cons (ms_setD (i := 4) sc_dice.nd rfl (Or.inl rfl) (me_op op_gAdd (me_op op_gAdd (me_op op_gAdd (me_op op_gMod (me_var (pv 3)) (me_int)) (me_op op_gMul (me_int) (me_var (pv 1)))) (me_op op_gMul (me_int) (me_bT call_gInt1 (by rfl) T.b_int (by decide +kernel) (ml_cons (me_cmp op_gLt (nomark _) (me_var (pv 2)) (me_int)) (ml_nil))))) (me_int))) (mss_cons (ms_for passF rfl (mi_enum (ml_cons (me_var (pv 0)) (ml_nil)) (by rfl) T.b_enumerate) (mg_tupD (mgs_cons (mg_name (pg_name (i := 5) sc_dice.nd rfl (Or.inl rfl))) (mgs_cons (mg_name (pg_name (i := 6) sc_dice.nd rfl (Or.inl rfl))) (mgs_nil))) rfl) (mss_one (ms_if (mt_cmp (op_gNe rm.toRoom.units) (nomark _) (me_var (pv 5)) (me_var (pv 1))) (mss_one (ms_setD (i := 4) sc_dice.nd rfl (Or.inl rfl) (me_op op_gMod (me_op op_gAdd (me_op op_gAdd (me_op op_gMul (me_int) (me_var (pv 4))) (me_var (pv 6))) (me_var (pv 5))) (me_int)))) (mss_nil)))) (mss_cons (ms_setD (i := 4) sc_dice.nd rfl (Or.inl rfl) (me_op op_gMod (me_op op_gPow (me_var (pv 4)) (me_int)) (me_int))) (mss_one (ms_ret (me_lstC (ml_cons (me_op op_gMul (me_op op_gDiv (me_var (pv 3)) (me_op op_gPow (me_int) (me_int))) (me_bT call_gInt1 (by rfl) T.b_int (by decide +kernel) (ml_cons (me_cmp op_gGe (nomark _) (me_var (pv 3)) (me_op op_gPow (me_int) (me_int))) (ml_nil)))) (ml_cons (me_var (pv 4)) (ml_cons (me_int) (ml_nil)))))))))))
def F_dice : Fn := runB N_dice.length m_dice
abbrev s_roll : Stmt := top 35
abbrev N_roll : List Str := ["_law_dice_here", "_law_total", "_law_found", "_law_one", "_law_two"]
theorem sc_roll : FnScope N_roll ["_law_dice_here", "_law_total"] (defScope s_roll) := ⟨rfl, rfl, rfl, by decide +kernel, rfl, by decide +kernel, by decide +kernel⟩
def m_roll : S1 := sSeq (sIf (bE (e2 (pu gGt) (e2 (pu gIx) (eVar 0) (eC (.int 0))) (eC (.int 0)))) (sSeq (sSet 2 (e2 (pu gMod) (e2 (pu gIx) (eVar 0) (eC (.int 0))) (eVar 1))) (sSeq (sPut (eVar 0) (eC (.int 0)) (e2 (pu gDiv) (e2 (pu gIx) (eVar 0) (eC (.int 0))) (eVar 1))) (sRet (eVar 2)))) (sNil)) (sSeq (sPut (eVar 0) (eC (.int 2)) (e2 (pu gAdd) (e2 (pu gIx) (eVar 0) (eC (.int 2))) (eC (.int 1)))) (sSeq (sSet 3 (e2 (pu gMod) (e2 (pu gPow) (e2 (pu gAdd) (e2 (pu gIx) (eVar 0) (eC (.int 1))) (e2 (pu gMul) (eC (.int 15485867)) (e2 (pu gIx) (eVar 0) (eC (.int 2))))) (eC (.int 3))) (eC (.int 2305843009213693951)))) (sSeq (sSet 4 (e2 (pu gMod) (e2 (pu gPow) (e2 (pu gAdd) (e2 (pu gAdd) (eVar 3) (e2 (pu gMod) (e2 (pu gIx) (eVar 0) (eC (.int 1))) (eC (.int 1000081)))) (e2 (pu gMul) (eC (.int 41)) (e2 (pu gIx) (eVar 0) (eC (.int 2))))) (eC (.int 5))) (eC (.int 2305843009213693907)))) (sRet (e2 (pu gMod) (e2 (pu gDiv) (eVar 4) (eC (.int 8192))) (eVar 1))))))
theorem d_roll (T : Txt P w K mg base)  {f : Addr} {cdv : Value} {A : Around} {outer : List PySem.Env} {s : Shared} {H : Hp} {E : XK} (rm : Rm 1 (A.deeper (PyProof.Rows.envOfC "_law_roll" (defScope s_roll) s.heap.objs.size f cdv))) :
    MSs (cxF P w K mg base N_roll "_law_roll" s_roll f cdv A outer s H E) (wxF E) (defBody s_roll) m_roll := by
  exact mss_cons (ms_if (mt_cmp op_gGt (nomark _) (me_ix ix_g (fun _ _ => rfl) (me_var (pv 0)) (me_int)) (me_int)) (mss_cons (ms_setD (i := 2) sc_roll.nd rfl (Or.inl rfl) (me_op op_gMod (me_ix ix_g (fun _ _ => rfl) (me_var (pv 0)) (me_int)) (me_var (pv 1)))) (mss_cons (ms_put (me_var (pv 0)) (me_int) (me_op op_gDiv (me_ix ix_g (fun _ _ => rfl) (me_var (pv 0)) (me_int)) (me_var (pv 1)))) (mss_one (ms_ret (me_var (pv 2)))))) (mss_nil)) (mss_cons (ms_put (me_var (pv 0)) (me_int) (me_op op_gAdd (me_ix ix_g (fun _ _ => rfl) (me_var (pv 0)) (me_int)) (me_int))) (mss_cons (ms_setD (i := 3) sc_roll.nd rfl (Or.inl rfl) (me_op op_gMod (me_op op_gPow (me_op op_gAdd (me_ix ix_g (fun _ _ => rfl) (me_var (pv 0)) (me_int)) (me_op op_gMul (me_int) (me_ix ix_g (fun _ _ => rfl) (me_var (pv 0)) (me_int)))) (me_int)) (me_int))) (mss_cons (ms_setD (i := 4) sc_roll.nd rfl (Or.inl rfl) (me_op op_gMod (me_op op_gPow (me_op op_gAdd (me_op op_gAdd (me_var (pv 3)) (me_op op_gMod (me_ix ix_g (fun _ _ => rfl) (me_var (pv 0)) (me_int)) (me_int))) (me_op op_gMul (me_int) (me_ix ix_g (fun _ _ => rfl) (me_var (pv 0)) (me_int)))) (me_int)) (me_int))) (mss_one (ms_ret (me_op op_gMod (me_op op_gDiv (me_var (pv 4)) (me_int)) (me_var (pv 1))))))))
def F_roll : Fn := runB N_roll.length m_roll
abbrev s_one_of : Stmt := top 36
abbrev N_one_of : List Str := ["_law_dice_here", "_law_items"]
theorem sc_one_of : FnScope N_one_of ["_law_dice_here", "_law_items"] (defScope s_one_of) := ⟨rfl, rfl, rfl, by decide +kernel, rfl, by decide +kernel, by decide +kernel⟩
def m_one_of : S1 := sRet (e2 (pu gIx) (eVar 1) (eCall F_roll (lCons (eVar 0) (lCons (eN (pu gLen) (lCons (eVar 1) (lNil))) (lNil)))))
theorem d_one_of (T : Txt P w K mg base) (c_roll : Cal P w K mg base 2 "_law_roll" ["_law_dice_here", "_law_total"] F_roll) {f : Addr} {cdv : Value} {A : Around} {outer : List PySem.Env} {s : Shared} {H : Hp} {E : XK} (rm : Rm 2 (A.deeper (PyProof.Rows.envOfC "_law_one_of" (defScope s_one_of) s.heap.objs.size f cdv))) :
    MSs (cxF P w K mg base N_one_of "_law_one_of" s_one_of f cdv A outer s H E) (wxF E) (defBody s_one_of) m_one_of := by
  exact mss_one (ms_ret (me_ix ix_g (fun _ _ => rfl) (me_var (pv 1)) (me_call c_roll (rm.mono (by decide)) (by rfl) tkF (ml_cons (me_var (pv 0)) (ml_cons (me_bB call_gLen (by rfl) T.b_len (by decide +kernel) (ml_cons (me_var (pv 1)) (ml_nil))) (ml_nil))))))
def F_one_of : Fn := runB N_one_of.length m_one_of
abbrev s_l_is_name : Stmt := top 37
abbrev N_l_is_name : List Str := ["_law_value", "_law_sign"]
theorem sc_l_is_name : FnScope N_l_is_name ["_law_value"] (defScope s_l_is_name) := ⟨rfl, rfl, rfl, by decide +kernel, rfl, by decide +kernel, by decide +kernel⟩
def m_l_is_name : S1 := sSeq (sIf (bOr (bNot (bE (eN (pu gIsi) (lCons (eVar 0) (lCons (eC (.con (.ty "str"))) (lNil)))))) (bNot (bE (eCh (pu gLe) (pu gLe) (eC (.int 1)) (eN (pu gLen) (lCons (eVar 0) (lNil))) (eC (.int 8)))))) (sRet (eC (.bl false))) (sNil)) (sRet (e2 (pu (gEq false)) (eLc [1] (.n 1) (wIt (eVar 0)) (bNot (bE (eCh (pu gLe) (pu gLe) (eC (.str "a")) (eVar 1) (eC (.str "z"))))) (eC (.int 1))) (eLst (lNil))))
theorem d_l_is_name (T : Txt P w K mg base)  {f : Addr} {cdv : Value} {A : Around} {outer : List PySem.Env} {s : Shared} {H : Hp} {E : XK} (rm : Rm 1 (A.deeper (PyProof.Rows.envOfC "_law_is_name" (defScope s_l_is_name) s.heap.objs.size f cdv))) :
    MSs (cxF P w K mg base N_l_is_name "_law_is_name" s_l_is_name f cdv A outer s H E) (wxF E) (defBody s_l_is_name) m_l_is_name := by
  exact mss_cons (ms_if (MW.toT (mw_or (mt_not (mt_val (me_bB call_gIsi (by rfl) T.b_isinstance (by decide +kernel) (ml_cons (me_var (pv 0)) (ml_cons (me_ty (by rfl) T.b_str (by decide +kernel)) (ml_nil)))))) (mw_or1 (mt_not (mt_ch op_gLe op_gLe (me_int) (me_bB call_gLen (by rfl) T.b_len (by decide +kernel) (ml_cons (me_var (pv 0)) (ml_nil))) (me_int)))))) (mss_one (ms_ret (me_bl))) (mss_nil)) (mss_one (ms_ret (me_cmp (op_gEq rm.toRoom.units) (nomark _) (me_lc (own := [("_law_sign", 1)]) rfl sc_l_is_name.nd (blkOk_by (own := [("_law_sign", 1)]) (N := N_l_is_name) (sc := defScope s_l_is_name) (by decide +kernel)) (by decide +kernel) (mi_it (me_var (pv 0))) (fun _ _ _ _ _ => mg_name (pg_name (i := 1) sc_l_is_name.nd rfl (Or.inl rfl))) (fun _ _ _ _ _ => mts_one (mt_not (mt_ch op_gLe op_gLe (me_str) (me_var (pv 1)) (me_str)))) (fun _ _ _ _ _ => me_int)) (me_lst (ml_nil)))))
def F_l_is_name : Fn := runB N_l_is_name.length m_l_is_name
abbrev s_told : Stmt := top 38
abbrev N_told : List Str := ["_law_call"]
theorem sc_told : FnScope N_told ["_law_call"] (defScope s_told) := ⟨rfl, rfl, rfl, by decide +kernel, rfl, by decide +kernel, by decide +kernel⟩
theorem b_told : BindsAll "_law_told" s_told ["_law_call"] := fun _ _ _ _ _ _ us hl => match us, hl with | [_], _ => rfl
def hs_told : List Hd := (⟨hit_ParseError, none, sRet (eC (.str "parse error"))⟩ :: (⟨hit_InvalidWord, none, sRet (eC (.str "word error"))⟩ :: (⟨hit_InvalidOperation, none, sRet (eC (.str "operation error"))⟩ :: [])))
abbrev s_name : Stmt := top 39
abbrev N_name : List Str := ["_law_dice_here", "_law_letters", "_law_some", "_law_turn"]
theorem sc_name : FnScope N_name ["_law_dice_here"] (defScope s_name) := ⟨rfl, rfl, rfl, by decide +kernel, rfl, by decide +kernel, by decide +kernel⟩
def m_name : S1 := sSeq (sSet 1 (eC (.str "abcdefghijklmnopqrstuvwxyz"))) (sSeq (sSet 2 (eLc [3] (.n 3) (wRange1 (lCons (e2 (pu gIx) (eLst (lCons (eC (.int 1)) (lCons (eC (.int 2)) (lCons (eC (.int 3)) (lCons (eC (.int 8)) (lNil)))))) (eCall F_roll (lCons (eVar 0) (lCons (eC (.int 4)) (lNil))))) (lNil))) (bYes) (e2 (pu gIx) (eVar 1) (eCall F_roll (lCons (eVar 0) (lCons (eC (.int 26)) (lNil))))))) (sRet (eM tyS gJoin (eC (.str "")) (lCons (eVar 2) (lNil)))))
theorem d_name (T : Txt P w K mg base) (c_roll : Cal P w K mg base 2 "_law_roll" ["_law_dice_here", "_law_total"] F_roll) {f : Addr} {cdv : Value} {A : Around} {outer : List PySem.Env} {s : Shared} {H : Hp} {E : XK} (rm : Rm 2 (A.deeper (PyProof.Rows.envOfC "_law_name" (defScope s_name) s.heap.objs.size f cdv))) :
    MSs (cxF P w K mg base N_name "_law_name" s_name f cdv A outer s H E) (wxF E) (defBody s_name) m_name := by
  exact mss_cons (ms_setD (i := 1) sc_name.nd rfl (Or.inr rfl) (me_str)) (mss_cons (ms_setLc (i := 2) (own := [("_law_turn", 3)]) rfl sc_name.nd rfl rfl (sw_true rfl rfl rfl (by decide +kernel)) (blkOk_by (own := [("_law_turn", 3)]) (N := N_name) (sc := defScope s_name) (by decide +kernel)) (by decide +kernel) (mi_range1D (ml_cons (me_ix ix_g (fun _ _ => rfl) (me_lst (ml_cons (me_int) (ml_cons (me_int) (ml_cons (me_int) (ml_cons (me_int) (ml_nil)))))) (me_call c_roll (rm.mono (by decide)) (by rfl) tkF (ml_cons (me_var (pv 0)) (ml_cons (me_int) (ml_nil))))) (ml_nil)) (by rfl) T.b_range) (fun _ _ _ _ _ => mg_name (pg_name (i := 3) sc_name.nd rfl (Or.inl rfl))) (fun _ _ _ _ _ => mts_nil) (fun _ _ _ _ _ => me_ix ix_g (fun _ _ => rfl) (me_var (pv 1)) (me_call c_roll (rm.mono (by decide)) (by rfl) ⟨takes0⟩ (ml_cons (me_var (pv 0)) (ml_cons (me_int) (ml_nil)))))) (mss_one (ms_ret (me_join (me_str) (ml_cons (me_var (pv 2)) (ml_nil))))))
def F_name : Fn := runB N_name.length m_name
abbrev s_word : Stmt := top 40
abbrev N_word : List Str := ["_law_dice_here", "_law_signs", "_law_turn"]
theorem sc_word : FnScope N_word ["_law_dice_here"] (defScope s_word) := ⟨rfl, rfl, rfl, by decide +kernel, rfl, by decide +kernel, by decide +kernel⟩
def m_word : S1 := sSeq (sSet 1 (eLc [2] (.n 2) (wRange1 (lCons (eCall F_roll (lCons (eVar 0) (lCons (eC (.int 6)) (lNil)))) (lNil))) (bYes) (eTup (lCons (e2 (pu gIx) (eLst (lCons (eC (.str "send")) (lCons (eC (.str "take")) (lNil)))) (eCall F_roll (lCons (eVar 0) (lCons (eC (.int 2)) (lNil))))) (lCons (eCall F_name (lCons (eVar 0) (lNil))) (lNil)))))) (sRet (eN (pu gTuple) (lCons (eVar 1) (lNil))))
theorem d_word (T : Txt P w K mg base) (c_roll : Cal P w K mg base 2 "_law_roll" ["_law_dice_here", "_law_total"] F_roll) (c_name : Cal P w K mg base 3 "_law_name" ["_law_dice_here"] F_name) {f : Addr} {cdv : Value} {A : Around} {outer : List PySem.Env} {s : Shared} {H : Hp} {E : XK} (rm : Rm 3 (A.deeper (PyProof.Rows.envOfC "_law_word" (defScope s_word) s.heap.objs.size f cdv))) :
    MSs (cxF P w K mg base N_word "_law_word" s_word f cdv A outer s H E) (wxF E) (defBody s_word) m_word := by
  exact mss_cons (ms_setLc (i := 1) (own := [("_law_turn", 2)]) rfl sc_word.nd rfl rfl (sw_true rfl rfl rfl (by decide +kernel)) (blkOk_by (own := [("_law_turn", 2)]) (N := N_word) (sc := defScope s_word) (by decide +kernel)) (by decide +kernel) (mi_range1D (ml_cons (me_call c_roll (rm.mono (by decide)) (by rfl) tkF (ml_cons (me_var (pv 0)) (ml_cons (me_int) (ml_nil)))) (ml_nil)) (by rfl) T.b_range) (fun _ _ _ _ _ => mg_name (pg_name (i := 2) sc_word.nd rfl (Or.inl rfl))) (fun _ _ _ _ _ => mts_nil) (fun _ _ _ _ _ => me_tup (ml_cons (me_ix ix_g (fun _ _ => rfl) (me_lst (ml_cons (me_str) (ml_cons (me_str) (ml_nil)))) (me_call c_roll (rm.mono (by decide)) (by rfl) ⟨takes0⟩ (ml_cons (me_var (pv 0)) (ml_cons (me_int) (ml_nil))))) (ml_cons (me_call c_name (rm.mono (by decide)) (by rfl) ⟨takes0⟩ (ml_cons (me_var (pv 0)) (ml_nil))) (ml_nil))))) (mss_one (ms_ret (me_bT call_gTuple (by rfl) T.b_tuple (by decide +kernel) (ml_cons (me_var (pv 1)) (ml_nil)))))
def F_word : Fn := runB N_word.length m_word
abbrev s_moves : Stmt := top 41
abbrev N_moves : List Str := ["_law_dice_here", "_law_turn"]
theorem sc_moves : FnScope N_moves ["_law_dice_here"] (defScope s_moves) := ⟨rfl, rfl, rfl, by decide +kernel, rfl, by decide +kernel, by decide +kernel⟩
def m_moves : S1 := sRet (eN (pu gTuple) (lCons (eLc [1] (.n 1) (wRange1 (lCons (eCall F_roll (lCons (eVar 0) (lCons (eC (.int 6)) (lNil)))) (lNil))) (bYes) (eTup (lCons (eCall F_name (lCons (eVar 0) (lNil))) (lCons (e2 (pu gIx) (eLst (lCons (eC (.int 0)) (lCons (eC (.int 9)) (lCons (eC (.int 10)) (lCons (eC (.int 89)) (lCons (eC (.int 7)) (lNil))))))) (eCall F_roll (lCons (eVar 0) (lCons (eC (.int 5)) (lNil))))) (lNil))))) (lNil)))
theorem d_moves (T : Txt P w K mg base) (c_roll : Cal P w K mg base 2 "_law_roll" ["_law_dice_here", "_law_total"] F_roll) (c_name : Cal P w K mg base 3 "_law_name" ["_law_dice_here"] F_name) {f : Addr} {cdv : Value} {A : Around} {outer : List PySem.Env} {s : Shared} {H : Hp} {E : XK} (rm : Rm 3 (A.deeper (PyProof.Rows.envOfC "_law_moves" (defScope s_moves) s.heap.objs.size f cdv))) :
    MSs (cxF P w K mg base N_moves "_law_moves" s_moves f cdv A outer s H E) (wxF E) (defBody s_moves) m_moves := by
  exact mss_one (ms_ret (me_bT call_gTuple (by rfl) T.b_tuple (by decide +kernel) (ml_cons (me_lc (own := [("_law_turn", 1)]) rfl sc_moves.nd (blkOk_by (own := [("_law_turn", 1)]) (N := N_moves) (sc := defScope s_moves) (by decide +kernel)) (by decide +kernel) (mi_range1D (ml_cons (me_call c_roll (rm.mono (by decide)) (by rfl) tkF (ml_cons (me_var (pv 0)) (ml_cons (me_int) (ml_nil)))) (ml_nil)) (by rfl) T.b_range) (fun _ _ _ _ _ => mg_name (pg_name (i := 1) sc_moves.nd rfl (Or.inl rfl))) (fun _ _ _ _ _ => mts_nil) (fun _ _ _ _ _ => me_tup (ml_cons (me_call c_name (rm.mono (by decide)) (by rfl) ⟨takes0⟩ (ml_cons (me_var (pv 0)) (ml_nil))) (ml_cons (me_ix ix_g (fun _ _ => rfl) (me_lst (ml_cons (me_int) (ml_cons (me_int) (ml_cons (me_int) (ml_cons (me_int) (ml_cons (me_int) (ml_nil))))))) (me_call c_roll (rm.mono (by decide)) (by rfl) ⟨takes0⟩ (ml_cons (me_var (pv 0)) (ml_cons (me_int) (ml_nil))))) (ml_nil))))) (ml_nil))))
def F_moves : Fn := runB N_moves.length m_moves
abbrev s_l_sign_text : Stmt := top 42
abbrev N_l_sign_text : List Str := ["_law_sign"]
theorem sc_l_sign_text : FnScope N_l_sign_text ["_law_sign"] (defScope s_l_sign_text) := ⟨rfl, rfl, rfl, by decide +kernel, rfl, by decide +kernel, by decide +kernel⟩
def m_l_sign_text : S1 := sRet (e2 (pu gAdd) (e2 (pu gIx) (eLst (lCons (eC (.str "!")) (lCons (eC (.str "?")) (lNil)))) (eN (pu gIntA) (lCons (e2 (pu (gEq false)) (e2 (pu gIx) (eVar 0) (eC (.int 0))) (eC (.str "take"))) (lNil)))) (e2 (pu gIx) (eVar 0) (eC (.int 1))))
theorem d_l_sign_text (T : Txt P w K mg base)  {f : Addr} {cdv : Value} {A : Around} {outer : List PySem.Env} {s : Shared} {H : Hp} {E : XK} (rm : Rm 1 (A.deeper (PyProof.Rows.envOfC "_law_sign_text" (defScope s_l_sign_text) s.heap.objs.size f cdv))) :
    MSs (cxF P w K mg base N_l_sign_text "_law_sign_text" s_l_sign_text f cdv A outer s H E) (wxF E) (defBody s_l_sign_text) m_l_sign_text := by
  exact mss_one (ms_ret (me_op op_gAdd (me_ix ix_g (fun _ _ => rfl) (me_lst (ml_cons (me_str) (ml_cons (me_str) (ml_nil)))) (me_bT call_gIntA (by rfl) T.b_int (by decide +kernel) (ml_cons (me_cmp (op_gEq rm.toRoom.units) (nomark _) (me_ix ix_g (fun _ _ => rfl) (me_var (pv 0)) (me_int)) (me_str)) (ml_nil)))) (me_ix ix_g (fun _ _ => rfl) (me_var (pv 0)) (me_int))))
def F_l_sign_text : Fn := runB N_l_sign_text.length m_l_sign_text
abbrev s_read_word : Stmt := top 43
abbrev N_read_word : List Str := ["_law_text", "_law_found", "_law_part"]
theorem sc_read_word : FnScope N_read_word ["_law_text"] (defScope s_read_word) := ⟨rfl, rfl, rfl, by decide +kernel, rfl, by decide +kernel, by decide +kernel⟩
def m_read_word : S1 := sSeq (sIf (bE (e2 (pu (gEq false)) (eVar 0) (eC (.str "-")))) (sRet (eTup (lNil))) (sNil)) (sSeq (sSet 1 (eLstC (lNil))) (sSeq (sFor (.n 2) (wIt (eM tyS gSplit (eVar 0) (lCons (eC (.str " ")) (lNil)))) (sSeq (sIf (bOr (bE (e2 (pu (gIn true)) (eSl gSl (eVar 2) (oNone) (oSome (eC (.int 1)))) (eTup (lCons (eC (.str "!")) (lCons (eC (.str "?")) (lNil)))))) (bNot (bE (eCall F_l_is_name (lCons (eSl gSl (eVar 2) (oSome (eC (.int 1))) (oNone)) (lNil)))))) (sRet (eC .non)) (sNil)) (sExpr (eM tyL gApp (eVar 1) (lCons (eTup (lCons (e2 (pu gIx) (eLst (lCons (eC (.str "send")) (lCons (eC (.str "take")) (lNil)))) (eN (pu gIntA) (lCons (e2 (pu (gEq false)) (e2 (pu gIx) (eVar 2) (eC (.int 0))) (eC (.str "?"))) (lNil)))) (lCons (eSl gSl (eVar 2) (oSome (eC (.int 1))) (oNone)) (lNil)))) (lNil)))))) (sRet (eN (pu gTuple) (lCons (eVar 1) (lNil))))))
theorem d_read_word (T : Txt P w K mg base) (c_l_is_name : Cal P w K mg base 2 "_law_is_name" ["_law_value"] F_l_is_name) {f : Addr} {cdv : Value} {A : Around} {outer : List PySem.Env} {s : Shared} {H : Hp} {E : XK} (rm : Rm 2 (A.deeper (PyProof.Rows.envOfC "_law_read_word" (defScope s_read_word) s.heap.objs.size f cdv))) :
    MSs (cxF P w K mg base N_read_word "_law_read_word" s_read_word f cdv A outer s H E) (wxF E) (defBody s_read_word) m_read_word := by
  exact mss_cons (ms_if (mt_cmp (op_gEq rm.toRoom.units) (nomark _) (me_var (pv 0)) (me_str)) (mss_one (ms_ret (me_tup (ml_nil)))) (mss_nil)) (mss_cons (ms_setD (i := 1) sc_read_word.nd rfl (Or.inl rfl) (me_lstC (ml_nil))) (mss_cons (ms_for passF rfl (mi_it (me_split (me_var (pv 0)) (ml_cons (me_str) (ml_nil)))) (mg_name (pg_name (i := 2) sc_read_word.nd rfl (Or.inl rfl))) (mss_cons (ms_if (MW.toT (mw_or (mt_cmp (op_gNotIn rm.u65) (by rfl) (me_sl sl_g (me_var (pv 2)) (mo_none) (mo_some (me_int))) (me_tup (ml_cons (me_str) (ml_cons (me_str) (ml_nil))))) (mw_or1 (mt_not (mt_val (me_call c_l_is_name (rm.mono (by decide)) (by rfl) tkF (ml_cons (me_sl sl_g (me_var (pv 2)) (mo_some (me_int)) (mo_none)) (ml_nil)))))))) (mss_one (ms_ret (me_non))) (mss_nil)) (mss_one (ms_expr (me_append (me_var (pv 1)) (ml_cons (me_tup (ml_cons (me_ix ix_g (fun _ _ => rfl) (me_lst (ml_cons (me_str) (ml_cons (me_str) (ml_nil)))) (me_bT call_gIntA (by rfl) T.b_int (by decide +kernel) (ml_cons (me_cmp (op_gEq rm.toRoom.units) (nomark _) (me_ix ix_g (fun _ _ => rfl) (me_var (pv 2)) (me_int)) (me_str)) (ml_nil)))) (ml_cons (me_sl sl_g (me_var (pv 2)) (mo_some (me_int)) (mo_none)) (ml_nil)))) (ml_nil))))))) (mss_one (ms_ret (me_bT call_gTuple (by rfl) T.b_tuple (by decide +kernel) (ml_cons (me_var (pv 1)) (ml_nil)))))))
def F_read_word : Fn := runB N_read_word.length m_read_word
abbrev s_read_moves : Stmt := top 44
abbrev N_read_moves : List Str := ["_law_text", "_law_found", "_law_part", "_law_name_here", "_law_numbers", "_law_number"]
theorem sc_read_moves : FnScope N_read_moves ["_law_text"] (defScope s_read_moves) := ⟨rfl, rfl, rfl, by decide +kernel, rfl, by decide +kernel, by decide +kernel⟩
def m_read_moves : S1 := sSeq (sIf (bE (e2 (pu (gEq false)) (eVar 0) (eC (.str "-")))) (sRet (eTup (lNil))) (sNil)) (sSeq (sSet 1 (eLstC (lNil))) (sSeq (sFor (.n 2) (wIt (eM tyS gSplit (eVar 0) (lCons (eC (.str " ")) (lNil)))) (sSeq (sPar [3, 4] (lCons (e2 (pu gIx) (eM tyS gSplit (eVar 2) (lCons (eC (.str ".")) (lNil))) (eC (.int 0))) (lCons (eLc [5] (.n 5) (wRange1 (lCons (eC (.int 90)) (lNil))) (bYes) (eN (pu gStrI) (lCons (eVar 5) (lNil)))) lNil))) (sSeq (sIf (bOr (bNot (bE (eCall F_l_is_name (lCons (eVar 3) (lNil))))) (bOr (bE (e2 (pu (gIn true)) (eSl gSl (eVar 2) (oSome (e2 (pu gAdd) (eN (pu gLen) (lCons (eVar 3) (lNil))) (eC (.int 1)))) (oNone)) (eVar 4))) (bE (e2 (pu (gEq true)) (eSl gSl (eVar 2) (oSome (eN (pu gLen) (lCons (eVar 3) (lNil)))) (oSome (e2 (pu gAdd) (eN (pu gLen) (lCons (eVar 3) (lNil))) (eC (.int 1))))) (eC (.str ".")))))) (sRet (eC .non)) (sNil)) (sExpr (eM tyL gApp (eVar 1) (lCons (eTup (lCons (eVar 3) (lCons (eN (pu gIntA) (lCons (eSl gSl (eVar 2) (oSome (e2 (pu gAdd) (eN (pu gLen) (lCons (eVar 3) (lNil))) (eC (.int 1)))) (oNone)) (lNil))) (lNil)))) (lNil))))))) (sRet (eN (pu gTuple) (lCons (eVar 1) (lNil))))))
theorem d_read_moves (T : Txt P w K mg base) (c_l_is_name : Cal P w K mg base 2 "_law_is_name" ["_law_value"] F_l_is_name) {f : Addr} {cdv : Value} {A : Around} {outer : List PySem.Env} {s : Shared} {H : Hp} {E : XK} (rm : Rm 2 (A.deeper (PyProof.Rows.envOfC "_law_read_moves" (defScope s_read_moves) s.heap.objs.size f cdv))) :
    MSs (cxF P w K mg base N_read_moves "_law_read_moves" s_read_moves f cdv A outer s H E) (wxF E) (defBody s_read_moves) m_read_moves := by
  exact mss_cons (ms_if (mt_cmp (op_gEq rm.toRoom.units) (nomark _) (me_var (pv 0)) (me_str)) (mss_one (ms_ret (me_tup (ml_nil)))) (mss_nil)) (mss_cons (ms_setD (i := 1) sc_read_moves.nd rfl (Or.inl rfl) (me_lstC (ml_nil))) (mss_cons (ms_for passF rfl (mi_it (me_split (me_var (pv 0)) (ml_cons (me_str) (ml_nil)))) (mg_name (pg_name (i := 2) sc_read_moves.nd rfl (Or.inl rfl))) (mss_cons (ms_parD (i := 3) (j := 4) sc_read_moves.nd (ml_cons (me_ix ix_g (fun _ _ => rfl) (me_split (me_var (pv 2)) (ml_cons (me_str) (ml_nil))) (me_int)) (ml_cons (me_lc (own := [("_law_number", 5)]) rfl sc_read_moves.nd (blkOk_by (own := [("_law_number", 5)]) (N := N_read_moves) (sc := defScope s_read_moves) (by decide +kernel)) (by decide +kernel) (mi_range1D (ml_cons (me_int) (ml_nil)) (by rfl) T.b_range) (fun _ _ _ _ _ => mg_name (pg_name (i := 5) sc_read_moves.nd rfl (Or.inl rfl))) (fun _ _ _ _ _ => mts_nil) (fun _ _ _ _ _ => me_bT call_gStrI (by rfl) T.b_str (by decide +kernel) (ml_cons (me_var (pv 5)) (ml_nil)))) ml_nil))) (mss_cons (ms_if (MW.toT (mw_or (mt_not (mt_val (me_call c_l_is_name (rm.mono (by decide)) (by rfl) tkF (ml_cons (me_var (pv 3)) (ml_nil))))) (mw_or (mt_cmp (op_gNotIn rm.u65) (by rfl) (me_sl sl_g (me_var (pv 2)) (mo_some (me_op op_gAdd (me_bB call_gLen (by rfl) T.b_len (by decide +kernel) (ml_cons (me_var (pv 3)) (ml_nil))) (me_int))) (mo_none)) (me_var (pv 4))) (mw_or1 (mt_cmp (op_gNe rm.toRoom.units) (nomark _) (me_sl sl_g (me_var (pv 2)) (mo_some (me_bB call_gLen (by rfl) T.b_len (by decide +kernel) (ml_cons (me_var (pv 3)) (ml_nil)))) (mo_some (me_op op_gAdd (me_bB call_gLen (by rfl) T.b_len (by decide +kernel) (ml_cons (me_var (pv 3)) (ml_nil))) (me_int)))) (me_str)))))) (mss_one (ms_ret (me_non))) (mss_nil)) (mss_one (ms_expr (me_append (me_var (pv 1)) (ml_cons (me_tup (ml_cons (me_var (pv 3)) (ml_cons (me_bT call_gIntA (by rfl) T.b_int (by decide +kernel) (ml_cons (me_sl sl_g (me_var (pv 2)) (mo_some (me_op op_gAdd (me_bB call_gLen (by rfl) T.b_len (by decide +kernel) (ml_cons (me_var (pv 3)) (ml_nil))) (me_int))) (mo_none)) (ml_nil))) (ml_nil)))) (ml_nil)))))))) (mss_one (ms_ret (me_bT call_gTuple (by rfl) T.b_tuple (by decide +kernel) (ml_cons (me_var (pv 1)) (ml_nil)))))))
def F_read_moves : Fn := runB N_read_moves.length m_read_moves
abbrev s_bent_text : Stmt := top 45
abbrev N_bent_text : List Str := ["_law_dice_here", "_law_text", "_law_at", "_law_sign", "_law_way"]
theorem sc_bent_text : FnScope N_bent_text ["_law_dice_here", "_law_text"] (defScope s_bent_text) := ⟨rfl, rfl, rfl, by decide +kernel, rfl, by decide +kernel, by decide +kernel⟩
def m_bent_text : S1 := sSeq (sSet 2 (eCall F_roll (lCons (eVar 0) (lCons (e2 (pu gAdd) (eN (pu gLen) (lCons (eVar 1) (lNil))) (eC (.int 1))) (lNil))))) (sSeq (sSet 3 (eCall F_one_of (lCons (eVar 0) (lCons (eLst (lCons (eC (.str " ")) (lCons (eC (.str "!")) (lCons (eC (.str "?")) (lCons (eC (.str ".")) (lCons (eC (.str "-")) (lCons (eC (.str "0")) (lCons (eC (.str "9")) (lCons (eC (.str "a")) (lCons (eC (.str "A")) (lCons (eC (.str "\n")) (lCons (eC (.str "\t")) (lCons (eC (.str "_")) (lCons (eC (.str "~")) (lCons (eC (.str "+")) (lNil)))))))))))))))) (lNil))))) (sSeq (sSet 4 (eCall F_roll (lCons (eVar 0) (lCons (eC (.int 6)) (lNil))))) (sSeq (sIf (bE (e2 (pu (gEq false)) (eVar 4) (eC (.int 0)))) (sRet (e2 (pu gAdd) (eSl gSl (eVar 1) (oNone) (oSome (eVar 2))) (eSl gSl (eVar 1) (oSome (e2 (pu gAdd) (eVar 2) (eC (.int 1)))) (oNone)))) (sNil)) (sSeq (sIf (bE (e2 (pu (gEq false)) (eVar 4) (eC (.int 1)))) (sRet (e2 (pu gAdd) (e2 (pu gAdd) (eSl gSl (eVar 1) (oNone) (oSome (eVar 2))) (eVar 3)) (eSl gSl (eVar 1) (oSome (eVar 2)) (oNone)))) (sNil)) (sSeq (sIf (bE (e2 (pu (gEq false)) (eVar 4) (eC (.int 2)))) (sRet (e2 (pu gAdd) (e2 (pu gAdd) (eSl gSl (eVar 1) (oNone) (oSome (eVar 2))) (eVar 3)) (eSl gSl (eVar 1) (oSome (e2 (pu gAdd) (eVar 2) (eC (.int 1)))) (oNone)))) (sNil)) (sSeq (sIf (bE (e2 (pu (gEq false)) (eVar 4) (eC (.int 3)))) (sRet (e2 (pu gAdd) (e2 (pu gAdd) (eSl gSl (eVar 1) (oNone) (oSome (eVar 2))) (e1 (pu gRev) (eSl gSl (eVar 1) (oSome (eVar 2)) (oSome (e2 (pu gAdd) (eVar 2) (eC (.int 2))))))) (eSl gSl (eVar 1) (oSome (e2 (pu gAdd) (eVar 2) (eC (.int 2)))) (oNone)))) (sNil)) (sRet (eCall F_one_of (lCons (eVar 0) (lCons (eLst (lCons (e2 (pu gAdd) (eVar 1) (eC (.str " "))) (lCons (e2 (pu gAdd) (eC (.str " ")) (eVar 1)) (lCons (e2 (pu gAdd) (eVar 1) (eC (.str "\n"))) (lCons (e2 (pu gMulA) (eVar 1) (eC (.int 2))) (lCons (e2 (pu gAdd) (eVar 1) (eSl gSl (eVar 1) (oSome (eVar 2)) (oNone))) (lCons (e2 (pu gAdd) (eC (.str "- ")) (eVar 1)) (lCons (eC (.str "")) (lNil))))))))) (lNil)))))))))))
theorem d_bent_text (T : Txt P w K mg base) (c_roll : Cal P w K mg base 2 "_law_roll" ["_law_dice_here", "_law_total"] F_roll) (c_one_of : Cal P w K mg base 3 "_law_one_of" ["_law_dice_here", "_law_items"] F_one_of) {f : Addr} {cdv : Value} {A : Around} {outer : List PySem.Env} {s : Shared} {H : Hp} {E : XK} (rm : Rm 3 (A.deeper (PyProof.Rows.envOfC "_law_bent_text" (defScope s_bent_text) s.heap.objs.size f cdv))) :
    MSs (cxF P w K mg base N_bent_text "_law_bent_text" s_bent_text f cdv A outer s H E) (wxF E) (defBody s_bent_text) m_bent_text := by
  exact mss_cons (ms_setD (i := 2) sc_bent_text.nd rfl (Or.inl rfl) (me_call c_roll (rm.mono (by decide)) (by rfl) tkF (ml_cons (me_var (pv 0)) (ml_cons (me_op op_gAdd (me_bB call_gLen (by rfl) T.b_len (by decide +kernel) (ml_cons (me_var (pv 1)) (ml_nil))) (me_int)) (ml_nil))))) (mss_cons (ms_setD (i := 3) sc_bent_text.nd rfl (Or.inl rfl) (me_call c_one_of (rm.mono (by decide)) (by rfl) tkF (ml_cons (me_var (pv 0)) (ml_cons (me_lst (ml_cons (me_str) (ml_cons (me_str) (ml_cons (me_str) (ml_cons (me_str) (ml_cons (me_str) (ml_cons (me_str) (ml_cons (me_str) (ml_cons (me_str) (ml_cons (me_str) (ml_cons (me_str) (ml_cons (me_str) (ml_cons (me_str) (ml_cons (me_str) (ml_cons (me_str) (ml_nil)))))))))))))))) (ml_nil))))) (mss_cons (ms_setD (i := 4) sc_bent_text.nd rfl (Or.inl rfl) (me_call c_roll (rm.mono (by decide)) (by rfl) tkF (ml_cons (me_var (pv 0)) (ml_cons (me_int) (ml_nil))))) (mss_cons (ms_if (mt_cmp (op_gEq rm.toRoom.units) (nomark _) (me_var (pv 4)) (me_int)) (mss_one (ms_ret (me_op op_gAdd (me_sl sl_g (me_var (pv 1)) (mo_none) (mo_some (me_var (pv 2)))) (me_sl sl_g (me_var (pv 1)) (mo_some (me_op op_gAdd (me_var (pv 2)) (me_int))) (mo_none))))) (mss_nil)) (mss_cons (ms_if (mt_cmp (op_gEq rm.toRoom.units) (nomark _) (me_var (pv 4)) (me_int)) (mss_one (ms_ret (me_op op_gAdd (me_op op_gAdd (me_sl sl_g (me_var (pv 1)) (mo_none) (mo_some (me_var (pv 2)))) (me_var (pv 3))) (me_sl sl_g (me_var (pv 1)) (mo_some (me_var (pv 2))) (mo_none))))) (mss_nil)) (mss_cons (ms_if (mt_cmp (op_gEq rm.toRoom.units) (nomark _) (me_var (pv 4)) (me_int)) (mss_one (ms_ret (me_op op_gAdd (me_op op_gAdd (me_sl sl_g (me_var (pv 1)) (mo_none) (mo_some (me_var (pv 2)))) (me_var (pv 3))) (me_sl sl_g (me_var (pv 1)) (mo_some (me_op op_gAdd (me_var (pv 2)) (me_int))) (mo_none))))) (mss_nil)) (mss_cons (ms_if (mt_cmp (op_gEq rm.toRoom.units) (nomark _) (me_var (pv 4)) (me_int)) (mss_one (ms_ret (me_op op_gAdd (me_op op_gAdd (me_sl sl_g (me_var (pv 1)) (mo_none) (mo_some (me_var (pv 2)))) (me_revS (me_sl sl_g (me_var (pv 1)) (mo_some (me_var (pv 2))) (mo_some (me_op op_gAdd (me_var (pv 2)) (me_int)))))) (me_sl sl_g (me_var (pv 1)) (mo_some (me_op op_gAdd (me_var (pv 2)) (me_int))) (mo_none))))) (mss_nil)) (mss_one (ms_ret (me_call c_one_of (rm.mono (by decide)) (by rfl) tkF (ml_cons (me_var (pv 0)) (ml_cons (me_lst (ml_cons (me_op op_gAdd (me_var (pv 1)) (me_str)) (ml_cons (me_op op_gAdd (me_str) (me_var (pv 1))) (ml_cons (me_op op_gAdd (me_var (pv 1)) (me_str)) (ml_cons (me_op op_gMulA (me_var (pv 1)) (me_int)) (ml_cons (me_op op_gAdd (me_var (pv 1)) (me_sl sl_g (me_var (pv 1)) (mo_some (me_var (pv 2))) (mo_none))) (ml_cons (me_op op_gAdd (me_str) (me_var (pv 1))) (ml_cons (me_str) (ml_nil))))))))) (ml_nil))))))))))))
def F_bent_text : Fn := runB N_bent_text.length m_bent_text
abbrev s_words_right : Stmt := top 46
abbrev N_words_right : List Str := ["_law_dice_here", "_law_word_here", "_law_text", "_law_sign", "_law_turn", "_law_other", "_law_due", "_law_odd", "_law_value"]
theorem sc_words_right : FnScope N_words_right ["_law_dice_here"] (defScope s_words_right) := ⟨rfl, rfl, rfl, by decide +kernel, rfl, by decide +kernel, by decide +kernel⟩
def m_words_right : S1 := sSeq (sSet 1 (eCall F_word (lCons (eVar 0) (lNil)))) (sSeq (sSet 2 (eIf (bE (e2 (pu (gEq true)) (eVar 1) (eTup (lNil)))) (eM tyS gJoin (eC (.str " ")) (lCons (eLc [3] (.n 3) (wIt (eVar 1)) (bYes) (eCall F_l_sign_text (lCons (eVar 3) (lNil)))) (lNil))) (eC (.str "-")))) (sSeq (sIf (bOr (bE (e2 (pu (gEq true)) (eN (pu gRep) (lCons (eCall F_format_word (lCons (eVar 1) (lNil))) (lNil))) (eN (pu gRep) (lCons (eVar 2) (lNil))))) (bE (e2 (pu (gEq true)) (eN (pu gRep) (lCons (eCall F_parse_word (lCons (eVar 2) (lNil))) (lNil))) (eN (pu gRep) (lCons (eVar 1) (lNil)))))) (sRet (eC (.bl false))) (sNil)) (sSeq (sFor (.n 4) (wRange1 (lCons (eC (.int 8)) (lNil))) (sSeq (sSet 5 (eCall F_bent_text (lCons (eVar 0) (lCons (eVar 2) (lNil))))) (sSeq (sSet 6 (eCall F_read_word (lCons (eVar 5) (lNil)))) (sIf (bE (e2 (pu (gEq true)) (eN (pu gRep) (lCons (eLam 0 P_words_right q_words_right (eCall F_parse_word (lCons (eVar 5) (lNil))) kRet hs_told N_told.length (sNil)) (lNil))) (eN (pu gRep) (lCons (eIf (bE (e2 (pu (gIsA false)) (eVar 6) (eC .non))) (eC (.str "parse error")) (eVar 6)) (lNil))))) (sRet (eC (.bl false))) (sNil))))) (sSeq (sSet 7 (eLst (lCons (eC .non) (lCons (eN (pu gList) (lCons (eVar 1) (lNil))) (lCons (e2 (pu gAdd) (eVar 1) (eTup (lCons (eTup (lCons (eC (.str "post")) (lCons (eC (.str "x")) (lNil)))) (lNil)))) (lCons (e2 (pu gAdd) (eVar 1) (eTup (lCons (eTup (lCons (eC (.str "send")) (lNil))) (lNil)))) (lCons (e2 (pu gAdd) (eVar 1) (eTup (lCons (eTup (lCons (eC (.str "take")) (lCons (eC (.str "X")) (lNil)))) (lNil)))) (lCons (eC (.str "!x")) (lCons (eC (.int 7)) (lCons (eTup (lCons (eTup (lNil)) (lNil))) (lNil))))))))))) (sSeq (sSet 8 (eCall F_one_of (lCons (eVar 0) (lCons (e2 (pu gAdd) (eVar 7) (eLst (lCons (e2 (pu gAdd) (eVar 1) (eTup (lCons (eTup (lCons (eC (.str "send")) (lCons (eC (.str "abcdefghi")) (lNil)))) (lNil)))) (lCons (e2 (pu gAdd) (eVar 1) (eTup (lCons (eLst (lCons (eC (.str "send")) (lCons (eC (.str "x")) (lNil)))) (lNil)))) (lCons (e2 (pu gAdd) (eVar 1) (eTup (lCons (eC .non) (lNil)))) (lCons (eDic0) (lNil))))))) (lNil))))) (sSeq (sIf (bE (e2 (pu (gEq true)) (eLam 0 P_words_right q_words_right (eCall F_format_word (lCons (eVar 8) (lNil))) kRet hs_told N_told.length (sNil)) (eC (.str "word error")))) (sRet (eC (.bl false))) (sNil)) (sRet (e2 (pu (gEq false)) (eLam 0 P_words_right q_words_right (eCall F_parse_word (lCons (eCall F_one_of (lCons (eVar 0) (lCons (e2 (pu gAdd) (eSl gSl (eVar 7) (oNone) (oSome (eC (.int 2)))) (eLst (lCons (eC (.int 7)) (lCons (eTup (lCons (eC (.str "!x")) (lNil))) (lCons (eLst (lCons (eC (.str "-")) (lNil))) (lCons (eDic0) (lCons (eC (.bl true)) (lNil)))))))) (lNil)))) (lNil))) kRet hs_told N_told.length (sNil)) (eC (.str "parse error"))))))))))
theorem d_words_right (T : Txt P w K mg base) (c_word : Cal P w K mg base 4 "_law_word" ["_law_dice_here"] F_word) (c_l_sign_text : Cal P w K mg base 2 "_law_sign_text" ["_law_sign"] F_l_sign_text) (c_format_word : Cal P w K mg base 6 "format_word" ["word"] F_format_word) (c_parse_word : Cal P w K mg base 5 "parse_word" ["text"] F_parse_word) (c_bent_text : Cal P w K mg base 4 "_law_bent_text" ["_law_dice_here", "_law_text"] F_bent_text) (c_read_word : Cal P w K mg base 3 "_law_read_word" ["_law_text"] F_read_word) (c_one_of : Cal P w K mg base 3 "_law_one_of" ["_law_dice_here", "_law_items"] F_one_of) (D_told : Def K mg "_law_told" s_told) (tb_words_right : LamX.TabB base mg K_words_right P_words_right) {f : Addr} {A : Around} {outer : List PySem.Env} {s : Shared} {H : Hp} {E : XK} (rm : Rm 8 (A.deeper (PyProof.Rows.envOfC "_law_words_right" (defScope s_words_right) s.heap.objs.size f (.ref K_words_right)))) :
    MSs (cxF P w K mg base N_words_right "_law_words_right" s_words_right f (.ref K_words_right) A outer s H E) (wxF E) (defBody s_words_right) m_words_right := by
  exact mss_cons (ms_setD (i := 1) sc_words_right.nd rfl (Or.inl rfl) (me_call c_word (rm.mono (by decide)) (by rfl) tkF (ml_cons (me_var (pv 0)) (ml_nil)))) (mss_cons (ms_setD (i := 2) sc_words_right.nd rfl (Or.inl rfl) (me_if (mt_cmp (op_gNe rm.toRoom.units) (nomark _) (me_var (pv 1)) (me_tup (ml_nil))) (me_join (me_str) (ml_cons (me_lc (own := [("_law_sign", 3)]) rfl sc_words_right.nd (blkOk_by (own := [("_law_sign", 3)]) (N := N_words_right) (sc := defScope s_words_right) (by decide +kernel)) (by decide +kernel) (mi_it (me_var (pv 1))) (fun _ _ _ _ _ => mg_name (pg_name (i := 3) sc_words_right.nd rfl (Or.inl rfl))) (fun _ _ _ _ _ => mts_nil) (fun _ _ _ _ _ => me_call c_l_sign_text (rm.mono (by decide)) (by rfl) ⟨takes0⟩ (ml_cons (me_var (pv 3)) (ml_nil)))) (ml_nil))) (me_str))) (mss_cons (ms_if (MW.toT (mw_or (mt_cmp (op_gNe rm.toRoom.units) (nomark _) (me_bB (call_gRep rm (sd_of T.sys)) (by rfl) T.b_repr (by decide +kernel) (ml_cons (me_call c_format_word (rm.mono (by decide)) (by rfl) tkF (ml_cons (me_var (pv 1)) (ml_nil))) (ml_nil))) (me_bB (call_gRep rm (sd_of T.sys)) (by rfl) T.b_repr (by decide +kernel) (ml_cons (me_var (pv 2)) (ml_nil)))) (mw_or1 (mt_cmp (op_gNe rm.toRoom.units) (nomark _) (me_bB (call_gRep rm (sd_of T.sys)) (by rfl) T.b_repr (by decide +kernel) (ml_cons (me_call c_parse_word (rm.mono (by decide)) (by rfl) tkF (ml_cons (me_var (pv 2)) (ml_nil))) (ml_nil))) (me_bB (call_gRep rm (sd_of T.sys)) (by rfl) T.b_repr (by decide +kernel) (ml_cons (me_var (pv 1)) (ml_nil))))))) (mss_one (ms_ret (me_bl))) (mss_nil)) (mss_cons (ms_for passF rfl (mi_range1D (ml_cons (me_int) (ml_nil)) (by rfl) T.b_range) (mg_name (pg_name (i := 4) sc_words_right.nd rfl (Or.inl rfl))) (mss_cons (ms_setD (i := 5) sc_words_right.nd rfl (Or.inr rfl) (me_call c_bent_text (rm.mono (by decide)) (by rfl) tkF (ml_cons (me_var (pv 0)) (ml_cons (me_var (pv 2)) (ml_nil))))) (mss_cons (ms_setD (i := 6) sc_words_right.nd rfl (Or.inl rfl) (me_call c_read_word (rm.mono (by decide)) (by rfl) tkF (ml_cons (me_var (pv 5)) (ml_nil)))) (mss_one (ms_if (mt_cmp (op_gNe rm.toRoom.units) (nomark _) (me_bB (call_gRep rm (sd_of T.sys)) (by rfl) T.b_repr (by decide +kernel) (ml_cons (me_lam (stg := s_told) (Ng := N_told) (c := K_words_right) (k := 5) D_told sc_told b_told rfl shape_ret (fun _ _ _ _ => MHd.plain ⟨by rfl, by decide, .inl T.g_ParseError⟩ T.hit_ParseError (fun _ _ => mss_one (ms_ret (me_str))) (MHd.plain ⟨by rfl, by decide, .inl T.g_InvalidWord⟩ T.hit_InvalidWord (fun _ _ => mss_one (ms_ret (me_str))) (MHd.plain ⟨by rfl, by decide, .inl T.g_InvalidOperation⟩ T.hit_InvalidOperation (fun _ _ => mss_one (ms_ret (me_str))) (MHd.nil)))) (fun _ _ _ _ => mss_nil) tb_words_right rfl (by rfl) (LamX.lamS_by (sc := defScope s_words_right) (by decide +kernel)) (rm.mono (by decide)) (fun A2 outer2 s2 H2 E2 f2 c2 rm2 => me_call c_parse_word (rm2.mono (by decide)) (by rfl) tkL (ml_cons (me_var (pv 5)) (ml_nil))) (by rfl) (.inl (by rfl))) (ml_nil))) (me_bB (call_gRep rm (sd_of T.sys)) (by rfl) T.b_repr (by decide +kernel) (ml_cons (me_if (mt_cmp op_gIsA (nomark _) (me_var (pv 6)) (me_non)) (me_str) (me_var (pv 6))) (ml_nil)))) (mss_one (ms_ret (me_bl))) (mss_nil)))))) (mss_cons (ms_setD (i := 7) sc_words_right.nd rfl (Or.inr rfl) (me_lst (ml_cons (me_non) (ml_cons (me_bT call_gList (by rfl) T.b_list (by decide +kernel) (ml_cons (me_var (pv 1)) (ml_nil))) (ml_cons (me_op op_gAdd (me_var (pv 1)) (me_tup (ml_cons (me_tup (ml_cons (me_str) (ml_cons (me_str) (ml_nil)))) (ml_nil)))) (ml_cons (me_op op_gAdd (me_var (pv 1)) (me_tup (ml_cons (me_tup (ml_cons (me_str) (ml_nil))) (ml_nil)))) (ml_cons (me_op op_gAdd (me_var (pv 1)) (me_tup (ml_cons (me_tup (ml_cons (me_str) (ml_cons (me_str) (ml_nil)))) (ml_nil)))) (ml_cons (me_str) (ml_cons (me_int) (ml_cons (me_tup (ml_cons (me_tup (ml_nil)) (ml_nil))) (ml_nil))))))))))) (mss_cons (ms_setD (i := 8) sc_words_right.nd rfl (Or.inr rfl) (me_call c_one_of (rm.mono (by decide)) (by rfl) tkF (ml_cons (me_var (pv 0)) (ml_cons (me_op op_gAdd (me_var (pv 7)) (me_lst (ml_cons (me_op op_gAdd (me_var (pv 1)) (me_tup (ml_cons (me_tup (ml_cons (me_str) (ml_cons (me_str) (ml_nil)))) (ml_nil)))) (ml_cons (me_op op_gAdd (me_var (pv 1)) (me_tup (ml_cons (me_lst (ml_cons (me_str) (ml_cons (me_str) (ml_nil)))) (ml_nil)))) (ml_cons (me_op op_gAdd (me_var (pv 1)) (me_tup (ml_cons (me_non) (ml_nil)))) (ml_cons (me_dic0) (ml_nil))))))) (ml_nil))))) (mss_cons (ms_if (mt_cmp (op_gNe rm.toRoom.units) (nomark _) (me_lam (stg := s_told) (Ng := N_told) (c := K_words_right) (k := 6) D_told sc_told b_told rfl shape_ret (fun _ _ _ _ => MHd.plain ⟨by rfl, by decide, .inl T.g_ParseError⟩ T.hit_ParseError (fun _ _ => mss_one (ms_ret (me_str))) (MHd.plain ⟨by rfl, by decide, .inl T.g_InvalidWord⟩ T.hit_InvalidWord (fun _ _ => mss_one (ms_ret (me_str))) (MHd.plain ⟨by rfl, by decide, .inl T.g_InvalidOperation⟩ T.hit_InvalidOperation (fun _ _ => mss_one (ms_ret (me_str))) (MHd.nil)))) (fun _ _ _ _ => mss_nil) tb_words_right rfl (by rfl) (LamX.lamS_by (sc := defScope s_words_right) (by decide +kernel)) (rm.mono (by decide)) (fun A2 outer2 s2 H2 E2 f2 c2 rm2 => me_call c_format_word (rm2.mono (by decide)) (by rfl) tkL (ml_cons (me_var (pv 8)) (ml_nil))) (by rfl) (.inl (by rfl))) (me_str)) (mss_one (ms_ret (me_bl))) (mss_nil)) (mss_one (ms_ret (me_cmp (op_gEq rm.toRoom.units) (nomark _) (me_lam (stg := s_told) (Ng := N_told) (c := K_words_right) (k := 5) D_told sc_told b_told rfl shape_ret (fun _ _ _ _ => MHd.plain ⟨by rfl, by decide, .inl T.g_ParseError⟩ T.hit_ParseError (fun _ _ => mss_one (ms_ret (me_str))) (MHd.plain ⟨by rfl, by decide, .inl T.g_InvalidWord⟩ T.hit_InvalidWord (fun _ _ => mss_one (ms_ret (me_str))) (MHd.plain ⟨by rfl, by decide, .inl T.g_InvalidOperation⟩ T.hit_InvalidOperation (fun _ _ => mss_one (ms_ret (me_str))) (MHd.nil)))) (fun _ _ _ _ => mss_nil) tb_words_right rfl (by rfl) (LamX.lamS_by (sc := defScope s_words_right) (by decide +kernel)) (rm.mono (by decide)) (fun A2 outer2 s2 H2 E2 f2 c2 rm2 => me_call c_parse_word (rm2.mono (by decide)) (by rfl) tkL (ml_cons (me_call c_one_of (rm2.mono (by decide)) (by rfl) tkL (ml_cons (me_var (pv 0)) (ml_cons (me_op op_gAdd (me_sl sl_g (me_var (pv 7)) (mo_none) (mo_some (me_int))) (me_lst (ml_cons (me_int) (ml_cons (me_tup (ml_cons (me_str) (ml_nil))) (ml_cons (me_lst (ml_cons (me_str) (ml_nil))) (ml_cons (me_dic0) (ml_cons (me_bl) (ml_nil)))))))) (ml_nil)))) (ml_nil))) (by rfl) (.inl (by rfl))) (me_str))))))))))
def F_words_right : Fn := runB N_words_right.length m_words_right
abbrev s_moves_right : Stmt := top 47
abbrev N_moves_right : List Str := ["_law_dice_here", "_law_moves_here", "_law_text", "_law_name_here", "_law_index", "_law_turn", "_law_other", "_law_due", "_law_odd", "_law_value", "_law_one"]
theorem sc_moves_right : FnScope N_moves_right ["_law_dice_here"] (defScope s_moves_right) := ⟨rfl, rfl, rfl, by decide +kernel, rfl, by decide +kernel, by decide +kernel⟩
def m_moves_right : S1 := sSeq (sSet 1 (eCall F_moves (lCons (eVar 0) (lNil)))) (sSeq (sSet 2 (eIf (bE (e2 (pu (gEq true)) (eVar 1) (eTup (lNil)))) (eM tyS gJoin (eC (.str " ")) (lCons (eLc [3, 4] (.t [.n 3, .n 4]) (wIt (eVar 1)) (bYes) (eJ [e1 (pu gFmt) (eVar 3), eC (.str "."), e1 (pu gFmt) (eVar 4)] Str.empty)) (lNil))) (eC (.str "-")))) (sSeq (sIf (bOr (bE (e2 (pu (gEq true)) (eN (pu gRep) (lCons (eCall F_format_moves (lCons (eVar 1) (lNil))) (lNil))) (eN (pu gRep) (lCons (eVar 2) (lNil))))) (bE (e2 (pu (gEq true)) (eN (pu gRep) (lCons (eCall F_parse_moves (lCons (eVar 2) (lNil))) (lNil))) (eN (pu gRep) (lCons (eVar 1) (lNil)))))) (sRet (eC (.bl false))) (sNil)) (sSeq (sFor (.n 5) (wRange1 (lCons (eC (.int 8)) (lNil))) (sSeq (sSet 6 (eCall F_bent_text (lCons (eVar 0) (lCons (eVar 2) (lNil))))) (sSeq (sSet 7 (eCall F_read_moves (lCons (eVar 6) (lNil)))) (sIf (bE (e2 (pu (gEq true)) (eN (pu gRep) (lCons (eLam 1 P_moves_right q_moves_right (eCall F_parse_moves (lCons (eVar 6) (lNil))) kRet hs_told N_told.length (sNil)) (lNil))) (eN (pu gRep) (lCons (eIf (bE (e2 (pu (gIsA false)) (eVar 7) (eC .non))) (eC (.str "parse error")) (eVar 7)) (lNil))))) (sRet (eC (.bl false))) (sNil))))) (sSeq (sSet 8 (eLst (lCons (eTup (lCons (eC (.str "a")) (lCons (eC (.int 90)) (lNil)))) (lCons (eTup (lCons (eC (.str "a")) (lCons (e1 (pu gNeg) (eC (.int 1))) (lNil)))) (lCons (eTup (lCons (eC (.str "a")) (lCons (eC (.bl true)) (lNil)))) (lCons (eTup (lCons (eC (.str "a")) (lCons (eC .non) (lNil)))) (lCons (eTup (lCons (eC (.str "a")) (lNil))) (lCons (eTup (lCons (eC (.str "A")) (lCons (eC (.int 0)) (lNil)))) (lCons (eTup (lCons (eC (.str "")) (lCons (eC (.int 0)) (lNil)))) (lCons (eLst (lCons (eC (.str "a")) (lCons (eC (.int 0)) (lNil)))) (lCons (eC .non) (lCons (eTup (lCons (eC (.str "a")) (lCons (eC (.str "0")) (lNil)))) (lNil))))))))))))) (sSeq (sSet 9 (eCall F_one_of (lCons (eVar 0) (lCons (e2 (pu gAdd) (eLc [10] (.n 10) (wIt (eVar 8)) (bYes) (e2 (pu gAdd) (eVar 1) (eTup (lCons (eVar 10) (lNil))))) (eLst (lCons (eN (pu gList) (lCons (eVar 1) (lNil))) (lCons (eC .non) (lCons (eDic0) (lCons (eC (.str "a.0")) (lNil))))))) (lNil))))) (sRet (e2 (pu (gEq false)) (eLam 1 P_moves_right q_moves_right (eCall F_format_moves (lCons (eVar 9) (lNil))) kRet hs_told N_told.length (sNil)) (eC (.str "operation error")))))))))
theorem d_moves_right (T : Txt P w K mg base) (c_moves : Cal P w K mg base 4 "_law_moves" ["_law_dice_here"] F_moves) (c_format_moves : Cal P w K mg base 5 "format_moves" ["moves"] F_format_moves) (c_parse_moves : Cal P w K mg base 6 "parse_moves" ["text"] F_parse_moves) (c_bent_text : Cal P w K mg base 4 "_law_bent_text" ["_law_dice_here", "_law_text"] F_bent_text) (c_read_moves : Cal P w K mg base 3 "_law_read_moves" ["_law_text"] F_read_moves) (c_one_of : Cal P w K mg base 3 "_law_one_of" ["_law_dice_here", "_law_items"] F_one_of) (D_told : Def K mg "_law_told" s_told) (tb_moves_right : LamX.TabB base mg K_moves_right P_moves_right) {f : Addr} {A : Around} {outer : List PySem.Env} {s : Shared} {H : Hp} {E : XK} (rm : Rm 8 (A.deeper (PyProof.Rows.envOfC "_law_moves_right" (defScope s_moves_right) s.heap.objs.size f (.ref K_moves_right)))) :
    MSs (cxF P w K mg base N_moves_right "_law_moves_right" s_moves_right f (.ref K_moves_right) A outer s H E) (wxF E) (defBody s_moves_right) m_moves_right := by
  exact mss_cons (ms_setD (i := 1) sc_moves_right.nd rfl (Or.inr rfl) (me_call c_moves (rm.mono (by decide)) (by rfl) tkF (ml_cons (me_var (pv 0)) (ml_nil)))) (mss_cons (ms_setD (i := 2) sc_moves_right.nd rfl (Or.inl rfl) (me_if (mt_cmp (op_gNe rm.toRoom.units) (nomark _) (me_var (pv 1)) (me_tup (ml_nil))) (me_join (me_str) (ml_cons (me_lc (own := [("_law_name_here", 3), ("_law_index", 4)]) rfl sc_moves_right.nd (blkOk_by (own := [("_law_name_here", 3), ("_law_index", 4)]) (N := N_moves_right) (sc := defScope s_moves_right) (by decide +kernel)) (by decide +kernel) (mi_it (me_var (pv 1))) (fun _ _ _ _ _ => mg_tupD (mgs_cons (mg_name (pg_name (i := 3) sc_moves_right.nd rfl (Or.inl rfl))) (mgs_cons (mg_name (pg_name (i := 4) sc_moves_right.nd rfl (Or.inl rfl))) (mgs_nil))) rfl) (fun _ _ _ _ _ => mts_nil) (fun _ _ _ _ _ => me_joined (MJ.cons (me_fmt (me_var (pv 3))) (MJ.cons (me_str) (MJ.cons (me_fmt (me_var (pv 4))) (MJ.nil)))))) (ml_nil))) (me_str))) (mss_cons (ms_if (MW.toT (mw_or (mt_cmp (op_gNe rm.toRoom.units) (nomark _) (me_bB (call_gRep rm (sd_of T.sys)) (by rfl) T.b_repr (by decide +kernel) (ml_cons (me_call c_format_moves (rm.mono (by decide)) (by rfl) tkF (ml_cons (me_var (pv 1)) (ml_nil))) (ml_nil))) (me_bB (call_gRep rm (sd_of T.sys)) (by rfl) T.b_repr (by decide +kernel) (ml_cons (me_var (pv 2)) (ml_nil)))) (mw_or1 (mt_cmp (op_gNe rm.toRoom.units) (nomark _) (me_bB (call_gRep rm (sd_of T.sys)) (by rfl) T.b_repr (by decide +kernel) (ml_cons (me_call c_parse_moves (rm.mono (by decide)) (by rfl) tkF (ml_cons (me_var (pv 2)) (ml_nil))) (ml_nil))) (me_bB (call_gRep rm (sd_of T.sys)) (by rfl) T.b_repr (by decide +kernel) (ml_cons (me_var (pv 1)) (ml_nil))))))) (mss_one (ms_ret (me_bl))) (mss_nil)) (mss_cons (ms_for passF rfl (mi_range1D (ml_cons (me_int) (ml_nil)) (by rfl) T.b_range) (mg_name (pg_name (i := 5) sc_moves_right.nd rfl (Or.inl rfl))) (mss_cons (ms_setD (i := 6) sc_moves_right.nd rfl (Or.inr rfl) (me_call c_bent_text (rm.mono (by decide)) (by rfl) tkF (ml_cons (me_var (pv 0)) (ml_cons (me_var (pv 2)) (ml_nil))))) (mss_cons (ms_setD (i := 7) sc_moves_right.nd rfl (Or.inl rfl) (me_call c_read_moves (rm.mono (by decide)) (by rfl) tkF (ml_cons (me_var (pv 6)) (ml_nil)))) (mss_one (ms_if (mt_cmp (op_gNe rm.toRoom.units) (nomark _) (me_bB (call_gRep rm (sd_of T.sys)) (by rfl) T.b_repr (by decide +kernel) (ml_cons (me_lam (stg := s_told) (Ng := N_told) (c := K_moves_right) (k := 6) D_told sc_told b_told rfl shape_ret (fun _ _ _ _ => MHd.plain ⟨by rfl, by decide, .inl T.g_ParseError⟩ T.hit_ParseError (fun _ _ => mss_one (ms_ret (me_str))) (MHd.plain ⟨by rfl, by decide, .inl T.g_InvalidWord⟩ T.hit_InvalidWord (fun _ _ => mss_one (ms_ret (me_str))) (MHd.plain ⟨by rfl, by decide, .inl T.g_InvalidOperation⟩ T.hit_InvalidOperation (fun _ _ => mss_one (ms_ret (me_str))) (MHd.nil)))) (fun _ _ _ _ => mss_nil) tb_moves_right rfl (by rfl) (LamX.lamS_by (sc := defScope s_moves_right) (by decide +kernel)) (rm.mono (by decide)) (fun A2 outer2 s2 H2 E2 f2 c2 rm2 => me_call c_parse_moves (rm2.mono (by decide)) (by rfl) tkL (ml_cons (me_var (pv 6)) (ml_nil))) (by rfl) (.inl (by rfl))) (ml_nil))) (me_bB (call_gRep rm (sd_of T.sys)) (by rfl) T.b_repr (by decide +kernel) (ml_cons (me_if (mt_cmp op_gIsA (nomark _) (me_var (pv 7)) (me_non)) (me_str) (me_var (pv 7))) (ml_nil)))) (mss_one (ms_ret (me_bl))) (mss_nil)))))) (mss_cons (ms_setD (i := 8) sc_moves_right.nd rfl (Or.inl rfl) (me_lst (ml_cons (me_tup (ml_cons (me_str) (ml_cons (me_int) (ml_nil)))) (ml_cons (me_tup (ml_cons (me_str) (ml_cons (me_un un_gNeg (me_int)) (ml_nil)))) (ml_cons (me_tup (ml_cons (me_str) (ml_cons (me_bl) (ml_nil)))) (ml_cons (me_tup (ml_cons (me_str) (ml_cons (me_non) (ml_nil)))) (ml_cons (me_tup (ml_cons (me_str) (ml_nil))) (ml_cons (me_tup (ml_cons (me_str) (ml_cons (me_int) (ml_nil)))) (ml_cons (me_tup (ml_cons (me_str) (ml_cons (me_int) (ml_nil)))) (ml_cons (me_lst (ml_cons (me_str) (ml_cons (me_int) (ml_nil)))) (ml_cons (me_non) (ml_cons (me_tup (ml_cons (me_str) (ml_cons (me_str) (ml_nil)))) (ml_nil))))))))))))) (mss_cons (ms_setD (i := 9) sc_moves_right.nd rfl (Or.inr rfl) (me_call c_one_of (rm.mono (by decide)) (by rfl) tkF (ml_cons (me_var (pv 0)) (ml_cons (me_op op_gAdd (me_lc (own := [("_law_one", 10)]) rfl sc_moves_right.nd (blkOk_by (own := [("_law_one", 10)]) (N := N_moves_right) (sc := defScope s_moves_right) (by decide +kernel)) (by decide +kernel) (mi_it (me_var (pv 8))) (fun _ _ _ _ _ => mg_name (pg_name (i := 10) sc_moves_right.nd rfl (Or.inl rfl))) (fun _ _ _ _ _ => mts_nil) (fun _ _ _ _ _ => me_op op_gAdd (me_var (pv 1)) (me_tup (ml_cons (me_var (pv 10)) (ml_nil))))) (me_lst (ml_cons (me_bT call_gList (by rfl) T.b_list (by decide +kernel) (ml_cons (me_var (pv 1)) (ml_nil))) (ml_cons (me_non) (ml_cons (me_dic0) (ml_cons (me_str) (ml_nil))))))) (ml_nil))))) (mss_one (ms_ret (me_cmp (op_gEq rm.toRoom.units) (nomark _) (me_lam (stg := s_told) (Ng := N_told) (c := K_moves_right) (k := 5) D_told sc_told b_told rfl shape_ret (fun _ _ _ _ => MHd.plain ⟨by rfl, by decide, .inl T.g_ParseError⟩ T.hit_ParseError (fun _ _ => mss_one (ms_ret (me_str))) (MHd.plain ⟨by rfl, by decide, .inl T.g_InvalidWord⟩ T.hit_InvalidWord (fun _ _ => mss_one (ms_ret (me_str))) (MHd.plain ⟨by rfl, by decide, .inl T.g_InvalidOperation⟩ T.hit_InvalidOperation (fun _ _ => mss_one (ms_ret (me_str))) (MHd.nil)))) (fun _ _ _ _ => mss_nil) tb_moves_right rfl (by rfl) (LamX.lamS_by (sc := defScope s_moves_right) (by decide +kernel)) (rm.mono (by decide)) (fun A2 outer2 s2 H2 E2 f2 c2 rm2 => me_call c_format_moves (rm2.mono (by decide)) (by rfl) tkL (ml_cons (me_var (pv 9)) (ml_nil))) (by rfl) (.inl (by rfl))) (me_str)))))))))
def F_moves_right : Fn := runB N_moves_right.length m_moves_right
abbrev s_law : Stmt := top 48
abbrev N_law : List Str := ["_law_script", "_law_k", "_law_dice_here", "_law_great", "_law_told_here", "_law_text", "_law_due"]
theorem sc_law : FnScope N_law ["_law_script"] (defScope s_law) := ⟨rfl, rfl, rfl, by decide +kernel, rfl, by decide +kernel, by decide +kernel⟩
def m_law : S1 := sSeq (sFor (.n 1) (wRange1 (lCons (eN (pu gMax2) (lCons (eC (.int 1)) (lCons (eN (pu gMin2) (lCons (eC (.int 5)) (lCons (eN (pu gLen) (lCons (eVar 0) (lNil))) (lNil)))) (lNil)))) (lNil))) (sSeq (sSet 2 (eCall F_dice (lCons (eVar 0) (lCons (eVar 1) (lNil))))) (sIf (bOr (bNot (bE (eCall F_words_right (lCons (eVar 2) (lNil))))) (bNot (bE (eCall F_moves_right (lCons (eVar 2) (lNil)))))) (sRet (eC (.bl false))) (sNil)))) (sSeq (sSet 3 (e2 (pu gAdd) (eC (.str "a.")) (e2 (pu gMulA) (eC (.str "9")) (eC (.int 5000))))) (sSeq (sSet 4 (eLst (lCons (eLam 2 P_law q_law (eCall F_parse_moves (lCons (eVar 3) (lNil))) kRet hs_told N_told.length (sNil)) (lNil)))) (sSeq (sFor (.n 5) (wIt (eTup (lCons (eC (.str "a.+1")) (lCons (eC (.str "a.-1")) (lCons (eC (.str "a. 1")) (lCons (eC (.str "a.1 ")) (lCons (eC (.str "a.1_0")) (lNil)))))))) (sIf (bE (e2 (pu (gEq true)) (eLam 2 P_law q_law (eCall F_parse_moves (lCons (eVar 5) (lNil))) kRet hs_told N_told.length (sNil)) (eC (.str "parse error")))) (sRet (eC (.bl false))) (sNil))) (sSeq (sSet 4 (e2 (pu gAdd) (eVar 4) (eLst (lCons (eLam 2 P_law q_law (eCall F_parse_moves (lCons (eC (.str "a.089")) (lNil))) kRet hs_told N_told.length (sNil)) (lCons (eCall F_parse_moves (lCons (eC (.str "a.89 b.0")) (lNil))) (lNil)))))) (sSeq (sSet 4 (e2 (pu gAdd) (eVar 4) (eLst (lCons (eLam 2 P_law q_law (eCall F_parse_word (lCons (e2 (pu gAdd) (eC (.str "!")) (e2 (pu gMulA) (eC (.str "x")) (eC (.int 5000)))) (lNil))) kRet hs_told N_told.length (sNil)) (lCons (eCall F_parse_word (lCons (eC (.str "!x ?x !abcdefgh")) (lNil))) (lNil)))))) (sSeq (sSet 6 (eLst (lCons (eC (.str "parse error")) (lCons (eC (.str "parse error")) (lCons (eTup (lCons (eTup (lCons (eC (.str "a")) (lCons (eC (.int 89)) (lNil)))) (lCons (eTup (lCons (eC (.str "b")) (lCons (eC (.int 0)) (lNil)))) (lNil)))) (lCons (eC (.str "parse error")) (lNil))))))) (sRet (e2 (pu (gEq false)) (eVar 4) (e2 (pu gAdd) (eVar 6) (eLst (lCons (eTup (lCons (eTup (lCons (eC (.str "send")) (lCons (eC (.str "x")) (lNil)))) (lCons (eTup (lCons (eC (.str "take")) (lCons (eC (.str "x")) (lNil)))) (lCons (eTup (lCons (eC (.str "send")) (lCons (eC (.str "abcdefgh")) (lNil)))) (lNil))))) (lNil))))))))))))
theorem d_law (T : Txt P w K mg base) (c_dice : Cal P w K mg base 2 "_law_dice" ["_law_script", "_law_at"] F_dice) (c_words_right : Cal P w K mg base 9 "_law_words_right" ["_law_dice_here"] F_words_right) (c_moves_right : Cal P w K mg base 9 "_law_moves_right" ["_law_dice_here"] F_moves_right) (c_parse_moves : Cal P w K mg base 6 "parse_moves" ["text"] F_parse_moves) (c_parse_word : Cal P w K mg base 5 "parse_word" ["text"] F_parse_word) (D_told : Def K mg "_law_told" s_told) (tb_law : LamX.TabB base mg K_law P_law) {f : Addr} {A : Around} {outer : List PySem.Env} {s : Shared} {H : Hp} {E : XK} (rm : Rm 9 (A.deeper (PyProof.Rows.envOfC "law" (defScope s_law) s.heap.objs.size f (.ref K_law)))) :
    MSs (cxF P w K mg base N_law "law" s_law f (.ref K_law) A outer s H E) (wxF E) (defBody s_law) m_law := by
  exact mss_cons (ms_for passF rfl (mi_range1D (ml_cons (me_bB (call_gMax2 rfl) (by rfl) T.b_max (by decide +kernel) (ml_cons (me_int) (ml_cons (me_bB (call_gMin2 rfl) (by rfl) T.b_min (by decide +kernel) (ml_cons (me_int) (ml_cons (me_bB call_gLen (by rfl) T.b_len (by decide +kernel) (ml_cons (me_var (pv 0)) (ml_nil))) (ml_nil)))) (ml_nil)))) (ml_nil)) (by rfl) T.b_range) (mg_name (pg_name (i := 1) sc_law.nd rfl (Or.inl rfl))) (mss_cons (ms_setD (i := 2) sc_law.nd rfl (Or.inl rfl) (me_call c_dice (rm.mono (by decide)) (by rfl) tkF (ml_cons (me_var (pv 0)) (ml_cons (me_var (pv 1)) (ml_nil))))) (mss_one (ms_if (MW.toT (mw_or (mt_not (mt_val (me_call c_words_right (rm.mono (by decide)) (by rfl) tkF (ml_cons (me_var (pv 2)) (ml_nil))))) (mw_or1 (mt_not (mt_val (me_call c_moves_right (rm.mono (by decide)) (by rfl) tkF (ml_cons (me_var (pv 2)) (ml_nil)))))))) (mss_one (ms_ret (me_bl))) (mss_nil))))) (mss_cons (ms_setD (i := 3) sc_law.nd rfl (Or.inr rfl) (me_op op_gAdd (me_str) (me_op op_gMulA (me_str) (me_int)))) (mss_cons (ms_setD (i := 4) sc_law.nd rfl (Or.inl rfl) (me_lst (ml_cons (me_lam (stg := s_told) (Ng := N_told) (c := K_law) (k := 6) D_told sc_told b_told rfl shape_ret (fun _ _ _ _ => MHd.plain ⟨by rfl, by decide, .inl T.g_ParseError⟩ T.hit_ParseError (fun _ _ => mss_one (ms_ret (me_str))) (MHd.plain ⟨by rfl, by decide, .inl T.g_InvalidWord⟩ T.hit_InvalidWord (fun _ _ => mss_one (ms_ret (me_str))) (MHd.plain ⟨by rfl, by decide, .inl T.g_InvalidOperation⟩ T.hit_InvalidOperation (fun _ _ => mss_one (ms_ret (me_str))) (MHd.nil)))) (fun _ _ _ _ => mss_nil) tb_law rfl (by rfl) (LamX.lamS_by (sc := defScope s_law) (by decide +kernel)) (rm.mono (by decide)) (fun A2 outer2 s2 H2 E2 f2 c2 rm2 => me_call c_parse_moves (rm2.mono (by decide)) (by rfl) tkL (ml_cons (me_var (pv 3)) (ml_nil))) (by rfl) (.inl (by rfl))) (ml_nil)))) (mss_cons (ms_for passF rfl (mi_it (me_tup (ml_cons (me_str) (ml_cons (me_str) (ml_cons (me_str) (ml_cons (me_str) (ml_cons (me_str) (ml_nil)))))))) (mg_name (pg_name (i := 5) sc_law.nd rfl (Or.inr rfl))) (mss_one (ms_if (mt_cmp (op_gNe rm.toRoom.units) (nomark _) (me_lam (stg := s_told) (Ng := N_told) (c := K_law) (k := 6) D_told sc_told b_told rfl shape_ret (fun _ _ _ _ => MHd.plain ⟨by rfl, by decide, .inl T.g_ParseError⟩ T.hit_ParseError (fun _ _ => mss_one (ms_ret (me_str))) (MHd.plain ⟨by rfl, by decide, .inl T.g_InvalidWord⟩ T.hit_InvalidWord (fun _ _ => mss_one (ms_ret (me_str))) (MHd.plain ⟨by rfl, by decide, .inl T.g_InvalidOperation⟩ T.hit_InvalidOperation (fun _ _ => mss_one (ms_ret (me_str))) (MHd.nil)))) (fun _ _ _ _ => mss_nil) tb_law rfl (by rfl) (LamX.lamS_by (sc := defScope s_law) (by decide +kernel)) (rm.mono (by decide)) (fun A2 outer2 s2 H2 E2 f2 c2 rm2 => me_call c_parse_moves (rm2.mono (by decide)) (by rfl) tkL (ml_cons (me_var (pv 5)) (ml_nil))) (by rfl) (.inl (by rfl))) (me_str)) (mss_one (ms_ret (me_bl))) (mss_nil)))) (mss_cons (ms_setD (i := 4) sc_law.nd rfl (Or.inl rfl) (me_op op_gAdd (me_var (pv 4)) (me_lst (ml_cons (me_lam (stg := s_told) (Ng := N_told) (c := K_law) (k := 6) D_told sc_told b_told rfl shape_ret (fun _ _ _ _ => MHd.plain ⟨by rfl, by decide, .inl T.g_ParseError⟩ T.hit_ParseError (fun _ _ => mss_one (ms_ret (me_str))) (MHd.plain ⟨by rfl, by decide, .inl T.g_InvalidWord⟩ T.hit_InvalidWord (fun _ _ => mss_one (ms_ret (me_str))) (MHd.plain ⟨by rfl, by decide, .inl T.g_InvalidOperation⟩ T.hit_InvalidOperation (fun _ _ => mss_one (ms_ret (me_str))) (MHd.nil)))) (fun _ _ _ _ => mss_nil) tb_law rfl (by rfl) (LamX.lamS_by (sc := defScope s_law) (by decide +kernel)) (rm.mono (by decide)) (fun A2 outer2 s2 H2 E2 f2 c2 rm2 => me_call c_parse_moves (rm2.mono (by decide)) (by rfl) tkL (ml_cons (me_str) (ml_nil))) (by rfl) (.inl (by rfl))) (ml_cons (me_call c_parse_moves (rm.mono (by decide)) (by rfl) tkF (ml_cons (me_str) (ml_nil))) (ml_nil)))))) (mss_cons (ms_setD (i := 4) sc_law.nd rfl (Or.inl rfl) (me_op op_gAdd (me_var (pv 4)) (me_lst (ml_cons (me_lam (stg := s_told) (Ng := N_told) (c := K_law) (k := 5) D_told sc_told b_told rfl shape_ret (fun _ _ _ _ => MHd.plain ⟨by rfl, by decide, .inl T.g_ParseError⟩ T.hit_ParseError (fun _ _ => mss_one (ms_ret (me_str))) (MHd.plain ⟨by rfl, by decide, .inl T.g_InvalidWord⟩ T.hit_InvalidWord (fun _ _ => mss_one (ms_ret (me_str))) (MHd.plain ⟨by rfl, by decide, .inl T.g_InvalidOperation⟩ T.hit_InvalidOperation (fun _ _ => mss_one (ms_ret (me_str))) (MHd.nil)))) (fun _ _ _ _ => mss_nil) tb_law rfl (by rfl) (LamX.lamS_by (sc := defScope s_law) (by decide +kernel)) (rm.mono (by decide)) (fun A2 outer2 s2 H2 E2 f2 c2 rm2 => me_call c_parse_word (rm2.mono (by decide)) (by rfl) tkL (ml_cons (me_op op_gAdd (me_str) (me_op op_gMulA (me_str) (me_int))) (ml_nil))) (by rfl) (.inl (by rfl))) (ml_cons (me_call c_parse_word (rm.mono (by decide)) (by rfl) tkF (ml_cons (me_str) (ml_nil))) (ml_nil)))))) (mss_cons (ms_setD (i := 6) sc_law.nd rfl (Or.inl rfl) (me_lst (ml_cons (me_str) (ml_cons (me_str) (ml_cons (me_tup (ml_cons (me_tup (ml_cons (me_str) (ml_cons (me_int) (ml_nil)))) (ml_cons (me_tup (ml_cons (me_str) (ml_cons (me_int) (ml_nil)))) (ml_nil)))) (ml_cons (me_str) (ml_nil))))))) (mss_one (ms_ret (me_cmp (op_gEq rm.toRoom.units) (nomark _) (me_var (pv 4)) (me_op op_gAdd (me_var (pv 6)) (me_lst (ml_cons (me_tup (ml_cons (me_tup (ml_cons (me_str) (ml_cons (me_str) (ml_nil)))) (ml_cons (me_tup (ml_cons (me_str) (ml_cons (me_str) (ml_nil)))) (ml_cons (me_tup (ml_cons (me_str) (ml_cons (me_str) (ml_nil)))) (ml_nil))))) (ml_nil)))))))))))))
def F_law : Fn := runB N_law.length m_law
end K70

section
open PySem L2 Mx
local macro_rules | `(tactic| and_intros) => `(tactic| (repeat first
  | (with_reducible refine s_seq ?_)
  | (with_reducible refine s_if ?_)
  | (with_reducible refine s_set ?_)
  | (with_reducible refine s_ret ?_)
  | (with_reducible refine s_expr ?_)
  | (with_reducible refine s_nil ?_)
  | (with_reducible refine s_asg ?_)
  | (with_reducible refine s_par ?_)
  | (with_reducible refine s_for ?_)
  | ((with_reducible refine s_loop0 ?_ ?_); exact rfl)
  | (with_reducible refine s_put ?_)
  | (with_reducible refine s_raise0 ?_)
  | (with_reducible refine w_c ?_)
  | ((with_reducible apply w_var); exact rfl)
  | (with_reducible refine w_e2 ?_)
  | (with_reducible refine w_n ?_)
  | (with_reducible refine w_cons ?_)
  | (with_reducible refine w_nil ?_)
  | (with_reducible refine w_call ?_)
  | (with_reducible refine w_bE ?_)
  | (with_reducible refine w_bNot ?_)
  | (with_reducible refine w_bOr ?_)
  | (with_reducible refine w_bAnd ?_)
  | (with_reducible refine w_and ?_)
  | (with_reducible refine w_or ?_)
  | (with_reducible refine w_not ?_)
  | (with_reducible refine w_if ?_)
  | (with_reducible refine w_ch ?_)
  | (with_reducible refine w_tup ?_)
  | (with_reducible refine w_lst ?_)
  | (with_reducible refine w_lstC ?_)
  | (with_reducible refine w_lc ?_)
  | (with_reducible refine w_it ?_)
  | (with_reducible refine w_range1 ?_)
  | (with_reducible refine w_kd ?_)
  | (with_reducible refine w_e1 ?_)
  | (with_reducible refine w_m ?_)
  | (with_reducible refine w_m0 ?_)
  | (with_reducible refine w_sl ?_)
  | (with_reducible refine w_oN ?_)
  | (with_reducible refine w_oS ?_)
  | (with_reducible refine w_alt ?_)
  | (with_reducible refine w_dic0 ?_)
  | (with_reducible refine w_jC ?_)
  | (with_reducible refine w_jN ?_)
  | (with_reducible refine w_yes ?_)
  | (with_reducible refine w_op le_one ?_)
  | (with_reducible refine w_op le_int ?_)
  | (with_reducible refine w_op lt_int ?_)
  | (with_reducible refine w_op gt_int ?_)
  | (with_reducible refine w_op ge_int ?_)
  | (with_reducible refine w_op add_int ?_)
  | (with_reducible refine w_op sub_int ?_)
  | (with_reducible refine w_op eq_int ?_)
  | (with_reducible refine w_op eq_str ?_)
  | ((with_reducible apply w_op); exact rfl)
  | ((with_reducible refine w_ifT ?_ ?_); exact rfl)
  | ((with_reducible refine w_ifF ?_ ?_); exact rfl)
  | ((with_reducible refine w_op (len_str ?_) ?_); first | omega | (simp only [Str.length_append]; omega))
  | ((with_reducible refine w_slS ?_ ?_); first | omega | (simp only [Str.length_append]; omega))
  | ((with_reducible refine w_op (add_str ?_) ?_); first | omega | (simp only [Str.length_append]; omega))
  | ((with_reducible refine w_op (add_tup ?_) ?_); (simp only [List.length_map, List.length_cons, List.length_nil]; omega))
  | (with_reducible refine w_slL ?_)
  | (with_reducible refine w_slT ?_)
  | refine ⟨_, rfl, ?_⟩
  | refine ⟨rfl, ?_⟩))

namespace K70
open PySem L2 Mx
def chOk (c : Nat) : Bool := decide (97 ≤ c) && decide (c ≤ 122)
def nmL (l : List Nat) : Bool := decide (1 ≤ l.length) && decide (l.length ≤ 8) && l.all chOk
theorem abc_cl : cl ("abcdefghijklmnopqrstuvwxyz" : Str) = [97, 98, 99, 100, 101, 102, 103, 104, 105, 106, 107, 108, 109, 110, 111, 112, 113, 114, 115, 116, 117, 118, 119, 120, 121, 122] := by kernel_rfl
theorem dig_cl : cl ("0123456789" : Str) = [48, 49, 50, 51, 52, 53, 54, 55, 56, 57] := by kernel_rfl
theorem gin1 {c : Nat} {x : Str} {mem : Mem} : gIn false mem [.str ⟨#[c]⟩, .str x] = some (.bl (decide (c ∈ cl x))) := by
  show some (D.bl (false != !(Builtin.Str.occurrences x ⟨#[c]⟩ 0 x.length 1).isEmpty)) = _
  rw [PySem.StrLaws.found_one, Bool.false_bne]
theorem mem_abc {c : Nat} : decide (c ∈ cl ("abcdefghijklmnopqrstuvwxyz" : Str)) = chOk c := by
  rw [abc_cl]
  unfold chOk
  rw [← Bool.decide_and, decide_eq_decide]
  simp only [List.mem_cons, List.not_mem_nil, or_false]
  omega
theorem blsOf_map {α : Type} (f : α → Bool) : ∀ l : List α, blsOf (l.map fun a => D.bl (f a)) = some (l.map f)
  | [] => rfl
  | a :: l => by simp [blsOf, blsOf_map f l]
theorem gall_map {α : Type} {f : α → Bool} {l : List α} {mem : Mem} : gAll mem [.lst (l.map fun a => D.bl (f a))] = some (.bl (l.all f)) := by
  simp only [gAll, seqOf, blsOf_map, Option.map_some]
  congr 2
  induction l with
  | nil => rfl
  | cons a l ih => simp [ih]
theorem isname {w : Str} (hw : w.length ≤ 1000000) {mem : Mem} {Q : D → Mem → Prop} {X : Ex → Mem → Prop} (q : Q (.bl (nmL (cl w))) mem) : St (F_is_name [.str w] mem) Q X := by
  refine w_run ?_
  unfold m_is_name
  and_intros
  refine w_ifB (fun h1 => ?_) (fun h1 => ?_)
  · and_intros
    rw [decide_eq_true_eq] at h1
    refine w_ifB (fun h2 => ?_) (fun h2 => ?_)
    · and_intros
      have : nmL (cl w) = false := by
        rw [Bool.not_eq_true', decide_eq_false_iff_not] at h2
        unfold nmL
        rw [cl_len, decide_eq_false (p := w.length ≤ 8) (by omega)]
        simp
      rw [this] at q
      exact q
    · and_intros
      rw [Bool.not_eq_false', decide_eq_true_eq] at h2
      refine ⟨_, wk_str hw, ?_⟩
      refine w_compA (fun c => .bl (chOk c)) (fun c hc => ⟨_, rfl, ?_⟩) ?_
      · and_intros
        exact ⟨by rw [PySem.StrLaws.found_one, mem_abc, Bool.false_bne], rfl⟩
      · and_intros
        refine w_op gall_map ?_
        have : nmL (cl w) = (cl w).all chOk := by
          unfold nmL
          rw [cl_len, decide_eq_true (p := 1 ≤ w.length) (by omega), decide_eq_true (p := w.length ≤ 8) (by omega)]
          rfl
        rw [← this]
        exact q
  · and_intros
    have : nmL (cl w) = false := by
      rw [decide_eq_false_iff_not] at h1
      unfold nmL
      rw [cl_len, decide_eq_false (p := 1 ≤ w.length) (by omega)]
      simp
    rw [this] at q
    exact q
end K70


namespace K70
open PySem L2 Mx
theorem s_ex : (Str.ofString "!") = ⟨#[33]⟩ := by kernel_rfl
theorem s_qu : (Str.ofString "?") = ⟨#[63]⟩ := by kernel_rfl
theorem s_sp : (Str.ofString " ") = ⟨#[32]⟩ := by kernel_rfl
theorem s_dot : (Str.ofString ".") = ⟨#[46]⟩ := by kernel_rfl
theorem s_da : (Str.ofString "-") = ⟨#[45]⟩ := by kernel_rfl
theorem s_a : (Str.ofString "a") = ⟨#[97]⟩ := by kernel_rfl
theorem s_z : (Str.ofString "z") = ⟨#[122]⟩ := by kernel_rfl
theorem ones_eq {α : Type} {l : List α} {mem : Mem} : gEq false mem [.lst (l.map fun _ => .int 1), .lst []] = some (.bl l.isEmpty) := by
  have g1 : Gd 1 (.lst (l.map fun _ => D.int 1)) := gd_lst fun d hd => by obtain ⟨a, _, rfl⟩ := List.mem_map.mp hd; exact gd_int 1
  have g2 : Gd 1 (.lst []) := gd_lst fun d hd => by cases hd
  rw [eq_gd g1 g2 (by decide), Bool.false_bne]
  congr 2
  cases l with
  | nil => rfl
  | cons a l =>
    obtain ⟨p, e, _⟩ := g1
    have e0 := e
    rw [D.py] at e
    split at e
    · rename_i ps ep
      cases e
      rw [List.map_cons, D.pyL] at ep
      split at ep
      · cases ep
        show eqD _ _ = false
        unfold eqD
        rw [e0]
        rfl
      · cases ep
    · cases e
theorem l_isname {w : Str} (hw : w.length ≤ 1000000) {mem : Mem} {Q : D → Mem → Prop} {X : Ex → Mem → Prop} (q : Q (.bl (nmL (cl w))) mem) : St (F_l_is_name [.str w] mem) Q X := by
  refine w_run ?_
  unfold m_l_is_name
  and_intros
  refine w_ifB (fun h1 => ?_) (fun h1 => ?_)
  · and_intros
    rw [decide_eq_true_eq] at h1
    refine w_ifB (fun h2 => ?_) (fun h2 => ?_)
    · and_intros
      have : nmL (cl w) = false := by
        rw [Bool.not_eq_true', decide_eq_false_iff_not] at h2
        unfold nmL
        rw [cl_len, decide_eq_false (p := w.length ≤ 8) (by omega)]
        simp
      rw [this] at q
      exact q
    · and_intros
      rw [Bool.not_eq_false', decide_eq_true_eq] at h2
      refine ⟨_, wk_str hw, ?_⟩
      refine w_compF (fun d => match d with | .str x => !((cl x).all chOk) | _ => false) (fun _ => .int 1) (fun d hd => ?_) ?_
      · obtain ⟨c, hc, rfl⟩ := List.mem_map.mp hd
        refine ⟨_, rfl, ?_, fun _ => ?_⟩
        · rw [s_a, s_z]
          and_intros
          have e1 : (cl (⟨#[c]⟩ : Str)).all chOk = chOk c := by simp
          show if _ then _ else _
          refine w_ifB (fun h => ?_) (fun h => ?_)
          · and_intros
            show (!decide (c ≤ 122)) = !(cl (⟨#[c]⟩ : Str)).all chOk ∧ mem = mem
            rw [e1]
            unfold chOk
            rw [h]
            exact ⟨rfl, rfl⟩
          · and_intros
            show (!false) = !(cl (⟨#[c]⟩ : Str)).all chOk ∧ mem = mem
            rw [e1]
            unfold chOk
            rw [h]
            exact ⟨rfl, rfl⟩
        · and_intros
          rfl
      · and_intros
        refine w_op ones_eq ?_
        have e2 : nmL (cl w) = (cl w).all chOk := by
          unfold nmL
          rw [cl_len, decide_eq_true (p := 1 ≤ w.length) (by omega), decide_eq_true (p := w.length ≤ 8) (by omega)]
          rfl
        rw [e2] at q
        show Q (D.bl (List.isEmpty (List.filter _ (List.map (fun c => D.str { cps := #[c] }) (cl w))))) mem
        rw [filt_empty, List.all_map]
        have e3 : ((fun a => !(match a with | D.str x => !(cl x).all chOk | x => false)) ∘ fun c => D.str { cps := #[c] }) = chOk := by
          funext c
          show (!(!((cl (⟨#[c]⟩ : Str)).all chOk))) = chOk c
          simp
        rw [e3]
        exact q
  · and_intros
    have : nmL (cl w) = false := by
      rw [decide_eq_false_iff_not] at h1
      unfold nmL
      rw [cl_len, decide_eq_false (p := 1 ≤ w.length) (by omega)]
      simp
    rw [this] at q
    exact q
end K70


namespace K70
open PySem L2 Mx
/-- the sign that a part stands for -/
def sgL (l : List Nat) : D := match l with
  | c :: r => if c = 33 ∧ nmL r = true then .tup [.str "send", .str (mkS r)] else if c = 63 ∧ nmL r = true then .tup [.str "take", .str (mkS r)] else .non
  | [] => .non
theorem sign_in {w : Str} (hw : w.length ≤ 1000000) {mem : Mem} {Q : D → Mem → Prop} {X : Ex → Mem → Prop} (q : Q (sgL (cl w)) mem) : St (F_sign_in_text [.str w] mem) Q X := by
  have cf : cl (cutS w (some 1) none) = (cl w).drop 1 := cut_from w 1
  have lf : (cutS w (some 1) none).length ≤ 1000000 := by rw [← cl_len, cf, List.length_drop, cl_len]; omega
  refine w_run ?_
  unfold m_sign_in_text
  and_intros
  show Ss (loop _ _ (fun _ => true) [.tup [.str "send", .str "!"], .tup [.str "take", .str "?"]] _ _) _
  rw [s_ex, s_qu]
  refine s_loop1 (asg := [(1, .str "send"), (2, .str ⟨#[33]⟩)]) rfl rfl ?_
  and_intros
  refine w_ifB (fun h => ?_) (fun h => ?_)
  · rw [starts1, decide_eq_true_eq] at h
    obtain ⟨r, hr⟩ : ∃ r, cl w = 33 :: r := by
      cases e : cl w with
      | nil => rw [e] at h; simp at h
      | cons c r => rw [e] at h; simp at h; exact ⟨r, by rw [h]⟩
    and_intros
    refine isname lf ?_
    rw [cf, hr, List.drop_one, List.tail_cons]
    and_intros
    refine w_ifB (fun h2 => ?_) (fun h2 => ?_)
    · and_intros
      rw [hr] at q
      simp only [sgL, h2, and_self, if_true] at q
      rw [show cutS w (some 1) none = mkS r from cl_inj (by rw [cf, hr]; rfl)]
      exact q
    · and_intros
      refine s_loop1 (asg := [(1, .str "take"), (2, .str ⟨#[63]⟩)]) rfl rfl ?_
      and_intros
      refine w_ifB (fun h3 => ?_) (fun h3 => ?_)
      · rw [starts1, decide_eq_true_eq, hr] at h3
        simp at h3
      · and_intros
        rw [hr] at q
        simp [sgL, h2] at q
        exact q
  · rw [starts1, decide_eq_false_iff_not] at h
    and_intros
    refine s_loop1 (asg := [(1, .str "take"), (2, .str ⟨#[63]⟩)]) rfl rfl ?_
    and_intros
    refine w_ifB (fun h3 => ?_) (fun h3 => ?_)
    · rw [starts1, decide_eq_true_eq] at h3
      obtain ⟨r, hr⟩ : ∃ r, cl w = 63 :: r := by
        cases e : cl w with
        | nil => rw [e] at h3; simp at h3
        | cons c r => rw [e] at h3; simp at h3; exact ⟨r, by rw [h3]⟩
      and_intros
      refine isname lf ?_
      rw [cf, hr, List.drop_one, List.tail_cons]
      and_intros
      refine w_ifB (fun h2 => ?_) (fun h2 => ?_)
      · and_intros
        rw [hr] at q
        simp [sgL, h2] at q
        rw [show cutS w (some 1) none = mkS r from cl_inj (by rw [cf, hr]; rfl)]
        exact q
      · and_intros
        rw [hr] at q
        simp [sgL, h2] at q
        exact q
    · rw [starts1, decide_eq_false_iff_not] at h3
      and_intros
      have : sgL (cl w) = .non := by
        cases e : cl w with
        | nil => rfl
        | cons c r =>
          rw [e] at h h3
          simp at h h3
          simp [sgL, h, h3]
      rw [this] at q
      exact q
end K70


namespace K70
open PySem L2 Mx
def okL (l : List Nat) : Bool := match sgL l with
  | .non => false
  | _ => true
theorem nm_len {l : List Nat} (h : nmL l = true) : 1 ≤ l.length ∧ l.length ≤ 8 ∧ ∀ c ∈ l, 97 ≤ c ∧ c ≤ 122 := by
  unfold nmL at h
  rw [Bool.and_eq_true, Bool.and_eq_true, decide_eq_true_eq, decide_eq_true_eq, List.all_eq_true] at h
  refine ⟨h.1.1, h.1.2, fun c hc => ?_⟩
  have := h.2 c hc
  unfold chOk at this
  rw [Bool.and_eq_true, decide_eq_true_eq, decide_eq_true_eq] at this
  exact this
theorem issign_ok {z w : Str} (hz : z = "send" ∨ z = "take") (hw : nmL (cl w) = true) {mem : Mem} {Q : D → Mem → Prop} {X : Ex → Mem → Prop} (q : Q (.bl true) mem) : St (F_is_sign [.tup [.str z, .str w]] mem) Q X := by
  have lw : w.length ≤ 1000000 := by have := nm_len hw; rw [cl_len] at this; omega
  have gi : gIn false mem [.str z, .tup [.str "send", .str "take"]] = some (.bl true) := by
    rcases hz with rfl | rfl <;> kernel_rfl
  refine w_run ?_
  unfold m_is_sign
  and_intros
  refine w_op gi ?_
  and_intros
  refine isname lw ?_
  rw [hw]
  exact q
theorem issign_sg {l : List Nat} {mem : Mem} {Q : D → Mem → Prop} {X : Ex → Mem → Prop} (q : Q (.bl (okL l)) mem) : St (F_is_sign [sgL l] mem) Q X := by
  have no : okL l = false → sgL l = .non := by
    unfold okL
    split
    · intro _; assumption
    · intro h; cases h
  have non : Q (.bl false) mem → St (F_is_sign [.non] mem) Q X := fun q => st_eq (b := .bl false) (m := mem) (by kernel_rfl) q
  have yes : okL l = true → ∃ z w, sgL l = .tup [.str z, .str w] ∧ (z = "send" ∨ z = "take") ∧ nmL (cl w) = true := by
    unfold okL
    cases l with
    | nil => intro h; cases h
    | cons c r =>
      intro h
      by_cases c1 : c = 33 ∧ nmL r = true
      · exact ⟨"send", mkS r, by simp [sgL, c1], .inl rfl, c1.2⟩
      · by_cases c2 : c = 63 ∧ nmL r = true
        · exact ⟨"take", mkS r, by simp [sgL, c2], .inr rfl, c2.2⟩
        · simp only [sgL, if_neg c1, if_neg c2] at h
          cases h
  cases h : okL l with
  | false => rw [no h]; rw [h] at q; exact non q
  | true =>
    obtain ⟨z, w, e, h1, h2⟩ := yes h
    rw [e]
    rw [h] at q
    exact issign_ok h1 h2 q
theorem isword_sg {ls : List (List Nat)} {mem : Mem} {Q : D → Mem → Prop} {X : Ex → Mem → Prop} (q : Q (.bl (ls.all okL)) mem) : St (F_is_word [.tup (ls.map sgL)] mem) Q X := by
  refine w_run ?_
  unfold m_is_word
  and_intros
  refine w_compA (fun l => .bl (okL l)) (fun l hl => ⟨_, rfl, ?_⟩) ?_
  · and_intros
    exact issign_sg ⟨rfl, rfl⟩
  · and_intros
    exact w_op gall_map q
/-- what a text is as a word -/
def pw (l : List Nat) : Option (List D) := if l = [45] then some [] else if (spl 32 l).all okL = true then some ((spl 32 l).map sgL) else none
theorem eq_da {t : Str} : decide (t = Str.ofString "-") = decide (cl t = [45]) := by
  rw [s_da]
  by_cases h : cl t = [45]
  · rw [decide_eq_true h, decide_eq_true (cl_inj h)]
  · rw [decide_eq_false h, decide_eq_false (fun e => h (by rw [e]))]
theorem spl_le {c : Nat} : ∀ (l : List Nat), ∀ p ∈ spl c l, p.length ≤ l.length ∧ ∀ x ∈ p, x ∈ l
  | [], p, h => by
    rw [spl, List.mem_singleton] at h
    subst h
    simp
  | x :: r, p, h => by
    rw [spl] at h
    split at h
    · rcases List.mem_cons.mp h with rfl | h
      · simp
      · obtain ⟨h1, h2⟩ := spl_le r p h
        exact ⟨by rw [List.length_cons]; omega, fun y hy => List.mem_cons_of_mem _ (h2 y hy)⟩
    · split at h
      · rename_i q qs e
        rcases List.mem_cons.mp h with rfl | h
        · obtain ⟨h1, h2⟩ := spl_le r q (by rw [e]; exact List.mem_cons_self)
          refine ⟨by rw [List.length_cons, List.length_cons]; omega, fun y hy => ?_⟩
          rcases List.mem_cons.mp hy with rfl | hy
          · exact List.mem_cons_self
          · exact List.mem_cons_of_mem _ (h2 y hy)
        · obtain ⟨h1, h2⟩ := spl_le r p (by rw [e]; exact List.mem_cons_of_mem _ h)
          exact ⟨by rw [List.length_cons]; omega, fun y hy => List.mem_cons_of_mem _ (h2 y hy)⟩
      · rename_i e
        exact absurd e (spl_ne c r)
theorem parts_in {t : Str} (ht : t.length ≤ 1000000) {mem : Mem} {Q : D → Mem → Prop} {X : Ex → Mem → Prop} (q : Q (.lst ((spl 32 (cl t)).map fun l => .str (mkS l))) mem) : St (F_parts_in [.str t] mem) Q X := by
  refine w_run ?_
  unfold m_parts_in
  rw [s_sp]
  and_intros
  exact w_split ht q
theorem parse_w {t : Str} (ht : t.length ≤ 1000000) {mem : Mem} {Q : D → Mem → Prop} {X : Ex → Mem → Prop} (q1 : ∀ ds, pw (cl t) = some ds → Q (.tup ds) mem) (q2 : pw (cl t) = none → X ⟨.ref C_ParseError, none⟩ mem) : St (F_parse_word [.str t] mem) Q X := by
  refine w_run ?_
  unfold m_parse_word
  and_intros
  rw [eq_da, Bool.false_bne]
  refine w_ifB (fun h => ?_) (fun h => ?_)
  · rw [decide_eq_true_eq] at h
    and_intros
    exact q1 [] (by unfold pw; rw [if_pos h])
  · rw [decide_eq_false_iff_not] at h
    and_intros
    refine parts_in ht ?_
    and_intros
    refine w_compA sgL (fun l hl => ⟨_, rfl, ?_⟩) ?_
    · and_intros
      exact sign_in (by rw [← cl_len, cl_mk]; have := (spl_le _ l hl).1; rw [cl_len] at this; omega) ⟨rfl, rfl⟩
    and_intros
    refine isword_sg ?_
    and_intros
    refine w_ifB (fun h2 => ?_) (fun h2 => ?_)
    · and_intros
      exact q2 (by unfold pw; rw [if_neg h, if_neg (by simpa using h2)])
    · and_intros
      exact q1 _ (by unfold pw; rw [if_neg h, if_pos (by simpa using h2)])
end K70


namespace K70
open PySem L2 Mx
theorem Gd.tupS {xs : List Str} (h : ∀ x ∈ xs, sOk x) : Gd 1 (.tup (xs.map D.str)) := gd_tup fun d hd => by
  obtain ⟨x, hx, rfl⟩ := List.mem_map.mp hd
  exact gd_str (h x hx)
theorem sOk_mk {l : List Nat} (h : ∀ c ∈ l, c < 1114112) : sOk (mkS l) := fun c hc => h c hc
theorem sOk_ex : sOk ⟨#[33]⟩ := by intro c hc; simp at hc; omega
theorem sOk_qu : sOk ⟨#[63]⟩ := by intro c hc; simp at hc; omega
theorem notin_marks {x : Str} (hx : sOk x) {mem : Mem} : gIn true mem [.str x, .tup [.str ⟨#[33]⟩, .str ⟨#[63]⟩]] = some (.bl (!(decide (cl x = [33]) || decide (cl x = [63])))) := by
  have g2 : Gd 1 (.tup [.str ⟨#[33]⟩, .str ⟨#[63]⟩]) := Gd.tupS (xs := [⟨#[33]⟩, ⟨#[63]⟩]) (by
    intro y hy
    simp at hy
    rcases hy with rfl | rfl
    · exact sOk_ex
    · exact sOk_qu)
  rw [in_tup (gd_str hx) g2 (by decide)]
  simp only [List.any_cons, List.any_nil, eqD_strs, Bool.or_false, Bool.true_bne]
  have e : ∀ c, decide ((⟨#[c]⟩ : Str) = x) = decide (cl x = [c]) := fun c => by
    by_cases h : cl x = [c]
    · rw [decide_eq_true h, decide_eq_true]
      exact cl_inj h.symm
    · rw [decide_eq_false h, decide_eq_false]
      intro e
      exact h (by rw [← e])
  rw [e, e]
theorem ix_str {z : Str} {c : Nat} {r : List Nat} (h : z.length ≤ 1000000) (e : cl z = c :: r) {mem : Mem} : gIx mem [.str z, .int 0] = some (.str ⟨#[c]⟩) := by
  have e : z.cps.toList = c :: r := e
  simp only [gIx, if_pos h, e]
  rw [show atI (c :: r) 0 = some c from atI_nat (c :: r) 0]
  rfl
abbrev lR (t : Str) (n : Nat) (o : Option D) : Mx.Env := [some (.str t), some (.ref n), o]
theorem spl_count (c : Nat) : ∀ l : List Nat, (spl c l).length ≤ l.length + 1
  | [] => by simp [spl]
  | x :: r => by
    have := spl_count c r
    rw [spl]
    split
    · rw [List.length_cons, List.length_cons]; omega
    · split
      · rename_i e; rw [e] at this; simp at this ⊢; omega
      · simp
theorem read_w {t : Str} (ht : t.length ≤ 100000) (hs : sOk t) {mem : Mem} {Q : D → Mem → Prop} {X : Ex → Mem → Prop} (q1 : ∀ ds r, pw (cl t) = some ds → Q (.tup ds) (mem ++ r)) (q2 : ∀ r, pw (cl t) = none → Q .non (mem ++ r)) : St (F_read_word [.str t] mem) Q X := by
  refine w_run ?_
  unfold m_read_word
  rw [s_sp, s_ex, s_qu]
  and_intros
  rw [eq_da, Bool.false_bne]
  refine w_ifB (fun h => ?_) (fun h => ?_)
  · rw [decide_eq_true_eq] at h
    and_intros
    have := q1 [] [] (by unfold pw; rw [if_pos h])
    rw [List.append_nil] at this
    exact this
  · rw [decide_eq_false_iff_not] at h
    and_intros
    refine w_split (by omega) ?_
    and_intros
    show Ss (loop _ _ (fun _ => true) ((spl 32 (cl t)).map fun l => .str (mkS l)) (lR t mem.length none) (mem ++ [.lst []])) _
    refine s_loop (fun j l m => (∃ o, l = lR t mem.length o) ∧ m = mem ++ [.lst (((spl 32 (cl t)).take j).map sgL)] ∧ ((spl 32 (cl t)).take j).all okL = true) ⟨⟨none, rfl⟩, rfl, rfl⟩ (fun j d loc m hd hI => ?_) (fun loc m hI => ?_)
    · obtain ⟨⟨o, rfl⟩, rfl, hall⟩ := hI
      rw [List.getElem?_map] at hd
      obtain ⟨p, hp, rfl⟩ := Option.map_eq_some_iff.mp hd
      refine ⟨_, rfl, ?_⟩
      have mp := List.mem_of_getElem? hp
      obtain ⟨lp, sp⟩ := spl_le _ p mp
      have lp1 : (mkS p).length ≤ 1000000 := by rw [← cl_len, cl_mk]; rw [cl_len] at lp; omega
      have okp : sOk (mkS p) := sOk_mk fun c hc => hs c (sp c hc)
      have c1 : cl (cutS (mkS p) none (some 1)) = p.take 1 := cut_to (mkS p) 1
      have c2 : cl (cutS (mkS p) (some 1) none) = p.drop 1 := cut_from (mkS p) 1
      have ok1 : sOk (cutS (mkS p) none (some 1)) := fun c hc => hs c (sp c (by rw [c1] at hc; exact List.mem_of_mem_take hc))
      have l2 : (cutS (mkS p) (some 1) none).length ≤ 1000000 := by rw [← cl_len, c2, List.length_drop]; rw [cl_len] at lp; omega
      have hnone : okL p = false → pw (cl t) = none := fun e => by
        unfold pw
        rw [if_neg h, if_neg]
        intro ha
        rw [List.all_eq_true] at ha
        rw [ha p mp] at e
        cases e
      and_intros
      refine w_op (notin_marks ok1) ?_
      rw [c1]
      refine ⟨_, rfl, ?_⟩
      refine w_ifB (fun h1 => ?_) (fun h1 => ?_)
      · and_intros
        refine q2 _ (hnone ?_)
        rw [Bool.not_eq_true', Bool.or_eq_false_iff, decide_eq_false_iff_not, decide_eq_false_iff_not] at h1
        cases p with
        | nil => rfl
        | cons c r =>
          simp at h1
          simp [okL, sgL, h1]
      · rw [Bool.not_eq_false', Bool.or_eq_true, decide_eq_true_eq, decide_eq_true_eq] at h1
        and_intros
        refine l_isname l2 ?_
        rw [c2]
        and_intros
        cases p with
        | nil => simp at h1
        | cons c r =>
          simp only [List.take_succ_cons, List.take_zero, List.cons.injEq, and_true] at h1
          rw [List.drop_one, List.tail_cons] at c2 ⊢
          refine w_ifB (fun h2 => ?_) (fun h2 => ?_)
          · and_intros
            refine q2 _ (hnone ?_)
            rw [Bool.not_eq_true'] at h2
            simp [okL, sgL, h2]
          · rw [Bool.not_eq_false'] at h2
            and_intros
            have tk : (spl 32 (cl t)).take (j + 1) = (spl 32 (cl t)).take j ++ [c :: r] := by rw [List.take_add_one, hp]; rfl
            have fin : okL (c :: r) = true → (∃ o, lR t mem.length (some (.str (mkS (c :: r)))) = lR t mem.length o) ∧ (mem ++ [.lst (((spl 32 (cl t)).take j).map sgL ++ [sgL (c :: r)])]) = mem ++ [.lst (((spl 32 (cl t)).take (j + 1)).map sgL)] ∧ ((spl 32 (cl t)).take (j + 1)).all okL = true := fun ho => by
              rw [tk, List.map_append, List.all_append, hall]
              exact ⟨⟨_, rfl⟩, rfl, by simp [ho]⟩
            refine ⟨tyL_ref get_last, ?_⟩
            and_intros
            refine w_op (ix_str lp1 rfl) ?_
            and_intros
            have lm : (((spl 32 (cl t)).take j).map sgL).length ≤ 1000000 := by
              rw [List.length_map, List.length_take]
              have := spl_count 32 (cl t)
              rw [cl_len] at this
              omega
            rcases h1 with rfl | rfl
            · refine w_op (z := .str "send") (by kernel_rfl) ?_
              and_intros
              refine w_app get_last lm ?_
              rw [set_last, show cutS (mkS (33 :: r)) (some 1) none = mkS r from cl_inj c2]
              have := fin (by simp [okL, sgL, h2])
              rw [show sgL (33 :: r) = .tup [.str "send", .str (mkS r)] by simp [sgL, h2]] at this
              exact this
            · refine w_op (z := .str "take") (by kernel_rfl) ?_
              and_intros
              refine w_app get_last lm ?_
              rw [set_last, show cutS (mkS (63 :: r)) (some 1) none = mkS r from cl_inj c2]
              have := fin (by simp [okL, sgL, h2])
              rw [show sgL (63 :: r) = .tup [.str "take", .str (mkS r)] by simp [sgL, h2]] at this
              exact this
    · obtain ⟨⟨o, rfl⟩, rfl, hall⟩ := hI
      rw [List.length_map, List.take_length] at hall ⊢
      and_intros
      refine w_op (tup_ref get_last) ?_
      exact q1 _ _ (by unfold pw; rw [if_neg h, if_pos hall])
end K70


namespace K70
open PySem L2 Mx
def dig (c : Nat) : Bool := decide (48 ≤ c) && decide (c ≤ 57)
def numL (l : List Nat) : Option Int := match l with
  | [c] => if dig c = true then some (((c - 48 : Nat) : Int)) else none
  | [c, d] => if dig c = true ∧ dig d = true ∧ c ≠ 48 then some (((10 * (c - 48) + (d - 48) : Nat) : Int)) else none
  | _ => none
def oI : Option Int → D
  | some i => .int i
  | none => .non
theorem mem_dig {c : Nat} : decide (c ∈ cl (Str.ofString "0123456789")) = dig c := by
  rw [dig_cl]
  unfold dig
  rw [← Bool.decide_and, decide_eq_decide]
  simp only [List.mem_cons, List.not_mem_nil, or_false]
  omega
theorem ints1 (mem : Mem) : ((List.range 10).all fun c => decide (gIntA mem [.str ⟨#[48 + c]⟩] = some (.int (c : Nat)))) = true := by kernel_rfl
theorem ints2 (mem : Mem) : ((List.range 10).all fun c => (List.range 10).all fun d => decide (gIntA mem [.str ⟨#[48 + c, 48 + d]⟩] = some (.int ((10 * c + d : Nat) : Int)))) = true := by kernel_rfl
theorem dig_of {c : Nat} (h : dig c = true) : 48 ≤ c ∧ c ≤ 57 := by
  unfold dig at h
  rw [Bool.and_eq_true, decide_eq_true_eq, decide_eq_true_eq] at h
  exact h
theorem int1 {c : Nat} (h : dig c = true) (mem : Mem) : gIntA mem [.str (mkS [c])] = some (.int ((c - 48 : Nat) : Int)) := by
  obtain ⟨h1, h2⟩ := dig_of h
  have := List.all_eq_true.mp (ints1 mem) (c - 48) (List.mem_range.mpr (by omega))
  rw [decide_eq_true_eq, show 48 + (c - 48) = c by omega] at this
  exact this
theorem int2 {c d : Nat} (h : dig c = true) (h' : dig d = true) (mem : Mem) : gIntA mem [.str (mkS [c, d])] = some (.int ((10 * (c - 48) + (d - 48) : Nat) : Int)) := by
  obtain ⟨h1, h2⟩ := dig_of h
  obtain ⟨h3, h4⟩ := dig_of h'
  have := List.all_eq_true.mp (List.all_eq_true.mp (ints2 mem) (c - 48) (List.mem_range.mpr (by omega))) (d - 48) (List.mem_range.mpr (by omega))
  rw [decide_eq_true_eq, show 48 + (c - 48) = c by omega, show 48 + (d - 48) = d by omega] at this
  exact this
theorem s_0 : (Str.ofString "0") = ⟨#[48]⟩ := by kernel_rfl
theorem one_eq {a b : Nat} : decide ((⟨#[a]⟩ : Str) = ⟨#[b]⟩) = decide (a = b) := by
  by_cases h : a = b
  · subst h; simp
  · rw [decide_eq_false h, decide_eq_false]
    intro e
    exact h (by simpa using e)
theorem number_in {w : Str} (hw : w.length ≤ 1000000) {mem : Mem} {Q : D → Mem → Prop} {X : Ex → Mem → Prop} (q : Q (oI (numL (cl w))) mem) : St (F_number_in_text [.str w] mem) Q X := by
  refine w_run ?_
  unfold m_number_in_text
  rw [s_0]
  and_intros
  refine w_ifB (fun h1 => ?_) (fun h1 => ?_)
  · and_intros
    rw [decide_eq_true_eq] at h1
    refine w_ifB (fun h2 => ?_) (fun h2 => ?_)
    · and_intros
      rw [Bool.not_eq_true', decide_eq_false_iff_not] at h2
      have : numL (cl w) = none := by
        have l := cl_len w
        unfold numL
        split
        · rename_i e; rw [e] at l; simp at l; omega
        · rename_i e; rw [e] at l; simp at l; omega
        · rfl
      rw [this] at q
      exact q
    · rw [Bool.not_eq_false', decide_eq_true_eq] at h2
      and_intros
      refine ⟨_, wk_str hw, ?_⟩
      refine w_compA (fun c => .bl (dig c)) (fun c hc => ⟨_, rfl, ?_⟩) ?_
      · and_intros
        exact ⟨by rw [PySem.StrLaws.found_one, mem_dig, Bool.false_bne], rfl⟩
      and_intros
      refine w_op gall_map ?_
      and_intros
      refine w_ifB (fun h3 => ?_) (fun h3 => ?_)
      · and_intros
        rw [Bool.not_eq_true'] at h3
        have : numL (cl w) = none := by
          unfold numL
          split
          · rename_i c e; rw [e] at h3; simp at h3; simp [h3]
          · rename_i c d e
            rw [e] at h3
            rw [if_neg]
            intro hh
            simp [hh.1, hh.2.1] at h3
          · rfl
        rw [this] at q
        exact q
      · rw [Bool.not_eq_false'] at h3
        and_intros
        rw [Bool.false_bne]
        have l := cl_len w
        match hl : cl w with
        | [] => rw [hl] at l; simp at l; omega
        | [c] =>
          rw [hl] at l h3 q
          simp only [List.all_cons, List.all_nil, Bool.and_true] at h3
          have : w = mkS [c] := cl_inj hl
          subst this
          rw [decide_eq_false (show ¬ ((mkS [c]).length : Int) = 2 from by show ¬ ((1 : Nat) : Int) = 2; decide)]
          and_intros
          refine w_op (int1 h3 mem) ?_
          simp only [numL, h3, if_true, oI] at q
          exact q
        | [c, d] =>
          rw [hl] at l h3 q
          simp only [List.all_cons, List.all_nil, Bool.and_true, Bool.and_eq_true] at h3
          have : w = mkS [c, d] := cl_inj hl
          subst this
          rw [decide_eq_true (show ((mkS [c, d]).length : Int) = 2 from rfl)]
          and_intros
          rw [one_eq, Bool.false_bne]
          refine w_ifB (fun h4 => ?_) (fun h4 => ?_)
          · and_intros
            rw [decide_eq_true_eq] at h4
            have : numL [c, d] = none := by simp [numL, h4]
            rw [this] at q
            exact q
          · rw [decide_eq_false_iff_not] at h4
            and_intros
            refine w_op (int2 h3.1 h3.2 mem) ?_
            have : numL [c, d] = some ((10 * (c - 48) + (d - 48) : Nat) : Int) := by simp [numL, h3, h4]
            rw [this] at q
            exact q
        | c :: d :: e :: r => rw [hl] at l; simp at l; omega
  · and_intros
    rw [decide_eq_false_iff_not] at h1
    have : numL (cl w) = none := by
      have l := cl_len w
      unfold numL
      split
      · rename_i e; rw [e] at l; simp at l; omega
      · rename_i e; rw [e] at l; simp at l; omega
      · rfl
    rw [this] at q
    exact q
end K70


namespace K70
open PySem L2 Mx
def pL (l : List Nat) : List Nat := l.takeWhile fun c => decide (c ≠ 46)
def qL (l : List Nat) : List Nat := (l.dropWhile fun c => decide (c ≠ 46)).tail
theorem pq_dot {p r : List Nat} (h : 46 ∉ p) : pL (p ++ 46 :: r) = p ∧ qL (p ++ 46 :: r) = r := by
  induction p with
  | nil => simp [pL, qL]
  | cons c p ih =>
    simp only [List.mem_cons, not_or] at h
    obtain ⟨h1, h2⟩ := ih h.2
    have hc : c ≠ 46 := fun e => h.1 e.symm
    unfold pL qL at *
    rw [List.cons_append, List.takeWhile_cons_of_pos (by simpa using hc), List.dropWhile_cons_of_pos (by simpa using hc), h1, h2]
    exact ⟨rfl, rfl⟩
theorem pq_no {l : List Nat} (h : 46 ∉ l) : pL l = l ∧ qL l = [] := by
  induction l with
  | nil => simp [pL, qL]
  | cons c p ih =>
    simp only [List.mem_cons, not_or] at h
    obtain ⟨h1, h2⟩ := ih h.2
    have hc : c ≠ 46 := fun e => h.1 e.symm
    unfold pL qL at *
    rw [List.takeWhile_cons_of_pos (by simpa using hc), List.dropWhile_cons_of_pos (by simpa using hc), h1, h2]
    exact ⟨rfl, rfl⟩
theorem pq_len (l : List Nat) : (pL l).length ≤ l.length ∧ (qL l).length ≤ l.length ∧ (∀ c ∈ pL l, c ∈ l) ∧ (∀ c ∈ qL l, c ∈ l) := by
  by_cases h : 46 ∈ l
  · obtain ⟨p, r, e, hp⟩ := first_at l h
    obtain ⟨h1, h2⟩ := pq_dot (r := r) hp
    rw [e, h1, h2]
    simp only [List.length_append, List.length_cons, List.mem_append, List.mem_cons]
    exact ⟨by omega, by omega, fun c hc => .inl hc, fun c hc => .inr (.inr hc)⟩
  · obtain ⟨h1, h2⟩ := pq_no h
    rw [h1, h2]
    simp
/-- the move that a part stands for -/
def mvL (l : List Nat) : D := if nmL (pL l) = true then (match numL (qL l) with
  | some i => if i < 90 then .tup [.str (mkS (pL l)), .int i] else .non
  | none => .non) else .non
theorem numL_nn {l : List Nat} {i : Int} (h : numL l = some i) : 0 ≤ i := by
  unfold numL at h
  split at h
  · split at h
    · cases h; omega
    · cases h
  · split at h
    · cases h; omega
    · cases h
  · cases h
theorem isint (i : Int) {mem : Mem} {Q : D → Mem → Prop} {X : Ex → Mem → Prop} (q : Q (.bl true) mem) : St (F_is_integer [.int i] mem) Q X := st_eq (b := .bl true) (m := mem) (by kernel_rfl) q
theorem isbtw (i lo hi : Int) {mem : Mem} {Q : D → Mem → Prop} {X : Ex → Mem → Prop} (q : Q (.bl (decide (lo ≤ i ∧ i ≤ hi))) mem) : St (F_is_between [.int i, .int lo, .int hi] mem) Q X := by
  refine w_run ?_
  unfold m_is_between
  and_intros
  refine w_ifB (fun h => ?_) (fun h => ?_)
  · and_intros
    rw [decide_eq_true_eq] at h
    have : decide (lo ≤ i ∧ i ≤ hi) = decide (i ≤ hi) := by simp [h]
    rw [this] at q
    exact q
  · rw [decide_eq_false_iff_not] at h
    have : decide (lo ≤ i ∧ i ≤ hi) = false := by simp [h]
    rw [this] at q
    exact q
def lt90 : Option Int → Bool
  | some i => decide (i < 90)
  | none => false
theorem ismove {w : Str} {o : Option Int} (hw : w.length ≤ 1000000) (ho : ∀ i, o = some i → 0 ≤ i) {mem : Mem} {Q : D → Mem → Prop} {X : Ex → Mem → Prop} (q : Q (.bl (nmL (cl w) && lt90 o)) mem) : St (F_is_move [.tup [.str w, oI o]] mem) Q X := by
  refine w_run ?_
  unfold m_is_move
  and_intros
  refine isname hw ?_
  and_intros
  refine w_ifB (fun h => ?_) (fun h => ?_)
  · and_intros
    rw [Bool.not_eq_true'] at h
    rw [h] at q
    exact q
  · rw [Bool.not_eq_false'] at h
    rw [h, Bool.true_and] at q
    and_intros
    cases o with
    | none => exact st_eq (b := .bl false) (m := mem) (by kernel_rfl) q
    | some i =>
      have h0 := ho i rfl
      show St (F_is_between [.int i, .int 0, .int (90 - 1)] mem) _ _
      refine isbtw i 0 _ ?_
      have : decide (0 ≤ i ∧ i ≤ 90 - 1) = decide (i < 90) := by rw [decide_eq_decide]; omega
      rw [this]
      exact q
theorem move_in {w : Str} (hw : w.length ≤ 1000000) {mem : Mem} {Q : D → Mem → Prop} {X : Ex → Mem → Prop} (q : Q (mvL (cl w)) mem) : St (F_move_in_text [.str w] mem) Q X := by
  obtain ⟨l1, l2, _, _⟩ := pq_len (cl w)
  rw [cl_len] at l1 l2
  have go : ∀ x2 : D, Ss (sSeq (sSet 4 (eTup (lCons (eVar 1) (lCons (eCall F_number_in_text (lCons (eVar 3) (lNil))) (lNil))))) (sRet (eIf (bE (eCall F_is_move (lCons (eVar 4) (lNil)))) (eVar 4) (eC .non))) [some (.str w), some (.str (mkS (pL (cl w)))), some x2, some (.str (mkS (qL (cl w)))), none] mem) { nx := fun _ m => Q .non m, rt := Q, ex := X } := by
    intro x2
    and_intros
    refine number_in (by rw [← cl_len, cl_mk]; omega) ?_
    and_intros
    refine ismove (by rw [← cl_len, cl_mk]; omega) (fun i => numL_nn) ?_
    simp only [cl_mk]
    and_intros
    unfold mvL at q
    refine w_ifB (fun h => ?_) (fun h => ?_)
    · rw [Bool.and_eq_true] at h
      rw [if_pos h.1] at q
      and_intros
      have h2 := h.2
      cases e : numL (qL (cl w)) with
      | none => rw [e] at h2; cases h2
      | some i =>
        rw [e] at h2 q
        dsimp only at q
        rw [if_pos (of_decide_eq_true h2)] at q
        exact q
    · and_intros
      rw [Bool.and_eq_false_iff] at h
      cases e1 : nmL (pL (cl w)) with
      | false => rw [if_neg (by rw [e1]; exact Bool.false_ne_true)] at q; exact q
      | true =>
        rw [if_pos e1] at q
        rcases h with h | h
        · rw [e1] at h; cases h
        · cases e : numL (qL (cl w)) with
          | none => rw [e] at q; exact q
          | some i =>
            rw [e] at h q
            dsimp only at q
            rw [if_neg (of_decide_eq_false h)] at q
            exact q
  refine w_run ?_
  unfold m_move_in_text
  rw [s_dot]
  and_intros
  by_cases hd : 46 ∈ cl w
  · obtain ⟨p, r, e, hp⟩ := first_at _ hd
    obtain ⟨h1, h2⟩ := pq_dot (r := r) hp
    refine w_part1 hw e hp ?_
    refine ⟨_, rfl, ?_⟩
    rw [e, h1, h2] at go
    exact go _
  · obtain ⟨h1, h2⟩ := pq_no hd
    refine w_part0 hw hd ?_
    refine ⟨_, rfl, ?_⟩
    rw [h1, h2, mk_cl] at go
    exact go _
end K70


namespace K70
open PySem L2 Mx
def okM (l : List Nat) : Bool := nmL (pL l) && lt90 (numL (qL l))
theorem mv_no {l : List Nat} (h : okM l = false) : mvL l = .non := by
  unfold okM at h
  unfold mvL
  rw [Bool.and_eq_false_iff] at h
  by_cases e1 : nmL (pL l) = true
  · rw [if_pos e1]
    rcases h with h | h
    · rw [e1] at h; cases h
    · cases e : numL (qL l) with
      | none => rfl
      | some i =>
        rw [e] at h
        dsimp only
        rw [if_neg (of_decide_eq_false h)]
  · rw [if_neg e1]
theorem mv_yes {l : List Nat} (h : okM l = true) : ∃ i, numL (qL l) = some i ∧ i < 90 ∧ nmL (pL l) = true ∧ mvL l = .tup [.str (mkS (pL l)), .int i] := by
  unfold okM at h
  rw [Bool.and_eq_true] at h
  obtain ⟨h1, h2⟩ := h
  cases e : numL (qL l) with
  | none => rw [e] at h2; cases h2
  | some i =>
    rw [e] at h2
    refine ⟨i, rfl, of_decide_eq_true h2, h1, ?_⟩
    unfold mvL
    rw [if_pos h1, e]
    dsimp only
    rw [if_pos (of_decide_eq_true h2)]
theorem mv_gd {l : List Nat} (h : ∀ c ∈ l, c < 1114112) : Gd 1 (mvL l) := by
  cases e : okM l with
  | false => rw [mv_no e]; exact gd_non
  | true =>
    obtain ⟨i, _, _, _, e2⟩ := mv_yes e
    rw [e2]
    refine gd_tup fun d hd => ?_
    simp at hd
    rcases hd with rfl | rfl
    · exact gd_str fun c hc => h c ((pq_len l).2.2.1 c hc)
    · exact gd_int i
theorem none_in {ls : List (List Nat)} (h : ∀ l ∈ ls, ∀ c ∈ l, c < 1114112) {mem : Mem} : gIn false mem [.non, .tup (ls.map mvL)] = some (.bl (!ls.all okM)) := by
  have g2 : Gd 2 (.tup (ls.map mvL)) := gd_tup fun d hd => by
    obtain ⟨l, hl, rfl⟩ := List.mem_map.mp hd
    exact mv_gd (h l hl)
  rw [in_tup gd_non g2 (by decide), Bool.false_bne, List.any_map]
  congr 2
  have : ∀ l, eqD (mvL l) .non = !okM l := fun l => by
    cases e : okM l with
    | false => rw [mv_no e]; rfl
    | true =>
      obtain ⟨i, _, _, _, e2⟩ := mv_yes e
      rw [e2]
      rfl
  induction ls with
  | nil => rfl
  | cons l ls ih =>
    rw [List.any_cons, List.all_cons, Function.comp_apply, this, ih (fun x hx => h x (List.mem_cons_of_mem _ hx)) (gd_tup fun d hd => by
      obtain ⟨l', hl', rfl⟩ := List.mem_map.mp hd
      exact mv_gd (h l' (List.mem_cons_of_mem _ hl')))]
    cases okM l <;> simp
/-- what a text is as moves -/
def pm (l : List Nat) : Option (List D) := if l = [45] then some [] else if (spl 32 l).all okM = true then some ((spl 32 l).map mvL) else none
theorem parse_m {t : Str} (ht : t.length ≤ 1000000) (hs : sOk t) {mem : Mem} {Q : D → Mem → Prop} {X : Ex → Mem → Prop} (q1 : ∀ ds, pm (cl t) = some ds → Q (.tup ds) mem) (q2 : pm (cl t) = none → X ⟨.ref C_ParseError, none⟩ mem) : St (F_parse_moves [.str t] mem) Q X := by
  refine w_run ?_
  unfold m_parse_moves
  and_intros
  rw [eq_da, Bool.false_bne]
  refine w_ifB (fun h => ?_) (fun h => ?_)
  · rw [decide_eq_true_eq] at h
    and_intros
    exact q1 [] (by unfold pm; rw [if_pos h])
  · rw [decide_eq_false_iff_not] at h
    and_intros
    refine parts_in ht ?_
    and_intros
    refine w_compA mvL (fun l hl => ⟨_, rfl, ?_⟩) ?_
    · and_intros
      exact move_in (by rw [← cl_len, cl_mk]; have := (spl_le _ l hl).1; rw [cl_len] at this; omega) ⟨rfl, rfl⟩
    and_intros
    refine w_op (none_in fun l hl c hc => hs c ((spl_le _ l hl).2 c hc)) ?_
    and_intros
    refine w_ifB (fun h2 => ?_) (fun h2 => ?_)
    · and_intros
      exact q2 (by unfold pm; rw [if_neg h, if_neg (by simpa using h2)])
    · and_intros
      exact q1 _ (by unfold pm; rw [if_neg h, if_pos (by simpa using h2)])
/-! the numbers as texts -/
def tS (i : Nat) : Str := ((toString (i : Int) : String) : Str)
theorem tS_num : ((List.range 90).all fun i => decide (numL (cl (tS i)) = some (i : Int))) = true := by kernel_rfl
theorem tS_1 : ((List.range 10).all fun c => decide (cl (tS c) = [48 + c])) = true := by kernel_rfl
theorem tS_2 : ((List.range 8).all fun c => (List.range 10).all fun d => decide (cl (tS (10 * (c + 1) + d)) = [49 + c, 48 + d])) = true := by kernel_rfl
theorem tS_ok : ((List.range 90).all fun i => (cl (tS i)).all fun c => decide (c < 1114112)) = true := by kernel_rfl
theorem num_back {l : List Nat} {i : Int} (h : numL l = some i) (h9 : i < 90) : ∃ n : Nat, n < 90 ∧ i = n ∧ cl (tS n) = l := by
  unfold numL at h
  split at h
  · rename_i c
    split at h
    · rename_i hc
      cases h
      obtain ⟨h1, h2⟩ := dig_of hc
      refine ⟨c - 48, by omega, rfl, ?_⟩
      have := List.all_eq_true.mp tS_1 (c - 48) (List.mem_range.mpr (by omega))
      rw [decide_eq_true_eq] at this
      rw [this, show 48 + (c - 48) = c by omega]
    · cases h
  · rename_i c d
    split at h
    · rename_i hc
      cases h
      obtain ⟨h1, h2⟩ := dig_of hc.1
      obtain ⟨h3, h4⟩ := dig_of hc.2.1
      have h5 := hc.2.2
      refine ⟨10 * (c - 48) + (d - 48), by omega, rfl, ?_⟩
      have := List.all_eq_true.mp (List.all_eq_true.mp tS_2 (c - 49) (List.mem_range.mpr (by omega))) (d - 48) (List.mem_range.mpr (by omega))
      rw [decide_eq_true_eq, show 10 * (c - 49 + 1) + (d - 48) = 10 * (c - 48) + (d - 48) by omega] at this
      rw [this, show 49 + (c - 49) = c by omega, show 48 + (d - 48) = d by omega]
    · cases h
  · cases h
theorem int_num {l : List Nat} {i : Int} (h : numL l = some i) (mem : Mem) : gIntA mem [.str (mkS l)] = some (.int i) := by
  unfold numL at h
  split at h
  · split at h
    · rename_i hc
      cases h
      exact int1 hc mem
    · cases h
  · split at h
    · rename_i hc
      cases h
      exact int2 hc.1 hc.2.1 mem
    · cases h
  · cases h
abbrev numsD : List D := (List.range 90).map fun i => .str (tS i)
theorem notin_nums {x : Str} (hx : sOk x) {mem : Mem} : gIn true mem [.str x, .lst numsD] = some (.bl (!lt90 (numL (cl x)))) := by
  have g2 : Gd 1 (.lst numsD) := gd_lst fun d hd => by
    obtain ⟨i, hi, rfl⟩ := List.mem_map.mp hd
    refine gd_str fun c hc => ?_
    have := List.all_eq_true.mp (List.all_eq_true.mp tS_ok i hi) c hc
    exact of_decide_eq_true this
  rw [in_lst (gd_str hx) g2 (by decide), Bool.true_bne]
  congr 3
  rw [Bool.eq_iff_iff, List.any_eq_true]
  constructor
  · rintro ⟨d, hd, he⟩
    obtain ⟨i, hi, rfl⟩ := List.mem_map.mp hd
    rw [eqD_strs, decide_eq_true_eq] at he
    subst he
    have := List.all_eq_true.mp tS_num i hi
    rw [decide_eq_true_eq] at this
    rw [this]
    exact decide_eq_true (by have := List.mem_range.mp hi; omega)
  · intro h
    cases e : numL (cl x) with
    | none => rw [e] at h; cases h
    | some i =>
      rw [e] at h
      obtain ⟨n, hn, rfl, e2⟩ := num_back e (of_decide_eq_true h)
      refine ⟨.str (tS n), List.mem_map.mpr ⟨n, List.mem_range.mpr hn, rfl⟩, ?_⟩
      rw [eqD_strs, decide_eq_true_eq]
      exact cl_inj e2
end K70


namespace K70
open PySem L2 Mx
theorem spl_head {l : List Nat} : ∃ rest, spl 46 l = pL l :: rest := by
  by_cases h : 46 ∈ l
  · obtain ⟨p, r, e, hp⟩ := first_at l h
    rw [e, spl_app p r hp, (pq_dot (r := r) hp).1]
    exact ⟨_, rfl⟩
  · rw [spl_free l h, (pq_no h).1]
    exact ⟨_, rfl⟩
theorem drop_q {l : List Nat} : l.drop ((pL l).length + 1) = qL l := by
  by_cases h : 46 ∈ l
  · obtain ⟨p, r, e, hp⟩ := first_at l h
    obtain ⟨h1, h2⟩ := pq_dot (r := r) hp
    rw [e, h1, h2, ← List.drop_drop, List.drop_left]
    rfl
  · obtain ⟨h1, h2⟩ := pq_no h
    rw [h1, h2, List.drop_of_length_le (by omega)]
theorem drop_dot {l : List Nat} (h : lt90 (numL (qL l)) = true) : (l.drop (pL l).length).take 1 = [46] := by
  by_cases h : 46 ∈ l
  · obtain ⟨p, r, e, hp⟩ := first_at l h
    obtain ⟨h1, h2⟩ := pq_dot (r := r) hp
    rw [e, h1, List.drop_left]
    rfl
  · exfalso
    rw [(pq_no h).2] at *
    revert h
    simp [numL, lt90] at *
theorem strI {i : Nat} (h : i < 90) (mem : Mem) : gStrI mem [.int (0 + (i : Nat))] = some (.str (tS i)) := by
  rw [Int.zero_add]
  simp only [gStrI]
  rw [if_pos]
  · rfl
  · have : ((i : Nat) : Int).natAbs = i := rfl
    rw [this]
    by_cases z : i = 0
    · subst z; decide
    · have : i.log2 < 7 := (Nat.log2_lt z).mpr (by omega)
      omega
abbrev lM (t : Str) (n : Nat) (o2 o3 o4 o5 : Option D) : Mx.Env := [some (.str t), some (.ref n), o2, o3, o4, o5]
theorem read_m {t : Str} (ht : t.length ≤ 100000) (hs : sOk t) {mem : Mem} {Q : D → Mem → Prop} {X : Ex → Mem → Prop} (q1 : ∀ ds r, pm (cl t) = some ds → Q (.tup ds) (mem ++ r)) (q2 : ∀ r, pm (cl t) = none → Q .non (mem ++ r)) : St (F_read_moves [.str t] mem) Q X := by
  refine w_run ?_
  unfold m_read_moves
  rw [s_sp]
  and_intros
  rw [eq_da, Bool.false_bne]
  refine w_ifB (fun h => ?_) (fun h => ?_)
  · rw [decide_eq_true_eq] at h
    and_intros
    have := q1 [] [] (by unfold pm; rw [if_pos h])
    rw [List.append_nil] at this
    exact this
  · rw [decide_eq_false_iff_not] at h
    and_intros
    refine w_split (by omega) ?_
    and_intros
    show Ss (loop _ _ (fun _ => true) ((spl 32 (cl t)).map fun l => .str (mkS l)) (lM t mem.length none none none none) (mem ++ [.lst []])) _
    refine s_loop (fun j l m => (∃ o2 o3 o4 o5, l = lM t mem.length o2 o3 o4 o5) ∧ m = mem ++ [.lst (((spl 32 (cl t)).take j).map mvL)] ∧ ((spl 32 (cl t)).take j).all okM = true) ⟨⟨none, none, none, none, rfl⟩, rfl, rfl⟩ (fun j d loc m hd hI => ?_) (fun loc m hI => ?_)
    · obtain ⟨⟨o2, o3, o4, o5, rfl⟩, rfl, hall⟩ := hI
      rw [List.getElem?_map] at hd
      obtain ⟨p, hp, rfl⟩ := Option.map_eq_some_iff.mp hd
      refine ⟨_, rfl, ?_⟩
      have mp := List.mem_of_getElem? hp
      obtain ⟨lp, sp⟩ := spl_le _ p mp
      have lp1 : (mkS p).length ≤ 1000000 := by rw [← cl_len, cl_mk]; rw [cl_len] at lp; omega
      obtain ⟨pl1, pl2, pl3, pl4⟩ := pq_len p
      have ln : (mkS (pL p)).length ≤ 1000000 := by rw [← cl_len, cl_mk]; rw [cl_len] at lp; omega
      have len : (mkS (pL p)).length = (pL p).length := rfl
      have c1 : cl (cutS (mkS p) (some (((mkS (pL p)).length : Int) + 1)) none) = qL p := by
        rw [show (((mkS (pL p)).length : Int) + 1) = (((pL p).length + 1 : Nat) : Int) by rw [len]; omega, cut_from, cl_mk, drop_q]
      have c2 : cl (cutS (mkS p) (some ((mkS (pL p)).length : Int)) (some (((mkS (pL p)).length : Int) + 1))) = (p.drop (pL p).length).take 1 := by
        rw [show (((mkS (pL p)).length : Int) + 1) = (((pL p).length + 1 : Nat) : Int) by rw [len]; omega, len, cut_mid, cl_mk]
        congr 1
        omega
      have ok1 : sOk (cutS (mkS p) (some (((mkS (pL p)).length : Int) + 1)) none) := fun c hc => hs c (sp c (by rw [c1] at hc; exact pl4 c hc))
      have hnone : okM p = false → pm (cl t) = none := fun e => by
        unfold pm
        rw [if_neg h, if_neg]
        intro ha
        rw [List.all_eq_true] at ha
        rw [ha p mp] at e
        cases e
      obtain ⟨rest, hsp⟩ := spl_head (l := p)
      rw [s_dot]
      and_intros
      refine w_split lp1 ?_
      rw [cl_mk, hsp, List.map_cons]
      and_intros
      refine w_op ix_lst0 ?_
      refine w_cons (w_lc (w_range1 ?_))
      and_intros
      refine ⟨by decide, ?_⟩
      show St (comp _ _ _ (fun _ => true) ((List.range 90).map fun i => .int (0 + (i : Nat))) _ _) _ _
      refine w_compA (fun i => .str (tS i)) (fun i hi => ⟨_, rfl, ?_⟩) ?_
      · and_intros
        refine w_op (strI (List.mem_range.mp hi) _) ?_
        exact ⟨rfl, rfl⟩
      and_intros
      refine l_isname ln ?_
      rw [cl_mk]
      and_intros
      refine w_ifB (fun h1 => ?_) (fun h1 => ?_)
      · and_intros
        refine q2 _ (hnone ?_)
        rw [Bool.not_eq_true'] at h1
        unfold okM
        rw [h1]
        rfl
      · rw [Bool.not_eq_false'] at h1
        and_intros
        refine w_op (notin_nums ok1) ?_
        rw [c1]
        and_intros
        refine w_ifB (fun h2 => ?_) (fun h2 => ?_)
        · and_intros
          refine q2 _ (hnone ?_)
          rw [Bool.not_eq_true'] at h2
          unfold okM
          rw [h2, Bool.and_false]
        · rw [Bool.not_eq_false'] at h2
          and_intros
          have ok : okM p = true := by unfold okM; rw [h1, h2]; rfl
          obtain ⟨i, e1, _, _, e2⟩ := mv_yes ok
          have edot : cutS (mkS p) (some ((mkS (pL p)).length : Int)) (some (((mkS (pL p)).length : Int) + 1)) = ⟨#[46]⟩ := cl_inj (by rw [c2, drop_dot h2])
          rw [edot]
          rw [show (true != decide ((⟨#[46]⟩ : Str) = ⟨#[46]⟩)) = false by simp]
          and_intros
          refine ⟨tyL_ref get_last, ?_⟩
          and_intros
          rw [show cutS (mkS p) (some (((mkS (pL p)).length : Int) + 1)) none = mkS (qL p) from cl_inj c1]
          refine w_op (int_num e1 _) ?_
          and_intros
          have lm : (((spl 32 (cl t)).take j).map mvL).length ≤ 1000000 := by
            rw [List.length_map, List.length_take]
            have := spl_count 32 (cl t)
            rw [cl_len] at this
            omega
          refine w_app get_last lm ?_
          have tk : (spl 32 (cl t)).take (j + 1) = (spl 32 (cl t)).take j ++ [p] := by rw [List.take_add_one, hp]; rfl
          rw [set_last, ← e2]
          refine ⟨⟨_, _, _, _, rfl⟩, ?_, ?_⟩
          · show _ = mem ++ [Cell.lst (((spl 32 (cl t)).take (j + 1)).map mvL)]
            rw [tk, List.map_append]
            rfl
          · rw [tk, List.all_append, hall]
            simp [ok]
    · obtain ⟨⟨o2, o3, o4, o5, rfl⟩, rfl, hall⟩ := hI
      rw [List.length_map, List.take_length] at hall ⊢
      and_intros
      refine w_op (tup_ref get_last) ?_
      exact q1 _ _ (by unfold pm; rw [if_neg h, if_pos hall])
end K70


namespace K70
open PySem L2 Mx
section
variable {n k : Nat} {b m : Mem} {Q : D → Mem → Prop} {X : Ex → Mem → Prop}
theorem w_rl {t : Int} (h : Sv n k b m) (hk : k < 900000) (t0 : 0 < t) (t1 : t < 9000) (q : ∀ (r : Int) m', 0 ≤ r → r < t → Sv n (k + 1) b m' → Q (.int r) m') : St (F_roll [.ref n, .int t] m) Q X := w_roll h hk t0 t1 q
theorem w_one {ds : List D} (h : Sv n k b m) (hk : k < 900000) (l0 : 0 < ds.length) (l1 : ds.length < 9000) (q : ∀ x m', x ∈ ds → Sv n (k + 1) b m' → Q x m') : St (F_one_of [.ref n, .lst ds] m) Q X := w_oneOf h hk l0 l1 q
theorem w_name (h : Sv n k b m) (hk : k + 20 < 900000) (q : ∀ l m', nmL l = true → Sv n (k + 20) b m' → Q (.str (mkS l)) m') : St (F_name [.ref n] m) Q X := by
  refine w_run ?_
  unfold m_name
  and_intros
  refine w_rl h (by omega) (by decide) (by decide) fun r m1 r0 r1 h1 => ?_
  refine w_ixIn r0 r1 fun x hx => ?_
  obtain ⟨j, rfl, j1, j8⟩ : ∃ j : Int, x = .int j ∧ 1 ≤ j ∧ j ≤ 8 := by
    simp only [List.mem_cons, List.not_mem_nil, or_false] at hx
    rcases hx with rfl | rfl | rfl | rfl
    · exact ⟨1, rfl, by decide, by decide⟩
    · exact ⟨2, rfl, by decide, by decide⟩
    · exact ⟨3, rfl, by decide, by decide⟩
    · exact ⟨8, rfl, by decide, by decide⟩
  and_intros
  refine ⟨⟨by omega, by omega⟩, ?_⟩
  have ln : (rangeD 0 j.toNat).length = j.toNat := by simp [rangeD]
  refine w_compM (items := rangeD 0 j.toNat) (fun i m => Sv n (k + 1 + i) b m) (fun x => ∃ c, (97 ≤ c ∧ c ≤ 122) ∧ x = .str ⟨#[c]⟩) h1 (fun d hd i m2 hi h2 => ⟨_, rfl, ?_⟩) (fun ds m2 hl hp h2 => ?_)
  · and_intros
    refine w_rl h2 (by rw [ln] at hi; omega) (by decide) (by decide) fun r m1 r0 r1 h1 => ?_
    obtain ⟨c, hc, e⟩ := abc_ix r0 r1 (mem := m1)
    refine w_op e ?_
    exact ⟨⟨c, hc, rfl⟩, h1⟩
  · rw [ln] at hl h2
    obtain ⟨ls, rfl, hls⟩ := singles hp
    and_intros
    have e1 : (ls.map fun c => D.str ⟨#[c]⟩) = (ls.map fun c => (⟨#[c]⟩ : Str)).map D.str := by rw [List.map_map]; rfl
    rw [List.length_map] at hl
    rw [e1]
    refine w_joinB (by rw [List.length_map]; omega) (fun y hy => by obtain ⟨c, _, rfl⟩ := List.mem_map.mp hy; show 1 ≤ 500; decide) (by decide) ?_
    rw [show Txt.join "" (ls.map fun c => (⟨#[c]⟩ : Str)) = mkS ls from cl_inj (by rw [show (Str.ofString "") = Str.empty by kernel_rfl, tjoin0_is, flat_one])]
    refine q ls m2 ?_ (h2.mono (by omega))
    unfold nmL
    rw [Bool.and_eq_true, Bool.and_eq_true, decide_eq_true_eq, decide_eq_true_eq, List.all_eq_true]
    refine ⟨⟨by omega, by omega⟩, fun c hc => ?_⟩
    unfold chOk
    rw [Bool.and_eq_true, decide_eq_true_eq, decide_eq_true_eq]
    exact hls c hc
/-- a drawn sign, by its text -/
theorem w_word (h : Sv n k b m) (hk : k + 200 < 900000) (q : ∀ (ls : List (List Nat)) m', ls.length ≤ 5 → (∀ l ∈ ls, okL l = true) → Sv n (k + 200) b m' → Q (.tup (ls.map sgL)) m') : St (F_word [.ref n] m) Q X := by
  refine w_run ?_
  unfold m_word
  and_intros
  refine w_rl h (by omega) (by decide) (by decide) fun r m1 r0 r1 h1 => ?_
  and_intros
  refine ⟨⟨by omega, by omega⟩, ?_⟩
  have ln : (rangeD 0 r.toNat).length = r.toNat := by simp [rangeD]
  refine w_compM (items := rangeD 0 r.toNat) (fun i m => Sv n (k + 1 + 30 * i) b m) (fun x => ∃ l, okL l = true ∧ x = sgL l) h1 (fun d hd i m2 hi h2 => ⟨_, rfl, ?_⟩) (fun ds m2 hl hp h2 => ?_)
  · rw [ln] at hi
    and_intros
    refine w_rl h2 (by omega) (by decide) (by decide) fun r m1 r0 r1 h1 => ?_
    refine w_ixIn r0 r1 fun x hx => ?_
    and_intros
    refine w_name h1 (by omega) fun l m3 hn h3 => ?_
    and_intros
    have h4 : Sv n (k + 1 + 30 * (i + 1)) b m3 := h3.mono (by omega)
    simp only [List.mem_cons, List.not_mem_nil, or_false] at hx
    rcases hx with rfl | rfl
    · exact ⟨⟨33 :: l, by simp [okL, sgL, hn], by simp [sgL, hn]⟩, h4⟩
    · exact ⟨⟨63 :: l, by simp [okL, sgL, hn], by simp [sgL, hn]⟩, h4⟩
  · rw [ln] at hl h2
    obtain ⟨ls, rfl, hls⟩ := images hp
    rw [List.length_map] at hl
    and_intros
    exact q ls m2 (by omega) hls (h2.mono (by omega))
theorem okM_of {l : List Nat} {i : Nat} (hn : nmL l = true) (hi : i < 90) : okM (l ++ 46 :: cl (tS i)) = true ∧ mvL (l ++ 46 :: cl (tS i)) = .tup [.str (mkS l), .int i] := by
  have h46 : 46 ∉ l := fun hc => by have := (nm_len hn).2.2 46 hc; omega
  obtain ⟨h1, h2⟩ := pq_dot (r := cl (tS i)) h46
  have h3 : numL (cl (tS i)) = some (i : Int) := of_decide_eq_true (List.all_eq_true.mp tS_num i (List.mem_range.mpr hi))
  constructor
  · unfold okM
    rw [h1, h2, hn, h3]
    exact decide_eq_true (by omega)
  · unfold mvL
    rw [h1, h2, hn, h3, if_pos rfl]
    dsimp only
    rw [if_pos (by omega)]
/-- a move's text -/
def mt (p : List Nat × Nat) : List Nat := p.1 ++ 46 :: cl (tS p.2)
def md (p : List Nat × Nat) : D := .tup [.str (mkS p.1), .int (p.2 : Nat)]
theorem w_moves (h : Sv n k b m) (hk : k + 200 < 900000) (q : ∀ (ls : List (List Nat × Nat)) m', ls.length ≤ 5 → (∀ l ∈ ls, nmL l.1 = true ∧ l.2 < 90) → Sv n (k + 200) b m' → Q (.tup (ls.map md)) m') : St (F_moves [.ref n] m) Q X := by
  refine w_run ?_
  unfold m_moves
  and_intros
  refine w_rl h (by omega) (by decide) (by decide) fun r m1 r0 r1 h1 => ?_
  and_intros
  refine ⟨⟨by omega, by omega⟩, ?_⟩
  have ln : (rangeD 0 r.toNat).length = r.toNat := by simp [rangeD]
  refine w_compM (items := rangeD 0 r.toNat) (fun i m => Sv n (k + 1 + 30 * i) b m) (fun x => ∃ l : List Nat × Nat, (nmL l.1 = true ∧ l.2 < 90) ∧ x = md l) h1 (fun d hd i m2 hi h2 => ⟨_, rfl, ?_⟩) (fun ds m2 hl hp h2 => ?_)
  · rw [ln] at hi
    and_intros
    refine w_name h2 (by omega) fun l m3 hn h3 => ?_
    and_intros
    refine w_rl h3 (by omega) (by decide) (by decide) fun r m1 r0 r1 h1 => ?_
    refine w_ixIn r0 r1 fun x hx => ?_
    and_intros
    have h4 : Sv n (k + 1 + 30 * (i + 1)) b m1 := h1.mono (by omega)
    simp only [List.mem_cons, List.not_mem_nil, or_false] at hx
    rcases hx with rfl | rfl | rfl | rfl | rfl
    · exact ⟨⟨(l, 0), ⟨hn, by show (_ : Nat) < 90; omega⟩, rfl⟩, h4⟩
    · exact ⟨⟨(l, 9), ⟨hn, by show (_ : Nat) < 90; omega⟩, rfl⟩, h4⟩
    · exact ⟨⟨(l, 10), ⟨hn, by show (_ : Nat) < 90; omega⟩, rfl⟩, h4⟩
    · exact ⟨⟨(l, 89), ⟨hn, by show (_ : Nat) < 90; omega⟩, rfl⟩, h4⟩
    · exact ⟨⟨(l, 7), ⟨hn, by show (_ : Nat) < 90; omega⟩, rfl⟩, h4⟩
  · rw [ln] at hl h2
    obtain ⟨ls, rfl, hls⟩ := images hp
    rw [List.length_map] at hl
    and_intros
    exact q ls m2 (by omega) hls (h2.mono (by omega))
end
end K70


namespace K70
open PySem L2 Mx
/-! texts of words and moves -/
def wt (ls : List (List Nat)) : List Nat := if ls = [] then [45] else joinL 32 ls
theorem ok_len {l : List Nat} (h : okL l = true) : l.length ≤ 9 ∧ 32 ∉ l ∧ (∀ c ∈ l, c < 128) ∧ ∃ z r, sgL l = .tup [.str z, .str (mkS r)] ∧ nmL r = true ∧ ((z = "send" ∧ l = 33 :: r) ∨ (z = "take" ∧ l = 63 :: r)) := by
  cases l with
  | nil => simp [okL, sgL] at h
  | cons c r =>
    have fin : nmL r = true → (c = 33 ∨ c = 63) → (c :: r).length ≤ 9 ∧ 32 ∉ (c :: r) ∧ (∀ x ∈ c :: r, x < 128) := fun hn hc => by
      obtain ⟨h1, h2, h3⟩ := nm_len hn
      refine ⟨by rw [List.length_cons]; omega, fun hm => ?_, fun x hx => ?_⟩
      · rcases List.mem_cons.mp hm with e | hm
        · omega
        · have := h3 32 hm; omega
      · rcases List.mem_cons.mp hx with rfl | hx
        · omega
        · have := h3 x hx; omega
    by_cases c1 : c = 33 ∧ nmL r = true
    · obtain ⟨rfl, hn⟩ := c1
      obtain ⟨f1, f2, f3⟩ := fin hn (.inl rfl)
      exact ⟨f1, f2, f3, "send", r, by simp [sgL, hn], hn, .inl ⟨rfl, rfl⟩⟩
    · by_cases c2 : c = 63 ∧ nmL r = true
      · obtain ⟨rfl, hn⟩ := c2
        obtain ⟨f1, f2, f3⟩ := fin hn (.inr rfl)
        exact ⟨f1, f2, f3, "take", r, by simp [sgL, hn], hn, .inr ⟨rfl, rfl⟩⟩
      · simp only [okL, sgL, if_neg c1, if_neg c2] at h
        cases h
theorem joinL_len {c b : Nat} : ∀ (ls : List (List Nat)), (∀ l ∈ ls, l.length ≤ b) → (joinL c ls).length ≤ ls.length * (b + 1)
  | [], _ => by simp [joinL]
  | [p], h => by
    have := h p List.mem_cons_self
    rw [joinL]
    simp
    omega
  | p :: q :: r, h => by
    have h1 := h p List.mem_cons_self
    have h2 := joinL_len (c := c) (q :: r) fun l hl => h l (List.mem_cons_of_mem _ hl)
    rw [joinL, List.length_append, List.length_cons, List.length_cons, Nat.succ_mul]
    omega
theorem joinL_mem {c x : Nat} : ∀ (ls : List (List Nat)), x ∈ joinL c ls → x = c ∨ ∃ l ∈ ls, x ∈ l
  | [], h => by simp [joinL] at h
  | [p], h => .inr ⟨p, List.mem_cons_self, h⟩
  | p :: q :: r, h => by
    rw [joinL, List.mem_append, List.mem_cons] at h
    rcases h with h | h | h
    · exact .inr ⟨p, List.mem_cons_self, h⟩
    · exact .inl h
    · rcases joinL_mem (q :: r) h with e | ⟨l, hl, hx⟩
      · exact .inl e
      · exact .inr ⟨l, List.mem_cons_of_mem _ hl, hx⟩
theorem join_sp (ls : List (List Nat)) : Txt.join ⟨#[32]⟩ (ls.map mkS) = mkS (joinL 32 ls) := cl_inj (by
  rw [tjoin_is, List.map_map, cl_mk]
  congr 1
  conv => rhs; rw [← List.map_id ls]
  exact List.map_congr_left fun l _ => rfl)
section
variable {mem : Mem} {Q : D → Mem → Prop} {X : Ex → Mem → Prop}
theorem w_signtext {l : List Nat} (h : okL l = true) (q : Q (.str (mkS l)) mem) : St (F_sign_text [sgL l] mem) Q X := by
  obtain ⟨h1, _, _, z, r, e, hn, hz⟩ := ok_len h
  obtain ⟨n1, n2, _⟩ := nm_len hn
  rw [e]
  refine w_run ?_
  unfold m_sign_text
  have fin : ∀ c, l = c :: r → St (ofP (pu gAdd mem [.str ⟨#[c]⟩, .str (mkS r)])) (fun d m => ({ nx := fun _ m => Q .non m, rt := Q, ex := X } : Po).rt d m) X := fun c el => by
    refine w_op (add_str ?_) ?_
    · show 1 + r.length ≤ 1000000
      omega
    · rw [show (⟨#[c]⟩ : Str) ++ mkS r = mkS l from cl_inj (by rw [cl_app, el]; rfl)]
      exact q
  rcases hz with ⟨rfl, el⟩ | ⟨rfl, el⟩
  · and_intros
    rw [s_ex]
    exact fin 33 el
  · and_intros
    rw [s_qu]
    exact fin 63 el
theorem w_lsigntext {l : List Nat} (h : okL l = true) (q : Q (.str (mkS l)) mem) : St (F_l_sign_text [sgL l] mem) Q X := by
  obtain ⟨h1, _, _, z, r, e, hn, hz⟩ := ok_len h
  obtain ⟨n1, n2, _⟩ := nm_len hn
  rw [e]
  refine w_run ?_
  unfold m_l_sign_text
  have fin : ∀ c, l = c :: r → St (ofP (pu gAdd mem [.str ⟨#[c]⟩, .str (mkS r)])) (fun d m => ({ nx := fun _ m => Q .non m, rt := Q, ex := X } : Po).rt d m) X := fun c el => by
    refine w_op (add_str ?_) ?_
    · show 1 + r.length ≤ 1000000
      omega
    · rw [show (⟨#[c]⟩ : Str) ++ mkS r = mkS l from cl_inj (by rw [cl_app, el]; rfl)]
      exact q
  rcases hz with ⟨rfl, el⟩ | ⟨rfl, el⟩
  · and_intros
    rw [s_ex]
    exact fin 33 el
  · and_intros
    rw [s_qu]
    exact fin 63 el
end
end K70


namespace K70
open PySem L2 Mx
theorem pw_wt {ls : List (List Nat)} (h : ∀ l ∈ ls, okL l = true) : pw (wt ls) = some (ls.map sgL) := by
  by_cases e : ls = []
  · subst e; rfl
  · unfold wt
    rw [if_neg e]
    have es : spl 32 (joinL 32 ls) = ls := spl_join ls e fun l hl => (ok_len (h l hl)).2.1
    unfold pw
    rw [if_neg, es, if_pos (List.all_eq_true.mpr h)]
    intro e2
    rw [e2] at es
    have e3 : spl 32 [45] = [[45]] := by decide
    rw [e3] at es
    have := h [45] (by rw [← es]; exact List.mem_cons_self)
    revert this
    decide
theorem mt_len {p : List Nat × Nat} (h : nmL p.1 = true ∧ p.2 < 90) : (mt p).length ≤ 20 ∧ 32 ∉ mt p ∧ (∀ c ∈ mt p, c < 128) ∧ (cl (tS p.2)).length ≤ 2 := by
  obtain ⟨h1, h2, h3⟩ := nm_len h.1
  have e := List.all_eq_true.mp tS_num p.2 (List.mem_range.mpr h.2)
  rw [decide_eq_true_eq] at e
  have dg : (cl (tS p.2)).length ≤ 2 ∧ ∀ c ∈ cl (tS p.2), 48 ≤ c ∧ c ≤ 57 := by
    unfold numL at e
    split at e
    · rename_i c ec
      split at e
      · rename_i hc
        rw [ec]
        refine ⟨by simp, fun x hx => ?_⟩
        rw [List.mem_singleton] at hx
        subst hx
        exact dig_of hc
      · cases e
    · rename_i c d ec
      split at e
      · rename_i hc
        rw [ec]
        refine ⟨by simp, fun x hx => ?_⟩
        simp only [List.mem_cons, List.not_mem_nil, or_false] at hx
        rcases hx with rfl | rfl
        · exact dig_of hc.1
        · exact dig_of hc.2.1
      · cases e
    · cases e
  refine ⟨?_, fun hm => ?_, fun c hc => ?_, dg.1⟩
  · unfold mt
    rw [List.length_append, List.length_cons]
    omega
  · unfold mt at hm
    rw [List.mem_append, List.mem_cons] at hm
    rcases hm with hm | hm | hm
    · have := h3 32 hm; omega
    · omega
    · have := dg.2 32 hm; omega
  · unfold mt at hc
    rw [List.mem_append, List.mem_cons] at hc
    rcases hc with hm | hm | hm
    · have := h3 c hm; omega
    · omega
    · have := dg.2 c hm; omega
theorem md_mv {p : List Nat × Nat} (h : nmL p.1 = true ∧ p.2 < 90) : okM (mt p) = true ∧ mvL (mt p) = md p := okM_of h.1 h.2
theorem pm_mt {ls : List (List Nat × Nat)} (h : ∀ p ∈ ls, nmL p.1 = true ∧ p.2 < 90) : pm (wt (ls.map mt)) = some (ls.map md) := by
  by_cases e : ls = []
  · subst e; rfl
  · have e' : ls.map mt ≠ [] := by simpa using e
    unfold wt
    rw [if_neg e']
    have es : spl 32 (joinL 32 (ls.map mt)) = ls.map mt := spl_join _ e' fun l hl => by
      obtain ⟨p, hp, rfl⟩ := List.mem_map.mp hl
      exact (mt_len (h p hp)).2.1
    have hm : (ls.map mt).map mvL = ls.map md := by
      rw [List.map_map]
      exact List.map_congr_left fun p hp => (md_mv (h p hp)).2
    unfold pm
    rw [if_neg, es, if_pos (List.all_eq_true.mpr fun l hl => by
      obtain ⟨p, hp, rfl⟩ := List.mem_map.mp hl
      exact (md_mv (h p hp)).1), hm]
    intro e2
    rw [e2] at es
    have e3 : spl 32 [45] = [[45]] := by decide
    rw [e3] at es
    obtain ⟨p, hp, ep⟩ := List.mem_map.mp (show [45] ∈ ls.map mt by rw [← es]; exact List.mem_cons_self)
    have := (md_mv (h p hp)).1
    rw [ep] at this
    revert this
    decide
theorem sg_gd {l : List Nat} (h : okL l = true) : Gd 1 (sgL l) := by
  obtain ⟨_, _, h3, z, r, e, hn, hz⟩ := ok_len h
  rw [e]
  refine gd_tup fun d hd => ?_
  simp at hd
  rcases hd with rfl | rfl
  · rcases hz with ⟨rfl, _⟩ | ⟨rfl, _⟩
    · exact gd_str (by intro c hc; rw [show cl (Str.ofString "send") = [115, 101, 110, 100] by kernel_rfl] at hc; simp at hc; omega)
    · exact gd_str (by intro c hc; rw [show cl (Str.ofString "take") = [116, 97, 107, 101] by kernel_rfl] at hc; simp at hc; omega)
  · exact gd_str fun c hc => by have := (nm_len hn).2.2 c hc; omega
theorem words_gd {ls : List (List Nat)} (h : ∀ l ∈ ls, okL l = true) : Gd 2 (.tup (ls.map sgL)) := gd_tup fun d hd => by
  obtain ⟨l, hl, rfl⟩ := List.mem_map.mp hd
  exact sg_gd (h l hl)
theorem md_gd {p : List Nat × Nat} (h : nmL p.1 = true ∧ p.2 < 90) : Gd 1 (md p) := gd_tup fun d hd => by
  simp at hd
  rcases hd with rfl | rfl
  · exact gd_str fun c hc => by have := (nm_len h.1).2.2 c hc; omega
  · exact gd_int _
theorem moves_gd {ls : List (List Nat × Nat)} (h : ∀ p ∈ ls, nmL p.1 = true ∧ p.2 < 90) : Gd 2 (.tup (ls.map md)) := gd_tup fun d hd => by
  obtain ⟨l, hl, rfl⟩ := List.mem_map.mp hd
  exact md_gd (h l hl)
theorem nil_gd {k : Nat} : Gd (k + 1) (.tup []) := gd_tup fun d hd => by cases hd
section
variable {mem : Mem} {Q : D → Mem → Prop} {X : Ex → Mem → Prop}
theorem format_w {ls : List (List Nat)} (h : ∀ l ∈ ls, okL l = true) (hl : ls.length ≤ 100) (q : Q (.str (mkS (wt ls))) mem) : St (F_format_word [.tup (ls.map sgL)] mem) Q X := by
  refine w_run ?_
  unfold m_format_word
  rw [s_sp]
  and_intros
  refine w_run ?_
  unfold m_require_word
  and_intros
  refine isword_sg ?_
  rw [List.all_eq_true.mpr h]
  and_intros
  refine w_op (eq_gd (words_gd h) nil_gd (by decide)) ?_
  and_intros
  rw [eqD_nil (words_gd h), Bool.false_bne]
  refine w_ifB (fun h1 => ?_) (fun h1 => ?_)
  · and_intros
    have : ls = [] := by simpa using h1
    subst this
    rw [s_da]
    exact q
  · have h1 : ls ≠ [] := by simpa using h1
    and_intros
    refine w_compA (fun l => .str (mkS l)) (fun l hl => ⟨_, rfl, ?_⟩) ?_
    · and_intros
      exact w_signtext (h l hl) ⟨rfl, rfl⟩
    and_intros
    rw [show (ls.map fun l => D.str (mkS l)) = (ls.map mkS).map D.str by rw [List.map_map]; rfl]
    refine w_joinB (by rw [List.length_map]; omega) (fun y hy => ?_) (by decide) ?_
    · obtain ⟨l, hl, rfl⟩ := List.mem_map.mp hy
      show l.length ≤ 500
      have := (ok_len (h l hl)).1
      omega
    · rw [join_sp]
      unfold wt at q
      rw [if_neg h1] at q
      exact q
theorem fmt_str {y : Str} (h : y.length ≤ 1000000) : gFmt mem [.str y] = some (.str y) := by simp only [gFmt, if_pos h]
theorem fmt_int {i : Nat} (h : i < 90) : gFmt mem [.int (i : Nat)] = some (.str (tS i)) := by
  simp only [gFmt]
  rw [if_pos]
  · rfl
  · have : ((i : Nat) : Int).natAbs = i := rfl
    rw [this]
    by_cases z : i = 0
    · subst z; decide
    · have : i.log2 < 7 := (Nat.log2_lt z).mpr (by omega)
      omega
/-- the text of one move, by its parts -/
theorem w_mt {a c : E1} {p : List Nat × Nat} {loc : Mx.Env} (hp : nmL p.1 = true ∧ p.2 < 90) (ha : a loc mem = .ok (.str (mkS p.1)) mem) (hc : c loc mem = .ok (.int (p.2 : Nat)) mem) (q : Q (.str (mkS (mt p))) mem) : St (eJ [e1 (pu gFmt) a, eC (.str "."), e1 (pu gFmt) c] Str.empty loc mem) Q X := by
  obtain ⟨n1, n2, _⟩ := nm_len hp.1
  have lt : (tS p.2).length ≤ 2 := (mt_len hp).2.2.2
  have ln : (mkS p.1).length = p.1.length := rfl
  have l0 : Str.empty.length = 0 := rfl
  have ld : (⟨#[46]⟩ : Str).length = 1 := rfl
  rw [s_dot]
  refine w_jC (w_e1 (st_eq ha (w_op (fmt_str (by omega)) ⟨_, rfl, ?_, ?_⟩)))
  · rw [Str.length_append]; omega
  refine w_jC (w_c ⟨_, rfl, ?_, ?_⟩)
  · rw [Str.length_append, Str.length_append]; omega
  refine w_jC (w_e1 (st_eq hc (w_op (fmt_int hp.2) ⟨_, rfl, ?_, ?_⟩)))
  · rw [Str.length_append, Str.length_append, Str.length_append]; omega
  refine w_jN ?_
  rw [show Str.empty ++ mkS p.1 ++ (⟨#[46]⟩ : Str) ++ tS p.2 = mkS (mt p) from cl_inj (by rw [cl_app, cl_app, cl_app, cl_empty, List.nil_append, List.append_assoc]; rfl)]
  exact q
theorem w_mtext {ls : List (List Nat × Nat)} (h : ∀ p ∈ ls, nmL p.1 = true ∧ p.2 < 90) (hl : ls.length ≤ 100) (q : Q (.str (mkS (wt (ls.map mt)))) mem) : St (F_moves_text [.tup (ls.map md)] mem) Q X := by
  refine w_run ?_
  unfold m_moves_text
  rw [s_sp]
  and_intros
  refine w_op (eq_gd (moves_gd h) nil_gd (by decide)) ?_
  and_intros
  rw [eqD_nil (moves_gd h), Bool.false_bne]
  refine w_ifB (fun h1 => ?_) (fun h1 => ?_)
  · and_intros
    have : ls = [] := by simpa using h1
    subst this
    rw [s_da]
    exact q
  · have h1 : ls ≠ [] := by simpa using h1
    and_intros
    refine w_compA (fun p => .str (mkS (mt p))) (fun p hp => ⟨_, rfl, ?_⟩) ?_
    · exact w_mt (h p hp) rfl rfl ⟨rfl, rfl⟩
    and_intros
    rw [show (ls.map fun p => D.str (mkS (mt p))) = ((ls.map mt).map mkS).map D.str by rw [List.map_map, List.map_map]; rfl]
    refine w_joinB (by rw [List.length_map, List.length_map]; omega) (fun y hy => ?_) (by decide) ?_
    · obtain ⟨l, hl, rfl⟩ := List.mem_map.mp hy
      obtain ⟨p, hp, rfl⟩ := List.mem_map.mp hl
      show (mt p).length ≤ 500
      have := (mt_len (h p hp)).1
      omega
    · rw [join_sp]
      unfold wt at q
      rw [if_neg (by simpa using h1)] at q
      exact q
theorem ismove_md {p : List Nat × Nat} (h : nmL p.1 = true ∧ p.2 < 90) (q : Q (.bl true) mem) : St (F_is_move [md p] mem) Q X := by
  obtain ⟨n1, n2, _⟩ := nm_len h.1
  refine ismove (w := mkS p.1) (o := some (p.2 : Nat)) (by show p.1.length ≤ _; omega) (fun i hi => by cases hi; omega) ?_
  rw [cl_mk, h.1, show lt90 (some (p.2 : Nat)) = true from decide_eq_true (by have := h.2; omega)]
  exact q
theorem format_m {ls : List (List Nat × Nat)} (h : ∀ p ∈ ls, nmL p.1 = true ∧ p.2 < 90) (hl : ls.length ≤ 100) (q : Q (.str (mkS (wt (ls.map mt)))) mem) : St (F_format_moves [.tup (ls.map md)] mem) Q X := by
  refine w_run ?_
  unfold m_format_moves
  and_intros
  refine w_compA (fun _ => .bl true) (fun p hp => ⟨_, rfl, ?_⟩) ?_
  · and_intros
    exact ismove_md (h p hp) ⟨rfl, rfl⟩
  and_intros
  refine w_op (gall_map (f := fun _ => true)) ?_
  rw [show (ls.all fun _ => true) = true by simp]
  and_intros
  exact w_mtext h hl q
end
end K70


namespace K70
open PySem L2 Mx
def Tx (B : Nat) (x : Str) : Prop := x.length ≤ B ∧ sOk x
theorem Tx.mono {A B : Nat} {x : Str} (h : Tx A x) (hb : A ≤ B) : Tx B x := ⟨Nat.le_trans h.1 hb, h.2⟩
theorem tx_cut {B : Nat} {z : Str} (h : Tx B z) (lo hi : Option Int) : Tx B (cutS z lo hi) := ⟨Nat.le_trans (cutS_length z lo hi) h.1, fun c hc => h.2 c (List.mem_of_mem_drop (List.mem_of_mem_take hc))⟩
theorem tx_app {A B : Nat} {x y : Str} (h : Tx A x) (h2 : Tx B y) : Tx (A + B) (x ++ y) := ⟨by rw [Str.length_append]; have := h.1; have := h2.1; omega, fun c hc => by
  rw [cl_app, List.mem_append] at hc
  rcases hc with hc | hc
  · exact h.2 c hc
  · exact h2.2 c hc⟩
theorem tx_rev {B : Nat} {z : Str} (h : Tx B z) : Tx B (revS z) := ⟨by show z.cps.toList.reverse.toArray.size ≤ B; rw [List.size_toArray, List.length_reverse]; exact h.1, fun c hc => h.2 c (by
  have : c ∈ z.cps.toList.reverse := hc
  exact List.mem_reverse.mp this)⟩
theorem tx_rep {B : Nat} {z : Str} (h : Tx B z) : Tx (2 * B) (repS z 2) := by
  have e : cl (repS z 2) = cl z ++ cl z := by
    show (repS z 2).cps.toList = _
    rw [repS_tl]
    show ([cl z, cl z] : List (List Nat)).flatten = _
    simp
  refine ⟨?_, fun c hc => ?_⟩
  · rw [← cl_len, e, List.length_append, cl_len]; have := h.1; omega
  · rw [e, List.mem_append] at hc
    rcases hc with hc | hc <;> exact h.2 c hc
theorem rev_str {z : Str} {mem : Mem} (h : z.length ≤ 1000000) : gRev mem [.str z] = some (.str (revS z)) := by simp only [gRev, if_pos h]
theorem mul_str2 {z : Str} {mem : Mem} (h : z.length ≤ 1000) : gMulA mem [.str z, .int 2] = some (.str (repS z 2)) := by
  have e1 : gMul mem [.str z, .int 2] = none := rfl
  unfold gMulA orG
  rw [e1]
  dsimp only [gMulS]
  rw [if_pos ⟨by decide, by decide, by show z.length * 2 ≤ 1000000; omega⟩]
abbrev sgs : List D := [.str " ", .str "!", .str "?", .str ".", .str "-", .str "0", .str "9", .str "a", .str "A", .str "\n", .str "\t", .str "_", .str "~", .str "+"]
theorem sgs_tx : ∀ x ∈ sgs, ∃ y, x = .str y ∧ Tx 1 y := by
  intro x hx
  simp only [List.mem_cons, List.not_mem_nil, or_false] at hx
  have one : ∀ c, c < 128 → Tx 1 ⟨#[c]⟩ := fun c hc => ⟨Nat.le_refl _, fun d hd => by simp at hd; omega⟩
  rcases hx with rfl | rfl | rfl | rfl | rfl | rfl | rfl | rfl | rfl | rfl | rfl | rfl | rfl | rfl
  · exact ⟨_, rfl, by rw [show Str.ofString " " = ⟨#[32]⟩ by kernel_rfl]; exact one _ (by decide)⟩
  · exact ⟨_, rfl, by rw [show Str.ofString "!" = ⟨#[33]⟩ by kernel_rfl]; exact one _ (by decide)⟩
  · exact ⟨_, rfl, by rw [show Str.ofString "?" = ⟨#[63]⟩ by kernel_rfl]; exact one _ (by decide)⟩
  · exact ⟨_, rfl, by rw [show Str.ofString "." = ⟨#[46]⟩ by kernel_rfl]; exact one _ (by decide)⟩
  · exact ⟨_, rfl, by rw [show Str.ofString "-" = ⟨#[45]⟩ by kernel_rfl]; exact one _ (by decide)⟩
  · exact ⟨_, rfl, by rw [show Str.ofString "0" = ⟨#[48]⟩ by kernel_rfl]; exact one _ (by decide)⟩
  · exact ⟨_, rfl, by rw [show Str.ofString "9" = ⟨#[57]⟩ by kernel_rfl]; exact one _ (by decide)⟩
  · exact ⟨_, rfl, by rw [show Str.ofString "a" = ⟨#[97]⟩ by kernel_rfl]; exact one _ (by decide)⟩
  · exact ⟨_, rfl, by rw [show Str.ofString "A" = ⟨#[65]⟩ by kernel_rfl]; exact one _ (by decide)⟩
  · exact ⟨_, rfl, by rw [show Str.ofString "\n" = ⟨#[10]⟩ by kernel_rfl]; exact one _ (by decide)⟩
  · exact ⟨_, rfl, by rw [show Str.ofString "\t" = ⟨#[9]⟩ by kernel_rfl]; exact one _ (by decide)⟩
  · exact ⟨_, rfl, by rw [show Str.ofString "_" = ⟨#[95]⟩ by kernel_rfl]; exact one _ (by decide)⟩
  · exact ⟨_, rfl, by rw [show Str.ofString "~" = ⟨#[126]⟩ by kernel_rfl]; exact one _ (by decide)⟩
  · exact ⟨_, rfl, by rw [show Str.ofString "+" = ⟨#[43]⟩ by kernel_rfl]; exact one _ (by decide)⟩
theorem tx_sp : Tx 1 (Str.ofString " ") := by
  obtain ⟨y, e, h⟩ := sgs_tx (.str " ") (by simp [sgs])
  cases e
  exact h
theorem tx_nl : Tx 1 (Str.ofString "\n") := by
  obtain ⟨y, e, h⟩ := sgs_tx (.str "\n") (by simp [sgs])
  cases e
  exact h
theorem tx_dsp : Tx 2 (Str.ofString "- ") := by
  rw [show Str.ofString "- " = ⟨#[45, 32]⟩ by kernel_rfl]
  exact ⟨Nat.le_refl _, fun d hd => by simp at hd; omega⟩
theorem tx_nil : Tx 0 (Str.ofString "") := by
  rw [show Str.ofString "" = ⟨#[]⟩ by kernel_rfl]
  exact ⟨Nat.le_refl _, fun d hd => by simp at hd⟩
section
variable {n k : Nat} {b m : Mem} {Q : D → Mem → Prop} {X : Ex → Mem → Prop}
theorem w_bent {t : Str} (ht : Tx 150 t) (h : Sv n k b m) (hk : k + 4 < 900000) (q : ∀ y m', Tx 500 y → Sv n (k + 4) b m' → Q (.str y) m') : St (F_bent_text [.ref n, .str t] m) Q X := by
  have lt := ht.1
  refine w_run ?_
  unfold m_bent_text
  and_intros
  refine w_rl h (by omega) (by omega) (by omega) fun r m1 r0 r1 h1 => ?_
  and_intros
  refine w_one (ds := sgs) h1 (by omega) (by decide) (by decide) fun x m2 hx h2 => ?_
  obtain ⟨sg, rfl, hsg⟩ := sgs_tx x hx
  have lsg := hsg.1
  and_intros
  refine w_rl h2 (by omega) (by omega) (by omega) fun w m3 w0 w1 h3 => ?_
  have h3' := h3
  have h3 : Sv n (k + 4) b m3 := h3.mono (by omega)
  have a1 := cutS_length t none (some r)
  have a2 := cutS_length t (some (r + 1)) none
  have a3 := cutS_length t (some r) none
  have a4 := cutS_length t (some (r + 2)) none
  have a5 := cutS_length t (some r) (some (r + 2))
  and_intros
  rw [Bool.false_bne]
  refine w_ifB (fun c0 => ?_) (fun c0 => ?_)
  · and_intros
    exact q _ _ ((tx_app (tx_cut ht _ _) (tx_cut ht _ _)).mono (by omega)) h3
  and_intros
  rw [Bool.false_bne]
  refine w_ifB (fun c1 => ?_) (fun c1 => ?_)
  · and_intros
    exact q _ _ ((tx_app (tx_app (tx_cut ht _ _) hsg) (tx_cut ht _ _)).mono (by omega)) h3
  and_intros
  rw [Bool.false_bne]
  refine w_ifB (fun c2 => ?_) (fun c2 => ?_)
  · and_intros
    exact q _ _ ((tx_app (tx_app (tx_cut ht _ _) hsg) (tx_cut ht _ _)).mono (by omega)) h3
  and_intros
  rw [Bool.false_bne]
  refine w_ifB (fun c3 => ?_) (fun c3 => ?_)
  · and_intros
    refine w_op (rev_str (by omega)) ?_
    have a6 := (tx_rev (tx_cut ht (some r) (some (r + 2)))).1
    and_intros
    exact q _ _ ((tx_app (tx_app (tx_cut ht _ _) (tx_rev (tx_cut ht _ _))) (tx_cut ht _ _)).mono (by omega)) h3
  have l1 := tx_sp.1
  have l2 := tx_nl.1
  have l3 := tx_dsp.1
  and_intros
  refine w_op (mul_str2 (by omega)) ?_
  and_intros
  refine w_one h3' (by omega) (by show 0 < 7; decide) (by show 7 < 9000; decide) fun x m4 hx h4 => ?_
  have h4 : Sv n (k + 4) b m4 := h4
  simp only [List.mem_cons, List.not_mem_nil, or_false] at hx
  rcases hx with rfl | rfl | rfl | rfl | rfl | rfl | rfl
  · exact q _ _ ((tx_app ht tx_sp).mono (by omega)) h4
  · exact q _ _ ((tx_app tx_sp ht).mono (by omega)) h4
  · exact q _ _ ((tx_app ht tx_nl).mono (by omega)) h4
  · exact q _ _ ((tx_rep ht).mono (by omega)) h4
  · exact q _ _ ((tx_app ht (tx_cut ht _ _)).mono (by omega)) h4
  · exact q _ _ ((tx_app tx_dsp ht).mono (by omega)) h4
  · exact q _ _ (tx_nil.mono (by omega)) h4
end
end K70


namespace K70
open PySem L2 Mx
section
variable {m : Mem} {Q : D → Mem → Prop} {X : Ex → Mem → Prop}
theorem isword_snoc {ls : List (List Nat)} {x : D} (hx : F_is_sign [x] m = .ok (.bl false) m) (h : ∀ l ∈ ls, okL l = true) (q : Q (.bl false) m) : St (F_is_word [.tup (ls.map sgL ++ [x])] m) Q X := by
  have e : ls.map sgL ++ [x] = (ls.map some ++ [none]).map fun o : Option (List Nat) => match o with | some l => sgL l | none => x := by
    rw [List.map_append, List.map_map]
    rfl
  rw [e]
  refine w_run ?_
  unfold m_is_word
  and_intros
  refine w_compA (fun o => .bl o.isSome) (fun o ho => ⟨_, rfl, ?_⟩) ?_
  · and_intros
    cases o with
    | none => exact st_eq hx ⟨rfl, rfl⟩
    | some l =>
      refine issign_sg ?_
      have hl : l ∈ ls := by simpa using ho
      rw [h l hl]
      exact ⟨rfl, rfl⟩
  and_intros
  refine w_op (gall_map (f := Option.isSome)) ?_
  have e2 : List.all (ls.map some ++ [none]) Option.isSome = false := by simp
  rw [e2]
  exact q
theorem format_no {x : D} (h : ∀ Q X, Q (.bl false) m → St (F_is_word [x] m) Q X) (q : X ⟨.ref C_InvalidWord, none⟩ m) : St (F_format_word [x] m) Q X := by
  refine w_run ?_
  unfold m_format_word
  and_intros
  refine w_run ?_
  unfold m_require_word
  and_intros
  refine h _ _ ?_
  and_intros
  exact q
abbrev odds (ls : List (List Nat)) : List D := [.non, .lst (ls.map sgL), .tup (ls.map sgL ++ [.tup [.str "post", .str "x"]]), .tup (ls.map sgL ++ [.tup [.str "send"]]), .tup (ls.map sgL ++ [.tup [.str "take", .str "X"]]), .str "!x", .int 7, .tup [.tup []]]
abbrev odds2 (ls : List (List Nat)) : List D := [.tup (ls.map sgL ++ [.tup [.str "send", .str "abcdefghi"]]), .tup (ls.map sgL ++ [.lst [.str "send", .str "x"]]), .tup (ls.map sgL ++ [.non]), .dic []]
theorem format_odd {ls : List (List Nat)} (h : ∀ l ∈ ls, okL l = true) {x : D} (hx : x ∈ odds ls ++ odds2 ls) (q : X ⟨.ref C_InvalidWord, none⟩ m) : St (F_format_word [x] m) Q X := by
  refine format_no (fun Q X q => ?_) q
  simp only [List.cons_append, List.nil_append, List.mem_cons, List.not_mem_nil, or_false] at hx
  rcases hx with rfl | rfl | rfl | rfl | rfl | rfl | rfl | rfl | rfl | rfl | rfl | rfl
  · exact st_eq (b := .bl false) (m := m) (by kernel_rfl) q
  · exact st_eq (b := .bl false) (m := m) (by kernel_rfl) q
  · exact isword_snoc (by kernel_rfl) h q
  · exact isword_snoc (by kernel_rfl) h q
  · exact isword_snoc (by kernel_rfl) h q
  · exact st_eq (b := .bl false) (m := m) (by kernel_rfl) q
  · exact st_eq (b := .bl false) (m := m) (by kernel_rfl) q
  · exact st_eq (b := .bl false) (m := m) (by kernel_rfl) q
  · exact isword_snoc (by kernel_rfl) h q
  · exact isword_snoc (by kernel_rfl) h q
  · exact isword_snoc (by kernel_rfl) h q
  · exact st_eq (b := .bl false) (m := m) (by kernel_rfl) q
abbrev odds3 (ls : List (List Nat)) : List D := [.non, .lst (ls.map sgL), .int 7, .tup [.str "!x"], .lst [.str "-"], .dic [], .bl true]
theorem parse_odd {ls : List (List Nat)} (h : ∀ l ∈ ls, okL l = true) {x : D} (hx : x ∈ odds3 ls) (q : X ⟨.ref C_ParseError, none⟩ m) : St (F_parse_word [x] m) Q X := by
  have go : gEqX m [x, .str "-"] = some (.bl false) → F_parts_in [x] m = .ex ⟨.ref C_ParseError, none⟩ m → St (F_parse_word [x] m) Q X := fun h1 h2 => by
    refine w_run ?_
    unfold m_parse_word
    refine s_seq (s_if (w_bE (w_e2 (w_var (d := x) rfl (w_c (w_op h1 ⟨_, rfl, ?_⟩))))))
    refine w_ifF rfl ?_
    refine s_nil ?_
    refine s_seq (s_set (w_n (w_cons (w_lc (w_it (w_call (w_cons (w_var (d := x) rfl (w_nil (st_ex h2 q))))))))))
  simp only [List.mem_cons, List.not_mem_nil, or_false] at hx
  rcases hx with rfl | rfl | rfl | rfl | rfl | rfl | rfl
  · exact go (by kernel_rfl) (by kernel_rfl)
  · refine go ?_ (by kernel_rfl)
    have g1 : Gd 2 (.lst (ls.map sgL)) := gd_lst fun d hd => by
      obtain ⟨l, hl, rfl⟩ := List.mem_map.mp hd
      exact sg_gd (h l hl)
    have g2 : Gd 2 (.str (Str.ofString "-")) := gd_str (by rw [s_da]; intro c hc; simp at hc; omega)
    have e := eq_gd (neg := false) (mem := m) g1 g2 (by decide)
    rw [eqD_lstS g1] at e
    unfold gEqX orG
    rw [e]
    rfl
  · exact go (by kernel_rfl) (by kernel_rfl)
  · exact go (by kernel_rfl) (by kernel_rfl)
  · exact go (by kernel_rfl) (by kernel_rfl)
  · exact go (by kernel_rfl) (by kernel_rfl)
  · exact go (by kernel_rfl) (by kernel_rfl)
theorem told_p : finR sNil (runH hs_told ⟨.ref C_ParseError, none⟩ (List.replicate N_told.length none) m) = .ok (.str "parse error") m := by kernel_rfl
theorem told_w : finR sNil (runH hs_told ⟨.ref C_InvalidWord, none⟩ (List.replicate N_told.length none) m) = .ok (.str "word error") m := by kernel_rfl
theorem told_o : finR sNil (runH hs_told ⟨.ref C_InvalidOperation, none⟩ (List.replicate N_told.length none) m) = .ok (.str "operation error") m := by kernel_rfl
theorem w_wtext {ls : List (List Nat)} (h : ∀ l ∈ ls, okL l = true) (hl : ls.length ≤ 100) {o0 : Option D} (q : Q (.str (mkS (wt ls))) m) :
    St (eIf (bE (e2 (pu (gEq true)) (eVar 1) (eTup (lNil)))) (eM tyS gJoin (eC (.str " ")) (lCons (eLc [3] (.n 3) (wIt (eVar 1)) (bYes) (eCall F_l_sign_text (lCons (eVar 3) (lNil)))) (lNil))) (eC (.str "-")) [o0, some (.tup (ls.map sgL)), none, none, none, none, none, none, none] m) Q X := by
  rw [s_sp]
  and_intros
  refine w_op (eq_gd (words_gd h) nil_gd (by decide)) ?_
  and_intros
  rw [eqD_nil (words_gd h), Bool.true_bne]
  refine w_ifB (fun h1 => ?_) (fun h1 => ?_)
  · have h1 : ls ≠ [] := by simpa using h1
    and_intros
    refine w_compA (fun l => .str (mkS l)) (fun l hl => ⟨_, rfl, ?_⟩) ?_
    · and_intros
      exact w_lsigntext (h l hl) ⟨rfl, rfl⟩
    and_intros
    rw [show (ls.map fun l => D.str (mkS l)) = (ls.map mkS).map D.str by rw [List.map_map]; rfl]
    refine w_joinB (by rw [List.length_map]; omega) (fun y hy => ?_) (by decide) ?_
    · obtain ⟨l, hl, rfl⟩ := List.mem_map.mp hy
      show l.length ≤ 500
      have := (ok_len (h l hl)).1
      omega
    · rw [join_sp]
      unfold wt at q
      rw [if_neg h1] at q
      exact q
  · and_intros
    have : ls = [] := by simpa using h1
    subst this
    rw [s_da]
    exact q
theorem wt_tx {ls : List (List Nat)} (hl : ls.length ≤ 5) (h : ∀ l ∈ ls, l.length ≤ 25 ∧ ∀ c ∈ l, c < 128) : Tx 150 (mkS (wt ls)) := by
  unfold wt
  by_cases e : ls = []
  · rw [if_pos e]
    exact ⟨by show 1 ≤ 150; decide, fun c hc => by simp at hc; omega⟩
  · rw [if_neg e]
    refine ⟨?_, fun c hc => ?_⟩
    · have := joinL_len (c := 32) ls fun l hl => (h l hl).1
      show (joinL 32 ls).length ≤ 150
      have : ls.length * 26 ≤ 5 * 26 := Nat.mul_le_mul_right _ hl
      omega
    · rcases joinL_mem ls hc with rfl | ⟨l, hl, hx⟩
      · decide
      · have := (h l hl).2 c hx
        omega
theorem words_rp {ls : List (List Nat)} (hl : ls.length ≤ 1000) (h : ∀ l ∈ ls, okL l = true) : Rp (.tup (ls.map sgL)) := by
  refine rp_tup (dp := 2) (b := 1000 * (2 * ((15 * 9 + 13) + 2) + 3 + 2) + 3) (sh_tup (dp := 1) (b := 2 * ((15 * 9 + 13) + 2) + 3) (n := 1000) (fun d hd => ?_) (by rw [List.length_map]; exact hl)) (by decide) (by decide)
  obtain ⟨l, hl, rfl⟩ := List.mem_map.mp hd
  obtain ⟨l1, _, l3, z, r, e, hn, hz⟩ := ok_len (h l hl)
  rw [e]
  refine sh_tup (dp := 0) (b := 15 * 9 + 13) (n := 2) (fun d hd => ?_) (Nat.le_refl _)
  simp at hd
  rcases hd with rfl | rfl
  · rcases hz with ⟨rfl, _⟩ | ⟨rfl, _⟩
    · exact sh_strO (by rw [← cl_len, show cl (Str.ofString "send") = [115, 101, 110, 100] by kernel_rfl]; decide) (by intro c hc; rw [show cl (Str.ofString "send") = [115, 101, 110, 100] by kernel_rfl] at hc; simp at hc; omega)
    · exact sh_strO (by rw [← cl_len, show cl (Str.ofString "take") = [116, 97, 107, 101] by kernel_rfl]; decide) (by intro c hc; rw [show cl (Str.ofString "take") = [116, 97, 107, 101] by kernel_rfl] at hc; simp at hc; omega)
  · exact sh_strO (by show r.length ≤ 9; have := (nm_len hn).2.1; omega) (fun c hc => by have := (nm_len hn).2.2 c hc; omega)
end
end K70


namespace K70
open PySem L2 Mx
theorem rng_at {lo : Int} {c j : Nat} {d : D} (h : (rangeD lo c)[j]? = some d) : d = .int (lo + (j : Nat)) ∧ j < c := by
  unfold rangeD at h
  rw [List.getElem?_map] at h
  obtain ⟨i, hi, rfl⟩ := Option.map_eq_some_iff.mp h
  obtain ⟨h1, h2⟩ := List.getElem?_eq_some_iff.mp hi
  rw [List.getElem_range] at h2
  subst h2
  exact ⟨rfl, by simpa using h1⟩
/-- what the parser is told to say of a text -/
def duW (l : List Nat) : D := match pw l with
  | some ds => .tup ds
  | none => .str "parse error"
theorem sg_all {l : List Nat} (h : okL l = true) : sgL l ≠ .non := fun e => by
  unfold okL at h
  rw [e] at h
  cases h
theorem du_rp {t : Str} (ht : Tx 500 t) : Rp (duW (cl t)) := by
  unfold duW
  cases e : pw (cl t) with
  | none => exact ⟨"'parse error'", fun mem => by kernel_rfl⟩
  | some ds =>
    unfold pw at e
    split at e
    · cases e
      exact words_rp (ls := []) (by decide) (fun l hl => by cases hl)
    · split at e
      · rename_i ha
        cases e
        refine words_rp ?_ (List.all_eq_true.mp ha)
        have := spl_count 32 (cl t)
        rw [cl_len] at this
        have := ht.1
        omega
      · cases e
section
variable {n k : Nat} {b m : Mem} {Q : D → Mem → Prop} {X : Ex → Mem → Prop}
theorem ne_same {t : Str} : (true != decide (t = t)) = false := by simp
theorem w_words (h : Sv n k b m) (hk : k + 400 < 900000) (t0 : b[0]? = some (.tab P_words_right q_words_right)) (n0 : 0 ≠ n) (q : ∀ m', Sv n (k + 400) b m' → Q (.bl true) m') : St (F_words_right [.ref n] m) Q X := by
  refine w_run ?_
  unfold m_words_right
  refine s_seq (s_set (w_call (w_cons (w_var rfl (w_nil ?_)))))
  refine w_word h (by omega) fun ls m1 hl hok h1 => ?_
  refine s_seq (s_set (w_wtext hok (by omega) ?_))
  have tx : Tx 150 (mkS (wt ls)) := wt_tx hl fun l hl => by
    obtain ⟨a1, _, a3, _⟩ := ok_len (hok l hl)
    exact ⟨by omega, a3⟩
  have txl := tx.1
  obtain ⟨tt, htt⟩ := rp_str (x := mkS (wt ls)) (by omega) tx.2
  obtain ⟨tw, htw⟩ := words_rp (by omega) hok
  and_intros
  refine format_w hok (by omega) ?_
  and_intros
  refine w_rep htt ?_
  and_intros
  refine w_rep htt ?_
  and_intros
  rw [ne_same]
  and_intros
  refine parse_w (by omega) (fun ds hd => ?_) (fun hd => ?_)
  · rw [cl_mk, pw_wt hok] at hd
    cases hd
    and_intros
    refine w_rep htw ?_
    and_intros
    refine w_rep htw ?_
    and_intros
    rw [ne_same]
    and_intros
    refine ⟨by decide, ?_⟩
    show Ss (loop _ _ (fun _ => true) (rangeD 0 8) [some (.ref n), some (.tup (ls.map sgL)), some (.str (mkS (wt ls))), none, none, none, none, none, none] m1) _
    refine s_loop (fun j l m => (∃ o4 o5 o6, l = [some (.ref n), some (.tup (ls.map sgL)), some (.str (mkS (wt ls))), none, o4, o5, o6, none, none]) ∧ Sv n (k + 200 + 4 * j) b m) ⟨⟨none, none, none, rfl⟩, h1⟩ (fun j d loc m hd hI => ?_) (fun loc m hI => ?_)
    · obtain ⟨⟨o4, o5, o6, rfl⟩, h2⟩ := hI
      obtain ⟨rfl, j8⟩ := rng_at hd
      refine ⟨_, rfl, ?_⟩
      and_intros
      refine w_bent tx h2 (by omega) fun y m2 hy h3 => ?_
      have ly := hy.1
      obtain ⟨td, htd⟩ := du_rp hy
      and_intros
      have go : ∀ r x6, (pw (cl y) = none ∧ x6 = .non) ∨ (∃ ds, pw (cl y) = some ds ∧ x6 = .tup ds) → Ss (sIf (bE (e2 (pu (gEq true)) (eN (pu gRep) (lCons (eLam 0 P_words_right q_words_right (eCall F_parse_word (lCons (eVar 5) lNil)) kRet hs_told N_told.length sNil) lNil)) (eN (pu gRep) (lCons (eIf (bE (e2 (pu (gIsA false)) (eVar 6) (eC D.non))) (eC (D.str "parse error")) (eVar 6)) lNil)))) (sRet (eC (D.bl false))) sNil [some (.ref n), some (.tup (ls.map sgL)), some (.str (mkS (wt ls))), none, some (.int (0 + (j : Nat))), some (.str y), some x6, none, none] (m2 ++ r)) (goOn fun l m => (∃ o4 o5 o6, l = [some (.ref n), some (.tup (ls.map sgL)), some (.str (mkS (wt ls))), none, o4, o5, o6, none, none]) ∧ Sv n (k + 200 + 4 * (j + 1)) b m) := by
        intro r x6 h6
        have h4 := h3.app r
        and_intros
        refine w_lam (h4.get n0 t0) ?_
        and_intros
        refine parse_w (by omega) (fun ds hd => ?_) (fun hd => ?_)
        · rcases h6 with ⟨e, _⟩ | ⟨ds', e, rfl⟩
          · rw [e] at hd; cases hd
          · rw [e] at hd
            cases hd
            have ed : duW (cl y) = .tup ds := by unfold duW; rw [e]
            rw [ed] at htd
            show St (ofP (pu gRep _ [.tup ds])) _ _
            refine w_rep htd ?_
            and_intros
            refine w_rep htd ?_
            and_intros
            rw [ne_same]
            and_intros
            exact ⟨⟨_, _, _, rfl⟩, h4.mono (by omega)⟩
        · rcases h6 with ⟨e, rfl⟩ | ⟨ds', e, _⟩
          · have ed : duW (cl y) = .str "parse error" := by unfold duW; rw [e]
            rw [ed] at htd
            refine st_eq told_p ?_
            refine w_nil (w_rep htd ?_)
            and_intros
            refine w_rep htd ?_
            and_intros
            rw [ne_same]
            and_intros
            exact ⟨⟨_, _, _, rfl⟩, h4.mono (by omega)⟩
          · rw [e] at hd; cases hd
      refine read_w (by omega) hy.2 (fun ds r hd => ?_) (fun r hd => ?_)
      · exact (go r (.tup ds) (.inr ⟨ds, hd, rfl⟩)).on fun l m z => z
      · exact (go r .non (.inl ⟨hd, rfl⟩)).on fun l m z => z
    · obtain ⟨⟨o4, o5, o6, rfl⟩, h2⟩ := hI
      have h2 : Sv n (k + 232) b m := h2
      and_intros
      refine w_one (ds := odds ls ++ odds2 ls) h2 (by omega) (by show 0 < 12; decide) (by show 12 < 9000; decide) fun x m2 hx h3 => ?_
      and_intros
      refine w_lam (h3.get n0 t0) ?_
      and_intros
      refine format_odd hok hx ?_
      refine st_eq told_w ?_
      and_intros
      refine w_lam (h3.get n0 t0) ?_
      and_intros
      refine w_one (ds := odds3 ls) h3 (by omega) (by show 0 < 7; decide) (by show 7 < 9000; decide) fun x m3 hx h4 => ?_
      and_intros
      refine parse_odd hok hx ?_
      refine st_eq told_p ?_
      and_intros
      rw [show (false != decide (Str.ofString "parse error" = Str.ofString "parse error")) = true by simp]
      exact q m3 (h4.mono (by omega))
  · rw [cl_mk, pw_wt hok] at hd
    cases hd
end
end K70


namespace K70
open PySem L2 Mx
theorem mds_gd {ls : List (List Nat × Nat)} (h : ∀ p ∈ ls, nmL p.1 = true ∧ p.2 < 90) : Gd 2 (.tup (ls.map md)) := moves_gd h
theorem mvs_rp {ls : List D} (hl : ls.length ≤ 1000) (h : ∀ d ∈ ls, ∃ p : List Nat × Int, nmL p.1 = true ∧ 0 ≤ p.2 ∧ p.2 < 90 ∧ d = .tup [.str (mkS p.1), .int p.2]) : Rp (.tup ls) := by
  refine rp_tup (dp := 2) (b := 1000 * (2 * ((15 * 9 + 13) + 2) + 3 + 2) + 3) (sh_tup (dp := 1) (b := 2 * ((15 * 9 + 13) + 2) + 3) (n := 1000) (fun d hd => ?_) hl) (by decide) (by decide)
  obtain ⟨p, hn, p0, p9, rfl⟩ := h d hd
  refine sh_tup (dp := 0) (b := 15 * 9 + 13) (n := 2) (fun d hd => ?_) (Nat.le_refl _)
  simp at hd
  rcases hd with rfl | rfl
  · exact sh_strO (by show p.1.length ≤ 9; have := (nm_len hn).2.1; omega) (fun c hc => by have := (nm_len hn).2.2 c hc; omega)
  · exact (sh_int (by omega)).mono (Nat.le_refl _) (by decide)
def duM (l : List Nat) : D := match pm l with
  | some ds => .tup ds
  | none => .str "parse error"
theorem dum_rp {t : Str} (ht : Tx 500 t) : Rp (duM (cl t)) := by
  unfold duM
  cases e : pm (cl t) with
  | none => exact ⟨"'parse error'", fun mem => by kernel_rfl⟩
  | some ds =>
    unfold pm at e
    split at e
    · cases e
      exact mvs_rp (by decide) (fun l hl => by cases hl)
    · split at e
      · rename_i ha
        cases e
        refine mvs_rp ?_ fun d hd => ?_
        · rw [List.length_map]
          have := spl_count 32 (cl t)
          rw [cl_len] at this
          have := ht.1
          omega
        · obtain ⟨l, hl, rfl⟩ := List.mem_map.mp hd
          obtain ⟨i, e1, e2, e3, e4⟩ := mv_yes (List.all_eq_true.mp ha l hl)
          exact ⟨(pL l, i), e3, numL_nn e1, e2, e4⟩
      · cases e
theorem md_rp {ls : List (List Nat × Nat)} (hl : ls.length ≤ 1000) (h : ∀ p ∈ ls, nmL p.1 = true ∧ p.2 < 90) : Rp (.tup (ls.map md)) := mvs_rp (by rw [List.length_map]; exact hl) fun d hd => by
  obtain ⟨p, hp, rfl⟩ := List.mem_map.mp hd
  exact ⟨(p.1, (p.2 : Nat)), (h p hp).1, by show 0 ≤ ((p.2 : Nat) : Int); omega, by show ((p.2 : Nat) : Int) < 90; have := (h p hp).2; omega, rfl⟩
section
variable {n k : Nat} {b m : Mem} {Q : D → Mem → Prop} {X : Ex → Mem → Prop}
theorem w_mtext2 {ls : List (List Nat × Nat)} (h : ∀ p ∈ ls, nmL p.1 = true ∧ p.2 < 90) (hl : ls.length ≤ 100) {o0 : Option D} (q : Q (.str (mkS (wt (ls.map mt)))) m) :
    St (eIf (bE (e2 (pu (gEq true)) (eVar 1) (eTup (lNil)))) (eM tyS gJoin (eC (.str " ")) (lCons (eLc [3, 4] (.t [.n 3, .n 4]) (wIt (eVar 1)) (bYes) (eJ [e1 (pu gFmt) (eVar 3), eC (.str "."), e1 (pu gFmt) (eVar 4)] Str.empty)) (lNil))) (eC (.str "-")) [o0, some (.tup (ls.map md)), none, none, none, none, none, none, none, none, none] m) Q X := by
  rw [s_sp]
  and_intros
  refine w_op (eq_gd (moves_gd h) nil_gd (by decide)) ?_
  and_intros
  rw [eqD_nil (moves_gd h), Bool.true_bne]
  refine w_ifB (fun h1 => ?_) (fun h1 => ?_)
  · have h1 : ls ≠ [] := by simpa using h1
    and_intros
    refine w_compA (fun p => .str (mkS (mt p))) (fun p hp => ⟨_, rfl, ?_⟩) ?_
    · exact w_mt (h p hp) rfl rfl ⟨rfl, rfl⟩
    and_intros
    rw [show (ls.map fun p => D.str (mkS (mt p))) = ((ls.map mt).map mkS).map D.str by rw [List.map_map, List.map_map]; rfl]
    refine w_joinB (by rw [List.length_map, List.length_map]; omega) (fun y hy => ?_) (by decide) ?_
    · obtain ⟨l, hl, rfl⟩ := List.mem_map.mp hy
      obtain ⟨p, hp, rfl⟩ := List.mem_map.mp hl
      show (mt p).length ≤ 500
      have := (mt_len (h p hp)).1
      omega
    · rw [join_sp]
      unfold wt at q
      rw [if_neg (by simpa using h1)] at q
      exact q
  · and_intros
    have : ls = [] := by simpa using h1
    subst this
    rw [s_da]
    exact q
abbrev oddm : List D := [.tup [.str "a", .int 90], .tup [.str "a", .int (-1)], .tup [.str "a", .bl true], .tup [.str "a", .non], .tup [.str "a"], .tup [.str "A", .int 0], .tup [.str "", .int 0], .lst [.str "a", .int 0], .non, .tup [.str "a", .str "0"]]
theorem oddm_no : ∀ x ∈ oddm, ∀ m, F_is_move [x] m = .ok (.bl false) m := by
  intro x hx m
  simp only [List.mem_cons, List.not_mem_nil, or_false] at hx
  rcases hx with rfl | rfl | rfl | rfl | rfl | rfl | rfl | rfl | rfl | rfl <;> kernel_rfl
theorem fm_odd {ls : List (List Nat × Nat)} (h : ∀ p ∈ ls, nmL p.1 = true ∧ p.2 < 90) {x : D} (hx : x ∈ (oddm.map fun y => D.tup (ls.map md ++ [y])) ++ [.lst (ls.map md), .non, .dic [], .str "a.0"]) (q : X ⟨.ref C_InvalidOperation, none⟩ m) : St (F_format_moves [x] m) Q X := by
  have cl4 : F_format_moves [x] m = .ex ⟨.ref C_InvalidOperation, none⟩ m → St (F_format_moves [x] m) Q X := fun e => st_ex e q
  rcases List.mem_append.mp hx with hx | hx
  · obtain ⟨y, hy, rfl⟩ := List.mem_map.mp hx
    have e : ls.map md ++ [y] = (ls.map some ++ [none]).map fun o : Option (List Nat × Nat) => match o with | some l => md l | none => y := by
      rw [List.map_append, List.map_map]
      rfl
    rw [e]
    refine w_run ?_
    unfold m_format_moves
    and_intros
    refine w_compA (fun o => .bl o.isSome) (fun o ho => ⟨_, rfl, ?_⟩) ?_
    · and_intros
      cases o with
      | none => exact st_eq (oddm_no y hy m) ⟨rfl, rfl⟩
      | some l =>
        have hl : l ∈ ls := by simpa using ho
        exact ismove_md (h l hl) ⟨rfl, rfl⟩
    and_intros
    refine w_op (gall_map (f := Option.isSome)) ?_
    have e2 : List.all (ls.map some ++ [none]) Option.isSome = false := by simp
    rw [e2]
    and_intros
    exact q
  · simp only [List.mem_cons, List.not_mem_nil, or_false] at hx
    rcases hx with rfl | rfl | rfl | rfl
    · exact cl4 (by kernel_rfl)
    · exact cl4 (by kernel_rfl)
    · exact cl4 (by kernel_rfl)
    · exact cl4 (by kernel_rfl)
theorem w_movesR (h : Sv n k b m) (hk : k + 400 < 900000) (t0 : b[1]? = some (.tab P_moves_right q_moves_right)) (n0 : 1 ≠ n) (q : ∀ m', Sv n (k + 400) b m' → Q (.bl true) m') : St (F_moves_right [.ref n] m) Q X := by
  refine w_run ?_
  unfold m_moves_right
  refine s_seq (s_set (w_call (w_cons (w_var rfl (w_nil ?_)))))
  refine w_moves h (by omega) fun ls m1 hl hok h1 => ?_
  refine s_seq (s_set (w_mtext2 hok (by omega) ?_))
  have tx : Tx 150 (mkS (wt (ls.map mt))) := wt_tx (by rw [List.length_map]; exact hl) fun l hl => by
    obtain ⟨p, hp, rfl⟩ := List.mem_map.mp hl
    obtain ⟨a1, _, a3, _⟩ := mt_len (hok p hp)
    exact ⟨by omega, a3⟩
  have txl := tx.1
  obtain ⟨tt, htt⟩ := rp_str (x := mkS (wt (ls.map mt))) (by omega) tx.2
  obtain ⟨tw, htw⟩ := md_rp (by omega) hok
  and_intros
  refine format_m hok (by omega) ?_
  and_intros
  refine w_rep htt ?_
  and_intros
  refine w_rep htt ?_
  and_intros
  rw [ne_same]
  and_intros
  refine parse_m (by omega) tx.2 (fun ds hd => ?_) (fun hd => ?_)
  · rw [cl_mk, pm_mt hok] at hd
    cases hd
    and_intros
    refine w_rep htw ?_
    and_intros
    refine w_rep htw ?_
    and_intros
    rw [ne_same]
    and_intros
    refine ⟨by decide, ?_⟩
    show Ss (loop _ _ (fun _ => true) (rangeD 0 8) [some (.ref n), some (.tup (ls.map md)), some (.str (mkS (wt (ls.map mt)))), none, none, none, none, none, none, none, none] m1) _
    refine s_loop (fun j l m => (∃ o5 o6 o7, l = [some (.ref n), some (.tup (ls.map md)), some (.str (mkS (wt (ls.map mt)))), none, none, o5, o6, o7, none, none, none]) ∧ Sv n (k + 200 + 4 * j) b m) ⟨⟨none, none, none, rfl⟩, h1⟩ (fun j d loc m hd hI => ?_) (fun loc m hI => ?_)
    · obtain ⟨⟨o5, o6, o7, rfl⟩, h2⟩ := hI
      obtain ⟨rfl, j8⟩ := rng_at hd
      refine ⟨_, rfl, ?_⟩
      and_intros
      refine w_bent tx h2 (by omega) fun y m2 hy h3 => ?_
      have ly := hy.1
      obtain ⟨td, htd⟩ := dum_rp hy
      and_intros
      have go : ∀ r x6, (pm (cl y) = none ∧ x6 = .non) ∨ (∃ ds, pm (cl y) = some ds ∧ x6 = .tup ds) → Ss (sIf (bE (e2 (pu (gEq true)) (eN (pu gRep) (lCons (eLam 1 P_moves_right q_moves_right (eCall F_parse_moves (lCons (eVar 6) lNil)) kRet hs_told N_told.length sNil) lNil)) (eN (pu gRep) (lCons (eIf (bE (e2 (pu (gIsA false)) (eVar 7) (eC D.non))) (eC (D.str "parse error")) (eVar 7)) lNil)))) (sRet (eC (D.bl false))) sNil [some (.ref n), some (.tup (ls.map md)), some (.str (mkS (wt (ls.map mt)))), none, none, some (.int (0 + (j : Nat))), some (.str y), some x6, none, none, none] (m2 ++ r)) (goOn fun l m => (∃ o5 o6 o7, l = [some (.ref n), some (.tup (ls.map md)), some (.str (mkS (wt (ls.map mt)))), none, none, o5, o6, o7, none, none, none]) ∧ Sv n (k + 200 + 4 * (j + 1)) b m) := by
        intro r x6 h6
        have h4 := h3.app r
        and_intros
        refine w_lam (h4.get n0 t0) ?_
        and_intros
        refine parse_m (by omega) hy.2 (fun ds hd => ?_) (fun hd => ?_)
        · rcases h6 with ⟨e, _⟩ | ⟨ds', e, rfl⟩
          · rw [e] at hd; cases hd
          · rw [e] at hd
            cases hd
            have ed : duM (cl y) = .tup ds := by unfold duM; rw [e]
            rw [ed] at htd
            show St (ofP (pu gRep _ [.tup ds])) _ _
            refine w_rep htd ?_
            and_intros
            refine w_rep htd ?_
            and_intros
            rw [ne_same]
            and_intros
            exact ⟨⟨_, _, _, rfl⟩, h4.mono (by omega)⟩
        · rcases h6 with ⟨e, rfl⟩ | ⟨ds', e, _⟩
          · have ed : duM (cl y) = .str "parse error" := by unfold duM; rw [e]
            rw [ed] at htd
            refine st_eq told_p ?_
            refine w_nil (w_rep htd ?_)
            and_intros
            refine w_rep htd ?_
            and_intros
            rw [ne_same]
            and_intros
            exact ⟨⟨_, _, _, rfl⟩, h4.mono (by omega)⟩
          · rw [e] at hd; cases hd
      refine read_m (by omega) hy.2 (fun ds r hd => ?_) (fun r hd => ?_)
      · exact (go r (.tup ds) (.inr ⟨ds, hd, rfl⟩)).on fun l m z => z
      · exact (go r .non (.inl ⟨hd, rfl⟩)).on fun l m z => z
    · obtain ⟨⟨o5, o6, o7, rfl⟩, h2⟩ := hI
      have h2 : Sv n (k + 232) b m := h2
      refine s_seq (s_set ?_)
      and_intros
      refine w_comp (items := oddm) (fun y => .tup (ls.map md ++ [y])) (fun d hd => ⟨_, rfl, ?_⟩) ?_
      · and_intros
        rfl
      and_intros
      refine w_one h2 (by omega) (by show 0 < 14; decide) (by show 14 < 9000; decide) fun x m2 hx h3 => ?_
      and_intros
      refine w_lam (h3.get n0 t0) ?_
      and_intros
      refine fm_odd hok hx ?_
      refine st_eq told_o ?_
      and_intros
      rw [show (false != decide (Str.ofString "operation error" = Str.ofString "operation error")) = true by simp]
      exact q m2 (h3.mono (by omega))
  · rw [cl_mk, pm_mt hok] at hd
    cases hd
end
end K70


namespace K70
open PySem L2 Mx
theorem mulS {x : Str} {k : Nat} {mem : Mem} (hx : x.length = 1) (hk : k ≤ 10000) : gMulA mem [.str x, .int (k : Nat)] = some (.str (repS x (k : Nat))) := by
  have e1 : gMul mem [.str x, .int (k : Nat)] = none := rfl
  unfold gMulA orG
  rw [e1]
  dsimp only [gMulS]
  rw [if_pos ⟨by omega, by omega, by rw [hx]; show 1 * ((k : Nat) : Int).toNat ≤ 1000000; rw [Int.toNat_natCast]; omega⟩]
theorem rep_cl {x : Str} {c k : Nat} (hx : cl x = [c]) : cl (repS x (k : Nat)) = List.replicate k c := by
  show (repS x (k : Nat)).cps.toList = _
  rw [repS_tl, show x.cps.toList = [c] from hx, Int.toNat_natCast]
  induction k with
  | zero => rfl
  | succ k ih => rw [List.replicate_succ, List.flatten_cons, ih, List.replicate_succ]; rfl
theorem mem_rep {a b N : Nat} (h : a ∈ List.replicate N b) : a = b := (List.mem_replicate.mp h).2
theorem great_m {l : List Nat} {N : Nat} (hN : 3 ≤ N) (h : l = 97 :: 46 :: List.replicate N 57) : pm l = none := by
  have n32 : 32 ∉ l := by
    rw [h]
    intro hm
    rcases List.mem_cons.mp hm with e | hm
    · omega
    · rcases List.mem_cons.mp hm with e | hm
      · omega
      · have := mem_rep hm; omega
  have q : qL l = List.replicate N 57 := by
    rw [h]
    exact (pq_dot (p := [97]) (r := List.replicate N 57) (by decide)).2
  unfold pm
  rw [if_neg (by rw [h]; intro e; cases e), spl_free l n32, if_neg]
  have : okM l = false := by
    unfold okM
    rw [q]
    have : numL (List.replicate N 57) = none := by
      obtain ⟨M, rfl⟩ : ∃ M, N = M + 1 + 1 + 1 := ⟨N - 3, by omega⟩
      rw [List.replicate_succ, List.replicate_succ, List.replicate_succ]
      rfl
    rw [this]
    simp [lt90]
  rw [List.all_cons, this]
  exact Bool.false_ne_true
theorem great_w {l : List Nat} {N : Nat} (hN : 9 ≤ N) (h : l = 33 :: List.replicate N 120) : pw l = none := by
  have n32 : 32 ∉ l := by
    rw [h]
    intro hm
    rcases List.mem_cons.mp hm with e | hm
    · omega
    · have := mem_rep hm; omega
  unfold pw
  rw [if_neg (by rw [h]; intro e; cases e), spl_free l n32, if_neg]
  have : okL l = false := by
    rw [h]
    have : nmL (List.replicate N 120) = false := by
      unfold nmL
      rw [List.length_replicate, decide_eq_false (p := N ≤ 8) (by omega)]
      simp
    have key : ∀ r, nmL r = false → okL (33 :: r) = false := by
      intro r hr
      simp [okL, sgL, hr]
    exact key _ this
  rw [List.all_cons, this]
  exact Bool.false_ne_true
theorem s_9 : (Str.ofString "9") = ⟨#[57]⟩ := by kernel_rfl
theorem s_x : (Str.ofString "x") = ⟨#[120]⟩ := by kernel_rfl
theorem s_ad : (Str.ofString "a.") = ⟨#[97, 46]⟩ := by kernel_rfl
def restN (N : Int) : S1 := sSeq (sSet 3 (e2 (pu gAdd) (eC (.str "a.")) (e2 (pu gMulA) (eC (.str "9")) (eC (.int N))))) (sSeq (sSet 4 (eLst (lCons (eLam 2 P_law q_law (eCall F_parse_moves (lCons (eVar 3) (lNil))) kRet hs_told N_told.length (sNil)) (lNil)))) (sSeq (sFor (.n 5) (wIt (eTup (lCons (eC (.str "a.+1")) (lCons (eC (.str "a.-1")) (lCons (eC (.str "a. 1")) (lCons (eC (.str "a.1 ")) (lCons (eC (.str "a.1_0")) (lNil)))))))) (sIf (bE (e2 (pu (gEq true)) (eLam 2 P_law q_law (eCall F_parse_moves (lCons (eVar 5) (lNil))) kRet hs_told N_told.length (sNil)) (eC (.str "parse error")))) (sRet (eC (.bl false))) (sNil))) (sSeq (sSet 4 (e2 (pu gAdd) (eVar 4) (eLst (lCons (eLam 2 P_law q_law (eCall F_parse_moves (lCons (eC (.str "a.089")) (lNil))) kRet hs_told N_told.length (sNil)) (lCons (eCall F_parse_moves (lCons (eC (.str "a.89 b.0")) (lNil))) (lNil)))))) (sSeq (sSet 4 (e2 (pu gAdd) (eVar 4) (eLst (lCons (eLam 2 P_law q_law (eCall F_parse_word (lCons (e2 (pu gAdd) (eC (.str "!")) (e2 (pu gMulA) (eC (.str "x")) (eC (.int N)))) (lNil))) kRet hs_told N_told.length (sNil)) (lCons (eCall F_parse_word (lCons (eC (.str "!x ?x !abcdefgh")) (lNil))) (lNil)))))) (sSeq (sSet 6 (eLst (lCons (eC (.str "parse error")) (lCons (eC (.str "parse error")) (lCons (eTup (lCons (eTup (lCons (eC (.str "a")) (lCons (eC (.int 89)) (lNil)))) (lCons (eTup (lCons (eC (.str "b")) (lCons (eC (.int 0)) (lNil)))) (lNil)))) (lCons (eC (.str "parse error")) (lNil))))))) (sRet (e2 (pu (gEq false)) (eVar 4) (e2 (pu gAdd) (eVar 6) (eLst (lCons (eTup (lCons (eTup (lCons (eC (.str "send")) (lCons (eC (.str "x")) (lNil)))) (lCons (eTup (lCons (eC (.str "take")) (lCons (eC (.str "x")) (lNil)))) (lCons (eTup (lCons (eC (.str "send")) (lCons (eC (.str "abcdefgh")) (lNil)))) (lNil))))) (lNil)))))))))))
section
variable {m : Mem} {Q : D → Mem → Prop} {X : Ex → Mem → Prop}
abbrev lL (ns : List Int) (o1 o2 o3 o4 o5 o6 : Option D) : Mx.Env := [some (.scr (ns.map .int)), o1, o2, o3, o4, o5, o6]
theorem tt {m : Mem} {g : Str} (l : g.length ≤ 1000000) (s : sOk g) (p : pm (cl g) = none) : F_parse_moves [.str g] m = .ex ⟨.ref C_ParseError, none⟩ m := by
  have : St (F_parse_moves [.str g] m) (fun _ _ => False) (fun e m' => e = ⟨.ref C_ParseError, none⟩ ∧ m' = m) := parse_m l s (fun ds hd => by rw [p] at hd; cases hd) (fun _ => ⟨rfl, rfl⟩)
  exact st_ex_eq this
theorem tt2 {m : Mem} {g : Str} (l : g.length ≤ 1000000) (p : pw (cl g) = none) : F_parse_word [.str g] m = .ex ⟨.ref C_ParseError, none⟩ m := by
  have : St (F_parse_word [.str g] m) (fun _ _ => False) (fun e m' => e = ⟨.ref C_ParseError, none⟩ ∧ m' = m) := parse_w l (fun ds hd => by rw [p] at hd; cases hd) (fun _ => ⟨rfl, rfl⟩)
  exact st_ex_eq this
theorem w_end0 {N : Int} {ns : List Int} {o1 o2 : Option D} {g1 g2 g3 g4 : Str} (mu1 : ∀ m, gMulA m [.str "9", .int N] = some (.str g3)) (mu2 : ∀ m, gMulA m [.str "x", .int N] = some (.str g4)) (ad1 : ∀ m, gAdd m [.str "a.", .str g3] = some (.str g1)) (ad2 : ∀ m, gAdd m [.str "!", .str g4] = some (.str g2))
    (pa1 : F_parse_moves [.str g1] m = .ex ⟨.ref C_ParseError, none⟩ m) (pa2 : F_parse_word [.str g2] m = .ex ⟨.ref C_ParseError, none⟩ m) (t2 : m[2]? = some (.tab P_law q_law)) (q : Q (.bl true) m) :
    Ss (restN N (lL ns o1 o2 none none none none) m) { nx := fun _ m => Q .non m, rt := Q, ex := X } := by
  have bad : ∀ (x : Str) (loc : Mx.Env), loc[5]? = some (some (.str x)) → F_parse_moves [.str x] m = .ex ⟨.ref C_ParseError, none⟩ m → ∀ P : Po, P.nx loc m → Ss (sIf (bE (e2 (pu (gEq true)) (eLam 2 P_law q_law (eCall F_parse_moves (lCons (eVar 5) (lNil))) kRet hs_told N_told.length (sNil)) (eC (.str "parse error")))) (sRet (eC (.bl false))) (sNil) loc m) P := by
    intro x loc hx he P hp
    with_reducible refine s_if (w_bE (w_e2 (w_lam t2 (w_call (w_cons (w_var hx (w_nil (st_ex he ?_))))))))
    refine st_eq told_p ?_
    with_reducible refine w_c ?_
    refine w_op (z := .bl false) (by kernel_rfl) ⟨_, rfl, ?_⟩
    exact hp
  unfold restN
  with_reducible refine s_seq <| s_set <| w_e2 <| w_c <| w_e2 <| w_c <| w_c <| w_op (mu1 _) <| w_op (ad1 _) ?_
  with_reducible refine s_seq <| s_set <| w_lst <| w_cons <| w_lam t2 <| w_call <| w_cons ?_
  refine w_var (d := .str g1) rfl ?_
  with_reducible refine w_nil <| st_ex pa1 <| st_eq told_p <| w_nil ?_
  with_reducible refine s_seq <| s_for <| w_it <| w_tup <| w_cons <| w_c <| w_cons <| w_c <| w_cons <| w_c <| w_cons <| w_c <| w_cons <| w_c <| w_nil ?_
  refine ⟨_, rfl, ?_⟩
  refine s_loop1 (asg := [(5, .str "a.+1")]) rfl rfl (bad "a.+1" _ rfl (by kernel_rfl) _ ?_)
  refine s_loop1 (asg := [(5, .str "a.-1")]) rfl rfl (bad "a.-1" _ rfl (by kernel_rfl) _ ?_)
  refine s_loop1 (asg := [(5, .str "a. 1")]) rfl rfl (bad "a. 1" _ rfl (by kernel_rfl) _ ?_)
  refine s_loop1 (asg := [(5, .str "a.1 ")]) rfl rfl (bad "a.1 " _ rfl (by kernel_rfl) _ ?_)
  refine s_loop1 (asg := [(5, .str "a.1_0")]) rfl rfl (bad "a.1_0" _ rfl (by kernel_rfl) _ ?_)
  with_reducible refine s_loop0 ?_ ?_
  · rfl
  with_reducible refine s_seq <| s_set <| w_e2 ?_
  refine w_var (d := .lst [.str "parse error"]) rfl ?_
  with_reducible refine w_lst <| w_cons <| w_lam t2 <| w_call <| w_cons <| w_c <| w_nil ?_
  refine st_ex (e := ⟨.ref C_ParseError, none⟩) (m := m) (by kernel_rfl) ?_
  refine st_eq told_p ?_
  with_reducible refine w_cons <| w_call <| w_cons <| w_c <| w_nil ?_
  refine st_eq (b := .tup [.tup [.str "a", .int 89], .tup [.str "b", .int 0]]) (m := m) (by kernel_rfl) ?_
  with_reducible refine w_nil ?_
  refine w_op rfl ?_
  with_reducible refine s_seq <| s_set <| w_e2 ?_
  refine w_var (d := .lst [.str "parse error", .str "parse error", .tup [.tup [.str "a", .int 89], .tup [.str "b", .int 0]]]) rfl ?_
  with_reducible refine w_lst <| w_cons <| w_lam t2 <| w_call <| w_cons <| w_e2 <| w_c <| w_e2 <| w_c <| w_c <| w_op (mu2 _) <| w_op (ad2 _) ?_
  with_reducible refine w_nil <| st_ex pa2 <| st_eq told_p ?_
  with_reducible refine w_cons <| w_call <| w_cons <| w_c <| w_nil ?_
  refine st_eq (b := .tup [.tup [.str "send", .str ⟨#[120]⟩], .tup [.str "take", .str ⟨#[120]⟩], .tup [.str "send", .str "abcdefgh"]]) (m := m) (by kernel_rfl) ?_
  with_reducible refine w_nil ?_
  refine w_op rfl ?_
  with_reducible refine s_seq <| s_set ?_
  and_intros
  refine w_op (z := .bl true) (by kernel_rfl) ?_
  exact q
theorem w_end {N : Nat} (h9 : 9 ≤ N) (h5 : N ≤ 5000) {ns : List Int} {o1 o2 : Option D} (t2 : m[2]? = some (.tab P_law q_law)) (q : Q (.bl true) m) :
    Ss (restN N (lL ns o1 o2 none none none none) m) { nx := fun _ m => Q .non m, rt := Q, ex := X } := by
  have lm : ∀ N : Nat, (repS ⟨#[57]⟩ (N : Nat)).length = N := fun N => by rw [← cl_len, rep_cl (c := 57) rfl, List.length_replicate]
  have lx : ∀ N : Nat, (repS ⟨#[120]⟩ (N : Nat)).length = N := fun N => by rw [← cl_len, rep_cl (c := 120) rfl, List.length_replicate]
  have c1 : ∀ N : Nat, cl ((⟨#[97, 46]⟩ : Str) ++ repS ⟨#[57]⟩ (N : Nat)) = 97 :: 46 :: List.replicate N 57 := fun N => by rw [cl_app, rep_cl (c := 57) rfl]; rfl
  have c2 : ∀ N : Nat, cl ((⟨#[33]⟩ : Str) ++ repS ⟨#[120]⟩ (N : Nat)) = 33 :: List.replicate N 120 := fun N => by rw [cl_app, rep_cl (c := 120) rfl]; rfl
  have so1 : ∀ N : Nat, sOk ((⟨#[97, 46]⟩ : Str) ++ repS ⟨#[57]⟩ (N : Nat)) := fun N => by
    intro c hc
    rw [c1] at hc
    rcases List.mem_cons.mp hc with e | hc
    · omega
    · rcases List.mem_cons.mp hc with e | hc
      · omega
      · have := mem_rep hc; omega
  have k1 : (⟨#[97, 46]⟩ : Str).length = 2 := rfl
  have k2 : (⟨#[33]⟩ : Str).length = 1 := rfl
  have all : ∀ N : Nat, 9 ≤ N → N ≤ 5000 → ∃ g1 g2 g3 g4 : Str, (∀ m, gMulA m [.str "9", .int (N : Nat)] = some (.str g3)) ∧ (∀ m, gMulA m [.str "x", .int (N : Nat)] = some (.str g4)) ∧ (∀ m, gAdd m [.str "a.", .str g3] = some (.str g1)) ∧ (∀ m, gAdd m [.str "!", .str g4] = some (.str g2)) ∧ F_parse_moves [.str g1] m = .ex ⟨.ref C_ParseError, none⟩ m ∧ F_parse_word [.str g2] m = .ex ⟨.ref C_ParseError, none⟩ m := fun N h9 h5 =>
    ⟨(⟨#[97, 46]⟩ : Str) ++ repS ⟨#[57]⟩ (N : Nat), (⟨#[33]⟩ : Str) ++ repS ⟨#[120]⟩ (N : Nat), repS ⟨#[57]⟩ (N : Nat), repS ⟨#[120]⟩ (N : Nat),
      fun m => by rw [s_9]; exact mulS rfl (by omega), fun m => by rw [s_x]; exact mulS rfl (by omega), fun m => by rw [s_ad]; exact add_str (by rw [lm, k1]; omega), fun m => by rw [s_ex]; exact add_str (by rw [lx, k2]; omega),
      tt (by rw [Str.length_append, lm, k1]; omega) (so1 N) (great_m (by omega) (c1 N)), tt2 (by rw [Str.length_append, lx, k2]; omega) (great_w h9 (c2 N))⟩
  obtain ⟨g1, g2, g3, g4, a1, a2, a3, a4, a5, a6⟩ := all N h9 h5
  exact w_end0 a1 a2 a3 a4 a5 a6 t2 q
end
end K70


namespace K70
open PySem L2 Mx
abbrev tabs : Mem := [.tab P_words_right q_words_right, .tab P_moves_right q_moves_right, .tab P_law q_law]
theorem lt_of_get {m : Mem} {i : Nat} {c : Cell} (h : m[i]? = some c) : i < m.length := (List.getElem?_eq_some_iff.mp h).1
theorem m_law_is : m_law = sSeq (sFor (.n 1) (wRange1 (lCons (eN (pu gMax2) (lCons (eC (.int 1)) (lCons (eN (pu gMin2) (lCons (eC (.int 5)) (lCons (eN (pu gLen) (lCons (eVar 0) (lNil))) (lNil)))) (lNil)))) (lNil))) (sSeq (sSet 2 (eCall F_dice (lCons (eVar 0) (lCons (eVar 1) (lNil))))) (sIf (bOr (bNot (bE (eCall F_words_right (lCons (eVar 2) (lNil))))) (bNot (bE (eCall F_moves_right (lCons (eVar 2) (lNil)))))) (sRet (eC (.bl false))) (sNil)))) (restN ((5000 : Nat) : Int)) := rfl
theorem w_end_all (N : Nat) (h9 : 9 ≤ N) (h5 : N ≤ 5000) : ∀ (ns : List Int) (o1 o2 : Option D) (m : Mem) (Q : D → Mem → Prop) (X : Ex → Mem → Prop), m[2]? = some (.tab P_law q_law) → Q (.bl true) m → Ss (restN (N : Int) (lL ns o1 o2 none none none none) m) { nx := fun _ m => Q .non m, rt := Q, ex := X } := fun ns o1 o2 m Q X t2 q => w_end h9 h5 t2 q
theorem wantS {ns : List Int} (R : S1) (hR : ∀ (ns : List Int) (o1 o2 : Option D) (m : Mem) (Q : D → Mem → Prop) (X : Ex → Mem → Prop), m[2]? = some (.tab P_law q_law) → Q (.bl true) m → Ss (R (lL ns o1 o2 none none none none) m) { nx := fun _ m => Q .non m, rt := Q, ex := X }) : St (runB N_law.length (sSeq (sFor (.n 1) (wRange1 (lCons (eN (pu gMax2) (lCons (eC (.int 1)) (lCons (eN (pu gMin2) (lCons (eC (.int 5)) (lCons (eN (pu gLen) (lCons (eVar 0) (lNil))) (lNil)))) (lNil)))) (lNil))) (sSeq (sSet 2 (eCall F_dice (lCons (eVar 0) (lCons (eVar 1) (lNil))))) (sIf (bOr (bNot (bE (eCall F_words_right (lCons (eVar 2) (lNil))))) (bNot (bE (eCall F_moves_right (lCons (eVar 2) (lNil)))))) (sRet (eC (.bl false))) (sNil)))) R) [.scr (ns.map .int)] tabs) (fun d _ => d = .bl true) No := by
  refine w_run ?_
  with_reducible refine s_seq ?_
  with_reducible refine s_for ?_
  refine w_cells (c := 5) (ds := ns.map .int) rfl (by decide) (by decide) fun j hj => ?_
  show Ss (loop _ _ (fun _ => true) (rangeD 0 j) (lL ns none none none none none none) tabs) _
  refine s_loop (fun _ l m => (∃ o1 o2, l = lL ns o1 o2 none none none none) ∧ (m[0]? = some (.tab P_words_right q_words_right) ∧ m[1]? = some (.tab P_moves_right q_moves_right) ∧ m[2]? = some (.tab P_law q_law))) ⟨⟨none, none, rfl⟩, rfl, rfl, rfl⟩ (fun i d loc m hd hI => ?_) (fun loc m hI => ?_)
  · obtain ⟨⟨o1, o2, rfl⟩, t0, t1, t2⟩ := hI
    obtain ⟨rfl, ij⟩ := rng_at hd
    rw [Int.zero_add]
    have l2 := lt_of_get t2
    refine ⟨_, rfl, ?_⟩
    with_reducible refine s_seq <| s_set <| w_call <| w_cons ?_
    refine w_var (d := .scr (ns.map .int)) rfl ?_
    with_reducible refine w_cons ?_
    refine w_var (d := .int (i : Nat)) rfl ?_
    with_reducible refine w_nil ?_
    refine w_diceF (ns := ns) (k := i) (by omega) fun m1 h1 => ?_
    with_reducible refine s_if <| w_bOr <| w_bNot <| w_bE <| w_call <| w_cons ?_
    refine w_var (d := .ref m.length) rfl ?_
    with_reducible refine w_nil ?_
    refine w_words (b := m) h1 (by decide) t0 (by omega) fun m2 h2 => ?_
    refine ⟨_, rfl, ?_⟩
    refine w_ifF rfl ?_
    with_reducible refine w_bNot <| w_bE <| w_call <| w_cons ?_
    refine w_var (d := .ref m.length) rfl ?_
    with_reducible refine w_nil ?_
    refine w_movesR (b := m) h2 (by decide) t1 (by omega) fun m3 h3 => ?_
    refine ⟨_, rfl, ?_⟩
    refine w_ifF rfl ?_
    with_reducible refine s_nil ?_
    exact ⟨⟨_, _, rfl⟩, h3.get (by omega) t0, h3.get (by omega) t1, h3.get (by omega) t2⟩
  · obtain ⟨⟨o1, o2, rfl⟩, t0, t1, t2⟩ := hI
    exact hR ns o1 o2 m (fun d _ => d = .bl true) No t2 rfl
def HR (R : S1) : Prop := ∀ (ns : List Int) (o1 o2 : Option D) (m : Mem) (Q : D → Mem → Prop) (X : Ex → Mem → Prop), m[2]? = some (.tab P_law q_law) → Q (.bl true) m → Ss (R (lL ns o1 o2 none none none none) m) { nx := fun _ m => Q .non m, rt := Q, ex := X }
theorem hr_all (N : Nat) (h9 : 9 ≤ N) (h5 : N ≤ 5000) : HR (restN (N : Int)) := w_end_all N h9 h5
theorem ex_R (N : Nat) (h9 : 9 ≤ N) (h5 : N ≤ 5000) : ∃ R : S1, R = restN (N : Int) ∧ HR R := ⟨_, rfl, hr_all N h9 h5⟩
theorem want {ns : List Int} (hl : ns.length ≤ 63) : ∃ m', F_law [.scr (ns.map .int)] [.tab P_words_right q_words_right, .tab P_moves_right q_moves_right, .tab P_law q_law] = .ok (.bl true) m' := by
  obtain ⟨R, hR, hh⟩ := ex_R 5000 (by decide) (by decide)
  have h := wantS (ns := ns) R hh
  rw [hR, ← m_law_is] at h
  obtain ⟨d, m', e, rfl⟩ := h.get
  exact ⟨m', e⟩
end K70


end

namespace K70
open PySem L2 Mx
variable {P : Program} {w : World} {K : PySem.W.Frag} {mg : Str → Option Value} {base : Heap}
theorem b_is_integer : BindsAll "is_integer" s_is_integer ["value"] := fun _ _ _ _ _ _ us hl => match us, hl with | [_], _ => rfl
theorem cal_is_integer (T : Txt P w K mg base) (D_is_integer : Def K mg "is_integer" s_is_integer)   : Cal P w K mg base 2 "is_integer" ["value"] F_is_integer := cal_def D_is_integer sc_is_integer b_is_integer (fun f cdv A outer s H E rm => d_is_integer T   rm) fun _ _ _ => .same _
theorem b_is_between : BindsAll "is_between" s_is_between ["value", "low", "high"] := fun _ _ _ _ _ _ us hl => match us, hl with | [_, _, _], _ => rfl
theorem cal_is_between (T : Txt P w K mg base) (D_is_between : Def K mg "is_between" s_is_between) (c_is_integer : Cal P w K mg base 2 "is_integer" ["value"] F_is_integer)  : Cal P w K mg base 3 "is_between" ["value", "low", "high"] F_is_between := cal_def D_is_between sc_is_between b_is_between (fun f cdv A outer s H E rm => d_is_between T c_is_integer  rm) fun _ _ _ => .same _
theorem b_is_name : BindsAll "is_name" s_is_name ["value"] := fun _ _ _ _ _ _ us hl => match us, hl with | [_], _ => rfl
theorem cal_is_name (T : Txt P w K mg base) (D_is_name : Def K mg "is_name" s_is_name)   : Cal P w K mg base 2 "is_name" ["value"] F_is_name := cal_def D_is_name sc_is_name b_is_name (fun f cdv A outer s H E rm => d_is_name T   rm) fun _ _ _ => .same _
theorem b_is_sign : BindsAll "is_sign" s_is_sign ["value"] := fun _ _ _ _ _ _ us hl => match us, hl with | [_], _ => rfl
theorem cal_is_sign (T : Txt P w K mg base) (D_is_sign : Def K mg "is_sign" s_is_sign) (c_is_name : Cal P w K mg base 2 "is_name" ["value"] F_is_name)  : Cal P w K mg base 3 "is_sign" ["value"] F_is_sign := cal_def D_is_sign sc_is_sign b_is_sign (fun f cdv A outer s H E rm => d_is_sign T c_is_name  rm) fun _ _ _ => .same _
theorem b_is_word : BindsAll "is_word" s_is_word ["value"] := fun _ _ _ _ _ _ us hl => match us, hl with | [_], _ => rfl
theorem cal_is_word (T : Txt P w K mg base) (D_is_word : Def K mg "is_word" s_is_word) (c_is_sign : Cal P w K mg base 3 "is_sign" ["value"] F_is_sign)  : Cal P w K mg base 4 "is_word" ["value"] F_is_word := cal_def D_is_word sc_is_word b_is_word (fun f cdv A outer s H E rm => d_is_word T c_is_sign  rm) fun _ _ _ => .same _
theorem b_require_word : BindsAll "require_word" s_require_word ["word"] := fun _ _ _ _ _ _ us hl => match us, hl with | [_], _ => rfl
theorem cal_require_word (T : Txt P w K mg base) (D_require_word : Def K mg "require_word" s_require_word) (c_is_word : Cal P w K mg base 4 "is_word" ["value"] F_is_word)  : Cal P w K mg base 5 "require_word" ["word"] F_require_word := cal_def D_require_word sc_require_word b_require_word (fun f cdv A outer s H E rm => d_require_word T c_is_word  rm) fun _ _ _ => .same _
theorem b_number_in_text : BindsAll "number_in_text" s_number_in_text ["part"] := fun _ _ _ _ _ _ us hl => match us, hl with | [_], _ => rfl
theorem cal_number_in_text (T : Txt P w K mg base) (D_number_in_text : Def K mg "number_in_text" s_number_in_text)   : Cal P w K mg base 2 "number_in_text" ["part"] F_number_in_text := cal_def D_number_in_text sc_number_in_text b_number_in_text (fun f cdv A outer s H E rm => d_number_in_text T   rm) fun _ _ _ => .same _
theorem b_sign_text : BindsAll "sign_text" s_sign_text ["sign"] := fun _ _ _ _ _ _ us hl => match us, hl with | [_], _ => rfl
theorem cal_sign_text (T : Txt P w K mg base) (D_sign_text : Def K mg "sign_text" s_sign_text)   : Cal P w K mg base 2 "sign_text" ["sign"] F_sign_text := cal_def D_sign_text sc_sign_text b_sign_text (fun f cdv A outer s H E rm => d_sign_text T   rm) fun _ _ _ => .same _
theorem b_sign_in_text : BindsAll "sign_in_text" s_sign_in_text ["part"] := fun _ _ _ _ _ _ us hl => match us, hl with | [_], _ => rfl
theorem cal_sign_in_text (T : Txt P w K mg base) (D_sign_in_text : Def K mg "sign_in_text" s_sign_in_text) (c_is_name : Cal P w K mg base 2 "is_name" ["value"] F_is_name)  : Cal P w K mg base 3 "sign_in_text" ["part"] F_sign_in_text := cal_def D_sign_in_text sc_sign_in_text b_sign_in_text (fun f cdv A outer s H E rm => d_sign_in_text T c_is_name  rm) fun _ _ _ => .same _
theorem b_format_word : BindsAll "format_word" s_format_word ["word"] := fun _ _ _ _ _ _ us hl => match us, hl with | [_], _ => rfl
theorem cal_format_word (T : Txt P w K mg base) (D_format_word : Def K mg "format_word" s_format_word) (c_require_word : Cal P w K mg base 5 "require_word" ["word"] F_require_word) (c_sign_text : Cal P w K mg base 2 "sign_text" ["sign"] F_sign_text)  : Cal P w K mg base 6 "format_word" ["word"] F_format_word := cal_def D_format_word sc_format_word b_format_word (fun f cdv A outer s H E rm => d_format_word T c_require_word c_sign_text  rm) fun _ _ _ => .same _
theorem b_parts_in : BindsAll "parts_in" s_parts_in ["text"] := fun _ _ _ _ _ _ us hl => match us, hl with | [_], _ => rfl
theorem cal_parts_in (T : Txt P w K mg base) (D_parts_in : Def K mg "parts_in" s_parts_in)   : Cal P w K mg base 2 "parts_in" ["text"] F_parts_in := cal_def D_parts_in sc_parts_in b_parts_in (fun f cdv A outer s H E rm => d_parts_in T   rm) fun _ _ _ => .same _
theorem b_parse_word : BindsAll "parse_word" s_parse_word ["text"] := fun _ _ _ _ _ _ us hl => match us, hl with | [_], _ => rfl
theorem cal_parse_word (T : Txt P w K mg base) (D_parse_word : Def K mg "parse_word" s_parse_word) (c_parts_in : Cal P w K mg base 2 "parts_in" ["text"] F_parts_in) (c_sign_in_text : Cal P w K mg base 3 "sign_in_text" ["part"] F_sign_in_text) (c_is_word : Cal P w K mg base 4 "is_word" ["value"] F_is_word)  : Cal P w K mg base 5 "parse_word" ["text"] F_parse_word := cal_def D_parse_word sc_parse_word b_parse_word (fun f cdv A outer s H E rm => d_parse_word T c_parts_in c_sign_in_text c_is_word  rm) fun _ _ _ => .same _
theorem b_is_move : BindsAll "is_move" s_is_move ["value"] := fun _ _ _ _ _ _ us hl => match us, hl with | [_], _ => rfl
theorem cal_is_move (T : Txt P w K mg base) (D_is_move : Def K mg "is_move" s_is_move) (c_is_name : Cal P w K mg base 2 "is_name" ["value"] F_is_name) (c_is_between : Cal P w K mg base 3 "is_between" ["value", "low", "high"] F_is_between)  : Cal P w K mg base 4 "is_move" ["value"] F_is_move := cal_def D_is_move sc_is_move b_is_move (fun f cdv A outer s H E rm => d_is_move T c_is_name c_is_between  rm) fun _ _ _ => .same _
theorem b_moves_text : BindsAll "moves_text" s_moves_text ["moves"] := fun _ _ _ _ _ _ us hl => match us, hl with | [_], _ => rfl
theorem cal_moves_text (T : Txt P w K mg base) (D_moves_text : Def K mg "moves_text" s_moves_text)   : Cal P w K mg base 2 "moves_text" ["moves"] F_moves_text := cal_def D_moves_text sc_moves_text b_moves_text (fun f cdv A outer s H E rm => d_moves_text T   rm) fun _ _ _ => .same _
theorem b_format_moves : BindsAll "format_moves" s_format_moves ["moves"] := fun _ _ _ _ _ _ us hl => match us, hl with | [_], _ => rfl
theorem cal_format_moves (T : Txt P w K mg base) (D_format_moves : Def K mg "format_moves" s_format_moves) (c_is_move : Cal P w K mg base 4 "is_move" ["value"] F_is_move) (c_moves_text : Cal P w K mg base 2 "moves_text" ["moves"] F_moves_text)  : Cal P w K mg base 5 "format_moves" ["moves"] F_format_moves := cal_def D_format_moves sc_format_moves b_format_moves (fun f cdv A outer s H E rm => d_format_moves T c_is_move c_moves_text  rm) fun _ _ _ => .same _
theorem b_move_in_text : BindsAll "move_in_text" s_move_in_text ["part"] := fun _ _ _ _ _ _ us hl => match us, hl with | [_], _ => rfl
theorem cal_move_in_text (T : Txt P w K mg base) (D_move_in_text : Def K mg "move_in_text" s_move_in_text) (c_number_in_text : Cal P w K mg base 2 "number_in_text" ["part"] F_number_in_text) (c_is_move : Cal P w K mg base 4 "is_move" ["value"] F_is_move)  : Cal P w K mg base 5 "move_in_text" ["part"] F_move_in_text := cal_def D_move_in_text sc_move_in_text b_move_in_text (fun f cdv A outer s H E rm => d_move_in_text T c_number_in_text c_is_move  rm) fun _ _ _ => .same _
theorem b_parse_moves : BindsAll "parse_moves" s_parse_moves ["text"] := fun _ _ _ _ _ _ us hl => match us, hl with | [_], _ => rfl
theorem cal_parse_moves (T : Txt P w K mg base) (D_parse_moves : Def K mg "parse_moves" s_parse_moves) (c_parts_in : Cal P w K mg base 2 "parts_in" ["text"] F_parts_in) (c_move_in_text : Cal P w K mg base 5 "move_in_text" ["part"] F_move_in_text)  : Cal P w K mg base 6 "parse_moves" ["text"] F_parse_moves := cal_def D_parse_moves sc_parse_moves b_parse_moves (fun f cdv A outer s H E rm => d_parse_moves T c_parts_in c_move_in_text  rm) fun _ _ _ => .same _
theorem b_dice : BindsAll "_law_dice" s_dice ["_law_script", "_law_at"] := fun _ _ _ _ _ _ us hl => match us, hl with | [_, _], _ => rfl
theorem cal_dice (T : Txt P w K mg base) (D_dice : Def K mg "_law_dice" s_dice)   : Cal P w K mg base 2 "_law_dice" ["_law_script", "_law_at"] F_dice := cal_def D_dice sc_dice b_dice (fun f cdv A outer s H E rm => d_dice T   rm) fun _ _ _ => .same _
theorem b_roll : BindsAll "_law_roll" s_roll ["_law_dice_here", "_law_total"] := fun _ _ _ _ _ _ us hl => match us, hl with | [_, _], _ => rfl
theorem cal_roll (T : Txt P w K mg base) (D_roll : Def K mg "_law_roll" s_roll)   : Cal P w K mg base 2 "_law_roll" ["_law_dice_here", "_law_total"] F_roll := cal_def D_roll sc_roll b_roll (fun f cdv A outer s H E rm => d_roll T   rm) fun _ _ _ => .same _
theorem b_one_of : BindsAll "_law_one_of" s_one_of ["_law_dice_here", "_law_items"] := fun _ _ _ _ _ _ us hl => match us, hl with | [_, _], _ => rfl
theorem cal_one_of (T : Txt P w K mg base) (D_one_of : Def K mg "_law_one_of" s_one_of) (c_roll : Cal P w K mg base 2 "_law_roll" ["_law_dice_here", "_law_total"] F_roll)  : Cal P w K mg base 3 "_law_one_of" ["_law_dice_here", "_law_items"] F_one_of := cal_def D_one_of sc_one_of b_one_of (fun f cdv A outer s H E rm => d_one_of T c_roll  rm) fun _ _ _ => .same _
theorem b_l_is_name : BindsAll "_law_is_name" s_l_is_name ["_law_value"] := fun _ _ _ _ _ _ us hl => match us, hl with | [_], _ => rfl
theorem cal_l_is_name (T : Txt P w K mg base) (D_l_is_name : Def K mg "_law_is_name" s_l_is_name)   : Cal P w K mg base 2 "_law_is_name" ["_law_value"] F_l_is_name := cal_def D_l_is_name sc_l_is_name b_l_is_name (fun f cdv A outer s H E rm => d_l_is_name T   rm) fun _ _ _ => .same _
theorem b_name : BindsAll "_law_name" s_name ["_law_dice_here"] := fun _ _ _ _ _ _ us hl => match us, hl with | [_], _ => rfl
theorem cal_name (T : Txt P w K mg base) (D_name : Def K mg "_law_name" s_name) (c_roll : Cal P w K mg base 2 "_law_roll" ["_law_dice_here", "_law_total"] F_roll)  : Cal P w K mg base 3 "_law_name" ["_law_dice_here"] F_name := cal_def D_name sc_name b_name (fun f cdv A outer s H E rm => d_name T c_roll  rm) fun _ _ _ => .same _
theorem b_word : BindsAll "_law_word" s_word ["_law_dice_here"] := fun _ _ _ _ _ _ us hl => match us, hl with | [_], _ => rfl
theorem cal_word (T : Txt P w K mg base) (D_word : Def K mg "_law_word" s_word) (c_roll : Cal P w K mg base 2 "_law_roll" ["_law_dice_here", "_law_total"] F_roll) (c_name : Cal P w K mg base 3 "_law_name" ["_law_dice_here"] F_name)  : Cal P w K mg base 4 "_law_word" ["_law_dice_here"] F_word := cal_def D_word sc_word b_word (fun f cdv A outer s H E rm => d_word T c_roll c_name  rm) fun _ _ _ => .same _
theorem b_moves : BindsAll "_law_moves" s_moves ["_law_dice_here"] := fun _ _ _ _ _ _ us hl => match us, hl with | [_], _ => rfl
theorem cal_moves (T : Txt P w K mg base) (D_moves : Def K mg "_law_moves" s_moves) (c_roll : Cal P w K mg base 2 "_law_roll" ["_law_dice_here", "_law_total"] F_roll) (c_name : Cal P w K mg base 3 "_law_name" ["_law_dice_here"] F_name)  : Cal P w K mg base 4 "_law_moves" ["_law_dice_here"] F_moves := cal_def D_moves sc_moves b_moves (fun f cdv A outer s H E rm => d_moves T c_roll c_name  rm) fun _ _ _ => .same _
theorem b_l_sign_text : BindsAll "_law_sign_text" s_l_sign_text ["_law_sign"] := fun _ _ _ _ _ _ us hl => match us, hl with | [_], _ => rfl
theorem cal_l_sign_text (T : Txt P w K mg base) (D_l_sign_text : Def K mg "_law_sign_text" s_l_sign_text)   : Cal P w K mg base 2 "_law_sign_text" ["_law_sign"] F_l_sign_text := cal_def D_l_sign_text sc_l_sign_text b_l_sign_text (fun f cdv A outer s H E rm => d_l_sign_text T   rm) fun _ _ _ => .same _
theorem b_read_word : BindsAll "_law_read_word" s_read_word ["_law_text"] := fun _ _ _ _ _ _ us hl => match us, hl with | [_], _ => rfl
theorem cal_read_word (T : Txt P w K mg base) (D_read_word : Def K mg "_law_read_word" s_read_word) (c_l_is_name : Cal P w K mg base 2 "_law_is_name" ["_law_value"] F_l_is_name)  : Cal P w K mg base 3 "_law_read_word" ["_law_text"] F_read_word := cal_def D_read_word sc_read_word b_read_word (fun f cdv A outer s H E rm => d_read_word T c_l_is_name  rm) fun _ _ _ => .same _
theorem b_read_moves : BindsAll "_law_read_moves" s_read_moves ["_law_text"] := fun _ _ _ _ _ _ us hl => match us, hl with | [_], _ => rfl
theorem cal_read_moves (T : Txt P w K mg base) (D_read_moves : Def K mg "_law_read_moves" s_read_moves) (c_l_is_name : Cal P w K mg base 2 "_law_is_name" ["_law_value"] F_l_is_name)  : Cal P w K mg base 3 "_law_read_moves" ["_law_text"] F_read_moves := cal_def D_read_moves sc_read_moves b_read_moves (fun f cdv A outer s H E rm => d_read_moves T c_l_is_name  rm) fun _ _ _ => .same _
theorem b_bent_text : BindsAll "_law_bent_text" s_bent_text ["_law_dice_here", "_law_text"] := fun _ _ _ _ _ _ us hl => match us, hl with | [_, _], _ => rfl
theorem cal_bent_text (T : Txt P w K mg base) (D_bent_text : Def K mg "_law_bent_text" s_bent_text) (c_roll : Cal P w K mg base 2 "_law_roll" ["_law_dice_here", "_law_total"] F_roll) (c_one_of : Cal P w K mg base 3 "_law_one_of" ["_law_dice_here", "_law_items"] F_one_of)  : Cal P w K mg base 4 "_law_bent_text" ["_law_dice_here", "_law_text"] F_bent_text := cal_def D_bent_text sc_bent_text b_bent_text (fun f cdv A outer s H E rm => d_bent_text T c_roll c_one_of  rm) fun _ _ _ => .same _
theorem b_words_right : BindsAll "_law_words_right" s_words_right ["_law_dice_here"] := fun _ _ _ _ _ _ us hl => match us, hl with | [_], _ => rfl
theorem cal_words_right (T : Txt P w K mg base) (D_words_right : DefC K mg "_law_words_right" s_words_right K_words_right) (c_word : Cal P w K mg base 4 "_law_word" ["_law_dice_here"] F_word) (c_l_sign_text : Cal P w K mg base 2 "_law_sign_text" ["_law_sign"] F_l_sign_text) (c_format_word : Cal P w K mg base 6 "format_word" ["word"] F_format_word) (c_parse_word : Cal P w K mg base 5 "parse_word" ["text"] F_parse_word) (c_bent_text : Cal P w K mg base 4 "_law_bent_text" ["_law_dice_here", "_law_text"] F_bent_text) (c_read_word : Cal P w K mg base 3 "_law_read_word" ["_law_text"] F_read_word) (c_one_of : Cal P w K mg base 3 "_law_one_of" ["_law_dice_here", "_law_items"] F_one_of) (D_told : Def K mg "_law_told" s_told) (tb_words_right : LamX.TabB base mg K_words_right P_words_right) : Cal P w K mg base 9 "_law_words_right" ["_law_dice_here"] F_words_right := cal_defC D_words_right sc_words_right b_words_right (fun f A outer s H E rm => d_words_right T c_word c_l_sign_text c_format_word c_parse_word c_bent_text c_read_word c_one_of D_told tb_words_right rm) fun _ _ _ => .same _
theorem b_moves_right : BindsAll "_law_moves_right" s_moves_right ["_law_dice_here"] := fun _ _ _ _ _ _ us hl => match us, hl with | [_], _ => rfl
theorem cal_moves_right (T : Txt P w K mg base) (D_moves_right : DefC K mg "_law_moves_right" s_moves_right K_moves_right) (c_moves : Cal P w K mg base 4 "_law_moves" ["_law_dice_here"] F_moves) (c_format_moves : Cal P w K mg base 5 "format_moves" ["moves"] F_format_moves) (c_parse_moves : Cal P w K mg base 6 "parse_moves" ["text"] F_parse_moves) (c_bent_text : Cal P w K mg base 4 "_law_bent_text" ["_law_dice_here", "_law_text"] F_bent_text) (c_read_moves : Cal P w K mg base 3 "_law_read_moves" ["_law_text"] F_read_moves) (c_one_of : Cal P w K mg base 3 "_law_one_of" ["_law_dice_here", "_law_items"] F_one_of) (D_told : Def K mg "_law_told" s_told) (tb_moves_right : LamX.TabB base mg K_moves_right P_moves_right) : Cal P w K mg base 9 "_law_moves_right" ["_law_dice_here"] F_moves_right := cal_defC D_moves_right sc_moves_right b_moves_right (fun f A outer s H E rm => d_moves_right T c_moves c_format_moves c_parse_moves c_bent_text c_read_moves c_one_of D_told tb_moves_right rm) fun _ _ _ => .same _
theorem b_law : BindsAll "law" s_law ["_law_script"] := fun _ _ _ _ _ _ us hl => match us, hl with | [_], _ => rfl
abbrev css : List (Addr × Addr × Str) := [(K_words_right, P_words_right, q_words_right), (K_moves_right, P_moves_right, q_moves_right), (K_law, P_law, q_law)]
theorem fin {fa : Addr} (hfa : mg "law" = some (.ref fa)) (T : ∀ base, SysD base → Txt P w K mg base) (D_is_integer : Def K mg "is_integer" s_is_integer) (D_is_between : Def K mg "is_between" s_is_between) (D_is_name : Def K mg "is_name" s_is_name) (D_is_sign : Def K mg "is_sign" s_is_sign) (D_is_word : Def K mg "is_word" s_is_word) (D_require_word : Def K mg "require_word" s_require_word) (D_number_in_text : Def K mg "number_in_text" s_number_in_text) (D_sign_text : Def K mg "sign_text" s_sign_text) (D_sign_in_text : Def K mg "sign_in_text" s_sign_in_text) (D_format_word : Def K mg "format_word" s_format_word) (D_parts_in : Def K mg "parts_in" s_parts_in) (D_parse_word : Def K mg "parse_word" s_parse_word) (D_is_move : Def K mg "is_move" s_is_move) (D_moves_text : Def K mg "moves_text" s_moves_text) (D_format_moves : Def K mg "format_moves" s_format_moves) (D_move_in_text : Def K mg "move_in_text" s_move_in_text) (D_parse_moves : Def K mg "parse_moves" s_parse_moves) (D_dice : Def K mg "_law_dice" s_dice) (D_roll : Def K mg "_law_roll" s_roll) (D_one_of : Def K mg "_law_one_of" s_one_of) (D_l_is_name : Def K mg "_law_is_name" s_l_is_name) (D_told : Def K mg "_law_told" s_told) (D_name : Def K mg "_law_name" s_name) (D_word : Def K mg "_law_word" s_word) (D_moves : Def K mg "_law_moves" s_moves) (D_l_sign_text : Def K mg "_law_sign_text" s_l_sign_text) (D_read_word : Def K mg "_law_read_word" s_read_word) (D_read_moves : Def K mg "_law_read_moves" s_read_moves) (D_bent_text : Def K mg "_law_bent_text" s_bent_text) (D_words_right : DefC K mg "_law_words_right" s_words_right K_words_right) (D_moves_right : DefC K mg "_law_moves_right" s_moves_right K_moves_right) (D_law : DefC K mg "law" s_law K_law) : ∃ fd : FuncData, (∀ (s : Shared) (u : Value), PySem.BindsTo s fd ⟨[u], []⟩ [("_law_script", u)]) ∧ ∀ base : Heap, K.In base → base.Ns mainGlobals mg → SysD base → (∀ p ∈ css, LamX.TabB base mg p.1 p.2.1) → FnG P w K mg base 10 fa fd ["_law_script"] (spM K 1 F_law) := by
  obtain ⟨f, fd, hm, G, hcc⟩ := D_law.ex
  have e := hfa.symm.trans hm
  cases e
  obtain ⟨oc, od, kV, doc, pm, an, cdv, ct, osl, rfl, lk, hcd⟩ := id G.ex
  refine ⟨PySem.W.fnOf "law" "law" (defArgs s_law) (defBody s_law) (defScope s_law) .none kV doc pm an cdv ct, fun s u => .of_eq rfl, fun base _ _ sy tbs => ?_⟩
  have T := T base sy
  have c_is_integer := cal_is_integer (w := w) T D_is_integer  
  have c_is_between := cal_is_between (w := w) T D_is_between c_is_integer 
  have c_is_name := cal_is_name (w := w) T D_is_name  
  have c_is_sign := cal_is_sign (w := w) T D_is_sign c_is_name 
  have c_is_word := cal_is_word (w := w) T D_is_word c_is_sign 
  have c_require_word := cal_require_word (w := w) T D_require_word c_is_word 
  have c_number_in_text := cal_number_in_text (w := w) T D_number_in_text  
  have c_sign_text := cal_sign_text (w := w) T D_sign_text  
  have c_sign_in_text := cal_sign_in_text (w := w) T D_sign_in_text c_is_name 
  have c_format_word := cal_format_word (w := w) T D_format_word c_require_word c_sign_text 
  have c_parts_in := cal_parts_in (w := w) T D_parts_in  
  have c_parse_word := cal_parse_word (w := w) T D_parse_word c_parts_in c_sign_in_text c_is_word 
  have c_is_move := cal_is_move (w := w) T D_is_move c_is_name c_is_between 
  have c_moves_text := cal_moves_text (w := w) T D_moves_text  
  have c_format_moves := cal_format_moves (w := w) T D_format_moves c_is_move c_moves_text 
  have c_move_in_text := cal_move_in_text (w := w) T D_move_in_text c_number_in_text c_is_move 
  have c_parse_moves := cal_parse_moves (w := w) T D_parse_moves c_parts_in c_move_in_text 
  have c_dice := cal_dice (w := w) T D_dice  
  have c_roll := cal_roll (w := w) T D_roll  
  have c_one_of := cal_one_of (w := w) T D_one_of c_roll 
  have c_l_is_name := cal_l_is_name (w := w) T D_l_is_name  
  have c_name := cal_name (w := w) T D_name c_roll 
  have c_word := cal_word (w := w) T D_word c_roll c_name 
  have c_moves := cal_moves (w := w) T D_moves c_roll c_name 
  have c_l_sign_text := cal_l_sign_text (w := w) T D_l_sign_text  
  have c_read_word := cal_read_word (w := w) T D_read_word c_l_is_name 
  have c_read_moves := cal_read_moves (w := w) T D_read_moves c_l_is_name 
  have c_bent_text := cal_bent_text (w := w) T D_bent_text c_roll c_one_of 
  have c_words_right := cal_words_right (w := w) T D_words_right c_word c_l_sign_text c_format_word c_parse_word c_bent_text c_read_word c_one_of D_told (tbs (K_words_right, P_words_right, q_words_right) (by decide))
  have c_moves_right := cal_moves_right (w := w) T D_moves_right c_moves c_format_moves c_parse_moves c_bent_text c_read_moves c_one_of D_told (tbs (K_moves_right, P_moves_right, q_moves_right) (by decide))
  exact fnC_of G hcc sc_law (fun A outer s H E rm => d_law T c_dice c_words_right c_moves_right c_parse_moves c_parse_word D_told (tbs (K_law, P_law, q_law) (by decide)) rm) fun _ _ _ => .same _
abbrev nos : List Str := ["super", "len", "abs", "int", "enumerate", "range", "max", "min", "isinstance", "repr", "all", "tuple", "list", "str", "bool"]
abbrev cls : List (Str × Addr) := [("LinkError", C_LinkError), ("InvalidWord", C_InvalidWord), ("InvalidOperation", C_InvalidOperation), ("ParseError", C_ParseError)]
theorem txt {h : Heap} (X : K.In h) (G : h.Ns mainGlobals mg) (zz : nonB K nos = true) (yy : clsB K cls = true) (q_MAX_TRANSITIONS : gldB K "MAX_TRANSITIONS" (.int 90) = true) (q_MAX_LETTERS : gldB K "MAX_LETTERS" (.int 8) = true) (q_ALPHABET : gldB K "ALPHABET" (.str "abcdefghijklmnopqrstuvwxyz") = true) (q_SEND : gldB K "SEND" (.str "send") = true) (q_TAKE : gldB K "TAKE" (.str "take") = true) (q_NOTHING : gldB K "NOTHING" (.str "-") = true) (q_DIGITS : gldB K "DIGITS" (.str "0123456789") = true) (kd_SIGNS : KDc K w mg "SIGNS" kvSIGNS) (u_LinkError : hitB K (.ref C_LinkError) hl_LinkError = true) (u_InvalidWord : hitB K (.ref C_InvalidWord) hl_InvalidWord = true) (u_InvalidOperation : hitB K (.ref C_InvalidOperation) hl_InvalidOperation = true) (u_ParseError : hitB K (.ref C_ParseError) hl_ParseError = true) (m1_LinkError : PySem.W.excIn K C_LinkError mVal "ValueError.__new__" = true) (m2_LinkError : PySem.W.keepIn K (.ref C_LinkError) = true) (m3_LinkError : PySem.W.subIn K (.ref C_LinkError) (.type "BaseException") = some true) (m4_LinkError : PySem.W.typeIn K (.ref C_LinkError) = some (.type "type")) (m1_InvalidWord : PySem.W.excIn K C_InvalidWord mVal "ValueError.__new__" = true) (m2_InvalidWord : PySem.W.keepIn K (.ref C_InvalidWord) = true) (m3_InvalidWord : PySem.W.subIn K (.ref C_InvalidWord) (.type "BaseException") = some true) (m4_InvalidWord : PySem.W.typeIn K (.ref C_InvalidWord) = some (.type "type")) (m1_InvalidOperation : PySem.W.excIn K C_InvalidOperation mVal "ValueError.__new__" = true) (m2_InvalidOperation : PySem.W.keepIn K (.ref C_InvalidOperation) = true) (m3_InvalidOperation : PySem.W.subIn K (.ref C_InvalidOperation) (.type "BaseException") = some true) (m4_InvalidOperation : PySem.W.typeIn K (.ref C_InvalidOperation) = some (.type "type")) (m1_ParseError : PySem.W.excIn K C_ParseError mVal "ValueError.__new__" = true) (m2_ParseError : PySem.W.keepIn K (.ref C_ParseError) = true) (m3_ParseError : PySem.W.subIn K (.ref C_ParseError) (.type "BaseException") = some true) (m4_ParseError : PySem.W.typeIn K (.ref C_ParseError) = some (.type "type")) : ∀ base, SysD base → Txt P w K mg base := by
  intro base sy
  have zs := non_of X G zz
  have ys := cls_of X G yy
  exact ⟨sy, (zs "super" (by decide)), (zs "len" (by decide)), (zs "abs" (by decide)), (zs "int" (by decide)), (zs "enumerate" (by decide)), (zs "range" (by decide)), (zs "max" (by decide)), (zs "min" (by decide)), (zs "isinstance" (by decide)), (zs "repr" (by decide)), (zs "all" (by decide)), (zs "tuple" (by decide)), (zs "list" (by decide)), (zs "str" (by decide)), (zs "bool" (by decide)), (gld_of X G q_MAX_TRANSITIONS), (gld_of X G q_MAX_LETTERS), (gld_of X G q_ALPHABET), (gld_of X G q_SEND), (gld_of X G q_TAKE), (gld_of X G q_NOTHING), (gld_of X G q_DIGITS), kd_SIGNS, (ys ("LinkError", C_LinkError) (by decide)), (ys ("InvalidWord", C_InvalidWord) (by decide)), (ys ("InvalidOperation", C_InvalidOperation) (by decide)), (ys ("ParseError", C_ParseError) (by decide)), (hit_of u_LinkError), (hit_of u_InvalidWord), (hit_of u_InvalidOperation), (hit_of u_ParseError), m1_LinkError, m2_LinkError, m3_LinkError, m4_LinkError, m1_InvalidWord, m2_InvalidWord, m3_InvalidWord, m4_InvalidWord, m1_InvalidOperation, m2_InvalidOperation, m3_InvalidOperation, m4_InvalidOperation, m1_ParseError, m2_ParseError, m3_ParseError, m4_ParseError⟩
end K70

open PySem PySem.W PyProof.Rows
set_option maxRecDepth 100000 in
set_option maxHeartbeats 0 in
theorem PySem.Challenge.cw_halflink_k70_words_and_moves_as_texts_holds : PySem.Challenge.rw_halflink_k70_words_and_moves_as_texts.Holds := by
  w_on; o_law; k_head; (case hw => w_witness2)
  k_fill
  refine Mx.end_walkT (l := PySem.Challenge.rw_halflink_k70_words_and_moves_as_texts) (n := 63) (k := 10) (x := "_law_script") (F := K70.F_law) (cs := K70.css) rfl (by decide) rfl ⟨⟨rfl, by decide, by decide⟩, rfl⟩ ?imp (fun w h Y => PySem.W.km_in_of Y) ?tabs (by decide) ?noK ?hd ?F ?want
  case imp => first | rfl | decide +kernel
  case want => exact fun ns hl => K70.want hl
  case tabs =>
    intro w h Y p hp
    have T8 := PySem.W.km_tabs_of Y
    rcases hp with _ | ⟨_, hp⟩
    · exact T8 _ (by decide)
    rcases hp with _ | ⟨_, hp⟩
    · exact T8 _ (by decide)
    rcases hp with _ | ⟨_, hp⟩
    · exact T8 _ (by decide)
    · cases hp
  case noK =>
    intro w p hp
    rcases hp with _ | ⟨_, hp⟩
    · kernel_rfl
    rcases hp with _ | ⟨_, hp⟩
    · kernel_rfl
    rcases hp with _ | ⟨_, hp⟩
    · kernel_rfl
    · cases hp
  case hd =>
    intro w h X p hp
    rcases hp with _ | ⟨_, hp⟩
    · exact PySem.W.codeHd_of_K X (by kernel_rfl)
    rcases hp with _ | ⟨_, hp⟩
    · exact PySem.W.codeHd_of_K X (by kernel_rfl)
    rcases hp with _ | ⟨_, hp⟩
    · exact PySem.W.codeHd_of_K X (by kernel_rfl)
    · cases hp
  case F =>
    intro w mg fa h KX G hmg
    refine K70.fin hmg ?tx ?D_is_integer ?D_is_between ?D_is_name ?D_is_sign ?D_is_word ?D_require_word ?D_number_in_text ?D_sign_text ?D_sign_in_text ?D_format_word ?D_parts_in ?D_parse_word ?D_is_move ?D_moves_text ?D_format_moves ?D_move_in_text ?D_parse_moves ?D_dice ?D_roll ?D_one_of ?D_l_is_name ?D_told ?D_name ?D_word ?D_moves ?D_l_sign_text ?D_read_word ?D_read_moves ?D_bent_text ?D_words_right ?D_moves_right ?D_law
    case tx =>
      refine' K70.txt KX G ?zz ?yy ?q_MAX_TRANSITIONS ?q_MAX_LETTERS ?q_ALPHABET ?q_SEND ?q_TAKE ?q_NOTHING ?q_DIGITS ?kd_SIGNS ?u_LinkError ?u_InvalidWord ?u_InvalidOperation ?u_ParseError ?m1_LinkError ?m2_LinkError ?m3_LinkError ?m4_LinkError ?m1_InvalidWord ?m2_InvalidWord ?m3_InvalidWord ?m4_InvalidWord ?m1_InvalidOperation ?m2_InvalidOperation ?m3_InvalidOperation ?m4_InvalidOperation ?m1_ParseError ?m2_ParseError ?m3_ParseError ?m4_ParseError
      (case zz => kernel_rfl)
      (case yy => kernel_rfl)
      (case q_MAX_TRANSITIONS => kernel_rfl)
      (case q_MAX_LETTERS => kernel_rfl)
      (case q_ALPHABET => kernel_rfl)
      (case q_SEND => kernel_rfl)
      (case q_TAKE => kernel_rfl)
      (case q_NOTHING => kernel_rfl)
      (case q_DIGITS => kernel_rfl)
      (case u_LinkError => kernel_rfl)
      (case u_InvalidWord => kernel_rfl)
      (case u_InvalidOperation => kernel_rfl)
      (case u_ParseError => kernel_rfl)
      (case m1_LinkError => kernel_rfl)
      (case m2_LinkError => kernel_rfl)
      (case m3_LinkError => kernel_rfl)
      (case m4_LinkError => kernel_rfl)
      (case m1_InvalidWord => kernel_rfl)
      (case m2_InvalidWord => kernel_rfl)
      (case m3_InvalidWord => kernel_rfl)
      (case m4_InvalidWord => kernel_rfl)
      (case m1_InvalidOperation => kernel_rfl)
      (case m2_InvalidOperation => kernel_rfl)
      (case m3_InvalidOperation => kernel_rfl)
      (case m4_InvalidOperation => kernel_rfl)
      (case m1_ParseError => kernel_rfl)
      (case m2_ParseError => kernel_rfl)
      (case m3_ParseError => kernel_rfl)
      (case m4_ParseError => kernel_rfl)
      case kd_SIGNS =>
        refine' Mx.kdc_mk KX G ?a ?l ?k ?low ?en ?nd
        (case a => k_is); (case l => k_is); (case k => exact ⟨⟨_, _, rfl, rfl⟩, ⟨_, _, rfl, rfl⟩, trivial⟩); (case low => rfl); (case en => kernel_rfl); (case nd => decide +kernel)
    case D_is_integer =>
      refine' Mx.def_mk KX G ?a ?l ?c ?k
      (case a => k_is); (case l => k_is); (case c => k_is); (case k => k_is)
    case D_is_between =>
      refine' Mx.def_mk KX G ?a ?l ?c ?k
      (case a => k_is); (case l => k_is); (case c => k_is); (case k => k_is)
    case D_is_name =>
      refine' Mx.def_mk KX G ?a ?l ?c ?k
      (case a => k_is); (case l => k_is); (case c => k_is); (case k => k_is)
    case D_is_sign =>
      refine' Mx.def_mk KX G ?a ?l ?c ?k
      (case a => k_is); (case l => k_is); (case c => k_is); (case k => k_is)
    case D_is_word =>
      refine' Mx.def_mk KX G ?a ?l ?c ?k
      (case a => k_is); (case l => k_is); (case c => k_is); (case k => k_is)
    case D_require_word =>
      refine' Mx.def_mk KX G ?a ?l ?c ?k
      (case a => k_is); (case l => k_is); (case c => k_is); (case k => k_is)
    case D_number_in_text =>
      refine' Mx.def_mk KX G ?a ?l ?c ?k
      (case a => k_is); (case l => k_is); (case c => k_is); (case k => k_is)
    case D_sign_text =>
      refine' Mx.def_mk KX G ?a ?l ?c ?k
      (case a => k_is); (case l => k_is); (case c => k_is); (case k => k_is)
    case D_sign_in_text =>
      refine' Mx.def_mk KX G ?a ?l ?c ?k
      (case a => k_is); (case l => k_is); (case c => k_is); (case k => k_is)
    case D_format_word =>
      refine' Mx.def_mk KX G ?a ?l ?c ?k
      (case a => k_is); (case l => k_is); (case c => k_is); (case k => k_is)
    case D_parts_in =>
      refine' Mx.def_mk KX G ?a ?l ?c ?k
      (case a => k_is); (case l => k_is); (case c => k_is); (case k => k_is)
    case D_parse_word =>
      refine' Mx.def_mk KX G ?a ?l ?c ?k
      (case a => k_is); (case l => k_is); (case c => k_is); (case k => k_is)
    case D_is_move =>
      refine' Mx.def_mk KX G ?a ?l ?c ?k
      (case a => k_is); (case l => k_is); (case c => k_is); (case k => k_is)
    case D_moves_text =>
      refine' Mx.def_mk KX G ?a ?l ?c ?k
      (case a => k_is); (case l => k_is); (case c => k_is); (case k => k_is)
    case D_format_moves =>
      refine' Mx.def_mk KX G ?a ?l ?c ?k
      (case a => k_is); (case l => k_is); (case c => k_is); (case k => k_is)
    case D_move_in_text =>
      refine' Mx.def_mk KX G ?a ?l ?c ?k
      (case a => k_is); (case l => k_is); (case c => k_is); (case k => k_is)
    case D_parse_moves =>
      refine' Mx.def_mk KX G ?a ?l ?c ?k
      (case a => k_is); (case l => k_is); (case c => k_is); (case k => k_is)
    case D_dice =>
      refine' Mx.def_mk KX G ?a ?l ?c ?k
      (case a => k_is); (case l => k_is); (case c => k_is); (case k => k_is)
    case D_roll =>
      refine' Mx.def_mk KX G ?a ?l ?c ?k
      (case a => k_is); (case l => k_is); (case c => k_is); (case k => k_is)
    case D_one_of =>
      refine' Mx.def_mk KX G ?a ?l ?c ?k
      (case a => k_is); (case l => k_is); (case c => k_is); (case k => k_is)
    case D_l_is_name =>
      refine' Mx.def_mk KX G ?a ?l ?c ?k
      (case a => k_is); (case l => k_is); (case c => k_is); (case k => k_is)
    case D_told =>
      refine' Mx.def_mk KX G ?a ?l ?c ?k
      (case a => k_is); (case l => k_is); (case c => k_is); (case k => k_is)
    case D_name =>
      refine' Mx.def_mk KX G ?a ?l ?c ?k
      (case a => k_is); (case l => k_is); (case c => k_is); (case k => k_is)
    case D_word =>
      refine' Mx.def_mk KX G ?a ?l ?c ?k
      (case a => k_is); (case l => k_is); (case c => k_is); (case k => k_is)
    case D_moves =>
      refine' Mx.def_mk KX G ?a ?l ?c ?k
      (case a => k_is); (case l => k_is); (case c => k_is); (case k => k_is)
    case D_l_sign_text =>
      refine' Mx.def_mk KX G ?a ?l ?c ?k
      (case a => k_is); (case l => k_is); (case c => k_is); (case k => k_is)
    case D_read_word =>
      refine' Mx.def_mk KX G ?a ?l ?c ?k
      (case a => k_is); (case l => k_is); (case c => k_is); (case k => k_is)
    case D_read_moves =>
      refine' Mx.def_mk KX G ?a ?l ?c ?k
      (case a => k_is); (case l => k_is); (case c => k_is); (case k => k_is)
    case D_bent_text =>
      refine' Mx.def_mk KX G ?a ?l ?c ?k
      (case a => k_is); (case l => k_is); (case c => k_is); (case k => k_is)
    case D_words_right =>
      refine' Mx.defC_mk KX G ?a ?l ?c ?k
      (case a => k_is); (case l => k_is); (case c => k_is); (case k => k_is)
    case D_moves_right =>
      refine' Mx.defC_mk KX G ?a ?l ?c ?k
      (case a => k_is); (case l => k_is); (case c => k_is); (case k => k_is)
    case D_law =>
      refine' Mx.defC_mk KX G ?a ?l ?c ?k
      (case a => k_is); (case l => k_is); (case c => k_is); (case k => k_is)

