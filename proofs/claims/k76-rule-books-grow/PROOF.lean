import PyProof.Rows.All
import Wide.All
import OpenK.AllK
import Wide.FinOn
import HandS.ForMost
import HandS.Exc
import HandS.ExcOwn
import HandS.WordsExc
import HandS.TryOnly
import HandS.TryMany
import HandS.IsInst
import HandS.Deep
import HandS.Defaults
import HandS.Zip
import HandS.TupAny
import HandS.TupMul
import HandS.Star
import HandS.SlotsOwn
import KE.KOpsOwn
import HandS.ExcIs
import HandS.HeadHook1
import HandS.Wide
import HandS.HeadHook2
import PySem.Challenge.RW_onerest_k76_rule_books_grow
import KE.KStateDown
import HandS.Ends
import HandS.More
import HandS.Words
import HandS.Head0
import HandS.Head1
import HandS.Head2
import HandS.HeadEnd
set_option Elab.async false
set_option linter.all false
set_option maxRecDepth 100000
set_option maxHeartbeats 2000000
/-! LayA: data, cells, results; how they stand in the hand layer's heap. -/
namespace LY
open PySem PySem.Spec PyProof.Rows L2

inductive CN where
  | RestError | BadBook | BadState | BadTree | NoNode | BadStep | NoEnd | BadWay | NoOneRest | BadReader | UnlikeBooks | TooMany
  | BadLine | BadOrder | BadRule | NothingToUndo | BadText | BadCommand | RuleBook | Live | Desk
  deriving DecidableEq
def CN.str : CN → Str
  | .RestError => "RestError" | .BadBook => "BadBook" | .BadState => "BadState" | .BadTree => "BadTree" | .NoNode => "NoNode" | .BadStep => "BadStep"
  | .NoEnd => "NoEnd" | .BadWay => "BadWay" | .NoOneRest => "NoOneRest" | .BadReader => "BadReader" | .UnlikeBooks => "UnlikeBooks" | .TooMany => "TooMany"
  | .BadLine => "BadLine" | .BadOrder => "BadOrder" | .BadRule => "BadRule" | .NothingToUndo => "NothingToUndo" | .BadText => "BadText"
  | .BadCommand => "BadCommand" | .RuleBook => "RuleBook" | .Live => "Live" | .Desk => "Desk"
/-- the attributes of an instance, in the order in which __init__ stores them -/
def CN.flds : CN → List Str
  | .RuleBook => ["n", "rules"]
  | .Live => ["book", "now", "past"]
  | .Desk => ["book", "now"]
  | .BadStep => ["place"] | .BadWay => ["place"] | .BadText => ["line"]
  | _ => []

/-- data: a number of a cell, or a thing that never changes -/
inductive D where
  | non | bl (b : Bool) | int (i : Int) | str (x : Str)
  | tup (xs : List D) | fl (xs : List D)
  | ref (n : Nat)
  | ty (n : String) | cls (c : CN)
  | ins (c : CN) (fs : List D)
  | exc (c : CN) (fs : List D)
  | fd (ks vs : List D)
inductive Cell where
  | lst (xs : List D)
  | ins (c : CN) (fs : List D)
  | dict (ks vs : List D)
  | dead
abbrev Store := List Cell
abbrev Envt := List (Option D)
structure Exn where
  c : CN
  fs : List D := []
inductive R (β : Type) where
  | ok (a : β) (s : Store)
  | er (e : Exn) (s : Store)
  | bad
inductive Out where
  | nx (ρ : Envt) (s : Store)
  | rt (d : D) (s : Store)
  | bk (ρ : Envt) (s : Store)
  | ct (ρ : Envt) (s : Store)
  | er (e : Exn) (ρ : Envt) (s : Store)
  | bad
def R.bind {β γ : Type} (r : R β) (k : β → Store → R γ) : R γ := match r with
  | .ok a s => k a s
  | .er e s => .er e s
  | .bad => .bad
def Out.fin : Out → R D
  | .nx _ s => .ok .non s
  | .rt d s => .ok d s
  | .er e _ s => .er e s
  | _ => .bad
/-- a result, then a statement's end -/
def R.out {β : Type} (r : R β) (ρ : Envt) (k : β → Store → Out) : Out := match r with
  | .ok a s => k a s
  | .er e s => .er e ρ s
  | .bad => .bad
def Out.seq (o : Out) (k : Envt → Store → Out) : Out := match o with
  | .nx ρ s => k ρ s
  | o => o

/-- where the cells stand; h: lists that are being made -/
structure Al where
  c : List Addr
  h : List Addr
instance : Membership Addr Al := ⟨fun α a => a ∈ α.c ∨ a ∈ α.h⟩
theorem Al.mem {a : Addr} {α : Al} : a ∈ α ↔ a ∈ α.c ∨ a ∈ α.h := Iff.rfl
def Al.app (α : Al) (β : List Addr) : Al := ⟨α.c ++ β, α.h⟩
abbrev Al.push (α : Al) (p : Addr) : Al := α.app [p]
theorem Al.mem_app {a : Addr} {α : Al} {β : List Addr} : a ∈ α.app β ↔ a ∈ α ∨ a ∈ β := by
  rw [Al.mem, Al.mem]
  show a ∈ α.c ++ β ∨ a ∈ α.h ↔ _
  rw [List.mem_append]
  constructor
  · rintro ((h | h) | h)
    · exact .inl (.inl h)
    · exact .inr h
    · exact .inl (.inr h)
  · rintro ((h | h) | h)
    · exact .inl (.inl h)
    · exact .inr h
    · exact .inl (.inr h)
abbrev H0 : Hp := fun _ => none
section
variable (K : PySem.W.Frag) (mg : Str → Option Value) (H : Hp) (α : Al)
def TupAt (a : Addr) (xs : List V) : Prop := (a ∉ α ∧ Rd H a (.tup xs)) ∨ SqT K H0 a xs
def LstAt (a : Addr) (xs : List V) : Prop := (a ∉ α ∧ Rd H a (.lst xs)) ∨ SqL K H0 a xs
/-- an exception that has been caught, at a: its class C, its own dict d -/
def ExOb (C : Addr) (d : Option Addr) (a : Addr) : HO := .ext fun h => ∃ (oe : Obj) (vs : Array Value), h.get? a = some oe ∧ Zc (.ref C) d oe ∧ oe.data = .fields vs
mutual
def RD : D → V → Prop
  | .non, v => v = .non
  | .bl b, v => v = .bl b
  | .int i, v => v = .int i
  | .str x, v => v = .str x
  | .tup ds, v => ∃ a xs, v = .ref a ∧ TupAt K H α a xs ∧ RL ds xs
  | .fl ds, v => ∃ a xs, v = .ref a ∧ LstAt K H α a xs ∧ RL ds xs
  | .ref n, v => ∃ a, v = .ref a ∧ α.c[n]? = some a
  | .ty n, v => v = .ty n
  | .cls c, v => ∃ C, v = .ref C ∧ mg c.str = some (.ref C)
  | .ins c fs, v => ∃ a C dx xs, v = .ref a ∧ a ∉ α ∧ mg c.str = some (.ref C) ∧ xs.length = c.flds.length ∧ H a = some (.ins C dx (c.flds.zip xs)) ∧ RL fs xs
  | .exc c fs, v => ∃ a C d, v = .ref a ∧ a ∉ α ∧ mg c.str = some (.ref C) ∧ H a = some (ExOb C d a) ∧ (∃ xs, RL fs xs ∧ (c.flds = [] → d = none) ∧ (c.flds ≠ [] → ∃ x, d = some x ∧ x ∉ α ∧ H x = some (.xd (c.flds.zip xs))))
  | .fd _ _, _ => False
def RL : List D → List V → Prop
  | [], xs => xs = []
  | d :: ds, xs => ∃ v r, xs = v :: r ∧ RD d v ∧ RL ds r
end
def RC : Cell → Addr → Prop
  | .lst ds, a => ∃ xs, H a = some (.lst xs) ∧ RL K mg H α ds xs
  | .ins c fs, a => ∃ C dx xs, mg c.str = some (.ref C) ∧ xs.length ≤ c.flds.length ∧ H a = some (.ins C dx (c.flds.zip xs)) ∧ RL K mg H α fs xs
  | .dict _ _, _ => False
  | .dead, _ => True
structure RSt (s : Store) : Prop where
  len : α.c.length = s.length
  nd : α.c.Nodup
  dj : ∀ a ∈ α.c, a ∉ α.h
  tr : ∀ a ∈ α, ∃ o, H a = some o
  cell : ∀ (n : Nat) (c : Cell) (a : Addr), s[n]? = some c → α.c[n]? = some a → RC K mg H α c a
end
/-- the heap has gone on: cells may have been written, others laid -/
structure Gr (α : Al) (H : Hp) (α' : Al) (H' : Hp) : Prop where
  pre : ∃ β, α' = α.app β
  new : ∀ b ∈ α', b ∈ α ∨ H b = none
  keep : ∀ b o, H b = some o → b ∉ α → H' b = some o
  hid : ∀ b ∈ α.h, H' b = H b
/-- .. as far as data need it -/
structure Gw (α : Al) (H : Hp) (α' : Al) (H' : Hp) : Prop where
  cel : ∀ {n : Nat} {a : Addr}, α.c[n]? = some a → α'.c[n]? = some a
  keep : ∀ b o, H b = some o → b ∉ α → H' b = some o
  out : ∀ {b : Addr} {o : HO}, H b = some o → b ∉ α → b ∉ α'
theorem Gr.refl (α : Al) (H : Hp) : Gr α H α H := ⟨⟨[], by simp [Al.app]⟩, fun b h => .inl h, fun _ _ h _ => h, fun _ _ => rfl⟩
section
variable {α α' α1 α2 : Al} {H H' H1 H2 : Hp}
theorem Gr.out (g : Gr α H α' H') {a : Addr} {o : HO} (h : H a = some o) (n : a ∉ α) : a ∉ α' := fun m => by
  rcases g.new a m with x | x
  · exact n x
  · rw [h] at x; cases x
theorem Gr.hh (g : Gr α H α' H') : α'.h = α.h := by
  obtain ⟨β, e⟩ := g.pre
  rw [e]
  rfl
theorem Gr.at (g : Gr α H α' H') {n : Nat} {a : Addr} (h : α.c[n]? = some a) : α'.c[n]? = some a := by
  obtain ⟨β, e⟩ := g.pre
  rw [e]
  have hl := (List.getElem?_eq_some_iff.mp h).1
  show (α.c ++ β)[n]? = some a
  rw [List.getElem?_append_left hl]
  exact h
theorem Gr.trans (a : Gr α H α1 H1) (b : Gr α1 H1 α2 H2) : Gr α H α2 H2 := by
  refine ⟨?_, fun c hc => ?_, fun c o h n => b.keep c o (a.keep c o h n) (a.out h n), fun c hc => (b.hid c (by rw [a.hh]; exact hc)).trans (a.hid c hc)⟩
  · obtain ⟨β, e⟩ := a.pre
    obtain ⟨γ, e'⟩ := b.pre
    exact ⟨β ++ γ, by rw [e', e]; simp [Al.app]⟩
  · rcases b.new c hc with x | x
    · exact a.new c x
    · by_cases m : c ∈ α
      · exact .inl m
      · cases q : H c with
        | none => exact .inr rfl
        | some o => rw [a.keep c o q m] at x; cases x
theorem Gw.at (g : Gw α H α' H') {n : Nat} {a : Addr} (h : α.c[n]? = some a) : α'.c[n]? = some a := g.cel h
theorem Gr.toGw (g : Gr α H α' H') : Gw α H α' H' := ⟨g.at, g.keep, g.out⟩
theorem Gw.refl : Gw α H α H := ⟨fun h => h, fun _ _ h _ => h, fun _ n => n⟩
theorem Gw.trans (a : Gw α H α1 H1) (b : Gw α1 H1 α2 H2) : Gw α H α2 H2 := ⟨fun h => b.at (a.at h), fun c o h n => b.keep c o (a.keep c o h n) (a.out h n), fun h n => b.out (a.keep _ _ h n) (a.out h n)⟩
theorem Gw.rd (g : Gw α H α' H') {a : Addr} {u : HO} (n : a ∉ α) (h : Rd H a u) : Rd H' a u ∧ a ∉ α' := by
  rcases h with h | ⟨o, h⟩
  · exact ⟨.inl (g.keep a _ h n), g.out h n⟩
  · exact ⟨.inr ⟨o, g.keep a _ h n⟩, g.out h n⟩
end
instance {α α' : Al} {H H' : Hp} : Coe (Gr α H α' H') (Gw α H α' H') := ⟨Gr.toGw⟩
section
variable {K : PySem.W.Frag} {mg : Str → Option Value} {H H' : Hp} {α α' : Al}
theorem TupAt.sq {a : Addr} {xs : List V} (h : TupAt K H α a xs) : SqT K H a xs := by
  rcases h with ⟨_, h⟩ | h
  · exact .inl h
  · rcases h with h | h
    · rcases h with h | ⟨_, h⟩ <;> cases h
    · exact .inr h
theorem LstAt.sq {a : Addr} {xs : List V} (h : LstAt K H α a xs) : SqL K H a xs := by
  rcases h with ⟨_, h⟩ | h
  · exact .inl h
  · rcases h with h | h
    · rcases h with h | ⟨_, h⟩ <;> cases h
    · exact .inr h
theorem TupAt.gr (g : Gw α H α' H') {a : Addr} {xs : List V} (h : TupAt K H α a xs) : TupAt K H' α' a xs := by
  rcases h with ⟨n, h⟩ | h
  · exact .inl ⟨(g.rd n h).2, (g.rd n h).1⟩
  · exact .inr h
theorem LstAt.gr (g : Gw α H α' H') {a : Addr} {xs : List V} (h : LstAt K H α a xs) : LstAt K H' α' a xs := by
  rcases h with ⟨n, h⟩ | h
  · exact .inl ⟨(g.rd n h).2, (g.rd n h).1⟩
  · exact .inr h
mutual
theorem RD.gr (g : Gw α H α' H') : ∀ (d : D) (v : V), RD K mg H α d v → RD K mg H' α' d v
  | .non, _, h => by unfold RD at h ⊢; exact h
  | .bl _, _, h => by unfold RD at h ⊢; exact h
  | .int _, _, h => by unfold RD at h ⊢; exact h
  | .str _, _, h => by unfold RD at h ⊢; exact h
  | .ty _, _, h => by unfold RD at h ⊢; exact h
  | .cls _, _, h => by unfold RD at h ⊢; exact h
  | .fd _ _, _, h => by unfold RD at h; exact h.elim
  | .tup ds, v, h => by
    unfold RD at h ⊢
    obtain ⟨a, xs, e, t, l⟩ := h
    exact ⟨a, xs, e, t.gr g, RL.gr g ds xs l⟩
  | .fl ds, v, h => by
    unfold RD at h ⊢
    obtain ⟨a, xs, e, t, l⟩ := h
    exact ⟨a, xs, e, t.gr g, RL.gr g ds xs l⟩
  | .ref n, v, h => by
    unfold RD at h ⊢
    obtain ⟨a, e, t⟩ := h
    exact ⟨a, e, g.at t⟩
  | .ins c fs, v, h => by
    unfold RD at h ⊢
    obtain ⟨a, C, dx, xs, e, n, m, z, t, l⟩ := h
    exact ⟨a, C, dx, xs, e, g.out t n, m, z, g.keep a _ t n, RL.gr g fs xs l⟩
  | .exc c fs, v, h => by
    unfold RD at h ⊢
    obtain ⟨a, C, d, e, n, m, t, xs, l, p, q⟩ := h
    refine ⟨a, C, d, e, g.out t n, m, g.keep a _ t n, xs, RL.gr g fs xs l, p, fun z => ?_⟩
    obtain ⟨x, ex, nx, hx⟩ := q z
    exact ⟨x, ex, g.out hx nx, g.keep x _ hx nx⟩
theorem RL.gr (g : Gw α H α' H') : ∀ (ds : List D) (xs : List V), RL K mg H α ds xs → RL K mg H' α' ds xs
  | [], _, h => by unfold RL at h ⊢; exact h
  | d :: ds, xs, h => by
    unfold RL at h ⊢
    obtain ⟨v, r, e, h1, h2⟩ := h
    exact ⟨v, r, e, RD.gr g d v h1, RL.gr g ds r h2⟩
end
theorem RL.nil : RL K mg H α [] [] := by unfold RL; rfl
theorem RL.cons {d : D} {v : V} {ds : List D} {xs : List V} (h : RD K mg H α d v) (t : RL K mg H α ds xs) : RL K mg H α (d :: ds) (v :: xs) := by
  unfold RL
  exact ⟨v, xs, rfl, h, t⟩
theorem RL.length : ∀ {ds : List D} {xs : List V}, RL K mg H α ds xs → ds.length = xs.length
  | [], xs, h => by unfold RL at h; subst h; rfl
  | d :: ds, xs, h => by
    unfold RL at h
    obtain ⟨v, r, rfl, _, t⟩ := h
    simp [RL.length t]
theorem RL.get : ∀ {ds : List D} {xs : List V} {i : Nat} {d : D}, RL K mg H α ds xs → ds[i]? = some d → ∃ v, xs[i]? = some v ∧ RD K mg H α d v
  | [], _, i, d, _, e => by simp at e
  | d :: ds, xs, 0, x, h, e => by
    unfold RL at h
    obtain ⟨v, r, rfl, h1, _⟩ := h
    simp at e
    subst e
    exact ⟨v, rfl, h1⟩
  | d :: ds, xs, i + 1, x, h, e => by
    unfold RL at h
    obtain ⟨v, r, rfl, _, t⟩ := h
    obtain ⟨u, h1, h2⟩ := RL.get (i := i) t (by simpa using e)
    exact ⟨u, by simpa using h1, h2⟩
theorem RL.get' : ∀ {ds : List D} {xs : List V} {i : Nat} {v : V}, RL K mg H α ds xs → xs[i]? = some v → ∃ d, ds[i]? = some d ∧ RD K mg H α d v := fun {ds xs i v} h e => by
  have hl := h.length
  have hi : i < ds.length := by rw [hl]; exact (List.getElem?_eq_some_iff.mp e).1
  obtain ⟨u, h1, h2⟩ := h.get (List.getElem?_eq_getElem hi)
  rw [e] at h1
  cases h1
  exact ⟨_, List.getElem?_eq_getElem hi, h2⟩
theorem RL.append : ∀ {ds es : List D} {xs ys : List V}, RL K mg H α ds xs → RL K mg H α es ys → RL K mg H α (ds ++ es) (xs ++ ys)
  | [], _, xs, _, h, t => by unfold RL at h; subst h; exact t
  | d :: ds, es, xs, ys, h, t => by
    unfold RL at h
    obtain ⟨v, r, rfl, h1, h2⟩ := h
    exact RL.cons h1 (RL.append h2 t)
theorem RL.set {d : D} {v : V} (r : RD K mg H α d v) : ∀ {ds : List D} {xs : List V} (i : Nat), RL K mg H α ds xs → RL K mg H α (ds.set i d) (xs.set i v)
  | [], xs, i, h => by unfold RL at h; subst h; exact RL.nil
  | x :: ds, xs, 0, h => by
    unfold RL at h
    obtain ⟨w, t, rfl, _, h2⟩ := h
    exact RL.cons r h2
  | x :: ds, xs, i + 1, h => by
    unfold RL at h
    obtain ⟨w, t, rfl, h1, h2⟩ := h
    exact RL.cons h1 (RL.set r i h2)
theorem RL.take : ∀ {ds : List D} {xs : List V} (n : Nat), RL K mg H α ds xs → RL K mg H α (ds.take n) (xs.take n)
  | _, _, 0, _ => RL.nil
  | [], xs, n + 1, h => by unfold RL at h; subst h; exact RL.nil
  | d :: ds, xs, n + 1, h => by
    unfold RL at h
    obtain ⟨v, r, rfl, h1, h2⟩ := h
    exact RL.cons h1 (RL.take n h2)
theorem RL.drop : ∀ {ds : List D} {xs : List V} (n : Nat), RL K mg H α ds xs → RL K mg H α (ds.drop n) (xs.drop n)
  | _, _, 0, h => h
  | [], xs, n + 1, h => by unfold RL at h; subst h; exact RL.nil
  | d :: ds, xs, n + 1, h => by
    unfold RL at h
    obtain ⟨v, r, rfl, h1, h2⟩ := h
    exact RL.drop n h2
theorem RL.one {d : D} {v : V} (h : RD K mg H α d v) : RL K mg H α [d] [v] := RL.cons h RL.nil
theorem RL.reverse : ∀ {ds : List D} {xs : List V}, RL K mg H α ds xs → RL K mg H α ds.reverse xs.reverse
  | [], xs, h => by unfold RL at h; subst h; exact RL.nil
  | d :: ds, xs, h => by
    unfold RL at h
    obtain ⟨v, r, rfl, h1, h2⟩ := h
    rw [List.reverse_cons, List.reverse_cons]
    exact RL.append (RL.reverse h2) (RL.one h1)
theorem RC.gr (g : Gw α H α' H') {c : Cell} {a : Addr} (e : ∀ o, H a = some o → H' a = some o) (h : RC K mg H α c a) : RC K mg H' α' c a := by
  cases c with
  | lst ds =>
    obtain ⟨xs, hx, l⟩ := h
    exact ⟨xs, e _ hx, l.gr g⟩
  | ins c fs =>
    obtain ⟨C, dx, xs, m, z, hx, l⟩ := h
    exact ⟨C, dx, xs, m, z, e _ hx, l.gr g⟩
  | dict ks vs => exact h.elim
  | dead => trivial
theorem RSt.notin {s : Store} (S : RSt K mg H α s) {p : Addr} (h : H p = none) : p ∉ α := fun m => by
  obtain ⟨o, e⟩ := S.tr p m
  rw [h] at e
  cases e
/-- a new thing that never changes -/
theorem Gr.laid {s : Store} (S : RSt K mg H α s) {p : Addr} {o : HO} (h : H p = none) : Gr α H α (upd H p o) := ⟨⟨[], by simp [Al.app]⟩, fun _ m => .inl m, fun b u e _ => by rw [upd_ne (ne_of_none e h)]; exact e, fun b m => upd_ne fun z => S.notin h (z ▸ .inr m)⟩
theorem RSt.laid {s : Store} (S : RSt K mg H α s) {p : Addr} {o : HO} (h : H p = none) : RSt K mg (upd H p o) α s := by
  have g := Gr.laid (o := o) S h
  refine ⟨S.len, S.nd, S.dj, fun a m => ?_, fun n c a e1 e2 => ?_⟩
  · obtain ⟨u, e⟩ := S.tr a m
    exact ⟨u, by rw [upd_ne (ne_of_none e h)]; exact e⟩
  · exact (S.cell n c a e1 e2).gr g.toGw fun u e => by rw [upd_ne (ne_of_none e h)]; exact e
/-- a new cell -/
theorem Gr.push {s : Store} (S : RSt K mg H α s) {p : Addr} {o : HO} (h : H p = none) : Gr α H (α.push p) (upd H p o) := ⟨⟨[p], rfl⟩, fun b m => by
    rcases Al.mem_app.mp m with m | m
    · exact .inl m
    · rw [List.mem_singleton.mp m]; exact .inr h, fun b u e _ => by rw [upd_ne (ne_of_none e h)]; exact e, fun b m => upd_ne fun z => S.notin h (z ▸ .inr m)⟩
theorem RSt.push {s : Store} (S : RSt K mg H α s) {p : Addr} {o : HO} {c : Cell} (h : H p = none) (rc : RC K mg (upd H p o) (α.push p) c p) : RSt K mg (upd H p o) (α.push p) (s ++ [c]) := by
  have g := Gr.push (o := o) S h
  refine ⟨by simp [Al.app, S.len], ?_, fun a m => ?_, fun a m => ?_, fun n d a e1 e2 => ?_⟩
  · show (α.c ++ [p]).Nodup
    rw [List.nodup_append]
    refine ⟨S.nd, by simp, fun a ha b hb e => ?_⟩
    rw [List.mem_singleton.mp hb] at e
    exact S.notin h (e ▸ .inl ha)
  · rcases List.mem_append.mp (show a ∈ α.c ++ [p] from m) with m | m
    · exact S.dj a m
    · rw [List.mem_singleton.mp m]; exact fun z => S.notin h (.inr z)
  · rcases Al.mem_app.mp m with m | m
    · obtain ⟨u, e⟩ := S.tr a m
      exact ⟨u, by rw [upd_ne (ne_of_none e h)]; exact e⟩
    · rw [List.mem_singleton.mp m]; exact ⟨_, upd_same⟩
  · have e2' : (α.c ++ [p])[n]? = some a := e2
    by_cases hn : n < s.length
    · rw [List.getElem?_append_left hn] at e1
      rw [List.getElem?_append_left (by rw [S.len]; exact hn)] at e2'
      exact (S.cell n d a e1 e2').gr g.toGw fun u e => by rw [upd_ne (ne_of_none e h)]; exact e
    · have hn2 : n = s.length := by
        have := (List.getElem?_eq_some_iff.mp e1).1
        simp at this
        omega
      subst hn2
      rw [List.getElem?_append_right (Nat.le_refl _)] at e1
      rw [List.getElem?_append_right (by rw [S.len]; exact Nat.le_refl _)] at e2'
      simp [S.len] at e1 e2'
      subst e1 e2'
      exact rc
/-- a cell is written -/
theorem Gr.write {s : Store} (S : RSt K mg H α s) {n : Nat} {a : Addr} {o : HO} (h : α.c[n]? = some a) : Gr α H α (upd H a o) := by
  have ha : a ∈ α.c := List.mem_of_getElem? h
  exact ⟨⟨[], by simp [Al.app]⟩, fun b m => .inl m, fun b u e nb => by
    rw [upd_ne (fun z : b = a => nb (by rw [z]; exact .inl ha))]
    exact e, fun b m => upd_ne fun z => S.dj a ha (z ▸ m)⟩
theorem RSt.write {s : Store} (S : RSt K mg H α s) {n : Nat} {a : Addr} {o : HO} {c : Cell} (h : α.c[n]? = some a) (rc : RC K mg (upd H a o) α c a) : RSt K mg (upd H a o) α (s.set n c) := by
  have g := Gr.write (o := o) S h
  refine ⟨by simp [S.len], S.nd, S.dj, fun b m => ?_, fun m d b e1 e2 => ?_⟩
  · by_cases hb : b = a
    · rw [hb]; exact ⟨_, upd_same⟩
    · obtain ⟨u, e⟩ := S.tr b m
      exact ⟨u, by rw [upd_ne hb]; exact e⟩
  · by_cases hm : m = n
    · subst hm
      rw [h] at e2
      cases e2
      rw [List.getElem?_set_self (by have := (List.getElem?_eq_some_iff.mp e1).1; simpa using this)] at e1
      cases e1
      exact rc
    · rw [List.getElem?_set_ne (Ne.symm hm)] at e1
      have hb : b ≠ a := fun z => by
        subst z
        exact hm ((List.getElem?_inj (List.getElem?_eq_some_iff.mp e2).1 S.nd).mp (e2.trans h.symm))
      exact (S.cell m d b e1 e2).gr g.toGw fun u e => by rw [upd_ne hb]; exact e
theorem RSt.at {s : Store} (S : RSt K mg H α s) {n : Nat} {c : Cell} (h : s[n]? = some c) : ∃ a, α.c[n]? = some a ∧ RC K mg H α c a := by
  have hn := (List.getElem?_eq_some_iff.mp h).1
  have hn2 : n < α.c.length := by rw [S.len]; exact hn
  exact ⟨α.c[n], List.getElem?_eq_getElem hn2, S.cell n c _ h (List.getElem?_eq_getElem hn2)⟩
/-- a list that is being made: hidden -/
def Al.hide (α : Al) (p : Addr) : Al := ⟨α.c, p :: α.h⟩
theorem Al.mem_hide {a p : Addr} {α : Al} : a ∈ α.hide p ↔ a = p ∨ a ∈ α := by
  rw [Al.mem, Al.mem]
  show a ∈ α.c ∨ a ∈ p :: α.h ↔ _
  rw [List.mem_cons]
  constructor
  · rintro (h | h | h)
    · exact .inr (.inl h)
    · exact .inl h
    · exact .inr (.inr h)
  · rintro (h | h | h)
    · exact .inr (.inl h)
    · exact .inl h
    · exact .inr (.inr h)
end

/-! ### what is wanted of a result -/
section
variable (K : PySem.W.Frag) (mg : Str → Option Value)
/-- an exception's own dict -/
def XD (H : Hp) (α : Al) (e : Exn) (dd : Option Addr) : Prop := ∃ xs, RL K mg H α e.fs xs ∧ (e.c.flds = [] → dd = none) ∧ (e.c.flds ≠ [] → ∃ x, dd = some x ∧ x ∉ α ∧ H x = some (.xd (e.c.flds.zip xs)))
abbrev WH := Value → Option Addr → Hp → Prop
def wp {β γ : Type} (rel : Hp → Al → β → γ → Prop) (α : Al) (H : Hp) (r : R β) (E : WH) (Q : γ → Hp → Prop) : Prop := match r with
  | .ok d s' => ∀ α' H' v, Gr α H α' H' → RSt K mg H' α' s' → rel H' α' d v → Q v H'
  | .er e s' => ∀ α' H' C dd, Gr α H α' H' → RSt K mg H' α' s' → mg e.c.str = some (.ref C) → XD K mg H' α' e dd → E (.ref C) dd H'
  | .bad => False
structure Sim (α : Al) (H : Hp) (ρ : Envt) (s : Store) (σ : L2.St) : Prop where
  len : ρ.length = σ.length
  env : ∀ (i : Nat) (d : D), ρ[i]? = some (some d) → ∃ v, σ[i]? = some (some v) ∧ RD K mg H α d v
  st : RSt K mg H α s
/-- a statement's end -/
def wpS (α : Al) (H : Hp) (o : Out) (W : WX) (D : Ends) : Prop := match o with
  | .nx ρ s => ∀ α' H' σ', Gr α H α' H' → Sim K mg α' H' ρ s σ' → D.nx σ' H'
  | .rt d s => ∀ α' H' v, Gr α H α' H' → RSt K mg H' α' s → RD K mg H' α' d v → D.rt v H'
  | .bk ρ s => ∀ α' H' σ', Gr α H α' H' → Sim K mg α' H' ρ s σ' → D.bk σ' H'
  | .ct ρ s => ∀ α' H' σ', Gr α H α' H' → Sim K mg α' H' ρ s σ' → D.ct σ' H'
  | .er e ρ s => ∀ α' H' σ' C dd, Gr α H α' H' → Sim K mg α' H' ρ s σ' → mg e.c.str = some (.ref C) → XD K mg H' α' e dd → W (.ref C) dd σ' H'
  | .bad => False
end
section
variable {K : PySem.W.Frag} {mg : Str → Option Value} {H H1 : Hp} {α α1 : Al} {ρ : Envt} {s s1 : Store} {σ : L2.St} {E : WH} {W : WX}
theorem Sim.gr (S : Sim K mg α H ρ s σ) (g : Gr α H α1 H1) (t : RSt K mg H1 α1 s1) : Sim K mg α1 H1 ρ s1 σ := ⟨S.len, fun i d e => by
  obtain ⟨v, h1, h2⟩ := S.env i d e
  exact ⟨v, h1, RD.gr g.toGw _ _ h2⟩, t⟩
theorem Sim.set (S : Sim K mg α H ρ s σ) {d : D} {v : V} (i : Nat) (h : RD K mg H α d v) : Sim K mg α H (ρ.set i (some d)) s (σ.set i (some v)) := by
  refine ⟨by simp [S.len], fun j e h1 => ?_, S.st⟩
  by_cases hj : j = i
  · subst hj
    have hl : j < ρ.length := by have := (List.getElem?_eq_some_iff.mp h1).1; simpa using this
    rw [List.getElem?_set_self hl] at h1
    cases h1
    exact ⟨v, List.getElem?_set_self (by rw [← S.len]; exact hl), h⟩
  · rw [List.getElem?_set_ne (Ne.symm hj)] at h1 ⊢
    exact S.env j e h1
theorem Sim.unset (S : Sim K mg α H ρ s σ) (i : Nat) : Sim K mg α H (ρ.set i none) s (σ.set i none) := by
  refine ⟨by simp [S.len], fun j e h1 => ?_, S.st⟩
  by_cases hj : j = i
  · subst hj
    have hl : j < ρ.length := by have := (List.getElem?_eq_some_iff.mp h1).1; simpa using this
    rw [List.getElem?_set_self hl] at h1
    cases h1
  · rw [List.getElem?_set_ne (Ne.symm hj)] at h1 ⊢
    exact S.env j e h1
theorem Sim.setR (S : Sim K mg α H ρ s σ) (i : Nat) (o : Option V) : Sim K mg α H (ρ.set i none) s (σ.set i o) := by
  refine ⟨by simp [S.len], fun j e h1 => ?_, S.st⟩
  by_cases hj : j = i
  · subst hj
    have hl : j < ρ.length := by have := (List.getElem?_eq_some_iff.mp h1).1; simpa using this
    rw [List.getElem?_set_self hl] at h1
    cases h1
  · rw [List.getElem?_set_ne (Ne.symm hj)] at h1 ⊢
    exact S.env j e h1
section
variable {β γ β' γ' : Type} {rel : Hp → Al → β → γ → Prop} {rel' : Hp → Al → β' → γ' → Prop} {r : R β} {k : β → Store → R β'} {Q Q' : γ → Hp → Prop} {Q2 : γ' → Hp → Prop}
theorem wp.gr (g : Gr α H α1 H1) (h : wp K mg rel α H r E Q) : wp K mg rel α1 H1 r E Q := by
  cases r with
  | ok d s' => exact fun α' H' v g' => h α' H' v (g.trans g')
  | er e s' => exact fun α' H' C dd g' => h α' H' C dd (g.trans g')
  | bad => exact h
theorem wp.imp (h : wp K mg rel α H r E Q) (q : ∀ v H', Q v H' → Q' v H') : wp K mg rel α H r E Q' := by
  cases r with
  | ok d s' => exact fun α' H' v g t l => q _ _ (h α' H' v g t l)
  | er e s' => exact h
  | bad => exact h
theorem wp_bind (h : wp K mg rel' α H (r.bind k) E Q2) : wp K mg rel α H r E (fun v H1 => ∃ α1 s1 d, Gr α H α1 H1 ∧ RSt K mg H1 α1 s1 ∧ rel H1 α1 d v ∧ wp K mg rel' α1 H1 (k d s1) E Q2) := by
  cases r with
  | ok d s' => exact fun α' H' v g t l => ⟨α', s', d, g, t, l, wp.gr g h⟩
  | er e s' => exact h
  | bad => exact h
theorem wpS_out {ro : β → Store → Out} {D : Ends} (S : Sim K mg α H ρ s σ) (h : wpS K mg α H (r.out ρ ro) W D) : wp K mg rel α H r (fun C dd H' => W C dd σ H') (fun v H1 => ∃ α1 s1 d, Gr α H α1 H1 ∧ RSt K mg H1 α1 s1 ∧ rel H1 α1 d v ∧ wpS K mg α1 H1 (ro d s1) W D) := by
  cases r with
  | ok d s' =>
    refine fun α' H' v g t l => ⟨α', s', d, g, t, l, ?_⟩
    show wpS K mg α' H' (ro d s') W D
    have h' : wpS K mg α H (ro d s') W D := h
    cases e : ro d s' with
    | nx ρ s => rw [e] at h'; exact fun α2 H2 σ2 g2 => h' α2 H2 σ2 (g.trans g2)
    | rt d s => rw [e] at h'; exact fun α2 H2 v2 g2 => h' α2 H2 v2 (g.trans g2)
    | bk ρ s => rw [e] at h'; exact fun α2 H2 σ2 g2 => h' α2 H2 σ2 (g.trans g2)
    | ct ρ s => rw [e] at h'; exact fun α2 H2 σ2 g2 => h' α2 H2 σ2 (g.trans g2)
    | er x ρ s => rw [e] at h'; exact fun α2 H2 σ2 C dd g2 => h' α2 H2 σ2 C dd (g.trans g2)
    | bad => rw [e] at h'; exact h'
  | er e s' => exact fun α' H' C dd g t m x => h α' H' σ C dd g (S.gr g t) m x
  | bad => exact h
end
theorem wpS.gr {o : Out} {D : Ends} (g : Gr α H α1 H1) (h : wpS K mg α H o W D) : wpS K mg α1 H1 o W D := by
  cases o with
  | nx ρ s => exact fun α2 H2 σ2 g2 => h α2 H2 σ2 (g.trans g2)
  | rt d s => exact fun α2 H2 v2 g2 => h α2 H2 v2 (g.trans g2)
  | bk ρ s => exact fun α2 H2 σ2 g2 => h α2 H2 σ2 (g.trans g2)
  | ct ρ s => exact fun α2 H2 σ2 g2 => h α2 H2 σ2 (g.trans g2)
  | er x ρ s => exact fun α2 H2 σ2 C dd g2 => h α2 H2 σ2 C dd (g.trans g2)
  | bad => exact h
end

/-! ### readings by functions -/
abbrev ME := Envt → Store → R D
abbrev MT := Envt → Store → R Bool
abbrev MA := Envt → Store → R (List D)
abbrev MS := Envt → Store → Out
abbrev MG := D → Envt → Store → Out
section
variable (K : PySem.W.Frag) (mg : Str → Option Value) (W : WX)
def RB (_ : Hp) (_ : Al) (b c : Bool) : Prop := c = b
def rdE (m : ME) : TE := fun σ H Q => ∃ α ρ s, Sim K mg α H ρ s σ ∧ wp K mg (RD K mg) α H (m ρ s) (fun C dd H' => W C dd σ H') Q
def rdT (m : MT) : TT := fun σ H Q => ∃ α ρ s, Sim K mg α H ρ s σ ∧ wp K mg RB α H (m ρ s) (fun C dd H' => W C dd σ H') Q
def rdA (m : MA) : TA := fun σ H Q => ∃ α ρ s, Sim K mg α H ρ s σ ∧ wp K mg (RL K mg) α H (m ρ s) (fun C dd H' => W C dd σ H') Q
def rdS (m : MS) : TS := fun D σ H => ∃ α ρ s, Sim K mg α H ρ s σ ∧ wpS K mg α H (m ρ s) W D
def rdG (m : MG) : TG := fun v σ H Q => ∃ α ρ s d, Sim K mg α H ρ s σ ∧ RD K mg H α d v ∧ wpS K mg α H (m d ρ s) W { nx := Q, rt := fun _ _ => False }
def rdGs (m : List D → Envt → Store → Out) : TGs := fun vs σ H Q => ∃ α ρ s ds, Sim K mg α H ρ s σ ∧ RL K mg H α ds vs ∧ wpS K mg α H (m ds ρ s) W { nx := Q, rt := fun _ _ => False }
end
theorem PE_imp {X : Cx} {e : Expr} {t t' : TE} (h : PE X e t) (i : ∀ σ H Q, t' σ H Q → t σ H Q) : PE X e t' := ⟨fun pins s σ H Q I q => h.run pins s σ H Q I (i σ H Q q)⟩
theorem PT_imp {X : Cx} {e : Expr} {t t' : TT} (h : PT X e t) (i : ∀ σ H Q, t' σ H Q → t σ H Q) : PT X e t' := ⟨fun pins s σ H Q I q => h.run pins s σ H Q I (i σ H Q q)⟩
theorem PW_imp {X : Cx} {e : Expr} {t t' : TT} (h : PW X e t) (i : ∀ σ H Q, t' σ H Q → t σ H Q) : PW X e t' := ⟨fun wh pins s σ H Q I q => h.run wh pins s σ H Q I (i σ H Q q)⟩
theorem PA_imp {X : Cx} {es : List Expr} {t t' : TA} (h : PA X es t) (i : ∀ σ H Q, t' σ H Q → t σ H Q) : PA X es t' := ⟨fun p pins s σ H Q I q => h.run p pins s σ H Q I (i σ H Q q)⟩
theorem PS_imp {X : Cx} {st : Stmt} {t t' : TS} (h : PS X st t) (i : ∀ D σ H, t' D σ H → t D σ H) : PS X st t' := ⟨fun pins s σ H D I q => h.run pins s σ H D I (i D σ H q)⟩
theorem PSs_imp {X : Cx} {st : List Stmt} {t t' : TS} (h : PSs X st t) (i : ∀ D σ H, t' D σ H → t D σ H) : PSs X st t' := ⟨fun pins s σ H D I q => h.run pins s σ H D I (i D σ H q)⟩
theorem PG_imp {X : Cx} {e : Expr} {t t' : TG} (h : PG X e t) (i : ∀ v σ H Q, t' v σ H Q → t v σ H Q) : PG X e t' := ⟨fun pins s σ H v u Q I r q => h.run pins s σ H v u Q I r (i v σ H Q q)⟩
theorem PGs_imp {X : Cx} {es : List Expr} {t t' : TGs} (h : PGs X es t) (i : ∀ v σ H Q, t' v σ H Q → t v σ H Q) : PGs X es t' := ⟨fun pins s σ H v u Q I r q => h.run pins s σ H v u Q I r (i v σ H Q q)⟩
theorem PI_imp {X : Cx} {tg e : Expr} {t t' : TI} (h : PI X tg e t) (i : ∀ σ H R, t' σ H R → t σ H R) : PI X tg e t' := ⟨fun pins s σ H R I q => h.run pins s σ H R I (i σ H R q)⟩
end LY
/-! LayB: expressions. -/
namespace LY
open PySem PySem.Spec PyProof.Rows L2

/-! ### pure data as PyData -/
mutual
def D.py : D → Option PyData
  | .non => some .none
  | .bl b => some (.bool b)
  | .int i => some (.int i)
  | .str x => some (.str x)
  | .tup ds => (pyL ds).map .tuple
  | .fl ds => (pyL ds).map .list
  | _ => none
def pyL : List D → Option (List PyData)
  | [] => some []
  | d :: ds => match d.py, pyL ds with
    | some a, some b => some (a :: b)
    | _, _ => none
end
/-- the list that a cell holds -/
def lstAt (s : Store) (n : Nat) : Option (List D) := match s[n]? with
  | some (.lst ds) => some ds
  | _ => none
theorem lstAt_some {s : Store} {n : Nat} {ds : List D} (h : lstAt s n = some ds) : s[n]? = some (.lst ds) := by
  unfold lstAt at h
  split at h
  · rename_i e; cases h; exact e
  · cases h
theorem lstAt_of {s : Store} {n : Nat} {ds : List D} (h : s[n]? = some (.lst ds)) : lstAt s n = some ds := by
  unfold lstAt
  rw [h]
/-- .. in a store: a cell's list too -/
def D.pyS (s : Store) (d : D) : Option PyData := match d with
  | .ref n => (lstAt s n).bind fun ds => (pyL ds).map .list
  | d => d.py
section
variable {K : PySem.W.Frag} {mg : Str → Option Value} {H : Hp} {α : Al} {s : Store}
mutual
theorem RD.dp : ∀ (d : D) (v : V) (p : PyData), RD K mg H α d v → d.py = some p → Dp K H v p
  | .non, v, p, h, e => by unfold RD at h; subst h; unfold D.py at e; cases e; exact .non
  | .bl b, v, p, h, e => by unfold RD at h; subst h; unfold D.py at e; cases e; exact .bl b
  | .int b, v, p, h, e => by unfold RD at h; subst h; unfold D.py at e; cases e; exact .int b
  | .str b, v, p, h, e => by unfold RD at h; subst h; unfold D.py at e; cases e; exact .str b
  | .tup ds, v, p, h, e => by
    unfold RD at h
    unfold D.py at e
    obtain ⟨a, xs, rfl, t, l⟩ := h
    cases q : pyL ds with
    | none => rw [q] at e; cases e
    | some ps => rw [q] at e; cases e; exact .tup t.sq (RL.dp ds xs ps l q)
  | .fl ds, v, p, h, e => by
    unfold RD at h
    unfold D.py at e
    obtain ⟨a, xs, rfl, t, l⟩ := h
    cases q : pyL ds with
    | none => rw [q] at e; cases e
    | some ps => rw [q] at e; cases e; exact .lst t.sq (RL.dp ds xs ps l q)
  | .ref _, _, _, _, e => by unfold D.py at e; cases e
  | .ty _, _, _, _, e => by unfold D.py at e; cases e
  | .cls _, _, _, _, e => by unfold D.py at e; cases e
  | .ins _ _, _, _, _, e => by unfold D.py at e; cases e
  | .exc _ _, _, _, _, e => by unfold D.py at e; cases e
  | .fd _ _, _, _, _, e => by unfold D.py at e; cases e
theorem RL.dp : ∀ (ds : List D) (xs : List V) (ps : List PyData), RL K mg H α ds xs → pyL ds = some ps → DpAll K H xs ps
  | [], xs, ps, h, e => by unfold RL at h; subst h; unfold pyL at e; cases e; exact .nil
  | d :: ds, xs, ps, h, e => by
    unfold RL at h
    unfold pyL at e
    obtain ⟨v, r, rfl, h1, h2⟩ := h
    cases q : d.py with
    | none => rw [q] at e; cases e
    | some a =>
      cases q2 : pyL ds with
      | none => rw [q, q2] at e; cases e
      | some b => rw [q, q2] at e; cases e; exact .cons (RD.dp d v a h1 q) (RL.dp ds r b h2 q2)
end
theorem RD.dpS (S : RSt K mg H α s) {d : D} {v : V} {p : PyData} (h : RD K mg H α d v) (e : d.pyS s = some p) : Dp K H v p := by
  cases d with
  | ref n =>
    unfold D.pyS at e
    unfold RD at h
    obtain ⟨a, rfl, ha⟩ := h
    obtain ⟨ds, e1, e2⟩ := Option.bind_eq_some_iff.mp e
    obtain ⟨ps, e3, e4⟩ := Option.map_eq_some_iff.mp e2
    cases e4
    obtain ⟨xs, hx, l⟩ := S.cell n _ a (lstAt_some e1) ha
    exact .lst (SqL.of hx) (RL.dp ds xs ps l e3)
  | _ => exact RD.dp _ v p h e
end

/-! ### operators on values -/
abbrev O1 := D → Store → R D
abbrev O2 := D → D → Store → R D
section
variable (K : PySem.W.Frag) (mg : Str → Option Value)
def OpOk (f : O2) (r : R2) : Prop := ∀ {α : Al} {H : Hp} {s : Store} {x y : D} {vx vy : V} {E : WH} {Q : VK}, RSt K mg H α s → RD K mg H α x vx → RD K mg H α y vy → wp K mg (RD K mg) α H (f x y s) E Q → r vx vy H Q
def UnOk (f : O1) (r : V → Hp → VK → Prop) : Prop := ∀ {α : Al} {H : Hp} {s : Store} {x : D} {vx : V} {E : WH} {Q : VK}, RSt K mg H α s → RD K mg H α x vx → wp K mg (RD K mg) α H (f x s) E Q → r vx H Q
def CallOk (f : List D → Store → R D) (r : List V → Hp → VK → Prop) : Prop := ∀ {α : Al} {H : Hp} {s : Store} {xs : List D} {vs : List V} {E : WH} {Q : VK}, RSt K mg H α s → RL K mg H α xs vs → wp K mg (RD K mg) α H (f xs s) E Q → r vs H Q
end
section
variable {K : PySem.W.Frag} {mg : Str → Option Value} {H : Hp} {α : Al} {s : Store} {E : WH} {Q : VK} {x : D} {v : V}
theorem wp_ok (h : wp K mg (RD K mg) α H (.ok x s) E Q) (S : RSt K mg H α s) (r : RD K mg H α x v) : Q v H := h α H v (Gr.refl α H) S r
/-- a new thing that never changes -/
theorem wp_new {p : Addr} {o : HO} (h : wp K mg (RD K mg) α H (.ok x s) E Q) (S : RSt K mg H α s) (hp : H p = none) (r : RD K mg (upd H p o) α x (.ref p)) : Q (.ref p) (upd H p o) := h α _ _ (Gr.laid S hp) (S.laid hp) r
theorem rd_tup {ds : List D} {xs : List V} {p : Addr} (S : RSt K mg H α s) (hp : H p = none) (l : RL K mg H α ds xs) : RD K mg (upd H p (.tup xs)) α (.tup ds) (.ref p) := by
  unfold RD
  exact ⟨p, xs, rfl, .inl ⟨S.notin hp, .inl upd_same⟩, l.gr (Gr.laid S hp).toGw⟩
theorem rd_lst {ds : List D} {xs : List V} {p : Addr} (S : RSt K mg H α s) (hp : H p = none) (l : RL K mg H α ds xs) : RD K mg (upd H p (.lst xs)) α (.fl ds) (.ref p) := by
  unfold RD
  exact ⟨p, xs, rfl, .inl ⟨S.notin hp, .inl upd_same⟩, l.gr (Gr.laid S hp).toGw⟩
/-- a new list of ours -/
theorem wp_cell {ds : List D} {xs : List V} {p : Addr} (h : wp K mg (RD K mg) α H (.ok (.ref s.length) (s ++ [.lst ds])) E Q) (S : RSt K mg H α s) (hp : H p = none) (l : RL K mg H α ds xs) : Q (.ref p) (upd H p (.lst xs)) :=
  h _ _ _ (Gr.push S hp) (S.push hp ⟨xs, upd_same, l.gr (Gr.push S hp).toGw⟩) (by
    unfold RD
    exact ⟨p, rfl, by show (α.c ++ [p])[s.length]? = some p; rw [← S.len, List.getElem?_append_right (Nat.le_refl _)]; simp⟩)
theorem RD.int_inv {i : Int} (h : RD K mg H α (.int i) v) : v = .int i := by unfold RD at h; exact h
theorem RD.bl_inv {i : Bool} (h : RD K mg H α (.bl i) v) : v = .bl i := by unfold RD at h; exact h
theorem RD.str_inv {i : Str} (h : RD K mg H α (.str i) v) : v = .str i := by unfold RD at h; exact h
theorem RD.non_inv (h : RD K mg H α .non v) : v = .non := by unfold RD at h; exact h
theorem RD.tup_inv {ds : List D} (h : RD K mg H α (.tup ds) v) : ∃ a xs, v = .ref a ∧ SqT K H a xs ∧ RL K mg H α ds xs := by
  unfold RD at h
  obtain ⟨a, xs, e, t, l⟩ := h
  exact ⟨a, xs, e, t.sq, l⟩
theorem RD.fl_inv {ds : List D} (h : RD K mg H α (.fl ds) v) : ∃ a xs, v = .ref a ∧ SqL K H a xs ∧ RL K mg H α ds xs := by
  unfold RD at h
  obtain ⟨a, xs, e, t, l⟩ := h
  exact ⟨a, xs, e, t.sq, l⟩
theorem RD.ref_inv {n : Nat} {ds : List D} (S : RSt K mg H α s) (c : s[n]? = some (.lst ds)) (h : RD K mg H α (.ref n) v) : ∃ a xs, v = .ref a ∧ α.c[n]? = some a ∧ H a = some (.lst xs) ∧ RL K mg H α ds xs := by
  unfold RD at h
  obtain ⟨a, e, t⟩ := h
  obtain ⟨xs, hx, l⟩ := S.cell n _ a c t
  exact ⟨a, xs, e, t, hx, l⟩
theorem RD.int (i : Int) : RD K mg H α (.int i) (.int i) := by unfold RD; rfl
theorem RD.bl (i : Bool) : RD K mg H α (.bl i) (.bl i) := by unfold RD; rfl
theorem RD.str (i : Str) : RD K mg H α (.str i) (.str i) := by unfold RD; rfl
theorem RD.non : RD K mg H α .non .non := by unfold RD; rfl
end
def big : Nat := 1000000
theorem big_line {n : Nat} (h : n ≤ big) : n ≤ sizeLine := Nat.le_trans h (by decide)
theorem big_lt {n : Nat} (h : n < big) : n < sizeLine := Nat.lt_of_lt_of_le h (by decide)
/-- the list, the tuple of a value -/
def D.seq (s : Store) : D → Option (List D)
  | .tup ds => some ds
  | .fl ds => some ds
  | .ref n => lstAt s n
  | _ => none
section
variable {K : PySem.W.Frag} {mg : Str → Option Value} {H : Hp} {α : Al} {s : Store} {d : D} {v : V} {ds : List D}
theorem RD.sq (S : RSt K mg H α s) (h : RD K mg H α d v) (e : d.seq s = some ds) : ∃ p xs, v = .ref p ∧ (SqL K H p xs ∨ SqT K H p xs) ∧ RL K mg H α ds xs := by
  cases d with
  | tup es => cases e; obtain ⟨a, xs, e, t, l⟩ := h.tup_inv; exact ⟨a, xs, e, .inr t, l⟩
  | fl es => cases e; obtain ⟨a, xs, e, t, l⟩ := h.fl_inv; exact ⟨a, xs, e, .inl t, l⟩
  | ref n => obtain ⟨a, xs, e, _, t, l⟩ := h.ref_inv S (lstAt_some e); exact ⟨a, xs, e, .inl (SqL.of t), l⟩
  | _ => cases e
end

def oAdd : O2 := fun x y s => match x, y with
  | .int i, .int j => .ok (.int (i + j)) s
  | .str a, .str b => if a.length + b.length ≤ big then .ok (.str (a ++ b)) s else .bad
  | .tup xs, .tup ys => if xs.length + ys.length ≤ big then .ok (.tup (xs ++ ys)) s else .bad
  | _, _ => .bad
def oSub : O2 := fun x y s => match x, y with
  | .int i, .int j => .ok (.int (i - j)) s
  | _, _ => .bad
def oMod : O2 := fun x y s => match x, y with
  | .int i, .int j => if 0 < j then .ok (.int (i % j)) s else .bad
  | _, _ => .bad
def oPow : O2 := fun x y s => match x, y with
  | .int i, .int j => if 0 ≤ j ∧ j ≤ 1000000 ∧ i.natAbs < 2 ^ 64 then .ok (.int (i ^ j.toNat)) s else .bad
  | _, _ => .bad
def oNeg : O1 := fun x s => match x with
  | .int i => .ok (.int (-i)) s
  | _ => .bad
def oCmpI (f : Int → Int → Bool) : O2 := fun x y s => match x, y with
  | .int i, .int j => .ok (.bl (f i j)) s
  | _, _ => .bad
abbrev oLt := oCmpI fun i j => decide (i < j)
abbrev oLe := oCmpI fun i j => decide (i ≤ j)
abbrev oGt := oCmpI fun i j => decide (j < i)
abbrev oGe := oCmpI fun i j => decide (j ≤ i)
def oEqN (neg : Bool) : O2 := fun x y s => match x.pyS s, y.pyS s with
  | some a, some b => if SeqAt.shaped a = true ∧ SeqAt.shaped b = true then .ok (.bl (if neg then !PyData.eqv a b else PyData.eqv a b)) s else .bad
  | _, _ => .bad
abbrev oEq := oEqN false
abbrev oNe := oEqN true
def D.isNon : D → Bool
  | .non => true
  | _ => false
def oIsN (neg : Bool) : O2 := fun x y s => match y with
  | .non => .ok (.bl (if neg then !x.isNon else x.isNon)) s
  | _ => .bad
/-- x in y: y a list, a tuple of data -/
def oInN (neg : Bool) : O2 := fun x y s => match x.py, (y.seq s).bind pyL with
  | some a, some bs => if SeqAt.shaped a = true ∧ SeqAt.shaped (.list bs) = true then .ok (.bl (if neg then !(bs.any fun z => PyData.eqv z a) else bs.any fun z => PyData.eqv z a)) s else .bad
  | _, _ => .bad
section
variable {X : Cx}
/-- x in a tuple of data -/
def rInU (K : PySem.W.Frag) (neg : Bool) : R2 := fun x y H Q => ∃ d ds, Dp K H x d ∧ (Dp K H y (.list ds) ∨ Dp K H y (.tuple ds)) ∧ SeqAt.shaped d = true ∧ SeqAt.shaped (.list ds) = true ∧ Q (.bl (if neg then !(ds.any fun z => PyData.eqv z d) else ds.any fun z => PyData.eqv z d)) H
theorem op_inU (hu : X.A.units + 65 < cLine) : OpR X (compareOp .In) (rInU X.K false) := by
  intro pins s σ H x y v u Q I rx ry h
  obtain ⟨d, ds, hd, he, sd, se, q⟩ := h
  obtain ⟨as, r1⟩ := Dp.reads I d x v hd rx
  rcases he with he | he
  · obtain ⟨bs, r2⟩ := Dp.reads I (.list ds) y u he ry
    exact SeqAt.in_list_reads r2 r1 (SeqAt.canLay_of_shaped se) (SeqAt.canLay_of_shaped sd) (room_in_shaped sd hu) ⟨.bl _, H, I, rfl, q⟩
  · obtain ⟨bs, r2⟩ := Dp.reads I (.tuple ds) y u he ry
    exact SeqAt.in_tuple_reads r2 r1 (SeqAt.canLay_of_shaped se) (SeqAt.canLay_of_shaped sd) (room_in_shaped sd hu) ⟨.bl _, H, I, rfl, q⟩
theorem op_notInU (hu : X.A.units + 65 < cLine) : OpR X (compareOp .NotIn) (rInU X.K true) := by
  intro pins s σ H x y v u Q I rx ry h
  obtain ⟨d, ds, hd, he, sd, se, q⟩ := h
  obtain ⟨as, r1⟩ := Dp.reads I d x v hd rx
  rcases he with he | he
  · obtain ⟨bs, r2⟩ := Dp.reads I (.list ds) y u he ry
    exact SeqAt.notIn_list_reads r2 r1 (SeqAt.canLay_of_shaped se) (SeqAt.canLay_of_shaped sd) (room_in_shaped sd hu) ⟨.bl _, H, I, rfl, q⟩
  · obtain ⟨bs, r2⟩ := Dp.reads I (.tuple ds) y u he ry
    exact SeqAt.notIn_tuple_reads r2 r1 (SeqAt.canLay_of_shaped se) (SeqAt.canLay_of_shaped sd) (room_in_shaped sd hu) ⟨.bl _, H, I, rfl, q⟩
end
section
variable {K : PySem.W.Frag} {mg : Str → Option Value}
def rAddA (K : PySem.W.Frag) : R2 := fun x y H Q => rI0 (fun i j => .int (i + j)) x y H Q ∨ (∃ i j, x = .str i ∧ y = .str j ∧ i.length + j.length ≤ sizeLine ∧ Q (.str (i ++ j)) H) ∨ rCatA K x y H Q
theorem op_addA {X : Cx} : OpR X (binaryOp .Add) (rAddA X.K) := op_add.or (op_add_str.or op_catA)
theorem ok_add : OpOk K mg oAdd (rAddA K) := fun {α H s x y vx vy E Q} S rx ry h => by
  unfold oAdd at h
  split at h
  · have e1 := rx.int_inv
    have e2 := ry.int_inv
    subst e1 e2
    exact .inl ⟨_, _, rfl, rfl, wp_ok h S (RD.int _)⟩
  · have e1 := rx.str_inv
    have e2 := ry.str_inv
    subst e1 e2
    split at h
    · rename_i hz
      exact .inr (.inl ⟨_, _, rfl, rfl, big_line hz, wp_ok h S (RD.str _)⟩)
    · exact h.elim
  · split at h
    · rename_i xs ys hz
      obtain ⟨a, us, rfl, ta, la⟩ := rx.tup_inv
      obtain ⟨b, ws, rfl, tb, lb⟩ := id ry.tup_inv
      refine .inr (.inr ⟨a, b, us, ws, rfl, rfl, ta, tb, ?_, ?_⟩)
      · rw [← la.length, ← lb.length]; exact big_line hz
      · refine ⟨fun z => ?_, fun z z2 => ?_, fun z z2 p hp => ?_⟩
        · subst z
          have e : xs = [] := List.eq_nil_of_length_eq_zero la.length
          subst e
          exact wp_ok h S ry
        · subst z2
          have e : ys = [] := List.eq_nil_of_length_eq_zero lb.length
          subst e
          rw [List.append_nil] at h
          exact wp_ok h S rx
        · exact wp_new h S hp (rd_tup S hp (la.append lb))
    · exact h.elim
  · exact h.elim
theorem ok_sub : OpOk K mg oSub (rI0 fun i j => .int (i - j)) := fun {α H s x y vx vy E Q} S rx ry h => by
  unfold oSub at h
  split at h
  · have e1 := rx.int_inv
    have e2 := ry.int_inv
    subst e1 e2
    exact ⟨_, _, rfl, rfl, wp_ok h S (RD.int _)⟩
  · exact h.elim
theorem ok_mod : OpOk K mg oMod (rI (fun _ j => 0 < j) fun i j => .int (i % j)) := fun {α H s x y vx vy E Q} S rx ry h => by
  unfold oMod at h
  split at h
  · have e1 := rx.int_inv
    have e2 := ry.int_inv
    subst e1 e2
    split at h
    · rename_i c
      exact ⟨_, _, rfl, rfl, c, wp_ok h S (RD.int _)⟩
    · exact h.elim
  · exact h.elim
theorem ok_pow : OpOk K mg oPow (rI CPow fun i j => .int (i ^ j.toNat)) := fun {α H s x y vx vy E Q} S rx ry h => by
  unfold oPow at h
  split at h
  · have e1 := rx.int_inv
    have e2 := ry.int_inv
    subst e1 e2
    split at h
    · rename_i c
      exact ⟨_, _, rfl, rfl, c, wp_ok h S (RD.int _)⟩
    · exact h.elim
  · exact h.elim
theorem ok_neg : UnOk K mg oNeg (rU fun i => .int (-i)) := fun {α H s x vx E Q} S rx h => by
  unfold oNeg at h
  split at h
  · have e1 := rx.int_inv
    subst e1
    exact ⟨_, rfl, wp_ok h S (RD.int _)⟩
  · exact h.elim
theorem ok_cmpI (f : Int → Int → Bool) : OpOk K mg (oCmpI f) (rI0 fun i j => .bl (f i j)) := fun {α H s x y vx vy E Q} S rx ry h => by
  unfold oCmpI at h
  split at h
  · have e1 := rx.int_inv
    have e2 := ry.int_inv
    subst e1 e2
    exact ⟨_, _, rfl, rfl, wp_ok h S (RD.bl _)⟩
  · exact h.elim
theorem ok_eq : OpOk K mg oEq (rEqD K) := fun {α H s x y vx vy E Q} S rx ry h => by
  unfold oEq oEqN at h
  split at h
  · rename_i a b e1 e2
    split at h
    · rename_i c
      exact ⟨a, b, rx.dpS S e1, ry.dpS S e2, c.1, c.2, wp_ok h S (RD.bl _)⟩
    · exact h.elim
  · exact h.elim
theorem ok_ne : OpOk K mg oNe (rNeD K) := fun {α H s x y vx vy E Q} S rx ry h => by
  unfold oNe oEqN at h
  split at h
  · rename_i a b e1 e2
    split at h
    · rename_i c
      exact ⟨a, b, rx.dpS S e1, ry.dpS S e2, c.1, c.2, wp_ok h S (RD.bl _)⟩
    · exact h.elim
  · exact h.elim
theorem isNon_rd {H : Hp} {α : Al} {x : D} {v : V} (r : RD K mg H α x v) : decide (v = .non) = x.isNon := by
  cases x with
  | non => rw [r.non_inv]; rfl
  | bl b => rw [r.bl_inv]; rfl
  | int b => rw [r.int_inv]; rfl
  | str b => rw [r.str_inv]; rfl
  | tup ds => obtain ⟨a, xs, rfl, _⟩ := r.tup_inv; rfl
  | fl ds => obtain ⟨a, xs, rfl, _⟩ := r.fl_inv; rfl
  | ref n => unfold RD at r; obtain ⟨a, rfl, _⟩ := r; rfl
  | ty n => unfold RD at r; subst r; rfl
  | cls c => unfold RD at r; obtain ⟨a, rfl, _⟩ := r; rfl
  | ins c fs => unfold RD at r; obtain ⟨a, C, dx, xs, rfl, _⟩ := r; rfl
  | exc c fs => unfold RD at r; obtain ⟨a, C, dx, rfl, _⟩ := r; rfl
  | fd a b => unfold RD at r; exact r.elim
theorem ok_isN : OpOk K mg (oIsN false) (fun x y H Q => y = .non ∧ Q (.bl (decide (x = .non))) H) := fun {α H s x y vx vy E Q} S rx ry h => by
  unfold oIsN at h
  split at h
  · exact ⟨ry.non_inv, by rw [isNon_rd rx]; exact wp_ok h S (RD.bl _)⟩
  · exact h.elim
theorem ok_notN : OpOk K mg (oIsN true) (fun x y H Q => y = .non ∧ Q (.bl (!decide (x = .non))) H) := fun {α H s x y vx vy E Q} S rx ry h => by
  unfold oIsN at h
  split at h
  · exact ⟨ry.non_inv, by rw [isNon_rd rx]; exact wp_ok h S (RD.bl _)⟩
  · exact h.elim
theorem ok_inU (neg : Bool) : OpOk K mg (oInN neg) (rInU K neg) := fun {α H s x y vx vy E Q} S rx ry h => by
  unfold oInN at h
  split at h
  · rename_i a bs e1 e2
    split at h
    · rename_i c
      refine ⟨a, bs, RD.dp _ _ _ rx e1, ?_, c.1, c.2, wp_ok h S (RD.bl _)⟩
      cases y with
      | tup ds => exact .inr (RD.dp _ _ _ ry (by unfold D.py; simp [D.seq] at e2; rw [e2]; rfl))
      | fl ds => exact .inl (RD.dp _ _ _ ry (by unfold D.py; simp [D.seq] at e2; rw [e2]; rfl))
      | ref n =>
        refine .inl (RD.dpS S ry ?_)
        unfold D.pyS
        unfold D.seq at e2
        obtain ⟨ds, q1, q2⟩ := Option.bind_eq_some_iff.mp e2
        simp [q1, q2]
      | _ => cases e2
    · exact h.elim
  · exact h.elim
end
end LY
/-! LayC: the rules for expressions, tests, arguments. -/
namespace LY
open PySem PySem.Spec PyProof.Rows L2
/-! ### functions -/
def mVar (i : Nat) : ME := fun ρ s => match ρ[i]? with
  | some (some d) => .ok d s
  | _ => .bad
def mC (d : D) : ME := fun _ s => .ok d s
def mUn (f : O1) (a : ME) : ME := fun ρ s => (a ρ s).bind f
def mBin (f : O2) (a b : ME) : ME := fun ρ s => (a ρ s).bind fun x s => (b ρ s).bind fun y s => f x y s
def mChain (f g : O2) (a b c : ME) : ME := fun ρ s => (a ρ s).bind fun x s => (b ρ s).bind fun y s => (f x y s).bind fun z s => match z with
  | .bl true => (c ρ s).bind fun w s => g y w s
  | .bl false => .ok (.bl false) s
  | _ => .bad
def mTst (m : ME) : MT := fun ρ s => (m ρ s).bind fun d s => match d with
  | .bl b => .ok b s
  | _ => .bad
def mAndT (a b : MT) : MT := fun ρ s => (a ρ s).bind fun c s => if c then b ρ s else .ok false s
def mOrT (a b : MT) : MT := fun ρ s => (a ρ s).bind fun c s => if c then .ok true s else b ρ s
def mNotT (a : MT) : MT := fun ρ s => (a ρ s).bind fun c s => .ok (!c) s
def mAndV (a b : ME) : ME := fun ρ s => (a ρ s).bind fun d s => match d with
  | .bl true => b ρ s
  | .bl false => .ok (.bl false) s
  | _ => .bad
def mOrV (a b : ME) : ME := fun ρ s => (a ρ s).bind fun d s => match d with
  | .bl true => .ok (.bl true) s
  | .bl false => b ρ s
  | _ => .bad
def mNotV (a : ME) : ME := fun ρ s => (a ρ s).bind fun d s => match d with
  | .bl b => .ok (.bl (!b)) s
  | _ => .bad
def mIfE (t : MT) (a b : ME) : ME := fun ρ s => (t ρ s).bind fun c s => if c then a ρ s else b ρ s
def aNil : MA := fun _ s => .ok [] s
def aCons (a : ME) (r : MA) : MA := fun ρ s => (a ρ s).bind fun x s => (r ρ s).bind fun xs s => .ok (x :: xs) s
def aStar (a : ME) (r : MA) : MA := fun ρ s => (a ρ s).bind fun x s => match x.seq s with
  | some ds => (r ρ s).bind fun xs s => .ok (ds ++ xs) s
  | none => .bad
def mArgs (f : List D → Store → R D) (a : MA) : ME := fun ρ s => (a ρ s).bind f
/-- displays -/
def fTup : List D → Store → R D := fun ds s => if ds.length ≤ big then .ok (.tup ds) s else .bad
def fLst : List D → Store → R D := fun ds s => if ds.length ≤ big then .ok (.fl ds) s else .bad
def fCel : List D → Store → R D := fun ds s => if ds.length ≤ big then .ok (.ref s.length) (s ++ [.lst ds]) else .bad
section
variable {X : Cx} {W : WX} {e a b c : Expr} {m ma mb mc : ME} {ta tb tc : MT} {es : List Expr} {mr : MA} {pos : Pos}
abbrev IE (X : Cx) (W : WX) (e : Expr) (m : ME) : Prop := PE X e (rdE X.K X.mg W m)
abbrev IT (X : Cx) (W : WX) (e : Expr) (m : MT) : Prop := PT X e (rdT X.K X.mg W m)
abbrev IW (X : Cx) (W : WX) (e : Expr) (m : MT) : Prop := PW X e (rdT X.K X.mg W m)
abbrev IA (X : Cx) (W : WX) (es : List Expr) (m : MA) : Prop := PA X es (rdA X.K X.mg W m)
abbrev IS (X : Cx) (W : WX) (st : Stmt) (m : MS) : Prop := PS X st (rdS X.K X.mg W m)
abbrev ISs (X : Cx) (W : WX) (st : List Stmt) (m : MS) : Prop := PSs X st (rdS X.K X.mg W m)
abbrev IG (X : Cx) (W : WX) (e : Expr) (m : MG) : Prop := PG X e (rdG X.K X.mg W m)
abbrev IGs (X : Cx) (W : WX) (es : List Expr) (m : List D → Envt → Store → Out) : Prop := PGs X es (rdGs X.K X.mg W m)
/-- go on behind a first result -/
theorem rd_then {K : PySem.W.Frag} {mg : Str → Option Value} {β γ : Type} {rel : Hp → Al → β → γ → Prop} {r : R D} {k : D → Store → R β} {α : Al} {H : Hp} {ρ : Envt} {s0 : Store} {σ : L2.St} {E : WH} {Q : γ → Hp → Prop} {T : V → Hp → Prop} (S : Sim K mg α H ρ s0 σ)
    (h : wp K mg rel α H (r.bind k) E Q) (t : ∀ α1 H1 s1 d v, Sim K mg α1 H1 ρ s1 σ → RD K mg H1 α1 d v → Gr α H α1 H1 → wp K mg rel α1 H1 (k d s1) E Q → T v H1) : wp K mg (RD K mg) α H r E T :=
  wp.imp (wp_bind (rel := RD K mg) h) fun v H1 ⟨α1, s1, d, g, st, r1, q⟩ => t α1 H1 s1 d v (S.gr g st) r1 g q
theorem e_var (i : Nat) {x : Str} (hN : X.N[i]? = some x := by rfl) (hv : Vis X.env.scope x := by first | exact Or.inl rfl | exact Or.inr (Or.inl rfl) | exact Or.inr (Or.inr rfl)) (hd : (x == ("__debug__" : Str)) = false := by decide)
    (hcd : (x == ("__classdict__" : Str)) = false := by decide) : IE X W (.Name x pos) (mVar i) := PE_imp (pe_var hN hv hd hcd) fun σ H Q ⟨α, ρ, s, S, h⟩ => by
  unfold mVar at h
  split at h
  · rename_i d q
    obtain ⟨v, h1, h2⟩ := S.env i d q
    exact ⟨v, h1, wp_ok h S.st h2⟩
  · exact h.elim
theorem e_const {d : D} {v : V} (h : PE X e (tC v)) (r : ∀ H α, RD X.K X.mg H α d v) : IE X W e (mC d) := PE_imp h fun σ H Q ⟨α, ρ, s, S, q⟩ => wp_ok q S.st (r H α)
theorem e_int {i : Int} {j} : IE X W (.Constant (.int i) j pos) (mC (.int i)) := e_const pe_int fun _ _ => RD.int i
theorem e_bl {i : Bool} {j} : IE X W (.Constant (.bool i) j pos) (mC (.bl i)) := e_const pe_bl fun _ _ => RD.bl i
theorem e_str {i : Str} {j} : IE X W (.Constant (.str i) j pos) (mC (.str i)) := e_const pe_str fun _ _ => RD.str i
theorem e_non {j} : IE X W (.Constant .none j pos) (mC .non) := e_const pe_non fun _ _ => RD.non
/-- a module's number -/
theorem e_gint {x : Str} {i : Int} (hm : ∃ t, X.mg x = some (.int i t)) (hg : Gl X x := by rfl) (hd : (x == ("__debug__" : Str)) = false := by decide) : IE X W (.Name x pos) (mC (.int i)) := by
  obtain ⟨t, hm⟩ := hm
  exact e_const (pe_glob (v := .int i) hg hm ⟨t, rfl⟩ hd) fun _ _ => RD.int i
theorem e_cls {x : Str} (cn : CN) {C : Addr} (hm : X.mg x = some (.ref C)) (hx : cn.str = x := by rfl) (hg : Gl X x := by rfl) (hd : (x == ("__debug__" : Str)) = false := by decide) : IE X W (.Name x pos) (mC (.cls cn)) := by
  refine e_const (pe_glob (v := .ref C) hg hm rfl hd) fun _ _ => ?_
  unfold RD
  exact ⟨C, rfl, by rw [hx]; exact hm⟩
theorem e_ty {x : Str} (n : String) (hm : X.mg x = none) (hv : bootBuiltins x = some (.type n) := by first | exact PySem.boot_int | exact PySem.boot_str | decide +kernel) (hg : Gl X x := by rfl) (hn : x ≠ "__name__" := by decide) (hd : (x == ("__debug__" : Str)) = false := by decide) : IE X W (.Name x pos) (mC (.ty n)) :=
  e_const (pe_bltn (v := .ty n) hg hm hv rfl hn hd) fun _ _ => by unfold RD; rfl
theorem rd_bin {f : O2} {r : R2} {K : PySem.W.Frag} {mg : Str → Option Value} (hf : OpOk K mg f r) {σ : L2.St} {H : Hp} {Q : VK} (h : rdE K mg W (mBin f ma mb) σ H Q) : tOp r (rdE K mg W ma) (rdE K mg W mb) σ H Q := by
  obtain ⟨α, ρ, s, S, h⟩ := h
  refine ⟨α, ρ, s, S, rd_then S h fun α1 H1 s1 x vx S1 rx g1 h1 => ⟨α1, ρ, s1, S1, rd_then S1 h1 fun α2 H2 s2 y vy S2 ry g2 h2 => hf S2.st (RD.gr g2.toGw _ _ rx) ry h2⟩⟩
theorem e_bin {op : Operator} {f : O2} {r : R2} (ho : OpR X (binaryOp op) r) (hf : OpOk X.K X.mg f r) (ha : IE X W a ma) (hb : IE X W b mb) : IE X W (.BinOp a op b pos) (mBin f ma mb) := PE_imp (pe_op ho ha hb) fun _ _ _ h => rd_bin hf h
theorem e_un {op : UnaryOp} {f : O1} {r : V → Hp → VK → Prop} (ho : UnR X (unaryOp op) r) (hf : UnOk X.K X.mg f r) (ha : IE X W a ma) : IE X W (.UnaryOp op a pos) (mUn f ma) := PE_imp (pe_un ho ha) fun _ _ _ ⟨α, ρ, s, S, h⟩ => ⟨α, ρ, s, S, rd_then S h fun α1 H1 s1 x vx S1 rx g1 h1 => hf S1.st rx h1⟩
theorem e_cmp {op : CmpOp} {f : O2} {r : R2} (ho : OpR X (compareOp op) r) (hf : OpOk X.K X.mg f r) (hm : behindInMarks op b = false) (ha : IE X W a ma) (hb : IE X W b mb) : IE X W (.Compare a [op] [b] pos) (mBin f ma mb) := PE_imp (pe_cmpR ho ha hb hm) fun _ _ _ h => rd_bin hf h
theorem rd_tst {K : PySem.W.Frag} {mg : Str → Option Value} {σ : L2.St} {H : Hp} {Q : Bool → Hp → Prop} (h : rdT K mg W (mTst m) σ H Q) : rdE K mg W m σ H (fun x H' => ∃ k, x = .bl k ∧ Q k H') := by
  obtain ⟨α, ρ, s, S, h⟩ := h
  refine ⟨α, ρ, s, S, rd_then S h fun α1 H1 s1 x vx S1 rx g1 h1 => ?_⟩
  split at h1
  · rename_i k
    exact ⟨k, rx.bl_inv, h1 α1 H1 k (Gr.refl _ _) S1.st rfl⟩
  · exact h1.elim
theorem t_cmp {op : CmpOp} {f : O2} {r : R2} (ho : OpR X (compareOp op) r) (hf : OpOk X.K X.mg f r) (hm : behindInMarks op b = false) (ha : IE X W a ma) (hb : IE X W b mb) : IT X W (.Compare a [op] [b] pos) (mTst (mBin f ma mb)) :=
  PT_imp (pt_cmpR ho ha hb hm) fun _ _ _ h => rd_bin hf (rd_tst h)
theorem rd_chain {f g : O2} {r r' : R2} {K : PySem.W.Frag} {mg : Str → Option Value} (hf : OpOk K mg f r) (hg : OpOk K mg g r') {σ : L2.St} {H : Hp} {Q : VK} (h : rdE K mg W (mChain f g ma mb mc) σ H Q) : tChain r r' (rdE K mg W ma) (rdE K mg W mb) (rdE K mg W mc) σ H Q := by
  obtain ⟨α, ρ, s, S, h⟩ := h
  refine ⟨α, ρ, s, S, rd_then S h fun α1 H1 s1 x vx S1 rx g1 h1 => ⟨α1, ρ, s1, S1, rd_then S1 h1 fun α2 H2 s2 y vy S2 ry g2 h2 => hf S2.st (RD.gr g2.toGw _ _ rx) ry (rd_then S2 h2 fun α3 H3 s3 z vz S3 rz g3 h3 => ?_)⟩⟩
  split at h3
  · exact ⟨true, rz.bl_inv, iteT ⟨α3, ρ, s3, S3, rd_then S3 h3 fun α4 H4 s4 w vw S4 rw' g4 h4 => hg S4.st (RD.gr g4.toGw _ _ (RD.gr g3.toGw _ _ ry)) rw' h4⟩⟩
  · exact ⟨false, rz.bl_inv, iteF (wp_ok h3 S3.st (RD.bl _))⟩
  · exact h3.elim
theorem e_chain {op op' : CmpOp} {f g : O2} {r r' : R2} (ho : OpR X (compareOp op) r) (hf : OpOk X.K X.mg f r) (ho' : OpR X (compareOp op') r') (hg : OpOk X.K X.mg g r') (ha : IE X W a ma) (hb : IE X W b mb) (hc : IE X W c mc)
    (hm : lastMarks [op, op'] [b, c] = false := by with_unfolding_all rfl) : IE X W (.Compare a [op, op'] [b, c] pos) (mChain f g ma mb mc) := PE_imp (pe_chain ho ho' ha hb hc hm) fun _ _ _ h => rd_chain hf hg h
theorem t_chain {op op' : CmpOp} {f g : O2} {r r' : R2} (ho : OpR X (compareOp op) r) (hf : OpOk X.K X.mg f r) (ho' : OpR X (compareOp op') r') (hg : OpOk X.K X.mg g r') (ha : IE X W a ma) (hb : IE X W b mb) (hc : IE X W c mc)
    (hm : lastMarks [op, op'] [b, c] = false := by with_unfolding_all rfl) : IT X W (.Compare a [op, op'] [b, c] pos) (mTst (mChain f g ma mb mc)) := PT_imp (pt_chain ho ho' ha hb hc hm) fun _ _ _ h => rd_chain hf hg (rd_tst h)
/-- a bool as a test -/
theorem t_val (h : IE X W e m) (he : ∀ whole, isTrue e X.env whole = (do let v ← whole; standAt e.pos; holding [v] (truthy v)) := by intro _; rfl) : IT X W e (mTst m) := PT_imp (pt_val h he) fun _ _ _ h => rd_tst h
theorem rd_thenT {K : PySem.W.Frag} {mg : Str → Option Value} {β γ : Type} {rel : Hp → Al → β → γ → Prop} {r : R Bool} {k : Bool → Store → R β} {α : Al} {H : Hp} {ρ : Envt} {s0 : Store} {σ : L2.St} {E : WH} {Q : γ → Hp → Prop} {T : Bool → Hp → Prop} (S : Sim K mg α H ρ s0 σ)
    (h : wp K mg rel α H (r.bind k) E Q) (t : ∀ α1 H1 s1 c, Sim K mg α1 H1 ρ s1 σ → Gr α H α1 H1 → wp K mg rel α1 H1 (k c s1) E Q → T c H1) : wp K mg RB α H r E T :=
  wp.imp (wp_bind (rel := RB) h) fun v H1 ⟨α1, s1, d, g, st, r1, q⟩ => by
    have e : v = d := r1
    subst e
    exact t α1 H1 s1 _ (S.gr g st) g q
theorem t_and1 (ha : IT X W a ta) : IW X W (.BoolOp .And [a] pos) ta := pw_and1 ha
theorem t_or1 (ha : IT X W a ta) : IW X W (.BoolOp .Or [a] pos) ta := pw_or1 ha
theorem t_and {rest : List Expr} (ha : IT X W a ta) (hb : IW X W (.BoolOp .And (b :: rest) pos) tb) : IW X W (.BoolOp .And (a :: b :: rest) pos) (mAndT ta tb) := PW_imp (pw_and ha hb) fun σ H Q ⟨α, ρ, s, S, h⟩ => ⟨α, ρ, s, S, rd_thenT S h fun α1 H1 s1 c S1 g1 h1 => by
  cases c with
  | true => exact ⟨α1, ρ, s1, S1, h1⟩
  | false => exact h1 α1 H1 false (Gr.refl _ _) S1.st rfl⟩
theorem t_or {rest : List Expr} (ha : IT X W a ta) (hb : IW X W (.BoolOp .Or (b :: rest) pos) tb) : IW X W (.BoolOp .Or (a :: b :: rest) pos) (mOrT ta tb) := PW_imp (pw_or ha hb) fun σ H Q ⟨α, ρ, s, S, h⟩ => ⟨α, ρ, s, S, rd_thenT S h fun α1 H1 s1 c S1 g1 h1 => by
  cases c with
  | false => exact ⟨α1, ρ, s1, S1, h1⟩
  | true => exact h1 α1 H1 true (Gr.refl _ _) S1.st rfl⟩
theorem t_w (h : IW X W e ta) : IT X W e ta := h.pt
theorem t_not (ha : IT X W a ta) : IT X W (.UnaryOp .Not a pos) (mNotT ta) := PT_imp (pt_not ha) fun σ H Q ⟨α, ρ, s, S, h⟩ => ⟨α, ρ, s, S, rd_thenT S h fun α1 H1 s1 c S1 g1 h1 => h1 α1 H1 (!c) (Gr.refl _ _) S1.st rfl⟩
theorem e_one {op} (h : IE X W a ma) : IE X W (.BoolOp op [a] pos) ma := pe_one h
theorem e_and {rest : List Expr} (ha : IE X W a ma) (hb : IE X W (.BoolOp .And (b :: rest) pos) mb) : IE X W (.BoolOp .And (a :: b :: rest) pos) (mAndV ma mb) := PE_imp (pe_and ha hb) fun σ H Q ⟨α, ρ, s, S, h⟩ => ⟨α, ρ, s, S, rd_then S h fun α1 H1 s1 x vx S1 rx g1 h1 => by
  split at h1
  · exact ⟨true, rx.bl_inv, iteT ⟨α1, ρ, s1, S1, h1⟩⟩
  · exact ⟨false, rx.bl_inv, iteF (wp_ok h1 S1.st (RD.bl _))⟩
  · exact h1.elim⟩
theorem e_or {rest : List Expr} (ha : IE X W a ma) (hb : IE X W (.BoolOp .Or (b :: rest) pos) mb) : IE X W (.BoolOp .Or (a :: b :: rest) pos) (mOrV ma mb) := PE_imp (pe_or ha hb) fun σ H Q ⟨α, ρ, s, S, h⟩ => ⟨α, ρ, s, S, rd_then S h fun α1 H1 s1 x vx S1 rx g1 h1 => by
  split at h1
  · exact ⟨true, rx.bl_inv, iteT (wp_ok h1 S1.st (RD.bl _))⟩
  · exact ⟨false, rx.bl_inv, iteF ⟨α1, ρ, s1, S1, h1⟩⟩
  · exact h1.elim⟩
theorem e_not (ha : IE X W a ma) : IE X W (.UnaryOp .Not a pos) (mNotV ma) := PE_imp (pe_not ha) fun σ H Q ⟨α, ρ, s, S, h⟩ => ⟨α, ρ, s, S, rd_then S h fun α1 H1 s1 x vx S1 rx g1 h1 => by
  split at h1
  · exact ⟨_, rx.bl_inv, wp_ok h1 S1.st (RD.bl _)⟩
  · exact h1.elim⟩
theorem e_ifE (hc : IT X W c tc) (ha : IE X W a ma) (hb : IE X W b mb) : IE X W (.IfExp c a b pos) (mIfE tc ma mb) := PE_imp (pe_ifExp hc ha hb) fun σ H Q ⟨α, ρ, s, S, h⟩ => ⟨α, ρ, s, S, rd_thenT S h fun α1 H1 s1 c S1 g1 h1 => by
  cases c with
  | true => exact iteT ⟨α1, ρ, s1, S1, h1⟩
  | false => exact iteF ⟨α1, ρ, s1, S1, h1⟩⟩
theorem a_nil : IA X W [] aNil := PA_imp pa_nil fun σ H Q ⟨α, ρ, s, S, h⟩ => h α H [] (Gr.refl _ _) S.st RL.nil
theorem rd_thenA {K : PySem.W.Frag} {mg : Str → Option Value} {β γ : Type} {rel : Hp → Al → β → γ → Prop} {r : R (List D)} {k : List D → Store → R β} {α : Al} {H : Hp} {ρ : Envt} {s0 : Store} {σ : L2.St} {E : WH} {Q : γ → Hp → Prop} {T : List V → Hp → Prop} (S : Sim K mg α H ρ s0 σ)
    (h : wp K mg rel α H (r.bind k) E Q) (t : ∀ α1 H1 s1 ds vs, Sim K mg α1 H1 ρ s1 σ → RL K mg H1 α1 ds vs → Gr α H α1 H1 → wp K mg rel α1 H1 (k ds s1) E Q → T vs H1) : wp K mg (RL K mg) α H r E T :=
  wp.imp (wp_bind (rel := RL K mg) h) fun v H1 ⟨α1, s1, d, g, st, r1, q⟩ => t α1 H1 s1 d v (S.gr g st) r1 g q
theorem a_cons (ha : IE X W e m) (hr : IA X W es mr) (hs : starEach (e :: es) X.env = (false, eval e X.env) :: starEach es X.env := by rfl) : IA X W (e :: es) (aCons m mr) := PA_imp (pa_cons ha hr hs) fun σ H Q ⟨α, ρ, s, S, h⟩ => ⟨α, ρ, s, S, rd_then S h fun α1 H1 s1 x vx S1 rx g1 h1 =>
  ⟨α1, ρ, s1, S1, rd_thenA S1 h1 fun α2 H2 s2 xs vs S2 rl g2 h2 => h2 α2 H2 _ (Gr.refl _ _) S2.st (RL.cons (RD.gr g2.toGw _ _ rx) rl)⟩⟩
theorem a_star {p : Pos} (ha : IE X W e m) (hr : IA X W es mr) (hs : starEach (.Starred e p :: es) X.env = (true, eval e X.env) :: starEach es X.env := by rfl) : IA X W (.Starred e p :: es) (aStar m mr) := PA_imp (StX.pa_star ha hr hs) fun σ H Q ⟨α, ρ, s, S, h⟩ => ⟨α, ρ, s, S, rd_then S h fun α1 H1 s1 x vx S1 rx g1 h1 => by
  split at h1
  · rename_i ds q
    obtain ⟨p, xs, rfl, hq, l⟩ := rx.sq S1.st q
    exact ⟨p, xs, rfl, hq.symm, α1, ρ, s1, S1, rd_thenA S1 h1 fun α2 H2 s2 ys vs S2 rl g2 h2 => h2 α2 H2 _ (Gr.refl _ _) S2.st ((l.gr g2.toGw).append rl)⟩
  · exact h1.elim⟩
theorem e_tup {k} (h : IA X W es mr) : IE X W (.Tuple es k pos) (mArgs fTup mr) := PE_imp (pe_tup h) fun σ H Q ⟨α, ρ, s, S, h⟩ => ⟨α, ρ, s, S, rd_thenA S h fun α1 H1 s1 ds vs S1 rl g1 h1 => by
  unfold fTup at h1
  split at h1
  · rename_i c
    exact ⟨by rw [← rl.length]; exact big_line c, fun p hp => wp_new h1 S1.st hp (rd_tup S1.st hp rl)⟩
  · exact h1.elim⟩
theorem e_lst (h : IA X W es mr) : IE X W (.List es pos) (mArgs fLst mr) := PE_imp (pe_lst h) fun σ H Q ⟨α, ρ, s, S, h⟩ => ⟨α, ρ, s, S, rd_thenA S h fun α1 H1 s1 ds vs S1 rl g1 h1 => by
  unfold fLst at h1
  split at h1
  · rename_i c
    exact ⟨by rw [← rl.length]; exact big_line c, fun p hp => wp_new h1 S1.st hp (rd_lst S1.st hp rl)⟩
  · exact h1.elim⟩
/-- a list that will be changed -/
theorem e_cel (h : IA X W es mr) : IE X W (.List es pos) (mArgs fCel mr) := PE_imp (pe_lst h) fun σ H Q ⟨α, ρ, s, S, h⟩ => ⟨α, ρ, s, S, rd_thenA S h fun α1 H1 s1 ds vs S1 rl g1 h1 => by
  unfold fCel at h1
  split at h1
  · rename_i c
    exact ⟨by rw [← rl.length]; exact big_line c, fun p hp => wp_cell h1 S1.st hp rl⟩
  · exact h1.elim⟩
/-- a built-in by its name -/
theorem rd_args {f : List D → Store → R D} {r : List V → Hp → VK → Prop} {K : PySem.W.Frag} {mg : Str → Option Value} (ok : CallOk K mg f r) {σ : L2.St} {H : Hp} {Q : VK} (h : rdE K mg W (mArgs f mr) σ H Q) : tCB r (rdA K mg W mr) σ H Q := by
  obtain ⟨α, ρ, s, S, h⟩ := h
  exact ⟨α, ρ, s, S, rd_thenA S h fun α1 H1 s1 ds vs S1 rl g1 h1 => ok S1.st rl h1⟩
theorem e_blt {x : Str} {id : String} {f : List D → Store → R D} {r : List V → Hp → VK → Prop} {p : Pos} (hc : CallR X (.builtin id) r) (ok : CallOk X.K X.mg f r) (hm : X.mg x = none) (ha : IA X W (e :: es) mr) (hv : bootBuiltins x = some (.builtin id) := by decide +kernel) (hg : Gl X x := by rfl)
    (hn : x ≠ "__name__" := by decide) (hdb : (x == ("__debug__" : Str)) = false := by decide) (he : starEach (e :: es) X.env = (false, eval e X.env) :: starEach es X.env := by rfl)
    (hpl : (backTo pos (starEach es X.env)).any (·.1) = false := by rfl) : IE X W (.Call (.Name x p) (e :: es) [] pos) (mArgs f mr) := PE_imp (pe_callB hc hg hm hv ha hn hdb he hpl) fun _ _ _ h => rd_args ok h
theorem e_cty {x : Str} {T : String} {f : List D → Store → R D} {r : List V → Hp → VK → Prop} {p : Pos} (hc : CallR X (.type T) r) (ok : CallOk X.K X.mg f r) (hm : X.mg x = none) (ha : IA X W (e :: es) mr) (hv : bootBuiltins x = some (.type T) := by decide +kernel) (hg : Gl X x := by rfl)
    (hn : x ≠ "__name__" := by decide) (hdb : (x == ("__debug__" : Str)) = false := by decide) (he : starEach (e :: es) X.env = (false, eval e X.env) :: starEach es X.env := by rfl)
    (hpl : (backTo pos (starEach es X.env)).any (·.1) = false := by rfl) : IE X W (.Call (.Name x p) (e :: es) [] pos) (mArgs f mr) := PE_imp (pe_callTy hc hg hm hv ha hn hdb he hpl) fun _ _ _ h => rd_args ok h
end
end LY
/-! LayD: statements, loops, targets, what is walked. -/
namespace LY
open PySem PySem.Spec PyProof.Rows L2
/-! ### functions -/
/-- a target's end -/
def Out.only (o : Out) : Out := match o with
  | .nx ρ s => .nx ρ s
  | .er e ρ s => .er e ρ s
  | _ => .bad
def mNx : MS := fun ρ s => .nx ρ s
def mSeq (a b : MS) : MS := fun ρ s => (a ρ s).seq b
def mSet (i : Nat) (m : ME) : MS := fun ρ s => (m ρ s).out ρ fun d s => .nx (ρ.set i (some d)) s
def mAsg (m : ME) (g : MG) : MS := fun ρ s => (m ρ s).out ρ fun d s => (g d ρ s).only
def mAug (f : O2) (i : Nat) (m : ME) : MS := fun ρ s => match ρ[i]? with
  | some (some x) => (m ρ s).out ρ fun y s => (f x y s).out ρ fun z s => .nx (ρ.set i (some z)) s
  | _ => .bad
def mDrop (m : ME) : MS := fun ρ s => (m ρ s).out ρ fun _ s => .nx ρ s
def mRet (m : ME) : MS := fun ρ s => (m ρ s).out ρ fun d s => .rt d s
def mRetN : MS := fun _ s => .rt .non s
def mIf (t : MT) (a b : MS) : MS := fun ρ s => (t ρ s).out ρ fun c s => if c then a ρ s else b ρ s
def mBrk : MS := fun ρ s => .bk ρ s
def mCnt : MS := fun ρ s => .ct ρ s
def mRaise (c : CN) : MS := fun ρ s => .er ⟨c, []⟩ ρ s
def mBad : MS := fun _ _ => .bad
/-- targets -/
def gNm (i : Nat) : MG := fun d ρ s => .nx (ρ.set i (some d)) s
def gsNil : List D → Envt → Store → Out := fun ds ρ s => match ds with
  | [] => .nx ρ s
  | _ => .bad
def gsCons (g : MG) (r : List D → Envt → Store → Out) : List D → Envt → Store → Out := fun ds ρ s => match ds with
  | d :: ds => (g d ρ s).only.seq fun ρ s => r ds ρ s
  | [] => .bad
def gTp (n : Nat) (r : List D → Envt → Store → Out) : MG := fun d ρ s => match d with
  | .tup ds => if ds.length = n then r ds ρ s else .bad
  | _ => .bad
/-- xs[i] = d, xs a list of ours -/
def fIx (n : Nat) (i : Int) : Option Nat := ixN n i
def gSb (o i : ME) : MG := fun d ρ s => (o ρ s).out ρ fun x s => (i ρ s).out ρ fun y s => match x, y with
  | .ref n, .int k => (match lstAt s n with
    | some ds => (match ixN ds.length k with
      | some j => .nx ρ (s.set n (.lst (ds.set j d)))
      | none => .bad)
    | none => .bad)
  | _, _ => .bad
/-! loops -/
/-- cells that must hold the same list while they are walked -/
abbrev Gd := List (Nat × List D)
abbrev MI := Envt → Store → R (List D × Gd)
def gdOk (gd : Gd) (s : Store) : Prop := ∀ p ∈ gd, s[p.1]? = some (.lst p.2)
/-- the end of a turn -/
def Out.turn (o : Out) (k : Envt → Store → Out) : Out := match o with
  | .nx ρ s => k ρ s
  | .ct ρ s => k ρ s
  | .bk ρ s => .nx ρ s
  | o => o
open Classical in
noncomputable def forL (gd : Gd) (g : MG) (body : MS) : List D → Envt → Store → Out
  | [], ρ, s => if gdOk gd s then .nx ρ s else .bad
  | d :: ds, ρ, s => if gdOk gd s then ((g d ρ s).only.seq body).turn fun ρ s => forL gd g body ds ρ s else .bad
noncomputable def mFor (mi : MI) (g : MG) (body : MS) : MS := fun ρ s => (mi ρ s).out ρ fun p s => forL p.2 g body p.1 ρ s
def mWhile (n : Nat) (t : MT) (body : MS) : MS := match n with
  | 0 => fun _ _ => .bad
  | n + 1 => fun ρ s => (t ρ s).out ρ fun c s => if c then (body ρ s).turn fun ρ s => mWhile n t body ρ s else .nx ρ s

section
variable {K : PySem.W.Frag} {mg : Str → Option Value} {W : WX} {m : ME} {ma mb : MS} {mt : MT} {D : Ends} {σ : L2.St} {H : Hp}
theorem rd_out {β : Type} {rel : Hp → Al → LY.D → V → Prop} {α : Al} {ρ : Envt} {s0 : Store} {r : R LY.D} {k : LY.D → Store → Out} {T : V → Hp → Prop} (S : Sim K mg α H ρ s0 σ) (h : wpS K mg α H (r.out ρ k) W D)
    (t : ∀ α1 H1 s1 d v, Sim K mg α1 H1 ρ s1 σ → RD K mg H1 α1 d v → Gr α H α1 H1 → wpS K mg α1 H1 (k d s1) W D → T v H1) : wp K mg (RD K mg) α H r (fun C dd H' => W C dd σ H') T :=
  wp.imp (wpS_out (rel := RD K mg) S h) fun v H1 ⟨α1, s1, d, g, st, r1, q⟩ => t α1 H1 s1 d v (S.gr g st) r1 g q
theorem wpS.imp {α : Al} {o : Out} {D' : Ends} {W' : WX} (h : wpS K mg α H o W D) (h1 : ∀ σ H, D.nx σ H → D'.nx σ H) (h2 : ∀ v H, D.rt v H → D'.rt v H) (h3 : ∀ σ H, D.bk σ H → D'.bk σ H) (h4 : ∀ σ H, D.ct σ H → D'.ct σ H) (h5 : ∀ C d σ H, W C d σ H → W' C d σ H) : wpS K mg α H o W' D' := by
  cases o with
  | nx ρ s => exact fun α' H' σ' g S => h1 _ _ (h α' H' σ' g S)
  | rt d s => exact fun α' H' v g S r => h2 _ _ (h α' H' v g S r)
  | bk ρ s => exact fun α' H' σ' g S => h3 _ _ (h α' H' σ' g S)
  | ct ρ s => exact fun α' H' σ' g S => h4 _ _ (h α' H' σ' g S)
  | er e ρ s => exact fun α' H' σ' C dd g S c x => h5 _ _ _ _ (h α' H' σ' C dd g S c x)
  | bad => exact h
theorem wpS_only {α : Al} {o : Out} {Q : L2.St → Hp → Prop} (h : wpS K mg α H o.only W D) (q : ∀ σ H, D.nx σ H → Q σ H) : wpS K mg α H o W { nx := Q, rt := fun _ _ => False } := by
  cases o with
  | nx ρ s => exact fun α' H' σ' g S => q _ _ (h α' H' σ' g S)
  | er e ρ s => exact h
  | _ => exact h.elim
theorem wpS_seq {α : Al} {o : Out} {k : Envt → Store → Out} (h : wpS K mg α H (o.seq k) W D) : wpS K mg α H o W { D with nx := fun σ' H' => ∃ α' ρ s, Gr α H α' H' ∧ Sim K mg α' H' ρ s σ' ∧ wpS K mg α' H' (k ρ s) W D } := by
  cases o with
  | nx ρ s => exact fun α' H' σ' g S => ⟨α', ρ, s, g, S, h.gr g⟩
  | _ => exact h
theorem wpS_turn {α : Al} {o : Out} {k : Envt → Store → Out} (h : wpS K mg α H (o.turn k) W D) : wpS K mg α H o W { D with nx := fun σ' H' => ∃ α' ρ s, Gr α H α' H' ∧ Sim K mg α' H' ρ s σ' ∧ wpS K mg α' H' (k ρ s) W D, ct := fun σ' H' => ∃ α' ρ s, Gr α H α' H' ∧ Sim K mg α' H' ρ s σ' ∧ wpS K mg α' H' (k ρ s) W D, bk := D.nx } := by
  cases o with
  | nx ρ s => exact fun α' H' σ' g S => ⟨α', ρ, s, g, S, h.gr g⟩
  | ct ρ s => exact fun α' H' σ' g S => ⟨α', ρ, s, g, S, h.gr g⟩
  | _ => exact h
end
section
variable {X : Cx} {W : WX} {e a b c o : Expr} {m ma mb mo mi : ME} {ms mu mz : MS} {mt : MT} {st : Stmt} {rest : List Stmt} {pos : Pos}
theorem s_nil : ISs X W [] mNx := PSs_imp pss_nil fun D σ H ⟨α, ρ, s, S, h⟩ => h α H σ (Gr.refl _ _) S
theorem s_cons (h1 : IS X W st ms) (h2 : ISs X W rest mu) : ISs X W (st :: rest) (mSeq ms mu) := PSs_imp (pss_cons h1 h2) fun D σ H ⟨α, ρ, s, S, h⟩ => ⟨α, ρ, s, S, (wpS_seq h).imp (fun σ' H' ⟨α', ρ', s', g, S', q⟩ => ⟨α', ρ', s', S', q⟩) (fun _ _ z => z) (fun _ _ z => z) (fun _ _ z => z) fun _ _ _ _ z => z⟩
theorem s_one (h1 : IS X W st ms) : ISs X W [st] ms := pss_one h1
theorem rd_set {i : Nat} {K : PySem.W.Frag} {mg : Str → Option Value} {D : Ends} {σ : L2.St} {H : Hp} (h : rdS K mg W (mSet i m) D σ H) : tAsg (rdE K mg W m) (gName i) D σ H := by
  obtain ⟨α, ρ, s, S, h⟩ := h
  exact ⟨α, ρ, s, S, rd_out (β := Unit) (rel := RD K mg) S h fun α1 H1 s1 d v S1 r g q => q α1 H1 _ (Gr.refl _ _) (S1.set i r)⟩
theorem s_set (i : Nat) {x : Str} {pos' : Pos} (hN : X.N.Nodup) (he : IE X W e m) (hi : X.N[i]? = some x := by rfl) (hx : Loc X.env.scope x := by first | exact Or.inl rfl | exact Or.inr rfl) (hs : swapsWith e (some (.Name x pos')) pos.line X.env = pure false := by rfl)
    (hf : X.fn x = true ∨ X.env.scope.names.lookup x = some .local := by first | exact .inl rfl | exact .inr rfl | assumption) : IS X W (.Assign [.Name x pos'] e pos) (mSet i m) := PS_imp (ps_set hN hi hx he hs hf) fun _ _ _ h => rd_set h
theorem s_asg {tg : Expr} {g : MG} (he : IE X W e m) (hg : IG X W tg g) (hs : swapsWithSole [tg] e pos.line X.env = pure false := by rfl) (hw : swappedStores [tg] e X.env = pure none := by rfl)
    (h1 : (assignEach [tg] X.env).map (·.2) = [assign tg X.env] := by rfl) : IS X W (.Assign [tg] e pos) (mAsg m g) := PS_imp (ps_asg he hg hs hw h1) fun D σ H ⟨α, ρ, s, S, h⟩ => ⟨α, ρ, s, S, rd_out (β := Unit) (rel := RD X.K X.mg) S h fun α1 H1 s1 d v S1 r g q =>
      ⟨α1, ρ, s1, d, S1, r, wpS_only q fun _ _ z => z⟩⟩
theorem s_drop (he : IE X W e m) (hs : swapsWith e none pos.line X.env = pure false := by rfl) : IS X W (.Expr e pos) (mDrop m) := PS_imp (ps_expr he hs) fun D σ H ⟨α, ρ, s, S, h⟩ => ⟨α, ρ, s, S, rd_out (β := Unit) (rel := RD X.K X.mg) S h fun α1 H1 s1 d v S1 r g q => q α1 H1 σ (Gr.refl _ _) S1⟩
theorem s_ret (he : IE X W e m) : IS X W (.Return (some e) pos) (mRet m) := PS_imp (ps_ret he) fun D σ H ⟨α, ρ, s, S, h⟩ => ⟨α, ρ, s, S, rd_out (β := Unit) (rel := RD X.K X.mg) S h fun α1 H1 s1 d v S1 r g q => q α1 H1 v (Gr.refl _ _) S1.st r⟩
theorem s_retN : IS X W (.Return none pos) mRetN := PS_imp ps_retN fun D σ H ⟨α, ρ, s, S, h⟩ => h α H .non (Gr.refl _ _) S.st RD.non
theorem rd_outT {K : PySem.W.Frag} {mg : Str → Option Value} {D : Ends} {σ : L2.St} {H : Hp} {α : Al} {ρ : Envt} {s0 : Store} {r : R Bool} {k : Bool → Store → Out} {T : Bool → Hp → Prop} (S : Sim K mg α H ρ s0 σ) (h : wpS K mg α H (r.out ρ k) W D)
    (t : ∀ α1 H1 s1 c, Sim K mg α1 H1 ρ s1 σ → Gr α H α1 H1 → wpS K mg α1 H1 (k c s1) W D → T c H1) : wp K mg RB α H r (fun C dd H' => W C dd σ H') T :=
  wp.imp (wpS_out (rel := RB) S h) fun v H1 ⟨α1, s1, d, g, st, r1, q⟩ => by
    have e : v = d := r1
    subst e
    exact t α1 H1 s1 _ (S.gr g st) g q
theorem s_if {sa sb : List Stmt} (hc : IT X W c mt) (ha : ISs X W sa ms) (hb : ISs X W sb mu) : IS X W (.If c sa sb pos) (mIf mt ms mu) := PS_imp (ps_if hc ha hb) fun D σ H ⟨α, ρ, s, S, h⟩ => ⟨α, ρ, s, S, rd_outT S h fun α1 H1 s1 c S1 g q => by
  cases c with
  | true => exact iteT ⟨α1, ρ, s1, S1, q⟩
  | false => exact iteF ⟨α1, ρ, s1, S1, q⟩⟩
theorem s_pass : IS X W (.Pass pos) mNx := PS_imp ps_pass fun D σ H ⟨α, ρ, s, S, h⟩ => h α H σ (Gr.refl _ _) S
theorem s_break : IS X W (.Break pos) mBrk := PS_imp ps_break fun D σ H ⟨α, ρ, s, S, h⟩ => h α H σ (Gr.refl _ _) S
theorem s_continue : IS X W (.Continue pos) mCnt := PS_imp ps_continue fun D σ H ⟨α, ρ, s, S, h⟩ => h α H σ (Gr.refl _ _) S
theorem s_doc {x : Str} {j} {pos' : Pos} : IS X W (.Expr (.Constant (.str x) j pos) pos') mNx := PS_imp ps_doc fun D σ H ⟨α, ρ, s, S, h⟩ => h α H σ (Gr.refl _ _) S
theorem s_never : IS X W st mBad := PS_imp ps_never fun D σ H ⟨α, ρ, s, S, h⟩ => h
/-- x op= e, x in a slot -/
def IpOk (K : PySem.W.Frag) (mg : Str → Option Value) (f : O2) (r : TIp) : Prop := OpOk K mg f r
theorem s_aug {op : Operator} {f : O2} {r : R2} (i : Nat) {x : Str} {pos' : Pos} (hN : X.N.Nodup) (ho : OpR X (inplaceOp op) r) (hf : OpOk X.K X.mg f r) (he : IE X W e m) (hi : X.N[i]? = some x := by rfl) (hx : Loc X.env.scope x := by first | exact Or.inl rfl | exact Or.inr rfl)
    (hh : X.fn x = true ∨ X.env.scope.names.lookup x = some .local := by first | exact .inl rfl | exact .inr rfl | assumption) : IS X W (.AugAssign (.Name x pos') op e pos) (mAug f i m) :=
  PS_imp (ps_aug (ti := r) hN hi hx he (fun pins s σ H x y v u Q I r1 r2 h => ho pins s σ H x y v u Q I r1 r2 h) hh) fun D σ H ⟨α, ρ, s, S, h⟩ => by
    unfold mAug at h
    split at h
    · rename_i x q
      obtain ⟨vx, h1, h2⟩ := S.env i x q
      exact ⟨vx, h1, α, ρ, s, S, rd_out (β := Unit) (rel := RD X.K X.mg) S h fun α1 H1 s1 d v S1 rv g q1 => hf S1.st (RD.gr g.toGw _ _ h2) rv (rd_out (β := Unit) (rel := RD X.K X.mg) S1 q1 fun α2 H2 s2 d2 v2 S2 r2 g2 q2 => q2 α2 H2 _ (Gr.refl _ _) (S2.set i r2))⟩
    · exact h.elim
/-! targets -/
theorem g_name (i : Nat) {x : Str} (hN : X.N.Nodup) (hi : X.N[i]? = some x := by rfl) (hx : Loc X.env.scope x := by first | exact Or.inl rfl | exact Or.inr rfl) (hf : X.fn x = true ∨ X.env.scope.names.lookup x = some .local := by first | exact .inl rfl | exact .inr rfl | assumption) :
    IG X W (.Name x pos) (gNm i) := PG_imp (pg_name hN hi hx hf) fun v σ H Q ⟨α, ρ, s, d, S, r, h⟩ => h α H _ (Gr.refl _ _) (S.set i r)
theorem gs_nil : IGs X W [] gsNil := PGs_imp pgs_nil fun v σ H Q ⟨α, ρ, s, ds, S, r, h⟩ => by
  unfold gsNil at h
  split at h
  · unfold RL at r
    exact ⟨r, h α H σ (Gr.refl _ _) S⟩
  · exact h.elim
theorem gs_cons {e : Expr} {es : List Expr} {g : MG} {r : List D → Envt → Store → Out} (h1 : IG X W e g) (h2 : IGs X W es r) (hs : (assignEach (e :: es) X.env).map (·.2) = assign e X.env :: (assignEach es X.env).map (·.2) := by rfl) : IGs X W (e :: es) (gsCons g r) :=
  PGs_imp (pgs_cons h1 h2 hs) fun v σ H Q ⟨α, ρ, s, ds, S, l, h⟩ => by
    unfold gsCons at h
    split at h
    · rename_i d ds
      unfold RL at l
      obtain ⟨v0, vr, rfl, l1, l2⟩ := l
      refine ⟨v0, vr, rfl, α, ρ, s, d, S, l1, ?_⟩
      have z := wpS_seq h
      exact wpS_only z fun σ' H' ⟨α', ρ', s', g', S', q⟩ => ⟨α', ρ', s', ds, S', l2.gr g'.toGw, q⟩
    · exact h.elim
theorem g_tup {es : List Expr} {k : Nat} {r : List D → Envt → Store → Out} {n : Nat} (hc : X.calm = true) (h : IGs X W es r) (hn : (assignEach es X.env).length = n := by rfl) (hst : (assignEach es X.env).findIdx? (·.1) = none := by rfl) : IG X W (.Tuple es k pos) (gTp n r) :=
  PG_imp (pg_tup hc h hn hst) fun v σ H Q ⟨α, ρ, s, d, S, rd, h⟩ => by
    unfold gTp at h
    split at h
    · split at h
      · rename_i ds c
        obtain ⟨a, xs, rfl, t, l⟩ := rd.tup_inv
        exact ⟨a, xs, rfl, t, by rw [← l.length]; exact c, α, ρ, s, ds, S, l, h⟩
      · exact h.elim
    · exact h.elim
theorem g_sub {o i : Expr} (ho : IE X W o mo) (hi : IE X W i mi)
    (ha : ∀ v, assign (.Subscript o i pos) X.env v = (do
      let ov ← holding [v] (eval o X.env)
      let iv ← holding [v, ov] (eval i X.env)
      standAt pos
      holding [v, ov, iv] (setItem ov iv v)
      release [v, ov, iv] []) := by intro _; rfl) : IG X W (.Subscript o i pos) (gSb mo mi) := PG_imp (pg_sub ho hi set_list ha) fun v σ H Q ⟨α, ρ, s, d, S, rd, h⟩ =>
  ⟨α, ρ, s, S, rd_out (β := Unit) (rel := RD X.K X.mg) S h fun α1 H1 s1 x vx S1 rx g1 h1 => ⟨α1, ρ, s1, S1, rd_out (β := Unit) (rel := RD X.K X.mg) S1 h1 fun α2 H2 s2 y vy S2 ry g2 h2 => by
    split at h2
    · rename_i n k
      split at h2
      · rename_i ds q
        split at h2
        · rename_i j qj
          obtain ⟨a, xs, rfl, ea, hx, l⟩ := (RD.gr g2.toGw _ _ rx).ref_inv S2.st (lstAt_some q)
          have rd2 := RD.gr g2.toGw _ _ (RD.gr g1.toGw _ _ rd)
          refine ⟨a, xs, k, j, rfl, ry.int_inv, hx, by rw [← l.length]; exact qj, ?_⟩
          have gw := Gr.write (o := .lst (xs.set j v)) S2.st ea
          have st2 := S2.st.write (o := .lst (xs.set j v)) (c := .lst (ds.set j d)) ea ⟨_, upd_same, RL.set (RD.gr gw.toGw _ _ rd2) j (l.gr gw.toGw)⟩
          exact h2 α2 _ σ gw (S2.gr gw st2)
        · exact h2.elim
      · exact h2.elim
    · exact h2.elim⟩⟩
end

/-! ### what is walked -/
structure JOk (K : PySem.W.Frag) (mg : Str → Option Value) (α : Al) (H : Hp) (J : It) (ds : List D) (gd : Gd) : Prop where
  go : ∀ (i : Nat) α' H' s', Gw α H α' H' → RSt K mg H' α' s' → gdOk gd s' → i < ds.length → J.go i H' ∧ ∀ x H'', J.yld i H' x H'' → Gr α' H' α' H'' ∧ RSt K mg H'' α' s' ∧ ∃ d, ds[i]? = some d ∧ RD K mg H'' α' d x
  stop : ∀ (i : Nat) α' H' s', Gw α H α' H' → RSt K mg H' α' s' → gdOk gd s' → ds.length ≤ i → J.stop i H'
def relI (K : PySem.W.Frag) (mg : Str → Option Value) (H : Hp) (α : Al) (p : List D × Gd) (J : It) : Prop := JOk K mg α H J p.1 p.2
def rdI (K : PySem.W.Frag) (mg : Str → Option Value) (W : WX) (m : MI) : TI := fun σ H Rr => ∃ α ρ s, Sim K mg α H ρ s σ ∧ wp K mg (relI K mg) α H (m ρ s) (fun C dd H' => W C dd σ H') Rr
abbrev II (X : Cx) (W : WX) (tg e : Expr) (m : MI) : Prop := PI X tg e (rdI X.K X.mg W m)
section
variable {K : PySem.W.Frag} {mg : Str → Option Value} {W : WX} {D : Ends} {σ : L2.St} {H : Hp} {mi : MI} {g : MG} {body : MS}
theorem rd_for (h : rdS K mg W (mFor mi g body) D σ H) : tFor (rdI K mg W mi) (rdG K mg W g) (rdS K mg W body) D σ H := by
  obtain ⟨α, ρ, s, S, h⟩ := h
  refine ⟨α, ρ, s, S, wp.imp (wpS_out (rel := relI K mg) S h) fun J H1 ⟨α1, s1, p, g1, st, jo, q⟩ => ?_⟩
  obtain ⟨ds, gd⟩ := p
  have S1 := S.gr g1 st
  refine ⟨fun i m σ' H' => m = ds.length - i ∧ i ≤ ds.length ∧ ∃ α' ρ' s', Gr α1 H1 α' H' ∧ Sim K mg α' H' ρ' s' σ' ∧ wpS K mg α' H' (forL gd g body (ds.drop i) ρ' s') W D,
    ⟨ds.length, by simp, Nat.zero_le _, α1, ρ, s1, Gr.refl _ _, S1, q⟩, ?_⟩
  rintro i m σ' H' ⟨rfl, hi, α', ρ', s', g', S', q'⟩
  by_cases hlt : i < ds.length
  · have e : ds.drop i = ds[i] :: ds.drop (i + 1) := List.drop_eq_getElem_cons hlt
    rw [e] at q'
    unfold forL at q'
    split at q'
    · rename_i gk
      obtain ⟨j1, j2⟩ := jo.go i α' H' s' g'.toGw S'.st gk hlt
      refine .inr ⟨j1, fun σ2 H2 => ∃ α2 ρ2 s2, Gr α1 H1 α2 H2 ∧ Sim K mg α2 H2 ρ2 s2 σ2 ∧ wpS K mg α2 H2 (forL gd g body (ds.drop (i + 1)) ρ2 s2) W D,
        fun σ2 H2 ⟨α2, ρ2, s2, g2, S2, q2⟩ => ⟨ds.length - (i + 1), by omega, rfl, hlt, α2, ρ2, s2, g2, S2, q2⟩, fun x H'' y => ?_⟩
      obtain ⟨gy, sty, d, hd, rd⟩ := j2 x H'' y
      rw [List.getElem?_eq_getElem hlt] at hd
      cases hd
      refine ⟨α', ρ', s', _, S'.gr gy sty, rd, ?_⟩
      have z := wpS_seq (wpS_turn (q'.gr gy))
      refine wpS_only z fun σ3 H3 ⟨α3, ρ3, s3, g3, S3, q3⟩ => ⟨α3, ρ3, s3, S3, ?_⟩
      exact q3.imp (fun σ4 H4 ⟨α4, ρ4, s4, g4, S4, q4⟩ => ⟨α4, ρ4, s4, (g'.trans gy).trans g4, S4, q4⟩) (fun _ _ z => z) (fun _ _ z => z) (fun σ4 H4 ⟨α4, ρ4, s4, g4, S4, q4⟩ => ⟨α4, ρ4, s4, (g'.trans gy).trans g4, S4, q4⟩) fun _ _ _ _ z => z
    · exact q'.elim
  · have e : ds.drop i = [] := List.drop_eq_nil_of_le (by omega)
    rw [e] at q'
    unfold forL at q'
    split at q'
    · rename_i gk
      exact .inl ⟨jo.stop i α' H' s' g'.toGw S'.st gk (show ds.length ≤ i by omega), q' α' H' σ' (Gr.refl _ _) S'⟩
    · exact q'.elim
theorem rd_while {n : Nat} {mt : MT} (h : rdS K mg W (mWhile n mt body) D σ H) : tWhile (rdT K mg W mt) (rdS K mg W body) D σ H := by
  obtain ⟨α, ρ, s, S, h⟩ := h
  refine ⟨fun m σ' H' => ∃ α' ρ' s', Sim K mg α' H' ρ' s' σ' ∧ wpS K mg α' H' (mWhile m mt body ρ' s') W D, ⟨n, α, ρ, s, S, h⟩, ?_⟩
  rintro m σ' H' ⟨α', ρ', s', S', q⟩
  cases m with
  | zero => exact q.elim
  | succ m =>
    unfold mWhile at q
    refine ⟨α', ρ', s', S', rd_outT S' q fun α1 H1 s1 c S1 g1 q1 => ?_⟩
    cases c with
    | false => exact iteF (q1 α1 H1 σ' (Gr.refl _ _) S1)
    | true =>
      refine iteT ⟨fun σ2 H2 => ∃ α2 ρ2 s2, Sim K mg α2 H2 ρ2 s2 σ2 ∧ wpS K mg α2 H2 (mWhile m mt body ρ2 s2) W D, fun σ2 H2 z => ⟨m, Nat.lt_succ_self m, z⟩, α1, ρ', s1, S1, ?_⟩
      exact (wpS_turn q1).imp (fun σ4 H4 ⟨α4, ρ4, s4, g4, S4, q4⟩ => ⟨α4, ρ4, s4, S4, q4⟩) (fun _ _ z => z) (fun _ _ z => z) (fun σ4 H4 ⟨α4, ρ4, s4, g4, S4, q4⟩ => ⟨α4, ρ4, s4, S4, q4⟩) fun _ _ _ _ z => z
end
section
variable {X : Cx} {W : WX} {e tg : Expr} {m : ME} {mi : MI} {g : MG} {ms : MS} {mt : MT} {mr : MA} {body : List Stmt} {pos : Pos}
theorem s_for (hp : PassesOwn (model X.prog X.w) X.A X.env X.xe) (hc : X.calm = true) (hi : II X W tg e mi) (hg : IG X W tg g) (hb : ISs X W body ms) (hs : ∀ x, foldedSetIterable e X.env x = pure x := by intro _; rfl) : IS X W (.For tg e body [] pos) (mFor mi g ms) :=
  PS_imp (ps_for hp hc hi hg hb hs) fun _ _ _ h => rd_for h
theorem s_while (n : Nat) (hp : PassesOwn (model X.prog X.w) X.A X.env X.xe) (hc : IT X W e mt) (hb : ISs X W body ms) : IS X W (.While e body [] pos) (mWhile n mt ms) := PS_imp (ps_while hp hc hb) fun _ _ _ h => rd_while h
theorem PI_or {t t' : TI} (h : PI X tg e t) (h' : PI X tg e t') : PI X tg e (fun σ H R => t σ H R ∨ t' σ H R) := ⟨fun pins s σ H R I q => q.elim (h.run pins s σ H R I) (h'.run pins s σ H R I)⟩
/-- a list, a tuple -/
def iSq (m : ME) : MI := fun ρ s => (m ρ s).bind fun d s => match d with
  | .tup ds => .ok (ds, []) s
  | .fl ds => .ok (ds, []) s
  | .ref n => (match lstAt s n with
    | some ds => .ok (ds, [(n, ds)]) s
    | none => .bad)
  | _ => .bad
theorem jo_tup {K : PySem.W.Frag} {mg : Str → Option Value} {α : Al} {H : Hp} {ds : List D} {v : V} (r : RD K mg H α (.tup ds) v) : ∃ a, v = .ref a ∧ (∃ xs, SqT K H a xs) ∧ JOk K mg α H (Itt K a) ds [] := by
  unfold RD at r
  obtain ⟨a, xs, e, t, l⟩ := r
  refine ⟨a, e, ⟨xs, t.sq⟩, ⟨fun i α' H' s' g st _ hi => ?_, fun i α' H' s' g st _ hi => ?_⟩⟩
  · have t' := t.gr g
    have l' := l.gr g
    obtain ⟨v, h1, h2⟩ := l'.get (List.getElem?_eq_getElem hi)
    exact ⟨⟨xs, v, t'.sq, h1⟩, fun x H'' ⟨eH, y⟩ => by
      subst eH
      have e2 := y xs t'.sq
      rw [h1] at e2
      cases e2
      exact ⟨Gr.refl _ _, st, _, List.getElem?_eq_getElem hi, h2⟩⟩
  · exact ⟨xs, (t.gr g).sq, by rw [← (l.gr g).length]; exact hi⟩
theorem jo_lst {K : PySem.W.Frag} {mg : Str → Option Value} {α : Al} {H : Hp} {ds : List D} {v : V} (r : RD K mg H α (.fl ds) v) : ∃ a, v = .ref a ∧ (∃ xs, SqL K H a xs) ∧ JOk K mg α H (Itl K a) ds [] := by
  unfold RD at r
  obtain ⟨a, xs, e, t, l⟩ := r
  refine ⟨a, e, ⟨xs, t.sq⟩, ⟨fun i α' H' s' g st _ hi => ?_, fun i α' H' s' g st _ hi => ?_⟩⟩
  · have t' := t.gr g
    have l' := l.gr g
    obtain ⟨v, h1, h2⟩ := l'.get (List.getElem?_eq_getElem hi)
    exact ⟨⟨xs, v, t'.sq, h1⟩, fun x H'' ⟨eH, y⟩ => by
      subst eH
      have e2 := y xs t'.sq
      rw [h1] at e2
      cases e2
      exact ⟨Gr.refl _ _, st, _, List.getElem?_eq_getElem hi, h2⟩⟩
  · exact ⟨xs, (t.gr g).sq, by rw [← (l.gr g).length]; exact hi⟩
theorem jo_cel {K : PySem.W.Frag} {mg : Str → Option Value} {α : Al} {H : Hp} {ds : List D} {v : V} {n : Nat} {s : Store} (st0 : RSt K mg H α s) (c : s[n]? = some (.lst ds)) (r : RD K mg H α (.ref n) v) : ∃ a, v = .ref a ∧ (∃ xs, SqL K H a xs) ∧ JOk K mg α H (Itl K a) ds [(n, ds)] := by
  obtain ⟨a, xs, e, ea, t, l⟩ := r.ref_inv st0 c
  refine ⟨a, e, ⟨xs, SqL.of t⟩, ⟨fun i α' H' s' g st gk hi => ?_, fun i α' H' s' g st gk hi => ?_⟩⟩
  · obtain ⟨ys, hy, l'⟩ := st.cell n _ a (gk (n, ds) (List.mem_singleton.mpr rfl)) (g.at ea)
    obtain ⟨v, h1, h2⟩ := l'.get (List.getElem?_eq_getElem hi)
    exact ⟨⟨ys, v, SqL.of hy, h1⟩, fun x H'' ⟨eH, y⟩ => by
      subst eH
      have e2 := y ys (SqL.of hy)
      rw [h1] at e2
      cases e2
      exact ⟨Gr.refl _ _, st, _, List.getElem?_eq_getElem hi, h2⟩⟩
  · obtain ⟨ys, hy, l'⟩ := st.cell n _ a (gk (n, ds) (List.mem_singleton.mpr rfl)) (g.at ea)
    exact ⟨ys, SqL.of hy, by rw [← l'.length]; exact hi⟩
theorem i_sq (he : IE X W e m) : II X W tg e (iSq m) := PI_imp (PI_or (pi_list he) (pi_tup he)) fun σ H Rr ⟨α, ρ, s, S, h⟩ => by
  have go : ∀ {T : V → Hp → Prop}, (∀ α1 H1 s1 d v, Sim X.K X.mg α1 H1 ρ s1 σ → RD X.K X.mg H1 α1 d v → wp X.K X.mg (relI X.K X.mg) α1 H1 (match d with
      | .tup ds => .ok (ds, []) s1
      | .fl ds => .ok (ds, []) s1
      | .ref n => (match lstAt s1 n with
        | some ds => .ok (ds, [(n, ds)]) s1
        | none => .bad)
      | _ => .bad) (fun C dd H' => W C dd σ H') Rr → (∃ s2, m ρ s = .ok d s2) → T v H1) → rdE X.K X.mg W m σ H T := fun {T} t => ⟨α, ρ, s, S, by
    cases q : m ρ s with
    | ok d s2 => 
      intro α' H' v g st r
      have h' := h
      unfold iSq at h'
      rw [q] at h'
      exact t α' H' s2 d v (S.gr g st) r (wp.gr g h') ⟨s2, q⟩
    | er x s2 => 
      unfold iSq at h
      rw [q] at h
      exact h
    | bad => 
      unfold iSq at h
      rw [q] at h
      exact h⟩
  by_cases c : ∃ ds s2, m ρ s = .ok (.tup ds) s2
  · obtain ⟨ds, s2, c⟩ := c
    refine .inr (go fun α1 H1 s1 d v S1 r q ⟨s3, e3⟩ => ?_)
    rw [c] at e3
    cases e3
    obtain ⟨a, ev, hx, jo⟩ := jo_tup r
    exact ⟨a, ev, hx, q α1 H1 _ (Gr.refl _ _) S1.st jo⟩
  · refine .inl (go fun α1 H1 s1 d v S1 r q ⟨s3, e3⟩ => ?_)
    cases d with
    | tup ds => exact absurd ⟨ds, s3, e3⟩ c
    | fl ds =>
      obtain ⟨a, ev, hx, jo⟩ := jo_lst r
      exact ⟨a, ev, hx, q α1 H1 _ (Gr.refl _ _) S1.st jo⟩
    | ref n =>
      dsimp only at q
      split at q
      · rename_i ds qn
        obtain ⟨a, ev, hx, jo⟩ := jo_cel S1.st (lstAt_some qn) r
        exact ⟨a, ev, hx, q α1 H1 _ (Gr.refl _ _) S1.st jo⟩
      · exact q.elim
    | _ => exact q.elim
/-- range(n), range(a, b) -/
def upto (lo : Int) (n : Nat) : List D := (List.range n).map fun (i : Nat) => .int (lo + i)
def iR1 (mr : MA) : MI := fun ρ s => (mr ρ s).bind fun ds s => match ds with
  | [.int j] => if -1000000 ≤ j ∧ j < 1000000 then .ok (upto 0 j.toNat, []) s else .bad
  | _ => .bad
def iR2 (mr : MA) : MI := fun ρ s => (mr ρ s).bind fun ds s => match ds with
  | [.int i, .int j] => if -1000000 ≤ i ∧ i < 1000000 ∧ -1000000 ≤ j ∧ j < 1000000 then .ok (upto i (j - i).toNat, []) s else .bad
  | _ => .bad
theorem jo_rng {K : PySem.W.Frag} {mg : Str → Option Value} {α : Al} {H : Hp} {lo : Int} {n : Nat} : JOk K mg α H (Itr lo n) (upto lo n) [] := by
  have hl : (upto lo n).length = n := by simp [upto]
  refine ⟨fun i α' H' s' g st _ hi => ?_, fun i α' H' s' g st _ hi => ?_⟩
  · rw [hl] at hi
    refine ⟨hi, fun x H'' ⟨eH, ex⟩ => ?_⟩
    subst eH ex
    exact ⟨Gr.refl _ _, st, .int (lo + i), by simp [upto, hi], RD.int _⟩
  · rw [hl] at hi
    exact hi
end
end LY
/-! LayE: defs, their promises, calls; a result seen from outside. -/
namespace LY
open PySem PySem.Spec PyProof.Rows L2
section
variable {X : Cx} {W : WX} {tg e : Expr} {mr : MA} {es : List Expr}
theorem RL.one_inv {K : PySem.W.Frag} {mg : Str → Option Value} {H : Hp} {α : Al} {d : D} {vs : List V} (h : RL K mg H α [d] vs) : ∃ v, vs = [v] ∧ RD K mg H α d v := by
  unfold RL at h
  obtain ⟨v, r, rfl, l1, l2⟩ := h
  unfold RL at l2
  subst l2
  exact ⟨v, rfl, l1⟩
theorem RL.two_inv {K : PySem.W.Frag} {mg : Str → Option Value} {H : Hp} {α : Al} {d d2 : D} {vs : List V} (h : RL K mg H α [d, d2] vs) : ∃ v v2, vs = [v, v2] ∧ RD K mg H α d v ∧ RD K mg H α d2 v2 := by
  unfold RL at h
  obtain ⟨v, r, rfl, l1, l2⟩ := h
  obtain ⟨v2, rfl, l3⟩ := l2.one_inv
  exact ⟨v, v2, rfl, l1, l3⟩
theorem i_range1 {a : Expr} {p pos : Pos} (hm : X.mg "range" = none) (ha : IA X W [a] mr) (hg : Gl X "range" := by rfl) (hs : starEach [a] X.env = [(false, eval a X.env)] := by rfl) : II X W tg (.Call (.Name "range" p) [a] [] pos) (iR1 mr) :=
  PI_imp (pi_range1 hg hm ha hs) fun σ H Rr ⟨α, ρ, s, S, h⟩ => ⟨α, ρ, s, S, rd_thenA S h fun α1 H1 s1 ds vs S1 rl g1 h1 => by
    split at h1
    · rename_i j
      split at h1
      · rename_i c
        obtain ⟨v, rfl, l1⟩ := rl.one_inv
        rw [l1.int_inv]
        exact ⟨j, rfl, by omega, by omega, h1 α1 H1 _ (Gr.refl _ _) S1.st jo_rng⟩
      · exact h1.elim
    · exact h1.elim⟩
theorem i_range2 {a b : Expr} {p pos : Pos} (hm : X.mg "range" = none) (ha : IA X W [a, b] mr) (hg : Gl X "range" := by rfl) (hs : starEach [a, b] X.env = [(false, eval a X.env), (false, eval b X.env)] := by rfl)
    (hs2 : starEach [b] X.env = [(false, eval b X.env)] := by rfl) : II X W tg (.Call (.Name "range" p) [a, b] [] pos) (iR2 mr) :=
  PI_imp (pi_range2 hg hm ha hs hs2) fun σ H Rr ⟨α, ρ, s, S, h⟩ => ⟨α, ρ, s, S, rd_thenA S h fun α1 H1 s1 ds vs S1 rl g1 h1 => by
    split at h1
    · rename_i i j
      split at h1
      · rename_i c
        obtain ⟨v, v2, rfl, l1, l2⟩ := rl.two_inv
        rw [l1.int_inv, l2.int_inv]
        exact ⟨i, j, rfl, ⟨by omega, by omega, by omega, by omega⟩, h1 α1 H1 _ (Gr.refl _ _) S1.st jo_rng⟩
      · exact h1.elim
    · exact h1.elim⟩
end
/-! ### promises -/
abbrev MF := List D → Store → R D
def spM (K : PySem.W.Frag) (mg : Str → Option Value) (n : Nat) (m : MF) : Sp := fun vs H Q E => vs.length = n ∧ ∃ α s ds, RSt K mg H α s ∧ RL K mg H α ds vs ∧ wp K mg (RD K mg) α H (m ds s) E Q
def ent (n : Nat) (ds : List D) : Envt := ds.map some ++ List.replicate (n - ds.length) none
def fDef (n : Nat) (mb : MS) : MF := fun ds s => (mb (ent n ds) s).fin
theorem sim_start {K : PySem.W.Frag} {mg : Str → Option Value} {α : Al} {H : Hp} {s : Store} {N : List Str} {ds : List D} {vs : List V} (st : RSt K mg H α s) (l : RL K mg H α ds vs) : Sim K mg α H (ent N.length ds) s (L2.start N vs) := by
  have hl := l.length
  refine ⟨by simp [ent, L2.start, hl], fun i d e => ?_, st⟩
  unfold ent at e
  by_cases hi : i < ds.length
  · rw [List.getElem?_append_left (by simpa using hi), List.getElem?_map, List.getElem?_eq_getElem hi] at e
    cases e
    obtain ⟨v, h1, h2⟩ := l.get (List.getElem?_eq_getElem hi)
    refine ⟨v, ?_, h2⟩
    unfold L2.start
    rw [List.getElem?_append_left (by simpa [← hl] using hi), List.getElem?_map, h1]
    rfl
  · rw [List.getElem?_append_right (by simpa using Nat.le_of_not_lt hi)] at e
    have := List.mem_of_getElem? e
    have := List.eq_of_mem_replicate this
    cases this
section
variable {P : Program} {w : World} {K : PySem.W.Frag} {mg : Str → Option Value} {base : Heap}
theorem def_ok {x qual : Str} {params : Arguments} {body : List Stmt} {scope : Scope} {dvs : List V} {kws : List (Str × V)} {f : Addr} {fd : FuncData} {N ps : List Str} {k : Nat} {mb : MS} (F : FunD K x qual params body scope dvs kws f fd) (S : FnScope N ps scope)
    (hb : ∀ (cdv : Value) (A : Around) (outer : List Env) (s : Shared) (H : Hp) (E : XK), Room k (A.deeper (envOfC qual scope s.heap.objs.size f cdv)) → ISs (cxOf (L2.CX P w) P w K mg base N qual scope f cdv A outer s H E) (fun cls d _ H => E cls d H) body mb) :
    FnOk P w K mg base (L2.CX P w) (k + 1) f fd ps (spM K mg ps.length (fDef N.length mb)) := by
  refine FunD.ok F S (fun vs H Q E h => h.1) fun cdv A outer s H vs Q E hr h => ?_
  obtain ⟨hl, α, s0, ds, st, l, q⟩ := h
  refine ⟨_, hb cdv A outer s H E hr, α, _, s0, sim_start st l, ?_⟩
  unfold fDef at q
  cases e : mb (ent N.length ds) s0 with
  | nx ρ s => rw [e] at q; exact fun α' H' σ' g S => q α' H' .non g S.st RD.non
  | rt d s => rw [e] at q; exact q
  | bk ρ s => rw [e] at q; exact q.elim
  | ct ρ s => rw [e] at q; exact q.elim
  | er x ρ s => rw [e] at q; exact fun α' H' σ' C dd g S => q α' H' C dd g S.st
  | bad => rw [e] at q; exact q.elim
/-- a def that is known: its name, its parameters, its level, what it does -/
def Fk (P : Program) (w : World) (K : PySem.W.Frag) (mg : Str → Option Value) (base : Heap) (x : Str) (ps : List Str) (k : Nat) (m : MF) : Prop :=
  ∃ f fd, mg x = some (.ref f) ∧ PySem.W.keepIn K (.ref f) = true ∧ Binds K fd ps [] ∧ FnOk P w K mg base (L2.CX P w) k f fd ps (spM K mg ps.length m)
end
def mCall (n : Nat) (m : MF) (mr : MA) : ME := fun ρ s => (mr ρ s).bind fun ds s => if ds.length = n then m ds s else .bad
abbrev Px (X : Cx) (W : WX) : Prop := ∀ σ, PassesAt (L2.CX X.prog X.w) X σ (WE W σ)
theorem px_of {X : Cx} {W : WX} (tk : Takes X W) : Px X W := passAt tk
/-- nothing is let out -/
theorem px0 {X : Cx} : Px X (fun _ _ _ _ => False) := fun σ _ _ _ _ _ _ h => by
  obtain ⟨_, _, _, _, _, _, _, _, _, _, _, _, z⟩ := h
  exact z.elim
section
variable {X : Cx} {W : WX} {e : Expr} {es : List Expr} {mr : MA} {pos p : Pos} {x : Str} {ps : List Str} {k : Nat} {m : MF}
theorem e_call {n : Nat} (F : Fk X.prog X.w X.K X.mg X.base x ps k m) (hr : Room k X.A) (hx : Px X W) (ha : IA X W (e :: es) mr) (hg : Gl X x := by rfl) (hdb : (x == ("__debug__" : Str)) = false := by decide)
    (he : starEach (e :: es) X.env = (false, eval e X.env) :: starEach es X.env := by rfl) (hpl : (backTo pos (starEach es X.env)).any (·.1) = false := by rfl) (hn : ps.length = n := by rfl) : IE X W (.Call (.Name x p) (e :: es) [] pos) (mCall n m mr) := by
  subst hn
  obtain ⟨f, fd, hm, hk, hb, F⟩ := F
  exact PE_imp (pe_callS F hr hg hm hk hb hx ha hdb he hpl) fun σ H Q ⟨α, ρ, s, S, h⟩ => ⟨α, ρ, s, S, rd_thenA S h fun α1 H1 s1 ds vs S1 rl g1 h1 => by
    split at h1
    · rename_i c
      exact ⟨by rw [← rl.length]; exact c, α1, s1, ds, S1.st, rl, h1⟩
    · exact h1.elim⟩
end
/-! ### a result seen from outside -/
mutual
def D.lo (n : Nat) : D → Bool
  | .ref k => decide (k < n)
  | .tup ds => loL n ds
  | .fl ds => loL n ds
  | .ins _ fs => loL n fs
  | .exc _ fs => loL n fs
  | .fd ks vs => loL n ks && loL n vs
  | _ => true
def loL (n : Nat) : List D → Bool
  | [] => true
  | d :: ds => d.lo n && loL n ds
end
def Cell.lo (n : Nat) : Cell → Bool
  | .lst ds => loL n ds
  | .ins _ fs => loL n fs
  | .dict ks vs => loL n ks && loL n vs
  | .dead => true
def stLo (s : Store) (n : Nat) : Prop := ∀ c ∈ s, c.lo n = true
section
variable {K : PySem.W.Frag} {mg : Str → Option Value} {H : Hp} {α : Al} {β : List Addr}
theorem TupAt.low {a : Addr} {xs : List V} (h : TupAt K H (α.app β) a xs) : TupAt K H α a xs := by
  rcases h with ⟨n, h⟩ | h
  · exact .inl ⟨fun m => n (Al.mem_app.mpr (.inl m)), h⟩
  · exact .inr h
theorem LstAt.low {a : Addr} {xs : List V} (h : LstAt K H (α.app β) a xs) : LstAt K H α a xs := by
  rcases h with ⟨n, h⟩ | h
  · exact .inl ⟨fun m => n (Al.mem_app.mpr (.inl m)), h⟩
  · exact .inr h
mutual
theorem RD.low : ∀ (d : D) (v : V), RD K mg H (α.app β) d v → d.lo α.c.length = true → RD K mg H α d v
  | .non, _, h, _ => by unfold RD at h ⊢; exact h
  | .bl _, _, h, _ => by unfold RD at h ⊢; exact h
  | .int _, _, h, _ => by unfold RD at h ⊢; exact h
  | .str _, _, h, _ => by unfold RD at h ⊢; exact h
  | .ty _, _, h, _ => by unfold RD at h ⊢; exact h
  | .cls _, _, h, _ => by unfold RD at h ⊢; exact h
  | .fd _ _, _, h, _ => by unfold RD at h; exact h.elim
  | .tup ds, v, h, z => by
    unfold RD at h ⊢
    unfold D.lo at z
    obtain ⟨a, xs, e, t, l⟩ := h
    exact ⟨a, xs, e, t.low, RL.low ds xs l z⟩
  | .fl ds, v, h, z => by
    unfold RD at h ⊢
    unfold D.lo at z
    obtain ⟨a, xs, e, t, l⟩ := h
    exact ⟨a, xs, e, t.low, RL.low ds xs l z⟩
  | .ref n, v, h, z => by
    unfold RD at h ⊢
    unfold D.lo at z
    obtain ⟨a, e, t⟩ := h
    rw [show (α.app β).c = α.c ++ β from rfl, List.getElem?_append_left (of_decide_eq_true z)] at t
    exact ⟨a, e, t⟩
  | .ins c fs, v, h, z => by
    unfold RD at h ⊢
    unfold D.lo at z
    obtain ⟨a, C, dx, xs, e, n, m, q, t, l⟩ := h
    exact ⟨a, C, dx, xs, e, fun m => n (Al.mem_app.mpr (.inl m)), m, q, t, RL.low fs xs l z⟩
  | .exc c fs, v, h, z => by
    unfold RD at h ⊢
    unfold D.lo at z
    obtain ⟨a, C, d, e, n, m, t, xs, l, p, q⟩ := h
    refine ⟨a, C, d, e, fun m => n (Al.mem_app.mpr (.inl m)), m, t, xs, RL.low fs xs l z, p, fun y => ?_⟩
    obtain ⟨x, ex, nx, hx⟩ := q y
    exact ⟨x, ex, fun m => nx (Al.mem_app.mpr (.inl m)), hx⟩
theorem RL.low : ∀ (ds : List D) (xs : List V), RL K mg H (α.app β) ds xs → loL α.c.length ds = true → RL K mg H α ds xs
  | [], _, h, _ => by unfold RL at h ⊢; exact h
  | d :: ds, xs, h, z => by
    unfold RL at h ⊢
    unfold loL at z
    obtain ⟨z1, z2⟩ := Bool.and_eq_true_iff.mp z
    obtain ⟨v, r, e, h1, h2⟩ := h
    exact ⟨v, r, e, RD.low d v h1 z1, RL.low ds r h2 z2⟩
end
theorem RC.low {c : Cell} {a : Addr} (h : RC K mg H (α.app β) c a) (z : c.lo α.c.length = true) : RC K mg H α c a := by
  cases c with
  | lst ds => obtain ⟨xs, hx, l⟩ := h; exact ⟨xs, hx, l.low ds xs z⟩
  | ins c fs => obtain ⟨C, dx, xs, m, q, hx, l⟩ := h; exact ⟨C, dx, xs, m, q, hx, l.low fs xs z⟩
  | dict ks vs => exact h.elim
  | dead => trivial
mutual
theorem RD.isLo : ∀ (d : D) (v : V), RD K mg H α d v → d.lo α.c.length = true
  | .non, _, _ => by unfold D.lo; rfl
  | .bl _, _, _ => by unfold D.lo; rfl
  | .int _, _, _ => by unfold D.lo; rfl
  | .str _, _, _ => by unfold D.lo; rfl
  | .ty _, _, _ => by unfold D.lo; rfl
  | .cls _, _, _ => by unfold D.lo; rfl
  | .fd _ _, _, h => by unfold RD at h; exact h.elim
  | .tup ds, v, h => by unfold RD at h; unfold D.lo; obtain ⟨a, xs, e, t, l⟩ := h; exact RL.isLo ds xs l
  | .fl ds, v, h => by unfold RD at h; unfold D.lo; obtain ⟨a, xs, e, t, l⟩ := h; exact RL.isLo ds xs l
  | .ref n, v, h => by unfold RD at h; unfold D.lo; obtain ⟨a, e, t⟩ := h; exact decide_eq_true (List.getElem?_eq_some_iff.mp t).1
  | .ins c fs, v, h => by unfold RD at h; unfold D.lo; obtain ⟨a, C, dx, xs, e, n, m, q, t, l⟩ := h; exact RL.isLo fs xs l
  | .exc c fs, v, h => by unfold RD at h; unfold D.lo; obtain ⟨a, C, d, e, n, m, t, xs, l, p, q⟩ := h; exact RL.isLo fs xs l
theorem RL.isLo : ∀ (ds : List D) (xs : List V), RL K mg H α ds xs → loL α.c.length ds = true
  | [], _, _ => by unfold loL; rfl
  | d :: ds, xs, h => by
    unfold RL at h
    unfold loL
    obtain ⟨v, r, e, h1, h2⟩ := h
    rw [RD.isLo d v h1, RL.isLo ds r h2]
    rfl
end
theorem RSt.isLo {s : Store} (S : RSt K mg H α s) : stLo s s.length := fun c hc => by
  obtain ⟨n, hn, e⟩ := List.getElem_of_mem hc
  obtain ⟨a, ha, rc⟩ := S.at (n := n) (c := c) (by rw [List.getElem?_eq_getElem hn, e])
  rw [← S.len]
  cases c with
  | lst ds => obtain ⟨xs, hx, l⟩ := rc; exact l.isLo ds xs
  | ins c fs => obtain ⟨C, dx, xs, m, q, hx, l⟩ := rc; exact l.isLo fs xs
  | dict ks vs => exact rc.elim
  | dead => rfl
end
section
variable (s1 : Store) (n : Nat)
mutual
/-- what a callee hands back, as its caller sees it: new lists and objects stand still from now on -/
def Fz : D → D → Prop
  | d, .fl es => (∃ ds, d = .fl ds ∧ FzL ds es) ∨ ∃ k ds, d = .ref k ∧ n ≤ k ∧ s1[k]? = some (.lst ds) ∧ FzL ds es
  | d, .tup es => ∃ ds, d = .tup ds ∧ FzL ds es
  | d, .ins c es => (∃ ds, d = .ins c ds ∧ FzL ds es) ∨ ∃ k ds, d = .ref k ∧ n ≤ k ∧ s1[k]? = some (.ins c ds) ∧ ds.length = c.flds.length ∧ FzL ds es
  | d, e => d = e ∧ e.lo n = true
def FzL : List D → List D → Prop
  | ds, [] => ds = []
  | ds, e :: es => ∃ d r, ds = d :: r ∧ Fz d e ∧ FzL r es
end
end
def Ref (n : Nat) : R D → R D → Prop
  | .ok d s1, .ok e s2 => n ≤ s2.length ∧ s1.take s2.length = s2 ∧ stLo s2 s2.length ∧ Fz s1 s2.length d e
  | .er x s1, .er y s2 => y = x ∧ n ≤ s2.length ∧ s1.take s2.length = s2 ∧ stLo s2 s2.length ∧ loL s2.length x.fs = true
  | _, .bad => True
  | _, _ => False
section
variable {K : PySem.W.Frag} {mg : Str → Option Value} {H : Hp} {α : Al} {β : List Addr} {s1 : Store}
theorem notin_app (S : RSt K mg H (α.app β) s1) {k : Nat} {a : Addr} (hk : α.c.length ≤ k) (ea : (α.app β).c[k]? = some a) (m : a ∈ α) : False := by
  rcases m with m | m
  · obtain ⟨i, hi, e2⟩ := List.getElem_of_mem m
    have e3 : (α.app β).c[i]? = some a := by
      show (α.c ++ β)[i]? = some a
      rw [List.getElem?_append_left hi, List.getElem?_eq_getElem hi, e2]
    have := (List.getElem?_inj (List.getElem?_eq_some_iff.mp e3).1 S.nd).mp (e3.trans ea.symm)
    omega
  · exact S.dj a (List.mem_of_getElem? ea) m
mutual
theorem Fz.rd (S : RSt K mg H (α.app β) s1) : ∀ (e d : D) (v : V), Fz s1 α.c.length d e → RD K mg H (α.app β) d v → RD K mg H α e v
  | .fl es, d, v, f, h => by
    unfold Fz at f
    rcases f with ⟨ds, rfl, f⟩ | ⟨k, ds, rfl, hk, c, f⟩
    · unfold RD at h ⊢
      obtain ⟨a, xs, e, t, l⟩ := h
      exact ⟨a, xs, e, t.low, FzL.rl S es ds xs f l⟩
    · obtain ⟨a, xs, e, ea, hx, l⟩ := h.ref_inv S c
      unfold RD
      refine ⟨a, xs, e, .inl ⟨fun m => ?_, .inl hx⟩, FzL.rl S es ds xs f l⟩
      exact notin_app S hk ea m
  | .tup es, d, v, f, h => by
    unfold Fz at f
    obtain ⟨ds, rfl, f⟩ := f
    unfold RD at h ⊢
    obtain ⟨a, xs, e, t, l⟩ := h
    exact ⟨a, xs, e, t.low, FzL.rl S es ds xs f l⟩
  | .ins cn es, d, v, f, h => by
    unfold Fz at f
    rcases f with ⟨ds, rfl, f⟩ | ⟨k, ds, rfl, hk, c, hl, f⟩
    · unfold RD at h ⊢
      obtain ⟨a, C, dx, xs, e, n, m, q, t, l⟩ := h
      exact ⟨a, C, dx, xs, e, fun m => n (Al.mem_app.mpr (.inl m)), m, q, t, FzL.rl S es ds xs f l⟩
    · unfold RD at h ⊢
      obtain ⟨a, e, ea⟩ := h
      obtain ⟨C, dx, xs, m, q, hx, l⟩ := S.cell k _ a c ea
      refine ⟨a, C, dx, xs, e, fun m => ?_, m, l.length.symm.trans hl, hx, FzL.rl S es ds xs f l⟩
      exact notin_app S hk ea m
  | .non, d, v, f, h => by unfold Fz at f; obtain ⟨rfl, z⟩ := f; exact RD.low _ v h z
  | .bl _, d, v, f, h => by unfold Fz at f; obtain ⟨rfl, z⟩ := f; exact RD.low _ v h z
  | .int _, d, v, f, h => by unfold Fz at f; obtain ⟨rfl, z⟩ := f; exact RD.low _ v h z
  | .str _, d, v, f, h => by unfold Fz at f; obtain ⟨rfl, z⟩ := f; exact RD.low _ v h z
  | .ty _, d, v, f, h => by unfold Fz at f; obtain ⟨rfl, z⟩ := f; exact RD.low _ v h z
  | .cls _, d, v, f, h => by unfold Fz at f; obtain ⟨rfl, z⟩ := f; exact RD.low _ v h z
  | .ref _, d, v, f, h => by unfold Fz at f; obtain ⟨rfl, z⟩ := f; exact RD.low _ v h z
  | .exc _ _, d, v, f, h => by unfold Fz at f; obtain ⟨rfl, z⟩ := f; exact RD.low _ v h z
  | .fd _ _, d, v, f, h => by unfold Fz at f; obtain ⟨rfl, z⟩ := f; exact RD.low _ v h z
theorem FzL.rl (S : RSt K mg H (α.app β) s1) : ∀ (es ds : List D) (xs : List V), FzL s1 α.c.length ds es → RL K mg H (α.app β) ds xs → RL K mg H α es xs
  | [], ds, xs, f, l => by unfold FzL at f; subst f; unfold RL at l ⊢; exact l
  | e :: es, ds, xs, f, l => by
    unfold FzL at f
    obtain ⟨d, r, rfl, f1, f2⟩ := f
    unfold RL at l ⊢
    obtain ⟨v, t, q, l1, l2⟩ := l
    exact ⟨v, t, q, Fz.rd S e d v f1 l1, FzL.rl S es r t f2 l2⟩
end
theorem RSt.low {s2 : Store} (S : RSt K mg H (α.app β) s1) (ha : α.c.length = s2.length) (e : s1.take s2.length = s2) (z : stLo s2 s2.length) : RSt K mg H α s2 := by
  refine ⟨ha, (List.nodup_append.mp (show (α.c ++ β).Nodup from S.nd)).1, fun a m => S.dj a (List.mem_append_left _ m), fun a m => S.tr a (Al.mem_app.mpr (.inl m)), fun n c a h1 h2 => ?_⟩
  have hn := (List.getElem?_eq_some_iff.mp h1).1
  have h3 : s1[n]? = some c := by
    rw [← e, List.getElem?_take_of_lt hn] at h1
    exact h1
  have h4 : (α.app β).c[n]? = some a := by
    show (α.c ++ β)[n]? = some a
    rw [List.getElem?_append_left (by rw [ha]; exact hn)]
    exact h2
  exact (S.cell n c a h3 h4).low (by rw [ha]; exact z c (List.mem_of_getElem? h1))
theorem cut_st {s s2 : Store} {α' : Al} {H' : Hp} {H0 : Hp} {α0 : Al} (S : RSt K mg H0 α0 s) (g : Gr α0 H0 α' H') (t : RSt K mg H' α' s1) (hl : s.length ≤ s2.length) (e : s1.take s2.length = s2) (z : stLo s2 s2.length) :
    ∃ (α2 : Al) (β2 : List Addr), α' = α2.app β2 ∧ α2.c.length = s2.length ∧ Gr α0 H0 α2 H' ∧ RSt K mg H' α2 s2 := by
  have hs : s2.length ≤ α'.c.length := by
    rw [t.len, ← e, List.length_take]
    omega
  have e1 : (⟨α'.c.take s2.length, α'.h⟩ : Al).app (α'.c.drop s2.length) = α' := by
    show (⟨α'.c.take s2.length ++ α'.c.drop s2.length, α'.h⟩ : Al) = α'
    rw [List.take_append_drop]
  have hl2 : (α'.c.take s2.length).length = s2.length := by rw [List.length_take]; omega
  refine ⟨⟨α'.c.take s2.length, α'.h⟩, α'.c.drop s2.length, e1.symm, hl2, ⟨?_, fun b m => g.new b ?_, g.keep, g.hid⟩, ?_⟩
  · obtain ⟨γ, eγ⟩ := g.pre
    refine ⟨γ.take (s2.length - α0.c.length), ?_⟩
    rw [eγ]
    show (⟨(α0.c ++ γ).take s2.length, α0.h⟩ : Al) = ⟨α0.c ++ γ.take (s2.length - α0.c.length), α0.h⟩
    rw [List.take_append, List.take_of_length_le (by rw [S.len]; exact hl)]
  · rcases m with m | m
    · exact .inl (List.mem_of_mem_take m)
    · exact .inr m
  · rw [← e1] at t
    exact t.low hl2 e z
theorem wp_ref {s : Store} {E : WH} {Q : VK} {r r' : R D} (S : RSt K mg H α s) (f : Ref s.length r r') (h : wp K mg (RD K mg) α H r' E Q) : wp K mg (RD K mg) α H r E Q := by
  cases r' with
  | bad => exact h.elim
  | ok e s2 =>
    cases r with
    | ok d s1 =>
      obtain ⟨hl, et, z, fz⟩ := f
      intro α' H' v g t rd
      obtain ⟨α2, β2, rfl, l2, g2, t2⟩ := cut_st S g t hl et z
      exact h α2 H' v g2 t2 (Fz.rd t e d v (by rw [l2]; exact fz) rd)
    | er x s1 => exact f.elim
    | bad => exact f.elim
  | er y s2 =>
    cases r with
    | er x s1 =>
      obtain ⟨rfl, hl, et, z, lo⟩ := f
      intro α' H' C dd g t m xd
      obtain ⟨α2, β2, rfl, l2, g2, t2⟩ := cut_st S g t hl et z
      obtain ⟨xs, rl, x1, x2⟩ := xd
      exact h α2 H' C dd g2 t2 m ⟨xs, rl.low _ xs (by rw [l2]; exact lo), x1, fun q => by
        obtain ⟨x, ex, nx, hx⟩ := x2 q
        exact ⟨x, ex, fun m => nx (Al.mem_app.mpr (.inl m)), hx⟩⟩
    | ok d s1 => exact f.elim
    | bad => exact f.elim
theorem fk_ref {P : Program} {w : World} {base : Heap} {x : Str} {ps : List Str} {k : Nat} {m m' : MF} (F : Fk P w K mg base x ps k m) (h : ∀ ds s, ds.length = ps.length → stLo s s.length → loL s.length ds = true → Ref s.length (m ds s) (m' ds s)) : Fk P w K mg base x ps k m' := by
  obtain ⟨f, fd, hm, hk, hb, F⟩ := F
  refine ⟨f, fd, hm, hk, hb, F.imp fun vs H Q E ⟨hl, α, s, ds, st, rl, q⟩ => ⟨hl, α, s, ds, st, rl, wp_ref st (h ds s (by rw [rl.length]; exact hl) st.isLo (by rw [← st.len]; exact rl.isLo ds vs)) q⟩⟩
end
end LY
/-! LayF: attributes, subscripts, slices, built-ins, comprehensions. -/
namespace LY
open PySem PySem.Spec PyProof.Rows L2
/-! ### attributes -/
theorem flds_nd (c : CN) : c.flds.Nodup := by cases c <;> decide +kernel
theorem flds_small (c : CN) : c.flds.length < 1000 := by cases c <;> decide
theorem lookup_zip {f : Str} {v : V} : ∀ {fl : List Str} {xs : List V} {i : Nat}, fl.Nodup → fl[i]? = some f → xs[i]? = some v → (fl.zip xs).lookup f = some v
  | [], _, i, _, e, _ => by simp at e
  | g :: fl, [], i, _, _, e => by simp at e
  | g :: fl, x :: xs, 0, _, e, e2 => by
    simp at e e2
    subst e e2
    simp [List.lookup]
  | g :: fl, x :: xs, i + 1, nd, e, e2 => by
    have nd' := List.nodup_cons.mp nd
    have hm : f ∈ fl := List.mem_of_getElem? (by simpa using e)
    have hne : (f == g) = false := by
      rw [beq_eq_false_iff_ne]
      exact fun z => nd'.1 (z ▸ hm)
    rw [List.zip_cons_cons, List.lookup_cons, hne]
    exact lookup_zip nd'.2 (by simpa using e) (by simpa using e2)
theorem putF_zip {f : Str} {v : V} : ∀ {fl : List Str} {xs : List V} {i : Nat}, fl.Nodup → fl[i]? = some f → i < xs.length → putF f v (fl.zip xs) = fl.zip (xs.set i v)
  | [], _, i, _, e, _ => by simp at e
  | g :: fl, [], i, _, _, e => by simp at e
  | g :: fl, x :: xs, 0, _, e, _ => by
    simp at e
    subst e
    simp [putF]
  | g :: fl, x :: xs, i + 1, nd, e, e2 => by
    have nd' := List.nodup_cons.mp nd
    have hm : f ∈ fl := List.mem_of_getElem? (by simpa using e)
    have hne : ¬ g = f := fun z => nd'.1 (z ▸ hm)
    rw [List.zip_cons_cons, putF, if_neg hne, putF_zip nd'.2 (by simpa using e) (by simpa using e2)]
    simp
theorem putF_new {f : Str} {v : V} : ∀ {fl : List Str} {xs : List V}, fl.Nodup → fl[xs.length]? = some f → putF f v (fl.zip xs) = fl.zip (xs ++ [v])
  | [], xs, _, e => by simp at e
  | g :: fl, [], _, e => by
    simp at e
    subst e
    simp [putF]
  | g :: fl, x :: xs, nd, e => by
    have nd' := List.nodup_cons.mp nd
    have hm : f ∈ fl := List.mem_of_getElem? (by simpa using e)
    have hne : ¬ g = f := fun z => nd'.1 (z ▸ hm)
    rw [List.zip_cons_cons, putF, if_neg hne, putF_new nd'.2 (by simpa using e)]
    simp
/-- what is known of the class c -/
structure ClsOk (K : PySem.W.Frag) (mg : Str → Option Value) (c : CN) : Prop where
  cls : ∀ C, mg c.str = some (.ref C) → Cls K C
  attr : ∀ C, mg c.str = some (.ref C) → ∀ f ∈ c.flds, NoAttr K C f
/-- the instance that a cell holds -/
def insAt (s : Store) (n : Nat) : Option (CN × List D) := match s[n]? with
  | some (.ins c fs) => some (c, fs)
  | _ => none
theorem insAt_some {s : Store} {n : Nat} {c : CN} {fs : List D} (h : insAt s n = some (c, fs)) : s[n]? = some (.ins c fs) := by
  unfold insAt at h
  split at h
  · rename_i e; cases h; exact e
  · cases h
theorem insAt_of {s : Store} {n : Nat} {c : CN} {fs : List D} (h : s[n]? = some (.ins c fs)) : insAt s n = some (c, fs) := by
  unfold insAt
  rw [h]
def D.obj (s : Store) : D → Option (CN × List D)
  | .ins c fs => some (c, fs)
  | .ref n => insAt s n
  | _ => none
def D.fld (x : D) (s : Store) (c : CN) (i : Nat) : Option D := (x.obj s).bind fun p => if p.1 = c then p.2[i]? else none
def oFld (c : CN) (i : Nat) : O1 := fun x s => match x.fld s c i with
  | some d => .ok d s
  | none => .bad
def mStF (c : CN) (i : Nat) (mo mv : ME) : MS := fun ρ s => (mv ρ s).out ρ fun d s => (mo ρ s).out ρ fun o s => match o with
  | .ref n => (match insAt s n with
    | some (c', fs) => if c' = c then (if i < fs.length then .nx ρ (s.set n (.ins c (fs.set i d))) else if i = fs.length ∧ i < c.flds.length then .nx ρ (s.set n (.ins c (fs ++ [d]))) else .bad) else .bad
    | none => .bad)
  | _ => .bad
section
variable {X : Cx} {W : WX} {e a b o : Expr} {m ma mb mo mv : ME} {mr : MA} {pos pos' : Pos}
theorem RD.ob {K : PySem.W.Frag} {mg : Str → Option Value} {H : Hp} {α : Al} {s : Store} {x : D} {v : V} {c : CN} {fs : List D} (S : RSt K mg H α s) (r : RD K mg H α x v) (h : x.obj s = some (c, fs)) :
    ∃ a C dx xs, v = .ref a ∧ mg c.str = some (.ref C) ∧ H a = some (.ins C dx (c.flds.zip xs)) ∧ RL K mg H α fs xs ∧ xs.length ≤ c.flds.length := by
  cases x with
  | ins c' fs' =>
    cases h
    unfold RD at r
    obtain ⟨a, C, dx, xs, ev, _, m, hl, t, l⟩ := r
    exact ⟨a, C, dx, xs, ev, m, t, l, Nat.le_of_eq hl⟩
  | ref n =>
    unfold RD at r
    obtain ⟨a, ev, ea⟩ := r
    obtain ⟨C, dx, xs, m, hl, t, l⟩ := S.cell n _ a (insAt_some h) ea
    exact ⟨a, C, dx, xs, ev, m, t, l, hl⟩
  | _ => cases h
theorem RD.fld {K : PySem.W.Frag} {mg : Str → Option Value} {H : Hp} {α : Al} {s : Store} {x d : D} {v : V} {c : CN} {i : Nat} (S : RSt K mg H α s) (r : RD K mg H α x v) (h : x.fld s c i = some d) :
    ∃ a C dx xs u, v = .ref a ∧ mg c.str = some (.ref C) ∧ H a = some (.ins C dx (c.flds.zip xs)) ∧ xs[i]? = some u ∧ RD K mg H α d u := by
  obtain ⟨⟨c', fs⟩, h1, h2⟩ := Option.bind_eq_some_iff.mp h
  dsimp only at h2
  split at h2
  · rename_i ec
    subst ec
    obtain ⟨a, C, dx, xs, ev, m, t, l, _⟩ := r.ob S h1
    obtain ⟨u, h3, h4⟩ := l.get h2
    exact ⟨a, C, dx, xs, u, ev, m, t, h3, h4⟩
  · cases h2
theorem e_fld (c : CN) (i : Nat) {f : Str} (ok : ClsOk X.K X.mg c) (he : IE X W e m) (hf : c.flds[i]? = some f := by rfl) (hb : attributeBase e f X.env (eval e X.env) = eval e X.env := by rfl) : IE X W (.Attribute e f pos) (mUn (oFld c i) m) :=
  PE_imp (pe_fld he hb) fun σ H Q ⟨α, ρ, s, S, h⟩ => ⟨α, ρ, s, S, rd_then S h fun α1 H1 s1 x vx S1 rx g1 h1 => by
    unfold oFld at h1
    split at h1
    · rename_i d q
      obtain ⟨a, C, dx, xs, u, ev, m, t, h2, h3⟩ := rx.fld S1.st q
      exact ⟨a, C, dx, _, u, ev, t, ok.cls C m, ok.attr C m f (List.mem_of_getElem? hf), lookup_zip (flds_nd c) hf h2, wp_ok h1 S1.st h3⟩
    · exact h1.elim⟩
theorem s_fld (c : CN) (i : Nat) {f : Str} (ok : ClsOk X.K X.mg c) (ho : IE X W o mo) (hv : IE X W e mv) (hf : c.flds[i]? = some f := by rfl) (hs : swapsWith e (some (.Attribute o f pos')) pos.line X.env = pure false := by rfl) : IS X W (.Assign [.Attribute o f pos'] e pos) (mStF c i mo mv) :=
  PS_imp (ps_fld ho hv hs) fun D σ H ⟨α, ρ, s, S, h⟩ => ⟨α, ρ, s, S, rd_out (β := Unit) (rel := RD X.K X.mg) S h fun α1 H1 s1 d vd S1 rd g1 h1 => ⟨α1, ρ, s1, S1, rd_out (β := Unit) (rel := RD X.K X.mg) S1 h1 fun α2 H2 s2 x vx S2 rx g2 h2 => by
    split at h2
    · rename_i n
      split at h2
      · rename_i c' fs q
        split at h2
        · rename_i ec
          subst ec
          unfold RD at rx
          obtain ⟨a, ev, ea⟩ := rx
          obtain ⟨C, dx, xs, m, hl, t, l⟩ := S2.st.cell n _ a (insAt_some q) ea
          have rd2 := RD.gr g2.toGw _ _ rd
          have small : (c'.flds.zip xs).length < 1000 := by
            have := flds_small c'
            rw [List.length_zip]
            omega
          refine ⟨a, C, dx, _, ev, t, ok.cls C m, ok.attr C m f (List.mem_of_getElem? hf), small, ?_⟩
          split at h2
          · rename_i hi
            have hi2 : i < xs.length := by rw [← l.length]; exact hi
            rw [putF_zip (flds_nd c') hf hi2]
            have gw := Gr.write (o := .ins C dx (c'.flds.zip (xs.set i vd))) S2.st ea
            exact h2 α2 _ σ gw (S2.gr gw (S2.st.write ea ⟨C, dx, _, m, by rw [List.length_set]; exact hl, upd_same, RL.set (RD.gr gw.toGw _ _ rd2) i (l.gr gw.toGw)⟩))
          · split at h2
            · rename_i hi hi2
              have e3 : c'.flds[xs.length]? = some f := by rw [← l.length, ← hi2.1]; exact hf
              rw [putF_new (flds_nd c') e3]
              have gw := Gr.write (o := .ins C dx (c'.flds.zip (xs ++ [vd]))) S2.st ea
              refine h2 α2 _ σ gw (S2.gr gw (S2.st.write ea ⟨C, dx, _, m, ?_, upd_same, (l.gr gw.toGw).append (RL.one (RD.gr gw.toGw _ _ rd2))⟩))
              rw [List.length_append, ← l.length, ← hi2.1]
              exact hi2.2
            · exact h2.elim
        · exact h2.elim
      · exact h2.elim
    · exact h2.elim⟩⟩
end
/-! ### subscripts -/
theorem RL.atI {K : PySem.W.Frag} {mg : Str → Option Value} {H : Hp} {α : Al} {ds : List D} {xs : List V} {i : Int} {d : D} (l : RL K mg H α ds xs) (h : atI ds i = some d) : ∃ v, atI xs i = some v ∧ RD K mg H α d v := by
  unfold L2.atI at h ⊢
  obtain ⟨j, h1, h2⟩ := Option.bind_eq_some_iff.mp h
  obtain ⟨v, h3, h4⟩ := l.get h2
  rw [← l.length, h1]
  exact ⟨v, h3, h4⟩
def oIx : O2 := fun x y s => match y with
  | .int i => (match x with
    | .str z => if z.length ≤ big then (match atI z.cps.toList i with
      | some c => .ok (.str ⟨#[c]⟩) s
      | none => .bad) else .bad
    | x => (match x.seq s with
      | some ds => (match atI ds i with
        | some d => .ok d s
        | none => .bad)
      | none => .bad))
  | _ => .bad
theorem ok_ix {K : PySem.W.Frag} {mg : Str → Option Value} : OpOk K mg oIx (rIx K) := fun {α H s x y vx vy E Q} S rx ry h => by
  unfold oIx at h
  split at h
  · rename_i i
    have ey := ry.int_inv
    subst ey
    split at h
    · rename_i z
      have ex := rx.str_inv
      subst ex
      split at h
      · rename_i hz
        split at h
        · rename_i c hc
          exact .inr (.inr ⟨z, i, c, rfl, rfl, big_line hz, hc, wp_ok h S (RD.str _)⟩)
        · exact h.elim
      · exact h.elim
    · split at h
      · rename_i ds q
        split at h
        · rename_i d q2
          obtain ⟨p, xs, rfl, hq, l⟩ := rx.sq S q
          obtain ⟨v, h1, h2⟩ := l.atI q2
          rcases hq with hq | hq
          · exact .inl ⟨p, xs, i, v, rfl, rfl, hq, h1, wp_ok h S h2⟩
          · exact .inr (.inl ⟨p, xs, i, v, rfl, rfl, hq, h1, wp_ok h S h2⟩)
        · exact h.elim
      · exact h.elim
  · exact h.elim
section
variable {X : Cx} {W : WX} {e a b o : Expr} {m ma mb mo mv : ME} {mr : MA} {pos pos' p2 : Pos}
theorem e_ix (ha : IE X W a ma) (hb : IE X W b mb) (hs : PlainIx b := by intro _ _; rfl) : IE X W (.Subscript a b pos) (mBin oIx ma mb) := PE_imp (pe_ix ix_seq ha hb hs) fun _ _ _ h => rd_bin ok_ix h
/-! ### slices -/
abbrev MO := Envt → Store → R (Option Int)
def mNo : MO := fun _ s => .ok none s
def mSome (m : ME) : MO := fun ρ s => (m ρ s).bind fun d s => match d with
  | .int i => .ok (some i) s
  | _ => .bad
def RO (_ : Hp) (_ : Al) (b c : Option Int) : Prop := c = b
def rdO (K : PySem.W.Frag) (mg : Str → Option Value) (W : WX) (m : MO) : TO := fun σ H Q => ∃ α ρ s, Sim K mg α H ρ s σ ∧ wp K mg RO α H (m ρ s) (fun C dd H' => W C dd σ H') Q
abbrev IO (X : Cx) (W : WX) (e : Option Expr) (m : MO) : Prop := PO X e (rdO X.K X.mg W m)
theorem PO_imp {e : Option Expr} {t t' : TO} (h : PO X e t) (i : ∀ σ H Q, t' σ H Q → t σ H Q) : PO X e t' := by
  constructor
  intro pins s σ H Q I q
  exact h.run pins s σ H Q I (i σ H Q q)
theorem o_none : IO X W none mNo := PO_imp po_none fun σ H Q ⟨α, ρ, s, S, h⟩ => h α H none (Gr.refl _ _) S.st rfl
theorem o_some (h : IE X W e m) : IO X W (some e) (mSome m) := PO_imp (po_some h) fun σ H Q ⟨α, ρ, s, S, h⟩ => ⟨α, ρ, s, S, rd_then S h fun α1 H1 s1 x vx S1 rx g1 h1 => by
  split at h1
  · rename_i i
    exact ⟨i, rx.int_inv, h1 α1 H1 _ (Gr.refl _ _) S1.st rfl⟩
  · exact h1.elim⟩
def cutD (xs : List D) (lo hi : Option Int) : List D := (xs.drop (HT.sIx xs.length 0 lo)).take (HT.sIx xs.length xs.length hi - HT.sIx xs.length 0 lo)
theorem RL.cut {K : PySem.W.Frag} {mg : Str → Option Value} {H : Hp} {α : Al} {ds : List D} {xs : List V} (l : RL K mg H α ds xs) (lo hi : Option Int) : RL K mg H α (cutD ds lo hi) (cutV xs lo hi) := by
  unfold cutD cutV
  rw [l.length]
  exact (l.drop _).take _
/-- the list of a value -/
def D.ls (s : Store) : D → Option (List D)
  | .fl ds => some ds
  | .ref n => lstAt s n
  | _ => none
theorem RD.lst {K : PySem.W.Frag} {mg : Str → Option Value} {H : Hp} {α : Al} {s : Store} {d : D} {v : V} {ds : List D} (S : RSt K mg H α s) (h : RD K mg H α d v) (e : d.ls s = some ds) : ∃ p xs, v = .ref p ∧ SqL K H p xs ∧ RL K mg H α ds xs := by
  cases d with
  | fl es => cases e; obtain ⟨a, xs, e, t, l⟩ := h.fl_inv; exact ⟨a, xs, e, t, l⟩
  | ref n => obtain ⟨a, xs, e, _, t, l⟩ := h.ref_inv S (lstAt_some e); exact ⟨a, xs, e, SqL.of t, l⟩
  | _ => cases e
/-- x[lo:hi]: cell: the new list will be changed -/
def oSl (cell : Bool) (x : D) (lo hi : Option Int) (s : Store) : R D := match x with
  | .str z => if z.length ≤ big then .ok (.str (cutS z lo hi)) s else .bad
  | .tup ds => .ok (.tup (cutD ds lo hi)) s
  | x => (match x.ls s with
    | some ds => if cell then .ok (.ref s.length) (s ++ [.lst (cutD ds lo hi)]) else .ok (.fl (cutD ds lo hi)) s
    | none => .bad)
def mSl (cell : Bool) (m : ME) (l h : MO) : ME := fun ρ s => (m ρ s).bind fun x s => (l ρ s).bind fun lo s => (h ρ s).bind fun hi s => oSl cell x lo hi s
theorem ok_sl {K : PySem.W.Frag} {mg : Str → Option Value} {cell : Bool} {α : Al} {H : Hp} {s : Store} {x : D} {vx : V} {lo hi : Option Int} {E : WH} {Q : VK} (S : RSt K mg H α s) (rx : RD K mg H α x vx) (h : wp K mg (RD K mg) α H (oSl cell x lo hi s) E Q) :
    rSlL K vx lo hi H Q ∨ rSlA K vx lo hi H Q ∨ rSlS vx lo hi H Q := by
  unfold oSl at h
  split at h
  · rename_i z
    split at h
    · rename_i hz
      exact .inr (.inr ⟨z, rx.str_inv, big_line hz, wp_ok h S (RD.str _)⟩)
    · exact h.elim
  · rename_i ds
    obtain ⟨a, xs, rfl, t, l⟩ := id rx.tup_inv
    refine .inr (.inl ⟨a, xs, rfl, t, fun w => ?_, fun w p hp => wp_new h S hp (rd_tup S hp (l.cut lo hi))⟩)
    have e : cutD ds lo hi = ds := by
      unfold cutD
      rw [l.length, w.1, w.2, ← l.length]
      simp
    rw [e] at h
    exact wp_ok h S rx
  · split at h
    · rename_i ds q
      obtain ⟨p, xs, rfl, hq, l⟩ := rx.lst S q
      refine .inl ⟨p, xs, rfl, hq, fun b hb => ?_⟩
      split at h
      · exact wp_cell h S hb (l.cut lo hi)
      · exact wp_new h S hb (rd_lst S hb (l.cut lo hi))
    · exact h.elim
theorem rd_thenO {K : PySem.W.Frag} {mg : Str → Option Value} {β γ : Type} {rel : Hp → Al → β → γ → Prop} {r : R (Option Int)} {k : Option Int → Store → R β} {α : Al} {H : Hp} {ρ : Envt} {s0 : Store} {σ : L2.St} {E : WH} {Q : γ → Hp → Prop} {T : Option Int → Hp → Prop} (S : Sim K mg α H ρ s0 σ)
    (h : wp K mg rel α H (r.bind k) E Q) (t : ∀ α1 H1 s1 c, Sim K mg α1 H1 ρ s1 σ → Gr α H α1 H1 → wp K mg rel α1 H1 (k c s1) E Q → T c H1) : wp K mg RO α H r E T :=
  wp.imp (wp_bind (rel := RO) h) fun v H1 ⟨α1, s1, d, g, st, r1, q⟩ => by
    have e : v = d := r1
    subst e
    exact t α1 H1 s1 _ (S.gr g st) g q
theorem e_sl (cell : Bool) {lo hi : Option Expr} {ml mh : MO} (he : IE X W e m) (hl : IO X W lo ml) (hh : IO X W hi mh) : IE X W (.Subscript e (.Slice lo hi none p2) pos) (mSl cell m ml mh) :=
  PE_imp (pe_slice (sl_list.or (sl_tupA.or sl_str)) he hl hh) fun σ H Q ⟨α, ρ, s, S, h⟩ => ⟨α, ρ, s, S, rd_then S h fun α1 H1 s1 x vx S1 rx g1 h1 => ⟨α1, ρ, s1, S1, rd_thenO S1 h1 fun α2 H2 s2 lo S2 g2 h2 => ⟨α2, ρ, s2, S2, rd_thenO S2 h2 fun α3 H3 s3 hi S3 g3 h3 =>
    ok_sl S3.st (RD.gr g3.toGw _ _ (RD.gr g2.toGw _ _ rx)) h3⟩⟩⟩
end
/-! ### built-ins -/
def fLen : MF := fun ds s => match ds with
  | [.str z] => if z.length ≤ big then .ok (.int z.length) s else .bad
  | [d] => (match d.seq s with
    | some es => .ok (.int es.length) s
    | none => .bad)
  | _ => .bad
def rLenU (K : PySem.W.Frag) : List V → Hp → VK → Prop := fun xs H Q => (∃ p ys, xs = [.ref p] ∧ (SqL K H p ys ∨ SqT K H p ys) ∧ Q (.int ys.length) H) ∨ (∃ z, xs = [.str z] ∧ z.length ≤ sizeLine ∧ Q (.int z.length) H)
theorem cr_len {X : Cx} : CallR X (.builtin "len") (rLenU X.K) := call_len_seq.or call_len_str
section
variable {K : PySem.W.Frag} {mg : Str → Option Value}
theorem ok_len : CallOk K mg fLen (rLenU K) := fun {α H s xs vs E Q} S rl h => by
  unfold fLen at h
  split at h
  · obtain ⟨v, rfl, l1⟩ := rl.one_inv
    split at h
    · rename_i hz
      rw [l1.str_inv]
      exact .inr ⟨_, rfl, big_line hz, wp_ok h S (RD.int _)⟩
    · exact h.elim
  · obtain ⟨v, rfl, l1⟩ := rl.one_inv
    split at h
    · rename_i es q
      obtain ⟨p, xs, rfl, hq, l⟩ := l1.sq S q
      exact .inl ⟨p, xs, rfl, hq, by rw [← l.length]; exact wp_ok h S (RD.int _)⟩
    · exact h.elim
  · exact h.elim
def fInt : MF := fun ds s => match ds with
  | [.int i] => .ok (.int i) s
  | [.bl b] => .ok (.int (if b then 1 else 0)) s
  | _ => .bad
def rInt1 : List V → Hp → VK → Prop := fun xs H Q => (∃ i, xs = [.int i] ∧ Q (.int i) H) ∨ ∃ k, xs = [.bl k] ∧ Q (.int (if k then 1 else 0)) H
theorem cr_int {X : Cx} : CallR X (.type "int") rInt1 := call_int1
theorem ok_int : CallOk K mg fInt rInt1 := fun {α H s xs vs E Q} S rl h => by
  unfold fInt at h
  split at h
  · obtain ⟨v, rfl, l1⟩ := rl.one_inv
    rw [l1.int_inv]
    exact .inl ⟨_, rfl, wp_ok h S (RD.int _)⟩
  · obtain ⟨v, rfl, l1⟩ := rl.one_inv
    rw [l1.bl_inv]
    exact .inr ⟨_, rfl, wp_ok h S (RD.int _)⟩
  · exact h.elim
def fTupOf : MF := fun ds s => match ds with
  | [.tup es] => .ok (.tup es) s
  | [d] => (match d.ls s with
    | some es => .ok (.tup es) s
    | none => .bad)
  | _ => .bad
def rTupOf (K : PySem.W.Frag) : List V → Hp → VK → Prop := fun xs H Q => ∃ p ys, xs = [.ref p] ∧ ((SqL K H p ys ∧ ∀ l, H l = none → Q (.ref l) (upd H l (.tup ys))) ∨ (SqT K H p ys ∧ Q (.ref p) H))
theorem cr_tupOf {X : Cx} : CallR X (.type "tuple") (rTupOf X.K) := call_tuple_of
theorem ok_tupOf : CallOk K mg fTupOf (rTupOf K) := fun {α H s xs vs E Q} S rl h => by
  unfold fTupOf at h
  split at h
  · obtain ⟨v, rfl, l1⟩ := rl.one_inv
    obtain ⟨a, xs, rfl, t, l⟩ := id l1.tup_inv
    exact ⟨a, xs, rfl, .inr ⟨t, wp_ok h S l1⟩⟩
  · obtain ⟨v, rfl, l1⟩ := rl.one_inv
    split at h
    · rename_i es q
      obtain ⟨p, xs, rfl, hq, l⟩ := l1.lst S q
      exact ⟨p, xs, rfl, .inl ⟨hq, fun b hb => wp_new h S hb (rd_tup S hb l)⟩⟩
    · exact h.elim
  · exact h.elim
def fLstOf (cell : Bool) : MF := fun ds s => match ds with
  | [d] => (match d.seq s with
    | some es => if cell then .ok (.ref s.length) (s ++ [.lst es]) else .ok (.fl es) s
    | none => .bad)
  | _ => .bad
def rLstOf (K : PySem.W.Frag) : List V → Hp → VK → Prop := fun xs H Q => ∃ p ys, xs = [.ref p] ∧ (SqL K H p ys ∨ SqT K H p ys) ∧ ∀ l, H l = none → Q (.ref l) (upd H l (.lst ys))
theorem cr_lstOf {X : Cx} : CallR X (.type "list") (rLstOf X.K) := call_list_of
theorem ok_lstOf (cell : Bool) : CallOk K mg (fLstOf cell) (rLstOf K) := fun {α H s xs vs E Q} S rl h => by
  unfold fLstOf at h
  split at h
  · obtain ⟨v, rfl, l1⟩ := rl.one_inv
    split at h
    · rename_i es q
      obtain ⟨p, xs, rfl, hq, l⟩ := l1.sq S q
      refine ⟨p, xs, rfl, hq, fun b hb => ?_⟩
      split at h
      · exact wp_cell h S hb l
      · exact wp_new h S hb (rd_lst S hb l)
    · exact h.elim
  · exact h.elim
def D.bls : List D → Option (List Bool)
  | [] => some []
  | .bl b :: ds => (D.bls ds).map (b :: ·)
  | _ => none
theorem RL.bls {H : Hp} {α : Al} : ∀ {ds : List D} {xs : List V} {bs : List Bool}, RL K mg H α ds xs → D.bls ds = some bs → xs = bs.map V.bl
  | [], xs, bs, l, e => by unfold RL at l; subst l; cases e; rfl
  | d :: ds, xs, bs, l, e => by
    unfold RL at l
    obtain ⟨v, r, rfl, l1, l2⟩ := l
    cases d with
    | bl b =>
      unfold D.bls at e
      obtain ⟨cs, e1, e2⟩ := Option.map_eq_some_iff.mp e
      subst e2
      rw [l1.bl_inv, RL.bls l2 e1]
      rfl
    | _ => cases e
def fAll : MF := fun ds s => match ds with
  | [d] => (match (d.ls s).bind D.bls with
    | some bs => .ok (.bl (bs.all id)) s
    | none => .bad)
  | _ => .bad
def fAny : MF := fun ds s => match ds with
  | [d] => (match (d.ls s).bind D.bls with
    | some bs => .ok (.bl (bs.any id)) s
    | none => .bad)
  | _ => .bad
theorem ok_all : CallOk K mg fAll (rAll K) := fun {α H s xs vs E Q} S rl h => by
  unfold fAll at h
  split at h
  · obtain ⟨v, rfl, l1⟩ := rl.one_inv
    split at h
    · rename_i bs q
      obtain ⟨es, q1, q2⟩ := Option.bind_eq_some_iff.mp q
      obtain ⟨p, xs, rfl, hq, l⟩ := l1.lst S q1
      rw [l.bls q2] at hq
      exact ⟨p, bs, rfl, hq, wp_ok h S (RD.bl _)⟩
    · exact h.elim
  · exact h.elim
theorem ok_any : CallOk K mg fAny (rAny K) := fun {α H s xs vs E Q} S rl h => by
  unfold fAny at h
  split at h
  · obtain ⟨v, rfl, l1⟩ := rl.one_inv
    split at h
    · rename_i bs q
      obtain ⟨es, q1, q2⟩ := Option.bind_eq_some_iff.mp q
      obtain ⟨p, xs, rfl, hq, l⟩ := l1.lst S q1
      rw [l.bls q2] at hq
      exact ⟨p, bs, rfl, hq, wp_ok h S (RD.bl _)⟩
    · exact h.elim
  · exact h.elim
def fMax2 : MF := fun ds s => match ds with
  | [.int i, .int j] => .ok (.int (if j > i then j else i)) s
  | _ => .bad
def fMin2 : MF := fun ds s => match ds with
  | [.int i, .int j] => .ok (.int (if j < i then j else i)) s
  | _ => .bad
def rMax2' : List V → Hp → VK → Prop := fun xs H Q => ∃ i j, xs = [.int i, .int j] ∧ Q (.int (if j > i then j else i)) H
def rMin2' : List V → Hp → VK → Prop := fun xs H Q => ∃ i j, xs = [.int i, .int j] ∧ Q (.int (if j < i then j else i)) H
theorem ok_max2 : CallOk K mg fMax2 rMax2' := fun {α H s xs vs E Q} S rl h => by
  unfold fMax2 at h
  split at h
  · obtain ⟨v, v2, rfl, l1, l2⟩ := rl.two_inv
    rw [l1.int_inv, l2.int_inv]
    exact ⟨_, _, rfl, wp_ok h S (RD.int _)⟩
  · exact h.elim
theorem ok_min2 : CallOk K mg fMin2 rMin2' := fun {α H s xs vs E Q} S rl h => by
  unfold fMin2 at h
  split at h
  · obtain ⟨v, v2, rfl, l1, l2⟩ := rl.two_inv
    rw [l1.int_inv, l2.int_inv]
    exact ⟨_, _, rfl, wp_ok h S (RD.int _)⟩
  · exact h.elim
end
theorem RL.dropLast {K : PySem.W.Frag} {mg : Str → Option Value} {H : Hp} {α : Al} {ds : List D} {xs : List V} (l : RL K mg H α ds xs) : RL K mg H α ds.dropLast xs.dropLast := by
  rw [List.dropLast_eq_take, List.dropLast_eq_take, l.length]
  exact l.take _
/-! ### list.append, list.pop -/
def oApp : O2 := fun x y s => match x with
  | .ref n => (match lstAt s n with
    | some ds => if ds.length < big then .ok .non (s.set n (.lst (ds ++ [y]))) else .bad
    | none => .bad)
  | _ => .bad
def mApp (mo m : ME) : ME := fun ρ s => (mo ρ s).bind fun x s => match x with
  | .ref n => (match lstAt s n with
    | some _ => (m ρ s).bind fun y s => oApp (.ref n) y s
    | none => .bad)
  | _ => .bad
def oPop : O1 := fun x s => match x with
  | .ref n => (match lstAt s n with
    | some ds => (match ds[ds.length - 1]? with
      | some d => .ok d (s.set n (.lst ds.dropLast))
      | none => .bad)
    | none => .bad)
  | _ => .bad
section
variable {X : Cx} {W : WX} {e o : Expr} {m mo : ME} {pos p2 : Pos}
theorem e_app (ho : IE X W o mo) (he : IE X W e m) (hbase : attributeBase o "append" X.env (eval o X.env) = eval o X.env := by rfl)
    (hfew : ((backTo pos (starEach [e] X.env)).all (fun x => !x.1) && (backToKw pos (keywordEach [] X.env)).all (fun x => x.1.isSome)
      && decide ([e].length + ([] : List Keyword).length + (if ([] : List Keyword).isEmpty then 0 else 1) < 30)) = true := by rfl)
    (hline : (p2.endLine == pos.line) = true := by rfl) (hst : starEach [e] X.env = (false, eval e X.env) :: starEach [] X.env := by rfl) (hpl : (backTo pos (starEach [] X.env)).any (·.1) = false := by rfl) : IE X W (.Call (.Attribute o "append" p2) [e] [] pos) (mApp mo m) :=
  PE_imp (pe_bm PySem.F.plainAttrs_list PySem.F.slot_list_append PySem.F.type_list_append mt_append ho (a_cons he a_nil hst) hbase hfew hline hst hpl) fun σ H Q ⟨α, ρ, s, S, h⟩ => ⟨α, ρ, s, S, rd_then S h fun α1 H1 s1 x vx S1 rx g1 h1 => by
    split at h1
    · rename_i n
      split at h1
      · rename_i ds q
        obtain ⟨a, xs, rfl, ea, hx, l⟩ := rx.ref_inv S1.st (lstAt_some q)
        refine ⟨.inl ⟨rfl, _, SqL.of hx⟩, α1, ρ, s1, S1, ?_⟩
        have h2 : wp X.K X.mg (RD X.K X.mg) α1 H1 ((aCons m aNil ρ s1).bind fun ys s => match ys with
          | [y] => oApp (.ref n) y s
          | _ => .bad) (fun C dd H' => W C dd σ H') Q := by
          unfold aCons aNil
          cases e1 : m ρ s1 with
          | ok d s2 => rw [e1] at h1; exact h1
          | er x s2 => rw [e1] at h1; exact h1
          | bad => rw [e1] at h1; exact h1
        refine rd_thenA S1 h2 fun α2 H2 s2 ys vs S2 rl g2 h3 => ?_
        split at h3
        · rename_i y
          obtain ⟨v, rfl, ry⟩ := rl.one_inv
          unfold oApp at h3
          dsimp only at h3
          split at h3
          · rename_i es q2
            split at h3
            · rename_i hz
              obtain ⟨b, us, eb, eb2, hb, lb⟩ := (RD.gr g2.toGw _ _ rx).ref_inv S2.st (lstAt_some q2)
              cases eb
              have gw := Gr.write (o := .lst (us ++ [v])) S2.st eb2
              refine ⟨a, us, v, rfl, rfl, hb, by rw [← lb.length]; exact big_lt hz, h3 α2 _ .non gw (S2.st.write eb2 ⟨_, upd_same, (lb.gr gw.toGw).append (RL.one (RD.gr gw.toGw _ _ ry))⟩) RD.non⟩
            · exact h3.elim
          · exact h3.elim
        · exact h3.elim
      · exact h1.elim
    · exact h1.elim⟩
theorem e_pop (ho : IE X W o mo) (hbase : attributeBase o "pop" X.env (eval o X.env) = eval o X.env := by rfl) (hline : (p2.endLine == pos.line) = true := by rfl) : IE X W (.Call (.Attribute o "pop" p2) [] [] pos) (mUn oPop mo) :=
  PE_imp (pe_bm0 PySem.F.plainAttrs_list PySem.F.slot_list_pop PySem.F.type_list_pop mt_pop ho hbase hline) fun σ H Q ⟨α, ρ, s, S, h⟩ => ⟨α, ρ, s, S, rd_then S h fun α1 H1 s1 x vx S1 rx g1 h1 => by
    unfold oPop at h1
    split at h1
    · rename_i n
      split at h1
      · rename_i ds q
        split at h1
        · rename_i d q2
          obtain ⟨a, xs, rfl, ea, hx, l⟩ := rx.ref_inv S1.st (lstAt_some q)
          obtain ⟨v, h2, h3⟩ := l.get q2
          have gw := Gr.write (o := .lst xs.dropLast) S1.st ea
          refine ⟨.inl ⟨rfl, _, SqL.of hx⟩, a, xs, v, rfl, rfl, hx, by rw [← l.length]; exact h2, h1 α1 _ v gw (S1.st.write ea ⟨_, upd_same, ?_⟩) (RD.gr gw.toGw _ _ h3)⟩
          exact RL.dropLast (RL.gr gw.toGw _ _ l)
        · exact h1.elim
      · exact h1.elim
    · exact h1.elim⟩
end
/-! ### comprehensions -/
def wipeR (ρ : Envt) : List Nat → Envt
  | [] => ρ
  | v :: vs => (wipeR ρ vs).set v none
/-- nothing is raised -/
def R.ne {β : Type} : R β → R β
  | .ok a s => .ok a s
  | _ => .bad
/-- the names that a comprehension's target sets -/
def tgE (js : List Nat) (d : D) (ρ : Envt) : Option Envt := match js with
  | [j] => some (ρ.set j (some d))
  | js => (match d with
    | .tup ds => if ds.length = js.length then some ((js.zip ds).foldl (fun ρ p => ρ.set p.1 (some p.2)) ρ) else none
    | _ => none)
open Classical in
noncomputable def lcL (gd : Gd) (js : List Nat) (mt : MT) (me : ME) (ρ0 : Envt) : List D → Store → R (List D)
  | [], s => if gdOk gd s then .ok [] s else .bad
  | d :: ds, s => if gdOk gd s then (match tgE js d ρ0 with
    | some ρ => (mt ρ s).ne.bind fun b s => if b then (me ρ s).ne.bind fun x s => (lcL gd js mt me ρ0 ds s).bind fun r s => .ok (x :: r) s else lcL gd js mt me ρ0 ds s
    | none => .bad) else .bad
noncomputable def mLcL (vs js : List Nat) (mi : MI) (mt : MT) (me : ME) : MA := fun ρ s => (mi ρ s).bind fun p s => if p.1.length ≤ big then lcL p.2 js mt me (wipeR ρ vs) p.1 s else .bad
/-- the new list stands still -/
noncomputable def mLc (vs js : List Nat) (mi : MI) (mt : MT) (me : ME) : ME := fun ρ s => (mLcL vs js mi mt me ρ s).bind fun ds s => .ok (.fl ds) s
/-- the new list will be changed -/
noncomputable def mLcC (vs js : List Nat) (mi : MI) (mt : MT) (me : ME) : ME := fun ρ s => (mLcL vs js mi mt me ρ s).bind fun ds s => .ok (.ref s.length) (s ++ [.lst ds])
def mYes : MT := fun _ s => .ok true s
/-- a target's names in the hand layer -/
def gsN : List Nat → TGs
  | [] => gNil
  | j :: js => gCons (gName j) (gsN js)
def tgN (K : PySem.W.Frag) (js : List Nat) : TG := match js with
  | [j] => gName j
  | js => gTup K js.length (gsN js)
section
variable {K : PySem.W.Frag} {mg : Str → Option Value} {H : Hp} {α : Al} {s : Store} {ρ : Envt} {σ : L2.St}
theorem Sim.wipe (S : Sim K mg α H ρ s σ) : ∀ vs, Sim K mg α H (wipeR ρ vs) s (wipe σ vs)
  | [] => S
  | v :: vs => (S.wipe vs).unset v
theorem wipe_at {j : Nat} : ∀ {vs : List Nat}, j ∈ vs → j < (wipe σ vs).length → (wipe σ vs)[j]? = some none
  | v :: vs, h, hl => by
    unfold wipe at hl ⊢
    rw [List.length_set] at hl
    by_cases e : v = j
    · subst e
      rw [List.getElem?_set_self hl]
    · rw [List.getElem?_set_ne e]
      rcases List.mem_cons.mp h with z | z
      · exact absurd z.symm e
      · exact wipe_at z hl
theorem wipe_get (vs : List Nat) (i : Nat) : (wipe σ vs)[i]? = if i ∈ vs ∧ i < σ.length then some none else σ[i]? := by
  induction vs with
  | nil => simp [wipe]
  | cons v vs ih =>
    unfold wipe
    by_cases e : v = i
    · subst e
      by_cases hl : v < σ.length
      · rw [List.getElem?_set_self (by rw [wipe_length]; exact hl), if_pos ⟨List.mem_cons_self, hl⟩]
      · rw [List.getElem?_eq_none (by rw [List.length_set, wipe_length]; omega), if_neg (fun z => hl z.2), List.getElem?_eq_none (by omega)]
    · rw [List.getElem?_set_ne e, ih]
      have : (i ∈ v :: vs) ↔ i ∈ vs := ⟨fun z => (List.mem_cons.mp z).resolve_left fun q => e q.symm, List.mem_cons_of_mem v⟩
      simp only [this]
theorem wipe_eq {σ' : L2.St} {vs : List Nat} (hl : σ'.length = σ.length) (h : ∀ i, i ∉ vs → σ'[i]? = σ[i]?) : wipe σ' vs = wipe σ vs := by
  apply List.ext_getElem?
  intro i
  rw [wipe_get, wipe_get, hl]
  by_cases m : i ∈ vs
  · by_cases l : i < σ.length
    · rw [if_pos ⟨m, l⟩, if_pos ⟨m, l⟩]
    · rw [if_neg (fun z => l z.2), if_neg (fun z => l z.2), List.getElem?_eq_none (by omega), List.getElem?_eq_none (by omega)]
  · rw [if_neg (fun z => m z.1), if_neg (fun z => m z.1), h i m]
/-- several names set -/
theorem gsN_run {vs : List Nat} : ∀ {js : List Nat} {ds : List D} {xs : List V} {ρ : Envt} {σ' : L2.St} {Q : L2.St → Hp → Prop}, (∀ j ∈ js, j ∈ vs) → js.length = ds.length → RL K mg H α ds xs → Sim K mg α H ρ s σ' → wipe σ' vs = wipe σ vs → σ'.length = σ.length →
    (∀ σ2, Sim K mg α H ((js.zip ds).foldl (fun ρ p => ρ.set p.1 (some p.2)) ρ) s σ2 → wipe σ2 vs = wipe σ vs → Q σ2 H) → gsN js xs σ' H Q
  | [], [], xs, ρ, σ', Q, _, _, l, S, w, hw, q => by unfold RL at l; exact ⟨l, q σ' S w⟩
  | [], d :: ds, xs, ρ, σ', Q, _, e, _, _, _, _, _ => by simp at e
  | j :: js, [], xs, ρ, σ', Q, _, e, _, _, _, _, _ => by simp at e
  | j :: js, d :: ds, xs, ρ, σ', Q, m, e, l, S, w, hw, q => by
    unfold RL at l
    obtain ⟨v, r, rfl, l1, l2⟩ := l
    refine ⟨v, r, rfl, ?_⟩
    show gsN js r (σ'.set j (some v)) H Q
    refine gsN_run (fun i hi => m i (List.mem_cons_of_mem _ hi)) (by simpa using e) l2 (S.set j l1) ?_ (by rw [List.length_set]; exact hw) q
    exact (wipe_eq (List.length_set ..) fun i hi => List.getElem?_set_ne (fun z => hi (z ▸ m j List.mem_cons_self))).trans w
theorem tgN_run {vs js : List Nat} {d : D} {v : V} {ρ' : Envt} {Q : L2.St → Hp → Prop} (hj : ∀ j ∈ js, j ∈ vs) (S : Sim K mg α H (wipeR ρ vs) s (wipe σ vs)) (r : RD K mg H α d v) (e : tgE js d (wipeR ρ vs) = some ρ') (q : ∀ σ2, Sim K mg α H ρ' s σ2 → wipe σ2 vs = wipe σ vs → Q σ2 H) :
    tgN K js v (wipe σ vs) H Q := by
  have w0 : wipe (wipe σ vs) vs = wipe σ vs := wipe_eq (wipe_length ..) fun i hi => by rw [wipe_get, if_neg fun z => hi z.1]
  unfold tgE at e
  split at e
  · rename_i j
    cases e
    show Q ((wipe σ vs).set j (some v)) H
    refine q _ (S.set j r) ?_
    exact (wipe_eq (List.length_set ..) fun i hi => List.getElem?_set_ne (fun z => hi (z ▸ hj j List.mem_cons_self))).trans w0
  · rename_i hn
    split at e
    · split at e
      · rename_i ds hl
        cases e
        obtain ⟨a, xs, rfl, t, l⟩ := r.tup_inv
        have e2 : tgN K js = gTup K js.length (gsN js) := by
          unfold tgN
          split
          · rename_i j
            exact absurd rfl (hn j)
          · rfl
        rw [e2]
        exact ⟨a, xs, rfl, t, by rw [← l.length, hl], gsN_run (σ := σ) hj hl.symm l S w0 (wipe_length ..) q⟩
      · cases e
    · cases e
theorem wp_ne {β γ : Type} {rel : Hp → Al → β → γ → Prop} {r : R β} {E E' : WH} {Q : γ → Hp → Prop} (h : wp K mg rel α H r.ne E Q) : wp K mg rel α H r E' Q := by
  cases r with
  | ok d s' => exact h
  | er e s' => exact h.elim
  | bad => exact h
end

/-! the hand layer's reading of a comprehension -/
abbrev W0 : WX := fun _ _ _ _ => False
section
variable {K : PySem.W.Frag} {mg : Str → Option Value} {H H' : Hp} {α α' : Al} {s : Store} {ρ : Envt} {σ : L2.St} {W : WX} {mi : MI} {mt : MT} {me : ME} {vs js : List Nat} {Q : VK}
mutual
theorem RD.hide {p : Addr} (hp : H p = none) : ∀ (d : D) (v : V), RD K mg H α d v → RD K mg H (α.hide p) d v
  | .non, _, h => by unfold RD at h ⊢; exact h
  | .bl _, _, h => by unfold RD at h ⊢; exact h
  | .int _, _, h => by unfold RD at h ⊢; exact h
  | .str _, _, h => by unfold RD at h ⊢; exact h
  | .ty _, _, h => by unfold RD at h ⊢; exact h
  | .cls _, _, h => by unfold RD at h ⊢; exact h
  | .fd _ _, _, h => by unfold RD at h; exact h.elim
  | .tup ds, v, h => by
    unfold RD at h ⊢
    obtain ⟨a, xs, e, t, l⟩ := h
    refine ⟨a, xs, e, ?_, RL.hide hp ds xs l⟩
    rcases t with ⟨n, t⟩ | t
    · refine .inl ⟨fun m => (Al.mem_hide.mp m).elim (fun z => ?_) n, t⟩
      subst z
      rcases t with t | ⟨_, t⟩ <;> rw [hp] at t <;> cases t
    · exact .inr t
  | .fl ds, v, h => by
    unfold RD at h ⊢
    obtain ⟨a, xs, e, t, l⟩ := h
    refine ⟨a, xs, e, ?_, RL.hide hp ds xs l⟩
    rcases t with ⟨n, t⟩ | t
    · refine .inl ⟨fun m => (Al.mem_hide.mp m).elim (fun z => ?_) n, t⟩
      subst z
      rcases t with t | ⟨_, t⟩ <;> rw [hp] at t <;> cases t
    · exact .inr t
  | .ref n, v, h => by unfold RD at h ⊢; exact h
  | .ins c fs, v, h => by
    unfold RD at h ⊢
    obtain ⟨a, C, dx, xs, e, n, m, z, t, l⟩ := h
    exact ⟨a, C, dx, xs, e, fun m => (Al.mem_hide.mp m).elim (fun z => by subst z; rw [hp] at t; cases t) n, m, z, t, RL.hide hp fs xs l⟩
  | .exc c fs, v, h => by
    unfold RD at h ⊢
    obtain ⟨a, C, d, e, n, m, t, xs, l, p1, q⟩ := h
    refine ⟨a, C, d, e, fun m => (Al.mem_hide.mp m).elim (fun z => by subst z; rw [hp] at t; cases t) n, m, t, xs, RL.hide hp fs xs l, p1, fun y => ?_⟩
    obtain ⟨x, ex, nx, hx⟩ := q y
    exact ⟨x, ex, fun m => (Al.mem_hide.mp m).elim (fun z => by subst z; rw [hp] at hx; cases hx) nx, hx⟩
theorem RL.hide {p : Addr} (hp : H p = none) : ∀ (ds : List D) (xs : List V), RL K mg H α ds xs → RL K mg H (α.hide p) ds xs
  | [], _, h => by unfold RL at h ⊢; exact h
  | d :: ds, xs, h => by
    unfold RL at h ⊢
    obtain ⟨v, r, e, h1, h2⟩ := h
    exact ⟨v, r, e, RD.hide hp d v h1, RL.hide hp ds r h2⟩
end
/-- a hidden list is written; the rest stands -/
theorem Gw.side {p : Addr} {o : HO} (hp : p ∈ α.h) : Gw α H α (upd H p o) := ⟨fun h => h, fun b u e n => by
  rw [upd_ne (fun z : b = p => n (by rw [z]; exact .inr hp))]
  exact e, fun _ n => n⟩
theorem RSt.side {p : Addr} {o : HO} (S : RSt K mg H α s) (hp : p ∈ α.h) : RSt K mg (upd H p o) α s := by
  refine ⟨S.len, S.nd, S.dj, fun a m => ?_, fun n c a e1 e2 => ?_⟩
  · by_cases ha : a = p
    · rw [ha]; exact ⟨_, upd_same⟩
    · obtain ⟨u, e⟩ := S.tr a m
      exact ⟨u, by rw [upd_ne ha]; exact e⟩
  · have ha : a ≠ p := fun z => S.dj a (List.mem_of_getElem? e2) (z ▸ hp)
    exact (S.cell n c a e1 e2).gr (Gw.side hp) fun u e => by rw [upd_ne ha]; exact e
theorem RC.hide {p : Addr} (hp : H p = none) {c : Cell} {a : Addr} (h : RC K mg H α c a) : RC K mg H (α.hide p) c a := by
  cases c with
  | lst ds => obtain ⟨xs, hx, l⟩ := h; exact ⟨xs, hx, l.hide hp ds xs⟩
  | ins c fs => obtain ⟨C, dx, xs, m, q, hx, l⟩ := h; exact ⟨C, dx, xs, m, q, hx, l.hide hp fs xs⟩
  | dict ks vs => exact h.elim
  | dead => trivial
/-- a new hidden list -/
theorem RSt.hidden {p : Addr} {o : HO} (S : RSt K mg H α s) (hp : H p = none) : RSt K mg (upd H p o) (α.hide p) s := by
  have hn := S.notin hp
  have g : Gw (α.hide p) H (α.hide p) (upd H p o) := Gw.side List.mem_cons_self
  refine ⟨S.len, S.nd, fun a m z => ?_, fun a m => ?_, fun n c a e1 e2 => ?_⟩
  · rcases List.mem_cons.mp z with z | z
    · exact hn (z ▸ .inl m)
    · exact S.dj a m z
  · rcases Al.mem_hide.mp m with z | m
    · rw [z]; exact ⟨_, upd_same⟩
    · obtain ⟨u, e⟩ := S.tr a m
      exact ⟨u, by rw [upd_ne (ne_of_none e hp)]; exact e⟩
  · exact ((S.cell n c a e1 e2).hide hp).gr g fun u e => by rw [upd_ne (ne_of_none e hp)]; exact e
/-- no longer hidden -/
theorem Al.hide_app (p : Addr) (β : List Addr) : (α.hide p).app β = (α.app β).hide p := rfl
mutual
theorem RD.unhide {p : Addr} : ∀ (d : D) (v : V), RD K mg H (α.hide p) d v → RD K mg H α d v
  | .non, _, h => by unfold RD at h ⊢; exact h
  | .bl _, _, h => by unfold RD at h ⊢; exact h
  | .int _, _, h => by unfold RD at h ⊢; exact h
  | .str _, _, h => by unfold RD at h ⊢; exact h
  | .ty _, _, h => by unfold RD at h ⊢; exact h
  | .cls _, _, h => by unfold RD at h ⊢; exact h
  | .fd _ _, _, h => by unfold RD at h; exact h.elim
  | .tup ds, v, h => by
    unfold RD at h ⊢
    obtain ⟨a, xs, e, t, l⟩ := h
    exact ⟨a, xs, e, t.imp (fun ⟨n, t⟩ => ⟨fun m => n (Al.mem_hide.mpr (.inr m)), t⟩) id, RL.unhide ds xs l⟩
  | .fl ds, v, h => by
    unfold RD at h ⊢
    obtain ⟨a, xs, e, t, l⟩ := h
    exact ⟨a, xs, e, t.imp (fun ⟨n, t⟩ => ⟨fun m => n (Al.mem_hide.mpr (.inr m)), t⟩) id, RL.unhide ds xs l⟩
  | .ref n, v, h => by unfold RD at h ⊢; exact h
  | .ins c fs, v, h => by
    unfold RD at h ⊢
    obtain ⟨a, C, dx, xs, e, n, m, z, t, l⟩ := h
    exact ⟨a, C, dx, xs, e, fun m => n (Al.mem_hide.mpr (.inr m)), m, z, t, RL.unhide fs xs l⟩
  | .exc c fs, v, h => by
    unfold RD at h ⊢
    obtain ⟨a, C, d, e, n, m, t, xs, l, p1, q⟩ := h
    refine ⟨a, C, d, e, fun m => n (Al.mem_hide.mpr (.inr m)), m, t, xs, RL.unhide fs xs l, p1, fun y => ?_⟩
    obtain ⟨x, ex, nx, hx⟩ := q y
    exact ⟨x, ex, fun m => nx (Al.mem_hide.mpr (.inr m)), hx⟩
theorem RL.unhide {p : Addr} : ∀ (ds : List D) (xs : List V), RL K mg H (α.hide p) ds xs → RL K mg H α ds xs
  | [], _, h => by unfold RL at h ⊢; exact h
  | d :: ds, xs, h => by
    unfold RL at h ⊢
    obtain ⟨v, r, e, h1, h2⟩ := h
    exact ⟨v, r, e, RD.unhide d v h1, RL.unhide ds r h2⟩
end
theorem RSt.unhide {p : Addr} (S : RSt K mg H (α.hide p) s) : RSt K mg H α s := ⟨S.len, S.nd, fun a m z => S.dj a m (List.mem_cons_of_mem _ z), fun a m => S.tr a (Al.mem_hide.mpr (.inr m)), fun n c a e1 e2 => by
  have h := S.cell n c a e1 e2
  cases c with
  | lst ds => obtain ⟨xs, hx, l⟩ := h; exact ⟨xs, hx, l.unhide ds xs⟩
  | ins c fs => obtain ⟨C, dx, xs, m, q, hx, l⟩ := h; exact ⟨C, dx, xs, m, q, hx, l.unhide fs xs⟩
  | dict ks vs => exact h.elim
  | dead => trivial⟩
theorem Sim.hide {p : Addr} {o : HO} (S : Sim K mg α H ρ s σ) (hp : H p = none) : Sim K mg (α.hide p) (upd H p o) ρ s σ := ⟨S.len, fun i d e => by
  obtain ⟨v, h1, h2⟩ := S.env i d e
  exact ⟨v, h1, RD.gr (Gw.side List.mem_cons_self) _ _ (h2.hide hp)⟩, S.st.hidden hp⟩
theorem Sim.unhide {p : Addr} (S : Sim K mg (α.hide p) H ρ s σ) : Sim K mg α H ρ s σ := ⟨S.len, fun i d e => by
  obtain ⟨v, h1, h2⟩ := S.env i d e
  exact ⟨v, h1, h2.unhide⟩, S.st.unhide⟩
theorem Sim.side {p : Addr} {o : HO} (S : Sim K mg α H ρ s σ) (hp : p ∈ α.h) : Sim K mg α (upd H p o) ρ s σ := ⟨S.len, fun i d e => by
  obtain ⟨v, h1, h2⟩ := S.env i d e
  exact ⟨v, h1, RD.gr (Gw.side hp) _ _ h2⟩, S.st.side hp⟩
end
end LY
/-! LayG: comprehensions. -/
namespace LY
open PySem PySem.Spec PyProof.Rows L2
section
variable {K : PySem.W.Frag} {mg : Str → Option Value} {H H1 H' : Hp} {α α1 α' : Al} {s : Store} {ρ : Envt} {σ : L2.St} {W : WX} {mi : MI} {mt : MT} {me : ME} {vs js : List Nat} {Q : VK}
/-- a step beside a hidden list -/
theorem wp_hide {β β' γ γ' : Type} {rel : Hp → Al → β → γ → Prop} {rel' : Hp → Al → β' → γ' → Prop} {x : R β} {kk : β → Store → R β'} {E E' : WH} {Q2 : γ' → Hp → Prop} {p : Addr} (g : Gr α1 H1 α' H') (hp : H1 p = none)
    (h : wp K mg rel' α1 H1 (x.ne.bind kk) E Q2) : wp K mg rel (α'.hide p) H' x E' (fun v H'' => ∃ α'' s'' d, Gr α1 H1 α'' H'' ∧ RSt K mg H'' (α''.hide p) s'' ∧ rel H'' (α''.hide p) d v ∧ Gr (α'.hide p) H' (α''.hide p) H'' ∧ wp K mg rel' α1 H1 (kk d s'') E Q2) := by
  cases x with
  | er e s' => exact h.elim
  | bad => exact h.elim
  | ok d s'' =>
    intro α2 H'' v g2 st r2
    obtain ⟨β, e⟩ := g2.pre
    rw [Al.hide_app] at e
    subst e
    refine ⟨α'.app β, s'', d, ⟨?_, fun b m => ?_, fun b o hb n => ?_, fun b m => ?_⟩, st, r2, g2, h⟩
    · obtain ⟨γ, e⟩ := g.pre
      exact ⟨γ ++ β, by rw [e]; simp [Al.app]⟩
    · rcases g2.new b (Al.mem_hide.mpr (.inr m)) with z | z
      · rcases Al.mem_hide.mp z with z | z
        · rw [z]; exact .inr hp
        · exact g.new b z
      · by_cases hb : b ∈ α1
        · exact .inl hb
        · cases q : H1 b with
          | none => exact .inr rfl
          | some o => rw [g.keep b o q hb] at z; cases z
    · refine g2.keep b o (g.keep b o hb n) fun m => ?_
      rcases Al.mem_hide.mp m with z | z
      · rw [z, hp] at hb; cases hb
      · exact g.out hb n z
    · rw [g2.hid b (List.mem_cons_of_mem _ (by rw [g.hh]; exact m))]
      exact g.hid b m
theorem lc_run {J : It} {ds : List D} {gd : Gd} {k : List D → Store → R D} {E : WH} (hj : ∀ j ∈ js, j ∈ vs) (jo : JOk K mg α1 H1 J ds gd) (S1 : Sim K mg α1 H1 ρ s σ) (hlen : ds.length ≤ big)
    (h : wp K mg (RD K mg) α1 H1 ((lcL gd js mt me (wipeR ρ vs) ds s).bind k) E Q)
    (fin : ∀ p α' H' s' es acc, H1 p = none → Gr α1 H1 α' H' → RSt K mg H' (α'.hide p) s' → H' p = some (.lst acc) → RL K mg H' (α'.hide p) es acc → wp K mg (RD K mg) α1 H1 (k es s') E Q → Q (.ref p) H') :
    ∀ D, H1 D = none → ∃ Wv : Nat → Nat → Hp → Prop, (∃ m, Wv 0 m (upd H1 D (.lst []))) ∧ ∀ i m H, Wv i m H →
      (J.stop i H ∧ Q (.ref D) H) ∨ (J.go i H ∧ ∃ Nx : Hp → Prop, (∀ H', Nx H' → ∃ m', m' < m ∧ Wv (i + 1) m' H') ∧ ∀ x H', J.yld i H x H' → tgN K js x (wipe σ vs) H' fun σ2 H2 => wipe σ2 vs = wipe σ vs ∧ rdT K mg W0 mt σ2 H2 fun b H3 =>
        if b = true then rdE K mg W0 me σ2 H3 fun y H4 => ∃ acc, H4 D = some (.lst acc) ∧ acc.length < sizeLine ∧ Nx (upd H4 D (.lst (acc ++ [y]))) else Nx H3) := by
  intro p hp
  have hpn := S1.st.notin hp
  let Inv' : Nat → Hp → Prop := fun i H' => ∃ α' s' es acc, Gr α1 H1 α' H' ∧ Sim K mg (α'.hide p) H' (wipeR ρ vs) s' (wipe σ vs) ∧ H' p = some (.lst acc) ∧ RL K mg H' (α'.hide p) es acc ∧ es.length ≤ i ∧
    wp K mg (RD K mg) α1 H1 ((lcL gd js mt me (wipeR ρ vs) (ds.drop i) s').bind fun r s => k (es ++ r) s) E Q
  refine ⟨fun i m H' => m = ds.length - i ∧ i ≤ ds.length ∧ Inv' i H', ⟨ds.length, by simp, Nat.zero_le _, α1, s, [], [], Gr.laid S1.st hp, (S1.wipe vs).hide hp, upd_same, RL.nil, Nat.le_refl _, h⟩, ?_⟩
  rintro i m H' ⟨rfl, hi, α', s', es, acc, g, S, hacc, rl, hle, q⟩
  -- the state as the source sees it
  have gx : Gw α1 H1 (α'.hide p) H' := ⟨g.at, g.keep, fun {b o} hb n m => (Al.mem_hide.mp m).elim (fun z => by rw [z, hp] at hb; cases hb) (g.out hb n)⟩
  by_cases hlt : i < ds.length
  · have e : ds.drop i = ds[i] :: ds.drop (i + 1) := List.drop_eq_getElem_cons hlt
    rw [e] at q
    unfold lcL at q
    split at q
    · rename_i gk
      obtain ⟨j1, j2⟩ := jo.go i (α'.hide p) H' s' gx S.st gk hlt
      refine .inr ⟨j1, fun H'' => Inv' (i + 1) H'', fun H'' z => ⟨ds.length - (i + 1), by omega, rfl, hlt, z⟩, fun x H'' y => ?_⟩
      obtain ⟨gy, sty, d, hd, rd⟩ := j2 x H'' y
      rw [List.getElem?_eq_getElem hlt] at hd
      cases hd
      have Sy := S.gr gy sty
      have gy' : Gr α1 H1 α' H'' := by
        refine ⟨g.pre, g.new, fun b o hb n => gy.keep b o (g.keep b o hb n) (gx.out hb n), fun b m => ?_⟩
        rw [gy.hid b (List.mem_cons_of_mem _ (by rw [g.hh]; exact m))]
        exact g.hid b m
      have hacc1 : H'' p = some (.lst acc) := (gy.hid p List.mem_cons_self).trans hacc
      have rl1 := RL.gr gy.toGw es acc rl
      split at q
      · rename_i ρ' et
        refine tgN_run hj Sy rd et fun σ2 S2 w2 => ⟨w2, α'.hide p, ρ', s', S2, ?_⟩
        have q1 : wp K mg (RD K mg) α1 H1 ((mt ρ' s').ne.bind fun b s => (if b = true then (me ρ' s).ne.bind fun x s => (lcL gd js mt me (wipeR ρ vs) (ds.drop (i + 1)) s).bind fun r s => .ok (x :: r) s else lcL gd js mt me (wipeR ρ vs) (ds.drop (i + 1)) s).bind fun r s => k (es ++ r) s) E Q := by
          cases e1 : (mt ρ' s').ne with
          | ok b s2 => rw [e1] at q; exact q
          | er x s2 => rw [e1] at q; exact q
          | bad => rw [e1] at q; exact q
        refine wp.imp (wp_hide (rel := RB) gy' hp q1) fun b H3 ⟨α3, s3, b', g3, st3, rb, g3', q3⟩ => ?_
        have eb : b = b' := rb
        subst eb
        have S3 := S2.gr g3' st3
        have Sw3 := Sy.gr g3' st3
        have hacc3 : H3 p = some (.lst acc) := (g3'.hid p List.mem_cons_self).trans hacc1
        have rl3 := RL.gr g3'.toGw es acc rl1
        cases b with
        | false => exact iteF ⟨α3, s3, es, acc, g3, Sw3, hacc3, rl3, Nat.le_succ_of_le hle, q3⟩
        | true =>
          refine iteT ⟨α3.hide p, ρ', s3, S3, ?_⟩
          have q4 : wp K mg (RD K mg) α1 H1 ((me ρ' s3).ne.bind fun x s => (lcL gd js mt me (wipeR ρ vs) (ds.drop (i + 1)) s).bind fun r s => k (es ++ (x :: r)) s) E Q := by
            have q3' : wp K mg (RD K mg) α1 H1 (((me ρ' s3).ne.bind fun x s => (lcL gd js mt me (wipeR ρ vs) (ds.drop (i + 1)) s).bind fun r s => .ok (x :: r) s).bind fun r s => k (es ++ r) s) E Q := q3
            cases e1 : (me ρ' s3).ne with
            | ok x s4 =>
              rw [e1] at q3'
              show wp K mg (RD K mg) α1 H1 ((lcL gd js mt me (wipeR ρ vs) (ds.drop (i + 1)) s4).bind fun r s => k (es ++ (x :: r)) s) E Q
              have q5 : wp K mg (RD K mg) α1 H1 (((lcL gd js mt me (wipeR ρ vs) (ds.drop (i + 1)) s4).bind fun r s => .ok (x :: r) s).bind fun r s => k (es ++ r) s) E Q := q3'
              cases e2 : lcL gd js mt me (wipeR ρ vs) (ds.drop (i + 1)) s4 with
              | ok r s5 => rw [e2] at q5; exact q5
              | er y s5 => rw [e2] at q5; exact q5
              | bad => rw [e2] at q5; exact q5
            | er x s4 => rw [e1] at q3'; exact q3'
            | bad => rw [e1] at q3'; exact q3'
          refine wp.imp (wp_hide (rel := RD K mg) g3 hp q4) fun y H4 ⟨α4, s4, d4, g4, st4, rd4, g4', q5⟩ => ?_
          have Sw4 := Sw3.gr g4' st4
          have hacc4 : H4 p = some (.lst acc) := (g4'.hid p List.mem_cons_self).trans hacc3
          have rl4 := RL.gr g4'.toGw es acc rl3
          have side : Gw (α4.hide p) H4 (α4.hide p) (upd H4 p (.lst (acc ++ [y]))) := Gw.side List.mem_cons_self
          have hlen2 : es.length < big := by omega
          refine ⟨acc, hacc4, by rw [← rl.length]; exact big_lt hlen2, α4, s4, es ++ [d4], acc ++ [y], ?_, Sw4.side List.mem_cons_self, upd_same, ?_, by simp; omega, ?_⟩
          · have p4 : p ∉ α1.h := fun z => hpn (.inr z)
            refine ⟨g4.pre, g4.new, fun b o hb n => ?_, fun b m => ?_⟩
            · rw [upd_ne (fun z : b = p => by rw [z, hp] at hb; cases hb)]
              exact g4.keep b o hb n
            · rw [upd_ne (fun z : b = p => p4 (z ▸ m))]
              exact g4.hid b m
          · exact (RL.gr side es acc rl4).append (RL.one (RD.gr side _ _ rd4))
          · simpa [List.append_assoc] using q5
      · exact q.elim
    · exact q.elim
  · have e : ds.drop i = [] := List.drop_eq_nil_of_le (by omega)
    rw [e] at q
    unfold lcL at q
    split at q
    · rename_i gk
      refine .inl ⟨jo.stop i (α'.hide p) H' s' gx S.st gk (by omega), fin p α' H' s' es acc hp g S.st hacc rl ?_⟩
      have q2 : wp K mg (RD K mg) α1 H1 (k (es ++ []) s') E Q := q
      rw [List.append_nil] at q2
      exact q2
    · exact q.elim
theorem rd_lc0 {k : List D → Store → R D} (hj : ∀ j ∈ js, j ∈ vs) (h : ∃ α ρ s, Sim K mg α H ρ s σ ∧ wp K mg (RD K mg) α H ((mLcL vs js mi mt me ρ s).bind k) (fun C dd H' => W C dd σ H') Q)
    (fin : ∀ (α1 : Al) (H1 : Hp) p (α' : Al) H' s' es acc (E : WH), H1 p = none → p ∉ α1 → Gr α1 H1 α' H' → RSt K mg H' (α'.hide p) s' → H' p = some (.lst acc) → RL K mg H' (α'.hide p) es acc → wp K mg (RD K mg) α1 H1 (k es s') E Q → Q (.ref p) H') :
    tLc (rdI K mg W mi) (tgN K js) (rdT K mg W0 mt) (rdE K mg W0 me) vs σ H Q := by
  obtain ⟨α, ρ, s, S, h⟩ := h
  refine ⟨α, ρ, s, S, ?_⟩
  have h1 : wp K mg (RD K mg) α H ((mi ρ s).bind fun p s => (if p.1.length ≤ big then lcL p.2 js mt me (wipeR ρ vs) p.1 s else .bad).bind k) (fun C dd H' => W C dd σ H') Q := by
    unfold mLcL at h
    cases e : mi ρ s with
    | ok p s2 => rw [e] at h; exact h
    | er x s2 => rw [e] at h; exact h
    | bad => rw [e] at h; exact h
  refine wp.imp (wp_bind (rel := relI K mg) h1) fun J H1 ⟨α1, s1, p, g1, st, jo, q⟩ => ?_
  obtain ⟨ds, gd⟩ := p
  have S1 := S.gr g1 st
  dsimp only at q
  split at q
  · rename_i hlen
    exact lc_run hj jo S1 hlen q fun p α' H' s' es acc hp g st' ha rl w => fin α1 H1 p α' H' s' es acc _ hp (S1.st.notin hp) g st' ha rl w
  · exact q.elim
theorem rd_lc (hj : ∀ j ∈ js, j ∈ vs) (h : rdE K mg W (mLc vs js mi mt me) σ H Q) : tLc (rdI K mg W mi) (tgN K js) (rdT K mg W0 mt) (rdE K mg W0 me) vs σ H Q :=
  rd_lc0 hj h fun α1 H1 p α' H' s' es acc E hp hn g st ha rl w => w α' H' _ g st.unhide (by
    unfold RD
    refine ⟨p, acc, rfl, .inl ⟨fun m => ?_, .inl ha⟩, rl.unhide⟩
    rcases m with m | m
    · exact st.dj p m List.mem_cons_self
    · exact hn (.inr (by rw [← g.hh]; exact m)))
theorem rd_lcC (hj : ∀ j ∈ js, j ∈ vs) (h : rdE K mg W (mLcC vs js mi mt me) σ H Q) : tLc (rdI K mg W mi) (tgN K js) (rdT K mg W0 mt) (rdE K mg W0 me) vs σ H Q :=
  rd_lc0 hj h fun α1 H1 p α' H' s' es acc E hp hn g st ha rl w => by
    have st0 := st.unhide
    have nin : p ∉ α' := fun m => by
      rcases m with m | m
      · exact st.dj p m List.mem_cons_self
      · exact hn (.inr (by rw [← g.hh]; exact m))
    have gp : Gw (α'.hide p) H' (α'.push p) H' := ⟨fun {n a} h => by
      have h' : α'.c[n]? = some a := h
      have hl := (List.getElem?_eq_some_iff.mp h').1
      show (α'.c ++ [p])[n]? = some a
      rw [List.getElem?_append_left hl]
      exact h', fun b o h _ => h, fun {b o} h n m => (Al.mem_app.mp m).elim (fun z => n (Al.mem_hide.mpr (.inr z))) fun z => n (Al.mem_hide.mpr (.inl (List.mem_singleton.mp z)))⟩
    refine w (α'.push p) H' _ ⟨?_, fun b m => ?_, g.keep, g.hid⟩ ⟨by simp [Al.app, st0.len], ?_, fun a m => ?_, fun a m => ?_, fun n c a e1 e2 => ?_⟩ ?_
    · obtain ⟨γ, e⟩ := g.pre
      exact ⟨γ ++ [p], by rw [e]; simp [Al.app]⟩
    · rcases Al.mem_app.mp m with m | m
      · exact g.new b m
      · rw [List.mem_singleton.mp m]; exact .inr hp
    · show (α'.c ++ [p]).Nodup
      rw [List.nodup_append]
      refine ⟨st0.nd, by simp, fun a ha b hb e => ?_⟩
      rw [List.mem_singleton.mp hb] at e
      exact nin (e ▸ .inl ha)
    · rcases List.mem_append.mp (show a ∈ α'.c ++ [p] from m) with m | m
      · exact st0.dj a m
      · rw [List.mem_singleton.mp m]; exact fun z => nin (.inr z)
    · rcases Al.mem_app.mp m with m | m
      · exact st0.tr a m
      · rw [List.mem_singleton.mp m]; exact ⟨_, ha⟩
    · have e2' : (α'.c ++ [p])[n]? = some a := e2
      by_cases hn : n < s'.length
      · rw [List.getElem?_append_left hn] at e1
        rw [List.getElem?_append_left (by rw [st0.len]; exact hn)] at e2'
        exact (st.cell n c a e1 e2').gr gp fun u e => e
      · have hn2 : n = s'.length := by
          have := (List.getElem?_eq_some_iff.mp e1).1
          simp at this
          omega
        subst hn2
        rw [List.getElem?_append_right (Nat.le_refl _)] at e1
        rw [List.getElem?_append_right (by rw [st0.len]; exact Nat.le_refl _)] at e2'
        simp [st0.len] at e1 e2'
        subst e1 e2'
        exact ⟨acc, ha, RL.gr gp es acc rl⟩
    · unfold RD
      exact ⟨p, rfl, by show (α'.c ++ [p])[s'.length]? = some p; rw [← st0.len, List.getElem?_append_right (Nat.le_refl _)]; simp⟩
end

/-! the rules -/
section
variable {X : Cx} {W : WX} {elt tg iter : Expr} {ifs : List Expr} {scope : Scope} {own : List (Str × Nat)} {pos : Pos} {mi : MI} {mt : MT} {me : ME} {js : List Nat}
/-- the tests of a comprehension -/
abbrev ITs (X : Cx) (W : WX) (ifs : List Expr) (m : MT) : Prop := PTs X ifs (rdT X.K X.mg W m)
theorem PTs_imp {X : Cx} {ifs : List Expr} {t t' : TT} (h : PTs X ifs t) (i : ∀ σ H Q, t' σ H Q → t σ H Q) : PTs X ifs t' := ⟨fun pins s σ H Q I q => h.run pins s σ H Q I (i σ H Q q)⟩
theorem ts_nil : ITs X W [] mYes := PTs_imp pts_nil fun σ H Q ⟨α, ρ, s, S, h⟩ => h α H true (Gr.refl _ _) S.st rfl
theorem ts_one {c : Expr} (h : IT X W c mt) : ITs X W [c] mt := pts_one h
abbrev blkX (X : Cx) (s : Shared) (H : Hp) (scope : Scope) (C : Addr) (cl : List (Str × Addr)) (fp : List Addr) : Cx := X.blk s H scope (compEnvC scope cl C X.env) fp
/-- in a comprehension's block -/
abbrev Blk (X : Cx) (scope : Scope) (P : Cx → Prop) : Prop := ∀ (s : Shared) (H : Hp) (C : Addr) (cl : List (Str × Addr)) (fp : List Addr), P (blkX X s H scope C cl fp)
theorem e_lc (js : List Nat) (own : List (Str × Nat)) (hc : X.calm = true) (hN : X.N.Nodup) (hi : II X W tg iter mi) (ok : BlkOk X.N X.env.scope scope own) (hg : Blk X scope fun Y => PG Y tg (tgN Y.K js)) (ht : Blk X scope fun Y => ITs Y W0 ifs mt) (he : Blk X scope fun Y => IE Y W0 elt me)
    (hj : ∀ j ∈ js, j ∈ own.map (·.2) := by decide) (hs : ∀ x, foldedSetIterable iter X.env x = pure x := by intro _; rfl) : IE X W (.ListComp elt [⟨tg, iter, ifs, 0⟩] scope pos) (mLc (own.map (·.2)) js mi mt me) :=
  PE_imp (pe_lc (g := tgN X.K js) (tt := rdT X.K X.mg W0 mt) (te := rdE X.K X.mg W0 me) hc hN hi ok hg ht he hs) fun _ _ _ h => rd_lc hj h
theorem e_lcC (js : List Nat) (own : List (Str × Nat)) (hc : X.calm = true) (hN : X.N.Nodup) (hi : II X W tg iter mi) (ok : BlkOk X.N X.env.scope scope own) (hg : Blk X scope fun Y => PG Y tg (tgN Y.K js)) (ht : Blk X scope fun Y => ITs Y W0 ifs mt) (he : Blk X scope fun Y => IE Y W0 elt me)
    (hj : ∀ j ∈ js, j ∈ own.map (·.2) := by decide) (hs : ∀ x, foldedSetIterable iter X.env x = pure x := by intro _; rfl) : IE X W (.ListComp elt [⟨tg, iter, ifs, 0⟩] scope pos) (mLcC (own.map (·.2)) js mi mt me) :=
  PE_imp (pe_lc (g := tgN X.K js) (tt := rdT X.K X.mg W0 mt) (te := rdE X.K X.mg W0 me) hc hN hi ok hg ht he hs) fun _ _ _ h => rd_lcC hj h
/-- name = [..] on one line -/
theorem s_lc (i : Nat) (js : List Nat) (own : List (Str × Nat)) {y : Str} {py spos : Pos} (hc : X.calm = true) (hN : X.N.Nodup) (hi : II X W tg iter mi) (ok : BlkOk X.N X.env.scope scope own) (hg : Blk X scope fun Y => PG Y tg (tgN Y.K js)) (ht : Blk X scope fun Y => ITs Y W0 ifs mt) (he : Blk X scope fun Y => IE Y W0 elt me)
    (hsw : swapsWith (.ListComp elt [⟨tg, iter, ifs, 0⟩] scope pos) (some (.Name y py)) spos.line X.env = pure true := by exact sw_true rfl rfl rfl (by decide +kernel))
    (hy : X.N[i]? = some y := by rfl) (hyl : X.env.scope.names.lookup y = some .local := by rfl) (hj : ∀ j ∈ js, j ∈ own.map (·.2) := by decide) (hs : ∀ x, foldedSetIterable iter X.env x = pure x := by intro _; rfl) :
    IS X W (.Assign [.Name y py] (.ListComp elt [⟨tg, iter, ifs, 0⟩] scope pos) spos) (mSet i (mLc (own.map (·.2)) js mi mt me)) := PS_imp (ps_setLc (g := tgN X.K js) (tt := rdT X.K X.mg W0 mt) (te := rdE X.K X.mg W0 me) hc hN hy hyl hsw hi ok hg ht he hs) fun D σ H h => by
  obtain ⟨α, ρ, s, S, h⟩ := h
  refine rd_lc hj ⟨α, ρ, s, S, ?_⟩
  exact rd_out (β := Unit) (rel := RD X.K X.mg) S h fun α1 H1 s1 d v S1 r g q => q α1 H1 _ (Gr.refl _ _) (S1.set i r)
theorem s_lcC (i : Nat) (js : List Nat) (own : List (Str × Nat)) {y : Str} {py spos : Pos} (hc : X.calm = true) (hN : X.N.Nodup) (hi : II X W tg iter mi) (ok : BlkOk X.N X.env.scope scope own) (hg : Blk X scope fun Y => PG Y tg (tgN Y.K js)) (ht : Blk X scope fun Y => ITs Y W0 ifs mt) (he : Blk X scope fun Y => IE Y W0 elt me)
    (hsw : swapsWith (.ListComp elt [⟨tg, iter, ifs, 0⟩] scope pos) (some (.Name y py)) spos.line X.env = pure true := by exact sw_true rfl rfl rfl (by decide +kernel))
    (hy : X.N[i]? = some y := by rfl) (hyl : X.env.scope.names.lookup y = some .local := by rfl) (hj : ∀ j ∈ js, j ∈ own.map (·.2) := by decide) (hs : ∀ x, foldedSetIterable iter X.env x = pure x := by intro _; rfl) :
    IS X W (.Assign [.Name y py] (.ListComp elt [⟨tg, iter, ifs, 0⟩] scope pos) spos) (mSet i (mLcC (own.map (·.2)) js mi mt me)) := PS_imp (ps_setLc (g := tgN X.K js) (tt := rdT X.K X.mg W0 mt) (te := rdE X.K X.mg W0 me) hc hN hy hyl hsw hi ok hg ht he hs) fun D σ H h => by
  obtain ⟨α, ρ, s, S, h⟩ := h
  refine rd_lcC hj ⟨α, ρ, s, S, ?_⟩
  exact rd_out (β := Unit) (rel := RD X.K X.mg) S h fun α1 H1 s1 d v S1 r g q => q α1 H1 _ (Gr.refl _ _) (S1.set i r)
end
/-! targets of comprehensions -/
section
variable {Y : Cx} {pos : Pos}
theorem tg_nm (i : Nat) {x : Str} (hN : Y.N.Nodup) (hi : Y.N[i]? = some x := by rfl) (hx : Loc Y.env.scope x := by first | exact Or.inl rfl | exact Or.inr rfl) (hf : Y.fn x = true ∨ Y.env.scope.names.lookup x = some .local := by first | exact .inl rfl | exact .inr rfl | assumption) : PG Y (.Name x pos) (tgN Y.K [i]) := pg_name hN hi hx hf
theorem tg_tup {es : List Expr} {k : Nat} (js : List Nat) (hc : Y.calm = true) (hl : 2 ≤ js.length) (h : PGs Y es (gsN js)) (hn : (assignEach es Y.env).length = js.length := by rfl) (hst : (assignEach es Y.env).findIdx? (·.1) = none := by rfl) : PG Y (.Tuple es k pos) (tgN Y.K js) := by
  have e : tgN Y.K js = gTup Y.K js.length (gsN js) := by
    unfold tgN
    split
    · simp at hl
    · rfl
  rw [e]
  exact pg_tup hc h hn hst
theorem gn_nil : PGs Y [] (gsN []) := pgs_nil
theorem gn_cons (i : Nat) {x : Str} {es : List Expr} {js : List Nat} (h : PGs Y es (gsN js)) (hN : Y.N.Nodup) (hi : Y.N[i]? = some x := by rfl) (hx : Loc Y.env.scope x := by first | exact Or.inl rfl | exact Or.inr rfl) (hf : Y.fn x = true ∨ Y.env.scope.names.lookup x = some .local := by first | exact .inl rfl | exact .inr rfl | assumption)
    (hs : (assignEach (.Name x pos :: es) Y.env).map (·.2) = assign (.Name x pos) Y.env :: (assignEach es Y.env).map (·.2) := by rfl) : PGs Y (.Name x pos :: es) (gsN (i :: js)) := pgs_cons (pg_name hN hi hx hf) h hs
end
end LY
/-! LayH: own classes: made, their methods, their operators. -/
namespace LY
open PySem PySem.Spec PyProof.Rows L2
/-- a method that is known; dD: what stands in for the last parameters -/
def Fm (P : Program) (w : World) (K : PySem.W.Frag) (mg : Str → Option Value) (base : Heap) (c : CN) (x : Str) (dD : List D) (ps : List Str) (k : Nat) (m : MF) : Prop :=
  ∃ f fd dvs ds, (∀ C, mg c.str = some (.ref C) → Meth K C x f) ∧ Vals dvs ds ∧ (∀ H α, RL K mg H α dD dvs) ∧ Binds K fd ps ds ∧ FnOk P w K mg base (L2.CX P w) k f fd ps (spM K mg ps.length m)
theorem fm_ref {P : Program} {w : World} {K : PySem.W.Frag} {mg : Str → Option Value} {base : Heap} {c : CN} {x : Str} {dD : List D} {ps : List Str} {k : Nat} {m m' : MF} (F : Fm P w K mg base c x dD ps k m) (h : ∀ ds s, ds.length = ps.length → stLo s s.length → loL s.length ds = true → Ref s.length (m ds s) (m' ds s)) : Fm P w K mg base c x dD ps k m' := by
  obtain ⟨f, fd, dvs, ds, hm, hv, hl, hb, F⟩ := F
  refine ⟨f, fd, dvs, ds, hm, hv, hl, hb, F.imp fun vs H Q E ⟨hl, α, s, ds, st, rl, q⟩ => ⟨hl, α, s, ds, st, rl, wp_ref st (h ds s (by rw [rl.length]; exact hl) st.isLo (by rw [← st.len]; exact rl.isLo ds vs)) q⟩⟩
section
variable {X : Cx} {pins : List (Addr × Obj)} {σ : L2.St} {H : Hp} {s : Shared}
/-- the callee runs, around it A' -/
theorem run_fnA {A' : Around} {k : Nat} {f : Addr} {fd : FuncData} {ps : List Str} {sp : Sp} {Q : VK} {E : XK} {us ds : List Value} {vs dvs : List V} (F : FnOk X.prog X.w X.K X.mg X.base (L2.CX X.prog X.w) k f fd ps sp) (hr : Room k A') (e0 : Env0 X.prog X.w X.K X.mg X.base A' X.stack s H)
    (hb : Binds X.K fd ps ds) (hd : Vals dvs ds) (hx : PassesAt (L2.CX X.prog X.w) X σ E) (I : Inv X pins σ H s) (r : Vals vs us) (h : sp (vs ++ dvs) H Q E) : wpAny (model X.prog X.w) A' (call (.ref f) us) (EP X pins σ Q) X.xe s := by
  have rr : Vals (vs ++ dvs) (us ++ ds) := r.append hd
  have hlen : (us ++ ds).length = ps.length := rr.length.symm.trans (F.len _ _ _ _ h)
  have go := F.run A' X.stack s H ⟨us, []⟩ (us ++ ds) (vs ++ dvs) Q E hr e0 (hb s us I.kIn hlen) rr h
  refine wpAny_call (codeAny_mono go fun r s' z => ?_)
  match r, z with
  | .error e, z => exact hx pins H s e s' I z
  | .ok (.ret u), z => exact I.after z
theorem obj_inst {a C dx : Addr} {fs : List (Str × V)} (I : Inv X pins σ H s) (e : H a = some (.ins C dx fs)) : ∃ ox od, PySem.W.InstAt s.heap a ox C od := by
  obtain ⟨mA, O, _⟩ := ins_get I.hok e
  obtain ⟨od, J, _⟩ := O.look
  exact ⟨_, _, J⟩
end
/-- the object of a class -/
def D.isOf (s : Store) (c : CN) (x : D) : Bool := match x.obj s with
  | some (c', _) => decide (c' = c)
  | none => false
theorem isOf_ob {s : Store} {c : CN} {x : D} (h : x.isOf s c = true) : ∃ fs, x.obj s = some (c, fs) := by
  unfold D.isOf at h
  split at h
  · rename_i c' fs e
    rw [of_decide_eq_true h] at e
    exact ⟨fs, e⟩
  · cases h
/-- x op y, by x's own method -/
def oOwn (c : CN) (m : MF) (x y : D) (s : Store) : R D := if x.isOf s c then m [x, y] s else .bad
def mOwn (c : CN) (m : MF) (a b : ME) : ME := fun ρ s => (a ρ s).bind fun x s => (b ρ s).bind fun y s => oOwn c m x y s
def oOwn1 (c : CN) (m : MF) (x : D) (s : Store) : R D := if x.isOf s c then m [x] s else .bad
/-- what a class's operator method must have -/
structure OwnOp (K : PySem.W.Frag) (mg : Str → Option Value) (c : CN) : Prop where
  sf : ∀ C, mg c.str = some (.ref C) → PySem.W.selfFirst K C = true
  ns : ∀ C, mg c.str = some (.ref C) → PySem.W.noSeq K C = true
section
variable {X : Cx} {W : WX} {e a b o : Expr} {es : List Expr} {m ma mb mo : ME} {mr : MA} {pos apos p : Pos} {c : CN} {k : Nat} {mf : MF} {x : Str} {ps : List Str} {dD : List D}
/-- the call of a method at an object that is read -/
theorem meth_run {σ : L2.St} {H : Hp} {Q : VK} {α : Al} {s0 : Store} {ds : List D} {vs : List V} {us : List Value} {pins : List (Addr × Obj)} {s : Shared} {A' : Around} {f : Addr} {fd : FuncData} {dvs : List V} {dvl : List Value} (F : FnOk X.prog X.w X.K X.mg X.base (L2.CX X.prog X.w) k f fd ps (spM X.K X.mg ps.length mf)) (hr : Room k A')
    (e0 : Env0 X.prog X.w X.K X.mg X.base A' X.stack s H) (hb : Binds X.K fd ps dvl) (hd : Vals dvs dvl) (hdD : ∀ H α, RL X.K X.mg H α dD dvs) (hx : Px X W) (I : Inv X pins σ H s) (st : RSt X.K X.mg H α s0) (rl : RL X.K X.mg H α ds vs) (r : Vals vs us) (hn : ds.length + dD.length = ps.length)
    (h : wp X.K X.mg (RD X.K X.mg) α H (mf (ds ++ dD) s0) (fun C dd H' => W C dd σ H') Q) : wpAny (model X.prog X.w) A' (call (.ref f) us) (EP X pins σ Q) X.xe s :=
  run_fnA F hr e0 hb hd (hx σ) I r ⟨by rw [List.length_append, ← rl.length, ← (hdD H α).length]; exact hn, α, s0, ds ++ dD, st, rl.append (hdD H α), h⟩
def mMeth (c : CN) (n : Nat) (dD : List D) (m : MF) (mo : ME) (mr : MA) : ME := fun ρ s => (mo ρ s).bind fun x s => if x.isOf s c then (mr ρ s).bind fun ds s => if (x :: ds).length + dD.length = n then m ((x :: ds) ++ dD) s else .bad else .bad
theorem zip_none {m : Str} : ∀ {fl : List Str} {xs : List V}, m ∉ fl → (fl.zip xs).lookup m = none
  | [], _, _ => by simp
  | _ :: _, [], _ => by simp
  | f :: fl, x :: xs, h => by
    have hne : (m == f) = false := by
      rw [beq_eq_false_iff_ne]
      exact fun z => h (z ▸ List.mem_cons_self)
    rw [List.zip_cons_cons, List.lookup_cons, hne]
    exact zip_none fun z => h (List.mem_cons_of_mem _ z)
/-- a method's call, its receiver read -/
theorem meth_to {pl : Sem Bool} {f : Addr} (hM : ∀ C, X.mg c.str = some (.ref C) → Meth X.K C x f) (ok : ClsOk X.K X.mg c) (ho : IE X W o mo) (hm : x ∉ c.flds) {n : Nat} {mm : D → Envt → Store → R D} {pins : List (Addr × Obj)} {σ : L2.St} {H : Hp} {Q : VK} {s : Shared} (I : Inv X pins σ H s)
    (h : rdE X.K X.mg W (fun ρ s => (mo ρ s).bind fun x s => if x.isOf s c then mm x ρ s else .bad) σ H Q)
    (ht : eval (.Call (.Attribute o x apos) es [] pos) X.env = (do
      let ov ← eval o X.env
      standAt apos.atName
      let (f, first) ← holding [ov] (getMethod ov x pl)
      callWith pos f first (backTo pos (starEach es X.env)) (backToKw pos (keywordEach [] X.env))))
    (go : ∀ α1 H1 ρ s1 d a C sh, Sim X.K X.mg α1 H1 ρ s1 σ → RD X.K X.mg H1 α1 d (.ref a) → PySem.W.keepIn X.K (.ref f) = true → Inv X pins σ H1 sh → wp X.K X.mg (RD X.K X.mg) α1 H1 (mm d ρ s1) (fun C dd H' => W C dd σ H') Q → X.mg c.str = some (.ref C) →
      (∃ α0 s0, Gr α0 H α1 H1 ∧ Sim X.K X.mg α0 H ρ s0 σ ∧ mo ρ s0 = .ok d s1) → wpAny (model X.prog X.w) X.A (callWith pos (.ref f) [.ref a] (backTo pos (starEach es X.env)) (backToKw pos (keywordEach [] X.env))) (EP X pins σ Q) X.xe sh) :
    wpAny (model X.prog X.w) X.A (eval (.Call (.Attribute o x apos) es [] pos) X.env) (EP X pins σ Q) X.xe s := by
  obtain ⟨α, ρ, s0, S, h⟩ := h
  dsimp only at h
  refine methcall_of ho I ⟨α, ρ, s0, S, ?_⟩ ht
  cases e0 : mo ρ s0 with
  | er y s1 => rw [e0] at h; exact h
  | bad => rw [e0] at h; exact h
  | ok v s1 =>
    rw [e0] at h
    intro α1 H1 vv g1 st rv
    have h1 : wp X.K X.mg (RD X.K X.mg) α H (if v.isOf s1 c then mm v ρ s1 else .bad) (fun C dd H' => W C dd σ H') Q := h
    split at h1
    · rename_i hi
      obtain ⟨fs, hob⟩ := isOf_ob hi
      obtain ⟨a, C, dx, xs, rfl, mC, hH, rl0, _⟩ := rv.ob st hob
      exact ⟨a, C, dx, _, f, rfl, hH, ok.cls C mC, hM C mC, zip_none hm, fun sh I1 => go α1 H1 ρ s1 v a C sh (S.gr g1 st) rv (hM C mC).kp I1 (wp.gr g1 h1) mC ⟨α, s0, g1, S, e0⟩⟩
    · exact h1.elim
theorem e_meth0 {nn : Nat} {pl : Sem Bool} (F : Fm X.prog X.w X.K X.mg X.base c x dD ps k mf) (ok : ClsOk X.K X.mg c) (hr : Room k X.A) (hx : Px X W) (ho : IE X W o mo) (hm : x ∉ c.flds := by decide +kernel)
    (ht : eval (.Call (.Attribute o x apos) [] [] pos) X.env = (do
      let ov ← eval o X.env
      standAt apos.atName
      let (f, first) ← holding [ov] (getMethod ov x pl)
      callWith pos f first (backTo pos (starEach [] X.env)) (backToKw pos (keywordEach [] X.env))) := by rfl) (hnn : ps.length = nn := by rfl) : IE X W (.Call (.Attribute o x apos) [] [] pos) (mMeth c nn dD mf mo aNil) := by
  subst hnn
  obtain ⟨f, fd, dvs, dvl, hM, hd, hdD, hb, F⟩ := F
  refine ⟨fun pins s σ H Q I h => meth_to (n := 0) (mm := fun x ρ s => (aNil ρ s).bind fun ds s => if (x :: ds).length + dD.length = ps.length then mf ((x :: ds) ++ dD) s else .bad) hM ok ho hm I h ht fun α1 H1 ρ s1 d a C sh S1 rd kp I1 h1 mC _ => ?_⟩
  refine PySem.W.callWith_K0 (first := [.ref a]) I1.kIn kp ?_
  have h2 : wp X.K X.mg (RD X.K X.mg) α1 H1 (if ([d] : List D).length + dD.length = ps.length then mf ([d] ++ dD) s1 else .bad) (fun C dd H' => W C dd σ H') Q := h1
  split at h2
  · rename_i hn
    exact meth_run (vs := [.ref a]) (us := [.ref a]) F hr I1.env0 hb hd hdD hx I1 S1.st (RL.one rd) (.cons rfl .nil) hn h2
  · exact h2.elim
theorem e_meth {nn : Nat} {pl : Sem Bool} (F : Fm X.prog X.w X.K X.mg X.base c x dD ps k mf) (ok : ClsOk X.K X.mg c) (hr : Room k X.A) (hx : Px X W) (ho : IE X W o mo) (ha : IA X W (e :: es) mr) (hm : x ∉ c.flds := by decide +kernel) (he : starEach (e :: es) X.env = (false, eval e X.env) :: starEach es X.env := by rfl)
    (hpl : (backTo pos (starEach es X.env)).any (·.1) = false := by rfl)
    (ht : eval (.Call (.Attribute o x apos) (e :: es) [] pos) X.env = (do
      let ov ← eval o X.env
      standAt apos.atName
      let (f, first) ← holding [ov] (getMethod ov x pl)
      callWith pos f first (backTo pos (starEach (e :: es) X.env)) (backToKw pos (keywordEach [] X.env))) := by rfl) (hnn : ps.length = nn := by rfl) : IE X W (.Call (.Attribute o x apos) (e :: es) [] pos) (mMeth c nn dD mf mo mr) := by
  subst hnn
  obtain ⟨f, fd, dvs, dvl, hM, hd, hdD, hb, F⟩ := F
  refine ⟨fun pins s σ H Q I h => meth_to (n := 0) (mm := fun x ρ s => (mr ρ s).bind fun ds s => if (x :: ds).length + dD.length = ps.length then mf ((x :: ds) ++ dD) s else .bad) hM ok ho hm I h ht fun α1 H1 ρ s1 d a C sh S1 rd kp I1 h1 mC _ => ?_⟩
  refine PySem.W.callWith_K (first := [.ref a]) (h₀ := X.base) I1.ok.mod.kin kp ?_ he hpl
  have av := ha.run pos pins sh σ H1 _ I1 ⟨α1, ρ, s1, S1, rd_thenA (T := fun vs H2 => ∃ α2 s2 ds, Sim X.K X.mg α2 H2 ρ s2 σ ∧ RL X.K X.mg H2 α2 ds vs ∧ Gr α1 H1 α2 H2 ∧ wp X.K X.mg (RD X.K X.mg) α2 H2 (if (d :: ds).length + dD.length = ps.length then mf ((d :: ds) ++ dD) s2 else .bad) (fun C dd H' => W C dd σ H') Q) S1 h1 fun α2 H2 s2 ds vs S2 rl g2 h2 => ⟨α2, s2, ds, S2, rl, g2, h2⟩⟩
  refine thn av fun us s2 ⟨vs, H2, I2, r2, α2, st2, ds, S2, rl, g2, h2⟩ => ⟨I2.kIn, ?_⟩
  split at h2
  · rename_i hn
    exact meth_run (vs := .ref a :: vs) (us := .ref a :: us) F hr I2.env0 hb hd hdD hx I2 S2.st (RL.cons (RD.gr g2.toGw _ _ rd) rl) (.cons rfl r2) hn h2
  · exact h2.elim
/-- C(..): a cell with no attribute yet, then __init__ -/
def fMake (c : CN) (n : Nat) (dD : List D) (init : MF) : MF := fun ds s => if (D.ref s.length :: ds).length + dD.length = n then (init ((.ref s.length :: ds) ++ dD) (s ++ [.ins c []])).bind fun v s' => match v with
  | .non => .ok (.ref s.length) s'
  | _ => .bad
  else .bad
structure MkOk (K : PySem.W.Frag) (mg : Str → Option Value) (c : CN) : Prop where
  ok : ∀ C, mg c.str = some (.ref C) → PySem.W.makesIn K C = true ∧ PySem.W.keepIn K (.ref C) = true
theorem make_run {σ : L2.St} {H : Hp} {Q : VK} {α : Al} {s0 : Store} {ds : List D} {vs : List V} {us : List Value} {pins : List (Addr × Obj)} {s : Shared} {C : Addr} (F : Fm X.prog X.w X.K X.mg X.base c "__init__" dD ps k mf) (mC : X.mg c.str = some (.ref C)) (mk : MkOk X.K X.mg c) (hr : Room (k + 1) X.A) (hx : Px X W)
    (I : Inv X pins σ H s) (st : RSt X.K X.mg H α s0) (rl : RL X.K X.mg H α ds vs) (r : Vals vs us) (h : wp X.K X.mg (RD X.K X.mg) α H (fMake c ps.length dD mf ds s0) (fun C dd H' => W C dd σ H') Q) : wpAny (model X.prog X.w) X.A (call (.ref C) us) (EP X pins σ Q) X.xe s := by
  obtain ⟨f, fd, dvs, dvl, hM, hd, hdD, hb, F⟩ := F
  unfold fMake at h
  split at h
  · rename_i hn
    have I2 := Inv.made (C := C) I
    have n1 : H s.heap.objs.size = none := I.hok.fresh (Nat.le_refl _)
    have n2 : H (s.heap.objs.size + 1) = none := I.hok.fresh (Nat.le_succ _)
    have ne : s.heap.objs.size ≠ s.heap.objs.size + 1 := Nat.ne_of_lt (Nat.lt_succ_self _)
    have n3 : (upd H s.heap.objs.size (.own (s.heap.objs.size + 1))) (s.heap.objs.size + 1) = none := by rw [upd_ne (Ne.symm ne)]; exact n2
    have ga := Gr.laid (o := .own (s.heap.objs.size + 1)) st n1
    have sa := st.laid (o := .own (s.heap.objs.size + 1)) n1
    have gb := Gr.push (o := .ins C s.heap.objs.size []) sa n3
    have sb : RSt X.K X.mg (upd (upd H s.heap.objs.size (.own (s.heap.objs.size + 1))) (s.heap.objs.size + 1) (.ins C s.heap.objs.size [])) (α.push (s.heap.objs.size + 1)) (s0 ++ [.ins c []]) := sa.push n3 ⟨C, s.heap.objs.size, [], mC, Nat.zero_le _, by rw [List.zip_nil_right]; exact upd_same, RL.nil⟩
    have gg := ga.trans gb
    have rself : RD X.K X.mg (upd (upd H s.heap.objs.size (.own (s.heap.objs.size + 1))) (s.heap.objs.size + 1) (.ins C s.heap.objs.size [])) (α.push (s.heap.objs.size + 1)) (.ref s0.length) (.ref (s.heap.objs.size + 1)) := by
      unfold RD
      exact ⟨_, rfl, by show (α.c ++ [s.heap.objs.size + 1])[s0.length]? = _; rw [← st.len, List.getElem?_append_right (Nat.le_refl _)]; simp⟩
    have hlen : (D.ref s0.length :: ds).length + dD.length = ps.length := hn
    have hq := wp_bind (rel := RD X.K X.mg) (wp.gr gg h)
    have r2 : Vals (V.ref (s.heap.objs.size + 1) :: vs) (Value.ref (s.heap.objs.size + 1) :: us) := .cons rfl r
    have r3 := r2.append hd
    have rl2 : RL X.K X.mg (upd (upd H s.heap.objs.size (.own (s.heap.objs.size + 1))) (s.heap.objs.size + 1) (.ins C s.heap.objs.size [])) (α.push (s.heap.objs.size + 1)) ((D.ref s0.length :: ds) ++ dD) ((V.ref (s.heap.objs.size + 1) :: vs) ++ dvs) := (RL.cons rself (rl.gr gg.toGw)).append (hdD _ _)
    have hvl : ((V.ref (s.heap.objs.size + 1) :: vs) ++ dvs).length = ps.length := by
      rw [← rl2.length, List.length_append]
      exact hn
    have sp : spM X.K X.mg ps.length mf ((V.ref (s.heap.objs.size + 1) :: vs) ++ dvs) (upd (upd H s.heap.objs.size (.own (s.heap.objs.size + 1))) (s.heap.objs.size + 1) (.ins C s.heap.objs.size []))
        (fun v H1 => ∃ α1 s1 d, Gr (α.push (s.heap.objs.size + 1)) (upd (upd H s.heap.objs.size (.own (s.heap.objs.size + 1))) (s.heap.objs.size + 1) (.ins C s.heap.objs.size [])) α1 H1 ∧ RSt X.K X.mg H1 α1 s1 ∧ RD X.K X.mg H1 α1 d v ∧ wp X.K X.mg (RD X.K X.mg) α1 H1 (match d with
          | .non => .ok (.ref s0.length) s1
          | _ => .bad) (fun C dd H' => W C dd σ H') Q) (fun C dd H' => W C dd σ H') := ⟨hvl, _, _, _, sb, rl2, hq⟩
    have go := F.run _ X.stack _ _ ⟨Value.ref (s.heap.objs.size + 1) :: us, []⟩ ((Value.ref (s.heap.objs.size + 1) :: us) ++ dvl) _ _ _ (hr.make C us []) (I2.env0.make C us []) (hb _ (Value.ref (s.heap.objs.size + 1) :: us) I2.kIn (by rw [← r3.length]; exact hvl)) r3 sp
    refine wpAny_call (make_map (f := f) I.kIn (mk.ok C mC).1 (hM C mC).at_ (beq_iff_eq.mp (hM C mC).fn) (codeAny_mono go fun rr s' z => ?_))
    match rr, z with
    | .error e, z => exact hx σ pins _ _ e s' I2 z
    | .ok (.ret u), z =>
      obtain ⟨v, H', I3, rv, α1, s1, d, g1, st1, rd, q⟩ := I2.after z
      cases d with
      | non =>
        have ev := rd.non_inv
        subst ev
        refine ⟨rv, ⟨V.ref (s.heap.objs.size + 1), H', I3, rfl, ?_⟩⟩
        exact q α1 H' _ (Gr.refl _ _) st1 (RD.gr g1.toGw _ _ rself)
      | _ => exact q.elim
  · exact h.elim
/-- C(..), as it looks from outside -/
theorem e_make {m' : MF} {p : Pos} {cls : Str} (F : Fm X.prog X.w X.K X.mg X.base c "__init__" dD ps k mf) (href : ∀ ds s, stLo s s.length → loL s.length ds = true → Ref s.length (fMake c ps.length dD mf ds s) (m' ds s)) (mk : MkOk X.K X.mg c) (hC : ∃ C, X.mg c.str = some (.ref C)) (hr : Room (k + 1) X.A) (hx : Px X W)
    (ha : IA X W (e :: es) mr) (hcl : c.str = cls := by rfl) (hg : Gl X cls := by rfl) (hdb : (cls == ("__debug__" : Str)) = false := by decide) (he : starEach (e :: es) X.env = (false, eval e X.env) :: starEach es X.env := by rfl)
    (hpl : (backTo pos (starEach es X.env)).any (·.1) = false := by rfl) : IE X W (.Call (.Name cls p) (e :: es) [] pos) (mArgs m' mr) := by
  obtain ⟨C, mC⟩ := hC
  refine ⟨fun pins s σ H Q I ⟨α, ρ, s0, S, h⟩ => ?_⟩
  refine wpAny_Call_Name_kw (ld_glob I hg (by rw [← hcl]; exact mC) ?_ hdb)
  refine PySem.W.callWith_K (h₀ := X.base) I.ok.mod.kin (mk.ok C mC).2 ?_ he hpl
  have av := ha.run pos pins s σ H _ I ⟨α, ρ, s0, S, rd_thenA (T := fun vs H2 => ∃ α2 s2 ds, Sim X.K X.mg α2 H2 ρ s2 σ ∧ RL X.K X.mg H2 α2 ds vs ∧ wp X.K X.mg (RD X.K X.mg) α2 H2 (m' ds s2) (fun C dd H' => W C dd σ H') Q) S h fun α2 H2 s2 ds vs S2 rl g2 h2 => ⟨α2, s2, ds, S2, rl, h2⟩⟩
  refine thn av fun us s2 ⟨vs, H2, I2, r2, α2, st2, ds, S2, rl, h2⟩ => ⟨I2.kIn, ?_⟩
  exact make_run F mC mk hr hx I2 S2.st rl r2 (wp_ref S2.st (href ds st2 S2.st.isLo (by rw [← S2.st.len]; exact rl.isLo ds vs)) h2)
end
/-! ### operators of an own class -/
/-- the built-in type of a value -/
def D.bty (s : Store) : D → Option String
  | .non => some "NoneType"
  | .bl _ => some "bool"
  | .int _ => some "int"
  | .str _ => some "str"
  | .tup _ => some "tuple"
  | .fl _ => some "list"
  | .ref n => (lstAt s n).map fun _ => "list"
  | _ => none
theorem RD.tyX {K : PySem.W.Frag} {mg : Str → Option Value} {H : Hp} {α : Al} {s : Store} {d : D} {v : V} {T : String} (S : RSt K mg H α s) (r : RD K mg H α d v) (e : d.bty s = some T) : TyX K H v (.type T) := by
  cases d with
  | non => cases e; rw [r.non_inv]; exact .base .non
  | bl b => cases e; rw [r.bl_inv]; exact .base (.bl b)
  | int b => cases e; rw [r.int_inv]; exact .base (.int b)
  | str b => cases e; rw [r.str_inv]; exact .base (.str b)
  | tup ds =>
    cases e
    unfold RD at r
    obtain ⟨a, xs, rfl, t, _⟩ := r
    rcases t with ⟨_, t | ⟨o, t⟩⟩ | (t | ⟨_, t⟩) | ⟨o, its, n, hk, hc, _⟩
    · exact .base (.tup t)
    · exact .fTuple t
    · cases t
    · cases t
    · exact .kTuple hk hc
  | fl ds =>
    cases e
    unfold RD at r
    obtain ⟨a, xs, rfl, t, _⟩ := r
    rcases t with ⟨_, t | ⟨o, t⟩⟩ | (t | ⟨_, t⟩) | ⟨o, its, n, hk, hc, _⟩
    · exact .base (.lst t)
    · exact .base (.frz t)
    · cases t
    · cases t
    · exact .kList hk hc
  | ref n =>
    obtain ⟨ds, e1, e2⟩ := Option.map_eq_some_iff.mp e
    cases e2
    obtain ⟨a, xs, rfl, _, t, _⟩ := r.ref_inv S (lstAt_some e1)
    exact .base (.lst t)
  | _ => cases e
/-- what stands of a built-in type T beside an operator of an own class C -/
def besideB (K : PySem.W.Frag) (C : Addr) (nm : String) (T : String) : Bool := (PySem.W.findIn K (.type T) (PySem.dunder nm)).isSome && ((PySem.W.findIn K (.type T) (dunderR nm)).isSome && decide (PySem.W.subIn K (.type T) (.ref C) = some false))
def bTys : List String := ["NoneType", "bool", "int", "str", "tuple", "list"]
theorem bty_in {s : Store} {d : D} {T : String} (e : d.bty s = some T) : T ∈ bTys := by
  cases d with
  | ref n =>
    obtain ⟨_, _, e2⟩ := Option.map_eq_some_iff.mp e
    rw [← e2]
    decide
  | _ => cases e <;> decide
/-- all that an operator of a class asks of the text -/
def opB (K : PySem.W.Frag) (C : Addr) (nm : String) : Bool := PySem.W.selfFirst K C && ((PySem.W.findIn K (.ref C) (dunderR nm) == some none) && bTys.all (besideB K C nm))
section
variable {prog : Program} {w : World} {A : Around} {E : Value → Shared → Prop} {s : Shared} {K : PySem.W.Frag} {C x f : Addr} {ox : Obj} {od : Option Obj} {op : Operator} {b : Value} {T : String} {Q : Value → Shared → Prop}
theorem own_bin (kin : K.In s.heap) (inst : PySem.W.InstAt s.heap x ox C od) (tyB : PySem.W.Looks (model prog w) s.heap (typeOf b) (.type T)) (hT : T ∈ bTys) (hop : opB K C op.info.2 = true) (at_ : PySem.W.findIn K (.ref C) (PySem.dunder op.info.2) = some (some (.ref f))) (isf : PySem.W.isFn K (.ref f) = true)
    (callee : wpAny (model prog w) A (call (.ref f) [.ref x, b]) (PySem.W.CmpBack Q) E s) : wpAny (model prog w) A (binaryOp op (.ref x) b) Q E s := by
  unfold opB at hop
  simp only [Bool.and_eq_true, List.all_eq_true] at hop
  obtain ⟨sf, refl_, side⟩ := hop
  have beside := side T hT
  unfold besideB at beside
  simp only [Bool.and_eq_true, decide_eq_true_eq] at beside
  obtain ⟨f1, f2, below⟩ := beside
  obtain ⟨o1, q1⟩ := Option.isSome_iff_exists.mp f1
  obtain ⟨o2, q2⟩ := Option.isSome_iff_exists.mp f2
  have q3 : PySem.W.findIn K (.ref C) (dunderR op.info.2) = some none := beq_iff_eq.mp refl_
  obtain ⟨cd, more, hcd, hmro⟩ := PySem.W.ksp_first sf
  rcases hinfo : op.info with ⟨sign, name⟩
  rw [hinfo] at at_ q1 q2 q3
  dsimp only at at_ q1 q2 q3
  have self_ := PySem.W.ksp_try kin inst at_ isf callee
  obtain ⟨hp, gs, dr, tk, os⟩ := s
  have k1 : PySem.W.Looks (model prog w) hp (typeOf (.ref x)) (.ref C) := inst.type
  have k2 : PySem.W.Looks (model prog w) hp (typeOf b) (.type T) := tyB
  have k3 : PySem.W.Looks (model prog w) hp (fillsNumberSlot (.ref C) name) true := PySem.W.fills_K kin hcd hmro at_
  have k4 := PySem.W.ksp_fillsT (M := model prog w) kin q1 q2
  have k5 : PySem.W.Looks (model prog w) hp (isSubtype (.type T) (.ref C)) false := PySem.W.looks_subIn kin below
  have k6 : PySem.W.Looks (model prog w) hp (numberSlotInPython (.ref C) name) true := PySem.W.ksp_inPy kin at_ q3 (.inl rfl)
  have k7 : PySem.W.Looks (model prog w) hp (numberSlotInPython (.type T) name) false := PySem.W.Looks.of_pure rfl
  have k8 : PySem.W.Looks (model prog w) hp (typeLookup (.type T) (dunderR name)) o2 := PySem.W.looks_findIn kin q2
  generalize ((o1.isSome && !isSeqSlot o1) || (o2.isSome && !isSeqSlot o2)) = other at k4
  have unlike : (Value.ref C == Value.type T) = false := Bool.eq_false_iff.mpr fun z => by cases beq_iff_eq.mp z
  simp only [binaryOp, hinfo]
  refine wpAny_holding (wpAny_bind ?_)
  unfold binaryOp1
  refine wpAny_bind (k1.at (wpAny_bind (k2.at (wpAny_bind (k3.at ?_)))))
  simp only [unlike, Bool.false_eq_true, if_false]
  cases other <;>
  · ksp_lk
    refine wpAny_mono self_ (fun r s' ⟨v, e, hq⟩ => ?_) fun _ _ z => z
    subst e
    ksp_lk
    exact hq
end
section
variable {X : Cx} {W : WX} {e a b o : Expr} {es : List Expr} {m ma mb mo : ME} {mr : MA} {pos apos p : Pos} {c : CN} {k : Nat} {mf : MF} {x : Str} {ps : List Str} {dD : List D}
/-- behind an operator's method: what has come is no NotImplemented -/
theorem back_ep {pins : List (Addr × Obj)} {σ : L2.St} {Q : VK} {v : Value} {s' : Shared} (h : EP X pins σ Q v s') : PySem.W.CmpBack (EP X pins σ Q) v s' := by
  obtain ⟨z, H', I', r, q⟩ := h
  exact SlX.cmpback r ⟨z, H', I', r, q⟩
/-- x op y with x's own method, y of a built-in type -/
def oOwnB (c : CN) (m : MF) (x y : D) (s : Store) : R D := if x.isOf s c = true ∧ (y.bty s).isSome = true then m [x, y] s else .bad
def mOwnB (c : CN) (m : MF) (a b : ME) : ME := fun ρ s => (a ρ s).bind fun x s => (b ρ s).bind fun y s => oOwnB c m x y s
theorem e_ownB {op : Operator} (F : Fm X.prog X.w X.K X.mg X.base c x [] ps k mf) (hps : ps.length = 2) (hx' : x = PySem.dunder op.info.2) (hop : ∀ C, X.mg c.str = some (.ref C) → opB X.K C op.info.2 = true) (hr : Room k X.A) (hx : Px X W) (ha : IE X W a ma) (hb : IE X W b mb) : IE X W (.BinOp a op b pos) (mOwnB c mf ma mb) := by
  obtain ⟨f, fd, dvs, dvl, hM, hd, hdD, hbb, F⟩ := F
  refine ⟨fun pins s σ H Q I ⟨α, ρ, s0, S, h⟩ => wpAny_BinOp (bin (R := fun vx vy H2 => ∃ α2 s2 x y, RSt X.K X.mg H2 α2 s2 ∧ RD X.K X.mg H2 α2 x vx ∧ RD X.K X.mg H2 α2 y vy ∧ wp X.K X.mg (RD X.K X.mg) α2 H2 (oOwnB c mf x y s2) (fun C dd H' => W C dd σ H') Q) ha hb I ?_ fun v u s2 vx vy H2 I2 rx ry ⟨α2, st2, dx, dy, S2, rdx, rdy, q⟩ => ?_)⟩
  · exact ⟨α, ρ, s0, S, rd_then S h fun α1 H1 s1 x vx S1 rx g1 h1 => ⟨α1, ρ, s1, S1, rd_then S1 h1 fun α2 H2 s2 y vy S2 ry g2 h2 => ⟨α2, s2, x, y, S2.st, RD.gr g2.toGw _ _ rx, ry, h2⟩⟩⟩
  · unfold oOwnB at q
    split at q
    · rename_i hc
      obtain ⟨fs, hob⟩ := isOf_ob hc.1
      obtain ⟨T, hT⟩ := Option.isSome_iff_exists.mp hc.2
      obtain ⟨a', C, dx', xs, rfl, mC, hH, rl0, _⟩ := rdx.ob S2 hob
      cases rx
      obtain ⟨ox, od, J⟩ := obj_inst I2 hH
      obtain ⟨Pk, Z, pk, _⟩ := kit_of I2 ry (rdy.tyX S2 hT)
      refine own_bin I2.kIn J (Z.ty _ _ I2.kIn pk) (bty_in hT) (hop C mC) (by rw [← hx']; exact (hM C mC).at_) (hM C mC).fn ?_
      refine wpAny_mono (meth_run (vs := [.ref a', vy]) (us := [.ref a', u]) (ds := [dx, dy]) F hr I2.env0 hbb hd hdD hx I2 S2 (RL.cons rdx (RL.one rdy)) (.cons rfl (.cons ry .nil)) (by simpa using hps.symm) q) (fun r s' z => back_ep z) fun _ _ z => z
    · exact q.elim
/-! x in o, o[i], len(o) by o's own methods -/
def asBl (f : Bool → Bool) (r : R D) : R D := r.bind fun d s => match d with
  | .bl k => .ok (.bl (f k)) s
  | _ => .bad
def oOwnIn (neg : Bool) (c : CN) (m : MF) (x o : D) (s : Store) : R D := if o.isOf s c then asBl (fun k => if neg then !k else k) (m [o, x] s) else .bad
def mOwnIn (neg : Bool) (c : CN) (m : MF) (a b : ME) : ME := fun ρ s => (a ρ s).bind fun x s => (b ρ s).bind fun y s => oOwnIn neg c m x y s
theorem c_ownIn (neg : Bool) (F : Fm X.prog X.w X.K X.mg X.base c "__contains__" [] ps k mf) (hps : ps.length = 2) (hr : Room k X.A) (hx : Px X W) (ha : IE X W a ma) (hb : IE X W b mb) : PC X (if neg then .NotIn else .In) a b (rdE X.K X.mg W (mOwnIn neg c mf ma mb)) := by
  obtain ⟨f, fd, dvs, dvl, hM, hd, hdD, hbb, F⟩ := F
  refine ⟨fun pins s σ H Q I ⟨α, ρ, s0, S, h⟩ => bin (R := fun vx vy H2 => ∃ α2 s2 x y, RSt X.K X.mg H2 α2 s2 ∧ RD X.K X.mg H2 α2 x vx ∧ RD X.K X.mg H2 α2 y vy ∧ wp X.K X.mg (RD X.K X.mg) α2 H2 (oOwnIn neg c mf x y s2) (fun C dd H' => W C dd σ H') Q) ha hb I ?_ fun v u s2 vx vy H2 I2 rx ry ⟨α2, st2, dx, dy, S2, rdx, rdy, q⟩ => ?_⟩
  · exact ⟨α, ρ, s0, S, rd_then S h fun α1 H1 s1 x vx S1 rx g1 h1 => ⟨α1, ρ, s1, S1, rd_then S1 h1 fun α2 H2 s2 y vy S2 ry g2 h2 => ⟨α2, s2, x, y, S2.st, RD.gr g2.toGw _ _ rx, ry, h2⟩⟩⟩
  · unfold oOwnIn at q
    split at q
    · rename_i hc
      obtain ⟨fs, hob⟩ := isOf_ob hc
      obtain ⟨a', C, dx', xs, rfl, mC, hH, rl0, _⟩ := rdy.ob S2 hob
      cases ry
      obtain ⟨ox, od, J⟩ := obj_inst I2 hH
      obtain ⟨mm, hF⟩ := I2.fr
      have run := meth_run (W := W) (Q := fun v H' => ∃ k, v = .bl k ∧ Q (.bl (if neg then !k else k)) H') (vs := [.ref a', vx]) (us := [.ref a', v]) (ds := [dy, dx]) F hr I2.env0 hbb hd hdD hx I2 S2 (RL.cons rdy (RL.one rdx)) (.cons rfl (.cons rx .nil)) (by simpa using hps.symm)
        (wp.imp (wp_bind (rel := RD X.K X.mg) q) fun v H' ⟨α3, s3, d, g3, st3, rd3, q3⟩ => by
          split at q3
          · rename_i k
            exact ⟨k, rd3.bl_inv, wp_ok q3 st3 (RD.bl _)⟩
          · exact q3.elim)
      cases neg with
      | false => exact PySem.W.in_K hF I2.ok.mod.kin J (hM C mC).at_ (hM C mC).fn (wpAny_mono run (fun r s' ⟨z, H', I', rz, k, ez, q'⟩ => by subst ez; cases rz; exact wpAny_truthy_bool ⟨.bl k, H', I', rfl, q'⟩) fun _ _ z => z)
      | true => exact PySem.W.notIn_K hF I2.ok.mod.kin J (hM C mC).at_ (hM C mC).fn (wpAny_mono run (fun r s' ⟨z, H', I', rz, k, ez, q'⟩ => by subst ez; cases rz; exact wpAny_truthy_bool ⟨.bl (!k), H', I', rfl, q'⟩) fun _ _ z => z)
    · exact q.elim
theorem e_ownIn (neg : Bool) (F : Fm X.prog X.w X.K X.mg X.base c "__contains__" [] ps k mf) (hps : ps.length = 2) (hr : Room k X.A) (hx : Px X W) (ha : IE X W a ma) (hb : IE X W b mb) (h1 : behindInMarks (if neg then .NotIn else .In) b = false := by rfl) : IE X W (.Compare a [if neg then .NotIn else .In] [b] pos) (mOwnIn neg c mf ma mb) :=
  pe_cmp (c_ownIn neg F hps hr hx ha hb) h1
theorem t_ownIn (neg : Bool) (F : Fm X.prog X.w X.K X.mg X.base c "__contains__" [] ps k mf) (hps : ps.length = 2) (hr : Room k X.A) (hx : Px X W) (ha : IE X W a ma) (hb : IE X W b mb) (h1 : behindInMarks (if neg then .NotIn else .In) b = false := by rfl) : IT X W (.Compare a [if neg then .NotIn else .In] [b] pos) (mTst (mOwnIn neg c mf ma mb)) :=
  PT_imp (pt_cmp (c_ownIn neg F hps hr hx ha hb) h1) fun _ _ _ h => rd_tst h
/-- o[i] -/
theorem e_ownIx (F : Fm X.prog X.w X.K X.mg X.base c "__getitem__" [] ps k mf) (hps : ps.length = 2) (hr : Room (k + 1) X.A) (hx : Px X W) (hfn : ∀ f C, X.mg c.str = some (.ref C) → Meth X.K C "__getitem__" f → PySem.W.fnIn X.K f = true) (ha : IE X W a ma) (hb : IE X W b mb)
    (hsl : ∀ o i, subscripted b true (.ref o) i = runValue (.builtin "lifetime.subscript" ⟨[.ref o, i], []⟩) := by intro _ _; with_unfolding_all rfl) : IE X W (.Subscript a b pos) (mOwn c mf ma mb) := by
  obtain ⟨f, fd, dvs, dvl, hM, hd, hdD, hbb, F⟩ := F
  refine ⟨fun pins s σ H Q I ⟨α, ρ, s0, S, h⟩ => Subscript_ (binT (R := fun vx vy H2 => ∃ α2 s2 x y, RSt X.K X.mg H2 α2 s2 ∧ RD X.K X.mg H2 α2 x vx ∧ RD X.K X.mg H2 α2 y vy ∧ wp X.K X.mg (RD X.K X.mg) α2 H2 (oOwn c mf x y s2) (fun C dd H' => W C dd σ H') Q) ha hb I ?_ fun v u s2 vx vy H2 I2 rx ry ⟨α2, st2, dx, dy, S2, rdx, rdy, q⟩ => ?_)⟩
  · exact ⟨α, ρ, s0, S, rd_then S h fun α1 H1 s1 x vx S1 rx g1 h1 => ⟨α1, ρ, s1, S1, rd_then S1 h1 fun α2 H2 s2 y vy S2 ry g2 h2 => ⟨α2, s2, x, y, S2.st, RD.gr g2.toGw _ _ rx, ry, h2⟩⟩⟩
  · unfold oOwn at q
    split at q
    · rename_i hc
      obtain ⟨fs, hob⟩ := isOf_ob hc
      obtain ⟨a', C, dx', xs, rfl, mC, hH, rl0, _⟩ := rdx.ob S2 hob
      cases rx
      obtain ⟨ox, od, J⟩ := obj_inst I2 hH
      obtain ⟨mm, hF⟩ := I2.fr
      exact PySem.W.sub_K hF I2.ok.mod.kin J (hM C mC).at_ (hfn f C mC (hM C mC)) (hM C mC).fn
        (meth_run (vs := [.ref a', vy]) (us := [.ref a', u]) (ds := [dx, dy]) F hr.in1 I2.env0.in1 hbb hd hdD hx I2 S2 (RL.cons rdx (RL.one rdy)) (.cons rfl (.cons ry .nil)) (by simpa using hps.symm) q) (hsl a' u)
    · exact q.elim
/-- len(o) -/
def fOwnLen (c : CN) (m : MF) : MF := fun ds s => match ds with
  | [o] => if o.isOf s c then (m [o] s).bind fun d s => match d with
    | .int n => if 0 ≤ n ∧ n < 2 ^ 62 then .ok (.int n) s else .bad
    | _ => .bad
    else .bad
  | _ => .bad
theorem e_ownLen {p : Pos} (F : Fm X.prog X.w X.K X.mg X.base c "__len__" [] ps k mf) (hps : ps.length = 1) (hr : Room (k + 1) X.A) (hx : Px X W) (hm : X.mg "len" = none) (ha : IE X W a ma) (hg : Gl X "len" := by rfl) (he : starEach [a] X.env = (false, eval a X.env) :: starEach [] X.env := by rfl)
    (hpl : (backTo pos (starEach [] X.env)).any (·.1) = false := by rfl) : IE X W (.Call (.Name "len" p) [a] [] pos) (mArgs (fOwnLen c mf) (aCons ma aNil)) := by
  obtain ⟨f, fd, dvs, dvl, hM, hd, hdD, hbb, F⟩ := F
  refine ⟨fun pins s σ H Q I ⟨α, ρ, s0, S, h⟩ => ?_⟩
  refine wpAny_Call_Name_kw (ld_blt I hg hm PySem.boot_len ?_)
  have av := (a_cons ha a_nil he).run pos pins s σ H _ I ⟨α, ρ, s0, S, rd_thenA (T := fun vs H2 => ∃ α2 s2 ds, Sim X.K X.mg α2 H2 ρ s2 σ ∧ RL X.K X.mg H2 α2 ds vs ∧ wp X.K X.mg (RD X.K X.mg) α2 H2 (fOwnLen c mf ds s2) (fun C dd H' => W C dd σ H') Q) S h fun α2 H2 s2 ds vs S2 rl g2 h2 => ⟨α2, s2, ds, S2, rl, h2⟩⟩
  refine PyProof.Rows.callWith_builtin1 (thn av fun us s2 ⟨vs, H2, I2, r2, α2, st2, ds, S2, rl, q⟩ => ?_) he hpl
  unfold fOwnLen at q
  split at q
  · rename_i o
    obtain ⟨v, rfl, rd⟩ := rl.one_inv
    split at q
    · rename_i hc
      obtain ⟨fs, hob⟩ := isOf_ob hc
      obtain ⟨a', C, dx', xs, rfl, mC, hH, rl0, _⟩ := rd.ob S2.st hob
      obtain ⟨u, rfl, ru⟩ := vals1 r2
      cases ru
      obtain ⟨ox, od, J⟩ := obj_inst I2 hH
      obtain ⟨mm, hF⟩ := I2.fr
      have run := meth_run (W := W) (Q := fun v H' => ∃ n : Int, v = .int n ∧ (0 ≤ n ∧ n < 2 ^ 62) ∧ Q (.int n) H') (vs := [.ref a']) (us := [.ref a']) (ds := [o]) F hr.in1 I2.env0.in1 hbb hd hdD hx I2 S2.st (RL.one rd) (.cons rfl .nil) (by simpa using hps.symm)
        (wp.imp (wp_bind (rel := RD X.K X.mg) q) fun v H' ⟨α3, s3, d, g3, st3, rd3, q3⟩ => by
          split at q3
          · rename_i n
            split at q3
            · rename_i hn
              exact ⟨n, rd3.int_inv, hn, wp_ok q3 st3 (RD.int _)⟩
            · exact q3.elim
          · exact q3.elim)
      refine PySem.W.len_K hF I2.ok.mod.kin J (hM C mC).at_ (hM C mC).fn (wpAny_mono run (fun r s' ⟨z, H', I', rz, n, ez, hn, q'⟩ => ?_) fun _ _ z => z)
      subst ez
      obtain ⟨t, rfl⟩ := rz
      exact ⟨⟨hn.1, by omega⟩, ⟨.int n, H', I'.tok _, ⟨_, rfl⟩, q'⟩⟩
    · exact q.elim
  · exact q.elim
end
end LY
/-! LayI: raise, try .. except .. as, isinstance, zip. -/
namespace LY
open PySem PySem.Spec PyProof.Rows L2
/-! ### what has been caught is kept -/
section
variable {X : Cx} {pins : List (Addr × Obj)} {σ : L2.St} {H : Hp} {s : Shared}
/-- an object that nobody knows is known from now on -/
theorem inv_track (I : Inv X pins σ H s) {a : Addr} {φ : Heap → Prop} {ob : Obj} (ha : s.heap.get? a = some ob) (na : H a = none) (ne : X.s_0.heap.get? a = none) (nL : a ≠ X.env.locals) (nc : ∀ v, ob.data ≠ .cell v)
    (np : ∀ p ∈ X.pn ++ pins, p.1 ≠ a) (hφ : φ s.heap) (st : ∀ h1 h2 : Heap, φ h1 → (∀ o, h1.get? a = some o → h2.get? a = some o) → φ h2) : Inv X pins σ (upd H a (.ext φ)) s := by
  have old : ∀ b o, X.s_0.heap.get? b = some o → b ≠ a := fun b o e z => by rw [z, ne] at e; cases e
  have keep : ∀ b u, H b = some u → upd H a (.ext φ) b = some u := fun b u e => by rw [upd_ne (ne_of_none e na)]; exact e
  refine ⟨I.ok, I.os, I.bare, ⟨I.base.keep, I.base.slot, fun b o e n hx => ?_, I.base.there, fun b xs e => keep b _ (I.base.tups b xs e), fun b o u e => keep b _ (I.base.frzs b o u e), fun b ps e => ?_⟩, I.loc, I.cell, ?_, fun x c e => ?_, fun p hp => ?_, fun b o e => ?_, I.len⟩
  · rw [upd_ne (old b o e)]
    exact I.base.free b o e n hx
  · obtain ⟨more, q⟩ := I.base.tbls b ps e
    exact ⟨more, keep b _ q⟩
  · rw [upd_ne (Ne.symm nL)]
    exact I.free
  · have hne : c ≠ a := fun z => by
      obtain ⟨v, o, q1, q2⟩ := I.cell x c e
      rw [z, ha] at q1
      cases q1
      exact nc v q2
    rw [upd_ne hne]
    exact I.freeC x c e
  · obtain ⟨p1, p2, p3⟩ := I.pin p hp
    exact ⟨p1, by rw [upd_ne (np p hp)]; exact p2, p3⟩
  · by_cases hb : b = a
    · subst hb
      rw [upd_same] at e
      cases e
      exact ⟨hφ, ⟨ob, ha⟩, st⟩
    · rw [upd_ne hb] at e
      exact (I.hok b o e).stay (fun _ _ _ q => q) (fun c q => keep c _ q) fun c xs q => keep c _ q
theorem inv_pins {Y : Cx} {q1 q2 : List (Addr × Obj)} {ak : Around} {bk : Bool} {p1 : List (Addr × Obj)} {x1 : Value → Shared → Prop} (I : Inv { Y with A := ak, calm := bk, pn := p1, xe := x1 } q1 σ H s) (ok : Y.Ok) (h : ∀ p ∈ Y.pn ++ q2, p ∈ p1 ++ q1) : Inv Y q2 σ H s :=
  ⟨ok, I.os, I.bare, I.base, I.loc, I.cell, I.free, I.freeC, fun p hp => I.pin p (h p hp), I.hok, I.len⟩
theorem exob_st {C : Addr} {d : Option Addr} {a : Addr} : ∀ h1 h2 : Heap, (∃ (oe : Obj) (vs : Array Value), h1.get? a = some oe ∧ Zc (.ref C) d oe ∧ oe.data = .fields vs) → (∀ o, h1.get? a = some o → h2.get? a = some o) →
    ∃ (oe : Obj) (vs : Array Value), h2.get? a = some oe ∧ Zc (.ref C) d oe ∧ oe.data = .fields vs := fun _ _ ⟨oe, vs, e, z, q⟩ k => ⟨oe, vs, k _ e, z, q⟩
end
/-- x = e in the suite of 'except .. as e' -/
def kept (i j : Nat) (a : Addr) (σ : L2.St) (H : Hp) : Ends := { nx := fun σ' H' => σ' = (σ.set i (some (.ref a))).set j (some (.ref a)) ∧ H' = H, rt := fun _ _ => False, bk := fun _ _ => False, ct := fun _ _ => False }
/-- what the clause wishes -/
def wTk (K : PySem.W.Frag) (c : Value) (i j : Nat) (Wo : WX) (D : Ends) : WX := fun cls d σ H => ∃ b, PySem.W.exmOne K cls c = some b ∧
  (b = true → ∃ C, cls = .ref C ∧ ∀ a, H a = none → D.nx (((σ.set i (some (.ref a))).set j (some (.ref a))).set i none) (upd H a (ExOb C d a))) ∧ (b = false → Wo cls d σ H)
section
variable {X : Cx} {x n : Str} {c : Value} {i j : Nat} {body : List Stmt} {st : Stmt} {np pos pos' : Pos} {tb : WX → TS} {Wo : WX}
theorem try_keep (hex : X.ex = []) (hs : X.stack = X.env :: X.outer) (hf : X.env.frame = some X.env.locals) (hN : X.N.Nodup) (hi : X.N[i]? = some n) (hln : X.env.kindOf n = some .local) (hc : Names X x c) (tk : Takes X Wo)
    (hb : ∀ (W : WX) (pn : List (Addr × Obj)) (xe : Value → Shared → Prop), Takes (X.tr pn xe) W → PSs (X.tr pn xe) body (tb W))
    (hsu : ∀ (a : Addr) (oe : Obj) (pn : List (Addr × Obj)), PS (X.suite a ((a, oe) :: pn)) st (fun D σ H => ∃ v, σ[i]? = some (some v) ∧ D.nx (σ.set j (some v)) H)) :
    PS X (.Try body [.ExceptHandler (some (.Name x np)) (some n) [st] pos'] [] [] pos) (fun D σ H => tb (wTk X.K c i j Wo D) D σ H) := by
  constructor
  intro pins s σ H D I h
  have ok := I.ok
  have hfr : X.A.frames = some (X.env :: X.outer) := hs ▸ ok.frames
  let hd : List ExceptHandler := [.ExceptHandler (some (.Name x np)) (some n) [st] pos']
  let xe2 : Value → Shared → Prop := fun e t1 => wpAny (model X.prog X.w) X.A (noteFrame e X.env) (fun _ t2 => wpAny (model X.prog X.w) X.A (setFlight e none) (fun _ t3 => wpAny (model X.prog X.w) X.A (handleBy e X.env hd) (SP X pins D) X.xe t3) X.xe t2) X.xe t1
  have tk2 : Takes (X.tr (X.pn ++ pins) xe2) (wTk X.K c i j Wo D) := by
    rintro u s' ⟨a, B, sI, pins', τ, G, cls, d, rfl, J', nb, up, sky, na, os, ag, b, hb1, hyes, hno⟩
    have J : Inv X pins τ G sI := J'.ofTry ok
    have hs2 : (X.tr (X.pn ++ pins) xe2).stack = X.env :: X.outer := hs
    rw [hs2] at sky
    show wpAny (model X.prog X.w) X.A (noteFrame (.ref a) X.env) _ _ _
    refine Sky.land Zc.steady hfr hf sky fun h3 fl up3 => ?_
    have J3 : Inv X pins τ G { s' with heap := h3 } := J.landed nb fl.1 (up.trans up3) os ag
    obtain ⟨oe, vs, he, hz, hd3⟩ := fl.there
    have nfr : a ∉ frs (X.env :: X.outer) := fun hm => by
      obtain ⟨_, o', e', hnf⟩ := fl.2.2.1.mem hm
      cases he.symm.trans e'
      exact hnf _ hd3
    have inF : ∀ e : Env, e ∈ X.env :: X.outer → e.frame = some a → False := fun e m q => nfr (List.mem_filterMap.mpr ⟨e, m, q⟩)
    have nL : a ≠ X.env.locals := fun z => inF _ List.mem_cons_self (by rw [hf, z])
    have nF : a ∉ X.fs := fun hm => by
      obtain ⟨e, m, q⟩ := List.mem_filterMap.mp hm
      exact inF e (List.mem_cons_of_mem _ m) q
    have n0 : X.s_0.heap.get? a = none := by
      cases q : X.s_0.heap.get? a with
      | none => rfl
      | some o =>
        obtain ⟨o', q'⟩ := J.base.there a o q (by rw [hex]; exact fun z => nomatch z)
        have z := nb a o' q' (by rw [hs2]; exact nfr)
        rw [fl.2.1] at z
        cases z
    have nI : sI.heap.get? a = none := by
      cases q : sI.heap.get? a with
      | none => rfl
      | some o =>
        have z := nb a o q (by rw [hs2]; exact nfr)
        rw [fl.2.1] at z
        cases z
    have S3 := J3.suite he hd3 na nL nF
    refine wpAny_handleBy_cons (codeAny_handlers_test ?_) (fun q => nomatch q)
    have ty : PySem.W.Looks (model X.prog X.w) h3 (typeOf (.ref a)) cls := fun _ _ _ _ k q => wpAny_typeOf_ref (k _ _ he) (by rw [hz.1]; exact q)
    have test : ∀ {Q E : Value → Shared → Prop}, Q c { s' with heap := h3 } → wpAny (model X.prog X.w) (X.A.mark (some (.ref a))) (eval (.Name x np) X.env) Q E { s' with heap := h3 } := fun {Q E} q => by
      rcases hc with ⟨c1, c2, c3 | ⟨c3, c4, c5⟩⟩
      · exact ld_glob (X := X.suite a ((a, oe) :: (X.pn ++ pins))) S3 c1 c3 q c2
      · exact ld_blt (X := X.suite a ((a, oe) :: (X.pn ++ pins))) S3 c1 c3 c4 q c5 c2
    refine test ((PySem.W.exm_one (M := model X.prog X.w) J3.kIn ty hb1).here ?_)
    cases b with
    | true =>
      obtain ⟨C, rfl, hq⟩ := hyes rfl
      refine codeAny_handlers_suite_as (HandSPX.lands_againZ fl fun h4 fl4 up4 => ?_)
      have J4 : Inv X pins τ G { s' with heap := h4 } := J.landed nb fl4.1 ((up.trans up3).trans up4) os ag
      obtain ⟨oe4, vs4, he4, hz4, hd4⟩ := fl4.there
      refine store_ok (X := X.suite a ((a, oe4) :: (X.pn ++ pins))) (v := .ref a) (J4.suite he4 hd4 na nL nF) hN hi (.inl hln) rfl (fun s5 S5 => ?_) (.inr hln)
      have hτ : i < τ.length := by rw [J.len]; exact (List.getElem?_eq_some_iff.mp hi).1
      refine wpAny_mono ((pss_one (hsu a oe4 (X.pn ++ pins))).run [] s5 _ G (kept i j a τ G) S5 ?_) (fun f s6 hsp => ?_) fun _ _ z => z.elim
      · exact ⟨.ref a, List.getElem?_set_self hτ, rfl, rfl⟩
      · cases f with
        | next =>
          obtain ⟨τ6, G6, S6, e1, e2⟩ := hsp
          rw [e1] at S6
          subst e2
          have U6 : L2.Inv X ((a, oe4) :: pins) _ G6 s6 := inv_pins S6 ok fun p hp => by
            rcases List.mem_append.mp hp with m | m
            · exact List.mem_append_left _ (List.mem_cons_of_mem _ (List.mem_append_left _ m))
            · rcases List.mem_cons.mp m with m | m
              · exact List.mem_append_left _ (by rw [m]; exact List.mem_cons_self)
              · exact List.mem_append_left _ (List.mem_cons_of_mem _ (List.mem_append_right _ m))
          refine gone_ok U6 hN hi hln fun s7 J7 => ?_
          have e7 := (J7.pin (a, oe4) (List.mem_append_right _ List.mem_cons_self)).1
          have I7 : L2.Inv X pins _ G6 s7 := inv_pins J7 ok fun p hp => by
            rcases List.mem_append.mp hp with m | m
            · exact List.mem_append_left _ m
            · exact List.mem_append_right _ (List.mem_cons_of_mem _ m)
          refine ⟨_, _, inv_track (φ := fun h => ∃ (oe : Obj) (vs : Array Value), h.get? a = some oe ∧ Zc (.ref C) d oe ∧ oe.data = .fields vs) I7 e7 na n0 nL (fun v z => by rw [hd4] at z; cases z) (fun p hp z => ?_) ⟨oe4, vs4, e7, hz4, hd4⟩ exob_st, hq a na⟩
          have := (J.pin p hp).1
          rw [z, nI] at this
          cases this
        | ret u => obtain ⟨_, _, _, _, _, z⟩ := hsp; exact z.elim
        | brk => obtain ⟨_, _, _, z⟩ := hsp; exact z.elim
        | cont => obtain ⟨_, _, _, z⟩ := hsp; exact z.elim
    | false =>
      show wpAny _ X.A (handleBy (.ref a) X.env []) _ _ _
      apply wpAny_handleBy_nil
      have fl' := fl
      obtain ⟨_, _, _, oe5, vs5, T, _, _, q1, _, q2, q3, _⟩ := fl'
      unfold PySem.passOn
      refine wpAny_bind (wpAny_field q1 q2 q3 ?_)
      rw [if_neg (by simp)]
      have fin : wpAny (model X.prog X.w) X.A (setFlight (.ref a) X.env.frame) (fun _ t => wpAny (model X.prog X.w) X.A (throw (.ref a) : Sem Flow) (SP X pins D) X.xe t) X.xe { s' with heap := h3 } := hf ▸ HandSPX.setFlight_upZ fl fun h4 hh4 up4 =>
        wpAny_throw (tk _ _ ⟨a, B, sI, pins, τ, G, cls, d, rfl, J, nb, (up.trans up3).trans up4, .inr (.inr (hs ▸ hh4)), na, os, ag, hno rfl⟩)
      first
        | exact wpAny_bind (wpAny_pure (wpAny_bind fin))
        | exact wpAny_bind fin
  refine wpAny_Try_except ?_
  refine wpAny_mono ((hb (wTk X.K c i j Wo D) (X.pn ++ pins) xe2 tk2).run [] s σ H D (I.toTry _) h) (fun f s1 q => ?_) fun e s1 he => he
  cases f with
  | ret u => obtain ⟨v, τ, G, J, r, q⟩ := q; exact ⟨v, τ, G, J.ofTry ok, r, q⟩
  | next => obtain ⟨τ, G, J, q⟩ := q; exact wpAny_execs_nil ⟨τ, G, J.ofTry ok, q⟩
  | brk => obtain ⟨τ, G, J, q⟩ := q; exact ⟨τ, G, J.ofTry ok, q⟩
  | cont => obtain ⟨τ, G, J, q⟩ := q; exact ⟨τ, G, J.ofTry ok, q⟩
end
/-! ### classes: what the text must say of them -/
def CN.isObj : CN → Bool
  | .RuleBook => true | .Live => true | .Desk => true
  | _ => false
/-- a subclass -/
def CN.sub (a b : CN) : Bool := decide (a = b) || (decide (b = .RestError) && !a.isObj)
/-- a kind of thing, as isinstance asks for it -/
inductive TyT where
  | b (T : String) | o (c : CN) | e (c : CN)
def D.tyt (s : Store) (d : D) : Option TyT := match d.bty s with
  | some T => some (.b T)
  | none => match d with
    | .exc c _ => if c.flds = [] then some (.e c) else none
    | d => match d.obj s with
      | some (c, _) => if c.isObj then some (.o c) else none
      | none => none
def isTys : List String := ["int", "bool", "tuple", "list", "str"]
def isiR : TyT → D → Option Bool
  | .b T, .ty n => kitB T n
  | .b _, .cls _ => some false
  | .o _, .ty n => if n ∈ isTys then some false else none
  | .o c, .cls c' => some (decide (c = c'))
  | .e _, .ty n => if n = "ValueError" then some true else if n ∈ isTys then some false else none
  | .e c, .cls c' => some (c.sub c')
  | _, _ => none
def fIsi : MF := fun ds s => match ds with
  | [x, c] => (match x.tyt s with
    | some t => (match isiR t c with
      | some b => .ok (.bl b) s
      | none => .bad)
    | none => .bad)
  | _ => .bad
structure ObjTy (K : PySem.W.Frag) (C : Addr) : Prop where
  cls : Cls K C
  ha : PySem.W.findIn K (.ref C) "__class__" = some (some (.builtin "object.__class__"))
  hn : PySem.W.specialIn K (.builtin "object.__class__") "__get__" = some (some (.builtin "getset_descriptor.__get__"))
  ht : PySem.W.takesIn K (.builtin "object.__class__") = some true
  hm : PySem.W.mroIn K C (.type "object") = some true
structure ErrTy (K : PySem.W.Frag) (C : Addr) : Prop where
  ex : PySem.W.excIn K C He.veBase "ValueError.__new__" = true
  kp : PySem.W.keepIn K (.ref C) = true
  sb : PySem.W.subIn K (.ref C) (.type "BaseException") = some true
  ty : PySem.W.typeIn K (.ref C) = some (.type "type")
structure FX (K : PySem.W.Frag) (mg : Str → Option Value) : Prop where
  err : ∀ (c : CN) (C : Addr), c.isObj = false → c.flds = [] → mg c.str = some (.ref C) → ErrTy K C
  exc : ∀ (c : CN) (C : Addr), c.isObj = false → mg c.str = some (.ref C) → ExcC K C
  exm : ∀ (c c' : CN) (C C' : Addr), c.isObj = false → c'.isObj = false → mg c.str = some (.ref C) → mg c'.str = some (.ref C') → PySem.W.exmOne K (.ref C) (.ref C') = some (c.sub c')
  isB : ∀ T ∈ bTys, ∀ (c : CN) (C : Addr), mg c.str = some (.ref C) → PySem.W.kitOne K (.type T) (.ref C) = some false
  isT : ∀ n ∈ isTys, ∀ (c : CN) (C : Addr), mg c.str = some (.ref C) → PySem.W.kitOne K (.ref C) (.type n) = some false
  isV : ∀ (c : CN) (C : Addr), c.isObj = false → mg c.str = some (.ref C) → PySem.W.kitOne K (.ref C) (.type "ValueError") = some true
  isC : ∀ (c c' : CN) (C C' : Addr), mg c.str = some (.ref C) → mg c'.str = some (.ref C') → PySem.W.kitOne K (.ref C) (.ref C') = some (c.sub c')
  obj : ∀ (c : CN) (C : Addr), c.isObj = true → mg c.str = some (.ref C) → ObjTy K C
theorem CN.sub_obj {c c' : CN} (h : c.isObj = true) : c.sub c' = decide (c = c') := by
  unfold CN.sub
  rw [h]
  simp
section
variable {X : Cx} {W : WX}
theorem s_raise {j : Nat} {m : Str} {x : Str} {p p2 pos pos' : Pos} {kw} (c : CN) (F : FX X.K X.mg) (hm : ∃ C, X.mg c.str = some (.ref C)) (hc : X.calm = true) (tk : Takes X W) (hx : c.str = x := by rfl) (hg : Gl X x := by rfl) (ho : c.isObj = false := by rfl) (hf : c.flds = [] := by rfl) (hk : kw = [] := by rfl)
    (hdb : (x == ("__debug__" : Str)) = false := by decide) : IS X W (.Raise (some (.Call (.Name x p) [.Constant (.str m) j p2] kw pos')) none pos) (mRaise c) := by
  subst hk hx
  obtain ⟨C, mC⟩ := hm
  have T := F.err c C ho hf mC
  exact PS_imp (ps_raise hc tk (pmk_own PySem.F.excBase_ValueError T.ex mC T.kp (raises_own T.sb T.ty) hg hdb)) fun D σ H ⟨α, ρ, s, S, h⟩ => h α H σ C none (Gr.refl _ _) S mC ⟨[], RL.nil, fun _ => rfl, fun z => (z hf).elim⟩
theorem obj_ins {d : D} {s : Store} {c : CN} {fs : List D} (h : d.obj s = some (c, fs)) : (∃ f, d = .ins c f) ∨ ∃ n, d = .ref n := by
  cases d with
  | ins c' f => cases h; exact .inl ⟨_, rfl⟩
  | ref n => exact .inr ⟨n, rfl⟩
  | _ => cases h
theorem call_isiD {pins : List (Addr × Obj)} {s : Shared} {σ : L2.St} {H : Hp} {α : Al} {s0 : Store} {x c : D} {vx vc : V} {us : List Value} {Q : VK} {b : Bool} {t : TyT} (F : FX X.K X.mg) (I : L2.Inv X pins σ H s) (S : RSt X.K X.mg H α s0) (rx : RD X.K X.mg H α x vx) (rc : RD X.K X.mg H α c vc) (r : Vals [vx, vc] us)
    (ht : x.tyt s0 = some t) (hb : isiR t c = some b) (q : Q (.bl b) H) : wpAny (model X.prog X.w) X.A (call (.builtin "isinstance") us) (EP X pins σ Q) X.xe s := by
  unfold D.tyt at ht
  split at ht
  · rename_i T eT
    cases ht
    have ty := rx.tyX S eT
    cases c with
    | ty n =>
      unfold RD at rc
      subst rc
      exact call_isi pins s σ H _ us Q I r ⟨_, _, _, _, b, rfl, .ty n, ty, hb, q⟩
    | cls c' =>
      unfold RD at rc
      obtain ⟨C, rfl, mC⟩ := rc
      cases hb
      exact call_isi pins s σ H _ us Q I r ⟨_, _, _, _, _, rfl, .own C, ty, F.isB T (bty_in eT) c' C mC, q⟩
    | _ => cases hb
  · rename_i eN
    split at ht
    · rename_i cc f
      split at ht
      · rename_i hf
        cases ht
        unfold RD at rx
        obtain ⟨a, D', d, rfl, na, mD, hH, xs, rl, k1, k2⟩ := rx
        have ed := k1 hf
        subst ed
        obtain ⟨oe, vs, h1, h2, h3⟩ := (I.hok a _ hH).1
        have J : PySem.W.InstAt s.heap a oe D' none := by
          obtain ⟨oc, od, oda, osl⟩ := oe
          obtain ⟨g1, g2⟩ := h2
          dsimp only at g1 g2 h3
          subst g1 g2 h3
          exact ⟨h1, rfl, rfl, trivial⟩
        obtain ⟨u1, u2, rfl, r1, r2⟩ := vals2 r
        cases r1
        have G : cc.isObj = false := by
          cases cc <;> first | rfl | cases hf
        have E := F.exc cc D' G mD
        have go : ∀ {cv : Value}, u2 = cv → PySem.W.kitOne X.K (.ref D') cv = some b → wpAny (model X.prog X.w) X.A (call (.builtin "isinstance") [.ref a, u2]) (EP X pins σ Q) X.xe s := fun {cv} e k => by
          subst e
          exact PySem.W.kia_one (PySem.W.handS_kitx_exc E.hg E.hk E.hs E.hd E.ha E.hn E.ht E.hm) I.kIn J k (fun z => nomatch z) fun tk => ⟨.bl b, H, I.kept (t' := tk) fun _ _ z => z, rfl, q⟩
        cases c with
        | ty n =>
          unfold RD at rc
          subst rc
          refine go (cv := .type n) r2 ?_
          dsimp only [isiR] at hb
          split at hb
          · rename_i e
            rw [e]
            cases hb
            exact F.isV cc D' G mD
          · split at hb
            · rename_i hn
              cases hb
              exact F.isT n hn cc D' mD
            · cases hb
        | cls c' =>
          unfold RD at rc
          obtain ⟨C, rfl, mC⟩ := rc
          refine go (cv := .ref C) r2 ?_
          cases hb
          exact F.isC cc c' D' C mD mC
        | _ => cases hb
      · cases ht
    · split at ht
      · rename_i cc fs eo
        split at ht
        rotate_left
        · cases ht
        rename_i ho
        cases ht
        obtain ⟨a, C, dx, xs, rfl, mC, hH, rl, hl⟩ := rx.ob S eo
        · obtain ⟨o1, o2, o3, o4, o5⟩ := F.obj cc C ho mC
          have ty : TyX X.K H (.ref a) (.ref C) := .base (.ins hH o1 o2 o3 o4 o5)
          cases c with
          | ty n =>
            unfold RD at rc
            subst rc
            dsimp only [isiR] at hb
            split at hb
            · rename_i hn
              cases hb
              exact call_isi pins s σ H _ us Q I r ⟨_, _, _, _, _, rfl, .ty n, ty, F.isT n hn cc C mC, q⟩
            · cases hb
          | cls c' =>
            unfold RD at rc
            obtain ⟨C', rfl, mC'⟩ := rc
            cases hb
            refine call_isi pins s σ H _ us Q I r ⟨_, _, _, _, _, rfl, .own C', ty, ?_, q⟩
            rw [F.isC cc c' C C' mC mC', CN.sub_obj ho]
          | _ => cases hb
      · cases ht
def rIsiD (K : PySem.W.Frag) (mg : Str → Option Value) : List V → Hp → VK → Prop := fun vs H Q => ∃ α s0 x c vx vc t b, vs = [vx, vc] ∧ RSt K mg H α s0 ∧ RD K mg H α x vx ∧ RD K mg H α c vc ∧ x.tyt s0 = some t ∧ isiR t c = some b ∧ Q (.bl b) H
theorem cr_isi (F : FX X.K X.mg) : CallR X (.builtin "isinstance") (rIsiD X.K X.mg) := by
  intro pins s σ H xs us Q I r h
  obtain ⟨α, s0, x, c, vx, vc, t, b, rfl, S, rx, rc, h1, h2, q⟩ := h
  exact call_isiD F I S rx rc r h1 h2 q
theorem ok_isi {K : PySem.W.Frag} {mg : Str → Option Value} : CallOk K mg fIsi (rIsiD K mg) := fun {α H s xs vs E Q} S rl h => by
  unfold fIsi at h
  split at h
  · split at h
    · rename_i t ht
      split at h
      · rename_i b hb
        obtain ⟨v, v2, rfl, l1, l2⟩ := rl.two_inv
        exact ⟨α, s, _, _, v, v2, t, b, rfl, S, l1, l2, ht, hb, wp_ok h S (RD.bl _)⟩
      · exact h.elim
    · exact h.elim
  · exact h.elim
/-- try: .. except c as e: y = e -/
def mTryAs (c : CN) (i j : Nat) (mb : MS) : MS := fun ρ s => match mb ρ s with
  | .er e ρ' s' => if e.c.isObj = true then .bad else if e.c.sub c = true then .nx ((ρ'.set j (some (.exc e.c e.fs))).set i none) s' else .er e ρ' s'
  | o => o
theorem set_as {β : Type} (l : List β) (i j : Nat) (u v : β) : ((l.set i v).set j v).set i u = (l.set j v).set i u := by
  by_cases h : i = j
  · subst h
    simp
  · rw [List.set_comm _ _ h, List.set_set]
theorem s_tryAs {x n y : Str} {body : List Stmt} {np p1 p2 p3 pos pos' : Pos} {mb : MS} (c : CN) (i j : Nat) (F : FX X.K X.mg) (hm : ∃ C, X.mg c.str = some (.ref C)) (hN : X.N.Nodup) (tk : Takes X W)
    (hb : ∀ (W : WX) (pn : List (Addr × Obj)) (xe : Value → Shared → Prop), Takes (X.tr pn xe) W → ISs (X.tr pn xe) W body mb) (hx : c.str = x := by rfl) (ho : c.isObj = false := by rfl)
    (hi : X.N[i]? = some n := by rfl) (hj : X.N[j]? = some y := by rfl) (hln : X.env.kindOf n = some .local := by rfl) (hv : Vis X.env.scope n := by first | exact Or.inl rfl | exact Or.inr (Or.inl rfl) | exact Or.inr (Or.inr rfl)) (hy : Loc X.env.scope y := by first | exact Or.inl rfl | exact Or.inr rfl)
    (hd : (n == ("__debug__" : Str)) = false := by decide) (hcd : (n == ("__classdict__" : Str)) = false := by decide) (hdx : (x == ("__debug__" : Str)) = false := by decide) (hg : Gl X x := by rfl) (hex : X.ex = [] := by rfl) (hs : X.stack = X.env :: X.outer := by rfl) (hf : X.env.frame = some X.env.locals := by rfl)
    (hfy : X.fn y = true ∨ X.env.scope.names.lookup y = some .local := by first | exact .inl rfl | exact .inr rfl | assumption) (hsw : swapsWith (.Name n p2) (some (.Name y p1)) p3.line X.env = pure false := by rfl) :
    IS X W (.Try body [.ExceptHandler (some (.Name x np)) (some n) [.Assign [.Name y p1] (.Name n p2) p3] pos'] [] [] pos) (mTryAs c i j mb) := by
  subst hx
  obtain ⟨C, mC⟩ := hm
  refine PS_imp (try_keep (c := .ref C) (i := i) (j := j) (tb := fun W => rdS X.K X.mg W mb) hex hs hf hN hi hln ⟨hg, hdx, .inl mC⟩ tk hb fun a oe pn => ?_) fun D σ H ⟨α, ρ, s, S, h⟩ => ⟨α, ρ, s, S, ?_⟩
  · refine PS_imp (ps_set (X := X.suite a ((a, oe) :: pn)) (i := j) (te := fun σ H Q => ∃ v, σ[i]? = some (some v) ∧ Q v H) hN hj hy (PE_imp (pe_var (X := X.suite a ((a, oe) :: pn)) hi hv hd hcd) fun _ _ _ h => h) hsw hfy) fun D σ H h => h
  · unfold mTryAs at h
    cases e : mb ρ s with
    | er x ρ' s' =>
      rw [e] at h
      dsimp only at h
      split at h
      · exact h.elim
      · rename_i no
        have nx : x.c.isObj = false := by simpa using no
        intro α' H' σ' D' dd g S' mD xd
        refine ⟨x.c.sub c, F.exm x.c c D' C nx ho mD mC, fun hb => ⟨D', rfl, fun a na => ?_⟩, fun hb => ?_⟩
        · rw [if_pos hb] at h
          have gl := Gr.laid (o := ExOb D' dd a) S'.st na
          have sl := S'.st.laid (o := ExOb D' dd a) na
          have S2 := S'.gr gl sl
          have rd : RD X.K X.mg (upd H' a (ExOb D' dd a)) α' (.exc x.c x.fs) (.ref a) := by
            unfold RD
            obtain ⟨xs, rl, k1, k2⟩ := xd
            exact ⟨a, D', dd, rfl, S'.st.notin na, mD, upd_same, xs, rl.gr gl.toGw, k1, fun z => by
              obtain ⟨y, e1, e2, e3⟩ := k2 z
              exact ⟨y, e1, e2, by rw [upd_ne (ne_of_none e3 na)]; exact e3⟩⟩
          have S3 := (S2.set j rd).unset i
          rw [set_as]
          exact h α' _ _ (g.trans gl) S3
        · rw [if_neg (by rw [hb]; simp)] at h
          exact h α' H' σ' D' dd g S' mD xd
    | nx ρ' s' => rw [e] at h; exact h
    | rt d s' => rw [e] at h; exact h
    | bk ρ' s' => rw [e] at h; exact h
    | ct ρ' s' => rw [e] at h; exact h
    | bad => rw [e] at h; exact h.elim
end
end LY
/-! LayJ: * and //, zip, enumerate. -/
namespace LY
open PySem PySem.Spec PyProof.Rows L2
def wide : Nat := 10 ^ 200
theorem wide_bits {i : Int} (h : i.natAbs ≤ wide) : i.natAbs.log2 < 2000 := by
  have h2 : i.natAbs < 2 ^ 2000 := Nat.lt_of_le_of_lt h (by unfold wide; decide)
  by_cases h0 : i.natAbs = 0
  · rw [h0]; decide
  · exact (Nat.log2_lt h0).mpr h2
def oMul : O2 := fun x y s => match x, y with
  | .int i, .int j => if i.natAbs ≤ wide ∧ j.natAbs ≤ wide then .ok (.int (i * j)) s else .bad
  | _, _ => .bad
def oDiv : O2 := fun x y s => match x, y with
  | .int i, .int j => if 0 < j ∧ j.natAbs ≤ wide then .ok (.int (i / j)) s else .bad
  | _, _ => .bad
section
variable {K : PySem.W.Frag} {mg : Str → Option Value}
theorem ok_mul : OpOk K mg oMul (rI CMulW fun i j => .int (i * j)) := fun {α H s x y vx vy E Q} S rx ry h => by
  unfold oMul at h
  split at h
  · split at h
    · rename_i c
      refine ⟨_, _, rx.int_inv, ry.int_inv, ?_, wp_ok h S (RD.int _)⟩
      have a := wide_bits c.1
      have b := wide_bits c.2
      unfold CMulW
      omega
    · exact h.elim
  · exact h.elim
theorem ok_div : OpOk K mg oDiv (rI CDivW fun i j => .int (i / j)) := fun {α H s x y vx vy E Q} S rx ry h => by
  unfold oDiv at h
  split at h
  · split at h
    · rename_i c
      refine ⟨_, _, rx.int_inv, ry.int_inv, ⟨c.1, ?_⟩, wp_ok h S (RD.int _)⟩
      have b := wide_bits c.2
      omega
    · exact h.elim
  · exact h.elim
end
/-! what two lists, a list and its places, hand out -/
def enD (ds : List D) : List D := ds.zipIdx.map fun p => .tup [.int (p.2 : Nat), p.1]
def zipD (ds es : List D) : List D := (ds.zip es).map fun p => .tup [p.1, p.2]
def Gd.at (x : D) (ds : List D) : Gd := match x with
  | .ref n => [(n, ds)]
  | _ => []
def iEn (mr : MA) : MI := fun ρ s => (mr ρ s).bind fun xs s => match xs with
  | [x] => (match x.ls s with
    | some ds => .ok (enD ds, Gd.at x ds) s
    | none => .bad)
  | _ => .bad
/-- two lists, or two tuples -/
def iZp (mr : MA) : MI := fun ρ s => (mr ρ s).bind fun xs s => match xs with
  | [.tup ds, .tup es] => .ok (zipD ds es, []) s
  | [x, y] => (match x.ls s, y.ls s with
    | some ds, some es => .ok (zipD ds es, Gd.at x ds ++ Gd.at y es) s
    | _, _ => .bad)
  | _ => .bad
theorem enD_get {ds : List D} {i : Nat} (h : i < ds.length) : (enD ds)[i]? = some (.tup [.int (i : Nat), ds[i]]) := by
  unfold enD
  rw [List.getElem?_map, List.getElem?_zipIdx, List.getElem?_eq_getElem h]
  simp
theorem enD_len {ds : List D} : (enD ds).length = ds.length := by unfold enD; simp
theorem zipD_get {ds es : List D} {i : Nat} (h : i < ds.length) (h' : i < es.length) : (zipD ds es)[i]? = some (.tup [ds[i], es[i]]) := by
  unfold zipD
  have hz : (ds.zip es)[i]? = some (ds[i], es[i]) := List.getElem?_zip_eq_some.mpr ⟨List.getElem?_eq_getElem h, List.getElem?_eq_getElem h'⟩
  rw [List.getElem?_map, hz]
  rfl
theorem zipD_len {ds es : List D} : (zipD ds es).length = min ds.length es.length := by unfold zipD; simp
section
variable {K : PySem.W.Frag} {mg : Str → Option Value} {α : Al} {H : Hp} {s : Store} {x y : D} {ds es : List D} {v vy : V}
/-- a list, now and later -/
theorem ls_later (S : RSt K mg H α s) (r : RD K mg H α x v) (e : x.ls s = some ds) : ∃ a, v = .ref a ∧ ∀ α' H' s', Gw α H α' H' → RSt K mg H' α' s' → gdOk (Gd.at x ds) s' → ∃ xs, SqL K H' a xs ∧ RL K mg H' α' ds xs := by
  cases x with
  | fl es =>
    cases e
    obtain ⟨a, xs, ev, t, l⟩ := (show ∃ a xs, v = .ref a ∧ LstAt K H α a xs ∧ RL K mg H α ds xs from by unfold RD at r; exact r)
    exact ⟨a, ev, fun α' H' s' g _ _ => ⟨xs, (t.gr g).sq, l.gr g⟩⟩
  | ref n =>
    obtain ⟨a, xs, ev, ea, _, _⟩ := r.ref_inv S (lstAt_some e)
    refine ⟨a, ev, fun α' H' s' g S' gk => ?_⟩
    obtain ⟨ys, hy, l⟩ := S'.cell n _ a (gk (n, ds) (List.mem_singleton.mpr rfl)) (g.at ea)
    exact ⟨ys, SqL.of hy, l⟩
  | _ => cases e
theorem gd_app {g1 g2 : Gd} {s : Store} (h : gdOk (g1 ++ g2) s) : gdOk g1 s ∧ gdOk g2 s := ⟨fun p m => h p (List.mem_append_left _ m), fun p m => h p (List.mem_append_right _ m)⟩
theorem jo_en (S : RSt K mg H α s) (r : RD K mg H α x v) (e : x.ls s = some ds) : ∃ a, v = .ref a ∧ (∃ xs, SqL K H a xs) ∧ JOk K mg α H (Ite K a) (enD ds) (Gd.at x ds) := by
  obtain ⟨a, ev, lt⟩ := ls_later S r e
  refine ⟨a, ev, ?_, ⟨fun i α' H' s' g st gk hi => ?_, fun i α' H' s' g st gk hi => ?_⟩⟩
  · obtain ⟨p, xs, ep, hx, _⟩ := r.lst S e
    rw [ev] at ep
    cases ep
    exact ⟨xs, hx⟩
  · rw [enD_len] at hi
    obtain ⟨xs, hx, l⟩ := lt α' H' s' g st gk
    obtain ⟨u, h1, h2⟩ := l.get (List.getElem?_eq_getElem hi)
    refine ⟨⟨xs, u, hx, h1⟩, fun z H'' ⟨T, w, ez, hT, eH, y⟩ => ?_⟩
    have e2 := y xs hx
    rw [h1] at e2
    cases e2
    subst eH ez
    exact ⟨Gr.laid st hT, st.laid hT, _, enD_get hi, rd_tup st hT (RL.cons (RD.int _) (RL.one h2))⟩
  · rw [enD_len] at hi
    obtain ⟨xs, hx, l⟩ := lt α' H' s' g st gk
    exact ⟨xs, hx, by rw [← l.length]; exact hi⟩
theorem jo_zp (S : RSt K mg H α s) (rx : RD K mg H α x v) (ry : RD K mg H α y vy) (e : x.ls s = some ds) (e' : y.ls s = some es) : ∃ a b, v = .ref a ∧ vy = .ref b ∧ (∃ xs, SqL K H a xs) ∧ (∃ ys, SqL K H b ys) ∧ JOk K mg α H (Itz K a b) (zipD ds es) (Gd.at x ds ++ Gd.at y es) := by
  obtain ⟨a, ev, lt⟩ := ls_later S rx e
  obtain ⟨b, ew, lu⟩ := ls_later S ry e'
  refine ⟨a, b, ev, ew, ?_, ?_, ⟨fun i α' H' s' g st gk hi => ?_, fun i α' H' s' g st gk hi => ?_⟩⟩
  · obtain ⟨p, xs, ep, hx, _⟩ := rx.lst S e
    rw [ev] at ep
    cases ep
    exact ⟨xs, hx⟩
  · obtain ⟨p, xs, ep, hx, _⟩ := ry.lst S e'
    rw [ew] at ep
    cases ep
    exact ⟨xs, hx⟩
  · rw [zipD_len] at hi
    obtain ⟨xs, hx, l⟩ := lt α' H' s' g st (gd_app gk).1
    obtain ⟨ys, hy, k⟩ := lu α' H' s' g st (gd_app gk).2
    obtain ⟨u, h1, h2⟩ := l.get (List.getElem?_eq_getElem (show i < ds.length by omega))
    obtain ⟨w, h3, h4⟩ := k.get (List.getElem?_eq_getElem (show i < es.length by omega))
    refine ⟨⟨xs, ys, u, w, hx, hy, h1, h3⟩, fun z H'' ⟨T, w1, w2, ez, hT, eH, y1, y2⟩ => ?_⟩
    have e2 := y1 xs hx
    rw [h1] at e2
    cases e2
    have e3 := y2 ys hy
    rw [h3] at e3
    cases e3
    subst eH ez
    exact ⟨Gr.laid st hT, st.laid hT, _, zipD_get (by omega) (by omega), rd_tup st hT (RL.cons h2 (RL.one h4))⟩
  · rw [zipD_len] at hi
    obtain ⟨xs, hx, l⟩ := lt α' H' s' g st (gd_app gk).1
    obtain ⟨ys, hy, k⟩ := lu α' H' s' g st (gd_app gk).2
    refine ⟨xs, ys, hx, hy, ?_⟩
    rw [← l.length, ← k.length]
    omega
theorem jo_zpT (rx : RD K mg H α (.tup ds) v) (ry : RD K mg H α (.tup es) vy) : ∃ a b, v = .ref a ∧ vy = .ref b ∧ (∃ xs, SqT K H a xs) ∧ (∃ ys, SqT K H b ys) ∧ JOk K mg α H (RZ.ItzT K a b) (zipD ds es) [] := by
  unfold RD at rx ry
  obtain ⟨a, xs, ev, t, l⟩ := rx
  obtain ⟨b, ys, ew, u, k⟩ := ry
  refine ⟨a, b, ev, ew, ⟨xs, t.sq⟩, ⟨ys, u.sq⟩, ⟨fun i α' H' s' g st gk hi => ?_, fun i α' H' s' g st gk hi => ?_⟩⟩
  · rw [zipD_len] at hi
    obtain ⟨z1, h1, h2⟩ := (l.gr g).get (List.getElem?_eq_getElem (show i < ds.length by omega))
    obtain ⟨w, h3, h4⟩ := (k.gr g).get (List.getElem?_eq_getElem (show i < es.length by omega))
    refine ⟨⟨xs, ys, z1, w, (t.gr g).sq, (u.gr g).sq, h1, h3⟩, fun z H'' ⟨T, w1, w2, ez, hT, eH, y1, y2⟩ => ?_⟩
    have e2 := y1 xs (t.gr g).sq
    rw [h1] at e2
    cases e2
    have e3 := y2 ys (u.gr g).sq
    rw [h3] at e3
    cases e3
    subst eH ez
    exact ⟨Gr.laid st hT, st.laid hT, _, zipD_get (by omega) (by omega), rd_tup st hT (RL.cons h2 (RL.one h4))⟩
  · rw [zipD_len] at hi
    refine ⟨xs, ys, (t.gr g).sq, (u.gr g).sq, ?_⟩
    rw [← l.length, ← k.length]
    omega
end
section
variable {X : Cx} {W : WX} {e e2 : Expr} {mr : MA} {p pos tpos : Pos} {elts : List Expr} {kk : Nat}
theorem i_enum (hm : X.mg "enumerate" = none) (ha : IA X W [e] mr) (hg : Gl X "enumerate" := by rfl) (hs : starEach [e] X.env = [(false, eval e X.env)] := by rfl) : II X W (.Tuple elts kk tpos) (.Call (.Name "enumerate" p) [e] [] pos) (iEn mr) :=
  PI_imp (pi_enum hg hm ha hs) fun σ H Rr ⟨α, ρ, s, S, h⟩ => ⟨α, ρ, s, S, rd_thenA S h fun α1 H1 s1 ds vs S1 rl g1 h1 => by
    split at h1
    · split at h1
      · rename_i x es hx
        obtain ⟨v, rfl, r⟩ := rl.one_inv
        obtain ⟨a, rfl, ⟨xs, q⟩, jo⟩ := jo_en S1.st r hx
        exact ⟨a, xs, rfl, q, h1 α1 H1 _ (Gr.refl _ _) S1.st jo⟩
      · exact h1.elim
    · exact h1.elim⟩
theorem i_zip (hm : X.mg "zip" = none) (ha : IA X W [e, e2] mr) (hg : Gl X "zip" := by rfl) (hs : starEach [e, e2] X.env = (false, eval e X.env) :: starEach [e2] X.env := by rfl) (hpl : (backTo pos (starEach [e2] X.env)).any (·.1) = false := by rfl) :
    II X W (.Tuple elts kk tpos) (.Call (.Name "zip" p) [e, e2] [] pos) (iZp mr) :=
  PI_imp (RZ.pi_zipA hg hm ha hs hpl) fun σ H Rr ⟨α, ρ, s, S, h⟩ => ⟨α, ρ, s, S, rd_thenA S h fun α1 H1 s1 ds vs S1 rl g1 h1 => by
    split at h1
    · obtain ⟨v, w, rfl, r1, r2⟩ := rl.two_inv
      obtain ⟨a, b, rfl, rfl, ⟨xs, q1⟩, ⟨ys, q2⟩, jo⟩ := jo_zpT r1 r2
      exact ⟨a, b, xs, ys, rfl, .inr ⟨q1, q2, h1 α1 H1 _ (Gr.refl _ _) S1.st jo⟩⟩
    · split at h1
      · rename_i hx hy
        obtain ⟨v, w, rfl, r1, r2⟩ := rl.two_inv
        obtain ⟨a, b, rfl, rfl, ⟨xs, q1⟩, ⟨ys, q2⟩, jo⟩ := jo_zp S1.st r1 r2 hx hy
        exact ⟨a, b, xs, ys, rfl, .inl ⟨q1, q2, h1 α1 H1 _ (Gr.refl _ _) S1.st jo⟩⟩
      · exact h1.elim
    · exact h1.elim⟩
end
end LY
/-! LayK: plain mathematics of the functions: data that compares, what loops do, results seen from outside. -/
namespace LY
open PySem PySem.Spec PyProof.Rows L2
/-! ### steps -/
section
variable {β γ : Type} {a : β} {s : Store} {e : Exn} {ρ : Envt} {d : D}
theorem bind_ok {k : β → Store → R γ} : (R.ok a s).bind k = k a s := rfl
theorem bind_er {k : β → Store → R γ} : (R.er e s : R β).bind k = .er e s := rfl
theorem bind_bad {k : β → Store → R γ} : (R.bad : R β).bind k = .bad := rfl
theorem out_ok {k : β → Store → Out} : (R.ok a s).out ρ k = k a s := rfl
theorem out_er {k : β → Store → Out} : (R.er e s : R β).out ρ k = .er e ρ s := rfl
theorem out_bad {k : β → Store → Out} : (R.bad : R β).out ρ k = .bad := rfl
theorem seq_nx {k : Envt → Store → Out} : (Out.nx ρ s).seq k = k ρ s := rfl
theorem seq_rt {k : Envt → Store → Out} : (Out.rt d s).seq k = .rt d s := rfl
theorem seq_er {k : Envt → Store → Out} : (Out.er e ρ s).seq k = .er e ρ s := rfl
theorem seq_bk {k : Envt → Store → Out} : (Out.bk ρ s).seq k = .bk ρ s := rfl
theorem seq_ct {k : Envt → Store → Out} : (Out.ct ρ s).seq k = .ct ρ s := rfl
theorem only_nx : (Out.nx ρ s).only = .nx ρ s := rfl
theorem only_er : (Out.er e ρ s).only = .er e ρ s := rfl
theorem turn_nx {k : Envt → Store → Out} : (Out.nx ρ s).turn k = k ρ s := rfl
theorem turn_ct {k : Envt → Store → Out} : (Out.ct ρ s).turn k = k ρ s := rfl
theorem turn_bk {k : Envt → Store → Out} : (Out.bk ρ s).turn k = .nx ρ s := rfl
theorem turn_rt {k : Envt → Store → Out} : (Out.rt d s).turn k = .rt d s := rfl
theorem turn_er {k : Envt → Store → Out} : (Out.er e ρ s).turn k = .er e ρ s := rfl
theorem fin_nx : (Out.nx ρ s).fin = .ok .non s := rfl
theorem fin_rt : (Out.rt d s).fin = .ok d s := rfl
theorem fin_er : (Out.er e ρ s).fin = .er e s := rfl
theorem ne_ok : (R.ok a s).ne = .ok a s := rfl
end
/-! ### data that compares -/
mutual
def D.dat : D → Nat → Bool
  | .non, _ => true
  | .bl _, _ => true
  | .int _, _ => true
  | .str x, _ => PyData.strOk x
  | .tup ds, k => decide (0 < k) && datL ds (k - 1)
  | .fl ds, k => decide (0 < k) && datL ds (k - 1)
  | _, _ => false
def datL : List D → Nat → Bool
  | [], _ => true
  | d :: ds, k => d.dat k && datL ds k
end
mutual
theorem dat_py : ∀ (d : D) (k : Nat), d.dat k = true → ∃ p, d.py = some p ∧ p.canLay0 = true ∧ p.depth ≤ k
  | .non, k, _ => ⟨.none, by unfold D.py; rfl, by unfold PyData.canLay0; rfl, by unfold PyData.depth; omega⟩
  | .bl b, k, _ => ⟨.bool b, by unfold D.py; rfl, by unfold PyData.canLay0; rfl, by unfold PyData.depth; omega⟩
  | .int b, k, _ => ⟨.int b, by unfold D.py; rfl, by unfold PyData.canLay0; rfl, by unfold PyData.depth; omega⟩
  | .str b, k, h => ⟨.str b, by unfold D.py; rfl, by unfold D.dat at h; unfold PyData.canLay0; exact h, by unfold PyData.depth; omega⟩
  | .tup ds, k, h => by
    unfold D.dat at h
    obtain ⟨h1, h2⟩ := Bool.and_eq_true_iff.mp h
    have h1 := of_decide_eq_true h1
    obtain ⟨ps, e, c, q⟩ := datL_py ds (k - 1) h2
    exact ⟨.tuple ps, by unfold D.py; rw [e]; rfl, by unfold PyData.canLay0; exact c, by unfold PyData.depth; omega⟩
  | .fl ds, k, h => by
    unfold D.dat at h
    obtain ⟨h1, h2⟩ := Bool.and_eq_true_iff.mp h
    have h1 := of_decide_eq_true h1
    obtain ⟨ps, e, c, q⟩ := datL_py ds (k - 1) h2
    exact ⟨.list ps, by unfold D.py; rw [e]; rfl, by unfold PyData.canLay0; exact c, by unfold PyData.depth; omega⟩
  | .ref _, _, h => by unfold D.dat at h; cases h
  | .ty _, _, h => by unfold D.dat at h; cases h
  | .cls _, _, h => by unfold D.dat at h; cases h
  | .ins _ _, _, h => by unfold D.dat at h; cases h
  | .exc _ _, _, h => by unfold D.dat at h; cases h
  | .fd _ _, _, h => by unfold D.dat at h; cases h
theorem datL_py : ∀ (ds : List D) (k : Nat), datL ds k = true → ∃ ps, pyL ds = some ps ∧ PyData.canLayAll0 ps = true ∧ PyData.depthAll ps ≤ k
  | [], k, _ => ⟨[], by unfold pyL; rfl, by unfold PyData.canLayAll0; rfl, by unfold PyData.depthAll; omega⟩
  | d :: ds, k, h => by
    unfold datL at h
    obtain ⟨h1, h2⟩ := Bool.and_eq_true_iff.mp h
    obtain ⟨p, e, c, q⟩ := dat_py d k h1
    obtain ⟨ps, e', c', q'⟩ := datL_py ds k h2
    exact ⟨p :: ps, by unfold pyL; rw [e, e'], by unfold PyData.canLayAll0; rw [c, c']; rfl, by unfold PyData.depthAll; omega⟩
end
mutual
theorem dat_mono : ∀ (d : D) {j k : Nat}, d.dat j = true → j ≤ k → d.dat k = true
  | .non, _, _, h, _ => by unfold D.dat; rfl
  | .bl _, _, _, h, _ => by unfold D.dat; rfl
  | .int _, _, _, h, _ => by unfold D.dat; rfl
  | .str _, _, _, h, _ => by unfold D.dat at h ⊢; exact h
  | .tup ds, j, k, h, l => by
    unfold D.dat at h ⊢
    obtain ⟨h1, h2⟩ := Bool.and_eq_true_iff.mp h
    have h1 := of_decide_eq_true h1
    rw [datL_mono ds h2 (by omega), decide_eq_true (by omega)]
    rfl
  | .fl ds, j, k, h, l => by
    unfold D.dat at h ⊢
    obtain ⟨h1, h2⟩ := Bool.and_eq_true_iff.mp h
    have h1 := of_decide_eq_true h1
    rw [datL_mono ds h2 (by omega), decide_eq_true (by omega)]
    rfl
  | .ref _, _, _, h, _ => by unfold D.dat at h; cases h
  | .ty _, _, _, h, _ => by unfold D.dat at h; cases h
  | .cls _, _, _, h, _ => by unfold D.dat at h; cases h
  | .ins _ _, _, _, h, _ => by unfold D.dat at h; cases h
  | .exc _ _, _, _, h, _ => by unfold D.dat at h; cases h
  | .fd _ _, _, _, h, _ => by unfold D.dat at h; cases h
theorem datL_mono : ∀ (ds : List D) {j k : Nat}, datL ds j = true → j ≤ k → datL ds k = true
  | [], _, _, _, _ => by unfold datL; rfl
  | d :: ds, j, k, h, l => by
    unfold datL at h ⊢
    obtain ⟨h1, h2⟩ := Bool.and_eq_true_iff.mp h
    rw [dat_mono d h1 l, datL_mono ds h2 l]
    rfl
end
theorem datL_all {ds : List D} {k : Nat} : datL ds k = true ↔ ∀ d ∈ ds, d.dat k = true := by
  induction ds with
  | nil => unfold datL; simp
  | cons d ds ih => unfold datL; rw [Bool.and_eq_true_iff, ih]; simp
/-- x == y -/
def D.eqv (x y : D) : Bool := match x.py, y.py with
  | some p, some q => PyData.eqv p q
  | _, _ => false
theorem pyS_py {x : D} {s : Store} {p : PyData} (h : x.py = some p) : x.pyS s = some p := by
  cases x with
  | ref n => unfold D.py at h; cases h
  | _ => exact h
theorem shaped_of {p : PyData} (h : p.canLay0 = true) (h2 : p.depth ≤ 64) : SeqAt.shaped p = true := by
  unfold SeqAt.shaped
  rw [h, decide_eq_true h2]
  rfl
theorem oEq_dat {neg : Bool} {x y : D} {s : Store} (hx : x.dat 40 = true) (hy : y.dat 40 = true) : oEqN neg x y s = .ok (.bl (if neg then !x.eqv y else x.eqv y)) s := by
  obtain ⟨p, e, c, q⟩ := dat_py x _ hx
  obtain ⟨p', e', c', q'⟩ := dat_py y _ hy
  unfold oEqN D.eqv
  rw [pyS_py e, pyS_py e', e, e']
  dsimp only
  rw [if_pos ⟨shaped_of c (by omega), shaped_of c' (by omega)⟩]
def anyEq (ds : List D) (x : D) : Bool := ds.any fun z => z.eqv x
theorem any_py {a : PyData} {x : D} (h : x.py = some a) : ∀ {ds : List D} {bs : List PyData}, pyL ds = some bs → (bs.any fun z => PyData.eqv z a) = anyEq ds x
  | [], bs, e => by unfold pyL at e; cases e; rfl
  | d :: ds, bs, e => by
    unfold pyL at e
    cases e1 : d.py with
    | none => rw [e1] at e; cases e
    | some p =>
      cases e2 : pyL ds with
      | none => rw [e1, e2] at e; cases e
      | some ps =>
        rw [e1, e2] at e
        cases e
        have := any_py h e2
        unfold anyEq at this ⊢
        rw [List.any_cons, List.any_cons, this]
        unfold D.eqv
        rw [e1, h]
theorem oIn_dat {neg : Bool} {x y : D} {ds : List D} {s : Store} (hs : y.seq s = some ds) (hx : x.dat 40 = true) (hy : datL ds 40 = true) : oInN neg x y s = .ok (.bl (if neg then !anyEq ds x else anyEq ds x)) s := by
  obtain ⟨p, e, c, q⟩ := dat_py x _ hx
  obtain ⟨ps, e', c', q'⟩ := datL_py ds _ hy
  unfold oInN
  rw [hs, e]
  show (match some p, pyL ds with
  | some a, some bs => _
  | _, _ => _) = _
  rw [e']
  dsimp only
  rw [if_pos ⟨shaped_of c (by omega), shaped_of (by unfold PyData.canLay0; exact c') (by unfold PyData.depth; omega)⟩, any_py e e']
/-! ### a result that is the same from outside -/
mutual
theorem Fz.same {s1 : Store} {n : Nat} : ∀ (d : D), d.lo n = true → Fz s1 n d d
  | .fl es, h => by unfold D.lo at h; unfold Fz; exact .inl ⟨es, rfl, FzL.same es h⟩
  | .tup es, h => by unfold D.lo at h; unfold Fz; exact ⟨es, rfl, FzL.same es h⟩
  | .ins c es, h => by unfold D.lo at h; unfold Fz; exact .inl ⟨es, rfl, FzL.same es h⟩
  | .non, h => by unfold Fz; exact ⟨rfl, h⟩
  | .bl _, h => by unfold Fz; exact ⟨rfl, h⟩
  | .int _, h => by unfold Fz; exact ⟨rfl, h⟩
  | .str _, h => by unfold Fz; exact ⟨rfl, h⟩
  | .ref _, h => by unfold Fz; exact ⟨rfl, h⟩
  | .ty _, h => by unfold Fz; exact ⟨rfl, h⟩
  | .cls _, h => by unfold Fz; exact ⟨rfl, h⟩
  | .exc _ _, h => by unfold Fz; exact ⟨rfl, h⟩
  | .fd _ _, h => by unfold Fz; exact ⟨rfl, h⟩
theorem FzL.same {s1 : Store} {n : Nat} : ∀ (ds : List D), loL n ds = true → FzL s1 n ds ds
  | [], _ => by unfold FzL; rfl
  | d :: ds, h => by
    unfold loL at h
    obtain ⟨h1, h2⟩ := Bool.and_eq_true_iff.mp h
    unfold FzL
    exact ⟨d, ds, rfl, Fz.same d h1, FzL.same ds h2⟩
end
theorem Ref.bad {n : Nat} {r : R D} : Ref n r .bad := by
  unfold Ref
  cases r <;> trivial
theorem Ref.ok {n : Nat} {d : D} {s : Store} (hn : n ≤ s.length) (hs : stLo s s.length) (hd : d.lo s.length = true) : Ref n (.ok d s) (.ok d s) := ⟨hn, List.take_length, hs, Fz.same d hd⟩
theorem Ref.er {n : Nat} {e : Exn} {s : Store} (hn : n ≤ s.length) (hs : stLo s s.length) (hd : loL s.length e.fs = true) : Ref n (.er e s) (.er e s) := ⟨rfl, hn, List.take_length, hs, hd⟩
/-- the store as it was, something new behind it -/
theorem Ref.okS {n : Nat} {d e : D} {s s1 : Store} (hn : n = s.length) (hs : stLo s s.length) (ht : s1.take s.length = s) (hd : Fz s1 s.length d e) : Ref n (.ok d s1) (.ok e s) := ⟨Nat.le_of_eq hn, ht, hs, hd⟩
theorem Ref.erS {n : Nat} {e : Exn} {s s1 : Store} (hn : n = s.length) (hs : stLo s s.length) (ht : s1.take s.length = s) (hd : e.fs = []) : Ref n (.er e s1) (.er e s) := ⟨rfl, Nat.le_of_eq hn, ht, hs, by rw [hd]; unfold loL; rfl⟩
mutual
theorem dat_lo {n : Nat} : ∀ (d : D) {k : Nat}, d.dat k = true → d.lo n = true
  | .non, _, _ => by unfold D.lo; rfl
  | .bl _, _, _ => by unfold D.lo; rfl
  | .int _, _, _ => by unfold D.lo; rfl
  | .str _, _, _ => by unfold D.lo; rfl
  | .tup ds, k, h => by unfold D.dat at h; unfold D.lo; exact datL_lo ds (Bool.and_eq_true_iff.mp h).2
  | .fl ds, k, h => by unfold D.dat at h; unfold D.lo; exact datL_lo ds (Bool.and_eq_true_iff.mp h).2
  | .ref _, _, h => by unfold D.dat at h; cases h
  | .ty _, _, h => by unfold D.dat at h; cases h
  | .cls _, _, h => by unfold D.dat at h; cases h
  | .ins _ _, _, h => by unfold D.dat at h; cases h
  | .exc _ _, _, h => by unfold D.dat at h; cases h
  | .fd _ _, _, h => by unfold D.dat at h; cases h
theorem datL_lo {n : Nat} : ∀ (ds : List D) {k : Nat}, datL ds k = true → loL n ds = true
  | [], _, _ => by unfold loL; rfl
  | d :: ds, k, h => by
    unfold datL at h
    obtain ⟨h1, h2⟩ := Bool.and_eq_true_iff.mp h
    unfold loL
    rw [dat_lo d h1, datL_lo ds h2]
    rfl
end
theorem loL_all {ds : List D} {n : Nat} : loL n ds = true ↔ ∀ d ∈ ds, d.lo n = true := by
  induction ds with
  | nil => unfold loL; simp
  | cons d ds ih => unfold loL; rw [Bool.and_eq_true_iff, ih]; simp
mutual
theorem lo_mono {n m : Nat} (h : n ≤ m) : ∀ (d : D), d.lo n = true → d.lo m = true
  | .ref k, z => by unfold D.lo at z ⊢; exact decide_eq_true (Nat.lt_of_lt_of_le (of_decide_eq_true z) h)
  | .tup ds, z => by unfold D.lo at z ⊢; exact loL_mono h ds z
  | .fl ds, z => by unfold D.lo at z ⊢; exact loL_mono h ds z
  | .ins _ ds, z => by unfold D.lo at z ⊢; exact loL_mono h ds z
  | .exc _ ds, z => by unfold D.lo at z ⊢; exact loL_mono h ds z
  | .fd ks vs, z => by
    unfold D.lo at z ⊢
    obtain ⟨h1, h2⟩ := Bool.and_eq_true_iff.mp z
    rw [loL_mono h ks h1, loL_mono h vs h2]
    rfl
  | .non, _ => by unfold D.lo; rfl
  | .bl _, _ => by unfold D.lo; rfl
  | .int _, _ => by unfold D.lo; rfl
  | .str _, _ => by unfold D.lo; rfl
  | .ty _, _ => by unfold D.lo; rfl
  | .cls _, _ => by unfold D.lo; rfl
theorem loL_mono {n m : Nat} (h : n ≤ m) : ∀ (ds : List D), loL n ds = true → loL m ds = true
  | [], _ => by unfold loL; rfl
  | d :: ds, z => by
    unfold loL at z ⊢
    obtain ⟨h1, h2⟩ := Bool.and_eq_true_iff.mp z
    rw [lo_mono h d h1, loL_mono h ds h2]
    rfl
end
theorem cell_mono {n m : Nat} (h : n ≤ m) {c : Cell} (z : c.lo n = true) : c.lo m = true := by
  cases c with
  | lst ds => exact loL_mono h ds z
  | ins c fs => exact loL_mono h fs z
  | dict ks vs =>
    obtain ⟨h1, h2⟩ := Bool.and_eq_true_iff.mp z
    show (loL m ks && loL m vs) = true
    rw [loL_mono h ks h1, loL_mono h vs h2]
    rfl
  | dead => rfl
theorem stLo_push {s : Store} {c : Cell} (h : stLo s s.length) (hc : c.lo (s.length + 1) = true) : stLo (s ++ [c]) (s ++ [c]).length := fun d m => by
  rw [List.length_append, List.length_singleton]
  rcases List.mem_append.mp m with m | m
  · exact cell_mono (Nat.le_succ _) (h d m)
  · rw [List.mem_singleton.mp m]; exact hc
theorem stLo_set {s : Store} {c : Cell} {k : Nat} (h : stLo s s.length) (hc : c.lo s.length = true) : stLo (s.set k c) (s.set k c).length := fun d m => by
  rw [List.length_set]
  rcases List.mem_or_eq_of_mem_set m with m | m
  · exact h d m
  · rw [m]; exact hc
/-! ### loops -/
theorem gd_nil {s : Store} : gdOk [] s := fun p m => nomatch m
theorem gd_one {n : Nat} {ds : List D} {s : Store} : gdOk [(n, ds)] s ↔ s[n]? = some (.lst ds) := ⟨fun h => h (n, ds) (List.mem_singleton.mpr rfl), fun h p m => by rw [List.mem_singleton.mp m]; exact h⟩
/-- a comprehension whose tests and elements only look: k says what stays, what comes -/
theorem lcL_pure {gd : Gd} {js : List Nat} {mt : MT} {me : ME} {ρ0 : Envt} {s : Store} (hg : gdOk gd s) (t : D → Bool) (f : D → D) : ∀ {ds : List D}, (∀ d ∈ ds, ∃ ρ, tgE js d ρ0 = some ρ ∧ mt ρ s = .ok (t d) s ∧ (t d = true → me ρ s = .ok (f d) s)) → lcL gd js mt me ρ0 ds s = .ok ((ds.filter t).map f) s
  | [], _ => by unfold lcL; rw [if_pos hg]; rfl
  | d :: ds, h => by
    obtain ⟨ρ, e1, e2, e3⟩ := h d List.mem_cons_self
    have ih := lcL_pure hg t f (ds := ds) fun x m => h x (List.mem_cons_of_mem _ m)
    unfold lcL
    rw [if_pos hg, e1]
    dsimp only
    rw [e2, ne_ok, bind_ok]
    cases ht : t d with
    | false =>
      rw [if_neg (by simp), ih, List.filter_cons_of_neg (by rw [ht]; simp)]
    | true =>
      rw [if_pos rfl, e3 ht, ne_ok, bind_ok, ih, bind_ok, List.filter_cons_of_pos ht]
      rfl
theorem lc_pure {vs js : List Nat} {mi : MI} {mt : MT} {me : ME} {ρ : Envt} {s : Store} {ds : List D} {gd : Gd} (hi : mi ρ s = .ok (ds, gd) s) (hl : ds.length ≤ big) (hg : gdOk gd s) (t : D → Bool) (f : D → D)
    (h : ∀ d ∈ ds, ∃ ρ', tgE js d (wipeR ρ vs) = some ρ' ∧ mt ρ' s = .ok (t d) s ∧ (t d = true → me ρ' s = .ok (f d) s)) : mLc vs js mi mt me ρ s = .ok (.fl ((ds.filter t).map f)) s := by
  unfold mLc mLcL
  rw [hi, bind_ok, if_pos hl]
  dsimp only
  rw [lcL_pure hg t f h]
  rfl
theorem lc_map {vs js : List Nat} {mi : MI} {me : ME} {ρ : Envt} {s : Store} {ds : List D} {gd : Gd} (hi : mi ρ s = .ok (ds, gd) s) (hl : ds.length ≤ big) (hg : gdOk gd s) (f : D → D)
    (h : ∀ d ∈ ds, ∃ ρ', tgE js d (wipeR ρ vs) = some ρ' ∧ me ρ' s = .ok (f d) s) : mLc vs js mi mYes me ρ s = .ok (.fl (ds.map f)) s := by
  have z := lc_pure (mt := mYes) hi hl hg (fun _ => true) f fun d m => by
    obtain ⟨ρ', e1, e2⟩ := h d m
    exact ⟨ρ', e1, rfl, fun _ => e2⟩
  rw [z, List.filter_eq_self.mpr fun _ _ => rfl]
/-! ### isinstance of data -/
def D.isI : D → Bool | .int _ => true | _ => false
def D.isB : D → Bool | .bl _ => true | _ => false
def D.isT : D → Bool | .tup _ => true | _ => false
def D.isL : D → Bool | .fl _ => true | _ => false
def D.isS : D → Bool | .str _ => true | _ => false
theorem kitB_all : ∀ T ∈ bTys, kitB T "int" = some (T == "int" || T == "bool") ∧ kitB T "bool" = some (T == "bool") ∧ kitB T "tuple" = some (T == "tuple") ∧ kitB T "list" = some (T == "list") ∧ kitB T "str" = some (T == "str") := by decide +kernel
theorem isi_b {x : D} {T n : String} {b : Bool} {s : Store} (h : x.bty s = some T) (k : kitB T n = some b) : fIsi [x, .ty n] s = .ok (.bl b) s := by
  unfold fIsi
  have e : x.tyt s = some (.b T) := by
    unfold D.tyt
    rw [h]
  dsimp only
  rw [e]
  dsimp only [isiR]
  rw [k]
theorem dat_bty {x : D} {k : Nat} {s : Store} (h : x.dat k = true) : ∃ T, x.bty s = some T ∧ T ∈ bTys ∧ x.isI = (T == "int") ∧ x.isB = (T == "bool") ∧ x.isT = (T == "tuple") ∧ x.isL = (T == "list") ∧ x.isS = (T == "str") := by
  cases x with
  | non => exact ⟨"NoneType", rfl, by decide, rfl, rfl, rfl, rfl, rfl⟩
  | bl b => exact ⟨"bool", rfl, by decide, rfl, rfl, rfl, rfl, rfl⟩
  | int b => exact ⟨"int", rfl, by decide, rfl, rfl, rfl, rfl, rfl⟩
  | str b => exact ⟨"str", rfl, by decide, rfl, rfl, rfl, rfl, rfl⟩
  | tup b => exact ⟨"tuple", rfl, by decide, rfl, rfl, rfl, rfl, rfl⟩
  | fl b => exact ⟨"list", rfl, by decide, rfl, rfl, rfl, rfl, rfl⟩
  | _ => unfold D.dat at h; cases h
section
variable {x : D} {k : Nat} {s : Store}
theorem isi_int (h : x.dat k = true) : fIsi [x, .ty "int"] s = .ok (.bl (x.isI || x.isB)) s := by
  obtain ⟨T, e, m, h1, h2, h3, h4, h5⟩ := dat_bty (s := s) h
  rw [h1, h2]
  exact isi_b e (kitB_all T m).1
theorem isi_bool (h : x.dat k = true) : fIsi [x, .ty "bool"] s = .ok (.bl x.isB) s := by
  obtain ⟨T, e, m, h1, h2, h3, h4, h5⟩ := dat_bty (s := s) h
  rw [h2]
  exact isi_b e (kitB_all T m).2.1
theorem isi_tuple (h : x.dat k = true) : fIsi [x, .ty "tuple"] s = .ok (.bl x.isT) s := by
  obtain ⟨T, e, m, h1, h2, h3, h4, h5⟩ := dat_bty (s := s) h
  rw [h3]
  exact isi_b e (kitB_all T m).2.2.1
theorem isi_list (h : x.dat k = true) : fIsi [x, .ty "list"] s = .ok (.bl x.isL) s := by
  obtain ⟨T, e, m, h1, h2, h3, h4, h5⟩ := dat_bty (s := s) h
  rw [h4]
  exact isi_b e (kitB_all T m).2.2.2.1
theorem isi_str (h : x.dat k = true) : fIsi [x, .ty "str"] s = .ok (.bl x.isS) s := by
  obtain ⟨T, e, m, h1, h2, h3, h4, h5⟩ := dat_bty (s := s) h
  rw [h5]
  exact isi_b e (kitB_all T m).2.2.2.2
end
end LY
/-! LayZ: what the head must tell. -/
namespace LY
open PySem PySem.Spec PyProof.Rows L2
section
variable (K : PySem.W.Frag)
def errB (C : Addr) : Bool := PySem.W.excIn K C He.veBase "ValueError.__new__" && (PySem.W.keepIn K (.ref C) && (decide (PySem.W.subIn K (.ref C) (.type "BaseException") = some true) && decide (PySem.W.typeIn K (.ref C) = some (.type "type"))))
def clsGet : Bool := decide (PySem.W.specialIn K (.builtin "object.__class__") "__get__" = some (some (.builtin "getset_descriptor.__get__"))) && decide (PySem.W.takesIn K (.builtin "object.__class__") = some true)
def askB (C : Addr) : Bool := He.eqO (PySem.W.findIn K (.ref C) "__class__") (some (some (.builtin "object.__class__"))) && decide (PySem.W.mroIn K C (.type "object") = some true)
def excB (C : Addr) : Bool := He.eqO (PySem.W.findIn K (.ref C) "__getattribute__") (some (some (.builtin "BaseException.__getattribute__"))) && (He.eqO (PySem.W.findIn K (.ref C) "__getattr__") (some none) && (decide (PySem.W.subIn K (.ref C) (.type "BaseException") = some true) && (PySem.W.hasDictIn K C && askB K C)))
def clsB (C : Addr) : Bool := PySem.W.plainGet K C Str.empty && (PySem.W.hasDictIn K C && (PySem.W.plainOver K C && (He.eqO (PySem.W.findIn K (.ref C) "__setattr__") (some (some (.builtin "object.__setattr__"))) && askB K C)))
def isB1 (C : Addr) : Bool := (bTys.all fun T => decide (PySem.W.kitOne K (.type T) (.ref C) = some false)) && isTys.all fun n => decide (PySem.W.kitOne K (.ref C) (.type n) = some false)
def fxB (cs : List CN) : Bool := clsGet K && cs.all fun c =>
  isB1 K (He.ga K c.str) && ((if c.isObj then clsB K (He.ga K c.str) else excB K (He.ga K c.str) && (decide (PySem.W.kitOne K (.ref (He.ga K c.str)) (.type "ValueError") = some true) && (if c.flds = [] then errB K (He.ga K c.str) else true))) &&
    cs.all fun d => decide (PySem.W.kitOne K (.ref (He.ga K c.str)) (.ref (He.ga K d.str)) = some (c.sub d)) && (if c.isObj || d.isObj then true else decide (PySem.W.exmOne K (.ref (He.ga K c.str)) (.ref (He.ga K d.str)) = some (c.sub d))))
end
theorem fx_ok {K : PySem.W.Frag} {mg : Str → Option Value} {cs : List CN} (h : fxB K cs = true) (hp : ∀ c ∈ cs, mg c.str = some (.ref (He.ga K c.str))) (hn : ∀ c, c ∉ cs → mg c.str = none) : FX K mg := by
  unfold fxB at h
  obtain ⟨hg, h⟩ := Bool.and_eq_true_iff.mp h
  obtain ⟨g1, g2⟩ := Bool.and_eq_true_iff.mp hg
  have g1 := of_decide_eq_true g1
  have g2 := of_decide_eq_true g2
  have at_ : ∀ (c : CN) (C : Addr), mg c.str = some (.ref C) → c ∈ cs ∧ C = He.ga K c.str := fun c C e => by
    by_cases m : c ∈ cs
    · rw [hp c m] at e
      cases e
      exact ⟨m, rfl⟩
    · rw [hn c m] at e
      cases e
  have one : ∀ c ∈ cs, isB1 K (He.ga K c.str) = true ∧ (if c.isObj then clsB K (He.ga K c.str) else excB K (He.ga K c.str) && (decide (PySem.W.kitOne K (.ref (He.ga K c.str)) (.type "ValueError") = some true) && (if c.flds = [] then errB K (He.ga K c.str) else true))) = true ∧
      ∀ d ∈ cs, PySem.W.kitOne K (.ref (He.ga K c.str)) (.ref (He.ga K d.str)) = some (c.sub d) ∧ (if c.isObj || d.isObj then true else decide (PySem.W.exmOne K (.ref (He.ga K c.str)) (.ref (He.ga K d.str)) = some (c.sub d))) = true := fun c m => by
    obtain ⟨h1, h2⟩ := Bool.and_eq_true_iff.mp (List.all_eq_true.mp h c m)
    obtain ⟨h2, h3⟩ := Bool.and_eq_true_iff.mp h2
    refine ⟨h1, h2, fun d md => ?_⟩
    obtain ⟨h4, h5⟩ := Bool.and_eq_true_iff.mp (List.all_eq_true.mp h3 d md)
    exact ⟨of_decide_eq_true h4, h5⟩
  have ask : ∀ {C : Addr}, askB K C = true → PySem.W.findIn K (.ref C) "__class__" = some (some (.builtin "object.__class__")) ∧ PySem.W.mroIn K C (.type "object") = some true := fun h => ⟨He.eqO_ok (Bool.and_eq_true_iff.mp h).1, of_decide_eq_true (Bool.and_eq_true_iff.mp h).2⟩
  have ex : ∀ c ∈ cs, c.isObj = false → excB K (He.ga K c.str) = true ∧ PySem.W.kitOne K (.ref (He.ga K c.str)) (.type "ValueError") = some true ∧ (c.flds = [] → errB K (He.ga K c.str) = true) := fun c m o => by
    have z := (one c m).2.1
    rw [o, if_neg (by simp)] at z
    obtain ⟨z1, z2⟩ := Bool.and_eq_true_iff.mp z
    obtain ⟨z2, z3⟩ := Bool.and_eq_true_iff.mp z2
    exact ⟨z1, of_decide_eq_true z2, fun e => by rw [if_pos e] at z3; exact z3⟩
  refine ⟨fun c C o f e => ?_, fun c C o e => ?_, fun c d C D o o' e e' => ?_, fun T hT c C e => ?_, fun n hn c C e => ?_, fun c C o e => ?_, fun c d C D e e' => ?_, fun c C o e => ?_⟩
  · obtain ⟨m, rfl⟩ := at_ c C e
    have z := (ex c m o).2.2 f
    unfold errB at z
    obtain ⟨z1, z⟩ := Bool.and_eq_true_iff.mp z
    obtain ⟨z2, z⟩ := Bool.and_eq_true_iff.mp z
    obtain ⟨z3, z4⟩ := Bool.and_eq_true_iff.mp z
    exact ⟨z1, z2, of_decide_eq_true z3, of_decide_eq_true z4⟩
  · obtain ⟨m, rfl⟩ := at_ c C e
    have z := (ex c m o).1
    unfold excB at z
    obtain ⟨z1, z⟩ := Bool.and_eq_true_iff.mp z
    obtain ⟨z2, z⟩ := Bool.and_eq_true_iff.mp z
    obtain ⟨z3, z⟩ := Bool.and_eq_true_iff.mp z
    obtain ⟨z4, z5⟩ := Bool.and_eq_true_iff.mp z
    obtain ⟨z6, z7⟩ := ask z5
    exact ⟨He.eqO_ok z1, He.eqO_ok z2, of_decide_eq_true z3, z4, z6, g1, g2, z7⟩
  · obtain ⟨m, rfl⟩ := at_ c C e
    obtain ⟨m', rfl⟩ := at_ d D e'
    have z := ((one c m).2.2 d m').2
    rw [o, o', if_neg (by simp)] at z
    exact of_decide_eq_true z
  · obtain ⟨m, rfl⟩ := at_ c C e
    exact of_decide_eq_true (List.all_eq_true.mp (Bool.and_eq_true_iff.mp (one c m).1).1 T hT)
  · obtain ⟨m, rfl⟩ := at_ c C e
    exact of_decide_eq_true (List.all_eq_true.mp (Bool.and_eq_true_iff.mp (one c m).1).2 n hn)
  · obtain ⟨m, rfl⟩ := at_ c C e
    exact (ex c m o).2.1
  · obtain ⟨m, rfl⟩ := at_ c C e
    obtain ⟨m', rfl⟩ := at_ d D e'
    exact ((one c m).2.2 d m').1
  · obtain ⟨m, rfl⟩ := at_ c C e
    have z := (one c m).2.1
    rw [o, if_pos rfl] at z
    unfold clsB at z
    obtain ⟨z1, z⟩ := Bool.and_eq_true_iff.mp z
    obtain ⟨z2, z⟩ := Bool.and_eq_true_iff.mp z
    obtain ⟨z3, z⟩ := Bool.and_eq_true_iff.mp z
    obtain ⟨z4, z5⟩ := Bool.and_eq_true_iff.mp z
    obtain ⟨z6, z7⟩ := ask z5
    exact ⟨⟨z1, z2, z3, He.eqO_ok z4⟩, z6, g1, g2, z7⟩
/-- an empty tuple of the text -/
def emptyT (K : PySem.W.Frag) (a : Addr) : Bool := match K.lookup a with
  | some ⟨.type c, _, .seq its _, _⟩ => decide (c = "tuple") && decide (its.size = 0)
  | _ => false
theorem emptyT_ok {K : PySem.W.Frag} {mg : Str → Option Value} {a : Addr} (h : emptyT K a = true) (H : Hp) (α : Al) : RD K mg H α (.tup []) (.ref a) := by
  unfold RD
  refine ⟨a, [], rfl, .inr ?_, RL.nil⟩
  unfold emptyT at h
  split at h
  · rename_i c d its n sl q
    obtain ⟨h1, h2⟩ := Bool.and_eq_true_iff.mp h
    have h1 := of_decide_eq_true h1
    have h2 := of_decide_eq_true h2
    subst h1
    have e : its.toList = [] := by
      rw [← List.length_eq_zero_iff, Array.length_toList]
      exact h2
    exact .inr ⟨_, its, n, q, rfl, rfl, by rw [h2]; exact Nat.zero_le _, by rw [e]; exact .nil⟩
  · cases h
/-! the Hook: facts and one more Bool -/
abbrev AlX : Type := Bool × He.AlD
def SaysX (fa : List He.Fa) (fn : List He.DefD) (ex : PySem.W.Frag → Bool) (K : PySem.W.Frag) : Prop := (ex K, He.obsD fa fn K) = ((true, He.valD fn) : AlX)
def obsX (n : Nat) (fa : List He.Fa) (fn : List He.DefD) (ex : PySem.W.Frag → Bool) (g : Addr → Option Obj) : AlX := (ex (He.frG g (He.asD g n)), He.obsD fa fn (He.frG g (He.asD g n)))
def hookX (n : Nat) (fa : List He.Fa) (fn : List He.DefD) (ex : PySem.W.Frag → Bool) : PySem.W.Hook where
  α := AlX
  obs := fun s => obsX n fa fn ex s.heap.get?
  val := fun _ => (true, He.valD fn)
  says := fun _ h => ∃ K : PySem.W.Frag, K.In h ∧ SaysX fa fn ex K
  of := fun _ _ e => ⟨_, He.frG_in, e⟩
  keeps := fun _ _ _ ⟨K, hK, c⟩ k => ⟨K, PySem.W.Frag.In.keeps hK k, c⟩
theorem obsX_eq {n : Nat} {fa : List He.Fa} {fn : List He.DefD} {ex : PySem.W.Frag → Bool} {g : Addr → Option Obj} {s : Shared} (h : ∀ a, g a = s.heap.get? a) : obsX n fa fn ex g = (hookX n fa fn ex).obs s := by
  have e : g = s.heap.get? := funext h
  rw [e] <;> rfl
section
variable {fa : List He.Fa} {fn : List He.DefD} {ex : PySem.W.Frag → Bool} {K : PySem.W.Frag}
theorem SaysX.says (c : SaysX fa fn ex K) : He.SaysD fa fn K := congrArg (fun z : AlX => z.2) c
theorem SaysX.more (c : SaysX fa fn ex K) : ex K = true := congrArg (fun z : AlX => z.1) c
theorem SaysX.fact (c : SaysX fa fn ex K) {f : He.Fa} (h : f ∈ fa) : f.ok K = true := by
  obtain ⟨i, hi, e⟩ := List.getElem_of_mem h
  exact c.says.fact i (f := f) (by rw [List.getElem?_eq_getElem hi, e])
end
end LY
namespace LY
open PySem PySem.Spec PyProof.Rows L2
/-- the script -/
theorem ints_rl {K : PySem.W.Frag} {mg : Str → Option Value} {H : Hp} {α : Al} : ∀ ns : List Int, RL K mg H α (ns.map D.int) (ns.map V.int)
  | [] => RL.nil
  | i :: ns => RL.cons (RD.int i) (ints_rl ns)
theorem ints_rd {K : PySem.W.Frag} {mg : Str → Option Value} {H : Hp} {a : Addr} {ns : List Int} (h : SqL K H a (ns.map V.int)) : RD K mg H ⟨[], []⟩ (.fl (ns.map D.int)) (.ref a) := by
  unfold RD
  refine ⟨a, _, rfl, ?_, ints_rl ns⟩
  rcases h with h | h
  · exact .inl ⟨fun m => m.elim (fun z => nomatch z) (fun z => nomatch z), h⟩
  · exact .inr (.inr h)
end LY
namespace LY
open PySem PySem.Spec PyProof.Rows L2
def CXw (P : Program) : CXT := fun outer H s E u s' => ∃ w, L2.CX P w outer H s E u s'
theorem fnok_w {P : Program} {w : World} {K : PySem.W.Frag} {mg : Str → Option Value} {base : Heap} {k : Nat} {f : Addr} {fd : FuncData} {ps : List Str} {sp : Sp} (F : FnOk P w K mg base (L2.CX P w) k f fd ps sp) : FnOk P w K mg base (CXw P) k f fd ps sp :=
  ⟨F.len, fun A outer s H args us vs Q E hr e0 hb r h => codeAny_mono (F.run A outer s H args us vs Q E hr e0 hb r h) fun rr s' z => by
    unfold CR at z ⊢
    split at z
    · exact z
    · exact z.elim
    · exact ⟨w, z⟩⟩
theorem cxw_no {P : Program} : ∀ (H : Hp) (s : Shared) (e : Value) (s' : Shared), CXw P [] H s (fun _ _ _ => False) e s' → False := fun H s e s' ⟨w, z⟩ => by
  obtain ⟨_, _, _, _, _, _, _, _, _, _, _, _, q⟩ := z
  exact q
end LY
/-! Wbk: what the functions of books.py and the class RuleBook do, seen from outside. -/
namespace LY
open PySem PySem.Spec PyProof.Rows L2
def belowB (n : Int) : D → Bool
  | .int i => decide (0 ≤ i) && decide (i < n)
  | _ => false
def sigB (n : Int) : D → Bool
  | .tup ss => decide ((ss.length : Int) = n) && ss.all (belowB n)
  | _ => false
def ruleB (n : Int) : D → Bool
  | .tup [a, b, c, g] => belowB n a && (belowB n b && (belowB n c && (!b.eqv c && sigB n g)))
  | _ => false
def w_is_integer : MF := fun ds s => match ds with
  | [x] => if x.dat 40 = true then .ok (.bl x.isI) s else .bad
  | _ => .bad
def w_is_below : MF := fun ds s => match ds with
  | [.int n, x] => if x.dat 40 = true then .ok (.bl (belowB n x)) s else .bad
  | _ => .bad
def w_is_rule : MF := fun ds s => match ds with
  | [.int n, x] => if x.dat 39 = true ∧ 0 ≤ n ∧ n ≤ 1000 then .ok (.bl (ruleB n x)) s else .bad
  | _ => .bad
/-! the class RuleBook -/
def stN (x : D) : Bool := match x with
  | .int i => decide (1 ≤ i) && decide (i ≤ 4)
  | _ => false
def dd_RuleBook__init__ : List D := [.tup []]
def mk_RuleBook : MF := fun ds s => match ds with
  | [x] => if x.dat 40 = true then (if stN x = true then .ok (.ins .RuleBook [x, .tup []]) s else .er ⟨.BadBook, []⟩ s) else .bad
  | _ => .bad
def mk_RuleBook_1 : MF := fun ds s => match ds with
  | [x, r] => if x.dat 40 = true ∧ r.dat 38 = true then (if stN x = true then .ok (.ins .RuleBook [x, r]) s else .er ⟨.BadBook, []⟩ s) else .bad
  | _ => .bad
def w_RuleBook__add__ : MF := fun ds s => match ds with
  | [.ins .RuleBook [.int n, .tup rs], x] => if x.dat 37 = true ∧ datL rs 37 = true ∧ 1 ≤ n ∧ n ≤ 4 ∧ rs.length ≤ 1000 then (if ruleB n x = true ∧ anyEq rs x = false ∧ rs.length < 12 then .ok (.ins .RuleBook [.int n, .tup (rs ++ [x])]) s else .er ⟨.BadRule, []⟩ s) else .bad
  | _ => .bad
def w_RuleBook__contains__ : MF := fun ds s => match ds with
  | [.ins .RuleBook [.int n, .tup rs], x] => if x.dat 37 = true ∧ datL rs 37 = true ∧ 1 ≤ n ∧ n ≤ 4 then .ok (.bl (ruleB n x && anyEq rs x)) s else .bad
  | _ => .bad
def w_RuleBook__len__ : MF := fun ds s => match ds with
  | [.ins .RuleBook [.int n, .tup rs]] => if rs.length ≤ 1000 then .ok (.int rs.length) s else .bad
  | _ => .bad
def w_RuleBook__getitem__ : MF := fun ds s => match ds with
  | [.ins .RuleBook [.int n, .tup rs], x] => if x.dat 37 = true ∧ datL rs 37 = true ∧ rs.length ≤ 1000 then (match x with
    | .int i => if 0 ≤ i then (match rs[i.toNat]? with
      | some r => .ok r s
      | none => .er ⟨.BadRule, []⟩ s) else .er ⟨.BadRule, []⟩ s
    | _ => .er ⟨.BadRule, []⟩ s) else .bad
  | _ => .bad
def dd_RuleBooktold : List D := []
def w_RuleBooktold : MF := fun ds s => match ds with
  | [.ins .RuleBook [.int n, .tup rs]] => if datL rs 37 = true then .ok (.tup [.int n, .tup rs]) s else .bad
  | _ => .bad
end LY
/-! Wdr: the laws' drawn numbers. -/
namespace LY
open PySem PySem.Spec PyProof.Rows L2
def intsOf : List D → Option (List Int)
  | [] => some []
  | .int i :: ds => (intsOf ds).map (i :: ·)
  | _ => none
theorem intsOf_map : ∀ is : List Int, intsOf (is.map D.int) = some is
  | [] => rfl
  | i :: is => by
    rw [List.map_cons]
    unfold intsOf
    rw [intsOf_map is]
    rfl
theorem intsOf_some : ∀ {ds : List D} {is : List Int}, intsOf ds = some is → ds = is.map D.int
  | [], is, h => by cases h; rfl
  | d :: ds, is, h => by
    cases d with
    | int i =>
      unfold intsOf at h
      obtain ⟨js, e1, e2⟩ := Option.map_eq_some_iff.mp h
      rw [← e2, intsOf_some e1]
      rfl
    | _ => cases h
/-- the source that the cell k of a script makes -/
def srcCell (is : List Int) (k : Int) : Int := if 0 < is.length then is.getD (k % (is.length : Int)).toNat 0 else 0
def srcL (is : List Int) (k : Int) : List D := [.int (if 10 ^ 18 ≤ srcCell is k then srcCell is k - 10 ^ 18 else 0), .int (srcCell is k % (10 ^ 30 + 57) + k), .int 0]
def w__law_source : MF := fun ds s => match ds with
  | [.fl ns, .int k] => match intsOf ns with
    | some is => if 0 ≤ k ∧ k ≤ 1000 ∧ is.length ≤ 1000 then .ok (.ref s.length) (s ++ [.lst (srcL is k)]) else .bad
    | none => .bad
  | _ => .bad
/-- the number, and what is left of the digits -/
def mixN (sd st : Int) : Int := (sd + 7919 * st * st + 13) * (sd + 104729 * st + 1)
def takeN (dg sd st m : Int) : Int × Int := if 0 < dg then (dg % m, dg / m) else
  ((mixN sd (st + 1) * mixN sd (st + 1) / 1009 + sd * (st + 1)) % 2305843009213693951 * 48271 % 1000000007 % m, dg)
def w__law_take : MF := fun ds s => match ds with
  | [.ref n, .int m] => match lstAt s n with
    | some [.int dg, .int sd, .int st] => if 0 < m ∧ m ≤ 10 ^ 10 ∧ 0 ≤ sd ∧ sd ≤ 10 ^ 31 ∧ 0 ≤ st ∧ st ≤ 10 ^ 5 then .ok (.int (takeN dg sd st m).1) (s.set n (.lst [.int (takeN dg sd st m).2, .int sd, .int (st + 1)])) else .bad
    | _ => .bad
  | _ => .bad
end LY
namespace LY
open PySem PySem.Spec PyProof.Rows L2
/-- what is known of a result: P -/
noncomputable def pick (P : List D → D → Prop) (r : MF) : MF := by
  classical
  exact fun ds s => if h : ∃ d, P ds d ∧ Ref s.length (r ds s) (.ok d s) then .ok h.choose s else .bad
theorem pick_ref (P : List D → D → Prop) (r : MF) (ds : List D) (s : Store) : Ref s.length (r ds s) (pick P r ds s) := by
  unfold pick
  by_cases h : ∃ d, P ds d ∧ Ref s.length (r ds s) (.ok d s)
  · simp only [dif_pos h]
    exact h.choose_spec.2
  · simp only [dif_neg h]
    exact Ref.bad
theorem pick_ok {P : List D → D → Prop} {r : MF} {ds : List D} {s : Store} (h : ∃ d, P ds d ∧ Ref s.length (r ds s) (.ok d s)) : ∃ d, P ds d ∧ pick P r ds s = .ok d s := by
  refine ⟨h.choose, h.choose_spec.1, ?_⟩
  unfold pick
  simp only [dif_pos h]
/-- a rule -/
structure Rl where
  a : Int
  b : Int
  c : Int
  sg : List Int
  deriving DecidableEq
def Rl.toD (r : Rl) : D := .tup [.int r.a, .int r.b, .int r.c, .tup (r.sg.map D.int)]
def inN (n i : Int) : Prop := 0 ≤ i ∧ i < n
def Rl.ok (n : Int) (r : Rl) : Prop := inN n r.a ∧ inN n r.b ∧ inN n r.c ∧ r.b ≠ r.c ∧ (r.sg.length : Int) = n ∧ ∀ i ∈ r.sg, inN n i
/-- the rules of a book of n states -/
def goodL (n : Int) (l : List Rl) : Prop := l.Nodup ∧ ∀ r ∈ l, r.ok n
def goodRs (n : Int) (rs : List D) : Prop := ∃ l : List Rl, rs = l.map Rl.toD ∧ goodL n l
def DrawnRules (ds : List D) (d : D) : Prop := ∃ (x y : D) (n : Int) (l : List Rl), ds = [x, y, .int n] ∧ d = .fl (l.map Rl.toD) ∧ goodL n l ∧ l.length ≤ 12
end LY
namespace LY
open PySem PySem.Spec PyProof.Rows L2
noncomputable def m_is_integer : MS := mRet (mAndV (mArgs fIsi (aCons (mVar 0) (aCons (mC (.ty "int")) (aNil)))) (mNotV (mArgs fIsi (aCons (mVar 0) (aCons (mC (.ty "bool")) (aNil))))))
noncomputable def m_is_below : MS := mRet (mAndV (mCall 1 w_is_integer (aCons (mVar 1) (aNil))) (mChain oLe oLt (mC (.int 0)) (mVar 1) (mVar 0)))
noncomputable def m_is_rule : MS := mSeq (mIf (mOrT (mNotT (mTst (mArgs fIsi (aCons (mVar 1) (aCons (mC (.ty "tuple")) (aNil)))))) (mTst (mBin oNe (mArgs fLen (aCons (mVar 1) (aNil))) (mC (.int 4))))) (mRet (mC (.bl false))) (mNx)) (mSeq (mAsg (mVar 1) (gTp 4 (gsCons (gNm 2) (gsCons (gNm 3) (gsCons (gNm 4) (gsCons (gNm 5) (gsNil))))))) (mSeq (mIf (mOrT (mNotT (mTst (mCall 2 w_is_below (aCons (mVar 0) (aCons (mVar 2) (aNil)))))) (mOrT (mNotT (mTst (mCall 2 w_is_below (aCons (mVar 0) (aCons (mVar 3) (aNil)))))) (mOrT (mNotT (mTst (mCall 2 w_is_below (aCons (mVar 0) (aCons (mVar 4) (aNil)))))) (mTst (mBin oEq (mVar 3) (mVar 4)))))) (mRet (mC (.bl false))) (mNx)) (mSeq (mIf (mOrT (mNotT (mTst (mArgs fIsi (aCons (mVar 5) (aCons (mC (.ty "tuple")) (aNil)))))) (mTst (mBin oNe (mArgs fLen (aCons (mVar 5) (aNil))) (mVar 0)))) (mRet (mC (.bl false))) (mNx)) (mRet (mArgs fAll (aCons (mLc (([("state", 6)] : List (Str × Nat)).map (·.2)) [6] (iSq (mVar 5)) (mYes) (mCall 2 w_is_below (aCons (mVar 0) (aCons (mVar 6) (aNil))))) (aNil)))))))
noncomputable def m_RuleBook__init__ : MS := mSeq (mIf (mOrT (mNotT (mTst (mCall 1 w_is_integer (aCons (mVar 1) (aNil))))) (mOrT (mTst (mBin oLt (mVar 1) (mC (.int 1)))) (mTst (mBin oGt (mVar 1) (mC (.int 4)))))) (mRaise .BadBook) (mNx)) (mSeq (mStF .RuleBook 0 (mVar 0) (mVar 1)) (mStF .RuleBook 1 (mVar 0) (mVar 2)))
noncomputable def m_RuleBook__add__ : MS := mSeq (mIf (mOrT (mNotT (mTst (mCall 2 w_is_rule (aCons (mUn (oFld .RuleBook 0) (mVar 0)) (aCons (mVar 1) (aNil)))))) (mOrT (mTst (mBin (oInN false) (mVar 1) (mUn (oFld .RuleBook 1) (mVar 0)))) (mTst (mBin oGe (mArgs fLen (aCons (mUn (oFld .RuleBook 1) (mVar 0)) (aNil))) (mC (.int 12)))))) (mRaise .BadRule) (mNx)) (mRet (mArgs mk_RuleBook_1 (aCons (mUn (oFld .RuleBook 0) (mVar 0)) (aCons (mArgs fTup (aStar (mUn (oFld .RuleBook 1) (mVar 0)) (aCons (mVar 1) (aNil)))) (aNil)))))
noncomputable def m_RuleBook__contains__ : MS := mRet (mAndV (mCall 2 w_is_rule (aCons (mUn (oFld .RuleBook 0) (mVar 0)) (aCons (mVar 1) (aNil)))) (mBin (oInN false) (mVar 1) (mUn (oFld .RuleBook 1) (mVar 0))))
noncomputable def m_RuleBook__len__ : MS := mRet (mArgs fLen (aCons (mUn (oFld .RuleBook 1) (mVar 0)) (aNil)))
noncomputable def m_RuleBook__getitem__ : MS := mSeq (mIf (mNotT (mTst (mCall 2 w_is_below (aCons (mArgs fLen (aCons (mUn (oFld .RuleBook 1) (mVar 0)) (aNil))) (aCons (mVar 1) (aNil)))))) (mRaise .BadRule) (mNx)) (mRet (mBin oIx (mUn (oFld .RuleBook 1) (mVar 0)) (mVar 1)))
noncomputable def m_RuleBooktold : MS := mRet (mArgs fTup (aCons (mUn (oFld .RuleBook 0) (mVar 0)) (aCons (mUn (oFld .RuleBook 1) (mVar 0)) (aNil))))
noncomputable def m__law_source : MS := mSeq (mSet 2 (mC (.int 0))) (mSeq (mIf (mTst (mBin oGt (mArgs fLen (aCons (mVar 0) (aNil))) (mC (.int 0)))) (mSet 2 (mBin oIx (mVar 0) (mBin oMod (mArgs fInt (aCons (mVar 1) (aNil))) (mArgs fLen (aCons (mVar 0) (aNil)))))) (mNx)) (mSeq (mSet 3 (mC (.int 0))) (mSeq (mIf (mTst (mBin oGe (mVar 2) (mBin oPow (mC (.int 10)) (mC (.int 18))))) (mSet 3 (mBin oSub (mVar 2) (mBin oPow (mC (.int 10)) (mC (.int 18))))) (mNx)) (mRet (mArgs fCel (aCons (mVar 3) (aCons (mBin oAdd (mBin oMod (mArgs fInt (aCons (mVar 2) (aNil))) (mBin oAdd (mBin oPow (mC (.int 10)) (mC (.int 30))) (mC (.int 57)))) (mVar 1)) (aCons (mC (.int 0)) (aNil)))))))))
noncomputable def m__law_take : MS := mSeq (mAsg (mBin oAdd (mBin oIx (mVar 0) (mC (.int 2))) (mC (.int 1))) (gSb (mVar 0) (mC (.int 2)))) (mSeq (mIf (mTst (mBin oGt (mBin oIx (mVar 0) (mC (.int 0))) (mC (.int 0)))) (mSeq (mSet 2 (mBin oMod (mArgs fInt (aCons (mBin oIx (mVar 0) (mC (.int 0))) (aNil))) (mVar 1))) (mSeq (mAsg (mBin oDiv (mBin oIx (mVar 0) (mC (.int 0))) (mVar 1)) (gSb (mVar 0) (mC (.int 0)))) (mRet (mVar 2)))) (mNx)) (mSeq (mSet 3 (mBin oIx (mVar 0) (mC (.int 1)))) (mSeq (mSet 4 (mBin oIx (mVar 0) (mC (.int 2)))) (mSeq (mSet 5 (mBin oMul (mBin oAdd (mBin oAdd (mVar 3) (mBin oMul (mBin oMul (mC (.int 7919)) (mVar 4)) (mVar 4))) (mC (.int 13))) (mBin oAdd (mBin oAdd (mVar 3) (mBin oMul (mC (.int 104729)) (mVar 4))) (mC (.int 1))))) (mSeq (mSet 5 (mBin oAdd (mBin oDiv (mBin oMul (mVar 5) (mVar 5)) (mC (.int 1009))) (mBin oMul (mVar 3) (mVar 4)))) (mRet (mBin oMod (mBin oMod (mBin oMul (mBin oMod (mArgs fInt (aCons (mVar 5) (aNil))) (mC (.int 2305843009213693951))) (mC (.int 48271))) (mC (.int 1000000007))) (mVar 1))))))))
noncomputable def m__law_drawn_rules : MS := mSeq (mSet 3 (mArgs fCel (aNil))) (mSeq (mSet 4 (mCall 2 w__law_source (aCons (mVar 0) (aCons (mVar 1) (aNil))))) (mSeq (mSet 5 (mC (.int 0))) (mSeq (mIf (mTst (mBin oGt (mVar 2) (mC (.int 1)))) (mSet 5 (mArgs fMin2 (aCons (mC (.int 12)) (aCons (mArgs fMax2 (aCons (mCall 2 w__law_take (aCons (mVar 4) (aCons (mC (.int 13)) (aNil)))) (aCons (mBin oSub (mArgs fLen (aCons (mVar 0) (aNil))) (mVar 1)) (aNil)))) (aNil))))) (mNx)) (mSeq (mFor (iR1 (aCons (mVar 5) (aNil))) (gNm 6) (mSeq (mIf (mTst (mChain oLt oLt (mC (.int 0)) (mVar 6) (mBin oSub (mArgs fLen (aCons (mVar 0) (aNil))) (mVar 1)))) (mSet 4 (mCall 2 w__law_source (aCons (mVar 0) (aCons (mBin oAdd (mVar 1) (mVar 6)) (aNil))))) (mNx)) (mSeq (mSet 7 (mCall 2 w__law_take (aCons (mVar 4) (aCons (mVar 2) (aNil))))) (mSeq (mSet 8 (mBin oMod (mArgs fInt (aCons (mBin oAdd (mBin oAdd (mVar 7) (mC (.int 1))) (mCall 2 w__law_take (aCons (mVar 4) (aCons (mBin oSub (mVar 2) (mC (.int 1))) (aNil))))) (aNil))) (mVar 2))) (mSeq (mSet 9 (mArgs fTup (aCons (mCall 2 w__law_take (aCons (mVar 4) (aCons (mVar 2) (aNil)))) (aCons (mVar 7) (aCons (mVar 8) (aCons (mArgs fTupOf (aCons (mLc (([("j", 10)] : List (Str × Nat)).map (·.2)) [10] (iR1 (aCons (mVar 2) (aNil))) (mYes) (mCall 2 w__law_take (aCons (mVar 4) (aCons (mVar 2) (aNil))))) (aNil))) (aNil))))))) (mIf (mTst (mBin (oInN true) (mVar 9) (mVar 3))) (mDrop (mApp (mVar 3) (mVar 9))) (mNx))))))) (mRet (mVar 3))))))
noncomputable def w__law_drawn_rules : MF := pick DrawnRules (fDef 11 m__law_drawn_rules)
noncomputable def m__law_name : MS := mSeq (mSet 1 (mArgs fLst (aCons (mC (.str "BadBook")) (aCons (mC (.str "BadRule")) (aCons (mC (.str "BadState")) (aCons (mC (.str "BadTree")) (aCons (mC (.str "NoEnd")) (aCons (mC (.str "NoNode")) (aCons (mC (.str "NoOneRest")) (aCons (mC (.str "TooMany")) (aNil))))))))))) (mSeq (mSet 2 (mArgs fLst (aCons (mArgs fIsi (aCons (mVar 0) (aCons (mC (.cls .BadBook)) (aNil)))) (aCons (mArgs fIsi (aCons (mVar 0) (aCons (mC (.cls .BadRule)) (aNil)))) (aCons (mArgs fIsi (aCons (mVar 0) (aCons (mC (.cls .BadState)) (aNil)))) (aCons (mArgs fIsi (aCons (mVar 0) (aCons (mC (.cls .BadTree)) (aNil)))) (aCons (mArgs fIsi (aCons (mVar 0) (aCons (mC (.cls .NoEnd)) (aNil)))) (aCons (mArgs fIsi (aCons (mVar 0) (aCons (mC (.cls .NoNode)) (aNil)))) (aCons (mArgs fIsi (aCons (mVar 0) (aCons (mC (.cls .NoOneRest)) (aNil)))) (aCons (mArgs fIsi (aCons (mVar 0) (aCons (mC (.cls .TooMany)) (aNil)))) (aNil))))))))))) (mSeq (mSet 3 (mLc (([("name", 4), ("flag", 5)] : List (Str × Nat)).map (·.2)) [4, 5] (iZp (aCons (mVar 1) (aCons (mVar 2) (aNil)))) (mTst (mVar 5)) (mVar 4))) (mSeq (mIf (mAndT (mTst (mBin oEq (mArgs fLen (aCons (mVar 3) (aNil))) (mC (.int 1)))) (mTst (mArgs fIsi (aCons (mVar 0) (aCons (mC (.ty "ValueError")) (aNil)))))) (mRet (mBin oIx (mVar 3) (mC (.int 0)))) (mNx)) (mRet (mC (.str ""))))))
def w__law_name : MF := fun ds s => match ds with
  | [.exc c []] => if c = .BadBook ∨ c = .BadRule ∨ c = .BadState ∨ c = .BadTree ∨ c = .NoEnd ∨ c = .NoNode ∨ c = .NoOneRest ∨ c = .TooMany then .ok (.str c.str) s else .bad
  | _ => .bad
noncomputable def m__law_made : MS := mSeq (mSet 1 (mC .non)) (mSeq (mTryAs .RestError 2 1 (mDrop (mArgs mk_RuleBook (aCons (mVar 0) (aNil))))) (mRet (mCall 1 w__law_name (aCons (mVar 1) (aNil)))))
def w__law_made : MF := fun ds s => match ds with
  | [x] => if x.dat 40 = true ∧ stN x = false then .ok (.str "BadBook") s else .bad
  | _ => .bad
noncomputable def m__law_at : MS := mSeq (mSet 2 (mC .non)) (mSeq (mTryAs .RestError 3 2 (mDrop (mOwn .RuleBook w_RuleBook__getitem__ (mVar 0) (mVar 1)))) (mRet (mCall 1 w__law_name (aCons (mVar 2) (aNil)))))
def w__law_at : MF := fun ds s => match ds with
  | [.ins .RuleBook [.int n, .tup rs], x] => if x.dat 37 = true ∧ datL rs 37 = true ∧ rs.length ≤ 1000 ∧ belowB rs.length x = false then .ok (.str "BadRule") s else .bad
  | _ => .bad
noncomputable def m__law_holds : MS := mSeq (mIf (mOrT (mTst (mBin oNe (mMeth .RuleBook 1 dd_RuleBooktold w_RuleBooktold (mVar 0) (aNil)) (mArgs fTup (aCons (mVar 1) (aCons (mArgs fTupOf (aCons (mVar 2) (aNil))) (aNil)))))) (mOrT (mNotT (mTst (mArgs fIsi (aCons (mBin oIx (mMeth .RuleBook 1 dd_RuleBooktold w_RuleBooktold (mVar 0) (aNil)) (mC (.int 1))) (aCons (mC (.ty "tuple")) (aNil)))))) (mTst (mBin oNe (mArgs (fOwnLen .RuleBook w_RuleBook__len__) (aCons (mVar 0) aNil)) (mArgs fLen (aCons (mVar 2) (aNil))))))) (mRet (mC (.bl false))) (mNx)) (mRet (mAndV (mBin oEq (mLc (([("k", 3)] : List (Str × Nat)).map (·.2)) [3] (iR1 (aCons (mArgs fLen (aCons (mVar 2) (aNil))) (aNil))) (mYes) (mOwn .RuleBook w_RuleBook__getitem__ (mVar 0) (mVar 3))) (mVar 2)) (mArgs fAll (aCons (mLc (([("rule", 4)] : List (Str × Nat)).map (·.2)) [4] (iSq (mVar 2)) (mYes) (mOwnIn false .RuleBook w_RuleBook__contains__ (mVar 4) (mVar 0))) (aNil)))))
open Classical in
noncomputable def w__law_holds : MF := fun ds s => match ds with
  | [.ins .RuleBook [.int n, .tup rs], .int n', .fl rs'] => if n = n' ∧ rs = rs' ∧ datL rs 36 = true ∧ rs.all (ruleB n) = true ∧ 1 ≤ n ∧ n ≤ 4 ∧ rs.length ≤ 12 then .ok (.bl true) s else .bad
  | _ => .bad
noncomputable def m_law : MS := mSeq (mSet 1 (mCall 2 w__law_source (aCons (mVar 0) (aCons (mC (.int 0)) (aNil))))) (mSeq (mSet 2 (mBin oAdd (mC (.int 1)) (mCall 2 w__law_take (aCons (mVar 1) (aCons (mC (.int 4)) (aNil)))))) (mSeq (mSet 3 (mCall 3 w__law_drawn_rules (aCons (mVar 0) (aCons (mC (.int 1)) (aCons (mVar 2) (aNil)))))) (mSeq (mSet 4 (mArgs fCel (aCons (mArgs mk_RuleBook (aCons (mVar 2) (aNil))) (aNil)))) (mSeq (mFor (iSq (mVar 3)) (gNm 5) (mSeq (mIf (mTst (mOwnIn false .RuleBook w_RuleBook__contains__ (mVar 5) (mBin oIx (mVar 4) (mUn oNeg (mC (.int 1)))))) (mRet (mC (.bl false))) (mNx)) (mSeq (mDrop (mApp (mVar 4) (mOwnB .RuleBook w_RuleBook__add__ (mBin oIx (mVar 4) (mUn oNeg (mC (.int 1)))) (mVar 5)))) (mIf (mNotT (mTst (mCall 3 w__law_holds (aCons (mBin oIx (mVar 4) (mUn oNeg (mC (.int 1)))) (aCons (mVar 2) (aCons (mSl false (mVar 3) (mNo) (mSome (mBin oSub (mArgs fLen (aCons (mVar 4) (aNil))) (mC (.int 1))))) (aNil))))))) (mRet (mC (.bl false))) (mNx))))) (mSeq (mSet 6 (mLc (([("rule", 5)] : List (Str × Nat)).map (·.2)) [5] (iSq (mVar 3)) (mYes) (mOwnB .RuleBook w_RuleBook__add__ (mBin oIx (mVar 4) (mC (.int 0))) (mVar 5)))) (mSeq (mIf (mNotT (mTst (mArgs fAll (aCons (mLc (([("k", 7)] : List (Str × Nat)).map (·.2)) [7] (iR1 (aCons (mArgs fLen (aCons (mVar 3) (aNil))) (aNil))) (mYes) (mCall 3 w__law_holds (aCons (mBin oIx (mVar 6) (mVar 7)) (aCons (mVar 2) (aCons (mArgs fLst (aCons (mBin oIx (mVar 3) (mVar 7)) (aNil))) (aNil)))))) (aNil))))) (mRet (mC (.bl false))) (mNx)) (mSeq (mFor (iEn (aCons (mVar 4) (aNil))) (gTp 2 (gsCons (gNm 7) (gsCons (gNm 8) (gsNil)))) (mSeq (mIf (mNotT (mTst (mCall 3 w__law_holds (aCons (mVar 8) (aCons (mVar 2) (aCons (mSl false (mVar 3) (mNo) (mSome (mVar 7))) (aNil))))))) (mRet (mC (.bl false))) (mNx)) (mFor (iSq (mArgs fLst (aCons (mUn oNeg (mC (.int 1))) (aCons (mVar 7) (aCons (mBin oAdd (mBin oAdd (mVar 7) (mC (.int 1))) (mCall 2 w__law_take (aCons (mVar 1) (aCons (mC (.int 1000)) (aNil))))) (aCons (mBin oSub (mUn oNeg (mC (.int 1))) (mCall 2 w__law_take (aCons (mVar 1) (aCons (mC (.int 13)) (aNil))))) (aCons (mC (.bl true)) (aCons (mC (.bl false)) (aCons (mC .non) (aCons (mC (.str "0")) (aCons (mArgs fTup (aCons (mC (.int 0)) (aNil))) (aNil)))))))))))) (gNm 9) (mIf (mTst (mBin oNe (mCall 2 w__law_at (aCons (mVar 8) (aCons (mVar 9) (aNil)))) (mC (.str "BadRule")))) (mRet (mC (.bl false))) (mNx))))) (mSeq (mSet 10 (mArgs fLst (aCons (mC (.int 0)) (aCons (mC (.int 5)) (aCons (mUn oNeg (mC (.int 1))) (aCons (mBin oAdd (mC (.int 5)) (mCall 2 w__law_take (aCons (mVar 1) (aCons (mBin oPow (mC (.int 10)) (mC (.int 9))) (aNil))))) (aCons (mC (.bl true)) (aCons (mC .non) (aCons (mC (.str "2")) (aCons (mArgs fTup (aCons (mC (.int 1)) (aNil))) (aCons (mArgs fLst (aCons (mC (.int 2)) (aNil))) (aNil)))))))))))) (mRet (mArgs fAll (aCons (mLc (([("thing", 11)] : List (Str × Nat)).map (·.2)) [11] (iSq (mVar 10)) (mYes) (mBin oEq (mCall 1 w__law_made (aCons (mVar 11) (aNil))) (mC (.str "BadBook")))) (aNil))))))))))))
end LY
namespace LY
open PySem PySem.Spec PyProof.Rows L2
def top (i : Nat) : Stmt := PySem.Challenge.pw_onerest_k76_rule_books_grow.main.body.getD i (.Pass ⟨0, 0, 0, 0⟩)
def inCls (i j : Nat) : Stmt := (match top i with
  | .ClassDef _ _ _ b _ _ _ _ _ _ _ => b
  | _ => []).getD j (.Pass ⟨0, 0, 0, 0⟩)
structure TX (K : PySem.W.Frag) (mg : Str → Option Value) : Prop where
  fx : FX K mg
  b_ValueError : mg "ValueError" = none
  b_all : mg "all" = none
  b_bool : mg "bool" = none
  b_enumerate : mg "enumerate" = none
  b_int : mg "int" = none
  b_isinstance : mg "isinstance" = none
  b_len : mg "len" = none
  b_max : mg "max" = none
  b_min : mg "min" = none
  b_range : mg "range" = none
  b_tuple : mg "tuple" = none
  b_zip : mg "zip" = none
  g_MOST_RULES : ∃ t, mg "MOST_RULES" = some (.int 12 t)
  g_MOST_STATES : ∃ t, mg "MOST_STATES" = some (.int 4 t)
  c_BadBook : ∃ C, mg "BadBook" = some (.ref C)
  c_BadRule : ∃ C, mg "BadRule" = some (.ref C)
  c_BadState : ∃ C, mg "BadState" = some (.ref C)
  c_BadTree : ∃ C, mg "BadTree" = some (.ref C)
  c_NoEnd : ∃ C, mg "NoEnd" = some (.ref C)
  c_NoNode : ∃ C, mg "NoNode" = some (.ref C)
  c_NoOneRest : ∃ C, mg "NoOneRest" = some (.ref C)
  c_RestError : ∃ C, mg "RestError" = some (.ref C)
  c_RuleBook : ∃ C, mg "RuleBook" = some (.ref C)
  c_TooMany : ∃ C, mg "TooMany" = some (.ref C)
  o_RuleBook : ClsOk K mg .RuleBook
  mk_RuleBook : MkOk K mg .RuleBook
  fn_RuleBook : ∀ f C, mg "RuleBook" = some (.ref C) → Meth K C "__getitem__" f → PySem.W.fnIn K f = true
  op_RuleBook_add : ∀ C, mg "RuleBook" = some (.ref C) → opB K C "add" = true
theorem sc_is_integer : FnScope ["thing"] ["thing"] (defScope (top 14)) := ⟨rfl, rfl, rfl, by decide +kernel, rfl, by decide +kernel, by decide +kernel⟩
theorem k_is_integer {P : Program} {w : World} {K : PySem.W.Frag} {mg : Str → Option Value} {base : Heap} {f : Addr} {fd : FuncData} (T : TX K mg) (hm : mg "is_integer" = some (.ref f)) (F : FunD K "is_integer" "is_integer" (defArgs (top 14)) (defBody (top 14)) (defScope (top 14)) [] [] f fd) : Fk P w K mg base "is_integer" ["thing"] 3 (fDef 1 m_is_integer) :=
  ⟨f, fd, hm, F.kp, F.bindsN (fun _ _ _ _ _ _ us hl => match us, hl with | [_], _ => rfl), def_ok (k := 2) F sc_is_integer fun cdv A outer s H E hr =>
    have tk : Takes (cxOf (L2.CX P w) P w K mg base ["thing"] "is_integer" (defScope (top 14)) f cdv A outer s H E) (fun cls d _ H => E cls d H) := takes_of rfl rfl rfl rfl
    have hx := px_of tk
    have hu : (A.deeper (envOfC "is_integer" (defScope (top 14)) s.heap.objs.size f cdv)).units + 65 < cLine := by have := hr.un; omega
    (s_one (s_ret (e_and (e_blt (cr_isi T.fx) ok_isi T.b_isinstance (a_cons (e_var 0) (a_cons (e_ty "int" T.b_int) a_nil))) (e_one (e_not (e_blt (cr_isi T.fx) ok_isi T.b_isinstance (a_cons (e_var 0) (a_cons (e_ty "bool" T.b_bool) a_nil))))))))⟩
theorem sc_is_below : FnScope ["many", "thing"] ["many", "thing"] (defScope (top 15)) := ⟨rfl, rfl, rfl, by decide +kernel, rfl, by decide +kernel, by decide +kernel⟩
theorem k_is_below {P : Program} {w : World} {K : PySem.W.Frag} {mg : Str → Option Value} {base : Heap} {f : Addr} {fd : FuncData} (T : TX K mg) (hm : mg "is_below" = some (.ref f)) (F : FunD K "is_below" "is_below" (defArgs (top 15)) (defBody (top 15)) (defScope (top 15)) [] [] f fd) (c_is_integer : Fk P w K mg base "is_integer" ["thing"] 3 w_is_integer) : Fk P w K mg base "is_below" ["many", "thing"] 5 (fDef 2 m_is_below) :=
  ⟨f, fd, hm, F.kp, F.bindsN (fun _ _ _ _ _ _ us hl => match us, hl with | [_, _], _ => rfl), def_ok (k := 4) F sc_is_below fun cdv A outer s H E hr =>
    have tk : Takes (cxOf (L2.CX P w) P w K mg base ["many", "thing"] "is_below" (defScope (top 15)) f cdv A outer s H E) (fun cls d _ H => E cls d H) := takes_of rfl rfl rfl rfl
    have hx := px_of tk
    have hu : (A.deeper (envOfC "is_below" (defScope (top 15)) s.heap.objs.size f cdv)).units + 65 < cLine := by have := hr.un; omega
    (s_one (s_ret (e_and (e_call c_is_integer (hr.mono (by decide : 3 ≤ _)) hx (a_cons (e_var 1) a_nil)) (e_one (e_chain op_le (ok_cmpI _) op_lt (ok_cmpI _) e_int (e_var 1) (e_var 0))))))⟩
theorem sc_is_rule : FnScope ["many", "thing", "above", "own", "new", "signal", "state"] ["many", "thing"] (defScope (top 16)) := ⟨rfl, rfl, rfl, by decide +kernel, rfl, by decide +kernel, by decide +kernel⟩
theorem k_is_rule {P : Program} {w : World} {K : PySem.W.Frag} {mg : Str → Option Value} {base : Heap} {f : Addr} {fd : FuncData} (T : TX K mg) (hm : mg "is_rule" = some (.ref f)) (F : FunD K "is_rule" "is_rule" (defArgs (top 16)) (defBody (top 16)) (defScope (top 16)) [] [] f fd) (c_is_below : Fk P w K mg base "is_below" ["many", "thing"] 5 w_is_below) : Fk P w K mg base "is_rule" ["many", "thing"] 7 (fDef 7 m_is_rule) :=
  ⟨f, fd, hm, F.kp, F.bindsN (fun _ _ _ _ _ _ us hl => match us, hl with | [_, _], _ => rfl), def_ok (k := 6) F sc_is_rule fun cdv A outer s H E hr =>
    have tk : Takes (cxOf (L2.CX P w) P w K mg base ["many", "thing", "above", "own", "new", "signal", "state"] "is_rule" (defScope (top 16)) f cdv A outer s H E) (fun cls d _ H => E cls d H) := takes_of rfl rfl rfl rfl
    have hx := px_of tk
    have hu : (A.deeper (envOfC "is_rule" (defScope (top 16)) s.heap.objs.size f cdv)).units + 65 < cLine := by have := hr.un; omega
    (s_cons (s_if (t_w (t_or (t_not (t_val (e_blt (cr_isi T.fx) ok_isi T.b_isinstance (a_cons (e_var 1) (a_cons (e_ty "tuple" T.b_tuple) a_nil))))) (t_or1 (t_cmp (op_neD hr.units) ok_ne rfl (e_blt cr_len ok_len T.b_len (a_cons (e_var 1) a_nil)) e_int)))) (s_one (s_ret e_bl)) s_nil) (s_cons (s_asg (e_var 1) (g_tup rfl (gs_cons (g_name 2 sc_is_rule.nd) (gs_cons (g_name 3 sc_is_rule.nd) (gs_cons (g_name 4 sc_is_rule.nd) (gs_cons (g_name 5 sc_is_rule.nd) gs_nil)))))) (s_cons (s_if (t_w (t_or (t_not (t_val (e_call c_is_below (hr.mono (by decide : 5 ≤ _)) hx (a_cons (e_var 0) (a_cons (e_var 2) a_nil))))) (t_or (t_not (t_val (e_call c_is_below (hr.mono (by decide : 5 ≤ _)) hx (a_cons (e_var 0) (a_cons (e_var 3) a_nil))))) (t_or (t_not (t_val (e_call c_is_below (hr.mono (by decide : 5 ≤ _)) hx (a_cons (e_var 0) (a_cons (e_var 4) a_nil))))) (t_or1 (t_cmp (op_eqD hr.units) ok_eq rfl (e_var 3) (e_var 4))))))) (s_one (s_ret e_bl)) s_nil) (s_cons (s_if (t_w (t_or (t_not (t_val (e_blt (cr_isi T.fx) ok_isi T.b_isinstance (a_cons (e_var 5) (a_cons (e_ty "tuple" T.b_tuple) a_nil))))) (t_or1 (t_cmp (op_neD hr.units) ok_ne rfl (e_blt cr_len ok_len T.b_len (a_cons (e_var 5) a_nil)) (e_var 0))))) (s_one (s_ret e_bl)) s_nil) (s_one (s_ret (e_blt (cr_all rfl) ok_all T.b_all (a_cons (e_lc [6] [("state", 6)] rfl sc_is_rule.nd (i_sq (e_var 5)) (by exact (show BlkOk ["many", "thing", "above", "own", "new", "signal", "state"] (defScope (top 16)) _ [("state", 6)] from ⟨rfl, by decide +kernel, by decide +kernel, by decide +kernel, by decide +kernel⟩)) (fun _ _ _ _ _ => (tg_nm 6 sc_is_rule.nd)) (fun _ _ _ _ _ => ts_nil) (fun _ _ _ _ _ => (e_call c_is_below (hr.mono (by decide : 5 ≤ _)) px0 (a_cons (e_var 0) (a_cons (e_var 6) a_nil))))) a_nil))))))))⟩
theorem sc_RuleBook__init__ : FnScope ["self", "n", "rules"] ["self", "n", "rules"] (defScope (inCls 54 0)) := ⟨rfl, rfl, rfl, by decide +kernel, rfl, by decide +kernel, by decide +kernel⟩
theorem k_RuleBook__init__ {P : Program} {w : World} {K : PySem.W.Frag} {mg : Str → Option Value} {base : Heap} {f : Addr} {fd : FuncData} {dvs : List V} (T : TX K mg) (hm : ∀ C, mg "RuleBook" = some (.ref C) → Meth K C "__init__" f) (F : FunD K "__init__" "RuleBook.__init__" (defArgs (inCls 54 0)) (defBody (inCls 54 0)) (defScope (inCls 54 0)) dvs [] f fd) (hdv : ∀ H α, RL K mg H α dd_RuleBook__init__ dvs) (c_is_integer : Fk P w K mg base "is_integer" ["thing"] 3 w_is_integer) : Fm P w K mg base .RuleBook "__init__" dd_RuleBook__init__ ["self", "n", "rules"] 5 (fDef 3 m_RuleBook__init__) := by
  have hl : dvs.length = 1 := ((hdv H0 ⟨[], []⟩).length).symm
  obtain ⟨dvl, hv, hb⟩ := F.binds1 (ps := ["self", "n", "rules"]) 2 0 (by intro z; rw [z] at hl; cases hl) (by rw [hl] <;> rfl) (fun T kV doc pm an cdv ct us its h1 h2 => by rw [hl] at h2; exact match us, its, h1, h2 with | [_, _], [_], _, _ => ⟨_, rfl, rfl⟩)
  exact ⟨f, fd, dvs.drop 0, dvl, hm, hv, fun H α => (hdv H α).drop 0, hb, def_ok (k := 4) F sc_RuleBook__init__ fun cdv A outer s H E hr =>
    have tk : Takes (cxOf (L2.CX P w) P w K mg base ["self", "n", "rules"] "RuleBook.__init__" (defScope (inCls 54 0)) f cdv A outer s H E) (fun cls d _ H => E cls d H) := takes_of rfl rfl rfl rfl
    have hx := px_of tk
    have hu : (A.deeper (envOfC "RuleBook.__init__" (defScope (inCls 54 0)) s.heap.objs.size f cdv)).units + 65 < cLine := by have := hr.un; omega
    (s_cons (s_if (t_w (t_or (t_not (t_val (e_call c_is_integer (hr.mono (by decide : 3 ≤ _)) hx (a_cons (e_var 1) a_nil)))) (t_or (t_cmp op_lt (ok_cmpI _) rfl (e_var 1) e_int) (t_or1 (t_cmp op_gt (ok_cmpI _) rfl (e_var 1) (e_gint T.g_MOST_STATES)))))) (s_one (s_raise .BadBook T.fx T.c_BadBook rfl tk)) s_nil) (s_cons (s_fld .RuleBook 0 T.o_RuleBook (e_var 0) (e_var 1)) (s_one (s_fld .RuleBook 1 T.o_RuleBook (e_var 0) (e_var 2)))))⟩
theorem k_RuleBook__init___1 {P : Program} {w : World} {K : PySem.W.Frag} {mg : Str → Option Value} {base : Heap} {f : Addr} {fd : FuncData} {dvs : List V} (T : TX K mg) (hm : ∀ C, mg "RuleBook" = some (.ref C) → Meth K C "__init__" f) (F : FunD K "__init__" "RuleBook.__init__" (defArgs (inCls 54 0)) (defBody (inCls 54 0)) (defScope (inCls 54 0)) dvs [] f fd) (hdv : ∀ H α, RL K mg H α dd_RuleBook__init__ dvs) (c_is_integer : Fk P w K mg base "is_integer" ["thing"] 3 w_is_integer) : Fm P w K mg base .RuleBook "__init__" (dd_RuleBook__init__.drop 1) ["self", "n", "rules"] 5 (fDef 3 m_RuleBook__init__) := by
  have hl : dvs.length = 1 := ((hdv H0 ⟨[], []⟩).length).symm
  obtain ⟨dvl, hv, hb⟩ := F.binds1 (ps := ["self", "n", "rules"]) 3 1 (by intro z; rw [z] at hl; cases hl) (by rw [hl] <;> rfl) (fun T kV doc pm an cdv ct us its h1 h2 => by rw [hl] at h2; exact match us, its, h1, h2 with | [_, _, _], [_], _, _ => ⟨_, rfl, rfl⟩)
  exact ⟨f, fd, dvs.drop 1, dvl, hm, hv, fun H α => (hdv H α).drop 1, hb, def_ok (k := 4) F sc_RuleBook__init__ fun cdv A outer s H E hr =>
    have tk : Takes (cxOf (L2.CX P w) P w K mg base ["self", "n", "rules"] "RuleBook.__init__" (defScope (inCls 54 0)) f cdv A outer s H E) (fun cls d _ H => E cls d H) := takes_of rfl rfl rfl rfl
    have hx := px_of tk
    have hu : (A.deeper (envOfC "RuleBook.__init__" (defScope (inCls 54 0)) s.heap.objs.size f cdv)).units + 65 < cLine := by have := hr.un; omega
    (s_cons (s_if (t_w (t_or (t_not (t_val (e_call c_is_integer (hr.mono (by decide : 3 ≤ _)) hx (a_cons (e_var 1) a_nil)))) (t_or (t_cmp op_lt (ok_cmpI _) rfl (e_var 1) e_int) (t_or1 (t_cmp op_gt (ok_cmpI _) rfl (e_var 1) (e_gint T.g_MOST_STATES)))))) (s_one (s_raise .BadBook T.fx T.c_BadBook rfl tk)) s_nil) (s_cons (s_fld .RuleBook 0 T.o_RuleBook (e_var 0) (e_var 1)) (s_one (s_fld .RuleBook 1 T.o_RuleBook (e_var 0) (e_var 2)))))⟩
theorem sc_RuleBook__add__ : FnScope ["self", "rule"] ["self", "rule"] (defScope (inCls 54 1)) := ⟨rfl, rfl, rfl, by decide +kernel, rfl, by decide +kernel, by decide +kernel⟩
theorem k_RuleBook__add__ {P : Program} {w : World} {K : PySem.W.Frag} {mg : Str → Option Value} {base : Heap} {f : Addr} {fd : FuncData} (T : TX K mg) (hm : ∀ C, mg "RuleBook" = some (.ref C) → Meth K C "__add__" f) (F : FunD K "__add__" "RuleBook.__add__" (defArgs (inCls 54 1)) (defBody (inCls 54 1)) (defScope (inCls 54 1)) [] [] f fd) (r_mk_RuleBook_1 : ∀ ds s, stLo s s.length → loL s.length ds = true → Ref s.length (fMake .RuleBook 3 (dd_RuleBook__init__.drop 1) (fDef 3 m_RuleBook__init__) ds s) (mk_RuleBook_1 ds s)) (c_RuleBook__init___1 : Fm P w K mg base .RuleBook "__init__" (dd_RuleBook__init__.drop 1) ["self", "n", "rules"] 5 (fDef 3 m_RuleBook__init__)) (c_is_rule : Fk P w K mg base "is_rule" ["many", "thing"] 7 w_is_rule) : Fm P w K mg base .RuleBook "__add__" [] ["self", "rule"] 9 (fDef 2 m_RuleBook__add__) :=
  ⟨f, fd, [], [], hm, .nil, fun _ _ => RL.nil, F.bindsN (fun _ _ _ _ _ _ us hl => match us, hl with | [_, _], _ => rfl), def_ok (k := 8) F sc_RuleBook__add__ fun cdv A outer s H E hr =>
    have tk : Takes (cxOf (L2.CX P w) P w K mg base ["self", "rule"] "RuleBook.__add__" (defScope (inCls 54 1)) f cdv A outer s H E) (fun cls d _ H => E cls d H) := takes_of rfl rfl rfl rfl
    have hx := px_of tk
    have hu : (A.deeper (envOfC "RuleBook.__add__" (defScope (inCls 54 1)) s.heap.objs.size f cdv)).units + 65 < cLine := by have := hr.un; omega
    (s_cons (s_if (t_w (t_or (t_not (t_val (e_call c_is_rule (hr.mono (by decide : 7 ≤ _)) hx (a_cons (e_fld .RuleBook 0 T.o_RuleBook (e_var 0)) (a_cons (e_var 1) a_nil))))) (t_or (t_cmp (op_inU hu) (ok_inU false) rfl (e_var 1) (e_fld .RuleBook 1 T.o_RuleBook (e_var 0))) (t_or1 (t_cmp op_ge (ok_cmpI _) rfl (e_blt cr_len ok_len T.b_len (a_cons (e_fld .RuleBook 1 T.o_RuleBook (e_var 0)) a_nil)) (e_gint T.g_MOST_RULES)))))) (s_one (s_raise .BadRule T.fx T.c_BadRule rfl tk)) s_nil) (s_one (s_ret (e_make c_RuleBook__init___1 r_mk_RuleBook_1 T.mk_RuleBook T.c_RuleBook (hr.mono (by decide : 6 ≤ _)) hx (a_cons (e_fld .RuleBook 0 T.o_RuleBook (e_var 0)) (a_cons (e_tup (a_star (e_fld .RuleBook 1 T.o_RuleBook (e_var 0)) (a_cons (e_var 1) a_nil))) a_nil))))))⟩
theorem sc_RuleBook__contains__ : FnScope ["self", "rule"] ["self", "rule"] (defScope (inCls 54 3)) := ⟨rfl, rfl, rfl, by decide +kernel, rfl, by decide +kernel, by decide +kernel⟩
theorem k_RuleBook__contains__ {P : Program} {w : World} {K : PySem.W.Frag} {mg : Str → Option Value} {base : Heap} {f : Addr} {fd : FuncData} (T : TX K mg) (hm : ∀ C, mg "RuleBook" = some (.ref C) → Meth K C "__contains__" f) (F : FunD K "__contains__" "RuleBook.__contains__" (defArgs (inCls 54 3)) (defBody (inCls 54 3)) (defScope (inCls 54 3)) [] [] f fd) (c_is_rule : Fk P w K mg base "is_rule" ["many", "thing"] 7 w_is_rule) : Fm P w K mg base .RuleBook "__contains__" [] ["self", "rule"] 9 (fDef 2 m_RuleBook__contains__) :=
  ⟨f, fd, [], [], hm, .nil, fun _ _ => RL.nil, F.bindsN (fun _ _ _ _ _ _ us hl => match us, hl with | [_, _], _ => rfl), def_ok (k := 8) F sc_RuleBook__contains__ fun cdv A outer s H E hr =>
    have tk : Takes (cxOf (L2.CX P w) P w K mg base ["self", "rule"] "RuleBook.__contains__" (defScope (inCls 54 3)) f cdv A outer s H E) (fun cls d _ H => E cls d H) := takes_of rfl rfl rfl rfl
    have hx := px_of tk
    have hu : (A.deeper (envOfC "RuleBook.__contains__" (defScope (inCls 54 3)) s.heap.objs.size f cdv)).units + 65 < cLine := by have := hr.un; omega
    (s_one (s_ret (e_and (e_call c_is_rule (hr.mono (by decide : 7 ≤ _)) hx (a_cons (e_fld .RuleBook 0 T.o_RuleBook (e_var 0)) (a_cons (e_var 1) a_nil))) (e_one (e_cmp (op_inU hu) (ok_inU false) rfl (e_var 1) (e_fld .RuleBook 1 T.o_RuleBook (e_var 0)))))))⟩
theorem sc_RuleBook__len__ : FnScope ["self"] ["self"] (defScope (inCls 54 4)) := ⟨rfl, rfl, rfl, by decide +kernel, rfl, by decide +kernel, by decide +kernel⟩
theorem k_RuleBook__len__ {P : Program} {w : World} {K : PySem.W.Frag} {mg : Str → Option Value} {base : Heap} {f : Addr} {fd : FuncData} (T : TX K mg) (hm : ∀ C, mg "RuleBook" = some (.ref C) → Meth K C "__len__" f) (F : FunD K "__len__" "RuleBook.__len__" (defArgs (inCls 54 4)) (defBody (inCls 54 4)) (defScope (inCls 54 4)) [] [] f fd) : Fm P w K mg base .RuleBook "__len__" [] ["self"] 3 (fDef 1 m_RuleBook__len__) :=
  ⟨f, fd, [], [], hm, .nil, fun _ _ => RL.nil, F.bindsN (fun _ _ _ _ _ _ us hl => match us, hl with | [_], _ => rfl), def_ok (k := 2) F sc_RuleBook__len__ fun cdv A outer s H E hr =>
    have tk : Takes (cxOf (L2.CX P w) P w K mg base ["self"] "RuleBook.__len__" (defScope (inCls 54 4)) f cdv A outer s H E) (fun cls d _ H => E cls d H) := takes_of rfl rfl rfl rfl
    have hx := px_of tk
    have hu : (A.deeper (envOfC "RuleBook.__len__" (defScope (inCls 54 4)) s.heap.objs.size f cdv)).units + 65 < cLine := by have := hr.un; omega
    (s_one (s_ret (e_blt cr_len ok_len T.b_len (a_cons (e_fld .RuleBook 1 T.o_RuleBook (e_var 0)) a_nil))))⟩
theorem sc_RuleBook__getitem__ : FnScope ["self", "number"] ["self", "number"] (defScope (inCls 54 5)) := ⟨rfl, rfl, rfl, by decide +kernel, rfl, by decide +kernel, by decide +kernel⟩
theorem k_RuleBook__getitem__ {P : Program} {w : World} {K : PySem.W.Frag} {mg : Str → Option Value} {base : Heap} {f : Addr} {fd : FuncData} (T : TX K mg) (hm : ∀ C, mg "RuleBook" = some (.ref C) → Meth K C "__getitem__" f) (F : FunD K "__getitem__" "RuleBook.__getitem__" (defArgs (inCls 54 5)) (defBody (inCls 54 5)) (defScope (inCls 54 5)) [] [] f fd) (c_is_below : Fk P w K mg base "is_below" ["many", "thing"] 5 w_is_below) : Fm P w K mg base .RuleBook "__getitem__" [] ["self", "number"] 7 (fDef 2 m_RuleBook__getitem__) :=
  ⟨f, fd, [], [], hm, .nil, fun _ _ => RL.nil, F.bindsN (fun _ _ _ _ _ _ us hl => match us, hl with | [_, _], _ => rfl), def_ok (k := 6) F sc_RuleBook__getitem__ fun cdv A outer s H E hr =>
    have tk : Takes (cxOf (L2.CX P w) P w K mg base ["self", "number"] "RuleBook.__getitem__" (defScope (inCls 54 5)) f cdv A outer s H E) (fun cls d _ H => E cls d H) := takes_of rfl rfl rfl rfl
    have hx := px_of tk
    have hu : (A.deeper (envOfC "RuleBook.__getitem__" (defScope (inCls 54 5)) s.heap.objs.size f cdv)).units + 65 < cLine := by have := hr.un; omega
    (s_cons (s_if (t_not (t_val (e_call c_is_below (hr.mono (by decide : 5 ≤ _)) hx (a_cons (e_blt cr_len ok_len T.b_len (a_cons (e_fld .RuleBook 1 T.o_RuleBook (e_var 0)) a_nil)) (a_cons (e_var 1) a_nil))))) (s_one (s_raise .BadRule T.fx T.c_BadRule rfl tk)) s_nil) (s_one (s_ret (e_ix (e_fld .RuleBook 1 T.o_RuleBook (e_var 0)) (e_var 1)))))⟩
theorem sc_RuleBooktold : FnScope ["self"] ["self"] (defScope (inCls 54 10)) := ⟨rfl, rfl, rfl, by decide +kernel, rfl, by decide +kernel, by decide +kernel⟩
theorem k_RuleBooktold {P : Program} {w : World} {K : PySem.W.Frag} {mg : Str → Option Value} {base : Heap} {f : Addr} {fd : FuncData} (T : TX K mg) (hm : ∀ C, mg "RuleBook" = some (.ref C) → Meth K C "told" f) (F : FunD K "told" "RuleBook.told" (defArgs (inCls 54 10)) (defBody (inCls 54 10)) (defScope (inCls 54 10)) [] [] f fd) : Fm P w K mg base .RuleBook "told" [] ["self"] 3 (fDef 1 m_RuleBooktold) :=
  ⟨f, fd, [], [], hm, .nil, fun _ _ => RL.nil, F.bindsN (fun _ _ _ _ _ _ us hl => match us, hl with | [_], _ => rfl), def_ok (k := 2) F sc_RuleBooktold fun cdv A outer s H E hr =>
    have tk : Takes (cxOf (L2.CX P w) P w K mg base ["self"] "RuleBook.told" (defScope (inCls 54 10)) f cdv A outer s H E) (fun cls d _ H => E cls d H) := takes_of rfl rfl rfl rfl
    have hx := px_of tk
    have hu : (A.deeper (envOfC "RuleBook.told" (defScope (inCls 54 10)) s.heap.objs.size f cdv)).units + 65 < cLine := by have := hr.un; omega
    (s_one (s_ret (e_tup (a_cons (e_fld .RuleBook 0 T.o_RuleBook (e_var 0)) (a_cons (e_fld .RuleBook 1 T.o_RuleBook (e_var 0)) a_nil)))))⟩
theorem sc__law_source : FnScope ["script", "k", "cell", "digits"] ["script", "k"] (defScope (top 56)) := ⟨rfl, rfl, rfl, by decide +kernel, rfl, by decide +kernel, by decide +kernel⟩
theorem k__law_source {P : Program} {w : World} {K : PySem.W.Frag} {mg : Str → Option Value} {base : Heap} {f : Addr} {fd : FuncData} (T : TX K mg) (hm : mg "_law_source" = some (.ref f)) (F : FunD K "_law_source" "_law_source" (defArgs (top 56)) (defBody (top 56)) (defScope (top 56)) [] [] f fd) : Fk P w K mg base "_law_source" ["script", "k"] 3 (fDef 4 m__law_source) :=
  ⟨f, fd, hm, F.kp, F.bindsN (fun _ _ _ _ _ _ us hl => match us, hl with | [_, _], _ => rfl), def_ok (k := 2) F sc__law_source fun cdv A outer s H E hr =>
    have tk : Takes (cxOf (L2.CX P w) P w K mg base ["script", "k", "cell", "digits"] "_law_source" (defScope (top 56)) f cdv A outer s H E) (fun cls d _ H => E cls d H) := takes_of rfl rfl rfl rfl
    have hx := px_of tk
    have hu : (A.deeper (envOfC "_law_source" (defScope (top 56)) s.heap.objs.size f cdv)).units + 65 < cLine := by have := hr.un; omega
    (s_cons (s_set 2 sc__law_source.nd e_int) (s_cons (s_if (t_cmp op_gt (ok_cmpI _) rfl (e_blt cr_len ok_len T.b_len (a_cons (e_var 0) a_nil)) e_int) (s_one (s_set 2 sc__law_source.nd (e_ix (e_var 0) (e_bin op_mod ok_mod (e_cty cr_int ok_int T.b_int (a_cons (e_var 1) a_nil)) (e_blt cr_len ok_len T.b_len (a_cons (e_var 0) a_nil)))))) s_nil) (s_cons (s_set 3 sc__law_source.nd e_int) (s_cons (s_if (t_cmp op_ge (ok_cmpI _) rfl (e_var 2) (e_bin op_pow ok_pow e_int e_int)) (s_one (s_set 3 sc__law_source.nd (e_bin op_sub ok_sub (e_var 2) (e_bin op_pow ok_pow e_int e_int)))) s_nil) (s_one (s_ret (e_cel (a_cons (e_var 3) (a_cons (e_bin op_addA ok_add (e_bin op_mod ok_mod (e_cty cr_int ok_int T.b_int (a_cons (e_var 2) a_nil)) (e_bin op_addA ok_add (e_bin op_pow ok_pow e_int e_int) e_int)) (e_var 1)) (a_cons e_int a_nil))))))))))⟩
theorem sc__law_take : FnScope ["source", "many", "drawn", "seed", "step", "mixed"] ["source", "many"] (defScope (top 57)) := ⟨rfl, rfl, rfl, by decide +kernel, rfl, by decide +kernel, by decide +kernel⟩
theorem k__law_take {P : Program} {w : World} {K : PySem.W.Frag} {mg : Str → Option Value} {base : Heap} {f : Addr} {fd : FuncData} (T : TX K mg) (hm : mg "_law_take" = some (.ref f)) (F : FunD K "_law_take" "_law_take" (defArgs (top 57)) (defBody (top 57)) (defScope (top 57)) [] [] f fd) : Fk P w K mg base "_law_take" ["source", "many"] 3 (fDef 6 m__law_take) :=
  ⟨f, fd, hm, F.kp, F.bindsN (fun _ _ _ _ _ _ us hl => match us, hl with | [_, _], _ => rfl), def_ok (k := 2) F sc__law_take fun cdv A outer s H E hr =>
    have tk : Takes (cxOf (L2.CX P w) P w K mg base ["source", "many", "drawn", "seed", "step", "mixed"] "_law_take" (defScope (top 57)) f cdv A outer s H E) (fun cls d _ H => E cls d H) := takes_of rfl rfl rfl rfl
    have hx := px_of tk
    have hu : (A.deeper (envOfC "_law_take" (defScope (top 57)) s.heap.objs.size f cdv)).units + 65 < cLine := by have := hr.un; omega
    (s_cons (s_asg (e_bin op_addA ok_add (e_ix (e_var 0) e_int) e_int) (g_sub (e_var 0) e_int)) (s_cons (s_if (t_cmp op_gt (ok_cmpI _) rfl (e_ix (e_var 0) e_int) e_int) (s_cons (s_set 2 sc__law_take.nd (e_bin op_mod ok_mod (e_cty cr_int ok_int T.b_int (a_cons (e_ix (e_var 0) e_int) a_nil)) (e_var 1))) (s_cons (s_asg (e_bin op_fdivW ok_div (e_ix (e_var 0) e_int) (e_var 1)) (g_sub (e_var 0) e_int)) (s_one (s_ret (e_var 2))))) s_nil) (s_cons (s_set 3 sc__law_take.nd (e_ix (e_var 0) e_int)) (s_cons (s_set 4 sc__law_take.nd (e_ix (e_var 0) e_int)) (s_cons (s_set 5 sc__law_take.nd (e_bin op_mulW ok_mul (e_bin op_addA ok_add (e_bin op_addA ok_add (e_var 3) (e_bin op_mulW ok_mul (e_bin op_mulW ok_mul e_int (e_var 4)) (e_var 4))) e_int) (e_bin op_addA ok_add (e_bin op_addA ok_add (e_var 3) (e_bin op_mulW ok_mul e_int (e_var 4))) e_int))) (s_cons (s_set 5 sc__law_take.nd (e_bin op_addA ok_add (e_bin op_fdivW ok_div (e_bin op_mulW ok_mul (e_var 5) (e_var 5)) e_int) (e_bin op_mulW ok_mul (e_var 3) (e_var 4)))) (s_one (s_ret (e_bin op_mod ok_mod (e_bin op_mod ok_mod (e_bin op_mulW ok_mul (e_bin op_mod ok_mod (e_cty cr_int ok_int T.b_int (a_cons (e_var 5) a_nil)) e_int) e_int) e_int) (e_var 1))))))))))⟩
theorem sc__law_drawn_rules : FnScope ["script", "first", "n", "rules", "source", "many", "k", "own", "new", "rule", "j"] ["script", "first", "n"] (defScope (top 58)) := ⟨rfl, rfl, rfl, by decide +kernel, rfl, by decide +kernel, by decide +kernel⟩
theorem k__law_drawn_rules {P : Program} {w : World} {K : PySem.W.Frag} {mg : Str → Option Value} {base : Heap} {f : Addr} {fd : FuncData} (T : TX K mg) (hm : mg "_law_drawn_rules" = some (.ref f)) (F : FunD K "_law_drawn_rules" "_law_drawn_rules" (defArgs (top 58)) (defBody (top 58)) (defScope (top 58)) [] [] f fd) (c__law_take : Fk P w K mg base "_law_take" ["source", "many"] 3 w__law_take) (c__law_source : Fk P w K mg base "_law_source" ["script", "k"] 3 w__law_source) : Fk P w K mg base "_law_drawn_rules" ["script", "first", "n"] 5 (fDef 11 m__law_drawn_rules) :=
  ⟨f, fd, hm, F.kp, F.bindsN (fun _ _ _ _ _ _ us hl => match us, hl with | [_, _, _], _ => rfl), def_ok (k := 4) F sc__law_drawn_rules fun cdv A outer s H E hr =>
    have tk : Takes (cxOf (L2.CX P w) P w K mg base ["script", "first", "n", "rules", "source", "many", "k", "own", "new", "rule", "j"] "_law_drawn_rules" (defScope (top 58)) f cdv A outer s H E) (fun cls d _ H => E cls d H) := takes_of rfl rfl rfl rfl
    have hx := px_of tk
    have hu : (A.deeper (envOfC "_law_drawn_rules" (defScope (top 58)) s.heap.objs.size f cdv)).units + 65 < cLine := by have := hr.un; omega
    (s_cons (s_set 3 sc__law_drawn_rules.nd (e_cel a_nil)) (s_cons (s_set 4 sc__law_drawn_rules.nd (e_call c__law_source (hr.mono (by decide : 3 ≤ _)) hx (a_cons (e_var 0) (a_cons (e_var 1) a_nil)))) (s_cons (s_set 5 sc__law_drawn_rules.nd e_int) (s_cons (s_if (t_cmp op_gt (ok_cmpI _) rfl (e_var 2) e_int) (s_one (s_set 5 sc__law_drawn_rules.nd (e_blt (call_min2 rfl) ok_min2 T.b_min (a_cons e_int (a_cons (e_blt (call_max2 rfl) ok_max2 T.b_max (a_cons (e_call c__law_take (hr.mono (by decide : 3 ≤ _)) hx (a_cons (e_var 4) (a_cons e_int a_nil))) (a_cons (e_bin op_sub ok_sub (e_blt cr_len ok_len T.b_len (a_cons (e_var 0) a_nil)) (e_var 1)) a_nil))) a_nil))))) s_nil) (s_cons (s_for (passes_of rfl) rfl (i_range1 T.b_range (a_cons (e_var 5) a_nil)) (g_name 6 sc__law_drawn_rules.nd) (s_cons (s_if (t_chain op_lt (ok_cmpI _) op_lt (ok_cmpI _) e_int (e_var 6) (e_bin op_sub ok_sub (e_blt cr_len ok_len T.b_len (a_cons (e_var 0) a_nil)) (e_var 1))) (s_one (s_set 4 sc__law_drawn_rules.nd (e_call c__law_source (hr.mono (by decide : 3 ≤ _)) hx (a_cons (e_var 0) (a_cons (e_bin op_addA ok_add (e_var 1) (e_var 6)) a_nil))))) s_nil) (s_cons (s_set 7 sc__law_drawn_rules.nd (e_call c__law_take (hr.mono (by decide : 3 ≤ _)) hx (a_cons (e_var 4) (a_cons (e_var 2) a_nil)))) (s_cons (s_set 8 sc__law_drawn_rules.nd (e_bin op_mod ok_mod (e_cty cr_int ok_int T.b_int (a_cons (e_bin op_addA ok_add (e_bin op_addA ok_add (e_var 7) e_int) (e_call c__law_take (hr.mono (by decide : 3 ≤ _)) hx (a_cons (e_var 4) (a_cons (e_bin op_sub ok_sub (e_var 2) e_int) a_nil)))) a_nil)) (e_var 2))) (s_cons (s_set 9 sc__law_drawn_rules.nd (e_tup (a_cons (e_call c__law_take (hr.mono (by decide : 3 ≤ _)) hx (a_cons (e_var 4) (a_cons (e_var 2) a_nil))) (a_cons (e_var 7) (a_cons (e_var 8) (a_cons (e_cty cr_tupOf ok_tupOf T.b_tuple (a_cons (e_lc [10] [("j", 10)] rfl sc__law_drawn_rules.nd (i_range1 T.b_range (a_cons (e_var 2) a_nil)) (by exact (show BlkOk ["script", "first", "n", "rules", "source", "many", "k", "own", "new", "rule", "j"] (defScope (top 58)) _ [("j", 10)] from ⟨rfl, by decide +kernel, by decide +kernel, by decide +kernel, by decide +kernel⟩)) (fun _ _ _ _ _ => (tg_nm 10 sc__law_drawn_rules.nd)) (fun _ _ _ _ _ => ts_nil) (fun _ _ _ _ _ => (e_call c__law_take (hr.mono (by decide : 3 ≤ _)) px0 (a_cons (e_var 4) (a_cons (e_var 2) a_nil))))) a_nil)) a_nil)))))) (s_one (s_if (t_cmp (op_notInU hu) (ok_inU true) rfl (e_var 9) (e_var 3)) (s_one (s_drop (e_app (e_var 3) (e_var 9)))) s_nil))))))) (s_one (s_ret (e_var 3))))))))⟩
theorem sc__law_name : FnScope ["caught", "names", "flags", "found", "name", "flag"] ["caught"] (defScope (top 59)) := ⟨rfl, rfl, rfl, by decide +kernel, rfl, by decide +kernel, by decide +kernel⟩
theorem k__law_name {P : Program} {w : World} {K : PySem.W.Frag} {mg : Str → Option Value} {base : Heap} {f : Addr} {fd : FuncData} (T : TX K mg) (hm : mg "_law_name" = some (.ref f)) (F : FunD K "_law_name" "_law_name" (defArgs (top 59)) (defBody (top 59)) (defScope (top 59)) [] [] f fd) : Fk P w K mg base "_law_name" ["caught"] 3 (fDef 6 m__law_name) :=
  ⟨f, fd, hm, F.kp, F.bindsN (fun _ _ _ _ _ _ us hl => match us, hl with | [_], _ => rfl), def_ok (k := 2) F sc__law_name fun cdv A outer s H E hr =>
    have tk : Takes (cxOf (L2.CX P w) P w K mg base ["caught", "names", "flags", "found", "name", "flag"] "_law_name" (defScope (top 59)) f cdv A outer s H E) (fun cls d _ H => E cls d H) := takes_of rfl rfl rfl rfl
    have hx := px_of tk
    have hu : (A.deeper (envOfC "_law_name" (defScope (top 59)) s.heap.objs.size f cdv)).units + 65 < cLine := by have := hr.un; omega
    (s_cons (s_set 1 sc__law_name.nd (e_lst (a_cons e_str (a_cons e_str (a_cons e_str (a_cons e_str (a_cons e_str (a_cons e_str (a_cons e_str (a_cons e_str a_nil)))))))))) (s_cons (s_set 2 sc__law_name.nd (e_lst (a_cons (e_blt (cr_isi T.fx) ok_isi T.b_isinstance (a_cons (e_var 0) (a_cons (e_cls .BadBook T.c_BadBook.choose_spec) a_nil))) (a_cons (e_blt (cr_isi T.fx) ok_isi T.b_isinstance (a_cons (e_var 0) (a_cons (e_cls .BadRule T.c_BadRule.choose_spec) a_nil))) (a_cons (e_blt (cr_isi T.fx) ok_isi T.b_isinstance (a_cons (e_var 0) (a_cons (e_cls .BadState T.c_BadState.choose_spec) a_nil))) (a_cons (e_blt (cr_isi T.fx) ok_isi T.b_isinstance (a_cons (e_var 0) (a_cons (e_cls .BadTree T.c_BadTree.choose_spec) a_nil))) (a_cons (e_blt (cr_isi T.fx) ok_isi T.b_isinstance (a_cons (e_var 0) (a_cons (e_cls .NoEnd T.c_NoEnd.choose_spec) a_nil))) (a_cons (e_blt (cr_isi T.fx) ok_isi T.b_isinstance (a_cons (e_var 0) (a_cons (e_cls .NoNode T.c_NoNode.choose_spec) a_nil))) (a_cons (e_blt (cr_isi T.fx) ok_isi T.b_isinstance (a_cons (e_var 0) (a_cons (e_cls .NoOneRest T.c_NoOneRest.choose_spec) a_nil))) (a_cons (e_blt (cr_isi T.fx) ok_isi T.b_isinstance (a_cons (e_var 0) (a_cons (e_cls .TooMany T.c_TooMany.choose_spec) a_nil))) a_nil)))))))))) (s_cons (s_lc 3 [4, 5] [("name", 4), ("flag", 5)] rfl sc__law_name.nd (i_zip T.b_zip (a_cons (e_var 1) (a_cons (e_var 2) a_nil))) (by exact (show BlkOk ["caught", "names", "flags", "found", "name", "flag"] (defScope (top 59)) _ [("name", 4), ("flag", 5)] from ⟨rfl, by decide +kernel, by decide +kernel, by decide +kernel, by decide +kernel⟩)) (fun _ _ _ _ _ => (tg_tup [4, 5] rfl (by decide) (gn_cons 4 (gn_cons 5 gn_nil sc__law_name.nd) sc__law_name.nd))) (fun _ _ _ _ _ => (ts_one (t_val (e_var 5)))) (fun _ _ _ _ _ => (e_var 4))) (s_cons (s_if (t_w (t_and (t_cmp (op_eqD hr.units) ok_eq rfl (e_blt cr_len ok_len T.b_len (a_cons (e_var 3) a_nil)) e_int) (t_and1 (t_val (e_blt (cr_isi T.fx) ok_isi T.b_isinstance (a_cons (e_var 0) (a_cons (e_ty "ValueError" T.b_ValueError) a_nil))))))) (s_one (s_ret (e_ix (e_var 3) e_int))) s_nil) (s_one (s_ret e_str))))))⟩
theorem sc__law_made : FnScope ["n", "caught", "e"] ["n"] (defScope (top 60)) := ⟨rfl, rfl, rfl, by decide +kernel, rfl, by decide +kernel, by decide +kernel⟩
theorem k__law_made {P : Program} {w : World} {K : PySem.W.Frag} {mg : Str → Option Value} {base : Heap} {f : Addr} {fd : FuncData} (T : TX K mg) (hm : mg "_law_made" = some (.ref f)) (F : FunD K "_law_made" "_law_made" (defArgs (top 60)) (defBody (top 60)) (defScope (top 60)) [] [] f fd) (c__law_name : Fk P w K mg base "_law_name" ["caught"] 3 w__law_name) (r_mk_RuleBook : ∀ ds s, stLo s s.length → loL s.length ds = true → Ref s.length (fMake .RuleBook 3 dd_RuleBook__init__ (fDef 3 m_RuleBook__init__) ds s) (mk_RuleBook ds s)) (c_RuleBook__init__ : Fm P w K mg base .RuleBook "__init__" dd_RuleBook__init__ ["self", "n", "rules"] 5 (fDef 3 m_RuleBook__init__)) : Fk P w K mg base "_law_made" ["n"] 7 (fDef 3 m__law_made) :=
  ⟨f, fd, hm, F.kp, F.bindsN (fun _ _ _ _ _ _ us hl => match us, hl with | [_], _ => rfl), def_ok (k := 6) F sc__law_made fun cdv A outer s H E hr =>
    have tk : Takes (cxOf (L2.CX P w) P w K mg base ["n", "caught", "e"] "_law_made" (defScope (top 60)) f cdv A outer s H E) (fun cls d _ H => E cls d H) := takes_of rfl rfl rfl rfl
    have hx := px_of tk
    have hu : (A.deeper (envOfC "_law_made" (defScope (top 60)) s.heap.objs.size f cdv)).units + 65 < cLine := by have := hr.un; omega
    (s_cons (s_set 1 sc__law_made.nd e_non) (s_cons (s_tryAs .RestError 2 1 T.fx T.c_RestError sc__law_made.nd tk (fun _ _ _ tk2 => (s_one (s_drop (e_make c_RuleBook__init__ r_mk_RuleBook T.mk_RuleBook T.c_RuleBook (hr.mono (by decide : 6 ≤ _)) (px_of tk2) (a_cons (e_var 0) a_nil)))))) (s_one (s_ret (e_call c__law_name (hr.mono (by decide : 3 ≤ _)) hx (a_cons (e_var 1) a_nil))))))⟩
theorem sc__law_at : FnScope ["book", "number", "caught", "e"] ["book", "number"] (defScope (top 61)) := ⟨rfl, rfl, rfl, by decide +kernel, rfl, by decide +kernel, by decide +kernel⟩
theorem k__law_at {P : Program} {w : World} {K : PySem.W.Frag} {mg : Str → Option Value} {base : Heap} {f : Addr} {fd : FuncData} (T : TX K mg) (hm : mg "_law_at" = some (.ref f)) (F : FunD K "_law_at" "_law_at" (defArgs (top 61)) (defBody (top 61)) (defScope (top 61)) [] [] f fd) (c__law_name : Fk P w K mg base "_law_name" ["caught"] 3 w__law_name) (c_RuleBook__getitem__ : Fm P w K mg base .RuleBook "__getitem__" [] ["self", "number"] 7 w_RuleBook__getitem__) : Fk P w K mg base "_law_at" ["book", "number"] 9 (fDef 4 m__law_at) :=
  ⟨f, fd, hm, F.kp, F.bindsN (fun _ _ _ _ _ _ us hl => match us, hl with | [_, _], _ => rfl), def_ok (k := 8) F sc__law_at fun cdv A outer s H E hr =>
    have tk : Takes (cxOf (L2.CX P w) P w K mg base ["book", "number", "caught", "e"] "_law_at" (defScope (top 61)) f cdv A outer s H E) (fun cls d _ H => E cls d H) := takes_of rfl rfl rfl rfl
    have hx := px_of tk
    have hu : (A.deeper (envOfC "_law_at" (defScope (top 61)) s.heap.objs.size f cdv)).units + 65 < cLine := by have := hr.un; omega
    (s_cons (s_set 2 sc__law_at.nd e_non) (s_cons (s_tryAs .RestError 3 2 T.fx T.c_RestError sc__law_at.nd tk (fun _ _ _ tk2 => (s_one (s_drop (e_ownIx c_RuleBook__getitem__ rfl (hr.mono (by decide : 8 ≤ _)) (px_of tk2) T.fn_RuleBook (e_var 0) (e_var 1)))))) (s_one (s_ret (e_call c__law_name (hr.mono (by decide : 3 ≤ _)) hx (a_cons (e_var 2) a_nil))))))⟩
theorem sc__law_holds : FnScope ["book", "n", "rules", "k", "rule"] ["book", "n", "rules"] (defScope (top 62)) := ⟨rfl, rfl, rfl, by decide +kernel, rfl, by decide +kernel, by decide +kernel⟩
theorem k__law_holds {P : Program} {w : World} {K : PySem.W.Frag} {mg : Str → Option Value} {base : Heap} {f : Addr} {fd : FuncData} (T : TX K mg) (hm : mg "_law_holds" = some (.ref f)) (F : FunD K "_law_holds" "_law_holds" (defArgs (top 62)) (defBody (top 62)) (defScope (top 62)) [] [] f fd) (c_RuleBook__getitem__ : Fm P w K mg base .RuleBook "__getitem__" [] ["self", "number"] 7 w_RuleBook__getitem__) (c_RuleBook__contains__ : Fm P w K mg base .RuleBook "__contains__" [] ["self", "rule"] 9 w_RuleBook__contains__) (c_RuleBooktold : Fm P w K mg base .RuleBook "told" [] ["self"] 3 w_RuleBooktold) (c_RuleBook__len__ : Fm P w K mg base .RuleBook "__len__" [] ["self"] 3 w_RuleBook__len__) : Fk P w K mg base "_law_holds" ["book", "n", "rules"] 11 (fDef 5 m__law_holds) :=
  ⟨f, fd, hm, F.kp, F.bindsN (fun _ _ _ _ _ _ us hl => match us, hl with | [_, _, _], _ => rfl), def_ok (k := 10) F sc__law_holds fun cdv A outer s H E hr =>
    have tk : Takes (cxOf (L2.CX P w) P w K mg base ["book", "n", "rules", "k", "rule"] "_law_holds" (defScope (top 62)) f cdv A outer s H E) (fun cls d _ H => E cls d H) := takes_of rfl rfl rfl rfl
    have hx := px_of tk
    have hu : (A.deeper (envOfC "_law_holds" (defScope (top 62)) s.heap.objs.size f cdv)).units + 65 < cLine := by have := hr.un; omega
    (s_cons (s_if (t_w (t_or (t_cmp (op_neD hr.units) ok_ne rfl (e_meth0 c_RuleBooktold T.o_RuleBook (hr.mono (by decide : 3 ≤ _)) hx (e_var 0) ) (e_tup (a_cons (e_var 1) (a_cons (e_cty cr_tupOf ok_tupOf T.b_tuple (a_cons (e_var 2) a_nil)) a_nil)))) (t_or (t_not (t_val (e_blt (cr_isi T.fx) ok_isi T.b_isinstance (a_cons (e_ix (e_meth0 c_RuleBooktold T.o_RuleBook (hr.mono (by decide : 3 ≤ _)) hx (e_var 0) ) e_int) (a_cons (e_ty "tuple" T.b_tuple) a_nil))))) (t_or1 (t_cmp (op_neD hr.units) ok_ne rfl (e_ownLen c_RuleBook__len__ rfl (hr.mono (by decide : 4 ≤ _)) hx T.b_len (e_var 0)) (e_blt cr_len ok_len T.b_len (a_cons (e_var 2) a_nil))))))) (s_one (s_ret e_bl)) s_nil) (s_one (s_ret (e_and (e_cmp (op_eqD hr.units) ok_eq rfl (e_lc [3] [("k", 3)] rfl sc__law_holds.nd (i_range1 T.b_range (a_cons (e_blt cr_len ok_len T.b_len (a_cons (e_var 2) a_nil)) a_nil)) (by exact (show BlkOk ["book", "n", "rules", "k", "rule"] (defScope (top 62)) _ [("k", 3)] from ⟨rfl, by decide +kernel, by decide +kernel, by decide +kernel, by decide +kernel⟩)) (fun _ _ _ _ _ => (tg_nm 3 sc__law_holds.nd)) (fun _ _ _ _ _ => ts_nil) (fun _ _ _ _ _ => (e_ownIx c_RuleBook__getitem__ rfl (hr.mono (by decide : 8 ≤ _)) px0 T.fn_RuleBook (e_var 0) (e_var 3)))) (e_var 2)) (e_one (e_blt (cr_all rfl) ok_all T.b_all (a_cons (e_lc [4] [("rule", 4)] rfl sc__law_holds.nd (i_sq (e_var 2)) (by exact (show BlkOk ["book", "n", "rules", "k", "rule"] (defScope (top 62)) _ [("rule", 4)] from ⟨rfl, by decide +kernel, by decide +kernel, by decide +kernel, by decide +kernel⟩)) (fun _ _ _ _ _ => (tg_nm 4 sc__law_holds.nd)) (fun _ _ _ _ _ => ts_nil) (fun _ _ _ _ _ => (e_ownIn false c_RuleBook__contains__ rfl (hr.mono (by decide : 9 ≤ _)) px0 (e_var 4) (e_var 0)))) a_nil)))))))⟩
theorem sc_law : FnScope ["script", "cell", "n", "rules", "made", "rule", "single", "k", "book", "number", "wrong", "thing"] ["script"] (defScope (top 63)) := ⟨rfl, rfl, rfl, by decide +kernel, rfl, by decide +kernel, by decide +kernel⟩
theorem k_law {P : Program} {w : World} {K : PySem.W.Frag} {mg : Str → Option Value} {base : Heap} {f : Addr} {fd : FuncData} (T : TX K mg) (F : FunD K "law" "law" (defArgs (top 63)) (defBody (top 63)) (defScope (top 63)) [] [] f fd) (c__law_made : Fk P w K mg base "_law_made" ["n"] 7 w__law_made) (c__law_take : Fk P w K mg base "_law_take" ["source", "many"] 3 w__law_take) (c__law_at : Fk P w K mg base "_law_at" ["book", "number"] 9 w__law_at) (c__law_holds : Fk P w K mg base "_law_holds" ["book", "n", "rules"] 11 w__law_holds) (c_RuleBook__add__ : Fm P w K mg base .RuleBook "__add__" [] ["self", "rule"] 9 w_RuleBook__add__) (c_RuleBook__contains__ : Fm P w K mg base .RuleBook "__contains__" [] ["self", "rule"] 9 w_RuleBook__contains__) (r_mk_RuleBook : ∀ ds s, stLo s s.length → loL s.length ds = true → Ref s.length (fMake .RuleBook 3 dd_RuleBook__init__ (fDef 3 m_RuleBook__init__) ds s) (mk_RuleBook ds s)) (c_RuleBook__init__ : Fm P w K mg base .RuleBook "__init__" dd_RuleBook__init__ ["self", "n", "rules"] 5 (fDef 3 m_RuleBook__init__)) (c__law_drawn_rules : Fk P w K mg base "_law_drawn_rules" ["script", "first", "n"] 5 w__law_drawn_rules) (c__law_source : Fk P w K mg base "_law_source" ["script", "k"] 3 w__law_source) : FnOk P w K mg base (L2.CX P w) 13 f fd ["script"] (spM K mg 1 (fDef 12 m_law)) :=
  def_ok (k := 12) F sc_law fun cdv A outer s H E hr =>
    have tk : Takes (cxOf (L2.CX P w) P w K mg base ["script", "cell", "n", "rules", "made", "rule", "single", "k", "book", "number", "wrong", "thing"] "law" (defScope (top 63)) f cdv A outer s H E) (fun cls d _ H => E cls d H) := takes_of rfl rfl rfl rfl
    have hx := px_of tk
    have hu : (A.deeper (envOfC "law" (defScope (top 63)) s.heap.objs.size f cdv)).units + 65 < cLine := by have := hr.un; omega
    (s_cons (s_set 1 sc_law.nd (e_call c__law_source (hr.mono (by decide : 3 ≤ _)) hx (a_cons (e_var 0) (a_cons e_int a_nil)))) (s_cons (s_set 2 sc_law.nd (e_bin op_addA ok_add e_int (e_call c__law_take (hr.mono (by decide : 3 ≤ _)) hx (a_cons (e_var 1) (a_cons e_int a_nil))))) (s_cons (s_set 3 sc_law.nd (e_call c__law_drawn_rules (hr.mono (by decide : 5 ≤ _)) hx (a_cons (e_var 0) (a_cons e_int (a_cons (e_var 2) a_nil))))) (s_cons (s_set 4 sc_law.nd (e_cel (a_cons (e_make c_RuleBook__init__ r_mk_RuleBook T.mk_RuleBook T.c_RuleBook (hr.mono (by decide : 6 ≤ _)) hx (a_cons (e_var 2) a_nil)) a_nil))) (s_cons (s_for (passes_of rfl) rfl (i_sq (e_var 3)) (g_name 5 sc_law.nd) (s_cons (s_if (t_ownIn false c_RuleBook__contains__ rfl (hr.mono (by decide : 9 ≤ _)) hx (e_var 5) (e_ix (e_var 4) (e_un un_neg ok_neg e_int))) (s_one (s_ret e_bl)) s_nil) (s_cons (s_drop (e_app (e_var 4) (e_ownB c_RuleBook__add__ rfl rfl T.op_RuleBook_add (hr.mono (by decide : 9 ≤ _)) hx (e_ix (e_var 4) (e_un un_neg ok_neg e_int)) (e_var 5)))) (s_one (s_if (t_not (t_val (e_call c__law_holds (hr.mono (by decide : 11 ≤ _)) hx (a_cons (e_ix (e_var 4) (e_un un_neg ok_neg e_int)) (a_cons (e_var 2) (a_cons (e_sl false (e_var 3) o_none (o_some (e_bin op_sub ok_sub (e_blt cr_len ok_len T.b_len (a_cons (e_var 4) a_nil)) e_int))) a_nil)))))) (s_one (s_ret e_bl)) s_nil))))) (s_cons (s_set 6 sc_law.nd (e_lc [5] [("rule", 5)] rfl sc_law.nd (i_sq (e_var 3)) (by exact (show BlkOk ["script", "cell", "n", "rules", "made", "rule", "single", "k", "book", "number", "wrong", "thing"] (defScope (top 63)) _ [("rule", 5)] from ⟨rfl, by decide +kernel, by decide +kernel, by decide +kernel, by decide +kernel⟩)) (fun _ _ _ _ _ => (tg_nm 5 sc_law.nd)) (fun _ _ _ _ _ => ts_nil) (fun _ _ _ _ _ => (e_ownB c_RuleBook__add__ rfl rfl T.op_RuleBook_add (hr.mono (by decide : 9 ≤ _)) px0 (e_ix (e_var 4) e_int) (e_var 5))))) (s_cons (s_if (t_not (t_val (e_blt (cr_all rfl) ok_all T.b_all (a_cons (e_lc [7] [("k", 7)] rfl sc_law.nd (i_range1 T.b_range (a_cons (e_blt cr_len ok_len T.b_len (a_cons (e_var 3) a_nil)) a_nil)) (by exact (show BlkOk ["script", "cell", "n", "rules", "made", "rule", "single", "k", "book", "number", "wrong", "thing"] (defScope (top 63)) _ [("k", 7)] from ⟨rfl, by decide +kernel, by decide +kernel, by decide +kernel, by decide +kernel⟩)) (fun _ _ _ _ _ => (tg_nm 7 sc_law.nd)) (fun _ _ _ _ _ => ts_nil) (fun _ _ _ _ _ => (e_call c__law_holds (hr.mono (by decide : 11 ≤ _)) px0 (a_cons (e_ix (e_var 6) (e_var 7)) (a_cons (e_var 2) (a_cons (e_lst (a_cons (e_ix (e_var 3) (e_var 7)) a_nil)) a_nil)))))) a_nil)))) (s_one (s_ret e_bl)) s_nil) (s_cons (s_for (passes_of rfl) rfl (i_enum T.b_enumerate (a_cons (e_var 4) a_nil)) (g_tup rfl (gs_cons (g_name 7 sc_law.nd) (gs_cons (g_name 8 sc_law.nd) gs_nil))) (s_cons (s_if (t_not (t_val (e_call c__law_holds (hr.mono (by decide : 11 ≤ _)) hx (a_cons (e_var 8) (a_cons (e_var 2) (a_cons (e_sl false (e_var 3) o_none (o_some (e_var 7))) a_nil)))))) (s_one (s_ret e_bl)) s_nil) (s_one (s_for (passes_of rfl) rfl (i_sq (e_lst (a_cons (e_un un_neg ok_neg e_int) (a_cons (e_var 7) (a_cons (e_bin op_addA ok_add (e_bin op_addA ok_add (e_var 7) e_int) (e_call c__law_take (hr.mono (by decide : 3 ≤ _)) hx (a_cons (e_var 1) (a_cons e_int a_nil)))) (a_cons (e_bin op_sub ok_sub (e_un un_neg ok_neg e_int) (e_call c__law_take (hr.mono (by decide : 3 ≤ _)) hx (a_cons (e_var 1) (a_cons e_int a_nil)))) (a_cons e_bl (a_cons e_bl (a_cons e_non (a_cons e_str (a_cons (e_tup (a_cons e_int a_nil)) a_nil))))))))))) (g_name 9 sc_law.nd) (s_one (s_if (t_cmp (op_neD hr.units) ok_ne rfl (e_call c__law_at (hr.mono (by decide : 9 ≤ _)) hx (a_cons (e_var 8) (a_cons (e_var 9) a_nil))) e_str) (s_one (s_ret e_bl)) s_nil)))))) (s_cons (s_set 10 sc_law.nd (e_lst (a_cons e_int (a_cons e_int (a_cons (e_un un_neg ok_neg e_int) (a_cons (e_bin op_addA ok_add e_int (e_call c__law_take (hr.mono (by decide : 3 ≤ _)) hx (a_cons (e_var 1) (a_cons (e_bin op_pow ok_pow e_int e_int) a_nil)))) (a_cons e_bl (a_cons e_non (a_cons e_str (a_cons (e_tup (a_cons e_int a_nil)) (a_cons (e_lst (a_cons e_int a_nil)) a_nil))))))))))) (s_one (s_ret (e_blt (cr_all rfl) ok_all T.b_all (a_cons (e_lc [11] [("thing", 11)] rfl sc_law.nd (i_sq (e_var 10)) (by exact (show BlkOk ["script", "cell", "n", "rules", "made", "rule", "single", "k", "book", "number", "wrong", "thing"] (defScope (top 63)) _ [("thing", 11)] from ⟨rfl, by decide +kernel, by decide +kernel, by decide +kernel, by decide +kernel⟩)) (fun _ _ _ _ _ => (tg_nm 11 sc_law.nd)) (fun _ _ _ _ _ => ts_nil) (fun _ _ _ _ _ => (e_cmp (op_eqD hr.units) ok_eq rfl (e_call c__law_made (hr.mono (by decide : 7 ≤ _)) px0 (a_cons (e_var 11) a_nil)) e_str))) a_nil)))))))))))))
end LY
/-! Rbk: the functions of books.py and RuleBook do so. -/
namespace LY
open PySem PySem.Spec PyProof.Rows L2
theorem Ref.data {d : D} {k : Nat} {s : Store} (hs : stLo s s.length) (hd : d.dat k = true) : Ref s.length (.ok d s) (.ok d s) := Ref.ok (Nat.le_refl _) hs (dat_lo d hd)
theorem bl_dat {b : Bool} : (D.bl b).dat 1 = true := by unfold D.dat; rfl
theorem r_is_integer : ∀ ds s, ds.length = 1 → stLo s s.length → loL s.length ds = true → Ref s.length (fDef 1 m_is_integer ds s) (w_is_integer ds s) := fun ds s hl hs hd => by
  match ds, hl with
  | [x], _ =>
    simp only [w_is_integer]
    split
    · rename_i h
      have e : fDef 1 m_is_integer [x] s = .ok (.bl x.isI) s := by
        simp only [m_is_integer, fDef, ent, mRet, mRetN, mSeq, mIf, mOrT, mAndT, mNotT, mTst, mArgs, aCons, aNil, mVar, mC, mUn, mBin, mChain, mAndV, mOrV, mNotV, mIfE, mSet, mAsg, mDrop, mRaise, mNx, mBrk, mCnt, gNm, gTp, gsCons, gsNil, mCall, bind_ok, bind_er, out_ok, out_er, seq_nx, seq_rt, seq_er, seq_bk, seq_ct, only_nx, only_er, turn_nx, turn_ct, turn_bk, turn_rt, turn_er, fin_nx, fin_rt, fin_er, ne_ok, List.map_cons, List.map_nil, List.cons_append, List.nil_append, List.length_cons, List.length_nil, List.replicate_succ, List.replicate_zero, List.getElem?_cons_zero, List.getElem?_cons_succ, List.set_cons_zero, List.set_cons_succ, Nat.reduceAdd, Nat.reduceSub, Nat.reduceLT, Bool.not_true, Bool.not_false, Bool.false_eq_true, reduceIte, eq_self, decide_true, decide_false, Bool.true_and, Bool.false_and, Bool.and_true, Bool.and_false, Bool.or_true, Bool.true_or, Bool.or_false, Bool.false_or, if_true, if_false, isi_int h, isi_bool h]
        cases x <;> rfl
      rw [e]
      exact Ref.data hs bl_dat
    · exact Ref.bad
theorem r_is_below : ∀ ds s, ds.length = 2 → stLo s s.length → loL s.length ds = true → Ref s.length (fDef 2 m_is_below ds s) (w_is_below ds s) := fun ds s hl hs hd => by
  unfold w_is_below
  split
  · rename_i n x
    split
    · rename_i h
      have e : fDef 2 m_is_below [.int n, x] s = .ok (.bl (belowB n x)) s := by
        simp only [m_is_below, fDef, ent, mRet, mRetN, mSeq, mIf, mOrT, mAndT, mNotT, mTst, mArgs, aCons, aNil, mVar, mC, mUn, mBin, mChain, mAndV, mOrV, mNotV, mIfE, mSet, mAsg, mDrop, mRaise, mNx, mBrk, mCnt, gNm, gTp, gsCons, gsNil, mCall, bind_ok, bind_er, out_ok, out_er, seq_nx, seq_rt, seq_er, seq_bk, seq_ct, only_nx, only_er, turn_nx, turn_ct, turn_bk, turn_rt, turn_er, fin_nx, fin_rt, fin_er, ne_ok, List.map_cons, List.map_nil, List.cons_append, List.nil_append, List.length_cons, List.length_nil, List.replicate_succ, List.replicate_zero, List.getElem?_cons_zero, List.getElem?_cons_succ, List.set_cons_zero, List.set_cons_succ, Nat.reduceAdd, Nat.reduceSub, Nat.reduceLT, Bool.not_true, Bool.not_false, Bool.false_eq_true, reduceIte, eq_self, decide_true, decide_false, Bool.true_and, Bool.false_and, Bool.and_true, Bool.and_false, Bool.or_true, Bool.true_or, Bool.or_false, Bool.false_or, if_true, if_false, w_is_integer, h]
        cases x <;> try rfl
        rename_i i
        simp only [D.isI, oCmpI, fDef, ent, mRet, mRetN, mSeq, mIf, mOrT, mAndT, mNotT, mTst, mArgs, aCons, aNil, mVar, mC, mUn, mBin, mChain, mAndV, mOrV, mNotV, mIfE, mSet, mAsg, mDrop, mRaise, mNx, mBrk, mCnt, gNm, gTp, gsCons, gsNil, mCall, bind_ok, bind_er, out_ok, out_er, seq_nx, seq_rt, seq_er, seq_bk, seq_ct, only_nx, only_er, turn_nx, turn_ct, turn_bk, turn_rt, turn_er, fin_nx, fin_rt, fin_er, ne_ok, List.map_cons, List.map_nil, List.cons_append, List.nil_append, List.length_cons, List.length_nil, List.replicate_succ, List.replicate_zero, List.getElem?_cons_zero, List.getElem?_cons_succ, List.set_cons_zero, List.set_cons_succ, Nat.reduceAdd, Nat.reduceSub, Nat.reduceLT, Bool.not_true, Bool.not_false, Bool.false_eq_true, reduceIte, eq_self, decide_true, decide_false, Bool.true_and, Bool.false_and, Bool.and_true, Bool.and_false, Bool.or_true, Bool.true_or, Bool.or_false, Bool.false_or, if_true, if_false, belowB]
        by_cases h0 : 0 ≤ i <;> simp [h0, fDef, ent, mRet, mRetN, mSeq, mIf, mOrT, mAndT, mNotT, mTst, mArgs, aCons, aNil, mVar, mC, mUn, mBin, mChain, mAndV, mOrV, mNotV, mIfE, mSet, mAsg, mDrop, mRaise, mNx, mBrk, mCnt, gNm, gTp, gsCons, gsNil, mCall, bind_ok, bind_er, out_ok, out_er, seq_nx, seq_rt, seq_er, seq_bk, seq_ct, only_nx, only_er, turn_nx, turn_ct, turn_bk, turn_rt, turn_er, fin_nx, fin_rt, fin_er, ne_ok, List.map_cons, List.map_nil, List.cons_append, List.nil_append, List.length_cons, List.length_nil, List.replicate_succ, List.replicate_zero, List.getElem?_cons_zero, List.getElem?_cons_succ, List.set_cons_zero, List.set_cons_succ, Nat.reduceAdd, Nat.reduceSub, Nat.reduceLT, Bool.not_true, Bool.not_false, Bool.false_eq_true, reduceIte, eq_self, decide_true, decide_false, Bool.true_and, Bool.false_and, Bool.and_true, Bool.and_false, Bool.or_true, Bool.true_or, Bool.or_false, Bool.false_or, if_true, if_false]
      rw [e]
      exact Ref.data hs bl_dat
    · exact Ref.bad
  · exact Ref.bad
theorem bls_map {p : D → Bool} : ∀ {ds : List D}, D.bls (ds.map fun d => .bl (p d)) = some (ds.map p)
  | [] => by unfold D.bls; rfl
  | d :: ds => by
    rw [List.map_cons]
    unfold D.bls
    rw [bls_map]
    rfl
theorem all_map {p : D → Bool} {ds : List D} {s : Store} : fAll [.fl (ds.map fun d => .bl (p d))] s = .ok (.bl (ds.all p)) s := by
  unfold fAll
  have e : (D.ls s (.fl (ds.map fun d => .bl (p d)))).bind D.bls = some (ds.map p) := bls_map
  dsimp only
  rw [e]
  dsimp only
  rw [List.all_map]
  rfl
theorem eqv_int {i j : Int} : (D.int i).eqv (.int j) = decide (i = j) := by
  unfold D.eqv D.py PyData.eqv
  exact (Bool.beq_eq_decide_eq i j)
theorem w_below {n : Int} {x : D} {s : Store} (h : x.dat 40 = true) : w_is_below [.int n, x] s = .ok (.bl (belowB n x)) s := by
  unfold w_is_below
  dsimp only
  rw [if_pos h]
theorem below_int {n : Int} {x : D} (h : belowB n x = true) : ∃ i : Int, x = .int i ∧ 0 ≤ i ∧ i < n := by
  cases x with
  | int i =>
    unfold belowB at h
    obtain ⟨h1, h2⟩ := Bool.and_eq_true_iff.mp h
    exact ⟨i, rfl, of_decide_eq_true h1, of_decide_eq_true h2⟩
  | _ => cases h
theorem int_dat {i : Int} {k : Nat} : (D.int i).dat k = true := by unfold D.dat; rfl
theorem seq_tup {ds : List D} {s : Store} : (D.tup ds).seq s = some ds := rfl
theorem len_tup {ds : List D} {s : Store} : fLen [.tup ds] s = .ok (.int ds.length) s := rfl
theorem len_fl {ds : List D} {s : Store} : fLen [.fl ds] s = .ok (.int ds.length) s := rfl
theorem sig_all {n : Int} {ss : List D} {s : Store} {p1 p2 p3 p4 : Option D} (hd : datL ss 39 = true) (hl : (ss.length : Int) = n) (hn : n ≤ 1000) :
    mLc [6] [6] (iSq (mVar 5)) (mYes) (mCall 2 w_is_below (aCons (mVar 0) (aCons (mVar 6) (aNil)))) [some (.int n), p1, p2, p3, p4, some (.tup ss), none] s = .ok (.fl (ss.map fun d => .bl (belowB n d))) s := by
  refine lc_map (gd := []) (ds := ss) (by simp only [iSq, fDef, ent, mRet, mRetN, mSeq, mIf, mOrT, mAndT, mNotT, mTst, mArgs, aCons, aNil, mVar, mC, mUn, mBin, mChain, mAndV, mOrV, mNotV, mIfE, mSet, mAsg, mDrop, mRaise, mNx, mBrk, mCnt, gNm, gTp, gsCons, gsNil, mCall, bind_ok, bind_er, out_ok, out_er, seq_nx, seq_rt, seq_er, seq_bk, seq_ct, only_nx, only_er, turn_nx, turn_ct, turn_bk, turn_rt, turn_er, fin_nx, fin_rt, fin_er, ne_ok, List.map_cons, List.map_nil, List.cons_append, List.nil_append, List.length_cons, List.length_nil, List.replicate_succ, List.replicate_zero, List.getElem?_cons_zero, List.getElem?_cons_succ, List.set_cons_zero, List.set_cons_succ, Nat.reduceAdd, Nat.reduceSub, Nat.reduceLT, Bool.not_true, Bool.not_false, Bool.false_eq_true, reduceIte, eq_self, decide_true, decide_false, Bool.true_and, Bool.false_and, Bool.and_true, Bool.and_false, Bool.or_true, Bool.true_or, Bool.or_false, Bool.false_or, if_true, if_false]) (by unfold big; omega) gd_nil _ fun d m => ⟨_, rfl, ?_⟩
  have hd1 : d.dat 40 = true := dat_mono d (datL_all.mp hd d m) (by decide)
  simp only [wipeR, fDef, ent, mRet, mRetN, mSeq, mIf, mOrT, mAndT, mNotT, mTst, mArgs, aCons, aNil, mVar, mC, mUn, mBin, mChain, mAndV, mOrV, mNotV, mIfE, mSet, mAsg, mDrop, mRaise, mNx, mBrk, mCnt, gNm, gTp, gsCons, gsNil, mCall, bind_ok, bind_er, out_ok, out_er, seq_nx, seq_rt, seq_er, seq_bk, seq_ct, only_nx, only_er, turn_nx, turn_ct, turn_bk, turn_rt, turn_er, fin_nx, fin_rt, fin_er, ne_ok, List.map_cons, List.map_nil, List.cons_append, List.nil_append, List.length_cons, List.length_nil, List.replicate_succ, List.replicate_zero, List.getElem?_cons_zero, List.getElem?_cons_succ, List.set_cons_zero, List.set_cons_succ, Nat.reduceAdd, Nat.reduceSub, Nat.reduceLT, Bool.not_true, Bool.not_false, Bool.false_eq_true, reduceIte, eq_self, decide_true, decide_false, Bool.true_and, Bool.false_and, Bool.and_true, Bool.and_false, Bool.or_true, Bool.true_or, Bool.or_false, Bool.false_or, if_true, if_false, w_below hd1]
theorem r_is_rule : ∀ ds s, ds.length = 2 → stLo s s.length → loL s.length ds = true → Ref s.length (fDef 7 m_is_rule ds s) (w_is_rule ds s) := fun ds s hl hs hd => by
  unfold w_is_rule
  split
  · rename_i n x
    split
    · rename_i h
      obtain ⟨h, hn0, hn⟩ := h
      have e : fDef 7 m_is_rule [.int n, x] s = .ok (.bl (ruleB n x)) s := by
        have h40 := dat_mono x h (show 39 ≤ 40 by decide)
        by_cases ht : x.isT = true
        · cases x with
          | tup ds =>
            by_cases hl4 : ds.length = 4
            · match ds, hl4 with
              | [a, b, c, g], _ =>
                have hh : datL [a, b, c, g] 38 = true := by
                  unfold D.dat at h
                  exact (Bool.and_eq_true_iff.mp h).2
                have ha := fun d m => dat_mono d (datL_all.mp hh d m) (show 38 ≤ 40 by decide)
                have da := ha a (by simp)
                have db := ha b (by simp)
                have dc := ha c (by simp)
                have dg := ha g (by simp)
                have e4 : fLen [.tup [a, b, c, g]] s = .ok (.int 4) s := rfl
                simp only [m_is_rule, fDef, ent, mRet, mRetN, mSeq, mIf, mOrT, mAndT, mNotT, mTst, mArgs, aCons, aNil, mVar, mC, mUn, mBin, mChain, mAndV, mOrV, mNotV, mIfE, mSet, mAsg, mDrop, mRaise, mNx, mBrk, mCnt, gNm, gTp, gsCons, gsNil, mCall, bind_ok, bind_er, out_ok, out_er, seq_nx, seq_rt, seq_er, seq_bk, seq_ct, only_nx, only_er, turn_nx, turn_ct, turn_bk, turn_rt, turn_er, fin_nx, fin_rt, fin_er, ne_ok, List.map_cons, List.map_nil, List.cons_append, List.nil_append, List.length_cons, List.length_nil, List.replicate_succ, List.replicate_zero, List.getElem?_cons_zero, List.getElem?_cons_succ, List.set_cons_zero, List.set_cons_succ, Nat.reduceAdd, Nat.reduceSub, Nat.reduceLT, Bool.not_true, Bool.not_false, Bool.false_eq_true, reduceIte, eq_self, decide_true, decide_false, Bool.true_and, Bool.false_and, Bool.and_true, Bool.and_false, Bool.or_true, Bool.true_or, Bool.or_false, Bool.false_or, if_true, if_false, isi_tuple h40, ht, e4, oEq_dat int_dat int_dat, eqv_int, w_below da, w_below db, w_below dc]
                unfold ruleB
                by_cases ba : belowB n a = true
                · by_cases bb : belowB n b = true
                  · by_cases bc : belowB n c = true
                    · obtain ⟨ib, rfl, _⟩ := below_int bb
                      obtain ⟨ic, rfl, _⟩ := below_int bc
                      simp only [ba, bb, bc, oEq_dat int_dat int_dat, eqv_int, fDef, ent, mRet, mRetN, mSeq, mIf, mOrT, mAndT, mNotT, mTst, mArgs, aCons, aNil, mVar, mC, mUn, mBin, mChain, mAndV, mOrV, mNotV, mIfE, mSet, mAsg, mDrop, mRaise, mNx, mBrk, mCnt, gNm, gTp, gsCons, gsNil, mCall, bind_ok, bind_er, out_ok, out_er, seq_nx, seq_rt, seq_er, seq_bk, seq_ct, only_nx, only_er, turn_nx, turn_ct, turn_bk, turn_rt, turn_er, fin_nx, fin_rt, fin_er, ne_ok, List.map_cons, List.map_nil, List.cons_append, List.nil_append, List.length_cons, List.length_nil, List.replicate_succ, List.replicate_zero, List.getElem?_cons_zero, List.getElem?_cons_succ, List.set_cons_zero, List.set_cons_succ, Nat.reduceAdd, Nat.reduceSub, Nat.reduceLT, Bool.not_true, Bool.not_false, Bool.false_eq_true, reduceIte, eq_self, decide_true, decide_false, Bool.true_and, Bool.false_and, Bool.and_true, Bool.and_false, Bool.or_true, Bool.true_or, Bool.or_false, Bool.false_or, if_true, if_false]
                      by_cases hbc : ib = ic
                      · simp [hbc, fDef, ent, mRet, mRetN, mSeq, mIf, mOrT, mAndT, mNotT, mTst, mArgs, aCons, aNil, mVar, mC, mUn, mBin, mChain, mAndV, mOrV, mNotV, mIfE, mSet, mAsg, mDrop, mRaise, mNx, mBrk, mCnt, gNm, gTp, gsCons, gsNil, mCall, bind_ok, bind_er, out_ok, out_er, seq_nx, seq_rt, seq_er, seq_bk, seq_ct, only_nx, only_er, turn_nx, turn_ct, turn_bk, turn_rt, turn_er, fin_nx, fin_rt, fin_er, ne_ok, List.map_cons, List.map_nil, List.cons_append, List.nil_append, List.length_cons, List.length_nil, List.replicate_succ, List.replicate_zero, List.getElem?_cons_zero, List.getElem?_cons_succ, List.set_cons_zero, List.set_cons_succ, Nat.reduceAdd, Nat.reduceSub, Nat.reduceLT, Bool.not_true, Bool.not_false, Bool.false_eq_true, reduceIte, eq_self, decide_true, decide_false, Bool.true_and, Bool.false_and, Bool.and_true, Bool.and_false, Bool.or_true, Bool.true_or, Bool.or_false, Bool.false_or, if_true, if_false]
                      · have hbc2 : decide (ib = ic) = false := decide_eq_false hbc
                        by_cases gt : g.isT = true
                        · cases g with
                          | tup ss =>
                            have hss : datL ss 39 = true := by
                              unfold D.dat at dg
                              exact (Bool.and_eq_true_iff.mp dg).2
                            by_cases hl : (ss.length : Int) = n
                            · simp only [hbc2, isi_tuple dg, gt, len_tup, oEq_dat int_dat int_dat, eqv_int, hl, fDef, ent, mRet, mRetN, mSeq, mIf, mOrT, mAndT, mNotT, mTst, mArgs, aCons, aNil, mVar, mC, mUn, mBin, mChain, mAndV, mOrV, mNotV, mIfE, mSet, mAsg, mDrop, mRaise, mNx, mBrk, mCnt, gNm, gTp, gsCons, gsNil, mCall, bind_ok, bind_er, out_ok, out_er, seq_nx, seq_rt, seq_er, seq_bk, seq_ct, only_nx, only_er, turn_nx, turn_ct, turn_bk, turn_rt, turn_er, fin_nx, fin_rt, fin_er, ne_ok, List.map_cons, List.map_nil, List.cons_append, List.nil_append, List.length_cons, List.length_nil, List.replicate_succ, List.replicate_zero, List.getElem?_cons_zero, List.getElem?_cons_succ, List.set_cons_zero, List.set_cons_succ, Nat.reduceAdd, Nat.reduceSub, Nat.reduceLT, Bool.not_true, Bool.not_false, Bool.false_eq_true, reduceIte, eq_self, decide_true, decide_false, Bool.true_and, Bool.false_and, Bool.and_true, Bool.and_false, Bool.or_true, Bool.true_or, Bool.or_false, Bool.false_or, if_true, if_false, decide_true, Bool.not_true]
                              rw [sig_all hss hl hn]
                              simp only [fDef, ent, mRet, mRetN, mSeq, mIf, mOrT, mAndT, mNotT, mTst, mArgs, aCons, aNil, mVar, mC, mUn, mBin, mChain, mAndV, mOrV, mNotV, mIfE, mSet, mAsg, mDrop, mRaise, mNx, mBrk, mCnt, gNm, gTp, gsCons, gsNil, mCall, bind_ok, bind_er, out_ok, out_er, seq_nx, seq_rt, seq_er, seq_bk, seq_ct, only_nx, only_er, turn_nx, turn_ct, turn_bk, turn_rt, turn_er, fin_nx, fin_rt, fin_er, ne_ok, List.map_cons, List.map_nil, List.cons_append, List.nil_append, List.length_cons, List.length_nil, List.replicate_succ, List.replicate_zero, List.getElem?_cons_zero, List.getElem?_cons_succ, List.set_cons_zero, List.set_cons_succ, Nat.reduceAdd, Nat.reduceSub, Nat.reduceLT, Bool.not_true, Bool.not_false, Bool.false_eq_true, reduceIte, eq_self, decide_true, decide_false, Bool.true_and, Bool.false_and, Bool.and_true, Bool.and_false, Bool.or_true, Bool.true_or, Bool.or_false, Bool.false_or, if_true, if_false, all_map]
                              simp [sigB, hl]
                            · have hl2 : decide ((ss.length : Int) = n) = false := decide_eq_false hl
                              simp only [hbc2, isi_tuple dg, gt, len_tup, oEq_dat int_dat int_dat, eqv_int, hl2, fDef, ent, mRet, mRetN, mSeq, mIf, mOrT, mAndT, mNotT, mTst, mArgs, aCons, aNil, mVar, mC, mUn, mBin, mChain, mAndV, mOrV, mNotV, mIfE, mSet, mAsg, mDrop, mRaise, mNx, mBrk, mCnt, gNm, gTp, gsCons, gsNil, mCall, bind_ok, bind_er, out_ok, out_er, seq_nx, seq_rt, seq_er, seq_bk, seq_ct, only_nx, only_er, turn_nx, turn_ct, turn_bk, turn_rt, turn_er, fin_nx, fin_rt, fin_er, ne_ok, List.map_cons, List.map_nil, List.cons_append, List.nil_append, List.length_cons, List.length_nil, List.replicate_succ, List.replicate_zero, List.getElem?_cons_zero, List.getElem?_cons_succ, List.set_cons_zero, List.set_cons_succ, Nat.reduceAdd, Nat.reduceSub, Nat.reduceLT, Bool.not_true, Bool.not_false, Bool.false_eq_true, reduceIte, eq_self, decide_true, decide_false, Bool.true_and, Bool.false_and, Bool.and_true, Bool.and_false, Bool.or_true, Bool.true_or, Bool.or_false, Bool.false_or, if_true, if_false]
                              simp [sigB, hl]
                          | _ => cases gt
                        · have gf : g.isT = false := by simpa using gt
                          have gs : sigB n g = false := by
                            cases g <;> first | rfl | exact absurd rfl gt
                          simp only [hbc2, isi_tuple dg, gf, gs, fDef, ent, mRet, mRetN, mSeq, mIf, mOrT, mAndT, mNotT, mTst, mArgs, aCons, aNil, mVar, mC, mUn, mBin, mChain, mAndV, mOrV, mNotV, mIfE, mSet, mAsg, mDrop, mRaise, mNx, mBrk, mCnt, gNm, gTp, gsCons, gsNil, mCall, bind_ok, bind_er, out_ok, out_er, seq_nx, seq_rt, seq_er, seq_bk, seq_ct, only_nx, only_er, turn_nx, turn_ct, turn_bk, turn_rt, turn_er, fin_nx, fin_rt, fin_er, ne_ok, List.map_cons, List.map_nil, List.cons_append, List.nil_append, List.length_cons, List.length_nil, List.replicate_succ, List.replicate_zero, List.getElem?_cons_zero, List.getElem?_cons_succ, List.set_cons_zero, List.set_cons_succ, Nat.reduceAdd, Nat.reduceSub, Nat.reduceLT, Bool.not_true, Bool.not_false, Bool.false_eq_true, reduceIte, eq_self, decide_true, decide_false, Bool.true_and, Bool.false_and, Bool.and_true, Bool.and_false, Bool.or_true, Bool.true_or, Bool.or_false, Bool.false_or, if_true, if_false]
                    · simp only [ba, bb, Bool.eq_false_iff.mpr bc, fDef, ent, mRet, mRetN, mSeq, mIf, mOrT, mAndT, mNotT, mTst, mArgs, aCons, aNil, mVar, mC, mUn, mBin, mChain, mAndV, mOrV, mNotV, mIfE, mSet, mAsg, mDrop, mRaise, mNx, mBrk, mCnt, gNm, gTp, gsCons, gsNil, mCall, bind_ok, bind_er, out_ok, out_er, seq_nx, seq_rt, seq_er, seq_bk, seq_ct, only_nx, only_er, turn_nx, turn_ct, turn_bk, turn_rt, turn_er, fin_nx, fin_rt, fin_er, ne_ok, List.map_cons, List.map_nil, List.cons_append, List.nil_append, List.length_cons, List.length_nil, List.replicate_succ, List.replicate_zero, List.getElem?_cons_zero, List.getElem?_cons_succ, List.set_cons_zero, List.set_cons_succ, Nat.reduceAdd, Nat.reduceSub, Nat.reduceLT, Bool.not_true, Bool.not_false, Bool.false_eq_true, reduceIte, eq_self, decide_true, decide_false, Bool.true_and, Bool.false_and, Bool.and_true, Bool.and_false, Bool.or_true, Bool.true_or, Bool.or_false, Bool.false_or, if_true, if_false]
                  · simp only [ba, Bool.eq_false_iff.mpr bb, fDef, ent, mRet, mRetN, mSeq, mIf, mOrT, mAndT, mNotT, mTst, mArgs, aCons, aNil, mVar, mC, mUn, mBin, mChain, mAndV, mOrV, mNotV, mIfE, mSet, mAsg, mDrop, mRaise, mNx, mBrk, mCnt, gNm, gTp, gsCons, gsNil, mCall, bind_ok, bind_er, out_ok, out_er, seq_nx, seq_rt, seq_er, seq_bk, seq_ct, only_nx, only_er, turn_nx, turn_ct, turn_bk, turn_rt, turn_er, fin_nx, fin_rt, fin_er, ne_ok, List.map_cons, List.map_nil, List.cons_append, List.nil_append, List.length_cons, List.length_nil, List.replicate_succ, List.replicate_zero, List.getElem?_cons_zero, List.getElem?_cons_succ, List.set_cons_zero, List.set_cons_succ, Nat.reduceAdd, Nat.reduceSub, Nat.reduceLT, Bool.not_true, Bool.not_false, Bool.false_eq_true, reduceIte, eq_self, decide_true, decide_false, Bool.true_and, Bool.false_and, Bool.and_true, Bool.and_false, Bool.or_true, Bool.true_or, Bool.or_false, Bool.false_or, if_true, if_false]
                · simp only [Bool.eq_false_iff.mpr ba, fDef, ent, mRet, mRetN, mSeq, mIf, mOrT, mAndT, mNotT, mTst, mArgs, aCons, aNil, mVar, mC, mUn, mBin, mChain, mAndV, mOrV, mNotV, mIfE, mSet, mAsg, mDrop, mRaise, mNx, mBrk, mCnt, gNm, gTp, gsCons, gsNil, mCall, bind_ok, bind_er, out_ok, out_er, seq_nx, seq_rt, seq_er, seq_bk, seq_ct, only_nx, only_er, turn_nx, turn_ct, turn_bk, turn_rt, turn_er, fin_nx, fin_rt, fin_er, ne_ok, List.map_cons, List.map_nil, List.cons_append, List.nil_append, List.length_cons, List.length_nil, List.replicate_succ, List.replicate_zero, List.getElem?_cons_zero, List.getElem?_cons_succ, List.set_cons_zero, List.set_cons_succ, Nat.reduceAdd, Nat.reduceSub, Nat.reduceLT, Bool.not_true, Bool.not_false, Bool.false_eq_true, reduceIte, eq_self, decide_true, decide_false, Bool.true_and, Bool.false_and, Bool.and_true, Bool.and_false, Bool.or_true, Bool.true_or, Bool.or_false, Bool.false_or, if_true, if_false]
            · have hne : decide ((ds.length : Int) = 4) = false := decide_eq_false (by omega)
              have er : ruleB n (.tup ds) = false := by
                unfold ruleB
                split
                · rename_i e
                  cases e
                  exact absurd rfl hl4
                · rfl
              simp only [m_is_rule, fDef, ent, mRet, mRetN, mSeq, mIf, mOrT, mAndT, mNotT, mTst, mArgs, aCons, aNil, mVar, mC, mUn, mBin, mChain, mAndV, mOrV, mNotV, mIfE, mSet, mAsg, mDrop, mRaise, mNx, mBrk, mCnt, gNm, gTp, gsCons, gsNil, mCall, bind_ok, bind_er, out_ok, out_er, seq_nx, seq_rt, seq_er, seq_bk, seq_ct, only_nx, only_er, turn_nx, turn_ct, turn_bk, turn_rt, turn_er, fin_nx, fin_rt, fin_er, ne_ok, List.map_cons, List.map_nil, List.cons_append, List.nil_append, List.length_cons, List.length_nil, List.replicate_succ, List.replicate_zero, List.getElem?_cons_zero, List.getElem?_cons_succ, List.set_cons_zero, List.set_cons_succ, Nat.reduceAdd, Nat.reduceSub, Nat.reduceLT, Bool.not_true, Bool.not_false, Bool.false_eq_true, reduceIte, eq_self, decide_true, decide_false, Bool.true_and, Bool.false_and, Bool.and_true, Bool.and_false, Bool.or_true, Bool.true_or, Bool.or_false, Bool.false_or, if_true, if_false, isi_tuple h40, ht, len_tup, oEq_dat int_dat int_dat, eqv_int, hne, er]
          | _ => cases ht
        · have hf : x.isT = false := by simpa using ht
          have er : ruleB n x = false := by
            cases x <;> first | rfl | exact absurd rfl ht
          simp only [m_is_rule, fDef, ent, mRet, mRetN, mSeq, mIf, mOrT, mAndT, mNotT, mTst, mArgs, aCons, aNil, mVar, mC, mUn, mBin, mChain, mAndV, mOrV, mNotV, mIfE, mSet, mAsg, mDrop, mRaise, mNx, mBrk, mCnt, gNm, gTp, gsCons, gsNil, mCall, bind_ok, bind_er, out_ok, out_er, seq_nx, seq_rt, seq_er, seq_bk, seq_ct, only_nx, only_er, turn_nx, turn_ct, turn_bk, turn_rt, turn_er, fin_nx, fin_rt, fin_er, ne_ok, List.map_cons, List.map_nil, List.cons_append, List.nil_append, List.length_cons, List.length_nil, List.replicate_succ, List.replicate_zero, List.getElem?_cons_zero, List.getElem?_cons_succ, List.set_cons_zero, List.set_cons_succ, Nat.reduceAdd, Nat.reduceSub, Nat.reduceLT, Bool.not_true, Bool.not_false, Bool.false_eq_true, reduceIte, eq_self, decide_true, decide_false, Bool.true_and, Bool.false_and, Bool.and_true, Bool.and_false, Bool.or_true, Bool.true_or, Bool.or_false, Bool.false_or, if_true, if_false, isi_tuple h40, hf, er]
      rw [e]
      exact Ref.data hs bl_dat
    · exact Ref.bad
  · exact Ref.bad
/-! the class RuleBook -/
def stN_int {x : D} (h : stN x = true) : ∃ i : Int, x = .int i ∧ 1 ≤ i ∧ i ≤ 4 := by
  cases x with
  | int i =>
    unfold stN at h
    obtain ⟨h1, h2⟩ := Bool.and_eq_true_iff.mp h
    exact ⟨i, rfl, of_decide_eq_true h1, of_decide_eq_true h2⟩
  | _ => cases h
theorem insAt_push {s : Store} {c : CN} {fs : List D} : insAt (s ++ [.ins c fs]) s.length = some (c, fs) := insAt_of (by rw [List.getElem?_append_right (Nat.le_refl _)]; simp)
theorem set_push {s : Store} {c c' : Cell} : (s ++ [c]).set s.length c' = s ++ [c'] := by
  rw [List.set_append_right _ _ (Nat.le_refl _)]
  simp
theorem take_push {s : Store} {c : Cell} : (s ++ [c]).take s.length = s := by simp
theorem at_push {s : Store} {c : Cell} : (s ++ [c])[s.length]? = some c := by
  rw [List.getElem?_append_right (Nat.le_refl _)]
  simp
theorem init_run {s : Store} {x r : D} (hx : x.dat 40 = true) : fDef 3 m_RuleBook__init__ [.ref s.length, x, r] (s ++ [.ins .RuleBook []]) = if stN x = true then .ok .non (s ++ [.ins .RuleBook [x, r]]) else .er ⟨.BadBook, []⟩ (s ++ [.ins .RuleBook []]) := by
  have wi : ∀ s', w_is_integer [x] s' = .ok (.bl x.isI) s' := fun s' => by
    unfold w_is_integer
    dsimp only
    rw [if_pos hx]
  by_cases hi : x.isI = true
  · cases x with
    | int i =>
      by_cases h1 : i < 1
      · have e : stN (.int i) = false := by simp [stN]; omega
        simp only [m_RuleBook__init__, fDef, ent, mRet, mRetN, mSeq, mIf, mOrT, mAndT, mNotT, mTst, mArgs, aCons, aNil, mVar, mC, mUn, mBin, mChain, mAndV, mOrV, mNotV, mIfE, mSet, mAsg, mDrop, mRaise, mNx, mBrk, mCnt, gNm, gTp, gsCons, gsNil, mCall, bind_ok, bind_er, out_ok, out_er, seq_nx, seq_rt, seq_er, seq_bk, seq_ct, only_nx, only_er, turn_nx, turn_ct, turn_bk, turn_rt, turn_er, fin_nx, fin_rt, fin_er, ne_ok, List.map_cons, List.map_nil, List.cons_append, List.nil_append, List.length_cons, List.length_nil, List.replicate_succ, List.replicate_zero, List.getElem?_cons_zero, List.getElem?_cons_succ, List.set_cons_zero, List.set_cons_succ, Nat.reduceAdd, Nat.reduceSub, Nat.reduceLT, Bool.not_true, Bool.not_false, Bool.false_eq_true, reduceIte, eq_self, decide_true, decide_false, Bool.true_and, Bool.false_and, Bool.and_true, Bool.and_false, Bool.or_true, Bool.true_or, Bool.or_false, Bool.false_or, if_true, if_false, wi, hi, oCmpI, h1, e]
      · by_cases h4 : 4 < i
        · have e : stN (.int i) = false := by simp [stN]; omega
          simp only [m_RuleBook__init__, fDef, ent, mRet, mRetN, mSeq, mIf, mOrT, mAndT, mNotT, mTst, mArgs, aCons, aNil, mVar, mC, mUn, mBin, mChain, mAndV, mOrV, mNotV, mIfE, mSet, mAsg, mDrop, mRaise, mNx, mBrk, mCnt, gNm, gTp, gsCons, gsNil, mCall, bind_ok, bind_er, out_ok, out_er, seq_nx, seq_rt, seq_er, seq_bk, seq_ct, only_nx, only_er, turn_nx, turn_ct, turn_bk, turn_rt, turn_er, fin_nx, fin_rt, fin_er, ne_ok, List.map_cons, List.map_nil, List.cons_append, List.nil_append, List.length_cons, List.length_nil, List.replicate_succ, List.replicate_zero, List.getElem?_cons_zero, List.getElem?_cons_succ, List.set_cons_zero, List.set_cons_succ, Nat.reduceAdd, Nat.reduceSub, Nat.reduceLT, Bool.not_true, Bool.not_false, Bool.false_eq_true, reduceIte, eq_self, decide_true, decide_false, Bool.true_and, Bool.false_and, Bool.and_true, Bool.and_false, Bool.or_true, Bool.true_or, Bool.or_false, Bool.false_or, if_true, if_false, wi, hi, oCmpI, h1, h4, e]
        · have e : stN (.int i) = true := by simp [stN]; omega
          have l2 : (0 : Nat) < CN.RuleBook.flds.length := by decide
          have l3 : (1 : Nat) < CN.RuleBook.flds.length := by decide
          have n1 : ¬ ((1 : Nat) < 1) := by decide
          have n0 : ¬ ((0 : Nat) < 0) := by decide
          simp only [m_RuleBook__init__, fDef, ent, mRet, mRetN, mSeq, mIf, mOrT, mAndT, mNotT, mTst, mArgs, aCons, aNil, mVar, mC, mUn, mBin, mChain, mAndV, mOrV, mNotV, mIfE, mSet, mAsg, mDrop, mRaise, mNx, mBrk, mCnt, gNm, gTp, gsCons, gsNil, mCall, bind_ok, bind_er, out_ok, out_er, seq_nx, seq_rt, seq_er, seq_bk, seq_ct, only_nx, only_er, turn_nx, turn_ct, turn_bk, turn_rt, turn_er, fin_nx, fin_rt, fin_er, ne_ok, List.map_cons, List.map_nil, List.cons_append, List.nil_append, List.length_cons, List.length_nil, List.replicate_succ, List.replicate_zero, List.getElem?_cons_zero, List.getElem?_cons_succ, List.set_cons_zero, List.set_cons_succ, Nat.reduceAdd, Nat.reduceSub, Nat.reduceLT, Bool.not_true, Bool.not_false, Bool.false_eq_true, reduceIte, eq_self, decide_true, decide_false, Bool.true_and, Bool.false_and, Bool.and_true, Bool.and_false, Bool.or_true, Bool.true_or, Bool.or_false, Bool.false_or, if_true, if_false, wi, hi, oCmpI, h1, h4, e, mStF, insAt_push, set_push, l2, l3, n1, n0, and_self]
    | _ => cases hi
  · have e : stN x = false := by
      cases x <;> first | rfl | exact absurd rfl hi
    simp only [m_RuleBook__init__, fDef, ent, mRet, mRetN, mSeq, mIf, mOrT, mAndT, mNotT, mTst, mArgs, aCons, aNil, mVar, mC, mUn, mBin, mChain, mAndV, mOrV, mNotV, mIfE, mSet, mAsg, mDrop, mRaise, mNx, mBrk, mCnt, gNm, gTp, gsCons, gsNil, mCall, bind_ok, bind_er, out_ok, out_er, seq_nx, seq_rt, seq_er, seq_bk, seq_ct, only_nx, only_er, turn_nx, turn_ct, turn_bk, turn_rt, turn_er, fin_nx, fin_rt, fin_er, ne_ok, List.map_cons, List.map_nil, List.cons_append, List.nil_append, List.length_cons, List.length_nil, List.replicate_succ, List.replicate_zero, List.getElem?_cons_zero, List.getElem?_cons_succ, List.set_cons_zero, List.set_cons_succ, Nat.reduceAdd, Nat.reduceSub, Nat.reduceLT, Bool.not_true, Bool.not_false, Bool.false_eq_true, reduceIte, eq_self, decide_true, decide_false, Bool.true_and, Bool.false_and, Bool.and_true, Bool.and_false, Bool.or_true, Bool.true_or, Bool.or_false, Bool.false_or, if_true, if_false, wi, Bool.eq_false_iff.mpr hi, e]
theorem mk_go {s : Store} (hs : stLo s s.length) {x r : D} (hx : x.dat 40 = true) (hr : r.dat 40 = true) : Ref s.length ((fDef 3 m_RuleBook__init__ [.ref s.length, x, r] (s ++ [.ins .RuleBook []])).bind fun v s' => match v with
      | .non => .ok (.ref s.length) s'
      | _ => .bad) (if stN x = true then .ok (.ins .RuleBook [x, r]) s else .er ⟨.BadBook, []⟩ s) := by
  rw [init_run hx]
  by_cases h : stN x = true
  · rw [if_pos h, if_pos h]
    refine Ref.okS rfl hs take_push ?_
    unfold Fz
    refine .inr ⟨s.length, [x, r], rfl, Nat.le_refl _, at_push, rfl, FzL.same _ ?_⟩
    rw [loL_all]
    intro d m
    rcases List.mem_cons.mp m with rfl | m
    · exact dat_lo _ hx
    · rw [List.mem_singleton.mp m]; exact dat_lo _ hr
  · rw [if_neg h, if_neg h]
    exact Ref.erS rfl hs take_push rfl
theorem r_mk_RuleBook : ∀ ds s, stLo s s.length → loL s.length ds = true → Ref s.length (fMake .RuleBook 3 dd_RuleBook__init__ (fDef 3 m_RuleBook__init__) ds s) (mk_RuleBook ds s) := fun ds s hs hd => by
  unfold mk_RuleBook
  split
  · rename_i x
    split
    · rename_i h
      exact mk_go hs h (r := .tup []) (by unfold D.dat datL; rfl)
    · exact Ref.bad
  · exact Ref.bad
theorem r_mk_RuleBook_1 : ∀ ds s, stLo s s.length → loL s.length ds = true → Ref s.length (fMake .RuleBook 3 (dd_RuleBook__init__.drop 1) (fDef 3 m_RuleBook__init__) ds s) (mk_RuleBook_1 ds s) := fun ds s hs hd => by
  unfold mk_RuleBook_1
  split
  · rename_i x r
    split
    · rename_i h
      exact mk_go hs h.1 (dat_mono _ h.2 (by decide))
    · exact Ref.bad
  · exact Ref.bad
theorem fld0 {c : CN} {x y : D} {s : Store} : oFld c 0 (.ins c [x, y]) s = .ok x s := by
  simp [oFld, D.fld, D.obj]
theorem fld1 {c : CN} {x y : D} {s : Store} : oFld c 1 (.ins c [x, y]) s = .ok y s := by
  simp [oFld, D.fld, D.obj]
theorem w_rule {n : Int} {x : D} {s : Store} (h : x.dat 39 = true) (h0 : 0 ≤ n) (h1 : n ≤ 1000) : w_is_rule [.int n, x] s = .ok (.bl (ruleB n x)) s := by
  unfold w_is_rule
  dsimp only
  rw [if_pos ⟨h, h0, h1⟩]
theorem stN_of {n : Int} (h0 : 1 ≤ n) (h1 : n ≤ 4) : stN (.int n) = true := by
  simp [stN, h0, h1]
theorem mk2 {n : Int} {r : D} {s : Store} (h0 : 1 ≤ n) (h1 : n ≤ 4) (h : r.dat 38 = true) : mk_RuleBook_1 [.int n, r] s = .ok (.ins .RuleBook [.int n, r]) s := by
  unfold mk_RuleBook_1
  dsimp only
  rw [if_pos ⟨int_dat, h⟩, if_pos (stN_of h0 h1)]
theorem dat_tup {ds : List D} {k : Nat} (h : datL ds k = true) : (D.tup ds).dat (k + 1) = true := by
  unfold D.dat
  rw [Nat.add_sub_cancel, h, decide_eq_true (Nat.succ_pos k)]
  rfl
theorem r_RuleBook__add__ : ∀ ds s, ds.length = 2 → stLo s s.length → loL s.length ds = true → Ref s.length (fDef 2 m_RuleBook__add__ ds s) (w_RuleBook__add__ ds s) := fun ds s hl hs hd => by
  unfold w_RuleBook__add__
  split
  · rename_i n rs x
    split
    · rename_i h
      obtain ⟨hx, hr, h0, h1, hlen⟩ := h
      have x40 := dat_mono x hx (show 37 ≤ 40 by decide)
      have x39 := dat_mono x hx (show 37 ≤ 39 by decide)
      have r40 := datL_mono rs hr (show 37 ≤ 40 by decide)
      have ei : oInN false x (.tup rs) s = .ok (.bl (anyEq rs x)) s := oIn_dat seq_tup x40 r40
      have hb : (rs ++ [x]).length ≤ big := by
        unfold big
        rw [List.length_append, List.length_singleton]
        omega
      have hrx : datL (rs ++ [x]) 37 = true := datL_all.mpr fun d m => by
        rcases List.mem_append.mp m with m | m
        · exact datL_all.mp hr d m
        · rw [List.mem_singleton.mp m]; exact hx
      have e2 : mk_RuleBook_1 [.int n, .tup (rs ++ [x])] s = .ok (.ins .RuleBook [.int n, .tup (rs ++ [x])]) s := mk2 h0 h1 (dat_tup hrx)
      have wr : w_is_rule [.int n, x] s = .ok (.bl (ruleB n x)) s := w_rule x39 (by omega) (by omega)
      cases b1 : ruleB n x with
      | false =>
        have e : fDef 2 m_RuleBook__add__ [.ins .RuleBook [.int n, .tup rs], x] s = .er ⟨.BadRule, []⟩ s := by
          simp only [m_RuleBook__add__, fDef, ent, mRet, mRetN, mSeq, mIf, mOrT, mAndT, mNotT, mTst, mArgs, aCons, aNil, mVar, mC, mUn, mBin, mChain, mAndV, mOrV, mNotV, mIfE, mSet, mAsg, mDrop, mRaise, mNx, mBrk, mCnt, gNm, gTp, gsCons, gsNil, mCall, bind_ok, bind_er, out_ok, out_er, seq_nx, seq_rt, seq_er, seq_bk, seq_ct, only_nx, only_er, turn_nx, turn_ct, turn_bk, turn_rt, turn_er, fin_nx, fin_rt, fin_er, ne_ok, List.map_cons, List.map_nil, List.cons_append, List.nil_append, List.length_cons, List.length_nil, List.replicate_succ, List.replicate_zero, List.getElem?_cons_zero, List.getElem?_cons_succ, List.set_cons_zero, List.set_cons_succ, Nat.reduceAdd, Nat.reduceSub, Nat.reduceLT, Bool.not_true, Bool.not_false, Bool.false_eq_true, reduceIte, eq_self, decide_true, decide_false, Bool.true_and, Bool.false_and, Bool.and_true, Bool.and_false, Bool.or_true, Bool.true_or, Bool.or_false, Bool.false_or, if_true, if_false, fld0, fld1, wr, b1]
        rw [e, if_neg (by simp)]
        exact Ref.er (Nat.le_refl _) hs (by unfold loL; rfl)
      | true =>
        cases b2 : anyEq rs x with
        | true =>
          have e : fDef 2 m_RuleBook__add__ [.ins .RuleBook [.int n, .tup rs], x] s = .er ⟨.BadRule, []⟩ s := by
            simp only [m_RuleBook__add__, fDef, ent, mRet, mRetN, mSeq, mIf, mOrT, mAndT, mNotT, mTst, mArgs, aCons, aNil, mVar, mC, mUn, mBin, mChain, mAndV, mOrV, mNotV, mIfE, mSet, mAsg, mDrop, mRaise, mNx, mBrk, mCnt, gNm, gTp, gsCons, gsNil, mCall, bind_ok, bind_er, out_ok, out_er, seq_nx, seq_rt, seq_er, seq_bk, seq_ct, only_nx, only_er, turn_nx, turn_ct, turn_bk, turn_rt, turn_er, fin_nx, fin_rt, fin_er, ne_ok, List.map_cons, List.map_nil, List.cons_append, List.nil_append, List.length_cons, List.length_nil, List.replicate_succ, List.replicate_zero, List.getElem?_cons_zero, List.getElem?_cons_succ, List.set_cons_zero, List.set_cons_succ, Nat.reduceAdd, Nat.reduceSub, Nat.reduceLT, Bool.not_true, Bool.not_false, Bool.false_eq_true, reduceIte, eq_self, decide_true, decide_false, Bool.true_and, Bool.false_and, Bool.and_true, Bool.and_false, Bool.or_true, Bool.true_or, Bool.or_false, Bool.false_or, if_true, if_false, fld0, fld1, wr, b1, ei, b2]
          rw [e, if_neg (by simp)]
          exact Ref.er (Nat.le_refl _) hs (by unfold loL; rfl)
        | false =>
          by_cases b3 : rs.length < 12
          · have hn : ¬ ((12 : Int) ≤ rs.length) := by omega
            have e : fDef 2 m_RuleBook__add__ [.ins .RuleBook [.int n, .tup rs], x] s = .ok (.ins .RuleBook [.int n, .tup (rs ++ [x])]) s := by
              simp only [m_RuleBook__add__, fDef, ent, mRet, mRetN, mSeq, mIf, mOrT, mAndT, mNotT, mTst, mArgs, aCons, aNil, mVar, mC, mUn, mBin, mChain, mAndV, mOrV, mNotV, mIfE, mSet, mAsg, mDrop, mRaise, mNx, mBrk, mCnt, gNm, gTp, gsCons, gsNil, mCall, bind_ok, bind_er, out_ok, out_er, seq_nx, seq_rt, seq_er, seq_bk, seq_ct, only_nx, only_er, turn_nx, turn_ct, turn_bk, turn_rt, turn_er, fin_nx, fin_rt, fin_er, ne_ok, List.map_cons, List.map_nil, List.cons_append, List.nil_append, List.length_cons, List.length_nil, List.replicate_succ, List.replicate_zero, List.getElem?_cons_zero, List.getElem?_cons_succ, List.set_cons_zero, List.set_cons_succ, Nat.reduceAdd, Nat.reduceSub, Nat.reduceLT, Bool.not_true, Bool.not_false, Bool.false_eq_true, reduceIte, eq_self, decide_true, decide_false, Bool.true_and, Bool.false_and, Bool.and_true, Bool.and_false, Bool.or_true, Bool.true_or, Bool.or_false, Bool.false_or, if_true, if_false, fld0, fld1, wr, b1, ei, b2, len_tup, oCmpI, hn, aStar, seq_tup, fTup, hb, e2]
            rw [e, if_pos ⟨rfl, rfl, b3⟩]
            refine Ref.ok (Nat.le_refl _) hs ?_
            unfold D.lo loL loL
            rw [dat_lo (.int n) (k := 1) int_dat]
            unfold loL
            rw [dat_lo (.tup (rs ++ [x])) (dat_tup hrx)]
            rfl
          · have hn : ((12 : Int) ≤ rs.length) := by omega
            have e : fDef 2 m_RuleBook__add__ [.ins .RuleBook [.int n, .tup rs], x] s = .er ⟨.BadRule, []⟩ s := by
              simp only [m_RuleBook__add__, fDef, ent, mRet, mRetN, mSeq, mIf, mOrT, mAndT, mNotT, mTst, mArgs, aCons, aNil, mVar, mC, mUn, mBin, mChain, mAndV, mOrV, mNotV, mIfE, mSet, mAsg, mDrop, mRaise, mNx, mBrk, mCnt, gNm, gTp, gsCons, gsNil, mCall, bind_ok, bind_er, out_ok, out_er, seq_nx, seq_rt, seq_er, seq_bk, seq_ct, only_nx, only_er, turn_nx, turn_ct, turn_bk, turn_rt, turn_er, fin_nx, fin_rt, fin_er, ne_ok, List.map_cons, List.map_nil, List.cons_append, List.nil_append, List.length_cons, List.length_nil, List.replicate_succ, List.replicate_zero, List.getElem?_cons_zero, List.getElem?_cons_succ, List.set_cons_zero, List.set_cons_succ, Nat.reduceAdd, Nat.reduceSub, Nat.reduceLT, Bool.not_true, Bool.not_false, Bool.false_eq_true, reduceIte, eq_self, decide_true, decide_false, Bool.true_and, Bool.false_and, Bool.and_true, Bool.and_false, Bool.or_true, Bool.true_or, Bool.or_false, Bool.false_or, if_true, if_false, fld0, fld1, wr, b1, ei, b2, len_tup, oCmpI, hn]
            rw [e, if_neg (by simp [b3])]
            exact Ref.er (Nat.le_refl _) hs (by unfold loL; rfl)
    · exact Ref.bad
  · exact Ref.bad
theorem r_RuleBook__contains__ : ∀ ds s, ds.length = 2 → stLo s s.length → loL s.length ds = true → Ref s.length (fDef 2 m_RuleBook__contains__ ds s) (w_RuleBook__contains__ ds s) := fun ds s hl hs hd => by
  unfold w_RuleBook__contains__
  split
  · rename_i n rs x
    split
    · rename_i h
      obtain ⟨hx, hr, h0, h1⟩ := h
      have x40 := dat_mono x hx (show 37 ≤ 40 by decide)
      have x39 := dat_mono x hx (show 37 ≤ 39 by decide)
      have r40 := datL_mono rs hr (show 37 ≤ 40 by decide)
      have ei : oInN false x (.tup rs) s = .ok (.bl (anyEq rs x)) s := oIn_dat seq_tup x40 r40
      have wr : w_is_rule [.int n, x] s = .ok (.bl (ruleB n x)) s := w_rule x39 (by omega) (by omega)
      have e : fDef 2 m_RuleBook__contains__ [.ins .RuleBook [.int n, .tup rs], x] s = .ok (.bl (ruleB n x && anyEq rs x)) s := by
        cases b1 : ruleB n x with
        | false => simp only [m_RuleBook__contains__, fDef, ent, mRet, mRetN, mSeq, mIf, mOrT, mAndT, mNotT, mTst, mArgs, aCons, aNil, mVar, mC, mUn, mBin, mChain, mAndV, mOrV, mNotV, mIfE, mSet, mAsg, mDrop, mRaise, mNx, mBrk, mCnt, gNm, gTp, gsCons, gsNil, mCall, bind_ok, bind_er, out_ok, out_er, seq_nx, seq_rt, seq_er, seq_bk, seq_ct, only_nx, only_er, turn_nx, turn_ct, turn_bk, turn_rt, turn_er, fin_nx, fin_rt, fin_er, ne_ok, List.map_cons, List.map_nil, List.cons_append, List.nil_append, List.length_cons, List.length_nil, List.replicate_succ, List.replicate_zero, List.getElem?_cons_zero, List.getElem?_cons_succ, List.set_cons_zero, List.set_cons_succ, Nat.reduceAdd, Nat.reduceSub, Nat.reduceLT, Bool.not_true, Bool.not_false, Bool.false_eq_true, reduceIte, eq_self, decide_true, decide_false, Bool.true_and, Bool.false_and, Bool.and_true, Bool.and_false, Bool.or_true, Bool.true_or, Bool.or_false, Bool.false_or, if_true, if_false, fld0, fld1, wr, b1]
        | true => simp only [m_RuleBook__contains__, fDef, ent, mRet, mRetN, mSeq, mIf, mOrT, mAndT, mNotT, mTst, mArgs, aCons, aNil, mVar, mC, mUn, mBin, mChain, mAndV, mOrV, mNotV, mIfE, mSet, mAsg, mDrop, mRaise, mNx, mBrk, mCnt, gNm, gTp, gsCons, gsNil, mCall, bind_ok, bind_er, out_ok, out_er, seq_nx, seq_rt, seq_er, seq_bk, seq_ct, only_nx, only_er, turn_nx, turn_ct, turn_bk, turn_rt, turn_er, fin_nx, fin_rt, fin_er, ne_ok, List.map_cons, List.map_nil, List.cons_append, List.nil_append, List.length_cons, List.length_nil, List.replicate_succ, List.replicate_zero, List.getElem?_cons_zero, List.getElem?_cons_succ, List.set_cons_zero, List.set_cons_succ, Nat.reduceAdd, Nat.reduceSub, Nat.reduceLT, Bool.not_true, Bool.not_false, Bool.false_eq_true, reduceIte, eq_self, decide_true, decide_false, Bool.true_and, Bool.false_and, Bool.and_true, Bool.and_false, Bool.or_true, Bool.true_or, Bool.or_false, Bool.false_or, if_true, if_false, fld0, fld1, wr, b1, ei]
      rw [e]
      exact Ref.data hs bl_dat
    · exact Ref.bad
  · exact Ref.bad
theorem r_RuleBook__len__ : ∀ ds s, ds.length = 1 → stLo s s.length → loL s.length ds = true → Ref s.length (fDef 1 m_RuleBook__len__ ds s) (w_RuleBook__len__ ds s) := fun ds s hl hs hd => by
  unfold w_RuleBook__len__
  split
  · rename_i n rs
    split
    · have e : fDef 1 m_RuleBook__len__ [.ins .RuleBook [.int n, .tup rs]] s = .ok (.int rs.length) s := by
        simp only [m_RuleBook__len__, fDef, ent, mRet, mRetN, mSeq, mIf, mOrT, mAndT, mNotT, mTst, mArgs, aCons, aNil, mVar, mC, mUn, mBin, mChain, mAndV, mOrV, mNotV, mIfE, mSet, mAsg, mDrop, mRaise, mNx, mBrk, mCnt, gNm, gTp, gsCons, gsNil, mCall, bind_ok, bind_er, out_ok, out_er, seq_nx, seq_rt, seq_er, seq_bk, seq_ct, only_nx, only_er, turn_nx, turn_ct, turn_bk, turn_rt, turn_er, fin_nx, fin_rt, fin_er, ne_ok, List.map_cons, List.map_nil, List.cons_append, List.nil_append, List.length_cons, List.length_nil, List.replicate_succ, List.replicate_zero, List.getElem?_cons_zero, List.getElem?_cons_succ, List.set_cons_zero, List.set_cons_succ, Nat.reduceAdd, Nat.reduceSub, Nat.reduceLT, Bool.not_true, Bool.not_false, Bool.false_eq_true, reduceIte, eq_self, decide_true, decide_false, Bool.true_and, Bool.false_and, Bool.and_true, Bool.and_false, Bool.or_true, Bool.true_or, Bool.or_false, Bool.false_or, if_true, if_false, fld1, len_tup]
      rw [e]
      exact Ref.data (k := 1) hs int_dat
    · exact Ref.bad
  · exact Ref.bad
theorem r_RuleBook__getitem__ : ∀ ds s, ds.length = 2 → stLo s s.length → loL s.length ds = true → Ref s.length (fDef 2 m_RuleBook__getitem__ ds s) (w_RuleBook__getitem__ ds s) := fun ds s hl hs hd => by
  unfold w_RuleBook__getitem__
  split
  · rename_i n rs x
    split
    · rename_i h
      obtain ⟨hx, hr, hlen⟩ := h
      have wb : w_is_below [.int rs.length, x] s = .ok (.bl (belowB rs.length x)) s := w_below (dat_mono x hx (show 37 ≤ 40 by decide))
      have er : belowB rs.length x = false → fDef 2 m_RuleBook__getitem__ [.ins .RuleBook [.int n, .tup rs], x] s = .er ⟨.BadRule, []⟩ s := fun b => by
        simp only [m_RuleBook__getitem__, fDef, ent, mRet, mRetN, mSeq, mIf, mOrT, mAndT, mNotT, mTst, mArgs, aCons, aNil, mVar, mC, mUn, mBin, mChain, mAndV, mOrV, mNotV, mIfE, mSet, mAsg, mDrop, mRaise, mNx, mBrk, mCnt, gNm, gTp, gsCons, gsNil, mCall, bind_ok, bind_er, out_ok, out_er, seq_nx, seq_rt, seq_er, seq_bk, seq_ct, only_nx, only_er, turn_nx, turn_ct, turn_bk, turn_rt, turn_er, fin_nx, fin_rt, fin_er, ne_ok, List.map_cons, List.map_nil, List.cons_append, List.nil_append, List.length_cons, List.length_nil, List.replicate_succ, List.replicate_zero, List.getElem?_cons_zero, List.getElem?_cons_succ, List.set_cons_zero, List.set_cons_succ, Nat.reduceAdd, Nat.reduceSub, Nat.reduceLT, Bool.not_true, Bool.not_false, Bool.false_eq_true, reduceIte, eq_self, decide_true, decide_false, Bool.true_and, Bool.false_and, Bool.and_true, Bool.and_false, Bool.or_true, Bool.true_or, Bool.or_false, Bool.false_or, if_true, if_false, fld1, len_tup, wb, b]
      have re : Ref s.length (.er ⟨.BadRule, []⟩ s) (.er ⟨.BadRule, []⟩ s) := Ref.er (Nat.le_refl _) hs (by unfold loL; rfl)
      split
      · rename_i i
        split
        · rename_i h0
          split
          · rename_i r q
            have hlt := (List.getElem?_eq_some_iff.mp q).1
            have b : belowB rs.length (.int i) = true := by
              simp [belowB, h0]
              omega
            have at_ : atI rs i = some r := by
              unfold L2.atI L2.ixN
              rw [if_pos h0, if_pos (by omega)]
              exact q
            have e : fDef 2 m_RuleBook__getitem__ [.ins .RuleBook [.int n, .tup rs], .int i] s = .ok r s := by
              simp only [m_RuleBook__getitem__, fDef, ent, mRet, mRetN, mSeq, mIf, mOrT, mAndT, mNotT, mTst, mArgs, aCons, aNil, mVar, mC, mUn, mBin, mChain, mAndV, mOrV, mNotV, mIfE, mSet, mAsg, mDrop, mRaise, mNx, mBrk, mCnt, gNm, gTp, gsCons, gsNil, mCall, bind_ok, bind_er, out_ok, out_er, seq_nx, seq_rt, seq_er, seq_bk, seq_ct, only_nx, only_er, turn_nx, turn_ct, turn_bk, turn_rt, turn_er, fin_nx, fin_rt, fin_er, ne_ok, List.map_cons, List.map_nil, List.cons_append, List.nil_append, List.length_cons, List.length_nil, List.replicate_succ, List.replicate_zero, List.getElem?_cons_zero, List.getElem?_cons_succ, List.set_cons_zero, List.set_cons_succ, Nat.reduceAdd, Nat.reduceSub, Nat.reduceLT, Bool.not_true, Bool.not_false, Bool.false_eq_true, reduceIte, eq_self, decide_true, decide_false, Bool.true_and, Bool.false_and, Bool.and_true, Bool.and_false, Bool.or_true, Bool.true_or, Bool.or_false, Bool.false_or, if_true, if_false, fld1, len_tup, wb, b, oIx, seq_tup, at_]
            rw [e]
            exact Ref.data (k := 37) hs (datL_all.mp hr r (List.mem_of_getElem? q))
          · rename_i q
            have hge := List.getElem?_eq_none_iff.mp q
            rw [er (by simp [belowB]; omega)]
            exact re
        · rw [er (by simp [belowB]; omega)]
          exact re
      · rename_i hne
        rw [er (by cases x <;> first | rfl | exact absurd rfl (hne _))]
        exact re
    · exact Ref.bad
  · exact Ref.bad
theorem r_RuleBooktold : ∀ ds s, ds.length = 1 → stLo s s.length → loL s.length ds = true → Ref s.length (fDef 1 m_RuleBooktold ds s) (w_RuleBooktold ds s) := fun ds s hl hs hd => by
  unfold w_RuleBooktold
  split
  · rename_i n rs
    split
    · rename_i h
      have hb : (2 : Nat) ≤ big := by decide
      have e : fDef 1 m_RuleBooktold [.ins .RuleBook [.int n, .tup rs]] s = .ok (.tup [.int n, .tup rs]) s := by
        simp only [m_RuleBooktold, fDef, ent, mRet, mRetN, mSeq, mIf, mOrT, mAndT, mNotT, mTst, mArgs, aCons, aNil, mVar, mC, mUn, mBin, mChain, mAndV, mOrV, mNotV, mIfE, mSet, mAsg, mDrop, mRaise, mNx, mBrk, mCnt, gNm, gTp, gsCons, gsNil, mCall, bind_ok, bind_er, out_ok, out_er, seq_nx, seq_rt, seq_er, seq_bk, seq_ct, only_nx, only_er, turn_nx, turn_ct, turn_bk, turn_rt, turn_er, fin_nx, fin_rt, fin_er, ne_ok, List.map_cons, List.map_nil, List.cons_append, List.nil_append, List.length_cons, List.length_nil, List.replicate_succ, List.replicate_zero, List.getElem?_cons_zero, List.getElem?_cons_succ, List.set_cons_zero, List.set_cons_succ, Nat.reduceAdd, Nat.reduceSub, Nat.reduceLT, Bool.not_true, Bool.not_false, Bool.false_eq_true, reduceIte, eq_self, decide_true, decide_false, Bool.true_and, Bool.false_and, Bool.and_true, Bool.and_false, Bool.or_true, Bool.true_or, Bool.or_false, Bool.false_or, if_true, if_false, fld0, fld1, fTup, hb]
      rw [e]
      refine Ref.data (k := 39) hs (dat_tup (k := 38) (datL_all.mpr fun d m => ?_))
      rcases List.mem_cons.mp m with rfl | m
      · exact int_dat
      · rw [List.mem_singleton.mp m]
        exact dat_tup h
    · exact Ref.bad
  · exact Ref.bad
end LY
/-! Rdr: the laws' drawn numbers come so. -/
namespace LY
open PySem PySem.Spec PyProof.Rows L2
theorem pow18 {s : Store} : oPow (.int 10) (.int 18) s = .ok (.int (10 ^ 18)) s := by
  unfold oPow
  simp
theorem pow30 {s : Store} : oPow (.int 10) (.int 30) s = .ok (.int (10 ^ 30)) s := by
  unfold oPow
  simp
theorem map_at {is : List Int} {i : Int} (h : 0 ≤ i) (h2 : i < is.length) : atI (is.map D.int) i = some (.int (is.getD i.toNat 0)) := by
  unfold L2.atI L2.ixN
  have hl : i.toNat < is.length := by omega
  rw [if_pos h, List.length_map, if_pos h2]
  show (is.map D.int)[i.toNat]? = _
  rw [List.getElem?_map, List.getElem?_eq_getElem hl, List.getD_eq_getElem?_getD, List.getElem?_eq_getElem hl]
  rfl
theorem int_int {i : Int} {s : Store} : fInt [.int i] s = .ok (.int i) s := rfl
theorem gt_int {i j : Int} {s : Store} : oGt (.int i) (.int j) s = .ok (.bl (decide (j < i))) s := rfl
theorem ge_int {i j : Int} {s : Store} : oGe (.int i) (.int j) s = .ok (.bl (decide (j ≤ i))) s := rfl
theorem lt_int {i j : Int} {s : Store} : oLt (.int i) (.int j) s = .ok (.bl (decide (i < j))) s := rfl
theorem le_int {i j : Int} {s : Store} : oLe (.int i) (.int j) s = .ok (.bl (decide (i ≤ j))) s := rfl
theorem add_int {i j : Int} {s : Store} : oAdd (.int i) (.int j) s = .ok (.int (i + j)) s := rfl
theorem sub_int {i j : Int} {s : Store} : oSub (.int i) (.int j) s = .ok (.int (i - j)) s := rfl
theorem mod_int {i j : Int} {s : Store} (h : 0 < j) : oMod (.int i) (.int j) s = .ok (.int (i % j)) s := by
  unfold oMod
  dsimp only
  rw [if_pos h]
theorem ix_fl {ds : List D} {i : Int} {d : D} {s : Store} (h : atI ds i = some d) : oIx (.fl ds) (.int i) s = .ok d s := by
  show (match (D.fl ds).seq s with
      | some ds => (match atI ds i with
        | some d => R.ok d s
        | none => .bad)
      | none => .bad) = _
  simp only [D.seq, h]
theorem r__law_source : ∀ ds s, ds.length = 2 → stLo s s.length → loL s.length ds = true → Ref s.length (fDef 4 m__law_source ds s) (w__law_source ds s) := fun ds s hl hs hd => by
  unfold w__law_source
  split
  · rename_i ns k
    split
    · rename_i is q
      rw [intsOf_some q]
      split
      · rename_i h
        obtain ⟨k0, k1, hlen⟩ := h
        have hb : (3 : Nat) ≤ big := by decide
        have e : fDef 4 m__law_source [.fl (is.map .int), .int k] s = .ok (.ref s.length) (s ++ [.lst (srcL is k)]) := by
          have fin : ∀ c : Int, c = srcCell is k → ((mSeq (mSet 3 (mC (.int 0))) (mSeq (mIf (mTst (mBin oGe (mVar 2) (mBin oPow (mC (.int 10)) (mC (.int 18))))) (mSet 3 (mBin oSub (mVar 2) (mBin oPow (mC (.int 10)) (mC (.int 18))))) (mNx)) (mRet (mArgs fCel (aCons (mVar 3) (aCons (mBin oAdd (mBin oMod (mArgs fInt (aCons (mVar 2) (aNil))) (mBin oAdd (mBin oPow (mC (.int 10)) (mC (.int 30))) (mC (.int 57)))) (mVar 1)) (aCons (mC (.int 0)) (aNil)))))))) [some (.fl (is.map .int)), some (.int k), some (.int c), none] s).fin = .ok (.ref s.length) (s ++ [.lst (srcL is k)]) := fun c hc => by
            have hm : (0 : Int) < 10 ^ 30 + 57 := by decide
            by_cases h18 : (10 ^ 18 : Int) ≤ c
            · simp only [fDef, ent, mRet, mRetN, mSeq, mIf, mOrT, mAndT, mNotT, mTst, mArgs, aCons, aNil, mVar, mC, mUn, mBin, mChain, mAndV, mOrV, mNotV, mIfE, mSet, mAsg, mDrop, mRaise, mNx, mBrk, mCnt, gNm, gTp, gsCons, gsNil, mCall, bind_ok, bind_er, out_ok, out_er, seq_nx, seq_rt, seq_er, seq_bk, seq_ct, only_nx, only_er, turn_nx, turn_ct, turn_bk, turn_rt, turn_er, fin_nx, fin_rt, fin_er, ne_ok, List.map_cons, List.map_nil, List.cons_append, List.nil_append, List.length_cons, List.length_nil, List.replicate_succ, List.replicate_zero, List.getElem?_cons_zero, List.getElem?_cons_succ, List.set_cons_zero, List.set_cons_succ, Nat.reduceAdd, Nat.reduceSub, Nat.reduceLT, Bool.not_true, Bool.not_false, Bool.false_eq_true, reduceIte, eq_self, decide_true, decide_false, Bool.true_and, Bool.false_and, Bool.and_true, Bool.and_false, Bool.or_true, Bool.true_or, Bool.or_false, Bool.false_or, if_true, if_false, pow18, pow30, ge_int, h18, sub_int, add_int, int_int, mod_int hm, fCel, hb, srcL, ← hc]
            · simp only [fDef, ent, mRet, mRetN, mSeq, mIf, mOrT, mAndT, mNotT, mTst, mArgs, aCons, aNil, mVar, mC, mUn, mBin, mChain, mAndV, mOrV, mNotV, mIfE, mSet, mAsg, mDrop, mRaise, mNx, mBrk, mCnt, gNm, gTp, gsCons, gsNil, mCall, bind_ok, bind_er, out_ok, out_er, seq_nx, seq_rt, seq_er, seq_bk, seq_ct, only_nx, only_er, turn_nx, turn_ct, turn_bk, turn_rt, turn_er, fin_nx, fin_rt, fin_er, ne_ok, List.map_cons, List.map_nil, List.cons_append, List.nil_append, List.length_cons, List.length_nil, List.replicate_succ, List.replicate_zero, List.getElem?_cons_zero, List.getElem?_cons_succ, List.set_cons_zero, List.set_cons_succ, Nat.reduceAdd, Nat.reduceSub, Nat.reduceLT, Bool.not_true, Bool.not_false, Bool.false_eq_true, reduceIte, eq_self, decide_true, decide_false, Bool.true_and, Bool.false_and, Bool.and_true, Bool.and_false, Bool.or_true, Bool.true_or, Bool.or_false, Bool.false_or, if_true, if_false, pow18, pow30, ge_int, h18, sub_int, add_int, int_int, mod_int hm, fCel, hb, srcL, ← hc]
          by_cases h0 : 0 < is.length
          · have h0' : (0 : Int) < (is.map D.int).length := by rw [List.length_map]; omega
            have hi : oIx (.fl (is.map D.int)) (.int (k % ((is.map D.int).length : Int))) s = .ok (.int (is.getD (k % (is.length : Int)).toNat 0)) s := by
              rw [List.length_map]
              have a : (0 : Int) < is.length := by omega
              exact ix_fl (map_at (Int.emod_nonneg _ (by omega)) (Int.emod_lt_of_pos _ a))
            have z := fin (is.getD (k % (is.length : Int)).toNat 0) (by unfold srcCell; rw [if_pos h0])
            rw [← z]
            simp only [m__law_source, fDef, ent, mRet, mRetN, mSeq, mIf, mOrT, mAndT, mNotT, mTst, mArgs, aCons, aNil, mVar, mC, mUn, mBin, mChain, mAndV, mOrV, mNotV, mIfE, mSet, mAsg, mDrop, mRaise, mNx, mBrk, mCnt, gNm, gTp, gsCons, gsNil, mCall, bind_ok, bind_er, out_ok, out_er, seq_nx, seq_rt, seq_er, seq_bk, seq_ct, only_nx, only_er, turn_nx, turn_ct, turn_bk, turn_rt, turn_er, fin_nx, fin_rt, fin_er, ne_ok, List.map_cons, List.map_nil, List.cons_append, List.nil_append, List.length_cons, List.length_nil, List.replicate_succ, List.replicate_zero, List.getElem?_cons_zero, List.getElem?_cons_succ, List.set_cons_zero, List.set_cons_succ, Nat.reduceAdd, Nat.reduceSub, Nat.reduceLT, Bool.not_true, Bool.not_false, Bool.false_eq_true, reduceIte, eq_self, decide_true, decide_false, Bool.true_and, Bool.false_and, Bool.and_true, Bool.and_false, Bool.or_true, Bool.true_or, Bool.or_false, Bool.false_or, if_true, if_false, len_fl, gt_int, h0', mod_int h0', int_int, hi]
          · have h0' : ¬ (0 : Int) < (is.map D.int).length := by rw [List.length_map]; omega
            have z := fin 0 (by unfold srcCell; rw [if_neg h0])
            rw [← z]
            simp only [m__law_source, fDef, ent, mRet, mRetN, mSeq, mIf, mOrT, mAndT, mNotT, mTst, mArgs, aCons, aNil, mVar, mC, mUn, mBin, mChain, mAndV, mOrV, mNotV, mIfE, mSet, mAsg, mDrop, mRaise, mNx, mBrk, mCnt, gNm, gTp, gsCons, gsNil, mCall, bind_ok, bind_er, out_ok, out_er, seq_nx, seq_rt, seq_er, seq_bk, seq_ct, only_nx, only_er, turn_nx, turn_ct, turn_bk, turn_rt, turn_er, fin_nx, fin_rt, fin_er, ne_ok, List.map_cons, List.map_nil, List.cons_append, List.nil_append, List.length_cons, List.length_nil, List.replicate_succ, List.replicate_zero, List.getElem?_cons_zero, List.getElem?_cons_succ, List.set_cons_zero, List.set_cons_succ, Nat.reduceAdd, Nat.reduceSub, Nat.reduceLT, Bool.not_true, Bool.not_false, Bool.false_eq_true, reduceIte, eq_self, decide_true, decide_false, Bool.true_and, Bool.false_and, Bool.and_true, Bool.and_false, Bool.or_true, Bool.true_or, Bool.or_false, Bool.false_or, if_true, if_false, len_fl, gt_int, h0']
        rw [e]
        have hc : (Cell.lst (srcL is k)).lo (s.length + 1) = true := by
          unfold srcL Cell.lo
          dsimp only
          unfold loL loL loL loL D.lo
          rfl
        refine Ref.ok (by rw [List.length_append]; omega) (stLo_push hs hc) ?_
        unfold D.lo
        rw [List.length_append, List.length_singleton]
        exact decide_eq_true (Nat.lt_succ_self _)
      · exact Ref.bad
    · exact Ref.bad
  · exact Ref.bad
theorem wide_le {i : Int} {b : Int} (h0 : 0 ≤ i) (h : i ≤ b) (hb : b ≤ 10 ^ 150) : i.natAbs ≤ wide := by
  have h1 : (10 : Nat) ^ 150 ≤ wide := by unfold wide; decide
  have h2 : i.natAbs ≤ (10 : Nat) ^ 150 := by
    have : (i.natAbs : Int) = i := Int.natAbs_of_nonneg h0
    have h3 : i ≤ (10 : Int) ^ 150 := Int.le_trans h hb
    have h4 : ((10 ^ 150 : Nat) : Int) = (10 : Int) ^ 150 := by norm_cast
    omega
  exact Nat.le_trans h2 h1
theorem mul_int {i j : Int} {s : Store} (h : i.natAbs ≤ wide) (h2 : j.natAbs ≤ wide) : oMul (.int i) (.int j) s = .ok (.int (i * j)) s := by
  unfold oMul
  dsimp only
  rw [if_pos ⟨h, h2⟩]
theorem div_int {i j : Int} {s : Store} (h : 0 < j) (h2 : j.natAbs ≤ wide) : oDiv (.int i) (.int j) s = .ok (.int (i / j)) s := by
  unfold oDiv
  dsimp only
  rw [if_pos ⟨h, h2⟩]
theorem ix_ref {ds : List D} {i : Int} {d : D} {s : Store} {n : Nat} (h : lstAt s n = some ds) (h2 : atI ds i = some d) : oIx (.ref n) (.int i) s = .ok d s := by
  show (match (D.ref n).seq s with
      | some ds => (match atI ds i with
        | some d => R.ok d s
        | none => .bad)
      | none => .bad) = _
  simp only [D.seq, h, h2]
theorem set_sb {ds : List D} {d : D} {s : Store} {n i j : Nat} {k : Int} {ρ : Envt} (ho : ρ[i]? = some (some (.ref n))) (h : lstAt s n = some ds) (hk : ixN ds.length k = some j) : gSb (mVar i) (mC (.int k)) d ρ s = .nx ρ (s.set n (.lst (ds.set j d))) := by
  simp only [gSb, mVar, mC, ho, out_ok, h, hk]
theorem at_set {s : Store} {n : Nat} {ds es : List D} (h : lstAt s n = some ds) : lstAt (s.set n (.lst es)) n = some es := by
  have := (List.getElem?_eq_some_iff.mp (lstAt_some h)).1
  exact lstAt_of (List.getElem?_set_self this)
theorem at3 {a b c : D} : atI [a, b, c] 0 = some a ∧ atI [a, b, c] 1 = some b ∧ atI [a, b, c] 2 = some c := ⟨rfl, rfl, rfl⟩
theorem mul_le {a b c d : Int} (h1 : 0 ≤ a) (h2 : a ≤ c) (h3 : 0 ≤ b) (h4 : b ≤ d) : 0 ≤ a * b ∧ a * b ≤ c * d := ⟨Int.mul_nonneg h1 h3, Int.mul_le_mul h2 h4 h3 (Int.le_trans h1 h2)⟩
theorem ix3_0 : ∀ {a b c : D}, ixN [a, b, c].length 0 = some 0 := rfl
theorem ix3_2 : ∀ {a b c : D}, ixN [a, b, c].length 2 = some 2 := rfl
theorem take_run {dg sd st m : Int} {s : Store} {n : Nat} (hc : lstAt s n = some [.int dg, .int sd, .int st]) (m0 : 0 < m) (m1 : m ≤ 10 ^ 10) (s0 : 0 ≤ sd) (s1 : sd ≤ 10 ^ 31) (t0 : 0 ≤ st) (t1 : st ≤ 10 ^ 5) :
    fDef 6 m__law_take [.ref n, .int m] s = .ok (.int (takeN dg sd st m).1) (s.set n (.lst [.int (takeN dg sd st m).2, .int sd, .int (st + 1)])) := by
  have mw : m.natAbs ≤ wide := wide_le (by omega) m1 (by decide)
  have c1 : lstAt (s.set n (.lst [.int dg, .int sd, .int (st + 1)])) n = some [.int dg, .int sd, .int (st + 1)] := at_set hc
  have sb1 : ∀ ρ : Envt, ρ[0]? = some (some (.ref n)) → gSb (mVar 0) (mC (.int 2)) (.int (st + 1)) ρ s = .nx ρ (s.set n (.lst [.int dg, .int sd, .int (st + 1)])) := fun ρ h => set_sb h hc ix3_2
  have i2 : oIx (.ref n) (.int 2) s = .ok (.int st) s := ix_ref hc at3.2.2
  have i0' : oIx (.ref n) (.int 0) (s.set n (.lst [.int dg, .int sd, .int (st + 1)])) = .ok (.int dg) _ := ix_ref c1 at3.1
  have i1' : oIx (.ref n) (.int 1) (s.set n (.lst [.int dg, .int sd, .int (st + 1)])) = .ok (.int sd) _ := ix_ref c1 at3.2.1
  have i2' : oIx (.ref n) (.int 2) (s.set n (.lst [.int dg, .int sd, .int (st + 1)])) = .ok (.int (st + 1)) _ := ix_ref c1 at3.2.2
  by_cases h : 0 < dg
  · have et : takeN dg sd st m = (dg % m, dg / m) := by unfold takeN; rw [if_pos h]
    have sb2 : ∀ ρ : Envt, ρ[0]? = some (some (.ref n)) → gSb (mVar 0) (mC (.int 0)) (.int (dg / m)) ρ (s.set n (.lst [.int dg, .int sd, .int (st + 1)])) = .nx ρ (s.set n (.lst [.int (dg / m), .int sd, .int (st + 1)])) := fun ρ hh => by
      rw [set_sb hh c1 ix3_0, List.set_set]
      rfl
    simp only [m__law_take, fDef, ent, mRet, mRetN, mSeq, mIf, mOrT, mAndT, mNotT, mTst, mArgs, aCons, aNil, mVar, mC, mUn, mBin, mChain, mAndV, mOrV, mNotV, mIfE, mSet, mAsg, mDrop, mRaise, mNx, mBrk, mCnt, gNm, gTp, gsCons, gsNil, mCall, bind_ok, bind_er, out_ok, out_er, seq_nx, seq_rt, seq_er, seq_bk, seq_ct, only_nx, only_er, turn_nx, turn_ct, turn_bk, turn_rt, turn_er, fin_nx, fin_rt, fin_er, ne_ok, List.map_cons, List.map_nil, List.cons_append, List.nil_append, List.length_cons, List.length_nil, List.replicate_succ, List.replicate_zero, List.getElem?_cons_zero, List.getElem?_cons_succ, List.set_cons_zero, List.set_cons_succ, Nat.reduceAdd, Nat.reduceSub, Nat.reduceLT, Bool.not_true, Bool.not_false, Bool.false_eq_true, reduceIte, eq_self, decide_true, decide_false, Bool.true_and, Bool.false_and, Bool.and_true, Bool.and_false, Bool.or_true, Bool.true_or, Bool.or_false, Bool.false_or, if_true, if_false, i2, add_int, sb1, sb2, i0', gt_int, h, int_int, mod_int m0, div_int m0 mw, et]
  · have et : takeN dg sd st m = ((mixN sd (st + 1) * mixN sd (st + 1) / 1009 + sd * (st + 1)) % 2305843009213693951 * 48271 % 1000000007 % m, dg) := by unfold takeN; rw [if_neg h]
    have a1 : 0 ≤ 7919 * (st + 1) ∧ 7919 * (st + 1) ≤ 10 ^ 10 := ⟨by omega, by omega⟩
    have a2 : 0 ≤ st + 1 ∧ st + 1 ≤ 10 ^ 6 := ⟨by omega, by omega⟩
    have a3 := mul_le a1.1 a1.2 a2.1 a2.2
    have a4 : 0 ≤ 104729 * (st + 1) ∧ 104729 * (st + 1) ≤ 10 ^ 12 := ⟨by omega, by omega⟩
    have a5 : 0 ≤ sd + 7919 * (st + 1) * (st + 1) + 13 ∧ sd + 7919 * (st + 1) * (st + 1) + 13 ≤ 10 ^ 32 := ⟨by omega, by omega⟩
    have a6 : 0 ≤ sd + 104729 * (st + 1) + 1 ∧ sd + 104729 * (st + 1) + 1 ≤ 10 ^ 32 := ⟨by omega, by omega⟩
    have a7 := mul_le a5.1 a5.2 a6.1 a6.2
    have a8 := mul_le a7.1 a7.2 a7.1 a7.2
    have a9 := mul_le s0 s1 a2.1 a2.2
    have w1 : ((7919 : Int)).natAbs ≤ wide := wide_le (by decide) (show (7919 : Int) ≤ 7919 by decide) (by decide)
    have w1b : ((104729 : Int)).natAbs ≤ wide := wide_le (by decide) (show (104729 : Int) ≤ 104729 by decide) (by decide)
    have w1c : ((48271 : Int)).natAbs ≤ wide := wide_le (by decide) (show (48271 : Int) ≤ 48271 by decide) (by decide)
    have w1d : ((1009 : Int)).natAbs ≤ wide := wide_le (by decide) (show (1009 : Int) ≤ 1009 by decide) (by decide)
    have w2 := wide_le a2.1 a2.2 (by decide)
    have w3 := wide_le a1.1 a1.2 (by decide)
    have w4 := wide_le a5.1 a5.2 (by decide)
    have w5 := wide_le a6.1 a6.2 (by decide)
    have w6 := wide_le a7.1 a7.2 (by decide)
    have w7 := wide_le s0 s1 (by decide)
    have p0 : (0 : Int) < 2305843009213693951 := by decide
    have q1 := Int.emod_nonneg ((sd + 7919 * (st + 1) * (st + 1) + 13) * (sd + 104729 * (st + 1) + 1) * ((sd + 7919 * (st + 1) * (st + 1) + 13) * (sd + 104729 * (st + 1) + 1)) / 1009 + sd * (st + 1)) (show (2305843009213693951 : Int) ≠ 0 by decide)
    have q2 := Int.emod_lt_of_pos ((sd + 7919 * (st + 1) * (st + 1) + 13) * (sd + 104729 * (st + 1) + 1) * ((sd + 7919 * (st + 1) * (st + 1) + 13) * (sd + 104729 * (st + 1) + 1)) / 1009 + sd * (st + 1)) p0
    have w8 := wide_le q1 (Int.le_of_lt q2) (by decide)
    have p1 : (0 : Int) < 1000000007 := by decide
    have p2 : (0 : Int) < 1009 := by decide
    simp only [m__law_take, fDef, ent, mRet, mRetN, mSeq, mIf, mOrT, mAndT, mNotT, mTst, mArgs, aCons, aNil, mVar, mC, mUn, mBin, mChain, mAndV, mOrV, mNotV, mIfE, mSet, mAsg, mDrop, mRaise, mNx, mBrk, mCnt, gNm, gTp, gsCons, gsNil, mCall, bind_ok, bind_er, out_ok, out_er, seq_nx, seq_rt, seq_er, seq_bk, seq_ct, only_nx, only_er, turn_nx, turn_ct, turn_bk, turn_rt, turn_er, fin_nx, fin_rt, fin_er, ne_ok, List.map_cons, List.map_nil, List.cons_append, List.nil_append, List.length_cons, List.length_nil, List.replicate_succ, List.replicate_zero, List.getElem?_cons_zero, List.getElem?_cons_succ, List.set_cons_zero, List.set_cons_succ, Nat.reduceAdd, Nat.reduceSub, Nat.reduceLT, Bool.not_true, Bool.not_false, Bool.false_eq_true, reduceIte, eq_self, decide_true, decide_false, Bool.true_and, Bool.false_and, Bool.and_true, Bool.and_false, Bool.or_true, Bool.true_or, Bool.or_false, Bool.false_or, if_true, if_false, i2, add_int, sb1, i0', i1', i2', gt_int, h, int_int, et, mul_int w1 w2, mul_int w1b w2, mul_int w3 w2, mul_int w4 w5, mul_int w6 w6, mul_int w7 w2, div_int p2 w1d, mod_int p0, mul_int w8 w1c, mod_int p1, mod_int m0]
    rfl
theorem r__law_take : ∀ ds s, ds.length = 2 → stLo s s.length → loL s.length ds = true → Ref s.length (fDef 6 m__law_take ds s) (w__law_take ds s) := fun ds s hl hs hd => by
  unfold w__law_take
  split
  · rename_i n m
    split
    · rename_i dg sd st hc
      split
      · rename_i h
        obtain ⟨m0, m1, s0, s1, t0, t1⟩ := h
        rw [take_run hc m0 m1 s0 s1 t0 t1]
        have hlo : (Cell.lst [.int (takeN dg sd st m).2, .int sd, .int (st + 1)]).lo s.length = true := by
          unfold Cell.lo
          dsimp only
          unfold loL loL loL loL D.lo
          rfl
        exact Ref.ok (by rw [List.length_set]; exact Nat.le_refl _) (stLo_set hs hlo) (by unfold D.lo; rfl)
      · exact Ref.bad
    · exact Ref.bad
  · exact Ref.bad
theorem takeN_lt {dg sd st m : Int} (h : 0 < m) : 0 ≤ (takeN dg sd st m).1 ∧ (takeN dg sd st m).1 < m := by
  unfold takeN
  split
  · exact ⟨Int.emod_nonneg _ (by omega), Int.emod_lt_of_pos _ h⟩
  · exact ⟨Int.emod_nonneg _ (by omega), Int.emod_lt_of_pos _ h⟩
end LY
/-! Rk76: the law's helpers. -/
namespace LY
open PySem PySem.Spec PyProof.Rows L2
/-! a loop with what stays true -/
theorem forL_inv {gd : Gd} {g : MG} {body : MS} (I : List D → Envt → Store → Prop) (hg : ∀ r ρ s, I r ρ s → gdOk gd s) (step : ∀ d r ρ s, I (d :: r) ρ s → ∃ ρ' s', ((g d ρ s).only.seq body) = .nx ρ' s' ∧ I r ρ' s') :
    ∀ (ds : List D) (ρ : Envt) (s : Store), I ds ρ s → ∃ ρ' s', forL gd g body ds ρ s = .nx ρ' s' ∧ I [] ρ' s'
  | [], ρ, s, h => ⟨ρ, s, by unfold forL; rw [if_pos (hg _ _ _ h)], h⟩
  | d :: ds, ρ, s, h => by
    obtain ⟨ρ1, s1, e, h1⟩ := step d ds ρ s h
    obtain ⟨ρ2, s2, e2, h2⟩ := forL_inv I hg step ds ρ1 s1 h1
    refine ⟨ρ2, s2, ?_, h2⟩
    unfold forL
    rw [if_pos (hg _ _ _ h), e, turn_nx]
    exact e2
theorem upto_succ {lo : Int} {n : Nat} : upto lo (n + 1) = .int lo :: upto (lo + 1) n := by
  unfold upto
  rw [List.range_succ_eq_map, List.map_cons, List.map_map]
  congr 1
  · simp
  · refine List.map_congr_left fun i _ => ?_
    simp
    omega
theorem upto_zero {lo : Int} : upto lo 0 = [] := rfl
theorem upto_len {lo : Int} {n : Nat} : (upto lo n).length = n := by simp [upto]
/-! stores -/
def Src (s : Store) (j : Nat) (b : Int) : Prop := ∃ dg sd st : Int, lstAt s j = some [.int dg, .int sd, .int st] ∧ 0 ≤ sd ∧ sd ≤ 10 ^ 31 ∧ 0 ≤ st ∧ st ≤ b
def Same (j : Nat) (s s' : Store) : Prop := s'.length = s.length ∧ ∀ i, i ≠ j → s'[i]? = s[i]?
theorem Same.refl {j : Nat} {s : Store} : Same j s s := ⟨rfl, fun _ _ => rfl⟩
theorem Same.trans {j : Nat} {s s1 s2 : Store} (a : Same j s s1) (b : Same j s1 s2) : Same j s s2 := ⟨b.1.trans a.1, fun i h => (b.2 i h).trans (a.2 i h)⟩
theorem Same.lst {j i : Nat} {s s1 : Store} (a : Same j s s1) (h : i ≠ j) : lstAt s1 i = lstAt s i := by
  unfold lstAt
  rw [a.2 i h]
theorem Same.set {j : Nat} {s : Store} {c : Cell} : Same j s (s.set j c) := ⟨List.length_set, fun i h => List.getElem?_set_ne (Ne.symm h)⟩
theorem lstAt_lt {s : Store} {n : Nat} {ds : List D} (h : lstAt s n = some ds) : n < s.length := (List.getElem?_eq_some_iff.mp (lstAt_some h)).1
theorem take_spec {s : Store} {j : Nat} {b m : Int} (S : Src s j b) (hb : b ≤ 10 ^ 5) (m0 : 0 < m) (m1 : m ≤ 10 ^ 10) : ∃ (v : Int) (s' : Store), w__law_take [.ref j, .int m] s = .ok (.int v) s' ∧ 0 ≤ v ∧ v < m ∧ Src s' j (b + 1) ∧ Same j s s' := by
  obtain ⟨dg, sd, st, h, s0, s1, t0, t1⟩ := S
  refine ⟨(takeN dg sd st m).1, _, ?_, (takeN_lt m0).1, (takeN_lt m0).2, ⟨(takeN dg sd st m).2, sd, st + 1, at_set h, s0, s1, by omega, by omega⟩, Same.set⟩
  unfold w__law_take
  dsimp only
  rw [h]
  dsimp only
  rw [if_pos ⟨m0, m1, s0, s1, t0, by omega⟩]
theorem src_spec {s : Store} {is : List Int} {k : Int} (h : is.length ≤ 1000) (k0 : 0 ≤ k) (k1 : k ≤ 1000) : w__law_source [.fl (is.map D.int), .int k] s = .ok (.ref s.length) (s ++ [.lst (srcL is k)]) ∧ Src (s ++ [.lst (srcL is k)]) s.length 0 := by
  constructor
  · unfold w__law_source
    dsimp only
    rw [intsOf_map]
    dsimp only
    rw [if_pos ⟨k0, k1, h⟩]
  · have e : lstAt (s ++ [.lst (srcL is k)]) s.length = some (srcL is k) := lstAt_of at_push
    have p : (0 : Int) < 10 ^ 30 + 57 := by decide
    have a := Int.emod_nonneg (srcCell is k) (show (10 ^ 30 + 57 : Int) ≠ 0 by decide)
    have b := Int.emod_lt_of_pos (srcCell is k) p
    exact ⟨_, _, _, e, by omega, by omega, by decide, by decide⟩
theorem push_lst {s : Store} {c : Cell} {i : Nat} {ds : List D} (h : lstAt s i = some ds) : lstAt (s ++ [c]) i = some ds := by
  have hl := lstAt_lt h
  have := lstAt_some h
  exact lstAt_of (by rw [List.getElem?_append_left hl]; exact this)
/-- numbers drawn one behind another -/
theorem takes_spec {m : Int} {js : Nat} {ρ0 : Envt} {j : Nat} {e1 e2 : ME} (m0 : 0 < m) (m1 : m ≤ 10 ^ 10) (h1 : ∀ d s, e1 (ρ0.set js (some d)) s = .ok (.ref j) s) (h2 : ∀ d s, e2 (ρ0.set js (some d)) s = .ok (.int m) s) :
    ∀ (ds : List D) (s : Store) (b : Int), Src s j b → b + ds.length ≤ 10 ^ 5 → ∃ (vs : List Int) (s' : Store), lcL [] [js] mYes (mCall 2 w__law_take (aCons e1 (aCons e2 aNil))) ρ0 ds s = .ok (vs.map D.int) s' ∧ vs.length = ds.length ∧ (∀ v ∈ vs, inN m v) ∧ Src s' j (b + ds.length) ∧ Same j s s'
  | [], s, b, S, _ => ⟨[], s, by unfold lcL; rw [if_pos gd_nil]; rfl, rfl, (fun _ z => by cases z), (by simpa using S), Same.refl⟩
  | d :: ds, s, b, S, hb => by
    rw [List.length_cons] at hb
    obtain ⟨v, s1, e, v0, v1, S1, k1⟩ := take_spec S (by omega) m0 m1
    obtain ⟨vs, s2, e', hl, hv, S2, k2⟩ := takes_spec m0 m1 h1 h2 ds s1 (b + 1) S1 (by omega)
    refine ⟨v :: vs, s2, ?_, by rw [List.length_cons, List.length_cons, hl], fun x m => ?_, ?_, k1.trans k2⟩
    · unfold lcL
      rw [if_pos gd_nil]
      simp only [tgE, mYes, mCall, aCons, aNil, h1, h2, bind_ok, ne_ok, List.length_cons, List.length_nil, if_true, e, e', List.map_cons]
    · rcases List.mem_cons.mp m with rfl | m
      · exact ⟨v0, v1⟩
      · exact hv x m
    · rw [List.length_cons]
      have : b + ((ds.length + 1 : Nat) : Int) = b + 1 + ds.length := by omega
      rw [this]
      exact S2
/-! rules as data -/
theorem all_ints {n : Int} : ∀ {l : List Int}, ((l.map D.int).all (belowB n)) = true ↔ ∀ i ∈ l, inN n i
  | [] => by simp
  | i :: l => by
    rw [List.map_cons, List.all_cons, Bool.and_eq_true_iff, all_ints (l := l)]
    simp [belowB, inN]
theorem ints_dat {l : List Int} {k : Nat} : datL (l.map D.int) k = true := datL_all.mpr fun d m => by
  obtain ⟨i, _, rfl⟩ := List.mem_map.mp m
  exact int_dat
theorem Rl.dat (r : Rl) : r.toD.dat 2 = true := by
  unfold Rl.toD D.dat
  refine Bool.and_eq_true_iff.mpr ⟨by decide, datL_all.mpr fun d m => ?_⟩
  rcases List.mem_cons.mp m with rfl | m
  · exact int_dat
  rcases List.mem_cons.mp m with rfl | m
  · exact int_dat
  rcases List.mem_cons.mp m with rfl | m
  · exact int_dat
  rw [List.mem_singleton.mp m]
  unfold D.dat
  rw [ints_dat]
  rfl
theorem ruleB_ok {n : Int} {r : Rl} : ruleB n r.toD = true ↔ r.ok n := by
  unfold Rl.toD ruleB sigB Rl.ok
  simp only [Bool.and_eq_true_iff, all_ints, eqv_int, List.length_map, decide_eq_true_iff, belowB, inN, Bool.not_eq_true', decide_eq_false_iff_not, ne_eq]
theorem pyL_ints : ∀ l : List Int, pyL (l.map D.int) = some (l.map PyData.int)
  | [] => by unfold pyL; rfl
  | i :: l => by
    rw [List.map_cons]
    unfold pyL
    rw [pyL_ints l]
    unfold D.py
    rfl
theorem eqvAll_ints : ∀ l k : List Int, PyData.eqvAll (l.map PyData.int) (k.map PyData.int) = decide (l = k)
  | [], [] => by unfold PyData.eqvAll; simp
  | [], _ :: _ => by unfold PyData.eqvAll; simp
  | _ :: _, [] => by unfold PyData.eqvAll; simp
  | i :: l, j :: k => by
    rw [List.map_cons, List.map_cons]
    unfold PyData.eqvAll PyData.eqv
    rw [eqvAll_ints l k]
    by_cases h : i = j <;> by_cases h2 : l = k <;> simp [h, h2]
theorem Rl.py (r : Rl) : r.toD.py = some (.tuple [.int r.a, .int r.b, .int r.c, .tuple (r.sg.map PyData.int)]) := by
  unfold Rl.toD D.py pyL pyL pyL pyL pyL D.py
  rw [pyL_ints]
  rfl
theorem Rl.eqv (r t : Rl) : r.toD.eqv t.toD = decide (r = t) := by
  unfold D.eqv
  rw [r.py, t.py]
  dsimp only
  unfold PyData.eqv PyData.eqvAll PyData.eqvAll PyData.eqvAll PyData.eqvAll PyData.eqvAll PyData.eqv
  rw [eqvAll_ints]
  obtain ⟨a, b, c, g⟩ := r
  obtain ⟨a', b', c', g'⟩ := t
  by_cases h1 : a = a' <;> by_cases h2 : b = b' <;> by_cases h3 : c = c' <;> by_cases h4 : g = g' <;> simp [h1, h2, h3, h4]
theorem anyEq_rl {l : List Rl} {r : Rl} : anyEq (l.map Rl.toD) r.toD = decide (r ∈ l) := by
  unfold anyEq
  rw [List.any_map]
  induction l with
  | nil => simp
  | cons t l ih =>
    rw [List.any_cons, ih]
    have : (fun z => D.eqv z r.toD) (Rl.toD t) = decide (t = r) := t.eqv r
    show (((fun z => D.eqv z r.toD) (Rl.toD t)) || _) = _
    rw [this]
    by_cases h : t = r
    · simp [h]
    · have h' : ¬ r = t := fun z => h z.symm
      by_cases h2 : r ∈ l <;> simp [h, h', h2]
theorem rls_dat {l : List Rl} {k : Nat} (h : 2 ≤ k) : datL (l.map Rl.toD) k = true := datL_all.mpr fun d m => by
  obtain ⟨r, _, rfl⟩ := List.mem_map.mp m
  exact dat_mono _ r.dat h
end LY
/-! Rk76b: the drawn rules. -/
namespace LY
open PySem PySem.Spec PyProof.Rows L2
/-- behind the first n cells -/
def Pre (s0 s : Store) : Prop := s.take s0.length = s0 ∧ s0.length ≤ s.length
theorem Pre.push {s0 s : Store} {c : Cell} (h : Pre s0 s) : Pre s0 (s ++ [c]) := ⟨by rw [List.take_append_of_le_length h.2]; exact h.1, by rw [List.length_append]; exact Nat.le_trans h.2 (Nat.le_add_right _ _)⟩
theorem Pre.set {s0 s : Store} {c : Cell} {j : Nat} (h : Pre s0 s) (hj : s0.length ≤ j) : Pre s0 (s.set j c) := ⟨by rw [List.take_set_of_le hj]; exact h.1, by rw [List.length_set]; exact h.2⟩
theorem Pre.same {s0 s s' : Store} {j : Nat} (h : Pre s0 s) (hj : s0.length ≤ j) (k : Same j s s') : Pre s0 s' := by
  have hl : s'.length = s.length := k.1
  have h2 := h.2
  refine ⟨?_, by rw [hl]; exact h2⟩
  have e : s'.take s0.length = s.take s0.length := by
    refine List.ext_getElem? fun i => ?_
    by_cases hi : i < s0.length
    · rw [List.getElem?_take_of_lt hi, List.getElem?_take_of_lt hi]
      exact k.2 i (by omega)
    · rw [List.getElem?_eq_none (by rw [List.length_take]; omega), List.getElem?_eq_none (by rw [List.length_take]; omega)]
  rw [e]
  exact h.1
theorem ps_same {a j : Nat} {s s' : Store} {ds : List D} (h : lstAt s a = some ds) (hn : a ≠ j) (k : Same j s s') : lstAt s' a = some ds := by
  rw [k.lst hn]
  exact h
/-- while rules are drawn -/
structure DrI (is : List Int) (first n : Int) (m : Nat) (s0 : Store) (r : List D) (ρ : Envt) (s : Store) : Prop where
  ex : ∃ (i : Nat) (j : Nat) (l : List Rl) (x6 x7 x8 x9 x10 : Option D), i + r.length = m ∧ r = upto i (m - i) ∧ ρ = [some (.fl (is.map D.int)), some (.int first), some (.int n), some (.ref s0.length), some (.ref j), some (.int m), x6, x7, x8, x9, x10] ∧
    lstAt s s0.length = some (l.map Rl.toD) ∧ goodL n l ∧ l.length ≤ i ∧ Src s j (1 + 10 * i) ∧ s0.length < j ∧ Pre s0 s
noncomputable def drTail : MS := (mSeq (mSet 7 (mCall 2 w__law_take (aCons (mVar 4) (aCons (mVar 2) (aNil))))) (mSeq (mSet 8 (mBin oMod (mArgs fInt (aCons (mBin oAdd (mBin oAdd (mVar 7) (mC (.int 1))) (mCall 2 w__law_take (aCons (mVar 4) (aCons (mBin oSub (mVar 2) (mC (.int 1))) (aNil))))) (aNil))) (mVar 2))) (mSeq (mSet 9 (mArgs fTup (aCons (mCall 2 w__law_take (aCons (mVar 4) (aCons (mVar 2) (aNil)))) (aCons (mVar 7) (aCons (mVar 8) (aCons (mArgs fTupOf (aCons (mLc (([("j", 10)] : List (Str × Nat)).map (·.2)) [10] (iR1 (aCons (mVar 2) (aNil))) (mYes) (mCall 2 w__law_take (aCons (mVar 4) (aCons (mVar 2) (aNil))))) (aNil))) (aNil))))))) (mIf (mTst (mBin (oInN true) (mVar 9) (mVar 3))) (mDrop (mApp (mVar 3) (mVar 9))) (mNx)))))
noncomputable def drBody : MS := (mSeq (mIf (mTst (mChain oLt oLt (mC (.int 0)) (mVar 6) (mBin oSub (mArgs fLen (aCons (mVar 0) (aNil))) (mVar 1)))) (mSet 4 (mCall 2 w__law_source (aCons (mVar 0) (aCons (mBin oAdd (mVar 1) (mVar 6)) (aNil))))) (mNx)) drTail)
theorem dr_rule {n : Int} {own t above : Int} {vs : List Int} (n2 : 1 < n) (h1 : inN n own) (h2 : inN (n - 1) t) (h3 : inN n above) (hl : (vs.length : Int) = n) (hv : ∀ v ∈ vs, inN n v) : (Rl.mk above own ((own + 1 + t) % n) vs).ok n := by
  unfold inN at *
  refine ⟨h3, h1, ⟨Int.emod_nonneg _ (by omega), Int.emod_lt_of_pos _ (by omega)⟩, fun e => ?_, hl, hv⟩
  dsimp only at e
  by_cases q : own + 1 + t < n
  · rw [Int.emod_eq_of_lt (by omega) q] at e
    omega
  · have : (own + 1 + t) % n = own + 1 + t - n := by
      rw [← Int.sub_emod_right, Int.emod_eq_of_lt (by omega) (by omega)]
    omega
theorem iR1_ok {mr : MA} {ρ : Envt} {s s' : Store} {j : Int} (h : mr ρ s = .ok [.int j] s') (h0 : 0 ≤ j) (h1 : j ≤ 1000) : iR1 mr ρ s = .ok (upto 0 j.toNat, []) s' := by
  unfold iR1
  rw [h, bind_ok]
  dsimp only
  rw [if_pos ⟨by omega, by omega⟩]
/-- behind the source -/
theorem dr_tail {is : List Int} {first n : Int} {m i : Nat} {s0 s : Store} {j : Nat} {l : List Rl} {x7 x8 x9 x10 : Option D} (n2 : 1 < n) (n3 : n ≤ 4) (hi : i < m) (hm : m ≤ 12)
    (hr : lstAt s s0.length = some (l.map Rl.toD)) (gl : goodL n l) (hl : l.length ≤ i) (S : Src s j (1 + 10 * i)) (hj : s0.length < j) (hp : Pre s0 s) :
    ∃ ρ' s', drTail
      [some (.fl (is.map D.int)), some (.int first), some (.int n), some (.ref s0.length), some (.ref j), some (.int m), some (.int i), x7, x8, x9, x10] s = .nx ρ' s' ∧ DrI is first n m s0 (upto (i + 1 : Nat) (m - (i + 1))) ρ' s' := by
  obtain ⟨own, s1, e1, o0, o1, S1, k1⟩ := take_spec S (by omega) (show 0 < n by omega) (by omega)
  obtain ⟨t, s2, e2, t0, t1, S2, k2⟩ := take_spec S1 (by omega) (show 0 < n - 1 by omega) (by omega)
  obtain ⟨ab, s3, e3, a0, a1, S3, k3⟩ := take_spec S2 (by omega) (show 0 < n by omega) (by omega)
  let ρ9 : Envt := [some (.fl (is.map D.int)), some (.int first), some (.int n), some (.ref s0.length), some (.ref j), some (.int m), some (.int i), some (.int own), some (.int ((own + 1 + t) % n)), x9, x10]
  obtain ⟨vs, s4, e4, hvl, hv, S4, k4⟩ := takes_spec (js := 10) (ρ0 := wipeR ρ9 [10]) (j := j) (e1 := mVar 4) (e2 := mVar 2) (show 0 < n by omega) (by omega) (fun d s => by simp only [ρ9, wipeR, fDef, ent, mRet, mRetN, mSeq, mIf, mOrT, mAndT, mNotT, mTst, mArgs, aCons, aNil, mVar, mC, mUn, mBin, mChain, mAndV, mOrV, mNotV, mIfE, mSet, mAsg, mDrop, mRaise, mNx, mBrk, mCnt, gNm, gTp, gsCons, gsNil, mCall, bind_ok, bind_er, out_ok, out_er, seq_nx, seq_rt, seq_er, seq_bk, seq_ct, only_nx, only_er, turn_nx, turn_ct, turn_bk, turn_rt, turn_er, fin_nx, fin_rt, fin_er, ne_ok, List.map_cons, List.map_nil, List.cons_append, List.nil_append, List.length_cons, List.length_nil, List.replicate_succ, List.replicate_zero, List.getElem?_cons_zero, List.getElem?_cons_succ, List.set_cons_zero, List.set_cons_succ, Nat.reduceAdd, Nat.reduceSub, Nat.reduceLT, Bool.not_true, Bool.not_false, Bool.false_eq_true, reduceIte, eq_self, decide_true, decide_false, Bool.true_and, Bool.false_and, Bool.and_true, Bool.and_false, Bool.or_true, Bool.true_or, Bool.or_false, Bool.false_or, if_true, if_false]) (fun d s => by simp only [ρ9, wipeR, fDef, ent, mRet, mRetN, mSeq, mIf, mOrT, mAndT, mNotT, mTst, mArgs, aCons, aNil, mVar, mC, mUn, mBin, mChain, mAndV, mOrV, mNotV, mIfE, mSet, mAsg, mDrop, mRaise, mNx, mBrk, mCnt, gNm, gTp, gsCons, gsNil, mCall, bind_ok, bind_er, out_ok, out_er, seq_nx, seq_rt, seq_er, seq_bk, seq_ct, only_nx, only_er, turn_nx, turn_ct, turn_bk, turn_rt, turn_er, fin_nx, fin_rt, fin_er, ne_ok, List.map_cons, List.map_nil, List.cons_append, List.nil_append, List.length_cons, List.length_nil, List.replicate_succ, List.replicate_zero, List.getElem?_cons_zero, List.getElem?_cons_succ, List.set_cons_zero, List.set_cons_succ, Nat.reduceAdd, Nat.reduceSub, Nat.reduceLT, Bool.not_true, Bool.not_false, Bool.false_eq_true, reduceIte, eq_self, decide_true, decide_false, Bool.true_and, Bool.false_and, Bool.and_true, Bool.and_false, Bool.or_true, Bool.true_or, Bool.or_false, Bool.false_or, if_true, if_false]) (upto 0 n.toNat) s3 _ S3 (by rw [upto_len]; omega)
  rw [upto_len] at hvl S4
  have kk := ((k1.trans k2).trans k3).trans k4
  have hr4 := ps_same hr (Nat.ne_of_lt hj) kk
  have hp4 := hp.same (Nat.le_of_lt hj) kk
  have hlc : mLc [10] [10] (iR1 (aCons (mVar 2) (aNil))) (mYes) (mCall 2 w__law_take (aCons (mVar 4) (aCons (mVar 2) (aNil)))) ρ9 s3 = .ok (.fl (vs.map D.int)) s4 := by
    unfold mLc mLcL
    have er : iR1 (aCons (mVar 2) (aNil)) ρ9 s3 = .ok (upto 0 n.toNat, []) s3 := by
      exact iR1_ok (by simp only [ρ9, fDef, ent, mRet, mRetN, mSeq, mIf, mOrT, mAndT, mNotT, mTst, mArgs, aCons, aNil, mVar, mC, mUn, mBin, mChain, mAndV, mOrV, mNotV, mIfE, mSet, mAsg, mDrop, mRaise, mNx, mBrk, mCnt, gNm, gTp, gsCons, gsNil, mCall, bind_ok, bind_er, out_ok, out_er, seq_nx, seq_rt, seq_er, seq_bk, seq_ct, only_nx, only_er, turn_nx, turn_ct, turn_bk, turn_rt, turn_er, fin_nx, fin_rt, fin_er, ne_ok, List.map_cons, List.map_nil, List.cons_append, List.nil_append, List.length_cons, List.length_nil, List.replicate_succ, List.replicate_zero, List.getElem?_cons_zero, List.getElem?_cons_succ, List.set_cons_zero, List.set_cons_succ, Nat.reduceAdd, Nat.reduceSub, Nat.reduceLT, Bool.not_true, Bool.not_false, Bool.false_eq_true, reduceIte, eq_self, decide_true, decide_false, Bool.true_and, Bool.false_and, Bool.and_true, Bool.and_false, Bool.or_true, Bool.true_or, Bool.or_false, Bool.false_or, if_true, if_false]) (by omega) (by omega)
    rw [er, bind_ok, if_pos (by rw [upto_len]; unfold big; omega)]
    dsimp only
    rw [e4]
    rfl
  have ok : (Rl.mk ab own ((own + 1 + t) % n) vs).ok n := dr_rule n2 ⟨o0, o1⟩ ⟨t0, t1⟩ ⟨a0, a1⟩ (by omega) hv
  have rd : (Rl.mk ab own ((own + 1 + t) % n) vs).toD.dat 40 = true := dat_mono _ (Rl.dat _) (by decide)
  have ein : oInN true (Rl.mk ab own ((own + 1 + t) % n) vs).toD (.ref s0.length) s4 = .ok (.bl (!decide ((Rl.mk ab own ((own + 1 + t) % n) vs) ∈ l))) s4 := by
    rw [oIn_dat (ds := l.map Rl.toD) (y := .ref s0.length) hr4 rd (rls_dat (by decide)), if_pos rfl, anyEq_rl]
  have hb : (4 : Nat) ≤ big := by decide
  have m0 : (0 : Int) < n := by omega
  by_cases hin : (Rl.mk ab own ((own + 1 + t) % n) vs) ∈ l
  · refine ⟨[some (.fl (is.map D.int)), some (.int first), some (.int n), some (.ref s0.length), some (.ref j), some (.int m), some (.int i), some (.int own), some (.int ((own + 1 + t) % n)), some (Rl.mk ab own ((own + 1 + t) % n) vs).toD, x10], s4, ?_, ⟨i + 1, j, l, _, _, _, _, _, by rw [upto_len]; omega, rfl, rfl, hr4, gl, by omega, ?_, hj, hp4⟩⟩
    · unfold drTail
      simp only [fDef, ent, mRet, mRetN, mSeq, mIf, mOrT, mAndT, mNotT, mTst, mArgs, aCons, aNil, mVar, mC, mUn, mBin, mChain, mAndV, mOrV, mNotV, mIfE, mSet, mAsg, mDrop, mRaise, mNx, mBrk, mCnt, gNm, gTp, gsCons, gsNil, mCall, bind_ok, bind_er, out_ok, out_er, seq_nx, seq_rt, seq_er, seq_bk, seq_ct, only_nx, only_er, turn_nx, turn_ct, turn_bk, turn_rt, turn_er, fin_nx, fin_rt, fin_er, ne_ok, List.map_cons, List.map_nil, List.cons_append, List.nil_append, List.length_cons, List.length_nil, List.replicate_succ, List.replicate_zero, List.getElem?_cons_zero, List.getElem?_cons_succ, List.set_cons_zero, List.set_cons_succ, Nat.reduceAdd, Nat.reduceSub, Nat.reduceLT, Bool.not_true, Bool.not_false, Bool.false_eq_true, reduceIte, eq_self, decide_true, decide_false, Bool.true_and, Bool.false_and, Bool.and_true, Bool.and_false, Bool.or_true, Bool.true_or, Bool.or_false, Bool.false_or, if_true, if_false, e1, add_int, sub_int, e2, int_int, mod_int m0, e3, List.map_cons, List.map_nil]
      rw [show ([some (.fl (is.map D.int)), some (.int first), some (.int n), some (.ref s0.length), some (.ref j), some (.int m), some (.int i), some (.int own), some (.int ((own + 1 + t) % n)), x9, x10] : Envt) = ρ9 from rfl, hlc]
      simp only [fDef, ent, mRet, mRetN, mSeq, mIf, mOrT, mAndT, mNotT, mTst, mArgs, aCons, aNil, mVar, mC, mUn, mBin, mChain, mAndV, mOrV, mNotV, mIfE, mSet, mAsg, mDrop, mRaise, mNx, mBrk, mCnt, gNm, gTp, gsCons, gsNil, mCall, bind_ok, bind_er, out_ok, out_er, seq_nx, seq_rt, seq_er, seq_bk, seq_ct, only_nx, only_er, turn_nx, turn_ct, turn_bk, turn_rt, turn_er, fin_nx, fin_rt, fin_er, ne_ok, List.map_cons, List.map_nil, List.cons_append, List.nil_append, List.length_cons, List.length_nil, List.replicate_succ, List.replicate_zero, List.getElem?_cons_zero, List.getElem?_cons_succ, List.set_cons_zero, List.set_cons_succ, Nat.reduceAdd, Nat.reduceSub, Nat.reduceLT, Bool.not_true, Bool.not_false, Bool.false_eq_true, reduceIte, eq_self, decide_true, decide_false, Bool.true_and, Bool.false_and, Bool.and_true, Bool.and_false, Bool.or_true, Bool.true_or, Bool.or_false, Bool.false_or, if_true, if_false, fTupOf, D.ls, fTup, hb, ρ9]
      rw [show (D.tup [.int ab, .int own, .int ((own + 1 + t) % n), .tup (vs.map D.int)]) = (Rl.mk ab own ((own + 1 + t) % n) vs).toD from rfl, ein]
      simp only [fDef, ent, mRet, mRetN, mSeq, mIf, mOrT, mAndT, mNotT, mTst, mArgs, aCons, aNil, mVar, mC, mUn, mBin, mChain, mAndV, mOrV, mNotV, mIfE, mSet, mAsg, mDrop, mRaise, mNx, mBrk, mCnt, gNm, gTp, gsCons, gsNil, mCall, bind_ok, bind_er, out_ok, out_er, seq_nx, seq_rt, seq_er, seq_bk, seq_ct, only_nx, only_er, turn_nx, turn_ct, turn_bk, turn_rt, turn_er, fin_nx, fin_rt, fin_er, ne_ok, List.map_cons, List.map_nil, List.cons_append, List.nil_append, List.length_cons, List.length_nil, List.replicate_succ, List.replicate_zero, List.getElem?_cons_zero, List.getElem?_cons_succ, List.set_cons_zero, List.set_cons_succ, Nat.reduceAdd, Nat.reduceSub, Nat.reduceLT, Bool.not_true, Bool.not_false, Bool.false_eq_true, reduceIte, eq_self, decide_true, decide_false, Bool.true_and, Bool.false_and, Bool.and_true, Bool.and_false, Bool.or_true, Bool.true_or, Bool.or_false, Bool.false_or, if_true, if_false, hin]
    · obtain ⟨dg, sd, st, q1, q2, q3, q4, q5⟩ := S4
      exact ⟨dg, sd, st, q1, q2, q3, q4, by omega⟩
  · refine ⟨[some (.fl (is.map D.int)), some (.int first), some (.int n), some (.ref s0.length), some (.ref j), some (.int m), some (.int i), some (.int own), some (.int ((own + 1 + t) % n)), some (Rl.mk ab own ((own + 1 + t) % n) vs).toD, x10], s4.set s0.length (.lst ((l ++ [Rl.mk ab own ((own + 1 + t) % n) vs]).map Rl.toD)), ?_, ⟨i + 1, j, l ++ [Rl.mk ab own ((own + 1 + t) % n) vs], _, _, _, _, _, by rw [upto_len]; omega, rfl, rfl, at_set hr4, ?_, by rw [List.length_append, List.length_singleton]; omega, ?_, hj, hp4.set (Nat.le_refl _)⟩⟩
    · unfold drTail
      simp only [fDef, ent, mRet, mRetN, mSeq, mIf, mOrT, mAndT, mNotT, mTst, mArgs, aCons, aNil, mVar, mC, mUn, mBin, mChain, mAndV, mOrV, mNotV, mIfE, mSet, mAsg, mDrop, mRaise, mNx, mBrk, mCnt, gNm, gTp, gsCons, gsNil, mCall, bind_ok, bind_er, out_ok, out_er, seq_nx, seq_rt, seq_er, seq_bk, seq_ct, only_nx, only_er, turn_nx, turn_ct, turn_bk, turn_rt, turn_er, fin_nx, fin_rt, fin_er, ne_ok, List.map_cons, List.map_nil, List.cons_append, List.nil_append, List.length_cons, List.length_nil, List.replicate_succ, List.replicate_zero, List.getElem?_cons_zero, List.getElem?_cons_succ, List.set_cons_zero, List.set_cons_succ, Nat.reduceAdd, Nat.reduceSub, Nat.reduceLT, Bool.not_true, Bool.not_false, Bool.false_eq_true, reduceIte, eq_self, decide_true, decide_false, Bool.true_and, Bool.false_and, Bool.and_true, Bool.and_false, Bool.or_true, Bool.true_or, Bool.or_false, Bool.false_or, if_true, if_false, e1, add_int, sub_int, e2, int_int, mod_int m0, e3, List.map_cons, List.map_nil]
      rw [show ([some (.fl (is.map D.int)), some (.int first), some (.int n), some (.ref s0.length), some (.ref j), some (.int m), some (.int i), some (.int own), some (.int ((own + 1 + t) % n)), x9, x10] : Envt) = ρ9 from rfl, hlc]
      simp only [fDef, ent, mRet, mRetN, mSeq, mIf, mOrT, mAndT, mNotT, mTst, mArgs, aCons, aNil, mVar, mC, mUn, mBin, mChain, mAndV, mOrV, mNotV, mIfE, mSet, mAsg, mDrop, mRaise, mNx, mBrk, mCnt, gNm, gTp, gsCons, gsNil, mCall, bind_ok, bind_er, out_ok, out_er, seq_nx, seq_rt, seq_er, seq_bk, seq_ct, only_nx, only_er, turn_nx, turn_ct, turn_bk, turn_rt, turn_er, fin_nx, fin_rt, fin_er, ne_ok, List.map_cons, List.map_nil, List.cons_append, List.nil_append, List.length_cons, List.length_nil, List.replicate_succ, List.replicate_zero, List.getElem?_cons_zero, List.getElem?_cons_succ, List.set_cons_zero, List.set_cons_succ, Nat.reduceAdd, Nat.reduceSub, Nat.reduceLT, Bool.not_true, Bool.not_false, Bool.false_eq_true, reduceIte, eq_self, decide_true, decide_false, Bool.true_and, Bool.false_and, Bool.and_true, Bool.and_false, Bool.or_true, Bool.true_or, Bool.or_false, Bool.false_or, if_true, if_false, fTupOf, D.ls, fTup, hb, ρ9]
      rw [show (D.tup [.int ab, .int own, .int ((own + 1 + t) % n), .tup (vs.map D.int)]) = (Rl.mk ab own ((own + 1 + t) % n) vs).toD from rfl, ein]
      have hlb : l.length < big := by unfold big; omega
      simp only [fDef, ent, mRet, mRetN, mSeq, mIf, mOrT, mAndT, mNotT, mTst, mArgs, aCons, aNil, mVar, mC, mUn, mBin, mChain, mAndV, mOrV, mNotV, mIfE, mSet, mAsg, mDrop, mRaise, mNx, mBrk, mCnt, gNm, gTp, gsCons, gsNil, mCall, bind_ok, bind_er, out_ok, out_er, seq_nx, seq_rt, seq_er, seq_bk, seq_ct, only_nx, only_er, turn_nx, turn_ct, turn_bk, turn_rt, turn_er, fin_nx, fin_rt, fin_er, ne_ok, List.map_cons, List.map_nil, List.cons_append, List.nil_append, List.length_cons, List.length_nil, List.replicate_succ, List.replicate_zero, List.getElem?_cons_zero, List.getElem?_cons_succ, List.set_cons_zero, List.set_cons_succ, Nat.reduceAdd, Nat.reduceSub, Nat.reduceLT, Bool.not_true, Bool.not_false, Bool.false_eq_true, reduceIte, eq_self, decide_true, decide_false, Bool.true_and, Bool.false_and, Bool.and_true, Bool.and_false, Bool.or_true, Bool.true_or, Bool.or_false, Bool.false_or, if_true, if_false, hin, mApp, oApp, hr4, List.length_map, hlb, List.map_append]
    · refine ⟨List.nodup_append.mpr ⟨gl.1, by simp, fun a ha b hb e => ?_⟩, fun r hr => ?_⟩
      · rw [List.mem_singleton.mp hb] at e
        exact hin (e ▸ ha)
      · rcases List.mem_append.mp hr with h | h
        · exact gl.2 r h
        · rw [List.mem_singleton.mp h]; exact ok
    · obtain ⟨dg, sd, st, q1, q2, q3, q4, q5⟩ := S4
      refine ⟨dg, sd, st, ?_, q2, q3, q4, by omega⟩
      rw [(Same.set (j := s0.length)).lst (Nat.ne_of_gt hj)]
      exact q1
theorem Src.mono {s : Store} {j : Nat} {b c : Int} (S : Src s j b) (h : b ≤ c) : Src s j c := by
  obtain ⟨dg, sd, st, q1, q2, q3, q4, q5⟩ := S
  exact ⟨dg, sd, st, q1, q2, q3, q4, by omega⟩
theorem Src.lt {s : Store} {j : Nat} {b : Int} (S : Src s j b) : j < s.length := by
  obtain ⟨dg, sd, st, q1, _⟩ := S
  exact lstAt_lt q1
theorem dr_step {is : List Int} {first n : Int} {m : Nat} {s0 : Store} (n2 : 1 < n) (n3 : n ≤ 4) (hm : m ≤ 12) (f0 : 0 ≤ first) (f1 : first ≤ 900) (hlen : is.length ≤ 1000) (d : D) (r : List D) (ρ : Envt) (s : Store) (I : DrI is first n m s0 (d :: r) ρ s) :
    ∃ ρ' s', ((gNm 6 d ρ s).only.seq drBody) = .nx ρ' s' ∧ DrI is first n m s0 r ρ' s' := by
  obtain ⟨i, j, l, x6, x7, x8, x9, x10, h1, h2, rfl, hr, gl, hl, S, hj, hp⟩ := I.ex
  have hi : i < m := by rw [List.length_cons] at h1; omega
  have e : m - i = (m - (i + 1)) + 1 := by omega
  rw [e, upto_succ, List.cons.injEq] at h2
  obtain ⟨rfl, rfl⟩ := h2
  by_cases c : (0 : Int) < i ∧ (i : Int) < is.length - first
  · have sp := src_spec (s := s) hlen (show 0 ≤ first + i by omega) (show first + i ≤ 1000 by omega)
    obtain ⟨ρ', s', e1, e2⟩ := dr_tail (is := is) (first := first) (m := m) (i := i) (s := s ++ [.lst (srcL is (first + i))]) (x7 := x7) (x8 := x8) (x9 := x9) (x10 := x10) n2 n3 hi hm (push_lst hr) gl hl (sp.2.mono (by omega)) (Nat.lt_of_lt_of_le hj (Nat.le_of_lt S.lt)) hp.push
    refine ⟨ρ', s', ?_, e2⟩
    rw [← e1]
    unfold drBody
    simp only [fDef, ent, mRet, mRetN, mSeq, mIf, mOrT, mAndT, mNotT, mTst, mArgs, aCons, aNil, mVar, mC, mUn, mBin, mChain, mAndV, mOrV, mNotV, mIfE, mSet, mAsg, mDrop, mRaise, mNx, mBrk, mCnt, gNm, gTp, gsCons, gsNil, mCall, bind_ok, bind_er, out_ok, out_er, seq_nx, seq_rt, seq_er, seq_bk, seq_ct, only_nx, only_er, turn_nx, turn_ct, turn_bk, turn_rt, turn_er, fin_nx, fin_rt, fin_er, ne_ok, List.map_cons, List.map_nil, List.cons_append, List.nil_append, List.length_cons, List.length_nil, List.replicate_succ, List.replicate_zero, List.getElem?_cons_zero, List.getElem?_cons_succ, List.set_cons_zero, List.set_cons_succ, Nat.reduceAdd, Nat.reduceSub, Nat.reduceLT, Bool.not_true, Bool.not_false, Bool.false_eq_true, reduceIte, eq_self, decide_true, decide_false, Bool.true_and, Bool.false_and, Bool.and_true, Bool.and_false, Bool.or_true, Bool.true_or, Bool.or_false, Bool.false_or, if_true, if_false, len_fl, List.length_map, lt_int, sub_int, add_int, c.1, c.2, sp.1]
  · obtain ⟨ρ', s', e1, e2⟩ := dr_tail (is := is) (first := first) (m := m) (i := i) (s := s) (x7 := x7) (x8 := x8) (x9 := x9) (x10 := x10) n2 n3 hi hm hr gl hl S hj hp
    refine ⟨ρ', s', ?_, e2⟩
    rw [← e1]
    unfold drBody
    by_cases c1 : (0 : Int) < i
    · have c2 : ¬ (i : Int) < is.length - first := fun z => c ⟨c1, z⟩
      simp only [fDef, ent, mRet, mRetN, mSeq, mIf, mOrT, mAndT, mNotT, mTst, mArgs, aCons, aNil, mVar, mC, mUn, mBin, mChain, mAndV, mOrV, mNotV, mIfE, mSet, mAsg, mDrop, mRaise, mNx, mBrk, mCnt, gNm, gTp, gsCons, gsNil, mCall, bind_ok, bind_er, out_ok, out_er, seq_nx, seq_rt, seq_er, seq_bk, seq_ct, only_nx, only_er, turn_nx, turn_ct, turn_bk, turn_rt, turn_er, fin_nx, fin_rt, fin_er, ne_ok, List.map_cons, List.map_nil, List.cons_append, List.nil_append, List.length_cons, List.length_nil, List.replicate_succ, List.replicate_zero, List.getElem?_cons_zero, List.getElem?_cons_succ, List.set_cons_zero, List.set_cons_succ, Nat.reduceAdd, Nat.reduceSub, Nat.reduceLT, Bool.not_true, Bool.not_false, Bool.false_eq_true, reduceIte, eq_self, decide_true, decide_false, Bool.true_and, Bool.false_and, Bool.and_true, Bool.and_false, Bool.or_true, Bool.true_or, Bool.or_false, Bool.false_or, if_true, if_false, len_fl, List.length_map, lt_int, sub_int, add_int, c1, c2]
    · simp only [fDef, ent, mRet, mRetN, mSeq, mIf, mOrT, mAndT, mNotT, mTst, mArgs, aCons, aNil, mVar, mC, mUn, mBin, mChain, mAndV, mOrV, mNotV, mIfE, mSet, mAsg, mDrop, mRaise, mNx, mBrk, mCnt, gNm, gTp, gsCons, gsNil, mCall, bind_ok, bind_er, out_ok, out_er, seq_nx, seq_rt, seq_er, seq_bk, seq_ct, only_nx, only_er, turn_nx, turn_ct, turn_bk, turn_rt, turn_er, fin_nx, fin_rt, fin_er, ne_ok, List.map_cons, List.map_nil, List.cons_append, List.nil_append, List.length_cons, List.length_nil, List.replicate_succ, List.replicate_zero, List.getElem?_cons_zero, List.getElem?_cons_succ, List.set_cons_zero, List.set_cons_succ, Nat.reduceAdd, Nat.reduceSub, Nat.reduceLT, Bool.not_true, Bool.not_false, Bool.false_eq_true, reduceIte, eq_self, decide_true, decide_false, Bool.true_and, Bool.false_and, Bool.and_true, Bool.and_false, Bool.or_true, Bool.true_or, Bool.or_false, Bool.false_or, if_true, if_false, len_fl, List.length_map, lt_int, sub_int, add_int, c1]
theorem dr_loop {is : List Int} {first n : Int} {m : Nat} {s0 s : Store} {j : Nat} (n2 : 1 < n ∨ m = 0) (n3 : n ≤ 4) (hm : m ≤ 12) (f0 : 0 ≤ first) (f1 : first ≤ 900) (hlen : is.length ≤ 1000) (hr : lstAt s s0.length = some []) (S : Src s j 1) (hj : s0.length < j) (hp : Pre s0 s) :
    ∃ ρ' s' l, mFor (iR1 (aCons (mVar 5) (aNil))) (gNm 6) drBody [some (.fl (is.map D.int)), some (.int first), some (.int n), some (.ref s0.length), some (.ref j), some (.int m), none, none, none, none, none] s = .nx ρ' s' ∧ ρ'[3]? = some (some (.ref s0.length)) ∧
      lstAt s' s0.length = some (l.map Rl.toD) ∧ goodL n l ∧ l.length ≤ 12 ∧ Pre s0 s' := by
  have er : ∀ s, iR1 (aCons (mVar 5) (aNil)) [some (.fl (is.map D.int)), some (.int first), some (.int n), some (.ref s0.length), some (.ref j), some (.int m), none, none, none, none, none] s = .ok (upto 0 m, []) s := fun s => by
    have z := iR1_ok (mr := aCons (mVar 5) (aNil)) (ρ := [some (.fl (is.map D.int)), some (.int first), some (.int n), some (.ref s0.length), some (.ref j), some (.int m), none, none, none, none, none]) (s := s) (s' := s) (j := (m : Int)) (by simp only [fDef, ent, mRet, mRetN, mSeq, mIf, mOrT, mAndT, mNotT, mTst, mArgs, aCons, aNil, mVar, mC, mUn, mBin, mChain, mAndV, mOrV, mNotV, mIfE, mSet, mAsg, mDrop, mRaise, mNx, mBrk, mCnt, gNm, gTp, gsCons, gsNil, mCall, bind_ok, bind_er, out_ok, out_er, seq_nx, seq_rt, seq_er, seq_bk, seq_ct, only_nx, only_er, turn_nx, turn_ct, turn_bk, turn_rt, turn_er, fin_nx, fin_rt, fin_er, ne_ok, List.map_cons, List.map_nil, List.cons_append, List.nil_append, List.length_cons, List.length_nil, List.replicate_succ, List.replicate_zero, List.getElem?_cons_zero, List.getElem?_cons_succ, List.set_cons_zero, List.set_cons_succ, Nat.reduceAdd, Nat.reduceSub, Nat.reduceLT, Bool.not_true, Bool.not_false, Bool.false_eq_true, reduceIte, eq_self, decide_true, decide_false, Bool.true_and, Bool.false_and, Bool.and_true, Bool.and_false, Bool.or_true, Bool.true_or, Bool.or_false, Bool.false_or, if_true, if_false]) (by omega) (by omega)
    rw [z, Int.toNat_natCast]
  have I0 : DrI is first n m s0 (upto 0 m) [some (.fl (is.map D.int)), some (.int first), some (.int n), some (.ref s0.length), some (.ref j), some (.int m), none, none, none, none, none] s := ⟨0, j, [], _, _, _, _, _, by rw [upto_len, Nat.zero_add], (by rw [Nat.sub_zero]; rfl), rfl, hr, ⟨List.nodup_nil, fun _ z => by cases z⟩, Nat.le_refl _, S.mono (by omega), hj, hp⟩
  obtain ⟨ρ', s', e, I'⟩ := forL_inv (gd := []) (g := gNm 6) (body := drBody) (DrI is first n m s0) (fun _ _ _ _ => gd_nil) (fun d r ρ s I => by
    rcases n2 with n2 | z
    · exact dr_step n2 n3 hm f0 f1 hlen d r ρ s I
    · obtain ⟨i, _, _, _, _, _, _, _, h1, _⟩ := I.ex
      rw [List.length_cons] at h1
      omega) _ _ _ I0
  obtain ⟨i, j', l, x6, x7, x8, x9, x10, h1, h2, rfl, hr', gl, hl, S', hj', hp'⟩ := I'.ex
  refine ⟨_, s', l, (?_ : _ = Out.nx [some (.fl (is.map D.int)), some (.int first), some (.int n), some (.ref s0.length), some (.ref j'), some (.int m), x6, x7, x8, x9, x10] s'), ?_, hr', gl, ?_, hp'⟩
  · unfold mFor
    rw [er, out_ok]
    exact e
  · simp only [fDef, ent, mRet, mRetN, mSeq, mIf, mOrT, mAndT, mNotT, mTst, mArgs, aCons, aNil, mVar, mC, mUn, mBin, mChain, mAndV, mOrV, mNotV, mIfE, mSet, mAsg, mDrop, mRaise, mNx, mBrk, mCnt, gNm, gTp, gsCons, gsNil, mCall, bind_ok, bind_er, out_ok, out_er, seq_nx, seq_rt, seq_er, seq_bk, seq_ct, only_nx, only_er, turn_nx, turn_ct, turn_bk, turn_rt, turn_er, fin_nx, fin_rt, fin_er, ne_ok, List.map_cons, List.map_nil, List.cons_append, List.nil_append, List.length_cons, List.length_nil, List.replicate_succ, List.replicate_zero, List.getElem?_cons_zero, List.getElem?_cons_succ, List.set_cons_zero, List.set_cons_succ, Nat.reduceAdd, Nat.reduceSub, Nat.reduceLT, Bool.not_true, Bool.not_false, Bool.false_eq_true, reduceIte, eq_self, decide_true, decide_false, Bool.true_and, Bool.false_and, Bool.and_true, Bool.and_false, Bool.or_true, Bool.true_or, Bool.or_false, Bool.false_or, if_true, if_false]
  · rw [List.length_nil] at h1
    omega
theorem dr_head {is : List Int} {first n t : Int} {s s1 s2 : Store} {m : Nat} {j : Nat} {K : MS} (n2 : 1 < n) (h1 : w__law_source [.fl (is.map D.int), .int first] (s ++ [.lst []]) = .ok (.ref j) s1) (e1 : w__law_take [.ref j, .int 13] s1 = .ok (.int t) s2)
  (hmx : fMax2 [.int t, .int (is.length - first)] s2 = .ok (.int (if (is.length - first : Int) > t then is.length - first else t)) s2) (hmn : fMin2 [.int 12, .int (if (is.length - first : Int) > t then is.length - first else t)] s2 = .ok (.int m) s2) :
  (mSeq (mSet 3 (mArgs fCel (aNil))) (mSeq (mSet 4 (mCall 2 w__law_source (aCons (mVar 0) (aCons (mVar 1) (aNil))))) (mSeq (mSet 5 (mC (.int 0))) (mSeq (mIf (mTst (mBin oGt (mVar 2) (mC (.int 1)))) (mSet 5 (mArgs fMin2 (aCons (mC (.int 12)) (aCons (mArgs fMax2 (aCons (mCall 2 w__law_take (aCons (mVar 4) (aCons (mC (.int 13)) (aNil)))) (aCons (mBin oSub (mArgs fLen (aCons (mVar 0) (aNil))) (mVar 1)) (aNil)))) (aNil))))) (mNx)) K)))) [some (.fl (is.map D.int)), some (.int first), some (.int n), none, none, none, none, none, none, none, none] s = K [some (.fl (is.map D.int)), some (.int first), some (.int n), some (.ref s.length), some (.ref j), some (.int m), none, none, none, none, none] s2 := by
  have hb : (0 : Nat) ≤ big := Nat.zero_le _
  simp only [fDef, ent, mRet, mRetN, mSeq, mIf, mOrT, mAndT, mNotT, mTst, mArgs, aCons, aNil, mVar, mC, mUn, mBin, mChain, mAndV, mOrV, mNotV, mIfE, mSet, mAsg, mDrop, mRaise, mNx, mBrk, mCnt, gNm, gTp, gsCons, gsNil, mCall, bind_ok, bind_er, out_ok, out_er, seq_nx, seq_rt, seq_er, seq_bk, seq_ct, only_nx, only_er, turn_nx, turn_ct, turn_bk, turn_rt, turn_er, fin_nx, fin_rt, fin_er, ne_ok, List.map_cons, List.map_nil, List.cons_append, List.nil_append, List.length_cons, List.length_nil, List.replicate_succ, List.replicate_zero, List.getElem?_cons_zero, List.getElem?_cons_succ, List.set_cons_zero, List.set_cons_succ, Nat.reduceAdd, Nat.reduceSub, Nat.reduceLT, Bool.not_true, Bool.not_false, Bool.false_eq_true, reduceIte, eq_self, decide_true, decide_false, Bool.true_and, Bool.false_and, Bool.and_true, Bool.and_false, Bool.or_true, Bool.true_or, Bool.or_false, Bool.false_or, if_true, if_false, fCel, hb, h1, gt_int, n2, e1, len_fl, List.length_map, sub_int, hmx, hmn]
theorem dr_head1 {is : List Int} {first n : Int} {s s1 : Store} {j : Nat} {K : MS} (n2 : ¬ 1 < n) (h1 : w__law_source [.fl (is.map D.int), .int first] (s ++ [.lst []]) = .ok (.ref j) s1) :
  (mSeq (mSet 3 (mArgs fCel (aNil))) (mSeq (mSet 4 (mCall 2 w__law_source (aCons (mVar 0) (aCons (mVar 1) (aNil))))) (mSeq (mSet 5 (mC (.int 0))) (mSeq (mIf (mTst (mBin oGt (mVar 2) (mC (.int 1)))) (mSet 5 (mArgs fMin2 (aCons (mC (.int 12)) (aCons (mArgs fMax2 (aCons (mCall 2 w__law_take (aCons (mVar 4) (aCons (mC (.int 13)) (aNil)))) (aCons (mBin oSub (mArgs fLen (aCons (mVar 0) (aNil))) (mVar 1)) (aNil)))) (aNil))))) (mNx)) K)))) [some (.fl (is.map D.int)), some (.int first), some (.int n), none, none, none, none, none, none, none, none] s = K [some (.fl (is.map D.int)), some (.int first), some (.int n), some (.ref s.length), some (.ref j), some (.int 0), none, none, none, none, none] s1 := by
  have hb : (0 : Nat) ≤ big := Nat.zero_le _
  simp only [fDef, ent, mRet, mRetN, mSeq, mIf, mOrT, mAndT, mNotT, mTst, mArgs, aCons, aNil, mVar, mC, mUn, mBin, mChain, mAndV, mOrV, mNotV, mIfE, mSet, mAsg, mDrop, mRaise, mNx, mBrk, mCnt, gNm, gTp, gsCons, gsNil, mCall, bind_ok, bind_er, out_ok, out_er, seq_nx, seq_rt, seq_er, seq_bk, seq_ct, only_nx, only_er, turn_nx, turn_ct, turn_bk, turn_rt, turn_er, fin_nx, fin_rt, fin_er, ne_ok, List.map_cons, List.map_nil, List.cons_append, List.nil_append, List.length_cons, List.length_nil, List.replicate_succ, List.replicate_zero, List.getElem?_cons_zero, List.getElem?_cons_succ, List.set_cons_zero, List.set_cons_succ, Nat.reduceAdd, Nat.reduceSub, Nat.reduceLT, Bool.not_true, Bool.not_false, Bool.false_eq_true, reduceIte, eq_self, decide_true, decide_false, Bool.true_and, Bool.false_and, Bool.and_true, Bool.and_false, Bool.or_true, Bool.true_or, Bool.or_false, Bool.false_or, if_true, if_false, fCel, hb, h1, gt_int, n2]
theorem drawn_ok {is : List Int} {first n : Int} {s : Store} (hs : stLo s s.length) (n1 : 1 ≤ n) (n3 : n ≤ 4) (f0 : 0 ≤ first) (f1 : first ≤ 900) (hlen : is.length ≤ 1000) :
    ∃ l, goodL n l ∧ l.length ≤ 12 ∧ w__law_drawn_rules [.fl (is.map D.int), .int first, .int n] s = .ok (.fl (l.map Rl.toD)) s := by
  have key : ∃ d, DrawnRules [.fl (is.map D.int), .int first, .int n] d ∧ Ref s.length (fDef 11 m__law_drawn_rules [.fl (is.map D.int), .int first, .int n] s) (.ok d s) := by
    have sp := src_spec (s := s ++ [.lst []]) hlen f0 (show first ≤ 1000 by omega)
    have hr0 : lstAt (s ++ [.lst []] ++ [.lst (srcL is first)]) s.length = some [] := push_lst (lstAt_of at_push)
    have hp0 : Pre s (s ++ [.lst []] ++ [.lst (srcL is first)]) := Pre.push (Pre.push ⟨List.take_length, Nat.le_refl _⟩)
    have hj : s.length < (s ++ [Cell.lst []]).length := by rw [List.length_append, List.length_singleton]; omega
    have hb : (0 : Nat) ≤ big := Nat.zero_le _
    have fin : ∀ {ρ' : Envt} {s' : Store} {l : List Rl}, ρ'[3]? = some (some (.ref s.length)) → lstAt s' s.length = some (l.map Rl.toD) → goodL n l → l.length ≤ 12 → Pre s s' → ∃ d, DrawnRules [.fl (is.map D.int), .int first, .int n] d ∧ Ref s.length (mRet (mVar 3) ρ' s').fin (.ok d s) := fun {ρ' s' l} h1 h2 h3 h4 h5 => by
      refine ⟨.fl (l.map Rl.toD), ⟨_, _, n, l, rfl, rfl, h3, h4⟩, ?_⟩
      have e : (mRet (mVar 3) ρ' s').fin = .ok (.ref s.length) s' := by simp only [fDef, ent, mRet, mRetN, mSeq, mIf, mOrT, mAndT, mNotT, mTst, mArgs, aCons, aNil, mVar, mC, mUn, mBin, mChain, mAndV, mOrV, mNotV, mIfE, mSet, mAsg, mDrop, mRaise, mNx, mBrk, mCnt, gNm, gTp, gsCons, gsNil, mCall, bind_ok, bind_er, out_ok, out_er, seq_nx, seq_rt, seq_er, seq_bk, seq_ct, only_nx, only_er, turn_nx, turn_ct, turn_bk, turn_rt, turn_er, fin_nx, fin_rt, fin_er, ne_ok, List.map_cons, List.map_nil, List.cons_append, List.nil_append, List.length_cons, List.length_nil, List.replicate_succ, List.replicate_zero, List.getElem?_cons_zero, List.getElem?_cons_succ, List.set_cons_zero, List.set_cons_succ, Nat.reduceAdd, Nat.reduceSub, Nat.reduceLT, Bool.not_true, Bool.not_false, Bool.false_eq_true, reduceIte, eq_self, decide_true, decide_false, Bool.true_and, Bool.false_and, Bool.and_true, Bool.and_false, Bool.or_true, Bool.true_or, Bool.or_false, Bool.false_or, if_true, if_false, h1]
      rw [e]
      refine Ref.okS rfl hs h5.1 ?_
      unfold Fz
      exact .inr ⟨_, _, rfl, Nat.le_refl _, lstAt_some h2, FzL.same _ (datL_lo _ (rls_dat (k := 2) (by decide)))⟩
    have red : ∀ (ρ : Envt) (s : Store), (mSeq (mFor (iR1 (aCons (mVar 5) (aNil))) (gNm 6) drBody) (mRet (mVar 3)) ρ s) = (mFor (iR1 (aCons (mVar 5) (aNil))) (gNm 6) drBody ρ s).seq (mRet (mVar 3)) := fun _ _ => rfl
    by_cases n2 : 1 < n
    · obtain ⟨t, s1, e1, t0, t1, S1, k1⟩ := take_spec sp.2 (by omega) (show (0 : Int) < 13 by decide) (by decide)
      obtain ⟨m, hmm, hm12⟩ : ∃ m : Nat, (if (if (is.length - first : Int) > t then is.length - first else t) < (12 : Int) then (if (is.length - first : Int) > t then is.length - first else t) else 12) = (m : Int) ∧ m ≤ 12 := by
        refine ⟨(if (if (is.length - first : Int) > t then is.length - first else t) < (12 : Int) then (if (is.length - first : Int) > t then is.length - first else t) else 12).toNat, ?_, ?_⟩
        · split <;> split <;> omega
        · split <;> split <;> omega
      have hmx : fMax2 [.int t, .int (is.length - first)] s1 = .ok (.int (if (is.length - first : Int) > t then is.length - first else t)) s1 := rfl
      have hmn : fMin2 [.int 12, .int (if (is.length - first : Int) > t then is.length - first else t)] s1 = .ok (.int m) s1 := by
        rw [← hmm]
        rfl
      obtain ⟨ρ', s', l, e2, q1, q2, q3, q4, q5⟩ := dr_loop (is := is) (first := first) (n := n) (m := m) (s0 := s) (s := s1) (j := (s ++ [Cell.lst []]).length) (.inl n2) n3 hm12 f0 f1 hlen (ps_same hr0 (Nat.ne_of_lt hj) k1) (S1.mono (by omega)) hj (hp0.same (Nat.le_of_lt hj) k1)
      obtain ⟨d, P, R'⟩ := fin q1 q2 q3 q4 q5
      refine ⟨d, P, ?_⟩
      have e : fDef 11 m__law_drawn_rules [.fl (is.map D.int), .int first, .int n] s = (mRet (mVar 3) ρ' s').fin := by
        have h := dr_head (K := mSeq (mFor (iR1 (aCons (mVar 5) (aNil))) (gNm 6) drBody) (mRet (mVar 3))) n2 sp.1 e1 hmx hmn
        rw [red, e2, seq_nx] at h
        exact congrArg Out.fin h
      rw [e]
      exact R'
    · obtain ⟨ρ', s', l, e2, q1, q2, q3, q4, q5⟩ := dr_loop (is := is) (first := first) (n := n) (m := 0) (s0 := s) (s := s ++ [.lst []] ++ [.lst (srcL is first)]) (j := (s ++ [Cell.lst []]).length) (.inr rfl) n3 (by decide) f0 f1 hlen hr0 (sp.2.mono (by omega)) hj hp0
      obtain ⟨d, P, R'⟩ := fin q1 q2 q3 q4 q5
      refine ⟨d, P, ?_⟩
      have z0 : ((0 : Nat) : Int) = 0 := rfl
      rw [z0] at e2
      have e : fDef 11 m__law_drawn_rules [.fl (is.map D.int), .int first, .int n] s = (mRet (mVar 3) ρ' s').fin := by
        have h := dr_head1 (K := mSeq (mFor (iR1 (aCons (mVar 5) (aNil))) (gNm 6) drBody) (mRet (mVar 3))) n2 sp.1
        rw [red, e2, seq_nx] at h
        exact congrArg Out.fin h
      rw [e]
      exact R'
  obtain ⟨d, ⟨x, y, n', l, e1, e2, g, hl⟩, e⟩ := pick_ok key
  injection e1 with _ e1
  injection e1 with _ e1
  injection e1 with e1 _
  injection e1 with e1
  subst e1 e2
  exact ⟨l, g, hl, e⟩
end LY
/-! Rk76d: names of errors, RuleBooks asked. -/
namespace LY
open PySem PySem.Spec PyProof.Rows L2
theorem isi_exc {c c' : CN} {s : Store} (h : c.flds = []) : fIsi [.exc c [], .cls c'] s = .ok (.bl (c.sub c')) s := by
  have e : (D.exc c []).tyt s = some (.e c) := by
    show (if c.flds = [] then some (TyT.e c) else none) = _
    rw [if_pos h]
  unfold fIsi
  dsimp only
  rw [e]
  rfl
theorem isi_excV {c : CN} {s : Store} (h : c.flds = []) : fIsi [.exc c [], .ty "ValueError"] s = .ok (.bl true) s := by
  have e : (D.exc c []).tyt s = some (.e c) := by
    show (if c.flds = [] then some (TyT.e c) else none) = _
    rw [if_pos h]
  unfold fIsi
  dsimp only
  rw [e]
  rfl
def zipT (d : D) : Bool := match d with
  | .tup [_, .bl b] => b
  | _ => false
def zipF (d : D) : D := match d with
  | .tup [x, _] => x
  | _ => .non
theorem zip_mem {xs : List D} {bs : List Bool} {d : D} (h : d ∈ zipD xs (bs.map D.bl)) : ∃ x b, d = .tup [x, .bl b] := by
  unfold zipD at h
  obtain ⟨p, m, rfl⟩ := List.mem_map.mp h
  obtain ⟨b, _, e⟩ := List.mem_map.mp (List.of_mem_zip m).2
  exact ⟨p.1, b, by rw [e]⟩
theorem zip_lc {xs : List D} {bs : List Bool} {s : Store} {ρ : Envt} (hl : xs.length ≤ 100) (h1 : ρ[1]? = some (some (.fl xs))) (h2 : ρ[2]? = some (some (.fl (bs.map D.bl)))) (h4 : 5 < ρ.length) :
    mLc [4, 5] [4, 5] (iZp (aCons (mVar 1) (aCons (mVar 2) (aNil)))) (mTst (mVar 5)) (mVar 4) ρ s = .ok (.fl (((zipD xs (bs.map D.bl)).filter zipT).map zipF)) s := by
  refine lc_pure (gd := []) (by simp only [iZp, aCons, aNil, mVar, h1, h2, bind_ok, D.ls, Gd.at, List.append_nil]) (by rw [zipD_len]; unfold big; omega) gd_nil _ _ fun d m => ?_
  obtain ⟨x, b, rfl⟩ := zip_mem m
  refine ⟨((wipeR ρ [4, 5]).set 4 (some x)).set 5 (some (.bl b)), rfl, ?_, fun _ => ?_⟩
  · have e : (((wipeR ρ [4, 5]).set 4 (some x)).set 5 (some (.bl b)))[5]? = some (some (.bl b)) := by
      rw [List.getElem?_set_self (by simp [wipeR]; exact h4)]
    simp only [mTst, mVar, e, bind_ok, zipT]
  · have e : (((wipeR ρ [4, 5]).set 4 (some x)).set 5 (some (.bl b)))[4]? = some (some x) := by
      rw [List.getElem?_set_ne (by decide), List.getElem?_set_self (by simp [wipeR]; omega)]
    simp only [mVar, e, zipF]
theorem str_lo {x : Str} {n : Nat} : (D.str x).lo n = true := by unfold D.lo; rfl
theorem r__law_name : ∀ ds s, ds.length = 1 → stLo s s.length → loL s.length ds = true → Ref s.length (fDef 6 m__law_name ds s) (w__law_name ds s) := fun ds s hl hs hd => by
  unfold w__law_name
  split
  · rename_i c
    split
    · rename_i h
      have e : fDef 6 m__law_name [.exc c []] s = .ok (.str c.str) s := by
        have hf : c.flds = [] := by rcases h with rfl | rfl | rfl | rfl | rfl | rfl | rfl | rfl <;> rfl
        have hb : (8 : Nat) ≤ big := by decide
        have hm := fun ρ (h1 : ρ[1]? = _) (h2 : ρ[2]? = _) (h3 : 5 < ρ.length) => zip_lc (s := s) (ρ := ρ) (xs := [.str "BadBook", .str "BadRule", .str "BadState", .str "BadTree", .str "NoEnd", .str "NoNode", .str "NoOneRest", .str "TooMany"]) (bs := [c.sub .BadBook, c.sub .BadRule, c.sub .BadState, c.sub .BadTree, c.sub .NoEnd, c.sub .NoNode, c.sub .NoOneRest, c.sub .TooMany]) (by decide) h1 h2 h3
        have hz : (((zipD [.str "BadBook", .str "BadRule", .str "BadState", .str "BadTree", .str "NoEnd", .str "NoNode", .str "NoOneRest", .str "TooMany"] ([c.sub .BadBook, c.sub .BadRule, c.sub .BadState, c.sub .BadTree, c.sub .NoEnd, c.sub .NoNode, c.sub .NoOneRest, c.sub .TooMany].map D.bl)).filter zipT).map zipF) = [.str c.str] := by
          rcases h with rfl | rfl | rfl | rfl | rfl | rfl | rfl | rfl <;> rfl
        rw [hz] at hm
        have a0 : atI [D.str c.str] 0 = some (D.str c.str) := rfl
        have hm2 := hm [some (.exc c []), some (.fl [.str "BadBook", .str "BadRule", .str "BadState", .str "BadTree", .str "NoEnd", .str "NoNode", .str "NoOneRest", .str "TooMany"]), some (.fl ([c.sub .BadBook, c.sub .BadRule, c.sub .BadState, c.sub .BadTree, c.sub .NoEnd, c.sub .NoNode, c.sub .NoOneRest, c.sub .TooMany].map D.bl)), none, none, none] rfl rfl (by simp)
        simp only [List.map_cons, List.map_nil] at hm2
        have l1 : fLen [.fl [D.str c.str]] s = .ok (.int 1) s := rfl
        simp only [m__law_name, fDef, ent, mRet, mRetN, mSeq, mIf, mOrT, mAndT, mNotT, mTst, mArgs, aCons, aNil, mVar, mC, mUn, mBin, mChain, mAndV, mOrV, mNotV, mIfE, mSet, mAsg, mDrop, mRaise, mNx, mBrk, mCnt, gNm, gTp, gsCons, gsNil, mCall, bind_ok, bind_er, out_ok, out_er, seq_nx, seq_rt, seq_er, seq_bk, seq_ct, only_nx, only_er, turn_nx, turn_ct, turn_bk, turn_rt, turn_er, fin_nx, fin_rt, fin_er, ne_ok, List.map_cons, List.map_nil, List.cons_append, List.nil_append, List.length_cons, List.length_nil, List.replicate_succ, List.replicate_zero, List.getElem?_cons_zero, List.getElem?_cons_succ, List.set_cons_zero, List.set_cons_succ, Nat.reduceAdd, Nat.reduceSub, Nat.reduceLT, Bool.not_true, Bool.not_false, Bool.false_eq_true, reduceIte, eq_self, decide_true, decide_false, Bool.true_and, Bool.false_and, Bool.and_true, Bool.and_false, Bool.or_true, Bool.true_or, Bool.or_false, Bool.false_or, if_true, if_false, fLst, hb, isi_exc hf, hm2, l1, oEq_dat int_dat int_dat, eqv_int, isi_excV hf, ix_fl a0]
      rw [e]
      exact Ref.ok (Nat.le_refl _) hs str_lo
    · exact Ref.bad
  · exact Ref.bad
theorem sub_RE {c : CN} (h : c.isObj = false) : c.sub .RestError = true := by
  unfold CN.sub
  rw [h]
  cases c <;> rfl
theorem str_ok {x : Str} {s : Store} {n : Nat} (hs : stLo s s.length) : Ref s.length (.ok (.str x) s) (.ok (.str x) s) := Ref.ok (Nat.le_refl _) hs str_lo
theorem name_BadBook {s : Store} : w__law_name [.exc .BadBook []] s = .ok (.str "BadBook") s := by
  unfold w__law_name
  rfl
theorem name_BadRule {s : Store} : w__law_name [.exc .BadRule []] s = .ok (.str "BadRule") s := by
  unfold w__law_name
  rfl
theorem isOf_ins {c : CN} {fs : List D} {s : Store} : (D.ins c fs).isOf s c = true := by
  unfold D.isOf D.obj
  simp
theorem r__law_made : ∀ ds s, ds.length = 1 → stLo s s.length → loL s.length ds = true → Ref s.length (fDef 3 m__law_made ds s) (w__law_made ds s) := fun ds s hl hs hd => by
  unfold w__law_made
  split
  · rename_i x
    split
    · rename_i h
      have em : mk_RuleBook [x] s = .er ⟨.BadBook, []⟩ s := by
        unfold mk_RuleBook
        dsimp only
        rw [if_pos h.1, if_neg (by rw [h.2]; simp)]
      have ho : CN.BadBook.isObj = false := rfl
      have e : fDef 3 m__law_made [x] s = .ok (.str "BadBook") s := by
        simp only [m__law_made, fDef, ent, mRet, mRetN, mSeq, mIf, mOrT, mAndT, mNotT, mTst, mArgs, aCons, aNil, mVar, mC, mUn, mBin, mChain, mAndV, mOrV, mNotV, mIfE, mSet, mAsg, mDrop, mRaise, mNx, mBrk, mCnt, gNm, gTp, gsCons, gsNil, mCall, bind_ok, bind_er, out_ok, out_er, seq_nx, seq_rt, seq_er, seq_bk, seq_ct, only_nx, only_er, turn_nx, turn_ct, turn_bk, turn_rt, turn_er, fin_nx, fin_rt, fin_er, ne_ok, List.map_cons, List.map_nil, List.cons_append, List.nil_append, List.length_cons, List.length_nil, List.replicate_succ, List.replicate_zero, List.getElem?_cons_zero, List.getElem?_cons_succ, List.set_cons_zero, List.set_cons_succ, Nat.reduceAdd, Nat.reduceSub, Nat.reduceLT, Bool.not_true, Bool.not_false, Bool.false_eq_true, reduceIte, eq_self, decide_true, decide_false, Bool.true_and, Bool.false_and, Bool.and_true, Bool.and_false, Bool.or_true, Bool.true_or, Bool.or_false, Bool.false_or, if_true, if_false, mTryAs, em, ho, sub_RE ho, name_BadBook]
      rw [e]
      exact Ref.ok (Nat.le_refl _) hs str_lo
    · exact Ref.bad
  · exact Ref.bad
theorem r__law_at : ∀ ds s, ds.length = 2 → stLo s s.length → loL s.length ds = true → Ref s.length (fDef 4 m__law_at ds s) (w__law_at ds s) := fun ds s hl hs hd => by
  unfold w__law_at
  split
  · rename_i n rs x
    split
    · rename_i h
      obtain ⟨h1, h2, h3, h4⟩ := h
      have em : w_RuleBook__getitem__ [.ins .RuleBook [.int n, .tup rs], x] s = .er ⟨.BadRule, []⟩ s := by
        unfold w_RuleBook__getitem__
        dsimp only
        rw [if_pos ⟨h1, h2, h3⟩]
        cases x with
        | int i =>
          dsimp only
          by_cases h0 : 0 ≤ i
          · rw [if_pos h0]
            have : ¬ i < rs.length := fun z => by simp [belowB, h0, z] at h4
            rw [List.getElem?_eq_none (by omega)]
          · rw [if_neg h0]
        | _ => rfl
      have ho : CN.BadRule.isObj = false := rfl
      have e : fDef 4 m__law_at [.ins .RuleBook [.int n, .tup rs], x] s = .ok (.str "BadRule") s := by
        simp only [m__law_at, fDef, ent, mRet, mRetN, mSeq, mIf, mOrT, mAndT, mNotT, mTst, mArgs, aCons, aNil, mVar, mC, mUn, mBin, mChain, mAndV, mOrV, mNotV, mIfE, mSet, mAsg, mDrop, mRaise, mNx, mBrk, mCnt, gNm, gTp, gsCons, gsNil, mCall, bind_ok, bind_er, out_ok, out_er, seq_nx, seq_rt, seq_er, seq_bk, seq_ct, only_nx, only_er, turn_nx, turn_ct, turn_bk, turn_rt, turn_er, fin_nx, fin_rt, fin_er, ne_ok, List.map_cons, List.map_nil, List.cons_append, List.nil_append, List.length_cons, List.length_nil, List.replicate_succ, List.replicate_zero, List.getElem?_cons_zero, List.getElem?_cons_succ, List.set_cons_zero, List.set_cons_succ, Nat.reduceAdd, Nat.reduceSub, Nat.reduceLT, Bool.not_true, Bool.not_false, Bool.false_eq_true, reduceIte, eq_self, decide_true, decide_false, Bool.true_and, Bool.false_and, Bool.and_true, Bool.and_false, Bool.or_true, Bool.true_or, Bool.or_false, Bool.false_or, if_true, if_false, mTryAs, mOwn, oOwn, isOf_ins, em, ho, sub_RE ho, name_BadRule]
      rw [e]
      exact Ref.ok (Nat.le_refl _) hs str_lo
    · exact Ref.bad
  · exact Ref.bad
/-! equal data -/
theorem eqv_self {x : D} (h : x.dat 40 = true) : x.eqv x = true := by
  obtain ⟨p, e, c, _⟩ := dat_py x _ h
  unfold D.eqv
  rw [e]
  exact SeqAt.eqv_refl p c
theorem anyEq_self {ds : List D} {x : D} (h : x.dat 40 = true) (m : x ∈ ds) : anyEq ds x = true := List.any_eq_true.mpr ⟨x, m, eqv_self h⟩
theorem get_ok {n : Int} {rs : List D} {i : Nat} {s : Store} (h : datL rs 37 = true) (hl : rs.length ≤ 1000) (hi : i < rs.length) : w_RuleBook__getitem__ [.ins .RuleBook [.int n, .tup rs], .int i] s = .ok rs[i] s := by
  unfold w_RuleBook__getitem__
  dsimp only
  rw [if_pos ⟨int_dat, h, hl⟩, if_pos (by omega), Int.toNat_natCast, List.getElem?_eq_getElem hi]
def atF (rs : List D) (d : D) : D := match d with
  | .int i => rs.getD i.toNat .non
  | _ => .non
theorem atF_map {rs : List D} : (upto 0 rs.length).map (atF rs) = rs := by
  refine List.ext_getElem? fun i => ?_
  rw [List.getElem?_map]
  unfold upto
  rw [List.getElem?_map]
  by_cases hi : i < rs.length
  · rw [List.getElem?_range hi, List.getElem?_eq_getElem hi]
    simp [atF, List.getElem?_eq_getElem hi]
  · rw [List.getElem?_eq_none (by simpa using hi), List.getElem?_eq_none (by omega)]
    rfl
theorem w_len {n : Int} {rs : List D} {s : Store} (h : rs.length ≤ 1000) : w_RuleBook__len__ [.ins .RuleBook [.int n, .tup rs]] s = .ok (.int rs.length) s := by
  unfold w_RuleBook__len__
  exact if_pos h
theorem own_len_of {c : CN} {m : MF} {o : D} {s s' : Store} {i : Int} (h : o.isOf s c = true) (h2 : m [o] s = .ok (.int i) s') (h3 : 0 ≤ i ∧ i < 2 ^ 62) : fOwnLen c m [o] s = .ok (.int i) s' := by
  unfold fOwnLen
  dsimp only
  rw [if_pos h, h2, bind_ok]
  exact if_pos h3
theorem own_len {n : Int} {rs : List D} {s : Store} (h : rs.length ≤ 1000) : fOwnLen .RuleBook w_RuleBook__len__ [.ins .RuleBook [.int n, .tup rs]] s = .ok (.int rs.length) s := own_len_of isOf_ins (w_len h) ⟨by omega, by omega⟩
theorem in_ok {n : Int} {rs : List D} {x : D} {s : Store} (h : datL rs 36 = true) (n1 : 1 ≤ n) (n4 : n ≤ 4) (hx : x.dat 37 = true) : oOwnIn false .RuleBook w_RuleBook__contains__ x (.ins .RuleBook [.int n, .tup rs]) s = .ok (.bl (ruleB n x && anyEq rs x)) s := by
  unfold oOwnIn
  rw [if_pos isOf_ins]
  unfold w_RuleBook__contains__
  dsimp only
  rw [if_pos ⟨hx, datL_mono rs h (by decide), n1, n4⟩]
  rfl
theorem r__law_holds : ∀ ds s, ds.length = 3 → stLo s s.length → loL s.length ds = true → Ref s.length (fDef 5 m__law_holds ds s) (w__law_holds ds s) := fun ds s hl hs hd => by
  unfold w__law_holds
  split
  · rename_i n rs n' rs'
    split
    · rename_i h
      obtain ⟨rfl, rfl, hr, ha, n1, n4, hlen⟩ := h
      have hd37 := datL_mono rs hr (show 36 ≤ 37 by decide)
      have hmem : ∀ d ∈ rs, d.dat 37 = true := fun d m => datL_all.mp hd37 d m
      have hb2 : (2 : Nat) ≤ big := by decide
      have et : ∀ s, w_RuleBooktold [.ins .RuleBook [.int n, .tup rs]] s = .ok (.tup [.int n, .tup rs]) s := fun s => by
        unfold w_RuleBooktold
        dsimp only
        rw [if_pos hd37]
      have hnt : (D.tup [.int n, .tup rs]).dat 40 = true := by
        refine dat_mono _ (dat_tup (k := 38) (datL_all.mpr fun d m => ?_)) (by decide)
        rcases List.mem_cons.mp m with rfl | m
        · exact int_dat
        · rw [List.mem_singleton.mp m]
          exact dat_tup hd37
      have hrt : (D.tup rs).dat 40 = true := dat_mono _ (dat_tup hd37) (by decide)
      have hrl : (D.fl rs).dat 40 = true := by
        unfold D.dat
        rw [datL_mono rs hr (by decide)]
        rfl
      have el : ∀ s, fOwnLen .RuleBook w_RuleBook__len__ [.ins .RuleBook [.int n, .tup rs]] s = .ok (.int rs.length) s := fun s => own_len (by omega)
      have a1 : atI [D.int n, D.tup rs] 1 = some (D.tup rs) := rfl
      have ix1 : ∀ s, oIx (.tup [.int n, .tup rs]) (.int 1) s = .ok (.tup rs) s := fun s => rfl
      have ft : ∀ s, fTupOf [.fl rs] s = .ok (.tup rs) s := fun s => rfl
      have itl : (D.tup rs).isT = true := rfl
      have gets : mLc [3] [3] (iR1 (aCons (mArgs fLen (aCons (mVar 2) (aNil))) (aNil))) (mYes) (mOwn .RuleBook w_RuleBook__getitem__ (mVar 0) (mVar 3)) [some (.ins .RuleBook [.int n, .tup rs]), some (.int n), some (.fl rs), none, none] s = .ok (.fl rs) s := by
        have e1 := iR1_ok (mr := aCons (mArgs fLen (aCons (mVar 2) (aNil))) (aNil)) (ρ := [some (.ins .RuleBook [.int n, .tup rs]), some (.int n), some (.fl rs), none, none]) (s := s) (s' := s) (j := rs.length) (by simp only [fDef, ent, mRet, mRetN, mSeq, mIf, mOrT, mAndT, mNotT, mTst, mArgs, aCons, aNil, mVar, mC, mUn, mBin, mChain, mAndV, mOrV, mNotV, mIfE, mSet, mAsg, mDrop, mRaise, mNx, mBrk, mCnt, gNm, gTp, gsCons, gsNil, mCall, bind_ok, bind_er, out_ok, out_er, seq_nx, seq_rt, seq_er, seq_bk, seq_ct, only_nx, only_er, turn_nx, turn_ct, turn_bk, turn_rt, turn_er, fin_nx, fin_rt, fin_er, ne_ok, List.map_cons, List.map_nil, List.cons_append, List.nil_append, List.length_cons, List.length_nil, List.replicate_succ, List.replicate_zero, List.getElem?_cons_zero, List.getElem?_cons_succ, List.set_cons_zero, List.set_cons_succ, Nat.reduceAdd, Nat.reduceSub, Nat.reduceLT, Bool.not_true, Bool.not_false, Bool.false_eq_true, reduceIte, eq_self, decide_true, decide_false, Bool.true_and, Bool.false_and, Bool.and_true, Bool.and_false, Bool.or_true, Bool.true_or, Bool.or_false, Bool.false_or, if_true, if_false, len_fl]) (by omega) (by omega)
        rw [Int.toNat_natCast] at e1
        have z := lc_map (vs := [3]) (js := [3]) (me := mOwn .RuleBook w_RuleBook__getitem__ (mVar 0) (mVar 3)) e1 (by rw [upto_len]; unfold big; omega) gd_nil (atF rs) fun d m => by
            obtain ⟨i, hi, rfl⟩ := List.mem_map.mp m
            have hi' : i < rs.length := List.mem_range.mp hi
            refine ⟨_, rfl, ?_⟩
            have hz : (0 : Int) + (i : Int) = (i : Int) := Int.zero_add _
            have hg := get_ok (n := n) (s := s) hd37 (by omega) hi'
            have hf : atF rs (.int (i : Int)) = rs[i] := by
              unfold atF
              dsimp only
              rw [Int.toNat_natCast, List.getD_eq_getElem?_getD, List.getElem?_eq_getElem hi']
              rfl
            rw [hz, hf]
            simp only [wipeR, fDef, ent, mRet, mRetN, mSeq, mIf, mOrT, mAndT, mNotT, mTst, mArgs, aCons, aNil, mVar, mC, mUn, mBin, mChain, mAndV, mOrV, mNotV, mIfE, mSet, mAsg, mDrop, mRaise, mNx, mBrk, mCnt, gNm, gTp, gsCons, gsNil, mCall, bind_ok, bind_er, out_ok, out_er, seq_nx, seq_rt, seq_er, seq_bk, seq_ct, only_nx, only_er, turn_nx, turn_ct, turn_bk, turn_rt, turn_er, fin_nx, fin_rt, fin_er, ne_ok, List.map_cons, List.map_nil, List.cons_append, List.nil_append, List.length_cons, List.length_nil, List.replicate_succ, List.replicate_zero, List.getElem?_cons_zero, List.getElem?_cons_succ, List.set_cons_zero, List.set_cons_succ, Nat.reduceAdd, Nat.reduceSub, Nat.reduceLT, Bool.not_true, Bool.not_false, Bool.false_eq_true, reduceIte, eq_self, decide_true, decide_false, Bool.true_and, Bool.false_and, Bool.and_true, Bool.and_false, Bool.or_true, Bool.true_or, Bool.or_false, Bool.false_or, if_true, if_false, mOwn, oOwn, isOf_ins, hg]
        rw [z, atF_map]
      have ins : mLc [4] [4] (iSq (mVar 2)) (mYes) (mOwnIn false .RuleBook w_RuleBook__contains__ (mVar 4) (mVar 0)) [some (.ins .RuleBook [.int n, .tup rs]), some (.int n), some (.fl rs), none, none] s = .ok (.fl (rs.map fun d => .bl (ruleB n d && anyEq rs d))) s := by
        refine lc_map (gd := []) (by simp only [iSq, fDef, ent, mRet, mRetN, mSeq, mIf, mOrT, mAndT, mNotT, mTst, mArgs, aCons, aNil, mVar, mC, mUn, mBin, mChain, mAndV, mOrV, mNotV, mIfE, mSet, mAsg, mDrop, mRaise, mNx, mBrk, mCnt, gNm, gTp, gsCons, gsNil, mCall, bind_ok, bind_er, out_ok, out_er, seq_nx, seq_rt, seq_er, seq_bk, seq_ct, only_nx, only_er, turn_nx, turn_ct, turn_bk, turn_rt, turn_er, fin_nx, fin_rt, fin_er, ne_ok, List.map_cons, List.map_nil, List.cons_append, List.nil_append, List.length_cons, List.length_nil, List.replicate_succ, List.replicate_zero, List.getElem?_cons_zero, List.getElem?_cons_succ, List.set_cons_zero, List.set_cons_succ, Nat.reduceAdd, Nat.reduceSub, Nat.reduceLT, Bool.not_true, Bool.not_false, Bool.false_eq_true, reduceIte, eq_self, decide_true, decide_false, Bool.true_and, Bool.false_and, Bool.and_true, Bool.and_false, Bool.or_true, Bool.true_or, Bool.or_false, Bool.false_or, if_true, if_false]) (by unfold big; omega) gd_nil _ fun d m => ⟨_, rfl, ?_⟩
        simp only [wipeR, fDef, ent, mRet, mRetN, mSeq, mIf, mOrT, mAndT, mNotT, mTst, mArgs, aCons, aNil, mVar, mC, mUn, mBin, mChain, mAndV, mOrV, mNotV, mIfE, mSet, mAsg, mDrop, mRaise, mNx, mBrk, mCnt, gNm, gTp, gsCons, gsNil, mCall, bind_ok, bind_er, out_ok, out_er, seq_nx, seq_rt, seq_er, seq_bk, seq_ct, only_nx, only_er, turn_nx, turn_ct, turn_bk, turn_rt, turn_er, fin_nx, fin_rt, fin_er, ne_ok, List.map_cons, List.map_nil, List.cons_append, List.nil_append, List.length_cons, List.length_nil, List.replicate_succ, List.replicate_zero, List.getElem?_cons_zero, List.getElem?_cons_succ, List.set_cons_zero, List.set_cons_succ, Nat.reduceAdd, Nat.reduceSub, Nat.reduceLT, Bool.not_true, Bool.not_false, Bool.false_eq_true, reduceIte, eq_self, decide_true, decide_false, Bool.true_and, Bool.false_and, Bool.and_true, Bool.and_false, Bool.or_true, Bool.true_or, Bool.or_false, Bool.false_or, if_true, if_false, mOwnIn, in_ok hr n1 n4 (hmem d m)]
      have hall : rs.all (fun d => ruleB n d && anyEq rs d) = true := List.all_eq_true.mpr fun d m => by
        rw [List.all_eq_true.mp ha d m, anyEq_self (dat_mono d (hmem d m) (by decide)) m]
        rfl
      have p1 : (mIf (mOrT (mTst (mBin oNe (mMeth .RuleBook 1 dd_RuleBooktold w_RuleBooktold (mVar 0) (aNil)) (mArgs fTup (aCons (mVar 1) (aCons (mArgs fTupOf (aCons (mVar 2) (aNil))) (aNil)))))) (mOrT (mNotT (mTst (mArgs fIsi (aCons (mBin oIx (mMeth .RuleBook 1 dd_RuleBooktold w_RuleBooktold (mVar 0) (aNil)) (mC (.int 1))) (aCons (mC (.ty "tuple")) (aNil)))))) (mTst (mBin oNe (mArgs (fOwnLen .RuleBook w_RuleBook__len__) (aCons (mVar 0) aNil)) (mArgs fLen (aCons (mVar 2) (aNil))))))) (mRet (mC (.bl false))) (mNx)) [some (.ins .RuleBook [.int n, .tup rs]), some (.int n), some (.fl rs), none, none] s = .nx [some (.ins .RuleBook [.int n, .tup rs]), some (.int n), some (.fl rs), none, none] s := by
        simp only [fDef, ent, mRet, mRetN, mSeq, mIf, mOrT, mAndT, mNotT, mTst, mArgs, aCons, aNil, mVar, mC, mUn, mBin, mChain, mAndV, mOrV, mNotV, mIfE, mSet, mAsg, mDrop, mRaise, mNx, mBrk, mCnt, gNm, gTp, gsCons, gsNil, mCall, bind_ok, bind_er, out_ok, out_er, seq_nx, seq_rt, seq_er, seq_bk, seq_ct, only_nx, only_er, turn_nx, turn_ct, turn_bk, turn_rt, turn_er, fin_nx, fin_rt, fin_er, ne_ok, List.map_cons, List.map_nil, List.cons_append, List.nil_append, List.length_cons, List.length_nil, List.replicate_succ, List.replicate_zero, List.getElem?_cons_zero, List.getElem?_cons_succ, List.set_cons_zero, List.set_cons_succ, Nat.reduceAdd, Nat.reduceSub, Nat.reduceLT, Bool.not_true, Bool.not_false, Bool.false_eq_true, reduceIte, eq_self, decide_true, decide_false, Bool.true_and, Bool.false_and, Bool.and_true, Bool.and_false, Bool.or_true, Bool.true_or, Bool.or_false, Bool.false_or, if_true, if_false, mMeth, isOf_ins, dd_RuleBooktold, List.append_nil, et, ft, fTup, hb2, oEq_dat hnt hnt, eqv_self hnt, ix1, isi_tuple hrt, itl, el, len_fl, oEq_dat int_dat int_dat, eqv_int]
      have p2 : (mRet (mAndV (mBin oEq (mLc [3] [3] (iR1 (aCons (mArgs fLen (aCons (mVar 2) (aNil))) (aNil))) (mYes) (mOwn .RuleBook w_RuleBook__getitem__ (mVar 0) (mVar 3))) (mVar 2)) (mArgs fAll (aCons (mLc [4] [4] (iSq (mVar 2)) (mYes) (mOwnIn false .RuleBook w_RuleBook__contains__ (mVar 4) (mVar 0))) (aNil))))) [some (.ins .RuleBook [.int n, .tup rs]), some (.int n), some (.fl rs), none, none] s = .rt (.bl true) s := by
        simp only [fDef, ent, mRet, mRetN, mSeq, mIf, mOrT, mAndT, mNotT, mTst, mArgs, aCons, aNil, mVar, mC, mUn, mBin, mChain, mAndV, mOrV, mNotV, mIfE, mSet, mAsg, mDrop, mRaise, mNx, mBrk, mCnt, gNm, gTp, gsCons, gsNil, mCall, bind_ok, bind_er, out_ok, out_er, seq_nx, seq_rt, seq_er, seq_bk, seq_ct, only_nx, only_er, turn_nx, turn_ct, turn_bk, turn_rt, turn_er, fin_nx, fin_rt, fin_er, ne_ok, List.map_cons, List.map_nil, List.cons_append, List.nil_append, List.length_cons, List.length_nil, List.replicate_succ, List.replicate_zero, List.getElem?_cons_zero, List.getElem?_cons_succ, List.set_cons_zero, List.set_cons_succ, Nat.reduceAdd, Nat.reduceSub, Nat.reduceLT, Bool.not_true, Bool.not_false, Bool.false_eq_true, reduceIte, eq_self, decide_true, decide_false, Bool.true_and, Bool.false_and, Bool.and_true, Bool.and_false, Bool.or_true, Bool.true_or, Bool.or_false, Bool.false_or, if_true, if_false, gets, oEq_dat hrl hrl, eqv_self hrl, ins, all_map, hall]
      have e : fDef 5 m__law_holds [.ins .RuleBook [.int n, .tup rs], .int n, .fl rs] s = .ok (.bl true) s := by
        show (((mIf (mOrT (mTst (mBin oNe (mMeth .RuleBook 1 dd_RuleBooktold w_RuleBooktold (mVar 0) (aNil)) (mArgs fTup (aCons (mVar 1) (aCons (mArgs fTupOf (aCons (mVar 2) (aNil))) (aNil)))))) (mOrT (mNotT (mTst (mArgs fIsi (aCons (mBin oIx (mMeth .RuleBook 1 dd_RuleBooktold w_RuleBooktold (mVar 0) (aNil)) (mC (.int 1))) (aCons (mC (.ty "tuple")) (aNil)))))) (mTst (mBin oNe (mArgs (fOwnLen .RuleBook w_RuleBook__len__) (aCons (mVar 0) aNil)) (mArgs fLen (aCons (mVar 2) (aNil))))))) (mRet (mC (.bl false))) (mNx)) [some (.ins .RuleBook [.int n, .tup rs]), some (.int n), some (.fl rs), none, none] s).seq ((mRet (mAndV (mBin oEq (mLc [3] [3] (iR1 (aCons (mArgs fLen (aCons (mVar 2) (aNil))) (aNil))) (mYes) (mOwn .RuleBook w_RuleBook__getitem__ (mVar 0) (mVar 3))) (mVar 2)) (mArgs fAll (aCons (mLc [4] [4] (iSq (mVar 2)) (mYes) (mOwnIn false .RuleBook w_RuleBook__contains__ (mVar 4) (mVar 0))) (aNil))))))).fin = _
        rw [p1, seq_nx, p2]
        rfl
      rw [e]
      exact Ref.data hs bl_dat
    · exact Ref.bad
  · exact Ref.bad
end LY
/-! Rk76e: the law itself. -/
namespace LY
open PySem PySem.Spec PyProof.Rows L2
def bk (n : Int) (rs : List D) (k : Nat) : D := .ins .RuleBook [.int n, .tup (rs.take k)]
theorem rl_at {l : List Rl} {i : Nat} (h : i < l.length) : (l.map Rl.toD)[i]? = some l[i].toD := by
  rw [List.getElem?_map, List.getElem?_eq_getElem h]
  rfl
section
variable {n : Int} {l : List Rl} (g : goodL n l) (hl : l.length ≤ 12) (n1 : 1 ≤ n) (n4 : n ≤ 4)
include g hl n1 n4
theorem add_bk0 {k : List Rl} {r : Rl} {s : Store} (hk : k.length < 12) (ho : r.ok n) (hn : r ∉ k) : oOwnB .RuleBook w_RuleBook__add__ (.ins .RuleBook [.int n, .tup (k.map Rl.toD)]) r.toD s = .ok (.ins .RuleBook [.int n, .tup ((k ++ [r]).map Rl.toD)]) s := by
  unfold oOwnB
  rw [if_pos ⟨isOf_ins, rfl⟩]
  unfold w_RuleBook__add__
  dsimp only
  rw [if_pos ⟨dat_mono _ r.dat (by decide), rls_dat (by decide), n1, n4, by rw [List.length_map]; omega⟩, if_pos ⟨ruleB_ok.mpr ho, by rw [anyEq_rl]; exact decide_eq_false hn, by rw [List.length_map]; exact hk⟩, List.map_append]
  rfl
theorem add_bk {i : Nat} {s : Store} (h : i < l.length) : oOwnB .RuleBook w_RuleBook__add__ (bk n (l.map Rl.toD) i) l[i].toD s = .ok (bk n (l.map Rl.toD) (i + 1)) s := by
  have hn : l[i] ∉ l.take i := fun m => by
    obtain ⟨j, hj, e⟩ := List.getElem_of_mem m
    rw [List.length_take] at hj
    rw [List.getElem_take] at e
    have := (List.getElem?_inj (by omega) g.1 (i := j) (j := i)).mp (by rw [List.getElem?_eq_getElem (by omega), List.getElem?_eq_getElem h, e])
    omega
  have z := add_bk0 g hl n1 n4 (k := l.take i) (r := l[i]) (s := s) (by rw [List.length_take]; omega) (g.2 _ (List.getElem_mem h)) hn
  unfold bk
  rw [← List.map_take, ← List.map_take, z, List.take_succ_eq_append_getElem h]
theorem in_bk {i : Nat} {s : Store} (h : i < l.length) : oOwnIn false .RuleBook w_RuleBook__contains__ l[i].toD (bk n (l.map Rl.toD) i) s = .ok (.bl false) s := by
  have hn : l[i] ∉ l.take i := fun m => by
    obtain ⟨j, hj, e⟩ := List.getElem_of_mem m
    rw [List.length_take] at hj
    rw [List.getElem_take] at e
    have := (List.getElem?_inj (by omega) g.1 (i := j) (j := i)).mp (by rw [List.getElem?_eq_getElem (by omega), List.getElem?_eq_getElem h, e])
    omega
  unfold bk
  rw [← List.map_take, in_ok (rls_dat (by decide)) n1 n4 (dat_mono _ l[i].dat (by decide)), anyEq_rl, decide_eq_false hn, Bool.and_false]
theorem holds0 {k : List Rl} {s : Store} (hk : k.length ≤ 12) (ho : ∀ r ∈ k, r.ok n) : w__law_holds [.ins .RuleBook [.int n, .tup (k.map Rl.toD)], .int n, .fl (k.map Rl.toD)] s = .ok (.bl true) s := by
  unfold w__law_holds
  dsimp only
  have ha : (k.map Rl.toD).all (ruleB n) = true := List.all_eq_true.mpr fun d m => by
    obtain ⟨r, mr, rfl⟩ := List.mem_map.mp m
    exact ruleB_ok.mpr (ho r mr)
  rw [if_pos ⟨rfl, rfl, rls_dat (by decide), ha, n1, n4, by rw [List.length_map]; exact hk⟩]
theorem holds_bk {k : Nat} {s : Store} : w__law_holds [bk n (l.map Rl.toD) k, .int n, .fl ((l.map Rl.toD).take k)] s = .ok (.bl true) s := by
  unfold bk
  rw [← List.map_take]
  exact holds0 g hl n1 n4 (by rw [List.length_take]; omega) fun r m => g.2 r (List.mem_of_mem_take m)
theorem at_bk {k : Nat} {x : D} {s : Store} (hk : k ≤ l.length) (hx : x.dat 37 = true) (hb : belowB k x = false) : w__law_at [bk n (l.map Rl.toD) k, x] s = .ok (.str "BadRule") s := by
  unfold bk w__law_at
  dsimp only
  have e : ((l.map Rl.toD).take k).length = k := by rw [List.length_take, List.length_map]; omega
  rw [if_pos ⟨hx, datL_all.mpr fun d m => datL_all.mp (rls_dat (k := 37) (l := l) (by decide)) d (List.mem_of_mem_take m), by omega, by rw [e]; exact hb⟩]
end
theorem atI_last {f : Nat → D} {i : Nat} : atI ((List.range (i + 1)).map f) (-1) = some (f i) := by
  unfold L2.atI L2.ixN
  have e : ((List.range (i + 1)).map f).length = i + 1 := by simp
  rw [if_neg (by decide), e, if_pos (by omega)]
  show ((List.range (i + 1)).map f)[(-1 + ((i + 1 : Nat) : Int)).toNat]? = _
  rw [show (-1 + ((i + 1 : Nat) : Int)).toNat = i by omega, List.getElem?_map, List.getElem?_range (Nat.lt_succ_self i)]
  rfl
theorem cut_take {ds : List D} {k : Nat} (h : k ≤ ds.length) : cutD ds none (some (k : Int)) = ds.take k := by
  unfold cutD
  rw [HT.sIx_nat, HT.sIx_none, List.drop_zero, Nat.sub_zero, Nat.min_eq_left h]
theorem sl_take {ds : List D} {k : Nat} {s : Store} (h : k ≤ ds.length) : oSl false (.fl ds) none (some (k : Int)) s = .ok (.fl (ds.take k)) s := by
  show R.ok (D.fl (cutD ds none (some (k : Int)))) s = _
  rw [cut_take h]
/-! the first loop -/
abbrev ev1 (sc : List D) (n : Int) (rs : List D) (x5 : Option D) : Envt := [some (.fl sc), some (.ref 0), some (.int n), some (.fl rs), some (.ref 1), x5, none, none, none, none, none, none]
def bks (n : Int) (rs : List D) (i : Nat) : List D := (List.range (i + 1)).map (bk n rs)
theorem bks_len {n : Int} {rs : List D} {i : Nat} : (bks n rs i).length = i + 1 := by simp [bks]
theorem bks_succ {n : Int} {rs : List D} {i : Nat} : bks n rs i ++ [bk n rs (i + 1)] = bks n rs (i + 1) := by
  unfold bks
  rw [List.range_succ (n := i + 1), List.map_append]
  rfl
noncomputable def m1 : MS := mSeq (mIf (mTst (mOwnIn false .RuleBook w_RuleBook__contains__ (mVar 5) (mBin oIx (mVar 4) (mUn oNeg (mC (.int 1)))))) (mRet (mC (.bl false))) (mNx)) (mSeq (mDrop (mApp (mVar 4) (mOwnB .RuleBook w_RuleBook__add__ (mBin oIx (mVar 4) (mUn oNeg (mC (.int 1)))) (mVar 5)))) (mIf (mNotT (mTst (mCall 3 w__law_holds (aCons (mBin oIx (mVar 4) (mUn oNeg (mC (.int 1)))) (aCons (mVar 2) (aCons (mSl false (mVar 3) (mNo) (mSome (mBin oSub (mArgs fLen (aCons (mVar 4) (aNil))) (mC (.int 1))))) (aNil))))))) (mRet (mC (.bl false))) (mNx)))
theorem neg1 {s : Store} : oNeg (.int 1) s = .ok (.int (-1)) s := rfl
theorem len_ref {n : Nat} {ds : List D} {s : Store} (h : lstAt s n = some ds) : fLen [.ref n] s = .ok (.int ds.length) s := by
  show (match (D.ref n).seq s with
    | some es => R.ok (D.int es.length) s
    | none => .bad) = _
  simp only [D.seq, h]
structure I1 (sc : List D) (n : Int) (l : List Rl) (b : Int) (r : List D) (ρ : Envt) (s : Store) : Prop where
  ex : ∃ (i : Nat) (x5 : Option D), i + r.length = l.length ∧ r = (l.map Rl.toD).drop i ∧ ρ = ev1 sc n (l.map Rl.toD) x5 ∧ lstAt s 1 = some (bks n (l.map Rl.toD) i) ∧ Src s 0 b ∧ s.length = 2
theorem step1 {sc : List D} {n : Int} {l : List Rl} {b : Int} (g : goodL n l) (hl : l.length ≤ 12) (n1 : 1 ≤ n) (n4 : n ≤ 4) (d : D) (r : List D) (ρ : Envt) (s : Store) (I : I1 sc n l b (d :: r) ρ s) : ∃ ρ' s', ((gNm 5 d ρ s).only.seq m1) = .nx ρ' s' ∧ I1 sc n l b r ρ' s' := by
  obtain ⟨i, x5, h1, h2, rfl, hc, S, hlen⟩ := I.ex
  have hi : i < l.length := by rw [List.length_cons] at h1; omega
  have hi' : i < (l.map Rl.toD).length := by rw [List.length_map]; exact hi
  rw [List.drop_eq_getElem_cons hi', List.cons.injEq] at h2
  obtain ⟨rfl, rfl⟩ := h2
  have ed : (l.map Rl.toD)[i] = l[i].toD := by rw [List.getElem_map]
  have hlast : atI (bks n (l.map Rl.toD) i) (-1) = some (bk n (l.map Rl.toD) i) := atI_last
  have hlast' : atI (bks n (l.map Rl.toD) (i + 1)) (-1) = some (bk n (l.map Rl.toD) (i + 1)) := atI_last
  have hc' : lstAt (s.set 1 (.lst (bks n (l.map Rl.toD) (i + 1)))) 1 = some (bks n (l.map Rl.toD) (i + 1)) := at_set hc
  have hbig : (bks n (l.map Rl.toD) i).length < big := by rw [bks_len]; unfold big; omega
  have hi1 : i + 1 ≤ (l.map Rl.toD).length := by rw [List.length_map]; omega
  have elen : (((bks n (l.map Rl.toD) (i + 1)).length : Int) - 1) = ((i + 1 : Nat) : Int) := by rw [bks_len]; omega
  have p1 : (mIf (mTst (mOwnIn false .RuleBook w_RuleBook__contains__ (mVar 5) (mBin oIx (mVar 4) (mUn oNeg (mC (.int 1)))))) (mRet (mC (.bl false))) (mNx)) (ev1 sc n (l.map Rl.toD) (some l[i].toD)) s = .nx (ev1 sc n (l.map Rl.toD) (some l[i].toD)) s := by
    simp only [fDef, ent, mRet, mRetN, mSeq, mIf, mOrT, mAndT, mNotT, mTst, mArgs, aCons, aNil, mVar, mC, mUn, mBin, mChain, mAndV, mOrV, mNotV, mIfE, mSet, mAsg, mDrop, mRaise, mNx, mBrk, mCnt, gNm, gTp, gsCons, gsNil, mCall, bind_ok, bind_er, out_ok, out_er, seq_nx, seq_rt, seq_er, seq_bk, seq_ct, only_nx, only_er, turn_nx, turn_ct, turn_bk, turn_rt, turn_er, fin_nx, fin_rt, fin_er, ne_ok, List.map_cons, List.map_nil, List.cons_append, List.nil_append, List.length_cons, List.length_nil, List.replicate_succ, List.replicate_zero, List.getElem?_cons_zero, List.getElem?_cons_succ, List.set_cons_zero, List.set_cons_succ, Nat.reduceAdd, Nat.reduceSub, Nat.reduceLT, Bool.not_true, Bool.not_false, Bool.false_eq_true, reduceIte, eq_self, decide_true, decide_false, Bool.true_and, Bool.false_and, Bool.and_true, Bool.and_false, Bool.or_true, Bool.true_or, Bool.or_false, Bool.false_or, if_true, if_false, mOwnIn, ix_ref hc hlast, neg1, in_bk g hl n1 n4 hi]
  have p2 : (mDrop (mApp (mVar 4) (mOwnB .RuleBook w_RuleBook__add__ (mBin oIx (mVar 4) (mUn oNeg (mC (.int 1)))) (mVar 5)))) (ev1 sc n (l.map Rl.toD) (some l[i].toD)) s = .nx (ev1 sc n (l.map Rl.toD) (some l[i].toD)) (s.set 1 (.lst (bks n (l.map Rl.toD) (i + 1)))) := by
    simp only [fDef, ent, mRet, mRetN, mSeq, mIf, mOrT, mAndT, mNotT, mTst, mArgs, aCons, aNil, mVar, mC, mUn, mBin, mChain, mAndV, mOrV, mNotV, mIfE, mSet, mAsg, mDrop, mRaise, mNx, mBrk, mCnt, gNm, gTp, gsCons, gsNil, mCall, bind_ok, bind_er, out_ok, out_er, seq_nx, seq_rt, seq_er, seq_bk, seq_ct, only_nx, only_er, turn_nx, turn_ct, turn_bk, turn_rt, turn_er, fin_nx, fin_rt, fin_er, ne_ok, List.map_cons, List.map_nil, List.cons_append, List.nil_append, List.length_cons, List.length_nil, List.replicate_succ, List.replicate_zero, List.getElem?_cons_zero, List.getElem?_cons_succ, List.set_cons_zero, List.set_cons_succ, Nat.reduceAdd, Nat.reduceSub, Nat.reduceLT, Bool.not_true, Bool.not_false, Bool.false_eq_true, reduceIte, eq_self, decide_true, decide_false, Bool.true_and, Bool.false_and, Bool.and_true, Bool.and_false, Bool.or_true, Bool.true_or, Bool.or_false, Bool.false_or, if_true, if_false, mApp, mOwnB, ix_ref hc hlast, neg1, add_bk g hl n1 n4 hi, hc, oApp, hbig, bks_succ]
  have p3 : (mIf (mNotT (mTst (mCall 3 w__law_holds (aCons (mBin oIx (mVar 4) (mUn oNeg (mC (.int 1)))) (aCons (mVar 2) (aCons (mSl false (mVar 3) (mNo) (mSome (mBin oSub (mArgs fLen (aCons (mVar 4) (aNil))) (mC (.int 1))))) (aNil))))))) (mRet (mC (.bl false))) (mNx)) (ev1 sc n (l.map Rl.toD) (some l[i].toD)) (s.set 1 (.lst (bks n (l.map Rl.toD) (i + 1)))) = .nx (ev1 sc n (l.map Rl.toD) (some l[i].toD)) (s.set 1 (.lst (bks n (l.map Rl.toD) (i + 1)))) := by
    simp only [fDef, ent, mRet, mRetN, mSeq, mIf, mOrT, mAndT, mNotT, mTst, mArgs, aCons, aNil, mVar, mC, mUn, mBin, mChain, mAndV, mOrV, mNotV, mIfE, mSet, mAsg, mDrop, mRaise, mNx, mBrk, mCnt, gNm, gTp, gsCons, gsNil, mCall, bind_ok, bind_er, out_ok, out_er, seq_nx, seq_rt, seq_er, seq_bk, seq_ct, only_nx, only_er, turn_nx, turn_ct, turn_bk, turn_rt, turn_er, fin_nx, fin_rt, fin_er, ne_ok, List.map_cons, List.map_nil, List.cons_append, List.nil_append, List.length_cons, List.length_nil, List.replicate_succ, List.replicate_zero, List.getElem?_cons_zero, List.getElem?_cons_succ, List.set_cons_zero, List.set_cons_succ, Nat.reduceAdd, Nat.reduceSub, Nat.reduceLT, Bool.not_true, Bool.not_false, Bool.false_eq_true, reduceIte, eq_self, decide_true, decide_false, Bool.true_and, Bool.false_and, Bool.and_true, Bool.and_false, Bool.or_true, Bool.true_or, Bool.or_false, Bool.false_or, if_true, if_false, mSl, mNo, mSome, ix_ref hc' hlast', neg1, len_ref hc', sub_int, elen, sl_take hi1, holds_bk g hl n1 n4]
  refine ⟨_, _, ?_, ⟨i + 1, some l[i].toD, by rw [List.length_drop, List.length_map]; omega, rfl, rfl, hc', ?_, by rw [List.length_set]; exact hlen⟩⟩
  · rw [ed]
    show ((mIf (mTst (mOwnIn false .RuleBook w_RuleBook__contains__ (mVar 5) (mBin oIx (mVar 4) (mUn oNeg (mC (.int 1)))))) (mRet (mC (.bl false))) (mNx)) (ev1 sc n (l.map Rl.toD) (some l[i].toD)) s).seq _ = _
    rw [p1, seq_nx]
    show ((mDrop (mApp (mVar 4) (mOwnB .RuleBook w_RuleBook__add__ (mBin oIx (mVar 4) (mUn oNeg (mC (.int 1)))) (mVar 5)))) (ev1 sc n (l.map Rl.toD) (some l[i].toD)) s).seq _ = _
    rw [p2, seq_nx, p3]
  · obtain ⟨dg, sd, st, q1, q2⟩ := S
    exact ⟨dg, sd, st, by rw [(Same.set (j := 1)).lst (by decide)]; exact q1, q2⟩
/-! the single ones -/
theorem upto_mem {lo : Int} {n : Nat} {d : D} (h : d ∈ upto lo n) : ∃ i : Nat, i < n ∧ d = .int (lo + i) := by
  obtain ⟨i, hi, rfl⟩ := List.mem_map.mp h
  exact ⟨i, List.mem_range.mp hi, rfl⟩
def one (n : Int) (d : D) : D := .ins .RuleBook [.int n, .tup [d]]
theorem single_ok {sc : List D} {n : Int} {l : List Rl} {x5 : Option D} {s : Store} (g : goodL n l) (hl : l.length ≤ 12) (n1 : 1 ≤ n) (n4 : n ≤ 4) (hc : lstAt s 1 = some (bks n (l.map Rl.toD) l.length)) :
    mLc [5] [5] (iSq (mVar 3)) (mYes) (mOwnB .RuleBook w_RuleBook__add__ (mBin oIx (mVar 4) (mC (.int 0))) (mVar 5)) (ev1 sc n (l.map Rl.toD) x5) s = .ok (.fl ((l.map Rl.toD).map (one n))) s := by
  refine lc_map (gd := []) (by simp only [iSq, fDef, ent, mRet, mRetN, mSeq, mIf, mOrT, mAndT, mNotT, mTst, mArgs, aCons, aNil, mVar, mC, mUn, mBin, mChain, mAndV, mOrV, mNotV, mIfE, mSet, mAsg, mDrop, mRaise, mNx, mBrk, mCnt, gNm, gTp, gsCons, gsNil, mCall, bind_ok, bind_er, out_ok, out_er, seq_nx, seq_rt, seq_er, seq_bk, seq_ct, only_nx, only_er, turn_nx, turn_ct, turn_bk, turn_rt, turn_er, fin_nx, fin_rt, fin_er, ne_ok, List.map_cons, List.map_nil, List.cons_append, List.nil_append, List.length_cons, List.length_nil, List.replicate_succ, List.replicate_zero, List.getElem?_cons_zero, List.getElem?_cons_succ, List.set_cons_zero, List.set_cons_succ, Nat.reduceAdd, Nat.reduceSub, Nat.reduceLT, Bool.not_true, Bool.not_false, Bool.false_eq_true, reduceIte, eq_self, decide_true, decide_false, Bool.true_and, Bool.false_and, Bool.and_true, Bool.and_false, Bool.or_true, Bool.true_or, Bool.or_false, Bool.false_or, if_true, if_false]) (by rw [List.length_map]; unfold big; omega) gd_nil _ fun d m => ⟨_, rfl, ?_⟩
  obtain ⟨r, mr, rfl⟩ := List.mem_map.mp m
  have h0 : atI (bks n (l.map Rl.toD) l.length) 0 = some (bk n (l.map Rl.toD) 0) := by
    unfold L2.atI L2.ixN bks
    have e : ((List.range (l.length + 1)).map (bk n (l.map Rl.toD))).length = l.length + 1 := by simp
    rw [if_pos (by decide), e, if_pos (by omega)]
    show ((List.range (l.length + 1)).map (bk n (l.map Rl.toD)))[0]? = _
    rw [List.getElem?_map, List.getElem?_range (Nat.succ_pos _)]
    rfl
  have ha : oOwnB .RuleBook w_RuleBook__add__ (bk n (l.map Rl.toD) 0) r.toD s = .ok (one n r.toD) s := add_bk0 g hl n1 n4 (k := []) (r := r) (by decide) (g.2 r mr) (by simp)
  simp only [wipeR, fDef, ent, mRet, mRetN, mSeq, mIf, mOrT, mAndT, mNotT, mTst, mArgs, aCons, aNil, mVar, mC, mUn, mBin, mChain, mAndV, mOrV, mNotV, mIfE, mSet, mAsg, mDrop, mRaise, mNx, mBrk, mCnt, gNm, gTp, gsCons, gsNil, mCall, bind_ok, bind_er, out_ok, out_er, seq_nx, seq_rt, seq_er, seq_bk, seq_ct, only_nx, only_er, turn_nx, turn_ct, turn_bk, turn_rt, turn_er, fin_nx, fin_rt, fin_er, ne_ok, List.map_cons, List.map_nil, List.cons_append, List.nil_append, List.length_cons, List.length_nil, List.replicate_succ, List.replicate_zero, List.getElem?_cons_zero, List.getElem?_cons_succ, List.set_cons_zero, List.set_cons_succ, Nat.reduceAdd, Nat.reduceSub, Nat.reduceLT, Bool.not_true, Bool.not_false, Bool.false_eq_true, reduceIte, eq_self, decide_true, decide_false, Bool.true_and, Bool.false_and, Bool.and_true, Bool.and_false, Bool.or_true, Bool.true_or, Bool.or_false, Bool.false_or, if_true, if_false, mOwnB, ix_ref hc h0, ha]
theorem single_all {sc : List D} {n : Int} {l : List Rl} {x5 : Option D} {s : Store} (g : goodL n l) (hl : l.length ≤ 12) (n1 : 1 ≤ n) (n4 : n ≤ 4) :
    mLc [7] [7] (iR1 (aCons (mArgs fLen (aCons (mVar 3) (aNil))) (aNil))) (mYes) (mCall 3 w__law_holds (aCons (mBin oIx (mVar 6) (mVar 7)) (aCons (mVar 2) (aCons (mArgs fLst (aCons (mBin oIx (mVar 3) (mVar 7)) (aNil))) (aNil))))) [some (.fl sc), some (.ref 0), some (.int n), some (.fl (l.map Rl.toD)), some (.ref 1), x5, some (.fl ((l.map Rl.toD).map (one n))), none, none, none, none, none] s = .ok (.fl ((upto 0 l.length).map fun _ => .bl true)) s := by
  have e1 := iR1_ok (mr := aCons (mArgs fLen (aCons (mVar 3) (aNil))) (aNil)) (ρ := [some (.fl sc), some (.ref 0), some (.int n), some (.fl (l.map Rl.toD)), some (.ref 1), x5, some (.fl ((l.map Rl.toD).map (one n))), none, none, none, none, none]) (s := s) (s' := s) (j := l.length) (by simp only [fDef, ent, mRet, mRetN, mSeq, mIf, mOrT, mAndT, mNotT, mTst, mArgs, aCons, aNil, mVar, mC, mUn, mBin, mChain, mAndV, mOrV, mNotV, mIfE, mSet, mAsg, mDrop, mRaise, mNx, mBrk, mCnt, gNm, gTp, gsCons, gsNil, mCall, bind_ok, bind_er, out_ok, out_er, seq_nx, seq_rt, seq_er, seq_bk, seq_ct, only_nx, only_er, turn_nx, turn_ct, turn_bk, turn_rt, turn_er, fin_nx, fin_rt, fin_er, ne_ok, List.map_cons, List.map_nil, List.cons_append, List.nil_append, List.length_cons, List.length_nil, List.replicate_succ, List.replicate_zero, List.getElem?_cons_zero, List.getElem?_cons_succ, List.set_cons_zero, List.set_cons_succ, Nat.reduceAdd, Nat.reduceSub, Nat.reduceLT, Bool.not_true, Bool.not_false, Bool.false_eq_true, reduceIte, eq_self, decide_true, decide_false, Bool.true_and, Bool.false_and, Bool.and_true, Bool.and_false, Bool.or_true, Bool.true_or, Bool.or_false, Bool.false_or, if_true, if_false, len_fl, List.length_map]) (by omega) (by omega)
  rw [Int.toNat_natCast] at e1
  refine lc_map (vs := [7]) (js := [7]) e1 (by rw [upto_len]; unfold big; omega) gd_nil _ fun d m => ⟨_, rfl, ?_⟩
  obtain ⟨i, hi, rfl⟩ := upto_mem m
  rw [Int.zero_add]
  have a1 : atI ((l.map Rl.toD).map (one n)) (i : Int) = some (one n l[i].toD) := by
    unfold L2.atI L2.ixN
    rw [if_pos (by omega), if_pos (by rw [List.length_map, List.length_map]; omega)]
    show ((l.map Rl.toD).map (one n))[(i : Int).toNat]? = _
    rw [Int.toNat_natCast, List.getElem?_map, rl_at hi]
    rfl
  have a2 : atI (l.map Rl.toD) (i : Int) = some l[i].toD := by
    unfold L2.atI L2.ixN
    rw [if_pos (by omega), if_pos (by rw [List.length_map]; omega)]
    show (l.map Rl.toD)[(i : Int).toNat]? = _
    rw [Int.toNat_natCast, rl_at hi]
  have hb : (1 : Nat) ≤ big := by decide
  have hh : w__law_holds [one n l[i].toD, .int n, .fl [l[i].toD]] s = .ok (.bl true) s := holds0 g hl n1 n4 (k := [l[i]]) (by rw [List.length_singleton]; omega) fun r m => by
    rw [List.mem_singleton.mp m]
    exact g.2 _ (List.getElem_mem hi)
  simp only [wipeR, fDef, ent, mRet, mRetN, mSeq, mIf, mOrT, mAndT, mNotT, mTst, mArgs, aCons, aNil, mVar, mC, mUn, mBin, mChain, mAndV, mOrV, mNotV, mIfE, mSet, mAsg, mDrop, mRaise, mNx, mBrk, mCnt, gNm, gTp, gsCons, gsNil, mCall, bind_ok, bind_er, out_ok, out_er, seq_nx, seq_rt, seq_er, seq_bk, seq_ct, only_nx, only_er, turn_nx, turn_ct, turn_bk, turn_rt, turn_er, fin_nx, fin_rt, fin_er, ne_ok, List.map_cons, List.map_nil, List.cons_append, List.nil_append, List.length_cons, List.length_nil, List.replicate_succ, List.replicate_zero, List.getElem?_cons_zero, List.getElem?_cons_succ, List.set_cons_zero, List.set_cons_succ, Nat.reduceAdd, Nat.reduceSub, Nat.reduceLT, Bool.not_true, Bool.not_false, Bool.false_eq_true, reduceIte, eq_self, decide_true, decide_false, Bool.true_and, Bool.false_and, Bool.and_true, Bool.and_false, Bool.or_true, Bool.true_or, Bool.or_false, Bool.false_or, if_true, if_false, ix_fl a1, ix_fl a2, fLst, hb, hh]
theorem true_all {ds : List D} {s : Store} : fAll [.fl (ds.map fun _ => .bl true)] s = .ok (.bl true) s := by
  have z := all_map (p := fun _ => true) (ds := ds) (s := s)
  rw [z]
  simp
/-! the second loop -/
theorem str_dat {x : Str} {k : Nat} (h : PyData.strOk x = true) : (D.str x).dat k = true := by unfold D.dat; exact h
theorem BadRule_ne {s : Store} : oNe (.str "BadRule") (.str "BadRule") s = .ok (.bl false) s := by
  have h : (D.str "BadRule").dat 40 = true := str_dat (by decide +kernel)
  have z := oEq_dat (neg := true) (s := s) h h
  rw [eqv_self h] at z
  exact z
theorem BadBook_eq {s : Store} : oEq (.str "BadBook") (.str "BadBook") s = .ok (.bl true) s := by
  have h : (D.str "BadBook").dat 40 = true := str_dat (by decide +kernel)
  have z := oEq_dat (neg := false) (s := s) h h
  rw [eqv_self h] at z
  exact z
abbrev ev2 (sc : List D) (n : Int) (rs : List D) (x5 x7 x8 x9 : Option D) (sg : List D) : Envt := [some (.fl sc), some (.ref 0), some (.int n), some (.fl rs), some (.ref 1), x5, some (.fl sg), x7, x8, x9, none, none]
noncomputable def m3 : MS := mIf (mTst (mBin oNe (mCall 2 w__law_at (aCons (mVar 8) (aCons (mVar 9) (aNil)))) (mC (.str "BadRule")))) (mRet (mC (.bl false))) (mNx)
def nums : MI := iSq (mArgs fLst (aCons (mUn oNeg (mC (.int 1))) (aCons (mVar 7) (aCons (mBin oAdd (mBin oAdd (mVar 7) (mC (.int 1))) (mCall 2 w__law_take (aCons (mVar 1) (aCons (mC (.int 1000)) (aNil))))) (aCons (mBin oSub (mUn oNeg (mC (.int 1))) (mCall 2 w__law_take (aCons (mVar 1) (aCons (mC (.int 13)) (aNil))))) (aCons (mC (.bl true)) (aCons (mC (.bl false)) (aCons (mC .non) (aCons (mC (.str "0")) (aCons (mArgs fTup (aCons (mC (.int 0)) (aNil))) (aNil)))))))))))
theorem nums_ok {sc : List D} {n : Int} {rs : List D} {x5 x8 x9 : Option D} {sg : List D} {i : Nat} {s : Store} {b : Int} (S : Src s 0 b) (hb : b ≤ 10 ^ 4) : ∃ ds s', nums (ev2 sc n rs x5 (some (.int i)) x8 x9 sg) s = .ok (ds, []) s' ∧ Src s' 0 (b + 2) ∧ Same 0 s s' ∧ ∀ d ∈ ds, d.dat 37 = true ∧ belowB i d = false := by
  obtain ⟨t, s1, e1, t0, t1, S1, k1⟩ := take_spec S (by omega) (show (0 : Int) < 1000 by decide) (by decide)
  obtain ⟨u, s2, e2, u0, u1, S2, k2⟩ := take_spec S1 (by omega) (show (0 : Int) < 13 by decide) (by decide)
  refine ⟨[.int (-1), .int i, .int (i + 1 + t), .int (-1 - u), .bl true, .bl false, .non, .str "0", .tup [.int 0]], s2, ?_, ?_, k1.trans k2, fun d m => ?_⟩
  · have h9 : (9 : Nat) ≤ big := by decide
    have h1 : (1 : Nat) ≤ big := by decide
    unfold nums
    simp only [iSq, fDef, ent, mRet, mRetN, mSeq, mIf, mOrT, mAndT, mNotT, mTst, mArgs, aCons, aNil, mVar, mC, mUn, mBin, mChain, mAndV, mOrV, mNotV, mIfE, mSet, mAsg, mDrop, mRaise, mNx, mBrk, mCnt, gNm, gTp, gsCons, gsNil, mCall, bind_ok, bind_er, out_ok, out_er, seq_nx, seq_rt, seq_er, seq_bk, seq_ct, only_nx, only_er, turn_nx, turn_ct, turn_bk, turn_rt, turn_er, fin_nx, fin_rt, fin_er, ne_ok, List.map_cons, List.map_nil, List.cons_append, List.nil_append, List.length_cons, List.length_nil, List.replicate_succ, List.replicate_zero, List.getElem?_cons_zero, List.getElem?_cons_succ, List.set_cons_zero, List.set_cons_succ, Nat.reduceAdd, Nat.reduceSub, Nat.reduceLT, Bool.not_true, Bool.not_false, Bool.false_eq_true, reduceIte, eq_self, decide_true, decide_false, Bool.true_and, Bool.false_and, Bool.and_true, Bool.and_false, Bool.or_true, Bool.true_or, Bool.or_false, Bool.false_or, if_true, if_false, neg1, add_int, e1, sub_int, e2, fLst, fTup, h9, h1]
  · have e : b + 1 + 1 = b + 2 := by omega
    rw [← e]
    exact S2
  · rcases List.mem_cons.mp m with rfl | m
    · exact ⟨int_dat, by simp [belowB]⟩
    rcases List.mem_cons.mp m with rfl | m
    · exact ⟨int_dat, by simp [belowB]⟩
    rcases List.mem_cons.mp m with rfl | m
    · exact ⟨int_dat, by simp [belowB]; omega⟩
    rcases List.mem_cons.mp m with rfl | m
    · exact ⟨int_dat, by simp [belowB]; omega⟩
    rcases List.mem_cons.mp m with rfl | m
    · exact ⟨by unfold D.dat; rfl, rfl⟩
    rcases List.mem_cons.mp m with rfl | m
    · exact ⟨by unfold D.dat; rfl, rfl⟩
    rcases List.mem_cons.mp m with rfl | m
    · exact ⟨by unfold D.dat; rfl, rfl⟩
    rcases List.mem_cons.mp m with rfl | m
    · exact ⟨str_dat (by decide +kernel), rfl⟩
    rw [List.mem_singleton.mp m]
    exact ⟨dat_tup (k := 36) (datL_all.mpr fun d m => by rw [List.mem_singleton.mp m]; exact int_dat), rfl⟩
structure I3 (sc : List D) (n : Int) (rs : List D) (x5 : Option D) (i : Nat) (bi : D) (sg : List D) (s0 : Store) (r : List D) (ρ : Envt) (s : Store) : Prop where
  ex : ∃ x9, ρ = ev2 sc n rs x5 (some (.int i)) (some bi) x9 sg ∧ s = s0 ∧ ∀ d ∈ r, d.dat 37 = true ∧ belowB i d = false
theorem step3 {sc : List D} {n : Int} {l : List Rl} {x5 : Option D} {i : Nat} {sg : List D} {s0 : Store} (g : goodL n l) (hl : l.length ≤ 12) (n1 : 1 ≤ n) (n4 : n ≤ 4) (hi : i ≤ l.length) (d : D) (r : List D) (ρ : Envt) (s : Store) (I : I3 sc n (l.map Rl.toD) x5 i (bk n (l.map Rl.toD) i) sg s0 (d :: r) ρ s) :
    ∃ ρ' s', ((gNm 9 d ρ s).only.seq m3) = .nx ρ' s' ∧ I3 sc n (l.map Rl.toD) x5 i (bk n (l.map Rl.toD) i) sg s0 r ρ' s' := by
  obtain ⟨x9, rfl, rfl, h⟩ := I.ex
  obtain ⟨hd, hb⟩ := h d List.mem_cons_self
  refine ⟨_, s, ?_, ⟨some d, rfl, rfl, fun e m => h e (List.mem_cons_of_mem _ m)⟩⟩
  unfold m3
  simp only [fDef, ent, mRet, mRetN, mSeq, mIf, mOrT, mAndT, mNotT, mTst, mArgs, aCons, aNil, mVar, mC, mUn, mBin, mChain, mAndV, mOrV, mNotV, mIfE, mSet, mAsg, mDrop, mRaise, mNx, mBrk, mCnt, gNm, gTp, gsCons, gsNil, mCall, bind_ok, bind_er, out_ok, out_er, seq_nx, seq_rt, seq_er, seq_bk, seq_ct, only_nx, only_er, turn_nx, turn_ct, turn_bk, turn_rt, turn_er, fin_nx, fin_rt, fin_er, ne_ok, List.map_cons, List.map_nil, List.cons_append, List.nil_append, List.length_cons, List.length_nil, List.replicate_succ, List.replicate_zero, List.getElem?_cons_zero, List.getElem?_cons_succ, List.set_cons_zero, List.set_cons_succ, Nat.reduceAdd, Nat.reduceSub, Nat.reduceLT, Bool.not_true, Bool.not_false, Bool.false_eq_true, reduceIte, eq_self, decide_true, decide_false, Bool.true_and, Bool.false_and, Bool.and_true, Bool.and_false, Bool.or_true, Bool.true_or, Bool.or_false, Bool.false_or, if_true, if_false, at_bk g hl n1 n4 hi hd hb, BadRule_ne]
noncomputable def m2 : MS := mSeq (mIf (mNotT (mTst (mCall 3 w__law_holds (aCons (mVar 8) (aCons (mVar 2) (aCons (mSl false (mVar 3) (mNo) (mSome (mVar 7))) (aNil))))))) (mRet (mC (.bl false))) (mNx)) (mFor nums (gNm 9) m3)
def g2 : MG := gTp 2 (gsCons (gNm 7) (gsCons (gNm 8) (gsNil)))
structure I2 (sc : List D) (n : Int) (l : List Rl) (x5 : Option D) (sg : List D) (r : List D) (ρ : Envt) (s : Store) : Prop where
  ex : ∃ (i : Nat) (x7 x8 x9 : Option D), i + r.length = l.length + 1 ∧ r = (enD (bks n (l.map Rl.toD) l.length)).drop i ∧ ρ = ev2 sc n (l.map Rl.toD) x5 x7 x8 x9 sg ∧ lstAt s 1 = some (bks n (l.map Rl.toD) l.length) ∧ Src s 0 (10 + 2 * i)
theorem bks_at {n : Int} {rs : List D} {k i : Nat} (h : i < (bks n rs k).length) : (bks n rs k)[i] = bk n rs i := by
  have z : (bks n rs k)[i]? = some (bk n rs i) := by
    rw [bks_len] at h
    unfold bks
    rw [List.getElem?_map, List.getElem?_range h]
    rfl
  rw [List.getElem?_eq_getElem h] at z
  exact Option.some.inj z
theorem step2 {sc : List D} {n : Int} {l : List Rl} {x5 : Option D} {sg : List D} (g : goodL n l) (hl : l.length ≤ 12) (n1 : 1 ≤ n) (n4 : n ≤ 4) (d : D) (r : List D) (ρ : Envt) (s : Store) (I : I2 sc n l x5 sg (d :: r) ρ s) : ∃ ρ' s', ((g2 d ρ s).only.seq m2) = .nx ρ' s' ∧ I2 sc n l x5 sg r ρ' s' := by
  obtain ⟨i, x7, x8, x9, h1, h2, rfl, hc, S⟩ := I.ex
  have hi : i ≤ l.length := by rw [List.length_cons] at h1; omega
  have hlen : (enD (bks n (l.map Rl.toD) l.length)).length = l.length + 1 := by rw [enD_len, bks_len]
  have hi' : i < (enD (bks n (l.map Rl.toD) l.length)).length := by rw [hlen]; omega
  rw [List.drop_eq_getElem_cons hi', List.cons.injEq] at h2
  obtain ⟨rfl, rfl⟩ := h2
  have hi2 : i < (bks n (l.map Rl.toD) l.length).length := by rw [bks_len]; omega
  have ed : (enD (bks n (l.map Rl.toD) l.length))[i] = .tup [.int i, bk n (l.map Rl.toD) i] := by
    have z := enD_get hi2
    rw [List.getElem?_eq_getElem hi'] at z
    have z2 := Option.some.inj z
    rw [z2, bks_at hi2]
  rw [ed]
  have hi1 : i ≤ (l.map Rl.toD).length := by rw [List.length_map]; exact hi
  have p0 : g2 (.tup [.int i, bk n (l.map Rl.toD) i]) (ev2 sc n (l.map Rl.toD) x5 x7 x8 x9 sg) s = .nx (ev2 sc n (l.map Rl.toD) x5 (some (.int i)) (some (bk n (l.map Rl.toD) i)) x9 sg) s := by
    unfold g2
    simp only [fDef, ent, mRet, mRetN, mSeq, mIf, mOrT, mAndT, mNotT, mTst, mArgs, aCons, aNil, mVar, mC, mUn, mBin, mChain, mAndV, mOrV, mNotV, mIfE, mSet, mAsg, mDrop, mRaise, mNx, mBrk, mCnt, gNm, gTp, gsCons, gsNil, mCall, bind_ok, bind_er, out_ok, out_er, seq_nx, seq_rt, seq_er, seq_bk, seq_ct, only_nx, only_er, turn_nx, turn_ct, turn_bk, turn_rt, turn_er, fin_nx, fin_rt, fin_er, ne_ok, List.map_cons, List.map_nil, List.cons_append, List.nil_append, List.length_cons, List.length_nil, List.replicate_succ, List.replicate_zero, List.getElem?_cons_zero, List.getElem?_cons_succ, List.set_cons_zero, List.set_cons_succ, Nat.reduceAdd, Nat.reduceSub, Nat.reduceLT, Bool.not_true, Bool.not_false, Bool.false_eq_true, reduceIte, eq_self, decide_true, decide_false, Bool.true_and, Bool.false_and, Bool.and_true, Bool.and_false, Bool.or_true, Bool.true_or, Bool.or_false, Bool.false_or, if_true, if_false]
  have p1 : (mIf (mNotT (mTst (mCall 3 w__law_holds (aCons (mVar 8) (aCons (mVar 2) (aCons (mSl false (mVar 3) (mNo) (mSome (mVar 7))) (aNil))))))) (mRet (mC (.bl false))) (mNx)) (ev2 sc n (l.map Rl.toD) x5 (some (.int i)) (some (bk n (l.map Rl.toD) i)) x9 sg) s = .nx (ev2 sc n (l.map Rl.toD) x5 (some (.int i)) (some (bk n (l.map Rl.toD) i)) x9 sg) s := by
    simp only [fDef, ent, mRet, mRetN, mSeq, mIf, mOrT, mAndT, mNotT, mTst, mArgs, aCons, aNil, mVar, mC, mUn, mBin, mChain, mAndV, mOrV, mNotV, mIfE, mSet, mAsg, mDrop, mRaise, mNx, mBrk, mCnt, gNm, gTp, gsCons, gsNil, mCall, bind_ok, bind_er, out_ok, out_er, seq_nx, seq_rt, seq_er, seq_bk, seq_ct, only_nx, only_er, turn_nx, turn_ct, turn_bk, turn_rt, turn_er, fin_nx, fin_rt, fin_er, ne_ok, List.map_cons, List.map_nil, List.cons_append, List.nil_append, List.length_cons, List.length_nil, List.replicate_succ, List.replicate_zero, List.getElem?_cons_zero, List.getElem?_cons_succ, List.set_cons_zero, List.set_cons_succ, Nat.reduceAdd, Nat.reduceSub, Nat.reduceLT, Bool.not_true, Bool.not_false, Bool.false_eq_true, reduceIte, eq_self, decide_true, decide_false, Bool.true_and, Bool.false_and, Bool.and_true, Bool.and_false, Bool.or_true, Bool.true_or, Bool.or_false, Bool.false_or, if_true, if_false, mSl, mNo, mSome, sl_take hi1, holds_bk g hl n1 n4]
  obtain ⟨ds, s', e1, S', k', hds⟩ := nums_ok (sc := sc) (n := n) (rs := l.map Rl.toD) (x5 := x5) (x8 := some (bk n (l.map Rl.toD) i)) (x9 := x9) (sg := sg) (i := i) S (by omega)
  obtain ⟨ρ3, s3, e3, J⟩ := forL_inv (gd := []) (g := gNm 9) (body := m3) (I3 sc n (l.map Rl.toD) x5 i (bk n (l.map Rl.toD) i) sg s') (fun _ _ _ _ => gd_nil) (step3 g hl n1 n4 hi) ds _ s' ⟨x9, rfl, rfl, hds⟩
  obtain ⟨y9, rfl, rfl, _⟩ := J.ex
  refine ⟨ev2 sc n (l.map Rl.toD) x5 (some (.int i)) (some (bk n (l.map Rl.toD) i)) y9 sg, s3, ?_, ⟨i + 1, some (.int i), some (bk n (l.map Rl.toD) i), y9, by rw [List.length_drop, hlen]; omega, rfl, rfl, ?_, ?_⟩⟩
  · rw [p0, only_nx, seq_nx]
    show ((mIf (mNotT (mTst (mCall 3 w__law_holds (aCons (mVar 8) (aCons (mVar 2) (aCons (mSl false (mVar 3) (mNo) (mSome (mVar 7))) (aNil))))))) (mRet (mC (.bl false))) (mNx)) (ev2 sc n (l.map Rl.toD) x5 (some (.int i)) (some (bk n (l.map Rl.toD) i)) x9 sg) s).seq _ = _
    rw [p1, seq_nx]
    unfold mFor
    rw [e1, out_ok]
    exact e3
  · rw [k'.lst (by decide)]
    exact hc
  · exact S'.mono (by omega)
end LY
/-! Rk76f: the law's answer. -/
namespace LY
open PySem PySem.Spec PyProof.Rows L2
noncomputable def st0 : MS := (mSet 1 (mCall 2 w__law_source (aCons (mVar 0) (aCons (mC (.int 0)) (aNil)))))
noncomputable def st1 : MS := (mSet 2 (mBin oAdd (mC (.int 1)) (mCall 2 w__law_take (aCons (mVar 1) (aCons (mC (.int 4)) (aNil))))))
noncomputable def st2 : MS := (mSet 3 (mCall 3 w__law_drawn_rules (aCons (mVar 0) (aCons (mC (.int 1)) (aCons (mVar 2) (aNil))))))
noncomputable def st3 : MS := (mSet 4 (mArgs fCel (aCons (mArgs mk_RuleBook (aCons (mVar 2) (aNil))) (aNil))))
noncomputable def st4 : MS := (mFor (iSq (mVar 3)) (gNm 5) (mSeq (mIf (mTst (mOwnIn false .RuleBook w_RuleBook__contains__ (mVar 5) (mBin oIx (mVar 4) (mUn oNeg (mC (.int 1)))))) (mRet (mC (.bl false))) (mNx)) (mSeq (mDrop (mApp (mVar 4) (mOwnB .RuleBook w_RuleBook__add__ (mBin oIx (mVar 4) (mUn oNeg (mC (.int 1)))) (mVar 5)))) (mIf (mNotT (mTst (mCall 3 w__law_holds (aCons (mBin oIx (mVar 4) (mUn oNeg (mC (.int 1)))) (aCons (mVar 2) (aCons (mSl false (mVar 3) (mNo) (mSome (mBin oSub (mArgs fLen (aCons (mVar 4) (aNil))) (mC (.int 1))))) (aNil))))))) (mRet (mC (.bl false))) (mNx)))))
noncomputable def st5 : MS := (mSet 6 (mLc [5] [5] (iSq (mVar 3)) (mYes) (mOwnB .RuleBook w_RuleBook__add__ (mBin oIx (mVar 4) (mC (.int 0))) (mVar 5))))
noncomputable def st6 : MS := (mIf (mNotT (mTst (mArgs fAll (aCons (mLc [7] [7] (iR1 (aCons (mArgs fLen (aCons (mVar 3) (aNil))) (aNil))) (mYes) (mCall 3 w__law_holds (aCons (mBin oIx (mVar 6) (mVar 7)) (aCons (mVar 2) (aCons (mArgs fLst (aCons (mBin oIx (mVar 3) (mVar 7)) (aNil))) (aNil)))))) (aNil))))) (mRet (mC (.bl false))) (mNx))
noncomputable def st7 : MS := (mFor (iEn (aCons (mVar 4) (aNil))) (gTp 2 (gsCons (gNm 7) (gsCons (gNm 8) (gsNil)))) (mSeq (mIf (mNotT (mTst (mCall 3 w__law_holds (aCons (mVar 8) (aCons (mVar 2) (aCons (mSl false (mVar 3) (mNo) (mSome (mVar 7))) (aNil))))))) (mRet (mC (.bl false))) (mNx)) (mFor (iSq (mArgs fLst (aCons (mUn oNeg (mC (.int 1))) (aCons (mVar 7) (aCons (mBin oAdd (mBin oAdd (mVar 7) (mC (.int 1))) (mCall 2 w__law_take (aCons (mVar 1) (aCons (mC (.int 1000)) (aNil))))) (aCons (mBin oSub (mUn oNeg (mC (.int 1))) (mCall 2 w__law_take (aCons (mVar 1) (aCons (mC (.int 13)) (aNil))))) (aCons (mC (.bl true)) (aCons (mC (.bl false)) (aCons (mC .non) (aCons (mC (.str "0")) (aCons (mArgs fTup (aCons (mC (.int 0)) (aNil))) (aNil)))))))))))) (gNm 9) (mIf (mTst (mBin oNe (mCall 2 w__law_at (aCons (mVar 8) (aCons (mVar 9) (aNil)))) (mC (.str "BadRule")))) (mRet (mC (.bl false))) (mNx)))))
noncomputable def st8 : MS := (mSet 10 (mArgs fLst (aCons (mC (.int 0)) (aCons (mC (.int 5)) (aCons (mUn oNeg (mC (.int 1))) (aCons (mBin oAdd (mC (.int 5)) (mCall 2 w__law_take (aCons (mVar 1) (aCons (mBin oPow (mC (.int 10)) (mC (.int 9))) (aNil))))) (aCons (mC (.bl true)) (aCons (mC .non) (aCons (mC (.str "2")) (aCons (mArgs fTup (aCons (mC (.int 1)) (aNil))) (aCons (mArgs fLst (aCons (mC (.int 2)) (aNil))) (aNil))))))))))))
noncomputable def st9 : MS := (mRet (mArgs fAll (aCons (mLc [11] [11] (iSq (mVar 10)) (mYes) (mBin oEq (mCall 1 w__law_made (aCons (mVar 11) (aNil))) (mC (.str "BadBook")))) (aNil))))
theorem law_split : m_law = mSeq st0 (mSeq st1 (mSeq st2 (mSeq st3 (mSeq st4 (mSeq st5 (mSeq st6 (mSeq st7 (mSeq st8 (st9))))))))) := rfl

theorem sq {a b : MS} {ρ ρ' : Envt} {s s' : Store} (h : a ρ s = .nx ρ' s') : mSeq a b ρ s = b ρ' s' := by
  unfold mSeq
  rw [h]
  rfl
abbrev ev0 (x0 x1 x2 x3 x4 x5 x6 x7 x8 x9 x10 x11 : Option D) : Envt := [x0, x1, x2, x3, x4, x5, x6, x7, x8, x9, x10, x11]
def wrongs (t : Int) : List D := [.int 0, .int 5, .int (-1), .int (5 + t), .bl true, .non, .str "2", .tup [.int 1], .fl [.int 2]]
theorem wrongs_ok {t : Int} (h : 0 ≤ t) : ∀ d ∈ wrongs t, d.dat 40 = true ∧ stN d = false := fun d m => by
  unfold wrongs at m
  rcases List.mem_cons.mp m with rfl | m
  · exact ⟨int_dat, rfl⟩
  rcases List.mem_cons.mp m with rfl | m
  · exact ⟨int_dat, rfl⟩
  rcases List.mem_cons.mp m with rfl | m
  · exact ⟨int_dat, rfl⟩
  rcases List.mem_cons.mp m with rfl | m
  · exact ⟨int_dat, by simp [stN]; omega⟩
  rcases List.mem_cons.mp m with rfl | m
  · exact ⟨by unfold D.dat; rfl, rfl⟩
  rcases List.mem_cons.mp m with rfl | m
  · exact ⟨by unfold D.dat; rfl, rfl⟩
  rcases List.mem_cons.mp m with rfl | m
  · exact ⟨str_dat (by decide +kernel), rfl⟩
  rcases List.mem_cons.mp m with rfl | m
  · exact ⟨dat_tup (k := 39) (datL_all.mpr fun d m => by rw [List.mem_singleton.mp m]; exact int_dat), rfl⟩
  rw [List.mem_singleton.mp m]
  refine ⟨?_, rfl⟩
  unfold D.dat
  rw [datL_all.mpr fun d m => by rw [List.mem_singleton.mp m]; exact int_dat]
  rfl
theorem law_true {is : List Int} (h : is.length ≤ 63) : ∃ s', fDef 12 m_law [.fl (is.map D.int)] [] = .ok (.bl true) s' := by
  have hlen : is.length ≤ 1000 := by omega
  have sp := src_spec (s := ([] : Store)) (k := 0) hlen (by decide) (by decide)
  obtain ⟨t, s1, e1, t0, t1, S1, k1⟩ := take_spec sp.2 (by decide) (show (0 : Int) < 4 by decide) (by decide)
  have hs1 : s1.length = 1 := k1.1
  have lo1 : stLo s1 s1.length := by
    obtain ⟨dg, sd, st, q, _⟩ := S1
    intro c m
    obtain ⟨i, hi, rfl⟩ := List.getElem_of_mem m
    have hi0 : i = 0 := by omega
    subst hi0
    have z := lstAt_some q
    have z2 := (List.getElem?_eq_some_iff.mp z).2
    have z3 : s1[0] = Cell.lst [.int dg, .int sd, .int st] := z2
    rw [z3]
    unfold Cell.lo
    dsimp only
    unfold loL loL loL loL D.lo
    rfl
  obtain ⟨l, g, hl, ed⟩ := drawn_ok (is := is) (first := 1) (n := 1 + t) (s := s1) lo1 (by omega) (by omega) (by decide) (by decide) hlen
  have n1 : 1 ≤ 1 + t := by omega
  have n4 : 1 + t ≤ 4 := by omega
  have h1 : (1 : Nat) ≤ big := by decide
  have mk1 : mk_RuleBook [.int (1 + t)] s1 = .ok (bk (1 + t) (l.map Rl.toD) 0) s1 := by
    unfold mk_RuleBook
    dsimp only
    rw [if_pos int_dat, if_pos (stN_of n1 n4)]
    rfl
  have p0 : st0 (ev0 (some (.fl (is.map D.int))) none none none none none none none none none none none) [] = .nx (ev0 (some (.fl (is.map D.int))) (some (.ref 0)) none none none none none none none none none none) ([] ++ [.lst (srcL is 0)]) := by
    unfold st0
    simp only [fDef, ent, mRet, mRetN, mSeq, mIf, mOrT, mAndT, mNotT, mTst, mArgs, aCons, aNil, mVar, mC, mUn, mBin, mChain, mAndV, mOrV, mNotV, mIfE, mSet, mAsg, mDrop, mRaise, mNx, mBrk, mCnt, gNm, gTp, gsCons, gsNil, mCall, bind_ok, bind_er, out_ok, out_er, seq_nx, seq_rt, seq_er, seq_bk, seq_ct, only_nx, only_er, turn_nx, turn_ct, turn_bk, turn_rt, turn_er, fin_nx, fin_rt, fin_er, ne_ok, List.map_cons, List.map_nil, List.cons_append, List.nil_append, List.length_cons, List.length_nil, List.replicate_succ, List.replicate_zero, List.getElem?_cons_zero, List.getElem?_cons_succ, List.set_cons_zero, List.set_cons_succ, Nat.reduceAdd, Nat.reduceSub, Nat.reduceLT, Bool.not_true, Bool.not_false, Bool.false_eq_true, reduceIte, eq_self, decide_true, decide_false, Bool.true_and, Bool.false_and, Bool.and_true, Bool.and_false, Bool.or_true, Bool.true_or, Bool.or_false, Bool.false_or, if_true, if_false, sp.1]
  have p1 : st1 (ev0 (some (.fl (is.map D.int))) (some (.ref 0)) none none none none none none none none none none) ([] ++ [.lst (srcL is 0)]) = .nx (ev0 (some (.fl (is.map D.int))) (some (.ref 0)) (some (.int (1 + t))) none none none none none none none none none) s1 := by
    unfold st1
    have e1b : w__law_take [.ref 0, .int 4] [Cell.lst (srcL is 0)] = .ok (.int t) s1 := e1
    simp only [fDef, ent, mRet, mRetN, mSeq, mIf, mOrT, mAndT, mNotT, mTst, mArgs, aCons, aNil, mVar, mC, mUn, mBin, mChain, mAndV, mOrV, mNotV, mIfE, mSet, mAsg, mDrop, mRaise, mNx, mBrk, mCnt, gNm, gTp, gsCons, gsNil, mCall, bind_ok, bind_er, out_ok, out_er, seq_nx, seq_rt, seq_er, seq_bk, seq_ct, only_nx, only_er, turn_nx, turn_ct, turn_bk, turn_rt, turn_er, fin_nx, fin_rt, fin_er, ne_ok, List.map_cons, List.map_nil, List.cons_append, List.nil_append, List.length_cons, List.length_nil, List.replicate_succ, List.replicate_zero, List.getElem?_cons_zero, List.getElem?_cons_succ, List.set_cons_zero, List.set_cons_succ, Nat.reduceAdd, Nat.reduceSub, Nat.reduceLT, Bool.not_true, Bool.not_false, Bool.false_eq_true, reduceIte, eq_self, decide_true, decide_false, Bool.true_and, Bool.false_and, Bool.and_true, Bool.and_false, Bool.or_true, Bool.true_or, Bool.or_false, Bool.false_or, if_true, if_false, e1b, add_int]
  have p2 : st2 (ev0 (some (.fl (is.map D.int))) (some (.ref 0)) (some (.int (1 + t))) none none none none none none none none none) s1 = .nx (ev0 (some (.fl (is.map D.int))) (some (.ref 0)) (some (.int (1 + t))) (some (.fl (l.map Rl.toD))) none none none none none none none none) s1 := by
    unfold st2
    simp only [fDef, ent, mRet, mRetN, mSeq, mIf, mOrT, mAndT, mNotT, mTst, mArgs, aCons, aNil, mVar, mC, mUn, mBin, mChain, mAndV, mOrV, mNotV, mIfE, mSet, mAsg, mDrop, mRaise, mNx, mBrk, mCnt, gNm, gTp, gsCons, gsNil, mCall, bind_ok, bind_er, out_ok, out_er, seq_nx, seq_rt, seq_er, seq_bk, seq_ct, only_nx, only_er, turn_nx, turn_ct, turn_bk, turn_rt, turn_er, fin_nx, fin_rt, fin_er, ne_ok, List.map_cons, List.map_nil, List.cons_append, List.nil_append, List.length_cons, List.length_nil, List.replicate_succ, List.replicate_zero, List.getElem?_cons_zero, List.getElem?_cons_succ, List.set_cons_zero, List.set_cons_succ, Nat.reduceAdd, Nat.reduceSub, Nat.reduceLT, Bool.not_true, Bool.not_false, Bool.false_eq_true, reduceIte, eq_self, decide_true, decide_false, Bool.true_and, Bool.false_and, Bool.and_true, Bool.and_false, Bool.or_true, Bool.true_or, Bool.or_false, Bool.false_or, if_true, if_false, ed]
  have p3 : st3 (ev0 (some (.fl (is.map D.int))) (some (.ref 0)) (some (.int (1 + t))) (some (.fl (l.map Rl.toD))) none none none none none none none none) s1 = .nx (ev1 (is.map D.int) (1 + t) (l.map Rl.toD) none) (s1 ++ [.lst [bk (1 + t) (l.map Rl.toD) 0]]) := by
    unfold st3
    simp only [fDef, ent, mRet, mRetN, mSeq, mIf, mOrT, mAndT, mNotT, mTst, mArgs, aCons, aNil, mVar, mC, mUn, mBin, mChain, mAndV, mOrV, mNotV, mIfE, mSet, mAsg, mDrop, mRaise, mNx, mBrk, mCnt, gNm, gTp, gsCons, gsNil, mCall, bind_ok, bind_er, out_ok, out_er, seq_nx, seq_rt, seq_er, seq_bk, seq_ct, only_nx, only_er, turn_nx, turn_ct, turn_bk, turn_rt, turn_er, fin_nx, fin_rt, fin_er, ne_ok, List.map_cons, List.map_nil, List.cons_append, List.nil_append, List.length_cons, List.length_nil, List.replicate_succ, List.replicate_zero, List.getElem?_cons_zero, List.getElem?_cons_succ, List.set_cons_zero, List.set_cons_succ, Nat.reduceAdd, Nat.reduceSub, Nat.reduceLT, Bool.not_true, Bool.not_false, Bool.false_eq_true, reduceIte, eq_self, decide_true, decide_false, Bool.true_and, Bool.false_and, Bool.and_true, Bool.and_false, Bool.or_true, Bool.true_or, Bool.or_false, Bool.false_or, if_true, if_false, mk1, fCel, h1, hs1]
  have hc2 : lstAt (s1 ++ [.lst [bk (1 + t) (l.map Rl.toD) 0]]) 1 = some (bks (1 + t) (l.map Rl.toD) 0) := by
    have z : lstAt (s1 ++ [.lst [bk (1 + t) (l.map Rl.toD) 0]]) s1.length = some [bk (1 + t) (l.map Rl.toD) 0] := lstAt_of at_push
    rw [hs1] at z
    exact z
  have S2 : Src (s1 ++ [.lst [bk (1 + t) (l.map Rl.toD) 0]]) 0 1 := by
    obtain ⟨dg, sd, st, q, q2⟩ := S1
    exact ⟨dg, sd, st, push_lst q, q2⟩
  obtain ⟨ρ4, s4, f4, J4⟩ := forL_inv (gd := []) (g := gNm 5) (body := m1) (I1 (is.map D.int) (1 + t) l 1) (fun _ _ _ _ => gd_nil) (step1 g hl n1 n4) (l.map Rl.toD) (ev1 (is.map D.int) (1 + t) (l.map Rl.toD) none) _ ⟨0, none, by rw [List.length_map, Nat.zero_add], rfl, rfl, hc2, S2, by rw [List.length_append, hs1]; rfl⟩
  obtain ⟨i, x5, i1, i2, rfl, hc4, S4, hs4⟩ := J4.ex
  have il : i = l.length := by simpa using i1
  subst il
  have p4 : st4 (ev1 (is.map D.int) (1 + t) (l.map Rl.toD) none) (s1 ++ [.lst [bk (1 + t) (l.map Rl.toD) 0]]) = .nx (ev1 (is.map D.int) (1 + t) (l.map Rl.toD) x5) s4 := by
    have er : iSq (mVar 3) (ev1 (is.map D.int) (1 + t) (l.map Rl.toD) none) (s1 ++ [.lst [bk (1 + t) (l.map Rl.toD) 0]]) = .ok (l.map Rl.toD, []) (s1 ++ [.lst [bk (1 + t) (l.map Rl.toD) 0]]) := by
      simp only [iSq, fDef, ent, mRet, mRetN, mSeq, mIf, mOrT, mAndT, mNotT, mTst, mArgs, aCons, aNil, mVar, mC, mUn, mBin, mChain, mAndV, mOrV, mNotV, mIfE, mSet, mAsg, mDrop, mRaise, mNx, mBrk, mCnt, gNm, gTp, gsCons, gsNil, mCall, bind_ok, bind_er, out_ok, out_er, seq_nx, seq_rt, seq_er, seq_bk, seq_ct, only_nx, only_er, turn_nx, turn_ct, turn_bk, turn_rt, turn_er, fin_nx, fin_rt, fin_er, ne_ok, List.map_cons, List.map_nil, List.cons_append, List.nil_append, List.length_cons, List.length_nil, List.replicate_succ, List.replicate_zero, List.getElem?_cons_zero, List.getElem?_cons_succ, List.set_cons_zero, List.set_cons_succ, Nat.reduceAdd, Nat.reduceSub, Nat.reduceLT, Bool.not_true, Bool.not_false, Bool.false_eq_true, reduceIte, eq_self, decide_true, decide_false, Bool.true_and, Bool.false_and, Bool.and_true, Bool.and_false, Bool.or_true, Bool.true_or, Bool.or_false, Bool.false_or, if_true, if_false]
    show mFor (iSq (mVar 3)) (gNm 5) m1 _ _ = _
    unfold mFor
    rw [er, out_ok]
    exact f4
  have p5 : st5 (ev1 (is.map D.int) (1 + t) (l.map Rl.toD) x5) s4 = .nx (ev2 (is.map D.int) (1 + t) (l.map Rl.toD) x5 none none none ((l.map Rl.toD).map (one (1 + t)))) s4 := by
    unfold st5
    simp only [mSet, single_ok g hl n1 n4 hc4, out_ok, List.set_cons_succ, List.set_cons_zero]
  have p6 : st6 (ev2 (is.map D.int) (1 + t) (l.map Rl.toD) x5 none none none ((l.map Rl.toD).map (one (1 + t)))) s4 = .nx (ev2 (is.map D.int) (1 + t) (l.map Rl.toD) x5 none none none ((l.map Rl.toD).map (one (1 + t)))) s4 := by
    unfold st6
    simp only [mIf, mNotT, mTst, mArgs, aCons, aNil, single_all g hl n1 n4, bind_ok, true_all, out_ok, Bool.not_true, Bool.false_eq_true, if_false, mNx]
  obtain ⟨ρ7, s7, f7, J7⟩ := forL_inv (gd := [(1, bks (1 + t) (l.map Rl.toD) l.length)]) (g := g2) (body := m2) (I2 (is.map D.int) (1 + t) l x5 ((l.map Rl.toD).map (one (1 + t)))) (fun r ρ s I => by
    obtain ⟨_, _, _, _, _, _, _, hc, _⟩ := I.ex
    exact gd_one.mpr (lstAt_some hc)) (step2 g hl n1 n4) (enD (bks (1 + t) (l.map Rl.toD) l.length)) (ev2 (is.map D.int) (1 + t) (l.map Rl.toD) x5 none none none ((l.map Rl.toD).map (one (1 + t)))) s4 ⟨0, none, none, none, by rw [enD_len, bks_len, Nat.zero_add], rfl, rfl, hc4, S4.mono (by omega)⟩
  obtain ⟨j, x7, x8, x9, j1, j2, rfl, hc7, S7⟩ := J7.ex
  have jl : j = l.length + 1 := by simpa using j1
  have p7 : st7 (ev2 (is.map D.int) (1 + t) (l.map Rl.toD) x5 none none none ((l.map Rl.toD).map (one (1 + t)))) s4 = .nx (ev2 (is.map D.int) (1 + t) (l.map Rl.toD) x5 x7 x8 x9 ((l.map Rl.toD).map (one (1 + t)))) s7 := by
    have er : iEn (aCons (mVar 4) (aNil)) (ev2 (is.map D.int) (1 + t) (l.map Rl.toD) x5 none none none ((l.map Rl.toD).map (one (1 + t)))) s4 = .ok (enD (bks (1 + t) (l.map Rl.toD) l.length), [(1, bks (1 + t) (l.map Rl.toD) l.length)]) s4 := by
      simp only [iEn, fDef, ent, mRet, mRetN, mSeq, mIf, mOrT, mAndT, mNotT, mTst, mArgs, aCons, aNil, mVar, mC, mUn, mBin, mChain, mAndV, mOrV, mNotV, mIfE, mSet, mAsg, mDrop, mRaise, mNx, mBrk, mCnt, gNm, gTp, gsCons, gsNil, mCall, bind_ok, bind_er, out_ok, out_er, seq_nx, seq_rt, seq_er, seq_bk, seq_ct, only_nx, only_er, turn_nx, turn_ct, turn_bk, turn_rt, turn_er, fin_nx, fin_rt, fin_er, ne_ok, List.map_cons, List.map_nil, List.cons_append, List.nil_append, List.length_cons, List.length_nil, List.replicate_succ, List.replicate_zero, List.getElem?_cons_zero, List.getElem?_cons_succ, List.set_cons_zero, List.set_cons_succ, Nat.reduceAdd, Nat.reduceSub, Nat.reduceLT, Bool.not_true, Bool.not_false, Bool.false_eq_true, reduceIte, eq_self, decide_true, decide_false, Bool.true_and, Bool.false_and, Bool.and_true, Bool.and_false, Bool.or_true, Bool.true_or, Bool.or_false, Bool.false_or, if_true, if_false, D.ls, hc4, Gd.at]
    show mFor (iEn (aCons (mVar 4) (aNil))) g2 m2 _ _ = _
    unfold mFor
    rw [er, out_ok]
    exact f7
  obtain ⟨u, s8, e8, u0, u1, S8, k8⟩ := take_spec S7 (by omega) (show (0 : Int) < 10 ^ 9 by decide) (by decide)
  have pow9 : ∀ s, oPow (.int 10) (.int 9) s = .ok (.int (10 ^ 9)) s := fun s => by
    unfold oPow
    simp
  have h9 : (9 : Nat) ≤ big := by decide
  have p8 : st8 (ev2 (is.map D.int) (1 + t) (l.map Rl.toD) x5 x7 x8 x9 ((l.map Rl.toD).map (one (1 + t)))) s7 = .nx (ev0 (some (.fl (is.map D.int))) (some (.ref 0)) (some (.int (1 + t))) (some (.fl (l.map Rl.toD))) (some (.ref 1)) x5 (some (.fl ((l.map Rl.toD).map (one (1 + t))))) x7 x8 x9 (some (.fl (wrongs u))) none) s8 := by
    unfold st8
    simp only [fDef, ent, mRet, mRetN, mSeq, mIf, mOrT, mAndT, mNotT, mTst, mArgs, aCons, aNil, mVar, mC, mUn, mBin, mChain, mAndV, mOrV, mNotV, mIfE, mSet, mAsg, mDrop, mRaise, mNx, mBrk, mCnt, gNm, gTp, gsCons, gsNil, mCall, bind_ok, bind_er, out_ok, out_er, seq_nx, seq_rt, seq_er, seq_bk, seq_ct, only_nx, only_er, turn_nx, turn_ct, turn_bk, turn_rt, turn_er, fin_nx, fin_rt, fin_er, ne_ok, List.map_cons, List.map_nil, List.cons_append, List.nil_append, List.length_cons, List.length_nil, List.replicate_succ, List.replicate_zero, List.getElem?_cons_zero, List.getElem?_cons_succ, List.set_cons_zero, List.set_cons_succ, Nat.reduceAdd, Nat.reduceSub, Nat.reduceLT, Bool.not_true, Bool.not_false, Bool.false_eq_true, reduceIte, eq_self, decide_true, decide_false, Bool.true_and, Bool.false_and, Bool.and_true, Bool.and_false, Bool.or_true, Bool.true_or, Bool.or_false, Bool.false_or, if_true, if_false, neg1, pow9, e8, add_int, fTup, fLst, h1, h9, wrongs]
  have lw : mLc [11] [11] (iSq (mVar 10)) (mYes) (mBin oEq (mCall 1 w__law_made (aCons (mVar 11) (aNil))) (mC (.str "BadBook"))) (ev0 (some (.fl (is.map D.int))) (some (.ref 0)) (some (.int (1 + t))) (some (.fl (l.map Rl.toD))) (some (.ref 1)) x5 (some (.fl ((l.map Rl.toD).map (one (1 + t))))) x7 x8 x9 (some (.fl (wrongs u))) none) s8 = .ok (.fl ((wrongs u).map fun _ => .bl true)) s8 := by
    refine lc_map (gd := []) (ds := wrongs u) (by simp only [iSq, fDef, ent, mRet, mRetN, mSeq, mIf, mOrT, mAndT, mNotT, mTst, mArgs, aCons, aNil, mVar, mC, mUn, mBin, mChain, mAndV, mOrV, mNotV, mIfE, mSet, mAsg, mDrop, mRaise, mNx, mBrk, mCnt, gNm, gTp, gsCons, gsNil, mCall, bind_ok, bind_er, out_ok, out_er, seq_nx, seq_rt, seq_er, seq_bk, seq_ct, only_nx, only_er, turn_nx, turn_ct, turn_bk, turn_rt, turn_er, fin_nx, fin_rt, fin_er, ne_ok, List.map_cons, List.map_nil, List.cons_append, List.nil_append, List.length_cons, List.length_nil, List.replicate_succ, List.replicate_zero, List.getElem?_cons_zero, List.getElem?_cons_succ, List.set_cons_zero, List.set_cons_succ, Nat.reduceAdd, Nat.reduceSub, Nat.reduceLT, Bool.not_true, Bool.not_false, Bool.false_eq_true, reduceIte, eq_self, decide_true, decide_false, Bool.true_and, Bool.false_and, Bool.and_true, Bool.and_false, Bool.or_true, Bool.true_or, Bool.or_false, Bool.false_or, if_true, if_false]) (show (9 : Nat) ≤ big by decide) gd_nil _ fun d m => ⟨_, rfl, ?_⟩
    have hw : w__law_made [d] s8 = .ok (.str "BadBook") s8 := by
      unfold w__law_made
      dsimp only
      rw [if_pos (wrongs_ok u0 d m)]
    simp only [wipeR, fDef, ent, mRet, mRetN, mSeq, mIf, mOrT, mAndT, mNotT, mTst, mArgs, aCons, aNil, mVar, mC, mUn, mBin, mChain, mAndV, mOrV, mNotV, mIfE, mSet, mAsg, mDrop, mRaise, mNx, mBrk, mCnt, gNm, gTp, gsCons, gsNil, mCall, bind_ok, bind_er, out_ok, out_er, seq_nx, seq_rt, seq_er, seq_bk, seq_ct, only_nx, only_er, turn_nx, turn_ct, turn_bk, turn_rt, turn_er, fin_nx, fin_rt, fin_er, ne_ok, List.map_cons, List.map_nil, List.cons_append, List.nil_append, List.length_cons, List.length_nil, List.replicate_succ, List.replicate_zero, List.getElem?_cons_zero, List.getElem?_cons_succ, List.set_cons_zero, List.set_cons_succ, Nat.reduceAdd, Nat.reduceSub, Nat.reduceLT, Bool.not_true, Bool.not_false, Bool.false_eq_true, reduceIte, eq_self, decide_true, decide_false, Bool.true_and, Bool.false_and, Bool.and_true, Bool.and_false, Bool.or_true, Bool.true_or, Bool.or_false, Bool.false_or, if_true, if_false, hw, BadBook_eq]
  have p9 : st9 (ev0 (some (.fl (is.map D.int))) (some (.ref 0)) (some (.int (1 + t))) (some (.fl (l.map Rl.toD))) (some (.ref 1)) x5 (some (.fl ((l.map Rl.toD).map (one (1 + t))))) x7 x8 x9 (some (.fl (wrongs u))) none) s8 = .rt (.bl true) s8 := by
    unfold st9
    simp only [mRet, mArgs, aCons, aNil, lw, bind_ok, true_all, out_ok]
  refine ⟨s8, ?_⟩
  have e : m_law (ev0 (some (.fl (is.map D.int))) none none none none none none none none none none none) [] = .rt (.bl true) s8 := by
    rw [law_split, sq p0, sq p1, sq p2, sq p3, sq p4, sq p5, sq p6, sq p7, sq p8, p9]
  exact congrArg Out.fin e
end LY
namespace LY
open PySem PySem.Spec PyProof.Rows L2
def D_is_integer : He.DefD := ⟨("is_integer", none), "is_integer", "is_integer", defArgs (top 14), defBody (top 14), defScope (top 14), [], []⟩
def D_is_below : He.DefD := ⟨("is_below", none), "is_below", "is_below", defArgs (top 15), defBody (top 15), defScope (top 15), [], []⟩
def D_is_rule : He.DefD := ⟨("is_rule", none), "is_rule", "is_rule", defArgs (top 16), defBody (top 16), defScope (top 16), [], []⟩
def D_RuleBook__init__ : He.DefD := ⟨("RuleBook", some "__init__"), "__init__", "RuleBook.__init__", defArgs (inCls 54 0), defBody (inCls 54 0), defScope (inCls 54 0), [.adr (He.dflAt ("RuleBook", some "__init__") 0)], []⟩
def D_RuleBook__add__ : He.DefD := ⟨("RuleBook", some "__add__"), "__add__", "RuleBook.__add__", defArgs (inCls 54 1), defBody (inCls 54 1), defScope (inCls 54 1), [], []⟩
def D_RuleBook__contains__ : He.DefD := ⟨("RuleBook", some "__contains__"), "__contains__", "RuleBook.__contains__", defArgs (inCls 54 3), defBody (inCls 54 3), defScope (inCls 54 3), [], []⟩
def D_RuleBook__len__ : He.DefD := ⟨("RuleBook", some "__len__"), "__len__", "RuleBook.__len__", defArgs (inCls 54 4), defBody (inCls 54 4), defScope (inCls 54 4), [], []⟩
def D_RuleBook__getitem__ : He.DefD := ⟨("RuleBook", some "__getitem__"), "__getitem__", "RuleBook.__getitem__", defArgs (inCls 54 5), defBody (inCls 54 5), defScope (inCls 54 5), [], []⟩
def D_RuleBooktold : He.DefD := ⟨("RuleBook", some "told"), "told", "RuleBook.told", defArgs (inCls 54 10), defBody (inCls 54 10), defScope (inCls 54 10), [], []⟩
def D__law_source : He.DefD := ⟨("_law_source", none), "_law_source", "_law_source", defArgs (top 56), defBody (top 56), defScope (top 56), [], []⟩
def D__law_take : He.DefD := ⟨("_law_take", none), "_law_take", "_law_take", defArgs (top 57), defBody (top 57), defScope (top 57), [], []⟩
def D__law_drawn_rules : He.DefD := ⟨("_law_drawn_rules", none), "_law_drawn_rules", "_law_drawn_rules", defArgs (top 58), defBody (top 58), defScope (top 58), [], []⟩
def D__law_name : He.DefD := ⟨("_law_name", none), "_law_name", "_law_name", defArgs (top 59), defBody (top 59), defScope (top 59), [], []⟩
def D__law_made : He.DefD := ⟨("_law_made", none), "_law_made", "_law_made", defArgs (top 60), defBody (top 60), defScope (top 60), [], []⟩
def D__law_at : He.DefD := ⟨("_law_at", none), "_law_at", "_law_at", defArgs (top 61), defBody (top 61), defScope (top 61), [], []⟩
def D__law_holds : He.DefD := ⟨("_law_holds", none), "_law_holds", "_law_holds", defArgs (top 62), defBody (top 62), defScope (top 62), [], []⟩
def D_law : He.DefD := ⟨("law", none), "law", "law", defArgs (top 63), defBody (top 63), defScope (top 63), [], []⟩
def hFn : List He.DefD := [D_is_integer, D_is_below, D_is_rule, D_RuleBook__init__, D_RuleBook__add__, D_RuleBook__contains__, D_RuleBook__len__, D_RuleBook__getitem__, D_RuleBooktold, D__law_source, D__law_take, D__law_drawn_rules, D__law_name, D__law_made, D__law_at, D__law_holds, D_law]
def hFa : List He.Fa := [.glo "RestError", .glo "BadBook", .glo "BadState", .glo "BadTree", .glo "NoNode", .glo "NoEnd", .glo "NoOneRest", .glo "TooMany", .glo "BadRule", .glo "RuleBook", .free "BadStep", .free "BadWay", .free "BadReader", .free "UnlikeBooks", .free "BadLine", .free "BadOrder", .free "NothingToUndo", .free "BadText", .free "BadCommand", .free "Live", .free "Desk", .free "ValueError", .free "all", .free "bool", .free "enumerate", .free "int", .free "isinstance", .free "len", .free "max", .free "min", .free "range", .free "tuple", .free "zip", .int "MOST_RULES" 12, .int "MOST_STATES" 4, .noat "RuleBook" "n", .noat "RuleBook" "rules", .mkr "RuleBook", .glo "is_integer", .glo "is_below", .glo "is_rule", .meth "RuleBook" "__init__", .meth "RuleBook" "__add__", .meth "RuleBook" "__contains__", .meth "RuleBook" "__len__", .meth "RuleBook" "__getitem__", .meth "RuleBook" "told", .glo "_law_source", .glo "_law_take", .glo "_law_drawn_rules", .glo "_law_name", .glo "_law_made", .glo "_law_at", .glo "_law_holds", .glo "law"]
def hEx (K : PySem.W.Frag) : Bool := fxB K [.RestError, .BadBook, .BadState, .BadTree, .NoNode, .NoEnd, .NoOneRest, .TooMany, .BadRule, .RuleBook] && (clsB K (He.ga K "RuleBook") && (PySem.W.fnIn K (He.ma K (He.ga K "RuleBook") "__getitem__") && (opB K (He.ga K "RuleBook") "add" && (emptyT K (He.dflAt ("RuleBook", some "__init__") 0 K)))))
abbrev hR : PySem.W.OpenRow := PySem.W.OpenLaw.row PySem.Challenge.rw_onerest_k76_rule_books_grow
abbrev hHk : PySem.W.Hook := hookX 6 hFa hFn hEx
def hOb (s : PySem.W.SharedT) : AlX := obsX 6 hFa hFn hEx (HandSHeadRun.getT s)
theorem hOb_eq (s : PySem.W.SharedT) : hOb s = hHk.obs s.abs := obsX_eq (HandSHeadRun.getT_eq s)
def hLoose : List Str := Str.ofString "_wall" :: Str.ofString "RestError" :: Str.ofString "BadBook" :: Str.ofString "BadState" :: Str.ofString "BadTree" :: Str.ofString "NoNode" :: Str.ofString "NoEnd" :: Str.ofString "NoOneRest" :: Str.ofString "TooMany" :: Str.ofString "BadRule" :: Str.ofString "MOST_STATES" :: Str.ofString "MOST_RULES" :: Str.ofString "is_integer" :: Str.ofString "is_below" :: Str.ofString "is_rule" :: Str.ofString "is_book" :: Str.ofString "need_book" :: Str.ofString "is_state" :: Str.ofString "firing_rules" :: Str.ofString "MOST_NODES" :: Str.ofString "is_tree_of" :: Str.ofString "need_tree" :: Str.ofString "with_states" :: Str.ofString "ranks_under" :: Str.ofString "ring_under" :: Str.ofString "ending_of" :: Str.ofString "need_end" :: Str.ofString "ways_with" :: Str.ofString "way_table" :: Str.ofString "line_results" :: Str.ofString "same_node_peaks" :: Str.ofString "child_peaks" :: Str.ofString "grandchild_peaks" :: Str.ofString "unlike_now" :: Str.ofString "unlike_below" :: Str.ofString "unlike_triples" :: Str.ofString "clashes_at" :: Str.ofString "least_clash" :: Str.ofString "need_settled" :: Str.ofString "identity" :: Str.ofString "composed" :: Str.ofString "first_numbers" :: Str.ofString "first_result" :: Str.ofString "place_reader" :: Str.ofString "read_nodes" :: Str.ofString "rest_of" :: Str.ofString "RuleBook" :: Str.ofString "_law_source" :: Str.ofString "_law_take" :: Str.ofString "_law_drawn_rules" :: Str.ofString "_law_name" :: Str.ofString "_law_made" :: Str.ofString "_law_at" :: Str.ofString "_law_holds" :: []
set_option maxHeartbeats 0 in
theorem hRun (w : World) : HandSHeadRun.RunEq hR (PySem.W.view hR.prog [63]) hHk hOb 20000 hLoose w := by
  intro os
  kernel_rfl
theorem hMem {f : He.Fa} (i : Nat) (h : hFa[i]? = some f) : f ∈ hFa := List.mem_of_getElem? h
theorem hTx {K : PySem.W.Frag} {h : Heap} {mg : Str → Option Value} (X : K.In h) (G : h.Ns mainGlobals mg) (c : SaysX hFa hFn hEx K) : TX K mg := by
  have e := c.more
  unfold hEx at e
  obtain ⟨e0, e⟩ := Bool.and_eq_true_iff.mp e
  obtain ⟨e1, e⟩ := Bool.and_eq_true_iff.mp e
  obtain ⟨e2, e⟩ := Bool.and_eq_true_iff.mp e
  obtain ⟨e3, e⟩ := Bool.and_eq_true_iff.mp e
  have e4 := e
  have glo : ∀ x, He.Fa.glo x ∈ hFa → mg x = some (.ref (He.ga K x)) := fun x m => He.glo_ok X G (c.fact m)
  have fre : ∀ x, He.Fa.free x ∈ hFa → mg x = none := fun x m => He.free_ok X G (c.fact m)
  have fx : FX K mg := fx_ok e0 (fun c m => by
    revert c
    simp only [List.forall_mem_cons, List.not_mem_nil, false_implies, implies_true, and_true]
    exact ⟨glo _ (hMem 0 rfl), glo _ (hMem 1 rfl), glo _ (hMem 2 rfl), glo _ (hMem 3 rfl), glo _ (hMem 4 rfl), glo _ (hMem 5 rfl), glo _ (hMem 6 rfl), glo _ (hMem 7 rfl), glo _ (hMem 8 rfl), glo _ (hMem 9 rfl)⟩) (fun c m => by
    cases c
    · exact absurd (by simp) m
    · exact absurd (by simp) m
    · exact absurd (by simp) m
    · exact absurd (by simp) m
    · exact absurd (by simp) m
    · exact fre "BadStep" (hMem 10 rfl)
    · exact absurd (by simp) m
    · exact fre "BadWay" (hMem 11 rfl)
    · exact absurd (by simp) m
    · exact fre "BadReader" (hMem 12 rfl)
    · exact fre "UnlikeBooks" (hMem 13 rfl)
    · exact absurd (by simp) m
    · exact fre "BadLine" (hMem 14 rfl)
    · exact fre "BadOrder" (hMem 15 rfl)
    · exact absurd (by simp) m
    · exact fre "NothingToUndo" (hMem 16 rfl)
    · exact fre "BadText" (hMem 17 rfl)
    · exact fre "BadCommand" (hMem 18 rfl)
    · exact absurd (by simp) m
    · exact fre "Live" (hMem 19 rfl)
    · exact fre "Desk" (hMem 20 rfl)
    )
  have a_RuleBook : ∀ C, mg "RuleBook" = some (.ref C) → C = He.ga K "RuleBook" := fun C m => by
    have z := (glo "RuleBook" (hMem 9 rfl))
    rw [z] at m
    cases m
    rfl
  have at_RuleBook : ∀ f ∈ CN.flds .RuleBook, NoAttr K (He.ga K "RuleBook") f := by
    simp only [CN.flds, List.forall_mem_cons, List.not_mem_nil, false_implies, implies_true, and_true]
    exact ⟨He.noat_ok (c.fact (hMem 35 rfl)), He.noat_ok (c.fact (hMem 36 rfl))⟩
  exact {
    fx := fx
    b_ValueError := fre "ValueError" (hMem 21 rfl)
    b_all := fre "all" (hMem 22 rfl)
    b_bool := fre "bool" (hMem 23 rfl)
    b_enumerate := fre "enumerate" (hMem 24 rfl)
    b_int := fre "int" (hMem 25 rfl)
    b_isinstance := fre "isinstance" (hMem 26 rfl)
    b_len := fre "len" (hMem 27 rfl)
    b_max := fre "max" (hMem 28 rfl)
    b_min := fre "min" (hMem 29 rfl)
    b_range := fre "range" (hMem 30 rfl)
    b_tuple := fre "tuple" (hMem 31 rfl)
    b_zip := fre "zip" (hMem 32 rfl)
    g_MOST_RULES := He.int_ok X G (c.fact (hMem 33 rfl))
    g_MOST_STATES := He.int_ok X G (c.fact (hMem 34 rfl))
    c_BadBook := ⟨_, (glo "BadBook" (hMem 1 rfl))⟩
    c_BadRule := ⟨_, (glo "BadRule" (hMem 8 rfl))⟩
    c_BadState := ⟨_, (glo "BadState" (hMem 2 rfl))⟩
    c_BadTree := ⟨_, (glo "BadTree" (hMem 3 rfl))⟩
    c_NoEnd := ⟨_, (glo "NoEnd" (hMem 5 rfl))⟩
    c_NoNode := ⟨_, (glo "NoNode" (hMem 4 rfl))⟩
    c_NoOneRest := ⟨_, (glo "NoOneRest" (hMem 6 rfl))⟩
    c_RestError := ⟨_, (glo "RestError" (hMem 0 rfl))⟩
    c_RuleBook := ⟨_, (glo "RuleBook" (hMem 9 rfl))⟩
    c_TooMany := ⟨_, (glo "TooMany" (hMem 7 rfl))⟩
    o_RuleBook := ⟨fun C m => (fx.obj .RuleBook C rfl m).cls, fun C m => by rw [a_RuleBook C m]; exact at_RuleBook⟩
    mk_RuleBook := ⟨fun C m => by
      rw [a_RuleBook C m]
      obtain ⟨z1, _, _, z4⟩ := He.mkr_ok (c.fact (hMem 37 rfl))
      exact ⟨z1, z4⟩⟩
    fn_RuleBook := fun f C m M => by
      rw [a_RuleBook C m] at M
      have z := (He.meth_ok (c.fact (hMem 45 rfl))).at_
      have z2 := M.at_
      rw [z] at z2
      cases z2
      exact e2
    op_RuleBook_add := fun C m => by rw [a_RuleBook C m]; exact e3 }
theorem hLaw {P : Program} {w : World} {K : PySem.W.Frag} {h : Heap} {mg : Str → Option Value} (X : K.In h) (G : h.Ns mainGlobals mg) (c : SaysX hFa hFn hEx K) : ∃ fd, FunD K "law" "law" (defArgs (top 63)) (defBody (top 63)) (defScope (top 63)) [] [] (He.ga K "law") fd ∧ mg "law" = some (.ref (He.ga K "law")) ∧ ∀ base, FnOk P w K mg base (L2.CX P w) 13 (He.ga K "law") fd ["script"] (spM K mg 1 (fDef 12 m_law)) := by
  have T := hTx X G c
  have e := c.more
  unfold hEx at e
  obtain ⟨e0, e⟩ := Bool.and_eq_true_iff.mp e
  obtain ⟨e1, e⟩ := Bool.and_eq_true_iff.mp e
  obtain ⟨e2, e⟩ := Bool.and_eq_true_iff.mp e
  obtain ⟨e3, e⟩ := Bool.and_eq_true_iff.mp e
  have e4 := e
  obtain ⟨fd0, F0⟩ := c.says.def_ 0 (d := D_is_integer) rfl
  obtain ⟨fd1, F1⟩ := c.says.def_ 1 (d := D_is_below) rfl
  obtain ⟨fd2, F2⟩ := c.says.def_ 2 (d := D_is_rule) rfl
  obtain ⟨fd3, F3⟩ := c.says.def_ 3 (d := D_RuleBook__init__) rfl
  obtain ⟨fd4, F4⟩ := c.says.def_ 4 (d := D_RuleBook__add__) rfl
  obtain ⟨fd5, F5⟩ := c.says.def_ 5 (d := D_RuleBook__contains__) rfl
  obtain ⟨fd6, F6⟩ := c.says.def_ 6 (d := D_RuleBook__len__) rfl
  obtain ⟨fd7, F7⟩ := c.says.def_ 7 (d := D_RuleBook__getitem__) rfl
  obtain ⟨fd8, F8⟩ := c.says.def_ 8 (d := D_RuleBooktold) rfl
  obtain ⟨fd9, F9⟩ := c.says.def_ 9 (d := D__law_source) rfl
  obtain ⟨fd10, F10⟩ := c.says.def_ 10 (d := D__law_take) rfl
  obtain ⟨fd11, F11⟩ := c.says.def_ 11 (d := D__law_drawn_rules) rfl
  obtain ⟨fd12, F12⟩ := c.says.def_ 12 (d := D__law_name) rfl
  obtain ⟨fd13, F13⟩ := c.says.def_ 13 (d := D__law_made) rfl
  obtain ⟨fd14, F14⟩ := c.says.def_ 14 (d := D__law_at) rfl
  obtain ⟨fd15, F15⟩ := c.says.def_ 15 (d := D__law_holds) rfl
  obtain ⟨fd16, F16⟩ := c.says.def_ 16 (d := D_law) rfl
  refine ⟨fd16, F16, He.glo_ok X G (c.fact (hMem 54 rfl)), fun base => ?_⟩
  have c_is_integer := fk_ref (m' := w_is_integer) (k_is_integer (P := P) (w := w) (base := base) T (He.glo_ok X G (c.fact (hMem 38 rfl))) F0 ) (fun ds s h1 h2 h3 => r_is_integer ds s h1 h2 h3)
  have c_is_below := fk_ref (m' := w_is_below) (k_is_below (P := P) (w := w) (base := base) T (He.glo_ok X G (c.fact (hMem 39 rfl))) F1 c_is_integer) (fun ds s h1 h2 h3 => r_is_below ds s h1 h2 h3)
  have c_is_rule := fk_ref (m' := w_is_rule) (k_is_rule (P := P) (w := w) (base := base) T (He.glo_ok X G (c.fact (hMem 40 rfl))) F2 c_is_below) (fun ds s h1 h2 h3 => r_is_rule ds s h1 h2 h3)
  have c_RuleBook__init__ := k_RuleBook__init__ (P := P) (w := w) (base := base) T (fun C m => by
      have z := He.glo_ok X G (c.fact (hMem 9 rfl))
      rw [z] at m
      cases m
      exact He.meth_ok (c.fact (hMem 41 rfl))) F3 (fun H α => RL.one (emptyT_ok e4 H α)) c_is_integer
  have c_RuleBook__init___1 := k_RuleBook__init___1 (P := P) (w := w) (base := base) T (fun C m => by
      have z := He.glo_ok X G (c.fact (hMem 9 rfl))
      rw [z] at m
      cases m
      exact He.meth_ok (c.fact (hMem 41 rfl))) F3 (fun H α => RL.one (emptyT_ok e4 H α)) c_is_integer
  have c_RuleBook__add__ := fm_ref (m' := w_RuleBook__add__) (k_RuleBook__add__ (P := P) (w := w) (base := base) T (fun C m => by
      have z := He.glo_ok X G (c.fact (hMem 9 rfl))
      rw [z] at m
      cases m
      exact He.meth_ok (c.fact (hMem 42 rfl))) F4 r_mk_RuleBook_1 c_RuleBook__init___1 c_is_rule) (fun ds s h1 h2 h3 => r_RuleBook__add__ ds s h1 h2 h3)
  have c_RuleBook__contains__ := fm_ref (m' := w_RuleBook__contains__) (k_RuleBook__contains__ (P := P) (w := w) (base := base) T (fun C m => by
      have z := He.glo_ok X G (c.fact (hMem 9 rfl))
      rw [z] at m
      cases m
      exact He.meth_ok (c.fact (hMem 43 rfl))) F5 c_is_rule) (fun ds s h1 h2 h3 => r_RuleBook__contains__ ds s h1 h2 h3)
  have c_RuleBook__len__ := fm_ref (m' := w_RuleBook__len__) (k_RuleBook__len__ (P := P) (w := w) (base := base) T (fun C m => by
      have z := He.glo_ok X G (c.fact (hMem 9 rfl))
      rw [z] at m
      cases m
      exact He.meth_ok (c.fact (hMem 44 rfl))) F6 ) (fun ds s h1 h2 h3 => r_RuleBook__len__ ds s h1 h2 h3)
  have c_RuleBook__getitem__ := fm_ref (m' := w_RuleBook__getitem__) (k_RuleBook__getitem__ (P := P) (w := w) (base := base) T (fun C m => by
      have z := He.glo_ok X G (c.fact (hMem 9 rfl))
      rw [z] at m
      cases m
      exact He.meth_ok (c.fact (hMem 45 rfl))) F7 c_is_below) (fun ds s h1 h2 h3 => r_RuleBook__getitem__ ds s h1 h2 h3)
  have c_RuleBooktold := fm_ref (m' := w_RuleBooktold) (k_RuleBooktold (P := P) (w := w) (base := base) T (fun C m => by
      have z := He.glo_ok X G (c.fact (hMem 9 rfl))
      rw [z] at m
      cases m
      exact He.meth_ok (c.fact (hMem 46 rfl))) F8 ) (fun ds s h1 h2 h3 => r_RuleBooktold ds s h1 h2 h3)
  have c__law_source := fk_ref (m' := w__law_source) (k__law_source (P := P) (w := w) (base := base) T (He.glo_ok X G (c.fact (hMem 47 rfl))) F9 ) (fun ds s h1 h2 h3 => r__law_source ds s h1 h2 h3)
  have c__law_take := fk_ref (m' := w__law_take) (k__law_take (P := P) (w := w) (base := base) T (He.glo_ok X G (c.fact (hMem 48 rfl))) F10 ) (fun ds s h1 h2 h3 => r__law_take ds s h1 h2 h3)
  have c__law_drawn_rules := fk_ref (m' := w__law_drawn_rules) (k__law_drawn_rules (P := P) (w := w) (base := base) T (He.glo_ok X G (c.fact (hMem 49 rfl))) F11 c__law_take c__law_source) (fun ds s h1 h2 h3 => (fun ds s _ _ _ => pick_ref _ _ ds s) ds s h1 h2 h3)
  have c__law_name := fk_ref (m' := w__law_name) (k__law_name (P := P) (w := w) (base := base) T (He.glo_ok X G (c.fact (hMem 50 rfl))) F12 ) (fun ds s h1 h2 h3 => r__law_name ds s h1 h2 h3)
  have c__law_made := fk_ref (m' := w__law_made) (k__law_made (P := P) (w := w) (base := base) T (He.glo_ok X G (c.fact (hMem 51 rfl))) F13 c__law_name r_mk_RuleBook c_RuleBook__init__) (fun ds s h1 h2 h3 => r__law_made ds s h1 h2 h3)
  have c__law_at := fk_ref (m' := w__law_at) (k__law_at (P := P) (w := w) (base := base) T (He.glo_ok X G (c.fact (hMem 52 rfl))) F14 c__law_name c_RuleBook__getitem__) (fun ds s h1 h2 h3 => r__law_at ds s h1 h2 h3)
  have c__law_holds := fk_ref (m' := w__law_holds) (k__law_holds (P := P) (w := w) (base := base) T (He.glo_ok X G (c.fact (hMem 53 rfl))) F15 c_RuleBook__getitem__ c_RuleBook__contains__ c_RuleBooktold c_RuleBook__len__) (fun ds s h1 h2 h3 => r__law_holds ds s h1 h2 h3)
  exact k_law (P := P) (w := w) (base := base) T F16 c__law_made c__law_take c__law_at c__law_holds c_RuleBook__add__ c_RuleBook__contains__ r_mk_RuleBook c_RuleBook__init__ c__law_drawn_rules c__law_source
theorem hEnd {P : Program} {w : World} {K : PySem.W.Frag} {h : Heap} {mg : Str → Option Value} {fa : Addr} (X : K.In h) (G : h.Ns mainGlobals mg) (hmg : mg ("law" : Str) = some (.ref fa)) (c : SaysX hFa hFn hEx K) :
    ∃ (K : PySem.W.Frag) (fd : FuncData) (sp : Sp), K.In h ∧ (∀ (s : Shared) (u : Value), BindsTo s fd ⟨[u], []⟩ [("script", u)]) ∧ (∀ (H : Hp) (a : Addr) (ns : List Int), ns.length ≤ 63 → Only H → SqL K H a (ns.map V.int) → sp [.ref a] H (fun v _ => v = .bl true) fun _ _ _ => False) ∧
      ∀ base : Heap, K.In base → base.Ns mainGlobals mg → FnOk P w K mg base (CXw P) 13 fa fd ["script"] sp := by
  obtain ⟨fd, F, hm, FL⟩ := hLaw (P := P) (w := w) X G c
  have e := hmg.symm.trans hm
  cases e
  have b := FunD.bindsA (ps := ["script"]) F fun _ _ _ _ _ _ us hl => match us, hl with | [_], _ => rfl
  refine ⟨K, fd, spM K mg 1 (fDef 12 m_law), X, fun s v => b s [v] rfl, fun H a ns hl hO hS => ?_, fun base _ _ => fnok_w (FL base)⟩
  · obtain ⟨s', e⟩ := law_true hl
    refine ⟨rfl, ⟨[], []⟩, [], [.fl (ns.map D.int)], ⟨rfl, List.nodup_nil, fun _ m => (nomatch m), fun _ m => m.elim (fun z => nomatch z) (fun z => nomatch z), fun _ _ _ e => (by cases e)⟩, RL.one (ints_rd hS), ?_⟩
    rw [e]
    intro α' H' v g st rd
    exact rd.bl_inv
end LY
open PySem PySem.W PySem.Calls PyProof.Rows
theorem PySem.Challenge.cw_onerest_k76_rule_books_grow_holds : PySem.Challenge.rw_onerest_k76_rule_books_grow.Holds := by
  w_on; o_law
  refine HandSHeadRun.head_any (r := OpenLaw.row PySem.Challenge.rw_onerest_k76_rule_books_grow) (q := view (OpenLaw.row PySem.Challenge.rw_onerest_k76_rule_books_grow).prog [63]) (H := LY.hHk) (ob := LY.hOb) (M := 20000) (loose := LY.hLoose) (d := HandSHeadRun.topDef (OpenLaw.row PySem.Challenge.rw_onerest_k76_rule_books_grow).prog 63) (kwd := []) LY.hOb_eq
    (by kernel_rfl) (fun s => by kernel_rfl) LY.hRun (by kernel_rfl) (by kernel_rfl) (by kernel_rfl) (by rfl) (by first | assumption | decide +kernel) (by decide +kernel) ⟨rfl, rfl, rfl, rfl, rfl, by decide +kernel⟩ ?hw ?hc
  case hw => w_witness2
  case hc =>
    refine L2.walk_ofE (l := PySem.Challenge.rw_onerest_k76_rule_books_grow) (n := 63) (k := 13) (x := "script") (CX := LY.CXw PySem.Challenge.rw_onerest_k76_rule_books_grow.prog) rfl (by decide) (by kernel_rfl) ⟨rfl, by decide, by decide⟩ ?F LY.cxw_no
    intro w mg fa h Y G hmg0
    obtain ⟨K, KX, c⟩ := Y
    have hmg : mg ("law" : PySem.Str) = some (.ref fa) := by
      have e : (HandSHeadRun.topDef (OpenLaw.row PySem.Challenge.rw_onerest_k76_rule_books_grow).prog 63).name = ("law" : PySem.Str) := by kernel_rfl
      rw [← e]
      exact hmg0
    exact LY.hEnd KX G hmg c
