import PyProof.Rows.All
import Wide.All
import OpenK.AllK
import Wide.FinOn
import PySem.Challenge.RW_nu0153_01
set_option Elab.async false
set_option maxRecDepth 100000

section
set_option linter.unusedVariables false
open PySem PySem.W PyProof.Rows
namespace Mine

/-- pure data -/
inductive D where
  | none | bool (b : Bool) | int (i : Int) | str (s : Str)
  | tup (ds : List D) | list (ds : List D)
  | inst (C : Addr) (fs : List (Str × D))
  | rng (a b : Int)
  | raw (v : Value)

abbrev tupO (vs : List Value) (n : Nat) : Obj := { cls := .type "tuple", data := .seq vs.toArray n }

mutual
/-- value v bears the data d at heap h; nothing of it lies at an address of X -/
inductive Rep (X : Addr → Prop) (h : Heap) : Value → D → Prop
  | none : Rep X h .none .none
  | bool (b : Bool) : Rep X h (.bool b) (.bool b)
  | int (i : Int) (t : Tok) : Rep X h (.int i t) (.int i)
  | str (s : Str) (t : Tok) : Rep X h (.str s t) (.str s)
  | tup {a : Addr} {vs : List Value} {n : Nat} {ds : List D} : ¬ X a → h.get? a = some (tupO vs n) → RepAll X h vs ds → Rep X h (.ref a) (.tup ds)
  | list {a : Addr} {vs : List Value} {n : Nat} {ds : List D} : ¬ X a → h.get? a = some (listOf vs.toArray n) → RepAll X h vs ds → Rep X h (.ref a) (.list ds)
  | inst {a dx C : Addr} {es : List DictEntry} {n : Nat} {fs : List (Str × D)} : ¬ X a → ¬ X dx → h.get? a = some (instObj C dx) → h.get? dx = some (dictOf es n) →
      RepFs X h es fs → Rep X h (.ref a) (.inst C fs)
  | rng {r : Addr} {a b : Int} {t u v : Tok} : ¬ X r → IsRange h r a b 1 t u v → Rep X h (.ref r) (.rng a b)
  | raw (v : Value) : Rep X h v (.raw v)
inductive RepAll (X : Addr → Prop) (h : Heap) : List Value → List D → Prop
  | nil : RepAll X h [] []
  | cons {v : Value} {vs : List Value} {d : D} {ds : List D} : Rep X h v d → RepAll X h vs ds → RepAll X h (v :: vs) (d :: ds)
inductive RepFs (X : Addr → Prop) (h : Heap) : List DictEntry → List (Str × D) → Prop
  | nil : RepFs X h [] []
  | cons {hs : Int} {x : Str} {t : Tok} {v : Value} {es : List DictEntry} {d : D} {fs : List (Str × D)} : Rep X h v d → RepFs X h es fs → RepFs X h (⟨hs, .str x t, v⟩ :: es) ((x, d) :: fs)
end

section
variable {X Y : Addr → Prop} {h h' : Heap}
theorem Rep.mono {v : Value} {d : D} (r : Rep X h v d) (hx : ∀ a, Y a → ∀ o, h.get? a = some o → X a) (hk : ∀ b o, ¬ X b → h.get? b = some o → h'.get? b = some o) : Rep Y h' v d :=
  Rep.rec (motive_1 := fun v d _ => Rep Y h' v d) (motive_2 := fun vs ds _ => RepAll Y h' vs ds) (motive_3 := fun es fs _ => RepFs Y h' es fs)
    .none .bool .int .str (fun n e _ r => .tup (fun y => n (hx _ y _ e)) (hk _ _ n e) r) (fun n e _ r => .list (fun y => n (hx _ y _ e)) (hk _ _ n e) r)
    (fun n m e f _ r => .inst (fun y => n (hx _ y _ e)) (fun y => m (hx _ y _ f)) (hk _ _ n e) (hk _ _ m f) r) (fun n e => .rng (fun y => n (hx _ y _ e)) (hk _ _ n e)) .raw .nil (fun _ _ a r => .cons a r) .nil (fun _ _ a r => .cons a r) r
theorem RepAll.mono {vs : List Value} {ds : List D} (r : RepAll X h vs ds) (hx : ∀ a, Y a → ∀ o, h.get? a = some o → X a) (hk : ∀ b o, ¬ X b → h.get? b = some o → h'.get? b = some o) : RepAll Y h' vs ds :=
  RepAll.rec (motive_1 := fun v d _ => Rep Y h' v d) (motive_2 := fun vs ds _ => RepAll Y h' vs ds) (motive_3 := fun es fs _ => RepFs Y h' es fs)
    .none .bool .int .str (fun n e _ r => .tup (fun y => n (hx _ y _ e)) (hk _ _ n e) r) (fun n e _ r => .list (fun y => n (hx _ y _ e)) (hk _ _ n e) r)
    (fun n m e f _ r => .inst (fun y => n (hx _ y _ e)) (fun y => m (hx _ y _ f)) (hk _ _ n e) (hk _ _ m f) r) (fun n e => .rng (fun y => n (hx _ y _ e)) (hk _ _ n e)) .raw .nil (fun _ _ a r => .cons a r) .nil (fun _ _ a r => .cons a r) r
theorem RepFs.mono {es : List DictEntry} {fs : List (Str × D)} (r : RepFs X h es fs) (hx : ∀ a, Y a → ∀ o, h.get? a = some o → X a) (hk : ∀ b o, ¬ X b → h.get? b = some o → h'.get? b = some o) : RepFs Y h' es fs :=
  RepFs.rec (motive_1 := fun v d _ => Rep Y h' v d) (motive_2 := fun vs ds _ => RepAll Y h' vs ds) (motive_3 := fun es fs _ => RepFs Y h' es fs)
    .none .bool .int .str (fun n e _ r => .tup (fun y => n (hx _ y _ e)) (hk _ _ n e) r) (fun n e _ r => .list (fun y => n (hx _ y _ e)) (hk _ _ n e) r)
    (fun n m e f _ r => .inst (fun y => n (hx _ y _ e)) (fun y => m (hx _ y _ f)) (hk _ _ n e) (hk _ _ m f) r) (fun n e => .rng (fun y => n (hx _ y _ e)) (hk _ _ n e)) .raw .nil (fun _ _ a r => .cons a r) .nil (fun _ _ a r => .cons a r) r
end

section
variable {X : Addr → Prop} {h h' : Heap} {v : Value} {d : D} {vs ws : List Value} {ds es : List D}
theorem Rep.keeps (r : Rep X h v d) (hk : ∀ b o, h.get? b = some o → h'.get? b = some o) : Rep X h' v d := r.mono (fun _ y _ _ => y) fun b o _ e => hk b o e
theorem RepAll.keeps (r : RepAll X h vs ds) (hk : ∀ b o, h.get? b = some o → h'.get? b = some o) : RepAll X h' vs ds := r.mono (fun _ y _ _ => y) fun b o _ e => hk b o e
theorem RepAll.length (r : RepAll X h vs ds) : vs.length = ds.length := by
  induction vs generalizing ds with
  | nil => cases r; rfl
  | cons v vs ih =>
    cases r with
    | cons _ r => rw [List.length_cons, List.length_cons, ih r]
theorem RepAll.append (a : RepAll X h vs ds) (b : RepAll X h ws es) : RepAll X h (vs ++ ws) (ds ++ es) := by
  induction vs generalizing ds with
  | nil => cases a; exact b
  | cons v vs ih =>
    cases a with
    | cons a r => exact .cons a (ih r)
theorem RepAll.one (a : Rep X h v d) : RepAll X h [v] [d] := .cons a .nil
theorem RepAll.get (r : RepAll X h vs ds) {k : Nat} {e : D} (hk : ds[k]? = some e) : ∃ v, vs[k]? = some v ∧ Rep X h v e := by
  induction vs generalizing ds k with
  | nil => cases r; cases hk
  | cons v vs ih =>
    cases r with
    | cons a r =>
      cases k with
      | zero => cases hk; exact ⟨v, rfl, a⟩
      | succ k => exact ih r hk
theorem RepAll.reverse (r : RepAll X h vs ds) : RepAll X h vs.reverse ds.reverse := by
  induction vs generalizing ds with
  | nil => cases r; exact .nil
  | cons v vs ih =>
    cases r with
    | cons a r => rw [List.reverse_cons, List.reverse_cons]; exact (ih r).append (.one a)
theorem RepAll.take (r : RepAll X h vs ds) (k : Nat) : RepAll X h (vs.take k) (ds.take k) := by
  induction vs generalizing ds k with
  | nil => cases r; simp; exact .nil
  | cons v vs ih =>
    cases r with
    | cons a r =>
      cases k with
      | zero => exact .nil
      | succ k => exact .cons a (ih r k)
theorem RepAll.drop (r : RepAll X h vs ds) (k : Nat) : RepAll X h (vs.drop k) (ds.drop k) := by
  induction vs generalizing ds k with
  | nil => cases r; simp; exact .nil
  | cons v vs ih =>
    cases r with
    | cons a r =>
      cases k with
      | zero => exact .cons a r
      | succ k => exact ih r k
end

/-- a list of ints as data -/
abbrev nums (ns : List Int) : List D := ns.map .int
theorem RepAll.intsAre {X : Addr → Prop} {h : Heap} {vs : List Value} {ns : List Int} : RepAll X h vs (nums ns) → IntsAre vs ns := by
  induction ns generalizing vs with
  | nil => intro r; cases r; exact .nil
  | cons n ns ih =>
    intro r
    cases r with
    | cons a r => cases a; exact .cons _ _ (ih r)
theorem len1 {α : Type} {l : List α} (h : l.length = 1) : ∃ a, l = [a] := List.length_eq_one_iff.mp h
theorem len2 {α : Type} {l : List α} (h : l.length = 2) : ∃ a b, l = [a, b] := by
  cases l with
  | nil => cases h
  | cons a l => obtain ⟨b, rfl⟩ := len1 (Nat.succ.inj h); exact ⟨a, b, rfl⟩
theorem len3 {α : Type} {l : List α} (h : l.length = 3) : ∃ a b c, l = [a, b, c] := by
  cases l with
  | nil => cases h
  | cons a l => obtain ⟨b, c, rfl⟩ := len2 (Nat.succ.inj h); exact ⟨a, b, c, rfl⟩
theorem len4 {α : Type} {l : List α} (h : l.length = 4) : ∃ a b c d, l = [a, b, c, d] := by
  cases l with
  | nil => cases h
  | cons a l => obtain ⟨b, c, d, rfl⟩ := len3 (Nat.succ.inj h); exact ⟨a, b, c, d, rfl⟩
theorem len5 {α : Type} {l : List α} (h : l.length = 5) : ∃ a b c d e, l = [a, b, c, d, e] := by
  cases l with
  | nil => cases h
  | cons a l => obtain ⟨b, c, d, e, rfl⟩ := len4 (Nat.succ.inj h); exact ⟨a, b, c, d, e, rfl⟩
theorem RepAll.of_ints {X : Addr → Prop} {h : Heap} : ∀ {vs : List Value} {ns : List Int}, IntsAre vs ns → RepAll X h vs (nums ns)
  | _, _, .nil => .nil
  | _, _, .cons _ _ r => .cons (.int _ _) (RepAll.of_ints r)

end Mine
end

section
set_option linter.unusedVariables false
open PySem PySem.W PyProof.Rows
namespace Mine

/-- the world as the pure operations see it: the addresses of X are alive, the top's heap h0 is kept -/
structure PC (h0 : Heap) (X : Addr → Prop) (h : Heap) : Prop where
  live : ∀ a, X a → ∃ o, h.get? a = some o
  base : ∀ b o, h0.get? b = some o → h.get? b = some o
theorem PC.keeps {h0 h h' : Heap} {X : Addr → Prop} (p : PC h0 X h) (hk : ∀ b o, h.get? b = some o → h'.get? b = some o) : PC h0 X h' :=
  ⟨fun a x => let ⟨o, e⟩ := p.live a x; ⟨o, hk a o e⟩, fun b o e => hk b o (p.base b o e)⟩
theorem PC.new {h0 h : Heap} {X : Addr → Prop} (p : PC h0 X h) : ¬ X h.objs.size := fun x => let ⟨_, e⟩ := p.live _ x; absurd (Heap.lt_size e) (Nat.lt_irrefl _)

/-- room: n more levels of calls -/
structure Lv (n : Nat) (A : Around) : Prop where
  hd : A.handled = none
  depth : A.depth + 8 * n ≤ 990
  units : A.units + 200 * n ≤ 9000

/-- all objects are kept -/
inductive Kp (s s' : Shared) : Prop
  | mk (h' : Heap) (tk : Nat) (e : s' = { s with heap := h', toks := tk }) (k : ∀ b o, s.heap.get? b = some o → h'.get? b = some o) : Kp s s'
/-- keeps all but the object at p -/
inductive KeepsBut (p : Option Addr) (s s' : Shared) : Prop
  | mk (h' : Heap) (tk : Nat) (e : s' = { s with heap := h', toks := tk }) (k : ∀ b o, p ≠ some b → s.heap.get? b = some o → h'.get? b = some o) : KeepsBut p s s'
theorem Kp.refl' (s : Shared) : Kp s s := ⟨_, _, rfl, fun _ _ e => e⟩
theorem Kp.heap {s s' : Shared} (k : Kp s s') : ∀ b o, s.heap.get? b = some o → s'.heap.get? b = some o := by
  obtain ⟨h, tk, rfl, hk⟩ := k; exact hk
theorem Kp.trans' {s s' s'' : Shared} (k : Kp s s') (l : Kp s' s'') : Kp s s'' := by
  obtain ⟨h, tk, rfl, hk⟩ := k
  obtain ⟨h', tk', rfl, hk'⟩ := l
  exact ⟨h', tk', rfl, fun b o e => hk' b o (hk b o e)⟩
theorem Kp.but {s s' : Shared} (p : Option Addr) (k : Kp s s') : KeepsBut p s s' := by
  obtain ⟨h, tk, rfl, hk⟩ := k
  exact ⟨h, tk, rfl, fun b o _ e => hk b o e⟩
theorem KeepsBut.refl (p : Option Addr) (s : Shared) : KeepsBut p s s := (Kp.refl' s).but p
theorem KeepsBut.trans {p : Option Addr} {s s' s'' : Shared} (k : KeepsBut p s s') (l : KeepsBut p s' s'') : KeepsBut p s s'' := by
  obtain ⟨h, tk, rfl, hk⟩ := k
  obtain ⟨h', tk', rfl, hk'⟩ := l
  exact ⟨h', tk', rfl, fun b o n e => hk' b o n (hk b o n e)⟩
theorem KeepsBut.heap {p : Option Addr} {s s' : Shared} (k : KeepsBut p s s') : ∀ b o, p ≠ some b → s.heap.get? b = some o → s'.heap.get? b = some o := by
  obtain ⟨h, tk, rfl, hk⟩ := k; exact hk
theorem KeepsBut.none {s s' : Shared} (k : KeepsBut none s s') : Kp s s' := by
  obtain ⟨h, tk, rfl, hk⟩ := k
  exact ⟨h, tk, rfl, fun b o e => hk b o (by simp) e⟩

/-- the pure part of a frame -/
structure Cx where
  w : World
  A : Around
  env : Env
  s0 : Shared
  C : Addr → Option Obj
  X : Addr → Prop
  pen : Option Addr
  owns : Bool := true
/-- what is known of the frame's names, its one list under way, the pen's draws -/
structure S where
  vars : List (Str × D)
  own : Option (Addr × List D) := none
  cnt : Nat := 0

def XX (X : Addr → Prop) (own : Option (Addr × List D)) : Addr → Prop := fun a => X a ∨ ∃ ds, own = some (a, ds)
theorem XX_none (X : Addr → Prop) : XX X none = X := by
  funext a; apply propext
  constructor
  · rintro (x | ⟨_, e⟩); exact x; cases e
  · exact .inl

structure CxOK (h0 : Heap) (n : Nat) (cx : Cx) : Prop where
  lv : Lv n cx.A
  base : ∀ b o, h0.get? b = some o → cx.C b = some o
  kind : cx.env.scope.kind = .function
  glob : cx.env.globals = mainGlobals
  blt : cx.env.builtins = builtinsNs
  LX : cx.X cx.env.locals
  LC : cx.C cx.env.locals = none
  cells : cx.owns = true → ∀ x c, cx.env.kindOf x = some .cell → cx.env.cells.lookup x = some c → cx.X c ∧ cx.C c = none ∧ ∀ y, cx.env.cells.lookup y = some c → y = x
  penX : ∀ p, cx.pen = some p → cx.X p ∧ cx.C p = none
  cellsX : ∀ x c, cx.env.cells.lookup x = some c → cx.X c

def VarAt (env : Env) (h : Heap) (m : Str → Option Value) (x : Str) (v : Value) : Prop :=
  (env.kindOf x = some .local ∧ m x = some v) ∨
    ((env.kindOf x = some .cell ∨ env.kindOf x = some .free) ∧ ∃ c, env.cells.lookup x = some c ∧ h.IsCell c (some v))

inductive PenOK (X : Addr → Prop) (p : Addr) (n : Nat) (h : Heap) : Prop
  | mk (vc : Value) (g st k : Int) (tg ts tk : Tok) (ns : List Int) (nn : Nat) (a : h.get? p = some (listOf [vc, .int g tg, .int st ts, .int k tk].toArray nn)) (b : Rep X h vc (.list (nums ns))) 
    (l : ns.length ≤ 63 ∧ 0 ≤ st ∧ st < 2147483647 ∧ 0 ≤ k ∧ k ≤ n) : PenOK X p n h

structure St (cx : Cx) (S : S) (s : Shared) : Prop where
  rest : ∃ h tk, s = { cx.s0 with heap := h, toks := tk }
  keep : ∀ b o, cx.C b = some o → s.heap.get? b = some o
  live : ∀ a, cx.X a → ∃ o, s.heap.get? a = some o
  ns : ∃ m, s.heap.Ns cx.env.locals m ∧ ∀ x d, S.vars.lookup x = some d → ∃ v, VarAt cx.env s.heap m x v ∧ Rep (XX cx.X S.own) s.heap v d
  cells : cx.owns = true → ∀ x c, cx.env.kindOf x = some .cell → cx.env.cells.lookup x = some c → ∃ v, s.heap.IsCell c v
  own : ∀ l ds, S.own = some (l, ds) → cx.C l = none ∧ cx.pen ≠ some l ∧ ∃ vs n, s.heap.get? l = some (listOf vs.toArray n) ∧ RepAll (XX cx.X S.own) s.heap vs ds
  pen : ∀ p, cx.pen = some p → PenOK (XX cx.X S.own) p S.cnt s.heap

theorem VarAt.keeps {env : Env} {h h' : Heap} {m : Str → Option Value} {x : Str} {v : Value} (a : VarAt env h m x v)
    (hk : ∀ c, h.IsCell c (some v) → h'.IsCell c (some v)) : VarAt env h' m x v := by
  rcases a with a | ⟨a, c, e, q⟩
  · exact .inl a
  · exact .inr ⟨a, c, e, hk c q⟩

section
variable {h0 : Heap} {cx : Cx} {n : Nat} {S₀ : S} {s s' : Shared}
theorem St.liveXX (t : St cx S₀ s) : ∀ a, XX cx.X S₀.own a → ∃ o, s.heap.get? a = some o := by
  rintro a (x | ⟨ds, e⟩)
  · exact t.live a x
  · obtain ⟨_, _, vs, n, q, _⟩ := t.own a ds e
    exact ⟨_, q⟩
theorem St.pc (c : CxOK h0 n cx) (t : St cx S₀ s) : PC h0 (XX cx.X S₀.own) s.heap := ⟨t.liveXX, fun b o e => t.keep b o (c.base b o e)⟩
theorem IsCell.ne_list {h : Heap} {c l : Addr} {v : Option Value} {vs : Array Value} {n : Nat} (a : h.IsCell c v) (e : h.get? l = some (listOf vs n)) : c ≠ l := by
  rintro rfl
  obtain ⟨o, ho, hd⟩ := a
  rw [e] at ho; cases ho; cases hd
theorem Ns.ne_list {h : Heap} {L l : Addr} {m : Str → Option Value} {vs : Array Value} {n : Nat} (a : h.Ns L m) (e : h.get? l = some (listOf vs n)) : L ≠ l := by
  rintro rfl
  obtain ⟨o, es, ep, ho, hd, _⟩ := a
  rw [e] at ho; cases ho; cases hd
theorem Ns.ne_cell {h : Heap} {L c : Addr} {m : Str → Option Value} {v : Option Value} (a : h.Ns L m) (b : h.IsCell c v) : L ≠ c := by
  rintro rfl
  obtain ⟨o, es, ep, ho, hd, _⟩ := a
  obtain ⟨o', ho', hd'⟩ := b
  rw [ho] at ho'; cases ho'; rw [hd] at hd'; cases hd'

/-- the state is kept by what changes the pen's list alone, the pen being well behind -/
theorem St.keepsBut (t : St cx S₀ s) (c : CxOK h0 n cx) (k : KeepsBut cx.pen s s') (cnt : Nat)
    (hp : ∀ p, cx.pen = some p → PenOK (XX cx.X S₀.own) p cnt s'.heap) : St cx { S₀ with cnt := cnt } s' := by
  obtain ⟨h', tk, rfl, hk⟩ := k
  obtain ⟨h, tk', rfl⟩ := t.rest
  have hpl : ∀ p, cx.pen = some p → ∃ vs nn, ({ cx.s0 with heap := h, toks := tk' } : Shared).heap.get? p = some (listOf vs nn) := fun p e => by
    obtain ⟨_, _, _, _, _, _, _, _, _, q, _⟩ := t.pen p e
    exact ⟨_, _, q⟩
  have hcell : ∀ c v, h.IsCell c v → h'.IsCell c v := fun c v ⟨o, ho, hd⟩ => ⟨o, hk c o (fun e => by
    obtain ⟨vs, nn, q⟩ := hpl c e
    exact IsCell.ne_list ⟨o, ho, hd⟩ q rfl) ho, hd⟩
  have hxp : ∀ b, ¬ XX cx.X S₀.own b → cx.pen ≠ some b := fun b nx e => nx (.inl (c.penX b e).1)
  refine ⟨⟨h', tk, rfl⟩, fun b o e => ?_, fun a x => ?_, ?_, fun ho x cc h1 h2 => ?_, fun l ds e => ?_, fun p e => hp p e⟩
  · refine hk b o (fun e' => ?_) (t.keep b o e)
    rw [(c.penX b e').2] at e; cases e
  · by_cases hb : cx.pen = some a
    · obtain ⟨_, _, _, _, _, _, _, _, _, q, _⟩ := hp a hb
      exact ⟨_, q⟩
    · obtain ⟨o, e⟩ := t.live a x
      exact ⟨o, hk a o hb e⟩
  · obtain ⟨m, hn, hv⟩ := t.ns
    refine ⟨m, hn.at' fun o e => hk _ o (fun e' => ?_) e, fun x d e => ?_⟩
    · obtain ⟨vs, nn, q⟩ := hpl _ e'
      exact Ns.ne_list hn q rfl
    · obtain ⟨v, a, r⟩ := hv x d e
      exact ⟨v, a.keeps fun c q => hcell c _ q, r.mono (fun _ y _ _ => y) fun b o nx e => hk b o (hxp b nx) e⟩
  · obtain ⟨v, q⟩ := t.cells ho x cc h1 h2
    exact ⟨v, hcell _ _ q⟩
  · obtain ⟨a, b, vs, nn, q, r⟩ := t.own l ds e
    exact ⟨a, b, vs, nn, hk l _ b q, r.mono (fun _ y _ _ => y) fun b o nx e => hk b o (hxp b nx) e⟩
theorem PenOK.keeps {X : Addr → Prop} {p : Addr} {n : Nat} {h h' : Heap} (q : PenOK X p n h) (hk : ∀ b o, h.get? b = some o → h'.get? b = some o) : PenOK X p n h' := by
  obtain ⟨vc, g, st, k, tg, ts, tk, ns, nn, a, b, r⟩ := q
  exact ⟨vc, g, st, k, tg, ts, tk, ns, nn, hk _ _ a, b.keeps hk, r⟩
theorem St.keeps (t : St cx S₀ s) (c : CxOK h0 n cx) (k : Kp s s') : St cx S₀ s' :=
  t.keepsBut c (k.but _) S₀.cnt fun p e => (t.pen p e).keeps k.heap
end

/-- an expression: from every state as told it comes to a value that bears d, and Q d and the pen's count hold -/
inductive EvR (cx : Cx) (S₀ : S) (s : Shared) (Q : D → Nat → Prop) (v : Value) (s' : Shared) : Prop
  | mk (d : D) (k : Nat) (t : St cx { S₀ with cnt := k } s') (p : KeepsBut cx.pen s s') (r : Rep (XX cx.X S₀.own) s'.heap v d) (q : Q d k) : EvR cx S₀ s Q v s'
/-- nothing is raised -/
noncomputable def False2 (_ : Value) (_ : Shared) : Prop := False
def Evp (prog : Program) (cx : Cx) (S₀ : S) (e : Expr) (Q : D → Nat → Prop) : Prop :=
  ∀ s, St cx S₀ s → wpAny (model prog cx.w) cx.A (eval e cx.env) (EvR cx S₀ s Q) (fun _ _ => False) s

structure PuR (X : Addr → Prop) (s : Shared) (d : D) (v : Value) (s' : Shared) : Prop where
  k : Kp s s'
  r : Rep X s'.heap v d
/-- a pure tree -/
def Pure (prog : Program) (w : World) (A : Around) (X : Addr → Prop) (s : Shared) (t : Sem Value) (d : D) : Prop :=
  wpAny (model prog w) A t (PuR X s d) (fun _ _ => False) s

section
variable {prog : Program} {h0 : Heap} {cx : Cx} {n : Nat} {S₀ : S} {e : Expr} {Q : D → Nat → Prop}
theorem Evp.mono {Q' : D → Nat → Prop} (h : Evp prog cx S₀ e Q) (hq : ∀ d k, Q d k → Q' d k) : Evp prog cx S₀ e Q' := fun s t =>
  wpAny_mono (h s t) (fun v s' ⟨d, k, a, b, r, q⟩ => ⟨d, k, a, b, r, hq d k q⟩) fun _ _ x => x
theorem Evp.of_pure (c : CxOK h0 n cx) {d : D} (h : ∀ s, St cx S₀ s → Pure prog cx.w cx.A (XX cx.X S₀.own) s (eval e cx.env) d) (hq : Q d S₀.cnt) : Evp prog cx S₀ e Q := fun s t =>
  wpAny_mono (h s t) (fun v s' ⟨k, r⟩ => ⟨d, S₀.cnt, t.keeps c k, k.but _, r, hq⟩) fun _ _ x => x
theorem Rep.but {X : Addr → Prop} {p : Option Addr} {s s' : Shared} {v : Value} {d : D} (r : Rep X s.heap v d) (k : KeepsBut p s s') (hp : ∀ a, p = some a → X a) : Rep X s'.heap v d :=
  r.mono (fun _ y _ _ => y) fun b o nx e => k.heap b o (fun q => nx (hp b q)) e
theorem RepAll.but {X : Addr → Prop} {p : Option Addr} {s s' : Shared} {v : List Value} {d : List D} (r : RepAll X s.heap v d) (k : KeepsBut p s s') (hp : ∀ a, p = some a → X a) : RepAll X s'.heap v d :=
  r.mono (fun _ y _ _ => y) fun b o nx e => k.heap b o (fun q => nx (hp b q)) e
theorem CxOK.penXX (c : CxOK h0 n cx) (own) : ∀ a, cx.pen = some a → XX cx.X own a := fun a e => .inl (c.penX a e).1

-- names
theorem Evp.name (c : CxOK h0 n cx) {x : Str} {pos : Pos} {d : D} (hx : S₀.vars.lookup x = some d) (hq : Q d S₀.cnt) (hd : (x == ("__debug__" : Str)) = false := by decide)
    (hc : (x == ("__classdict__" : Str)) = false := by decide) : Evp prog cx S₀ (.Name x pos) Q := by
  refine Evp.of_pure c (d := d) (fun s t => ?_) hq
  obtain ⟨m, hn, hv⟩ := t.ns
  obtain ⟨v, a, r⟩ := hv x d hx
  refine wpAny_Name ?_ hd
  rcases a with ⟨h1, h2⟩ | ⟨h1 | h1, cc, h2, h3⟩
  · exact wpAny_loadName_local c.kind h1 hn h2 ⟨.refl' _, r⟩
  · exact wpAny_loadName_cell c.kind h1 h2 h3 ⟨.refl' _, r⟩
  · exact wpAny_loadName_free c.kind h1 h2 h3 ⟨.refl' _, r⟩ hc

theorem Evp.cnone (c : CxOK h0 n cx) {k pos} (hq : Q .none S₀.cnt) : Evp prog cx S₀ (.Constant .none k pos) Q :=
  .of_pure c (fun s _ => (wpAny_pure ⟨.refl' _, .none⟩ : wpAny _ _ (pure Value.none) _ _ s)) hq
theorem Evp.cbool (c : CxOK h0 n cx) {b k pos} (hq : Q (.bool b) S₀.cnt) : Evp prog cx S₀ (.Constant (.bool b) k pos) Q :=
  .of_pure c (fun s _ => (wpAny_pure ⟨.refl' _, .bool b⟩ : wpAny _ _ (pure (Value.bool b)) _ _ s)) hq
theorem Evp.cint (c : CxOK h0 n cx) {i k pos} (hq : Q (.int i) S₀.cnt) : Evp prog cx S₀ (.Constant (.int i) k pos) Q :=
  .of_pure c (fun s _ => wpAny_Constant_int ⟨⟨_, _, rfl, fun _ _ e => e⟩, .int _ _⟩) hq
theorem Evp.cstr (c : CxOK h0 n cx) {x k pos} (hq : Q (.str x) S₀.cnt) : Evp prog cx S₀ (.Constant (.str x) k pos) Q :=
  .of_pure c (fun s _ => Calls.Constant_str ⟨⟨_, _, rfl, fun _ _ e => e⟩, .str _ _⟩) hq
end

/-- a list of expressions, from left to right -/
inductive EsR (cx : Cx) (S₀ : S) (s : Shared) (Q : List D → Nat → Prop) (vs : List Value) (s' : Shared) : Prop
  | mk (ds : List D) (k : Nat) (t : St cx { S₀ with cnt := k } s') (p : KeepsBut cx.pen s s') (r : RepAll (XX cx.X S₀.own) s'.heap vs ds) (q : Q ds k) : EsR cx S₀ s Q vs s'
def Evs (prog : Program) (cx : Cx) (S₀ : S) (es : List Expr) (Q : List D → Nat → Prop) : Prop :=
  ∀ s pos, St cx S₀ s → wpAny (model prog cx.w) cx.A (spliced (backTo pos (starEach es cx.env))) (EsR cx S₀ s Q) (fun _ _ => False) s

section
variable {prog : Program} {h0 : Heap} {cx : Cx} {n : Nat} {S₀ : S} {e : Expr} {es : List Expr} {Q : List D → Nat → Prop}
noncomputable def notStar : Expr → Bool
  | .Starred .. => false
  | _ => true
theorem starEach_cons (e : Expr) (es : List Expr) (env : Env) (h : notStar e = true) : starEach (e :: es) env = (false, eval e env) :: starEach es env := by
  cases e <;> first | rfl | cases h
theorem Evs.nil (hq : Q [] S₀.cnt) : Evs prog cx S₀ [] Q := fun s _ t => Calls.spliced_nil ⟨[], S₀.cnt, t, .refl _ _, .nil, hq⟩
theorem Evs.cons (c : CxOK h0 n cx) (h : Evp prog cx S₀ e fun d k => Evs prog cx { S₀ with cnt := k } es fun ds k' => Q (d :: ds) k') (hs : notStar e = true := by rfl) :
    Evs prog cx S₀ (e :: es) Q := fun s pos t => by
  rw [starEach_cons e es _ hs]
  refine Calls.spliced_cons (wpAny_mono (h s t) (fun v s₁ ⟨d, k, t₁, k₁, r, h₁⟩ => ?_) fun _ _ x => x)
  refine wpAny_mono (h₁ s₁ pos t₁) (fun vs s₂ ⟨ds, k', t₂, k₂, r₂, q⟩ => ?_) fun _ _ x => x
  exact ⟨d :: ds, k', t₂, k₁.trans k₂, .cons (r.but k₂ (c.penXX _)) r₂, q⟩
theorem Evs.mono {Q' : List D → Nat → Prop} (h : Evs prog cx S₀ es Q) (hq : ∀ d k, Q d k → Q' d k) : Evs prog cx S₀ es Q' := fun s p t =>
  wpAny_mono (h s p t) (fun v s' ⟨d, k, a, b, r, q⟩ => ⟨d, k, a, b, r, hq d k q⟩) fun _ _ x => x
end

/-- an operation of two values -/
def Op2 (prog : Program) (h0 : Heap) (w : World) (A : Around) (f : Value → Value → Sem Value) (a b d : D) : Prop :=
  ∀ X s va vb, PC h0 X s.heap → Rep X s.heap va a → Rep X s.heap vb b → Pure prog w A X s (f va vb) d
def Op1 (prog : Program) (h0 : Heap) (w : World) (A : Around) (f : Value → Sem Value) (a d : D) : Prop :=
  ∀ X s va, PC h0 X s.heap → Rep X s.heap va a → Pure prog w A X s (f va) d

inductive BinQ (prog : Program) (h0 : Heap) (w : World) (A : Around) (f : Value → Value → Sem Value) (a b : D) (Q : D → Nat → Prop) (k : Nat) : Prop
  | mk (d : D) (o : Op2 prog h0 w A f a b d) (q : Q d k) : BinQ prog h0 w A f a b Q k
section
variable {prog : Program} {h0 : Heap} {cx : Cx} {n : Nat} {S₀ : S} {Q : D → Nat → Prop}
theorem Evp.bin (c : CxOK h0 n cx) {l r : Expr} {op : Operator} {pos : Pos}
    (h : Evp prog cx S₀ l fun a k => Evp prog cx { S₀ with cnt := k } r fun b => BinQ prog h0 cx.w cx.A (binaryOp op) a b Q) : Evp prog cx S₀ (.BinOp l op r pos) Q := fun s t => by
  refine wpAny_BinOp (wpAny_mono (h s t) (fun va s₁ ⟨a, k, t₁, k₁, ra, h₁⟩ => ?_) fun _ _ x => x)
  refine wpAny_mono (h₁ s₁ t₁) (fun vb s₂ ⟨b, k', t₂, k₂, rb, d, o, q⟩ => ?_) fun _ _ x => x
  refine wpAny_mono (o _ s₂ va vb (t₂.pc c) (ra.but k₂ (c.penXX _)) rb) (fun v s₃ ⟨k₃, r₃⟩ => ?_) fun _ _ x => x
  exact ⟨d, k', t₂.keeps c k₃, (k₁.trans k₂).trans (k₃.but _), r₃, q⟩
theorem Evp.cmp (c : CxOK h0 n cx) {l r : Expr} {op : CmpOp} {pos : Pos}
    (h : Evp prog cx S₀ l fun a k => Evp prog cx { S₀ with cnt := k } r fun b => BinQ prog h0 cx.w cx.A (compareOp op) a b Q)
    (hm : behindInMarks op r = false := by with_unfolding_all rfl) : Evp prog cx S₀ (.Compare l [op] [r] pos) Q := fun s t => by
  refine wpAny_Compare1 (hm := hm) (wpAny_mono (h s t) (fun va s₁ ⟨a, k, t₁, k₁, ra, h₁⟩ => ?_) fun _ _ x => x)
  refine wpAny_mono (h₁ s₁ t₁) (fun vb s₂ ⟨b, k', t₂, k₂, rb, d, o, q⟩ => ?_) fun _ _ x => x
  refine wpAny_mono (o _ s₂ va vb (t₂.pc c) (ra.but k₂ (c.penXX _)) rb) (fun v s₃ ⟨k₃, r₃⟩ => ?_) fun _ _ x => x
  exact ⟨d, k', t₂.keeps c k₃, (k₁.trans k₂).trans (k₃.but _), r₃, q⟩
theorem Evp.tuple (c : CxOK h0 n cx) {es : List Expr} {k : Nat} {pos : Pos} (h : Evs prog cx S₀ es fun ds k => ds.length ≤ 1000 ∧ Q (.tup ds) k) : Evp prog cx S₀ (.Tuple es k pos) Q := fun s t => by
  refine Tuple_ (wpAny_mono (h s pos t) (fun vs s₁ ⟨ds, k, t₁, k₁, r, hl, q⟩ => ?_) fun _ _ x => x)
  have hk : ∀ b o, s₁.heap.get? b = some o → (s₁.heap.push (tupO vs 0)).get? b = some o := fun b o e => Heap.get?_push_of_some _ e
  refine wpAny_newObj_type ?_ (by show vs.toArray.size ≤ sizeLine; rw [List.size_toArray, r.length]; exact Nat.le_trans hl (by decide))
  refine ⟨.tup ds, k, t₁.keeps c ⟨_, _, rfl, hk⟩, k₁.trans (Kp.but _ ⟨_, _, rfl, hk⟩), .tup (n := 0) (t₁.pc c).new (Heap.get?_push_size _ rfl) (r.keeps hk), q⟩
theorem Evp.list (c : CxOK h0 n cx) {es : List Expr} {pos : Pos} (h : Evs prog cx S₀ es fun ds k => ds.length ≤ 1000 ∧ Q (.list ds) k) : Evp prog cx S₀ (.List es pos) Q := fun s t => by
  refine List_ (wpAny_mono (h s pos t) (fun vs s₁ ⟨ds, k, t₁, k₁, r, hl, q⟩ => ?_) fun _ _ x => x)
  have hk : ∀ b o, s₁.heap.get? b = some o → (s₁.heap.push (listOf vs.toArray 0)).get? b = some o := fun b o e => Heap.get?_push_of_some _ e
  refine wpAny_newObj_type ?_ (by show vs.toArray.size ≤ sizeLine; rw [List.size_toArray, r.length]; exact Nat.le_trans hl (by decide))
  refine ⟨.list ds, k, t₁.keeps c ⟨_, _, rfl, hk⟩, k₁.trans (Kp.but _ ⟨_, _, rfl, hk⟩), .list (n := 0) (t₁.pc c).new (Heap.get?_push_size _ rfl) (r.keeps hk), q⟩
end

end Mine
end

section
set_option linter.unusedVariables false
open PySem PySem.W PyProof.Rows
namespace Mine

/-- a value's truth -/
def Tru (prog : Program) (h0 : Heap) (w : World) (A : Around) (d : D) (b : Bool) : Prop :=
  ∀ X s v, PC h0 X s.heap → Rep X s.heap v d → wpAny (model prog w) A (truthy v) (fun c s' => c = b ∧ Kp s s') (fun _ _ => False) s
inductive TsR (cx : Cx) (S₀ : S) (s : Shared) (Q : Bool → Nat → Prop) (b : Bool) (s' : Shared) : Prop
  | mk (k : Nat) (t : St cx { S₀ with cnt := k } s') (p : KeepsBut cx.pen s s') (q : Q b k) : TsR cx S₀ s Q b s'
/-- a test -/
def Tst (prog : Program) (cx : Cx) (S₀ : S) (e : Expr) (Q : Bool → Nat → Prop) : Prop :=
  ∀ s, St cx S₀ s → wpAny (model prog cx.w) cx.A (isTrue e cx.env (eval e cx.env))
    (TsR cx S₀ s Q) (fun _ _ => False) s
/-- the links of a chained comparison behind a left side that bears a -/
def Chn (prog : Program) (cx : Cx) (S₀ : S) (a : D) (ops : List CmpOp) (rs : List Expr) (Q : Bool → Nat → Prop) : Prop :=
  ∀ s pos va, St cx S₀ s → Rep (XX cx.X S₀.own) s.heap va a → wpAny (model prog cx.w) cx.A (testChain pos va ops (evalEach rs cx.env))
    (TsR cx S₀ s Q) (fun _ _ => False) s

section
variable {prog : Program} {h0 : Heap} {cx : Cx} {n : Nat} {S₀ : S} {Q : Bool → Nat → Prop}
theorem Tst.mono {e : Expr} {Q' : Bool → Nat → Prop} (h : Tst prog cx S₀ e Q) (hq : ∀ d k, Q d k → Q' d k) : Tst prog cx S₀ e Q' := fun s t =>
  wpAny_mono (h s t) (fun v s' ⟨k, a, b, q⟩ => ⟨k, a, b, hq _ k q⟩) fun _ _ x => x
theorem Tru.bool {w A} (b : Bool) : Tru prog h0 w A (.bool b) b := fun X s v _ r => by
  cases r; exact wpAny_truthy_bool ⟨rfl, .refl' _⟩
inductive TruQ (prog : Program) (h0 : Heap) (w : World) (A : Around) (Q : Bool → Nat → Prop) (d : D) (k : Nat) : Prop
  | mk (b : Bool) (h : Tru prog h0 w A d b) (q : Q b k) : TruQ prog h0 w A Q d k
inductive CmpQ (prog : Program) (h0 : Heap) (w : World) (A : Around) (f : Value → Value → Sem Value) (a : D) (Q : Bool → Nat → Prop) (b : D) (k : Nat) : Prop
  | mk (t : Bool) (o : Op2 prog h0 w A f a b (.bool t)) (q : Q t k) : CmpQ prog h0 w A f a Q b k
inductive UnQ (prog : Program) (h0 : Heap) (w : World) (A : Around) (f : Value → Sem Value) (Q : D → Nat → Prop) (a : D) (k : Nat) : Prop
  | mk (d : D) (o : Op1 prog h0 w A f a d) (q : Q d k) : UnQ prog h0 w A f Q a k
theorem Tst.plain (c : CxOK h0 n cx) {e : Expr} (h : Evp prog cx S₀ e (TruQ prog h0 cx.w cx.A Q))
    (he : ∀ whole, isTrue e cx.env whole = (do let v ← whole; standAt e.pos; holding [v] (truthy v)) := by intro _; rfl) : Tst prog cx S₀ e Q := fun s t => by
  refine isTrue_plain ?_ (he _)
  refine wpAny_mono (h s t) (fun v s₁ ⟨d, k, t₁, k₁, r, b, hb, q⟩ => ?_) fun _ _ x => x
  exact wpAny_mono (hb _ s₁ v (t₁.pc c) r) (fun c' s₂ ⟨e, k₂⟩ => ⟨k, t₁.keeps c k₂, k₁.trans (k₂.but _), e ▸ q⟩) fun _ _ x => x
theorem Tst.not {x : Expr} {pos : Pos} (h : Tst prog cx S₀ x fun b k => Q (!b) k) : Tst prog cx S₀ (.UnaryOp .Not x pos) Q := fun s t => isTrue_not (wpAny_mono (h s t) (fun b s' ⟨k, t', p, q⟩ => ⟨k, t', p, q⟩) fun _ _ x => x)
theorem Tst.and_nil {pos : Pos} (hq : Q true S₀.cnt) : Tst prog cx S₀ (.BoolOp .And [] pos) Q := fun s t => isTrue_and_nil ⟨S₀.cnt, t, .refl _ _, hq⟩
theorem Tst.or_nil {pos : Pos} (hq : Q false S₀.cnt) : Tst prog cx S₀ (.BoolOp .Or [] pos) Q := fun s t => isTrue_or_nil ⟨S₀.cnt, t, .refl _ _, hq⟩
theorem Tst.and {x : Expr} {rest : List Expr} {pos : Pos} (h : Tst prog cx S₀ x fun b k => if b then Tst prog cx { S₀ with cnt := k } (.BoolOp .And rest pos) Q else Q false k) :
    Tst prog cx S₀ (.BoolOp .And (x :: rest) pos) Q := fun s t => by
  refine isTrue_and (wpAny_mono (h s t) (fun b s₁ ⟨k, t₁, k₁, q⟩ => ?_) fun _ _ x => x)
  cases b with
  | false => exact ⟨k, t₁, k₁, q⟩
  | true => exact wpAny_mono (q s₁ t₁) (fun b s₂ ⟨k', t₂, k₂, q'⟩ => ⟨k', t₂, k₁.trans k₂, q'⟩) fun _ _ x => x
theorem Tst.or {x : Expr} {rest : List Expr} {pos : Pos} (h : Tst prog cx S₀ x fun b k => if b then Q true k else Tst prog cx { S₀ with cnt := k } (.BoolOp .Or rest pos) Q) :
    Tst prog cx S₀ (.BoolOp .Or (x :: rest) pos) Q := fun s t => by
  refine isTrue_or (wpAny_mono (h s t) (fun b s₁ ⟨k, t₁, k₁, q⟩ => ?_) fun _ _ x => x)
  cases b with
  | true => exact ⟨k, t₁, k₁, q⟩
  | false => exact wpAny_mono (q s₁ t₁) (fun b s₂ ⟨k', t₂, k₂, q'⟩ => ⟨k', t₂, k₁.trans k₂, q'⟩) fun _ _ x => x
theorem Chn.last (c : CxOK h0 n cx) {a : D} {op : CmpOp} {r : Expr} (h : Evp prog cx S₀ r (CmpQ prog h0 cx.w cx.A (compareOp op) a Q)) :
    Chn prog cx S₀ a [op] [r] Q := fun s pos va t ra => by
  refine test_last (wpAny_mono (h s t) (fun vb s₁ ⟨b, k, t₁, k₁, rb, v, o, q⟩ => ?_) fun _ _ x => x)
  refine wpAny_mono (o _ s₁ va vb (t₁.pc c) (ra.but k₁ (c.penXX _)) rb) (fun vc s₂ ⟨k₂, r₂⟩ => ?_) fun _ _ x => x
  cases r₂
  exact wpAny_truthy_bool ⟨k, t₁.keeps c k₂, k₁.trans (k₂.but _), q⟩
theorem Chn.link (c : CxOK h0 n cx) {a : D} {op op' : CmpOp} {ops : List CmpOp} {r r' : Expr} {rs : List Expr}
    (h : Evp prog cx S₀ r fun b k => ∃ t, Op2 prog h0 cx.w cx.A (compareOp op) a b (.bool t) ∧ if t then Chn prog cx { S₀ with cnt := k } b (op' :: ops) (r' :: rs) Q else Q false k) :
    Chn prog cx S₀ a (op :: op' :: ops) (r :: r' :: rs) Q := fun s pos va t ra => by
  refine test_link (wpAny_mono (h s t) (fun vb s₁ ⟨b, k, t₁, k₁, rb, v, o, q⟩ => ?_) fun _ _ x => x)
  refine wpAny_mono (o _ s₁ va vb (t₁.pc c) (ra.but k₁ (c.penXX _)) rb) (fun vc s₂ ⟨k₂, r₂⟩ => ?_) fun _ _ x => x
  cases r₂
  refine wpAny_truthy_bool ?_
  cases v with
  | false => exact ⟨k, t₁.keeps c k₂, k₁.trans (k₂.but _), q⟩
  | true => exact wpAny_mono (q s₂ pos vb (t₁.keeps c k₂) (rb.keeps k₂.heap)) (fun b s₃ ⟨k', t₃, k₃, q'⟩ => ⟨k', t₃, (k₁.trans (k₂.but _)).trans k₃, q'⟩) fun _ _ x => x
theorem Tst.chain (c : CxOK h0 n cx) {l r₁ r₂ : Expr} {rs : List Expr} {op₁ op₂ : CmpOp} {ops : List CmpOp} {pos : Pos}
    (h : Evp prog cx S₀ l fun a k => Chn prog cx { S₀ with cnt := k } a (op₁ :: op₂ :: ops) (r₁ :: r₂ :: rs) Q)
    (hm : lastMarks (op₁ :: op₂ :: ops) (r₁ :: r₂ :: rs) = false := by with_unfolding_all rfl) : Tst prog cx S₀ (.Compare l (op₁ :: op₂ :: ops) (r₁ :: r₂ :: rs) pos) Q := fun s t => by
  refine isTrue_chain (hm := hm) (wpAny_mono (h s t) (fun va s₁ ⟨a, k, t₁, k₁, ra, q⟩ => ?_) fun _ _ x => x)
  exact wpAny_mono (q s₁ pos va t₁ ra) (fun b s₂ ⟨k', t₂, k₂, q'⟩ => ⟨k', t₂, k₁.trans k₂, q'⟩) fun _ _ x => x
theorem Tst.cmp (c : CxOK h0 n cx) {l r : Expr} {op : CmpOp} {pos : Pos}
    (h : Evp prog cx S₀ l fun a k => Evp prog cx { S₀ with cnt := k } r (CmpQ prog h0 cx.w cx.A (compareOp op) a Q))
    (hm : behindInMarks op r = false := by with_unfolding_all rfl) : Tst prog cx S₀ (.Compare l [op] [r] pos) Q := fun s t => by
  refine wpAny_isTrue_Compare1 (hm := hm) (wpAny_mono (h s t) (fun va s₁ ⟨a, k, t₁, k₁, ra, h₁⟩ => ?_) fun _ _ x => x)
  refine wpAny_mono (h₁ s₁ t₁) (fun vb s₂ ⟨b, k', t₂, k₂, rb, d, o, q⟩ => ?_) fun _ _ x => x
  refine wpAny_mono (o _ s₂ va vb (t₂.pc c) (ra.but k₂ (c.penXX _)) rb) (fun v s₃ ⟨k₃, r₃⟩ => ?_) fun _ _ x => x
  cases r₃
  exact wpAny_truthy_bool ⟨k', t₂.keeps c k₃, (k₁.trans k₂).trans (k₃.but _), q⟩
end

section
variable {prog : Program} {h0 : Heap} {cx : Cx} {n : Nat} {S₀ : S} {Q : D → Nat → Prop}
theorem Evp.ite {test body orelse : Expr} {pos : Pos} (h : Tst prog cx S₀ test fun b k => if b then Evp prog cx { S₀ with cnt := k } body Q else Evp prog cx { S₀ with cnt := k } orelse Q) :
    Evp prog cx S₀ (.IfExp test body orelse pos) Q := fun s t => by
  refine IfExp_ (wpAny_mono (h s t) (fun b s₁ ⟨k, t₁, k₁, q⟩ => ?_) fun _ _ x => x)
  cases b with
  | true => exact wpAny_mono (q s₁ t₁) (fun v s₂ ⟨d, k', t₂, k₂, r, q'⟩ => ⟨d, k', t₂, k₁.trans k₂, r, q'⟩) fun _ _ x => x
  | false => exact wpAny_mono (q s₁ t₁) (fun v s₂ ⟨d, k', t₂, k₂, r, q'⟩ => ⟨d, k', t₂, k₁.trans k₂, r, q'⟩) fun _ _ x => x
theorem Evp.un (c : CxOK h0 n cx) {x : Expr} {op : UnaryOp} {pos : Pos} (h : Evp prog cx S₀ x (UnQ prog h0 cx.w cx.A (unaryOp op) Q)) :
    Evp prog cx S₀ (.UnaryOp op x pos) Q := fun s t => by
  refine UnaryOp_ (wpAny_mono (h s t) (fun va s₁ ⟨a, k, t₁, k₁, ra, d, o, q⟩ => ?_) fun _ _ x => x)
  exact wpAny_mono (o _ s₁ va (t₁.pc c) ra) (fun v s₂ ⟨k₂, r₂⟩ => ⟨d, k, t₁.keeps c k₂, k₁.trans (k₂.but _), r₂, q⟩) fun _ _ x => x
/-- `a and b` as a value, a a bool -/
theorem Evp.and2 (c : CxOK h0 n cx) {x y : Expr} {pos : Pos} (h : Evp prog cx S₀ x fun a k => ∃ b, a = .bool b ∧ if b then Evp prog cx { S₀ with cnt := k } y Q else Q (.bool false) k) :
    Evp prog cx S₀ (.BoolOp .And [x, y] pos) Q := fun s t => by
  refine BoolOp_and (wpAny_mono (h s t) (fun va s₁ ⟨a, k, t₁, k₁, ra, b, e, q⟩ => ?_) fun _ _ x => x)
  subst e
  cases ra
  refine wpAny_truthy_bool ?_
  cases b with
  | false => exact ⟨_, k, t₁, k₁, .bool _, q⟩
  | true => exact BoolOp_one (wpAny_mono (q s₁ t₁) (fun v s₂ ⟨d, k', t₂, k₂, r, q'⟩ => ⟨d, k', t₂, k₁.trans k₂, r, q'⟩) fun _ _ x => x)
theorem Evp.or2 (c : CxOK h0 n cx) {x y : Expr} {pos : Pos} (h : Evp prog cx S₀ x fun a k => ∃ b, a = .bool b ∧ if b then Q (.bool true) k else Evp prog cx { S₀ with cnt := k } y Q) :
    Evp prog cx S₀ (.BoolOp .Or [x, y] pos) Q := fun s t => by
  refine BoolOp_or (wpAny_mono (h s t) (fun va s₁ ⟨a, k, t₁, k₁, ra, b, e, q⟩ => ?_) fun _ _ x => x)
  subst e
  cases ra
  refine wpAny_truthy_bool ?_
  cases b with
  | true => exact ⟨_, k, t₁, k₁, .bool _, q⟩
  | false => exact BoolOp_one (wpAny_mono (q s₁ t₁) (fun v s₂ ⟨d, k', t₂, k₂, r, q'⟩ => ⟨d, k', t₂, k₁.trans k₂, r, q'⟩) fun _ _ x => x)
end

/-- a statement: it goes on in a state of K, or returns a value that bears data of R; or raises into E -/
inductive PostN (cx : Cx) (K : S → Prop) (f : Flow) (s' : Shared) : Prop
  | mk (e : f = .next) (S' : S) (t : St cx S' s') (k : K S') : PostN cx K f s'
inductive PostR (cx : Cx) (R : D → S → Prop) (f : Flow) (s' : Shared) : Prop
  | mk (v : Value) (d : D) (S' : S) (e : f = .ret v) (t : St cx S' s') (r : Rep (XX cx.X S'.own) s'.heap v d) (q : R d S') : PostR cx R f s'
inductive Post (cx : Cx) (K : S → Prop) (R : D → S → Prop) (f : Flow) (s' : Shared) : Prop
  | inl (h : PostN cx K f s') : Post cx K R f s'
  | inr (h : PostR cx R f s') : Post cx K R f s'
def Exp (prog : Program) (cx : Cx) (E : Value → Shared → Prop) (S₀ : S) (st : Stmt) (K : S → Prop) (R : D → S → Prop) : Prop :=
  ∀ s, St cx S₀ s → wpAny (model prog cx.w) cx.A (exec st cx.env) (Post cx K R) E s
def Exps (prog : Program) (cx : Cx) (E : Value → Shared → Prop) (S₀ : S) (sts : List Stmt) (K : S → Prop) (R : D → S → Prop) : Prop :=
  ∀ s, St cx S₀ s → wpAny (model prog cx.w) cx.A (execs sts cx.env) (Post cx K R) E s


section
variable {prog : Program} {h0 : Heap} {cx : Cx} {n : Nat} {S₀ : S} {E : Value → Shared → Prop} {K : S → Prop} {R : D → S → Prop} {s : Shared}
theorem Post.mono {K' : S → Prop} {R' : D → S → Prop} {f : Flow} (h : Post cx K R f s) (hk : ∀ S, K S → K' S) (hr : ∀ d S, R d S → R' d S) : Post cx K' R' f s := by
  rcases h with ⟨e, S', t, k⟩ | ⟨v, d, S', e, t, r, q⟩
  · exact .inl ⟨e, S', t, hk _ k⟩
  · exact .inr ⟨v, d, S', e, t, r, hr _ _ q⟩
theorem Exps.mono {sts : List Stmt} {K' : S → Prop} {R' : D → S → Prop} (h : Exps prog cx E S₀ sts K R) (hk : ∀ S, K S → K' S) (hr : ∀ d S, R d S → R' d S) : Exps prog cx E S₀ sts K' R' :=
  fun s t => wpAny_mono (h s t) (fun f s' p => p.mono hk hr) fun _ _ x => x
theorem Exps.nil (h : K S₀) : Exps prog cx E S₀ [] K R := fun s t => wpAny_execs_nil (.inl ⟨rfl, S₀, t, h⟩)
theorem Exps.cons {st : Stmt} {rest : List Stmt} (h : Exp prog cx E S₀ st (fun S₁ => Exps prog cx E S₁ rest K R) R) : Exps prog cx E S₀ (st :: rest) K R := fun s t => by
  refine wpAny_execs_cons (wpAny_mono (h s t) (fun f s₁ p => ?_) fun _ _ x => x)
  rcases p with ⟨e, S', t₁, k⟩ | ⟨v, d, S', e, t₁, r, q⟩
  · subst e; exact k s₁ t₁
  · subst e; exact .inr ⟨v, d, S', rfl, t₁, r, q⟩
theorem Exp.ret (c : CxOK h0 n cx) {e : Expr} {pos : Pos} (h : Evp prog cx S₀ e fun d k => R d { S₀ with cnt := k }) : Exp prog cx E S₀ (.Return (some e) pos) K R := fun s t =>
  wpAny_Return_some (wpAny_mono (h s t) (fun v s₁ ⟨d, k, t₁, k₁, r, q⟩ => .inr ⟨v, d, _, rfl, t₁, r, q⟩) fun _ _ x => x.elim)
theorem Exp.ifs {test : Expr} {body orelse : List Stmt} {pos : Pos}
    (h : Tst prog cx S₀ test fun b k => if b then Exps prog cx E { S₀ with cnt := k } body K R else Exps prog cx E { S₀ with cnt := k } orelse K R) : Exp prog cx E S₀ (.If test body orelse pos) K R := fun s t => by
  refine wpAny_If (wpAny_mono (h s t) (fun b s₁ ⟨k, t₁, k₁, q⟩ => ?_) fun _ _ x => x.elim)
  cases b with
  | true => exact q s₁ t₁
  | false => exact q s₁ t₁

noncomputable def stored (S₀ : S) (x : Str) (d : D) : S := { S₀ with vars := (x, d) :: S₀.vars }
theorem lookup_cons {x y : Str} {d : D} {l : List (Str × D)} : ((x, d) :: l).lookup y = if y = x then some d else l.lookup y := by
  rw [List.lookup_cons]
  by_cases e : y = x
  · subst e; simp
  · rw [if_neg e, show (y == x) = false by simpa using e]
theorem St.store_local (c : CxOK h0 n cx) (t : St cx S₀ s) {x : Str} {v : Value} {d : D} (hl : cx.env.kindOf x = some .local) (r : Rep (XX cx.X S₀.own) s.heap v d) {E : Value → Shared → Prop} {Q : Unit → Shared → Prop}
    (h : ∀ s', St cx (stored S₀ x d) s' → (∀ v d, Rep (XX cx.X S₀.own) s.heap v d → Rep (XX cx.X S₀.own) s'.heap v d) → Q () s') : wpAny (model prog cx.w) cx.A (storeName cx.env x v) Q E s := by
  obtain ⟨m, hn, hv⟩ := t.ns
  refine wpAny_storeName_local hl hn (fun h' hn' hs' => ?_) (by rw [c.kind]; rfl)
  have hx : ∀ b o, ¬ XX cx.X S₀.own b → s.heap.get? b = some o → h'.get? b = some o := fun b o nx e => hs'.extBut b o (fun q => nx (q ▸ .inl c.LX)) e
  have hcell : ∀ a w, s.heap.IsCell a w → h'.IsCell a w := fun a w q => q.sameBut hs' fun e => by
    subst e; exact Ns.ne_cell hn q rfl
  obtain ⟨h₁, tk, hs⟩ := t.rest
  refine h _ ?_ fun v d r => r.mono (fun _ y _ _ => y) hx
  refine ⟨⟨h', _, by rw [hs]⟩, fun b o e => ?_, fun a x => ?_, ⟨_, hn', fun y d' e => ?_⟩, fun ho x a h1 h2 => ?_, fun l ds e => ?_, fun p e => ?_⟩
  · refine hs'.extBut b o (fun q => ?_) (t.keep b o e)
    rw [q, c.LC] at e; cases e
  · by_cases q : a = cx.env.locals
    · subst q; obtain ⟨o, _, _, e, _⟩ := hn'; exact ⟨o, e⟩
    · obtain ⟨o, e⟩ := t.live a x; exact ⟨o, hs'.extBut a o q e⟩
  · change ((x, d) :: S₀.vars).lookup y = some d' at e
    rw [lookup_cons] at e
    by_cases q : y = x
    · subst q
      rw [if_pos rfl] at e; cases e
      exact ⟨v, .inl ⟨hl, by simp⟩, r.mono (fun _ y _ _ => y) hx⟩
    · rw [if_neg q] at e
      obtain ⟨v', a, r'⟩ := hv y d' e
      refine ⟨v', ?_, r'.mono (fun _ y _ _ => y) hx⟩
      rcases a with ⟨a1, a2⟩ | ⟨a1, cc, a2, a3⟩
      · exact .inl ⟨a1, (if_neg q).trans a2⟩
      · exact .inr ⟨a1, cc, a2, hcell _ _ a3⟩
  · obtain ⟨w, q⟩ := t.cells ho x a h1 h2
    exact ⟨w, hcell _ _ q⟩
  · obtain ⟨a, b, vs, nn, q, r⟩ := t.own l ds e
    exact ⟨a, b, vs, nn, hs'.extBut l _ (fun z => Ns.ne_list hn q z.symm) q, r.mono (fun _ y _ _ => y) hx⟩
  · obtain ⟨vc, g, st, k, tg, ts, tk', ns, nn, a, b, r⟩ := t.pen p e
    exact ⟨vc, g, st, k, tg, ts, tk', ns, nn, hs'.extBut p _ (fun z => Ns.ne_list hn a z.symm) a, b.mono (fun _ y _ _ => y) hx, r⟩
theorem St.store_cell (c : CxOK h0 n cx) (t : St cx S₀ s) {x : Str} {v : Value} {d : D} (ho : cx.owns = true) (hl : cx.env.kindOf x = some .cell) (hc : (cx.env.cells.lookup x).isSome = true) (r : Rep (XX cx.X S₀.own) s.heap v d) {E : Value → Shared → Prop} {Q : Unit → Shared → Prop}
    (h : ∀ s', St cx (stored S₀ x d) s' → (∀ v d, Rep (XX cx.X S₀.own) s.heap v d → Rep (XX cx.X S₀.own) s'.heap v d) → Q () s') : wpAny (model prog cx.w) cx.A (storeName cx.env x v) Q E s := by
  obtain ⟨m, hn, hv⟩ := t.ns
  obtain ⟨a, ha⟩ := Option.isSome_iff_exists.mp hc
  obtain ⟨v₀, h₀⟩ := t.cells ho x a hl ha
  obtain ⟨aX, aC, aU⟩ := c.cells ho x a hl ha
  refine wpAny_storeName_cell c.kind hl ha h₀ fun h' hv' hs' => ?_
  have hx : ∀ b o, ¬ XX cx.X S₀.own b → s.heap.get? b = some o → h'.get? b = some o := fun b o nx e => hs'.extBut b o (fun q => nx (q ▸ .inl aX)) e
  have hn' : h'.Ns cx.env.locals m := hn.sameBut hs' (Ns.ne_cell hn h₀)
  have hlist : ∀ l vs nn, s.heap.get? l = some (listOf vs nn) → h'.get? l = some (listOf vs nn) := fun l vs nn e => hs'.extBut l _ (fun q => IsCell.ne_list h₀ (q ▸ e) rfl) e
  obtain ⟨h₁, tk, hs⟩ := t.rest
  refine h _ ?_ fun v d r => r.mono (fun _ y _ _ => y) hx
  refine ⟨⟨h', tk, by rw [hs]⟩, fun b o e => ?_, fun b xb => ?_, ⟨m, hn', fun y d' e => ?_⟩, fun _ y b h1 h2 => ?_, fun l ds e => ?_, fun p e => ?_⟩
  · refine hs'.extBut b o (fun q => ?_) (t.keep b o e)
    rw [q, aC] at e; cases e
  · by_cases q : b = a
    · subst q; obtain ⟨o, e, _⟩ := hv'; exact ⟨o, e⟩
    · obtain ⟨o, e⟩ := t.live b xb; exact ⟨o, hs'.extBut b o q e⟩
  · change ((x, d) :: S₀.vars).lookup y = some d' at e
    rw [lookup_cons] at e
    by_cases q : y = x
    · subst q
      rw [if_pos rfl] at e; cases e
      exact ⟨v, .inr ⟨.inl hl, a, ha, hv'⟩, r.mono (fun _ y _ _ => y) hx⟩
    · rw [if_neg q] at e
      obtain ⟨v', a', r'⟩ := hv y d' e
      refine ⟨v', ?_, r'.mono (fun _ y _ _ => y) hx⟩
      rcases a' with ⟨a1, a2⟩ | ⟨a1, cc, a2, a3⟩
      · exact .inl ⟨a1, a2⟩
      · exact .inr ⟨a1, cc, a2, a3.sameBut hs' fun z => q (aU y (z ▸ a2))⟩
  · by_cases q : b = a
    · subst q; exact ⟨_, hv'⟩
    · obtain ⟨w, z⟩ := t.cells ho y b h1 h2
      exact ⟨w, z.sameBut hs' q⟩
  · obtain ⟨b1, b2, vs, nn, q, r⟩ := t.own l ds e
    exact ⟨b1, b2, vs, nn, hlist _ _ _ q, r.mono (fun _ y _ _ => y) hx⟩
  · obtain ⟨vc, g, st, k, tg, ts, tk', ns, nn, q, b, r⟩ := t.pen p e
    exact ⟨vc, g, st, k, tg, ts, tk', ns, nn, hlist _ _ _ q, b.mono (fun _ y _ _ => y) hx, r⟩
/-- x is a name that the frame may store -/
def Stores (cx : Cx) (x : Str) : Prop := cx.env.kindOf x = some .local ∨ (cx.owns = true ∧ cx.env.kindOf x = some .cell ∧ (cx.env.cells.lookup x).isSome = true)
theorem St.store (c : CxOK h0 n cx) (t : St cx S₀ s) {x : Str} {v : Value} {d : D} (hx : Stores cx x) (r : Rep (XX cx.X S₀.own) s.heap v d) {E : Value → Shared → Prop} {Q : Unit → Shared → Prop}
    (h : ∀ s', St cx (stored S₀ x d) s' → (∀ v d, Rep (XX cx.X S₀.own) s.heap v d → Rep (XX cx.X S₀.own) s'.heap v d) → Q () s') : wpAny (model prog cx.w) cx.A (storeName cx.env x v) Q E s :=
  hx.elim (fun hl => t.store_local c hl r h) fun hl => t.store_cell c hl.1 hl.2.1 hl.2.2 r h
theorem Exp.assign (c : CxOK h0 n cx) {x : Str} {value : Expr} {pos pos' : Pos} (hx : Stores cx x) (h : Evp prog cx S₀ value fun d k => K (stored { S₀ with cnt := k } x d))
    (hs : swapsWith value (some (.Name x pos')) pos.line cx.env = pure false := by rfl) : Exp prog cx E S₀ (.Assign [.Name x pos'] value pos) K R := fun s t =>
  wpAny_Assign_Name (hs := hs) (wpAny_mono (h s t) (fun v s₁ ⟨d, k, t₁, k₁, r, q⟩ => t₁.store c hx r fun s' t' _ => .inl ⟨rfl, _, t', q⟩) fun _ _ x => x.elim)
/-- what is no longer asked may be forgotten -/
def Sub (S' S₀ : S) : Prop := S'.own = S₀.own ∧ S'.cnt = S₀.cnt ∧ ∀ x d, S'.vars.lookup x = some d → S₀.vars.lookup x = some d
theorem St.sub {S' : S} (t : St cx S₀ s) (h : Sub S' S₀) : St cx S' s := by
  obtain ⟨o, c, v⟩ := h
  obtain ⟨m, hn, hv⟩ := t.ns
  exact ⟨t.rest, t.keep, t.live, ⟨m, hn, fun x d e => by rw [o]; exact hv x d (v x d e)⟩, t.cells, fun l ds e => by rw [o] at e ⊢; exact t.own l ds e, fun p e => by rw [o, c]; exact t.pen p e⟩
theorem Exps.sub {S' : S} {sts : List Stmt} (h : Exps prog cx E S' sts K R) (hs : Sub S' S₀) : Exps prog cx E S₀ sts K R := fun s t => h s (t.sub hs)
end

end Mine
end

section
set_option linter.unusedVariables false
open PySem PySem.W PyProof.Rows
namespace Mine

mutual
/-- plain data as the library's data -/
noncomputable def py : D → PyData
  | .none => .none
  | .bool b => .bool b
  | .int i => .int i
  | .str s => .str s
  | .tup ds => .tuple (pys ds)
  | .list ds => .list (pys ds)
  | .inst _ _ => .none
  | .rng _ _ => .none
  | .raw _ => .none
noncomputable def pys : List D → List PyData
  | [] => []
  | d :: ds => py d :: pys ds
end
/-- plain data of at most n storeys, its texts made of signs -/
noncomputable def plain : Nat → D → Bool
  | _, .none => true
  | _, .bool _ => true
  | _, .int _ => true
  | _, .str s => PyData.strOk s
  | n + 1, .tup ds => ds.all (plain n)
  | n + 1, .list ds => ds.all (plain n)
  | _, _ => false

theorem Rep.reads {X : Addr → Prop} {h : Heap} {v : Value} {d : D} (n : Nat) (r : Rep X h v d) : plain n d = true → ∃ as, Reads h v (py d) as :=
  Rep.rec (motive_1 := fun v d _ => ∀ n, plain n d = true → ∃ as, Reads h v (py d) as) (motive_2 := fun vs ds _ => ∀ n, (∀ d ∈ ds, plain n d = true) → ∃ as, ReadsAll h vs (pys ds) as) (motive_3 := fun _ _ _ => True)
    (fun _ _ => ⟨_, .none⟩) (fun b _ _ => ⟨_, .bool b⟩) (fun i t _ _ => ⟨_, .int i t⟩) (fun x t _ _ => ⟨_, .str x t⟩)
    (fun _ e _ r n hk => by
      cases n with
      | zero => simp [plain] at hk
      | succ n =>
        obtain ⟨as, q⟩ := r n (by simpa [plain] using hk)
        rw [py]
        exact ⟨as, reads_tuple_at e rfl rfl (by simpa using q)⟩)
    (fun _ e _ r n hk => by
      cases n with
      | zero => simp [plain] at hk
      | succ n =>
        obtain ⟨as, q⟩ := r n (by simpa [plain] using hk)
        rw [py]
        exact ⟨_, reads_list_at e rfl rfl (by simpa using q)⟩)
    (fun _ _ _ _ _ _ n hk => by cases n <;> simp [plain] at hk) (fun _ _ n hk => by cases n <;> simp [plain] at hk) (fun _ n hk => by cases n <;> simp [plain] at hk)
    (fun _ _ => ⟨_, .nil⟩)
    (fun _ _ a r n hk => by
      obtain ⟨as, q⟩ := a n (hk _ (.head _))
      obtain ⟨bs, p⟩ := r n fun d hm => hk d (.tail _ hm)
      rw [pys]
      exact ⟨_, .cons q p⟩)
    trivial (fun _ _ _ _ => trivial)
    r n
theorem plain_lay : ∀ (n : Nat) (d : D), plain n d = true → (py d).canLay0 = true ∧ (py d).depth ≤ n := by
  have all : ∀ (n : Nat), (∀ d, plain n d = true → (py d).canLay0 = true ∧ (py d).depth ≤ n) → ∀ ds : List D, (∀ d ∈ ds, plain n d = true) → PyData.canLayAll0 (pys ds) = true ∧ PyData.depthAll (pys ds) ≤ n := by
    intro n ih ds
    induction ds with
    | nil => intro _; simp [pys, PyData.canLayAll0, PyData.depthAll]
    | cons d ds hi =>
      intro h
      have h1 := ih d (h d (.head _))
      have h2 := hi fun e he => h e (.tail _ he)
      simp only [pys, PyData.canLayAll0, PyData.depthAll, h1.1, h2.1, Bool.and_self, true_and]
      have a1 := h1.2
      have a2 := h2.2
      omega
  intro n
  induction n with
  | zero =>
    intro d h
    cases d <;> simp_all [plain, py, PyData.canLay0, PyData.depth]
  | succ n ih =>
    intro d h
    cases d with
    | tup ds =>
      have q := all n ih ds (by simpa [plain] using h)
      have q2 := q.2
      simp only [py, PyData.canLay0, PyData.depth, q.1, true_and]
      omega
    | list ds =>
      have q := all n ih ds (by simpa [plain] using h)
      have q2 := q.2
      simp only [py, PyData.canLay0, PyData.depth, q.1, true_and]
      omega
    | _ => simp_all [plain, py, PyData.canLay0, PyData.depth]

/-- Python's equality of plain data -/
noncomputable def eqD (a b : D) : Bool := PyData.eqv (py a) (py b)
noncomputable def eqDs (a b : List D) : Bool := PyData.eqvAll (pys a) (pys b)
theorem eqDs_cons (a b : D) (as bs : List D) : eqDs (a :: as) (b :: bs) = (eqD a b && eqDs as bs) := by simp [eqDs, eqD, pys, PyData.eqvAll]
theorem eqD_int (i j : Int) : eqD (.int i) (.int j) = (i == j) := by simp [eqD, py, PyData.eqv]
theorem eqD_bool (i j : Bool) : eqD (.bool i) (.bool j) = (i == j) := by simp [eqD, py, PyData.eqv]
theorem eqD_str (i j : Str) : eqD (.str i) (.str j) = (i == j) := by simp [eqD, py, PyData.eqv]
theorem eqD_none : eqD .none .none = true := by simp [eqD, py, PyData.eqv]
theorem eqD_tup (a b : List D) : eqD (.tup a) (.tup b) = eqDs a b := by simp [eqD, eqDs, py, PyData.eqv]
theorem eqD_list (a b : List D) : eqD (.list a) (.list b) = eqDs a b := by simp [eqD, eqDs, py, PyData.eqv]
theorem eqDs_nil : eqDs [] [] = true := by simp [eqDs, pys, PyData.eqvAll]
theorem eqDs_nums : ∀ ns ms : List Int, eqDs (nums ns) (nums ms) = (ns == ms)
  | [], [] => rfl
  | [], m :: ms => rfl
  | n :: ns, [] => rfl
  | n :: ns, m :: ms => by
    show eqDs (.int n :: nums ns) (.int m :: nums ms) = _
    rw [eqDs_cons, eqD_int, eqDs_nums]; rfl
theorem eqD_self : ∀ (n : Nat) (d : D), plain n d = true → eqD d d = true := fun n d h => SeqAt.eqv_refl _ (plain_lay n d h).1

section
variable {prog : Program} {h0 : Heap} {w : World} {A : Around} {n : Nat}
theorem Lv.room {u : Nat} (l : Lv n A) (hu : u ≤ 800) : A.units + u < cLine := by have := l.units; show _ < 9900; omega

theorem op_eq {a b : D} {k m : Nat} (l : Lv n A) (ha : plain k a = true) (hb : plain m b = true) (hk : k ≤ 9) : Op2 prog h0 w A (compareOp .Eq) a b (.bool (eqD a b)) := fun X s va vb p ra rb => by
  obtain ⟨as, qa⟩ := ra.reads k ha
  obtain ⟨bs, qb⟩ := rb.reads m hb
  have la := plain_lay k a ha
  have lb := plain_lay m b hb
  exact SeqAt.compareEq_reads qa qb la.1 lb.1 (Nat.lt_of_le_of_lt (Nat.add_le_add_left (Nat.le_trans (Nat.min_le_left _ _) (Nat.le_trans la.2 hk)) _) (l.room (by omega))) ⟨.refl' _, .bool _⟩
theorem op_ne {a b : D} {k m : Nat} (l : Lv n A) (ha : plain k a = true) (hb : plain m b = true) (hk : k ≤ 9) : Op2 prog h0 w A (compareOp .NotEq) a b (.bool (!eqD a b)) := fun X s va vb p ra rb => by
  obtain ⟨as, qa⟩ := ra.reads k ha
  obtain ⟨bs, qb⟩ := rb.reads m hb
  have la := plain_lay k a ha
  have lb := plain_lay m b hb
  exact SeqAt.compareNe_reads qa qb la.1 lb.1 (Nat.lt_of_le_of_lt (Nat.add_le_add_left (Nat.le_trans (Nat.min_le_left _ _) (Nat.le_trans la.2 hk)) _) (l.room (by omega))) ⟨.refl' _, .bool _⟩

theorem kp_tok {s : Shared} {tk : Nat} : Kp s { s with toks := tk } := ⟨_, _, rfl, fun _ _ e => e⟩
theorem op_add {i j : Int} : Op2 prog h0 w A (binaryOp .Add) (.int i) (.int j) (.int (i + j)) := fun X s va vb p ra rb => by
  cases ra; cases rb; exact P.add_int ⟨kp_tok, .int _ _⟩
theorem op_sub {i j : Int} : Op2 prog h0 w A (binaryOp .Sub) (.int i) (.int j) (.int (i - j)) := fun X s va vb p ra rb => by
  cases ra; cases rb; exact P.sub_int ⟨kp_tok, .int _ _⟩
theorem op_mul {i j : Int} (h : IntMulOk i j) : Op2 prog h0 w A (binaryOp .Mult) (.int i) (.int j) (.int (i * j)) := fun X s va vb p ra rb => by
  cases ra; cases rb; exact P.mul_int (hm := h) ⟨kp_tok, .int _ _⟩
theorem op_mod {i j : Int} (h : j ≠ 0) : Op2 prog h0 w A (binaryOp .Mod) (.int i) (.int j) (.int (i.fmod j)) := fun X s va vb p ra rb => by
  cases ra; cases rb; exact mod_int' h ⟨kp_tok, .int _ _⟩
theorem op_pow {i j : Int} (hn : 0 ≤ j) (hs : (Builtin.Int.intBits i : Int) * j ≤ 2 ^ 27) : Op2 prog h0 w A (binaryOp .Pow) (.int i) (.int j) (.int (i ^ j.toNat)) := fun X s va vb p ra rb => by
  cases ra; cases rb; exact pow_int hn hs ⟨kp_tok, .int _ _⟩
theorem op_neg {i : Int} : Op1 prog h0 w A (unaryOp .USub) (.int i) (.int (-i)) := fun X s va p ra => by
  cases ra; exact P.neg_int ⟨kp_tok, .int _ _⟩
theorem op_lt {i j : Int} : Op2 prog h0 w A (compareOp .Lt) (.int i) (.int j) (.bool (decide (i < j))) := fun X s va vb p ra rb => by
  cases ra; cases rb; exact P.lt_int ⟨.refl' _, .bool _⟩
theorem op_le {i j : Int} : Op2 prog h0 w A (compareOp .LtE) (.int i) (.int j) (.bool (decide (i ≤ j))) := fun X s va vb p ra rb => by
  cases ra; cases rb; exact P.le_int ⟨.refl' _, .bool _⟩
theorem op_gt {i j : Int} : Op2 prog h0 w A (compareOp .Gt) (.int i) (.int j) (.bool (decide (i > j))) := fun X s va vb p ra rb => by
  cases ra; cases rb; exact P.gt_int ⟨.refl' _, .bool _⟩
theorem op_ge {i j : Int} : Op2 prog h0 w A (compareOp .GtE) (.int i) (.int j) (.bool (decide (i ≥ j))) := fun X s va vb p ra rb => by
  cases ra; cases rb; exact P.ge_int ⟨.refl' _, .bool _⟩
theorem op_eqi {i j : Int} : Op2 prog h0 w A (compareOp .Eq) (.int i) (.int j) (.bool (i == j)) := fun X s va vb p ra rb => by
  cases ra; cases rb; exact P.eq_int ⟨.refl' _, .bool _⟩
theorem op_in {k : Int} {ns : List Int} : Op2 prog h0 w A (compareOp .In) (.int k) (.list (nums ns)) (.bool (ns.any (· == k))) := fun X s va vb p ra rb => by
  cases ra; cases rb with
  | list _ e r => exact in_list_ints ⟨_, e, rfl, _, rfl⟩ r.intsAre ⟨.refl' _, .bool _⟩
theorem op_notin {k : Int} {ns : List Int} : Op2 prog h0 w A (compareOp .NotIn) (.int k) (.list (nums ns)) (.bool (!(ns.any (· == k)))) := fun X s va vb p ra rb => by
  cases ra; cases rb with
  | list _ e r => exact notin_list_ints ⟨_, e, rfl, _, rfl⟩ r.intsAre ⟨.refl' _, .bool _⟩
noncomputable def isNone : D → Bool
  | .none => true
  | _ => false
noncomputable def notRaw : D → Bool
  | .raw _ => false
  | _ => true
theorem kp_push {s : Shared} {o : Obj} {tk : Nat} : Kp s { s with heap := s.heap.push o, toks := tk } := ⟨_, _, rfl, fun _ _ e => Heap.get?_push_of_some _ e⟩
theorem kp_push0 {s : Shared} {o : Obj} : Kp s { s with heap := s.heap.push o } := ⟨_, _, rfl, fun _ _ e => Heap.get?_push_of_some _ e⟩
theorem sizeLine_big {k : Nat} (h : k ≤ 1000000) : k ≤ sizeLine := Nat.le_trans h (by decide)
theorem big_of {a b : Nat} (e : a = b) (l : b ≤ 1000000) : a ≤ sizeLine := by rw [e]; exact sizeLine_big l
theorem op_addlist {as bs : List D} (h : as.length + bs.length ≤ 1000000) : Op2 prog h0 w A (binaryOp .Add) (.list as) (.list bs) (.list (as ++ bs)) := fun X s va vb p ra rb => by
  cases ra with
  | @list a vs _ _ _ e r => cases rb with
    | @list b ws _ _ _ f q =>
      refine P.add_list e f ?_ (by rw [List.size_toArray, List.size_toArray, r.length, q.length]; exact sizeLine_big h)
      rw [show vs.toArray ++ ws.toArray = (vs ++ ws).toArray by simp]
      exact ⟨kp_push0, .list (n := 0) p.new (Heap.get?_push_size _ rfl) ((r.append q).keeps fun _ _ e => Heap.get?_push_of_some _ e)⟩
theorem op_addtup {as bs : List D} (ha : as ≠ []) (hb : bs ≠ []) (h : as.length + bs.length ≤ 1000000) : Op2 prog h0 w A (binaryOp .Add) (.tup as) (.tup bs) (.tup (as ++ bs)) := fun X s va vb p ra rb => by
  cases ra with
  | @tup a vs _ _ _ e r => cases rb with
    | @tup b ws _ _ _ f q =>
      have l1 := r.length
      have l2 := q.length
      refine P.add_tuple e f (by intro z; simp at z; rw [z] at l1; simp at l1; exact ha (List.length_eq_zero_iff.mp l1.symm)) (by intro z; simp at z; rw [z] at l2; simp at l2; exact hb (List.length_eq_zero_iff.mp l2.symm))
        ?_ (by rw [List.size_toArray, List.size_toArray, r.length, q.length]; exact sizeLine_big h)
      rw [show vs.toArray ++ ws.toArray = (vs ++ ws).toArray by simp]
      exact ⟨kp_push0, .tup (n := 0) p.new (Heap.get?_push_size _ rfl) ((r.append q).keeps fun _ _ e => Heap.get?_push_of_some _ e)⟩
theorem op_addstr {x y : Str} (h : x.length + y.length ≤ 1000000) : Op2 prog h0 w A (binaryOp .Add) (.str x) (.str y) (.str (x ++ y)) := fun X s va vb p ra rb => by
  cases ra; cases rb
  exact PyProof.Rows.add_str (hsz := sizeLine_big h) fun t' tk => ⟨kp_tok, .str _ _⟩
theorem isEmpty_of {vs : List Value} {ds : List D} (h : vs.length = ds.length) : vs.toArray.isEmpty = ds.isEmpty := by
  cases vs <;> cases ds <;> simp at h ⊢
theorem Tru.list {ds : List D} (h : ds.length ≤ 1000000) : Tru prog h0 w A (.list ds) (!ds.isEmpty) := fun X s v p r => by
  cases r with
  | list _ e q =>
    have := q.length
    exact wpAny_truthy_list ⟨_, e, rfl, _, rfl⟩ (by rw [List.size_toArray]; omega) ⟨by rw [isEmpty_of q.length], kp_tok⟩
end
end Mine
end

section
set_option linter.unusedVariables false
open PySem PySem.W PyProof.Rows
namespace Mine

/-- the top, as the walk reads it -/
structure Top0 (K : Frag) (h0 : Heap) : Prop where
  inK : K.In h0
  top : ∃ p loose mg mb, TopRead p loose mg mb h0

section
variable {prog : Program} {h0 : Heap} {K : Frag} {cx : Cx} {n : Nat} {S₀ : S} {Q : D → Nat → Prop}

theorem PC.inK {X : Addr → Prop} {h : Heap} (p : PC h0 X h) (B : Top0 K h0) : K.In h := B.inK.keeps p.base
theorem PC.nolimit {X : Addr → Prop} {h : Heap} (p : PC h0 X h) (B : Top0 K h0) : h.NoLimit := by
  obtain ⟨_, _, _, _, T⟩ := B.top
  exact T.nolimit.keeps p.base

-- global names
theorem Evp.glob (c : CxOK h0 n cx) (B : Top0 K h0) {x : Str} {pos : Pos} {v : Value} {d : D} (e : nsIn K mainGlobals x = some (some v)) (r : ∀ X h, Rep X h v d) (hq : Q d S₀.cnt)
    (hx : cx.env.kindOf x = some .globalImplicit) (hd : (x == ("__debug__" : Str)) = false := by decide) : Evp prog cx S₀ (.Name x pos) Q := by
  refine Evp.of_pure c (fun s t => ?_) hq
  obtain ⟨_, _, mg, mb, T⟩ := B.top
  have p := t.pc c
  refine Calls.Name_function_global c.kind hx (Calls.loadGlobal_global (by rw [c.glob]; exact T.g.keeps p.base) (mg_of B.inK T.g e) ⟨.refl' _, r _ _⟩) hd
-- an item of a tuple, of a list
inductive ItmT (a i : D) (Q : D → Nat → Prop) (k : Nat) : Prop
  | mk (ds : List D) (j : Int) (idx : Nat) (d : D) (e1 : a = .tup ds) (e2 : i = .int j) (l1 : -(2 ^ 63) ≤ j) (l2 : j < 2 ^ 63) (hi : seqIndex? j ds.length = some idx) (hd : ds[idx]? = some d) (q : Q d k) : ItmT a i Q k
inductive ItmL (a i : D) (Q : D → Nat → Prop) (k : Nat) : Prop
  | mk (ds : List D) (j : Int) (d : D) (e1 : a = .list ds) (e2 : i = .int j) (l0 : ds.length ≤ 1000000) (l1 : -(ds.length : Int) ≤ j) (l2 : j < ds.length) (hd : ds[(if j < 0 then j + ds.length else j).toNat]? = some d) (q : Q d k) : ItmL a i Q k
theorem Evp.itemT (c : CxOK h0 n cx) {value slice : Expr} {pos : Pos}
    (h : Evp prog cx S₀ value fun a k => Evp prog cx { S₀ with cnt := k } slice fun i => ItmT a i Q)
    (hs : ∀ o i, subscripted slice false o i = operate [o, i] (getItem o i) := by intro _ _; rfl) : Evp prog cx S₀ (.Subscript value slice pos) Q := fun s t => by
  refine Subscript_ (wpAny_mono (h s t) (fun va s₁ ⟨a, k, t₁, k₁, ra, h₁⟩ => ?_) fun _ _ x => x)
  refine wpAny_mono (h₁ s₁ t₁) (fun vi s₂ ⟨i, k', t₂, k₂, ri, ds, j, idx, d, e1, e2, l1, l2, hi, hd, q⟩ => ?_) fun _ _ x => x
  subst e1; subst e2
  have ra' := ra.but k₂ (c.penXX _)
  cases ri
  cases ra' with
  | tup _ e r =>
    obtain ⟨v, hv, rv⟩ := r.get hd
    exact item_tupleT ⟨_, e, rfl, _, rfl⟩ l1 l2 (by rw [r.length]; exact hi) hv ⟨d, k', t₂, k₁.trans k₂, rv, q⟩ (hs _ _)
theorem Evp.itemL (c : CxOK h0 n cx) {value slice : Expr} {pos : Pos}
    (h : Evp prog cx S₀ value fun a k => Evp prog cx { S₀ with cnt := k } slice fun i => ItmL a i Q)
    (hs : ∀ o i, subscripted slice false o i = operate [o, i] (getItem o i) := by intro _ _; rfl) : Evp prog cx S₀ (.Subscript value slice pos) Q := fun s t => by
  refine Subscript_ (wpAny_mono (h s t) (fun va s₁ ⟨a, k, t₁, k₁, ra, h₁⟩ => ?_) fun _ _ x => x)
  refine wpAny_mono (h₁ s₁ t₁) (fun vi s₂ ⟨i, k', t₂, k₂, ri, ds, j, d, e1, e2, l0, l1, l2, hd, q⟩ => ?_) fun _ _ x => x
  subst e1; subst e2
  have ra' := ra.but k₂ (c.penXX _)
  cases ri
  cases ra' with
  | @list al vs _ _ _ e r =>
    have len := r.length
    obtain ⟨v, hv, rv⟩ := r.get hd
    have hL : s₂.heap.IsList al vs.toArray := ⟨_, e, rfl, _, rfl⟩
    by_cases hj : j < 0
    · rw [if_pos hj] at hv
      refine tail_any hL.typeIs slot_list_getitem.lookup (wpAny_getItem_list_neg hL hj (by rw [List.size_toArray]; omega) (by omega) ?_ ⟨d, k', t₂, k₁.trans k₂, rv, q⟩) (hs _ _)
      rw [List.size_toArray, len]; simpa using hv
    · rw [if_neg hj] at hv
      exact tail_any hL.typeIs slot_list_getitem.lookup (wpAny_getItem_list hL (by omega) (by omega) (by simpa using hv) ⟨d, k', t₂, k₁.trans k₂, rv, q⟩) (hs _ _)

-- slices
inductive OIntQ (Q : Option Int → Nat → Prop) (d : D) (k : Nat) : Prop
  | mk (i : Int) (e : d = .int i) (q : Q (some i) k) : OIntQ Q d k
/-- an end of a slice -/
def Evo (prog : Program) (cx : Cx) (S₀ : S) (e : Option Expr) (Q : Option Int → Nat → Prop) : Prop := match e with
  | none => Q none S₀.cnt
  | some e => Evp prog cx S₀ e (OIntQ Q)
inductive EoR (cx : Cx) (S₀ : S) (s : Shared) (Q : Option Int → Nat → Prop) (v : Value) (s' : Shared) : Prop
  | mk (oi : Option Int) (k : Nat) (t : St cx { S₀ with cnt := k } s') (p : KeepsBut cx.pen s s') (r : IsPart v oi) (q : Q oi k) : EoR cx S₀ s Q v s'
theorem Evo.wp {e : Option Expr} {Q : Option Int → Nat → Prop} (h : Evo prog cx S₀ e Q) {s : Shared} (t : St cx S₀ s) :
    wpAny (model prog cx.w) cx.A (valueOrNone (evalOpt e cx.env)) (EoR cx S₀ s Q) (fun _ _ => False) s := by
  cases e with
  | none => exact wpAny_pure ⟨none, S₀.cnt, t, .refl _ _, .none, h⟩
  | some e =>
    exact wpAny_mono (h s t) (fun v s' ⟨d, k, t', k', r, i, e, q⟩ => by subst e; cases r; exact ⟨some i, k, t', k', .int _ _, q⟩) fun _ _ x => x
inductive SlR (cx : Cx) (S₀ : S) (s : Shared) (Q : Option Int → Option Int → Option Int → Nat → Prop) (v : Value) (s' : Shared) : Prop
  | mk (a b d : Option Int) (k : Nat) (sl : Addr) (va vb vd : Value) (t : St cx { S₀ with cnt := k } s') (p : KeepsBut cx.pen s s') (e : v = .ref sl) (h : s'.heap.IsSliceOf sl va vb vd) (pa : IsPart va a) (pb : IsPart vb b) (pd : IsPart vd d) (q : Q a b d k) : SlR cx S₀ s Q v s'
theorem Slice_wp (c : CxOK h0 n cx) {lo hi st : Option Expr} {pos : Pos} {Q : Option Int → Option Int → Option Int → Nat → Prop}
    (h : Evo prog cx S₀ lo fun a k => Evo prog cx { S₀ with cnt := k } hi fun b k' => Evo prog cx { S₀ with cnt := k' } st fun d k'' => Q a b d k'') {s : Shared} (t : St cx S₀ s) :
    wpAny (model prog cx.w) cx.A (eval (.Slice lo hi st pos) cx.env) (SlR cx S₀ s Q) (fun _ _ => False) s := by
  show wpAny _ _ (do
    let l ← valueOrNone (evalOpt lo cx.env)
    let u ← holding [l] (valueOrNone (evalOpt hi cx.env))
    let s ← holding [l, u] (valueOrNone (evalOpt st cx.env))
    newFields "slice" [l, u, s]) _ _ s
  refine wpAny_bind (wpAny_mono (h.wp t) (fun va s₁ ⟨a, k, t₁, k₁, pa, h₁⟩ => ?_) fun _ _ x => x)
  refine wpAny_bind (wpAny_holding (wpAny_mono (h₁.wp t₁) (fun vb s₂ ⟨b, k', t₂, k₂, pb, h₂⟩ => ?_) fun _ _ x => x))
  refine wpAny_bind (wpAny_holding (wpAny_mono (h₂.wp t₂) (fun vd s₃ ⟨d, k'', t₃, k₃, pd, q⟩ => ?_) fun _ _ x => x))
  unfold newFields
  refine wpAny_newObj_type ?_
  exact ⟨a, b, d, k'', _, va, vb, vd, t₃.keeps c kp_push0, ((k₁.trans k₂).trans k₃).trans (kp_push0.but _), rfl, Heap.IsSliceOf.new .., pa, pb, pd, q⟩

/-- what a slice picks of a list -/
def pickD (ds : List D) (lo hi st : Option Int) (es : List D) : Prop :=
  (lo = none ∧ hi = none ∧ st = some (-1) ∧ es = ds.reverse) ∨ (∃ b : Nat, lo = none ∧ hi = some (b : Int) ∧ st = none ∧ es = ds.take b) ∨ (lo = none ∧ hi = some (-1) ∧ st = none ∧ es = ds.take (ds.length - 1))
theorem pickD_rev {ds : List D} : pickD ds none none (some (-1)) ds.reverse := .inl ⟨rfl, rfl, rfl, rfl⟩
theorem pickD_upto {ds : List D} (b : Nat) : pickD ds none (some (b : Int)) none (ds.take b) := .inr (.inl ⟨b, rfl, rfl, rfl, rfl⟩)
theorem pickD_butLast {ds : List D} : pickD ds none (some (-1)) none (ds.take (ds.length - 1)) := .inr (.inr ⟨rfl, rfl, rfl, rfl⟩)
theorem pickD.rep {X : Addr → Prop} {h : Heap} {vs : List Value} {ds es : List D} {lo hi st : Option Int} (p : pickD ds lo hi st es) (r : RepAll X h vs ds) :
    ∃ ws, slicePick vs.toArray lo hi st = ws.toArray ∧ RepAll X h ws es ∧ st ≠ some 0 := by
  have len := r.length
  rcases p with ⟨rfl, rfl, rfl, rfl⟩ | ⟨b, rfl, rfl, rfl, rfl⟩ | ⟨rfl, rfl, rfl, rfl⟩
  · exact ⟨vs.reverse, by rw [krv_pick], r.reverse, by decide⟩
  · exact ⟨vs.take b, by rw [slicePick_upto'], r.take b, by simp⟩
  · refine ⟨vs.take (ds.length - 1), ?_, r.take _, by simp⟩
    have := slicePick_butLast vs.toArray 1 (by omega)
    rw [show (-((1 : Nat) : Int)) = -1 by rfl] at this
    rw [this, List.size_toArray, len]
inductive SlLQ (a : D) (Q : D → Nat → Prop) (x y z : Option Int) (k : Nat) : Prop
  | mk (ds es : List D) (e : a = .list ds) (l : ds.length ≤ 1000000) (p : pickD ds x y z es) (q : Q (.list es) k) : SlLQ a Q x y z k
theorem Evp.sliceL (c : CxOK h0 n cx) {value : Expr} {lo hi st : Option Expr} {pos pos' : Pos}
    (h : Evp prog cx S₀ value fun a k => Evo prog cx { S₀ with cnt := k } lo fun x k => Evo prog cx { S₀ with cnt := k } hi fun y k => Evo prog cx { S₀ with cnt := k } st (SlLQ a Q x y)) : Evp prog cx S₀ (.Subscript value (.Slice lo hi st pos') pos) Q := fun s t => by
  refine Subscript_ (wpAny_mono (h s t) (fun va s₁ ⟨a, k, t₁, k₁, ra, h₁⟩ => ?_) fun _ _ x => x)
  refine wpAny_mono (Slice_wp c h₁ t₁) (fun vi s₂ ⟨x, y, z, k', sl, vx, vy, vz, t₂, k₂, e, hsl, px, py, pz, ds, es, e1, l0, pk, q⟩ => ?_) fun _ _ x => x
  subst e; subst e1
  have ra' := ra.but k₂ (c.penXX _)
  cases ra' with
  | @list al vs _ _ _ e r =>
    have len := r.length
    obtain ⟨ws, e1, rw', hz⟩ := pk.rep r
    have hL : s₂.heap.IsList al vs.toArray := ⟨_, e, rfl, _, rfl⟩
    have fin : ∃ ops, subscripted (.Slice lo hi st pos') false (.ref al) (.ref sl) = operate ops (getItem (.ref al) (.ref sl)) := by
      cases st with
      | none => exact ⟨_, rfl⟩
      | some st => exact ⟨_, rfl⟩
    obtain ⟨ops, hs⟩ := fin
    refine tail_any hL.typeIs slot_list_getitem.lookup (wpAny_getItem_list_slice hL hsl px py pz hz ?_ (by rw [List.size_toArray]; exact big_of len l0)) hs
    rw [e1]
    exact ⟨_, k', t₂.keeps c kp_push0, (k₁.trans k₂).trans (kp_push0.but _), .list (n := 0) (t₂.pc c).new (Heap.get?_push_size _ rfl) (rw'.keeps fun _ _ e => Heap.get?_push_of_some _ e), q⟩

theorem adjust_upto (b n : Nat) (hb : b ≤ n) : Builtin.Slice.sliceAdjust none (some (b : Int)) 1 (n : Int) = ((0 : Int), (b : Int)) := by
  unfold Builtin.Slice.sliceAdjust
  have h1 : ¬ ((1 : Int) < 0) := by omega
  have h2 : ¬ ((b : Int) < 0) := by omega
  simp only [h1, h2, if_false]
  congr 1
  omega
theorem places_upto (b : Nat) : Builtin.Slice.slicePlaces 0 (b : Int) 1 = b := by
  unfold Builtin.Slice.slicePlaces
  have h1 : (1 : Int) > 0 := by omega
  simp only [h1, if_true, Int.ediv_one]
  split <;> omega
theorem sliceApplied_upto {w : World} {A : Around} {E : Value → Shared → Prop} {s : Shared} {sl : Addr} {b n : Nat} {u : Tok} {Q : Int × Int × Nat → Shared → Prop} (hs : s.heap.IsSliceOf sl .none (.int b u) .none) (hb : b ≤ n) (h : Q ((0 : Int), 1, b) s) :
    wpAny (model prog w) A (Builtin.Slice.sliceApplied (.ref sl) (pure (n : Int))) Q E s := by
  obtain ⟨os, hos, hcs, hds⟩ := id hs
  unfold Builtin.Slice.sliceApplied Builtin.Slice.sliceFields
  refine wpAny_bind (wpAny_bind (wpAny_field hos hds (x := .none) rfl (wpAny_bind (wpAny_field hos hds (x := .int b u) rfl (wpAny_bind (wpAny_field hos hds (x := .none) rfl (wpAny_pure ?_)))))))
  refine wpAny_bind (slicePart_none ?_)
  show wpAny _ _ (if ((1 : Int) == 0) = true then _ else _) _ _ s
  rw [if_neg (by decide)]
  refine wpAny_bind (slicePart_none (wpAny_bind (slicePart_int (wpAny_bind (wpAny_pure ?_)))))
  show wpAny _ _ (match Builtin.Slice.sliceAdjust none (some (b : Int)) 1 (n : Int) with | (lo, hi) => pure (lo, (1 : Int), Builtin.Slice.slicePlaces lo hi 1)) _ _ s
  rw [adjust_upto b n hb]
  show wpAny _ _ (pure ((0 : Int), (1 : Int), Builtin.Slice.slicePlaces 0 (b : Int) 1)) _ _ s
  rw [places_upto b]
  exact wpAny_pure h
theorem pick_upto (xs : Array Value) (b : Nat) : ((List.range b).filterMap fun (k : Nat) => xs[((0 : Int) + (k : Int) * 1).toNat]?).toArray = (xs.toList.take b).toArray := by
  have e : (fun (k : Nat) => xs[((0 : Int) + (k : Int) * 1).toNat]?) = fun k => xs[0 + k]? := by
    funext k
    have : ((0 : Int) + (k : Int) * 1).toNat = 0 + k := by omega
    rw [this]
  rw [e]
  have := pick_run xs 0 b
  rw [List.filterMap_map] at this
  have e2 : ((fun x => xs[x]?) ∘ fun x => 0 + x) = fun k => xs[0 + k]? := rfl
  rw [e2] at this
  rw [this, List.drop_zero]
theorem getItem_tuple_upto {w : World} {A : Around} {E : Value → Shared → Prop} {s : Shared} {t sl : Addr} {items : Array Value} {b : Nat} {u : Tok} {Q : Value → Shared → Prop} (ht : IsTup s.heap t items) (hs : s.heap.IsSliceOf sl .none (.int b u) .none) (hb : b < items.size)
    (h : Q (.ref s.heap.objs.size) { s with heap := s.heap.push { cls := .type "tuple", data := .seq (items.toList.take b).toArray } })
    (hsz : items.size ≤ sizeLine) : wpAny (model prog w) A (getItem (.ref t) (.ref sl)) Q E s := by
  have hdrop : sizeOk (.seq (items.toList.take b).toArray) := by
    show (items.toList.take b).toArray.size ≤ sizeLine
    rw [List.size_toArray, List.length_take, Array.length_toList]
    omega
  obtain ⟨os, hos, hcs, hds⟩ := id hs
  have hTs : s.TypeIs (.ref sl) "slice" := ⟨os, hos, hcs⟩
  unfold getItem
  try with_reducible refine wpAny_holding ?_
  first | refine wpAny_bind (wpAny_pure ?_) | skip
  refine wpAny_bind (wpAny_sequenceKey ht.typeIs (by decide) ?_)
  refine wpAny_bind (wpAny_callSpecial?_slot (name := Str.ofString "__getitem__") ht.typeIs slot_tuple_getitem
    (wpAny_call_entry slot_tuple_getitem ht.typeIs entry_tuple_getitem ?_ (args_tuple_getitem _ _)))
  show wpAny _ _ (Builtin.Tuple.tupleItemsOf (.ref t) >>= _) _ _ s
  refine wpAny_bind (tupleItemsOf_ ht ?_)
  refine wpAny_bind (wpAny_typeOf hTs ?_)
  rw [if_pos (by decide)]
  refine wpAny_bind (sliceApplied_upto hs (by omega) ?_)
  have hno : ¬ (((0 : Int) == 0 && (1 : Int) == 1 && b == items.size) = true) := by
    have : (b == items.size) = false := by rw [beq_eq_false_iff_ne]; omega
    rw [this]; simp
  show wpAny _ _ (if ((0 : Int) == 0 && (1 : Int) == 1 && b == items.size) = true then _ else _) _ _ s
  rw [if_neg hno, pick_upto items b]
  first
    | exact wpAny_bind (m := Builtin.Tuple.tupleExact _) (wpAny_newObj_type (wpAny_pure ⟨_, rfl, wpAny_pure h⟩) hdrop)
    | exact wpAny_bind (m := Builtin.Tuple.tupleExact _) (wpAny_newObj_type (wpAny_bind (wpAny_pure (wpAny_pure ⟨_, rfl, wpAny_pure h⟩))) hdrop)
    | exact wpAny_bind (wpAny_bind (m := Builtin.Tuple.tupleExact _) (wpAny_newObj_type (wpAny_pure (wpAny_pure ⟨_, rfl, wpAny_pure h⟩)) hdrop))
    | exact wpAny_bind (wpAny_bind (m := Builtin.Tuple.tupleExact _) (wpAny_newObj_type (wpAny_pure ⟨_, rfl, wpAny_pure h⟩) hdrop))
/-- what a slice picks of a tuple: t[:b], t[a:] -/
def pickT (ds : List D) (lo hi st : Option Int) (es : List D) : Prop :=
  (∃ b : Nat, lo = none ∧ hi = some (b : Int) ∧ st = none ∧ b < ds.length ∧ es = ds.take b) ∨ (∃ a : Nat, lo = some (a : Int) ∧ hi = none ∧ st = none ∧ 1 ≤ a ∧ a ≤ ds.length ∧ es = ds.drop a)
theorem pickT_upto {ds : List D} (b : Nat) (h : b < ds.length) : pickT ds none (some (b : Int)) none (ds.take b) := .inl ⟨b, rfl, rfl, rfl, h, rfl⟩
theorem pickT_from {ds : List D} (a : Nat) (h1 : 1 ≤ a) (h : a ≤ ds.length) : pickT ds (some (a : Int)) none none (ds.drop a) := .inr ⟨a, rfl, rfl, rfl, h1, h, rfl⟩
inductive SlTQ (a : D) (Q : D → Nat → Prop) (x y : Option Int) (k : Nat) : Prop
  | mk (ds es : List D) (e : a = .tup ds) (l : ds.length ≤ 1000000) (p : pickT ds x y none es) (q : Q (.tup es) k) : SlTQ a Q x y k
theorem Evp.sliceT (c : CxOK h0 n cx) {value : Expr} {lo hi : Option Expr} {pos pos' : Pos}
    (h : Evp prog cx S₀ value fun a k => Evo prog cx { S₀ with cnt := k } lo fun x k => Evo prog cx { S₀ with cnt := k } hi (SlTQ a Q x)) :
    Evp prog cx S₀ (.Subscript value (.Slice lo hi none pos') pos) Q := fun s t => by
  refine Subscript_ (wpAny_mono (h s t) (fun va s₁ ⟨a, k, t₁, k₁, ra, h₁⟩ => ?_) fun _ _ x => x)
  have h₂ : Evo prog cx { S₀ with cnt := k } lo fun x k => Evo prog cx { S₀ with cnt := k } hi fun y k => Evo prog cx { S₀ with cnt := k } none fun z k => z = none ∧ SlTQ a Q x y k := by
    cases lo with
    | none => cases hi with
      | none => exact ⟨rfl, h₁⟩
      | some hi => exact Evp.mono h₁ fun d k ⟨i, e, q⟩ => ⟨i, e, rfl, q⟩
    | some lo => cases hi with
      | none => exact Evp.mono h₁ fun d k ⟨i, e, q⟩ => ⟨i, e, rfl, q⟩
      | some hi => exact Evp.mono h₁ fun d k ⟨i, e, q⟩ => ⟨i, e, Evp.mono q fun d k ⟨i, e, q⟩ => ⟨i, e, rfl, q⟩⟩
  refine wpAny_mono (Slice_wp c h₂ t₁) (fun vi s₂ ⟨x, y, z, k', sl, vx, vy, vz, t₂, k₂, e, hsl, px, py, pz, ez, ds, es, e1, l0, pk, q⟩ => ?_) fun _ _ x => x
  subst e; subst e1; subst ez
  have ra' := ra.but k₂ (c.penXX _)
  cases ra' with
  | @tup al vs _ _ _ e r =>
    have len := r.length
    have hT : IsTup s₂.heap al vs.toArray := ⟨_, e, rfl, _, rfl⟩
    cases pz
    refine tail_any hT.typeIs slot_tuple_getitem.lookup ?_ rfl
    rcases pk with ⟨b, rfl, rfl, _, hb, rfl⟩ | ⟨a', rfl, rfl, _, h1, ha, rfl⟩
    · cases px
      cases py
      refine getItem_tuple_upto hT hsl (by rw [List.size_toArray, len]; exact hb) ?_ (by rw [List.size_toArray]; exact big_of len l0)
      exact ⟨_, k', t₂.keeps c kp_push0, (k₁.trans k₂).trans (kp_push0.but _), .tup (n := 0) (t₂.pc c).new (Heap.get?_push_size _ rfl) ((r.take b).keeps fun _ _ e => Heap.get?_push_of_some _ e), q⟩
    · cases px
      cases py
      refine getItem_tuple_from hT hsl h1 (by rw [List.size_toArray, len]; exact ha) ?_ (by rw [List.size_toArray]; exact big_of len l0)
      exact ⟨_, k', t₂.keeps c kp_push0, (k₁.trans k₂).trans (kp_push0.but _), .tup (n := 0) (t₂.pc c).new (Heap.get?_push_size _ rfl) ((r.drop a').keeps fun _ _ e => Heap.get?_push_of_some _ e), q⟩

-- attributes of instances
/-- what the class says of an attribute that stands in the object's own dict -/
structure AttrOK (K : Frag) (C : Addr) (x : Str) : Prop where
  plain : plainGet K C x = true
  dict : hasDictIn K C = true
  find : ∃ attr, findIn K (.ref C) x = some attr ∧ noGet K attr = true
theorem RepFs.get {X : Addr → Prop} {h : Heap} {x : Str} {d : D} : ∀ {es : List DictEntry} {fs : List (Str × D)}, RepFs X h es fs → fs.lookup x = some d → ∃ v, getL x es = some (some v) ∧ Rep X h v d
  | _, _, .nil, e => by cases e
  | _, _, .cons (x := y) (v := v) (es := es) (fs := fs) r rs, e => by
    rw [lookup_cons] at e
    unfold getL
    by_cases q : x = y
    · subst q
      rw [if_pos rfl] at e; cases e
      exact ⟨v, by simp [Value.isStr], r⟩
    · rw [if_neg q] at e
      obtain ⟨v', g, r'⟩ := RepFs.get rs e
      refine ⟨v', ?_, r'⟩
      unfold getL at g
      have hne : ∀ t, Value.isStr (.str y t) x = false := fun t => by
        show (y == x) = false
        simpa using fun z => q z.symm
      simp only [List.find?_cons, hne, List.any_cons, Bool.false_or]
      exact g
theorem Rep.handed {X : Addr → Prop} {h : Heap} {v : Value} {d : D} (r : Rep X h v d) (hd : notRaw d = true) : handedIn v = true := by cases r <;> first | rfl | cases hd
inductive AttQ (K : Frag) (x : Str) (Q : D → Nat → Prop) (a : D) (k : Nat) : Prop
  | mk (C : Addr) (fs : List (Str × D)) (d : D) (e : a = .inst C fs) (hl : fs.lookup x = some d) (hd : notRaw d = true) (ok : AttrOK K C x) (q : Q d k) : AttQ K x Q a k
theorem Evp.attr (c : CxOK h0 n cx) (B : Top0 K h0) {y x : Str} {p pos : Pos} (h : Evp prog cx S₀ (.Name y p) (AttQ K x Q)) :
    Evp prog cx S₀ (.Attribute (.Name y p) x pos) Q := fun s t => by
  refine Attribute_name (wpAny_mono (h s t) (fun va s₁ ⟨a, k, t₁, k₁, ra, C, fs, d, e, hl, hd, ok, q⟩ => ?_) fun _ _ x => x)
  subst e
  cases ra with
  | @inst a dx _ es nn _ n1 n2 e1 e2 r =>
    obtain ⟨v, hg, rv⟩ := r.get hl
    obtain ⟨attr, hf, hn⟩ := ok.find
    refine get_value ((t₁.pc c).inK B) (od := some (dictOf es nn)) ⟨e1, rfl, rfl, e2⟩ (plainGet_of ok.plain).1 (findObj_own ok.dict hf hn (by rw [lookIn_dict]; exact hg)) (rv.handed hd) ?_
    exact ⟨d, k, t₁.keeps c kp_tok, k₁.trans (kp_tok.but _), rv, q⟩
end
end Mine
end

section
set_option linter.unusedVariables false
open PySem PySem.W PyProof.Rows
namespace Mine

/-- an iterator under way: it hands out the items of ds; it writes at wr alone -/
structure Wk (prog : Program) (w : World) (A : Around) (target : PySem.Expr) (X : Addr → Prop) (I : Addr) (wr : Addr → Prop) (ds : List D) (J : Nat → Heap → Prop) (M : Nat → Value → Heap → Prop) : Prop where
  frame : ∀ i h h', J i h → (∀ b o, ¬ X b → h.get? b = some o → h'.get? b = some o) → J i h'
  item : ∀ i d (s : Shared) (Q : Option Value → Shared → Prop) (E : Value → Shared → Prop), ds[i]? = some d → (∀ a, X a → ∃ o, s.heap.get? a = some o) → J i s.heap →
    (∀ v h' tk, Rep (fun a => X a ∨ wr a) h' v d → M i v h' → (∀ b o, ¬ wr b → s.heap.get? b = some o → h'.get? b = some o) → Q (some v) { s with heap := h', toks := tk }) → wpAny (model prog w) A (pyNext (.ref I)) Q E s
  go : ∀ i v (s : Shared) (Q : Unit → Shared → Prop) (E : Value → Shared → Prop), M i v s.heap →
    (∀ h' tk, J (i + 1) h' → (∀ b o, ¬ wr b → s.heap.get? b = some o → h'.get? b = some o) → Q () { s with heap := h', toks := tk }) → wpAny (model prog w) A (letOwnedTupleGo target (.ref I) v) Q E s
  done : ∀ (s : Shared) (Q : Option Value → Shared → Prop) (E : Value → Shared → Prop), J ds.length s.heap →
    (∀ h' tk, (∀ b o, ¬ wr b → s.heap.get? b = some o → h'.get? b = some o) → Q none { s with heap := h', toks := tk }) → wpAny (model prog w) A (pyNext (.ref I)) Q E s
  self : ∀ i (s : Shared) (Q : Value → Shared → Prop) (E : Value → Shared → Prop), J i s.heap → Q (.ref I) s → wpAny (model prog w) A (pyIter (.ref I)) Q E s
  liveJ : ∀ i h, J i h → ∀ a, wr a → ∃ o, h.get? a = some o
  liveM : ∀ i v h, M i v h → ∀ a, wr a → ∃ o, h.get? a = some o
  wrX : ∀ a, wr a → ¬ X a

section
variable {prog : Program} {w : World} {A : Around} {X : Addr → Prop} {target : PySem.Expr}
theorem go_fields {I : Addr} {cls : String} {vs : Array Value} {v : Value} {s : Shared} {Q : Unit → Shared → Prop} {E : Value → Shared → Prop} {o : Obj} (ho : s.heap.get? I = some o) (hc : o.cls = .type cls) (hd : o.data = .fields vs)
    (hn : (["enumerate", "zip", "dict_itemiterator", "dict_reverseitemiterator", "odict_iterator", "itertools.zip_longest", "itertools.pairwise"].contains cls) = false) (hq : Q () s) : wpAny (model prog w) A (letOwnedTupleGo target (.ref I) v) Q E s := by
  have fin : wpAny (model prog w) A (do
      let (.ref r, .ref a) := (Value.ref I, v) | return
      let o ← load r
      match o.cls, o.data with
      | .type n, .fields vs =>
        if ["enumerate", "zip", "dict_itemiterator", "dict_reverseitemiterator", "odict_iterator", "itertools.zip_longest", "itertools.pairwise"].contains n && vs[0]? == some (rawInt a) then
          rule "for.unpacks-the-owned-tuple"
          updateField r 0 .none
      | _, _ => pure ()) Q E s := by
    cases v with
    | ref a =>
      refine wpAny_bind (wpAny_load ho ?_)
      rw [hc, hd]
      dsimp only
      rw [hn]
      exact wpAny_pure hq
    | _ => exact wpAny_pure hq
  unfold letOwnedTupleGo
  split
  · exact fin
  · exact fin
  · exact wpAny_pure hq
theorem Wk.list (hh : A.handled = none) {I ax : Addr} {vs : List Value} {nn : Nat} {ds : List D} (hX : ¬ X I) (hax : ¬ X ax) (hne : ax ≠ I) :
    Wk prog w A target X I (fun a => a = I) ds (fun i h => h.IsListIter I ax i ∧ h.get? ax = some (listOf vs.toArray nn) ∧ RepAll (fun a => X a ∨ a = I) h vs ds)
      (fun i _ h => h.IsListIter I ax (i + 1) ∧ h.get? ax = some (listOf vs.toArray nn) ∧ RepAll (fun a => X a ∨ a = I) h vs ds) where
  frame := fun i h h' ⟨a, b, r⟩ hk => ⟨a.at fun o e => hk _ o hX e, hk _ _ hax b, r.mono (fun _ y _ _ => y) fun b o nx e => hk b o (fun z => nx (.inl z)) e⟩
  item := fun i d s Q E hd hlv ⟨a, b, r⟩ hQ => by
    obtain ⟨v, hv, rv⟩ := r.get hd
    have hl : s.heap.IsList ax vs.toArray := ⟨_, b, rfl, _, rfl⟩
    refine wpAny_pyNext_list_item a hl (x := v) (by simpa using hv) fun h' hit' hs' => ?_
    have hk : ∀ b o, ¬ (X b ∨ b = I) → s.heap.get? b = some o → h'.get? b = some o := fun b o nx e => hs'.extBut b o (fun z => nx (.inr z)) e
    exact hQ v h' s.toks (rv.mono (fun _ y _ _ => y) hk) ⟨hit', hs'.extBut _ _ hne b, r.mono (fun _ y _ _ => y) hk⟩ fun b o nb e => hs'.extBut b o nb e
  go := fun i v s Q E ⟨a, b, r⟩ hQ => by
    obtain ⟨o, ho, hc, hd⟩ := id a
    exact go_fields ho hc hd (by decide +kernel) (hQ s.heap s.toks ⟨a, b, r⟩ fun _ _ _ e => e)
  done := fun s Q E ⟨a, b, r⟩ hQ => by
    have hl : s.heap.IsList ax vs.toArray := ⟨_, b, rfl, _, rfl⟩
    have := r.length
    exact wpAny_pyNext_list_end hh a hl (by simp [← this]) fun h' he' => hQ h' s.toks fun b o hb e => he' b o hb e
  self := fun i s Q E ⟨a, _, _⟩ hq => wpAny_pyIter_listiter a hq
  liveJ := fun i h ⟨⟨o, e, _⟩, _⟩ z hz => ⟨o, hz ▸ e⟩
  liveM := fun i v h ⟨⟨o, e, _⟩, _⟩ z hz => ⟨o, hz ▸ e⟩
  wrX := fun a e => e ▸ hX

theorem Wk.tup (hh : A.handled = none) {I ax : Addr} {vs : List Value} {nn : Nat} {ds : List D} (hX : ¬ X I) (hax : ¬ X ax) (hne : ax ≠ I) :
    Wk prog w A target X I (fun a => a = I) ds (fun i h => IsTupIter h I ax i ∧ h.get? ax = some (tupO vs nn) ∧ RepAll (fun a => X a ∨ a = I) h vs ds)
      (fun i _ h => IsTupIter h I ax (i + 1) ∧ h.get? ax = some (tupO vs nn) ∧ RepAll (fun a => X a ∨ a = I) h vs ds) where
  frame := fun i h h' ⟨⟨oo, a1, a2⟩, b, r⟩ hk => ⟨⟨oo, hk _ _ hX a1, a2⟩, hk _ _ hax b, r.mono (fun _ y _ _ => y) fun b o nx e => hk b o (fun z => nx (.inl z)) e⟩
  item := fun i d s Q E hd hlv ⟨a, b, r⟩ hQ => by
    obtain ⟨v, hv, rv⟩ := r.get hd
    have hl : IsTup s.heap ax vs.toArray := ⟨_, b, rfl, _, rfl⟩
    refine next_tuple_item a hl (x := v) (by simpa using hv) fun h' hit' hs' => ?_
    have hk : ∀ b o, ¬ (X b ∨ b = I) → s.heap.get? b = some o → h'.get? b = some o := fun b o nx e => hs'.extBut b o (fun z => nx (.inr z)) e
    exact hQ v h' s.toks (rv.mono (fun _ y _ _ => y) hk) ⟨hit', hs'.extBut _ _ hne b, r.mono (fun _ y _ _ => y) hk⟩ fun b o nb e => hs'.extBut b o nb e
  go := fun i v s Q E ⟨a, b, r⟩ hQ => by
    obtain ⟨o, ho, hc, hd⟩ := id a
    exact go_fields ho hc hd (by decide +kernel) (hQ s.heap s.toks ⟨a, b, r⟩ fun _ _ _ e => e)
  done := fun s Q E ⟨a, b, r⟩ hQ => by
    have hl : IsTup s.heap ax vs.toArray := ⟨_, b, rfl, _, rfl⟩
    have := r.length
    exact next_tuple_end hh a hl (by simp [← this]) fun h' he' => hQ h' s.toks fun b o hb e => he' b o hb e
  self := fun i s Q E ⟨a, _, _⟩ hq => wpAny_pyIter_tupleiter (t := ax) (i := i) a hq
  liveJ := fun i h ⟨⟨o, e, _⟩, _⟩ z hz => ⟨o, hz ▸ e⟩
  liveM := fun i v h ⟨⟨o, e, _⟩, _⟩ z hz => ⟨o, hz ▸ e⟩
  wrX := fun a e => e ▸ hX

/-- the ints of a range by ones -/
noncomputable def rints (a : Int) (n : Nat) : List D := (List.range n).map fun (i : Nat) => .int (a + (i : Int))
theorem rints_length (a : Int) (n : Nat) : (rints a n).length = n := by simp [rints]
theorem Wk.range (hh : A.handled = none) {I : Addr} {a : Int} {n : Nat} (hX : ¬ X I) :
    Wk prog w A target X I (fun a => a = I) (rints a n) (fun i h => i ≤ n ∧ IsRangeIter h I (a + (i : Nat) * 1) ((n : Int) - (i : Nat)) 1) (fun i _ h => i + 1 ≤ n ∧ IsRangeIter h I (a + ((i + 1 : Nat) : Int) * 1) ((n : Int) - ((i + 1 : Nat) : Int)) 1) where
  frame := fun i h h' ⟨l, a⟩ hk => ⟨l, hk _ _ hX a⟩
  item := fun i d s Q E hd hlv ⟨l, st⟩ hQ => by
    have hi : i < n := by
      have := (List.getElem?_eq_some_iff.mp hd).1
      rwa [rints_length] at this
    have W := Walks.range (prog := prog) (w := w) (A := A) hh I a 1 n
    refine W.item i s _ _ hi st fun v h' tk ⟨t, hv⟩ st' hk => ?_
    have hd' : d = .int (a + (i : Int) * 1) := by
      simp [rints, hi] at hd
      rw [← hd, Int.mul_one]
    subst hv; subst hd'
    exact hQ _ h' tk (.int _ _) ⟨hi, st'⟩ fun b o nb e => hk b o (by simpa using nb) e
  go := fun i v s Q E ⟨l, a⟩ hQ => go_fields a rfl rfl (by decide +kernel) (hQ s.heap s.toks ⟨l, a⟩ fun _ _ _ e => e)
  done := fun s Q E ⟨l, st⟩ hQ => by
    rw [rints_length] at st
    exact (Walks.range (prog := prog) (w := w) (A := A) hh I a 1 n).done s _ _ st fun h' tk hk => hQ h' tk fun b o nb e => hk b o (by simpa using nb) e
  self := fun i s Q E ⟨l, a'⟩ hq => (Walks.range (prog := prog) (w := w) (A := A) hh I a 1 n).self i s _ _ a' hq
  liveJ := fun i h ⟨l, e⟩ z hz => ⟨_, hz ▸ e⟩
  liveM := fun i v h ⟨l, e⟩ z hz => ⟨_, hz ▸ e⟩
  wrX := fun a e => e ▸ hX

/-- pairs -/
noncomputable def pairs (as bs : List D) : List D := (as.zip bs).map fun p => .tup [p.1, p.2]
inductive ZipJ (X : Addr → Prop) (z TI TO i1 i2 l1 l2 : Addr) (vs ws : List Value) (n1 n2 : Nat) (as bs : List D) (i : Nat) (h : Heap) : Prop
  | mk (a1 : IsZip h z TI TO .none) (a2 : IsPair h TI (.ref i1) (.ref i2)) (a3 : ∃ a b, IsPair h TO a b) (a4 : h.IsListIter i1 l1 i) (a5 : h.IsListIter i2 l2 i) (a6 : h.get? l1 = some (listOf vs.toArray n1)) (a7 : h.get? l2 = some (listOf ws.toArray n2))
    (r : RepAll (fun a => X a ∨ (a = z ∨ a = TO ∨ a = i1 ∨ a = i2)) h vs as ∧ RepAll (fun a => X a ∨ (a = z ∨ a = TO ∨ a = i1 ∨ a = i2)) h ws bs) : ZipJ X z TI TO i1 i2 l1 l2 vs ws n1 n2 as bs i h
inductive ZipM (X : Addr → Prop) (z TI TO i1 i2 l1 l2 : Addr) (vs ws : List Value) (n1 n2 : Nat) (as bs : List D) (i : Nat) (v : Value) (h : Heap) : Prop
  | mk (T : Addr) (e : v = .ref T) (a1 : IsZip h z TI TO (rawInt T)) (a2 : IsPair h TI (.ref i1) (.ref i2)) (a3 : ∃ a b, IsPair h TO a b) (a4 : h.IsListIter i1 l1 (i + 1)) (a5 : h.IsListIter i2 l2 (i + 1)) (a6 : h.get? l1 = some (listOf vs.toArray n1)) (a7 : h.get? l2 = some (listOf ws.toArray n2))
    (r : RepAll (fun a => X a ∨ (a = z ∨ a = TO ∨ a = i1 ∨ a = i2)) h vs as ∧ RepAll (fun a => X a ∨ (a = z ∨ a = TO ∨ a = i1 ∨ a = i2)) h ws bs) : ZipM X z TI TO i1 i2 l1 l2 vs ws n1 n2 as bs i v h
theorem Wk.zip (hh : A.handled = none) {z TI TO i1 i2 l1 l2 : Addr} {elts : List PySem.Expr} {x1 : Nat} {tpos : Pos} (Dd : ZipApart z TI TO i1 i2 l1 l2) {vs ws : List Value} {n1 n2 : Nat} {as bs : List D}
    (hz : ¬ X z) (hTO : ¬ X TO) (hTI : ¬ X TI) (hi1 : ¬ X i1) (hi2 : ¬ X i2) (h1 : ¬ X l1) (h2 : ¬ X l2) :
    Wk prog w A (.Tuple elts x1 tpos) X z (fun a => a = z ∨ a = TO ∨ a = i1 ∨ a = i2) (pairs as bs)
      (ZipJ X z TI TO i1 i2 l1 l2 vs ws n1 n2 as bs)
      (ZipM X z TI TO i1 i2 l1 l2 vs ws n1 n2 as bs)  where
  frame := fun i h h' ⟨a1, a2, ⟨x, y, a3⟩, a4, a5, a6, a7, r1, r2⟩ hk => ⟨hk _ _ hz a1, hk _ _ hTI a2, ⟨x, y, hk _ _ hTO a3⟩, a4.at fun o e => hk _ o hi1 e, a5.at fun o e => hk _ o hi2 e, hk _ _ h1 a6, hk _ _ h2 a7,
    r1.mono (fun _ y _ _ => y) fun b o nx e => hk b o (fun z => nx (.inl z)) e, r2.mono (fun _ y _ _ => y) fun b o nx e => hk b o (fun z => nx (.inl z)) e⟩
  item := fun i d s Q E hd hlv ⟨a1, a2, ⟨x, y, a3⟩, a4, a5, a6, a7, r1, r2⟩ hQ => by
    have hz' : ∃ da db, as[i]? = some da ∧ bs[i]? = some db ∧ d = .tup [da, db] := by
      simp only [pairs, List.getElem?_map, Option.map_eq_some_iff] at hd
      obtain ⟨⟨da, db⟩, e1, e2⟩ := hd
      obtain ⟨e3, e4⟩ := List.getElem?_zip_eq_some.mp e1
      exact ⟨da, db, e3, e4, e2.symm⟩
    obtain ⟨da, db, ea, eb, rfl⟩ := hz'
    obtain ⟨va, hva, ra⟩ := r1.get ea
    obtain ⟨vb, hvb, rb⟩ := r2.get eb
    refine wpAny_pyNext_zip_item Dd a1 a2 a3 a4 a5 ⟨_, a6, rfl, _, rfl⟩ ⟨_, a7, rfl, _, rfl⟩ (x := va) (y := vb) (by simpa using hva) (by simpa using hvb) fun h' c1 c2 c3 c4 c5 c6 hk => ?_
    have hk' : ∀ b o, ¬ (X b ∨ (b = z ∨ b = TO ∨ b = i1 ∨ b = i2)) → s.heap.get? b = some o → h'.get? b = some o := fun b o nx e =>
      hk b o (fun q => nx (.inr (.inl q))) (fun q => nx (.inr (.inr (.inl q)))) (fun q => nx (.inr (.inr (.inr (.inl q))))) (fun q => nx (.inr (.inr (.inr (.inr q))))) e
    have lt : ∀ {c o}, s.heap.get? c = some o → s.heap.objs.size ≠ c := fun e => Nat.ne_of_gt (Heap.lt_size e)
    obtain ⟨o4, e4, _⟩ := id a4
    obtain ⟨o5, e5, _⟩ := id a5
    have hT : ¬ (X s.heap.objs.size ∨ (s.heap.objs.size = z ∨ s.heap.objs.size = TO ∨ s.heap.objs.size = i1 ∨ s.heap.objs.size = i2)) := by
      rintro (q | q | q | q | q)
      · obtain ⟨o, e⟩ := hlv _ q; exact lt e rfl
      · exact lt a1 q
      · exact lt a3 q
      · exact lt e4 q
      · exact lt e5 q
    refine hQ _ h' s.toks (.tup (n := 0) (vs := [va, vb]) hT c5 (.cons (ra.mono (fun _ y _ _ => y) hk') (.cons (rb.mono (fun _ y _ _ => y) hk') .nil)))
      ⟨_, rfl, c1, hk _ _ Dd.TIz Dd.TITO Dd.TIi1 Dd.TIi2 a2, ⟨_, _, c2⟩, c3, c4, hk _ _ Dd.l1z Dd.l1TO Dd.l1i1 Dd.l1i2 a6, hk _ _ Dd.l2z Dd.l2TO Dd.l2i1 Dd.l2i2 a7, r1.mono (fun _ y _ _ => y) hk', r2.mono (fun _ y _ _ => y) hk'⟩
      fun b o nb e => hk b o (fun q => nb (.inl q)) (fun q => nb (.inr (.inl q))) (fun q => nb (.inr (.inr (.inl q)))) (fun q => nb (.inr (.inr (.inr q)))) e
  go := fun i v s Q E ⟨T, e, a1, a2, ⟨x, y, a3⟩, a4, a5, a6, a7, r1, r2⟩ hQ => by
    subst e
    refine wpAny_letOwnedTupleGo_zip a1 fun h' hz' hs' => ?_
    have hk' : ∀ b o, ¬ (X b ∨ (b = z ∨ b = TO ∨ b = i1 ∨ b = i2)) → s.heap.get? b = some o → h'.get? b = some o := fun b o nx e => hs'.extBut b o (fun q => nx (.inr (.inl q))) e
    exact hQ h' s.toks ⟨hz', hs'.extBut _ _ Dd.TIz a2, ⟨x, y, hs'.extBut _ _ Dd.TOz a3⟩, a4.extBut hs'.extBut Dd.i1z, a5.extBut hs'.extBut Dd.i2z, hs'.extBut _ _ Dd.l1z a6, hs'.extBut _ _ Dd.l2z a7,
      r1.mono (fun _ y _ _ => y) hk', r2.mono (fun _ y _ _ => y) hk'⟩ fun b o nb e => hs'.extBut b o (fun q => nb (.inl q)) e
  done := fun s Q E ⟨a1, a2, ⟨x, y, a3⟩, a4, a5, a6, a7, r1, r2⟩ hQ => by
    have l1 := r1.length
    have l2 := r2.length
    have hend : vs.toArray[(pairs as bs).length]? = none ∨ ws.toArray[(pairs as bs).length]? = none := by
      simp only [pairs, List.length_map, List.length_zip, List.getElem?_toArray]
      rcases Nat.le_total as.length bs.length with h | h
      · exact .inl (by rw [Nat.min_eq_left h, ← l1]; exact List.getElem?_eq_none (Nat.le_refl _))
      · exact .inr (by rw [Nat.min_eq_right h, ← l2]; exact List.getElem?_eq_none (Nat.le_refl _))
    exact wpAny_pyNext_zip_end hh Dd a1 a2 a3 a4 a5 ⟨_, a6, rfl, _, rfl⟩ ⟨_, a7, rfl, _, rfl⟩ hend fun h' hk => hQ h' s.toks fun b o nb e =>
      hk b o (fun q => nb (.inl q)) (fun q => nb (.inr (.inl q))) (fun q => nb (.inr (.inr (.inl q)))) (fun q => nb (.inr (.inr (.inr q)))) e
  self := fun i s Q E ⟨a1, _, _, _, _, _, _, _⟩ hq => wpAny_pyIter_zip a1 hq
  liveJ := fun i h ⟨a1, a2, ⟨x, y, a3⟩, ⟨o4, a4, _⟩, ⟨o5, a5, _⟩, _, _, _⟩ a ha => by
    rcases ha with rfl | rfl | rfl | rfl
    all_goals first | exact ⟨_, a1⟩ | exact ⟨_, a3⟩ | exact ⟨_, a4⟩ | exact ⟨_, a5⟩
  liveM := fun i v h ⟨T, _, a1, a2, ⟨x, y, a3⟩, ⟨o4, a4, _⟩, ⟨o5, a5, _⟩, _, _, _⟩ a ha => by
    rcases ha with rfl | rfl | rfl | rfl
    all_goals first | exact ⟨_, a1⟩ | exact ⟨_, a3⟩ | exact ⟨_, a4⟩ | exact ⟨_, a5⟩
  wrX := fun a ha => by rcases ha with rfl | rfl | rfl | rfl <;> assumption
end
end Mine
end

section
set_option linter.unusedVariables false
open PySem PySem.W PyProof.Rows
namespace Mine

noncomputable def addX (cx : Cx) (wr : Addr → Prop) : Cx := { cx with X := fun a => cx.X a ∨ wr a }
theorem XX_add (X wr : Addr → Prop) (own) : XX (fun a => X a ∨ wr a) own = fun a => XX X own a ∨ wr a := by
  funext a; apply propext
  constructor
  · rintro ((x | x) | x)
    all_goals first | exact .inl (.inl x) | exact .inr x | exact .inl (.inr x)
  · rintro ((x | x) | x)
    all_goals first | exact .inl (.inl x) | exact .inr x | exact .inl (.inr x)

section
variable {prog : Program} {h0 : Heap} {cx : Cx} {n : Nat} {S₀ : S} {s s' : Shared} {wr : Addr → Prop}
theorem St.shrink {C' : Addr → Option Obj} {X' : Addr → Prop} (t : St { cx with C := C', X := X' } S₀ s) (hC : ∀ b o, cx.C b = some o → C' b = some o) (hX : ∀ a, cx.X a → X' a) : St cx S₀ s := by
  have hx : ∀ a, XX cx.X S₀.own a → ∀ o, s.heap.get? a = some o → XX X' S₀.own a := fun a x _ _ => x.elim (fun x => .inl (hX a x)) .inr
  obtain ⟨m, hn, hv⟩ := t.ns
  refine ⟨t.rest, fun b o e => t.keep b o (hC b o e), fun a x => t.live a (hX a x), ⟨m, hn, fun x d e => ?_⟩, t.cells, fun l ds e => ?_, fun p e => ?_⟩
  · obtain ⟨v, a, r⟩ := hv x d e
    exact ⟨v, a, r.mono hx fun _ _ _ e => e⟩
  · obtain ⟨a, b, vs, nn, q, r⟩ := t.own l ds e
    refine ⟨?_, b, vs, nn, q, r.mono hx fun _ _ _ e => e⟩
    cases q : cx.C l with
    | none => rfl
    | some o => have := hC l o q; rw [show C' l = none from a] at this; cases this
  · obtain ⟨vc, g, st, k, tg, ts, tk, ns, nn, a, b, r⟩ := t.pen p e
    exact ⟨vc, g, st, k, tg, ts, tk, ns, nn, a, b.mono hx fun _ _ _ e => e, r⟩
theorem St.setC {C' : Addr → Option Obj} (t : St cx S₀ s) (hC : ∀ b o, C' b = some o → s.heap.get? b = some o) (ho : ∀ l ds, S₀.own = some (l, ds) → C' l = none) : St { cx with C := C' } S₀ s :=
  ⟨t.rest, hC, t.live, t.ns, t.cells, fun l ds e => ⟨ho l ds e, (t.own l ds e).2⟩, t.pen⟩
theorem St.grow (t : St cx S₀ s) (k : Kp s s') (hw : ∀ a, wr a → s.heap.get? a = none) (hl : ∀ a, wr a → ∃ o, s'.heap.get? a = some o) : St (addX cx wr) S₀ s' := by
  obtain ⟨h', tk, rfl, hk⟩ := k
  obtain ⟨h, tk', rfl⟩ := t.rest
  have hx : ∀ a, XX (addX cx wr).X S₀.own a → ∀ o, ({ cx.s0 with heap := h, toks := tk' } : Shared).heap.get? a = some o → XX cx.X S₀.own a := by
    rintro a ((x | x) | x) o e
    · exact .inl x
    · rw [hw a x] at e; cases e
    · exact .inr x
  obtain ⟨m, hn, hv⟩ := t.ns
  refine ⟨⟨h', tk, rfl⟩, fun b o e => hk b o (t.keep b o e), fun a x => ?_, ⟨m, hn.keeps hk, fun x d e => ?_⟩, fun ho x c h1 h2 => ?_, fun l ds e => ?_, fun p e => ?_⟩
  · rcases x with x | x
    · obtain ⟨o, e⟩ := t.live a x; exact ⟨o, hk a o e⟩
    · exact hl a x
  · obtain ⟨v, a, r⟩ := hv x d e
    exact ⟨v, a.keeps fun c q => q.keeps hk, r.mono hx fun b o _ e => hk b o e⟩
  · obtain ⟨v, q⟩ := t.cells ho x c h1 h2
    exact ⟨v, q.keeps hk⟩
  · obtain ⟨a, b, vs, nn, q, r⟩ := t.own l ds e
    exact ⟨a, b, vs, nn, hk _ _ q, r.mono hx fun b o _ e => hk b o e⟩
  · obtain ⟨vc, g, st, k, tg, ts, tk, ns, nn, a, b, r⟩ := t.pen p e
    exact ⟨vc, g, st, k, tg, ts, tk, ns, nn, hk _ _ a, b.mono hx fun b o _ e => hk b o e, r⟩
/-- the iterator's own step -/
theorem St.stepW (c : CxOK h0 n cx) (t : St (addX cx wr) S₀ s) {h' : Heap} {tk : Nat} (hk : ∀ b o, ¬ wr b → s.heap.get? b = some o → h'.get? b = some o) (hw : ∀ a, wr a → ¬ XX cx.X S₀.own a) (hC : ∀ a, wr a → cx.C a = none)
    (hl : ∀ a, wr a → ∃ o, h'.get? a = some o) : St (addX cx wr) S₀ { s with heap := h', toks := tk } := by
  obtain ⟨h, tk', e0⟩ := t.rest
  have hx : ∀ b o, ¬ XX (addX cx wr).X S₀.own b → s.heap.get? b = some o → h'.get? b = some o := fun b o nx e => hk b o (fun q => nx (.inl (.inr q))) e
  have hXw : ∀ a, cx.X a → ¬ wr a := fun a x q => hw a q (.inl x)
  obtain ⟨m, hn, hv⟩ := t.ns
  have hcell : ∀ x a v, cx.env.cells.lookup x = some a → s.heap.IsCell a v → h'.IsCell a v := fun x a v e ⟨o, ho, hd⟩ => ⟨o, hk a o (hXw a (c.cellsX x a e)) ho, hd⟩
  refine ⟨⟨h', tk, by rw [e0]⟩, fun b o e => hk b o (fun q => ?_) (t.keep b o e), fun a x => ?_, ⟨m, hn.at' fun o e => hk _ o (hXw _ c.LX) e, fun x d e => ?_⟩, fun ho x a h1 h2 => ?_, fun l ds e => ?_, fun p e => ?_⟩
  · have := hC b q
    rw [show cx.C b = some o from e] at this; cases this
  · rcases x with x | x
    · obtain ⟨o, e⟩ := t.live a (.inl x); exact ⟨o, hk a o (hXw a x) e⟩
    · exact hl a x
  · obtain ⟨v, a, r⟩ := hv x d e
    refine ⟨v, ?_, r.mono (fun _ y _ _ => y) hx⟩
    rcases a with a | ⟨a, cc, e1, e2⟩
    · exact .inl a
    · exact .inr ⟨a, cc, e1, hcell x cc _ e1 e2⟩
  · obtain ⟨v, q⟩ := t.cells ho x a h1 h2
    exact ⟨v, hcell x a v h2 q⟩
  · obtain ⟨a, b, vs, nn, q, r⟩ := t.own l ds e
    exact ⟨a, b, vs, nn, hk l _ (fun q => hw l q (.inr ⟨ds, e⟩)) q, r.mono (fun _ y _ _ => y) hx⟩
  · obtain ⟨vc, g, st, k, tg, ts, tk, ns, nn, a, b, r⟩ := t.pen p e
    exact ⟨vc, g, st, k, tg, ts, tk, ns, nn, hk p _ (hXw p (c.penX p e).1) a, b.mono (fun _ y _ _ => y) hx, r⟩
/-- the iterator's last step -/
theorem St.unwr (c : CxOK h0 n cx) (t : St (addX cx wr) S₀ s) {h' : Heap} {tk : Nat} (hk : ∀ b o, ¬ wr b → s.heap.get? b = some o → h'.get? b = some o) (hw : ∀ a, wr a → ¬ XX cx.X S₀.own a) (hC : ∀ a, wr a → cx.C a = none) :
    St cx S₀ { s with heap := h', toks := tk } := by
  obtain ⟨h, tk', e0⟩ := t.rest
  have hx0 : ∀ a, XX cx.X S₀.own a → ∀ o, s.heap.get? a = some o → XX (addX cx wr).X S₀.own a := fun a x _ _ => x.elim (fun x => .inl (.inl x)) .inr
  have hx : ∀ b o, ¬ XX (addX cx wr).X S₀.own b → s.heap.get? b = some o → h'.get? b = some o := fun b o nx e => hk b o (fun q => nx (.inl (.inr q))) e
  have hXw : ∀ a, cx.X a → ¬ wr a := fun a x q => hw a q (.inl x)
  obtain ⟨m, hn, hv⟩ := t.ns
  have hcell : ∀ x a v, cx.env.cells.lookup x = some a → s.heap.IsCell a v → h'.IsCell a v := fun x a v e ⟨o, ho, hd⟩ => ⟨o, hk a o (hXw a (c.cellsX x a e)) ho, hd⟩
  refine ⟨⟨h', tk, by rw [e0]; rfl⟩, fun b o e => hk b o (fun q => ?_) (t.keep b o e), fun a x => ?_, ⟨m, hn.at' fun o e => hk _ o (hXw _ c.LX) e, fun x d e => ?_⟩, fun ho x a h1 h2 => ?_, fun l ds e => ?_, fun p e => ?_⟩
  · have := hC b q
    rw [show cx.C b = some o from e] at this; cases this
  · obtain ⟨o, e⟩ := t.live a (.inl x); exact ⟨o, hk a o (hXw a x) e⟩
  · obtain ⟨v, a, r⟩ := hv x d e
    refine ⟨v, ?_, r.mono hx0 hx⟩
    rcases a with a | ⟨a, cc, e1, e2⟩
    · exact .inl a
    · exact .inr ⟨a, cc, e1, hcell x cc _ e1 e2⟩
  · obtain ⟨v, q⟩ := t.cells ho x a h1 h2
    exact ⟨v, hcell x a v h2 q⟩
  · obtain ⟨a, b, vs, nn, q, r⟩ := t.own l ds e
    exact ⟨a, b, vs, nn, hk l _ (fun q => hw l q (.inr ⟨ds, e⟩)) q, r.mono hx0 hx⟩
  · obtain ⟨vc, g, st, k, tg, ts, tk, ns, nn, a, b, r⟩ := t.pen p e
    exact ⟨vc, g, st, k, tg, ts, tk, ns, nn, hk p _ (hXw p (c.penX p e).1) a, b.mono hx0 hx, r⟩
end

inductive AsR (cx : Cx) (K : S → Prop) (s' : Shared) : Prop
  | mk (S' : S) (t : St cx S' s') (k : K S') : AsR cx K s'
/-- an assignment of a value that bears d -/
def Asg (prog : Program) (cx : Cx) (S₀ : S) (target : PySem.Expr) (d : D) (K : S → Prop) : Prop :=
  ∀ s v, St cx S₀ s → Rep (XX cx.X S₀.own) s.heap v d → wpAny (model prog cx.w) cx.A (assign target cx.env v) (fun _ => AsR cx K) (fun _ _ => False) s
section
variable {prog : Program} {h0 : Heap} {cx : Cx} {n : Nat} {S₀ : S} {K : S → Prop}
theorem Asg.name (c : CxOK h0 n cx) {x : Str} {pos : Pos} {d : D} (hx : Stores cx x) (h : K (stored S₀ x d)) : Asg prog cx S₀ (.Name x pos) d K := fun s v t r =>
  assign_Name (t.store c hx r fun s' t' _ => ⟨_, t', h⟩)
theorem Asg.pair (c : CxOK h0 n cx) {x y : Str} {pos px py : Pos} {k : Nat} {d e : D} (hx : Stores cx x) (hy : Stores cx y) (h : K (stored (stored S₀ x d) y e)) :
    Asg prog cx S₀ (.Tuple [.Name x px, .Name y py] k pos) (.tup [d, e]) K := fun s v t r => by
  cases r with
  | @tup a vs nn _ nx he r =>
    cases r with
    | @cons v1 _ _ _ r1 r =>
      cases r with
      | @cons v2 _ _ _ r2 r =>
        cases r
        refine assign_Tuple_tuple c.lv.hd (items := [v1, v2].toArray) ⟨_, he, rfl, _, rfl⟩ rfl rfl fun h' hs' => ?_
        have hk : ∀ b o, s.heap.get? b = some o → h'.get? b = some o := fun b o e => hs' b o (Nat.ne_of_lt (Heap.lt_size e)) e
        have k : Kp s { s with heap := h' } := ⟨_, _, rfl, hk⟩
        have t₁ := t.keeps c k
        show wpAny _ _ (do holding [v2] (assign (.Name x px) cx.env v1); holding [] (assign (.Name y py) cx.env v2); pure ()) _ _ _
        refine wpAny_bind (wpAny_holding (assign_Name (t₁.store c hx (r1.keeps hk) fun s₂ t₂ up => ?_)))
        exact wpAny_bind (wpAny_holding (assign_Name (t₂.store c hy (up _ _ (r2.keeps hk)) fun s₃ t₃ _ => wpAny_pure ⟨_, t₃, h⟩)))
end

/-- where to iterate: the items, and how they come -/
inductive ItR (prog : Program) (cx : Cx) (S₀ : S) (target : PySem.Expr) (s : Shared) (Q : List D → Nat → Prop) (it : Value) (s₂ : Shared) : Prop
  | mk (ds : List D) (k : Nat) (I : Addr) (wr : Addr → Prop) (e : it = .ref I) (t : St (addX cx wr) { S₀ with cnt := k } s₂) (p : KeepsBut cx.pen s s₂)
    (W : ∀ Y : Addr → Prop, (∀ a, Y a → s₂.heap.get? a = none) → ∃ J M, Wk prog cx.w cx.A target (fun a => XX cx.X S₀.own a ∨ Y a) I wr ds J M ∧ J 0 s₂.heap) (hC : ∀ a, wr a → cx.C a = none) (hf : ∀ a, wr a → s.heap.get? a = none) (q : Q ds k) :
    ItR prog cx S₀ target s Q it s₂
def Itr (prog : Program) (cx : Cx) (S₀ : S) (target iter : PySem.Expr) (Q : List D → Nat → Prop) : Prop :=
  ∀ s, St cx S₀ s → wpAny (model prog cx.w) cx.A (eval iter cx.env) (fun xv s₁ => wpAny (model prog cx.w) cx.A (pyIter xv) (ItR prog cx S₀ target s Q) (fun _ _ => False) s₁) (fun _ _ => False) s

section
variable {prog : Program} {h0 : Heap} {cx : Cx} {n : Nat} {S₀ : S} {target iter : PySem.Expr} {Q : List D → Nat → Prop}
theorem C_none (t : St cx S₀ s) {a : Addr} (h : s.heap.get? a = none) : cx.C a = none := by
  cases q : cx.C a with
  | none => rfl
  | some o => rw [t.keep a o q] at h; cases h
theorem get_none_but {p : Option Addr} {s s' : Shared} (k : KeepsBut p s s') {a : Addr} (h : s'.heap.get? a = none) (hp : p ≠ some a) : s.heap.get? a = none := by
  cases q : s.heap.get? a with
  | none => rfl
  | some o => rw [k.heap a o hp q] at h; cases h
theorem fresh_size (h : Heap) : h.get? h.objs.size = none := by
  cases q : h.get? h.objs.size with
  | none => rfl
  | some o => exact absurd (Heap.lt_size q) (Nat.lt_irrefl _)
theorem pen_live (t : St cx S₀ s) {a : Addr} (h : s.heap.get? a = none) : cx.pen ≠ some a := fun e => by
  obtain ⟨_, _, _, _, _, _, _, _, _, q, _⟩ := t.pen a e
  rw [h] at q; cases q
inductive LstQ (Q : List D → Nat → Prop) (d : D) (k : Nat) : Prop
  | mk (ds : List D) (e : d = .list ds) (q : Q ds k) : LstQ Q d k
inductive TupQ (Q : List D → Nat → Prop) (d : D) (k : Nat) : Prop
  | mk (ds : List D) (e : d = .tup ds) (q : Q ds k) : TupQ Q d k
inductive RngQ (Q : List D → Nat → Prop) (d : D) (k : Nat) : Prop
  | mk (a : Int) (m : Nat) (e : d = .rng a (a + (m : Nat))) (l1 : -1000000 ≤ a) (l2 : a ≤ 1000000) (l3 : m ≤ 1000000) (q : Q (rints a m) k) : RngQ Q d k
theorem Itr.list (c : CxOK h0 n cx) (h : Evp prog cx S₀ iter (LstQ Q)) : Itr prog cx S₀ target iter Q := fun s t => by
  refine wpAny_mono (h s t) (fun xv s₁ ⟨d, k, t₁, k₁, r, ds, e, q⟩ => ?_) fun _ _ x => x
  subst e
  have p := t₁.pc c
  cases r with
  | @list ax vs nn _ nx he r =>
    refine wpAny_pyIter_list ⟨_, he, rfl, _, rfl⟩ ?_
    have hf := fresh_size s₁.heap
    have hne : ax ≠ s₁.heap.objs.size := Nat.ne_of_lt (Heap.lt_size he)
    refine ⟨ds, k, s₁.heap.objs.size, fun a => a = s₁.heap.objs.size, rfl, t₁.grow kp_push0 (fun a e => e ▸ hf) (fun a e => e ▸ ⟨_, Heap.get?_push_size _ rfl⟩), k₁.trans (kp_push0.but _), fun Y hY => ?_,
      fun a e => e ▸ C_none t₁ hf, fun a e => e ▸ get_none_but k₁ hf (pen_live t₁ hf), q⟩
    have hYl : ∀ {a o}, s₁.heap.get? a = some o → ¬ Y a := fun e y => by have := hY _ y; rw [Heap.get?_push_of_some _ e] at this; cases this
    refine ⟨_, _, Wk.list c.lv.hd (vs := vs) (nn := nn) (fun x => x.elim p.new fun y => by have := hY _ y; rw [Heap.get?_push_size _ rfl] at this; cases this) (fun x => x.elim nx (hYl he)) hne,
      ⟨_, Heap.get?_push_size _ rfl, rfl, rfl⟩, Heap.get?_push_of_some _ he, r.mono (fun a x o e => ?_) fun b o _ e => Heap.get?_push_of_some _ e⟩
    rcases x with (x | x) | x
    · exact x
    · exact absurd x (hYl e)
    · subst x; rw [hf] at e; cases e
theorem Itr.tup (c : CxOK h0 n cx) (h : Evp prog cx S₀ iter (TupQ Q)) : Itr prog cx S₀ target iter Q := fun s t => by
  refine wpAny_mono (h s t) (fun xv s₁ ⟨d, k, t₁, k₁, r, ds, e, q⟩ => ?_) fun _ _ x => x
  subst e
  have p := t₁.pc c
  cases r with
  | @tup ax vs nn _ nx he r =>
    refine iter_tuple (t := ax) (items := vs.toArray) ⟨_, he, rfl, _, rfl⟩ ?_
    have hf := fresh_size s₁.heap
    have hne : ax ≠ s₁.heap.objs.size := Nat.ne_of_lt (Heap.lt_size he)
    refine ⟨ds, k, s₁.heap.objs.size, fun a => a = s₁.heap.objs.size, rfl, t₁.grow kp_push0 (fun a e => e ▸ hf) (fun a e => e ▸ ⟨_, Heap.get?_push_size _ rfl⟩), k₁.trans (kp_push0.but _), fun Y hY => ?_,
      fun a e => e ▸ C_none t₁ hf, fun a e => e ▸ get_none_but k₁ hf (pen_live t₁ hf), q⟩
    have hYl : ∀ {a o}, s₁.heap.get? a = some o → ¬ Y a := fun e y => by have := hY _ y; rw [Heap.get?_push_of_some _ e] at this; cases this
    refine ⟨_, _, Wk.tup c.lv.hd (vs := vs) (nn := nn) (fun x => x.elim p.new fun y => by have := hY _ y; rw [Heap.get?_push_size _ rfl] at this; cases this) (fun x => x.elim nx (hYl he)) hne,
      ⟨_, Heap.get?_push_size _ rfl, rfl, rfl⟩, Heap.get?_push_of_some _ he, r.mono (fun a x o e => ?_) fun b o _ e => Heap.get?_push_of_some _ e⟩
    rcases x with (x | x) | x
    · exact x
    · exact absurd x (hYl e)
    · subst x; rw [hf] at e; cases e
/-- a small range by ones -/
theorem Itr.rng (c : CxOK h0 n cx) (h : Evp prog cx S₀ iter (RngQ Q)) : Itr prog cx S₀ target iter Q := fun s t => by
  refine wpAny_mono (h s t) (fun xv s₁ ⟨d, k, t₁, k₁, r, a, m, e, l1, l2, l3, q⟩ => ?_) fun _ _ x => x
  subst e
  have p := t₁.pc c
  cases r with
  | @rng rr _ _ tt uu vv nx he =>
    have hsz : Builtin.Range.rangeSize a (a + (m : Nat)) 1 = (m : Int) := by
      rw [rangeSize_nat]; congr 1; omega
    have hsm : Builtin.Range.small a (a + (m : Nat)) 1 = true := by
      unfold Builtin.Range.small
      rw [hsz]
      simp only [Builtin.Range.rangeFitsLong, Bool.and_eq_true, decide_eq_true_eq, Bool.or_eq_true, beq_iff_eq]
      rw [if_pos (by decide)]
      simp only [Bool.and_eq_true, decide_eq_true_eq]
      omega
    refine wpAny_pyIter_range he hsm ?_
    have hf := fresh_size s₁.heap
    refine ⟨rints a m, k, s₁.heap.objs.size, fun a => a = s₁.heap.objs.size, rfl, t₁.grow kp_push0 (fun a e => e ▸ hf) (fun a e => e ▸ ⟨_, Heap.get?_push_size _ rfl⟩), k₁.trans (kp_push0.but _), fun Y hY => ?_,
      fun a e => e ▸ C_none t₁ hf, fun a e => e ▸ get_none_but k₁ hf (pen_live t₁ hf), q⟩
    refine ⟨_, _, Wk.range c.lv.hd (a := a) (n := m) (fun x => x.elim p.new fun y => by have := hY _ y; rw [Heap.get?_push_size _ rfl] at this; cases this), Nat.zero_le _, ?_⟩
    rw [hsz]
    simpa using Heap.get?_push_size s₁.heap (o := { cls := .type "range_iterator", data := .fields #[rawInt a, rawInt (m : Int), rawInt 1] }) rfl
end

section
variable {prog : Program} {h0 : Heap} {cx : Cx} {n : Nat} {S₀ : S} {E : Value → Shared → Prop} {K : S → Prop} {R : D → S → Prop}
theorem CxOK.loop (c : CxOK h0 n cx) {wr : Addr → Prop} {C' : Addr → Option Obj} (h1 : ∀ b o, cx.C b = some o → C' b = some o) (h2 : ∀ a, cx.X a → cx.C a = none → C' a = none) : CxOK h0 n { addX cx wr with C := C' } :=
  ⟨c.lv, fun b o e => h1 b o (c.base b o e), c.kind, c.glob, c.blt, .inl c.LX, h2 _ c.LX c.LC, fun o x a p q => let ⟨z1, z2, z3⟩ := c.cells o x a p q; ⟨.inl z1, h2 _ z1 z2, z3⟩, fun p e => let ⟨z1, z2⟩ := c.penX p e; ⟨.inl z1, h2 _ z1 z2⟩, fun x a e => .inl (c.cellsX x a e)⟩
open Classical in
noncomputable def protect (C : Addr → Option Obj) (X : Addr → Prop) (h : Heap) : Addr → Option Obj := fun b => match C b with
  | some o => some o
  | none => if X b then none else h.get? b
theorem protect_ge {C : Addr → Option Obj} {X : Addr → Prop} {h : Heap} : ∀ b o, C b = some o → protect C X h b = some o := fun b o e => by unfold protect; rw [e]
theorem protect_none {C : Addr → Option Obj} {X : Addr → Prop} {h : Heap} {a : Addr} (x : X a) (e : C a = none) : protect C X h a = none := by unfold protect; rw [e]; exact if_pos x
theorem protect_le {C : Addr → Option Obj} {X : Addr → Prop} {h : Heap} (hk : ∀ b o, C b = some o → h.get? b = some o) : ∀ b o, protect C X h b = some o → h.get? b = some o := fun b o e => by
  unfold protect at e
  split at e
  · rename_i o' q; cases e; exact hk b _ q
  · split at e
    · cases e
    · exact e
theorem protect_has {C : Addr → Option Obj} {X : Addr → Prop} {h : Heap} (hk : ∀ b o, C b = some o → h.get? b = some o) {b : Addr} {o : Obj} (nx : ¬ X b) (e : h.get? b = some o) : protect C X h b = some o := by
  unfold protect
  split
  · rename_i o' q; have := hk b o' q; rw [e] at this; exact this.symm
  · rw [if_neg nx]; exact e

/-- one turn's frame: more is protected, more is excluded -/
noncomputable def Cx.at (cx : Cx) (C' : Addr → Option Obj) (X' : Addr → Prop) : Cx := { cx with C := C', X := X' }
def Turn (cx cx' : Cx) : Prop := ∃ C' X', cx' = cx.at C' X'

theorem For_core (c : CxOK h0 n cx) {target : PySem.Expr} {body : List Stmt} {ds : List D} {I : Addr} {wr : Addr → Prop} {J : Nat → Heap → Prop} {M : Nat → Value → Heap → Prop} {Xe : Addr → Prop} {Inv : Nat → S → Prop}
    (W : Wk prog cx.w cx.A target Xe I wr ds J M) (hX : ∀ i S, Inv i S → XX cx.X S.own = Xe) (hC : ∀ a, wr a → cx.C a = none) {S₁ : S} {s₂ : Shared} (t₂ : St (addX cx wr) S₁ s₂) (hJ : J 0 s₂.heap) (hI : Inv 0 S₁)
    (turn : ∀ cx', Turn cx cx' → CxOK h0 n cx' → ∀ i d S, ds[i]? = some d → Inv i S → Asg prog cx' S target d fun S' => Exps prog cx' (fun _ _ => False) S' body (Inv (i + 1)) R)
    (done : ∀ S, Inv ds.length S → K S) :
    codeAny (model prog cx.w) cx.A (.forLoop target (.ref I) body [] cx.env) (fun r s' => match r with | .ok f => Post cx K R f s' | .error e => cameBackBy (model prog cx.w) cx.A cx.env E e s') s₂ := by
  refine codeAny_forLoop_any (fun k s' => ∃ i S, k = ds.length + 1 - i ∧ i ≤ ds.length ∧ J i s'.heap ∧ St (addX cx wr) S s' ∧ Inv i S) ?_ (ds.length + 1) ⟨0, S₁, rfl, Nat.zero_le _, hJ, t₂, hI⟩
  rintro k s ⟨i, S, rfl, hi, hJ, t, hI⟩
  have hXS := hX i S hI
  by_cases hlt : i < ds.length
  · refine W.item i (ds[i]) s _ _ (by simp [hlt]) (fun a x => t.liveXX a (by rw [← hXS] at x; exact x.elim (fun x => .inl (.inl x)) .inr)) hJ fun v h' tk rv m hk => ?_
    have hw : ∀ a, wr a → ¬ XX cx.X S.own a := fun a q => by rw [hXS]; exact W.wrX a q
    have t₁ := t.stepW c (tk := tk) hk hw hC (W.liveM _ _ _ m)
    refine W.go i v _ _ _ m fun h'' tk' j hk' => ?_
    have t₂ := t₁.stepW c (tk := tk') hk' hw hC (W.liveJ _ _ j)
    have hXadd : XX (addX cx wr).X S.own = fun a => Xe a ∨ wr a := by rw [← hXS]; exact XX_add _ _ _
    have hle := protect_le (X := XX cx.X S.own) (C := cx.C) (h := h'') t₂.keep
    have hT : Turn cx { addX cx wr with C := protect cx.C (XX cx.X S.own) h'' } := ⟨_, _, rfl⟩
    have c' : CxOK h0 n { addX cx wr with C := protect cx.C (XX cx.X S.own) h'' } := c.loop protect_ge fun a x e => protect_none (.inl x) e
    have t₃ : St { addX cx wr with C := protect cx.C (XX cx.X S.own) h'' } S _ := t₂.setC hle fun l dl e => protect_none (.inr ⟨dl, e⟩) (t₂.own l dl e).1
    have rv' : Rep (XX (addX cx wr).X S.own) h'' v ds[i] := by
      rw [hXadd]
      exact rv.mono (fun _ y _ _ => y) fun b o nx e => hk' b o (fun q => nx (.inr q)) e
    refine wpAny_mono (turn _ hT c' i ds[i] S (by simp [hlt]) hI _ v t₃ rv') (fun _ s₃ ⟨S₂, t₄, ex⟩ => ?_) fun _ _ x => x.elim
    refine wpAny_mono (ex s₃ t₄) (fun f s₄ p => ?_) fun _ _ x => x.elim
    rcases p with ⟨e, S₃, t₅, q⟩ | ⟨v', d, S₃, e, t₅, r, q⟩
    · subst e
      refine ⟨ds.length + 1 - (i + 1), by omega, i + 1, S₃, rfl, hlt, ?_, t₅.shrink (cx := addX cx wr) protect_ge fun _ x => x, q⟩
      exact W.frame _ _ _ j fun b o nx e => t₅.keep b o (protect_has t₂.keep (by rw [hXS]; exact nx) e)
    · subst e
      exact .inr ⟨v', d, S₃, rfl, t₅.shrink (cx := cx) (X' := (addX cx wr).X) protect_ge fun _ x => .inl x, r.mono (fun a x _ _ => x.elim (fun x => .inl (.inl x)) .inr) fun _ _ _ e => e, q⟩
  · have hin : i = ds.length := by omega
    subst hin
    refine W.done s _ _ hJ fun h' tk hk => ?_
    have hw : ∀ a, wr a → ¬ XX cx.X S.own a := fun a q => by rw [hXS]; exact W.wrX a q
    exact wpAny_execs_nil (.inl ⟨rfl, S, t.unwr c hk hw hC, done S hI⟩)
theorem Itr.mono {target iter : PySem.Expr} {Q Q' : List D → Nat → Prop} (h : Itr prog cx S₀ target iter Q) (hq : ∀ ds k, Q ds k → Q' ds k) : Itr prog cx S₀ target iter Q' := fun s t =>
  wpAny_mono (h s t) (fun _ _ h₁ => wpAny_mono h₁ (fun _ _ ⟨ds, k, I, wr, e, t₂, k₂, W, hC, hf, q⟩ => ⟨ds, k, I, wr, e, t₂, k₂, W, hC, hf, hq ds k q⟩) fun _ _ x => x) fun _ _ x => x
inductive ForQ (prog : Program) (h0 : Heap) (n : Nat) (cx : Cx) (S₀ : S) (target : PySem.Expr) (body : List Stmt) (K : S → Prop) (R : D → S → Prop) (ds : List D) (k : Nat) : Prop
  | mk (Inv : Nat → S → Prop) (i1 : ∀ i S, Inv i S → XX cx.X S.own = XX cx.X S₀.own) (i2 : Inv 0 { S₀ with cnt := k })
    (i3 : ∀ cx', Turn cx cx' → CxOK h0 n cx' → ∀ i d S, ds[i]? = some d → Inv i S → Asg prog cx' S target d fun S' => Exps prog cx' (fun _ _ => False) S' body (Inv (i + 1)) R) (i4 : ∀ S, Inv ds.length S → K S) : ForQ prog h0 n cx S₀ target body K R ds k
theorem Exp.for_ (c : CxOK h0 n cx) {target iter : PySem.Expr} {body : List Stmt} {pos : Pos}
    (h : Itr prog cx S₀ target iter (ForQ prog h0 n cx S₀ target body K R))
    (hs : ∀ x, foldedSetIterable iter cx.env x = pure x := by intro _; rfl) : Exp prog cx E S₀ (.For target iter body [] pos) K R := fun s t => by
  refine wpAny_For (hs := hs) (wpAny_mono (h s t) (fun xv s₁ h₁ => wpAny_mono h₁ (fun it s₂ ⟨ds, k, I, wr, e, t₂, k₂, W, hC, hf, Inv, i1, i2, i3, i4⟩ => ?_) fun _ _ x => x.elim) fun _ _ x => x.elim)
  subst e
  obtain ⟨J, M, W, hJ⟩ := W (fun _ => False) (fun _ x => x.elim)
  exact For_core c W (fun i S h => by rw [i1 i S h]; funext a; exact propext ⟨.inl, fun x => x.elim id fun f => f.elim⟩) hC t₂ hJ i2 i3 i4
end
end Mine
end

section
set_option linter.unusedVariables false
open PySem PySem.W PyProof.Rows
namespace Mine

/-- the tests of a clause: none or one -/
noncomputable def Tsts (prog : Program) (cx : Cx) (S₀ : S) (ifs : List PySem.Expr) (Q : Bool → Prop) : Prop := match ifs with
  | [] => Q true
  | [t] => Tst prog cx S₀ t fun b _ => Q b
  | _ => False
/-- the list under way -/
noncomputable def Acc (X : Addr → Prop) (Dd : Addr) (h : Heap) (es : List D) : Prop := ∃ ys m, h.get? Dd = some (listOf (List.toArray ys) m) ∧ RepAll X h ys es

/-- one clause's last turn, as a tree -/
noncomputable def lastTree (c : Code) (target iter elt : PySem.Expr) (ifs : List PySem.Expr) (it acc : Value) (env : Env) : Sem Fin := do
  standAt iter.pos
  match ← pyNext it with
  | none => pure (.done .next)
  | some v =>
    letOwnedTupleGo target it v
    assign target env v
    let mut ok := true
    for c in ifs do
      if ok then ok ← isTrue c env (eval c env)
    if ok then
      (do let _ ← call (.builtin "list.append") [acc, ← eval elt env])
    again c

section
variable {prog : Program} {h0 : Heap} {cc : Cx} {n : Nat}
theorem XX_no (X : Addr → Prop) (S₀ : S) (h : S₀.own = none) : XX X S₀.own = X := by rw [h]; exact XX_none X

theorem CxOK.comp (c : CxOK h0 n cc) (ho : cc.owns = false) (hp : cc.pen = none) {wr : Addr → Prop} {C' : Addr → Option Obj} (h1 : ∀ b o, cc.C b = some o → C' b = some o) (hL : C' cc.env.locals = none) : CxOK h0 n { addX cc wr with C := C' } :=
  ⟨c.lv, fun b o e => h1 b o (c.base b o e), c.kind, c.glob, c.blt, .inl c.LX, hL, fun o => (by rw [show cc.owns = true from o] at ho; cases ho), fun p e => (by rw [show cc.pen = some p from e] at hp; cases hp), fun x a e => .inl (c.cellsX x a e)⟩
theorem St.forget {S₀ S' : S} {s : Shared} (t : St cc S' s) (hp : cc.pen = none) (ho : S₀.own = S'.own) (hv : ∀ x d, S₀.vars.lookup x = some d → S'.vars.lookup x = some d) : St cc S₀ s := by
  obtain ⟨m, hn, v⟩ := t.ns
  exact ⟨t.rest, t.keep, t.live, ⟨m, hn, fun x d e => by rw [ho]; exact v x d (hv x d e)⟩, t.cells, fun l ds e => by rw [ho] at e ⊢; exact t.own l ds e, fun p e => by rw [hp] at e; cases e⟩
theorem St.poke {S₀ : S} {s : Shared} {a : Addr} {h' : Heap} {vs : Array Value} {mm : Nat} (c : CxOK h0 n cc) (t : St cc S₀ s) (hp : cc.pen = none) (ho : S₀.own = none) (hs : Heap.SameBut a s.heap h') (hl : ∃ o, h'.get? a = some o) (hX : cc.X a) (hC : cc.C a = none)
    (e : s.heap.get? a = some (listOf vs mm)) : St cc S₀ { s with heap := h' } := by
  obtain ⟨m, hn, hv⟩ := t.ns
  have hx : ∀ b o, ¬ XX cc.X S₀.own b → s.heap.get? b = some o → h'.get? b = some o := fun b o nx e => hs.extBut b o (fun q => nx (q ▸ .inl hX)) e
  have hcell : ∀ c v, s.heap.IsCell c v → h'.IsCell c v := fun c v q => q.sameBut hs (IsCell.ne_list q e)
  obtain ⟨h, tk, e0⟩ := t.rest
  refine ⟨⟨h', tk, by rw [e0]⟩, fun b o q => hs.extBut b o (fun z => ?_) (t.keep b o q), fun b x => ?_, ⟨m, hn.at' fun o q => hs.extBut _ o (Ns.ne_list hn e) q, fun x d q => ?_⟩, fun o x c h1 h2 => ?_, fun l ds q => ?_, fun p q => ?_⟩
  · rw [z, hC] at q; cases q
  · by_cases z : b = a
    · subst z; exact hl
    · obtain ⟨o, q⟩ := t.live b x; exact ⟨o, hs.extBut b o z q⟩
  · obtain ⟨v, w, r⟩ := hv x d q
    exact ⟨v, w.keeps fun c z => hcell c _ z, r.mono (fun _ y _ _ => y) hx⟩
  · obtain ⟨v, z⟩ := t.cells o x c h1 h2
    exact ⟨v, hcell _ _ z⟩
  · rw [ho] at q; cases q
  · rw [hp] at q; cases q
theorem tests_wp (hpen : cc.pen = none) {S₀ : S} {ifs : List PySem.Expr} {Q : Bool → Prop} (h : Tsts prog cc S₀ ifs Q) {s : Shared} (t : St cc S₀ s) :
    wpAny (model prog cc.w) cc.A (forIn ifs true fun c r => if r = true then do let ok ← isTrue c cc.env (eval c cc.env); pure (ForInStep.yield ok) else pure (ForInStep.yield r))
      (fun b s' => (∃ k, St cc { S₀ with cnt := k } s') ∧ Kp s s' ∧ Q b) (fun _ _ => False) s := by
  match ifs, h with
  | [], h => exact wpAny_tests_nil ⟨⟨S₀.cnt, t⟩, .refl' _, h⟩
  | [c], h =>
    refine wpAny_tests_one (wpAny_mono (h s t) (fun b s' ⟨k, t', k', q⟩ => ⟨⟨k, t'⟩, ?_, q⟩) fun _ _ x => x)
    rw [hpen] at k'; exact k'.none

theorem comp_loop (c : CxOK h0 n cc) (hown : cc.owns = false) (hpen : cc.pen = none) {Dd : Addr} (hDX : cc.X Dd) (hDC : cc.C Dd = none) {target iter elt : PySem.Expr} {ifs : List PySem.Expr} {ds : List D} {I : Addr} {wr : Addr → Prop} {J : Nat → Heap → Prop} {M : Nat → Value → Heap → Prop}
    (W : Wk prog cc.w cc.A target cc.X I wr ds J M) (hC : ∀ a, wr a → cc.C a = none) (f : D → Option D) {S₀ : S} (hS : S₀.own = none) {e : PySem.Expr} {dep : Nat} {R : Result → Shared → Prop}
    (hq : (Code.compLoop e dep (.ref I) (.ref Dd) cc.env).quiet = true)
    (hT : ∀ Q E s, wpAny (model prog cc.w) cc.A ((lastTree (.compLoop e dep (.ref I) (.ref Dd) cc.env) target iter elt ifs (.ref I) (.ref Dd) cc.env).onRaise (fun x => do noteFrame x cc.env; theTreesLotGoes x)) Q E s →
      wpAny (model prog cc.w) (cc.A.under (.compLoop e dep (.ref I) (.ref Dd) cc.env)) ((model prog cc.w).den (.compLoop e dep (.ref I) (.ref Dd) cc.env)) Q E s)
    {s : Shared} (t : St (addX cc wr) S₀ s) (hJ : J 0 s.heap) {es0 : List D} (hacc : Acc (fun a => cc.X a ∨ wr a) Dd s.heap es0) (hlen : es0.length + ds.length ≤ 1000000)
    (turn : ∀ cx', Turn cc cx' → CxOK h0 n cx' → cx'.pen = none → ∀ d, d ∈ ds → Asg prog cx' S₀ target d fun S' => S'.own = none ∧ (∀ x d, S₀.vars.lookup x = some d → S'.vars.lookup x = some d) ∧
      Tsts prog cx' S' ifs fun b => if b then ∀ k, Evp prog cx' { S' with cnt := k } elt fun r _ => f d = some r else f d = none)
    (hR : ∀ h' tk, St cc S₀ { s with heap := h', toks := tk } → Acc cc.X Dd h' (es0 ++ ds.filterMap f) → (∀ b o, b ≠ cc.env.locals → b ≠ Dd → ¬ wr b → s.heap.get? b = some o → h'.get? b = some o) → R (.ok .next) { s with heap := h', toks := tk }) :
    codeAny (model prog cc.w) cc.A (.compLoop e dep (.ref I) (.ref Dd) cc.env) R s := by
  refine codeAny_loop hq (fun k s' => ∃ i h' tk, s' = { s with heap := h', toks := tk } ∧ k = ds.length + 1 - i ∧ i ≤ ds.length ∧ J i h' ∧ St (addX cc wr) S₀ s' ∧ Acc (fun a => cc.X a ∨ wr a) Dd h' (es0 ++ (ds.take i).filterMap f) ∧
    (∀ b o, b ≠ cc.env.locals → b ≠ Dd → ¬ wr b → s.heap.get? b = some o → h'.get? b = some o)) ?_ (ds.length + 1) ⟨0, s.heap, s.toks, rfl, rfl, Nat.zero_le _, hJ, t, by simpa using hacc, fun _ _ _ _ _ e => e⟩
  rintro k s' ⟨i, h', tk, rfl, rfl, hi, hJ, t, hacc, hkp⟩
  refine hT _ _ _ (wpAny_noted ?_)
  unfold lastTree
  refine wpAny_bind (wpAny_standAt (wpAny_bind ?_))
  have hw : ∀ a, wr a → ¬ XX cc.X S₀.own a := fun a q => by rw [XX_no _ _ hS]; exact W.wrX a q
  by_cases hlt : i < ds.length
  · have hd : ds[i]? = some ds[i] := by simp [hlt]
    refine W.item i (ds[i]) _ _ _ hd (fun a x => t.live a (.inl x)) hJ fun v h₁ tk₁ rv m hk => ?_
    have t₁ := t.stepW c (tk := tk₁) hk hw hC (W.liveM _ _ _ m)
    refine wpAny_bind (W.go i v _ _ _ m fun h₂ tk₂ j hk₂ => ?_)
    have t₂ := t₁.stepW c (tk := tk₂) hk₂ hw hC (W.liveJ _ _ j)
    have hle := protect_le (X := fun b => b = cc.env.locals) (C := cc.C) (h := h₂) t₂.keep
    have hT : Turn cc { addX cc wr with C := protect cc.C (fun b => b = cc.env.locals) h₂ } := ⟨_, _, rfl⟩
    have c' : CxOK h0 n { addX cc wr with C := protect cc.C (fun b => b = cc.env.locals) h₂ } := c.comp hown hpen protect_ge (protect_none rfl c.LC)
    have t₃ : St { addX cc wr with C := protect cc.C (fun b => b = cc.env.locals) h₂ } S₀ _ := t₂.setC hle fun l dl e => by rw [hS] at e; cases e
    have hXadd : XX (addX cc wr).X S₀.own = fun a => cc.X a ∨ wr a := XX_no _ _ hS
    have rv' : Rep (XX (addX cc wr).X S₀.own) h₂ v ds[i] := by
      rw [hXadd]
      exact rv.mono (fun _ y _ _ => y) fun b o nx e => hk₂ b o (fun q => nx (.inr q)) e
    refine wpAny_bind (wpAny_mono (turn _ hT c' hpen ds[i] (List.getElem_mem _) _ v t₃ rv') (fun _ s₃ ⟨S₂, t₄, o2, v2, ex⟩ => ?_) fun _ _ x => x.elim)
    obtain ⟨h₃, tk₃, e₃⟩ := t₄.rest
    have keep₃ : ∀ b o, b ≠ cc.env.locals → h₂.get? b = some o → s₃.heap.get? b = some o := fun b o nb e => t₄.keep b o (protect_has (X := fun b => b = cc.env.locals) (h := h₂) t₂.keep nb e)
    refine wpAny_bind (wpAny_mono (tests_wp (cc := { addX cc wr with C := protect cc.C (fun b => b = cc.env.locals) h₂ }) hpen ex t₄) (fun ok s₄ ⟨⟨k, t₅⟩, kp, q⟩ => ?_) fun _ _ x => x.elim)
    have hDL : Dd ≠ cc.env.locals := by
      obtain ⟨ys, mm, e1, _⟩ := hacc
      obtain ⟨mm', hn', _⟩ := t.ns
      exact fun q => Ns.ne_list hn' e1 q.symm
    have kk : ∀ b o, b ≠ cc.env.locals → ¬ wr b → h'.get? b = some o → s₄.heap.get? b = some o := fun b o nb nw e => kp.heap b o (keep₃ b o nb (hk₂ b o nw (hk b o nw e)))
    have acc₄ : Acc (fun a => cc.X a ∨ wr a) Dd s₄.heap (es0 ++ (ds.take i).filterMap f) := by
      obtain ⟨ys, mm, e1, r⟩ := hacc
      exact ⟨ys, mm, kk _ _ hDL (fun q => W.wrX _ q hDX) e1, r.mono (fun _ y _ _ => y) fun b o nx e => kk b o (fun q => nx (.inl (q ▸ c.LX))) (fun q => nx (.inr q)) e⟩
    have hds : ds.take (i + 1) = ds.take i ++ [ds[i]] := by rw [List.take_add_one, hd]; rfl
    have hj : ∀ h5 : Heap, (∀ b o, b ≠ cc.env.locals → b ≠ Dd → h₂.get? b = some o → h5.get? b = some o) → J (i + 1) h5 := fun h5 hk5 => W.frame _ _ _ j fun b o nx e => hk5 b o (fun q => nx (q ▸ c.LX)) (fun q => nx (q ▸ hDX)) e
    obtain ⟨h₀', tk₀', e0'⟩ := t.rest
    obtain ⟨h₄, tk₄, e₄⟩ := t₅.rest
    have es4 : s₄ = { s with heap := s₄.heap, toks := s₄.toks } := by
      rw [e₄]
      have := congrArg (fun z : Shared => (z.gens, z.drawn, z.os)) e0'
      simp at this
      obtain ⟨a1, a2, a3⟩ := this
      simp [addX, a1, a2, a3]
    cases ok with
    | false =>
      simp only [Bool.false_eq_true, if_false] at q ⊢
      refine wpAny_pure ⟨rfl, ds.length + 1 - (i + 1), by omega, i + 1, s₄.heap, s₄.toks, es4, rfl, hlt, hj _ fun b o nb _ e => kp.heap b o (keep₃ b o nb e), ?_, ?_, fun b o n1 n2 n3 e => kk b o n1 n3 (hkp b o n1 n2 n3 e)⟩
      · exact (t₅.shrink (cx := addX cc wr) protect_ge fun _ x => x).forget hpen (hS.trans o2.symm) v2
      · rw [hds, List.filterMap_append, List.filterMap_cons, q]
        simpa using acc₄
    | true =>
      simp only [if_true] at q ⊢
      refine wpAny_bind (wpAny_bind (wpAny_mono (q k s₄ t₅) (fun v s₅ ⟨r, k', t₆, kp₆, rr, fr⟩ => ?_) fun _ _ x => x.elim))
      have kp₆' : Kp s₄ s₅ := by
        have : ({ addX cc wr with C := protect cc.C (fun b => b = cc.env.locals) h₂ } : Cx).pen = none := hpen
        rw [this] at kp₆; exact kp₆.none
      obtain ⟨ys, mm, e1, racc⟩ := acc₄
      have e1' := kp₆'.heap _ _ e1
      have hlen' : ys.toArray.size ≤ sizeLine := by
        have := racc.length
        have l2 : ((ds.take i).filterMap f).length ≤ i := Nat.le_trans (List.length_filterMap_le _ _) (by rw [List.length_take]; omega)
        rw [List.length_append] at this
        rw [List.size_toArray]
        exact sizeLine_big (by omega)
      refine wpAny_bind (wpAny_list_append_plain (hsz := hlen') ⟨mm, e1'⟩ fun h₆ hl₆ hs₆ => ?_)
      obtain ⟨m6, e6⟩ := hl₆
      have t₇ := (t₆.shrink (cx := addX cc wr) protect_ge fun _ x => x).forget hpen (S₀ := S₀) (hS.trans o2.symm) v2
      have c7 : CxOK h0 n (addX cc wr) := c.comp hown hpen (fun _ _ e => e) c.LC
      have t₈ := t₇.poke (n := n) c7 hpen hS hs₆ ⟨_, e6⟩ (.inl hDX) hDC e1'
      refine wpAny_pure (wpAny_pure ⟨rfl, ds.length + 1 - (i + 1), by omega, i + 1, h₆, s₅.toks, ?_, rfl, hlt, hj _ fun b o nb nD e => hs₆.extBut b o nD (kp₆'.heap b o (kp.heap b o (keep₃ b o nb e))), t₈, ?_, fun b o n1 n2 n3 e => hs₆.extBut b o n2 (kp₆'.heap b o (kk b o n1 n3 (hkp b o n1 n2 n3 e)))⟩)
      · obtain ⟨h5, tk5, e5, _⟩ := kp₆'
        rw [e5, es4]
      · rw [hds, List.filterMap_append, List.filterMap_cons, fr]
        simp only [List.filterMap_nil, ← List.append_assoc]
        exact ⟨ys ++ [v], m6, by rw [e6]; simp, RepAll.append (racc.mono (fun _ y _ _ => y) fun b o nx e => hs₆.extBut b o (fun q => nx (.inl (q ▸ hDX))) (kp₆'.heap b o e))
          (.one (rr.mono (fun a x _ _ => .inl x) fun b o nx e => hs₆.extBut b o (fun q => nx (.inl (.inl (q ▸ hDX)))) e))⟩
  · have hin : i = ds.length := by omega
    subst hin
    refine W.done _ _ _ hJ fun h'' tk' hk => ?_
    refine wpAny_pure (hR h'' tk' (t.unwr c hk hw hC) ?_ fun b o n1 n2 n3 e => hk b o n3 (hkp b o n1 n2 n3 e))
    obtain ⟨ys, m, e1, r⟩ := hacc
    rw [List.take_length] at r
    exact ⟨ys, m, hk _ _ (fun q => W.wrX _ q hDX) e1, r.mono (fun _ y _ _ => .inl y) fun b o nx e => hk b o (fun q => nx (.inr q)) e⟩
end
end Mine
end

section
set_option linter.unusedVariables false
open PySem PySem.W PyProof.Rows
namespace Mine

-- what a block closes over
theorem closure_go (env : Env) : ∀ (names : List (Str × NameKind)) (acc : List (Str × Addr)), (∀ x ∈ names, x.2 = .free → (env.cells.lookup x.1).isSome = true) → (∀ x c, acc.lookup x = some c → env.cells.lookup x = some c) →
    ∃ cl, (forIn names acc (fun x r => if (x.snd == NameKind.free) = true then do let a ← cellOf env x.fst; pure (ForInStep.yield ((x.fst, a) :: r)) else pure (ForInStep.yield r)) : Sem (List (Str × Addr))) = pure cl ∧
      (∀ x c, cl.lookup x = some c → env.cells.lookup x = some c) ∧ (∀ x, ((x, NameKind.free) ∈ names ∨ (acc.lookup x).isSome = true) → (cl.lookup x).isSome = true)
  | [], acc, _, h2 => ⟨acc, rfl, h2, fun x h => h.elim (fun h => nomatch h) id⟩
  | (name, kind) :: r, acc, h1, h2 => by
    have h1' : ∀ x ∈ r, x.2 = .free → (env.cells.lookup x.1).isSome = true := fun x hx => h1 x (.tail _ hx)
    by_cases hk : (kind == NameKind.free) = true
    · have hk' : kind = .free := by simpa using hk
      subst hk'
      obtain ⟨a, ha⟩ := Option.isSome_iff_exists.mp (h1 _ (.head _) rfl)
      obtain ⟨cl, e1, e2, e3⟩ := closure_go env r ((name, a) :: acc) h1' (fun x c e => by
        rw [List.lookup_cons] at e
        by_cases q : (x == name) = true
        · rw [q] at e; cases e
          have : x = name := by simpa using q
          rw [this]; exact ha
        · rw [show (x == name) = false by simpa using q] at e; exact h2 x c e)
      refine ⟨cl, ?_, e2, fun x h => e3 x ?_⟩
      · rw [List.forIn_cons]
        simp only [hk, if_true]
        rw [show cellOf env name = pure a by unfold cellOf; rw [ha]]
        exact e1
      · rcases h with h | h
        · rcases List.mem_cons.mp h with h | h
          · cases h; exact .inr (by simp)
          · exact .inl h
        · refine .inr ?_
          rw [List.lookup_cons]
          split
          · rfl
          · exact h
    · obtain ⟨cl, e1, e2, e3⟩ := closure_go env r acc h1' h2
      refine ⟨cl, ?_, e2, fun x h => e3 x ?_⟩
      · rw [List.forIn_cons]
        simp only [show (kind == NameKind.free) = false by simpa using hk, Bool.false_eq_true, if_false]
        exact e1
      · rcases h with h | h
        · rcases List.mem_cons.mp h with h | h
          · cases h; exact absurd rfl hk
          · exact .inl h
        · exact .inr h
theorem closureFor_ok {scope : Scope} {env : Env} (h : ∀ x ∈ scope.names, x.2 = .free → (env.cells.lookup x.1).isSome = true) :
    ∃ cl, closureFor scope env = pure cl ∧ (∀ x c, cl.lookup x = some c → env.cells.lookup x = some c) ∧ ∀ x, (x, NameKind.free) ∈ scope.names → (cl.lookup x).isSome = true := by
  obtain ⟨cl, e1, e2, e3⟩ := closure_go env scope.names [] h (fun x c e => by cases e)
  refine ⟨cl, ?_, e2, fun x hx => e3 x (.inl hx)⟩
  simp only [closureFor]
  rw [e1]
  rfl

/-- the frame of a comprehension's block -/
abbrev compCx (cx : Cx) (scope : Scope) (cl : List (Str × Addr)) (Lc : Addr) (s0 : Shared) (C : Addr → Option Obj) (X : Addr → Prop) : Cx :=
  { w := cx.w, A := cx.A, env := compEnvC scope cl Lc cx.env, s0 := s0, C := C, X := X, pen := none, owns := false }
/-- what a block sees of its surroundings -/
noncomputable def compS (S₀ : S) (scope : Scope) : S := { vars := S₀.vars.filter fun p => scope.names.lookup p.1 == some .free, own := none, cnt := 0 }
noncomputable def freeOK (scope : Scope) (env : Env) : Bool := scope.names.all fun p => p.2 != .free || (((relabel scope env).names.lookup p.1 == some .cell || (relabel scope env).names.lookup p.1 == some .free) && (env.cells.lookup p.1).isSome && env.kindOf p.1 != some .local)
theorem lookup_filter {P : Str → Bool} {x : Str} {d : D} : ∀ {l : List (Str × D)}, (l.filter fun p => P p.1).lookup x = some d → P x = true ∧ l.lookup x = some d
  | [], h => by cases h
  | (y, e) :: r, h => by
    by_cases hy : P y = true
    · rw [List.filter_cons, if_pos hy] at h
      rw [lookup_cons] at h ⊢
      by_cases q : x = y
      · subst q; rw [if_pos rfl] at h ⊢; exact ⟨hy, h⟩
      · rw [if_neg q] at h ⊢; exact lookup_filter h
    · rw [List.filter_cons, if_neg hy] at h
      obtain ⟨a, b⟩ := lookup_filter h
      refine ⟨a, ?_⟩
      rw [lookup_cons, if_neg (show ¬ x = y from fun q => hy (q ▸ a))]
      exact b
theorem mem_of_lookup' {x : Str} {k : NameKind} : ∀ {l : List (Str × NameKind)}, l.lookup x = some k → (x, k) ∈ l
  | [], h => by cases h
  | (y, j) :: r, h => by
    rw [List.lookup_cons] at h
    split at h
    · rename_i q
      cases h
      have : x = y := by simpa using q
      subst this; exact .head _
    · exact .tail _ (mem_of_lookup' h)

section
variable {prog : Program} {h0 : Heap} {cx : Cx} {n : Nat} {S₀ : S}
/-- the block's frame at its start -/
theorem comp_start (c : CxOK h0 n cx) {scope : Scope} {cl : List (Str × Addr)} {wr : Addr → Prop} {s₂ : Shared} {k : Nat} (t₂ : St (addX cx wr) { S₀ with cnt := k } s₂) (hC : ∀ a, wr a → cx.C a = none) (hkind : scope.kind = .function) (hf : freeOK scope cx.env = true)
    (hcl : ∀ x c, cl.lookup x = some c → cx.env.cells.lookup x = some c) (hcl2 : ∀ x, (x, NameKind.free) ∈ scope.names → (cl.lookup x).isSome = true) (hw : ∀ a, wr a → ¬ XX cx.X S₀.own a)
    {Dd Lc : Addr} {h₁ : Heap} {tk : Nat} (hD : s₂.heap.get? Dd = none) (hL : s₂.heap.get? Lc = none) (hD1 : ∃ o, h₁.get? Dd = some o) (hns : h₁.Ns Lc fun _ => none) (old : ∀ b o, s₂.heap.get? b = some o → h₁.get? b = some o) (hwl : ∀ a, wr a → ∃ o, s₂.heap.get? a = some o) :
    CxOK h0 n (compCx cx scope cl Lc s₂ (protect (fun _ => none) wr s₂.heap) (fun a => XX cx.X S₀.own a ∨ a = Dd ∨ a = Lc)) ∧
    St (addX (compCx cx scope cl Lc s₂ (protect (fun _ => none) wr s₂.heap) (fun a => XX cx.X S₀.own a ∨ a = Dd ∨ a = Lc)) wr) (compS S₀ scope) { s₂ with heap := h₁, toks := tk } := by
  have hall := fun p hp => List.all_eq_true.mp hf p hp
  refine ⟨⟨c.lv, fun b o e => ?_, hkind, c.glob, c.blt, .inr (.inr rfl), ?_, fun o => (by cases o), fun p e => (by cases e), fun x a e => .inl (.inl (c.cellsX x a (hcl x a e)))⟩, ⟨⟨_, _, rfl⟩, fun b o e => ?_, fun a x => ?_, ⟨_, hns, fun x d e => ?_⟩, fun o => (by cases o), fun l ds e => (by cases e), fun p e => (by cases e)⟩⟩
  · have e1 := c.base b o e
    exact protect_has (C := fun _ => none) (fun _ _ e => by cases e) (fun q => by rw [hC b q] at e1; cases e1) (t₂.keep b o e1)
  · cases q : protect (fun _ => none) wr s₂.heap Lc with
    | none => exact q
    | some o => have := protect_le (C := fun _ => none) (X := wr) (fun _ _ e => by cases e) _ _ q; rw [hL] at this; cases this
  · exact old b o (protect_le (C := fun _ => none) (X := wr) (fun _ _ e => by cases e) b o e)
  · rcases x with (x | rfl | rfl) | x
    · obtain ⟨o, e⟩ := t₂.liveXX a (x.elim (fun x => .inl (.inl x)) .inr)
      exact ⟨o, old _ _ e⟩
    · exact hD1
    · obtain ⟨o, _, _, e, _⟩ := hns; exact ⟨o, e⟩
    · obtain ⟨o, e⟩ := hwl a x; exact ⟨o, old _ _ e⟩
  · obtain ⟨hx, hl⟩ := lookup_filter (P := fun y => scope.names.lookup y == some .free) e
    have hx' : scope.names.lookup x = some .free := by simpa using hx
    have hm := mem_of_lookup' hx'
    have hx2 := hall _ hm
    simp only [bne_self_eq_false, Bool.false_or, Bool.and_eq_true, Bool.or_eq_true, beq_iff_eq, bne_iff_ne] at hx2
    obtain ⟨⟨k1, k2⟩, k3⟩ := hx2
    obtain ⟨m, hn, hv⟩ := t₂.ns
    obtain ⟨v, a, r⟩ := hv x d hl
    obtain ⟨cc, hcc⟩ := Option.isSome_iff_exists.mp (hcl2 x hm)
    refine ⟨v, .inr ⟨k1, cc, hcc, ?_⟩, ?_⟩
    · rcases a with ⟨a, _⟩ | ⟨_, c', e1, e2⟩
      · exact absurd a k3
      · have := hcl x cc hcc
        rw [show cx.env.cells.lookup x = some c' from e1] at this
        cases this
        obtain ⟨o, ho, hd⟩ := e2
        exact ⟨o, old _ _ ho, hd⟩
    · refine r.mono (fun b y o e => ?_) fun b o _ e => old b o e
      rcases y with y | ⟨_, y⟩
      · rcases y with (y | rfl | rfl) | y
        · exact y.elim (fun y => .inl (.inl y)) .inr
        · rw [hD] at e; cases e
        · rw [hL] at e; cases e
        · exact .inl (.inr y)
      · cases y
end
end Mine
end

section
set_option linter.unusedVariables false
open PySem PySem.W PyProof.Rows
namespace Mine

section
variable {prog : Program} {h0 : Heap} {cx : Cx} {n : Nat} {S₀ : S}
theorem comp_block (c : CxOK h0 n cx) {elt target iter : PySem.Expr} {ifs : List PySem.Expr} {rest : List Comprehension} {scope : Scope} {pos : Pos} {cl : List (Str × Addr)} {wr : Addr → Prop} {s₂ : Shared} {k : Nat} {ds es : List D} {I : Addr}
    (t₂ : St (addX cx wr) { S₀ with cnt := k } s₂) (hC : ∀ a, wr a → cx.C a = none) (hkind : scope.kind = .function) (hcell : ∀ y ∈ scope.names, y.2 ≠ .cell) (hf : freeOK scope cx.env = true)
    (hcl : ∀ x c, cl.lookup x = some c → cx.env.cells.lookup x = some c) (hcl2 : ∀ x, (x, NameKind.free) ∈ scope.names → (cl.lookup x).isSome = true) (hwl : ∀ a, wr a → ∃ o, s₂.heap.get? a = some o)
    (hW : ∀ Y : Addr → Prop, (∀ a, Y a → s₂.heap.get? a = none) → ∃ J M, Wk prog cx.w cx.A target (fun a => XX cx.X S₀.own a ∨ Y a) I wr ds J M ∧ J 0 s₂.heap)
    (loop : ∀ Dd Lc s₀ C, let cc := compCx cx scope cl Lc s₀ C (fun a => XX cx.X S₀.own a ∨ a = Dd ∨ a = Lc); CxOK h0 n cc → cc.C Dd = none → (∀ a, wr a → cc.C a = none) →
      ∀ J M, Wk prog cc.w cc.A target cc.X I wr ds J M → ∀ s R, St (addX cc wr) (compS S₀ scope) s → J 0 s.heap → Acc (fun a => cc.X a ∨ wr a) Dd s.heap [] →
      (∀ h' tk, St cc (compS S₀ scope) { s with heap := h', toks := tk } → Acc cc.X Dd h' es → (∀ b o, b ≠ cc.env.locals → b ≠ Dd → ¬ wr b → s.heap.get? b = some o → h'.get? b = some o) → R (.ok .next) { s with heap := h', toks := tk }) →
      codeAny (model prog cc.w) cc.A (.compLoop (.ListComp elt (⟨target, iter, ifs, 0⟩ :: rest) scope pos) 0 (.ref I) (.ref Dd) cc.env) R s)
    {E : Value → Shared → Prop} {RR : Value → Addr → Result → Shared → Prop}
    (fin : ∀ Dd Lc h' tk m', s₂.heap.get? Dd = none → s₂.heap.get? Lc = none → Dd ≠ Lc → h'.Ns Lc m' → Acc (fun a => XX cx.X S₀.own a ∨ a = Dd ∨ a = Lc) Dd h' es → (∀ b o, ¬ wr b → s₂.heap.get? b = some o → h'.get? b = some o) → RR (.ref Dd) Lc (.ok .next) { s₂ with heap := h', toks := tk }) :
    wpAny (model prog cx.w) cx.A (newList []) (fun acc s₃ => wpAny (model prog cx.w) cx.A (newFunctionEnv scope cx.env.globals cl [] cx.env.qual none .none (some cx.env)) (fun cenv s₄ =>
      codeAny (model prog cx.w) cx.A (.compStart (.ListComp elt (⟨target, iter, ifs, 0⟩ :: rest) scope pos) 0 (.ref I) acc { cenv with scope := relabel scope cx.env }) (RR acc cenv.locals) s₄) E s₃) E s₂ := by
  refine wpAny_newObj_type (wpAny_newFunctionEnv hcell (by intro y hy; simp at hy) (fun h₁ hns₁ hsb₁ => ?_) hkind)
  dsimp only at hns₁ hsb₁ ⊢
  generalize hH2 : s₂.heap.push { cls := .type "list", dict := none, data := .seq ([] : List Value).toArray } = H2 at hns₁ hsb₁ ⊢
  have hLc : H2.objs.size = s₂.heap.objs.size + 1 := by rw [← hH2, Heap.size_push]
  have hDC : s₂.heap.objs.size ≠ H2.objs.size := by rw [hLc]; exact Nat.ne_of_lt (Nat.lt_succ_self _)
  have below : ∀ b, b < s₂.heap.objs.size → b ≠ H2.objs.size ∧ b ≠ s₂.heap.objs.size := fun b hb => ⟨by rw [hLc]; exact Nat.ne_of_lt (Nat.lt_succ_of_lt hb), Nat.ne_of_lt hb⟩
  have old : ∀ b o, s₂.heap.get? b = some o → h₁.get? b = some o := fun b o e => hsb₁.extBut b o (below b (Heap.lt_size e)).1 (Heap.get?_push_of_some _ (hH2 ▸ Heap.get?_push_of_some _ e))
  have hacc : h₁.get? s₂.heap.objs.size = some (listOf ([] : List Value).toArray 0) := hsb₁.extBut _ _ hDC (Heap.get?_push_of_some _ (hH2 ▸ Heap.get?_push_size _ rfl))
  have fresh : ∀ a, s₂.heap.objs.size ≤ a → s₂.heap.get? a = none := fun a ha => by
    cases e : s₂.heap.get? a with
    | none => rfl
    | some o' => exact absurd (Heap.lt_size e) (Nat.not_lt.mpr ha)
  have hD0 := fresh _ (Nat.le_refl _)
  have hL0 := fresh H2.objs.size (by rw [hLc]; exact Nat.le_succ _)
  obtain ⟨J, M, W, hJ⟩ := hW (fun a => a = s₂.heap.objs.size ∨ a = H2.objs.size) (fun a x => x.elim (fun x => x ▸ hD0) (fun x => x ▸ hL0))
  have hw : ∀ a, wr a → ¬ XX cx.X S₀.own a := fun a q x => W.wrX a q (.inl x)
  obtain ⟨c', t'⟩ := comp_start c (scope := scope) (cl := cl) (h₁ := h₁) (tk := s₂.toks + ([] : List (Str × Value)).length) t₂ hC hkind hf hcl hcl2 hw hD0 hL0 ⟨_, hacc⟩ (by simpa using hns₁) old hwl
  have hJ₁ : J 0 h₁ := W.frame _ _ _ hJ fun b o _ e => old b o e
  have hCD : ∀ a, (s₂.heap.get? a = none ∨ wr a) → protect (fun _ => none) wr s₂.heap a = none := fun a ha => by
    cases q : protect (fun _ => none) wr s₂.heap a with
    | none => rfl
    | some o =>
      rcases ha with ha | ha
      · have := protect_le (C := fun _ => none) (X := wr) (fun _ _ e => by cases e) _ _ q; rw [ha] at this; cases this
      · rw [protect_none ha rfl] at q; cases q
  have start : ∀ s₃ : Shared, s₃ = { s₂ with heap := h₁, toks := s₂.toks + ([] : List (Str × Value)).length } →
      codeAny (model prog cx.w) cx.A (.compLoop (.ListComp elt (⟨target, iter, ifs, 0⟩ :: rest) scope pos) 0 (.ref I) (.ref s₂.heap.objs.size) (compEnvC scope cl H2.objs.size cx.env)) (RR (.ref s₂.heap.objs.size) H2.objs.size) s₃ := by
    rintro s₃ rfl
    refine loop s₂.heap.objs.size H2.objs.size s₂ (protect (fun _ => none) wr s₂.heap) c' (hCD _ (.inl hD0)) (fun a q => hCD a (.inr q)) J M W _ _ t' hJ₁ ⟨[], 0, hacc, .nil⟩ fun h' tk tt ac kp => ?_
    obtain ⟨m', hn', _⟩ := tt.ns
    exact fin _ _ h' tk m' hD0 hL0 hDC hn' ac fun b o nw e => kp b o (below b (Heap.lt_size e)).1 (below b (Heap.lt_size e)).2 nw (old b o e)
  exact codeAny_compStart_list (start _ rfl) (W.self 0 _ _ _ hJ₁ (start _ rfl))

/-- the block's work on one clause -/
noncomputable def Clause (prog : Program) (h0 : Heap) (n : Nat) (cx : Cx) (S₀ : S) (scope : Scope) (target elt : PySem.Expr) (ifs : List PySem.Expr) (ds : List D) (f : D → Option D) : Prop :=
  ∀ cl Lc s₀ C X, let cc := compCx cx scope cl Lc s₀ C X; CxOK h0 n cc → ∀ d, d ∈ ds → Asg prog cc (compS S₀ scope) target d fun S' => S'.own = none ∧ (∀ x d, (compS S₀ scope).vars.lookup x = some d → S'.vars.lookup x = some d) ∧
      Tsts prog cc S' ifs fun b => if b then ∀ k, Evp prog cc { S' with cnt := k } elt fun r _ => f d = some r else f d = none
theorem clause_name {scope : Scope} {x : Str} {p : Pos} {elt : PySem.Expr} {ifs : List PySem.Expr} {ds : List D} {f : D → Option D} (hx : (relabel scope cx.env).names.lookup x = some .local) (hn : (compS S₀ scope).vars.lookup x = none)
    (h : ∀ cl Lc s₀ C X, let cc := compCx cx scope cl Lc s₀ C X; CxOK h0 n cc → ∀ d, d ∈ ds → Tsts prog cc (stored (compS S₀ scope) x d) ifs fun b => if b then ∀ k, Evp prog cc { stored (compS S₀ scope) x d with cnt := k } elt fun r _ => f d = some r else f d = none) :
    Clause prog h0 n cx S₀ scope (.Name x p) elt ifs ds f := fun cl Lc s₀ C X c d hd =>
  Asg.name c (.inl hx) ⟨rfl, fun y e q => by
    show ((x, d) :: (compS S₀ scope).vars).lookup y = _
    rw [lookup_cons, if_neg (fun z => by subst z; rw [hn] at q; cases q)]; exact q, h cl Lc s₀ C X c d hd⟩
theorem clause_pair {scope : Scope} {x y : Str} {p px py : Pos} {k : Nat} {elt : PySem.Expr} {ifs : List PySem.Expr} {ds : List D} {f : D → Option D} (hx : (relabel scope cx.env).names.lookup x = some .local) (hy : (relabel scope cx.env).names.lookup y = some .local)
    (hn : (compS S₀ scope).vars.lookup x = none) (hm : (compS S₀ scope).vars.lookup y = none)
    (h : ∀ cl Lc s₀ C X, let cc := compCx cx scope cl Lc s₀ C X; CxOK h0 n cc → ∀ d, d ∈ ds → ∃ a b, d = .tup [a, b] ∧ Tsts prog cc (stored (stored (compS S₀ scope) x a) y b) ifs fun t => if t then ∀ k, Evp prog cc { stored (stored (compS S₀ scope) x a) y b with cnt := k } elt fun r _ => f d = some r else f d = none) :
    Clause prog h0 n cx S₀ scope (.Tuple [.Name x px, .Name y py] k p) elt ifs ds f := fun cl Lc s₀ C X c d hd => by
  obtain ⟨a, b, e, q⟩ := h cl Lc s₀ C X c d hd
  subst e
  refine Asg.pair c (.inl hx) (.inl hy) ⟨rfl, fun z e q' => ?_, q⟩
  show ((y, b) :: (x, a) :: (compS S₀ scope).vars).lookup z = _
  rw [lookup_cons, if_neg (fun w => by subst w; rw [hm] at q'; cases q'), lookup_cons, if_neg (fun w => by subst w; rw [hn] at q'; cases q')]; exact q'

theorem comp_one (c : CxOK h0 n cx) {elt target iter : PySem.Expr} {ifs : List PySem.Expr} {scope : Scope} {pos : Pos} {ds : List D} {f : D → Option D} (hl : ds.length ≤ 1000000) (h : Clause prog h0 n cx S₀ scope target elt ifs ds f)
    {cl : List (Str × Addr)} {wr : Addr → Prop} {I : Addr} : ∀ Dd Lc s₀ C, let cc := compCx cx scope cl Lc s₀ C (fun a => XX cx.X S₀.own a ∨ a = Dd ∨ a = Lc); CxOK h0 n cc → cc.C Dd = none → (∀ a, wr a → cc.C a = none) →
      ∀ J M, Wk prog cc.w cc.A target cc.X I wr ds J M → ∀ s R, St (addX cc wr) (compS S₀ scope) s → J 0 s.heap → Acc (fun a => cc.X a ∨ wr a) Dd s.heap [] →
      (∀ h' tk, St cc (compS S₀ scope) { s with heap := h', toks := tk } → Acc cc.X Dd h' (ds.filterMap f) → (∀ b o, b ≠ cc.env.locals → b ≠ Dd → ¬ wr b → s.heap.get? b = some o → h'.get? b = some o) → R (.ok .next) { s with heap := h', toks := tk }) →
      codeAny (model prog cc.w) cc.A (.compLoop (.ListComp elt [⟨target, iter, ifs, 0⟩] scope pos) 0 (.ref I) (.ref Dd) cc.env) R s := by
  intro Dd Lc s₀ C cc c' hD hC J M W s R t hJ ac fin
  refine comp_loop (iter := iter) (elt := elt) (ifs := ifs) (e := .ListComp elt [⟨target, iter, ifs, 0⟩] scope pos) (dep := 0) c' rfl rfl (.inr (.inl rfl)) hD W hC f (S₀ := compS S₀ scope) rfl rfl (fun Q E s h => h) t hJ ac (by simpa using hl) (fun cx' hT c'' _ d hd => ?_) (by simpa using fin)
  obtain ⟨C', X', rfl⟩ := hT
  exact h cl Lc s₀ C' X' c'' d hd

inductive CoQ (prog : Program) (h0 : Heap) (n : Nat) (cx : Cx) (S₀ : S) (target elt : PySem.Expr) (ifs : List PySem.Expr) (scope : Scope) (Q : D → Nat → Prop) (ds : List D) (k : Nat) : Prop
  | mk (f : D → Option D) (l : ds.length ≤ 1000000) (c : Clause prog h0 n cx S₀ scope target elt ifs ds f) (q : Q (.list (ds.filterMap f)) k) : CoQ prog h0 n cx S₀ target elt ifs scope Q ds k
theorem Evp.comp (c : CxOK h0 n cx) {elt target iter : PySem.Expr} {ifs : List PySem.Expr} {scope : Scope} {pos : Pos} {Q : D → Nat → Prop}
    (h : Itr prog cx S₀ target iter (CoQ prog h0 n cx S₀ target elt ifs scope Q))
    (hf : freeOK scope cx.env = true := by rfl) (hcell : ∀ y ∈ scope.names, y.2 ≠ .cell := by decide) (hkind : scope.kind = .function := by rfl)
    (hnames : ∀ x ∈ scope.names, x.2 = .local → scope.names.lookup x.1 = some .local := by decide) (hs : ∀ x, foldedSetIterable iter cx.env x = pure x := by intro _; rfl) :
    Evp prog cx S₀ (.ListComp elt [⟨target, iter, ifs, 0⟩] scope pos) Q := fun s t => by
  have hfree : ∀ x ∈ scope.names, x.2 = .free → (cx.env.cells.lookup x.1).isSome = true := fun x hx e => by
    have := List.all_eq_true.mp hf x hx
    simp only [e, bne_self_eq_false, Bool.false_or, Bool.and_eq_true] at this
    exact this.1.2
  obtain ⟨cl, hclos, hcl, hcl2⟩ := closureFor_ok hfree
  rw [eval_ListComp]
  refine wpAny_comprehension_free (use := none) rfl hs hclos hkind hnames (wpAny_mono (h s t) (fun xv s₁ h₁ => wpAny_mono h₁ (fun it s₂ ⟨ds, k, I, wr, e, t₂, k₂, W, hC, hf', f, hl, hcla, q⟩ => ?_) fun _ _ x => x.elim) fun _ _ x => x.elim)
  subst e
  obtain ⟨J, M, W0, hJ0⟩ := W (fun _ => False) (fun _ x => x.elim)
  refine comp_block (es := ds.filterMap f) c t₂ hC hkind hcell hf hcl hcl2 (W0.liveJ _ _ hJ0) W (comp_one c hl hcla) (RR := fun acc C => compPost (model prog cx.w) cx.A _ none _ acc C) fun Dd Lc h' tk m' hD hL hDL hn ac kp => ?_
  refine ⟨m', hn, fun h'' hs'' => ?_⟩
  have hw : ∀ a, wr a → ¬ XX cx.X S₀.own a := fun a q x => W0.wrX a q (.inl x)
  have kp' : ∀ b o, ¬ wr b → s₂.heap.get? b = some o → h''.get? b = some o := fun b o nw e => hs''.extBut b o (fun q => by subst q; rw [hL] at e; cases e) (kp b o nw e)
  obtain ⟨ys, mm, e1, r1⟩ := ac
  refine ⟨.list (ds.filterMap f), k, t₂.unwr (tk := tk) c kp' hw hC, ?_, .list (fun x => ?_) (hs''.extBut _ _ hDL e1) (r1.mono (fun a x _ _ => .inl x) fun b o nx e => hs''.extBut b o (fun z => nx (.inr (.inr z))) e), q⟩
  · obtain ⟨h2, tk2, e2, hk2⟩ := k₂
    refine ⟨h'', tk, by rw [e2], fun b o np e => kp' b o (fun q => by rw [hf' b q] at e; cases e) (by rw [e2]; exact hk2 b o np e)⟩
  · obtain ⟨o, e⟩ := t₂.liveXX Dd (x.elim (fun x => .inl (.inl x)) .inr)
    rw [hD] at e; cases e
end
end Mine
end

section
set_option linter.unusedVariables false
open PySem PySem.W PyProof.Rows
namespace Mine

theorem Lv.mono {m n : Nat} {A : Around} (l : Lv n A) (h : m ≤ n) : Lv m A := ⟨l.hd, by have := l.depth; omega, by have := l.units; omega⟩
theorem Lv.deeper {n : Nat} {A : Around} (l : Lv (n + 1) A) (env : Env) : Lv n (A.deeper env) := ⟨l.hd, by have := l.depth; show A.depth + 1 + _ ≤ _; omega, by have := l.units; show A.units + 3 + _ ≤ _; omega⟩
theorem Lv.okDepth {n : Nat} {A : Around} (l : Lv n A) : A.depth < recursionLimit := by have := l.depth; show _ < 1000; omega
theorem CxOK.lower {h0 : Heap} {m n : Nat} {cx : Cx} (c : CxOK h0 n cx) (h : m ≤ n) : CxOK h0 m cx := ⟨c.lv.mono h, c.base, c.kind, c.glob, c.blt, c.LX, c.LC, c.cells, c.penX, c.cellsX⟩

/-- the call of a def of the text -/
noncomputable def FnOK (prog : Program) (h0 : Heap) (n : Nat) (f : Addr) (ds : List D) (d : D) : Prop :=
  ∀ w A X s args, Lv n A → PC h0 X s.heap → RepAll X s.heap args ds → codeAny (model prog w) A (.call (.ref f) ⟨args, []⟩) (fun r s' => ∃ v, r = .ok (.ret v) ∧ Kp s s' ∧ Rep X s'.heap v d) s

theorem bindL_get {kindOf : Str → Option NameKind} : ∀ {binds : List (Str × Value)} {m : Str → Option Value} {x : Str} {v : Value}, (binds.map (·.1)).Nodup → binds.lookup x = some v → kindOf x = some .local → bindL kindOf binds m x = some v
  | [], _, _, _, _, h, _ => by cases h
  | (y, u) :: r, m, x, v, hn, h, hk => by
    rw [List.map_cons, List.nodup_cons] at hn
    unfold bindL
    rw [List.lookup_cons] at h
    by_cases q : x = y
    · subst q
      simp only [beq_self_eq_true] at h
      cases h
      have key : ∀ {l : List (Str × Value)} {m : Str → Option Value}, x ∉ l.map (·.1) → bindL kindOf l m x = m x := by
        intro l
        induction l with
        | nil => intro m _; rfl
        | cons p l ih =>
          intro m hm
          rw [List.map_cons, List.mem_cons, not_or] at hm
          unfold bindL
          rw [ih hm.2]
          split
          · exact if_neg hm.1
          · rfl
      rw [key hn.1, if_pos hk, if_pos rfl]
    · rw [show (x == y) = false by simpa using q] at h
      exact bindL_get hn.2 h hk
theorem bindC_get {kindOf : Str → Option NameKind} : ∀ {binds : List (Str × Value)} {m : Str → Option Value} {x : Str} {v : Value}, (binds.map (·.1)).Nodup → binds.lookup x = some v → kindOf x ≠ some .local → bindC kindOf binds m x = some v
  | [], _, _, _, _, h, _ => by cases h
  | (y, u) :: r, m, x, v, hn, h, hk => by
    rw [List.map_cons, List.nodup_cons] at hn
    unfold bindC
    rw [List.lookup_cons] at h
    by_cases q : x = y
    · subst q
      simp only [beq_self_eq_true] at h
      cases h
      have key : ∀ {l : List (Str × Value)} {m : Str → Option Value}, x ∉ l.map (·.1) → bindC kindOf l m x = m x := by
        intro l
        induction l with
        | nil => intro m _; rfl
        | cons p l ih =>
          intro m hm
          rw [List.map_cons, List.mem_cons, not_or] at hm
          unfold bindC
          rw [ih hm.2]
          split
          · rfl
          · exact if_neg hm.1
      rw [key hn.1, if_neg hk, if_pos rfl]
    · rw [show (x == y) = false by simpa using q] at h
      exact bindC_get hn.2 h hk
theorem zip_get' {X : Addr → Prop} {h : Heap} : ∀ {xs : List Str} {vs : List Value} {ds : List D} {x : Str} {d : D}, RepAll X h vs ds → (xs.zip ds).lookup x = some d → ∃ v, (xs.zip vs).lookup x = some v ∧ Rep X h v d
  | [], _, _, _, _, _, e => by simp at e
  | _ :: _, _, _, _, _, .nil, e => by simp at e
  | y :: xs, _, _, x, d, .cons (v := v) r rs, e => by
    rw [List.zip_cons_cons, lookup_cons] at e
    rw [List.zip_cons_cons, List.lookup_cons]
    by_cases q : x = y
    · subst q
      rw [if_pos rfl] at e; cases e
      exact ⟨v, by simp, r⟩
    · rw [if_neg q] at e
      rw [show (x == y) = false by simpa using q]
      exact zip_get' rs e

/-- what a frame may not touch: all but the pen's list -/
noncomputable def Cm (pen : Option Addr) (h : Heap) : Addr → Option Obj := protect (fun _ => none) (fun a => pen = some a) h
theorem Cm_le {pen : Option Addr} {h : Heap} {b : Addr} {o : Obj} (e : Cm pen h b = some o) : h.get? b = some o := protect_le (C := fun _ => none) (X := fun a => pen = some a) (fun _ _ e => by cases e) b o e
theorem Cm_has {pen : Option Addr} {h : Heap} {b : Addr} {o : Obj} (np : pen ≠ some b) (e : h.get? b = some o) : Cm pen h b = some o := protect_has (C := fun _ => none) (fun _ _ e => by cases e) np e
theorem Cm_none {pen : Option Addr} {h : Heap} {b : Addr} (e : h.get? b = none) : Cm pen h b = none := by
  cases q : Cm pen h b with
  | none => rfl
  | some o => rw [Cm_le q] at e; cases e
theorem Cm_pen {h : Heap} {p : Addr} : Cm (some p) h p = none := protect_none rfl rfl

/-- a def's frame -/
abbrev fnCx (w : World) (A : Around) (qual : Str) (scope : Scope) (L f : Addr) (cdv : Value) (s0 : Shared) (C : Addr → Option Obj) (X : Addr → Prop) (pen : Option Addr) : Cx :=
  { w := w, A := A, env := envOfC qual scope L f cdv, s0 := s0, C := C, X := X, pen := pen, owns := true }

section
variable {prog : Program} {h0 : Heap} {K : Frag} {w : World} {A : Around} {n : Nat} {X : Addr → Prop} {s : Shared} {args : List Value} {ds : List D} {R : Result → Shared → Prop}
theorem enter (B : Top0 K h0) {f : Addr} {oc : Value} {od : Option Addr} {osl : Array (Option Value)} {name qual : Str} {params : Arguments} {body : List Stmt} {scope : Scope} {dV kV doc pm cdv ct : Value} {an : Option Addr} {xs : List Str} {pen : Option Addr} {cnt : Nat}
    (ho : K.lookup f = some ⟨oc, od, .func (fnOf name qual params body scope dV kV doc pm an cdv ct), osl⟩) (hcd : codeIn K cdv qual = true) (lv : Lv (n + 1) A) (p : PC h0 X s.heap) (r : RepAll X s.heap args ds)
    (hbind : bindArgs (fnOf name qual params body scope dV kV doc pm an cdv ct) ⟨args, []⟩ = pure (xs.zip args))
    (hkind : ∀ n, ∀ x ∈ xs, scope.names.lookup x = some .local ∨ (scope.names.lookup x = some .cell ∧ ((cellsFrom n scope.names []).lookup x).isSome = true)) (hnd : xs.Nodup) (hlen : xs.length = ds.length)
    (hpen : ∀ q, pen = some q → X q ∧ h0.get? q = none ∧ PenOK X q cnt s.heap)
    (h : ∀ L s₁ X', (∀ a, X a → X' a) → CxOK h0 n (fnCx w (A.deeper (envOfC qual scope L f cdv)) qual scope L f cdv s (Cm pen s.heap) X' pen) →
      St (fnCx w (A.deeper (envOfC qual scope L f cdv)) qual scope L f cdv s (Cm pen s.heap) X' pen) { vars := xs.zip ds, cnt := cnt } s₁ →
      wpAny (model prog w) (A.deeper (envOfC qual scope L f cdv)) (execs body (envOfC qual scope L f cdv)) (fun fl s' => R (.ok (.ret (match fl with | .ret v => v | _ => .none))) s')
        (fun e s' => wpAny (model prog w) (A.deeper (envOfC qual scope L f cdv)) (leaving (envOfC qual scope L f cdv) e) (fun _ s'' => R (.error e) s'') (fun e' s'' => R (.error e') s'') s') s₁)
    (hco : scope.isCoroutine = false := by rfl) (hgen : scope.isGenerator = false := by rfl) (hk : scope.kind = .function := by rfl) : codeAny (model prog w) A (.call (.ref f) ⟨args, []⟩) R s := by
  have hv : args.length = ds.length := r.length
  have hxs : (xs.zip args).map (·.1) = xs := by
    rw [List.map_fst_zip]; omega
  refine codeAny_call_function lv.okDepth ((p.inK B) _ _ ho) rfl hco hgen rfl (codeRec_of (p.inK B) hcd) ?_
  rw [hbind]
  refine wpAny_pure (wpAny_newFunctionEnv_cells hk (fun y hy => hkind _ _ (by
    have : y.1 ∈ (xs.zip args).map (·.1) := List.mem_map_of_mem hy
    rwa [hxs] at this)) fun env' he s' x => ?_)
  subst he
  refine ⟨(p.nolimit B).keeps x.toInCall.keep, codeAny_func ?_⟩
  have hk₁ := x.toInCall.keep
  obtain ⟨h₁, tk, e₁⟩ := x.toInCall.same
  have hL0 : s.heap.get? s.heap.objs.size = none := fresh_size _
  have hc0 : ∀ y c, (cellsFrom (s.heap.objs.size + 1) scope.names []).lookup y = some c → s.heap.get? c = none := fun y c e => by
    have := x.above y c (PySem.mem_of_lookup e)
    cases q : s.heap.get? c with
    | none => rfl
    | some o => have l := Heap.lt_size q; exact absurd (Nat.lt_trans this l) (Nat.lt_irrefl _)
  have hpl : ∀ q, pen = some q → ∃ o, s.heap.get? q = some o := fun q e => by
    obtain ⟨_, _, _, _, _, _, _, _, _, _, _, z, _⟩ := hpen q e; exact ⟨_, z⟩
  refine h s.heap.objs.size s' (fun a => X a ∨ a = s.heap.objs.size ∨ ∃ y, (cellsFrom (s.heap.objs.size + 1) scope.names []).lookup y = some a) (fun a q => .inl q) ?_ ?_
  · refine ⟨lv.deeper _, fun b o e => Cm_has (fun q => ?_) (p.base b o e), hk, rfl, rfl, .inr (.inl rfl), Cm_none hL0, fun _ y c h1 h2 => ⟨.inr (.inr ⟨y, h2⟩), Cm_none (hc0 y c h2), fun z hz => ?_⟩, fun q e => ⟨.inl (hpen q e).1, by have e' : pen = some q := e; subst e'; exact Cm_pen⟩, fun y c e => .inr (.inr ⟨y, e⟩)⟩
    · rw [(hpen b q).2.1] at e; cases e
    · exact name_of_addr x.apart (PySem.mem_of_lookup hz) (PySem.mem_of_lookup h2)
  · have hx : ∀ a, (XX (fun a => X a ∨ a = s.heap.objs.size ∨ ∃ y, (cellsFrom (s.heap.objs.size + 1) scope.names []).lookup y = some a) none) a → ∀ o, s.heap.get? a = some o → X a := by
      rintro a ((q | rfl | ⟨y, q⟩) | ⟨_, q⟩) o e
      · exact q
      · rw [hL0] at e; cases e
      · rw [hc0 y a q] at e; cases e
      · cases q
    refine ⟨⟨h₁, tk, e₁⟩, fun b o e => hk₁ b o (Cm_le e), fun a q => ?_, ⟨_, x.toInCall.ns, fun y d e => ?_⟩, fun _ y c h1 h2 => ⟨_, x.cell y c h2⟩, fun l dl e => (by cases e), fun q e => ?_⟩
    · rcases q with q | rfl | ⟨y, q⟩
      · obtain ⟨o, e⟩ := p.live a q; exact ⟨o, hk₁ a o e⟩
      · obtain ⟨o, _, _, e, _⟩ := x.toInCall.ns; exact ⟨o, e⟩
      · obtain ⟨o, e, _⟩ := x.cell y a q; exact ⟨o, e⟩
    · obtain ⟨v, e1, r1⟩ := zip_get' r e
      have hy : y ∈ xs := by
        have := mem_of_lookup_some e1
        exact (List.of_mem_zip this).1
      refine ⟨v, ?_, r1.mono hx fun b o _ e => hk₁ b o e⟩
      have hnd' : ((xs.zip args).map (·.1)).Nodup := by rw [hxs]; exact hnd
      rcases hkind (s.heap.objs.size + 1) y hy with q | ⟨q, qc⟩
      · exact .inl ⟨q, bindL_get hnd' e1 q⟩
      · obtain ⟨c, hc⟩ := Option.isSome_iff_exists.mp qc
        refine .inr ⟨.inl q, c, hc, ?_⟩
        have := x.cell y c hc
        rw [bindC_get hnd' e1 (by show scope.names.lookup y ≠ _; rw [q]; decide)] at this
        exact this
    · obtain ⟨_, _, vc, g, st, k, tg, ts, tk', ns, nn, a, b, r⟩ := hpen q e
      exact ⟨vc, g, st, k, tg, ts, tk', ns, nn, hk₁ _ _ a, b.mono hx fun b o _ e => hk₁ b o e, r⟩

/-- a def that draws nothing, from its body's walk -/
theorem FnOK.of (B : Top0 K h0) {f : Addr} {oc : Value} {od : Option Addr} {osl : Array (Option Value)} {name qual : Str} {params : Arguments} {body : List Stmt} {scope : Scope} {dV kV doc pm cdv ct : Value} {an : Option Addr} (xs : List Str) {d : D}
    (ho : K.lookup f = some ⟨oc, od, .func (fnOf name qual params body scope dV kV doc pm an cdv ct), osl⟩) (hcd : codeIn K cdv qual = true)
    (hbind : ∀ args : List Value, args.length = ds.length → bindArgs (fnOf name qual params body scope dV kV doc pm an cdv ct) ⟨args, []⟩ = pure (xs.zip args))
    (hkind : ∀ n, ∀ x ∈ xs, scope.names.lookup x = some .local ∨ (scope.names.lookup x = some .cell ∧ ((cellsFrom n scope.names []).lookup x).isSome = true)) (hnd : xs.Nodup) (hlen : xs.length = ds.length)
    (h : ∀ w A L s0 C X, CxOK h0 n (fnCx w A qual scope L f cdv s0 C X none) → Exps prog (fnCx w A qual scope L f cdv s0 C X none) (fun _ _ => False) { vars := xs.zip ds } body (fun _ => d = .none) (fun d' _ => d' = d))
    (hco : scope.isCoroutine = false := by rfl) (hgen : scope.isGenerator = false := by rfl) (hk : scope.kind = .function := by rfl) : FnOK prog h0 (n + 1) f ds d := fun w A X s args lv p r => by
  refine enter (pen := none) (cnt := 0) B ho hcd lv p r (hbind args r.length) hkind hnd hlen (fun q e => by cases e) (fun L s₁ X' hX c t => ?_) hco hgen hk
  refine wpAny_mono (h w _ L s _ X' c s₁ t) (fun fl s' p' => ?_) fun _ _ x => x.elim
  have fin : ∀ {S' : S} {v : Value}, St (fnCx w (A.deeper (envOfC qual scope L f cdv)) qual scope L f cdv s (Cm none s.heap) X' none) S' s' → Rep X s'.heap v d → ∃ v', (Except.ok (.ret v) : Result) = .ok (.ret v') ∧ Kp s s' ∧ Rep X s'.heap v' d := fun t' rr => by
    obtain ⟨h', tk', e'⟩ := t'.rest
    refine ⟨_, rfl, ⟨h', tk', e', fun b o e => ?_⟩, rr⟩
    have := t'.keep b o (Cm_has (by simp) e)
    rw [e'] at this; exact this
  rcases p' with ⟨e, S', t', q⟩ | ⟨v, d', S', e, t', rr, q⟩
  · subst e; subst q
    exact fin t' .none
  · subst e; subst q
    exact fin t' (rr.mono (fun a x _ _ => .inl (hX a x)) fun _ _ _ e => e)
end

section
variable {prog : Program} {h0 : Heap} {K : Frag} {cx : Cx} {n : Nat} {S₀ : S} {Q : D → Nat → Prop}
theorem backTo_plain {pos : Pos} {env : Env} : ∀ {es : List PySem.Expr}, es.all notStar = true → (backTo pos (starEach es env)).any (·.1) = false
  | [], _ => rfl
  | e :: es, h => by
    simp only [List.all_cons, Bool.and_eq_true] at h
    rw [starEach_cons e es env h.1]
    show (false || (backTo pos (starEach es env)).any (·.1)) = false
    rw [backTo_plain h.2]; rfl
inductive CallQ (prog : Program) (h0 : Heap) (n : Nat) (a : Addr) (Q : D → Nat → Prop) (ds : List D) (k : Nat) : Prop
  | mk (d : D) (m : Nat) (hm : m ≤ n) (f : FnOK prog h0 m a ds d) (q : Q d k) : CallQ prog h0 n a Q ds k
theorem Evp.callFn (c : CxOK h0 n cx) (B : Top0 K h0) {f : Str} {p pos : Pos} {e : PySem.Expr} {es : List PySem.Expr} {a : Addr} (hf : nsIn K mainGlobals f = some (some (.ref a))) (hk : keepIn K (.ref a) = true)
    (h : Evs prog cx S₀ (e :: es) (CallQ prog h0 n a Q))
    (hx : cx.env.kindOf f = some .globalImplicit) (hs : (e :: es).all notStar = true := by rfl) (hd : (f == ("__debug__" : Str)) = false := by decide) : Evp prog cx S₀ (.Call (.Name f p) (e :: es) [] pos) Q := fun s t => by
  show wpAny _ _ (do callWith pos (← eval (.Name f p) cx.env) [] (backTo pos (starEach (e :: es) cx.env)) (backToKw pos (keywordEach [] cx.env))) _ _ s
  have hn : Evp prog cx S₀ (.Name f p) fun d k => d = .raw (.ref a) ∧ k = S₀.cnt := Evp.glob c B (d := .raw (.ref a)) hf (fun _ _ => .raw _) ⟨rfl, rfl⟩ hx hd
  obtain ⟨_, _, mg, mb, T⟩ := B.top
  have pc := t.pc c
  refine wpAny_bind (Calls.Name_function_global c.kind hx (Calls.loadGlobal_global (by rw [c.glob]; exact T.g.keeps pc.base) (mg_of B.inK T.g hf) ?_) hd)
  have hs' : notStar e = true ∧ es.all notStar = true := by simpa using hs
  refine callWith_K (pc.inK B) hk (wpAny_mono (h s pos t) (fun vs s₁ ⟨ds, k, t₁, k₁, r, d, m, hm, ok, q⟩ => ⟨(t₁.pc c).inK B, ?_⟩) fun _ _ x => x) (starEach_cons e es _ hs'.1) (backTo_plain hs'.2)
  refine wpAny_call (codeAny_mono (ok cx.w cx.A _ s₁ _ (c.lv.mono hm) (t₁.pc c) r) fun rr s₂ ⟨v, e, kp, rv⟩ => ?_)
  subst e
  exact ⟨d, k, t₁.keeps c kp, k₁.trans (kp.but _), rv, q⟩
end
end Mine
end

section
set_option linter.unusedVariables false
open PySem PySem.W PyProof.Rows
namespace Mine

-- the table of a small set of small ints
namespace Tb
open SetTable
theorem below_go {xs : Array Nat} {j : Nat} (hm : xs.toList.Pairwise (· < ·)) : ∀ (fuel lo hi : Nat), hi - lo ≤ fuel → lo ≤ hi → hi ≤ xs.size → (∀ i, i < lo → xs.getD i j < j) → (∀ i, hi ≤ i → i < xs.size → j ≤ xs.getD i j) →
    (∀ i, i < below.go xs j fuel lo hi → xs.getD i j < j) ∧ (∀ i, below.go xs j fuel lo hi ≤ i → i < xs.size → j ≤ xs.getD i j) ∧ below.go xs j fuel lo hi ≤ xs.size
  | 0, lo, hi, h1, h2, h3, h4, h5 => by
    have : lo = hi := by omega
    subst this
    exact ⟨h4, h5, h3⟩
  | fuel + 1, lo, hi, h1, h2, h3, h4, h5 => by
    unfold below.go
    have mono : ∀ a b, a < b → b < xs.size → xs.getD a j < xs.getD b j := fun a b hab hb => by
      have hb' : b < xs.toList.length := by simpa using hb
      have := List.pairwise_iff_getElem.mp hm a b (by omega) hb' hab
      simpa [Array.getD, hb, Nat.lt_trans hab hb] using this
    by_cases hlt : lo < hi
    · rw [if_pos hlt]
      have hmid : (lo + hi) / 2 < hi := by omega
      have hmid2 : lo ≤ (lo + hi) / 2 := by omega
      dsimp only
      by_cases hq : xs.getD ((lo + hi) / 2) j < j
      · rw [if_pos hq]
        refine below_go hm fuel _ _ (by omega) (by omega) h3 (fun i hi' => ?_) h5
        by_cases e : i = (lo + hi) / 2
        · rw [e]; exact hq
        · exact Nat.lt_trans (mono i _ (by omega) (by omega)) hq
      · rw [if_neg hq]
        refine below_go hm fuel _ _ (by omega) (by omega) (by omega) h4 (fun i h6 h7 => ?_)
        by_cases e : i = (lo + hi) / 2
        · rw [e]; omega
        · have := mono ((lo + hi) / 2) i (by omega) h7
          omega
    · rw [if_neg hlt]
      have : lo = hi := by omega
      subst this
      exact ⟨h4, h5, h3⟩
theorem below_spec {xs : Array Nat} (j : Nat) (hm : xs.toList.Pairwise (· < ·)) :
    (∀ i, i < below xs j → xs.getD i j < j) ∧ (∀ i, below xs j ≤ i → i < xs.size → j ≤ xs.getD i j) ∧ below xs j ≤ xs.size :=
  below_go hm xs.size 0 xs.size (by omega) (Nat.zero_le _) (Nat.le_refl _) (fun i h => by omega) (fun i h h' => by omega)
/-- the next live slot behind the i-th -/
theorem below_next {xs : Array Nat} (hm : xs.toList.Pairwise (· < ·)) {i : Nat} (hi : i < xs.size) : below xs (xs[i] + 1) = i + 1 := by
  obtain ⟨h1, h2, h3⟩ := below_spec (xs[i] + 1) hm
  have mono : ∀ a b (hab : a < b) (hb : b < xs.size), xs[a] < xs[b] := fun a b hab hb => by
    have hb' : b < xs.toList.length := by simpa using hb
    have := List.pairwise_iff_getElem.mp hm a b (by omega) hb' hab
    simpa using this
  generalize below xs (xs[i] + 1) = r at h1 h2 h3 ⊢
  rcases Nat.lt_trichotomy r (i + 1) with h | h | h
  · have := h2 i (by omega) hi
    simp [Array.getD, hi] at this
    omega
  · exact h
  · have hl : i + 1 < xs.size := by omega
    have := h1 (i + 1) h
    simp [Array.getD, hl] at this
    have := mono i (i + 1) (by omega) hl
    omega
theorem below_zero {xs : Array Nat} (hm : xs.toList.Pairwise (· < ·)) : below xs 0 = 0 := by
  obtain ⟨h1, h2, h3⟩ := below_spec 0 hm
  generalize below xs 0 = r at h1 h2 h3 ⊢
  rcases Nat.eq_zero_or_pos r with h | h
  · exact h
  · have := h1 0 h
    omega
/-- a slot that bears nothing keeps the order -/
theorem insert_rise {xs : Array Nat} {j : Nat} (hm : xs.toList.Pairwise (· < ·)) (hj : xs[below xs j]? ≠ some j) : (insertAt xs (below xs j) j).toList.Pairwise (· < ·) := by
  obtain ⟨h1, h2, h3⟩ := below_spec j hm
  rw [SetTable.toList_insertAt]
  generalize below xs j = r at *
  have lt1 : ∀ a ∈ xs.toList.take r, a < j := fun a ha => by
    obtain ⟨i, hi, rfl⟩ := List.mem_iff_getElem.mp ha
    rw [List.length_take] at hi
    have hi' : i < xs.size := by have := xs.length_toList; omega
    have := h1 i (by omega)
    simpa [Array.getD, hi'] using this
  have lt2 : ∀ b ∈ xs.toList.drop r, j < b := fun b hb => by
    obtain ⟨i, hi, rfl⟩ := List.mem_iff_getElem.mp hb
    rw [List.length_drop] at hi
    have hi' : r + i < xs.size := by have := xs.length_toList; omega
    have hr : r < xs.size := by omega
    have a1 := h2 r (Nat.le_refl _) hr
    have a2 : xs[r] ≠ j := fun e => hj (by simp [hr, e])
    simp [Array.getD, hr] at a1
    have a3 : xs[r] ≤ xs[r + i] := by
      by_cases e : i = 0
      · subst e; exact Nat.le_refl _
      · have := List.pairwise_iff_getElem.mp hm r (r + i) (by simpa using hr) (by simpa using hi') (by omega)
        exact Nat.le_of_lt (by simpa using this)
    simp only [List.getElem_drop, Array.getElem_toList]
    omega
  rw [List.pairwise_append]
  refine ⟨hm.sublist (List.take_sublist _ _), ?_, fun a ha b hb => ?_⟩
  · rw [List.pairwise_cons]
    exact ⟨lt2, hm.sublist (List.drop_sublist _ _)⟩
  · rcases List.mem_cons.mp hb with rfl | hb
    · exact lt1 a ha
    · exact Nat.lt_trans (lt1 a ha) (lt2 b hb)
theorem pigeon : ∀ (n : Nat) (l : List Nat), l.length < n → ∃ j, j < n ∧ j ∉ l
  | 0, _, h => by omega
  | n + 1, l, h => by
    by_cases hn : n ∈ l
    · have hl : (l.erase n).length < n := by rw [List.length_erase_of_mem hn]; have := List.length_pos_of_mem hn; omega
      obtain ⟨j, h1, h2⟩ := pigeon n (l.erase n) hl
      refine ⟨j, by omega, fun hj => h2 ?_⟩
      exact (List.mem_erase_of_ne (by omega)).mpr hj
    · exact ⟨n, by omega, hn⟩

/-- the slots that a search looks at -/
noncomputable def looks (mask : Nat) : Nat → Probe → List Nat
  | 0, _ => []
  | fuel + 1, p => p.j :: looks mask fuel (advance { fresh 0 0 true with mask := mask } p)
noncomputable def start (mask : Nat) (h : Int) : Probe := probeStart { fresh 0 0 true with mask := mask } h
noncomputable def smallHashes : List Int := (-2) :: (List.range 30).map fun (i : Nat) => (i : Int)
noncomputable def covers (mask : Nat) : Bool := smallHashes.all fun h => (List.range (mask + 1)).all fun j => (looks mask (10 * turns mask) (start mask h)).contains j
theorem covers7 : covers 7 = true := by decide +kernel
theorem covers31 : covers 31 = true := by decide +kernel
theorem advance_eq (t : SetTable) (p : Probe) : advance t p = advance { fresh 0 0 true with mask := t.mask } p := rfl
theorem slot_of {t : SetTable} (hd : t.dummies = #[]) (j : Nat) : (t.slot j = .empty ∧ t.place[below t.place j]? ≠ some j) ∨ ∃ i, t.slot j = .live i ∧ j ∈ t.place.toList := by
  unfold slot
  by_cases h : t.place[below t.place j]? = some j
  · right
    refine ⟨below t.place j, by simp [h], ?_⟩
    obtain ⟨hl, e⟩ := Array.getElem?_eq_some_iff.mp h
    rw [← e]; exact Array.getElem_mem_toList hl
  · left
    refine ⟨?_, h⟩
    have : has t.dummies j = false := by rw [hd]; unfold has; simp
    simp [h, this]
theorem go_free {t : SetTable} (hd : t.dummies = #[]) (hashAt : Nat → Int) (h : Int) (hne : ∀ i, (hashAt i == h) = false) : ∀ (fuel : Nat) (p : Probe), p.dummy = none → (∃ j, j ∈ looks t.mask fuel p ∧ j ∉ t.place.toList) →
    ∃ j, probe.go t hashAt h fuel p = some (.empty j none) ∧ t.place[below t.place j]? ≠ some j
  | 0, p, _, ⟨j, hj, _⟩ => by simp [looks] at hj
  | fuel + 1, p, hp, ⟨j, hj, hn⟩ => by
    unfold probe.go
    rcases slot_of hd p.j with ⟨e, e'⟩ | ⟨i, e, hm⟩
    · rw [e]; dsimp only; rw [hp]; exact ⟨_, rfl, e'⟩
    · rw [e]; dsimp only
      rw [hne i]
      simp only [Bool.false_eq_true, if_false]
      refine go_free hd hashAt h hne fuel _ ?_ ⟨j, ?_, hn⟩
      · unfold advance; split <;> exact hp
      · unfold looks at hj
        rcases List.mem_cons.mp hj with rfl | hj
        · exact absurd hm hn
        · rw [advance_eq]; exact hj
theorem freeSlot_ok {t : SetTable} (hd : t.dummies = #[]) (hm : t.mask = 7 ∨ t.mask = 31) (hs : t.place.size ≤ t.mask) {h : Int} (hh : h ∈ smallHashes) :
    ∃ j, t.freeSlot h = some (j, false) ∧ t.place[below t.place j]? ≠ some j := by
  obtain ⟨j, hj, hn⟩ := pigeon (t.mask + 1) t.place.toList (by rw [Array.length_toList]; omega)
  have hc : covers t.mask = true := by rcases hm with e | e <;> rw [e]; exact covers7; exact covers31
  unfold covers at hc
  have h1 := List.all_eq_true.mp hc h hh
  have h2 := List.all_eq_true.mp h1 j (List.mem_range.mpr hj)
  have h3 : j ∈ looks t.mask (10 * turns t.mask) (start t.mask h) := by simpa using h2
  obtain ⟨k, e, hk⟩ := go_free hd (fun _ => h + 1) h (fun i => by
    rw [beq_eq_false_iff_ne]; omega) (10 * turns t.mask) (t.probeStart h) rfl ⟨j, h3, hn⟩
  refine ⟨k, ?_, hk⟩
  unfold freeSlot probe
  rw [e]
  rfl
end Tb
end Mine
end

section
set_option linter.unusedVariables false
open PySem PySem.W PyProof.Rows
namespace Mine
namespace Tb
open SetTable

noncomputable def cand (mask : Nat) : Nat → Nat → Nat → List Nat
  | 0, _, _ => []
  | fuel + 1, i, p => (List.range (runEnd mask i + 1 - i)).map (fun k => i + k) ++ cand mask fuel (leap mask i p).1 (leap mask i p).2
noncomputable def covered : Bool := smallHashes.all fun h => (List.range 32).all fun j => (cand 31 (turns 31) (bits h % (31 + 1)) (bits h)).contains j
theorem covered_ok : covered = true := by decide +kernel

theorem free_ok {owner : Array (Option Nat)} {mask : Nat} : ∀ (fuel i p : Nat), (∃ c, c ∈ cand mask fuel i p ∧ (owner.getD c (some 0)).isNone = true) →
    ∃ j, layClean.free mask owner fuel i p = some j ∧ (owner.getD j (some 0)).isNone = true
  | 0, i, p, ⟨c, hc, _⟩ => by simp [cand] at hc
  | fuel + 1, i, p, ⟨c, hc, hn⟩ => by
    unfold layClean.free
    cases hf : (List.range (runEnd mask i + 1 - i)).find? fun k => (owner.getD (i + k) (some 0)).isNone with
    | some k =>
      exact ⟨i + k, rfl, by simpa using List.find?_some hf⟩
    | none =>
      dsimp only
      refine free_ok fuel _ _ ⟨c, ?_, hn⟩
      unfold cand at hc
      rcases List.mem_append.mp hc with hc | hc
      · obtain ⟨k, hk, rfl⟩ := List.mem_map.mp hc
        have := List.find?_eq_none.mp hf k hk
        rw [hn] at this; exact absurd rfl this
      · exact hc

/-- the owners of the slots: the i-th of l -/
structure Own (owner : Array (Option Nat)) (l : List Nat) : Prop where
  size : owner.size = 32
  at_ : ∀ j, j < 32 → owner.getD j none = (if j ∈ l then some (l.idxOf j) else none)
  nd : l.Nodup
  lt : ∀ j ∈ l, j < 32
theorem getD_some {owner : Array (Option Nat)} {j : Nat} (h : j < owner.size) (x y : Option Nat) : owner.getD j x = owner.getD j y := by
  simp [Array.getD, h]
theorem Own.nil : Own (Array.replicate (31 + 1) none) [] := ⟨by simp, fun j h => by simp [Array.getD], List.nodup_nil, fun _ h => by cases h⟩
theorem Own.put {owner : Array (Option Nat)} {l : List Nat} {j : Nat} (o : Own owner l) (h : (owner.getD j (some 0)).isNone = true) : Own (owner.setIfInBounds j (some l.length)) (l ++ [j]) := by
  have hj : j < owner.size := by
    by_cases q : j < owner.size
    · exact q
    · simp [Array.getD, q] at h
  have hj' : j < 32 := by have := o.size; omega
  have hn : j ∉ l := fun hm => by
    have := o.at_ j hj'
    rw [if_pos hm, getD_some hj none (some 0)] at this
    rw [this] at h; cases h
  refine ⟨by rw [Array.size_setIfInBounds, o.size], fun k hk => ?_, ?_, fun k hk => ?_⟩
  · have hk' : k < owner.size := by have := o.size; omega
    have e := o.at_ k hk
    simp only [Array.getD, Array.size_setIfInBounds, hk', dite_true] at e ⊢
    by_cases q : k = j
    · subst q
      simp only [List.mem_append, List.mem_singleton, or_true, if_true]
      rw [List.idxOf_append, if_neg hn]
      simp
    · have hne : ¬ j = k := fun z => q z.symm
      simp only [Array.getInternal_eq_getElem] at e ⊢
      rw [Array.getElem_setIfInBounds hk', if_neg hne, e]
      by_cases m : k ∈ l
      · rw [if_pos m, if_pos (List.mem_append_left _ m), List.idxOf_append, if_pos m]
      · rw [if_neg m, if_neg (fun z => by rcases List.mem_append.mp z with z | z; exact m z; exact q (by simpa using z))]
  · rw [List.nodup_append]
    exact ⟨o.nd, by simp, fun a ha b hb => by rw [List.mem_singleton.mp hb]; exact fun z => hn (z ▸ ha)⟩
  · rcases List.mem_append.mp hk with hk | hk
    · exact o.lt k hk
    · rw [List.mem_singleton.mp hk]; exact hj'

theorem lay_go : ∀ (hs : List Int) (owner : Array (Option Nat)) (l : List Nat), (∀ h ∈ hs, h ∈ smallHashes) → Own owner l → l.length + hs.length ≤ 31 →
    ∃ owner' l', hs.foldl (fun (acc : Option (Array (Option Nat) × Nat)) h => do
      let (owner, k) ← acc
      let j ← layClean.free 31 owner (turns 31) (bits h % (31 + 1)) (bits h)
      pure (owner.setIfInBounds j (some k), k + 1)) (some (owner, l.length)) = some (owner', l'.length) ∧ Own owner' l' ∧ l'.length = l.length + hs.length
  | [], owner, l, _, o, _ => ⟨owner, l, rfl, o, by simp⟩
  | h :: hs, owner, l, hh, o, hl => by
    simp only [List.length_cons] at hl
    obtain ⟨j, hj, hn⟩ := pigeon 32 l (by omega)
    have hc := covered_ok
    unfold covered at hc
    have h1 := List.all_eq_true.mp hc h (hh h (.head _))
    have h2 := List.all_eq_true.mp h1 j (List.mem_range.mpr hj)
    have h3 : j ∈ cand 31 (turns 31) (bits h % (31 + 1)) (bits h) := by simpa using h2
    have hjs : j < owner.size := by rw [o.size]; exact hj
    obtain ⟨c, e, hc⟩ := free_ok (owner := owner) (mask := 31) (turns 31) (bits h % (31 + 1)) (bits h) ⟨j, h3, by rw [getD_some hjs (some 0) none, o.at_ j hj, if_neg hn]; rfl⟩
    have o' := o.put hc
    obtain ⟨owner', l', e', o'', hl'⟩ := lay_go hs _ (l ++ [c]) (fun h m => hh h (.tail _ m)) o' (by rw [List.length_append]; simp; omega)
    refine ⟨owner', l', ?_, o'', by rw [hl', List.length_append]; simp; omega⟩
    rw [← e', List.foldl_cons]
    congr 1
    simp only [Option.bind_eq_bind, Option.bind_some, e, Option.pure_def, List.length_append, List.length_cons, List.length_nil, Nat.zero_add]

theorem lay_ok {hashes : Array Int} (hh : ∀ h ∈ hashes.toList, h ∈ smallHashes) (hl : hashes.size ≤ 31) : ∃ owner l, layClean 31 hashes = some owner ∧ Own owner l ∧ l.length = hashes.size := by
  obtain ⟨owner, l, e, o, h⟩ := lay_go hashes.toList _ [] hh Own.nil (by simpa using hl)
  refine ⟨owner, l, ?_, o, by simpa using h⟩
  unfold layClean
  rw [← Array.foldl_toList]
  simp only [List.length_nil] at e
  rw [e]
  rfl

theorem live_eq {owner : Array (Option Nat)} {l : List Nat} (o : Own owner l) :
    ((List.range (31 + 1)).filterMap fun j => (owner.getD j none).map (j, ·)) = ((List.range 32).filter (fun j => decide (j ∈ l))).map fun j => (j, l.idxOf j) := by
  have : ∀ xs : List Nat, (∀ j ∈ xs, j < 32) → (xs.filterMap fun j => (owner.getD j none).map (j, ·)) = (xs.filter (fun j => decide (j ∈ l))).map fun j => (j, l.idxOf j) := by
    intro xs
    induction xs with
    | nil => intro _; rfl
    | cons x xs ih =>
      intro h
      rw [List.filterMap_cons, o.at_ x (h x (.head _)), List.filter_cons]
      by_cases q : x ∈ l
      · simp only [q, if_true, Option.map_some, decide_true, List.map_cons]
        rw [ih fun j hj => h j (.tail _ hj)]
      · simp only [q, if_false, Option.map_none, decide_false, Bool.false_eq_true]
        exact ih fun j hj => h j (.tail _ hj)
  exact this _ fun j hj => List.mem_range.mp hj
theorem laid_ok {hashes : Array Int} {f m : Nat} {led plain : Bool} (hh : ∀ h ∈ hashes.toList, h ∈ smallHashes) (hl : hashes.size ≤ 31) :
    ∃ place order, laid 31 f m led plain hashes = some ({ mask := 31, place := place, dummies := #[], finger := f, led := led, moves := m, plain := plain }, order) ∧
      place.toList.Pairwise (· < ·) ∧ place.size = hashes.size ∧ order.toList.Perm (List.range hashes.size) := by
  obtain ⟨owner, l, e, o, hn⟩ := lay_ok hh hl
  have hlive := live_eq o
  refine ⟨_, _, by unfold laid; rw [e]; rfl, ?_, ?_, ?_⟩
  · simp only [hlive, List.map_map]
    have : ((fun x : Nat × Nat => x.1) ∘ fun j => (j, l.idxOf j)) = id := by funext j; rfl
    rw [this, List.map_id]
    exact List.Pairwise.filter _ List.pairwise_lt_range
  · simp only [hlive, List.size_toArray, List.length_map]
    rw [← hn]
    refine (List.Perm.length_eq ?_)
    refine (List.perm_ext_iff_of_nodup (List.Pairwise.filter _ List.nodup_range) o.nd).mpr fun a => ?_
    simp only [List.mem_filter, List.mem_range, decide_eq_true_eq]
    exact ⟨fun h => h.2, fun h => ⟨o.lt a h, h⟩⟩
  · simp only [hlive, List.map_map]
    have p : ((List.range 32).filter fun j => decide (j ∈ l)).Perm l :=
      (List.perm_ext_iff_of_nodup (List.Pairwise.filter _ List.nodup_range) o.nd).mpr fun a => by
        simp only [List.mem_filter, List.mem_range, decide_eq_true_eq]
        exact ⟨fun h => h.2, fun h => ⟨o.lt a h, h⟩⟩
    refine (p.map _).trans ?_
    have : l.map ((fun x : Nat × Nat => x.2) ∘ fun j => (j, l.idxOf j)) = List.range hashes.size := by
      rw [← hn]
      refine List.ext_getElem (by simp) fun i h1 h2 => ?_
      simp only [List.getElem_map, List.getElem_range, Function.comp]
      exact o.nd.idxOf_getElem i _
    rw [this]
end Tb
end Mine
end

section
set_option linter.unusedVariables false
open PySem PySem.W PyProof.Rows
namespace Mine

noncomputable def keyOf (e : Int × Value) : Int := match e.2 with
  | .int k _ => k
  | _ => 0
noncomputable def IntEnts (l : List (Int × Value)) : Prop := ∀ e ∈ l, ∃ k t, e = (hashInt k, Value.int k t)
noncomputable def Small (k : Int) : Prop := -1 ≤ k ∧ k ≤ 29
theorem small_hash {k : Int} (h : Small k) : hashInt k ∈ Tb.smallHashes := by
  obtain ⟨h1, h2⟩ := h
  have all : ∀ n : Fin 30, hashInt ((n.val : Nat) : Int) ∈ Tb.smallHashes := by decide +kernel
  by_cases e : k = -1
  · subst e; decide +kernel
  · have := all ⟨k.toNat, by omega⟩
    rwa [show ((k.toNat : Nat) : Int) = k by omega] at this

structure Good (t : SetTable) (n : Nat) : Prop where
  size : t.place.size = n
  dum : t.dummies = #[]
  rise : t.place.toList.Pairwise (· < ·)
  mask : (t.mask = 7 ∧ n ≤ 4) ∨ (t.mask = 31 ∧ n ≤ 18)
theorem Good.fits {t : SetTable} {n : Nat} (g : Good t n) : t.fits n = true := by
  have := g.mask
  simp only [SetTable.fits, SetTable.fill, g.size, g.dum, Bool.and_eq_true, beq_self_eq_true, decide_eq_true_eq, true_and]
  simp
  omega

abbrev setObj (es : Array (Int × Value)) (ep : Nat) (t : SetTable) : Obj := { cls := .type "set", dict := none, data := .set es ep t }
/-- a set of small ints, met in this order -/
noncomputable def IntSet (b : Bool) (h : Heap) (a : Addr) (σ : List Int) : Prop :=
  ∃ es ep t, h.get? a = some (setObj es ep t) ∧ Good t es.size ∧ t.led = !b ∧ t.plain = true ∧ IntEnts es.toList ∧ (es.toList.map keyOf).Perm σ ∧ (∀ k ∈ σ, Small k) ∧ σ.Nodup

section
variable {prog : Program} {w : World} {A : Around} {E : Value → Shared → Prop} {s : Shared} {b : Bool} {a : Addr} {σ : List Int}
theorem IntEnts.elems {l : List (Int × Value)} (h : IntEnts l) : ElemsOf (intKind prog w) l := fun e he => by
  obtain ⟨k, t, rfl⟩ := h e he
  exact ⟨⟨k, intKind_is _ _ _ _, rfl⟩, rfl⟩
theorem IntSet.keeps {h h' : Heap} (q : IntSet b h a σ) (hk : ∀ o, h.get? a = some o → h'.get? a = some o) : IntSet b h' a σ := by
  obtain ⟨es, ep, t, e, r⟩ := q
  exact ⟨es, ep, t, hk _ e, r⟩
theorem key_iff {l : List (Int × Value)} (h : IntEnts l) (k : Int) : (∃ e ∈ l, (intKind prog w).is k e.2 = true) ↔ k ∈ l.map keyOf := by
  constructor
  · rintro ⟨e, he, hp⟩
    obtain ⟨k', t, rfl⟩ := h e he
    have : k = k' := (intKind prog w).inj _ _ _ hp (intKind_is _ _ _ _)
    subst this
    exact List.mem_map.mpr ⟨_, he, rfl⟩
  · intro hm
    obtain ⟨e, he, rfl⟩ := List.mem_map.mp hm
    obtain ⟨k', t, rfl⟩ := h e he
    exact ⟨_, he, intKind_is _ _ _ _⟩

theorem gave_way (bb : Bool) {s₁ : Shared} {Q' : Unit → Shared → Prop} (hq : Q' () s₁) : wpAny (model prog w) A (match bb with | true => rule "set.scan.the-table-gave-way" | false => pure ()) Q' E s₁ := by
  cases bb <;> first | exact wpAny_pure hq | exact wpAny_rule hq

theorem layNew_good {t : SetTable} {es : Array (Int × Value)} {k : Int} {x : Value} (g : Good t es.size) (hk : Small k) (hroom : es.size + 1 ≤ 18) :
    ∃ es' t', layNew t es (hashInt k) x = (es', t', false, false) ∧ t'.place.size = es'.size ∧ t'.dummies = #[] ∧ t'.place.toList.Pairwise (· < ·) ∧ t'.mask = t.mask ∧ t'.led = t.led ∧ t'.plain = t.plain ∧ es'.size = es.size + 1 := by
  have hm := g.mask
  obtain ⟨j, e, hj⟩ := Tb.freeSlot_ok (t := t) g.dum (by omega) (by rw [g.size]; omega) (small_hash hk)
  have hp := layNew_perm t es (hashInt k) x
  have hsz : (layNew t es (hashInt k) x).1.size = es.size + 1 := by
    have := hp.length_eq
    simpa using this
  unfold layNew at hsz ⊢
  rw [e] at hsz ⊢
  dsimp only [SetTable.put] at hsz ⊢
  have hhas : SetTable.has t.dummies j = false := by rw [g.dum]; unfold SetTable.has; simp
  rw [hhas]
  simp only [Bool.false_eq_true, if_false]
  have hrise := Tb.insert_rise (j := j) g.rise hj
  have hplen : (SetTable.insertAt t.place (SetTable.below t.place j) j).size = es.size + 1 := by
    have := (SetTable.insertAt_perm t.place (SetTable.below t.place j) j).length_eq
    simp [g.size] at this
    exact this
  have hfit : ({ t with place := SetTable.insertAt t.place (SetTable.below t.place j) j } : SetTable).fits (SetTable.insertAt es (SetTable.below t.place j) (hashInt k, x)).size = true := by
    simp only [SetTable.fits, SetTable.fill, hsz, hplen, g.dum, Bool.and_eq_true, beq_self_eq_true, decide_eq_true_eq, true_and]
    simp
    omega
  refine ⟨SetTable.insertAt es (SetTable.below t.place j) (hashInt k, x), { t with place := SetTable.insertAt t.place (SetTable.below t.place j) j }, ?_, ?_, g.dum, hrise, rfl, rfl, rfl, hsz⟩
  · unfold SetTable.orStandIn
    rw [hfit]
    rfl
  · rw [hsz, hplen]

theorem relay_good {t : SetTable} {es : Array (Int × Value)} (hm : t.mask = 7) (h5 : es.size = 5) (hh : ∀ e ∈ es.toList, e.1 ∈ Tb.smallHashes) :
    ∃ es' t', relayAll t es (SetTable.grown es.size) = (es', t', false) ∧ Good t' es'.size ∧ t'.led = t.led ∧ t'.plain = t.plain ∧ List.Perm es'.toList es.toList := by
  have hp := relayAll_perm t es (SetTable.grown es.size)
  obtain ⟨place, order, e, h1, h2, h3⟩ := Tb.laid_ok (hashes := es.map (·.1)) (f := t.finger) (m := t.movedTo 31) (led := t.led) (plain := t.plain) (fun h hm => by
    simp only [Array.toList_map, List.mem_map] at hm
    obtain ⟨e, he, rfl⟩ := hm
    exact hh e he) (by simp [h5])
  have hsa : SetTable.sizeAbove (SetTable.grown es.size) - 1 = 31 := by rw [h5]; decide +kernel
  have hrel : t.relaid (es.map (·.1)) (SetTable.grown es.size) = some ({ mask := 31, place := place, dummies := #[], finger := t.finger, led := t.led, moves := t.movedTo 31, plain := t.plain }, order) := by
    unfold SetTable.relaid
    rw [hsa]
    exact e
  unfold relayAll at hp ⊢
  rw [hrel] at hp ⊢
  dsimp only at hp ⊢
  have hc : coversAll order es.size = true := by
    unfold coversAll
    rw [List.isPerm_iff]
    simpa using h3
  have hsz : (order.filterMap (es[·]?)).size = es.size := by
    have h3' : order.toList.Perm (List.range es.toList.length) := by simpa using h3
    have := (List.Perm.filterMap (fun i => es.toList[i]?) h3').trans (by rw [List.filterMap_getElem?_range_length])
    have := this.length_eq
    rw [← Array.length_toList, Array.toList_filterMap]
    simpa using this
  have hf : ({ mask := 31, place := place, dummies := #[], finger := t.finger, led := t.led, moves := t.movedTo 31, plain := t.plain } : SetTable).fits (order.filterMap (es[·]?)).size = true := by
    have h2' : place.size = es.size := by simpa using h2
    simp only [SetTable.fits, SetTable.fill, hsz, h2', Bool.and_eq_true, beq_self_eq_true, decide_eq_true_eq, true_and]
    simp [h5]
  rw [hc, hf] at hp ⊢
  simp only [Bool.and_self, if_true] at hp ⊢
  refine ⟨_, _, rfl, ⟨?_, rfl, h1, .inr ⟨rfl, by rw [hsz, h5]; decide⟩⟩, rfl, rfl, hp⟩
  show place.size = _
  rw [hsz]; simpa using h2
end
end Mine
end

section
set_option linter.unusedVariables false
open PySem PySem.W PyProof.Rows
set_option maxRecDepth 100000
namespace Mine

section
variable {prog : Program} {w : World} {A : Around} {E : Value → Shared → Prop} {s : Shared} {b : Bool} {a : Addr} {σ : List Int}

theorem put_at {h : Heap} {es : Array (Int × Value)} {ep : Nat} {t : SetTable} (ho : h.get? a = some (setObj es ep t)) (es' : Array (Int × Value)) (t' : SetTable) :
    (h.update a (Obj.putSet es' t')).get? a = some (setObj es' (ep + 1) t') := by
  have := Heap.get?_update_self (Obj.putSet es' t') ho (by rw [putSet_of es' t' rfl]; rfl)
  rw [putSet_of es' t' rfl] at this; exact this

theorem set_add {k : Int} {tok : Tok} {Q : Bool → Shared → Prop} (hS : IntSet b s.heap a σ) (hk : Small k) (hn : σ.length + 1 ≤ 18)
    (h : ∀ r h', Heap.SameBut a s.heap h' → IntSet b h' a (step_dedup σ k) → Q r { s with heap := h' }) :
    wpAny (model prog w) A (setAddHashed a (.int k tok) (hashInt k)) Q E s := by
  obtain ⟨es, ep, t, ho, g, hled, hpl, hents, hperm, hsm, hnd⟩ := hS
  have hlen : es.size = σ.length := by have := hperm.length_eq; simpa using this
  have hel : ElemsOf (intKind prog w) es.toList := hents.elems
  have hb : es.size < scanBound := by unfold scanBound; omega
  have hkey : (intKind prog w).is k (.int k tok) = true := intKind_is _ _ _ _
  unfold setAddHashed setAddHashedIn
  refine wpAny_holding (wpAny_bind (wpAny_setState_of ho rfl g.fits ?_))
  dsimp only
  rw [byScan_of (knd := intKind prog w) (x := .int k tok) rfl hb hel]
  simp only [↓reduceIte]
  unfold setAddByScan
  refine wpAny_bind (wpAny_bind (wpAny_rule (wpAny_bind (wpAny_setScan_of (knd := intKind prog w) hkey ho rfl g.fits hel ?_))))
  have hiff := key_iff (prog := prog) (w := w) hents k
  have hmem : k ∈ es.toList.map keyOf ↔ k ∈ σ := hperm.mem_iff
  cases hr : List.findIdx? (fun e => (intKind prog w).is k e.2) es.toList with
  | some j =>
    dsimp only
    obtain ⟨hj, hpj, _⟩ := List.findIdx?_eq_some_iff_getElem.mp hr
    have hin : k ∈ σ := hmem.mp (hiff.mp ⟨es.toList[j], List.getElem_mem hj, hpj⟩)
    refine wpAny_pure (wpAny_pure ?_)
    have e : step_dedup σ k = σ := by
      unfold step_dedup
      rw [if_pos (List.any_eq_true.mpr ⟨k, hin, by simp⟩)]
    have hS' : IntSet b s.heap a (step_dedup σ k) := by rw [e]; exact ⟨es, ep, t, ho, g, hled, hpl, hents, hperm, hsm, hnd⟩
    exact h _ s.heap (Heap.SameBut.refl a s.heap) hS'
  | none =>
    dsimp only
    have hnin : k ∉ σ := fun hm => by
      obtain ⟨e, he, hp⟩ := hiff.mpr (hmem.mpr hm)
      have := List.findIdx?_eq_none_iff.mp hr e he
      rw [hp] at this; cases this
    have e1 : step_dedup σ k = σ ++ [k] := by
      unfold step_dedup
      rw [if_neg (fun q => ?_)]
      obtain ⟨x, hx, q⟩ := List.any_eq_true.mp q
      exact hnin (by simpa using (by simpa using q : x = k) ▸ hx)
    have hp := layNew_perm t es (hashInt k) (Value.int k tok)
    obtain ⟨es', t', eL, p1, p2, p3, p4, p5, p6, p7⟩ := layNew_good (x := Value.int k tok) g hk (by omega)
    rw [eL] at hp
    rw [Array.toList_push] at hp
    have hents' : IntEnts es'.toList := fun e he => by
      rcases List.mem_append.mp (hp.mem_iff.mp he) with q | q
      · exact hents e q
      · exact ⟨k, tok, List.mem_singleton.mp q⟩
    have hperm' : (es'.toList.map keyOf).Perm (σ ++ [k]) := by
      refine (hp.map keyOf).trans ?_
      rw [List.map_append]
      exact hperm.append_right _
    have hsm' : ∀ x ∈ σ ++ [k], Small x := fun x hx => by
      rcases List.mem_append.mp hx with q | q
      · exact hsm x q
      · rw [List.mem_singleton.mp q]; exact hk
    have hnd' : (σ ++ [k]).Nodup := by
      rw [List.nodup_append]
      exact ⟨hnd, by simp, fun x hx y hy => by rw [List.mem_singleton.mp hy]; exact fun z => hnin (z ▸ hx)⟩
    rw [eL]
    dsimp only
    refine wpAny_bind (gave_way false ?_)
    rw [p6, hpl]
    simp only [↓reduceIte]
    refine wpAny_bind ?_
    rw [hashByValue_scannable 8 (x := .int k tok) rfl]
    refine wpAny_pure ?_
    simp only [plainKind, ↓reduceIte]
    have hs1 : es'.size ≤ sizeLine := fits_of_scanBound (by unfold scanBound; omega)
    refine wpAny_bind (wpAny_storeSet_of ho rfl ?_ hs1)
    have ho1 := put_at ho es' t'
    have hsb1 := Heap.SameBut.update s.heap a (Obj.putSet es' t')
    have hfill : t'.fill = es'.size := by simp [SetTable.fill, p1, p2]
    by_cases hfull : t'.tooFull = true
    · have hm7 : t'.mask = 7 ∧ es'.size = 5 := by
        simp only [SetTable.tooFull, hfill, decide_eq_true_eq] at hfull
        rcases g.mask with ⟨m, l⟩ | ⟨m, l⟩
        · rw [p4, m] at hfull; exact ⟨by rw [p4, m], by omega⟩
        · rw [p4, m] at hfull; omega
      obtain ⟨es2, t2, eR, g2, l1, l2, pp⟩ := relay_good (t := t') hm7.1 hm7.2 fun e he => by
        obtain ⟨x, tx, rfl⟩ := hents' e he
        exact small_hash (hsm' x (hperm'.mem_iff.mp (List.mem_map.mpr ⟨_, he, rfl⟩)))
      have hsz2 : es2.size = es'.size := by have := pp.length_eq; simpa using this
      rw [hfull, eR]
      simp only [Bool.not_false, Bool.and_self, if_true]
      refine wpAny_bind (gave_way false (wpAny_bind (wpAny_storeSet_of ho1 rfl ?_ (by rw [hsz2]; exact hs1))))
      have ho2 := put_at ho1 es2 t2
      refine wpAny_pure (wpAny_pure (h _ _ (hsb1.trans (Heap.SameBut.update _ a _)) ?_))
      rw [e1]
      exact ⟨es2, _, t2, ho2, g2, by rw [l1, p5, hled], by rw [l2, p6, hpl], fun e he => hents' e (pp.mem_iff.mp he), (pp.map keyOf).trans hperm', hsm', hnd'⟩
    · simp only [Bool.not_eq_true] at hfull
      rw [hfull]
      simp only [Bool.and_false, Bool.false_eq_true, if_false]
      refine wpAny_pure (wpAny_pure (h _ _ hsb1 ?_))
      rw [e1]
      refine ⟨es', _, t', ho1, ⟨p1, p2, p3, ?_⟩, by rw [p5, hled], by rw [p6, hpl], hents', hperm', hsm', hnd'⟩
      simp only [SetTable.tooFull, hfill, decide_eq_false_iff_not] at hfull
      rcases g.mask with ⟨m, l⟩ | ⟨m, l⟩
      · rw [p4, m] at hfull; exact .inl ⟨by rw [p4, m], by omega⟩
      · rw [p4, m] at hfull; exact .inr ⟨by rw [p4, m], by omega⟩
end

section
variable {prog : Program} {w : World} {A : Around} {R : Result → Shared → Prop} {I : Addr} {fp wr : List Addr} {G : Array GenState → Array GenState → Prop} {n : Nat} {P : Nat → Value → Prop} {St : Nat → Shared → Prop} {b : Bool}
theorem set_loop (W : WalksS prog w A.in1 I fp wr G n P St) (S : Addr) (hSf : S ∉ fp)
    (val : Nat → Int) (hval : ∀ i v, P i v → ∃ t, v = .int (val i) t) (hsm : ∀ i, i < n → Small (val i)) (hb : n + 1 ≤ 18) :
    ∀ (k i : Nat) (s : Shared), n - i = k → i ≤ n → St i s → IntSet b s.heap S (firstMet val i) →
      (∀ s', Moved (S :: wr) G s s' → IntSet b s'.heap S (firstMet val n) → R (.ok (.ret .none)) s') →
      codeAny (model prog w) A (.builtin "set.update.loop" ⟨[.ref S, .ref I], []⟩) R s := by
  have hSw : S ∉ wr := fun h => hSf (W.sub _ h)
  have hsub : ∀ b ∈ wr, b ∈ S :: wr := fun b hb => List.mem_cons_of_mem _ hb
  intro k
  induction k with
  | zero =>
    intro i s hk hi hst hS hR
    have hin : i = n := by omega
    subst hin
    refine codeAny_builtin F.entry_set_update_loop ?_
    rw [Around.under_plainId F.plain_set_update_loop _]
    show wpAny _ A.in1 (pyNext (.ref I) >>= _) _ _ s
    refine wpAny_bind (W.done s _ _ hst fun s' hm => ?_)
    show wpAny _ A.in1 (ret Value.none) _ _ s'
    exact wpAny_pure (hR s' (hm.mono hsub) (hS.keeps fun o e => hm.heap S _ hSw e))
  | succ k ih =>
    intro i s hk hi hst hS hR
    have hlt : i < n := by omega
    refine codeAny_builtin F.entry_set_update_loop ?_
    rw [Around.under_plainId F.plain_set_update_loop _]
    show wpAny _ A.in1 (pyNext (.ref I) >>= _) _ _ s
    refine wpAny_bind (W.item i s _ _ hlt hst fun v s' hP hst' hm => ?_)
    obtain ⟨t, rfl⟩ := hval i v hP
    have hS' : IntSet b s'.heap S (firstMet val i) := hS.keeps fun o e => hm.heap S _ hSw e
    show wpAny _ A.in1 (holding [Value.int (val i) t] (setAdd S (.int (val i) t)) >>= _) _ _ s'
    refine wpAny_bind (wpAny_holding ?_)
    unfold setAdd
    refine wpAny_holding (wpAny_bind ((intKind prog w).pyHash (k := val i) (intKind_is _ _ _ _) ?_))
    have hroom : (firstMet val i).length + 1 ≤ 18 := by have := firstMet_length_le val i; omega
    refine set_add (s := { s' with toks := s'.toks + 1 }) hS' (hsm i hlt) hroom fun r h' hsb hS2 => ?_
    rw [← firstMet_succ] at hS2
    refine wpAny_pure ⟨plainId_quiet F.plain_set_update_loop _, ih (i + 1) _ (by omega) hlt (W.frame _ s' _ _ hst' (Nat.le_succ _) fun b hb o e => ?_) hS2 fun s'' hm'' hS'' => ?_⟩
    · rw [hsb.2 b (fun h : b = S => hSf (by rw [← h]; exact hb))]; exact e
    · refine hR s'' (Moved.trans W.gtrans ((hm.mono hsub).then_heap (Nat.le_succ _) fun b o hb e => ?_) hm'') hS''
      rw [hsb.2 b (fun h : b = S => hb (by rw [h]; exact List.mem_cons_self))]; exact e
end
end Mine
end

section
set_option linter.unusedVariables false
open PySem PySem.W PyProof.Rows
set_option maxRecDepth 100000
namespace Mine
abbrev byT (w : World) : Bool := w.params.followText "set-order"
abbrev newSetObj (w : World) : Obj := { cls := .type "set", dict := none, data := .set #[] 0 (.fresh 0 0 (!byT w)) }

section
variable {prog : Program} {w : World} {A : Around} {E : Value → Shared → Prop} {s : Shared}
theorem set_new_led (a : Value) {Q₁ : Value → Shared → Prop} (h : Q₁ (.ref s.heap.objs.size) { s with heap := s.heap.push (newSetObj w) }) :
    codeAny (model prog w) A (.call (.builtin "set.__new__") ⟨[.type "set", a], []⟩) (wants Q₁ E) s := by
  refine codeAny_of_tree ?_
  show wpAny _ A.in1 (do checkBuiltinCall "set.__new__" ⟨[.type "set", a], []⟩; again (.builtin "set.__new__" ⟨[.type "set", a], []⟩)) _ _ s
  refine wpAny_bind (wpAny_of_eq (F.newCall_set_1 a) (wpAny_pure ⟨plainId_quiet F.plain_set_new _, codeAny_builtin F.entry_set_new ?_⟩))
  rw [Around.under_plainId F.plain_set_new _]
  unfold Builtin.«set.__new__» Builtin.Frozenset.newClass
  have hsub := sub_set_self
  obtain ⟨hp, g, d, tk, os⟩ := s
  dsimp only
  wp_walk
  refine wpAny_askSetting (wpAny_pure ?_)
  dsimp only
  simp only [newObj]
  exact wpAny_bind (wpAny_alloc (wpAny_pure (wpAny_pure h)))

theorem newSet_int (h : Heap) : IntSet (byT w) (h.push (newSetObj w)) h.objs.size [] :=
  ⟨#[], 0, _, Heap.get?_push_size _ rfl, ⟨rfl, rfl, by simp [SetTable.fresh], .inl ⟨rfl, by simp⟩⟩, rfl, rfl, (fun _ h => by simp at h), by simp, (fun k h => absurd h (by simp)), List.nodup_nil⟩

set_option maxHeartbeats 3200000 in
/-- set(list) -/
theorem call_set {l : Addr} {vs : List Value} {ns : List Int} {Q : Value → Shared → Prop} (hh : A.handled = none) (hl : s.heap.IsList l vs.toArray) (hi : IntsAre vs ns) (hb : vs.length + 1 ≤ 18) (hsm : ∀ k ∈ ns, Small k)
    (h : ∀ (h' : Heap) (tk : Nat), IntSet (byT w) h' s.heap.objs.size (firstMet (fun i => ns.getD i 0) vs.length) → (∀ b o, s.heap.get? b = some o → h'.get? b = some o) → Q (.ref s.heap.objs.size) { s with heap := h', toks := tk }) :
    wpAny (model prog w) A (call (.type "set") [.ref l]) Q E s := by
  obtain ⟨c, tl, hmro⟩ := F.called_set.mro
  have hmade := F.called_set.made
  have hsub := F.called_set.sub
  refine wpAny_call (codeAny_of_tree ?_)
  show wpAny _ _ (callAny (.type "set") _) _ _ _
  refine wpAny_pure ⟨Code.quiet_builtin _ (by decide +kernel), codeAny_builtin F.entry_type_call ?_⟩
  rw [Around.under_plain (weight_type_call_type "set" [.ref l] []) rfl]
  have h1 := F.called_set.notType
  have h2 := F.called_set.canCreate
  have hct := F.typeCall_set_1 (.ref l)
  repeat (any_goals (first | assumption | wp_step))
  refine codeAny_mono (set_new_led (.ref l) (E := E) (Q₁ := fun obj s₁ => obj = .ref s.heap.objs.size ∧ s₁ = { s with heap := s.heap.push (newSetObj w) }) ⟨rfl, rfl⟩) fun r s₁ hr => ?_
  cases r with
  | error e => exact hr
  | ok fl =>
    cases fl with
    | ret obj =>
      obtain ⟨rfl, rfl⟩ := hr
      have hS : (s.heap.push (newSetObj w)).get? s.heap.objs.size = some (newSetObj w) := Heap.get?_push_size _ rfl
      have hT : Shared.TypeIs { s with heap := s.heap.push (newSetObj w) } (.ref s.heap.objs.size) "set" := ⟨_, hS, rfl⟩
      have hli := F.called_set.init.lookup
      have hbi := F.called_set.init.bind (.ref s.heap.objs.size)
      repeat (any_goals (first | assumption | wp_step))
      refine codeAny_mono (codeAny_call_builtin (R := wants (fun r s₂ => r = .none ∧ ∃ h' tk, s₂ = { s with heap := h', toks := tk } ∧
          IntSet (byT w) h' s.heap.objs.size (firstMet (fun i => ns.getD i 0) vs.length) ∧ (∀ b o, s.heap.get? b = some o → h'.get? b = some o)) E) F.called_set.init.plain F.entry_set_init (check_set_init_1 hT ?_)) fun r₂ s₂ hr₂ => ?_
      · obtain ⟨ol, hol, hcl, nl, hdl⟩ := hl
        obtain ⟨ocls, odict, odata, oslots⟩ := ol
        simp only at hcl hdl
        subst hcl; subst hdl
        have hol' : (s.heap.push (newSetObj w)).get? l = some { cls := .type "list", dict := odict, data := .seq vs.toArray nl, slots := oslots } := Heap.get?_push_of_some _ hol
        have hsls := F.sub_list_set
        have hslf := F.sub_list_frozenset
        have hne : (Value.type "list" == Value.type "dict") = false := by decide
        have hl1 : (s.heap.push (newSetObj w)).IsList l vs.toArray := ⟨_, hol', rfl, nl, rfl⟩
        unfold Builtin.«set.__init__» noKeywords Builtin.Frozenset.updateFrom
        generalize hPI : pyIter = PI
        wp_walk
        subst hPI
        refine wpAny_pyIter_list hl1 (wpAny_bind (wpAny_runValue ?_))
        have hlS : l < s.heap.objs.size := Heap.lt_size hol
        have hh3 : A.in1.in1.in1.handled = none := by simp [hh]
        have hsz1 : (s.heap.push (newSetObj w)).objs.size = s.heap.objs.size + 1 := Heap.size_push ..
        have hneI : l ≠ (s.heap.push (newSetObj w)).objs.size := by rw [hsz1]; exact Nat.ne_of_lt (Nat.lt_succ_of_lt hlS)
        have hSf : s.heap.objs.size ∉ [(s.heap.push (newSetObj w)).objs.size, l] := by
          rw [hsz1]; simp only [List.mem_cons, List.not_mem_nil, or_false, not_or]
          exact ⟨Nat.ne_of_lt (Nat.lt_succ_self _), Nat.ne_of_gt hlS⟩
        have hlen := hi.length
        have hval : ∀ (i : Nat) (v : Value), vs.toArray[i]? = some v → ∃ t, v = .int ((fun i => ns.getD i 0) i) t := fun i v hv =>
          IntsAre.int_at hi i v (by simpa using hv)
        refine set_loop ((Walks.list hh3 _ l hneI vs.toArray).toS) s.heap.objs.size hSf (fun i => ns.getD i 0) hval (fun i hi' => ?_) (by simpa using hb) (vs.toArray.size - 0) 0 _ (by omega) (Nat.zero_le _)
          ⟨⟨_, Heap.get?_push_size _ rfl, rfl, rfl⟩, (hl1.push _)⟩ ((newSet_int s.heap).keeps fun o e => Heap.get?_push_of_some _ e) ?hR
        · refine hsm _ ?_
          have : i < ns.length := by rw [← hlen]; simpa using hi'
          show ns.getD i 0 ∈ ns
          rw [List.getD_eq_getElem?_getD, List.getElem?_eq_getElem this]; exact List.getElem_mem this
        case hR =>
          intro s' hm hS'
          obtain ⟨h', g', d', tk', os'⟩ := s'
          have eg : g' = s.gens := hm.gens
          have ed : d' = s.drawn := hm.drawn
          have eo : os' = s.os := hm.os
          subst eg; subst ed; subst eo
          refine wpAny_pure ?_
          show wpAny _ _ (ret Value.none) _ _ _
          refine wpAny_pure ⟨rfl, h', tk', rfl, by simpa using hS', fun b o e => ?_⟩
          have hb := Heap.lt_size e
          exact hm.heap b o (by rw [hsz1]; simp only [List.mem_cons, List.not_mem_nil, or_false, not_or]; exact ⟨Nat.ne_of_lt hb, Nat.ne_of_lt (Nat.lt_succ_of_lt hb)⟩) (Heap.get?_push_of_some _ (Heap.get?_push_of_some _ e))
      · cases r₂ with
        | error e => exact hr₂
        | ok fl₂ =>
          cases fl₂ with
          | ret r =>
            obtain ⟨rfl, h', tk, rfl, hS', hk'⟩ := hr₂
            repeat (any_goals (first | assumption | wp_step))
            exact h _ _ hS' hk'
          | _ => exact hr₂.elim
    | _ => exact hr.elim
end
end Mine
end

section
set_option linter.unusedVariables false
open PySem PySem.W PyProof.Rows
set_option maxRecDepth 100000
namespace Mine

theorem cons_erase {α : Type} : ∀ (l : List α) (i : Nat) (h : i < l.length), (l[i] :: l.eraseIdx i).Perm l
  | x :: l, 0, h => by simp
  | x :: l, i + 1, h => by
    simp only [List.getElem_cons_succ, List.eraseIdx_cons_succ]
    exact (List.Perm.swap _ _ _).trans ((cons_erase l i (by simpa using h)).cons _)
theorem pick_go {α : Type} (next : Nat → Nat) : ∀ (fuel k : Nat) (left : List α) (out : Array α), fuel = left.length → (pickOrder.go next fuel k left out).toList.Perm (out.toList ++ left)
  | 0, k, left, out, h => by
    have : left = [] := List.length_eq_zero_iff.mp h.symm
    subst this
    unfold pickOrder.go
    simp
  | fuel + 1, k, left, out, h => by
    have hl : next k % left.length < left.length := Nat.mod_lt _ (by omega)
    unfold pickOrder.go
    rw [List.getElem?_eq_getElem hl]
    dsimp only
    refine (pick_go next fuel (k + 1) _ _ (by rw [List.length_eraseIdx]; split <;> omega)).trans ?_
    rw [Array.toList_push, List.append_assoc]
    refine List.Perm.append_left _ ?_
    exact cons_erase left _ hl
theorem pick_perm {α : Type} (next : Nat → Nat) (xs : Array α) : (pickOrder next xs).toList.Perm xs.toList := by
  unfold pickOrder
  simpa using pick_go next xs.size 0 xs.toList #[] (by simp)

theorem entry_set_iter : entryFor table "set.__iter__" = some Builtin.«frozenset.__iter__» :=
  entryFor_alias (id' := "frozenset.__iter__") (by kernel_rfl) rfl (by decide +kernel) (by kernel_rfl)
theorem slot_setiter_next : Slot "set_iterator" "__next__" "set_iterator.__next__" :=
  .of (owner := "set_iterator") (n := "__next__") (by rw [typeLookup_type, builtinLookup_eq_fast]; kernel_rfl) (by decide +kernel) (by decide +kernel) (by decide +kernel)
    (by first | exact .inl (by decide +kernel) | exact .inr (by decide +kernel)) (by rw [isSubtype_type]; kernel_rfl)
theorem entry_setiter_next : entryFor table "set_iterator.__next__" = some Builtin.«set_iterator.__next__» := entryFor_of_fast (by kernel_rfl)
theorem args_setiter_next (a : Value) : argsOk "set_iterator.__next__" ⟨[a], []⟩ := by unfold argsOk; kernel_rfl

/-- the order in which the set hands out its items -/
noncomputable def order (w : World) (r : Addr) (es : Array (Int × Value)) (ep : Nat) : Array (Int × Value) := if byT w = true then pickOrder (w.params.setOrder r ep) es else es
theorem order_perm (w : World) (r : Addr) (es : Array (Int × Value)) (ep : Nat) : (order w r es ep).toList.Perm es.toList := by
  unfold order; split
  · exact pick_perm _ _
  · exact List.Perm.refl _
theorem order_size (w : World) (r : Addr) (es : Array (Int × Value)) (ep : Nat) : (order w r es ep).size = es.size := by
  have := (order_perm w r es ep).length_eq; simpa using this
/-- the slot from which the i-th item is sought -/
noncomputable def slotAt (w : World) (t : SetTable) (i : Nat) : Nat := if byT w = true then 0 else if i = 0 then 0 else t.place.getD (i - 1) 0 + 1
theorem below_slot {w : World} {t : SetTable} {n i : Nat} (g : Good t n) (hb : byT w = false) (hi : i ≤ n) : SetTable.below t.place (slotAt w t i) = i := by
  unfold slotAt
  rw [hb]
  simp only [Bool.false_eq_true, if_false]
  by_cases h0 : i = 0
  · subst h0
    rw [if_pos rfl]
    exact Tb.below_zero g.rise
  · rw [if_neg h0]
    have hl : i - 1 < t.place.size := by rw [g.size]; omega
    have e : t.place.getD (i - 1) 0 = t.place[i - 1] := by simp [Array.getD, hl]
    rw [e, Tb.below_next g.rise hl]
    omega

section
variable {prog : Program} {w : World} {A : Around} {E : Value → Shared → Prop} {s : Shared}
abbrev itObj (r : Addr) (slot i n ep : Nat) : Obj := { cls := .type "set_iterator", data := .fields #[rawInt (slot : Int), rawInt (i : Int), .ref r, rawInt (n : Int), rawInt (ep : Int)] }
/-- the iterator stands ahead of the i-th item -/
noncomputable def ItSt (w : World) (I r : Addr) (es : Array (Int × Value)) (ep : Nat) (t : SetTable) (i : Nat) (h : Heap) : Prop :=
  h.get? r = some (setObj es ep t) ∧ h.get? I = some (itObj r (slotAt w t i) i es.size ep)

theorem hint_set {r : Addr} {Q : Bool → Shared → Prop} (hT : s.TypeIs (.ref r) "set") (h : Q false s) : wpAny (model prog w) A (Builtin.List.listLengthHint (.ref r)) Q E s := by
  unfold Builtin.List.listLengthHint
  refine wpAny_bind (wpAny_specialOf hT PySem.F.slot_set_len.lookup ?_)
  generalize hid : ("set.__len__" : String) = id0
  wp_delta
  rw [show splitId id0 = some ("set", "__len__") from by subst hid; decide +kernel]
  subst hid
  refine wpAny_bind (wpAny_isInstance (T := "set") (b := true) hT sub_set_self ?_)
  refine wpAny_ite_split (fun hab => absurd hab (by decide)) (fun _ => ?_)
  refine wpAny_ite_split (fun _ => ?_) (fun hab => absurd (by decide +kernel) hab)
  refine wpAny_bind (wpAny_typeOf hT ?_)
  exact wpAny_pure h

theorem byText_ {Q : Bool → Shared → Prop} (h : Q (byT w) s) : wpAny (model prog w) A setsByText Q E s := by
  unfold setsByText
  exact wpAny_bind (wpAny_askSetting (wpAny_pure h))

theorem not_drawn {b : Bool} {es : Array (Int × Value)} {t : SetTable} {r : Addr} {ep : Nat} {Q : Bool → Shared → Prop} (ho : s.heap.get? r = some (setObj es ep t)) (hf : t.fits es.size = true) (hp : t.plain = true) (h : Q false s) :
    wpAny (model prog w) A (setDrawn r) Q E s := by
  unfold setDrawn
  refine wpAny_bind (wpAny_setState_of ho rfl hf ?_)
  dsimp only
  refine wpAny_bind (byText_ (wpAny_pure ?_))
  obtain ⟨mask, place, dum, fing, led, mv, pl⟩ := t
  have hp' : pl = true := hp
  subst hp'
  cases hb : byT w <;> exact h

theorem set_iter {es : Array (Int × Value)} {t : SetTable} {r : Addr} {ep : Nat} {Q : Value → Shared → Prop} (ho : s.heap.get? r = some (setObj es ep t)) (hf : t.fits es.size = true) (hp : t.plain = true)
    (hQ : Q (.ref s.heap.objs.size) { s with heap := s.heap.push (itObj r 0 0 es.size ep) }) : wpAny (model prog w) A (pyIter (.ref r)) Q E s := by
  have hT : s.TypeIs (.ref r) "set" := ⟨_, ho, rfl⟩
  refine wpAny_pyIter_slot hT PySem.F.slot_set_iter (wpAny_call_entry PySem.F.slot_set_iter hT entry_set_iter ?_ (PySem.F.args_set_iter_1 _))
  show wpAny _ _ (do
    let n ← Builtin.Frozenset.sizeOf r
    let first ← if ← setDrawn r then newTuple ((← drawOrder n (List.range n)).map fun (i : Nat) => rawInt i) else pure (rawInt 0)
    ret (← newFields "set_iterator" [first, rawInt 0, .ref r, rawInt n, rawInt (← setEpoch r)])) _ _ s
  unfold Builtin.Frozenset.sizeOf
  refine wpAny_bind (wpAny_bind (wpAny_setEntries_of ho rfl hf (wpAny_pure ?_)))
  refine wpAny_bind (not_drawn (b := true) ho hf hp ?_)
  simp only [Bool.false_eq_true, if_false]
  refine wpAny_bind (wpAny_pure (wpAny_bind (wpAny_setEpoch_of ho rfl hf ?_)))
  unfold newFields
  exact wpAny_bind (wpAny_newObj_type (wpAny_pure ⟨_, rfl, "set_iterator", _, ⟨_, Heap.get?_push_size _ rfl, rfl⟩, slot_setiter_next.lookup, hQ⟩))
end
end Mine
end

section
set_option linter.unusedVariables false
open PySem PySem.W PyProof.Rows
set_option maxRecDepth 100000
namespace Mine

section
variable {prog : Program} {w : World} {A : Around} {E : Value → Shared → Prop} {s : Shared}

theorem set_walk {es : Array (Int × Value)} {t : SetTable} {r : Addr} {ep : Nat} {Q : Array (Int × Value) → Shared → Prop} (hb : byT w = true) (ho : s.heap.get? r = some (setObj es ep t)) (hf : t.fits es.size = true)
    (hQ : Q (order w r es ep) s) : wpAny (model prog w) A (setWalk r) Q E s := by
  unfold setWalk
  refine wpAny_bind (wpAny_setState_of ho rfl hf ?_)
  dsimp only
  refine wpAny_bind (byText_ ?_)
  rw [hb]
  simp only [if_true]
  refine wpAny_bind (wpAny_askSetting (wpAny_pure ?_))
  have e : order w r es ep = pickOrder (w.params.setOrder r ep) es := by unfold order; rw [if_pos hb]
  rw [e] at hQ
  exact hQ

theorem set_next {es : Array (Int × Value)} {t : SetTable} {r : Addr} {ep i : Nat} {Q : Option (Value × Nat) → Shared → Prop} (ho : s.heap.get? r = some (setObj es ep t)) (g : Good t es.size) (hp : t.plain = true) (hled : t.led = !byT w) (hi : i ≤ es.size)
    (hQ : Q ((order w r es ep)[i]?.map fun e => (e.2, slotAt w t (i + 1))) s) : wpAny (model prog w) A (setNext r (slotAt w t i) i ep) Q E s := by
  unfold setNext
  refine wpAny_bind (wpAny_setState_of ho rfl g.fits ?_)
  dsimp only
  refine wpAny_bind (byText_ ?_)
  cases hb : byT w with
  | true =>
    simp only [if_true]
    refine wpAny_ite_split (fun h => ?_) (fun _ => ?_)
    · simp at h
    · refine wpAny_bind (set_walk hb ho g.fits (wpAny_pure ?_))
      have e1 : slotAt w t i = 0 := by unfold slotAt; rw [hb]; rfl
      have e2 : slotAt w t (i + 1) = 0 := by unfold slotAt; rw [hb]; rfl
      rw [e2] at hQ
      rw [e1]
      exact hQ
  | false =>
    simp only [Bool.false_eq_true, if_false]
    have hbel := below_slot (w := w) g hb hi
    have hplace : ∀ k, k < es.size → t.place[k]? = some (t.place.getD k 0) := fun k hk => by
      have : k < t.place.size := by rw [g.size]; exact hk
      simp [Array.getD, this]
    have e : order w r es ep = es := by unfold order; rw [hb]; rfl
    rw [e] at hQ
    have e2 : slotAt w t (i + 1) = t.place.getD i 0 + 1 := by unfold slotAt; rw [hb]; simp
    rw [e2] at hQ
    obtain ⟨mask, place, dum, fing, led, mv, pl⟩ := t
    have hp' : pl = true := hp
    have hl' : led = true := by have : led = !byT w := hled; rw [this, hb]; rfl
    subst hp'; subst hl'
    refine wpAny_ite_split (fun h => Bool.noConfusion h) (fun _ => ?_)
    refine wpAny_bind ?_
    refine wpAny_ite_split (fun h => Bool.noConfusion h) (fun _ => ?_)
    refine wpAny_pure (wpAny_pure ?_)
    dsimp only at hbel hplace hQ ⊢
    rw [hbel]
    by_cases hlt : i < es.size
    · rw [hplace i hlt]
      have : es[i]? = some (es[i].1, es[i].2) := by simp [hlt]
      rw [this] at hQ ⊢
      exact hQ
    · have : es[i]? = none := by simp; omega
      rw [this] at hQ ⊢
      exact hQ
end
end Mine
end

section
set_option linter.unusedVariables false
open PySem PySem.W PyProof.Rows
set_option maxRecDepth 100000
namespace Mine

theorem slot_setiter_iter : Slot "set_iterator" "__iter__" "set_iterator.__iter__" :=
  .of (owner := "set_iterator") (n := "__iter__") (by rw [typeLookup_type, builtinLookup_eq_fast]; kernel_rfl) (by decide +kernel) (by decide +kernel) (by decide +kernel)
    (by first | exact .inl (by decide +kernel) | exact .inr (by decide +kernel)) (by rw [isSubtype_type]; kernel_rfl)
theorem entry_setiter_iter : entryFor table "set_iterator.__iter__" = some Builtin.«dict_keyiterator.__iter__» :=
  entryFor_alias (id' := "dict_keyiterator.__iter__") (by kernel_rfl) rfl (by decide +kernel) (by kernel_rfl)
theorem args_setiter_iter (a : Value) : argsOk "set_iterator.__iter__" ⟨[a], []⟩ := by unfold argsOk; kernel_rfl

section
variable {prog : Program} {w : World} {A : Around} {E : Value → Shared → Prop} {s : Shared}

theorem it_head {es : Array (Int × Value)} {t : SetTable} {I r : Addr} {ep i : Nat} {Q : Fin → Shared → Prop} {E' : Value → Shared → Prop} (st : ItSt w I r es ep t i s.heap) (g : Good t es.size) (hp : t.plain = true) (hled : t.led = !byT w) (hi : i ≤ es.size)
    (hQ : wpAny (model prog w) A (match ((order w r es ep)[i]?.map fun e => (e.2, slotAt w t (i + 1))) with
      | some (x, next) => do
        setField (.ref I) 0 (rawInt next)
        setField (.ref I) 1 (rawInt ((i : Int) + 1))
        ret x
      | none => do setField (.ref I) 2 .none; raiseNew (← newExc (.type "StopIteration") [])) Q E' s) : wpAny (model prog w) A (Builtin.«set_iterator.__next__» ⟨[.ref I], []⟩) Q E' s := by
  obtain ⟨ho, hI⟩ := st
  unfold Builtin.«set_iterator.__next__»
  show wpAny _ _ (fieldsOf (.ref I) >>= _) _ _ s
  refine wpAny_bind (wpAny_fieldsOf hI rfl ?_)
  show wpAny _ _ (setEntries r >>= _) _ _ s
  refine wpAny_bind (wpAny_setEntries_of ho rfl g.fits ?_)
  refine wpAny_ite_split (fun h => ?_) (fun _ => ?_)
  · simp at h
  · show wpAny _ _ (setNext r (slotAt w t i) i ep >>= _) _ _ s
    refine wpAny_bind (set_next ho g hp hled hi ?_)
    exact hQ

theorem it_next_item {es : Array (Int × Value)} {t : SetTable} {I r : Addr} {ep i : Nat} {k : Int} {v : Value} {Q : Option Value → Shared → Prop} (st : ItSt w I r es ep t i s.heap) (g : Good t es.size) (hp : t.plain = true) (hled : t.led = !byT w) (hne : r ≠ I) (hv : (order w r es ep)[i]? = some (k, v))
    (hQ : ∀ h', ItSt w I r es ep t (i + 1) h' → Heap.SameBut I s.heap h' → Q (some v) { s with heap := h' }) : wpAny (model prog w) A (pyNext (.ref I)) Q E s := by
  have hi : i < es.size := by
    have := (Array.getElem?_eq_some_iff.mp hv).1
    rwa [order_size] at this
  obtain ⟨ho, hI⟩ := id st
  have hT : s.TypeIs (.ref I) "set_iterator" := ⟨_, hI, rfl⟩
  unfold pyNext
  refine wpAny_bind (wpAny_attempt (wpAny_callSpecial?_slot (name := Str.ofString "__next__") hT slot_setiter_next
    (wpAny_call_entry slot_setiter_next hT entry_setiter_next ?_ (args_setiter_next _))))
  refine it_head st g hp hled (Nat.le_of_lt hi) ?_
  rw [hv]
  dsimp only [Option.map_some]
  have h1 := Heap.get?_update_self (Obj.mapFields (·.setIfInBounds 0 (rawInt ((slotAt w t (i + 1) : Nat) : Int)))) hI rfl
  have h2 := Heap.get?_update_self (Obj.mapFields (·.setIfInBounds 1 (rawInt ((i : Int) + 1)))) h1 rfl
  refine wpAny_bind (wpAny_setField hI rfl (by simp) ?_)
  refine wpAny_bind (wpAny_setField h1 rfl (by simp [Obj.mapFields]) ?_)
  refine wpAny_pure ⟨v, rfl, wpAny_pure (hQ _ ⟨?_, ?_⟩ ((Heap.SameBut.update ..).trans (Heap.SameBut.update ..)))⟩
  · rw [Heap.get?_update_other _ _ (Ne.symm hne), Heap.get?_update_other _ _ (Ne.symm hne)]; exact ho
  · rw [h2]; rfl

theorem it_next_end {es : Array (Int × Value)} {t : SetTable} {I r : Addr} {ep : Nat} {Q : Option Value → Shared → Prop} (hh : A.handled = none) (st : ItSt w I r es ep t es.size s.heap) (g : Good t es.size) (hp : t.plain = true) (hled : t.led = !byT w)
    (hQ : ∀ h', Heap.ExtBut I s.heap h' → Q none { s with heap := h' }) : wpAny (model prog w) A (pyNext (.ref I)) Q E s := by
  obtain ⟨ho, hI⟩ := id st
  have hT : s.TypeIs (.ref I) "set_iterator" := ⟨_, hI, rfl⟩
  have hv : (order w r es ep)[es.size]? = none := by rw [Array.getElem?_eq_none_iff, order_size]; exact Nat.le_refl _
  unfold pyNext
  refine wpAny_bind (wpAny_attempt (wpAny_callSpecial?_slot (name := Str.ofString "__next__") hT slot_setiter_next
    (wpAny_call_entry slot_setiter_next hT entry_setiter_next ?_ (args_setiter_next _))))
  refine it_head st g hp hled (Nat.le_refl _) ?_
  rw [hv]
  dsimp only [Option.map_none]
  refine wpAny_bind (wpAny_setField hI rfl (by simp) ?_)
  show wpAny _ _ (newExc (.type "StopIteration") [] >>= _) _ _ _
  refine wpAny_bind ?_
  simp only [newExc, newTuple]
  refine wpAny_bind (wpAny_newObj_type ?_ (by size_fits))
  refine wpAny_bind (m := firstArgMember _ _) (wpAny_of_eq (a := Value.none) (by first | rfl | (simp only [firstArgMember]; rfl)) ?_)
  refine wpAny_newObj_type ?_ (by size_fits)
  simp only [raiseNew]
  refine wpAny_bind (wpAny_handled ?_)
  rw [show A.in1.handled = none from hh]
  refine wpAny_bind (wpAny_pure (wpAny_throw ?_))
  refine wpAny_bind (wpAny_isInstance (T := "StopIteration") (b := true) ⟨_, Heap.get?_push_size _ rfl, rfl⟩ isSubtype_stop ?_)
  exact wpAny_pure (hQ _ (((Heap.SameBut.update ..).extBut.push _).push _))

/-- a set of small ints as a source -/
theorem src_set {es : Array (Int × Value)} {t : SetTable} {r : Addr} {ep : Nat} (g : Good t es.size) (hp : t.plain = true) (hled : t.led = !byT w) :
    KdlSrc prog w "set" r r es.size (fun i v => ∃ k, (order w r es ep)[i]? = some (k, v)) (fun h => h.get? r = some (setObj es ep t)) where
  type := fun s ho => ⟨_, ho, rfl⟩
  there := fun h ho => ⟨Heap.lt_size ho, Heap.lt_size ho⟩
  keep := fun h h' ho hk => hk r (.inl rfl) _ ho
  notList := by decide
  notTuple := by decide
  hint := fun A E s Q ho hq => hint_set ⟨_, ho, rfl⟩ hq
  iter := fun A s hh ho => by
    have hlt := Heap.lt_size ho
    have hne : r ≠ s.heap.objs.size := Nat.ne_of_lt hlt
    refine ⟨itObj r 0 0 es.size ep, ItSt w s.heap.objs.size r es ep t, fun E Q hQ => set_iter ho g.fits hp hQ, ⟨?_, ?_, ?_, ?_, ?_⟩, ⟨Heap.get?_push_of_some _ ho, ?_⟩⟩
    · intro b hb; rw [List.mem_singleton.mp hb]; exact List.mem_cons_self
    · intro i h h' st hk
      exact ⟨hk r (by simp) _ st.1, hk _ (by simp) _ st.2⟩
    · intro i s' Q E hi st hQ
      have hv : (order w r es ep)[i]? = some ((order w r es ep)[i]'(by rw [order_size]; exact hi)) := by simp
      refine it_next_item st g hp hled hne (k := ((order w r es ep)[i]'(by rw [order_size]; exact hi)).1) (v := ((order w r es ep)[i]'(by rw [order_size]; exact hi)).2) (by rw [hv]) fun h' st' hs => ?_
      exact hQ _ h' s'.toks ⟨_, by rw [hv]⟩ st' fun b o hb e => hs.extBut b o (fun q => hb (by simp [q])) e
    · intro s' Q E st hQ
      exact it_next_end hh st g hp hled fun h' he => hQ h' s'.toks fun b o hb e => he b o (fun q => hb (by simp [q])) e
    · intro i s' Q E st hq
      have hT : s'.TypeIs (.ref s.heap.objs.size) "set_iterator" := ⟨_, st.2, rfl⟩
      refine wpAny_pyIter_slot hT slot_setiter_iter (wpAny_call_entry slot_setiter_iter hT entry_setiter_iter ?_ (args_setiter_iter _))
      show wpAny _ _ (ret (.ref _)) _ _ s'
      exact wpAny_pure ⟨_, rfl, "set_iterator", _, hT, slot_setiter_next.lookup, hq⟩
    · have : slotAt w t 0 = 0 := by unfold slotAt; split <;> rfl
      rw [this]
      exact Heap.get?_push_size _ rfl
end
end Mine
end

section
set_option linter.unusedVariables false
open PySem PySem.W PyProof.Rows
set_option maxRecDepth 100000
namespace Mine

/-- strictly rising, the items of ns -/
noncomputable def insI (k : Int) : List Int → List Int
  | [] => [k]
  | x :: xs => if k < x then k :: x :: xs else if k = x then x :: xs else x :: insI k xs
noncomputable def ssort (ns : List Int) : List Int := ns.foldr insI []
theorem mem_insI {k x : Int} : ∀ {l : List Int}, x ∈ insI k l ↔ x = k ∨ x ∈ l
  | [] => by simp [insI]
  | y :: ys => by
    unfold insI
    split
    · simp
    · split
      · rename_i h; subst h; simp
      · rw [List.mem_cons, mem_insI, List.mem_cons]; constructor <;> (rintro (h | h | h) <;> simp [h])
theorem insI_lt {k : Int} : ∀ {l : List Int}, l.Pairwise (· < ·) → (insI k l).Pairwise (· < ·)
  | [], _ => by simp [insI]
  | y :: ys, h => by
    rw [List.pairwise_cons] at h
    unfold insI
    split
    · rename_i hk
      rw [List.pairwise_cons]
      refine ⟨fun a ha => ?_, List.pairwise_cons.mpr h⟩
      rcases List.mem_cons.mp ha with rfl | ha
      · exact hk
      · exact Int.lt_trans hk (h.1 a ha)
    · split
      · exact List.pairwise_cons.mpr h
      · rw [List.pairwise_cons]
        refine ⟨fun a ha => ?_, insI_lt h.2⟩
        rcases mem_insI.mp ha with rfl | ha
        · omega
        · exact h.1 a ha
theorem mem_ssort {x : Int} {ns : List Int} : x ∈ ssort ns ↔ x ∈ ns := by
  induction ns with
  | nil => simp [ssort]
  | cons n ns ih => rw [show ssort (n :: ns) = insI n (ssort ns) from rfl, mem_insI, ih, List.mem_cons]
theorem ssort_lt (ns : List Int) : (ssort ns).Pairwise (· < ·) := by
  induction ns with
  | nil => simp [ssort]
  | cons n ns ih => exact insI_lt ih
theorem rising_ext : ∀ {l m : List Int}, l.Pairwise (· < ·) → m.Pairwise (· < ·) → (∀ x, x ∈ l ↔ x ∈ m) → l = m
  | [], [], _, _, _ => rfl
  | [], y :: ys, _, _, h => by have := (h y).mpr (.head _); cases this
  | x :: xs, [], _, _, h => by have := (h x).mp (.head _); cases this
  | x :: xs, y :: ys, hl, hm, h => by
    rw [List.pairwise_cons] at hl hm
    have hxy : x = y := by
      rcases List.mem_cons.mp ((h x).mp (.head _)) with e | e
      · exact e
      · rcases List.mem_cons.mp ((h y).mpr (.head _)) with e' | e'
        · exact e'.symm
        · have := hm.1 x e; have := hl.1 y e'; omega
    subst hxy
    congr 1
    refine rising_ext hl.2 hm.2 fun z => ?_
    have := h z
    simp only [List.mem_cons] at this
    constructor
    · intro hz
      have := this.mp (.inr hz)
      rcases this with e | e
      · have := hl.1 z hz; omega
      · exact e
    · intro hz
      have := this.mpr (.inr hz)
      rcases this with e | e
      · have := hm.1 z hz; omega
      · exact e
theorem ssort_eq {ns m : List Int} (hm : m.Pairwise (· < ·)) (h : ∀ x, x ∈ m ↔ x ∈ ns) : ssort ns = m :=
  rising_ext (ssort_lt ns) hm fun x => by rw [mem_ssort, h]
theorem ssort_congr {ns ms : List Int} (h : ∀ x, x ∈ ns ↔ x ∈ ms) : ssort ns = ssort ms :=
  ssort_eq (ssort_lt ms) fun x => by rw [mem_ssort, h]
theorem ssort_of_rising {ns : List Int} (h : ns.Pairwise (· < ·)) : ssort ns = ns := ssort_eq h fun _ => Iff.rfl

theorem ints_of {l : List (Int × Value)} (h : IntEnts l) : IntsAre (l.map (·.2)) (l.map keyOf) := by
  induction l with
  | nil => exact .nil
  | cons e l ih =>
    obtain ⟨k, t, rfl⟩ := h e (.head _)
    exact .cons _ _ (ih fun e he => h e (.tail _ he))

section
variable {prog : Program} {w : World} {A : Around} {E : Value → Shared → Prop} {s : Shared}
theorem sorted_set {r : Addr} {σ : List Int} {Q : Value → Shared → Prop} (hh : A.handled = none) (hS : IntSet (byT w) s.heap r σ) (hn : σ.length ≤ 18)
    (h : ∀ (D : Addr) (h' : Heap) (tk : Nat) (vs : List Value) (n : Nat), (∀ b o, s.heap.get? b = some o → h'.get? b = some o) → s.heap.get? D = none → h'.get? D = some (listOf vs.toArray n) → IntsAre vs (ssort σ) → Q (.ref D) { s with heap := h', toks := tk }) :
    wpAny (model prog w) A (call (.builtin "sorted") [.ref r]) Q E s := by
  obtain ⟨es, ep, t, ho, g, hled, hpl, hents, hperm, hsm, hnd⟩ := hS
  have hlen : es.size = σ.length := by have := hperm.length_eq; simpa using this
  refine Calls.call_function_entry kind_sorted plain_sorted entry_sorted (args_sorted1 _) ?_
  unfold Builtin.«sorted»
  refine wpAny_bind (m := checkCount "sorted" 1 1 _) (wpAny_pure ?_)
  refine wpAny_bind (kdu_collect (A := A.in1) (src_set (ep := ep) g hpl hled) hh ho (sizeLine_big (by omega)) fun h' tk acc hk hacc => ?_)
  have hacc' : acc.toList = (order w r es ep).toList.map (·.2) := by
    refine List.ext_getElem (by rw [List.length_map, Array.length_toList, Array.length_toList, order_size]; exact hacc.1) fun i h1 h2 => ?_
    obtain ⟨k, hk⟩ := hacc.2 i acc.toList[i] (by rw [← Array.getElem?_toList]; simp)
    obtain ⟨hi, e⟩ := Array.getElem?_eq_some_iff.mp hk
    simp [e]
  have hoents : IntEnts (order w r es ep).toList := fun e he => hents e ((order_perm w r es ep).mem_iff.mp he)
  have hints : IntsAre acc.toList ((order w r es ep).toList.map keyOf) := hacc' ▸ ints_of hoents
  have hp2 : ((order w r es ep).toList.map keyOf).Perm σ := ((order_perm w r es ep).map keyOf).trans hperm
  have hal : acc.toList.length = σ.length := by rw [hacc', List.length_map, Array.length_toList, order_size, hlen]
  refine wpAny_bind (wpAny_newList ?_ (sizeLine_big (by rw [hal]; omega)))
  have hoL : (h'.push (listOf acc.toList.toArray 0)).get? h'.objs.size = some (seqObj "list" acc.toList.toArray 0) := Heap.get?_push_size _ rfl
  refine wpAny_bind (wpAny_holding (wpAny_call_entry slot_list_sort ⟨_, hoL, rfl⟩ entry_list_sort (list_sort_tree hoL hints (by rw [hal]; omega) fun out ns' a1 a2 a3 => ⟨_, rfl, ?_⟩) (args_list_sort _)))
  obtain ⟨e, hout⟩ := sortedHeap_at (out := out) hoL
  have hns : ns' = ssort σ := by
    refine (ssort_eq ?_ fun x => (a2.trans hp2).mem_iff).symm
    have hnd' : ns'.Nodup := (a2.trans hp2).nodup_iff.mpr hnd
    exact (List.Pairwise.and a3 hnd').imp fun ⟨h1, h2⟩ => by omega
  subst hns
  have hf : ∀ b o, s.heap.get? b = some o → b ≠ h'.objs.size := fun b o e => Nat.ne_of_lt (Heap.lt_size (hk b o e))
  refine wpAny_pure ⟨_, rfl, h h'.objs.size _ tk out.toList e (fun b o e => ?_) ?_ (by simpa using hout) a1⟩
  · have e1 := hk b o e
    rw [sortedHeap_old (hf b o e) (by rw [Heap.size_push]; exact Nat.lt_succ_of_lt (Heap.lt_size e1))]
    exact Heap.get?_push_of_some _ e1
  · cases q : s.heap.get? h'.objs.size with
    | none => rfl
    | some o => exact absurd rfl (hf _ o q)

/-- sorted(set(l)) -/
theorem sorted_set_list {l : Addr} {vs : List Value} {ns : List Int} {Q : Value → Shared → Prop} (hh : A.handled = none) (hl : s.heap.IsList l vs.toArray) (hi : IntsAre vs ns) (hb : vs.length + 1 ≤ 18) (hsm : ∀ k ∈ ns, Small k)
    (h : ∀ (D : Addr) (h' : Heap) (tk : Nat) (ws : List Value) (n : Nat), (∀ b o, s.heap.get? b = some o → h'.get? b = some o) → s.heap.get? D = none → h'.get? D = some (listOf ws.toArray n) → IntsAre ws (ssort ns) → Q (.ref D) { s with heap := h', toks := tk }) :
    wpAny (model prog w) A (call (.type "set") [.ref l]) (fun v s' => wpAny (model prog w) A (call (.builtin "sorted") [v]) Q E s') E s := by
  refine call_set hh hl hi hb hsm fun h' tk hS hk => ?_
  have hlen := hi.length
  have hσ : ∀ x, x ∈ firstMet (fun i => ns.getD i 0) vs.length ↔ x ∈ ns := fun x => by
    have := firstMet_any (fun i => ns.getD i 0) vs.length x
    have e : (List.range vs.length).map (fun i => ns.getD i 0) = ns := by
      rw [hlen]
      refine List.ext_getElem (by simp) fun i h1 h2 => ?_
      simp only [List.getElem_map, List.getElem_range]
      rw [List.getD_eq_getElem?_getD, List.getElem?_eq_getElem h2]; rfl
    rw [e] at this
    have l1 : ∀ l : List Int, (l.any (· == x) = true) ↔ x ∈ l := fun l => by simp
    rw [← l1, this, l1]
  refine sorted_set hh hS (by have := firstMet_length_le (fun i => ns.getD i 0) vs.length; omega) fun D h2 tk2 ws n hk2 hD hD2 hw => ?_
  rw [ssort_congr hσ] at hw
  refine h D h2 tk2 ws n (fun b o e => hk2 b o (hk b o e)) ?_ hD2 hw
  cases q : s.heap.get? D with
  | none => rfl
  | some o => have := hk D o q; rw [show h'.get? D = none from hD] at this; cases this
end
end Mine
end

section
set_option linter.unusedVariables false
open PySem PySem.W PyProof.Rows
set_option maxRecDepth 100000
namespace Mine

/-- a call of a built-in value -/
noncomputable def CallOK (prog : Program) (h0 : Heap) (w : World) (A : Around) (f : Value) (ds : List D) (d : D) : Prop :=
  ∀ X s vs, PC h0 X s.heap → RepAll X s.heap vs ds → Pure prog w A X s (call f vs) d

section
variable {prog : Program} {h0 : Heap} {K : Frag} {cx : Cx} {n : Nat} {S₀ : S} {Q : D → Nat → Prop}
/-- a name of the built-ins -/
theorem Evp.blt' (c : CxOK h0 n cx) (B : Top0 K h0) {x : Str} {pos : Pos} {v : Value} (e : nsIn K mainGlobals x = some none) (hv : bootBuiltins x = some v) (hn : x ≠ "__name__")
    (hx : cx.env.kindOf x = some .globalImplicit) (hd : (x == ("__debug__" : Str)) = false) {s : Shared} (t : St cx S₀ s) {Q' : Value → Shared → Prop} {E : Value → Shared → Prop} (hq : Q' v s) :
    wpAny (model prog cx.w) cx.A (eval (.Name x pos) cx.env) Q' E s := by
  obtain ⟨_, _, mg, mb, T⟩ := B.top
  have p := t.pc c
  exact Calls.Name_function_global c.kind hx (Calls.loadGlobal_builtin (by rw [c.glob]; exact T.g.keeps p.base) (mg_none_of B.inK T.g e) (by rw [c.blt]; exact T.b.keeps p.base) ((T.builtins x hn).trans hv) hq) hd

inductive CallBQ (prog : Program) (h0 : Heap) (w : World) (A : Around) (f : Value) (Q : D → Nat → Prop) (ds : List D) (k : Nat) : Prop
  | mk (d : D) (ok : CallOK prog h0 w A f ds d) (q : Q d k) : CallBQ prog h0 w A f Q ds k
inductive SSetQ (Q : D → Nat → Prop) (d : D) (k : Nat) : Prop
  | mk (ns : List Int) (e : d = .list (nums ns)) (l : ns.length ≤ 17) (sm : ∀ x ∈ ns, Small x) (q : Q (.list (nums (ssort ns))) k) : SSetQ Q d k
theorem Evp.callB (c : CxOK h0 n cx) (B : Top0 K h0) {f : Str} {id : String} {p pos : Pos} {e : PySem.Expr} {es : List PySem.Expr} (hf : nsIn K mainGlobals f = some none) (hv : bootBuiltins f = some (.builtin id)) (hn : f ≠ "__name__")
    (h : Evs prog cx S₀ (e :: es) (CallBQ prog h0 cx.w cx.A (.builtin id) Q))
    (hx : cx.env.kindOf f = some .globalImplicit) (hs : (e :: es).all notStar = true := by rfl) (hd : (f == ("__debug__" : Str)) = false := by decide) : Evp prog cx S₀ (.Call (.Name f p) (e :: es) [] pos) Q := fun s t => by
  have hs' : notStar e = true ∧ es.all notStar = true := by simpa using hs
  refine Call_ (Evp.blt' c B hf hv hn hx hd t ?_)
  refine PyProof.Rows.callWith_builtin1 (wpAny_mono (h s pos t) (fun vs s₁ ⟨ds, k, t₁, k₁, r, d, ok, q⟩ => ?_) fun _ _ x => x.elim) (starEach_cons e es _ hs'.1) (backTo_plain hs'.2)
  exact wpAny_mono (ok _ s₁ vs (t₁.pc c) r) (fun v s₂ ⟨kp, rv⟩ => ⟨d, k, t₁.keeps c kp, k₁.trans (kp.but _), rv, q⟩) fun _ _ x => x.elim
theorem Evp.callT (c : CxOK h0 n cx) (B : Top0 K h0) {f : Str} {T : String} {p pos : Pos} {e : PySem.Expr} {es : List PySem.Expr} (hf : nsIn K mainGlobals f = some none) (hv : bootBuiltins f = some (.type T)) (hn : f ≠ "__name__")
    (h : Evs prog cx S₀ (e :: es) (CallBQ prog h0 cx.w cx.A (.type T) Q))
    (hx : cx.env.kindOf f = some .globalImplicit) (hs : (e :: es).all notStar = true := by rfl) (hd : (f == ("__debug__" : Str)) = false := by decide) : Evp prog cx S₀ (.Call (.Name f p) (e :: es) [] pos) Q := fun s t => by
  have hs' : notStar e = true ∧ es.all notStar = true := by simpa using hs
  refine Call_ (Evp.blt' c B hf hv hn hx hd t ?_)
  refine PyProof.Rows.callWith_type1 (wpAny_mono (h s pos t) (fun vs s₁ ⟨ds, k, t₁, k₁, r, d, ok, q⟩ => ?_) fun _ _ x => x.elim) (starEach_cons e es _ hs'.1) (backTo_plain hs'.2)
  exact wpAny_mono (ok _ s₁ vs (t₁.pc c) r) (fun v s₂ ⟨kp, rv⟩ => ⟨d, k, t₁.keeps c kp, k₁.trans (kp.but _), rv, q⟩) fun _ _ x => x.elim
/-- sorted(set(e)) -/
theorem Evp.sortedSet (c : CxOK h0 n cx) (B : Top0 K h0) {f g : Str} {p pos p' pos' : Pos} {e : PySem.Expr} (hf : nsIn K mainGlobals f = some none) (hv : bootBuiltins f = some (.builtin "sorted")) (hn : f ≠ "__name__")
    (hg : nsIn K mainGlobals g = some none) (hgv : bootBuiltins g = some (.type "set")) (hgn : g ≠ "__name__")
    (h : Evp prog cx S₀ e (SSetQ Q))
    (hx : cx.env.kindOf f = some .globalImplicit) (hxg : cx.env.kindOf g = some .globalImplicit) (hs : notStar e = true := by rfl) (hd : (f == ("__debug__" : Str)) = false := by decide) (hdg : (g == ("__debug__" : Str)) = false := by decide) :
    Evp prog cx S₀ (.Call (.Name f p) [.Call (.Name g p') [e] [] pos'] [] pos) Q := fun s t => by
  refine Call_ (Evp.blt' c B hf hv hn hx hd t ?_)
  refine PyProof.Rows.callWith_builtin1 (PyProof.Rows.args_cons (Call_ (Evp.blt' c B hg hgv hgn hxg hdg t ?_)) rfl) rfl rfl
  refine PyProof.Rows.callWith_type1 (PyProof.Rows.args_cons (wpAny_mono (h s t) (fun v s₁ ⟨d, k, t₁, k₁, r, ns, e, hl, hsm, q⟩ => ?_) fun _ _ x => x.elim) (starEach_cons e [] _ hs)) (starEach_cons e [] _ hs) rfl
  subst e
  refine PyProof.Rows.args_nil ?_
  cases r with
  | @list al vs _ _ _ e r =>
    have len := r.length
    rw [List.length_map] at len
    have hi := r.intsAre
    refine wpAny_mono (sorted_set_list (Q := EvR cx S₀ s Q) (E := fun _ _ => False) c.lv.hd ⟨_, e, rfl, _, rfl⟩ hi (by omega) hsm fun D h' tk ws nn hk hD hD2 hw => ?_) (fun v s' hh => PyProof.Rows.args_nil hh) fun _ _ x => x.elim
    have kp : Kp s₁ { s₁ with heap := h', toks := tk } := ⟨h', tk, rfl, hk⟩
    refine ⟨_, k, t₁.keeps c kp, k₁.trans (kp.but _), .list (n := nn) (fun x => ?_) hD2 (RepAll.of_ints hw), q⟩
    obtain ⟨o, e⟩ := t₁.liveXX D x
    rw [hD] at e; cases e

-- rules
variable {w : World} {A : Around}
theorem kp_heap {s : Shared} {h' : Heap} {tk : Nat} (hk : ∀ b o, s.heap.get? b = some o → h'.get? b = some o) : Kp s { s with heap := h', toks := tk } := ⟨h', tk, rfl, hk⟩
theorem kp_heap0 {s : Shared} {h' : Heap} (hk : ∀ b o, s.heap.get? b = some o → h'.get? b = some o) : Kp s { s with heap := h' } := ⟨h', s.toks, rfl, hk⟩
theorem call_len {ds : List D} (hl : ds.length ≤ 1000000) : CallOK prog h0 w A (.builtin "len") [.list ds] (.int ds.length) := fun X s vs p r => by
  cases r with
  | cons r rs => cases rs with
    | nil => cases r with
      | @list al vs _ _ _ e r =>
        have len := r.length
        refine PyProof.Rows.len_list ⟨_, e, rfl, _, rfl⟩ (by rw [List.size_toArray, len]; omega) ⟨kp_tok, ?_⟩
        rw [List.size_toArray, len]
        exact .int _ _
theorem call_max2 (lv : Lv n A) {a b : Int} : CallOK prog h0 w A (.builtin "max") [.int a, .int b] (.int (max a b)) := fun X s vs p r => by
  cases r with
  | cons r rs => cases rs with
    | cons r' rs => cases rs; cases r; cases r'
                    refine max_two_ints lv.hd fun h' tk hk => ⟨kp_heap hk, ?_⟩
                    by_cases q : b > a
                    · rw [if_pos q, show max a b = b by omega]; exact .int _ _
                    · rw [if_neg q, show max a b = a by omega]; exact .int _ _
theorem call_min2 (lv : Lv n A) {a b : Int} : CallOK prog h0 w A (.builtin "min") [.int a, .int b] (.int (min a b)) := fun X s vs p r => by
  cases r with
  | cons r rs => cases rs with
    | cons r' rs => cases rs; cases r; cases r'
                    refine min_two_ints lv.hd fun h' tk hk => ⟨kp_heap hk, ?_⟩
                    by_cases q : b < a
                    · rw [if_pos q, show min a b = b by omega]; exact .int _ _
                    · rw [if_neg q, show min a b = a by omega]; exact .int _ _
theorem call_range1 {b : Int} : CallOK prog h0 w A (.type "range") [.int b] (.rng 0 b) := fun X s vs p r => by
  cases r with
  | cons r rs => cases rs; cases r
                 exact PySem.call_range_1 ⟨⟨_, _, rfl, fun _ _ e => Heap.get?_push_of_some _ e⟩, .rng p.new (IsRange.new ..)⟩
theorem call_range2 {a b : Int} : CallOK prog h0 w A (.type "range") [.int a, .int b] (.rng a b) := fun X s vs p r => by
  cases r with
  | cons r rs => cases rs with
    | cons r' rs => cases rs; cases r; cases r'
                    exact PySem.call_range_2 ⟨⟨_, _, rfl, fun _ _ e => Heap.get?_push_of_some _ e⟩, .rng p.new (IsRange.new ..)⟩
theorem call_tuple {ds : List D} (hl : ds.length ≤ 1000000) : CallOK prog h0 w A (.type "tuple") [.list ds] (.tup ds) := fun X s vs p r => by
  cases r with
  | cons r rs => cases rs; cases r with
      | @list al vs _ _ _ e r =>
        have len := r.length
        refine call_tuple_list (items := vs.toArray) ⟨_, e, rfl, _, rfl⟩ (fun h' hk => ?_) (by rw [List.size_toArray, len]; exact sizeLine_big hl)
        have p' := p.keeps hk
        exact ⟨⟨_, _, rfl, fun b o e => Heap.get?_push_of_some _ (hk b o e)⟩, .tup (n := 0) p'.new (Heap.get?_push_size _ rfl) (r.keeps fun b o e => Heap.get?_push_of_some _ (hk b o e))⟩
theorem call_abs {a : Int} : CallOK prog h0 w A (.builtin "abs") [.int a] (.int (a.natAbs : Int)) := fun X s vs p r => by
  cases r with
  | cons r rs => cases rs; cases r
                 refine call_abs_int fun u tk => ⟨kp_tok, ?_⟩
                 rw [show ((a.natAbs : Nat) : Int) = if a < 0 then -a else a by split <;> omega]
                 exact .int _ _
theorem call_int {a : Int} : CallOK prog h0 w A (.type "int") [.int a] (.int a) := fun X s vs p r => by
  cases r with
  | cons r rs => cases rs; cases r
                 exact call_int_int ⟨.refl' _, .int _ _⟩
theorem call_str {a : Int} (ha : a.natAbs.log2 < 1920) : CallOK prog h0 w A (.type "str") [.int a] (.str (toString a)) := fun X s vs p r => by
  cases r with
  | cons r rs => cases rs; cases r
                 exact P.str_of_int ha ⟨kp_tok, .str _ _⟩
end
end Mine
end

section
set_option linter.unusedVariables false
open PySem PySem.W PyProof.Rows
set_option maxRecDepth 100000
namespace Mine

/-- the greatest, the least -/
noncomputable def lmax : List Int → Int
  | [] => 0
  | x :: xs => xs.foldl max x
noncomputable def lmin : List Int → Int
  | [] => 0
  | x :: xs => xs.foldl min x
theorem foldl_max : ∀ (xs : List Int) (x : Int), xs.foldl max x ∈ x :: xs ∧ ∀ a ∈ x :: xs, a ≤ xs.foldl max x
  | [], x => ⟨.head _, fun a h => by rw [List.mem_singleton.mp h]; exact Int.le_refl _⟩
  | y :: ys, x => by
    obtain ⟨h1, h2⟩ := foldl_max ys (max x y)
    rw [List.foldl_cons]
    refine ⟨?_, fun a ha => ?_⟩
    · rcases List.mem_cons.mp h1 with e | e
      · rcases Int.le_total x y with q | q
        · rw [e, Int.max_eq_right q]; exact .tail _ (.head _)
        · rw [e, Int.max_eq_left q]; exact .head _
      · exact .tail _ (.tail _ e)
    · have := h2 (max x y) (.head _)
      rcases List.mem_cons.mp ha with rfl | ha
      · omega
      · rcases List.mem_cons.mp ha with rfl | ha
        · omega
        · exact h2 a (.tail _ ha)
theorem foldl_min : ∀ (xs : List Int) (x : Int), xs.foldl min x ∈ x :: xs ∧ ∀ a ∈ x :: xs, xs.foldl min x ≤ a
  | [], x => ⟨.head _, fun a h => by rw [List.mem_singleton.mp h]; exact Int.le_refl _⟩
  | y :: ys, x => by
    obtain ⟨h1, h2⟩ := foldl_min ys (min x y)
    rw [List.foldl_cons]
    refine ⟨?_, fun a ha => ?_⟩
    · rcases List.mem_cons.mp h1 with e | e
      · rcases Int.le_total x y with q | q
        · rw [e, Int.min_eq_left q]; exact .head _
        · rw [e, Int.min_eq_right q]; exact .tail _ (.head _)
      · exact .tail _ (.tail _ e)
    · have := h2 (min x y) (.head _)
      rcases List.mem_cons.mp ha with rfl | ha
      · omega
      · rcases List.mem_cons.mp ha with rfl | ha
        · omega
        · exact h2 a (.tail _ ha)
theorem lmax_spec {ns : List Int} (h : ns ≠ []) : lmax ns ∈ ns ∧ ∀ a ∈ ns, a ≤ lmax ns := by
  cases ns with
  | nil => exact absurd rfl h
  | cons x xs => exact foldl_max xs x
theorem lmin_spec {ns : List Int} (h : ns ≠ []) : lmin ns ∈ ns ∧ ∀ a ∈ ns, lmin ns ≤ a := by
  cases ns with
  | nil => exact absurd rfl h
  | cons x xs => exact foldl_min xs x
theorem lmax_eq {ns : List Int} {M : Int} (h1 : M ∈ ns) (h2 : ∀ a ∈ ns, a ≤ M) : lmax ns = M := by
  have := lmax_spec (ns := ns) (fun e => by rw [e] at h1; cases h1)
  have a := this.2 M h1
  have b := h2 _ this.1
  omega
theorem lmin_eq {ns : List Int} {M : Int} (h1 : M ∈ ns) (h2 : ∀ a ∈ ns, M ≤ a) : lmin ns = M := by
  have := lmin_spec (ns := ns) (fun e => by rw [e] at h1; cases h1)
  have a := this.2 M h1
  have b := h2 _ this.1
  omega

section
variable {prog : Program} {h0 : Heap} {K : Frag} {n : Nat} {w : World} {A : Around}
theorem call_maxL (lv : Lv n A) {ns : List Int} (hne : ns ≠ []) : CallOK prog h0 w A (.builtin "max") [.list (nums ns)] (.int (lmax ns)) := fun X s vs p r => by
  cases r with
  | cons r rs => cases rs; cases r with
      | @list al vs _ _ _ e r =>
        have hi := r.intsAre
        obtain ⟨xs, e'⟩ := hi.allInts.items
        have hns : ns = xs.toList.map (·.1) := by rw [← hi.numsOf, ← nums_intItems, ← e']
        have hsz : 0 < xs.size := by
          rcases Nat.eq_zero_or_pos xs.size with z | z
          · exfalso
            have : xs = #[] := Array.size_eq_zero_iff.mp z
            subst this; exact hne (by simpa using hns)
          · exact z
        rw [e'] at e
        refine max_intList lv.hd ⟨_, e, rfl, _, rfl⟩ hsz fun v h' tk hv hk => ⟨kp_heap hk, ?_⟩
        obtain ⟨t, rfl⟩ := intItems_at hv
        obtain ⟨h1, h2⟩ := argBest_gt (numAt xs) (xs.size - 1)
        have : lmax ns = numAt xs (argBest (fun i j => decide (numAt xs i > numAt xs j)) (xs.size - 1)) := by
          refine lmax_eq ?_ fun a ha => ?_
          · rw [hns, numAt_eq]; exact getD_mem (by rw [List.length_map, Array.length_toList]; omega)
          · rw [hns] at ha
            obtain ⟨j, hj, rfl⟩ := mem_getD ha
            rw [List.length_map, Array.length_toList] at hj
            rw [← numAt_eq]; exact h2 j (by omega)
        rw [this]
        exact .int _ _
theorem call_minL (lv : Lv n A) {ns : List Int} (hne : ns ≠ []) : CallOK prog h0 w A (.builtin "min") [.list (nums ns)] (.int (lmin ns)) := fun X s vs p r => by
  cases r with
  | cons r rs => cases rs; cases r with
      | @list al vs _ _ _ e r =>
        have hi := r.intsAre
        obtain ⟨xs, e'⟩ := hi.allInts.items
        have hns : ns = xs.toList.map (·.1) := by rw [← hi.numsOf, ← nums_intItems, ← e']
        have hsz : 0 < xs.size := by
          rcases Nat.eq_zero_or_pos xs.size with z | z
          · exfalso
            have : xs = #[] := Array.size_eq_zero_iff.mp z
            subst this; exact hne (by simpa using hns)
          · exact z
        rw [e'] at e
        refine min_intList lv.hd ⟨_, e, rfl, _, rfl⟩ hsz fun v h' tk hv hk => ⟨kp_heap hk, ?_⟩
        obtain ⟨t, rfl⟩ := intItems_at hv
        obtain ⟨h1, h2⟩ := argBest_lt (numAt xs) (xs.size - 1)
        have : lmin ns = numAt xs (argBest (fun i j => decide (numAt xs i < numAt xs j)) (xs.size - 1)) := by
          refine lmin_eq ?_ fun a ha => ?_
          · rw [hns, numAt_eq]; exact getD_mem (by rw [List.length_map, Array.length_toList]; omega)
          · rw [hns] at ha
            obtain ⟨j, hj, rfl⟩ := mem_getD ha
            rw [List.length_map, Array.length_toList] at hj
            rw [← numAt_eq]; exact h2 j (by omega)
        rw [this]
        exact .int _ _
theorem preSum_eq : ∀ (ns : List Int), preSum (fun i => ns.getD i 0) ns.length = ns.sum := by
  intro ns
  have key : ∀ k, k ≤ ns.length → preSum (fun i => ns.getD i 0) k = (ns.take k).sum := by
    intro k
    induction k with
    | zero => intro _; simp [preSum]
    | succ k ih =>
      intro hk
      have e : ns.take (k + 1) = ns.take k ++ [ns.getD k 0] := by
        rw [List.take_add_one, List.getElem?_eq_getElem (by omega), List.getD_eq_getElem?_getD, List.getElem?_eq_getElem (by omega)]; rfl
      rw [e, List.sum_append, ← ih (by omega)]
      simp [preSum]
  have := key ns.length (Nat.le_refl _)
  rwa [List.take_length] at this
theorem call_sum (lv : Lv n A) {ns : List Int} : CallOK prog h0 w A (.builtin "sum") [.list (nums ns)] (.int ns.sum) := fun X s vs p r => by
  cases r with
  | cons r rs => cases rs; cases r with
      | @list al vs _ _ _ e r =>
        have hi := r.intsAre
        have hlen := hi.length
        have hl : s.heap.IsList al vs.toArray := ⟨_, e, rfl, _, rfl⟩
        have hlt := Heap.lt_size e
        refine call_sum_walkAnyS (wpAny_pyIter_list hl ?_)
        have hne : al ≠ s.heap.objs.size := Nat.ne_of_lt hlt
        refine ⟨s.heap.objs.size, _, _, _, _, _, _, fun i => ns.getD i 0, rfl, (Walks.list (A := A.in1) lv.hd _ al hne vs.toArray).toS, ⟨⟨_, Heap.get?_push_size _ rfl, rfl, rfl⟩, hl.push _⟩, fun b hb => ?_, fun i v hv => IntsAre.int_at hi i v (by simpa using hv), fun s' t' hm => ?_⟩
        · show b < (s.heap.push _).objs.size
          rw [Heap.size_push]
          rcases List.mem_cons.mp hb with q | q
          · rw [q]; exact Nat.lt_succ_self _
          · rw [List.mem_singleton.mp q]; exact Nat.lt_succ_of_lt hlt
        · have hk : ∀ b o, s.heap.get? b = some o → s'.heap.get? b = some o := fun b o q =>
            hm.heap b o (fun hI => by rw [List.mem_singleton.mp hI] at q; exact absurd (Heap.lt_size q) (Nat.lt_irrefl _)) (Heap.get?_push_of_some _ q)
          rw [Moved.eq_with hm]
          refine ⟨kp_heap hk, ?_⟩
          rw [show vs.toArray.size = ns.length by simpa using hlen, preSum_eq]
          exact .int _ _
end
end Mine
end

section
set_option linter.unusedVariables false
open PySem PySem.W PyProof.Rows
set_option maxRecDepth 100000
namespace Mine

section
variable {prog : Program} {h0 : Heap} {K : Frag} {cx : Cx} {n : Nat} {S₀ : S}
inductive ZipQ (Q : List D → Nat → Prop) (ds : List D) (k : Nat) : Prop
  | mk (as bs : List D) (e : ds = [.list as, .list bs]) (q : Q (pairs as bs) k) : ZipQ Q ds k
/-- for .. in zip(a, b) -/
theorem Itr.zip (c : CxOK h0 n cx) (B : Top0 K h0) {f : Str} {p pos tpos : Pos} {e1 e2 : PySem.Expr} {elts : List PySem.Expr} {x1 : Nat} {Q : List D → Nat → Prop} (hf : nsIn K mainGlobals f = some none) (hv : bootBuiltins f = some (.type "zip")) (hn : f ≠ "__name__")
    (h : Evs prog cx S₀ [e1, e2] (ZipQ Q))
    (hx : cx.env.kindOf f = some .globalImplicit) (hs : [e1, e2].all notStar = true := by rfl) (hd : (f == ("__debug__" : Str)) = false := by decide) :
    Itr prog cx S₀ (.Tuple elts x1 tpos) (.Call (.Name f p) [e1, e2] [] pos) Q := fun s t => by
  have hs' : notStar e1 = true ∧ [e2].all notStar = true := by simpa using hs
  refine Call_ (Evp.blt' c B hf hv hn hx hd t ?_)
  refine PyProof.Rows.callWith_type1 (wpAny_mono (h s pos t) (fun vs s₁ ⟨ds, k, t₁, k₁, r, as, bs, e, q⟩ => ?_) fun _ _ x => x.elim) (starEach_cons e1 [e2] _ hs'.1) (backTo_plain hs'.2)
  subst e
  have pc := t₁.pc c
  cases r with
  | cons r rs => cases rs with
    | cons r' rs => cases rs; cases r with
      | @list l1 vs n1 _ nx1 he1 r1 => cases r' with
        | @list l2 ws n2 _ nx2 he2 r2 =>
          refine call_zip_2 (xs := vs.toArray) (ys := ws.toArray) ⟨_, he1, rfl, _, rfl⟩ ⟨_, he2, rfl, _, rfl⟩ fun h' hz hTI hTO hi1 hi2 hsz hk => ?_
          refine wpAny_pyIter_zip hz ?_
          have a1 := Heap.lt_size he1
          have a2 := Heap.lt_size he2
          have fr : ∀ a, s₁.heap.objs.size ≤ a → s₁.heap.get? a = none := fun a ha => by
            cases q : s₁.heap.get? a with
            | none => rfl
            | some o => exact absurd (Heap.lt_size q) (Nat.not_lt.mpr ha)
          have kp : Kp s₁ { s₁ with heap := h' } := kp_heap0 hk
          have fz := fr (s₁.heap.objs.size + 4) (Nat.le_add_right _ _)
          have fTO := fr (s₁.heap.objs.size + 3) (Nat.le_add_right _ _)
          have fTI := fr (s₁.heap.objs.size + 2) (Nat.le_add_right _ _)
          have f2 := fr (s₁.heap.objs.size + 1) (Nat.le_add_right _ _)
          have f1 := fr s₁.heap.objs.size (Nat.le_refl _)
          have fw : ∀ a, (a = s₁.heap.objs.size + 4 ∨ a = s₁.heap.objs.size + 3 ∨ a = s₁.heap.objs.size ∨ a = s₁.heap.objs.size + 1) → s₁.heap.get? a = none := by
            rintro a (rfl | rfl | rfl | rfl) <;> assumption
          have lw : ∀ a, (a = s₁.heap.objs.size + 4 ∨ a = s₁.heap.objs.size + 3 ∨ a = s₁.heap.objs.size ∨ a = s₁.heap.objs.size + 1) → ∃ o, h'.get? a = some o := by
            rintro a (rfl | rfl | rfl | rfl)
            · exact ⟨_, hz⟩
            · exact ⟨_, hTO⟩
            · obtain ⟨o, e, _⟩ := hi1; exact ⟨o, e⟩
            · obtain ⟨o, e, _⟩ := hi2; exact ⟨o, e⟩
          refine ⟨pairs as bs, k, s₁.heap.objs.size + 4, _, rfl, t₁.grow kp fw lw, k₁.trans (kp.but _), fun Y hY => ?_, fun a w => C_none t₁ (fw a w), fun a w => get_none_but k₁ (fw a w) (pen_live t₁ (fw a w)), q⟩
          have nX : ∀ a o, s₁.heap.get? a = none → h'.get? a = some o → ¬ (XX cx.X S₀.own a ∨ Y a) := fun a o e e' x => by
            rcases x with x | x
            · obtain ⟨o', q⟩ := t₁.liveXX a x; rw [e] at q; cases q
            · have := hY a x; rw [show h'.get? a = none from this] at e'; cases e'
          have nO : ∀ a o, s₁.heap.get? a = some o → ¬ XX cx.X S₀.own a → ¬ (XX cx.X S₀.own a ∨ Y a) := fun a o e nx x => by
            rcases x with x | x
            · exact nx x
            · have e0 : h'.get? a = none := hY a x
              have := hk a o e; rw [e0] at this; cases this
          obtain ⟨o1, eo1, _⟩ := id hi1
          obtain ⟨o2, eo2, _⟩ := id hi2
          have hmon : ∀ {us : List Value} {ds : List D}, RepAll (XX cx.X S₀.own) s₁.heap us ds →
              RepAll (fun a => (XX cx.X S₀.own a ∨ Y a) ∨ (a = s₁.heap.objs.size + 4 ∨ a = s₁.heap.objs.size + 3 ∨ a = s₁.heap.objs.size ∨ a = s₁.heap.objs.size + 1)) h' us ds := fun r =>
            r.mono (fun a x o e => by
              rcases x with (x | x) | x
              · exact x
              · have e0 : h'.get? a = none := hY a x
                have := hk a o e; rw [e0] at this; cases this
              · rw [fw a x] at e; cases e) fun b o _ e => hk b o e
          exact ⟨_, _, Wk.zip c.lv.hd (zipApart_new a1 a2) (vs := vs) (ws := ws) (n1 := n1) (n2 := n2) (as := as) (bs := bs) (nX _ _ fz hz) (nX _ _ fTO hTO) (nX _ _ fTI hTI) (nX _ _ f1 eo1) (nX _ _ f2 eo2) (nO _ _ he1 nx1) (nO _ _ he2 nx2),
            hz, hTI, ⟨_, _, hTO⟩, hi1, hi2, hk _ _ he1, hk _ _ he2, hmon r1, hmon r2⟩
end
end Mine
end

section
set_option linter.unusedVariables false
open PySem PySem.W PyProof.Rows
set_option maxRecDepth 100000
namespace Mine

section
variable {prog : Program} {w : World} {A : Around} {E : Value → Shared → Prop} {s : Shared}
abbrev zobj (f0 : Value) (fl : Bool) (TI TO : Addr) : Obj := { cls := .type "zip", dict := none, data := .fields #[f0, .bool fl, .bool false, .ref TI, .ref TO], slots := #[] }

theorem alive_ {M : Model} {a : Addr} {Q : Option Obj → Shared → Prop} (h : Q (s.heap.get? a) s) : wpAny M A (loadIfAlive a) Q E s := fun Γ p hΓ => by
  unfold loadIfAlive
  rw [Sem.wp_loadIfAlive]
  exact wpAny_pure h Γ p hΓ

theorem zip_flag {z T TI TO : Addr} {fl : Bool} {oT : Obj} {Q : Bool → Shared → Prop} (hz : s.heap.get? z = some (zobj (rawInt T) fl TI TO)) (hT : s.heap.get? T = some oT)
    (hq : ∀ h₁, h₁.get? z = some (zobj (rawInt T) true TI TO) → (∀ b o, b ≠ z → s.heap.get? b = some o → h₁.get? b = some o) → h₁.objs.size = s.heap.objs.size → Q false { s with heap := h₁ }) :
    wpAny (model prog w) A (Builtin.SmallTypes.ownedTupleIsFree (.ref z)) Q E s := by
  unfold Builtin.SmallTypes.ownedTupleIsFree
  refine wpAny_bind (wpAny_field hz rfl (x := rawInt T) rfl ?_)
  show wpAny _ _ (loadIfAlive (T : Int).toNat >>= _) _ _ _
  rw [Int.toNat_natCast]
  refine wpAny_bind (alive_ ?_)
  rw [hT]
  simp only [Option.isNone_some, Bool.false_eq_true, if_false]
  refine wpAny_bind (wpAny_field hz rfl (x := .bool fl) rfl ?_)
  cases fl with
  | true => exact wpAny_pure (hq s.heap hz (fun _ _ _ e => e) rfl)
  | false =>
    refine wpAny_bind (wpAny_setField_rec hz (by simp) fun h₁ hz₁ hs₁ => wpAny_pure ?_)
    exact hq h₁ hz₁ (fun b o hb e => hs₁.extBut b o hb e) hs₁.1

theorem zip_busy_item {z T TI TO i1 i2 l1 l2 : Addr} {fl : Bool} {k1 k2 : Nat} {xs ys : Array Value} {x y : Value} {oT : Obj} {Q : Option Value → Shared → Prop} (D : ZipApart z TI TO i1 i2 l1 l2)
    (hz : s.heap.get? z = some (zobj (rawInt T) fl TI TO)) (hT : s.heap.get? T = some oT) (hTI : IsPair s.heap TI (.ref i1) (.ref i2))
    (h1 : s.heap.IsListIter i1 l1 k1) (h2 : s.heap.IsListIter i2 l2 k2) (hl1 : s.heap.IsList l1 xs) (hl2 : s.heap.IsList l2 ys) (hx : xs[k1]? = some x) (hy : ys[k2]? = some y)
    (hQ : ∀ h', h'.get? z = some (zobj (rawInt T) true TI TO) → h'.IsListIter i1 l1 (k1 + 1) → h'.IsListIter i2 l2 (k2 + 1) → IsPair h' s.heap.objs.size x y →
      (∀ c o, c ≠ z → c ≠ i1 → c ≠ i2 → s.heap.get? c = some o → h'.get? c = some o) → Q (some (.ref s.heap.objs.size)) { s with heap := h' }) :
    wpAny (model prog w) A (pyNext (.ref z)) Q E s := by
  have hTy : s.TypeIs (.ref z) "zip" := ⟨_, hz, rfl⟩
  unfold pyNext
  refine wpAny_bind (wpAny_attempt (wpAny_callSpecial?_slot (name := Str.ofString "__next__") hTy PySem.F.slot_zip_next
    (wpAny_call_entry PySem.F.slot_zip_next hTy PySem.F.entry_zip_next ?_ (PySem.F.args_zip_next_1 _))))
  show wpAny _ _ (field (.ref z) 2 >>= _) _ _ _
  refine wpAny_bind (wpAny_field hz rfl (x := .bool false) rfl ?_)
  show wpAny _ _ (field (.ref z) 3 >>= _) _ _ _
  refine wpAny_bind (wpAny_field hz rfl (x := .ref TI) rfl ?_)
  refine wpAny_bind (wpAny_seqItems hTI rfl ?_)
  show wpAny _ _ (Builtin.SmallTypes.ownedTupleIsFree (.ref z) >>= _) _ _ _
  refine wpAny_bind (zip_flag hz hT fun h₁ hz₁ hk₁ hs₁ => ?_)
  simp only [Bool.false_eq_true, if_false]
  have up1 : ∀ {it l : Addr} {k : Nat}, s.heap.IsListIter it l k → it ≠ z → h₁.IsListIter it l k := fun a n => a.at fun o e => hk₁ _ o n e
  have upl : ∀ {l : Addr} {xs : Array Value}, s.heap.IsList l xs → l ≠ z → h₁.IsList l xs := fun a n => a.at fun o e => hk₁ _ o n e
  refine wpAny_bind ?_
  simp only [List.forIn_toArray, List.forIn_cons, List.forIn_nil]
  refine wpAny_bind (wpAny_bind (wpAny_holding ?_))
  show wpAny _ _ (Builtin.SmallTypes.nextOf (.ref i1) >>= _) _ _ _
  refine wpAny_bind (wpAny_nextOf_list_item (up1 h1 D.i1z) (upl hl1 D.l1z) hx fun h₂ h1₂ hs₂ => wpAny_pure ?_)
  refine wpAny_pure ?_
  refine wpAny_bind (wpAny_bind (wpAny_holding ?_))
  show wpAny _ _ (Builtin.SmallTypes.nextOf (.ref i2) >>= _) _ _ _
  refine wpAny_bind (wpAny_nextOf_list_item ((up1 h2 D.i2z).extBut hs₂.extBut D.i12.symm) ((upl hl2 D.l2z).extBut hs₂.extBut D.l2i1) hy fun h₃ h2₃ hs₃ => wpAny_pure ?_)
  refine wpAny_pure (wpAny_pure ?_)
  refine wpAny_bind (wpAny_newTuple ?_ (show 2 ≤ sizeLine by decide))
  have hsz : h₃.objs.size = s.heap.objs.size := by rw [hs₃.1, hs₂.1, hs₁]
  have up : ∀ c o, c ≠ z → c ≠ i1 → c ≠ i2 → s.heap.get? c = some o → h₃.get? c = some o := fun c o a b d e => hs₃.extBut _ _ d (hs₂.extBut _ _ b (hk₁ _ _ a e))
  refine wpAny_pure ⟨_, rfl, wpAny_pure ?_⟩
  show Q (some (.ref h₃.objs.size)) _
  have hz₃ : h₃.get? z = some (zobj (rawInt T) true TI TO) := hs₃.extBut _ _ D.i2z.symm (hs₂.extBut _ _ D.i1z.symm hz₁)
  have hp : IsPair (h₃.push { cls := .type "tuple", data := .seq #[x, y] }) h₃.objs.size x y := Heap.get?_push_size _ rfl
  rw [hsz] at hp ⊢
  exact hQ _ (Heap.get?_push_of_some _ hz₃) ((h1₂.extBut hs₃.extBut D.i12).at fun o e => Heap.get?_push_of_some _ e) (h2₃.at fun o e => Heap.get?_push_of_some _ e) hp
    fun c o a b d e => Heap.get?_push_of_some _ (up c o a b d e)

theorem zip_busy_end {z T TI TO i1 i2 l1 l2 : Addr} {fl : Bool} {k1 k2 : Nat} {xs ys : Array Value} {oT : Obj} {Q : Option Value → Shared → Prop} (hh : A.handled = none) (D : ZipApart z TI TO i1 i2 l1 l2)
    (hz : s.heap.get? z = some (zobj (rawInt T) fl TI TO)) (hT : s.heap.get? T = some oT) (hTI : IsPair s.heap TI (.ref i1) (.ref i2))
    (h1 : s.heap.IsListIter i1 l1 k1) (h2 : s.heap.IsListIter i2 l2 k2) (hl1 : s.heap.IsList l1 xs) (hl2 : s.heap.IsList l2 ys) (hend : xs[k1]? = none)
    (hQ : ∀ h', (∀ c o, c ≠ z → c ≠ i1 → c ≠ i2 → s.heap.get? c = some o → h'.get? c = some o) → Q none { s with heap := h' }) :
    wpAny (model prog w) A (pyNext (.ref z)) Q E s := by
  have hTy : s.TypeIs (.ref z) "zip" := ⟨_, hz, rfl⟩
  unfold pyNext
  refine wpAny_bind (wpAny_attempt (wpAny_callSpecial?_slot (name := Str.ofString "__next__") hTy PySem.F.slot_zip_next
    (wpAny_call_entry PySem.F.slot_zip_next hTy PySem.F.entry_zip_next ?_ (PySem.F.args_zip_next_1 _))))
  show wpAny _ _ (field (.ref z) 2 >>= _) _ _ _
  refine wpAny_bind (wpAny_field hz rfl (x := .bool false) rfl ?_)
  show wpAny _ _ (field (.ref z) 3 >>= _) _ _ _
  refine wpAny_bind (wpAny_field hz rfl (x := .ref TI) rfl ?_)
  refine wpAny_bind (wpAny_seqItems hTI rfl ?_)
  show wpAny _ _ (Builtin.SmallTypes.ownedTupleIsFree (.ref z) >>= _) _ _ _
  refine wpAny_bind (zip_flag hz hT fun h₁ hz₁ hk₁ hs₁ => ?_)
  simp only [Bool.false_eq_true, if_false]
  have up1 : ∀ {it l : Addr} {k : Nat}, s.heap.IsListIter it l k → it ≠ z → h₁.IsListIter it l k := fun a n => a.at fun o e => hk₁ _ o n e
  have upl : ∀ {l : Addr} {xs : Array Value}, s.heap.IsList l xs → l ≠ z → h₁.IsList l xs := fun a n => a.at fun o e => hk₁ _ o n e
  refine wpAny_bind ?_
  simp only [List.forIn_toArray, List.forIn_cons, List.forIn_nil]
  refine wpAny_bind (wpAny_bind (wpAny_holding ?_))
  show wpAny _ _ (Builtin.SmallTypes.nextOf (.ref i1) >>= _) _ _ _
  refine wpAny_bind (wpAny_nextOf_list_end hh (up1 h1 D.i1z) (upl hl1 D.l1z) hend fun h₂ e hs₂ he => ?_)
  obtain ⟨oe, hoe, hce⟩ := he
  refine wpAny_bind (wpAny_isInstance (T := "StopIteration") (b := true) ⟨oe, hoe, hce⟩ isSubtype_stop ?_)
  exact wpAny_pure (hQ _ fun c o a b d q => hs₂ _ _ b (hk₁ _ _ a q))
end
end Mine
end

section
set_option linter.unusedVariables false
open PySem PySem.W PyProof.Rows
set_option maxRecDepth 100000
namespace Mine

abbrev lobj (acc : Array Value) (c : Nat) : Obj := { cls := .type "list", dict := none, data := .seq acc c, slots := #[] }
noncomputable def wz (S z TO i1 i2 : Addr) : Addr → Prop := fun a => a = S ∨ a = z ∨ a = TO ∨ a = i1 ∨ a = i2
/-- list(zip) under way -/
structure ZL (X : Addr → Prop) (h : Heap) (S z TI TO i1 i2 l1 l2 : Addr) (vs ws : List Value) (n1 n2 : Nat) (as bs : List D) (i : Nat) (acc : Array Value) (c : Nat) : Prop where
  hS : h.get? S = some (lobj acc c)
  hTI : IsPair h TI (.ref i1) (.ref i2)
  h1 : h.IsListIter i1 l1 i
  h2 : h.IsListIter i2 l2 i
  hl1 : h.get? l1 = some (listOf vs.toArray n1)
  hl2 : h.get? l2 = some (listOf ws.toArray n2)
  r1 : RepAll (fun a => X a ∨ wz S z TO i1 i2 a) h vs as
  r2 : RepAll (fun a => X a ∨ wz S z TO i1 i2 a) h ws bs
  racc : RepAll (fun a => X a ∨ wz S z TO i1 i2 a) h acc.toList ((pairs as bs).take i)
  live : ∀ a, X a → ∃ o, h.get? a = some o
  zst : (i = 0 ∧ IsZip h z TI TO .none ∧ ∃ a b, IsPair h TO a b) ∨ (0 < i ∧ (∃ o, h.get? TO = some o) ∧ ∃ (T : Addr) (fl : Bool) (oT : Obj), h.get? z = some (zobj (rawInt T) fl TI TO) ∧ h.get? T = some oT ∧ ¬ wz S z TO i1 i2 T)
structure ZAp (S z TI TO i1 i2 l1 l2 : Addr) : Prop where
  D : ZipApart z TI TO i1 i2 l1 l2
  s : ¬ wz z z TO i1 i2 S
  TI : TI ≠ S
  l1 : l1 ≠ S
  l2 : l2 ≠ S

section
variable {prog : Program} {w : World} {A : Around} {R : Result → Shared → Prop} {X : Addr → Prop} {S z TI TO i1 i2 l1 l2 : Addr} {vs ws : List Value} {n1 n2 : Nat} {as bs : List D}
theorem zip_extend_loop (hh : A.handled = none) (Z : ZAp S z TI TO i1 i2 l1 l2) (hX : ∀ a, wz S z TO i1 i2 a → ¬ X a) (hXl : ¬ X l1 ∧ ¬ X l2 ∧ ¬ X TI) (hle : as.length ≤ bs.length) (hpos : 0 < as.length) (hn : as.length ≤ 1000000) (res : Value) :
    ∀ (k i : Nat) (s : Shared) (acc : Array Value) (c : Nat), as.length - i = k → i ≤ as.length → ZL X s.heap S z TI TO i1 i2 l1 l2 vs ws n1 n2 as bs i acc c →
    (∀ h' tk acc' c', (∀ b o, ¬ wz S z TO i1 i2 b → s.heap.get? b = some o → h'.get? b = some o) → h'.get? S = some (lobj acc' c') → RepAll (fun a => X a ∨ wz S z TO i1 i2 a) h' acc'.toList (pairs as bs) → R (.ok (.ret res)) { s with heap := h', toks := tk }) →
    codeAny (model prog w) A (.builtin "list.extend.loop" ⟨[.ref S, .ref z, res], []⟩) R s := by
  have Sz : S ≠ z := fun e => Z.s (.inl e)
  have STO : S ≠ TO := fun e => Z.s (.inr (.inr (.inl e)))
  have Si1 : S ≠ i1 := fun e => Z.s (.inr (.inr (.inr (.inl e))))
  have Si2 : S ≠ i2 := fun e => Z.s (.inr (.inr (.inr (.inr e))))
  have hmin : (pairs as bs).length = as.length := by simp [pairs]; omega
  intro k
  induction k with
  | zero =>
    intro i s acc c hk hi L hR
    have hin : i = as.length := by omega
    subst hin
    have len1 := L.r1.length
    refine codeAny_builtin F.entry_extend_loop ?_
    rw [Around.under_plainId F.plain_extend_loop _]
    show wpAny _ A.in1 (pyNext (.ref z) >>= _) _ _ s
    rcases L.zst with ⟨e, _⟩ | ⟨_, _, T, fl, oT, hz, hT, _⟩
    · omega
    · refine wpAny_bind (zip_busy_end hh Z.D hz hT L.hTI L.h1 L.h2 ⟨_, L.hl1, rfl, _, rfl⟩ ⟨_, L.hl2, rfl, _, rfl⟩ (by simp [← len1]) fun h' hk' => ?_)
      refine wpAny_pure (hR h' s.toks acc c (fun b o nb e => hk' b o (fun q => nb (.inr (.inl q))) (fun q => nb (.inr (.inr (.inr (.inl q))))) (fun q => nb (.inr (.inr (.inr (.inr q))))) e) (hk' _ _ Sz Si1 Si2 L.hS) ?_)
      have := L.racc
      rw [List.take_of_length_le (by omega)] at this
      exact this.mono (fun _ y _ _ => y) fun b o nx e => hk' b o (fun q => nx (.inr (.inr (.inl q)))) (fun q => nx (.inr (.inr (.inr (.inr (.inl q)))))) (fun q => nx (.inr (.inr (.inr (.inr (.inr q)))))) e
  | succ k ih =>
    intro i s acc c hk hi L hR
    have hlt : i < as.length := by omega
    have ha : as[i]? = some as[i] := by simp [hlt]
    have hb : bs[i]? = some (bs[i]'(by omega)) := List.getElem?_eq_getElem _
    obtain ⟨va, hva, ra⟩ := L.r1.get ha
    obtain ⟨vb, hvb, rb⟩ := L.r2.get hb
    have hpi : (pairs as bs)[i]? = some (.tup [as[i], bs[i]'(by omega)]) := by
      simp only [pairs, List.getElem?_map]
      have : (as.zip bs)[i]? = some (as[i], bs[i]'(by omega)) := List.getElem?_zip_eq_some.mpr ⟨ha, hb⟩
      rw [this]; rfl
    have racc_len := L.racc.length
    rw [List.length_take, hmin, Array.length_toList, Nat.min_eq_left hi] at racc_len
    -- what the next item brings
    have step : ∀ (T : Addr) (h₁ : Heap), T = s.heap.objs.size → IsPair h₁ T va vb → h₁.IsListIter i1 l1 (i + 1) → h₁.IsListIter i2 l2 (i + 1) → (∀ b o, ¬ wz z z TO i1 i2 b → s.heap.get? b = some o → h₁.get? b = some o) →
        (∃ o, h₁.get? TO = some o) → (∃ (T' : Addr) (fl : Bool) (oT : Obj), h₁.get? z = some (zobj (rawInt T') fl TI TO) ∧ h₁.get? T' = some oT ∧ ¬ wz S z TO i1 i2 T') →
        wpAny (model prog w) A.in1 (do Builtin.List.listUpdate (.ref S) (·.push (.ref T)); again (.builtin "list.extend.loop" ⟨[.ref S, .ref z, res], []⟩)) (fun fin s' => match fin with | .done f => R (.ok f) s' | .again c' => c'.quiet = true ∧ codeAny (model prog w) A c' R s') (fun e s' => R (.error e) s') { s with heap := h₁ } := by
      intro T h₁ hTe hp h1' h2' hk₁ hTO hz₁
      have hS₁ : h₁.get? S = some (lobj acc c) := hk₁ _ _ Z.s L.hS
      show wpAny _ A.in1 (updateSeq S (·.push (.ref T)) >>= _) _ _ _
      refine wpAny_bind (wpAny_updateSeq hS₁ rfl ?_ (by rw [racc_len]; exact sizeLine_big (by omega)) (by show (acc.push _).size ≤ sizeLine + 1; rw [Array.size_push, racc_len]; exact Nat.succ_le_succ (sizeLine_big (by omega))))
      have hS₂ := Heap.get?_update_self (Obj.mapSeq (·.push (Value.ref T))) hS₁ rfl
      have oth : ∀ b o, b ≠ S → h₁.get? b = some o → (h₁.update S (Obj.mapSeq (·.push (Value.ref T)))).get? b = some o := fun b o nb e => (Heap.get?_update_other _ _ (Ne.symm nb)).trans e
      have hk₂ : ∀ b o, ¬ wz S z TO i1 i2 b → s.heap.get? b = some o → (h₁.update S (Obj.mapSeq (·.push (Value.ref T)))).get? b = some o := fun b o nb e =>
        oth b o (fun q => nb (.inl q)) (hk₁ b o (fun q => nb (by rcases q with q | q | q | q | q; exact .inr (.inl q); exact .inr (.inl q); exact .inr (.inr (.inl q)); exact .inr (.inr (.inr (.inl q))); exact .inr (.inr (.inr (.inr q))))) e)
      have mon : ∀ {us : List Value} {ds : List D}, RepAll (fun a => X a ∨ wz S z TO i1 i2 a) s.heap us ds → RepAll (fun a => X a ∨ wz S z TO i1 i2 a) (h₁.update S (Obj.mapSeq (·.push (Value.ref T)))) us ds := fun r =>
        r.mono (fun _ y _ _ => y) fun b o nx e => hk₂ b o (fun q => nx (.inr q)) e
      have ltT : ∀ b o, s.heap.get? b = some o → b ≠ T := fun b o e => by rw [hTe]; exact Nat.ne_of_lt (Heap.lt_size e)
      have TS : T ≠ S := fun e => (ltT _ _ L.hS) e.symm
      have nT : ¬ (X T ∨ wz S z TO i1 i2 T) := by
        rintro (q | q | q | q | q | q)
        · obtain ⟨o, e⟩ := L.live T q; exact ltT _ _ e rfl
        · exact TS q
        · rcases L.zst with ⟨_, e, _⟩ | ⟨_, _, _, _, _, e, _⟩
          · exact ltT _ _ e q.symm
          · exact ltT _ _ e q.symm
        · rcases L.zst with ⟨_, _, _, _, e⟩ | ⟨_, ⟨_, e⟩, _⟩
          · exact ltT _ _ e q.symm
          · exact ltT _ _ e q.symm
        · obtain ⟨o, e, _⟩ := L.h1; exact ltT _ _ e q.symm
        · obtain ⟨o, e, _⟩ := L.h2; exact ltT _ _ e q.symm
      refine wpAny_pure ⟨plainId_quiet F.plain_extend_loop _, ih (i + 1) _ (acc.push (.ref T)) _ (by omega) hlt ⟨hS₂, ?_, ?_, ?_, ?_, ?_, mon L.r1, mon L.r2, ?_, ?_, ?_⟩ fun h' tk acc' c' hk' hS' r' => ?_⟩
      · exact hk₂ _ _ (by rintro (q | q | q | q | q); exact Z.TI q; exact Z.D.TIz q; exact Z.D.TITO q; exact Z.D.TIi1 q; exact Z.D.TIi2 q) L.hTI
      · exact h1'.at fun o e => oth _ o Si1.symm e
      · exact h2'.at fun o e => oth _ o Si2.symm e
      · exact hk₂ _ _ (by rintro (q | q | q | q | q); exact Z.l1 q; exact Z.D.l1z q; exact Z.D.l1TO q; exact Z.D.l1i1 q; exact Z.D.l1i2 q) L.hl1
      · exact hk₂ _ _ (by rintro (q | q | q | q | q); exact Z.l2 q; exact Z.D.l2z q; exact Z.D.l2TO q; exact Z.D.l2i1 q; exact Z.D.l2i2 q) L.hl2
      · rw [Array.toList_push, List.take_add_one, hpi]
        refine (mon L.racc).append (.one (.tup (n := 0) (vs := [va, vb]) nT (oth _ _ TS hp) (.cons ?_ (.cons ?_ .nil))))
        · exact ra.mono (fun _ y _ _ => y) fun b o nx e => hk₂ b o (fun q => nx (.inr q)) e
        · exact rb.mono (fun _ y _ _ => y) fun b o nx e => hk₂ b o (fun q => nx (.inr q)) e
      · intro a x
        obtain ⟨o, e⟩ := L.live a x
        exact ⟨o, hk₂ a o (fun q => hX a q x) e⟩
      · obtain ⟨oTO, eTO⟩ := hTO
        obtain ⟨T', fl, oT, e1, e2, e3⟩ := hz₁
        exact .inr ⟨Nat.succ_pos _, ⟨oTO, oth _ _ STO.symm eTO⟩, T', fl, oT, oth _ _ Sz.symm e1, oth _ _ (fun q => e3 (.inl q)) e2, e3⟩
      · exact hR h' tk acc' c' (fun b o nb e => hk' b o nb (hk₂ b o nb e)) hS' r'
    refine codeAny_builtin F.entry_extend_loop ?_
    rw [Around.under_plainId F.plain_extend_loop _]
    show wpAny _ A.in1 (pyNext (.ref z) >>= _) _ _ s
    have lt : ∀ {b o}, s.heap.get? b = some o → b ≠ s.heap.objs.size := fun e => Nat.ne_of_lt (Heap.lt_size e)
    rcases L.zst with ⟨_, hz, a, b, hTO⟩ | ⟨_, ⟨oTO, hTO⟩, T, fl, oT, hz, hT, nT⟩
    · refine wpAny_bind (wpAny_pyNext_zip_item Z.D hz L.hTI hTO L.h1 L.h2 ⟨_, L.hl1, rfl, _, rfl⟩ ⟨_, L.hl2, rfl, _, rfl⟩ (x := va) (y := vb) (by simpa using hva) (by simpa using hvb) fun h' c1 c2 c3 c4 c5 c6 hk' => ?_)
      refine step _ h' rfl c5 c3 c4 (fun b o nb e => hk' b o (fun q => nb (.inl q)) (fun q => nb (.inr (.inr (.inl q)))) (fun q => nb (.inr (.inr (.inr (.inl q))))) (fun q => nb (.inr (.inr (.inr (.inr q))))) e) ⟨_, c2⟩ ⟨_, false, _, c1, c5, ?_⟩
      rintro (q | q | q | q | q)
      · exact lt L.hS q.symm
      · exact lt hz q.symm
      · exact lt hTO q.symm
      · obtain ⟨o, e, _⟩ := L.h1; exact lt e q.symm
      · obtain ⟨o, e, _⟩ := L.h2; exact lt e q.symm
    · refine wpAny_bind (zip_busy_item Z.D hz hT L.hTI L.h1 L.h2 ⟨_, L.hl1, rfl, _, rfl⟩ ⟨_, L.hl2, rfl, _, rfl⟩ (x := va) (y := vb) (by simpa using hva) (by simpa using hvb) fun h' c1 c3 c4 c5 hk' => ?_)
      refine step _ h' rfl c5 c3 c4 (fun b o nb e => hk' b o (fun q => nb (.inl q)) (fun q => nb (.inr (.inr (.inr (.inl q))))) (fun q => nb (.inr (.inr (.inr (.inr q))))) e) ⟨oTO, hk' _ _ Z.D.TOz Z.D.TOi1 Z.D.TOi2 hTO⟩ ⟨T, true, oT, c1, ?_, nT⟩
      exact hk' _ _ (fun q => nT (.inr (.inl q))) (fun q => nT (.inr (.inr (.inr (.inl q))))) (fun q => nT (.inr (.inr (.inr (.inr q))))) hT
end
end Mine
end

section
set_option linter.unusedVariables false
open PySem PySem.W PyProof.Rows
set_option maxRecDepth 100000
namespace Mine

theorem zip_no_len : typeLookup (.type "zip") "__len__" = pure none := by rw [typeLookup_type, builtinLookup_eq_fast]; kernel_rfl
theorem zip_no_hint : typeLookup (.type "zip") "__length_hint__" = pure none := by rw [typeLookup_type, builtinLookup_eq_fast]; kernel_rfl
section
variable {prog : Program} {w : World} {A : Around} {E : Value → Shared → Prop} {s : Shared}
theorem list_zip {X : Addr → Prop} {z TI TO i1 i2 l1 l2 : Addr} {vs ws : List Value} {n1 n2 : Nat} {as bs : List D} {Q : Value → Shared → Prop} (hh : A.handled = none) (Dd : ZipApart z TI TO i1 i2 l1 l2)
    (hz : IsZip s.heap z TI TO .none) (hTI : IsPair s.heap TI (.ref i1) (.ref i2)) (hTO : ∃ a b, IsPair s.heap TO a b) (h1 : s.heap.IsListIter i1 l1 0) (h2 : s.heap.IsListIter i2 l2 0)
    (hl1 : s.heap.get? l1 = some (listOf vs.toArray n1)) (hl2 : s.heap.get? l2 = some (listOf ws.toArray n2)) (r1 : RepAll X s.heap vs as) (r2 : RepAll X s.heap ws bs)
    (hX : ∀ a, X a → ∃ o, s.heap.get? a = some o) (hXw : ∀ a, (a = z ∨ a = TO ∨ a = i1 ∨ a = i2) → X a) (hle : as.length ≤ bs.length) (hpos : 0 < as.length) (hn : as.length ≤ 1000000) (hXl : ¬ X l1 ∧ ¬ X l2 ∧ ¬ X TI)
    (hQ : ∀ h' tk acc c, (∀ b o, ¬ (b = z ∨ b = TO ∨ b = i1 ∨ b = i2) → s.heap.get? b = some o → h'.get? b = some o) → h'.get? s.heap.objs.size = some (lobj acc c) → RepAll X h' acc.toList (pairs as bs) → Q (.ref s.heap.objs.size) { s with heap := h', toks := tk }) :
    wpAny (model prog w) A (call (.type "list") [.ref z]) Q E s := by
  have lt : ∀ {b o}, s.heap.get? b = some o → b ≠ s.heap.objs.size := fun e => Nat.ne_of_lt (Heap.lt_size e)
  have nS : ¬ wz z z TO i1 i2 s.heap.objs.size := by
    rintro (q | q | q | q | q)
    · exact lt hz q.symm
    · exact lt hz q.symm
    · obtain ⟨a, b, e⟩ := hTO; exact lt e q.symm
    · obtain ⟨o, e, _⟩ := h1; exact lt e q.symm
    · obtain ⟨o, e, _⟩ := h2; exact lt e q.symm
  have Z : ZAp s.heap.objs.size z TI TO i1 i2 l1 l2 := ⟨Dd, nS, lt hTI, lt hl1, lt hl2⟩
  have Sz : s.heap.objs.size ≠ z := fun e => nS (.inl e)
  refine callType_codes (Q₁ := fun obj s₁ => obj = .ref s.heap.objs.size ∧ s₁ = { s with heap := s.heap.push { cls := .type "list", data := .seq #[] } }) PySem.F.called_list (PySem.F.typeCall_list_1 _) PySem.F.entry_list_init
    (code_list_new _ ⟨rfl, rfl⟩) fun obj s₁ h₁ => ?_
  obtain ⟨rfl, rfl⟩ := h₁
  have hS : (s.heap.push (lobj #[] 0)).get? s.heap.objs.size = some (lobj #[] 0) := Heap.get?_push_size _ rfl
  refine ⟨⟨_, hS, rfl⟩, PySem.F.args_list_init_2 _ _, ?_⟩
  show wpAny _ _ (do let old ← Builtin.List.listItems (.ref s.heap.objs.size); Builtin.List.listUpdate (.ref s.heap.objs.size) (fun _ => #[]); letGo old.toList.reverse; Builtin.List.listExtendWith (.ref s.heap.objs.size) (.ref z) .none) _ _ _
  refine wpAny_bind ?_
  unfold Builtin.List.listItems
  refine wpAny_bind (wpAny_seqItems hS rfl (wpAny_pure ?_))
  show wpAny _ _ (updateSeq s.heap.objs.size (fun _ => #[]) >>= fun _ => letGo (#[] : Array Value).toList.reverse >>= fun _ => Builtin.List.listExtendWith (.ref s.heap.objs.size) (.ref z) .none) _ _ _
  refine wpAny_bind (wpAny_updateSeq hS rfl ?_)
  have hS₂ := Heap.get?_update_self (Obj.mapSeq (fun _ => (#[] : Array Value))) hS rfl
  refine wpAny_bind (wpAny_letGo ?_)
  have k2 : ∀ b o, s.heap.get? b = some o → ((s.heap.push (lobj #[] 0)).update s.heap.objs.size (Obj.mapSeq (fun _ => (#[] : Array Value)))).get? b = some o := fun b o e =>
    (Heap.get?_update_other _ _ (Ne.symm (lt e))).trans (Heap.get?_push_of_some _ e)
  generalize ((s.heap.push (lobj #[] 0)).update s.heap.objs.size (Obj.mapSeq (fun _ => (#[] : Array Value)))) = H2 at hS₂ k2
  have hT : ∀ s' : Shared, IsZip s'.heap z TI TO .none → s'.TypeIs (.ref z) "zip" := fun s' e => ⟨_, e, rfl⟩
  unfold Builtin.List.listExtendWith
  refine wpAny_bind (wpAny_typeOf (T := "zip") (hT _ (k2 _ _ hz)) ?_)
  have e1 : Builtin.List.listSameRef (.ref s.heap.objs.size) (.ref z) = false := by simp [Builtin.List.listSameRef, Sz]
  have e2 : (Value.type "zip" == Value.type "list") = false := by decide
  have e3 : (Value.type "zip" == Value.type "tuple") = false := by decide
  simp only [e1, e2, e3, Bool.or_false, Bool.false_eq_true, if_false]
  refine wpAny_bind (wpAny_pyIter_zip (k2 _ _ hz) ?_)
  refine wpAny_bind (wpAny_holding ?_)
  unfold Builtin.List.listLengthHint
  refine wpAny_bind (wpAny_specialOf (hT _ (k2 _ _ hz)) zip_no_len ?_)
  show wpAny _ _ (specialOf (Value.ref z) (Str.ofString "__length_hint__") >>= _) _ _ _
  refine wpAny_bind (wpAny_specialOf (hT _ (k2 _ _ hz)) zip_no_hint ?_)
  refine wpAny_pure ?_
  show wpAny _ _ (rule "list.extend.makes-room" >>= fun _ => Builtin.List.listTouch (.ref s.heap.objs.size) >>= fun _ =>
    again (.builtin "list.extend.loop" ⟨[.ref s.heap.objs.size, .ref z, .none], []⟩)) _ _ _
  refine wpAny_bind (wpAny_rule ?_)
  refine wpAny_bind ?_
  show wpAny _ _ (updateSeq s.heap.objs.size (·.push .none) >>= fun _ => updateSeq s.heap.objs.size (·.pop)) _ _ _
  refine wpAny_bind (wpAny_updateSeq hS₂ rfl ?_)
  have hS₃ := Heap.get?_update_self (Obj.mapSeq (·.push Value.none)) hS₂ rfl
  refine wpAny_updateSeq hS₃ rfl ?_
  have hS₄ := Heap.get?_update_self (Obj.mapSeq (·.pop)) hS₃ rfl
  have k4 : ∀ b o, s.heap.get? b = some o → ((H2.update s.heap.objs.size (Obj.mapSeq (·.push Value.none))).update s.heap.objs.size (Obj.mapSeq (·.pop))).get? b = some o := fun b o e =>
    (Heap.get?_update_other _ _ (Ne.symm (lt e))).trans ((Heap.get?_update_other _ _ (Ne.symm (lt e))).trans (k2 b o e))
  have hSnone : s.heap.get? s.heap.objs.size = none := by
    cases q : s.heap.get? s.heap.objs.size with
    | none => rfl
    | some o => exact absurd rfl (lt q)
  have mon : ∀ {us : List Value} {ds : List D}, RepAll X s.heap us ds → RepAll (fun a => (fun a => X a ∧ ¬ wz s.heap.objs.size z TO i1 i2 a) a ∨ wz s.heap.objs.size z TO i1 i2 a) ((H2.update s.heap.objs.size (Obj.mapSeq (·.push Value.none))).update s.heap.objs.size (Obj.mapSeq (·.pop))) us ds := fun r =>
    r.mono (fun a y o e => by
      rcases y with y | y
      · exact y.1
      · rcases y with y | y
        · rw [y, hSnone] at e; cases e
        · exact hXw a y) fun b o _ e => k4 b o e
  refine wpAny_pure ⟨plainId_quiet PySem.F.plain_extend_loop _, zip_extend_loop (A := A.in1) (X := fun a => X a ∧ ¬ wz s.heap.objs.size z TO i1 i2 a) (vs := vs) (ws := ws) (n1 := n1) (n2 := n2) (as := as) (bs := bs) hh Z (fun a q x => x.2 q) ⟨fun x => hXl.1 x.1, fun x => hXl.2.1 x.1, fun x => hXl.2.2 x.1⟩ hle hpos hn .none as.length 0 _ #[] _ rfl (Nat.zero_le _) ⟨hS₄, k4 _ _ hTI, h1.at fun o e => k4 _ o e, h2.at fun o e => k4 _ o e, k4 _ _ hl1, k4 _ _ hl2, mon r1, mon r2, ?_, ?_, .inl ⟨rfl, k4 _ _ hz, ?_⟩⟩ fun h' tk acc c hk hS' r => ?_⟩
  · exact .nil
  · rintro a ⟨x, _⟩
    obtain ⟨o, e⟩ := hX a x
    exact ⟨o, k4 a o e⟩
  · obtain ⟨a, b, e⟩ := hTO
    exact ⟨a, b, k4 _ _ e⟩
  · refine ⟨rfl, hQ h' tk acc c (fun b o nb e => hk b o (fun q => ?_) (k4 b o e)) hS' (r.mono (fun a y o e => ?_) fun _ _ _ e => e)⟩
    · rcases q with q | q
      · exact lt e q
      · exact nb q
    · by_cases q : wz s.heap.objs.size z TO i1 i2 a
      · exact .inr q
      · exact .inl ⟨y, q⟩
end

section
variable {prog : Program} {h0 : Heap} {K : Frag} {cx : Cx} {n : Nat} {S₀ : S}
/-- list(zip(a, b)) -/
inductive LZipQ (Q : D → Nat → Prop) (ds : List D) (k : Nat) : Prop
  | mk (as bs : List D) (e : ds = [.list as, .list bs]) (l1 : as.length ≤ bs.length) (l2 : 0 < as.length) (l3 : as.length ≤ 1000000) (q : Q (.list (pairs as bs)) k) : LZipQ Q ds k
theorem Evp.listZip (c : CxOK h0 n cx) (B : Top0 K h0) {f g : Str} {p pos p' pos' : Pos} {e1 e2 : PySem.Expr} {Q : D → Nat → Prop} (hf : nsIn K mainGlobals f = some none) (hv : bootBuiltins f = some (.type "list")) (hn : f ≠ "__name__")
    (hg : nsIn K mainGlobals g = some none) (hgv : bootBuiltins g = some (.type "zip")) (hgn : g ≠ "__name__")
    (h : Evs prog cx S₀ [e1, e2] (LZipQ Q))
    (hx : cx.env.kindOf f = some .globalImplicit) (hxg : cx.env.kindOf g = some .globalImplicit) (hs : [e1, e2].all notStar = true := by rfl) (hd : (f == ("__debug__" : Str)) = false := by decide) (hdg : (g == ("__debug__" : Str)) = false := by decide) :
    Evp prog cx S₀ (.Call (.Name f p) [.Call (.Name g p') [e1, e2] [] pos'] [] pos) Q := fun s t => by
  have hs' : notStar e1 = true ∧ [e2].all notStar = true := by simpa using hs
  refine Call_ (Evp.blt' c B hf hv hn hx hd t ?_)
  refine PyProof.Rows.callWith_type1 (PyProof.Rows.args_cons (Call_ (Evp.blt' c B hg hgv hgn hxg hdg t ?_)) rfl) rfl rfl
  refine PyProof.Rows.callWith_type1 (wpAny_mono (h s pos' t) (fun us s₁ ⟨ds, k, t₁, k₁, r, as, bs, e, hle, hpos, hnn, q⟩ => ?_) fun _ _ x => x.elim) (starEach_cons e1 [e2] _ hs'.1) (backTo_plain hs'.2)
  subst e
  have pc := t₁.pc c
  cases r with
  | cons r rs => cases rs with
    | cons r' rs => cases rs; cases r with
      | @list l1 vs n1 _ nx1 he1 r1 => cases r' with
        | @list l2 ws n2 _ nx2 he2 r2 =>
          refine call_zip_2 (xs := vs.toArray) (ys := ws.toArray) ⟨_, he1, rfl, _, rfl⟩ ⟨_, he2, rfl, _, rfl⟩ fun h' hz hTI hTO hi1 hi2 hsz hk => ?_
          refine PyProof.Rows.args_nil ?_
          have a1 := Heap.lt_size he1
          have a2 := Heap.lt_size he2
          have fr : ∀ a, s₁.heap.objs.size ≤ a → s₁.heap.get? a = none := fun a ha => by
            cases q : s₁.heap.get? a with
            | none => rfl
            | some o => exact absurd (Heap.lt_size q) (Nat.not_lt.mpr ha)
          have fw : ∀ a, (a = s₁.heap.objs.size + 4 ∨ a = s₁.heap.objs.size + 3 ∨ a = s₁.heap.objs.size ∨ a = s₁.heap.objs.size + 1) → s₁.heap.get? a = none := by
            rintro a (rfl | rfl | rfl | rfl)
            · exact fr _ (Nat.le_add_right _ _)
            · exact fr _ (Nat.le_add_right _ _)
            · exact fr _ (Nat.le_refl _)
            · exact fr _ (Nat.le_add_right _ _)
          have lw : ∀ a, (a = s₁.heap.objs.size + 4 ∨ a = s₁.heap.objs.size + 3 ∨ a = s₁.heap.objs.size ∨ a = s₁.heap.objs.size + 1) → ∃ o, h'.get? a = some o := by
            rintro a (rfl | rfl | rfl | rfl)
            · exact ⟨_, hz⟩
            · exact ⟨_, hTO⟩
            · obtain ⟨o, e, _⟩ := hi1; exact ⟨o, e⟩
            · obtain ⟨o, e, _⟩ := hi2; exact ⟨o, e⟩
          have hmon : ∀ {us : List Value} {ds : List D}, RepAll (XX cx.X S₀.own) s₁.heap us ds → RepAll (fun a => XX cx.X S₀.own a ∨ (a = s₁.heap.objs.size + 4 ∨ a = s₁.heap.objs.size + 3 ∨ a = s₁.heap.objs.size ∨ a = s₁.heap.objs.size + 1)) h' us ds := fun r =>
            r.mono (fun a x o e => by
              rcases x with x | x
              · exact x
              · rw [fw a x] at e; cases e) fun b o _ e => hk b o e
          have nn : ∀ {a o}, s₁.heap.get? a = some o → ¬ XX cx.X S₀.own a → ¬ (XX cx.X S₀.own a ∨ (a = s₁.heap.objs.size + 4 ∨ a = s₁.heap.objs.size + 3 ∨ a = s₁.heap.objs.size ∨ a = s₁.heap.objs.size + 1)) := fun {a o} e nx x => by
            rcases x with x | x
            · exact nx x
            · rw [fw a x] at e; cases e
          have nTI : ¬ (XX cx.X S₀.own (s₁.heap.objs.size + 2) ∨ (s₁.heap.objs.size + 2 = s₁.heap.objs.size + 4 ∨ s₁.heap.objs.size + 2 = s₁.heap.objs.size + 3 ∨ s₁.heap.objs.size + 2 = s₁.heap.objs.size ∨ s₁.heap.objs.size + 2 = s₁.heap.objs.size + 1)) := by
            rintro (x | x)
            · obtain ⟨o, e⟩ := t₁.liveXX _ x
              rw [fr _ (Nat.le_add_right _ _)] at e; cases e
            · omega
          refine list_zip (X := fun a => XX cx.X S₀.own a ∨ (a = s₁.heap.objs.size + 4 ∨ a = s₁.heap.objs.size + 3 ∨ a = s₁.heap.objs.size ∨ a = s₁.heap.objs.size + 1)) (vs := vs) (ws := ws) (n1 := n1) (n2 := n2) (as := as) (bs := bs) c.lv.hd (zipApart_new a1 a2) hz hTI ⟨_, _, hTO⟩ hi1 hi2 (hk _ _ he1) (hk _ _ he2) (hmon r1) (hmon r2) (fun a x => ?_) (fun a x => .inr x) hle hpos hnn ⟨nn he1 nx1, nn he2 nx2, nTI⟩ fun h'' tk acc cc hk2 hS rr => ?_
          · rcases x with x | x
            · obtain ⟨o, e⟩ := t₁.liveXX a x; exact ⟨o, hk a o e⟩
            · exact lw a x
          · have up : ∀ b o, s₁.heap.get? b = some o → h''.get? b = some o := fun b o e => hk2 b o (fun x => by rw [fw b x] at e; cases e) (hk b o e)
            have kp : Kp s₁ { s₁ with heap := h'', toks := tk } := ⟨h'', tk, rfl, up⟩
            refine ⟨_, k, t₁.keeps c kp, k₁.trans (kp.but _), .list (vs := acc.toList) (n := cc) (fun x => ?_) (by rw [Array.toArray_toList]; exact hS) (rr.mono (fun a y _ _ => .inl y) fun _ _ _ e => e), q⟩
            obtain ⟨o, e⟩ := t₁.liveXX _ x
            have := Heap.lt_size e
            have hsz' : h'.objs.size = s₁.heap.objs.size + 5 := hsz
            exact absurd (show s₁.heap.objs.size + 5 < s₁.heap.objs.size from hsz' ▸ this) (Nat.not_lt.mpr (Nat.le_add_right _ _))
end
end Mine
end

section
set_option linter.unusedVariables false
open PySem PySem.W PyProof.Rows
set_option maxRecDepth 100000
namespace Mine

theorem XX_own {X : Addr → Prop} {l : Addr} {ds es : List D} : XX X (some (l, ds)) = XX X (some (l, es)) := by
  funext a; apply propext
  constructor
  · rintro (x | ⟨_, e⟩); exact .inl x; cases e; exact .inr ⟨_, rfl⟩
  · rintro (x | ⟨_, e⟩); exact .inl x; cases e; exact .inr ⟨_, rfl⟩

section
variable {prog : Program} {h0 : Heap} {K₀ : Frag} {cx : Cx} {n : Nat} {S₀ : S} {E : Value → Shared → Prop} {K : S → Prop} {R : D → S → Prop} {s : Shared}
theorem St.own_new (t : St cx S₀ s) (h0' : S₀.own = none) {h' : Heap} {tk : Nat} (hk : ∀ b o, s.heap.get? b = some o → h'.get? b = some o) {l : Addr} (hl : s.heap.get? l = none) {nn : Nat} (he : h'.get? l = some (listOf ([] : List Value).toArray nn)) :
    St cx { S₀ with own := some (l, []) } { s with heap := h', toks := tk } := by
  obtain ⟨h₁, tk₁, e₁⟩ := t.rest
  have hx : ∀ a, XX cx.X (some (l, ([] : List D))) a → ∀ o, s.heap.get? a = some o → XX cx.X S₀.own a := by
    rintro a (x | ⟨_, e⟩) o q
    · exact .inl x
    · cases e; rw [hl] at q; cases q
  obtain ⟨m, hn, hv⟩ := t.ns
  refine ⟨⟨h', tk, by rw [e₁]⟩, fun b o e => hk b o (t.keep b o e), fun a x => ?_, ⟨m, hn.keeps hk, fun x d e => ?_⟩, fun ho x c h1 h2 => ?_, fun l' ds e => ?_, fun p e => ?_⟩
  · obtain ⟨o, e⟩ := t.live a x; exact ⟨o, hk a o e⟩
  · obtain ⟨v, a, r⟩ := hv x d e
    exact ⟨v, a.keeps fun c q => q.keeps hk, r.mono hx fun b o _ e => hk b o e⟩
  · obtain ⟨v, q⟩ := t.cells ho x c h1 h2
    exact ⟨v, q.keeps hk⟩
  · cases e
    exact ⟨C_none t hl, pen_live t hl, [], nn, he, .nil⟩
  · obtain ⟨vc, g, st, k, tg, ts, tk', ns, nn', a, b, r⟩ := t.pen p e
    exact ⟨vc, g, st, k, tg, ts, tk', ns, nn', hk _ _ a, b.mono hx fun b o _ e => hk b o e, r⟩
theorem Exp.newOwn (c : CxOK h0 n cx) {x : Str} {pos pos' p : Pos} (hx : Stores cx x) (ho : S₀.own = none) (h : ∀ l, ¬ cx.X l → K { vars := (x, .raw (.ref l)) :: S₀.vars, own := some (l, []), cnt := S₀.cnt })
    (hs : swapsWith (.List [] p) (some (.Name x pos')) pos.line cx.env = pure false := by rfl) : Exp prog cx E S₀ (.Assign [.Name x pos'] (.List [] p) pos) K R := fun s t => by
  refine wpAny_Assign_Name (hs := hs) (List_ (Calls.spliced_nil (wpAny_newObj_type ?_)))
  have hl := fresh_size s.heap
  have t₁ := t.own_new ho (tk := s.toks) (h' := s.heap.push (listOf ([] : List Value).toArray 0)) (fun b o e => Heap.get?_push_of_some _ e) hl (Heap.get?_push_size _ rfl)
  refine t₁.store c hx (.raw _) fun s' t' _ => .inl ⟨rfl, _, t', h s.heap.objs.size fun x => ?_⟩
  obtain ⟨o, e⟩ := t.live _ x
  rw [hl] at e; cases e

theorem St.own_push (t : St cx S₀ s) {l : Addr} {ds : List D} {d : D} {v : Value} (ho : S₀.own = some (l, ds)) (c : CxOK h0 n cx) (r : Rep (XX cx.X S₀.own) s.heap v d)
    {h' : Heap} (hs : Heap.SameBut l s.heap h') (he : ∀ vs n, s.heap.get? l = some (listOf vs n) → ∃ m, h'.get? l = some (listOf (vs.push v) m)) : St cx { S₀ with own := some (l, ds ++ [d]) } { s with heap := h' } := by
  obtain ⟨h₁, tk₁, e₁⟩ := t.rest
  obtain ⟨lC, lp, vs, nn, e0, r0⟩ := t.own l ds ho
  have hXX : XX cx.X (some (l, ds ++ [d])) = XX cx.X S₀.own := by rw [ho]; exact XX_own
  have hx : ∀ b o, ¬ XX cx.X S₀.own b → s.heap.get? b = some o → h'.get? b = some o := fun b o nx e => hs.extBut b o (fun q => nx (.inr ⟨ds, q ▸ ho⟩)) e
  have hcell : ∀ c v, s.heap.IsCell c v → h'.IsCell c v := fun c v q => q.sameBut hs (IsCell.ne_list q e0)
  obtain ⟨m, hn, hv⟩ := t.ns
  obtain ⟨m', he'⟩ := he _ _ e0
  refine ⟨⟨h', tk₁, by rw [e₁]⟩, fun b o e => hs.extBut b o (fun q => ?_) (t.keep b o e), fun a x => ?_, ⟨m, hn.at' fun o q => hs.extBut _ o (Ns.ne_list hn e0) q, fun x d' e => ?_⟩, fun o x c h1 h2 => ?_, fun l' es e => ?_, fun p e => ?_⟩
  · rw [q, lC] at e; cases e
  · by_cases q : a = l
    · subst q; exact ⟨_, he'⟩
    · obtain ⟨o, e⟩ := t.live a x; exact ⟨o, hs.extBut a o q e⟩
  · obtain ⟨u, a, r'⟩ := hv x d' e
    rw [show (XX cx.X ({ S₀ with own := some (l, ds ++ [d]) } : S).own) = XX cx.X S₀.own from hXX]
    exact ⟨u, a.keeps fun c q => hcell c _ q, r'.mono (fun _ y _ _ => y) hx⟩
  · obtain ⟨u, q⟩ := t.cells o x c h1 h2
    exact ⟨u, hcell _ _ q⟩
  · cases e
    rw [show (XX cx.X ({ S₀ with own := some (l, ds ++ [d]) } : S).own) = XX cx.X S₀.own from hXX]
    exact ⟨lC, lp, vs ++ [v], m', by simpa using he', (r0.mono (fun _ y _ _ => y) hx).append (.one (r.mono (fun _ y _ _ => y) hx))⟩
  · rw [show (XX cx.X ({ S₀ with own := some (l, ds ++ [d]) } : S).own) = XX cx.X S₀.own from hXX]
    obtain ⟨vc, g, st, k, tg, ts, tk', ns, nn', a, b, rr⟩ := t.pen p e
    exact ⟨vc, g, st, k, tg, ts, tk', ns, nn', hs.extBut p _ (fun q => lp (q ▸ e)) a, b.mono (fun _ y _ _ => y) hx, rr⟩
/-- x.append(e) -/
theorem Exp.append (c : CxOK h0 n cx) {x : Str} {e : PySem.Expr} {xp apos pos pos' : Pos} {l : Addr} {ds : List D} (hx : S₀.vars.lookup x = some (.raw (.ref l))) (ho : S₀.own = some (l, ds)) (hl : ds.length ≤ 999999)
    (h : Evp prog cx S₀ e fun d k => K { S₀ with cnt := k, own := some (l, ds ++ [d]) })
    (hbase : attributeBase (.Name x xp) "append" cx.env (eval (.Name x xp) cx.env) = eval (.Name x xp) cx.env := by rfl)
    (hline : (apos.endLine == pos.line) = true := by rfl) (hst : notStar e = true := by rfl) (hi : interactive cx.env = false := by rfl) (hs : swapsWith (.Call (.Attribute (.Name x xp) "append" apos) [e] [] pos) none pos'.line cx.env = pure false := by rfl)
    (hd : (x == ("__debug__" : Str)) = false := by decide) (hc : (x == ("__classdict__" : Str)) = false := by decide) :
    Exp prog cx E S₀ (.Expr (.Call (.Attribute (.Name x xp) "append" apos) [e] [] pos) pos') K R := fun s t => by
  have htr : backTo pos (starEach [e] cx.env) = [(false, eval e cx.env)] := by rw [starEach_cons e [] _ hst]; rfl
  refine wpAny_Expr_any (hi := hi) (hs := hs) (wpAny_Call_append hbase (by rw [htr]; rfl) hline htr ?_)
  have hname : Evp prog cx S₀ (.Name x xp) fun d k => d = .raw (.ref l) ∧ k = S₀.cnt := Evp.name c hx ⟨rfl, rfl⟩ hd hc
  refine wpAny_mono (hname s t) (fun v s₁ ⟨d, k, t₁, k₁, r, e1, e2⟩ => ?_) fun _ _ x => x.elim
  subst e1; subst e2
  cases r
  have t₁' : St cx S₀ s₁ := t₁
  obtain ⟨_, _, vs, nn, e0, _⟩ := t₁'.own l ds ho
  refine ⟨l, vs.toArray, rfl, ⟨_, nn, e0, rfl, rfl, rfl⟩, wpAny_mono (h s₁ t₁') (fun v s₂ ⟨d, k, t₂, k₂, r, q⟩ => ?_) fun _ _ x => x.elim⟩
  obtain ⟨_, _, vs', nn', e0', r0'⟩ := t₂.own l ds ho
  refine wpAny_list_append_plain (items := vs'.toArray) ⟨nn', e0'⟩ (fun h' hl' hs' => ?_) (by rw [List.size_toArray, r0'.length]; exact sizeLine_big (by omega))
  obtain ⟨m', hl'⟩ := hl'
  refine .inl ⟨rfl, _, t₂.own_push ho c r hs' (fun vs'' n'' e'' => ⟨m', ?_⟩), q⟩
  rw [e0'] at e''
  have : vs'.toArray = vs'' := by injection e'' with e''; injection e'' with _ _ e'' _; injection e''
  rw [← this]; exact hl'
/-- the list under way is ready -/
theorem Exps.freeze {x : Str} {sts : List Stmt} {l : Addr} {ds : List D} (ho : S₀.own = some (l, ds)) (hX : ¬ cx.X l) (hx : S₀.vars.lookup x = some (.raw (.ref l)))
    (h : Exps prog cx E { S₀ with vars := (x, .list ds) :: S₀.vars, own := none } sts K R) : Exps prog cx E S₀ sts K R := fun s t => h s (by
  obtain ⟨lC, lp, vs, nn, e0, r0⟩ := t.own l ds ho
  have hm : ∀ a, XX cx.X none a → ∀ o, s.heap.get? a = some o → XX cx.X S₀.own a := fun a x _ _ => x.elim .inl fun ⟨_, e⟩ => by cases e
  obtain ⟨m, hn, hv⟩ := t.ns
  refine ⟨t.rest, t.keep, t.live, ⟨m, hn, fun y d e => ?_⟩, t.cells, fun l ds e => (by cases e), fun p e => ?_⟩
  · change ((x, D.list ds) :: S₀.vars).lookup y = some d at e
    rw [lookup_cons] at e
    by_cases q : y = x
    · subst q
      rw [if_pos rfl] at e; cases e
      obtain ⟨v, a, r⟩ := hv y _ hx
      cases r
      exact ⟨.ref l, a, .list (n := nn) (fun x => by rcases x with x | ⟨_, e⟩; exact hX x; cases e) e0 (r0.mono hm fun _ _ _ e => e)⟩
    · rw [if_neg q] at e
      obtain ⟨v, a, r⟩ := hv y d e
      exact ⟨v, a, r.mono hm fun _ _ _ e => e⟩
  · obtain ⟨vc, g, st, k, tg, ts, tk', ns, nn', a, b, rr⟩ := t.pen p e
    exact ⟨vc, g, st, k, tg, ts, tk', ns, nn', a, b.mono hm fun _ _ _ e => e, rr⟩)
/-- a, b = e -/
theorem Exp.assignTup (c : CxOK h0 n cx) {elts : List PySem.Expr} {kk : Nat} {value : PySem.Expr} {tpos pos : Pos} (h : Evp prog cx S₀ value fun d k => Asg prog cx { S₀ with cnt := k } (.Tuple elts kk tpos) d K)
    (hs : swapsWithSole [.Tuple elts kk tpos] value pos.line cx.env = pure false := by rfl) (hw : swappedStores [.Tuple elts kk tpos] value cx.env = pure none := by rfl) : Exp prog cx E S₀ (.Assign [.Tuple elts kk tpos] value pos) K R := fun s t => by
  refine PyProof.Rows.Assign_Tuple (hs := hs) (hw := hw) (wpAny_mono (h s t) (fun v s₁ ⟨d, k, t₁, k₁, r, q⟩ => ?_) fun _ _ x => x.elim)
  exact wpAny_mono (q s₁ v t₁ r) (fun _ s₂ ⟨S', t', k'⟩ => .inl ⟨rfl, S', t', k'⟩) fun _ _ x => x.elim
end
end Mine
end

section
set_option linter.unusedVariables false
open PySem PySem.W PyProof.Rows
set_option maxRecDepth 100000
namespace Mine

/-- things as data -/
structure Enc (α : Type) where
  enc : α → D
  dec : D → α
  ok : ∀ x, dec (enc x) = x
noncomputable def encI : Enc Int := ⟨.int, fun d => match d with | .int i => i | _ => 0, fun _ => rfl⟩
noncomputable def encII : Enc (Int × Int) := ⟨fun p => .tup [.int p.1, .int p.2], fun d => match d with | .tup [.int a, .int b] => (a, b) | _ => (0, 0), fun _ => rfl⟩
theorem filterMap_dec {α : Type} (E : Enc α) (g : α → Option D) (xs : List α) : (xs.map E.enc).filterMap (fun d => g (E.dec d)) = xs.filterMap g := by
  rw [List.filterMap_map]
  congr 1
  funext x
  show g (E.dec (E.enc x)) = g x
  rw [E.ok]

theorem filterMap_if {α : Type} (pr : α → Bool) (g : α → D) (xs : List α) : xs.filterMap (fun y => if pr y = true then some (g y) else none) = (xs.filter pr).map g := by
  induction xs with
  | nil => rfl
  | cons y ys ih =>
    rw [List.filterMap_cons, List.filter_cons]
    by_cases z : pr y = true
    · rw [if_pos z, if_pos z, List.map_cons, ih]
    · rw [if_neg z, if_neg z, ih]

section
variable {prog : Program} {h0 : Heap} {cx : Cx} {n : Nat} {S₀ : S} {α : Type}
/-- a comprehension's result -/
def CompRes (prog : Program) (h0 : Heap) (n : Nat) (cx : Cx) (S₀ : S) (target iter elt : PySem.Expr) (ifs : List PySem.Expr) (scope : Scope) (Q : D → Nat → Prop) : Prop :=
  Itr prog cx S₀ target iter (CoQ prog h0 n cx S₀ target elt ifs scope Q)
inductive C0Q (prog : Program) (h0 : Heap) (n : Nat) (cx : Cx) (S₀ : S) (E : Enc α) (x : Str) (elt : PySem.Expr) (scope : Scope) (Q : D → Nat → Prop) (ds : List D) (k : Nat) : Prop
  | mk (xs : List α) (g : α → D) (e : ds = xs.map E.enc) (l : xs.length ≤ 1000000)
    (c : ∀ cl Lc s₀ C X, CxOK h0 n (compCx cx scope cl Lc s₀ C X) → ∀ y, y ∈ xs → ∀ k, Evp prog (compCx cx scope cl Lc s₀ C X) { stored (compS S₀ scope) x (E.enc y) with cnt := k } elt fun r _ => r = g y) (q : Q (.list (xs.map g)) k) : C0Q prog h0 n cx S₀ E x elt scope Q ds k
inductive C1Q (prog : Program) (h0 : Heap) (n : Nat) (cx : Cx) (S₀ : S) (E : Enc α) (x : Str) (elt t : PySem.Expr) (scope : Scope) (Q : D → Nat → Prop) (ds : List D) (k : Nat) : Prop
  | mk (xs : List α) (pr : α → Bool) (g : α → D) (e : ds = xs.map E.enc) (l : xs.length ≤ 1000000)
    (c1 : ∀ cl Lc s₀ C X, CxOK h0 n (compCx cx scope cl Lc s₀ C X) → ∀ y, y ∈ xs → Tst prog (compCx cx scope cl Lc s₀ C X) (stored (compS S₀ scope) x (E.enc y)) t fun b _ => b = pr y)
    (c : ∀ cl Lc s₀ C X, CxOK h0 n (compCx cx scope cl Lc s₀ C X) → ∀ y, y ∈ xs → pr y = true → ∀ k, Evp prog (compCx cx scope cl Lc s₀ C X) { stored (compS S₀ scope) x (E.enc y) with cnt := k } elt fun r _ => r = g y)
    (q : Q (.list ((xs.filter pr).map g)) k) : C1Q prog h0 n cx S₀ E x elt t scope Q ds k
inductive C0P (prog : Program) (h0 : Heap) (n : Nat) (cx : Cx) (S₀ : S) (E : Enc α) (x y : Str) (elt : PySem.Expr) (scope : Scope) (Q : D → Nat → Prop) (ds : List D) (k : Nat) : Prop
  | mk (xs : List α) (g : α → D) (e : ds = xs.map E.enc) (l : xs.length ≤ 1000000)
    (c : ∀ cl Lc s₀ C X, CxOK h0 n (compCx cx scope cl Lc s₀ C X) → ∀ z, z ∈ xs → ∃ a b, E.enc z = .tup [a, b] ∧ ∀ k, Evp prog (compCx cx scope cl Lc s₀ C X) { stored (stored (compS S₀ scope) x a) y b with cnt := k } elt fun r _ => r = g z)
    (q : Q (.list (xs.map g)) k) : C0P prog h0 n cx S₀ E x y elt scope Q ds k
/-- [elt for x in xs] -/
theorem CompRes.c0 (E : Enc α) {elt iter : PySem.Expr} {x : Str} {p : Pos} {scope : Scope} {Q : D → Nat → Prop}
    (h : Itr prog cx S₀ (.Name x p) iter (C0Q prog h0 n cx S₀ E x elt scope Q))
    (hx : (relabel scope cx.env).names.lookup x = some .local := by rfl) (hn : (compS S₀ scope).vars.lookup x = none := by rfl) :
    CompRes prog h0 n cx S₀ (.Name x p) iter elt [] scope Q := by
  refine h.mono fun ds k ⟨xs, g, e1, hl, hcl, q⟩ => ?_
  subst e1
  refine ⟨fun d => some (g (E.dec d)), by simpa using hl, clause_name hx hn fun cl Lc s₀ C X c' d hd => ?_, ?_⟩
  · obtain ⟨y, hy, rfl⟩ := List.mem_map.mp hd
    unfold Tsts
    dsimp only
    rw [if_pos rfl]
    intro k'
    refine (hcl cl Lc s₀ C X c' y hy k').mono fun r _ e => ?_
    rw [e, E.ok]
  · have : (xs.map E.enc).filterMap (fun d => some (g (E.dec d))) = xs.map g := by
      rw [filterMap_dec E (fun y => some (g y))]
      simp
    rw [this]; exact q

/-- [elt for x in xs] -/
theorem Evp.comp0 (E : Enc α) (c : CxOK h0 n cx) {elt iter : PySem.Expr} {x : Str} {p : Pos} {scope : Scope} {pos : Pos} {Q : D → Nat → Prop}
    (h : Itr prog cx S₀ (.Name x p) iter (C0Q prog h0 n cx S₀ E x elt scope Q))
    (hx : (relabel scope cx.env).names.lookup x = some .local := by rfl) (hn : (compS S₀ scope).vars.lookup x = none := by rfl)
    (hf : freeOK scope cx.env = true := by rfl) (hcell : ∀ y ∈ scope.names, y.2 ≠ .cell := by decide) (hkind : scope.kind = .function := by rfl)
    (hnames : ∀ x ∈ scope.names, x.2 = .local → scope.names.lookup x.1 = some .local := by decide) (hs : ∀ x, foldedSetIterable iter cx.env x = pure x := by intro _; rfl) :
    Evp prog cx S₀ (.ListComp elt [⟨.Name x p, iter, [], 0⟩] scope pos) Q := Evp.comp c (CompRes.c0 E h hx hn) hf hcell hkind hnames hs

/-- [elt for x in xs if t] -/
theorem CompRes.c1 (E : Enc α) {elt iter t : PySem.Expr} {x : Str} {p : Pos} {scope : Scope} {Q : D → Nat → Prop}
    (h : Itr prog cx S₀ (.Name x p) iter (C1Q prog h0 n cx S₀ E x elt t scope Q))
    (hx : (relabel scope cx.env).names.lookup x = some .local := by rfl) (hn : (compS S₀ scope).vars.lookup x = none := by rfl) :
    CompRes prog h0 n cx S₀ (.Name x p) iter elt [t] scope Q := by
  refine h.mono fun ds k ⟨xs, pr, g, e1, hl, hct, hcl, q⟩ => ?_
  subst e1
  refine ⟨fun d => if pr (E.dec d) = true then some (g (E.dec d)) else none, by simpa using hl, clause_name hx hn fun cl Lc s₀ C X c' d hd => ?_, ?_⟩
  · obtain ⟨y, hy, rfl⟩ := List.mem_map.mp hd
    refine (hct cl Lc s₀ C X c' y hy).mono fun b _ e => ?_
    subst e
    by_cases q : pr y = true
    · rw [if_pos q]
      intro k'
      refine (hcl cl Lc s₀ C X c' y hy q k').mono fun r _ e => ?_
      rw [e, E.ok, if_pos q]
    · rw [if_neg q, E.ok, if_neg q]
  · have : (xs.map E.enc).filterMap (fun d => if pr (E.dec d) = true then some (g (E.dec d)) else none) = (xs.filter pr).map g := by
      rw [filterMap_dec E (fun y => if pr y = true then some (g y) else none), filterMap_if]
    rw [this]; exact q

/-- [elt for x in xs if t] -/
theorem Evp.comp1 (E : Enc α) (c : CxOK h0 n cx) {elt iter t : PySem.Expr} {x : Str} {p : Pos} {scope : Scope} {pos : Pos} {Q : D → Nat → Prop}
    (h : Itr prog cx S₀ (.Name x p) iter (C1Q prog h0 n cx S₀ E x elt t scope Q))
    (hx : (relabel scope cx.env).names.lookup x = some .local := by rfl) (hn : (compS S₀ scope).vars.lookup x = none := by rfl)
    (hf : freeOK scope cx.env = true := by rfl) (hcell : ∀ y ∈ scope.names, y.2 ≠ .cell := by decide) (hkind : scope.kind = .function := by rfl)
    (hnames : ∀ x ∈ scope.names, x.2 = .local → scope.names.lookup x.1 = some .local := by decide) (hs : ∀ x, foldedSetIterable iter cx.env x = pure x := by intro _; rfl) :
    Evp prog cx S₀ (.ListComp elt [⟨.Name x p, iter, [t], 0⟩] scope pos) Q := Evp.comp c (CompRes.c1 E h hx hn) hf hcell hkind hnames hs

/-- [elt for a, b in xs] -/
theorem CompRes.c0P (E : Enc α) {elt iter : PySem.Expr} {x y : Str} {p px py : Pos} {kk : Nat} {scope : Scope} {Q : D → Nat → Prop}
    (h : Itr prog cx S₀ (.Tuple [.Name x px, .Name y py] kk p) iter (C0P prog h0 n cx S₀ E x y elt scope Q))
    (hx : (relabel scope cx.env).names.lookup x = some .local := by rfl) (hy : (relabel scope cx.env).names.lookup y = some .local := by rfl) (hn : (compS S₀ scope).vars.lookup x = none := by rfl) (hm : (compS S₀ scope).vars.lookup y = none := by rfl) :
    CompRes prog h0 n cx S₀ (.Tuple [.Name x px, .Name y py] kk p) iter elt [] scope Q := by
  refine h.mono fun ds k ⟨xs, g, e1, hl, hcl, q⟩ => ?_
  subst e1
  refine ⟨fun d => some (g (E.dec d)), by simpa using hl, clause_pair hx hy hn hm fun cl Lc s₀ C X c' d hd => ?_, ?_⟩
  · obtain ⟨z, hz, rfl⟩ := List.mem_map.mp hd
    obtain ⟨a, b, e, hq⟩ := hcl cl Lc s₀ C X c' z hz
    refine ⟨a, b, e, ?_⟩
    unfold Tsts
    dsimp only
    rw [if_pos rfl]
    intro k'
    refine (hq k').mono fun r _ e' => ?_
    rw [e', E.ok]
  · have : (xs.map E.enc).filterMap (fun d => some (g (E.dec d))) = xs.map g := by
      rw [filterMap_dec E (fun y => some (g y))]
      simp
    rw [this]; exact q

/-- [elt for a, b in xs] -/
theorem Evp.comp0P (E : Enc α) (c : CxOK h0 n cx) {elt iter : PySem.Expr} {x y : Str} {p px py : Pos} {kk : Nat} {scope : Scope} {pos : Pos} {Q : D → Nat → Prop}
    (h : Itr prog cx S₀ (.Tuple [.Name x px, .Name y py] kk p) iter (C0P prog h0 n cx S₀ E x y elt scope Q))
    (hx : (relabel scope cx.env).names.lookup x = some .local := by rfl) (hy : (relabel scope cx.env).names.lookup y = some .local := by rfl) (hn : (compS S₀ scope).vars.lookup x = none := by rfl) (hm : (compS S₀ scope).vars.lookup y = none := by rfl)
    (hf : freeOK scope cx.env = true := by rfl) (hcell : ∀ y ∈ scope.names, y.2 ≠ .cell := by decide) (hkind : scope.kind = .function := by rfl)
    (hnames : ∀ x ∈ scope.names, x.2 = .local → scope.names.lookup x.1 = some .local := by decide) (hs : ∀ x, foldedSetIterable iter cx.env x = pure x := by intro _; rfl) :
    Evp prog cx S₀ (.ListComp elt [⟨.Tuple [.Name x px, .Name y py] kk p, iter, [], 0⟩] scope pos) Q := Evp.comp c (CompRes.c0P E h hx hy hn hm) hf hcell hkind hnames hs
theorem St.unwrX {s : Shared} {wr : Addr → Prop} {Lc : Addr} (c : CxOK h0 n cx) (t : St (addX cx wr) S₀ s) {h' : Heap} {tk : Nat} (hk : ∀ b o, ¬ wr b → s.heap.get? b = some o → h'.get? b = some o) (hw : ∀ a, wr a → ¬ XX cx.X S₀.own a) (hC : ∀ a, wr a → cx.C a = none)
    (hL : s.heap.get? Lc = none) (hL' : ∃ o, h'.get? Lc = some o) : St (addX cx (fun a => a = Lc)) S₀ { s with heap := h', toks := tk } := by
  obtain ⟨h, tk', e0⟩ := t.rest
  have hx0 : ∀ a, XX cx.X S₀.own a → ∀ o, s.heap.get? a = some o → XX (addX cx wr).X S₀.own a := fun a x _ _ => x.elim (fun x => .inl (.inl x)) .inr
  have hx1 : ∀ a, XX (addX cx (fun a => a = Lc)).X S₀.own a → ∀ o, s.heap.get? a = some o → XX (addX cx wr).X S₀.own a := fun a x o e => by
    rcases x with (x | x) | x
    · exact .inl (.inl x)
    · have x : a = Lc := x
      subst x; rw [hL] at e; cases e
    · exact .inr x
  have hx : ∀ b o, ¬ XX (addX cx wr).X S₀.own b → s.heap.get? b = some o → h'.get? b = some o := fun b o nx e => hk b o (fun q => nx (.inl (.inr q))) e
  have hXw : ∀ a, cx.X a → ¬ wr a := fun a x q => hw a q (.inl x)
  obtain ⟨m, hn, hv⟩ := t.ns
  have hcell : ∀ x a v, cx.env.cells.lookup x = some a → s.heap.IsCell a v → h'.IsCell a v := fun x a v e ⟨o, ho, hd⟩ => ⟨o, hk a o (hXw a (c.cellsX x a e)) ho, hd⟩
  refine ⟨⟨h', tk, by rw [e0]; rfl⟩, fun b o e => hk b o (fun q => ?_) (t.keep b o e), fun a x => ?_, ⟨m, hn.at' fun o e => hk _ o (hXw _ c.LX) e, fun x d e => ?_⟩, fun ho x a h1 h2 => ?_, fun l ds e => ?_, fun p e => ?_⟩
  · have := hC b q
    rw [show cx.C b = some o from e] at this; cases this
  · rcases x with x | x
    · obtain ⟨o, e⟩ := t.live a (.inl x); exact ⟨o, hk a o (hXw a x) e⟩
    · have x : a = Lc := x
      subst x; exact hL'
  · obtain ⟨v, a, r⟩ := hv x d e
    refine ⟨v, ?_, r.mono hx1 hx⟩
    rcases a with a | ⟨a, cc, e1, e2⟩
    · exact .inl a
    · exact .inr ⟨a, cc, e1, hcell x cc _ e1 e2⟩
  · obtain ⟨v, q⟩ := t.cells ho x a h1 h2
    exact ⟨v, hcell x a v h2 q⟩
  · obtain ⟨a, b, vs, nn, q, r⟩ := t.own l ds e
    exact ⟨a, b, vs, nn, hk l _ (fun q => hw l q (.inr ⟨ds, e⟩)) q, r.mono hx1 hx⟩
  · obtain ⟨vc, g, st, k, tg, ts, tk, ns, nn, a, b, r⟩ := t.pen p e
    exact ⟨vc, g, st, k, tg, ts, tk, ns, nn, hk p _ (hXw p (c.penX p e).1) a, b.mono hx1 hx, r⟩
open Classical in
noncomputable def withC (C : Addr → Option Obj) (Lc : Addr) (o : Option Obj) : Addr → Option Obj := fun b => if b = Lc then o else C b
theorem withC_ne {C : Addr → Option Obj} {Lc b : Addr} {o : Option Obj} (h : b ≠ Lc) : withC C Lc o b = C b := if_neg h
theorem withC_self {C : Addr → Option Obj} {Lc : Addr} {o : Option Obj} : withC C Lc o Lc = o := if_pos rfl
theorem Exp.assignComp (c : CxOK h0 n cx) {elt target iter : PySem.Expr} {ifs : List PySem.Expr} {scope : Scope} {pos pos' spos : Pos} {x : Str} {Kk : S → Prop} {R : D → S → Prop} {E' : Value → Shared → Prop}
    (h : CompRes prog h0 n cx S₀ target iter elt ifs scope fun d k => Kk (stored { S₀ with cnt := k } x d)) (hx : Stores cx x)
    (hsw : swapsWith (.ListComp elt [⟨target, iter, ifs, 0⟩] scope pos) (some (.Name x pos')) spos.line cx.env = pure true := by rfl)
    (hf : freeOK scope cx.env = true := by rfl) (hcell : ∀ y ∈ scope.names, y.2 ≠ .cell := by decide) (hkind : scope.kind = .function := by rfl)
    (hnames : ∀ x ∈ scope.names, x.2 = .local → scope.names.lookup x.1 = some .local := by decide) (hs : ∀ x, foldedSetIterable iter cx.env x = pure x := by intro _; rfl) :
    Exp prog cx E' S₀ (.Assign [.Name x pos'] (.ListComp elt [⟨target, iter, ifs, 0⟩] scope pos) spos) Kk R := fun s t => by
  have hfree : ∀ x ∈ scope.names, x.2 = .free → (cx.env.cells.lookup x.1).isSome = true := fun x hx e => by
    have := List.all_eq_true.mp hf x hx
    simp only [e, bne_self_eq_false, Bool.false_or, Bool.and_eq_true] at this
    exact this.1.2
  obtain ⟨cl, hclos, hcl, hcl2⟩ := closureFor_ok hfree
  rw [exec_Assign_Name_used _ _ _ _ hsw]
  refine wpAny_bind (wpAny_standAt (wpAny_bind ?_))
  show wpAny _ _ (do let _ ← comprehension (.ListComp elt [⟨target, iter, ifs, 0⟩] scope pos) scope cx.env _ (newList []) false (eval iter cx.env) (some (PySem.assign (.Name x pos') cx.env))) _ _ s
  refine wpAny_bind (wpAny_mono (wpAny_comprehension_free (use := some (PySem.assign (.Name x pos') cx.env)) (Q := fun _ s' => Post cx Kk R .next s') rfl hs hclos hkind hnames
    (wpAny_mono (h s t) (fun xv s₁ h₁ => wpAny_mono h₁ (fun it s₂ ⟨ds, k, I, wr, e, t₂, k₂, W, hC, hf', f, hl, hcla, q⟩ => ?_) fun _ _ x => x.elim) fun _ _ x => x.elim)) (fun _ s' hq => wpAny_pure (wpAny_pure hq)) fun _ _ e => e)
  subst e
  obtain ⟨J, M, W0, hJ0⟩ := W (fun _ => False) (fun _ x => x.elim)
  refine comp_block (es := ds.filterMap f) c t₂ hC hkind hcell hf hcl hcl2 (W0.liveJ _ _ hJ0) W (comp_one c hl hcla) (RR := fun acc C => compPost (model prog cx.w) cx.A _ (some (PySem.assign (.Name x pos') cx.env)) (fun _ s' => Post cx Kk R .next s') acc C) fun Dd Lc h' tk m' hD hL hDL hn ac kp => ?_
  have hw : ∀ a, wr a → ¬ XX cx.X S₀.own a := fun a q x => W0.wrX a q (.inl x)
  obtain ⟨ys, mm, e1, r1⟩ := ac
  obtain ⟨oL, es, ep, eL, dL, nL⟩ := hn
  show wpAny _ _ (PySem.assign (.Name x pos') cx.env (.ref Dd)) _ _ _
  have t₃ := t₂.unwrX (tk := tk) c kp hw hC hL ⟨oL, eL⟩
  have hne : ∀ b o, cx.C b = some o → b ≠ Lc := fun b o e z => by
    subst z
    have := t₂.keep _ o e
    rw [hL] at this; cases this
  have hXL : ∀ a, cx.X a → a ≠ Lc := fun a e z => by
    subst z
    obtain ⟨o, e⟩ := t₂.live _ (.inl e)
    rw [hL] at e; cases e
  have t₄ := t₃.setC (C' := withC cx.C Lc (some oL)) (fun b o e => by
    by_cases z : b = Lc
    · subst z; rw [withC_self] at e; cases e; exact eL
    · rw [withC_ne z] at e; exact t₃.keep b o e) (fun l dl e => by
      obtain ⟨z1, _, vs, nn, z2, _⟩ := t₂.own l dl e
      rw [withC_ne (fun z => by subst z; rw [hL] at z2; cases z2)]; exact z1)
  have c4 : CxOK h0 n { addX cx (fun a => a = Lc) with C := withC cx.C Lc (some oL) } := c.loop (fun b o e => by rw [withC_ne (hne b o e)]; exact e) (fun a x e => by rw [withC_ne (hXL a x)]; exact e)
  have rD : Rep (XX (addX cx (fun a => a = Lc)).X S₀.own) h' (.ref Dd) (.list (ds.filterMap f)) := by
    rw [show (addX cx (fun a => a = Lc)).X = fun a => cx.X a ∨ a = Lc from rfl, XX_add]
    refine .list (fun y => ?_) e1 (r1.mono (fun a y _ _ => ?_) fun b o nx e => e)
    · rcases y with y | y
      · obtain ⟨o, e⟩ := t₂.liveXX Dd (y.elim (fun x => .inl (.inl x)) .inr)
        rw [hD] at e; cases e
      · exact hDL y
    · rcases y with y | y
      · exact .inl y
      · exact .inr (.inr y)
  refine wpAny_assign_Name (t₄.store c4 hx rD fun s' t' _ => ?_)
  have eL' := t'.keep Lc oL withC_self
  refine ⟨_, ⟨oL, es, ep, eL', dL, nL⟩, fun h'' hs'' => ?_⟩
  have t5 : St (addX cx (fun a => a = Lc)) (stored { S₀ with cnt := k } x (.list (ds.filterMap f))) s' := t'.shrink (cx := addX cx (fun a => a = Lc)) (fun b o e => by
    show withC cx.C Lc (some oL) b = some o
    rw [withC_ne (hne b o e)]; exact e) (fun _ x => x)
  have t6 := t5.unwr (h' := h'') (tk := s'.toks) c (fun b o nb e => hs''.extBut b o nb e) (fun a ha x => by
    have ha : a = Lc := ha
    subst ha
    obtain ⟨o, e⟩ := t₂.liveXX a (x.elim (fun x => .inl (.inl x)) .inr)
    rw [hL] at e; cases e) (fun a ha => by
    have ha : a = Lc := ha
    subst ha
    exact C_none t₂ hL)
  exact .inl ⟨rfl, _, t6, q⟩
end


theorem Sub.of {S' S₀ : S} (h1 : S'.own = S₀.own) (h2 : S'.cnt = S₀.cnt) (h3 : ∀ p ∈ S'.vars, S₀.vars.lookup p.1 = some p.2) : Sub S' S₀ := by
  refine ⟨h1, h2, fun x d e => h3 (x, d) ?_⟩
  exact mem_of_lookup_some e
theorem kLoc {names : List (Str × NameKind)} {xs : List Str} (h : (xs.all fun x => names.lookup x == some NameKind.local) = true) (n : Nat) (x : Str) (hx : x ∈ xs) :
    names.lookup x = some .local ∨ (names.lookup x = some .cell ∧ ((cellsFrom n names []).lookup x).isSome = true) := .inl (by simpa using List.all_eq_true.mp h x hx)
theorem kAll {names : List (Str × NameKind)} {xs : List Str} (n : Nat) (h : (xs.all fun x => names.lookup x == some NameKind.local || (names.lookup x == some NameKind.cell && ((cellsFrom n names []).lookup x).isSome)) = true) (x : Str) (hx : x ∈ xs) :
    names.lookup x = some .local ∨ (names.lookup x = some .cell ∧ ((cellsFrom n names []).lookup x).isSome = true) := by
  have := List.all_eq_true.mp h x hx
  simpa using this
theorem lkNil {m : List (Str × D)} : ∀ p ∈ ([] : List (Str × D)), m.lookup p.1 = some p.2 := fun _ h => (List.not_mem_nil h).elim
theorem lkCons {m r : List (Str × D)} {x : Str} {d : D} (h : m.lookup x = some d) (t : ∀ p ∈ r, m.lookup p.1 = some p.2) : ∀ p ∈ (x, d) :: r, m.lookup p.1 = some p.2 := fun p hp => by
  rcases List.mem_cons.mp hp with e | e
  · subst e; exact h
  · exact t p e
theorem Sub.refl (S₀ : S) : Sub S₀ S₀ := ⟨rfl, rfl, fun _ _ e => e⟩

section
variable {prog : Program} {h0 : Heap} {cx : Cx} {n : Nat} {S₀ : S} {α : Type} {K : S → Prop} {R : D → S → Prop} {E' : Value → Shared → Prop}
inductive ForCQ (prog : Program) (h0 : Heap) (n : Nat) (cx : Cx) (S₀ : S) (E : Enc α) (target : PySem.Expr) (body : List Stmt) (K : S → Prop) (R : D → S → Prop) (ds : List D) (k : Nat) : Prop
  | mk (xs : List α) (canon : Nat → S) (e : ds = xs.map E.enc) (hX : ∀ i, XX cx.X (canon i).own = XX cx.X S₀.own) (h0' : Sub (canon 0) { S₀ with cnt := k })
    (turn : ∀ C' X', CxOK h0 n (cx.at C' X') → ∀ i y, xs[i]? = some y → Asg prog (cx.at C' X') (canon i) target (E.enc y) fun S' => Exps prog (cx.at C' X') (fun _ _ => False) S' body (fun S₂ => Sub (canon (i + 1)) S₂) R)
    (fin : ∀ S', Sub (canon xs.length) S' → K S') : ForCQ prog h0 n cx S₀ E target body K R ds k
/-- for, over canonical states -/
theorem Exp.forC (E : Enc α) (c : CxOK h0 n cx) {target iter : PySem.Expr} {body : List Stmt} {pos : Pos}
    (h : Itr prog cx S₀ target iter (ForCQ prog h0 n cx S₀ E target body K R))
    (hs : ∀ x, foldedSetIterable iter cx.env x = pure x := by intro _; rfl) : Exp prog cx E' S₀ (.For target iter body [] pos) K R := by
  refine Exp.for_ c (h.mono fun ds k ⟨xs, canon, e1, hX, h0', turn, fin⟩ => ?_) hs
  subst e1
  refine ⟨fun i S' => Sub (canon i) S', fun i S' hS => ?_, h0', fun cx' hT c' i d S' hd hS => ?_, fun S' hS => fin S' (by simpa using hS)⟩
  · rw [← hS.1]; exact hX i
  · obtain ⟨C', X', rfl⟩ := hT
    rw [List.getElem?_map] at hd
    obtain ⟨y, hy, rfl⟩ := Option.map_eq_some_iff.mp hd
    intro s v t r
    have t' := t.sub hS
    exact turn C' X' c' i y hy s v t' (by
      have e : (canon i).own = S'.own := hS.1
      rw [e]; exact r)
end
end Mine
end

section
set_option linter.unusedVariables false
open PySem PySem.W PyProof.Rows
set_option maxRecDepth 100000
namespace Mine

-- the text's statements, by their places
noncomputable def topS : List Stmt := PySem.Challenge.pw_nu0153_01.main.body
noncomputable def stAt : List Stmt → Nat → Stmt
  | [], _ => .Pass ⟨0, 0, 0, 0⟩
  | s :: _, 0 => s
  | _ :: r, n + 1 => stAt r n
noncomputable def bodyOf : Stmt → List Stmt
  | .FunctionDef _ _ b _ _ _ _ _ _ _ => b
  | .ClassDef _ _ _ b .. => b
  | _ => []
noncomputable def argsOf : Stmt → Arguments
  | .FunctionDef _ a _ _ _ _ _ _ _ _ => a
  | _ => { posonlyargs := [], args := [], vararg := none, kwonlyargs := [], kw_defaults := [], kwarg := none, defaults := [] }
noncomputable def scopeOf : Stmt → Scope
  | .FunctionDef _ _ _ _ _ _ s _ _ _ => s
  | _ => { kind := .function, names := [], isGenerator := false, isCoroutine := false, more := [] }
noncomputable def nameOf : Stmt → Str
  | .FunctionDef n _ _ _ _ _ _ _ _ _ => n
  | .ClassDef n .. => n
  | _ => ""

/-- the top binds the def st at the address a -/
structure FnAt (K : Frag) (a : Addr) (st : Stmt) : Prop where
  rec_ : ∃ oc od osl doc pm cdv ct an, K.lookup a = some ⟨oc, od, .func (fnOf (nameOf st) (nameOf st) (argsOf st) (bodyOf st) (scopeOf st) .none .none doc pm an cdv ct), osl⟩ ∧ codeIn K cdv (nameOf st) = true
  glob : nsIn K mainGlobals (nameOf st) = some (some (.ref a))
  keep : keepIn K (.ref a) = true

noncomputable def builtinNames : List Str := ["sorted", "set", "max", "min", "list", "zip", "len", "tuple", "sum", "range", "int", "abs", "str"]
structure Gl (K : Frag) : Prop where
  bl : ∀ x ∈ builtinNames, nsIn K mainGlobals x = some none
  CLUSTER : ∃ t, nsIn K mainGlobals "CLUSTER" = some (some (.int 1 t))
  X_ADVANCE : ∃ t, nsIn K mainGlobals "X_ADVANCE" = some (some (.int 2 t))
  UNSAFE : ∃ t, nsIn K mainGlobals "UNSAFE" = some (some (.int 6 t))

theorem boot_set : bootBuiltins "set" = some (.type "set") := by decide +kernel
theorem boot_list : bootBuiltins "list" = some (.type "list") := by decide +kernel
theorem boot_zip : bootBuiltins "zip" = some (.type "zip") := by decide +kernel
theorem boot_len' : bootBuiltins "len" = some (.builtin "len") := by decide +kernel
theorem boot_tuple : bootBuiltins "tuple" = some (.type "tuple") := by decide +kernel
theorem boot_range : bootBuiltins "range" = some (.type "range") := by decide +kernel
theorem boot_int : bootBuiltins "int" = some (.type "int") := by decide +kernel
theorem boot_abs : bootBuiltins "abs" = some (.builtin "abs") := by decide +kernel
theorem boot_str : bootBuiltins "str" = some (.type "str") := by decide +kernel
theorem boot_sorted' : bootBuiltins "sorted" = some (.builtin "sorted") := by decide +kernel
theorem boot_max' : bootBuiltins "max" = some (.builtin "max") := by decide +kernel
theorem boot_min' : bootBuiltins "min" = some (.builtin "min") := by decide +kernel
theorem boot_sum' : bootBuiltins "sum" = some (.builtin "sum") := by decide +kernel

-- a row, shaped rows as data
structure Row where
  a : Int
  cl : Int
  adv : Int
  p : Int
  q : Int
  r : Int
  us : Bool
noncomputable def Row.d (r : Row) : D := .tup [.int r.a, .int r.cl, .int r.adv, .int r.p, .int r.q, .int r.r, .bool r.us]
noncomputable abbrev rowsD (rs : List Row) : D := .list (rs.map Row.d)
noncomputable abbrev shapedD (C : Addr) (rs : List Row) (b : Bool) : D := .inst C [("rows", rowsD rs), ("is_backward", .bool b)]

noncomputable def rowOf : D → Row
  | .tup [.int a, .int cl, .int adv, .int p, .int q, .int r, .bool us] => ⟨a, cl, adv, p, q, r, us⟩
  | _ => ⟨0, 0, 0, 0, 0, 0, false⟩
noncomputable def encR : Enc Row := ⟨Row.d, rowOf, fun _ => rfl⟩
theorem nums_map {α : Type} (f : α → Int) (xs : List α) : xs.map (fun x => D.int (f x)) = nums (xs.map f) := by simp [nums]

section
variable {prog : Program} {h0 : Heap} {K : Frag} {cx : Cx} {n : Nat} {S₀ : S} {Q : D → Nat → Prop}
theorem Evp.CLUSTER (c : CxOK h0 n cx) (B : Top0 K h0) (G : Gl K) {pos : Pos} (hq : Q (.int 1) S₀.cnt) (hx : cx.env.kindOf "CLUSTER" = some .globalImplicit := by rfl) : Evp prog cx S₀ (.Name "CLUSTER" pos) Q := by
  obtain ⟨t, e⟩ := G.CLUSTER
  exact Evp.glob c B e (fun _ _ => .int _ _) hq hx
theorem Evp.X_ADVANCE (c : CxOK h0 n cx) (B : Top0 K h0) (G : Gl K) {pos : Pos} (hq : Q (.int 2) S₀.cnt) (hx : cx.env.kindOf "X_ADVANCE" = some .globalImplicit := by rfl) : Evp prog cx S₀ (.Name "X_ADVANCE" pos) Q := by
  obtain ⟨t, e⟩ := G.X_ADVANCE
  exact Evp.glob c B e (fun _ _ => .int _ _) hq hx
theorem Evp.UNSAFE (c : CxOK h0 n cx) (B : Top0 K h0) (G : Gl K) {pos : Pos} (hq : Q (.int 6) S₀.cnt) (hx : cx.env.kindOf "UNSAFE" = some .globalImplicit := by rfl) : Evp prog cx S₀ (.Name "UNSAFE" pos) Q := by
  obtain ⟨t, e⟩ := G.UNSAFE
  exact Evp.glob c B e (fun _ _ => .int _ _) hq hx
end

section
variable {prog : Program} {h0 : Heap} {K : Frag} {n : Nat}
theorem F_clusters_in (B : Top0 K h0) (G : Gl K) {a Cs : Addr} (F : FnAt K a (stAt topS 12)) (hC : AttrOK K Cs "rows") (rs : List Row) (b : Bool) (hl : rs.length ≤ 17) (hs : ∀ r ∈ rs, Small r.cl) :
    FnOK prog h0 (n + 1) a [shapedD Cs rs b] (.list (nums (ssort (rs.map (·.cl))))) := by
  obtain ⟨oc, od, osl, doc, pm, cdv, ct, an, ho, hcd⟩ := F.rec_
  refine FnOK.of B ["shaped"] ho hcd (fun args h => ?_) (fun n x hx => ?_) (by decide) rfl (fun w A L s0 C X c => ?_) rfl rfl rfl
  · obtain ⟨a, rfl⟩ := len1 h
    rfl
  · exact kLoc rfl n x hx
  · refine Exps.cons (Exp.ret c (Evp.sortedSet c B (G.bl "sorted" (by decide)) boot_sorted' (by decide) (G.bl "set" (by decide)) boot_set (by decide) ?_ rfl rfl))
    refine Evp.comp0 encR c (Itr.list c (Evp.attr c B (Evp.name c rfl ⟨Cs, _, rowsD rs, rfl, rfl, rfl, hC, _, rfl, rs, fun r => .int r.cl, rfl, by omega, fun cl Lc s₀ C X c' y hy k => ?_, _, congrArg D.list (nums_map _ rs), by simpa using hl, ?_, rfl⟩)))
    · exact Evp.itemT c' (Evp.name c' rfl (Evp.CLUSTER c' B G ⟨_, 1, 1, _, rfl, rfl, by decide, by decide, rfl, rfl, rfl⟩))
    · intro x hx
      obtain ⟨r, hr, rfl⟩ := List.mem_map.mp hx
      exact hs r hr
end
end Mine
end

section
set_option linter.unusedVariables false
open PySem PySem.W PyProof.Rows
set_option maxRecDepth 100000
namespace Mine

noncomputable def cmpI : CmpOp → Int → Int → Bool
  | .Lt, i, j => decide (i < j)
  | .LtE, i, j => decide (i ≤ j)
  | .Gt, i, j => decide (i > j)
  | .GtE, i, j => decide (i ≥ j)
  | .Eq, i, j => i == j
  | .NotEq, i, j => !(i == j)
  | _, _, _ => false
noncomputable def isCmpI : CmpOp → Bool
  | .Lt | .LtE | .Gt | .GtE | .Eq => true
  | _ => false
section
variable {prog : Program} {h0 : Heap} {K : Frag} {cx : Cx} {n : Nat} {S₀ : S} {α : Type} {w : World} {A : Around}
theorem op_cmpI {op : CmpOp} (h : isCmpI op = true) {i j : Int} : Op2 prog h0 w A (compareOp op) (.int i) (.int j) (.bool (cmpI op i j)) := by
  cases op <;> first | exact op_lt | exact op_le | exact op_gt | exact op_ge | exact op_eqi | cases h
inductive IntQ (a : D) (P : Int → Prop) : Prop
  | mk (i : Int) (e : a = .int i) (p : P i) : IntQ a P
inductive IntsQ (a : D) (P : List Int → Prop) : Prop
  | mk (i : List Int) (e : a = .list (nums i)) (p : P i) : IntsQ a P
/-- a comparison of two ints -/
theorem Tst.cmpI (c : CxOK h0 n cx) {l r : PySem.Expr} {op : CmpOp} {pos : Pos} {Q : Bool → Nat → Prop}
    (h : Evp prog cx S₀ l fun a k => IntQ a fun i => Evp prog cx { S₀ with cnt := k } r fun b k' => IntQ b fun j => Q (Mine.cmpI op i j) k') (ho : isCmpI op = true := by rfl)
    (hm : behindInMarks op r = false := by with_unfolding_all rfl) : Tst prog cx S₀ (.Compare l [op] [r] pos) Q :=
  Tst.cmp c (h.mono fun a k ⟨i, e, q⟩ => q.mono fun b k' ⟨j, e', q'⟩ => ⟨_, by subst e; subst e'; exact op_cmpI ho, q'⟩) hm
/-- a op1 b op2 c -/
theorem Tst.betw (c : CxOK h0 n cx) {l m r : PySem.Expr} {op₁ op₂ : CmpOp} {pos : Pos} {Q : Bool → Nat → Prop}
    (h : Evp prog cx S₀ l fun a k => IntQ a fun i => Evp prog cx { S₀ with cnt := k } m fun b k' => IntQ b fun j => (Mine.cmpI op₁ i j = false → Q false k') ∧
      (Mine.cmpI op₁ i j = true → Evp prog cx { S₀ with cnt := k' } r fun d k'' => IntQ d fun x => Q (Mine.cmpI op₂ j x) k'')) (ho₁ : isCmpI op₁ = true := by rfl) (ho₂ : isCmpI op₂ = true := by rfl)
    (hm : lastMarks [op₁, op₂] [m, r] = false := by with_unfolding_all rfl) : Tst prog cx S₀ (.Compare l [op₁, op₂] [m, r] pos) Q :=
  Tst.chain c (h.mono fun a k ⟨i, e, q⟩ => by
    subst e
    exact Chn.link c (q.mono fun b k' ⟨j, e', q1, q2⟩ => ⟨Mine.cmpI op₁ i j, by subst e'; exact op_cmpI ho₁, by
      cases hb : Mine.cmpI op₁ i j with
      | false => exact q1 hb
      | true => exact Chn.last c ((q2 hb).mono fun d k'' ⟨x, e'', q3⟩ => ⟨_, by subst e'; subst e''; exact op_cmpI ho₂, q3⟩)⟩)) hm
/-- a op1 b op2 c, as an equation -/
theorem Tst.betwE (c : CxOK h0 n cx) {l m r : PySem.Expr} {op₁ op₂ : CmpOp} {pos : Pos} {i j x : Int} {Q : Bool → Nat → Prop} (hl : ∀ k, Evp prog cx { S₀ with cnt := k } l fun d k' => d = .int i ∧ k' = k) (hm' : ∀ k, Evp prog cx { S₀ with cnt := k } m fun d k' => d = .int j ∧ k' = k) (hr : ∀ k, Evp prog cx { S₀ with cnt := k } r fun d k' => d = .int x ∧ k' = k)
    (hq : Q (Mine.cmpI op₁ i j && Mine.cmpI op₂ j x) S₀.cnt) (ho₁ : isCmpI op₁ = true := by rfl) (ho₂ : isCmpI op₂ = true := by rfl)
    (hm : lastMarks [op₁, op₂] [m, r] = false := by with_unfolding_all rfl) : Tst prog cx S₀ (.Compare l [op₁, op₂] [m, r] pos) Q :=
  Tst.betw c ((hl S₀.cnt).mono fun a k ⟨e, ek⟩ => ⟨i, e, (hm' k).mono fun b k' ⟨e', ek'⟩ => ⟨j, e', fun hb => by subst ek; subst ek'; rw [hb] at hq; exact hq, fun hb => (hr k').mono fun d k'' ⟨e'', ek''⟩ => ⟨x, e'', by subst ek; subst ek'; subst ek''; rw [hb] at hq; exact hq⟩⟩⟩) ho₁ ho₂ hm
/-- x not in ints -/
theorem Tst.notin (c : CxOK h0 n cx) {l r : PySem.Expr} {pos : Pos} {Q : Bool → Nat → Prop}
    (h : Evp prog cx S₀ l fun a k => IntQ a fun i => Evp prog cx { S₀ with cnt := k } r fun b k' => IntsQ b fun ns => Q (!(ns.any (· == i))) k')
    (hm : behindInMarks .NotIn r = false := by with_unfolding_all rfl) : Tst prog cx S₀ (.Compare l [.NotIn] [r] pos) Q :=
  Tst.cmp c (h.mono fun a k ⟨i, e, q⟩ => q.mono fun b k' ⟨j, e', q'⟩ => ⟨_, by subst e; subst e'; exact op_notin, q'⟩) hm
theorem Tst.in_ (c : CxOK h0 n cx) {l r : PySem.Expr} {pos : Pos} {Q : Bool → Nat → Prop}
    (h : Evp prog cx S₀ l fun a k => IntQ a fun i => Evp prog cx { S₀ with cnt := k } r fun b k' => IntsQ b fun ns => Q (ns.any (· == i)) k')
    (hm : behindInMarks .In r = false := by with_unfolding_all rfl) : Tst prog cx S₀ (.Compare l [.In] [r] pos) Q :=
  Tst.cmp c (h.mono fun a k ⟨i, e, q⟩ => q.mono fun b k' ⟨j, e', q'⟩ => ⟨_, by subst e; subst e'; exact op_in, q'⟩) hm
/-- x and y -/
theorem Tst.and2 {x y : PySem.Expr} {pos : Pos} {Q : Bool → Nat → Prop} (h : Tst prog cx S₀ x fun b k => (b = false → Q false k) ∧ (b = true → Tst prog cx { S₀ with cnt := k } y Q)) : Tst prog cx S₀ (.BoolOp .And [x, y] pos) Q :=
  Tst.and (h.mono fun b k ⟨q1, q2⟩ => by
    cases b with
    | false => exact q1 rfl
    | true => exact Tst.and ((q2 rfl).mono fun b' k' q => by
        cases b' with
        | false => exact q
        | true => exact Tst.and_nil q))
theorem Tst.or2 {x y : PySem.Expr} {pos : Pos} {Q : Bool → Nat → Prop} (h : Tst prog cx S₀ x fun b k => (b = true → Q true k) ∧ (b = false → Tst prog cx { S₀ with cnt := k } y Q)) : Tst prog cx S₀ (.BoolOp .Or [x, y] pos) Q :=
  Tst.or (h.mono fun b k ⟨q1, q2⟩ => by
    cases b with
    | true => exact q1 rfl
    | false => exact Tst.or ((q2 rfl).mono fun b' k' q => by
        cases b' with
        | true => exact q
        | false => exact Tst.or_nil q))

variable {Kk : S → Prop} {R : D → S → Prop} {E' : Value → Shared → Prop}
inductive ForPQ (prog : Program) (h0 : Heap) (n : Nat) (cx : Cx) (S₀ : S) (E : Enc α) (target : PySem.Expr) (body : List Stmt) (Kk : S → Prop) (R : D → S → Prop) (ds : List D) (k : Nat) : Prop
  | mk (xs : List α) (canon : Nat → S) (P : Nat → Prop) (e : ds = xs.map E.enc) (hX : ∀ i, XX cx.X (canon i).own = XX cx.X S₀.own) (h0' : Sub (canon 0) { S₀ with cnt := k }) (hP : P 0)
    (turn : ∀ C' X', CxOK h0 n (cx.at C' X') → ∀ i y, xs[i]? = some y → P i → Asg prog (cx.at C' X') (canon i) target (E.enc y) fun S' => Exps prog (cx.at C' X') (fun _ _ => False) S' body (fun S₂ => Sub (canon (i + 1)) S₂ ∧ P (i + 1)) R)
    (fin : ∀ S', Sub (canon xs.length) S' → P xs.length → Kk S') : ForPQ prog h0 n cx S₀ E target body Kk R ds k
/-- for, over canonical states and a word -/
theorem Exp.forP (E : Enc α) (c : CxOK h0 n cx) {target iter : PySem.Expr} {body : List Stmt} {pos : Pos}
    (h : Itr prog cx S₀ target iter (ForPQ prog h0 n cx S₀ E target body Kk R))
    (hs : ∀ x, foldedSetIterable iter cx.env x = pure x := by intro _; rfl) : Exp prog cx E' S₀ (.For target iter body [] pos) Kk R := by
  refine Exp.for_ c (h.mono fun ds k ⟨xs, canon, P, e1, hX, h0', hP, turn, fin⟩ => ?_) hs
  subst e1
  refine ⟨fun i S' => Sub (canon i) S' ∧ P i, fun i S' hS => ?_, ⟨h0', hP⟩, fun cx' hT c' i d S' hd hS => ?_, fun S' hS => fin S' (by simpa using hS.1) (by simpa using hS.2)⟩
  · rw [← hS.1.1]; exact hX i
  · obtain ⟨C', X', rfl⟩ := hT
    rw [List.getElem?_map] at hd
    obtain ⟨y, hy, rfl⟩ := Option.map_eq_some_iff.mp hd
    intro s v t r
    exact turn C' X' c' i y hy hS.2 s v (t.sub hS.1) (by
      have e : (canon i).own = S'.own := hS.1.1
      rw [e]; exact r)
/-- the body of a def whose result is known -/
theorem Exps.ret (c : CxOK h0 n cx) {e : PySem.Expr} {pos : Pos} (h : Evp prog cx S₀ e fun d k => R d { S₀ with cnt := k }) : Exps prog cx E' S₀ [.Return (some e) pos] Kk R := Exps.cons (Exp.ret c h)
end
end Mine
end

section
set_option linter.unusedVariables false
open PySem PySem.W PyProof.Rows
set_option maxRecDepth 100000
namespace Mine

/-- self.a = x, row by row -/
inductive InitS : List Stmt → List (Str × Str) → Prop
  | nil : InitS [] []
  | cons {a x : Str} {p1 p2 p3 p4 : Pos} {r : List Stmt} {q : List (Str × Str)} : InitS r q → InitS (.Assign [.Attribute (.Name "self" p1) a p2] (.Name x p3) p4 :: r) ((a, x) :: q)
/-- what the class says of an attribute that is stored -/
structure SetOK (K : Frag) (C : Addr) (a : Str) : Prop where
  taker : takerIn K C a = some none
structure ClsOK (K : Frag) (C : Addr) : Prop where
  setattr : findIn K (.ref C) "__setattr__" = some (some (.builtin "object.__setattr__"))
  over : plainOver K C = true
  dict : hasDictIn K C = true

inductive Ents : List DictEntry → List (Str × Value) → Prop
  | nil : Ents [] []
  | cons {hs : Int} {a : Str} {t : Tok} {v : Value} {es : List DictEntry} {l : List (Str × Value)} : Ents es l → Ents (⟨hs, .str a t, v⟩ :: es) ((a, v) :: l)
theorem Ents.append {es fs : List DictEntry} {l m : List (Str × Value)} (a : Ents es l) (b : Ents fs m) : Ents (es ++ fs) (l ++ m) := by
  induction a with
  | nil => exact b
  | cons _ ih => exact .cons ih
theorem Ents.length {es : List DictEntry} {l : List (Str × Value)} (a : Ents es l) : es.length = l.length := by
  induction a with
  | nil => rfl
  | cons _ ih => simp [ih]
theorem isStr_str (a b : Str) (t : Tok) : Value.isStr (.str a t) b = (a == b) := rfl
theorem Ents.put {name : Str} {hsh : Int} {tk : Tok} {v : Value} {es : List DictEntry} {l : List (Str × Value)} (a : Ents es l) (hn : name ∉ l.map (·.1)) :
    putL name hsh (.str name tk) v es = es ++ [⟨hsh, .str name tk, v⟩] ∧ (getL name es) = some none := by
  induction a with
  | nil => exact ⟨rfl, rfl⟩
  | cons h ih =>
    rename_i hs b t u es l
    rw [List.map_cons, List.mem_cons, not_or] at hn
    have hb : Value.isStr (.str b t) name = false := by rw [isStr_str]; simpa using fun e => hn.1 e.symm
    obtain ⟨i1, i2⟩ := ih hn.2
    refine ⟨?_, ?_⟩
    · unfold putL
      simp only [hb, Bool.false_eq_true, if_false, List.cons_append, i1]
    · unfold getL at i2 ⊢
      simp only [List.find?_cons, hb, List.any_cons]
      exact i2
theorem Ents.repFs {X : Addr → Prop} {h : Heap} {es : List DictEntry} {l : List (Str × Value)} (a : Ents es l) : ∀ {fs : List (Str × D)}, l.map (·.1) = fs.map (·.1) → RepAll X h (l.map (·.2)) (fs.map (·.2)) → RepFs X h es fs := by
  induction a with
  | nil =>
    intro fs h1 h2
    cases fs with
    | nil => exact .nil
    | cons f fs => simp at h1
  | cons ha ih =>
    intro fs h1 h2
    cases fs with
    | nil => simp at h1
    | cons f fs =>
      simp only [List.map_cons, List.cons.injEq] at h1 h2
      obtain ⟨e, h1⟩ := h1
      cases h2 with
      | cons r rs =>
        obtain ⟨fa, fd⟩ := f
        subst e
        exact .cons r (ih h1 rs)

section
variable {prog : Program} {w : World} {A : Around} {K : Frag} {hB : Heap} {C x dx L : Addr} {m : Str → Option Value} {E : Value → Shared → Prop} {env : Env}
theorem init_run (X₀ : K.In hB) (ok : ClsOK K C) (hL : env.locals = L) (hk : env.scope.kind = .function) (hself : m "self" = some (.ref x)) (hselfk : env.kindOf "self" = some .local) :
    ∀ {sts : List Stmt} {q : List (Str × Str)}, InitS sts q → ∀ (vals : List Value) (s : Shared) (es : List DictEntry) (n : Nat) (l : List (Str × Value)) {Q : Flow → Shared → Prop}, Fr hB L s.heap m → News hB L s.heap [(x, instObj C dx), (dx, dictOf es n)] → x ≠ dx → Ents es l → (l.map (·.1) ++ q.map (·.1)).Nodup → l.length + q.length ≤ 100 →
      (∀ p ∈ q, SetOK K C p.1 ∧ env.kindOf p.2 = some .local ∧ (p.2 == ("__debug__" : Str)) = false) → q.map (fun p => m p.2) = vals.map some →
      (∀ h' tk es' n', Fr hB L h' m → News hB L h' [(x, instObj C dx), (dx, dictOf es' n')] → Ents es' (l ++ (q.map (·.1)).zip vals) → Q .next { s with heap := h', toks := tk }) →
      wpAny (model prog w) A (execs sts env) Q E s := by
  intro sts q hq
  induction hq with
  | nil =>
    intro vals s es n l Q F N hne he hnd hlen hp hv hQ
    have : vals = [] := by cases vals with | nil => rfl | cons v vs => simp at hv
    subst this
    exact wpAny_execs_nil (hQ s.heap s.toks es n F N (by simpa using he))
  | cons hr ih =>
    rename_i a y p1 p2 p3 p4 r q
    intro vals s es n l Q F N hne he hnd hlen hp hv hQ
    cases vals with
    | nil => simp at hv
    | cons v vals =>
      simp only [List.map_cons, List.cons.injEq] at hv
      obtain ⟨hv, hv'⟩ := hv
      obtain ⟨ok1, hy, hyd⟩ := hp _ (.head _)
      have hnot : a ∉ l.map (·.1) := fun hm => by
        rw [List.nodup_append] at hnd
        exact hnd.2.2 a hm a (by simp) rfl
      subst hL
      refine wpAny_execs_cons (plainObj_wpAny_Assign_Attribute (wpAny_Name (wpAny_loadName_local hk hy F.ns hv ?_) hyd) rfl)
      refine wpAny_Name (wpAny_loadName_local hk hselfk F.ns hself ?_) (by decide)
      obtain ⟨e1, e2⟩ := he.put (name := a) (hsh := PyData.keyHash w.params a) (tk := s.toks + 1) (v := v) hnot
      have hI : InstAt s.heap x (instObj C dx) C (some (dictOf es n)) := InstAt.of_news N (by simp) (by simp)
      have e3 : (putL a (PyData.keyHash w.params a) (.str a (s.toks + 1)) v es, putN a es n) = (es ++ [⟨PyData.keyHash w.params a, .str a (s.toks + 1), v⟩], putN a es n) := by rw [e1]
      refine set_dict F X₀ N hI rfl ok.setattr ok.over ok1.taker ok.dict (by rw [e2]; rfl) e3 (.tail hne (.head fun p hp => by cases hp)) (by have := he.length; simp at hlen ⊢; omega) fun h' F' N' => ?_
      refine ih vals _ (es ++ [⟨PyData.keyHash w.params a, .str a (s.toks + 1), v⟩]) (putN a es n) (l ++ [(a, v)]) F' N' hne (he.append (.cons .nil)) ?_ ?_ (fun p hp' => hp p (.tail _ hp')) hv' fun h'' tk es' n' F'' N'' he' => ?_
      · simpa [List.append_assoc] using hnd
      · simp at hlen ⊢; omega
      · refine hQ h'' tk es' n' F'' N'' ?_
        simpa [List.append_assoc] using he'
end
end Mine
end

section
set_option linter.unusedVariables false
open PySem PySem.W PyProof.Rows
set_option maxRecDepth 100000
namespace Mine

/-- binds its arguments as they stand -/
noncomputable def BindsIt (K : Frag) (fd : FuncData) (xs : List Str) : Prop :=
  ∀ (M : Model) (A : Around) (E : Value → Shared → Prop) (s : Shared) (args : List Value) (Q : List (Str × Value) → Shared → Prop), K.In s.heap → args.length = xs.length → Q (xs.zip args) s → wpAny M A (bindArgs fd ⟨args, []⟩) Q E s

section
variable {prog : Program} {h0 : Heap} {K : Frag} {n : Nat}
theorem map_fst_zip' {xs : List Str} {vs : List Value} (h : xs.length = vs.length) : (xs.zip vs).map (·.1) = xs := List.map_fst_zip (by omega)
theorem map_snd_zip' {xs : List Str} {vs : List Value} (h : xs.length = vs.length) : (xs.zip vs).map (·.2) = vs := List.map_snd_zip (by omega)
theorem lookup_zip_self {xs : List Str} (hnd : xs.Nodup) {vs : List Value} (h : xs.length = vs.length) : xs.map (fun x => (xs.zip vs).lookup x) = vs.map some := by
  induction xs generalizing vs with
  | nil => cases vs with | nil => rfl | cons _ _ => simp at h
  | cons x xs ih =>
    cases vs with
    | nil => simp at h
    | cons v vs =>
      rw [List.nodup_cons] at hnd
      simp only [List.length_cons, Nat.add_right_cancel_iff] at h
      rw [List.map_cons, List.map_cons, List.zip_cons_cons, ← ih hnd.2 h]
      congr 1
      · simp
      · refine List.map_congr_left fun y hy => ?_
        rw [List.lookup_cons]
        have : (y == x) = false := by
          simp only [beq_eq_false_iff_ne]
          exact fun e => hnd.1 (e ▸ hy)
        rw [this]

/-- a class of the text whose __init__ stores its arguments -/
theorem Make.of (B : Top0 K h0) {C fI : Addr} {oc : Value} {od : Option Addr} {osl : Array (Option Value)} {name qual : Str} {params : Arguments} {body : List Stmt} {scope : Scope} {dV kV doc pm cdv ct : Value} {an : Option Addr} (ys : List Str) {ds : List D}
    (hm : makesIn K C = true) (hi : findIn K (.ref C) "__init__" = some (some (.ref fI))) (hf : typeIn K (.ref fI) = some (.type "function"))
    (ho : K.lookup fI = some ⟨oc, od, .func (fnOf name qual params body scope dV kV doc pm an cdv ct), osl⟩) (hcd : codeIn K cdv qual = true) (ok : ClsOK K C)
    (hbind : BindsIt K (fnOf name qual params body scope dV kV doc pm an cdv ct) (("self" : Str) :: ys)) (hS : InitS body (ys.map fun y => (y, y))) (hnd : (("self" : Str) :: ys).Nodup) (hlen : ys.length = ds.length) (hle : ys.length ≤ 20)
    (hy : ∀ y ∈ ys, SetOK K C y ∧ (y == ("__debug__" : Str)) = false) (hkind : ∀ x ∈ ("self" : Str) :: ys, scope.names.lookup x = some .local)
    (hco : scope.isCoroutine = false := by rfl) (hgen : scope.isGenerator = false := by rfl) (hk : scope.kind = .function := by rfl) : FnOK prog h0 (n + 2) C ds (.inst C (ys.zip ds)) := fun w A X s args lv p r => by
  have hv : args.length = ds.length := r.length
  have X₀ := p.inK B
  obtain ⟨hh, g, d, t, os⟩ := s
  refine make_core (makes_of X₀ hm) (looks_findIn X₀ hi) (fun self => bind_fn X₀ self hf) (.inl rfl) ?_
  have k2 : ∀ b o, hh.get? b = some o → ((hh.push emptyDict).push (instObj C hh.objs.size)).get? b = some o := fun b o e => Heap.get?_push_of_some _ (Heap.get?_push_of_some _ e)
  have hsz1 : (hh.push emptyDict).objs.size = hh.objs.size + 1 := Heap.size_push ..
  have hx : ((hh.push emptyDict).push (instObj C hh.objs.size)).get? (hh.objs.size + 1) = some (instObj C hh.objs.size) := by rw [← hsz1]; exact Heap.get?_push_size _ rfl
  have hdx : ((hh.push emptyDict).push (instObj C hh.objs.size)).get? hh.objs.size = some (dictOf [] 0) := Heap.get?_push_of_some _ (Heap.get?_push_size _ rfl)
  have hsz2 : ((hh.push emptyDict).push (instObj C hh.objs.size)).objs.size = hh.objs.size + 2 := by rw [Heap.size_push, hsz1]
  have lv' := lv.depth
  refine codeAny_call_function (by rw [depth_under_make]; show _ < 1000; omega) (k2 _ _ (X₀ _ _ ho)) rfl hco hgen rfl (codeRec_of (X₀.keeps k2) hcd) ?_
  refine hbind _ _ _ _ _ _ (X₀.keeps k2) (by simp [hv, hlen]) ?_
  have hzip : ((("self" : Str) :: ys).zip (Value.ref (hh.objs.size + 1) :: args)).map (·.1) = ("self" : Str) :: ys := map_fst_zip' (by simp [hv, hlen])
  refine wpAny_newFunctionEnv_cells hk (fun y hy' => .inl (hkind _ (by rw [← hzip]; exact List.mem_map_of_mem hy'))) fun env he s' x => ?_
  subst he
  have kin := x.toInCall.keep
  refine ⟨(p.nolimit B).keeps fun b o e => kin b o (k2 b o e), codeAny_func ?_⟩
  obtain ⟨h₁, tk, e₁⟩ := x.toInCall.same
  subst e₁
  dsimp only at kin
  have hLs : (newEnv scope ((hh.push emptyDict).push (instObj C hh.objs.size)).objs.size mainGlobals (cellsFrom (((hh.push emptyDict).push (instObj C hh.objs.size)).objs.size + 1) scope.names []) (qual ++ ".<locals>.") (some fI) cdv none builtinsNs).locals = hh.objs.size + 2 := hsz2
  have F : Fr hh (hh.objs.size + 2) h₁ (bindL (newEnv scope ((hh.push emptyDict).push (instObj C hh.objs.size)).objs.size mainGlobals (cellsFrom (((hh.push emptyDict).push (instObj C hh.objs.size)).objs.size + 1) scope.names []) (qual ++ ".<locals>.") (some fI) cdv none builtinsNs).kindOf ((("self" : Str) :: ys).zip (Value.ref (hh.objs.size + 1) :: args)) fun _ => none) :=
    ⟨hLs ▸ x.toInCall.ns, fun b o e => kin b o (k2 b o e), Nat.le_add_right _ _⟩
  have nn : ∀ a, hh.objs.size ≤ a → hh.get? a = none := fun a ha => by
    cases q : hh.get? a with
    | none => rfl
    | some o => exact absurd (Heap.lt_size q) (Nat.not_lt.mpr ha)
  have N : News hh (hh.objs.size + 2) h₁ [(hh.objs.size + 1, instObj C hh.objs.size), (hh.objs.size, dictOf [] 0)] := by
    intro q hq
    rcases List.mem_cons.mp hq with rfl | hq
    · exact ⟨kin _ _ hx, Nat.ne_of_lt (Nat.lt_succ_self _), nn _ (Nat.le_succ _)⟩
    · rw [List.mem_singleton.mp hq]
      exact ⟨kin _ _ hdx, Nat.ne_of_lt (Nat.lt_succ_of_lt (Nat.lt_succ_self _)), nn _ (Nat.le_refl _)⟩
  have hzl : (("self" : Str) :: ys).length = (Value.ref (hh.objs.size + 1) :: args).length := by simp [hv, hlen]
  have look : ∀ y v, ((("self" : Str) :: ys).zip (Value.ref (hh.objs.size + 1) :: args)).lookup y = some v → y ∈ ("self" : Str) :: ys → (bindL (newEnv scope ((hh.push emptyDict).push (instObj C hh.objs.size)).objs.size mainGlobals (cellsFrom (((hh.push emptyDict).push (instObj C hh.objs.size)).objs.size + 1) scope.names []) (qual ++ ".<locals>.") (some fI) cdv none builtinsNs).kindOf ((("self" : Str) :: ys).zip (Value.ref (hh.objs.size + 1) :: args)) fun _ => none) y = some v :=
    fun y v e hy' => bindL_get (by rw [hzip]; exact hnd) e (hkind y hy')
  rw [List.nodup_cons] at hnd
  refine init_run (hB := hh) (C := C) (x := hh.objs.size + 1) (dx := hh.objs.size) (L := hh.objs.size + 2) X₀ ok hLs hk (look _ _ (by simp) (by simp)) (hkind _ (by simp)) hS args _ [] 0 [] F N (Nat.ne_of_gt (Nat.lt_succ_self _)) .nil ?_ ?_ ?_ ?_ fun h' tk' es' n' F' N' he' => ?_
  · simpa [List.map_map, Function.comp_def] using hnd.2
  · simp; omega
  · intro q hq
    obtain ⟨y, hy', rfl⟩ := List.mem_map.mp hq
    exact ⟨(hy y hy').1, hkind y (.tail _ hy'), (hy y hy').2⟩
  · rw [List.map_map]
    rw [← lookup_zip_self hnd.2 (by rw [hlen, hv])]
    refine List.map_congr_left fun y hy' => ?_
    have hne : (y == "self") = false := by
      simp only [beq_eq_false_iff_ne]
      exact fun e => hnd.1 (e ▸ hy')
    have e1 : ((("self" : Str) :: ys).zip (Value.ref (hh.objs.size + 1) :: args)).lookup y = (ys.zip args).lookup y := by
      rw [List.zip_cons_cons, List.lookup_cons, hne]
    cases e2 : (ys.zip args).lookup y with
    | none =>
      exfalso
      have := lookup_zip_self hnd.2 (vs := args) (by rw [hlen, hv])
      have hm' : (ys.zip args).lookup y ∈ ys.map (fun x => (ys.zip args).lookup x) := List.mem_map_of_mem hy'
      rw [this, e2] at hm'
      simp at hm'
    | some v => exact look y v (by rw [e1, e2]) (.tail _ hy')
  · refine ⟨rfl, .ref (hh.objs.size + 1), rfl, ⟨h', tk', rfl, F'.keep⟩, ?_⟩
    have nX : ∀ a, hh.objs.size ≤ a → ¬ X a := fun a ha q => by
      obtain ⟨o, e⟩ := p.live a q
      rw [show hh.get? a = none from nn a ha] at e; cases e
    refine .inst (nX _ (Nat.le_succ _)) (nX _ (Nat.le_refl _)) (N' _ (.head _)).1 (N' (hh.objs.size, dictOf es' n') (.tail _ (.head _))).1 (he'.repFs ?_ ?_)
    · simp only [List.nil_append, List.map_map, Function.comp_def, List.map_id']
      rw [map_fst_zip' (by rw [hlen, hv]), List.map_fst_zip (by omega)]
    · simp only [List.nil_append, List.map_map, Function.comp_def, List.map_id']
      rw [map_snd_zip' (by rw [hlen, hv]), List.map_snd_zip (by omega)]
      exact r.keeps F'.keep
end
end Mine
end

section
set_option linter.unusedVariables false
open PySem PySem.W PyProof.Rows
set_option maxRecDepth 100000
namespace Mine

theorem RepFs.no {X : Addr → Prop} {h : Heap} {x : Str} : ∀ {es : List DictEntry} {fs : List (Str × D)}, RepFs X h es fs → fs.lookup x = none → getL x es = some none
  | _, _, .nil, _ => rfl
  | _, _, .cons (x := y) (v := v) (es := es) (fs := fs) r rs, e => by
    rw [lookup_cons] at e
    by_cases q : x = y
    · rw [if_pos q] at e; cases e
    · rw [if_neg q] at e
      have ih := RepFs.no rs e
      unfold getL at ih ⊢
      have hne : ∀ t, Value.isStr (.str y t) x = false := fun t => by
        show (y == x) = false
        simpa using fun z => q z.symm
      simp only [List.find?_cons, hne, List.any_cons]
      exact ih
/-- what the class says of a method -/
structure MethOK (K : Frag) (C : Addr) (name : Str) (f : Addr) : Prop where
  plain : plainGet K C name = true
  find : findIn K (.ref C) name = some (some (.ref f))
  fn : isFn K (.ref f) = true
  keep : keepIn K (.ref f) = true

section
variable {prog : Program} {h0 : Heap} {K : Frag} {cx : Cx} {n : Nat} {S₀ : S} {Q : D → Nat → Prop}
inductive MethQ (prog : Program) (h0 : Heap) (K : Frag) (n : Nat) (name : Str) (Q : D → Nat → Prop) (a : D) (k : Nat) : Prop
  | mk (C : Addr) (fs : List (Str × D)) (f : Addr) (d : D) (m : Nat) (e : a = .inst C fs) (hl : fs.lookup name = none) (ok : MethOK K C name f) (hm : m ≤ n) (fo : FnOK prog h0 m f [a] d) (q : Q d k) : MethQ prog h0 K n name Q a k
/-- y.name() -/
theorem Evp.method0 (c : CxOK h0 n cx) (B : Top0 K h0) {y name : Str} {p apos pos : Pos} {pl : Sem Bool} (h : Evp prog cx S₀ (.Name y p) (MethQ prog h0 K n name Q))
    (he : eval (.Call (.Attribute (.Name y p) name apos) [] [] pos) cx.env = (do
      let ov ← eval (.Name y p) cx.env
      standAt apos.atName
      let (f, first) ← holding [ov] (getMethod ov name pl)
      callWith pos f first (backTo pos (starEach [] cx.env)) []) := by rfl) :
    Evp prog cx S₀ (.Call (.Attribute (.Name y p) name apos) [] [] pos) Q := fun s t => by
  refine MethodCall_ (wpAny_mono (h s t) (fun va s₁ ⟨a, k, t₁, k₁, ra, C, fs, f, d, m, e, hl, ok, hm, fok, q⟩ => ?_) fun _ _ x => x.elim) he
  have X₀ := (t₁.pc c).inK B
  have ra' := ra
  subst e
  cases ra with
  | @inst x dx _ es nn _ n1 n2 e1 e2 r =>
    have I : InstAt s₁.heap x (instObj C dx) C (some (dictOf es nn)) := ⟨e1, rfl, rfl, e2⟩
    refine method_fn X₀ I (plainGet_of ok.plain).1 (plainGet_of ok.plain).2 ok.find (beq_iff_eq.mp ok.fn) (by show (lookIn name (dictOf es nn)).map _ = _; rw [lookIn_dict, r.no hl]; rfl) ?_
    refine callWith_K0 X₀ ok.keep ?_
    refine wpAny_call (codeAny_mono (fok cx.w cx.A _ s₁ _ (c.lv.mono hm) (t₁.pc c) (.cons ra' .nil)) fun rr s₂ ⟨v, e, kp, rv⟩ => ?_)
    subst e
    exact ⟨d, k, t₁.keeps c kp, k₁.trans (kp.but _), rv, q⟩
end
end Mine
end

section
set_option linter.unusedVariables false
open PySem PySem.W PyProof.Rows
set_option maxRecDepth 100000
namespace Mine

-- what the functions compute
noncomputable def clustersOf (rs : List Row) : List Int := ssort (rs.map (·.cl))
noncomputable def unsafeOf (rs : List Row) : List Int := ssort ((rs.filter (·.us)).map (·.cl))
noncomputable def placesOf (rs : List Row) (L : Int) : List Int := (clustersOf rs).filter fun p => (cmpI .Lt 0 p && cmpI .Lt p L) && !((unsafeOf rs).any (· == p))
noncomputable def stretchGo (p : Int) : Int → List Int → Int × Option Int
  | b, [] => (b, none)
  | b, c :: cs => if c > p then (b, some c) else stretchGo p c cs
noncomputable def optD : Option Int → D
  | none => .none
  | some i => .int i
noncomputable def beforeOf (rs : List Row) (L p : Int) : Int := lmax ([0] ++ (placesOf rs L).filter fun s => cmpI .LtE s p)
noncomputable def behindOf (rs : List Row) (L p : Int) : Int := lmin ([L] ++ (placesOf rs L).filter fun s => cmpI .GtE s p)
noncomputable def advOf (rs : List Row) (b e : Int) : Int := ((rs.filter fun r => cmpI .LtE b r.cl && cmpI .Lt r.cl e).map (·.adv)).sum

structure RowsOK (rs : List Row) : Prop where
  len : rs.length ≤ 17
  small : ∀ r ∈ rs, Small r.cl
theorem clusters_len {rs : List Row} (h : RowsOK rs) : (clustersOf rs).length ≤ 17 := by
  have key : ∀ ns : List Int, (ssort ns).length ≤ ns.length := by
    intro ns
    induction ns with
    | nil => simp [ssort]
    | cons x xs ih =>
      have : ∀ (k : Int) (l : List Int), (insI k l).length ≤ l.length + 1 := by
        intro k l
        induction l with
        | nil => simp [insI]
        | cons y ys ih2 =>
          unfold insI
          split
          · simp
          · split
            · simp
            · simp only [List.length_cons]; omega
      rw [show ssort (x :: xs) = insI x (ssort xs) from rfl]
      have := this x (ssort xs)
      simp only [List.length_cons]; omega
  have := key (rs.map (·.cl))
  have := h.len
  unfold clustersOf
  simp at *; omega

section
variable {prog : Program} {h0 : Heap} {K : Frag}
theorem F_clusters (B : Top0 K h0) (G : Gl K) {a Cs : Addr} (F : FnAt K a (stAt topS 12)) (hC : AttrOK K Cs "rows") {rs : List Row} (b : Bool) (ok : RowsOK rs) :
    FnOK prog h0 1 a [shapedD Cs rs b] (.list (nums (clustersOf rs))) := F_clusters_in B G F hC rs b ok.len ok.small
theorem F_unsafe (B : Top0 K h0) (G : Gl K) {a Cs : Addr} (F : FnAt K a (stAt topS 13)) (hC : AttrOK K Cs "rows") {rs : List Row} (b : Bool) (ok : RowsOK rs) :
    FnOK prog h0 1 a [shapedD Cs rs b] (.list (nums (unsafeOf rs))) := by
  obtain ⟨oc, od, osl, doc, pm, cdv, ct, an, ho, hcd⟩ := F.rec_
  refine FnOK.of B ["shaped"] ho hcd (fun args h => ?_) (fun n x hx => ?_) (by decide) rfl (fun w A L s0 C X c => ?_) rfl rfl rfl
  · obtain ⟨a, rfl⟩ := len1 h
    rfl
  · exact kLoc rfl n x hx
  · refine Exps.cons (Exp.ret c (Evp.sortedSet c B (G.bl "sorted" (by decide)) boot_sorted' (by decide) (G.bl "set" (by decide)) boot_set (by decide) ?_ rfl rfl))
    refine Evp.comp1 encR c (Itr.list c (Evp.attr c B (Evp.name c rfl ⟨Cs, _, rowsD rs, rfl, rfl, rfl, hC, _, rfl, rs, fun r => r.us, fun r => .int r.cl, rfl, by have := ok.len; omega, fun cl Lc s₀ C X c' y hy => ?_, fun cl Lc s₀ C X c' y hy hb k => ?_, _, congrArg D.list (nums_map _ _), ?_, ?_, rfl⟩)))
    · exact Tst.plain c' (Evp.itemT c' (Evp.name c' rfl (Evp.UNSAFE c' B G ⟨_, 6, 6, _, rfl, rfl, by decide, by decide, rfl, rfl, _, Tru.bool _, rfl⟩)))
    · exact Evp.itemT c' (Evp.name c' rfl (Evp.CLUSTER c' B G ⟨_, 1, 1, _, rfl, rfl, by decide, by decide, rfl, rfl, rfl⟩))
    · have := ok.len
      have := List.length_filter_le (fun r : Row => r.us) rs
      simp; omega
    · intro x hx
      obtain ⟨r, hr, rfl⟩ := List.mem_map.mp hx
      exact ok.small r (List.mem_filter.mp hr).1
theorem F_break_places (B : Top0 K h0) (G : Gl K) {a a1 a2 Cs : Addr} (F : FnAt K a (stAt topS 14)) (F1 : FnAt K a1 (stAt topS 12)) (F2 : FnAt K a2 (stAt topS 13)) (hC : AttrOK K Cs "rows") {rs : List Row} (b : Bool) (ok : RowsOK rs) (L : Int) :
    FnOK prog h0 2 a [shapedD Cs rs b, .int L] (.list (nums (placesOf rs L))) := by
  obtain ⟨oc, od, osl, doc, pm, cdv, ct, an, ho, hcd⟩ := F.rec_
  refine FnOK.of B ["shaped", "length"] ho hcd (fun args h => ?_) (fun n x hx => ?_) (by decide) rfl (fun w A L' s0 C X c => ?_) rfl rfl rfl
  · obtain ⟨a, b, rfl⟩ := len2 h
    rfl
  · exact kAll n rfl x hx
  · refine Exps.cons (Exp.assign c (.inr ⟨rfl, rfl, rfl⟩) (Evp.callFn c B F2.glob F2.keep (Evs.cons c (Evp.name c rfl (Evs.nil ⟨_, 1, Nat.le_refl _, F_unsafe B G F2 hC b ok, ?_⟩))) rfl))
    refine Exps.cons (Exp.ret c ?_)
    refine Evp.comp1 encI c (Itr.list c (Evp.callFn c B F1.glob F1.keep (Evs.cons c (Evp.name c rfl (Evs.nil ⟨_, 1, Nat.le_refl _, F_clusters B G F1 hC b ok, _, rfl, clustersOf rs, _, fun p => .int p, rfl, by have := clusters_len ok; omega, fun cl Lc s₀ C X c' y hy => ?_, fun cl Lc s₀ C X c' y hy hb k => ?_, rfl⟩))) rfl))
    · refine Tst.and2 (Tst.betwE c' (i := 0) (j := y) (x := L) (fun k => Evp.cint c' ⟨rfl, rfl⟩) (fun k => Evp.name c' rfl ⟨rfl, rfl⟩) (fun k => Evp.name c' rfl ⟨rfl, rfl⟩) ⟨fun h => ?_, fun h => Tst.notin c' (Evp.name c' rfl ⟨y, rfl, Evp.name c' rfl ⟨unsafeOf rs, rfl, ?_⟩⟩)⟩)
      · rw [h]; rfl
      · rw [h]; rfl
    · exact Evp.name c' rfl rfl
end
end Mine
end

section
set_option linter.unusedVariables false
open PySem PySem.W PyProof.Rows
set_option maxRecDepth 100000
namespace Mine

section
variable {prog : Program} {h0 : Heap} {K : Frag}
theorem F_before (B : Top0 K h0) (G : Gl K) {a a1 Cs : Addr} (F : FnAt K a (stAt topS 16)) (F1 : FnAt K a1 (stAt topS 14)) {rs : List Row} (b : Bool) {L : Int} (f1 : FnOK prog h0 2 a1 [shapedD Cs rs b, .int L] (.list (nums (placesOf rs L)))) (hl : (placesOf rs L).length ≤ 1000) (p : Int) :
    FnOK prog h0 3 a [shapedD Cs rs b, .int L, .int p] (.int (beforeOf rs L p)) := by
  obtain ⟨oc, od, osl, doc, pm, cdv, ct, an, ho, hcd⟩ := F.rec_
  refine FnOK.of B ["shaped", "length", "place"] ho hcd (fun args h => ?_) (fun n x hx => ?_) (by decide) rfl (fun w A L' s0 C X c => ?_) rfl rfl rfl
  · obtain ⟨a, b, c, rfl⟩ := len3 h
    rfl
  · exact kAll n rfl x hx
  · have h1 := List.length_filter_le (fun s => cmpI .LtE s p) (placesOf rs L)
    refine Exps.ret c (Evp.callB c B (G.bl "max" (by decide)) boot_max' (by decide) (Evs.cons c (Evp.bin c (Evp.list c (Evs.cons c (Evp.cint c (Evs.nil ⟨by simp, ?_⟩))))) ) rfl)
    refine Evp.comp1 encI c (Itr.list c (Evp.callFn c B F1.glob F1.keep (Evs.cons c (Evp.name c rfl (Evs.cons c (Evp.name c rfl (Evs.nil ⟨_, 2, Nat.le_refl _, f1, _, rfl, placesOf rs L, fun s => cmpI .LtE s p, fun p => .int p, rfl, by omega, fun cl Lc s₀ C X c' y hy => ?_, fun cl Lc s₀ C X c' y hy hb k => ?_, ?_⟩))))) rfl))
    · exact Tst.cmpI c' (Evp.name c' rfl ⟨y, rfl, Evp.name c' rfl ⟨p, rfl, rfl⟩⟩)
    · exact Evp.name c' rfl rfl
    · exact ⟨_, op_addlist (as := nums [0]) (bs := nums _) (by simp; omega), Evs.nil ⟨_, call_maxL c.lv (ns := [0] ++ (placesOf rs L).filter fun s => cmpI .LtE s p) (by simp), rfl⟩⟩
theorem F_behind (B : Top0 K h0) (G : Gl K) {a a1 Cs : Addr} (F : FnAt K a (stAt topS 17)) (F1 : FnAt K a1 (stAt topS 14)) {rs : List Row} (b : Bool) {L : Int} (f1 : FnOK prog h0 2 a1 [shapedD Cs rs b, .int L] (.list (nums (placesOf rs L)))) (hl : (placesOf rs L).length ≤ 1000) (p : Int) :
    FnOK prog h0 3 a [shapedD Cs rs b, .int L, .int p] (.int (behindOf rs L p)) := by
  obtain ⟨oc, od, osl, doc, pm, cdv, ct, an, ho, hcd⟩ := F.rec_
  refine FnOK.of B ["shaped", "length", "place"] ho hcd (fun args h => ?_) (fun n x hx => ?_) (by decide) rfl (fun w A L' s0 C X c => ?_) rfl rfl rfl
  · obtain ⟨a, b, c, rfl⟩ := len3 h
    rfl
  · exact kAll n rfl x hx
  · have h1 := List.length_filter_le (fun s => cmpI .GtE s p) (placesOf rs L)
    refine Exps.ret c (Evp.callB c B (G.bl "min" (by decide)) boot_min' (by decide) (Evs.cons c (Evp.bin c (Evp.list c (Evs.cons c (Evp.name c rfl (Evs.nil ⟨by simp, ?_⟩))))) ) rfl)
    refine Evp.comp1 encI c (Itr.list c (Evp.callFn c B F1.glob F1.keep (Evs.cons c (Evp.name c rfl (Evs.cons c (Evp.name c rfl (Evs.nil ⟨_, 2, Nat.le_refl _, f1, _, rfl, placesOf rs L, fun s => cmpI .GtE s p, fun p => .int p, rfl, by omega, fun cl Lc s₀ C X c' y hy => ?_, fun cl Lc s₀ C X c' y hy hb k => ?_, ?_⟩))))) rfl))
    · exact Tst.cmpI c' (Evp.name c' rfl ⟨y, rfl, Evp.name c' rfl ⟨p, rfl, rfl⟩⟩)
    · exact Evp.name c' rfl rfl
    · exact ⟨_, op_addlist (as := nums [L]) (bs := nums _) (by simp; omega), Evs.nil ⟨_, call_minL c.lv (ns := [L] ++ (placesOf rs L).filter fun s => cmpI .GtE s p) (by simp), rfl⟩⟩
theorem F_stretch_of (B : Top0 K h0) (G : Gl K) {a a1 Cs : Addr} (F : FnAt K a (stAt topS 15)) (F1 : FnAt K a1 (stAt topS 12)) {rs : List Row} (b : Bool) {cs : List Int} (f1 : FnOK prog h0 1 a1 [shapedD Cs rs b] (.list (nums cs))) (p : Int) :
    FnOK prog h0 2 a [shapedD Cs rs b, .int p] (.tup [.int (stretchGo p 0 cs).1, optD (stretchGo p 0 cs).2]) := by
  obtain ⟨oc, od, osl, doc, pm, cdv, ct, an, ho, hcd⟩ := F.rec_
  refine FnOK.of B ["shaped", "place"] ho hcd (fun args h => ?_) (fun n x hx => ?_) (by decide) rfl (fun w A L' s0 C X c => ?_) rfl rfl rfl
  · obtain ⟨a, b, rfl⟩ := len2 h
    rfl
  · exact kLoc rfl n x hx
  · refine Exps.cons (Exp.assign c (.inl rfl) (Evp.cint c ?_))
    let bg : Nat → Int := fun i => if i = 0 then 0 else cs.getD (i - 1) 0
    refine Exps.cons (Exp.forP encI c (Itr.list c (Evp.callFn c B F1.glob F1.keep (Evs.cons c (Evp.name c rfl (Evs.nil ⟨_, 1, Nat.le_refl _, f1, _, rfl, cs, fun i => { vars := [("begin", .int (bg i)), ("shaped", shapedD Cs rs b), ("place", .int p)] }, fun i => stretchGo p 0 cs = stretchGo p (bg i) (cs.drop i), rfl, fun i => rfl, Sub.of rfl rfl ?_, rfl, fun C' X' c' i y hy hP => ?_, fun S' hS hP => ?_⟩))) rfl)))
    · repeat (first | exact lkNil | refine lkCons rfl ?_)
    · have hi : i < cs.length := (List.getElem?_eq_some_iff.mp hy).1
      have hd : cs.drop i = y :: cs.drop (i + 1) := by
        rw [List.drop_eq_getElem_cons hi, (List.getElem?_eq_some_iff.mp hy).2]
      refine Asg.name c' (.inl rfl) ?_
      refine Exps.cons (Exp.ifs (Tst.cmpI c' (Evp.name c' rfl ⟨y, rfl, Evp.name c' rfl ⟨p, rfl, ?_⟩⟩)))
      replace hP : stretchGo p 0 cs = stretchGo p (bg i) (cs.drop i) := hP
      rw [hd, show stretchGo p (bg i) (y :: cs.drop (i + 1)) = if y > p then (bg i, some y) else stretchGo p y (cs.drop (i + 1)) from rfl] at hP
      by_cases q : y > p
      · rw [show cmpI .Gt y p = true by simp [cmpI, q]]
        rw [if_pos q] at hP
        simp only [if_true]
        refine Exps.ret c' (Evp.tuple c' (Evs.cons c' (Evp.name c' rfl (Evs.cons c' (Evp.name c' rfl (Evs.nil ⟨by simp, ?_⟩))))))
        rw [hP]; rfl
      · rw [show cmpI .Gt y p = false by simp [cmpI, q]]
        rw [if_neg q] at hP
        simp only [Bool.false_eq_true, if_false]
        refine Exps.nil (Exps.cons (Exp.assign c' (.inl rfl) (Evp.name c' rfl (Exps.nil ⟨Sub.of rfl rfl ?_, ?_⟩))))
        · have e : bg (i + 1) = y := by
            show (if i + 1 = 0 then 0 else cs.getD (i + 1 - 1) 0) = y
            rw [if_neg (by omega), Nat.add_sub_cancel, List.getD_eq_getElem?_getD, hy]; rfl
          intro q hq
          simp only [List.mem_cons, List.not_mem_nil, or_false] at hq
          rcases hq with rfl | rfl | rfl
          · rw [e]; rfl
          · rfl
          · rfl
        · have e : bg (i + 1) = y := by
            show (if i + 1 = 0 then 0 else cs.getD (i + 1 - 1) 0) = y
            rw [if_neg (by omega), Nat.add_sub_cancel, List.getD_eq_getElem?_getD, hy]; rfl
          show stretchGo p 0 cs = stretchGo p (bg (i + 1)) (cs.drop (i + 1))
          rw [hP, e]
    · refine Exps.sub (Exps.ret c (Evp.tuple c (Evs.cons c (Evp.name c rfl (Evs.cons c (Evp.cnone c (Evs.nil ⟨by simp, ?_⟩))))))) hS
      have : stretchGo p 0 cs = (bg cs.length, none) := by rw [hP, List.drop_length]; rfl
      rw [this]; rfl
theorem F_advance (B : Top0 K h0) (G : Gl K) {a Cs : Addr} (F : FnAt K a (stAt topS 22)) (hC : AttrOK K Cs "rows") {rs : List Row} (b : Bool) (hl : rs.length ≤ 1000) (bg e : Int) :
    FnOK prog h0 1 a [shapedD Cs rs b, .int bg, .int e] (.int (advOf rs bg e)) := by
  obtain ⟨oc, od, osl, doc, pm, cdv, ct, an, ho, hcd⟩ := F.rec_
  refine FnOK.of B ["shaped", "begin", "end"] ho hcd (fun args h => ?_) (fun n x hx => ?_) (by decide) rfl (fun w A L' s0 C X c => ?_) rfl rfl rfl
  · obtain ⟨a, b, c, rfl⟩ := len3 h
    rfl
  · exact kAll n rfl x hx
  · refine Exps.ret c (Evp.callB c B (G.bl "sum" (by decide)) boot_sum' (by decide) (Evs.cons c ?_) rfl)
    refine Evp.comp1 encR c (Itr.list c (Evp.attr c B (Evp.name c rfl ⟨Cs, _, rowsD rs, rfl, rfl, rfl, hC, _, rfl, rs, fun r => cmpI .LtE bg r.cl && cmpI .Lt r.cl e, fun r => .int r.adv, rfl, by omega, fun cl Lc s₀ C X c' y hy => ?_, fun cl Lc s₀ C X c' y hy hb k => ?_, Evs.nil ⟨_, ?_, rfl⟩⟩)))
    · exact Tst.betwE c' (i := bg) (j := y.cl) (x := e) (fun k => Evp.name c' rfl ⟨rfl, rfl⟩) (fun k => Evp.itemT c' (Evp.name c' rfl (Evp.CLUSTER c' B G ⟨_, 1, 1, _, rfl, rfl, by decide, by decide, rfl, rfl, rfl, rfl⟩))) (fun k => Evp.name c' rfl ⟨rfl, rfl⟩) rfl
    · exact Evp.itemT c' (Evp.name c' rfl (Evp.X_ADVANCE c' B G ⟨_, 2, 2, _, rfl, rfl, by decide, by decide, rfl, rfl, rfl⟩))
    · rw [nums_map]; exact call_sum c.lv
end
end Mine
end

section
set_option linter.unusedVariables false
open PySem PySem.W PyProof.Rows
set_option maxRecDepth 100000
namespace Mine

noncomputable def Row.shift (r : Row) (k : Int) : Row := { r with cl := r.cl + k }
noncomputable def movedOf (rs : List Row) (k : Int) : List Row := rs.map fun r => r.shift k
noncomputable def inside (b e : Int) (r : Row) : Bool := cmpI .LtE b r.cl && cmpI .Lt r.cl e
noncomputable def cutOf (rs : List Row) (b e : Int) : List Row := (rs.filter (inside b e)).map fun r => { r with cl := r.cl - b }
noncomputable def joinStep (bw : Bool) (acc : List Row) (p : List Row × Int) : List Row := if bw then movedOf p.1 p.2 ++ acc else acc ++ movedOf p.1 p.2
noncomputable def joinOf (bw : Bool) (ps : List (List Row × Int)) : List Row := ps.foldl (joinStep bw) []
theorem map_rowOf (rs : List Row) : (rs.map Row.d).map rowOf = rs := by
  rw [List.map_map]
  have : rowOf ∘ Row.d = id := by funext r; exact encR.ok r
  rw [this, List.map_id]
noncomputable def encP (Cs : Addr) (bw : Bool) : Enc (List Row × Int) := ⟨fun p => .tup [shapedD Cs p.1 bw, .int p.2], fun d => match d with
  | .tup [.inst _ [(_, .list ds), _], .int k] => (ds.map rowOf, k)
  | _ => ([], 0), fun p => by
    show (List.map rowOf (p.1.map Row.d), p.2) = p
    rw [map_rowOf]⟩
theorem pairs_enc {Cs : Addr} {bw : Bool} (ps : List (List Row)) (bs : List Int) : pairs (ps.map fun rs => shapedD Cs rs bw) (nums bs) = (ps.zip bs).map (encP Cs bw).enc := by
  unfold pairs nums
  rw [List.zip_map, List.map_map]
  rfl
theorem foldl_join_len (bw : Bool) : ∀ (ps : List (List Row × Int)) (acc : List Row), (ps.foldl (joinStep bw) acc).length = acc.length + (ps.map fun p => p.1.length).sum
  | [], acc => by simp
  | p :: ps, acc => by
    rw [List.foldl_cons, foldl_join_len bw ps]
    unfold joinStep movedOf
    cases bw <;> simp <;> omega
theorem sum_take_le (ls : List Nat) (i : Nat) : (ls.take i).sum ≤ ls.sum := by
  conv => rhs; rw [← List.take_append_drop i ls, List.sum_append]
  omega

section
variable {prog : Program} {h0 : Heap} {K : Frag} {cx : Cx} {n : Nat} {S₀ : S} {Q : Option Int → Nat → Prop}
theorem Evo.none_ (h : Q none S₀.cnt) : Evo prog cx S₀ none Q := h
theorem Evo.some_ {e : PySem.Expr} (h : Evp prog cx S₀ e (OIntQ Q)) : Evo prog cx S₀ (some e) Q := h
end

section
variable {prog : Program} {h0 : Heap} {K : Frag} {cx : Cx} {n : Nat} {S₀ : S} {Q : D → Nat → Prop}
noncomputable abbrev l7 (y : Row) : List D := [.int y.a, .int y.cl, .int y.adv, .int y.p, .int y.q, .int y.r, .bool y.us]
/-- row[:CLUSTER] + (e,) + row[CLUSTER + 1:] -/
theorem Evp.rowCut (c : CxOK h0 n cx) (B : Top0 K h0) (G : Gl K) {e : PySem.Expr} {y : Row} {p1 p2 p3 p4 p5 p6 p7 p8 p9 p10 p11 p12 p13 : Pos} {kk kk' : Nat} (hx : S₀.vars.lookup ("row" : Str) = some (Row.d y)) (hk : cx.env.kindOf "CLUSTER" = some .globalImplicit) (v : Int)
    (he : ∀ k, Evp prog cx { S₀ with cnt := k } e fun d k' => d = .int v ∧ k' = k) (hst : notStar e = true := by rfl) (hq : Q (Row.d { y with cl := v }) S₀.cnt) :
    Evp prog cx S₀ (.BinOp (.BinOp (.Subscript (.Name "row" p1) (.Slice none (some (.Name "CLUSTER" p2)) none p3) p4) .Add (.Tuple [e] kk p5) p6) .Add
      (.Subscript (.Name "row" p7) (.Slice (some (.BinOp (.Name "CLUSTER" p8) .Add (.Constant (.int 1) kk' p9) p10)) none none p11) p12) p13) Q := by
  refine Evp.bin c (Evp.bin c (Evp.sliceT c (Evp.name c hx (Evo.none_ (Evo.some_ (Evp.CLUSTER c B G ⟨1, rfl, l7 y, _, rfl, by simp [l7], pickT_upto 1 (by simp [l7]), Evp.tuple c (Evs.cons c ((he _).mono fun d k' ⟨e1, e2⟩ => Evs.nil ⟨by simp, ?_⟩) hst)⟩ hk))))))
  subst e1; subst e2
  refine ⟨_, op_addtup (by simp [l7]) (by simp) (by simp [l7]), Evp.sliceT c (Evp.name c hx (Evo.some_ (Evp.bin c (Evp.CLUSTER c B G (Evp.cint c ⟨_, op_add, _, rfl, Evo.none_ ⟨l7 y, _, rfl, by simp [l7], pickT_from 2 (by simp) (by simp [l7]), _, op_addtup (by simp [l7]) (by simp [l7]) (by simp [l7]), ?_⟩⟩) hk))))⟩
  exact hq
end

section
variable {prog : Program} {h0 : Heap} {K : Frag}
theorem F_moved (B : Top0 K h0) (G : Gl K) {a Cs : Addr} (F : FnAt K a (stAt topS 20)) (hC : AttrOK K Cs "rows") (rs : List Row) (b : Bool) (hl : rs.length ≤ 1000) (bg : Int) :
    FnOK prog h0 1 a [shapedD Cs rs b, .int bg] (rowsD (movedOf rs bg)) := by
  obtain ⟨oc, od, osl, doc, pm, cdv, ct, an, ho, hcd⟩ := F.rec_
  refine FnOK.of B ["shaped", "begin"] ho hcd (fun args h => ?_) (fun n x hx => ?_) (by decide) rfl (fun w A L' s0 C X c => ?_) rfl rfl rfl
  · obtain ⟨a, b, rfl⟩ := len2 h
    rfl
  · exact kAll n rfl x hx
  · refine Exps.ret c (Evp.comp0 encR c (Itr.list c (Evp.attr c B (Evp.name c rfl ⟨Cs, _, rowsD rs, rfl, rfl, rfl, hC, _, rfl, rs, fun r => Row.d (r.shift bg), rfl, by omega, fun cl Lc s₀ C X c' y hy k => ?_, ?_⟩))))
    · refine Evp.rowCut c' B G (y := y) rfl rfl (y.cl + bg) (fun k => Evp.bin c' (Evp.itemT c' (Evp.name c' rfl (Evp.CLUSTER c' B G ⟨_, 1, 1, _, rfl, rfl, by decide, by decide, rfl, rfl, Evp.name c' rfl ⟨_, op_add, rfl, rfl⟩⟩)))) rfl rfl
    · show D.list _ = D.list _
      unfold movedOf
      rw [List.map_map]; rfl
theorem F_rows_between (B : Top0 K h0) (G : Gl K) {a Cs : Addr} (F : FnAt K a (stAt topS 25)) (hg : nsIn K mainGlobals "Shaped" = some (some (.ref Cs))) (hkp : keepIn K (.ref Cs) = true) (hC : AttrOK K Cs "rows") (hC2 : AttrOK K Cs "is_backward")
    (mk : ∀ d1 d2, FnOK prog h0 2 Cs [d1, d2] (.inst Cs [("rows", d1), ("is_backward", d2)])) (rs : List Row) (b : Bool) (hl : rs.length ≤ 1000) (bg e : Int) :
    FnOK prog h0 3 a [shapedD Cs rs b, .int bg, .int e] (shapedD Cs (cutOf rs bg e) b) := by
  obtain ⟨oc, od, osl, doc, pm, cdv, ct, an, ho, hcd⟩ := F.rec_
  refine FnOK.of B ["shaped", "begin", "end"] ho hcd (fun args h => ?_) (fun n x hx => ?_) (by decide) rfl (fun w A L' s0 C X c => ?_) rfl rfl rfl
  · obtain ⟨a, b, c, rfl⟩ := len3 h
    rfl
  · exact kLoc rfl n x hx
  · refine Exps.cons (Exp.newOwn c (.inl rfl) rfl fun l hlX => ?_)
    let canon : Nat → S := fun i => { vars := [("rows", .raw (.ref l)), ("shaped", shapedD Cs rs b), ("begin", .int bg), ("end", .int e)], own := some (l, (cutOf (rs.take i) bg e).map Row.d) }
    refine Exps.cons (Exp.forC encR c (Itr.list c (Evp.attr c B (Evp.name c rfl ⟨Cs, _, rowsD rs, rfl, rfl, rfl, hC, _, rfl, rs, canon, rfl, fun i => XX_own, Sub.of rfl rfl ?_, fun C' X' c' i y hy => ?_, fun S' hS => ?_⟩))))
    · repeat (first | exact lkNil | refine lkCons rfl ?_)
    · have hi : i < rs.length := (List.getElem?_eq_some_iff.mp hy).1
      have ht : rs.take (i + 1) = rs.take i ++ [y] := by rw [List.take_add_one, hy]; rfl
      have hcl : ((cutOf (rs.take i) bg e).map Row.d).length ≤ 999999 := by
        unfold cutOf
        have := List.length_filter_le (inside bg e) (rs.take i)
        simp at this ⊢; omega
      refine Asg.name c' (.inl rfl) ?_
      refine Exps.cons (Exp.ifs (Tst.betwE c' (i := bg) (j := y.cl) (x := e) (fun k => Evp.name c' rfl ⟨rfl, rfl⟩) (fun k => Evp.itemT c' (Evp.name c' rfl (Evp.CLUSTER c' B G ⟨_, 1, 1, _, rfl, rfl, by decide, by decide, rfl, rfl, rfl, rfl⟩))) (fun k => Evp.name c' rfl ⟨rfl, rfl⟩) ?_))
      have hcut : cutOf (rs.take (i + 1)) bg e = cutOf (rs.take i) bg e ++ (if inside bg e y then [{ y with cl := y.cl - bg }] else []) := by
        unfold cutOf
        rw [ht, List.filter_append, List.map_append]
        by_cases q : inside bg e y = true
        · rw [if_pos q, List.filter_cons, if_pos q]; rfl
        · rw [if_neg q, List.filter_cons, if_neg q]; rfl
      show if inside bg e y = true then _ else _
      by_cases q : inside bg e y = true
      · rw [if_pos q]
        refine Exps.cons (Exp.append c' (l := l) (ds := (cutOf (rs.take i) bg e).map Row.d) rfl rfl hcl ?_)
        refine Evp.rowCut c' B G (y := y) rfl rfl (y.cl - bg) (fun k => Evp.bin c' (Evp.itemT c' (Evp.name c' rfl (Evp.CLUSTER c' B G ⟨_, 1, 1, _, rfl, rfl, by decide, by decide, rfl, rfl, Evp.name c' rfl ⟨_, op_sub, rfl, rfl⟩⟩)))) rfl ?_
        refine Exps.nil (Exps.nil (Sub.of ?_ rfl ?_))
        · show some (l, (cutOf (rs.take (i + 1)) bg e).map Row.d) = _
          rw [hcut, if_pos q, List.map_append]; rfl
        · repeat (first | exact lkNil | refine lkCons rfl ?_)
      · rw [if_neg q]
        refine Exps.nil (Exps.nil (Sub.of ?_ rfl ?_))
        · show some (l, (cutOf (rs.take (i + 1)) bg e).map Row.d) = _
          rw [hcut, if_neg q, List.append_nil]; rfl
        · repeat (first | exact lkNil | refine lkCons rfl ?_)
    · refine Exps.sub (Exps.freeze (x := "rows") (l := l) (ds := (cutOf (rs.take rs.length) bg e).map Row.d) rfl hlX rfl ?_) hS
      refine Exps.ret c (Evp.callFn c B hg hkp (Evs.cons c (Evp.name c rfl (Evs.cons c (Evp.attr c B (Evp.name c rfl ⟨Cs, _, .bool b, rfl, rfl, rfl, hC2, Evs.nil ⟨_, 2, Nat.le_refl _, mk _ _, ?_⟩⟩))))) rfl)
      rw [List.take_length]
end
end Mine
end

section
set_option linter.unusedVariables false
open PySem PySem.W PyProof.Rows
set_option maxRecDepth 100000
namespace Mine

section
variable {prog : Program} {h0 : Heap} {cx : Cx} {n : Nat} {S₀ : S} {K : S → Prop} {R : D → S → Prop} {E : Value → Shared → Prop}
/-- while, over canonical states -/
theorem Exp.whileC {β : Type} {test : PySem.Expr} {body : List Stmt} {pos : Pos} (canon : β → S) (meas : β → Nat) (P : β → Prop) (b0 : β) (hP : P b0) (hI : Sub (canon b0) S₀)
    (turn : ∀ b, P b → Tst prog cx (canon b) test fun t k => if t then Exps prog cx (fun _ _ => False) { canon b with cnt := k } body (fun S₂ => ∃ b', meas b' < meas b ∧ P b' ∧ Sub (canon b') S₂) (fun _ _ => False) else K { canon b with cnt := k }) :
    Exp prog cx E S₀ (.While test body [] pos) K R := fun s t => by
  refine wpAny_While (codeAny_whileLoop (fun m s' => ∃ b, St cx (canon b) s' ∧ meas b = m ∧ P b) ?_ (meas b0) ⟨b0, t.sub hI, rfl, hP⟩)
  rintro m s' ⟨b, t', hm, P'⟩
  refine wpAny_mono (turn b P' s' t') (fun v s₂ ⟨k, t₂, k₂, q⟩ => ?_) fun _ _ x => x.elim
  cases v with
  | false =>
    simp only [Bool.false_eq_true, if_false] at q ⊢
    exact wpAny_execs_nil (.inl ⟨rfl, _, t₂, q⟩)
  | true =>
    simp only [if_true] at q ⊢
    refine wpAny_mono (q s₂ t₂) (fun f s₃ p => ?_) fun _ _ x => x.elim
    rcases p with ⟨e, S₃, t₃, b', hm', P₃, hS⟩ | ⟨_, _, _, _, _, _, f⟩
    · subst e; exact ⟨meas b', hm ▸ hm', b', t₃.sub hS, rfl, P₃⟩
    · exact f.elim
end

noncomputable def lineCand (rs : List Row) (L b : Int) : List Int := (placesOf rs L ++ [L]).filter fun p => cmpI .Gt p b
noncomputable def lineNarrow (rs : List Row) (L b W : Int) : List Int := (lineCand rs L b).filter fun p => cmpI .LtE (advOf rs b p) W
noncomputable def lineEndOf (rs : List Row) (L b W : Int) : Int := if cmpI .Gt ((lineNarrow rs L b W).length : Int) 0 then lmax (lineNarrow rs L b W) else (lineCand rs L b).headD 0
noncomputable def linesGo (rs : List Row) (L W : Int) : Nat → Int → List (Int × Int)
  | 0, _ => []
  | k + 1, b => if b < L then (b, lineEndOf rs L b W) :: linesGo rs L W k (lineEndOf rs L b W) else []

theorem lineCand_ne {rs : List Row} {L b : Int} (hb : b < L) : lineCand rs L b ≠ [] := by
  intro e
  have : L ∈ lineCand rs L b := by
    unfold lineCand
    rw [List.mem_filter]
    exact ⟨by simp, by simp [cmpI, hb]⟩
  rw [e] at this; cases this
theorem lineCand_mem {rs : List Row} {L b x : Int} (hp : ∀ p ∈ placesOf rs L, p < L) (h : x ∈ lineCand rs L b) : b < x ∧ x ≤ L := by
  unfold lineCand at h
  rw [List.mem_filter, List.mem_append] at h
  obtain ⟨h1, h2⟩ := h
  refine ⟨by simpa [cmpI] using h2, ?_⟩
  rcases h1 with h1 | h1
  · exact Int.le_of_lt (hp x h1)
  · simp at h1; omega
theorem headD_mem : ∀ {l : List Int}, l ≠ [] → l.headD 0 ∈ l
  | [], h => (h rfl).elim
  | a :: l, _ => by simp
theorem lineEnd_mem {rs : List Row} {L b W : Int} (hb : b < L) : lineEndOf rs L b W ∈ lineCand rs L b := by
  unfold lineEndOf
  by_cases q : cmpI .Gt ((lineNarrow rs L b W).length : Int) 0 = true
  · rw [if_pos q]
    have hne : lineNarrow rs L b W ≠ [] := fun e => by rw [e] at q; simp [cmpI] at q
    exact (List.mem_filter.mp (lmax_spec hne).1).1
  · rw [if_neg q]; exact headD_mem (lineCand_ne hb)
theorem lineEnd_gt {rs : List Row} {L b W : Int} (hb : b < L) (hp : ∀ p ∈ placesOf rs L, p < L) : b < lineEndOf rs L b W ∧ lineEndOf rs L b W ≤ L := lineCand_mem hp (lineEnd_mem hb)

section
variable {prog : Program} {h0 : Heap} {K : Frag}
theorem F_joined (B : Top0 K h0) (G : Gl K) {a a1 Cs : Addr} (F : FnAt K a (stAt topS 21)) (F1 : FnAt K a1 (stAt topS 20)) (hg : nsIn K mainGlobals "Shaped" = some (some (.ref Cs))) (hkp : keepIn K (.ref Cs) = true)
    (mv : ∀ rs b bg, rs.length ≤ 1000 → FnOK prog h0 1 a1 [shapedD Cs rs b, .int bg] (rowsD (movedOf rs bg)))
    (mk : ∀ d1 d2, FnOK prog h0 2 Cs [d1, d2] (.inst Cs [("rows", d1), ("is_backward", d2)])) (ps : List (List Row)) (bs : List Int) (bw : Bool) (hne : 0 < ps.length) (hlb : ps.length ≤ bs.length) (hpl : ps.length ≤ 1000) (hsum : ((ps.zip bs).map fun p => p.1.length).sum ≤ 1000) :
    FnOK prog h0 3 a [.list (ps.map fun rs => shapedD Cs rs bw), .list (nums bs), .bool bw] (shapedD Cs (joinOf bw (ps.zip bs)) bw) := by
  obtain ⟨oc, od, osl, doc, pm, cdv, ct, an, ho, hcd⟩ := F.rec_
  refine FnOK.of B ["pieces", "begins", "is_backward"] ho hcd (fun args h => ?_) (fun n x hx => ?_) (by decide) rfl (fun w A L' s0 C X c => ?_) rfl rfl rfl
  · obtain ⟨a, b, c, rfl⟩ := len3 h
    rfl
  · exact kLoc rfl n x hx
  · have hz : ps.length = (ps.zip bs).length := by simp; omega
    refine Exps.cons (Exp.assign c (.inl rfl) (Evp.list c (Evs.nil ⟨by simp, ?_⟩)))
    let canon : Nat → S := fun i => { vars := [("rows", rowsD (((ps.zip bs).take i).foldl (joinStep bw) [])), ("pieces", .list (ps.map fun rs => shapedD Cs rs bw)), ("begins", .list (nums bs)), ("is_backward", .bool bw)] }
    refine Exps.cons (Exp.forC (encP Cs bw) c (Itr.zip c B (G.bl "zip" (by decide)) boot_zip (by decide) (Evs.cons c (Evp.name c rfl (Evs.cons c (Evp.name c rfl (Evs.nil ⟨_, _, rfl, ps.zip bs, canon, pairs_enc ps bs, fun i => rfl, Sub.of rfl rfl ?_, fun C' X' c' i y hy => ?_, fun S' hS => ?_⟩))))) rfl))
    · repeat (first | exact lkNil | refine lkCons rfl ?_)
    · have hi : i < (ps.zip bs).length := (List.getElem?_eq_some_iff.mp hy).1
      have ht : (ps.zip bs).take (i + 1) = (ps.zip bs).take i ++ [y] := by rw [List.take_add_one, hy]; rfl
      have hsum' : ∀ j, (((ps.zip bs).take j).foldl (joinStep bw) []).length ≤ 1000 := fun j => by
        rw [foldl_join_len]
        have := sum_take_le ((ps.zip bs).map fun p => p.1.length) j
        rw [List.map_take]
        simp only [List.length_nil]; omega
      have hstep : ((ps.zip bs).take (i + 1)).foldl (joinStep bw) [] = joinStep bw (((ps.zip bs).take i).foldl (joinStep bw) []) y := by
        rw [ht, List.foldl_append]; rfl
      have hl1 := hsum' (i + 1)
      rw [hstep] at hl1
      have hy1 : (movedOf y.1 y.2).length ≤ 1000 := by
        unfold joinStep at hl1
        cases bw <;> simp at hl1 <;> omega
      have hy2 : y.1.length ≤ 1000 := by simpa [movedOf] using hy1
      have h0l := hsum' i
      refine Asg.pair c' (.inl rfl) (.inl rfl) ?_
      refine Exps.cons (Exp.assign c' (.inl rfl) (Evp.callFn c' B F1.glob F1.keep (Evs.cons c' (Evp.name c' rfl (Evs.cons c' (Evp.name c' rfl (Evs.nil ⟨_, 1, by omega, mv y.1 bw y.2 hy2, ?_⟩))))) rfl))
      refine Exps.cons (Exp.assign c' (.inl rfl) (Evp.ite (Tst.plain c' (Evp.name c' rfl ⟨bw, Tru.bool bw, ?_⟩))))
      have fin : ∀ d, d = rowsD (joinStep bw (((ps.zip bs).take i).foldl (joinStep bw) []) y) → ∀ S₂ : S, S₂ = stored (stored (stored (stored (canon i) "piece" (shapedD Cs y.1 bw)) "begin" (.int y.2)) "moved" (rowsD (movedOf y.1 y.2))) "rows" d → Sub (canon (i + 1)) S₂ := fun d hd S₂ e => by
        subst e; subst hd
        refine Sub.of rfl rfl ?_
        intro q hq
        simp only [canon, List.mem_cons, List.not_mem_nil, or_false] at hq
        rcases hq with rfl | rfl | rfl | rfl
        · rw [hstep]; rfl
        · rfl
        · rfl
        · rfl
      cases hbw : bw with
      | true =>
        simp only [if_true]
        subst hbw
        refine Evp.bin c' (Evp.name c' rfl (Evp.name c' rfl ⟨_, op_addlist (as := (movedOf y.1 y.2).map Row.d) (bs := (((ps.zip bs).take i).foldl (joinStep true) []).map Row.d) (by simp only [List.length_map]; omega), ?_⟩))
        exact Exps.nil (fin _ (by rw [← List.map_append]; rfl) _ rfl)
      | false =>
        simp only [Bool.false_eq_true, if_false]
        subst hbw
        refine Evp.bin c' (Evp.name c' rfl (Evp.name c' rfl ⟨_, op_addlist (as := (((ps.zip bs).take i).foldl (joinStep false) []).map Row.d) (bs := (movedOf y.1 y.2).map Row.d) (by simp only [List.length_map]; omega), ?_⟩))
        exact Exps.nil (fin _ (by rw [← List.map_append]; rfl) _ rfl)
    · refine Exps.sub (S' := canon (ps.zip bs).length) ?_ hS
      refine Exps.ret c (Evp.callFn c B hg hkp (Evs.cons c (Evp.name c rfl (Evs.cons c (Evp.name c rfl (Evs.nil ⟨_, 2, Nat.le_refl _, mk _ _, ?_⟩))))) rfl)
      rw [List.take_length]; rfl
theorem F_line_end (B : Top0 K h0) (G : Gl K) {a a1 a2 Cs : Addr} (F : FnAt K a (stAt topS 23)) (F1 : FnAt K a1 (stAt topS 14)) (F2 : FnAt K a2 (stAt topS 22)) {rs : List Row} (b : Bool) {L : Int}
    (f1 : FnOK prog h0 2 a1 [shapedD Cs rs b, .int L] (.list (nums (placesOf rs L)))) (f2 : ∀ bg e, FnOK prog h0 1 a2 [shapedD Cs rs b, .int bg, .int e] (.int (advOf rs bg e))) (hl : (placesOf rs L).length ≤ 1000) (bg W : Int) (hb : bg < L) :
    FnOK prog h0 3 a [shapedD Cs rs b, .int L, .int bg, .int W] (.int (lineEndOf rs L bg W)) := by
  obtain ⟨oc, od, osl, doc, pm, cdv, ct, an, ho, hcd⟩ := F.rec_
  refine FnOK.of B ["shaped", "length", "begin", "width"] ho hcd (fun args h => ?_) (fun n x hx => ?_) (by decide) rfl (fun w A L' s0 C X c => ?_) rfl rfl rfl
  · obtain ⟨a, b, c, d, rfl⟩ := len4 h
    rfl
  · exact kAll n rfl x hx
  · have hcl : (lineCand rs L bg).length ≤ 1001 := by
      have := List.length_filter_le (fun p => cmpI .Gt p bg) (placesOf rs L ++ [L])
      simp only [List.length_append, List.length_singleton] at this
      unfold lineCand; omega
    have hnl : (lineNarrow rs L bg W).length ≤ 1001 := Nat.le_trans (List.length_filter_le _ _) hcl
    refine Exps.cons (Exp.assignComp c (CompRes.c1 encI (Itr.list c (Evp.bin c (Evp.callFn c B F1.glob F1.keep (Evs.cons c (Evp.name c rfl (Evs.cons c (Evp.name c rfl (Evs.nil ⟨_, 2, Nat.le_refl _, f1, ?_⟩))))) rfl)))) (.inl rfl))
    refine Evp.list c (Evs.cons c (Evp.name c rfl (Evs.nil ⟨by simp, _, op_addlist (as := nums (placesOf rs L)) (bs := nums [L]) (by simp [nums]; omega), _, rfl, placesOf rs L ++ [L], fun p => cmpI .Gt p bg, fun p => .int p, by simp [nums, encI], by simp; omega, fun cl Lc s₀ C X c' y hy => ?_, fun cl Lc s₀ C X c' y hy hb k => ?_, ?_⟩)))
    · exact Tst.cmpI c' (Evp.name c' rfl ⟨y, rfl, Evp.name c' rfl ⟨bg, rfl, rfl⟩⟩)
    · exact Evp.name c' rfl rfl
    refine Exps.cons (Exp.assignComp c (CompRes.c1 encI (Itr.list c (Evp.name c rfl ⟨_, rfl, lineCand rs L bg, fun p => cmpI .LtE (advOf rs bg p) W, fun p => .int p, rfl, by omega, fun cl Lc s₀ C X c' y hy => ?_, fun cl Lc s₀ C X c' y hy hb k => ?_, ?_⟩))) (.inl rfl))
    · exact Tst.cmpI c' (Evp.callFn c' B F2.glob F2.keep (Evs.cons c' (Evp.name c' rfl (Evs.cons c' (Evp.name c' rfl (Evs.cons c' (Evp.name c' rfl (Evs.nil ⟨_, 1, by omega, f2 bg y, _, rfl, Evp.name c' rfl ⟨W, rfl, rfl⟩⟩))))))) rfl)
    · exact Evp.name c' rfl rfl
    refine Exps.ret c (Evp.ite (Tst.cmpI c (Evp.callB c B (G.bl "len" (by decide)) boot_len' (by decide) (Evs.cons c (Evp.name c rfl (Evs.nil ⟨_, call_len (by rw [List.length_map]; exact Nat.le_trans hnl (by decide)), _, rfl, Evp.cint c ⟨0, rfl, ?_⟩⟩))) rfl)))
    rw [show ((List.map (fun p => D.int p) (List.filter (fun p => cmpI CmpOp.LtE (advOf rs bg p) W) (lineCand rs L bg))).length : Int) = ((lineNarrow rs L bg W).length : Int) by rw [List.length_map]; rfl]
    have hE : lineEndOf rs L bg W = if cmpI .Gt ((lineNarrow rs L bg W).length : Int) 0 then lmax (lineNarrow rs L bg W) else (lineCand rs L bg).headD 0 := rfl
    by_cases q : cmpI .Gt ((lineNarrow rs L bg W).length : Int) 0 = true
    · rw [if_pos q] at hE ⊢
      have hne : lineNarrow rs L bg W ≠ [] := fun e => by rw [e] at q; simp [cmpI] at q
      exact Evp.callB c B (G.bl "max" (by decide)) boot_max' (by decide) (Evs.cons c (Evp.name c rfl (Evs.nil ⟨_, call_maxL c.lv (ns := lineNarrow rs L bg W) hne, by rw [hE]⟩))) rfl
    · rw [if_neg q] at hE ⊢
      have hne := lineCand_ne (rs := rs) hb
      cases hc : lineCand rs L bg with
      | nil => exact (hne hc).elim
      | cons z zs =>
        rw [hc] at hE
        refine Evp.itemL c (Evp.name c rfl (Evp.cint c ⟨nums (z :: zs), 0, .int z, ?_, rfl, ?_, ?_, ?_, rfl, ?_⟩))
        · show D.list (List.map (fun p => D.int p) (lineCand rs L bg)) = _
          rw [hc]
        · have := hcl; rw [hc] at this; simp [nums] at this ⊢; omega
        · simp [nums]; omega
        · simp [nums]
        · rw [hE]; rfl
theorem linesGo_enough (rs : List Row) (L W : Int) (hp : ∀ p ∈ placesOf rs L, p < L) : ∀ (k j : Nat) {b : Int}, (L - b).toNat ≤ k → (L - b).toNat ≤ j → linesGo rs L W k b = linesGo rs L W j b
  | 0, 0, _, _, _ => rfl
  | 0, j + 1, b, h1, _ => by
    show [] = if b < L then _ else []
    rw [if_neg (by omega)]
  | k + 1, 0, b, _, h2 => by
    show (if b < L then _ else []) = []
    rw [if_neg (by omega)]
  | k + 1, j + 1, b, h1, h2 => by
    show (if b < L then _ else []) = (if b < L then _ else [])
    by_cases q : b < L
    · rw [if_pos q, if_pos q]
      obtain ⟨g1, g2⟩ := lineEnd_gt (rs := rs) (W := W) q hp
      rw [linesGo_enough rs L W hp k j (by omega) (by omega)]
    · rw [if_neg q, if_neg q]
theorem F_lines_of (B : Top0 K h0) (G : Gl K) {a a1 Cs : Addr} (F : FnAt K a (stAt topS 24)) (F1 : FnAt K a1 (stAt topS 23)) {rs : List Row} (b : Bool) {L W : Int}
    (f1 : ∀ bg, bg < L → FnOK prog h0 3 a1 [shapedD Cs rs b, .int L, .int bg, .int W] (.int (lineEndOf rs L bg W))) (hp : ∀ p ∈ placesOf rs L, p < L) (hL : L ≤ 1000) :
    FnOK prog h0 4 a [shapedD Cs rs b, .int L, .int W] (.list ((linesGo rs L W L.toNat 0).map encII.enc)) := by
  obtain ⟨oc, od, osl, doc, pm, cdv, ct, an, ho, hcd⟩ := F.rec_
  refine FnOK.of B ["shaped", "length", "width"] ho hcd (fun args h => ?_) (fun n x hx => ?_) (by decide) rfl (fun w A L' s0 C X c => ?_) rfl rfl rfl
  · obtain ⟨a, b, c, rfl⟩ := len3 h
    rfl
  · exact kAll n rfl x hx
  · refine Exps.cons (Exp.newOwn c (.inl rfl) rfl fun l hlX => ?_)
    refine Exps.cons (Exp.assign c (.inl rfl) (Evp.cint c ?_))
    let full := linesGo rs L W L.toNat 0
    let canon : Int × List (Int × Int) → S := fun q => { vars := [("begin", .int q.1), ("found", .raw (.ref l)), ("shaped", shapedD Cs rs b), ("length", .int L), ("width", .int W)], own := some (l, q.2.map encII.enc) }
    refine Exps.cons (Exp.whileC canon (fun q => (L - q.1).toNat) (fun q => 0 ≤ q.1 ∧ (q.1 ≤ L ∨ q.1 = 0) ∧ (q.2.length : Int) ≤ q.1 ∧ q.2 ++ linesGo rs L W (L - q.1).toNat q.1 = full) (0, []) ⟨Int.le_refl _, .inr rfl, Int.le_refl _, by
      show [] ++ linesGo rs L W (L - 0).toNat 0 = _
      rw [Int.sub_zero]; rfl⟩ (Sub.of rfl rfl ?_) fun q hP => ?_)
    · repeat (first | exact lkNil | refine lkCons rfl ?_)
    · obtain ⟨bg, acc⟩ := q
      obtain ⟨h1, h2, h3, h4⟩ := hP
      replace h1 : 0 ≤ bg := h1
      replace h2 : bg ≤ L ∨ bg = 0 := h2
      replace h3 : (acc.length : Int) ≤ bg := h3
      replace h4 : acc ++ linesGo rs L W (L - bg).toNat bg = full := h4
      refine Tst.cmpI c (Evp.name c rfl ⟨bg, rfl, Evp.name c rfl ⟨L, rfl, ?_⟩⟩)
      by_cases q : bg < L
      · rw [show cmpI .Lt bg L = true by simp [cmpI, q]]
        simp only [if_true]
        obtain ⟨g1, g2⟩ := lineEnd_gt (rs := rs) (W := W) q hp
        have hk : (L - bg).toNat = ((L - bg).toNat - 1) + 1 := by omega
        rw [hk, show linesGo rs L W ((L - bg).toNat - 1 + 1) bg = if bg < L then (bg, lineEndOf rs L bg W) :: linesGo rs L W ((L - bg).toNat - 1) (lineEndOf rs L bg W) else [] from rfl, if_pos q] at h4
        refine Exps.cons (Exp.assign c (.inl rfl) (Evp.callFn c B F1.glob F1.keep (Evs.cons c (Evp.name c rfl (Evs.cons c (Evp.name c rfl (Evs.cons c (Evp.name c rfl (Evs.cons c (Evp.name c rfl (Evs.nil ⟨_, 3, by omega, f1 bg q, ?_⟩))))))))) rfl))
        refine Exps.cons (Exp.append c (l := l) (ds := acc.map encII.enc) rfl rfl (by simp; omega) ?_)
        refine Evp.tuple c (Evs.cons c (Evp.name c rfl (Evs.cons c (Evp.name c rfl (Evs.nil ⟨by simp, ?_⟩)))))
        refine Exps.cons (Exp.assign c (.inl rfl) (Evp.name c rfl (Exps.nil ⟨(lineEndOf rs L bg W, acc ++ [(bg, lineEndOf rs L bg W)]), ?_, ⟨?_, .inl g2, ?_, ?_⟩, Sub.of ?_ rfl ?_⟩)))
        · show (L - lineEndOf rs L bg W).toNat < (L - bg).toNat
          omega
        · show 0 ≤ lineEndOf rs L bg W
          omega
        · show ((acc ++ [(bg, lineEndOf rs L bg W)]).length : Int) ≤ lineEndOf rs L bg W
          simp; omega
        · show (acc ++ [(bg, lineEndOf rs L bg W)]) ++ linesGo rs L W (L - lineEndOf rs L bg W).toNat (lineEndOf rs L bg W) = full
          rw [← h4, List.append_assoc]
          congr 1
          show _ :: _ = _ :: _
          congr 1
          exact linesGo_enough rs L W hp _ _ (by omega) (by omega)
        · show some (l, (acc ++ [(bg, lineEndOf rs L bg W)]).map encII.enc) = _
          rw [List.map_append]; rfl
        · repeat (first | exact lkNil | refine lkCons rfl ?_)
      · rw [show cmpI .Lt bg L = false by simp [cmpI, q]]
        simp only [Bool.false_eq_true, if_false]
        have hno : linesGo rs L W (L - bg).toNat bg = [] := by
          cases hk : (L - bg).toNat with
          | zero => rfl
          | succ k => rw [show linesGo rs L W (k + 1) bg = if bg < L then (bg, lineEndOf rs L bg W) :: linesGo rs L W k (lineEndOf rs L bg W) else [] from rfl, if_neg q]
        rw [hno, List.append_nil] at h4
        refine Exps.freeze (x := "found") (l := l) (ds := acc.map encII.enc) rfl hlX rfl ?_
        refine Exps.ret c (Evp.name c rfl ?_)
        rw [h4]
end
end Mine
end

section
set_option linter.unusedVariables false
open PySem PySem.W PyProof.Rows
set_option maxRecDepth 100000
namespace Mine

/-- a def's record at the address a, whatever its qualified name -/
structure MetAt (K : Frag) (a : Addr) (st : Stmt) : Prop where
  rec_ : ∃ qual oc od osl doc pm cdv ct an, K.lookup a = some ⟨oc, od, .func (fnOf (nameOf st) qual (argsOf st) (bodyOf st) (scopeOf st) .none .none doc pm an cdv ct), osl⟩ ∧ codeIn K cdv qual = true

section
variable {prog : Program} {h0 : Heap} {K : Frag}
theorem F_shaped_lines (B : Top0 K h0) (G : Gl K) {a a1 a2 Cs : Addr} (F : FnAt K a (stAt topS 26)) (F1 : FnAt K a1 (stAt topS 24)) (F2 : FnAt K a2 (stAt topS 25)) {rs : List Row} (b : Bool) {L W : Int} {ls : List (Int × Int)}
    (f1 : FnOK prog h0 4 a1 [shapedD Cs rs b, .int L, .int W] (.list (ls.map encII.enc))) (f2 : ∀ bg e, FnOK prog h0 3 a2 [shapedD Cs rs b, .int bg, .int e] (shapedD Cs (cutOf rs bg e) b)) (hl : ls.length ≤ 1000) :
    FnOK prog h0 5 a [shapedD Cs rs b, .int L, .int W] (.list (ls.map fun q => shapedD Cs (cutOf rs q.1 q.2) b)) := by
  obtain ⟨oc, od, osl, doc, pm, cdv, ct, an, ho, hcd⟩ := F.rec_
  refine FnOK.of B ["shaped", "length", "width"] ho hcd (fun args h => ?_) (fun n x hx => ?_) (by decide) rfl (fun w A L' s0 C X c => ?_) rfl rfl rfl
  · obtain ⟨a, b, c, rfl⟩ := len3 h
    rfl
  · exact kAll n rfl x hx
  · refine Exps.ret c (Evp.comp0P encII c (Itr.list c (Evp.callFn c B F1.glob F1.keep (Evs.cons c (Evp.name c rfl (Evs.cons c (Evp.name c rfl (Evs.cons c (Evp.name c rfl (Evs.nil ⟨_, 4, Nat.le_refl _, f1, _, rfl, ls, fun q => shapedD Cs (cutOf rs q.1 q.2) b, rfl, by omega, fun cl Lc s₀ C X c' z hz => ⟨_, _, rfl, fun k => ?_⟩, rfl⟩))))))) rfl)))
    exact Evp.callFn c' B F2.glob F2.keep (Evs.cons c' (Evp.name c' rfl (Evs.cons c' (Evp.name c' rfl (Evs.cons c' (Evp.name c' rfl (Evs.nil ⟨_, 3, by decide, f2 z.1 z.2, rfl⟩))))))) rfl
end

-- pieces of a text
noncomputable def cutsBad (cs : List Int) (L : Int) : Bool := cmpI .Gt (cs.length : Int) 0 && !(cmpI .Lt 0 (cs.headD 0) && (cmpI .LtE (cs.headD 0) (cs.getLastD 0) && cmpI .Lt (cs.getLastD 0) L))
noncomputable def piecesOf (cs : List Int) (L : Int) : List (Int × Int) := ([0] ++ cs).zip (cs ++ [L])
noncomputable def raiseS : List Stmt := match stAt (bodyOf (stAt topS 18)) 1 with
  | .If _ b _ _ => b
  | _ => []
theorem getLastD_get : ∀ {cs : List Int}, cs ≠ [] → (nums cs)[(cs.length - 1 : Nat)]? = some (.int (cs.getLastD 0))
  | [], h => (h rfl).elim
  | c :: cs, _ => by
    unfold nums
    rw [List.getElem?_map]
    have : (c :: cs)[(c :: cs).length - 1]? = some ((c :: cs).getLastD 0) := by
      rw [← List.getLast?_eq_getElem?]
      simp [List.getLastD, List.getLast?]
    rw [this]; rfl
section
variable {prog : Program} {h0 : Heap} {K : Frag} {w : World} {A : Around} {L' f : Addr} {cdv : Value} {s0 : Shared} {C : Addr → Option Obj} {X : Addr → Prop} {n : Nat} {E : Value → Shared → Prop} {R : D → S → Prop}
theorem stretches_walk (B : Top0 K h0) (G : Gl K) {ps : List Int} {L : Int} (hl : ps.length ≤ 17) (hs : ∀ p ∈ ps, Small p)
    (c : CxOK h0 n (fnCx w A "stretches" (scopeOf (stAt topS 18)) L' f cdv s0 C X none))
    (hbad : cutsBad (ssort ps) L = true → ∀ S₁, Exps prog (fnCx w A "stretches" (scopeOf (stAt topS 18)) L' f cdv s0 C X none) E S₁ raiseS (fun _ => False) R)
    (hgood : cutsBad (ssort ps) L = false → ∀ S₁, R (.list ((piecesOf (ssort ps) L).map encII.enc)) S₁) :
    Exps prog (fnCx w A "stretches" (scopeOf (stAt topS 18)) L' f cdv s0 C X none) E { vars := [("length", .int L), ("places", .list (nums ps))] } (bodyOf (stAt topS 18)) (fun _ => False) R := by
  have hcl : (ssort ps).length ≤ 17 := by
    have := @clusters_len (ps.map fun p => ⟨0, p, 0, 0, 0, 0, false⟩) ⟨by simpa using hl, fun r hr => by
      obtain ⟨p, hp, rfl⟩ := List.mem_map.mp hr
      exact hs p hp⟩
    unfold clustersOf at this
    rw [List.map_map] at this
    have e : ((fun x : Row => x.cl) ∘ fun p => (⟨0, p, 0, 0, 0, 0, false⟩ : Row)) = id := rfl
    rw [e, List.map_id] at this
    exact this
  refine Exps.cons (Exp.assign c (.inl rfl) (Evp.sortedSet c B (G.bl "sorted" (by decide)) boot_sorted' (by decide) (G.bl "set" (by decide)) boot_set (by decide) (Evp.name c rfl ⟨ps, rfl, hl, hs, ?_⟩) rfl rfl))
  generalize hcs : ssort ps = cs at *
  let S1 : S := stored { vars := [("length", .int L), ("places", .list (nums ps))] } "cuts" (.list (nums cs))
  have hT : Tst prog (fnCx w A "stretches" (scopeOf (stAt topS 18)) L' f cdv s0 C X none) S1 (match stAt (bodyOf (stAt topS 18)) 1 with | .If t _ _ _ => t | _ => .Constant .none 0 ⟨0, 0, 0, 0⟩) fun b k => b = cutsBad cs L ∧ k = 0 := by
    refine Tst.and2 (Tst.cmpI c (Evp.callB c B (G.bl "len" (by decide)) boot_len' (by decide) (Evs.cons c (Evp.name c rfl (Evs.nil ⟨_, call_len (by simp [nums]; omega), _, rfl, Evp.cint c ⟨0, rfl, fun h => ?_, fun h => ?_⟩⟩))) rfl))
    · refine ⟨?_, rfl⟩
      unfold cutsBad
      rw [show (cs.length : Int) = ((nums cs).length : Int) by simp [nums], h]; rfl
    · have hne : cs ≠ [] := fun e => by subst e; simp [cmpI, nums] at h
      have hhd : (nums cs)[0]? = some (.int (cs.headD 0)) := by
        cases cs with
        | nil => exact (hne rfl).elim
        | cons z zs => rfl
      have hlp : 0 < cs.length := List.length_pos_iff.mpr hne
      have hB : cutsBad cs L = !(cmpI .Lt 0 (cs.headD 0) && (cmpI .LtE (cs.headD 0) (cs.getLastD 0) && cmpI .Lt (cs.getLastD 0) L)) := by
        unfold cutsBad
        rw [show (cs.length : Int) = ((nums cs).length : Int) by simp [nums], h, Bool.true_and]
      refine Tst.not (Tst.chain c (Evp.cint c (Chn.link c (Evp.itemL c (Evp.name c rfl (Evp.cint c ⟨nums cs, 0, _, rfl, rfl, by simp [nums]; omega, by simp [nums]; skip, by simp [nums]; omega, hhd, _, op_cmpI (op := .Lt) rfl, ?_⟩))))))
      cases h1 : cmpI .Lt 0 (cs.headD 0) with
      | false =>
        rw [h1] at hB
        exact ⟨hB.symm, rfl⟩
      | true =>
        refine Chn.link c (Evp.itemL c (Evp.name c rfl (Evp.un c (Evp.cint c ⟨_, op_neg, nums cs, -1, .int (cs.getLastD 0), rfl, rfl, by simp [nums]; omega, by simp [nums]; omega, by simp [nums]; omega, ?_, _, op_cmpI (op := .LtE) rfl, ?_⟩))))
        · have e : (if (-1 : Int) < 0 then -1 + ((nums cs).length : Int) else -1).toNat = cs.length - 1 := by
            simp [nums]; omega
          rw [e]; exact getLastD_get hne
        · cases h2 : cmpI .LtE (cs.headD 0) (cs.getLastD 0) with
          | false =>
            rw [h1, h2] at hB
            exact ⟨hB.symm, rfl⟩
          | true =>
            refine Chn.last c (Evp.name c rfl ⟨_, op_cmpI (op := .Lt) rfl, ?_⟩)
            rw [h1, h2] at hB
            simp only [Bool.true_and] at hB
            exact ⟨hB.symm, rfl⟩
  refine Exps.cons (Exp.ifs (hT.mono fun b k ⟨e1, e2⟩ => ?_))
  subst e1; subst e2
  cases hb : cutsBad cs L with
  | true => exact (hbad hb _).mono (fun _ x => x.elim) fun _ _ x => x
  | false =>
    refine Exps.nil (Exps.ret c ?_)
    refine Evp.listZip c B (G.bl "list" (by decide)) boot_list (by decide) (G.bl "zip" (by decide)) boot_zip (by decide) ?_ rfl rfl
    refine Evs.cons c (Evp.bin c (Evp.list c (Evs.cons c (Evp.cint c (Evs.nil ⟨by simp, Evp.name c rfl ⟨_, op_addlist (as := nums [0]) (bs := nums cs) (by simp [nums]; omega), Evs.cons c (Evp.bin c (Evp.name c rfl (Evp.list c (Evs.cons c (Evp.name c rfl (Evs.nil ⟨by simp, _, op_addlist (as := nums cs) (bs := nums [L]) (by simp [nums]; omega), Evs.nil ⟨_, _, rfl, by simp [nums], by simp [nums]; skip, by simp [nums]; omega, ?_⟩⟩))))))⟩⟩)))))
    have e : pairs (nums [0] ++ nums cs) (nums cs ++ nums [L]) = (piecesOf cs L).map encII.enc := by
      unfold pairs piecesOf nums
      rw [← List.map_append, ← List.map_append, List.zip_map, List.map_map]
      rfl
    rw [e]
    exact hgood hb _
end
section
variable {prog : Program} {h0 : Heap} {K : Frag}
theorem F_stretches (B : Top0 K h0) (G : Gl K) {a : Addr} (F : FnAt K a (stAt topS 18)) {ps : List Int} {L : Int} (hl : ps.length ≤ 17) (hs : ∀ p ∈ ps, Small p) (hg : cutsBad (ssort ps) L = false) :
    FnOK prog h0 1 a [.int L, .list (nums ps)] (.list ((piecesOf (ssort ps) L).map encII.enc)) := by
  obtain ⟨oc, od, osl, doc, pm, cdv, ct, an, ho, hcd⟩ := F.rec_
  refine FnOK.of B ["length", "places"] ho hcd (fun args h => ?_) (fun n x hx => ?_) (by decide) rfl (fun w A L' s0 C X c => ?_) rfl rfl rfl
  · obtain ⟨a, b, rfl⟩ := len2 h
    rfl
  · exact kLoc rfl n x hx
  · exact (stretches_walk B G hl hs c (fun h => by rw [hg] at h; cases h) fun _ _ => rfl).mono (fun _ x => x.elim) fun _ _ x => x
end
end Mine
end

section
set_option linter.unusedVariables false
open PySem PySem.W PyProof.Rows
set_option maxRecDepth 100000
namespace Mine

structure Wsh where
  tag : Str
  v : Int
  b : Int
  e : Int
noncomputable abbrev Wsh.d (C : Addr) (w : Wsh) : D := .inst C [("tag", .str w.tag), ("value", .int w.v), ("begin", .int w.b), ("end", .int w.e)]
noncomputable def wshOf : D → Wsh
  | .inst _ [(_, .str t), (_, .int v), (_, .int b), (_, .int e)] => ⟨t, v, b, e⟩
  | _ => ⟨"", 0, 0, 0⟩
noncomputable def encW (C : Addr) : Enc Wsh := ⟨Wsh.d C, wshOf, fun _ => rfl⟩
noncomputable def isWhole (w : Wsh) : Bool := w.b == 0 && w.e == -1
noncomputable def clip (b e : Int) (w : Wsh) : Option Wsh :=
  if isWhole w then some w else if cmpI .Lt (max w.b b) (if cmpI .Lt w.e 0 then e else min w.e e) then some { w with b := max w.b b - b, e := (if cmpI .Lt w.e 0 then e else min w.e e) - b } else none
noncomputable def withinOf (ws : List Wsh) (b e : Int) : List Wsh := ws.filterMap (clip b e)
noncomputable def hears (w : Wsh) (s : Int) : Bool := cmpI .LtE w.b s && (cmpI .Lt w.e 0 || cmpI .Lt s w.e)

/-- what is asked of the class Wish -/
structure WshOK (K : Frag) (C f : Addr) : Prop where
  tag : AttrOK K C "tag"
  value : AttrOK K C "value"
  begin : AttrOK K C "begin"
  «end» : AttrOK K C "end"
  whole : MethOK K C "is_whole" f
  rec_ : MetAt K f (stAt (bodyOf (stAt topS 5)) 1)

section
variable {prog : Program} {h0 : Heap} {K : Frag}
theorem F_is_whole (B : Top0 K h0) {C f : Addr} (W : WshOK K C f) (y : Wsh) : FnOK prog h0 1 f [y.d C] (.bool (isWhole y)) := by
  obtain ⟨qual, oc, od, osl, doc, pm, cdv, ct, an, ho, hcd⟩ := W.rec_.rec_
  refine FnOK.of B ["self"] ho hcd (fun args h => ?_) (fun n x hx => ?_) (by decide) rfl (fun w A L' s0 Ch X c => ?_) rfl rfl rfl
  · obtain ⟨a, rfl⟩ := len1 h
    rfl
  · exact kLoc rfl n x hx
  · refine Exps.ret c (Evp.and2 c (Evp.cmp c (Evp.attr c B (Evp.name c rfl ⟨C, _, .int y.b, rfl, rfl, rfl, W.begin, Evp.cint c ⟨_, op_eqi, _, rfl, ?_⟩⟩))))
    have e : isWhole y = (y.b == 0 && y.e == -1) := rfl
    cases q : (y.b == 0) with
    | false =>
      rw [q] at e
      show D.bool false = D.bool (isWhole y)
      rw [e]; rfl
    | true =>
      rw [q, Bool.true_and] at e
      refine Evp.cmp c (Evp.attr c B (Evp.name c rfl ⟨C, _, .int y.e, rfl, rfl, rfl, W.end, Evp.un c (Evp.cint c ⟨_, op_neg, _, op_eqi, ?_⟩)⟩))
      show D.bool (y.e == -1) = D.bool (isWhole y)
      rw [e]
theorem F_law_wish (B : Top0 K h0) {a C f : Addr} (F : FnAt K a (stAt topS 32)) (W : WshOK K C f) (y : Wsh) (sg : Int) : FnOK prog h0 1 a [y.d C, .int sg] (.bool (hears y sg)) := by
  obtain ⟨oc, od, osl, doc, pm, cdv, ct, an, ho, hcd⟩ := F.rec_
  refine FnOK.of B ["wish", "sign"] ho hcd (fun args h => ?_) (fun n x hx => ?_) (by decide) rfl (fun w A L' s0 Ch X c => ?_) rfl rfl rfl
  · obtain ⟨a, b, rfl⟩ := len2 h
    rfl
  · exact kLoc rfl n x hx
  · refine Exps.ret c (Evp.and2 c (Evp.cmp c (Evp.attr c B (Evp.name c rfl ⟨C, _, .int y.b, rfl, rfl, rfl, W.begin, Evp.name c rfl ⟨_, op_cmpI (op := .LtE) rfl, _, rfl, ?_⟩⟩))))
    have e : hears y sg = (cmpI .LtE y.b sg && (cmpI .Lt y.e 0 || cmpI .Lt sg y.e)) := rfl
    cases q : cmpI .LtE y.b sg with
    | false =>
      rw [q] at e
      show D.bool false = D.bool (hears y sg)
      rw [e]; rfl
    | true =>
      rw [q, Bool.true_and] at e
      refine Evp.or2 c (Evp.cmp c (Evp.attr c B (Evp.name c rfl ⟨C, _, .int y.e, rfl, rfl, rfl, W.end, Evp.cint c ⟨_, op_cmpI (op := .Lt) rfl, _, rfl, ?_⟩⟩)))
      cases q2 : cmpI .Lt y.e 0 with
      | true =>
        rw [q2] at e
        show D.bool true = D.bool (hears y sg)
        rw [e]; rfl
      | false =>
        rw [q2, Bool.false_or] at e
        refine Evp.cmp c (Evp.name c rfl (Evp.attr c B (Evp.name c rfl ⟨C, _, .int y.e, rfl, rfl, rfl, W.end, _, op_cmpI (op := .Lt) rfl, ?_⟩)))
        show D.bool _ = D.bool (hears y sg)
        rw [e]
theorem F_within (B : Top0 K h0) (G : Gl K) {a C f : Addr} (F : FnAt K a (stAt topS 19)) (W : WshOK K C f) (hg : nsIn K mainGlobals "Wish" = some (some (.ref C))) (hkp : keepIn K (.ref C) = true)
    (mk : ∀ d1 d2 d3 d4, FnOK prog h0 2 C [d1, d2, d3, d4] (.inst C [("tag", d1), ("value", d2), ("begin", d3), ("end", d4)])) (ws : List Wsh) (hl : ws.length ≤ 1000) (bg e : Int) :
    FnOK prog h0 3 a [.tup (ws.map (Wsh.d C)), .int bg, .int e] (.tup ((withinOf ws bg e).map (Wsh.d C))) := by
  obtain ⟨oc, od, osl, doc, pm, cdv, ct, an, ho, hcd⟩ := F.rec_
  refine FnOK.of B ["wishes", "begin", "end"] ho hcd (fun args h => ?_) (fun n x hx => ?_) (by decide) rfl (fun w A L' s0 Ch X c => ?_) rfl rfl rfl
  · obtain ⟨a, b, c, rfl⟩ := len3 h
    rfl
  · exact kLoc rfl n x hx
  · refine Exps.cons (Exp.newOwn c (.inl rfl) rfl fun l hlX => ?_)
    let canon : Nat → S := fun i => { vars := [("found", .raw (.ref l)), ("wishes", .tup (ws.map (Wsh.d C))), ("begin", .int bg), ("end", .int e)], own := some (l, (withinOf (ws.take i) bg e).map (Wsh.d C)) }
    have hwl : ∀ i, (withinOf (ws.take i) bg e).length ≤ 1000 := fun i => by
      have := List.length_filterMap_le (clip bg e) (ws.take i)
      unfold withinOf
      simp at this; omega
    refine Exps.cons (Exp.forC (encW C) c (Itr.tup c (Evp.name c rfl ⟨_, rfl, ws, canon, rfl, fun i => XX_own, Sub.of rfl rfl ?_, fun C' X' c' i y hy => ?_, fun S' hS => ?_⟩)))
    · repeat (first | exact lkNil | refine lkCons rfl ?_)
    · have hi : i < ws.length := (List.getElem?_eq_some_iff.mp hy).1
      have ht : withinOf (ws.take (i + 1)) bg e = withinOf (ws.take i) bg e ++ (clip bg e y).toList := by
        unfold withinOf
        rw [List.take_add_one, hy, List.filterMap_append]
        congr 1
      have fin : ∀ S₂ : S, S₂.own = some (l, (withinOf (ws.take (i + 1)) bg e).map (Wsh.d C)) → S₂.cnt = 0 → (∀ p ∈ (canon (i + 1)).vars, S₂.vars.lookup p.1 = some p.2) → Sub (canon (i + 1)) S₂ := fun S₂ h1 h2 h3 => Sub.of h1.symm h2.symm h3
      refine Asg.name c' (.inl rfl) ?_
      refine Exps.cons (Exp.assign c' (.inl rfl) (Evp.callB c' B (G.bl "max" (by decide)) boot_max' (by decide) (Evs.cons c' (Evp.attr c' B (Evp.name c' rfl ⟨C, _, .int y.b, rfl, rfl, rfl, W.begin, Evs.cons c' (Evp.name c' rfl (Evs.nil ⟨_, call_max2 c'.lv, ?_⟩))⟩))) rfl))
      let last : Int := if cmpI .Lt y.e 0 then e else min y.e e
      refine Exps.cons (Exp.assign c' (.inl rfl) ((?_ : Evp prog _ _ _ fun d k => d = .int last ∧ k = 0).mono fun d k ⟨e1, e2⟩ => ?_))
      · refine Evp.ite (Tst.cmpI c' (Evp.attr c' B (Evp.name c' rfl ⟨C, _, .int y.e, rfl, rfl, rfl, W.end, _, rfl, Evp.cint c' ⟨0, rfl, ?_⟩⟩)))
        cases q : cmpI .Lt y.e 0 with
        | true => exact Evp.name c' rfl ⟨by show D.int e = D.int last; unfold last; rw [q]; rfl, rfl⟩
        | false => exact Evp.callB c' B (G.bl "min" (by decide)) boot_min' (by decide) (Evs.cons c' (Evp.attr c' B (Evp.name c' rfl ⟨C, _, .int y.e, rfl, rfl, rfl, W.end, Evs.cons c' (Evp.name c' rfl (Evs.nil ⟨_, call_min2 c'.lv, by show D.int (min y.e e) = D.int last; unfold last; rw [q]; rfl, rfl⟩))⟩))) rfl
      subst e1; subst e2
      have hclip : clip bg e y = if isWhole y then some y else if cmpI .Lt (max y.b bg) last then some { y with b := max y.b bg - bg, e := last - bg } else none := rfl
      refine Exps.cons (Exp.ifs (Tst.plain c' (Evp.method0 c' B (Evp.name c' rfl ⟨C, _, f, _, 1, rfl, rfl, W.whole, by decide, F_is_whole B W y, _, Tru.bool _, ?_⟩) rfl)))
      cases q : isWhole y with
      | true =>
        rw [q] at hclip
        refine Exps.cons (Exp.append c' (l := l) (ds := (withinOf (ws.take i) bg e).map (Wsh.d C)) rfl rfl (by have := hwl i; simp; omega) (Evp.name c' rfl (Exps.nil (Exps.nil (fin _ ?_ rfl ?_)))))
        · rw [ht, hclip, List.map_append]; rfl
        · repeat (first | exact lkNil | refine lkCons rfl ?_)
      | false =>
        rw [q] at hclip
        refine Exps.cons (Exp.ifs (Tst.cmpI c' (Evp.name c' rfl ⟨_, rfl, Evp.name c' rfl ⟨last, rfl, ?_⟩⟩)))
        cases q2 : cmpI .Lt (max y.b bg) last with
        | true =>
          rw [q2] at hclip
          refine Exps.cons (Exp.append c' (l := l) (ds := (withinOf (ws.take i) bg e).map (Wsh.d C)) rfl rfl (by have := hwl i; simp; omega) ?_)
          refine Evp.callFn c' B hg hkp (Evs.cons c' (Evp.attr c' B (Evp.name c' rfl ⟨C, _, .str y.tag, rfl, rfl, rfl, W.tag, Evs.cons c' (Evp.attr c' B (Evp.name c' rfl ⟨C, _, .int y.v, rfl, rfl, rfl, W.value, Evs.cons c' (Evp.bin c' (Evp.name c' rfl (Evp.name c' rfl ⟨_, op_sub, Evs.cons c' (Evp.bin c' (Evp.name c' rfl (Evp.name c' rfl ⟨_, op_sub, Evs.nil ⟨_, 2, by decide, mk _ _ _ _, ?_⟩⟩)))⟩)))⟩))⟩))) rfl
          refine Exps.nil (Exps.nil (Exps.nil (fin _ ?_ rfl ?_)))
          · rw [ht, hclip, List.map_append]; rfl
          · repeat (first | exact lkNil | refine lkCons rfl ?_)
        | false =>
          rw [q2] at hclip
          refine Exps.nil (Exps.nil (Exps.nil (fin _ ?_ rfl ?_)))
          · rw [ht, hclip, List.map_append]; exact congrArg (fun z => some (l, z)) (List.append_nil _).symm
          · repeat (first | exact lkNil | refine lkCons rfl ?_)
    · refine Exps.sub (Exps.freeze (x := "found") (l := l) (ds := (withinOf (ws.take ws.length) bg e).map (Wsh.d C)) rfl hlX rfl ?_) hS
      refine Exps.ret c (Evp.callT c B (G.bl "tuple" (by decide)) boot_tuple (by decide) (Evs.cons c (Evp.name c rfl (Evs.nil ⟨_, call_tuple (by have := hwl ws.length; simp only [List.length_map]; omega), ?_⟩))) rfl)
      rw [List.take_length]
end
end Mine
end

section
set_option linter.unusedVariables false
open PySem PySem.W PyProof.Rows
set_option maxRecDepth 100000
namespace Mine

/-- what is asked of a class whose __init__ stores its arguments -/
structure MakeAt (K : Frag) (C fI : Addr) (ys : List Str) (st : Stmt) (dV : Value) : Prop where
  makes : makesIn K C = true
  find : findIn K (.ref C) "__init__" = some (some (.ref fI))
  isfn : typeIn K (.ref fI) = some (.type "function")
  rec_ : ∃ qual oc od osl doc pm cdv ct an, K.lookup fI = some ⟨oc, od, .func (fnOf (nameOf st) qual (argsOf st) (bodyOf st) (scopeOf st) dV .none doc pm an cdv ct), osl⟩ ∧ codeIn K cdv qual = true
  ok : ClsOK K C
  sets : ∀ y ∈ ys, SetOK K C y

section
variable {prog : Program} {h0 : Heap} {K : Frag}
theorem make_Shaped (B : Top0 K h0) {C fI : Addr} (Mk : MakeAt K C fI ["rows", "is_backward"] (stAt (bodyOf (stAt topS 7)) 0) .none) (d1 d2 : D) : FnOK prog h0 2 C [d1, d2] (.inst C [("rows", d1), ("is_backward", d2)]) := by
  obtain ⟨qual, oc, od, osl, doc, pm, cdv, ct, an, ho, hcd⟩ := Mk.rec_
  refine Make.of B ["rows", "is_backward"] Mk.makes Mk.find Mk.isfn ho hcd Mk.ok ?_ ?_ (by decide) rfl (by decide) (fun y hy => ⟨Mk.sets y hy, ?_⟩) ?_ rfl rfl rfl
  · intro M A E s args Q X hl hq
    obtain ⟨a, b, c, rfl⟩ := len3 hl
    exact wpAny_pure hq
  · exact .cons (.cons .nil)
  · simp at hy; rcases hy with rfl | rfl <;> decide
  · intro x hx
    simp at hx; rcases hx with rfl | rfl | rfl <;> rfl
theorem make_Wish (B : Top0 K h0) {C fI dT : Addr} {t1 t2 t3 : Tok} {n1 : Nat} {oT : Obj} (Mk : MakeAt K C fI ["tag", "value", "begin", "end"] (stAt (bodyOf (stAt topS 5)) 0) (.ref dT)) (hT : K.lookup dT = some oT) (hTd : oT.data = .seq #[.int 1 t1, .int 0 t2, .int (-1) t3] n1) (d1 d2 d3 d4 : D) :
    FnOK prog h0 2 C [d1, d2, d3, d4] (.inst C [("tag", d1), ("value", d2), ("begin", d3), ("end", d4)]) := by
  obtain ⟨qual, oc, od, osl, doc, pm, cdv, ct, an, ho, hcd⟩ := Mk.rec_
  refine Make.of B ["tag", "value", "begin", "end"] Mk.makes Mk.find Mk.isfn ho hcd Mk.ok ?_ ?_ (by decide) rfl (by decide) (fun y hy => ⟨Mk.sets y hy, ?_⟩) ?_ rfl rfl rfl
  · intro M A E s args Q X hl hq
    obtain ⟨a, b, c, d, e, rfl⟩ := len5 hl
    exact wpAny_bind (m := seqItems? (.ref dT)) (wpAny_seqItems (X _ _ hT) hTd (wpAny_pure hq))
  · exact .cons (.cons (.cons (.cons .nil)))
  · simp at hy; rcases hy with rfl | rfl | rfl | rfl <;> decide
  · intro x hx
    simp at hx; rcases hx with rfl | rfl | rfl | rfl | rfl <;> rfl
end
end Mine
end

section
set_option linter.unusedVariables false
open PySem PySem.W PyProof.Rows
set_option maxRecDepth 100000
namespace Mine

theorem slot_wd_get : Slot "wrapper_descriptor" "__get__" "wrapper_descriptor.__get__" := .of (owner := "wrapper_descriptor") (n := "__get__") (by rw [typeLookup_type, builtinLookup_eq_fast]; kernel_rfl) (by decide +kernel) (by decide +kernel) (by decide +kernel)
  (by first | exact .inl (by decide +kernel) | exact .inr (by decide +kernel)) (by rw [isSubtype_type]; kernel_rfl)
theorem entry_wd_get : entryFor table "wrapper_descriptor.__get__" = some Builtin.«wrapper_descriptor.__get__» := entryFor_of_tree (by kernel_rfl)
theorem wd_getArgs (a b c : Value) : argsOk "wrapper_descriptor.__get__" ⟨[a, b, c], []⟩ := by unfold argsOk; kernel_rfl
theorem excInit_type : typeOf (.builtin "Exception.__init__") = pure (.type "wrapper_descriptor") := by
  show builtinType "Exception.__init__" = _
  rw [builtinType_eq_fast]; kernel_rfl

noncomputable abbrev mwObj (e : Addr) : Obj := { cls := .type "method-wrapper", dict := none, data := .fields #[.builtin "Exception.__init__", .ref e], slots := #[] }
noncomputable abbrev excObj (C t : Addr) (od : Option Addr) : Obj := { cls := .ref C, dict := od, data := .fields #[.ref t, .none, .none, .none, .bool false, .none], slots := #[] }

section
variable {prog : Program} {w : World} {A : Around} {E : Value → Shared → Prop} {h : Heap} {g : Array GenState} {d : Drawn} {t : Nat} {os : OsState} {K : Frag} {so D x C : Addr}
set_option maxHeartbeats 2000000 in
theorem exc_super_ga {l₀ l : List Value} {name : Str} {tk : Tok} {Q : Fin → Shared → Prop} {ox : Obj}
    (hso : h.get? so = some { cls := .type "super", dict := none, data := .fields #[.ref D, .ref x, .ref C], slots := #[] }) (hno : Looks (model prog w) h (opaqueClassAbove (.ref C)) none)
    (hC : Looks (model prog w) h (mroOf (.ref C)) l₀) (hl : (l₀.dropWhile (· != .ref D)).drop 1 = l) (X : K.In h)
    (hf : alongIn K "__init__" l = some (some (.builtin "Exception.__init__"))) (hxC : x ≠ C) (hx : h.get? x = some ox) (hxc : ox.cls = .ref C)
    (hsub : Looks (model prog w) h (isSubtype (.ref C) (.type "Exception")) true)
    (hq : Q (.done (.ret (.ref h.objs.size))) ⟨h.push (mwObj x), g, d, t, os⟩) :
    wpAny (model prog w) A (Builtin.«super.__getattribute__» ⟨[.ref so, .str "__init__" tk], []⟩) Q E ⟨h, g, d, t, os⟩ := by
  have hlk := slot_wd_get.lookup
  have hne : (Value.ref x == Value.ref C) = false := by simp [hxC]
  have hn : (("__init__" : Str) == ("__class__" : Str)) = false := by decide
  have hty := excInit_type
  have hdt : ({ cls := .type "super", dict := none, data := .fields #[.ref D, .ref x, .ref C], slots := #[] } : Obj).data = .fields #[.ref D, .ref x, .ref C] := rfl
  have f0 : (#[.ref D, .ref x, .ref C] : Array Value)[0]? = some (.ref D) := rfl
  have f1 : (#[.ref D, .ref x, .ref C] : Array Value)[1]? = some (.ref x) := rfl
  have f2 : (#[.ref D, .ref x, .ref C] : Array Value)[2]? = some (.ref C) := rfl
  unfold Builtin.«super.__getattribute__»
  repeat (first
    | (with_reducible refine wpAny_field hso hdt f0 ?_) | (with_reducible refine wpAny_field hso hdt f1 ?_) | (with_reducible refine wpAny_field hso hdt f2 ?_)
    | (with_reducible refine ks_wpAny_notOpaque hno ?_)
    | (with_reducible refine Looks.at hC ?_; rw [hl])
    | (refine ks_forIn_along X (fun _ _ => rfl) rfl ?_ hf)
    | (with_reducible refine ⟨_, rfl, ?_⟩)
    | (simp only [hn, hne, Bool.or_false, Bool.false_eq_true, if_false])
    | wp_step
    | dsimp only)
  have hsubI : isSubtype (.type "wrapper_descriptor") (.type "wrapper_descriptor") = pure true := by rw [isSubtype_type]; kernel_rfl
  have hin : isInstance (.builtin "Exception.__init__") (.type "wrapper_descriptor") = pure true := by
    unfold isInstance
    rw [hty]
    exact hsubI
  refine codeAny_call_builtin slot_wd_get.plain entry_wd_get (check_slot (i := "wrapper_descriptor.__get__") (owner := "wrapper_descriptor") (n := "__get__") (by decide +kernel) (by decide +kernel) (Looks.of_pure hin) (wd_getArgs _ _ _) ?_)
  unfold Builtin.«wrapper_descriptor.__get__»
  have hinst : Looks (model prog w) h (isInstance (.ref x) (.type "Exception")) true := by
    unfold isInstance
    refine Looks.andThen (a := .ref C) ?_ hsub
    rw [← hxc]
    exact (Looks.ld hx).andThen .now
  have hcut : ".".intercalate ("Exception.__init__".cutAt '.').dropLast = "Exception" := by decide +kernel
  repeat wp_step
  rw [hxc, hcut]
  refine Looks.at hsub ?_
  repeat wp_step
  all_goals exact hq

theorem exc_getMethod_super {l₀ l : List Value} {pl : Sem Bool} {Q : Value × List Value → Shared → Prop} {ox : Obj}
    (hso : h.get? so = some { cls := .type "super", dict := none, data := .fields #[.ref D, .ref x, .ref C], slots := #[] }) (hno : Looks (model prog w) h (opaqueClassAbove (.ref C)) none)
    (hC : Looks (model prog w) h (mroOf (.ref C)) l₀) (hl : (l₀.dropWhile (· != .ref D)).drop 1 = l) (X : K.In h)
    (hf : alongIn K "__init__" l = some (some (.builtin "Exception.__init__"))) (hxC : x ≠ C) (hx : h.get? x = some ox) (hxc : ox.cls = .ref C)
    (hsub : Looks (model prog w) h (isSubtype (.ref C) (.type "Exception")) true)
    (hq : Q (.ref h.objs.size, []) ⟨h.push (mwObj x), g, d, t + 1, os⟩) :
    wpAny (model prog w) A (getMethod (.ref so) "__init__" pl) Q E ⟨h, g, d, t, os⟩ := by
  have hlk := F.ks_slot_super_ga.lookup
  have hcan := F.ks_canon_super_ga
  have hT : ∀ t', (⟨h, g, d, t', os⟩ : Shared).TypeIs (.ref so) "super" := fun _ => ⟨_, hso, rfl⟩
  unfold getMethod
  refine wpAny_bind (wpAny_specialOf (hT _) hlk ?_)
  show wpAny _ _ (if (Manifest.canonical "super.__getattribute__" != "object.__getattribute__") = true then _ else _) _ _ _
  rw [if_pos hcan]
  unfold getAttr getAttrBy
  refine wpAny_bind (wpAny_bind (wpAny_mkText (wpAny_holding (wpAny_bind (wpAny_typeOf (hT _) (wpAny_bind (wpAny_of_eq hlk ?_)))))))
  show wpAny _ _ (getAttrByItsOwn (.ref so) (.str "__init__" t) (.type "super") (.builtin "super.__getattribute__") true false) _ _ _
  unfold getAttrByItsOwn hookBefore callGetattribute boundAndCalled
  refine wpAny_bind (wpAny_of_eq (show (if onTheHeap (.type "super") then typeLookup (.type "super") "__getattr__" else pure none) = pure none from rfl) ?_)
  refine wpAny_bind (wpAny_attempt (wpAny_holding ?_))
  show wpAny _ _ (bindSpecial (.builtin "super.__getattribute__") (.ref so) >>= _) _ _ _
  refine wpAny_bind (wpAny_of_eq (F.ks_slot_super_ga.bind _) ?_)
  refine wpAny_mono (Q := fun v s' => v = .ref h.objs.size ∧ s' = ⟨h.push (mwObj x), g, d, t + 1, os⟩) (E := fun _ _ => False)
    (wpAny_call_entry F.ks_slot_super_ga (hT _) F.ks_entry_super_ga (exc_super_ga (name := "__init__") hso hno hC hl X hf hxC hx hxc hsub ⟨_, rfl, rfl, rfl⟩) (F.ks_gaArgs_super _ _)) (fun v s' hv => ?_) fun _ _ z => z.elim
  obtain ⟨rfl, rfl⟩ := hv
  exact wpAny_pure (wpAny_pure hq)

/-- the bound __init__ of the built-in class is called -/
theorem exc_mw_call {mw e t0 : Addr} {od : Option Addr} {oC : Obj} {cdC : ClassData} (hC : h.get? C = some oC) (hCd : oC.data = .cls cdC) {m : Str} {tm : Tok} {Q : Value → Shared → Prop} (hmw : h.get? mw = some (mwObj e)) (he : h.get? e = some (excObj C t0 od)) (hsub : Looks (model prog w) h (isSubtype (.ref C) (.type "Exception")) true)
    (hq : ∀ h' t1, h'.get? e = some (excObj C t1 od) → (∀ b o, b ≠ e → h.get? b = some o → h'.get? b = some o) → Q .none ⟨h', g, d, t, os⟩) :
    wpAny (model prog w) A (call (.ref mw) [.str m tm]) Q E ⟨h, g, d, t, os⟩ := by
  refine wpAny_call (codeAny_of_tree ?_)
  show wpAny _ _ (callAny (.ref mw) _) _ _ _
  unfold callAny
  refine wpAny_bind (wpAny_load hmw ?_)
  show wpAny _ _ (checkBoundCall "Exception.__init__" ⟨[.ref e, .str m tm], []⟩ >>= fun _ => again (.builtin "Exception.__init__" ⟨[.ref e, .str m tm], []⟩)) _ _ _
  have EB := PySem.F.excBase_Exception
  unfold checkBoundCall
  rw [EB.initRow, EB.initKind]
  refine wpAny_bind ?_
  have hshort := EB.noStar
  repeat (first | (with_reducible refine wpAny_load hC ?_; rw [hCd]) | (with_reducible refine wpAny_loadPart_at he ?_) | wp_step)
  refine ⟨Code.quiet_builtin _ (by decide +kernel), codeAny_builtin EB.initEntry ?_⟩
  unfold Builtin.«BaseException.__init__»
  dsimp only
  rw [if_neg (by simp)]
  unfold newTuple Builtin.BaseException.bexcPut
  have he₁ := Heap.get?_push_of_some (h := h) { cls := .type "tuple", data := .seq [Value.str m tm].toArray } he
  refine wpAny_bind (wpAny_newObj_type (wpAny_bind (wpAny_bind (wpAny_field he₁ rfl (x := .ref t0) rfl (wpAny_bind (wpAny_setField he₁ rfl (by simp) ?_))))) (by size_fits))
  refine wpAny_letGo (wpAny_pure ?_)
  refine hq _ h.objs.size ?_ fun b o hb hbo => ?_
  · rw [Heap.get?_update_self _ he₁ rfl]; rfl
  · rw [Heap.get?_update_other _ _ (Ne.symm hb)]
    exact Heap.get?_push_of_some _ hbo
end
end Mine
end

section
set_option linter.unusedVariables false
open PySem PySem.W PyProof.Rows
open PySem.Builtin PySem.Builtin.ObjectAttr
set_option maxRecDepth 100000
namespace Mine

noncomputable abbrev excMro (C S : Addr) : List Value := [.ref C, .ref S, .type "Exception", .type "BaseException", .type "object"]
section
variable {prog : Program} {w : World} {A : Around} {E : Value → Shared → Prop} {h : Heap} {g : Array GenState} {d : Drawn} {t : Nat} {os : OsState} {K : Frag} {C S e t0 : Addr} {cd : ClassData} {name : Str} {v : Value} {tk : Tok} {b : Bool}
theorem store_in_dict {dx : Addr} {mA : Str → Option Value} {ns : List Str} {Q : PySem.Fin → Shared → Prop} (hn : h.Ns1 dx mA) (hw : Within mA ns) (hl : ns.length ≤ 100)
    (hq : ∀ h' tk', h'.Ns1 dx (fun y => if y = name then some v else mA y) → Heap.SameBut dx h h' → Q (.done (.ret .none)) ⟨h', g, d, tk', os⟩) :
    wpAny (model prog w) A (storeInDict dx (.str name tk) name v) Q E ⟨h, g, d, t, os⟩ := by
  unfold storeInDict newKeyGuard
  refine wpAny_bind (wpAny_pure (wpAny_bind (wpAny_nsSet1 hn fun h' hn' hs => ?_)))
  obtain ⟨oD, esD, epD, hoD, hdD, hcD⟩ := hn'.count (Within.cons name v hw)
  refine wpAny_bind (wpAny_lookBehind hoD (by rw [hdD]; exact pastItsLine_dict (Nat.le_trans hcD (by rw [List.length_cons, sizeLine_eq]; omega))) ?_)
  exact wpAny_pure (hq h' _ hn' hs)
theorem exc_store_none {Q : PySem.Fin → Shared → Prop} (X : K.In h) (hc : clsIn K C = some cd) (hhd : cd.hasDict = true) (he : h.get? e = some (excObj C t0 none))
    (hq : ∀ h' tk' dx, h.get? dx = none → h'.get? e = some (excObj C t0 (some dx)) → h'.Ns1 dx (fun y => if y = name then some v else none) → (∀ b o, b ≠ e → h.get? b = some o → h'.get? b = some o) → Q (.done (.ret .none)) ⟨h', g, d, tk', os⟩) :
    wpAny (model prog w) A (storeInOwnDict (.ref e) (.ref C) (.str name tk) name v b) Q E ⟨h, g, d, t, os⟩ := by
  have hcl := looks_clsIn (M := model prog w) X hc
  have hes : e ≠ h.objs.size := Nat.ne_of_lt (Heap.lt_size he)
  have hx₁ : (h.push { cls := .type "dict", data := .dict #[] }).get? e = some (excObj C t0 none) := Heap.get?_push_of_some _ he
  have hgd : ((h.push { cls := .type "dict", data := .dict #[] }).update e fun o => { o with dict := some h.objs.size }).get? h.objs.size = some { cls := .type "dict", data := .dict #[] } :=
    (Heap.get?_update_ne _ _ _ _ hes.symm).trans (Heap.get?_push_at rfl rfl)
  have hge : ((h.push { cls := .type "dict", data := .dict #[] }).update e fun o => { o with dict := some h.objs.size }).get? e = some (excObj C t0 (some h.objs.size)) := Heap.get?_update_self _ hx₁ rfl
  have hnd : ((h.push { cls := .type "dict", data := .dict #[] }).update e fun o => { o with dict := some h.objs.size }).Ns h.objs.size (fun _ => none) :=
    ⟨_, #[], _, hgd, rfl, fun e he => absurd he (by simp), fun _ => rfl⟩
  unfold storeInOwnDict
  refine wpAny_bind (wpAny_pure (wpAny_bind ?_))
  unfold ownDictForStores instanceDict
  refine wpAny_bind (wpAny_loadPart_at he ?_)
  refine wpAny_bind (Looks.at hcl ?_)
  rw [hhd]
  refine wpAny_bind (wpAny_alloc' ?_)
  refine wpAny_bind (wpAny_update' hx₁ ?_)
  refine wpAny_pure ?_
  refine store_in_dict (Heap.Ns1.of_empty hnd) Within.nil (by simp) fun h' tk' hn' hs => ?_
  refine hq h' tk' h.objs.size (fresh_size h) ((hs.2 e hes).trans hge) hn' fun b o hb ho => ?_
  exact (hs.2 b (Nat.ne_of_lt (Heap.lt_size ho))).trans ((Heap.get?_update_ne _ _ _ _ hb).trans (Heap.get?_push_of_some _ ho))
theorem exc_store_some {dx : Addr} {mA : Str → Option Value} {ns : List Str} {Q : PySem.Fin → Shared → Prop} (X : K.In h) (hc : clsIn K C = some cd) (hhd : cd.hasDict = true) (he : h.get? e = some (excObj C t0 (some dx))) (hn : h.Ns1 dx mA) (hw : Within mA ns) (hl : ns.length ≤ 100)
    (hq : ∀ h' tk', h'.Ns1 dx (fun y => if y = name then some v else mA y) → Heap.SameBut dx h h' → Q (.done (.ret .none)) ⟨h', g, d, tk', os⟩) :
    wpAny (model prog w) A (storeInOwnDict (.ref e) (.ref C) (.str name tk) name v b) Q E ⟨h, g, d, t, os⟩ := by
  have hcl := looks_clsIn (M := model prog w) X hc
  unfold storeInOwnDict
  refine wpAny_bind (wpAny_pure (wpAny_bind ?_))
  unfold ownDictForStores instanceDict
  refine wpAny_bind (wpAny_loadPart_at he ?_)
  refine wpAny_bind (Looks.at hcl ?_)
  rw [hhd]
  refine wpAny_pure ?_
  exact store_in_dict hn hw hl hq

/-- self.name = v upon an own exception -/
theorem exc_setattr {oe : Obj} {Q : Unit → Shared → Prop} (X : K.In h) (hc : clsIn K C = some cd) (hmro : cd.mro = excMro C S) (he : h.get? e = some oe) (hec : oe.cls = .ref C)
    (hs : findIn K (.ref C) "__setattr__" = some (some (.builtin "object.__setattr__"))) (ht : takerIn K C name = some none)
    (hq : ∀ A b, wpAny (model prog w) A (storeInOwnDict (.ref e) (.ref C) (.str name t) name v b) (fun fin s' => fin = .done (.ret .none) ∧ Q () s') (fun _ _ => False) ⟨h, g, d, t + 1, os⟩) :
    wpAny (model prog w) A (setAttr (.ref e) name v) Q E ⟨h, g, d, t, os⟩ := by
  have SF := PySem.F.store_Exception
  have ty : Looks (model prog w) h (typeOf (.ref e)) (.ref C) := by rw [← hec]; exact (Looks.ld he).andThen .now
  refine wpAny_bind (wpAny_mkText (wpAny_bind (wpAny_bind (wpAny_bind (Looks.at ty (Looks.at (looks_findIn X hs) (wpAny_holding ?_)))))))
  rw [SF.slot.bind]
  refine wpAny_bind (wpAny_pure (wpAny_bind (wpAny_call ?_)))
  have hin : Looks (model prog w) h (isInstance (.ref e) (.type "object")) true := ty.andThen (looks_mroIn X (by unfold mroIn; rw [hc, Option.bind_some, hmro]; rfl))
  refine codeAny_call_builtin SF.slot.plain SF.entry (@check_slot (model prog w) _ _ ⟨h, g, d, t + 1, os⟩ "object.__setattr__" "object" "__setattr__" (.ref e) [.str name t, v] [] _ SF.kind SF.split hin (SF.args (.ref e) (.str name t) v) ?_)
  obtain ⟨attr, ha, hr⟩ := Option.bind_eq_some_iff.mp ht
  have hm : Looks (model prog w) h (mroOf (.ref C)) cd.mro := (looks_clsIn X hc).andThen .now
  have L3 : Looks (model prog w) h (storeTaker? attr) none := by
    cases attr with
    | none => exact .now
    | some a =>
      obtain ⟨b, hb, hb'⟩ := Option.map_eq_some_iff.mp hr
      refine (looks_takesIn X hb).andThen ?_
      cases b with
      | true => cases hb'
      | false => exact .now
  show wpAny _ _ («object.__setattr__» ⟨[.ref e, .str name t, v], []⟩) _ _ _
  rw [osa_eq, refuse_eq]
  refine wpAny_bind (wpAny_bind (Looks.at ty (wpAny_bind (Looks.at hm ?_))))
  rw [hmro, refuseLoop_ref, refuseLoop_ref, SF.passes]
  refine wpAny_pure (wpAny_bind (Looks.at ty (wpAny_bind (Looks.at (looks_findIn X ha) (wpAny_bind (Looks.at L3 ?_))))))
  refine wpAny_mono (hq _ _) (fun fin s' ⟨e1, q⟩ => ?_) fun _ _ x => x.elim
  subst e1
  exact wpAny_pure (wpAny_pure q)
end
end Mine
end

section
set_option linter.unusedVariables false
open PySem PySem.W PyProof.Rows
set_option maxRecDepth 100000
namespace Mine

noncomputable def initE : Stmt := stAt (bodyOf (stAt topS 2)) 0
/-- what is asked of an own exception class C whose base S has the __init__ of the text -/
structure ExcAt (K : Frag) (C S fI : Addr) (file : Str) : Prop where
  clsC : ∃ nm q N bs hdct sn sub ab col dd k0 k1 k2 k3 k5, K.lookup C = some (excClassObj nm q C N bs [.ref S, .type "Exception", .type "BaseException", .type "object"] hdct sn sub ab col dd k0 k1 k2 k3 k5 "Exception.__new__")
  cd : ∃ cd, clsIn K C = some cd ∧ cd.mro = excMro C S ∧ cd.hasDict = true
  clsS : ∃ cdS, clsIn K S = some cdS
  init : findIn K (.ref C) "__init__" = some (some (.ref fI))
  fn : typeIn K (.ref fI) = some (.type "function")
  setattr : findIn K (.ref C) "__setattr__" = some (some (.builtin "object.__setattr__"))
  what : takerIn K C "what" = some none
  at' : takerIn K C "at" = some none
  opq : nsIn K cStatics "thirdparty.any" = some none
  sup : nsIn K mainGlobals "super" = some none
  tail : alongIn K "__init__" (((excMro C S).dropWhile (· != .ref S)).drop 1) = some (some (.builtin "Exception.__init__"))
  rec_ : ∃ qual oc od osl doc pm cda ct an cc dT ccl cdd vs ccs tf cl cld csl oT tk nT, K.lookup fI = some ⟨oc, od, .func (fnX (nameOf initE) qual (argsOf initE) (bodyOf initE) (scopeOf initE) [("__class__", cc)] (.ref dT) .none doc pm an (.ref cda) ct), osl⟩ ∧ codeIn K (.ref cda) qual = true ∧
    K.lookup cda = some ⟨ccl, cdd, .fields vs, ccs⟩ ∧ vs[2]? = some (.str file tf) ∧ K.lookup cc = some ⟨cl, cld, .cell (some (.ref S)), csl⟩ ∧ K.lookup dT = some oT ∧ oT.data = .seq #[.int (-1) tk] nT

section
variable {prog : Program} {w : World} {A : Around} {h0 : Heap} {s : Shared} {K : Frag} {C S fI e t0 : Addr} {file : Str} {R : Result → Shared → Prop}
theorem callWith_mw1 {M : Model} {A : Around} {E : Value → Shared → Prop} {s : Shared} {pos : Pos} {Q : Value → Shared → Prop} {t : Sem Value} {mw e : Addr} (h : wpAny M A t (fun v s₁ => s₁.heap.get? mw = some (mwObj e) ∧ wpAny M A (call (.ref mw) [v]) Q E s₁) E s) :
    wpAny M A (callWith pos (.ref mw) [] [(false, t)] []) Q E s := by
  unfold callWith
  refine wpAny_bind (wpAny_holding (Calls.evalArgs_plain (Calls.spliced_cons (wpAny_mono h (fun v s₁ ⟨hm, h₁⟩ => Calls.spliced_nil (wpAny_bind (wpAny_standAt ?_))) fun _ _ e => e))))
  simp only [List.any_nil, Bool.or_false, List.any_cons, Bool.false_eq_true]
  refine wpAny_bind (wpAny_bind (wpAny_load hm (wpAny_pure ?_)))
  exact wpAny_bind (wpAny_mono h₁ (fun r s₂ hr => wpAny_bind (wpAny_holding (wpAny_point (wpAny_pure hr)))) fun _ _ x => x)

theorem exc_init (B : Top0 K h0) (Xc : ExcAt K C S fI file) (hfile : ((prog.main.file : Str) == file) = true) (htop : (prog.main.scope.names.lookup ("super" : Str)).isSome = false) (hroom : A.depth < recursionLimit)
    (hk0 : ∀ b o, h0.get? b = some o → s.heap.get? b = some o) (he : s.heap.get? e = some (excObj C t0 none)) (heK : ∀ o, h0.get? e ≠ some o) {m : Str} {tm : Tok}
    (hq : ∀ h' tk t1 dx, h'.get? e = some (excObj C t1 (some dx)) → (∀ b o, b ≠ e → s.heap.get? b = some o → h'.get? b = some o) → R (.ok (.ret .none)) { s with heap := h', toks := tk }) :
    codeAny (model prog w) A (.call (.ref fI) ⟨[.ref e, .str m tm], []⟩) R s := by
  obtain ⟨qual, oc, od, osl, doc, pm, cda, ct, an, cc, dT, ccl, cdd, vs, ccs, tf, cl, cld, csl, oT, tk, nT, r1, r2, r3, r4, r5, r6, r7⟩ := Xc.rec_
  have X : K.In s.heap := B.inK.keeps hk0
  obtain ⟨p, loose, mg, mb, T⟩ := B.top
  refine ks_codeAny_call_defAt (body := bodyOf initE) (binds := [("self", .ref e), ("what", .str m tm), ("at", .int (-1) tk)]) hroom (X _ _ r1) rfl (T.nolimit.keeps hk0) (codeRec_of X r2) rfl ?_ (show ∀ x ∈ (scopeOf initE).names, x.2 ≠ .cell by decide) ?_ (fun h₁ hns hk₁ => ?_) rfl rfl rfl
  · exact BindsTo.of_defaults (T := dT) rfl (X _ _ r6) r7 rfl rfl
  · intro x hx
    simp at hx
    rcases hx with rfl | rfl | rfl <;> rfl
  · change _root_.PySem.wpAt (model prog w) (A.deeper (ksEnv qual (scopeOf initE) s.heap.objs.size fI (.ref cda) cc)) (.func (bodyOf initE) (ksEnv qual (scopeOf initE) s.heap.objs.size fI (.ref cda) cc)) (execs (bodyOf initE) (ksEnv qual (scopeOf initE) s.heap.objs.size fI (.ref cda) cc)) _ _ _
    have kk : ∀ b o, h0.get? b = some o → h₁.get? b = some o := fun b o q => hk₁ b o (hk0 b o q)
    have X₁ : K.In h₁ := B.inK.keeps kk
    have he₁ := hk₁ _ _ he
    obtain ⟨cd, hcd, hmro, hhd⟩ := Xc.cd
    obtain ⟨cdS, hcS⟩ := Xc.clsS
    obtain ⟨oS, hS, hSd⟩ : ∃ oS, h₁.get? S = some oS ∧ oS.data = .cls cdS := by
      unfold clsIn at hcS
      split at hcS
      · rename_i ho; cases hcS; exact ⟨_, X₁ _ _ ho, rfl⟩
      · cases hcS
    obtain ⟨oC, hC, hCd⟩ : ∃ oC, K.lookup C = some oC ∧ oC.data = .cls cd := by
      unfold clsIn at hcd
      split at hcd
      · rename_i ho; cases hcd; exact ⟨_, ho, rfl⟩
      · cases hcd
    have heC : e ≠ C := by
      rintro rfl
      have := X₁ _ _ hC
      rw [he₁] at this; cases this; cases hCd
    have subS : mroIn K C (.ref S) = some true := by unfold mroIn; rw [hcd, Option.bind_some, hmro]; simp
    have subE : mroIn K C (.type "Exception") = some true := by unfold mroIn; rw [hcd, Option.bind_some, hmro]; rfl
    refine ks_wpAt_execs_cons (ks_wpAt_Expr_any (ks_wpAt_MethodCall (ks_wpAt_super_base (ar := ⟨"self", none, ⟨7, 17, 7, 21⟩⟩) rfl rfl (by decide) rfl (X₁ _ _ r1) rfl rfl rfl (X₁ _ _ r3) rfl r4 hfile htop ?_) rfl))
    refine ks_loadName_global rfl rfl (Calls.loadGlobal_builtin (env := ksEnv qual (scopeOf initE) s.heap.objs.size fI (.ref cda) cc) (T.g.keeps kk) (mg_none_of B.inK T.g Xc.sup) (T.b.keeps kk) ((T.builtins _ (by decide +kernel)).trans (by decide +kernel)) ⟨rfl, ?_⟩)
    refine wpAny_loadName_free rfl rfl rfl ⟨_, X₁ _ _ r5, rfl⟩ ?_
    refine wpAny_loadName_local rfl rfl hns rfl ?_
    refine ks_wpAny_isType_cls hS hSd ⟨rfl, ?_⟩
    refine ks_wpAny_call_super hS hSd he₁ rfl (fun c e => by cases e) (looks_mroIn X₁ subS) (fun h₂ e₂ k₂ => ?_)
    have X₂ : K.In h₂ := X₁.keeps k₂
    refine exc_getMethod_super e₂ (looks_opaque X₂ Xc.opq) ((looks_clsIn X₂ hcd).andThen .now) (by rw [hmro]) X₂ Xc.tail heC (k₂ _ _ he₁) rfl (looks_mroIn X₂ subE) ?_
    have ns₂ := hns.at' fun o q => Heap.get?_push_of_some (mwObj e) (k₂ _ _ q)
    refine callWith_mw1 (e := e) (t := eval (.Name "what" ⟨8, 25, 8, 29⟩) (ksEnv qual (scopeOf initE) s.heap.objs.size fI (.ref cda) cc)) (wpAny_Name (wpAny_loadName_local rfl rfl ns₂ rfl ⟨Heap.get?_push_at rfl rfl, ?_⟩) (by decide))
    have k₃ : ∀ b o, h₁.get? b = some o → (h₂.push (mwObj e)).get? b = some o := fun b o q => Heap.get?_push_of_some _ (k₂ _ _ q)
    have X₃ : K.In (h₂.push (mwObj e)) := X₁.keeps k₃
    refine exc_mw_call (X₃ _ _ hC) hCd (Heap.get?_push_at rfl rfl) (k₃ _ _ he₁) (looks_mroIn X₃ subE) fun h₄ t1 he₄ k₄ => ?_
    have eL : s.heap.objs.size ≠ e := Nat.ne_of_gt (Heap.lt_size he)
    have ns₄ := ns₂.at' fun o q => k₄ _ _ eL q
    have hb4 : ∀ b o, h0.get? b = some o → h₄.get? b = some o := fun b o q => k₄ _ _ (fun z => heK o (z ▸ q)) (k₃ _ _ (kk _ _ q))
    have X₄ : K.In h₄ := B.inK.keeps hb4
    show _root_.PySem.wpAt _ _ _ (execs _ _) _ _ _
    refine wpAt_of_wpAny ?_
    refine wpAny_execs_cons (plainObj_wpAny_Assign_Attribute (wpAny_Name (wpAny_loadName_local rfl rfl ns₄ rfl ?_) (by decide)) rfl)
    refine wpAny_Name (wpAny_loadName_local rfl rfl ns₄ rfl ?_) (by decide)
    refine exc_setattr X₄ hcd hmro he₄ rfl Xc.setattr Xc.what fun A' b' => exc_store_none X₄ hcd hhd he₄ fun h₅ tk₅ dx hdx he₅ hn₅ k₅ => ⟨rfl, ?_⟩
    have ns₅ := ns₄.at' fun o q => k₅ _ _ eL q
    have hb5 : ∀ b o, h0.get? b = some o → h₅.get? b = some o := fun b o q => k₅ _ _ (fun z => heK o (z ▸ q)) (hb4 _ _ q)
    have X₅ : K.In h₅ := B.inK.keeps hb5
    refine wpAny_execs_cons (plainObj_wpAny_Assign_Attribute (wpAny_Name (wpAny_loadName_local rfl rfl ns₅ rfl ?_) (by decide)) rfl)
    refine wpAny_Name (wpAny_loadName_local rfl rfl ns₅ rfl ?_) (by decide)
    refine exc_setattr X₅ hcd hmro he₅ rfl Xc.setattr Xc.at' fun A' b' => exc_store_some (ns := ["what"]) X₅ hcd hhd he₅ hn₅ (Within.cons _ _ Within.nil) (by simp) fun h₆ tk₆ hn₆ sb₆ => ⟨rfl, ?_⟩
    refine wpAny_execs_nil ?_
    have hdl : s.heap.get? dx = none := by
      cases z : s.heap.get? dx with
      | none => rfl
      | some o =>
        by_cases q : dx = e
        · rw [q, he₄] at hdx; cases hdx
        · rw [k₄ _ _ q (k₃ _ _ (hk₁ _ _ z))] at hdx; cases hdx
    refine hq h₆ _ t1 dx ((sb₆.2 e (fun z => ?_)).trans he₅) fun b o hb ho => ?_
    · rw [← z, he] at hdl; cases hdl
    · refine (sb₆.2 b (fun z => ?_)).trans (k₅ _ _ hb (k₄ _ _ hb (k₃ _ _ (hk₁ _ _ ho))))
      rw [z, hdl] at ho; cases ho
end
end Mine
end

section
set_option linter.unusedVariables false
open PySem PySem.W PyProof.Rows
set_option maxRecDepth 100000
namespace Mine

section
variable {prog : Program} {w : World} {M : Model} {A : Around} {E : Value → Shared → Prop} {h : Heap} {g : Array GenState} {d : Drawn} {t : Nat} {os : OsState}
variable {nm q : Str} {C S N : Addr} {bs : List Value} {hdct : Bool} {sn : List Str} {sub : List Value} {ab : Bool} {col : Option Bool} {dd : Option Addr} {k0 k1 k2 k3 k5 : Option Value} {K : Frag} {fI : Addr} {file : Str} {h0 : Heap} {s : Shared}
noncomputable abbrev exBm (S : Addr) : List Value := [.ref S, .type "Exception", .type "BaseException", .type "object"]
theorem own_check_new {rest : List Value} {Q : Unit → Shared → Prop} (hC : h.get? C = some (excClassObj nm q C N bs (exBm S) hdct sn sub ab col dd k0 k1 k2 k3 k5 "Exception.__new__")) (hq : Q () ⟨h, g, d, t, os⟩) :
    wpAny M A (checkBuiltinCall "Exception.__new__" ⟨.ref C :: rest, []⟩) Q E ⟨h, g, d, t, os⟩ := by
  have F := PySem.F.excBase_Exception
  have hcont : (Value.ref C :: exBm S).contains (.type "Exception") = true := by simp
  have hstar := F.noStar
  simp only [checkBuiltinCall, F.newKind, F.newSplit, F.newRow]
  repeat (first | refine wpAny_loadPart_at hC ?_ | (refine wpAny_isSubtype_exc hC ?_; rw [hcont]) | refine wpAny_staticBase_exc hC ?_ | refine wpAny_madeBy_exc hC ?_ | simp only [bne_self_eq_false, Bool.false_eq_true, if_false] | wp_step)
  exact hq
theorem own_new {R : Result → Shared → Prop} {rest : List Value} (hC : h.get? C = some (excClassObj nm q C N bs (exBm S) hdct sn sub ab col dd k0 k1 k2 k3 k5 "Exception.__new__"))
    (hq : R (.ok (.ret (.ref (h.objs.size + 1)))) ⟨(h.push { cls := .type "tuple", data := .seq rest.toArray }).push (excObj C h.objs.size none), g, d, t, os⟩) (hrest : rest.length ≤ sizeLine := by size_fits) :
    codeAny (model prog w) A (.builtin "Exception.__new__" ⟨.ref C :: rest, []⟩) R ⟨h, g, d, t, os⟩ := by
  have F := PySem.F.excBase_Exception
  have hends := F.ends
  have hcB : (Value.ref C :: exBm S).contains (.type "Exception") = true := by simp
  have hcA : (Value.ref C :: exBm S).contains (.type "AttributeError") = false := by simp
  have hcN : (Value.ref C :: exBm S).contains (.type "NameError") = false := by simp
  refine codeAny_builtinAt F.entry ?_
  unfold Builtin.«BaseException.__new__»
  refine _root_.PySem.wpAt_bind ?_
  show _root_.PySem.wpAt _ _ _ (stack >>= _) _ _ _
  refine _root_.PySem.wpAt_bind (_root_.PySem.wpAt_stack fun p below => _root_.PySem.wpAt_of_wpAny ?_)
  wp_walk
  refine _root_.PySem.wpAt_of_wpAny ?_
  rw [F.owner]
  repeat (first | with_reducible refine wpAny_madeHere_exc F.canon hC ?_ | with_reducible refine wpAny_loadPart_at hC ?_ | (with_reducible refine wpAny_isSubtype_exc hC ?_; first | rw [hcB] | rw [hcA] | rw [hcN]) | wp_step)
  show R _ _
  rw [Heap.size_push]
  exact hq
theorem own_call {rest : List Value} {Q : Value → Shared → Prop} (X : K.In h) (hCK : K.lookup C = some (excClassObj nm q C N bs (exBm S) hdct sn sub ab col dd k0 k1 k2 k3 k5 "Exception.__new__"))
    (hi : findIn K (.ref C) "__init__" = some (some (.ref fI))) (hf : typeIn K (.ref fI) = some (.type "function"))
    (hq : wpAny (model prog w) (A.under (.builtin "type.__call__" ⟨.ref C :: rest, []⟩)) (call (.ref fI) (.ref (h.objs.size + 1) :: rest)) (fun r s' => r = .none ∧ Q (.ref (h.objs.size + 1)) s') E
      ⟨(h.push { cls := .type "tuple", data := .seq rest.toArray }).push (excObj C h.objs.size none), g, d, t, os⟩) (hrest : rest.length ≤ sizeLine := by size_fits) :
    wpAny (model prog w) A (call (.ref C) rest) Q E ⟨h, g, d, t, os⟩ := by
  have F := PySem.F.excBase_Exception
  have hC := X _ _ hCK
  have f1 := tc_lookup
  have f2 := tc_bind (.ref C)
  have hT : (⟨h, g, d, t, os⟩ : Shared).TypeIs (.ref C) "type" := ⟨_, hC, rfl⟩
  refine wpAny_call (codeAny_of_tree ?_)
  show wpAny _ _ (callAny (.ref C) _) _ _ _
  repeat (any_goals (first | assumption | with_reducible refine wpAny_loadPart_at hC ?_ | wp_step))
  refine ⟨rfl, ?_⟩
  refine codeAny_call_builtin_at (Code.quiet_builtin _ (by decide +kernel)) entry_typeCall (wpAny_check_type_call_sub hC ?_)
  repeat (first | with_reducible refine wpAny_loadPart_at hC ?_ | with_reducible refine wpAny_madeBy_exc hC ?_ | wp_step)
  refine codeAny_call_builtin_code (Code.quiet_builtin _ F.quiet) (own_check_new hC ?_)
  refine own_new hC ?_ hrest
  show wpAny _ _ _ _ _ _
  have k2 : ∀ b o, h.get? b = some o → ((h.push { cls := .type "tuple", data := .seq rest.toArray }).push (excObj C h.objs.size none)).get? b = some o := fun b o e => Heap.get?_push_of_some _ (Heap.get?_push_of_some _ e)
  have hC₁ := k2 _ _ hC
  have X₁ := X.keeps k2
  have hget : ((h.push { cls := .type "tuple", data := .seq rest.toArray }).push (excObj C h.objs.size none)).get? (h.objs.size + 1) = some (excObj C h.objs.size none) := by heap_get
  have hcC : (Value.ref C :: exBm S).contains (.ref C) = true := by simp
  unfold isInstance
  repeat (first | with_reducible refine wpAny_loadPart_at hget ?_ | (with_reducible refine wpAny_isSubtype_exc hC₁ ?_; rw [hcC]) | wp_step)
  show wpAny _ _ (isSubtype (.ref C) (.ref C)) _ _ _
  refine wpAny_isSubtype_exc hC₁ ?_
  rw [hcC]
  repeat (first | with_reducible refine wpAny_loadPart_at hget ?_ | wp_step)
  show wpAny _ _ (typeLookup (.ref C) _) _ _ _
  refine Looks.at (looks_findIn X₁ hi) ?_
  refine wpAny_holding (wpAny_bind ?_)
  refine Looks.at (bind_fn X₁ (.ref (h.objs.size + 1)) hf) ?_
  refine wpAny_bind (wpAny_mono hq (fun r s' hr => ?_) fun _ _ x => x)
  obtain ⟨rfl, hQ⟩ := hr
  wp_walk
  exact hQ
end
end Mine
end

section
set_option linter.unusedVariables false
open PySem PySem.W PyProof.Rows
set_option maxRecDepth 100000
namespace Mine

section
variable {prog : Program} {w : World} {M : Model} {A : Around} {E : Value → Shared → Prop} {env : Env} {d : Drawn} {t : Nat} {os : OsState}
variable {nm q : Str} {C Sh N : Addr} {bs : List Value} {hdct : Bool} {sn : List Str} {sub : List Value} {ab : Bool} {col : Option Bool} {dd : Option Addr} {k0 k1 k2 k3 k5 : Option Value} {K : Frag} {fI : Addr} {file : Str} {h0 : Heap} {s : Shared}
theorem raise_own {x : Sem Value} {Q : Flow → Shared → Prop} (hh : A.handled = none)
    (h : wpAny M A x (fun v s₁ => ∃ e t od, v = .ref e ∧ s₁.heap.get? C = some (excClassObj nm q C N bs (exBm Sh) hdct sn sub ab col dd k0 k1 k2 k3 k5 "Exception.__new__") ∧ s₁.heap.get? e = some (excObj C t od) ∧ E (.ref e) s₁) E s) :
    wpAny M A (raiseStmt env (some x) none) Q E s := by
  have hcB : (Value.ref C :: exBm Sh).contains (.type "BaseException") = true := by simp
  unfold raiseStmt
  refine wpAny_bind (wpAny_mono h (fun v s₁ h₁ => ?_) fun _ _ x => x)
  obtain ⟨e, t, od, rfl, hC, he, hE⟩ := h₁
  obtain ⟨hp, g, d, tk, os⟩ := s₁
  repeat (first | with_reducible refine wpAny_loadPart_at he ?_ | with_reducible refine wpAny_loadPart_at hC ?_ | (with_reducible refine wpAny_isSubtype_exc hC ?_; rw [hcB]) | wp_step)
  exact wpAny_raiseNew_none hh hE

/-- an exception of the class C leaves the frame cx -/
noncomputable def Raised (cx : Cx) (C : Addr) (v : Value) (s' : Shared) : Prop :=
  ∃ S₁ e t1 dx, v = .ref e ∧ St cx S₁ s' ∧ s'.heap.get? e = some (excObj C t1 (some dx)) ∧ cx.C e = none
/-- raise X('a text') -/
theorem Exps.raiseOwn {cx : Cx} {n : Nat} {S₁ : S} {R : D → S → Prop} (c : CxOK h0 (n + 2) cx) (B : Top0 K h0) (Xc : ExcAt K C Sh fI file) (hfile : ((prog.main.file : Str) == file) = true) (htop : (prog.main.scope.names.lookup ("super" : Str)).isSome = false)
    {x : Str} {np cpos pos apos : Pos} {txt : Str} {kk : Nat} (hg : nsIn K mainGlobals x = some (some (.ref C))) (hx : cx.env.kindOf x = some .globalImplicit) (hd : (x == ("__debug__" : Str)) = false := by decide) :
    Exps prog cx (Raised cx C) S₁ [.Raise (some (.Call (.Name x np) [.Constant (.str txt) kk apos] [] cpos)) none pos] (fun _ => False) R := fun s t => by
  obtain ⟨p, loose, mg, mb, T⟩ := B.top
  have pc := t.pc c
  refine wpAny_execs_cons ?_
  rw [arm_exec_Raise]
  obtain ⟨nm, q, N, bs, hdct, sn, sub, ab, col, dd, k0, k1, k2, k3, k5, hCK⟩ := Xc.clsC
  refine wpAny_bind (wpAny_standAt (raise_own (C := C) (nm := nm) (q := q) (N := N) (Sh := Sh) (bs := bs) (hdct := hdct) (sn := sn) (sub := sub) (ab := ab) (col := col) (dd := dd) (k0 := k0) (k1 := k1) (k2 := k2) (k3 := k3) (k5 := k5) c.lv.hd ?_))
  refine wpAny_bind (wpAny_mono (wpAny_Call_ofName (Calls.Name_function_global c.kind hx (Calls.loadGlobal_global (by rw [c.glob]; exact T.g.keeps pc.base) (mg_of B.inK T.g hg) (?_ : wpAny (model prog cx.w) cx.A (callWith cpos (.ref C) [] [(false, eval (.Constant (.str txt) kk apos) cx.env)] []) (fun v s₁ => ∃ e t1 dx S₁, v = .ref e ∧ St cx S₁ s₁ ∧ s₁.heap.get? e = some (excObj C t1 (some dx)) ∧ cx.C e = none) (fun _ _ => False) s)) hd))
    (fun v s₁ ⟨e, t1, dx, S₁, e1, t₁, he, hn⟩ => wpAny_bind (wpAny_standAt (wpAny_pure ⟨e, t1, some dx, e1, (t₁.pc c).inK B _ _ hCK, he, S₁, e, t1, dx, rfl, t₁, he, hn⟩))) fun _ _ x => x.elim)
  unfold callWith
  refine wpAny_bind (wpAny_holding (Calls.evalArgs_plain (Calls.spliced_cons (Calls.Constant_str (Calls.spliced_nil (wpAny_bind (wpAny_standAt ?_)))))))
  have k0' : Kp s { s with toks := s.toks + 1 } := kp_tok
  have t₁ := t.keeps c k0'
  have pc₁ := t₁.pc c
  simp only [List.any_nil, Bool.or_false, List.any_cons, Bool.false_eq_true]
  obtain ⟨hh, g, d, tk, os⟩ := s
  refine wpAny_bind (wpAny_keeperOf_exc (pc₁.inK B _ _ hCK) ?_)
  refine wpAny_bind (wpAny_mono (own_call (pc₁.inK B) hCK Xc.init Xc.fn ?_ (by show 1 ≤ sizeLine; decide)) (fun r s' hr => wpAny_bind (wpAny_holding (wpAny_point (wpAny_pure hr)))) fun _ _ x => x)
  refine wpAny_call ?_
  have fresh1 : hh.get? (hh.objs.size + 1) = none := Heap.get?_none_of_le (Nat.le_succ _)
  have k2 : ∀ b o, hh.get? b = some o → ((hh.push { cls := .type "tuple", data := .seq ([Value.str txt tk]).toArray }).push (excObj C hh.objs.size none)).get? b = some o := fun b o e => Heap.get?_push_of_some _ (Heap.get?_push_of_some _ e)
  have hge : ((hh.push { cls := .type "tuple", data := .seq ([Value.str txt tk]).toArray }).push (excObj C hh.objs.size none)).get? (hh.objs.size + 1) = some (excObj C hh.objs.size none) := by heap_get
  refine exc_init (s := ⟨(hh.push { cls := .type "tuple", data := .seq ([Value.str txt tk]).toArray }).push (excObj C hh.objs.size none), g, d, tk + 1, os⟩) B Xc hfile htop ?_ (fun b o e => k2 _ _ (pc.base _ _ e)) hge (fun o e => by have := pc.base _ _ e; rw [fresh1] at this; cases this) fun h' tk' t1 dx he hk => ⟨rfl, _, t1, dx, S₁, rfl, ?_, he, C_none t fresh1⟩
  · rw [depth_under_make]; have := c.lv.depth; show _ < 1000; omega
  · refine t.keeps c ⟨h', tk', rfl, fun b o e => hk b o (fun z => ?_) (k2 _ _ e)⟩
    rw [z] at e
    rw [show hh.get? (hh.objs.size + 1) = none from fresh1] at e; cases e
end
end Mine
end

section
set_option linter.unusedVariables false
open PySem PySem.W PyProof.Rows
set_option maxRecDepth 100000
namespace Mine

theorem Cm_none_get {h : Heap} {b : Addr} (e : Cm none h b = none) : h.get? b = none := by
  cases q : h.get? b with
  | none => rfl
  | some o => have := Cm_has (pen := none) (by simp) q; rw [e] at this; cases this
section
variable {prog : Program} {w : World} {A : Around} {h0 base : Heap} {K : Frag} {n : Nat} {X : Addr → Prop} {s : Shared} {args : List Value} {l : List Env} {C Sh fI : Addr} {file : Str}
theorem stretches_raise (B : Top0 K h0) (G : Gl K) {a : Addr} (F : FnAt K a (stAt topS 18)) (Xc : ExcAt K C Sh fI file) (hfile : ((prog.main.file : Str) == file) = true) (htop : (prog.main.scope.names.lookup ("super" : Str)).isSome = false)
    (hg : nsIn K mainGlobals "PlanFault" = some (some (.ref C))) {ps : List Int} {L : Int} (hl : ps.length ≤ 17) (hs : ∀ p ∈ ps, Small p) (hbad : cutsBad (ssort ps) L = true)
    (lv : Lv (n + 3) A) (p : PC h0 X s.heap) (r : RepAll X s.heap args [.int L, .list (nums ps)]) (Bl : Below A base l s.heap) :
    codeAny (model prog w) A (.call (.ref a) ⟨args, []⟩) (fun r s' => ∃ e a0 h' tk, r = .error (.ref e) ∧ s' = { s with heap := h', toks := tk } ∧ Heap.FlyingW base l e (.ref C) a0 h' ∧ s.heap.UpToSlots h') s := by
  obtain ⟨oc, od, osl, doc, pm, cdv, ct, an, ho, hcd⟩ := F.rec_
  refine enter (pen := none) (cnt := 0) (xs := ["length", "places"]) B ho hcd lv p r (?_) (fun n x hx => ?_) (by decide) rfl (fun q e => by cases e) (fun L' s₁ X' hX c t => ?_) rfl rfl rfl
  · obtain ⟨a, b, rfl⟩ := len2 r.length
    rfl
  · exact kLoc rfl n x hx
  refine wpAny_mono (stretches_walk (R := fun _ _ => False) B G hl hs c (fun _ S₁ => Exps.raiseOwn c B Xc hfile htop hg rfl) (fun h => by rw [hbad] at h; cases h) s₁ t) (fun fl s' p' => ?_) (fun v s' hr => ?_)
  · rcases p' with ⟨_, _, _, q⟩ | ⟨_, _, _, _, _, _, q⟩ <;> exact q.elim
  · obtain ⟨S₁, e, t1, dx, rfl, t', he, hn⟩ := hr
    have hk : ∀ b o, s.heap.get? b = some o → s'.heap.get? b = some o := fun b o q => t'.keep b o (Cm_has (by simp) q)
    have none_of : ∀ b, s.heap.get? b = none → base.get? b = none := fun b q => by
      cases z : base.get? b with
      | none => rfl
      | some o => have := Bl.stays _ _ z; rw [q] at this; cases this
    obtain ⟨m, hns, _⟩ := t'.ns
    obtain ⟨h1, tk, e1⟩ := t'.rest
    have hen := none_of _ (Cm_none_get hn)
    refine wpAny_leaving_firstW (base := base) (outer := l) (oe := excObj C t1 (some dx)) (a0 := .ref t1) (Around.frames_deeper Bl.stack) (Heap.FunFrames.cons (show (scopeOf (stAt topS 18)).kind ≠ .module by decide) rfl hns (none_of _ (Cm_none_get c.LC)) ?_) rfl he (fun b o q => hk _ _ (Bl.stays _ _ q)) hen rfl rfl rfl fun h' hL => ?_
    · exact Bl.frames.of_keeps fun b o q _ => ⟨o, hk _ _ q, rfl⟩
    · obtain ⟨k1, ⟨_, _, k2⟩, k3, k4⟩ := hL
      exact ⟨e, _, h', tk, rfl, by rw [e1], ⟨k1, hen, k2, k3⟩, (Heap.UpToSlots.of_keeps hk).trans k4⟩
noncomputable def cutBody : List Stmt := bodyOf (stAt topS 31)
/-- the except clause: it takes its own class -/
theorem handle_own {E : Value → Shared → Prop} {env : Env} {e : Addr} {t : PySem.Expr} {b₀ : Stmt} {suite : List Stmt} {pos : Pos} {rest : List ExceptHandler} {Q : Flow → Shared → Prop} (Xc : ExcAt K C Sh fI file)
    (h : wpAny (model prog w) (A.mark (some (.ref e))) (eval t env) (fun c s₁ => c = .ref C ∧ K.In s₁.heap ∧ (∃ oe, s₁.heap.get? e = some oe ∧ oe.cls = .ref C) ∧
      wpAny (model prog w) (A.mark (some (.ref e))) (setFlight (.ref e) none) (fun _ s₂ => wpAny (model prog w) (A.mark (some (.ref e))) (execs (b₀ :: suite) env) Q (fun _ _ => False) s₂) (fun _ _ => False) s₁) (fun _ _ => False) s) :
    wpAny (model prog w) A (handleBy (.ref e) env (.ExceptHandler (some t) none (b₀ :: suite) pos :: rest)) Q E s := by
  refine wpAny_handleBy_cons (codeAny_handlers_test (wpAny_mono h (fun c s₁ h₁ => ?_) fun _ _ y => y.elim)) (by intro q; cases q)
  obtain ⟨rfl, X, ⟨oe, he, hcls⟩, hk⟩ := h₁
  obtain ⟨nm, q, N, bs, hdct, sn, sub, ab, col, dd, k0, k1, k2, k3, k5, hCK⟩ := Xc.clsC
  obtain ⟨hh, g, d, tk, os⟩ := s₁
  exact wpAny_excMatches_sub_self (X _ _ hCK) he hcls (by simp) (codeAny_handlers_suite (wpAny_mono hk (fun _ s₂ h₂ => wpAny_mono h₂ (fun _ _ x => x) fun _ _ x => x.elim) fun _ _ x => x.elim))

theorem cut_raise (B : Top0 K h0) (G : Gl K) {a a1 : Addr} (F : FnAt K a (stAt topS 31)) (F1 : FnAt K a1 (stAt topS 18)) (Xc : ExcAt K C Sh fI file) (hfile : ((prog.main.file : Str) == file) = true) (htop : (prog.main.scope.names.lookup ("super" : Str)).isSome = false)
    (hg : nsIn K mainGlobals "PlanFault" = some (some (.ref C))) {ps : List Int} {L : Int} (hl : ps.length ≤ 17) (hs : ∀ p ∈ ps, Small p) (hbad : cutsBad (ssort ps) L = true)
    (lv : Lv (n + 4) A) (p : PC h0 X s.heap) (r : RepAll X s.heap args [.int L, .list (nums ps)]) (Bl : Below A base l s.heap) (hb0 : ∀ b o, h0.get? b = some o → base.get? b = some o) :
    codeAny (model prog w) A (.call (.ref a) ⟨args, []⟩) (fun r s' => ∃ h' tk, r = .ok (.ret .none) ∧ s' = { s with heap := h', toks := tk } ∧ base.StaysIn h' ∧ s.heap.UpToSlots h') s := by
  obtain ⟨oc, od, osl, doc, pm, cdv, ct, an, ho, hcd⟩ := F.rec_
  refine enter (pen := none) (cnt := 0) (xs := ["length", "places"]) B ho hcd lv p r (?_) (fun n x hx => ?_) (by decide) rfl (fun q e => by cases e) (fun L' s₁ X' hX c t => ?_) rfl rfl rfl
  · obtain ⟨a, b, rfl⟩ := len2 r.length
    rfl
  · exact kLoc rfl n x hx
  have hk : ∀ b o, s.heap.get? b = some o → s₁.heap.get? b = some o := fun b o q => t.keep b o (Cm_has (by simp) q)
  have none_of : ∀ b, s.heap.get? b = none → base.get? b = none := fun b q => by
    cases z : base.get? b with
    | none => rfl
    | some o => have := Bl.stays _ _ z; rw [q] at this; cases this
  have hbL := none_of _ (Cm_none_get c.LC)
  refine wpAny_execs_cons (wpAny_Try_except ?_)
  obtain ⟨pp, loose, mg, mb, T⟩ := B.top
  have pc := t.pc c
  let cx := fnCx w (A.deeper (envOfC (nameOf (stAt topS 31)) (scopeOf (stAt topS 31)) L' a cdv)) (nameOf (stAt topS 31)) (scopeOf (stAt topS 31)) L' a cdv s (Cm none s.heap) X' none
  have hargs : ∀ p1 p2, Evs prog cx { vars := (["length", "places"] : List Str).zip [D.int L, D.list (nums ps)], cnt := 0 } [.Name "length" p1, .Name "places" p2] (fun ds k => ds = [D.int L, D.list (nums ps)]) := fun p1 p2 =>
    Evs.cons c (Evp.name c rfl (Evs.cons c (Evp.name c rfl (Evs.nil rfl))))
  refine wpAny_execs_cons (wpAny_Return_some ?_)
  refine wpAny_Call_ofName (Calls.Name_function_global c.kind rfl (Calls.loadGlobal_global (by rw [c.glob]; exact T.g.keeps pc.base) (mg_of B.inK T.g F1.glob) ?_) (by decide))
  refine callWith_K (pc.inK B) F1.keep (wpAny_mono (hargs _ _ s₁ _ t) (fun vs s₂ ⟨ds, k, t₂, k₂, r₂, hds⟩ => ⟨(t₂.pc c).inK B, ?_⟩) fun _ _ x => x.elim) (starEach_cons _ _ _ rfl) (backTo_plain rfl)
  subst hds
  obtain ⟨m, hns, _⟩ := t₂.ns
  have hk₂ : ∀ b o, s.heap.get? b = some o → s₂.heap.get? b = some o := fun b o q => t₂.keep b o (Cm_has (by simp) q)
  have Bl₂ : Below cx.A base (cx.env :: l) s₂.heap := ⟨Around.frames_deeper Bl.stack, fun b o q => hk₂ _ _ (Bl.stays _ _ q), Heap.FunFrames.cons (show (scopeOf (stAt topS 31)).kind ≠ .module by decide) rfl hns hbL (Bl.frames.of_keeps fun b o q _ => ⟨o, hk₂ _ _ q, rfl⟩)⟩
  refine wpAny_call (codeAny_mono (stretches_raise (n := n) B G F1 Xc hfile htop hg hl hs hbad c.lv (t₂.pc c) r₂ Bl₂) fun rr s₃ ⟨e, a0, h', tk, e1, e2, fl, up⟩ => ?_)
  subst e1; subst e2
  obtain ⟨hh2, tk2, e2⟩ := t₂.rest
  have U₁ : s.heap.UpToSlots h' := (Heap.UpToSlots.of_keeps hk₂).trans up
  show wpAny (model prog w) cx.A (noteFrame (.ref e) cx.env) _ _ _
  refine wpAny_looks_onW (base := base) (env := cx.env) (outer := l) (L := L') (cls := .ref C) (a0 := a0) Bl₂.stack rfl fl fun h₄ held₄ sm₄ => ?_
  refine wpAny_landsW held₄ fun h₅ fl₅ sm₅ => ?_
  have keep5 : ∀ b o, h0.get? b = some o → h₅.get? b = some o := fun b o q => fl₅.1 _ _ (hb0 _ _ q)
  obtain ⟨ob, hob, hobc⟩ := fl₅.there
  refine handle_own Xc (Calls.Name_function_global c.kind rfl (Calls.loadGlobal_global (by rw [c.glob]; exact T.g.keeps keep5) (mg_of B.inK T.g hg) ⟨rfl, B.inK.keeps keep5, ⟨ob, hob, hobc⟩, ?_⟩) (by decide))
  refine lands_againW fl₅ fun h₆ fl₆ sm₆ => ?_
  refine wpAny_execs_cons (wpAny_Return_some ?_)
  refine (wpAny_pure ?_ : wpAny _ _ (pure Value.none) _ _ _)
  exact ⟨h₆, tk, rfl, by rw [e2], fl₆.1, ((U₁.trans sm₄).trans sm₅).trans sm₆⟩
end
end Mine
end

section
set_option linter.unusedVariables false
open PySem PySem.W PyProof.Rows
set_option maxRecDepth 100000
namespace Mine

theorem RepAll.set {X : Addr → Prop} {h : Heap} {d : D} {v : Value} (q : Rep X h v d) : ∀ {vs : List Value} {ds : List D}, RepAll X h vs ds → ∀ j : Nat, RepAll X h (vs.set j v) (ds.set j d)
  | _, _, .nil, _ => .nil
  | _, _, .cons a r, 0 => .cons q r
  | _, _, .cons a r, j + 1 => .cons a (RepAll.set q r j)
section
variable {prog : Program} {h0 : Heap} {cx : Cx} {n : Nat} {S₀ : S} {E : Value → Shared → Prop} {K : S → Prop} {R : D → S → Prop} {s : Shared}
theorem XX_own2 {X : Addr → Prop} {l : Addr} {ds es : List D} : XX X (some (l, ds)) = XX X (some (l, es)) := XX_own
/-- the list under way is turned -/
theorem St.own_to (t : St cx S₀ s) {l : Addr} {ds ds' : List D} (ho : S₀.own = some (l, ds)) (c : CxOK h0 n cx)
    {h' : Heap} {tk : Nat} (hs : Heap.SameBut l s.heap h') {vs' : List Value} {m' : Nat} (he : h'.get? l = some (listOf vs'.toArray m')) (hr : RepAll (XX cx.X S₀.own) s.heap vs' ds') : St cx { S₀ with own := some (l, ds') } { s with heap := h', toks := tk } := by
  obtain ⟨h₁, tk₁, e₁⟩ := t.rest
  obtain ⟨lC, lp, vs, nn, e0, r0⟩ := t.own l ds ho
  have hXX : XX cx.X (some (l, ds')) = XX cx.X S₀.own := by rw [ho]; exact XX_own
  have hx : ∀ b o, ¬ XX cx.X S₀.own b → s.heap.get? b = some o → h'.get? b = some o := fun b o nx e => hs.extBut b o (fun q => nx (.inr ⟨ds, q ▸ ho⟩)) e
  have hcell : ∀ c v, s.heap.IsCell c v → h'.IsCell c v := fun c v q => q.sameBut hs (IsCell.ne_list q e0)
  obtain ⟨m, hn, hv⟩ := t.ns
  refine ⟨⟨h', tk, by rw [e₁]⟩, fun b o e => hs.extBut b o (fun q => ?_) (t.keep b o e), fun a x => ?_, ⟨m, hn.at' fun o q => hs.extBut _ o (Ns.ne_list hn e0) q, fun x d' e => ?_⟩, fun o x c h1 h2 => ?_, fun l' es e => ?_, fun p e => ?_⟩
  · rw [q, lC] at e; cases e
  · by_cases q : a = l
    · subst q; exact ⟨_, he⟩
    · obtain ⟨o, e⟩ := t.live a x; exact ⟨o, hs.extBut a o q e⟩
  · obtain ⟨u, a, r'⟩ := hv x d' e
    rw [show (XX cx.X ({ S₀ with own := some (l, ds') } : S).own) = XX cx.X S₀.own from hXX]
    exact ⟨u, a.keeps fun c q => hcell c _ q, r'.mono (fun _ y _ _ => y) hx⟩
  · obtain ⟨u, q⟩ := t.cells o x c h1 h2
    exact ⟨u, hcell _ _ q⟩
  · cases e
    rw [show (XX cx.X ({ S₀ with own := some (l, ds') } : S).own) = XX cx.X S₀.own from hXX]
    exact ⟨lC, lp, vs', m', he, hr.mono (fun _ y _ _ => y) hx⟩
  · rw [show (XX cx.X ({ S₀ with own := some (l, ds') } : S).own) = XX cx.X S₀.own from hXX]
    obtain ⟨vc, g, st, k, tg, ts, tk', ns, nn', a, b, rr⟩ := t.pen p e
    exact ⟨vc, g, st, k, tg, ts, tk', ns, nn', hs.extBut p _ (fun q => lp (q ▸ e)) a, b.mono (fun _ y _ _ => y) hx, rr⟩
/-- x[j] = e, x the list under way -/
theorem Exp.setOwn (c : CxOK h0 n cx) {x : Str} {e : PySem.Expr} {xp jp pos pos' : Pos} {kk j : Nat} {l : Addr} {ds : List D} (hx : S₀.vars.lookup x = some (.raw (.ref l))) (ho : S₀.own = some (l, ds)) (hj : j < ds.length) (hl : ds.length ≤ 1000)
    (h : Evp prog cx S₀ e fun d k => K { S₀ with cnt := k, own := some (l, ds.set j d) })
    (hs : swapsWith e (some (.Subscript (.Name x xp) (.Constant (.int (j : Int)) kk jp) pos')) pos.line cx.env = pure false := by rfl)
    (hd : (x == ("__debug__" : Str)) = false := by decide) (hc : (x == ("__classdict__" : Str)) = false := by decide) :
    Exp prog cx E S₀ (.Assign [.Subscript (.Name x xp) (.Constant (.int (j : Int)) kk jp) pos'] e pos) K R := fun s t => by
  refine wpAny_Assign_Subscript (hs := hs) (wpAny_mono (h s t) (fun v s₁ ⟨d, k, t₁, k₁, r, q⟩ => ?_) fun _ _ x => x.elim)
  have hname : Evp prog cx { S₀ with cnt := k } (.Name x xp) fun d k' => d = .raw (.ref l) ∧ k' = k := Evp.name c hx ⟨rfl, rfl⟩ hd hc
  refine wpAny_mono (hname s₁ t₁) (fun v₂ s₂ ⟨d₂, k₂, t₂, kp₂, r₂, e1, e2⟩ => ?_) fun _ _ x => x.elim
  subst e1; subst e2
  cases r₂
  refine wpAny_Constant_int ?_
  have r' : Rep (XX cx.X S₀.own) s₂.heap v d := r.but kp₂ (c.penXX _)
  obtain ⟨lC, lp, vs, nn, e0, r0⟩ := t₂.own l ds ho
  have len := r0.length
  have hfree : (listOf vs.toArray nn).isFreed = false := rfl
  refine ki_setAt (s := { s₂ with toks := s₂.toks + 1 }) e0 (by omega) (by omega) (by rw [List.size_toArray]; omega) ?_
  have harr : vs.toArray.setIfInBounds ((j : Int).toNat) v = (vs.set j v).toArray := by
    apply Array.toList_inj.mp
    simp
  refine .inl ⟨rfl, _, t₂.own_to (vs' := vs.set j v) (m' := if ((vs.set j v).toArray.size == vs.toArray.size) = true then nn else nn + 1) ho c (Heap.SameBut.update ..) ?_ (RepAll.set r' r0 j), q⟩
  refine (Heap.get?_update_self _ e0 rfl).trans ?_
  show some (Obj.mapSeq _ (listOf vs.toArray nn)) = some _
  unfold Obj.mapSeq
  dsimp only
  rw [harr]
/-- x[j], x the list under way -/
theorem Evp.itemOwn (c : CxOK h0 n cx) {Q : D → Nat → Prop} {x : Str} {xp jp pos : Pos} {kk j : Nat} {l : Addr} {ds : List D} {d : D} (hx : S₀.vars.lookup x = some (.raw (.ref l))) (ho : S₀.own = some (l, ds)) (hj : ds[j]? = some d) (hl : ds.length ≤ 1000) (hq : Q d S₀.cnt)
    (hs : ∀ o i, subscripted (.Constant (.int (j : Int)) kk jp) false o i = operate [o, i] (getItem o i) := by intro _ _; rfl) (hd : (x == ("__debug__" : Str)) = false := by decide) (hc : (x == ("__classdict__" : Str)) = false := by decide) :
    Evp prog cx S₀ (.Subscript (.Name x xp) (.Constant (.int (j : Int)) kk jp) pos) Q := fun s t => by
  have hname : Evp prog cx S₀ (.Name x xp) fun d k' => d = .raw (.ref l) ∧ k' = S₀.cnt := Evp.name c hx ⟨rfl, rfl⟩ hd hc
  refine Subscript_ (wpAny_mono (hname s t) (fun v₂ s₂ ⟨d₂, k₂, t₂, kp₂, r₂, e1, e2⟩ => ?_) fun _ _ x => x)
  subst e1; subst e2
  cases r₂
  refine wpAny_Constant_int ?_
  have t₂' : St cx S₀ s₂ := t₂
  obtain ⟨lC, lp, vs, nn, e0, r0⟩ := t₂'.own l ds ho
  obtain ⟨u, hu, ru⟩ := r0.get hj
  have hjl := (List.getElem?_eq_some_iff.mp hj).1
  have hL : s₂.heap.IsList l vs.toArray := ⟨_, e0, rfl, _, rfl⟩
  refine tail_any (s := { s₂ with toks := s₂.toks + 1 }) hL.typeIs slot_list_getitem.lookup (wpAny_getItem_list hL (by omega) (by omega) (by simpa using hu) ?_) (hs _ _)
  exact ⟨d, S₀.cnt, t₂'.keeps c kp_tok, kp₂.trans (kp_tok.but _), ru, hq⟩
end
end Mine
end

section
set_option linter.unusedVariables false
open PySem PySem.W PyProof.Rows
set_option maxRecDepth 100000
namespace Mine

section
variable {prog : Program} {h0 : Heap} {w : World} {A : Around}
theorem op_div {i j : Int} (h : j ≠ 0) (hs : j.natAbs < 1073741824) : Op2 prog h0 w A (binaryOp .FloorDiv) (.int i) (.int j) (.int (i.fdiv j)) := fun X s va vb p ra rb => by
  cases ra; cases rb; exact floordiv_int h ⟨kp_tok, .int _ _⟩ (.inl (PyProof.noPylong_small hs))
end

/-- a def that draws: at most m draws; its result is of P -/
noncomputable def FnPen (prog : Program) (h0 : Heap) (n : Nat) (f : Addr) (m : Nat) (rest : List D) (P : D → Prop) : Prop :=
  ∀ w A X s args p cnt, Lv n A → PC h0 X s.heap → X p → h0.get? p = none → PenOK X p cnt s.heap → cnt + m ≤ 1000 → RepAll X s.heap args (.raw (.ref p) :: rest) →
    codeAny (model prog w) A (.call (.ref f) ⟨args, []⟩) (fun r s' => ∃ v d, r = .ok (.ret v) ∧ KeepsBut (some p) s s' ∧ Rep X s'.heap v d ∧ PenOK X p (cnt + m) s'.heap ∧ P d) s

noncomputable abbrev noPen (cx : Cx) : Cx := { cx with pen := none }
section
variable {prog : Program} {h0 : Heap} {cx : Cx} {n : Nat} {S₀ : S} {s : Shared}
theorem CxOK.noPen (c : CxOK h0 n cx) : CxOK h0 n (Mine.noPen cx) := ⟨c.lv, c.base, c.kind, c.glob, c.blt, c.LX, c.LC, c.cells, fun p e => (by cases e), c.cellsX⟩
noncomputable abbrev penD (ns : List Int) (g st k : Int) : List D := [.list (nums ns), .int g, .int st, .int k]
/-- the pen's list is the list under way -/
theorem St.penOwn (c : CxOK h0 n cx) (t : St cx S₀ s) (ho : S₀.own = none) {p : Addr} (hp : cx.pen = some p) :
    ∃ ns g st k, ns.length ≤ 63 ∧ 0 ≤ st ∧ st < 2147483647 ∧ 0 ≤ k ∧ k ≤ (S₀.cnt : Int) ∧ St (Mine.noPen cx) { S₀ with own := some (p, penD ns g st k), cnt := 0 } s := by
  obtain ⟨pX, pC⟩ := c.penX p hp
  obtain ⟨vc, g, st, k, tg, ts, tk, ns, nn, e, r, l1, l2, l3, l4, l5⟩ := t.pen p hp
  have hXX : XX cx.X (some (p, penD ns g st k)) = XX cx.X S₀.own := by
    rw [ho]
    funext a; apply propext
    constructor
    · rintro (x | ⟨_, z⟩)
      · exact .inl x
      · cases z; exact .inl pX
    · rintro (x | ⟨_, z⟩)
      · exact .inl x
      · cases z
  obtain ⟨m, hn, hv⟩ := t.ns
  refine ⟨ns, g, st, k, l1, l2, l3, l4, l5, t.rest, t.keep, t.live, ⟨m, hn, fun x d q => ?_⟩, t.cells, fun l ds q => ?_, fun p q => by cases q⟩
  · obtain ⟨v, a, rr⟩ := hv x d q
    exact ⟨v, a, by rw [show XX cx.X ({ S₀ with own := some (p, penD ns g st k), cnt := 0 } : S).own = XX cx.X S₀.own from hXX]; exact rr⟩
  · cases q
    refine ⟨pC, by simp, [vc, .int g tg, .int st ts, .int k tk], nn, e, ?_⟩
    rw [show XX (Mine.noPen cx).X ({ S₀ with own := some (p, penD ns g st k), cnt := 0 } : S).own = XX cx.X S₀.own from hXX]
    exact .cons r (.cons (.int _ _) (.cons (.int _ _) (.cons (.int _ _) .nil)))
end

section
variable {prog : Program} {h0 : Heap} {K : Frag} {n : Nat}
/-- what a draw leaves -/
noncomputable def Drawn1 (p : Addr) (cnt : Nat) (lim : Int) (d : D) (S' : S) : Prop := (∃ v, d = .int v ∧ 0 ≤ v ∧ v < lim) ∧ ∃ ns g st k, ns.length ≤ 63 ∧ 0 ≤ st ∧ st < 2147483647 ∧ 0 ≤ k ∧ k ≤ (cnt : Int) + 1 ∧ S'.own = some (p, penD ns g st k)
theorem draw_walk (B : Top0 K h0) (G : Gl K) {w : World} {A : Around} {L f p : Addr} {cdv : Value} {s0 : Shared} {C : Addr → Option Obj} {X : Addr → Prop} (c : CxOK h0 n (fnCx w A "_law_draw" (scopeOf (stAt topS 29)) L f cdv s0 C X none))
    {lim : Int} (h1 : 0 < lim) (h2 : lim ≤ 1000) {ns : List Int} {g st k : Int} {cnt : Nat} (l1 : ns.length ≤ 63) (l2 : 0 ≤ st) (l3 : st < 2147483647) (l4 : 0 ≤ k) (l5 : k ≤ (cnt : Int)) (l6 : cnt ≤ 1000) :
    Exps prog (fnCx w A "_law_draw" (scopeOf (stAt topS 29)) L f cdv s0 C X none) False2 { vars := [("pen", .raw (.ref p)), ("limit", .int lim)], own := some (p, penD ns g st k) } (bodyOf (stAt topS 29)) (fun _ => False) (Drawn1 p cnt lim) := by
  have hfm : ∀ x : Int, 0 ≤ x.fmod lim ∧ x.fmod lim < lim := fun x => by
    rw [Int.fmod_eq_emod_of_nonneg x (Int.le_of_lt h1)]
    exact ⟨Int.emod_nonneg _ (by omega), Int.emod_lt_of_pos _ h1⟩
  have hl0 : lim ≠ 0 := by omega
  have hls : lim.natAbs < 1073741824 := by omega
  refine Exps.cons (Exp.assign c (.inl rfl) (Evp.itemOwn (j := 3) c rfl rfl rfl (by show 4 ≤ 1000; decide) ?_))
  refine Exps.cons (Exp.setOwn (j := 3) c rfl rfl (by show 3 < 4; decide) (by show 4 ≤ 1000; decide) (Evp.bin c (Evp.name c rfl (Evp.cint c ⟨_, op_add, ?_⟩))))
  refine Exps.cons (Exp.ifs (Tst.cmpI c (Evp.itemOwn (j := 1) c rfl rfl rfl (by show 4 ≤ 1000; decide) ⟨g, rfl, Evp.cint c ⟨0, rfl, ?_⟩⟩)))
  cases hb : cmpI .Gt g 0 with
  | true =>
    simp only [if_true]
    refine Exps.cons (Exp.assign c (.inl rfl) (Evp.bin c (Evp.itemOwn (j := 1) c rfl rfl rfl (by show 4 ≤ 1000; decide) (Evp.name c rfl ⟨_, op_mod hl0, ?_⟩))))
    refine Exps.cons (Exp.setOwn (j := 1) c rfl rfl (by show 1 < 4; decide) (by show 4 ≤ 1000; decide) (Evp.bin c (Evp.itemOwn (j := 1) c rfl rfl rfl (by show 4 ≤ 1000; decide) (Evp.name c rfl ⟨_, op_div hl0 hls, ?_⟩))))
    exact Exps.ret c (Evp.name c rfl ⟨⟨_, rfl, hfm g⟩, ns, g.fdiv lim, st, k + 1, l1, l2, l3, by omega, by omega, rfl⟩)
  | false =>
    simp only [Bool.false_eq_true, if_false]
    refine Exps.nil ?_
    refine Exps.cons (Exp.setOwn (j := 2) c rfl rfl (by show 2 < 4; decide) (by show 4 ≤ 1000; decide) (Evp.bin c (Evp.bin c (Evp.bin c (Evp.bin c (Evp.itemOwn (j := 2) c rfl rfl rfl (by show 4 ≤ 1000; decide) (Evp.cint c ⟨_, op_mul ?_, ?_⟩)))))))
    · exact IntMulOk.of_right (by decide)
    refine Evp.bin c (Evp.name c rfl (Evp.name c rfl ⟨_, op_mul (IntMulOk.of_right (intBits_le_64 (by omega) (by omega))), _, op_add, Evp.cint c ⟨_, op_add, Evp.cint c ⟨_, op_mod (by decide), ?_⟩⟩⟩))
    have hst : 0 ≤ (st * 16807 + k * k + 7).fmod 2147483647 ∧ (st * 16807 + k * k + 7).fmod 2147483647 < 2147483647 := by
      rw [Int.fmod_eq_emod_of_nonneg _ (by decide)]
      exact ⟨Int.emod_nonneg _ (by decide), Int.emod_lt_of_pos _ (by decide)⟩
    generalize (st * 16807 + k * k + 7).fmod 2147483647 = st' at hst ⊢
    refine Exps.cons (Exp.ifs (Tst.cmpI c (Evp.name c rfl ⟨k, rfl, Evp.callB c B (G.bl "len" (by decide)) boot_len' (by decide) (Evs.cons c (Evp.itemOwn (j := 0) c rfl rfl rfl (by show 4 ≤ 1000; decide) (Evs.nil ⟨_, call_len (by simp [nums]; omega), _, rfl, ?_⟩))) rfl⟩)))
    rw [show ((nums ns).length : Int) = (ns.length : Int) by simp [nums]]
    cases hb2 : cmpI .Lt k (ns.length : Int) with
    | true =>
      simp only [if_true]
      have hk : k < ns.length := by simpa [cmpI] using hb2
      obtain ⟨z, hz⟩ : ∃ z, ns[k.toNat]? = some z := ⟨_, List.getElem?_eq_getElem (by omega)⟩
      refine Exps.ret c (Evp.bin c (Evp.itemL c (Evp.itemOwn (j := 0) c rfl rfl rfl (by show 4 ≤ 1000; decide) (Evp.name c rfl ⟨nums ns, k, .int z, rfl, rfl, by simp [nums]; omega, by simp [nums]; omega, by simp [nums]; omega, ?_, Evp.name c rfl ⟨_, op_mod hl0, ?_⟩⟩))))
      · rw [if_neg (by omega)]; simp [nums, hz]
      · exact ⟨⟨_, rfl, hfm z⟩, ns, g, st', k + 1, l1, hst.1, hst.2, by omega, by omega, rfl⟩
    | false =>
      simp only [Bool.false_eq_true, if_false]
      refine Exps.nil (Exps.ret c (Evp.bin c (Evp.bin c (Evp.itemOwn (j := 2) c rfl rfl rfl (by show 4 ≤ 1000; decide) (Evp.cint c ⟨_, op_div (by decide) (by decide), Evp.name c rfl ⟨_, op_mod hl0, ?_⟩⟩)))))
      exact ⟨⟨_, rfl, hfm _⟩, ns, g, st', k + 1, l1, hst.1, hst.2, by omega, by omega, rfl⟩
end
end Mine
end

section
set_option linter.unusedVariables false
open PySem PySem.W PyProof.Rows
set_option maxRecDepth 100000
namespace Mine

section
variable {prog : Program} {h0 : Heap} {K : Frag} {n : Nat}
noncomputable def isInt (lim : Int) (d : D) : Prop := ∃ v, d = .int v ∧ 0 ≤ v ∧ v < lim
theorem F_draw (B : Top0 K h0) (G : Gl K) {a : Addr} (F : FnAt K a (stAt topS 29)) {lim : Int} (h1 : 0 < lim) (h2 : lim ≤ 1000) : FnPen prog h0 (n + 1) a 1 [.int lim] (isInt lim) := fun w A X s args p cnt lv pc pX p0 hp hc r => by
  obtain ⟨oc, od, osl, doc, pm, cdv, ct, an, ho, hcd⟩ := F.rec_
  refine enter (pen := some p) (cnt := cnt) (xs := ["pen", "limit"]) B ho hcd lv pc r (?_) (fun n x hx => ?_) (by decide) rfl (fun q e => by cases e; exact ⟨pX, p0, hp⟩) (fun L s₁ X' hX c t => ?_) rfl rfl rfl
  · obtain ⟨a, b, rfl⟩ := len2 r.length
    rfl
  · exact kLoc rfl n x hx
  obtain ⟨ns, g, st, k, l1, l2, l3, l4, l5, t'⟩ := t.penOwn c rfl rfl
  refine wpAny_mono (draw_walk B G c.noPen h1 h2 l1 l2 l3 l4 l5 (by show cnt ≤ 1000; omega) s₁ t') (fun fl s' p' => ?_) fun _ _ x => x.elim
  rcases p' with ⟨_, _, _, q⟩ | ⟨v, d, S', e, t', rr, ⟨x, e1, x1, x2⟩, ns', g', st', k', m1, m2, m3, m4, m5, hown⟩
  · exact q.elim
  · subst e; subst e1
    obtain ⟨h', tk, e2⟩ := t'.rest
    obtain ⟨_, _, vs, nn, e3, r3⟩ := t'.own p _ hown
    refine ⟨v, _, rfl, ⟨h', tk, e2, fun b o hb hbo => ?_⟩, ?_, ?_, x, rfl, x1, x2⟩
    · have := t'.keep b o (Cm_has hb hbo)
      rw [e2] at this; exact this
    · cases rr; exact .int _ _
    · cases r3 with
      | cons q1 r3 => cases r3 with
        | cons q2 r3 => cases r3 with
          | cons q3 r3 => cases r3 with
            | cons q4 r3 =>
              cases r3
              cases q2; cases q3; cases q4
              exact ⟨_, g', st', k', _, _, _, ns', nn, e3, q1.mono (fun a x _ _ => .inl (hX a x)) fun _ _ _ e => e, m1, m2, m3, m4, by have m5' : k' ≤ (cnt : Int) + 1 := m5; omega⟩
end
section
variable {prog : Program} {h0 : Heap} {K : Frag} {cx : Cx} {n : Nat} {S₀ : S} {Q : D → Nat → Prop}
inductive PenQ (prog : Program) (h0 : Heap) (n : Nat) (a pn : Addr) (Q : D → Nat → Prop) (ds : List D) (k : Nat) : Prop
  | mk (rest : List D) (m n' : Nat) (P : D → Prop) (e : ds = .raw (.ref pn) :: rest) (hn : n' ≤ n) (ok : FnPen prog h0 n' a m rest P) (hk : k + m ≤ 1000) (q : ∀ d, P d → Q d (k + m)) : PenQ prog h0 n a pn Q ds k
inductive DrawQ (Q : D → Nat → Prop) (d : D) (k : Nat) : Prop
  | mk (lim : Int) (e : d = .int lim) (l1 : 0 < lim) (l2 : lim ≤ 1000) (l3 : k + 1 ≤ 1000) (q : ∀ v : Int, 0 ≤ v → v < lim → Q (.int v) (k + 1)) : DrawQ Q d k
/-- a call that draws -/
theorem Evp.callPen (c : CxOK h0 n cx) (B : Top0 K h0) {f : Str} {p pos : Pos} {e : PySem.Expr} {es : List PySem.Expr} {a pn : Addr} (hf : nsIn K mainGlobals f = some (some (.ref a))) (hk : keepIn K (.ref a) = true) (hp : cx.pen = some pn)
    (h : Evs prog cx S₀ (e :: es) (PenQ prog h0 n a pn Q))
    (hx : cx.env.kindOf f = some .globalImplicit) (hs : (e :: es).all notStar = true := by rfl) (hd : (f == ("__debug__" : Str)) = false := by decide) : Evp prog cx S₀ (.Call (.Name f p) (e :: es) [] pos) Q := fun s t => by
  show wpAny _ _ (do callWith pos (← eval (.Name f p) cx.env) [] (backTo pos (starEach (e :: es) cx.env)) (backToKw pos (keywordEach [] cx.env))) _ _ s
  obtain ⟨_, _, mg, mb, T⟩ := B.top
  have pc := t.pc c
  refine wpAny_bind (Calls.Name_function_global c.kind hx (Calls.loadGlobal_global (by rw [c.glob]; exact T.g.keeps pc.base) (mg_of B.inK T.g hf) ?_) hd)
  have hs' : notStar e = true ∧ es.all notStar = true := by simpa using hs
  refine callWith_K (pc.inK B) hk (wpAny_mono (h s pos t) (fun vs s₁ ⟨ds, k, t₁, k₁, r, rest, m, n', P, e1, hn, ok, hk', hq⟩ => ⟨(t₁.pc c).inK B, ?_⟩) fun _ _ x => x) (starEach_cons e es _ hs'.1) (backTo_plain hs'.2)
  subst e1
  obtain ⟨pX, pC⟩ := c.penX pn hp
  have p0 : h0.get? pn = none := by
    cases z : h0.get? pn with
    | none => rfl
    | some o => have := c.base _ _ z; rw [pC] at this; cases this
  refine wpAny_call (codeAny_mono (ok cx.w cx.A _ s₁ _ pn k (c.lv.mono hn) (t₁.pc c) (.inl pX) p0 (t₁.pen pn hp) hk' r) fun rr s₂ ⟨v, d, e, kp, rv, pk, hP⟩ => ?_)
  subst e
  have kp' : KeepsBut cx.pen s₁ s₂ := by rw [hp]; exact kp
  exact ⟨d, k + m, t₁.keepsBut c kp' (k + m) (fun q hq' => by rw [hp] at hq'; cases hq'; exact pk), k₁.trans kp', rv, hq d hP⟩
/-- _law_draw(pen, limit) -/
theorem Evp.draw (c : CxOK h0 (n + 1) cx) (B : Top0 K h0) (G : Gl K) {x : Str} {p pos xp : Pos} {e : PySem.Expr} {a pn : Addr} (F : FnAt K a (stAt topS 29)) (hp : cx.pen = some pn) (hpn : S₀.vars.lookup x = some (.raw (.ref pn)))
    (h : Evp prog cx S₀ e (DrawQ Q)) (hx : cx.env.kindOf "_law_draw" = some .globalImplicit := by rfl) (hst : notStar e = true := by rfl)
    (hd : (x == ("__debug__" : Str)) = false := by decide) (hcd : (x == ("__classdict__" : Str)) = false := by decide) :
    Evp prog cx S₀ (.Call (.Name "_law_draw" p) [.Name x xp, e] [] pos) Q :=
  Evp.callPen c B F.glob F.keep hp (Evs.cons c (Evp.name c hpn (Evs.cons c (h.mono fun d k ⟨lim, e1, l1, l2, l3, q⟩ => Evs.nil ⟨[.int lim], 1, 1, isInt lim, by subst e1; rfl, by omega, F_draw B G F l1 l2, l3, fun d' ⟨v, e2, v1, v2⟩ => by subst e2; exact q v v1 v2⟩) hst) hd hcd)) hx (by show (true && (notStar e && true)) = true; rw [hst]; rfl) (by decide)
end
end Mine
end

section
set_option linter.unusedVariables false
open PySem PySem.W PyProof.Rows
set_option maxRecDepth 100000
namespace Mine

section
variable {prog : Program} {h0 : Heap} {K : Frag} {n : Nat}
theorem PenOK.le {X Y : Addr → Prop} {p : Addr} {m k : Nat} {h : Heap} (q : PenOK X p m h) (hX : ∀ a, Y a → X a) (hk : m ≤ k) : PenOK Y p k h := by
  obtain ⟨vc, g, st, k', tg, ts, tk, ns, nn, a, b, l1, l2, l3, l4, l5⟩ := q
  exact ⟨vc, g, st, k', tg, ts, tk, ns, nn, a, b.mono (fun a x _ _ => hX a x) fun _ _ _ e => e, l1, l2, l3, l4, by omega⟩
theorem FnPen.of (B : Top0 K h0) {f : Addr} {oc : Value} {od : Option Addr} {osl : Array (Option Value)} {name qual : Str} {params : Arguments} {body : List Stmt} {scope : Scope} {dV kV doc pm cdv ct : Value} {an : Option Addr} (xs : List Str) {ds : List D} {m : Nat} {P : D → Prop}
    (ho : K.lookup f = some ⟨oc, od, .func (fnOf name qual params body scope dV kV doc pm an cdv ct), osl⟩) (hcd : codeIn K cdv qual = true)
    (hbind : ∀ args : List Value, args.length = ds.length + 1 → bindArgs (fnOf name qual params body scope dV kV doc pm an cdv ct) ⟨args, []⟩ = pure (xs.zip args))
    (hkind : ∀ n, ∀ x ∈ xs, scope.names.lookup x = some .local ∨ (scope.names.lookup x = some .cell ∧ ((cellsFrom n scope.names []).lookup x).isSome = true)) (hnd : xs.Nodup) (hlen : xs.length = ds.length + 1)
    (h : ∀ w A L s0 C X p cnt, cnt + m ≤ 1000 → CxOK h0 n (fnCx w A qual scope L f cdv s0 C X (some p)) → Exps prog (fnCx w A qual scope L f cdv s0 C X (some p)) (fun _ _ => False) { vars := xs.zip (.raw (.ref p) :: ds), cnt := cnt } body (fun _ => False) (fun d' S' => P d' ∧ S'.cnt ≤ cnt + m))
    (hco : scope.isCoroutine = false := by rfl) (hgen : scope.isGenerator = false := by rfl) (hk : scope.kind = .function := by rfl) : FnPen prog h0 (n + 1) f m ds P := fun w A X s args p cnt lv pc pX p0 hp hc r => by
  refine enter (pen := some p) (cnt := cnt) B ho hcd lv pc r (hbind args (by rw [r.length]; rfl)) hkind hnd hlen (fun q e => by cases e; exact ⟨pX, p0, hp⟩) (fun L s₁ X' hX c t => ?_) hco hgen hk
  refine wpAny_mono (h w _ L s _ X' p cnt hc c s₁ t) (fun fl s' p' => ?_) fun _ _ x => x.elim
  rcases p' with ⟨_, _, _, q⟩ | ⟨v, d, S', e, t', rr, hP, hcnt⟩
  · exact q.elim
  · subst e
    obtain ⟨h', tk, e2⟩ := t'.rest
    refine ⟨v, d, rfl, ⟨h', tk, e2, fun b o hb hbo => ?_⟩, rr.mono (fun a x _ _ => .inl (hX a x)) fun _ _ _ e => e, (t'.pen p rfl).le (fun a x => .inl (hX a x)) hcnt, hP⟩
    have := t'.keep b o (Cm_has hb hbo)
    rw [e2] at this; exact this
end

section
variable {prog : Program} {h0 : Heap} {cx : Cx} {n : Nat} {S₀ : S} {α β : Type} {Kk : S → Prop} {R : D → S → Prop} {E' : Value → Shared → Prop}
inductive ForXQ (prog : Program) (h0 : Heap) (n : Nat) (cx : Cx) (S₀ : S) (E : Enc α) (β : Type) (target : PySem.Expr) (body : List Stmt) (Kk : S → Prop) (R : D → S → Prop) (ds : List D) (k : Nat) : Prop
  | mk (xs : List α) (canon : β → S) (P : Nat → β → Prop) (b0 : β) (e : ds = xs.map E.enc) (hX : ∀ b, XX cx.X (canon b).own = XX cx.X S₀.own) (h0' : Sub (canon b0) { S₀ with cnt := k }) (hP : P 0 b0)
    (turn : ∀ C' X', CxOK h0 n (cx.at C' X') → ∀ i y b, xs[i]? = some y → P i b → Asg prog (cx.at C' X') (canon b) target (E.enc y) fun S' => Exps prog (cx.at C' X') (fun _ _ => False) S' body (fun S₂ => ∃ b', P (i + 1) b' ∧ Sub (canon b') S₂) R)
    (fin : ∀ S' b, Sub (canon b) S' → P xs.length b → Kk S') : ForXQ prog h0 n cx S₀ E β target body Kk R ds k
/-- for, the state between the turns one of a kind -/
theorem Exp.forX (E : Enc α) (c : CxOK h0 n cx) {target iter : PySem.Expr} {body : List Stmt} {pos : Pos}
    (h : Itr prog cx S₀ target iter (ForXQ prog h0 n cx S₀ E β target body Kk R))
    (hs : ∀ x, foldedSetIterable iter cx.env x = pure x := by intro _; rfl) : Exp prog cx E' S₀ (.For target iter body [] pos) Kk R := by
  refine Exp.for_ c (h.mono fun ds k ⟨xs, canon, P, b0, e1, hX, h0', hP, turn, fin⟩ => ?_) hs
  subst e1
  refine ⟨fun i S' => ∃ b, P i b ∧ Sub (canon b) S', fun i S' ⟨b, _, hS⟩ => ?_, ⟨b0, hP, h0'⟩, fun cx' hT c' i d S' hd ⟨b, hb, hS⟩ => ?_, fun S' ⟨b, hb, hS⟩ => fin S' b hS (by simpa using hb)⟩
  · rw [← hS.1]; exact hX b
  · obtain ⟨C', X', rfl⟩ := hT
    rw [List.getElem?_map] at hd
    obtain ⟨y, hy, rfl⟩ := Option.map_eq_some_iff.mp hd
    intro s v t r
    exact turn C' X' c' i y b hy hb s v (t.sub hS) (by
      have e : (canon b).own = S'.own := hS.1
      rw [e]; exact r)
end

/-- rows as _law_rows makes them -/
structure Gen (rs : List Row) (last : Int) : Prop where
  len : rs.length ≤ 9
  rise : rs.Pairwise fun a b => a.cl ≤ b.cl
  zero : ∃ r ∈ rs, r.cl = 0
  last_ : ∃ r ∈ rs, r.cl = last
  le : ∀ r ∈ rs, 0 ≤ r.cl ∧ r.cl ≤ last ∧ 0 ≤ r.adv ∧ r.adv < 40
  last_le : last ≤ 18
/-- between the turns -/
structure GenAt (i : Nat) (b : List Row × Int × Nat) (k0 : Nat) : Prop where
  len : b.1.length = i
  cl0 : i = 0 → b.2.1 = 0
  cl : 0 ≤ b.2.1 ∧ b.2.1 ≤ 2 * i
  rise : b.1.Pairwise fun a b => a.cl ≤ b.cl
  zero : 0 < i → (∃ r ∈ b.1, r.cl = 0) ∧ ∃ r ∈ b.1, r.cl = b.2.1
  le : ∀ r ∈ b.1, 0 ≤ r.cl ∧ r.cl ≤ b.2.1 ∧ 0 ≤ r.adv ∧ r.adv < 40
  cnt : b.2.2 ≤ k0 + 3 * i
theorem GenAt.step {i k0 : Nat} {rs : List Row} {cl cl' : Int} {k k' : Nat} {r : Row} (g : GenAt i (rs, cl, k) k0) (h1 : i = 0 → cl' = 0) (h2 : cl ≤ cl') (h3 : cl' ≤ cl + 2) (hr : r.cl = cl') (ha : 0 ≤ r.adv ∧ r.adv < 40) (hk : k' ≤ k0 + 3 * (i + 1)) :
    GenAt (i + 1) (rs ++ [r], cl', k') k0 := by
  obtain ⟨len, cl0, ⟨c1, c2⟩, rise, zero, le, cnt⟩ := g
  simp only at len cl0 c1 c2 rise zero le cnt
  refine ⟨by simp [len], fun e => by omega, ⟨by show 0 ≤ cl'; omega, by show cl' ≤ _; push_cast; omega⟩, ?_, fun _ => ⟨?_, r, by simp, hr⟩, ?_, hk⟩
  · rw [List.pairwise_append]
    refine ⟨rise, List.pairwise_singleton _ _, fun a ha' b hb => ?_⟩
    rw [List.mem_singleton.mp hb, hr]
    have := le a ha'; omega
  · by_cases q : i = 0
    · exact ⟨r, by simp, by rw [hr, h1 q]⟩
    · obtain ⟨⟨z, hz, e⟩, _⟩ := zero (by omega)
      exact ⟨z, by simp [hz], e⟩
  · intro x hx
    show 0 ≤ x.cl ∧ x.cl ≤ cl' ∧ _
    rcases List.mem_append.mp hx with q | q
    · have := le x q; omega
    · rw [List.mem_singleton.mp q, hr]
      exact ⟨by omega, by omega, ha.1, ha.2⟩
end Mine
end

section
set_option linter.unusedVariables false
open PySem PySem.W PyProof.Rows
set_option maxRecDepth 100000
namespace Mine

section
variable {prog : Program} {h0 : Heap} {K : Frag} {n : Nat}
theorem F_rows (B : Top0 K h0) (G : Gl K) {a ad : Addr} (F : FnAt K a (stAt topS 30)) (Fd : FnAt K ad (stAt topS 29)) : FnPen prog h0 2 a 28 [] (fun d => ∃ rs last, d = .tup [rowsD rs, .int last] ∧ Gen rs last) := by
  obtain ⟨oc, od, osl, doc, pm, cdv, ct, an, ho, hcd⟩ := F.rec_
  refine FnPen.of B ["pen"] ho hcd (fun args h => ?_) (fun n x hx => ?_) (by decide) rfl (fun w A L' s0 C X p cnt hcnt c => ?_) rfl rfl rfl
  · obtain ⟨a, rfl⟩ := len1 h
    rfl
  · exact kLoc rfl n x hx
  refine Exps.cons (Exp.newOwn c (.inl rfl) rfl fun l hlX => ?_)
  refine Exps.cons (Exp.assign c (.inl rfl) (Evp.cint c ?_))
  let canon : List Row × Int × Nat → S := fun b => { vars := [("rows", .raw (.ref l)), ("cluster", .int b.2.1), ("pen", .raw (.ref p))], own := some (l, b.1.map Row.d), cnt := b.2.2 }
  refine Exps.cons (Exp.forX encI c (Itr.rng c (Evp.callT c B (G.bl "range" (by decide)) boot_range (by decide) (Evs.cons c (Evp.bin c (Evp.cint c (Evp.draw c B G Fd rfl rfl (Evp.cint c ⟨9, rfl, by decide, by decide, by show cnt + 1 ≤ 1000; omega, fun v v0 v1 => ⟨_, op_add, Evs.nil ⟨_, call_range1, 0, (1 + v).toNat, ?_, by decide, by decide, by omega, (List.range (1 + v).toNat).map fun (i : Nat) => (0 + (i : Int)), canon, fun i b => GenAt i b (cnt + 1), ([], 0, cnt + 1), ?_, ?_, ?_, ?_, ?_, ?_⟩⟩⟩))))) rfl)))
  · show D.rng 0 (1 + v) = D.rng 0 (0 + ((1 + v).toNat : Int))
    congr 1; omega
  · unfold rints
    rw [List.map_map]; rfl
  · intro b; exact XX_own
  · refine Sub.of rfl rfl ?_
    repeat (first | exact lkNil | refine lkCons rfl ?_)
  · exact ⟨rfl, fun _ => rfl, ⟨by show (0 : Int) ≤ 0; omega, by show (0 : Int) ≤ 2 * (0 : Nat); omega⟩, .nil, fun h => (Nat.lt_irrefl 0 h).elim, fun r hr => (by cases hr), by show cnt + 1 ≤ cnt + 1 + 3 * 0; omega⟩
  · intro C' X' c' i y b hy hb
    have hi : i < (1 + v).toNat := by
      have := (List.getElem?_eq_some_iff.mp hy).1
      simpa using this
    have hy' : y = (i : Int) := by
      rw [List.getElem?_map, List.getElem?_range hi] at hy
      simp at hy; omega
    subst hy'
    obtain ⟨rs, cl, k⟩ := b
    have hk := hb.cnt
    have hlen := hb.len
    simp only at hk hlen
    let mid : Int → Nat → S := fun cl' k' => { vars := [("place", .int i), ("rows", .raw (.ref l)), ("cluster", .int cl'), ("pen", .raw (.ref p))], own := some (l, rs.map Row.d), cnt := k' }
    have tail : ∀ (cl' : Int) (k' : Nat), (i = 0 → cl' = 0) → cl ≤ cl' → cl' ≤ cl + 2 → k' ≤ k + 1 → Exps prog _ (fun _ _ => False) (mid cl' k') (match stAt (bodyOf (stAt topS 30)) 2 with | .For _ _ b _ _ => b.drop 1 | _ => []) (fun S₂ => ∃ b', GenAt (i + 1) b' (cnt + 1) ∧ Sub (canon b') S₂) (fun d' S' => (∃ rs last, d' = .tup [rowsD rs, .int last] ∧ Gen rs last) ∧ S'.cnt ≤ cnt + 28) := fun cl' k' q1 q2 q3 q4 => by
      refine Exps.cons (Exp.assign c' (.inl rfl) (Evp.cmp c' (Evp.draw c' B G Fd rfl rfl (Evp.cint c' ⟨3, rfl, by decide, by decide, by show k' + 1 ≤ 1000; omega, fun u u0 u1 => Evp.cint c' ⟨_, op_eqi, ?_⟩⟩))))
      refine Exps.cons (Exp.append c' (l := l) (ds := rs.map Row.d) rfl rfl (by simp; omega) ?_)
      refine Evp.tuple c' (Evs.cons c' (Evp.bin c' (Evp.name c' rfl (Evp.cint c' ⟨_, op_add, Evs.cons c' (Evp.name c' rfl (Evs.cons c' (Evp.draw c' B G Fd rfl rfl (Evp.cint c' ⟨40, rfl, by decide, by decide, by show k' + 1 + 1 ≤ 1000; omega, fun z z0 z1 => Evs.cons c' (Evp.cint c' (Evs.cons c' (Evp.name c' rfl (Evs.cons c' (Evp.un c' (Evp.name c' rfl ⟨_, op_neg, Evs.cons c' (Evp.name c' rfl (Evs.nil ⟨by simp, ?_⟩))⟩))))))⟩))))⟩))))
      refine Exps.nil ⟨(rs ++ [⟨(i : Int) + 1, cl', z, 0, i, -i, u == 2⟩], cl', k' + 1 + 1), hb.step q1 q2 q3 rfl ⟨z0, z1⟩ (by omega), Sub.of ?_ rfl ?_⟩
      · show some (l, (rs ++ [_]).map Row.d) = _
        rw [List.map_append]; rfl
      · repeat (first | exact lkNil | refine lkCons rfl ?_)
    refine Asg.name c' (.inl rfl) ?_
    refine Exps.cons (Exp.ifs (Tst.cmpI c' (Evp.name c' rfl ⟨(i : Int), rfl, Evp.cint c' ⟨0, rfl, ?_⟩⟩)))
    cases hbp : cmpI .Gt (i : Int) 0 with
    | true =>
      simp only [if_true]
      have hip : 0 < i := by
        have : (0 : Int) < i := by simpa [cmpI] using hbp
        omega
      refine Exps.cons (Exp.assign c' (.inl rfl) (Evp.bin c' (Evp.name c' rfl (Evp.draw c' B G Fd rfl rfl (Evp.cint c' ⟨3, rfl, by decide, by decide, by show k + 1 ≤ 1000; omega, fun u u0 u1 => ⟨_, op_add, ?_⟩⟩)))))
      refine Exps.nil (Exps.sub (tail (cl + u) (k + 1) (fun e => by omega) (by omega) (by omega) (by omega)) (Sub.of rfl rfl ?_))
      repeat (first | exact lkNil | refine lkCons rfl ?_)
    | false =>
      simp only [Bool.false_eq_true, if_false]
      refine Exps.nil (Exps.sub (tail cl k (fun e => hb.cl0 e) (by omega) (by omega) (by omega)) (Sub.of rfl rfl ?_))
      repeat (first | exact lkNil | refine lkCons rfl ?_)
  · intro S' b hS hb
    obtain ⟨rs, cl, k⟩ := b
    have hlen : ((List.range (1 + v).toNat).map fun (i : Nat) => (0 + (i : Int))).length = (1 + v).toNat := by simp
    rw [hlen] at hb
    have hk := hb.cnt
    have hl := hb.len
    have hc := hb.cl
    have hz := hb.zero (by omega)
    simp only at hk hl hc hz
    refine Exps.sub (S' := canon (rs, cl, k)) (Exps.freeze (x := "rows") (l := l) (ds := rs.map Row.d) rfl hlX rfl ?_) hS
    refine Exps.ret c (Evp.tuple c (Evs.cons c (Evp.name c rfl (Evs.cons c (Evp.name c rfl (Evs.nil ⟨by simp, ⟨rs, cl, rfl, ⟨by omega, hb.rise, hz.1, hz.2, hb.le, by omega⟩⟩, by show k ≤ cnt + 28; omega⟩))))))
end
end Mine
end

section
set_option linter.unusedVariables false
open PySem PySem.W PyProof.Rows
set_option maxRecDepth 100000
namespace Mine

section
variable {prog : Program} {h0 : Heap} {cx : Cx} {n : Nat} {S₀ : S} {E : Value → Shared → Prop} {K : S → Prop} {R : D → S → Prop} {s : Shared}
theorem St.own_fresh (t : St cx S₀ s) (h0' : S₀.own = none) {h' : Heap} {tk : Nat} (hk : ∀ b o, s.heap.get? b = some o → h'.get? b = some o) {l : Addr} (hl : s.heap.get? l = none) {nn : Nat} {vs : List Value} {ds : List D} (he : h'.get? l = some (listOf vs.toArray nn)) (hr : RepAll (XX cx.X S₀.own) s.heap vs ds) :
    St cx { S₀ with own := some (l, ds) } { s with heap := h', toks := tk } := by
  obtain ⟨h₁, tk₁, e₁⟩ := t.rest
  have hx : ∀ a, XX cx.X (some (l, ds)) a → ∀ o, s.heap.get? a = some o → XX cx.X S₀.own a := by
    rintro a (x | ⟨_, e⟩) o q
    · exact .inl x
    · cases e; rw [hl] at q; cases q
  obtain ⟨m, hn, hv⟩ := t.ns
  refine ⟨⟨h', tk, by rw [e₁]⟩, fun b o e => hk b o (t.keep b o e), fun a x => ?_, ⟨m, hn.keeps hk, fun x d e => ?_⟩, fun ho x c h1 h2 => ?_, fun l' ds e => ?_, fun p e => ?_⟩
  · obtain ⟨o, e⟩ := t.live a x; exact ⟨o, hk a o e⟩
  · obtain ⟨v, a, r⟩ := hv x d e
    exact ⟨v, a.keeps fun c q => q.keeps hk, r.mono hx fun b o _ e => hk b o e⟩
  · obtain ⟨v, q⟩ := t.cells ho x c h1 h2
    exact ⟨v, q.keeps hk⟩
  · cases e
    exact ⟨C_none t hl, pen_live t hl, vs, nn, he, hr.mono hx fun b o _ e => hk b o e⟩
  · obtain ⟨vc, g, st, k, tg, ts, tk', ns, nn', a, b, r⟩ := t.pen p e
    exact ⟨vc, g, st, k, tg, ts, tk', ns, nn', hk _ _ a, b.mono hx fun b o _ e => hk b o e, r⟩
/-- return [..]: a list of its own -/
theorem Exp.retNew (c : CxOK h0 n cx) (ho : S₀.own = none) {es : List PySem.Expr} {lp pos : Pos} (h : Evs prog cx S₀ es fun ds k => ds.length ≤ 1000 ∧ ∀ p, R (.raw (.ref p)) { S₀ with own := some (p, ds), cnt := k }) : Exp prog cx E S₀ (.Return (some (.List es lp)) pos) K R := fun s t =>
  wpAny_Return_some (List_ (wpAny_mono (h s lp t) (fun vs s₁ ⟨ds, k, t₁, k₁, r, hl, q⟩ => wpAny_newObj_type (.inr ⟨_, _, _, rfl, t₁.own_fresh (tk := s₁.toks) (h' := s₁.heap.push (listOf vs.toArray 0)) ho (fun b o e => Heap.get?_push_of_some _ e) (fresh_size s₁.heap) (Heap.get?_push_size _ rfl) r, .raw _, q _⟩) (by show vs.toArray.size ≤ sizeLine; rw [List.size_toArray, r.length]; exact Nat.le_trans hl (by decide))) fun _ _ x => x.elim))
end

section
variable {prog : Program} {h0 : Heap} {K : Frag} {n : Nat}
/-- _law_pen: a pen of its own -/
noncomputable def NewPen (prog : Program) (h0 : Heap) (n : Nat) (f : Addr) : Prop :=
  ∀ w A X s args ns, Lv n A → PC h0 X s.heap → ns.length ≤ 63 → RepAll X s.heap args [.list (nums ns)] →
    codeAny (model prog w) A (.call (.ref f) ⟨args, []⟩) (fun r s' => ∃ p, r = .ok (.ret (.ref p)) ∧ Kp s s' ∧ s.heap.get? p = none ∧ PenOK X p 0 s'.heap) s
noncomputable def PenRet (d : D) (S' : S) : Prop := ∃ p ns g st, d = .raw (.ref p) ∧ S'.own = some (p, penD ns g st 0) ∧ ns.length ≤ 63 ∧ 0 ≤ st ∧ st < 2147483647
theorem pen_walk (B : Top0 K h0) (G : Gl K) {w : World} {A : Around} {L f : Addr} {cdv : Value} {s0 : Shared} {C : Addr → Option Obj} {X : Addr → Prop} (c : CxOK h0 n (fnCx w A "_law_pen" (scopeOf (stAt topS 28)) L f cdv s0 C X none)) {ns : List Int} (hn : ns.length ≤ 63) :
    Exps prog (fnCx w A "_law_pen" (scopeOf (stAt topS 28)) L f cdv s0 C X none) False2 { vars := [("script", .list (nums ns))] } (bodyOf (stAt topS 28)) (fun _ => False) PenRet := by
  refine Exps.cons (Exp.assignComp c (CompRes.c0 encI (Itr.list c (Evp.sliceL c (Evp.name c rfl (Evo.none_ (Evo.some_ (Evp.cint c ⟨48, rfl, Evo.none_ ⟨nums ns, _, rfl, by simp [nums]; omega, pickD_upto 48, _, rfl, ns.take 48, fun x => .int x, ?_, by simp; omega, fun cl Lc s₀ C X c' y hy k => ?_, ?_⟩⟩)))))))  (.inl rfl))
  · simp [nums, encI, List.map_take]
  · exact Evp.callT c' B (G.bl "int" (by decide)) boot_int (by decide) (Evs.cons c' (Evp.name c' rfl (Evs.nil ⟨_, call_int, rfl⟩))) rfl
  rw [show ((ns.take 48).map fun x => D.int x) = nums (ns.take 48) from rfl]
  have hcl : (ns.take 48).length ≤ 48 := List.length_take_le _ _
  generalize ns.take 48 = cs at hcl ⊢
  refine Exps.cons (Exp.assign c (.inl rfl) (Evp.cint c ?_))
  let mid : Int → S := fun g => { vars := [("great", .int g), ("cells", .list (nums cs))] }
  have tail : ∀ g : Int, Exps prog (fnCx w A "_law_pen" (scopeOf (stAt topS 28)) L f cdv s0 C X none) False2 (mid g) ((bodyOf (stAt topS 28)).drop 3) (fun _ => False) PenRet := fun g => by
    refine Exps.cons (Exp.assign c (.inl rfl) (Evp.cint c ?_))
    let canon : Int → S := fun st => { vars := [("state", .int st), ("great", .int g), ("cells", .list (nums cs))] }
    refine Exps.cons (Exp.forX encI c (Itr.list c (Evp.name c rfl ⟨nums cs, rfl, cs, canon, fun _ st => 0 ≤ st ∧ st < 2147483647, 1, rfl, fun b => rfl, Sub.of rfl rfl ?_, ⟨by decide, by decide⟩, fun C' X' c' i y st hy hb => ?_, fun S' st hS hb => ?_⟩)))
    · repeat (first | exact lkNil | refine lkCons rfl ?_)
    · refine Asg.name c' (.inl rfl) ?_
      refine Exps.cons (Exp.assign c' (.inl rfl) (Evp.bin c' (Evp.bin c' (Evp.bin c' (Evp.bin c' (Evp.name c' rfl (Evp.cint c' ⟨_, op_mul (IntMulOk.of_right (by decide)), Evp.bin c' (Evp.name c' rfl (Evp.cint c' ⟨_, op_mod (by decide), _, op_add, Evp.cint c' ⟨_, op_add, Evp.cint c' ⟨_, op_mod (by decide), ?_⟩⟩⟩))⟩)))))))
      refine Exps.nil ⟨(st * 48271 + y.fmod 2147483647 + 12345).fmod 2147483647, ?_, Sub.of rfl rfl ?_⟩
      · rw [Int.fmod_eq_emod_of_nonneg _ (by decide)]
        exact And.intro (Int.emod_nonneg _ (by decide)) (Int.emod_lt_of_pos _ (by decide))
      · repeat (first | exact lkNil | refine lkCons rfl ?_)
    · refine Exps.sub (S' := canon st) (Exps.cons (Exp.retNew c rfl (Evs.cons c (Evp.name c rfl (Evs.cons c (Evp.name c rfl (Evs.cons c (Evp.name c rfl (Evs.cons c (Evp.cint c (Evs.nil ⟨by simp, fun p => ⟨p, cs, g, st, rfl, rfl, by omega, hb.1, hb.2⟩⟩))))))))))) hS
  refine Exps.cons (Exp.ifs (Tst.and2 (Tst.plain c (Evp.name c rfl ⟨_, Tru.list (by simp [nums]; omega), fun h => ?_, fun h => ?_⟩))))
  · simp only [Bool.false_eq_true, if_false]
    refine Exps.nil (Exps.sub (tail 0) (Sub.of rfl rfl ?_))
    repeat (first | exact lkNil | refine lkCons rfl ?_)
  have hne : cs ≠ [] := fun e => by subst e; simp [nums] at h
  have hlp : 0 < cs.length := List.length_pos_iff.mpr hne
  obtain ⟨z, hz⟩ : ∃ z, cs[0]? = some z := ⟨_, List.getElem?_eq_getElem hlp⟩
  have hitem : ∀ (S₁ : S) (Q : D → Nat → Prop) p1 p2 p3 kk, S₁.vars.lookup ("cells" : Str) = some (.list (nums cs)) → Q (.int z) S₁.cnt → Evp prog (fnCx w A "_law_pen" (scopeOf (stAt topS 28)) L f cdv s0 C X none) S₁ (.Subscript (.Name "cells" p1) (.Constant (.int 0) kk p2) p3) Q := fun S₁ Q p1 p2 p3 kk hS hQ =>
    Evp.itemL c (Evp.name c hS (Evp.cint c ⟨nums cs, 0, .int z, rfl, rfl, by simp only [nums, List.length_map]; omega, by simp only [nums, List.length_map]; omega, by simp only [nums, List.length_map]; omega, by simp [nums, hz], hQ⟩))
  refine Tst.cmpI c (Evp.callB c B (G.bl "abs" (by decide)) boot_abs (by decide) (Evs.cons c (hitem _ _ _ _ _ _ rfl (Evs.nil ⟨_, call_abs, _, rfl, Evp.bin c (Evp.cint c (Evp.cint c ⟨_, op_pow (by decide) (by decide), _, rfl, ?_⟩))⟩))) rfl)
  cases hb : cmpI .GtE (z.natAbs : Int) (10 ^ (15 : Int).toNat) with
  | false =>
    simp only [Bool.false_eq_true, if_false]
    refine Exps.nil (Exps.sub (tail 0) (Sub.of rfl rfl ?_))
    repeat (first | exact lkNil | refine lkCons rfl ?_)
  | true =>
    simp only [if_true]
    refine Exps.cons (Exp.assign c (.inl rfl) (Evp.bin c (Evp.bin c (Evp.callB c B (G.bl "abs" (by decide)) boot_abs (by decide) (Evs.cons c (hitem _ _ _ _ _ _ rfl (Evs.nil ⟨_, call_abs, Evp.cint c ⟨_, op_div (by decide) (by decide), Evp.bin c (Evp.cint c (Evp.cint c ⟨_, op_pow (by decide) (by decide), _, op_mod (by decide +kernel), ?_⟩))⟩⟩))) rfl))))
    refine Exps.nil (Exps.sub (tail (((z.natAbs : Int).fdiv 2).fmod (10 ^ (240 : Int).toNat))) (Sub.of rfl rfl ?_))
    repeat (first | exact lkNil | refine lkCons rfl ?_)
theorem F_pen (B : Top0 K h0) (G : Gl K) {a : Addr} (F : FnAt K a (stAt topS 28)) : NewPen prog h0 (n + 1) a := fun w A X s args ns lv pc hn r => by
  obtain ⟨oc, od, osl, doc, pm, cdv, ct, an, ho, hcd⟩ := F.rec_
  refine enter (pen := none) (cnt := 0) (xs := ["script"]) B ho hcd lv pc r (?_) (fun n x hx => ?_) (by decide) rfl (fun q e => by cases e) (fun L s₁ X' hX c t => ?_) rfl rfl rfl
  · obtain ⟨a, rfl⟩ := len1 r.length
    rfl
  · exact kLoc rfl n x hx
  refine wpAny_mono (pen_walk B G c hn s₁ t) (fun fl s' p' => ?_) fun _ _ x => x.elim
  rcases p' with ⟨_, _, _, q⟩ | ⟨v, d, S', e, t', rr, p, ms, g, st, e1, e2, l1, l2, l3⟩
  · exact q.elim
  · subst e; subst e1
    cases rr
    obtain ⟨h', tk, e3⟩ := t'.rest
    obtain ⟨pC, _, vs, nn, e4, r4⟩ := t'.own p _ e2
    have pn : s.heap.get? p = none := Cm_none_get pC
    refine ⟨p, rfl, ⟨h', tk, e3, fun b o hbo => ?_⟩, pn, ?_⟩
    · have := t'.keep b o (Cm_has (by simp) hbo)
      rw [e3] at this; exact this
    · have hm : ∀ a, X a → XX X' S'.own a := fun a x => .inl (hX a x)
      cases r4 with
      | cons q1 r4 => cases r4 with
        | cons q2 r4 => cases r4 with
          | cons q3 r4 => cases r4 with
            | cons q4 r4 =>
              cases r4
              cases q2; cases q3; cases q4
              exact ⟨_, g, st, 0, _, _, _, ms, nn, e4, q1.mono (fun a x _ _ => hm a x) fun _ _ _ e => e, l1, l2, l3, by decide, by decide⟩
end
end Mine
end

section
set_option linter.unusedVariables false
open PySem PySem.W PyProof.Rows
set_option maxRecDepth 100000
namespace Mine

section
variable {prog : Program} {h0 : Heap} {K : Frag} {cx : Cx} {n : Nat} {S₀ : S} {E : Value → Shared → Prop} {Kk : S → Prop} {R : D → S → Prop}
/-- a try whose body raises nothing -/
theorem Exp.try_ {body : List Stmt} {h₀ : ExceptHandler} {hs : List ExceptHandler} {pos : Pos} (h : Exps prog cx (fun _ _ => False) S₀ body Kk R) : Exp prog cx E S₀ (.Try body (h₀ :: hs) [] [] pos) Kk R := fun s t =>
  wpAny_Try_except (wpAny_mono (h s t) (fun f s' p => by
    rcases p with ⟨e, S', t', q⟩ | ⟨v, d, S', e, t', r, q⟩
    · subst e; exact wpAny_execs_nil (.inl ⟨rfl, S', t', q⟩)
    · subst e; exact .inr ⟨v, d, S', rfl, t', r, q⟩) fun _ _ x => x.elim)
theorem F_cut (B : Top0 K h0) {a a1 : Addr} (F : FnAt K a (stAt topS 31)) (F1 : FnAt K a1 (stAt topS 18)) {L ps d : D} (f1 : FnOK prog h0 1 a1 [L, ps] d) : FnOK prog h0 2 a [L, ps] d := by
  obtain ⟨oc, od, osl, doc, pm, cdv, ct, an, ho, hcd⟩ := F.rec_
  refine FnOK.of B ["length", "places"] ho hcd (fun args h => ?_) (fun n x hx => ?_) (by decide) rfl (fun w A L' s0 C X c => ?_) rfl rfl rfl
  · obtain ⟨a, b, rfl⟩ := len2 h
    rfl
  · exact kLoc rfl n x hx
  · exact Exps.cons (Exp.try_ (Exps.mono (K := fun _ => False) (Exps.ret c (Evp.callFn c B F1.glob F1.keep (Evs.cons c (Evp.name c rfl (Evs.cons c (Evp.name c rfl (Evs.nil ⟨_, 1, Nat.le_refl _, f1, rfl⟩))))) rfl)) (fun _ x => x.elim) fun _ _ x => x))

/-- the frame's own object has changed its slots alone -/
theorem St.slots (c : CxOK h0 n cx) {s : Shared} (t : St cx S₀ s) {base h' : Heap} {tk : Nat} (hb : ∀ b o, b ≠ cx.env.locals → s.heap.get? b = some o → base.get? b = some o) (k1 : base.StaysIn h') (k2 : s.heap.UpToSlots h') : St cx S₀ { s with heap := h', toks := tk } := by
  obtain ⟨h₁, tk₁, e₁⟩ := t.rest
  obtain ⟨m, hn, hv⟩ := t.ns
  have keep : ∀ b o, b ≠ cx.env.locals → s.heap.get? b = some o → h'.get? b = some o := fun b o nb e => k1 _ _ (hb b o nb e)
  have hn' := k2.ns hn
  have hx : ∀ b o, ¬ XX cx.X S₀.own b → s.heap.get? b = some o → h'.get? b = some o := fun b o nx e => keep b o (fun q => nx (.inl (q ▸ c.LX))) e
  have hcell : ∀ c v, s.heap.IsCell c v → h'.IsCell c v := fun c v q => by
    obtain ⟨o, ho, hd⟩ := id q
    exact ⟨o, keep _ _ (fun z => Ns.ne_cell hn q z.symm) ho, hd⟩
  refine ⟨⟨h', tk, by rw [e₁]⟩, fun b o e => keep b o (fun q => ?_) (t.keep b o e), fun a x => ?_, ⟨m, hn', fun x d e => ?_⟩, fun o x cc h1 h2 => ?_, fun l ds e => ?_, fun p e => ?_⟩
  · rw [q, c.LC] at e; cases e
  · by_cases q : a = cx.env.locals
    · rw [q]; obtain ⟨o, _, _, e, _⟩ := hn'; exact ⟨o, e⟩
    · obtain ⟨o, e⟩ := t.live a x; exact ⟨o, keep a o q e⟩
  · obtain ⟨v, a, r⟩ := hv x d e
    exact ⟨v, a.keeps fun c q => hcell c _ q, r.mono (fun _ y _ _ => y) hx⟩
  · obtain ⟨v, q⟩ := t.cells o x cc h1 h2
    exact ⟨v, hcell _ _ q⟩
  · obtain ⟨a, b, vs, nn, q, r⟩ := t.own l ds e
    exact ⟨a, b, vs, nn, keep l _ (fun z => Ns.ne_list hn q z.symm) q, r.mono (fun _ y _ _ => y) hx⟩
  · obtain ⟨vc, g, st, k, tg, ts, tk', ns, nn, a, b, r⟩ := t.pen p e
    exact ⟨vc, g, st, k, tg, ts, tk', ns, nn, keep p _ (fun z => Ns.ne_list hn a z.symm) a, b.mono (fun _ y _ _ => y) hx, r⟩
inductive CutQ (P : Nat → Prop) (ds : List D) (k : Nat) : Prop
  | mk (L : Int) (ps : List Int) (e : ds = [.int L, .list (nums ps)]) (l : ps.length ≤ 17) (sm : ∀ p ∈ ps, Small p) (b : cutsBad (ssort ps) L = true) (q : P k) : CutQ P ds k
/-- if _law_cut(..) is not None: .., the places being bad -/
theorem Exp.cutBad (c : CxOK h0 (n + 4) cx) (B : Top0 K h0) (G : Gl K) {C Sh fI : Addr} {file : Str} {a a1 : Addr} (F : FnAt K a (stAt topS 31)) (F1 : FnAt K a1 (stAt topS 18)) (Xc : ExcAt K C Sh fI file) (hfile : ((prog.main.file : Str) == file) = true) (htop : (prog.main.scope.names.lookup ("super" : Str)).isSome = false)
    (hg : nsIn K mainGlobals "PlanFault" = some (some (.ref C))) (hfr : cx.A.frames = some [cx.env]) (hfl : cx.env.frame = some cx.env.locals) {e1 e2 : PySem.Expr} {body : List Stmt} {p1 p2 p3 p4 pos : Pos} {kk : Nat}
    (h : Evs prog cx S₀ [e1, e2] (CutQ fun k => Kk { S₀ with cnt := k }))
    (hx : cx.env.kindOf "_law_cut" = some .globalImplicit := by rfl) (hs : [e1, e2].all notStar = true := by rfl) :
    Exp prog cx E S₀ (.If (.Compare (.Call (.Name "_law_cut" p1) [e1, e2] [] p2) [.IsNot] [.Constant .none kk p3] p4) body [] pos) Kk R := fun s t => by
  obtain ⟨_, _, mg, mb, T⟩ := B.top
  have pc := t.pc c
  refine wpAny_If ?_
  refine wpAny_isTrue_Compare1 (hm := by with_unfolding_all rfl) ?_
  refine wpAny_Call_ofName (Calls.Name_function_global c.kind hx (Calls.loadGlobal_global (by rw [c.glob]; exact T.g.keeps pc.base) (mg_of B.inK T.g F.glob) ?_) (by decide))
  have hs' : notStar e1 = true ∧ [e2].all notStar = true := by simpa using hs
  refine callWith_K (pc.inK B) F.keep (wpAny_mono (h s _ t) (fun vs s₁ ⟨ds, k, t₁, k₁, r, L, ps, e, hl, hsm, hbad, q⟩ => ⟨(t₁.pc c).inK B, ?_⟩) fun _ _ x => x.elim) (starEach_cons e1 _ _ hs'.1) (backTo_plain hs'.2)
  subst e
  obtain ⟨m, hns, _⟩ := t₁.ns
  have Bl : Below cx.A (hideAll s₁.heap [cx.env.locals]) [cx.env] s₁.heap := ⟨hfr, fun b o e => of_hideAll _ e, Heap.FunFrames.cons (by rw [c.kind]; decide) hfl hns (hideAll_none _ (by simp)) trivial⟩
  have hb0 : ∀ b o, h0.get? b = some o → (hideAll s₁.heap [cx.env.locals]).get? b = some o := fun b o e => hideAll_get _ ((t₁.pc c).base _ _ e) fun z => by
    rw [List.mem_singleton.mp z] at e
    have := c.base _ _ e
    rw [c.LC] at this; cases this
  refine wpAny_call (codeAny_mono (cut_raise (n := n) B G F F1 Xc hfile htop hg hl hsm hbad c.lv (t₁.pc c) r Bl hb0) fun rr s₂ ⟨h', tk, e1', e2', k1, k2⟩ => ?_)
  subst e1'; subst e2'
  have t₂ : St cx { S₀ with cnt := k } { s₁ with heap := h', toks := tk } := t₁.slots c (fun b o nb e => hideAll_get _ e (by simpa using nb)) k1 k2
  show wpAny _ _ (eval (.Constant .none kk p3) cx.env) _ _ _
  refine (wpAny_pure ?_ : wpAny _ _ (pure Value.none) _ _ _)
  refine isnot_none_gen ?_
  show wpAny _ _ (truthy (.bool false)) _ _ _
  refine wpAny_truthy_bool ?_
  simp only [Bool.false_eq_true, if_false]
  exact wpAny_execs_nil (.inl ⟨rfl, _, t₂, q⟩)
end
end Mine
end

section
set_option linter.unusedVariables false
open PySem PySem.W PyProof.Rows
set_option maxRecDepth 100000
namespace Mine

-- the addresses of the text's defs and classes
set_option genInjectivity false in
structure Ads where
  (clusters_in unsafe_clusters break_places stretch_of place_before place_behind stretches wishes_within moved_rows joined_pieces advance_between line_end lines_of rows_between shaped_lines law_pen law_draw law_rows law_cut law_wish : Addr)
  (shaped shapedI wish wishI isWhole fault err errI wishD : Addr)
structure TopOK (K : Frag) (ad : Ads) : Prop where
  G : Gl K
  f12 : FnAt K ad.clusters_in (stAt topS 12)
  f13 : FnAt K ad.unsafe_clusters (stAt topS 13)
  f14 : FnAt K ad.break_places (stAt topS 14)
  f15 : FnAt K ad.stretch_of (stAt topS 15)
  f16 : FnAt K ad.place_before (stAt topS 16)
  f17 : FnAt K ad.place_behind (stAt topS 17)
  f18 : FnAt K ad.stretches (stAt topS 18)
  f19 : FnAt K ad.wishes_within (stAt topS 19)
  f20 : FnAt K ad.moved_rows (stAt topS 20)
  f21 : FnAt K ad.joined_pieces (stAt topS 21)
  f22 : FnAt K ad.advance_between (stAt topS 22)
  f23 : FnAt K ad.line_end (stAt topS 23)
  f24 : FnAt K ad.lines_of (stAt topS 24)
  f25 : FnAt K ad.rows_between (stAt topS 25)
  f26 : FnAt K ad.shaped_lines (stAt topS 26)
  f28 : FnAt K ad.law_pen (stAt topS 28)
  f29 : FnAt K ad.law_draw (stAt topS 29)
  f30 : FnAt K ad.law_rows (stAt topS 30)
  f31 : FnAt K ad.law_cut (stAt topS 31)
  f32 : FnAt K ad.law_wish (stAt topS 32)
  gShaped : nsIn K mainGlobals "Shaped" = some (some (.ref ad.shaped))
  kShaped : keepIn K (.ref ad.shaped) = true
  rowsA : AttrOK K ad.shaped "rows"
  backA : AttrOK K ad.shaped "is_backward"
  mkShaped : MakeAt K ad.shaped ad.shapedI ["rows", "is_backward"] (stAt (bodyOf (stAt topS 7)) 0) .none
  gWish : nsIn K mainGlobals "Wish" = some (some (.ref ad.wish))
  kWish : keepIn K (.ref ad.wish) = true
  wish : WshOK K ad.wish ad.isWhole
  mkWish : MakeAt K ad.wish ad.wishI ["tag", "value", "begin", "end"] (stAt (bodyOf (stAt topS 5)) 0) (.ref ad.wishD)
  wishDf : ∃ oT t1 t2 t3 n1, K.lookup ad.wishD = some oT ∧ oT.data = .seq #[.int 1 t1, .int 0 t2, .int (-1) t3] n1
  fault : ExcAt K ad.fault ad.err ad.errI "/claim/cut.py"
  gFault : nsIn K mainGlobals "PlanFault" = some (some (.ref ad.fault))

theorem ssort_len (ns : List Int) : (ssort ns).length ≤ ns.length := by
  induction ns with
  | nil => simp [ssort]
  | cons x xs ih =>
    have : ∀ (k : Int) (l : List Int), (insI k l).length ≤ l.length + 1 := by
      intro k l
      induction l with
      | nil => simp [insI]
      | cons y ys ih2 =>
        unfold insI
        split
        · simp
        · split
          · simp
          · simp only [List.length_cons]; omega
    rw [show ssort (x :: xs) = insI x (ssort xs) from rfl]
    have := this x (ssort xs)
    simp only [List.length_cons]; omega

section
variable {prog : Program} {h0 : Heap} {K : Frag} {ad : Ads} {rs : List Row} {b : Bool}
theorem TopOK.makeShaped (B : Top0 K h0) (T : TopOK K ad) (d1 d2 : D) : FnOK prog h0 2 ad.shaped [d1, d2] (.inst ad.shaped [("rows", d1), ("is_backward", d2)]) := make_Shaped B T.mkShaped d1 d2
theorem TopOK.makeWish (B : Top0 K h0) (T : TopOK K ad) (d1 d2 d3 d4 : D) : FnOK prog h0 2 ad.wish [d1, d2, d3, d4] (.inst ad.wish [("tag", d1), ("value", d2), ("begin", d3), ("end", d4)]) := by
  obtain ⟨oT, t1, t2, t3, n1, h1, h2⟩ := T.wishDf
  exact make_Wish B T.mkWish h1 h2 d1 d2 d3 d4
theorem places_le (rs : List Row) (L : Int) : (placesOf rs L).length ≤ rs.length := by
  refine Nat.le_trans (List.length_filter_le _ _) ?_
  have := ssort_len (rs.map (·.cl))
  simpa [clustersOf] using this
theorem places_lt {L p : Int} (h : p ∈ placesOf rs L) : 0 < p ∧ p < L := by
  unfold placesOf at h
  have := (List.mem_filter.mp h).2
  simp [cmpI] at this
  exact this.1
theorem TopOK.clusters (B : Top0 K h0) (T : TopOK K ad) (ok : RowsOK rs) : FnOK prog h0 1 ad.clusters_in [shapedD ad.shaped rs b] (.list (nums (clustersOf rs))) := F_clusters B T.G T.f12 T.rowsA b ok
theorem TopOK.unsafe_ (B : Top0 K h0) (T : TopOK K ad) (ok : RowsOK rs) : FnOK prog h0 1 ad.unsafe_clusters [shapedD ad.shaped rs b] (.list (nums (unsafeOf rs))) := F_unsafe B T.G T.f13 T.rowsA b ok
theorem TopOK.places (B : Top0 K h0) (T : TopOK K ad) (ok : RowsOK rs) (L : Int) : FnOK prog h0 2 ad.break_places [shapedD ad.shaped rs b, .int L] (.list (nums (placesOf rs L))) := F_break_places B T.G T.f14 T.f12 T.f13 T.rowsA b ok L
theorem RowsOK.pl (ok : RowsOK rs) (L : Int) : (placesOf rs L).length ≤ 1000 := by have := places_le rs L; have := ok.len; omega
theorem TopOK.stretch (B : Top0 K h0) (T : TopOK K ad) (ok : RowsOK rs) (p : Int) : FnOK prog h0 2 ad.stretch_of [shapedD ad.shaped rs b, .int p] (.tup [.int (stretchGo p 0 (clustersOf rs)).1, optD (stretchGo p 0 (clustersOf rs)).2]) :=
  F_stretch_of B T.G T.f15 T.f12 b (T.clusters B ok) p
theorem TopOK.before (B : Top0 K h0) (T : TopOK K ad) (ok : RowsOK rs) (L p : Int) : FnOK prog h0 3 ad.place_before [shapedD ad.shaped rs b, .int L, .int p] (.int (beforeOf rs L p)) := F_before B T.G T.f16 T.f14 b (T.places B ok L) (ok.pl L) p
theorem TopOK.behind (B : Top0 K h0) (T : TopOK K ad) (ok : RowsOK rs) (L p : Int) : FnOK prog h0 3 ad.place_behind [shapedD ad.shaped rs b, .int L, .int p] (.int (behindOf rs L p)) := F_behind B T.G T.f17 T.f14 b (T.places B ok L) (ok.pl L) p
theorem RowsOK.len1000 (ok : RowsOK rs) : rs.length ≤ 1000 := by have := ok.len; omega
theorem TopOK.advance (B : Top0 K h0) (T : TopOK K ad) (ok : RowsOK rs) (bg e : Int) : FnOK prog h0 1 ad.advance_between [shapedD ad.shaped rs b, .int bg, .int e] (.int (advOf rs bg e)) := F_advance B T.G T.f22 T.rowsA b ok.len1000 bg e
theorem TopOK.between (B : Top0 K h0) (T : TopOK K ad) (ok : RowsOK rs) (bg e : Int) : FnOK prog h0 3 ad.rows_between [shapedD ad.shaped rs b, .int bg, .int e] (shapedD ad.shaped (cutOf rs bg e) b) :=
  F_rows_between B T.G T.f25 T.gShaped T.kShaped T.rowsA T.backA (T.makeShaped B) rs b ok.len1000 bg e
theorem TopOK.lineEnd (B : Top0 K h0) (T : TopOK K ad) (ok : RowsOK rs) (L bg W : Int) (hb : bg < L) : FnOK prog h0 3 ad.line_end [shapedD ad.shaped rs b, .int L, .int bg, .int W] (.int (lineEndOf rs L bg W)) :=
  F_line_end B T.G T.f23 T.f14 T.f22 b (T.places B ok L) (fun bg e => T.advance B ok bg e) (ok.pl L) bg W hb
theorem TopOK.lines (B : Top0 K h0) (T : TopOK K ad) (ok : RowsOK rs) (L W : Int) (hL : L ≤ 1000) : FnOK prog h0 4 ad.lines_of [shapedD ad.shaped rs b, .int L, .int W] (.list ((linesGo rs L W L.toNat 0).map encII.enc)) :=
  F_lines_of B T.G T.f24 T.f23 b (fun bg hb => T.lineEnd B ok L bg W hb) (fun p hp => (places_lt hp).2) hL
theorem linesGo_len (rs : List Row) (L W : Int) : ∀ (k : Nat) (b : Int), (linesGo rs L W k b).length ≤ k
  | 0, _ => Nat.le_refl _
  | k + 1, b => by
    unfold linesGo
    split
    · simp only [List.length_cons]
      have := linesGo_len rs L W k (lineEndOf rs L b W)
      omega
    · simp
theorem TopOK.shapedLines (B : Top0 K h0) (T : TopOK K ad) (ok : RowsOK rs) (L W : Int) (hL : L ≤ 1000) : FnOK prog h0 5 ad.shaped_lines [shapedD ad.shaped rs b, .int L, .int W] (.list ((linesGo rs L W L.toNat 0).map fun q => shapedD ad.shaped (cutOf rs q.1 q.2) b)) :=
  F_shaped_lines B T.G T.f26 T.f24 T.f25 b (T.lines B ok L W hL) (fun bg e => T.between B ok bg e) (by have := linesGo_len rs L W L.toNat 0; omega)
theorem TopOK.stretches (B : Top0 K h0) (T : TopOK K ad) {ps : List Int} {L : Int} (hl : ps.length ≤ 17) (hs : ∀ p ∈ ps, Small p) (hg : cutsBad (ssort ps) L = false) : FnOK prog h0 1 ad.stretches [.int L, .list (nums ps)] (.list ((piecesOf (ssort ps) L).map encII.enc)) :=
  F_stretches B T.G T.f18 hl hs hg
theorem TopOK.joined (B : Top0 K h0) (T : TopOK K ad) (ps : List (List Row)) (bs : List Int) (bw : Bool) (hne : 0 < ps.length) (hlb : ps.length ≤ bs.length) (hpl : ps.length ≤ 1000) (hsum : ((ps.zip bs).map fun p => p.1.length).sum ≤ 1000) :
    FnOK prog h0 3 ad.joined_pieces [.list (ps.map fun rs => shapedD ad.shaped rs bw), .list (nums bs), .bool bw] (shapedD ad.shaped (joinOf bw (ps.zip bs)) bw) :=
  F_joined B T.G T.f21 T.f20 T.gShaped T.kShaped (fun rs b bg hl => F_moved B T.G T.f20 T.rowsA rs b hl bg) (T.makeShaped B) ps bs bw hne hlb hpl hsum
theorem TopOK.within (B : Top0 K h0) (T : TopOK K ad) (ws : List Wsh) (hl : ws.length ≤ 1000) (bg e : Int) : FnOK prog h0 3 ad.wishes_within [.tup (ws.map (Wsh.d ad.wish)), .int bg, .int e] (.tup ((withinOf ws bg e).map (Wsh.d ad.wish))) :=
  F_within B T.G T.f19 T.wish T.gWish T.kWish (T.makeWish B) ws hl bg e
theorem TopOK.hears (B : Top0 K h0) (T : TopOK K ad) (y : Wsh) (sg : Int) : FnOK prog h0 1 ad.law_wish [y.d ad.wish, .int sg] (.bool (Mine.hears y sg)) := F_law_wish B T.f32 T.wish y sg
theorem TopOK.whole (B : Top0 K h0) (T : TopOK K ad) (y : Wsh) : FnOK prog h0 1 ad.isWhole [y.d ad.wish] (.bool (isWhole y)) := F_is_whole B T.wish y
end
end Mine
end

section
set_option linter.unusedVariables false
open PySem PySem.W PyProof.Rows
set_option maxRecDepth 100000
namespace Mine

noncomputable def lawSt : Stmt := stAt topS 33
noncomputable abbrev lawCx (w : World) (A : Around) (L f : Addr) (cdv : Value) (s0 : Shared) (C : Addr → Option Obj) (X : Addr → Prop) (pen : Option Addr) : Cx := fnCx w A "law" (scopeOf lawSt) L f cdv s0 C X pen
noncomputable def shOf (rs : List Row) (bw : Bool) : List Row := if bw then rs.reverse else rs
/-- the state behind the setting up -/
noncomputable def S7 (ad : Ads) (p : Addr) (rs : List Row) (bw : Bool) (L : Int) (k : Nat) : S :=
  { vars := [("safe", .list (nums (placesOf rs L))), ("unsafe", .list (nums (unsafeOf rs))), ("clusters", .list (nums (clustersOf rs))), ("shaped", shapedD ad.shaped (shOf rs bw) bw), ("length", .int L), ("is_backward", .bool bw), ("rows", rowsD rs), ("pen", .raw (.ref p))], cnt := k }
noncomputable def rint (a : Int) (m : Nat) : List Int := (List.range m).map fun (i : Nat) => a + (i : Int)
theorem rint_enc (a : Int) (m : Nat) : rints a m = (rint a m).map encI.enc := by
  unfold rints rint
  rw [List.map_map]; rfl
theorem rint_len (a : Int) (m : Nat) : (rint a m).length = m := by simp [rint]
theorem mem_rint {a x : Int} {m : Nat} : x ∈ rint a m ↔ a ≤ x ∧ x < a + m := by
  unfold rint
  rw [List.mem_map]
  constructor
  · rintro ⟨i, hi, rfl⟩
    rw [List.mem_range] at hi
    omega
  · rintro ⟨h1, h2⟩
    exact ⟨(x - a).toNat, by rw [List.mem_range]; omega, by omega⟩
theorem Gen.ok {rs : List Row} {last : Int} (g : Gen rs last) : RowsOK rs := ⟨by have := g.len; omega, fun r hr => by have := g.le r hr; have := g.last_le; constructor <;> omega⟩
theorem Gen.okSh {rs : List Row} {last : Int} (g : Gen rs last) (bw : Bool) : RowsOK (shOf rs bw) := by
  unfold shOf
  cases bw with
  | false => exact g.ok
  | true => exact ⟨by simpa using g.ok.len, fun r hr => g.ok.small r (by simpa using hr)⟩
/-- the safe places as the law reckons them -/
theorem safe_law {rs : List Row} {last L : Int} (g : Gen rs last) (hL : last < L) : (rint 1 (L - 1).toNat).filter (fun p => (clustersOf rs).any (· == p) && !((unsafeOf rs).any (· == p))) = placesOf rs L := by
  have r1 : (rint 1 (L - 1).toNat).Pairwise (· < ·) := by
    unfold rint
    rw [List.pairwise_map]
    exact (List.pairwise_lt_range).imp fun h => by omega
  refine rising_ext (r1.filter _) ((ssort_lt _).filter _) fun x => ?_
  unfold placesOf
  simp only [List.mem_filter, mem_rint, List.any_eq_true, Bool.and_eq_true, beq_iff_eq, exists_eq_right]
  have hz : 0 ≤ last := by
    obtain ⟨r, hr, e⟩ := g.last_
    have := g.le r hr; omega
  simp only [cmpI, decide_eq_true_eq]
  constructor
  · rintro ⟨⟨h1, h2⟩, h3, h4⟩
    exact ⟨h3, ⟨by omega, by omega⟩, h4⟩
  · rintro ⟨h1, ⟨h2, h3⟩, h4⟩
    exact ⟨⟨by omega, by omega⟩, h1, h4⟩

section
variable {prog : Program} {h0 : Heap} {K : Frag} {ad : Ads} {n : Nat} {w : World} {A : Around} {Lc f : Addr} {cdv : Value} {s0 : Shared} {C : Addr → Option Obj} {X : Addr → Prop} {p : Addr} {E : Value → Shared → Prop} {Kk : S → Prop} {R : D → S → Prop}
theorem law_A (B : Top0 K h0) (T : TopOK K ad) (c : CxOK h0 (n + 6) (lawCx w A Lc f cdv s0 C X (some p)))
    (rest : ∀ rs last bw L k, Gen rs last → last < L → L ≤ last + 3 → k ≤ 60 → Exps prog (lawCx w A Lc f cdv s0 C X (some p)) E (S7 ad p rs bw L k) ((bodyOf lawSt).drop 8) Kk R) :
    Exps prog (lawCx w A Lc f cdv s0 C X (some p)) E { vars := [("pen", .raw (.ref p))], cnt := 0 } ((bodyOf lawSt).drop 1) Kk R := by
  have G := T.G
  refine Exps.cons (Exp.assignTup c (Evp.callPen c B T.f30.glob T.f30.keep rfl (Evs.cons c (Evp.name c rfl (Evs.nil ⟨[], 28, 2, _, rfl, by omega, F_rows B G T.f30 T.f29, by show 0 + 28 ≤ 1000; decide, fun d hd => ?_⟩))) rfl))
  obtain ⟨rs, last, rfl, g⟩ := hd
  have ok := g.ok
  refine Asg.pair c (.inl rfl) (.inl rfl) ?_
  refine Exps.cons (Exp.assign c (.inl rfl) (Evp.cmp c (Evp.draw c B G T.f29 rfl rfl (Evp.cint c ⟨2, rfl, by decide, by decide, by show 28 + 1 ≤ 1000; decide, fun u u0 u1 => Evp.cint c ⟨_, op_eqi, ?_⟩⟩))))
  generalize (u == 1) = bw
  refine Exps.cons (Exp.assign c (.inl rfl) (Evp.bin c (Evp.bin c (Evp.name c rfl (Evp.cint c ⟨_, op_add, Evp.draw c B G T.f29 rfl rfl (Evp.cint c ⟨3, rfl, by decide, by decide, by show 29 + 1 ≤ 1000; decide, fun v v0 v1 => ⟨_, op_add, ?_⟩⟩)⟩)))))
  let L : Int := last + 1 + v
  refine Exps.sub (S' := { vars := [("length", .int L), ("is_backward", .bool bw), ("rows", rowsD rs), ("pen", .raw (.ref p))], cnt := 30 }) ?_ (Sub.of rfl rfl ?_)
  rotate_left
  · repeat (first | exact lkNil | refine lkCons rfl ?_)
  have hlo : last < L := by show last < last + 1 + v; omega
  have hhi : L ≤ last + 3 := by show last + 1 + v ≤ last + 3; omega
  generalize L = L at hlo hhi ⊢
  have hlen := g.len
  refine Exps.cons (Exp.assign c (.inr ⟨rfl, rfl, rfl⟩) (Evp.callFn c B T.gShaped T.kShaped (Evs.cons c ((?_ : Evp prog _ _ _ fun d k => d = rowsD (shOf rs bw) ∧ k = 30).mono fun d k ⟨e1, e2⟩ => Evs.cons c (Evp.name c rfl (Evs.nil ⟨_, 2, by omega, T.makeShaped B _ _, ?_⟩)))) rfl))
  · refine Evp.ite (Tst.plain c (Evp.name c rfl ⟨bw, Tru.bool bw, ?_⟩))
    cases bw with
    | true =>
      simp only [if_true]
      refine Evp.sliceL c (Evp.name c rfl (Evo.none_ (Evo.none_ (Evo.some_ (Evp.un c (Evp.cint c ⟨_, op_neg, _, rfl, rs.map Row.d, _, rfl, by simp; omega, pickD_rev, ?_, rfl⟩))))))
      show D.list (rs.map Row.d).reverse = D.list (rs.reverse.map Row.d)
      rw [List.map_reverse]
    | false =>
      simp only [Bool.false_eq_true, if_false]
      exact Evp.name c rfl ⟨rfl, rfl⟩
  subst e1; subst e2
  refine Exps.cons (Exp.assign c (.inr ⟨rfl, rfl, rfl⟩) (Evp.sortedSet c B (G.bl "sorted" (by decide)) boot_sorted' (by decide) (G.bl "set" (by decide)) boot_set (by decide) ?_ rfl rfl))
  refine Evp.comp0 encR c (Itr.list c (Evp.name c rfl ⟨_, rfl, rs, fun r => .int r.cl, rfl, by omega, fun cl Lc s₀ C X c' y hy k => ?_, rs.map (·.cl), congrArg D.list (nums_map _ rs), by simp; omega, fun x hx => ?_, ?_⟩))
  · exact Evp.itemT c' (Evp.name c' rfl (Evp.cint c' ⟨_, 1, 1, _, rfl, rfl, by decide, by decide, rfl, rfl, rfl⟩))
  · obtain ⟨r, hr, rfl⟩ := List.mem_map.mp hx
    exact ok.small r hr
  refine Exps.cons (Exp.assign c (.inr ⟨rfl, rfl, rfl⟩) (Evp.sortedSet c B (G.bl "sorted" (by decide)) boot_sorted' (by decide) (G.bl "set" (by decide)) boot_set (by decide) ?_ rfl rfl))
  refine Evp.comp1 encR c (Itr.list c (Evp.name c rfl ⟨_, rfl, rs, fun r => r.us, fun r => .int r.cl, rfl, by omega, fun cl Lc s₀ C X c' y hy => ?_, fun cl Lc s₀ C X c' y hy hb k => ?_, (rs.filter (·.us)).map (·.cl), congrArg D.list (nums_map _ _), ?_, fun x hx => ?_, ?_⟩))
  · exact Tst.plain c' (Evp.itemT c' (Evp.name c' rfl (Evp.cint c' ⟨_, 6, 6, _, rfl, rfl, by decide, by decide, rfl, rfl, _, Tru.bool _, rfl⟩)))
  · exact Evp.itemT c' (Evp.name c' rfl (Evp.cint c' ⟨_, 1, 1, _, rfl, rfl, by decide, by decide, rfl, rfl, rfl⟩))
  · have := List.length_filter_le (fun r : Row => r.us) rs
    simp; omega
  · obtain ⟨r, hr, rfl⟩ := List.mem_map.mp hx
    exact ok.small r (List.mem_filter.mp hr).1
  have hcl : (clustersOf rs).length ≤ 17 := clusters_len ok
  have hll := g.last_le
  refine Exps.cons (Exp.assignComp c (CompRes.c1 encI (Itr.rng c (Evp.callT c B (G.bl "range" (by decide)) boot_range (by decide) (Evs.cons c (Evp.cint c (Evs.cons c (Evp.name c rfl (Evs.nil ⟨_, call_range2, 1, (L - 1).toNat, ?_, by decide, by decide, by omega, rint 1 (L - 1).toNat, fun p => (clustersOf rs).any (· == p) && !((unsafeOf rs).any (· == p)), fun p => .int p, rint_enc _ _, by rw [rint_len]; omega, fun cl Lc s₀ C X c' y hy => ?_, fun cl Lc s₀ C X c' y hy hb k => ?_, ?_⟩))))) rfl))) (.inl rfl))
  · have hz : 0 ≤ last := by
      obtain ⟨r, hr, e⟩ := g.last_
      have := g.le r hr; omega
    show D.rng 1 L = D.rng 1 (1 + ((L - 1).toNat : Int))
    congr 1; omega
  · refine Tst.and2 (Tst.in_ c' (Evp.name c' rfl ⟨y, rfl, Evp.name c' rfl ⟨clustersOf rs, rfl, fun h => ?_, fun h => Tst.notin c' (Evp.name c' rfl ⟨y, rfl, Evp.name c' rfl ⟨unsafeOf rs, rfl, ?_⟩⟩)⟩⟩))
    · rw [h]; rfl
    · rw [h]; rfl
  · exact Evp.name c' rfl rfl
  rw [show (List.map (fun p => D.int p) (List.filter (fun p => (clustersOf rs).any (· == p) && !((unsafeOf rs).any (· == p))) (rint 1 (L - 1).toNat))) = nums (placesOf rs L) by rw [safe_law g hlo]]
  refine Exps.sub (rest rs last bw L 30 g hlo hhi (by decide)) (Sub.of rfl rfl ?_)
  repeat (first | exact lkNil | refine lkCons rfl ?_)
end
end Mine
end

section
set_option linter.unusedVariables false
open PySem PySem.W PyProof.Rows
set_option maxRecDepth 100000
namespace Mine

theorem mem_sh {rs : List Row} {bw : Bool} {r : Row} : r ∈ shOf rs bw ↔ r ∈ rs := by
  unfold shOf; cases bw <;> simp
theorem clusters_sh (rs : List Row) (bw : Bool) : clustersOf (shOf rs bw) = clustersOf rs := ssort_congr fun x => by simp [mem_sh]
theorem unsafe_sh (rs : List Row) (bw : Bool) : unsafeOf (shOf rs bw) = unsafeOf rs := ssort_congr fun x => by simp [mem_sh]
theorem places_sh (rs : List Row) (bw : Bool) (L : Int) : placesOf (shOf rs bw) L = placesOf rs L := by
  unfold placesOf
  rw [clusters_sh, unsafe_sh]
theorem stretchGo_eq {p : Int} : ∀ {cs : List Int} (b : Int), cs.Pairwise (· < ·) → stretchGo p b cs = ((cs.filter fun c => cmpI .LtE c p).getLastD b, (cs.filter fun c => cmpI .Gt c p).head?)
  | [], b, _ => rfl
  | c :: cs, b, h => by
    rw [List.pairwise_cons] at h
    have ih := fun b => @stretchGo_eq p cs b h.2
    unfold stretchGo
    by_cases q : c > p
    · have e1 : (c :: cs).filter (fun c => cmpI .LtE c p) = [] := by
        rw [List.filter_eq_nil_iff]
        intro x hx
        rcases List.mem_cons.mp hx with rfl | hx
        · simp [cmpI]; omega
        · have := h.1 x hx; simp [cmpI]; omega
      rw [if_pos q, e1, List.filter_cons, if_pos (by simp [cmpI, q])]
      rfl
    · rw [if_neg q, ih, List.filter_cons, if_pos (by simp [cmpI]; omega), List.filter_cons, if_neg (by simp [cmpI]; omega)]
      rw [List.getLastD_cons]
theorem getLastD_mem : ∀ {l : List Int} {b : Int}, l ≠ [] → l.getLastD b ∈ l
  | [], _, h => (h rfl).elim
  | [a], _, _ => by simp [List.getLastD]
  | a :: c :: l, b, _ => by
    have := @getLastD_mem (c :: l) a (by simp)
    rw [List.getLastD_cons]
    exact List.mem_cons_of_mem _ this
theorem getLastD_max : ∀ {l : List Int} {b : Int}, l.Pairwise (· < ·) → ∀ x ∈ l, x ≤ l.getLastD b
  | [], _, _, x, hx => by cases hx
  | [a], b, _, x, hx => by
    rw [List.mem_singleton.mp hx]; simp [List.getLastD]
  | a :: c :: l, b, h, x, hx => by
    rw [List.getLastD_cons]
    have h' := (List.pairwise_cons.mp h)
    have ih := fun x hx => @getLastD_max (c :: l) a h'.2 x hx
    rcases List.mem_cons.mp hx with rfl | hx
    · have := h'.1 c (by simp)
      have := ih c (by simp)
      omega
    · exact ih x hx
theorem zero_mem {rs : List Row} {last : Int} (g : Gen rs last) : (0 : Int) ∈ clustersOf rs := by
  obtain ⟨r, hr, e⟩ := g.zero
  exact mem_ssort.mpr (List.mem_map.mpr ⟨r, hr, e⟩)
theorem stretch_law {rs : List Row} {last p : Int} (g : Gen rs last) (hp : 0 ≤ p) :
    stretchGo p 0 (clustersOf rs) = (lmax ((clustersOf rs).filter fun c => cmpI .LtE c p), ((clustersOf rs).filter fun c => cmpI .Gt c p).head?) ∧ ((clustersOf rs).filter fun c => cmpI .LtE c p) ≠ [] := by
  have hm : (0 : Int) ∈ (clustersOf rs).filter fun c => cmpI .LtE c p := List.mem_filter.mpr ⟨zero_mem g, by simp [cmpI, hp]⟩
  have hne : ((clustersOf rs).filter fun c => cmpI .LtE c p) ≠ [] := fun e => by rw [e] at hm; cases hm
  refine ⟨?_, hne⟩
  rw [stretchGo_eq 0 (show (clustersOf rs).Pairwise (· < ·) from ssort_lt _)]
  rw [lmax_eq (getLastD_mem hne) (getLastD_max ((ssort_lt _).filter _))]
theorem plain_nums (ns : List Int) : plain 1 (.list (nums ns)) = true := by
  simp [plain, nums]
theorem places_cons {rs : List Row} {last L : Int} (g : Gen rs last) : (placesOf rs L).length ≤ 8 := by
  have h1 : (0 :: placesOf rs L).length ≤ (clustersOf rs).length := by
    have hs : (0 :: placesOf rs L).Sublist (clustersOf rs) := by
      have hr : (0 :: placesOf rs L).Pairwise (· < ·) := List.pairwise_cons.mpr ⟨fun x hx => (places_lt hx).1, (ssort_lt _).filter _⟩
      have e : (0 :: placesOf rs L) = (clustersOf rs).filter fun x => (0 :: placesOf rs L).any (· == x) := by
        refine rising_ext hr ((ssort_lt _).filter _) fun x => ?_
        rw [List.mem_filter]
        simp only [List.any_eq_true, beq_iff_eq, exists_eq_right]
        refine ⟨fun h => ⟨?_, h⟩, fun h => h.2⟩
        rcases List.mem_cons.mp h with rfl | h
        · exact zero_mem g
        · exact (List.mem_filter.mp h).1
      rw [e]
      exact List.filter_sublist
    exact hs.length_le
  have h2 : (clustersOf rs).length ≤ rs.length := by
    have := ssort_len (rs.map (·.cl))
    simpa [clustersOf] using this
  have := g.len
  simp only [List.length_cons] at h1
  omega

section
variable {prog : Program} {h0 : Heap} {K : Frag} {cx : Cx} {n : Nat} {S₀ : S}
/-- ints != ints -/
theorem Tst.neNums (c : CxOK h0 n cx) {l r : PySem.Expr} {pos : Pos} {Q : Bool → Nat → Prop}
    (h : Evp prog cx S₀ l fun a k => IntsQ a fun ns => Evp prog cx { S₀ with cnt := k } r fun b k' => IntsQ b fun ms => Q (!(ns == ms)) k') (hm : behindInMarks .NotEq r = false := by with_unfolding_all rfl) :
    Tst prog cx S₀ (.Compare l [.NotEq] [r] pos) Q :=
  Tst.cmp c (h.mono fun a k ⟨ns, e, q⟩ => q.mono fun b k' ⟨ms, e', q'⟩ => ⟨!(ns == ms), by
    subst e; subst e'
    have := op_ne (prog := prog) (h0 := h0) (w := cx.w) c.lv (plain_nums ns) (plain_nums ms) (by decide)
    rwa [eqD_list, eqDs_nums] at this, q'⟩) hm
inductive SameQ (a b : D) (P : Prop) : Prop
  | mk (m : Nat) (hm : m ≤ 9) (e : b = a) (hp : Mine.plain m a = true) (p : P) : SameQ a b P
/-- a != b, both the same plain data -/
theorem Tst.neSame (c : CxOK h0 n cx) {l r : PySem.Expr} {pos : Pos} {Q : Bool → Nat → Prop}
    (h : Evp prog cx S₀ l fun a k => Evp prog cx { S₀ with cnt := k } r fun b k' => SameQ a b (Q false k')) (hm : behindInMarks .NotEq r = false := by with_unfolding_all rfl) :
    Tst prog cx S₀ (.Compare l [.NotEq] [r] pos) Q :=
  Tst.cmp c (h.mono fun a k q => q.mono fun b k' ⟨m, hm, e', hp, q'⟩ => ⟨false, by
    subst e'
    have := op_ne (prog := prog) (h0 := h0) (w := cx.w) c.lv hp hp hm
    rwa [eqD_self m b hp] at this, q'⟩) hm
/-- a or b or c -/
theorem Tst.or3 {x y z : PySem.Expr} {pos : Pos} {Q : Bool → Nat → Prop} (h : Tst prog cx S₀ x fun b k => b = false ∧ Tst prog cx { S₀ with cnt := k } y fun b' k' => b' = false ∧ Tst prog cx { S₀ with cnt := k' } z fun b'' k'' => b'' = false ∧ Q false k'') :
    Tst prog cx S₀ (.BoolOp .Or [x, y, z] pos) Q :=
  Tst.or (h.mono fun b k ⟨e, q⟩ => by
    subst e
    exact Tst.or (q.mono fun b' k' ⟨e', q'⟩ => by
      subst e'
      exact Tst.or (q'.mono fun b'' k'' ⟨e'', q''⟩ => by
        subst e''
        exact Tst.or_nil q'')))
/-- an if whose test is false -/
theorem Exp.ifFalse {test : PySem.Expr} {body : List Stmt} {pos : Pos} {E : Value → Shared → Prop} {Kk : S → Prop} {R : D → S → Prop} (h : Tst prog cx S₀ test fun b k => b = false ∧ Kk { S₀ with cnt := k }) : Exp prog cx E S₀ (.If test body [] pos) Kk R :=
  Exp.ifs (h.mono fun b k ⟨e, q⟩ => by
    subst e
    simp only [Bool.false_eq_true, if_false]
    exact Exps.nil q)
end

section
variable {prog : Program} {h0 : Heap} {K : Frag} {ad : Ads} {n : Nat} {w : World} {A : Around} {Lc f : Addr} {cdv : Value} {s0 : Shared} {C : Addr → Option Obj} {X : Addr → Prop} {p : Addr} {E : Value → Shared → Prop} {Kk : S → Prop} {R : D → S → Prop}
theorem law_8 (B : Top0 K h0) (T : TopOK K ad) (c : CxOK h0 (n + 6) (lawCx w A Lc f cdv s0 C X (some p))) {rs : List Row} {last L : Int} (bw : Bool) {k : Nat} (g : Gen rs last)
    (hk : ∀ S', Sub (S7 ad p rs bw L k) S' → Kk S') : Exp prog (lawCx w A Lc f cdv s0 C X (some p)) E (S7 ad p rs bw L k) (stAt (bodyOf lawSt) 8) Kk R := by
  have ok := g.okSh bw
  refine Exp.ifFalse (Tst.or3 (Tst.neNums c (Evp.callFn c B T.f12.glob T.f12.keep (Evs.cons c (Evp.name c rfl (Evs.nil ⟨_, 1, by omega, T.clusters B ok, _, rfl, Evp.name c rfl ⟨clustersOf rs, rfl, ?_, ?_⟩⟩))) rfl)))
  · rw [clusters_sh]; simp
  refine Tst.neNums c (Evp.callFn c B T.f13.glob T.f13.keep (Evs.cons c (Evp.name c rfl (Evs.nil ⟨_, 1, by omega, T.unsafe_ B ok, _, rfl, Evp.name c rfl ⟨unsafeOf rs, rfl, ?_, ?_⟩⟩))) rfl)
  · rw [unsafe_sh]; simp
  refine Tst.neNums c (Evp.callFn c B T.f14.glob T.f14.keep (Evs.cons c (Evp.name c rfl (Evs.cons c (Evp.name c rfl (Evs.nil ⟨_, 2, by omega, T.places B ok L, _, rfl, Evp.name c rfl ⟨placesOf rs L, rfl, ?_, rfl, hk _ (Sub.refl _)⟩⟩))))) rfl)
  rw [places_sh]; simp
end
end Mine
end

section
set_option linter.unusedVariables false
open PySem PySem.W PyProof.Rows
set_option maxRecDepth 100000
namespace Mine

theorem plain_optD (o : Option Int) (m : Nat) : plain m (optD o) = true := by
  cases o <;> cases m <;> rfl
section
variable {prog : Program} {h0 : Heap} {K : Frag} {ad : Ads} {n : Nat} {w : World} {A : Around} {Lc f : Addr} {cdv : Value} {s0 : Shared} {C : Addr → Option Obj} {X : Addr → Prop} {p : Addr} {E : Value → Shared → Prop} {Kk : S → Prop} {R : D → S → Prop}
theorem law_9 (B : Top0 K h0) (T : TopOK K ad) (c : CxOK h0 (n + 6) (lawCx w A Lc f cdv s0 C X (some p))) {rs : List Row} {last L : Int} (bw : Bool) {k : Nat} (g : Gen rs last) (hL : 0 ≤ L ∧ L ≤ 100)
    (hk : ∀ S', Sub (S7 ad p rs bw L k) S' → Kk S') : Exp prog (lawCx w A Lc f cdv s0 C X (some p)) E (S7 ad p rs bw L k) (stAt (bodyOf lawSt) 9) Kk R := by
  have ok := g.okSh bw
  have G := T.G
  have hcl : (clustersOf rs).length ≤ 17 := clusters_len g.ok
  have hpl := places_cons (L := L) g
  refine Exp.forC encI c (Itr.rng c (Evp.callT c B (G.bl "range" (by decide)) boot_range (by decide) (Evs.cons c (Evp.name c rfl (Evs.nil ⟨_, call_range1, 0, L.toNat, ?_, by decide, by decide, by omega, rint 0 L.toNat, fun _ => S7 ad p rs bw L k, rint_enc _ _, fun i => rfl, Sub.refl _, fun C' X' c' i y hy => ?_, fun S' hS => hk S' hS⟩))) rfl))
  · show D.rng 0 L = D.rng 0 (0 + (L.toNat : Int))
    congr 1; omega
  have hyr : 0 ≤ y ∧ y < 0 + (L.toNat : Int) := mem_rint.mp (List.mem_of_getElem? hy)
  obtain ⟨hst, hne⟩ := stretch_law g hyr.1
  refine Asg.name c' (.inr ⟨rfl, rfl, rfl⟩) ?_
  refine Exps.cons (Exp.assignComp c' (CompRes.c1 encI (Itr.list c' (Evp.name c' rfl ⟨_, rfl, clustersOf rs, fun x => cmpI .Gt x y, fun x => .int x, rfl, by omega, fun cl Lc s₀ C X c'' z hz => ?_, fun cl Lc s₀ C X c'' z hz hb k => ?_, ?_⟩))) (.inl rfl))
  · exact Tst.cmpI c'' (Evp.name c'' rfl ⟨z, rfl, Evp.name c'' rfl ⟨y, rfl, rfl⟩⟩)
  · exact Evp.name c'' rfl rfl
  rw [show ((clustersOf rs).filter fun x => cmpI .Gt x y).map (fun x => D.int x) = nums ((clustersOf rs).filter fun x => cmpI .Gt x y) from rfl]
  refine Exps.cons (Exp.ifFalse (Tst.neSame c' (Evp.callFn c' B T.f15.glob T.f15.keep (Evs.cons c' (Evp.name c' rfl (Evs.cons c' (Evp.name c' rfl (Evs.nil ⟨_, 2, by omega, T.stretch B ok y, ?_⟩))))) rfl)))
  rw [clusters_sh, hst]
  refine Evp.tuple c' (Evs.cons c' (Evp.callB c' B (G.bl "max" (by decide)) boot_max' (by decide) (Evs.cons c' ?_) rfl))
  refine Evp.comp1 encI c' (Itr.list c' (Evp.name c' rfl ⟨_, rfl, clustersOf rs, fun x => cmpI .LtE x y, fun x => .int x, rfl, by omega, fun cl Lc s₀ C X c'' z hz => ?_, fun cl Lc s₀ C X c'' z hz hb k => ?_, ?_⟩))
  · exact Tst.cmpI c'' (Evp.name c'' rfl ⟨z, rfl, Evp.name c'' rfl ⟨y, rfl, rfl⟩⟩)
  · exact Evp.name c'' rfl rfl
  refine Evs.nil ⟨_, call_maxL c'.lv (ns := (clustersOf rs).filter fun x => cmpI .LtE x y) hne, Evs.cons c' ((?_ : Evp prog _ _ _ fun d k' => d = optD ((clustersOf rs).filter fun x => cmpI .Gt x y).head? ∧ k' = k).mono fun d k' ⟨e1, e2⟩ => Evs.nil ⟨by simp, 2, by decide, by rw [e1], by simp [plain, plain_optD], rfl, ?_⟩)⟩
  · have hfl : ((clustersOf rs).filter fun x => cmpI .Gt x y).length ≤ 17 := Nat.le_trans (List.length_filter_le _ _) hcl
    refine Evp.ite (Tst.plain c' (Evp.name c' rfl ⟨_, Tru.list (by simp [nums]; omega), ?_⟩))
    generalize (clustersOf rs).filter (fun x => cmpI .Gt x y) = es at hfl ⊢
    cases es with
    | nil =>
      show if (false = true) then _ else _
      simp only [Bool.false_eq_true, if_false]
      exact Evp.cnone c' ⟨rfl, rfl⟩
    | cons z zs =>
      show if (true = true) then _ else _
      simp only [if_true]
      exact Evp.itemL c' (Evp.name c' rfl (Evp.cint c' ⟨nums (z :: zs), 0, .int z, rfl, rfl, by simp [nums] at hfl ⊢; omega, by simp [nums]; omega, by simp [nums]; skip, rfl, rfl, rfl⟩))
  subst e2
  refine Exps.cons (Exp.ifFalse (Tst.neSame c' (Evp.callFn c' B T.f16.glob T.f16.keep (Evs.cons c' (Evp.name c' rfl (Evs.cons c' (Evp.name c' rfl (Evs.cons c' (Evp.name c' rfl (Evs.nil ⟨_, 3, by omega, T.before B ok L y, ?_⟩))))))) rfl)))
  refine Evp.callB c' B (G.bl "max" (by decide)) boot_max' (by decide) (Evs.cons c' (Evp.bin c' (Evp.list c' (Evs.cons c' (Evp.cint c' (Evs.nil ⟨by simp, ?_⟩)))))) rfl
  have h1 := List.length_filter_le (fun s => cmpI .LtE s y) (placesOf rs L)
  refine Evp.comp1 encI c' (Itr.list c' (Evp.name c' rfl ⟨_, rfl, placesOf rs L, fun s => cmpI .LtE s y, fun x => .int x, rfl, by omega, fun cl Lc s₀ C X c'' z hz => ?_, fun cl Lc s₀ C X c'' z hz hb k => ?_, ?_⟩))
  · exact Tst.cmpI c'' (Evp.name c'' rfl ⟨z, rfl, Evp.name c'' rfl ⟨y, rfl, rfl⟩⟩)
  · exact Evp.name c'' rfl rfl
  refine ⟨_, op_addlist (as := nums [0]) (bs := nums ((placesOf rs L).filter fun s => cmpI .LtE s y)) (by simp [nums]; omega), Evs.nil ⟨_, call_maxL c'.lv (ns := [0] ++ (placesOf rs L).filter fun s => cmpI .LtE s y) (by simp), 0, by decide, ?_, rfl, rfl, ?_⟩⟩
  · unfold beforeOf; rw [places_sh]
  refine Exps.cons (Exp.ifFalse (Tst.neSame c' (Evp.callFn c' B T.f17.glob T.f17.keep (Evs.cons c' (Evp.name c' rfl (Evs.cons c' (Evp.name c' rfl (Evs.cons c' (Evp.name c' rfl (Evs.nil ⟨_, 3, by omega, T.behind B ok L y, ?_⟩))))))) rfl)))
  refine Evp.callB c' B (G.bl "min" (by decide)) boot_min' (by decide) (Evs.cons c' (Evp.bin c' (Evp.list c' (Evs.cons c' (Evp.name c' rfl (Evs.nil ⟨by simp, ?_⟩)))))) rfl
  have h2 := List.length_filter_le (fun s => cmpI .GtE s y) (placesOf rs L)
  refine Evp.comp1 encI c' (Itr.list c' (Evp.name c' rfl ⟨_, rfl, placesOf rs L, fun s => cmpI .GtE s y, fun x => .int x, rfl, by omega, fun cl Lc s₀ C X c'' z hz => ?_, fun cl Lc s₀ C X c'' z hz hb k => ?_, ?_⟩))
  · exact Tst.cmpI c'' (Evp.name c'' rfl ⟨z, rfl, Evp.name c'' rfl ⟨y, rfl, rfl⟩⟩)
  · exact Evp.name c'' rfl rfl
  refine ⟨_, op_addlist (as := nums [L]) (bs := nums ((placesOf rs L).filter fun s => cmpI .GtE s y)) (by simp [nums]; omega), Evs.nil ⟨_, call_minL c'.lv (ns := [L] ++ (placesOf rs L).filter fun s => cmpI .GtE s y) (by simp), 0, by decide, ?_, rfl, rfl, ?_⟩⟩
  · unfold behindOf; rw [places_sh]
  refine Exps.nil (Sub.of rfl rfl ?_)
  repeat (first | exact lkNil | refine lkCons rfl ?_)
end
end Mine
end

section
set_option linter.unusedVariables false
open PySem PySem.W PyProof.Rows
set_option maxRecDepth 100000
namespace Mine

theorem places_rise (rs : List Row) (L : Int) : (placesOf rs L).Pairwise (· < ·) := (ssort_lt _).filter _
theorem headD_mem' : ∀ {l : List Int}, l ≠ [] → l.headD 0 ∈ l
  | [], h => (h rfl).elim
  | a :: l, _ => by simp
/-- the text's own places are no bad ones -/
theorem cuts_good (rs : List Row) (L : Int) : cutsBad (placesOf rs L) L = false := by
  unfold cutsBad
  by_cases h : placesOf rs L = []
  · rw [h]; rfl
  · have h1 := places_lt (headD_mem' h)
    have h2 := places_lt (getLastD_mem (b := 0) h)
    have h3 := getLastD_max (b := 0) (places_rise rs L) _ (headD_mem' h)
    simp only [cmpI, Bool.and_eq_false_imp]
    intro _
    have a1 : decide (0 < (placesOf rs L).headD 0) = true := decide_eq_true h1.1
    have a2 : decide ((placesOf rs L).headD 0 ≤ (placesOf rs L).getLastD 0) = true := decide_eq_true h3
    have a3 : decide ((placesOf rs L).getLastD 0 < L) = true := decide_eq_true h2.2
    rw [a1, a2, a3]; rfl
theorem ssort_places (rs : List Row) (L : Int) : ssort (placesOf rs L) = placesOf rs L := ssort_of_rising (places_rise rs L)
theorem ssort_places2 (rs : List Row) (L : Int) : ssort ((placesOf rs L).reverse ++ placesOf rs L) = placesOf rs L := ssort_eq (places_rise rs L) fun x => by simp
theorem headD_min : ∀ {l : List Int}, l.Pairwise (· < ·) → ∀ x ∈ l, l.headD 0 ≤ x
  | [], _, x, hx => by cases hx
  | a :: l, h, x, hx => by
    rcases List.mem_cons.mp hx with rfl | hx
    · simp
    · have := (List.pairwise_cons.mp h).1 x hx
      show a ≤ x
      omega
/-- a place at which the text cannot be cut -/
theorem cuts_bad {ps : List Int} {L bad : Int} (hL : 0 < L) (hb : bad ≤ 0 ∨ L ≤ bad) : cutsBad (ssort (ps ++ [bad])) L = true := by
  have hm : bad ∈ ssort (ps ++ [bad]) := mem_ssort.mpr (by simp)
  have hr := ssort_lt (ps ++ [bad])
  generalize ssort (ps ++ [bad]) = cs at hm hr
  have hne : cs ≠ [] := fun e => by rw [e] at hm; cases hm
  unfold cutsBad
  have hlen : cmpI .Gt (cs.length : Int) 0 = true := by
    have := List.length_pos_iff.mpr hne
    simp [cmpI]; omega
  rw [hlen, Bool.true_and]
  simp only [cmpI, Bool.not_eq_true', Bool.and_eq_false_iff, decide_eq_false_iff_not]
  rcases hb with hb | hb
  · have := headD_min hr bad hm
    left; omega
  · have := getLastD_max (b := 0) hr bad hm
    right; right; omega
theorem places_small {rs : List Row} {last L : Int} (g : Gen rs last) : ∀ p ∈ placesOf rs L, Small p := fun p hp => by
  have := (List.mem_filter.mp hp).1
  obtain ⟨r, hr, e⟩ := List.mem_map.mp (mem_ssort.mp this)
  rw [← e]; exact g.ok.small r hr
theorem pieces_pairs (cs : List Int) (L : Int) : pairs (nums [0] ++ nums cs) (nums cs ++ nums [L]) = (piecesOf cs L).map encII.enc := by
  unfold pairs piecesOf nums
  rw [← List.map_append, ← List.map_append, List.zip_map, List.map_map]
  rfl
theorem plain_pieces (ls : List (Int × Int)) : plain 2 (.list (ls.map encII.enc)) = true := by
  simp only [plain, List.all_map, List.all_eq_true]
  intro q _
  rfl

section
variable {prog : Program} {h0 : Heap} {K : Frag} {ad : Ads} {n : Nat} {w : World} {A : Around} {Lc f : Addr} {cdv : Value} {s0 : Shared} {C : Addr → Option Obj} {X : Addr → Prop} {p : Addr} {E : Value → Shared → Prop} {Kk : S → Prop} {R : D → S → Prop}
theorem law_10 (B : Top0 K h0) (T : TopOK K ad) (c : CxOK h0 (n + 6) (lawCx w A Lc f cdv s0 C X (some p))) {rs : List Row} {last L : Int} (bw : Bool) {k : Nat} (g : Gen rs last)
    (hk : ∀ S', Sub (S7 ad p rs bw L k) S' → Kk S') : Exp prog (lawCx w A Lc f cdv s0 C X (some p)) E (S7 ad p rs bw L k) (stAt (bodyOf lawSt) 10) Kk R := by
  have G := T.G
  have hpl := places_cons (L := L) g
  have hsm := places_small (L := L) g
  have hst := T.stretches (prog := prog) B (ps := (placesOf rs L).reverse ++ placesOf rs L) (L := L) (by simp; omega) (fun p hp => hsm p (by simpa using hp)) (by rw [ssort_places2]; exact cuts_good rs L)
  rw [ssort_places2] at hst
  refine Exp.ifFalse (Tst.neSame c (Evp.callFn c B T.f31.glob T.f31.keep (Evs.cons c (Evp.name c rfl (Evs.cons c (Evp.bin c (Evp.sliceL c (Evp.name c rfl (Evo.none_ (Evo.none_ (Evo.some_ (Evp.un c (Evp.cint c ⟨_, op_neg, _, rfl, nums (placesOf rs L), _, rfl, by simp [nums]; omega, pickD_rev, Evp.name c rfl ⟨_, op_addlist (by simp [nums]; omega), Evs.nil ⟨D.list ((piecesOf (placesOf rs L) L).map encII.enc), 2, by omega, ?_, ?_⟩⟩⟩))))))))))) rfl))
  · rw [show (nums (placesOf rs L)).reverse ++ nums (placesOf rs L) = nums ((placesOf rs L).reverse ++ placesOf rs L) by simp [nums]]
    exact F_cut B T.f31 T.f18 hst
  refine Evp.listZip c B (G.bl "list" (by decide)) boot_list (by decide) (G.bl "zip" (by decide)) boot_zip (by decide) ?_ rfl rfl
  refine Evs.cons c (Evp.bin c (Evp.list c (Evs.cons c (Evp.cint c (Evs.nil ⟨by simp, Evp.name c rfl ⟨_, op_addlist (as := nums [0]) (bs := nums (placesOf rs L)) (by simp [nums]; omega), Evs.cons c (Evp.bin c (Evp.name c rfl (Evp.list c (Evs.cons c (Evp.name c rfl (Evs.nil ⟨by simp, _, op_addlist (as := nums (placesOf rs L)) (bs := nums [L]) (by simp [nums]; omega), Evs.nil ⟨_, _, rfl, by simp [nums], by simp [nums]; skip, by simp [nums]; omega, ?_⟩⟩))))))⟩⟩)))))
  rw [pieces_pairs]
  exact ⟨2, by decide, rfl, plain_pieces _, rfl, hk _ (Sub.refl _)⟩

/-- the state behind the bad place -/
noncomputable def S11 (ad : Ads) (p : Addr) (rs : List Row) (bw : Bool) (L : Int) (bad : Int) (k : Nat) : S := { S7 ad p rs bw L k with vars := ("bad", .int bad) :: (S7 ad p rs bw L k).vars }
theorem law_11 (B : Top0 K h0) (T : TopOK K ad) (c : CxOK h0 (n + 6) (lawCx w A Lc f cdv s0 C X (some p))) {rs : List Row} {L : Int} (bw : Bool) {k : Nat} (hL : 0 < L) (hk' : k ≤ 60)
    (hk : ∀ bad S', (bad ≤ 0 ∨ L ≤ bad) → -1 ≤ bad → bad ≤ L + 1 → Sub (S11 ad p rs bw L bad (k + 1)) S' → Kk S') : Exp prog (lawCx w A Lc f cdv s0 C X (some p)) E (S7 ad p rs bw L k) (stAt (bodyOf lawSt) 11) Kk R := by
  have G := T.G
  refine Exp.assign c (.inl rfl) (Evp.itemL c (Evp.list c (Evs.cons c (Evp.cint c (Evs.cons c (Evp.name c rfl (Evs.cons c (Evp.bin c (Evp.name c rfl (Evp.cint c ⟨_, op_add, Evs.cons c (Evp.un c (Evp.cint c ⟨_, op_neg, Evs.nil ⟨by simp, Evp.draw c B G T.f29 rfl rfl (Evp.cint c ⟨4, rfl, by decide, by decide, by show k + 1 ≤ 1000; omega, fun u u0 u1 => ⟨nums [0, L, L + 1, -1], u, .int ([0, L, L + 1, -1].getD u.toNat 0), rfl, rfl, by simp [nums], by simp [nums]; omega, by simp [nums]; omega, ?_, ?_⟩⟩)⟩⟩))⟩))))))))))
  · rw [if_neg (by omega)]
    have : u = 0 ∨ u = 1 ∨ u = 2 ∨ u = 3 := by omega
    rcases this with rfl | rfl | rfl | rfl <;> rfl
  · refine hk ([0, L, L + 1, -1].getD u.toNat 0) _ ?_ ?_ ?_ (Sub.of rfl rfl ?_)
    · have : u = 0 ∨ u = 1 ∨ u = 2 ∨ u = 3 := by omega
      rcases this with rfl | rfl | rfl | rfl
      · left; show (0 : Int) ≤ 0; decide
      · right; exact Int.le_refl _
      · right; show L ≤ L + 1; omega
      · left; show (-1 : Int) ≤ 0; decide
    · have : u = 0 ∨ u = 1 ∨ u = 2 ∨ u = 3 := by omega
      rcases this with rfl | rfl | rfl | rfl
      · show (-1 : Int) ≤ 0; decide
      · show -1 ≤ L; omega
      · show -1 ≤ L + 1; omega
      · show (-1 : Int) ≤ -1; decide
    · have : u = 0 ∨ u = 1 ∨ u = 2 ∨ u = 3 := by omega
      rcases this with rfl | rfl | rfl | rfl
      · show 0 ≤ L + 1; omega
      · show L ≤ L + 1; omega
      · show L + 1 ≤ L + 1; omega
      · show -1 ≤ L + 1; omega
    · repeat (first | exact lkNil | refine lkCons rfl ?_)
theorem law_12 (B : Top0 K h0) (T : TopOK K ad) (c : CxOK h0 (n + 6) (lawCx w A Lc f cdv s0 C X (some p))) (hfr : A.frames = some [envOfC "law" (scopeOf lawSt) Lc f cdv]) (hfile : ((prog.main.file : Str) == ("/claim/cut.py" : Str)) = true) (htop : (prog.main.scope.names.lookup ("super" : Str)).isSome = false)
    {rs : List Row} {last L bad : Int} (bw : Bool) {k : Nat} (g : Gen rs last) (hL : 0 < L) (hL2 : L ≤ 22) (hb : bad ≤ 0 ∨ L ≤ bad) (hb1 : -1 ≤ bad) (hb2 : bad ≤ L + 1)
    (hk : ∀ S', Sub (S7 ad p rs bw L k) S' → Kk S') : Exp prog (lawCx w A Lc f cdv s0 C X (some p)) E (S11 ad p rs bw L bad k) (stAt (bodyOf lawSt) 12) Kk R := by
  have hpl := places_cons (L := L) g
  have hsm := places_small (L := L) g
  refine Exp.cutBad (n := n + 2) c B T.G T.f31 T.f18 T.fault hfile htop T.gFault hfr rfl (Evs.cons c (Evp.name c rfl (Evs.cons c (Evp.bin c (Evp.name c rfl (Evp.list c (Evs.cons c (Evp.name c rfl (Evs.nil ⟨by simp, _, op_addlist (as := nums (placesOf rs L)) (bs := nums [bad]) (by simp [nums]; omega), Evs.nil ⟨L, placesOf rs L ++ [bad], ?_, by simp; omega, fun p hp => ?_, cuts_bad hL hb, hk _ (Sub.of rfl rfl ?_)⟩⟩)))))))))
  · simp [nums]
  · rcases List.mem_append.mp hp with q | q
    · exact hsm p q
    · rw [List.mem_singleton.mp q]; exact ⟨hb1, by omega⟩
  · repeat (first | exact lkNil | refine lkCons rfl ?_)
end
end Mine
end

section
set_option linter.unusedVariables false
open PySem PySem.W PyProof.Rows
set_option maxRecDepth 100000
namespace Mine

theorem inside_iff {b e : Int} {r : Row} : inside b e r = true ↔ b ≤ r.cl ∧ r.cl < e := by
  unfold inside; simp [cmpI]
theorem filter_two {b c e : Int} (h1 : b ≤ c) (h2 : c ≤ e) : ∀ {rs : List Row}, rs.Pairwise (fun a b => a.cl ≤ b.cl) → rs.filter (inside b c) ++ rs.filter (inside c e) = rs.filter (inside b e)
  | [], _ => rfl
  | r :: rs, h => by
    rw [List.pairwise_cons] at h
    have ih := filter_two h1 h2 h.2
    by_cases q : r.cl < c
    · have e2 : inside c e r = false := by rw [Bool.eq_false_iff]; intro z; have := inside_iff.mp z; omega
      rw [List.filter_cons (p := inside c e), e2, if_neg (by simp)]
      by_cases q2 : b ≤ r.cl
      · rw [List.filter_cons, if_pos (inside_iff.mpr ⟨q2, q⟩), List.filter_cons (p := inside b e), if_pos (inside_iff.mpr ⟨q2, by omega⟩), List.cons_append, ih]
      · have n1 : ¬ inside b c r = true := fun z => q2 (inside_iff.mp z).1
        have n2 : ¬ inside b e r = true := fun z => q2 (inside_iff.mp z).1
        rw [List.filter_cons, if_neg n1, List.filter_cons (p := inside b e), if_neg n2, ih]
    · have e1 : (r :: rs).filter (inside b c) = [] := by
        rw [List.filter_eq_nil_iff]
        intro x hx z
        have := inside_iff.mp z
        rcases List.mem_cons.mp hx with rfl | hx
        · omega
        · have := h.1 x hx; omega
      rw [e1, List.nil_append]
      refine List.filter_congr fun x hx => ?_
      have hc : c ≤ x.cl := by
        rcases List.mem_cons.mp hx with rfl | hx
        · omega
        · have := h.1 x hx; omega
      rw [Bool.eq_iff_iff, inside_iff, inside_iff]
      omega
/-- pieces from b on -/
noncomputable def pcs (b : Int) (cs : List Int) (L : Int) : List (Int × Int) := (b :: cs).zip (cs ++ [L])
theorem pcs_nil (b L : Int) : pcs b [] L = [(b, L)] := rfl
theorem pcs_cons (b c : Int) (cs : List Int) (L : Int) : pcs b (c :: cs) L = (b, c) :: pcs c cs L := rfl
theorem pieces_pcs (cs : List Int) (L : Int) : piecesOf cs L = pcs 0 cs L := rfl
theorem pcs_fst : ∀ (b : Int) (cs : List Int) (L : Int), (pcs b cs L).map (·.1) = b :: cs
  | b, [], L => rfl
  | b, c :: cs, L => by rw [pcs_cons, List.map_cons, pcs_fst c cs L]
theorem pcs_len (b : Int) (cs : List Int) (L : Int) : (pcs b cs L).length = cs.length + 1 := by
  have := congrArg List.length (pcs_fst b cs L)
  simpa using this
theorem pcs_mem : ∀ {b : Int} {cs : List Int} {L : Int}, (b :: cs).Pairwise (· < ·) → (∀ c ∈ b :: cs, c < L) → ∀ q ∈ pcs b cs L, b ≤ q.1 ∧ q.1 < q.2 ∧ q.2 ≤ L ∧ q.1 ∈ b :: cs
  | b, [], L, _, h2, q, hq => by
    rw [pcs_nil, List.mem_singleton] at hq
    subst hq
    exact ⟨Int.le_refl _, h2 b (by simp), Int.le_refl _, by simp⟩
  | b, c :: cs, L, h1, h2, q, hq => by
    rw [List.pairwise_cons] at h1
    rw [pcs_cons] at hq
    rcases List.mem_cons.mp hq with rfl | hq
    · exact ⟨Int.le_refl _, h1.1 c (by simp), Int.le_of_lt (h2 c (by simp)), by simp⟩
    · obtain ⟨a1, a2, a3, a4⟩ := pcs_mem h1.2 (fun x hx => h2 x (List.mem_cons_of_mem _ hx)) q hq
      have := h1.1 c (by simp)
      exact ⟨by omega, a2, a3, List.mem_cons_of_mem _ a4⟩
noncomputable def segs (rs : List Row) (ps : List (Int × Int)) : List Row := ps.flatMap fun q => rs.filter (inside q.1 q.2)
theorem segs_all {rs : List Row} (hr : rs.Pairwise (fun a b => a.cl ≤ b.cl)) : ∀ {b : Int} {cs : List Int} {L : Int}, (b :: cs).Pairwise (· < ·) → (∀ c ∈ b :: cs, c < L) → segs rs (pcs b cs L) = rs.filter (inside b L)
  | b, [], L, _, _ => by simp [pcs_nil, segs]
  | b, c :: cs, L, h1, h2 => by
    rw [List.pairwise_cons] at h1
    have ih := segs_all hr h1.2 (fun x hx => h2 x (List.mem_cons_of_mem _ hx))
    rw [pcs_cons, segs, List.flatMap_cons, show (pcs c cs L).flatMap (fun q => rs.filter (inside q.1 q.2)) = segs rs (pcs c cs L) from rfl, ih]
    exact filter_two (Int.le_of_lt (h1.1 c (by simp))) (Int.le_of_lt (h2 c (by simp))) hr
theorem moved_cut (rs : List Row) (b e : Int) : movedOf (cutOf rs b e) b = rs.filter (inside b e) := by
  unfold movedOf cutOf
  rw [List.map_map]
  conv => rhs; rw [← List.map_id (rs.filter (inside b e))]
  refine List.map_congr_left fun r _ => ?_
  show Row.shift { r with cl := r.cl - b } b = r
  unfold Row.shift
  show ({ r with cl := r.cl - b + b } : Row) = r
  rw [Int.sub_add_cancel]
theorem join_false (rs : List Row) : ∀ (ps : List (Int × Int)) (acc : List Row), (ps.map fun q => (cutOf rs q.1 q.2, q.1)).foldl (joinStep false) acc = acc ++ segs rs ps
  | [], acc => by simp [segs]
  | q :: ps, acc => by
    rw [List.map_cons, List.foldl_cons, join_false rs ps]
    simp only [joinStep, Bool.false_eq_true, if_false, moved_cut]
    rw [List.append_assoc]; rfl
theorem join_true (rs : List Row) : ∀ (ps : List (Int × Int)) (acc : List Row), (ps.map fun q => (cutOf rs.reverse q.1 q.2, q.1)).foldl (joinStep true) acc = (segs rs ps).reverse ++ acc
  | [], acc => by simp [segs]
  | q :: ps, acc => by
    rw [List.map_cons, List.foldl_cons, join_true rs ps]
    simp only [joinStep, if_true, moved_cut, List.filter_reverse]
    rw [← List.append_assoc, ← List.reverse_append]; rfl
theorem pieces_zip (sh : List Row) (cs : List Int) (L : Int) : ((piecesOf cs L).map fun q => cutOf sh q.1 q.2).zip ([0] ++ cs) = (piecesOf cs L).map fun q => (cutOf sh q.1 q.2, q.1) := by
  have e : [0] ++ cs = (piecesOf cs L).map (·.1) := by rw [pieces_pcs, pcs_fst]; rfl
  rw [e, List.zip_map', ]
theorem cuts_lt {rs : List Row} {L : Int} (hL : 0 < L) : ∀ c ∈ (0 : Int) :: placesOf rs L, c < L := fun c hc => by
  rcases List.mem_cons.mp hc with rfl | hc
  · exact hL
  · exact (places_lt hc).2
theorem cuts_rise (rs : List Row) (L : Int) : ((0 : Int) :: placesOf rs L).Pairwise (· < ·) := List.pairwise_cons.mpr ⟨fun x hx => (places_lt hx).1, places_rise rs L⟩
/-- the pieces joined are the row again -/
theorem join_law {rs : List Row} {last L : Int} (g : Gen rs last) (hL : last < L) (bw : Bool) : joinOf bw (((piecesOf (placesOf rs L) L).map fun q => cutOf (shOf rs bw) q.1 q.2).zip ([0] ++ placesOf rs L)) = shOf rs bw := by
  have hz : 0 ≤ last := by
    obtain ⟨r, hr, e⟩ := g.last_
    have := g.le r hr; omega
  have hall : rs.filter (inside 0 L) = rs := by
    rw [List.filter_eq_self]
    intro r hr
    have := g.le r hr
    exact inside_iff.mpr ⟨this.1, by omega⟩
  have hs := segs_all g.rise (cuts_rise rs L) (cuts_lt (L := L) (by omega))
  rw [pieces_zip]
  unfold joinOf shOf
  cases bw with
  | false =>
    simp only [Bool.false_eq_true, if_false]
    rw [join_false, List.nil_append, pieces_pcs, hs, hall]
  | true =>
    simp only [if_true]
    rw [join_true, List.append_nil, pieces_pcs, hs, hall]
theorem piece_mem {rs : List Row} {L : Int} (hL : 0 < L) : ∀ q ∈ piecesOf (placesOf rs L) L, 0 ≤ q.1 ∧ q.1 < q.2 ∧ q.2 ≤ L ∧ q.1 ∈ (0 : Int) :: placesOf rs L := fun q hq => pcs_mem (cuts_rise rs L) (cuts_lt hL) q hq
/-- no sign of a piece lies ahead of it -/
theorem cut_nonneg {rs : List Row} {b e : Int} : ∀ r ∈ cutOf rs b e, 0 ≤ r.cl := fun r hr => by
  unfold cutOf at hr
  obtain ⟨x, hx, rfl⟩ := List.mem_map.mp hr
  have := inside_iff.mp (List.mem_filter.mp hx).2
  show 0 ≤ x.cl - b
  omega
end Mine
end

section
set_option linter.unusedVariables false
open PySem PySem.W PyProof.Rows
set_option maxRecDepth 100000
namespace Mine

/-- the pieces between the safe places -/
noncomputable def cutsOf (rs : List Row) (bw : Bool) (L : Int) : List (List Row) := (piecesOf (placesOf rs L) L).map fun q => cutOf (shOf rs bw) q.1 q.2
theorem plain_rows (rs : List Row) : plain 2 (rowsD rs) = true := by
  simp only [plain, List.all_map, List.all_eq_true]
  intro r _
  rfl
section
variable {prog : Program} {h0 : Heap} {K : Frag} {ad : Ads} {n : Nat} {w : World} {A : Around} {Lc f : Addr} {cdv : Value} {s0 : Shared} {C : Addr → Option Obj} {X : Addr → Prop} {p : Addr} {E : Value → Shared → Prop} {Kk : S → Prop} {R : D → S → Prop}
/-- the state behind the cutting -/
noncomputable def S13 (ad : Ads) (p : Addr) (rs : List Row) (bw : Bool) (L : Int) (k : Nat) : S := { S7 ad p rs bw L k with vars := ("pieces", .list ((cutsOf rs bw L).map fun r => shapedD ad.shaped r bw)) :: (S7 ad p rs bw L k).vars }
theorem law_13 (B : Top0 K h0) (T : TopOK K ad) (c : CxOK h0 (n + 6) (lawCx w A Lc f cdv s0 C X (some p))) {rs : List Row} {last L : Int} (bw : Bool) {k : Nat} (g : Gen rs last)
    (hk : ∀ S', Sub (S13 ad p rs bw L k) S' → Kk S') : Exp prog (lawCx w A Lc f cdv s0 C X (some p)) E (S7 ad p rs bw L k) (stAt (bodyOf lawSt) 13) Kk R := by
  have hpl := places_cons (L := L) g
  have hsm := places_small (L := L) g
  have ok := g.okSh bw
  have hst := T.stretches (prog := prog) B (ps := placesOf rs L) (L := L) (by omega) hsm (by rw [ssort_places]; exact cuts_good rs L)
  rw [ssort_places] at hst
  refine Exp.assignComp c (CompRes.c0P encII (Itr.list c (Evp.callFn c B T.f18.glob T.f18.keep (Evs.cons c (Evp.name c rfl (Evs.cons c (Evp.name c rfl (Evs.nil ⟨_, 1, by omega, hst, _, rfl, piecesOf (placesOf rs L) L, fun q => shapedD ad.shaped (cutOf (shOf rs bw) q.1 q.2) bw, rfl, ?_, fun cl Lc s₀ C X c' z hz => ⟨_, _, rfl, fun k => ?_⟩, hk _ (Sub.of rfl rfl ?_)⟩))))) rfl))) (.inl rfl)
  · rw [pieces_pcs, pcs_len]; omega
  · exact Evp.callFn c' B T.f25.glob T.f25.keep (Evs.cons c' (Evp.name c' rfl (Evs.cons c' (Evp.name c' rfl (Evs.cons c' (Evp.name c' rfl (Evs.nil ⟨_, 3, by omega, T.between B ok z.1 z.2, rfl⟩))))))) rfl
  · intro q hq
    simp only [S13, S7, List.mem_cons, List.not_mem_nil, or_false] at hq
    rcases hq with rfl | rfl | rfl | rfl | rfl | rfl | rfl | rfl | rfl
    · show some _ = some _
      congr 1
      unfold cutsOf
      rw [List.map_map]; rfl
    all_goals rfl
/-- the state behind the joining -/
noncomputable def S14 (ad : Ads) (p : Addr) (rs : List Row) (bw : Bool) (L : Int) (k : Nat) : S := { S7 ad p rs bw L k with vars := ("whole", shapedD ad.shaped (shOf rs bw) bw) :: (S13 ad p rs bw L k).vars }
theorem law_14 (B : Top0 K h0) (T : TopOK K ad) (c : CxOK h0 (n + 6) (lawCx w A Lc f cdv s0 C X (some p))) {rs : List Row} {last L : Int} (bw : Bool) {k : Nat} (g : Gen rs last) (hL : last < L)
    (hk : ∀ S', Sub (S14 ad p rs bw L k) S' → Kk S') : Exp prog (lawCx w A Lc f cdv s0 C X (some p)) E (S13 ad p rs bw L k) (stAt (bodyOf lawSt) 14) Kk R := by
  have hpl := places_cons (L := L) g
  have hcl : (cutsOf rs bw L).length = (placesOf rs L).length + 1 := by unfold cutsOf; rw [List.length_map, pieces_pcs, pcs_len]
  have hj := join_law g hL bw
  have hsum : (((cutsOf rs bw L).zip ([0] ++ placesOf rs L)).map fun p => p.1.length).sum ≤ 1000 := by
    have := foldl_join_len bw ((cutsOf rs bw L).zip ([0] ++ placesOf rs L)) []
    rw [show ((cutsOf rs bw L).zip ([0] ++ placesOf rs L)).foldl (joinStep bw) [] = shOf rs bw from hj] at this
    have h2 := (g.okSh bw).len
    simp only [List.length_nil] at this
    omega
  have hjn := T.joined (prog := prog) B (cutsOf rs bw L) ([0] ++ placesOf rs L) bw (by omega) (by simp; omega) (by omega) hsum
  rw [show joinOf bw ((cutsOf rs bw L).zip ([0] ++ placesOf rs L)) = shOf rs bw from hj] at hjn
  refine Exp.assign c (.inl rfl) (Evp.callFn c B T.f21.glob T.f21.keep (Evs.cons c (Evp.name c rfl (Evs.cons c (Evp.bin c (Evp.list c (Evs.cons c (Evp.cint c (Evs.nil ⟨by simp, Evp.name c rfl ⟨_, op_addlist (as := nums [0]) (bs := nums (placesOf rs L)) (by simp [nums]; omega), Evs.cons c (Evp.name c rfl (Evs.nil ⟨_, 3, by omega, ?_, hk _ (Sub.of rfl rfl ?_)⟩))⟩⟩)))))))) rfl)
  · rw [show nums [0] ++ nums (placesOf rs L) = nums ([0] ++ placesOf rs L) by simp [nums]]
    exact hjn
  · repeat (first | exact lkNil | refine lkCons rfl ?_)
theorem law_15 (B : Top0 K h0) (T : TopOK K ad) (c : CxOK h0 (n + 6) (lawCx w A Lc f cdv s0 C X (some p))) {rs : List Row} {L : Int} (bw : Bool) {k : Nat}
    (hk : ∀ S', Sub (S13 ad p rs bw L k) S' → Kk S') : Exp prog (lawCx w A Lc f cdv s0 C X (some p)) E (S14 ad p rs bw L k) (stAt (bodyOf lawSt) 15) Kk R := by
  refine Exp.ifFalse (Tst.or2 (Tst.neSame c (Evp.attr c B (Evp.name c rfl ⟨ad.shaped, _, rowsD (shOf rs bw), rfl, rfl, rfl, T.rowsA, Evp.attr c B (Evp.name c rfl ⟨ad.shaped, _, rowsD (shOf rs bw), rfl, rfl, rfl, T.rowsA, 2, by decide, rfl, plain_rows _, fun h => (by cases h), fun _ => ?_⟩)⟩))))
  refine Tst.neSame c (Evp.attr c B (Evp.name c rfl ⟨ad.shaped, _, .bool bw, rfl, rfl, rfl, T.backA, Evp.name c rfl ⟨0, by decide, rfl, rfl, rfl, hk _ (Sub.of rfl rfl ?_)⟩⟩))
  repeat (first | exact lkNil | refine lkCons rfl ?_)
end
end Mine
end

section
set_option linter.unusedVariables false
open PySem PySem.W PyProof.Rows
set_option maxRecDepth 100000
namespace Mine

section
variable {prog : Program} {h0 : Heap} {cx : Cx} {n : Nat} {S₀ : S}
/-- a block of two clauses that keeps nothing -/
noncomputable def Clause2 (prog : Program) (h0 : Heap) (n : Nat) (cx : Cx) (S₀ : S) (scope : Scope) (t1 t2 iter2 tst : PySem.Expr) (ds : List D) : Prop :=
  ∀ cl Lc s₀ C X, let cc := compCx cx scope cl Lc s₀ C X; CxOK h0 n cc → ∀ d, d ∈ ds → Asg prog cc (compS S₀ scope) t1 d fun S' => S'.own = none ∧ (∀ x d, (compS S₀ scope).vars.lookup x = some d → S'.vars.lookup x = some d) ∧
    ∀ C X, let cc := compCx cx scope cl Lc s₀ C X; CxOK h0 n cc → Itr prog cc S' t2 iter2 fun ds2 k => ds2.length ≤ 1000000 ∧ ∀ C X, let cc := compCx cx scope cl Lc s₀ C X; CxOK h0 n cc → ∀ d2, d2 ∈ ds2 → Asg prog cc { S' with cnt := k } t2 d2 fun S'' => S''.own = none ∧ (∀ x d, S'.vars.lookup x = some d → S''.vars.lookup x = some d) ∧ Tst prog cc S'' tst fun b _ => b = false

theorem compStart_two {w : World} {A : Around} {R : Result → Shared → Prop} {s : Shared} {elt t1 it1 t2 it2 : PySem.Expr} {f1 f2 : List PySem.Expr} {scope : Scope} {pos : Pos} {it acc : Value} {env : Env}
    (h0 : codeAny (model prog w) A (.compLoop (.ListComp elt [⟨t1, it1, f1, 0⟩, ⟨t2, it2, f2, 0⟩] scope pos) 1 it acc env) R s)
    (h : wpAny (model prog w) A (pyIter it) (fun it' s' => codeAny (model prog w) A (.compLoop (.ListComp elt [⟨t1, it1, f1, 0⟩, ⟨t2, it2, f2, 0⟩] scope pos) 1 it' acc env) R s') (notedBy (model prog w) A env fun x s' => R (.error x) s') s) :
    codeAny (model prog w) A (.compStart (.ListComp elt [⟨t1, it1, f1, 0⟩, ⟨t2, it2, f2, 0⟩] scope pos) 1 it acc env) R s := by
  refine codeAny_of_tree ?_
  show wpAny _ _ ((compStart (.ListComp elt [⟨t1, it1, f1, 0⟩, ⟨t2, it2, f2, 0⟩] scope pos) 1 it acc env).onRaise (fun x => do noteFrame x env; standAt theWindowsPlace)) _ _ s
  refine wpAny_notedAt ?_
  unfold compStart
  show wpAny _ _ (ask >>= _) _ _ s
  refine wpAny_bind (wpAny_askSetting (wpAny_ite ?_))
  split
  · first
      | exact wpAny_bind (wpAny_pure (wpAny_pure (And.intro rfl h0)))
      | exact wpAny_pure (And.intro rfl h0)
  · first
      | exact wpAny_bind (wpAny_rule (wpAny_bind (wpAny_standAt (wpAny_bind (wpAny_mono h (fun it' s' h' => wpAny_pure (And.intro rfl h')) fun _ _ x => x)))))
      | (refine wpAny_bind (wpAny_rule ?_); show wpAny _ _ (standAt it2.pos >>= _) _ _ s; exact wpAny_bind (wpAny_standAt (wpAny_bind (wpAny_mono h (fun it' s' h' => wpAny_pure (And.intro rfl h')) fun _ _ x => x))))

/-- the outer clause's turn, as a tree -/
noncomputable def outerTree (c : Code) (inner : Value → Code) (t1 it1 it2 : PySem.Expr) (it acc : Value) (env : Env) : Sem Fin := do
  standAt it1.pos
  match ← pyNext it with
  | none => pure (.done .next)
  | some v =>
    letOwnedTupleGo t1 it v
    assign t1 env v
    let x ← eval it2 env
    standAt it2.pos
    let x ← foldedSetIterable it2 env x
    let _ ← runOwn (inner (← holding [x] (pyIter x))) env
    again c
theorem outer_eq (elt t1 it1 t2 it2 : PySem.Expr) (f2 : List PySem.Expr) (scope : Scope) (pos : Pos) (it acc : Value) (env : Env) :
    compTurn (.ListComp elt [⟨t1, it1, [], 0⟩, ⟨t2, it2, f2, 0⟩] scope pos) 0 it acc env = outerTree (.compLoop (.ListComp elt [⟨t1, it1, [], 0⟩, ⟨t2, it2, f2, 0⟩] scope pos) 0 it acc env) (fun i => .compStart (.ListComp elt [⟨t1, it1, [], 0⟩, ⟨t2, it2, f2, 0⟩] scope pos) 1 i acc env) t1 it1 it2 it acc env := by
  first | rfl | (unfold compTurn outerTree; rfl)
theorem comp_two (c₀ : CxOK h0 n cx) {elt t1 t2 it1 it2 tst : PySem.Expr} {scope : Scope} {pos : Pos} {ds : List D} (h : Clause2 prog h0 n cx S₀ scope t1 t2 it2 tst ds) (hs2 : ∀ (env : Env) x, foldedSetIterable it2 env x = pure x)
    {cl : List (Str × Addr)} {wr : Addr → Prop} {I : Addr} : ∀ Dd Lc s₀ C, let cc := compCx cx scope cl Lc s₀ C (fun a => XX cx.X S₀.own a ∨ a = Dd ∨ a = Lc); CxOK h0 n cc → cc.C Dd = none → (∀ a, wr a → cc.C a = none) →
      ∀ J M, Wk prog cc.w cc.A t1 cc.X I wr ds J M → ∀ s R, St (addX cc wr) (compS S₀ scope) s → J 0 s.heap → Acc (fun a => cc.X a ∨ wr a) Dd s.heap [] →
      (∀ h' tk, St cc (compS S₀ scope) { s with heap := h', toks := tk } → Acc cc.X Dd h' [] → (∀ b o, b ≠ cc.env.locals → b ≠ Dd → ¬ wr b → s.heap.get? b = some o → h'.get? b = some o) → R (.ok .next) { s with heap := h', toks := tk }) →
      codeAny (model prog cc.w) cc.A (.compLoop (.ListComp elt [⟨t1, it1, [], 0⟩, ⟨t2, it2, [tst], 0⟩] scope pos) 0 (.ref I) (.ref Dd) cc.env) R s := by
  intro Dd Lc s₀ C cc c hDC hC J M W s R t hJ hacc hR
  have hDX : cc.X Dd := .inr (.inl rfl)
  have hS : (compS S₀ scope).own = none := rfl
  refine codeAny_loop (c := .compLoop (.ListComp elt [⟨t1, it1, [], 0⟩, ⟨t2, it2, [tst], 0⟩] scope pos) 0 (.ref I) (.ref Dd) cc.env) rfl (fun k s' => ∃ i h' tk, s' = { s with heap := h', toks := tk } ∧ k = ds.length + 1 - i ∧ i ≤ ds.length ∧ J i h' ∧ St (addX cc wr) (compS S₀ scope) s' ∧ Acc (fun a => cc.X a ∨ wr a) Dd h' [] ∧
    (∀ b o, b ≠ cc.env.locals → b ≠ Dd → ¬ wr b → s.heap.get? b = some o → h'.get? b = some o)) ?_ (ds.length + 1) ⟨0, s.heap, s.toks, rfl, rfl, Nat.zero_le _, hJ, t, hacc, fun _ _ _ _ _ e => e⟩
  rintro k s' ⟨i, h', tk, rfl, rfl, hi, hJ, t, hacc, hkp⟩
  show wpAny _ _ ((compTurn (.ListComp elt [⟨t1, it1, [], 0⟩, ⟨t2, it2, [tst], 0⟩] scope pos) 0 (.ref I) (.ref Dd) cc.env).onRaise (fun x => do noteFrame x cc.env; theTreesLotGoes x)) _ _ _
  refine wpAny_noted ?_
  rw [outer_eq]
  unfold outerTree
  refine wpAny_bind (wpAny_standAt (wpAny_bind ?_))
  have hw : ∀ a, wr a → ¬ XX cc.X (compS S₀ scope).own a := fun a q => by rw [XX_no _ _ hS]; exact W.wrX a q
  by_cases hlt : i < ds.length
  · have hd : ds[i]? = some ds[i] := by simp [hlt]
    refine W.item i (ds[i]) _ _ _ hd (fun a x => t.live a (.inl x)) hJ fun v h₁ tk₁ rv m hk => ?_
    have t₁ := t.stepW c (tk := tk₁) hk hw hC (W.liveM _ _ _ m)
    refine wpAny_bind (W.go i v _ _ _ m fun h₂ tk₂ j hk₂ => ?_)
    have t₂ := t₁.stepW c (tk := tk₂) hk₂ hw hC (W.liveJ _ _ j)
    have hle := protect_le (X := fun b => b = cc.env.locals) (C := cc.C) (h := h₂) t₂.keep
    have c' : CxOK h0 n { addX cc wr with C := protect cc.C (fun b => b = cc.env.locals) h₂ } := c.comp rfl rfl protect_ge (protect_none rfl c.LC)
    have t₃ : St { addX cc wr with C := protect cc.C (fun b => b = cc.env.locals) h₂ } (compS S₀ scope) _ := t₂.setC hle fun l dl e => by cases e
    have hXadd : XX (addX cc wr).X (compS S₀ scope).own = fun a => cc.X a ∨ wr a := XX_no _ _ hS
    have rv' : Rep (XX (addX cc wr).X (compS S₀ scope).own) h₂ v ds[i] := by
      rw [hXadd]
      exact rv.mono (fun _ y _ _ => y) fun b o nx e => hk₂ b o (fun q => nx (.inr q)) e
    refine wpAny_bind (wpAny_mono (h cl Lc s₀ _ _ c' ds[i] (List.getElem_mem _) _ v t₃ rv') (fun _ s₃ ⟨S₂, t₄, o2, v2, ex⟩ => ?_) fun _ _ x => x.elim)
    have keep₃ : ∀ b o, b ≠ cc.env.locals → h₂.get? b = some o → s₃.heap.get? b = some o := fun b o nb e => t₄.keep b o (protect_has (X := fun b => b = cc.env.locals) (h := h₂) t₂.keep nb e)
    have hDL : Dd ≠ cc.env.locals := by
      obtain ⟨ys, mm, e1, _⟩ := hacc
      obtain ⟨mm', hn', _⟩ := t.ns
      exact fun q => Ns.ne_list hn' e1 q.symm
    let C2 : Addr → Option Obj := protect cc.C (fun b => b = cc.env.locals ∨ b = Dd) h₂
    have hC2 : ∀ b o, C2 b = some o → s₃.heap.get? b = some o := fun b o e => by
      by_cases q : b = cc.env.locals
      · have : C2 b = none := protect_none (.inl q) (q ▸ c.LC)
        rw [e] at this; cases this
      · exact keep₃ b o q (protect_le t₂.keep b o e)
    have c₂ : CxOK h0 n { addX cc wr with C := C2 } := c.comp rfl rfl protect_ge (protect_none (.inl rfl) c.LC)
    have t₅ : St { addX cc wr with C := C2 } S₂ s₃ := t₄.setC hC2 fun l dl e => by rw [o2] at e; cases e
    have X2 : XX ({ addX cc wr with C := C2 } : Cx).X S₂.own = fun a => cc.X a ∨ wr a := by rw [o2]; exact XX_none _
    refine wpAny_bind (wpAny_mono (ex C2 _ c₂ s₃ t₅) (fun x s₄ hx => ?_) fun _ _ x => x.elim)
    refine wpAny_bind (wpAny_standAt ?_)
    rw [hs2]
    refine wpAny_bind (wpAny_pure (wpAny_bind (wpAny_holding (wpAny_mono hx (fun it s₅ ⟨ds2, k2, I2, wr2, e2, t₆, kp₆, W2, hCw2, hfw2, hl2, ex2⟩ => ?_) fun _ _ x => x.elim))))
    subst e2
    obtain ⟨J2, M2, W2, hJ2⟩ := W2 (fun _ => False) (fun _ x => x.elim)
    have kp₆' : ∀ b o, s₃.heap.get? b = some o → s₅.heap.get? b = some o := fun b o e => kp₆.heap b o (by simp [addX]) e
    have kk : ∀ b o, b ≠ cc.env.locals → ¬ wr b → h'.get? b = some o → s₅.heap.get? b = some o := fun b o nb nw e => kp₆' b o (keep₃ b o nb (hk₂ b o nw (hk b o nw e)))
    have acc₅ : Acc (fun a => ({ addX cc wr with C := C2 } : Cx).X a ∨ wr2 a) Dd s₅.heap [] := by
      obtain ⟨ys, mm, e1, r⟩ := hacc
      exact ⟨ys, mm, kk _ _ hDL (fun q => W.wrX _ q hDX) e1, by cases r; exact .nil⟩
    have W2' : Wk prog cc.w cc.A t2 ({ addX cc wr with C := C2 } : Cx).X I2 wr2 ds2 J2 M2 := by
      have : (fun a => XX ({ addX cc wr with C := C2 } : Cx).X S₂.own a ∨ False) = ({ addX cc wr with C := C2 } : Cx).X := by
        rw [X2]; funext a; simp [addX]
      rw [← this]; exact W2
    have hfin : ∀ h₇ tk₇, St { addX cc wr with C := C2 } { S₂ with cnt := k2 } { s₅ with heap := h₇, toks := tk₇ } → Acc ({ addX cc wr with C := C2 } : Cx).X Dd h₇ [] → (∀ b o, b ≠ cc.env.locals → b ≠ Dd → ¬ wr2 b → s₅.heap.get? b = some o → h₇.get? b = some o) →
        wpAny (model prog cc.w) (cc.A.under (.compLoop (.ListComp elt [⟨t1, it1, [], 0⟩, ⟨t2, it2, [tst], 0⟩] scope pos) 0 (.ref I) (.ref Dd) cc.env)) (again (.compLoop (.ListComp elt [⟨t1, it1, [], 0⟩, ⟨t2, it2, [tst], 0⟩] scope pos) 0 (.ref I) (.ref Dd) cc.env)) (fun fin s' => match fin with | .done f => R (.ok f) s' | .again c' => c' = (.compLoop (.ListComp elt [⟨t1, it1, [], 0⟩, ⟨t2, it2, [tst], 0⟩] scope pos) 0 (.ref I) (.ref Dd) cc.env) ∧ ∃ m, m < ds.length + 1 - i ∧ ∃ i h' tk, s' = { s with heap := h', toks := tk } ∧ m = ds.length + 1 - i ∧ i ≤ ds.length ∧ J i h' ∧ St (addX cc wr) (compS S₀ scope) s' ∧ Acc (fun a => cc.X a ∨ wr a) Dd h' [] ∧
          (∀ b o, b ≠ cc.env.locals → b ≠ Dd → ¬ wr b → s.heap.get? b = some o → h'.get? b = some o)) (fun _ _ => False) { s₅ with heap := h₇, toks := tk₇ } := fun h₇ tk₇ t₇ acc₇ kp₇ => by
      have notw2 : ∀ b o, s₃.heap.get? b = some o → ¬ wr2 b := fun b o e q => by rw [hfw2 b q] at e; cases e
      refine wpAny_pure ⟨rfl, ds.length + 1 - (i + 1), by omega, i + 1, h₇, tk₇, ?_, rfl, hlt, W.frame _ _ _ j fun b o nx e => ?_, ?_, acc₇, fun b o n1 n2 n3 e => ?_⟩
      · obtain ⟨h5, tk5, e5⟩ := t₆.rest
        obtain ⟨h1', tk1', e1'⟩ := t.rest
        have := congrArg (fun z : Shared => (z.gens, z.drawn, z.os)) e1'
        simp at this
        obtain ⟨a1, a2, a3⟩ := this
        rw [e5]
        simp [addX, a1, a2, a3]
        exact ⟨rfl, rfl, rfl⟩
      · have nL : b ≠ cc.env.locals := fun q => nx (q ▸ c.LX)
        have e3 := keep₃ b o nL e
        exact kp₇ b o nL (fun q => nx (q ▸ hDX)) (notw2 b o e3) (kp₆' b o e3)
      · exact (t₇.shrink (cx := addX cc wr) (fun b o e => protect_ge b o e) fun _ x => x).forget rfl (S₀ := compS S₀ scope) (hS.trans o2.symm) v2
      · have e3 := keep₃ b o n1 (hk₂ b o n3 (hk b o n3 (hkp b o n1 n2 n3 e)))
        exact kp₇ b o n1 n2 (notw2 b o e3) (kp₆' b o e3)
    have inner : ∀ R2 : Result → Shared → Prop, (∀ h₇ tk₇, St { addX cc wr with C := C2 } { S₂ with cnt := k2 } { s₅ with heap := h₇, toks := tk₇ } → Acc ({ addX cc wr with C := C2 } : Cx).X Dd h₇ [] → (∀ b o, b ≠ cc.env.locals → b ≠ Dd → ¬ wr2 b → s₅.heap.get? b = some o → h₇.get? b = some o) → R2 (.ok .next) { s₅ with heap := h₇, toks := tk₇ }) →
        codeAny (model prog cc.w) cc.A (.compLoop (.ListComp elt [⟨t1, it1, [], 0⟩, ⟨t2, it2, [tst], 0⟩] scope pos) 1 (.ref I2) (.ref Dd) cc.env) R2 s₅ := fun R2 hR2 => by
      have hnil : ([] : List D) ++ ds2.filterMap (fun _ => (none : Option D)) = [] := by simp [List.filterMap_eq_nil_iff]
      refine comp_loop (cc := { addX cc wr with C := C2 }) (iter := it2) (elt := elt) (ifs := [tst]) (e := .ListComp elt [⟨t1, it1, [], 0⟩, ⟨t2, it2, [tst], 0⟩] scope pos) (dep := 1) c₂ rfl rfl (.inl hDX) (show C2 Dd = none from protect_none (X := fun b => b = cc.env.locals ∨ b = Dd) (Or.inr rfl) hDC) W2' hCw2 (fun _ => none) (S₀ := { S₂ with cnt := k2 }) o2 rfl (fun Q E s h => h) t₆ hJ2 acc₅ (by simpa using hl2) (fun cx' hT c'' _ d hd => ?_) (fun h₇ tk₇ a b e => hR2 h₇ tk₇ a (hnil ▸ b) e)
      obtain ⟨C', X', rfl⟩ := hT
      intro sA vA tA rA
      refine wpAny_mono (ex2 C' X' c'' d hd sA vA tA rA) (fun _ sB ⟨S₃, tB, o3, v3, q3⟩ => ⟨S₃, tB, o3, v3, ?_⟩) fun _ _ x => x
      exact q3.mono fun b _ e => by subst e; simp
    refine wpAny_bind (wpAny_runOwn ?_)
    rw [Around.mark_none]
    refine compStart_two (inner _ fun h₇ tk₇ a b e => hfin h₇ tk₇ a b e) (W2'.self 0 _ _ _ hJ2 (inner _ fun h₇ tk₇ a b e => hfin h₇ tk₇ a b e))
  · have hin : i = ds.length := by omega
    subst hin
    refine W.done _ _ _ hJ fun h'' tk' hk => ?_
    refine wpAny_pure (hR h'' tk' (t.unwr c hk hw hC) ?_ fun b o n1 n2 n3 e => hk b o n3 (hkp b o n1 n2 n3 e))
    obtain ⟨ys, m, e1, r⟩ := hacc
    exact ⟨ys, m, hk _ _ (fun q => W.wrX _ q hDX) e1, by cases r; exact .nil⟩
theorem Evp.comp2 (c : CxOK h0 n cx) {elt t1 t2 it1 it2 tst : PySem.Expr} {scope : Scope} {pos : Pos} {Q : D → Nat → Prop}
    (h : Itr prog cx S₀ t1 it1 fun ds k => Clause2 prog h0 n cx S₀ scope t1 t2 it2 tst ds ∧ Q (.list []) k)
    (hf : freeOK scope cx.env = true := by rfl) (hcell : ∀ y ∈ scope.names, y.2 ≠ .cell := by decide) (hkind : scope.kind = .function := by rfl)
    (hnames : ∀ x ∈ scope.names, x.2 = .local → scope.names.lookup x.1 = some .local := by decide) (hs : ∀ x, foldedSetIterable it1 cx.env x = pure x := by intro _; rfl) (hs2 : ∀ (env : Env) x, foldedSetIterable it2 env x = pure x := by intro _ _; rfl) :
    Evp prog cx S₀ (.ListComp elt [⟨t1, it1, [], 0⟩, ⟨t2, it2, [tst], 0⟩] scope pos) Q := fun s t => by
  have hfree : ∀ x ∈ scope.names, x.2 = .free → (cx.env.cells.lookup x.1).isSome = true := fun x hx e => by
    have := List.all_eq_true.mp hf x hx
    simp only [e, bne_self_eq_false, Bool.false_or, Bool.and_eq_true] at this
    exact this.1.2
  obtain ⟨cl, hclos, hcl, hcl2⟩ := closureFor_ok hfree
  rw [eval_ListComp]
  refine wpAny_comprehension_free (use := none) rfl hs hclos hkind hnames (wpAny_mono (h s t) (fun xv s₁ h₁ => wpAny_mono h₁ (fun it s₂ ⟨ds, k, I, wr, e, t₂, k₂, W, hC, hf', hcla, q⟩ => ?_) fun _ _ x => x.elim) fun _ _ x => x.elim)
  subst e
  obtain ⟨J, M, W0, hJ0⟩ := W (fun _ => False) (fun _ x => x.elim)
  refine comp_block (es := []) (rest := [⟨t2, it2, [tst], 0⟩]) c t₂ hC hkind hcell hf hcl hcl2 (W0.liveJ _ _ hJ0) W (comp_two c hcla hs2) (RR := fun acc C => compPost (model prog cx.w) cx.A _ none _ acc C) fun Dd Lc h' tk m' hD hL hDL hn ac kp => ?_
  refine ⟨m', hn, fun h'' hs'' => ?_⟩
  have hw : ∀ a, wr a → ¬ XX cx.X S₀.own a := fun a q x => W0.wrX a q (.inl x)
  have kp' : ∀ b o, ¬ wr b → s₂.heap.get? b = some o → h''.get? b = some o := fun b o nw e => hs''.extBut b o (fun q => by subst q; rw [hL] at e; cases e) (kp b o nw e)
  obtain ⟨ys, mm, e1, r1⟩ := ac
  refine ⟨.list [], k, t₂.unwr (tk := tk) c kp' hw hC, ?_, .list (fun x => ?_) (hs''.extBut _ _ hDL e1) (by cases r1; exact .nil), q⟩
  · obtain ⟨h2, tk2, e2, hk2⟩ := k₂
    refine ⟨h'', tk, by rw [e2], fun b o np e => kp' b o (fun q => by rw [hf' b q] at e; cases e) (by rw [e2]; exact hk2 b o np e)⟩
  · obtain ⟨o, e⟩ := t₂.liveXX Dd (x.elim (fun x => .inl (.inl x)) .inr)
    rw [hD] at e; cases e
end

section
variable {prog : Program} {h0 : Heap} {K : Frag} {ad : Ads} {n : Nat} {w : World} {A : Around} {Lc f : Addr} {cdv : Value} {s0 : Shared} {C : Addr → Option Obj} {X : Addr → Prop} {p : Addr} {E : Value → Shared → Prop} {Kk : S → Prop} {R : D → S → Prop}
theorem law_16 (B : Top0 K h0) (T : TopOK K ad) (c : CxOK h0 (n + 6) (lawCx w A Lc f cdv s0 C X (some p))) {rs : List Row} {last L : Int} (bw : Bool) {k : Nat} (g : Gen rs last)
    (hk : ∀ S', Sub (S7 ad p rs bw L k) S' → Kk S') : Exp prog (lawCx w A Lc f cdv s0 C X (some p)) E (S13 ad p rs bw L k) (stAt (bodyOf lawSt) 16) Kk R := by
  refine Exp.ifFalse (Tst.neSame c (Evp.comp2 c (Itr.list c (Evp.name c rfl ⟨_, rfl, fun cl Lc s₀ C X c' d hd => ?_, Evp.list c (Evs.nil ⟨by simp, 1, by decide, rfl, rfl, rfl, hk _ (Sub.of rfl rfl ?_)⟩)⟩))))
  · obtain ⟨r, hr, rfl⟩ := List.mem_map.mp hd
    obtain ⟨q, hq, rfl⟩ := List.mem_map.mp hr
    refine Asg.name c' (.inl rfl) ⟨rfl, fun y e z => ?_, fun C X c'' => Itr.list c'' (Evp.attr c'' B (Evp.name c'' rfl ⟨ad.shaped, _, rowsD (cutOf (shOf rs bw) q.1 q.2), rfl, rfl, rfl, T.rowsA, _, rfl, ?_, fun C X c3 d2 hd2 => ?_⟩))⟩
    · change ([] : List (Str × D)).lookup y = some e at z
      cases z
    · have := (g.okSh bw).len
      have h2 : (cutOf (shOf rs bw) q.1 q.2).length ≤ (shOf rs bw).length := by
        unfold cutOf
        rw [List.length_map]
        exact List.length_filter_le _ _
      rw [List.length_map]; omega
    · obtain ⟨y, hy, rfl⟩ := List.mem_map.mp hd2
      have hn := cut_nonneg y hy
      refine Asg.name c3 (.inl rfl) ⟨rfl, fun z e hz => ?_, Tst.cmpI c3 (Evp.itemT c3 (Evp.name c3 rfl (Evp.cint c3 ⟨_, 1, 1, _, rfl, rfl, by decide, by decide, rfl, rfl, _, rfl, Evp.cint c3 ⟨0, rfl, ?_⟩⟩)))⟩
      · change ([("piece", shapedD ad.shaped (cutOf (shOf rs bw) q.1 q.2) bw)] : List (Str × D)).lookup z = some e at hz
        show ((("row", Row.d y) :: ("piece", shapedD ad.shaped (cutOf (shOf rs bw) q.1 q.2) bw) :: []) : List (Str × D)).lookup z = some e
        rw [lookup_cons]
        by_cases qz : z = "row"
        · subst qz; cases hz
        · rw [if_neg qz]; exact hz
      · simp [cmpI]; omega
  · repeat (first | exact lkNil | refine lkCons rfl ?_)
end
end Mine
end

section
set_option linter.unusedVariables false
open PySem PySem.W PyProof.Rows
set_option maxRecDepth 100000
namespace Mine

noncomputable def tv (w : Wsh) : D := .tup [.str w.tag, .int w.v]
theorem hears_iff {w : Wsh} {s : Int} : hears w s = true ↔ w.b ≤ s ∧ (w.e < 0 ∨ s < w.e) := by
  unfold hears; simp [cmpI]
theorem isWhole_iff {w : Wsh} : isWhole w = true ↔ w.b = 0 ∧ w.e = -1 := by
  unfold isWhole; simp
theorem clip_one {b e s : Int} (h0 : 0 ≤ b) (h1 : b ≤ s) (h2 : s < e) (w : Wsh) :
    ((clip b e w).toList.filter fun y => hears y (s - b)).map tv = if hears w s then [tv w] else [] := by
  unfold clip
  by_cases hw : isWhole w = true
  · rw [if_pos hw]
    obtain ⟨q1, q2⟩ := isWhole_iff.mp hw
    have a1 : hears w (s - b) = true := hears_iff.mpr ⟨by omega, by omega⟩
    have a2 : hears w s = true := hears_iff.mpr ⟨by omega, by omega⟩
    rw [if_pos a2]
    simp [a1]
  · rw [if_neg hw]
    generalize hl : (if cmpI .Lt w.e 0 = true then e else min w.e e) = last
    have hlast : (w.e < 0 → last = e) ∧ (¬ w.e < 0 → last = min w.e e) := by
      constructor
      · intro q; rw [← hl, if_pos (by simp [cmpI, q])]
      · intro q; rw [← hl, if_neg (by simp [cmpI]; omega)]
    have hM : max w.b b ≤ s ↔ w.b ≤ s := ⟨fun y => Int.le_trans (Int.le_max_left ..) y, fun y => Int.max_le.mpr ⟨y, h1⟩⟩
    have hL : s < last ↔ (w.e < 0 ∨ s < w.e) := by
      by_cases q : w.e < 0
      · rw [hlast.1 q]; exact ⟨fun _ => .inl q, fun _ => h2⟩
      · rw [hlast.2 q, Int.lt_min]; exact ⟨fun x => .inr x.1, fun x => ⟨x.resolve_left q, h2⟩⟩
    clear hlast hl
    by_cases hc : cmpI .Lt (max w.b b) last = true
    · rw [if_pos hc]
      have hlt : max w.b b < last := by simpa [cmpI] using hc
      have key : hears ({ w with b := max w.b b - b, e := last - b } : Wsh) (s - b) = hears w s := by
        rw [Bool.eq_iff_iff, hears_iff, hears_iff, ← hM, ← hL]
        show max w.b b - b ≤ s - b ∧ (last - b < 0 ∨ s - b < last - b) ↔ _
        have hb : b < last := Int.lt_of_le_of_lt (Int.le_max_right ..) hlt
        generalize max w.b b = M
        exact ⟨fun ⟨x, y⟩ => ⟨Int.le_of_sub_le_sub_right x, y.elim (fun y => absurd y (by omega)) Int.lt_of_sub_lt_sub_right⟩, fun ⟨x, y⟩ => ⟨Int.sub_le_sub_right x b, .inr (Int.sub_lt_sub_right y b)⟩⟩
      by_cases hh : hears w s = true
      · rw [if_pos hh]
        simp [key, hh]; rfl
      · rw [if_neg hh]
        simp [key, hh]
    · rw [if_neg hc]
      have hge : ¬ max w.b b < last := by simpa [cmpI] using hc
      have hh : ¬ hears w s = true := fun z => by
        obtain ⟨x, y⟩ := hears_iff.mp z
        exact hge (Int.lt_of_le_of_lt (hM.mpr x) (hL.mpr y))
      rw [if_neg hh]; rfl
/-- what is heard in a piece is what is heard in the whole -/
theorem heard_law {b e s : Int} (h0 : 0 ≤ b) (h1 : b ≤ s) (h2 : s < e) : ∀ ws : List Wsh, ((withinOf ws b e).filter fun y => hears y (s - b)).map tv = (ws.filter fun y => hears y s).map tv
  | [] => rfl
  | w :: ws => by
    have e1 : withinOf (w :: ws) b e = (clip b e w).toList ++ withinOf ws b e := by
      unfold withinOf
      rw [List.filterMap_cons]
      cases clip b e w <;> rfl
    rw [e1, List.filter_append, List.map_append, heard_law h0 h1 h2 ws, clip_one h0 h1 h2, List.filter_cons]
    by_cases hh : hears w s = true
    · rw [if_pos hh, if_pos hh]; rfl
    · rw [if_neg hh, if_neg hh]; rfl
theorem own_law {b e : Int} {ws : List Wsh} : ∀ y ∈ withinOf ws b e, isWhole y = true ∨ (0 ≤ y.b ∧ y.b < y.e ∧ y.e ≤ e - b) := fun y hy => by
  unfold withinOf at hy
  obtain ⟨w, hw, hc⟩ := List.mem_filterMap.mp hy
  unfold clip at hc
  by_cases hh : isWhole w = true
  · rw [if_pos hh] at hc; cases hc; exact .inl hh
  · rw [if_neg hh] at hc
    right
    generalize hl : (if cmpI .Lt w.e 0 = true then e else min w.e e) = last at hc
    have hlast : last ≤ e := by
      rw [← hl]; split <;> omega
    by_cases q : cmpI .Lt (max w.b b) last = true
    · rw [if_pos q] at hc; cases hc
      have : max w.b b < last := by simpa [cmpI] using q
      show 0 ≤ max w.b b - b ∧ max w.b b - b < last - b ∧ last - b ≤ e - b
      omega
    · rw [if_neg q] at hc; cases hc
/-- a wish as the law makes it -/
structure WOK (w : Wsh) : Prop where
  tag : PyData.strOk w.tag = true
theorem plain_tv {ws : List Wsh} (h : ∀ w ∈ ws, WOK w) (P : Wsh → Bool) : plain 2 (.list ((ws.filter P).map tv)) = true := by
  simp only [plain, List.all_map, List.all_eq_true]
  intro w hw
  have := (h w (List.mem_filter.mp hw).1).tag
  simp [tv, plain, this]
end Mine
end

section
set_option linter.unusedVariables false
open PySem PySem.W PyProof.Rows
set_option maxRecDepth 100000
namespace Mine

theorem tag_ok {u : Int} (h0 : 0 ≤ u) (h1 : u < 3) : PyData.strOk ((("t" : Str) ++ (toString u : Str)) ++ ("xx" : Str)) = true ∧ (toString u : Str).length ≤ 10 := by
  have : u = 0 ∨ u = 1 ∨ u = 2 := by omega
  rcases this with rfl | rfl | rfl <;> exact ⟨by decide +kernel, by decide +kernel⟩
section
variable {prog : Program} {h0 : Heap} {K : Frag} {ad : Ads} {n : Nat} {w : World} {A : Around} {Lc f : Addr} {cdv : Value} {s0 : Shared} {C : Addr → Option Obj} {X : Addr → Prop} {p : Addr} {E : Value → Shared → Prop} {Kk : S → Prop} {R : D → S → Prop}
/-- the state behind the wishes -/
noncomputable def S18 (ad : Ads) (p : Addr) (rs : List Row) (bw : Bool) (L : Int) (ws : List Wsh) (k : Nat) : S := { S7 ad p rs bw L k with vars := ("wishes", .list (ws.map (Wsh.d ad.wish))) :: (S7 ad p rs bw L k).vars }
theorem law_18 (B : Top0 K h0) (T : TopOK K ad) (c : CxOK h0 (n + 6) (lawCx w A Lc f cdv s0 C X (some p))) {rs : List Row} {L : Int} (bw : Bool) {k : Nat} (hL : 0 < L ∧ L ≤ 100) (hk' : k ≤ 100)
    (hk : ∀ ws k', ws.length ≤ 3 → (∀ w ∈ ws, WOK w) → k' ≤ k + 20 → Exps prog (lawCx w A Lc f cdv s0 C X (some p)) E (S18 ad p rs bw L ws k') ((bodyOf lawSt).drop 19) Kk R) :
    Exps prog (lawCx w A Lc f cdv s0 C X (some p)) E (S7 ad p rs bw L k) ((bodyOf lawSt).drop 17) Kk R := by
  have G := T.G
  refine Exps.cons (Exp.newOwn c (.inl rfl) rfl fun l hlX => ?_)
  let canon : List Wsh × Nat → S := fun b => { vars := ("wishes", .raw (.ref l)) :: (S7 ad p rs bw L k).vars, own := some (l, b.1.map (Wsh.d ad.wish)), cnt := b.2 }
  refine Exps.cons (Exp.forX encI c (Itr.rng c (Evp.callT c B (G.bl "range" (by decide)) boot_range (by decide) (Evs.cons c (Evp.draw c B G T.f29 rfl rfl (Evp.cint c ⟨4, rfl, by decide, by decide, by show k + 1 ≤ 1000; omega, fun v v0 v1 => Evs.nil ⟨_, call_range1, 0, v.toNat, ?_, by decide, by decide, by omega, rint 0 v.toNat, canon, fun i b => b.1.length = i ∧ (∀ w ∈ b.1, WOK w) ∧ b.2 ≤ k + 1 + 4 * i, ([], k + 1), rint_enc _ _, fun b => XX_own, Sub.of rfl rfl ?_, ⟨rfl, fun w hw => (by cases hw), by show k + 1 ≤ k + 1 + 4 * 0; omega⟩, fun C' X' c' i y b hy hb => ?_, fun S' b hS hb => ?_⟩⟩))) rfl)))
  · show D.rng 0 v = D.rng 0 (0 + (v.toNat : Int))
    congr 1; omega
  · repeat (first | exact lkNil | refine lkCons rfl ?_)
  · have hyr : 0 ≤ y ∧ y < 0 + (v.toNat : Int) := mem_rint.mp (List.mem_of_getElem? hy)
    have hi : i < v.toNat := by
      have := (List.getElem?_eq_some_iff.mp hy).1
      rwa [rint_len] at this
    obtain ⟨ws, k₁⟩ := b
    obtain ⟨b1, b2, b3⟩ := hb
    replace b1 : ws.length = i := b1
    replace b2 : ∀ w ∈ ws, WOK w := b2
    replace b3 : k₁ ≤ k + 1 + 4 * i := b3
    have htag := tag_ok hyr.1 (show y < 3 by omega)
    refine Asg.name c' (.inl rfl) ?_
    refine Exps.cons (Exp.assign c' (.inr ⟨rfl, rfl, rfl⟩) (Evp.draw c' B G T.f29 rfl rfl (Evp.name c' rfl ⟨L, rfl, hL.1, by omega, by show k₁ + 1 ≤ 1000; omega, fun bg g0 g1 => ?_⟩)))
    refine Exps.cons (Exp.append c' (l := l) (ds := ws.map (Wsh.d ad.wish)) rfl rfl (by simp; omega) ?_)
    refine Evp.callFn c' B T.gWish T.kWish (Evs.cons c' (Evp.bin c' (Evp.bin c' (Evp.cstr c' (Evp.callT c' B (G.bl "str" (by decide)) boot_str (by decide) (Evs.cons c' (Evp.name c' rfl (Evs.nil ⟨_, call_str ?_, _, op_addstr ?_, Evp.cstr c' ⟨_, op_addstr ?_, ?_⟩⟩))) rfl))))) rfl
    · have : y.natAbs < 3 := by omega
      exact Nat.lt_of_le_of_lt (Nat.log2_le_self _) (by omega)
    · have := htag.2
      show 1 + _ ≤ 1000000
      omega
    · have := htag.2
      rw [show ((("t" : Str) ++ (toString y : Str)).length) = 1 + (toString y : Str).length from PySem.Str.length_append _ _]
      show 1 + _ + 2 ≤ 1000000
      omega
    refine Evs.cons c' (Evp.draw c' B G T.f29 rfl rfl (Evp.cint c' ⟨3, rfl, by decide, by decide, by show k₁ + 1 + 1 ≤ 1000; omega, fun u u0 u1 => ?_⟩))
    refine Evs.cons c' (Evp.name c' rfl ?_)
    refine Evs.cons c' (Evp.itemL c' (Evp.list c' (Evs.cons c' (Evp.un c' (Evp.cint c' ⟨_, op_neg, Evs.cons c' (Evp.bin c' (Evp.name c' rfl (Evp.draw c' B G T.f29 rfl rfl (Evp.cint c' ⟨5, rfl, by decide, by decide, by show k₁ + 1 + 1 + 1 ≤ 1000; omega, fun z z0 z1 => ⟨_, op_add, Evs.nil ⟨by simp, ?_⟩⟩⟩))))⟩)))))
    refine Evp.draw c' B G T.f29 rfl rfl (Evp.cint c' ⟨2, rfl, by decide, by decide, by show k₁ + 1 + 1 + 1 + 1 ≤ 1000; omega, fun x x0 x1 => ?_⟩)
    refine ⟨[.int (-1), .int (bg + z)], x, .int ([-1, bg + z].getD x.toNat 0), rfl, rfl, by simp, by simp; omega, by simp; omega, ?_, Evs.nil ⟨_, 2, by omega, T.makeWish B _ _ _ _, ?_⟩⟩
    · rw [if_neg (by omega)]
      have : x = 0 ∨ x = 1 := by omega
      rcases this with rfl | rfl <;> rfl
    refine Exps.nil ⟨(ws ++ [⟨("t" : Str) ++ (toString y : Str) ++ ("xx" : Str), u, bg, [-1, bg + z].getD x.toNat 0⟩], k₁ + 1 + 1 + 1 + 1), ⟨by simp [b1], fun w hw => ?_, by show k₁ + 1 + 1 + 1 + 1 ≤ k + 1 + 4 * (i + 1); omega⟩, Sub.of ?_ rfl ?_⟩
    · rcases List.mem_append.mp hw with q | q
      · exact b2 w q
      · rw [List.mem_singleton.mp q]; exact ⟨htag.1⟩
    · show some (l, (ws ++ [_]).map (Wsh.d ad.wish)) = _
      rw [List.map_append]; rfl
    · repeat (first | exact lkNil | refine lkCons rfl ?_)
  · obtain ⟨ws, k₁⟩ := b
    obtain ⟨b1, b2, b3⟩ := hb
    rw [rint_len] at b1 b3
    replace b1 : ws.length = v.toNat := b1
    replace b3 : k₁ ≤ k + 1 + 4 * v.toNat := b3
    refine Exps.sub (S' := canon (ws, k₁)) (Exps.freeze (x := "wishes") (l := l) (ds := ws.map (Wsh.d ad.wish)) rfl hlX rfl ?_) hS
    refine Exps.sub (hk ws k₁ (by omega) b2 (by omega)) (Sub.of rfl rfl ?_)
    repeat (first | exact lkNil | refine lkCons rfl ?_)
end
end Mine
end

section
set_option linter.unusedVariables false
open PySem PySem.W PyProof.Rows
set_option maxRecDepth 100000
namespace Mine

section
variable {prog : Program} {h0 : Heap} {K : Frag} {ad : Ads} {n : Nat} {w : World} {A : Around} {Lc f : Addr} {cdv : Value} {s0 : Shared} {C : Addr → Option Obj} {X : Addr → Prop} {p : Addr} {E : Value → Shared → Prop} {Kk : S → Prop} {R : D → S → Prop}
theorem law_19 (B : Top0 K h0) (T : TopOK K ad) (c : CxOK h0 (n + 6) (lawCx w A Lc f cdv s0 C X (some p))) {rs : List Row} {last L : Int} (bw : Bool) {ws : List Wsh} {k : Nat} (g : Gen rs last) (hL : 0 < L ∧ L ≤ 100) (hw3 : ws.length ≤ 3) (hws : ∀ w ∈ ws, WOK w)
    (hk : ∀ S', Sub (S7 ad p rs bw L k) S' → Kk S') : Exp prog (lawCx w A Lc f cdv s0 C X (some p)) E (S18 ad p rs bw L ws k) (stAt (bodyOf lawSt) 19) Kk R := by
  have G := T.G
  have hpl := places_cons (L := L) g
  have hsm := places_small (L := L) g
  have hst := T.stretches (prog := prog) B (ps := placesOf rs L) (L := L) (by omega) hsm (by rw [ssort_places]; exact cuts_good rs L)
  rw [ssort_places] at hst
  refine Exp.forC encII c (Itr.list c (Evp.callFn c B T.f18.glob T.f18.keep (Evs.cons c (Evp.name c rfl (Evs.cons c (Evp.name c rfl (Evs.nil ⟨_, 1, by omega, hst, _, rfl, piecesOf (placesOf rs L) L, fun _ => S18 ad p rs bw L ws k, rfl, fun i => rfl, Sub.refl _, fun C' X' c' i q hq => ?_, fun S' hS => hk S' ?_⟩))))) rfl))
  rotate_left
  · refine ⟨hS.1, hS.2.1, fun x d e => hS.2.2 x d ?_⟩
    show ((("wishes" : Str), D.list (ws.map (Wsh.d ad.wish))) :: (S7 ad p rs bw L k).vars).lookup x = some d
    rw [lookup_cons]
    by_cases q : x = "wishes"
    · subst q; cases e
    · rw [if_neg q]; exact e
  obtain ⟨bg, e⟩ := q
  have hq' := piece_mem hL.1 (bg, e) (List.mem_of_getElem? hq)
  obtain ⟨p1, p2, p3, _⟩ := hq'
  replace p1 : 0 ≤ bg := p1
  replace p2 : bg < e := p2
  replace p3 : e ≤ L := p3
  have hwl : (withinOf ws bg e).length ≤ 3 := Nat.le_trans (List.length_filterMap_le _ _) hw3
  refine Asg.pair c' (.inr ⟨rfl, rfl, rfl⟩) (.inr ⟨rfl, rfl, rfl⟩) ?_
  refine Exps.cons (Exp.assign c' (.inl rfl) (Evp.callFn c' B T.f19.glob T.f19.keep (Evs.cons c' (Evp.callT c' B (G.bl "tuple" (by decide)) boot_tuple (by decide) (Evs.cons c' (Evp.name c' rfl (Evs.nil ⟨_, call_tuple (by simp; omega), Evs.cons c' (Evp.name c' rfl (Evs.cons c' (Evp.name c' rfl (Evs.nil ⟨_, 3, by omega, T.within B ws (by omega) bg e, ?_⟩))))⟩))) rfl)) rfl))
  let mid : S := { S7 ad p rs bw L k with vars := ("own", .tup ((withinOf ws bg e).map (Wsh.d ad.wish))) :: ("end", .int e) :: ("begin", .int bg) :: (S18 ad p rs bw L ws k).vars }
  have hmid : ∀ S', Sub mid S' → Sub (S18 ad p rs bw L ws k) S' := fun S' hS => ⟨hS.1, hS.2.1, fun x d q => hS.2.2 x d (by
    show ((("own" : Str), D.tup ((withinOf ws bg e).map (Wsh.d ad.wish))) :: (("end" : Str), D.int e) :: (("begin" : Str), D.int bg) :: (S18 ad p rs bw L ws k).vars).lookup x = some d
    have h1 : x ≠ "own" := fun z => by subst z; cases q
    have h2 : x ≠ "end" := fun z => by subst z; cases q
    have h3 : x ≠ "begin" := fun z => by subst z; cases q
    rw [lookup_cons, if_neg h1, lookup_cons, if_neg h2, lookup_cons, if_neg h3]; exact q)⟩
  refine Exps.cons (Exp.forC encI c' (Itr.rng c' (Evp.callT c' B (G.bl "range" (by decide)) boot_range (by decide) (Evs.cons c' (Evp.name c' rfl (Evs.cons c' (Evp.name c' rfl (Evs.nil ⟨_, call_range2, bg, (e - bg).toNat, ?_, by omega, by omega, by omega, rint bg (e - bg).toNat, fun _ => mid, rint_enc _ _, fun i => rfl, Sub.of rfl rfl ?_, fun C' X' c'' i sg hsg => ?_, fun S' hS => ?_⟩))))) rfl)))
  · show D.rng bg e = D.rng bg (bg + ((e - bg).toNat : Int))
    congr 1; omega
  · repeat (first | exact lkNil | refine lkCons rfl ?_)
  · have hsr : bg ≤ sg ∧ sg < bg + ((e - bg).toNat : Int) := mem_rint.mp (List.mem_of_getElem? hsg)
    have law := heard_law (b := bg) (e := e) (s := sg) p1 hsr.1 (by omega) ws
    refine Asg.name c'' (.inr ⟨rfl, rfl, rfl⟩) ?_
    refine Exps.cons (Exp.assignComp c'' (CompRes.c1 (encW ad.wish) (Itr.tup c'' (Evp.name c'' rfl ⟨_, rfl, withinOf ws bg e, fun y => hears y (sg - bg), tv, rfl, by omega, fun cl Lc s₀ C X c3 y hy => ?_, fun cl Lc s₀ C X c3 y hy hb k => ?_, ?_⟩))) (.inl rfl))
    · exact Tst.plain c3 (Evp.callFn c3 B T.f32.glob T.f32.keep (Evs.cons c3 (Evp.name c3 rfl (Evs.cons c3 (Evp.bin c3 (Evp.name c3 rfl (Evp.name c3 rfl ⟨_, op_sub, Evs.nil ⟨_, 1, by omega, T.hears B y (sg - bg), _, Tru.bool _, rfl⟩⟩)))))) rfl)
    · exact Evp.tuple c3 (Evs.cons c3 (Evp.attr c3 B (Evp.name c3 rfl ⟨ad.wish, _, .str y.tag, rfl, rfl, rfl, T.wish.tag, Evs.cons c3 (Evp.attr c3 B (Evp.name c3 rfl ⟨ad.wish, _, .int y.v, rfl, rfl, rfl, T.wish.value, Evs.nil ⟨by simp, rfl⟩⟩))⟩)))
    rw [law]
    refine Exps.cons (Exp.ifFalse (Tst.neSame c'' (Evp.name c'' rfl ?_)))
    refine Evp.comp1 (encW ad.wish) c'' (Itr.list c'' (Evp.name c'' rfl ⟨_, rfl, ws, fun y => hears y sg, tv, rfl, by omega, fun cl Lc s₀ C X c3 y hy => ?_, fun cl Lc s₀ C X c3 y hy hb k => ?_, 2, by decide, rfl, plain_tv hws _, rfl, ?_⟩))
    · exact Tst.plain c3 (Evp.callFn c3 B T.f32.glob T.f32.keep (Evs.cons c3 (Evp.name c3 rfl (Evs.cons c3 (Evp.name c3 rfl (Evs.nil ⟨_, 1, by omega, T.hears B y sg, _, Tru.bool _, rfl⟩))))) rfl)
    · exact Evp.tuple c3 (Evs.cons c3 (Evp.attr c3 B (Evp.name c3 rfl ⟨ad.wish, _, .str y.tag, rfl, rfl, rfl, T.wish.tag, Evs.cons c3 (Evp.attr c3 B (Evp.name c3 rfl ⟨ad.wish, _, .int y.v, rfl, rfl, rfl, T.wish.value, Evs.nil ⟨by simp, rfl⟩⟩))⟩)))
    refine Exps.nil (Sub.of rfl rfl ?_)
    repeat (first | exact lkNil | refine lkCons rfl ?_)
  refine Exps.sub (S' := mid) (Exps.cons (Exp.ifFalse (Tst.neSame c' (Evp.comp1 (encW ad.wish) c' (Itr.tup c' (Evp.name c' rfl ⟨_, rfl, withinOf ws bg e, fun _ => false, fun y => y.d ad.wish, rfl, by omega, fun cl Lc s₀ C X c3 y hy => ?_, fun cl Lc s₀ C X c3 y hy hb k => (by cases hb), Evp.list c' (Evs.nil ⟨by simp, 1, by decide, ?_, ?_, rfl, Exps.nil (hmid _ (Sub.refl _))⟩)⟩)))))) hS
  · refine Tst.and2 (Tst.not (Tst.plain c3 (Evp.method0 c3 B (Evp.name c3 rfl ⟨ad.wish, _, ad.isWhole, _, 1, rfl, rfl, T.wish.whole, by omega, T.whole B y, _, Tru.bool _, fun h => rfl, fun h => ?_⟩) rfl)))
    have hnw : isWhole y = false := by simpa using h
    have hb := (own_law y hy).resolve_left (by rw [hnw]; simp)
    refine Tst.not (Tst.chain c3 (Evp.cint c3 (Chn.link c3 (Evp.attr c3 B (Evp.name c3 rfl ⟨ad.wish, _, .int y.b, rfl, rfl, rfl, T.wish.begin, _, op_cmpI (op := .LtE) rfl, ?_⟩)))))
    rw [show cmpI .LtE 0 y.b = true by simp [cmpI, hb.1], if_pos rfl]
    refine Chn.link c3 (Evp.attr c3 B (Evp.name c3 rfl ⟨ad.wish, _, .int y.e, rfl, rfl, rfl, T.wish.end, _, op_cmpI (op := .Lt) rfl, ?_⟩))
    rw [show cmpI .Lt y.b y.e = true by simp [cmpI, hb.2.1], if_pos rfl]
    refine Chn.last c3 (Evp.bin c3 (Evp.name c3 rfl (Evp.name c3 rfl ⟨_, op_sub, _, op_cmpI (op := .LtE) rfl, ?_⟩)))
    simp [cmpI, hb.2.2]
  · simp
  · simp [plain]
end
end Mine
end

section
set_option linter.unusedVariables false
open PySem PySem.W PyProof.Rows
set_option maxRecDepth 100000
namespace Mine

theorem adv_sh (rs : List Row) (bw : Bool) (b e : Int) : advOf (shOf rs bw) b e = advOf rs b e := by
  unfold advOf shOf
  cases bw with
  | false => rfl
  | true =>
    simp only [if_true]
    rw [List.filter_reverse, List.map_reverse, List.sum_reverse]
theorem cand_sh (rs : List Row) (bw : Bool) (L b : Int) : lineCand (shOf rs bw) L b = lineCand rs L b := by
  unfold lineCand; rw [places_sh]
theorem lineEnd_sh (rs : List Row) (bw : Bool) (L b W : Int) : lineEndOf (shOf rs bw) L b W = lineEndOf rs L b W := by
  have h : lineNarrow (shOf rs bw) L b W = lineNarrow rs L b W := by
    unfold lineNarrow
    rw [cand_sh]
    refine List.filter_congr fun p _ => ?_
    rw [adv_sh]
  unfold lineEndOf
  rw [h, cand_sh]
theorem lines_sh (rs : List Row) (bw : Bool) (L W : Int) : ∀ (k : Nat) (b : Int), linesGo (shOf rs bw) L W k b = linesGo rs L W k b
  | 0, _ => rfl
  | k + 1, b => by
    unfold linesGo
    rw [lineEnd_sh, lines_sh rs bw L W k]
/-- the lines of the text -/
noncomputable def linesL (rs : List Row) (L W : Int) : List (Int × Int) := linesGo rs L W L.toNat 0
theorem linesGo_step {rs : List Row} {L W b : Int} {k : Nat} (hb : b < L) : linesGo rs L W (k + 1) b = (b, lineEndOf rs L b W) :: linesGo rs L W k (lineEndOf rs L b W) := by
  show (if b < L then _ else _) = _
  rw [if_pos hb]
theorem linesGo_end {rs : List Row} {L W b : Int} (k : Nat) (hb : ¬ b < L) : linesGo rs L W k b = [] := by
  cases k with
  | zero => rfl
  | succ k =>
    show (if b < L then _ else _) = _
    rw [if_neg hb]
theorem ends_gt {rs : List Row} {L W b : Int} (hb : b < L) : b < lineEndOf rs L b W ∧ lineEndOf rs L b W ≤ L := lineEnd_gt hb fun p hp => (places_lt hp).2
theorem linesGo_mem {rs : List Row} {L W : Int} : ∀ {k : Nat} {b : Int}, ∀ q ∈ linesGo rs L W k b, b ≤ q.1 ∧ q.1 < L ∧ q.2 = lineEndOf rs L q.1 W
  | 0, _, q, hq => by cases hq
  | k + 1, b, q, hq => by
    by_cases h : b < L
    · rw [linesGo_step h] at hq
      rcases List.mem_cons.mp hq with rfl | hq
      · exact ⟨Int.le_refl _, h, rfl⟩
      · have := linesGo_mem q hq
        have h2 := (ends_gt (rs := rs) (W := W) h).1
        exact ⟨by omega, this.2⟩
    · rw [linesGo_end _ h] at hq; cases hq
/-- the lines follow one upon the other, up to the end -/
theorem linesGo_chain {rs : List Row} {L W : Int} : ∀ {k : Nat} {b : Int}, b < L → (L - b).toNat ≤ k →
    (linesGo rs L W k b).map (·.1) = b :: ((linesGo rs L W k b).take ((linesGo rs L W k b).length - 1)).map (·.2) ∧ ∃ q, (linesGo rs L W k b)[(linesGo rs L W k b).length - 1]? = some q ∧ q.2 = L
  | 0, b, h, hk => by omega
  | k + 1, b, h, hk => by
    rw [linesGo_step h]
    have hg := ends_gt (rs := rs) (W := W) h
    generalize hx : lineEndOf rs L b W = x at hg ⊢
    by_cases q : x < L
    · obtain ⟨i1, y, i2, i3⟩ := linesGo_chain (rs := rs) (W := W) (k := k) q (by omega)
      have hne : (linesGo rs L W k x).length ≠ 0 := fun z => by
        have := congrArg List.length i1
        simp [z] at this
      generalize hl : linesGo rs L W k x = l at i1 i2 hne ⊢
      obtain ⟨m, hm⟩ : ∃ m, l.length = m + 1 := ⟨l.length - 1, by omega⟩
      rw [hm] at i1 i2
      simp only [Nat.add_sub_cancel] at i1 i2
      refine ⟨?_, y, ?_, i3⟩
      · rw [List.map_cons, i1, List.length_cons, hm, Nat.add_sub_cancel, List.take_succ_cons, List.map_cons]
      · rw [List.length_cons, hm, Nat.add_sub_cancel, List.getElem?_cons_succ]
        exact i2
    · have hxL : x = L := by omega
      rw [linesGo_end _ q]
      exact ⟨rfl, (b, x), rfl, hxL⟩
theorem linesL_chain {rs : List Row} {L W : Int} (hL : 0 < L) : (linesL rs L W).map (·.1) = 0 :: ((linesL rs L W).take ((linesL rs L W).length - 1)).map (·.2) ∧ ∃ q, (linesL rs L W)[(linesL rs L W).length - 1]? = some q ∧ q.2 = L :=
  linesGo_chain hL (by omega)
theorem linesL_len {rs : List Row} {L W : Int} : (linesL rs L W).length ≤ L.toNat := linesGo_len _ _ _ _ _
/-- a line that is too wide has but one stretch -/
theorem wide_law {rs : List Row} {L W b : Int} (hb : b < L) (hw : advOf rs b (lineEndOf rs L b W) > W) : lineEndOf rs L b W = (lineCand rs L b).headD 0 := by
  have hE : lineEndOf rs L b W = if cmpI .Gt ((lineNarrow rs L b W).length : Int) 0 then lmax (lineNarrow rs L b W) else (lineCand rs L b).headD 0 := rfl
  by_cases q : cmpI .Gt ((lineNarrow rs L b W).length : Int) 0 = true
  · rw [if_pos q] at hE
    have hne : lineNarrow rs L b W ≠ [] := fun e => by rw [e] at q; simp [cmpI] at q
    have hm := (lmax_spec hne).1
    rw [← hE] at hm
    have := (List.mem_filter.mp hm).2
    simp [cmpI] at this
    omega
  · rw [if_neg q] at hE; exact hE
/-- no line could take one more stretch -/
theorem behind_law {rs : List Row} {L W b z : Int} (hz : z ∈ lineCand rs L b) (hgt : lineEndOf rs L b W < z) : ¬ advOf rs b z ≤ W := fun h => by
  have hm : z ∈ lineNarrow rs L b W := List.mem_filter.mpr ⟨hz, by simp [cmpI, h]⟩
  have hne : lineNarrow rs L b W ≠ [] := fun e => by rw [e] at hm; cases hm
  have hE : lineEndOf rs L b W = if cmpI .Gt ((lineNarrow rs L b W).length : Int) 0 then lmax (lineNarrow rs L b W) else (lineCand rs L b).headD 0 := rfl
  have := List.length_pos_iff.mpr hne
  rw [if_pos (by simp [cmpI]; omega)] at hE
  have := (lmax_spec hne).2 z hm
  omega
theorem adv_two {rs : List Row} (hr : rs.Pairwise fun a b => a.cl ≤ b.cl) {b c e : Int} (h1 : b ≤ c) (h2 : c ≤ e) : advOf rs b c + advOf rs c e = advOf rs b e := by
  have h := filter_two h1 h2 hr
  show ((rs.filter (inside b c)).map (·.adv)).sum + ((rs.filter (inside c e)).map (·.adv)).sum = ((rs.filter (inside b e)).map (·.adv)).sum
  rw [← h, List.map_append, List.sum_append]
theorem linesGo_sum {rs : List Row} (hr : rs.Pairwise fun a b => a.cl ≤ b.cl) {L W : Int} : ∀ {k : Nat} {b : Int}, b ≤ L → (L - b).toNat ≤ k → ((linesGo rs L W k b).map fun q => advOf rs q.1 q.2).sum = advOf rs b L
  | 0, b, h, hk => by
    have : b = L := by omega
    subst this
    show (0 : Int) = ((rs.filter (inside b b)).map (·.adv)).sum
    rw [List.filter_eq_nil_iff.mpr fun r _ z => by have := inside_iff.mp z; omega]
    rfl
  | k + 1, b, h, hk => by
    by_cases q : b < L
    · have hg := ends_gt (rs := rs) (W := W) q
      rw [linesGo_step q, List.map_cons, List.sum_cons, linesGo_sum hr hg.2 (by omega)]
      exact adv_two hr (by omega) hg.2
    · have : b = L := by omega
      subst this
      rw [linesGo_end _ q]
      show (0 : Int) = ((rs.filter (inside b b)).map (·.adv)).sum
      rw [List.filter_eq_nil_iff.mpr fun r _ z => by have := inside_iff.mp z; omega]
      rfl
theorem total_law {rs : List Row} {last L W : Int} (g : Gen rs last) (hL : last < L) : ((linesL rs L W).map fun q => advOf rs q.1 q.2).sum = (rs.map (·.adv)).sum := by
  have hz : 0 ≤ last := by
    obtain ⟨r, hr, e⟩ := g.last_
    have := g.le r hr; omega
  unfold linesL
  rw [linesGo_sum g.rise (by omega) (by omega)]
  show ((rs.filter (inside 0 L)).map (·.adv)).sum = _
  rw [List.filter_eq_self.mpr fun r hr => by have := g.le r hr; exact inside_iff.mpr ⟨this.1, by omega⟩]
theorem cut_sum (rs : List Row) (bw : Bool) (b e : Int) : ((cutOf (shOf rs bw) b e).map (·.adv)).sum = advOf rs b e := by
  rw [← adv_sh rs bw]
  unfold cutOf
  rw [List.map_map]
  rfl
end Mine
end

section
set_option linter.unusedVariables false
open PySem PySem.W PyProof.Rows
set_option maxRecDepth 100000
namespace Mine

noncomputable def encS (Cs : Addr) (bw : Bool) : Enc (List Row) := ⟨fun r => shapedD Cs r bw, fun d => match d with
  | .inst _ [(_, .list ds), _] => ds.map rowOf
  | _ => [], fun r => by
    show List.map rowOf (r.map Row.d) = r
    exact map_rowOf r⟩
section
variable {prog : Program} {h0 : Heap} {K : Frag} {ad : Ads} {n : Nat} {w : World} {A : Around} {Lc f : Addr} {cdv : Value} {s0 : Shared} {C : Addr → Option Obj} {X : Addr → Prop} {p : Addr} {E : Value → Shared → Prop} {Kk : S → Prop} {R : D → S → Prop}
/-- the state behind the lines -/
noncomputable def S21 (ad : Ads) (p : Addr) (rs : List Row) (bw : Bool) (L W : Int) (k : Nat) : S := { S7 ad p rs bw L k with vars := ("lines", .list ((linesL rs L W).map encII.enc)) :: ("width", .int W) :: (S7 ad p rs bw L k).vars }
theorem law_20 (B : Top0 K h0) (T : TopOK K ad) (c : CxOK h0 (n + 6) (lawCx w A Lc f cdv s0 C X (some p))) {rs : List Row} {last L : Int} (bw : Bool) {k : Nat} (g : Gen rs last) (hL : 0 < L ∧ L ≤ 100) (hk' : k ≤ 100)
    (hk : ∀ W k', Exps prog (lawCx w A Lc f cdv s0 C X (some p)) E (S21 ad p rs bw L W k') ((bodyOf lawSt).drop 22) Kk R) :
    Exps prog (lawCx w A Lc f cdv s0 C X (some p)) E (S7 ad p rs bw L k) ((bodyOf lawSt).drop 20) Kk R := by
  have ok := g.okSh bw
  refine Exps.cons (Exp.assign c (.inl rfl) (Evp.draw c B T.G T.f29 rfl rfl (Evp.cint c ⟨120, rfl, by decide, by decide, by show k + 1 ≤ 1000; omega, fun W w0 w1 => ?_⟩)))
  have hln := T.lines (prog := prog) (b := bw) B ok L W (by omega)
  rw [lines_sh] at hln
  refine Exps.cons (Exp.assign c (.inl rfl) (Evp.callFn c B T.f24.glob T.f24.keep (Evs.cons c (Evp.name c rfl (Evs.cons c (Evp.name c rfl (Evs.cons c (Evp.name c rfl (Evs.nil ⟨_, 4, by omega, hln, ?_⟩))))))) rfl))
  refine Exps.sub (hk W (k + 1)) (Sub.of rfl rfl ?_)
  repeat (first | exact lkNil | refine lkCons rfl ?_)
theorem law_22 (B : Top0 K h0) (T : TopOK K ad) (c : CxOK h0 (n + 6) (lawCx w A Lc f cdv s0 C X (some p))) {rs : List Row} {L W : Int} (bw : Bool) {k : Nat} (hL : 0 < L ∧ L ≤ 100)
    (hk : ∀ S', Sub (S21 ad p rs bw L W k) S' → Kk S') : Exp prog (lawCx w A Lc f cdv s0 C X (some p)) E (S21 ad p rs bw L W k) (stAt (bodyOf lawSt) 22) Kk R := by
  obtain ⟨ch, y, hy, hyL⟩ := linesL_chain (rs := rs) (W := W) hL.1
  have hlen := linesL_len (rs := rs) (L := L) (W := W)
  have hS : S21 ad p rs bw L W k = { S7 ad p rs bw L k with vars := ("lines", .list ((linesL rs L W).map encII.enc)) :: ("width", .int W) :: (S7 ad p rs bw L k).vars } := rfl
  generalize linesL rs L W = ls at ch hy hlen hS
  rw [hS] at hk ⊢
  have hpos : 0 < ls.length := by
    have := congrArg List.length ch
    simp at this; omega
  refine Exp.ifFalse (Tst.or2 (Tst.neNums c (Evp.comp0P encII c (Itr.list c (Evp.name c rfl ⟨_, rfl, ls, fun q => .int q.1, rfl, by omega, fun cl Lc s₀ C X c' z hz => ⟨_, _, rfl, fun k => ?_⟩, ls.map (·.1), congrArg D.list (nums_map _ _), ?_⟩)))))
  · exact Evp.name c' rfl rfl
  refine Evp.bin c (Evp.list c (Evs.cons c (Evp.cint c (Evs.nil ⟨by simp, ?_⟩))))
  refine Evp.comp0P encII c (Itr.list c (Evp.sliceL c (Evp.name c rfl (Evo.none_ (Evo.some_ (Evp.un c (Evp.cint c ⟨_, op_neg, _, rfl, Evo.none_ ⟨ls.map encII.enc, _, rfl, by simp; omega, pickD_butLast, _, rfl, ls.take (ls.length - 1), fun q => .int q.2, by simp [List.map_take], by simp; omega, fun cl Lc s₀ C X c' z hz => ⟨_, _, rfl, fun k => ?_⟩, ?_⟩⟩)))))))
  · exact Evp.name c' rfl rfl
  rw [nums_map]
  refine ⟨_, op_addlist (as := nums [0]) (bs := nums ((ls.take (ls.length - 1)).map (·.2))) (by simp [nums]; omega), [0] ++ (ls.take (ls.length - 1)).map (·.2), by simp [nums], ?_⟩
  have hbeq : (ls.map (·.1) == [0] ++ (ls.take (ls.length - 1)).map (·.2)) = true := by
    rw [ch]; simp
  rw [hbeq]
  refine ⟨fun h => (by cases h), fun _ => ?_⟩
  refine Tst.neSame c (Evp.itemT c (Evp.itemL c (Evp.name c rfl (Evp.un c (Evp.cint c ⟨_, op_neg, ls.map encII.enc, -1, encII.enc y, rfl, rfl, by simp; omega, by simp; omega, by simp; omega, ?_, Evp.cint c ⟨[.int y.1, .int y.2], 1, 1, .int y.2, rfl, rfl, by decide, by decide, rfl, rfl, Evp.name c rfl ⟨0, by decide, by rw [hyL], rfl, rfl, hk _ (Sub.refl _)⟩⟩⟩)))))
  have e1 : (if (-1 : Int) < 0 then -1 + ((ls.map encII.enc).length : Int) else -1).toNat = ls.length - 1 := by
    simp; omega
  rw [e1, List.getElem?_map, hy]; rfl
end
end Mine
end

section
set_option linter.unusedVariables false
open PySem PySem.W PyProof.Rows
set_option maxRecDepth 100000
set_option maxHeartbeats 4000000
namespace Mine

section
variable {prog : Program} {h0 : Heap} {K : Frag} {ad : Ads} {n : Nat} {w : World} {A : Around} {Lc f : Addr} {cdv : Value} {s0 : Shared} {C : Addr → Option Obj} {X : Addr → Prop} {p : Addr} {E : Value → Shared → Prop} {Kk : S → Prop} {R : D → S → Prop}
/-- sum([row[2] for row in rows if begin <= row[1] < e]) -/
theorem Evp.sumRows {cx : Cx} {S₀ : S} (c : CxOK h0 (n + 6) cx) (B : Top0 K h0) (T : TopOK K ad) {elt : PySem.Expr} {rs : List Row} {scope : Scope} {Q : D → Nat → Prop} {p1 p4 p5 p6 p7 : Pos} {tst : PySem.Expr} {bg x : Int} (hr : S₀.vars.lookup ("rows" : Str) = some (rowsD rs)) (hl : rs.length ≤ 1000)
    (ht : ∀ cl Lc s₀ C X, let cc := compCx cx scope cl Lc s₀ C X; CxOK h0 (n + 6) cc → ∀ y, y ∈ rs → Tst prog cc (stored (compS S₀ scope) "row" (Row.d y)) tst fun b _ => b = inside bg x y)
    (he : ∀ cl Lc s₀ C X, let cc := compCx cx scope cl Lc s₀ C X; CxOK h0 (n + 6) cc → ∀ y, y ∈ rs → inside bg x y = true → ∀ k, Evp prog cc { stored (compS S₀ scope) "row" (Row.d y) with cnt := k } elt fun r _ => r = .int y.adv)
    (hx : cx.env.kindOf "sum" = some .globalImplicit) (hsc : (relabel scope cx.env).names.lookup ("row" : Str) = some .local) (hn : (compS S₀ scope).vars.lookup ("row" : Str) = none) (hf : freeOK scope cx.env = true) (hcell : ∀ y ∈ scope.names, y.2 ≠ .cell) (hkind : scope.kind = .function)
    (hnames : ∀ x ∈ scope.names, x.2 = .local → scope.names.lookup x.1 = some .local) (hs : ∀ x, foldedSetIterable (.Name "rows" p5) cx.env x = pure x) (hq : Q (.int (advOf rs bg x)) S₀.cnt) :
    Evp prog cx S₀ (.Call (.Name "sum" p1) [.ListComp elt [⟨.Name "row" p4, .Name "rows" p5, [tst], 0⟩] scope p6] [] p7) Q := by
  refine Evp.callB c B (T.G.bl "sum" (by decide)) boot_sum' (by decide) (Evs.cons c ?_) hx
  refine Evp.comp1 encR c (Itr.list c (Evp.name c hr ⟨_, rfl, rs, inside bg x, fun r => .int r.adv, rfl, by omega, ht, he, ?_⟩)) hsc hn hf hcell hkind hnames hs
  refine Evs.nil ⟨.int (advOf rs bg x), ?_, hq⟩
  rw [nums_map]
  exact call_sum c.lv

noncomputable def sumsL (rs : List Row) (ls : List (Int × Int)) : List Int := ls.map fun q => advOf rs q.1 q.2
theorem law_24 (B : Top0 K h0) (T : TopOK K ad) (c : CxOK h0 (n + 6) (lawCx w A Lc f cdv s0 C X (some p))) {rs : List Row} {last L W : Int} (bw : Bool) {k : Nat} (g : Gen rs last) (hL : 0 < L ∧ L ≤ 100)
    (hk : ∀ S', Sub { S21 ad p rs bw L W k with vars := ("sums", .list (nums (sumsL rs (linesL rs L W)))) :: (S21 ad p rs bw L W k).vars } S' → Exps prog (lawCx w A Lc f cdv s0 C X (some p)) E S' ((bodyOf lawSt).drop 25) Kk R) :
    Exps prog (lawCx w A Lc f cdv s0 C X (some p)) E (S21 ad p rs bw L W k) ((bodyOf lawSt).drop 23) Kk R := by
  have ok := g.okSh bw
  have hpl := places_cons (L := L) g
  have hlen := linesL_len (rs := rs) (L := L) (W := W)
  have hrl := g.len
  have hmem : ∀ q ∈ linesL rs L W, 0 ≤ q.1 ∧ q.1 < L ∧ q.2 = lineEndOf rs L q.1 W := fun q hq => linesGo_mem q hq
  refine Exps.cons (Exp.newOwn c (.inl rfl) rfl fun l hlX => ?_)
  have hS : S21 ad p rs bw L W k = { S7 ad p rs bw L k with vars := ("lines", .list ((linesL rs L W).map encII.enc)) :: ("width", .int W) :: (S7 ad p rs bw L k).vars } := rfl
  rw [hS] at hk ⊢
  generalize linesL rs L W = ls at hk hlen hmem
  let canon : Nat → S := fun i => { vars := ("sums", .raw (.ref l)) :: ("lines", .list (ls.map encII.enc)) :: ("width", .int W) :: (S7 ad p rs bw L k).vars, own := some (l, nums (sumsL rs (ls.take i))), cnt := k }
  refine Exps.cons (Exp.forC encII c (Itr.list c (Evp.name c rfl ⟨_, rfl, ls, canon, rfl, fun i => XX_own, Sub.of rfl rfl ?_, fun C' X' c' i q hq => ?_, fun S' hS => ?_⟩)))
  · repeat (first | exact lkNil | refine lkCons rfl ?_)
  · obtain ⟨b, e⟩ := q
    obtain ⟨m1, m2, m3⟩ := hmem _ (List.mem_of_getElem? hq)
    replace m1 : 0 ≤ b := m1
    replace m2 : b < L := m2
    replace m3 : e = lineEndOf rs L b W := m3
    have hsl : (sumsL rs (ls.take i)).length ≤ 999999 := by unfold sumsL; rw [List.length_map, List.length_take]; omega
    have htk : sumsL rs (ls.take (i + 1)) = sumsL rs (ls.take i) ++ [advOf rs b e] := by
      unfold sumsL
      rw [List.take_add_one, hq, List.map_append]; rfl
    have hcand : (lineCand rs L b).length ≤ 17 := by
      unfold lineCand
      have := List.length_filter_le (fun p => cmpI .Gt p b) (placesOf rs L ++ [L])
      simp only [List.length_append, List.length_singleton] at this
      omega
    have hin : e ∈ lineCand rs L b := by rw [m3]; exact lineEnd_mem m2
    have hadv := T.advance (prog := prog) (b := bw) B ok b e
    rw [adv_sh] at hadv
    have hle := T.lineEnd (prog := prog) (b := bw) B ok L b W m2
    rw [lineEnd_sh, ← m3] at hle
    refine Asg.pair c' (.inr ⟨rfl, rfl, rfl⟩) (.inr ⟨rfl, rfl, rfl⟩) ?_
    refine Exps.cons (Exp.assign c' (.inl rfl) (Evp.sumRows (bg := b) (x := e) c' B T rfl (by omega) (fun cl Lc s₀ C X c3 y hy => ?_) (fun cl Lc s₀ C X c3 y hy hb k => ?_) rfl rfl rfl rfl (by decide) rfl (by decide) (by intro _; rfl) ?_))
    · exact Tst.betwE c3 (i := b) (j := y.cl) (x := e) (fun k => Evp.name c3 rfl ⟨rfl, rfl⟩) (fun k => Evp.itemT c3 (Evp.name c3 rfl (Evp.cint c3 ⟨_, 1, 1, _, rfl, rfl, by decide, by decide, rfl, rfl, rfl, rfl⟩))) (fun k => Evp.name c3 rfl ⟨rfl, rfl⟩) rfl
    · exact Evp.itemT c3 (Evp.name c3 rfl (Evp.cint c3 ⟨_, 2, 2, _, rfl, rfl, by decide, by decide, rfl, rfl, rfl⟩))
    refine Exps.cons (Exp.append c' (l := l) (ds := nums (sumsL rs (ls.take i))) rfl rfl (by simpa [nums] using hsl) (Evp.name c' rfl ?_))
    refine Exps.cons (Exp.assignComp c' (CompRes.c1 encI (Itr.list c' (Evp.bin c' (Evp.name c' rfl (Evp.list c' (Evs.cons c' (Evp.name c' rfl (Evs.nil ⟨by simp, _, op_addlist (as := nums (placesOf rs L)) (bs := nums [L]) (by simp [nums]; omega), _, rfl, placesOf rs L ++ [L], fun x => cmpI .Gt x b, fun x => .int x, by simp [nums, encI], by simp; omega, fun cl Lc s₀ C X c3 z hz => ?_, fun cl Lc s₀ C X c3 z hz hb k => ?_, ?_⟩)))))))) (.inl rfl))
    · exact Tst.cmpI c3 (Evp.name c3 rfl ⟨z, rfl, Evp.name c3 rfl ⟨b, rfl, rfl⟩⟩)
    · exact Evp.name c3 rfl rfl
    rw [show ((placesOf rs L ++ [L]).filter fun x => cmpI .Gt x b).map (fun x => D.int x) = nums (lineCand rs L b) from rfl]
    refine Exps.cons (Exp.ifFalse (Tst.or3 (Tst.notin c' (Evp.name c' rfl ⟨e, rfl, Evp.name c' rfl ⟨lineCand rs L b, rfl, ?_, ?_⟩⟩))))
    · simp [hin]
    refine Tst.neSame c' (Evp.callFn c' B T.f22.glob T.f22.keep (Evs.cons c' (Evp.name c' rfl (Evs.cons c' (Evp.name c' rfl (Evs.cons c' (Evp.name c' rfl (Evs.nil ⟨_, 1, by omega, hadv, Evp.name c' rfl ⟨0, by decide, rfl, rfl, rfl, ?_⟩⟩))))))) rfl)
    refine Tst.neSame c' (Evp.callFn c' B T.f23.glob T.f23.keep (Evs.cons c' (Evp.name c' rfl (Evs.cons c' (Evp.name c' rfl (Evs.cons c' (Evp.name c' rfl (Evs.cons c' (Evp.name c' rfl (Evs.nil ⟨_, 3, by omega, hle, Evp.name c' rfl ⟨0, by decide, rfl, rfl, rfl, rfl, ?_⟩⟩))))))))) rfl)
    let mid : S := { vars := ("later", .list (nums (lineCand rs L b))) :: ("wide", .int (advOf rs b e)) :: ("end", .int e) :: ("begin", .int b) :: ("sums", .raw (.ref l)) :: ("lines", .list (ls.map encII.enc)) :: ("width", .int W) :: (S7 ad p rs bw L k).vars, own := some (l, nums (sumsL rs (ls.take (i + 1)))), cnt := k }
    refine Exps.sub (S' := mid) ?_ (Sub.of ?_ rfl ?_)
    rotate_left
    · show some (l, nums (sumsL rs (ls.take (i + 1)))) = _
      rw [htk]
      show some (l, (sumsL rs (ls.take i) ++ [advOf rs b e]).map D.int) = _
      rw [List.map_append]; rfl
    · repeat (first | exact lkNil | refine lkCons rfl ?_)
    have hcne : lineCand rs L b ≠ [] := fun z => by rw [z] at hin; cases hin
    have hfin : ∀ S₂ : S, S₂.own = mid.own → S₂.cnt = mid.cnt → (∀ q ∈ mid.vars, S₂.vars.lookup q.1 = some q.2) → Sub (canon (i + 1)) S₂ := fun S₂ h1 h2 h3 => Sub.of h1.symm h2.symm fun q hq => h3 q (by
      simp only [canon, List.mem_cons] at hq
      simp only [mid, List.mem_cons]
      rcases hq with rfl | rfl | rfl | hq
      · simp
      · simp
      · simp
      · simp [hq])
    have restB : Exps prog { (lawCx w A Lc f cdv s0 C X (some p)) with C := C', X := X' } (fun _ _ => False) mid ((match stAt (bodyOf lawSt) 24 with | .For _ _ bd _ _ => bd | _ => []).drop 5) (fun S₂ => Sub (canon (i + 1)) S₂) R := by
      have hbl : ((lineCand rs L b).filter fun x => cmpI .Gt x e).length ≤ 17 := Nat.le_trans (List.length_filter_le _ _) hcand
      refine Exps.cons (Exp.assign c' (.inr ⟨rfl, rfl, rfl⟩) (Evp.comp1 encI c' (Itr.list c' (Evp.name c' rfl ⟨_, rfl, lineCand rs L b, fun x => cmpI .Gt x e, fun x => .int x, rfl, by omega, fun cl Lc s₀ C X c3 z hz => ?_, fun cl Lc s₀ C X c3 z hz hb k => ?_, ?_⟩))))
      · exact Tst.cmpI c3 (Evp.name c3 rfl ⟨z, rfl, Evp.name c3 rfl ⟨e, rfl, rfl⟩⟩)
      · exact Evp.name c3 rfl rfl
      rw [show ((lineCand rs L b).filter fun x => cmpI .Gt x e).map (fun x => D.int x) = nums ((lineCand rs L b).filter fun x => cmpI .Gt x e) from rfl]
      have hbh : ∀ z ∈ (lineCand rs L b).filter (fun x => cmpI .Gt x e), z ∈ lineCand rs L b ∧ e < z := fun z hz => by
        have := List.mem_filter.mp hz
        exact ⟨this.1, by simpa [cmpI] using this.2⟩
      generalize (lineCand rs L b).filter (fun x => cmpI .Gt x e) = bh at hbl hbh ⊢
      refine Exps.cons (Exp.ifFalse (Tst.and (Tst.cmpI c' (Evp.name c' rfl ⟨advOf rs b e, rfl, Evp.name c' rfl ⟨W, rfl, ?_⟩⟩))))
      have done : ∀ S₂ : S, S₂ = { mid with vars := ("behind", .list (nums bh)) :: mid.vars } → Exps prog { (lawCx w A Lc f cdv s0 C X (some p)) with C := C', X := X' } (fun _ _ => False) S₂ [] (fun S₂ => Sub (canon (i + 1)) S₂) R := fun S₂ e2 => by
        subst e2
        refine Exps.nil (hfin _ rfl rfl fun q hq => ?_)
        simp only [mid, S7, List.mem_cons, List.not_mem_nil, or_false] at hq
        rcases hq with rfl | rfl | rfl | rfl | rfl | rfl | rfl | rfl | rfl | rfl | rfl | rfl | rfl | rfl | rfl <;> rfl
      cases hw1 : cmpI .LtE (advOf rs b e) W with
      | false => exact ⟨rfl, done _ rfl⟩
      | true =>
        simp only [if_true]
        refine Tst.and (Tst.plain c' (Evp.name c' rfl ⟨_, Tru.list (by simp [nums]; omega), ?_⟩))
        cases bh with
        | nil => exact ⟨rfl, done _ rfl⟩
        | cons z zs =>
          obtain ⟨hz1, hz2⟩ := hbh z (by simp)
          rw [m3] at hz2
          have hlaw := behind_law hz1 hz2
          show if (true = true) then _ else _
          simp only [if_true]
          refine Tst.and (Tst.cmpI c' (Evp.sumRows (bg := b) (x := z) c' B T rfl (by omega) (fun cl Lc s₀ C X c3 y hy => ?_) (fun cl Lc s₀ C X c3 y hy hb k => ?_) rfl rfl rfl rfl (by decide) rfl (by decide) (by intro _; rfl) ⟨advOf rs b z, rfl, Evp.name c' rfl ⟨W, rfl, ?_⟩⟩))
          · refine Tst.betwE c3 (i := b) (j := y.cl) (x := z) (fun k => Evp.name c3 rfl ⟨rfl, rfl⟩) (fun k => Evp.itemT c3 (Evp.name c3 rfl (Evp.cint c3 ⟨_, 1, 1, _, rfl, rfl, by decide, by decide, rfl, rfl, rfl, rfl⟩))) (fun k => ?_) rfl
            exact Evp.itemL c3 (Evp.name c3 rfl (Evp.cint c3 ⟨nums (z :: zs), 0, .int z, rfl, rfl, by simp [nums] at hbl ⊢; omega, by simp only [nums, List.length_map]; omega, by simp only [nums, List.length_map, List.length_cons]; omega, rfl, rfl, rfl⟩))
          · exact Evp.itemT c3 (Evp.name c3 rfl (Evp.cint c3 ⟨_, 2, 2, _, rfl, rfl, by decide, by decide, rfl, rfl, rfl⟩))
          rw [show cmpI .LtE (advOf rs b z) W = false by simpa [cmpI] using hlaw]
          exact ⟨rfl, done _ rfl⟩
    refine Exps.cons (Exp.ifFalse (Tst.and2 (Tst.cmpI c' (Evp.name c' rfl ⟨advOf rs b e, rfl, Evp.name c' rfl ⟨W, rfl, fun h => ⟨rfl, restB⟩, fun h => ?_⟩⟩))))
    have hwd : advOf rs b e > W := by simpa [cmpI] using h
    rw [m3] at hwd
    have hlaw := wide_law m2 hwd
    rw [← m3] at hlaw
    refine Tst.neSame c' (Evp.name c' rfl (Evp.itemL c' (Evp.name c' rfl (Evp.cint c' ⟨nums (lineCand rs L b), 0, .int e, rfl, rfl, by simp [nums]; omega, by simp only [nums, List.length_map]; omega, by have := List.length_pos_iff.mpr hcne; simp only [nums, List.length_map]; omega, ?_, 0, by decide, rfl, rfl, rfl, restB⟩))))
    rw [hlaw]
    generalize lineCand rs L b = cs at hcne
    cases cs with
    | nil => exact (hcne rfl).elim
    | cons z zs => rfl
  · refine Exps.sub (S' := canon ls.length) (Exps.freeze (x := "sums") (l := l) (ds := nums (sumsL rs (ls.take ls.length))) rfl hlX rfl ?_) hS
    rw [List.take_length]
    refine hk _ (Sub.of rfl rfl ?_)
    repeat (first | exact lkNil | refine lkCons rfl ?_)
end
end Mine
end

section
set_option linter.unusedVariables false
open PySem PySem.W PyProof.Rows
set_option maxRecDepth 100000
set_option maxHeartbeats 4000000
namespace Mine

section
variable {prog : Program} {h0 : Heap} {K : Frag} {ad : Ads} {n : Nat} {w : World} {A : Around} {Lc f : Addr} {cdv : Value} {s0 : Shared} {C : Addr → Option Obj} {X : Addr → Prop} {p : Addr} {E : Value → Shared → Prop} {Kk : S → Prop}
/-- a == b, both the same plain data -/
theorem Evp.eqSame {cx : Cx} {S₀ : S} (c : CxOK h0 n cx) {l r : PySem.Expr} {pos : Pos} {Q : D → Nat → Prop}
    (h : Evp prog cx S₀ l fun a k => Evp prog cx { S₀ with cnt := k } r fun b k' => SameQ a b (Q (.bool true) k')) (hm : behindInMarks .Eq r = false := by with_unfolding_all rfl) :
    Evp prog cx S₀ (.Compare l [.Eq] [r] pos) Q :=
  Evp.cmp c (h.mono fun a k q => q.mono fun b k' ⟨m, hm, e', hp, q'⟩ => ⟨.bool true, by
    subst e'
    have := op_eq (prog := prog) (h0 := h0) (w := cx.w) c.lv hp hp hm
    rwa [eqD_self m b hp] at this, q'⟩) hm
noncomputable def isTrueD (d : D) (_ : S) : Prop := d = .bool true
theorem law_25 (B : Top0 K h0) (T : TopOK K ad) (c : CxOK h0 (n + 6) (lawCx w A Lc f cdv s0 C X (some p))) {rs : List Row} {last L W : Int} (bw : Bool) {k : Nat} (g : Gen rs last) (hlo : last < L) (hL : 0 < L ∧ L ≤ 100) :
    Exps prog (lawCx w A Lc f cdv s0 C X (some p)) E { S21 ad p rs bw L W k with vars := ("sums", .list (nums (sumsL rs (linesL rs L W)))) :: (S21 ad p rs bw L W k).vars } ((bodyOf lawSt).drop 25) Kk isTrueD := by
  have ok := g.okSh bw
  have hrl := g.len
  have hln := T.shapedLines (prog := prog) (b := bw) B ok L W (by omega)
  rw [lines_sh] at hln
  have hlen := linesL_len (rs := rs) (L := L) (W := W)
  have htot := total_law (W := W) g hlo
  have hS : S21 ad p rs bw L W k = { S7 ad p rs bw L k with vars := ("lines", .list ((linesL rs L W).map encII.enc)) :: ("width", .int W) :: (S7 ad p rs bw L k).vars } := rfl
  rw [hS]
  change FnOK prog h0 5 ad.shaped_lines [shapedD ad.shaped (shOf rs bw) bw, .int L, .int W] (.list ((linesL rs L W).map fun q => shapedD ad.shaped (cutOf (shOf rs bw) q.1 q.2) bw)) at hln
  generalize linesL rs L W = ls at hln hlen htot ⊢
  refine Exps.cons (Exp.assign c (.inl rfl) (Evp.callFn c B T.f26.glob T.f26.keep (Evs.cons c (Evp.name c rfl (Evs.cons c (Evp.name c rfl (Evs.cons c (Evp.name c rfl (Evs.nil ⟨_, 5, by omega, hln, ?_⟩))))))) rfl))
  refine Exps.ret c (Evp.and2 c (Evp.eqSame c (Evp.comp0 (encS ad.shaped bw) c (Itr.list c (Evp.name c rfl ⟨_, rfl, ls.map fun q => cutOf (shOf rs bw) q.1 q.2, fun r => .int ((r.map (·.adv)).sum), ?_, by rw [List.length_map]; omega, fun cl Lc s₀ C X c' y hy k => ?_, ?_⟩)))))
  · rw [List.map_map]; rfl
  · obtain ⟨q, hq, rfl⟩ := List.mem_map.mp hy
    have h2 : (cutOf (shOf rs bw) q.1 q.2).length ≤ 17 := by
      refine Nat.le_trans ?_ ok.len
      unfold cutOf
      rw [List.length_map]
      exact List.length_filter_le _ _
    refine Evp.callB c' B (T.G.bl "sum" (by decide)) boot_sum' (by decide) (Evs.cons c' (Evp.comp0 encR c' (Itr.list c' (Evp.attr c' B (Evp.name c' rfl ⟨ad.shaped, _, rowsD (cutOf (shOf rs bw) q.1 q.2), rfl, rfl, rfl, T.rowsA, _, rfl, cutOf (shOf rs bw) q.1 q.2, fun r => .int r.adv, rfl, by omega, fun cl Lc s₀ C X c3 y hy k => ?_, Evs.nil ⟨.int (((cutOf (shOf rs bw) q.1 q.2).map (·.adv)).sum), ?_, rfl⟩⟩))))) rfl
    · exact Evp.itemT c3 (Evp.name c3 rfl (Evp.cint c3 ⟨_, 2, 2, _, rfl, rfl, by decide, by decide, rfl, rfl, rfl⟩))
    · rw [nums_map]; exact call_sum c'.lv
  have hls : ((ls.map fun q => cutOf (shOf rs bw) q.1 q.2).map fun r => D.int ((r.map (·.adv)).sum)) = nums (sumsL rs ls) := by
    unfold sumsL nums
    rw [List.map_map, List.map_map]
    refine List.map_congr_left fun q _ => ?_
    show D.int _ = D.int _
    rw [show ((cutOf (shOf rs bw) q.1 q.2).map (·.adv)).sum = advOf rs q.1 q.2 from cut_sum rs bw q.1 q.2]
  rw [hls]
  refine Evp.name c rfl ⟨1, by decide, rfl, plain_nums _, true, rfl, ?_⟩
  simp only [if_true]
  refine Evp.eqSame c (Evp.callB c B (T.G.bl "sum" (by decide)) boot_sum' (by decide) (Evs.cons c (Evp.name c rfl (Evs.nil ⟨.int (sumsL rs ls).sum, call_sum c.lv, ?_⟩))) rfl)
  refine Evp.callB c B (T.G.bl "sum" (by decide)) boot_sum' (by decide) (Evs.cons c (Evp.comp0 encR c (Itr.list c (Evp.name c rfl ⟨_, rfl, rs, fun r => .int r.adv, rfl, by omega, fun cl Lc s₀ C X c3 y hy k => ?_, Evs.nil ⟨.int ((rs.map (·.adv)).sum), ?_, 0, by decide, ?_, rfl, rfl⟩⟩)))) rfl
  · exact Evp.itemT c3 (Evp.name c3 rfl (Evp.cint c3 ⟨_, 2, 2, _, rfl, rfl, by decide, by decide, rfl, rfl, rfl⟩))
  · rw [nums_map]; exact call_sum c.lv
  · rw [← htot]; rfl
end
end Mine
end

section
set_option linter.unusedVariables false
open PySem PySem.W PyProof.Rows
set_option maxRecDepth 100000
set_option maxHeartbeats 4000000
namespace Mine

section
variable {prog : Program} {h0 : Heap} {K : Frag} {ad : Ads} {n : Nat} {w : World} {A : Around} {Lc f : Addr} {cdv : Value} {s0 : Shared} {C : Addr → Option Obj} {X : Addr → Prop} {p : Addr} {E : Value → Shared → Prop}
theorem law_rest (B : Top0 K h0) (T : TopOK K ad) (c : CxOK h0 (n + 6) (lawCx w A Lc f cdv s0 C X (some p))) (hfr : A.frames = some [envOfC "law" (scopeOf lawSt) Lc f cdv]) (hfile : ((prog.main.file : Str) == ("/claim/cut.py" : Str)) = true) (htop : (prog.main.scope.names.lookup ("super" : Str)).isSome = false)
    {rs : List Row} {last L : Int} (bw : Bool) {k : Nat} (g : Gen rs last) (hlo : last < L) (hhi : L ≤ last + 3) (hk : k ≤ 60) :
    Exps prog (lawCx w A Lc f cdv s0 C X (some p)) E (S7 ad p rs bw L k) ((bodyOf lawSt).drop 8) (fun _ => False) isTrueD := by
  have hz : 0 ≤ last := by
    obtain ⟨r, hr, e⟩ := g.last_
    have := g.le r hr; omega
  have hll := g.last_le
  have hL : 0 < L ∧ L ≤ 100 := by omega
  show Exps _ _ _ _ (stAt (bodyOf lawSt) 8 :: (bodyOf lawSt).drop 9) _ _
  refine Exps.cons (law_8 B T c bw g fun S' h => Exps.sub ?_ h)
  show Exps _ _ _ _ (stAt (bodyOf lawSt) 9 :: (bodyOf lawSt).drop 10) _ _
  refine Exps.cons (law_9 B T c bw g (by omega) fun S' h => Exps.sub ?_ h)
  show Exps _ _ _ _ (stAt (bodyOf lawSt) 10 :: (bodyOf lawSt).drop 11) _ _
  refine Exps.cons (law_10 B T c bw g fun S' h => Exps.sub ?_ h)
  show Exps _ _ _ _ (stAt (bodyOf lawSt) 11 :: (bodyOf lawSt).drop 12) _ _
  refine Exps.cons (law_11 B T c bw hL.1 hk fun bad S' b1 b2 b3 h => Exps.sub ?_ h)
  show Exps _ _ _ _ (stAt (bodyOf lawSt) 12 :: (bodyOf lawSt).drop 13) _ _
  refine Exps.cons (law_12 B T c hfr hfile htop bw g hL.1 (by omega) b1 b2 b3 fun S' h => Exps.sub ?_ h)
  show Exps _ _ _ _ (stAt (bodyOf lawSt) 13 :: (bodyOf lawSt).drop 14) _ _
  refine Exps.cons (law_13 B T c bw g fun S' h => Exps.sub ?_ h)
  show Exps _ _ _ _ (stAt (bodyOf lawSt) 14 :: (bodyOf lawSt).drop 15) _ _
  refine Exps.cons (law_14 B T c bw g hlo fun S' h => Exps.sub ?_ h)
  show Exps _ _ _ _ (stAt (bodyOf lawSt) 15 :: (bodyOf lawSt).drop 16) _ _
  refine Exps.cons (law_15 B T c bw fun S' h => Exps.sub ?_ h)
  show Exps _ _ _ _ (stAt (bodyOf lawSt) 16 :: (bodyOf lawSt).drop 17) _ _
  refine Exps.cons (law_16 B T c bw g fun S' h => Exps.sub ?_ h)
  refine law_18 B T c bw hL (by omega) fun ws k' w3 wok hk'' => ?_
  show Exps _ _ _ _ (stAt (bodyOf lawSt) 19 :: (bodyOf lawSt).drop 20) _ _
  refine Exps.cons (law_19 B T c bw g hL w3 wok fun S' h => Exps.sub ?_ h)
  refine law_20 B T c bw g hL (by omega) fun W k3 => ?_
  show Exps _ _ _ _ (stAt (bodyOf lawSt) 22 :: (bodyOf lawSt).drop 23) _ _
  refine Exps.cons (law_22 B T c bw hL fun S' h => Exps.sub ?_ h)
  refine law_24 B T c bw g hL fun S' h => Exps.sub ?_ h
  exact law_25 B T c bw g hlo hL
theorem law_body (B : Top0 K h0) (T : TopOK K ad) (c : CxOK h0 (n + 6) (lawCx w A Lc f cdv s0 C X (some p))) (hfr : A.frames = some [envOfC "law" (scopeOf lawSt) Lc f cdv]) (hfile : ((prog.main.file : Str) == ("/claim/cut.py" : Str)) = true) (htop : (prog.main.scope.names.lookup ("super" : Str)).isSome = false) :
    Exps prog (lawCx w A Lc f cdv s0 C X (some p)) E { vars := [("pen", .raw (.ref p))], cnt := 0 } ((bodyOf lawSt).drop 1) (fun _ => False) isTrueD :=
  law_A B T c fun rs last bw L k g hlo hhi hk => law_rest B T c hfr hfile htop bw g hlo hhi hk
end
end Mine
end

section
set_option linter.unusedVariables false
open PySem PySem.W PyProof.Rows
set_option maxRecDepth 100000
set_option maxHeartbeats 4000000
namespace Mine

theorem PenOK.with {X : Addr → Prop} {p : Addr} {n : Nat} {h : Heap} (q : PenOK X p n h) : PenOK (fun a => X a ∨ a = p) p n h := by
  obtain ⟨vc, g, st, k, tg, ts, tk, ns, nn, a, b, r⟩ := q
  refine ⟨vc, g, st, k, tg, ts, tk, ns, nn, a, ?_, r⟩
  cases b with
  | @list al vs m _ nx e ra =>
    refine .list (fun z => ?_) e ?_
    · rcases z with z | z
      · exact nx z
      · subst z
        rw [a] at e
        have hv : vs = [.ref al, .int g tg, .int st ts, .int k tk] := by
          injection e with e
          injection e with _ _ e _
          injection e with e _
          have := congrArg Array.toList e
          simpa using this.symm
        subst hv
        cases ns with
        | nil => cases ra
        | cons n ns => cases ra with
          | cons q _ => cases q
    · exact RepAll.of_ints ra.intsAre
section
variable {prog : Program} {h0 : Heap} {K : Frag} {ad : Ads} {n : Nat} {w : World} {A : Around}
theorem law_call (B : Top0 K h0) (T : TopOK K ad) {a : Addr} (F : FnAt K a (stAt topS 33)) (hfile : ((prog.main.file : Str) == ("/claim/cut.py" : Str)) = true) (htop : (prog.main.scope.names.lookup ("super" : Str)).isSome = false)
    {X : Addr → Prop} {s : Shared} {args : List Value} {ns : List Int} (hfr : A.frames = some []) (lv : Lv (n + 7) A) (pc : PC h0 X s.heap) (hn : ns.length ≤ 63) (r : RepAll X s.heap args [.list (nums ns)]) :
    codeAny (model prog w) A (.call (.ref a) ⟨args, []⟩) (fun r s' => r = .ok (.ret (.bool true)) ∧ Kp s s') s := by
  obtain ⟨oc, od, osl, doc, pm, cdv, ct, an, ho, hcd⟩ := F.rec_
  refine enter (pen := none) (cnt := 0) (xs := ["script"]) B ho hcd lv pc r (?_) (fun n x hx => ?_) (by decide) rfl (fun q e => by cases e) (fun L s₁ X' hX c t => ?_) rfl rfl rfl
  · obtain ⟨a, rfl⟩ := len1 r.length
    rfl
  · exact kLoc rfl n x hx
  let cx := fnCx w (A.deeper (envOfC (nameOf (stAt topS 33)) (scopeOf (stAt topS 33)) L a cdv)) (nameOf (stAt topS 33)) (scopeOf (stAt topS 33)) L a cdv s (Cm none s.heap) X' none
  obtain ⟨_, _, mg, mb, TT⟩ := B.top
  have pc₁ := t.pc c
  have hargs : ∀ p1, Evs prog cx { vars := (["script"] : List Str).zip [D.list (nums ns)], cnt := 0 } [.Name "script" p1] (fun ds k => ds = [D.list (nums ns)] ∧ k = 0) := fun p1 => Evs.cons c (Evp.name c rfl (Evs.nil ⟨rfl, rfl⟩))
  show wpAny _ _ (execs (stAt (bodyOf lawSt) 0 :: (bodyOf lawSt).drop 1) _) _ _ _
  refine wpAny_execs_cons (wpAny_Assign_Name (hs := rfl) ?_)
  refine wpAny_Call_ofName (Calls.Name_function_global c.kind rfl (Calls.loadGlobal_global (by rw [c.glob]; exact TT.g.keeps pc₁.base) (mg_of B.inK TT.g T.f28.glob) ?_) (by decide))
  refine callWith_K (pc₁.inK B) T.f28.keep (wpAny_mono (hargs _ s₁ _ t) (fun vs s₂ ⟨ds, k, t₂, k₂, r₂, hds, hk⟩ => ⟨(t₂.pc c).inK B, ?_⟩) fun _ _ x => x.elim) (starEach_cons _ _ _ rfl) (backTo_plain rfl)
  subst hds; subst hk
  refine wpAny_call (codeAny_mono (F_pen (n := n + 5) B T.G T.f28 cx.w cx.A _ s₂ vs ns c.lv (t₂.pc c) hn r₂) fun rr s₃ ⟨p, e1, k₃, pn, pk⟩ => ?_)
  subst e1
  have pC : cx.C p = none := C_none t₂ pn
  let cx' : Cx := { cx with pen := some p, X := fun a => cx.X a ∨ a = p }
  have c' : CxOK h0 (n + 6) cx' := ⟨c.lv, c.base, c.kind, c.glob, c.blt, .inl c.LX, c.LC, fun o x cc h1 h2 => let ⟨z1, z2, z3⟩ := c.cells o x cc h1 h2; ⟨.inl z1, z2, z3⟩, fun q e => by cases e; exact ⟨.inr rfl, pC⟩, fun x cc e => .inl (c.cellsX x cc e)⟩
  have t₃ : St cx' { vars := [], cnt := 0 } s₃ := by
    obtain ⟨m, hns, _⟩ := t₂.ns
    obtain ⟨h3, tk3, e3, hk3⟩ := k₃
    obtain ⟨h2, tk2, e2⟩ := t₂.rest
    subst e3
    have pk' : PenOK cx'.X p 0 h3 := (pk.with).le (fun a x => x.elim (fun x => .inl (.inl x)) .inr) (Nat.le_refl 0)
    refine ⟨⟨h3, tk3, by rw [e2]⟩, fun b o e => hk3 b o (t₂.keep b o e), fun a x => ?_, ⟨m, hns.keeps hk3, fun x d e => by cases e⟩, fun o x cc h1 h2 => ?_, fun l ds e => (by cases e), fun q e => ?_⟩
    · rcases x with x | x
      · obtain ⟨o, e⟩ := t₂.live a x; exact ⟨o, hk3 a o e⟩
      · subst x
        obtain ⟨_, _, _, _, _, _, _, _, _, e, _⟩ := pk
        exact ⟨_, e⟩
    · obtain ⟨v, q⟩ := t₂.cells o x cc h1 h2
      exact ⟨v, q.keeps hk3⟩
    · cases e
      rw [show XX cx'.X ({ vars := [], cnt := 0 } : S).own = cx'.X from XX_none _]
      exact pk'
  show wpAny (model prog w) cx'.A (storeName cx'.env "pen" (.ref p)) _ _ _
  refine t₃.store c' (d := .raw (.ref p)) (.inl rfl) (.raw _) fun s₄ t₄ _ => ?_
  have hbody := law_body (E := fun _ _ => False) (n := n) B T c' (by show (A.deeper _).frames = _; exact Around.frames_deeper hfr) hfile htop
  refine wpAny_mono (hbody s₄ t₄) (fun fl s' p' => ?_) fun _ _ x => x.elim
  rcases p' with ⟨_, _, _, q⟩ | ⟨v, d, S', e, t', rr, hd⟩
  · exact q.elim
  · subst e
    replace hd : d = .bool true := hd
    subst hd
    cases rr
    obtain ⟨h', tk, e'⟩ := t'.rest
    refine ⟨rfl, h', tk, e', fun b o e => ?_⟩
    have := t'.keep b o (Cm_has (by simp) e)
    rw [e'] at this; exact this
end
end Mine
end

section
set_option linter.unusedVariables false
open PySem PySem.W PyProof.Rows
set_option maxRecDepth 100000
namespace Mine

/-- the text without the statements that no look needs -/
noncomputable def vw : Program := view PySem.Challenge.pw_nu0153_01 [0, 2, 3, 5, 7, 9, 10, 11, 12, 13, 14, 15, 16, 17, 18, 19, 20, 21, 22, 23, 24, 25, 26, 28, 29, 30, 31, 32, 33]
noncomputable def kv (P : Params) (x : Str) (t : Tok) (v : Value) : DictEntry := { hash := PyData.keyHash P x, key := .str x t, val := v }
/-- the objects that the top leaves and that the walk looks at -/
noncomputable def fk (P : Params) : Frag := [
  (2, { cls := .none, data := .dict #[kv P "type.__subclasses__.Exception.0" 234 (.int 48 0), kv P "type.__subclasses__.Exception.n" 235 (.int 1 0)] 2 }),
  (3, { cls := .type "dict", data := .dict #[kv P "__name__" 165 (.str "law_nu0153_01" 472), kv P "__doc__" 166 (.none), kv P "__package__" 167 (.none), kv P "__loader__" 168 (.builtin "__main__.__loader__#opaque"), kv P "__spec__" 169 (.none), kv P "__annotations__" 170 (.ref 6), kv P "__builtins__" 171 (.ref 4), kv P "__file__" 173 (.str "/claim/cut.py" 172), kv P "__cached__" 174 (.none), kv P "_wall" 193 (.ref 21), kv P "ShapeError" 237 (.ref 48), kv P "PlanFault" 253 (.ref 61), kv P "Wish" 301 (.ref 88), kv P "Shaped" 341 (.ref 116), kv P "CLUSTER" 345 (.int 1 344), kv P "X_ADVANCE" 347 (.int 2 346), kv P "UNSAFE" 349 (.int 6 348), kv P "clusters_in" 355 (.ref 125), kv P "unsafe_clusters" 361 (.ref 130), kv P "break_places" 367 (.ref 135), kv P "stretch_of" 377 (.ref 142), kv P "place_before" 383 (.ref 147), kv P "place_behind" 389 (.ref 152), kv P "stretches" 398 (.ref 159), kv P "wishes_within" 411 (.ref 166), kv P "moved_rows" 417 (.ref 171), kv P "joined_pieces" 430 (.ref 178), kv P "advance_between" 436 (.ref 183), kv P "line_end" 442 (.ref 188), kv P "lines_of" 454 (.ref 195), kv P "rows_between" 465 (.ref 202), kv P "shaped_lines" 471 (.ref 207), kv P "_law_pen" 479 (.ref 212), kv P "_law_draw" 489 (.ref 219), kv P "_law_rows" 500 (.ref 226), kv P "_law_cut" 508 (.ref 233), kv P "_law_wish" 516 (.ref 240), kv P "law" 522 (.ref 245)] 38 }),
  (25, { cls := .type "cell", data := .cell (some (.ref 48)) }),
  (30, { cls := .type "tuple", data := .seq #[.int (-1) 209] }),
  (37, { cls := .type "code", data := .fields #[.str "__init__" 210, .str "ShapeError.__init__" 211, .str "/claim/cut.py" 212, .int 7 0, .int 3 0, .int 0 0, .int 0 0, .int 3 0, .ref 32, .bool true, .int 181 0, .ref 33, .none, .ref 34, .ref 35, .ref 36, .int 217 0, .int 7 0, .str "/claim/cut.py" 218] }),
  (38, { cls := .type "function", data := .func { name := "__init__", qualname := "ShapeError.__init__", params := argsOf (stAt (bodyOf (stAt topS 2)) 0), body := .stmts (bodyOf (stAt (bodyOf (stAt topS 2)) 0)), scope := scopeOf (stAt (bodyOf (stAt topS 2)) 0), globals := 3, closure := [("__class__", 25)], defaults := .ref 30, kwdefaults := .none, pyModule := .str "joinedhand.errors" 194, code := .ref 37, closureTuple := .ref 31 } }),
  (47, { cls := .type "dict", data := .dict #[kv P "__module__" 203 (.str "joinedhand.errors" 194), kv P "__firstlineno__" 207 (.int 5 206), kv P "__init__" 219 (.ref 38), kv P "told" 226 (.ref 45), kv P "__static_attributes__" 229 (.ref 46), kv P "__weakref__" 232 (.ref 49), kv P "__doc__" 233 (.none)] 4 }),
  (48, { cls := .type "type", data := .cls { name := "ShapeError", bases := [.type "Exception"], mro := [.ref 48, .type "Exception", .type "BaseException", .type "object"], ns := 47, qualname := "ShapeError", subclasses := [.ref 61] }, slots := #[some (.ref 22), none, some (.str "ShapeError" 196), some (.str "ShapeError" 204), some (.builtin "Exception.__new__"), some (.bool true)] }),
  (60, { cls := .type "dict", data := .dict #[kv P "__module__" 245 (.str "joinedhand.errors" 194), kv P "__firstlineno__" 249 (.int 14 248), kv P "__static_attributes__" 250 (.ref 59), kv P "__doc__" 251 (.none)] 2 }),
  (61, { cls := .type "type", data := .cls { name := "PlanFault", bases := [.ref 48], mro := [.ref 61, .ref 48, .type "Exception", .type "BaseException", .type "object"], ns := 60, qualname := "PlanFault" }, slots := #[some (.ref 52), none, some (.str "PlanFault" 238), some (.str "PlanFault" 246), some (.builtin "Exception.__new__"), some (.bool true)] }),
  (71, { cls := .type "tuple", data := .seq #[.int 1 268, .int 0 269, .int (-1) 271] }),
  (77, { cls := .type "code", data := .fields #[.str "__init__" 272, .str "Wish.__init__" 273, .str "/claim/cut.py" 274, .int 19 0, .int 5 0, .int 0 0, .int 0 0, .int 3 0, .ref 72, .bool true, .int 181 0, .ref 73, .none, .ref 74, .ref 75, .ref 76, .int 280 0, .int 19 0, .str "/claim/cut.py" 281] }),
  (78, { cls := .type "function", data := .func { name := "__init__", qualname := "Wish.__init__", params := argsOf (stAt (bodyOf (stAt topS 5)) 0), body := .stmts (bodyOf (stAt (bodyOf (stAt topS 5)) 0)), scope := scopeOf (stAt (bodyOf (stAt topS 5)) 0), globals := 3, closure := [], defaults := .ref 71, kwdefaults := .none, pyModule := .str "joinedhand.plan" 254, code := .ref 77 } }),
  (84, { cls := .type "code", data := .fields #[.str "is_whole" 283, .str "Wish.is_whole" 284, .str "/claim/cut.py" 285, .int 25 0, .int 1 0, .int 0 0, .int 0 0, .int 3 0, .ref 79, .bool true, .int 181 0, .ref 80, .none, .ref 81, .ref 82, .ref 83, .int 287 0, .int 25 0, .str "/claim/cut.py" 288] }),
  (85, { cls := .type "function", data := .func { name := "is_whole", qualname := "Wish.is_whole", params := argsOf (stAt (bodyOf (stAt topS 5)) 1), body := .stmts (bodyOf (stAt (bodyOf (stAt topS 5)) 1)), scope := scopeOf (stAt (bodyOf (stAt topS 5)) 1), globals := 3, closure := [], defaults := .none, kwdefaults := .none, pyModule := .str "joinedhand.plan" 254, code := .ref 84 } }),
  (87, { cls := .type "dict", data := .dict #[kv P "__module__" 263 (.str "joinedhand.plan" 254), kv P "__firstlineno__" 267 (.int 17 266), kv P "__init__" 282 (.ref 78), kv P "is_whole" 289 (.ref 85), kv P "__static_attributes__" 294 (.ref 86), kv P "__dict__" 296 (.ref 89), kv P "__weakref__" 298 (.ref 90), kv P "__doc__" 299 (.none)] 4 }),
  (88, { cls := .type "type", data := .cls { name := "Wish", bases := [.type "object"], mro := [.ref 88, .type "object"], ns := 87, qualname := "Wish" }, slots := #[none, none, some (.str "Wish" 256), some (.str "Wish" 264), some (.builtin "object.__new__"), some (.bool true)] }),
  (105, { cls := .type "code", data := .fields #[.str "__init__" 316, .str "Shaped.__init__" 317, .str "/claim/cut.py" 318, .int 30 0, .int 3 0, .int 0 0, .int 0 0, .int 3 0, .ref 100, .bool true, .int 181 0, .ref 101, .none, .ref 102, .ref 103, .ref 104, .int 322 0, .int 30 0, .str "/claim/cut.py" 323] }),
  (106, { cls := .type "function", data := .func { name := "__init__", qualname := "Shaped.__init__", params := argsOf (stAt (bodyOf (stAt topS 7)) 0), body := .stmts (bodyOf (stAt (bodyOf (stAt topS 7)) 0)), scope := scopeOf (stAt (bodyOf (stAt topS 7)) 0), globals := 3, closure := [], defaults := .none, kwdefaults := .none, pyModule := .str "joinedhand.shaper" 302, code := .ref 105 } }),
  (115, { cls := .type "dict", data := .dict #[kv P "__module__" 311 (.str "joinedhand.shaper" 302), kv P "__firstlineno__" 315 (.int 28 314), kv P "__init__" 324 (.ref 106), kv P "told" 331 (.ref 113), kv P "__static_attributes__" 334 (.ref 114), kv P "__dict__" 336 (.ref 117), kv P "__weakref__" 338 (.ref 118), kv P "__doc__" 339 (.none)] 4 }),
  (116, { cls := .type "type", data := .cls { name := "Shaped", bases := [.type "object"], mro := [.ref 116, .type "object"], ns := 115, qualname := "Shaped" }, slots := #[none, none, some (.str "Shaped" 304), some (.str "Shaped" 312), some (.builtin "object.__new__"), some (.bool true)] }),
  (124, { cls := .type "code", data := .fields #[.str "clusters_in" 350, .str "clusters_in" 351, .str "/claim/cut.py" 352, .int 40 0, .int 1 0, .int 0 0, .int 0 0, .int 3 0, .ref 121, .bool true, .int 181 0, .ref 122, .none, .none, .none, .ref 123, .int 353 0, .int 40 0, .str "/claim/cut.py" 354] }),
  (125, { cls := .type "function", data := .func { name := "clusters_in", qualname := "clusters_in", params := argsOf (stAt topS 12), body := .stmts (bodyOf (stAt topS 12)), scope := scopeOf (stAt topS 12), globals := 3, closure := [], defaults := .none, kwdefaults := .none, pyModule := .str "joinedhand.safety" 342, code := .ref 124 } }),
  (129, { cls := .type "code", data := .fields #[.str "unsafe_clusters" 356, .str "unsafe_clusters" 357, .str "/claim/cut.py" 358, .int 42 0, .int 1 0, .int 0 0, .int 0 0, .int 3 0, .ref 126, .bool true, .int 181 0, .ref 127, .none, .none, .none, .ref 128, .int 359 0, .int 42 0, .str "/claim/cut.py" 360] }),
  (130, { cls := .type "function", data := .func { name := "unsafe_clusters", qualname := "unsafe_clusters", params := argsOf (stAt topS 13), body := .stmts (bodyOf (stAt topS 13)), scope := scopeOf (stAt topS 13), globals := 3, closure := [], defaults := .none, kwdefaults := .none, pyModule := .str "joinedhand.safety" 342, code := .ref 129 } }),
  (134, { cls := .type "code", data := .fields #[.str "break_places" 362, .str "break_places" 363, .str "/claim/cut.py" 364, .int 44 0, .int 2 0, .int 0 0, .int 0 0, .int 3 0, .ref 131, .bool true, .int 181 0, .ref 132, .none, .none, .none, .ref 133, .int 365 0, .int 44 0, .str "/claim/cut.py" 366] }),
  (135, { cls := .type "function", data := .func { name := "break_places", qualname := "break_places", params := argsOf (stAt topS 14), body := .stmts (bodyOf (stAt topS 14)), scope := scopeOf (stAt topS 14), globals := 3, closure := [], defaults := .none, kwdefaults := .none, pyModule := .str "joinedhand.safety" 342, code := .ref 134 } }),
  (141, { cls := .type "code", data := .fields #[.str "stretch_of" 368, .str "stretch_of" 369, .str "/claim/cut.py" 370, .int 47 0, .int 2 0, .int 0 0, .int 0 0, .int 3 0, .ref 136, .bool true, .int 181 0, .ref 137, .none, .ref 138, .ref 139, .ref 140, .int 375 0, .int 47 0, .str "/claim/cut.py" 376] }),
  (142, { cls := .type "function", data := .func { name := "stretch_of", qualname := "stretch_of", params := argsOf (stAt topS 15), body := .stmts (bodyOf (stAt topS 15)), scope := scopeOf (stAt topS 15), globals := 3, closure := [], defaults := .none, kwdefaults := .none, pyModule := .str "joinedhand.safety" 342, code := .ref 141 } }),
  (146, { cls := .type "code", data := .fields #[.str "place_before" 378, .str "place_before" 379, .str "/claim/cut.py" 380, .int 54 0, .int 3 0, .int 0 0, .int 0 0, .int 3 0, .ref 143, .bool true, .int 181 0, .ref 144, .none, .none, .none, .ref 145, .int 381 0, .int 54 0, .str "/claim/cut.py" 382] }),
  (147, { cls := .type "function", data := .func { name := "place_before", qualname := "place_before", params := argsOf (stAt topS 16), body := .stmts (bodyOf (stAt topS 16)), scope := scopeOf (stAt topS 16), globals := 3, closure := [], defaults := .none, kwdefaults := .none, pyModule := .str "joinedhand.safety" 342, code := .ref 146 } }),
  (151, { cls := .type "code", data := .fields #[.str "place_behind" 384, .str "place_behind" 385, .str "/claim/cut.py" 386, .int 56 0, .int 3 0, .int 0 0, .int 0 0, .int 3 0, .ref 148, .bool true, .int 181 0, .ref 149, .none, .none, .none, .ref 150, .int 387 0, .int 56 0, .str "/claim/cut.py" 388] }),
  (152, { cls := .type "function", data := .func { name := "place_behind", qualname := "place_behind", params := argsOf (stAt topS 17), body := .stmts (bodyOf (stAt topS 17)), scope := scopeOf (stAt topS 17), globals := 3, closure := [], defaults := .none, kwdefaults := .none, pyModule := .str "joinedhand.safety" 342, code := .ref 151 } }),
  (158, { cls := .type "code", data := .fields #[.str "stretches" 390, .str "stretches" 391, .str "/claim/cut.py" 392, .int 58 0, .int 2 0, .int 0 0, .int 0 0, .int 3 0, .ref 153, .bool true, .int 181 0, .ref 154, .none, .ref 155, .ref 156, .ref 157, .int 396 0, .int 58 0, .str "/claim/cut.py" 397] }),
  (159, { cls := .type "function", data := .func { name := "stretches", qualname := "stretches", params := argsOf (stAt topS 18), body := .stmts (bodyOf (stAt topS 18)), scope := scopeOf (stAt topS 18), globals := 3, closure := [], defaults := .none, kwdefaults := .none, pyModule := .str "joinedhand.safety" 342, code := .ref 158 } }),
  (165, { cls := .type "code", data := .fields #[.str "wishes_within" 399, .str "wishes_within" 400, .str "/claim/cut.py" 401, .int 63 0, .int 3 0, .int 0 0, .int 0 0, .int 3 0, .ref 160, .bool true, .int 181 0, .ref 161, .none, .ref 162, .ref 163, .ref 164, .int 409 0, .int 63 0, .str "/claim/cut.py" 410] }),
  (166, { cls := .type "function", data := .func { name := "wishes_within", qualname := "wishes_within", params := argsOf (stAt topS 19), body := .stmts (bodyOf (stAt topS 19)), scope := scopeOf (stAt topS 19), globals := 3, closure := [], defaults := .none, kwdefaults := .none, pyModule := .str "joinedhand.safety" 342, code := .ref 165 } }),
  (170, { cls := .type "code", data := .fields #[.str "moved_rows" 412, .str "moved_rows" 413, .str "/claim/cut.py" 414, .int 73 0, .int 2 0, .int 0 0, .int 0 0, .int 3 0, .ref 167, .bool true, .int 181 0, .ref 168, .none, .none, .none, .ref 169, .int 415 0, .int 73 0, .str "/claim/cut.py" 416] }),
  (171, { cls := .type "function", data := .func { name := "moved_rows", qualname := "moved_rows", params := argsOf (stAt topS 20), body := .stmts (bodyOf (stAt topS 20)), scope := scopeOf (stAt topS 20), globals := 3, closure := [], defaults := .none, kwdefaults := .none, pyModule := .str "joinedhand.safety" 342, code := .ref 170 } }),
  (177, { cls := .type "code", data := .fields #[.str "joined_pieces" 418, .str "joined_pieces" 419, .str "/claim/cut.py" 420, .int 75 0, .int 3 0, .int 0 0, .int 0 0, .int 3 0, .ref 172, .bool true, .int 181 0, .ref 173, .none, .ref 174, .ref 175, .ref 176, .int 428 0, .int 75 0, .str "/claim/cut.py" 429] }),
  (178, { cls := .type "function", data := .func { name := "joined_pieces", qualname := "joined_pieces", params := argsOf (stAt topS 21), body := .stmts (bodyOf (stAt topS 21)), scope := scopeOf (stAt topS 21), globals := 3, closure := [], defaults := .none, kwdefaults := .none, pyModule := .str "joinedhand.safety" 342, code := .ref 177 } }),
  (182, { cls := .type "code", data := .fields #[.str "advance_between" 431, .str "advance_between" 432, .str "/claim/cut.py" 433, .int 81 0, .int 3 0, .int 0 0, .int 0 0, .int 3 0, .ref 179, .bool true, .int 181 0, .ref 180, .none, .none, .none, .ref 181, .int 434 0, .int 81 0, .str "/claim/cut.py" 435] }),
  (183, { cls := .type "function", data := .func { name := "advance_between", qualname := "advance_between", params := argsOf (stAt topS 22), body := .stmts (bodyOf (stAt topS 22)), scope := scopeOf (stAt topS 22), globals := 3, closure := [], defaults := .none, kwdefaults := .none, pyModule := .str "joinedhand.safety" 342, code := .ref 182 } }),
  (187, { cls := .type "code", data := .fields #[.str "line_end" 437, .str "line_end" 438, .str "/claim/cut.py" 439, .int 83 0, .int 4 0, .int 0 0, .int 0 0, .int 3 0, .ref 184, .bool true, .int 181 0, .ref 185, .none, .none, .none, .ref 186, .int 440 0, .int 83 0, .str "/claim/cut.py" 441] }),
  (188, { cls := .type "function", data := .func { name := "line_end", qualname := "line_end", params := argsOf (stAt topS 23), body := .stmts (bodyOf (stAt topS 23)), scope := scopeOf (stAt topS 23), globals := 3, closure := [], defaults := .none, kwdefaults := .none, pyModule := .str "joinedhand.safety" 342, code := .ref 187 } }),
  (194, { cls := .type "code", data := .fields #[.str "lines_of" 443, .str "lines_of" 444, .str "/claim/cut.py" 445, .int 87 0, .int 3 0, .int 0 0, .int 0 0, .int 3 0, .ref 189, .bool true, .int 181 0, .ref 190, .none, .ref 191, .ref 192, .ref 193, .int 452 0, .int 87 0, .str "/claim/cut.py" 453] }),
  (195, { cls := .type "function", data := .func { name := "lines_of", qualname := "lines_of", params := argsOf (stAt topS 24), body := .stmts (bodyOf (stAt topS 24)), scope := scopeOf (stAt topS 24), globals := 3, closure := [], defaults := .none, kwdefaults := .none, pyModule := .str "joinedhand.safety" 342, code := .ref 194 } }),
  (201, { cls := .type "code", data := .fields #[.str "rows_between" 455, .str "rows_between" 456, .str "/claim/cut.py" 457, .int 95 0, .int 3 0, .int 0 0, .int 0 0, .int 3 0, .ref 196, .bool true, .int 181 0, .ref 197, .none, .ref 198, .ref 199, .ref 200, .int 463 0, .int 95 0, .str "/claim/cut.py" 464] }),
  (202, { cls := .type "function", data := .func { name := "rows_between", qualname := "rows_between", params := argsOf (stAt topS 25), body := .stmts (bodyOf (stAt topS 25)), scope := scopeOf (stAt topS 25), globals := 3, closure := [], defaults := .none, kwdefaults := .none, pyModule := .str "joinedhand.safety" 342, code := .ref 201 } }),
  (206, { cls := .type "code", data := .fields #[.str "shaped_lines" 466, .str "shaped_lines" 467, .str "/claim/cut.py" 468, .int 101 0, .int 3 0, .int 0 0, .int 0 0, .int 3 0, .ref 203, .bool true, .int 181 0, .ref 204, .none, .none, .none, .ref 205, .int 469 0, .int 101 0, .str "/claim/cut.py" 470] }),
  (207, { cls := .type "function", data := .func { name := "shaped_lines", qualname := "shaped_lines", params := argsOf (stAt topS 26), body := .stmts (bodyOf (stAt topS 26)), scope := scopeOf (stAt topS 26), globals := 3, closure := [], defaults := .none, kwdefaults := .none, pyModule := .str "joinedhand.safety" 342, code := .ref 206 } }),
  (211, { cls := .type "code", data := .fields #[.str "_law_pen" 474, .str "_law_pen" 475, .str "/claim/cut.py" 476, .int 104 0, .int 1 0, .int 0 0, .int 0 0, .int 3 0, .ref 208, .bool true, .int 181 0, .ref 209, .none, .none, .none, .ref 210, .int 477 0, .int 104 0, .str "/claim/cut.py" 478] }),
  (212, { cls := .type "function", data := .func { name := "_law_pen", qualname := "_law_pen", params := argsOf (stAt topS 28), body := .stmts (bodyOf (stAt topS 28)), scope := scopeOf (stAt topS 28), globals := 3, closure := [], defaults := .none, kwdefaults := .none, pyModule := .str "law_nu0153_01" 472, code := .ref 211 } }),
  (218, { cls := .type "code", data := .fields #[.str "_law_draw" 480, .str "_law_draw" 481, .str "/claim/cut.py" 482, .int 113 0, .int 2 0, .int 0 0, .int 0 0, .int 3 0, .ref 213, .bool true, .int 181 0, .ref 214, .none, .ref 215, .ref 216, .ref 217, .int 487 0, .int 113 0, .str "/claim/cut.py" 488] }),
  (219, { cls := .type "function", data := .func { name := "_law_draw", qualname := "_law_draw", params := argsOf (stAt topS 29), body := .stmts (bodyOf (stAt topS 29)), scope := scopeOf (stAt topS 29), globals := 3, closure := [], defaults := .none, kwdefaults := .none, pyModule := .str "law_nu0153_01" 472, code := .ref 218 } }),
  (225, { cls := .type "code", data := .fields #[.str "_law_rows" 490, .str "_law_rows" 491, .str "/claim/cut.py" 492, .int 124 0, .int 1 0, .int 0 0, .int 0 0, .int 3 0, .ref 220, .bool true, .int 181 0, .ref 221, .none, .ref 222, .ref 223, .ref 224, .int 498 0, .int 124 0, .str "/claim/cut.py" 499] }),
  (226, { cls := .type "function", data := .func { name := "_law_rows", qualname := "_law_rows", params := argsOf (stAt topS 30), body := .stmts (bodyOf (stAt topS 30)), scope := scopeOf (stAt topS 30), globals := 3, closure := [], defaults := .none, kwdefaults := .none, pyModule := .str "law_nu0153_01" 472, code := .ref 225 } }),
  (232, { cls := .type "code", data := .fields #[.str "_law_cut" 501, .str "_law_cut" 502, .str "/claim/cut.py" 503, .int 133 0, .int 2 0, .int 0 0, .int 0 0, .int 3 0, .ref 227, .bool true, .int 181 0, .ref 228, .none, .ref 229, .ref 230, .ref 231, .int 506 0, .int 133 0, .str "/claim/cut.py" 507] }),
  (233, { cls := .type "function", data := .func { name := "_law_cut", qualname := "_law_cut", params := argsOf (stAt topS 31), body := .stmts (bodyOf (stAt topS 31)), scope := scopeOf (stAt topS 31), globals := 3, closure := [], defaults := .none, kwdefaults := .none, pyModule := .str "law_nu0153_01" 472, code := .ref 232 } }),
  (239, { cls := .type "code", data := .fields #[.str "_law_wish" 509, .str "_law_wish" 510, .str "/claim/cut.py" 511, .int 138 0, .int 2 0, .int 0 0, .int 0 0, .int 3 0, .ref 234, .bool true, .int 181 0, .ref 235, .none, .ref 236, .ref 237, .ref 238, .int 514 0, .int 138 0, .str "/claim/cut.py" 515] }),
  (240, { cls := .type "function", data := .func { name := "_law_wish", qualname := "_law_wish", params := argsOf (stAt topS 32), body := .stmts (bodyOf (stAt topS 32)), scope := scopeOf (stAt topS 32), globals := 3, closure := [], defaults := .none, kwdefaults := .none, pyModule := .str "law_nu0153_01" 472, code := .ref 239 } }),
  (244, { cls := .type "code", data := .fields #[.str "law" 517, .str "law" 518, .str "/claim/cut.py" 519, .int 140 0, .int 1 0, .int 0 0, .int 0 0, .int 3 0, .ref 241, .bool true, .int 181 0, .ref 242, .none, .none, .none, .ref 243, .int 520 0, .int 140 0, .str "/claim/cut.py" 521] }),
  (245, { cls := .type "function", data := .func { name := "law", qualname := "law", params := argsOf (stAt topS 33), body := .stmts (bodyOf (stAt topS 33)), scope := scopeOf (stAt topS 33), globals := 3, closure := [], defaults := .none, kwdefaults := .none, pyModule := .str "law_nu0153_01" 472, code := .ref 244 } })]
noncomputable def fkAt : List Addr := [2, 3, 25, 30, 37, 38, 47, 48, 60, 61, 71, 77, 78, 84, 85, 87, 88, 105, 106, 115, 116, 124, 125, 129, 130, 134, 135, 141, 142, 146, 147, 151, 152, 158, 159, 165, 166, 170, 171, 177, 178, 182, 183, 187, 188, 194, 195, 201, 202, 206, 207, 211, 212, 218, 219, 225, 226, 232, 233, 239, 240, 244, 245]
theorem fkAt_ok (P : Params) : fkAt = (fk P).map (·.1) := rfl
noncomputable def looseS : List Str := ["ShapeError"]
noncomputable def XtS (s : Shared) : Bool := xlAt vw [] s && recOk (RowW.records PySem.Challenge.rw_nu0153_01.row.toRowW) s
set_option maxHeartbeats 8000000 in
theorem top_run (w : World) (os : OsState) : (topFrom treeTable PySem.Challenge.pw_nu0153_01 w 3590 ⟨boot_heap w.params, #[], boot_drawn, boot_toks, os⟩).map (fun s => (openSeen vw looseS (importedModules PySem.Challenge.pw_nu0153_01.main.body) XtS true s, fkAt.map s.heap.get?)) =
    some (openGood vw looseS, (fk w.params).map fun p => some p.2) := by
  unfold topFrom
  rw [PySem.W.Fast.te14082659384304107361, PySem.W.Fast.te14364793385576792824]
  kernel_rfl
end Mine
end

section
set_option linter.unusedVariables false
open PySem PySem.W PyProof.Rows
set_option maxRecDepth 100000
set_option maxHeartbeats 8000000
namespace Mine
theorem law_well : PySem.Challenge.rw_nu0153_01.wellSaid = true := by kernel_rfl
noncomputable abbrev hkk : Hook := kHook fk fkAt fkAt_ok
theorem law_open : opening PySem.Challenge.pw_nu0153_01 = plainProg PySem.Challenge.pw_nu0153_01.main.scope.names := by kernel_rfl
theorem law_left : LeftO PySem.Challenge.rw_nu0153_01.row.prog vw looseS XtS hkk.obs hkk.val 3590 := fun w => by
  obtain ⟨⟨h, gs, d, k, os⟩, e, e'⟩ := Option.map_eq_some_iff.mp (boot_open (p := PySem.Challenge.pw_nu0153_01) (N := 3590) law_open (by decide) (fun _ => rfl) w)
  obtain ⟨rfl, rfl, rfl, rfl⟩ : h = boot_heap w.params ∧ gs = #[] ∧ d = boot_drawn ∧ k = boot_toks := by simpa using e'
  show (openEnds treeTable PySem.Challenge.pw_nu0153_01 w 3590).map _ = _
  unfold openEnds
  rw [e]
  exact top_run w os
noncomputable def posOf : Stmt → Pos
  | .FunctionDef _ _ _ _ _ _ _ _ _ p => p
  | _ => ⟨0, 0, 0, 0⟩
noncomputable def dLaw : DefRec := { name := "law", params := argsOf (stAt topS 33), body := bodyOf (stAt topS 33), scope := scopeOf (stAt topS 33), pos := posOf (stAt topS 33) }
theorem hd (walk : WalkO vw looseS (XL vw []) hkk.says PySem.Challenge.rw_nu0153_01.row.toRowW dLaw [] fun f vs => PySem.call f vs) : PySem.Challenge.rw_nu0153_01.Holds :=
  holds_law law_well fun said => holds_open law_left hkk.of hkk.keeps (fun s e => xl_of s (Bool.and_eq_true_iff.mp e).1) XL.keeps (by rfl) (by rfl) (by rfl) (fun s e => recFacts_of (Bool.and_eq_true_iff.mp e).2) (by rfl) said (by kernel_rfl) ⟨rfl, rfl, rfl, rfl, rfl, by decide +kernel⟩ (by w_witness2) walk
end Mine
end

section
set_option linter.unusedVariables false
open PySem PySem.W PyProof.Rows
set_option maxRecDepth 100000
namespace Mine
noncomputable def ads : Ads := ⟨125, 130, 135, 142, 147, 152, 159, 166, 171, 178, 183, 188, 195, 202, 207, 212, 219, 226, 233, 240, 116, 106, 88, 78, 85, 61, 48, 38, 71⟩
set_option maxHeartbeats 4000000
section
variable (P : Params)
theorem top_G : Gl (fk P) := ⟨fun x hx => by simp [builtinNames] at hx; rcases hx with rfl | rfl | rfl | rfl | rfl | rfl | rfl | rfl | rfl | rfl | rfl | rfl | rfl <;> rfl, ⟨_, rfl⟩, ⟨_, rfl⟩, ⟨_, rfl⟩⟩
theorem top_f12 : FnAt (fk P) 125 (stAt topS 12) := ⟨⟨_, _, _, _, _, _, _, _, rfl, rfl⟩, rfl, rfl⟩
theorem top_f13 : FnAt (fk P) 130 (stAt topS 13) := ⟨⟨_, _, _, _, _, _, _, _, rfl, rfl⟩, rfl, rfl⟩
theorem top_f14 : FnAt (fk P) 135 (stAt topS 14) := ⟨⟨_, _, _, _, _, _, _, _, rfl, rfl⟩, rfl, rfl⟩
theorem top_f15 : FnAt (fk P) 142 (stAt topS 15) := ⟨⟨_, _, _, _, _, _, _, _, rfl, rfl⟩, rfl, rfl⟩
theorem top_f16 : FnAt (fk P) 147 (stAt topS 16) := ⟨⟨_, _, _, _, _, _, _, _, rfl, rfl⟩, rfl, rfl⟩
theorem top_f17 : FnAt (fk P) 152 (stAt topS 17) := ⟨⟨_, _, _, _, _, _, _, _, rfl, rfl⟩, rfl, rfl⟩
theorem top_f18 : FnAt (fk P) 159 (stAt topS 18) := ⟨⟨_, _, _, _, _, _, _, _, rfl, rfl⟩, rfl, rfl⟩
theorem top_f19 : FnAt (fk P) 166 (stAt topS 19) := ⟨⟨_, _, _, _, _, _, _, _, rfl, rfl⟩, rfl, rfl⟩
theorem top_f20 : FnAt (fk P) 171 (stAt topS 20) := ⟨⟨_, _, _, _, _, _, _, _, rfl, rfl⟩, rfl, rfl⟩
theorem top_f21 : FnAt (fk P) 178 (stAt topS 21) := ⟨⟨_, _, _, _, _, _, _, _, rfl, rfl⟩, rfl, rfl⟩
theorem top_f22 : FnAt (fk P) 183 (stAt topS 22) := ⟨⟨_, _, _, _, _, _, _, _, rfl, rfl⟩, rfl, rfl⟩
theorem top_f23 : FnAt (fk P) 188 (stAt topS 23) := ⟨⟨_, _, _, _, _, _, _, _, rfl, rfl⟩, rfl, rfl⟩
theorem top_f24 : FnAt (fk P) 195 (stAt topS 24) := ⟨⟨_, _, _, _, _, _, _, _, rfl, rfl⟩, rfl, rfl⟩
theorem top_f25 : FnAt (fk P) 202 (stAt topS 25) := ⟨⟨_, _, _, _, _, _, _, _, rfl, rfl⟩, rfl, rfl⟩
theorem top_f26 : FnAt (fk P) 207 (stAt topS 26) := ⟨⟨_, _, _, _, _, _, _, _, rfl, rfl⟩, rfl, rfl⟩
theorem top_f28 : FnAt (fk P) 212 (stAt topS 28) := ⟨⟨_, _, _, _, _, _, _, _, rfl, rfl⟩, rfl, rfl⟩
theorem top_f29 : FnAt (fk P) 219 (stAt topS 29) := ⟨⟨_, _, _, _, _, _, _, _, rfl, rfl⟩, rfl, rfl⟩
theorem top_f30 : FnAt (fk P) 226 (stAt topS 30) := ⟨⟨_, _, _, _, _, _, _, _, rfl, rfl⟩, rfl, rfl⟩
theorem top_f31 : FnAt (fk P) 233 (stAt topS 31) := ⟨⟨_, _, _, _, _, _, _, _, rfl, rfl⟩, rfl, rfl⟩
theorem top_f32 : FnAt (fk P) 240 (stAt topS 32) := ⟨⟨_, _, _, _, _, _, _, _, rfl, rfl⟩, rfl, rfl⟩
theorem top_shaped : MakeAt (fk P) 116 106 ["rows", "is_backward"] (stAt (bodyOf (stAt topS 7)) 0) .none :=
  ⟨rfl, rfl, rfl, ⟨_, _, _, _, _, _, _, _, _, rfl, rfl⟩, ⟨rfl, rfl, rfl⟩, fun y hy => by simp at hy; rcases hy with rfl | rfl <;> exact ⟨rfl⟩⟩
theorem top_wish : MakeAt (fk P) 88 78 ["tag", "value", "begin", "end"] (stAt (bodyOf (stAt topS 5)) 0) (.ref 71) :=
  ⟨rfl, rfl, rfl, ⟨_, _, _, _, _, _, _, _, _, rfl, rfl⟩, ⟨rfl, rfl, rfl⟩, fun y hy => by simp at hy; rcases hy with rfl | rfl | rfl | rfl <;> exact ⟨rfl⟩⟩
theorem top_rowsA : AttrOK (fk P) 116 "rows" := ⟨rfl, rfl, none, rfl, rfl⟩
theorem top_backA : AttrOK (fk P) 116 "is_backward" := ⟨rfl, rfl, none, rfl, rfl⟩
theorem top_wishA (x : Str) (hx : x ∈ (["tag", "value", "begin", "end"] : List Str)) : AttrOK (fk P) 88 x := by
  simp at hx; rcases hx with rfl | rfl | rfl | rfl <;> exact ⟨rfl, rfl, none, rfl, rfl⟩
theorem top_whole : MethOK (fk P) 88 "is_whole" 85 := ⟨rfl, rfl, rfl, rfl⟩
theorem top_wholeR : MetAt (fk P) 85 (stAt (bodyOf (stAt topS 5)) 1) := ⟨⟨_, _, _, _, _, _, _, _, _, rfl, rfl⟩⟩
theorem top_fault : ExcAt (fk P) 61 48 38 "/claim/cut.py" :=
  ⟨⟨_, _, _, _, _, _, _, _, _, _, _, _, _, _, _, rfl⟩, ⟨_, rfl, rfl, rfl⟩, ⟨_, rfl⟩, rfl, rfl, rfl, rfl, rfl, rfl, rfl, rfl, ⟨_, _, _, _, _, _, _, _, _, _, _, _, _, _, _, _, _, _, _, _, _, _, rfl, rfl, rfl, rfl, rfl, rfl, rfl⟩⟩
theorem top_ok : TopOK (fk P) ads :=
  ⟨top_G P, top_f12 P, top_f13 P, top_f14 P, top_f15 P, top_f16 P, top_f17 P, top_f18 P, top_f19 P, top_f20 P, top_f21 P, top_f22 P, top_f23 P, top_f24 P, top_f25 P, top_f26 P, top_f28 P, top_f29 P, top_f30 P, top_f31 P, top_f32 P,
    rfl, rfl, top_rowsA P, top_backA P, top_shaped P, rfl, rfl, ⟨top_wishA P _ (by simp), top_wishA P _ (by simp), top_wishA P _ (by simp), top_wishA P _ (by simp), top_whole P, top_wholeR P⟩, top_wish P, ⟨_, _, _, _, _, rfl, rfl⟩, top_fault P, rfl⟩
end
end Mine
end

set_option linter.unusedVariables false
open PySem PySem.W PyProof.Rows
set_option maxRecDepth 100000
namespace Mine
theorem top_law (P : Params) : FnAt (fk P) 245 (stAt topS 33) := ⟨⟨_, _, _, _, _, _, _, _, rfl, rfl⟩, rfl, rfl⟩
theorem well_ints {P : Params} {h : Heap} {X : Addr → Prop} {ns : List Int} {vs : List Value} : WellAll P h vs (ofPys (ns.map .int)) → RepAll X h vs (nums ns) := by
  induction ns generalizing vs with
  | nil => intro w; cases w; exact .nil
  | cons n ns ih =>
    intro w
    cases w with
    | cons a r => cases a; exact .cons (.int _ _) (ih r)
theorem lv_caller : Lv 7 callerA := ⟨rfl, by decide, by decide⟩
end Mine
set_option maxHeartbeats 8000000 in
theorem PySem.Challenge.cw_nu0153_01_holds : PySem.Challenge.rw_nu0153_01.Holds := by
  exact Mine.hd (by
  intro w s₀ s₁ mg mb G Y fa o pm cd doc dV kV ho hd hcd hD hmg hg args vals as hpre hlay hrd hwl hlo
  have KX := kIn_of Y
  refine Ground.open G ?_
  intro T B D TE TW
  wrow_args hpre hlay hrd hwl hlo
  all_goals (
    first | refine callC_kw (enter_call ?_) | refine enter_call ?_ | refine callC_kw (enter_callW ?_) | refine enter_callW ?_ | w_how
    w_top on
    try refine codeAny_mono ?_ (fun _ _ g => GoodW.toG g))
  rename_i ns hs hlay0 hL1 hr1 hl2 a1 a2 l vs a3 hL ra w1 r0 hI hr hc1 hc2
  have hfa : fa = 245 := by
    have h1 := mg_of KX T.g (n := "law") (v := .ref 245) rfl
    have h2 : mg "law" = some (.ref fa) := hmg
    rw [h1] at h2
    cases h2; rfl
  subst hfa
  have hn : ns.length ≤ 63 := by omega
  cases w1 with
  | list he wa =>
    have TR : Mine.Top0 (Mine.fk w.params) s₁.heap := ⟨KX, _, _, _, _, topRead_of T⟩
    refine codeAny_mono (Mine.law_call (n := 0) (X := fun _ => False) TR (Mine.top_ok w.params) (Mine.top_law w.params) rfl rfl rfl Mine.lv_caller ⟨fun a x => x.elim, fun b o e => e⟩ hn (.cons (.list (n := 0) (fun x => x) he (Mine.well_ints wa)) .nil)) (fun r s' ⟨e1, h', tk, e2, hk⟩ => ?_)
    subst e1; subst e2
    refine ⟨.inl ⟨.bool true, .bool true, [], rfl, fun _ => rfl, .bool true, ?_, fun _ => ⟨List.nodup_nil, fun a ha => by cases ha⟩⟩, hk, rfl, hg⟩
    first | with_unfolding_all rfl | kernel_rfl)

