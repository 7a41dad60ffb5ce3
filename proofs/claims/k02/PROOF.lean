import PyProof.Rows.All
import Wide.All
import OpenK.AllK
import Wide.FinOn
import HandS.ForMost
import HandS.ForExc
import HandS.Wide
import HandS.SetKeys
import HandS.IsInst
import HandS.Style
import HandS.Codes
import PySem.Challenge.RW_gobetween_k02_words_and_numbers
set_option Elab.async false
set_option linter.all false
set_option maxRecDepth 100000
set_option maxHeartbeats 4000000
section
/-! VI1: plain values, how they stand in the abstract heap, the state of a def's frame, what a piece of code leaves alone. -/
namespace VI
open PySem L2

/-- plain data: lists and dicts by value -/
inductive D where
  | non | bl (b : Bool) | int (i : Int) | str (x : Str)
  | tup (ds : List D) | lst (ds : List D) | frl (ds : List D)
  | dct (ks : List Key) (ds : List D) | dcT (ks : List (List Key)) (ds : List D)
  | set (ks : List Key)
  | obj (c : Nat) (fs : List Str) (ds : List D)
  | fn (i : Nat) | cls (c : Nat) | ty (n : String)

/-- what the program's names stand for -/
structure Ctx where
  K : PySem.W.Frag
  CA : Nat → Addr
  FA : Nat → Addr

/-- a tuple of the written part -/
def KTup (K : PySem.W.Frag) (a : Addr) (xs : List V) : Prop :=
  ∃ (o : Obj) (its : Array Value) (n : Nat), K.lookup a = some o ∧ o.cls = .type "tuple" ∧ o.data = .seq its n ∧ its.size ≤ sizeLine ∧ Vals xs its.toList
/-- a list of the written part -/
def KLst (K : PySem.W.Frag) (a : Addr) (xs : List V) : Prop :=
  ∃ (o : Obj) (its : Array Value) (n : Nat), K.lookup a = some o ∧ o.cls = .type "list" ∧ o.dict = none ∧ o.data = .seq its n ∧ its.size ≤ sizeLine ∧ Vals xs its.toList
def core : HO → HO
  | .frz _ u => u
  | u => u
def dicty : HO → Bool
  | .dK _ => true
  | .dT _ => true
  | _ => false
/-- o' holds what o holds: the same, or a dict locked or let go -/
def Keep (o o' : HO) : Prop := o' = o ∨ (dicty (core o) = true ∧ core o' = core o)
theorem Keep.rfl' {o : HO} : Keep o o := .inl rfl
theorem Keep.trans {a b c : HO} (x : Keep a b) (y : Keep b c) : Keep a c := by
  rcases x with rfl | ⟨x1, x2⟩
  · exact y
  · rcases y with rfl | ⟨y1, y2⟩
    · exact .inr ⟨x1, x2⟩
    · exact .inr ⟨x1, y2.trans x2⟩
theorem Keep.eq {a b : HO} (x : Keep a b) (h : dicty (core a) = false) : b = a := by
  rcases x with rfl | ⟨x1, x2⟩
  · rfl
  · rw [h] at x1; cases x1
theorem core_rd {H : Hp} {a : Addr} {o u : HO} (h : H a = some o) (e : core o = u) : Rd H a u := by
  cases o with
  | frz ob v => cases e; exact .inr ⟨ob, h⟩
  | _ => cases e; exact .inl h

mutual
/-- v bears the value d; all of its lists, dicts and objects are shared (in S) -/
def Rp (G : Ctx) (S : Addr → Prop) (H : Hp) : D → V → Prop
  | .non, v => v = .non
  | .bl b, v => v = .bl b
  | .int i, v => v = .int i
  | .str x, v => v = .str x
  | .tup ds, v => ∃ a vs, v = .ref a ∧ ((S a ∧ H a = some (.tup vs)) ∨ KTup G.K a vs) ∧ RpL G S H ds vs
  | .lst ds, v => ∃ a vs, v = .ref a ∧ S a ∧ H a = some (.lst vs) ∧ RpL G S H ds vs
  | .frl ds, v => ∃ a vs, v = .ref a ∧ ((S a ∧ Rd H a (.lst vs)) ∨ KLst G.K a vs) ∧ RpL G S H ds vs
  | .dct ks ds, v => ∃ a vs o, v = .ref a ∧ S a ∧ H a = some o ∧ core o = .dK (ks.zip vs) ∧ ks.length = vs.length ∧ RpL G S H ds vs
  | .dcT ks ds, v => ∃ a vs o, v = .ref a ∧ S a ∧ H a = some o ∧ core o = .dT (ks.zip vs) ∧ ks.length = vs.length ∧ RpL G S H ds vs
  | .set ks, v => False
  | .obj c fs ds, v => ∃ a dx vs, v = .ref a ∧ S a ∧ H a = some (.ins (G.CA c) dx (fs.zip vs)) ∧ fs.length = vs.length ∧ RpL G S H ds vs
  | .fn i, v => v = .ref (G.FA i)
  | .cls c, v => v = .ref (G.CA c)
  | .ty n, v => v = .ty n
def RpL (G : Ctx) (S : Addr → Prop) (H : Hp) : List D → List V → Prop
  | [], vs => vs = []
  | d :: ds, vs => ∃ v us, vs = v :: us ∧ Rp G S H d v ∧ RpL G S H ds us
end

/-- v bears d; what is in it is shared, the object itself may be held alone -/
def View (G : Ctx) (S : Addr → Prop) (H : Hp) : D → V → Prop
  | .lst ds, v => ∃ a vs, v = .ref a ∧ H a = some (.lst vs) ∧ RpL G S H ds vs
  | .frl ds, v => ∃ a vs, v = .ref a ∧ SqL G.K H a vs ∧ RpL G S H ds vs
  | .dct ks ds, v => ∃ a vs o, v = .ref a ∧ H a = some o ∧ core o = .dK (ks.zip vs) ∧ ks.length = vs.length ∧ RpL G S H ds vs
  | .dcT ks ds, v => ∃ a vs o, v = .ref a ∧ H a = some o ∧ core o = .dT (ks.zip vs) ∧ ks.length = vs.length ∧ RpL G S H ds vs
  | .obj c fs ds, v => ∃ a dx vs, v = .ref a ∧ H a = some (.ins (G.CA c) dx (fs.zip vs)) ∧ fs.length = vs.length ∧ RpL G S H ds vs
  | d, v => Rp G S H d v
/-- the object at a bears d on top; what is in it is shared -/
def Top (G : Ctx) (S : Addr → Prop) (H : Hp) (a : Addr) : D → Prop
  | .lst ds => ∃ vs, H a = some (.lst vs) ∧ RpL G S H ds vs
  | .dct ks ds => ∃ vs, H a = some (.dK (ks.zip vs)) ∧ ks.length = vs.length ∧ RpL G S H ds vs
  | .dcT ks ds => ∃ vs, H a = some (.dT (ks.zip vs)) ∧ ks.length = vs.length ∧ RpL G S H ds vs
  | .obj c fs ds => ∃ dx vs, H a = some (.ins (G.CA c) dx (fs.zip vs)) ∧ fs.length = vs.length ∧ RpL G S H ds vs
  | _ => False

theorem rd_stay {H H' : Hp} {a : Addr} {xs : List V} (hk : ∀ o, H a = some o → ∃ o', H' a = some o' ∧ Keep o o') (h : Rd H a (.lst xs)) : Rd H' a (.lst xs) := by
  rcases h with h | ⟨ob, h⟩
  · obtain ⟨o', e', k⟩ := hk _ h
    exact .inl (by rw [e', k.eq rfl])
  · obtain ⟨o', e', k⟩ := hk _ h
    exact .inr ⟨ob, by rw [e', k.eq rfl]⟩
section
variable {G : Ctx} {S S' : Addr → Prop} {H H' : Hp}
mutual
theorem Rp.stay (hs : ∀ a, S a → S' a) (hk : ∀ a o, S a → H a = some o → ∃ o', H' a = some o' ∧ Keep o o') : ∀ (d : D) (v : V), Rp G S H d v → Rp G S' H' d v
  | .non, v, h => h
  | .bl b, v, h => h
  | .int i, v, h => h
  | .str x, v, h => h
  | .tup ds, v, ⟨a, vs, e, h, r⟩ => by
    refine ⟨a, vs, e, ?_, RpL.stay hs hk ds vs r⟩
    rcases h with ⟨h1, h2⟩ | h
    · obtain ⟨o', e', k⟩ := hk a _ h1 h2
      exact .inl ⟨hs a h1, by rw [e', k.eq rfl]⟩
    · exact .inr h
  | .lst ds, v, ⟨a, vs, e, h1, h2, r⟩ => by
    obtain ⟨o', e', k⟩ := hk a _ h1 h2
    exact ⟨a, vs, e, hs a h1, by rw [e', k.eq rfl], RpL.stay hs hk ds vs r⟩
  | .frl ds, v, ⟨a, vs, e, h, r⟩ => by
    refine ⟨a, vs, e, ?_, RpL.stay hs hk ds vs r⟩
    rcases h with ⟨h1, h2⟩ | h
    · exact .inl ⟨hs a h1, rd_stay (fun o ho => hk a o h1 ho) h2⟩
    · exact .inr h
  | .dct ks ds, v, ⟨a, vs, o, e, h1, h2, h3, h4, r⟩ => by
    obtain ⟨o', e', k⟩ := hk a _ h1 h2
    refine ⟨a, vs, o', e, hs a h1, e', ?_, h4, RpL.stay hs hk ds vs r⟩
    rcases k with rfl | ⟨_, k⟩
    · exact h3
    · exact k.trans h3
  | .dcT ks ds, v, ⟨a, vs, o, e, h1, h2, h3, h4, r⟩ => by
    obtain ⟨o', e', k⟩ := hk a _ h1 h2
    refine ⟨a, vs, o', e, hs a h1, e', ?_, h4, RpL.stay hs hk ds vs r⟩
    rcases k with rfl | ⟨_, k⟩
    · exact h3
    · exact k.trans h3
  | .set ks, v, h => h
  | .obj c fs ds, v, ⟨a, dx, vs, e, h1, h2, h4, r⟩ => by
    obtain ⟨o', e', k⟩ := hk a _ h1 h2
    exact ⟨a, dx, vs, e, hs a h1, by rw [e', k.eq rfl], h4, RpL.stay hs hk ds vs r⟩
  | .fn i, v, h => h
  | .cls c, v, h => h
  | .ty n, v, h => h
theorem RpL.stay (hs : ∀ a, S a → S' a) (hk : ∀ a o, S a → H a = some o → ∃ o', H' a = some o' ∧ Keep o o') : ∀ (ds : List D) (vs : List V), RpL G S H ds vs → RpL G S' H' ds vs
  | [], vs, h => h
  | d :: ds, vs, ⟨v, us, e, h, r⟩ => ⟨v, us, e, Rp.stay hs hk d v h, RpL.stay hs hk ds us r⟩
end
end

/-! ### the slots of a frame -/
/-- nothing; a shared value; the only hold of a list, dict or object; the same, locked for a while -/
inductive Sl where
  | un | sh (d : D) | ow (d : D) | lk (d : D)
abbrev Rho := List Sl
/-- the slot that holds its object alone, and may change it -/
def OwAt (r : Rho) (t : L2.St) (a : Addr) : Prop := ∃ (i : Nat) (d : D), r[i]? = some (.ow d) ∧ t[i]? = some (some (.ref a))
def SlOk (G : Ctx) (S : Addr → Prop) (H : Hp) : Sl → Option V → Prop
  | .un, _ => True
  | .sh d, v => ∃ u, v = some u ∧ Rp G S H d u
  | .ow d, v => ∃ a, v = some (.ref a) ∧ ¬ S a ∧ Top G S H a d
  | .lk d, v => ∃ a, v = some (.ref a) ∧ ¬ S a ∧ H a ≠ none ∧ View G S H d (.ref a)
def Sl.held : Sl → Bool
  | .ow _ => true
  | .lk _ => true
  | _ => false
/-- the slots are as the state tells; no two of them hold the same object alone -/
structure Ok (G : Ctx) (S : Addr → Prop) (r : Rho) (t : L2.St) (H : Hp) : Prop where
  len : r.length = t.length
  sl : ∀ (i : Nat) (s : Sl) (v : Option V), r[i]? = some s → t[i]? = some v → SlOk G S H s v
  apart : ∀ (i j : Nat) (s s' : Sl) (a : Addr), r[i]? = some s → r[j]? = some s' → s.held = true → s'.held = true → t[i]? = some (some (.ref a)) → t[j]? = some (some (.ref a)) → i = j
  dom : ∀ a, S a → H a ≠ none
def HeldAt (r : Rho) (t : L2.St) (a : Addr) : Prop := ∃ (i : Nat) (s : Sl), r[i]? = some s ∧ s.held = true ∧ t[i]? = some (some (.ref a))
theorem OwAt.held {r : Rho} {t : L2.St} {a : Addr} (h : OwAt r t a) : HeldAt r t a := let ⟨i, d, e1, e2⟩ := h; ⟨i, _, e1, rfl, e2⟩
/-- what came behind: what was shared is shared and kept; all else but what the slots hold alone is kept; new shared things were held here or are new -/
structure Ext (S : Addr → Prop) (r : Rho) (t : L2.St) (H : Hp) (S' : Addr → Prop) (r' : Rho) (t' : L2.St) (H' : Hp) : Prop where
  up : ∀ a, S a → S' a
  down : ∀ a, S' a → S a ∨ OwAt r t a ∨ H a = none
  keep : ∀ a o, H a = some o → ¬ OwAt r t a → H' a = some o
  own : ∀ a, OwAt r' t' a → OwAt r t a ∨ H a = none
  hldI : ∀ (i : Nat) (s : Sl) (a : Addr), r'[i]? = some s → s.held = true → t'[i]? = some (some (.ref a)) → (∃ s0, r[i]? = some s0 ∧ s0.held = true ∧ t[i]? = some (some (.ref a))) ∨ H a = none
  lks : ∀ (i : Nat) (d : D), r'[i]? = some (.lk d) → r[i]? = some (.lk d) ∧ t'[i]? = t[i]?
  dom : ∀ a, H a ≠ none → H' a ≠ none
section
variable {G : Ctx} {S S' S'' : Addr → Prop} {r r' r'' : Rho} {t t' t'' : L2.St} {H H' H'' : Hp}
theorem Ext.refl : Ext S r t H S r t H := ⟨fun _ h => h, fun _ h => .inl h, fun a o h _ => h, fun _ h => .inl h, fun i s a e h e2 => .inl ⟨s, e, h, e2⟩, fun _ _ h => ⟨h, rfl⟩, fun _ h => h⟩
theorem Ext.trans (x : Ext S r t H S' r' t' H') (y : Ext S' r' t' H' S'' r'' t'' H'') : Ext S r t H S'' r'' t'' H'' where
  up := fun a h => y.up a (x.up a h)
  down := fun a h => by
    rcases y.down a h with h | h | h
    · exact x.down a h
    · exact .inr (x.own a h)
    · refine .inr (.inr ?_)
      cases e : H a with
      | none => rfl
      | some o => exact absurd h (x.dom a (by rw [e]; intro z; cases z))
  keep := fun a o h n => by
    have n' : ¬ OwAt r' t' a := fun z => (x.own a z).elim n fun z => by rw [h] at z; cases z
    exact y.keep a o (x.keep a o h n) n'
  own := fun a h => by
    rcases y.own a h with h | h
    · exact x.own a h
    · refine .inr ?_
      cases e : H a with
      | none => rfl
      | some o => exact absurd h (x.dom a (by rw [e]; intro z; cases z))
  hldI := fun i s a e1 h e2 => by
    rcases y.hldI i s a e1 h e2 with ⟨s0, e3, h3, e4⟩ | h
    · exact x.hldI i s0 a e3 h3 e4
    · refine .inr ?_
      cases e : H a with
      | none => rfl
      | some o => exact absurd h (x.dom a (by rw [e]; intro z; cases z))
  lks := fun i d h => by
    obtain ⟨h1, h2⟩ := y.lks i d h
    obtain ⟨h3, h4⟩ := x.lks i d h1
    exact ⟨h3, h2.trans h4⟩
  dom := fun a h => y.dom a (x.dom a h)
theorem Ext.hld (x : Ext S r t H S' r' t' H') (a : Addr) : HeldAt r' t' a → HeldAt r t a ∨ H a = none := fun ⟨i, s, e, h, e2⟩ => (x.hldI i s a e h e2).elim (fun ⟨s0, f1, f2, f3⟩ => .inl ⟨i, s0, f1, f2, f3⟩) .inr
theorem Ok.notOw (o : Ok G S r t H) {a : Addr} (h : S a) : ¬ OwAt r t a := fun ⟨i, d, e1, e2⟩ => by
  obtain ⟨b, e, n, _⟩ := o.sl i _ _ e1 e2
  cases e
  exact n h
theorem Ext.rp (x : Ext S r t H S' r' t' H') (o : Ok G S r t H) {d : D} {v : V} (h : Rp G S H d v) : Rp G S' H' d v :=
  Rp.stay x.up (fun a u hs e => ⟨u, x.keep a u e (o.notOw hs), .inl rfl⟩) d v h
theorem Ext.rpl (x : Ext S r t H S' r' t' H') (o : Ok G S r t H) {ds : List D} {vs : List V} (h : RpL G S H ds vs) : RpL G S' H' ds vs :=
  RpL.stay x.up (fun a u hs e => ⟨u, x.keep a u e (o.notOw hs), .inl rfl⟩) ds vs h
theorem RpL.length : ∀ {ds : List D} {vs : List V}, RpL G S H ds vs → ds.length = vs.length
  | [], _, h => by cases h; rfl
  | d :: ds, _, ⟨v, us, e, _, r⟩ => by subst e; simp [RpL.length r]
theorem RpL.get : ∀ {ds : List D} {vs : List V} {i : Nat} {d : D}, RpL G S H ds vs → ds[i]? = some d → ∃ v, vs[i]? = some v ∧ Rp G S H d v
  | [], _, i, d, h, e => by simp at e
  | d :: ds, _, 0, d', ⟨v, us, e, h, r⟩, q => by subst e; simp at q; subst q; exact ⟨v, by simp, h⟩
  | d :: ds, _, i + 1, d', ⟨v, us, e, h, r⟩, q => by
    subst e
    obtain ⟨u, h1, h2⟩ := RpL.get (i := i) (d := d') r (by simpa using q)
    exact ⟨u, by simpa using h1, h2⟩
theorem RpL.append : ∀ {ds es : List D} {vs us : List V}, RpL G S H ds vs → RpL G S H es us → RpL G S H (ds ++ es) (vs ++ us)
  | [], es, _, us, h, h' => by cases h; exact h'
  | d :: ds, es, _, us, ⟨v, ws, e, h, r⟩, h' => by subst e; exact ⟨v, ws ++ us, rfl, h, RpL.append r h'⟩
theorem RpL.take : ∀ {ds : List D} {vs : List V} (n : Nat), RpL G S H ds vs → RpL G S H (ds.take n) (vs.take n)
  | _, _, 0, _ => by simp [RpL]
  | [], _, n + 1, h => by cases h; simp [RpL]
  | d :: ds, _, n + 1, ⟨v, ws, e, h, r⟩ => by subst e; exact ⟨v, ws.take n, by simp, h, RpL.take n r⟩
theorem RpL.drop : ∀ {ds : List D} {vs : List V} (n : Nat), RpL G S H ds vs → RpL G S H (ds.drop n) (vs.drop n)
  | _, _, 0, h => by simpa using h
  | [], _, n + 1, h => by cases h; simp [RpL]
  | d :: ds, _, n + 1, ⟨v, ws, e, h, r⟩ => by subst e; simpa using RpL.drop n r
theorem RpL.set : ∀ {ds : List D} {vs : List V} (n : Nat) {d : D} {v : V}, RpL G S H ds vs → Rp G S H d v → RpL G S H (ds.set n d) (vs.set n v)
  | [], _, n, d, v, h, _ => by cases h; simp [RpL]
  | d :: ds, _, 0, e, u, ⟨v, ws, q, h, r⟩, h' => by subst q; exact ⟨u, ws, by simp, h', r⟩
  | d :: ds, _, n + 1, e, u, ⟨v, ws, q, h, r⟩, h' => by subst q; exact ⟨v, ws.set n u, by simp, h, RpL.set n r h'⟩
theorem Top.stay {a : Addr} (hs : ∀ a, S a → S' a) (hk : ∀ a o, S a → H a = some o → ∃ o', H' a = some o' ∧ Keep o o') (he : H' a = H a) : ∀ {d : D}, Top G S H a d → Top G S' H' a d := by
  intro d h
  cases d with
  | lst ds => obtain ⟨vs, e, r⟩ := h; exact ⟨vs, by rw [he]; exact e, RpL.stay hs hk ds vs r⟩
  | dct ks ds => obtain ⟨vs, e, l, r⟩ := h; exact ⟨vs, by rw [he]; exact e, l, RpL.stay hs hk ds vs r⟩
  | dcT ks ds => obtain ⟨vs, e, l, r⟩ := h; exact ⟨vs, by rw [he]; exact e, l, RpL.stay hs hk ds vs r⟩
  | obj c fs ds => obtain ⟨dx, vs, e, l, r⟩ := h; exact ⟨dx, vs, by rw [he]; exact e, l, RpL.stay hs hk ds vs r⟩
  | _ => exact h
theorem View.stay (hs : ∀ a, S a → S' a) (hk : ∀ a o, S a → H a = some o → ∃ o', H' a = some o' ∧ Keep o o') : ∀ {d : D} {v : V}, (∀ a o, v = .ref a → H a = some o → ∃ o', H' a = some o' ∧ Keep o o') → View G S H d v → View G S' H' d v := by
  intro d v he h
  cases d with
  | lst ds =>
    obtain ⟨a, vs, e, h1, r⟩ := h
    obtain ⟨o', e', k⟩ := he a _ e h1
    exact ⟨a, vs, e, by rw [e', k.eq rfl], RpL.stay hs hk ds vs r⟩
  | frl ds =>
    obtain ⟨a, vs, e, h1, r⟩ := h
    exact ⟨a, vs, e, h1.elim (fun z => .inl (rd_stay (fun o ho => he a o e ho) z)) .inr, RpL.stay hs hk ds vs r⟩
  | dct ks ds =>
    obtain ⟨a, vs, o, e, h1, h2, l, r⟩ := h
    obtain ⟨o', e', k⟩ := he a _ e h1
    refine ⟨a, vs, o', e, e', ?_, l, RpL.stay hs hk ds vs r⟩
    rcases k with rfl | ⟨_, k⟩
    · exact h2
    · exact k.trans h2
  | dcT ks ds =>
    obtain ⟨a, vs, o, e, h1, h2, l, r⟩ := h
    obtain ⟨o', e', k⟩ := he a _ e h1
    refine ⟨a, vs, o', e, e', ?_, l, RpL.stay hs hk ds vs r⟩
    rcases k with rfl | ⟨_, k⟩
    · exact h2
    · exact k.trans h2
  | obj c fs ds =>
    obtain ⟨a, dx, vs, e, h1, l, r⟩ := h
    obtain ⟨o', e', k⟩ := he a _ e h1
    exact ⟨a, dx, vs, e, by rw [e', k.eq rfl], l, RpL.stay hs hk ds vs r⟩
  | _ => exact Rp.stay hs hk _ _ h
theorem Rp.view {d : D} {v : V} (h : Rp G S H d v) : View G S H d v := by
  cases d with
  | lst ds => obtain ⟨a, vs, e, _, h⟩ := h; exact ⟨a, vs, e, h⟩
  | frl ds => obtain ⟨a, vs, e, h, r⟩ := h; exact ⟨a, vs, e, h.elim (fun z => .inl z.2) .inr, r⟩
  | dct ks ds => obtain ⟨a, vs, o, e, _, h⟩ := h; exact ⟨a, vs, o, e, h⟩
  | dcT ks ds => obtain ⟨a, vs, o, e, _, h⟩ := h; exact ⟨a, vs, o, e, h⟩
  | obj c fs ds => obtain ⟨a, dx, vs, e, _, h⟩ := h; exact ⟨a, dx, vs, e, h⟩
  | _ => exact h
theorem Top.view {a : Addr} {d : D} (h : Top G S H a d) : View G S H d (.ref a) := by
  cases d with
  | lst ds => obtain ⟨vs, e, r⟩ := h; exact ⟨a, vs, rfl, e, r⟩
  | dct ks ds => obtain ⟨vs, e, l, r⟩ := h; exact ⟨a, vs, _, rfl, e, rfl, l, r⟩
  | dcT ks ds => obtain ⟨vs, e, l, r⟩ := h; exact ⟨a, vs, _, rfl, e, rfl, l, r⟩
  | obj c fs ds => obtain ⟨dx, vs, e, l, r⟩ := h; exact ⟨a, dx, vs, rfl, e, l, r⟩
  | _ => exact h.elim
theorem Top.there {a : Addr} {d : D} (h : Top G S H a d) : H a ≠ none := by
  cases d with
  | lst ds => obtain ⟨vs, e, r⟩ := h; rw [e]; intro z; cases z
  | dct ks ds => obtain ⟨vs, e, r⟩ := h; rw [e]; intro z; cases z
  | dcT ks ds => obtain ⟨vs, e, r⟩ := h; rw [e]; intro z; cases z
  | obj c fs ds => obtain ⟨dx, vs, e, r⟩ := h; rw [e]; intro z; cases z
  | _ => exact h.elim
/-- what is held alone, once it is shared -/
theorem Top.share {a : Addr} {d : D} (h : Top G S H a d) (hs : ∀ b, S b → S' b) (ha : S' a) : Rp G S' H d (.ref a) := by
  have k : ∀ b o, S b → H b = some o → ∃ o', H b = some o' ∧ Keep o o' := fun b o _ e => ⟨o, e, .inl rfl⟩
  cases d with
  | lst ds => obtain ⟨vs, e, r⟩ := h; exact ⟨a, vs, rfl, ha, e, RpL.stay hs k ds vs r⟩
  | dct ks ds => obtain ⟨vs, e, l, r⟩ := h; exact ⟨a, vs, _, rfl, ha, e, rfl, l, RpL.stay hs k ds vs r⟩
  | dcT ks ds => obtain ⟨vs, e, l, r⟩ := h; exact ⟨a, vs, _, rfl, ha, e, rfl, l, RpL.stay hs k ds vs r⟩
  | obj c fs ds => obtain ⟨dx, vs, e, l, r⟩ := h; exact ⟨a, dx, vs, rfl, ha, e, l, RpL.stay hs k ds vs r⟩
  | _ => exact h.elim

/-- the heap moves on under a frame whose held objects are as they were -/
theorem Ok.move (o : Ok G S r t H) (hs : ∀ a, S a → S' a) (hk : ∀ a u, S a → H a = some u → ∃ o', H' a = some o' ∧ Keep u o')
    (hh : ∀ (i : Nat) (s : Sl) (a : Addr), r[i]? = some s → s.held = true → t[i]? = some (some (.ref a)) → H' a = H a ∧ ¬ S' a) (hd : ∀ a, S' a → H' a ≠ none) : Ok G S' r t H' := by
  refine ⟨o.len, fun i s v e1 e2 => ?_, o.apart, hd⟩
  have q := o.sl i s v e1 e2
  cases s with
  | un => trivial
  | sh d => obtain ⟨u, e, h⟩ := q; exact ⟨u, e, Rp.stay hs hk d u h⟩
  | ow d =>
    obtain ⟨a, e, n, h⟩ := q
    subst e
    obtain ⟨h1, h2⟩ := hh i _ a e1 rfl e2
    exact ⟨a, rfl, h2, h.stay hs hk h1⟩
  | lk d =>
    obtain ⟨a, e, n, h0, h⟩ := q
    subst e
    obtain ⟨h1, h2⟩ := hh i _ a e1 rfl e2
    refine ⟨a, rfl, h2, by rw [h1]; exact h0, h.stay hs hk fun b o z e => ⟨o, ?_, .inl rfl⟩⟩
    cases z
    rw [h1]
    exact e
theorem Ok.heldThere (o : Ok G S r t H) {i : Nat} {s : Sl} {a : Addr} (e1 : r[i]? = some s) (h : s.held = true) (e2 : t[i]? = some (some (.ref a))) : H a ≠ none ∧ ¬ S a := by
  have q := o.sl i s _ e1 e2
  cases s with
  | un => cases h
  | sh d => cases h
  | ow d => obtain ⟨b, e, n, h⟩ := q; cases e; exact ⟨h.there, n⟩
  | lk d => obtain ⟨b, e, n, h, _⟩ := q; cases e; exact ⟨h, n⟩
/-- a new object is laid at p, shared from now on -/
def ins1 (S : Addr → Prop) (p : Addr) : Addr → Prop := fun a => S a ∨ a = p
theorem Ok.lay (o : Ok G S r t H) {p : Addr} {u : HO} (hp : H p = none) : Ok G (ins1 S p) r t (upd H p u) := by
  have ne : ∀ a w, H a = some w → a ≠ p := fun a w e => ne_of_none e hp
  refine o.move (fun a h => .inl h) (fun a w _ e => ⟨w, by rw [upd_ne (ne a w e)]; exact e, .inl rfl⟩) (fun i s a e1 h e2 => ?_) fun a h => ?_
  · obtain ⟨h1, h2⟩ := o.heldThere e1 h e2
    have n : a ≠ p := fun z => h1 (by rw [z]; exact hp)
    exact ⟨upd_ne n, fun z => z.elim h2 n⟩
  · rcases h with h | h
    · by_cases z : a = p
      · subst z; rw [upd_same]; intro y; cases y
      · rw [upd_ne z]; exact o.dom a h
    · subst h; rw [upd_same]; intro y; cases y
/-- .. held alone by nobody yet -/
theorem Ok.lay0 (o : Ok G S r t H) {p : Addr} {u : HO} (hp : H p = none) : Ok G S r t (upd H p u) := by
  have ne : ∀ a w, H a = some w → a ≠ p := fun a w e => ne_of_none e hp
  refine o.move (fun a h => h) (fun a w _ e => ⟨w, by rw [upd_ne (ne a w e)]; exact e, .inl rfl⟩) (fun i s a e1 h e2 => ?_) fun a h => ?_
  · obtain ⟨h1, h2⟩ := o.heldThere e1 h e2
    have n : a ≠ p := fun z => h1 (by rw [z]; exact hp)
    exact ⟨upd_ne n, h2⟩
  · by_cases z : a = p
    · subst z; rw [upd_same]; intro y; cases y
    · rw [upd_ne z]; exact o.dom a h
theorem Ext.lay {p : Addr} {u : HO} (hp : H p = none) : Ext S r t H (ins1 S p) r t (upd H p u) where
  up := fun a h => .inl h
  down := fun a h => h.elim .inl fun z => .inr (.inr (by rw [z]; exact hp))
  keep := fun a o e _ => by rw [upd_ne (ne_of_none e hp)]; exact e
  own := fun a h => .inl h
  hldI := fun i s a e h e2 => .inl ⟨s, e, h, e2⟩
  lks := fun i d h => ⟨h, rfl⟩
  dom := fun a h => by
    by_cases z : a = p
    · exact absurd hp (by rw [← z]; exact h)
    · rw [upd_ne z]; exact h
theorem Ext.lay0 {p : Addr} {u : HO} (hp : H p = none) : Ext S r t H S r t (upd H p u) where
  up := fun a h => h
  down := fun a h => .inl h
  keep := fun a o e _ => by rw [upd_ne (ne_of_none e hp)]; exact e
  own := fun a h => .inl h
  hldI := fun i s a e h e2 => .inl ⟨s, e, h, e2⟩
  lks := fun i d h => ⟨h, rfl⟩
  dom := fun a h => by
    by_cases z : a = p
    · exact absurd hp (by rw [← z]; exact h)
    · rw [upd_ne z]; exact h
end
end VI

end
section
/-! VI2: the evaluator over plain values. -/
namespace VI
open PySem L2

inductive Opd where
  | val (d : D) | bor (i : Nat) | new (d : D)
structure Exc where
  c : Nat
  fs : List Str
  ds : List D
inductive Res (α : Type) where
  | ok (a : α) (r : Rho) | err (x : Exc) (r : Rho) | bad
abbrev M (α : Type) := Rho → Res α
def ret {α : Type} (a : α) : M α := fun r => .ok a r
def bnd {α β : Type} (m : M α) (f : α → M β) : M β := fun r => match m r with
  | .ok a r' => f a r'
  | .err x r' => .err x r'
  | .bad => .bad
def fail {α : Type} : M α := fun _ => .bad
def opt {α : Type} : Option α → M α
  | some a => ret a
  | none => fail
inductive CRes where
  | ok (o : Opd) (outs : List Sl) | err (x : Exc) (outs : List Sl) | bad
abbrev Orc := Nat → List Sl → CRes

/-! ### operands -/
def Sl.dat : Sl → Option D
  | .sh d => some d
  | .ow d => some d
  | .lk d => some d
  | .un => none
def Opd.dat (r : Rho) : Opd → Option D
  | .val d => some d
  | .new d => some d
  | .bor i => (r[i]?).bind Sl.dat
def datM (o : Opd) : M D := fun r => match o.dat r with
  | some d => .ok d r
  | none => .bad
def datsM : List Opd → M (List D)
  | [] => ret []
  | o :: os => bnd (datM o) fun d => bnd (datsM os) fun ds => ret (d :: ds)
/-- its value, shared from now on -/
def frz : Opd → M D
  | .val d => ret d
  | .new d => ret d
  | .bor i => fun r => match r[i]? with
    | some (.sh d) => .ok d r
    | some (.ow d) => .ok d (r.set i (.sh d))
    | _ => .bad
/-- a held object's value is shared, all else as it is -/
def sealO : Opd → M Opd
  | .bor i => bnd (frz (.bor i)) fun d => ret (.val d)
  | o => ret o
def frzs : List Opd → M (List D)
  | [] => ret []
  | o :: os => bnd (frz o) fun d => bnd (frzs os) fun ds => ret (d :: ds)

/-! ### builtins on values -/
def line : Nat := sizeLine
def depthAll (f : D → Nat) : List D → Nat
  | [] => 0
  | d :: ds => max (f d) (depthAll f ds)
mutual
/-- as the library's data -/
def toPy : D → Option PyData
  | .non => some .none
  | .bl b => some (.bool b)
  | .int i => some (.int i)
  | .str x => some (.str x)
  | .tup ds => (toPys ds).map .tuple
  | .lst ds => (toPys ds).map .list
  | _ => none
def toPys : List D → Option (List PyData)
  | [] => some []
  | d :: ds => match toPy d, toPys ds with
    | some x, some xs => some (x :: xs)
    | _, _ => none
end
def eqD (d e : D) : Option Bool := match toPy d, toPy e with
  | some x, some y => if SeqAt.shaped x = true ∧ SeqAt.shaped y = true then some (PyData.eqv x y) else none
  | _, _ => none
def mulOk (i j : Int) : Bool := decide ((-(2 ^ 64) < i ∧ i < 2 ^ 64) ∨ (-(2 ^ 64) < j ∧ j < 2 ^ 64) ∨ i.natAbs.log2 + j.natAbs.log2 < 1000000)
def divOk (j : Int) : Bool := decide ((j ≠ 0 ∧ j.natAbs < 1073741824) ∨ (0 < j ∧ j.natAbs.log2 < 9000))
def powOk (i j : Int) : Bool := decide (0 ≤ j ∧ j ≤ 1000000 ∧ i.natAbs < 2 ^ 64)
def vInt (i : Int) : Option Opd := some (.val (.int i))
def vBl (b : Bool) : Option Opd := some (.val (.bl b))
/-- a text times a number -/
def repOk (x : Str) (n : Int) : Bool := decide (0 ≤ n ∧ n ≤ 100000 ∧ x.length ≤ 100)
def repS (x : Str) (n : Int) : Str := ⟨(List.replicate n.toNat x.cps).foldl (· ++ ·) #[]⟩
def binD : Operator → D → D → Option Opd
  | .Add, .int i, .int j => vInt (i + j)
  | .Sub, .int i, .int j => vInt (i - j)
  | .Mult, .int i, .int j => if mulOk i j then vInt (i * j) else none
  | .FloorDiv, .int i, .int j => if divOk j then vInt (i.fdiv j) else none
  | .Mod, .int i, .int j => if j = 0 then none else vInt (i.fmod j)
  | .Pow, .int i, .int j => if powOk i j then vInt (i ^ j.toNat) else none
  | .Add, .str x, .str y => if x.length + y.length ≤ line then some (.val (.str (x ++ y))) else none
  | .Mult, .str x, .int n => if repOk x n then some (.val (.str (repS x n))) else none
  | .Add, .lst xs, .lst ys => if xs.length + ys.length ≤ line then some (.new (.lst (xs ++ ys))) else none
  | _, _, _ => none
def flatD : D → Bool
  | .non => true
  | .bl _ => true
  | .int _ => true
  | .str _ => true
  | _ => false
def inStr (x y : Str) : Bool := !(Builtin.Str.occurrences y x 0 y.length 1).isEmpty
def cmpD : CmpOp → D → D → Option Bool
  | .Eq, a, b => eqD a b
  | .NotEq, a, b => (eqD a b).map (!·)
  | .Lt, .int i, .int j => some (decide (i < j))
  | .LtE, .int i, .int j => some (decide (i ≤ j))
  | .Gt, .int i, .int j => some (decide (j < i))
  | .GtE, .int i, .int j => some (decide (j ≤ i))
  | .In, .str x, .str y => some (inStr x y)
  | .NotIn, .str x, .str y => some (!inStr x y)
  | .Is, a, .non => some (match a with | .non => true | _ => false)
  | .IsNot, a, .non => some (match a with | .non => false | _ => true)
  | _, _, _ => none
def truD : D → Option Bool
  | .non => some false
  | .bl b => some b
  | .int i => some (i != 0)
  | .str x => if x.length ≤ line then some (x.length != 0) else none
  | .lst ds => some (!ds.isEmpty)
  | .tup ds => some (!ds.isEmpty)
  | _ => none
/-- the builtin functions -/
inductive Bi where
  | len | int | str | bool | sum | all | any | list | tuple | isi
  deriving DecidableEq
def blsD : List D → Option (List Bool)
  | [] => some []
  | .bl b :: ds => (blsD ds).map (b :: ·)
  | _ :: _ => none
def intsD : List D → Option (List Int)
  | [] => some []
  | .int b :: ds => (intsD ds).map (b :: ·)
  | _ :: _ => none
def strsD : List D → Option (List Str)
  | [] => some []
  | .str b :: ds => (strsD ds).map (b :: ·)
  | _ :: _ => none
/-- a value's builtin class -/
def clsOf : D → Option String
  | .non => some "NoneType"
  | .bl _ => some "bool"
  | .int _ => some "int"
  | .str _ => some "str"
  | .lst _ => some "list"
  | .frl _ => some "list"
  | .tup _ => some "tuple"
  | .dct _ _ => some "dict"
  | _ => none
/-- whether a builtin class lies below another one -/
def isaB (n m : String) : Option Bool :=
  if m = "int" then some (n = "int" || n = "bool") else if m = "bool" then some (n = "bool") else if m = "str" then some (n = "str") else if m = "list" then some (n = "list") else if m = "tuple" then some (n = "tuple") else none
/-- whether a value is of a class -/
def isiD (d : D) : D → Option Bool
  | .ty m => (clsOf d).bind fun n => isaB n m
  | _ => none
def isisD (d : D) : List D → Option Bool
  | [] => some false
  | t :: ts => match isiD d t with
    | some true => (isisD d ts).map fun _ => true
    | some false => isisD d ts
    | none => none
def biD : Bi → List D → Option Opd
  | .len, [.lst ds] => vInt ds.length
  | .len, [.tup ds] => vInt ds.length
  | .len, [.str x] => if x.length ≤ line then vInt x.length else none
  | .int, [.int i] => vInt i
  | .int, [.bl b] => vInt (if b then 1 else 0)
  | .int, [.str x] => match intText? x with
    | some n => if x.length ≤ 640 then vInt n else none
    | none => none
  | .bool, [.int i] => vBl (i != 0)
  | .bool, [.bl b] => vBl b
  | .str, [.int i] => if i.natAbs.log2 < 1920 then some (.val (.str (Str.ofString (toString i)))) else none
  | .sum, [.lst ds] => (intsD ds).bind fun ns => vInt ns.sum
  | .all, [.lst ds] => (blsD ds).bind fun bs => vBl (bs.all id)
  | .any, [.lst ds] => (blsD ds).bind fun bs => vBl (bs.any id)
  | .list, [.lst ds] => some (.new (.lst ds))
  | .list, [.tup ds] => some (.new (.lst ds))
  | .tuple, [.lst ds] => some (.val (.tup ds))
  | .tuple, [.tup ds] => some (.val (.tup ds))
  | .isi, [d, .tup ts] => (clsOf d).bind fun _ => (isisD d ts).bind vBl
  | .isi, [d, .ty m] => (isiD d (.ty m)).bind vBl
  | _, _ => none
/-- the methods of builtin types -/
inductive Bm where
  | join | append
  deriving DecidableEq
def bmD : Bm → D → List D → Option Opd
  | .join, .str a, [.lst ds] => (strsD ds).bind fun ys => if (ys.map (·.length)).sum + ys.length * a.length ≤ 16777216 then some (.val (.str (Txt.join a ys))) else none
  | _, _, _ => none
/-- .. that change their list or dict: what it holds behind, and the answer -/
def bmSet : Bm → D → List D → Option (D × D)
  | .append, .lst ds, [d] => if ds.length < line then some (.lst (ds ++ [d]), .non) else none
  | _, _, _ => none
/-- the class of a method's receiver -/
def Bm.cls : Bm → String
  | .join => "str"
  | .append => "list"
def subD : D → D → Option D
  | .lst ds, .int i => atI ds i
  | .tup ds, .int i => atI ds i
  | .str x, .int i => if x.length ≤ line then (atI x.cps.toList i).map fun c => .str ⟨#[c]⟩ else none
  | _, _ => none
def cutD (ds : List D) (lo hi : Option Int) : List D := (ds.drop (HT.sIx ds.length 0 lo)).take (HT.sIx ds.length ds.length hi - HT.sIx ds.length 0 lo)
def slcD : D → Option Int → Option Int → Option Opd
  | .lst ds, lo, hi => some (.new (.lst (cutD ds lo hi)))
  | .frl ds, lo, hi => some (.new (.lst (cutD ds lo hi)))
  | .str x, lo, hi => if x.length ≤ line then some (.val (.str (cutS x lo hi))) else none
  | .tup ds, lo, hi => if HT.sIx ds.length 0 lo = 0 ∧ HT.sIx ds.length ds.length hi = ds.length then none else some (.val (.tup (cutD ds lo hi)))
  | _, _, _ => none
/-- a[i] = v -/
def putD : D → D → D → Option D
  | .lst ds, .int i, v => (ixN ds.length i).map fun j => .lst (ds.set j v)
  | _, _, _ => none
def itemsD : D → Option (List D)
  | .lst ds => some ds
  | .tup ds => some ds
  | .str x => some (x.cps.toList.map fun c => .str ⟨#[c]⟩)
  | _ => none
/-- what a for walks -/
inductive Itk where
  | seq | range | enum | zip
  deriving DecidableEq
def zipD : List D → List D → List D
  | a :: as, b :: bs => .tup [a, b] :: zipD as bs
  | _, _ => []
def enumD : Int → List D → List D
  | _, [] => []
  | i, a :: as => .tup [.int i, a] :: enumD (i + 1) as
def ranD (lo : Int) : Nat → List D
  | 0 => []
  | n + 1 => .int lo :: ranD (lo + 1) n
def inR (i : Int) : Bool := decide (-(2 ^ 62) ≤ i ∧ i < 2 ^ 62)
def iterD : Itk → List D → Option (List D)
  | .seq, [d] => itemsD d
  | .range, [.int n] => if inR n then some (ranD 0 n.toNat) else none
  | .range, [.int a, .int b] => if inR a ∧ inR b then some (ranD a (b - a).toNat) else none
  | .enum, [.lst ds] => some (enumD 0 ds)
  | .zip, [.lst as, .lst bs] => some (zipD as bs)
  | _, _ => none

/-! ### the terms -/
mutual
inductive Ex where
  | loc (i : Nat) | cst (d : D)
  | bin (op : Operator) (a b : Ex) | neg (a : Ex) | inv (a : Ex) | and (a b : Ex) | or (a b : Ex)
  | cmp (op : CmpOp) (a b : Ex) | chn (op op' : CmpOp) (a b c : Ex) | ite (c a b : Ex)
  | tup (es : List Ex) | lst (es : List Ex)
  | sub (a b : Ex) | slc (a : Ex) (lo hi : Option Ex)
  | cal (f : Nat) (es : List Ex) | bi (f : Bi) (es : List Ex) | bm (m : Bm) (a : Ex) (es : List Ex)
  | comp (elt : Ex) (tg : Tg) (it : Ex) (ifs : List Ex) (own : List Nat)
  | itk (k : Itk) (es : List Ex)
  | bad
inductive Tg where
  | loc (i : Nat) | tup (ts : List Tg) | sub (a b : Ex) | bad
end
inductive Sx where
  | exp (e : Ex) | asg (t : Tg) (e : Ex) | par (is : List Nat) (es : List Ex) | aug (i : Nat) (op : Operator) (e : Ex)
  | rtn (e : Ex) | ife (c : Ex) (a b : List Sx) | whl (c : Ex) (b : List Sx) | forr (t : Tg) (it : Ex) (b : List Sx)
  | pass | brk | cnt | bad

/-! ### evaluation -/
section
variable (C : Orc)
def tru (o : Opd) : M Bool := bnd (datM o) fun d => opt (truD d)
structure Ev where
  v : M Opd
  t : M Bool
  k : Itk
  i : M (List Opd)
def tv (m : M Opd) : Ev := ⟨m, bnd m tru, .seq, bnd m fun o => ret [o]⟩
def tv2 (m : M Opd) (t : M Bool) : Ev := ⟨m, t, .seq, fail⟩
def borH (r : Rho) : Opd → Option Nat
  | .bor i => match r[i]? with
    | some s => if s.held = true then some i else none
    | none => none
  | _ => none
/-- what is handed to a def: a held object is lent -/
def lend (r : Rho) : List Opd → Option (List Sl)
  | [] => some []
  | .val d :: os => (lend r os).map (.sh d :: ·)
  | .new d :: os => (lend r os).map (.sh d :: ·)
  | .bor i :: os => match r[i]?, lend r os with
    | some s, some ss => some (s :: ss)
    | _, _ => none
/-- no held object is lent twice -/
def lendOk (r : Rho) (os : List Opd) : Bool := decide (os.filterMap (borH r)).Nodup
/-- what was lent comes back -/
def back (r0 : Rho) : List Opd → List Sl → Rho → Option Rho
  | [], [], r => some r
  | .bor i :: os, s :: ss, r => match r0[i]? with
    | some (.ow _) => match s with
      | .ow d => back r0 os ss (r.set i (.ow d))
      | .sh d => back r0 os ss (r.set i (.sh d))
      | _ => none
    | some _ => back r0 os ss r
    | none => none
  | .val _ :: os, _ :: ss, r => back r0 os ss r
  | .new _ :: os, _ :: ss, r => back r0 os ss r
  | _, _, _ => none
def callM (f : Nat) (os : List Opd) : M Opd := fun r =>
  if lendOk r os = true then match lend r os with
    | some as => match C f as with
      | .ok o outs => match back r os outs r with
        | some r' => (match o with
          | .bor _ => .bad
          | .val d => .ok (.val d) r'
          | .new d => .ok (.new d) r')
        | none => .bad
      | .err x outs => match back r os outs r with
        | some r' => .err x r'
        | none => .bad
      | .bad => .bad
    | none => .bad
  else .bad
/-- the lists that are walked are locked -/
def lock : List Opd → Rho → Rho
  | [], r => r
  | .bor i :: os, r => match r[i]? with
    | some (.ow d) => lock os (r.set i (.lk d))
    | _ => lock os r
  | _ :: os, r => lock os r
/-- .. and let go -/
def unlock : List Opd → Rho → Rho → Rho
  | [], _, r => r
  | .bor i :: os, r0, r => match r0[i]?, r[i]? with
    | some (.ow _), some (.lk d) => unlock os r0 (r.set i (.ow d))
    | _, _ => unlock os r0 r
  | _ :: os, r0, r => unlock os r0 r
def wipeR (r : Rho) : List Nat → Rho
  | [] => r
  | i :: is => (wipeR r is).set i .un
def restR (r0 r : Rho) : List Nat → Rho
  | [] => r
  | i :: is => (restR r0 r is).set i ((r0[i]?).getD .un)
/-- a name takes a value; fx: the slots that must stay -/
def setLoc (fx : List Nat) (i : Nat) (o : Opd) : M Unit := if i ∈ fx then fail else match o with
  | .val d => fun r => if i < r.length then .ok () (r.set i (.sh d)) else .bad
  | .new d => fun r => if i < r.length then .ok () (r.set i (.ow d)) else .bad
  | .bor j => bnd (frz (.bor j)) fun d r => if i < r.length then .ok () (r.set i (.sh d)) else .bad
/-- values that are put into names side by side -/
def sealOs : List Opd → M (List Opd)
  | [] => ret []
  | o :: os => bnd (sealO o) fun o => bnd (sealOs os) fun os => ret (o :: os)
def setLocs (fx : List Nat) : List Nat → List Opd → M Unit
  | [], [] => ret ()
  | i :: is, o :: os => bnd (setLoc fx i o) fun _ => setLocs fx is os
  | _, _ => fail
/-- a comprehension's turns: what is made so far, and the items left -/
def compN (own : List Nat) (turn : D → M (Option D)) : List D → List D → M (List D)
  | acc, [] => ret acc
  | acc, d :: ds => fun r => match turn d (wipeR r own) with
    | .ok none r' => compN own turn acc ds r'
    | .ok (some x) r' => if acc.length < line then compN own turn (acc ++ [x]) ds r' else .bad
    | .err _ _ => .bad
    | .bad => .bad
def andAll : List (M Bool) → M Bool
  | [] => ret true
  | m :: ms => bnd m fun b => if b then andAll ms else ret false
def intPart : Option (M Opd) → M (Option Int)
  | none => ret none
  | some m => bnd m fun o => bnd (datM o) fun d => match d with
    | .int i => ret (some i)
    | _ => fail
mutual
def setTg (fx : List Nat) : Tg → Opd → M Unit
  | .loc i, o => setLoc fx i o
  | .tup ts, o => bnd (datM o) fun d => match d with
    | .tup ds => if ds.length = ts.length then setTgs fx ts ds else fail
    | _ => fail
  | .sub a b, o => bnd (ev a).v fun x => bnd (ev b).v fun y => bnd (frz o) fun v => bnd (datM y) fun i => match x with
    | .bor j => fun r => match r[j]? with
      | some (.ow d) => match putD d i v with
        | some d' => .ok () (r.set j (.ow d'))
        | none => .bad
      | _ => .bad
    | _ => fail
  | .bad, _ => fail
def setTgs (fx : List Nat) : List Tg → List D → M Unit
  | [], [] => ret ()
  | t :: ts, d :: ds => bnd (setTg fx t (.val d)) fun _ => setTgs fx ts ds
  | _, _ => fail
def ev : Ex → Ev
  | .loc i => tv fun r => match r[i]? with
    | some (.sh d) => .ok (.val d) r
    | some (.ow _) => .ok (.bor i) r
    | some (.lk _) => .ok (.bor i) r
    | _ => .bad
  | .cst d => tv (ret (.val d))
  | .bin op a b => tv (bnd (ev a).v fun x => bnd (ev b).v fun y => bnd (datM x) fun d => bnd (datM y) fun e => opt (binD op d e))
  | .neg a => tv (bnd (ev a).v fun x => bnd (datM x) fun d => match d with
    | .int i => ret (.val (.int (-i)))
    | _ => fail)
  | .inv a => tv2 (bnd (ev a).v fun x => bnd (datM x) fun d => match d with
    | .bl b => ret (.val (.bl (!b)))
    | _ => fail) (bnd (ev a).t fun b => ret (!b))
  | .and a b => tv2 (bnd (ev a).v fun x => bnd (datM x) fun d => match d with
    | .bl true => (ev b).v
    | .bl false => ret (.val (.bl false))
    | _ => fail) (bnd (ev a).t fun c => if c then (ev b).t else ret false)
  | .or a b => tv2 (bnd (ev a).v fun x => bnd (datM x) fun d => match d with
    | .bl false => (ev b).v
    | .bl true => ret (.val (.bl true))
    | _ => fail) (bnd (ev a).t fun c => if c then ret true else (ev b).t)
  | .cmp op a b =>
    let m : M Bool := bnd (ev a).v fun x => bnd (ev b).v fun y => bnd (datM x) fun d => bnd (datM y) fun e => opt (cmpD op d e)
    tv2 (bnd m fun c => ret (.val (.bl c))) m
  | .chn op op' a b c =>
    let m : M Bool := bnd (ev a).v fun x => bnd (ev b).v fun y => bnd (datM x) fun d => bnd (datM y) fun e => bnd (opt (cmpD op d e)) fun k =>
      if k then bnd (ev c).v fun z => bnd (datM y) fun e' => bnd (datM z) fun g => opt (cmpD op' e' g) else ret false
    tv2 (bnd m fun c => ret (.val (.bl c))) m
  | .ite c a b => tv2 (bnd (ev c).t fun k => if k then (ev a).v else (ev b).v) fail
  | .tup es => tv (bnd (evs es) fun os => bnd (frzs os) fun ds => if ds.length ≤ line then ret (.val (.tup ds)) else fail)
  | .lst es => tv (bnd (evs es) fun os => bnd (frzs os) fun ds => if ds.length ≤ line then ret (.new (.lst ds)) else fail)
  | .sub a b => tv (bnd (ev a).v fun x => bnd (ev b).v fun y => bnd (datM x) fun d => bnd (datM y) fun e => bnd (opt (subD d e)) fun v => ret (.val v))
  | .slc a lo hi => tv (bnd (ev a).v fun x => bnd (evo lo) fun l => bnd (evo hi) fun h => bnd (datM x) fun d => opt (slcD d l h))
  | .cal f es => tv (bnd (evs es) fun os => callM C f os)
  | .bi f es => tv (bnd (evs es) fun os => bnd (datsM os) fun ds => opt (biD f ds))
  | .bm m a es => tv (bnd (ev a).v fun x => bnd (datM x) fun d0 => if clsOf d0 = some m.cls then bnd (evs es) fun os => match m with
    | .append => bnd (frzs os) fun ds => match x with
      | .bor j => fun r => match r[j]? with
        | some (.ow d) => match bmSet m d ds with
          | some (d', v) => .ok (.val v) (r.set j (.ow d'))
          | none => .bad
        | _ => .bad
      | _ => fail
    | .join => bnd (datM x) fun d => bnd (datsM os) fun ds => opt (bmD m d ds) else fail)
  | .itk k es => ⟨fail, fail, k, evs es⟩
  | .comp elt tg it ifs own => tv (bnd (ev it).i fun os => bnd (datsM os) fun ds => bnd (opt (iterD (ev it).k ds)) fun items => fun r =>
    match compN own (fun x => bnd (setTg [] tg (.val x)) fun _ => bnd (andAll (evts ifs)) fun b => if b then bnd (ev elt).v fun o => bnd (frz o) fun v => ret (some v) else ret none) [] items (lock os r) with
    | .ok acc r' => .ok (.new (.lst acc)) (unlock os r (restR (lock os r) (wipeR r' own) own))
    | .err _ _ => .bad
    | .bad => .bad)
  | .bad => tv fail
def evs : List Ex → M (List Opd)
  | [] => ret []
  | e :: es => bnd (ev e).v fun o => bnd (evs es) fun os => ret (o :: os)
def evts : List Ex → List (M Bool)
  | [] => []
  | e :: es => (ev e).t :: evts es
def evo : Option Ex → M (Option Int)
  | none => ret none
  | some e => bnd (ev e).v fun o => bnd (datM o) fun d => match d with
    | .int i => ret (some i)
    | _ => fail
end

inductive Fl where
  | nx | br | ct | rt (o : Opd)
def forN (turn : D → M Unit) (body : M Fl) : List D → M Fl
  | [] => ret .nx
  | d :: ds => bnd (turn d) fun _ => bnd body fun f => match f with
    | .br => ret .nx
    | .rt o => ret (.rt o)
    | _ => forN turn body ds
def whlN (c : M Bool) (body : M Fl) : Nat → M Fl
  | 0 => fail
  | n + 1 => bnd c fun b => if b then bnd body fun f => match f with
    | .br => ret .nx
    | .rt o => ret (.rt o)
    | _ => whlN c body n else ret .nx
/-- the turns that a while may take -/
def turns : Nat := 1000000
mutual
def exec (fx : List Nat) : Sx → M Fl
  | .exp e => bnd (ev C e).v fun _ => ret .nx
  | .asg t e => bnd (ev C e).v fun o => bnd (setTg C fx t o) fun _ => ret .nx
  | .par is es => bnd (evs C es) fun os => bnd (bnd (sealOs os) fun os => setLocs fx is os) fun _ => ret .nx
  | .aug i op e => bnd (ev C (.loc i)).v fun x => bnd (ev C e).v fun y => bnd (datM x) fun d => bnd (datM y) fun e => match d with
    | .int a => bnd (opt (binD op (.int a) e)) fun o => bnd (setLoc fx i o) fun _ => ret .nx
    | _ => fail
  | .rtn e => bnd (ev C e).v fun o => ret (.rt o)
  | .ife c a b => bnd (ev C c).t fun k => if k then execs fx a else execs fx b
  | .whl c b => whlN (ev C c).t (execs fx b) turns
  | .forr t it b => bnd (ev C it).i fun os => bnd (datsM os) fun ds => bnd (opt (iterD (ev C it).k ds)) fun items => fun r =>
    match forN (fun x => setTg C fx t (.val x)) (execs fx b) items (lock os r) with
    | .ok f r' => .ok f (unlock os r r')
    | .err x r' => .err x (unlock os r r')
    | .bad => .bad
  | .pass => ret .nx
  | .brk => ret .br
  | .cnt => ret .ct
  | .bad => fail
def execs (fx : List Nat) : List Sx → M Fl
  | [] => ret .nx
  | s :: ss => bnd (exec fx s) fun f => match f with
    | .nx => execs fx ss
    | f => ret f
end
structure Fn where
  np : Nat
  nl : Nat
  body : List Sx
def fixd : Nat → List Sl → List Nat
  | _, [] => []
  | n, s :: ss => if s.held then n :: fixd (n + 1) ss else fixd (n + 1) ss
/-- what comes back of what was handed: the held objects as they stand now -/
def outs : List Sl → Rho → List Sl
  | [], _ => []
  | a :: as, [] => .un :: outs as []
  | a :: as, s :: r => (if a.held then s else .un) :: outs as r
/-- a def's end -/
def endR (as : List Sl) : Res Fl → CRes
  | .ok .nx r => .ok (.val .non) (outs as r)
  | .ok (.rt (.val d)) r => .ok (.val d) (outs as r)
  | .ok (.rt (.new d)) r => .ok (.new d) (outs as r)
  | .ok (.rt (.bor i)) r => match r[i]? with
    | some (.sh d) => .ok (.val d) (outs as r)
    | some (.ow d) => if i ∈ fixd 0 as then .ok (.val d) (outs as (r.set i (.sh d))) else .ok (.new d) (outs as r)
    | _ => .bad
  | .ok _ _ => .bad
  | .err x r => .err x (outs as r)
  | .bad => .bad
/-- a def's body, run on what is handed to it -/
def run (fn : Fn) (as : List Sl) : CRes := if as.length = fn.np ∧ fn.np ≤ fn.nl then endR as (execs C (fixd 0 as) fn.body (as ++ List.replicate (fn.nl - fn.np) .un)) else .bad
end
/-- the def with number f, its calls at most k deep -/
def callD (T : Nat → Option Fn) : Nat → Orc
  | 0, _, _ => .bad
  | k + 1, f, as => match T f with
    | some fn => run (callD T k) fn as
    | none => .bad
end VI

end
section
/-! VI3: from the program's own terms to the evaluator's. -/
namespace VI
open PySem L2

/-- what a name of the module stands for; a name without an entry is a builtin -/
inductive Gl1 where
  | con (d : D) | fn (i : Nat) (ps : List Str) | cls (c : Nat)
def visB (sc : Scope) (x : Str) : Bool := match sc.names.lookup x with
  | some .local => true
  | some .cell => true
  | some .free => true
  | _ => false
def locB (sc : Scope) (x : Str) : Bool := match sc.names.lookup x with
  | some .local => true
  | some .cell => true
  | _ => false
def okName (x : Str) : Bool := !(x == ("__debug__" : Str)) && !(x == ("__classdict__" : Str)) && !decide (x = ("__name__" : Str))
def slotOf : List Str → Str → Option Nat
  | [], _ => none
  | y :: ys, x => if y = x then some 0 else (slotOf ys x).map (· + 1)
theorem slotOf_get : ∀ {N : List Str} {x : Str} {i : Nat}, slotOf N x = some i → N[i]? = some x
  | [], _, _, h => by cases h
  | y :: ys, x, i, h => by
    unfold slotOf at h
    split at h
    · cases h
      simp_all
    · cases e : slotOf ys x with
      | none => rw [e] at h; cases h
      | some j =>
        rw [e] at h
        cases h
        simpa using slotOf_get e
def biOf (x : Str) : Option Bi :=
  if x = ("len" : Str) then some .len else if x = ("int" : Str) then some .int else if x = ("str" : Str) then some .str else if x = ("bool" : Str) then some .bool
  else if x = ("sum" : Str) then some .sum else if x = ("all" : Str) then some .all else if x = ("any" : Str) then some .any else if x = ("list" : Str) then some .list
  else if x = ("tuple" : Str) then some .tuple else if x = ("isinstance" : Str) then some .isi else none
def tyOf (x : Str) : Option String :=
  if x = ("int" : Str) then some "int" else if x = ("bool" : Str) then some "bool" else if x = ("str" : Str) then some "str" else if x = ("list" : Str) then some "list"
  else if x = ("tuple" : Str) then some "tuple" else none
def itkOf (x : Str) : Option Itk :=
  if x = ("range" : Str) then some .range else if x = ("enumerate" : Str) then some .enum else if x = ("zip" : Str) then some .zip else none
def bmOf (x : Str) : Option Bm :=
  if x = ("join" : Str) then some .join else if x = ("append" : Str) then some .append else none
def ownOf (N : List Str) (scope : Scope) : List (Str × Nat) := scope.names.filterMap fun y => match y.2 with
  | .local => (slotOf N y.1).map fun i => (y.1, i)
  | .cell => (slotOf N y.1).map fun i => (y.1, i)
  | _ => none
def glob (sc : Scope) (x : Str) : Bool := decide (sc.names.lookup x = some .globalImplicit) && okName x
def notStar : Expr → Bool
  | .Starred _ _ => false
  | _ => true
def noStar (es : List Expr) : Bool := es.all notStar
def notSuper : Expr → Bool
  | .Call (.Name id _) [] [] _ => id != ("super" : Str)
  | _ => true
def plainIxB : Expr → Bool
  | .Slice _ _ _ _ => false
  | _ => true
def kwNames : List Keyword → Option (List Str)
  | [] => some []
  | ⟨some x, _, _⟩ :: ks => (kwNames ks).map (x :: ·)
  | _ :: _ => none
/-- a block's own target -/
def ownTn (scope : Scope) (own : List (Str × Nat)) (x : Str) (i : Nat) : Bool := (decide (scope.names.lookup x = some .local) || decide (scope.names.lookup x = some .cell)) && decide (i ∈ own.map (·.2))
def isTup : Expr → Bool
  | .Tuple _ _ _ => true
  | _ => false
def notSet : Expr → Bool
  | .Set _ _ _ => false
  | _ => true
/-- no pairs are yielded -/
def plainIt : Ex → Bool
  | .itk .enum _ => false
  | .itk .zip _ => false
  | _ => true
def arOk : Itk → Nat → Bool
  | .range, n => n == 1 || n == 2
  | .enum, n => n == 1
  | .zip, n => n == 2
  | .seq, _ => false
/-- a def's own target -/
def defTn (sc : Scope) (x : Str) (_ : Nat) : Bool := locB sc x
def notComp : Expr → Bool
  | .ListComp _ _ _ _ => false
  | .SetComp _ _ _ _ => false
  | .DictComp _ _ _ _ _ => false
  | _ => true
def isName : Expr → Bool
  | .Name _ _ => true
  | _ => false
def simpleT (N : List Str) (sc : Scope) : Expr → Bool
  | .Name x _ => locB sc x && (slotOf N x).isSome
  | .Subscript _ _ _ => true
  | .Tuple _ _ _ => true
  | _ => false
/-- 1: stored from the right, 2: not covered, 0: a tuple, taken apart -/
def swapK (sc : Scope) (ts es : List Expr) : Nat :=
  if !(ts.length == 2 || ts.length == 3) then 0
  else
    let line := (ts.head?.map (·.pos.line)).getD 0
    let names := ts.filterMap fun
      | .Name id pos => if sc.names.lookup id == some .local && pos.line == line then some id else none
      | _ => none
    if names.length != ts.length || names.eraseDups.length != names.length then 0
    else if es.all (foldedForSure 8) then 0
    else if es.all (constantsAlone 8) then 2 else 1
def namesOf (N : List Str) (sc : Scope) : List Expr → Option (List Nat)
  | [] => some []
  | .Name x _ :: ts => if locB sc x then (match slotOf N x, namesOf N sc ts with
    | some i, some is => some (i :: is)
    | _, _ => none) else none
  | _ :: _ => none
section
variable (gl : Str → Option Gl1) (N : List Str)
mutual
def trE (sc : Scope) : Expr → Ex
  | .Name x _ => if okName x then (if visB sc x then (match slotOf N x with
      | some i => .loc i
      | none => .bad) else if glob sc x then (match gl x with
      | some (.con d) => .cst d
      | some (.fn i _) => .cst (.fn i)
      | some (.cls c) => .cst (.cls c)
      | none => match tyOf x with
        | some n => .cst (.ty n)
        | none => .bad) else .bad) else .bad
  | .Constant .none _ _ => .cst .non
  | .Constant (.bool b) _ _ => .cst (.bl b)
  | .Constant (.int i) _ _ => .cst (.int i)
  | .Constant (.str x) _ _ => .cst (.str x)
  | .BinOp a op b _ => .bin op (trE sc a) (trE sc b)
  | .UnaryOp .USub a _ => .neg (trE sc a)
  | .UnaryOp .Not a _ => .inv (trE sc a)
  | .BoolOp .And es _ => if 2 ≤ es.length then trAnd sc es else .bad
  | .BoolOp .Or es _ => if 2 ≤ es.length then trOr sc es else .bad
  | .Compare a [op] [b] _ => if behindInMarks op b then .bad else .cmp op (trE sc a) (trE sc b)
  | .Compare a [op, op'] [b, c] _ => if behindInMarks op' c then .bad else .chn op op' (trE sc a) (trE sc b) (trE sc c)
  | .IfExp c a b _ => .ite (trE sc c) (trE sc a) (trE sc b)
  | .Tuple es _ _ => if noStar es then .tup (trEs sc es) else .bad
  | .List es _ => if noStar es then .lst (trEs sc es) else .bad
  | .Subscript a (.Slice lo hi none _) _ => .slc (trE sc a) (trO sc lo) (trO sc hi)
  | .Subscript a b _ => if plainIxB b then .sub (trE sc a) (trE sc b) else .bad
  | .Call (.Name x _) es kws _ => if glob sc x && noStar es then (match gl x with
      | some (.fn i ps) => if decide (kwNames kws = some (ps.drop es.length)) && decide (es.length ≤ ps.length) then .cal i (trEs sc es ++ trKs sc kws) else .bad
      | none => (match kws with
        | [] => (match biOf x with
          | some f => .bi f (trEs sc es)
          | none => match itkOf x with
            | some k => if arOk k es.length then .itk k (trEs sc es) else .bad
            | none => .bad)
        | _ => .bad)
      | _ => .bad) else .bad
  | .Call (.Attribute a m apos) es [] pos => if noStar es && decide (es.length < 25) && notSuper a && (apos.endLine == pos.line) then (match bmOf m with
      | some f => .bm f (trE sc a) (trEs sc es)
      | none => .bad) else .bad
  | .ListComp elt [⟨tg, it, ifs, asy⟩] scope _ => if asy = 0 && blkC N sc scope (ownOf N scope) && decide (ifs.length ≤ 1) && notSet it && (isTup tg || plainIt (trE sc it)) then
      .comp (trE (relS scope sc) elt) (trT (ownTn scope (ownOf N scope)) (relS scope sc) tg) (trE sc it) (trEs (relS scope sc) ifs) ((ownOf N scope).map (·.2)) else .bad
  | _ => .bad
def trEs (sc : Scope) : List Expr → List Ex
  | [] => []
  | e :: es => trE sc e :: trEs sc es
def trKs (sc : Scope) : List Keyword → List Ex
  | [] => []
  | ⟨_, e, _⟩ :: es => trE sc e :: trKs sc es
def trO (sc : Scope) : Option Expr → Option Ex
  | none => none
  | some e => some (trE sc e)
def trAnd (sc : Scope) : List Expr → Ex
  | [] => .bad
  | [e] => trE sc e
  | e :: es => .and (trE sc e) (trAnd sc es)
def trOr (sc : Scope) : List Expr → Ex
  | [] => .bad
  | [e] => trE sc e
  | e :: es => .or (trE sc e) (trOr sc es)
def trT (tn : Str → Nat → Bool) (sc : Scope) : Expr → Tg
  | .Name x _ => (match slotOf N x with
      | some i => if tn x i then .loc i else .bad
      | none => .bad)
  | .Tuple ts _ _ => if noStar ts then .tup (trTs tn sc ts) else .bad
  | .Subscript a b _ => if plainIxB b then .sub (trE sc a) (trE sc b) else .bad
  | _ => .bad
def trTs (tn : Str → Nat → Bool) (sc : Scope) : List Expr → List Tg
  | [] => []
  | e :: es => trT tn sc e :: trTs tn sc es
end
mutual
def trS (sc : Scope) : Stmt → Sx
  | .Expr (.Constant (.str _) _ _) _ => .pass
  | .Expr e _ => if notComp e then .exp (trE gl N sc e) else .bad
  | .Assign [.Tuple ts _ _] (.Tuple es _ _) _ => if noStar es && decide (ts.length = es.length) && decide (es.length ≤ 30) then (match namesOf N sc ts with
      | some is => if swapK sc ts es = 2 then .bad else .par is (trEs gl N sc es)
      | none => .bad) else .bad
  | .Assign [t] e _ => if simpleT N sc t && (notComp e || isName t) && (!isTup t || !isTup e) then .asg (trT gl N (defTn sc) sc t) (trE gl N sc e) else .bad
  | .Return (some e) _ => .rtn (trE gl N sc e)
  | .Return none _ => .rtn (.cst .non)
  | .If c a b _ => .ife (trE gl N sc c) (trSs sc a) (trSs sc b)
  | .While c b [] _ => .whl (trE gl N sc c) (trSs sc b)
  | .For t it b [] _ => if notSet it && (isTup t || plainIt (trE gl N sc it)) then .forr (trT gl N (defTn sc) sc t) (trE gl N sc it) (trSs sc b) else .bad
  | .Pass _ => .pass
  | .Break _ => .brk
  | .Continue _ => .cnt
  | _ => .bad
def trSs (sc : Scope) : List Stmt → List Sx
  | [] => []
  | s :: ss => trS sc s :: trSs sc ss
end
end
end VI

end
section
/-! VI4: what a run of the evaluator means for the heap; how runs are put together. -/
namespace VI
open PySem L2

/-- an operand v, made since the heap H0 -/
def OpdOk (G : Ctx) (S : Addr → Prop) (r : Rho) (t : L2.St) (H0 H : Hp) : Opd → V → Prop
  | .val d, v => Rp G S H d v
  | .bor i, v => t[i]? = some (some v)
  | .new d, v => ∃ a, v = .ref a ∧ H0 a = none ∧ ¬ S a ∧ ¬ HeldAt r t a ∧ Top G S H a d
def ExcOk (G : Ctx) (S : Addr → Prop) (H : Hp) (x : Exc) (cls : Value) (d : Option Addr) : Prop :=
  cls = .ref (G.CA x.c) ∧ ∃ dd vs, d = some dd ∧ H dd = some (.xd (x.fs.zip vs)) ∧ x.fs.length = vs.length ∧ RpL G S H x.ds vs
abbrev Rel (α β : Type) := (Addr → Prop) → Rho → L2.St → Hp → Hp → α → β → Prop
def rO (G : Ctx) : Rel Opd V := OpdOk G
def rB : Rel Bool Bool := fun _ _ _ _ _ a b => b = a
def rI : Rel (Option Int) (Option Int) := fun _ _ _ _ _ a b => b = a
inductive OpdsOk (G : Ctx) (S : Addr → Prop) (r : Rho) (t : L2.St) (H0 H : Hp) : List Opd → List V → Prop
  | nil : OpdsOk G S r t H0 H [] []
  | cons {o os v vs} : OpdOk G S r t H0 H o v → OpdsOk G S r t H0 H os vs → OpdsOk G S r t H0 H (o :: os) (v :: vs)
def rOs (G : Ctx) : Rel (List Opd) (List V) := OpdsOk G
/-- a relation that speaks of what was made since: an earlier time will do -/
def Mono {α β : Type} (R : Rel α β) : Prop := ∀ S r t H0 H1 H a b, (∀ p, H1 p = none → H0 p = none) → R S r t H1 H a b → R S r t H0 H a b
section
variable {G : Ctx} {W : WX} {S S' S0 S1 : Addr → Prop} {r r' r0 r1 : Rho} {t t' : L2.St} {H H' H0 H1 : Hp} {α β γ δ : Type}
theorem OpdOk.mono (hd : ∀ p, H1 p = none → H0 p = none) : ∀ {o : Opd} {v : V}, OpdOk G S r t H1 H o v → OpdOk G S r t H0 H o v
  | .val d, v, h => h
  | .bor i, v, h => h
  | .new d, v, ⟨a, e, h, k⟩ => ⟨a, e, hd a h, k⟩
theorem OpdsOk.mono (hd : ∀ p, H1 p = none → H0 p = none) : ∀ {os : List Opd} {vs : List V}, OpdsOk G S r t H1 H os vs → OpdsOk G S r t H0 H os vs
  | _, _, .nil => .nil
  | _, _, .cons h k => .cons (h.mono hd) (k.mono hd)
theorem mono_rO : Mono (rO G) := fun _ _ _ _ _ _ _ _ hd h => OpdOk.mono hd h
theorem mono_rOs : Mono (rOs G) := fun _ _ _ _ _ _ _ _ hd h => OpdsOk.mono hd h
theorem mono_rB : Mono rB := fun _ _ _ _ _ _ _ _ _ h => h
theorem mono_rI : Mono rI := fun _ _ _ _ _ _ _ _ _ h => h
theorem OpdOk.later (k : Ok G S r t H) (x : Ext S r t H S' r' t H') : ∀ {o : Opd} {v : V}, OpdOk G S r t H0 H o v → OpdOk G S' r' t H0 H' o v
  | .val d, v, h => x.rp k h
  | .bor i, v, h => h
  | .new d, v, ⟨a, e, h0, n, hn, tp⟩ => by
    have no : ¬ OwAt r t a := fun z => hn z.held
    have e' : H' a = H a := by
      cases q : H a with
      | none => exact absurd q tp.there
      | some o => exact x.keep a o q no
    refine ⟨a, e, h0, fun z => ?_, fun z => ?_, tp.stay x.up (fun b u hs q => ⟨u, x.keep b u q (k.notOw hs), .inl rfl⟩) e'⟩
    · rcases x.down a z with z | z | z
      · exact n z
      · exact no z
      · exact tp.there z
    · rcases x.hld a z with z | z
      · exact hn z
      · exact tp.there z
theorem OpdsOk.later (k : Ok G S r t H) (x : Ext S r t H S' r' t H') : ∀ {os : List Opd} {vs : List V}, OpdsOk G S r t H0 H os vs → OpdsOk G S' r' t H0 H' os vs
  | _, _, .nil => .nil
  | _, _, .cons h q => .cons (h.later k x) (q.later k x)
/-- its value as it stands -/
theorem OpdOk.view (k : Ok G S r t H) : ∀ {o : Opd} {v : V} {d : D}, OpdOk G S r t H0 H o v → o.dat r = some d → View G S H d v
  | .val d, v, d', h, e => by cases e; exact Rp.view h
  | .new d, v, d', ⟨a, e, _, _, _, tp⟩, q => by cases q; subst e; exact tp.view
  | .bor i, v, d, h, e => by
    have h : t[i]? = some (some v) := h
    simp only [Opd.dat] at e
    cases q : r[i]? with
    | none => rw [q] at e; cases e
    | some s =>
      rw [q] at e
      have z := k.sl i s _ q h
      cases s with
      | un => cases e
      | sh d' => cases e; obtain ⟨u, e, z⟩ := z; cases e; exact Rp.view z
      | ow d' => cases e; obtain ⟨u, e, _, z⟩ := z; cases e; exact z.view
      | lk d' => cases e; obtain ⟨u, e, _, _, z⟩ := z; cases e; exact z

/-- what a run from r promises -/
def Post (G : Ctx) (W : WX) (S : Addr → Prop) (r : Rho) (t : L2.St) (H : Hp) (R : Rel α β) (Q : β → Hp → Prop) : Res α → Prop
  | .ok a r' => ∀ b H' S', Ext S r t H S' r' t H' → Ok G S' r' t H' → R S' r' t H H' a b → Q b H'
  | .err x r' => ∀ cls d H' S', Ext S r t H S' r' t H' → Ok G S' r' t H' → ExcOk G S' H' x cls d → W cls d t H'
  | .bad => False
/-- a run as a reading -/
def tM (G : Ctx) (W : WX) (R : Rel α β) (m : M α) : L2.St → Hp → (β → Hp → Prop) → Prop := fun t H Q => ∃ S r, Ok G S r t H ∧ Post G W S r t H R Q (m r)
theorem dom_none (x : Ext S r t H S' r' t' H') : ∀ p, H' p = none → H p = none := fun p h => by
  cases e : H p with
  | none => rfl
  | some o => exact absurd h (x.dom p (by rw [e]; intro z; cases z))
theorem Post.shift {R : Rel α β} {Q : β → Hp → Prop} (mo : Mono R) (x : Ext S r t H S1 r1 t H1) : ∀ {res : Res α}, Post G W S r t H R Q res → Post G W S1 r1 t H1 R Q res
  | .ok a r', p => fun b H' S' y k q => p b H' S' (x.trans y) k (mo _ _ _ _ _ _ _ _ (dom_none x) q)
  | .err e r', p => fun c d H' S' y k q => p c d H' S' (x.trans y) k q
  | .bad, p => p
/-- the base (where the run began) and the place reached -/
theorem bindP {R1 : Rel α β} {R2 : Rel γ δ} {m : M α} {f : α → M γ} {Q : δ → Hp → Prop} (k : Ok G S r t H) (x : Ext S0 r0 t H0 S r t H) (p : Post G W S0 r0 t H0 R2 Q (bnd m f r)) :
    tM G W R1 m t H fun b H1 => ∃ a S1 r1, Ok G S1 r1 t H1 ∧ Ext S r t H S1 r1 t H1 ∧ R1 S1 r1 t H H1 a b ∧ Post G W S0 r0 t H0 R2 Q (f a r1) := by
  refine ⟨S, r, k, ?_⟩
  simp only [bnd] at p
  cases e : m r with
  | ok a r1 =>
    rw [e] at p
    exact fun b H1 S1 x1 k1 q => ⟨a, S1, r1, k1, x1, q, p⟩
  | err z r1 =>
    rw [e] at p
    exact fun c d H' S' y k q => p c d H' S' (x.trans y) k q
  | bad =>
    rw [e] at p
    exact p
theorem datP {R : Rel γ δ} {Q : δ → Hp → Prop} {o : Opd} {g : D → M γ} (p : Post G W S0 r0 t H0 R Q (bnd (datM o) g r)) : ∃ d, o.dat r = some d ∧ Post G W S0 r0 t H0 R Q (g d r) := by
  simp only [bnd, datM] at p
  cases e : o.dat r with
  | none => rw [e] at p; exact p.elim
  | some d => rw [e] at p; exact ⟨d, rfl, p⟩
theorem optP {R : Rel γ δ} {Q : δ → Hp → Prop} {o : Option α} {g : α → M γ} (p : Post G W S0 r0 t H0 R Q (bnd (opt o) g r)) : ∃ a, o = some a ∧ Post G W S0 r0 t H0 R Q (g a r) := by
  cases o with
  | none => exact p.elim
  | some a => exact ⟨a, rfl, p⟩
theorem optE {R : Rel α β} {Q : β → Hp → Prop} {o : Option α} (p : Post G W S0 r0 t H0 R Q (opt o r)) : ∃ a, o = some a ∧ Post G W S0 r0 t H0 R Q (.ok a r) := by
  cases o with
  | none => exact p.elim
  | some a => exact ⟨a, rfl, p⟩
/-- the end of a run at the place reached -/
theorem endP {R : Rel α β} {Q : β → Hp → Prop} {a : α} {b : β} (k : Ok G S r t H) (x : Ext S0 r0 t H0 S r t H) (p : Post G W S0 r0 t H0 R Q (.ok a r)) (h : R S r t H0 H a b) : Q b H := p b H S x k h
/-- a held object is shared -/
theorem Ok.share (k : Ok G S r t H) {i : Nat} {a : Addr} {d : D} (h : r[i]? = some (.ow d)) (e : t[i]? = some (some (.ref a))) :
    Ok G (ins1 S a) (r.set i (.sh d)) t H ∧ Ext S r t H (ins1 S a) (r.set i (.sh d)) t H ∧ Rp G (ins1 S a) H d (.ref a) := by
  have z := k.sl i _ _ h e
  obtain ⟨b, eb, nS, tp⟩ := z
  cases eb
  have hi : i < r.length := (List.getElem?_eq_some_iff.mp h).1
  have sup : ∀ b, S b → ins1 S a b := fun b h => .inl h
  have kk : ∀ (b : Addr) (u : HO), S b → H b = some u → ∃ o', H b = some o' ∧ Keep u o' := fun b u _ q => ⟨u, q, .inl rfl⟩
  have rp : Rp G (ins1 S a) H d (.ref a) := tp.share sup (.inr rfl)
  have get : ∀ (j : Nat) (s : Sl), (r.set i (.sh d))[j]? = some s → (j = i ∧ s = .sh d) ∨ (j ≠ i ∧ r[j]? = some s) := fun j s q => by
    by_cases hj : j = i
    · subst hj
      rw [List.getElem?_set_self hi] at q
      cases q
      exact .inl ⟨rfl, rfl⟩
    · rw [List.getElem?_set_ne (Ne.symm hj)] at q
      exact .inr ⟨hj, q⟩
  refine ⟨⟨by rw [List.length_set]; exact k.len, fun j s v q1 q2 => ?_, fun j l s s' b q1 q2 h1 h2 e1 e2 => ?_, fun b hb => ?_⟩, ⟨sup, fun b hb => ?_, fun b o q _ => q, fun b hb => ?_, fun j s b q1 h1 q2 => ?_, fun j d' q => ?_, fun _ h => h⟩, rp⟩
  · rcases get j s q1 with ⟨rfl, rfl⟩ | ⟨hj, q1⟩
    · rw [e] at q2
      cases q2
      exact ⟨_, rfl, rp⟩
    · have q := k.sl j s v q1 q2
      have ne : ∀ b, v = some (.ref b) → s.held = true → b ≠ a := fun b hv hh z => by
        subst z
        exact hj (k.apart j i s _ b q1 h hh rfl (by rw [q2, hv]) e)
      cases s with
      | un => trivial
      | sh d' => obtain ⟨u, q, z⟩ := q; exact ⟨u, q, Rp.stay sup kk _ _ z⟩
      | ow d' =>
        obtain ⟨b, q, n, z⟩ := q
        exact ⟨b, q, fun y => y.elim n (ne b q rfl), z.stay sup kk rfl⟩
      | lk d' =>
        obtain ⟨b, q, n, n2, z⟩ := q
        exact ⟨b, q, fun y => y.elim n (ne b q rfl), n2, z.stay sup kk fun b o _ e => ⟨o, e, .inl rfl⟩⟩
  · rcases get j s q1 with ⟨rfl, rfl⟩ | ⟨_, q1⟩
    · cases h1
    · rcases get l s' q2 with ⟨rfl, rfl⟩ | ⟨_, q2⟩
      · cases h2
      · exact k.apart j l s s' b q1 q2 h1 h2 e1 e2
  · rcases hb with hb | hb
    · exact k.dom b hb
    · subst hb; exact tp.there
  · rcases hb with hb | hb
    · exact .inl hb
    · subst hb; exact .inr (.inl ⟨i, d, h, e⟩)
  · obtain ⟨j, d', q1, q2⟩ := hb
    rcases get j _ q1 with ⟨_, z⟩ | ⟨_, q1⟩
    · cases z
    · exact .inl ⟨j, d', q1, q2⟩
  · rcases get j s q1 with ⟨_, z⟩ | ⟨_, q1⟩
    · subst z; cases h1
    · exact .inl ⟨s, q1, h1, q2⟩
  · rcases get j _ q with ⟨_, z⟩ | ⟨_, q1⟩
    · cases z
    · exact ⟨q1, rfl⟩
/-- an object that is held by nobody is shared -/
theorem Ok.shareNew (k : Ok G S r t H) {a : Addr} {d : D} (h0 : H0 a = none) (nS : ¬ S a) (nH : ¬ HeldAt r t a) (tp : Top G S H a d) : Ok G (ins1 S a) r t H ∧ Rp G (ins1 S a) H d (.ref a) := by
  have sup : ∀ b, S b → ins1 S a b := fun b h => .inl h
  refine ⟨k.move sup (fun b u _ q => ⟨u, q, .inl rfl⟩) (fun i s b e1 h e2 => ⟨rfl, fun z => ?_⟩) fun b hb => ?_, tp.share sup (.inr rfl)⟩
  · obtain ⟨h1, h2⟩ := k.heldThere e1 h e2
    rcases z with z | z
    · exact h2 z
    · subst z; exact nH ⟨i, s, e1, h, e2⟩
  · rcases hb with hb | hb
    · exact k.dom b hb
    · subst hb; exact tp.there
/-- the base's extension over what is shared anew: it is new since the base -/
theorem Ext.share1 (x : Ext S0 r0 t H0 S r t H) {a : Addr} (h : H0 a = none) : Ext S0 r0 t H0 (ins1 S a) r t H where
  up := fun b h => .inl (x.up b h)
  down := fun b z => z.elim (x.down b) fun e => .inr (.inr (by rw [e]; exact h))
  keep := x.keep
  own := x.own
  hldI := x.hldI
  lks := x.lks
  dom := x.dom
/-- shared operands: lent ones stay where they are -/
def SOk (G : Ctx) (S : Addr → Prop) (t : L2.St) (H : Hp) : Opd → V → Prop
  | .val d, v => Rp G S H d v
  | .bor i, v => t[i]? = some (some v)
  | .new d, v => Rp G S H d v
inductive SOks (G : Ctx) (S : Addr → Prop) (t : L2.St) (H : Hp) : List Opd → List V → Prop
  | nil : SOks G S t H [] []
  | cons {o os v vs} : SOk G S t H o v → SOks G S t H os vs → SOks G S t H (o :: os) (v :: vs)
theorem SOk.up (hs : ∀ a, S a → S' a) : ∀ {o : Opd} {v : V}, SOk G S t H o v → SOk G S' t H o v
  | .val d, v, h => Rp.stay hs (fun a u _ q => ⟨u, q, .inl rfl⟩) d v h
  | .new d, v, h => Rp.stay hs (fun a u _ q => ⟨u, q, .inl rfl⟩) d v h
  | .bor i, v, h => h
theorem SOks.up (hs : ∀ a, S a → S' a) : ∀ {os : List Opd} {vs : List V}, SOks G S t H os vs → SOks G S' t H os vs
  | _, _, .nil => .nil
  | _, _, .cons h q => .cons (h.up hs) (q.up hs)
theorem shareOne (k : Ok G S r t H) (x : Ext S0 r0 t H0 S r t H) {Hm : Hp} (hm : ∀ p, Hm p = none → H0 p = none) : ∀ {o : Opd} {v : V}, OpdOk G S r t Hm H o v →
    ∃ S', (∀ a, S a → S' a) ∧ (∀ a, S' a → S a ∨ ¬ HeldAt r t a) ∧ Ok G S' r t H ∧ Ext S0 r0 t H0 S' r t H ∧ SOk G S' t H o v
  | .val d, v, h => ⟨S, fun _ h => h, fun _ h => .inl h, k, x, h⟩
  | .bor i, v, h => ⟨S, fun _ h => h, fun _ h => .inl h, k, x, h⟩
  | .new d, v, ⟨a, e, h0, n, hn, tp⟩ => by
    obtain ⟨k', rp⟩ := k.shareNew h0 n hn tp
    subst e
    exact ⟨ins1 S a, fun _ h => .inl h, fun b h => h.elim .inl fun z => .inr (by rw [z]; exact hn), k', x.share1 (hm a h0), rp⟩
theorem OpdOk.up (hs : ∀ a, S a → S' a) (hh : ∀ a, S' a → S a ∨ a = p) : ∀ {o : Opd} {v : V}, (∀ d, o = .new d → v ≠ .ref p) → OpdOk G S r t H0 H o v → OpdOk G S' r t H0 H o v
  | .val d, v, _, h => Rp.stay hs (fun a u _ q => ⟨u, q, .inl rfl⟩) d v h
  | .bor i, v, _, h => h
  | .new d, v, ne, ⟨a, e, h0, n, hn, tp⟩ => ⟨a, e, h0, fun z => (hh a z).elim n fun z => ne d rfl (by rw [e, z]), hn, tp.stay hs (fun a u _ q => ⟨u, q, .inl rfl⟩) rfl⟩
theorem shareAll (k : Ok G S r t H) (x : Ext S0 r0 t H0 S r t H) {Hm : Hp} (hm : ∀ p, Hm p = none → H0 p = none) : ∀ {os : List Opd} {vs : List V}, OpdsOk G S r t Hm H os vs →
    ∃ S', (∀ a, S a → S' a) ∧ Ok G S' r t H ∧ Ext S0 r0 t H0 S' r t H ∧ SOks G S' t H os vs
  | _, _, .nil => ⟨S, fun _ h => h, k, x, .nil⟩
  | o :: os, v :: vs, .cons h q => by
    obtain ⟨S1, u1, k1, x1, h1⟩ := shareAll k x hm q
    -- the head, where the tail is shared already
    cases o with
    | val d => exact ⟨S1, u1, k1, x1, .cons (Rp.stay u1 (fun a u _ q => ⟨u, q, .inl rfl⟩) d v h) h1⟩
    | bor i => exact ⟨S1, u1, k1, x1, .cons h h1⟩
    | new d =>
      obtain ⟨a, e, h0, n, hn, tp⟩ := h
      subst e
      have tp1 : Top G S1 H a d := tp.stay u1 (fun a u _ q => ⟨u, q, .inl rfl⟩) rfl
      by_cases z : S1 a
      · exact ⟨S1, u1, k1, x1, .cons (tp1.share (fun _ h => h) z) h1⟩
      · obtain ⟨k', rp⟩ := k1.shareNew h0 z hn tp1
        exact ⟨ins1 S1 a, fun b h => .inl (u1 b h), k', x1.share1 (hm a h0), .cons rp (h1.up fun _ h => .inl h)⟩
/-- the values as they stand -/
inductive Views (G : Ctx) (S : Addr → Prop) (H : Hp) : List D → List V → Prop
  | nil : Views G S H [] []
  | cons {d ds v vs} : View G S H d v → Views G S H ds vs → Views G S H (d :: ds) (v :: vs)
theorem bnd_assoc (m : M α) (f : α → M β) (g : β → M γ) : bnd (bnd m f) g = bnd m fun a => bnd (f a) g := by
  funext r
  simp only [bnd]
  cases m r <;> rfl
theorem ret_bnd (a : α) (g : α → M β) : bnd (ret a) g = g a := rfl
theorem datsP (k : Ok G S r t H) {R : Rel γ δ} {Q : δ → Hp → Prop} {Hm : Hp} : ∀ {os : List Opd} {vs : List V} {g : List D → M γ}, OpdsOk G S r t Hm H os vs → Post G W S0 r0 t H0 R Q (bnd (datsM os) g r) →
    ∃ ds, Views G S H ds vs ∧ Post G W S0 r0 t H0 R Q (g ds r)
  | _, _, g, .nil, p => ⟨[], .nil, p⟩
  | o :: os, v :: vs, g, .cons h q, p => by
    have p : Post G W S0 r0 t H0 R Q (bnd (datM o) (fun d => bnd (datsM os) fun ds => g (d :: ds)) r) := by
      have e : bnd (datsM (o :: os)) g = bnd (datM o) fun d => bnd (datsM os) fun ds => g (d :: ds) := by
        simp only [datsM, bnd_assoc, ret_bnd]
      rw [e] at p
      exact p
    obtain ⟨d, e, p⟩ := datP p
    obtain ⟨ds, e1, p⟩ := datsP k q p
    exact ⟨d :: ds, .cons (h.view k e) e1, p⟩
theorem frz1 (k : Ok G S r t H) (x : Ext S0 r0 t H0 S r t H) {R : Rel γ δ} {Q : δ → Hp → Prop} {o : Opd} {v : V} {g : D → M γ} (h : SOk G S t H o v) (p : Post G W S0 r0 t H0 R Q (bnd (frz o) g r)) :
    ∃ d S' r', (∀ a, S a → S' a) ∧ Ok G S' r' t H ∧ Ext S0 r0 t H0 S' r' t H ∧ Ext S r t H S' r' t H ∧ Rp G S' H d v ∧ Post G W S0 r0 t H0 R Q (g d r') := by
  cases o with
  | val d => exact ⟨d, S, r, fun _ h => h, k, x, .refl, h, p⟩
  | new d => exact ⟨d, S, r, fun _ h => h, k, x, .refl, h, p⟩
  | bor i =>
    have h : t[i]? = some (some v) := h
    simp only [bnd, frz] at p
    cases e : r[i]? with
    | none => rw [e] at p; exact p.elim
    | some s =>
      rw [e] at p
      cases s with
      | un => exact p.elim
      | lk d => exact p.elim
      | sh d =>
        obtain ⟨u, q, z⟩ := k.sl i _ _ e h
        cases q
        exact ⟨d, S, r, fun _ h => h, k, x, .refl, z, p⟩
      | ow d =>
        obtain ⟨a, q, n, tp⟩ := k.sl i _ _ e h
        cases q
        obtain ⟨k', x', rp⟩ := k.share e h
        exact ⟨d, _, _, x'.up, k', x.trans x', x', rp, p⟩
theorem frzsP : ∀ {os : List Opd} {vs : List V} {S : Addr → Prop} {r : Rho} {R : Rel γ δ} {Q : δ → Hp → Prop} {g : List D → M γ}, Ok G S r t H → Ext S0 r0 t H0 S r t H → SOks G S t H os vs → Post G W S0 r0 t H0 R Q (bnd (frzs os) g r) →
    ∃ ds S' r', (∀ a, S a → S' a) ∧ Ok G S' r' t H ∧ Ext S0 r0 t H0 S' r' t H ∧ RpL G S' H ds vs ∧ Post G W S0 r0 t H0 R Q (g ds r')
  | _, _, S, r, R, Q, g, k, x, .nil, p => ⟨[], S, r, fun _ h => h, k, x, rfl, p⟩
  | o :: os, v :: vs, S, r, R, Q, g, k, x, .cons h q, p => by
    have e : bnd (frzs (o :: os)) g = bnd (frz o) fun d => bnd (frzs os) fun ds => g (d :: ds) := by
      simp only [frzs, bnd_assoc, ret_bnd]
    rw [e] at p
    obtain ⟨d, S1, r1, u1, k1, x1, y1, rp, p⟩ := frz1 k x h p
    obtain ⟨ds, S2, r2, u2, k2, x2, rl, p⟩ := frzsP k1 x1 (q.up u1) p
    exact ⟨d :: ds, S2, r2, fun a h => u2 a (u1 a h), k2, x2, ⟨v, vs, rfl, Rp.stay u2 (fun a u _ q => ⟨u, q, .inl rfl⟩) d v rp, rl⟩, p⟩
end
end VI

end
section
/-! VI5: the builtins' rules, by values. -/
namespace VI
open PySem L2

/-- where the program's classes and defs stand -/
structure Lk where
  CA : Nat → Addr
  FA : Nat → Addr
abbrev gm (X : Cx) (L : Lk) : Ctx := ⟨X.K, L.CA, L.FA⟩
/-- what is needed of an operation's end -/
abbrev EndO (G : Ctx) (S : Addr → Prop) (r : Rho) (t : L2.St) (H : Hp) (o : Opd) (Q : VK) : Prop :=
  ∀ v H' S', Ext S r t H S' r t H' → Ok G S' r t H' → OpdOk G S' r t H H' o v → Q v H'
section
variable {G : Ctx} {S S' S0 : Addr → Prop} {r r' r0 : Rho} {t : L2.St} {H H' H0 : Hp} {Q : VK}
theorem EndO.val {d : D} {v : V} (e : EndO G S r t H (.val d) Q) (k : Ok G S r t H) (h : Rp G S H d v) : Q v H := e v H S .refl k h
theorem EndO.int {i : Int} (e : EndO G S r t H (.val (.int i)) Q) (k : Ok G S r t H) : Q (.int i) H := e.val k rfl
theorem EndO.bl {i : Bool} (e : EndO G S r t H (.val (.bl i)) Q) (k : Ok G S r t H) : Q (.bl i) H := e.val k rfl
theorem EndO.str {i : Str} (e : EndO G S r t H (.val (.str i)) Q) (k : Ok G S r t H) : Q (.str i) H := e.val k rfl
theorem EndO.non (e : EndO G S r t H (.val .non) Q) (k : Ok G S r t H) : Q .non H := e.val k rfl
theorem Ok.free (k : Ok G S r t H) {p : Addr} (hp : H p = none) : ¬ S p ∧ ¬ HeldAt r t p :=
  ⟨fun z => k.dom p z hp, fun ⟨i, s, e1, h, e2⟩ => (k.heldThere e1 h e2).1 hp⟩
theorem rpl_lay {p : Addr} {u : HO} (hp : H p = none) (hs : ∀ a, S a → S' a) {ds : List D} {vs : List V} (h : RpL G S H ds vs) : RpL G S' (upd H p u) ds vs :=
  RpL.stay hs (fun a o _ e => ⟨o, by rw [upd_ne (ne_of_none e hp)]; exact e, .inl rfl⟩) ds vs h
theorem EndO.lst {ds : List D} {vs : List V} (e : EndO G S r t H (.new (.lst ds)) Q) (k : Ok G S r t H) (h : RpL G S H ds vs) : ∀ p, H p = none → Q (.ref p) (upd H p (.lst vs)) := fun p hp =>
  e _ _ S (.lay0 hp) (k.lay0 hp) ⟨p, rfl, hp, (k.free hp).1, (k.free hp).2, vs, upd_same, rpl_lay hp (fun _ h => h) h⟩
theorem EndO.tup {ds : List D} {vs : List V} (e : EndO G S r t H (.val (.tup ds)) Q) (k : Ok G S r t H) (h : RpL G S H ds vs) : ∀ p, H p = none → Q (.ref p) (upd H p (.tup vs)) := fun p hp =>
  e _ _ (ins1 S p) (.lay hp) (k.lay hp) ⟨p, vs, rfl, .inl ⟨.inr rfl, upd_same⟩, rpl_lay hp (fun _ h => .inl h) h⟩
/-- the run's end is the operation's end -/
theorem EndO.of {W : WX} (x : Ext S0 r0 t H0 S r t H) {o : Opd} (p : Post G W S0 r0 t H0 (rO G) Q (.ok o r)) : EndO G S r t H o Q := fun v H' S' y k h => p v H' S' (x.trans y) k (h.mono (dom_none x))
theorem RpL.ofInts : ∀ {ds : List D} {ns : List Int} {vs : List V}, intsD ds = some ns → RpL G S H ds vs → vs = ns.map V.int
  | [], _, _, e, h => by cases e; cases h; rfl
  | .int i :: ds, ns, _, e, ⟨v, us, q, h, r⟩ => by
    simp only [intsD] at e
    cases z : intsD ds with
    | none => rw [z] at e; cases e
    | some ms =>
      rw [z] at e
      cases e
      subst q
      have h : v = .int i := h
      subst h
      rw [RpL.ofInts z r]
      rfl
  | .non :: ds, ns, _, e, h => by cases e
  | .bl _ :: ds, ns, _, e, h => by cases e
  | .str _ :: ds, ns, _, e, h => by cases e
  | .tup _ :: ds, ns, _, e, h => by cases e
  | .lst _ :: ds, ns, _, e, h => by cases e
  | .frl _ :: ds, ns, _, e, h => by cases e
  | .dct _ _ :: ds, ns, _, e, h => by cases e
  | .dcT _ _ :: ds, ns, _, e, h => by cases e
  | .set _ :: ds, ns, _, e, h => by cases e
  | .obj _ _ _ :: ds, ns, _, e, h => by cases e
  | .fn _ :: ds, ns, _, e, h => by cases e
  | .cls _ :: ds, ns, _, e, h => by cases e
  | .ty _ :: ds, ns, _, e, h => by cases e
theorem RpL.ofBls : ∀ {ds : List D} {ns : List Bool} {vs : List V}, blsD ds = some ns → RpL G S H ds vs → vs = ns.map V.bl
  | [], _, _, e, h => by cases e; cases h; rfl
  | .bl i :: ds, ns, _, e, ⟨v, us, q, h, r⟩ => by
    simp only [blsD] at e
    cases z : blsD ds with
    | none => rw [z] at e; cases e
    | some ms =>
      rw [z] at e
      cases e
      subst q
      have h : v = .bl i := h
      subst h
      rw [RpL.ofBls z r]
      rfl
  | .non :: ds, ns, _, e, h => by cases e
  | .int _ :: ds, ns, _, e, h => by cases e
  | .str _ :: ds, ns, _, e, h => by cases e
  | .tup _ :: ds, ns, _, e, h => by cases e
  | .lst _ :: ds, ns, _, e, h => by cases e
  | .frl _ :: ds, ns, _, e, h => by cases e
  | .dct _ _ :: ds, ns, _, e, h => by cases e
  | .dcT _ _ :: ds, ns, _, e, h => by cases e
  | .set _ :: ds, ns, _, e, h => by cases e
  | .obj _ _ _ :: ds, ns, _, e, h => by cases e
  | .fn _ :: ds, ns, _, e, h => by cases e
  | .cls _ :: ds, ns, _, e, h => by cases e
  | .ty _ :: ds, ns, _, e, h => by cases e
theorem RpL.ofStrs : ∀ {ds : List D} {ns : List Str} {vs : List V}, strsD ds = some ns → RpL G S H ds vs → vs = ns.map V.str
  | [], _, _, e, h => by cases e; cases h; rfl
  | .str i :: ds, ns, _, e, ⟨v, us, q, h, r⟩ => by
    simp only [strsD] at e
    cases z : strsD ds with
    | none => rw [z] at e; cases e
    | some ms =>
      rw [z] at e
      cases e
      subst q
      have h : v = .str i := h
      subst h
      rw [RpL.ofStrs z r]
      rfl
  | .non :: ds, ns, _, e, h => by cases e
  | .int _ :: ds, ns, _, e, h => by cases e
  | .bl _ :: ds, ns, _, e, h => by cases e
  | .tup _ :: ds, ns, _, e, h => by cases e
  | .lst _ :: ds, ns, _, e, h => by cases e
  | .frl _ :: ds, ns, _, e, h => by cases e
  | .dct _ _ :: ds, ns, _, e, h => by cases e
  | .dcT _ _ :: ds, ns, _, e, h => by cases e
  | .set _ :: ds, ns, _, e, h => by cases e
  | .obj _ _ _ :: ds, ns, _, e, h => by cases e
  | .fn _ :: ds, ns, _, e, h => by cases e
  | .cls _ :: ds, ns, _, e, h => by cases e
  | .ty _ :: ds, ns, _, e, h => by cases e
mutual
theorem Rp.toDp : ∀ (d : D) (v : V) (x : PyData), Rp G S H d v → toPy d = some x → Dp G.K H v x
  | .non, v, x, h, e => by cases e; have h : v = .non := h; subst h; exact .non
  | .bl b, v, x, h, e => by cases e; have h : v = .bl b := h; subst h; exact .bl b
  | .int b, v, x, h, e => by cases e; have h : v = .int b := h; subst h; exact .int b
  | .str b, v, x, h, e => by cases e; have h : v = .str b := h; subst h; exact .str b
  | .tup ds, v, x, h, e => by
    obtain ⟨a, vs, q, h1, r⟩ := h
    subst q
    simp only [toPy] at e
    cases z : toPys ds with
    | none => rw [z] at e; cases e
    | some xs =>
      rw [z] at e
      cases e
      refine .tup (xs := vs) ?_ (RpL.toDp ds vs xs r z)
      rcases h1 with ⟨_, h1⟩ | h1
      · exact .of h1
      · exact .inr h1
  | .lst ds, v, x, h, e => by
    obtain ⟨a, vs, q, _, h1, r⟩ := h
    subst q
    simp only [toPy] at e
    cases z : toPys ds with
    | none => rw [z] at e; cases e
    | some xs =>
      rw [z] at e
      cases e
      exact .lst (.of h1) (RpL.toDp ds vs xs r z)
  | .frl _, v, x, h, e => by cases e
  | .dct _ _, v, x, h, e => by cases e
  | .dcT _ _, v, x, h, e => by cases e
  | .set _, v, x, h, e => by cases e
  | .obj _ _ _, v, x, h, e => by cases e
  | .fn _, v, x, h, e => by cases e
  | .cls _, v, x, h, e => by cases e
  | .ty _, v, x, h, e => by cases e
theorem RpL.toDp : ∀ (ds : List D) (vs : List V) (xs : List PyData), RpL G S H ds vs → toPys ds = some xs → DpAll G.K H vs xs
  | [], vs, xs, h, e => by cases e; have h : vs = [] := h; subst h; exact .nil
  | d :: ds, vs, xs, h, e => by
    obtain ⟨v, us, q, h1, r⟩ := h
    subst q
    simp only [toPys] at e
    split at e
    · cases e
      exact .cons (Rp.toDp d v _ h1 (by assumption)) (RpL.toDp ds us _ r (by assumption))
    · cases e
end
theorem View.toDp {d : D} {v : V} {x : PyData} (h : View G S H d v) (e : toPy d = some x) : Dp G.K H v x := by
  cases d with
  | lst ds =>
    obtain ⟨a, vs, q, h1, r⟩ := h
    subst q
    simp only [toPy] at e
    cases z : toPys ds with
    | none => rw [z] at e; cases e
    | some xs =>
      rw [z] at e
      cases e
      exact .lst (.of h1) (RpL.toDp ds vs xs r z)
  | frl ds => cases e
  | dct ks ds => cases e
  | dcT ks ds => cases e
  | obj c fs ds => cases e
  | _ => exact Rp.toDp _ _ _ h e
end
/-- an operation, by what it does -/
def opW (X : Cx) (f : Value → Value → Sem Value) : R2 := fun x y H Q => ∀ (pins : List (Addr × Obj)) (s : Shared) (σ : L2.St) (v u : Value), Inv X pins σ H s → RelV x v → RelV y u → wpAny (model X.prog X.w) X.A (f v u) (EP X pins σ Q) X.xe s
theorem opW_ok (X : Cx) (f : Value → Value → Sem Value) : OpR X f (opW X f) := fun pins s σ H x y v u Q I rx ry h => h pins s σ v u I rx ry
theorem opW_of {X : Cx} {f : Value → Value → Sem Value} {r0 : R2} (o : OpR X f r0) {x y : V} {H : Hp} {Q : VK} (h : r0 x y H Q) : opW X f x y H Q := fun pins s σ v u I rx ry => o pins s σ H x y v u Q I rx ry h
def unW (X : Cx) (f : Value → Sem Value) : V → Hp → VK → Prop := fun x H Q => ∀ (pins : List (Addr × Obj)) (s : Shared) (σ : L2.St) (v : Value), Inv X pins σ H s → RelV x v → wpAny (model X.prog X.w) X.A (f v) (EP X pins σ Q) X.xe s
theorem unW_ok (X : Cx) (f : Value → Sem Value) : UnR X f (unW X f) := fun pins s σ H x v Q I rx h => h pins s σ v I rx
theorem unW_of {X : Cx} {f : Value → Sem Value} {r0 : V → Hp → VK → Prop} (o : UnR X f r0) {x : V} {H : Hp} {Q : VK} (h : r0 x H Q) : unW X f x H Q := fun pins s σ v I rx => o pins s σ H x v Q I rx h
def caW (X : Cx) (f : Value) : List V → Hp → VK → Prop := fun xs H Q => ∀ (pins : List (Addr × Obj)) (s : Shared) (σ : L2.St) (us : List Value), Inv X pins σ H s → Vals xs us → wpAny (model X.prog X.w) X.A (call f us) (EP X pins σ Q) X.xe s
theorem caW_ok (X : Cx) (f : Value) : CallR X f (caW X f) := fun pins s σ H xs us Q I r h => h pins s σ us I r
theorem caW_of {X : Cx} {f : Value} {r0 : List V → Hp → VK → Prop} (o : CallR X f r0) {xs : List V} {H : Hp} {Q : VK} (h : r0 xs H Q) : caW X f xs H Q := fun pins s σ us I r => o pins s σ H xs us Q I r h
section
variable {X : Cx} {L : Lk} {S S0 : Addr → Prop} {r r0 : Rho} {t : L2.St} {H H0 : Hp} {Q : VK} {x y : V} {d e : D} {o : Opd}
theorem line_eq : line = sizeLine := rfl
theorem foldl_size : ∀ (m : Nat) (a b : Array Nat), ((List.replicate m a).foldl (· ++ ·) b).size = b.size + m * a.size
  | 0, a, b => by simp
  | m + 1, a, b => by
    rw [List.replicate_succ, List.foldl_cons, foldl_size m a (b ++ a), Array.size_append, Nat.succ_mul]
    omega
theorem op_rep_str : OpR X (binaryOp .Mult) (fun x y H Q => ∃ a n, x = .str a ∧ y = .int n ∧ repOk a n = true ∧ Q (.str (repS a n)) H) := by
  intro pins s σ H x y v u Q I rx ry h
  obtain ⟨a, n, rfl, rfl, hc, q⟩ := h
  obtain ⟨t, rfl⟩ := rx
  obtain ⟨t', rfl⟩ := ry
  obtain ⟨h0, h1, h2⟩ := of_decide_eq_true hc
  have hsz : a.length * n.toNat ≤ 10000000 := Nat.le_trans (Nat.mul_le_mul h2 (show n.toNat ≤ 100000 by omega)) (by decide)
  have big : (10000000 : Nat) ≤ sizeLine := by decide
  have hlen : (repS a n).length = n.toNat * a.length := by
    show ((List.replicate n.toNat a.cps).foldl (· ++ ·) #[]).size = _
    rw [foldl_size]
    simp
    rfl
  refine P.mul_str (by rw [decide_eq_false (by omega), decide_eq_false (by omega)]; rfl) (fun hn _ => ?_) (fun hn _ => ?_) ?_
  · have : (100 : Int) ≤ (2 ^ 63 - 1) / n := by
      rw [Int.le_ediv_iff_mul_le (by omega)]
      omega
    have h3 : (a.length : Int) ≤ 100 := by exact_mod_cast h2
    omega
  · exact decide_eq_false (show ¬ (a.length * n.toNat > sizeLine) by omega)
  · split
    · rename_i hn
      have e : repS a n = Str.empty := by
        have : n.toNat = 0 := by omega
        unfold repS
        rw [this]
        rfl
      rw [e] at q
      exact ⟨Nat.zero_le _, .str _, H, I.tok _, ⟨_, rfl⟩, q⟩
    · split
      · rename_i hn
        have e : repS a n = a := by
          rw [Bool.or_eq_true, beq_iff_eq, beq_iff_eq] at hn
          rcases hn with rfl | hn
          · unfold repS
            simp
          · have h3 : (repS a n).length = 0 := by rw [hlen, hn]; rfl
            have h4 : (repS a n).cps = #[] := Array.eq_empty_of_size_eq_zero h3
            have h5 : a.cps = #[] := Array.eq_empty_of_size_eq_zero hn
            cases a with
            | mk c =>
              have h5 : c = #[] := h5
              subst h5
              show (⟨(repS ⟨#[]⟩ n).cps⟩ : Str) = _
              rw [h4]
        rw [e] at q
        exact ⟨.str a, H, I, ⟨_, rfl⟩, q⟩
      · refine ⟨?_, .str _, H, I.tok _, ⟨_, rfl⟩, q⟩
        show (repS a n).length ≤ _
        rw [hlen, Nat.mul_comm]
        omega
theorem bin_rule {op : Operator} (k : Ok (gm X L) S r t H) (hx : View (gm X L) S H d x) (hy : View (gm X L) S H e y) (hb : binD op d e = some o) (en : EndO (gm X L) S r t H o Q) : opW X (binaryOp op) x y H Q := by
  unfold binD at hb
  split at hb
  · cases hb
    have hx : x = .int _ := hx
    have hy : y = .int _ := hy
    subst hx hy
    exact opW_of op_add ⟨_, _, rfl, rfl, en.int k⟩
  · cases hb
    have hx : x = .int _ := hx
    have hy : y = .int _ := hy
    subst hx hy
    exact opW_of op_sub ⟨_, _, rfl, rfl, en.int k⟩
  · split at hb
    · rename_i hc
      cases hb
      have hx : x = .int _ := hx
      have hy : y = .int _ := hy
      subst hx hy
      have hc := of_decide_eq_true hc
      rcases hc with hc | hc | hc
      · exact opW_of op_mul ⟨_, _, rfl, rfl, .inl hc, en.int k⟩
      · exact opW_of op_mul ⟨_, _, rfl, rfl, .inr hc, en.int k⟩
      · exact opW_of op_mulW ⟨_, _, rfl, rfl, hc, en.int k⟩
    · cases hb
  · split at hb
    · rename_i hc
      cases hb
      have hx : x = .int _ := hx
      have hy : y = .int _ := hy
      subst hx hy
      have hc := of_decide_eq_true hc
      rcases hc with hc | hc
      · exact opW_of op_fdivN ⟨_, _, rfl, rfl, hc, en.int k⟩
      · refine opW_of op_fdivW ⟨_, _, rfl, rfl, hc, ?_⟩
        have q := en.int k
        rw [Int.fdiv_eq_ediv_of_nonneg _ (Int.le_of_lt hc.1)] at q
        exact q
    · cases hb
  · split at hb
    · cases hb
    · rename_i hc
      cases hb
      have hx : x = .int _ := hx
      have hy : y = .int _ := hy
      subst hx hy
      exact opW_of op_modN ⟨_, _, rfl, rfl, hc, en.int k⟩
  · split at hb
    · rename_i hc
      cases hb
      have hx : x = .int _ := hx
      have hy : y = .int _ := hy
      subst hx hy
      have hc := of_decide_eq_true (p := _ ∧ _ ∧ _) hc
      exact opW_of op_pow ⟨_, _, rfl, rfl, hc, en.int k⟩
    · cases hb
  · split at hb
    · rename_i hc
      cases hb
      have hx : x = .str _ := hx
      have hy : y = .str _ := hy
      subst hx hy
      exact opW_of op_add_str ⟨_, _, rfl, rfl, hc, en.str k⟩
    · cases hb
  · split at hb
    · rename_i hc
      cases hb
      have hx : x = .str _ := hx
      have hy : y = .int _ := hy
      subst hx hy
      exact opW_of op_rep_str ⟨_, _, rfl, rfl, hc, en.str k⟩
    · cases hb
  · split at hb
    · rename_i hc
      cases hb
      obtain ⟨a, vs, q, h1, r1⟩ := hx
      obtain ⟨b, us, q', h2, r2⟩ := hy
      subst q q'
      rw [RpL.length r1, RpL.length r2] at hc
      exact opW_of op_cat ⟨a, b, vs, us, rfl, rfl, h1, h2, hc, en.lst k (r1.append r2)⟩
    · cases hb
  · cases hb
theorem View.isNon (hx : View (gm X L) S H d x) : decide (x = V.non) = (match d with | .non => true | _ => false) := by
  cases d with
  | non => have hx : x = .non := hx; subst hx; rfl
  | bl b => have hx : x = .bl b := hx; subst hx; rfl
  | int b => have hx : x = .int b := hx; subst hx; rfl
  | str b => have hx : x = .str b := hx; subst hx; rfl
  | tup ds => obtain ⟨a, vs, q, _⟩ := hx; subst q; rfl
  | lst ds => obtain ⟨a, vs, q, _⟩ := hx; subst q; rfl
  | frl ds => obtain ⟨a, vs, q, _⟩ := hx; subst q; rfl
  | dct ks ds => obtain ⟨a, vs, o, q, _⟩ := hx; subst q; rfl
  | dcT ks ds => obtain ⟨a, vs, o, q, _⟩ := hx; subst q; rfl
  | set ks => exact (show False from hx).elim
  | obj c fs ds => obtain ⟨a, dx, vs, q, _⟩ := hx; subst q; rfl
  | fn i => have hx : x = .ref _ := hx; subst hx; rfl
  | cls i => have hx : x = .ref _ := hx; subst hx; rfl
  | ty i => have hx : x = .ty i := hx; subst hx; rfl
theorem eq_rule (hu : X.A.units + 64 < cLine) {b : Bool} (hx : View (gm X L) S H d x) (hy : View (gm X L) S H e y) (hb : eqD d e = some b) (en : Q (.bl b) H) : opW X (compareOp .Eq) x y H Q := by
  unfold eqD at hb
  split at hb
  · split at hb
    · rename_i u v e1 e2 hc
      cases hb
      exact opW_of (op_eqD hu) ⟨_, _, hx.toDp e1, hy.toDp e2, hc.1, hc.2, en⟩
    · cases hb
  · cases hb
theorem ne_rule (hu : X.A.units + 64 < cLine) {b : Bool} (hx : View (gm X L) S H d x) (hy : View (gm X L) S H e y) (hb : eqD d e = some b) (en : Q (.bl (!b)) H) : opW X (compareOp .NotEq) x y H Q := by
  unfold eqD at hb
  split at hb
  · split at hb
    · rename_i u v e1 e2 hc
      cases hb
      exact opW_of (op_neD hu) ⟨_, _, hx.toDp e1, hy.toDp e2, hc.1, hc.2, en⟩
    · cases hb
  · cases hb
theorem cmp_rule {op : CmpOp} (hu : X.A.units + 64 < cLine) {b : Bool} (hx : View (gm X L) S H d x) (hy : View (gm X L) S H e y) (hb : cmpD op d e = some b) (en : Q (.bl b) H) : opW X (compareOp op) x y H Q := by
  unfold cmpD at hb
  split at hb
  · exact eq_rule hu hx hy hb en
  · cases z : eqD d e with
    | none => rw [z] at hb; cases hb
    | some c => rw [z] at hb; cases hb; exact ne_rule hu hx hy z en
  · cases hb
    have hx : x = .int _ := hx
    have hy : y = .int _ := hy
    subst hx hy
    exact opW_of op_lt ⟨_, _, rfl, rfl, en⟩
  · cases hb
    have hx : x = .int _ := hx
    have hy : y = .int _ := hy
    subst hx hy
    exact opW_of op_le ⟨_, _, rfl, rfl, en⟩
  · cases hb
    have hx : x = .int _ := hx
    have hy : y = .int _ := hy
    subst hx hy
    exact opW_of op_gt ⟨_, _, rfl, rfl, en⟩
  · cases hb
    have hx : x = .int _ := hx
    have hy : y = .int _ := hy
    subst hx hy
    exact opW_of op_ge ⟨_, _, rfl, rfl, en⟩
  · cases hb
    have hx : x = .str _ := hx
    have hy : y = .str _ := hy
    subst hx hy
    exact opW_of op_in_str ⟨_, _, rfl, rfl, en⟩
  · cases hb
    have hx : x = .str _ := hx
    have hy : y = .str _ := hy
    subst hx hy
    exact opW_of op_notin_str ⟨_, _, rfl, rfl, en⟩
  · have hy : y = .non := hy
    subst hy
    have q := hx.isNon
    refine opW_of op_isN ⟨rfl, ?_⟩
    rw [q]
    cases d <;> (cases hb; exact en)
  · have hy : y = .non := hy
    subst hy
    have q := hx.isNon
    refine opW_of op_notN ⟨rfl, ?_⟩
    rw [q]
    cases d <;> (cases hb; exact en)
  · cases hb
end
end VI

end
section
/-! VI6: builtin functions, truth, subscripts, slices, methods of builtin types. -/
namespace VI
open PySem L2

theorem kb_list {n : String} {b : Bool} {d : D} : True := trivial
section
variable {X : Cx} {L : Lk} {S S0 : Addr → Prop} {r r0 : Rho} {t : L2.St} {H H0 : Hp} {Q : VK} {x y : V} {vs : List V} {d e : D} {ds : List D} {o : Opd}
theorem RpL.emp {G : Ctx} {ds : List D} {vs : List V} (h : RpL G S H ds vs) : (!vs.isEmpty) = !ds.isEmpty := by
  cases ds with
  | nil => cases h; rfl
  | cons d ds => obtain ⟨v, us, e, _⟩ := h; subst e; rfl
theorem seqT {ds : List D} {vs : List V} {a : Addr} (h : (S a ∧ H a = some (.tup vs)) ∨ KTup X.K a vs) : SqT X.K H a vs := h.elim (fun z => .of z.2) .inr
theorem tru_rule {b : Bool} (h : View (gm X L) S H d x) (e : truD d = some b) : TruV X.K x H b := by
  unfold truD at e
  split at e
  · cases e; have h : x = .non := h; subst h; rfl
  · cases e; have h : x = .bl _ := h; subst h; rfl
  · cases e; have h : x = .int _ := h; subst h; rfl
  · split at e
    · rename_i hl
      cases e
      have h : x = .str _ := h
      subst h
      refine ⟨hl, ?_⟩
      rw [bne, bne, Bool.not_inj_iff, Bool.eq_iff_iff, beq_iff_eq, beq_iff_eq]
      omega
    · cases e
  · cases e
    obtain ⟨a, us, q, h1, r1⟩ := h
    subst q
    exact .inl ⟨us, .of h1, r1.emp.symm⟩
  · cases e
    obtain ⟨a, us, q, h1, r1⟩ := h
    subst q
    exact .inr (.inl ⟨us, seqT (ds := []) h1, r1.emp.symm⟩)
  · cases e
/-- the value of a builtin's name -/
def biV : Bi → Value
  | .len => .builtin "len"
  | .int => .type "int"
  | .str => .type "str"
  | .bool => .type "bool"
  | .sum => .builtin "sum"
  | .all => .builtin "all"
  | .any => .builtin "any"
  | .list => .type "list"
  | .tuple => .type "tuple"
  | .isi => .builtin "isinstance"
theorem View.tyx {n : String} (h : View (gm X L) S H d x) (e : clsOf d = some n) : TyX X.K H x (.type n) := by
  cases d with
  | non => cases e; have h : x = .non := h; subst h; exact .base .non
  | bl b => cases e; have h : x = .bl b := h; subst h; exact .base (.bl b)
  | int b => cases e; have h : x = .int b := h; subst h; exact .base (.int b)
  | str b => cases e; have h : x = .str b := h; subst h; exact .base (.str b)
  | tup ds =>
    cases e
    obtain ⟨a, us, q, h1, r1⟩ := h
    subst q
    rcases h1 with ⟨_, h1⟩ | ⟨o, its, n, h1, h2, _⟩
    · exact .base (.tup h1)
    · exact .kTuple h1 h2
  | lst ds => cases e; obtain ⟨a, us, q, h1, r1⟩ := h; subst q; exact .base (.lst h1)
  | frl ds =>
    cases e
    obtain ⟨a, us, q, h1, r1⟩ := h
    subst q
    rcases h1 with (h1 | ⟨ob, h1⟩) | ⟨o, its, n, h1, h2, _⟩
    · exact .base (.lst h1)
    · exact .base (.frz h1)
    · exact .kList h1 h2
  | dct ks ds =>
    cases e
    obtain ⟨a, us, o, q, h1, h2, _, r1⟩ := h
    subst q
    cases o with
    | frz ob u =>
      have h2 : u = _ := h2
      subst h2
      exact .fDict h1
    | dK kvs => exact .base (.dK h1)
    | _ => exact absurd h2 (by intro z; cases z)
  | _ => cases e
theorem isaB_ok {K : PySem.W.Frag} {n m : String} {b : Bool} (hn : n ∈ ["NoneType", "bool", "int", "str", "list", "tuple", "dict"]) (h : isaB n m = some b) : PySem.W.kitOne K (.type n) (.type m) = some b := by
  have key : ∀ m' ∈ ["int", "bool", "str", "list", "tuple"], ∀ n' ∈ ["NoneType", "bool", "int", "str", "list", "tuple", "dict"], kitB n' m' = isaB n' m' := by decide +kernel
  refine kit_ty ?_
  rw [← h]
  refine key m ?_ n hn
  unfold isaB at h
  simp only [List.mem_cons, List.not_mem_nil, or_false]
  split at h
  · simp_all
  split at h
  · simp_all
  split at h
  · simp_all
  split at h
  · simp_all
  split at h
  · simp_all
  · cases h
theorem clsOf_mem {n : String} (h : clsOf d = some n) : n ∈ ["NoneType", "bool", "int", "str", "list", "tuple", "dict"] := by
  cases d <;> (first | (cases h; simp) | cases h)
theorem isi_ok {n : String} {c : D} {b : Bool} {v : V} (hv : Rp (gm X L) S H c v) (h : clsOf d = some n) (e : isiD d c = some b) : ∃ m, c = .ty m ∧ v = .ty m ∧ PySem.W.kitOne X.K (.type n) (.type m) = some b := by
  unfold isiD at e
  split at e
  · rw [h] at e
    exact ⟨_, rfl, hv, isaB_ok (clsOf_mem h) e⟩
  · cases e
theorem isis_ok {n : String} (h : clsOf d = some n) : ∀ {ts : List D} {vs : List V} {b : Bool}, RpL (gm X L) S H ts vs → isisD d ts = some b → ∃ us, Paired ClsV vs us ∧ Vals vs us ∧ PySem.W.kitAny X.K (.type n) us = some b
  | [], _, b, hv, e => by
    cases e
    have hv : _ = [] := hv
    subst hv
    exact ⟨[], .nil, .nil, kitAny_nil⟩
  | c :: ts, _, b, ⟨v, us, q, h1, h2⟩, e => by
    subst q
    unfold isisD at e
    split at e
    · rename_i z
      cases z2 : isisD d ts with
      | none => rw [z2] at e; cases e
      | some b2 =>
        rw [z2] at e
        cases e
        obtain ⟨m, hc, hv, k1⟩ := isi_ok h1 h z
        obtain ⟨ws, p1, p2, p3⟩ := isis_ok h h2 z2
        subst hv
        exact ⟨.type m :: ws, .cons (.ty m) p1, .cons rfl p2, kitAny_cons k1 (fun q => by cases q) fun _ => rfl⟩
    · rename_i z
      obtain ⟨m, hc, hv, k1⟩ := isi_ok h1 h z
      obtain ⟨ws, p1, p2, p3⟩ := isis_ok h h2 e
      subst hv
      exact ⟨.type m :: ws, .cons (.ty m) p1, .cons rfl p2, kitAny_cons k1 (fun _ => p3) fun q => by cases q⟩
    · cases e
theorem bi_rule {f : Bi} (hc : X.calm = true) (k : Ok (gm X L) S r t H) (hv : Views (gm X L) S H ds vs) (hb : biD f ds = some o) (en : EndO (gm X L) S r t H o Q) : caW X (biV f) vs H Q := by
  unfold biD at hb
  split at hb
  · cases hb
    cases hv with | cons h hr =>
    cases hr
    obtain ⟨a, us, q, h1, r1⟩ := h
    subst q
    refine caW_of call_len ⟨_, _, rfl, .inl ⟨us, .of h1, rfl⟩, ?_⟩
    rw [← r1.length]
    exact en.int k
  · cases hb
    cases hv with | cons h hr =>
    cases hr
    obtain ⟨a, us, q, h1, r1⟩ := h
    subst q
    refine caW_of call_len ⟨_, _, rfl, .inr ⟨us, seqT (ds := []) h1, rfl⟩, ?_⟩
    rw [← r1.length]
    exact en.int k
  · split at hb
    · rename_i hl
      cases hb
      cases hv with | cons h hr =>
      cases hr
      have h : _ = V.str _ := h
      subst h
      exact caW_of call_len ⟨_, _, rfl, ⟨hl, rfl⟩, en.int k⟩
    · cases hb
  · cases hb
    cases hv with | cons h hr =>
    cases hr
    have h : _ = V.int _ := h
    subst h
    exact caW_of call_int1 (.inl ⟨_, rfl, en.int k⟩)
  · cases hb
    cases hv with | cons h hr =>
    cases hr
    have h : _ = V.bl _ := h
    subst h
    exact caW_of call_int1 (.inr ⟨_, rfl, en.int k⟩)
  · split at hb
    · rename_i n hn
      split at hb
      · rename_i hl
        cases hb
        cases hv with | cons h hr =>
        cases hr
        have h : _ = V.str _ := h
        subst h
        exact caW_of call_int_str ⟨_, n, rfl, hn, hl, en.int k⟩
      · cases hb
    · cases hb
  · cases hb
    cases hv with | cons h hr =>
    cases hr
    have h : _ = V.int _ := h
    subst h
    exact caW_of call_bool1 (.inl ⟨_, rfl, en.bl k⟩)
  · cases hb
    cases hv with | cons h hr =>
    cases hr
    have h : _ = V.bl _ := h
    subst h
    exact caW_of call_bool1 (.inr ⟨_, rfl, en.bl k⟩)
  · split at hb
    · rename_i hl
      cases hb
      cases hv with | cons h hr =>
      cases hr
      have h : _ = V.int _ := h
      subst h
      exact caW_of call_str_int ⟨_, rfl, hl, en.str k⟩
    · cases hb
  · rename_i ds'
    cases hv with | cons h hr =>
    cases hr
    obtain ⟨a, us, q, h1, r1⟩ := h
    subst q
    cases z : intsD ds' with
    | none => rw [z] at hb; cases hb
    | some ns =>
      rw [z] at hb
      cases hb
      have e := r1.ofInts z
      subst e
      exact caW_of (cr_sum hc) ⟨a, ns, rfl, .of h1, en.int k⟩
  · rename_i ds'
    cases hv with | cons h hr =>
    cases hr
    obtain ⟨a, us, q, h1, r1⟩ := h
    subst q
    cases z : blsD ds' with
    | none => rw [z] at hb; cases hb
    | some ns =>
      rw [z] at hb
      cases hb
      have e := r1.ofBls z
      subst e
      exact caW_of (cr_all hc) ⟨a, ns, rfl, .of h1, en.bl k⟩
  · rename_i ds'
    cases hv with | cons h hr =>
    cases hr
    obtain ⟨a, us, q, h1, r1⟩ := h
    subst q
    cases z : blsD ds' with
    | none => rw [z] at hb; cases hb
    | some ns =>
      rw [z] at hb
      cases hb
      have e := r1.ofBls z
      subst e
      exact caW_of (cr_any hc) ⟨a, ns, rfl, .of h1, en.bl k⟩
  · cases hb
    cases hv with | cons h hr =>
    cases hr
    obtain ⟨a, us, q, h1, r1⟩ := h
    subst q
    exact caW_of call_list_of ⟨a, us, rfl, .inl (.of h1), en.lst k r1⟩
  · cases hb
    cases hv with | cons h hr =>
    cases hr
    obtain ⟨a, us, q, h1, r1⟩ := h
    subst q
    exact caW_of call_list_of ⟨a, us, rfl, .inr (seqT (ds := []) h1), en.lst k r1⟩
  · cases hb
    cases hv with | cons h hr =>
    cases hr
    obtain ⟨a, us, q, h1, r1⟩ := h
    subst q
    exact caW_of call_tuple_of ⟨a, us, rfl, .inl ⟨.of h1, en.tup k r1⟩⟩
  · cases hb
    cases hv with | cons h hr =>
    cases hr
    obtain ⟨a, us, q, h1, r1⟩ := id h
    subst q
    exact caW_of call_tupleT ⟨a, us, rfl, seqT (ds := []) h1, en.val k h⟩
  · rename_i d' ts
    cases hv with | cons h hr =>
    cases hr with | cons h' hr =>
    cases hr
    cases z2 : clsOf d' with
    | none => rw [z2] at hb; cases hb
    | some n =>
    rw [z2] at hb
    replace hb : (isisD d' ts).bind vBl = some o := hb
    cases z : isisD d' ts with
    | none => rw [z] at hb; cases hb
    | some b =>
      rw [z] at hb
      cases hb
      obtain ⟨a, us, q, h1, r1⟩ := h'
      subst q
      obtain ⟨ws, p1, p2, p3⟩ := isis_ok z2 r1 z
      rcases h1 with ⟨_, h1⟩ | ⟨ob, its, nn, h1, h2, h3, h4, h5⟩
      · exact caW_of call_isiT ⟨_, a, us, _, ws, b, rfl, h1, p1, h.tyx z2, p3, en.bl k⟩
      · refine caW_of call_isiK ⟨_, a, ob.dict, its.toList, nn, ob.slots, _, b, rfl, ?_, h.tyx z2, ?_, en.bl k⟩
        · rw [h1, Array.toArray_toList]
          cases ob
          simp_all
        · have e := ClsV.all p1 h5
          rw [e]
          exact p3
  · rename_i d' m
    cases hv with | cons h hr =>
    cases hr with | cons h' hr =>
    cases hr
    have h' : _ = V.ty m := h'
    subst h'
    cases z : isiD d' (.ty m) with
    | none => rw [z] at hb; cases hb
    | some b =>
      rw [z] at hb
      cases hb
      unfold isiD at z
      simp only at z
      cases z2 : clsOf d' with
      | none => rw [z2] at z; cases z
      | some n =>
        rw [z2] at z
        exact caW_of call_isi ⟨_, _, _, _, b, rfl, .ty m, h.tyx z2, isaB_ok (clsOf_mem z2) z, en.bl k⟩
  · cases hb
end
end VI

end
section
/-! VI7: expressions: each construct's reading is the evaluator's run. -/
namespace VI
open PySem L2

/-- a def's promise is the evaluator's answer -/
def PostC (G : Ctx) (S : Addr → Prop) (as : List Sl) (vs : List V) (H : Hp) (Q : VK) (E : XK) : CRes → Prop
  | .ok o outs => ∀ v H' S', Ext S as (vs.map some) H S' outs (vs.map some) H' → Ok G S' outs (vs.map some) H' → OpdOk G S' outs (vs.map some) H H' o v → Q v H'
  | .err x outs => ∀ cls d H' S', Ext S as (vs.map some) H S' outs (vs.map some) H' → Ok G S' outs (vs.map some) H' → ExcOk G S' H' x cls d → E cls d H'
  | .bad => False
def spC (G : Ctx) (C : Orc) (n : Nat) (i : Nat) : Sp := fun vs H Q E => ∃ S as, vs.length = n ∧ Ok G S as (vs.map some) H ∧ PostC G S as vs H Q E (C i as)
/-- what the context must bear -/
structure Good (L : Lk) (gl : Str → Option Gl1) (C : Orc) (X : Cx) : Prop where
  calm : X.calm = true
  nd : X.N.Nodup
  hu : X.A.units + 70 < cLine
  con : ∀ x d, gl x = some (.con d) → ∃ u v, X.mg x = some u ∧ RelV v u ∧ ∀ S H, Rp (gm X L) S H d v
  cls : ∀ x c, gl x = some (.cls c) → X.mg x = some (.ref (L.CA c))
  blt : ∀ x, gl x = none → (biOf x).isSome = true ∨ (tyOf x).isSome = true ∨ (itkOf x).isSome = true → X.mg x = none
  fns : ∀ x i ps, gl x = some (.fn i ps) → X.mg x = some (.ref (L.FA i)) ∧ PySem.W.keepIn X.K (.ref (L.FA i)) = true ∧ ∃ k fd, Room k X.A ∧
    FnOk X.prog X.w X.K X.mg X.base (L2.CX X.prog X.w) k (L.FA i) fd ps (spC (gm X L) C ps.length i) ∧
    ∀ (s : Shared) (us ws : List Value), X.K.In s.heap → (us ++ ws).length = ps.length → BindsTo s fd ⟨us, (ps.drop us.length).zip ws⟩ (ps.zip (us ++ ws))
section
variable {X : Cx} {L : Lk} {W : WX} {S S' S0 S1 : Addr → Prop} {r r' r0 r1 : Rho} {t : L2.St} {H H0 H1 : Hp} {α β γ δ : Type}
theorem tM.mono {G : Ctx} {R : Rel α β} {m : M α} {Q Q' : β → Hp → Prop} (h : tM G W R m t H Q) (hq : ∀ b H1, Q b H1 → Q' b H1) : tM G W R m t H Q' := by
  obtain ⟨S, r, k, p⟩ := h
  refine ⟨S, r, k, ?_⟩
  cases e : m r with
  | ok a r1 => rw [e] at p; exact fun b H' S' x k' q => hq b H' (p b H' S' x k' q)
  | err x r1 => rw [e] at p; exact p
  | bad => rw [e] at p; exact p
theorem _root_.L2.PE.of {e : Expr} {t t' : TE} (h : PE X e t') (i : ∀ σ H Q, t σ H Q → t' σ H Q) : PE X e t := ⟨fun pins s σ H Q I q => h.run pins s σ H Q I (i σ H Q q)⟩
theorem _root_.L2.PT.of {e : Expr} {t t' : TT} (h : PT X e t') (i : ∀ σ H Q, t σ H Q → t' σ H Q) : PT X e t := ⟨fun pins s σ H Q I q => h.run pins s σ H Q I (i σ H Q q)⟩
theorem _root_.L2.PA.of {e : List Expr} {t t' : TA} (h : PA X e t') (i : ∀ σ H Q, t σ H Q → t' σ H Q) : PA X e t := ⟨fun p pins s σ H Q I q => h.run p pins s σ H Q I (i σ H Q q)⟩
theorem pe_fail {e : Expr} {t : TE} (h : ∀ σ H Q, ¬ t σ H Q) : PE X e t := ⟨fun pins s σ H Q I q => (h σ H Q q).elim⟩
theorem pt_fail {e : Expr} {t : TT} (h : ∀ σ H Q, ¬ t σ H Q) : PT X e t := ⟨fun pins s σ H Q I q => (h σ H Q q).elim⟩
theorem tM_fail {G : Ctx} {R : Rel α β} {t : L2.St} {H : Hp} {Q : β → Hp → Prop} : ¬ tM G W R (fail : M α) t H Q := fun ⟨_, _, _, p⟩ => p
/-- the pair of an expression's readings -/
structure Snd (X : Cx) (L : Lk) (W : WX) (e : Expr) (z : Ev) : Prop where
  v : PE X e (tM (gm X L) W (rO (gm X L)) z.v)
  t : PT X e (tM (gm X L) W rB z.t)
theorem snd_bad {e : Expr} {C : Orc} : Snd X L W e (ev C .bad) :=
  ⟨pe_fail fun _ _ _ h => tM_fail h, pt_fail fun _ _ _ ⟨_, _, _, p⟩ => p⟩
/-- an expression whose test is its value's truth -/
theorem snd_tv {e : Expr} {m : M Opd} (h : PE X e (tM (gm X L) W (rO (gm X L)) m)) (he : ∀ whole, isTrue e X.env whole = (do let v ← whole; standAt e.pos; holding [v] (truthy v))) : Snd X L W e (tv m) := by
  refine ⟨h, (pt_truth h he).of fun σ H Q ⟨S, r, k, p⟩ => ?_⟩
  refine (bindP (R1 := rO (gm X L)) k .refl p).mono fun b H1 ⟨o, S1, r1, k1, x1, q, p⟩ => ?_
  obtain ⟨d, e1, p⟩ := datP p
  obtain ⟨c, e2, p⟩ := optE p
  exact ⟨c, tru_rule (q.view k1 e1) e2, endP k1 x1 p rfl⟩
/-- names -/
theorem s_loc {i : Nat} {x : Str} {pos : Pos} {C : Orc} (hN : X.N[i]? = some x) (hv : Vis X.env.scope x) (h1 : (x == ("__debug__" : Str)) = false) (h2 : (x == ("__classdict__" : Str)) = false) : Snd X L W (.Name x pos) (ev C (.loc i)) := by
  refine snd_tv ((pe_var hN hv h1 h2).of fun σ H Q ⟨S, r, k, p⟩ => ?_) fun _ => rfl
  dsimp only at p
  cases e : r[i]? with
  | none => rw [e] at p; exact p.elim
  | some s =>
    rw [e] at p
    have hi : i < σ.length := by rw [← k.len]; exact (List.getElem?_eq_some_iff.mp e).1
    have z := k.sl i s _ e (List.getElem?_eq_getElem hi)
    have g : σ[i]? = some σ[i] := List.getElem?_eq_getElem hi
    cases s with
    | un => exact p.elim
    | sh d =>
      obtain ⟨u, q, z⟩ := z
      exact ⟨u, by rw [g, q], endP k .refl p z⟩
    | ow d =>
      obtain ⟨a, q, n, z⟩ := z
      exact ⟨_, by rw [g, q], endP k .refl p (show σ[i]? = _ by rw [g, q])⟩
    | lk d =>
      obtain ⟨a, q, n, z⟩ := z
      exact ⟨_, by rw [g, q], endP k .refl p (show σ[i]? = _ by rw [g, q])⟩
/-- constants -/
theorem s_cst {e : Expr} {d : D} {v : V} {C : Orc} (h : PE X e (tC v)) (hd : ∀ S H, Rp (gm X L) S H d v) (he : ∀ whole, isTrue e X.env whole = (do let v ← whole; standAt e.pos; holding [v] (truthy v))) : Snd X L W e (ev C (.cst d)) :=
  snd_tv (h.of fun σ H Q ⟨S, r, k, p⟩ => endP k .refl p (hd S H)) he
/-- two operands, an operation -/
theorem two {ma mb : M Opd} {f : Opd → Opd → M γ} {R : Rel γ δ} {Q : δ → Hp → Prop} {ra rb : TE}
    (h : tM (gm X L) W R (bnd ma fun x => bnd mb fun y => f x y) t H Q) {K : V → V → Hp → Prop}
    (hk : ∀ S r S2 r2 H2 x y ox oy, Ok (gm X L) S2 r2 t H2 → Ext S r t H S2 r2 t H2 → OpdOk (gm X L) S2 r2 t H H2 ox x → OpdOk (gm X L) S2 r2 t H H2 oy y → Post (gm X L) W S r t H R Q (f ox oy r2) → K x y H2) :
    tM (gm X L) W (rO (gm X L)) ma t H fun x H1 => tM (gm X L) W (rO (gm X L)) mb t H1 fun y H2 => K x y H2 := by
  obtain ⟨S, r, k, p⟩ := h
  refine (bindP (R1 := rO (gm X L)) k .refl p).mono fun x H1 ⟨ox, S1, r1, k1, x1, q1, p1⟩ => ?_
  refine (bindP (R1 := rO (gm X L)) k1 x1 p1).mono fun y H2 ⟨oy, S2, r2, k2, x2, q2, p2⟩ => ?_
  exact hk S r S2 r2 H2 x y ox oy k2 (x1.trans x2) (q1.later k1 x2) (q2.mono (dom_none x1)) p2
theorem s_bin {a b : Expr} {op : Operator} {pos : Pos} {C : Orc} {ea eb : Ex} (ha : Snd X L W a (ev C ea)) (hb : Snd X L W b (ev C eb)) : Snd X L W (.BinOp a op b pos) (ev C (.bin op ea eb)) := by
  refine snd_tv ((pe_op (opW_ok X (binaryOp op)) ha.v hb.v).of fun σ H Q h => ?_) fun _ => rfl
  refine two (ra := fun _ _ _ => True) (rb := fun _ _ _ => True) h fun S r S2 r2 H2 x y ox oy k2 x2 q1 q2 p => ?_
  obtain ⟨d, e1, p⟩ := datP p
  obtain ⟨e, e2, p⟩ := datP p
  obtain ⟨o, e3, p⟩ := optE p
  exact bin_rule k2 (q1.view k2 e1) (q2.view k2 e2) e3 (.of x2 p)
theorem s_neg {a : Expr} {pos : Pos} {C : Orc} {ea : Ex} (ha : Snd X L W a (ev C ea)) : Snd X L W (.UnaryOp .USub a pos) (ev C (.neg ea)) := by
  refine snd_tv ((pe_un (unW_ok X (unaryOp .USub)) ha.v).of fun σ H Q ⟨S, r, k, p⟩ => ?_) fun _ => rfl
  refine (bindP (R1 := rO (gm X L)) k .refl p).mono fun x H1 ⟨ox, S1, r1, k1, x1, q1, p⟩ => ?_
  obtain ⟨d, e1, p⟩ := datP p
  have z := q1.view k1 e1
  cases d with
  | int i =>
    have z : x = .int i := z
    subst z
    exact unW_of un_neg ⟨i, rfl, endP k1 x1 p rfl⟩
  | _ => exact p.elim
/-- a test as a value -/
theorem s_not {a : Expr} {pos : Pos} {C : Orc} {ea : Ex} (ha : Snd X L W a (ev C ea)) : Snd X L W (.UnaryOp .Not a pos) (ev C (.inv ea)) := by
  refine ⟨(pe_not ha.v).of fun σ H Q ⟨S, r, k, p⟩ => ?_, (pt_not ha.t).of fun σ H Q ⟨S, r, k, p⟩ => ?_⟩
  · refine (bindP (R1 := rO (gm X L)) k .refl p).mono fun x H1 ⟨ox, S1, r1, k1, x1, q1, p⟩ => ?_
    obtain ⟨d, e1, p⟩ := datP p
    have z := q1.view k1 e1
    cases d with
    | bl i =>
      have z : x = .bl i := z
      subst z
      exact ⟨i, rfl, endP k1 x1 p rfl⟩
    | _ => exact p.elim
  · refine (bindP (R1 := rB) k .refl p).mono fun x H1 ⟨ox, S1, r1, k1, x1, q1, p⟩ => ?_
    have q1 : x = ox := q1
    subst q1
    exact endP k1 x1 p rfl
theorem s_and {a b : Expr} {rest : List Expr} {pos : Pos} {C : Orc} {ea eb : Ex} (ha : Snd X L W a (ev C ea)) (hb : PE X (.BoolOp .And (b :: rest) pos) (tM (gm X L) W (rO (gm X L)) (ev C eb).v)) (hw : PW X (.BoolOp .And (b :: rest) pos) (tM (gm X L) W rB (ev C eb).t)) :
    Snd X L W (.BoolOp .And (a :: b :: rest) pos) (ev C (.and ea eb)) ∧ PW X (.BoolOp .And (a :: b :: rest) pos) (tM (gm X L) W rB (ev C (.and ea eb)).t) := by
  have w : PW X (.BoolOp .And (a :: b :: rest) pos) (tM (gm X L) W rB (ev C (.and ea eb)).t) := by
    refine ⟨fun whole pins s σ H Q I h => (pw_and ha.t hw).run whole pins s σ H Q I ?_⟩
    obtain ⟨S, r, k, p⟩ := h
    refine (bindP (R1 := rB) k .refl p).mono fun c H1 ⟨c', S1, r1, k1, x1, q1, p⟩ => ?_
    have q1 : c = c' := q1
    subst q1
    cases c with
    | true =>
      rw [if_pos rfl] at p ⊢
      exact ⟨S1, r1, k1, Post.shift mono_rB x1 p⟩
    | false =>
      rw [if_neg Bool.false_ne_true] at p ⊢
      exact endP k1 x1 p rfl
  refine ⟨⟨(pe_and ha.v hb).of fun σ H Q ⟨S, r, k, p⟩ => ?_, w.pt⟩, w⟩
  refine (bindP (R1 := rO (gm X L)) k .refl p).mono fun x H1 ⟨ox, S1, r1, k1, x1, q1, p⟩ => ?_
  obtain ⟨d, e1, p⟩ := datP p
  have z := q1.view k1 e1
  cases d with
  | bl i =>
    have z : x = .bl i := z
    subst z
    refine ⟨i, rfl, ?_⟩
    cases i with
    | true =>
      rw [if_pos rfl]
      exact ⟨S1, r1, k1, Post.shift mono_rO x1 p⟩
    | false =>
      rw [if_neg Bool.false_ne_true]
      exact endP k1 x1 p rfl
  | _ => exact p.elim
theorem s_or {a b : Expr} {rest : List Expr} {pos : Pos} {C : Orc} {ea eb : Ex} (ha : Snd X L W a (ev C ea)) (hb : PE X (.BoolOp .Or (b :: rest) pos) (tM (gm X L) W (rO (gm X L)) (ev C eb).v)) (hw : PW X (.BoolOp .Or (b :: rest) pos) (tM (gm X L) W rB (ev C eb).t)) :
    Snd X L W (.BoolOp .Or (a :: b :: rest) pos) (ev C (.or ea eb)) ∧ PW X (.BoolOp .Or (a :: b :: rest) pos) (tM (gm X L) W rB (ev C (.or ea eb)).t) := by
  have w : PW X (.BoolOp .Or (a :: b :: rest) pos) (tM (gm X L) W rB (ev C (.or ea eb)).t) := by
    refine ⟨fun whole pins s σ H Q I h => (pw_or ha.t hw).run whole pins s σ H Q I ?_⟩
    obtain ⟨S, r, k, p⟩ := h
    refine (bindP (R1 := rB) k .refl p).mono fun c H1 ⟨c', S1, r1, k1, x1, q1, p⟩ => ?_
    have q1 : c = c' := q1
    subst q1
    cases c with
    | true =>
      rw [if_pos rfl] at p ⊢
      exact endP k1 x1 p rfl
    | false =>
      rw [if_neg Bool.false_ne_true] at p ⊢
      exact ⟨S1, r1, k1, Post.shift mono_rB x1 p⟩
  refine ⟨⟨(pe_or ha.v hb).of fun σ H Q ⟨S, r, k, p⟩ => ?_, w.pt⟩, w⟩
  refine (bindP (R1 := rO (gm X L)) k .refl p).mono fun x H1 ⟨ox, S1, r1, k1, x1, q1, p⟩ => ?_
  obtain ⟨d, e1, p⟩ := datP p
  have z := q1.view k1 e1
  cases d with
  | bl i =>
    have z : x = .bl i := z
    subst z
    refine ⟨i, rfl, ?_⟩
    cases i with
    | true =>
      rw [if_pos rfl]
      exact endP k1 x1 p rfl
    | false =>
      rw [if_neg Bool.false_ne_true]
      exact ⟨S1, r1, k1, Post.shift mono_rO x1 p⟩
  | _ => exact p.elim
theorem s_cmp {a b : Expr} {op : CmpOp} {pos : Pos} {C : Orc} {ea eb : Ex} (hu : X.A.units + 70 < cLine) (hm : behindInMarks op b = false) (ha : Snd X L W a (ev C ea)) (hb : Snd X L W b (ev C eb)) : Snd X L W (.Compare a [op] [b] pos) (ev C (.cmp op ea eb)) := by
  refine ⟨(pe_cmpR (opW_ok X (compareOp op)) ha.v hb.v hm).of fun σ H Q h => ?_, (pt_cmpR (opW_ok X (compareOp op)) ha.v hb.v hm).of fun σ H Q h => ?_⟩
  · have h : tM (gm X L) W (rO (gm X L)) (bnd (ev C ea).v fun x => bnd (ev C eb).v fun y => bnd (datM x) fun d => bnd (datM y) fun e => bnd (opt (cmpD op d e)) fun c => ret (.val (.bl c))) σ H Q := by
      have e : (ev C (.cmp op ea eb)).v = bnd (ev C ea).v fun x => bnd (ev C eb).v fun y => bnd (datM x) fun d => bnd (datM y) fun e => bnd (opt (cmpD op d e)) fun c => ret (.val (.bl c)) := by
        simp only [ev, tv2, bnd_assoc]
      rw [e] at h
      exact h
    refine two (ra := fun _ _ _ => True) (rb := fun _ _ _ => True) h fun S r S2 r2 H2 x y ox oy k2 x2 q1 q2 p => ?_
    obtain ⟨d, e1, p⟩ := datP p
    obtain ⟨e, e2, p⟩ := datP p
    obtain ⟨c, e3, p⟩ := optP p
    exact cmp_rule (by omega) (q1.view k2 e1) (q2.view k2 e2) e3 (endP k2 x2 p rfl)
  · refine two (ra := fun _ _ _ => True) (rb := fun _ _ _ => True) h fun S r S2 r2 H2 x y ox oy k2 x2 q1 q2 p => ?_
    obtain ⟨d, e1, p⟩ := datP p
    obtain ⟨e, e2, p⟩ := datP p
    obtain ⟨c, e3, p⟩ := optE p
    exact cmp_rule (by omega) (q1.view k2 e1) (q2.view k2 e2) e3 ⟨c, rfl, endP k2 x2 p rfl⟩
end
end VI

end
section
/-! VI8: displays, subscripts, slices, calls. -/
namespace VI
open PySem L2
section
variable {X : Cx} {L : Lk} {W : WX} {S S' S0 S1 : Addr → Prop} {r r' r0 r1 : Rho} {t : L2.St} {H H0 H1 : Hp} {α β γ δ : Type}
theorem s_chn {a b c : Expr} {op op' : CmpOp} {pos : Pos} {C : Orc} {ea eb ec : Ex} (hu : X.A.units + 70 < cLine) (hm : behindInMarks op' c = false) (ha : Snd X L W a (ev C ea)) (hb : Snd X L W b (ev C eb)) (hc : Snd X L W c (ev C ec)) :
    Snd X L W (.Compare a [op, op'] [b, c] pos) (ev C (.chn op op' ea eb ec)) := by
  have key : ∀ (Q : VK) σ H, tM (gm X L) W rB (ev C (.chn op op' ea eb ec)).t σ H (fun c H' => Q (.bl c) H') → tM (gm X L) W (rO (gm X L)) (ev C ea).v σ H fun x H1 => tM (gm X L) W (rO (gm X L)) (ev C eb).v σ H1 fun y H2 =>
      opW X (compareOp op) x y H2 fun z H3 => ∃ k, z = .bl k ∧ if k = true then tM (gm X L) W (rO (gm X L)) (ev C ec).v σ H3 fun w H4 => opW X (compareOp op') y w H4 Q else Q (.bl false) H3 := by
    intro Q σ H h
    refine two (ra := fun _ _ _ => True) (rb := fun _ _ _ => True) h fun S r S2 r2 H2 x y ox oy k2 x2 q1 q2 p => ?_
    obtain ⟨d, e1, p⟩ := datP p
    obtain ⟨e, e2, p⟩ := datP p
    obtain ⟨c, e3, p⟩ := optP p
    refine cmp_rule (by omega) (q1.view k2 e1) (q2.view k2 e2) e3 ⟨c, rfl, ?_⟩
    cases c with
    | true =>
      rw [if_pos rfl] at p ⊢
      refine (bindP (R1 := rO (gm X L)) k2 x2 p).mono fun w H3 ⟨ow, S3, r3, k3, x3, q3, p⟩ => ?_
      obtain ⟨e', e4, p⟩ := datP p
      obtain ⟨g, e5, p⟩ := datP p
      obtain ⟨c', e6, p⟩ := optE p
      exact cmp_rule (by omega) ((q2.later k2 x3).view k3 e4) (q3.view k3 e5) e6 (endP (Q := fun c H' => Q (.bl c) H') k3 (x2.trans x3) p rfl)
    | false =>
      rw [if_neg Bool.false_ne_true] at p ⊢
      exact endP (Q := fun c H' => Q (.bl c) H') k2 x2 p rfl
  refine ⟨(pe_chain (opW_ok X (compareOp op)) (opW_ok X (compareOp op')) ha.v hb.v hc.v hm).of fun σ H Q h => key Q σ H ?_, (pt_chain (opW_ok X (compareOp op)) (opW_ok X (compareOp op')) ha.v hb.v hc.v hm).of fun σ H Q h => key _ σ H (h.mono fun c H' q => ⟨c, rfl, q⟩)⟩
  obtain ⟨S, r, k, p⟩ := h
  refine ⟨S, r, k, ?_⟩
  have e : (ev C (.chn op op' ea eb ec)).v = bnd (ev C (.chn op op' ea eb ec)).t fun c => ret (.val (.bl c)) := rfl
  rw [e] at p
  simp only [bnd] at p
  cases z : (ev C (.chn op op' ea eb ec)).t r with
  | ok c r1 =>
    rw [z] at p
    intro b H' S' x k' q
    have q : b = c := q
    subst q
    exact p (.bl b) H' S' x k' rfl
  | err x r1 => rw [z] at p; exact p
  | bad => rw [z] at p; exact p
theorem s_ite {c a b : Expr} {pos : Pos} {C : Orc} {ec ea eb : Ex} (hc : Snd X L W c (ev C ec)) (ha : Snd X L W a (ev C ea)) (hb : Snd X L W b (ev C eb)) :
    PE X (.IfExp c a b pos) (tM (gm X L) W (rO (gm X L)) (ev C (.ite ec ea eb)).v) := by
  refine (pe_ifExp hc.t ha.v hb.v).of fun σ H Q ⟨S, r, k, p⟩ => ?_
  refine (bindP (R1 := rB) k .refl p).mono fun c H1 ⟨c', S1, r1, k1, x1, q1, p⟩ => ?_
  have q1 : c = c' := q1
  subst q1
  cases c with
  | true =>
    rw [if_pos rfl] at p ⊢
    exact ⟨S1, r1, k1, Post.shift mono_rO x1 p⟩
  | false =>
    rw [if_neg Bool.false_ne_true] at p ⊢
    exact ⟨S1, r1, k1, Post.shift mono_rO x1 p⟩
/-- argument lists -/
theorem pa_of_nil {C : Orc} : PA X [] (tM (gm X L) W (rOs (gm X L)) (evs C [])) := pa_nil.of fun σ H Q ⟨S, r, k, p⟩ => endP k .refl p .nil
theorem pa_of_cons {C : Orc} {e : Expr} {es : List Expr} {x : Ex} {xs : List Ex} (h : PE X e (tM (gm X L) W (rO (gm X L)) (ev C x).v)) (hr : PA X es (tM (gm X L) W (rOs (gm X L)) (evs C xs))) (hs : starEach (e :: es) X.env = (false, eval e X.env) :: starEach es X.env) :
    PA X (e :: es) (tM (gm X L) W (rOs (gm X L)) (evs C (x :: xs))) := by
  refine (pa_cons h hr hs).of fun σ H Q ⟨S, r, k, p⟩ => ?_
  refine (bindP (R1 := rO (gm X L)) k .refl p).mono fun v H1 ⟨o, S1, r1, k1, x1, q1, p⟩ => ?_
  refine (bindP (R1 := rOs (gm X L)) k1 x1 p).mono fun vs H2 ⟨os, S2, r2, k2, x2, q2, p⟩ => ?_
  exact endP k2 (x1.trans x2) p (.cons (q1.later k1 x2) (q2.mono (dom_none x1)))
/-- a display's items, shared -/
theorem disp {C : Orc} {xs : List Ex} {g : List D → M Opd} {σ : L2.St} {Q : VK} (h : tM (gm X L) W (rO (gm X L)) (bnd (evs C xs) fun os => bnd (frzs os) g) σ H Q) {K : List V → Hp → Prop}
    (hk : ∀ S r S' r' H' ds vs, Ok (gm X L) S' r' σ H' → Ext S r σ H S' r' σ H' → RpL (gm X L) S' H' ds vs → Post (gm X L) W S r σ H (rO (gm X L)) Q (g ds r') → K vs H') : tM (gm X L) W (rOs (gm X L)) (evs C xs) σ H K := by
  obtain ⟨S, r, k, p⟩ := h
  refine (bindP (R1 := rOs (gm X L)) k .refl p).mono fun vs H1 ⟨os, S1, r1, k1, x1, q1, p⟩ => ?_
  obtain ⟨S2, u2, k2, x2, q2⟩ := shareAll k1 x1 (fun _ h => h) q1
  obtain ⟨ds, S3, r3, u3, k3, x3, rl, p⟩ := frzsP k2 x2 q2 p
  exact hk S r S3 r3 H1 ds vs k3 x3 rl p
theorem s_tup {C : Orc} {es : List Expr} {xs : List Ex} {x1 : Nat} {pos : Pos} (h : PA X es (tM (gm X L) W (rOs (gm X L)) (evs C xs))) : Snd X L W (.Tuple es x1 pos) (ev C (.tup xs)) := by
  refine snd_tv ((pe_tup h).of fun σ H Q h => ?_) fun _ => rfl
  refine disp h fun S r S' r' H' ds vs k x rl p => ?_
  by_cases hl : ds.length ≤ line
  · rw [if_pos hl] at p
    exact ⟨by rw [← rl.length]; exact hl, (EndO.of x p).tup k rl⟩
  · rw [if_neg hl] at p
    exact p.elim
theorem s_lst {C : Orc} {es : List Expr} {xs : List Ex} {pos : Pos} (h : PA X es (tM (gm X L) W (rOs (gm X L)) (evs C xs))) : Snd X L W (.List es pos) (ev C (.lst xs)) := by
  refine snd_tv ((pe_lst h).of fun σ H Q h => ?_) fun _ => rfl
  refine disp h fun S r S' r' H' ds vs k x rl p => ?_
  by_cases hl : ds.length ≤ line
  · rw [if_pos hl] at p
    exact ⟨by rw [← rl.length]; exact hl, (EndO.of x p).lst k rl⟩
  · rw [if_neg hl] at p
    exact p.elim
/-- subscripts -/
def ixW (X : Cx) : R2 := fun x y H Q => ∀ (value slice : Expr) (pins : List (Addr × Obj)) (s : Shared) (σ : L2.St) (v u : Value), Inv X pins σ H s → RelV x v → RelV y u → subscripted slice false v u = operate [v, u] (getItem v u) →
  wpAny (model X.prog X.w) X.A (PyProof.Rows.subscriptTail value slice v u) (EP X pins σ Q) X.xe s
theorem ixW_ok (X : Cx) : IxR X (ixW X) := fun value slice pins s σ H x y v u Q I rx ry h hs => h value slice pins s σ v u I rx ry hs
theorem ixW_of {r0 : R2} (o : IxR X r0) {x y : V} {H : Hp} {Q : VK} (h : r0 x y H Q) : ixW X x y H Q := fun value slice pins s σ v u I rx ry hs => o value slice pins s σ H x y v u Q I rx ry h hs
theorem ixN_lt {n : Nat} {i : Int} {j : Nat} (h : ixN n i = some j) : j < n := by
  unfold ixN at h
  split at h
  · split at h
    · cases h; omega
    · cases h
  · split at h
    · cases h; omega
    · cases h
theorem atI_rp {G : Ctx} {ds : List D} {vs : List V} {i : Int} {d : D} (h : RpL G S H ds vs) (e : atI ds i = some d) : ∃ v, atI vs i = some v ∧ Rp G S H d v := by
  unfold atI at e ⊢
  rw [← h.length]
  cases z : ixN ds.length i with
  | none => rw [z] at e; cases e
  | some j =>
    rw [z] at e
    exact h.get e
theorem sub_rule {d e v : D} {x y : V} {Q : VK} (k : Ok (gm X L) S r t H) (hx : View (gm X L) S H d x) (hy : View (gm X L) S H e y) (hb : subD d e = some v) (en : EndO (gm X L) S r t H (.val v) Q) : ixW X x y H Q := by
  unfold subD at hb
  split at hb
  · obtain ⟨a, us, q, h1, r1⟩ := hx
    subst q
    have hy : y = .int _ := hy
    subst hy
    obtain ⟨w, e1, rw1⟩ := atI_rp r1 hb
    exact ixW_of ix_list ⟨a, us, _, w, rfl, rfl, .of h1, e1, en.val k rw1⟩
  · obtain ⟨a, us, q, h1, r1⟩ := hx
    subst q
    have hy : y = .int _ := hy
    subst hy
    obtain ⟨w, e1, rw1⟩ := atI_rp r1 hb
    exact ixW_of ix_tup ⟨a, us, _, w, rfl, rfl, seqT (ds := []) h1, e1, en.val k rw1⟩
  · split at hb
    · rename_i x' i hl
      have hx : x = .str _ := hx
      have hy : y = .int _ := hy
      subst hx hy
      cases z : atI x'.cps.toList i with
      | none => rw [z] at hb; cases hb
      | some c =>
        rw [z] at hb
        cases hb
        exact ixW_of ix_str ⟨_, _, c, rfl, rfl, hl, z, en.str k⟩
    · cases hb
  · cases hb
theorem s_sub {a b : Expr} {pos : Pos} {C : Orc} {ea eb : Ex} (hs : PlainIx b) (ha : Snd X L W a (ev C ea)) (hb : Snd X L W b (ev C eb)) : Snd X L W (.Subscript a b pos) (ev C (.sub ea eb)) := by
  refine snd_tv ((pe_ix (ixW_ok X) ha.v hb.v hs).of fun σ H Q h => ?_) fun _ => rfl
  refine two (ra := fun _ _ _ => True) (rb := fun _ _ _ => True) h fun S r S2 r2 H2 x y ox oy k2 x2 q1 q2 p => ?_
  obtain ⟨d, e1, p⟩ := datP p
  obtain ⟨e, e2, p⟩ := datP p
  obtain ⟨v, e3, p⟩ := optP p
  exact sub_rule k2 (q1.view k2 e1) (q2.view k2 e2) e3 (.of x2 p)
/-- slices -/
def slW (X : Cx) : V → Option Int → Option Int → Hp → VK → Prop := fun x lo hi H Q => ∀ (pins : List (Addr × Obj)) (s : Shared) (σ : L2.St) (v vl vu : Value) (sl : Addr), Inv X pins σ H s → RelV x v → s.heap.IsSliceOf sl vl vu .none → IsPart vl lo → IsPart vu hi →
  ∃ T id, typeLookup (.type T) "__getitem__" = pure (some (.builtin id)) ∧ s.TypeIs v T ∧ wpAny (model X.prog X.w) X.A (getItem v (.ref sl)) (EP X pins σ Q) X.xe s
theorem slW_ok (X : Cx) : SlR X (slW X) := fun pins s σ H x v vl vu lo hi sl Q I rx hs pl pu h => h pins s σ v vl vu sl I rx hs pl pu
theorem slW_of {r0 : V → Option Int → Option Int → Hp → VK → Prop} (o : SlR X r0) {x : V} {lo hi : Option Int} {H : Hp} {Q : VK} (h : r0 x lo hi H Q) : slW X x lo hi H Q := fun pins s σ v vl vu sl I rx hs pl pu => o pins s σ H x v vl vu lo hi sl Q I rx hs pl pu h
theorem cut_rp {G : Ctx} {ds : List D} {vs : List V} {lo hi : Option Int} (h : RpL G S H ds vs) : RpL G S H (cutD ds lo hi) (cutV vs lo hi) := by
  unfold cutD cutV
  rw [← h.length]
  exact (h.drop _).take _
theorem slc_rule {d : D} {o : Opd} {x : V} {lo hi : Option Int} {Q : VK} (k : Ok (gm X L) S r t H) (hx : View (gm X L) S H d x) (hb : slcD d lo hi = some o) (en : EndO (gm X L) S r t H o Q) : slW X x lo hi H Q := by
  unfold slcD at hb
  split at hb
  · cases hb
    obtain ⟨a, us, q, h1, r1⟩ := hx
    subst q
    exact slW_of sl_list ⟨a, us, rfl, .of h1, en.lst k (cut_rp r1)⟩
  · cases hb
    obtain ⟨a, us, q, h1, r1⟩ := hx
    subst q
    exact slW_of sl_list ⟨a, us, rfl, h1, en.lst k (cut_rp r1)⟩
  · split at hb
    · rename_i hl
      cases hb
      have hx : x = .str _ := hx
      subst hx
      exact slW_of sl_str ⟨_, rfl, hl, en.str k⟩
    · cases hb
  · split at hb
    · cases hb
    · rename_i hw
      cases hb
      obtain ⟨a, us, q, h1, r1⟩ := hx
      subst q
      exact slW_of sl_tup ⟨a, us, rfl, seqT (ds := []) h1, by rw [← r1.length]; exact hw, en.tup k (cut_rp r1)⟩
  · cases hb
theorem po_of {C : Orc} {e : Option Expr} {x : Option Ex} (h : ∀ e', e = some e' → ∃ x', x = some x' ∧ PE X e' (tM (gm X L) W (rO (gm X L)) (ev C x').v)) (h0 : e = none → x = none) : PO X e (tM (gm X L) W rI (evo C x)) := by
  cases e with
  | none =>
    rw [h0 rfl]
    exact ⟨fun pins s σ H Q I ⟨S, r, k, p⟩ => po_none.run pins s σ H Q I (endP k .refl p rfl)⟩
  | some e' =>
    obtain ⟨x', ex, he⟩ := h e' rfl
    rw [ex]
    refine ⟨fun pins s σ H Q I ⟨S, r, k, p⟩ => (po_some he).run pins s σ H Q I ?_⟩
    refine (bindP (R1 := rO (gm X L)) k .refl p).mono fun v H1 ⟨o, S1, r1, k1, x1, q1, p⟩ => ?_
    obtain ⟨d, e1, p⟩ := datP p
    have z := q1.view k1 e1
    cases d with
    | int i =>
      have z : v = .int i := z
      exact ⟨i, z, endP k1 x1 p rfl⟩
    | _ => exact p.elim
theorem s_slc {a : Expr} {lo hi : Option Expr} {p2 pos : Pos} {C : Orc} {ea : Ex} {el eh : Option Ex} (ha : Snd X L W a (ev C ea)) (hl : PO X lo (tM (gm X L) W rI (evo C el))) (hh : PO X hi (tM (gm X L) W rI (evo C eh))) :
    Snd X L W (.Subscript a (.Slice lo hi none p2) pos) (ev C (.slc ea el eh)) := by
  refine snd_tv ((pe_slice (slW_ok X) ha.v hl hh).of fun σ H Q ⟨S, r, k, p⟩ => ?_) fun _ => rfl
  refine (bindP (R1 := rO (gm X L)) k .refl p).mono fun x H1 ⟨ox, S1, r1, k1, x1, q1, p⟩ => ?_
  refine (bindP (R1 := rI) k1 x1 p).mono fun l H2 ⟨l', S2, r2, k2, x2, q2, p⟩ => ?_
  have q2 : l = l' := q2
  subst q2
  refine (bindP (R1 := rI) k2 (x1.trans x2) p).mono fun h H3 ⟨h', S3, r3, k3, x3, q3, p⟩ => ?_
  have q3 : h = h' := q3
  subst q3
  obtain ⟨d, e1, p⟩ := datP p
  obtain ⟨o, e2, p⟩ := optE p
  exact slc_rule k3 (((q1.later k1 x2).later k2 x3).view k3 e1) e2 (.of ((x1.trans x2).trans x3) p)
end
end VI

end
section
/-! VI9: what is lent to a def comes back; calls. -/
namespace VI
open PySem L2
section
variable {G : Ctx} {S S' S0 S1 : Addr → Prop} {r r' r0 r1 : Rho} {t : L2.St} {H H' H0 H1 : Hp}
def lent (r : Rho) : Opd → Sl → Prop
  | .val d, s => s = .sh d
  | .new d, s => s = .sh d
  | .bor i, s => r[i]? = some s
theorem lend_spec : ∀ {os : List Opd} {as : List Sl}, lend r os = some as → as.length = os.length ∧ ∀ (j : Nat) (s : Sl), as[j]? = some s → ∃ o, os[j]? = some o ∧ lent r o s
  | [], _, h => by cases h; exact ⟨rfl, fun j s e => by simp at e⟩
  | o :: os, as, h => by
    have key : ∀ {s0 : Sl} {ss : List Sl}, lent r o s0 → lend r os = some ss → as = s0 :: ss → as.length = (o :: os).length ∧ ∀ (j : Nat) (s : Sl), as[j]? = some s → ∃ o', (o :: os)[j]? = some o' ∧ lent r o' s := by
      intro s0 ss h0 h1 e
      subst e
      obtain ⟨l, g⟩ := lend_spec h1
      refine ⟨by simp [l], fun j s e => ?_⟩
      cases j with
      | zero => simp at e; subst e; exact ⟨o, by simp, h0⟩
      | succ j =>
        obtain ⟨o', e1, e2⟩ := g j s (by simpa using e)
        exact ⟨o', by simpa using e1, e2⟩
    cases o with
    | val d =>
      simp only [lend] at h
      cases z : lend r os with
      | none => rw [z] at h; cases h
      | some ss => rw [z] at h; cases h; exact key rfl z rfl
    | new d =>
      simp only [lend] at h
      cases z : lend r os with
      | none => rw [z] at h; cases h
      | some ss => rw [z] at h; cases h; exact key rfl z rfl
    | bor i =>
      simp only [lend] at h
      split at h
      · cases h
        exact key (by assumption) (by assumption) rfl
      · cases h
theorem back_spec : ∀ {os : List Opd} {outs : List Sl} {r r' : Rho}, back r0 os outs r = some r' → r'.length = r.length ∧ ∀ (i : Nat) (s : Sl), r'[i]? = some s →
    (r[i]? = some s ∧ ∀ d, r0[i]? = some (.ow d) → ∀ j : Nat, os[j]? ≠ some (.bor i)) ∨ (∃ (j : Nat) (d : D), os[j]? = some (.bor i) ∧ r0[i]? = some (.ow d) ∧ outs[j]? = some s)
  | [], [], r, r', h => by cases h; exact ⟨rfl, fun i s e => .inl ⟨e, fun _ _ j => by simp⟩⟩
  | o :: os, s0 :: ss, r, r', h => by
    -- nothing is put back for the head
    have skip : (∀ i d, o = .bor i → r0[i]? ≠ some (.ow d)) → back r0 os ss r = some r' → r'.length = r.length ∧ ∀ (i : Nat) (s : Sl), r'[i]? = some s →
        (r[i]? = some s ∧ ∀ d, r0[i]? = some (.ow d) → ∀ j : Nat, (o :: os)[j]? ≠ some (.bor i)) ∨ (∃ (j : Nat) (d : D), (o :: os)[j]? = some (.bor i) ∧ r0[i]? = some (.ow d) ∧ (s0 :: ss)[j]? = some s) := by
      intro ho h
      obtain ⟨l, g⟩ := back_spec h
      refine ⟨l, fun i s e => ?_⟩
      rcases g i s e with ⟨g1, g2⟩ | ⟨j, d, g1, g2, g3⟩
      · refine .inl ⟨g1, fun d hd j z => ?_⟩
        cases j with
        | zero => simp at z; exact ho i d z hd
        | succ j => exact g2 d hd j (by simpa using z)
      · exact .inr ⟨j + 1, d, by simpa using g1, g2, by simpa using g3⟩
    have put : ∀ i d, o = .bor i → r0[i]? = some (.ow d) → back r0 os ss (r.set i s0) = some r' → r'.length = r.length ∧ ∀ (i : Nat) (s : Sl), r'[i]? = some s →
        (r[i]? = some s ∧ ∀ d, r0[i]? = some (.ow d) → ∀ j : Nat, (o :: os)[j]? ≠ some (.bor i)) ∨ (∃ (j : Nat) (d : D), (o :: os)[j]? = some (.bor i) ∧ r0[i]? = some (.ow d) ∧ (s0 :: ss)[j]? = some s) := by
      intro i d ho hd h
      obtain ⟨l, g⟩ := back_spec h
      rw [List.length_set] at l
      refine ⟨l, fun k s e => ?_⟩
      rcases g k s e with ⟨g1, g2⟩ | ⟨j, d', g1, g2, g3⟩
      · by_cases hk : i = k
        · subst hk
          have hi : i < r.length := by
            have := (List.getElem?_eq_some_iff.mp g1).1
            rw [List.length_set] at this
            exact this
          rw [List.getElem?_set_self hi] at g1
          cases g1
          exact .inr ⟨0, d, by rw [ho]; simp, hd, by simp⟩
        · rw [List.getElem?_set_ne hk] at g1
          refine .inl ⟨g1, fun d' hd' j z => ?_⟩
          cases j with
          | zero =>
            rw [ho] at z
            simp at z
            exact hk z
          | succ j => exact g2 d' hd' j (by simpa using z)
      · exact .inr ⟨j + 1, d', by simpa using g1, g2, by simpa using g3⟩
    cases o with
    | val d => exact skip (fun i d z => by cases z) h
    | new d => exact skip (fun i d z => by cases z) h
    | bor i =>
      simp only [back] at h
      split at h
      · rename_i d hd
        cases s0 with
        | ow d' => exact put i d rfl hd h
        | sh d' => exact put i d rfl hd h
        | un => cases h
        | lk d' => cases h
      · rename_i s1 hn hs
        exact skip (fun k d z e => by cases z; exact hn d (Option.some.inj (hs.symm.trans e))) h
      · cases h
  | [], _ :: _, r, r', h => by cases h
  | o :: os, [], r, r', h => by cases o <;> cases h
theorem back_nolk : ∀ {os : List Opd} {outs : List Sl} {r r' : Rho} {j i : Nat} {d d' : D}, back r0 os outs r = some r' → outs[j]? = some (.lk d) → os[j]? = some (.bor i) → r0[i]? = some (.ow d') → False
  | [], _, _, _, j, _, _, _, _, _, h, _ => by simp at h
  | o :: os, [], r, r', _, _, _, _, h, _, _, _ => by cases o <;> cases h
  | o :: os, s :: ss, r, r', 0, i, d, d', h, h1, h2, h3 => by
    simp at h1 h2
    subst h1 h2
    simp only [back, h3] at h
    cases h
  | o :: os, s :: ss, r, r', j + 1, i, d, d', h, h1, h2, h3 => by
    have h1 : ss[j]? = some (.lk d) := by simpa using h1
    have h2 : os[j]? = some (.bor i) := by simpa using h2
    cases o with
    | val _ => exact back_nolk (os := os) (outs := ss) (r := r) h h1 h2 h3
    | new _ => exact back_nolk (os := os) (outs := ss) (r := r) h h1 h2 h3
    | bor k =>
      simp only [back] at h
      split at h
      · cases s with
        | ow d1 => exact back_nolk h h1 h2 h3
        | sh d1 => exact back_nolk h h1 h2 h3
        | un => cases h
        | lk d1 => cases h
      · exact back_nolk h h1 h2 h3
      · cases h
theorem SOks.length : ∀ {os : List Opd} {vs : List V}, SOks G S t H os vs → os.length = vs.length
  | _, _, .nil => rfl
  | _, _, .cons _ q => by simp [q.length]
theorem SOks.get : ∀ {os : List Opd} {vs : List V} {j : Nat} {o : Opd}, SOks G S t H os vs → os[j]? = some o → ∃ v, vs[j]? = some v ∧ SOk G S t H o v
  | _, _, j, o, .nil, e => by simp at e
  | _, v :: vs, 0, o, .cons h _, e => by simp at e; subst e; exact ⟨v, by simp, h⟩
  | _, v :: vs, j + 1, o, .cons _ q, e => by
    obtain ⟨u, e1, e2⟩ := q.get (j := j) (o := o) (by simpa using e)
    exact ⟨u, by simpa using e1, e2⟩
theorem nodup_at {α β : Type} {f : α → Option β} : ∀ {l : List α} {i j : Nat} {a b : α} {x : β}, (l.filterMap f).Nodup → l[i]? = some a → l[j]? = some b → f a = some x → f b = some x → i = j
  | [], i, j, a, b, x, _, h, _, _, _ => by simp at h
  | c :: l, i, j, a, b, x, nd, h1, h2, f1, f2 => by
    have tail : (l.filterMap f).Nodup := by
      cases z : f c with
      | none => rw [List.filterMap_cons, z] at nd; exact nd
      | some y => rw [List.filterMap_cons, z] at nd; exact (List.nodup_cons.mp nd).2
    have no : ∀ {k : Nat} {d : α}, f c = some x → l[k]? = some d → f d = some x → False := fun {k d} e1 e2 e3 => by
      rw [List.filterMap_cons, e1] at nd
      exact (List.nodup_cons.mp nd).1 (List.mem_filterMap.mpr ⟨d, List.mem_of_getElem? e2, e3⟩)
    cases i with
    | zero =>
      simp at h1
      subst h1
      cases j with
      | zero => rfl
      | succ j => exact (no f1 (by simpa using h2) f2).elim
    | succ i =>
      cases j with
      | zero =>
        simp at h2
        subst h2
        exact (no f2 (by simpa using h1) f1).elim
      | succ j =>
        have z : i = j := nodup_at (l := l) (i := i) (j := j) (a := a) (b := b) (x := x) tail (by simpa using h1) (by simpa using h2) f1 f2
        rw [z]
/-- the callee's slots -/
theorem lend_ok {os : List Opd} {as : List Sl} {vs : List V} (k : Ok G S r t H) (q : SOks G S t H os vs) (hl : lendOk r os = true) (e : lend r os = some as) :
    Ok G S as (vs.map some) H ∧ ∀ (j : Nat) (s : Sl) (a : Addr), as[j]? = some s → s.held = true → (vs.map some)[j]? = some (some (.ref a)) → ∃ i, os[j]? = some (.bor i) ∧ r[i]? = some s ∧ t[i]? = some (some (.ref a)) := by
  obtain ⟨le, g⟩ := lend_spec e
  have held : ∀ (j : Nat) (s : Sl) (a : Addr), as[j]? = some s → s.held = true → (vs.map some)[j]? = some (some (.ref a)) → ∃ i, os[j]? = some (.bor i) ∧ r[i]? = some s ∧ t[i]? = some (some (.ref a)) := by
    intro j s a e1 h e2
    obtain ⟨o, e3, e4⟩ := g j s e1
    cases o with
    | val d => have e4 : s = .sh d := e4; subst e4; cases h
    | new d => have e4 : s = .sh d := e4; subst e4; cases h
    | bor i =>
      obtain ⟨v, e5, e6⟩ := q.get e3
      rw [List.getElem?_map, e5] at e2
      simp at e2
      subst e2
      exact ⟨i, e3, e4, e6⟩
  refine ⟨⟨by rw [List.length_map, le, q.length], fun j s v e1 e2 => ?_, fun j l s s' a e1 e2 h1 h2 e3 e4 => ?_, k.dom⟩, held⟩
  · obtain ⟨o, e3, e4⟩ := g j s e1
    obtain ⟨u, e5, e6⟩ := q.get e3
    rw [List.getElem?_map, e5] at e2
    simp at e2
    subst e2
    cases o with
    | val d => have e4 : s = .sh d := e4; subst e4; exact ⟨u, rfl, e6⟩
    | new d => have e4 : s = .sh d := e4; subst e4; exact ⟨u, rfl, e6⟩
    | bor i => exact k.sl i s _ e4 e6
  · obtain ⟨i1, f1, f2, f3⟩ := held j s a e1 h1 e3
    obtain ⟨i2, f4, f5, f6⟩ := held l s' a e2 h2 e4
    have ei := k.apart i1 i2 s s' a f2 f5 h1 h2 f3 f6
    subst ei
    refine nodup_at (x := i1) (of_decide_eq_true hl) f1 f4 ?_ ?_
    · simp only [borH, f2, h1, if_true]
    · simp only [borH, f5, h2, if_true]
/-- the caller's slots behind the call -/
theorem back_ok {os : List Opd} {as outs : List Sl} {vs : List V} (k : Ok G S r t H) (q : SOks G S t H os vs) (hl : lendOk r os = true) (e : lend r os = some as)
    (x : Ext S as (vs.map some) H S' outs (vs.map some) H') (k' : Ok G S' outs (vs.map some) H') (eb : back r os outs r = some r') :
    Ok G S' r' t H' ∧ Ext S r t H S' r' t H' ∧ ∀ {o : Opd} {v : V}, (∀ i, o ≠ .bor i) → OpdOk G S' outs (vs.map some) H H' o v → OpdOk G S' r' t H H' o v := by
  obtain ⟨ka, held⟩ := lend_ok k q hl e
  obtain ⟨lb, g⟩ := back_spec eb
  have hOw : ∀ a, OwAt as (vs.map some) a → OwAt r t a := fun a ⟨j, d, e1, e2⟩ => by
    obtain ⟨i, f1, f2, f3⟩ := held j _ a e1 rfl e2
    exact ⟨i, d, f2, f3⟩
  have old : ∀ (i : Nat) (s : Sl), r'[i]? = some s → s.held = true → ∃ s0, r[i]? = some s0 ∧ s0.held = true := fun i s e1 h => by
    rcases g i s e1 with ⟨g1, _⟩ | ⟨j, d, _, g2, _⟩
    · exact ⟨s, g1, h⟩
    · exact ⟨_, g2, rfl⟩
  have hld : ∀ a, HeldAt r' t a → HeldAt r t a := fun a ⟨i, s, e1, h, e2⟩ => by
    obtain ⟨s0, e3, h3⟩ := old i s e1 h
    exact ⟨i, s0, e3, h3, e2⟩
  -- an object that is held here and is not lent
  have stay : ∀ (i : Nat) (s : Sl) (a : Addr), r[i]? = some s → s.held = true → t[i]? = some (some (.ref a)) → (∀ d, s = .ow d → ∀ j : Nat, os[j]? ≠ some (.bor i)) → H' a = H a ∧ ¬ S' a := by
    intro i s a e1 h e2 hn
    obtain ⟨h1, h2⟩ := k.heldThere e1 h e2
    have no : ¬ OwAt as (vs.map some) a := fun ⟨j, d, e3, e4⟩ => by
      obtain ⟨i', f1, f2, f3⟩ := held j _ a e3 rfl e4
      have ei := k.apart i i' s _ a e1 f2 h rfl e2 f3
      subst ei
      rw [e1] at f2
      cases f2
      exact hn d rfl j f1
    refine ⟨?_, fun z => ?_⟩
    · cases c : H a with
      | none => exact absurd c h1
      | some o => exact x.keep a o c no
    · rcases x.down a z with z | z | z
      · exact h2 z
      · exact no z
      · exact h1 z
  have X1 : Ext S r t H S' r' t H' := by
    refine ⟨x.up, fun a h => ?_, fun a o h n => x.keep a o h fun z => n (hOw a z), fun a h => ?_, fun i s a e1 h e2 => .inl (let ⟨s0, e3, h3⟩ := old i s e1 h; ⟨s0, e3, h3, e2⟩), fun i d h => ?_, x.dom⟩
    · rcases x.down a h with h | h | h
      · exact .inl h
      · exact .inr (.inl (hOw a h))
      · exact .inr (.inr h)
    · obtain ⟨i, d, e1, e2⟩ := h
      rcases g i _ e1 with ⟨g1, _⟩ | ⟨j, d', _, g2, _⟩
      · exact .inl ⟨i, d, g1, e2⟩
      · exact .inl ⟨i, d', g2, e2⟩
    · rcases g i _ h with ⟨g1, _⟩ | ⟨j, d', g0, g2, g3⟩
      · exact ⟨g1, rfl⟩
      · exact (back_nolk eb g3 g0 g2).elim
  refine ⟨⟨lb.trans k.len, fun i s v e1 e2 => ?_, fun i l s s' a e1 e2 h1 h2 e3 e4 => ?_, k'.dom⟩, X1, fun {o v} nb h => ?_⟩
  · have kk : ∀ b u, S b → H b = some u → ∃ o', H' b = some o' ∧ Keep u o' := fun b u hb e => ⟨u, x.keep b u e (ka.notOw hb), .inl rfl⟩
    rcases g i s e1 with ⟨g1, g2⟩ | ⟨j, d, g1, g2, g3⟩
    · have z := k.sl i s v g1 e2
      cases s with
      | un => trivial
      | sh d => obtain ⟨u, e3, z⟩ := z; exact ⟨u, e3, Rp.stay x.up kk _ _ z⟩
      | ow d =>
        obtain ⟨a, e3, n, z⟩ := z
        subst e3
        obtain ⟨s1, s2⟩ := stay i _ a g1 rfl e2 fun d' hd j => g2 d g1 j
        exact ⟨a, rfl, s2, z.stay x.up kk s1⟩
      | lk d =>
        obtain ⟨a, e3, n, n2, z⟩ := z
        subst e3
        obtain ⟨s1, s2⟩ := stay i _ a g1 rfl e2 fun d' hd => by cases hd
        refine ⟨a, rfl, s2, by rw [s1]; exact n2, z.stay x.up kk fun b o eb c => ⟨o, ?_, .inl rfl⟩⟩
        cases eb
        rw [s1]
        exact c
    · obtain ⟨u, e5, e6⟩ := q.get g1
      have e6 : t[i]? = some (some u) := e6
      rw [e6] at e2
      cases e2
      exact k'.sl j s (some u) g3 (by rw [List.getElem?_map, e5]; rfl)
  · obtain ⟨s0, f1, f2⟩ := old i s e1 h1
    obtain ⟨s1, f3, f4⟩ := old l s' e2 h2
    exact k.apart i l s0 s1 a f1 f3 f2 f4 e3 e4
  · cases o with
    | val d => exact h
    | bor i => exact absurd rfl (nb i)
    | new d =>
      obtain ⟨a, e1, e2, e3, e4, e5⟩ := h
      refine ⟨a, e1, e2, e3, fun z => ?_, e5⟩
      obtain ⟨i, s, z1, z2, z3⟩ := hld a z
      exact (k.heldThere z1 z2 z3).1 e2
end
end VI

end
section
/-! VI10: calls of defs, of builtins, of builtin methods. -/
namespace VI
open PySem L2
theorem starEach_cons {e : Expr} {es : List Expr} {env : Env} (h : notStar e = true) : starEach (e :: es) env = (false, eval e env) :: starEach es env := by
  cases e <;> first | rfl | cases h
theorem noStar_any {env : Env} {pos : Pos} : ∀ {es : List Expr}, noStar es = true → (backTo pos (starEach es env)).any (·.1) = false
  | [], _ => rfl
  | e :: es, h => by
    have h' := h
    unfold noStar at h'
    rw [List.all_cons, Bool.and_eq_true] at h'
    rw [starEach_cons h'.1]
    show (false || (backTo pos (starEach es env)).any (·.1)) = false
    rw [Bool.false_or]
    exact noStar_any h'.2
theorem noStar_all {env : Env} {pos : Pos} : ∀ {es : List Expr}, noStar es = true → (backTo pos (starEach es env)).all (fun x => !x.1) = true
  | [], _ => rfl
  | e :: es, h => by
    have h' := h
    unfold noStar at h'
    rw [List.all_cons, Bool.and_eq_true] at h'
    rw [starEach_cons h'.1]
    show (true && (backTo pos (starEach es env)).all (fun x => !x.1)) = true
    rw [Bool.true_and]
    exact noStar_all h'.2
theorem kw_all {env : Env} {pos : Pos} : ∀ {kws : List Keyword} {ns : List Str}, kwNames kws = some ns → (backToKw pos (keywordEach kws env)).all (·.1.isSome) = true ∧ (backToKw pos (keywordEach kws env)).filterMap (·.1) = ns ∧ (backToKw pos (keywordEach kws env)).any (·.1.isNone) = false
  | [], ns, h => by cases h; exact ⟨rfl, rfl, rfl⟩
  | ⟨none, _, _⟩ :: ks, ns, h => by cases h
  | ⟨some x, e, p⟩ :: ks, ns, h => by
    simp only [kwNames] at h
    cases z : kwNames ks with
    | none => rw [z] at h; cases h
    | some ms =>
      rw [z] at h
      cases h
      obtain ⟨h1, h2, h3⟩ := kw_all (env := env) (pos := pos) z
      refine ⟨?_, ?_, ?_⟩
      · show (true && _) = true
        rw [Bool.true_and]
        exact h1
      · show x :: _ = x :: ms
        rw [← h2]
        rfl
      · show (false || _) = false
        rw [Bool.false_or]
        exact h3
section
variable {X : Cx} {L : Lk} {gl : Str → Option Gl1} {C : Orc} {W : WX} {S S' S0 S1 : Addr → Prop} {r r' r0 r1 : Rho} {t : L2.St} {H H0 H1 : Hp} {Q : VK}
theorem evs_append : ∀ {xs ys : List Ex}, evs C (xs ++ ys) = bnd (evs C xs) fun as => bnd (evs C ys) fun bs => ret (as ++ bs)
  | [], ys => by
    show evs C ys = bnd (evs C ys) fun bs => ret bs
    funext r
    simp only [bnd]
    cases evs C ys r <;> rfl
  | x :: xs, ys => by
    show (bnd (ev C x).v fun o => bnd (evs C (xs ++ ys)) fun os => ret (o :: os)) = _
    rw [evs_append]
    simp only [evs, bnd_assoc, ret_bnd]
    rfl
theorem OpdsOk.append {G : Ctx} : ∀ {os os' : List Opd} {vs vs' : List V}, OpdsOk G S r t H0 H os vs → OpdsOk G S r t H0 H os' vs' → OpdsOk G S r t H0 H (os ++ os') (vs ++ vs')
  | _, _, _, _, .nil, h => h
  | _, _, _, _, .cons h k, h' => .cons h (k.append h')
/-- a call, by what the oracle says -/
theorem call_sp {os : List Opd} {vs : List V} {n i : Nat} (k : Ok (gm X L) S r t H) (x : Ext S0 r0 t H0 S r t H) (q : OpdsOk (gm X L) S r t H0 H os vs) (hn : vs.length = n)
    (p : Post (gm X L) W S0 r0 t H0 (rO (gm X L)) Q (callM C i os r)) : spC (gm X L) C n i vs H Q (WE W t) := by
  obtain ⟨S1, u1, k1, x1, q1⟩ := shareAll k x (fun _ h => h) q
  unfold callM at p
  split at p
  · rename_i hl
    split at p
    · rename_i as e
      obtain ⟨ka, _⟩ := lend_ok k1 q1 hl e
      refine ⟨S1, as, hn, ka, ?_⟩
      cases ec : C i as with
      | ok o outs =>
        rw [ec] at p
        dsimp only at p
        intro v H' S' xx k' ho
        cases eb : back r os outs r with
        | none => rw [eb] at p; exact p.elim
        | some r' =>
          rw [eb] at p
          obtain ⟨k2, x2, h2⟩ := back_ok k1 q1 hl e xx k' eb
          cases o with
          | bor i => exact p.elim
          | val d => exact p v H' S' (x1.trans x2) k2 ((h2 (fun _ z => by cases z) ho).mono (dom_none x1))
          | new d => exact p v H' S' (x1.trans x2) k2 ((h2 (fun _ z => by cases z) ho).mono (dom_none x1))
      | err z outs =>
        rw [ec] at p
        dsimp only at p
        intro cls d H' S' xx k' ho
        cases eb : back r os outs r with
        | none => rw [eb] at p; exact p.elim
        | some r' =>
          rw [eb] at p
          obtain ⟨k2, x2, h2⟩ := back_ok k1 q1 hl e xx k' eb
          exact p cls d H' S' (x1.trans x2) k2 ho
      | bad => rw [ec] at p; exact p.elim
    · exact p.elim
  · exact p.elim
/-- f(..) -/
theorem s_cal {x : Str} {i : Nat} {ps : List Str} {es : List Expr} {kws : List Keyword} {xs ys : List Ex} {p pos : Pos} (G : Good L gl C X) (tk : Takes X W) (hx : gl x = some (.fn i ps)) (hg : Gl X x) (hdb : (x == ("__debug__" : Str)) = false)
    (hs : noStar es = true) (hkw : kwNames kws = some (ps.drop es.length)) (hle : es.length ≤ ps.length) (hxs : xs.length = es.length) (hys : ys.length = kws.length) (ha : PA X es (tM (gm X L) W (rOs (gm X L)) (evs C xs))) (hk : PK X kws (tM (gm X L) W (rOs (gm X L)) (evs C ys))) :
    Snd X L W (.Call (.Name x p) es kws pos) (ev C (.cal i (xs ++ ys))) := by
  refine snd_tv ⟨fun pins s σ H Q I h => ?_⟩ fun _ => rfl
  obtain ⟨hm, hkp, k, fd, hr, F, hb⟩ := G.fns x i ps hx
  obtain ⟨S, r, kO, p⟩ := h
  have e0 : (bnd (evs C (xs ++ ys)) fun os => callM C i os) = bnd (evs C xs) fun as => bnd (evs C ys) fun bs => callM C i (as ++ bs) := by
    rw [evs_append]
    simp only [bnd_assoc, ret_bnd]
  rw [e0] at p
  refine PySem.wpAny_Call_Name_kw (ld_glob I hg hm ?_ hdb)
  obtain ⟨ka, kf, kn⟩ := kw_all (env := X.env) (pos := pos) hkw
  have go : ∀ (us ws : List Value) (vs zs : List V) (s2 : Shared) (H2 : Hp) (os bs : List Opd) (S2 : Addr → Prop) (r2 : Rho), Inv X pins σ H2 s2 → Vals vs us → Vals zs ws → vs.length = es.length → Ok (gm X L) S2 r2 σ H2 → Ext S r σ H S2 r2 σ H2 →
      OpdsOk (gm X L) S2 r2 σ H H2 os vs → OpdsOk (gm X L) S2 r2 σ H H2 bs zs → zs.length = kws.length → Post (gm X L) W S r σ H (rO (gm X L)) Q (callM C i (os ++ bs) r2) →
      wpAny (model X.prog X.w) X.A (call (.ref (L.FA i)) us ((ps.drop es.length).zip ws)) (EP X pins σ Q) X.xe s2 := by
    intro us ws vs zs s2 H2 os bs S2 r2 I2 rv rz lv k2 x2 q1 q2 lz p
    have kl : kws.length = (ps.drop es.length).length := by
      have : ∀ {kws : List Keyword} {ns : List Str}, kwNames kws = some ns → kws.length = ns.length := by
        intro kws
        induction kws with
        | nil => intro ns h; cases h; rfl
        | cons a as ih =>
          intro ns h
          obtain ⟨n, e, p⟩ := a
          cases n with
          | none => cases h
          | some x =>
            simp only [kwNames] at h
            cases z : kwNames as with
            | none => rw [z] at h; cases h
            | some ms => rw [z] at h; cases h; simp [ih z]
      exact this hkw
    have hn : (vs ++ zs).length = ps.length := by
      rw [List.length_append, lv, lz, kl, List.length_drop]
      omega
    have sp := call_sp (L := L) (C := C) (n := ps.length) k2 x2 (q1.append q2) hn p
    have lu : us.length = es.length := by rw [← rv.length]; exact lv
    have r2' : Vals (vs ++ zs) (us ++ ws) := rv.append rz
    have b := hb s2 us ws I2.kIn (by rw [← r2'.length]; exact hn)
    rw [lu] at b
    refine wpAny_call (codeAny_mono (F.run X.A X.stack s2 H2 ⟨us, (ps.drop es.length).zip ws⟩ (us ++ ws) (vs ++ zs) Q (WE W σ) hr I2.env0 b r2' sp) fun rr s' hq => ?_)
    cases rr with
    | error e => exact passAt tk σ pins H2 s2 e s' I2 hq
    | ok fl =>
      cases fl with
      | ret u => exact I2.after hq
      | next => exact False.elim hq
      | brk => exact False.elim hq
      | cont => exact False.elim hq
  have opl : ∀ {S : Addr → Prop} {r : Rho} {H0 H : Hp} {os : List Opd} {vs : List V}, OpdsOk (gm X L) S r σ H0 H os vs → os.length = vs.length := by
    intro S r H0 H os vs h
    induction h with
    | nil => rfl
    | cons _ _ ih => simp [ih]
  have evl : ∀ {xs : List Ex} {r : Rho} {os : List Opd} {r1 : Rho}, evs C xs r = .ok os r1 → os.length = xs.length := by
    intro xs
    induction xs with
    | nil => intro r os r1 h; cases h; rfl
    | cons x xs ih =>
      intro r os r1 h
      simp only [evs, bnd] at h
      cases z : (ev C x).v r with
      | ok o r2 =>
        rw [z] at h
        dsimp only at h
        cases z2 : evs C xs r2 with
        | ok os2 r3 => rw [z2] at h; cases h; simp [ih z2]
        | err a b => rw [z2] at h; cases h
        | bad => rw [z2] at h; cases h
      | err a b => rw [z] at h; cases h
      | bad => rw [z] at h; cases h
  -- the positional arguments, then the keywords'
  have main : tM (gm X L) W (rOs (gm X L)) (evs C xs) σ H fun vs H1 => tM (gm X L) W (rOs (gm X L)) (evs C ys) σ H1 fun zs H2 => ∃ os bs S2 r2, Ok (gm X L) S2 r2 σ H2 ∧ Ext S r σ H S2 r2 σ H2 ∧
      OpdsOk (gm X L) S2 r2 σ H H2 os vs ∧ OpdsOk (gm X L) S2 r2 σ H H2 bs zs ∧ os.length = xs.length ∧ bs.length = ys.length ∧ Post (gm X L) W S r σ H (rO (gm X L)) Q (callM C i (os ++ bs) r2) := by
    have p' : Post (gm X L) W S r σ H (rO (gm X L)) Q (bnd (fun r => match evs C xs r with
      | .ok os r1 => .ok (os, decide (os.length = xs.length)) r1
      | .err a b => .err a b
      | .bad => .bad : M (List Opd × Bool)) (fun as => bnd (evs C ys) fun bs => callM C i (as.1 ++ bs)) r) := by
      simp only [bnd] at p ⊢
      cases z : evs C xs r with
      | ok os r1 => rw [z] at p; exact p
      | err a b => rw [z] at p; exact p
      | bad => rw [z] at p; exact p
    refine ⟨S, r, kO, ?_⟩
    simp only [bnd] at p
    cases z : evs C xs r with
    | bad => rw [z] at p; exact p
    | err a b => rw [z] at p; exact p
    | ok os r1 =>
      rw [z] at p
      dsimp only at p
      intro vs H1 S1 x1 k1 q1
      refine ⟨S1, r1, k1, ?_⟩
      cases z2 : evs C ys r1 with
      | bad => rw [z2] at p; exact p
      | err a b => rw [z2] at p; exact fun c d H' S' y k q => p c d H' S' (x1.trans y) k q
      | ok bs r2 =>
        rw [z2] at p
        intro zs H2 S2 x2 k2 q2
        exact ⟨os, bs, S2, r2, k2, x1.trans x2, q1.later k1 x2, q2.mono (dom_none x1), evl z, evl z2, p⟩
  cases es with
  | nil =>
    refine PySem.W.callWith_KW0 (h₀ := X.base) I.ok.mod.kin hkp ka ?_ (by rw [noStar_any hs, kn]; rfl)
    have hxe : xs = [] := by
      cases xs with
      | nil => rfl
      | cons a b => simp at hxs
    subst hxe
    have mm : tM (gm X L) W (rOs (gm X L)) (evs C ys) σ H fun zs H2 => ∃ os bs S2 r2, Ok (gm X L) S2 r2 σ H2 ∧ Ext S r σ H S2 r2 σ H2 ∧
      OpdsOk (gm X L) S2 r2 σ H H2 os [] ∧ OpdsOk (gm X L) S2 r2 σ H H2 bs zs ∧ os.length = 0 ∧ bs.length = ys.length ∧ Post (gm X L) W S r σ H (rO (gm X L)) Q (callM C i (os ++ bs) r2) := by
      obtain ⟨S9, r9, k9, p9⟩ := main
      exact p9 [] H S9 .refl k9 .nil
    refine thn (hk.run pos pins s σ H _ I mm) fun ws s2 ⟨zs, H2, I2, rz, os, bs, S2, r2, k2, x2, q1, q2, l1, l2, p⟩ => ⟨I2.kIn, ?_⟩
    rw [kf]
    exact go [] ws [] zs s2 H2 os bs S2 r2 I2 .nil rz rfl k2 x2 q1 q2 (by rw [← opl q2, l2, hys]) p
  | cons e es =>
    refine PySem.W.callWith_KW (h₀ := X.base) I.ok.mod.kin hkp ka (thn (ha.run pos pins s σ H _ I main) fun us s1 ⟨vs, H1, I1, rv, q⟩ => ?_) (by rw [noStar_any hs, kn]; rfl) (starEach_cons (by
      unfold noStar at hs
      rw [List.all_cons, Bool.and_eq_true] at hs
      exact hs.1))
    refine thn (hk.run pos pins s1 σ H1 _ I1 q) fun ws s2 ⟨zs, H2, I2, rz, os, bs, S2, r2, k2, x2, q1, q2, l1, l2, p⟩ => ⟨I2.kIn, ?_⟩
    rw [kf]
    exact go us ws vs zs s2 H2 os bs S2 r2 I2 rv rz (by rw [← opl q1, l1, hxs]) k2 x2 q1 q2 (by rw [← opl q2, l2, hys]) p
end
end VI

end
section
/-! VI11: builtins called, methods of builtin types. -/
namespace VI
open PySem L2
section
variable {G : Ctx} {S S' S0 S1 : Addr → Prop} {r r' r0 r1 : Rho} {t : L2.St} {H H' H0 H1 : Hp}
/-- a held object changes -/
theorem Ok.change (k : Ok G S r t H) {j : Nat} {a : Addr} {d d' : D} {u : HO} (h : r[j]? = some (.ow d)) (e : t[j]? = some (some (.ref a))) (tp : Top G S (upd H a u) a d') :
    Ok G S (r.set j (.ow d')) t (upd H a u) ∧ Ext S r t H S (r.set j (.ow d')) t (upd H a u) := by
  obtain ⟨b, eb, nS, tp0⟩ := k.sl j _ _ h e
  cases eb
  have hj : j < r.length := (List.getElem?_eq_some_iff.mp h).1
  have kk : ∀ (b : Addr) (o : HO), S b → H b = some o → ∃ o', upd H a u b = some o' ∧ Keep o o' := fun b o hb q => ⟨o, by rw [upd_ne (fun z => nS (by rw [← z]; exact hb))]; exact q, .inl rfl⟩
  have get : ∀ (i : Nat) (s : Sl), (r.set j (.ow d'))[i]? = some s → (i = j ∧ s = .ow d') ∨ (i ≠ j ∧ r[i]? = some s) := fun i s q => by
    by_cases hi : i = j
    · subst hi
      rw [List.getElem?_set_self hj] at q
      cases q
      exact .inl ⟨rfl, rfl⟩
    · rw [List.getElem?_set_ne (Ne.symm hi)] at q
      exact .inr ⟨hi, q⟩
  have hel : ∀ (i : Nat) (s : Sl), (r.set j (.ow d'))[i]? = some s → s.held = true → ∃ s0, r[i]? = some s0 ∧ s0.held = true := fun i s q hs => by
    rcases get i s q with ⟨rfl, rfl⟩ | ⟨_, q⟩
    · exact ⟨_, h, rfl⟩
    · exact ⟨s, q, hs⟩
  have dom : ∀ b, H b ≠ none → upd H a u b ≠ none := fun b hb => by
    by_cases z : b = a
    · subst z; rw [upd_same]; intro y; cases y
    · rw [upd_ne z]; exact hb
  refine ⟨⟨by rw [List.length_set]; exact k.len, fun i s v q1 q2 => ?_, fun i l s s' b q1 q2 h1 h2 e1 e2 => ?_, fun b hb => dom b (k.dom b hb)⟩, ⟨fun _ h => h, fun _ h => .inl h, fun b o q n => ?_, fun b hb => ?_, fun i s b q1 hs q2 => ?_, fun i d0 q => ?_, dom⟩⟩
  · rcases get i s q1 with ⟨rfl, rfl⟩ | ⟨hi, q1⟩
    · rw [e] at q2
      cases q2
      exact ⟨a, rfl, nS, tp⟩
    · have z := k.sl i s v q1 q2
      have ne : ∀ b, v = some (.ref b) → s.held = true → b ≠ a := fun b hv hh z => by
        subst z
        exact hi (k.apart i j s _ b q1 h hh rfl (by rw [q2, hv]) e)
      cases s with
      | un => trivial
      | sh d0 => obtain ⟨w, z1, z2⟩ := z; exact ⟨w, z1, Rp.stay (fun _ h => h) kk _ _ z2⟩
      | ow d0 =>
        obtain ⟨b, z1, z2, z3⟩ := z
        exact ⟨b, z1, z2, z3.stay (fun _ h => h) kk (upd_ne (ne b z1 rfl))⟩
      | lk d0 =>
        obtain ⟨b, z1, z2, z3, z4⟩ := z
        have nb := ne b z1 rfl
        refine ⟨b, z1, z2, by rw [upd_ne nb]; exact z3, z4.stay (fun _ h => h) kk fun c o ec q => ⟨o, ?_, .inl rfl⟩⟩
        cases ec
        rw [upd_ne nb]
        exact q
  · obtain ⟨s0, f1, f2⟩ := hel i s q1 h1
    obtain ⟨s1, f3, f4⟩ := hel l s' q2 h2
    exact k.apart i l s0 s1 b f1 f3 f2 f4 e1 e2
  · exact (upd_ne (fun z => n ⟨j, d, h, by rw [z]; exact e⟩)).trans q
  · obtain ⟨i, d0, q1, q2⟩ := hb
    rcases get i _ q1 with ⟨rfl, _⟩ | ⟨_, q1⟩
    · exact .inl ⟨_, d, h, q2⟩
    · exact .inl ⟨i, d0, q1, q2⟩
  · obtain ⟨s0, f1, f2⟩ := hel i s q1 hs
    exact .inl ⟨s0, f1, f2, q2⟩
  · rcases get i _ q with ⟨_, z⟩ | ⟨_, q1⟩
    · cases z
    · exact ⟨q1, rfl⟩
end
section
variable {X : Cx} {L : Lk} {gl : Str → Option Gl1} {C : Orc} {W : WX} {S S' S0 S1 : Addr → Prop} {r r' r0 r1 : Rho} {t : L2.St} {H H0 H1 : Hp} {Q : VK}
theorem biOf_boot {x : Str} {f : Bi} (h : biOf x = some f) : bootBuiltins x = some (biV f) ∧ x ≠ "__name__" ∧ (x == ("__debug__" : Str)) = false := by
  unfold biOf at h
  repeat' (split at h)
  all_goals first
    | (cases h; rename_i e; subst e; decide +kernel)
    | cases h
theorem biD_nil {f : Bi} : biD f [] = none := by cases f <;> rfl
/-- the run of a builtin's call -/
theorem bi_run {f : Bi} {xs : List Ex} (hc : X.calm = true) {σ : L2.St} (h : tM (gm X L) W (rO (gm X L)) (ev C (.bi f xs)).v σ H Q) : tM (gm X L) W (rOs (gm X L)) (evs C xs) σ H fun vs H1 => caW X (biV f) vs H1 Q := by
  obtain ⟨S, r, k, p⟩ := h
  refine (bindP (R1 := rOs (gm X L)) k .refl p).mono fun vs H1 ⟨os, S1, r1, k1, x1, q1, p⟩ => ?_
  obtain ⟨ds, hv, p⟩ := datsP k1 q1 p
  obtain ⟨o, e, p⟩ := optE p
  exact bi_rule hc k1 hv e (.of x1 p)
theorem s_bi {x : Str} {f : Bi} {es : List Expr} {xs : List Ex} {p pos : Pos} (G : Good L gl C X) (hx : gl x = none) (hf : biOf x = some f) (hg : Gl X x) (hs : noStar es = true) (hl : xs.length = es.length) (ha : PA X es (tM (gm X L) W (rOs (gm X L)) (evs C xs))) :
    Snd X L W (.Call (.Name x p) es [] pos) (ev C (.bi f xs)) := by
  refine snd_tv ?_ fun _ => rfl
  obtain ⟨hb, hn, hd⟩ := biOf_boot hf
  have hm : X.mg x = none := G.blt x hx (.inl (by rw [hf]; rfl))
  cases es with
  | nil =>
    have : xs = [] := by cases xs with
      | nil => rfl
      | cons a b => simp at hl
    subst this
    refine pe_fail fun σ H Q ⟨S, r, k, p⟩ => ?_
    have p : Post (gm X L) W S r σ H (rO (gm X L)) Q (opt (biD f []) r) := p
    rw [biD_nil] at p
    exact p
  | cons e es =>
    have hs' := hs
    unfold noStar at hs'
    rw [List.all_cons, Bool.and_eq_true] at hs'
    have h1 := starEach_cons (es := es) (env := X.env) hs'.1
    have h2 := noStar_any (env := X.env) (pos := pos) hs'.2
    have go : ∀ (id : String), biV f = .builtin id → PE X (.Call (.Name x p) (e :: es) [] pos) (tM (gm X L) W (rO (gm X L)) (ev C (.bi f xs)).v) := fun id hid =>
      (pe_callB (caW_ok X (.builtin id)) hg hm (by rw [hb, hid]) ha hn hd h1 h2).of fun σ H Q h => by
        have z := bi_run G.calm h
        rw [hid] at z
        exact z
    have go2 : ∀ (id : String), biV f = .type id → PE X (.Call (.Name x p) (e :: es) [] pos) (tM (gm X L) W (rO (gm X L)) (ev C (.bi f xs)).v) := fun id hid =>
      (pe_callTy (caW_ok X (.type id)) hg hm (by rw [hb, hid]) ha hn hd h1 h2).of fun σ H Q h => by
        have z := bi_run G.calm h
        rw [hid] at z
        exact z
    cases f with
    | len => exact go _ rfl
    | int => exact go2 _ rfl
    | str => exact go2 _ rfl
    | bool => exact go2 _ rfl
    | sum => exact go _ rfl
    | all => exact go _ rfl
    | any => exact go _ rfl
    | list => exact go2 _ rfl
    | tuple => exact go2 _ rfl
    | isi => exact go _ rfl
/-! ### methods -/
def mtW (X : Cx) (id : String) : V → List V → Hp → VK → Prop := fun x xs H Q => ∀ (pins : List (Addr × Obj)) (s : Shared) (σ : L2.St) (v : Value) (us : List Value), Inv X pins σ H s → RelV x v → Vals xs us → wpAny (model X.prog X.w) X.A (call (.builtin id) (v :: us)) (EP X pins σ Q) X.xe s
theorem mtW_ok (X : Cx) (id : String) : MtR X id (mtW X id) := fun pins s σ H x xs v us Q I rx r h => h pins s σ v us I rx r
theorem mtW_of {id : String} {r0 : V → List V → Hp → VK → Prop} (o : MtR X id r0) {x : V} {xs : List V} {H : Hp} {Q : VK} (h : r0 x xs H Q) : mtW X id x xs H Q := fun pins s σ v us I rx r => o pins s σ H x xs v us Q I rx r h
theorem View.tyV {d : D} {x : V} {m : Bm} (h : View (gm X L) S H d x) (e : clsOf d = some m.cls) : L2.tyV X.K m.cls x H := by
  cases m with
  | join =>
    cases d with
    | str z => have h : x = .str z := h; subst h; rfl
    | _ => exact absurd e (by simp [clsOf, Bm.cls])
  | append =>
    cases d with
    | lst ds => obtain ⟨a, us, q, h1, r1⟩ := h; subst q; exact .inl ⟨rfl, us, .of h1⟩
    | frl ds => obtain ⟨a, us, q, h1, r1⟩ := h; subst q; exact .inl ⟨rfl, us, h1⟩
    | _ => exact absurd e (by simp [clsOf, Bm.cls])
def Bm.id : Bm → String
  | .join => "str.join"
  | .append => "list.append"
theorem bm_facts {m : Str} {f : Bm} (h : bmOf m = some f) : PlainAttrs f.cls ∧ Slot f.cls m f.id ∧ typeOf (.builtin f.id) = pure (.type "method_descriptor") := by
  unfold bmOf at h
  repeat' (split at h)
  · cases h; rename_i e; subst e; exact ⟨PySem.F.plainAttrs_str, PySem.F.slot_str_join, PySem.F.type_str_join⟩
  · cases h; rename_i e; subst e; exact ⟨PySem.F.plainAttrs_list, PySem.F.slot_list_append, PySem.F.type_list_append⟩
  · cases h
theorem notSuper_base {o : Expr} {m : Str} {env : Env} (h : notSuper o = true) : attributeBase o m env (eval o env) = eval o env := by
  unfold attributeBase
  split
  · rename_i id ps0 ps1
    have h : (id != ("super" : Str)) = true := h
    simp only [h, Bool.true_or, if_true]
  · rfl
theorem bm_rule {m : Bm} {d : D} {ds : List D} {vs : List V} {x : V} {o : Opd} (k : Ok (gm X L) S r t H) (hx : View (gm X L) S H d x) (hv : Views (gm X L) S H ds vs) (hb : bmD m d ds = some o) (en : EndO (gm X L) S r t H o Q) : mtW X m.id x vs H Q := by
  unfold bmD at hb
  split at hb
  · rename_i a ds'
    have hx : x = .str a := hx
    subst hx
    cases hv with | cons h hr =>
    cases hr
    obtain ⟨p, us, q, h1, r1⟩ := h
    subst q
    cases z : strsD ds' with
    | none => rw [z] at hb; cases hb
    | some ys =>
      rw [z] at hb
      replace hb : (if (ys.map (·.length)).sum + ys.length * a.length ≤ 16777216 then some (Opd.val (.str (Txt.join a ys))) else none) = some o := hb
      split at hb
      · rename_i hl
        cases hb
        have e := r1.ofStrs z
        subst e
        exact mtW_of mt_join ⟨a, p, ys, rfl, rfl, .inl (.of h1), hl, en.str k⟩
      · cases hb
  · cases hb
theorem bm_run {m : Bm} {ea : Ex} {xs : List Ex} {σ : L2.St} (h : tM (gm X L) W (rO (gm X L)) (ev C (.bm m ea xs)).v σ H Q) :
    tM (gm X L) W (rO (gm X L)) (ev C ea).v σ H fun x H1 => L2.tyV X.K m.cls x H1 ∧ tM (gm X L) W (rOs (gm X L)) (evs C xs) σ H1 fun vs H2 => mtW X m.id x vs H2 Q := by
  obtain ⟨S, r, k, p⟩ := h
  refine (bindP (R1 := rO (gm X L)) k .refl p).mono fun x H1 ⟨ox, S1, r1, k1, x1, q1, p⟩ => ?_
  obtain ⟨d0, e0, p⟩ := datP p
  split at p
  · rename_i hc
    refine ⟨(q1.view k1 e0).tyV hc, ?_⟩
    refine (bindP (R1 := rOs (gm X L)) k1 x1 p).mono fun vs H2 ⟨os, S2, r2, k2, x2, q2, p⟩ => ?_
    have q1' := q1.later k1 x2
    cases m with
    | join =>
      dsimp only at p
      obtain ⟨d, e1, p⟩ := datP p
      obtain ⟨ds, hv, p⟩ := datsP k2 q2 p
      obtain ⟨o, e2, p⟩ := optE p
      exact bm_rule (m := .join) k2 (q1'.view k2 e1) hv e2 (.of (x1.trans x2) p)
    | append =>
      dsimp only at p
      obtain ⟨S3, u3, k3, x3, q3⟩ := shareAll k2 (x1.trans x2) (dom_none x1) q2
      obtain ⟨ds, S4, r4, u4, k4, x4, rl, p⟩ := frzsP k3 x3 q3 p
      cases ox with
      | val d => exact p.elim
      | new d => exact p.elim
      | bor j =>
        have q1' : σ[j]? = some (some x) := q1'
        dsimp only at p
        cases e : r4[j]? with
        | none => rw [e] at p; exact p.elim
        | some s =>
          rw [e] at p
          cases s with
          | un => exact p.elim
          | sh d => exact p.elim
          | lk d => exact p.elim
          | ow d =>
            dsimp only at p
            obtain ⟨a, ea', nS, tp⟩ := k4.sl j _ _ e q1'
            cases ea'
            unfold bmSet at p
            split at p
            · rename_i d' v hb
              split at hb
              · rename_i ds' y hh
                split at hb
                · rename_i hl
                  cases hb
                  obtain ⟨vs', h1, r1⟩ := tp
                  obtain ⟨w, ws, rfl, hw, hws⟩ := rl
                  have hws : ws = [] := hws
                  subst hws
                  have nS' : ∀ b, S4 b → b ≠ a := fun b hb z => nS (by rw [← z]; exact hb)
                  have kk : ∀ (b : Addr) (o : HO), S4 b → H2 b = some o → ∃ o', upd H2 a (.lst (vs' ++ [w])) b = some o' ∧ Keep o o' := fun b o hb q => ⟨o, by rw [upd_ne (nS' b hb)]; exact q, .inl rfl⟩
                  have ap : RpL (gm X L) S4 H2 (ds' ++ [y]) (vs' ++ [w]) := r1.append ⟨w, [], rfl, hw, rfl⟩
                  obtain ⟨k5, x5⟩ := k4.change e q1' (d' := .lst (ds' ++ [y])) (u := .lst (vs' ++ [w])) ⟨vs' ++ [w], upd_same, RpL.stay (fun _ h => h) kk _ _ ap⟩
                  refine mtW_of mt_append ⟨a, vs', w, rfl, rfl, h1, by rw [← r1.length]; exact hl, ?_⟩
                  exact p .non _ S4 (x4.trans x5) k5 rfl
                · cases hb
              · cases hb
            · exact p.elim
  · exact p.elim
theorem s_bm {m : Str} {f : Bm} {a : Expr} {es : List Expr} {ea : Ex} {xs : List Ex} {apos pos : Pos} (hf : bmOf m = some f) (hs : noStar es = true) (h25 : es.length < 25) (hn : notSuper a = true) (hline : (apos.endLine == pos.line) = true) (hl : xs.length = es.length)
    (he : Snd X L W a (ev C ea)) (ha : PA X es (tM (gm X L) W (rOs (gm X L)) (evs C xs))) : Snd X L W (.Call (.Attribute a m apos) es [] pos) (ev C (.bm f ea xs)) := by
  obtain ⟨f1, f2, f3⟩ := bm_facts hf
  have hne : ∀ whole, isTrue (.Call (.Attribute a m apos) es [] pos) X.env whole = (do let v ← whole; standAt (Expr.Call (.Attribute a m apos) es [] pos).pos; holding [v] (truthy v)) := fun _ => rfl
  refine snd_tv ?_ hne
  cases es with
  | nil =>
    have : xs = [] := by cases xs with
      | nil => rfl
      | cons a b => simp at hl
    subst this
    refine (pe_bm0 f1 f2 f3 (mtW_ok X f.id) he.v (notSuper_base hn) hline).of fun σ H Q h => ?_
    refine (bm_run h).mono fun x H1 ⟨ty, q⟩ => ⟨ty, ?_⟩
    obtain ⟨S, r, k, p⟩ := q
    exact p [] H1 S .refl k .nil
  | cons e es =>
    have hs' := hs
    unfold noStar at hs'
    rw [List.all_cons, Bool.and_eq_true] at hs'
    have h1 := starEach_cons (es := es) (env := X.env) hs'.1
    have h2 := noStar_any (env := X.env) (pos := pos) hs'.2
    have h3 : ((backTo pos (starEach (e :: es) X.env)).all (fun x => !x.1) && (backToKw pos (keywordEach [] X.env)).all (fun x => x.1.isSome)
      && decide ((e :: es).length + ([] : List Keyword).length + (if ([] : List Keyword).isEmpty then 0 else 1) < 30)) = true := by
      rw [noStar_all hs]
      simp only [Bool.true_and, Bool.and_eq_true, decide_eq_true_eq]
      refine ⟨rfl, ?_⟩
      simp only [List.length_nil, List.isEmpty_nil, if_true]
      omega
    exact (pe_bm f1 f2 f3 (mtW_ok X f.id) he.v ha (notSuper_base hn) h3 hline h1 h2).of fun σ H Q h => bm_run h
end
end VI

end
section
/-! VI12: locks, a block's own slots. -/
namespace VI
open PySem L2
section
variable {G : Ctx} {S S' S0 S1 : Addr → Prop} {r r' r0 r1 : Rho} {t t' : L2.St} {H H' H0 H1 : Hp}
theorem set_get {α : Type} {l : List α} {j : Nat} {x : α} {i : Nat} {s : α} (h : (l.set j x)[i]? = some s) : (i = j ∧ s = x ∧ j < l.length) ∨ (i ≠ j ∧ l[i]? = some s) := by
  by_cases hi : i = j
  · subst hi
    have hl : i < l.length := by
      have := (List.getElem?_eq_some_iff.mp h).1
      rw [List.length_set] at this
      exact this
    rw [List.getElem?_set_self hl] at h
    cases h
    exact .inl ⟨rfl, rfl, hl⟩
  · rw [List.getElem?_set_ne (Ne.symm hi)] at h
    exact .inr ⟨hi, h⟩
theorem lock_spec : ∀ {os : List Opd} {r : Rho}, (lock os r).length = r.length ∧ ∀ (i : Nat) (s : Sl), (lock os r)[i]? = some s →
    (r[i]? = some s ∧ ∀ d, s = .ow d → Opd.bor i ∉ os) ∨ (∃ d, r[i]? = some (.ow d) ∧ s = .lk d ∧ Opd.bor i ∈ os)
  | [], r => ⟨rfl, fun i s e => .inl ⟨e, fun _ _ h => by cases h⟩⟩
  | o :: os, r => by
    have skip : (∀ j d, o = .bor j → r[j]? ≠ some (.ow d)) → (lock os r).length = r.length ∧ ∀ (i : Nat) (s : Sl), (lock os r)[i]? = some s →
        (r[i]? = some s ∧ ∀ d, s = .ow d → Opd.bor i ∉ o :: os) ∨ (∃ d, r[i]? = some (.ow d) ∧ s = .lk d ∧ Opd.bor i ∈ o :: os) := by
      intro ho
      obtain ⟨l, g⟩ := lock_spec (os := os) (r := r)
      refine ⟨l, fun i s e => ?_⟩
      rcases g i s e with ⟨g1, g2⟩ | ⟨d, g1, g2, g3⟩
      · refine .inl ⟨g1, fun d hd hm => ?_⟩
        rcases List.mem_cons.mp hm with z | z
        · subst hd
          exact ho i d z.symm g1
        · exact g2 d hd z
      · exact .inr ⟨d, g1, g2, List.mem_cons_of_mem _ g3⟩
    cases o with
    | val d => exact skip fun j d z => by cases z
    | new d => exact skip fun j d z => by cases z
    | bor j =>
      show (match r[j]? with | some (.ow d) => lock os (r.set j (.lk d)) | _ => lock os r).length = r.length ∧ ∀ (i : Nat) (s : Sl), (match r[j]? with | some (.ow d) => lock os (r.set j (.lk d)) | _ => lock os r)[i]? = some s → _
      split
      · rename_i d hd
        obtain ⟨l, g⟩ := lock_spec (os := os) (r := r.set j (.lk d))
        rw [List.length_set] at l
        refine ⟨l, fun i s e => ?_⟩
        rcases g i s e with ⟨g1, g2⟩ | ⟨d', g1, g2, g3⟩
        · rcases set_get g1 with ⟨rfl, rfl, _⟩ | ⟨hi, g1⟩
          · exact .inr ⟨d, hd, rfl, List.mem_cons_self⟩
          · refine .inl ⟨g1, fun d' hd' hm => ?_⟩
            rcases List.mem_cons.mp hm with z | z
            · cases z; exact hi rfl
            · exact g2 d' hd' z
        · rcases set_get g1 with ⟨rfl, z, _⟩ | ⟨hi, g1⟩
          · cases z
          · exact .inr ⟨d', g1, g2, List.mem_cons_of_mem _ g3⟩
      · rename_i hn
        exact skip fun k d z e => by
          cases z
          exact hn d e
theorem unlock_spec : ∀ {os : List Opd} {r : Rho}, (unlock os r0 r).length = r.length ∧ ∀ (i : Nat) (s : Sl), (unlock os r0 r)[i]? = some s →
    (r[i]? = some s ∧ ∀ d d', s = .lk d → r0[i]? = some (.ow d') → Opd.bor i ∉ os) ∨ (∃ d d', r[i]? = some (.lk d) ∧ r0[i]? = some (.ow d') ∧ s = .ow d ∧ Opd.bor i ∈ os)
  | [], r => ⟨rfl, fun i s e => .inl ⟨e, fun _ _ _ _ h => by cases h⟩⟩
  | o :: os, r => by
    have skip : (∀ j d d', o = .bor j → r[j]? = some (.lk d) → r0[j]? ≠ some (.ow d')) → (unlock os r0 r).length = r.length ∧ ∀ (i : Nat) (s : Sl), (unlock os r0 r)[i]? = some s →
        (r[i]? = some s ∧ ∀ d d', s = .lk d → r0[i]? = some (.ow d') → Opd.bor i ∉ o :: os) ∨ (∃ d d', r[i]? = some (.lk d) ∧ r0[i]? = some (.ow d') ∧ s = .ow d ∧ Opd.bor i ∈ o :: os) := by
      intro ho
      obtain ⟨l, g⟩ := unlock_spec (os := os) (r := r)
      refine ⟨l, fun i s e => ?_⟩
      rcases g i s e with ⟨g1, g2⟩ | ⟨d, d', g1, g2, g3, g4⟩
      · refine .inl ⟨g1, fun d d' hd h0 hm => ?_⟩
        rcases List.mem_cons.mp hm with z | z
        · subst hd
          exact ho i d d' z.symm g1 h0
        · exact g2 d d' hd h0 z
      · exact .inr ⟨d, d', g1, g2, g3, List.mem_cons_of_mem _ g4⟩
    cases o with
    | val d => exact skip fun j d d' z => by cases z
    | new d => exact skip fun j d d' z => by cases z
    | bor j =>
      show (match r0[j]?, r[j]? with | some (.ow _), some (.lk d) => unlock os r0 (r.set j (.ow d)) | _, _ => unlock os r0 r).length = r.length ∧ ∀ (i : Nat) (s : Sl), (match r0[j]?, r[j]? with | some (.ow _), some (.lk d) => unlock os r0 (r.set j (.ow d)) | _, _ => unlock os r0 r)[i]? = some s → _
      split
      · rename_i d' d h0 hd
        obtain ⟨l, g⟩ := unlock_spec (os := os) (r := r.set j (.ow d))
        rw [List.length_set] at l
        refine ⟨l, fun i s e => ?_⟩
        rcases g i s e with ⟨g1, g2⟩ | ⟨d1, d2, g1, g2, g3, g4⟩
        · rcases set_get g1 with ⟨rfl, rfl, _⟩ | ⟨hi, g1⟩
          · exact .inr ⟨d, d', hd, h0, rfl, List.mem_cons_self⟩
          · refine .inl ⟨g1, fun d1 d2 hd' h0' hm => ?_⟩
            rcases List.mem_cons.mp hm with z | z
            · cases z; exact hi rfl
            · exact g2 d1 d2 hd' h0' z
        · rcases set_get g1 with ⟨rfl, z, _⟩ | ⟨hi, g1⟩
          · cases z
          · exact .inr ⟨d1, d2, g1, g2, g3, List.mem_cons_of_mem _ g4⟩
      · rename_i hn
        exact skip fun k d d' z e1 e2 => by
          cases z
          exact hn d' d e2 e1
theorem lock_ok {os : List Opd} (k : Ok G S r t H) : Ok G S (lock os r) t H ∧ (∀ a, OwAt (lock os r) t a → OwAt r t a) ∧ (∀ a, HeldAt (lock os r) t a → HeldAt r t a) ∧ (∀ a, HeldAt r t a → HeldAt (lock os r) t a) ∧
    (∀ (i : Nat) (s : Sl), Opd.bor i ∈ os → r[i]? = some s → s.held = true → ∀ a, t[i]? = some (some (.ref a)) → ¬ OwAt (lock os r) t a) := by
  obtain ⟨l, g⟩ := lock_spec (os := os) (r := r)
  have old : ∀ (i : Nat) (s : Sl), (lock os r)[i]? = some s → s.held = true → ∃ s0, r[i]? = some s0 ∧ s0.held = true := fun i s e h => by
    rcases g i s e with ⟨g1, _⟩ | ⟨d, g1, _, _⟩
    · exact ⟨s, g1, h⟩
    · exact ⟨_, g1, rfl⟩
  have ow : ∀ (i : Nat) (d : D), (lock os r)[i]? = some (.ow d) → r[i]? = some (.ow d) ∧ Opd.bor i ∉ os := fun i d e => by
    rcases g i _ e with ⟨g1, g2⟩ | ⟨d, _, z, _⟩
    · exact ⟨g1, g2 d rfl⟩
    · cases z
  refine ⟨⟨l.trans k.len, fun i s v e1 e2 => ?_, fun i j s s' a e1 e2 h1 h2 e3 e4 => ?_, k.dom⟩, fun a ⟨i, d, e1, e2⟩ => ⟨i, d, (ow i d e1).1, e2⟩, fun a ⟨i, s, e1, h, e2⟩ => ?_, fun a ⟨i, s, e1, h, e2⟩ => ?_, fun i s hm hs hh a ht ⟨j, d, e1, e2⟩ => ?_⟩
  · rcases g i s e1 with ⟨g1, _⟩ | ⟨d, g1, g2, _⟩
    · exact k.sl i s v g1 e2
    · subst g2
      obtain ⟨a, z1, z2, z3⟩ := k.sl i _ v g1 e2
      exact ⟨a, z1, z2, z3.there, z3.view⟩
  · obtain ⟨s0, f1, f2⟩ := old i s e1 h1
    obtain ⟨s1, f3, f4⟩ := old j s' e2 h2
    exact k.apart i j s0 s1 a f1 f3 f2 f4 e3 e4
  · obtain ⟨s0, f1, f2⟩ := old i s e1 h
    exact ⟨i, s0, f1, f2, e2⟩
  · have hi : i < (lock os r).length := by rw [l]; exact (List.getElem?_eq_some_iff.mp e1).1
    refine ⟨i, (lock os r)[i], List.getElem?_eq_getElem hi, ?_, e2⟩
    rcases g i _ (List.getElem?_eq_getElem hi) with ⟨g1, _⟩ | ⟨d, _, z, _⟩
    · rw [e1] at g1
      rw [← Option.some.inj g1]
      exact h
    · rw [z]; rfl
  · -- another slot would hold the same object alone
    obtain ⟨f1, f2⟩ := ow j d e1
    have ei := k.apart i j _ _ a hs f1 hh rfl ht e2
    subst ei
    exact f2 hm
theorem unlock_ok {os : List Opd} (k : Ok G S r t H) (x : Ext S (lock os r) t H S' r' t' H') (k' : Ok G S' r' t' H') : Ok G S' (unlock os r r') t' H' ∧ Ext S r t H S' (unlock os r r') t' H' := by
  obtain ⟨kl, l1, l2, l3, l4⟩ := lock_ok (os := os) k
  obtain ⟨lL, gL⟩ := lock_spec (os := os) (r := r)
  obtain ⟨lU, gU⟩ := unlock_spec (os := os) (r0 := r) (r := r')
  -- a slot that is let go holds what it held
  have freed : ∀ (i : Nat) (d d' : D), r'[i]? = some (.lk d) → r[i]? = some (.ow d') → Opd.bor i ∈ os → d' = d ∧ t'[i]? = t[i]? := fun i d d' e1 e2 hm => by
    obtain ⟨z1, z2⟩ := x.lks i d e1
    rcases gL i _ z1 with ⟨g1, _⟩ | ⟨d0, g1, g2, _⟩
    · rw [e2] at g1; cases g1
    · rw [e2] at g1
      cases g1
      cases g2
      exact ⟨rfl, z2⟩
  have old : ∀ (i : Nat) (s : Sl), (unlock os r r')[i]? = some s → s.held = true → ∃ s0, r'[i]? = some s0 ∧ s0.held = true := fun i s e h => by
    rcases gU i s e with ⟨g1, _⟩ | ⟨d, d', g1, _, _, _⟩
    · exact ⟨s, g1, h⟩
    · exact ⟨_, g1, rfl⟩
  have stay : ∀ (i : Nat) (d d' : D) (a : Addr), r'[i]? = some (.lk d) → r[i]? = some (.ow d') → Opd.bor i ∈ os → t'[i]? = some (some (.ref a)) → H' a = H a ∧ ¬ S' a ∧ Top G S H a d := fun i d d' a e1 e2 hm e3 => by
    obtain ⟨z1, z2⟩ := freed i d d' e1 e2 hm
    subst z1
    rw [z2] at e3
    obtain ⟨b, eb, nS, tp⟩ := k.sl i _ _ e2 e3
    cases eb
    have no := l4 i _ hm e2 rfl a e3
    refine ⟨?_, fun z => ?_, tp⟩
    · cases c : H a with
      | none => exact absurd c tp.there
      | some o => exact x.keep a o c no
    · rcases x.down a z with z | z | z
      · exact nS z
      · exact no z
      · exact tp.there z
  refine ⟨⟨lU.trans k'.len, fun i s v e1 e2 => ?_, fun i j s s' a e1 e2 h1 h2 e3 e4 => ?_, k'.dom⟩, ⟨x.up, fun a h => ?_, fun a o h n => x.keep a o h fun z => n (l1 a z), fun a h => ?_, fun i s a e1 h e2 => ?_, fun i d h => ?_, x.dom⟩⟩
  · rcases gU i s e1 with ⟨g1, _⟩ | ⟨d, d', g1, g2, g3, g4⟩
    · exact k'.sl i s v g1 e2
    · subst g3
      obtain ⟨a, z1, z2, z3, z4⟩ := k'.sl i _ v g1 e2
      subst z1
      obtain ⟨s1, s2, s3⟩ := stay i d d' a g1 g2 g4 e2
      exact ⟨a, rfl, s2, s3.stay x.up (fun b u hb e => ⟨u, x.keep b u e (kl.notOw hb), .inl rfl⟩) s1⟩
  · obtain ⟨s0, f1, f2⟩ := old i s e1 h1
    obtain ⟨s1, f3, f4⟩ := old j s' e2 h2
    exact k'.apart i j s0 s1 a f1 f3 f2 f4 e3 e4
  · rcases x.down a h with h | h | h
    · exact .inl h
    · exact .inr (.inl (l1 a h))
    · exact .inr (.inr h)
  · obtain ⟨i, d, e1, e2⟩ := h
    rcases gU i _ e1 with ⟨g1, _⟩ | ⟨d0, d', g1, g2, g3, g4⟩
    · rcases x.own a ⟨i, d, g1, e2⟩ with z | z
      · exact .inl (l1 a z)
      · exact .inr z
    · obtain ⟨z1, z2⟩ := freed i d0 d' g1 g2 g4
      rw [z2] at e2
      exact .inl ⟨i, d', g2, e2⟩
  · obtain ⟨s0, f1, f2⟩ := old i s e1 h
    rcases x.hldI i s0 a f1 f2 e2 with ⟨s1, y1, y2, y3⟩ | z
    · rcases gL i s1 y1 with ⟨g1, _⟩ | ⟨d, g1, _, _⟩
      · exact .inl ⟨s1, g1, y2, y3⟩
      · exact .inl ⟨_, g1, rfl, y3⟩
    · exact .inr z
  · rcases gU i _ h with ⟨g1, g2⟩ | ⟨d0, d', _, _, z, _⟩
    · obtain ⟨z1, z2⟩ := x.lks i d g1
      rcases gL i _ z1 with ⟨f1, _⟩ | ⟨d1, f1, f2, f3⟩
      · exact ⟨f1, z2⟩
      · exact absurd f3 (g2 d d1 rfl f1)
    · cases z
/-! ### a block's own slots -/
theorem wipeR_spec : ∀ {own : List Nat} {r : Rho}, (wipeR r own).length = r.length ∧ ∀ (i : Nat) (s : Sl), (wipeR r own)[i]? = some s → (i ∈ own ∧ s = .un) ∨ (i ∉ own ∧ r[i]? = some s)
  | [], r => ⟨rfl, fun i s h => .inr ⟨by simp, h⟩⟩
  | j :: js, r => by
    obtain ⟨l, g⟩ := wipeR_spec (own := js) (r := r)
    refine ⟨by show ((wipeR r js).set j .un).length = _; rw [List.length_set]; exact l, fun i s h => ?_⟩
    rcases set_get (show ((wipeR r js).set j .un)[i]? = some s from h) with ⟨z1, z2, _⟩ | ⟨z1, z2⟩
    · exact .inl ⟨by rw [z1]; exact List.mem_cons_self, z2⟩
    · rcases g i s z2 with ⟨g1, g2⟩ | ⟨g1, g2⟩
      · exact .inl ⟨List.mem_cons_of_mem _ g1, g2⟩
      · exact .inr ⟨fun z => (List.mem_cons.mp z).elim z1 g1, g2⟩
theorem restR_spec : ∀ {own : List Nat} {r0 r : Rho}, (restR r0 r own).length = r.length ∧ ∀ (i : Nat) (s : Sl), (restR r0 r own)[i]? = some s → (i ∈ own ∧ s = (r0[i]?).getD .un) ∨ (i ∉ own ∧ r[i]? = some s)
  | [], r0, r => ⟨rfl, fun i s h => .inr ⟨by simp, h⟩⟩
  | j :: js, r0, r => by
    obtain ⟨l, g⟩ := restR_spec (own := js) (r0 := r0) (r := r)
    refine ⟨by show ((restR r0 r js).set j _).length = _; rw [List.length_set]; exact l, fun i s h => ?_⟩
    rcases set_get (show ((restR r0 r js).set j ((r0[j]?).getD .un))[i]? = some s from h) with ⟨z1, z2, _⟩ | ⟨z1, z2⟩
    · subst z1
      exact .inl ⟨List.mem_cons_self, z2⟩
    · rcases g i s z2 with ⟨g1, g2⟩ | ⟨g1, g2⟩
      · exact .inl ⟨List.mem_cons_of_mem _ g1, g2⟩
      · exact .inr ⟨fun z => (List.mem_cons.mp z).elim z1 g1, g2⟩
theorem wipe_spec : ∀ {own : List Nat} {t : L2.St} (i : Nat), i ∉ own → (wipe t own)[i]? = t[i]?
  | [], t, i, _ => rfl
  | j :: js, t, i, h => by
    show ((wipe t js).set j none)[i]? = _
    rw [List.getElem?_set_ne (fun z => h (by rw [z]; exact List.mem_cons_self))]
    exact wipe_spec i fun z => h (List.mem_cons_of_mem _ z)
theorem wipe_ok {own : List Nat} (k : Ok G S r t H) : Ok G S (wipeR r own) (wipe t own) H ∧ (∀ a, OwAt (wipeR r own) (wipe t own) a → OwAt r t a) ∧ (∀ a, HeldAt (wipeR r own) (wipe t own) a → HeldAt r t a) := by
  obtain ⟨l, g⟩ := wipeR_spec (own := own) (r := r)
  have held : ∀ (i : Nat) (s : Sl) (a : Addr), (wipeR r own)[i]? = some s → s.held = true → (wipe t own)[i]? = some (some (.ref a)) → i ∉ own ∧ r[i]? = some s ∧ t[i]? = some (some (.ref a)) := fun i s a e1 h e2 => by
    rcases g i s e1 with ⟨_, z⟩ | ⟨z1, z2⟩
    · subst z; cases h
    · exact ⟨z1, z2, by rw [← wipe_spec i z1]; exact e2⟩
  refine ⟨⟨by rw [l, wipe_length]; exact k.len, fun i s v e1 e2 => ?_, fun i j s s' a e1 e2 h1 h2 e3 e4 => ?_, k.dom⟩, fun a ⟨i, d, e1, e2⟩ => ?_, fun a ⟨i, s, e1, h, e2⟩ => ?_⟩
  · rcases g i s e1 with ⟨_, z⟩ | ⟨z1, z2⟩
    · subst z; trivial
    · rw [wipe_spec i z1] at e2
      exact k.sl i s v z2 e2
  · obtain ⟨_, f1, f2⟩ := held i s a e1 h1 e3
    obtain ⟨_, f3, f4⟩ := held j s' a e2 h2 e4
    exact k.apart i j s s' a f1 f3 h1 h2 f2 f4
  · obtain ⟨_, f1, f2⟩ := held i _ a e1 rfl e2
    exact ⟨i, d, f1, f2⟩
  · obtain ⟨_, f1, f2⟩ := held i s a e1 h e2
    exact ⟨i, s, f1, h, f2⟩
theorem wipe_ext {own : List Nat} (k : Ok G S r t H) : Ext S r t H S (wipeR r own) (wipe t own) H := by
  obtain ⟨_, h1, h2⟩ := wipe_ok (own := own) k
  obtain ⟨l, g⟩ := wipeR_spec (own := own) (r := r)
  refine ⟨fun _ h => h, fun _ h => .inl h, fun a o h _ => h, fun a h => .inl (h1 a h), fun i s a e h e2 => ?_, fun i d h => ?_, fun _ h => h⟩
  · rcases g i s e with ⟨_, z⟩ | ⟨z1, z2⟩
    · subst z; cases h
    · exact .inl ⟨s, z2, h, by rw [← wipe_spec i z1]; exact e2⟩
  rcases g i _ h with ⟨_, z⟩ | ⟨z1, z2⟩
  · cases z
  · exact ⟨z2, wipe_spec i z1⟩
theorem rest_ok {own : List Nat} (k : Ok G S r t H) (x : Ext S (wipeR r own) (wipe t own) H S' r' (wipe t own) H') (k' : Ok G S' r' (wipe t own) H') : Ok G S' (restR r r' own) t H' ∧ Ext S r t H S' (restR r r' own) t H' := by
  obtain ⟨kw, w1, w2⟩ := wipe_ok (own := own) k
  obtain ⟨lW, gW⟩ := wipeR_spec (own := own) (r := r)
  obtain ⟨l, g⟩ := restR_spec (own := own) (r0 := r) (r := r')
  have sl : ∀ (i : Nat) (s : Sl), (restR r r' own)[i]? = some s → (i ∈ own ∧ (s = .un ∨ r[i]? = some s)) ∨ (i ∉ own ∧ r'[i]? = some s) := fun i s e => by
    rcases g i s e with ⟨z1, z2⟩ | z
    · cases c : r[i]? with
      | none => rw [c] at z2; exact .inl ⟨z1, .inl z2⟩
      | some s0 => rw [c] at z2; exact .inl ⟨z1, .inr (by rw [z2]; rfl)⟩
    · exact .inr z
  -- a hidden slot's object
  have hid : ∀ (i : Nat) (s : Sl) (a : Addr), i ∈ own → r[i]? = some s → s.held = true → t[i]? = some (some (.ref a)) → ¬ HeldAt (wipeR r own) (wipe t own) a := fun i s a hi e h e2 ⟨j, s', e3, h', e4⟩ => by
    rcases gW j s' e3 with ⟨_, z⟩ | ⟨z1, z2⟩
    · subst z; cases h'
    · rw [wipe_spec j z1] at e4
      have ei := k.apart i j s s' a e z2 h h' e2 e4
      subst ei
      exact z1 hi
  have stay : ∀ (i : Nat) (s : Sl) (a : Addr), i ∈ own → r[i]? = some s → s.held = true → t[i]? = some (some (.ref a)) → H' a = H a ∧ ¬ S' a := fun i s a hi e h e2 => by
    obtain ⟨h1, h2⟩ := k.heldThere e h e2
    have no : ¬ OwAt (wipeR r own) (wipe t own) a := fun z => hid i s a hi e h e2 z.held
    refine ⟨?_, fun z => ?_⟩
    · cases c : H a with
      | none => exact absurd c h1
      | some o => exact x.keep a o c no
    · rcases x.down a z with z | z | z
      · exact h2 z
      · exact no z
      · exact h1 z
  have kk : ∀ b u, S b → H b = some u → ∃ o', H' b = some o' ∧ Keep u o' := fun b u hb e => ⟨u, x.keep b u e (kw.notOw hb), .inl rfl⟩
  have held : ∀ (i : Nat) (s : Sl) (a : Addr), (restR r r' own)[i]? = some s → s.held = true → t[i]? = some (some (.ref a)) → (i ∈ own ∧ r[i]? = some s) ∨ (i ∉ own ∧ r'[i]? = some s ∧ (wipe t own)[i]? = some (some (.ref a))) := fun i s a e h e2 => by
    rcases sl i s e with ⟨z1, z2⟩ | ⟨z1, z2⟩
    · rcases z2 with z2 | z2
      · subst z2; cases h
      · exact .inl ⟨z1, z2⟩
    · exact .inr ⟨z1, z2, by rw [wipe_spec i z1]; exact e2⟩
  refine ⟨⟨by rw [l, k'.len, wipe_length], fun i s v e1 e2 => ?_, fun i j s s' a e1 e2 h1 h2 e3 e4 => ?_, k'.dom⟩, ⟨x.up, fun a h => ?_, fun a o h n => x.keep a o h fun z => n (w1 a z), fun a h => ?_, fun i s a e1 h e2 => ?_, fun i d h => ?_, x.dom⟩⟩
  · rcases sl i s e1 with ⟨z1, z2⟩ | ⟨z1, z2⟩
    · rcases z2 with z2 | z2
      · subst z2; trivial
      · have q := k.sl i s v z2 e2
        cases s with
        | un => trivial
        | sh d => obtain ⟨u, e3, z⟩ := q; exact ⟨u, e3, Rp.stay x.up kk _ _ z⟩
        | ow d =>
          obtain ⟨a, e3, n, z⟩ := q
          subst e3
          obtain ⟨s1, s2⟩ := stay i _ a z1 z2 rfl e2
          exact ⟨a, rfl, s2, z.stay x.up kk s1⟩
        | lk d =>
          obtain ⟨a, e3, n, n2, z⟩ := q
          subst e3
          obtain ⟨s1, s2⟩ := stay i _ a z1 z2 rfl e2
          refine ⟨a, rfl, s2, by rw [s1]; exact n2, z.stay x.up kk fun b o eb c => ⟨o, ?_, .inl rfl⟩⟩
          cases eb
          rw [s1]
          exact c
    · exact k'.sl i s v z2 (by rw [wipe_spec i z1]; exact e2)
  · have mix : ∀ (i j : Nat) (s s' : Sl), i ∈ own → r[i]? = some s → s.held = true → t[i]? = some (some (.ref a)) → r'[j]? = some s' → s'.held = true → (wipe t own)[j]? = some (some (.ref a)) → False := fun i j s s' hi e h e2 e3 h' e4 => by
      rcases x.hld a ⟨j, s', e3, h', e4⟩ with z | z
      · exact hid i s a hi e h e2 z
      · exact (k.heldThere e h e2).1 z
    rcases held i s a e1 h1 e3 with ⟨z1, z2⟩ | ⟨z1, z2, z3⟩
    · rcases held j s' a e2 h2 e4 with ⟨y1, y2⟩ | ⟨y1, y2, y3⟩
      · exact k.apart i j s s' a z2 y2 h1 h2 e3 e4
      · exact (mix i j s s' z1 z2 h1 e3 y2 h2 y3).elim
    · rcases held j s' a e2 h2 e4 with ⟨y1, y2⟩ | ⟨y1, y2, y3⟩
      · exact (mix j i s' s y1 y2 h2 e4 z2 h1 z3).elim
      · exact k'.apart i j s s' a z2 y2 h1 h2 z3 y3
  · rcases x.down a h with h | h | h
    · exact .inl h
    · exact .inr (.inl (w1 a h))
    · exact .inr (.inr h)
  · obtain ⟨i, d, e1, e2⟩ := h
    rcases held i _ a e1 rfl e2 with ⟨z1, z2⟩ | ⟨z1, z2, z3⟩
    · exact .inl ⟨i, d, z2, e2⟩
    · rcases x.own a ⟨i, d, z2, z3⟩ with z | z
      · exact .inl (w1 a z)
      · exact .inr z
  · rcases held i _ a e1 h e2 with ⟨z1, z2⟩ | ⟨z1, z2, z3⟩
    · exact .inl ⟨s, z2, h, e2⟩
    · rcases x.hldI i s a z2 h z3 with ⟨s1, y1, y2, y3⟩ | z
      · rcases gW i s1 y1 with ⟨q, _⟩ | ⟨_, q⟩
        · exact absurd q z1
        · exact .inl ⟨s1, q, y2, e2⟩
      · exact .inr z
  · rcases sl i _ h with ⟨z1, z2⟩ | ⟨z1, z2⟩
    · rcases z2 with z2 | z2
      · cases z2
      · exact ⟨z2, rfl⟩
    · obtain ⟨y1, y2⟩ := x.lks i d z2
      rcases gW i _ y1 with ⟨_, q⟩ | ⟨_, q⟩
      · cases q
      · exact ⟨q, rfl⟩
end
end VI

end
section
/-! VI13: what a for walks. -/
namespace VI
open PySem L2
/-- what is asked of the values that are walked -/
def itW (X : Cx) : Itk → List V → Hp → (It → Hp → Prop) → Prop
  | .seq, vs, H, R => (∃ a xs, vs = [.ref a] ∧ SqL X.K H a xs ∧ R (Itl X.K a) H) ∨ (∃ a xs, vs = [.ref a] ∧ SqT X.K H a xs ∧ R (Itt X.K a) H) ∨ (∃ x, vs = [.str x] ∧ R (Its x) H)
  | .range, vs, H, R => (∃ j : Int, vs = [.int j] ∧ -(2 ^ 62) ≤ j ∧ j < 2 ^ 62 ∧ R (Itr 0 j.toNat) H) ∨ (∃ i j : Int, vs = [.int i, .int j] ∧ (-(2 ^ 62) ≤ i ∧ i < 2 ^ 62 ∧ -(2 ^ 62) ≤ j ∧ j < 2 ^ 62) ∧ R (Itr i (j - i).toNat) H)
  | .enum, vs, H, R => ∃ a xs, vs = [.ref a] ∧ SqL X.K H a xs ∧ R (Ite X.K a) H
  | .zip, vs, H, R => ∃ a b xs ys, vs = [.ref a, .ref b] ∧ SqL X.K H a xs ∧ SqL X.K H b ys ∧ R (Itz X.K a b) H
/-- the walk J gives the items ds, one by one, as long as what is walked stays -/
structure Wk (G : Ctx) (S1 : Addr → Prop) (H1 : Hp) (ks : List Addr) (ds : List D) (J : It) : Prop where
  go : ∀ (i : Nat) (S : Addr → Prop) (H : Hp) (d : D), (∀ a, S1 a → S a) → (∀ a o, S1 a → H1 a = some o → H a = some o) → (∀ a o, a ∈ ks → H1 a = some o → H a = some o) → ds[i]? = some d →
    J.go i H ∧ ∀ x H', J.yld i H x H' → ∃ S', (∀ a, S a → S' a) ∧ (∀ a, S' a → S a ∨ H a = none) ∧ (∀ a o, H a = some o → H' a = some o) ∧ (∀ a, S' a → S a ∨ H' a ≠ none) ∧ Rp G S' H' d x
  stop : ∀ (i : Nat) (H : Hp), (∀ a o, S1 a → H1 a = some o → H a = some o) → (∀ a o, a ∈ ks → H1 a = some o → H a = some o) → ds.length ≤ i → J.stop i H
section
variable {X : Cx} {L : Lk} {W : WX} {S S' S0 S1 : Addr → Prop} {r r' r0 r1 : Rho} {t : L2.St} {H H0 H1 : Hp}
theorem Rp.keep {G : Ctx} {d : D} {v : V} (h : Rp G S1 H1 d v) (hs : ∀ a, S1 a → S a) (hk : ∀ a o, S1 a → H1 a = some o → H a = some o) : Rp G S H d v := Rp.stay hs (fun a o h e => ⟨o, hk a o h e, .inl rfl⟩) d v h
/-- an item as it stands in the walked thing -/
theorem plain_yld {G : Ctx} {d : D} {x : V} {H H' : Hp} (e : H' = H) (h : Rp G S H d x) : ∃ S', (∀ a, S a → S' a) ∧ (∀ a, S' a → S a ∨ H a = none) ∧ (∀ a o, H a = some o → H' a = some o) ∧ (∀ a, S' a → S a ∨ H' a ≠ none) ∧ Rp G S' H' d x := by
  subst e
  exact ⟨S, fun _ h => h, fun _ h => .inl h, fun _ _ h => h, fun _ h => .inl h, h⟩
theorem pair_yld {G : Ctx} {c d : D} {x y : V} {T : Addr} {H H' : Hp} (hT : H T = none) (e : H' = upd H T (.tup [x, y])) (hc : Rp G S H c x) (hd : Rp G S H d y) :
    ∃ S', (∀ a, S a → S' a) ∧ (∀ a, S' a → S a ∨ H a = none) ∧ (∀ a o, H a = some o → H' a = some o) ∧ (∀ a, S' a → S a ∨ H' a ≠ none) ∧ Rp G S' H' (.tup [c, d]) (.ref T) := by
  subst e
  have keep : ∀ a o, H a = some o → upd H T (.tup [x, y]) a = some o := fun a o q => by rw [upd_ne (ne_of_none q hT)]; exact q
  have rl : RpL G S H [c, d] [x, y] := ⟨x, [y], rfl, hc, y, [], rfl, hd, rfl⟩
  refine ⟨ins1 S T, fun _ h => .inl h, fun a h => h.elim .inl fun z => .inr (by rw [z]; exact hT), keep, fun a h => h.elim .inl fun z => .inr (by rw [z, upd_same]; intro q; cases q), T, [x, y], rfl, .inl ⟨.inr rfl, upd_same⟩, rpl_lay hT (fun _ h => .inl h) rl⟩
theorem wk_list {a : Addr} {ds : List D} {vs : List V} (h : H1 a = some (.lst vs)) (r : RpL (gm X L) S1 H1 ds vs) : Wk (gm X L) S1 H1 [a] ds (Itl X.K a) where
  go := fun i S H d hs hk hv e => by
    obtain ⟨v, e1, rv⟩ := r.get e
    have q : SqL X.K H a vs := .of (hv a _ (by simp) h)
    refine ⟨⟨vs, v, q, e1⟩, fun x H' ⟨e2, y⟩ => ?_⟩
    have ex := y vs q
    rw [e1] at ex
    cases ex
    exact plain_yld e2 (rv.keep hs hk)
  stop := fun i H hk hv l => ⟨vs, .of (hv a _ (by simp) h), by rw [← r.length]; exact l⟩
theorem wk_tup {a : Addr} {ds : List D} {vs : List V} (h : (S1 a ∧ H1 a = some (.tup vs)) ∨ KTup X.K a vs) (r : RpL (gm X L) S1 H1 ds vs) : Wk (gm X L) S1 H1 [] ds (Itt X.K a) where
  go := fun i S H d hs hk hv e => by
    obtain ⟨v, e1, rv⟩ := r.get e
    have q : SqT X.K H a vs := h.elim (fun z => .of (hk a _ z.1 z.2)) .inr
    refine ⟨⟨vs, v, q, e1⟩, fun x H' ⟨e2, y⟩ => ?_⟩
    have ex := y vs q
    rw [e1] at ex
    cases ex
    exact plain_yld e2 (rv.keep hs hk)
  stop := fun i H hk hv l => ⟨vs, h.elim (fun z => .of (hk a _ z.1 z.2)) .inr, by rw [← r.length]; exact l⟩
theorem wk_str {x : Str} : Wk (gm X L) S1 H1 [] (x.cps.toList.map fun c => .str ⟨#[c]⟩) (Its x) where
  go := fun i S H d hs hk hv e => by
    rw [List.getElem?_map] at e
    cases z : x.cps.toList[i]? with
    | none => rw [z] at e; cases e
    | some c =>
      rw [z] at e
      cases e
      have z' : x.cps[i]? = some c := by rw [← z]; simp
      refine ⟨(Array.getElem?_eq_some_iff.mp z').1, fun y H' ⟨e2, c', e3, e4⟩ => ?_⟩
      rw [z'] at e3
      cases e3
      exact plain_yld e2 e4
  stop := fun i H hk hv l => by
    rw [List.length_map, Array.length_toList] at l
    exact l
theorem ranD_get : ∀ {n : Nat} {lo : Int} {i : Nat} {d : D}, (ranD lo n)[i]? = some d → i < n ∧ d = .int (lo + i)
  | 0, lo, i, d, h => by simp [ranD] at h
  | n + 1, lo, 0, d, h => by
    simp [ranD] at h
    subst h
    exact ⟨Nat.succ_pos _, by simp⟩
  | n + 1, lo, i + 1, d, h => by
    obtain ⟨h1, h2⟩ := ranD_get (n := n) (lo := lo + 1) (i := i) (d := d) (by simpa [ranD] using h)
    refine ⟨Nat.succ_lt_succ h1, ?_⟩
    rw [h2]
    congr 1
    omega
theorem ranD_len : ∀ {n : Nat} {lo : Int}, (ranD lo n).length = n
  | 0, _ => rfl
  | n + 1, lo => by simp [ranD, ranD_len]
theorem wk_range {lo : Int} {n : Nat} : Wk (gm X L) S1 H1 [] (ranD lo n) (Itr lo n) where
  go := fun i S H d hs hk hv e => by
    obtain ⟨h1, h2⟩ := ranD_get e
    refine ⟨h1, fun x H' ⟨e2, e3⟩ => ?_⟩
    subst h2
    exact plain_yld e2 e3
  stop := fun i H hk hv l => by rw [ranD_len] at l; exact l
theorem enumD_get : ∀ {ds : List D} {k : Int} {i : Nat} {d : D}, (enumD k ds)[i]? = some d → ∃ e, ds[i]? = some e ∧ d = .tup [.int (k + i), e]
  | [], k, i, d, h => by simp [enumD] at h
  | c :: ds, k, 0, d, h => by
    simp [enumD] at h
    exact ⟨c, by simp, by rw [← h]; simp⟩
  | c :: ds, k, i + 1, d, h => by
    obtain ⟨e, h1, h2⟩ := enumD_get (ds := ds) (k := k + 1) (i := i) (d := d) (by simpa [enumD] using h)
    refine ⟨e, by simpa using h1, ?_⟩
    have z : k + 1 + (i : Int) = k + ((i + 1 : Nat) : Int) := by omega
    rw [h2, z]
theorem enumD_len : ∀ {ds : List D} {k : Int}, (enumD k ds).length = ds.length
  | [], _ => rfl
  | d :: ds, k => by simp [enumD, enumD_len]
theorem wk_enum {a : Addr} {ds : List D} {vs : List V} (h : H1 a = some (.lst vs)) (r : RpL (gm X L) S1 H1 ds vs) : Wk (gm X L) S1 H1 [a] (enumD 0 ds) (Ite X.K a) where
  go := fun i S H d hs hk hv e => by
    obtain ⟨c, e0, ed⟩ := enumD_get e
    obtain ⟨v, e1, rv⟩ := r.get e0
    have q : SqL X.K H a vs := .of (hv a _ (by simp) h)
    refine ⟨⟨vs, v, q, e1⟩, fun x H' ⟨T, w, e2, e3, e4, y⟩ => ?_⟩
    have ex := y vs q
    rw [e1] at ex
    cases ex
    subst ed e2
    have z : (0 : Int) + (i : Int) = ((i : Nat) : Int) := by omega
    rw [z]
    exact pair_yld e3 e4 rfl (rv.keep hs hk)
  stop := fun i H hk hv l => ⟨vs, .of (hv a _ (by simp) h), by rw [← r.length, ← enumD_len (k := 0)]; exact l⟩
theorem zipD_get : ∀ {as bs : List D} {i : Nat} {d : D}, (zipD as bs)[i]? = some d → ∃ x y, as[i]? = some x ∧ bs[i]? = some y ∧ d = .tup [x, y]
  | [], bs, i, d, h => by simp [zipD] at h
  | _ :: _, [], i, d, h => by simp [zipD] at h
  | a :: as, b :: bs, 0, d, h => by
    simp [zipD] at h
    exact ⟨a, b, by simp, by simp, h.symm⟩
  | a :: as, b :: bs, i + 1, d, h => by
    obtain ⟨x, y, h1, h2, h3⟩ := zipD_get (as := as) (bs := bs) (i := i) (d := d) (by simpa [zipD] using h)
    exact ⟨x, y, by simpa using h1, by simpa using h2, h3⟩
theorem zipD_len : ∀ {as bs : List D}, (zipD as bs).length = min as.length bs.length
  | [], bs => by simp [zipD]
  | _ :: _, [] => by simp [zipD]
  | a :: as, b :: bs => by
    simp only [zipD, List.length_cons, zipD_len]
    omega
theorem wk_zip {a b : Addr} {ds es : List D} {vs us : List V} (h : H1 a = some (.lst vs)) (r : RpL (gm X L) S1 H1 ds vs) (h' : H1 b = some (.lst us)) (r' : RpL (gm X L) S1 H1 es us) : Wk (gm X L) S1 H1 [a, b] (zipD ds es) (Itz X.K a b) where
  go := fun i S H d hs hk hv e => by
    obtain ⟨x0, y0, f1, f2, ed⟩ := zipD_get e
    obtain ⟨v, e1, rv⟩ := r.get f1
    obtain ⟨u, e2, ru⟩ := r'.get f2
    have q : SqL X.K H a vs := .of (hv a _ (by simp) h)
    have q' : SqL X.K H b us := .of (hv b _ (by simp) h')
    refine ⟨⟨vs, us, v, u, q, q', e1, e2⟩, fun x H' ⟨T, w, z, e3, e4, e5, y1, y2⟩ => ?_⟩
    have ex := y1 vs q
    rw [e1] at ex
    cases ex
    have ey := y2 us q'
    rw [e2] at ey
    cases ey
    subst ed e3
    exact pair_yld e4 e5 (rv.keep hs hk) (ru.keep hs hk)
  stop := fun i H hk hv l => by
    rw [zipD_len] at l
    refine ⟨vs, us, .of (hv a _ (by simp) h), .of (hv b _ (by simp) h'), ?_⟩
    rw [← r.length, ← r'.length]
    omega
/-- the addresses of the lists among values -/
def lstAt (ds : List D) (vs : List V) (a : Addr) : Prop := ∃ (j : Nat) (d : D), ds[j]? = some d ∧ vs[j]? = some (.ref a) ∧ ∃ es, d = .lst es
/-- the values walked, told by their data -/
theorem it_rule {k : Itk} {vs : List V} {ds items : List D} (hv : Views (gm X L) S H ds vs) (e : iterD k ds = some items) {R : It → Hp → Prop} (h : ∀ J ks, (∀ a ∈ ks, lstAt ds vs a) → Wk (gm X L) S H ks items J → R J H) : itW X k vs H R := by
  unfold iterD at e
  split at e
  · rename_i d
    cases hv with | cons h1 hr =>
    cases hr
    cases d with
    | lst ds' => cases e; obtain ⟨a, us, q, h2, r2⟩ := h1; subst q; exact .inl ⟨a, us, rfl, .of h2, h _ [a] (fun b hb => ⟨0, _, rfl, by simp at hb; rw [hb]; rfl, ⟨_, rfl⟩⟩) (wk_list h2 r2)⟩
    | tup ds' => cases e; obtain ⟨a, us, q, h2, r2⟩ := h1; subst q; exact .inr (.inl ⟨a, us, rfl, seqT (ds := []) h2, h _ [] (fun b hb => by cases hb) (wk_tup h2 r2)⟩)
    | str x => cases e; have h1 : _ = V.str x := h1; subst h1; exact .inr (.inr ⟨x, rfl, h _ [] (fun b hb => by cases hb) wk_str⟩)
    | _ => cases e
  · cases hv with | cons h1 hr =>
    cases hr
    split at e
    · rename_i hb
      cases e
      have h1 : _ = V.int _ := h1
      subst h1
      have hb := of_decide_eq_true hb
      exact .inl ⟨_, rfl, hb.1, hb.2, h _ [] (fun b hb => by cases hb) wk_range⟩
    · cases e
  · cases hv with | cons h1 hr =>
    cases hr with | cons h2 hr =>
    cases hr
    split at e
    · rename_i hb
      cases e
      have h1 : _ = V.int _ := h1
      have h2 : _ = V.int _ := h2
      subst h1 h2
      have hb1 := of_decide_eq_true hb.1
      have hb2 := of_decide_eq_true hb.2
      exact .inr ⟨_, _, rfl, ⟨hb1.1, hb1.2, hb2.1, hb2.2⟩, h _ [] (fun b hb => by cases hb) wk_range⟩
    · cases e
  · cases e
    cases hv with | cons h1 hr =>
    cases hr
    obtain ⟨a, us, q, h2, r2⟩ := h1
    subst q
    exact ⟨a, us, rfl, .of h2, h _ [a] (fun b hb => ⟨0, _, rfl, by simp at hb; rw [hb]; rfl, ⟨_, rfl⟩⟩) (wk_enum h2 r2)⟩
  · cases hv with | cons h1 hr =>
    cases hr with | cons h1' hr =>
    cases hr
    cases e
    obtain ⟨a, us, q, h2, r2⟩ := h1
    obtain ⟨b, ws, q', h3, r3⟩ := h1'
    subst q q'
    exact ⟨a, b, us, ws, rfl, .of h2, .of h3, h _ [a, b] (fun c hc => by
      rcases List.mem_cons.mp hc with z | z
      · exact ⟨0, _, rfl, by rw [z]; rfl, ⟨_, rfl⟩⟩
      · simp at z
        exact ⟨1, _, rfl, by rw [z]; rfl, ⟨_, rfl⟩⟩) (wk_zip h2 r2 h3 r3)⟩
  · cases e
/-- the walk as a reading -/
def tI (X : Cx) (L : Lk) (W : WX) (k : Itk) (m : M (List Opd)) : TI := fun σ H R => tM (gm X L) W (rOs (gm X L)) m σ H fun vs H1 => itW X k vs H1 R
theorem PI.of {tg e : Expr} {t t' : TI} (h : PI X tg e t') (i : ∀ σ H R, t σ H R → t' σ H R) : PI X tg e t := ⟨fun pins s σ H R I q => h.run pins s σ H R I (i σ H R q)⟩
theorem pi_seq {tg e : Expr} {m : M Opd} (h : PE X e (tM (gm X L) W (rO (gm X L)) m)) : PI X tg e (tI X L W .seq (bnd m fun o => ret [o])) := by
  refine ⟨fun pins s σ H R I ⟨S, r, k, p⟩ => ?_⟩
  have q : tM (gm X L) W (rO (gm X L)) m σ H fun x H1 => itW X .seq [x] H1 R := by
    refine (bindP (R1 := rO (gm X L)) k .refl p).mono fun x H1 ⟨o, S1, r1, k1, x1, q1, p⟩ => ?_
    exact endP k1 x1 p (.cons q1 .nil)
  refine thn (h.run pins s σ H _ I q) fun v s1 ⟨x, H1, I1, rx, w⟩ => ?_
  rcases w with ⟨a, xs, e1, hq, w⟩ | ⟨a, xs, e1, hq, w⟩ | ⟨z, e1, w⟩
  · cases e1
    cases rx
    obtain ⟨its, _, pl, _⟩ := I1.list hq
    exact PySem.wpAny_pyIter_list pl.isList (pi_one (tk := s1.toks) I1 _ (turn_list a _) ⟨_, Heap.get?_push_size _ rfl, rfl, rfl⟩ w)
  · cases e1
    cases rx
    obtain ⟨its, _, pl, _⟩ := I1.tuple hq
    exact PySem.wpAny_pyIter_tuple (show s1.heap.IsTuple a its.toArray from pl) (pi_one (tk := s1.toks) I1 _ (turn_tuple a _) ⟨_, Heap.get?_push_size _ rfl, rfl, rfl⟩ w)
  · cases e1
    obtain ⟨tk, rfl⟩ := rx
    cases ha : z.cps.all (· < 128) with
    | false => exact PySem.wpAny_pyIter_wide ha (pi_one (tk := s1.toks) I1 _ (turn_str _ z tk "str_iterator" (.inr rfl)) ⟨_, Heap.get?_push_size _ rfl, rfl, rfl⟩ w)
    | true => exact PySem.wpAny_pyIter_ascii ha (pi_one (tk := s1.toks) I1 _ (turn_str _ z tk "str_ascii_iterator" (.inl rfl)) ⟨_, Heap.get?_push_size _ rfl, rfl, rfl⟩ w)
end
end VI

end
section
/-! VI14: targets. -/
namespace VI
open PySem L2
def Fix (P : Nat → Prop) (t t' : L2.St) : Prop := t'.length = t.length ∧ ∀ j, P j → t'[j]? = t[j]?
theorem Fix.refl {P : Nat → Prop} {t : L2.St} : Fix P t t := ⟨rfl, fun _ _ => rfl⟩
theorem Fix.trans {P : Nat → Prop} {t t' t'' : L2.St} (a : Fix P t t') (b : Fix P t' t'') : Fix P t t'' := ⟨b.1.trans a.1, fun j h => (b.2 j h).trans (a.2 j h)⟩
/-- what a store promises -/
def PostT (G : Ctx) (W : WX) (P : Nat → Prop) (S : Addr → Prop) (r : Rho) (t : L2.St) (H : Hp) (Q : L2.St → Hp → Prop) : Res Unit → Prop
  | .ok _ r' => ∀ t' H' S', Ext S r t H S' r' t' H' → Ok G S' r' t' H' → Fix P t t' → Q t' H'
  | .err x r' => ∀ cls d t' H' S', Ext S r t H S' r' t' H' → Ok G S' r' t' H' → Fix P t t' → ExcOk G S' H' x cls d → W cls d t' H'
  | .bad => False
section
variable {G : Ctx} {W : WX} {fx : List Nat} {P : Nat → Prop} {S S' S0 S1 : Addr → Prop} {r r' r0 r1 : Rho} {t t' t0 : L2.St} {H H' H0 H1 Hm : Hp} {α β γ δ : Type} {Q : L2.St → Hp → Prop}
/-- an operand within a store -/
theorem bindPT {R1 : Rel α β} {m : M α} {f : α → M Unit} (k : Ok G S r t H) (x : Ext S0 r0 t0 H0 S r t H) (fi : Fix P t0 t) (p : PostT G W P S0 r0 t0 H0 Q (bnd m f r)) :
    tM G W R1 m t H fun b H1 => ∃ a S1 r1, Ok G S1 r1 t H1 ∧ Ext S r t H S1 r1 t H1 ∧ R1 S1 r1 t H H1 a b ∧ PostT G W P S0 r0 t0 H0 Q (f a r1) := by
  refine ⟨S, r, k, ?_⟩
  simp only [bnd] at p
  cases e : m r with
  | ok a r1 =>
    rw [e] at p
    exact fun b H1 S1 x1 k1 q => ⟨a, S1, r1, k1, x1, q, p⟩
  | err z r1 =>
    rw [e] at p
    exact fun c d H' S' y k q => p c d t H' S' (x.trans y) k fi q
  | bad => rw [e] at p; exact p
/-- a store, then another -/
theorem bindTT {m : M Unit} {f : Unit → M Unit} (k : Ok G S r t H) (x : Ext S0 r0 t0 H0 S r t H) (fi : Fix P t0 t) (p : PostT G W P S0 r0 t0 H0 Q (bnd m f r)) :
    PostT G W P S r t H (fun t1 H1 => ∃ S1 r1, Ok G S1 r1 t1 H1 ∧ Ext S r t H S1 r1 t1 H1 ∧ Fix P t0 t1 ∧ PostT G W P S0 r0 t0 H0 Q (f () r1)) (m r) := by
  simp only [bnd] at p
  cases e : m r with
  | ok a r1 =>
    rw [e] at p
    exact fun t1 H1 S1 x1 k1 f1 => ⟨S1, r1, k1, x1, fi.trans f1, p⟩
  | err z r1 =>
    rw [e] at p
    exact fun c d t1 H' S' y k g q => p c d t1 H' S' (x.trans y) k (fi.trans g) q
  | bad => rw [e] at p; exact p
theorem datPT {o : Opd} {g : D → M Unit} (p : PostT G W P S0 r0 t0 H0 Q (bnd (datM o) g r)) : ∃ d, o.dat r = some d ∧ PostT G W P S0 r0 t0 H0 Q (g d r) := by
  simp only [bnd, datM] at p
  cases e : o.dat r with
  | none => rw [e] at p; exact p.elim
  | some d => rw [e] at p; exact ⟨d, rfl, p⟩
theorem frzPT (k : Ok G S r t H) (x : Ext S0 r0 t0 H0 S r t H) {o : Opd} {v : V} {g : D → M Unit} (h : SOk G S t H o v) (p : PostT G W P S0 r0 t0 H0 Q (bnd (frz o) g r)) :
    ∃ d S' r', (∀ a, S a → S' a) ∧ Ok G S' r' t H ∧ Ext S0 r0 t0 H0 S' r' t H ∧ Rp G S' H d v ∧ PostT G W P S0 r0 t0 H0 Q (g d r') := by
  cases o with
  | val d => exact ⟨d, S, r, fun _ h => h, k, x, h, p⟩
  | new d => exact ⟨d, S, r, fun _ h => h, k, x, h, p⟩
  | bor i =>
    have h : t[i]? = some (some v) := h
    simp only [bnd, frz] at p
    cases e : r[i]? with
    | none => rw [e] at p; exact p.elim
    | some s =>
      rw [e] at p
      cases s with
      | un => exact p.elim
      | lk d => exact p.elim
      | sh d =>
        obtain ⟨u, q, z⟩ := k.sl i _ _ e h
        cases q
        exact ⟨d, S, r, fun _ h => h, k, x, z, p⟩
      | ow d =>
        obtain ⟨a, q, n, tp⟩ := k.sl i _ _ e h
        cases q
        obtain ⟨k', x', rp⟩ := k.share e h
        exact ⟨d, _, _, x'.up, k', x.trans x', rp, p⟩
/-- the base may be older, the end wished for the same -/
theorem Ext.share0 (x : Ext S0 r0 t0 H0 S r t H) {a : Addr} (h : H0 a = none) : Ext S0 r0 t0 H0 (ins1 S a) r t H where
  up := fun b h => .inl (x.up b h)
  down := fun b z => z.elim (x.down b) fun e => .inr (.inr (by rw [e]; exact h))
  keep := x.keep
  own := x.own
  hldI := x.hldI
  lks := x.lks
  dom := x.dom
theorem share0 (k : Ok G S r t H) (x : Ext S0 r0 t0 H0 S r t H) (hm : ∀ p, Hm p = none → H0 p = none) : ∀ {o : Opd} {v : V}, OpdOk G S r t Hm H o v →
    ∃ S', (∀ a, S a → S' a) ∧ Ok G S' r t H ∧ Ext S0 r0 t0 H0 S' r t H ∧ SOk G S' t H o v
  | .val d, v, h => ⟨S, fun _ h => h, k, x, h⟩
  | .bor i, v, h => ⟨S, fun _ h => h, k, x, h⟩
  | .new d, v, ⟨a, e, h0, n, hn, tp⟩ => by
    obtain ⟨k', rp⟩ := k.shareNew h0 n hn tp
    subst e
    exact ⟨ins1 S a, fun _ h => .inl h, k', x.share0 (hm a h0), rp⟩
/-- a slot takes a shared value -/
theorem Ok.setSh (k : Ok G S r t H) (x : Ext S0 r0 t0 H0 S r t H) {i : Nat} {d : D} {v : V} (hi : i < r.length) (h : Rp G S H d v) :
    Ok G S (r.set i (.sh d)) (t.set i (some v)) H ∧ Ext S0 r0 t0 H0 S (r.set i (.sh d)) (t.set i (some v)) H := by
  have hit : i < t.length := by rw [← k.len]; exact hi
  have old : ∀ (j : Nat) (s : Sl), (r.set i (.sh d))[j]? = some s → s.held = true → j ≠ i ∧ r[j]? = some s := fun j s e hs => by
    rcases set_get e with ⟨_, z, _⟩ | z
    · subst z; cases hs
    · exact z
  have tg : ∀ (j : Nat), j ≠ i → (t.set i (some v))[j]? = t[j]? := fun j hj => List.getElem?_set_ne (Ne.symm hj)
  refine ⟨⟨by rw [List.length_set, List.length_set]; exact k.len, fun j s w e1 e2 => ?_, fun j l s s' a e1 e2 h1 h2 e3 e4 => ?_, k.dom⟩, ⟨x.up, x.down, x.keep, fun a ⟨j, d', e1, e2⟩ => ?_, fun j s a e1 hs e2 => ?_, fun j d' e1 => ?_, x.dom⟩⟩
  · rcases set_get e1 with ⟨z1, z2, _⟩ | ⟨z1, z2⟩
    · subst z1 z2
      rw [List.getElem?_set_self hit] at e2
      cases e2
      exact ⟨v, rfl, h⟩
    · rw [tg j z1] at e2
      exact k.sl j s w z2 e2
  · obtain ⟨n1, f1⟩ := old j s e1 h1
    obtain ⟨n2, f2⟩ := old l s' e2 h2
    rw [tg j n1] at e3
    rw [tg l n2] at e4
    exact k.apart j l s s' a f1 f2 h1 h2 e3 e4
  · obtain ⟨n1, f1⟩ := old j _ e1 rfl
    rw [tg j n1] at e2
    exact x.own a ⟨j, d', f1, e2⟩
  · obtain ⟨n1, f1⟩ := old j s e1 hs
    rw [tg j n1] at e2
    exact x.hldI j s a f1 hs e2
  · obtain ⟨n1, f1⟩ := old j _ e1 rfl
    rw [tg j n1]
    exact x.lks j d' f1
/-- a slot takes a new object -/
theorem Ok.setOw (k : Ok G S r t H) (x : Ext S0 r0 t0 H0 S r t H) {i : Nat} {d : D} {a : Addr} (hi : i < r.length) (h0 : H0 a = none) (nS : ¬ S a) (nH : ¬ HeldAt r t a) (tp : Top G S H a d) :
    Ok G S (r.set i (.ow d)) (t.set i (some (.ref a))) H ∧ Ext S0 r0 t0 H0 S (r.set i (.ow d)) (t.set i (some (.ref a))) H := by
  have hit : i < t.length := by rw [← k.len]; exact hi
  have tg : ∀ (j : Nat), j ≠ i → (t.set i (some (V.ref a)))[j]? = t[j]? := fun j hj => List.getElem?_set_ne (Ne.symm hj)
  have ti : (t.set i (some (V.ref a)))[i]? = some (some (.ref a)) := List.getElem?_set_self hit
  have other : ∀ (j : Nat) (s : Sl) (b : Addr), j ≠ i → r[j]? = some s → s.held = true → (t.set i (some (V.ref a)))[j]? = some (some (.ref b)) → b ≠ a := fun j s b hj e hs e2 z => by
    rw [tg j hj, z] at e2
    exact nH ⟨j, s, e, hs, e2⟩
  refine ⟨⟨by rw [List.length_set, List.length_set]; exact k.len, fun j s w e1 e2 => ?_, fun j l s s' b e1 e2 h1 h2 e3 e4 => ?_, k.dom⟩, ⟨x.up, x.down, x.keep, fun b ⟨j, d', e1, e2⟩ => ?_, fun j s b e1 hs e2 => ?_, fun j d' e1 => ?_, x.dom⟩⟩
  · rcases set_get e1 with ⟨z1, z2, _⟩ | ⟨z1, z2⟩
    · subst z1 z2
      rw [ti] at e2
      cases e2
      exact ⟨a, rfl, nS, tp⟩
    · rw [tg j z1] at e2
      exact k.sl j s w z2 e2
  · rcases set_get e1 with ⟨z1, z2, _⟩ | ⟨z1, z2⟩
    · rcases set_get e2 with ⟨y1, y2, _⟩ | ⟨y1, y2⟩
      · rw [z1, y1]
      · subst z1
        rw [ti] at e3
        cases e3
        exact absurd rfl (other l s' a y1 y2 h2 e4)
    · rcases set_get e2 with ⟨y1, y2, _⟩ | ⟨y1, y2⟩
      · subst y1
        rw [ti] at e4
        cases e4
        exact absurd rfl (other j s a z1 z2 h1 e3)
      · rw [tg j z1] at e3
        rw [tg l y1] at e4
        exact k.apart j l s s' b z2 y2 h1 h2 e3 e4
  · rcases set_get e1 with ⟨z1, z2, _⟩ | ⟨z1, z2⟩
    · subst z1
      rw [ti] at e2
      cases e2
      exact .inr h0
    · rw [tg j z1] at e2
      exact x.own b ⟨j, d', z2, e2⟩
  · rcases set_get e1 with ⟨z1, z2, _⟩ | ⟨z1, z2⟩
    · subst z1
      rw [ti] at e2
      cases e2
      exact .inr h0
    · rw [tg j z1] at e2
      exact x.hldI j s b z2 hs e2
  · rcases set_get e1 with ⟨z1, z2, _⟩ | ⟨z1, z2⟩
    · cases z2
    · rw [tg j z1]
      exact x.lks j d' z2
theorem setLoc_ok {i : Nat} {o : Opd} {v : V} (hP : ∀ j, P j → j ∈ fx ∨ j ≠ i) (k : Ok G S r t H) (x : Ext S0 r0 t0 H0 S r t H) (fi : Fix P t0 t) (hm : ∀ p, Hm p = none → H0 p = none) (h : OpdOk G S r t Hm H o v) (p : PostT G W P S0 r0 t0 H0 Q (setLoc fx i o r)) : Q (t.set i (some v)) H := by
  unfold setLoc at p
  split at p
  · exact p.elim
  · rename_i hfx
    have fi' : ∀ w : Option V, Fix P t0 (t.set i w) := fun w => ⟨by rw [List.length_set]; exact fi.1, fun j hj => by
      rw [List.getElem?_set_ne (fun z => (hP j hj).elim (fun y => hfx (by rw [z]; exact y)) fun y => y z.symm)]
      exact fi.2 j hj⟩
    cases o with
    | val d =>
      dsimp only at p
      split at p
      · rename_i hi
        obtain ⟨k1, x1⟩ := k.setSh x hi h
        exact p _ _ S x1 k1 (fi' _)
      · exact p.elim
    | new d =>
      dsimp only at p
      split at p
      · rename_i hi
        obtain ⟨a, e, h0, nS, nH, tp⟩ := h
        subst e
        obtain ⟨k1, x1⟩ := k.setOw x hi (hm a h0) nS nH tp
        exact p _ _ S x1 k1 (fi' _)
      · exact p.elim
    | bor j =>
      obtain ⟨d, S1, r1, u1, k1, x1, rp, p⟩ := frzPT k x (show SOk G S t H (.bor j) v from h) p
      split at p
      · rename_i hi
        obtain ⟨k2, x2⟩ := k1.setSh x1 hi rp
        exact p _ _ S1 x2 k2 (fi' _)
      · exact p.elim
end
/-- a target as a reading -/
def tG (X : Cx) (L : Lk) (W : WX) (C : Orc) (P : Nat → Prop) (fx : List Nat) (tg : Tg) : TG := fun v t H Q => ∃ S r S0 r0 t0 H0 o Hm, Ok (gm X L) S r t H ∧ Ext S0 r0 t0 H0 S r t H ∧ Fix P t0 t ∧ (∀ p, Hm p = none → H0 p = none) ∧ OpdOk (gm X L) S r t Hm H o v ∧
  PostT (gm X L) W P S0 r0 t0 H0 Q (setTg C fx tg o r)
def tGs (X : Cx) (L : Lk) (W : WX) (C : Orc) (P : Nat → Prop) (fx : List Nat) (ts : List Tg) : TGs := fun vs t H Q => ∃ S r S0 r0 t0 H0 ds, Ok (gm X L) S r t H ∧ Ext S0 r0 t0 H0 S r t H ∧ Fix P t0 t ∧ RpL (gm X L) S H ds vs ∧
  PostT (gm X L) W P S0 r0 t0 H0 Q (setTgs C fx ts ds r)
section
variable {X : Cx} {L : Lk} {W : WX} {C : Orc} {fx : List Nat} {P : Nat → Prop} {S S' S0 S1 : Addr → Prop} {r r' r0 r1 : Rho} {t t' t0 : L2.St} {H H' H0 H1 Hm : Hp} {Q : L2.St → Hp → Prop}
theorem _root_.L2.PG.of {tg : Expr} {g g' : TG} (h : PG X tg g') (i : ∀ v σ H Q, g v σ H Q → g' v σ H Q) : PG X tg g := ⟨fun pins s σ H v u Q I r q => h.run pins s σ H v u Q I r (i v σ H Q q)⟩
theorem _root_.L2.PGs.of {ts : List Expr} {g g' : TGs} (h : PGs X ts g') (i : ∀ v σ H Q, g v σ H Q → g' v σ H Q) : PGs X ts g := ⟨fun pins s σ H v u Q I r q => h.run pins s σ H v u Q I r (i v σ H Q q)⟩
theorem g_loc {x : Str} {i : Nat} {pos : Pos} (hP : ∀ j, P j → j ∈ fx ∨ j ≠ i) (hN : X.N.Nodup) (hi : X.N[i]? = some x) (hx : Loc X.env.scope x) (hf : X.fn x = true ∨ X.env.scope.names.lookup x = some .local) : PG X (.Name x pos) (tG X L W C P fx (.loc i)) :=
  (pg_name hN hi hx hf).of fun v σ H Q ⟨S, r, S0, r0, t0, H0, o, Hm, k, x, fi, hm, h, p⟩ => setLoc_ok hP k x fi hm h p
theorem gs_nil : PGs X [] (tGs X L W C P fx []) := pgs_nil.of fun vs σ H Q ⟨S, r, S0, r0, t0, H0, ds, k, x, fi, h, p⟩ => by
  cases ds with
  | nil =>
    have h : vs = [] := h
    exact ⟨h, p σ H S x k fi⟩
  | cons d ds => exact p.elim
theorem gs_cons {e : Expr} {es : List Expr} {tg : Tg} {ts : List Tg} (h1 : PG X e (tG X L W C P fx tg)) (h2 : PGs X es (tGs X L W C P fx ts))
    (hs : (assignEach (e :: es) X.env).map (·.2) = assign e X.env :: (assignEach es X.env).map (·.2)) : PGs X (e :: es) (tGs X L W C P fx (tg :: ts)) := by
  refine (pgs_cons h1 h2 hs).of fun vs σ H Q ⟨S, r, S0, r0, t0, H0, ds, k, x, fi, h, p⟩ => ?_
  cases ds with
  | nil => exact p.elim
  | cons d ds =>
    obtain ⟨v, us, e1, rv, rs⟩ := h
    refine ⟨v, us, e1, S, r, S, r, σ, H, .val d, H, k, .refl, .refl, fun _ h => h, rv, ?_⟩
    have q := bindTT k x fi p
    cases e2 : setTg C fx tg (.val d) r with
    | ok a r1 =>
      rw [e2] at q
      intro t1 H1 S1 x1 k1 f1
      obtain ⟨S2, r2, k2, x2, f2, p2⟩ := q t1 H1 S1 x1 k1 f1
      exact ⟨S2, r2, S0, r0, t0, H0, ds, k2, x.trans x2, f2, x2.rpl k rs, p2⟩
    | err z r1 => rw [e2] at q; exact q
    | bad => rw [e2] at q; exact q
theorem g_tup {es : List Expr} {kk : Nat} {pos : Pos} {ts : List Tg} (hc : X.calm = true) (h : PGs X es (tGs X L W C P fx ts)) (hn : (assignEach es X.env).length = ts.length) (hst : (assignEach es X.env).findIdx? (·.1) = none) :
    PG X (.Tuple es kk pos) (tG X L W C P fx (.tup ts)) := by
  refine (pg_tup hc h hn hst).of fun v σ H Q ⟨S, r, S0, r0, t0, H0, o, Hm, k, x, fi, hm, ho, p⟩ => ?_
  obtain ⟨d, e1, p⟩ := datPT p
  have z := ho.view k e1
  cases d with
  | tup ds =>
    dsimp only at p
    split at p
    · rename_i hl
      obtain ⟨a, us, e2, h1, rl⟩ := z
      exact ⟨a, us, e2, seqT (ds := []) h1, by rw [← rl.length]; exact hl, S, r, S0, r0, t0, H0, ds, k, x, fi, rl, p⟩
    · exact p.elim
  | _ => exact p.elim
def seW (X : Cx) : TSet := fun o i v H Q => ∀ (pins : List (Addr × Obj)) (s : Shared) (σ : L2.St) (ov iv u : Value), Inv X pins σ H s → RelV o ov → RelV i iv → RelV v u → wpAny (model X.prog X.w) X.A (setItem ov iv u) (fun _ s' => ∃ H', Inv X pins σ H' s' ∧ Q H') X.xe s
theorem seW_ok (X : Cx) : PSet X (seW X) := fun pins s σ H o i v ov iv u Q I ro ri rv h => h pins s σ ov iv u I ro ri rv
theorem seW_of {t0 : TSet} (h0 : PSet X t0) {o i v : V} {H : Hp} {Q : Hp → Prop} (h : t0 o i v H Q) : seW X o i v H Q := fun pins s σ ov iv u I ro ri rv => h0 pins s σ H o i v ov iv u Q I ro ri rv h
theorem g_sub {a b : Expr} {pos : Pos} {ea eb : Ex} (ha : PE X a (tM (gm X L) W (rO (gm X L)) (ev C ea).v)) (hb : PE X b (tM (gm X L) W (rO (gm X L)) (ev C eb).v)) (hs : ∀ v, assign (.Subscript a b pos) X.env v = (do
      let ov ← holding [v] (eval a X.env)
      let iv ← holding [v, ov] (eval b X.env)
      standAt pos
      holding [v, ov, iv] (setItem ov iv v)
      release [v, ov, iv] [])) : PG X (.Subscript a b pos) (tG X L W C P fx (.sub ea eb)) := by
  refine (pg_sub ha hb (seW_ok X) hs).of fun v σ H Q ⟨S, r, S0, r0, t0, H0, o, Hm, k, x, fi, hm, ho, p⟩ => ?_
  refine (bindPT (R1 := rO (gm X L)) k x fi p).mono fun w H1 ⟨ow, S1, r1, k1, x1, q1, p⟩ => ?_
  refine (bindPT (R1 := rO (gm X L)) k1 (x.trans x1) fi p).mono fun i H2 ⟨oi, S2, r2, k2, x2, q2, p⟩ => ?_
  have ho' := (ho.later k x1).later k1 x2
  have q1' := q1.later k1 x2
  obtain ⟨S3, u3, k3, x3, s3⟩ := share0 k2 ((x.trans x1).trans x2) hm ho'
  obtain ⟨d, S4, r4, u4, k4, x4, rp, p⟩ := frzPT k3 x3 s3 p
  obtain ⟨di, e1, p⟩ := datPT p
  cases ow with
  | val _ => exact p.elim
  | new _ => exact p.elim
  | bor j =>
    have q1' : σ[j]? = some (some w) := q1'
    dsimp only at p
    cases e : r4[j]? with
    | none => rw [e] at p; exact p.elim
    | some s =>
      rw [e] at p
      cases s with
      | un => exact p.elim
      | sh _ => exact p.elim
      | lk _ => exact p.elim
      | ow dc =>
        dsimp only at p
        obtain ⟨a, ea', nS, tp⟩ := k4.sl j _ _ e q1'
        cases ea'
        cases z : putD dc di d with
        | none => rw [z] at p; exact p.elim
        | some d' =>
          rw [z] at p
          dsimp only at p
          unfold putD at z
          split at z
          · rename_i ds n
            -- the index's value
            have hi : i = .int n := by
              cases oi with
              | val y => cases e1; exact q2
              | new y =>
                cases e1
                obtain ⟨_, _, _, _, _, tq⟩ := q2
                exact tq.elim
              | bor l =>
                have q2 : σ[l]? = some (some i) := q2
                have vw := OpdOk.view (H0 := H2) k4 (o := .bor l) (v := i) q2 e1
                exact vw
            subst hi
            cases zi : ixN ds.length n with
            | none => rw [zi] at z; cases z
            | some jj =>
              rw [zi] at z
              cases z
              obtain ⟨us, h1, r1⟩ := tp
              have nS' : ∀ b, S4 b → b ≠ a := fun b hb z => nS (by rw [← z]; exact hb)
              have kk : ∀ (b : Addr) (o : HO), S4 b → H2 b = some o → ∃ o', upd H2 a (.lst (us.set jj v)) b = some o' ∧ Keep o o' := fun b o hb q => ⟨o, by rw [upd_ne (nS' b hb)]; exact q, .inl rfl⟩
              obtain ⟨k5, x5⟩ := k4.change e q1' (d' := .lst (ds.set jj d)) (u := .lst (us.set jj v)) ⟨us.set jj v, upd_same, RpL.stay (fun _ h => h) kk _ _ (r1.set jj rp)⟩
              exact seW_of set_list ⟨a, us, n, jj, rfl, rfl, h1, by rw [← r1.length]; exact zi, p σ _ S4 (x4.trans x5) k5 fi⟩
          · cases z
end
end VI

end
section
/-! VI15: list comprehensions. -/
namespace VI
open PySem L2
section
variable {G : Ctx} {W : WX} {S S' S0 S1 : Addr → Prop} {r r' r0 r1 : Rho} {t t' t0 : L2.St} {H H' H0 H1 Hm : Hp} {α β γ δ : Type}
/-- more is shared, more is laid, nothing else -/
theorem Ok.grow (k : Ok G S r t H) (hs : ∀ a, S a → S' a) (hn : ∀ a, S' a → S a ∨ H a = none) (hk : ∀ a o, H a = some o → H' a = some o) (hd : ∀ a, S' a → S a ∨ H' a ≠ none) : Ok G S' r t H' ∧ Ext S r t H S' r t H' := by
  have dom : ∀ a, H a ≠ none → H' a ≠ none := fun a h => by
    cases e : H a with
    | none => exact absurd e h
    | some o => rw [hk a o e]; intro z; cases z
  refine ⟨k.move hs (fun a u _ e => ⟨u, hk a u e, .inl rfl⟩) (fun i s a e1 h e2 => ?_) fun a h => (hd a h).elim (fun z => dom a (k.dom a z)) id, ⟨hs, fun a h => (hn a h).elim .inl fun z => .inr (.inr z), fun a o e _ => hk a o e, fun a h => .inl h, fun i s a e h e2 => .inl ⟨s, e, h, e2⟩, fun i d h => ⟨h, rfl⟩, dom⟩⟩
  obtain ⟨h1, h2⟩ := k.heldThere e1 h e2
  refine ⟨?_, fun z => (hn a z).elim h2 h1⟩
  cases e : H a with
  | none => exact absurd e h1
  | some o => exact hk a o e
/-- a thing that is neither shared nor held may change -/
theorem Ok.poke (k : Ok G S r t H) {p : Addr} {u : HO} (nS : ¬ S p) (nH : ¬ HeldAt r t p) : Ok G S r t (upd H p u) := by
  refine k.move (fun _ h => h) (fun a w hs e => ⟨w, by rw [upd_ne (fun z => nS (by rw [← z]; exact hs))]; exact e, .inl rfl⟩) (fun i s a e1 h e2 => ?_) fun a h => ?_
  · have n : a ≠ p := fun z => nH ⟨i, s, e1, h, by rw [← z]; exact e2⟩
    exact ⟨upd_ne n, (k.heldThere e1 h e2).2⟩
  · rw [upd_ne (fun z => nS (by rw [← z]; exact h))]
    exact k.dom a h
theorem Ext.poke (x : Ext S0 r0 t0 H0 S r t H) {p : Addr} {u : HO} (h0 : H0 p = none) : Ext S0 r0 t0 H0 S r t (upd H p u) where
  up := x.up
  down := x.down
  keep := fun a o e n => by rw [upd_ne (ne_of_none e h0)]; exact x.keep a o e n
  own := x.own
  hldI := x.hldI
  lks := x.lks
  dom := fun a h => by
    by_cases z : a = p
    · subst z; rw [upd_same]; intro y; cases y
    · rw [upd_ne z]; exact x.dom a h
/-- what nobody shares or holds is left alone -/
theorem Ext.away (x : Ext S r t H S' r' t' H') {p : Addr} {o : HO} (h : H p = some o) (nS : ¬ S p) (nH : ¬ HeldAt r t p) : H' p = some o ∧ ¬ S' p ∧ ¬ HeldAt r' t' p := by
  have n : H p ≠ none := by rw [h]; intro z; cases z
  have no : ¬ OwAt r t p := fun z => nH z.held
  refine ⟨x.keep p o h no, fun z => ?_, fun z => (x.hld p z).elim nH n⟩
  rcases x.down p z with z | z | z
  · exact nS z
  · exact no z
  · exact n z
theorem datsP2 (k : Ok G S r t H) {R : Rel γ δ} {Q : δ → Hp → Prop} : ∀ {os : List Opd} {vs : List V} {g : List D → M γ}, OpdsOk G S r t Hm H os vs → Post G W S0 r0 t H0 R Q (bnd (datsM os) g r) →
    ∃ ds, Views G S H ds vs ∧ (∀ (j : Nat) (d : D), ds[j]? = some d → ∃ o, os[j]? = some o ∧ o.dat r = some d) ∧ Post G W S0 r0 t H0 R Q (g ds r)
  | _, _, g, .nil, p => ⟨[], .nil, fun j d e => by simp at e, p⟩
  | o :: os, v :: vs, g, .cons h q, p => by
    have p : Post G W S0 r0 t H0 R Q (bnd (datM o) (fun d => bnd (datsM os) fun ds => g (d :: ds)) r) := by
      have e : bnd (datsM (o :: os)) g = bnd (datM o) fun d => bnd (datsM os) fun ds => g (d :: ds) := by
        simp only [datsM, bnd_assoc, ret_bnd]
      rw [e] at p
      exact p
    obtain ⟨d, e, p⟩ := datP p
    obtain ⟨ds, e1, e2, p⟩ := datsP2 k q p
    refine ⟨d :: ds, .cons (h.view k e) e1, fun j d' ej => ?_, p⟩
    cases j with
    | zero => simp at ej; subst ej; exact ⟨o, by simp, e⟩
    | succ j => simpa using e2 j d' (by simpa using ej)
theorem OpdsOk.get : ∀ {os : List Opd} {vs : List V} {j : Nat} {o : Opd} {v : V}, OpdsOk G S r t Hm H os vs → os[j]? = some o → vs[j]? = some v → OpdOk G S r t Hm H o v
  | _, _, j, o, v, .nil, e, _ => by simp at e
  | _, _, 0, o, v, .cons h q, e, e' => by simp at e e'; subst e e'; exact h
  | _, _, j + 1, o, v, .cons h q, e, e' => OpdsOk.get (j := j) q (by simpa using e) (by simpa using e')
/-- the lists that are walked are not held open -/
theorem src_not (k : Ok G S r t H) {os : List Opd} {vs : List V} {ds : List D} (h : OpdsOk G S r t Hm H os vs) (hd : ∀ (j : Nat) (d : D), ds[j]? = some d → ∃ o, os[j]? = some o ∧ o.dat r = some d) {a : Addr} (ha : lstAt ds vs a) : ¬ OwAt (lock os r) t a := by
  obtain ⟨kl, l1, l2, l3, l4⟩ := lock_ok (os := os) k
  obtain ⟨j, d, e1, e2, e3⟩ := ha
  obtain ⟨o, e4, e5⟩ := hd j d e1
  have q := h.get e4 e2
  have shared : ∀ d', Rp G S H d' (.ref a) → d' = d → S a := fun d' z e => by
    subst e
    obtain ⟨es, rfl⟩ := e3
    obtain ⟨b, _, eb, z, _⟩ := z
    cases eb
    exact z
  cases o with
  | val d' => cases e5; exact kl.notOw (shared _ q rfl)
  | new d' =>
    obtain ⟨b, eb, _, _, n, _⟩ := q
    cases eb
    exact fun z => n (l2 _ z.held)
  | bor i =>
    have q : t[i]? = some (some (.ref a)) := q
    simp only [Opd.dat] at e5
    cases c : r[i]? with
    | none => rw [c] at e5; cases e5
    | some s =>
      rw [c] at e5
      cases s with
      | un => cases e5
      | sh d' =>
        cases e5
        obtain ⟨u, eu, z⟩ := k.sl i _ _ c q
        cases eu
        exact kl.notOw (shared _ z rfl)
      | ow d' => exact l4 i _ (List.mem_of_getElem? e4) c rfl a q
      | lk d' => exact l4 i _ (List.mem_of_getElem? e4) c rfl a q
theorem held_unlock {os : List Opd} {a : Addr} (h : HeldAt (unlock os r0 r) t a) : HeldAt r t a := by
  obtain ⟨lU, gU⟩ := unlock_spec (os := os) (r0 := r0) (r := r)
  obtain ⟨i, s, e, hs, e2⟩ := h
  rcases gU i s e with ⟨g1, _⟩ | ⟨d, d', g1, _, _, _⟩
  · exact ⟨i, s, g1, hs, e2⟩
  · exact ⟨i, _, g1, rfl, e2⟩
theorem held_rest {own : List Nat} {a : Addr} (h : HeldAt (restR r0 r own) t a) : HeldAt r0 t a ∨ HeldAt r (wipe t own) a := by
  obtain ⟨l, g⟩ := restR_spec (own := own) (r0 := r0) (r := r)
  obtain ⟨i, s, e, hs, e2⟩ := h
  rcases g i s e with ⟨z1, z2⟩ | ⟨z1, z2⟩
  · cases c : r0[i]? with
    | none => rw [c] at z2; subst z2; cases hs
    | some s0 => rw [c] at z2; subst z2; exact .inl ⟨i, _, c, hs, e2⟩
  · exact .inr ⟨i, s, z2, hs, by rw [wipe_spec i z1]; exact e2⟩
/-- an item made, or none -/
def rT (G : Ctx) : Rel (Option D) (Option V)
  | S, _, _, _, H, some d, some v => Rp G S H d v
  | _, _, _, _, _, none, none => True
  | _, _, _, _, _, _, _ => False
end
def W0 : WX := fun _ _ _ _ => False
theorem wipe_fix {own : List Nat} {t t' : L2.St} (f : Fix (fun j => j ∉ own) t t') : wipe t' own = wipe t own := by
  obtain ⟨hl, f⟩ := f
  have none_in : ∀ (own : List Nat) (t : L2.St) (i : Nat), i ∈ own → i < t.length → (wipe t own)[i]? = some none := by
    intro own
    induction own with
    | nil => intro t i h; cases h
    | cons j js ih =>
      intro t i h hi
      show ((wipe t js).set j none)[i]? = _
      by_cases e : j = i
      · subst e
        rw [List.getElem?_set_self (by rw [wipe_length]; exact hi)]
      · rw [List.getElem?_set_ne e]
        rcases List.mem_cons.mp h with z | z
        · exact absurd z.symm e
        · exact ih t i z hi
  apply List.ext_getElem?
  intro i
  by_cases h : i ∈ own
  · by_cases hi : i < t.length
    · rw [none_in own t i h hi, none_in own t' i h (by omega)]
    · rw [List.getElem?_eq_none (by rw [wipe_length]; omega), List.getElem?_eq_none (by rw [wipe_length]; omega)]
  · rw [wipe_spec i h, wipe_spec i h]
    exact f i h
section
variable {X : Cx} {L : Lk} {W : WX} {C : Orc}
theorem s_comp {elt tg it : Expr} {ifs : List Expr} {scope : Scope} {own : List (Str × Nat)} {eelt eit : Ex} {etg : Tg} {eifs : List Ex} (hc : X.calm = true) (hN : X.N.Nodup) (ok : BlkOk X.N X.env.scope scope own)
    (hi : PI X tg it (tI X L W (ev C eit).k (ev C eit).i))
    (hg : ∀ (s : Shared) (H : Hp) (c : Addr) (cl : List (Str × Addr)) (fp : List Addr), PG (X.blk s H scope (compEnvC scope cl c X.env) fp) tg (tG X L W0 C (fun j => j ∉ own.map (·.2)) [] etg))
    (ht : ∀ (s : Shared) (H : Hp) (c : Addr) (cl : List (Str × Addr)) (fp : List Addr), PTs (X.blk s H scope (compEnvC scope cl c X.env) fp) ifs (tM (gm X L) W0 rB (andAll (evts C eifs))))
    (he : ∀ (s : Shared) (H : Hp) (c : Addr) (cl : List (Str × Addr)) (fp : List Addr), PE (X.blk s H scope (compEnvC scope cl c X.env) fp) elt (tM (gm X L) W0 (rO (gm X L)) (ev C eelt).v))
    (hs : ∀ x, foldedSetIterable it X.env x = pure x) {σ : L2.St} {H : Hp} {Q : V → Hp → Prop}
    (h : tM (gm X L) W (rO (gm X L)) (ev C (.comp eelt etg eit eifs (own.map (·.2)))).v σ H Q) :
    tLc (tI X L W (ev C eit).k (ev C eit).i) (tG X L W0 C (fun j => j ∉ own.map (·.2)) [] etg) (tM (gm X L) W0 rB (andAll (evts C eifs))) (tM (gm X L) W0 (rO (gm X L)) (ev C eelt).v) (own.map (·.2)) σ H Q := by
  obtain ⟨S, r, k, p⟩ := h
  refine (bindP (R1 := rOs (gm X L)) k .refl p).mono fun vs H1 ⟨os, S1, r1, k1, x1, q1, p⟩ => ?_
  obtain ⟨ds, hv, hd, p⟩ := datsP2 k1 q1 p
  obtain ⟨items, e1, p⟩ := optP p
  refine it_rule hv e1 fun J ks hks wk => ?_
  intro D hD
  generalize hown : own.map (·.2) = own' at *
  clear hown
  obtain ⟨kL, l1, l2, l3, l4⟩ := lock_ok (os := os) k1
  obtain ⟨kW, w1, w2⟩ := wipe_ok (own := own') kL
  have hks' : ∀ a ∈ ks, ¬ OwAt (wipeR (lock os r1) own') (wipe σ own') a := fun a ha z => src_not k1 q1 hd (hks a ha) (w1 a z)
  generalize hturn : (fun x => bnd (setTg C [] etg (.val x)) fun _ => bnd (andAll (evts C eifs)) fun b => if b then bnd (ev C eelt).v fun o => bnd (frz o) fun v => ret (some v) else ret none) = turn at p
  generalize hR0 : compN own' turn [] items (lock os r1) = R0 at p
  generalize hrL : lock os r1 = rL at *
  -- the whole run ends
  obtain ⟨accF, rF, eR⟩ : ∃ a r', R0 = .ok a r' := by
    cases R0 with
    | ok a r' => exact ⟨a, r', rfl⟩
    | err _ _ => exact p.elim
    | bad => exact p.elim
  let In : Nat → Hp → Prop := fun i H => ∃ S' rq acc vacc, H D = some (.lst vacc) ∧ RpL (gm X L) S' H acc vacc ∧ ¬ S' D ∧ ¬ HeldAt (wipeR rq own') (wipe σ own') D ∧ Ok (gm X L) S' (wipeR rq own') (wipe σ own') H ∧
    Ext S1 (wipeR rL own') (wipe σ own') H1 S' (wipeR rq own') (wipe σ own') H ∧ compN own' turn acc (items.drop i) rq = R0
  refine ⟨fun i m H => i + m = items.length ∧ In i H, ⟨items.length, Nat.zero_add _, S1, rL, [], [], upd_same, rfl, fun z => kL.dom D z hD, fun ⟨i, s, e, hs, e2⟩ => (kW.heldThere e hs e2).1 hD, kW.lay0 hD, .lay0 hD, hR0⟩, ?_⟩
  rintro i m H2 ⟨hm, S2, rq, acc, vacc, d1, d2, d3, d4, k2, x2, e2⟩
  have c1 : ∀ a o, S1 a → H1 a = some o → H2 a = some o := fun a o hs e => x2.keep a o e (kW.notOw hs)
  have c2 : ∀ a o, a ∈ ks → H1 a = some o → H2 a = some o := fun a o ha e => x2.keep a o e (hks' a ha)
  by_cases hlt : i < items.length
  · -- a turn
    refine .inr ⟨(wk.go i S2 H2 items[i] x2.up c1 c2 (List.getElem?_eq_getElem hlt)).1, In (i + 1), fun H' n => ⟨m - 1, by omega, by omega, n⟩, fun x H3 y => ?_⟩
    obtain ⟨S3, g1, g2, g3, g4, rp⟩ := (wk.go i S2 H2 items[i] x2.up c1 c2 (List.getElem?_eq_getElem hlt)).2 x H3 y
    obtain ⟨k3, x3⟩ := k2.grow g1 g2 g3 g4
    obtain ⟨d1', d3', d4'⟩ := x3.away d1 d3 d4
    have d2' := x3.rpl k2 d2
    rw [List.drop_eq_getElem_cons hlt] at e2
    generalize hit : items[i] = item at *
    -- the turn's run
    obtain ⟨yv, r4, e4, e5⟩ : ∃ yv r4, turn item (wipeR rq own') = .ok yv r4 ∧ ((yv = none ∧ compN own' turn acc (items.drop (i + 1)) r4 = R0) ∨ ∃ z, yv = some z ∧ acc.length < line ∧ compN own' turn (acc ++ [z]) (items.drop (i + 1)) r4 = R0) := by
      simp only [compN] at e2
      cases c : turn item (wipeR rq own') with
      | ok yv r4 =>
        rw [c] at e2
        cases yv with
        | none => exact ⟨_, _, rfl, .inl ⟨rfl, e2⟩⟩
        | some z =>
          dsimp only at e2
          split at e2
          · exact ⟨_, _, rfl, .inr ⟨z, rfl, by assumption, e2⟩⟩
          · rw [eR] at e2; cases e2
      | err _ _ => rw [c, eR] at e2; cases e2
      | bad => rw [c, eR] at e2; cases e2
    rw [← hturn] at e4
    simp only [bnd] at e4
    refine ⟨S3, wipeR rq own', S3, wipeR rq own', wipe σ own', H3, .val item, H3, k3, .refl, .refl, fun _ h => h, rp, ?_⟩
    cases eT : setTg C [] etg (.val item) (wipeR rq own') with
    | err _ _ => rw [eT] at e4; cases e4
    | bad => rw [eT] at e4; cases e4
    | ok u r3 =>
      rw [eT] at e4
      dsimp only at e4
      intro σ3 H4 S4 x4 k4 fi
      have hw : wipe σ3 own' = wipe σ own' := (wipe_fix fi).trans (wipe_fix ⟨wipe_length _ _, fun j hj => wipe_spec j hj⟩)
      refine ⟨hw, ?_⟩
      obtain ⟨f1, f3, f4⟩ := x4.away d1' d3' d4'
      have f2 := x4.rpl k3 d2'
      -- the turn's end
      have fin : ∀ (b : Option V) (H5 : Hp), (∃ S5, Ext S4 r3 σ3 H4 S5 r4 σ3 H5 ∧ Ok (gm X L) S5 r4 σ3 H5 ∧ rT (gm X L) S5 r4 σ3 H4 H5 yv b) → match b with
          | some y => ∃ acc, H5 D = some (.lst acc) ∧ acc.length < sizeLine ∧ In (i + 1) (upd H5 D (.lst (acc ++ [y])))
          | none => In (i + 1) H5 := fun b H5 ⟨S5, x5, k5, q5⟩ => by
        obtain ⟨g1, g3, g4⟩ := x5.away f1 f3 f4
        have g2 := x5.rpl k4 f2
        obtain ⟨kE, wE1, wE2⟩ := wipe_ok (own := own') k5
        have xE := wipe_ext (own := own') k5
        rw [hw] at kE xE wE2
        have xA := (((x2.trans x3).trans x4).trans x5).trans xE
        have nE : ¬ HeldAt (wipeR r4 own') (wipe σ own') D := fun z => g4 (wE2 D z)
        cases b with
        | none =>
          cases yv with
          | some _ => exact q5.elim
          | none =>
            rcases e5 with ⟨_, e5⟩ | ⟨z, ez, _⟩
            · exact ⟨S5, r4, acc, vacc, g1, g2, g3, nE, kE, xA, e5⟩
            · cases ez
        | some y =>
          cases yv with
          | none => exact q5.elim
          | some dd =>
            rcases e5 with ⟨ez, _⟩ | ⟨z, ez, hz, e5⟩
            · cases ez
            · obtain rfl := Option.some.inj ez
              have q5 : Rp (gm X L) S5 H5 dd y := q5
              have kk : ∀ a o, S5 a → H5 a = some o → ∃ o', upd H5 D (.lst (vacc ++ [y])) a = some o' ∧ Keep o o' := fun a o ha e => ⟨o, by rw [upd_ne (fun z => g3 (by rw [← z]; exact ha))]; exact e, .inl rfl⟩
              refine ⟨vacc, g1, by rw [← g2.length]; exact hz, S5, r4, acc ++ [dd], vacc ++ [y], upd_same, ?_, g3, nE, kE.poke g3 nE, xA.poke hD, e5⟩
              exact RpL.stay (fun _ h => h) kk _ _ (g2.append ⟨y, [], rfl, q5, rfl⟩)
      have p3 : Post (gm X L) W0 S4 r3 σ3 H4 (rT (gm X L)) (fun b H5 => ∃ S5, Ext S4 r3 σ3 H4 S5 r4 σ3 H5 ∧ Ok (gm X L) S5 r4 σ3 H5 ∧ rT (gm X L) S5 r4 σ3 H4 H5 yv b) ((bnd (andAll (evts C eifs)) fun b => if b then bnd (ev C eelt).v fun o => bnd (frz o) fun v => ret (some v) else ret none) r3) := by
        show Post _ _ _ _ _ _ _ _ (bnd (andAll (evts C eifs)) _ r3)
        simp only [bnd]
        rw [e4]
        exact fun b H5 S5 x5 k5 q5 => ⟨S5, x5, k5, q5⟩
      refine (bindP (R1 := rB) k4 .refl p3).mono fun b H5 ⟨b', S5, r5, k5, x5, q5, p5⟩ => ?_
      have q5 : b = b' := q5
      subst q5
      cases b with
      | false =>
        rw [if_neg Bool.false_ne_true] at p5 ⊢
        exact fin none H5 (endP k5 x5 p5 trivial)
      | true =>
        rw [if_pos rfl] at p5 ⊢
        refine (bindP (R1 := rO (gm X L)) k5 x5 p5).mono fun y H6 ⟨o, S6, r6, k6, x6, q6, p6⟩ => ?_
        obtain ⟨S7, u7, _, k7, x7, s7⟩ := shareOne k6 (x5.trans x6) (dom_none x5) q6
        obtain ⟨dd, S8, r8, u8, k8, x8, _, rp8, p8⟩ := frz1 k7 x7 s7 p6
        exact fin (some y) H6 (endP k8 x8 p8 rp8)
  · -- the end
    have hi' : items.length ≤ i := Nat.le_of_not_lt hlt
    refine .inl ⟨wk.stop i H2 c1 c2 hi', ?_⟩
    rw [List.drop_eq_nil_of_le hi'] at e2
    have e2 : Res.ok acc rq = R0 := e2
    rw [← e2] at p
    obtain ⟨k5, x5⟩ := rest_ok (own := own') kL x2 k2
    rw [← hrL] at x5 k5
    obtain ⟨k6, x6⟩ := unlock_ok (os := os) k1 x5 k5
    rw [hrL] at x6 k6
    refine p (.ref D) H2 S2 (x1.trans x6) k6 ⟨D, rfl, dom_none x1 D hD, d3, fun z => ?_, vacc, d1, d2⟩
    rcases held_rest (held_unlock z) with ⟨i, s, e, hs, e2⟩ | z
    · exact (kL.heldThere e hs e2).1 hD
    · exact d4 z
end
end VI

end
section
/-! VI16: what is walked, tests of a clause. -/
namespace VI
open PySem L2
section
variable {X : Cx} {L : Lk} {W : WX} {C : Orc} {gl : Str → Option Gl1}
theorem evs_len : ∀ {xs : List Ex} {r : Rho} {os : List Opd} {r1 : Rho}, evs C xs r = .ok os r1 → os.length = xs.length := by
  intro xs
  induction xs with
  | nil => intro r os r1 h; cases h; rfl
  | cons x xs ih =>
    intro r os r1 h
    simp only [evs, bnd] at h
    cases z : (ev C x).v r with
    | ok o r2 =>
      rw [z] at h
      dsimp only at h
      cases z2 : evs C xs r2 with
      | ok os2 r3 => rw [z2] at h; cases h; simp [ih z2]
      | err a b => rw [z2] at h; cases h
      | bad => rw [z2] at h; cases h
    | err a b => rw [z] at h; cases h
    | bad => rw [z] at h; cases h
theorem OpdsOk.len {G : Ctx} {S : Addr → Prop} {r : Rho} {t : L2.St} {H0 H : Hp} {os : List Opd} {vs : List V} (h : OpdsOk G S r t H0 H os vs) : os.length = vs.length := by
  induction h with
  | nil => rfl
  | cons _ _ ih => simp [ih]
theorem tM.lens {xs : List Ex} {σ : L2.St} {H : Hp} {Q : List V → Hp → Prop} (h : tM (gm X L) W (rOs (gm X L)) (evs C xs) σ H Q) : tM (gm X L) W (rOs (gm X L)) (evs C xs) σ H fun vs H1 => vs.length = xs.length ∧ Q vs H1 := by
  obtain ⟨S, r, k, p⟩ := h
  refine ⟨S, r, k, ?_⟩
  cases e : evs C xs r with
  | ok os r1 =>
    rw [e] at p
    exact fun b H' S' x k' q => ⟨by rw [← OpdsOk.len q]; exact evs_len e, p b H' S' x k' q⟩
  | err x r1 => rw [e] at p; exact p
  | bad => rw [e] at p; exact p
theorem itkOf_name {x : Str} {k : Itk} (h : itkOf x = some k) : (k = .range ∧ x = "range") ∨ (k = .enum ∧ x = "enumerate") ∨ (k = .zip ∧ x = "zip") := by
  unfold itkOf at h
  split at h
  · cases h; exact .inl ⟨rfl, by assumption⟩
  · split at h
    · cases h; exact .inr (.inl ⟨rfl, by assumption⟩)
    · split at h
      · cases h; exact .inr (.inr ⟨rfl, by assumption⟩)
      · cases h
theorem s_itk {x : Str} {k : Itk} {es : List Expr} {xs : List Ex} {tg : Expr} {p pos : Pos} (G : Good L gl C X) (hx : gl x = none) (hk : itkOf x = some k) (hg : Gl X x) (hs : noStar es = true) (hl : xs.length = es.length) (har : arOk k es.length = true) (ht : isTup tg = true ∨ plainIt (.itk k xs) = true)
    (ha : PA X es (tM (gm X L) W (rOs (gm X L)) (evs C xs))) : PI X tg (.Call (.Name x p) es [] pos) (tI X L W (ev C (.itk k xs)).k (ev C (.itk k xs)).i) := by
  have hm : X.mg x = none := G.blt x hx (.inr (.inr (by rw [hk]; rfl)))
  have no : (∀ σ H R, ¬ tI X L W (ev C (.itk k xs)).k (ev C (.itk k xs)).i σ H R) → PI X tg (.Call (.Name x p) es [] pos) (tI X L W (ev C (.itk k xs)).k (ev C (.itk k xs)).i) := fun h => ⟨fun pins s σ H R I q => (h σ H R q).elim⟩
  have star : ∀ e es', es = e :: es' → starEach es X.env = (false, eval e X.env) :: starEach es' X.env ∧ noStar es' = true := fun e es' h => by
    subst h
    unfold noStar at hs
    rw [List.all_cons, Bool.and_eq_true] at hs
    exact ⟨starEach_cons hs.1, hs.2⟩
  rcases itkOf_name hk with ⟨rfl, rfl⟩ | ⟨rfl, rfl⟩ | ⟨rfl, rfl⟩
  · -- range
    match es, xs, hl, ha, star with
    | [a], [xa], hl, ha, star =>
      refine PI.of (pi_range1 hg hm ha (by rw [(star a [] rfl).1]; rfl)) fun σ H R h => ?_
      refine (tM.lens (show tM (gm X L) W (rOs (gm X L)) (evs C [xa]) σ H _ from h)).mono fun vs H1 ⟨hl, w⟩ => ?_
      rcases w with w | ⟨i, j, rfl, _⟩
      · exact w
      · simp at hl
    | [a, b], [xa, xb], hl, ha, star =>
      have h2 := (star a [b] rfl)
      have h3 : starEach [b] X.env = [(false, eval b X.env)] := by
        have := h2.2
        unfold noStar at this
        rw [List.all_cons, Bool.and_eq_true] at this
        rw [starEach_cons this.1]; rfl
      refine PI.of (pi_range2 hg hm ha (by rw [h2.1, h3]) h3) fun σ H R h => ?_
      refine (tM.lens (show tM (gm X L) W (rOs (gm X L)) (evs C [xa, xb]) σ H _ from h)).mono fun vs H1 ⟨hl, w⟩ => ?_
      rcases w with ⟨j, rfl, _⟩ | w
      · simp at hl
      · exact w
    | [], _, hl, ha, star => cases har
    | a :: b :: c :: es', _, hl, ha, star => simp [arOk] at har
  · -- enumerate
    match es, xs, hl, ha, star with
    | [a], [xa], hl, ha, star =>
      cases tg with
      | Tuple elts kk tpos =>
        refine PI.of (pi_enum hg hm ha (by rw [(star a [] rfl).1]; rfl)) fun σ H R h => ?_
        exact h
      | _ => simp [isTup, plainIt] at ht
    | [], _, hl, ha, star => cases har
    | a :: b :: es', _, hl, ha, star => simp [arOk] at har
  · match es, xs, hl, ha, star with
    | [a, b], [xa, xb], hl, ha, star =>
      have h2 := (star a [b] rfl)
      cases tg with
      | Tuple elts kk tpos =>
        refine PI.of (pi_zip hg hm ha h2.1 (noStar_any h2.2)) fun σ H R h => ?_
        exact h
      | _ => simp [isTup, plainIt] at ht
    | [], _, hl, ha, star => cases har
    | [a], _, hl, ha, star => cases har
    | a :: b :: c :: es', _, hl, ha, star => simp [arOk] at har
/-- a clause's test -/
theorem pts_of {ifs : List Expr} {xs : List Ex} (h1 : ifs.length ≤ 1) (hl : xs.length = ifs.length) (h : ∀ e x, ifs = [e] → xs = [x] → PT X e (tM (gm X L) W rB (ev C x).t)) : PTs X ifs (tM (gm X L) W rB (andAll (evts C xs))) := by
  match ifs, xs, hl, h with
  | [], [], _, _ =>
    refine ⟨fun pins s σ H Q I ⟨S, r, k, p⟩ => pts_nil.run pins s σ H Q I ?_⟩
    exact endP k .refl p rfl
  | [e], [x], _, h =>
    refine ⟨fun pins s σ H Q I ⟨S, r, k, p⟩ => (pts_one (h e x rfl rfl)).run pins s σ H Q I ?_⟩
    refine (bindP (R1 := rB) k .refl p).mono fun c H1 ⟨c', S1, r1, k1, x1, q1, p⟩ => ?_
    have q1 : c = c' := q1
    subst q1
    cases c with
    | true => exact endP k1 x1 p rfl
    | false => exact endP k1 x1 p rfl
  | _ :: _ :: _, _, _, _ => simp at h1
end
end VI

end
section
/-! VI17: every expression's reading is the evaluator's run of its translation. -/
namespace VI
open PySem L2
/-- where an expression stands -/
structure Amb (gl : Str → Option Gl1) (N : List Str) (L : Lk) (C : Orc) (sc : Scope) (X : Cx) (W : WX) : Prop where
  good : Good L gl C X
  hN : X.N = N
  sc : X.env.scope = sc
  tk : Takes X W
/-- what is shown of an expression -/
def OkE (gl : Str → Option Gl1) (N : List Str) (L : Lk) (C : Orc) (e : Expr) : Prop := ∀ (sc : Scope) (X : Cx) (W : WX), Amb gl N L C sc X W →
  Snd X L W e (ev C (trE gl N sc e)) ∧ ∀ tg, isTup tg = true ∨ plainIt (trE gl N sc e) = true → PI X tg e (tI X L W (ev C (trE gl N sc e)).k (ev C (trE gl N sc e)).i)
section
variable {gl : Str → Option Gl1} {N : List Str} {L : Lk} {C : Orc} {sc : Scope} {X : Cx} {W : WX}
theorem ok_tv {e : Expr} {z : Ev} (h : Snd X L W e z) (hk : ∃ m, z = tv m) : ∀ tg, PI X tg e (tI X L W z.k z.i) := fun tg => by
  obtain ⟨m, rfl⟩ := hk
  exact pi_seq h.v
theorem pi_none {tg e : Expr} {k : Itk} : PI X tg e (tI X L W k fail) := ⟨fun pins s σ H R I h => (tM_fail (R := rOs (gm X L)) h).elim⟩
theorem ok_tv2 {e : Expr} {z : Ev} (h : Snd X L W e z) (hk : ∃ m t, z = tv2 m t) : ∀ tg, PI X tg e (tI X L W z.k z.i) := fun tg => by
  obtain ⟨m, t, rfl⟩ := hk
  exact pi_none
theorem ok_bad {e : Expr} : Snd X L W e (ev C .bad) ∧ ∀ tg, isTup tg = true ∨ plainIt .bad = true → PI X tg e (tI X L W (ev C .bad).k (ev C .bad).i) :=
  ⟨snd_bad, fun tg _ => ⟨fun pins s σ H R I ⟨_, _, _, p⟩ => p.elim⟩⟩
theorem Amb.blk (A : Amb gl N L C sc X W) (s : Shared) (H : Hp) (scope : Scope) (c : Addr) (cl : List (Str × Addr)) (fp : List Addr) : Amb gl N L C (relS scope sc) (X.blk s H scope (compEnvC scope cl c X.env) fp) W0 where
  good := ⟨A.good.calm, A.good.nd, A.good.hu, A.good.con, A.good.cls, A.good.blt, A.good.fns⟩
  hN := A.hN
  sc := by rw [← A.sc]; rfl
  tk := fun u s' ⟨a, B, sI, pins, σ, H, cls, d, e, I, nb, up, sky, na, os, ag, w⟩ => w.elim
theorem tyOf_boot {x : Str} {n : String} (h : tyOf x = some n) : bootBuiltins x = some (.type n) ∧ x ≠ "__name__" ∧ (x == ("__debug__" : Str)) = false := by
  unfold tyOf at h
  repeat' (split at h)
  all_goals first
    | (cases h; rename_i e; subst e; decide +kernel)
    | cases h
theorem vis_of {x : Str} (h : visB sc x = true) : Vis sc x := by
  unfold visB at h
  unfold Vis
  split at h
  · left; assumption
  · right; left; assumption
  · right; right; assumption
  · cases h
theorem okName_of {x : Str} (h : okName x = true) : (x == ("__debug__" : Str)) = false ∧ (x == ("__classdict__" : Str)) = false ∧ x ≠ "__name__" := by
  unfold okName at h
  simp only [Bool.and_eq_true, Bool.not_eq_true', decide_eq_false_iff_not] at h
  exact ⟨h.1.1, h.1.2, h.2⟩
theorem glob_of {x : Str} (A : Amb gl N L C sc X W) (h : glob sc x = true) : Gl X x ∧ okName x = true := by
  unfold glob at h
  simp only [Bool.and_eq_true, decide_eq_true_eq] at h
  refine ⟨?_, h.2⟩
  show X.env.scope.names.lookup x = _
  rw [A.sc]
  exact h.1
/-- lists -/
theorem trEs_len : ∀ {es : List Expr}, (trEs gl N sc es).length = es.length
  | [] => by simp [trEs]
  | e :: es => by simp [trEs, trEs_len (es := es)]
theorem trKs_len : ∀ {es : List Keyword}, (trKs gl N sc es).length = es.length
  | [] => by simp [trKs]
  | ⟨_, e, _⟩ :: es => by simp [trKs, trKs_len (es := es)]
theorem noStar_cons {e : Expr} {es : List Expr} (h : noStar (e :: es) = true) : notStar e = true ∧ noStar es = true := by
  unfold noStar at h
  rw [List.all_cons, Bool.and_eq_true] at h
  exact h
theorem okEs (A : Amb gl N L C sc X W) : ∀ {es : List Expr}, (∀ e ∈ es, OkE gl N L C e) → noStar es = true → PA X es (tM (gm X L) W (rOs (gm X L)) (evs C (trEs gl N sc es)))
  | [], _, _ => by
    unfold trEs
    exact pa_of_nil
  | e :: es, h, hs => by
    unfold trEs
    exact pa_of_cons (h e List.mem_cons_self sc X W A).1.v (okEs A (fun x hx => h x (List.mem_cons_of_mem _ hx)) (noStar_cons hs).2) (starEach_cons (noStar_cons hs).1)
theorem okAnd (A : Amb gl N L C sc X W) {pos : Pos} : ∀ {es : List Expr}, (∀ e ∈ es, OkE gl N L C e) → Snd X L W (.BoolOp .And es pos) (ev C (trAnd gl N sc es)) ∧ PW X (.BoolOp .And es pos) (tM (gm X L) W rB (ev C (trAnd gl N sc es)).t)
  | [], _ => by
    unfold trAnd
    exact ⟨snd_bad, ⟨fun wh pins s σ H Q I ⟨_, _, _, p⟩ => p.elim⟩⟩
  | [e], h => by
    unfold trAnd
    have z := (h e List.mem_cons_self sc X W A).1
    exact ⟨⟨pe_one z.v, (pw_and1 z.t).pt⟩, pw_and1 z.t⟩
  | e :: e2 :: es, h => by
    unfold trAnd
    have z := (h e List.mem_cons_self sc X W A).1
    have w := okAnd A (pos := pos) (es := e2 :: es) (fun x hx => h x (List.mem_cons_of_mem _ hx))
    exact s_and z w.1.v w.2
theorem okOr (A : Amb gl N L C sc X W) {pos : Pos} : ∀ {es : List Expr}, (∀ e ∈ es, OkE gl N L C e) → Snd X L W (.BoolOp .Or es pos) (ev C (trOr gl N sc es)) ∧ PW X (.BoolOp .Or es pos) (tM (gm X L) W rB (ev C (trOr gl N sc es)).t)
  | [], _ => by
    unfold trOr
    exact ⟨snd_bad, ⟨fun wh pins s σ H Q I ⟨_, _, _, p⟩ => p.elim⟩⟩
  | [e], h => by
    unfold trOr
    have z := (h e List.mem_cons_self sc X W A).1
    exact ⟨⟨pe_one z.v, (pw_or1 z.t).pt⟩, pw_or1 z.t⟩
  | e :: e2 :: es, h => by
    unfold trOr
    have z := (h e List.mem_cons_self sc X W A).1
    have w := okOr A (pos := pos) (es := e2 :: es) (fun x hx => h x (List.mem_cons_of_mem _ hx))
    exact s_or z w.1.v w.2
/-- what a target's names must be -/
structure AmbT (gl : Str → Option Gl1) (N : List Str) (tn : Str → Nat → Bool) (P : Nat → Prop) (fx : List Nat) (X : Cx) : Prop where
  ok : ∀ x i, tn x i = true → slotOf N x = some i → Loc X.env.scope x ∧ (X.fn x = true ∨ X.env.scope.names.lookup x = some .local) ∧ ∀ j, P j → j ∈ fx ∨ j ≠ i
theorem assignEach_cons {e : Expr} {es : List Expr} {env : Env} (h : notStar e = true) : assignEach (e :: es) env = (false, assign e env) :: assignEach es env := by
  cases e <;> first | rfl | cases h
theorem assignEach_len {env : Env} : ∀ {es : List Expr}, (assignEach es env).length = es.length
  | [] => rfl
  | e :: es => by cases e <;> simp [assignEach, assignEach_len (es := es)]
theorem assignEach_none {env : Env} : ∀ {es : List Expr}, noStar es = true → (assignEach es env).findIdx? (·.1) = none
  | [], _ => rfl
  | e :: es, h => by
    rw [assignEach_cons (noStar_cons h).1]
    simp [List.findIdx?_cons, assignEach_none (noStar_cons h).2]
theorem trTs_len {tn : Str → Nat → Bool} : ∀ {es : List Expr}, (trTs gl N tn sc es).length = es.length
  | [] => by simp [trTs]
  | e :: es => by simp [trTs, trTs_len (es := es)]
theorem g_bad {P : Nat → Prop} {fx : List Nat} {e : Expr} : PG X e (tG X L W C P fx .bad) := ⟨fun pins s σ H v u Q I r ⟨_, _, _, _, _, _, _, _, _, _, _, _, _, p⟩ => p.elim⟩
theorem plain_of {b : Expr} (h : plainIxB b = true) : PlainIx b := by
  cases b <;> first | exact fun _ _ => rfl | cases h | trivial | (intros; rfl)
theorem okT (A : Amb gl N L C sc X W) {tn : Str → Nat → Bool} {P : Nat → Prop} {fx : List Nat} (T : AmbT gl N tn P fx X) : ∀ (n : Nat), (∀ e : Expr, sizeOf e < n → OkE gl N L C e) → ∀ e : Expr, sizeOf e ≤ n → PG X e (tG X L W C P fx (trT gl N tn sc e)) := by
  intro n ih
  have main : ∀ m, ∀ e : Expr, sizeOf e ≤ m → sizeOf e ≤ n → PG X e (tG X L W C P fx (trT gl N tn sc e)) := by
    intro m
    induction m with
    | zero => intro e h; cases e <;> simp at h
    | succ m ihm =>
      intro e he hen
      unfold trT
      split
      · -- a name
        rename_i x pos
        split
        · rename_i i hi
          split
          · rename_i ht
            obtain ⟨t1, t2, t3⟩ := T.ok x i ht hi
            exact g_loc t3 A.good.nd (by rw [A.hN]; exact slotOf_get hi) t1 t2
          · exact g_bad
        · exact g_bad
      · -- a tuple
        rename_i ts kk pos
        split
        · rename_i hs
          have each : ∀ es : List Expr, (∀ e ∈ es, sizeOf e ≤ m ∧ sizeOf e ≤ n) → noStar es = true → PGs X es (tGs X L W C P fx (trTs gl N tn sc es)) := by
            intro es
            induction es with
            | nil => intro _ _; unfold trTs; exact gs_nil
            | cons a as iha =>
              intro h hs
              unfold trTs
              obtain ⟨h1, h2⟩ := h a List.mem_cons_self
              exact gs_cons (ihm a h1 h2) (iha (fun x hx => h x (List.mem_cons_of_mem _ hx)) (noStar_cons hs).2) (by rw [assignEach_cons (noStar_cons hs).1]; rfl)
          refine g_tup A.good.calm (each ts (fun e h => ?_) hs) (by rw [assignEach_len, trTs_len]) (assignEach_none hs)
          have := List.sizeOf_lt_of_mem h
          simp at he hen
          omega
        · exact g_bad
      · rename_i a b pos
        split
        · rename_i hb
          simp at he hen
          refine g_sub (ih a (by omega) sc X W A).1.v (ih b (by omega) sc X W A).1.v fun v => ?_
          cases b <;> first | rfl | cases hb
        · exact g_bad
      · exact g_bad
  exact fun e he => main n e he he
end
end VI

end
section
/-! VI18: every expression. -/
namespace VI
open PySem L2
section
variable {gl : Str → Option Gl1} {N : List Str} {L : Lk} {C : Orc} {sc : Scope} {X : Cx} {W : WX}
theorem okKs (A : Amb gl N L C sc X W) : ∀ {kws : List Keyword}, (∀ n e p, (⟨n, e, p⟩ : Keyword) ∈ kws → OkE gl N L C e) → PK X kws (tM (gm X L) W (rOs (gm X L)) (evs C (trKs gl N sc kws)))
  | [], _ => by
    unfold trKs
    exact ⟨fun pp pins s σ H Q I ⟨S, r, k, p⟩ => pk_nil.run pp pins s σ H Q I (endP k .refl p .nil)⟩
  | ⟨n, e, kp⟩ :: kws, h => by
    unfold trKs
    refine ⟨fun pp pins s σ H Q I ⟨S, r, k, p⟩ => (pk_cons (h n e kp List.mem_cons_self sc X W A).1.v (okKs A fun n' e' p' hx => h n' e' p' (List.mem_cons_of_mem _ hx))).run pp pins s σ H Q I ?_⟩
    refine (bindP (R1 := rO (gm X L)) k .refl p).mono fun v H1 ⟨o, S1, r1, k1, x1, q1, p⟩ => ?_
    refine (bindP (R1 := rOs (gm X L)) k1 x1 p).mono fun vs H2 ⟨os, S2, r2, k2, x2, q2, p⟩ => ?_
    exact endP k2 (x1.trans x2) p (.cons (q1.later k1 x2) (q2.mono (dom_none x1)))
theorem of_tv {e : Expr} {z : Ev} (h : Snd X L W e z) (hk : ∃ m, z = tv m) {c : Expr → Prop} : Snd X L W e z ∧ ∀ tg, c tg → PI X tg e (tI X L W z.k z.i) := ⟨h, fun tg _ => ok_tv h hk tg⟩
theorem of_tv2 {e : Expr} {z : Ev} (h : Snd X L W e z) (hk : ∃ m t, z = tv2 m t) {c : Expr → Prop} : Snd X L W e z ∧ ∀ tg, c tg → PI X tg e (tI X L W z.k z.i) := ⟨h, fun tg _ => ok_tv2 h hk tg⟩
theorem okPart (A : Amb gl N L C sc X W) {e : Option Expr} (h : ∀ e', e = some e' → OkE gl N L C e') : PO X e (tM (gm X L) W rI (evo C (trO gl N sc e))) := by
  refine po_of (fun e' he => ?_) fun he => ?_
  · subst he
    unfold trO
    exact ⟨_, rfl, (h e' rfl sc X W A).1.v⟩
  · subst he
    unfold trO
    rfl
theorem trAnd_tv : ∀ {es : List Expr}, es.length ≥ 2 → ∃ m t, ev C (trAnd gl N sc es) = tv2 m t
  | [], h => by simp at h
  | [_], h => by simp at h
  | a :: b :: es, _ => by unfold trAnd; exact ⟨_, _, rfl⟩
theorem trOr_tv : ∀ {es : List Expr}, es.length ≥ 2 → ∃ m t, ev C (trOr gl N sc es) = tv2 m t
  | [], h => by simp at h
  | [_], h => by simp at h
  | a :: b :: es, _ => by unfold trOr; exact ⟨_, _, rfl⟩
theorem notSet_of {e : Expr} {env : Env} (h : notSet e = true) : ∀ x, foldedSetIterable e env x = pure x := by
  cases e <;> first | exact fun _ => rfl | cases h
/-- a comprehension's parts -/
theorem okCompR (A : Amb gl N L C sc X W) {elt tg it : Expr} {ifs : List Expr} {scope : Scope} (hdec : ∀ e', sizeOf e' ≤ sizeOf elt + sizeOf tg + sizeOf it + sizeOf ifs → OkE gl N L C e') (hb : blkC N sc scope (ownOf N scope) = true) (hl : ifs.length ≤ 1) (ht : isTup tg = true ∨ plainIt (trE gl N sc it) = true) :
    BlkOk X.N X.env.scope scope (ownOf N scope) ∧ PI X tg it (tI X L W (ev C (trE gl N sc it)).k (ev C (trE gl N sc it)).i) ∧
    (∀ (s : Shared) (H : Hp) (c : Addr) (cl : List (Str × Addr)) (fp : List Addr), PG (X.blk s H scope (compEnvC scope cl c X.env) fp) tg (tG X L W0 C (fun j => j ∉ (ownOf N scope).map (·.2)) [] (trT gl N (ownTn scope (ownOf N scope)) (relS scope sc) tg))) ∧
    (∀ (s : Shared) (H : Hp) (c : Addr) (cl : List (Str × Addr)) (fp : List Addr), PTs (X.blk s H scope (compEnvC scope cl c X.env) fp) ifs (tM (gm X L) W0 rB (andAll (evts C (trEs gl N (relS scope sc) ifs))))) ∧
    (∀ (s : Shared) (H : Hp) (c : Addr) (cl : List (Str × Addr)) (fp : List Addr), PE (X.blk s H scope (compEnvC scope cl c X.env) fp) elt (tM (gm X L) W0 (rO (gm X L)) (ev C (trE gl N (relS scope sc) elt)).v)) := by
  refine ⟨?_, (hdec it (by omega) sc X W A).2 tg ht, fun s H c cl fp => ?_, fun s H c cl fp => ?_, fun s H c cl fp => (hdec elt (by omega) _ _ _ (A.blk s H scope c cl fp)).1.v⟩
  · rw [A.hN, A.sc]
    exact blkOk_by hb
  · have T : AmbT gl N (ownTn scope (ownOf N scope)) (fun j => j ∉ (ownOf N scope).map (·.2)) [] (X.blk s H scope (compEnvC scope cl c X.env) fp) := by
      refine ⟨fun x i hx hi => ?_⟩
      unfold ownTn at hx
      rw [Bool.and_eq_true, Bool.or_eq_true, decide_eq_true_eq, decide_eq_true_eq, decide_eq_true_eq] at hx
      obtain ⟨h1, h2⟩ := hx
      refine ⟨?_, ?_, fun j hj => .inr fun z => hj (by rw [z]; exact h2)⟩
      · rcases h1 with h1 | h1
        · exact .inl (lookup_relS_keep (by intro z; cases z) h1)
        · exact .inr (lookup_relS_keep (by intro z; cases z) h1)
      · rcases h1 with h1 | h1
        · exact .inr (lookup_relS_keep (by intro z; cases z) h1)
        · left
          show (scope.names.lookup x == some .cell) = true
          rw [h1]
          rfl
    exact okT (A.blk s H scope c cl fp) T (sizeOf tg) (fun e' h => hdec e' (by omega)) tg (Nat.le_refl _)
  · refine pts_of hl trEs_len fun e x he hx => ?_
    subst he
    unfold trEs at hx
    rw [List.cons.injEq] at hx
    obtain ⟨rfl, _⟩ := hx
    exact (hdec e (by simp; omega) _ _ _ (A.blk s H scope c cl fp)).1.t
theorem okComp (A : Amb gl N L C sc X W) {elt tg it : Expr} {ifs : List Expr} {scope : Scope} {pos : Pos} (hdec : ∀ e', sizeOf e' ≤ sizeOf elt + sizeOf tg + sizeOf it + sizeOf ifs → OkE gl N L C e') (hb : blkC N sc scope (ownOf N scope) = true) (hl : ifs.length ≤ 1) (hns : notSet it = true) (ht : isTup tg = true ∨ plainIt (trE gl N sc it) = true) :
    Snd X L W (.ListComp elt [⟨tg, it, ifs, 0⟩] scope pos) (ev C (.comp (trE gl N (relS scope sc) elt) (trT gl N (ownTn scope (ownOf N scope)) (relS scope sc) tg) (trE gl N sc it) (trEs gl N (relS scope sc) ifs) ((ownOf N scope).map (·.2)))) := by
  obtain ⟨ok, hi, hg, hts, hel⟩ := okCompR A hdec hb hl ht
  refine snd_tv ((pe_lc A.good.calm A.good.nd hi ok hg hts hel (notSet_of hns)).of fun σ H Q h => ?_) fun _ => rfl
  exact s_comp A.good.calm A.good.nd ok hi hg hts hel (notSet_of hns) h
set_option maxHeartbeats 4000000 in
theorem okE_all : ∀ (n : Nat) (e : Expr), sizeOf e < n → OkE gl N L C e := by
  intro n
  induction n with
  | zero => intro e h; omega
  | succ n ih =>
    intro e he sc X W A
    have hdec : ∀ e' : Expr, sizeOf e' < sizeOf e → OkE gl N L C e' := fun e' h => ih e' (by omega)
    unfold trE
    split
    · -- a name
      rename_i x pos
      split
      · rename_i hok
        obtain ⟨n1, n2, n3⟩ := okName_of hok
        split
        · rename_i hv
          split
          · rename_i i hi
            refine of_tv (s_loc (by rw [A.hN]; exact slotOf_get hi) ?_ n1 n2) ⟨_, rfl⟩
            rw [A.sc]
            exact vis_of hv
          · exact ok_bad
        · split
          · rename_i hg
            obtain ⟨g1, _⟩ := glob_of A hg
            split
            · rename_i d hd
              obtain ⟨u, v, m1, m2, m3⟩ := A.good.con x d hd
              exact of_tv (s_cst (pe_glob g1 m1 m2 n1) m3 fun _ => rfl) ⟨_, rfl⟩
            · rename_i i ps hd
              obtain ⟨m1, _⟩ := A.good.fns x i ps hd
              exact of_tv (s_cst (d := .fn i) (v := .ref (L.FA i)) (pe_glob g1 m1 rfl n1) (fun _ _ => rfl) fun _ => rfl) ⟨_, rfl⟩
            · rename_i c hd
              exact of_tv (s_cst (d := .cls c) (v := .ref (L.CA c)) (pe_glob g1 (A.good.cls x c hd) rfl n1) (fun _ _ => rfl) fun _ => rfl) ⟨_, rfl⟩
            · rename_i hd
              split
              · rename_i m ht
                obtain ⟨b1, b2, b3⟩ := tyOf_boot ht
                exact of_tv (s_cst (d := .ty m) (v := .ty m) (pe_bltn g1 (A.good.blt x hd (.inr (.inl (by rw [ht]; rfl)))) b1 rfl b2 b3) (fun _ _ => rfl) fun _ => rfl) ⟨_, rfl⟩
              · exact ok_bad
          · exact ok_bad
      · exact ok_bad
    · exact of_tv (s_cst (d := .non) (v := .non) pe_non (fun _ _ => rfl) fun _ => rfl) ⟨_, rfl⟩
    · exact of_tv (s_cst (d := .bl _) (v := .bl _) pe_bl (fun _ _ => rfl) fun _ => rfl) ⟨_, rfl⟩
    · exact of_tv (s_cst (d := .int _) (v := .int _) pe_int (fun _ _ => rfl) fun _ => rfl) ⟨_, rfl⟩
    · exact of_tv (s_cst (d := .str _) (v := .str _) pe_str (fun _ _ => rfl) fun _ => rfl) ⟨_, rfl⟩
    · rename_i a op b pos
      exact of_tv (s_bin (hdec a (by simp; omega) sc X W A).1 (hdec b (by simp; omega) sc X W A).1) ⟨_, rfl⟩
    · rename_i a pos
      exact of_tv (s_neg (hdec a (by simp; omega) sc X W A).1) ⟨_, rfl⟩
    · rename_i a pos
      exact of_tv2 (s_not (hdec a (by simp; omega) sc X W A).1) ⟨_, _, rfl⟩
    · rename_i es pos
      split
      · rename_i hl
        exact of_tv2 (okAnd A (fun e' h => hdec e' (by have := List.sizeOf_lt_of_mem h; simp; omega))).1 (trAnd_tv hl)
      · exact ok_bad
    · rename_i es pos
      split
      · rename_i hl
        exact of_tv2 (okOr A (fun e' h => hdec e' (by have := List.sizeOf_lt_of_mem h; simp; omega))).1 (trOr_tv hl)
      · exact ok_bad
    · -- one comparison
      rename_i a op b pos
      split
      · exact ok_bad
      · rename_i hm
        exact of_tv2 (s_cmp A.good.hu (by simpa using hm) (hdec a (by simp; omega) sc X W A).1 (hdec b (by simp; omega) sc X W A).1) ⟨_, _, rfl⟩
    · -- a chain
      rename_i a op op' b c pos
      split
      · exact ok_bad
      · rename_i hm
        exact of_tv2 (s_chn A.good.hu (by simpa using hm) (hdec a (by simp; omega) sc X W A).1 (hdec b (by simp; omega) sc X W A).1 (hdec c (by simp; omega) sc X W A).1) ⟨_, _, rfl⟩
    · rename_i c a b pos
      refine ⟨⟨s_ite (hdec c (by simp; omega) sc X W A).1 (hdec a (by simp; omega) sc X W A).1 (hdec b (by simp; omega) sc X W A).1, pt_fail fun _ _ _ h => tM_fail h⟩, fun tg _ => pi_none⟩
    · rename_i es k pos
      split
      · rename_i hs
        exact of_tv (s_tup (okEs A (fun e' h => hdec e' (by have := List.sizeOf_lt_of_mem h; simp; omega)) hs)) ⟨_, rfl⟩
      · exact ok_bad
    · rename_i es pos
      split
      · rename_i hs
        exact of_tv (s_lst (okEs A (fun e' h => hdec e' (by have := List.sizeOf_lt_of_mem h; simp; omega)) hs)) ⟨_, rfl⟩
      · exact ok_bad
    · -- a slice
      rename_i a lo hi p2 pos
      exact of_tv (s_slc (hdec a (by simp; omega) sc X W A).1 (okPart A fun e' h => hdec e' (by subst h; simp; omega)) (okPart A fun e' h => hdec e' (by subst h; simp; omega))) ⟨_, rfl⟩
    · rename_i a b pos _
      split
      · rename_i hb
        exact of_tv (s_sub (plain_of hb) (hdec a (by simp; omega) sc X W A).1 (hdec b (by simp; omega) sc X W A).1) ⟨_, rfl⟩
      · exact ok_bad
    · -- a call
      rename_i x p es kws pos
      have hes : ∀ e' ∈ es, OkE gl N L C e' := fun e' h => hdec e' (by have := List.sizeOf_lt_of_mem h; simp; omega)
      split
      · rename_i hc
        rw [Bool.and_eq_true] at hc
        obtain ⟨hg, hs⟩ := hc
        obtain ⟨g1, gok⟩ := glob_of A hg
        obtain ⟨n1, n2, n3⟩ := okName_of gok
        split
        · rename_i i ps hd
          split
          · rename_i hk
            rw [Bool.and_eq_true, decide_eq_true_eq, decide_eq_true_eq] at hk
            exact of_tv (s_cal A.good A.tk hd g1 n1 hs hk.1 hk.2 trEs_len trKs_len (okEs A hes hs) (okKs A fun n' e' p' h => hdec e' (by
              have := List.sizeOf_lt_of_mem h
              simp at this
              simp
              omega))) ⟨_, rfl⟩
          · exact ok_bad
        · rename_i hd
          split
          · split
            · rename_i f hf
              exact of_tv (s_bi A.good hd hf g1 hs trEs_len (okEs A hes hs)) ⟨_, rfl⟩
            · split
              · rename_i k hk
                split
                · rename_i har
                  refine ⟨⟨pe_fail fun _ _ _ h => tM_fail h, pt_fail fun _ _ _ h => tM_fail h⟩, fun tg ht => s_itk A.good hd hk g1 hs trEs_len har ht (okEs A hes hs)⟩
                · exact ok_bad
              · exact ok_bad
          · exact ok_bad
        · exact ok_bad
      · exact ok_bad
    · -- a method
      rename_i a m apos es pos
      have hes : ∀ e' ∈ es, OkE gl N L C e' := fun e' h => hdec e' (by have := List.sizeOf_lt_of_mem h; simp; omega)
      split
      · rename_i hc
        simp only [Bool.and_eq_true, decide_eq_true_eq] at hc
        obtain ⟨⟨⟨hs, h25⟩, hn⟩, hl⟩ := hc
        split
        · rename_i f hf
          exact of_tv (s_bm hf hs h25 hn hl trEs_len (hdec a (by simp; omega) sc X W A).1 (okEs A hes hs)) ⟨_, rfl⟩
        · exact ok_bad
      · exact ok_bad
    · -- a comprehension
      rename_i elt tg it ifs asy scope pos
      split
      · rename_i hc
        simp only [Bool.and_eq_true, decide_eq_true_eq, Bool.or_eq_true] at hc
        obtain ⟨⟨⟨⟨hz, hb⟩, hl⟩, hns⟩, ht⟩ := hc
        subst hz
        have h := okComp A (elt := elt) (tg := tg) (it := it) (ifs := ifs) (scope := scope) (pos := pos) (fun e' h => hdec e' (by simp; omega)) hb hl hns ht
        exact of_tv h ⟨_, rfl⟩
      · exact ok_bad
    · exact ok_bad
end
end VI

end
section
/-! VI19: values put into names side by side. -/
namespace VI
open PySem L2
/-- no two of them are the same new object -/
def Nw (os : List Opd) (vs : List V) : Prop := ∀ (i j : Nat) (d e : D) (a : Addr), i < j → os[i]? = some (.new d) → os[j]? = some (.new e) → vs[i]? = some (.ref a) → vs[j]? ≠ some (.ref a)
def rON (G : Ctx) : Rel (List Opd) (List V) := fun S r t H0 H os vs => OpdsOk G S r t H0 H os vs ∧ Nw os vs
def setAll : L2.St → List Nat → List V → L2.St
  | t, i :: is, v :: vs => setAll (t.set i (some v)) is vs
  | t, _, _ => t
section
variable {G : Ctx} {W : WX} {fx : List Nat} {P : Nat → Prop} {S S' S0 S1 : Addr → Prop} {r r' r0 r1 : Rho} {t t' t0 : L2.St} {H H' H0 H1 Hm : Hp} {α β γ δ : Type} {Q : L2.St → Hp → Prop}
theorem OpdsOk.at : ∀ {os : List Opd} {vs : List V} {j : Nat} {o : Opd}, OpdsOk G S r t Hm H os vs → os[j]? = some o → ∃ v, vs[j]? = some v ∧ OpdOk G S r t Hm H o v
  | _, _, j, o, .nil, e => by simp at e
  | _, _, 0, o, .cons h q, e => by simp at e; subst e; exact ⟨_, by simp, h⟩
  | _, _, j + 1, o, .cons h q, e => by
    obtain ⟨v, e1, h1⟩ := OpdsOk.at (j := j) q (by simpa using e)
    exact ⟨v, by simpa using e1, h1⟩
theorem Nw.cons {o : Opd} {v : V} {os : List Opd} {vs : List V} (k : ∀ d a, o = .new d → v = .ref a → H1 a ≠ none) (q : OpdsOk G S r t H1 H os vs) (n : Nw os vs) : Nw (o :: os) (v :: vs) := by
  intro i j d e a hij e1 e2 e3 e4
  cases j with
  | zero => omega
  | succ j =>
    have e2 : os[j]? = some (.new e) := by simpa using e2
    have e4 : vs[j]? = some (.ref a) := by simpa using e4
    cases i with
    | zero =>
      have e1 : o = .new d := by simpa using e1
      have e3 : v = .ref a := by simpa using e3
      obtain ⟨b, eb, h0, _⟩ := q.get e2 e4
      cases eb
      exact k d a e1 e3 h0
    | succ i => exact n i j d e a (by omega) (by simpa using e1) e2 (by simpa using e3) e4
theorem Nw.tail {o : Opd} {v : V} {os : List Opd} {vs : List V} (n : Nw (o :: os) (v :: vs)) : Nw os vs := fun i j d e a hij e1 e2 e3 e4 => n (i + 1) (j + 1) d e a (by omega) (by simpa using e1) (by simpa using e2) (by simpa using e3) (by simpa using e4)
theorem sealsT : ∀ {os : List Opd} {vs : List V} {S : Addr → Prop} {r : Rho} {g : List Opd → M Unit}, Ok G S r t H → Ext S0 r0 t0 H0 S r t H → OpdsOk G S r t Hm H os vs → PostT G W P S0 r0 t0 H0 Q (bnd (sealOs os) g r) →
    ∃ os' S' r', Ok G S' r' t H ∧ Ext S0 r0 t0 H0 S' r' t H ∧ Ext S r t H S' r' t H ∧ OpdsOk G S' r' t Hm H os' vs ∧ (∀ (j : Nat) (d : D), os'[j]? = some (.new d) → os[j]? = some (.new d)) ∧ (∀ o ∈ os', ∀ i, o ≠ .bor i) ∧ PostT G W P S0 r0 t0 H0 Q (g os' r')
  | _, _, S, r, g, k, x, .nil, p => ⟨[], S, r, k, x, .refl, .nil, fun j d e => e, fun o h => (by cases h), p⟩
  | o :: os, v :: vs, S, r, g, k, x, .cons h q, p => by
    have e : bnd (sealOs (o :: os)) g = bnd (sealO o) fun o => bnd (sealOs os) fun os => g (o :: os) := by
      simp only [sealOs, bnd_assoc, ret_bnd]
    rw [e] at p
    -- the head
    obtain ⟨o', S1, r1, k1, x1, y1, h1, n1, b1, p⟩ : ∃ o' S1 r1, Ok G S1 r1 t H ∧ Ext S0 r0 t0 H0 S1 r1 t H ∧ Ext S r t H S1 r1 t H ∧ OpdOk G S1 r1 t Hm H o' v ∧ (∀ d, o' = .new d → o = .new d) ∧ (∀ i, o' ≠ .bor i) ∧
        PostT G W P S0 r0 t0 H0 Q (bnd (sealOs os) (fun os => g (o' :: os)) r1) := by
      cases o with
      | val d => exact ⟨.val d, S, r, k, x, .refl, h, fun d e => (by cases e), fun i e => (by cases e), p⟩
      | new d => exact ⟨.new d, S, r, k, x, .refl, h, fun d e => e, fun i e => (by cases e), p⟩
      | bor i =>
        have h : t[i]? = some (some v) := h
        simp only [bnd, sealO, frz] at p
        cases e : r[i]? with
        | none => rw [e] at p; exact p.elim
        | some s =>
          rw [e] at p
          cases s with
          | un => exact p.elim
          | lk d => exact p.elim
          | sh d =>
            obtain ⟨u, q, z⟩ := k.sl i _ _ e h
            cases q
            exact ⟨.val d, S, r, k, x, .refl, z, fun d e => (by cases e), fun i e => (by cases e), p⟩
          | ow d =>
            obtain ⟨a, q, n, tp⟩ := k.sl i _ _ e h
            cases q
            obtain ⟨k', x', rp⟩ := k.share e h
            exact ⟨.val d, _, _, k', x.trans x', x', rp, fun d e => (by cases e), fun i e => (by cases e), p⟩
    obtain ⟨os', S2, r2, k2, x2, y2, q2, n2, b2, p⟩ := sealsT k1 x1 (q.later k y1) p
    refine ⟨o' :: os', S2, r2, k2, x2, y1.trans y2, .cons (h1.later k1 y2) q2, fun j d e => ?_, fun z hz => ?_, p⟩
    · cases j with
      | zero => simp at e; simp [n1 d e]
      | succ j => simpa using n2 j d (by simpa using e)
    · rcases List.mem_cons.mp hz with e | e
      · subst e; exact b1
      · exact b2 z e
theorem setsT : ∀ {is : List Nat} {os : List Opd} {vs : List V} {r : Rho} {t : L2.St}, (∀ i ∈ is, ∀ j, P j → j ∈ fx ∨ j ≠ i) → Ok G S r t H → Ext S0 r0 t0 H0 S r t H → Fix P t0 t → (∀ p, Hm p = none → H0 p = none) → OpdsOk G S r t Hm H os vs → Nw os vs → (∀ o ∈ os, ∀ i, o ≠ .bor i) →
    PostT G W P S0 r0 t0 H0 Q (setLocs fx is os r) → vs.length = is.length ∧ Q (setAll t is vs) H
  | [], _, _, r, t, hP, k, x, fi, hm, .nil, nw, nb, p => ⟨rfl, p t H S x k fi⟩
  | _ :: _, _, _, r, t, hP, k, x, fi, hm, .nil, nw, nb, p => p.elim
  | [], _ :: _, _, r, t, hP, k, x, fi, hm, .cons _ _, nw, nb, p => p.elim
  | i :: is, o :: os, v :: vs, r, t, hP, k, x, fi, hm, .cons h q, nw, nb, p => by
    have p : PostT G W P S0 r0 t0 H0 Q (bnd (setLoc fx i o) (fun _ => setLocs fx is os) r) := p
    simp only [bnd, setLoc] at p
    by_cases hfx : i ∈ fx
    · rw [if_pos hfx] at p; exact p.elim
    rw [if_neg hfx] at p
    have fi' : ∀ w : Option V, Fix P t0 (t.set i w) := fun w => ⟨by rw [List.length_set]; exact fi.1, fun j hj => by
      rw [List.getElem?_set_ne (fun z => (hP i List.mem_cons_self j hj).elim (fun y => hfx (by rw [z]; exact y)) fun y => y z.symm)]
      exact fi.2 j hj⟩
    have hP' : ∀ i ∈ is, ∀ j, P j → j ∈ fx ∨ j ≠ i := fun i hi => hP i (List.mem_cons_of_mem _ hi)
    have nb' : ∀ o ∈ os, ∀ i, o ≠ .bor i := fun o ho => nb o (List.mem_cons_of_mem _ ho)
    -- the others, behind the store
    have rest : ∀ (s : Sl), (∀ a, s.held = true → v = .ref a → ∃ d, o = .new d) → OpdsOk G S (r.set i s) (t.set i (some v)) Hm H os vs := by
      intro s hs
      have each : ∀ (os' : List Opd) (vs' : List V), OpdsOk G S r t Hm H os' vs' → (∀ o ∈ os', ∀ i, o ≠ .bor i) → (∀ (j : Nat) (e : D) (a : Addr), os'[j]? = some (.new e) → vs'[j]? = some (.ref a) → s.held = true → v ≠ .ref a) → OpdsOk G S (r.set i s) (t.set i (some v)) Hm H os' vs' := by
        intro os' vs' q'
        induction q' with
        | nil => intro _ _; exact .nil
        | @cons o1 os1 v1 vs1 h1 q1 ih =>
          intro nb1 ap
          refine .cons ?_ (ih (fun o ho => nb1 o (List.mem_cons_of_mem _ ho)) fun j e a e1 e2 => ap (j + 1) e a (by simpa using e1) (by simpa using e2))
          cases o1 with
          | val d => exact h1
          | bor l => exact absurd rfl (nb1 _ List.mem_cons_self l)
          | new d =>
            obtain ⟨a, ea, h0, n, hn, tp⟩ := h1
            refine ⟨a, ea, h0, n, fun ⟨l, s', e1, e2, e3⟩ => ?_, tp⟩
            rcases set_get e1 with ⟨z1, z2, hl⟩ | ⟨z1, z2⟩
            · subst z1 z2
              rw [List.getElem?_set_self (by rw [← k.len]; exact hl)] at e3
              exact ap 0 d a (by simp) (by simp [ea]) e2 (by cases e3; rfl)
            · rw [List.getElem?_set_ne (Ne.symm z1)] at e3
              exact hn ⟨l, s', z2, e2, e3⟩
      refine each os vs q nb' fun j e a e1 e2 hh ev => ?_
      obtain ⟨d, ed⟩ := hs a hh ev
      exact nw 0 (j + 1) d e a (by omega) (by simp [ed]) (by simpa using e1) (by simp [ev]) (by simpa using e2)
    cases o with
    | bor l => exact absurd rfl (nb _ List.mem_cons_self l)
    | val d =>
      dsimp only at p
      by_cases hi : i < r.length
      · rw [if_pos hi] at p
        obtain ⟨k1, x1⟩ := k.setSh x hi h
        obtain ⟨l, q⟩ := setsT hP' k1 x1 (fi' _) hm (rest (.sh d) fun a hh _ => by cases hh) nw.tail nb' p
        exact ⟨by simp [l], q⟩
      · rw [if_neg hi] at p; exact p.elim
    | new d =>
      dsimp only at p
      by_cases hi : i < r.length
      · rw [if_pos hi] at p
        obtain ⟨a, e, h0, nS, nH, tp⟩ := h
        subst e
        obtain ⟨k1, x1⟩ := k.setOw x hi (hm a h0) nS nH tp
        obtain ⟨l, q⟩ := setsT hP' k1 x1 (fi' _) hm (rest (.ow d) fun a hh _ => ⟨d, rfl⟩) nw.tail nb' p
        exact ⟨by simp [l], q⟩
      · rw [if_neg hi] at p; exact p.elim
/-- values put into names -/
theorem par_ok {is : List Nat} {os : List Opd} {vs : List V} (hP : ∀ i ∈ is, ∀ j, P j → j ∈ fx ∨ j ≠ i) (k : Ok G S r t H) (x : Ext S0 r0 t0 H0 S r t H) (fi : Fix P t0 t) (hm : ∀ p, Hm p = none → H0 p = none) (q : OpdsOk G S r t Hm H os vs) (nw : Nw os vs)
    (p : PostT G W P S0 r0 t0 H0 Q (bnd (sealOs os) (fun os => setLocs fx is os) r)) : vs.length = is.length ∧ Q (setAll t is vs) H := by
  obtain ⟨os', S1, r1, k1, x1, y1, q1, n1, b1, p⟩ := sealsT k x q p
  exact setsT hP k1 x1 fi hm q1 (fun i j d e a hij e1 e2 => nw i j d e a hij (n1 i d e1) (n1 j e e2)) b1 p
end
section
variable {gl : Str → Option Gl1} {N : List Str} {L : Lk} {C : Orc} {sc : Scope} {X : Cx} {W : WX}
/-- an argument list, its new objects apart -/
theorem pa_nw (A : Amb gl N L C sc X W) : ∀ {es : List Expr}, (∀ e ∈ es, OkE gl N L C e) → noStar es = true → PA X es (tM (gm X L) W (rON (gm X L)) (evs C (trEs gl N sc es)))
  | [], _, _ => by
    unfold trEs
    exact pa_nil.of fun σ H Q ⟨S, r, k, p⟩ => endP k .refl p ⟨.nil, fun i j d e a _ h => by simp at h⟩
  | e :: es, h, hs => by
    unfold trEs
    refine (pa_cons (h e List.mem_cons_self sc X W A).1.v (pa_nw A (fun x hx => h x (List.mem_cons_of_mem _ hx)) (noStar_cons hs).2) (starEach_cons (noStar_cons hs).1)).of fun σ H Q ⟨S, r, k, p⟩ => ?_
    refine (bindP (R1 := rO (gm X L)) k .refl p).mono fun v H1 ⟨o, S1, r1, k1, x1, q1, p⟩ => ?_
    refine (bindP (R1 := rON (gm X L)) k1 x1 p).mono fun vs H2 ⟨os, S2, r2, k2, x2, ⟨q2, n2⟩, p⟩ => ?_
    refine endP k2 (x1.trans x2) p ⟨.cons (q1.later k1 x2) (q2.mono (dom_none x1)), n2.cons (fun d a e1 e2 => ?_) q2⟩
    subst e1 e2
    obtain ⟨b, eb, _, _, _, tp⟩ := q1
    cases eb
    exact tp.there
end
end VI

end
section
/-! VI20: statements: what a run means. -/
namespace VI
open PySem L2
/-- what a statement's run promises -/
def PostS (G : Ctx) (W : WX) (P : Nat → Prop) (S : Addr → Prop) (r : Rho) (t : L2.St) (H : Hp) (E : Ends) : Res Fl → Prop
  | .ok .nx r' => ∀ t' H' S', Ext S r t H S' r' t' H' → Ok G S' r' t' H' → Fix P t t' → E.nx t' H'
  | .ok .br r' => ∀ t' H' S', Ext S r t H S' r' t' H' → Ok G S' r' t' H' → Fix P t t' → E.bk t' H'
  | .ok .ct r' => ∀ t' H' S', Ext S r t H S' r' t' H' → Ok G S' r' t' H' → Fix P t t' → E.ct t' H'
  | .ok (.rt o) r' => ∀ t' H' S' v, Ext S r t H S' r' t' H' → Ok G S' r' t' H' → Fix P t t' → OpdOk G S' r' t' H H' o v → E.rt v H'
  | .err x r' => ∀ cls d t' H' S', Ext S r t H S' r' t' H' → Ok G S' r' t' H' → Fix P t t' → ExcOk G S' H' x cls d → W cls d t' H'
  | .bad => False
/-- a statement as a reading -/
def tS (X : Cx) (L : Lk) (W : WX) (P : Nat → Prop) (m : M Fl) : TS := fun E σ H => ∃ S r, Ok (gm X L) S r σ H ∧ PostS (gm X L) W P S r σ H E (m r)
section
variable {G : Ctx} {W : WX} {fx : List Nat} {P : Nat → Prop} {S S' S0 S1 : Addr → Prop} {r r' r0 r1 : Rho} {t t' t0 t1 : L2.St} {H H' H0 H1 Hm : Hp} {α β γ δ : Type} {E E' : Ends}
theorem PostS.shift (x : Ext S r t H S1 r1 t1 H1) (f : Fix P t t1) : ∀ {res : Res Fl}, PostS G W P S r t H E res → PostS G W P S1 r1 t1 H1 E res
  | .ok .nx r', p => fun t' H' S' y k g => p t' H' S' (x.trans y) k (f.trans g)
  | .ok .br r', p => fun t' H' S' y k g => p t' H' S' (x.trans y) k (f.trans g)
  | .ok .ct r', p => fun t' H' S' y k g => p t' H' S' (x.trans y) k (f.trans g)
  | .ok (.rt o) r', p => fun t' H' S' v y k g q => p t' H' S' v (x.trans y) k (f.trans g) (q.mono (dom_none x))
  | .err e r', p => fun c d t' H' S' y k g q => p c d t' H' S' (x.trans y) k (f.trans g) q
  | .bad, p => p
/-- other ends -/
theorem PostS.imp (h1 : ∀ t H, E.nx t H → E'.nx t H) (h2 : ∀ t H, E.bk t H → E'.bk t H) (h3 : ∀ t H, E.ct t H → E'.ct t H) (h4 : ∀ v H, E.rt v H → E'.rt v H) : ∀ {res : Res Fl}, PostS G W P S r t H E res → PostS G W P S r t H E' res
  | .ok .nx r', p => fun t' H' S' y k g => h1 _ _ (p t' H' S' y k g)
  | .ok .br r', p => fun t' H' S' y k g => h2 _ _ (p t' H' S' y k g)
  | .ok .ct r', p => fun t' H' S' y k g => h3 _ _ (p t' H' S' y k g)
  | .ok (.rt o) r', p => fun t' H' S' v y k g q => h4 _ _ (p t' H' S' v y k g q)
  | .err e r', p => p
  | .bad, p => p
theorem bindS {R1 : Rel α β} {m : M α} {f : α → M Fl} (k : Ok G S r t H) (x : Ext S0 r0 t0 H0 S r t H) (fi : Fix P t0 t) (p : PostS G W P S0 r0 t0 H0 E (bnd m f r)) :
    tM G W R1 m t H fun b H1 => ∃ a S1 r1, Ok G S1 r1 t H1 ∧ Ext S r t H S1 r1 t H1 ∧ R1 S1 r1 t H H1 a b ∧ PostS G W P S0 r0 t0 H0 E (f a r1) := by
  refine ⟨S, r, k, ?_⟩
  simp only [bnd] at p
  cases e : m r with
  | ok a r1 =>
    rw [e] at p
    exact fun b H1 S1 x1 k1 q => ⟨a, S1, r1, k1, x1, q, p⟩
  | err z r1 =>
    rw [e] at p
    exact fun c d H' S' y k q => p c d t H' S' (x.trans y) k fi q
  | bad => rw [e] at p; exact p
/-- a store within a statement -/
theorem storeS {m : M Unit} {f : Unit → M Fl} (fi : Fix P t0 t) (k : Ok G S r t H) (x : Ext S0 r0 t0 H0 S r t H) (p : PostS G W P S0 r0 t0 H0 E (bnd m f r)) :
    PostT G W P S0 r0 t0 H0 (fun t1 H1 => ∃ S1 r1, Ok G S1 r1 t1 H1 ∧ Ext S0 r0 t0 H0 S1 r1 t1 H1 ∧ Fix P t0 t1 ∧ PostS G W P S0 r0 t0 H0 E (f () r1)) (m r) := by
  simp only [bnd] at p
  cases e : m r with
  | ok a r1 =>
    rw [e] at p
    exact fun t1 H1 S1 x1 k1 f1 => ⟨S1, r1, k1, x1, f1, p⟩
  | err z r1 =>
    rw [e] at p
    exact fun c d t1 H' S' y k g q => p c d t1 H' S' y k g q
  | bad => rw [e] at p; exact p
theorem datsS (k : Ok G S r t H) : ∀ {os : List Opd} {vs : List V} {g : List D → M Fl}, OpdsOk G S r t Hm H os vs → PostS G W P S0 r0 t0 H0 E (bnd (datsM os) g r) →
    ∃ ds, Views G S H ds vs ∧ (∀ (j : Nat) (d : D), ds[j]? = some d → ∃ o, os[j]? = some o ∧ o.dat r = some d) ∧ PostS G W P S0 r0 t0 H0 E (g ds r) := by
  intro os vs g q p
  -- the run of datsM alone
  have run : ∀ {os : List Opd} {vs : List V}, OpdsOk G S r t Hm H os vs → datsM os r = .bad ∨ ∃ ds, datsM os r = .ok ds r ∧ Views G S H ds vs ∧ ∀ (j : Nat) (d : D), ds[j]? = some d → ∃ o, os[j]? = some o ∧ o.dat r = some d := by
    intro os vs q
    induction q with
    | nil => exact .inr ⟨[], rfl, .nil, fun j d e => by simp at e⟩
    | @cons o os v vs h q ih =>
      simp only [datsM, bnd, datM]
      cases e : o.dat r with
      | none => exact .inl rfl
      | some d =>
        dsimp only
        rcases ih with ih | ⟨ds, e1, e2, e3⟩
        · rw [ih]; exact .inl rfl
        · rw [e1]
          refine .inr ⟨d :: ds, rfl, .cons (h.view k e) e2, fun j d' ej => ?_⟩
          cases j with
          | zero => simp at ej; subst ej; exact ⟨o, by simp, e⟩
          | succ j => simpa using e3 j d' (by simpa using ej)
  simp only [bnd] at p
  rcases run q with e | ⟨ds, e1, e2, e3⟩
  · rw [e] at p; exact p.elim
  · rw [e1] at p
    exact ⟨ds, e2, e3, p⟩
theorem optS {o : Option α} {g : α → M Fl} (p : PostS G W P S0 r0 t0 H0 E (bnd (opt o) g r)) : ∃ a, o = some a ∧ PostS G W P S0 r0 t0 H0 E (g a r) := by
  cases o with
  | none => exact p.elim
  | some a => exact ⟨a, rfl, p⟩
/-- a run within a lock -/
theorem unlockS {os : List Opd} (k : Ok G S r t H) {res : Res Fl} (p : PostS G W P S r t H E (match res with
    | .ok f r' => .ok f (unlock os r r')
    | .err x r' => .err x (unlock os r r')
    | .bad => .bad)) : PostS G W P S (lock os r) t H E res := by
  cases res with
  | bad => exact p
  | err e r' => exact fun c d t' H' S' y k' g q => let z := unlock_ok k y k'; p c d t' H' S' z.2 z.1 g q
  | ok f r' =>
    cases f with
    | nx => exact fun t' H' S' y k' g => let z := unlock_ok k y k'; p t' H' S' z.2 z.1 g
    | br => exact fun t' H' S' y k' g => let z := unlock_ok k y k'; p t' H' S' z.2 z.1 g
    | ct => exact fun t' H' S' y k' g => let z := unlock_ok k y k'; p t' H' S' z.2 z.1 g
    | rt o =>
      refine fun t' H' S' v y k' g q => let z := unlock_ok k y k'; p t' H' S' v z.2 z.1 g ?_
      cases o with
      | val d => exact q
      | bor i => exact q
      | new d =>
        obtain ⟨a, ea, h0, n, hn, tp⟩ := q
        exact ⟨a, ea, h0, n, fun z => hn (held_unlock z), tp⟩
end
end VI

end
section
/-! VI21: every statement's reading is the evaluator's run. -/
namespace VI
open PySem L2
theorem _root_.L2.PS.of {X : Cx} {st : Stmt} {t t' : TS} (h : PS X st t') (i : ∀ E σ H, t E σ H → t' E σ H) : PS X st t := ⟨fun pins s σ H E I q => h.run pins s σ H E I (i E σ H q)⟩
theorem _root_.L2.PSs.of {X : Cx} {st : List Stmt} {t t' : TS} (h : PSs X st t') (i : ∀ E σ H, t E σ H → t' E σ H) : PSs X st t := ⟨fun pins s σ H E I q => h.run pins s σ H E I (i E σ H q)⟩
/-- where a statement stands -/
structure AmbS (gl : Str → Option Gl1) (N : List Str) (L : Lk) (C : Orc) (sc : Scope) (X : Cx) (W : WX) : Prop where
  amb : Amb gl N L C sc X W
  kind : X.env.scope.kind = .function
  own : PassesOwn (model X.prog X.w) X.A X.env X.xe
  fn : ∀ x, X.fn x = true
section
variable {gl : Str → Option Gl1} {N : List Str} {L : Lk} {C : Orc} {sc : Scope} {X : Cx} {W : WX} {fx : List Nat}
theorem ps_bad {st : Stmt} {P : Nat → Prop} : PS X st (tS X L W P fail) := ⟨fun pins s σ H E I ⟨_, _, _, p⟩ => p.elim⟩
theorem okE (e : Expr) : OkE gl N L C e := okE_all (sizeOf e + 1) e (Nat.lt_succ_self _)
theorem AmbS.tn (A : AmbS gl N L C sc X W) : AmbT gl N (defTn sc) (fun j => j ∈ fx) fx X := ⟨fun x i h hi => by
  refine ⟨?_, .inl (A.fn x), fun j hj => .inl hj⟩
  unfold defTn locB at h
  rw [A.amb.sc]
  unfold L2.Loc
  split at h
  · exact .inl (by assumption)
  · exact .inr (by assumption)
  · cases h⟩
/-! the statements, one by one -/
variable {st : Stmt} {pos : Pos}
theorem s_exp (A : AmbS gl N L C sc X W) {e : Expr} (h : notComp e = true) : PS X (.Expr e pos) (tS X L W (fun j => j ∈ fx) (exec C fx (.exp (trE gl N sc e)))) := by
  have hs : swapsWith e none pos.line X.env = pure false := by cases e <;> first | rfl | cases h
  refine (ps_expr (okE e sc X W A.amb).1.v hs).of fun E σ H ⟨S, r, k, p⟩ => ?_
  refine (bindS (R1 := rO (gm X L)) k .refl .refl p).mono fun v H1 ⟨o, S1, r1, k1, x1, q1, p⟩ => ?_
  exact p σ H1 S1 x1 k1 .refl
theorem s_rtn (A : AmbS gl N L C sc X W) {e : Expr} : PS X (.Return (some e) pos) (tS X L W (fun j => j ∈ fx) (exec C fx (.rtn (trE gl N sc e)))) := by
  refine (ps_ret (okE e sc X W A.amb).1.v).of fun E σ H ⟨S, r, k, p⟩ => ?_
  refine (bindS (R1 := rO (gm X L)) k .refl .refl p).mono fun v H1 ⟨o, S1, r1, k1, x1, q1, p⟩ => ?_
  exact p σ H1 S1 v x1 k1 .refl q1
theorem s_rtn0 : PS X (.Return none pos) (tS X L W (fun j => j ∈ fx) (exec C fx (.rtn (.cst .non)))) :=
  ps_retN.of fun E σ H ⟨S, r, k, p⟩ => p σ H S .non .refl k .refl rfl
theorem s_if (A : AmbS gl N L C sc X W) {c : Expr} {a b : List Stmt} {xa xb : List Sx} (ha : PSs X a (tS X L W (fun j => j ∈ fx) (execs C fx xa))) (hb : PSs X b (tS X L W (fun j => j ∈ fx) (execs C fx xb))) :
    PS X (.If c a b pos) (tS X L W (fun j => j ∈ fx) (exec C fx (.ife (trE gl N sc c) xa xb))) := by
  refine (ps_if (okE c sc X W A.amb).1.t ha hb).of fun E σ H ⟨S, r, k, p⟩ => ?_
  refine (bindS (R1 := rB) k .refl .refl p).mono fun c H1 ⟨c', S1, r1, k1, x1, q1, p⟩ => ?_
  have q1 : c = c' := q1
  subst q1
  cases c with
  | true => exact ⟨S1, r1, k1, p.shift x1 .refl⟩
  | false => exact ⟨S1, r1, k1, p.shift x1 .refl⟩
theorem s_while (A : AmbS gl N L C sc X W) {c : Expr} {b : List Stmt} {xb : List Sx} (hb : PSs X b (tS X L W (fun j => j ∈ fx) (execs C fx xb))) :
    PS X (.While c b [] pos) (tS X L W (fun j => j ∈ fx) (exec C fx (.whl (trE gl N sc c) xb))) := by
  refine (ps_while A.own (okE c sc X W A.amb).1.t hb).of fun E σ H ⟨S, r, k, p⟩ => ?_
  refine ⟨fun m σ H => ∃ S r, Ok (gm X L) S r σ H ∧ PostS (gm X L) W (fun j => j ∈ fx) S r σ H E (whlN (ev C (trE gl N sc c)).t (execs C fx xb) m r), ⟨turns, S, r, k, p⟩, ?_⟩
  rintro m σ H ⟨S, r, k, p⟩
  cases m with
  | zero => exact p.elim
  | succ m =>
    refine (bindS (R1 := rB) k .refl .refl p).mono fun c H1 ⟨c', S1, r1, k1, x1, q1, p⟩ => ?_
    have q1 : c = c' := q1
    subst q1
    cases c with
    | false => exact p σ H1 S1 x1 k1 .refl
    | true =>
      refine ⟨fun σ' H' => ∃ S r, Ok (gm X L) S r σ' H' ∧ PostS (gm X L) W (fun j => j ∈ fx) S r σ' H' E (whlN (ev C (trE gl N sc c)).t (execs C fx xb) m r), fun σ' H' h => ⟨m, Nat.lt_succ_self _, h⟩, S1, r1, k1, ?_⟩
      have p := p.shift (P := fun j => j ∈ fx) x1 .refl
      simp only [if_true, bnd] at p
      cases e : execs C fx xb r1 with
      | bad => rw [e] at p; exact p
      | err z r2 => rw [e] at p; exact p
      | ok f r2 =>
        rw [e] at p
        cases f with
        | nx => exact fun t' H' S' y k' g => ⟨S', r2, k', PostS.shift y g p⟩
        | ct => exact fun t' H' S' y k' g => ⟨S', r2, k', PostS.shift y g p⟩
        | br => exact p
        | rt o => exact p
theorem s_for (A : AmbS gl N L C sc X W) {t it : Expr} {b : List Stmt} {xb : List Sx} (hns : notSet it = true) (ht : isTup t = true ∨ plainIt (trE gl N sc it) = true) (hb : PSs X b (tS X L W (fun j => j ∈ fx) (execs C fx xb))) :
    PS X (.For t it b [] pos) (tS X L W (fun j => j ∈ fx) (exec C fx (.forr (trT gl N (defTn sc) sc t) (trE gl N sc it) xb))) := by
  have hg : PG X t (tG X L W C (fun j => j ∈ fx) fx (trT gl N (defTn sc) sc t)) := okT A.amb A.tn (sizeOf t) (fun e _ => okE e) t (Nat.le_refl _)
  refine (ps_for A.own A.amb.good.calm ((okE it sc X W A.amb).2 t ht) hg hb (notSet_of hns)).of fun E σ H ⟨S, r, k, p⟩ => ?_
  refine (bindS (R1 := rOs (gm X L)) k .refl .refl p).mono fun vs H1 ⟨os, S1, r1, k1, x1, q1, p⟩ => ?_
  obtain ⟨ds, hv, hd, p⟩ := datsS k1 q1 p
  obtain ⟨items, e1, p⟩ := optS p
  refine it_rule hv e1 fun J ks hks wk => ?_
  have p := unlockS k1 (PostS.shift (P := fun j => j ∈ fx) x1 .refl p)
  obtain ⟨kL, l1, l2, l3, l4⟩ := lock_ok (os := os) k1
  have hks' : ∀ a ∈ ks, ¬ OwAt (lock os r1) σ a := fun a ha => src_not k1 q1 hd (hks a ha)
  generalize hrL : lock os r1 = rL at *
  generalize htu : (fun x => setTg C fx (trT gl N (defTn sc) sc t) (.val x)) = turn at p
  generalize hbo : execs C fx xb = body at p hb
  let In : Nat → L2.St → Hp → Prop := fun i σ' H' => ∃ S' r', Ok (gm X L) S' r' σ' H' ∧ Ext S1 rL σ H1 S' r' σ' H' ∧ Fix (fun j => j ∈ fx) σ σ' ∧ PostS (gm X L) W (fun j => j ∈ fx) S1 rL σ H1 E (forN turn body (items.drop i) r')
  refine ⟨fun i m σ' H' => i + m = items.length ∧ In i σ' H', ⟨items.length, Nat.zero_add _, S1, rL, kL, .refl, .refl, p⟩, ?_⟩
  rintro i m σ2 H2 ⟨hm, S2, r2, k2, x2, f2, p2⟩
  have c1 : ∀ a o, S1 a → H1 a = some o → H2 a = some o := fun a o hs e => x2.keep a o e (kL.notOw hs)
  have c2 : ∀ a o, a ∈ ks → H1 a = some o → H2 a = some o := fun a o ha e => x2.keep a o e (hks' a ha)
  by_cases hlt : i < items.length
  · obtain ⟨w1, w2⟩ := wk.go i S2 H2 items[i] x2.up c1 c2 (List.getElem?_eq_getElem hlt)
    rw [List.drop_eq_getElem_cons hlt] at p2
    generalize items[i] = item at *
    refine .inr ⟨w1, In (i + 1), fun σ' H' n => ⟨m - 1, by omega, by omega, n⟩, fun x H3 y => ?_⟩
    obtain ⟨S3, g1, g2, g3, g4, rp⟩ := w2 x H3 y
    obtain ⟨k3, x3⟩ := k2.grow g1 g2 g3 g4
    have p2 : PostS (gm X L) W (fun j => j ∈ fx) S1 rL σ H1 E (bnd (turn item) (fun _ => bnd body fun f => match f with
      | .br => ret .nx
      | .rt o => ret (.rt o)
      | _ => forN turn body (items.drop (i + 1))) r2) := p2
    have q := storeS f2 k3 (x2.trans x3) p2
    have hti : turn item = setTg C fx (trT gl N (defTn sc) sc t) (.val item) := by rw [← htu]
    rw [hti] at q
    refine ⟨S3, r2, S1, rL, σ, H1, .val item, H3, k3, x2.trans x3, f2, dom_none (x2.trans x3), rp, ?_⟩
    cases eT : setTg C fx (trT gl N (defTn sc) sc t) (.val item) r2 with
    | bad => rw [eT] at q; exact q
    | err _ _ => rw [eT] at q; exact q
    | ok u r3 =>
      rw [eT] at q
      intro σ4 H4 S4 x4 k4 f4
      obtain ⟨S5, r5, k5, x5, f5, p5⟩ := q σ4 H4 S4 x4 k4 f4
      refine ⟨S5, r5, k5, ?_⟩
      simp only [bnd] at p5
      cases e : body r5 with
      | bad => rw [e] at p5; exact p5
      | err z r6 => rw [e] at p5; exact PostS.shift x5 f5 p5
      | ok f r6 =>
        rw [e] at p5
        cases f with
        | nx => exact fun t' H' S' y k' g => ⟨S', r6, k', x5.trans y, f5.trans g, p5⟩
        | ct => exact fun t' H' S' y k' g => ⟨S', r6, k', x5.trans y, f5.trans g, p5⟩
        | br => exact PostS.shift (P := fun j => j ∈ fx) (E := E) (res := .ok .nx r6) x5 f5 p5
        | rt o => exact PostS.shift (P := fun j => j ∈ fx) (E := E) (res := .ok (.rt o) r6) x5 f5 p5
  · have hi' : items.length ≤ i := Nat.le_of_not_lt hlt
    rw [List.drop_eq_nil_of_le hi'] at p2
    exact .inl ⟨wk.stop i H2 c1 c2 hi', p2 σ2 H2 S2 x2 k2 f2⟩
end
end VI

end
section
/-! VI22: assignments; all statements. -/
namespace VI
open PySem L2
section
variable {gl : Str → Option Gl1} {N : List Str} {L : Lk} {C : Orc} {sc : Scope} {X : Cx} {W : WX} {fx : List Nat} {pos : Pos}
theorem trE_comp {elt : Expr} {gs : List Comprehension} {scope : Scope} {pos : Pos} : trE gl N sc (.ListComp elt gs scope pos) = .bad ∨ ∃ tg it ifs, gs = [⟨tg, it, ifs, 0⟩] ∧ blkC N sc scope (ownOf N scope) = true ∧ ifs.length ≤ 1 ∧ notSet it = true ∧ (isTup tg = true ∨ plainIt (trE gl N sc it) = true) ∧
    trE gl N sc (.ListComp elt gs scope pos) = .comp (trE gl N (relS scope sc) elt) (trT gl N (ownTn scope (ownOf N scope)) (relS scope sc) tg) (trE gl N sc it) (trEs gl N (relS scope sc) ifs) ((ownOf N scope).map (·.2)) := by
  match gs with
  | [] => left; unfold trE; rfl
  | ⟨_, _, _, _⟩ :: _ :: _ => left; unfold trE; rfl
  | [⟨tg, it, ifs, asy⟩] =>
    by_cases hc : (decide (asy = 0) && blkC N sc scope (ownOf N scope) && decide (ifs.length ≤ 1) && notSet it && (isTup tg || plainIt (trE gl N sc it))) = true
    · right
      have hc' := hc
      simp only [Bool.and_eq_true, decide_eq_true_eq, Bool.or_eq_true] at hc'
      obtain ⟨⟨⟨⟨hz, hb⟩, hl⟩, hns⟩, ht⟩ := hc'
      subst hz
      refine ⟨tg, it, ifs, rfl, hb, hl, hns, ht, ?_⟩
      conv => lhs; unfold trE
      rw [if_pos hc]
    · left
      conv => lhs; unfold trE
      rw [if_neg hc]
theorem kind_block {env : Env} (hk : env.scope.kind = .function) : env.blockKind = .function := by
  unfold Env.blockKind
  rw [hk]
  rfl
/-- the store behind a value -/
theorem asg_rd {e : Expr} {t : Tg} {ex : Ex} : ∀ E σ H, tS X L W (fun j => j ∈ fx) (exec C fx (.asg t ex)) E σ H → tM (gm X L) W (rO (gm X L)) (ev C ex).v σ H fun x H1 => tG X L W C (fun j => j ∈ fx) fx t x σ H1 E.nx := fun E σ H ⟨S, r, k, p⟩ => by
  refine (bindS (R1 := rO (gm X L)) k .refl .refl p).mono fun v H1 ⟨o, S1, r1, k1, x1, q1, p⟩ => ?_
  refine ⟨S1, r1, S, r, σ, H, o, H, k1, x1, .refl, fun _ h => h, q1, ?_⟩
  simp only [bnd] at p
  cases e : setTg C fx t o r1 with
  | ok a r2 => rw [e] at p; exact p
  | err z r2 => rw [e] at p; exact p
  | bad => rw [e] at p; exact p
theorem s_asg (A : AmbS gl N L C sc X W) {t e : Expr} (hs : simpleT N sc t = true) (h1 : notComp e = true ∨ isName t = true) (h2 : isTup t = false ∨ isTup e = false) :
    PS X (.Assign [t] e pos) (tS X L W (fun j => j ∈ fx) (exec C fx (.asg (trT gl N (defTn sc) sc t) (trE gl N sc e)))) := by
  have hg : PG X t (tG X L W C (fun j => j ∈ fx) fx (trT gl N (defTn sc) sc t)) := okT A.amb A.tn (sizeOf t) (fun e _ => okE e) t (Nat.le_refl _)
  have hw : swappedStores [t] e X.env = pure none := by
    cases t <;> first | (cases hs; done) | (cases e <;> first | rfl | (rcases h2 with h2 | h2 <;> cases h2))
  have ha : (assignEach [t] X.env).map (·.2) = [assign t X.env] := by
    cases t <;> first | rfl | cases hs
  have gen : swapsWithSole [t] e pos.line X.env = pure false → PS X (.Assign [t] e pos) (tS X L W (fun j => j ∈ fx) (exec C fx (.asg (trT gl N (defTn sc) sc t) (trE gl N sc e)))) := fun hsw =>
    (ps_asg (okE e sc X W A.amb).1.v hg hsw hw ha).of fun E σ H h => asg_rd (e := e) E σ H h
  by_cases hc : notComp e = true
  · exact gen (by cases e <;> first | rfl | cases hc)
  · have hn := h1.resolve_left hc
    cases t with
    | Name y py =>
      cases e with
      | ListComp elt gs scope cpos =>
        rcases trE_comp (gl := gl) (N := N) (sc := sc) (elt := elt) (gs := gs) (scope := scope) (pos := cpos) with hb | ⟨tg, it, ifs, rfl, hb, hl, hns, htt, heq⟩
        · rw [hb]
          exact ⟨fun pins s σ H E I ⟨_, _, _, p⟩ => p.elim⟩
        · cases hsw : (X.env.blockKind == .function && X.env.kindOf y == some .local && py.line == cpos.line && !(scope.names.any fun (n, k) => n == y && (k == .local || k == .cell))) with
          | false => exact gen (by
              unfold swapsWithSole swapsWith
              show (pure (X.env.blockKind == .function && X.env.kindOf y == some .local && py.line == cpos.line && !(scope.names.any fun (n, k) => n == y && (k == .local || k == .cell))) : Sem Bool) = _
              rw [hsw])
          | true =>
            rw [Bool.and_eq_true, Bool.and_eq_true, Bool.and_eq_true] at hsw
            obtain ⟨⟨⟨b1, b2⟩, b3⟩, b4⟩ := hsw
            have hyl : X.env.scope.names.lookup y = some .local := by
              have : X.env.kindOf y = some .local := by simpa using b2
              exact this
            obtain ⟨ok, hi, hg', hts, hel⟩ := okCompR A.amb (elt := elt) (tg := tg) (it := it) (ifs := ifs) (scope := scope) (fun e' _ => okE e') hb hl htt
            rw [heq]
            obtain ⟨i, hi2, hgn⟩ : ∃ i, X.N[i]? = some y ∧ trT gl N (defTn sc) sc (.Name y py) = .loc i := by
              unfold simpleT at hs
              rw [Bool.and_eq_true] at hs
              unfold trT
              cases hsl : slotOf N y with
              | none => rw [hsl] at hs; cases hs.2
              | some i =>
                refine ⟨i, by rw [A.amb.hN]; exact slotOf_get hsl, ?_⟩
                dsimp only
                rw [if_pos (show defTn sc y i = true from hs.1)]
            · rw [hgn]
              refine (ps_setLc A.amb.good.calm A.amb.good.nd hi2 hyl (sw_true A.kind hyl b3 (by simpa using b4)) hi ok hg' hts hel (notSet_of hns)).of fun E σ H h => ?_
              have z := asg_rd (e := elt) E σ H h
              refine s_comp A.amb.good.calm A.amb.good.nd ok hi hg' hts hel (notSet_of hns) ?_
              refine z.mono fun v H1 g => ?_
              obtain ⟨S, r, S0, r0, t0, H0, o, Hm, k, x, fi, hm, ho, p⟩ := g
              exact setLoc_ok (fun j hj => .inl hj) k x fi hm ho p
      | _ => first | (cases hc rfl; done) | exact ⟨fun pins s σ H E I ⟨_, _, _, p⟩ => by unfold trE at p; exact p.elim⟩
    | _ => cases hn
end
end VI

end
section
/-! VI23: names set side by side; all statements. -/
namespace VI
open PySem L2
section
variable {gl : Str → Option Gl1} {N : List Str} {L : Lk} {C : Orc} {sc : Scope} {X : Cx} {W : WX} {fx : List Nat} {pos : Pos}
theorem noStar_f {es : List Expr} (h : noStar es = true) : (es.any fun e => !notStar e) = false := by
  induction es with
  | nil => rfl
  | cons e es ih =>
    obtain ⟨h1, h2⟩ := noStar_cons h
    rw [List.any_cons, ih h2, h1]
    rfl
/-- the model's names -/
def nmF (sc : Scope) (line : Nat) : Expr → Option Str
  | .Name id pos => if sc.names.lookup id == some .local && pos.line == line then some id else none
  | _ => none
def lineOf (ts : List Expr) : Nat := (ts.head?.map (·.pos.line)).getD 0
def star1 : Expr → Bool
  | .Starred .. => true
  | _ => false
theorem star1_not {es : List Expr} (h : noStar es = true) : es.any star1 = false := by
  induction es with
  | nil => rfl
  | cons e es ih =>
    obtain ⟨h1, h2⟩ := noStar_cons h
    rw [List.any_cons, ih h2]
    cases e <;> first | rfl | cases h1
theorem sw_model {ts es : List Expr} {k k2 : Nat} {p p2 : Pos} {env : Env} : swappedStores [.Tuple ts k p] (.Tuple es k2 p2) env =
    (if (!(ts.length == 2 || ts.length == 3) || es.length != ts.length || env.blockKind != .function) = true then pure none else if es.any star1 = true then pure none
     else if ((ts.filterMap (nmF env.scope (lineOf ts))).length != ts.length || (ts.filterMap (nmF env.scope (lineOf ts))).eraseDups.length != (ts.filterMap (nmF env.scope (lineOf ts))).length) = true then pure none
     else if es.all (foldedForSure 8) = true then pure none else if es.all (constantsAlone 8) = true then (do let _ ← (unsupported "assign.tuple-of-constant-expressions:order-of-the-stores" : Sem Unit); pure (some (ts.filterMap (nmF env.scope (lineOf ts))))) else pure (some (ts.filterMap (nmF env.scope (lineOf ts))))) := by
  rfl
theorem swapK_eq {ts es : List Expr} {sc : Scope} : swapK sc ts es = (if (!(ts.length == 2 || ts.length == 3)) = true then 0
     else if ((ts.filterMap (nmF sc (lineOf ts))).length != ts.length || (ts.filterMap (nmF sc (lineOf ts))).eraseDups.length != (ts.filterMap (nmF sc (lineOf ts))).length) = true then 0
     else if es.all (foldedForSure 8) = true then 0 else if es.all (constantsAlone 8) = true then 2 else 1) := by
  rfl
theorem sw_eq {ts es : List Expr} {k k2 : Nat} {p p2 : Pos} (hk : X.env.scope.kind = .function) (hs : noStar es = true) (hl : ts.length = es.length) (h2 : swapK X.env.scope ts es ≠ 2) :
    swappedStores [.Tuple ts k p] (.Tuple es k2 p2) X.env = (if swapK X.env.scope ts es = 0 then pure none else pure (some (ts.filterMap (nmF X.env.scope (lineOf ts))))) := by
  rw [sw_model]
  rw [swapK_eq] at h2 ⊢
  rw [kind_block hk, star1_not hs, hl]
  by_cases c1 : (!(ts.length == 2 || ts.length == 3)) = true
  · rw [hl] at c1
    simp [c1]
  · rw [hl] at c1 h2
    simp only [c1, bne_self_eq_false, Bool.or_false, if_false, Bool.false_eq_true] at h2 ⊢
    by_cases c3 : ((ts.filterMap (nmF X.env.scope (lineOf ts))).length != es.length || (ts.filterMap (nmF X.env.scope (lineOf ts))).eraseDups.length != (ts.filterMap (nmF X.env.scope (lineOf ts))).length) = true
    · simp only [c3, if_true]
    · simp only [c3, if_false, Bool.false_eq_true] at h2 ⊢
      by_cases c4 : es.all (foldedForSure 8) = true
      · simp only [c4, if_true]
      · simp only [c4, if_false, Bool.false_eq_true] at h2 ⊢
        by_cases c5 : es.all (constantsAlone 8) = true
        · simp [c5] at h2
        · simp [c5]
/-- names that take values -/
def gNames (is : List Nat) : TGs := fun vs σ H Q => vs.length = is.length ∧ Q (setAll σ is vs) H
theorem namesOf_loc {ts : List Expr} {is : List Nat} (h : namesOf N sc ts = some is) : noStar ts = true ∧ ts.length = is.length := by
  induction ts generalizing is with
  | nil => cases h; exact ⟨rfl, rfl⟩
  | cons t ts ih =>
    cases t with
    | Name x p =>
      unfold namesOf at h
      split at h
      · cases e : slotOf N x with
        | none => rw [e] at h; cases h
        | some i =>
          cases e2 : namesOf N sc ts with
          | none => rw [e, e2] at h; cases h
          | some js =>
            rw [e, e2] at h
            cases h
            obtain ⟨h1, h2⟩ := ih e2
            exact ⟨by unfold noStar at h1 ⊢; rw [List.all_cons, h1]; rfl, by simp [h2]⟩
      · cases h
    | _ => cases h
theorem pgs_names (A : AmbS gl N L C sc X W) : ∀ {ts : List Expr} {is : List Nat}, namesOf N sc ts = some is → PGs X ts (gNames is)
  | [], is, h => by
    cases h
    exact pgs_nil.of fun vs σ H Q ⟨l, q⟩ => by
      cases vs with
      | nil => exact ⟨rfl, q⟩
      | cons _ _ => simp at l
  | t :: ts, is, h => by
    cases t with
    | Name x p =>
      unfold namesOf at h
      split at h
      · rename_i hlo
        cases e : slotOf N x with
        | none => rw [e] at h; cases h
        | some i =>
          cases e2 : namesOf N sc ts with
          | none => rw [e, e2] at h; cases h
          | some js =>
            rw [e, e2] at h
            cases h
            obtain ⟨t1, t2, _⟩ := (A.tn (fx := [])).ok x i hlo e
            refine (pgs_cons (pg_name A.amb.good.nd (by rw [A.amb.hN]; exact slotOf_get e) t1 t2) (pgs_names A e2) rfl).of fun vs σ H Q ⟨l, q⟩ => ?_
            cases vs with
            | nil => simp at l
            | cons v vs => exact ⟨v, vs, rfl, by simpa using l, q⟩
      · cases h
    | _ => cases h
theorem par_rd (A : AmbS gl N L C sc X W) {is : List Nat} {xs : List Ex} {K : List V → Hp → Prop} : ∀ E σ H, tS X L W (fun j => j ∈ fx) (exec C fx (.par is xs)) E σ H →
    (∀ vs H1, (∀ H2, (∃ p, H1 p = none ∧ H2 = upd H1 p (.tup vs)) ∨ H2 = H1 → vs.length = is.length ∧ E.nx (setAll σ is vs) H2) → K vs H1) → tM (gm X L) W (rON (gm X L)) (evs C xs) σ H K := fun E σ H ⟨S, r, k, p⟩ hK => by
  refine (bindS (R1 := rON (gm X L)) k .refl .refl p).mono fun vs H1 ⟨os, S1, r1, k1, x1, ⟨q1, n1⟩, p⟩ => hK vs H1 fun H2 h2 => ?_
  have fin : ∀ (H2 : Hp), Ok (gm X L) S1 r1 σ H2 → Ext S1 r1 σ H1 S1 r1 σ H2 → vs.length = is.length ∧ E.nx (setAll σ is vs) H2 := fun H2 k2 x2 => by
    have q := storeS (P := fun j => j ∈ fx) .refl k2 (x1.trans x2) p
    obtain ⟨l, S3, r3, k3, x3, f3, p3⟩ := par_ok (P := fun j => j ∈ fx) (fun i _ j hj => .inl hj) k2 (x1.trans x2) .refl (fun _ h => h) (q1.later k1 x2) n1 q
    exact ⟨l, p3 _ _ _ x3 k3 f3⟩
  rcases h2 with ⟨p, hp, rfl⟩ | rfl
  · exact fin _ (k1.lay0 hp) (.lay0 hp)
  · exact fin _ k1 .refl
theorem dups3 {x y z : Str} (h : ([x, y, z] : List Str).eraseDups.length = ([x, y, z] : List Str).length) : x ≠ y ∧ x ≠ z ∧ y ≠ z := by
  rw [List.eraseDups_cons] at h
  simp only [List.length_cons, List.length_nil] at h
  refine ⟨fun e => ?_, fun e => ?_, fun e => ?_⟩
  · subst e
    by_cases hz : z = x
    · subst hz; simp at h
    · simp [hz, List.eraseDups_cons] at h
  · subst e
    by_cases hz : y = x
    · subst hz; simp at h
    · simp [hz, List.eraseDups_cons] at h
  · subst e
    by_cases hz : y = x
    · subst hz; simp at h
    · simp [hz, List.eraseDups_cons] at h
theorem s_par (A : AmbS gl N L C sc X W) {ts es : List Expr} {k k2 : Nat} {p p2 : Pos} {is : List Nat} (hs : noStar es = true) (hl : ts.length = es.length) (h30 : es.length ≤ 30) (hn : namesOf N sc ts = some is) (h2 : swapK sc ts es ≠ 2) :
    PS X (.Assign [.Tuple ts k p] (.Tuple es k2 p2) pos) (tS X L W (fun j => j ∈ fx) (exec C fx (.par is (trEs gl N sc es)))) := by
  have ha := pa_nw A.amb (es := es) (fun e _ => okE e) hs
  obtain ⟨hst, hli⟩ := namesOf_loc hn
  have hsw := sw_eq (X := X) (k := k) (k2 := k2) (p := p) (p2 := p2) A.kind hs hl (by rw [A.amb.sc]; exact h2)
  rw [A.amb.sc] at hsw
  by_cases h0 : swapK sc ts es = 0
  · rw [if_pos h0] at hsw
    refine (ps_asg (pe_tup ha) (pg_tup A.amb.good.calm (pgs_names A hn) assignEach_len (assignEach_none hst)) rfl hsw rfl).of fun E σ H h => ?_
    refine par_rd A E σ H h fun vs H1 hv => ?_
    have hlen := (hv H1 (.inr rfl)).1
    refine ⟨Nat.le_trans (show vs.length ≤ 30 by omega) (by decide), fun q hq => ⟨q, vs, rfl, .of upd_same, by rw [hlen, hli], hv _ (.inl ⟨q, hq, rfl⟩)⟩⟩
  · rw [if_neg h0] at hsw
    rw [swapK_eq] at h0 h2
    have c1 : (!(ts.length == 2 || ts.length == 3)) = false := by
      cases c : (!(ts.length == 2 || ts.length == 3)) with
      | false => rfl
      | true => rw [c] at h0; simp at h0
    have c3 : ((ts.filterMap (nmF sc (lineOf ts))).length != ts.length || (ts.filterMap (nmF sc (lineOf ts))).eraseDups.length != (ts.filterMap (nmF sc (lineOf ts))).length) = false := by
      cases c : ((ts.filterMap (nmF sc (lineOf ts))).length != ts.length || (ts.filterMap (nmF sc (lineOf ts))).eraseDups.length != (ts.filterMap (nmF sc (lineOf ts))).length) with
      | false => rfl
      | true => rw [c1, c] at h0; simp at h0
    clear h0 h2
    rw [Bool.or_eq_false_iff, bne_eq_false_iff_eq, bne_eq_false_iff_eq] at c3
    obtain ⟨c3, c4⟩ := c3
    generalize lineOf ts = ln at *
    -- the names
    have one : ∀ (t : Expr) (ts' : List Expr) (js : List Nat), namesOf N sc (t :: ts') = some js → (∃ x px i js', t = .Name x px ∧ slotOf N x = some i ∧ js = i :: js' ∧ namesOf N sc ts' = some js' ∧ (nmF sc ln t = some x ∧ sc.names.lookup x = some .local ∨ nmF sc ln t = none)) := by
      intro t ts' js h
      cases t with
      | Name x px =>
        unfold namesOf at h
        split at h
        · cases e : slotOf N x with
          | none => rw [e] at h; cases h
          | some i =>
            cases e2 : namesOf N sc ts' with
            | none => rw [e, e2] at h; cases h
            | some js =>
              rw [e, e2] at h
              cases h
              refine ⟨x, px, i, js, rfl, e, rfl, rfl, ?_⟩
              show ((if (sc.names.lookup x == some .local && px.line == ln) = true then some x else none) = some x ∧ sc.names.lookup x = some .local) ∨ (if (sc.names.lookup x == some .local && px.line == ln) = true then some x else none) = none
              by_cases hc : (sc.names.lookup x == some .local && px.line == ln) = true
              · rw [if_pos hc]
                rw [Bool.and_eq_true] at hc
                exact .inl ⟨rfl, by simpa using hc.1⟩
              · rw [if_neg hc]
                exact .inr rfl
        · cases h
      | _ => cases h
    have fml : ∀ (l : List Expr), (l.filterMap (nmF sc ln)).length ≤ l.length := fun l => List.length_filterMap_le _ l
    have ap : ∀ {x y : Str} {i j : Nat}, slotOf N x = some i → slotOf N y = some j → x ≠ y → i ≠ j := fun hx hy hne hij => by
      subst hij
      have := (slotOf_get hx).symm.trans (slotOf_get hy)
      exact hne (Option.some.inj this)
    match ts, es, hl, hn, hsw, c1, c3, c4, ha with
    | [t1, t2], [a, b], _, hn, hsw, _, c3, c4, ha =>
      obtain ⟨x, px, i, js, rfl, hi, rfl, hn2, m1⟩ := one _ _ _ hn
      obtain ⟨y, py, j, js2, rfl, hj, rfl, hn3, m2⟩ := one _ _ _ hn2
      cases hn3
      have f2 := fml [.Name y py]
      rcases m1 with ⟨m1, l1⟩ | m1
      · rcases m2 with ⟨m2, l2⟩ | m2
        · simp only [List.filterMap_cons, List.filterMap_nil, m1, m2] at hsw c4
          have hne : x ≠ y := by
            intro e
            subst e
            simp [List.eraseDups_cons] at c4
          refine (ps_par A.amb.good.calm A.amb.good.nd (by rw [A.amb.hN]; exact slotOf_get hi) (by rw [A.amb.hN]; exact slotOf_get hj) (ap hi hj hne) (by rw [A.amb.sc]; exact l1) (by rw [A.amb.sc]; exact l2) ha hsw).of fun E σ H h => ?_
          refine par_rd A E σ H h fun vs H1 hv => ?_
          obtain ⟨hl, q⟩ := hv H1 (.inr rfl)
          match vs, hl, q with
          | [v, w], _, q => exact ⟨v, w, rfl, q⟩
        · simp only [List.filterMap_cons, List.filterMap_nil, m1, m2] at c3
          simp at c3
      · simp only [List.filterMap_cons, m1] at c3
        simp only [List.filterMap_cons, List.filterMap_nil, List.length_cons, List.length_nil] at c3 f2
        omega
    | [t1, t2, t3], [a, b, c], _, hn, hsw, _, c3, c4, ha =>
      obtain ⟨x, px, i, js, rfl, hi, rfl, hn2, m1⟩ := one _ _ _ hn
      obtain ⟨y, py, j, js2, rfl, hj, rfl, hn3, m2⟩ := one _ _ _ hn2
      obtain ⟨z, pz, l, js3, rfl, hl3, rfl, hn4, m3⟩ := one _ _ _ hn3
      cases hn4
      have f2 := fml [.Name y py, .Name z pz]
      have f3 := fml [.Name z pz]
      rcases m1 with ⟨m1, l1⟩ | m1
      · rcases m2 with ⟨m2, l2⟩ | m2
        · rcases m3 with ⟨m3, l3⟩ | m3
          · simp only [List.filterMap_cons, List.filterMap_nil, m1, m2, m3] at hsw c4
            obtain ⟨hxy, hxz, hyz⟩ := dups3 c4
            refine (ps_par3 A.amb.good.calm A.amb.good.nd (by rw [A.amb.hN]; exact slotOf_get hi) (by rw [A.amb.hN]; exact slotOf_get hj) (by rw [A.amb.hN]; exact slotOf_get hl3) (ap hi hj hxy) (ap hi hl3 hxz) (ap hj hl3 hyz) (by rw [A.amb.sc]; exact l1) (by rw [A.amb.sc]; exact l2) (by rw [A.amb.sc]; exact l3) ha hsw).of fun E σ H h => ?_
            refine par_rd A E σ H h fun vs H1 hv => ?_
            obtain ⟨hl, q⟩ := hv H1 (.inr rfl)
            match vs, hl, q with
            | [v, w, u], _, q => exact ⟨v, w, u, rfl, q⟩
          · simp only [List.filterMap_cons, List.filterMap_nil, m1, m2, m3] at c3
            simp at c3
        · simp only [List.filterMap_cons, m1, m2] at c3
          simp only [List.filterMap_cons, List.filterMap_nil, List.length_cons, List.length_nil] at c3 f3
          omega
      · simp only [List.filterMap_cons, m1] at c3
        simp only [List.filterMap_cons, List.filterMap_nil, List.length_cons, List.length_nil] at c3 f2
        omega
    | [], _, _, _, _, c1, _, _, _ => simp at c1
    | [_], _, _, _, _, c1, _, _, _ => simp at c1
    | _ :: _ :: _ :: _ :: _, _, _, _, _, c1, _, _, _ => simp at c1
end
end VI

end
section
/-! VI24: all statements. -/
namespace VI
open PySem L2
def OkS (gl : Str → Option Gl1) (N : List Str) (L : Lk) (C : Orc) (st : Stmt) : Prop := ∀ (sc : Scope) (X : Cx) (W : WX) (fx : List Nat), AmbS gl N L C sc X W → PS X st (tS X L W (fun j => j ∈ fx) (exec C fx (trS gl N sc st)))
section
variable {gl : Str → Option Gl1} {N : List Str} {L : Lk} {C : Orc} {sc : Scope} {X : Cx} {W : WX} {fx : List Nat} {pos : Pos}
theorem okSs (A : AmbS gl N L C sc X W) : ∀ {ss : List Stmt}, (∀ s ∈ ss, OkS gl N L C s) → PSs X ss (tS X L W (fun j => j ∈ fx) (execs C fx (trSs gl N sc ss)))
  | [], _ => by
    unfold trSs
    exact pss_nil.of fun E σ H ⟨S, r, k, p⟩ => p σ H S .refl k .refl
  | s :: ss, h => by
    unfold trSs
    refine (pss_cons (h s List.mem_cons_self sc X W fx A) (okSs A fun x hx => h x (List.mem_cons_of_mem _ hx))).of fun E σ H ⟨S, r, k, p⟩ => ?_
    refine ⟨S, r, k, ?_⟩
    have p : PostS (gm X L) W (fun j => j ∈ fx) S r σ H E (bnd (exec C fx (trS gl N sc s)) (fun f => match f with
      | .nx => execs C fx (trSs gl N sc ss)
      | f => ret f) r) := p
    simp only [bnd] at p
    cases e : exec C fx (trS gl N sc s) r with
    | bad => rw [e] at p; exact p
    | err z r2 => rw [e] at p; exact p
    | ok f r2 =>
      rw [e] at p
      cases f with
      | nx => exact fun t' H' S' y k' g => ⟨S', r2, k', PostS.shift y g p⟩
      | ct => exact p
      | br => exact p
      | rt o => exact p
theorem okS_all : ∀ (n : Nat) (s : Stmt), sizeOf s < n → OkS gl N L C s := by
  intro n
  induction n with
  | zero => intro e h; omega
  | succ n ih =>
    intro s hn sc X W fx A
    have hdec : ∀ ss : List Stmt, sizeOf ss < sizeOf s → ∀ s' ∈ ss, OkS gl N L C s' := fun ss h s' hs => ih s' (by have := List.sizeOf_lt_of_mem hs; omega)
    unfold trS
    split
    · exact ps_doc.of fun E σ H ⟨S, r, k, p⟩ => p σ H S .refl k .refl
    · split
      · rename_i h
        exact s_exp A h
      · exact ps_bad
    · split
      · rename_i h
        simp only [Bool.and_eq_true, decide_eq_true_eq] at h
        obtain ⟨⟨h1, h2⟩, h3⟩ := h
        split
        · rename_i is hi
          split
          · exact ps_bad
          · rename_i h4
            exact s_par A h1 h2 h3 hi h4
        · exact ps_bad
      · exact ps_bad
    · split
      · rename_i h
        simp only [Bool.and_eq_true, Bool.or_eq_true, Bool.not_eq_true'] at h
        exact s_asg A h.1.1 h.1.2 h.2
      · exact ps_bad
    · exact s_rtn A
    · exact s_rtn0
    · rename_i c a b pos
      exact s_if A (okSs A (hdec a (by simp; omega))) (okSs A (hdec b (by simp; omega)))
    · rename_i c b pos
      exact s_while A (okSs A (hdec b (by simp; omega)))
    · rename_i t it b pos
      split
      · rename_i h
        simp only [Bool.and_eq_true, Bool.or_eq_true] at h
        exact s_for A h.1 h.2 (okSs A (hdec b (by simp; omega)))
      · exact ps_bad
    · exact ps_pass.of fun E σ H ⟨S, r, k, p⟩ => p σ H S .refl k .refl
    · exact ps_break.of fun E σ H ⟨S, r, k, p⟩ => p σ H S .refl k .refl
    · exact ps_continue.of fun E σ H ⟨S, r, k, p⟩ => p σ H S .refl k .refl
    · exact ps_bad
theorem okBody (A : AmbS gl N L C sc X W) (ss : List Stmt) : PSs X ss (tS X L W (fun j => j ∈ fx) (execs C fx (trSs gl N sc ss))) := okSs A fun s _ => okS_all (sizeOf s + 1) s (Nat.lt_succ_self _)
end
end VI

end
section
/-! VI25: a def keeps the promise that the evaluator's run makes. -/
namespace VI
open PySem L2
theorem fixd_mem : ∀ {as : List Sl} {n i : Nat}, i ∈ fixd n as ↔ ∃ j s, i = n + j ∧ as[j]? = some s ∧ s.held = true
  | [], n, i => by simp [fixd]
  | a :: as, n, i => by
    unfold fixd
    have ih := @fixd_mem as (n + 1) i
    constructor
    · intro h
      split at h
      · rename_i ha
        rcases List.mem_cons.mp h with h | h
        · exact ⟨0, a, by omega, by simp, ha⟩
        · obtain ⟨j, s, e, h1, h2⟩ := ih.mp h
          exact ⟨j + 1, s, by omega, by simpa using h1, h2⟩
      · obtain ⟨j, s, e, h1, h2⟩ := ih.mp h
        exact ⟨j + 1, s, by omega, by simpa using h1, h2⟩
    · rintro ⟨j, s, e, h1, h2⟩
      cases j with
      | zero =>
        simp at h1
        subst h1
        rw [if_pos h2]
        simp [e]
      | succ j =>
        have : i ∈ fixd (n + 1) as := ih.mpr ⟨j, s, by omega, by simpa using h1, h2⟩
        split
        · exact List.mem_cons_of_mem _ this
        · exact this
theorem outs_spec : ∀ {as : List Sl} {r : Rho}, (outs as r).length = as.length ∧ ∀ (i : Nat) (s : Sl), (outs as r)[i]? = some s → s = .un ∨ ((∃ a, as[i]? = some a ∧ a.held = true) ∧ r[i]? = some s)
  | [], r => ⟨rfl, fun i s h => by simp [outs] at h⟩
  | a :: as, [] => by
    obtain ⟨l, g⟩ := outs_spec (as := as) (r := [])
    refine ⟨by simp [outs, l], fun i s h => ?_⟩
    cases i with
    | zero => simp [outs] at h; exact .inl h.symm
    | succ i => rcases g i s (by simpa [outs] using h) with z | ⟨_, z⟩
                · exact .inl z
                · simp at z
  | a :: as, b :: r => by
    obtain ⟨l, g⟩ := outs_spec (as := as) (r := r)
    refine ⟨by simp [outs, l], fun i s h => ?_⟩
    cases i with
    | zero =>
      simp [outs] at h
      by_cases ha : a.held = true
      · rw [if_pos ha] at h
        exact .inr ⟨⟨a, by simp, ha⟩, by simp [h]⟩
      · rw [if_neg ha] at h
        exact .inl h.symm
    | succ i =>
      rcases g i s (by simpa [outs] using h) with z | ⟨⟨a', z1, z2⟩, z⟩
      · exact .inl z
      · exact .inr ⟨⟨a', by simpa using z1, z2⟩, by simpa using z⟩
section
variable {G : Ctx} {S S' : Addr → Prop} {as : List Sl} {vs : List V} {r' : Rho} {t' : L2.St} {H H' : Hp} {m : Nat}
theorem app_get {m : Nat} {i : Nat} {s : Sl} (h : (as ++ List.replicate m .un)[i]? = some s) : as[i]? = some s ∨ s = .un := by
  by_cases hi : i < as.length
  · rw [List.getElem?_append_left hi] at h; exact .inl h
  · rw [List.getElem?_append_right (by omega)] at h
    rw [List.getElem?_replicate] at h
    split at h
    · cases h; exact .inr rfl
    · cases h
theorem appV_get {i : Nat} {s : Sl} (hl : as.length = vs.length) (h : as[i]? = some s) : (vs.map some ++ List.replicate m none)[i]? = (vs.map some)[i]? := by
  have hi := (List.getElem?_eq_some_iff.mp h).1
  rw [List.getElem?_append_left (by simpa [← hl] using hi)]
/-- the frame at a def's entry -/
theorem Ok.entry (k : Ok G S as (vs.map some) H) : Ok G S (as ++ List.replicate m .un) (vs.map some ++ List.replicate m none) H := by
  have hl : as.length = vs.length := by have := k.len; simpa using this
  refine ⟨by simp [hl], fun i s v e1 e2 => ?_, fun i j s s' a e1 e2 h1 h2 e3 e4 => ?_, k.dom⟩
  · rcases app_get e1 with z | z
    · rw [appV_get hl z] at e2
      exact k.sl i s v z e2
    · subst z; trivial
  · rcases app_get e1 with z | z
    · rcases app_get e2 with y | y
      · rw [appV_get hl z] at e3
        rw [appV_get hl y] at e4
        exact k.apart i j s s' a z y h1 h2 e3 e4
      · subst y; cases h2
    · subst z; cases h1
theorem ow_entry (hl : as.length = vs.length) {a : Addr} (h : OwAt (as ++ List.replicate m .un) (vs.map some ++ List.replicate m none) a) : OwAt as (vs.map some) a := by
  obtain ⟨i, d, e1, e2⟩ := h
  rcases app_get e1 with z | z
  · rw [appV_get hl z] at e2
    exact ⟨i, d, z, e2⟩
  · cases z
/-- .. and at its end -/
theorem exit_ok (k : Ok G S as (vs.map some) H) (x : Ext S (as ++ List.replicate m .un) (vs.map some ++ List.replicate m none) H S' r' t' H') (k' : Ok G S' r' t' H') (f : Fix (fun j => j ∈ fixd 0 as) (vs.map some ++ List.replicate m none) t') :
    Ok G S' (outs as r') (vs.map some) H' ∧ Ext S as (vs.map some) H S' (outs as r') (vs.map some) H' ∧ ∀ a, HeldAt (outs as r') (vs.map some) a → ∃ (i : Nat) (s : Sl), (∃ z, as[i]? = some z ∧ z.held = true) ∧ r'[i]? = some s ∧ s.held = true ∧ t'[i]? = some (some (.ref a)) := by
  have hl : as.length = vs.length := by have := k.len; simpa using this
  obtain ⟨lo, go⟩ := outs_spec (as := as) (r := r')
  have at' : ∀ (i : Nat) (z : Sl), as[i]? = some z → z.held = true → t'[i]? = (vs.map some)[i]? := fun i z e h => by
    rw [f.2 i (fixd_mem.mpr ⟨i, z, by omega, e, h⟩), appV_get hl e]
  have held : ∀ (i : Nat) (s : Sl), (outs as r')[i]? = some s → s.held = true → (∃ z, as[i]? = some z ∧ z.held = true) ∧ r'[i]? = some s ∧ t'[i]? = (vs.map some)[i]? := fun i s e h => by
    rcases go i s e with z | ⟨⟨z, z1, z2⟩, z3⟩
    · subst z; cases h
    · exact ⟨⟨z, z1, z2⟩, z3, at' i z z1 z2⟩
  refine ⟨⟨by rw [lo, hl]; simp, fun i s v e1 e2 => ?_, fun i j s s' a e1 e2 h1 h2 e3 e4 => ?_, k'.dom⟩, ⟨x.up, fun a h => ?_, fun a o h n => x.keep a o h fun z => n (ow_entry hl z), fun a h => ?_, fun i s a e1 h e2 => ?_, fun i d h => ?_, x.dom⟩, fun a ⟨i, s, e1, h, e2⟩ => ?_⟩
  · rcases go i s e1 with z | ⟨⟨z, z1, z2⟩, z3⟩
    · subst z; trivial
    · rw [← at' i z z1 z2] at e2
      exact k'.sl i s v z3 e2
  · obtain ⟨_, f1, f2⟩ := held i s e1 h1
    obtain ⟨_, f3, f4⟩ := held j s' e2 h2
    exact k'.apart i j s s' a f1 f3 h1 h2 (f2.trans e3) (f4.trans e4)
  · rcases x.down a h with h | h | h
    · exact .inl h
    · exact .inr (.inl (ow_entry hl h))
    · exact .inr (.inr h)
  · obtain ⟨i, d, e1, e2⟩ := h
    obtain ⟨_, f1, f2⟩ := held i _ e1 rfl
    rcases x.own a ⟨i, d, f1, f2.trans e2⟩ with z | z
    · exact .inl (ow_entry hl z)
    · exact .inr z
  · obtain ⟨_, f1, f2⟩ := held i s e1 h
    rcases x.hldI i s a f1 h (f2.trans e2) with ⟨s0, z1, z2, z3⟩ | z
    · rcases app_get z1 with y | y
      · rw [appV_get hl y] at z3
        exact .inl ⟨s0, y, z2, z3⟩
      · subst y; cases z2
    · exact .inr z
  · rcases go i _ h with z | ⟨_, z3⟩
    · cases z
    · obtain ⟨z1, z2⟩ := x.lks i d z3
      rcases app_get z1 with y | y
      · exact ⟨y, rfl⟩
      · cases y
  · obtain ⟨f0, f1, f2⟩ := held i s e1 h
    exact ⟨i, s, f0, f1, h, f2.trans e2⟩
/-- a def's promise from its body's -/
theorem end_ok {Q : VK} {E : XK} {res : Res Fl} (k : Ok G S as (vs.map some) H) (p : PostC G S as vs H Q E (endR as res)) :
    PostS G (fun cls d _ H => E cls d H) (fun j => j ∈ fixd 0 as) S (as ++ List.replicate m .un) (vs.map some ++ List.replicate m none) H { nx := fun _ H' => Q .non H', rt := Q } res := by
  have hl : as.length = vs.length := by have := k.len; simpa using this
  cases res with
  | bad => exact p
  | err x r' =>
    exact fun cls d t' H' S' y k' g q => let z := exit_ok k y k' g; p cls d H' S' z.2.1 z.1 q
  | ok f r' =>
    cases f with
    | br => exact p.elim
    | ct => exact p.elim
    | nx =>
      intro t' H' S' y k' g
      obtain ⟨z1, z2, _⟩ := exit_ok k y k' g
      exact p .non H' S' z2 z1 rfl
    | rt o =>
      intro t' H' S' v y k' g q
      obtain ⟨z1, z2, z3⟩ := exit_ok k y k' g
      cases o with
      | val d => exact p v H' S' z2 z1 q
      | new d =>
        obtain ⟨a, ea, h0, n, hn, tp⟩ := q
        refine p v H' S' z2 z1 ⟨a, ea, h0, n, fun z => ?_, tp⟩
        obtain ⟨i, s, _, f1, f2, f3⟩ := z3 a z
        exact hn ⟨i, s, f1, f2, f3⟩
      | bor i =>
        have q : t'[i]? = some (some v) := q
        simp only [endR] at p
        cases e : r'[i]? with
        | none => rw [e] at p; exact p.elim
        | some s =>
          rw [e] at p
          have w := k'.sl i s _ e q
          cases s with
          | un => exact p.elim
          | lk d => exact p.elim
          | sh d =>
            obtain ⟨u, eu, w⟩ := w
            cases eu
            exact p v H' S' z2 z1 w
          | ow d =>
            obtain ⟨a, eu, nS, tp⟩ := w
            cases eu
            dsimp only at p
            split at p
            · obtain ⟨k2, x2, rp⟩ := k'.share e q
              obtain ⟨y1, y2, _⟩ := exit_ok k (y.trans x2) k2 g
              exact p _ H' _ y2 y1 rp
            · rename_i hni
              refine p _ H' S' z2 z1 ⟨a, rfl, ?_, nS, fun z => ?_, tp⟩
              · rcases y.hldI i _ a e rfl q with ⟨s0, w1, w2, w3⟩ | w
                · rcases app_get w1 with u | u
                  · exact absurd (fixd_mem.mpr ⟨i, s0, by omega, u, w2⟩) hni
                  · subst u; cases w2
                · exact w
              · obtain ⟨j, s, ⟨s0, f0, fh⟩, f1, f2, f3⟩ := z3 a z
                have eij := k'.apart i j _ s a e f1 rfl f2 q f3
                subst eij
                exact hni (fixd_mem.mpr ⟨i, s0, by omega, f0, fh⟩)
end
end VI

end
section
/-! VI26: the defs of a program, all at once. -/
namespace VI
open PySem L2
/-- the def number i stands in the written part; its body's translation is fn -/
structure DefOk (K : PySem.W.Frag) (gl : Str → Option Gl1) (f : Addr) (fn : Fn) (ps : List Str) (fd : FuncData) : Prop where
  ex : ∃ (name qual : Str) (params : Arguments) (body : List Stmt) (scope : Scope) (oc : Value) (od : Option Addr) (kV doc pm : Value) (an : Option Addr) (cdv ct : Value) (osl : Array (Option Value)) (N : List Str),
    fd = PySem.W.fnOf name qual params body scope .none kV doc pm an cdv ct ∧ K.lookup f = some ⟨oc, od, .func (PySem.W.fnOf name qual params body scope .none kV doc pm an cdv ct), osl⟩ ∧ PySem.W.codeIn K cdv qual = true ∧ FnScope N ps scope ∧ fn = ⟨ps.length, N.length, trSs gl N scope body⟩
  bind : ∀ (s : Shared) (us ws : List Value), (us ++ ws).length = ps.length → BindsTo s fd ⟨us, (ps.drop us.length).zip ws⟩ (ps.zip (us ++ ws))
theorem defOk {K : PySem.W.Frag} {gl : Str → Option Gl1} {f : Addr} {fn : Fn} {ps : List Str} {name qual : Str} {st : Stmt} {oc : Value} {od : Option Addr} {kV doc pm : Value} {an : Option Addr} {cdv ct : Value} {osl : Array (Option Value)} {N : List Str}
    (l : K.lookup f = some ⟨oc, od, .func (PySem.W.fnOf name qual (defArgs st) (defBody st) (defScope st) .none kV doc pm an cdv ct), osl⟩) (c : PySem.W.codeIn K cdv qual = true) (S : FnScope N ps (defScope st)) (e : fn = ⟨ps.length, N.length, trSs gl N (defScope st) (defBody st)⟩)
    (b : ∀ (s : Shared) (us ws : List Value), (us ++ ws).length = ps.length → BindsTo s (PySem.W.fnOf name qual (defArgs st) (defBody st) (defScope st) .none kV doc pm an cdv ct) ⟨us, (ps.drop us.length).zip ws⟩ (ps.zip (us ++ ws))) :
    DefOk K gl f fn ps (PySem.W.fnOf name qual (defArgs st) (defBody st) (defScope st) .none kV doc pm an cdv ct) :=
  ⟨⟨name, qual, defArgs st, defBody st, defScope st, oc, od, kV, doc, pm, an, cdv, ct, osl, N, rfl, l, c, S, e⟩, b⟩
/-- a program's names and defs -/
structure Pg (K : PySem.W.Frag) (mg : Str → Option Value) (gl : Str → Option Gl1) (L : Lk) (T : Nat → Option Fn) : Prop where
  con : ∀ x d, gl x = some (.con d) → ∃ u v, mg x = some u ∧ RelV v u ∧ ∀ S H, Rp ⟨K, L.CA, L.FA⟩ S H d v
  cls : ∀ x c, gl x = some (.cls c) → mg x = some (.ref (L.CA c))
  blt : ∀ x, gl x = none → (biOf x).isSome = true ∨ (tyOf x).isSome = true ∨ (itkOf x).isSome = true → mg x = none
  fns : ∀ x i ps, gl x = some (.fn i ps) → mg x = some (.ref (L.FA i)) ∧ PySem.W.keepIn K (.ref (L.FA i)) = true ∧ ∃ fn fd, T i = some fn ∧ DefOk K gl (L.FA i) fn ps fd
section
variable {P : Program} {w : World} {K : PySem.W.Frag} {mg : Str → Option Value} {base : Heap} {gl : Str → Option Gl1} {L : Lk} {T : Nat → Option Fn}
theorem fn_all (G : Pg K mg gl L T) : ∀ k i fn ps fd, T i = some fn → DefOk K gl (L.FA i) fn ps fd → FnOk P w K mg base (L2.CX P w) k (L.FA i) fd ps (spC ⟨K, L.CA, L.FA⟩ (callD T k) ps.length i) := by
  intro k
  induction k with
  | zero =>
    intro i fn ps fd hT hD
    exact ⟨fun vs H Q E ⟨_, _, h, _⟩ => h, fun A outer s H args us vs Q E _ _ _ _ ⟨_, _, _, _, p⟩ => p.elim⟩
  | succ k ih =>
    intro i fn ps fd hT hD
    obtain ⟨name, qual, params, body, scope, oc, od, kV, doc, pm, an, cdv, ct, osl, N, rfl, h1, h2, h3, h4⟩ := hD.ex
    refine fn_of h1 h2 h3 (fun vs H Q E ⟨_, _, h, _⟩ => h) fun A outer s H vs Q E hr hsp => ?_
    obtain ⟨S, as, hl, hok, hp⟩ := hsp
    have hla : as.length = vs.length := by have := hok.len; simpa using this
    have hC : callD T (k + 1) i as = run (callD T k) fn as := by
      show (match T i with | some fn => run (callD T k) fn as | none => .bad) = _
      rw [hT]
    rw [hC] at hp
    have hpn : ps.length ≤ N.length := by
      have := congrArg List.length h3.pre
      rw [List.length_take] at this
      omega
    unfold run at hp
    rw [h4] at hp
    rw [if_pos ⟨by rw [hla, hl], hpn⟩] at hp
    have A' : AmbS gl N L (callD T k) scope (cxOf (L2.CX P w) P w K mg base N qual scope (L.FA i) cdv A outer s H E) (fun cls d _ H => E cls d H) := by
      refine ⟨⟨⟨rfl, h3.nd, by have := hr.un; show (A.deeper _).units + 70 < cLine; omega, G.con, G.cls, G.blt, fun x j qs hx => ?_⟩, rfl, rfl, takes_of rfl rfl rfl rfl⟩, h3.kind, passes_of rfl, fun _ => rfl⟩
      obtain ⟨g1, g2, fn', fd', g3, g4⟩ := G.fns x j qs hx
      exact ⟨g1, g2, k, fd', hr, ih j fn' qs fd' g3 g4, fun s us ws _ h => g4.bind s us ws h⟩
    refine ⟨_, okBody (fx := fixd 0 as) A' body, S, as ++ List.replicate (N.length - vs.length) Sl.un, hok.entry (m := N.length - vs.length), ?_⟩
    have z := end_ok (m := N.length - vs.length) hok hp
    rw [← hl] at z
    exact z
/-- what law's run must give: True, on every list of at most 63 ints -/
theorem law_sp {i : Nat} {k : Nat} (h : ∀ ns : List Int, ns.length ≤ 63 → ∃ os, callD T k i [.sh (.frl (ns.map .int))] = .ok (.val (.bl true)) os) {Q : VK} {E : XK} {H : Hp} {a : Addr} {ns : List Int} (hn : ns.length ≤ 63) (hS : SqL K H a (ns.map V.int)) (hQ : ∀ H', Q (.bl true) H') :
    spC ⟨K, L.CA, L.FA⟩ (callD T k) 1 i [.ref a] H Q E := by
  obtain ⟨os, e⟩ := h ns hn
  have rl : ∀ (S : Addr → Prop) (l : List Int), RpL ⟨K, L.CA, L.FA⟩ S H (l.map D.int) (l.map V.int) := fun S l => by
    induction l with
    | nil => rfl
    | cons b bs ih => exact ⟨.int b, bs.map V.int, rfl, rfl, ih⟩
  refine ⟨fun b => H b ≠ none, [.sh (.frl (ns.map .int))], rfl, ⟨rfl, fun j s v e1 e2 => ?_, fun j l s s' b e1 e2 h1 h2 _ _ => ?_, fun b h => h⟩, ?_⟩
  · cases j with
    | zero =>
      simp at e1 e2
      subst e1 e2
      refine ⟨_, rfl, a, _, rfl, ?_, rl _ ns⟩
      rcases hS with hS | hS
      · refine .inl ⟨?_, hS⟩
        rcases hS with z | ⟨_, z⟩ <;> (show H a ≠ none; rw [z]; intro y; cases y)
      · exact .inr hS
    | succ j => simp at e1
  · cases j with
    | zero => simp at e1; subst e1; cases h1
    | succ j => simp at e1
  · rw [e]
    intro v H' S' _ _ q
    have q : v = .bl true := q
    subst q
    exact hQ H'
end
def spl (K : PySem.W.Frag) : Sp := fun vs H Q _ => ∃ (a : Addr) (ns : List Int), vs = [.ref a] ∧ ns.length ≤ 63 ∧ SqL K H a (ns.map V.int) ∧ ∀ H', Q (.bl true) H'
/-- a law's walk: its program's table, and the plain law of the evaluator -/
theorem walk {l : PySem.W.OpenLaw} {q : Program} {loose : List Str} {XP : (Str → Option Value) → Heap → Prop} {YP : World → Heap → Prop} {d : DefRec} {K : Params → PySem.W.Frag} {gl : Str → Option Gl1} {T : Nat → Option Fn} {j k : Nat} {fn : Fn} {x : Str}
    (hn : l.most = some 63) (hdf : d.params.defaults = []) (hr : Room k callerA) (hT : T j = some fn) (plain : ∀ ns : List Int, ns.length ≤ 63 → ∃ os, callD T k j [.sh (.frl (ns.map .int))] = .ok (.val (.bl true)) os)
    (hY : ∀ (w : World) (h : Heap), YP w h → (K w.params).In h)
    (F : ∀ (w : World) (mg : Str → Option Value) (fa : Addr) (h : Heap), (K w.params).In h → h.Ns mainGlobals mg → mg d.name = some (.ref fa) → ∃ (L : Lk) (fd : FuncData), Pg (K w.params) mg gl L T ∧ L.FA j = fa ∧ DefOk (K w.params) gl (L.FA j) fn [x] fd) :
    PySem.W.WalkO q loose XP YP l.row.toRowW d [] (fun f vs => PySem.call f vs) := by
  refine L2.walk_of (n := 63) (k := k) (x := x) (CX := fun w => L2.CX l.prog w) (sp := fun w => spl (K w.params)) hn (by decide) hdf hr hY (fun w mg fa h KX G hmg => ?_) (fun w H a ns hl _ hS => ⟨a, ns, rfl, hl, hS, fun _ => rfl⟩) fun w H s e s' ⟨_, _, _, _, _, _, _, _, _, _, _, _, z⟩ => z
  obtain ⟨L, fd, pg, rfl, dk⟩ := F w mg fa h KX G hmg
  exact ⟨fd, fun s u => dk.bind s [u] [] rfl, fun base _ _ => (fn_all pg k j fn [x] fd hT dk).imp fun vs H Q E ⟨a, ns, hv, hn, hS, hQ⟩ => hv ▸ law_sp plain hn hS hQ⟩
/-- the names of builtins -/
theorem bi_names {x : Str} (h : (biOf x).isSome = true ∨ (tyOf x).isSome = true ∨ (itkOf x).isSome = true) : x ∈ (["len", "int", "str", "bool", "sum", "all", "any", "list", "tuple", "isinstance", "range", "enumerate", "zip"] : List Str) := by
  simp only [List.mem_cons, List.not_mem_nil, or_false]
  rcases h with h | h | h
  · unfold biOf at h
    repeat' (split at h)
    all_goals first | (rename_i e; subst e; simp; done) | cases h
  · unfold tyOf at h
    repeat' (split at h)
    all_goals first | (rename_i e; subst e; simp; done) | cases h
  · unfold itkOf at h
    repeat' (split at h)
    all_goals first | (rename_i e; subst e; simp; done) | cases h
theorem pg_end {K : PySem.W.Frag} {mg : Str → Option Value} {gl : Str → Option Gl1} {T : Nat → Option Fn} {j : Nat} {fn : Fn} {ps : List Str} {f fa : Addr} {n : Str} (hmg : mg n = some (.ref fa)) (h : ∃ (L : Lk) (fd : FuncData), Pg K mg gl L T ∧ L.FA j = f ∧ DefOk K gl (L.FA j) fn ps fd) (e : mg n = some (.ref f)) :
    ∃ (L : Lk) (fd : FuncData), Pg K mg gl L T ∧ L.FA j = fa ∧ DefOk K gl (L.FA j) fn ps fd := by
  rw [hmg] at e
  cases e
  exact h
end VI

end
section
/-! VP1: what every law shares: its bag of numbers, its comparison. -/
namespace VI
open PySem L2
def bagB : List Sx := [.rtn
   (.lst [.bi .list [.slc (.loc 0) none (some (.cst (.int 63)))], .cst (.int 0), .cst (.int 0), .cst (.int 5750)])]
def pullB : List Sx := [.ife
   (.and
     (.cmp .Eq (.sub (.loc 0) (.cst (.int 2))) (.cst (.int 0)))
     (.cmp .Lt (.sub (.loc 0) (.cst (.int 1))) (.bi .len [.sub (.loc 0) (.cst (.int 0))])))
   [.asg (.loc 2) (.sub (.sub (.loc 0) (.cst (.int 0))) (.sub (.loc 0) (.cst (.int 1)))),
    .asg (.sub (.loc 0) (.cst (.int 1))) (.bin .Add (.sub (.loc 0) (.cst (.int 1))) (.cst (.int 1))),
    .ife
      (.cmp .GtE (.loc 2) (.bin .Pow (.cst (.int 10)) (.cst (.int 18))))
      [.asg (.sub (.loc 0) (.cst (.int 2))) (.loc 2)]
      [.asg
         (.sub (.loc 0) (.cst (.int 3)))
         (.bin
           .Mod
           (.bi
             .int
             [.bin
                .Add
                (.bin
                  .Add
                  (.bin .Mult (.sub (.loc 0) (.cst (.int 3))) (.cst (.int 52711)))
                  (.bin
                    .Mult
                    (.bin .Mod (.bi .int [.loc 2]) (.cst (.int 2147482661)))
                    (.cst (.int 8563))))
                (.cst (.int 83))])
           (.cst (.int 2147483477)))]]
   [],
 .ife
   (.cmp .Gt (.sub (.loc 0) (.cst (.int 2))) (.cst (.int 0)))
   [.asg (.loc 3) (.bin .Mod (.bi .int [.sub (.loc 0) (.cst (.int 2))]) (.loc 1)),
    .asg (.sub (.loc 0) (.cst (.int 2))) (.bin .FloorDiv (.sub (.loc 0) (.cst (.int 2))) (.loc 1)),
    .rtn (.loc 3)]
   [],
 .asg (.loc 4) (.sub (.loc 0) (.cst (.int 3))),
 .asg
   (.sub (.loc 0) (.cst (.int 3)))
   (.bin
     .Mod
     (.bi
       .int
       [.bin
          .Add
          (.bin
            .Add
            (.bin .Mult (.loc 4) (.loc 4))
            (.bin .Mult (.loc 4) (.cst (.int 31891))))
          (.cst (.int 1620047))])
     (.cst (.int 2147483477))),
 .rtn
   (.bin
     .Mod
     (.bi
       .int
       [.bin
          .Add
          (.bin .FloorDiv (.sub (.loc 0) (.cst (.int 3))) (.cst (.int 67)))
          (.bin
            .Mult
            (.bin .Mod (.bi .int [.sub (.loc 0) (.cst (.int 3))]) (.cst (.int 8009)))
            (.cst (.int 59)))])
     (.loc 1))]
def ofB : List Sx := [.rtn (.sub (.loc 1) (.cal 9 [.loc 0, .bi .len [.loc 1]]))]
def sameC (X : Ex) : List Sx := [.ife
   (.bi .isi [.loc 1, .tup [.cst (.ty "list"), .cst (.ty "tuple")]])
   [.ife
      (.or
        (.cmp .NotEq (.bi .isi [.loc 0, .cst (.ty "list")]) (.bi .isi [.loc 1, .cst (.ty "list")]))
        (.cmp .NotEq (.bi .isi [.loc 0, .cst (.ty "tuple")]) (.bi .isi [.loc 1, .cst (.ty "tuple")])))
      [.rtn (.cst (.bl false))]
      [],
    .rtn
      (.and
        (.cmp .Eq (.bi .len [.loc 0]) (.bi .len [.loc 1]))
        (.bi
          .all
          [X]))]
   [],
 .ife
   (.or (.cmp .Is (.loc 1) (.cst .non)) (.cmp .Is (.loc 0) (.cst .non)))
   [.rtn (.and (.cmp .Is (.loc 1) (.cst .non)) (.cmp .Is (.loc 0) (.cst .non)))]
   [],
 .ife
   (.or
     (.cmp .NotEq (.bi .isi [.loc 0, .cst (.ty "bool")]) (.bi .isi [.loc 1, .cst (.ty "bool")]))
     (.cmp .NotEq (.bi .isi [.loc 0, .cst (.ty "int")]) (.bi .isi [.loc 1, .cst (.ty "int")])))
   [.rtn (.cst (.bl false))]
   [],
 .rtn
   (.and
     (.cmp .Eq (.bi .isi [.loc 0, .cst (.ty "str")]) (.bi .isi [.loc 1, .cst (.ty "str")]))
     (.cmp .Eq (.loc 0) (.loc 1)))]

def sameX (me : Nat) : Ex := .comp (.cal me [.loc 2, .loc 3]) (.tup [.loc 2, .loc 3]) (.itk .zip [.loc 0, .loc 1]) [] [2, 3]
def sameB (me : Nat) : List Sx := sameC (sameX me)
/-! ### operations on known kinds -/
theorem eqD_int {a b : Int} : eqD (.int a) (.int b) = some (decide (a = b)) := by
  have h1 : SeqAt.shaped (.int a) = true := by rfl
  have h2 : SeqAt.shaped (.int b) = true := by rfl
  have h3 : PyData.eqv (.int a) (.int b) = decide (a = b) := by
    show (a == b) = _
    by_cases h : a = b
    · subst h; simp
    · simp [h]
  simp only [eqD, toPy, h1, h2, and_self, if_true, h3]
theorem eqD_bl {a b : Bool} : eqD (.bl a) (.bl b) = some (a == b) := by
  have h1 : SeqAt.shaped (.bool a) = true := by rfl
  have h2 : SeqAt.shaped (.bool b) = true := by rfl
  have h3 : PyData.eqv (.bool a) (.bool b) = (a == b) := rfl
  simp only [eqD, toPy, h1, h2, and_self, if_true, h3]
theorem eqD_str {a b : Str} (h1 : SeqAt.shaped (.str a) = true) (h2 : SeqAt.shaped (.str b) = true) : eqD (.str a) (.str b) = some (a == b) := by
  have h3 : PyData.eqv (.str a) (.str b) = (a == b) := rfl
  simp only [eqD, toPy, h1, h2, and_self, if_true, h3]
theorem bin_add {i j : Int} : binD .Add (.int i) (.int j) = some (.val (.int (i + j))) := rfl
theorem bin_sub {i j : Int} : binD .Sub (.int i) (.int j) = some (.val (.int (i - j))) := rfl
theorem bin_mul {i j : Int} (h : mulOk i j = true) : binD .Mult (.int i) (.int j) = some (.val (.int (i * j))) := by
  show (if mulOk i j = true then vInt (i * j) else none) = _
  rw [if_pos h]; rfl
theorem bin_mod {i j : Int} (h : j ≠ 0) : binD .Mod (.int i) (.int j) = some (.val (.int (i.fmod j))) := by
  show (if j = 0 then none else vInt (i.fmod j)) = _
  rw [if_neg h]; rfl
theorem bin_div {i j : Int} (h : divOk j = true) : binD .FloorDiv (.int i) (.int j) = some (.val (.int (i.fdiv j))) := by
  show (if divOk j = true then vInt (i.fdiv j) else none) = _
  rw [if_pos h]; rfl
theorem mulOk_l {i j : Int} (h : -(2 ^ 64) < i) (h' : i < 2 ^ 64) : mulOk i j = true := decide_eq_true (.inl ⟨h, h'⟩)
theorem divOk_l {j : Int} (h : 0 < j) (h' : j < 1073741824) : divOk j = true := decide_eq_true (.inl ⟨by omega, by omega⟩)
theorem atI_nat {α : Type} {xs : List α} {n : Nat} {x : α} (h : xs[n]? = some x) : atI xs (n : Int) = some x := by
  have hl := (List.getElem?_eq_some_iff.mp h).1
  unfold atI ixN
  rw [if_pos (by omega), if_pos (by omega)]
  simpa using h
/-! ### the bag -/
structure Bg where
  cs : List Int
  at' : Nat
  pool : Int
  seed : Int
def bagD (b : Bg) : D := .lst [.lst (b.cs.map .int), .int b.at', .int b.pool, .int b.seed]
structure Bg.Ok (b : Bg) : Prop where
  p0 : 0 ≤ b.pool
  s0 : 0 ≤ b.seed
  s1 : b.seed < 2147483477
def feed (b : Bg) : Bg := match (if b.pool = 0 then b.cs[b.at']? else none) with
  | some c => if 1000000000000000000 ≤ c then ⟨b.cs, b.at' + 1, c, b.seed⟩ else ⟨b.cs, b.at' + 1, b.pool, (b.seed * 52711 + c.fmod 2147482661 * 8563 + 83).fmod 2147483477⟩
  | none => b
def draw (b : Bg) (m : Int) : Int × Bg := if 0 < b.pool then (b.pool.fmod m, ⟨b.cs, b.at', b.pool.fdiv m, b.seed⟩)
  else
    let s := (b.seed * b.seed + b.seed * 31891 + 1620047).fmod 2147483477
    ((s.fdiv 67 + s.fmod 8009 * 59).fmod m, ⟨b.cs, b.at', b.pool, s⟩)
def pull (b : Bg) (m : Int) : Int × Bg := draw (feed b) m
theorem feed_ok {b : Bg} (h : b.Ok) : (feed b).Ok := by
  unfold feed
  split
  · split
    · rename_i c _ hc
      exact ⟨Int.le_trans (by decide) hc, h.s0, h.s1⟩
    · exact ⟨h.p0, Int.fmod_nonneg_of_pos _ (by decide), Int.fmod_lt_of_pos _ (by decide)⟩
  · exact h
theorem draw_ok {b : Bg} {m : Int} (h : b.Ok) (hm : 0 < m) : (draw b m).2.Ok ∧ 0 ≤ (draw b m).1 ∧ (draw b m).1 < m := by
  unfold draw
  split
  · exact ⟨⟨Int.fdiv_nonneg h.p0 (by omega), h.s0, h.s1⟩, Int.fmod_nonneg_of_pos _ hm, Int.fmod_lt_of_pos _ hm⟩
  · exact ⟨⟨h.p0, Int.fmod_nonneg_of_pos _ (by decide), Int.fmod_lt_of_pos _ (by decide)⟩, Int.fmod_nonneg_of_pos _ hm, Int.fmod_lt_of_pos _ hm⟩
theorem pull_ok {b : Bg} {m : Int} (h : b.Ok) (hm : 0 < m) : (pull b m).2.Ok ∧ 0 ≤ (pull b m).1 ∧ (pull b m).1 < m := draw_ok (feed_ok h) hm
def slots (b : Bg) (m : Int) (x y z : Sl) : Rho := [.ow (bagD b), .sh (.int m), x, y, z]
theorem feed_run {C : Orc} {b : Bg} {m : Int} (h : b.Ok) : ∃ x, exec C [0] (pullB.getD 0 .bad) (slots b m .un .un .un) = .ok .nx (slots (feed b) m x .un .un) := by
  unfold feed
  by_cases h0 : b.pool = 0
  · rw [if_pos h0]
    cases hc : b.cs[b.at']? with
    | none =>
      refine ⟨.un, ?_⟩
      have hl : ¬ b.at' < b.cs.length := fun z => by rw [List.getElem?_eq_getElem z] at hc; cases hc
      have hl' : ¬ (b.at' : Int) < (b.cs.length : Int) := by omega
      simp [pullB, exec, execs, ev, evs, tv, tv2, bnd, ret, opt, datM, datsM, Opd.dat, Sl.dat, slots, bagD, subD, atI, ixN, cmpD, eqD_int, biD, vInt, h0, hl', truD, tru]
    | some c =>
      have hl := (List.getElem?_eq_some_iff.mp hc).1
      have hl' : (b.at' : Int) < (b.cs.length : Int) := by omega
      have hg : b.cs[b.at'] = c := (List.getElem?_eq_some_iff.mp hc).2
      by_cases hbig : 1000000000000000000 ≤ c
      · refine ⟨.sh (.int c), ?_⟩
        have hp : powOk 10 18 = true := by decide
        simp [pullB, exec, execs, ev, evs, tv, tv2, bnd, ret, opt, datM, datsM, Opd.dat, Sl.dat, slots, bagD, subD, atI, ixN, cmpD, eqD_int, biD, vInt, h0, hl', hl, hg, hbig, truD, tru, setTg, setLoc, frz, binD, hp, putD]
      · refine ⟨.sh (.int c), ?_⟩
        have hp : powOk 10 18 = true := by decide
        have hm1 : mulOk b.seed 52711 = true := mulOk_l (by have := h.s0; omega) (by have := h.s1; omega)
        have hm2 : mulOk (c.fmod 2147482661) 8563 = true := mulOk_l (by have := Int.fmod_nonneg_of_pos c (b := 2147482661) (by decide); omega) (by have := Int.fmod_lt_of_pos c (b := 2147482661) (by decide); omega)
        simp [pullB, exec, execs, ev, evs, tv, tv2, bnd, ret, opt, datM, datsM, Opd.dat, Sl.dat, slots, bagD, subD, atI, ixN, cmpD, eqD_int, biD, vInt, h0, hl', hl, hg, hbig, truD, tru, setTg, setLoc, frz, binD, hp, putD, hm1, hm2]
  · rw [if_neg h0]
    refine ⟨.un, ?_⟩
    simp [pullB, exec, execs, ev, evs, tv, tv2, bnd, ret, opt, datM, datsM, Opd.dat, Sl.dat, slots, bagD, subD, atI, ixN, cmpD, eqD_int, h0]
theorem execs_nx {C : Orc} {fx : List Nat} {s : Sx} {ss : List Sx} {r r' : Rho} (h : exec C fx s r = .ok .nx r') : execs C fx (s :: ss) r = execs C fx ss r' := by
  show bnd (exec C fx s) _ r = _
  simp only [bnd, h]
theorem execs_rt {C : Orc} {fx : List Nat} {s : Sx} {ss : List Sx} {r r' : Rho} {o : Opd} (h : exec C fx s r = .ok (.rt o) r') : execs C fx (s :: ss) r = .ok (.rt o) r' := by
  show bnd (exec C fx s) _ r = _
  simp only [bnd, h, ret]
theorem draw_run {C : Orc} {b : Bg} {m : Int} {x : Sl} (h : b.Ok) (hm : 0 < m) (hm2 : m < 1073741824) : ∃ y z, execs C [0] (pullB.drop 1) (slots b m x .un .un) = .ok (.rt (.val (.int (draw b m).1))) (slots (draw b m).2 m x y z) := by
  unfold draw
  have hm0 : m ≠ 0 := by omega
  have hd : divOk m = true := divOk_l hm hm2
  by_cases h0 : 0 < b.pool
  · rw [if_pos h0]
    refine ⟨.sh (.int (b.pool.fmod m)), .un, ?_⟩
    simp [pullB, exec, execs, ev, evs, tv, tv2, bnd, ret, opt, datM, datsM, Opd.dat, Sl.dat, slots, bagD, subD, atI, ixN, cmpD, eqD_int, biD, vInt, h0, truD, tru, setTg, setLoc, frz, binD, putD, hm0, hd]
  · rw [if_neg h0]
    have h1 := h.s0
    have h2 := h.s1
    have hm1 : mulOk b.seed b.seed = true := mulOk_l (by omega) (by omega)
    have hm2 : mulOk b.seed 31891 = true := mulOk_l (by omega) (by omega)
    have hd2 : divOk 67 = true := by decide
    have hm3 : ∀ s : Int, mulOk (s.fmod 8009) 59 = true := fun s => mulOk_l (by have := Int.fmod_nonneg_of_pos s (b := 8009) (by decide); omega) (by have := Int.fmod_lt_of_pos s (b := 8009) (by decide); omega)
    refine ⟨.un, .sh (.int b.seed), ?_⟩
    simp [pullB, exec, execs, ev, evs, tv, tv2, bnd, ret, opt, datM, datsM, Opd.dat, Sl.dat, slots, bagD, subD, atI, ixN, cmpD, eqD_int, biD, vInt, h0, truD, tru, setTg, setLoc, frz, binD, putD, hm0, hd, hm1, hm2, hm3, hd2]
theorem pull_run {C : Orc} {b : Bg} {m : Int} (h : b.Ok) (hm : 0 < m) (hm2 : m < 1073741824) : run C ⟨2, 5, pullB⟩ [.ow (bagD b), .sh (.int m)] = .ok (.val (.int (pull b m).1)) [.ow (bagD (pull b m).2), .un] := by
  obtain ⟨x, e1⟩ := feed_run (C := C) (m := m) h
  obtain ⟨y, z, e2⟩ := draw_run (C := C) (m := m) (x := x) (feed_ok h) hm hm2
  have e3 : execs C [0] pullB (slots b m .un .un .un) = .ok (.rt (.val (.int (draw (feed b) m).1))) (slots (draw (feed b) m).2 m x y z) := (execs_nx e1).trans e2
  show (if _ then endR _ (execs C [0] pullB (slots b m .un .un .un)) else _) = _
  rw [if_pos ⟨rfl, by decide⟩, e3]
  rfl
theorem bag_run {C : Orc} {ns : List Int} (h : ns.length ≤ 63) : run C ⟨1, 1, bagB⟩ [.sh (.frl (ns.map .int))] = .ok (.new (bagD ⟨ns, 0, 0, 5750⟩)) [.un] := by
  have hm : min 63 ns.length = ns.length := by omega
  have ht : List.take ns.length (List.map D.int ns) = List.map D.int ns := List.take_of_length_le (by simp)
  have h4 : (4 : Nat) ≤ sizeLine := by decide
  simp [run, bagB, exec, execs, ev, evs, evo, tv, tv2, bnd, ret, opt, datM, datsM, Opd.dat, Sl.dat, fixd, Sl.held, slcD, cutD, HT.sIx, biD, vInt, frz, frzs, bagD, endR, outs, line, hm, h4, ht]
/-- the pull's promise -/
def PullOk (C : Orc) (p : Nat) : Prop := ∀ (b : Bg) (m : Int), b.Ok → 0 < m → m < 1073741824 → C p [.ow (bagD b), .sh (.int m)] = .ok (.val (.int (pull b m).1)) [.ow (bagD (pull b m).2), .un]
/-- one of the signs of a text -/
def signAt (x : Str) (v : Int) : D := .str ⟨#[(x.cps.toList[v.toNat]?).getD 0]⟩
theorem of_str {C : Orc} {b : Bg} {x : Str} (hC : PullOk C 9) (h : b.Ok) (hx : 0 < x.length) (hl : x.length ≤ 1000) :
    run C ⟨2, 2, ofB⟩ [.ow (bagD b), .sh (.str x)] = .ok (.val (signAt x (pull b x.length).1)) [.ow (bagD (pull b x.length).2), .un] := by
  have hp := hC b x.length h (by omega) (by omega)
  obtain ⟨p1, p2, p3⟩ := pull_ok (b := b) (m := x.length) h (by omega)
  have hline : (1000 : Nat) ≤ sizeLine := by decide
  have hl2 : x.length ≤ sizeLine := by omega
  generalize hv : (pull b x.length).1 = v at *
  have e : x.cps.toList.length = x.length := by simp; rfl
  have hlt : v.toNat < x.cps.toList.length := by omega
  have hg : x.cps.toList[v.toNat]? = some (x.cps.toList[v.toNat]) := List.getElem?_eq_getElem hlt
  have hs : subD (.str x) (.int v) = some (signAt x v) := by
    show (if x.length ≤ line then (atI x.cps.toList v).map _ else none) = _
    rw [if_pos (show x.length ≤ line from hl2)]
    unfold atI ixN
    rw [if_pos p2, if_pos (by rw [e]; exact p3)]
    show (x.cps.toList[v.toNat]?).map _ = _
    unfold signAt
    rw [hg]
    rfl
  simp [run, ofB, exec, execs, ev, evs, tv, bnd, ret, opt, datM, datsM, Opd.dat, Sl.dat, fixd, Sl.held, biD, vInt, line, hl2, callM, lendOk, lend, borH, List.filterMap_cons, hp, back, hs, endR, outs]
/-! ### the comparison -/
/-- plain data, as it is compared; n: how deep -/
def Pl : Nat → D → Prop
  | _, .non => True
  | _, .bl _ => True
  | _, .int _ => True
  | _, .str x => SeqAt.shaped (.str x) = true
  | n + 1, .lst ds => ds.length < sizeLine ∧ ∀ d ∈ ds, Pl n d
  | _, _ => False
def SameOk (C : Orc) (me n : Nat) : Prop := ∀ d, Pl n d → C me [.sh d, .sh d] = .ok (.val (.bl true)) [.un, .un]
theorem same_flat {C : Orc} {me : Nat} {d : D} (h : Pl 0 d) : run C ⟨2, 4, sameB me⟩ [.sh d, .sh d] = .ok (.val (.bl true)) [.un, .un] := by
  cases d with
  | non => simp [run, sameB, sameX, sameC, exec, execs, ev, evs, tv, tv2, bnd, ret, opt, datM, datsM, Opd.dat, Sl.dat, fixd, Sl.held, biD, vBl, frz, frzs, line, isisD, isiD, clsOf, isaB, tru, truD, cmpD, endR, outs, sizeLine]
  | bl b => simp [run, sameB, sameX, sameC, exec, execs, ev, evs, tv, tv2, bnd, ret, opt, datM, datsM, Opd.dat, Sl.dat, fixd, Sl.held, biD, vBl, frz, frzs, line, isisD, isiD, clsOf, isaB, tru, truD, cmpD, endR, outs, sizeLine, eqD_bl]
  | int b => simp [run, sameB, sameX, sameC, exec, execs, ev, evs, tv, tv2, bnd, ret, opt, datM, datsM, Opd.dat, Sl.dat, fixd, Sl.held, biD, vBl, frz, frzs, line, isisD, isiD, clsOf, isaB, tru, truD, cmpD, endR, outs, sizeLine, eqD_bl, eqD_int]
  | str b => simp [run, sameB, sameX, sameC, exec, execs, ev, evs, tv, tv2, bnd, ret, opt, datM, datsM, Opd.dat, Sl.dat, fixd, Sl.held, biD, vBl, frz, frzs, line, isisD, isiD, clsOf, isaB, tru, truD, cmpD, endR, outs, sizeLine, eqD_bl, eqD_str (show SeqAt.shaped (.str b) = true from h) h]
  | _ => exact h.elim
theorem blsD_true : ∀ n : Nat, blsD (List.replicate n (.bl true)) = some (List.replicate n true)
  | 0 => rfl
  | n + 1 => by
    show (blsD (List.replicate n (.bl true))).map (true :: ·) = _
    rw [blsD_true n]
    rfl
theorem same_list {C : Orc} {me n : Nat} {ds : List D} (hC : SameOk C me n) (h : ∀ d ∈ ds, Pl n d) (hl : ds.length < sizeLine) : run C ⟨2, 4, sameB me⟩ [.sh (.lst ds), .sh (.lst ds)] = .ok (.val (.bl true)) [.un, .un] := by
  -- the walk over the pairs
  have walk : ∀ (es : List D) (k : Nat) (x y : Sl), (∀ d ∈ es, Pl n d) → k + es.length < sizeLine → ∃ x' y', compN [2, 3] (fun x => bnd (setTg C [] (.tup [.loc 2, .loc 3]) (.val x)) fun _ => bnd (andAll (evts C [])) fun b => if b then bnd (ev C (.cal me [.loc 2, .loc 3])).v fun o => bnd (frz o) fun v => ret (some v) else ret none)
      (List.replicate k (.bl true)) (zipD es es) [.sh (.lst ds), .sh (.lst ds), x, y] = .ok (List.replicate (k + es.length) (.bl true)) [.sh (.lst ds), .sh (.lst ds), x', y'] := by
    intro es
    induction es with
    | nil => intro k x y _ _; exact ⟨x, y, rfl⟩
    | cons e es ih =>
      intro k x y hh hk
      have he := hC e (hh e List.mem_cons_self)
      simp only [List.length_cons] at hk
      obtain ⟨x', y', q⟩ := ih (k + 1) (.sh e) (.sh e) (fun d hd => hh d (List.mem_cons_of_mem _ hd)) (by omega)
      refine ⟨x', y', ?_⟩
      have hline : k < line := by show k < sizeLine; omega
      have ek : k + (es.length + 1) = k + 1 + es.length := by omega
      have er : List.replicate (k + 1) (D.bl true) = List.replicate k (.bl true) ++ [.bl true] := List.replicate_succ'
      rw [List.length_cons, ek, ← q, er]
      simp [zipD, compN, wipeR, bnd, setTg, setTgs, setLoc, datM, Opd.dat, ret, andAll, evts, ev, evs, tv, callM, lendOk, lend, borH, List.filterMap_cons, Sl.held, he, back, frz, hline]
  obtain ⟨x, y, q⟩ := walk ds 0 .un .un h (by omega)
  rw [Nat.zero_add] at q
  have hX : (ev C (sameX me)).v [.sh (.lst ds), .sh (.lst ds), .un, .un] = .ok (.new (.lst (List.replicate ds.length (.bl true)))) [.sh (.lst ds), .sh (.lst ds), .un, .un] := by
    show (match compN [2, 3] (fun x => bnd (setTg C [] (.tup [.loc 2, .loc 3]) (.val x)) fun _ => bnd (andAll (evts C [])) fun b => if b then bnd (ev C (.cal me [.loc 2, .loc 3])).v fun o => bnd (frz o) fun v => ret (some v) else ret none)
      [] (zipD ds ds) [.sh (.lst ds), .sh (.lst ds), .un, .un] with
      | .ok acc r' => Res.ok (Opd.new (.lst acc)) (unlock [.val (.lst ds), .val (.lst ds)] [.sh (.lst ds), .sh (.lst ds), .un, .un] (restR [.sh (.lst ds), .sh (.lst ds), .un, .un] (wipeR r' [2, 3]) [2, 3]))
      | .err _ _ => .bad
      | .bad => .bad) = _
    rw [show compN [2, 3] _ [] (zipD ds ds) [.sh (.lst ds), .sh (.lst ds), .un, .un] = _ from q]
    rfl
  have hb := blsD_true ds.length
  unfold sameB
  generalize sameX me = E at hX
  simp [run, sameC, exec, execs, ev, evs, tv, tv2, bnd, ret, opt, datM, datsM, Opd.dat, Sl.dat, fixd, Sl.held, biD, vBl, vInt, frz, frzs, line, isisD, isiD, clsOf, isaB, tru, truD, cmpD, endR, outs, sizeLine, eqD_bl, eqD_int, hX, hb]
theorem callD_run {T : Nat → Option Fn} {k f : Nat} {fn : Fn} {as : List Sl} (h : T f = some fn) : callD T (k + 1) f as = run (callD T k) fn as := by
  show (match T f with | some fn => run (callD T k) fn as | none => .bad) = _
  rw [h]
theorem Pl.flat {n : Nat} {d : D} (h : Pl n d) : Pl 0 d ∨ ∃ m ds, n = m + 1 ∧ d = .lst ds ∧ ds.length < sizeLine ∧ ∀ e ∈ ds, Pl m e := by
  cases d with
  | lst ds =>
    cases n with
    | zero => exact h.elim
    | succ n => exact .inr ⟨n, ds, rfl, rfl, h.1, h.2⟩
  | non => exact .inl trivial
  | bl _ => exact .inl trivial
  | int _ => exact .inl trivial
  | str x => cases n <;> exact .inl h
  | _ => cases n <;> exact h.elim
/-- the comparison of a thing with itself -/
theorem same_ok {T : Nat → Option Fn} {me : Nat} (hT : T me = some ⟨2, 4, sameB me⟩) : ∀ (n k : Nat), n < k → SameOk (callD T k) me n := by
  intro n
  induction n with
  | zero =>
    intro k hk d h
    obtain ⟨k, rfl⟩ : ∃ j, k = j + 1 := ⟨k - 1, by omega⟩
    rw [callD_run hT]
    exact same_flat h
  | succ n ih =>
    intro k hk d h
    obtain ⟨k, rfl⟩ : ∃ j, k = j + 1 := ⟨k - 1, by omega⟩
    rw [callD_run hT]
    rcases h.flat with h | ⟨m, ds, e, rfl, hl, hh⟩
    · exact same_flat h
    · cases e
      exact same_list (ih k (by omega)) hh hl
end VI

end
section
/-! VP2: comprehensions, run. -/
namespace VI
open PySem L2
/-- items one after another through a state -/
def its {σ : Type} (step : σ → D → D × σ) : σ → List D → List D × σ
  | s, [] => ([], s)
  | s, d :: ds => ((step s d).1 :: (its step (step s d).2 ds).1, (its step (step s d).2 ds).2)
theorem its_len {σ : Type} {step : σ → D → D × σ} : ∀ {ds : List D} {s : σ}, (its step s ds).1.length = ds.length
  | [], s => rfl
  | d :: ds, s => by simp [its, its_len (ds := ds)]
theorem compN_its {σ : Type} {own : List Nat} {turn : D → M (Option D)} (R : σ → Rho) (Inv : σ → Prop) (step : σ → D → D × σ) :
    ∀ (items : List D) (s : σ) (acc : List D) (r : Rho), Inv s → wipeR r own = wipeR (R s) own → acc.length + items.length ≤ line →
      (∀ s d, Inv s → d ∈ items → Inv (step s d).2 ∧ ∃ r', turn d (wipeR (R s) own) = .ok (some (step s d).1) r' ∧ wipeR r' own = wipeR (R (step s d).2) own) →
      ∃ r', compN own turn acc items r = .ok (acc ++ (its step s items).1) r' ∧ wipeR r' own = wipeR (R (its step s items).2) own ∧ Inv (its step s items).2 := by
  intro items
  induction items with
  | nil => intro s acc r hi hr _ _; exact ⟨r, by simp [compN, its, ret], hr, hi⟩
  | cons d ds ih =>
    intro s acc r hi hr hl hs
    obtain ⟨h1, r', h2, h3⟩ := hs s d hi List.mem_cons_self
    simp only [List.length_cons] at hl
    obtain ⟨r2, q1, q2, q3⟩ := ih (step s d).2 (acc ++ [(step s d).1]) r' h1 h3 (by simp; omega) fun s' d' hi' hd => hs s' d' hi' (List.mem_cons_of_mem _ hd)
    refine ⟨r2, ?_, q2, q3⟩
    have hlt : acc.length < line := by omega
    show (match turn d (wipeR r own) with
      | .ok none r' => compN own turn acc ds r'
      | .ok (some x) r' => if acc.length < line then compN own turn (acc ++ [x]) ds r' else .bad
      | .err _ _ => .bad
      | .bad => .bad) = _
    rw [hr, h2]
    dsimp only
    rw [if_pos hlt, q1]
    simp [its]
def vals : List Opd → Prop
  | [] => True
  | .bor _ :: _ => False
  | _ :: os => vals os
theorem lock_vals : ∀ {os : List Opd} {r : Rho}, vals os → lock os r = r
  | [], r, _ => rfl
  | .val _ :: os, r, h => lock_vals (os := os) h
  | .new _ :: os, r, h => lock_vals (os := os) h
  | .bor _ :: _, _, h => h.elim
theorem unlock_vals : ∀ {os : List Opd} {r0 r : Rho}, vals os → unlock os r0 r = r
  | [], r0, r, _ => rfl
  | .val _ :: os, r0, r, h => unlock_vals (os := os) h
  | .new _ :: os, r0, r, h => unlock_vals (os := os) h
  | .bor _ :: _, _, _, h => h.elim
theorem comp_run {σ : Type} {C : Orc} {elt it : Ex} {tg : Tg} {ifs : List Ex} {own : List Nat} {r0 : Rho} {os : List Opd} {ds items : List D} {s : σ} (R : σ → Rho) (Inv : σ → Prop) (step : σ → D → D × σ)
    (h1 : (ev C it).i r0 = .ok os (R s)) (hv : vals os) (h2 : datsM os (R s) = .ok ds (R s)) (h3 : iterD (ev C it).k ds = some items) (hi : Inv s) (hl : items.length ≤ line)
    (hs : ∀ s d, Inv s → d ∈ items → Inv (step s d).2 ∧ ∃ r', (bnd (setTg C [] tg (.val d)) fun _ => bnd (andAll (evts C ifs)) fun b => if b then bnd (ev C elt).v fun o => bnd (frz o) fun v => ret (some v) else ret none) (wipeR (R s) own) = .ok (some (step s d).1) r' ∧ wipeR r' own = wipeR (R (step s d).2) own)
    (hR : ∀ s', Inv s' → restR (R s) (wipeR (R s') own) own = R s') :
    (ev C (.comp elt tg it ifs own)).v r0 = .ok (.new (.lst (its step s items).1)) (R (its step s items).2) ∧ Inv (its step s items).2 := by
  obtain ⟨r', q1, q2, q3⟩ := compN_its R Inv step items s [] (R s) hi rfl (by simpa using hl) hs
  refine ⟨?_, q3⟩
  show (bnd (ev C it).i fun os => bnd (datsM os) fun ds => bnd (opt (iterD (ev C it).k ds)) fun items => fun r => match compN own _ [] items (lock os r) with
    | .ok acc r' => Res.ok (Opd.new (.lst acc)) (unlock os r (restR (lock os r) (wipeR r' own) own))
    | .err _ _ => .bad
    | .bad => .bad) r0 = _
  simp only [bnd, h1, h2, h3, opt, ret, lock_vals hv, unlock_vals hv]
  rw [q1]
  dsimp only
  rw [q2, hR _ q3]
  simp
end VI

end
section
/-! VP3: texts as lists of signs. -/
namespace VI
open PySem L2 SX
theorem S_len' {l : List Nat} : (S l).length = l.length := by show l.toArray.size = _; simp
theorem inStr_one (a : List Nat) (c : Nat) : inStr (S [c]) (S a) = decide (c ∈ a) := in_one a c
theorem set_set {r : Rho} {j : Nat} {x y : Sl} : (r.set j x).set j y = r.set j y := List.set_set ..
/-- [sign in signs for sign in text] -/
theorem signs_comp {C : Orc} {r : Rho} {i j : Nat} {eA : Ex} {a l : List Nat} (hj : j < r.length) (hi : r[i]? = some (.sh (.str (S l)))) (hA : ∀ x, (ev C eA).v (r.set j x) = .ok (.val (.str (S a))) (r.set j x)) (hl : l.length ≤ line) :
    (ev C (.comp (.cmp .In (.loc j) eA) (.loc j) (.loc i) [] [j])).v r = .ok (.new (.lst (l.map fun c => .bl (decide (c ∈ a))))) r := by
  have it : (ev C (.loc i)).i r = .ok [.val (.str (S l))] r := by simp [ev, tv, bnd, hi, ret]
  have hitem : itemsD (.str (S l)) = some (l.map fun c => .str (S [c])) := by
    show some (((S l).cps.toList).map fun c => D.str ⟨#[c]⟩) = _
    simp
  have q := comp_run (C := C) (elt := .cmp .In (.loc j) eA) (it := .loc i) (tg := .loc j) (ifs := []) (own := [j]) (r0 := r) (os := [.val (.str (S l))]) (ds := [.str (S l)]) (items := l.map fun c => .str (S [c])) (s := ()) (fun _ => r) (fun _ => True)
    (fun _ d => (match d with | .str x => .bl (inStr x (S a)) | _ => .non, ())) it trivial (by simp [datsM, bnd, datM, Opd.dat, ret]) hitem trivial (by simpa using hl) (fun s d _ hd => ?_) (fun s' _ => ?_)
  · rw [q.1]
    have : ∀ l : List Nat, (its (fun (_ : Unit) (d : D) => ((match d with | .str x => D.bl (inStr x (S a)) | _ => .non), ())) () (l.map fun c => .str (S [c]))).1 = l.map fun c => .bl (decide (c ∈ a)) := by
      intro l
      induction l with
      | nil => rfl
      | cons c cs ih =>
        show D.bl (inStr (S [c]) (S a)) :: _ = _
        rw [inStr_one]
        show _ :: _ = _ :: _
        rw [ih]
    rw [this]
  · refine ⟨trivial, r.set j (.sh d), ?_, by simp [wipeR, set_set]⟩
    obtain ⟨c, hc, rfl⟩ := List.mem_map.mp hd
    have hg : (r.set j (.sh (.str (S [c]))))[j]? = some (.sh (.str (S [c]))) := List.getElem?_set_self hj
    have hl2 : j < (r.set j .un).length := by simpa using hj
    simp [bnd, setTg, setLoc, wipeR, hl2, hj, ret, andAll, evts, ev, tv, tv2, hg, hA, datM, Opd.dat, cmpD, opt, frz, Sl.dat]
  · simp only [restR, wipeR, set_set]
    have : (r[j]?).getD .un = r[j] := by rw [List.getElem?_eq_getElem hj]; rfl
    rw [this]
    exact List.set_getElem_self hj
theorem blsD_map {l : List Nat} {p : Nat → Bool} : blsD (l.map fun c => .bl (p c)) = some (l.map p) := by
  induction l with
  | nil => rfl
  | cons c cs ih =>
    show (blsD (cs.map _)).map (p c :: ·) = _
    rw [ih]
    rfl
theorem all_map {l : List Nat} {p : Nat → Bool} : biD .all [.lst (l.map fun c => .bl (p c))] = some (.val (.bl (l.all p))) := by
  show (blsD (l.map fun c => .bl (p c))).bind (fun bs => vBl (bs.all id)) = _
  rw [blsD_map]
  show vBl ((l.map p).all id) = _
  rw [List.all_map]
  rfl
theorem len_S {l : List Nat} (h : l.length ≤ line) : biD .len [.str (S l)] = some (.val (.int l.length)) := by
  show (if (S l).length ≤ line then vInt (S l).length else none) = _
  rw [S_len', if_pos h]
  rfl
theorem shaped_S {l : List Nat} (h : ∀ c ∈ l, c < 1114112) : SeqAt.shaped (.str (S l)) = true := by
  have h1 : (PyData.str (S l)).canLay0 = true := by
    show (S l).cps.all (· < 0x110000) = true
    rw [Array.all_eq_true']
    intro c hc
    exact decide_eq_true (h c (by simpa using hc))
  unfold SeqAt.shaped
  rw [h1]
  rfl
theorem S_inj {a b : List Nat} (h : S a = S b) : a = b := by
  have := congrArg (fun x : Str => x.cps.toList) h
  simpa using this
theorem S_beq {a b : List Nat} : ((S a == S b) : Bool) = decide (a = b) := by
  by_cases h : a = b
  · subst h; simp
  · rw [decide_eq_false h]
    exact beq_eq_false_iff_ne.mpr fun e => h (S_inj e)
theorem eqD_S {a b : List Nat} (ha : ∀ c ∈ a, c < 1114112) (hb : ∀ c ∈ b, c < 1114112) : eqD (.str (S a)) (.str (S b)) = some (decide (a = b)) := by
  rw [eqD_str (shaped_S ha) (shaped_S hb), S_beq]
theorem sub_S {l : List Nat} {i : Nat} {c : Nat} (hl : l.length ≤ line) (h : l[i]? = some c) : subD (.str (S l)) (.int i) = some (.str (S [c])) := by
  show (if (S l).length ≤ line then (atI (S l).cps.toList (i : Int)).map _ else none) = _
  rw [S_len', if_pos hl]
  have : (S l).cps.toList = l := by simp
  rw [this, atI_nat h]
  rfl
theorem int_run {l : List Nat} (h : ∀ c ∈ l, 48 ≤ c ∧ c ≤ 57) (hne : l ≠ []) (hl : l.length ≤ 640) : biD .int [.str (S l)] = some (.val (.int (NumText.digitsVal l : Nat))) := by
  have e := int_S (a := l) (List.all_eq_true.mpr fun c hc => by simp [h c hc]) hne (by omega)
  show (match intText? (S l) with | some n => if (S l).length ≤ 640 then vInt n else none | none => none) = _
  rw [e]
  dsimp only
  rw [S_len', if_pos hl]
  rfl
end VI

end
section
/-! VP4: draws from the bag. -/
namespace VI
open PySem L2 SX
/-- what _law_of gives of d -/
def pickD (d : D) (v : Int) : D := (subD d (.int v)).getD .non
def lenD : D → Option Nat
  | .str x => some x.length
  | .lst ds => some ds.length
  | _ => none
def OfOk (C : Orc) (p : Nat) : Prop := ∀ (b : Bg) (d : D) (n : Nat), b.Ok → lenD d = some n → 0 < n → n ≤ 1000 → C p [.ow (bagD b), .sh d] = .ok (.val (pickD d (pull b n).1)) [.ow (bagD (pull b n).2), .un]
theorem of_run {C : Orc} (hC : PullOk C 9) {b : Bg} {d : D} {n : Nat} (h : b.Ok) (hd : lenD d = some n) (hn : 0 < n) (hl : n ≤ 1000) : run C ⟨2, 2, ofB⟩ [.ow (bagD b), .sh d] = .ok (.val (pickD d (pull b n).1)) [.ow (bagD (pull b n).2), .un] := by
  have hp := hC b n h (by omega) (by omega)
  obtain ⟨p1, p2, p3⟩ := pull_ok (b := b) (m := n) h (by omega)
  have hline : (1000 : Nat) ≤ sizeLine := by decide
  generalize hv : (pull b n).1 = v at *
  have hsub : ∃ e, subD d (.int v) = some e := by
    cases d with
    | str x =>
      have hd : x.length = n := Option.some.inj hd
      have e : x.cps.toList.length = x.length := by simp; rfl
      refine ⟨.str ⟨#[x.cps.toList[v.toNat]'(by omega)]⟩, ?_⟩
      show (if x.length ≤ line then (atI x.cps.toList v).map _ else none) = _
      rw [if_pos (show x.length ≤ line by show x.length ≤ sizeLine; omega)]
      unfold atI ixN
      rw [if_pos p2, if_pos (by rw [e, hd]; exact p3)]
      show (x.cps.toList[v.toNat]?).map _ = _
      rw [List.getElem?_eq_getElem (show v.toNat < x.cps.toList.length by omega)]
      rfl
    | lst ds =>
      have hd : ds.length = n := Option.some.inj hd
      refine ⟨ds[v.toNat]'(by omega), ?_⟩
      show atI ds v = _
      unfold atI ixN
      rw [if_pos p2, if_pos (by rw [hd]; exact p3)]
      show ds[v.toNat]? = _
      rw [List.getElem?_eq_getElem (show v.toNat < ds.length by omega)]
    | _ => cases hd
  obtain ⟨e, he⟩ := hsub
  have hpk : pickD d v = e := by unfold pickD; rw [he]; rfl
  have hlen : biD .len [d] = some (.val (.int n)) := by
    cases d with
    | str x =>
      have hd : x.length = n := Option.some.inj hd
      show (if x.length ≤ line then vInt x.length else none) = _
      rw [if_pos (show x.length ≤ line by show x.length ≤ sizeLine; omega), hd]
      rfl
    | lst ds =>
      have hd : ds.length = n := Option.some.inj hd
      show vInt ds.length = _
      rw [hd]
      rfl
    | _ => cases hd
  rw [hpk]
  simp [run, ofB, exec, execs, ev, evs, tv, bnd, ret, opt, datM, datsM, Opd.dat, Sl.dat, fixd, Sl.held, hlen, callM, lendOk, lend, borH, List.filterMap_cons, hp, back, he, endR, outs]
theorem call_pull {C : Orc} (hC : PullOk C 9) {b : Bg} {m : Int} {r : Rho} {i : Nat} (h : b.Ok) (hm : 0 < m) (hm2 : m < 1073741824) (hi : r[i]? = some (.ow (bagD b))) : callM C 9 [.bor i, .val (.int m)] r = .ok (.val (.int (pull b m).1)) (r.set i (.ow (bagD (pull b m).2))) := by
  have hp := hC b m h hm hm2
  simp [callM, lendOk, lend, borH, List.filterMap_cons, hi, Sl.held, hp, back]
theorem call_of {C : Orc} {p : Nat} (hC : OfOk C p) {b : Bg} {d : D} {n : Nat} {r : Rho} {i : Nat} (h : b.Ok) (hd : lenD d = some n) (hn : 0 < n) (hl : n ≤ 1000) (hi : r[i]? = some (.ow (bagD b))) : callM C p [.bor i, .val d] r = .ok (.val (pickD d (pull b n).1)) (r.set i (.ow (bagD (pull b n).2))) := by
  have hp := hC b d n h hd hn hl
  simp [callM, lendOk, lend, borH, List.filterMap_cons, hi, Sl.held, hp, back]
theorem call_ofN {C : Orc} {p : Nat} (hC : OfOk C p) {b : Bg} {d : D} {n : Nat} {r : Rho} {i : Nat} (h : b.Ok) (hd : lenD d = some n) (hn : 0 < n) (hl : n ≤ 1000) (hi : r[i]? = some (.ow (bagD b))) : callM C p [.bor i, .new d] r = .ok (.val (pickD d (pull b n).1)) (r.set i (.ow (bagD (pull b n).2))) := by
  have hp := hC b d n h hd hn hl
  simp [callM, lendOk, lend, borH, List.filterMap_cons, hi, Sl.held, hp, back]
/-- n signs of x -/
def picks (x : List Nat) : Nat → Bg → List Nat × Bg
  | 0, b => ([], b)
  | n + 1, b => ((x[(pull b x.length).1.toNat]?).getD 0 :: (picks x n (pull b x.length).2).1, (picks x n (pull b x.length).2).2)
theorem picks_ok {x : List Nat} (hx : 0 < x.length) : ∀ {n : Nat} {b : Bg}, b.Ok → (picks x n b).2.Ok ∧ (picks x n b).1.length = n ∧ ∀ c ∈ (picks x n b).1, c ∈ x
  | 0, b, h => ⟨h, rfl, fun c hc => by cases hc⟩
  | n + 1, b, h => by
    obtain ⟨p1, p2, p3⟩ := pull_ok (b := b) (m := x.length) h (by omega)
    obtain ⟨q1, q2, q3⟩ := picks_ok hx (n := n) p1
    refine ⟨q1, by simp [picks, q2], fun c hc => ?_⟩
    rcases List.mem_cons.mp hc with e | e
    · subst e
      have hlt : (pull b x.length).1.toNat < x.length := by omega
      rw [List.getElem?_eq_getElem hlt]
      exact List.getElem_mem hlt
    · exact q3 c e
theorem pick_S {x : List Nat} {v : Int} (h0 : 0 ≤ v) (h1 : v < x.length) (hl : x.length ≤ line) : pickD (.str (S x)) v = .str (S [(x[v.toNat]?).getD 0]) := by
  obtain ⟨n, rfl⟩ := Int.eq_ofNat_of_zero_le h0
  have hn : n < x.length := by omega
  unfold pickD
  rw [sub_S hl (List.getElem?_eq_getElem hn)]
  simp [hn]
/-- [_law_of(bag, signs) for _ in range(_law_pull(bag, m))] -/
theorem draw_comp {C : Orc} (hP : PullOk C 9) (hO : OfOk C 10) {r : Rho} {i j : Nat} {eS : Ex} {x : List Nat} {b : Bg} {m : Int} (h : b.Ok) (hm : 0 < m) (hm2 : m < 100000) (hij : i ≠ j) (hi : i < r.length) (hj : j < r.length) (hx : 0 < x.length) (hxl : x.length ≤ 1000)
    (hS : ∀ (y : Sl) (b : Bg), (ev C eS).v ((r.set i (.ow (bagD b))).set j y) = .ok (.val (.str (S x))) ((r.set i (.ow (bagD b))).set j y)) :
    (ev C (.comp (.cal 10 [.loc i, eS]) (.loc j) (.itk .range [.cal 9 [.loc i, .cst (.int m)]]) [] [j])).v (r.set i (.ow (bagD b))) =
      .ok (.new (.lst ((picks x (pull b m).1.toNat (pull b m).2).1.map fun c => .str (S [c])))) (r.set i (.ow (bagD (picks x (pull b m).1.toNat (pull b m).2).2))) := by
  obtain ⟨p1, p2, p3⟩ := pull_ok h hm
  have gi : ∀ b : Bg, (r.set i (.ow (bagD b)))[i]? = some (.ow (bagD b)) := fun b => List.getElem?_set_self hi
  have hxl2 : x.length ≤ line := Nat.le_trans hxl (by decide)
  have it : (ev C (.itk .range [.cal 9 [.loc i, .cst (.int m)]])).i (r.set i (.ow (bagD b))) = .ok [.val (.int (pull b m).1)] (r.set i (.ow (bagD (pull b m).2))) := by
    have hc := call_pull hP h hm (by omega) (gi b)
    simp [ev, evs, tv, bnd, ret, gi, hc, List.set_set]
  have hr : iterD .range [.int (pull b m).1] = some (ranD 0 (pull b m).1.toNat) := by
    show (if inR _ = true then some (ranD 0 _) else none) = _
    have hin : inR (pull b m).1 = true := decide_eq_true ⟨by omega, by omega⟩
    rw [if_pos hin]
  have hlen : (ranD 0 (pull b m).1.toNat).length ≤ line := by
    rw [ranD_len]
    have : (100000 : Nat) ≤ line := by decide
    omega
  have q := comp_run (C := C) (elt := .cal 10 [.loc i, eS]) (it := .itk .range [.cal 9 [.loc i, .cst (.int m)]]) (tg := .loc j) (ifs := []) (own := [j]) (os := [.val (.int (pull b m).1)]) (ds := [.int (pull b m).1]) (items := ranD 0 (pull b m).1.toNat) (s := (pull b m).2)
    (fun b => r.set i (.ow (bagD b))) (fun b => b.Ok) (fun b _ => (.str (S [(x[(pull b x.length).1.toNat]?).getD 0]), (pull b x.length).2)) it trivial (by simp [datsM, bnd, datM, Opd.dat, ret]) hr p1 hlen (fun b d hb _ => ?_) (fun b' _ => ?_)
  · rw [q.1]
    have its_eq : ∀ (n : Nat) (lo : Int) (b : Bg), its (fun (b : Bg) (_ : D) => (D.str (S [(x[(pull b x.length).1.toNat]?).getD 0]), (pull b x.length).2)) b (ranD lo n) = ((picks x n b).1.map fun c => .str (S [c]), (picks x n b).2) := by
      intro n
      induction n with
      | zero => intro lo b; rfl
      | succ n ih => intro lo b; simp [ranD, its, picks, ih]
    rw [its_eq]
  · obtain ⟨o1, o2, o3⟩ := pull_ok (b := b) (m := x.length) hb (by omega)
    refine ⟨o1, (r.set i (.ow (bagD (pull b x.length).2))).set j (.sh d), ?_, by simp [wipeR, List.set_set]⟩
    have hl2 : j < ((r.set i (.ow (bagD b))).set j .un).length := by simpa using hj
    have g2 : ((r.set i (.ow (bagD b))).set j (.sh d))[i]? = some (.ow (bagD b)) := by
      rw [List.getElem?_set_ne (Ne.symm hij)]
      exact gi b
    have hc := call_of hO hb (d := .str (S x)) (n := x.length) (by show some (S x).length = _; rw [S_len']) hx hxl g2
    rw [pick_S o2 o3 hxl2] at hc
    have hcm : ((r.set i (.ow (bagD b))).set j (.sh d)).set i (.ow (bagD (pull b x.length).2)) = (r.set i (.ow (bagD (pull b x.length).2))).set j (.sh d) := by
      rw [List.set_comm _ _ (Ne.symm hij), List.set_set]
    rw [hcm] at hc
    simp [bnd, setTg, setLoc, wipeR, hl2, hj, ret, andAll, evts, ev, evs, tv, g2, hS, hc, frz]
  · simp only [restR, wipeR, List.set_set]
    rw [List.getElem?_set_ne hij, List.getElem?_eq_getElem hj]
    have e : (r.set i (.ow (bagD b')))[j]'(by simpa using hj) = r[j] := List.getElem_set_ne hij _
    show (r.set i (.ow (bagD b'))).set j r[j] = _
    rw [← e]
    exact List.set_getElem_self _
/-- the signs glued -/
theorem join_signs {l : List Nat} (hl : l.length ≤ 1000) : bmD .join (.str (S [])) [.lst (l.map fun c => .str (S [c]))] = some (.val (.str (S l))) := by
  have e1 : strsD (l.map fun c => .str (S [c])) = some (l.map fun c => S [c]) := by
    clear hl
    induction l with
    | nil => rfl
    | cons c cs ih =>
      show (strsD (cs.map _)).map (S [c] :: ·) = _
      rw [ih]
      rfl
  have e2 : ((l.map fun c => S [c]).map (·.length)).sum = l.length := by
    clear hl e1
    induction l with
    | nil => rfl
    | cons c cs ih => simp at ih ⊢; rw [ih]; show 1 + _ = _; omega
  show (strsD _).bind (fun ys => if (ys.map (·.length)).sum + ys.length * (S []).length ≤ 16777216 then some (Opd.val (D.str (Txt.join (S []) ys))) else none) = _
  rw [e1]
  show (if ((l.map fun c => S [c]).map (·.length)).sum + _ ≤ 16777216 then _ else _) = _
  rw [e2, S_len', if_pos (by simp; omega)]
  have e3 : (l.map fun c => S [c]) = (l.map fun c => [c]).map S := by simp
  rw [e3, join_S]
  have e4 : ∀ l : List Nat, TL.joinL [] (l.map fun c => [c]) = l := by
    intro l
    induction l with
    | nil => rfl
    | cons c cs ih =>
      cases cs with
      | nil => rfl
      | cons d ds =>
        show [c] ++ ([] ++ TL.joinL [] ((d :: ds).map fun c => [c])) = _
        rw [ih]
        rfl
  rw [e4]
end VI

end
section
/-! VP5: a def mapped over a held list. -/
namespace VI
open PySem L2 SX
theorem comp_runL {σ : Type} {C : Orc} {elt it : Ex} {tg : Tg} {ifs : List Ex} {own : List Nat} {r0 : Rho} {os : List Opd} {ds items : List D} {s : σ} {r1 : Rho} (R R2 : σ → Rho) (Inv : σ → Prop) (step : σ → D → D × σ)
    (h1 : (ev C it).i r0 = .ok os r1) (hv : lock os r1 = R s) (h2 : datsM os r1 = .ok ds r1) (h3 : iterD (ev C it).k ds = some items) (hi : Inv s) (hl : items.length ≤ line)
    (hs : ∀ s d, Inv s → d ∈ items → Inv (step s d).2 ∧ ∃ r', (bnd (setTg C [] tg (.val d)) fun _ => bnd (andAll (evts C ifs)) fun b => if b then bnd (ev C elt).v fun o => bnd (frz o) fun v => ret (some v) else ret none) (wipeR (R s) own) = .ok (some (step s d).1) r' ∧ wipeR r' own = wipeR (R (step s d).2) own)
    (hR : ∀ s', Inv s' → unlock os r1 (restR (R s) (wipeR (R s') own) own) = R2 s') :
    (ev C (.comp elt tg it ifs own)).v r0 = .ok (.new (.lst (its step s items).1)) (R2 (its step s items).2) ∧ Inv (its step s items).2 := by
  obtain ⟨r', q1, q2, q3⟩ := compN_its R Inv step items s [] (R s) hi rfl (by simpa using hl) hs
  refine ⟨?_, q3⟩
  show (bnd (ev C it).i fun os => bnd (datsM os) fun ds => bnd (opt (iterD (ev C it).k ds)) fun items => fun r => match compN own _ [] items (lock os r) with
    | .ok acc r' => Res.ok (Opd.new (.lst acc)) (unlock os r (restR (lock os r) (wipeR r' own) own))
    | .err _ _ => .bad
    | .bad => .bad) r0 = _
  simp only [bnd, h1, h2, h3, opt, ret, hv]
  rw [q1]
  dsimp only
  rw [q2, hR _ q3]
  simp
theorem map_comp {C : Orc} {r : Rho} {i j f : Nat} {g : D → D} {ds : List D} (hi : r[i]? = some (.ow (.lst ds))) (hij : i ≠ j) (hj : j < r.length) (hl : ds.length ≤ line) (hf : ∀ d ∈ ds, C f [.sh d] = .ok (.val (g d)) [.un]) :
    (ev C (.comp (.cal f [.loc j]) (.loc j) (.loc i) [] [j])).v r = .ok (.new (.lst (ds.map g))) r := by
  have hil : i < r.length := (List.getElem?_eq_some_iff.mp hi).1
  have q := comp_runL (C := C) (elt := .cal f [.loc j]) (it := .loc i) (tg := .loc j) (ifs := []) (own := [j]) (r0 := r) (r1 := r) (os := [.bor i]) (ds := [.lst ds]) (items := ds) (s := ()) (fun _ => r.set i (.lk (.lst ds))) (fun _ => r) (fun _ => True)
    (fun _ d => (g d, ())) (by simp [ev, tv, bnd, hi, ret]) (by simp [lock, hi]) (by simp [datsM, bnd, datM, Opd.dat, hi, Sl.dat, ret]) rfl trivial hl (fun s d _ hd => ?_) (fun s' _ => ?_)
  · rw [q.1]
    have : ∀ l : List D, (its (fun (_ : Unit) (d : D) => (g d, ())) () l).1 = l.map g := by
      intro l
      induction l with
      | nil => rfl
      | cons c cs ih => simp [its, ih]
    rw [this]
  · refine ⟨trivial, (r.set i (.lk (.lst ds))).set j (.sh d), ?_, by simp [wipeR, List.set_set]⟩
    have hl2 : j < ((r.set i (.lk (.lst ds))).set j .un).length := by simpa using hj
    have g2 : ((r.set i (.lk (.lst ds))).set j (.sh d))[j]? = some (.sh d) := List.getElem?_set_self (by simpa using hj)
    have hc := hf d hd
    simp [bnd, setTg, setLoc, wipeR, hj, ret, andAll, evts, ev, evs, tv, g2, callM, lendOk, lend, borH, List.filterMap_cons, hc, back, frz, -List.getElem?_set_self]
  · have e1 : restR (r.set i (.lk (.lst ds))) (wipeR (r.set i (.lk (.lst ds))) [j]) [j] = r.set i (.lk (.lst ds)) := by
      simp only [restR, wipeR, List.set_set]
      rw [List.getElem?_set_ne hij, List.getElem?_eq_getElem hj]
      have e : (r.set i (.lk (.lst ds)))[j]'(by simpa using hj) = r[j] := List.getElem_set_ne hij _
      show (r.set i (.lk (.lst ds))).set j r[j] = _
      rw [← e]
      exact List.set_getElem_self _
    rw [e1]
    have e2 : (r.set i (.lk (.lst ds)))[i]? = some (.lk (.lst ds)) := List.getElem?_set_self hil
    have e3 : r.set i (.ow (.lst ds)) = r := by
      obtain ⟨hi', e⟩ := List.getElem?_eq_some_iff.mp hi
      rw [← e]
      exact List.set_getElem_self hi'
    show (match r[i]?, (r.set i (.lk (.lst ds)))[i]? with
      | some (.ow _), some (.lk d) => unlock [] r ((r.set i (.lk (.lst ds))).set i (.ow d))
      | _, _ => unlock [] r (r.set i (.lk (.lst ds)))) = _
    rw [hi, e2]
    show (r.set i (.lk (.lst ds))).set i (.ow (.lst ds)) = r
    rw [List.set_set, e3]
end VI

end
section
namespace VI.K02
open PySem L2
def top (i : Nat) : Stmt := PySem.Challenge.pw_gobetween_k02_words_and_numbers.main.body.getD i (.Pass ⟨0, 0, 0, 0⟩)
def gl (x : Str) : Option Gl1 :=
  if x = "LETTERS" then some (.con (.str "abcdefghijklmnopqrstuvwxyz")) else
  if x = "FIGURES" then some (.con (.str "0123456789")) else
  if x = "MOST_LETTERS" then some (.con (.int 8)) else
  if x = "MOST_FIGURES" then some (.con (.int 30)) else
  if x = "is_word" then some (.fn 5 ["value"]) else
  if x = "number_in" then some (.fn 6 ["text"]) else
  if x = "_law_bag" then some (.fn 8 ["_law_script"]) else
  if x = "_law_pull" then some (.fn 9 ["_law_bag_here", "_law_many_z"]) else
  if x = "_law_of" then some (.fn 10 ["_law_bag_here", "_law_some"]) else
  if x = "_law_same" then some (.fn 11 ["_law_found", "_law_due"]) else
  if x = "law" then some (.fn 12 ["_law_script"]) else
  none
def N5 : List Str := ["value", "sign"]
def N6 : List Str := ["text", "sign"]
def N8 : List Str := ["_law_script"]
def N9 : List Str := ["_law_bag_here", "_law_many_z", "_law_cell", "_law_got", "_law_seed"]
def N10 : List Str := ["_law_bag_here", "_law_some"]
def N11 : List Str := ["_law_found", "_law_due", "_law_one_z", "_law_other_z"]
def N12 : List Str := ["_law_script", "_law_bag_here", "_law_signs", "_law_turn", "_law_k", "_law_text_z", "_law_at_z", "_law_bent", "_law_sign", "_law_due", "_law_some", "_law_spot", "_law_odd", "_law_good_z", "_law_fixed", "_law_one_z", "_law_numerals"]
def B (i : Nat) (N : List Str) : List Sx := trSs gl N (defScope (top i)) (defBody (top i))
def T : Nat → Option Fn
  | 5 => some ⟨1, 2, B 5 N5⟩
  | 6 => some ⟨1, 2, B 6 N6⟩
  | 8 => some ⟨1, 1, B 8 N8⟩
  | 9 => some ⟨2, 5, B 9 N9⟩
  | 10 => some ⟨2, 2, B 10 N10⟩
  | 11 => some ⟨2, 4, B 11 N11⟩
  | 12 => some ⟨1, 17, B 12 N12⟩
  | _ => none
end VI.K02

end
section
namespace VI.K02
open PySem L2
def b5 : List Sx := [.ife
   (.or
     (.inv (.bi .isi [.loc 0, .cst (.ty "str")]))
     (.inv (.chn .LtE .LtE (.cst (.int 1)) (.bi .len [.loc 0]) (.cst (.int 8)))))
   [.rtn (.cst (.bl false))]
   [],
 .rtn (.bi .all [.comp (.cmp .In (.loc 1) (.cst (.str "abcdefghijklmnopqrstuvwxyz"))) (.loc 1) (.loc 0) [] [1]])]
theorem b5_eq : B 5 N5 = b5 := by rfl
def b6 : List Sx := [.ife
   (.or
     (.inv (.chn .LtE .LtE (.cst (.int 1)) (.bi .len [.loc 0]) (.cst (.int 30))))
     (.inv (.bi .all [.comp (.cmp .In (.loc 1) (.cst (.str "0123456789"))) (.loc 1) (.loc 0) [] [1]])))
   [.rtn (.cst .non)]
   [],
 .rtn
   (.ite
     (.and
       (.cmp .Gt (.bi .len [.loc 0]) (.cst (.int 1)))
       (.cmp .Eq (.sub (.loc 0) (.cst (.int 0))) (.cst (.str "0"))))
     (.cst .non)
     (.bi .int [.loc 0]))]
theorem b6_eq : B 6 N6 = b6 := by rfl
def b8 : List Sx := [.rtn
   (.lst [.bi .list [.slc (.loc 0) none (some (.cst (.int 63)))], .cst (.int 0), .cst (.int 0), .cst (.int 5750)])]
theorem b8_eq : B 8 N8 = b8 := by rfl
def b9 : List Sx := [.ife
   (.and
     (.cmp .Eq (.sub (.loc 0) (.cst (.int 2))) (.cst (.int 0)))
     (.cmp .Lt (.sub (.loc 0) (.cst (.int 1))) (.bi .len [.sub (.loc 0) (.cst (.int 0))])))
   [.asg (.loc 2) (.sub (.sub (.loc 0) (.cst (.int 0))) (.sub (.loc 0) (.cst (.int 1)))),
    .asg (.sub (.loc 0) (.cst (.int 1))) (.bin .Add (.sub (.loc 0) (.cst (.int 1))) (.cst (.int 1))),
    .ife
      (.cmp .GtE (.loc 2) (.bin .Pow (.cst (.int 10)) (.cst (.int 18))))
      [.asg (.sub (.loc 0) (.cst (.int 2))) (.loc 2)]
      [.asg
         (.sub (.loc 0) (.cst (.int 3)))
         (.bin
           .Mod
           (.bi
             .int
             [.bin
                .Add
                (.bin
                  .Add
                  (.bin .Mult (.sub (.loc 0) (.cst (.int 3))) (.cst (.int 52711)))
                  (.bin
                    .Mult
                    (.bin .Mod (.bi .int [.loc 2]) (.cst (.int 2147482661)))
                    (.cst (.int 8563))))
                (.cst (.int 83))])
           (.cst (.int 2147483477)))]]
   [],
 .ife
   (.cmp .Gt (.sub (.loc 0) (.cst (.int 2))) (.cst (.int 0)))
   [.asg (.loc 3) (.bin .Mod (.bi .int [.sub (.loc 0) (.cst (.int 2))]) (.loc 1)),
    .asg (.sub (.loc 0) (.cst (.int 2))) (.bin .FloorDiv (.sub (.loc 0) (.cst (.int 2))) (.loc 1)),
    .rtn (.loc 3)]
   [],
 .asg (.loc 4) (.sub (.loc 0) (.cst (.int 3))),
 .asg
   (.sub (.loc 0) (.cst (.int 3)))
   (.bin
     .Mod
     (.bi
       .int
       [.bin
          .Add
          (.bin
            .Add
            (.bin .Mult (.loc 4) (.loc 4))
            (.bin .Mult (.loc 4) (.cst (.int 31891))))
          (.cst (.int 1620047))])
     (.cst (.int 2147483477))),
 .rtn
   (.bin
     .Mod
     (.bi
       .int
       [.bin
          .Add
          (.bin .FloorDiv (.sub (.loc 0) (.cst (.int 3))) (.cst (.int 67)))
          (.bin
            .Mult
            (.bin .Mod (.bi .int [.sub (.loc 0) (.cst (.int 3))]) (.cst (.int 8009)))
            (.cst (.int 59)))])
     (.loc 1))]
theorem b9_eq : B 9 N9 = b9 := by rfl
def b10 : List Sx := [.rtn (.sub (.loc 1) (.cal 9 [.loc 0, .bi .len [.loc 1]]))]
theorem b10_eq : B 10 N10 = b10 := by rfl
def b11 : List Sx := [.ife
   (.bi .isi [.loc 1, .tup [.cst (.ty "list"), .cst (.ty "tuple")]])
   [.ife
      (.or
        (.cmp .NotEq (.bi .isi [.loc 0, .cst (.ty "list")]) (.bi .isi [.loc 1, .cst (.ty "list")]))
        (.cmp .NotEq (.bi .isi [.loc 0, .cst (.ty "tuple")]) (.bi .isi [.loc 1, .cst (.ty "tuple")])))
      [.rtn (.cst (.bl false))]
      [],
    .rtn
      (.and
        (.cmp .Eq (.bi .len [.loc 0]) (.bi .len [.loc 1]))
        (.bi
          .all
          [.comp (.cal 11 [.loc 2, .loc 3]) (.tup [.loc 2, .loc 3]) (.itk .zip [.loc 0, .loc 1]) [] [2, 3]]))]
   [],
 .ife
   (.or (.cmp .Is (.loc 1) (.cst .non)) (.cmp .Is (.loc 0) (.cst .non)))
   [.rtn (.and (.cmp .Is (.loc 1) (.cst .non)) (.cmp .Is (.loc 0) (.cst .non)))]
   [],
 .ife
   (.or
     (.cmp .NotEq (.bi .isi [.loc 0, .cst (.ty "bool")]) (.bi .isi [.loc 1, .cst (.ty "bool")]))
     (.cmp .NotEq (.bi .isi [.loc 0, .cst (.ty "int")]) (.bi .isi [.loc 1, .cst (.ty "int")])))
   [.rtn (.cst (.bl false))]
   [],
 .rtn
   (.and
     (.cmp .Eq (.bi .isi [.loc 0, .cst (.ty "str")]) (.bi .isi [.loc 1, .cst (.ty "str")]))
     (.cmp .Eq (.loc 0) (.loc 1)))]
theorem b11_eq : B 11 N11 = b11 := by rfl
def b12 : List Sx := [.asg (.loc 1) (.cal 8 [.loc 0]),
 .asg (.loc 2) (.cst (.str "abcdefghijklmnopqrstuvwxyz")),
 .forr
   (.loc 3)
   (.itk .range [.cst (.int 12)])
   [.asg
      (.loc 5)
      (.bm
        .join
        (.cst (.str ""))
        [.comp (.cal 10 [.loc 1, .loc 2]) (.loc 4) (.itk .range [.cal 9 [.loc 1, .cst (.int 13)]]) [] [4]]),
    .asg (.loc 6) (.cal 9 [.loc 1, .bin .Add (.bi .len [.loc 5]) (.cst (.int 1))]),
    .asg
      (.loc 7)
      (.bin
        .Add
        (.bin
          .Add
          (.slc (.loc 5) none (some (.loc 6)))
          (.cal
            10
            [.loc 1,
             .lst
               [.cst (.str ""),
                .cst (.str ""),
                .cst (.str "A"),
                .cst (.str "0"),
                .cst (.str " "),
                .cst (.str "-"),
                .cst (.str "{"),
                .cst (.str "`"),
                .cst (.str "\n"),
                .cst (.str ":")]]))
        (.slc (.loc 5) (some (.loc 6)) none)),
    .asg
      (.loc 9)
      (.and
        (.chn .LtE .LtE (.cst (.int 1)) (.bi .len [.loc 7]) (.cst (.int 8)))
        (.bi .all [.comp (.cmp .In (.loc 8) (.loc 2)) (.loc 8) (.loc 7) [] [8]])),
    .ife
      (.inv
        (.cal
          11
          [.lst [.cal 5 [.loc 7], .cal 5 [.loc 5]],
           .lst [.loc 9, .chn .LtE .LtE (.cst (.int 1)) (.bi .len [.loc 5]) (.cst (.int 8))]]))
      [.rtn (.cst (.bl false))]
      [],
    .asg
      (.loc 10)
      (.bm
        .join
        (.cst (.str ""))
        [.comp
           (.cal 10 [.loc 1, .cst (.str "0123456789")])
           (.loc 4)
           (.itk .range [.cal 9 [.loc 1, .cst (.int 33)]])
           []
           [4]]),
    .asg (.loc 11) (.cal 9 [.loc 1, .bin .Add (.bi .len [.loc 10]) (.cst (.int 1))]),
    .asg
      (.loc 12)
      (.bin
        .Add
        (.bin
          .Add
          (.slc (.loc 10) none (some (.loc 11)))
          (.cal
            10
            [.loc 1,
             .lst
               [.cst (.str ""),
                .cst (.str ""),
                .cst (.str ""),
                .cst (.str "-"),
                .cst (.str "+"),
                .cst (.str " "),
                .cst (.str "_"),
                .cst (.str "a"),
                .cst (.str "0"),
                .cst (.str "\n")]]))
        (.slc (.loc 10) (some (.loc 11)) none)),
    .asg
      (.loc 13)
      (.and
        (.chn .LtE .LtE (.cst (.int 1)) (.bi .len [.loc 12]) (.cst (.int 30)))
        (.bi .all [.comp (.cmp .In (.loc 8) (.cst (.str "0123456789"))) (.loc 8) (.loc 12) [] [8]])),
    .asg
      (.loc 13)
      (.and
        (.loc 13)
        (.or
          (.cmp .Eq (.loc 12) (.cst (.str "0")))
          (.cmp .NotEq (.sub (.loc 12) (.cst (.int 0))) (.cst (.str "0"))))),
    .ife
      (.inv (.cal 11 [.cal 6 [.loc 12], .ite (.loc 13) (.bi .int [.loc 12]) (.cst .non)]))
      [.rtn (.cst (.bl false))]
      []],
 .asg
   (.loc 14)
   (.lst
     [.cst .non,
      .cst (.int 3),
      .cst (.bl true),
      .lst [.cst (.str "a")],
      .tup [.cst (.str "a")],
      .cst (.str ""),
      .bin .Mult (.cst (.str "a")) (.cst (.int 8)),
      .bin .Mult (.cst (.str "a")) (.cst (.int 9))]),
 .ife
   (.inv
     (.cal
       11
       [.comp (.cal 5 [.loc 15]) (.loc 15) (.loc 14) [] [15],
        .lst
          [.cst (.bl false),
           .cst (.bl false),
           .cst (.bl false),
           .cst (.bl false),
           .cst (.bl false),
           .cst (.bl false),
           .cst (.bl true),
           .cst (.bl false)]]))
   [.rtn (.cst (.bl false))]
   [],
 .asg
   (.loc 16)
   (.lst
     [.cst (.str "0"),
      .cst (.str "00"),
      .bin .Mult (.cst (.str "9")) (.cst (.int 30)),
      .bin .Mult (.cst (.str "9")) (.cst (.int 31)),
      .bin .Add (.cst (.str "1")) (.bin .Mult (.cst (.str "0")) (.cst (.int 29))),
      .cst (.str ""),
      .cst (.str " 1")]),
 .rtn
   (.cal
     11
     [.comp (.cal 6 [.loc 15]) (.loc 15) (.loc 16) [] [15],
      .lst
        [.cst (.int 0),
         .cst .non,
         .bin .Sub (.bin .Pow (.cst (.int 10)) (.cst (.int 30))) (.cst (.int 1)),
         .cst .non,
         .bin .Pow (.cst (.int 10)) (.cst (.int 29)),
         .cst .non,
         .cst .non]])]
theorem b12_eq : B 12 N12 = b12 := by rfl
end VI.K02

end
section
namespace VI.K02
open PySem L2 SX
def letters : List Nat := [97, 98, 99, 100, 101, 102, 103, 104, 105, 106, 107, 108, 109, 110, 111, 112, 113, 114, 115, 116, 117, 118, 119, 120, 121, 122]
def figures : List Nat := [48, 49, 50, 51, 52, 53, 54, 55, 56, 57]
theorem letters_eq : ("abcdefghijklmnopqrstuvwxyz" : Str) = S letters := by decide +kernel
theorem figures_eq : ("0123456789" : Str) = S figures := by decide +kernel
def wordB (l : List Nat) : Bool := decide (1 ≤ l.length) && decide (l.length ≤ 8) && l.all fun c => decide (c ∈ letters)
theorem word_run {C : Orc} {l : List Nat} (h : l.length ≤ 1000) : run C ⟨1, 2, b5⟩ [.sh (.str (S l))] = .ok (.val (.bl (wordB l))) [.un] := by
  have hl : l.length ≤ line := Nat.le_trans h (by decide)
  have hc := signs_comp (C := C) (r := [.sh (.str (S l)), .un]) (i := 0) (j := 1) (eA := .cst (.str (S letters))) (a := letters) (l := l) (by simp) rfl (fun x => rfl) hl
  have hlen := len_S hl
  have hall := all_map (l := l) (p := fun c => decide (c ∈ letters))
  have hisi : biD .isi [.str (S l), .ty "str"] = some (.val (.bl true)) := rfl
  unfold b5
  rw [letters_eq]
  generalize Ex.comp _ _ _ _ _ = E at hc ⊢
  by_cases h1 : 1 ≤ l.length
  · have e1 : (1 : Int) ≤ (l.length : Int) := by omega
    by_cases h8 : l.length ≤ 8
    · have e2 : (l.length : Int) ≤ 8 := by omega
      simp [run, exec, execs, ev, evs, tv, tv2, bnd, ret, opt, datM, datsM, Opd.dat, Sl.dat, fixd, Sl.held, tru, truD, hisi, hlen, hall, hc, cmpD, endR, outs, wordB, h1, h8, e1, e2]
    · have e2 : ¬ (l.length : Int) ≤ 8 := by omega
      simp [run, exec, execs, ev, evs, tv, tv2, bnd, ret, opt, datM, datsM, Opd.dat, Sl.dat, fixd, Sl.held, tru, truD, hisi, hlen, cmpD, endR, outs, wordB, h1, h8, e1, e2]
  · have e1 : ¬ (1 : Int) ≤ (l.length : Int) := by omega
    simp [run, exec, execs, ev, evs, tv, tv2, bnd, ret, opt, datM, datsM, Opd.dat, Sl.dat, fixd, Sl.held, tru, truD, hisi, hlen, cmpD, endR, outs, wordB, h1, e1]
def goodB (l : List Nat) : Bool := decide (1 ≤ l.length) && decide (l.length ≤ 30) && l.all fun c => decide (c ∈ figures)
def numD (l : List Nat) : D := if goodB l then (if 1 < l.length ∧ l[0]? = some 48 then .non else .int (NumText.digitsVal l : Nat)) else .non
theorem figs {l : List Nat} (h : (l.all fun c => decide (c ∈ figures)) = true) : ∀ c ∈ l, 48 ≤ c ∧ c ≤ 57 := fun c hc => by
  have := of_decide_eq_true (List.all_eq_true.mp h c hc)
  simp [figures] at this
  omega
theorem num_run {C : Orc} {l : List Nat} (h : l.length ≤ 1000) : run C ⟨1, 2, b6⟩ [.sh (.str (S l))] = .ok (.val (numD l)) [.un] := by
  have hl : l.length ≤ line := Nat.le_trans h (by decide)
  have hc := signs_comp (C := C) (r := [.sh (.str (S l)), .un]) (i := 0) (j := 1) (eA := .cst (.str (S figures))) (a := figures) (l := l) (by simp) rfl (fun x => rfl) hl
  have hlen := len_S hl
  have hall := all_map (l := l) (p := fun c => decide (c ∈ figures))
  unfold b6
  rw [figures_eq, show ("0" : Str) = S [48] from by decide +kernel]
  generalize Ex.comp _ _ _ _ _ = E at hc ⊢
  by_cases h1 : 1 ≤ l.length
  · have e1 : (1 : Int) ≤ (l.length : Int) := by omega
    by_cases h8 : l.length ≤ 30
    · have e2 : (l.length : Int) ≤ 30 := by omega
      by_cases hf : (l.all fun c => decide (c ∈ figures)) = true
      · have hfg := figs hf
        have hne : l ≠ [] := by intro e; subst e; simp at h1
        have hint := int_run hfg hne (by omega)
        obtain ⟨c, hc0⟩ : ∃ c, l[0]? = some c := ⟨l[0], List.getElem?_eq_getElem (by omega)⟩
        have hcm : c ∈ l := List.mem_of_getElem? hc0
        have hsub : subD (.str (S l)) (.int 0) = some (.str (S [c])) := sub_S hl hc0
        have heq : eqD (.str (S [c])) (.str (S [48])) = some (decide ([c] = [48])) := eqD_S (fun x hx => by simp at hx; subst hx; have := hfg _ hcm; omega) (fun x hx => by simp at hx; omega)
        by_cases hb : 1 < l.length
        · have e3 : (1 : Int) < (l.length : Int) := by omega
          by_cases hz : c = 48
          · subst hz
            simp [run, exec, execs, ev, evs, tv, tv2, bnd, ret, opt, datM, datsM, Opd.dat, Sl.dat, fixd, Sl.held, tru, truD, hlen, hall, hc, cmpD, endR, outs, numD, goodB, h1, h8, e1, e2, hf, e3, hb, hsub, heq, hc0]
          · simp [run, exec, execs, ev, evs, tv, tv2, bnd, ret, opt, datM, datsM, Opd.dat, Sl.dat, fixd, Sl.held, tru, truD, hlen, hall, hc, cmpD, endR, outs, numD, goodB, h1, h8, e1, e2, hf, e3, hb, hsub, heq, hc0, hz, hint]
        · have e3 : ¬ (1 : Int) < (l.length : Int) := by omega
          simp [run, exec, execs, ev, evs, tv, tv2, bnd, ret, opt, datM, datsM, Opd.dat, Sl.dat, fixd, Sl.held, tru, truD, hlen, hall, hc, cmpD, endR, outs, numD, goodB, h1, h8, e1, e2, hf, e3, hb, hint]
      · have hf' : (l.all fun c => decide (c ∈ figures)) = false := by simpa using hf
        rw [hf'] at hall
        simp only [run, numD, goodB, hf']
        simp [exec, execs, ev, evs, tv, tv2, bnd, ret, opt, datM, datsM, Opd.dat, Sl.dat, fixd, Sl.held, tru, truD, hlen, hall, hc, cmpD, endR, outs, h1, h8, e1, e2]
    · have e2 : ¬ (l.length : Int) ≤ 30 := by omega
      simp [run, exec, execs, ev, evs, tv, tv2, bnd, ret, opt, datM, datsM, Opd.dat, Sl.dat, fixd, Sl.held, tru, truD, hlen, cmpD, endR, outs, numD, goodB, h1, h8, e1, e2]
  · have e1 : ¬ (1 : Int) ≤ (l.length : Int) := by omega
    simp [run, exec, execs, ev, evs, tv, tv2, bnd, ret, opt, datM, datsM, Opd.dat, Sl.dat, fixd, Sl.held, tru, truD, hlen, cmpD, endR, outs, numD, goodB, h1, e1]
end VI.K02

end
section
namespace VI.K02
open PySem L2 SX
/-- what the law's calls give -/
structure Env (C : Orc) : Prop where
  pull : PullOk C 9
  of : OfOk C 10
  word : ∀ l : List Nat, l.length ≤ 1000 → C 5 [.sh (.str (S l))] = .ok (.val (.bl (wordB l))) [.un]
  num : ∀ l : List Nat, l.length ≤ 1000 → C 6 [.sh (.str (S l))] = .ok (.val (numD l)) [.un]
  same : SameOk C 11 1
theorem cut_S {l : List Nat} {n : Nat} (hn : n ≤ l.length) : cutS (S l) none (some (n : Int)) = S (l.take n) ∧ cutS (S l) (some (n : Int)) none = S (l.drop n) := by
  have hl : (S l).length = l.length := S_len'
  have hc : (S l).cps.toList = l := by simp
  constructor
  · unfold cutS
    rw [hl, hc, HT.sIx_nat, Nat.min_eq_left hn]
    rfl
  · unfold cutS
    rw [hl, hc, HT.sIx_nat, Nat.min_eq_left hn]
    show (⟨((l.drop n).take (l.length - n)).toArray⟩ : Str) = _
    rw [List.take_of_length_le (by simp)]
theorem app_S {a b : List Nat} : (S a ++ S b : Str) = S (a ++ b) := by
  apply TL.ext_tl
  show (S a ++ S b : Str).cps.toList = _
  rw [show (S a ++ S b : Str).cps.toList = (S a).cps.toList ++ (S b).cps.toList from TL.tl_append _ _]
theorem add_S {a b : List Nat} (h : a.length + b.length ≤ 1000) : binD .Add (.str (S a)) (.str (S b)) = some (.val (.str (S (a ++ b)))) := by
  show (if (S a).length + (S b).length ≤ line then some (Opd.val (D.str (S a ++ S b))) else none) = _
  rw [S_len', S_len', if_pos (Nat.le_trans h (by decide)), app_S]
theorem slc_S1 {l : List Nat} {n : Nat} (hn : n ≤ l.length) (hl : l.length ≤ 1000) : slcD (.str (S l)) none (some (n : Int)) = some (.val (.str (S (l.take n)))) := by
  show (if (S l).length ≤ line then some (Opd.val (D.str (cutS (S l) none (some (n : Int))))) else none) = _
  rw [S_len', if_pos (Nat.le_trans hl (by decide)), (cut_S hn).1]
theorem slc_S2 {l : List Nat} {n : Nat} (hn : n ≤ l.length) (hl : l.length ≤ 1000) : slcD (.str (S l)) (some (n : Int)) none = some (.val (.str (S (l.drop n)))) := by
  show (if (S l).length ≤ line then some (Opd.val (D.str (cutS (S l) (some (n : Int)) none))) else none) = _
  rw [S_len', if_pos (Nat.le_trans hl (by decide)), (cut_S hn).2]
/-- text := ''.join(..) -/
theorem do_join {C : Orc} {fx : List Nat} {i : Nat} {X : Ex} {r r' : Rho} {l : List Nat} (hi : i < r'.length) (hf : i ∉ fx) (hX : (ev C X).v r = .ok (.new (.lst (l.map fun c => .str (S [c])))) r') (hl : l.length ≤ 1000) :
    exec C fx (.asg (.loc i) (.bm .join (.cst (.str (S []))) [X])) r = .ok .nx (r'.set i (.sh (.str (S l)))) := by
  have hj := join_signs hl
  simp [exec, ev, evs, tv, bnd, ret, opt, datM, datsM, Opd.dat, clsOf, Bm.cls, hX, hj, setTg, setLoc, hf, hi]
/-- at := pull(bag, len(text) + 1) -/
theorem do_at {C : Orc} {fx : List Nat} (hP : PullOk C 9) {i j k : Nat} {r : Rho} {l : List Nat} {b : Bg} (h : b.Ok) (hf : i ∉ fx) (hb : r[k]? = some (.ow (bagD b))) (ht : r[j]? = some (.sh (.str (S l)))) (hl : l.length ≤ 1000) (hi : i < r.length) :
    exec C fx (.asg (.loc i) (.cal 9 [.loc k, .bin .Add (.bi .len [.loc j]) (.cst (.int 1))])) r = .ok .nx ((r.set k (.ow (bagD (pull b (l.length + 1 : Nat)).2))).set i (.sh (.int (pull b (l.length + 1 : Nat)).1))) := by
  have hc := call_pull hP (m := ((l.length + 1 : Nat) : Int)) h (by omega) (by omega) hb
  have hlen := len_S (l := l) (Nat.le_trans hl (by decide))
  have ha : binD .Add (.int l.length) (.int 1) = some (.val (.int ((l.length + 1 : Nat) : Int))) := by rw [bin_add]; rfl
  have hi2 : i < (r.set k (.ow (bagD (pull b (l.length + 1 : Nat)).2))).length := by simpa using hi
  rw [show ((l.length + 1 : Nat) : Int) = ((l.length : Int) + 1) from by omega] at *
  simp [exec, ev, evs, tv, bnd, ret, opt, datM, datsM, Opd.dat, hb, ht, hlen, ha, hc, setTg, setLoc, hf, hi]
/-- bent := text[:at] + of(bag, odd) + text[at:] -/
theorem do_bent {C : Orc} {fx : List Nat} (hO : OfOk C 10) {i j k a : Nat} {E : Ex} {r : Rho} {l o : List Nat} {n m : Nat} {ds : List D} {b : Bg} (h : b.Ok) (hf : i ∉ fx) (hb : r[k]? = some (.ow (bagD b))) (ht : r[j]? = some (.sh (.str (S l)))) (ha : r[a]? = some (.sh (.int n))) (hn : n ≤ l.length) (hl : l.length ≤ 900) (hi : i < r.length) (hk : k ≠ j) (hka : k ≠ a)
    (hE : (ev C E).v r = .ok (.new (.lst ds)) r) (hm : ds.length = m) (hm0 : 0 < m) (hm1 : m ≤ 1000) (ho : pickD (.lst ds) (pull b m).1 = .str (S o)) (hol : o.length ≤ 10) :
    exec C fx (.asg (.loc i) (.bin .Add (.bin .Add (.slc (.loc j) none (some (.loc a))) (.cal 10 [.loc k, E])) (.slc (.loc j) (some (.loc a)) none))) r =
      .ok .nx ((r.set k (.ow (bagD (pull b m).2))).set i (.sh (.str (S (l.take n ++ o ++ l.drop n))))) := by
  have hc := call_ofN hO (d := .lst ds) (n := m) h (by show some ds.length = _; rw [hm]) hm0 hm1 hb
  rw [ho] at hc
  have h1 := slc_S1 hn (by omega)
  have h2 := slc_S2 hn (by omega)
  have ht' : (r.set k (.ow (bagD (pull b m).2)))[j]? = some (.sh (.str (S l))) := by rw [List.getElem?_set_ne hk]; exact ht
  have ha' : (r.set k (.ow (bagD (pull b m).2)))[a]? = some (.sh (.int n)) := by rw [List.getElem?_set_ne hka]; exact ha
  have a1 := add_S (a := l.take n) (b := o) (by simp; omega)
  have a2 := add_S (a := l.take n ++ o) (b := l.drop n) (by simp; omega)
  simp [exec, ev, evs, evo, tv, bnd, ret, opt, datM, datsM, Opd.dat, hb, ht, ha, ht', ha', Sl.dat, hE, hc, h1, h2, a1, a2, setTg, setLoc, hf, hi]
/-- good := lo <= len(text) <= hi and all([sign in signs for sign in text]) -/
theorem do_good {C : Orc} {fx : List Nat} {i j q : Nat} {eA : Ex} {r : Rho} {l a : List Nat} {lo hi : Nat} (hf : i ∉ fx) (hi2 : i < r.length) (hq : q < r.length) (ht : r[j]? = some (.sh (.str (S l)))) (hl : l.length ≤ 1000)
    (hA : ∀ x, (ev C eA).v (r.set q x) = .ok (.val (.str (S a))) (r.set q x)) :
    exec C fx (.asg (.loc i) (.and (.chn .LtE .LtE (.cst (.int lo)) (.bi .len [.loc j]) (.cst (.int hi))) (.bi .all [.comp (.cmp .In (.loc q) eA) (.loc q) (.loc j) [] [q]]))) r =
      .ok .nx (r.set i (.sh (.bl (decide (lo ≤ l.length) && decide (l.length ≤ hi) && l.all fun c => decide (c ∈ a))))) := by
  have hll : l.length ≤ line := Nat.le_trans hl (by decide)
  have hc := signs_comp (C := C) hq ht hA hll
  have hlen := len_S hll
  have hall := all_map (l := l) (p := fun c => decide (c ∈ a))
  generalize Ex.comp _ _ _ _ _ = E at hc ⊢
  by_cases h1 : lo ≤ l.length
  · have e1 : (lo : Int) ≤ (l.length : Int) := by omega
    by_cases h8 : l.length ≤ hi
    · have e2 : (l.length : Int) ≤ hi := by omega
      simp [exec, ev, evs, tv, tv2, bnd, ret, opt, datM, datsM, Opd.dat, ht, hlen, hall, hc, cmpD, h1, h8, setTg, setLoc, hf, hi2]
    · have e2 : ¬ (l.length : Int) ≤ hi := by omega
      simp [exec, ev, evs, tv, tv2, bnd, ret, opt, datM, datsM, Opd.dat, ht, hlen, cmpD, h1, h8, setTg, setLoc, hf, hi2]
  · have e1 : ¬ (lo : Int) ≤ (l.length : Int) := by omega
    simp [exec, ev, evs, tv, tv2, bnd, ret, opt, datM, datsM, Opd.dat, ht, hlen, cmpD, h1, setTg, setLoc, hf, hi2]
/-- the two tests of the turn -/
theorem do_words {C : Orc} {fx : List Nat} (V : Env C) {i j g : Nat} {r : Rho} {l w : List Nat} (hb : r[i]? = some (.sh (.str (S l)))) (ht : r[j]? = some (.sh (.str (S w)))) (hl : l.length ≤ 1000) (hw : w.length ≤ 1000) (hg : r[g]? = some (.sh (.bl (wordB l)))) (hin : (w.all fun c => decide (c ∈ letters)) = true) {ss : List Sx} :
    exec C fx (.ife (.inv (.cal 11 [.lst [.cal 5 [.loc i], .cal 5 [.loc j]], .lst [.loc g, .chn .LtE .LtE (.cst (.int 1)) (.bi .len [.loc j]) (.cst (.int 8))]])) ss []) r = .ok .nx r := by
  have h1 := V.word l hl
  have h2 := V.word w hw
  have hwB : wordB w = (decide (1 ≤ w.length) && decide (w.length ≤ 8)) := by unfold wordB; rw [hin, Bool.and_true]
  have hs := V.same (.lst [.bl (wordB l), .bl (wordB w)]) ⟨(by show 2 < sizeLine; decide), fun d hd => by simp at hd; rcases hd with rfl | rfl <;> trivial⟩
  have hlen := len_S (l := w) (Nat.le_trans hw (by decide))
  have hline : (2 : Nat) ≤ line := by decide
  rw [hwB] at h2 hs
  by_cases c1 : 1 ≤ w.length
  · have e1 : (1 : Int) ≤ (w.length : Int) := by omega
    by_cases c8 : w.length ≤ 8
    · have e8 : (w.length : Int) ≤ 8 := by omega
      simp [c1, c8] at h2 hs
      simp [exec, execs, ev, evs, tv, tv2, bnd, ret, opt, datM, datsM, Opd.dat, hb, ht, hg, Sl.dat, callM, lendOk, lend, borH, List.filterMap_cons, h1, h2, back, frz, frzs, hline, hlen, cmpD, e1, e8, hs, tru, truD]
    · have e8 : ¬ (w.length : Int) ≤ 8 := by omega
      simp [c1, c8] at h2 hs
      simp [exec, execs, ev, evs, tv, tv2, bnd, ret, opt, datM, datsM, Opd.dat, hb, ht, hg, Sl.dat, callM, lendOk, lend, borH, List.filterMap_cons, h1, h2, back, frz, frzs, hline, hlen, cmpD, e1, e8, hs, tru, truD]
  · have e1 : ¬ (1 : Int) ≤ (w.length : Int) := by omega
    simp [c1] at h2 hs
    simp [exec, execs, ev, evs, tv, tv2, bnd, ret, opt, datM, datsM, Opd.dat, hb, ht, hg, Sl.dat, callM, lendOk, lend, borH, List.filterMap_cons, h1, h2, back, frz, frzs, hline, hlen, cmpD, e1, hs, tru, truD]
def goodZ (l : List Nat) : Bool := goodB l && (decide (l = [48]) || !decide (l[0]? = some 48))
theorem numD_eq {l : List Nat} : numD l = if goodZ l then .int (NumText.digitsVal l : Nat) else .non := by
  unfold numD goodZ
  cases hg : goodB l with
  | false => simp
  | true =>
    have h1 : 1 ≤ l.length := by
      unfold goodB at hg
      rw [Bool.and_eq_true, Bool.and_eq_true, decide_eq_true_eq] at hg
      exact hg.1.1
    match l, h1 with
    | [c], _ =>
      by_cases hc : c = 48
      · subst hc; simp
      · simp [hc]
    | c :: d :: ds, _ =>
      by_cases hc : c = 48
      · subst hc; simp
      · simp [hc]
theorem asg_val {C : Orc} {fx : List Nat} {i : Nat} {e : Ex} {d : D} {r r' : Rho} (hf : i ∉ fx) (hi : i < r'.length) (h : (ev C e).v r = .ok (.val d) r') : exec C fx (.asg (.loc i) e) r = .ok .nx (r'.set i (.sh d)) := by
  simp [exec, bnd, h, setTg, setLoc, hf, hi, ret]
theorem do_zero {C : Orc} {fx : List Nat} {i j : Nat} {r : Rho} {l : List Nat} (hf : i ∉ fx) (hi2 : i < r.length) (ht : r[j]? = some (.sh (.str (S l)))) (hl : l.length ≤ 1000) (hg : r[i]? = some (.sh (.bl (goodB l)))) :
    exec C fx (.asg (.loc i) (.and (.loc i) (.or (.cmp .Eq (.loc j) (.cst (.str (S [48])))) (.cmp .NotEq (.sub (.loc j) (.cst (.int 0))) (.cst (.str (S [48]))))))) r = .ok .nx (r.set i (.sh (.bl (goodZ l)))) := by
  refine asg_val hf hi2 ?_
  clear hi2 hf
  unfold goodZ
  cases hgo : goodB l with
  | false =>
    rw [hgo] at hg
    simp [ev, evs, tv, tv2, bnd, ret, opt, datM, Opd.dat, hg]
  | true =>
    rw [hgo] at hg
    have hgo' := hgo
    unfold goodB at hgo'
    rw [Bool.and_eq_true, Bool.and_eq_true, decide_eq_true_eq] at hgo'
    have hfg := figs hgo'.2
    have h1 := hgo'.1.1
    obtain ⟨c, hc0⟩ : ∃ c, l[0]? = some c := ⟨l[0], List.getElem?_eq_getElem (by omega)⟩
    have hcm : c ∈ l := List.mem_of_getElem? hc0
    have hsub : subD (.str (S l)) (.int 0) = some (.str (S [c])) := sub_S (Nat.le_trans hl (by decide)) hc0
    have heq : eqD (.str (S [c])) (.str (S [48])) = some (decide ([c] = [48])) := eqD_S (fun x hx => by simp at hx; subst hx; have := hfg _ hcm; omega) (fun x hx => by simp at hx; omega)
    have heq2 : eqD (.str (S l)) (.str (S [48])) = some (decide (l = [48])) := eqD_S (fun x hx => by have := hfg _ hx; omega) (fun x hx => by simp at hx; omega)
    by_cases hz : l = [48]
    · subst hz
      simp [ev, evs, tv, tv2, bnd, ret, opt, datM, Opd.dat, hg, ht, Sl.dat, cmpD, heq2]
    · simp [ev, evs, tv, tv2, bnd, ret, opt, datM, Opd.dat, hg, ht, Sl.dat, cmpD, heq2, hz, hsub, heq, hc0]
theorem do_nums {C : Orc} {fx : List Nat} (V : Env C) {i j : Nat} {r : Rho} {l : List Nat} (ht : r[j]? = some (.sh (.str (S l)))) (hl : l.length ≤ 1000) (hg : r[i]? = some (.sh (.bl (goodZ l)))) {ss : List Sx} :
    exec C fx (.ife (.inv (.cal 11 [.cal 6 [.loc j], .ite (.loc i) (.bi .int [.loc j]) (.cst .non)])) ss []) r = .ok .nx r := by
  have h1 := V.num l hl
  rw [numD_eq] at h1
  cases hgo : goodZ l with
  | false =>
    rw [hgo] at hg h1
    have hs := V.same .non trivial
    simp at h1
    simp [exec, execs, ev, evs, tv, tv2, bnd, ret, opt, datM, datsM, Opd.dat, ht, hg, Sl.dat, callM, lendOk, lend, borH, List.filterMap_cons, h1, back, hs, tru, truD]
  | true =>
    rw [hgo] at hg h1
    have hgo' := hgo
    unfold goodZ at hgo'
    rw [Bool.and_eq_true] at hgo'
    have hgb := hgo'.1
    unfold goodB at hgb
    rw [Bool.and_eq_true, Bool.and_eq_true, decide_eq_true_eq, decide_eq_true_eq] at hgb
    have hint := int_run (figs hgb.2) (by intro e; subst e; simp at hgb) (by omega)
    have hs := V.same (.int (NumText.digitsVal l : Nat)) trivial
    simp at h1
    simp [exec, execs, ev, evs, tv, tv2, bnd, ret, opt, datM, datsM, Opd.dat, ht, hg, Sl.dat, callM, lendOk, lend, borH, List.filterMap_cons, h1, back, hint, hs, tru, truD]
end VI.K02

end
section
namespace VI.K02
open PySem L2 SX
def c12 : List Sx := [.asg (.loc 1) (.cal 8 [.loc 0]),
 .asg (.loc 2) (.cst (.str (S letters))),
 .forr
   (.loc 3)
   (.itk .range [.cst (.int 12)])
   [.asg
      (.loc 5)
      (.bm
        .join
        (.cst (.str (S [])))
        [.comp (.cal 10 [.loc 1, .loc 2]) (.loc 4) (.itk .range [.cal 9 [.loc 1, .cst (.int 13)]]) [] [4]]),
    .asg (.loc 6) (.cal 9 [.loc 1, .bin .Add (.bi .len [.loc 5]) (.cst (.int 1))]),
    .asg
      (.loc 7)
      (.bin
        .Add
        (.bin
          .Add
          (.slc (.loc 5) none (some (.loc 6)))
          (.cal
            10
            [.loc 1,
             .lst
               [.cst (.str (S [])),
                .cst (.str (S [])),
                .cst (.str (S [65])),
                .cst (.str (S [48])),
                .cst (.str (S [32])),
                .cst (.str (S [45])),
                .cst (.str (S [123])),
                .cst (.str (S [96])),
                .cst (.str (S [10])),
                .cst (.str (S [58]))]]))
        (.slc (.loc 5) (some (.loc 6)) none)),
    .asg
      (.loc 9)
      (.and
        (.chn .LtE .LtE (.cst (.int 1)) (.bi .len [.loc 7]) (.cst (.int 8)))
        (.bi .all [.comp (.cmp .In (.loc 8) (.loc 2)) (.loc 8) (.loc 7) [] [8]])),
    .ife
      (.inv
        (.cal
          11
          [.lst [.cal 5 [.loc 7], .cal 5 [.loc 5]],
           .lst [.loc 9, .chn .LtE .LtE (.cst (.int 1)) (.bi .len [.loc 5]) (.cst (.int 8))]]))
      [.rtn (.cst (.bl false))]
      [],
    .asg
      (.loc 10)
      (.bm
        .join
        (.cst (.str (S [])))
        [.comp
           (.cal 10 [.loc 1, .cst (.str (S figures))])
           (.loc 4)
           (.itk .range [.cal 9 [.loc 1, .cst (.int 33)]])
           []
           [4]]),
    .asg (.loc 11) (.cal 9 [.loc 1, .bin .Add (.bi .len [.loc 10]) (.cst (.int 1))]),
    .asg
      (.loc 12)
      (.bin
        .Add
        (.bin
          .Add
          (.slc (.loc 10) none (some (.loc 11)))
          (.cal
            10
            [.loc 1,
             .lst
               [.cst (.str (S [])),
                .cst (.str (S [])),
                .cst (.str (S [])),
                .cst (.str (S [45])),
                .cst (.str (S [43])),
                .cst (.str (S [32])),
                .cst (.str (S [95])),
                .cst (.str (S [97])),
                .cst (.str (S [48])),
                .cst (.str (S [10]))]]))
        (.slc (.loc 10) (some (.loc 11)) none)),
    .asg
      (.loc 13)
      (.and
        (.chn .LtE .LtE (.cst (.int 1)) (.bi .len [.loc 12]) (.cst (.int 30)))
        (.bi .all [.comp (.cmp .In (.loc 8) (.cst (.str (S figures)))) (.loc 8) (.loc 12) [] [8]])),
    .asg
      (.loc 13)
      (.and
        (.loc 13)
        (.or
          (.cmp .Eq (.loc 12) (.cst (.str (S [48]))))
          (.cmp .NotEq (.sub (.loc 12) (.cst (.int 0))) (.cst (.str (S [48])))))),
    .ife
      (.inv (.cal 11 [.cal 6 [.loc 12], .ite (.loc 13) (.bi .int [.loc 12]) (.cst .non)]))
      [.rtn (.cst (.bl false))]
      []],
 .asg
   (.loc 14)
   (.lst
     [.cst .non,
      .cst (.int 3),
      .cst (.bl true),
      .lst [.cst (.str (S [97]))],
      .tup [.cst (.str (S [97]))],
      .cst (.str (S [])),
      .bin .Mult (.cst (.str (S [97]))) (.cst (.int 8)),
      .bin .Mult (.cst (.str (S [97]))) (.cst (.int 9))]),
 .ife
   (.inv
     (.cal
       11
       [.comp (.cal 5 [.loc 15]) (.loc 15) (.loc 14) [] [15],
        .lst
          [.cst (.bl false),
           .cst (.bl false),
           .cst (.bl false),
           .cst (.bl false),
           .cst (.bl false),
           .cst (.bl false),
           .cst (.bl true),
           .cst (.bl false)]]))
   [.rtn (.cst (.bl false))]
   [],
 .asg
   (.loc 16)
   (.lst
     [.cst (.str (S [48])),
      .cst (.str (S [48, 48])),
      .bin .Mult (.cst (.str (S [57]))) (.cst (.int 30)),
      .bin .Mult (.cst (.str (S [57]))) (.cst (.int 31)),
      .bin .Add (.cst (.str (S [49]))) (.bin .Mult (.cst (.str (S [48]))) (.cst (.int 29))),
      .cst (.str (S [])),
      .cst (.str (S [32, 49]))]),
 .rtn
   (.cal
     11
     [.comp (.cal 6 [.loc 15]) (.loc 15) (.loc 16) [] [15],
      .lst
        [.cst (.int 0),
         .cst .non,
         .bin .Sub (.bin .Pow (.cst (.int 10)) (.cst (.int 30))) (.cst (.int 1)),
         .cst .non,
         .bin .Pow (.cst (.int 10)) (.cst (.int 29)),
         .cst .non,
         .cst .non]])]
theorem c12_eq : b12 = c12 := by rfl
def bodyC : List Sx := match c12.getD 2 .bad with
  | .forr _ _ b => b
  | _ => []
theorem set_self {r : Rho} {i : Nat} {s : Sl} (h : r[i]? = some s) : r.set i s = r := by
  obtain ⟨hi, e⟩ := List.getElem?_eq_some_iff.mp h
  rw [← e]
  exact List.set_getElem_self hi
/-- the state between two turns -/
structure Lw (b : Bg) (r : Rho) : Prop where
  ok : b.Ok
  len : r.length = 17
  bag : r[1]? = some (.ow (bagD b))
  sg : r[2]? = some (.sh (.str (S letters)))
def odds1 : List D := [.str (S []), .str (S []), .str (S [65]), .str (S [48]), .str (S [32]), .str (S [45]), .str (S [123]), .str (S [96]), .str (S [10]), .str (S [58])]
def odds2 : List D := [.str (S []), .str (S []), .str (S []), .str (S [45]), .str (S [43]), .str (S [32]), .str (S [95]), .str (S [97]), .str (S [48]), .str (S [10])]
theorem odd1 {v : Int} (h0 : 0 ≤ v) (h1 : v < 10) : ∃ o : List Nat, o.length ≤ 10 ∧ pickD (.lst odds1) v = .str (S o) := by
  obtain ⟨n, rfl⟩ := Int.eq_ofNat_of_zero_le h0
  have hn : n < 10 := by omega
  match n, hn with
  | 0, _ => exact ⟨[], by simp, rfl⟩
  | 1, _ => exact ⟨[], by simp, rfl⟩
  | 2, _ => exact ⟨[65], by simp, rfl⟩
  | 3, _ => exact ⟨[48], by simp, rfl⟩
  | 4, _ => exact ⟨[32], by simp, rfl⟩
  | 5, _ => exact ⟨[45], by simp, rfl⟩
  | 6, _ => exact ⟨[123], by simp, rfl⟩
  | 7, _ => exact ⟨[96], by simp, rfl⟩
  | 8, _ => exact ⟨[10], by simp, rfl⟩
  | 9, _ => exact ⟨[58], by simp, rfl⟩
theorem odd2 {v : Int} (h0 : 0 ≤ v) (h1 : v < 10) : ∃ o : List Nat, o.length ≤ 10 ∧ pickD (.lst odds2) v = .str (S o) := by
  obtain ⟨n, rfl⟩ := Int.eq_ofNat_of_zero_le h0
  have hn : n < 10 := by omega
  match n, hn with
  | 0, _ => exact ⟨[], by simp, rfl⟩
  | 1, _ => exact ⟨[], by simp, rfl⟩
  | 2, _ => exact ⟨[], by simp, rfl⟩
  | 3, _ => exact ⟨[45], by simp, rfl⟩
  | 4, _ => exact ⟨[43], by simp, rfl⟩
  | 5, _ => exact ⟨[32], by simp, rfl⟩
  | 6, _ => exact ⟨[95], by simp, rfl⟩
  | 7, _ => exact ⟨[97], by simp, rfl⟩
  | 8, _ => exact ⟨[48], by simp, rfl⟩
  | 9, _ => exact ⟨[10], by simp, rfl⟩
/-- text, at, bent: three statements -/
theorem three {C : Orc} (V : Env C) {b : Bg} {r : Rho} (w : Lw b r) {i1 i2 i3 : Nat} {m : Int} {x : List Nat} {eS E : Ex} {ds : List D} {ss : List Sx} (h1 : 4 < i1) (h2 : i1 < i2) (h3 : i2 < i3) (h4 : i3 < 17) (hm : 0 < m) (hm2 : m < 100) (hx : 0 < x.length) (hxl : x.length ≤ 100)
    (hS : ∀ (r' : Rho), r'.length = 17 → r'[2]? = some (.sh (.str (S letters))) → (ev C eS).v r' = .ok (.val (.str (S x))) r') (hE : ∀ r', (ev C E).v r' = .ok (.new (.lst ds)) r') (hds : ds.length = 10) (ho : ∀ v : Int, 0 ≤ v → v < 10 → ∃ o : List Nat, o.length ≤ 10 ∧ pickD (.lst ds) v = .str (S o)) :
    ∃ b' r' t u, execs C [] (.asg (.loc i1) (.bm .join (.cst (.str (S []))) [.comp (.cal 10 [.loc 1, eS]) (.loc 4) (.itk .range [.cal 9 [.loc 1, .cst (.int m)]]) [] [4]]) :: .asg (.loc i2) (.cal 9 [.loc 1, .bin .Add (.bi .len [.loc i1]) (.cst (.int 1))]) ::
      .asg (.loc i3) (.bin .Add (.bin .Add (.slc (.loc i1) none (some (.loc i2))) (.cal 10 [.loc 1, E])) (.slc (.loc i1) (some (.loc i2)) none)) :: ss) r = execs C [] ss r' ∧ Lw b' r' ∧ t.length < 100 ∧ u.length ≤ 200 ∧ (∀ c ∈ t, c ∈ x) ∧ r'[i1]? = some (.sh (.str (S t))) ∧ r'[i3]? = some (.sh (.str (S u))) := by
  obtain ⟨hb, hl, hbag, hsg⟩ := w
  have q1 := draw_comp (C := C) V.pull V.of (r := r) (i := 1) (j := 4) (eS := eS) (x := x) (b := b) (m := m) hb hm (by omega) (by decide) (by omega) (by omega) hx (by omega) (fun y b2 => ?_)
  · rw [set_self hbag] at q1
    obtain ⟨p1, p2, p3⟩ := pull_ok hb hm
    obtain ⟨k1, k2, k3⟩ := picks_ok (x := x) hx (n := (pull b m).1.toNat) p1
    generalize hpk : picks x (pull b m).1.toNat (pull b m).2 = pk at *
    have htl : pk.1.length < 100 := by omega
    have e1 := do_join (C := C) (fx := []) (i := i1) (by simp; omega) (by simp) q1 (by omega)
    generalize hr2 : ((r.set 1 (.ow (bagD pk.2))).set i1 (.sh (.str (S pk.1)))) = r2 at e1
    have g1 : r2[1]? = some (.ow (bagD pk.2)) := by rw [← hr2]; simp [List.getElem?_set, hl, show i1 ≠ 1 by omega]
    have g2 : r2[i1]? = some (.sh (.str (S pk.1))) := by rw [← hr2]; simp [List.getElem?_set, hl]; omega
    have gl2 : r2.length = 17 := by rw [← hr2]; simp [hl]
    have gs : r2[2]? = some (.sh (.str (S letters))) := by rw [← hr2]; simp [List.getElem?_set, hsg, show i1 ≠ 2 by omega]
    have e2 := do_at (C := C) (fx := []) V.pull (i := i2) (j := i1) (k := 1) k1 (by simp) g1 g2 (by omega) (by omega)
    obtain ⟨o1, o2, o3⟩ := pull_ok (b := pk.2) (m := ((pk.1.length + 1 : Nat) : Int)) k1 (by omega)
    generalize hp2 : pull pk.2 ((pk.1.length + 1 : Nat) : Int) = pv at *
    obtain ⟨n, hn⟩ := Int.eq_ofNat_of_zero_le o2
    generalize hr3 : ((r2.set 1 (.ow (bagD pv.2))).set i2 (.sh (.int pv.1))) = r3 at e2
    have f1 : r3[1]? = some (.ow (bagD pv.2)) := by rw [← hr3]; simp [List.getElem?_set, gl2, show i2 ≠ 1 by omega]
    have f2 : r3[i1]? = some (.sh (.str (S pk.1))) := by rw [← hr3]; simp [List.getElem?_set, g2, show i2 ≠ i1 by omega, show 1 ≠ i1 by omega]
    have f3 : r3[i2]? = some (.sh (.int n)) := by rw [← hr3, ← hn]; simp [List.getElem?_set, gl2]; omega
    have gl3 : r3.length = 17 := by rw [← hr3]; simp [gl2]
    have fs : r3[2]? = some (.sh (.str (S letters))) := by rw [← hr3]; simp [List.getElem?_set, gs, show i2 ≠ 2 by omega]
    obtain ⟨u1, u2, u3⟩ := pull_ok (b := pv.2) (m := ((10 : Nat) : Int)) o1 (by decide)
    obtain ⟨o, ol, oe⟩ := ho _ u2 u3
    have e3 := do_bent (C := C) (fx := []) V.of (i := i3) (j := i1) (k := 1) (a := i2) (E := E) (m := 10) (o := o) o1 (by simp) f1 f2 f3 (by omega) (by omega) (by omega) (by omega) (by omega) (hE _) hds (by decide) (by decide) oe ol
    generalize hr4 : ((r3.set 1 (.ow (bagD (pull pv.2 ((10 : Nat) : Int)).2))).set i3 (.sh (.str (S (pk.1.take n ++ o ++ pk.1.drop n))))) = r4 at e3
    refine ⟨(pull pv.2 ((10 : Nat) : Int)).2, r4, pk.1, pk.1.take n ++ o ++ pk.1.drop n, (execs_nx e1).trans ((execs_nx e2).trans (execs_nx e3)), ⟨u1, by rw [← hr4]; simp [gl3], ?_, ?_⟩, htl, ?_, k3, ?_, ?_⟩
    · rw [← hr4]; simp [List.getElem?_set, gl3, show i3 ≠ 1 by omega]
    · rw [← hr4]; simp [List.getElem?_set, fs, show i3 ≠ 2 by omega]
    · simp; omega
    · rw [← hr4]; simp [List.getElem?_set, f2, show i3 ≠ i1 by omega, show 1 ≠ i1 by omega]
    · rw [← hr4]; simp [List.getElem?_set, gl3]; omega
  · exact hS _ (by simp [hl]) (by simp [List.getElem?_set, hsg])
theorem turn {C : Orc} (V : Env C) {b : Bg} {r : Rho} (w : Lw b r) : ∃ b' r', execs C [] bodyC r = .ok .nx r' ∧ Lw b' r' := by
  have hsz : (26 : Nat) = letters.length := rfl
  obtain ⟨b1, r1, t, u, e1, w1, ht, hu, htc, g5, g7⟩ := three (C := C) V w (i1 := 5) (i2 := 6) (i3 := 7) (m := 13) (x := letters) (eS := .loc 2) (E := .lst (odds1.map .cst)) (ds := odds1) (ss := bodyC.drop 3) (by decide) (by decide) (by decide) (by decide) (by decide) (by decide) (by decide) (by decide)
    (fun r' _ h => by simp [ev, tv, h]) (fun r' => rfl) rfl (fun v => odd1)
  have e4 := do_good (C := C) (fx := []) (i := 9) (j := 7) (q := 8) (eA := .loc 2) (r := r1) (l := u) (a := letters) (lo := 1) (hi := 8) (by simp) (by rw [w1.len]; decide) (by rw [w1.len]; decide) g7 (by omega) (fun x => by simp [ev, tv, List.getElem?_set, w1.sg])
  generalize hr2 : r1.set 9 (.sh (.bl (decide (1 ≤ u.length) && decide (u.length ≤ 8) && u.all fun c => decide (c ∈ letters)))) = r2 at e4
  have w2 : Lw b1 r2 := ⟨w1.ok, by rw [← hr2]; simp [w1.len], by rw [← hr2]; simp [List.getElem?_set, w1.bag], by rw [← hr2]; simp [List.getElem?_set, w1.sg]⟩
  have e5 := do_words (C := C) (fx := []) V (i := 7) (j := 5) (g := 9) (r := r2) (l := u) (w := t) (by rw [← hr2]; simp [List.getElem?_set, g7]) (by rw [← hr2]; simp [List.getElem?_set, g5]) (by omega) (by omega) (by rw [← hr2]; simp [List.getElem?_set, w1.len, wordB]) (List.all_eq_true.mpr fun c hc => decide_eq_true (htc c hc)) (ss := [.rtn (.cst (.bl false))])
  obtain ⟨b3, r3, t3, u3, e6, w3, ht3, hu3, htc3, g10, g12⟩ := three (C := C) V w2 (i1 := 10) (i2 := 11) (i3 := 12) (m := 33) (x := figures) (eS := .cst (.str (S figures))) (E := .lst (odds2.map .cst)) (ds := odds2) (ss := bodyC.drop 8) (by decide) (by decide) (by decide) (by decide) (by decide) (by decide) (by decide) (by decide)
    (fun r' _ h => rfl) (fun r' => rfl) rfl (fun v => odd2)
  have e7 := do_good (C := C) (fx := []) (i := 13) (j := 12) (q := 8) (eA := .cst (.str (S figures))) (r := r3) (l := u3) (a := figures) (lo := 1) (hi := 30) (by simp) (by rw [w3.len]; decide) (by rw [w3.len]; decide) g12 (by omega) (fun x => rfl)
  generalize hr4 : r3.set 13 (.sh (.bl (decide (1 ≤ u3.length) && decide (u3.length ≤ 30) && u3.all fun c => decide (c ∈ figures)))) = r4 at e7
  have w4 : Lw b3 r4 := ⟨w3.ok, by rw [← hr4]; simp [w3.len], by rw [← hr4]; simp [List.getElem?_set, w3.bag], by rw [← hr4]; simp [List.getElem?_set, w3.sg]⟩
  have g12' : r4[12]? = some (.sh (.str (S u3))) := by rw [← hr4]; simp [List.getElem?_set, g12]
  have e8 := do_zero (C := C) (fx := []) (i := 13) (j := 12) (r := r4) (l := u3) (by simp) (by rw [w4.len]; decide) g12' (by omega) (by rw [← hr4]; simp [List.getElem?_set, w3.len, goodB])
  have e9 := do_nums (C := C) (fx := []) V (i := 13) (j := 12) (r := r4.set 13 (.sh (.bl (goodZ u3)))) (l := u3) (by simp [List.getElem?_set, g12']) (by omega) (by simp [List.getElem?_set, w4.len]) (ss := [.rtn (.cst (.bl false))])
  refine ⟨b3, r4.set 13 (.sh (.bl (goodZ u3))), ?_, w4.ok, by simp [w4.len], by simp [List.getElem?_set, w4.bag], by simp [List.getElem?_set, w4.sg]⟩
  exact e1.trans ((execs_nx e4).trans ((execs_nx e5).trans (e6.trans ((execs_nx e7).trans ((execs_nx e8).trans (execs_nx e9))))))
end VI.K02

end
section
namespace VI.K02
open PySem L2 SX
/-- the turns -/
theorem turns_ok {C : Orc} (V : Env C) : ∀ (items : List D) {b : Bg} {r : Rho}, Lw b r → ∃ b' r', forN (fun x => setTg C [] (.loc 3) (.val x)) (execs C [] bodyC) items r = .ok .nx r' ∧ Lw b' r'
  | [], b, r, w => ⟨b, r, rfl, w⟩
  | d :: ds, b, r, w => by
    have e1 : setTg C [] (.loc 3) (.val d) r = .ok () (r.set 3 (.sh d)) := by simp [setTg, setLoc, w.len]
    have w1 : Lw b (r.set 3 (.sh d)) := ⟨w.ok, by simp [w.len], by simp [List.getElem?_set, w.bag], by simp [List.getElem?_set, w.sg]⟩
    obtain ⟨b2, r2, e2, w2⟩ := turn V w1
    obtain ⟨b3, r3, e3, w3⟩ := turns_ok V ds w2
    refine ⟨b3, r3, ?_, w3⟩
    show bnd (setTg C [] (.loc 3) (.val d)) _ r = _
    simp only [bnd, e1, e2]
    exact e3
theorem loop_ok {C : Orc} (V : Env C) {b : Bg} {r : Rho} (w : Lw b r) : ∃ b' r', exec C [] (.forr (.loc 3) (.itk .range [.cst (.int 12)]) bodyC) r = .ok .nx r' ∧ Lw b' r' := by
  obtain ⟨b', r', e, w'⟩ := turns_ok V (ranD 0 12) w
  refine ⟨b', r', ?_, w'⟩
  show (match forN (fun x => setTg C [] (.loc 3) (.val x)) (execs C [] bodyC) (ranD 0 12) r with
    | .ok f r' => Res.ok f (unlock [.val (.int 12)] r r')
    | .err x r' => .err x (unlock [.val (.int 12)] r r')
    | .bad => .bad) = _
  rw [e]
  rfl
def fixedD : List D := [.non, .int 3, .bl true, .lst [.str (S [97])], .tup [.str (S [97])], .str (S []), .str (S (List.replicate 8 97)), .str (S (List.replicate 9 97))]
def fixedW : D → D
  | .str x => .bl (wordB x.cps.toList)
  | _ => .bl false
def nums : List D := [.str (S [48]), .str (S [48, 48]), .str (S (List.replicate 30 57)), .str (S (List.replicate 31 57)), .str (S (49 :: List.replicate 29 48)), .str (S []), .str (S [32, 49])]
def numsW : D → D
  | .str x => numD x.cps.toList
  | _ => .non
structure Env2 (C : Orc) : Prop extends Env C where
  odd : ∀ d, d = .non ∨ d = .int 3 ∨ d = .bl true ∨ d = .lst [.str (S [97])] ∨ d = .tup [.str (S [97])] → C 5 [.sh d] = .ok (.val (.bl false)) [.un]
theorem fixed_ok {C : Orc} (V : Env2 C) : ∀ d ∈ fixedD, C 5 [.sh d] = .ok (.val (fixedW d)) [.un] := by
  intro d hd
  simp only [fixedD, List.mem_cons, List.not_mem_nil, or_false] at hd
  rcases hd with rfl | rfl | rfl | rfl | rfl | rfl | rfl | rfl
  · exact V.odd _ (.inl rfl)
  · exact V.odd _ (.inr (.inl rfl))
  · exact V.odd _ (.inr (.inr (.inl rfl)))
  · exact V.odd _ (.inr (.inr (.inr (.inl rfl))))
  · exact V.odd _ (.inr (.inr (.inr (.inr rfl))))
  · exact V.word [] (by decide)
  · exact V.word (List.replicate 8 97) (by decide)
  · exact V.word (List.replicate 9 97) (by decide)
theorem nums_ok {C : Orc} (V : Env C) : ∀ d ∈ nums, C 6 [.sh d] = .ok (.val (numsW d)) [.un] := by
  intro d hd
  simp only [nums, List.mem_cons, List.not_mem_nil, or_false] at hd
  rcases hd with rfl | rfl | rfl | rfl | rfl | rfl | rfl
  · exact V.num [48] (by decide)
  · exact V.num [48, 48] (by decide)
  · exact V.num (List.replicate 30 57) (by decide)
  · exact V.num (List.replicate 31 57) (by decide)
  · exact V.num (49 :: List.replicate 29 48) (by decide)
  · exact V.num [] (by decide)
  · exact V.num [32, 49] (by decide)
theorem fixedW_eq : fixedD.map fixedW = [.bl false, .bl false, .bl false, .bl false, .bl false, .bl false, .bl true, .bl false] := by rfl
theorem numsW_eq : nums.map numsW = [.int 0, .non, .int (10 ^ 30 - 1), .non, .int (10 ^ 29), .non, .non] := by rfl
def E1 : Ex := match (c12.drop 3).getD 0 .bad with | .asg _ e => e | _ => .bad
def E2 : Ex := match (c12.drop 3).getD 1 .bad with | .ife (.inv (.cal _ [_, e])) _ _ => e | _ => .bad
def E3 : Ex := match (c12.drop 3).getD 2 .bad with | .asg _ e => e | _ => .bad
def E4 : Ex := match (c12.drop 3).getD 3 .bad with | .rtn (.cal _ [_, e]) => e | _ => .bad
theorem tail_eq : c12.drop 3 = [.asg (.loc 14) E1, .ife (.inv (.cal 11 [.comp (.cal 5 [.loc 15]) (.loc 15) (.loc 14) [] [15], E2])) [.rtn (.cst (.bl false))] [], .asg (.loc 16) E3, .rtn (.cal 11 [.comp (.cal 6 [.loc 15]) (.loc 15) (.loc 16) [] [15], E4])] := by rfl
theorem E1_ev {C : Orc} {r : Rho} : (ev C E1).v r = .ok (.new (.lst fixedD)) r := by rfl
theorem E2_ev {C : Orc} {r : Rho} : (ev C E2).v r = .ok (.new (.lst (fixedD.map fixedW))) r := by rw [fixedW_eq]; rfl
theorem E3_ev {C : Orc} {r : Rho} : (ev C E3).v r = .ok (.new (.lst nums)) r := by rfl
theorem E4_ev {C : Orc} {r : Rho} : (ev C E4).v r = .ok (.new (.lst (nums.map numsW))) r := by rw [numsW_eq]; rfl
theorem asg_new {C : Orc} {fx : List Nat} {i : Nat} {e : Ex} {d : D} {r r' : Rho} (hf : i ∉ fx) (hi : i < r'.length) (h : (ev C e).v r = .ok (.new d) r') : exec C fx (.asg (.loc i) e) r = .ok .nx (r'.set i (.ow d)) := by
  simp [exec, bnd, h, setTg, setLoc, hf, hi, ret]
/-- the comparison of two new things -/
theorem cal_same {C : Orc} (V : Env C) {X E : Ex} {d : D} {r : Rho} (h1 : (ev C X).v r = .ok (.new d) r) (h2 : (ev C E).v r = .ok (.new d) r) (h : Pl 1 d) : (ev C (.cal 11 [X, E])).v r = .ok (.val (.bl true)) r := by
  have hs := V.same d h
  simp [ev, evs, tv, bnd, ret, h1, h2, callM, lendOk, lend, borH, List.filterMap_cons, hs, back]
/-- what stands behind the loop -/
theorem tail_ok {C : Orc} (V : Env2 C) {b : Bg} {r : Rho} (w : Lw b r) : ∃ r', execs C [] (c12.drop 3) r = .ok (.rt (.val (.bl true))) r' := by
  rw [tail_eq]
  have e1 := asg_new (C := C) (fx := []) (i := 14) (by simp) (by rw [w.len]; decide) (E1_ev (C := C) (r := r))
  generalize hr : r.set 14 (.ow (.lst fixedD)) = r1 at e1
  have l1 : r1.length = 17 := by rw [← hr]; simp [w.len]
  have g14 : r1[14]? = some (.ow (.lst fixedD)) := by rw [← hr]; simp [List.getElem?_set, w.len]
  have x1 := map_comp (C := C) (f := 5) (g := fixedW) (j := 15) g14 (by decide) (by rw [l1]; decide) (by decide) (fixed_ok V)
  have c1 := cal_same V.toEnv x1 E2_ev ⟨by decide, by
    rw [fixedW_eq]
    intro d hd
    simp only [List.mem_cons, List.not_mem_nil, or_false] at hd
    rcases hd with rfl | rfl | rfl | rfl | rfl | rfl | rfl | rfl <;> trivial⟩
  have e2 : exec C [] (.ife (.inv (.cal 11 [.comp (.cal 5 [.loc 15]) (.loc 15) (.loc 14) [] [15], E2])) [.rtn (.cst (.bl false))] []) r1 = .ok .nx r1 := by
    have ht : (ev C (.cal 11 [.comp (.cal 5 [.loc 15]) (.loc 15) (.loc 14) [] [15], E2])).t r1 = .ok true r1 := by
      show bnd (ev C (.cal 11 [.comp (.cal 5 [.loc 15]) (.loc 15) (.loc 14) [] [15], E2])).v tru r1 = _
      simp only [bnd, c1]
      rfl
    show bnd (bnd (ev C (.cal 11 [.comp (.cal 5 [.loc 15]) (.loc 15) (.loc 14) [] [15], E2])).t fun b => ret (!b)) _ r1 = _
    simp only [bnd, ht]
    rfl
  have e3 := asg_new (C := C) (fx := []) (i := 16) (by simp) (by rw [l1]; decide) (E3_ev (C := C) (r := r1))
  generalize hr2 : r1.set 16 (.ow (.lst nums)) = r2 at e3
  have l2 : r2.length = 17 := by rw [← hr2]; simp [l1]
  have g16 : r2[16]? = some (.ow (.lst nums)) := by rw [← hr2]; simp [List.getElem?_set, l1]
  have x2 := map_comp (C := C) (f := 6) (g := numsW) (j := 15) g16 (by decide) (by rw [l2]; decide) (by decide) (nums_ok V.toEnv)
  have c2 := cal_same V.toEnv x2 E4_ev ⟨by decide, by
    rw [numsW_eq]
    intro d hd
    simp only [List.mem_cons, List.not_mem_nil, or_false] at hd
    rcases hd with rfl | rfl | rfl | rfl | rfl | rfl | rfl <;> trivial⟩
  have e4 : exec C [] (.rtn (.cal 11 [.comp (.cal 6 [.loc 15]) (.loc 15) (.loc 16) [] [15], E4])) r2 = .ok (.rt (.val (.bl true))) r2 := by
    show bnd (ev C (.cal 11 [.comp (.cal 6 [.loc 15]) (.loc 15) (.loc 16) [] [15], E4])).v _ r2 = _
    simp only [bnd, c2]
    rfl
  exact ⟨r2, (execs_nx e1).trans ((execs_nx e2).trans ((execs_nx e3).trans (execs_rt e4)))⟩
def lev : Nat := 60
theorem env {k : Nat} (hk : 10 ≤ k) : Env2 (callD T k) := by
  obtain ⟨k, rfl⟩ : ∃ j, k = j + 1 := ⟨k - 1, by omega⟩
  have hpull : ∀ k, PullOk (callD T (k + 1)) 9 := fun k b m h hm hm2 => by
    rw [callD_run (fn := ⟨2, 5, B 9 N9⟩) rfl, b9_eq]
    exact pull_run h hm hm2
  refine ⟨⟨hpull k, fun b d n h hd hn hl => ?_, fun l hl => ?_, fun l hl => ?_, ?_⟩, fun d hd => ?_⟩
  · obtain ⟨j, rfl⟩ : ∃ j, k = j + 1 := ⟨k - 1, by omega⟩
    rw [callD_run (fn := ⟨2, 2, B 10 N10⟩) rfl, b10_eq]
    exact of_run (hpull j) h hd hn hl
  · rw [callD_run (fn := ⟨1, 2, B 5 N5⟩) rfl, b5_eq]
    exact word_run hl
  · rw [callD_run (fn := ⟨1, 2, B 6 N6⟩) rfl, b6_eq]
    exact num_run hl
  · exact same_ok (T := T) (me := 11) (by show some _ = _; rw [b11_eq]; rfl) 1 (k + 1) (by omega)
  · rw [callD_run (fn := ⟨1, 2, B 5 N5⟩) rfl, b5_eq]
    rcases hd with rfl | rfl | rfl | rfl | rfl <;> rfl
theorem plain : ∀ ns : List Int, ns.length ≤ 63 → ∃ os, callD T lev 12 [.sh (.frl (ns.map .int))] = .ok (.val (.bl true)) os := by
  intro ns hn
  have V : Env2 (callD T 59) := env (by decide)
  have hbag : callD T 59 8 [.sh (.frl (ns.map .int))] = .ok (.new (bagD ⟨ns, 0, 0, 5750⟩)) [.un] := by
    rw [callD_run (k := 58) (fn := ⟨1, 1, B 8 N8⟩) rfl, b8_eq]
    exact bag_run hn
  rw [show lev = 59 + 1 from rfl, callD_run (fn := ⟨1, 17, B 12 N12⟩) rfl, b12_eq, c12_eq]
  generalize callD T 59 = C at *
  have hs : c12 = .asg (.loc 1) (.cal 8 [.loc 0]) :: .asg (.loc 2) (.cst (.str (S letters))) :: .forr (.loc 3) (.itk .range [.cst (.int 12)]) bodyC :: c12.drop 3 := by rfl
  have e1 := asg_new (C := C) (fx := []) (i := 1) (e := .cal 8 [.loc 0]) (d := bagD ⟨ns, 0, 0, 5750⟩) (r := .sh (.frl (ns.map .int)) :: List.replicate 16 .un) (r' := .sh (.frl (ns.map .int)) :: List.replicate 16 .un) (by simp) (by simp) (by
    simp [ev, evs, tv, bnd, ret, callM, lendOk, lend, borH, List.filterMap_cons, hbag, back])
  have e2 := asg_val (C := C) (fx := []) (i := 2) (e := .cst (.str (S letters))) (d := .str (S letters)) (r := (.sh (.frl (ns.map .int)) :: List.replicate 16 .un).set 1 (.ow (bagD ⟨ns, 0, 0, 5750⟩))) (r' := (.sh (.frl (ns.map .int)) :: List.replicate 16 .un).set 1 (.ow (bagD ⟨ns, 0, 0, 5750⟩))) (by simp) (by simp) rfl
  obtain ⟨b', r', e3, w'⟩ := loop_ok V.toEnv (b := ⟨ns, 0, 0, 5750⟩) (r := ((.sh (.frl (ns.map .int)) :: List.replicate 16 .un).set 1 (.ow (bagD ⟨ns, 0, 0, 5750⟩))).set 2 (.sh (.str (S letters)))) ⟨⟨by show (0 : Int) ≤ 0; decide, by show (0 : Int) ≤ 5750; decide, by show (5750 : Int) < 2147483477; decide⟩, rfl, rfl, rfl⟩
  obtain ⟨r2, e4⟩ := tail_ok V w'
  have e : execs C [] c12 (.sh (.frl (ns.map .int)) :: List.replicate 16 .un) = .ok (.rt (.val (.bl true))) r2 := by
    rw [hs]
    exact (execs_nx e1).trans ((execs_nx e2).trans ((execs_nx e3).trans e4))
  refine ⟨outs [.sh (.frl (ns.map .int))] r2, ?_⟩
  show (if _ then endR _ (execs C [] c12 (.sh (.frl (ns.map .int)) :: List.replicate 16 .un)) else _) = _
  rw [if_pos ⟨rfl, by decide⟩, e]
  rfl
end VI.K02

end
section
namespace VI.K02
open PySem L2
theorem sc5 : FnScope N5 ["value"] (defScope (top 5)) := ⟨rfl, rfl, rfl, by decide +kernel, rfl, by decide +kernel, by decide +kernel⟩
theorem bn5 {kV doc pm : Value} {an : Option Addr} {cdv ct : Value} (s : Shared) (us ws : List Value) (h : (us ++ ws).length = 1) : BindsTo s (PySem.W.fnOf "is_word" "is_word" (defArgs (top 5)) (defBody (top 5)) (defScope (top 5)) .none kV doc pm an cdv ct) ⟨us, ((["value"] : List Str).drop us.length).zip ws⟩ ((["value"] : List Str).zip (us ++ ws)) := by
  match us, ws, h with
  | [], [_], _ => exact .of_eq rfl
  | [_], [], _ => exact .of_eq rfl
theorem sc6 : FnScope N6 ["text"] (defScope (top 6)) := ⟨rfl, rfl, rfl, by decide +kernel, rfl, by decide +kernel, by decide +kernel⟩
theorem bn6 {kV doc pm : Value} {an : Option Addr} {cdv ct : Value} (s : Shared) (us ws : List Value) (h : (us ++ ws).length = 1) : BindsTo s (PySem.W.fnOf "number_in" "number_in" (defArgs (top 6)) (defBody (top 6)) (defScope (top 6)) .none kV doc pm an cdv ct) ⟨us, ((["text"] : List Str).drop us.length).zip ws⟩ ((["text"] : List Str).zip (us ++ ws)) := by
  match us, ws, h with
  | [], [_], _ => exact .of_eq rfl
  | [_], [], _ => exact .of_eq rfl
theorem sc8 : FnScope N8 ["_law_script"] (defScope (top 8)) := ⟨rfl, rfl, rfl, by decide +kernel, rfl, by decide +kernel, by decide +kernel⟩
theorem bn8 {kV doc pm : Value} {an : Option Addr} {cdv ct : Value} (s : Shared) (us ws : List Value) (h : (us ++ ws).length = 1) : BindsTo s (PySem.W.fnOf "_law_bag" "_law_bag" (defArgs (top 8)) (defBody (top 8)) (defScope (top 8)) .none kV doc pm an cdv ct) ⟨us, ((["_law_script"] : List Str).drop us.length).zip ws⟩ ((["_law_script"] : List Str).zip (us ++ ws)) := by
  match us, ws, h with
  | [], [_], _ => exact .of_eq rfl
  | [_], [], _ => exact .of_eq rfl
theorem sc9 : FnScope N9 ["_law_bag_here", "_law_many_z"] (defScope (top 9)) := ⟨rfl, rfl, rfl, by decide +kernel, rfl, by decide +kernel, by decide +kernel⟩
theorem bn9 {kV doc pm : Value} {an : Option Addr} {cdv ct : Value} (s : Shared) (us ws : List Value) (h : (us ++ ws).length = 2) : BindsTo s (PySem.W.fnOf "_law_pull" "_law_pull" (defArgs (top 9)) (defBody (top 9)) (defScope (top 9)) .none kV doc pm an cdv ct) ⟨us, ((["_law_bag_here", "_law_many_z"] : List Str).drop us.length).zip ws⟩ ((["_law_bag_here", "_law_many_z"] : List Str).zip (us ++ ws)) := by
  match us, ws, h with
  | [], [_, _], _ => exact .of_eq rfl
  | [_], [_], _ => exact .of_eq rfl
  | [_, _], [], _ => exact .of_eq rfl
theorem sc10 : FnScope N10 ["_law_bag_here", "_law_some"] (defScope (top 10)) := ⟨rfl, rfl, rfl, by decide +kernel, rfl, by decide +kernel, by decide +kernel⟩
theorem bn10 {kV doc pm : Value} {an : Option Addr} {cdv ct : Value} (s : Shared) (us ws : List Value) (h : (us ++ ws).length = 2) : BindsTo s (PySem.W.fnOf "_law_of" "_law_of" (defArgs (top 10)) (defBody (top 10)) (defScope (top 10)) .none kV doc pm an cdv ct) ⟨us, ((["_law_bag_here", "_law_some"] : List Str).drop us.length).zip ws⟩ ((["_law_bag_here", "_law_some"] : List Str).zip (us ++ ws)) := by
  match us, ws, h with
  | [], [_, _], _ => exact .of_eq rfl
  | [_], [_], _ => exact .of_eq rfl
  | [_, _], [], _ => exact .of_eq rfl
theorem sc11 : FnScope N11 ["_law_found", "_law_due"] (defScope (top 11)) := ⟨rfl, rfl, rfl, by decide +kernel, rfl, by decide +kernel, by decide +kernel⟩
theorem bn11 {kV doc pm : Value} {an : Option Addr} {cdv ct : Value} (s : Shared) (us ws : List Value) (h : (us ++ ws).length = 2) : BindsTo s (PySem.W.fnOf "_law_same" "_law_same" (defArgs (top 11)) (defBody (top 11)) (defScope (top 11)) .none kV doc pm an cdv ct) ⟨us, ((["_law_found", "_law_due"] : List Str).drop us.length).zip ws⟩ ((["_law_found", "_law_due"] : List Str).zip (us ++ ws)) := by
  match us, ws, h with
  | [], [_, _], _ => exact .of_eq rfl
  | [_], [_], _ => exact .of_eq rfl
  | [_, _], [], _ => exact .of_eq rfl
theorem sc12 : FnScope N12 ["_law_script"] (defScope (top 12)) := ⟨rfl, rfl, rfl, by decide +kernel, rfl, by decide +kernel, by decide +kernel⟩
theorem bn12 {kV doc pm : Value} {an : Option Addr} {cdv ct : Value} (s : Shared) (us ws : List Value) (h : (us ++ ws).length = 1) : BindsTo s (PySem.W.fnOf "law" "law" (defArgs (top 12)) (defBody (top 12)) (defScope (top 12)) .none kV doc pm an cdv ct) ⟨us, ((["_law_script"] : List Str).drop us.length).zip ws⟩ ((["_law_script"] : List Str).zip (us ++ ws)) := by
  match us, ws, h with
  | [], [_], _ => exact .of_eq rfl
  | [_], [], _ => exact .of_eq rfl
theorem pg_mk {K : PySem.W.Frag} {h : Heap} {mg : Str → Option Value} (X : K.In h) (G : h.Ns mainGlobals mg)
    {t0 : Tok} (zc0 : PySem.W.nsIn K mainGlobals "LETTERS" = some (some (.str "abcdefghijklmnopqrstuvwxyz" t0)))
    {t1 : Tok} (zc1 : PySem.W.nsIn K mainGlobals "FIGURES" = some (some (.str "0123456789" t1)))
    {t2 : Tok} (zc2 : PySem.W.nsIn K mainGlobals "MOST_LETTERS" = some (some (.int 8 t2)))
    {t3 : Tok} (zc3 : PySem.W.nsIn K mainGlobals "MOST_FIGURES" = some (some (.int 30 t3)))
    {f5 : Addr} {oc5 kV5 dc5 pm5 cd5 ct5 : Value} {od5 an5 : Option Addr} {sl5 : Array (Option Value)} (a5 : PySem.W.nsIn K mainGlobals "is_word" = some (some (.ref f5))) (l5 : K.lookup f5 = some ⟨oc5, od5, .func (PySem.W.fnOf "is_word" "is_word" (defArgs (top 5)) (defBody (top 5)) (defScope (top 5)) .none kV5 dc5 pm5 an5 cd5 ct5), sl5⟩) (c5 : PySem.W.codeIn K cd5 "is_word" = true) (k5 : PySem.W.keepIn K (.ref f5) = true)
    {f6 : Addr} {oc6 kV6 dc6 pm6 cd6 ct6 : Value} {od6 an6 : Option Addr} {sl6 : Array (Option Value)} (a6 : PySem.W.nsIn K mainGlobals "number_in" = some (some (.ref f6))) (l6 : K.lookup f6 = some ⟨oc6, od6, .func (PySem.W.fnOf "number_in" "number_in" (defArgs (top 6)) (defBody (top 6)) (defScope (top 6)) .none kV6 dc6 pm6 an6 cd6 ct6), sl6⟩) (c6 : PySem.W.codeIn K cd6 "number_in" = true) (k6 : PySem.W.keepIn K (.ref f6) = true)
    {f8 : Addr} {oc8 kV8 dc8 pm8 cd8 ct8 : Value} {od8 an8 : Option Addr} {sl8 : Array (Option Value)} (a8 : PySem.W.nsIn K mainGlobals "_law_bag" = some (some (.ref f8))) (l8 : K.lookup f8 = some ⟨oc8, od8, .func (PySem.W.fnOf "_law_bag" "_law_bag" (defArgs (top 8)) (defBody (top 8)) (defScope (top 8)) .none kV8 dc8 pm8 an8 cd8 ct8), sl8⟩) (c8 : PySem.W.codeIn K cd8 "_law_bag" = true) (k8 : PySem.W.keepIn K (.ref f8) = true)
    {f9 : Addr} {oc9 kV9 dc9 pm9 cd9 ct9 : Value} {od9 an9 : Option Addr} {sl9 : Array (Option Value)} (a9 : PySem.W.nsIn K mainGlobals "_law_pull" = some (some (.ref f9))) (l9 : K.lookup f9 = some ⟨oc9, od9, .func (PySem.W.fnOf "_law_pull" "_law_pull" (defArgs (top 9)) (defBody (top 9)) (defScope (top 9)) .none kV9 dc9 pm9 an9 cd9 ct9), sl9⟩) (c9 : PySem.W.codeIn K cd9 "_law_pull" = true) (k9 : PySem.W.keepIn K (.ref f9) = true)
    {f10 : Addr} {oc10 kV10 dc10 pm10 cd10 ct10 : Value} {od10 an10 : Option Addr} {sl10 : Array (Option Value)} (a10 : PySem.W.nsIn K mainGlobals "_law_of" = some (some (.ref f10))) (l10 : K.lookup f10 = some ⟨oc10, od10, .func (PySem.W.fnOf "_law_of" "_law_of" (defArgs (top 10)) (defBody (top 10)) (defScope (top 10)) .none kV10 dc10 pm10 an10 cd10 ct10), sl10⟩) (c10 : PySem.W.codeIn K cd10 "_law_of" = true) (k10 : PySem.W.keepIn K (.ref f10) = true)
    {f11 : Addr} {oc11 kV11 dc11 pm11 cd11 ct11 : Value} {od11 an11 : Option Addr} {sl11 : Array (Option Value)} (a11 : PySem.W.nsIn K mainGlobals "_law_same" = some (some (.ref f11))) (l11 : K.lookup f11 = some ⟨oc11, od11, .func (PySem.W.fnOf "_law_same" "_law_same" (defArgs (top 11)) (defBody (top 11)) (defScope (top 11)) .none kV11 dc11 pm11 an11 cd11 ct11), sl11⟩) (c11 : PySem.W.codeIn K cd11 "_law_same" = true) (k11 : PySem.W.keepIn K (.ref f11) = true)
    {f12 : Addr} {oc12 kV12 dc12 pm12 cd12 ct12 : Value} {od12 an12 : Option Addr} {sl12 : Array (Option Value)} (a12 : PySem.W.nsIn K mainGlobals "law" = some (some (.ref f12))) (l12 : K.lookup f12 = some ⟨oc12, od12, .func (PySem.W.fnOf "law" "law" (defArgs (top 12)) (defBody (top 12)) (defScope (top 12)) .none kV12 dc12 pm12 an12 cd12 ct12), sl12⟩) (c12 : PySem.W.codeIn K cd12 "law" = true) (k12 : PySem.W.keepIn K (.ref f12) = true)
    (zb0 : PySem.W.nsIn K mainGlobals "len" = some none)
    (zb1 : PySem.W.nsIn K mainGlobals "int" = some none)
    (zb2 : PySem.W.nsIn K mainGlobals "str" = some none)
    (zb3 : PySem.W.nsIn K mainGlobals "bool" = some none)
    (zb4 : PySem.W.nsIn K mainGlobals "sum" = some none)
    (zb5 : PySem.W.nsIn K mainGlobals "all" = some none)
    (zb6 : PySem.W.nsIn K mainGlobals "any" = some none)
    (zb7 : PySem.W.nsIn K mainGlobals "list" = some none)
    (zb8 : PySem.W.nsIn K mainGlobals "tuple" = some none)
    (zb9 : PySem.W.nsIn K mainGlobals "isinstance" = some none)
    (zb10 : PySem.W.nsIn K mainGlobals "range" = some none)
    (zb11 : PySem.W.nsIn K mainGlobals "enumerate" = some none)
    (zb12 : PySem.W.nsIn K mainGlobals "zip" = some none)
    : ∃ (L : Lk) (fd : FuncData), Pg K mg gl L T ∧ L.FA 12 = f12 ∧ DefOk K gl (L.FA 12) ⟨1, 17, B 12 N12⟩ ["_law_script"] fd := by
  have d5 := defOk (f := f5) (ps := ["value"]) (N := N5) (st := top 5) (fn := ⟨1, 2, B 5 N5⟩) l5 c5 sc5 rfl fun s us ws h => bn5 s us ws h
  have d6 := defOk (f := f6) (ps := ["text"]) (N := N6) (st := top 6) (fn := ⟨1, 2, B 6 N6⟩) l6 c6 sc6 rfl fun s us ws h => bn6 s us ws h
  have d8 := defOk (f := f8) (ps := ["_law_script"]) (N := N8) (st := top 8) (fn := ⟨1, 1, B 8 N8⟩) l8 c8 sc8 rfl fun s us ws h => bn8 s us ws h
  have d9 := defOk (f := f9) (ps := ["_law_bag_here", "_law_many_z"]) (N := N9) (st := top 9) (fn := ⟨2, 5, B 9 N9⟩) l9 c9 sc9 rfl fun s us ws h => bn9 s us ws h
  have d10 := defOk (f := f10) (ps := ["_law_bag_here", "_law_some"]) (N := N10) (st := top 10) (fn := ⟨2, 2, B 10 N10⟩) l10 c10 sc10 rfl fun s us ws h => bn10 s us ws h
  have d11 := defOk (f := f11) (ps := ["_law_found", "_law_due"]) (N := N11) (st := top 11) (fn := ⟨2, 4, B 11 N11⟩) l11 c11 sc11 rfl fun s us ws h => bn11 s us ws h
  have d12 := defOk (f := f12) (ps := ["_law_script"]) (N := N12) (st := top 12) (fn := ⟨1, 17, B 12 N12⟩) l12 c12 sc12 rfl fun s us ws h => bn12 s us ws h
  refine ⟨⟨fun _ => 0, fun i => if i = 5 then f5 else if i = 6 then f6 else if i = 8 then f8 else if i = 9 then f9 else if i = 10 then f10 else if i = 11 then f11 else if i = 12 then f12 else 0⟩, _, ⟨fun x d h => ?_, fun x c h => ?_, fun x h1 h2 => ?_, fun x i ps h => ?_⟩, rfl, d12⟩
  · unfold gl at h
    by_cases e : x = "LETTERS"
    · rw [if_pos e] at h; cases h; subst e; exact ⟨_, V.str "abcdefghijklmnopqrstuvwxyz", PySem.W.mg_of X G zc0, ⟨_, rfl⟩, fun _ _ => rfl⟩
    rw [if_neg e] at h; clear e
    by_cases e : x = "FIGURES"
    · rw [if_pos e] at h; cases h; subst e; exact ⟨_, V.str "0123456789", PySem.W.mg_of X G zc1, ⟨_, rfl⟩, fun _ _ => rfl⟩
    rw [if_neg e] at h; clear e
    by_cases e : x = "MOST_LETTERS"
    · rw [if_pos e] at h; cases h; subst e; exact ⟨_, V.int 8, PySem.W.mg_of X G zc2, ⟨_, rfl⟩, fun _ _ => rfl⟩
    rw [if_neg e] at h; clear e
    by_cases e : x = "MOST_FIGURES"
    · rw [if_pos e] at h; cases h; subst e; exact ⟨_, V.int 30, PySem.W.mg_of X G zc3, ⟨_, rfl⟩, fun _ _ => rfl⟩
    rw [if_neg e] at h; clear e
    repeat (first | (split at h; · cases h) | cases h)
  · unfold gl at h
    repeat (first | (split at h; · cases h) | cases h)
  · have bt : ∀ y ∈ (["len", "int", "str", "bool", "sum", "all", "any", "list", "tuple", "isinstance", "range", "enumerate", "zip"] : List Str), mg y = none := by
      intro y hy
      simp only [List.mem_cons, List.not_mem_nil, or_false] at hy
      rcases hy with rfl | rfl | rfl | rfl | rfl | rfl | rfl | rfl | rfl | rfl | rfl | rfl | rfl
      · exact PySem.W.mg_none_of X G zb0
      · exact PySem.W.mg_none_of X G zb1
      · exact PySem.W.mg_none_of X G zb2
      · exact PySem.W.mg_none_of X G zb3
      · exact PySem.W.mg_none_of X G zb4
      · exact PySem.W.mg_none_of X G zb5
      · exact PySem.W.mg_none_of X G zb6
      · exact PySem.W.mg_none_of X G zb7
      · exact PySem.W.mg_none_of X G zb8
      · exact PySem.W.mg_none_of X G zb9
      · exact PySem.W.mg_none_of X G zb10
      · exact PySem.W.mg_none_of X G zb11
      · exact PySem.W.mg_none_of X G zb12
    exact bt x (bi_names h2)
  · unfold gl at h
    by_cases e : x = "LETTERS"
    · rw [if_pos e] at h; cases h
    rw [if_neg e] at h; clear e
    by_cases e : x = "FIGURES"
    · rw [if_pos e] at h; cases h
    rw [if_neg e] at h; clear e
    by_cases e : x = "MOST_LETTERS"
    · rw [if_pos e] at h; cases h
    rw [if_neg e] at h; clear e
    by_cases e : x = "MOST_FIGURES"
    · rw [if_pos e] at h; cases h
    rw [if_neg e] at h; clear e
    by_cases e : x = "is_word"
    · rw [if_pos e] at h; cases h; subst e; exact ⟨PySem.W.mg_of X G a5, k5, _, _, rfl, d5⟩
    rw [if_neg e] at h; clear e
    by_cases e : x = "number_in"
    · rw [if_pos e] at h; cases h; subst e; exact ⟨PySem.W.mg_of X G a6, k6, _, _, rfl, d6⟩
    rw [if_neg e] at h; clear e
    by_cases e : x = "_law_bag"
    · rw [if_pos e] at h; cases h; subst e; exact ⟨PySem.W.mg_of X G a8, k8, _, _, rfl, d8⟩
    rw [if_neg e] at h; clear e
    by_cases e : x = "_law_pull"
    · rw [if_pos e] at h; cases h; subst e; exact ⟨PySem.W.mg_of X G a9, k9, _, _, rfl, d9⟩
    rw [if_neg e] at h; clear e
    by_cases e : x = "_law_of"
    · rw [if_pos e] at h; cases h; subst e; exact ⟨PySem.W.mg_of X G a10, k10, _, _, rfl, d10⟩
    rw [if_neg e] at h; clear e
    by_cases e : x = "_law_same"
    · rw [if_pos e] at h; cases h; subst e; exact ⟨PySem.W.mg_of X G a11, k11, _, _, rfl, d11⟩
    rw [if_neg e] at h; clear e
    by_cases e : x = "law"
    · rw [if_pos e] at h; cases h; subst e; exact ⟨PySem.W.mg_of X G a12, k12, _, _, rfl, d12⟩
    rw [if_neg e] at h; clear e
    cases h
end VI.K02
open PySem PySem.W PyProof.Rows
set_option maxRecDepth 100000 in
set_option maxHeartbeats 0 in
theorem PySem.Challenge.cw_gobetween_k02_words_and_numbers_holds : PySem.Challenge.rw_gobetween_k02_words_and_numbers.Holds := by
  w_on; o_law; k_head; (case hw => w_witness2)
  k_fill
  refine VI.walk (l := PySem.Challenge.rw_gobetween_k02_words_and_numbers) (gl := VI.K02.gl) (T := VI.K02.T) (j := 12) (k := VI.K02.lev) (x := "_law_script") rfl rfl ⟨rfl, by decide, by decide⟩ rfl VI.K02.plain (fun w h Y => PySem.W.kIn_of Y) ?F
  case F =>
    intro w mg fa h KX G hmg
    refine' VI.pg_end hmg (VI.K02.pg_mk KX G ?zc0 ?zc1 ?zc2 ?zc3 ?a5 ?l5 ?c5 ?k5 ?a6 ?l6 ?c6 ?k6 ?a8 ?l8 ?c8 ?k8 ?a9 ?l9 ?c9 ?k9 ?a10 ?l10 ?c10 ?k10 ?a11 ?l11 ?c11 ?k11 ?a12 ?l12 ?c12 ?k12 ?zb0 ?zb1 ?zb2 ?zb3 ?zb4 ?zb5 ?zb6 ?zb7 ?zb8 ?zb9 ?zb10 ?zb11 ?zb12) (PySem.W.mg_of KX G ?a12)
    (case zc0 => k_is); (case zc1 => k_is); (case zc2 => k_is); (case zc3 => k_is)
    (case a5 => k_is); (case l5 => k_is); (case c5 => k_is); (case k5 => k_is)
    (case a6 => k_is); (case l6 => k_is); (case c6 => k_is); (case k6 => k_is)
    (case a8 => k_is); (case l8 => k_is); (case c8 => k_is); (case k8 => k_is)
    (case a9 => k_is); (case l9 => k_is); (case c9 => k_is); (case k9 => k_is)
    (case a10 => k_is); (case l10 => k_is); (case c10 => k_is); (case k10 => k_is)
    (case a11 => k_is); (case l11 => k_is); (case c11 => k_is); (case k11 => k_is)
    (case a12 => k_is); (case l12 => k_is); (case c12 => k_is); (case k12 => k_is)
    (case zb0 => k_is); (case zb1 => k_is); (case zb2 => k_is); (case zb3 => k_is)
    (case zb4 => k_is); (case zb5 => k_is); (case zb6 => k_is); (case zb7 => k_is)
    (case zb8 => k_is); (case zb9 => k_is); (case zb10 => k_is); (case zb11 => k_is)
    (case zb12 => k_is)

end
