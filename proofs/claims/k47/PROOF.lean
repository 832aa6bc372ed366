import PyProof.Rows.All
import Wide.All
import OpenK.AllK
import Wide.FinOn
import KE.KStateDown
import HandS.ForMost
import HandS.Exc
import HandS.ExcOwn
import HandS.WordsExc
import HandS.Defaults
import HandS.Flow
import HandS.IsInst
import HandS.HeadHook2
import HandS.Walk
import HandS.Zip
import KE.GoesMore
import KE.GoesEnum
import HandS.TupMul
import HandS.Deep
import HandS.TupAny
import HandS.Wide
import HandS.More
import PyProof.ReprRoads
import PyProof.WalksMore
import PyProof.MinMaxWalk
import PyProof.WalkInts
import PyProof.SumWalkG
import HandS.Conv
import HandS.SortInts
import HandS.EndBits
import HandS.Head0
import HandS.Head1
import HandS.Head2
import HandS.HeadEnd
import HandS.HeadHook1
import PySem.Challenge.RW_laidroads_k47_full_and_level
set_option Elab.async false
set_option linter.all false
set_option maxRecDepth 100000
set_option maxHeartbeats 0
namespace Mid
open PySem PySem.Spec PyProof.Rows L2

/-! ## plain data -/
inductive D where
  | non | bl (b : Bool) | int (i : Int) | str (x : Str)
  | tup (xs : List D) | lst (o : Bool) (xs : List D)
  | dct (o : Bool) (ks : List Key) (xs : List D)
  | pen
  | scr (ns : List Int)

mutual
def fz : D → D
  | .lst _ xs => .lst false (fzL xs)
  | .dct _ ks xs => .dct false ks (fzL xs)
  | .non => .non
  | .bl b => .bl b
  | .int i => .int i
  | .str x => .str x
  | .tup xs => .tup xs
  | .pen => .pen
  | .scr ns => .scr ns
def fzL : List D → List D
  | [] => []
  | d :: ds => fz d :: fzL ds
end

/-! ## computations: values, draws, refusals -/
inductive Comp (α : Type) where
  | ret (a : α)
  | draw (many : Nat) (k : Nat → Comp α)
  | err (c : String) (x : List D)
  | stuck

def Comp.bind {α β : Type} : Comp α → (α → Comp β) → Comp β
  | .ret a, f => f a
  | .draw m k, f => .draw m fun r => (k r).bind f
  | .err c x, _ => .err c x
  | .stuck, _ => .stuck
/-- each leaf, with what is left of the draws -/
def Comp.all {α : Type} (Q : Nat → α → Prop) (E : Nat → String → List D → Prop) : Comp α → Nat → Prop
  | .ret a, n => Q n a
  | .draw many k, n => ∃ m, n = m + 1 ∧ 0 < many ∧ ∀ r, r < many → (k r).all Q E m
  | .err c x, n => E n c x
  | .stuck, _ => False
theorem Comp.all_bind {α β : Type} {Q : Nat → β → Prop} {E : Nat → String → List D → Prop} {f : α → Comp β} : ∀ {c : Comp α} {n : Nat}, (c.bind f).all Q E n ↔ c.all (fun m a => (f a).all Q E m) E n
  | .ret a, n => Iff.rfl
  | .draw many k, n => by
    constructor
    · rintro ⟨m, e, h0, h⟩
      exact ⟨m, e, h0, fun r hr => Comp.all_bind.mp (h r hr)⟩
    · rintro ⟨m, e, h0, h⟩
      exact ⟨m, e, h0, fun r hr => Comp.all_bind.mpr (h r hr)⟩
  | .err c x, n => Iff.rfl
  | .stuck, n => Iff.rfl
theorem Comp.all_mono {α : Type} {Q Q' : Nat → α → Prop} {E E' : Nat → String → List D → Prop} (hq : ∀ m a, Q m a → Q' m a) (he : ∀ m c x, E m c x → E' m c x) : ∀ {c : Comp α} {n : Nat}, c.all Q E n → c.all Q' E' n
  | .ret a, n, h => hq n a h
  | .draw many k, n, ⟨m, e, h0, h⟩ => ⟨m, e, h0, fun r hr => Comp.all_mono hq he (h r hr)⟩
  | .err c x, n, h => he n c x h
  | .stuck, n, h => h

/-! ## the pen -/
abbrev Pn := Option (Addr × Addr)
def NP (PN : Pn) (a : Addr) : Prop := ∀ p c, PN = some (p, c) → a ≠ p ∧ a ≠ c
def bigA : Nat := 2 ^ 30
def bigR : Nat := 2 ^ 1200000
def PenAt (n : Nat) (H : Hp) (p c : Addr) : Prop := ∃ (cs : List Int) (at_ rest : Int), H p = some (.lst [.ref c, .int at_, .int rest]) ∧ H c = some (.lst (cs.map V.int)) ∧
  0 ≤ at_ ∧ at_ + n ≤ (bigA : Int) ∧ cs.length ≤ 12 ∧ (∀ x ∈ cs, x.natAbs < bigR) ∧ 0 ≤ rest ∧ rest.natAbs < bigR
def Pens (PN : Pn) (n : Nat) (H : Hp) : Prop := n ≤ bigA ∧ ∀ p c, PN = some (p, c) → PenAt n H p c
structure Mv (PN : Pn) (H : Hp) (PN' : Pn) (H' : Hp) : Prop where
  sub : ∀ pc, PN = some pc → PN' = some pc
  new : ∀ pc, PN' = some pc → PN = some pc ∨ (PN = none ∧ H pc.1 = none ∧ H pc.2 = none)
  ext : ∀ a o, H a = some o → NP PN a → H' a = some o
  keep : ∀ a, H' a = none → H a = none
theorem Mv.refl {PN : Pn} {H : Hp} : Mv PN H PN H := ⟨fun _ h => h, fun _ h => .inl h, fun _ _ h _ => h, fun _ h => h⟩
theorem Mv.np {PN PN' : Pn} {H H' : Hp} (m : Mv PN H PN' H') {a : Addr} (h : NP PN a) (ha : H a ≠ none) : NP PN' a := fun p c e => by
  rcases m.new _ e with z | ⟨_, z1, z2⟩
  · exact h p c z
  · exact ⟨fun q => ha (by rw [q]; exact z1), fun q => ha (by rw [q]; exact z2)⟩
theorem Mv.npBack {PN PN' : Pn} {H H' : Hp} (m : Mv PN H PN' H') {a : Addr} (h : NP PN' a) : NP PN a := fun p c e => h p c (m.sub _ e)
theorem Mv.trans {PN PN1 PN2 : Pn} {H H1 H2 : Hp} (a : Mv PN H PN1 H1) (b : Mv PN1 H1 PN2 H2) : Mv PN H PN2 H2 where
  sub := fun pc h => b.sub pc (a.sub pc h)
  new := fun pc h => by
    rcases b.new pc h with z | ⟨z0, z1, z2⟩
    · exact a.new pc z
    · refine .inr ⟨?_, a.keep _ z1, a.keep _ z2⟩
      cases e : PN with
      | none => rfl
      | some q => rw [a.sub q e] at z0; cases z0
  ext := fun x o h n => b.ext x o (a.ext x o h n) (a.np n (by rw [h]; simp))
  keep := fun x h => a.keep x (b.keep x h)
theorem Mv.laid {PN : Pn} {H : Hp} {p : Addr} {o : HO} (hp : H p = none) : Mv PN H PN (upd H p o) where
  sub := fun _ h => h
  new := fun _ h => .inl h
  ext := fun a u h _ => by rw [upd_ne (ne_of_none h hp)]; exact h
  keep := fun a h => by
    by_cases e : a = p
    · rw [e]; exact hp
    · rw [upd_ne e] at h; exact h
theorem Pens.less {PN : Pn} {n m : Nat} {H : Hp} (h : Pens PN n H) (hm : m ≤ n) : Pens PN m H := ⟨Nat.le_trans hm h.1, fun p c e => by
  obtain ⟨cs, a, r, h1, h2, h3, h4, h5⟩ := h.2 p c e
  exact ⟨cs, a, r, h1, h2, h3, by omega, h5⟩⟩
theorem Pens.laid {PN : Pn} {n : Nat} {H : Hp} {p : Addr} {o : HO} (h : Pens PN n H) (hp : H p = none) : Pens PN n (upd H p o) := ⟨h.1, fun q c e => by
  obtain ⟨cs, a, r, h1, h2, h3⟩ := h.2 q c e
  exact ⟨cs, a, r, by rw [upd_ne (ne_of_none h1 hp)]; exact h1, by rw [upd_ne (ne_of_none h2 hp)]; exact h2, h3⟩⟩
theorem Pens.tracked {PN : Pn} {n : Nat} {H : Hp} (h : Pens PN n H) {a : Addr} (ha : H a = none) : NP PN a := fun p c e => by
  obtain ⟨cs, x, r, h1, h2, h3⟩ := h.2 p c e
  exact ⟨fun q => (by rw [q, h1] at ha; cases ha), fun q => (by rw [q, h2] at ha; cases ha)⟩

/-! ## what a value stands for -/
/-- a list that nothing changes -/
def Fzn (K : PySem.W.Frag) (H : Hp) (a : Addr) (xs : List V) : Prop := (∃ o, H a = some (.frz o (.lst xs))) ∨
  ∃ (o : Obj) (its : Array Value) (n : Nat), K.lookup a = some o ∧ o.cls = .type "list" ∧ o.dict = none ∧ o.data = .seq its n ∧ its.size ≤ sizeLine ∧ Vals xs its.toList
theorem Fzn.sq {K : PySem.W.Frag} {H : Hp} {a : Addr} {xs : List V} (h : Fzn K H a xs) : SqL K H a xs := by
  rcases h with ⟨o, h⟩ | h
  · exact .inl (.inr ⟨o, h⟩)
  · exact .inr h
mutual
inductive Rep (K : PySem.W.Frag) (PN : Pn) (H : Hp) (Z : Addr → Prop) : V → D → List Addr → Prop
  | non : Rep K PN H Z .non .non []
  | bl {b} : Rep K PN H Z (.bl b) (.bl b) []
  | int {i} : Rep K PN H Z (.int i) (.int i) []
  | str {x} : Rep K PN H Z (.str x) (.str x) []
  | tup {a vs ds} : SqT K H a vs → RepL K PN H Z vs ds [] → Rep K PN H Z (.ref a) (.tup ds) []
  | shr {a vs ds} : H a = some (.lst vs) → Z a → RepL K PN H Z vs ds [] → Rep K PN H Z (.ref a) (.lst false ds) []
  | own {a vs ds fp} : H a = some (.lst vs) → RepL K PN H Z vs ds fp → Rep K PN H Z (.ref a) (.lst true ds) (a :: fp)
  | dshr {a ks vs ds} : H a = some (.dK (ks.zip vs)) → ks.length = vs.length → Z a → RepL K PN H Z vs ds [] → Rep K PN H Z (.ref a) (.dct false ks ds) []
  | down {a ks vs ds fp} : H a = some (.dK (ks.zip vs)) → ks.length = vs.length → RepL K PN H Z vs ds fp → Rep K PN H Z (.ref a) (.dct true ks ds) (a :: fp)
  | pen {p c} : PN = some (p, c) → Rep K PN H Z (.ref p) .pen []
  | scr {a ns} : Fzn K H a (ns.map V.int) → Rep K PN H Z (.ref a) (.scr ns) []
inductive RepL (K : PySem.W.Frag) (PN : Pn) (H : Hp) (Z : Addr → Prop) : List V → List D → List Addr → Prop
  | nil : RepL K PN H Z [] [] []
  | cons {v d f vs ds g} : Rep K PN H Z v d f → RepL K PN H Z vs ds g → RepL K PN H Z (v :: vs) (d :: ds) (f ++ g)
end

/-- what a step leaves -/
structure Pres (Z : Addr → Prop) (H H' : Hp) : Prop where
  lst : ∀ a o, H a = some o → Z a → H' a = some o
  tup : ∀ a xs, H a = some (.tup xs) → H' a = some (.tup xs)
  frz : ∀ a o u, H a = some (.frz o u) → H' a = some (.frz o u)
theorem Pres.rd {Z : Addr → Prop} {H H' : Hp} (p : Pres Z H H') {a : Addr} {xs : List V} (z : Z a) (h : Rd H a (.lst xs)) : Rd H' a (.lst xs) := by
  rcases h with h | ⟨o, h⟩
  · exact .inl (p.lst _ _ h z)
  · exact .inr ⟨o, p.frz _ _ _ h⟩
theorem Pres.sqT {Z : Addr → Prop} {H H' : Hp} {K : PySem.W.Frag} (p : Pres Z H H') {a : Addr} {xs : List V} (h : SqT K H a xs) : SqT K H' a xs := by
  rcases h with (h | ⟨o, h⟩) | h
  · exact .inl (.inl (p.tup _ _ h))
  · exact .inl (.inr ⟨o, p.frz _ _ _ h⟩)
  · exact .inr h

theorem Pres.fzn {Z : Addr → Prop} {H H' : Hp} {K : PySem.W.Frag} (p : Pres Z H H') {a : Addr} {xs : List V} (h : Fzn K H a xs) : Fzn K H' a xs := by
  rcases h with ⟨o, h⟩ | h
  · exact .inl ⟨o, p.frz _ _ _ h⟩
  · exact .inr h
theorem Pres.trans {Z Z' : Addr → Prop} {H H1 H2 : Hp} (a : Pres Z H H1) (zz : ∀ a, Z a → Z' a) (b : Pres Z' H1 H2) : Pres Z H H2 :=
  ⟨fun x o h z => b.lst x o (a.lst x o h z) (zz x z), fun x xs h => b.tup x xs (a.tup x xs h), fun x o u h => b.frz x o u (a.frz x o u h)⟩
theorem app_nil {α : Type} {f g : List α} (h : f ++ g = []) : f = [] ∧ g = [] := by
  cases f with
  | nil => exact ⟨rfl, h⟩
  | cons a f => cases h
mutual
theorem Rep.to {K : PySem.W.Frag} {PN PN' : Pn} {H H' : Hp} {Z Z' : Addr → Prop} (pr : Pres Z H H') (pn : ∀ pc, PN = some pc → PN' = some pc) (zz : ∀ a, Z a → Z' a) : ∀ (d : D) {v : V} {fp : List Addr},
    (∀ a ∈ fp, ∀ o, H a = some o → H' a = some o) → Rep K PN H Z v d fp → Rep K PN' H' Z' v d fp
  | .non, _, _, _, .non => .non
  | .bl _, _, _, _, .bl => .bl
  | .int _, _, _, _, .int => .int
  | .str _, _, _, _, .str => .str
  | .tup ds, _, _, _, .tup h r => .tup (pr.sqT h) (RepL.to pr pn zz ds (fun _ h => nomatch h) r)
  | .lst false ds, _, _, _, .shr h z r => .shr (pr.lst _ _ h z) (zz _ z) (RepL.to pr pn zz ds (fun _ h => nomatch h) r)
  | .lst true ds, _, _, f, .own h r => .own (f _ List.mem_cons_self _ h) (RepL.to pr pn zz ds (fun a ha => f a (List.mem_cons_of_mem _ ha)) r)
  | .dct false _ ds, _, _, _, .dshr h l z r => .dshr (pr.lst _ _ h z) l (zz _ z) (RepL.to pr pn zz ds (fun _ h => nomatch h) r)
  | .dct true _ ds, _, _, f, .down h l r => .down (f _ List.mem_cons_self _ h) l (RepL.to pr pn zz ds (fun a ha => f a (List.mem_cons_of_mem _ ha)) r)
  | .pen, _, _, _, .pen h => .pen (pn _ h)
  | .scr _, _, _, _, .scr h => .scr (pr.fzn h)
theorem RepL.to {K : PySem.W.Frag} {PN PN' : Pn} {H H' : Hp} {Z Z' : Addr → Prop} (pr : Pres Z H H') (pn : ∀ pc, PN = some pc → PN' = some pc) (zz : ∀ a, Z a → Z' a) : ∀ (ds : List D) {vs : List V} {fp : List Addr},
    (∀ a ∈ fp, ∀ o, H a = some o → H' a = some o) → RepL K PN H Z vs ds fp → RepL K PN' H' Z' vs ds fp
  | [], _, _, _, .nil => .nil
  | d :: ds, _, _, f, .cons r q => .cons (Rep.to pr pn zz d (fun a ha => f a (List.mem_append_left _ ha)) r) (RepL.to pr pn zz ds (fun a ha => f a (List.mem_append_right _ ha)) q)
end
mutual
/-- given up: read from now on, never written -/
theorem Rep.fz {K : PySem.W.Frag} {PN : Pn} {H : Hp} {Z Z' : Addr → Prop} (zz : ∀ a, Z a → Z' a) : ∀ (d : D) {v : V} {fp : List Addr}, (∀ a ∈ fp, Z' a) → Rep K PN H Z v d fp → Rep K PN H Z' v (fz d) []
  | .non, _, _, _, .non => .non
  | .bl _, _, _, _, .bl => .bl
  | .int _, _, _, _, .int => .int
  | .str _, _, _, _, .str => .str
  | .tup ds, _, _, _, .tup h r => .tup h (RepL.to ⟨fun _ _ h _ => h, fun _ _ h => h, fun _ _ _ h => h⟩ (fun _ h => h) zz ds (fun _ h => nomatch h) r)
  | .lst false ds, _, _, f, .shr h z r => .shr h (zz _ z) (RepL.fz zz ds f r)
  | .lst true ds, _, _, f, .own h r => .shr h (f _ List.mem_cons_self) (RepL.fz zz ds (fun a ha => f a (List.mem_cons_of_mem _ ha)) r)
  | .dct false _ ds, _, _, f, .dshr h l z r => .dshr h l (zz _ z) (RepL.fz zz ds f r)
  | .dct true _ ds, _, _, f, .down h l r => .dshr h l (f _ List.mem_cons_self) (RepL.fz zz ds (fun a ha => f a (List.mem_cons_of_mem _ ha)) r)
  | .pen, _, _, _, .pen h => .pen h
  | .scr _, _, _, _, .scr h => .scr h
theorem RepL.fz {K : PySem.W.Frag} {PN : Pn} {H : Hp} {Z Z' : Addr → Prop} (zz : ∀ a, Z a → Z' a) : ∀ (ds : List D) {vs : List V} {fp : List Addr}, (∀ a ∈ fp, Z' a) → RepL K PN H Z vs ds fp → RepL K PN H Z' vs (fzL ds) []
  | [], _, _, _, .nil => .nil
  | d :: ds, _, _, f, .cons r q => .cons (f := []) (Rep.fz zz d (fun a ha => f a (List.mem_append_left _ ha)) r) (RepL.fz zz ds (fun a ha => f a (List.mem_append_right _ ha)) q)
end
theorem RepL.length {K : PySem.W.Frag} {PN : Pn} {H : Hp} {Z : Addr → Prop} : ∀ {vs : List V} {ds : List D} {fp : List Addr}, RepL K PN H Z vs ds fp → vs.length = ds.length
  | _, _, _, .nil => rfl
  | _, _, _, .cons _ q => by simp [q.length]
/-- list items, nothing owned -/
theorem RepL.get {K : PySem.W.Frag} {PN : Pn} {H : Hp} {Z : Addr → Prop} : ∀ {vs : List V} {ds : List D} {fp : List Addr} {i : Nat} {d : D}, RepL K PN H Z vs ds fp → fp = [] → ds[i]? = some d → ∃ v, vs[i]? = some v ∧ Rep K PN H Z v d []
  | _, _, _, _, _, .nil, _, h => by simp at h
  | _, _, _, 0, d, .cons r q, e, h => by
    obtain ⟨e1, e2⟩ := app_nil e
    simp at h
    subst h
    subst e1
    exact ⟨_, rfl, r⟩
  | _, _, _, i + 1, d, .cons r q, e, h => by
    obtain ⟨v, h1, h2⟩ := RepL.get (i := i) q (app_nil e).2 (by simpa using h)
    exact ⟨v, by simpa using h1, h2⟩
theorem RepL.append {K : PySem.W.Frag} {PN : Pn} {H : Hp} {Z : Addr → Prop} : ∀ {vs us : List V} {ds es : List D} {f g : List Addr}, RepL K PN H Z vs ds f → RepL K PN H Z us es g → RepL K PN H Z (vs ++ us) (ds ++ es) (f ++ g)
  | _, _, _, _, _, _, .nil, s => s
  | _, _, _, _, _, _, .cons r t, s => by
    rw [List.append_assoc]
    exact .cons r (RepL.append t s)
theorem RepL.drop {K : PySem.W.Frag} {PN : Pn} {H : Hp} {Z : Addr → Prop} : ∀ {vs : List V} {ds : List D} {f : List Addr} (n : Nat), RepL K PN H Z vs ds f → f = [] → RepL K PN H Z (vs.drop n) (ds.drop n) []
  | _, _, _, 0, r, e => e ▸ r
  | _, _, _, _ + 1, .nil, _ => .nil
  | _, _, _, n + 1, .cons r t, e => RepL.drop n t (app_nil e).2
theorem RepL.take {K : PySem.W.Frag} {PN : Pn} {H : Hp} {Z : Addr → Prop} : ∀ {vs : List V} {ds : List D} {f : List Addr} (n : Nat), RepL K PN H Z vs ds f → f = [] → RepL K PN H Z (vs.take n) (ds.take n) []
  | _, _, _, 0, r, e => .nil
  | _, _, _, _ + 1, .nil, _ => .nil
  | _, _, _, n + 1, .cons r t, e => by
    obtain ⟨e1, e2⟩ := app_nil e
    subst e1
    exact .cons (f := []) r (RepL.take n t e2)
end Mid

namespace Mid
open PySem PySem.Spec PyProof.Rows L2

abbrev Env := List (Option D)

def Zk (PN : Pn) (Z : Addr → Prop) (H : Hp) : Prop := ∀ a, Z a → H a ≠ none ∧ NP PN a
theorem Zk.step {PN PN' : Pn} {H H' : Hp} {Z : Addr → Prop} (z : Zk PN Z H) (m : Mv PN H PN' H') : Zk PN' Z H' := fun a h => by
  obtain ⟨h1, h2⟩ := z a h
  exact ⟨fun q => h1 (m.keep a q), m.np h2 h1⟩
theorem Pens.notTup {PN : Pn} {n : Nat} {H : Hp} (h : Pens PN n H) {a : Addr} (ha : ∀ xs, H a ≠ some (.lst xs)) : NP PN a := fun p c e => by
  obtain ⟨cs, x, r, h1, h2, h3⟩ := h.2 p c e
  exact ⟨fun q => ha _ (by rw [q]; exact h1), fun q => ha _ (by rw [q]; exact h2)⟩
theorem Mv.pres {PN PN' : Pn} {H H' : Hp} {Z : Addr → Prop} {n : Nat} (m : Mv PN H PN' H') (p : Pens PN n H) (z : Zk PN Z H) : Pres Z H H' where
  lst := fun a o h hz => m.ext a o h (z a hz).2
  tup := fun a xs h => m.ext a _ h (p.notTup fun ys e => by rw [h] at e; cases e)
  frz := fun a o u h => m.ext a _ h (p.notTup fun ys e => by rw [h] at e; cases e)
/-- a step seen from the heap ahead: what is given up is from Z, or new -/
structure Sh (K : PySem.W.Frag) (PN : Pn) (H : Hp) (Z : Addr → Prop) (m : Nat) (PN' : Pn) (H' : Hp) (Z' : Addr → Prop) : Prop where
  mv : Mv PN H PN' H'
  pens : Pens PN' m H'
  zk : Zk PN' Z' H'
  up : ∀ a, Z a → Z' a
  down : ∀ a, Z' a → Z a ∨ H a = none
theorem Sh.refl {K : PySem.W.Frag} {PN : Pn} {H : Hp} {Z : Addr → Prop} {m : Nat} (p : Pens PN m H) (z : Zk PN Z H) : Sh K PN H Z m PN H Z := ⟨.refl, p, z, fun _ h => h, fun _ h => .inl h⟩
theorem Sh.trans {K : PySem.W.Frag} {PN PN1 PN2 : Pn} {H H1 H2 : Hp} {Z Z1 Z2 : Addr → Prop} {m m' : Nat} (a : Sh K PN H Z m PN1 H1 Z1) (b : Sh K PN1 H1 Z1 m' PN2 H2 Z2) : Sh K PN H Z m' PN2 H2 Z2 :=
  ⟨a.mv.trans b.mv, b.pens, b.zk, fun x h => b.up x (a.up x h), fun x h => by
    rcases b.down x h with h | h
    · exact a.down x h
    · exact .inr (a.mv.keep x h)⟩
theorem Rep.step {K : PySem.W.Frag} {PN PN' : Pn} {H H' : Hp} {Z Z' : Addr → Prop} {m n : Nat} {v : V} {d : D} (s : Sh K PN H Z m PN' H' Z') (p : Pens PN n H) (z : Zk PN Z H) (r : Rep K PN H Z v d []) : Rep K PN' H' Z' v d [] :=
  Rep.to (s.mv.pres p z) (s.mv.sub) s.up d (fun _ h => nomatch h) r
theorem RepL.step {K : PySem.W.Frag} {PN PN' : Pn} {H H' : Hp} {Z Z' : Addr → Prop} {m n : Nat} {v : List V} {d : List D} (s : Sh K PN H Z m PN' H' Z') (p : Pens PN n H) (z : Zk PN Z H) (r : RepL K PN H Z v d []) : RepL K PN' H' Z' v d [] :=
  RepL.to (s.mv.pres p z) (s.mv.sub) s.up d (fun _ h => nomatch h) r

/-- an expression's value v is d; what is new and its own alone: fp -/
def Ev (K : PySem.W.Frag) (PN : Pn) (H : Hp) (Z : Addr → Prop) (m : Nat) (v : V) (d : D) (PN' : Pn) (H' : Hp) : Prop :=
  ∃ fp Z', Mv PN H PN' H' ∧ Pens PN' m H' ∧ fp.Nodup ∧ (∀ a ∈ fp, H a = none ∧ NP PN' a ∧ H' a ≠ none) ∧
    (∀ a, Z' a → (Z a ∨ H a = none) ∧ a ∉ fp ∧ NP PN' a ∧ H' a ≠ none) ∧ Rep K PN' H' Z' v d fp
theorem Ev.sh {K : PySem.W.Frag} {PN PN' : Pn} {H H' : Hp} {Z : Addr → Prop} {m : Nat} {v : V} {d : D} (z : Zk PN Z H) (h : Ev K PN H Z m v d PN' H') : ∃ Z', Sh K PN H Z m PN' H' Z' ∧ Rep K PN' H' Z' v (fz d) [] := by
  obtain ⟨fp, Z', mv, p, nd, hf, hz, r⟩ := h
  refine ⟨fun a => Z a ∨ Z' a ∨ a ∈ fp, ⟨mv, p, fun a ha => ?_, fun a h => .inl h, fun a ha => ?_⟩, Rep.fz (fun a h => .inr (.inl h)) d (fun a h => .inr (.inr h)) r⟩
  · rcases ha with h | h | h
    · exact z.step mv a h
    · exact ⟨(hz a h).2.2.2, (hz a h).2.2.1⟩
    · exact ⟨(hf a h).2.2, (hf a h).2.1⟩
  · rcases ha with h | h | h
    · exact .inl h
    · exact (hz a h).1
    · exact .inr (hf a h).1
theorem Ev.back {K : PySem.W.Frag} {PN PN1 PN2 : Pn} {H H1 H2 : Hp} {Z Z1 : Addr → Prop} {m m' : Nat} {v : V} {d : D} (s : Sh K PN H Z m' PN1 H1 Z1) (h : Ev K PN1 H1 Z1 m v d PN2 H2) : Ev K PN H Z m v d PN2 H2 := by
  obtain ⟨fp, Z', mv, p, nd, hf, hz, r⟩ := h
  refine ⟨fp, Z', s.mv.trans mv, p, nd, fun a h => ⟨s.mv.keep a (hf a h).1, (hf a h).2⟩, fun a h => ⟨?_, (hz a h).2⟩, r⟩
  rcases (hz a h).1 with h | h
  · exact s.down a h
  · exact .inr (s.mv.keep a h)
/-- a value that was there -/
theorem Ev.here {K : PySem.W.Frag} {PN : Pn} {H : Hp} {Z : Addr → Prop} {m : Nat} {v : V} {d : D} (p : Pens PN m H) (z : Zk PN Z H) (r : Rep K PN H Z v d []) : Ev K PN H Z m v d PN H :=
  ⟨[], Z, .refl, p, .nil, fun _ h => (nomatch h), fun a h => ⟨.inl h, fun h => (nomatch h), (z a h).2, (z a h).1⟩, r⟩
theorem Ev.after {K : PySem.W.Frag} {PN PN' : Pn} {H H' : Hp} {Z Z' : Addr → Prop} {m : Nat} {v : V} {d : D} (s : Sh K PN H Z m PN' H' Z') (r : Rep K PN' H' Z' v d []) : Ev K PN H Z m v d PN' H' :=
  Ev.back s (Ev.here s.pens s.zk r)
/-- a new tuple of what is there -/
theorem Ev.tup {K : PySem.W.Frag} {PN : Pn} {H : Hp} {Z : Addr → Prop} {m : Nat} {vs : List V} {ds : List D} {p : Addr} (hp : H p = none) (ps : Pens PN m H) (z : Zk PN Z H) (r : RepL K PN H Z vs ds []) : Ev K PN H Z m (.ref p) (.tup ds) PN (upd H p (.tup vs)) := by
  have mv : Mv PN H PN (upd H p (.tup vs)) := .laid hp
  have s : Sh K PN H Z m PN (upd H p (.tup vs)) Z := ⟨mv, ps.laid hp, z.step mv, fun _ h => h, fun _ h => .inl h⟩
  exact Ev.after s (.tup (SqT.of upd_same) (r.step s ps z))
/-- a new list of what is there -/
theorem Ev.lst {K : PySem.W.Frag} {PN : Pn} {H : Hp} {Z : Addr → Prop} {m : Nat} {vs : List V} {ds : List D} {p : Addr} (hp : H p = none) (ps : Pens PN m H) (z : Zk PN Z H) (r : RepL K PN H Z vs ds []) : Ev K PN H Z m (.ref p) (.lst true ds) PN (upd H p (.lst vs)) := by
  have mv : Mv PN H PN (upd H p (.lst vs)) := .laid hp
  have s : Sh K PN H Z m PN (upd H p (.lst vs)) Z := ⟨mv, ps.laid hp, z.step mv, fun _ h => h, fun _ h => .inl h⟩
  refine ⟨[p], Z, mv, s.pens, (List.nodup_cons.mpr ⟨fun h => (nomatch h), List.Pairwise.nil⟩), fun a ha => ?_, fun a ha => ⟨.inl ha, fun q => ?_, (s.zk a ha).2, (s.zk a ha).1⟩, .own upd_same (r.step s ps z)⟩
  · have e := List.mem_singleton.mp ha
    subst e
    exact ⟨hp, ps.tracked hp, by rw [upd_same]; simp⟩
  · have e := List.mem_singleton.mp q
    subst e
    exact (z a ha).1 hp

/-! ## judgements -/
def Pk (K : PySem.W.Frag) (PN : Pn) (H : Hp) (Z : Addr → Prop) (vs : List Nat) (ρ : Env) (σ : L2.St) : Prop :=
  ρ.length = σ.length ∧ ∀ i ∈ vs, ∀ d, ρ[i]? = some (some d) → ∃ v, σ[i]? = some (some v) ∧ Rep K PN H Z v d []
theorem Pk.step {K : PySem.W.Frag} {PN PN' : Pn} {H H' : Hp} {Z Z' : Addr → Prop} {m n : Nat} {vs : List Nat} {ρ : Env} {σ : L2.St} (k : Pk K PN H Z vs ρ σ) (s : Sh K PN H Z m PN' H' Z') (p : Pens PN n H) (z : Zk PN Z H) : Pk K PN' H' Z' vs ρ σ := ⟨k.1, fun i hi d hd => by
  obtain ⟨v, h1, h2⟩ := k.2 i hi d hd
  exact ⟨v, h1, h2.step s p z⟩⟩
/-- what an error that leaves is to bring -/
def Out (mg : Str → Option Value) (W : WX) (PN : Pn) (H : Hp) (σ : L2.St) : Nat → String → List D → Prop := fun m c x =>
  ∀ C PN' H', mg (Str.ofString c) = some (.ref C) → x = [] → Mv PN H PN' H' → Pens PN' m H' → W (.ref C) none σ H'
theorem Out.back {mg : Str → Option Value} {W : WX} {PN PN1 : Pn} {H H1 : Hp} {σ : L2.St} {m : Nat} {c : String} {x : List D} (mv : Mv PN H PN1 H1) (h : Out mg W PN H σ m c x) : Out mg W PN1 H1 σ m c x :=
  fun C PN' H' e ex mv' p => h C PN' H' e ex (mv.trans mv') p
def ePre (K : PySem.W.Frag) (mg : Str → Option Value) (W : WX) (vs : List Nat) (f : Env → Comp D) : TE := fun σ H Q => ∃ PN n Z ρ, Pk K PN H Z vs ρ σ ∧ Zk PN Z H ∧ Pens PN n H ∧
  (f ρ).all (fun m d => ∀ v PN' H', Ev K PN H Z m v d PN' H' → Q v H') (Out mg W PN H σ) n
def bPre (K : PySem.W.Frag) (mg : Str → Option Value) (W : WX) (vs : List Nat) (f : Env → Comp Bool) : TT := fun σ H Q => ∃ PN n Z ρ, Pk K PN H Z vs ρ σ ∧ Zk PN Z H ∧ Pens PN n H ∧
  (f ρ).all (fun m b => ∀ PN' H' Z', Sh K PN H Z m PN' H' Z' → Q b H') (Out mg W PN H σ) n
def aPre (K : PySem.W.Frag) (mg : Str → Option Value) (W : WX) (vs : List Nat) (f : Env → Comp (List D)) : TA := fun σ H Q => ∃ PN n Z ρ, Pk K PN H Z vs ρ σ ∧ Zk PN Z H ∧ Pens PN n H ∧
  (f ρ).all (fun m ds => ∀ us PN' H' Z', Sh K PN H Z m PN' H' Z' → RepL K PN' H' Z' us ds [] → Q us H') (Out mg W PN H σ) n
abbrev EV (X : Cx) (W : WX) (vs : List Nat) (f : Env → Comp D) (e : Expr) : Prop := PE X e (ePre X.K X.mg W vs f)
abbrev EB (X : Cx) (W : WX) (vs : List Nat) (f : Env → Comp Bool) (e : Expr) : Prop := PT X e (bPre X.K X.mg W vs f)
abbrev EA (X : Cx) (W : WX) (vs : List Nat) (f : Env → Comp (List D)) (es : List Expr) : Prop := PA X es (aPre X.K X.mg W vs f)
theorem peW {X : Cx} {e : Expr} {t t' : TE} (h : PE X e t) (w : ∀ σ H Q, t' σ H Q → t σ H Q) : PE X e t' := ⟨fun pins s σ H Q I q => h.run pins s σ H Q I (w σ H Q q)⟩
theorem ptW {X : Cx} {e : Expr} {t t' : TT} (h : PT X e t) (w : ∀ σ H Q, t' σ H Q → t σ H Q) : PT X e t' := ⟨fun pins s σ H Q I q => h.run pins s σ H Q I (w σ H Q q)⟩
theorem paW {X : Cx} {e : List Expr} {t t' : TA} (h : PA X e t) (w : ∀ σ H Q, t' σ H Q → t σ H Q) : PA X e t' := ⟨fun pos pins s σ H Q I q => h.run pos pins s σ H Q I (w σ H Q q)⟩
theorem psW {X : Cx} {e : Stmt} {t t' : TS} (h : PS X e t) (w : ∀ D σ H, t' D σ H → t D σ H) : PS X e t' := ⟨fun pins s σ H D I q => h.run pins s σ H D I (w D σ H q)⟩
theorem pssW {X : Cx} {e : List Stmt} {t t' : TS} (h : PSs X e t) (w : ∀ D σ H, t' D σ H → t D σ H) : PSs X e t' := ⟨fun pins s σ H D I q => h.run pins s σ H D I (w D σ H q)⟩

/-! ## names, constants -/
def eVar (i : Nat) : Env → Comp D := fun ρ => match ρ[i]? with
  | some (some d) => .ret d
  | _ => .stuck
def eK (d : D) : Env → Comp D := fun _ => .ret d
section
variable {X : Cx} {W : WX} {vs : List Nat}
theorem ev_var (i : Nat) {x : Str} {pos : Pos} (hN : X.N[i]? = some x := by rfl) (hv : Vis X.env.scope x := by first | exact Or.inl rfl | exact Or.inr (Or.inl rfl) | exact Or.inr (Or.inr rfl)) (hm : vs.contains i = true := by rfl)
    (hd : (x == ("__debug__" : Str)) = false := by decide) (hcd : (x == ("__classdict__" : Str)) = false := by decide) : EV X W vs (eVar i) (.Name x pos) := by
  refine peW (pe_var hN hv hd hcd) fun σ H Q h => ?_
  obtain ⟨PN, n, Z, ρ, k, z, p, h⟩ := h
  unfold eVar at h
  split at h
  · rename_i d e
    obtain ⟨v, h1, h2⟩ := k.2 i (by simpa using hm) d e
    exact ⟨v, h1, h v PN H (Ev.here p z h2)⟩
  · exact h.elim
theorem ev_k {e : Expr} {v : V} {d : D} (he : PE X e (tC v)) (r : ∀ PN H Z, Rep X.K PN H Z v d []) : EV X W vs (eK d) e := by
  refine peW he fun σ H Q h => ?_
  obtain ⟨PN, n, Z, ρ, k, z, p, h⟩ := h
  exact h v PN H (Ev.here p z (r PN H Z))
theorem ev_int {i j pos} : EV X W vs (eK (.int i)) (.Constant (.int i) j pos) := ev_k pe_int fun _ _ _ => .int
theorem ev_bl {i j pos} : EV X W vs (eK (.bl i)) (.Constant (.bool i) j pos) := ev_k pe_bl fun _ _ _ => .bl
theorem ev_non {j pos} : EV X W vs (eK .non) (.Constant .none j pos) := ev_k pe_non fun _ _ _ => .non
theorem ev_str {i j pos} : EV X W vs (eK (.str i)) (.Constant (.str i) j pos) := ev_k pe_str fun _ _ _ => .str

/-! ## operators by values -/
/-- g tells of two values what comes -/
def r2 (K : PySem.W.Frag) (g : D → D → Comp D) : R2 := fun x y H Q => ∃ PN n Z d e, Rep K PN H Z x d [] ∧ Rep K PN H Z y e [] ∧ Zk PN Z H ∧ Pens PN n H ∧
  (g d e).all (fun m r => ∀ v PN' H', Ev K PN H Z m v r PN' H' → Q v H') (fun _ _ _ => False) n
def eBin (g : D → D → Comp D) (f f' : Env → Comp D) : Env → Comp D := fun ρ => (f ρ).bind fun d => (f' ρ).bind fun e => g (fz d) (fz e)
theorem Out.none {α : Type} {Q : Nat → α → Prop} {E : Nat → String → List D → Prop} {c : Comp α} {n : Nat} (h : c.all Q (fun _ _ _ => False) n) : c.all Q E n := Comp.all_mono (fun _ _ h => h) (fun _ _ _ h => h.elim) h
/-- a computation that is never refused -/
def Comp.quiet {α : Type} : Comp α → Prop
  | .ret _ => True
  | .draw many k => ∀ r, r < many → (k r).quiet
  | .err _ _ => False
  | .stuck => True
theorem Comp.all_quiet {α : Type} {Q : Nat → α → Prop} {E E' : Nat → String → List D → Prop} : ∀ {c : Comp α} {n : Nat}, c.quiet → c.all Q E n → c.all Q E' n
  | .ret _, _, _, h => h
  | .draw _ _, _, q, ⟨m, e, h0, h⟩ => ⟨m, e, h0, fun r hr => Comp.all_quiet (q r hr) (h r hr)⟩
  | .err _ _, _, q, _ => q.elim
  | .stuck, _, _, h => h
theorem bin_pre {a b : TE} {f f' : Env → Comp D} {g : D → D → Comp D} (ha : ∀ σ H Q, ePre X.K X.mg W vs f σ H Q → a σ H Q) (hb : ∀ σ H Q, ePre X.K X.mg W vs f' σ H Q → b σ H Q) (hg : ∀ d e, (g d e).quiet) :
    ∀ σ H Q, ePre X.K X.mg W vs (eBin g f f') σ H Q → tOp (r2 X.K g) a b σ H Q := fun σ H Q h => by
  obtain ⟨PN, n, Z, ρ, k, z, p, h⟩ := h
  rw [eBin, Comp.all_bind] at h
  refine ha σ H _ ⟨PN, n, Z, ρ, k, z, p, Comp.all_mono (fun m d h => fun v PN1 H1 ev => ?_) (fun _ _ _ h => h) h⟩
  obtain ⟨Z1, s1, r1⟩ := ev.sh z
  rw [Comp.all_bind] at h
  refine hb σ H1 _ ⟨PN1, m, Z1, ρ, k.step s1 p z, s1.zk, s1.pens, Comp.all_mono (fun m' d' h => fun v' PN2 H2 ev' => ?_) (fun _ _ _ h => h.back s1.mv) h⟩
  obtain ⟨Z2, s2, q2⟩ := ev'.sh s1.zk
  refine ⟨PN2, m', Z2, fz d, fz d', r1.step s2 s1.pens s1.zk, q2, s2.zk, s2.pens, Comp.all_quiet (hg _ _) (Comp.all_mono (fun m2 r h => fun w PN3 H3 ev3 => ?_) (fun _ _ _ h => h) h)⟩
  exact h w PN3 H3 (Ev.back (s1.trans s2) ev3)
theorem ev_bin {op : Operator} {g : D → D → Comp D} {a b : Expr} {f f' : Env → Comp D} {pos : Pos} (ho : OpR X (binaryOp op) (r2 X.K g)) (hg : ∀ d e, (g d e).quiet) (ha : EV X W vs f a) (hb : EV X W vs f' b) : EV X W vs (eBin g f f') (.BinOp a op b pos) :=
  peW (pe_op ho ha hb) (bin_pre (fun _ _ _ h => h) (fun _ _ _ h => h) hg)
theorem ev_cmp {op : CmpOp} {g : D → D → Comp D} {a b : Expr} {f f' : Env → Comp D} {pos : Pos} (ho : OpR X (compareOp op) (r2 X.K g)) (hg : ∀ d e, (g d e).quiet) (ha : EV X W vs f a) (hb : EV X W vs f' b)
    (hm : behindInMarks op b = false := by first | exact nomark _ | rfl) : EV X W vs (eBin g f f') (.Compare a [op] [b] pos) :=
  peW (pe_cmpR ho ha hb hm) (bin_pre (fun _ _ _ h => h) (fun _ _ _ h => h) hg)
def eUn (g : D → Comp D) (f : Env → Comp D) : Env → Comp D := fun ρ => (f ρ).bind fun d => g (fz d)
def r1 (K : PySem.W.Frag) (g : D → Comp D) : V → Hp → VK → Prop := fun x H Q => ∃ PN n Z d, Rep K PN H Z x d [] ∧ Zk PN Z H ∧ Pens PN n H ∧
  (g d).all (fun m r => ∀ v PN' H', Ev K PN H Z m v r PN' H' → Q v H') (fun _ _ _ => False) n
theorem ev_un {op : UnaryOp} {g : D → Comp D} {a : Expr} {f : Env → Comp D} {pos : Pos} (ho : UnR X (unaryOp op) (r1 X.K g)) (hg : ∀ d, (g d).quiet) (ha : EV X W vs f a) : EV X W vs (eUn g f) (.UnaryOp op a pos) := by
  refine peW (pe_un ho ha) fun σ H Q h => ?_
  obtain ⟨PN, n, Z, ρ, k, z, p, h⟩ := h
  rw [eUn, Comp.all_bind] at h
  refine ⟨PN, n, Z, ρ, k, z, p, Comp.all_mono (fun m d h => fun v PN1 H1 ev => ?_) (fun _ _ _ h => h) h⟩
  obtain ⟨Z1, s1, r1⟩ := ev.sh z
  exact ⟨PN1, m, Z1, fz d, r1, s1.zk, s1.pens, Comp.all_quiet (hg _) (Comp.all_mono (fun m2 r h => fun w PN3 H3 ev3 => h w PN3 H3 (Ev.back s1 ev3)) (fun _ _ _ h => h) h)⟩

/-! ## tests -/
def asB : D → Comp Bool
  | .bl b => .ret b
  | _ => .stuck
def bOf (f : Env → Comp D) : Env → Comp Bool := fun ρ => (f ρ).bind asB
theorem eb_val {e : Expr} {f : Env → Comp D} (h : EV X W vs f e) (he : ∀ whole, isTrue e X.env whole = (do let v ← whole; standAt e.pos; holding [v] (truthy v)) := by intro _; rfl) : EB X W vs (bOf f) e := by
  refine ptW (pt_val h he) fun σ H Q h => ?_
  obtain ⟨PN, n, Z, ρ, k, z, p, h⟩ := h
  rw [bOf, Comp.all_bind] at h
  refine ⟨PN, n, Z, ρ, k, z, p, Comp.all_mono (fun m d h => fun v PN1 H1 ev => ?_) (fun _ _ _ h => h) h⟩
  obtain ⟨Z1, s1, r1⟩ := ev.sh z
  cases d with
  | bl b =>
    cases r1
    exact ⟨b, rfl, h PN1 H1 Z1 s1⟩
  | _ => exact h.elim
theorem eb_cmp {op : CmpOp} {g : D → D → Comp D} {a b : Expr} {f f' : Env → Comp D} {pos : Pos} (ho : OpR X (compareOp op) (r2 X.K g)) (hg : ∀ d e, (g d e).quiet) (ha : EV X W vs f a) (hb : EV X W vs f' b)
    (hm : behindInMarks op b = false := by first | exact nomark _ | rfl) : EB X W vs (bOf (eBin g f f')) (.Compare a [op] [b] pos) := by
  refine ptW (pt_cmpR ho ha hb hm) fun σ H Q h => ?_
  refine bin_pre (fun _ _ _ h => h) (fun _ _ _ h => h) hg σ H _ ?_
  obtain ⟨PN, n, Z, ρ, k, z, p, h⟩ := h
  rw [bOf, Comp.all_bind] at h
  refine ⟨PN, n, Z, ρ, k, z, p, Comp.all_mono (fun m d h => fun v PN1 H1 ev => ?_) (fun _ _ _ h => h) h⟩
  obtain ⟨Z1, s1, r1⟩ := ev.sh z
  cases d with
  | bl b =>
    cases r1
    exact ⟨b, rfl, h PN1 H1 Z1 s1⟩
  | _ => exact h.elim
def bAnd (f g : Env → Comp Bool) : Env → Comp Bool := fun ρ => (f ρ).bind fun b => if b then g ρ else .ret false
def bOr (f g : Env → Comp Bool) : Env → Comp Bool := fun ρ => (f ρ).bind fun b => if b then .ret true else g ρ
def bNot (f : Env → Comp Bool) : Env → Comp Bool := fun ρ => (f ρ).bind fun b => .ret (!b)
/-- a test as a part of and, or -/
structure EW (X : Cx) (W : WX) (vs : List Nat) (f : Env → Comp Bool) (e : Expr) : Prop where
  run : PW X e (bPre X.K X.mg W vs f)
theorem EW.eb {f : Env → Comp Bool} {e : Expr} (h : EW X W vs f e) : EB X W vs f e := PW.pt h.run
theorem pwW {e : Expr} {t t' : TT} (h : PW X e t) (w : ∀ σ H Q, t' σ H Q → t σ H Q) : PW X e t' := ⟨fun wh pins s σ H Q I q => h.run wh pins s σ H Q I (w σ H Q q)⟩
theorem ew_and1 {f : Env → Comp Bool} {e : Expr} {pos : Pos} (h : EB X W vs f e) : EW X W vs f (.BoolOp .And [e] pos) := ⟨pw_and1 h⟩
theorem ew_or1 {f : Env → Comp Bool} {e : Expr} {pos : Pos} (h : EB X W vs f e) : EW X W vs f (.BoolOp .Or [e] pos) := ⟨pw_or1 h⟩
theorem ew_and {f g : Env → Comp Bool} {e e2 : Expr} {es : List Expr} {pos : Pos} (h : EB X W vs f e) (h2 : EW X W vs g (.BoolOp .And (e2 :: es) pos)) : EW X W vs (bAnd f g) (.BoolOp .And (e :: e2 :: es) pos) := by
  refine ⟨pwW (pw_and h h2.run) fun σ H Q h => ?_⟩
  obtain ⟨PN, n, Z, ρ, k, z, p, h⟩ := h
  rw [bAnd, Comp.all_bind] at h
  refine ⟨PN, n, Z, ρ, k, z, p, Comp.all_mono (fun m b h => fun PN1 H1 Z1 s1 => ?_) (fun _ _ _ h => h) h⟩
  cases b with
  | true => exact ⟨PN1, m, Z1, ρ, k.step s1 p z, s1.zk, s1.pens, Comp.all_mono (fun m' b' h => fun PN2 H2 Z2 s2 => h PN2 H2 Z2 (s1.trans s2)) (fun _ _ _ h => h.back s1.mv) h⟩
  | false => exact h PN1 H1 Z1 s1
theorem ew_or {f g : Env → Comp Bool} {e e2 : Expr} {es : List Expr} {pos : Pos} (h : EB X W vs f e) (h2 : EW X W vs g (.BoolOp .Or (e2 :: es) pos)) : EW X W vs (bOr f g) (.BoolOp .Or (e :: e2 :: es) pos) := by
  refine ⟨pwW (pw_or h h2.run) fun σ H Q h => ?_⟩
  obtain ⟨PN, n, Z, ρ, k, z, p, h⟩ := h
  rw [bOr, Comp.all_bind] at h
  refine ⟨PN, n, Z, ρ, k, z, p, Comp.all_mono (fun m b h => fun PN1 H1 Z1 s1 => ?_) (fun _ _ _ h => h) h⟩
  cases b with
  | false => exact ⟨PN1, m, Z1, ρ, k.step s1 p z, s1.zk, s1.pens, Comp.all_mono (fun m' b' h => fun PN2 H2 Z2 s2 => h PN2 H2 Z2 (s1.trans s2)) (fun _ _ _ h => h.back s1.mv) h⟩
  | true => exact h PN1 H1 Z1 s1
theorem eb_not {f : Env → Comp Bool} {e : Expr} {pos : Pos} (h : EB X W vs f e) : EB X W vs (bNot f) (.UnaryOp .Not e pos) := by
  refine ptW (pt_not h) fun σ H Q h => ?_
  obtain ⟨PN, n, Z, ρ, k, z, p, h⟩ := h
  rw [bNot, Comp.all_bind] at h
  exact ⟨PN, n, Z, ρ, k, z, p, h⟩
/-! as values -/
def eAnd (f g : Env → Comp D) : Env → Comp D := fun ρ => (f ρ).bind fun d => (asB d).bind fun b => if b then g ρ else .ret (.bl false)
def eOr (f g : Env → Comp D) : Env → Comp D := fun ρ => (f ρ).bind fun d => (asB d).bind fun b => if b then .ret (.bl true) else g ρ
def eNot (f : Env → Comp D) : Env → Comp D := fun ρ => (f ρ).bind fun d => (asB d).bind fun b => .ret (.bl (!b))
theorem ev_one {op : BoolOp} {f : Env → Comp D} {e : Expr} {pos : Pos} (h : EV X W vs f e) : EV X W vs f (.BoolOp op [e] pos) := pe_one h
theorem ev_and {f g : Env → Comp D} {e e2 : Expr} {es : List Expr} {pos : Pos} (h : EV X W vs f e) (h2 : EV X W vs g (.BoolOp .And (e2 :: es) pos)) : EV X W vs (eAnd f g) (.BoolOp .And (e :: e2 :: es) pos) := by
  refine peW (pe_and h h2) fun σ H Q h => ?_
  obtain ⟨PN, n, Z, ρ, k, z, p, h⟩ := h
  rw [eAnd, Comp.all_bind] at h
  refine ⟨PN, n, Z, ρ, k, z, p, Comp.all_mono (fun m d h => fun v PN1 H1 ev => ?_) (fun _ _ _ h => h) h⟩
  obtain ⟨Z1, s1, r1⟩ := ev.sh z
  cases d with
  | bl b =>
    cases r1
    refine ⟨b, rfl, ?_⟩
    cases b with
    | true => exact ⟨PN1, m, Z1, ρ, k.step s1 p z, s1.zk, s1.pens, Comp.all_mono (fun m' b' h => fun w PN2 H2 e2 => h w PN2 H2 (e2.back s1)) (fun _ _ _ h => h.back s1.mv) h⟩
    | false => exact h _ PN1 H1 ev
  | _ => exact h.elim
theorem ev_or {f g : Env → Comp D} {e e2 : Expr} {es : List Expr} {pos : Pos} (h : EV X W vs f e) (h2 : EV X W vs g (.BoolOp .Or (e2 :: es) pos)) : EV X W vs (eOr f g) (.BoolOp .Or (e :: e2 :: es) pos) := by
  refine peW (pe_or h h2) fun σ H Q h => ?_
  obtain ⟨PN, n, Z, ρ, k, z, p, h⟩ := h
  rw [eOr, Comp.all_bind] at h
  refine ⟨PN, n, Z, ρ, k, z, p, Comp.all_mono (fun m d h => fun v PN1 H1 ev => ?_) (fun _ _ _ h => h) h⟩
  obtain ⟨Z1, s1, r1⟩ := ev.sh z
  cases d with
  | bl b =>
    cases r1
    refine ⟨b, rfl, ?_⟩
    cases b with
    | false => exact ⟨PN1, m, Z1, ρ, k.step s1 p z, s1.zk, s1.pens, Comp.all_mono (fun m' b' h => fun w PN2 H2 e2 => h w PN2 H2 (e2.back s1)) (fun _ _ _ h => h.back s1.mv) h⟩
    | true => exact h _ PN1 H1 ev
  | _ => exact h.elim
theorem ev_not {f : Env → Comp D} {e : Expr} {pos : Pos} (h : EV X W vs f e) : EV X W vs (eNot f) (.UnaryOp .Not e pos) := by
  refine peW (pe_not h) fun σ H Q h => ?_
  obtain ⟨PN, n, Z, ρ, k, z, p, h⟩ := h
  rw [eNot, Comp.all_bind] at h
  refine ⟨PN, n, Z, ρ, k, z, p, Comp.all_mono (fun m d h => fun v PN1 H1 ev => ?_) (fun _ _ _ h => h) h⟩
  obtain ⟨Z1, s1, r1⟩ := ev.sh z
  cases d with
  | bl b =>
    cases r1
    exact ⟨b, rfl, h _ PN1 H1 (Ev.after s1 .bl)⟩
  | _ => exact h.elim
def eIf (c : Env → Comp Bool) (f g : Env → Comp D) : Env → Comp D := fun ρ => (c ρ).bind fun b => if b then f ρ else g ρ
theorem ev_if {c : Env → Comp Bool} {f g : Env → Comp D} {ec a b : Expr} {pos : Pos} (hc : EB X W vs c ec) (ha : EV X W vs f a) (hb : EV X W vs g b) : EV X W vs (eIf c f g) (.IfExp ec a b pos) := by
  refine peW (pe_ifExp hc ha hb) fun σ H Q h => ?_
  obtain ⟨PN, n, Z, ρ, k, z, p, h⟩ := h
  rw [eIf, Comp.all_bind] at h
  refine ⟨PN, n, Z, ρ, k, z, p, Comp.all_mono (fun m d h => fun PN1 H1 Z1 s1 => ?_) (fun _ _ _ h => h) h⟩
  cases d with
  | true => exact ⟨PN1, m, Z1, ρ, k.step s1 p z, s1.zk, s1.pens, Comp.all_mono (fun m' b' h => fun w PN2 H2 e2 => h w PN2 H2 (e2.back s1)) (fun _ _ _ h => h.back s1.mv) h⟩
  | false => exact ⟨PN1, m, Z1, ρ, k.step s1 p z, s1.zk, s1.pens, Comp.all_mono (fun m' b' h => fun w PN2 H2 e2 => h w PN2 H2 (e2.back s1)) (fun _ _ _ h => h.back s1.mv) h⟩

/-! ## lists of arguments, displays, calls by value -/
def aNil : Env → Comp (List D) := fun _ => .ret []
def aCons (f : Env → Comp D) (fs : Env → Comp (List D)) : Env → Comp (List D) := fun ρ => (f ρ).bind fun d => (fs ρ).bind fun ds => .ret (fz d :: ds)
theorem ea_nil : EA X W vs aNil [] := by
  refine paW pa_nil fun σ H Q h => ?_
  obtain ⟨PN, n, Z, ρ, k, z, p, h⟩ := h
  exact h [] PN H Z (Sh.refl p z) .nil
theorem ea_cons {f : Env → Comp D} {fs : Env → Comp (List D)} {e : Expr} {es : List Expr} (h : EV X W vs f e) (h2 : EA X W vs fs es) (hs : starEach (e :: es) X.env = (false, eval e X.env) :: starEach es X.env := by rfl) : EA X W vs (aCons f fs) (e :: es) := by
  refine paW (pa_cons h h2 hs) fun σ H Q h => ?_
  obtain ⟨PN, n, Z, ρ, k, z, p, h⟩ := h
  rw [aCons, Comp.all_bind] at h
  refine ⟨PN, n, Z, ρ, k, z, p, Comp.all_mono (fun m d h => fun v PN1 H1 ev => ?_) (fun _ _ _ h => h) h⟩
  obtain ⟨Z1, s1, r1⟩ := ev.sh z
  rw [Comp.all_bind] at h
  refine ⟨PN1, m, Z1, ρ, k.step s1 p z, s1.zk, s1.pens, Comp.all_mono (fun m' ds h => fun us PN2 H2 Z2 s2 r2 => ?_) (fun _ _ _ h => h.back s1.mv) h⟩
  exact h (v :: us) PN2 H2 Z2 (s1.trans s2) (.cons (f := []) (r1.step s2 s1.pens s1.zk) r2)
/-- g tells of the arguments what comes -/
def rN (K : PySem.W.Frag) (g : List D → Comp D) : List V → Hp → VK → Prop := fun us H Q => ∃ PN n Z ds, RepL K PN H Z us ds [] ∧ Zk PN Z H ∧ Pens PN n H ∧
  (g ds).all (fun m r => ∀ v PN' H', Ev K PN H Z m v r PN' H' → Q v H') (fun _ _ _ => False) n
def eCallB (g : List D → Comp D) (fs : Env → Comp (List D)) : Env → Comp D := fun ρ => (fs ρ).bind g
theorem call_pre {t : TA} {fs : Env → Comp (List D)} {g : List D → Comp D} (hg : ∀ ds, (g ds).quiet) (ht : ∀ σ H Q, aPre X.K X.mg W vs fs σ H Q → t σ H Q) : ∀ σ H Q, ePre X.K X.mg W vs (eCallB g fs) σ H Q → tCB (rN X.K g) t σ H Q := fun σ H Q h => by
  obtain ⟨PN, n, Z, ρ, k, z, p, h⟩ := h
  rw [eCallB, Comp.all_bind] at h
  refine ht σ H _ ⟨PN, n, Z, ρ, k, z, p, Comp.all_mono (fun m ds h => fun us PN1 H1 Z1 s1 r1 => ?_) (fun _ _ _ h => h) h⟩
  exact ⟨PN1, m, Z1, ds, r1, s1.zk, s1.pens, Comp.all_quiet (hg _) (Comp.all_mono (fun m2 r h => fun w PN3 H3 ev3 => h w PN3 H3 (Ev.back s1 ev3)) (fun _ _ _ h => h) h)⟩
theorem ev_callB {g : List D → Comp D} {fs : Env → Comp (List D)} {x : Str} {id : String} {p pos : Pos} {e : Expr} {es : List Expr} (hc : CallR X (.builtin id) (rN X.K g)) (hq : ∀ ds, (g ds).quiet) (hm : X.mg x = none) (ha : EA X W vs fs (e :: es)) (hg : Gl X x := by rfl) (hv : bootBuiltins x = some (.builtin id) := by decide +kernel) (hn : x ≠ "__name__" := by decide) (hdb : (x == ("__debug__" : Str)) = false := by decide)
    (he : starEach (e :: es) X.env = (false, eval e X.env) :: starEach es X.env := by rfl) (hpl : (backTo pos (starEach es X.env)).any (·.1) = false := by rfl) : EV X W vs (eCallB g fs) (.Call (.Name x p) (e :: es) [] pos) :=
  peW (pe_callB hc hg hm hv ha hn hdb he hpl) (call_pre hq fun _ _ _ h => h)
theorem ev_callT {g : List D → Comp D} {fs : Env → Comp (List D)} {x : Str} {T : String} {p pos : Pos} {e : Expr} {es : List Expr} (hc : CallR X (.type T) (rN X.K g)) (hq : ∀ ds, (g ds).quiet) (hm : X.mg x = none) (ha : EA X W vs fs (e :: es)) (hg : Gl X x := by rfl) (hv : bootBuiltins x = some (.type T) := by decide +kernel) (hn : x ≠ "__name__" := by decide) (hdb : (x == ("__debug__" : Str)) = false := by decide)
    (he : starEach (e :: es) X.env = (false, eval e X.env) :: starEach es X.env := by rfl) (hpl : (backTo pos (starEach es X.env)).any (·.1) = false := by rfl) : EV X W vs (eCallB g fs) (.Call (.Name x p) (e :: es) [] pos) :=
  peW (pe_callTy hc hg hm hv ha hn hdb he hpl) (call_pre hq fun _ _ _ h => h)
def gTup : List D → Comp D := fun ds => if ds.length ≤ sizeLine then .ret (.tup ds) else .stuck
def gLst : List D → Comp D := fun ds => if ds.length ≤ sizeLine then .ret (.lst true ds) else .stuck
theorem ev_tup {fs : Env → Comp (List D)} {es : List Expr} {k pos} (h : EA X W vs fs es) : EV X W vs (eCallB gTup fs) (.Tuple es k pos) := by
  refine peW (pe_tup h) fun σ H Q h => ?_
  obtain ⟨PN, n, Z, ρ, k, z, p, h⟩ := h
  rw [eCallB, Comp.all_bind] at h
  refine ⟨PN, n, Z, ρ, k, z, p, Comp.all_mono (fun m ds h => fun us PN1 H1 Z1 s1 r1 => ?_) (fun _ _ _ h => h) h⟩
  unfold gTup at h
  split at h
  · rename_i hl
    exact ⟨by rw [r1.length]; exact hl, fun q nq => h _ _ _ (Ev.back s1 (Ev.tup nq s1.pens s1.zk r1))⟩
  · exact h.elim
theorem ev_lst {fs : Env → Comp (List D)} {es : List Expr} {pos} (h : EA X W vs fs es) : EV X W vs (eCallB gLst fs) (.List es pos) := by
  refine peW (pe_lst h) fun σ H Q h => ?_
  obtain ⟨PN, n, Z, ρ, k, z, p, h⟩ := h
  rw [eCallB, Comp.all_bind] at h
  refine ⟨PN, n, Z, ρ, k, z, p, Comp.all_mono (fun m ds h => fun us PN1 H1 Z1 s1 r1 => ?_) (fun _ _ _ h => h) h⟩
  unfold gLst at h
  split at h
  · rename_i hl
    exact ⟨by rw [r1.length]; exact hl, fun q nq => h _ _ _ (Ev.back s1 (Ev.lst nq s1.pens s1.zk r1))⟩
  · exact h.elim

/-! ## subscripts -/
theorem ev_ix {g : D → D → Comp D} {a b : Expr} {f f' : Env → Comp D} {pos : Pos} (ho : IxR X (r2 X.K g)) (hg : ∀ d e, (g d e).quiet) (ha : EV X W vs f a) (hb : EV X W vs f' b) (hs : PlainIx b := by exact fun _ _ => rfl) : EV X W vs (eBin g f f') (.Subscript a b pos) :=
  peW (pe_ix ho ha hb hs) (bin_pre (fun _ _ _ h => h) (fun _ _ _ h => h) hg)
def oNone : Env → Comp (Option Int) := fun _ => .ret none
def asI : D → Comp (Option Int)
  | .int i => .ret (some i)
  | _ => .stuck
def oSome (f : Env → Comp D) : Env → Comp (Option Int) := fun ρ => (f ρ).bind asI
def oPre (K : PySem.W.Frag) (mg : Str → Option Value) (W : WX) (vs : List Nat) (f : Env → Comp (Option Int)) : TO := fun σ H Q => ∃ PN n Z ρ, Pk K PN H Z vs ρ σ ∧ Zk PN Z H ∧ Pens PN n H ∧
  (f ρ).all (fun m b => ∀ PN' H' Z', Sh K PN H Z m PN' H' Z' → Q b H') (Out mg W PN H σ) n
structure EO (X : Cx) (W : WX) (vs : List Nat) (f : Env → Comp (Option Int)) (e : Option Expr) : Prop where
  run : PO X e (oPre X.K X.mg W vs f)
theorem poW {e : Option Expr} {t t' : TO} (h : PO X e t) (w : ∀ σ H Q, t' σ H Q → t σ H Q) : PO X e t' := ⟨fun pins s σ H Q I q => h.run pins s σ H Q I (w σ H Q q)⟩
theorem eo_none : EO X W vs oNone none := ⟨poW po_none fun σ H Q h => by
  obtain ⟨PN, n, Z, ρ, k, z, p, h⟩ := h
  exact h PN H Z (Sh.refl p z)⟩
theorem eo_some {f : Env → Comp D} {e : Expr} (h : EV X W vs f e) : EO X W vs (oSome f) (some e) := ⟨poW (po_some h) fun σ H Q h => by
  obtain ⟨PN, n, Z, ρ, k, z, p, h⟩ := h
  rw [oSome, Comp.all_bind] at h
  refine ⟨PN, n, Z, ρ, k, z, p, Comp.all_mono (fun m d h => fun v PN1 H1 ev => ?_) (fun _ _ _ h => h) h⟩
  obtain ⟨Z1, s1, r1⟩ := ev.sh z
  cases d with
  | int b =>
    cases r1
    exact ⟨b, rfl, h PN1 H1 Z1 s1⟩
  | _ => exact h.elim⟩
def rSl (K : PySem.W.Frag) (g : D → Option Int → Option Int → Comp D) : V → Option Int → Option Int → Hp → VK → Prop := fun x lo hi H Q => ∃ PN n Z d, Rep K PN H Z x d [] ∧ Zk PN Z H ∧ Pens PN n H ∧
  (g d lo hi).all (fun m r => ∀ v PN' H', Ev K PN H Z m v r PN' H' → Q v H') (fun _ _ _ => False) n
def eSl (g : D → Option Int → Option Int → Comp D) (f : Env → Comp D) (lo hi : Env → Comp (Option Int)) : Env → Comp D := fun ρ => (f ρ).bind fun d => (lo ρ).bind fun l => (hi ρ).bind fun u => g (fz d) l u
theorem ev_sl {g : D → Option Int → Option Int → Comp D} {f : Env → Comp D} {lo hi : Env → Comp (Option Int)} {e : Expr} {l u : Option Expr} {p2 pos : Pos} (hr : SlR X (rSl X.K g)) (hg : ∀ d l u, (g d l u).quiet) (he : EV X W vs f e) (hl : EO X W vs lo l) (hu : EO X W vs hi u) :
    EV X W vs (eSl g f lo hi) (.Subscript e (.Slice l u none p2) pos) := by
  refine peW (pe_slice hr he hl.run hu.run) fun σ H Q h => ?_
  obtain ⟨PN, n, Z, ρ, k, z, p, h⟩ := h
  rw [eSl, Comp.all_bind] at h
  refine ⟨PN, n, Z, ρ, k, z, p, Comp.all_mono (fun m d h => fun v PN1 H1 ev => ?_) (fun _ _ _ h => h) h⟩
  obtain ⟨Z1, s1, r1⟩ := ev.sh z
  rw [Comp.all_bind] at h
  refine ⟨PN1, m, Z1, ρ, k.step s1 p z, s1.zk, s1.pens, Comp.all_mono (fun m' l' h => fun PN2 H2 Z2 s2 => ?_) (fun _ _ _ h => h.back s1.mv) h⟩
  rw [Comp.all_bind] at h
  have k1 := k.step s1 p z
  refine ⟨PN2, m', Z2, ρ, k1.step s2 s1.pens s1.zk, s2.zk, s2.pens, Comp.all_mono (fun m' u' h => fun PN3 H3 Z3 s3 => ?_) (fun _ _ _ h => h.back (s1.mv.trans s2.mv)) h⟩
  refine ⟨PN3, m', Z3, fz d, (r1.step s2 s1.pens s1.zk).step s3 s2.pens s2.zk, s3.zk, s3.pens, Comp.all_quiet (hg _ _ _) (Comp.all_mono (fun m2 r h => fun w PN4 H4 ev4 => h w PN4 H4 (Ev.back ((s1.trans s2).trans s3) ev4)) (fun _ _ _ h => h) h)⟩
end
end Mid

namespace Mid
open PySem PySem.Spec PyProof.Rows L2

/-! ## statements -/
inductive Fl where
  | nx | bk | ct | rt (d : D) | er (c : String) (x : List D)
def Comp.try_ {α β : Type} : Comp α → (α → Comp β) → (String → List D → Comp β) → Comp β
  | .ret a, f, _ => f a
  | .draw m k, f, g => .draw m fun r => (k r).try_ f g
  | .err c x, _, g => g c x
  | .stuck, _, _ => .stuck
theorem Comp.all_try {α β : Type} {Q : Nat → β → Prop} {E : Nat → String → List D → Prop} {f : α → Comp β} {g : String → List D → Comp β} : ∀ {c : Comp α} {n : Nat},
    (c.try_ f g).all Q E n ↔ c.all (fun m a => (f a).all Q E m) (fun m c x => (g c x).all Q E m) n
  | .ret a, n => Iff.rfl
  | .draw many k, n => by
    constructor
    · rintro ⟨m, e, h0, h⟩
      exact ⟨m, e, h0, fun r hr => Comp.all_try.mp (h r hr)⟩
    · rintro ⟨m, e, h0, h⟩
      exact ⟨m, e, h0, fun r hr => Comp.all_try.mpr (h r hr)⟩
  | .err c x, n => Iff.rfl
  | .stuck, n => Iff.rfl

/-- the entry (pn, h, z); and what stands since some later place (pb, hb, zb) -/
structure Bs where
  pn : Pn
  h : Hp
  z : Addr → Prop
  pb : Pn
  hb : Hp
  zb : Addr → Prop
structure SOk (K : PySem.W.Frag) (B : Bs) (PN : Pn) (H : Hp) (Z : Addr → Prop) (ρ : Env) (σ : L2.St) (o : Addr → Option Nat) : Prop where
  mv : Mv B.pn B.h PN H
  zk : Zk PN Z H
  z0 : ∀ a, Z a → B.z a ∨ B.h a = none
  old : Pres B.zb B.hb H
  pold : ∀ pc, B.pb = some pc → PN = some pc
  zold : ∀ a, B.zb a → Z a
  len : ρ.length = σ.length
  slot : ∀ i d, ρ[i]? = some (some d) → ∃ v f, σ[i]? = some (some v) ∧ f.Nodup ∧ (∀ a ∈ f, o a = some i) ∧ Rep K PN H Z v d f
  own : ∀ a i, o a = some i → B.h a = none ∧ ¬ Z a ∧ NP PN a ∧ H a ≠ none
section
variable {K : PySem.W.Frag} {B : Bs} {PN PN' : Pn} {H H' : Hp} {Z Z' : Addr → Prop} {ρ : Env} {σ : L2.St} {o : Addr → Option Nat} {m n : Nat} {vs : List Nat}
/-- an expression ran: what is owned stood still -/
theorem SOk.step (s : SOk K B PN H Z ρ σ o) (p : Pens PN n H) (mv : Mv PN H PN' H') : SOk K B PN' H' Z ρ σ o where
  mv := s.mv.trans mv
  zk := s.zk.step mv
  z0 := s.z0
  old := s.old.trans s.zold (mv.pres p s.zk)
  pold := fun pc h => mv.sub pc (s.pold pc h)
  zold := s.zold
  len := s.len
  slot := fun i d hd => by
    obtain ⟨v, f, h1, h2, h3, h4⟩ := s.slot i d hd
    exact ⟨v, f, h1, h2, h3, Rep.to (mv.pres p s.zk) mv.sub (fun _ h => h) d (fun a ha ob e => mv.ext a ob e (s.own a i (h3 a ha)).2.2.1) h4⟩
  own := fun a i h => by
    obtain ⟨h1, h2, h3, h4⟩ := s.own a i h
    exact ⟨h1, h2, mv.np h3 h4, fun e => h4 (mv.keep a e)⟩
def fzE (ρ : Env) : Env := ρ.map (Option.map fz)
theorem fzE_get {i : Nat} {d : D} (h : (fzE ρ)[i]? = some (some d)) : ∃ e, ρ[i]? = some (some e) ∧ d = fz e := by
  unfold fzE at h
  rw [List.getElem?_map] at h
  cases e : ρ[i]? with
  | none => rw [e] at h; cases h
  | some x =>
    rw [e] at h
    cases x with
    | none => cases h
    | some y =>
      simp at h
      exact ⟨y, rfl, h.symm⟩
def Zv (Z : Addr → Prop) (o : Addr → Option Nat) (vs : List Nat) : Addr → Prop := fun a => Z a ∨ ∃ i, o a = some i ∧ i ∈ vs
theorem SOk.pk (s : SOk K B PN H Z ρ σ o) (vs : List Nat) : Pk K PN H (Zv Z o vs) vs (fzE ρ) σ ∧ Zk PN (Zv Z o vs) H := by
  refine ⟨⟨by unfold fzE; simp [s.len], fun i hi d hd => ?_⟩, fun a ha => ?_⟩
  · obtain ⟨e, he, rfl⟩ := fzE_get hd
    obtain ⟨v, f, h1, h2, h3, h4⟩ := s.slot i e he
    exact ⟨v, h1, Rep.fz (fun a h => .inl h) e (fun a ha => .inr ⟨i, h3 a ha, hi⟩) h4⟩
  · rcases ha with ha | ⟨i, h, _⟩
    · exact s.zk a ha
    · exact ⟨(s.own a i h).2.2.2, (s.own a i h).2.2.1⟩
mutual
/-- nothing in it may be another's -/
def noShr : D → Bool
  | .lst o xs => o && noShrL xs
  | .dct o _ xs => o && noShrL xs
  | .tup xs => noShrL xs
  | .non => true
  | .bl _ => true
  | .int _ => true
  | .str _ => true
  | .pen => true
  | .scr _ => true
def noShrL : List D → Bool
  | [] => true
  | d :: ds => noShr d && noShrL ds
end
mutual
theorem Rep.anyZ : ∀ (d : D) {v : V} {fp : List Addr}, noShr d = true → Rep K PN H Z v d fp → Rep K PN H Z' v d fp
  | .non, _, _, _, .non => .non
  | .bl _, _, _, _, .bl => .bl
  | .int _, _, _, _, .int => .int
  | .str _, _, _, _, .str => .str
  | .tup ds, _, _, n, .tup h r => .tup h (RepL.anyZ ds n r)
  | .lst true ds, _, _, n, .own h r => .own h (RepL.anyZ ds (by simpa [noShr] using n) r)
  | .dct true _ ds, _, _, n, .down h l r => .down h l (RepL.anyZ ds (by simpa [noShr] using n) r)
  | .lst false ds, _, _, n, _ => by simp [noShr] at n
  | .dct false _ ds, _, _, n, _ => by simp [noShr] at n
  | .pen, _, _, _, .pen h => .pen h
  | .scr _, _, _, _, .scr h => .scr h
theorem RepL.anyZ : ∀ (ds : List D) {vs : List V} {fp : List Addr}, noShrL ds = true → RepL K PN H Z vs ds fp → RepL K PN H Z' vs ds fp
  | [], _, _, _, .nil => .nil
  | d :: ds, _, _, n, .cons r q => .cons (Rep.anyZ d (by rw [noShrL, Bool.and_eq_true] at n; exact n.1) r) (RepL.anyZ ds (by rw [noShrL, Bool.and_eq_true] at n; exact n.2) q)
end
def frzE (vs : List Nat) (ρ : Env) : Env := ρ.mapIdx fun i x => if vs.contains i then x.map fz else x
theorem frzE_length : (frzE vs ρ).length = ρ.length := by unfold frzE; simp
theorem frzE_get {i : Nat} {d : D} (h : (frzE vs ρ)[i]? = some (some d)) : ∃ e, ρ[i]? = some (some e) ∧ ((i ∈ vs ∧ d = fz e) ∨ (i ∉ vs ∧ d = e)) := by
  unfold frzE at h
  rw [List.getElem?_mapIdx] at h
  cases e : ρ[i]? with
  | none => rw [e] at h; cases h
  | some x =>
    rw [e] at h
    cases x with
    | none => simp at h
    | some y =>
      refine ⟨y, rfl, ?_⟩
      by_cases hi : i ∈ vs
      · simp [hi] at h
        exact .inl ⟨hi, h.symm⟩
      · simp [hi] at h
        exact .inr ⟨hi, h.symm⟩
/-- what the value of an expression does to the names that it read -/
def upE (vs : List Nat) (d : D) (ρ : Env) : Env := if noShr d then ρ else frzE vs ρ
theorem upE_length {d : D} : (upE vs d ρ).length = ρ.length := by
  unfold upE
  split
  · rfl
  · exact frzE_length
/-- names given up -/
theorem SOk.freeze (s : SOk K B PN H Z ρ σ o) (vs : List Nat) : SOk K B PN H (Zv Z o vs) (frzE vs ρ) σ (fun a => (o a).bind fun i => if i ∈ vs then none else some i) where
  mv := s.mv
  zk := (s.pk vs).2
  z0 := fun a ha => by
    rcases ha with ha | ⟨i, h, _⟩
    · exact s.z0 a ha
    · exact .inr (s.own a i h).1
  old := s.old
  pold := s.pold
  zold := fun a h => .inl (s.zold a h)
  len := by rw [frzE_length]; exact s.len
  slot := fun i d hd => by
    obtain ⟨e, he, h⟩ := frzE_get hd
    obtain ⟨v, f, h1, h2, h3, h4⟩ := s.slot i e he
    rcases h with ⟨hi, rfl⟩ | ⟨hi, rfl⟩
    · exact ⟨v, [], h1, List.Pairwise.nil, fun _ h => (nomatch h), Rep.fz (fun a h => .inl h) e (fun a ha => .inr ⟨i, h3 a ha, hi⟩) h4⟩
    · refine ⟨v, f, h1, h2, fun a ha => ?_, Rep.to ⟨fun _ _ h _ => h, fun _ _ h => h, fun _ _ _ h => h⟩ (fun _ h => h) (fun a h => .inl h) d (fun _ _ _ h => h) h4⟩
      rw [h3 a ha]
      simp [hi]
  own := fun a i h => by
    cases e : o a with
    | none => rw [e] at h; cases h
    | some j =>
      rw [e] at h
      by_cases hj : j ∈ vs
      · simp [hj] at h
      · simp [hj] at h
        subst h
        obtain ⟨h1, h2, h3, h4⟩ := s.own a j e
        refine ⟨h1, fun hz => ?_, h3, h4⟩
        rcases hz with hz | ⟨k, hk, hm⟩
        · exact h2 hz
        · rw [e] at hk
          cases hk
          exact hj hm
/-- a value is stored, what it owns with it -/
theorem SOk.put (s : SOk K B PN H Z ρ σ o) {i : Nat} {v : V} {d : D} {fp : List Addr} (nd : fp.Nodup) (hf : ∀ a ∈ fp, B.h a = none ∧ ¬ Z a ∧ NP PN a ∧ H a ≠ none ∧ (∀ j, o a = some j → j = i)) (r : Rep K PN H Z v d fp) :
    SOk K B PN H Z (ρ.set i (some d)) (σ.set i (some v)) (fun a => if a ∈ fp then some i else if o a = some i then none else o a) where
  mv := s.mv
  zk := s.zk
  z0 := s.z0
  old := s.old
  pold := s.pold
  zold := s.zold
  len := by simp [s.len]
  slot := fun j e he => by
    by_cases hj : i = j
    · subst hj
      have hl : i < ρ.length := by
        have := (List.getElem?_eq_some_iff.mp he).1
        simpa using this
      rw [List.getElem?_set_self hl] at he
      cases he
      exact ⟨v, fp, by rw [List.getElem?_set_self (by rw [← s.len]; exact hl)], nd, fun a ha => if_pos ha, r⟩
    · rw [List.getElem?_set_ne hj] at he
      obtain ⟨u, f, h1, h2, h3, h4⟩ := s.slot j e he
      refine ⟨u, f, by rw [List.getElem?_set_ne hj]; exact h1, h2, fun a ha => ?_, h4⟩
      have hn : a ∉ fp := fun q => hj ((hf a q).2.2.2.2 j (h3 a ha)).symm
      rw [if_neg hn, if_neg (by rw [h3 a ha]; simpa using fun q => hj q.symm)]
      exact h3 a ha
  own := fun a j h => by
    by_cases ha : a ∈ fp
    · obtain ⟨h1, h2, h3, h4, _⟩ := hf a ha
      exact ⟨h1, h2, h3, h4⟩
    · rw [if_neg ha] at h
      split at h
      · cases h
      · exact s.own a j h
/-- an expression's value is stored -/
theorem SOk.store (s : SOk K B PN H Z ρ σ o) (p : Pens PN n H) {i : Nat} {v : V} {d : D} (ev : Ev K PN H (Zv Z o vs) m v d PN' H') :
    Pens PN' m H' ∧ ∃ Z' o', SOk K B PN' H' Z' ((upE vs d ρ).set i (some d)) (σ.set i (some v)) o' := by
  obtain ⟨fp, Z1, mv, p', nd, hf, hz, r⟩ := ev
  refine ⟨p', ?_⟩
  have fr : ∀ a ∈ fp, B.h a = none ∧ NP PN' a ∧ H' a ≠ none ∧ ∀ j, o a ≠ some j := fun a ha => by
    obtain ⟨h1, h2, h3⟩ := hf a ha
    exact ⟨s.mv.keep a h1, h2, h3, fun j hj => (s.own a j hj).2.2.2 h1⟩
  unfold upE
  by_cases hn : noShr d = true
  · rw [if_pos hn]
    have s' := s.step p mv
    refine ⟨Z, _, s'.put (i := i) nd (fun a ha => ?_) (Rep.anyZ d hn r)⟩
    obtain ⟨h1, h2, h3, h4⟩ := fr a ha
    exact ⟨h1, fun q => (s.zk a q).1 (hf a ha).1, h2, h3, fun j hj => absurd hj (h4 j)⟩
  · rw [if_neg hn]
    have sf := (s.freeze vs).step p mv
    -- more is given up: what the value brought
    have sg : SOk K B PN' H' (fun a => Zv Z o vs a ∨ Z1 a) (frzE vs ρ) σ (fun a => (o a).bind fun i => if i ∈ vs then none else some i) := by
      refine ⟨sf.mv, fun a ha => ?_, fun a ha => ?_, sf.old, sf.pold, fun a h => .inl (sf.zold a h), sf.len, fun j e he => ?_, fun a j hj => ?_⟩
      · rcases ha with ha | ha
        · exact sf.zk a ha
        · exact ⟨(hz a ha).2.2.2, (hz a ha).2.2.1⟩
      · rcases ha with ha | ha
        · exact sf.z0 a ha
        · rcases (hz a ha).1 with q | q
          · exact sf.z0 a q
          · exact .inr (s.mv.keep a q)
      · obtain ⟨u, f, h1, h2, h3, h4⟩ := sf.slot j e he
        exact ⟨u, f, h1, h2, h3, Rep.to ⟨fun _ _ h _ => h, fun _ _ h => h, fun _ _ _ h => h⟩ (fun _ h => h) (fun a h => .inl h) e (fun _ _ _ h => h) h4⟩
      · obtain ⟨h1, h2, h3, h4⟩ := sf.own a j hj
        refine ⟨h1, fun q => ?_, h3, h4⟩
        rcases q with q | q
        · exact h2 q
        · rcases (hz a q).1 with q | q
          · exact h2 q
          · have ho : ∃ k, o a = some k := by
              cases e : o a with
              | none => rw [e] at hj; cases hj
              | some k => exact ⟨k, rfl⟩
            obtain ⟨k, hk⟩ := ho
            exact (s.own a k hk).2.2.2 q
    refine ⟨_, _, sg.put (i := i) nd (fun a ha => ?_) (Rep.to ⟨fun _ _ h _ => h, fun _ _ h => h, fun _ _ _ h => h⟩ (fun _ h => h) (fun a h => .inr h) d (fun _ _ _ h => h) r)⟩
    obtain ⟨h1, h2, h3, h4⟩ := fr a ha
    refine ⟨h1, fun q => ?_, h2, h3, fun j hj => ?_⟩
    · rcases q with q | q
      · exact ((s.pk vs).2 a q).1 (hf a ha).1
      · exact (hz a q).2.1 ha
    · cases e : o a with
      | none => rw [e] at hj; cases hj
      | some k => exact absurd e (h4 k)
end

/-! ## the judgement of statements -/
def SPost (X : Cx) (W : WX) (D' : Ends) (B : Bs) : Nat → Fl × Env → Prop := fun m r =>
  match r.1 with
  | .rt d => ∀ v PN' H', Ev X.K B.pn B.h B.z m v d PN' H' → D'.rt v H'
  | .nx => ∀ PN' H' Z' σ' o', SOk X.K B PN' H' Z' r.2 σ' o' → Pens PN' m H' → D'.nx σ' H'
  | .bk => ∀ PN' H' Z' σ' o', SOk X.K B PN' H' Z' r.2 σ' o' → Pens PN' m H' → D'.bk σ' H'
  | .ct => ∀ PN' H' Z' σ' o', SOk X.K B PN' H' Z' r.2 σ' o' → Pens PN' m H' → D'.ct σ' H'
  | .er c x => ∀ C PN' H' Z' σ' o', SOk X.K B PN' H' Z' r.2 σ' o' → Pens PN' m H' → X.mg (Str.ofString c) = some (.ref C) → x = [] → W (.ref C) none σ' H'
abbrev NoErr : Nat → String → List D → Prop := fun _ _ _ => False
def sPre (X : Cx) (W : WX) (f : Env → Comp (Fl × Env)) : TS := fun D' σ H => ∃ B PN n Z ρ o, SOk X.K B PN H Z ρ σ o ∧ Pens PN n H ∧ (f ρ).all (SPost X W D' B) NoErr n
abbrev SV (X : Cx) (W : WX) (f : Env → Comp (Fl × Env)) (st : Stmt) : Prop := PS X st (sPre X W f)
abbrev SVs (X : Cx) (W : WX) (f : Env → Comp (Fl × Env)) (st : List Stmt) : Prop := PSs X st (sPre X W f)
/-- run an expression in a statement -/
def run (vs : List Nat) (f : Env → Comp D) (ρ : Env) (k : D → Comp (Fl × Env)) : Comp (Fl × Env) := (f (fzE ρ)).try_ k fun c x => .ret (.er c x, ρ)
def runB (f : Env → Comp Bool) (ρ : Env) (k : Bool → Comp (Fl × Env)) : Comp (Fl × Env) := (f (fzE ρ)).try_ k fun c x => .ret (.er c x, ρ)
section
variable {X : Cx} {W : WX} {vs : List Nat}
theorem run_pre {f : Env → Comp D} {ρ : Env} {k : D → Comp (Fl × Env)} {D' : Ends} {σ : L2.St} {H : Hp} {Q : VK} {B : Bs} {PN : Pn} {Z : Addr → Prop} {o : Addr → Option Nat} {n : Nat}
    (s : SOk X.K B PN H Z ρ σ o) (p : Pens PN n H) (h : (run vs f ρ k).all (SPost X W D' B) NoErr n)
    (q : ∀ m d v PN' H', Ev X.K PN H (Zv Z o vs) m v d PN' H' → (k d).all (SPost X W D' B) NoErr m → Q v H') : ePre X.K X.mg W vs f σ H Q := by
  rw [run, Comp.all_try] at h
  obtain ⟨k1, z1⟩ := s.pk vs
  refine ⟨PN, n, Zv Z o vs, fzE ρ, k1, z1, p, Comp.all_mono (fun m d h v PN' H' ev => q m d v PN' H' ev h) (fun m c x h => ?_) h⟩
  intro C PN' H' e ex mv p'
  exact h C PN' H' Z σ o (s.step p mv) p' e ex
theorem runB_pre {f : Env → Comp Bool} {ρ : Env} {k : Bool → Comp (Fl × Env)} {D' : Ends} {σ : L2.St} {H : Hp} {Q : Bool → Hp → Prop} {B : Bs} {PN : Pn} {Z : Addr → Prop} {o : Addr → Option Nat} {n : Nat}
    (s : SOk X.K B PN H Z ρ σ o) (p : Pens PN n H) (h : (runB f ρ k).all (SPost X W D' B) NoErr n)
    (q : ∀ m b PN' H', SOk X.K B PN' H' Z ρ σ o → Pens PN' m H' → (k b).all (SPost X W D' B) NoErr m → Q b H') : bPre X.K X.mg W vs f σ H Q := by
  rw [runB, Comp.all_try] at h
  obtain ⟨k1, z1⟩ := s.pk vs
  refine ⟨PN, n, Zv Z o vs, fzE ρ, k1, z1, p, Comp.all_mono (fun m d h PN' H' Z' sh => q m d PN' H' (s.step p sh.mv) sh.pens h) (fun m c x h => ?_) h⟩
  intro C PN' H' e ex mv p'
  exact h C PN' H' Z σ o (s.step p mv) p' e ex

/-! blocks -/
def sNil : Env → Comp (Fl × Env) := fun ρ => .ret (.nx, ρ)
def sSeq (f g : Env → Comp (Fl × Env)) : Env → Comp (Fl × Env) := fun ρ => (f ρ).bind fun r => match r with
  | (.nx, ρ') => g ρ'
  | r => .ret r
theorem svs_nil : SVs X W sNil [] := pssW pss_nil fun D' σ H h => by
  obtain ⟨B, PN, n, Z, ρ, o, s, p, h⟩ := h
  exact h PN H Z σ o s p
theorem svs_one {f : Env → Comp (Fl × Env)} {st : Stmt} (h : SV X W f st) : SVs X W f [st] := pss_one h
theorem svs_cons {f g : Env → Comp (Fl × Env)} {st : Stmt} {sts : List Stmt} (h : SV X W f st) (h2 : SVs X W g sts) : SVs X W (sSeq f g) (st :: sts) := by
  refine pssW (pss_cons h h2) fun D' σ H h => ?_
  obtain ⟨B, PN, n, Z, ρ, o, s, p, h⟩ := h
  rw [sSeq, Comp.all_bind] at h
  refine ⟨B, PN, n, Z, ρ, o, s, p, Comp.all_mono (fun m r h => ?_) (fun _ _ _ h => h) h⟩
  obtain ⟨fl, ρ'⟩ := r
  cases fl with
  | nx => exact fun PN' H' Z' σ' o' s' p' => ⟨B, PN', m, Z', ρ', o', s', p', h⟩
  | bk => exact h
  | ct => exact h
  | rt d => exact h
  | er c x => exact h

/-! small statements -/
def sAsg (i : Nat) (vs : List Nat) (f : Env → Comp D) : Env → Comp (Fl × Env) := fun ρ => run vs f ρ fun d => .ret (.nx, (upE vs d ρ).set i (some d))
theorem sv_asg {i : Nat} {x : Str} {e : Expr} {f : Env → Comp D} {pos pos' : Pos} (hN : X.N.Nodup) (he : EV X W vs f e) (hi : X.N[i]? = some x := by rfl) (hx : Loc X.env.scope x := by first | exact Or.inl rfl | exact Or.inr rfl) (hs : swapsWith e (some (.Name x pos')) pos.line X.env = pure false := by rfl)
    (hf : X.fn x = true ∨ X.env.scope.names.lookup x = some .local := by first | exact .inl rfl | exact .inr rfl) : SV X W (sAsg i vs f) (.Assign [.Name x pos'] e pos) := by
  refine psW (ps_set hN hi hx he hs hf) fun D' σ H h => ?_
  obtain ⟨B, PN, n, Z, ρ, o, s, p, h⟩ := h
  refine run_pre (Q := fun v H1 => gName i v σ H1 D'.nx) s p h fun m d v PN' H' ev h => ?_
  obtain ⟨p', Z', o', s'⟩ := s.store (i := i) p ev
  exact h PN' H' Z' _ o' s' p'
def sExpr (vs : List Nat) (f : Env → Comp D) : Env → Comp (Fl × Env) := fun ρ => run vs f ρ fun d => .ret (.nx, ρ)
theorem sv_expr {e : Expr} {f : Env → Comp D} {pos : Pos} (he : EV X W vs f e) (hs : swapsWith e none pos.line X.env = pure false := by rfl) : SV X W (sExpr vs f) (.Expr e pos) := by
  refine psW (ps_expr he hs) fun D' σ H h => ?_
  obtain ⟨B, PN, n, Z, ρ, o, s, p, h⟩ := h
  refine run_pre (Q := fun v H1 => D'.nx σ H1) s p h fun m d v PN' H' ev h => ?_
  obtain ⟨fp, Z1, mv, p', _⟩ := ev
  exact h PN' H' Z _ o (s.step p mv) p'
def sRet (vs : List Nat) (f : Env → Comp D) : Env → Comp (Fl × Env) := fun ρ => run vs f ρ fun d => .ret (.rt d, ρ)
theorem Ev.up0 {K : PySem.W.Frag} {B : Bs} {PN PN' : Pn} {H H' : Hp} {Z : Addr → Prop} {ρ : Env} {σ : L2.St} {o : Addr → Option Nat} {m : Nat} {v : V} {d : D} (s : SOk K B PN H Z ρ σ o) (ev : Ev K PN H (Zv Z o vs) m v d PN' H') : Ev K B.pn B.h B.z m v d PN' H' := by
  obtain ⟨fp, Z1, mv, p', nd, hf, hz, r⟩ := ev
  refine ⟨fp, Z1, s.mv.trans mv, p', nd, fun a ha => ⟨s.mv.keep a (hf a ha).1, (hf a ha).2⟩, fun a ha => ⟨?_, (hz a ha).2⟩, r⟩
  rcases (hz a ha).1 with (q | ⟨i, hi, _⟩) | q
  · exact s.z0 a q
  · exact .inr (s.own a i hi).1
  · exact .inr (s.mv.keep a q)
theorem sv_ret {e : Expr} {f : Env → Comp D} {pos : Pos} (he : EV X W vs f e) : SV X W (sRet vs f) (.Return (some e) pos) := by
  refine psW (ps_ret he) fun D' σ H h => ?_
  obtain ⟨B, PN, n, Z, ρ, o, s, p, h⟩ := h
  refine run_pre (Q := D'.rt) s p h fun m d v PN' H' ev h => ?_
  exact h v PN' H' (Ev.up0 s ev)
/-- return x, x a list of its own -/
def sRetV (i : Nat) : Env → Comp (Fl × Env) := fun ρ => match ρ[i]? with
  | some (some d) => .ret (.rt d, ρ)
  | _ => .stuck
theorem sv_retV (i : Nat) {x : Str} {p0 pos : Pos} (hN : X.N[i]? = some x := by rfl) (hv : Vis X.env.scope x := by first | exact Or.inl rfl | exact Or.inr (Or.inl rfl) | exact Or.inr (Or.inr rfl))
    (hd : (x == ("__debug__" : Str)) = false := by decide) (hcd : (x == ("__classdict__" : Str)) = false := by decide) : SV X W (sRetV i) (.Return (some (.Name x p0)) pos) := by
  refine psW (ps_ret (pe_var hN hv hd hcd)) fun D' σ H h => ?_
  obtain ⟨B, PN, n, Z, ρ, o, s, p, h⟩ := h
  unfold sRetV at h
  split at h
  · rename_i d e
    obtain ⟨v, f, h1, h2, h3, h4⟩ := s.slot i d e
    refine ⟨v, h1, h v PN H ⟨f, Z, s.mv, p, h2, fun a ha => ?_, fun a ha => ⟨s.z0 a ha, fun q => (s.own a i (h3 a q)).2.1 ha, (s.zk a ha).2, (s.zk a ha).1⟩, h4⟩⟩
    obtain ⟨q1, q2, q3, q4⟩ := s.own a i (h3 a ha)
    exact ⟨q1, q3, q4⟩
  · exact h.elim
def sRetN : Env → Comp (Fl × Env) := fun ρ => .ret (.rt .non, ρ)
theorem sv_retN {pos : Pos} : SV X W sRetN (.Return none pos) := by
  refine psW ps_retN fun D' σ H h => ?_
  obtain ⟨B, PN, n, Z, ρ, o, s, p, h⟩ := h
  exact h .non PN H ⟨[], fun _ => False, s.mv, p, List.Pairwise.nil, fun _ h => (nomatch h), fun a h => h.elim, .non⟩
def sBreak : Env → Comp (Fl × Env) := fun ρ => .ret (.bk, ρ)
def sCont : Env → Comp (Fl × Env) := fun ρ => .ret (.ct, ρ)
theorem sv_break {pos : Pos} : SV X W sBreak (.Break pos) := psW ps_break fun D' σ H h => by
  obtain ⟨B, PN, n, Z, ρ, o, s, p, h⟩ := h
  exact h PN H Z σ o s p
theorem sv_cont {pos : Pos} : SV X W sCont (.Continue pos) := psW ps_continue fun D' σ H h => by
  obtain ⟨B, PN, n, Z, ρ, o, s, p, h⟩ := h
  exact h PN H Z σ o s p
theorem sv_pass {pos : Pos} : SV X W sNil (.Pass pos) := psW ps_pass fun D' σ H h => by
  obtain ⟨B, PN, n, Z, ρ, o, s, p, h⟩ := h
  exact h PN H Z σ o s p
def sIf (c : Env → Comp Bool) (f g : Env → Comp (Fl × Env)) : Env → Comp (Fl × Env) := fun ρ => runB c ρ fun b => if b then f ρ else g ρ
theorem sv_if {c : Env → Comp Bool} {f g : Env → Comp (Fl × Env)} {e : Expr} {a b : List Stmt} {pos : Pos} (hc : EB X W vs c e) (ha : SVs X W f a) (hb : SVs X W g b) : SV X W (sIf c f g) (.If e a b pos) := by
  refine psW (ps_if hc ha hb) fun D' σ H h => ?_
  obtain ⟨B, PN, n, Z, ρ, o, s, p, h⟩ := h
  refine runB_pre (Q := fun b H1 => if b = true then sPre X W f D' σ H1 else sPre X W g D' σ H1) s p h fun m b PN' H' s' p' h => ?_
  cases b with
  | true => exact ⟨B, PN', m, Z, ρ, o, s', p', h⟩
  | false => exact ⟨B, PN', m, Z, ρ, o, s', p', h⟩
def sRaise (c : String) : Env → Comp (Fl × Env) := fun ρ => .ret (.er c [], ρ)
theorem sv_raise {x : Str} {c : String} {C : Addr} {m : Str} {j : Nat} {bmB : List Value} {B newId initId : String} {p0 p2 pos pos' : Pos} (hc : X.calm = true) (tk : Takes X W) (F : ExcBaseFacts B newId initId bmB) (q : PySem.W.excIn X.K C bmB newId = true) (gC : X.mg x = some (.ref C)) (kC : PySem.W.keepIn X.K (.ref C) = true) (r : Raises X (.ref C)) (hg : Gl X x := by rfl)
    (e : Str.ofString c = x := by rfl) (hdb : (x == ("__debug__" : Str)) = false := by decide) : SV X W (sRaise c) (.Raise (some (.Call (.Name x p0) [.Constant (.str m) j p2] [] pos')) none pos) := by
  refine psW (ps_raise hc tk (pmk_own F q gC kC r hg hdb)) fun D' σ H h => ?_
  obtain ⟨B, PN, n, Z, ρ, o, s, p, h⟩ := h
  exact h C PN H Z σ o s p (by rw [e]; exact gC) rfl
/-- what is never reached -/
def sNever : Env → Comp (Fl × Env) := fun _ => .stuck
theorem sv_never {st : Stmt} : SV X W sNever st := ⟨fun pins s σ H D' I h => by
  obtain ⟨B, PN, n, Z, ρ, o, s, p, h⟩ := h
  exact h.elim⟩
end
end Mid

namespace Mid
open PySem PySem.Spec PyProof.Rows L2

/-! ## functions: nothing on the stack guards -/
abbrev Calm (A : Around) : Prop := A.guards = some []
theorem calm_deeper {A : Around} {e : PySem.Env} (h : Calm A) : Calm (A.deeper e) := h
structure FnG (P : Program) (w : World) (K : PySem.W.Frag) (mg : Str → Option Value) (base : Heap) (k : Nat) (f : Addr) (fd : FuncData) (ps : List Str) (sp : Sp) : Prop where
  len : ∀ vs H Q E, sp vs H Q E → vs.length = ps.length
  go : ∀ (A : Around) (outer : List PySem.Env) (s : Shared) (H : Hp) (args : Args) (us : List Value) (vs : List V) (Q : VK) (E : XK), Room k A → Calm A → Env0 P w K mg base A outer s H → BindsTo s fd args (ps.zip us) → Vals vs us → sp vs H Q E →
    codeAny (model P w) A (.call (.ref f) args) (CR (L2.CX P w) outer P w H s Q E) s
theorem FnG.mono {P : Program} {w : World} {K : PySem.W.Frag} {mg : Str → Option Value} {base : Heap} {j k : Nat} {f : Addr} {fd : FuncData} {ps : List Str} {sp : Sp} (F : FnG P w K mg base j f fd ps sp) (h : j ≤ k) : FnG P w K mg base k f fd ps sp :=
  ⟨F.len, fun A outer s H args us vs Q E hr => F.go A outer s H args us vs Q E (hr.mono h)⟩
theorem FnG.imp {P : Program} {w : World} {K : PySem.W.Frag} {mg : Str → Option Value} {base : Heap} {k : Nat} {f : Addr} {fd : FuncData} {ps : List Str} {sp sp' : Sp} (F : FnG P w K mg base k f fd ps sp)
    (h : ∀ vs H Q E, sp' vs H Q E → sp vs H Q E) : FnG P w K mg base k f fd ps sp' :=
  ⟨fun vs H Q E q => F.len vs H Q E (h _ _ _ _ q), fun A outer s H args us vs Q E r c e b v q => F.go A outer s H args us vs Q E r c e b v (h _ _ _ _ q)⟩
abbrev Xf (P : Program) (w : World) (K : PySem.W.Frag) (mg : Str → Option Value) (base : Heap) (N : List Str) (qual : Str) (scope : Scope) (f : Addr) (cd : Value) (A : Around) (outer : List PySem.Env) (s : Shared) (H : Hp) (E : XK) : Cx := cxOf (L2.CX P w) P w K mg base N qual scope f cd A outer s H E
abbrev Wf (E : XK) : WX := fun c d _ H => E c d H
theorem fnG_of {P : Program} {w : World} {K : PySem.W.Frag} {mg : Str → Option Value} {base : Heap} {x qual : Str} {st : Stmt} {f : Addr} {fd : FuncData} {N ps : List Str} {k : Nat} {sp : Sp} (F : Fun K x qual st f fd) (S : FnScope N ps (defScope st)) (len : ∀ vs H Q E, sp vs H Q E → vs.length = ps.length)
    (hbody : ∀ (cdv : Value) (A : Around) (outer : List PySem.Env) (s : Shared) (H : Hp) (vs : List V) (Q : VK) (E : XK), Room k (A.deeper (envOfC qual (defScope st) s.heap.objs.size f cdv)) → Calm A → sp vs H Q E →
      ∃ t, PSs (Xf P w K mg base N qual (defScope st) f cdv A outer s H E) (defBody st) t ∧ t { nx := fun _ H' => Q .non H', rt := Q } (L2.start N vs) H) : FnG P w K mg base (k + 1) f fd ps sp := by
  obtain ⟨oc, od, kV, doc, pm, an, cdv, ct, osl, rfl, lk, hcd⟩ := F.ex
  constructor
  · exact len
  intro A outer s H args us vs Q E hr hg e0 hb r hsp
  have kin := e0.mod.kin.keeps fun b o e => (e0.bs b o e).1
  have nl := e0.mod.nolimit.keeps fun b o e => (e0.bs b o e).1
  have kinds : ∀ y ∈ ps.zip us, (defScope st).names.lookup y.1 = some .local ∨ ((defScope st).names.lookup y.1 = some .cell ∧ ((cellsFrom (s.heap.objs.size + 1) (defScope st).names []).lookup y.1).isSome = true) := by
    rintro ⟨nm, v⟩ hy
    rcases S.par nm (List.of_mem_zip hy).1 with q | q
    · exact Or.inl q
    · exact Or.inr ⟨q, PySem.W.cellsFrom_some _ _ _ (Or.inl q)⟩
  refine codeAny_call_function hr.depth (kin _ _ lk) rfl S.co S.gen rfl (PySem.W.codeRec_of kin hcd) (hb _ _ _ _ ?_)
  refine wpAny_newFunctionEnv_cells S.kind kinds fun env he s1 x1 => ?_
  subst he
  refine ⟨nl.keeps x1.toInCall.keep, codeAny_func ?_⟩
  obtain ⟨t, ht, hq⟩ := hbody cdv A outer s H vs Q E (hr.deeper _) hg hsp
  have I := inv_start (CX := L2.CX P w) (E := E) (A := A) (cd := cdv) (qual := qual) (f := f) S hr.hd e0 (len _ _ _ _ hsp) r x1
  refine wpAny_mono (ht.run [] s1 (L2.start N vs) H _ I hq) (fun fl s' hs => ?_) fun _ _ hs => hs
  cases fl with
  | ret u =>
    obtain ⟨v, σ', H', J, rv, q⟩ := hs
    exact ⟨v, H', J.os, J.bare, J.base, J.hok, rv, q⟩
  | next =>
    obtain ⟨σ', H', J, q⟩ := hs
    exact ⟨V.non, H', J.os, J.bare, J.base, J.hok, rfl, q⟩
  | brk =>
    obtain ⟨_, _, _, q⟩ := hs
    exact q.elim
  | cont =>
    obtain ⟨_, _, _, q⟩ := hs
    exact q.elim

/-- what is promised: F of the arguments -/
def spF (K : PySem.W.Frag) (mg : Str → Option Value) (np : Nat) (F : List D → Comp D) : Sp := fun vs H Q E => ∃ PN n Z ds, ds.length = np ∧ RepL K PN H Z vs ds [] ∧ Zk PN Z H ∧ Pens PN n H ∧
  (F ds).all (fun m d => ∀ v PN' H', Ev K PN H Z m v d PN' H' → Q v H') (fun m c x => ∀ C PN' H', mg (Str.ofString c) = some (.ref C) → x = [] → Mv PN H PN' H' → Pens PN' m H' → E (.ref C) none H') n
def startE (n : Nat) (ds : List D) : Env := ds.map some ++ List.replicate (n - ds.length) none
def fnOut : Fl → Comp D
  | .rt d => .ret d
  | .nx => .ret .non
  | .er c x => .err c x
  | _ => .stuck
def fnB (n : Nat) (body : Env → Comp (Fl × Env)) : List D → Comp D := fun ds => (body (startE n ds)).try_ (fun r => fnOut r.1) fun _ _ => .stuck
theorem startE_get {n : Nat} {ds : List D} {i : Nat} {d : D} (h : (startE n ds)[i]? = some (some d)) : ds[i]? = some d := by
  unfold startE at h
  by_cases hi : i < ds.length
  · rw [List.getElem?_append_left (by simpa using hi), List.getElem?_map] at h
    cases e : ds[i]? with
    | none => rw [e] at h; cases h
    | some y => rw [e] at h; cases h; rfl
  · rw [List.getElem?_append_right (by simpa using hi), List.getElem?_replicate] at h
    split at h <;> cases h
theorem start_get {N : List Str} {vs : List V} {i : Nat} {v : V} (h : vs[i]? = some v) : (L2.start N vs)[i]? = some (some v) := by
  have hi : i < vs.length := (List.getElem?_eq_some_iff.mp h).1
  unfold L2.start
  rw [List.getElem?_append_left (by simpa using hi), List.getElem?_map, h]
  rfl
theorem fnG_body {P : Program} {w : World} {K : PySem.W.Frag} {mg : Str → Option Value} {base : Heap} {x qual : Str} {st : Stmt} {f : Addr} {fd : FuncData} {N ps : List Str} {k : Nat} {body : Env → Comp (Fl × Env)} (F : Fun K x qual st f fd) (S : FnScope N ps (defScope st))
    (h : ∀ (cdv : Value) (A : Around) (outer : List PySem.Env) (s : Shared) (H : Hp) (E : XK), Room k (A.deeper (envOfC qual (defScope st) s.heap.objs.size f cdv)) → Calm A → SVs (Xf P w K mg base N qual (defScope st) f cdv A outer s H E) (Wf E) body (defBody st)) :
    FnG P w K mg base (k + 1) f fd ps (spF K mg ps.length (fnB N.length body)) := by
  refine fnG_of F S (fun vs H Q E q => ?_) fun cdv A outer s H vs Q E hr hg q => ⟨_, h cdv A outer s H E hr hg, ?_⟩
  · obtain ⟨PN, n, Z, ds, hl, r, _⟩ := q
    exact r.length.trans hl
  · obtain ⟨PN, n, Z, ds, hl, r, z, p, q⟩ := q
    have hn : ps.length ≤ N.length := by have := congrArg List.length S.pre; rw [List.length_take] at this; omega
    refine ⟨⟨PN, H, Z, PN, H, Z⟩, PN, n, Z, startE N.length ds, fun _ => none, ⟨.refl, z, fun _ h => .inl h, ⟨fun _ _ h _ => h, fun _ _ h => h, fun _ _ _ h => h⟩, fun _ h => h, fun _ h => h, ?_, fun i d hd => ?_, fun a i h => by cases h⟩, p, ?_⟩
    · unfold startE L2.start
      simp only [List.length_append, List.length_map, List.length_replicate, r.length]
    · obtain ⟨v, h1, h2⟩ := r.get rfl (startE_get hd)
      exact ⟨v, [], start_get h1, List.Pairwise.nil, fun _ h => (nomatch h), h2⟩
    · rw [fnB, Comp.all_try] at q
      refine Comp.all_mono (fun m r h => ?_) (fun _ _ _ h => h) q
      obtain ⟨fl, ρ'⟩ := r
      cases fl with
      | rt d => exact h
      | nx =>
        intro PN' H' Z' σ' o' s' p'
        exact h .non PN' H' ⟨[], fun _ => False, s'.mv, p', List.Pairwise.nil, fun _ h => (nomatch h), fun a h => h.elim, .non⟩
      | bk => exact h.elim
      | ct => exact h.elim
      | er c x =>
        intro C PN' H' Z' σ' o' s' p' e ex
        exact h C PN' H' e ex s'.mv p'

/-! ## calls -/
def eCall (np : Nat) (F : List D → Comp D) (fs : Env → Comp (List D)) : Env → Comp D := fun ρ => (fs ρ).bind fun ds => if ds.length = np then F ds else .stuck
section
variable {X : Cx} {W : WX} {vs : List Nat} {k : Nat} {f : Addr} {fd : FuncData} {ps : List Str} {sp : Sp}
theorem run_fnG {pins : List (Addr × Obj)} {σ : L2.St} {H : Hp} {s : Shared} {Q : VK} {us : List Value} {ws : List V} (F : FnG X.prog X.w X.K X.mg X.base k f fd ps sp) (hr : Room k X.A) (hg : Calm X.A) (hb : Binds X.K fd ps []) (tk : Takes X W)
    (I : Inv X pins σ H s) (r : Vals ws us) (h : sp ws H Q (WE W σ)) : wpAny (model X.prog X.w) X.A (call (.ref f) us) (EP X pins σ Q) X.xe s := by
  have hl : us.length = ps.length := r.length.symm.trans (F.len _ _ _ _ h)
  have b := hb s us I.kIn (by simpa using hl)
  rw [List.append_nil] at b
  refine wpAny_call (codeAny_mono (F.go X.A X.stack s H ⟨us, []⟩ us ws Q (WE W σ) hr hg I.env0 b r h) fun res s' hq => ?_)
  cases res with
  | error e => exact passAt tk σ pins H s e s' I hq
  | ok fl =>
    cases fl with
    | ret u => exact I.after hq
    | next => exact hq.elim
    | brk => exact hq.elim
    | cont => exact hq.elim
def tCallG (sp : Sp) (W : WX) (t : TA) : TE := fun σ H Q => t σ H fun ws H1 => sp ws H1 Q (WE W σ)
theorem pe_callG {x : Str} {p pos : Pos} {e : Expr} {es : List Expr} {t : TA} (F : FnG X.prog X.w X.K X.mg X.base k f fd ps sp) (hr : Room k X.A) (hgd : Calm X.A) (hg : Gl X x) (hm : X.mg x = some (.ref f)) (hk : PySem.W.keepIn X.K (.ref f) = true) (hb : Binds X.K fd ps []) (tk : Takes X W)
    (ha : PA X (e :: es) t) (hdb : (x == ("__debug__" : Str)) = false := by decide) (he : starEach (e :: es) X.env = (false, eval e X.env) :: starEach es X.env := by rfl) (hpl : (backTo pos (starEach es X.env)).any (·.1) = false := by rfl) : PE X (.Call (.Name x p) (e :: es) [] pos) (tCallG sp W t) := by
  constructor
  intro pins s σ H Q I h
  refine wpAny_Call_Name_kw (ld_glob I hg hm ?_ hdb)
  refine PySem.W.callWith_K (h₀ := X.base) I.ok.mod.kin hk (thn (ha.run pos pins s σ H _ I h) fun us s1 q1 => ?_) he hpl
  obtain ⟨ws, H1, I1, r, q⟩ := q1
  exact ⟨I1.kIn, run_fnG F hr hgd hb tk I1 r q⟩
theorem ev_call {F : List D → Comp D} {np : Nat} {fs : Env → Comp (List D)} {x : Str} {p pos : Pos} {e : Expr} {es : List Expr} (G : FnG X.prog X.w X.K X.mg X.base k f fd ps (spF X.K X.mg np F)) (hr : Room k X.A) (hgd : Calm X.A) (hm : X.mg x = some (.ref f)) (hk : PySem.W.keepIn X.K (.ref f) = true) (hb : Binds X.K fd ps []) (tk : Takes X W)
    (ha : EA X W vs fs (e :: es)) (hg : Gl X x := by rfl) (hdb : (x == ("__debug__" : Str)) = false := by decide) (he : starEach (e :: es) X.env = (false, eval e X.env) :: starEach es X.env := by rfl) (hpl : (backTo pos (starEach es X.env)).any (·.1) = false := by rfl) :
    EV X W vs (eCall np F fs) (.Call (.Name x p) (e :: es) [] pos) := by
  refine peW (pe_callG G hr hgd hg hm hk hb tk ha hdb he hpl) fun σ H Q h => ?_
  obtain ⟨PN, n, Z, ρ, k, z, p, h⟩ := h
  rw [eCall, Comp.all_bind] at h
  refine ⟨PN, n, Z, ρ, k, z, p, Comp.all_mono (fun m ds h => fun us PN1 H1 Z1 s1 r1 => ?_) (fun _ _ _ h => h) h⟩
  split at h
  · rename_i hl
    exact ⟨PN1, m, Z1, ds, hl, r1, s1.zk, s1.pens, Comp.all_mono (fun m2 r h => fun w PN3 H3 ev3 => h w PN3 H3 (Ev.back s1 ev3)) (fun m' c x h => fun C PN' H' ee ex mv p' => h C PN' H' ee ex (s1.mv.trans mv) p') h⟩
  · exact h.elim
end
end Mid

/-! enumerate over a tuple -/
namespace Mid
open PySem PySem.Spec PyProof.Rows L2
open AutoSeq1 (wpAny_loadPart')
theorem meets_enum1 {v : Value} {o : Obj} {G : Heap → Prop} (B : Begins v o G) :
    Meets (Builtin.«enumerate.__new__» ⟨[.type "enumerate", v], []⟩) (fun _ R s => G s.heap ∧
      R (.ok (.ret (.ref (s.heap.push o).objs.size))) { s with heap := (s.heap.push o).push { cls := .type "enumerate", data := .fields #[.none, .bool false, .ref s.heap.objs.size, rawInt 0, .none, .none] } }) :=
  .of_wp fun prog w A R s hh => by
    obtain ⟨hp, g, d, tk, os⟩ := s
    obtain ⟨g1, hh⟩ := hh
    have sub := sub_enumerate
    have it : ∀ {A2 : Around} {E : Value → Shared → Prop} {Q : Value → Shared → Prop}, Q (.ref hp.objs.size) ⟨hp.push o, g, d, tk, os⟩ → wpAny (model prog w) A2 (pyIter v) Q E ⟨hp, g, d, tk, os⟩ := fun q => B.iter prog w _ _ ⟨hp, g, d, tk, os⟩ _ g1 q
    wp_walk using it
    refine wpAny_stack_any fun st => wpAny_pure ?_
    split
    · rename_i c _ _ _ _ _
      cases (c == Value.type "enumerate") <;> (wp_walk using it; exact ⟨_, rfl, hh⟩)
    · wp_walk using it
      exact ⟨_, rfl, hh⟩
theorem enum1_begins {prog : Program} {w : World} {A : Around} {E : Value → Shared → Prop} {s : Shared} {v : Value} {o : Obj} {G : Heap → Prop} {Q : Value → Shared → Prop} (B : Begins v o G) (g1 : G s.heap)
    (h : ∀ h', IsEnum h' (s.heap.objs.size + 1) s.heap.objs.size 0 .none → h'.get? s.heap.objs.size = some o → h'.objs.size = s.heap.objs.size + 2 →
      (∀ b u, s.heap.get? b = some u → h'.get? b = some u) → Q (.ref (s.heap.objs.size + 1)) { s with heap := h' }) :
    wpAny (model prog w) A (call (.type "enumerate") [v]) Q E s := by
  refine callType_new F.called_enumerate (by decide) (F.typeCall_enumerate_1 _) (F.newCall_enumerate_1 _) (fun ob => F.args_object_init_2 ob _) F.entry_enumerate_new (meets_enum1 B) ⟨g1, ?_⟩
  have sz : (s.heap.push o).objs.size = s.heap.objs.size + 1 := Heap.size_push ..
  show _ ∧ _
  rw [sz]
  have e1 : IsEnum ((s.heap.push o).push { cls := .type "enumerate", data := .fields #[.none, .bool false, .ref s.heap.objs.size, rawInt 0, .none, .none] }) (s.heap.objs.size + 1) s.heap.objs.size 0 .none := by
    have q := Heap.get?_push_size (s.heap.push o) (o := { cls := .type "enumerate", data := .fields #[.none, .bool false, .ref s.heap.objs.size, rawInt 0, .none, .none] }) rfl
    rw [sz] at q
    exact q
  exact ⟨⟨_, e1, rfl⟩, h _ e1 (Heap.get?_push_of_some _ (Heap.get?_push_size _ B.free)) (by rw [Heap.size_push, sz]) fun b u x => Heap.get?_push_of_some _ (Heap.get?_push_of_some _ x)⟩
/-- the tuple at a, each item in a new pair -/
def IteT (K : PySem.W.Frag) (a : Addr) : It :=
  ⟨fun i H => ∃ (xs : List V) (x : V), SqT K H a xs ∧ xs[i]? = some x, fun i H v H' => ∃ T x, v = .ref T ∧ H T = none ∧ H' = upd H T (.tup [.int (i : Nat), x]) ∧ ∀ xs, SqT K H a xs → xs[i]? = some x, fun i H => ∃ xs : List V, SqT K H a xs ∧ xs.length = i⟩
theorem turn_enumT {P : Program} {w : World} {K : PySem.W.Frag} {elts : List Expr} {kk : Nat} {tpos : Pos} (a e it : Addr) (hat : a ≠ it) :
    Turn P w K (.Tuple elts kk tpos) (IteT K a) [e, it] e (fun i h => (∃ old, IsEnum h e it ((i : Nat) : Int) old) ∧ h.IsTupleIter it a i ∧ e ≠ it ∧ e ≠ a) where
  mem := by simp
  obj := fun i h st b hb => by
    obtain ⟨⟨old, he⟩, ⟨o, ho, hc, hd⟩, _⟩ := st
    rcases (show b = e ∨ b = it by simpa using hb) with z | z
    · subst z; exact ⟨_, he, fun v q => nomatch q⟩
    · subst z; exact ⟨_, ho, fun v q => by rw [hd] at q; cases q⟩
  keep := fun i h h' st k => ⟨⟨st.1.choose, k e (by simp) _ st.1.choose_spec⟩, st.2.1.at fun o q => k it (by simp) o q, st.2.2⟩
  item := by
    intro X hP hw hK hc i pins s σ H E I hf st hg
    subst hP hw hK
    obtain ⟨⟨old, he⟩, hit, hne, hea⟩ := st
    obtain ⟨xs, x, hq, hx⟩ := hg
    obtain ⟨its, rv, p, hz⟩ := I.tuple hq
    obtain ⟨u, hu, ru⟩ := rv.get hx
    have hel : e < s.heap.objs.size := Heap.lt_size he
    have hil : it < s.heap.objs.size := by obtain ⟨_, q, _⟩ := hit; exact Heap.lt_size q
    have Dr := Draws.tuple (prog := X.prog) (w := X.w) (A := X.A.in1) (I.ok.hd hc) it a hat its.toArray
    have hlt : i < its.toArray.size := by
      have := (List.getElem?_eq_some_iff.mp hu).1
      simpa using this
    refine wpAny_pyNext_enum_itemD Dr he ⟨hit, show s.heap.IsTuple a its.toArray from p⟩ hlt hne (by simp [hne, hea]) fun y h' tk hy ho hst' hT hsz hk => ?_
    have hyu : y = u := by
      have q : its.toArray[i]? = some y := hy
      simp at q
      rw [hu] at q
      exact (Option.some.inj q).symm
    subst hyu
    refine ⟨_, rfl, wpAny_letOwnedTupleGo_enum (s := { s with heap := h', toks := tk + 1 }) ho fun h'' he' sb => ?_⟩
    have hT2 : h''.get? s.heap.objs.size = some { cls := .type "tuple", data := .seq #[.int i tk, y] } := (sb.2 _ (Nat.ne_of_gt hel)).trans hT
    have new : ObjOk X.prog X.w (upd H s.heap.objs.size (.tup [.int (i : Nat), x])) h'' s.heap.objs.size (.tup [.int (i : Nat), x]) :=
      ⟨by show 2 ≤ sizeLine; decide, [.int i tk, y], .cons ⟨_, rfl⟩ (.cons ru .nil), ⟨_, hT2, rfl, _, rfl⟩⟩
    have I1 : Inv X pins σ (upd H s.heap.objs.size (.tup [.int (i : Nat), x])) { s with heap := h'', toks := tk + 1 } :=
      I.turnedNew (ch := [e, it]) (fun b ob hb q => (sb.2 b (fun z => hb (by simp [z]))).trans (hk b ob (fun z => hb (by simp [z])) (fun z => hb (by simp [z])) q)) hf (Nat.le_refl _) new
    refine ⟨.ref s.heap.objs.size, _, I1, rfl, ⟨_, x, rfl, I.hok.fresh (Nat.le_refl _), rfl, fun ys hy => by rw [I.tuple_inj hy hq]; exact hx⟩, ⟨⟨y, ?_⟩, hst'.1.at fun o q => (sb.2 it (Ne.symm hne)).trans q, hne, hea⟩, fun b hb => ?_⟩
    · have e1 : ((i + 1 : Nat) : Int) = (i : Int) + 1 := by omega
      rw [e1]
      exact he'
    · have hb' : b < s.heap.objs.size := by
        rcases (show b = e ∨ b = it by simpa using hb) with z | z
        · rw [z]; exact hel
        · rw [z]; exact hil
      rw [upd_ne (Nat.ne_of_lt hb')]
      exact (hf b hb).1
  done := by
    intro X hP hw hK hc i pins s σ H E I hf st hg
    subst hP hw hK
    obtain ⟨⟨old, he⟩, hit, hne, hea⟩ := st
    obtain ⟨xs, hq, hx⟩ := hg
    obtain ⟨its, rv, p, hz⟩ := I.tuple hq
    obtain ⟨f0, f1, f2, f3, f4, f5⟩ := hf it (by simp)
    have hl := rv.length
    have Dr := Draws.tuple (prog := X.prog) (w := X.w) (A := X.A.in1) (I.ok.hd hc) it a hat its.toArray
    have hi : i = its.toArray.size := by simp; omega
    subst hi
    exact wpAny_pyNext_enum_endD Dr he ⟨hit, show s.heap.IsTuple a its.toArray from p⟩ fun h' eb => ⟨rfl, I.turned (t' := s.toks) (fun b o hb q => eb b o hb q) f0 f1 f3 f4 f5⟩
  self := fun A i s Q E st h => wpAny_pyIter_enum st.1.choose_spec h

theorem walk_enumT {K : PySem.W.Frag} {a : Addr} {xs : List V} : Walk (IteT K a) xs.length (fun H => SqT K H a xs) (YPair (fun i => some (.int (i : Nat))) (fun i => xs[i]?)) := by
  refine ⟨fun i _ hi q => ⟨xs, xs[i], q, by simp [hi]⟩, fun _ q => ⟨xs, q, rfl⟩, fun i H v H' _ q y => ?_⟩
  obtain ⟨T, x, h1, h2, h3, h4⟩ := y
  exact ⟨T, .int (i : Nat), x, h1, h2, h3, rfl, h4 xs q⟩

/-! ## what is walked -/
/-- J goes through ds, whatever else is done meanwhile -/
def Walks (K : PySem.W.Frag) (PN : Pn) (H : Hp) (Z : Addr → Prop) (ds : List D) (J : It) : Prop :=
  ∀ PN2 H2 Z2 m2, Pres Z H H2 → (∀ pc, PN = some pc → PN2 = some pc) → (∀ a, Z a → Z2 a) → Zk PN2 Z2 H2 → Pens PN2 m2 H2 →
    (∀ i, i < ds.length → J.go i H2 ∧ ∀ x H3, J.yld i H2 x H3 → ∃ d, ds[i]? = some d ∧ Sh K PN2 H2 Z2 m2 PN2 H3 Z2 ∧ Rep K PN2 H3 Z2 x d []) ∧ J.stop ds.length H2
def iPre (K : PySem.W.Frag) (mg : Str → Option Value) (W : WX) (vs : List Nat) (f : Env → Comp (List D)) : TI := fun σ H R => ∃ PN n Z ρ, Pk K PN H Z vs ρ σ ∧ Zk PN Z H ∧ Pens PN n H ∧
  (f ρ).all (fun m ds => ∀ J PN' H' Z', Sh K PN H Z m PN' H' Z' → Walks K PN' H' Z' ds J → R J H') (Out mg W PN H σ) n
abbrev IV (X : Cx) (W : WX) (vs : List Nat) (f : Env → Comp (List D)) (tg it : Expr) : Prop := PI X tg it (iPre X.K X.mg W vs f)
theorem piW {X : Cx} {tg it : Expr} {t t' : TI} (h : PI X tg it t) (w : ∀ σ H Q, t' σ H Q → t σ H Q) : PI X tg it t' := ⟨fun pins s σ H Q I q => h.run pins s σ H Q I (w σ H Q q)⟩
/-- a heap that only grew by one tuple -/
theorem Sh.tupled {K : PySem.W.Frag} {PN : Pn} {H : Hp} {Z : Addr → Prop} {m : Nat} {p : Addr} {xs : List V} (hp : H p = none) (ps : Pens PN m H) (z : Zk PN Z H) : Sh K PN H Z m PN (upd H p (.tup xs)) Z :=
  ⟨.laid hp, ps.laid hp, z.step (.laid hp), fun _ h => h, fun _ h => .inl h⟩
theorem walks_at {K : PySem.W.Frag} {PN : Pn} {H : Hp} {Z : Addr → Prop} {ds : List D} {xs : List V} {J : It} {G : Hp → Prop} (w : Walk J xs.length G (YAt xs)) (hg : ∀ H2, Pres Z H H2 → G H2) (r : RepL K PN H Z xs ds []) : Walks K PN H Z ds J := by
  intro PN2 H2 Z2 m2 pr pn zz z2 p2
  have g := hg H2 pr
  have r2 := RepL.to (fp := []) pr pn zz ds (fun _ h => nomatch h) r
  have hl := r.length
  refine ⟨fun i hi => ⟨w.goes i H2 (by omega) g, fun x H3 hy => ?_⟩, hl ▸ w.stops H2 g⟩
  obtain ⟨e, hx⟩ := w.yields i H2 x H3 (by omega) g hy
  subst e
  obtain ⟨v, h1, h2⟩ := r2.get rfl (List.getElem?_eq_getElem hi)
  rw [hx] at h1
  cases h1
  exact ⟨_, List.getElem?_eq_getElem hi, Sh.refl p2 z2, h2⟩
def pairs : List D → List D → List D
  | d :: ds, e :: es => .tup [d, e] :: pairs ds es
  | _, _ => []
def numbered (k : Nat) : List D → List D
  | [] => []
  | d :: ds => .tup [.int (k : Int), d] :: numbered (k + 1) ds
theorem numbered_length (k : Nat) (ds : List D) : (numbered k ds).length = ds.length := by
  induction ds generalizing k with
  | nil => rfl
  | cons d ds ih => simp [numbered, ih]
theorem numbered_get {ds : List D} : ∀ {k i : Nat}, (numbered k ds)[i]? = ds[i]?.map fun d => .tup [.int ((k + i : Nat) : Int), d] := by
  induction ds with
  | nil => intro k i; simp [numbered]
  | cons d ds ih =>
    intro k i
    cases i with
    | zero => simp [numbered]
    | succ i =>
      simp only [numbered, List.getElem?_cons_succ, ih]
      rw [show k + 1 + i = k + (i + 1) by omega]
theorem pairs_length : ∀ (ds es : List D), (pairs ds es).length = min ds.length es.length
  | [], _ => by simp [pairs]
  | _ :: _, [] => by simp [pairs]
  | _ :: ds, _ :: es => by simp [pairs, pairs_length ds es]
theorem pairs_get : ∀ {ds es : List D} {i : Nat} {d e : D}, ds[i]? = some d → es[i]? = some e → (pairs ds es)[i]? = some (.tup [d, e])
  | [], _, _, _, _, h, _ => by simp at h
  | _ :: _, [], _, _, _, _, h => by simp at h
  | d :: ds, e :: es, 0, _, _, h, h' => by
    simp at h h'
    subst h; subst h'
    rfl
  | d :: ds, e :: es, i + 1, _, _, h, h' => by
    simp only [pairs, List.getElem?_cons_succ]
    exact pairs_get (by simpa using h) (by simpa using h')
theorem walks_pair {K : PySem.W.Frag} {PN : Pn} {H : Hp} {Z : Addr → Prop} {n : Nat} {ds : List D} {f g : Nat → Option V} {J : It} {G : Hp → Prop} (w : Walk J n G (YPair f g)) (hn : ds.length = n) (hg : ∀ H2, Pres Z H H2 → G H2)
    (r : ∀ PN2 H2 Z2 i x y, Pres Z H H2 → (∀ pc, PN = some pc → PN2 = some pc) → (∀ a, Z a → Z2 a) → i < n → f i = some x → g i = some y → ∃ d e, ds[i]? = some (.tup [d, e]) ∧ Rep K PN2 H2 Z2 x d [] ∧ Rep K PN2 H2 Z2 y e []) : Walks K PN H Z ds J := by
  intro PN2 H2 Z2 m2 pr pn zz z2 p2
  have g1 := hg H2 pr
  refine ⟨fun i hi => ⟨w.goes i H2 (by omega) g1, fun v H3 hy => ?_⟩, hn ▸ w.stops H2 g1⟩
  obtain ⟨T, x, y, rfl, nT, rfl, hx, hy⟩ := w.yields i H2 v H3 (by omega) g1 hy
  obtain ⟨d, e, h1, h2, h3⟩ := r PN2 H2 Z2 i x y pr pn zz (by omega) hx hy
  have s : Sh K PN2 H2 Z2 m2 PN2 (upd H2 T (.tup [x, y])) Z2 := Sh.tupled nT p2 z2
  exact ⟨_, h1, s, .tup (SqT.of upd_same) (.cons (f := []) (h2.step s p2 z2) (.cons (f := []) (h3.step s p2 z2) .nil))⟩

def itemsOf : D → Comp (List D)
  | .tup ds => .ret ds
  | .lst _ ds => .ret ds
  | _ => .stuck
/-- the items of a list or tuple -/
def iSeq (f : Env → Comp D) : Env → Comp (List D) := fun ρ => (f ρ).bind fun d => itemsOf (fz d)
section
variable {X : Cx} {W : WX} {vs : List Nat}
theorem it_list {tg : Expr} {pins : List (Addr × Obj)} {σ : L2.St} {H : Hp} {s : Shared} {R : It → Hp → Prop} {E : Value → Shared → Prop} {a : Addr} {xs : List V} (I : Inv X pins σ H s) (h : SqL X.K H a xs) (q : R (Itl X.K a) H) : wpAny (model X.prog X.w) X.A (pyIter (.ref a)) (PIE X pins σ tg R) E s := by
  obtain ⟨its, rv, p, hz⟩ := I.list h
  refine wpAny_pyIter_list p.isList ⟨s.heap.objs.size, [s.heap.objs.size], _, _, H, rfl, I.kept (t' := s.toks) fun b o e => Heap.get?_push_of_some _ e, turn_list a _, ⟨_, Heap.get?_push_size _ rfl, rfl, rfl⟩, fun b hb => ?_, q⟩
  have e : b = s.heap.objs.size := by simpa using hb
  rw [e]
  exact I.fpOk (Nat.le_refl _) (I.hok.fresh (Nat.le_refl _))
theorem it_tup {tg : Expr} {pins : List (Addr × Obj)} {σ : L2.St} {H : Hp} {s : Shared} {R : It → Hp → Prop} {E : Value → Shared → Prop} {a : Addr} {xs : List V} (I : Inv X pins σ H s) (h : SqT X.K H a xs) (q : R (Itt X.K a) H) : wpAny (model X.prog X.w) X.A (pyIter (.ref a)) (PIE X pins σ tg R) E s := by
  obtain ⟨its, rv, p, hz⟩ := I.tuple h
  refine wpAny_pyIter_tuple (show s.heap.IsTuple a its.toArray from p) ⟨s.heap.objs.size, [s.heap.objs.size], _, _, H, rfl, I.kept (t' := s.toks) fun b o e => Heap.get?_push_of_some _ e, turn_tuple a _, ⟨_, Heap.get?_push_size _ rfl, rfl, rfl⟩, fun b hb => ?_, q⟩
  have e : b = s.heap.objs.size := by simpa using hb
  rw [e]
  exact I.fpOk (Nat.le_refl _) (I.hok.fresh (Nat.le_refl _))
theorem Rep.sqL {K : PySem.W.Frag} {PN : Pn} {H : Hp} {Z : Addr → Prop} {v : V} {ds : List D} {b : Bool} {fp : List Addr} (h : Rep K PN H Z v (.lst b ds) fp) : ∃ a xs g, v = .ref a ∧ SqL K H a xs ∧ RepL K PN H Z xs ds g ∧ (b = false → g = []) := by
  cases h with
  | shr h z r => exact ⟨_, _, _, rfl, SqL.of h, r, fun _ => rfl⟩
  | own h r => exact ⟨_, _, _, rfl, .inl (.inl h), r, fun q => by cases q⟩
/-- it stays so -/
theorem Rep.sqLs {K : PySem.W.Frag} {PN : Pn} {H : Hp} {Z : Addr → Prop} {v : V} {ds : List D} (h : Rep K PN H Z v (.lst false ds) []) : ∃ a xs, v = .ref a ∧ RepL K PN H Z xs ds [] ∧ ∀ H2, Pres Z H H2 → SqL K H2 a xs := by
  cases h with
  | shr h z r => exact ⟨_, _, rfl, r, fun H2 p => SqL.of (p.lst _ _ h z)⟩
theorem Pres.refl {Z : Addr → Prop} {H : Hp} : Pres Z H H := ⟨fun _ _ h _ => h, fun _ _ h => h, fun _ _ _ h => h⟩
theorem iv_seq {tg e : Expr} {f : Env → Comp D} (h : EV X W vs f e) : IV X W vs (iSeq f) tg e := by
  constructor
  intro pins s σ H R I q
  obtain ⟨PN, n, Z, ρ, k, z, p, q⟩ := q
  rw [iSeq, Comp.all_bind] at q
  refine thn (h.run pins s σ H (fun v H1 => ∃ a, v = .ref a ∧ ((∃ xs, SqL X.K H1 a xs ∧ R (Itl X.K a) H1) ∨ ∃ xs, SqT X.K H1 a xs ∧ R (Itt X.K a) H1)) I ⟨PN, n, Z, ρ, k, z, p, Comp.all_mono (fun m d q => fun v PN1 H1 ev => ?_) (fun _ _ _ h => h) q⟩) fun v s1 q1 => ?_
  · obtain ⟨Z1, s1, r1⟩ := ev.sh z
    cases d with
    | tup ds =>
      cases r1 with
      | tup h r => exact ⟨_, rfl, .inr ⟨_, h, q _ PN1 H1 Z1 s1 (walks_at walk_tup (fun H2 pr => pr.sqT h) r)⟩⟩
    | lst b ds =>
      obtain ⟨a, xs, rfl, r, st⟩ := Rep.sqLs r1
      exact ⟨_, rfl, .inl ⟨_, st H1 .refl, q _ PN1 H1 Z1 s1 (walks_at walk_list st r)⟩⟩
    | _ => exact q.elim
  · obtain ⟨x, H1, I1, rx, a, rfl, q⟩ := q1
    obtain rfl : v = Value.ref a := rx
    rcases q with ⟨xs, h, q⟩ | ⟨xs, h, q⟩
    · exact it_list I1 h q
    · exact it_tup I1 h q
def rangeL (lo : Int) : Nat → List D
  | 0 => []
  | n + 1 => .int lo :: rangeL (lo + 1) n
theorem rangeL_length : ∀ (n : Nat) (lo : Int), (rangeL lo n).length = n
  | 0, _ => rfl
  | n + 1, lo => by simp [rangeL, rangeL_length n]
theorem rangeL_get : ∀ {n : Nat} {lo : Int} {i : Nat}, i < n → (rangeL lo n)[i]? = some (.int (lo + i))
  | n + 1, lo, 0, _ => by simp [rangeL]
  | n + 1, lo, i + 1, h => by
    simp only [rangeL, List.getElem?_cons_succ]
    rw [rangeL_get (by omega)]
    simp only [Option.some.injEq, D.int.injEq]
    omega
theorem walks_range {K : PySem.W.Frag} {PN : Pn} {H : Hp} {Z : Addr → Prop} {lo : Int} {n : Nat} : Walks K PN H Z (rangeL lo n) (Itr lo n) := by
  intro PN2 H2 Z2 m2 pr pn zz z2 p2
  rw [rangeL_length]
  refine ⟨fun i hi => ⟨hi, fun x H3 hy => ?_⟩, Nat.le_refl _⟩
  obtain ⟨e, hx⟩ := hy
  subst e
  subst hx
  exact ⟨_, rangeL_get hi, Sh.refl p2 z2, .int⟩
def gRange1 : List D → Comp (List D)
  | [.int j] => if -(2 ^ 62) ≤ j ∧ j < 2 ^ 62 then .ret (rangeL 0 j.toNat) else .stuck
  | _ => .stuck
def gRange2 : List D → Comp (List D)
  | [.int i, .int j] => if (-(2 ^ 62) ≤ i ∧ i < 2 ^ 62) ∧ (-(2 ^ 62) ≤ j ∧ j < 2 ^ 62) then .ret (rangeL i (j - i).toNat) else .stuck
  | _ => .stuck
def iOf (g : List D → Comp (List D)) (fs : Env → Comp (List D)) : Env → Comp (List D) := fun ρ => (fs ρ).bind g
theorem RepL.inv0 {K : PySem.W.Frag} {PN : Pn} {H : Hp} {Z : Addr → Prop} {vs : List V} {fp : List Addr} (h : RepL K PN H Z vs [] fp) : vs = [] := by
  cases h
  rfl
theorem RepL.inv {K : PySem.W.Frag} {PN : Pn} {H : Hp} {Z : Addr → Prop} {vs : List V} {d : D} {ds : List D} {fp : List Addr} (h : RepL K PN H Z vs (d :: ds) fp) (e : fp = []) : ∃ v us, vs = v :: us ∧ Rep K PN H Z v d [] ∧ RepL K PN H Z us ds [] := by
  cases h with
  | cons r q =>
    obtain ⟨e1, e2⟩ := app_nil e
    subst e1; subst e2
    exact ⟨_, _, rfl, r, q⟩
theorem Rep.int_inv {K : PySem.W.Frag} {PN : Pn} {H : Hp} {Z : Addr → Prop} {v : V} {i : Int} {fp : List Addr} (h : Rep K PN H Z v (.int i) fp) : v = .int i := by
  cases h
  rfl
theorem iv_range1 {tg a : Expr} {fs : Env → Comp (List D)} {p pos : Pos} (hm : X.mg "range" = none) (ha : EA X W vs fs [a]) (hg : Gl X "range" := by rfl) (hs : starEach [a] X.env = [(false, eval a X.env)] := by rfl) : IV X W vs (iOf gRange1 fs) tg (.Call (.Name "range" p) [a] [] pos) := by
  refine piW (pi_range1 hg hm ha hs) fun σ H R h => ?_
  obtain ⟨PN, n, Z, ρ, k, z, p, h⟩ := h
  rw [iOf, Comp.all_bind] at h
  refine ⟨PN, n, Z, ρ, k, z, p, Comp.all_mono (fun m ds h => fun us PN1 H1 Z1 s1 r1 => ?_) (fun _ _ _ h => h) h⟩
  unfold gRange1 at h
  split at h
  · rename_i j
    split at h
    · rename_i hj
      obtain ⟨v, us', rfl, r, q⟩ := r1.inv rfl
      obtain rfl := q.inv0
      obtain rfl := r.int_inv
      exact ⟨j, rfl, hj.1, hj.2, h _ PN1 H1 Z1 s1 walks_range⟩
    · exact h.elim
  · exact h.elim
theorem iv_range2 {tg a b : Expr} {fs : Env → Comp (List D)} {p pos : Pos} (hm : X.mg "range" = none) (ha : EA X W vs fs [a, b]) (hg : Gl X "range" := by rfl) (hs : starEach [a, b] X.env = [(false, eval a X.env), (false, eval b X.env)] := by rfl) (hs2 : starEach [b] X.env = [(false, eval b X.env)] := by rfl) :
    IV X W vs (iOf gRange2 fs) tg (.Call (.Name "range" p) [a, b] [] pos) := by
  refine piW (pi_range2 hg hm ha hs hs2) fun σ H R h => ?_
  obtain ⟨PN, n, Z, ρ, k, z, p, h⟩ := h
  rw [iOf, Comp.all_bind] at h
  refine ⟨PN, n, Z, ρ, k, z, p, Comp.all_mono (fun m ds h => fun us PN1 H1 Z1 s1 r1 => ?_) (fun _ _ _ h => h) h⟩
  unfold gRange2 at h
  split at h
  · rename_i i j
    split at h
    · rename_i hj
      obtain ⟨v, us', rfl, r, q⟩ := r1.inv rfl
      obtain ⟨v', us', rfl, r', q'⟩ := q.inv rfl
      obtain rfl := q'.inv0
      obtain rfl := r.int_inv
      obtain rfl := r'.int_inv
      exact ⟨i, j, rfl, ⟨hj.1.1, hj.1.2, hj.2.1, hj.2.2⟩, h _ PN1 H1 Z1 s1 walks_range⟩
    · exact h.elim
  · exact h.elim
def gEnum : List D → Comp (List D)
  | [d] => (itemsOf d).bind fun ds => .ret (numbered 0 ds)
  | _ => .stuck
theorem walks_enum {K : PySem.W.Frag} {PN : Pn} {H : Hp} {Z : Addr → Prop} {ds : List D} {xs : List V} {J : It} {G : Hp → Prop} (w : Walk J xs.length G (YPair (fun i => some (.int (i : Nat))) (fun i => xs[i]?))) (hg : ∀ H2, Pres Z H H2 → G H2) (r : RepL K PN H Z xs ds []) : Walks K PN H Z (numbered 0 ds) J := by
  have hl := r.length
  refine walks_pair w (by rw [numbered_length]; omega) hg fun PN2 H2 Z2 i x y pr pn zz hi hx hy => ?_
  have r2 := RepL.to (fp := []) pr pn zz ds (fun _ h => nomatch h) r
  have hi' : i < ds.length := by omega
  obtain ⟨v, h1, h2⟩ := r2.get rfl (List.getElem?_eq_getElem hi')
  rw [h1] at hy
  cases hy
  cases hx
  refine ⟨.int (i : Nat), ds[i], ?_, .int, h2⟩
  rw [numbered_get, List.getElem?_eq_getElem hi', Nat.zero_add]
  rfl
theorem iv_enum {e : Expr} {fs : Env → Comp (List D)} {p pos tpos : Pos} {elts : List Expr} {kk : Nat} (hm : X.mg "enumerate" = none) (ha : EA X W vs fs [e]) (hg : Gl X "enumerate" := by rfl) (hs : starEach [e] X.env = [(false, eval e X.env)] := by rfl) :
    IV X W vs (iOf gEnum fs) (.Tuple elts kk tpos) (.Call (.Name "enumerate" p) [e] [] pos) := by
  constructor
  intro pins s σ H R I q
  obtain ⟨PN, n, Z, ρ, k, z, p, q⟩ := q
  rw [iOf, Comp.all_bind] at q
  refine Call_ (ld_blt I hg hm boot_enumerate (PyProof.Rows.callWith_type1 (thn (ha.run pos pins s σ H (fun us H1 => ∃ a, us = [.ref a] ∧ ((∃ xs, SqL X.K H1 a xs ∧ R (Ite X.K a) H1) ∨ ∃ xs, SqT X.K H1 a xs ∧ R (IteT X.K a) H1)) I
    ⟨PN, n, Z, ρ, k, z, p, Comp.all_mono (fun m ds q => fun us PN1 H1 Z1 s1 r1 => ?_) (fun _ _ _ h => h) q⟩) fun us s1 q1 => ?_) hs rfl))
  · unfold gEnum at q
    split at q
    · rename_i d
      obtain ⟨v, us', rfl, r, r0⟩ := r1.inv rfl
      obtain rfl := r0.inv0
      rw [Comp.all_bind] at q
      cases d with
      | tup ds =>
        cases r with
        | tup h r => exact ⟨_, rfl, .inr ⟨_, h, q _ PN1 H1 Z1 s1 (walks_enum walk_enumT (fun H2 pr => pr.sqT h) r)⟩⟩
      | lst b ds =>
        cases b with
        | false =>
          obtain ⟨a, xs, rfl, r, st⟩ := Rep.sqLs r
          exact ⟨_, rfl, .inl ⟨_, st H1 .refl, q _ PN1 H1 Z1 s1 (walks_enum walk_enum st r)⟩⟩
        | true =>
          exfalso
          generalize hf : ([] : List Addr) = f at r
          cases r
          cases hf
      | _ => exact q.elim
    · exact q.elim
  · obtain ⟨ws, H1, I1, rv, a, rfl, q⟩ := q1
    cases rv with
    | cons rx rr =>
      cases rr
      cases rx
      rcases q with ⟨xs, hq, q⟩ | ⟨xs, hq, q⟩
      · obtain ⟨its, rv, p', hz⟩ := I1.list hq
        refine call_enumerate_list p'.isList fun h' he hit hsz hk => wpAny_pyIter_enum he ?_
        have I2 : Inv X pins σ H1 { s1 with heap := h' } := I1.kept (t' := s1.toks) hk
        refine ⟨s1.heap.objs.size + 1, [s1.heap.objs.size + 1, s1.heap.objs.size], _, _, H1, rfl, I2, turn_enum a (s1.heap.objs.size + 1) s1.heap.objs.size, ⟨⟨.none, he⟩, hit, Nat.succ_ne_self _⟩, fun b hb => ?_, q⟩
        have hle : s1.heap.objs.size ≤ b := by
          rcases (show b = s1.heap.objs.size + 1 ∨ b = s1.heap.objs.size by simpa using hb) with z | z
          · rw [z]; exact Nat.le_succ _
          · rw [z]; exact Nat.le_refl _
        exact I1.fpOk hle (I1.hok.fresh hle)
      · obtain ⟨its, rv, p', hz⟩ := I1.tuple hq
        have al : a < s1.heap.objs.size := by obtain ⟨o, e, _⟩ := p'; exact Heap.lt_size e
        refine enum1_begins (begins_tuple a its.toArray) (show s1.heap.IsTuple a its.toArray from p') fun h' he hit hsz hk => wpAny_pyIter_enum he ?_
        have I2 : Inv X pins σ H1 { s1 with heap := h' } := I1.kept (t' := s1.toks) hk
        refine ⟨s1.heap.objs.size + 1, [s1.heap.objs.size + 1, s1.heap.objs.size], _, _, H1, rfl, I2, turn_enumT a (s1.heap.objs.size + 1) s1.heap.objs.size (Nat.ne_of_lt al), ⟨⟨.none, he⟩, ⟨_, hit, rfl, rfl⟩, Nat.succ_ne_self _, Nat.ne_of_gt (Nat.lt_succ_of_lt al)⟩, fun b hb => ?_, q⟩
        have hle : s1.heap.objs.size ≤ b := by
          rcases (show b = s1.heap.objs.size + 1 ∨ b = s1.heap.objs.size by simpa using hb) with z | z
          · rw [z]; exact Nat.le_succ _
          · rw [z]; exact Nat.le_refl _
        exact I1.fpOk hle (I1.hok.fresh hle)
def gZip : List D → Comp (List D)
  | [.tup ds, .tup es] => .ret (pairs ds es)
  | [.lst _ ds, .lst _ es] => .ret (pairs ds es)
  | _ => .stuck
end
end Mid

namespace Mid
open PySem PySem.Spec PyProof.Rows L2

/-! ## targets -/
abbrev Tg := D → Env → Option Env
def Closed (K : PySem.W.Frag) (PN : Pn) (Z : Addr → Prop) (is : List Nat) (P : Env → L2.St → Hp → Prop) : Prop :=
  ∀ ρ σ H i v d, i ∈ is → P ρ σ H → Rep K PN H Z v d [] → P (ρ.set i (some d)) (σ.set i (some v)) H
def gAny (K : PySem.W.Frag) (is : List Nat) (t : Tg) : TG := fun v σ H Q => ∃ PN Z P ρ d ρ', Closed K PN Z is P ∧ P ρ σ H ∧ Rep K PN H Z v d [] ∧ t d ρ = some ρ' ∧ ∀ σ', P ρ' σ' H → Q σ' H
def gAnyL (K : PySem.W.Frag) (is : List Nat) (t : List D → Env → Option Env) : TGs := fun vs σ H Q => ∃ PN Z P ρ ds ρ', Closed K PN Z is P ∧ P ρ σ H ∧ RepL K PN H Z vs ds [] ∧ t ds ρ = some ρ' ∧ ∀ σ', P ρ' σ' H → Q σ' H
abbrev TGV (X : Cx) (is : List Nat) (t : Tg) (e : Expr) : Prop := PG X e (gAny X.K is t)
abbrev TGsV (X : Cx) (is : List Nat) (t : List D → Env → Option Env) (e : List Expr) : Prop := PGs X e (gAnyL X.K is t)
def tName (i : Nat) : Tg := fun d ρ => some (ρ.set i (some d))
def tsNil : List D → Env → Option Env := fun ds ρ => match ds with
  | [] => some ρ
  | _ => none
def tsCons (t : Tg) (ts : List D → Env → Option Env) : List D → Env → Option Env := fun ds ρ => match ds with
  | d :: ds => (t d ρ).bind (ts ds)
  | [] => none
def tTup (n : Nat) (ts : List D → Env → Option Env) : Tg := fun d ρ => match d with
  | .tup ds => if ds.length = n then ts ds ρ else none
  | _ => none
section
variable {X : Cx} {is : List Nat}
theorem pgW {e : Expr} {t t' : TG} (h : PG X e t) (w : ∀ v σ H Q, t' v σ H Q → t v σ H Q) : PG X e t' := ⟨fun pins s σ H v u Q I r q => h.run pins s σ H v u Q I r (w v σ H Q q)⟩
theorem pgsW {e : List Expr} {t t' : TGs} (h : PGs X e t) (w : ∀ v σ H Q, t' v σ H Q → t v σ H Q) : PGs X e t' := ⟨fun pins s σ H v u Q I r q => h.run pins s σ H v u Q I r (w v σ H Q q)⟩
theorem tg_name (i : Nat) {x : Str} {pos : Pos} (hN : X.N.Nodup) (hi : X.N[i]? = some x := by rfl) (hx : Loc X.env.scope x := by first | exact Or.inl rfl | exact Or.inr rfl) (hm : is.contains i = true := by rfl) (hf : X.fn x = true ∨ X.env.scope.names.lookup x = some .local := by first | exact .inl rfl | exact .inr rfl) :
    TGV X is (tName i) (.Name x pos) := by
  refine pgW (pg_name hN hi hx hf) fun v σ H Q h => ?_
  obtain ⟨PN, Z, P, ρ, d, ρ', c, p, r, e, q⟩ := h
  cases e
  exact q _ (c ρ σ H i v d (by simpa using hm) p r)
theorem tgs_nil : TGsV X is tsNil [] := by
  refine pgsW pgs_nil fun v σ H Q h => ?_
  obtain ⟨PN, Z, P, ρ, ds, ρ', c, p, r, e, q⟩ := h
  cases ds with
  | nil =>
    cases e
    exact ⟨r.inv0, q _ p⟩
  | cons d ds => cases e
theorem tgs_cons {t : Tg} {ts : List D → Env → Option Env} {e : Expr} {es : List Expr} (h1 : TGV X is t e) (h2 : TGsV X is ts es) (hs : (assignEach (e :: es) X.env).map (·.2) = assign e X.env :: (assignEach es X.env).map (·.2) := by rfl) : TGsV X is (tsCons t ts) (e :: es) := by
  refine pgsW (pgs_cons h1 h2 hs) fun vs σ H Q h => ?_
  obtain ⟨PN, Z, P, ρ, ds, ρ', c, p, r, e, q⟩ := h
  cases ds with
  | nil => cases e
  | cons d ds =>
    obtain ⟨v, us, rfl, rv, ru⟩ := r.inv rfl
    have e' : (t d ρ).bind (ts ds) = some ρ' := e
    cases et : t d ρ with
    | none => rw [et] at e'; cases e'
    | some ρ1 =>
      rw [et] at e'
      exact ⟨v, us, rfl, PN, Z, P, ρ, d, ρ1, c, p, rv, et, fun σ1 p1 => ⟨PN, Z, P, ρ1, ds, ρ', c, p1, ru, e', q⟩⟩
theorem tg_tup {n : Nat} {ts : List D → Env → Option Env} {es : List Expr} {k : Nat} {pos : Pos} (hc : X.calm = true) (h : TGsV X is ts es) (hn : (assignEach es X.env).length = n := by rfl) (hst : (assignEach es X.env).findIdx? (·.1) = none := by rfl) : TGV X is (tTup n ts) (.Tuple es k pos) := by
  refine pgW (pg_tup hc h hn hst) fun v σ H Q h => ?_
  obtain ⟨PN, Z, P, ρ, d, ρ', c, p, r, e, q⟩ := h
  unfold tTup at e
  split at e
  · rename_i ds
    split at e
    · rename_i hl
      cases r with
      | tup hq r => exact ⟨_, _, rfl, hq, r.length.trans hl, PN, Z, P, ρ, ds, ρ', c, p, r, e, q⟩
    · cases e
  · cases e
end

/-! ## for -/
def forL (t : Tg) (body : Env → Comp (Fl × Env)) : List D → Env → Comp (Fl × Env)
  | [], ρ => .ret (.nx, ρ)
  | d :: ds, ρ => match t d ρ with
    | none => .stuck
    | some ρ' => (body ρ').bind fun r => match r with
      | (.nx, ρ2) => forL t body ds ρ2
      | (.ct, ρ2) => forL t body ds ρ2
      | (.bk, ρ2) => .ret (.nx, ρ2)
      | r => .ret r
/-- over what stands still: its names are given up -/
def sForS (vs : List Nat) (it : Env → Comp (List D)) (t : Tg) (body : Env → Comp (Fl × Env)) : Env → Comp (Fl × Env) := fun ρ =>
  (it (fzE ρ)).try_ (fun ds => forL t body ds (frzE vs ρ)) fun c x => .ret (.er c x, ρ)
/-- over a range -/
def sForR (it : Env → Comp (List D)) (t : Tg) (body : Env → Comp (Fl × Env)) : Env → Comp (Fl × Env) := fun ρ =>
  (it (fzE ρ)).try_ (fun ds => forL t body ds ρ) fun c x => .ret (.er c x, ρ)
def Bs.at (B : Bs) (PN : Pn) (H : Hp) (Z : Addr → Prop) : Bs := { B with pb := PN, hb := H, zb := Z }
section
variable {K : PySem.W.Frag} {B : Bs} {PN PN' : Pn} {H H' : Hp} {Z Z' : Addr → Prop} {ρ ρ' : Env} {σ σ' : L2.St} {o o' : Addr → Option Nat}
theorem SOk.rebase (s : SOk K B PN H Z ρ σ o) : SOk K (B.at PN H Z) PN H Z ρ σ o := ⟨s.mv, s.zk, s.z0, .refl, fun _ h => h, fun _ h => h, s.len, s.slot, s.own⟩
theorem SOk.unbase (s : SOk K B PN H Z ρ σ o) (s' : SOk K (B.at PN H Z) PN' H' Z' ρ' σ' o') : SOk K B PN' H' Z' ρ' σ' o' :=
  ⟨s'.mv, s'.zk, s'.z0, s.old.trans s.zold s'.old, fun pc h => s'.pold pc (s.pold pc h), fun a h => s'.zold a (s.zold a h), s'.len, s'.slot, s'.own⟩
/-- more is given up, nothing of it owned -/
theorem SOk.more (s : SOk K B PN H Z ρ σ o) (zk : Zk PN Z' H) (up : ∀ a, Z a → Z' a) (z0 : ∀ a, Z' a → B.z a ∨ B.h a = none) (own : ∀ a i, o a = some i → ¬ Z' a) : SOk K B PN H Z' ρ σ o :=
  ⟨s.mv, zk, z0, s.old, s.pold, fun a h => up a (s.zold a h), s.len, fun i d hd => by
    obtain ⟨v, f, h1, h2, h3, h4⟩ := s.slot i d hd
    exact ⟨v, f, h1, h2, h3, Rep.to .refl (fun _ h => h) up d (fun _ _ _ h => h) h4⟩, fun a i h => ⟨(s.own a i h).1, own a i h, (s.own a i h).2.2⟩⟩
theorem SOk.closed {is : List Nat} : Closed K PN Z is (fun ρ σ H => ∃ o, SOk K B PN H Z ρ σ o) := fun ρ σ H i v d _ ⟨o, s⟩ r =>
  ⟨_, s.put (i := i) (fp := []) List.Pairwise.nil (fun _ h => (nomatch h)) r⟩
end
section
variable {X : Cx} {W : WX} {vs : List Nat}
theorem for_core {body : Env → Comp (Fl × Env)} {t : Tg} {is : List Nat} {D' : Ends} {J : It} {B : Bs} {PN1 : Pn} {H1 : Hp} {Z1 Zw : Addr → Prop} {ds : List D} {m0 : Nat} {ρ : Env} {σ : L2.St} {o : Addr → Option Nat}
    (wk : Walks X.K PN1 H1 Zw ds J) (zw : ∀ a, Zw a → Z1 a) (s : SOk X.K B PN1 H1 Z1 ρ σ o) (p : Pens PN1 m0 H1) (h : (forL t body ds ρ).all (SPost X W D' B) NoErr m0) :
    ∃ V : Nat → Nat → L2.St → Hp → Prop, (∃ m, V 0 m σ H1) ∧ ∀ i m σ H, V i m σ H →
      (J.stop i H ∧ D'.nx σ H) ∨ (J.go i H ∧ ∃ N : L2.St → Hp → Prop, (∀ σ' H', N σ' H' → ∃ m', m' < m ∧ V (i + 1) m' σ' H') ∧ ∀ x H', J.yld i H x H' → gAny X.K is t x σ H' fun σ2 H2 => sPre X W body { D' with nx := N, ct := N, bk := D'.nx } σ2 H2) := by
  refine ⟨fun i m σ H => m = ds.length - i ∧ i ≤ ds.length ∧ ∃ PN n Z ρ o, SOk X.K (B.at PN1 H1 Z1) PN H Z ρ σ o ∧ Pens PN n H ∧ (forL t body (ds.drop i) ρ).all (SPost X W D' B) NoErr n,
    ⟨ds.length, rfl, Nat.zero_le _, PN1, m0, Z1, ρ, o, s.rebase, p, h⟩, ?_⟩
  rintro i m σi Hi ⟨rfl, hi, PN, n, Z, ρi, oi, si, pi_, h⟩
  obtain ⟨w1, w2⟩ := wk PN Hi Z n ⟨fun a ob e z => si.old.lst a ob e (zw a z), si.old.tup, si.old.frz⟩ si.pold (fun a z => si.zold a (zw a z)) si.zk pi_
  by_cases hlt : i < ds.length
  · obtain ⟨go, yl⟩ := w1 i hlt
    rw [List.drop_eq_getElem_cons hlt] at h
    refine .inr ⟨go, fun σ' H' => ∃ PN n Z ρ o, SOk X.K (B.at PN1 H1 Z1) PN H' Z ρ σ' o ∧ Pens PN n H' ∧ (forL t body (ds.drop (i + 1)) ρ).all (SPost X W D' B) NoErr n, fun σ' H' q => ⟨ds.length - (i + 1), by omega, rfl, hlt, q⟩, fun x H' hy => ?_⟩
    obtain ⟨d, hd, sh, r⟩ := yl x H' hy
    rw [List.getElem?_eq_getElem hlt] at hd
    cases hd
    unfold forL at h
    split at h
    · exact h.elim
    · rename_i ρ' et
      refine ⟨PN, Z, _, ρi, ds[i], ρ', SOk.closed (B := B.at PN1 H1 Z1), ⟨oi, si.step pi_ sh.mv⟩, r, et, fun σ2 ⟨o2, s2⟩ => ?_⟩
      rw [Comp.all_bind] at h
      refine ⟨B.at PN1 H1 Z1, PN, n, Z, ρ', o2, s2, sh.pens, Comp.all_mono (fun m rr h => ?_) (fun _ _ _ h => h) h⟩
      obtain ⟨fl, ρ3⟩ := rr
      cases fl with
      | nx => exact fun PN' H' Z' σ' o' s' p' => ⟨PN', m, Z', ρ3, o', s', p', h⟩
      | ct => exact fun PN' H' Z' σ' o' s' p' => ⟨PN', m, Z', ρ3, o', s', p', h⟩
      | bk => exact fun PN' H' Z' σ' o' s' p' => h PN' H' Z' σ' o' (s.unbase s') p'
      | rt d => exact fun v PN' H' ev => h v PN' H' ev
      | er c x => exact fun C PN' H' Z' σ' o' s' p' e ex => h C PN' H' Z' σ' o' (s.unbase s') p' e ex
  · have e : i = ds.length := by omega
    subst e
    rw [List.drop_length] at h
    exact .inl ⟨w2, h PN Hi Z σi oi (s.unbase si) pi_⟩
theorem sv_forS {tg iter : Expr} {it : Env → Comp (List D)} {t : Tg} {is : List Nat} {body : Env → Comp (Fl × Env)} {sts : List Stmt} {pos : Pos} (hp : PassesOwn (model X.prog X.w) X.A X.env X.xe) (hc : X.calm = true) (hi : IV X W vs it tg iter) (hg : TGV X is t tg) (hb : SVs X W body sts)
    (hs : ∀ x, foldedSetIterable iter X.env x = pure x := by intro _; rfl) : SV X W (sForS vs it t body) (.For tg iter sts [] pos) := by
  refine psW (ps_for hp hc hi hg hb hs) fun D' σ H h => ?_
  obtain ⟨B, PN, n, Z, ρ, o, s, p, h⟩ := h
  rw [sForS, Comp.all_try] at h
  obtain ⟨k1, z1⟩ := s.pk vs
  refine ⟨PN, n, Zv Z o vs, fzE ρ, k1, z1, p, Comp.all_mono (fun m ds h => fun J PN' H' Z' sh wk => ?_) (fun m c x h => ?_) h⟩
  · have sf := (s.freeze vs).step p sh.mv
    have sg := sf.more (Z' := Z') sh.zk sh.up (fun a ha => by
      rcases sh.down a ha with q | q
      · exact sf.z0 a q
      · exact .inr (s.mv.keep a q)) (fun a i hi q => by
      rcases sh.down a q with q | q
      · exact (sf.own a i hi).2.1 q
      · have ho : ∃ k, o a = some k := by
          cases e : o a with
          | none => rw [e] at hi; cases hi
          | some k => exact ⟨k, rfl⟩
        obtain ⟨k, hk⟩ := ho
        exact (s.own a k hk).2.2.2 q)
    exact for_core wk (fun _ h => h) sg sh.pens h
  · intro C PN' H' e ex mv p'
    exact h C PN' H' Z σ o (s.step p mv) p' e ex
/-- a range stands still by itself -/
def iPreR (K : PySem.W.Frag) (mg : Str → Option Value) (W : WX) (vs : List Nat) (f : Env → Comp (List D)) : TI := fun σ H R => ∃ PN n Z ρ, Pk K PN H Z vs ρ σ ∧ Zk PN Z H ∧ Pens PN n H ∧
  (f ρ).all (fun m ds => ∀ J PN' H' Z', Sh K PN H Z m PN' H' Z' → Walks K PN' H' (fun _ => False) ds J → R J H') (Out mg W PN H σ) n
abbrev IVR (X : Cx) (W : WX) (vs : List Nat) (f : Env → Comp (List D)) (tg it : Expr) : Prop := PI X tg it (iPreR X.K X.mg W vs f)
theorem ivr_range1 {tg a : Expr} {fs : Env → Comp (List D)} {p pos : Pos} (hm : X.mg "range" = none) (ha : EA X W vs fs [a]) (hg : Gl X "range" := by rfl) (hs : starEach [a] X.env = [(false, eval a X.env)] := by rfl) : IVR X W vs (iOf gRange1 fs) tg (.Call (.Name "range" p) [a] [] pos) := by
  refine piW (pi_range1 hg hm ha hs) fun σ H R h => ?_
  obtain ⟨PN, n, Z, ρ, k, z, p, h⟩ := h
  rw [iOf, Comp.all_bind] at h
  refine ⟨PN, n, Z, ρ, k, z, p, Comp.all_mono (fun m ds h => fun us PN1 H1 Z1 s1 r1 => ?_) (fun _ _ _ h => h) h⟩
  unfold gRange1 at h
  split at h
  · rename_i j
    split at h
    · rename_i hj
      obtain ⟨v, us', rfl, r, q⟩ := r1.inv rfl
      obtain rfl := q.inv0
      obtain rfl := r.int_inv
      exact ⟨j, rfl, hj.1, hj.2, h _ PN1 H1 Z1 s1 walks_range⟩
    · exact h.elim
  · exact h.elim
theorem ivr_range2 {tg a b : Expr} {fs : Env → Comp (List D)} {p pos : Pos} (hm : X.mg "range" = none) (ha : EA X W vs fs [a, b]) (hg : Gl X "range" := by rfl) (hs : starEach [a, b] X.env = [(false, eval a X.env), (false, eval b X.env)] := by rfl) (hs2 : starEach [b] X.env = [(false, eval b X.env)] := by rfl) :
    IVR X W vs (iOf gRange2 fs) tg (.Call (.Name "range" p) [a, b] [] pos) := by
  refine piW (pi_range2 hg hm ha hs hs2) fun σ H R h => ?_
  obtain ⟨PN, n, Z, ρ, k, z, p, h⟩ := h
  rw [iOf, Comp.all_bind] at h
  refine ⟨PN, n, Z, ρ, k, z, p, Comp.all_mono (fun m ds h => fun us PN1 H1 Z1 s1 r1 => ?_) (fun _ _ _ h => h) h⟩
  unfold gRange2 at h
  split at h
  · rename_i i j
    split at h
    · rename_i hj
      obtain ⟨v, us', rfl, r, q⟩ := r1.inv rfl
      obtain ⟨v', us', rfl, r', q'⟩ := q.inv rfl
      obtain rfl := q'.inv0
      obtain rfl := r.int_inv
      obtain rfl := r'.int_inv
      exact ⟨i, j, rfl, ⟨hj.1.1, hj.1.2, hj.2.1, hj.2.2⟩, h _ PN1 H1 Z1 s1 walks_range⟩
    · exact h.elim
  · exact h.elim
theorem sv_forR {tg iter : Expr} {it : Env → Comp (List D)} {t : Tg} {is : List Nat} {body : Env → Comp (Fl × Env)} {sts : List Stmt} {pos : Pos} (hp : PassesOwn (model X.prog X.w) X.A X.env X.xe) (hc : X.calm = true) (hi : IVR X W vs it tg iter) (hg : TGV X is t tg) (hb : SVs X W body sts)
    (hs : ∀ x, foldedSetIterable iter X.env x = pure x := by intro _; rfl) : SV X W (sForR it t body) (.For tg iter sts [] pos) := by
  refine psW (ps_for hp hc hi hg hb hs) fun D' σ H h => ?_
  obtain ⟨B, PN, n, Z, ρ, o, s, p, h⟩ := h
  rw [sForR, Comp.all_try] at h
  obtain ⟨k1, z1⟩ := s.pk vs
  refine ⟨PN, n, Zv Z o vs, fzE ρ, k1, z1, p, Comp.all_mono (fun m ds h => fun J PN' H' Z' sh wk => ?_) (fun m c x h => ?_) h⟩
  · exact for_core wk (fun _ h => h.elim) (s.step p sh.mv) sh.pens h
  · intro C PN' H' e ex mv p'
    exact h C PN' H' Z σ o (s.step p mv) p' e ex

/-! ## while -/
def whileL (c : Env → Comp Bool) (body : Env → Comp (Fl × Env)) : Nat → Env → Comp (Fl × Env)
  | 0, _ => .stuck
  | k + 1, ρ => runB c ρ fun b => if b then (body ρ).bind fun r => match r with
      | (.nx, ρ2) => whileL c body k ρ2
      | (.ct, ρ2) => whileL c body k ρ2
      | (.bk, ρ2) => .ret (.nx, ρ2)
      | r => .ret r
    else .ret (.nx, ρ)
theorem sv_while {c : Env → Comp Bool} {body : Env → Comp (Fl × Env)} {e : Expr} {sts : List Stmt} {pos : Pos} (k : Nat) (hp : PassesOwn (model X.prog X.w) X.A X.env X.xe) (hc : EB X W vs c e) (hb : SVs X W body sts) : SV X W (whileL c body k) (.While e sts [] pos) := by
  refine psW (ps_while hp hc hb) fun D' σ H h => ?_
  obtain ⟨B, PN, n, Z, ρ, o, s, p, h⟩ := h
  refine ⟨fun m σ H => ∃ PN n Z ρ o, SOk X.K B PN H Z ρ σ o ∧ Pens PN n H ∧ (whileL c body m ρ).all (SPost X W D' B) NoErr n, ⟨k, PN, n, Z, ρ, o, s, p, h⟩, ?_⟩
  rintro m σ H ⟨PN, n, Z, ρ, o, s, p, h⟩
  cases m with
  | zero => exact h.elim
  | succ m =>
    refine runB_pre (Q := fun b H1 => if b = true then ∃ N : L2.St → Hp → Prop, (∀ σ' H', N σ' H' → ∃ m', m' < m + 1 ∧ ∃ PN n Z ρ o, SOk X.K B PN H' Z ρ σ' o ∧ Pens PN n H' ∧ (whileL c body m' ρ).all (SPost X W D' B) NoErr n) ∧ sPre X W body { D' with nx := N, ct := N, bk := D'.nx } σ H1 else D'.nx σ H1) s p h fun m2 b PN' H' s' p' h => ?_
    cases b with
    | false => exact h PN' H' Z σ o s' p'
    | true =>
      show (if true = true then _ else _)
      rw [if_pos rfl]
      refine ⟨fun σ' H' => ∃ PN n Z ρ o, SOk X.K B PN H' Z ρ σ' o ∧ Pens PN n H' ∧ (whileL c body m ρ).all (SPost X W D' B) NoErr n, fun σ' H' q => ⟨m, Nat.lt_succ_self _, q⟩, B, PN', m2, Z, ρ, o, s', p', ?_⟩
      have h2 : ((body ρ).bind fun r => match r with
        | (.nx, ρ2) => whileL c body m ρ2
        | (.ct, ρ2) => whileL c body m ρ2
        | (.bk, ρ2) => .ret (.nx, ρ2)
        | r => .ret r).all (SPost X W D' B) NoErr m2 := h
      rw [Comp.all_bind] at h2
      refine Comp.all_mono (fun m3 rr h => ?_) (fun _ _ _ h => h) h2
      obtain ⟨fl, ρ3⟩ := rr
      cases fl with
      | nx => exact fun PN' H' Z' σ' o' s' p' => ⟨PN', m3, Z', ρ3, o', s', p', h⟩
      | ct => exact fun PN' H' Z' σ' o' s' p' => ⟨PN', m3, Z', ρ3, o', s', p', h⟩
      | bk => exact fun PN' H' Z' σ' o' s' p' => h PN' H' Z' σ' o' s' p'
      | rt d => exact fun v PN' H' ev => h v PN' H' ev
      | er c x => exact fun C PN' H' Z' σ' o' s' p' e ex => h C PN' H' Z' σ' o' s' p' e ex
end

/-! ## comprehensions -/
def Comp.sure {α : Type} : Comp α → Comp α
  | .ret a => .ret a
  | .draw m k => .draw m fun r => (k r).sure
  | .err _ _ => .stuck
  | .stuck => .stuck
theorem Comp.all_sure {α : Type} {Q : Nat → α → Prop} {E E' : Nat → String → List D → Prop} : ∀ {c : Comp α} {n : Nat}, c.sure.all Q E n → c.all Q E' n
  | .ret _, _, h => h
  | .draw _ _, _, ⟨m, e, h0, h⟩ => ⟨m, e, h0, fun r hr => Comp.all_sure (h r hr)⟩
  | .err _ _, _, h => h.elim
  | .stuck, _, h => h
def wipeE : Env → List Nat → Env
  | ρ, [] => ρ
  | ρ, v :: vs => (wipeE ρ vs).set v none
def compL (t : Tg) (c : Env → Comp Bool) (f : Env → Comp D) (ρ : Env) : List D → Comp (List D)
  | [] => .ret []
  | d :: ds => match t d ρ with
    | none => .stuck
    | some ρ' => (c ρ').sure.bind fun b => if b then (f ρ').sure.bind fun e => (compL t c f ρ ds).bind fun es => .ret (e :: es) else compL t c f ρ ds
def eComp (own : List Nat) (it : Env → Comp (List D)) (t : Tg) (c : Env → Comp Bool) (f : Env → Comp D) : Env → Comp D := fun ρ => (it ρ).bind fun ds => if ds.length < sizeLine then (compL t c f (wipeE ρ own) ds).bind fun es => .ret (.lst true es) else .stuck
def cAll : Env → Comp Bool := fun _ => .ret true
abbrev EC (X : Cx) (W : WX) (vs : List Nat) (f : Env → Comp Bool) (ifs : List Expr) : Prop := PTs X ifs (bPre X.K X.mg W vs f)
section
variable {X : Cx} {W : WX} {vs : List Nat}
theorem ptsW {e : List Expr} {t t' : TT} (h : PTs X e t) (w : ∀ σ H Q, t' σ H Q → t σ H Q) : PTs X e t' := ⟨fun pins s σ H Q I q => h.run pins s σ H Q I (w σ H Q q)⟩
theorem ec_nil : EC X W vs cAll [] := ptsW pts_nil fun σ H Q h => by
  obtain ⟨PN, n, Z, ρ, k, z, p, h⟩ := h
  exact h PN H Z (Sh.refl p z)
theorem ec_one {c : Env → Comp Bool} {e : Expr} (h : EB X W vs c e) : EC X W vs c [e] := pts_one h
abbrev W0 : WX := fun _ _ _ _ => False
theorem wipe_at {σ : L2.St} {j : Nat} : ∀ {vs : List Nat}, (wipe σ vs)[j]? = if j ∈ vs then σ[j]?.map fun _ => none else σ[j]?
  | [] => by simp [wipe]
  | v :: vs => by
    have ih := wipe_at (σ := σ) (j := j) (vs := vs)
    unfold wipe
    rw [List.getElem?_set, wipe_length]
    by_cases hv : v = j
    · subst hv
      rw [if_pos rfl, if_pos List.mem_cons_self]
      by_cases hl : v < σ.length
      · rw [if_pos hl, List.getElem?_eq_getElem hl]; rfl
      · rw [if_neg hl, List.getElem?_eq_none (by omega)]; rfl
    · rw [if_neg hv, ih]
      simp [Ne.symm hv]
theorem wipe_set {σ : L2.St} {i : Nat} {x : Option V} {vs : List Nat} (h : i ∈ vs) : wipe (σ.set i x) vs = wipe σ vs := by
  apply List.ext_getElem?
  intro j
  rw [wipe_at, wipe_at]
  by_cases hj : j ∈ vs
  · rw [if_pos hj, if_pos hj, List.getElem?_set]
    split
    · rename_i e
      subst e
      split
      · rename_i hl
        rw [List.getElem?_eq_getElem hl]; rfl
      · rename_i hl
        rw [List.getElem?_eq_none (by omega)]
    · rfl
  · rw [if_neg hj, if_neg hj, List.getElem?_set_ne]
    intro e
    exact hj (e ▸ h)
theorem wipe_wipe {σ : L2.St} {vs : List Nat} : wipe (wipe σ vs) vs = wipe σ vs := by
  apply List.ext_getElem?
  intro j
  rw [wipe_at, wipe_at]
  by_cases hj : j ∈ vs
  · rw [if_pos hj, if_pos hj]
    cases σ[j]? <;> rfl
  · rw [if_neg hj]
theorem wipeE_length (ρ : Env) : ∀ vs : List Nat, (wipeE ρ vs).length = ρ.length
  | [] => rfl
  | v :: vs => by unfold wipeE; rw [List.length_set, wipeE_length ρ vs]
theorem wipeE_some {ρ : Env} {i : Nat} {x : D} : ∀ {vs : List Nat}, (wipeE ρ vs)[i]? = some (some x) → ρ[i]? = some (some x) ∧ i ∉ vs
  | [], h => ⟨h, by simp⟩
  | v :: vs, h => by
    unfold wipeE at h
    rw [List.getElem?_set] at h
    split at h
    · split at h <;> cases h
    · rename_i hv
      obtain ⟨h1, h2⟩ := wipeE_some h
      exact ⟨h1, by simp only [List.mem_cons, not_or]; exact ⟨fun e => hv e.symm, h2⟩⟩
theorem comp_core {it : Env → Comp (List D)} {t : Tg} {c : Env → Comp Bool} {f : Env → Comp D} {is own vs2 : List Nat} {ρ : Env} {σ : L2.St} {J : It} {Q : VK} {ds : List D} {PN1 : Pn} {H1 : Hp} {Z1 : Addr → Prop} {m0 : Nat} {E : Nat → String → List D → Prop} {Dn : Addr}
    (mg2 : Str → Option Value) (his : ∀ i ∈ is, i ∈ own) (hvs : ∀ i ∈ vs2, i ∈ own ∨ i ∈ vs) (hl : ds.length < sizeLine) (k1 : Pk X.K PN1 H1 Z1 vs ρ σ) (z1 : Zk PN1 Z1 H1) (p1 : Pens PN1 m0 H1) (wk : Walks X.K PN1 H1 Z1 ds J) (hD : H1 Dn = none)
    (h : (compL t c f (wipeE ρ own) ds).all (fun m es => ∀ v PN' H', Ev X.K PN1 H1 Z1 m v (.lst true es) PN' H' → Q v H') E m0) :
    ∃ V : Nat → Nat → Hp → Prop, (∃ m, V 0 m (upd H1 Dn (.lst []))) ∧ ∀ i m H, V i m H →
      (J.stop i H ∧ Q (.ref Dn) H) ∨ (J.go i H ∧ ∃ Nx : Hp → Prop, (∀ H', Nx H' → ∃ m', m' < m ∧ V (i + 1) m' H') ∧ ∀ x H', J.yld i H x H' → gAny X.K is t x (wipe σ own) H' fun σ2 H2 => wipe σ2 own = wipe σ own ∧ bPre X.K mg2 W0 vs2 c σ2 H2 fun b H3 =>
        if b = true then ePre X.K mg2 W0 vs2 f σ2 H3 fun y H4 => ∃ acc, H4 Dn = some (.lst acc) ∧ acc.length < sizeLine ∧ Nx (upd H4 Dn (.lst (acc ++ [y]))) else Nx H3) := by
  -- what holds behind i turns
  let G : Nat → Hp → Prop := fun i H => i ≤ ds.length ∧ ∃ PN n Z acc es fp, Mv PN1 H1 PN H ∧ Pens PN n H ∧ Zk PN Z H ∧ (∀ a, Z1 a → Z a) ∧ (∀ a, Z a → Z1 a ∨ H1 a = none) ∧ H Dn = some (.lst acc) ∧ RepL X.K PN H Z acc es fp ∧
    (Dn :: fp).Nodup ∧ (∀ a ∈ Dn :: fp, H1 a = none ∧ NP PN a ∧ H a ≠ none ∧ ¬ Z a) ∧ acc.length ≤ i ∧
    (compL t c f (wipeE ρ own) (ds.drop i)).all (fun m es' => ∀ v PN' H', Ev X.K PN1 H1 Z1 m v (.lst true (es ++ es')) PN' H' → Q v H') E n
  refine ⟨fun i m H => m = ds.length - i ∧ G i H, ⟨ds.length, rfl, Nat.zero_le _, PN1, m0, Z1, [], [], [], .laid hD, p1.laid hD, z1.step (.laid hD), fun _ h => h, fun _ h => .inl h, upd_same, .nil, by simp, ?_, Nat.le_refl _, h⟩, ?_⟩
  · intro a ha
    have e : a = Dn := by simpa using ha
    subst e
    exact ⟨hD, p1.tracked hD, by rw [upd_same]; simp, fun q => (z1 a q).1 hD⟩
  rintro i m H ⟨rfl, hi, PN, n, Z, acc, es, fp, mv, p, zk, up, down, hacc, rl, nd, fr, hal, h⟩
  obtain ⟨w1, w2⟩ := wk PN H Z n (mv.pres p1 z1) mv.sub up zk p
  by_cases hlt : i < ds.length
  · obtain ⟨go, yl⟩ := w1 i hlt
    rw [List.drop_eq_getElem_cons hlt] at h
    refine .inr ⟨go, G (i + 1), fun H' q => ⟨ds.length - (i + 1), by omega, rfl, q⟩, fun x H' hy => ?_⟩
    obtain ⟨d, hd, sh, r⟩ := yl x H' hy
    rw [List.getElem?_eq_getElem hlt] at hd
    cases hd
    unfold compL at h
    split at h
    · exact h.elim
    · rename_i ρ' et
      have sh1 : Sh X.K PN1 H1 Z1 n PN H Z := ⟨mv, p, zk, up, down⟩
      have k2 : Pk X.K PN H' Z vs ρ σ := (k1.step sh1 p1 z1).step sh p zk
      refine ⟨PN, Z, fun ρ2 σ2 H2 => H2 = H' ∧ Pk X.K PN H2 Z vs2 ρ2 σ2 ∧ wipe σ2 own = wipe σ own, wipeE ρ own, ds[i], ρ', fun ρ2 σ2 H2 j v d hj ⟨e, kk, ew⟩ rr => ⟨e, ⟨by simp [kk.1], fun l hl2 d' hd' => ?_⟩, by rw [wipe_set (his j hj)]; exact ew⟩, ⟨rfl, ⟨by rw [wipeE_length, wipe_length]; exact k2.1, fun l hl2 d' hd' => ?_⟩, wipe_wipe⟩, r, et, fun σ2 ⟨_, kk, ew⟩ => ⟨ew, ?_⟩⟩
      · by_cases hjl : j = l
        · subst hjl
          have hlen : j < ρ2.length := by
            have := (List.getElem?_eq_some_iff.mp hd').1
            simpa using this
          rw [List.getElem?_set_self hlen] at hd'
          cases hd'
          exact ⟨v, by rw [List.getElem?_set_self (by rw [← kk.1]; exact hlen)], rr⟩
        · rw [List.getElem?_set_ne hjl] at hd'
          obtain ⟨u, h1, h2⟩ := kk.2 l hl2 d' hd'
          exact ⟨u, by rw [List.getElem?_set_ne hjl]; exact h1, h2⟩
      · obtain ⟨h1, h2⟩ := wipeE_some hd'
        rcases hvs l hl2 with q | q
        · exact absurd q h2
        · obtain ⟨u, h3, h4⟩ := k2.2 l q d' h1
          exact ⟨u, by rw [wipe_at, if_neg h2]; exact h3, h4⟩
      rw [Comp.all_bind] at h
      have zk' := sh.zk
      refine ⟨PN, n, Z, ρ', kk, zk', sh.pens, Comp.all_mono (fun m2 b h => fun PNb Hb Zb shb => ?_) (fun _ _ _ h => h) (Comp.all_sure h)⟩
      have shB : Sh X.K PN H Z m2 PNb Hb Zb := sh.trans shb
      have rl2 : RepL X.K PNb Hb Z acc es fp := RepL.to (shB.mv.pres p zk) shB.mv.sub (fun _ h => h) es (fun a ha o e => shB.mv.ext a o e (fr a (List.mem_cons_of_mem _ ha)).2.1) rl
      have haccB : Hb Dn = some (.lst acc) := shB.mv.ext _ _ hacc (fr Dn List.mem_cons_self).2.1
      have frB : ∀ a ∈ Dn :: fp, H1 a = none ∧ NP PNb a ∧ Hb a ≠ none ∧ ¬ Zb a := fun a ha => by
        obtain ⟨q1, q2, q3, q4⟩ := fr a ha
        refine ⟨q1, shB.mv.np q2 q3, fun q => q3 (shB.mv.keep a q), fun q => ?_⟩
        rcases shB.down a q with q | q
        · exact q4 q
        · exact q3 q
      have downB : ∀ a, Zb a → Z1 a ∨ H1 a = none := fun a q => by
        rcases shB.down a q with q | q
        · exact down a q
        · exact .inr (mv.keep a q)
      cases b with
      | false =>
        refine iteF ?_
        exact ⟨hlt, PNb, m2, Zb, acc, es, fp, mv.trans shB.mv, shB.pens, shB.zk, fun a q => shB.up a (up a q), downB, haccB, RepL.to .refl (fun _ h => h) shB.up es (fun _ _ _ h => h) rl2, nd, frB, by omega, h⟩
      | true =>
        refine iteT ?_
        have h := Comp.all_bind.mp h
        refine ⟨PNb, m2, Zb, ρ', kk.step shb sh.pens sh.zk, shb.zk, shb.pens, Comp.all_mono (fun m3 e h => fun y PNe He ev => ?_) (fun _ _ _ h => h) (Comp.all_sure h)⟩
        obtain ⟨fe, Ze, mve, pe, nde, hfe, hze, re⟩ := ev
        rw [Comp.all_bind] at h
        have haccE : He Dn = some (.lst acc) := mve.ext _ _ haccB (frB Dn List.mem_cons_self).2.1
        refine ⟨acc, haccE, by omega, hlt, PNe, m3, fun a => Zb a ∨ Ze a, acc ++ [y], es ++ [e], fp ++ fe, ?_, ?_, ?_, fun a q => .inl (shB.up a (up a q)), ?_, upd_same, ?_, ?_, ?_, by simp; omega, ?_⟩
        · -- the heap, seen from H1
          refine ⟨fun pc q => mve.sub pc (shB.mv.sub pc (mv.sub pc q)), fun pc q => ((mv.trans shB.mv).trans mve).new pc q, fun a o q nq => ?_, fun a q => ?_⟩
          · rw [upd_ne (ne_of_none q hD)]
            exact ((mv.trans shB.mv).trans mve).ext a o q nq
          · by_cases ea : a = Dn
            · rw [ea]; exact hD
            · rw [upd_ne ea] at q
              exact ((mv.trans shB.mv).trans mve).keep a q
        · -- the pen
          refine ⟨pe.1, fun pp cc q => ?_⟩
          have nD := (mve.np (frB Dn List.mem_cons_self).2.1 (frB Dn List.mem_cons_self).2.2.1) pp cc q
          obtain ⟨cs, at_, rest, a1, a2, a3⟩ := pe.2 pp cc q
          exact ⟨cs, at_, rest, by rw [upd_ne (Ne.symm nD.1)]; exact a1, by rw [upd_ne (Ne.symm nD.2)]; exact a2, a3⟩
        · intro a q
          have nDa : a ≠ Dn := fun ea => by
            subst ea
            rcases q with q | q
            · exact (frB a List.mem_cons_self).2.2.2 q
            · rcases (hze a q).1 with q | q
              · exact (frB a List.mem_cons_self).2.2.2 q
              · exact (frB a List.mem_cons_self).2.2.1 q
          rw [upd_ne nDa]
          rcases q with q | q
          · exact shB.zk.step mve a q
          · exact ⟨(hze a q).2.2.2, (hze a q).2.2.1⟩
        · intro a q
          rcases q with q | q
          · exact downB a q
          · rcases (hze a q).1 with q | q
            · exact downB a q
            · exact .inr (mv.keep a (shB.mv.keep a q))
        · -- the items
          have zD : ∀ a, (Zb a ∨ Ze a) → a ≠ Dn := fun a q ea => by
            subst ea
            rcases q with q | q
            · exact (frB a List.mem_cons_self).2.2.2 q
            · rcases (hze a q).1 with q | q
              · exact (frB a List.mem_cons_self).2.2.2 q
              · exact (frB a List.mem_cons_self).2.2.1 q
          have prD : Pres (fun a => Zb a ∨ Ze a) He (upd He Dn (.lst (acc ++ [y]))) :=
            ⟨fun a o q z => by rw [upd_ne (zD a z)]; exact q, fun a xs q => by rw [upd_ne (fun ea => by subst ea; rw [haccE] at q; cases q)]; exact q, fun a o u q => by rw [upd_ne (fun ea => by subst ea; rw [haccE] at q; cases q)]; exact q⟩
          have rl3 : RepL X.K PNe He (fun a => Zb a ∨ Ze a) acc es fp := RepL.to ⟨fun a o q z => (mve.pres shB.pens shB.zk).lst a o q (shB.up a z), (mve.pres shB.pens shB.zk).tup, (mve.pres shB.pens shB.zk).frz⟩ mve.sub (fun a h => .inl (shB.up a h)) es (fun a ha o e => mve.ext a o e (frB a (List.mem_cons_of_mem _ ha)).2.1) rl2
          have re3 : Rep X.K PNe He (fun a => Zb a ∨ Ze a) y e fe := Rep.to .refl (fun _ h => h) (fun a h => .inr h) e (fun _ _ _ h => h) re
          have nfp : Dn ∉ fp := (List.nodup_cons.mp nd).1
          have nfe : Dn ∉ fe := fun q => (frB Dn List.mem_cons_self).2.2.1 (hfe Dn q).1
          have both := RepL.append rl3 (.cons re3 .nil)
          rw [List.append_nil] at both
          refine RepL.to prD (fun _ h => h) (fun _ h => h) _ (fun a ha o e => ?_) both
          rw [upd_ne (fun ea => by
            subst ea
            rcases List.mem_append.mp ha with q | q
            · exact nfp q
            · exact nfe q)]
          exact e
        · have nfe : Dn ∉ fe := fun q => (frB Dn List.mem_cons_self).2.2.1 (hfe Dn q).1
          have q := List.nodup_cons.mp nd
          refine List.nodup_cons.mpr ⟨fun hm => ?_, List.nodup_append.mpr ⟨q.2, nde, fun a ha b hb e => ?_⟩⟩
          · rcases List.mem_append.mp hm with r | r
            · exact q.1 r
            · exact nfe r
          · subst e
            exact (frB a (List.mem_cons_of_mem _ ha)).2.2.1 (hfe a hb).1
        · intro a ha
          have key : a ∈ Dn :: fp ∨ a ∈ fe := by
            rcases List.mem_cons.mp ha with r | r
            · exact .inl (by rw [r]; exact List.mem_cons_self)
            · rcases List.mem_append.mp r with r | r
              · exact .inl (List.mem_cons_of_mem _ r)
              · exact .inr r
          have there : ∀ b, He b ≠ none → upd He Dn (.lst (acc ++ [y])) b ≠ none := fun b q => by
            by_cases eb : b = Dn
            · rw [eb, upd_same]; simp
            · rw [upd_ne eb]; exact q
          rcases key with q | q
          · obtain ⟨q1, q2, q3, q4⟩ := frB a q
            refine ⟨q1, mve.np q2 q3, there a fun r => q3 (mve.keep a r), fun z => ?_⟩
            rcases z with z | z
            · exact q4 z
            · rcases (hze a z).1 with z | z
              · exact q4 z
              · exact q3 z
          · obtain ⟨q1, q2, q3⟩ := hfe a q
            refine ⟨mv.keep a (shB.mv.keep a q1), q2, there a q3, fun z => ?_⟩
            rcases z with z | z
            · exact (shB.zk a z).1 q1
            · exact (hze a z).2.1 q
        · refine Comp.all_mono (fun m4 es' h => fun v PN' H' ev => ?_) (fun _ _ _ h => h) h
          refine h v PN' H' ?_
          rw [List.append_assoc] at ev
          exact ev
  · have e : i = ds.length := by omega
    subst e
    rw [List.drop_length] at h
    refine .inl ⟨w2, h _ PN H ?_⟩
    rw [List.append_nil]
    exact ⟨Dn :: fp, Z, mv, p, nd, fun a ha => ⟨(fr a ha).1, (fr a ha).2.1, (fr a ha).2.2.1⟩, fun a z => ⟨down a z, fun q => (fr a q).2.2.2 z, (zk a z).2, (zk a z).1⟩, .own hacc rl⟩
theorem comp_pre {it : Env → Comp (List D)} {t : Tg} {c : Env → Comp Bool} {f : Env → Comp D} {is own vs2 : List Nat} (his : ∀ i ∈ is, i ∈ own) (hvs : ∀ i ∈ vs2, i ∈ own ∨ i ∈ vs) :
    ∀ σ H Q, ePre X.K X.mg W vs (eComp own it t c f) σ H Q → tLc (iPre X.K X.mg W vs it) (gAny X.K is t) (bPre X.K X.mg W0 vs2 c) (ePre X.K X.mg W0 vs2 f) own σ H Q := fun σ H Q h => by
  obtain ⟨PN, n, Z, ρ, k, z, p, h⟩ := h
  rw [eComp, Comp.all_bind] at h
  refine ⟨PN, n, Z, ρ, k, z, p, Comp.all_mono (fun m ds h => fun J PN1 H1 Z1 sh wk Dn hD => ?_) (fun _ _ _ h => h) h⟩
  split at h
  · rename_i hl
    rw [Comp.all_bind] at h
    exact comp_core (it := it) (ds := ds) (E := Out X.mg W PN H σ) X.mg his hvs hl (k.step sh p z) sh.zk sh.pens wk hD (Comp.all_mono (fun m' es h => fun v PN' H' ev => h v PN' H' (ev.back sh)) (fun _ _ _ h => h) h)
  · exact h.elim
theorem all_mem {a b : List Nat} (h : a.all (fun i => b.contains i) = true) : ∀ i ∈ a, i ∈ b := fun i hi => by simpa using List.all_eq_true.mp h i hi
theorem all_mem2 {a b e : List Nat} (h : a.all (fun i => b.contains i || e.contains i) = true) : ∀ i ∈ a, i ∈ b ∨ i ∈ e := fun i hi => by simpa using List.all_eq_true.mp h i hi
theorem ev_comp {elt tg iter : Expr} {ifs : List Expr} {scope : Scope} {own : List (Str × Nat)} {pos : Pos} {it : Env → Comp (List D)} {t : Tg} {c : Env → Comp Bool} {f : Env → Comp D} {is vs2 : List Nat} (hc : X.calm = true) (hN : X.N.Nodup) (hi : IV X W vs it tg iter) (ok : blkC X.N X.env.scope scope own = true)
    (hg : ∀ (s : Shared) (H : Hp) (C : Addr) (cl : List (Str × Addr)) (fp : List Addr), PG (X.blk s H scope (compEnvC scope cl C X.env) fp) tg (gAny X.K is t)) (ht : ∀ (s : Shared) (H : Hp) (C : Addr) (cl : List (Str × Addr)) (fp : List Addr), PTs (X.blk s H scope (compEnvC scope cl C X.env) fp) ifs (bPre X.K X.mg W0 vs2 c))
    (he : ∀ (s : Shared) (H : Hp) (C : Addr) (cl : List (Str × Addr)) (fp : List Addr), PE (X.blk s H scope (compEnvC scope cl C X.env) fp) elt (ePre X.K X.mg W0 vs2 f)) (his : is.all (fun i => (own.map (·.2)).contains i) = true := by rfl) (hvs : vs2.all (fun i => (own.map (·.2)).contains i || vs.contains i) = true := by rfl)
    (hs : ∀ x, foldedSetIterable iter X.env x = pure x := by intro _; rfl) : EV X W vs (eComp (own.map (·.2)) it t c f) (.ListComp elt [⟨tg, iter, ifs, 0⟩] scope pos) := by
  exact peW (pe_lc hc hN hi (blkOk_by ok) hg ht he hs) (comp_pre (all_mem his) (all_mem2 hvs))
theorem sv_asgC {i : Nat} {y : Str} {py spos : Pos} {elt tg iter : Expr} {ifs : List Expr} {scope : Scope} {own : List (Str × Nat)} {pos : Pos} {it : Env → Comp (List D)} {t : Tg} {c : Env → Comp Bool} {f : Env → Comp D} {is vs2 : List Nat} (hc : X.calm = true) (hN : X.N.Nodup) (hi : IV X W vs it tg iter) (ok : blkC X.N X.env.scope scope own = true)
    (hg : ∀ (s : Shared) (H : Hp) (C : Addr) (cl : List (Str × Addr)) (fp : List Addr), PG (X.blk s H scope (compEnvC scope cl C X.env) fp) tg (gAny X.K is t)) (ht : ∀ (s : Shared) (H : Hp) (C : Addr) (cl : List (Str × Addr)) (fp : List Addr), PTs (X.blk s H scope (compEnvC scope cl C X.env) fp) ifs (bPre X.K X.mg W0 vs2 c))
    (he : ∀ (s : Shared) (H : Hp) (C : Addr) (cl : List (Str × Addr)) (fp : List Addr), PE (X.blk s H scope (compEnvC scope cl C X.env) fp) elt (ePre X.K X.mg W0 vs2 f)) (his : is.all (fun i => (own.map (·.2)).contains i) = true := by rfl) (hvs : vs2.all (fun i => (own.map (·.2)).contains i || vs.contains i) = true := by rfl)
    (hy : X.N[i]? = some y := by rfl) (hyl : X.env.scope.names.lookup y = some .local := by rfl) (hsw : swapsWith (.ListComp elt [⟨tg, iter, ifs, 0⟩] scope pos) (some (.Name y py)) spos.line X.env = pure true := by rfl)
    (hs : ∀ x, foldedSetIterable iter X.env x = pure x := by intro _; rfl) : SV X W (sAsg i vs (eComp (own.map (·.2)) it t c f)) (.Assign [.Name y py] (.ListComp elt [⟨tg, iter, ifs, 0⟩] scope pos) spos) := by
  refine psW (ps_setLc hc hN hy hyl hsw hi (blkOk_by ok) hg ht he hs) fun D' σ H h => ?_
  obtain ⟨B, PN, n, Z, ρ, o, s, p, h⟩ := h
  refine comp_pre (all_mem his) (all_mem2 hvs) σ H _ (run_pre (Q := fun v H1 => gName i v σ H1 D'.nx) s p h fun m d v PN' H' ev h => ?_)
  obtain ⟨p', Z', o', s'⟩ := s.store (i := i) p ev
  exact h PN' H' Z' _ o' s' p'
end
end Mid

namespace Mid
open PySem PySem.Spec PyProof.Rows L2
/-! ## a tuple times one is itself -/
theorem tuple_mulOne (l : Addr) (its : Array Value) (n : Nat) (dd : Option Addr) (sl : Array (Option Value)) (x : Int) (u : Tok) (c0 : (decide (x < -(2 ^ 63)) || decide (x ≥ 2 ^ 63)) = false) (c1 : (its.isEmpty || x == 1) = true) :
    Meets (Builtin.«tuple.__mul__» ⟨[.ref l, .int x u], []⟩) (fun _ R s => s.heap.get? l = some { cls := .type "tuple", dict := dd, data := .seq its n, slots := sl } ∧ R (.ok (.ret (Value.ref l))) s) :=
  .of_wp fun prog w A R s h => by
    obtain ⟨hp, g, d, tk, os⟩ := s
    obtain ⟨hl, h⟩ := h
    have f1 := AutoSeq1.idx_int
    wp_walk using wpAny_loadPart' hl
    repeat (first
      | (refine wpAny_ite_false (decide_eq_false (by rw [c0]; exact Bool.false_ne_true)) ?_; wp_walk using wpAny_loadPart' hl)
      | (refine wpAny_ite_true (decide_eq_true (by rw [c1])) ?_; wp_walk using wpAny_loadPart' hl))
    exact ⟨_, rfl, h⟩
def rRep1 (K : PySem.W.Frag) : R2 := fun x y H Q => ∃ l k xs, x = .ref l ∧ y = .int k ∧ SqT K H l xs ∧ xs ≠ [] ∧ k = 1 ∧ Q (.ref l) H
section
variable {X : Cx}
theorem op_rep1 : OpR X (binaryOp .Mult) (rRep1 X.K) := by
  intro pins s σ H x y v u Q I rx ry h
  obtain ⟨l, k, xs, rfl, rfl, hT, hne, rfl, q⟩ := h
  cases rx
  obtain ⟨t, rfl⟩ := ry
  obtain ⟨its, r, ⟨⟨cls, dd, data, sl⟩, ho, hc, n, hd⟩, hs⟩ := I.tuple hT
  simp only at hc hd
  subst hc hd
  refine wpAny_binaryOp_repeat_ref (T := "tuple") (U := "int") (by decide) ⟨_, ho, rfl⟩ (fun s' => typeIs_int s' 1 t) noFill_tuple_mul F.fills_int_mul F.slot_int_rmul repeat_tuple F.slot_int_index.lookup
    (call_meets F.slot_int_rmul (typeIs_int s 1 t) F.entry_int_rmul (F.args_int_rmul_2 _ _) (int_rmul_tuple 1 t l its.toArray n dd sl)
      ⟨ho, rfl, ⟨_, ho, rfl⟩, call_meets F.slot_tuple_mul ⟨_, ho, rfl⟩ F.entry_tuple_mul (F.args_tuple_mul_2 _ _) (tuple_mulOne l its.toArray n dd sl 1 t (by decide) (by simp)) ⟨ho, ?_⟩⟩)
  exact ⟨.ref l, H, I, rfl, q⟩
end
end Mid

namespace Mid
open PySem PySem.Spec PyProof.Rows L2

/-! ## plain data as Python's -/
mutual
def pyD : D → PyData
  | .non => .none
  | .bl b => .bool b
  | .int i => .int i
  | .str x => .str x
  | .tup xs => .tuple (pyDL xs)
  | .lst _ xs => .list (pyDL xs)
  | .dct _ _ _ => .none
  | .pen => .none
  | .scr _ => .none
def pyDL : List D → List PyData
  | [] => []
  | d :: ds => pyD d :: pyDL ds
end
mutual
def plainD : D → Bool
  | .tup xs => plainL xs
  | .lst _ xs => plainL xs
  | .dct _ _ _ => false
  | .pen => false
  | .scr _ => false
  | _ => true
def plainL : List D → Bool
  | [] => true
  | d :: ds => plainD d && plainL ds
end
mutual
theorem Rep.dp {K : PySem.W.Frag} {PN : Pn} {H : Hp} {Z : Addr → Prop} : ∀ (d : D) {v : V} {fp : List Addr}, plainD d = true → Rep K PN H Z v d fp → Dp K H v (pyD d)
  | .non, _, _, _, .non => .non
  | .bl b, _, _, _, .bl => .bl b
  | .int i, _, _, _, .int => .int i
  | .str x, _, _, _, .str => .str x
  | .tup ds, _, _, n, .tup h r => .tup h (RepL.dp ds n r)
  | .lst false ds, _, _, n, .shr h z r => .lst (SqL.of h) (RepL.dp ds n r)
  | .lst true ds, _, _, n, .own h r => .lst (.inl (.inl h)) (RepL.dp ds n r)
theorem RepL.dp {K : PySem.W.Frag} {PN : Pn} {H : Hp} {Z : Addr → Prop} : ∀ (ds : List D) {vs : List V} {fp : List Addr}, plainL ds = true → RepL K PN H Z vs ds fp → DpAll K H vs (pyDL ds)
  | [], _, _, _, .nil => .nil
  | d :: ds, _, _, n, .cons r q => .cons (Rep.dp d (by rw [plainL, Bool.and_eq_true] at n; exact n.1) r) (RepL.dp ds (by rw [plainL, Bool.and_eq_true] at n; exact n.2) q)
end
def okD (d : D) : Bool := plainD d && SeqAt.shaped (pyD d)

/-! ## operators -/
def dAdd : D → D → Comp D
  | .int i, .int j => .ret (.int (i + j))
  | .tup xs, .tup ys => if xs.length + ys.length ≤ sizeLine then .ret (.tup (xs ++ ys)) else .stuck
  | .lst _ xs, .lst _ ys => if xs.length + ys.length ≤ sizeLine then .ret (.lst true (xs ++ ys)) else .stuck
  | .str x, .str y => if x.length + y.length ≤ sizeLine then .ret (.str (x ++ y)) else .stuck
  | _, _ => .stuck
def dSub : D → D → Comp D
  | .int i, .int j => .ret (.int (i - j))
  | _, _ => .stuck
structure smallI (n : Nat) (i : Int) : Prop where
  lt : i.natAbs < 2 ^ n
noncomputable instance {n : Nat} {i : Int} : Decidable (smallI n i) := Classical.propDecidable _
def mulLine : Nat := 400000
def divLine : Nat := 8000
noncomputable def dMul : D → D → Comp D
  | .int i, .int j => if smallI mulLine i ∧ smallI mulLine j then .ret (.int (i * j)) else .stuck
  | .lst _ xs, .int k => if -(2 ^ 63) ≤ k ∧ k < 2 ^ 63 ∧ xs.length * k.toNat ≤ sizeLine then .ret (.lst true (List.replicate k.toNat xs).flatten) else .stuck
  | .tup xs, .int k => if 0 < xs.length ∧ 1 ≤ k ∧ k ≤ 1000 ∧ xs.length ≤ 1000 then .ret (.tup (List.replicate k.toNat xs).flatten) else .stuck
  | _, _ => .stuck
noncomputable def dDiv : D → D → Comp D
  | .int i, .int j => if 0 < j ∧ smallI divLine j then .ret (.int (i / j)) else .stuck
  | _, _ => .stuck
def dMod : D → D → Comp D
  | .int i, .int j => if j ≠ 0 then .ret (.int (i.fmod j)) else .stuck
  | _, _ => .stuck
noncomputable def dPow : D → D → Comp D
  | .int i, .int j => if 0 ≤ j ∧ j ≤ 1000 ∧ smallI 64 i then .ret (.int (i ^ j.toNat)) else .stuck
  | _, _ => .stuck
def scalD : D → D → Option Bool
  | .int i, .int j => some (decide (i = j))
  | .str x, .str y => some (decide (x = y))
  | .bl x, .bl y => some (decide (x = y))
  | _, _ => none
def dEq (d e : D) : Comp D := match scalD d e with
  | some b => .ret (.bl b)
  | none => if okD d && okD e then .ret (.bl (PyData.eqv (pyD d) (pyD e))) else .stuck
def dNe (d e : D) : Comp D := match scalD d e with
  | some b => .ret (.bl !b)
  | none => if okD d && okD e then .ret (.bl (!PyData.eqv (pyD d) (pyD e))) else .stuck
def dCmp (p : Int → Int → Bool) : D → D → Comp D
  | .int i, .int j => .ret (.bl (p i j))
  | _, _ => .stuck
abbrev dLt := dCmp fun i j => decide (i < j)
abbrev dLe := dCmp fun i j => decide (i ≤ j)
abbrev dGt := dCmp fun i j => decide (j < i)
abbrev dGe := dCmp fun i j => decide (j ≤ i)
def isNon : D → Bool
  | .non => true
  | _ => false
def dIs : D → D → Comp D
  | d, .non => .ret (.bl (isNon d))
  | _, _ => .stuck
def dIsNot : D → D → Comp D
  | d, .non => .ret (.bl (!isNon d))
  | _, _ => .stuck
def dIn : D → D → Comp D
  | d, .lst _ ds => if okD d && okD (.lst true ds) then .ret (.bl (ds.any fun z => PyData.eqv (pyD z) (pyD d))) else .stuck
  | _, _ => .stuck
def dNotIn : D → D → Comp D
  | d, .lst _ ds => if okD d && okD (.lst true ds) then .ret (.bl (!ds.any fun z => PyData.eqv (pyD z) (pyD d))) else .stuck
  | _, _ => .stuck
def dNeg : D → Comp D
  | .int i => .ret (.int (-i))
  | _ => .stuck
local macro_rules | `(tactic| walk_at "quiet") => `(tactic| (intros; first | trivial | (split <;> first | trivial | (split <;> first | trivial | (split <;> trivial)))))
theorem q_add (d e : D) : (dAdd d e).quiet := by unfold dAdd; walk_at "quiet"
theorem q_sub (d e : D) : (dSub d e).quiet := by unfold dSub; walk_at "quiet"
theorem q_mul (d e : D) : (dMul d e).quiet := by unfold dMul; walk_at "quiet"
theorem q_div (d e : D) : (dDiv d e).quiet := by unfold dDiv; walk_at "quiet"
theorem q_mod (d e : D) : (dMod d e).quiet := by unfold dMod; walk_at "quiet"
theorem q_pow (d e : D) : (dPow d e).quiet := by unfold dPow; walk_at "quiet"
theorem q_eq (d e : D) : (dEq d e).quiet := by unfold dEq; walk_at "quiet"
theorem q_ne (d e : D) : (dNe d e).quiet := by unfold dNe; walk_at "quiet"
theorem q_cmp (p : Int → Int → Bool) (d e : D) : (dCmp p d e).quiet := by unfold dCmp; walk_at "quiet"
theorem q_is (d e : D) : (dIs d e).quiet := by unfold dIs; walk_at "quiet"
theorem q_isnot (d e : D) : (dIsNot d e).quiet := by unfold dIsNot; walk_at "quiet"
theorem q_in (d e : D) : (dIn d e).quiet := by unfold dIn; walk_at "quiet"
theorem q_notin (d e : D) : (dNotIn d e).quiet := by unfold dNotIn; walk_at "quiet"
theorem q_neg (d : D) : (dNeg d).quiet := by unfold dNeg; walk_at "quiet"
section
variable {X : Cx}
theorem or2 {f : Value → Value → Sem Value} {r : R2} (w : R2) (h : OpR X f w) (k : ∀ x y H Q, r x y H Q → w x y H Q) : OpR X f r := fun pins s σ H x y v u Q I rx ry q => h pins s σ H x y v u Q I rx ry (k x y H Q q)
theorem Rep.ofInt {K : PySem.W.Frag} {PN : Pn} {H : Hp} {Z : Addr → Prop} {m : Nat} {i : Int} (p : Pens PN m H) (z : Zk PN Z H) : Ev K PN H Z m (.int i) (.int i) PN H := Ev.here p z .int
theorem o_sub : OpR X (binaryOp .Sub) (r2 X.K dSub) := or2 _ op_sub fun x y H Q h => by
  obtain ⟨PN, n, Z, d, e, rd, re, z, p, h⟩ := h
  cases d <;> first | exact h.elim | skip
  cases e <;> first | exact h.elim | skip
  cases rd; cases re
  exact ⟨_, _, rfl, rfl, h _ PN H (Ev.here p z .int)⟩
theorem RepL.rep {K : PySem.W.Frag} {PN : Pn} {H : Hp} {Z : Addr → Prop} {vs : List V} {ds : List D} (r : RepL K PN H Z vs ds []) : ∀ k : Nat, RepL K PN H Z (List.replicate k vs).flatten (List.replicate k ds).flatten []
  | 0 => .nil
  | k + 1 => by
    rw [List.replicate_succ, List.replicate_succ, List.flatten_cons, List.flatten_cons]
    exact RepL.append (f := []) r (RepL.rep r k)
theorem Rep.lstS {K : PySem.W.Frag} {PN : Pn} {H : Hp} {Z : Addr → Prop} {v : V} {b : Bool} {ds : List D} (r : Rep K PN H Z v (.lst b ds) []) : ∃ a xs, v = .ref a ∧ H a = some (.lst xs) ∧ RepL K PN H Z xs ds [] := by
  generalize hf : ([] : List Addr) = f at r
  cases r with
  | shr h z r => exact ⟨_, _, rfl, h, hf ▸ r⟩
  | own h r => cases hf
theorem natAbs_log (n : Nat) (i : Int) (h0 : 0 < n) (h : smallI n i) : i.natAbs.log2 < n := PySem.Flt.log2_lt_of h0 h.lt
theorem o_mul : OpR X (binaryOp .Mult) (r2 X.K dMul) := or2 _ ((op_mulW (X := X)).or (op_rep.or (op_repT.or op_rep1))) fun x y H Q h => by
  obtain ⟨PN, n, Z, d, e, rd, re, z, p, h⟩ := h
  cases e <;> first | (cases d <;> exact h.elim) | skip
  rename_i j
  cases re
  cases d <;> first | exact h.elim | skip
  · rename_i i
    cases rd
    unfold dMul at h
    dsimp only at h
    split at h
    · rename_i hj
      refine .inl ⟨_, _, rfl, rfl, ?_, h _ PN H (Ev.here p z .int)⟩
      have a1 := natAbs_log mulLine i (by decide) hj.1
      have a2 := natAbs_log mulLine j (by decide) hj.2
      have a3 : mulLine = 400000 := rfl
      show i.natAbs.log2 + j.natAbs.log2 < 1000000
      omega
    · exact h.elim
  · rename_i ds
    unfold dMul at h
    dsimp only at h
    split at h
    · rename_i hj
      cases rd with
      | tup h1 r =>
        rename_i a vs
        have hl := r.length
        have hne : vs ≠ [] := fun e => by
          rw [e] at hl
          have := hj.1
          rw [← hl] at this
          exact absurd this (by decide)
        by_cases h2 : 2 ≤ j
        · exact .inr (.inr (.inl ⟨a, _, vs, rfl, rfl, h1, hne, h2, hj.2.2.1, by rw [hl]; exact hj.2.2.2, fun q nq => h _ PN _ (Ev.tup nq p z (RepL.rep r _))⟩))
        · have e1 : j = 1 := by omega
          subst e1
          refine .inr (.inr (.inr ⟨a, _, vs, rfl, rfl, h1, hne, rfl, ?_⟩))
          have e2 : (List.replicate (1 : Int).toNat ds).flatten = ds := by simp
          rw [e2] at h
          exact h _ PN H (Ev.here p z (.tup h1 r))
    · exact h.elim
  · rename_i b ds
    unfold dMul at h
    dsimp only at h
    split at h
    · rename_i hj
      obtain ⟨a, xs, rfl, hh, r⟩ := Rep.lstS rd
      have hl := r.length
      exact .inr (.inl ⟨_, _, _, rfl, rfl, hh, hj.1, hj.2.1, by rw [hl]; exact hj.2.2, fun q nq => h _ PN _ (Ev.lst nq p z (RepL.rep r _))⟩)
    · exact h.elim
theorem o_add : OpR X (binaryOp .Add) (r2 X.K dAdd) := or2 _ ((op_add (X := X)).or (op_catA.or (op_cat.or op_add_str))) fun x y H Q h => by
  obtain ⟨PN, n, Z, d, e, rd, re, z, p, h⟩ := h
  cases d <;> first | exact h.elim | skip
  · cases e <;> first | exact h.elim | skip
    cases rd; cases re
    exact .inl ⟨_, _, rfl, rfl, h _ PN H (Ev.here p z .int)⟩
  · cases e <;> first | exact h.elim | skip
    cases rd; cases re
    unfold dAdd at h
    dsimp only at h
    split at h
    · rename_i hl
      exact .inr (.inr (.inr ⟨_, _, rfl, rfl, hl, h _ PN H (Ev.here p z .str)⟩))
    · exact h.elim
  · cases e <;> first | exact h.elim | skip
    cases rd with
    | tup h1 r1 =>
      cases re with
      | tup h2 r2 =>
        unfold dAdd at h
        dsimp only at h
        split at h
        · rename_i hl
          have l1 := r1.length
          have l2 := r2.length
          refine .inr (.inl ⟨_, _, _, _, rfl, rfl, h1, h2, by omega, fun ex => ?_, fun _ ey => ?_, fun _ _ q nq => h _ PN _ (Ev.tup nq p z (RepL.append (f := []) r1 r2))⟩)
          · subst ex
            cases r1
            exact h _ PN H (Ev.here p z (.tup h2 r2))
          · subst ey
            cases r2
            rw [List.append_nil] at h
            exact h _ PN H (Ev.here p z (.tup h1 r1))
        · exact h.elim
  · cases e <;> first | exact h.elim | skip
    unfold dAdd at h
    dsimp only at h
    split at h
    · rename_i hl
      obtain ⟨a, xs, rfl, h1, r1⟩ := Rep.lstS rd
      obtain ⟨b, ys, rfl, h2, r2⟩ := Rep.lstS re
      have l1 := r1.length
      have l2 := r2.length
      exact .inr (.inr (.inl ⟨_, _, _, _, rfl, rfl, h1, h2, by omega, fun q nq => h _ PN _ (Ev.lst nq p z (RepL.append (f := []) r1 r2))⟩))
    · exact h.elim
theorem o_div : OpR X (binaryOp .FloorDiv) (r2 X.K dDiv) := or2 _ op_fdivW fun x y H Q h => by
  obtain ⟨PN, n, Z, d, e, rd, re, z, p, h⟩ := h
  cases d <;> first | exact h.elim | skip
  cases e <;> first | exact h.elim | skip
  cases rd; cases re
  unfold dDiv at h
  dsimp only at h
  split at h
  · rename_i hj
    exact ⟨_, _, rfl, rfl, ⟨hj.1, Nat.lt_of_lt_of_le (natAbs_log _ _ (by decide) hj.2) (by decide)⟩, h _ PN H (Ev.here p z .int)⟩
  · exact h.elim
theorem o_mod : OpR X (binaryOp .Mod) (r2 X.K dMod) := or2 _ op_modN fun x y H Q h => by
  obtain ⟨PN, n, Z, d, e, rd, re, z, p, h⟩ := h
  cases d <;> first | exact h.elim | skip
  cases e <;> first | exact h.elim | skip
  cases rd; cases re
  unfold dMod at h
  dsimp only at h
  split at h
  · rename_i hj
    exact ⟨_, _, rfl, rfl, hj, h _ PN H (Ev.here p z .int)⟩
  · exact h.elim
theorem o_pow : OpR X (binaryOp .Pow) (r2 X.K dPow) := or2 _ op_pow fun x y H Q h => by
  obtain ⟨PN, n, Z, d, e, rd, re, z, p, h⟩ := h
  cases d <;> first | exact h.elim | skip
  cases e <;> first | exact h.elim | skip
  cases rd; cases re
  unfold dPow at h
  dsimp only at h
  split at h
  · rename_i hj
    exact ⟨_, _, rfl, rfl, ⟨hj.1, by omega, hj.2.2.lt⟩, h _ PN H (Ev.here p z .int)⟩
  · exact h.elim
theorem o_cmp {op : CmpOp} {q : Int → Int → Bool} (ho : OpR X (compareOp op) (rI0 fun i j => .bl (q i j))) : OpR X (compareOp op) (r2 X.K (dCmp q)) := or2 _ ho fun x y H Q h => by
  obtain ⟨PN, n, Z, d, e, rd, re, z, p, h⟩ := h
  cases d <;> first | exact h.elim | skip
  cases e <;> first | exact h.elim | skip
  cases rd; cases re
  exact ⟨_, _, rfl, rfl, h _ PN H (Ev.here p z .bl)⟩
theorem o_lt : OpR X (compareOp .Lt) (r2 X.K dLt) := o_cmp op_lt
theorem o_le : OpR X (compareOp .LtE) (r2 X.K dLe) := o_cmp op_le
theorem o_gt : OpR X (compareOp .Gt) (r2 X.K dGt) := o_cmp op_gt
theorem o_ge : OpR X (compareOp .GtE) (r2 X.K dGe) := o_cmp op_ge
theorem okD_and {d e : D} (h : (okD d && okD e) = true) : (plainD d = true ∧ SeqAt.shaped (pyD d) = true) ∧ plainD e = true ∧ SeqAt.shaped (pyD e) = true := by
  simpa [okD] using h
theorem scalD_some {K : PySem.W.Frag} {PN : Pn} {H : Hp} {Z : Addr → Prop} {x y : V} {d e : D} {f g : List Addr} {b : Bool} (h : scalD d e = some b) (rd : Rep K PN H Z x d f) (re : Rep K PN H Z y e g) : scal x y = true ∧ decide (x = y) = b := by
  cases d <;> cases e <;> first | cases h | skip
  all_goals (cases rd; cases re; exact ⟨rfl, by simp⟩)
theorem o_eq (hu : X.A.units + 64 < cLine) : OpR X (compareOp .Eq) (r2 X.K dEq) := or2 _ ((op_eq (X := X)).or (op_eqD hu)) fun x y H Q h => by
  obtain ⟨PN, n, Z, d, e, rd, re, z, p, h⟩ := h
  unfold dEq at h
  split at h
  · rename_i b hb
    obtain ⟨h1, h2⟩ := scalD_some hb rd re
    exact .inl ⟨h1, by rw [h2]; exact h _ PN H (Ev.here p z .bl)⟩
  split at h
  · rename_i hk
    obtain ⟨⟨a1, a2⟩, b1, b2⟩ := okD_and hk
    exact .inr ⟨_, _, rd.dp _ a1, re.dp _ b1, a2, b2, h _ PN H (Ev.here p z .bl)⟩
  · exact h.elim
theorem o_ne (hu : X.A.units + 64 < cLine) : OpR X (compareOp .NotEq) (r2 X.K dNe) := or2 _ ((op_ne (X := X)).or (op_neD hu)) fun x y H Q h => by
  obtain ⟨PN, n, Z, d, e, rd, re, z, p, h⟩ := h
  unfold dNe at h
  split at h
  · rename_i b hb
    obtain ⟨h1, h2⟩ := scalD_some hb rd re
    exact .inl ⟨h1, by rw [h2]; exact h _ PN H (Ev.here p z .bl)⟩
  split at h
  · rename_i hk
    obtain ⟨⟨a1, a2⟩, b1, b2⟩ := okD_and hk
    exact .inr ⟨_, _, rd.dp _ a1, re.dp _ b1, a2, b2, h _ PN H (Ev.here p z .bl)⟩
  · exact h.elim
theorem Rep.non_iff {K : PySem.W.Frag} {PN : Pn} {H : Hp} {Z : Addr → Prop} {v : V} {d : D} {fp : List Addr} (r : Rep K PN H Z v d fp) : decide (v = .non) = isNon d := by
  cases r <;> rfl
theorem o_is : OpR X (compareOp .Is) (r2 X.K dIs) := or2 _ op_isN fun x y H Q h => by
  obtain ⟨PN, n, Z, d, e, rd, re, z, p, h⟩ := h
  cases e <;> first | exact h.elim | skip
  cases re
  exact ⟨rfl, by rw [rd.non_iff]; exact h _ PN H (Ev.here p z .bl)⟩
theorem o_isnot : OpR X (compareOp .IsNot) (r2 X.K dIsNot) := or2 _ op_notN fun x y H Q h => by
  obtain ⟨PN, n, Z, d, e, rd, re, z, p, h⟩ := h
  cases e <;> first | exact h.elim | skip
  cases re
  exact ⟨rfl, by rw [rd.non_iff]; exact h _ PN H (Ev.here p z .bl)⟩
theorem pyDL_any {d : PyData} : ∀ ds : List D, ((pyDL ds).any fun z => PyData.eqv z d) = ds.any fun z => PyData.eqv (pyD z) d
  | [] => rfl
  | e :: ds => by simp [pyDL, pyDL_any ds]
theorem o_in (hu : X.A.units + 65 < cLine) : OpR X (compareOp .In) (r2 X.K dIn) := or2 _ (op_inD hu) fun x y H Q h => by
  obtain ⟨PN, n, Z, d, e, rd, re, z, p, h⟩ := h
  cases e <;> first | exact h.elim | skip
  rename_i b ds
  have re : Rep X.K PN H Z y (.lst b ds) [] := re
  unfold dIn at h
  dsimp only at h
  split at h
  · rename_i hk
    obtain ⟨⟨a1, a2⟩, b1, b2⟩ := okD_and hk
    exact ⟨_, _, rd.dp _ a1, (show Dp X.K H y (pyD (.lst true ds)) from (re.dp _ b1 : Dp X.K H y (pyD (.lst b ds)))), a2, b2, by rw [pyDL_any]; exact h _ PN H (Ev.here p z .bl)⟩
  · exact h.elim
theorem o_notin (hu : X.A.units + 65 < cLine) : OpR X (compareOp .NotIn) (r2 X.K dNotIn) := or2 _ (op_notInD hu) fun x y H Q h => by
  obtain ⟨PN, n, Z, d, e, rd, re, z, p, h⟩ := h
  cases e <;> first | exact h.elim | skip
  rename_i b ds
  unfold dNotIn at h
  dsimp only at h
  split at h
  · rename_i hk
    obtain ⟨⟨a1, a2⟩, b1, b2⟩ := okD_and hk
    exact ⟨_, _, rd.dp _ a1, (show Dp X.K H y (pyD (.lst true ds)) from (re.dp _ b1 : Dp X.K H y (pyD (.lst b ds)))), a2, b2, by rw [pyDL_any]; exact h _ PN H (Ev.here p z .bl)⟩
  · exact h.elim
theorem u_neg : UnR X (unaryOp .USub) (r1 X.K dNeg) := fun pins s σ H x v Q I rx h => un_neg pins s σ H x v Q I rx (by
  obtain ⟨PN, n, Z, d, rd, z, p, h⟩ := h
  cases d <;> first | exact h.elim | skip
  cases rd
  exact ⟨_, rfl, h _ PN H (Ev.here p z .int)⟩)

/-! ## subscripts -/
def dIx : D → D → Comp D
  | .tup xs, .int i => match atI xs i with
    | some d => .ret d
    | none => .stuck
  | .lst _ xs, .int i => match atI xs i with
    | some d => .ret d
    | none => .stuck
  | _, _ => .stuck
theorem q_ix (d e : D) : (dIx d e).quiet := by unfold dIx; walk_at "quiet"
theorem RepL.atI {K : PySem.W.Frag} {PN : Pn} {H : Hp} {Z : Addr → Prop} {vs : List V} {ds : List D} {i : Int} {d : D} (r : RepL K PN H Z vs ds []) (h : L2.atI ds i = some d) : ∃ v, L2.atI vs i = some v ∧ Rep K PN H Z v d [] := by
  unfold L2.atI at h ⊢
  rw [r.length]
  cases e : ixN ds.length i with
  | none => rw [e] at h; cases h
  | some j =>
    rw [e] at h
    exact r.get rfl h
theorem ixW {r : R2} (w : R2) (h : IxR X w) (k : ∀ x y H Q, r x y H Q → w x y H Q) : IxR X r := fun b1 b2 pins s σ H x y v u Q I rx ry q hs => h b1 b2 pins s σ H x y v u Q I rx ry (k x y H Q q) hs
theorem x_ix : IxR X (r2 X.K dIx) := ixW _ (ix_list.or ix_tup) fun x y H Q h => by
  obtain ⟨PN, n, Z, d, e, rd, re, z, p, h⟩ := h
  cases e <;> first | (cases d <;> exact h.elim) | skip
  cases re
  cases d <;> first | exact h.elim | skip
  · unfold dIx at h
    dsimp only at h
    split at h
    · rename_i d' e
      cases rd with
      | tup h1 r =>
        obtain ⟨v, h2, h3⟩ := RepL.atI r e
        exact .inr ⟨_, _, _, v, rfl, rfl, h1, h2, h _ PN H (Ev.here p z h3)⟩
    · exact h.elim
  · unfold dIx at h
    dsimp only at h
    split at h
    · rename_i d' e
      obtain ⟨a, xs, rfl, hh, r⟩ := Rep.lstS rd
      obtain ⟨v, h2, h3⟩ := RepL.atI r e
      exact .inl ⟨_, _, _, v, rfl, rfl, SqL.of hh, h2, h _ PN H (Ev.here p z h3)⟩
    · exact h.elim
def cutD (xs : List D) (lo hi : Option Int) : List D := (xs.drop (HT.sIx xs.length 0 lo)).take (HT.sIx xs.length xs.length hi - HT.sIx xs.length 0 lo)
theorem RepL.cut {K : PySem.W.Frag} {PN : Pn} {H : Hp} {Z : Addr → Prop} {vs : List V} {ds : List D} (r : RepL K PN H Z vs ds []) (lo hi : Option Int) : RepL K PN H Z (cutV vs lo hi) (cutD ds lo hi) [] := by
  unfold cutV cutD
  rw [r.length]
  exact RepL.take _ (RepL.drop _ r rfl) rfl
theorem RepL.intsM {K : PySem.W.Frag} {PN : Pn} {H : Hp} {Z : Addr → Prop} : ∀ ns : List Int, RepL K PN H Z (ns.map V.int) (ns.map D.int) []
  | [] => .nil
  | _ :: ns => .cons (f := []) .int (RepL.intsM ns)
def dSl : D → Option Int → Option Int → Comp D
  | .tup xs, lo, hi => .ret (.tup (cutD xs lo hi))
  | .lst _ xs, lo, hi => .ret (.lst true (cutD xs lo hi))
  | .scr ns, lo, hi => .ret (.lst true (cutD (ns.map D.int) lo hi))
  | _, _, _ => .stuck
theorem q_sl (d : D) (lo hi : Option Int) : (dSl d lo hi).quiet := by unfold dSl; walk_at "quiet"
theorem slW {r : V → Option Int → Option Int → Hp → VK → Prop} (w : V → Option Int → Option Int → Hp → VK → Prop) (h : SlR X w) (k : ∀ x lo hi H Q, r x lo hi H Q → w x lo hi H Q) : SlR X r := fun a1 a2 a3 H x a6 a7 a8 lo hi a11 Q I rx hs pl pu q => h a1 a2 a3 H x a6 a7 a8 lo hi a11 Q I rx hs pl pu (k x lo hi H Q q)
theorem cutD_whole {xs : List D} {lo hi : Option Int} (h1 : HT.sIx xs.length 0 lo = 0) (h2 : HT.sIx xs.length xs.length hi = xs.length) : cutD xs lo hi = xs := by
  unfold cutD
  rw [h1, h2]
  simp
theorem s_sl : SlR X (rSl X.K dSl) := slW _ (sl_list.or sl_tupA) fun x lo hi H Q h => by
  obtain ⟨PN, n, Z, d, rd, z, p, h⟩ := h
  cases d <;> first | exact h.elim | skip
  · rename_i ds
    cases rd with
    | tup h1 r =>
      refine .inr ⟨_, _, rfl, h1, fun ⟨e1, e2⟩ => ?_, fun _ q nq => h _ PN _ (Ev.tup nq p z (r.cut lo hi))⟩
      have hl := r.length
      rw [hl] at e1 e2
      have hw : cutD ds lo hi = ds := cutD_whole e1 e2
      have h' : ∀ v PN' H', Ev X.K PN H Z n v (.tup (cutD ds lo hi)) PN' H' → Q v H' := h
      rw [hw] at h'
      exact h' _ PN H (Ev.here p z (.tup h1 r))
  · obtain ⟨a, xs, rfl, hh, r⟩ := Rep.lstS rd
    exact .inl ⟨_, _, rfl, SqL.of hh, fun q nq => h _ PN _ (Ev.lst nq p z (r.cut lo hi))⟩
  · rename_i ns
    cases rd with
    | scr hh => exact .inl ⟨_, _, rfl, hh.sq, fun q nq => h _ PN _ (Ev.lst nq p z ((RepL.intsM ns).cut lo hi))⟩

/-! ## built-ins -/
def gLen : List D → Comp D
  | [.tup xs] => .ret (.int xs.length)
  | [.lst _ xs] => .ret (.int xs.length)
  | [.str x] => if x.length ≤ sizeLine then .ret (.int x.length) else .stuck
  | _ => .stuck
def gInt : List D → Comp D
  | [.int i] => .ret (.int i)
  | [.bl b] => .ret (.int (if b then 1 else 0))
  | _ => .stuck
def gList : List D → Comp D
  | [.tup xs] => .ret (.lst true xs)
  | [.lst _ xs] => .ret (.lst true xs)
  | _ => .stuck
def gTuple : List D → Comp D
  | [.tup xs] => .ret (.tup xs)
  | [.lst _ xs] => .ret (.tup xs)
  | _ => .stuck
def gAbs : List D → Comp D
  | [.int i] => .ret (.int (if i < 0 then -i else i))
  | _ => .stuck
def intsOf : List D → Option (List Int)
  | [] => some []
  | .int i :: ds => (intsOf ds).map (i :: ·)
  | _ :: _ => none
def blsOf : List D → Option (List Bool)
  | [] => some []
  | .bl i :: ds => (blsOf ds).map (i :: ·)
  | _ :: _ => none
def gSum : List D → Comp D
  | [.lst _ xs] => match intsOf xs with
    | some ns => .ret (.int ns.sum)
    | none => .stuck
  | [.tup xs] => match intsOf xs with
    | some ns => .ret (.int ns.sum)
    | none => .stuck
  | _ => .stuck
def gAll : List D → Comp D
  | [.lst _ xs] => match blsOf xs with
    | some bs => .ret (.bl (bs.all id))
    | none => .stuck
  | _ => .stuck
def gAnyB : List D → Comp D
  | [.lst _ xs] => match blsOf xs with
    | some bs => .ret (.bl (bs.any id))
    | none => .stuck
  | _ => .stuck
def minL : List Int → Int
  | [] => 0
  | [a] => a
  | a :: b :: r => min a (minL (b :: r))
def maxL : List Int → Int
  | [] => 0
  | [a] => a
  | a :: b :: r => max a (maxL (b :: r))
def gMin : List D → Comp D
  | [.lst _ xs] => match intsOf xs with
    | some ns => if 0 < ns.length then .ret (.int (minL ns)) else .stuck
    | none => .stuck
  | [.tup xs] => match intsOf xs with
    | some ns => if 0 < ns.length then .ret (.int (minL ns)) else .stuck
    | none => .stuck
  | [.int i, .int j] => .ret (.int (if j < i then j else i))
  | _ => .stuck
def gMax : List D → Comp D
  | [.lst _ xs] => match intsOf xs with
    | some ns => if 0 < ns.length then .ret (.int (maxL ns)) else .stuck
    | none => .stuck
  | [.tup xs] => match intsOf xs with
    | some ns => if 0 < ns.length then .ret (.int (maxL ns)) else .stuck
    | none => .stuck
  | [.int i, .int j] => .ret (.int (if j > i then j else i))
  | _ => .stuck
def gRepr : List D → Comp D
  | [d] => if okD d && (pyD d).showable && decide ((pyD d).shown.length ≤ sizeLine) then .ret (.str (pyD d).shown) else .stuck
  | _ => .stuck
theorem q_len (d : List D) : (gLen d).quiet := by unfold gLen; walk_at "quiet"
theorem q_int (d : List D) : (gInt d).quiet := by unfold gInt; walk_at "quiet"
theorem q_list (d : List D) : (gList d).quiet := by unfold gList; walk_at "quiet"
theorem q_tuple (d : List D) : (gTuple d).quiet := by unfold gTuple; walk_at "quiet"
theorem q_abs (d : List D) : (gAbs d).quiet := by unfold gAbs; walk_at "quiet"
theorem q_sum (d : List D) : (gSum d).quiet := by unfold gSum; walk_at "quiet"
theorem q_all (d : List D) : (gAll d).quiet := by unfold gAll; walk_at "quiet"
theorem q_any (d : List D) : (gAnyB d).quiet := by unfold gAnyB; walk_at "quiet"
theorem q_min (d : List D) : (gMin d).quiet := by unfold gMin; walk_at "quiet"
theorem q_max (d : List D) : (gMax d).quiet := by unfold gMax; walk_at "quiet"
theorem q_repr (d : List D) : (gRepr d).quiet := by unfold gRepr; walk_at "quiet"
theorem clW {f : Value} {r : List V → Hp → VK → Prop} (w : List V → Hp → VK → Prop) (h : CallR X f w) (k : ∀ xs H Q, r xs H Q → w xs H Q) : CallR X f r := fun pins s σ H xs us Q I rx q => h pins s σ H xs us Q I rx (k xs H Q q)
/-- one argument -/
theorem one_of {K : PySem.W.Frag} {g : List D → Comp D} {xs : List V} {H : Hp} {Q : VK} (h : rN K g xs H Q) (h1 : ∀ ds, (∀ d, ds ≠ [d]) → g ds = .stuck) : ∃ x PN n Z d, xs = [x] ∧ Rep K PN H Z x d [] ∧ Zk PN Z H ∧ Pens PN n H ∧
    (g [d]).all (fun m r => ∀ v PN' H', Ev K PN H Z m v r PN' H' → Q v H') (fun _ _ _ => False) n := by
  obtain ⟨PN, n, Z, ds, r, z, p, h⟩ := h
  by_cases e : ∃ d, ds = [d]
  · obtain ⟨d, rfl⟩ := e
    obtain ⟨v, us, rfl, r1, r2⟩ := r.inv rfl
    obtain rfl := r2.inv0
    exact ⟨v, PN, n, Z, d, rfl, r1, z, p, h⟩
  · rw [h1 ds fun d q => e ⟨d, q⟩] at h
    exact h.elim
local macro_rules | `(tactic| walk_at "one") => `(tactic| (intro ds hd; rcases ds with _ | ⟨d, _ | ⟨e, ds⟩⟩; rfl; exact absurd rfl (hd d); (first | rfl | (cases d <;> rfl))))
theorem c_len : CallR X (.builtin "len") (rN X.K gLen) := clW _ (call_len_seq.or call_len_str) fun xs H Q h => by
  have h0 := one_of h (by walk_at "one")
  clear h
  obtain ⟨x, PN, n, Z, d, rfl, r, z, p, h⟩ := h0
  cases d <;> first | exact h.elim | skip
  · cases r
    unfold gLen at h
    dsimp only at h
    split at h
    · rename_i hl
      exact .inr ⟨_, rfl, hl, h _ PN H (Ev.here p z .int)⟩
    · exact h.elim
  · cases r with
    | tup h1 r => exact .inl ⟨_, _, rfl, .inr h1, by rw [r.length]; exact h _ PN H (Ev.here p z .int)⟩
  · obtain ⟨a, xs, rfl, hh, r⟩ := Rep.lstS r
    exact .inl ⟨_, _, rfl, .inl (SqL.of hh), by rw [r.length]; exact h _ PN H (Ev.here p z .int)⟩
theorem c_int : CallR X (.type "int") (rN X.K gInt) := clW _ call_int1 fun xs H Q h => by
  have h0 := one_of h (by walk_at "one")
  clear h
  obtain ⟨x, PN, n, Z, d, rfl, r, z, p, h⟩ := h0
  cases d <;> first | exact h.elim | skip
  · cases r
    exact .inr ⟨_, rfl, h _ PN H (Ev.here p z .int)⟩
  · cases r
    exact .inl ⟨_, rfl, h _ PN H (Ev.here p z .int)⟩
theorem c_list : CallR X (.type "list") (rN X.K gList) := clW _ call_list_of fun xs H Q h => by
  have h0 := one_of h (by walk_at "one")
  clear h
  obtain ⟨x, PN, n, Z, d, rfl, r, z, p, h⟩ := h0
  cases d <;> first | exact h.elim | skip
  · cases r with
    | tup h1 r => exact ⟨_, _, rfl, .inr h1, fun l hl => h _ PN _ (Ev.lst hl p z r)⟩
  · obtain ⟨a, xs, rfl, hh, r⟩ := Rep.lstS r
    exact ⟨_, _, rfl, .inl (SqL.of hh), fun l hl => h _ PN _ (Ev.lst hl p z r)⟩
theorem c_tuple : CallR X (.type "tuple") (rN X.K gTuple) := clW _ call_tuple_of fun xs H Q h => by
  have h0 := one_of h (by walk_at "one")
  clear h
  obtain ⟨x, PN, n, Z, d, rfl, r, z, p, h⟩ := h0
  cases d <;> first | exact h.elim | skip
  · cases r with
    | tup h1 r => exact ⟨_, _, rfl, .inr ⟨h1, h _ PN H (Ev.here p z (.tup h1 r))⟩⟩
  · obtain ⟨a, xs, rfl, hh, r⟩ := Rep.lstS r
    exact ⟨_, _, rfl, .inl ⟨SqL.of hh, fun l hl => h _ PN _ (Ev.tup hl p z r)⟩⟩
theorem c_abs : CallR X (.builtin "abs") (rN X.K gAbs) := clW _ call_abs fun xs H Q h => by
  have h0 := one_of h (by walk_at "one")
  clear h
  obtain ⟨x, PN, n, Z, d, rfl, r, z, p, h⟩ := h0
  cases d <;> first | exact h.elim | skip
  cases r
  exact ⟨_, rfl, h _ PN H (Ev.here p z .int)⟩
theorem RepL.ints {K : PySem.W.Frag} {PN : Pn} {H : Hp} {Z : Addr → Prop} : ∀ {vs : List V} {ds : List D} {ns : List Int} {fp : List Addr}, RepL K PN H Z vs ds fp → intsOf ds = some ns → vs = ns.map V.int
  | _, _, ns, _, .nil, h => by
    cases h
    rfl
  | _, _, ns, _, .cons (d := d) (ds := ds) r q, h => by
    cases d <;> first | (cases h; done) | skip
    rename_i i
    have h' : (intsOf ds).map (i :: ·) = some ns := h
    cases e : intsOf ds with
    | none => rw [e] at h'; cases h'
    | some ms =>
      rw [e] at h'
      cases h'
      cases r
      rw [RepL.ints q e]
      rfl
theorem RepL.bls {K : PySem.W.Frag} {PN : Pn} {H : Hp} {Z : Addr → Prop} : ∀ {vs : List V} {ds : List D} {ns : List Bool} {fp : List Addr}, RepL K PN H Z vs ds fp → blsOf ds = some ns → vs = ns.map V.bl
  | _, _, ns, _, .nil, h => by
    cases h
    rfl
  | _, _, ns, _, .cons (d := d) (ds := ds) r q, h => by
    cases d <;> first | (cases h; done) | skip
    rename_i i
    have h' : (blsOf ds).map (i :: ·) = some ns := h
    cases e : blsOf ds with
    | none => rw [e] at h'; cases h'
    | some ms =>
      rw [e] at h'
      cases h'
      cases r
      rw [RepL.bls q e]
      rfl
theorem c_all (hc : X.calm = true) : CallR X (.builtin "all") (rN X.K gAll) := clW _ (cr_all hc) fun xs H Q h => by
  have h0 := one_of h (by walk_at "one")
  clear h
  obtain ⟨x, PN, n, Z, d, rfl, r, z, p, h⟩ := h0
  cases d <;> first | exact h.elim | skip
  unfold gAll at h
  dsimp only at h
  split at h
  · rename_i bs e
    obtain ⟨a, xs, rfl, hh, r⟩ := Rep.lstS r
    have ex := RepL.bls r e
    subst ex
    exact ⟨_, _, rfl, SqL.of hh, h _ PN H (Ev.here p z .bl)⟩
  · exact h.elim
theorem c_any (hc : X.calm = true) : CallR X (.builtin "any") (rN X.K gAnyB) := clW _ (cr_any hc) fun xs H Q h => by
  have h0 := one_of h (by walk_at "one")
  clear h
  obtain ⟨x, PN, n, Z, d, rfl, r, z, p, h⟩ := h0
  cases d <;> first | exact h.elim | skip
  unfold gAnyB at h
  dsimp only at h
  split at h
  · rename_i bs e
    obtain ⟨a, xs, rfl, hh, r⟩ := Rep.lstS r
    have ex := RepL.bls r e
    subst ex
    exact ⟨_, _, rfl, SqL.of hh, h _ PN H (Ev.here p z .bl)⟩
  · exact h.elim
end
end Mid

namespace Mid
open PySem PySem.Spec PyProof.Rows L2

/-! ## min, max, sum of a tuple of ints -/
section
variable {prog : Program} {w : World} {A : Around} {E : Value → Shared → Prop} {s : Shared} {l : Addr} {its : List Value} {ns : List Int} {Q : Value → Shared → Prop}
theorem IntsAre.at : ∀ {its : List Value} {ns : List Int}, IntsAre its ns → ∀ {i : Nat} {v : Value}, its[i]? = some v → ∃ t, v = .int (ns.getD i 0) t
  | _, _, .nil, _, _, h => by simp at h
  | _, _, .cons n t r, 0, v, h => by
    simp at h
    exact ⟨t, by simp [h]⟩
  | _, _, .cons n t r, i + 1, v, h => by
    obtain ⟨u, e⟩ := IntsAre.at r (i := i) (by simpa using h)
    exact ⟨u, by simpa using e⟩
theorem min_tup (hh : A.handled = none) (ht : s.heap.IsTuple l its.toArray) (hi : IntsAre its ns) (hne : 0 < ns.length)
    (h : ∀ h' tk M t', (∀ b o, s.heap.get? b = some o → h'.get? b = some o) → M ∈ ns → (∀ a, a ∈ ns → M ≤ a) → Q (.int M t') { s with heap := h', toks := tk }) : wpAny (model prog w) A (call (.builtin "min") [.ref l]) Q E s := by
  have hl := hi.length
  have ll : l < s.heap.objs.size := by obtain ⟨o, e, _⟩ := ht; exact Heap.lt_size e
  refine call_min_walk (wpAny_pyIter_tuple ht ?_)
  refine ⟨s.heap.objs.size, _, _, _, _, _, _, rfl, Walks.tuple (A := A.in1) hh _ l (Nat.ne_of_lt ll) its.toArray, ⟨⟨_, Heap.get?_push_size _ rfl, rfl, rfl⟩, ht.push _⟩, fun b hb => ?_, by simp; omega, CmpOf.ints_lt (fun i => ns.getD i 0) (fun i v hv => IntsAre.at hi (by simpa using hv)), fun v h' tk hP hk => ?_⟩
  · rw [Heap.size_push]
    rcases (show b = s.heap.objs.size ∨ b = l by simpa using hb) with z | z
    · rw [z]; exact Nat.lt_succ_self _
    · rw [z]; exact Nat.lt_succ_of_lt ll
  · obtain ⟨h1, h2⟩ := argBest_lt (fun i => ns.getD i 0) (its.toArray.size - 1)
    have hsz : its.toArray.size = ns.length := by simp; omega
    obtain ⟨t, e⟩ := IntsAre.at hi (show its[_]? = some v by simpa using hP)
    subst e
    refine h h' tk _ t (fun b o e => hk b o (fun q => absurd (Heap.lt_size e) (by rw [List.mem_singleton.mp q]; exact Nat.lt_irrefl _)) (Heap.get?_push_of_some _ e)) (PySem.getD_mem (Nat.lt_of_le_of_lt h1 (by rw [hsz]; omega))) fun a ha => ?_
    obtain ⟨j, hj, rfl⟩ := mem_getD ha
    exact h2 j (by rw [hsz]; omega)
theorem max_tup (hh : A.handled = none) (ht : s.heap.IsTuple l its.toArray) (hi : IntsAre its ns) (hne : 0 < ns.length)
    (h : ∀ h' tk M t', (∀ b o, s.heap.get? b = some o → h'.get? b = some o) → M ∈ ns → (∀ a, a ∈ ns → a ≤ M) → Q (.int M t') { s with heap := h', toks := tk }) : wpAny (model prog w) A (call (.builtin "max") [.ref l]) Q E s := by
  have hl := hi.length
  have ll : l < s.heap.objs.size := by obtain ⟨o, e, _⟩ := ht; exact Heap.lt_size e
  refine call_max_walk (wpAny_pyIter_tuple ht ?_)
  refine ⟨s.heap.objs.size, _, _, _, _, _, _, rfl, Walks.tuple (A := A.in1) hh _ l (Nat.ne_of_lt ll) its.toArray, ⟨⟨_, Heap.get?_push_size _ rfl, rfl, rfl⟩, ht.push _⟩, fun b hb => ?_, by simp; omega, CmpOf.ints_gt (fun i => ns.getD i 0) (fun i v hv => IntsAre.at hi (by simpa using hv)), fun v h' tk hP hk => ?_⟩
  · rw [Heap.size_push]
    rcases (show b = s.heap.objs.size ∨ b = l by simpa using hb) with z | z
    · rw [z]; exact Nat.lt_succ_self _
    · rw [z]; exact Nat.lt_succ_of_lt ll
  · obtain ⟨h1, h2⟩ := argBest_gt (fun i => ns.getD i 0) (its.toArray.size - 1)
    have hsz : its.toArray.size = ns.length := by simp; omega
    obtain ⟨t, e⟩ := IntsAre.at hi (show its[_]? = some v by simpa using hP)
    subst e
    refine h h' tk _ t (fun b o e => hk b o (fun q => absurd (Heap.lt_size e) (by rw [List.mem_singleton.mp q]; exact Nat.lt_irrefl _)) (Heap.get?_push_of_some _ e)) (PySem.getD_mem (Nat.lt_of_le_of_lt h1 (by rw [hsz]; omega))) fun a ha => ?_
    obtain ⟨j, hj, rfl⟩ := mem_getD ha
    exact h2 j (by rw [hsz]; omega)
theorem preSum_getD (ns : List Int) : ∀ j, preSum (fun i => ns.getD i 0) j = (ns.take j).sum := by
  intro j
  induction j with
  | zero => simp [preSum]
  | succ j ih =>
    simp only [preSum, ih]
    by_cases hj : j < ns.length
    · rw [List.take_add_one, List.getElem?_eq_getElem hj, List.sum_append]
      simp [List.getD, hj]
    · rw [List.take_of_length_le (by omega), List.take_of_length_le (by omega)]
      simp [List.getD, hj]
theorem sum_tup (hh : A.handled = none) (ht : s.heap.IsTuple l its.toArray) (hi : IntsAre its ns)
    (h : ∀ h' tk t', (∀ b o, s.heap.get? b = some o → h'.get? b = some o) → Q (.int ns.sum t') { s with heap := h', toks := tk }) : wpAny (model prog w) A (call (.builtin "sum") [.ref l]) Q E s := by
  have hl := hi.length
  have ll : l < s.heap.objs.size := by obtain ⟨o, e, _⟩ := ht; exact Heap.lt_size e
  refine call_sum_walkG (wpAny_pyIter_tuple ht ?_)
  refine ⟨s.heap.objs.size, _, _, _, _, _, (fun i => ns.getD i 0), rfl, Walks.tuple (A := A.in1) hh _ l (Nat.ne_of_lt ll) its.toArray, ⟨⟨_, Heap.get?_push_size _ rfl, rfl, rfl⟩, ht.push _⟩, fun b hb => ?_, (fun i v hv => IntsAre.at hi (by simpa using hv)), fun h' tk t' hk => ?_⟩
  · rw [Heap.size_push]
    rcases (show b = s.heap.objs.size ∨ b = l by simpa using hb) with z | z
    · rw [z]; exact Nat.lt_succ_self _
    · rw [z]; exact Nat.lt_succ_of_lt ll
  · have q := h h' tk t' (fun b o e => hk b o (fun q => absurd (Heap.lt_size e) (by rw [List.mem_singleton.mp q]; exact Nat.lt_irrefl _)) (Heap.get?_push_of_some _ e))
    rw [preSum_getD, List.take_of_length_le (by simp; omega)]
    exact q
end
theorem minL_mem : ∀ {ns : List Int}, 0 < ns.length → minL ns ∈ ns
  | [], h => by simp at h
  | [a], _ => by simp [minL]
  | a :: b :: r, _ => by
    have ih := minL_mem (ns := b :: r) (by simp)
    simp only [minL]
    rcases Int.le_total a (minL (b :: r)) with q | q
    · rw [Int.min_eq_left q]; exact List.mem_cons_self
    · rw [Int.min_eq_right q]; exact List.mem_cons_of_mem _ ih
theorem minL_le : ∀ {ns : List Int} {y : Int}, y ∈ ns → minL ns ≤ y
  | [a], y, h => by simp at h; simp [minL, h]
  | a :: b :: r, y, h => by
    simp only [minL]
    rcases List.mem_cons.mp h with q | q
    · rw [q]; exact Int.min_le_left _ _
    · exact Int.le_trans (Int.min_le_right _ _) (minL_le q)
theorem maxL_mem : ∀ {ns : List Int}, 0 < ns.length → maxL ns ∈ ns
  | [], h => by simp at h
  | [a], _ => by simp [maxL]
  | a :: b :: r, _ => by
    have ih := maxL_mem (ns := b :: r) (by simp)
    simp only [maxL]
    rcases Int.le_total a (maxL (b :: r)) with q | q
    · rw [Int.max_eq_right q]; exact List.mem_cons_of_mem _ ih
    · rw [Int.max_eq_left q]; exact List.mem_cons_self
theorem maxL_ge : ∀ {ns : List Int} {y : Int}, y ∈ ns → y ≤ maxL ns
  | [a], y, h => by simp at h; simp [maxL, h]
  | a :: b :: r, y, h => by
    simp only [maxL]
    rcases List.mem_cons.mp h with q | q
    · rw [q]; exact Int.le_max_left _ _
    · exact Int.le_trans (maxL_ge q) (Int.le_max_right _ _)
theorem minL_eq {ns : List Int} {m : Int} (h1 : m ∈ ns) (h2 : ∀ y, y ∈ ns → m ≤ y) : m = minL ns := by
  have h3 := minL_le h1
  have h4 := h2 _ (minL_mem (List.length_pos_of_mem h1))
  omega
theorem maxL_eq {ns : List Int} {m : Int} (h1 : m ∈ ns) (h2 : ∀ y, y ∈ ns → y ≤ m) : m = maxL ns := by
  have h3 := maxL_ge h1
  have h4 := h2 _ (maxL_mem (List.length_pos_of_mem h1))
  omega
section
variable {X : Cx}
def rTupI (K : PySem.W.Frag) (f : List Int → Int) : List V → Hp → VK → Prop := fun vs H Q => ∃ (a : Addr) (ns : List Int), vs = [V.ref a] ∧ SqT K H a (ns.map V.int) ∧ 0 < ns.length ∧ Q (.int (f ns)) H
theorem cr_minT (hc : X.calm = true) : CallR X (.builtin "min") (rTupI X.K minL) := by
  intro pins s σ H vs us Q I r h
  obtain ⟨a, ns, rfl, hs, hne, q⟩ := h
  obtain ⟨its, rv, hl, _⟩ := I.tuple hs
  rw [Vals.ref1 r]
  exact min_tup (I.ok.hd hc) (show s.heap.IsTuple a its.toArray from hl) rv.ints hne fun h' tk m t' hk h1 h2 => ⟨.int _, H, I.kept hk, ⟨_, rfl⟩, by rw [minL_eq h1 h2]; exact q⟩
theorem cr_maxT (hc : X.calm = true) : CallR X (.builtin "max") (rTupI X.K maxL) := by
  intro pins s σ H vs us Q I r h
  obtain ⟨a, ns, rfl, hs, hne, q⟩ := h
  obtain ⟨its, rv, hl, _⟩ := I.tuple hs
  rw [Vals.ref1 r]
  exact max_tup (I.ok.hd hc) (show s.heap.IsTuple a its.toArray from hl) rv.ints hne fun h' tk m t' hk h1 h2 => ⟨.int _, H, I.kept hk, ⟨_, rfl⟩, by rw [maxL_eq h1 h2]; exact q⟩
theorem cr_sumT (hc : X.calm = true) : CallR X (.builtin "sum") (fun vs H Q => ∃ (a : Addr) (ns : List Int), vs = [V.ref a] ∧ SqT X.K H a (ns.map V.int) ∧ Q (.int ns.sum) H) := by
  intro pins s σ H vs us Q I r h
  obtain ⟨a, ns, rfl, hs, q⟩ := h
  obtain ⟨its, rv, hl, _⟩ := I.tuple hs
  rw [Vals.ref1 r]
  exact sum_tup (I.ok.hd hc) (show s.heap.IsTuple a its.toArray from hl) rv.ints fun h' tk t' hk => ⟨.int _, H, I.kept hk, ⟨_, rfl⟩, q⟩
local macro_rules | `(tactic| walk_at "one") => `(tactic| (intro ds hd; rcases ds with _ | ⟨d, _ | ⟨e, ds⟩⟩; rfl; exact absurd rfl (hd d); (first | rfl | (cases d <;> rfl))))
theorem c_sum (hc : X.calm = true) : CallR X (.builtin "sum") (rN X.K gSum) := clW _ ((cr_sum hc).or (cr_sumT hc)) fun xs H Q h => by
  have h0 := one_of h (by walk_at "one")
  clear h
  obtain ⟨x, PN, n, Z, d, rfl, r, z, p, h⟩ := h0
  cases d <;> first | exact h.elim | skip
  · unfold gSum at h
    dsimp only at h
    split at h
    · rename_i ns e
      cases r with
      | tup h1 r =>
        have ex := RepL.ints r e
        subst ex
        exact .inr ⟨_, _, rfl, h1, h _ PN H (Ev.here p z .int)⟩
    · exact h.elim
  · unfold gSum at h
    dsimp only at h
    split at h
    · rename_i ns e
      obtain ⟨a, xs, rfl, hh, r⟩ := Rep.lstS r
      have ex := RepL.ints r e
      subst ex
      exact .inl ⟨_, _, rfl, SqL.of hh, h _ PN H (Ev.here p z .int)⟩
    · exact h.elim
/-- one or two arguments -/
theorem two_of {K : PySem.W.Frag} {g : List D → Comp D} {xs : List V} {H : Hp} {Q : VK} (h : rN K g xs H Q) (h1 : ∀ ds, (∀ d, ds ≠ [d]) → (∀ d e, ds ≠ [d, e]) → g ds = .stuck) : (∃ x PN n Z d, xs = [x] ∧ Rep K PN H Z x d [] ∧ Zk PN Z H ∧ Pens PN n H ∧
    (g [d]).all (fun m r => ∀ v PN' H', Ev K PN H Z m v r PN' H' → Q v H') (fun _ _ _ => False) n) ∨
    (∃ x y PN n Z d e, xs = [x, y] ∧ Rep K PN H Z x d [] ∧ Rep K PN H Z y e [] ∧ Zk PN Z H ∧ Pens PN n H ∧
    (g [d, e]).all (fun m r => ∀ v PN' H', Ev K PN H Z m v r PN' H' → Q v H') (fun _ _ _ => False) n) := by
  obtain ⟨PN, n, Z, ds, r, z, p, h⟩ := h
  rcases ds with _ | ⟨d, _ | ⟨e, _ | ⟨e2, ds⟩⟩⟩
  · rw [h1 [] (fun _ q => by cases q) (fun _ _ q => by cases q)] at h
    exact h.elim
  · obtain ⟨v, us, rfl, r1, r2⟩ := r.inv rfl
    obtain rfl := r2.inv0
    exact .inl ⟨v, PN, n, Z, d, rfl, r1, z, p, h⟩
  · obtain ⟨v, us, rfl, r1, r2⟩ := r.inv rfl
    obtain ⟨v2, us, rfl, r3, r4⟩ := r2.inv rfl
    obtain rfl := r4.inv0
    exact .inr ⟨v, v2, PN, n, Z, d, e, rfl, r1, r3, z, p, h⟩
  · rw [h1 _ (fun _ q => by cases q) (fun _ _ q => by cases q)] at h
    exact h.elim
local macro_rules | `(tactic| walk_at "two") => `(tactic| (intro ds hd he; rcases ds with _ | ⟨d, _ | ⟨e, _ | ⟨e2, ds⟩⟩⟩; rfl; exact absurd rfl (hd d); exact absurd rfl (he d e); (first | rfl | (cases d <;> first | rfl | (cases e <;> rfl)))))
theorem c_min (hc : X.calm = true) : CallR X (.builtin "min") (rN X.K gMin) := clW _ ((cr_min hc).or ((cr_minT hc).or (call_min2 hc))) fun xs H Q h => by
  have h0 := two_of h (by walk_at "two")
  clear h
  rcases h0 with ⟨x, PN, n, Z, d, rfl, r, z, p, h⟩ | ⟨x, y, PN, n, Z, d, e, rfl, r, r', z, p, h⟩
  · cases d <;> first | exact h.elim | skip
    · unfold gMin at h
      dsimp only at h
      split at h
      · rename_i ns e
        split at h
        · rename_i hl
          cases r with
          | tup h1 r =>
            have ex := RepL.ints r e
            subst ex
            exact .inr (.inl ⟨_, _, rfl, h1, hl, h _ PN H (Ev.here p z .int)⟩)
        · exact h.elim
      · exact h.elim
    · unfold gMin at h
      dsimp only at h
      split at h
      · rename_i ns e
        split at h
        · rename_i hl
          obtain ⟨a, xs, rfl, hh, r⟩ := Rep.lstS r
          have ex := RepL.ints r e
          subst ex
          exact .inl ⟨_, _, rfl, SqL.of hh, hl, fun m h1 h2 => by rw [minL_eq h1 h2]; exact h _ PN H (Ev.here p z .int)⟩
        · exact h.elim
      · exact h.elim
  · cases d <;> first | exact h.elim | skip
    cases e <;> first | exact h.elim | skip
    cases r
    cases r'
    exact .inr (.inr ⟨_, _, rfl, h _ PN H (Ev.here p z .int)⟩)
theorem c_max (hc : X.calm = true) : CallR X (.builtin "max") (rN X.K gMax) := clW _ ((cr_max hc).or ((cr_maxT hc).or (call_max2 hc))) fun xs H Q h => by
  have h0 := two_of h (by walk_at "two")
  clear h
  rcases h0 with ⟨x, PN, n, Z, d, rfl, r, z, p, h⟩ | ⟨x, y, PN, n, Z, d, e, rfl, r, r', z, p, h⟩
  · cases d <;> first | exact h.elim | skip
    · unfold gMax at h
      dsimp only at h
      split at h
      · rename_i ns e
        split at h
        · rename_i hl
          cases r with
          | tup h1 r =>
            have ex := RepL.ints r e
            subst ex
            exact .inr (.inl ⟨_, _, rfl, h1, hl, h _ PN H (Ev.here p z .int)⟩)
        · exact h.elim
      · exact h.elim
    · unfold gMax at h
      dsimp only at h
      split at h
      · rename_i ns e
        split at h
        · rename_i hl
          obtain ⟨a, xs, rfl, hh, r⟩ := Rep.lstS r
          have ex := RepL.ints r e
          subst ex
          exact .inl ⟨_, _, rfl, SqL.of hh, hl, fun m h1 h2 => by rw [maxL_eq h1 h2]; exact h _ PN H (Ev.here p z .int)⟩
        · exact h.elim
      · exact h.elim
  · cases d <;> first | exact h.elim | skip
    cases e <;> first | exact h.elim | skip
    cases r
    cases r'
    exact .inr (.inr ⟨_, _, rfl, h _ PN H (Ev.here p z .int)⟩)

/-! ## repr -/
theorem c_repr (hc : Calm X.A) (hu : X.A.units + 66 < cLine) : CallR X (.builtin "repr") (rN X.K gRepr) := by
  intro pins s σ H xs us Q I rx h
  have h0 := one_of h (by intro ds hd; rcases ds with _ | ⟨d, _ | ⟨e, ds⟩⟩; rfl; exact absurd rfl (hd d); rfl)
  clear h
  obtain ⟨x, PN, n, Z, d, rfl, r, z, p, h⟩ := h0
  unfold gRepr at h
  dsimp only at h
  split at h
  · rename_i hk
    obtain ⟨⟨⟨k1, k2⟩, k3⟩, k4⟩ : ((plainD d = true ∧ SeqAt.shaped (pyD d) = true) ∧ (pyD d).showable = true) ∧ (pyD d).shown.length ≤ sizeLine := by simpa [okD] using hk
    have fin : ∀ h' u tk, (∀ b o, s.heap.get? b = some o → h'.get? b = some o) → EP X pins σ Q (.str (pyD d).shown u) { s with heap := h', toks := tk } := fun h' u tk hk => ⟨.str _, H, I.kept hk, ⟨_, rfl⟩, h _ PN H (Ev.here p z .str)⟩
    obtain ⟨u, rfl, ru⟩ := vals1 rx
    have hdep := SeqAt.depth_of_shaped k2
    have hlay := SeqAt.canLay_of_shaped k2
    have same : ∀ b o, s.heap.get? b = some o → s.heap.get? b = some o := fun _ _ h => h
    cases d with
    | non => cases r; cases ru; exact PySem.P.repr_of_none (fin _ _ _ same)
    | bl b => cases r; cases ru; exact PySem.P.repr_of_bool (fin _ _ _ same)
    | int i =>
      cases r
      obtain ⟨t, rfl⟩ := ru
      have k5 : i.natAbs.log2 < 1920 := by simpa [pyD, PyData.showable] using k3
      exact PySem.P.repr_of_int k5 (fin _ _ _ same)
    | str x =>
      cases r
      obtain ⟨t, rfl⟩ := ru
      exact PySem.P.repr_of_str (fin _ _ _ same) k4
    | tup ds =>
      cases r with
      | tup h1 r =>
        cases ru
        obtain ⟨as, hr⟩ := Dp.reads I _ _ _ (Rep.dp (.tup ds) k1 (.tup h1 r)) rfl
        exact repr_of_reads' hr k3 (fun q => by rw [PyData.hasDict_of_canLay _ hlay] at q; cases q) hc (by omega) same (fun h' u tk hk => fin h' u tk hk) k4
    | lst b ds =>
      obtain ⟨a, xs, rfl, hh, _⟩ := Rep.lstS r
      cases ru
      obtain ⟨as, hr⟩ := Dp.reads I _ _ _ (Rep.dp (.lst b ds) k1 r) rfl
      exact repr_of_reads' hr k3 (fun q => by rw [PyData.hasDict_of_canLay _ hlay] at q; cases q) hc (by omega) same (fun h' u tk hk => fin h' u tk hk) k4
    | dct b ks ds => cases k1
    | pen => cases k1
    | scr ns => cases k1
  · exact h.elim
end
end Mid

namespace Mid
open PySem PySem.Spec PyProof.Rows L2

/-! ## lists of one's own, changed -/
section
variable {K : PySem.W.Frag} {B : Bs} {PN PN' : Pn} {H H' : Hp} {Z Z' : Addr → Prop} {ρ ρ' : Env} {σ σ' : L2.St} {o o' : Addr → Option Nat} {m n : Nat} {vs : List Nat}
/-- an expression's value, not yet stored -/
theorem SOk.gain (s : SOk K B PN H Z ρ σ o) (p : Pens PN n H) {v : V} {d : D} (ev : Ev K PN H (Zv Z o vs) m v d PN' H') :
    Pens PN' m H' ∧ ∃ Z' o' fp, SOk K B PN' H' Z' (upE vs d ρ) σ o' ∧ fp.Nodup ∧ (∀ a ∈ fp, B.h a = none ∧ ¬ Z' a ∧ NP PN' a ∧ H' a ≠ none ∧ ∀ j, o' a ≠ some j) ∧ Rep K PN' H' Z' v d fp := by
  obtain ⟨fp, Z1, mv, p', nd, hf, hz, r⟩ := ev
  refine ⟨p', ?_⟩
  have fr : ∀ a ∈ fp, B.h a = none ∧ NP PN' a ∧ H' a ≠ none ∧ ∀ j, o a ≠ some j := fun a ha => by
    obtain ⟨h1, h2, h3⟩ := hf a ha
    exact ⟨s.mv.keep a h1, h2, h3, fun j hj => (s.own a j hj).2.2.2 h1⟩
  unfold upE
  by_cases hn : noShr d = true
  · rw [if_pos hn]
    refine ⟨Z, o, fp, s.step p mv, nd, fun a ha => ?_, Rep.anyZ d hn r⟩
    obtain ⟨h1, h2, h3, h4⟩ := fr a ha
    exact ⟨h1, fun q => (s.zk a q).1 (hf a ha).1, h2, h3, h4⟩
  · rw [if_neg hn]
    have sf := (s.freeze vs).step p mv
    have back : ∀ a, Z1 a → Zv Z o vs a ∨ H a = none := fun a ha => (hz a ha).1
    have sg := sf.more (Z' := fun a => Zv Z o vs a ∨ Z1 a) (fun a ha => by
      rcases ha with ha | ha
      · exact sf.zk a ha
      · exact ⟨(hz a ha).2.2.2, (hz a ha).2.2.1⟩) (fun a h => .inl h) (fun a ha => by
      rcases ha with ha | ha
      · exact sf.z0 a ha
      · rcases back a ha with q | q
        · exact sf.z0 a q
        · exact .inr (s.mv.keep a q)) (fun a i hi q => by
      have q' : Zv Z o vs a ∨ H a = none := by
        rcases q with q | q
        · exact .inl q
        · exact back a q
      rcases q' with q | q
      · exact (sf.own a i hi).2.1 q
      · have ho : ∃ k, o a = some k := by
          cases e : o a with
          | none => rw [e] at hi; cases hi
          | some k => exact ⟨k, rfl⟩
        obtain ⟨k, hk⟩ := ho
        exact (s.own a k hk).2.2.2 q)
    refine ⟨_, _, fp, sg, nd, fun a ha => ?_, Rep.to .refl (fun _ h => h) (fun a h => .inr h) d (fun _ _ _ h => h) r⟩
    obtain ⟨h1, h2, h3, h4⟩ := fr a ha
    refine ⟨h1, fun q => ?_, h2, h3, fun j hj => ?_⟩
    · rcases q with q | q
      · exact ((s.pk vs).2 a q).1 (hf a ha).1
      · exact (hz a q).2.1 ha
    · cases e : o a with
      | none => rw [e] at hj; cases hj
      | some k => exact h4 k e
/-- a list of slot i is changed at its address a -/
theorem SOk.upd (s : SOk K B PN H Z ρ σ o) (p : Pens PN n H) {i : Nat} {a : Addr} {old new : List V} {v0 : V} {d1 : D} {f1 : List Addr} (ha : o a = some i) (hH : H a = some (.lst old)) (hv : σ[i]? = some (some v0)) (nd : f1.Nodup)
    (hf : ∀ b ∈ f1, o b = some i ∨ (B.h b = none ∧ ¬ Z b ∧ NP PN b ∧ H b ≠ none ∧ ∀ j, o b ≠ some j)) (r : Rep K PN (L2.upd H a (.lst new)) Z v0 d1 f1) :
    Pens PN n (L2.upd H a (.lst new)) ∧ ∃ o', SOk K B PN (L2.upd H a (.lst new)) Z (ρ.set i (some d1)) σ o' := by
  obtain ⟨a1, a2, a3, a4⟩ := s.own a i ha
  have there : ∀ b, H b ≠ none → L2.upd H a (.lst new) b ≠ none := fun b q => by
    by_cases e : b = a
    · rw [e, upd_same]; simp
    · rw [upd_ne e]; exact q
  have pr : Pres Z H (L2.upd H a (.lst new)) := ⟨fun b ob e z => by rw [upd_ne (by intro q; rw [q] at z; exact a2 z)]; exact e, fun b xs e => by rw [upd_ne (fun q => by rw [q, hH] at e; cases e)]; exact e,
    fun b ob u e => by rw [upd_ne (fun q => by rw [q, hH] at e; cases e)]; exact e⟩
  refine ⟨⟨p.1, fun pp cc e => ?_⟩, fun b => if b ∈ f1 then some i else if o b = some i then none else o b, ?_⟩
  · obtain ⟨cs, x, y, h1, h2, h3⟩ := p.2 pp cc e
    exact ⟨cs, x, y, by rw [upd_ne (Ne.symm (a3 pp cc e).1)]; exact h1, by rw [upd_ne (Ne.symm (a3 pp cc e).2)]; exact h2, h3⟩
  refine ⟨⟨s.mv.sub, s.mv.new, fun b ob e np => ?_, fun b e => ?_⟩, fun b z => ⟨there b (s.zk b z).1, (s.zk b z).2⟩, s.z0, s.old.trans s.zold pr, s.pold, s.zold, by simp [s.len], fun j e he => ?_, fun b j h => ?_⟩
  · rw [upd_ne (fun q => by rw [q, a1] at e; cases e)]
    exact s.mv.ext b ob e np
  · by_cases q : b = a
    · rw [q]; exact a1
    · rw [upd_ne q] at e
      exact s.mv.keep b e
  · by_cases hj : i = j
    · subst hj
      have hl : i < ρ.length := by
        have := (List.getElem?_eq_some_iff.mp he).1
        simpa using this
      rw [List.getElem?_set_self hl] at he
      cases he
      exact ⟨v0, f1, hv, nd, fun b hb => if_pos hb, r⟩
    · rw [List.getElem?_set_ne hj] at he
      obtain ⟨u, f, h1, h2, h3, h4⟩ := s.slot j e he
      have fa : a ∉ f := fun q => hj (Option.some.inj (ha.symm.trans (h3 a q)))
      refine ⟨u, f, h1, h2, fun b hb => ?_, Rep.to pr (fun _ h => h) (fun _ h => h) e (fun b hb ob eb => by rw [upd_ne (by intro q; rw [q] at hb; exact fa hb)]; exact eb) h4⟩
      have hn : b ∉ f1 := fun q => by
        rcases hf b q with q | q
        · exact hj (Option.some.inj (q.symm.trans (h3 b hb)))
        · exact q.2.2.2.2 j (h3 b hb)
      rw [if_neg hn, if_neg (by rw [h3 b hb]; simpa using fun q => hj q.symm)]
      exact h3 b hb
  · by_cases hb : b ∈ f1
    · rcases hf b hb with q | q
      · obtain ⟨b1, b2, b3, b4⟩ := s.own b i q
        exact ⟨b1, b2, b3, there b b4⟩
      · exact ⟨q.1, q.2.1, q.2.2.1, there b q.2.2.2.1⟩
    · rw [if_neg hb] at h
      split at h
      · cases h
      · obtain ⟨b1, b2, b3, b4⟩ := s.own b j h
        exact ⟨b1, b2, b3, there b b4⟩
theorem RepL.split : ∀ {vs : List V} {ds : List D} {f : List Addr} (k : Nat), RepL K PN H Z vs ds f → ∃ f1 f2, f = f1 ++ f2 ∧ RepL K PN H Z (vs.take k) (ds.take k) f1 ∧ RepL K PN H Z (vs.drop k) (ds.drop k) f2
  | _, _, f, 0, r => ⟨[], f, rfl, .nil, r⟩
  | _, _, _, _ + 1, .nil => ⟨[], [], rfl, .nil, .nil⟩
  | _, _, _, k + 1, .cons (f := g) r t => by
    obtain ⟨f1, f2, e, h1, h2⟩ := RepL.split k t
    exact ⟨g ++ f1, f2, by rw [e, List.append_assoc], .cons r h1, h2⟩
theorem RepL.head : ∀ {vs : List V} {d : D} {ds : List D} {f : List Addr}, RepL K PN H Z vs (d :: ds) f → ∃ v us f1 f2, vs = v :: us ∧ f = f1 ++ f2 ∧ Rep K PN H Z v d f1 ∧ RepL K PN H Z us ds f2
  | _, _, _, _, .cons r t => ⟨_, _, _, _, rfl, rfl, r, t⟩
/-- the j-th item by itself -/
theorem RepL.item {vs : List V} {ds : List D} {f : List Addr} {j : Nat} {d : D} (r : RepL K PN H Z vs ds f) (h : ds[j]? = some d) : ∃ v f1 f2 f3, vs[j]? = some v ∧ f = f1 ++ (f2 ++ f3) ∧ Rep K PN H Z v d f2 ∧
    RepL K PN H Z (vs.take j) (ds.take j) f1 ∧ RepL K PN H Z (vs.drop (j + 1)) (ds.drop (j + 1)) f3 := by
  obtain ⟨f1, f2, e, h1, h2⟩ := r.split j
  have hj : j < ds.length := (List.getElem?_eq_some_iff.mp h).1
  have hd : ds.drop j = d :: ds.drop (j + 1) := by
    rw [List.drop_eq_getElem_cons hj]
    have := (List.getElem?_eq_some_iff.mp h).2
    rw [this]
  rw [hd] at h2
  obtain ⟨v, us, g1, g2, e1, e2, r1, r2⟩ := h2.head
  have hjv : j < vs.length := by rw [r.length]; exact hj
  rw [List.drop_eq_getElem_cons hjv] at e1
  injection e1 with e3 e4
  refine ⟨v, f1, g1, g2, by rw [List.getElem?_eq_getElem hjv, e3], by rw [e, e2], r1, h1, ?_⟩
  rw [e4]
  exact r2
theorem set_split {α : Type} {xs : List α} {j : Nat} {x : α} (h : j < xs.length) : xs.set j x = xs.take j ++ (x :: xs.drop (j + 1)) := by
  rw [List.set_eq_take_append_cons_drop, if_pos h]
theorem RepL.upd {vs : List V} {ds : List D} {f : List Addr} {a : Addr} {old new : List V} (r : RepL K PN H Z vs ds f) (hH : H a = some (.lst old)) (hz : ¬ Z a) (hf : a ∉ f) : RepL K PN (L2.upd H a (.lst new)) Z vs ds f :=
  RepL.to ⟨fun b ob e z => by rw [upd_ne (by intro q; rw [q] at z; exact hz z)]; exact e, fun b xs e => by rw [upd_ne (fun q => by rw [q, hH] at e; cases e)]; exact e, fun b ob u e => by rw [upd_ne (fun q => by rw [q, hH] at e; cases e)]; exact e⟩
    (fun _ h => h) (fun _ h => h) ds (fun b hb ob e => by rw [upd_ne (by intro q; rw [q] at hb; exact hf hb)]; exact e) r
theorem Rep.upd {v : V} {d : D} {f : List Addr} {a : Addr} {old new : List V} (r : Rep K PN H Z v d f) (hH : H a = some (.lst old)) (hz : ¬ Z a) (hf : a ∉ f) : Rep K PN (L2.upd H a (.lst new)) Z v d f :=
  Rep.to ⟨fun b ob e z => by rw [upd_ne (by intro q; rw [q] at z; exact hz z)]; exact e, fun b xs e => by rw [upd_ne (fun q => by rw [q, hH] at e; cases e)]; exact e, fun b ob u e => by rw [upd_ne (fun q => by rw [q, hH] at e; cases e)]; exact e⟩
    (fun _ h => h) (fun _ h => h) d (fun b hb ob e => by rw [upd_ne (by intro q; rw [q] at hb; exact hf hb)]; exact e) r
end
/-- what a method does to its list -/
abbrev Chg := List D → List D → Option (List D)
def ownAt (ρ : Env) (i : Nat) : Option (List D) := match ρ[i]? with
  | some (some (.lst true xs)) => some xs
  | _ => none
def runA (vs : List Nat) (fs : Env → Comp (List D)) (ρ : Env) (k : List D → Comp (Fl × Env)) : Comp (Fl × Env) := (fs (fzE ρ)).try_ k fun c x => .ret (.er c x, ρ)
def sApp (i : Nat) (vs : List Nat) (f : Env → Comp D) : Env → Comp (Fl × Env) := fun ρ => match ownAt ρ i with
  | some _ => run vs f ρ fun d => match ownAt (upE vs d ρ) i with
    | some xs => if xs.length < sizeLine then .ret (.nx, (upE vs d ρ).set i (some (.lst true (xs ++ [d])))) else .stuck
    | none => .stuck
  | none => .stuck
theorem ownAt_some {ρ : Env} {i : Nat} {xs : List D} (h : ownAt ρ i = some xs) : ρ[i]? = some (some (.lst true xs)) := by
  unfold ownAt at h
  split at h
  · rename_i ys e
    cases h
    exact e
  · cases h
section
variable {X : Cx} {W : WX} {vs : List Nat}
theorem nodup_mid {f1 f2 g : List Addr} (h : (f1 ++ f2).Nodup) (hg : g.Nodup) (hd : ∀ a ∈ g, a ∉ f1 ∧ a ∉ f2) : (f1 ++ (g ++ f2)).Nodup := by
  obtain ⟨h1, h2, h3⟩ := List.nodup_append.mp h
  refine List.nodup_append.mpr ⟨h1, List.nodup_append.mpr ⟨hg, h2, fun a ha b hb e => ?_⟩, fun a ha b hb e => ?_⟩
  · subst e; exact (hd a ha).2 hb
  · subst e
    rcases List.mem_append.mp hb with q | q
    · exact (hd a q).1 ha
    · exact h3 a ha a q rfl
theorem sv_app {i : Nat} {x : Str} {e : Expr} {f : Env → Comp D} {p0 ap cp ep : Pos} (he : EV X W vs f e) (hN : X.N[i]? = some x := by rfl) (hv : Vis X.env.scope x := by first | exact Or.inl rfl | exact Or.inr (Or.inl rfl) | exact Or.inr (Or.inr rfl))
    (hbase : attributeBase (.Name x p0) "append" X.env (eval (.Name x p0) X.env) = eval (.Name x p0) X.env := by rfl)
    (hfew : ((backTo cp (starEach (e :: []) X.env)).all (fun x => !x.1) && (backToKw cp (keywordEach [] X.env)).all (fun x => x.1.isSome) && decide ((e :: ([] : List Expr)).length + ([] : List Keyword).length + (if ([] : List Keyword).isEmpty then 0 else 1) < 30)) = true := by rfl)
    (hline : (ap.endLine == cp.line) = true := by rfl) (hs : starEach (e :: []) X.env = (false, eval e X.env) :: starEach [] X.env := by rfl) (hplain : (backTo cp (starEach [] X.env)).any (·.1) = false := by rfl)
    (hsw : swapsWith (.Call (.Attribute (.Name x p0) "append" ap) [e] [] cp) none ep.line X.env = pure false := by rfl) (hd : (x == ("__debug__" : Str)) = false := by decide) (hcd : (x == ("__classdict__" : Str)) = false := by decide) :
    SV X W (sApp i vs f) (.Expr (.Call (.Attribute (.Name x p0) "append" ap) [e] [] cp) ep) := by
  refine psW (ps_expr (pe_bm PySem.F.plainAttrs_list PySem.F.slot_list_append PySem.F.type_list_append mt_append (pe_var hN hv hd hcd) (pa_cons he pa_nil hs) hbase hfew hline hs hplain) hsw) fun D' σ H h => ?_
  obtain ⟨B, PN, n, Z, ρ, o, s, p, h⟩ := h
  unfold sApp at h
  split at h
  · rename_i xs0 e0
    have e0 := ownAt_some e0
    obtain ⟨v0, f0, h1, h2, h3, h4⟩ := s.slot i _ e0
    cases h4 with
    | own hH r0 =>
      rename_i a us fp0
      refine ⟨_, h1, .inl ⟨rfl, _, SqL.of hH⟩, ?_⟩
      refine run_pre (Q := fun y H4 => rAppend (.ref a) [y] H4 fun _ H5 => D'.nx σ H5) s p h fun m d v PN' H' ev h => ?_
      obtain ⟨p', Z', o', fp, s', nd, hf, r⟩ := s.gain p ev
      split at h
      · rename_i xs e1
        split at h
        · rename_i hl
          have e1 := ownAt_some e1
          obtain ⟨v1, f1, g1, g2, g3, g4⟩ := s'.slot i _ e1
          rw [h1] at g1
          cases g1
          cases g4 with
          | own hH' r1 =>
            rename_i us1 fp1
            have hlen := r1.length
            refine ⟨a, us1, v, rfl, rfl, hH', by omega, ?_⟩
            have oa := g3 a List.mem_cons_self
            have na : a ∉ fp1 := (List.nodup_cons.mp g2).1
            have nz : ¬ Z' a := (s'.own a i oa).2.1
            have naf : a ∉ fp := fun q => (hf a q).2.2.2.2 i oa
            have hnd : (a :: (fp1 ++ (fp ++ []))).Nodup := List.nodup_cons.mpr ⟨fun q => by
              rcases List.mem_append.mp q with q | q
              · exact na q
              · exact naf (by simpa using q), nodup_mid (by simpa using (List.nodup_cons.mp g2).2) nd fun b hb => ⟨fun q => (hf b hb).2.2.2.2 i (g3 b (List.mem_cons_of_mem _ q)), fun q => nomatch q⟩⟩
            obtain ⟨p2, o2, s2⟩ := s'.upd p' (new := us1 ++ [v]) (f1 := a :: (fp1 ++ (fp ++ []))) oa hH' h1 hnd (fun b hb => by
              rcases List.mem_cons.mp hb with q | q
              · rw [q]; exact .inl oa
              · rcases List.mem_append.mp q with q | q
                · exact .inl (g3 b (List.mem_cons_of_mem _ q))
                · exact .inr (hf b (by simpa using q)))
              (.own (ds := xs ++ [d]) upd_same (RepL.append (r1.upd hH' nz na) (.cons (r.upd hH' nz naf) .nil)))
            exact h PN' _ Z' σ o2 s2 p2
        · exact h.elim
      · exact h.elim
  · exact h.elim
end
end Mid

namespace Mid
open PySem PySem.Spec PyProof.Rows L2

section
variable {K : PySem.W.Frag} {B : Bs} {PN PN' : Pn} {H H' : Hp} {Z Z' : Addr → Prop} {ρ ρ' : Env} {σ σ' : L2.St} {o o' : Addr → Option Nat} {m n : Nat} {vs : List Nat}
/-- a value that owns nothing of another's -/
theorem SOk.gain0 (s : SOk K B PN H Z ρ σ o) (p : Pens PN n H) {v : V} {d : D} (hn : noShr d = true) (ev : Ev K PN H (Zv Z o vs) m v d PN' H') :
    Pens PN' m H' ∧ SOk K B PN' H' Z ρ σ o ∧ Mv PN H PN' H' ∧ ∃ fp, fp.Nodup ∧ (∀ a ∈ fp, B.h a = none ∧ ¬ Z a ∧ NP PN' a ∧ H' a ≠ none ∧ ∀ j, o a ≠ some j) ∧ Rep K PN' H' Z v d fp := by
  obtain ⟨fp, Z1, mv, p', nd, hf, hz, r⟩ := ev
  refine ⟨p', s.step p mv, mv, fp, nd, fun a ha => ?_, Rep.anyZ d hn r⟩
  obtain ⟨h1, h2, h3⟩ := hf a ha
  exact ⟨s.mv.keep a h1, fun q => (s.zk a q).1 h1, h2, h3, fun j hj => (s.own a j hj).2.2.2 h1⟩
theorem nodup_out {f1 f2 f3 g : List Addr} (h : (f1 ++ (f2 ++ f3)).Nodup) (hg : g.Nodup) (hd : ∀ a ∈ g, a ∉ f1 ∧ a ∉ f3) : (f1 ++ (g ++ f3)).Nodup := by
  obtain ⟨h1, h2, h3⟩ := List.nodup_append.mp h
  obtain ⟨_, h5, _⟩ := List.nodup_append.mp h2
  refine List.nodup_append.mpr ⟨h1, List.nodup_append.mpr ⟨hg, h5, fun a ha b hb e => ?_⟩, fun a ha b hb e => ?_⟩
  · subst e; exact (hd a ha).2 hb
  · subst e
    rcases List.mem_append.mp hb with q | q
    · exact (hd a q).1 ha
    · exact h3 a ha a (List.mem_append_right _ q) rfl
/-- items k to k' of an own list give way to others -/
theorem RepL.cutF {vs : List V} {ds : List D} {f : List Addr} (r : RepL K PN H Z vs ds f) {k k' : Nat} (hk : k ≤ k') : ∃ f1 f2 f3, f = f1 ++ (f2 ++ f3) ∧ RepL K PN H Z (vs.take k) (ds.take k) f1 ∧ RepL K PN H Z (vs.drop k') (ds.drop k') f3 := by
  obtain ⟨f1, g, e, h1, h2⟩ := r.split k
  obtain ⟨f2, f3, e2, h3, h4⟩ := h2.split (k' - k)
  rw [List.drop_drop, List.drop_drop, show k + (k' - k) = k' by omega] at h4
  exact ⟨f1, f2, f3, by rw [e, e2], h1, h4⟩
theorem SOk.splice (s : SOk K B PN H Z ρ σ o) (p : Pens PN n H) {i k k' : Nat} {xs ds : List D} {us : List V} {fp : List Addr} (hk : k ≤ k') (e1 : ρ[i]? = some (some (.lst true xs))) (nd : fp.Nodup)
    (hf : ∀ b ∈ fp, B.h b = none ∧ ¬ Z b ∧ NP PN b ∧ H b ≠ none ∧ ∀ j, o b ≠ some j) (r : RepL K PN H Z us ds fp) :
    ∃ a ws f0, σ[i]? = some (some (.ref a)) ∧ H a = some (.lst ws) ∧ RepL K PN H Z ws xs f0 ∧ Pens PN n (L2.upd H a (.lst (ws.take k ++ (us ++ ws.drop k')))) ∧
      ∃ o', SOk K B PN (L2.upd H a (.lst (ws.take k ++ (us ++ ws.drop k')))) Z (ρ.set i (some (.lst true (xs.take k ++ (ds ++ xs.drop k'))))) σ o' := by
  obtain ⟨v1, f1, g1, g2, g3, g4⟩ := s.slot i _ e1
  cases g4 with
  | own hH r1 =>
    rename_i a ws fp1
    refine ⟨a, ws, fp1, g1, hH, r1, ?_⟩
    obtain ⟨t1, t2, t3, et, r2, r3⟩ := r1.cutF hk
    have oa := g3 a List.mem_cons_self
    have na : a ∉ fp1 := (List.nodup_cons.mp g2).1
    have nz : ¬ Z a := (s.own a i oa).2.1
    have naf : a ∉ fp := fun q => (hf a q).2.2.2.2 i oa
    have in1 : ∀ b ∈ t1, b ∈ fp1 := fun b hb => by rw [et]; exact List.mem_append_left _ hb
    have in3 : ∀ b ∈ t3, b ∈ fp1 := fun b hb => by rw [et]; exact List.mem_append_right _ (List.mem_append_right _ hb)
    have own : ∀ b ∈ fp1, o b = some i := fun b hb => g3 b (List.mem_cons_of_mem _ hb)
    have hnd : (a :: (t1 ++ (fp ++ t3))).Nodup := List.nodup_cons.mpr ⟨fun q => by
      rcases List.mem_append.mp q with q | q
      · exact na (in1 a q)
      · rcases List.mem_append.mp q with q | q
        · exact naf q
        · exact na (in3 a q), nodup_out (by rw [← et]; exact (List.nodup_cons.mp g2).2) nd fun b hb => ⟨fun q => (hf b hb).2.2.2.2 i (own b (in1 b q)), fun q => (hf b hb).2.2.2.2 i (own b (in3 b q))⟩⟩
    exact s.upd p (new := ws.take k ++ (us ++ ws.drop k')) (f1 := a :: (t1 ++ (fp ++ t3))) oa hH g1 hnd (fun b hb => by
      rcases List.mem_cons.mp hb with q | q
      · rw [q]; exact .inl oa
      · rcases List.mem_append.mp q with q | q
        · exact .inl (own b (in1 b q))
        · rcases List.mem_append.mp q with q | q
          · exact .inr (hf b q)
          · exact .inl (own b (in3 b q)))
      (.own upd_same (RepL.append (r2.upd hH nz fun q => na (in1 a q)) (RepL.append (r.upd hH nz naf) (r3.upd hH nz fun q => na (in3 a q)))))
/-- the same in an own list inside an own list -/
theorem SOk.splice2 (s : SOk K B PN H Z ρ σ o) (p : Pens PN n H) {i j k k' : Nat} {xs ys ds : List D} {us : List V} {fp : List Addr} (hk : k ≤ k') (e1 : ρ[i]? = some (some (.lst true xs))) (e2 : xs[j]? = some (.lst true ys)) (nd : fp.Nodup)
    (hf : ∀ b ∈ fp, B.h b = none ∧ ¬ Z b ∧ NP PN b ∧ H b ≠ none ∧ ∀ j, o b ≠ some j) (r : RepL K PN H Z us ds fp) :
    ∃ a ws b ts f0, σ[i]? = some (some (.ref a)) ∧ H a = some (.lst ws) ∧ ws.length = xs.length ∧ ws[j]? = some (.ref b) ∧ H b = some (.lst ts) ∧ RepL K PN H Z ts ys f0 ∧
      Pens PN n (L2.upd H b (.lst (ts.take k ++ (us ++ ts.drop k')))) ∧
      ∃ o', SOk K B PN (L2.upd H b (.lst (ts.take k ++ (us ++ ts.drop k')))) Z (ρ.set i (some (.lst true (xs.set j (.lst true (ys.take k ++ (ds ++ ys.drop k'))))))) σ o' := by
  obtain ⟨v1, f1, g1, g2, g3, g4⟩ := s.slot i _ e1
  cases g4 with
  | own hH r1 =>
    rename_i a ws fp1
    obtain ⟨v2, q1, q2, q3, ew, ef, r2, r3, r4⟩ := r1.item e2
    cases r2 with
    | own hB r5 =>
      rename_i b ts fp2
      refine ⟨a, ws, b, ts, fp2, g1, hH, r1.length, ew, hB, r5, ?_⟩
      obtain ⟨t1, t2, t3, et, r6, r7⟩ := r5.cutF hk
      have own1 : ∀ x ∈ fp1, o x = some i := fun x hx => g3 x (List.mem_cons_of_mem _ hx)
      have inq1 : ∀ x ∈ q1, x ∈ fp1 := fun x hx => by rw [ef]; exact List.mem_append_left _ hx
      have inq2 : ∀ x ∈ b :: fp2, x ∈ fp1 := fun x hx => by rw [ef]; exact List.mem_append_right _ (List.mem_append_left _ hx)
      have inq3 : ∀ x ∈ q3, x ∈ fp1 := fun x hx => by rw [ef]; exact List.mem_append_right _ (List.mem_append_right _ hx)
      have in1 : ∀ x ∈ t1, x ∈ fp2 := fun x hx => by rw [et]; exact List.mem_append_left _ hx
      have in3 : ∀ x ∈ t3, x ∈ fp2 := fun x hx => by rw [et]; exact List.mem_append_right _ (List.mem_append_right _ hx)
      have ob := own1 b (inq2 b List.mem_cons_self)
      have n1 : fp1.Nodup := (List.nodup_cons.mp g2).2
      rw [ef] at n1
      obtain ⟨m1, m2, m3⟩ := List.nodup_append.mp n1
      obtain ⟨m4, m5, m6⟩ := List.nodup_append.mp m2
      have nz : ¬ Z b := (s.own b i ob).2.1
      have nbf : b ∉ fp := fun q => (hf b q).2.2.2.2 i ob
      have nb2 : b ∉ fp2 := (List.nodup_cons.mp m4).1
      have nbq1 : b ∉ q1 := fun q => m3 b q b (List.mem_append_left _ List.mem_cons_self) rfl
      have nbq3 : b ∉ q3 := fun q => m6 b List.mem_cons_self b q rfl
      have nab : a ≠ b := fun q => (List.nodup_cons.mp g2).1 (q ▸ inq2 b List.mem_cons_self)
      have hnd2 : (b :: (t1 ++ (fp ++ t3))).Nodup := List.nodup_cons.mpr ⟨fun q => by
        rcases List.mem_append.mp q with q | q
        · exact nb2 (in1 b q)
        · rcases List.mem_append.mp q with q | q
          · exact nbf q
          · exact nb2 (in3 b q), nodup_out (by rw [← et]; exact (List.nodup_cons.mp m4).2) nd fun x hx => ⟨fun q => (hf x hx).2.2.2.2 i (own1 x (inq2 x (List.mem_cons_of_mem _ (in1 x q)))), fun q => (hf x hx).2.2.2.2 i (own1 x (inq2 x (List.mem_cons_of_mem _ (in3 x q))))⟩⟩
      have sub2 : ∀ x ∈ b :: (t1 ++ (fp ++ t3)), x ∈ b :: fp2 ∨ x ∈ fp := fun x hx => by
        rcases List.mem_cons.mp hx with q | q
        · rw [q]; exact .inl List.mem_cons_self
        · rcases List.mem_append.mp q with q | q
          · exact .inl (List.mem_cons_of_mem _ (in1 x q))
          · rcases List.mem_append.mp q with q | q
            · exact .inr q
            · exact .inl (List.mem_cons_of_mem _ (in3 x q))
      have hnd : (a :: (q1 ++ ((b :: (t1 ++ (fp ++ t3))) ++ q3))).Nodup := List.nodup_cons.mpr ⟨fun q => by
        have na := (List.nodup_cons.mp g2).1
        rcases List.mem_append.mp q with q | q
        · exact na (inq1 a q)
        · rcases List.mem_append.mp q with q | q
          · rcases sub2 a q with q | q
            · exact na (inq2 a q)
            · exact (hf a q).2.2.2.2 i (g3 a List.mem_cons_self)
          · exact na (inq3 a q), nodup_out n1 hnd2 fun x hx => by
        rcases sub2 x hx with h | h
        · exact ⟨fun q => m3 x q x (List.mem_append_left _ h) rfl, fun q => m6 x h x q rfl⟩
        · exact ⟨fun q => (hf x h).2.2.2.2 i (own1 x (inq1 x q)), fun q => (hf x h).2.2.2.2 i (own1 x (inq3 x q))⟩⟩
      have hj : j < xs.length := (List.getElem?_eq_some_iff.mp e2).1
      have hjw : j < ws.length := by rw [r1.length]; exact hj
      refine s.upd p (new := ts.take k ++ (us ++ ts.drop k')) (f1 := a :: (q1 ++ ((b :: (t1 ++ (fp ++ t3))) ++ q3))) ob hB g1 hnd (fun x hx => ?_)
        (.own (vs := ws) ((upd_ne nab).trans hH) ?_)
      · rcases List.mem_cons.mp hx with q | q
        · rw [q]; exact .inl (g3 a List.mem_cons_self)
        · rcases List.mem_append.mp q with q | q
          · exact .inl (own1 x (inq1 x q))
          · rcases List.mem_append.mp q with q | q
            · rcases sub2 x q with q | q
              · exact .inl (own1 x (inq2 x q))
              · exact .inr (hf x q)
            · exact .inl (own1 x (inq3 x q))
      · have ews : ws = ws.take j ++ (.ref b :: ws.drop (j + 1)) := by
          rw [← set_split hjw]
          refine List.ext_getElem? fun q => ?_
          by_cases hq : j = q
          · subst hq
            rw [List.getElem?_set_self hjw]; exact ew
          · rw [List.getElem?_set_ne hq]
        rw [set_split hj]
        refine cast (congrArg (fun w => RepL K PN _ Z w _ _) ews.symm) ?_
        exact RepL.append (r3.upd hB nz nbq1) (.cons (.own upd_same (RepL.append (r6.upd hB nz fun q => nb2 (in1 b q)) (RepL.append (r.upd hB nz nbf) (r7.upd hB nz fun q => nb2 (in3 b q))))) (r4.upd hB nz nbq3))
/-- a value held while another expression runs -/
theorem held (s : SOk K B PN H Z ρ σ o) (p : Pens PN n H) (mv : Mv PN H PN' H') {v : V} {d : D} {fp : List Addr} (nd : fp.Nodup) (hf : ∀ b ∈ fp, B.h b = none ∧ ¬ Z b ∧ NP PN b ∧ H b ≠ none ∧ ∀ j, o b ≠ some j) (r : Rep K PN H Z v d fp) :
    (∀ b ∈ fp, B.h b = none ∧ ¬ Z b ∧ NP PN' b ∧ H' b ≠ none ∧ ∀ j, o b ≠ some j) ∧ Rep K PN' H' Z v d fp :=
  ⟨fun b hb => by
    obtain ⟨h1, h2, h3, h4, h5⟩ := hf b hb
    exact ⟨h1, h2, mv.np h3 h4, fun q => h4 (mv.keep b q), h5⟩, Rep.to (mv.pres p s.zk) mv.sub (fun _ h => h) d (fun a ha ob e => mv.ext a ob e (hf a ha).2.2.1) r⟩
end
/-- x.insert(k, y) -/
def sIns (i : Nat) (vs : List Nat) (f g : Env → Comp D) : Env → Comp (Fl × Env) := fun ρ => match ownAt ρ i with
  | some _ => run vs f ρ fun k => match k with
    | .int z => run vs g ρ fun d => match ownAt (upE vs d ρ) i with
      | some xs => if xs.length < sizeLine ∧ 0 ≤ z ∧ z < 2 ^ 63 then .ret (.nx, (upE vs d ρ).set i (some (.lst true (xs.take z.toNat ++ ([d] ++ xs.drop z.toNat))))) else .stuck
      | none => .stuck
    | _ => .stuck
  | none => .stuck
/-- x[k] = y -/
def sSet1 (i : Nat) (vs : List Nat) (f g : Env → Comp D) : Env → Comp (Fl × Env) := fun ρ => run vs f ρ fun d => match ownAt (upE vs d ρ) i with
  | some xs => run vs g (upE vs d ρ) fun k => match k with
    | .int z => match ixN xs.length z with
      | some j => .ret (.nx, (upE vs d ρ).set i (some (.lst true (xs.take j ++ ([d] ++ xs.drop (j + 1))))))
      | none => .stuck
    | _ => .stuck
  | none => .stuck
/-- x[h][k] = y -/
def sSet2 (i : Nat) (vs : List Nat) (f h g : Env → Comp D) : Env → Comp (Fl × Env) := fun ρ => run vs f ρ fun d => match ownAt (upE vs d ρ) i with
  | some xs => run vs h (upE vs d ρ) fun k1 => match k1 with
    | .int z1 => match ixN xs.length z1 with
      | some j1 => match xs[j1]? with
        | some (.lst true ys) => run vs g (upE vs d ρ) fun k2 => match k2 with
          | .int z => match ixN ys.length z with
            | some j2 => .ret (.nx, (upE vs d ρ).set i (some (.lst true (xs.set j1 (.lst true (ys.take j2 ++ ([d] ++ ys.drop (j2 + 1))))))))
            | none => .stuck
          | _ => .stuck
        | _ => .stuck
      | none => .stuck
    | _ => .stuck
  | none => .stuck
/-- x.pop(k), its value dropped -/
def sPopAt (i : Nat) (vs : List Nat) (g : Env → Comp D) : Env → Comp (Fl × Env) := fun ρ => match ownAt ρ i with
  | some xs => run vs g ρ fun k => match k with
    | .int z => if -(2 ^ 63) ≤ z ∧ z < 2 ^ 63 then match ixN xs.length z with
        | some j => .ret (.nx, ρ.set i (some (.lst true (xs.take j ++ ([] ++ xs.drop (j + 1))))))
        | none => .stuck
      else .stuck
    | _ => .stuck
  | none => .stuck
theorem ixN_lt {n : Nat} {z : Int} {j : Nat} (h : ixN n z = some j) : j < n := (ixN_seq h).2.1
section
variable {X : Cx} {W : WX} {vs : List Nat}
theorem sv_ins {i : Nat} {x : Str} {e e2 : Expr} {f g : Env → Comp D} {p0 ap cp ep : Pos} (he : EV X W vs f e) (hg : EV X W vs g e2) (hN : X.N[i]? = some x := by rfl) (hv : Vis X.env.scope x := by first | exact Or.inl rfl | exact Or.inr (Or.inl rfl) | exact Or.inr (Or.inr rfl))
    (hbase : attributeBase (.Name x p0) "insert" X.env (eval (.Name x p0) X.env) = eval (.Name x p0) X.env := by rfl)
    (hfew : ((backTo cp (starEach (e :: e2 :: []) X.env)).all (fun x => !x.1) && (backToKw cp (keywordEach [] X.env)).all (fun x => x.1.isSome) && decide ((e :: e2 :: ([] : List Expr)).length + ([] : List Keyword).length + (if ([] : List Keyword).isEmpty then 0 else 1) < 30)) = true := by rfl)
    (hline : (ap.endLine == cp.line) = true := by rfl) (hs : starEach (e :: e2 :: []) X.env = (false, eval e X.env) :: starEach (e2 :: []) X.env := by rfl) (hs2 : starEach (e2 :: []) X.env = (false, eval e2 X.env) :: starEach [] X.env := by rfl)
    (hplain : (backTo cp (starEach (e2 :: []) X.env)).any (·.1) = false := by rfl)
    (hsw : swapsWith (.Call (.Attribute (.Name x p0) "insert" ap) [e, e2] [] cp) none ep.line X.env = pure false := by rfl) (hd : (x == ("__debug__" : Str)) = false := by decide) (hcd : (x == ("__classdict__" : Str)) = false := by decide) :
    SV X W (sIns i vs f g) (.Expr (.Call (.Attribute (.Name x p0) "insert" ap) [e, e2] [] cp) ep) := by
  refine psW (ps_expr (pe_bm PySem.F.plainAttrs_list PySem.F.slot_list_insert PySem.F.type_list_insert mt_insert (pe_var hN hv hd hcd) (pa_cons he (pa_cons hg pa_nil hs2) hs) hbase hfew hline hs hplain) hsw) fun D' σ H h => ?_
  obtain ⟨B, PN, n, Z, ρ, o, s, p, h⟩ := h
  unfold sIns at h
  split at h
  · rename_i xs0 e0
    have e0 := ownAt_some e0
    obtain ⟨v0, f0, h1, h2, h3, h4⟩ := s.slot i _ e0
    cases h4 with
    | own hH r0 =>
      rename_i a us fp0
      refine ⟨_, h1, .inl ⟨rfl, _, SqL.of hH⟩, ?_⟩
      refine run_pre (Q := _) s p h fun m k v PN' H' ev h => ?_
      split at h
      · rename_i z
        obtain ⟨p', s', mv, fp, nd, hf, r⟩ := s.gain0 p (by rfl) ev
        cases r
        refine run_pre (Q := _) s' p' h fun m2 d y PN2 H2 ev2 h => ?_
        obtain ⟨p2, Z2, o2, fp, s2, nd, hf, r⟩ := s'.gain p' ev2
        split at h
        · rename_i xs e1
          split at h
          · rename_i hl
            obtain ⟨a', ws, f0, g1, g2, g3, p3, o3, s3⟩ := s2.splice p2 (k := z.toNat) (k' := z.toNat) (Nat.le_refl _) (ownAt_some e1) (fp := fp ++ []) (by simpa using nd) (by simpa using hf) (.cons r .nil)
            rw [h1] at g1
            cases g1
            refine ⟨a, ws, z, y, rfl, rfl, g2, by rw [g3.length]; exact hl.1, hl.2.1, hl.2.2, ?_⟩
            rw [List.append_assoc]
            exact h PN2 _ Z2 σ o3 s3 p3
          · exact h.elim
        · exact h.elim
      · exact h.elim
  · exact h.elim
theorem sv_popAt {i : Nat} {x : Str} {e : Expr} {g : Env → Comp D} {p0 ap cp ep : Pos} (he : EV X W vs g e) (hN : X.N[i]? = some x := by rfl) (hv : Vis X.env.scope x := by first | exact Or.inl rfl | exact Or.inr (Or.inl rfl) | exact Or.inr (Or.inr rfl))
    (hbase : attributeBase (.Name x p0) "pop" X.env (eval (.Name x p0) X.env) = eval (.Name x p0) X.env := by rfl)
    (hfew : ((backTo cp (starEach (e :: []) X.env)).all (fun x => !x.1) && (backToKw cp (keywordEach [] X.env)).all (fun x => x.1.isSome) && decide ((e :: ([] : List Expr)).length + ([] : List Keyword).length + (if ([] : List Keyword).isEmpty then 0 else 1) < 30)) = true := by rfl)
    (hline : (ap.endLine == cp.line) = true := by rfl) (hs : starEach (e :: []) X.env = (false, eval e X.env) :: starEach [] X.env := by rfl) (hplain : (backTo cp (starEach [] X.env)).any (·.1) = false := by rfl)
    (hsw : swapsWith (.Call (.Attribute (.Name x p0) "pop" ap) [e] [] cp) none ep.line X.env = pure false := by rfl) (hd : (x == ("__debug__" : Str)) = false := by decide) (hcd : (x == ("__classdict__" : Str)) = false := by decide) :
    SV X W (sPopAt i vs g) (.Expr (.Call (.Attribute (.Name x p0) "pop" ap) [e] [] cp) ep) := by
  refine psW (ps_expr (pe_bm PySem.F.plainAttrs_list PySem.F.slot_list_pop PySem.F.type_list_pop mt_popAt (pe_var hN hv hd hcd) (pa_cons he pa_nil hs) hbase hfew hline hs hplain) hsw) fun D' σ H h => ?_
  obtain ⟨B, PN, n, Z, ρ, o, s, p, h⟩ := h
  unfold sPopAt at h
  split at h
  · rename_i xs0 e0
    have e0 := ownAt_some e0
    obtain ⟨v0, f0, h1, h2, h3, h4⟩ := s.slot i _ e0
    cases h4 with
    | own hH r0 =>
      rename_i a us fp0
      refine ⟨_, h1, .inl ⟨rfl, _, SqL.of hH⟩, ?_⟩
      refine run_pre (Q := _) s p h fun m k v PN' H' ev h => ?_
      split at h
      · rename_i z
        obtain ⟨p', s', mv, fp, nd, hf, r⟩ := s.gain0 p (by rfl) ev
        cases r
        split at h
        case isFalse => exact h.elim
        rename_i hl
        split at h
        · rename_i j hj
          obtain ⟨a', ws, f0, g1, g2, g3, p3, o3, s3⟩ := s'.splice p' (k := j) (k' := j + 1) (by omega) e0 .nil (by simp) .nil
          rw [h1] at g1
          cases g1
          have hj' := ixN_lt hj
          have hjw : j < ws.length := by rw [g3.length]; exact hj'
          obtain ⟨q1, q2, q3, q4⟩ := ixN_seq hj
          refine ⟨a, ws, z, j, ws[j], rfl, rfl, g2, hl.1, hl.2, by rw [g3.length]; exact q1, List.getElem?_eq_getElem hjw, ?_⟩
          have := h PN' _ Z σ o3 s3 p3
          rw [List.nil_append] at this
          rw [List.eraseIdx_eq_take_drop_succ]
          exact this
        · exact h.elim
      · exact h.elim
  · exact h.elim
theorem sv_set1 {i : Nat} {x : Str} {e ie : Expr} {f g : Env → Comp D} {p0 sp pos : Pos} (he : EV X W vs f e) (hg : EV X W vs g ie) (hN : X.N[i]? = some x := by rfl) (hv : Vis X.env.scope x := by first | exact Or.inl rfl | exact Or.inr (Or.inl rfl) | exact Or.inr (Or.inr rfl))
    (ha : ∀ v, assign (.Subscript (.Name x p0) ie sp) X.env v = (do
      let ov ← holding [v] (eval (.Name x p0) X.env)
      let iv ← holding [v, ov] (eval ie X.env)
      standAt sp
      holding [v, ov, iv] (setItem ov iv v)
      release [v, ov, iv] []) := by intro _; rfl)
    (hs : swapsWithSole [.Subscript (.Name x p0) ie sp] e pos.line X.env = pure false := by rfl) (hw : swappedStores [.Subscript (.Name x p0) ie sp] e X.env = pure none := by rfl)
    (h1 : (assignEach [.Subscript (.Name x p0) ie sp] X.env).map (·.2) = [assign (.Subscript (.Name x p0) ie sp) X.env] := by rfl) (hd : (x == ("__debug__" : Str)) = false := by decide) (hcd : (x == ("__classdict__" : Str)) = false := by decide) :
    SV X W (sSet1 i vs f g) (.Assign [.Subscript (.Name x p0) ie sp] e pos) := by
  refine psW (ps_asg he (pg_sub (pe_var hN hv hd hcd) hg set_list ha) hs hw h1) fun D' σ H h => ?_
  obtain ⟨B, PN, n, Z, ρ, o, s, p, h⟩ := h
  refine run_pre (Q := _) s p h fun m d v PN' H' ev h => ?_
  obtain ⟨p', Z', o', fp, s', nd, hf, r⟩ := s.gain p ev
  split at h
  · rename_i xs e1
    have e1 := ownAt_some e1
    obtain ⟨v0, f0, q1, _⟩ := s'.slot i _ e1
    refine ⟨v0, q1, ?_⟩
    refine run_pre (Q := _) s' p' h fun m2 k y PN2 H2 ev2 h => ?_
    split at h
    · rename_i z
      obtain ⟨p2, s2, mv, _, _, _, r2⟩ := s'.gain0 p' (by rfl) ev2
      cases r2
      split at h
      · rename_i j hj
        have hold := held s' p' mv nd hf r
        obtain ⟨a', ws, f1, g1, g2, g3, p3, o3, s3⟩ := s2.splice p2 (k := j) (k' := j + 1) (by omega) e1 (fp := fp ++ []) (by simpa using nd) (by simpa using hold.1) (.cons hold.2 .nil)
        rw [q1] at g1
        cases g1
        refine ⟨a', ws, z, j, rfl, rfl, g2, by rw [g3.length]; exact hj, ?_⟩
        rw [set_split (by rw [g3.length]; exact ixN_lt hj)]
        exact h PN2 _ Z' σ o3 s3 p3
      · exact h.elim
    · exact h.elim
  · exact h.elim
theorem sv_set2 {i : Nat} {x : Str} {e he_ ie : Expr} {f h_ g : Env → Comp D} {p0 sp sq pos : Pos} (he : EV X W vs f e) (hh : EV X W vs h_ he_) (hg : EV X W vs g ie) (hN : X.N[i]? = some x := by rfl) (hv : Vis X.env.scope x := by first | exact Or.inl rfl | exact Or.inr (Or.inl rfl) | exact Or.inr (Or.inr rfl))
    (hpl : PlainIx he_ := by exact fun _ _ => rfl)
    (ha : ∀ v, assign (.Subscript (.Subscript (.Name x p0) he_ sq) ie sp) X.env v = (do
      let ov ← holding [v] (eval (.Subscript (.Name x p0) he_ sq) X.env)
      let iv ← holding [v, ov] (eval ie X.env)
      standAt sp
      holding [v, ov, iv] (setItem ov iv v)
      release [v, ov, iv] []) := by intro _; rfl)
    (hs : swapsWithSole [.Subscript (.Subscript (.Name x p0) he_ sq) ie sp] e pos.line X.env = pure false := by rfl) (hw : swappedStores [.Subscript (.Subscript (.Name x p0) he_ sq) ie sp] e X.env = pure none := by rfl)
    (h1 : (assignEach [.Subscript (.Subscript (.Name x p0) he_ sq) ie sp] X.env).map (·.2) = [assign (.Subscript (.Subscript (.Name x p0) he_ sq) ie sp) X.env] := by rfl) (hd : (x == ("__debug__" : Str)) = false := by decide) (hcd : (x == ("__classdict__" : Str)) = false := by decide) :
    SV X W (sSet2 i vs f h_ g) (.Assign [.Subscript (.Subscript (.Name x p0) he_ sq) ie sp] e pos) := by
  refine psW (ps_asg he (pg_sub (pe_ix ix_list (pe_var hN hv hd hcd) hh hpl) hg set_list ha) hs hw h1) fun D' σ H h => ?_
  obtain ⟨B, PN, n, Z, ρ, o, s, p, h⟩ := h
  refine run_pre (Q := _) s p h fun m d v PN' H' ev h => ?_
  obtain ⟨p', Z', o', fp, s', nd, hf, r⟩ := s.gain p ev
  split at h
  · rename_i xs e1
    have e1 := ownAt_some e1
    obtain ⟨v0, f0, q1, _⟩ := s'.slot i _ e1
    refine ⟨v0, q1, ?_⟩
    refine run_pre (Q := _) s' p' h fun m1 k1 y1 PN1 H1 ev1 h => ?_
    split at h
    · rename_i z1
      obtain ⟨p1, s1, mv1, _, _, _, r1⟩ := s'.gain0 p' (by rfl) ev1
      cases r1
      have hold1 := held s' p' mv1 nd hf r
      split at h
      · rename_i j1 hj1
        split at h
        · rename_i _ ys ey
          -- the inner list is there
          obtain ⟨v1, f1, t1, t2, t3, t4⟩ := s1.slot i _ e1
          rw [q1] at t1
          cases t1
          cases t4 with
          | @own a ws _ fp5 hH r5 =>
            obtain ⟨v2, _, _, _, ew, _, _, _, _⟩ := r5.item ey
            refine ⟨a, ws, z1, v2, rfl, rfl, SqL.of hH, ?_, ?_⟩
            · unfold atI
              rw [r5.length, hj1]
              exact ew
            refine run_pre (Q := _) s1 p1 h fun m2 k y PN2 H2 ev2 h => ?_
            split at h
            · rename_i z
              obtain ⟨p2, s2, mv2, _, _, _, r2⟩ := s1.gain0 p1 (by rfl) ev2
              cases r2
              split at h
              · rename_i j hj
                have hold := held s1 p1 mv2 nd hold1.1 hold1.2
                obtain ⟨a', ws', b, ts, f6, g1, g2, g3, g4, g5, g6, p3, o3, s3⟩ := s2.splice2 p2 (k := j) (k' := j + 1) (by omega) e1 ey (fp := fp ++ []) (by simpa using nd) (by simpa using hold.1) (.cons hold.2 .nil)
                rw [q1] at g1
                cases g1
                have ea : H2 a = some (.lst ws) := mv2.ext a _ hH (s1.own a i (t3 a List.mem_cons_self)).2.2.1
                rw [g2] at ea
                cases ea
                rw [ew] at g4
                cases g4
                refine ⟨b, ts, z, j, rfl, rfl, g5, by rw [g6.length]; exact hj, ?_⟩
                rw [set_split (by rw [g6.length]; exact ixN_lt hj)]
                exact h PN2 _ Z' σ o3 s3 p3
              · exact h.elim
            · exact h.elim
        · exact h.elim
      · exact h.elim
    · exact h.elim
  · exact h.elim
end
end Mid

namespace Mid
open PySem PySem.Spec PyProof.Rows L2

/-! ## isinstance with a built-in class -/
def tyN : D → String
  | .non => "NoneType"
  | .bl _ => "bool"
  | .int _ => "int"
  | .str _ => "str"
  | .tup _ => "tuple"
  | .lst _ _ => "list"
  | .dct _ _ _ => "dict"
  | _ => ""
def opaqueD : D → Bool
  | .pen => true
  | .scr _ => true
  | _ => false
def isInt : D → Comp D
  | .int _ => .ret (.bl true)
  | .bl _ => .ret (.bl true)
  | d => if opaqueD d then .stuck else .ret (.bl false)
def isBool : D → Comp D
  | .bl _ => .ret (.bl true)
  | d => if opaqueD d then .stuck else .ret (.bl false)
def isStr : D → Comp D
  | .str _ => .ret (.bl true)
  | d => if opaqueD d then .stuck else .ret (.bl false)
def isTup : D → Comp D
  | .tup _ => .ret (.bl true)
  | d => if opaqueD d then .stuck else .ret (.bl false)
def isLst : D → Comp D
  | .lst _ _ => .ret (.bl true)
  | d => if opaqueD d then .stuck else .ret (.bl false)
def isDct : D → Comp D
  | .dct _ _ _ => .ret (.bl true)
  | d => if opaqueD d then .stuck else .ret (.bl false)
structure Isi (T : String) (g : D → Comp D) : Prop where
  q : ∀ d, (g d).quiet
  b : ∀ d, g d = .stuck ∨ ∃ r, g d = .ret (.bl r) ∧ kitB (tyN d) T = some r ∧ opaqueD d = false
theorem isi_int : Isi "int" isInt := ⟨fun d => by cases d <;> exact True.intro, fun d => by
  cases d <;> first | exact .inl rfl | exact .inr ⟨_, rfl, by simp only [tyN]; decide +kernel, rfl⟩⟩
theorem isi_bool : Isi "bool" isBool := ⟨fun d => by cases d <;> exact True.intro, fun d => by
  cases d <;> first | exact .inl rfl | exact .inr ⟨_, rfl, by simp only [tyN]; decide +kernel, rfl⟩⟩
theorem isi_str : Isi "str" isStr := ⟨fun d => by cases d <;> exact True.intro, fun d => by
  cases d <;> first | exact .inl rfl | exact .inr ⟨_, rfl, by simp only [tyN]; decide +kernel, rfl⟩⟩
theorem isi_tuple : Isi "tuple" isTup := ⟨fun d => by cases d <;> exact True.intro, fun d => by
  cases d <;> first | exact .inl rfl | exact .inr ⟨_, rfl, by simp only [tyN]; decide +kernel, rfl⟩⟩
theorem isi_list : Isi "list" isLst := ⟨fun d => by cases d <;> exact True.intro, fun d => by
  cases d <;> first | exact .inl rfl | exact .inr ⟨_, rfl, by simp only [tyN]; decide +kernel, rfl⟩⟩
theorem isi_dict : Isi "dict" isDct := ⟨fun d => by cases d <;> exact True.intro, fun d => by
  cases d <;> first | exact .inl rfl | exact .inr ⟨_, rfl, by simp only [tyN]; decide +kernel, rfl⟩⟩
theorem Rep.tyX {K : PySem.W.Frag} {PN : Pn} {H : Hp} {Z : Addr → Prop} {v : V} {d : D} {fp : List Addr} (r : Rep K PN H Z v d fp) (ho : opaqueD d = false) : TyX K H v (.type (tyN d)) := by
  cases r with
  | non => exact .base .non
  | bl => exact .base (.bl _)
  | int => exact .base (.int _)
  | str => exact .base (.str _)
  | tup h r =>
    rcases h with (h | ⟨o, h⟩) | ⟨o, its, n, h, c, _⟩
    · exact .base (.tup h)
    · exact .fTuple h
    · exact .kTuple h c
  | shr h z r => exact .base (.lst h)
  | own h r => exact .base (.lst h)
  | dshr h l z r => exact .base (.dK h)
  | down h l r => exact .base (.dK h)
  | pen h => cases ho
  | scr h => cases ho
section
variable {X : Cx} {W : WX} {vs : List Nat}
theorem ev_isi {T : String} {g : D → Comp D} {f : Env → Comp D} {e : Expr} {x : Str} {p q pos : Pos} (I : Isi T g) (hm : X.mg "isinstance" = none) (hx : X.mg x = none) (he : EV X W vs f e) (hg : Gl X "isinstance" := by rfl) (hgx : Gl X x := by rfl)
    (hvx : bootBuiltins x = some (.type T) := by decide +kernel) (hn : x ≠ "__name__" := by decide) (hdb : (x == ("__debug__" : Str)) = false := by decide)
    (hs : starEach (e :: [.Name x q]) X.env = (false, eval e X.env) :: starEach [.Name x q] X.env := by rfl) (hs2 : starEach [.Name x q] X.env = (false, eval (.Name x q) X.env) :: starEach [] X.env := by rfl) (hpl : (backTo pos (starEach [.Name x q] X.env)).any (·.1) = false := by rfl) :
    EV X W vs (eUn g f) (.Call (.Name "isinstance" p) [e, .Name x q] [] pos) := by
  refine peW (pe_callB call_isi hg hm (by decide +kernel) (pa_cons he (pa_cons (pe_bltn hgx hx hvx (v := .ty T) rfl hn hdb) pa_nil hs2) hs) (by decide) (by decide) hs hpl) fun σ H Q h => ?_
  obtain ⟨PN, n, Z, ρ, k, z, p, h⟩ := h
  rw [eUn, Comp.all_bind] at h
  refine ⟨PN, n, Z, ρ, k, z, p, Comp.all_mono (fun m d h => fun v PN' H' ev => ?_) (fun _ _ _ h => h) h⟩
  obtain ⟨Z', sh, r⟩ := ev.sh z
  refine ⟨v, .ty T, .type (tyN (fz d)), .type T, ?_⟩
  rcases I.b (fz d) with e | ⟨b, e, kb, ho⟩
  · rw [e] at h
    exact h.elim
  · rw [e] at h
    exact ⟨b, rfl, .ty T, r.tyX ho, kit_ty kb, h _ _ _ (Ev.after sh .bl)⟩
end
end Mid

namespace Mid
open PySem PySem.Spec PyProof.Rows L2

/-! ## comprehensions over two iterables -/
/-- the list at Dn grows: seen from PN1, H1, Z1 -/
structure Acc (K : PySem.W.Frag) (PN1 : Pn) (H1 : Hp) (Z1 : Addr → Prop) (Dn : Addr) (PN : Pn) (n : Nat) (Z : Addr → Prop) (H : Hp) (acc : List V) (es : List D) (fp : List Addr) : Prop where
  mv : Mv PN1 H1 PN H
  p : Pens PN n H
  zk : Zk PN Z H
  up : ∀ a, Z1 a → Z a
  down : ∀ a, Z a → Z1 a ∨ H1 a = none
  at_ : H Dn = some (.lst acc)
  rl : RepL K PN H Z acc es fp
  nd : (Dn :: fp).Nodup
  fr : ∀ a ∈ Dn :: fp, H1 a = none ∧ NP PN a ∧ H a ≠ none ∧ ¬ Z a
section
variable {K : PySem.W.Frag} {PN1 PN PN' : Pn} {H1 H H' : Hp} {Z1 Z Z' : Addr → Prop} {Dn : Addr} {n m : Nat} {acc : List V} {es : List D} {fp : List Addr}
theorem Acc.start (hD : H1 Dn = none) (p1 : Pens PN1 n H1) (z1 : Zk PN1 Z1 H1) : Acc K PN1 H1 Z1 Dn PN1 n Z1 (upd H1 Dn (.lst [])) [] [] [] :=
  ⟨.laid hD, p1.laid hD, z1.step (.laid hD), fun _ h => h, fun _ h => .inl h, upd_same, .nil, by simp, fun a ha => by
    have e : a = Dn := by simpa using ha
    subst e
    exact ⟨hD, p1.tracked hD, by rw [upd_same]; simp, fun q => (z1 a q).1 hD⟩⟩
theorem Acc.sh (A : Acc K PN1 H1 Z1 Dn PN n Z H acc es fp) (s : Sh K PN H Z m PN' H' Z') : Acc K PN1 H1 Z1 Dn PN' m Z' H' acc es fp :=
  ⟨A.mv.trans s.mv, s.pens, s.zk, fun a q => s.up a (A.up a q), fun a q => by
    rcases s.down a q with q | q
    · exact A.down a q
    · exact .inr (A.mv.keep a q), s.mv.ext _ _ A.at_ (A.fr Dn List.mem_cons_self).2.1,
    RepL.to (s.mv.pres A.p A.zk) s.mv.sub s.up es (fun a ha o e => s.mv.ext a o e (A.fr a (List.mem_cons_of_mem _ ha)).2.1) A.rl, A.nd, fun a ha => by
      obtain ⟨q1, q2, q3, q4⟩ := A.fr a ha
      refine ⟨q1, s.mv.np q2 q3, fun q => q3 (s.mv.keep a q), fun q => ?_⟩
      rcases s.down a q with q | q
      · exact q4 q
      · exact q3 q⟩
theorem Acc.push (A : Acc K PN1 H1 Z1 Dn PN n Z H acc es fp) {y : V} {e : D} (ev : Ev K PN H Z m y e PN' H') : H' Dn = some (.lst acc) ∧ ∃ Z' fp', (∀ a, Z a → Z' a) ∧ Acc K PN1 H1 Z1 Dn PN' m Z' (upd H' Dn (.lst (acc ++ [y]))) (acc ++ [y]) (es ++ [e]) fp' := by
  obtain ⟨fe, Ze, mve, pe, nde, hfe, hze, re⟩ := ev
  have haccE : H' Dn = some (.lst acc) := mve.ext _ _ A.at_ (A.fr Dn List.mem_cons_self).2.1
  have nDz : ∀ a, Z a ∨ Ze a → a ≠ Dn := fun a q ea => by
    subst ea
    rcases q with q | q
    · exact (A.fr a List.mem_cons_self).2.2.2 q
    · rcases (hze a q).1 with q | q
      · exact (A.fr a List.mem_cons_self).2.2.2 q
      · exact (A.fr a List.mem_cons_self).2.2.1 q
  have hD : H1 Dn = none := (A.fr Dn List.mem_cons_self).1
  have nfe : Dn ∉ fe := fun q => (A.fr Dn List.mem_cons_self).2.2.1 (hfe Dn q).1
  have nfp : Dn ∉ fp := (List.nodup_cons.mp A.nd).1
  refine ⟨haccE, fun a => Z a ∨ Ze a, fp ++ fe, fun _ q => .inl q, ⟨fun pc q => mve.sub pc (A.mv.sub pc q), fun pc q => (A.mv.trans mve).new pc q, fun a o q nq => ?_, fun a q => ?_⟩, ⟨pe.1, fun pp cc q => ?_⟩, fun a q => ?_, fun a q => .inl (A.up a q), fun a q => ?_, upd_same, ?_, ?_, ?_⟩
  · rw [upd_ne (ne_of_none q hD)]
    exact (A.mv.trans mve).ext a o q nq
  · by_cases ea : a = Dn
    · rw [ea]; exact hD
    · rw [upd_ne ea] at q
      exact (A.mv.trans mve).keep a q
  · have nD := (mve.np (A.fr Dn List.mem_cons_self).2.1 (A.fr Dn List.mem_cons_self).2.2.1) pp cc q
    obtain ⟨cs, at_, rest, a1, a2, a3⟩ := pe.2 pp cc q
    exact ⟨cs, at_, rest, by rw [upd_ne (Ne.symm nD.1)]; exact a1, by rw [upd_ne (Ne.symm nD.2)]; exact a2, a3⟩
  · rw [upd_ne (nDz a q)]
    rcases q with q | q
    · exact A.zk.step mve a q
    · exact ⟨(hze a q).2.2.2, (hze a q).2.2.1⟩
  · rcases q with q | q
    · exact A.down a q
    · rcases (hze a q).1 with q | q
      · exact A.down a q
      · exact .inr (A.mv.keep a q)
  · have prD : Pres (fun a => Z a ∨ Ze a) H' (upd H' Dn (.lst (acc ++ [y]))) :=
      ⟨fun a o q z => by rw [upd_ne (nDz a z)]; exact q, fun a xs q => by rw [upd_ne (fun ea => by subst ea; rw [haccE] at q; cases q)]; exact q, fun a o u q => by rw [upd_ne (fun ea => by subst ea; rw [haccE] at q; cases q)]; exact q⟩
    have rl3 : RepL K PN' H' (fun a => Z a ∨ Ze a) acc es fp := RepL.to ⟨fun a o q z => (mve.pres A.p A.zk).lst a o q z, (mve.pres A.p A.zk).tup, (mve.pres A.p A.zk).frz⟩ mve.sub (fun a h => .inl h) es (fun a ha o e => mve.ext a o e (A.fr a (List.mem_cons_of_mem _ ha)).2.1) A.rl
    have re3 : Rep K PN' H' (fun a => Z a ∨ Ze a) y e fe := Rep.to .refl (fun _ h => h) (fun a h => .inr h) e (fun _ _ _ h => h) re
    have both := RepL.append rl3 (.cons re3 .nil)
    rw [List.append_nil] at both
    refine RepL.to prD (fun _ h => h) (fun _ h => h) _ (fun a ha o e => ?_) both
    rw [upd_ne (fun ea => by
      subst ea
      rcases List.mem_append.mp ha with q | q
      · exact nfp q
      · exact nfe q)]
    exact e
  · have q := List.nodup_cons.mp A.nd
    refine List.nodup_cons.mpr ⟨fun hm => ?_, List.nodup_append.mpr ⟨q.2, nde, fun a ha b hb e => ?_⟩⟩
    · rcases List.mem_append.mp hm with r | r
      · exact q.1 r
      · exact nfe r
    · subst e
      exact (A.fr a (List.mem_cons_of_mem _ ha)).2.2.1 (hfe a hb).1
  · intro a ha
    have key : a ∈ Dn :: fp ∨ a ∈ fe := by
      rcases List.mem_cons.mp ha with r | r
      · exact .inl (by rw [r]; exact List.mem_cons_self)
      · rcases List.mem_append.mp r with r | r
        · exact .inl (List.mem_cons_of_mem _ r)
        · exact .inr r
    have there : ∀ b, H' b ≠ none → upd H' Dn (.lst (acc ++ [y])) b ≠ none := fun b q => by
      by_cases eb : b = Dn
      · rw [eb, upd_same]; simp
      · rw [upd_ne eb]; exact q
    rcases key with q | q
    · obtain ⟨q1, q2, q3, q4⟩ := A.fr a q
      refine ⟨q1, mve.np q2 q3, there a fun r => q3 (mve.keep a r), fun z => ?_⟩
      rcases z with z | z
      · exact q4 z
      · rcases (hze a z).1 with z | z
        · exact q4 z
        · exact q3 z
    · obtain ⟨q1, q2, q3⟩ := hfe a q
      refine ⟨A.mv.keep a q1, q2, there a q3, fun z => ?_⟩
      rcases z with z | z
      · exact (A.zk a z).1 q1
      · exact (hze a z).2.1 q
theorem Acc.done (A : Acc K PN1 H1 Z1 Dn PN n Z H acc es fp) : Ev K PN1 H1 Z1 n (.ref Dn) (.lst true es) PN H :=
  ⟨Dn :: fp, Z, A.mv, A.p, A.nd, fun a ha => ⟨(A.fr a ha).1, (A.fr a ha).2.1, (A.fr a ha).2.2.1⟩, fun a z => ⟨A.down a z, fun q => (A.fr a q).2.2.2 z, (A.zk a z).2, (A.zk a z).1⟩, .own A.at_ A.rl⟩
theorem Acc.seen (A : Acc K PN1 H1 Z1 Dn PN n Z H acc es fp) : Sh K PN1 H1 Z1 n PN H Z := ⟨A.mv, A.p, A.zk, A.up, A.down⟩
end
def few : Nat := 2000
/-- for d in ds if c: for d1 in it1 if c1: f -/
def comp2L (t : Tg) (c : Env → Comp Bool) (it1 : Env → Comp (List D)) (own1 : List Nat) (t1 : Tg) (c1 : Env → Comp Bool) (f : Env → Comp D) (ρ : Env) : List D → Comp (List D)
  | [] => .ret []
  | d :: ds => match t d ρ with
    | none => .stuck
    | some ρ' => (c ρ').sure.bind fun b => if b then (it1 ρ').sure.bind fun ds1 => if ds1.length < few then (compL t1 c1 f (wipeE ρ' own1) ds1).bind fun es1 => (comp2L t c it1 own1 t1 c1 f ρ ds).bind fun es => .ret (es1 ++ es) else .stuck else comp2L t c it1 own1 t1 c1 f ρ ds
def eComp2 (own : List Nat) (it : Env → Comp (List D)) (t : Tg) (c : Env → Comp Bool) (it1 : Env → Comp (List D)) (own1 : List Nat) (t1 : Tg) (c1 : Env → Comp Bool) (f : Env → Comp D) : Env → Comp D := fun ρ => (it ρ).bind fun ds => if ds.length < few then (comp2L t c it1 own1 t1 c1 f (wipeE ρ own) ds).bind fun es => .ret (.lst true es) else .stuck
section
variable {X : Cx} {W : WX} {vs : List Nat}
/-- a target's names are bound; what else is read stays -/
theorem bind_pk {is own vs2 : List Nat} {t : Tg} {PN : Pn} {n : Nat} {H H' : Hp} {Z : Addr → Prop} {ρ ρ' : Env} {σ : L2.St} {x : V} {d : D} {Q : L2.St → Hp → Prop} (his : ∀ i ∈ is, i ∈ own) (hvs : ∀ i ∈ vs2, i ∈ own ∨ i ∈ vs) (k2 : Pk X.K PN H' Z vs ρ σ) (r : Rep X.K PN H' Z x d []) (et : t d (wipeE ρ own) = some ρ')
    (q : ∀ σ2, wipe σ2 own = wipe σ own → Pk X.K PN H' Z vs2 ρ' σ2 → Q σ2 H') : gAny X.K is t x (wipe σ own) H' Q := by
  refine ⟨PN, Z, fun ρ2 σ2 H2 => H2 = H' ∧ Pk X.K PN H2 Z vs2 ρ2 σ2 ∧ wipe σ2 own = wipe σ own, wipeE ρ own, d, ρ', fun ρ2 σ2 H2 j v d hj ⟨e, kk, ew⟩ rr => ⟨e, ⟨by simp [kk.1], fun l hl2 d' hd' => ?_⟩, by rw [wipe_set (his j hj)]; exact ew⟩, ⟨rfl, ⟨by rw [wipeE_length, wipe_length]; exact k2.1, fun l hl2 d' hd' => ?_⟩, wipe_wipe⟩, r, et, fun σ2 ⟨_, kk, ew⟩ => q σ2 ew kk⟩
  · by_cases hjl : j = l
    · subst hjl
      have hlen : j < ρ2.length := by
        have := (List.getElem?_eq_some_iff.mp hd').1
        simpa using this
      rw [List.getElem?_set_self hlen] at hd'
      cases hd'
      exact ⟨v, by rw [List.getElem?_set_self (by rw [← kk.1]; exact hlen)], rr⟩
    · rw [List.getElem?_set_ne hjl] at hd'
      obtain ⟨u, h1, h2⟩ := kk.2 l hl2 d' hd'
      exact ⟨u, by rw [List.getElem?_set_ne hjl]; exact h1, h2⟩
  · obtain ⟨h1, h2⟩ := wipeE_some hd'
    rcases hvs l hl2 with q | q
    · exact absurd q h2
    · obtain ⟨u, h3, h4⟩ := k2.2 l q d' h1
      exact ⟨u, by rw [wipe_at, if_neg h2]; exact h3, h4⟩
theorem pres_at {Z : Addr → Prop} {H : Hp} {a : Addr} {old new : List V} (h : H a = some (.lst old)) (z : ¬ Z a) : Pres Z H (L2.upd H a (.lst new)) :=
  ⟨fun b o e q => by rw [upd_ne (by intro x; rw [x] at q; exact z q)]; exact e, fun b xs e => by rw [upd_ne (by intro x; rw [x, h] at e; cases e)]; exact e, fun b o u e => by rw [upd_ne (by intro x; rw [x, h] at e; cases e)]; exact e⟩
theorem Pk.pres {K : PySem.W.Frag} {PN PN' : Pn} {H H' : Hp} {Z Z' : Addr → Prop} {ρ : Env} {σ : L2.St} (k : Pk K PN H Z vs ρ σ) (pr : Pres Z H H') (pn : ∀ pc, PN = some pc → PN' = some pc) (zz : ∀ a, Z a → Z' a) : Pk K PN' H' Z' vs ρ σ :=
  ⟨k.1, fun i hi d hd => by
    obtain ⟨v, h1, h2⟩ := k.2 i hi d hd
    exact ⟨v, h1, Rep.to pr pn zz d (fun _ h => nomatch h) h2⟩⟩
theorem comp2_pre {own own1 : List Nat} {it it1 : Env → Comp (List D)} {t t1 : Tg} {c c1 : Env → Comp Bool} {f : Env → Comp D} {is is1 vs2 vs3 : List Nat} (hv : ∀ i ∈ own1, i ∈ own) (his : ∀ i ∈ is, i ∈ own) (hvs : ∀ i ∈ vs2, i ∈ own ∨ i ∈ vs) (his1 : ∀ i ∈ is1, i ∈ own1) (hvs1 : ∀ i ∈ vs3, i ∈ own1 ∨ i ∈ vs2) :
    ∀ σ H Q, ePre X.K X.mg W vs (eComp2 own it t c it1 own1 t1 c1 f) σ H Q → tLc2 (iPre X.K X.mg W vs it) (gAny X.K is t) (bPre X.K X.mg W0 vs2 c) (iPre X.K X.mg W0 vs2 it1) (gAny X.K is1 t1) (bPre X.K X.mg W0 vs3 c1) (ePre X.K X.mg W0 vs3 f) own own1 σ H Q := fun σ H Q h => by
  obtain ⟨PN0, n0, Z0, ρ, k, z, p0, h⟩ := h
  rw [eComp2, Comp.all_bind] at h
  refine ⟨PN0, n0, Z0, ρ, k, z, p0, Comp.all_mono (fun m ds h => fun J PN1 H1 Z1 sh wk Dn hD => ?_) (fun _ _ _ h => h) h⟩
  split at h
  case isFalse => exact h.elim
  rename_i hl
  rw [Comp.all_bind] at h
  have k1 := k.step sh p0 z
  have h := Comp.all_mono (Q' := fun m' es => ∀ v PN' H', Ev X.K PN1 H1 Z1 m' v (.lst true es) PN' H' → Q v H') (fun m' es q v PN' H' ev => q v PN' H' (ev.back sh)) (fun _ _ _ q => q) h
  let G : Nat → Hp → Prop := fun i Hx => i ≤ ds.length ∧ ∃ PN n Z acc es fp, Acc X.K PN1 H1 Z1 Dn PN n Z Hx acc es fp ∧ acc.length ≤ i * few ∧
    (comp2L t c it1 own1 t1 c1 f (wipeE ρ own) (ds.drop i)).all (fun m es' => ∀ v PN' H', Ev X.K PN1 H1 Z1 m v (.lst true (es ++ es')) PN' H' → Q v H') (Out X.mg W PN0 H σ) n
  refine ⟨fun i m H => m = ds.length - i ∧ G i H, ⟨ds.length, rfl, Nat.zero_le _, PN1, m, Z1, [], [], [], Acc.start hD sh.pens sh.zk, Nat.zero_le _, h⟩, ?_⟩
  rintro i m0 H2 ⟨rfl, hi, PN, n, Z, acc, es, fp, A, hal, h⟩
  obtain ⟨w1, w2⟩ := wk PN H2 Z n (A.mv.pres sh.pens sh.zk) A.mv.sub A.up A.zk A.p
  by_cases hlt : i < ds.length
  · obtain ⟨go, yl⟩ := w1 i hlt
    rw [List.drop_eq_getElem_cons hlt] at h
    refine .inr ⟨go, G (i + 1), fun H' q => ⟨ds.length - (i + 1), by omega, rfl, q⟩, fun x H' hy => ?_⟩
    obtain ⟨d, hd, sh2, r⟩ := yl x H' hy
    rw [List.getElem?_eq_getElem hlt] at hd
    cases hd
    unfold comp2L at h
    split at h
    · exact h.elim
    rename_i ρ' et
    refine bind_pk (H := H) (n := n) his hvs ((k1.step A.seen sh.pens sh.zk).step sh2 A.p A.zk) r et fun σ2 ew kk => ⟨ew, ?_⟩
    rw [Comp.all_bind] at h
    refine ⟨PN, n, Z, ρ', kk, sh2.zk, sh2.pens, Comp.all_mono (fun m2 b h => fun PNb Hb Zb shb => ?_) (fun _ _ _ h => h) (Comp.all_sure h)⟩
    have Ab := A.sh (sh2.trans shb)
    cases b with
    | false =>
      refine iteF ?_
      exact ⟨hlt, PNb, m2, Zb, acc, es, fp, Ab, Nat.le_trans hal (Nat.mul_le_mul_right _ (Nat.le_succ i)), h⟩
    | true =>
      refine iteT ?_
      have h := Comp.all_bind.mp h
      refine ⟨PNb, m2, Zb, ρ', kk.step shb sh2.pens sh2.zk, shb.zk, shb.pens, Comp.all_mono (fun m3 ds1 h => fun J1 PNc Hc Zc shc wk1 => ?_) (fun _ _ _ h => h) (Comp.all_sure h)⟩
      split at h
      case isFalse => exact h.elim
      rename_i hl1
      have Ac := Ab.sh shc
      have kc := (kk.step shb sh2.pens sh2.zk).step shc shb.pens shb.zk
      let rest : List D → Comp (List D) := fun es1 => (comp2L t c it1 own1 t1 c1 f (wipeE ρ own) (ds.drop (i + 1))).bind fun es => .ret (es1 ++ es)
      let G1 : Nat → Hp → Prop := fun j Hx => j ≤ ds1.length ∧ ∃ PN n Z acc es fp, Acc X.K PN1 H1 Z1 Dn PN n Z Hx acc es fp ∧ Pres Zc Hc Hx ∧ (∀ pc, PNc = some pc → PN = some pc) ∧ (∀ a, Zc a → Z a) ∧ acc.length ≤ i * few + j ∧
        ((compL t1 c1 f (wipeE ρ' own1) (ds1.drop j)).bind rest).all (fun m es' => ∀ v PN' H', Ev X.K PN1 H1 Z1 m v (.lst true (es ++ es')) PN' H' → Q v H') (Out X.mg W PN0 H σ) n
      refine ⟨fun j k H => k = ds1.length - j ∧ G1 j H, ⟨ds1.length, rfl, Nat.zero_le _, PNc, m3, Zc, acc, es, fp, Ac, .refl, fun _ h => h, fun _ h => h, by omega, h⟩, ?_⟩
      rintro j k0 H3 ⟨rfl, hj, PN3, n3, Z3, acc3, es3, fp3, A3, pr3, pn3, zz3, hal3, h⟩
      obtain ⟨v1, v2⟩ := wk1 PN3 H3 Z3 n3 pr3 pn3 zz3 A3.zk A3.p
      by_cases hlt1 : j < ds1.length
      · obtain ⟨go1, yl1⟩ := v1 j hlt1
        rw [List.drop_eq_getElem_cons hlt1] at h
        refine .inr ⟨go1, G1 (j + 1), fun H' q => ⟨ds1.length - (j + 1), by omega, rfl, q⟩, fun y H4 hy1 => ?_⟩
        obtain ⟨d1, hd1, sh4, r1⟩ := yl1 y H4 hy1
        rw [List.getElem?_eq_getElem hlt1] at hd1
        cases hd1
        unfold compL at h
        split at h
        · exact h.elim
        rename_i ρ'' et1
        refine bind_pk (H := H) (n := n) his1 hvs1 ((kc.pres pr3 pn3 zz3).step sh4 A3.p A3.zk) r1 et1 fun σ3 ew1 kk3 => ⟨ew1, ?_⟩
        rw [Comp.all_bind, Comp.all_bind] at h
        refine ⟨PN3, n3, Z3, ρ'', kk3, sh4.zk, sh4.pens, Comp.all_mono (fun m5 b h => fun PN5 H5 Z5 sh5 => ?_) (fun _ _ _ h => h) (Comp.all_sure h)⟩
        have A5 := A3.sh (sh4.trans sh5)
        have pr5 : Pres Zc Hc H5 := pr3.trans zz3 ((sh4.trans sh5).mv.pres A3.p A3.zk)
        cases b with
        | false =>
          refine iteF ?_
          rw [← Comp.all_bind] at h
          exact ⟨hlt1, PN5, m5, Z5, acc3, es3, fp3, A5, pr5, fun pc q => sh5.mv.sub pc (pn3 pc q), fun a q => sh5.up a (zz3 a q), by omega, h⟩
        | true =>
          refine iteT ?_
          rw [if_pos rfl, Comp.all_bind] at h
          refine ⟨PN5, m5, Z5, ρ'', kk3.step sh5 sh4.pens sh4.zk, sh5.zk, sh5.pens, Comp.all_mono (fun m6 e h => fun y6 PN6 H6 ev => ?_) (fun _ _ _ h => h) (Comp.all_sure h)⟩
          have mv6 := ev.choose_spec.choose_spec.1
          obtain ⟨haccE, Z6, fp6, zz6, A6⟩ := A5.push ev
          have zD : ¬ Zc Dn := fun q => (A5.fr Dn List.mem_cons_self).2.2.2 (sh5.up _ (zz3 _ q))
          have hfew : few = 2000 := rfl
          have hsz := sizeLine_eq
          have b1 : i * few ≤ 2000 * few := Nat.mul_le_mul_right _ (by omega)
          refine ⟨acc3, haccE, by omega, hlt1, PN6, m6, Z6, _, _, fp6, A6, (pr5.trans (fun a q => sh5.up a (zz3 a q)) (mv6.pres A5.p A5.zk)).trans (fun _ h => h) (pres_at haccE zD), fun pc q => mv6.sub pc (sh5.mv.sub pc (pn3 pc q)), ?_, by simp; omega, ?_⟩
          · exact fun a q => zz6 a (sh5.up a (zz3 a q))
          · rw [Comp.all_bind] at h
            rw [Comp.all_bind]
            refine Comp.all_mono (fun m7 es7 h => ?_) (fun _ _ _ h => h) h
            have h := Comp.all_bind.mp h
            show (rest es7).all _ _ m7
            refine Comp.all_bind.mpr (Comp.all_mono (fun m8 es8 h => fun v PN' H' ev' => ?_) (fun _ _ _ h => h) h)
            refine h v PN' H' ?_
            rw [List.append_assoc] at ev'
            exact ev'
      · have e : j = ds1.length := by omega
        subst e
        rw [List.drop_length] at h
        refine .inl ⟨v2, hlt, PN3, n3, Z3, acc3, es3, fp3, A3, by have := Nat.add_mul i 1 few; omega, ?_⟩
        have h := (Comp.all_bind (c := compL t1 c1 f (wipeE ρ' own1) [])).mp h
        have h := (Comp.all_bind (c := comp2L t c it1 own1 t1 c1 f (wipeE ρ own) (ds.drop (i + 1)))).mp h
        refine Comp.all_mono (fun m8 es8 h => fun v PN' H' ev' => ?_) (fun _ _ _ h => h) h
        exact h v PN' H' ev'
  · have e : i = ds.length := by omega
    subst e
    rw [List.drop_length] at h
    refine .inl ⟨w2, h _ PN H2 ?_⟩
    rw [List.append_nil]
    exact A.done
theorem ev_comp2 {elt tg iter tg1 iter1 : Expr} {ifs ifs1 : List Expr} {scope : Scope} {own : List (Str × Nat)} {own1 : List Nat} {pos : Pos} {it it1 : Env → Comp (List D)} {t t1 : Tg} {c c1 : Env → Comp Bool} {f : Env → Comp D} {is is1 vs2 vs3 : List Nat} (hc : X.calm = true) (hN : X.N.Nodup) (hi : IV X W vs it tg iter) (ok : blkC X.N X.env.scope scope own = true)
    (hg : ∀ (s : Shared) (H : Hp) (C : Addr) (cl : List (Str × Addr)) (fp : List Addr), PG (X.blk s H scope (compEnvC scope cl C X.env) fp) tg (gAny X.K is t)) (ht : ∀ (s : Shared) (H : Hp) (C : Addr) (cl : List (Str × Addr)) (fp : List Addr), PTs (X.blk s H scope (compEnvC scope cl C X.env) fp) ifs (bPre X.K X.mg W0 vs2 c))
    (hi1 : ∀ (s : Shared) (H : Hp) (C : Addr) (cl : List (Str × Addr)) (fp : List Addr), PI (X.blk s H scope (compEnvC scope cl C X.env) fp) tg1 iter1 (iPre X.K X.mg W0 vs2 it1))
    (hg1 : ∀ (s : Shared) (H : Hp) (C : Addr) (cl : List (Str × Addr)) (fp : List Addr), PG (X.blk s H scope (compEnvC scope cl C X.env) fp) tg1 (gAny X.K is1 t1)) (ht1 : ∀ (s : Shared) (H : Hp) (C : Addr) (cl : List (Str × Addr)) (fp : List Addr), PTs (X.blk s H scope (compEnvC scope cl C X.env) fp) ifs1 (bPre X.K X.mg W0 vs3 c1))
    (he : ∀ (s : Shared) (H : Hp) (C : Addr) (cl : List (Str × Addr)) (fp : List Addr), PE (X.blk s H scope (compEnvC scope cl C X.env) fp) elt (ePre X.K X.mg W0 vs3 f)) (hv : own1.all (fun i => (own.map (·.2)).contains i) = true := by rfl)
    (his : is.all (fun i => (own.map (·.2)).contains i) = true := by rfl) (hvs : vs2.all (fun i => (own.map (·.2)).contains i || vs.contains i) = true := by rfl)
    (his1 : is1.all (fun i => own1.contains i) = true := by rfl) (hvs1 : vs3.all (fun i => own1.contains i || vs2.contains i) = true := by rfl)
    (hs : ∀ x, foldedSetIterable iter X.env x = pure x := by intro _; rfl) (hs1 : ∀ env x, foldedSetIterable iter1 env x = pure x := by intro _ _; rfl) : EV X W vs (eComp2 (own.map (·.2)) it t c it1 own1 t1 c1 f) (.ListComp elt [⟨tg, iter, ifs, 0⟩, ⟨tg1, iter1, ifs1, 0⟩] scope pos) := by
  have mem : ∀ {a b : List Nat}, a.all (fun i => b.contains i) = true → ∀ i ∈ a, i ∈ b := fun h i hi => by simpa using List.all_eq_true.mp h i hi
  have mem2 : ∀ {a b e : List Nat}, a.all (fun i => b.contains i || e.contains i) = true → ∀ i ∈ a, i ∈ b ∨ i ∈ e := fun h i hi => by simpa using List.all_eq_true.mp h i hi
  exact peW (pe_lc2 hc hN hi (blkOk_by ok) (mem hv) hg ht hi1 hg1 ht1 he hs hs1) (comp2_pre (mem hv) (mem his) (mem2 hvs) (mem his1) (mem2 hvs1))
theorem sv_asgC2 {i : Nat} {y : Str} {py spos : Pos} {elt tg iter tg1 iter1 : Expr} {ifs ifs1 : List Expr} {scope : Scope} {own : List (Str × Nat)} {own1 : List Nat} {pos : Pos} {it it1 : Env → Comp (List D)} {t t1 : Tg} {c c1 : Env → Comp Bool} {f : Env → Comp D} {is is1 vs2 vs3 : List Nat} (hc : X.calm = true) (hN : X.N.Nodup) (hi : IV X W vs it tg iter) (ok : blkC X.N X.env.scope scope own = true)
    (hg : ∀ (s : Shared) (H : Hp) (C : Addr) (cl : List (Str × Addr)) (fp : List Addr), PG (X.blk s H scope (compEnvC scope cl C X.env) fp) tg (gAny X.K is t)) (ht : ∀ (s : Shared) (H : Hp) (C : Addr) (cl : List (Str × Addr)) (fp : List Addr), PTs (X.blk s H scope (compEnvC scope cl C X.env) fp) ifs (bPre X.K X.mg W0 vs2 c))
    (hi1 : ∀ (s : Shared) (H : Hp) (C : Addr) (cl : List (Str × Addr)) (fp : List Addr), PI (X.blk s H scope (compEnvC scope cl C X.env) fp) tg1 iter1 (iPre X.K X.mg W0 vs2 it1))
    (hg1 : ∀ (s : Shared) (H : Hp) (C : Addr) (cl : List (Str × Addr)) (fp : List Addr), PG (X.blk s H scope (compEnvC scope cl C X.env) fp) tg1 (gAny X.K is1 t1)) (ht1 : ∀ (s : Shared) (H : Hp) (C : Addr) (cl : List (Str × Addr)) (fp : List Addr), PTs (X.blk s H scope (compEnvC scope cl C X.env) fp) ifs1 (bPre X.K X.mg W0 vs3 c1))
    (he : ∀ (s : Shared) (H : Hp) (C : Addr) (cl : List (Str × Addr)) (fp : List Addr), PE (X.blk s H scope (compEnvC scope cl C X.env) fp) elt (ePre X.K X.mg W0 vs3 f)) (hv : own1.all (fun i => (own.map (·.2)).contains i) = true := by rfl)
    (his : is.all (fun i => (own.map (·.2)).contains i) = true := by rfl) (hvs : vs2.all (fun i => (own.map (·.2)).contains i || vs.contains i) = true := by rfl)
    (his1 : is1.all (fun i => own1.contains i) = true := by rfl) (hvs1 : vs3.all (fun i => own1.contains i || vs2.contains i) = true := by rfl)
    (hy : X.N[i]? = some y := by rfl) (hyl : X.env.scope.names.lookup y = some .local := by rfl) (hsw : swapsWith (.ListComp elt [⟨tg, iter, ifs, 0⟩, ⟨tg1, iter1, ifs1, 0⟩] scope pos) (some (.Name y py)) spos.line X.env = pure true := by rfl)
    (hs : ∀ x, foldedSetIterable iter X.env x = pure x := by intro _; rfl) (hs1 : ∀ env x, foldedSetIterable iter1 env x = pure x := by intro _ _; rfl) : SV X W (sAsg i vs (eComp2 (own.map (·.2)) it t c it1 own1 t1 c1 f)) (.Assign [.Name y py] (.ListComp elt [⟨tg, iter, ifs, 0⟩, ⟨tg1, iter1, ifs1, 0⟩] scope pos) spos) := by
  refine psW (ps_setLc2 hc hN hy hyl hsw hi (blkOk_by ok) (all_mem hv) hg ht hi1 hg1 ht1 he hs hs1) fun D' σ H h => ?_
  obtain ⟨B, PN, n, Z, ρ, o, s, p, h⟩ := h
  refine comp2_pre (all_mem hv) (all_mem his) (all_mem2 hvs) (all_mem his1) (all_mem2 hvs1) σ H _ (run_pre (Q := fun v H1 => gName i v σ H1 D'.nx) s p h fun m d v PN' H' ev h => ?_)
  obtain ⟨p', Z', o', s'⟩ := s.store (i := i) p ev
  exact h PN' H' Z' _ o' s' p'
end
end Mid

namespace Mid
open PySem PySem.Spec PyProof.Rows L2

/-! ## a op b op c -/
def eChain (g g' : D → D → Comp D) (f1 f2 f3 : Env → Comp D) : Env → Comp D := fun ρ => (f1 ρ).bind fun d1 => (f2 ρ).bind fun d2 => (g (fz d1) (fz d2)).bind fun r => (asB r).bind fun b => if b then (f3 ρ).bind fun d3 => g' (fz d2) (fz d3) else .ret (.bl false)
section
variable {X : Cx} {W : WX} {vs : List Nat}
theorem chain_pre {a b c : TE} {f1 f2 f3 : Env → Comp D} {g g' : D → D → Comp D} (ha : ∀ σ H Q, ePre X.K X.mg W vs f1 σ H Q → a σ H Q) (hb : ∀ σ H Q, ePre X.K X.mg W vs f2 σ H Q → b σ H Q) (hc : ∀ σ H Q, ePre X.K X.mg W vs f3 σ H Q → c σ H Q) (hg : ∀ d e, (g d e).quiet) (hg' : ∀ d e, (g' d e).quiet) :
    ∀ σ H Q, ePre X.K X.mg W vs (eChain g g' f1 f2 f3) σ H Q → tChain (r2 X.K g) (r2 X.K g') a b c σ H Q := fun σ H Q h => by
  obtain ⟨PN, n, Z, ρ, k, z, p, h⟩ := h
  rw [eChain, Comp.all_bind] at h
  refine ha σ H _ ⟨PN, n, Z, ρ, k, z, p, Comp.all_mono (fun m d h => fun v PN1 H1 ev => ?_) (fun _ _ _ h => h) h⟩
  obtain ⟨Z1, s1, r1⟩ := ev.sh z
  rw [Comp.all_bind] at h
  refine hb σ H1 _ ⟨PN1, m, Z1, ρ, k.step s1 p z, s1.zk, s1.pens, Comp.all_mono (fun m' d' h => fun v' PN2 H2 ev' => ?_) (fun _ _ _ h => h.back s1.mv) h⟩
  obtain ⟨Z2, s2, q2⟩ := ev'.sh s1.zk
  rw [Comp.all_bind] at h
  refine ⟨PN2, m', Z2, fz d, fz d', r1.step s2 s1.pens s1.zk, q2, s2.zk, s2.pens, Comp.all_quiet (hg _ _) (Comp.all_mono (fun m2 r h => fun w PN3 H3 ev3 => ?_) (fun _ _ _ h => h) h)⟩
  obtain ⟨Z3, s3, q3⟩ := ev3.sh s2.zk
  cases r with
  | bl b =>
    cases q3
    refine ⟨b, rfl, ?_⟩
    rw [Comp.all_bind] at h
    have h : (if b = true then (f3 ρ).bind fun d3 => g' (fz d') (fz d3) else Comp.ret (.bl false)).all _ _ m2 := h
    cases b with
    | false => exact h _ PN3 H3 (Ev.after ((s1.trans s2).trans s3) .bl)
    | true =>
      refine iteT ?_
      rw [if_pos rfl, Comp.all_bind] at h
      have k3 := ((k.step s1 p z).step s2 s1.pens s1.zk).step s3 s2.pens s2.zk
      refine hc σ H3 _ ⟨PN3, m2, Z3, ρ, k3, s3.zk, s3.pens, Comp.all_mono (fun m4 d4 h => fun v4 PN4 H4 ev4 => ?_) (fun _ _ _ h => h.back ((s1.mv.trans s2.mv).trans s3.mv)) h⟩
      obtain ⟨Z4, s4, q4⟩ := ev4.sh s3.zk
      refine ⟨PN4, m4, Z4, fz d', fz d4, (q2.step s3 s2.pens s2.zk).step s4 s3.pens s3.zk, q4, s4.zk, s4.pens, Comp.all_quiet (hg' _ _) (Comp.all_mono (fun m5 r5 h => fun w5 PN5 H5 ev5 => ?_) (fun _ _ _ h => h) h)⟩
      exact h w5 PN5 H5 (Ev.back (((s1.trans s2).trans s3).trans s4) ev5)
  | _ => exact h.elim
theorem ev_chain {op op' : CmpOp} {g g' : D → D → Comp D} {a b c : Expr} {f1 f2 f3 : Env → Comp D} {pos : Pos} (ho : OpR X (compareOp op) (r2 X.K g)) (hg : ∀ d e, (g d e).quiet) (ho' : OpR X (compareOp op') (r2 X.K g')) (hg' : ∀ d e, (g' d e).quiet) (ha : EV X W vs f1 a) (hb : EV X W vs f2 b) (hc : EV X W vs f3 c)
    (hm : lastMarks [op, op'] [b, c] = false := by with_unfolding_all rfl) : EV X W vs (eChain g g' f1 f2 f3) (.Compare a [op, op'] [b, c] pos) :=
  peW (pe_chain ho ho' ha hb hc hm) (chain_pre (fun _ _ _ h => h) (fun _ _ _ h => h) (fun _ _ _ h => h) hg hg')
theorem eb_chain {op op' : CmpOp} {g g' : D → D → Comp D} {a b c : Expr} {f1 f2 f3 : Env → Comp D} {pos : Pos} (ho : OpR X (compareOp op) (r2 X.K g)) (hg : ∀ d e, (g d e).quiet) (ho' : OpR X (compareOp op') (r2 X.K g')) (hg' : ∀ d e, (g' d e).quiet) (ha : EV X W vs f1 a) (hb : EV X W vs f2 b) (hc : EV X W vs f3 c)
    (hm : lastMarks [op, op'] [b, c] = false := by with_unfolding_all rfl) : EB X W vs (bOf (eChain g g' f1 f2 f3)) (.Compare a [op, op'] [b, c] pos) := by
  refine ptW (pt_chain ho ho' ha hb hc hm) fun σ H Q h => ?_
  refine chain_pre (fun _ _ _ h => h) (fun _ _ _ h => h) (fun _ _ _ h => h) hg hg' σ H _ ?_
  obtain ⟨PN, n, Z, ρ, k, z, p, h⟩ := h
  rw [bOf, Comp.all_bind] at h
  refine ⟨PN, n, Z, ρ, k, z, p, Comp.all_mono (fun m d h => fun v PN1 H1 ev => ?_) (fun _ _ _ h => h) h⟩
  obtain ⟨Z1, s1, r1⟩ := ev.sh z
  cases d with
  | bl b =>
    cases r1
    exact ⟨b, rfl, h PN1 H1 Z1 s1⟩
  | _ => exact h.elim
/-- a global int -/
theorem ev_gint {x : Str} {i : Int} {pos : Pos} (hm : ∃ t, X.mg x = some (.int i t)) (hg : Gl X x := by rfl) (hd : (x == ("__debug__" : Str)) = false := by decide) : EV X W vs (eK (.int i)) (.Name x pos) := by
  obtain ⟨t, hm⟩ := hm
  exact ev_k (pe_glob hg hm (v := .int i) ⟨t, rfl⟩ hd) fun _ _ _ => .int
theorem ev_gstr {x z : Str} {pos : Pos} (hm : ∃ t, X.mg x = some (.str z t)) (hg : Gl X x := by rfl) (hd : (x == ("__debug__" : Str)) = false := by decide) : EV X W vs (eK (.str z)) (.Name x pos) := by
  obtain ⟨t, hm⟩ := hm
  exact ev_k (pe_glob hg hm (v := .str z) ⟨t, rfl⟩ hd) fun _ _ _ => .str
end

/-! ## a, b = e1, e2 -/
section
variable {K : PySem.W.Frag} {B : Bs} {PN PN' : Pn} {H H' : Hp} {Z Z' : Addr → Prop} {ρ ρ' : Env} {σ σ' : L2.St} {o o' : Addr → Option Nat} {m n : Nat} {vs : List Nat}
/-- a value, with another held meanwhile -/
theorem SOk.gainH (s : SOk K B PN H Z ρ σ o) (p : Pens PN n H) {v w : V} {d e : D} {fe : List Addr} (nde : fe.Nodup) (hfe : ∀ b ∈ fe, B.h b = none ∧ ¬ Z b ∧ NP PN b ∧ H b ≠ none ∧ ∀ j, o b ≠ some j) (re : Rep K PN H Z w e fe) (ev : Ev K PN H (Zv Z o vs) m v d PN' H') :
    Pens PN' m H' ∧ ∃ Z' o' fp, SOk K B PN' H' Z' (upE vs d ρ) σ o' ∧ fp.Nodup ∧ (∀ a ∈ fp, B.h a = none ∧ ¬ Z' a ∧ NP PN' a ∧ H' a ≠ none ∧ ∀ j, o' a ≠ some j) ∧ Rep K PN' H' Z' v d fp ∧
      (∀ a ∈ fe, B.h a = none ∧ ¬ Z' a ∧ NP PN' a ∧ H' a ≠ none ∧ ∀ j, o' a ≠ some j) ∧ Rep K PN' H' Z' w e fe ∧ ∀ a ∈ fe, a ∉ fp := by
  obtain ⟨fp, Z1, mv, p', nd, hf, hz, r⟩ := ev
  refine ⟨p', ?_⟩
  have dis : ∀ a ∈ fe, a ∉ fp := fun a ha q => (hfe a ha).2.2.2.1 (hf a q).1
  have fr : ∀ a ∈ fp, B.h a = none ∧ NP PN' a ∧ H' a ≠ none ∧ ∀ j, o a ≠ some j := fun a ha => by
    obtain ⟨h1, h2, h3⟩ := hf a ha
    exact ⟨s.mv.keep a h1, h2, h3, fun j hj => (s.own a j hj).2.2.2 h1⟩
  have rw' : Rep K PN' H' Z w e fe := Rep.to (mv.pres p s.zk) mv.sub (fun _ h => h) e (fun a ha ob q => mv.ext a ob q (hfe a ha).2.2.1) re
  have he : ∀ a ∈ fe, B.h a = none ∧ NP PN' a ∧ H' a ≠ none := fun a ha => by
    obtain ⟨h1, h2, h3, h4, h5⟩ := hfe a ha
    exact ⟨h1, mv.np h3 h4, fun q => h4 (mv.keep a q)⟩
  unfold upE
  by_cases hn : noShr d = true
  · rw [if_pos hn]
    refine ⟨Z, o, fp, s.step p mv, nd, fun a ha => ?_, Rep.anyZ d hn r, fun a ha => ?_, rw', dis⟩
    · obtain ⟨h1, h2, h3, h4⟩ := fr a ha
      exact ⟨h1, fun q => (s.zk a q).1 (hf a ha).1, h2, h3, h4⟩
    · obtain ⟨h1, h2, h3⟩ := he a ha
      exact ⟨h1, (hfe a ha).2.1, h2, h3, (hfe a ha).2.2.2.2⟩
  · rw [if_neg hn]
    have sf := (s.freeze vs).step p mv
    have back : ∀ a, Z1 a → Zv Z o vs a ∨ H a = none := fun a ha => (hz a ha).1
    have sg := sf.more (Z' := fun a => Zv Z o vs a ∨ Z1 a) (fun a ha => by
      rcases ha with ha | ha
      · exact sf.zk a ha
      · exact ⟨(hz a ha).2.2.2, (hz a ha).2.2.1⟩) (fun a h => .inl h) (fun a ha => by
      rcases ha with ha | ha
      · exact sf.z0 a ha
      · rcases back a ha with q | q
        · exact sf.z0 a q
        · exact .inr (s.mv.keep a q)) (fun a i hi q => by
      have q' : Zv Z o vs a ∨ H a = none := by
        rcases q with q | q
        · exact .inl q
        · exact back a q
      rcases q' with q | q
      · exact (sf.own a i hi).2.1 q
      · have ho : ∃ k, o a = some k := by
          cases e : o a with
          | none => rw [e] at hi; cases hi
          | some k => exact ⟨k, rfl⟩
        obtain ⟨k, hk⟩ := ho
        exact (s.own a k hk).2.2.2 q)
    have zv : ∀ a ∈ fe, ¬ Zv Z o vs a := fun a ha q => by
      rcases q with q | ⟨i, q, _⟩
      · exact (hfe a ha).2.1 q
      · exact (hfe a ha).2.2.2.2 i q
    refine ⟨_, _, fp, sg, nd, fun a ha => ?_, Rep.to .refl (fun _ h => h) (fun a h => .inr h) d (fun _ _ _ h => h) r, fun a ha => ?_, Rep.to .refl (fun _ h => h) (fun a h => .inl (.inl h)) e (fun _ _ _ h => h) rw', dis⟩
    · obtain ⟨h1, h2, h3, h4⟩ := fr a ha
      refine ⟨h1, fun q => ?_, h2, h3, fun j hj => ?_⟩
      · rcases q with q | q
        · exact ((s.pk vs).2 a q).1 (hf a ha).1
        · exact (hz a q).2.1 ha
      · cases e : o a with
        | none => rw [e] at hj; cases hj
        | some k => exact h4 k e
    · obtain ⟨h1, h2, h3⟩ := he a ha
      refine ⟨h1, fun q => ?_, h2, h3, fun j hj => ?_⟩
      · rcases q with q | q
        · exact zv a ha q
        · rcases back a q with q | q
          · exact zv a ha q
          · exact (hfe a ha).2.2.2.1 q
      · cases e : o a with
        | none => rw [e] at hj; cases hj
        | some k => exact (hfe a ha).2.2.2.2 k e
end
def sPar (i j : Nat) (vs : List Nat) (f g : Env → Comp D) : Env → Comp (Fl × Env) := fun ρ => run vs f ρ fun d1 => run vs g (upE vs d1 ρ) fun d2 => .ret (.nx, ((upE vs d2 (upE vs d1 ρ)).set i (some d1)).set j (some d2))
/-- names = e, a tuple -/
def sUnp (vs : List Nat) (t : Tg) (f : Env → Comp D) : Env → Comp (Fl × Env) := fun ρ => run vs f ρ fun d => match d with
  | .tup ds => match t (.tup ds) (upE vs (.tup ds) ρ) with
    | some ρ' => .ret (.nx, ρ')
    | none => .stuck
  | _ => .stuck
section
variable {X : Cx} {W : WX} {vs : List Nat}
theorem sv_par {i j : Nat} {x y : Str} {a b : Expr} {f g : Env → Comp D} {pos px py pt : Pos} {kt k2 : _} {pt2 : _} (hc : X.calm = true) (hN : X.N.Nodup) (ha : EV X W vs f a) (hb : EV X W vs g b) (hi : X.N[i]? = some x := by rfl) (hj : X.N[j]? = some y := by rfl) (hij : i ≠ j := by decide)
    (hx : X.env.scope.names.lookup x = some .local := by rfl) (hy : X.env.scope.names.lookup y = some .local := by rfl) (s1 : starEach [a, b] X.env = (false, eval a X.env) :: starEach [b] X.env := by rfl) (s2 : starEach [b] X.env = (false, eval b X.env) :: starEach [] X.env := by rfl)
    (hw : swappedStores [.Tuple [.Name x px, .Name y py] kt pt] (.Tuple [a, b] k2 pt2) X.env = pure (some [x, y]) := by rfl)
    (hs : swapsWithSole [.Tuple [.Name x px, .Name y py] kt pt] (.Tuple [a, b] k2 pt2) pos.line X.env = pure false := by rfl) : SV X W (sPar i j vs f g) (.Assign [.Tuple [.Name x px, .Name y py] kt pt] (.Tuple [a, b] k2 pt2) pos) := by
  refine psW (ps_par hc hN hi hj hij hx hy (pa_cons ha (pa_cons hb pa_nil s2) s1) hw hs) fun D' σ H h => ?_
  obtain ⟨B, PN, n, Z, ρ, o, s, p, h⟩ := h
  refine run_pre (Q := _) s p h fun m1 d1 v1 PN1 H1 ev1 h => ?_
  obtain ⟨p1, Z1, o1, fp1, t1, nd1, hf1, r1⟩ := s.gain p ev1
  refine run_pre (Q := _) t1 p1 h fun m2 d2 v2 PN2 H2 ev2 h => ?_
  obtain ⟨p2, Z2, o2, fp2, t2, nd2, hf2, r2, hf1, r1, dis⟩ := t1.gainH p1 nd1 hf1 r1 ev2
  refine ⟨v1, v2, rfl, ?_⟩
  have u1 := t2.put (i := i) nd1 (fun a ha => ⟨(hf1 a ha).1, (hf1 a ha).2.1, (hf1 a ha).2.2.1, (hf1 a ha).2.2.2.1, fun j hj => absurd hj ((hf1 a ha).2.2.2.2 j)⟩) r1
  have u2 := u1.put (i := j) nd2 (fun a ha => ⟨(hf2 a ha).1, (hf2 a ha).2.1, (hf2 a ha).2.2.1, (hf2 a ha).2.2.2.1, fun k hk => by
    rw [if_neg (fun q => dis a q ha)] at hk
    split at hk
    · cases hk
    · exact absurd hk ((hf2 a ha).2.2.2.2 k)⟩) r2
  exact h PN2 H2 Z2 _ _ u2 p2
theorem sv_unp {tg e : Expr} {t : Tg} {is : List Nat} {f : Env → Comp D} {pos : Pos} (he : EV X W vs f e) (hg : TGV X is t tg) (hs : swapsWithSole [tg] e pos.line X.env = pure false := by rfl) (hw : swappedStores [tg] e X.env = pure none := by rfl)
    (h1 : (assignEach [tg] X.env).map (·.2) = [assign tg X.env] := by rfl) : SV X W (sUnp vs t f) (.Assign [tg] e pos) := by
  refine psW (ps_asg he hg hs hw h1) fun D' σ H h => ?_
  obtain ⟨B, PN, n, Z, ρ, o, s, p, h⟩ := h
  refine run_pre (Q := _) s p h fun m1 d v PN1 H1 ev h => ?_
  obtain ⟨p1, Z1, o1, fp1, t1, nd1, hf1, r1⟩ := s.gain p ev
  split at h
  · rename_i ds
    split at h
    · rename_i ρ' et
      cases r1 with
      | tup q r =>
        exact ⟨PN1, Z1, _, _, .tup ds, ρ', SOk.closed (B := B), ⟨o1, t1⟩, .tup q r, et, fun σ' ⟨o2, t2⟩ => h PN1 H1 Z1 σ' o2 t2 p1⟩
    · exact h.elim
  · exact h.elim
end

/-! ## what a place gives -/
structure Fit (k : Nat) (X : Cx) (W : WX) : Prop where
  rm : Room k X.A
  ca : Calm X.A
  cm : X.calm = true
  tk : Takes X W
theorem Fit.u64 {k : Nat} {X : Cx} {W : WX} (f : Fit k X W) : X.A.units + 64 < cLine := by have := f.rm.un; omega
theorem Fit.u65 {k : Nat} {X : Cx} {W : WX} (f : Fit k X W) : X.A.units + 65 < cLine := by have := f.rm.un; omega
theorem Fit.u66 {k : Nat} {X : Cx} {W : WX} (f : Fit k X W) : X.A.units + 66 < cLine := by have := f.rm.un; omega
theorem Fit.blk {k : Nat} {X : Cx} {W : WX} (f : Fit k X W) {s : Shared} {H : Hp} {scope : Scope} {cenv : PySem.Env} {fp : List Addr} : Fit k (X.blk s H scope cenv fp) W0 := ⟨f.rm, f.ca, f.cm, takes0⟩

/-! ## defs by what they promise -/
structure Cal (P : Program) (w : World) (K : PySem.W.Frag) (mg : Str → Option Value) (base : Heap) (k : Nat) (x : Str) (np : Nat) (F : List D → Comp D) : Prop where
  ex : ∃ (f : Addr) (fd : FuncData) (ps : List Str), FnG P w K mg base k f fd ps (spF K mg np F) ∧ mg x = some (.ref f) ∧ PySem.W.keepIn K (.ref f) = true ∧ Binds K fd ps []
theorem Cal.mono {P : Program} {w : World} {K : PySem.W.Frag} {mg : Str → Option Value} {base : Heap} {j k : Nat} {x : Str} {np : Nat} {F : List D → Comp D} (c : Cal P w K mg base j x np F) (h : j ≤ k) : Cal P w K mg base k x np F := by
  obtain ⟨f, fd, ps, G, r⟩ := c.ex
  exact ⟨f, fd, ps, G.mono h, r⟩
theorem ev_cal {X : Cx} {W : WX} {vs : List Nat} {k k' : Nat} {F : List D → Comp D} {np : Nat} {fs : Env → Comp (List D)} {x : Str} {p pos : Pos} {e : Expr} {es : List Expr} (ft : Fit k X W) (C : Cal X.prog X.w X.K X.mg X.base k' x np F) (hk : k' ≤ k) (ha : EA X W vs fs (e :: es)) (hg : Gl X x := by rfl) (hdb : (x == ("__debug__" : Str)) = false := by decide)
    (he : starEach (e :: es) X.env = (false, eval e X.env) :: starEach es X.env := by rfl) (hpl : (backTo pos (starEach es X.env)).any (·.1) = false := by rfl) : EV X W vs (eCall np F fs) (.Call (.Name x p) (e :: es) [] pos) := by
  obtain ⟨f, fd, ps, G, h1, h2, h3⟩ := C.ex
  exact ev_call (G.mono hk) ft.rm ft.ca h1 h2 h3 ft.tk ha hg hdb he hpl
section
variable {P : Program} {w : World} {K : PySem.W.Frag} {mg : Str → Option Value} {base : Heap}
theorem gfn_of {x qual : Str} {params : Arguments} {bd : List Stmt} {scope : Scope} {kws : List (Str × V)} {f : Addr} {fd : FuncData} {N ps : List Str} {k : Nat} {sp : Sp} (F : FunD K x qual params bd scope [] kws f fd) (S : FnScope N ps scope) (len : ∀ vs H Q E, sp vs H Q E → vs.length = ps.length)
    (hbody : ∀ (cdv : Value) (A : Around) (outer : List PySem.Env) (s : Shared) (H : Hp) (vs : List V) (Q : VK) (E : XK), Fit k (Xf P w K mg base N qual scope f cdv A outer s H E) (Wf E) → PassesOwn (model P w) (Xf P w K mg base N qual scope f cdv A outer s H E).A (Xf P w K mg base N qual scope f cdv A outer s H E).env (Xf P w K mg base N qual scope f cdv A outer s H E).xe → sp vs H Q E →
      ∃ t, PSs (Xf P w K mg base N qual scope f cdv A outer s H E) bd t ∧ t { nx := fun _ H' => Q .non H', rt := Q } (L2.start N vs) H) : FnG P w K mg base (k + 1) f fd ps sp := by
  obtain ⟨oc, od, dV, kV, doc, pm, an, cdv, ct, osl, rfl, lk, hcd, _, _⟩ := F.ex
  constructor
  · exact len
  intro A outer s H args us vs Q E hr hg e0 hb r hsp
  have kin := e0.mod.kin.keeps fun b o e => (e0.bs b o e).1
  have nl := e0.mod.nolimit.keeps fun b o e => (e0.bs b o e).1
  have kinds : ∀ y ∈ ps.zip us, scope.names.lookup y.1 = some .local ∨ (scope.names.lookup y.1 = some .cell ∧ ((cellsFrom (s.heap.objs.size + 1) scope.names []).lookup y.1).isSome = true) := by
    rintro ⟨nm, v⟩ hy
    rcases S.par nm (List.of_mem_zip hy).1 with q | q
    · exact Or.inl q
    · exact Or.inr ⟨q, PySem.W.cellsFrom_some _ _ _ (Or.inl q)⟩
  refine codeAny_call_function hr.depth (kin _ _ lk) rfl S.co S.gen rfl (PySem.W.codeRec_of kin hcd) (hb _ _ _ _ ?_)
  refine wpAny_newFunctionEnv_cells S.kind kinds fun env he s1 x1 => ?_
  subst he
  refine ⟨nl.keeps x1.toInCall.keep, codeAny_func ?_⟩
  obtain ⟨t, ht, hq⟩ := hbody cdv A outer s H vs Q E ⟨hr.deeper _, hg, rfl, takes_of rfl rfl rfl rfl⟩ (passes_of rfl) hsp
  have I := inv_start (CX := L2.CX P w) (E := E) (A := A) (cd := cdv) (qual := qual) (f := f) S hr.hd e0 (len _ _ _ _ hsp) r x1
  refine wpAny_mono (ht.run [] s1 (L2.start N vs) H _ I hq) (fun fl s' hs => ?_) fun _ _ hs => hs
  cases fl with
  | ret u =>
    obtain ⟨v, σ', H', J, rv, q⟩ := hs
    exact ⟨v, H', J.os, J.bare, J.base, J.hok, rv, q⟩
  | next =>
    obtain ⟨σ', H', J, q⟩ := hs
    exact ⟨V.non, H', J.os, J.bare, J.base, J.hok, rfl, q⟩
  | brk =>
    obtain ⟨_, _, _, q⟩ := hs
    exact q.elim
  | cont =>
    obtain ⟨_, _, _, q⟩ := hs
    exact q.elim
theorem gfn_body {x qual : Str} {params : Arguments} {bd : List Stmt} {scope : Scope} {kws : List (Str × V)} {f : Addr} {fd : FuncData} {N ps : List Str} {k : Nat} {body : Env → Comp (Fl × Env)} (F : FunD K x qual params bd scope [] kws f fd) (S : FnScope N ps scope)
    (h : ∀ (cdv : Value) (A : Around) (outer : List PySem.Env) (s : Shared) (H : Hp) (E : XK), Fit k (Xf P w K mg base N qual scope f cdv A outer s H E) (Wf E) → PassesOwn (model P w) (Xf P w K mg base N qual scope f cdv A outer s H E).A (Xf P w K mg base N qual scope f cdv A outer s H E).env (Xf P w K mg base N qual scope f cdv A outer s H E).xe →
      SVs (Xf P w K mg base N qual scope f cdv A outer s H E) (Wf E) body bd) :
    FnG P w K mg base (k + 1) f fd ps (spF K mg ps.length (fnB N.length body)) := by
  refine gfn_of F S (fun vs H Q E q => ?_) fun cdv A outer s H vs Q E ft po q => ⟨_, h cdv A outer s H E ft po, ?_⟩
  · obtain ⟨PN, n, Z, ds, hl, r, _⟩ := q
    exact r.length.trans hl
  · obtain ⟨PN, n, Z, ds, hl, r, z, p, q⟩ := q
    have hn : ps.length ≤ N.length := by have := congrArg List.length S.pre; rw [List.length_take] at this; omega
    refine ⟨⟨PN, H, Z, PN, H, Z⟩, PN, n, Z, startE N.length ds, fun _ => none, ⟨.refl, z, fun _ h => .inl h, ⟨fun _ _ h _ => h, fun _ _ h => h, fun _ _ _ h => h⟩, fun _ h => h, fun _ h => h, ?_, fun i d hd => ?_, fun a i h => by cases h⟩, p, ?_⟩
    · unfold startE L2.start
      simp only [List.length_append, List.length_map, List.length_replicate, r.length]
    · obtain ⟨v, h1, h2⟩ := r.get rfl (startE_get hd)
      exact ⟨v, [], start_get h1, List.Pairwise.nil, fun _ h => (nomatch h), h2⟩
    · rw [fnB, Comp.all_try] at q
      refine Comp.all_mono (fun m r h => ?_) (fun _ _ _ h => h) q
      obtain ⟨fl, ρ'⟩ := r
      cases fl with
      | rt d => exact h
      | nx =>
        intro PN' H' Z' σ' o' s' p'
        exact h .non PN' H' ⟨[], fun _ => False, s'.mv, p', List.Pairwise.nil, fun _ h => (nomatch h), fun a h => h.elim, .non⟩
      | bk => exact h.elim
      | ct => exact h.elim
      | er c x =>
        intro C PN' H' Z' σ' o' s' p' e ex
        exact h C PN' H' e ex s'.mv p'
/-- a def with plain parameters -/
theorem cal_of {x qual : Str} {params : Arguments} {bd : List Stmt} {scope : Scope} {kws : List (Str × V)} {f : Addr} {fd : FuncData} {N ps : List Str} {k : Nat} {body : Env → Comp (Fl × Env)} (F : FunD K x qual params bd scope [] kws f fd) (S : FnScope N ps scope) (hm : mg x = some (.ref f)) (hb : Binds K fd ps [])
    (h : ∀ (cdv : Value) (A : Around) (outer : List PySem.Env) (s : Shared) (H : Hp) (E : XK), Fit k (Xf P w K mg base N qual scope f cdv A outer s H E) (Wf E) → PassesOwn (model P w) (Xf P w K mg base N qual scope f cdv A outer s H E).A (Xf P w K mg base N qual scope f cdv A outer s H E).env (Xf P w K mg base N qual scope f cdv A outer s H E).xe →
      SVs (Xf P w K mg base N qual scope f cdv A outer s H E) (Wf E) body bd) : Cal P w K mg base (k + 1) x ps.length (fnB N.length body) :=
  ⟨f, fd, ps, gfn_body F S h, hm, F.kp, hb⟩
end
end Mid

namespace Mid
open PySem PySem.Spec PyProof.Rows L2

/-! ## evaluating -/
theorem bind_ret {α β : Type} {a : α} {f : α → Comp β} : (Comp.ret a).bind f = f a := rfl
theorem try_ret {α β : Type} {a : α} {f : α → Comp β} {g : String → List D → Comp β} : (Comp.ret a).try_ f g = f a := rfl
theorem bind_draw {α β : Type} {m : Nat} {k : Nat → Comp α} {f : α → Comp β} : (Comp.draw m k).bind f = .draw m fun r => (k r).bind f := rfl
theorem try_draw {α β : Type} {m : Nat} {k : Nat → Comp α} {f : α → Comp β} {g : String → List D → Comp β} : (Comp.draw m k).try_ f g = .draw m fun r => (k r).try_ f g := rfl
theorem fzL_ints : ∀ ns : List Int, fzL (ns.map D.int) = ns.map D.int
  | [] => rfl
  | _ :: ns => congrArg (_ :: ·) (fzL_ints ns)
theorem fzL_length : ∀ ds : List D, (fzL ds).length = ds.length
  | [] => rfl
  | _ :: ds => congrArg Nat.succ (fzL_length ds)
theorem dMul_small {i j : Int} (hi : i.natAbs < 2 ^ 200) (hj : j.natAbs < 2 ^ 200) : dMul (.int i) (.int j) = .ret (.int (i * j)) := by
  have h : ∀ k : Int, k.natAbs < 2 ^ 200 → smallI mulLine k := fun k hk => ⟨Nat.lt_of_lt_of_le hk (Nat.pow_le_pow_right (by decide) (by decide))⟩
  exact if_pos ⟨h i hi, h j hj⟩
theorem dPow_small {i : Int} {k : Nat} (hi : i.natAbs < 2 ^ 64) (hk : k ≤ 1000) : dPow (.int i) (.int (k : Int)) = .ret (.int (i ^ k)) := by
  exact (if_pos ⟨by omega, by omega, ⟨hi⟩⟩).trans (by simp)
theorem dMod_pos {i j : Int} (hj : 0 < j) : dMod (.int i) (.int j) = .ret (.int (i % j)) := by
  exact (if_pos (by omega)).trans (by rw [Int.fmod_eq_emod_of_nonneg _ (by omega)])
/-! ## the pen's spreading -/
noncomputable def c_spread : Env → Comp (Fl × Env) := sSeq (sIf (bOf (eBin dGe (eVar 0) (eBin dPow (eK (.int 10)) (eK (.int 18))))) (sRetV 0) (sNil))
  (sSeq (sAsg 2 [] (eCallB gLst (aCons (eK (.int 2147483629)) (aCons (eK (.int 2147483587)) (aCons (eK (.int 2147483579)) (aCons (eK (.int 2147483563)) (aCons (eK (.int 2147483549)) (aCons (eK (.int 2147483543)) (aCons (eK (.int 2147483497)) (aNil))))))))))
  (sSeq (sAsg 2 [2] (eBin dAdd (eVar 2) (eCallB gLst (aCons (eK (.int 2147483489)) (aCons (eK (.int 2147483477)) (aCons (eK (.int 2147483423)) (aCons (eK (.int 2147483399)) (aCons (eK (.int 2147483353)) (aCons (eK (.int 2147483323)) (aNil))))))))))
  (sSeq (sAsg 3 [0, 1] (eBin dAdd (eBin dAdd (eBin dMul (eBin dMod (eVar 0) (eK (.int 1000000007))) (eBin dAdd (eBin dMul (eK (.int 2)) (eVar 1)) (eK (.int 69069)))) (eBin dMul (eVar 1) (eK (.int 40503)))) (eK (.int 977))))
  (sSeq (sAsg 4 [1, 2, 3] (eBin dMod (eBin dPow (eVar 3) (eK (.int 3))) (eBin dIx (eVar 2) (eBin dMod (eVar 1) (eK (.int 13))))))
  (sSeq (sAsg 5 [0, 1, 2, 4] (eBin dMod (eBin dPow (eBin dAdd (eBin dAdd (eBin dMul (eVar 4) (eBin dAdd (eVar 1) (eK (.int 3)))) (eBin dMod (eVar 0) (eK (.int 65537)))) (eK (.int 5))) (eK (.int 5))) (eBin dIx (eVar 2) (eBin dMod (eBin dAdd (eVar 1) (eK (.int 5))) (eK (.int 13))))))
  (sSeq (sAsg 6 [1, 2, 4, 5] (eBin dMod (eBin dPow (eBin dAdd (eBin dAdd (eVar 5) (eBin dMod (eVar 4) (eK (.int 1009)))) (eVar 1)) (eK (.int 3))) (eBin dIx (eVar 2) (eBin dMod (eBin dAdd (eVar 1) (eK (.int 7))) (eK (.int 13))))))
  (sRet [4, 5, 6] (eBin dAdd (eBin dMul (eBin dAdd (eBin dMul (eVar 4) (eK (.int 2147483647))) (eVar 5)) (eK (.int 2147483647))) (eVar 6)))))))))
noncomputable def gSpread : List D → Comp D := fnB 7 c_spread
def primes : List Int := [2147483629, 2147483587, 2147483579, 2147483563, 2147483549, 2147483543, 2147483497, 2147483489, 2147483477, 2147483423, 2147483399, 2147483353, 2147483323]
theorem prime_at {k : Int} (h0 : 0 ≤ k) (h : k < 13) : ∃ q : Int, dIx (.lst false (primes.map D.int)) (.int k) = .ret (.int q) ∧ 1 ≤ q ∧ q < 2 ^ 31 := by
  have : k = 0 ∨ k = 1 ∨ k = 2 ∨ k = 3 ∨ k = 4 ∨ k = 5 ∨ k = 6 ∨ k = 7 ∨ k = 8 ∨ k = 9 ∨ k = 10 ∨ k = 11 ∨ k = 12 := by omega
  rcases this with rfl | rfl | rfl | rfl | rfl | rfl | rfl | rfl | rfl | rfl | rfl | rfl | rfl <;> exact ⟨_, rfl, by decide, by decide⟩
theorem fz_primes : fz (.lst true (primes.map D.int)) = .lst false (primes.map D.int) := rfl
theorem bnd_mul {x y A B : Int} (h0 : 0 ≤ x) (h1 : x ≤ A) (h2 : 0 ≤ y) (h3 : y ≤ B) : 0 ≤ x * y ∧ x * y ≤ A * B := ⟨Int.mul_nonneg h0 h2, Int.mul_le_mul h1 h3 h2 (by omega)⟩
theorem nat_lt {x : Int} {k : Nat} (h0 : 0 ≤ x) (h : x < (2 : Int) ^ k) : x.natAbs < 2 ^ k := by
  have : ((x.natAbs : Nat) : Int) = x := Int.natAbs_of_nonneg h0
  have h2 : ((2 ^ k : Nat) : Int) = (2 : Int) ^ k := by norm_cast
  omega
theorem bigR_ge : 2 ^ 64 ≤ bigR := Nat.pow_le_pow_right (by decide) (by decide)
theorem run_int {vs : List Nat} {f : Env → Comp D} {ρ : Env} {k : D → Comp (Fl × Env)} {d : D} (h : f (fzE ρ) = .ret d) : run vs f ρ k = k d := by
  unfold run; rw [h]; rfl
theorem asg_eq {i : Nat} {vs : List Nat} {f : Env → Comp D} {ρ : Env} {d : D} (h : f (fzE ρ) = .ret d) (hn : noShr d = true := by rfl) : sAsg i vs f ρ = .ret (.nx, ρ.set i (some d)) := by
  unfold sAsg
  rw [run_int h]
  unfold upE
  rw [if_pos hn]
theorem seq_eq {f g : Env → Comp (Fl × Env)} {ρ ρ' : Env} (h : f ρ = .ret (.nx, ρ')) : sSeq f g ρ = g ρ' := by
  unfold sSeq; rw [h]; rfl
theorem if_eq {c : Env → Comp Bool} {f g : Env → Comp (Fl × Env)} {ρ : Env} {b : Bool} (h : c (fzE ρ) = .ret b) : sIf c f g ρ = if b then f ρ else g ρ := by
  unfold sIf runB; rw [h]; rfl
theorem bin_eq {g : D → D → Comp D} {f f' : Env → Comp D} {ρ : Env} {d e : D} {r : Comp D} (h : f ρ = .ret d) (h' : f' ρ = .ret e) (hg : g (fz d) (fz e) = r) : eBin g f f' ρ = r := by
  unfold eBin; rw [h, bind_ret, h', bind_ret, hg]
theorem bof_eq {f : Env → Comp D} {ρ : Env} {b : Bool} (h : f ρ = .ret (.bl b)) : bOf f ρ = .ret b := by
  unfold bOf; rw [h]; rfl
theorem fnB_eq {n : Nat} {c : Env → Comp (Fl × Env)} {ds : List D} {fl : Fl} {ρ : Env} (h : c (startE n ds) = .ret (fl, ρ)) : fnB n c ds = fnOut fl := by
  unfold fnB; rw [h]; rfl
theorem ret_eq {vs : List Nat} {f : Env → Comp D} {ρ : Env} {d : D} (h : f (fzE ρ) = .ret d) : sRet vs f ρ = .ret (.rt d, ρ) := by
  unfold sRet; rw [run_int h]
theorem spread_ok {c a : Int} (hc : c.natAbs < bigR) (h0 : 0 ≤ a) (ha : a < 2 ^ 30) : ∃ z, gSpread [.int c, .int a] = .ret (.int z) ∧ 0 ≤ z ∧ z.natAbs < bigR := by
  have e10 : dPow (.int 10) (.int 18) = .ret (.int (10 ^ 18)) := dPow_small (k := 18) (by decide) (by decide)
  have t0 : ∀ ρ : Env, fzE ρ = ρ.map (Option.map fz) := fun _ => rfl
  have c0 : (bOf (eBin dGe (eVar 0) (eBin dPow (eK (.int 10)) (eK (.int 18))))) (fzE (startE 7 [.int c, .int a])) = .ret (decide ((10 : Int) ^ 18 ≤ c)) := bof_eq (bin_eq (d := .int c) rfl (bin_eq (d := .int 10) (e := .int 18) rfl rfl e10) rfl)
  by_cases hbig : (10 : Int) ^ 18 ≤ c
  · refine ⟨c, ?_, by omega, hc⟩
    refine fnB_eq (fl := .rt (.int c)) (ρ := startE 7 [.int c, .int a]) ?_
    unfold c_spread sSeq
    rw [if_eq c0, if_pos (decide_eq_true hbig)]
    rfl
  · -- the draws' own mixing
    have m0 := Int.emod_nonneg c (show (1000000007 : Int) ≠ 0 by decide)
    have m1 := Int.emod_lt_of_pos c (show (0 : Int) < 1000000007 by decide)
    have n0 := Int.emod_nonneg c (show (65537 : Int) ≠ 0 by decide)
    have n1 := Int.emod_lt_of_pos c (show (0 : Int) < 65537 by decide)
    have b1 := bnd_mul (A := 1000000006) (B := 2 * 2 ^ 30 + 69069) m0 (by omega) (show 0 ≤ 2 * a + 69069 by omega) (by omega)
    generalize hx : c % 1000000007 * (2 * a + 69069) = x1 at b1
    have hM : 0 ≤ x1 + a * 40503 + 977 ∧ x1 + a * 40503 + 977 < 2 ^ 62 := by omega
    obtain ⟨q1, p1, q1a, q1b⟩ := prime_at (k := a % 13) (Int.emod_nonneg _ (by decide)) (Int.emod_lt_of_pos _ (by decide))
    obtain ⟨q2, p2, q2a, q2b⟩ := prime_at (k := (a + 5) % 13) (Int.emod_nonneg _ (by decide)) (Int.emod_lt_of_pos _ (by decide))
    obtain ⟨q3, p3, q3a, q3b⟩ := prime_at (k := (a + 7) % 13) (Int.emod_nonneg _ (by decide)) (Int.emod_lt_of_pos _ (by decide))
    generalize hM1 : x1 + a * 40503 + 977 = M at hM
    -- one
    have o0 := Int.emod_nonneg (M ^ 3) (show q1 ≠ 0 by omega)
    have o1 := Int.emod_lt_of_pos (M ^ 3) (show 0 < q1 by omega)
    generalize hO : M ^ 3 % q1 = O at o0 o1
    have b2 := bnd_mul (A := 2 ^ 31) (B := 2 ^ 30 + 3) o0 (by omega) (show 0 ≤ a + 3 by omega) (by omega)
    generalize hx2 : O * (a + 3) = x2 at b2
    have hN : 0 ≤ x2 + c % 65537 + 5 ∧ x2 + c % 65537 + 5 < 2 ^ 62 := by omega
    generalize hN1 : x2 + c % 65537 + 5 = N at hN
    have w0 := Int.emod_nonneg (N ^ 5) (show q2 ≠ 0 by omega)
    have w1 := Int.emod_lt_of_pos (N ^ 5) (show 0 < q2 by omega)
    generalize hW : N ^ 5 % q2 = T at w0 w1
    have r0 := Int.emod_nonneg O (show (1009 : Int) ≠ 0 by decide)
    have r1 := Int.emod_lt_of_pos O (show (0 : Int) < 1009 by decide)
    have hU : 0 ≤ T + O % 1009 + a ∧ T + O % 1009 + a < 2 ^ 62 := by omega
    generalize hU1 : T + O % 1009 + a = U at hU
    have v0 := Int.emod_nonneg (U ^ 3) (show q3 ≠ 0 by omega)
    have v1 := Int.emod_lt_of_pos (U ^ 3) (show 0 < q3 by omega)
    generalize hV : U ^ 3 % q3 = V3 at v0 v1
    have hz : 0 ≤ (O * 2147483647 + T) * 2147483647 + V3 ∧ (O * 2147483647 + T) * 2147483647 + V3 < 2 ^ 98 := by omega
    refine ⟨(O * 2147483647 + T) * 2147483647 + V3, ?_, hz.1, Nat.lt_of_lt_of_le (nat_lt hz.1 hz.2) (Nat.pow_le_pow_right (by decide) (by decide))⟩
    have big : ∀ {y : Int} {k : Nat}, 0 ≤ y → y < 2 ^ k → k ≤ 200 → y.natAbs < 2 ^ 200 := fun h1 h2 h3 => Nat.lt_of_lt_of_le (nat_lt h1 h2) (Nat.pow_le_pow_right (by decide) h3)
    refine fnB_eq (fl := .rt (.int ((O * 2147483647 + T) * 2147483647 + V3))) (ρ := [some (.int c), some (.int a), some (.lst true (primes.map D.int)), some (.int M), some (.int O), some (.int T), some (.int V3)]) ?_
    unfold c_spread
    rw [seq_eq (ρ' := startE 7 [.int c, .int a]) (by rw [if_eq c0, if_neg (by simpa using hbig)]; rfl)]
    rw [seq_eq (asg_eq (d := .lst true ((primes.take 7).map D.int)) rfl)]
    rw [seq_eq (asg_eq (d := .lst true (primes.map D.int)) rfl)]
    rw [seq_eq (asg_eq (d := .int M) (by
      refine bin_eq (d := .int (x1 + a * 40503)) (e := .int 977) (bin_eq (d := .int x1) (e := .int (a * 40503)) ?_ ?_ rfl) rfl (by rw [← hM1]; rfl)
      · refine bin_eq (d := .int (c % 1000000007)) (e := .int (2 * a + 69069)) (bin_eq (d := .int c) (e := .int 1000000007) rfl rfl (dMod_pos (by decide))) (bin_eq (d := .int (2 * a)) (e := .int 69069) (bin_eq (d := .int 2) (e := .int a) rfl rfl (dMul_small (by decide) (big (k := 30) h0 ha (by decide)))) rfl rfl) ?_
        rw [← hx]
        exact dMul_small (big (k := 30) m0 (by omega) (by decide)) (big (k := 32) (by omega) (by omega) (by decide))
      · exact bin_eq (d := .int a) (e := .int 40503) rfl rfl (dMul_small (big (k := 30) h0 ha (by decide)) (by decide))))]
    rw [seq_eq (asg_eq (d := .int O) (by
      refine bin_eq (d := .int (M ^ 3)) (e := .int q1) (bin_eq (d := .int M) (e := .int 3) rfl rfl (dPow_small (k := 3) (Nat.lt_of_lt_of_le (nat_lt (k := 62) hM.1 hM.2) (by decide)) (by decide))) (bin_eq (d := .lst false (primes.map D.int)) (e := .int (a % 13)) rfl (bin_eq (d := .int a) (e := .int 13) rfl rfl (dMod_pos (by decide))) p1) ?_
      rw [← hO]; exact dMod_pos (by omega)))]
    rw [seq_eq (asg_eq (d := .int T) (by
      refine bin_eq (d := .int (N ^ 5)) (e := .int q2) (bin_eq (d := .int N) (e := .int 5) (bin_eq (d := .int (x2 + c % 65537)) (e := .int 5) (bin_eq (d := .int x2) (e := .int (c % 65537)) (bin_eq (d := .int O) (e := .int (a + 3)) rfl (bin_eq (d := .int a) (e := .int 3) rfl rfl rfl) (by rw [← hx2]; exact dMul_small (big (k := 31) o0 (by omega) (by decide)) (big (k := 31) (by omega) (by omega) (by decide)))) (bin_eq (d := .int c) (e := .int 65537) rfl rfl (dMod_pos (by decide))) rfl) rfl (by rw [← hN1]; rfl)) rfl (dPow_small (k := 5) (Nat.lt_of_lt_of_le (nat_lt (k := 62) hN.1 hN.2) (by decide)) (by decide)))
        (bin_eq (d := .lst false (primes.map D.int)) (e := .int ((a + 5) % 13)) rfl (bin_eq (d := .int (a + 5)) (e := .int 13) (bin_eq (d := .int a) (e := .int 5) rfl rfl rfl) rfl (dMod_pos (by decide))) p2) ?_
      rw [← hW]; exact dMod_pos (by omega)))]
    rw [seq_eq (asg_eq (d := .int V3) (by
      refine bin_eq (d := .int (U ^ 3)) (e := .int q3) (bin_eq (d := .int U) (e := .int 3) (bin_eq (d := .int (T + O % 1009)) (e := .int a) (bin_eq (d := .int T) (e := .int (O % 1009)) rfl (bin_eq (d := .int O) (e := .int 1009) rfl rfl (dMod_pos (by decide))) rfl) rfl (by rw [← hU1]; rfl)) rfl (dPow_small (k := 3) (Nat.lt_of_lt_of_le (nat_lt (k := 62) hU.1 hU.2) (by decide)) (by decide)))
        (bin_eq (d := .lst false (primes.map D.int)) (e := .int ((a + 7) % 13)) rfl (bin_eq (d := .int (a + 7)) (e := .int 13) (bin_eq (d := .int a) (e := .int 7) rfl rfl rfl) rfl (dMod_pos (by decide))) p3) ?_
      rw [← hV]; exact dMod_pos (by omega)))]
    refine ret_eq (bin_eq (d := .int ((O * 2147483647 + T) * 2147483647)) (e := .int V3) (bin_eq (d := .int (O * 2147483647 + T)) (e := .int 2147483647) (bin_eq (d := .int (O * 2147483647)) (e := .int T) (bin_eq (d := .int O) (e := .int 2147483647) rfl rfl (dMul_small (big (k := 31) o0 (by omega) (by decide)) (by decide))) rfl rfl) rfl (dMul_small (big (k := 63) (by omega) (by omega) (by decide)) (by decide))) rfl rfl)
end Mid

namespace Mid
open PySem PySem.Spec PyProof.Rows L2

/-! ## the pen seen as two lists -/
structure PnAt (p c : Addr) (H0 H : Hp) (cs : List Int) (a r : Int) : Prop where
  hp : H p = some (.lst [.ref c, .int a, .int r])
  hc : H c = some (.lst (cs.map V.int))
  ext : ∀ x o, H0 x = some o → x ≠ p → x ≠ c → H x = some o
  keep : ∀ x, H x = none → H0 x = none
def penF (cs : List Int) (a r : Int) : D := .lst false [.lst false (cs.map D.int), .int a, .int r]
def stV (p : Addr) (is : List (Option Int)) : L2.St := some (.ref p) :: is.map (Option.map V.int)
def stD (cs : List Int) (a r : Int) (is : List (Option Int)) : Env := some (penF cs a r) :: is.map (Option.map D.int)
section
variable {K : PySem.W.Frag} {p c : Addr} {H0 H : Hp} {cs : List Int} {a r : Int} {mg : Str → Option Value} {W : WX} {vs : List Nat} {is : List (Option Int)}
theorem PnAt.ne (S : PnAt p c H0 H cs a r) : p ≠ c := fun e => by
  have h1 := S.hp
  rw [e, S.hc] at h1
  cases cs with
  | nil => cases h1
  | cons x cs => cases h1
theorem PnAt.mv (S : PnAt p c H0 H cs a r) {PN' : Pn} {H' : Hp} (m : Mv none H PN' H') : PnAt p c H0 H' cs a r :=
  ⟨m.ext _ _ S.hp (fun _ _ e => nomatch e), m.ext _ _ S.hc (fun _ _ e => nomatch e), fun x o h n1 n2 => m.ext _ _ (S.ext x o h n1 n2) (fun _ _ e => nomatch e), fun x h => S.keep x (m.keep x h)⟩
theorem PnAt.pk (S : PnAt p c H0 H cs a r) : Pk K none H (fun x => x = p ∨ x = c) vs (stD cs a r is) (stV p is) := by
  refine ⟨by simp [stD, stV], fun i _ d hd => ?_⟩
  cases i with
  | zero =>
    have e : penF cs a r = d := by simpa [stD] using hd
    subst e
    exact ⟨.ref p, rfl, .shr S.hp (.inl rfl) (.cons (f := []) (.shr S.hc (.inr rfl) (RepL.intsM cs)) (.cons (f := []) .int (.cons (f := []) .int .nil)))⟩
  | succ i =>
    have e : (is.map (Option.map D.int))[i]? = some (some d) := by simpa [stD] using hd
    rw [List.getElem?_map] at e
    cases q : is[i]? with
    | none => rw [q] at e; cases e
    | some o =>
      rw [q] at e
      cases o with
      | none => cases e
      | some z =>
        cases e
        refine ⟨.int z, ?_, .int⟩
        show (is.map (Option.map V.int))[i]? = _
        rw [List.getElem?_map, q]; rfl
theorem PnAt.zk (S : PnAt p c H0 H cs a r) : Zk none (fun x => x = p ∨ x = c) H := fun x hx => by
  refine ⟨fun e => ?_, fun _ _ e => nomatch e⟩
  rcases hx with rfl | rfl
  · rw [S.hp] at e; cases e
  · rw [S.hc] at e; cases e
theorem pens0 : Pens none 0 H := ⟨Nat.zero_le _, fun _ _ e => nomatch e⟩
theorem at_int (S : PnAt p c H0 H cs a r) {f : Env → Comp D} {z : Int} {Q : VK} (e : f (stD cs a r is) = .ret (.int z)) (k : ∀ H', PnAt p c H0 H' cs a r → Q (.int z) H') : ePre K mg W vs f (stV p is) H Q := by
  refine ⟨none, 0, _, _, S.pk, S.zk, pens0, ?_⟩
  rw [e]
  intro v PN' H' ev
  obtain ⟨fp, Z1, mv, _, _, _, _, rr⟩ := ev
  cases rr
  exact k H' (S.mv mv)
theorem at_bool (S : PnAt p c H0 H cs a r) {f : Env → Comp Bool} {b : Bool} {Q : Bool → Hp → Prop} (e : f (stD cs a r is) = .ret b) (k : ∀ H', PnAt p c H0 H' cs a r → Q b H') : bPre K mg W vs f (stV p is) H Q := by
  refine ⟨none, 0, _, _, S.pk, S.zk, pens0, ?_⟩
  rw [e]
  intro PN' H' Z' sh
  exact k H' (S.mv sh.mv)
theorem PnAt.put (S : PnAt p c H0 H cs a r) (a' r' : Int) : PnAt p c H0 (L2.upd H p (.lst [.ref c, .int a', .int r'])) cs a' r' :=
  ⟨upd_same, by rw [upd_ne (Ne.symm S.ne)]; exact S.hc, fun x o h n1 n2 => by rw [upd_ne n1]; exact S.ext x o h n1 n2, fun x h => by
    by_cases e : x = p
    · rw [e, upd_same] at h; cases h
    · rw [upd_ne e] at h; exact S.keep x h⟩
/-- pen[1] = z, pen[2] = z -/
theorem at_set1 (S : PnAt p c H0 H cs a r) {z : Int} {Q : Hp → Prop} (k : PnAt p c H0 (L2.upd H p (.lst [.ref c, .int z, .int r])) cs z r → Q (L2.upd H p (.lst [.ref c, .int z, .int r]))) : rSetL (.ref p) (.int 1) (.int z) H Q := ⟨p, _, 1, 1, rfl, rfl, S.hp, rfl, k (S.put z r)⟩
theorem at_set2 (S : PnAt p c H0 H cs a r) {z : Int} {Q : Hp → Prop} (k : PnAt p c H0 (L2.upd H p (.lst [.ref c, .int a, .int z])) cs a z → Q (L2.upd H p (.lst [.ref c, .int a, .int z]))) : rSetL (.ref p) (.int 2) (.int z) H Q := ⟨p, _, 2, 2, rfl, rfl, S.hp, rfl, k (S.put a z)⟩
end

/-! ## taking -/
def gTake : List D → Comp D
  | [.pen, .int z] => if 0 < z ∧ z < 2 ^ 200 then .draw z.toNat fun r => .ret (.int (r : Int)) else .stuck
  | _ => .stuck
def gAnew : List D → Comp D
  | [.pen] => .ret .pen
  | _ => .stuck
noncomputable def k1 : Env → Comp D := eBin dIx (eVar 0) (eK (.int 1))
noncomputable def k2 : Env → Comp D := eBin dIx (eVar 0) (eK (.int 2))
noncomputable def kcs : Env → Comp D := eBin dIx (eVar 0) (eK (.int 0))
noncomputable def klen : Env → Comp D := eCallB gLen (aCons kcs aNil)
noncomputable def k4 : Env → Comp D := eBin dMod (eBin dIx kcs (eBin dMod (eBin dAdd (eBin dMul (eVar 3) (eK (.int 5))) (eK (.int 3))) klen)) (eBin dAdd (eBin dPow (eK (.int 10)) (eK (.int 17))) (eVar 3))
noncomputable def kspr : Env → Comp D := eCall 2 gSpread (aCons (eVar 4) (aCons (eVar 3) aNil))
noncomputable def t_take (K : PySem.W.Frag) (mg : Str → Option Value) (W : WX) : TS :=
  tSeq (tIfS (bPre K mg W [0, 1] (bOf (eBin dLt k2 (eVar 1))))
    (tSeq (tAsg (ePre K mg W [0] k1) (gName 3)) (tSeq (tAsg (ePre K mg W [] (eK (.int 0))) (gName 4))
      (tSeq (tIfS (bPre K mg W [0, 3] (bOf (eBin dLt (eVar 3) klen))) (tAsg (ePre K mg W [0, 3] (eBin dIx kcs (eVar 3))) (gName 4))
          (tIfS (bPre K mg W [0] (bOf (eBin dGt klen (eK (.int 0))))) (tAsg (ePre K mg W [0, 3] k4) (gName 4)) tNext))
        (tSeq (tAsg (ePre K mg W [3] (eBin dAdd (eVar 3) (eK (.int 1)))) (gSub (tVar 0) (ePre K mg W [] (eK (.int 1))) rSetL))
          (tAsg (ePre K mg W [3, 4] kspr) (gSub (tVar 0) (ePre K mg W [] (eK (.int 2))) rSetL)))))) tNext)
  (tSeq (tAsg (ePre K mg W [0, 1] (eBin dMod k2 (eVar 1))) (gName 2))
  (tSeq (tAsg (ePre K mg W [0, 1] (eBin dDiv k2 (eVar 1))) (gSub (tVar 0) (ePre K mg W [] (eK (.int 2))) rSetL))
    (tRet (tVar 2))))
section
variable {K : PySem.W.Frag} {p c : Addr} {H0 H : Hp} {cs : List Int} {a r m : Int} {mg : Str → Option Value} {W : WX} {D' : Ends}
theorem kcs_eq {is : List (Option Int)} : kcs (stD cs a r is) = .ret (.lst false (cs.map D.int)) := bin_eq (d := penF cs a r) rfl rfl (by
  show dIx (.lst false (fzL [.lst false (cs.map D.int), .int a, .int r])) (.int 0) = _
  simp only [fzL, fz, fzL_ints]
  rfl)
theorem k1_eq {is : List (Option Int)} : k1 (stD cs a r is) = .ret (.int a) := rfl
theorem k2_eq {is : List (Option Int)} : k2 (stD cs a r is) = .ret (.int r) := rfl
theorem klen_eq {is : List (Option Int)} : klen (stD cs a r is) = .ret (.int cs.length) := by
  unfold klen eCallB aCons
  rw [kcs_eq, bind_ret]
  simp only [aNil, bind_ret, fz, fzL_ints]
  simp [gLen]
theorem cell_eq {is : List (Option Int)} {f : Env → Comp D} {k : Int} {j : Nat} {z : Int} (hf : f (stD cs a r is) = .ret (.int k)) (hk : ixN cs.length k = some j) (hz : cs[j]? = some z) : eBin dIx kcs f (stD cs a r is) = .ret (.int z) := bin_eq (d := .lst false (cs.map D.int)) kcs_eq hf (by
  show dIx (.lst false (fzL (cs.map D.int))) (.int k) = _
  rw [fzL_ints]
  unfold dIx atI
  simp only [List.length_map, hk]
  simp [hz])
/-- the last three statements -/
theorem take_tail {H : Hp} {a r : Int} {o3 o4 : Option Int} (S : PnAt p c H0 H cs a r) (hm : 0 < m) (hm2 : m < 2 ^ 200) (hr : 0 ≤ r) (hr2 : r.natAbs < bigR)
    (k : ∀ H' r', PnAt p c H0 H' cs a r' → 0 ≤ r' → r'.natAbs < bigR → D'.rt (.int (r % m)) H') :
    tSeq (tAsg (ePre K mg W [0, 1] (eBin dMod k2 (eVar 1))) (gName 2)) (tSeq (tAsg (ePre K mg W [0, 1] (eBin dDiv k2 (eVar 1))) (gSub (tVar 0) (ePre K mg W [] (eK (.int 2))) rSetL)) (tRet (tVar 2))) D' (stV p [some m, none, o3, o4]) H := by
  refine at_int S (bin_eq k2_eq rfl (dMod_pos hm)) fun H1 S1 => ?_
  show tSeq _ _ D' (stV p [some m, some (r % m), o3, o4]) H1
  refine at_int S1 (z := r / m) (bin_eq k2_eq rfl (if_pos ⟨hm, ⟨Nat.lt_of_lt_of_le (nat_lt (by omega) hm2) (Nat.pow_le_pow_right (by decide) (by decide))⟩⟩)) fun H2 S2 => ?_
  refine ⟨_, rfl, at_int S2 rfl fun H3 S3 => at_set2 S3 fun S4 => ⟨_, rfl, k _ _ S4 (Int.ediv_nonneg hr (by omega)) ?_⟩⟩
  have h1 : r / m ≤ r := Int.ediv_le_self _ hr
  have h2 : 0 ≤ r / m := Int.ediv_nonneg hr (by omega)
  omega
theorem take_pure (S : PnAt p c H0 H cs a r) (hm : 0 < m) (hm2 : m < 2 ^ 200) (hr : 0 ≤ r) (hr2 : r.natAbs < bigR) (ha : 0 ≤ a) (ha2 : a < 2 ^ 30) (hcs : ∀ x ∈ cs, x.natAbs < bigR) (hl : cs.length ≤ 12)
    (k : ∀ H' a' r' z, PnAt p c H0 H' cs a' r' → a ≤ a' → a' ≤ a + 1 → 0 ≤ r' → r'.natAbs < bigR → 0 ≤ z → z < m → D'.rt (.int z) H') : t_take K mg W D' (stV p [some m, none, none, none]) H := by
  refine at_bool S (b := decide (r < m)) (bof_eq (bin_eq k2_eq rfl rfl)) fun H1 S1 => ?_
  by_cases hlt : r < m
  · rw [decide_eq_true hlt, if_pos rfl]
    refine at_int S1 k1_eq fun H2 S2 => ?_
    show tSeq _ _ _ (stV p [some m, none, some a, none]) H2
    refine at_int S2 (z := 0) rfl fun H3 S3 => ?_
    show tSeq _ _ _ (stV p [some m, none, some a, some 0]) H3
    -- the rest, from the cell's number
    have fin : ∀ (z : Int) (H4 : Hp), z.natAbs < bigR → PnAt p c H0 H4 cs a r → tSeq (tAsg (ePre K mg W [3] (eBin dAdd (eVar 3) (eK (.int 1)))) (gSub (tVar 0) (ePre K mg W [] (eK (.int 1))) rSetL)) (tAsg (ePre K mg W [3, 4] kspr) (gSub (tVar 0) (ePre K mg W [] (eK (.int 2))) rSetL))
        { D' with nx := tSeq (tAsg (ePre K mg W [0, 1] (eBin dMod k2 (eVar 1))) (gName 2)) (tSeq (tAsg (ePre K mg W [0, 1] (eBin dDiv k2 (eVar 1))) (gSub (tVar 0) (ePre K mg W [] (eK (.int 2))) rSetL)) (tRet (tVar 2))) D' } (stV p [some m, none, some a, some z]) H4 := fun z H4 hz S4 => by
      refine at_int S4 (z := a + 1) rfl fun H5 S5 => ?_
      refine ⟨_, rfl, at_int S5 rfl fun H6 S6 => at_set1 S6 fun S7 => ?_⟩
      obtain ⟨y, ey, y0, y1⟩ := spread_ok hz ha ha2
      refine at_int S7 (z := y) ?_ fun H8 S8 => ?_
      · show eCall 2 gSpread _ _ = _
        exact ey
      refine ⟨_, rfl, at_int S8 rfl fun H9 S9 => at_set2 S9 fun S10 => ?_⟩
      exact take_tail S10 hm hm2 y0 y1 fun H' r' S' h1 h2 => k H' _ r' _ S' (by omega) (by omega) h1 h2 (Int.emod_nonneg _ (by omega)) (Int.emod_lt_of_pos _ hm)
    refine at_bool S3 (b := decide (a < cs.length)) (bof_eq (bin_eq (d := .int a) rfl klen_eq rfl)) fun H4 S4 => ?_
    by_cases hin : a < cs.length
    · rw [decide_eq_true hin, if_pos rfl]
      have hj : a.toNat < cs.length := by omega
      refine at_int S4 (cell_eq (k := a) (j := a.toNat) (z := cs[a.toNat]) rfl (by unfold ixN; rw [if_pos ha, if_pos hin]) (List.getElem?_eq_getElem hj)) fun H5 S5 => ?_
      exact fin _ H5 (hcs _ (List.getElem_mem hj)) S5
    · rw [decide_eq_false hin, if_neg (by decide)]
      refine at_bool S4 (b := decide ((0 : Int) < cs.length)) (bof_eq (bin_eq klen_eq rfl rfl)) fun H5 S5 => ?_
      by_cases hpos : (0 : Int) < cs.length
      · rw [decide_eq_true hpos, if_pos rfl]
        have hk0 := Int.emod_nonneg (a * 5 + 3) (show ((cs.length : Nat) : Int) ≠ 0 by omega)
        have hk1 := Int.emod_lt_of_pos (a * 5 + 3) hpos
        have hj : ((a * 5 + 3) % (cs.length : Int)).toNat < cs.length := by omega
        have hc := hcs _ (List.getElem_mem hj)
        generalize hq : cs[((a * 5 + 3) % (cs.length : Int)).toNat] = q at hc
        have q0 := Int.emod_nonneg q (show ((10 : Int) ^ 17 + a) ≠ 0 by omega)
        have q1 := Int.emod_lt_of_pos q (show (0 : Int) < (10 : Int) ^ 17 + a by omega)
        refine at_int S5 (z := q % (10 ^ 17 + a)) ?_ fun H6 S6 => fin _ H6 (Nat.lt_of_lt_of_le (nat_lt (k := 62) q0 (by omega)) (Nat.pow_le_pow_right (by decide) (by decide))) S6
        refine bin_eq (d := .int q) (e := .int (10 ^ 17 + a)) (cell_eq (k := (a * 5 + 3) % (cs.length : Int)) (j := ((a * 5 + 3) % (cs.length : Int)).toNat) ?_ (by unfold ixN; rw [if_pos hk0, if_pos hk1]) (by rw [← hq]; exact List.getElem?_eq_getElem hj)) (bin_eq (d := .int (10 ^ 17)) (e := .int a) (bin_eq (d := .int 10) (e := .int 17) rfl rfl (dPow_small (k := 17) (by decide) (by decide))) rfl rfl) (dMod_pos (by omega))
        exact bin_eq (d := .int (a * 5 + 3)) (e := .int cs.length) (bin_eq (d := .int (a * 5)) (e := .int 3) (bin_eq (d := .int a) (e := .int 5) rfl rfl (dMul_small (Nat.lt_of_lt_of_le (nat_lt (k := 30) ha ha2) (Nat.pow_le_pow_right (by decide) (by decide))) (by decide))) rfl rfl) klen_eq (dMod_pos hpos)
      · rw [decide_eq_false hpos, if_neg (by decide)]
        exact fin 0 H5 (Nat.lt_of_lt_of_le (by decide : (0 : Int).natAbs < 2 ^ 64) bigR_ge) S5
  · rw [decide_eq_false hlt, if_neg (by decide)]
    exact take_tail S1 hm hm2 hr hr2 fun H' r' S' h1 h2 => k H' _ r' _ S' (by omega) (by omega) h1 h2 (Int.emod_nonneg _ (by omega)) (Int.emod_lt_of_pos _ hm)
end
end Mid

namespace Mid
open PySem PySem.Spec PyProof.Rows L2

/-! ## the pen's functions as defs -/
section
variable {P : Program} {w : World} {K : PySem.W.Frag} {mg : Str → Option Value} {base : Heap}
theorem PnAt.of {n : Nat} {H : Hp} {p c : Addr} (ps : Pens (some (p, c)) n H) : ∃ cs a r, PnAt p c H H cs a r ∧ 0 ≤ a ∧ a + n ≤ (bigA : Int) ∧ cs.length ≤ 12 ∧ (∀ x ∈ cs, x.natAbs < bigR) ∧ 0 ≤ r ∧ r.natAbs < bigR := by
  obtain ⟨cs, a, r, h1, h2, h3⟩ := ps.2 p c rfl
  exact ⟨cs, a, r, ⟨h1, h2, fun _ _ h _ _ => h, fun _ h => h⟩, h3⟩
theorem PnAt.ev {n m : Nat} {H H' : Hp} {p c : Addr} {cs : List Int} {a r : Int} {Z : Addr → Prop} {v : V} {d : D} (S : PnAt p c H H' cs a r) (hm : m ≤ bigA) (ha : 0 ≤ a) (hb : a + m ≤ (bigA : Int)) (hl : cs.length ≤ 12) (hcs : ∀ x ∈ cs, x.natAbs < bigR) (hr : 0 ≤ r) (hr2 : r.natAbs < bigR)
    (rd : Rep K (some (p, c)) H' (fun _ => False) v d []) : Ev K (some (p, c)) H Z m v d (some (p, c)) H' :=
  ⟨[], fun _ => False, ⟨fun _ h => h, fun _ h => .inl h, fun x o h np => S.ext x o h (np p c rfl).1 (np p c rfl).2, S.keep⟩, ⟨hm, fun p' c' e => by
    cases e
    exact ⟨cs, a, r, S.hp, S.hc, ha, hb, hl, hcs, hr, hr2⟩⟩, List.Pairwise.nil, fun _ h => (nomatch h), fun _ h => h.elim, rd⟩
theorem take_cal {x qual : Str} {params : Arguments} {bd : List Stmt} {scope : Scope} {kws : List (Str × V)} {f : Addr} {fd : FuncData} {N ps : List Str} {k : Nat} (F : FunD K x qual params bd scope [] kws f fd) (S : FnScope N ps scope) (hm : mg x = some (.ref f)) (hb : Binds K fd ps []) (h2 : ps.length = 2) (h5 : N.length = 5)
    (h : ∀ (cdv : Value) (A : Around) (outer : List PySem.Env) (s : Shared) (H : Hp) (E : XK), Fit k (Xf P w K mg base N qual scope f cdv A outer s H E) (Wf E) → PSs (Xf P w K mg base N qual scope f cdv A outer s H E) bd (t_take K mg (Wf E))) : Cal P w K mg base (k + 1) x 2 gTake := by
  refine ⟨f, fd, ps, gfn_of F S (fun vs H Q E q => ?_) fun cdv A outer s H vs Q E ft po q => ⟨_, h cdv A outer s H E ft, ?_⟩, hm, F.kp, hb⟩
  · obtain ⟨PN, n, Z, ds, hl, r, _⟩ := q
    rw [r.length, hl, h2]
  · obtain ⟨PN, n, Z, ds, hl, r, z, p, q⟩ := q
    unfold gTake at q
    split at q
    · rename_i m
      split at q
      · rename_i hm
        obtain ⟨m', rfl, _, q⟩ := q
        obtain ⟨v1, u1, rfl, r1, r2⟩ := r.inv rfl
        obtain ⟨v2, u2, rfl, r3, r4⟩ := r2.inv rfl
        have e0 := r4.inv0
        subst e0
        cases r3
        cases r1 with
        | pen hp =>
          subst hp
          rename_i pa ca
          obtain ⟨cs, a, r, S0, ha, hb, hl, hcs, hr, hr2⟩ := PnAt.of p
          have est : L2.start N [.ref pa, .int m] = stV pa [some m, none, none, none] := by
            unfold L2.start
            rw [h5]; rfl
          have hA : bigA = 2 ^ 30 := rfl
          rw [est]
          refine take_pure S0 hm.1 hm.2 hr hr2 ha (by omega) hcs hl fun H' a' r' z' S' l1 l2 l3 l4 l5 l6 => ?_
          have := q z'.toNat (by omega) (.int z') (some (pa, ca)) H'
          rw [Int.toNat_of_nonneg l5] at this
          exact this (S'.ev (n := 0) (by have := p.1; omega) (by omega) (by omega) hl hcs l3 l4 .int)
      · exact q.elim
    · exact q.elim
def t_anew (K : PySem.W.Frag) (mg : Str → Option Value) (W : WX) : TS := tSeq (tAsg (ePre K mg W [] (eK (.int 0))) (gSub (tVar 0) (ePre K mg W [] (eK (.int 2))) rSetL)) (tRet (tVar 0))
theorem anew_cal {x qual : Str} {params : Arguments} {bd : List Stmt} {scope : Scope} {kws : List (Str × V)} {f : Addr} {fd : FuncData} {N ps : List Str} {k : Nat} (F : FunD K x qual params bd scope [] kws f fd) (S : FnScope N ps scope) (hm : mg x = some (.ref f)) (hb : Binds K fd ps []) (h2 : ps.length = 1) (h5 : N.length = 1)
    (h : ∀ (cdv : Value) (A : Around) (outer : List PySem.Env) (s : Shared) (H : Hp) (E : XK), Fit k (Xf P w K mg base N qual scope f cdv A outer s H E) (Wf E) → PSs (Xf P w K mg base N qual scope f cdv A outer s H E) bd (t_anew K mg (Wf E))) : Cal P w K mg base (k + 1) x 1 gAnew := by
  refine ⟨f, fd, ps, gfn_of F S (fun vs H Q E q => ?_) fun cdv A outer s H vs Q E ft po q => ⟨_, h cdv A outer s H E ft, ?_⟩, hm, F.kp, hb⟩
  · obtain ⟨PN, n, Z, ds, hl, r, _⟩ := q
    rw [r.length, hl, h2]
  · obtain ⟨PN, n, Z, ds, hl, r, z, p, q⟩ := q
    unfold gAnew at q
    split at q
    · obtain ⟨v1, u1, rfl, r1, r2⟩ := r.inv rfl
      have e0 := r2.inv0
      subst e0
      cases r1 with
      | pen hp =>
        subst hp
        rename_i pa ca
        obtain ⟨cs, a, r, S0, ha, hb, hl, hcs, hr, hr2⟩ := PnAt.of p
        have est : L2.start N [.ref pa] = stV pa [] := by
          unfold L2.start
          rw [h5]; rfl
        rw [est]
        refine at_int S0 rfl fun H1 S1 => ⟨_, rfl, at_int S1 rfl fun H2 S2 => at_set2 S2 fun S3 => ⟨_, rfl, ?_⟩⟩
        exact q _ (some (pa, ca)) _ (S3.ev (n := 0) p.1 ha hb hl hcs (by decide) (Nat.lt_of_lt_of_le (by decide : (0 : Int).natAbs < 2 ^ 64) bigR_ge) (.pen rfl))
    · exact q.elim
end
/-! ## some statements read, then others by hand -/
def thenPost (X : Cx) (t : TS) (D' : Ends) (B : Bs) : Nat → Fl × Env → Prop := fun m r => match r.1 with
  | .nx => ∀ PN' H' Z' σ' o', SOk X.K B PN' H' Z' r.2 σ' o' → Pens PN' m H' → t D' σ' H'
  | _ => False
def tThen (X : Cx) (f : Env → Comp (Fl × Env)) (t : TS) : TS := fun D' σ H => ∃ B PN n Z ρ o, SOk X.K B PN H Z ρ σ o ∧ Pens PN n H ∧ (f ρ).all (thenPost X t D' B) NoErr n
theorem pss_then {X : Cx} {W : WX} {f : Env → Comp (Fl × Env)} {st : Stmt} {sts : List Stmt} {t : TS} (h : SV X W f st) (h2 : PSs X sts t) : PSs X (st :: sts) (tThen X f t) := pssW (pss_cons h h2) fun D' σ H q => by
  obtain ⟨B, PN, n, Z, ρ, o, s, p, q⟩ := q
  refine ⟨B, PN, n, Z, ρ, o, s, p, Comp.all_mono (fun m r q => ?_) (fun _ _ _ h => h) q⟩
  obtain ⟨fl, ρ'⟩ := r
  cases fl with
  | nx => exact q
  | _ => exact q.elim
theorem set1_eq {i : Nat} {vs : List Nat} {f g : Env → Comp D} {ρ : Env} {d : D} {z : Int} {xs : List D} {j : Nat} (hf : f (fzE ρ) = .ret d) (hn : noShr d = true) (hx : ownAt ρ i = some xs) (hg : g (fzE ρ) = .ret (.int z)) (hj : ixN xs.length z = some j) :
    sSet1 i vs f g ρ = .ret (.nx, ρ.set i (some (.lst true (xs.take j ++ ([d] ++ xs.drop (j + 1)))))) := by
  unfold sSet1
  rw [run_int hf]
  unfold upE
  rw [if_pos hn]
  simp only [hx]
  rw [run_int hg]
  simp only [hj]
/-! ## the pen's making -/
def bigS : Nat := 2 ^ 1048577
noncomputable def c_open1 : Env → Comp (Fl × Env) := sAsg 1 [0] (eCallB gList (aCons (eSl dSl (eVar 0) (oNone) (oSome (eK (.int 12)))) (aNil)))
noncomputable def c_open2 : Env → Comp (Fl × Env) := sForS [0] (iOf gEnum (aCons (eSl dSl (eVar 0) (oSome (eK (.int 12))) (oSome (eK (.int 63)))) (aNil))) (tTup 2 (tsCons (tName 2) (tsCons (tName 3) (tsNil)))) (sSet1 1 [1, 2, 3] (eBin dAdd (eBin dIx (eVar 1) (eBin dMod (eVar 2) (eK (.int 12)))) (eVar 3)) (eBin dMod (eVar 2) (eK (.int 12))))
theorem noShr_ints : ∀ ns : List Int, noShrL (ns.map D.int) = true
  | [] => rfl
  | _ :: ns => noShr_ints ns
theorem cut_ints (ns : List Int) (lo hi : Option Int) : cutD (ns.map D.int) lo hi = ((ns.drop (HT.sIx ns.length 0 lo)).take (HT.sIx ns.length ns.length hi - HT.sIx ns.length 0 lo)).map D.int := by
  unfold cutD
  rw [List.length_map, List.map_take, List.map_drop]
theorem loop_open (scr : List Int) : ∀ (zs cs : List Int) (k T : Nat) (x2 x3 : Option D), (zs ≠ [] → cs.length = 12) → (∀ z ∈ zs, z.natAbs < bigS) → (∀ c ∈ cs, c.natAbs < T * bigS) → ∃ (cs' : List Int) (y2 y3 : Option D), cs'.length = cs.length ∧ (∀ c ∈ cs', c.natAbs < (T + zs.length) * bigS) ∧
    forL (tTup 2 (tsCons (tName 2) (tsCons (tName 3) (tsNil)))) (sSet1 1 [1, 2, 3] (eBin dAdd (eBin dIx (eVar 1) (eBin dMod (eVar 2) (eK (.int 12)))) (eVar 3)) (eBin dMod (eVar 2) (eK (.int 12)))) (numbered k (zs.map D.int)) [some (.scr scr), some (.lst true (cs.map D.int)), x2, x3] =
      .ret (.nx, [some (.scr scr), some (.lst true (cs'.map D.int)), y2, y3])
  | [], cs, k, T, x2, x3, _, _, h3 => ⟨cs, x2, x3, rfl, h3, rfl⟩
  | z :: zs, cs, k, T, x2, x3, h1, h2, h3 => by
    have hl : cs.length = 12 := h1 (List.cons_ne_nil _ _)
    have k0 := Int.emod_nonneg (k : Int) (show (12 : Int) ≠ 0 by decide)
    have k1 := Int.emod_lt_of_pos (k : Int) (show (0 : Int) < 12 by decide)
    generalize hj : ((k : Int) % 12).toNat = j
    have hj12 : j < cs.length := by omega
    have hix : ixN cs.length ((k : Int) % 12) = some j := by
      unfold ixN
      rw [if_pos k0, if_pos (by rw [hl]; exact k1), hj]
    have hlen : (cs.set j (cs[j] + z)).length = 12 := by rw [List.length_set, hl]
    obtain ⟨cs', y2, y3, e1, e2, e3⟩ := loop_open scr zs (cs.set j (cs[j] + z)) (k + 1) (T + 1) (some (.int k)) (some (.int z)) (fun _ => hlen) (fun x hx => h2 x (List.mem_cons_of_mem _ hx)) (fun x hx => by
      have hz := h2 z List.mem_cons_self
      have hm := Nat.succ_mul T bigS
      rcases List.mem_or_eq_of_mem_set hx with q | q
      · have := h3 x q
        show x.natAbs < T.succ * bigS
        omega
      · have := h3 _ (List.getElem_mem hj12)
        show x.natAbs < T.succ * bigS
        rw [q]
        omega)
    refine ⟨cs', y2, y3, by rw [e1, List.length_set], fun x hx => by have := e2 x hx; rw [List.length_cons, show T + (zs.length + 1) = T + 1 + zs.length by omega]; exact this, ?_⟩
    show forL _ _ (.tup [.int k, .int z] :: numbered (k + 1) (zs.map D.int)) _ = _
    unfold forL
    have et : tTup 2 (tsCons (tName 2) (tsCons (tName 3) tsNil)) (.tup [.int k, .int z]) [some (.scr scr), some (.lst true (cs.map D.int)), x2, x3] = some [some (.scr scr), some (.lst true (cs.map D.int)), some (.int k), some (.int z)] := rfl
    rw [et]
    have md : ∀ ρ : Env, ρ[2]? = some (some (.int k)) → eBin dMod (eVar 2) (eK (.int 12)) ρ = .ret (.int ((k : Int) % 12)) := fun ρ hρ => bin_eq (d := .int k) (e := .int 12) (by unfold eVar; rw [hρ]) rfl (dMod_pos (by decide))
    have es := set1_eq (i := 1) (vs := [1, 2, 3]) (ρ := [some (.scr scr), some (.lst true (cs.map D.int)), some (.int k), some (.int z)]) (d := .int (cs[j] + z)) (z := (k : Int) % 12) (xs := cs.map D.int) (j := j)
      (f := eBin dAdd (eBin dIx (eVar 1) (eBin dMod (eVar 2) (eK (.int 12)))) (eVar 3)) (g := eBin dMod (eVar 2) (eK (.int 12)))
      (bin_eq (d := .int cs[j]) (e := .int z) (bin_eq (d := .lst false (fzL (cs.map D.int))) (e := .int ((k : Int) % 12)) rfl (md _ rfl) (by
        show dIx (.lst false (fzL (fzL (cs.map D.int)))) (.int ((k : Int) % 12)) = _
        rw [fzL_ints, fzL_ints]
        unfold dIx atI
        simp only [List.length_map, hix]
        simp [hj12])) rfl rfl) rfl rfl (md _ rfl) (by rw [List.length_map]; exact hix)
    simp only [es, bind_ret]
    have en : (cs.map D.int).take j ++ ([.int (cs[j] + z)] ++ (cs.map D.int).drop (j + 1)) = (cs.set j (cs[j] + z)).map D.int := by
      rw [set_split hj12, List.map_append, List.map_take, List.map_cons, List.map_drop]; rfl
    rw [en]
    exact e3
theorem open_pure {ns : List Int} (hl : ns.length ≤ 63) (hb : ∀ z ∈ ns, z.natAbs < bigS) : ∃ (ρ1 : Env) (cs : List Int) (y2 y3 : Option D), c_open1 [some (.scr ns), none, none, none] = .ret (.nx, ρ1) ∧ c_open2 ρ1 = .ret (.nx, [some (.scr ns), some (.lst true (cs.map D.int)), y2, y3]) ∧ cs.length ≤ 12 ∧ ∀ c ∈ cs, c.natAbs < bigR := by
  have c1 : cutD (ns.map D.int) none (some 12) = (ns.take 12).map D.int := by
    rw [cut_ints]
    show ((ns.drop 0).take (min 12 ns.length - 0)).map D.int = _
    rw [List.drop_zero, Nat.sub_zero]
    congr 1
    by_cases h : 12 ≤ ns.length
    · rw [Nat.min_eq_left h]
    · rw [Nat.min_eq_right (by omega), List.take_length, List.take_of_length_le (by omega)]
  have c2 : cutD (ns.map D.int) (some 12) (some 63) = (ns.drop 12).map D.int := by
    rw [cut_ints]
    show ((ns.drop (min 12 ns.length)).take (min 63 ns.length - min 12 ns.length)).map D.int = _
    congr 1
    by_cases h : 12 ≤ ns.length
    · rw [Nat.min_eq_left h, Nat.min_eq_right hl, List.take_of_length_le (by rw [List.length_drop]; exact Nat.le_refl _)]
    · rw [List.drop_of_length_le (by omega), List.drop_of_length_le (by omega)]; simp
  obtain ⟨cs, y2, y3, e1, e2, e3⟩ := loop_open ns (ns.drop 12) (ns.take 12) 0 1 none none (fun h => by
    have : 12 < ns.length := by
      rcases Nat.lt_or_ge 12 ns.length with q | q
      · exact q
      · exact absurd (List.drop_of_length_le q) h
    rw [List.length_take]; omega) (fun z hz => hb z (List.mem_of_mem_drop hz)) (fun c hc => by rw [Nat.one_mul]; exact hb c (List.mem_of_mem_take hc))
  refine ⟨[some (.scr ns), some (.lst true ((ns.take 12).map D.int)), none, none], cs, y2, y3, ?_, ?_, by rw [e1, List.length_take]; omega, fun c hc => ?_⟩
  · refine asg_eq (d := .lst true ((ns.take 12).map D.int)) ?_ (noShr_ints _)
    show gList [fz (.lst true (cutD (ns.map D.int) none (some 12)))] = _
    rw [c1]
    show Comp.ret (D.lst true (fzL ((ns.take 12).map D.int))) = _
    rw [fzL_ints]
  · unfold c_open2 sForS
    have ei : iOf gEnum (aCons (eSl dSl (eVar 0) (oSome (eK (.int 12))) (oSome (eK (.int 63)))) aNil) (fzE [some (.scr ns), some (.lst true ((ns.take 12).map D.int)), none, none]) = .ret (numbered 0 ((ns.drop 12).map D.int)) := by
      show gEnum [fz (.lst true (cutD (ns.map D.int) (some 12) (some 63)))] = _
      rw [c2]
      show Comp.ret (numbered 0 (fzL ((ns.drop 12).map D.int))) = _
      rw [fzL_ints]
    rw [ei, try_ret]
    exact e3
  · have h1 := e2 c hc
    rw [List.length_drop] at h1
    have h2 : (1 + (ns.length - 12)) * bigS ≤ 64 * bigS := Nat.mul_le_mul_right _ (by omega)
    have h3 : 64 * bigS ≤ bigR := by
      unfold bigS bigR
      rw [show (64 : Nat) = 2 ^ 6 by rfl, ← Nat.pow_add]
      exact Nat.pow_le_pow_right (by decide) (by decide)
    omega
end Mid

namespace Mid
open PySem PySem.Spec PyProof.Rows L2

/-! ## the pen's making as a def, the law's def, the law -/
def spOpen (K : PySem.W.Frag) : Sp := fun vs H Q _ => ∃ (n : Nat) (a : Addr) (ns : List Int), vs = [.ref a] ∧ Fzn K H a (ns.map V.int) ∧ ns.length ≤ 63 ∧ (∀ z ∈ ns, z.natAbs < bigS) ∧ n ≤ bigA ∧ ∀ p c H', Mv none H (some (p, c)) H' → Pens (some (p, c)) n H' → Q (.ref p) H'
theorem RepL.intsV {K : PySem.W.Frag} {PN : Pn} {H : Hp} {Z : Addr → Prop} : ∀ {cs : List Int} {vs : List V} {fp : List Addr}, RepL K PN H Z vs (cs.map D.int) fp → vs = cs.map V.int
  | [], _, _, .nil => rfl
  | c :: cs, _, _, .cons r t => by
    cases r
    rw [RepL.intsV t]; rfl
structure OpenAt (P : Program) (w : World) (K : PySem.W.Frag) (mg : Str → Option Value) (base : Heap) (k : Nat) : Prop where
  ex : ∃ (f : Addr) (fd : FuncData) (ps : List Str), FnG P w K mg base k f fd ps (spOpen K) ∧ mg "_law_open" = some (.ref f) ∧ PySem.W.keepIn K (.ref f) = true ∧ Binds K fd ps []
section
variable {P : Program} {w : World} {K : PySem.W.Frag} {mg : Str → Option Value} {base : Heap}
theorem open_at {qual : Str} {params : Arguments} {bd : List Stmt} {scope : Scope} {kws : List (Str × V)} {f : Addr} {fd : FuncData} {N ps : List Str} {k : Nat} (F : FunD K "_law_open" qual params bd scope [] kws f fd) (S : FnScope N ps scope) (hm : mg "_law_open" = some (.ref f)) (hb : Binds K fd ps []) (h2 : ps.length = 1) (h5 : N.length = 4)
    (h : ∀ (cdv : Value) (A : Around) (outer : List PySem.Env) (s : Shared) (H : Hp) (E : XK), Fit k (Xf P w K mg base N qual scope f cdv A outer s H E) (Wf E) → PassesOwn (model P w) (Xf P w K mg base N qual scope f cdv A outer s H E).A (Xf P w K mg base N qual scope f cdv A outer s H E).env (Xf P w K mg base N qual scope f cdv A outer s H E).xe →
      PSs (Xf P w K mg base N qual scope f cdv A outer s H E) bd (tThen (Xf P w K mg base N qual scope f cdv A outer s H E) c_open1 (tThen (Xf P w K mg base N qual scope f cdv A outer s H E) c_open2 (tRet (tLst (tCons (tVar 1) (tCons (tC (.int 0)) (tCons (tC (.int 0)) tNil)))))))) : OpenAt P w K mg base (k + 1) := by
  refine ⟨f, fd, ps, gfn_of F S (fun vs H Q E q => ?_) fun cdv A outer s H vs Q E ft po q => ⟨_, h cdv A outer s H E ft po, ?_⟩, hm, F.kp, hb⟩
  · obtain ⟨n, a, ns, rfl, _⟩ := q
    exact h2.symm
  · obtain ⟨n, a, ns, rfl, fz0, hl, hbits, hn, hQ⟩ := q
    obtain ⟨ρ1, cs, y2, y3, e1, e2, hcl, hcb⟩ := open_pure hl hbits
    have est : L2.start N [.ref a] = [some (.ref a), none, none, none] := by
      unfold L2.start
      rw [h5]; rfl
    rw [est]
    refine ⟨⟨none, H, fun _ => False, none, H, fun _ => False⟩, none, n, fun _ => False, [some (.scr ns), none, none, none], fun _ => none, ⟨.refl, fun _ q => q.elim, fun _ q => q.elim, ⟨fun _ _ q _ => q, fun _ _ q => q, fun _ _ _ q => q⟩, fun _ q => q, fun _ q => q, rfl, fun i d hd => ?_, fun x i q => by cases q⟩, ⟨hn, fun _ _ q => nomatch q⟩, ?_⟩
    · have hi : i = 0 := by
        rcases i with _ | _ | _ | _ | i
        · rfl
        · cases hd
        · cases hd
        · cases hd
        · cases hd
      subst hi
      cases hd
      exact ⟨.ref a, [], rfl, List.Pairwise.nil, fun _ q => (nomatch q), .scr fz0⟩
    · rw [e1]
      intro PN1 H1 Z1 σ1 o1 s1 p1
      refine ⟨_, PN1, n, Z1, ρ1, o1, s1, p1, ?_⟩
      rw [e2]
      intro PN2 H2 Z2 σ2 o2 s2 p2
      obtain ⟨v, f1, g1, g2, g3, g4⟩ := s2.slot 1 _ rfl
      cases g4 with
      | @own c ws _ fp hH r =>
        have ew := RepL.intsV r
        subst ew
        have oc := s2.own c 1 (g3 c List.mem_cons_self)
        refine ⟨_, g1, (show 3 ≤ sizeLine by decide), fun q nq => hQ q c _ ⟨(fun _ z => nomatch z), fun pc z => ?_, fun x u hx np => ?_, fun x hx => ?_⟩ ⟨hn, fun p' c' z => ?_⟩⟩
        · cases z
          exact .inr ⟨rfl, s2.mv.keep q nq, oc.1⟩
        · rw [upd_ne (ne_of_none hx (s2.mv.keep q nq))]
          exact s2.mv.ext x u hx fun _ _ z => nomatch z
        · by_cases z : x = q
          · rw [z]; exact s2.mv.keep q nq
          · rw [upd_ne z] at hx
            exact s2.mv.keep x hx
        · cases z
          have hA : bigA = 2 ^ 30 := rfl
          refine ⟨cs, 0, 0, upd_same, ?_, by omega, by omega, hcl, hcb, by omega, Nat.lt_of_lt_of_le (by decide : (0 : Int).natAbs < 2 ^ 64) bigR_ge⟩
          rw [upd_ne (fun z => by rw [z, nq] at hH; cases hH)]
          exact hH
theorem pe_open {X : Cx} {W : WX} {k k' : Nat} {x : Str} {p p2 pos : Pos} (ft : Fit k X W) (O : OpenAt X.prog X.w X.K X.mg X.base k') (hk : k' ≤ k) (hN : X.N[0]? = some x := by rfl) (hv : Vis X.env.scope x := by first | exact Or.inl rfl | exact Or.inr (Or.inl rfl) | exact Or.inr (Or.inr rfl)) (hg : Gl X "_law_open" := by rfl) (he : starEach [.Name x p2] X.env = (false, eval (.Name x p2) X.env) :: starEach [] X.env := by rfl) (hpl : (backTo pos (starEach [] X.env)).any (·.1) = false := by rfl)
    (hd : (x == ("__debug__" : Str)) = false := by decide) (hcd : (x == ("__classdict__" : Str)) = false := by decide) :
    PE X (.Call (.Name "_law_open" p) [.Name x p2] [] pos) (tCallG (spOpen X.K) W (tCons (tVar 0) tNil)) := by
  obtain ⟨f, fd, ps, G, h1, h2, h3⟩ := O.ex
  exact pe_callG (G.mono hk) ft.rm ft.ca hg h1 h2 h3 ft.tk (pa_cons (pe_var hN hv hd hcd) pa_nil he) (by decide) he hpl
theorem ps_pen {X : Cx} {y : Str} {e : Expr} {te : TE} {pos pos' : Pos} (hN : X.N.Nodup) (he : PE X e te) (hi : X.N[1]? = some y := by rfl) (hx : Loc X.env.scope y := by first | exact Or.inl rfl | exact Or.inr rfl) (hs : swapsWith e (some (.Name y pos')) pos.line X.env = pure false := by rfl)
    (hf : X.fn y = true ∨ X.env.scope.names.lookup y = some .local := by first | exact .inl rfl | exact .inr rfl) : PS X (.Assign [.Name y pos'] e pos) (tAsg te (gName 1)) := ps_set hN hi hx he hs hf
def lawE (n : Nat) : Env := none :: some .pen :: List.replicate (n - 2) none
/-- a def's reading that answers True -/
def Good (c : Env → Comp (Fl × Env)) (n : Nat) (budget : Nat) : Prop := (c (lawE n)).all (fun _ r => match r.1 with
  | .rt d => d = .bl true
  | _ => False) NoErr budget
def spLaw (K : PySem.W.Frag) : Sp := fun vs H Q _ => ∃ (a : Addr) (ns : List Int), vs = [.ref a] ∧ Fzn K H a (ns.map V.int) ∧ ns.length ≤ 63 ∧ (∀ z ∈ ns, z.natAbs < bigS) ∧ ∀ H', Q (.bl true) H'
theorem law_fn {x qual : Str} {params : Arguments} {bd : List Stmt} {scope : Scope} {kws : List (Str × V)} {f : Addr} {fd : FuncData} {N ps : List Str} {k b : Nat} {c : Env → Comp (Fl × Env)} (F : FunD K x qual params bd scope [] kws f fd) (S : FnScope N ps scope) (h2 : ps.length = 1) (h5 : 2 ≤ N.length) (hb : b ≤ bigA) (good : Good c N.length b)
    (h : ∀ (cdv : Value) (A : Around) (outer : List PySem.Env) (s : Shared) (H : Hp) (E : XK), Fit k (Xf P w K mg base N qual scope f cdv A outer s H E) (Wf E) → PassesOwn (model P w) (Xf P w K mg base N qual scope f cdv A outer s H E).A (Xf P w K mg base N qual scope f cdv A outer s H E).env (Xf P w K mg base N qual scope f cdv A outer s H E).xe →
      PSs (Xf P w K mg base N qual scope f cdv A outer s H E) bd (tSeq (tAsg (tCallG (spOpen K) (Wf E) (tCons (tVar 0) tNil)) (gName 1)) (sPre (Xf P w K mg base N qual scope f cdv A outer s H E) (Wf E) c))) : FnG P w K mg base (k + 1) f fd ps (spLaw K) := by
  refine gfn_of F S (fun vs H Q E q => ?_) fun cdv A outer s H vs Q E ft po q => ⟨_, h cdv A outer s H E ft po, ?_⟩
  · obtain ⟨a, ns, rfl, _⟩ := q
    exact h2.symm
  · obtain ⟨a, ns, rfl, fz0, hl, hbits, hQ⟩ := q
    obtain ⟨n, hn⟩ : ∃ n, N.length = n + 2 := ⟨N.length - 2, by omega⟩
    have est : L2.start N [.ref a] = some (.ref a) :: none :: List.replicate n none := by
      unfold L2.start
      rw [hn]; rfl
    rw [est]
    refine ⟨_, rfl, b, a, ns, rfl, fz0, hl, hbits, hb, fun p cc H' mv pens => ?_⟩
    refine ⟨⟨some (p, cc), H', fun _ => False, some (p, cc), H', fun _ => False⟩, some (p, cc), b, fun _ => False, lawE N.length, fun _ => none, ⟨.refl, fun _ q => q.elim, fun _ q => q.elim, ⟨fun _ _ q _ => q, fun _ _ q => q, fun _ _ _ q => q⟩, fun _ q => q, fun _ q => q, ?_, fun i d hd => ?_, fun x i q => by cases q⟩, pens, ?_⟩
    · unfold lawE
      rw [hn]
      simp
    · unfold lawE at hd
      rcases i with _ | _ | i
      · cases hd
      · cases hd
        exact ⟨.ref p, [], rfl, List.Pairwise.nil, fun _ q => (nomatch q), .pen rfl⟩
      · exfalso
        have hd' : (List.replicate (N.length - 2) (none : Option D))[i]? = some (some d) := hd
        rw [List.getElem?_replicate] at hd'
        split at hd' <;> cases hd'
    · refine Comp.all_mono (fun m r q => ?_) (fun _ _ _ q => q) good
      obtain ⟨fl, ρ'⟩ := r
      cases fl with
      | rt d =>
        have e : d = .bl true := q
        subst e
        intro v PN' H2 ev
        obtain ⟨fp, Z1, _, _, _, _, _, rr⟩ := ev
        cases rr
        exact hQ H2
      | _ => exact q.elim
end
theorem bits_big {z : Int} (h : Builtin.Int.intBits z ≤ 1048576) : z.natAbs < bigS := by
  unfold Builtin.Int.intBits at h
  have hp : 0 < bigS := Nat.pow_pos (by decide)
  by_cases hz : z = 0
  · subst hz
    exact hp
  · have hb : (z == 0) = false := by simpa using hz
    rw [hb, if_neg (by decide)] at h
    have h1 : z.natAbs.log2 < 1048577 := by omega
    exact (Nat.log2_lt (by omega)).mp h1
/-- the law's def is called at the ground -/
theorem law_at {P : Program} {w : World} {K : PySem.W.Frag} {mg mb : Str → Option Value} {k : Nat} {fa la : Addr} {fd : FuncData} {x : Str} {t : Shared} {us : List Value} {ns : List Int} (kin : K.In t.heap) (gl : t.heap.Ns mainGlobals mg) (bl : t.heap.Ns builtinsNs mb) (bb : ∀ x : Str, x ≠ "__name__" → mb x = bootBuiltins x) (lim : t.heap.NoLimit) (ng : t.gens = #[])
    (hla : t.heap.get? la = some { cls := .type "list", data := .seq us.toArray }) (areI : IntsAre us ns) (h63 : ns.length ≤ 63) (hbits : ∀ z ∈ ns, Builtin.Int.intBits z ≤ 1048576) (rm : Room k callerA) (hbind : ∀ (s : Shared) (u : Value), BindsTo s fd ⟨[u], []⟩ [(x, u)])
    (G : ∀ base : Heap, K.In base → base.Ns mainGlobals mg → FnG P w K mg base k fa fd [x] (spLaw K)) :
    codeAny (model P w) callerA (.call (.ref fa) ⟨[.ref la], []⟩) (fun r t' => r = .ok (.ret (.bool true)) ∧ OldK t.heap t'.heap ∧ t'.os = t.os ∧ AllBare t'.gens) t := by
  have vals := vals_ints areI
  have lens := areI.length
  have hsz : ns.length ≤ sizeLine := Nat.le_trans h63 (by decide)
  have main : ∀ H : Hp, (∀ b, H b = none ∨ ∃ o, H b = some (.frz o (.lst (ns.map V.int)))) → Fzn K H la (ns.map V.int) → HOk P w H t.heap → (∀ b, H b ≠ none → b = la) → (H la ≠ none → K.lookup la = none) →
      codeAny (model P w) callerA (.call (.ref fa) ⟨[.ref la], []⟩) (fun r t' => r = .ok (.ret (.bool true)) ∧ OldK t.heap t'.heap ∧ t'.os = t.os ∧ AllBare t'.gens) t := by
    intro H only fzn ok at_ noK
    have back : ∀ {b : Addr} {o : Obj}, t.heap.get? b = some o → H b = none → (hidT t.heap H).get? b = some o := hidT_get
    have dicts : ∀ {b : Addr} {o : Obj} {es : Array DictEntry} {ep : Nat}, t.heap.get? b = some o → o.data = .dict es ep → H b = none := by
      intro b o es ep e d
      by_cases q : H b = none
      · exact q
      · rw [at_ b q, hla] at e
        cases e
        cases (show Data.seq us.toArray _ = Data.dict es ep from d)
    have names : ∀ {b : Addr} {m : Str → Option Value}, t.heap.Ns b m → (hidT t.heap H).Ns b m := by
      rintro b m ⟨o, es, ep, e, d, r⟩
      exact ⟨o, es, ep, back e (dicts e d), d, r⟩
    have kin' : K.In (hidT t.heap H) := by
      intro b o e
      refine back (kin b o e) ?_
      by_cases q : H b = none
      · exact q
      · have e' := at_ b q
        rw [e'] at q e
        rw [noK q] at e
        cases e
    have md : Mod K mg (hidT t.heap H) := by
      obtain ⟨mc, l1, l2⟩ := lim
      exact ⟨kin', names gl, ⟨mb, names bl, bb⟩, mc, names l1, l2⟩
    have ground : Env0 P w K mg (hidT t.heap H) callerA [] t H :=
      ⟨rfl, md, fun _ _ e => of_hidT e, Nat.le_of_eq (hidT_size _ _), trivial, fun b q => absurd (show b ∈ ([] : List Addr) from q) (by simp), ok, .of_eq ng⟩
    have pre : spLaw K [.ref la] H (fun v _ => v = .bl true) (fun _ _ _ => False) := ⟨la, ns, rfl, fzn, h63, fun z hz => bits_big (hbits z hz), fun _ => rfl⟩
    refine codeAny_mono ((G _ kin' (names gl)).go callerA [] t H ⟨[.ref la], []⟩ [.ref la] [.ref la] _ _ rm rfl ground (hbind t (.ref la)) (.cons rfl .nil) pre) ?_
    intro r t' res
    match r, res with
    | .error e, res =>
      obtain ⟨_, _, _, _, _, _, _, _, _, _, _, _, q⟩ := res
      exact q.elim
    | .ok .next, res => exact False.elim res
    | .ok .brk, res => exact False.elim res
    | .ok .cont, res => exact False.elim res
    | .ok (.ret u), res =>
      obtain ⟨v, H', hos, hbare, un, ok', rel, ev⟩ := res
      have ev' : v = .bl true := ev
      subst ev'
      have eu : u = Value.bool true := rel
      subst eu
      refine ⟨rfl, OldK.of_keep fun b o e => ?_, hos, hbare⟩
      rcases only b with q | ⟨ob, q⟩
      · exact un.keep b o e q (by intro z; exact absurd (show b ∈ ([] : List Addr) from z) (by simp)) (by simp)
      · have q2 := un.frzs b ob _ q
        have e1 := (ok b _ q).1
        have e2 := (ok' b _ q2).1
        rw [e] at e1
        cases e1
        exact e2
  match hk : K.lookup la with
  | some o =>
    have e := kin la o hk
    rw [hla] at e
    cases e
    refine main (fun _ => none) (fun _ => .inl rfl) (.inr ⟨_, us.toArray, _, hk, rfl, rfl, rfl, ?_, by simpa using vals⟩) (fun b u z => by cases (show (none : Option HO) = some u from z)) (fun _ z => absurd rfl z) (fun z => absurd rfl z)
    rw [List.size_toArray, lens]
    exact hsz
  | none =>
    let ob : Obj := { cls := .type "list", data := .seq us.toArray }
    refine main (fun b => if b = la then some (.frz ob (.lst (ns.map V.int))) else none) (fun b => ?_) (.inl ⟨ob, if_pos rfl⟩) (fun b u z => ?_) (fun b z => ?_) (fun _ => hk)
    · by_cases e : b = la
      · exact .inr ⟨ob, if_pos e⟩
      · exact .inl (if_neg e)
    · by_cases e : b = la
      · have z' := (if_pos e).symm.trans z
        cases z'
        rw [e]
        exact ⟨hla, by rw [List.length_map]; exact hsz, us, _, vals, hla⟩
      · cases (if_neg e).symm.trans z
    · by_cases e : b = la
      · exact e
      · exact absurd (if_neg e) z
theorem walk_mid {l : PySem.W.OpenLaw} {k : Nat} {q : Program} {loose : List Str} {XP : (Str → Option Value) → Heap → Prop} {YP : World → Heap → Prop} {d : DefRec} {x : Str} (hm : l.most = some 63) (hdf : d.params.defaults = []) (rm : Room k callerA)
    (F : ∀ (w : World) (mg : Str → Option Value) (fa : Addr) (h : Heap), YP w h → h.Ns mainGlobals mg → mg d.name = some (.ref fa) →
      ∃ (K : PySem.W.Frag) (fd : FuncData), K.In h ∧ (∀ (s : Shared) (u : Value), BindsTo s fd ⟨[u], []⟩ [(x, u)]) ∧ ∀ base : Heap, K.In base → base.Ns mainGlobals mg → FnG l.prog w K mg base k fa fd [x] (spLaw K)) :
    PySem.W.WalkO q loose XP YP l.row.toRowW d [] (fun f vs => PySem.call f vs) := by
  refine Att.attach_callB hm hdf ?_
  intro w s0 t mg mb fa o pm cd doc la us ns G Y _ _ _ hmg hobj areI h63 hbits ng
  obtain ⟨K, fd, kin, hb, hF⟩ := F w mg fa _ Y G.T.g hmg
  exact law_at kin G.T.g G.T.b G.T.builtins G.T.nolimit ng hobj areI h63 hbits rm hb hF
end Mid

namespace Mid
open PySem PySem.Spec PyProof.Rows L2

/-! ## plain laws of readings -/
/-- never refused, at most b draws, P of what comes -/
structure Spec {α : Type} (c : Comp α) (b : Nat) (P : α → Prop) : Prop where
  go : ∀ n, b ≤ n → c.all (fun m a => n ≤ m + b ∧ P a) NoErr n
section
variable {α β : Type} {c : Comp α} {b b1 b2 : Nat} {P P' : α → Prop} {Q : β → Prop}
theorem Spec.ret {a : α} (h : P a) : Spec (.ret a) 0 P := ⟨fun n _ => ⟨Nat.le_refl _, h⟩⟩
theorem Spec.of {a : α} (e : c = .ret a) (h : P a) : Spec c 0 P := e ▸ Spec.ret h
theorem Spec.imp (s : Spec c b P) (h : ∀ a, P a → P' a) : Spec c b P' := ⟨fun n hn => Comp.all_mono (fun _ a q => ⟨q.1, h a q.2⟩) (fun _ _ _ q => q) (s.go n hn)⟩
theorem Spec.mono (s : Spec c b P) (h : b ≤ b1) : Spec c b1 P := ⟨fun n hn => Comp.all_mono (fun _ a q => ⟨by omega, q.2⟩) (fun _ _ _ q => q) (s.go n (by omega))⟩
theorem Spec.draw {m : Nat} {k : Nat → Comp α} (h0 : 0 < m) (h : ∀ r, r < m → Spec (k r) b P) : Spec (.draw m k) (b + 1) P := ⟨fun n hn => ⟨n - 1, by omega, h0, fun r hr => Comp.all_mono (fun _ a q => ⟨by omega, q.2⟩) (fun _ _ _ q => q) ((h r hr).go (n - 1) (by omega))⟩⟩
theorem Spec.bind {f : α → Comp β} (s : Spec c b1 P) (h : ∀ a, P a → Spec (f a) b2 Q) : Spec (c.bind f) (b1 + b2) Q := ⟨fun n hn => Comp.all_bind.mpr (Comp.all_mono (fun m a q => Comp.all_mono (fun m' a' q' => ⟨by omega, q'.2⟩) (fun _ _ _ q => q) ((h a q.2).go m (by omega))) (fun _ _ _ q => q.elim) (s.go n (by omega)))⟩
theorem Spec.try_ {f : α → Comp β} {g : String → List D → Comp β} (s : Spec c b1 P) (h : ∀ a, P a → Spec (f a) b2 Q) : Spec (c.try_ f g) (b1 + b2) Q := ⟨fun n hn => Comp.all_try.mpr (Comp.all_mono (fun m a q => Comp.all_mono (fun m' a' q' => ⟨by omega, q'.2⟩) (fun _ _ _ q => q) ((h a q.2).go m (by omega))) (fun _ _ _ q => q.elim) (s.go n (by omega)))⟩
theorem Spec.sure (s : Spec c b P) : Spec c.sure b P := ⟨fun n hn => by
  have : ∀ {c : Comp α} {n : Nat} {Q : Nat → α → Prop}, c.all Q NoErr n → c.sure.all Q NoErr n := by
    intro c
    induction c with
    | ret a => exact fun h => h
    | draw m k ih => exact fun ⟨m', e, h0, h⟩ => ⟨m', e, h0, fun r hr => ih r (h r hr)⟩
    | err c x => exact fun h => h
    | stuck => exact fun h => h
  exact this (s.go n hn)⟩
end
section
variable {vs : List Nat} {ρ : Env} {b b1 b2 : Nat} {P : D → Prop} {Q R : Fl × Env → Prop} {f : Env → Comp D} {g g2 : Env → Comp (Fl × Env)}
theorem Spec.run {k : D → Comp (Fl × Env)} (s : Spec (f (fzE ρ)) b1 P) (h : ∀ d, P d → Spec (k d) b2 Q) : Spec (run vs f ρ k) (b1 + b2) Q := Spec.try_ s h
theorem Spec.asg {i : Nat} (s : Spec (f (fzE ρ)) b (fun d => noShr d = true ∧ P d)) : Spec (sAsg i vs f ρ) b (fun r => ∃ d, P d ∧ r = (.nx, ρ.set i (some d))) := by
  have := Spec.run (vs := vs) (k := fun d => .ret (.nx, (upE vs d ρ).set i (some d))) (b2 := 0) (Q := fun r => ∃ d, P d ∧ r = (Fl.nx, ρ.set i (some d))) s fun d ⟨hn, hp⟩ => Spec.ret ⟨d, hp, by unfold upE; rw [if_pos hn]⟩
  exact this
theorem Spec.seq (s : Spec (g ρ) b1 (fun r => ∃ ρ', R (.nx, ρ') ∧ r = (.nx, ρ'))) (h : ∀ ρ', R (.nx, ρ') → Spec (g2 ρ') b2 Q) : Spec (sSeq g g2 ρ) (b1 + b2) Q := Spec.bind s fun r ⟨ρ', hr, e⟩ => by
  subst e
  exact h ρ' hr
/-- an assignment, then the rest -/
theorem Spec.asgS {i : Nat} (s : Spec (f (fzE ρ)) b1 (fun d => noShr d = true ∧ P d)) (h : ∀ d, P d → Spec (g2 (ρ.set i (some d))) b2 Q) : Spec (sSeq (sAsg i vs f) g2 ρ) (b1 + b2) Q := Spec.bind (Spec.asg s) fun r ⟨d, hd, e⟩ => by
  subst e
  exact h d hd
theorem Spec.ret_ {P : D → Prop} (s : Spec (f (fzE ρ)) b P) : Spec (sRet vs f ρ) b (fun r => ∃ d, P d ∧ r = (.rt d, ρ)) := by
  have := Spec.run (vs := vs) (k := fun d => .ret (.rt d, ρ)) (b2 := 0) (Q := fun r => ∃ d, P d ∧ r = (Fl.rt d, ρ)) s fun d hp => Spec.ret ⟨d, hp, rfl⟩
  exact this
theorem Spec.fn {n : Nat} {ds : List D} {c : Env → Comp (Fl × Env)} (s : Spec (c (startE n ds)) b (fun r => ∃ d ρ', P d ∧ r = (.rt d, ρ'))) : Spec (fnB n c ds) b P := Spec.try_ (b2 := 0) s fun r ⟨d, ρ', hd, e⟩ => by
  subst e
  exact Spec.ret hd
theorem Spec.fn_nx {n : Nat} {ds : List D} {c : Env → Comp (Fl × Env)} {P : D → Prop} (s : Spec (c (startE n ds)) b (fun r => ∃ d ρ', P d ∧ (r = (.rt d, ρ') ∨ (d = .non ∧ r = (.nx, ρ'))))) : Spec (fnB n c ds) b P := Spec.try_ (b2 := 0) s fun r ⟨d, ρ', hd, e⟩ => by
  rcases e with e | ⟨e1, e⟩
  · subst e; exact Spec.ret hd
  · subst e e1; exact Spec.ret hd
end
/-! ### loops -/
/-- a loop by an invariant that tells what is left -/
theorem Spec.forL {t : Tg} {body : Env → Comp (Fl × Env)} {b : Nat} {Q : Fl × Env → Prop} (Inv : List D → Env → Prop) (step : ∀ d ds ρ, Inv (d :: ds) ρ → ∃ ρ', t d ρ = some ρ' ∧ Spec (body ρ') b (fun r => ((∃ ρ2, Inv ds ρ2 ∧ (r = (.nx, ρ2) ∨ r = (.ct, ρ2)))) ∨ (∃ ρ2, r = (.bk, ρ2) ∧ Q (.nx, ρ2)) ∨ (∃ d' ρ2, r = (.rt d', ρ2) ∧ Q (.rt d', ρ2)))) (last : ∀ ρ, Inv [] ρ → Q (.nx, ρ)) :
    ∀ ds ρ, Inv ds ρ → Spec (forL t body ds ρ) (b * ds.length) Q
  | [], ρ, h => Spec.ret (last ρ h)
  | d :: ds, ρ, h => by
    obtain ⟨ρ', e, s⟩ := step d ds ρ h
    unfold Mid.forL
    rw [e]
    have := Spec.bind s (b2 := b * ds.length) (Q := Q) (f := fun r => match r with
      | (.nx, ρ2) => Mid.forL t body ds ρ2
      | (.ct, ρ2) => Mid.forL t body ds ρ2
      | (.bk, ρ2) => .ret (.nx, ρ2)
      | r => .ret r) fun r hr => by
      rcases hr with ⟨ρ2, hi, e | e⟩ | ⟨ρ2, e, q⟩ | ⟨d', ρ2, e, q⟩
      · subst e; exact Spec.forL Inv step last ds ρ2 hi
      · subst e; exact Spec.forL Inv step last ds ρ2 hi
      · subst e; exact (Spec.ret q).mono (Nat.zero_le _)
      · subst e; exact (Spec.ret q).mono (Nat.zero_le _)
    refine Spec.mono ?_ (show b + b * ds.length ≤ b * (ds.length + 1) by rw [Nat.mul_succ]; omega)
    exact this
theorem sure_ret {α : Type} {a : α} : (Comp.ret a).sure = .ret a := rfl
/-- a comprehension without draws -/
theorem compL_eq {α : Type} {t : Tg} {c : Env → Comp Bool} {f : Env → Comp D} {ρ : Env} (E G : α → D) (p : α → Bool) : ∀ (L : List α), (∀ a ∈ L, ∃ ρ', t (E a) ρ = some ρ' ∧ c ρ' = .ret (p a) ∧ (p a = true → f ρ' = .ret (G a))) → compL t c f ρ (L.map E) = .ret ((L.filter p).map G)
  | [], _ => rfl
  | a :: L, h => by
    obtain ⟨ρ', e1, e2, e3⟩ := h a List.mem_cons_self
    have ih := compL_eq E G p L fun x hx => h x (List.mem_cons_of_mem _ hx)
    cases hp : p a with
    | false =>
      simp only [List.map_cons, compL, e1, e2, sure_ret, bind_ret, hp, ih]
      rw [List.filter_cons_of_neg (by rw [hp]; decide)]; rfl
    | true =>
      simp only [List.map_cons, compL, e1, e2, sure_ret, bind_ret, hp, ih, e3 hp, if_true]
      rw [List.filter_cons_of_pos hp]; rfl
theorem compL_all {α : Type} {t : Tg} {f : Env → Comp D} {ρ : Env} (E G : α → D) (L : List α) (h : ∀ a ∈ L, ∃ ρ', t (E a) ρ = some ρ' ∧ f ρ' = .ret (G a)) : compL t cAll f ρ (L.map E) = .ret (L.map G) := by
  rw [compL_eq E G (fun _ => true) L fun a ha => by
    obtain ⟨ρ', e1, e2⟩ := h a ha
    exact ⟨ρ', e1, rfl, fun _ => e2⟩]
  rw [List.filter_eq_self.mpr fun _ _ => rfl]
/-- a comprehension with draws -/
theorem Spec.compL {t : Tg} {f : Env → Comp D} {ρ : Env} {b : Nat} {P : D → Prop} : ∀ ds : List D, (∀ d ∈ ds, ∃ ρ', t d ρ = some ρ' ∧ Spec (f ρ') b P) → Spec (Mid.compL t cAll f ρ ds) (b * ds.length) (fun es => es.length = ds.length ∧ ∀ e ∈ es, P e)
  | [], _ => Spec.ret ⟨rfl, fun _ h => nomatch h⟩
  | d :: ds, h => by
    obtain ⟨ρ', e1, s⟩ := h d List.mem_cons_self
    have ih := Spec.compL ds fun x hx => h x (List.mem_cons_of_mem _ hx)
    unfold Mid.compL
    rw [e1]
    show Spec ((f ρ').sure.bind fun e => (Mid.compL t cAll f ρ ds).bind fun es => .ret (e :: es)) _ _
    refine Spec.mono (Spec.bind s.sure fun e he => Spec.bind ih fun es hes => Spec.ret ?_) (show b + (b * ds.length + 0) ≤ b * (ds.length + 1) by rw [Nat.mul_succ]; omega)
    exact ⟨congrArg Nat.succ hes.1, fun x hx => by
      rcases List.mem_cons.mp hx with q | q
      · rw [q]; exact he
      · exact hes.2 x q⟩
/-! ### shapes -/
def rowD (r : List Int) : D := .tup (r.map D.int)
def webD (W : List (List Int)) : D := .tup (W.map rowD)
theorem fz_row (r : List Int) : fz (rowD r) = rowD r := by
  show D.tup (r.map D.int) = _
  rfl
theorem fz_web (W : List (List Int)) : fz (webD W) = webD W := rfl
theorem fzL_rows : ∀ W : List (List Int), fzL (W.map rowD) = W.map rowD
  | [] => rfl
  | _ :: W => congrArg (_ :: ·) (fzL_rows W)
theorem numbered_map {α : Type} (E : α → D) : ∀ (L : List α) (k : Nat), numbered k (L.map E) = (L.zipIdx k).map fun p => .tup [.int (p.2 : Int), E p.1]
  | [], _ => rfl
  | a :: L, k => by
    rw [List.zipIdx_cons, List.map_cons, List.map_cons, ← numbered_map E L (k + 1)]; rfl
theorem rangeL_map : ∀ (n : Nat) (i : Int), rangeL i n = (List.range n).map fun (k : Nat) => D.int (i + (k : Int)) := by
  intro n i
  have h1 : (rangeL i n).length = n := by
    induction n generalizing i with
    | zero => rfl
    | succ n ih => exact congrArg Nat.succ (ih (i + 1))
  have h2 : ∀ (n : Nat) (i : Int) (k : Nat), k < n → (rangeL i n)[k]? = some (D.int (i + k)) := by
    intro n
    induction n with
    | zero => intro i k hk; omega
    | succ n ih =>
      intro i k hk
      cases k with
      | zero => show some (D.int i) = _; simp
      | succ k =>
        show (rangeL (i + 1) n)[k]? = _
        rw [ih (i + 1) k (by omega)]
        congr 2
        push_cast
        omega
  refine List.ext_getElem? fun k => ?_
  by_cases hk : k < n
  · rw [h2 n i k hk, List.getElem?_map, List.getElem?_range hk]; rfl
  · rw [List.getElem?_eq_none (by omega), List.getElem?_eq_none (by simp; omega)]
theorem take_spec {m : Int} (h0 : 0 < m) (h1 : m < 2 ^ 200) : Spec (gTake [.pen, .int m]) 1 (fun d => ∃ r : Int, d = .int r ∧ 0 ≤ r ∧ r < m) := by
  have e : gTake [.pen, .int m] = .draw m.toNat fun r => .ret (.int (r : Int)) := if_pos ⟨h0, h1⟩
  rw [e]
  exact Spec.draw (b := 0) (by omega) fun r hr => Spec.ret ⟨r, rfl, by omega, by omega⟩
end Mid

namespace Mid
open PySem PySem.Spec PyProof.Rows L2

/-! ## plain laws with draws -/
section
variable {α β : Type} {b b1 b2 b3 : Nat} {P P1 P2 Q : D → Prop} {f g : Env → Comp D} {ρ : Env} {vs : List Nat}
theorem Spec.eq {c c' : Comp α} {P : α → Prop} (e : c = c') (s : Spec c' b P) : Spec c b P := e ▸ s
theorem Spec.bin {op : D → D → Comp D} (s1 : Spec (f ρ) b1 P1) (s2 : Spec (g ρ) b2 P2) (h : ∀ d e, P1 d → P2 e → Spec (op (fz d) (fz e)) b3 Q) : Spec (eBin op f g ρ) (b1 + b2 + b3) Q := by
  have := Spec.bind (b2 := b2 + b3) (Q := Q) (f := fun d => (g ρ).bind fun e => op (fz d) (fz e)) s1 fun d hd => Spec.bind s2 fun e he => h d e hd he
  exact this.mono (by omega)
theorem Spec.fn2 {F : List D → Comp D} (s1 : Spec (f ρ) b1 P1) (s2 : Spec (g ρ) b2 P2) (h : ∀ d e, P1 d → P2 e → Spec (F [fz d, fz e]) b3 Q) : Spec (eCall 2 F (aCons f (aCons g aNil)) ρ) (b1 + b2 + b3) Q := by
  have := Spec.bind (b2 := b2 + b3) (Q := Q) (f := fun d => (g ρ).bind fun e => F [fz d, fz e]) s1 fun d hd => Spec.bind s2 fun e he => h d e hd he
  refine Spec.eq ?_ (this.mono (show b1 + (b2 + b3) ≤ b1 + b2 + b3 by omega))
  unfold eCall aCons aNil
  have bb : ∀ {α β γ : Type} (c : Comp α) (f : α → Comp β) (g : β → Comp γ), (c.bind f).bind g = c.bind fun a => (f a).bind g := by
    intro α β γ c f g
    induction c with
    | ret a => rfl
    | draw m k ih => exact congrArg (Comp.draw m) (funext ih)
    | err c x => rfl
    | stuck => rfl
  rw [bb]
  refine congrArg (Comp.bind (f ρ)) (funext fun d => ?_)
  rw [bb, bb]
  refine congrArg (Comp.bind (g ρ)) (funext fun e => ?_)
  simp only [bind_ret]
  exact if_pos rfl
theorem Spec.call1 {F : List D → Comp D} (s1 : Spec (f ρ) b1 P1) (h : ∀ d, P1 d → Spec (F [fz d]) b2 Q) : Spec (eCallB F (aCons f aNil) ρ) (b1 + b2) Q := by
  have := Spec.bind (b2 := b2) (Q := Q) (f := fun d => F [fz d]) s1 h
  refine Spec.eq ?_ this
  unfold eCallB aCons aNil
  have bb : ∀ {α β γ : Type} (c : Comp α) (f : α → Comp β) (g : β → Comp γ), (c.bind f).bind g = c.bind fun a => (f a).bind g := by
    intro α β γ c f g
    induction c with
    | ret a => rfl
    | draw m k ih => exact congrArg (Comp.draw m) (funext ih)
    | err c x => rfl
    | stuck => rfl
  rw [bb]
  rfl
theorem Spec.var {i : Nat} {d : D} (h : ρ[i]? = some (some d)) (hp : P d) : Spec (eVar i ρ) 0 P := by
  unfold eVar; rw [h]; exact Spec.ret hp
theorem Spec.k {d : D} (hp : P d) : Spec (eK d ρ) 0 P := Spec.ret hp
theorem Spec.app {i : Nat} {xs : List D} (hx : ownAt ρ i = some xs) (hl : xs.length < sizeLine) (s : Spec (f (fzE ρ)) b (fun d => noShr d = true ∧ P d)) : Spec (sApp i vs f ρ) b (fun r => ∃ d, P d ∧ r = (.nx, ρ.set i (some (.lst true (xs ++ [d]))))) := by
  unfold sApp
  rw [hx]
  have := Spec.run (vs := vs) (b2 := 0) (Q := fun r => ∃ d, P d ∧ r = (Fl.nx, ρ.set i (some (.lst true (xs ++ [d]))))) (k := fun d => match ownAt (upE vs d ρ) i with
    | some xs => if xs.length < sizeLine then .ret (.nx, (upE vs d ρ).set i (some (.lst true (xs ++ [d])))) else .stuck
    | none => .stuck) s fun d ⟨hn, hp⟩ => by
    unfold upE
    rw [if_pos hn]
    simp only [hx]
    rw [if_pos hl]
    exact Spec.ret ⟨d, hp, rfl⟩
  exact this
theorem Spec.ins {i : Nat} {xs : List D} (hx : ownAt ρ i = some xs) (hl : xs.length < sizeLine) (s : Spec (f (fzE ρ)) b1 (fun d => ∃ z : Int, d = .int z ∧ 0 ≤ z ∧ z < 2 ^ 63)) (s2 : Spec (g (fzE ρ)) b2 (fun d => noShr d = true ∧ P d)) :
    Spec (sIns i vs f g ρ) (b1 + b2) (fun r => ∃ (k : Nat) (d : D), P d ∧ r = (.nx, ρ.set i (some (.lst true (xs.take k ++ ([d] ++ xs.drop k)))))) := by
  unfold sIns
  rw [hx]
  refine Spec.run s fun d ⟨z, e, h0, h1⟩ => ?_
  subst e
  have := Spec.run (vs := vs) (b2 := 0) (Q := fun r => ∃ (k : Nat) (d : D), P d ∧ r = (Fl.nx, ρ.set i (some (.lst true (xs.take k ++ ([d] ++ xs.drop k)))))) (k := fun d => match ownAt (upE vs d ρ) i with
      | some xs => if xs.length < sizeLine ∧ 0 ≤ z ∧ z < 2 ^ 63 then .ret (.nx, (upE vs d ρ).set i (some (.lst true (xs.take z.toNat ++ ([d] ++ xs.drop z.toNat))))) else .stuck
      | none => .stuck) s2 fun d ⟨hn, hp⟩ => by
    unfold upE
    rw [if_pos hn]
    simp only [hx]
    rw [if_pos ⟨hl, h0, h1⟩]
    exact Spec.ret ⟨_, d, hp, rfl⟩
  exact this
theorem ixN_in {n : Nat} {z : Int} (h0 : 0 ≤ z) (h1 : z < n) : ixN n z = some z.toNat := by
  unfold ixN; rw [if_pos h0, if_pos h1]
theorem Spec.set1 {i : Nat} {xs : List D} (hx : ownAt ρ i = some xs) (s : Spec (f (fzE ρ)) b1 (fun d => noShr d = true ∧ P d)) (s2 : Spec (g (fzE ρ)) b2 (fun d => ∃ z : Int, d = .int z ∧ 0 ≤ z ∧ z < xs.length)) :
    Spec (sSet1 i vs f g ρ) (b1 + b2) (fun r => ∃ (j : Nat) (d : D), j < xs.length ∧ P d ∧ r = (.nx, ρ.set i (some (.lst true (xs.set j d))))) := by
  unfold sSet1
  refine Spec.run s fun d ⟨hn, hp⟩ => ?_
  unfold upE
  rw [if_pos hn]
  simp only [hx]
  have := Spec.run (vs := vs) (b2 := 0) (Q := fun r => ∃ (j : Nat) (d : D), j < xs.length ∧ P d ∧ r = (Fl.nx, ρ.set i (some (.lst true (xs.set j d))))) (k := fun k => match k with
    | .int z => match ixN xs.length z with
      | some j => .ret (.nx, ρ.set i (some (.lst true (xs.take j ++ ([d] ++ xs.drop (j + 1))))))
      | none => .stuck
    | _ => .stuck) s2 fun e ⟨z, he, h0, h1⟩ => by
    subst he
    simp only [ixN_in h0 h1]
    exact Spec.ret ⟨z.toNat, d, by omega, hp, by rw [set_split (xs := xs) (j := z.toNat) (x := d) (by omega)]; rfl⟩
  exact this
theorem Spec.set2 {i : Nat} {xs : List D} {h_ : Env → Comp D} (hx : ownAt ρ i = some xs) (s : Spec (f (fzE ρ)) b1 (fun d => noShr d = true ∧ P d)) (s2 : Spec (h_ (fzE ρ)) b2 (fun d => ∃ z : Int, d = .int z ∧ 0 ≤ z ∧ z < xs.length)) {m : Nat} (hm : ∀ x ∈ xs, ∃ ys, x = .lst true ys ∧ ys.length = m) (s3 : Spec (g (fzE ρ)) b3 (fun d => ∃ z : Int, d = .int z ∧ 0 ≤ z ∧ z < m)) :
    Spec (sSet2 i vs f h_ g ρ) (b1 + b2 + b3) (fun r => ∃ (j k : Nat) (ys : List D) (d : D), xs[j]? = some (.lst true ys) ∧ k < ys.length ∧ P d ∧ r = (.nx, ρ.set i (some (.lst true (xs.set j (.lst true (ys.set k d))))))) := by
  unfold sSet2
  refine Spec.mono (Spec.run (b2 := b2 + b3) s fun d ⟨hn, hp⟩ => ?_) (show b1 + (b2 + b3) ≤ b1 + b2 + b3 by omega)
  unfold upE
  rw [if_pos hn]
  simp only [hx]
  refine Spec.run s2 fun e ⟨z, he, h0, h1⟩ => ?_
  subst he
  have hj : z.toNat < xs.length := by omega
  obtain ⟨ys, ey, hl⟩ := hm _ (List.getElem_mem hj)
  have eg : xs[z.toNat]? = some (.lst true ys) := by rw [List.getElem?_eq_getElem hj, ey]
  simp only [ixN_in h0 h1, eg]
  have := Spec.run (vs := vs) (b2 := 0) (Q := fun r => ∃ (j k : Nat) (ys : List D) (d : D), xs[j]? = some (.lst true ys) ∧ k < ys.length ∧ P d ∧ r = (Fl.nx, ρ.set i (some (.lst true (xs.set j (.lst true (ys.set k d))))))) (k := fun k2 => match k2 with
          | .int z2 => match ixN ys.length z2 with
            | some j2 => .ret (.nx, ρ.set i (some (.lst true (xs.set z.toNat (.lst true (ys.take j2 ++ ([d] ++ ys.drop (j2 + 1))))))))
            | none => .stuck
          | _ => .stuck) s3 fun e ⟨z2, he, g0, g1⟩ => by
    subst he
    rw [← hl] at g1
    simp only [ixN_in g0 g1]
    exact Spec.ret ⟨z.toNat, z2.toNat, ys, d, eg, by omega, hp, by rw [set_split (xs := ys) (j := z2.toNat) (x := d) (by omega)]; rfl⟩
  exact this
theorem Spec.par {i j : Nat} (s : Spec (f (fzE ρ)) b1 (fun d => noShr d = true ∧ P1 d)) (s2 : Spec (g (fzE ρ)) b2 (fun d => noShr d = true ∧ P2 d)) : Spec (sPar i j vs f g ρ) (b1 + b2) (fun r => ∃ d e, P1 d ∧ P2 e ∧ r = (.nx, (ρ.set i (some d)).set j (some e))) := by
  unfold sPar
  refine Spec.run s fun d ⟨hn, hp⟩ => ?_
  have eu : upE vs d ρ = ρ := by unfold upE; rw [if_pos hn]
  rw [eu]
  have := Spec.run (vs := vs) (b2 := 0) (Q := fun r => ∃ d e, P1 d ∧ P2 e ∧ r = (Fl.nx, (ρ.set i (some d)).set j (some e))) (k := fun d2 => .ret (.nx, ((upE vs d2 ρ).set i (some d)).set j (some d2))) s2 fun e ⟨hn2, hp2⟩ => by
    unfold upE
    rw [if_pos hn2]
    exact Spec.ret ⟨d, e, hp, hp2, rfl⟩
  exact this
end
section
variable {b b1 b2 : Nat} {ρ : Env} {Q : Fl × Env → Prop}
theorem range1_eq {f : Env → Comp D} {n : Nat} (h : f ρ = .ret (.int n)) (hn : n < 2 ^ 62) : iOf gRange1 (aCons f aNil) ρ = .ret (rangeL 0 n) := by
  unfold iOf aCons aNil
  rw [h, bind_ret, bind_ret, bind_ret]
  simp only [fz, gRange1]
  rw [if_pos ⟨by omega, by omega⟩, Int.toNat_natCast]
theorem Spec.forR {it : Env → Comp (List D)} {t : Tg} {body : Env → Comp (Fl × Env)} {n : Nat} (hi : it (fzE ρ) = .ret (rangeL 0 n)) (Inv : Nat → Env → Prop) (h0 : Inv 0 ρ)
    (step : ∀ k ρ, k < n → Inv k ρ → ∃ ρ', t (.int k) ρ = some ρ' ∧ Spec (body ρ') b (fun r => ∃ ρ2, r = (.nx, ρ2) ∧ Inv (k + 1) ρ2)) : Spec (sForR it t body ρ) (b * n) (fun r => ∃ ρ2, r = (.nx, ρ2) ∧ Inv n ρ2) := by
  unfold sForR
  rw [hi, try_ret]
  have hlen : ∀ (n : Nat) (i : Int), (rangeL i n).length = n := by
    intro n
    induction n with
    | zero => intro i; rfl
    | succ n ih => intro i; exact congrArg Nat.succ (ih (i + 1))
  have := Spec.forL (t := t) (body := body) (b := b) (Q := fun r => ∃ ρ2, r = (Fl.nx, ρ2) ∧ Inv n ρ2) (fun ds ρ => ∃ k m : Nat, ds = rangeL k m ∧ k + m = n ∧ Inv k ρ) (fun d ds ρ ⟨k, m, e, hk, hv⟩ => by
    cases m with
    | zero => cases e
    | succ m =>
      injection e with e1 e2
      subst e1
      obtain ⟨ρ', et, s⟩ := step k ρ (by omega) hv
      refine ⟨ρ', et, s.imp fun r ⟨ρ2, er, hr⟩ => .inl ⟨ρ2, ⟨k + 1, m, by rw [e2]; push_cast; rfl, by omega, hr⟩, .inl er⟩⟩) (fun ρ ⟨k, m, e, hk, hv⟩ => by
    cases m with
    | succ m => cases e
    | zero =>
      have : k = n := by omega
      subst this
      exact ⟨ρ, rfl, hv⟩) (rangeL 0 n) ρ ⟨0, n, rfl, by omega, h0⟩
  rw [hlen] at this
  exact this
/-- the parts of a block -/
theorem Spec.seq1 {g g2 : Env → Comp (Fl × Env)} {R : Env → Prop} (s : Spec (g ρ) b1 (fun r => ∃ ρ', r = (.nx, ρ') ∧ R ρ')) (h : ∀ ρ', R ρ' → Spec (g2 ρ') b2 Q) : Spec (sSeq g g2 ρ) (b1 + b2) Q := Spec.bind s fun r ⟨ρ', e, hr⟩ => by
  subst e
  exact h ρ' hr
theorem Spec.if_ {c : Env → Comp Bool} {f g : Env → Comp (Fl × Env)} (s : Spec (c (fzE ρ)) b1 (fun _ => True)) (h1 : Spec (f ρ) b2 Q) (h2 : Spec (g ρ) b2 Q) : Spec (sIf c f g ρ) (b1 + b2) Q := by
  unfold sIf runB
  refine Spec.try_ s fun b _ => ?_
  cases b with
  | true => exact h1
  | false => exact h2
theorem seq_for {it : Env → Comp (List D)} {t : Tg} {body g2 : Env → Comp (Fl × Env)} {n : Nat} (hi : it (fzE ρ) = .ret (rangeL 0 n)) (Inv : Nat → Env → Prop) (h0 : Inv 0 ρ)
    (step : ∀ k ρ, k < n → Inv k ρ → ∃ ρ', t (.int k) ρ = some ρ' ∧ Spec (body ρ') b (fun r => ∃ ρ2, r = (.nx, ρ2) ∧ Inv (k + 1) ρ2)) (rest : ∀ ρ2, Inv n ρ2 → Spec (g2 ρ2) b2 Q) : Spec (sSeq (sForR it t body) g2 ρ) (b * n + b2) Q :=
  Spec.seq1 (Spec.forR hi Inv h0 step) rest
theorem seq_par {i j : Nat} {vs : List Nat} {f g : Env → Comp D} {g2 : Env → Comp (Fl × Env)} {P1 P2 : D → Prop} {c : Nat} (s : Spec (f (fzE ρ)) b1 (fun d => noShr d = true ∧ P1 d)) (s2 : Spec (g (fzE ρ)) b2 (fun d => noShr d = true ∧ P2 d)) (rest : ∀ d e, P1 d → P2 e → Spec (g2 ((ρ.set i (some d)).set j (some e))) c Q) : Spec (sSeq (sPar i j vs f g) g2 ρ) (b1 + b2 + c) Q := Spec.bind (Spec.par s s2) fun r ⟨d, e, hd, he, er⟩ => by
  subst er
  exact rest d e hd he
theorem seq_set1 {i : Nat} {vs : List Nat} {f g : Env → Comp D} {g2 : Env → Comp (Fl × Env)} {P : D → Prop} {c : Nat} {xs : List D} (hx : ownAt ρ i = some xs) (s : Spec (f (fzE ρ)) b1 (fun d => noShr d = true ∧ P d)) (s2 : Spec (g (fzE ρ)) b2 (fun d => ∃ z : Int, d = .int z ∧ 0 ≤ z ∧ z < xs.length))
    (rest : ∀ j d, j < xs.length → P d → Spec (g2 (ρ.set i (some (.lst true (xs.set j d))))) c Q) : Spec (sSeq (sSet1 i vs f g) g2 ρ) (b1 + b2 + c) Q := Spec.bind (Spec.set1 hx s s2) fun r ⟨j, d, hj, hd, er⟩ => by
  subst er
  exact rest j d hj hd
theorem seq_set2 {i : Nat} {vs : List Nat} {f g h_ : Env → Comp D} {g2 : Env → Comp (Fl × Env)} {P : D → Prop} {b3 c : Nat} {xs : List D} (hx : ownAt ρ i = some xs) (s : Spec (f (fzE ρ)) b1 (fun d => noShr d = true ∧ P d)) (s2 : Spec (h_ (fzE ρ)) b2 (fun d => ∃ z : Int, d = .int z ∧ 0 ≤ z ∧ z < xs.length)) {m : Nat} (hm : ∀ x ∈ xs, ∃ ys, x = .lst true ys ∧ ys.length = m) (s3 : Spec (g (fzE ρ)) b3 (fun d => ∃ z : Int, d = .int z ∧ 0 ≤ z ∧ z < m))
    (rest : ∀ j k ys d, xs[j]? = some (.lst true ys) → k < ys.length → P d → Spec (g2 (ρ.set i (some (.lst true (xs.set j (.lst true (ys.set k d))))))) c Q) : Spec (sSeq (sSet2 i vs f h_ g) g2 ρ) (b1 + b2 + b3 + c) Q := Spec.bind (Spec.set2 hx s s2 hm s3) fun r ⟨j, k, ys, d, h1, h2, h3, er⟩ => by
  subst er
  exact rest j k ys d h1 h2 h3
end
end Mid

namespace Law
open PySem PySem.Spec PyProof.Rows L2 Mid
def top (i : Nat) : Stmt := PySem.Challenge.pw_laidroads_k47_full_and_level.main.body.getD i (.Pass ⟨0, 0, 0, 0⟩)
structure Fs (mg : Str → Option Value) : Prop where
  f_isinstance : mg "isinstance" = none
  f_int : mg "int" = none
  f_bool : mg "bool" = none
  f_tuple : mg "tuple" = none
  f_enumerate : mg "enumerate" = none
  f_list : mg "list" = none
  f_len : mg "len" = none
  f_all : mg "all" = none
  f_min : mg "min" = none
  f_range : mg "range" = none
  f_max : mg "max" = none
  f_repr : mg "repr" = none
  i_MOST_PLACES : ∃ t, mg "MOST_PLACES" = some (.int 8 t)
section
variable {P : Program} {w : World} {K : PySem.W.Frag} {mg : Str → Option Value} {base : Heap}
abbrev st_is_whole : Stmt := top 4
noncomputable def c_is_whole : Mid.Env → Comp (Fl × Mid.Env) := sRet [0] (eAnd (eUn isInt (eVar 0)) (eNot (eUn isBool (eVar 0))))
noncomputable def F_is_whole : List D → Comp D := fnB 1 c_is_whole
theorem sc_is_whole : FnScope ["thing"] ["thing"] (defScope st_is_whole) := ⟨rfl, rfl, rfl, by decide +kernel, rfl, by decide +kernel, by decide +kernel⟩
theorem a_is_whole {f : Addr} {fd : FuncData} (F : FunD K "is_whole" "is_whole" (defArgs st_is_whole) (defBody st_is_whole) (defScope st_is_whole) [] [] f fd) (hm : mg "is_whole" = some (.ref f)) (fs : Fs mg) : Cal P w K mg base 1 "is_whole" 1 F_is_whole :=
  cal_of (N := ["thing"]) (ps := ["thing"]) (body := c_is_whole) F sc_is_whole hm (F.bindsN fun _ _ _ _ _ _ us hl => match us, hl with | [_], _ => rfl) fun cdv A outer s H E ft po => by
  delta c_is_whole
  exact svs_one (sv_ret (ev_and (ev_isi isi_int fs.f_isinstance fs.f_int (ev_var 0)) (ev_one (ev_not (ev_isi isi_bool fs.f_isinstance fs.f_bool (ev_var 0))))))
abbrev st_less_ones : Stmt := top 6
noncomputable def c_less_ones : Mid.Env → Comp (Fl × Mid.Env) := sRet [0] (eCallB gTuple (aCons (eComp [1, 2] (iOf gEnum (aCons (eVar 0) (aNil))) (tTup 2 (tsCons (tName 1) (tsCons (tName 2) (tsNil)))) (cAll) (eCallB gTuple (aCons (eComp [3, 4] (iOf gEnum (aCons (eVar 2) (aNil))) (tTup 2 (tsCons (tName 3) (tsCons (tName 4) (tsNil)))) (cAll) (eBin dSub (eVar 4) (eCallB gInt (aCons (eBin dEq (eVar 1) (eVar 3)) (aNil))))) (aNil)))) (aNil)))
noncomputable def F_less_ones : List D → Comp D := fnB 5 c_less_ones
theorem sc_less_ones : FnScope ["web", "i", "row", "k", "number"] ["web"] (defScope st_less_ones) := ⟨rfl, rfl, rfl, by decide +kernel, rfl, by decide +kernel, by decide +kernel⟩
theorem a_less_ones {f : Addr} {fd : FuncData} (F : FunD K "less_ones" "less_ones" (defArgs st_less_ones) (defBody st_less_ones) (defScope st_less_ones) [] [] f fd) (hm : mg "less_ones" = some (.ref f)) (fs : Fs mg) : Cal P w K mg base 1 "less_ones" 1 F_less_ones :=
  cal_of (N := ["web", "i", "row", "k", "number"]) (ps := ["web"]) (body := c_less_ones) F sc_less_ones hm (F.bindsN fun _ _ _ _ _ _ us hl => match us, hl with | [_], _ => rfl) fun cdv A outer s H E ft po => by
  delta c_less_ones
  exact svs_one (sv_ret (ev_callT c_tuple q_tuple fs.f_tuple (ea_cons (ev_comp (own := [("i", 1), ("row", 2)]) (is := [1, 2]) (vs2 := [1, 2]) ft.cm sc_less_ones.nd (iv_enum fs.f_enumerate (ea_cons (ev_var 0) (ea_nil))) rfl (fun s H C cl fp => tg_tup (Fit.blk ft).cm (tgs_cons (tg_name 1 sc_less_ones.nd) (tgs_cons (tg_name 2 sc_less_ones.nd) (tgs_nil)))) (fun s H C cl fp => ec_nil) (fun s H C cl fp => ev_callT c_tuple q_tuple fs.f_tuple (ea_cons (ev_comp (own := [("k", 3), ("number", 4)]) (is := [3, 4]) (vs2 := [1, 3, 4]) (Fit.blk ft).cm sc_less_ones.nd (iv_enum fs.f_enumerate (ea_cons (ev_var 2) (ea_nil))) rfl (fun s H C cl fp => tg_tup (Fit.blk (Fit.blk ft)).cm (tgs_cons (tg_name 3 sc_less_ones.nd) (tgs_cons (tg_name 4 sc_less_ones.nd) (tgs_nil)))) (fun s H C cl fp => ec_nil) (fun s H C cl fp => ev_bin o_sub q_sub (ev_var 4) (ev_callT c_int q_int fs.f_int (ea_cons (ev_cmp (o_eq (Fit.blk (Fit.blk ft)).u64) q_eq (ev_var 1) (ev_var 3)) (ea_nil))))) (ea_nil)))) (ea_nil))))
abbrev st__law_spread : Stmt := top 18
theorem sc__law_spread : FnScope ["_law_cell", "_law_at", "_law_primes", "_law_mixed", "_law_one_here", "_law_two", "_law_three"] ["_law_cell", "_law_at"] (defScope st__law_spread) := ⟨rfl, rfl, rfl, by decide +kernel, rfl, by decide +kernel, by decide +kernel⟩
noncomputable def F__law_spread : List D → Comp D := gSpread
theorem a__law_spread {f : Addr} {fd : FuncData} (F : FunD K "_law_spread" "_law_spread" (defArgs st__law_spread) (defBody st__law_spread) (defScope st__law_spread) [] [] f fd) (hm : mg "_law_spread" = some (.ref f)) (fs : Fs mg) : Cal P w K mg base 1 "_law_spread" 2 F__law_spread :=
  cal_of (N := ["_law_cell", "_law_at", "_law_primes", "_law_mixed", "_law_one_here", "_law_two", "_law_three"]) (ps := ["_law_cell", "_law_at"]) (body := c_spread) F sc__law_spread hm (F.bindsN fun _ _ _ _ _ _ us hl => match us, hl with | [_, _], _ => rfl) fun cdv A outer s H E ft po => by
  delta c_spread
  exact svs_cons (sv_if (vs := [0]) (eb_cmp o_ge (q_cmp _) (ev_var 0) (ev_bin o_pow q_pow (ev_int) (ev_int))) (svs_one (sv_retV 0)) (svs_nil))
      (svs_cons (sv_asg sc__law_spread.nd (ev_lst (ea_cons (ev_int) (ea_cons (ev_int) (ea_cons (ev_int) (ea_cons (ev_int) (ea_cons (ev_int) (ea_cons (ev_int) (ea_cons (ev_int) (ea_nil))))))))))
      (svs_cons (sv_asg sc__law_spread.nd (ev_bin o_add q_add (ev_var 2) (ev_lst (ea_cons (ev_int) (ea_cons (ev_int) (ea_cons (ev_int) (ea_cons (ev_int) (ea_cons (ev_int) (ea_cons (ev_int) (ea_nil))))))))))
      (svs_cons (sv_asg sc__law_spread.nd (ev_bin o_add q_add (ev_bin o_add q_add (ev_bin o_mul q_mul (ev_bin o_mod q_mod (ev_var 0) (ev_int)) (ev_bin o_add q_add (ev_bin o_mul q_mul (ev_int) (ev_var 1)) (ev_int))) (ev_bin o_mul q_mul (ev_var 1) (ev_int))) (ev_int)))
      (svs_cons (sv_asg sc__law_spread.nd (ev_bin o_mod q_mod (ev_bin o_pow q_pow (ev_var 3) (ev_int)) (ev_ix x_ix q_ix (ev_var 2) (ev_bin o_mod q_mod (ev_var 1) (ev_int)))))
      (svs_cons (sv_asg sc__law_spread.nd (ev_bin o_mod q_mod (ev_bin o_pow q_pow (ev_bin o_add q_add (ev_bin o_add q_add (ev_bin o_mul q_mul (ev_var 4) (ev_bin o_add q_add (ev_var 1) (ev_int))) (ev_bin o_mod q_mod (ev_var 0) (ev_int))) (ev_int)) (ev_int)) (ev_ix x_ix q_ix (ev_var 2) (ev_bin o_mod q_mod (ev_bin o_add q_add (ev_var 1) (ev_int)) (ev_int)))))
      (svs_cons (sv_asg sc__law_spread.nd (ev_bin o_mod q_mod (ev_bin o_pow q_pow (ev_bin o_add q_add (ev_bin o_add q_add (ev_var 5) (ev_bin o_mod q_mod (ev_var 4) (ev_int))) (ev_var 1)) (ev_int)) (ev_ix x_ix q_ix (ev_var 2) (ev_bin o_mod q_mod (ev_bin o_add q_add (ev_var 1) (ev_int)) (ev_int)))))
      (svs_one (sv_ret (ev_bin o_add q_add (ev_bin o_mul q_mul (ev_bin o_add q_add (ev_bin o_mul q_mul (ev_var 4) (ev_int)) (ev_var 5)) (ev_int)) (ev_var 6))))))))))
abbrev st__law_open : Stmt := top 19
theorem sc__law_open : FnScope ["_law_script", "_law_cells", "_law_k", "_law_cell"] ["_law_script"] (defScope st__law_open) := ⟨rfl, rfl, rfl, by decide +kernel, rfl, by decide +kernel, by decide +kernel⟩
theorem a__law_open {f : Addr} {fd : FuncData} (F : FunD K "_law_open" "_law_open" (defArgs st__law_open) (defBody st__law_open) (defScope st__law_open) [] [] f fd) (hm : mg "_law_open" = some (.ref f)) (fs : Fs mg) : OpenAt P w K mg base 1 :=
  open_at (N := ["_law_script", "_law_cells", "_law_k", "_law_cell"]) (ps := ["_law_script"]) F sc__law_open hm (F.bindsN fun _ _ _ _ _ _ us hl => match us, hl with | [_], _ => rfl) rfl rfl fun cdv A outer s H E ft po => by
  delta c_open1 c_open2
  exact pss_then (W := Wf E) (sv_asg sc__law_open.nd (ev_callT c_list q_list fs.f_list (ea_cons (ev_sl s_sl q_sl (ev_var 0) (eo_none) (eo_some (ev_int))) (ea_nil))))
      (pss_then (W := Wf E) (sv_forS (vs := [0]) (is := [2, 3]) po ft.cm (iv_enum fs.f_enumerate (ea_cons (ev_sl s_sl q_sl (ev_var 0) (eo_some (ev_int)) (eo_some (ev_int))) (ea_nil))) (tg_tup ft.cm (tgs_cons (tg_name 2 sc__law_open.nd) (tgs_cons (tg_name 3 sc__law_open.nd) (tgs_nil)))) (svs_one (sv_set1 (ev_bin o_add q_add (ev_ix x_ix q_ix (ev_var 1) (ev_bin o_mod q_mod (ev_var 2) (ev_int))) (ev_var 3)) (ev_bin o_mod q_mod (ev_var 2) (ev_int)))))
      (pss_one (ps_ret (pe_lst (pa_cons (pe_var rfl (Or.inl rfl)) (pa_cons pe_int (pa_cons pe_int pa_nil)))))))
abbrev st__law_anew : Stmt := top 20
theorem sc__law_anew : FnScope ["_law_pen"] ["_law_pen"] (defScope st__law_anew) := ⟨rfl, rfl, rfl, by decide +kernel, rfl, by decide +kernel, by decide +kernel⟩
noncomputable def F__law_anew : List D → Comp D := gAnew
theorem a__law_anew {f : Addr} {fd : FuncData} (F : FunD K "_law_anew" "_law_anew" (defArgs st__law_anew) (defBody st__law_anew) (defScope st__law_anew) [] [] f fd) (hm : mg "_law_anew" = some (.ref f)) (fs : Fs mg) : Cal P w K mg base 1 "_law_anew" 1 F__law_anew :=
  anew_cal (N := ["_law_pen"]) (ps := ["_law_pen"]) F sc__law_anew hm (F.bindsN fun _ _ _ _ _ _ us hl => match us, hl with | [_], _ => rfl) rfl rfl fun cdv A outer s H E ft =>
  pss_cons (ps_asg ev_int (pg_sub (pe_var rfl (Or.inl rfl)) ev_int set_list)) (pss_one (ps_ret (pe_var rfl (Or.inl rfl))))
abbrev st__law_less : Stmt := top 27
noncomputable def c__law_less : Mid.Env → Comp (Fl × Mid.Env) := sRet [0] (eComp [1, 2] (iOf gEnum (aCons (eVar 0) (aNil))) (tTup 2 (tsCons (tName 1) (tsCons (tName 2) (tsNil)))) (cAll) (eComp [3, 4] (iOf gEnum (aCons (eVar 2) (aNil))) (tTup 2 (tsCons (tName 3) (tsCons (tName 4) (tsNil)))) (cAll) (eBin dSub (eVar 4) (eCallB gInt (aCons (eBin dEq (eVar 1) (eVar 3)) (aNil))))))
noncomputable def F__law_less : List D → Comp D := fnB 5 c__law_less
theorem sc__law_less : FnScope ["_law_web_here", "_law_i", "_law_row", "_law_j", "_law_number"] ["_law_web_here"] (defScope st__law_less) := ⟨rfl, rfl, rfl, by decide +kernel, rfl, by decide +kernel, by decide +kernel⟩
theorem a__law_less {f : Addr} {fd : FuncData} (F : FunD K "_law_less" "_law_less" (defArgs st__law_less) (defBody st__law_less) (defScope st__law_less) [] [] f fd) (hm : mg "_law_less" = some (.ref f)) (fs : Fs mg) : Cal P w K mg base 1 "_law_less" 1 F__law_less :=
  cal_of (N := ["_law_web_here", "_law_i", "_law_row", "_law_j", "_law_number"]) (ps := ["_law_web_here"]) (body := c__law_less) F sc__law_less hm (F.bindsN fun _ _ _ _ _ _ us hl => match us, hl with | [_], _ => rfl) fun cdv A outer s H E ft po => by
  delta c__law_less
  exact svs_one (sv_ret (ev_comp (own := [("_law_i", 1), ("_law_row", 2)]) (is := [1, 2]) (vs2 := [1, 2]) ft.cm sc__law_less.nd (iv_enum fs.f_enumerate (ea_cons (ev_var 0) (ea_nil))) rfl (fun s H C cl fp => tg_tup (Fit.blk ft).cm (tgs_cons (tg_name 1 sc__law_less.nd) (tgs_cons (tg_name 2 sc__law_less.nd) (tgs_nil)))) (fun s H C cl fp => ec_nil) (fun s H C cl fp => ev_comp (own := [("_law_j", 3), ("_law_number", 4)]) (is := [3, 4]) (vs2 := [1, 3, 4]) (Fit.blk ft).cm sc__law_less.nd (iv_enum fs.f_enumerate (ea_cons (ev_var 2) (ea_nil))) rfl (fun s H C cl fp => tg_tup (Fit.blk (Fit.blk ft)).cm (tgs_cons (tg_name 3 sc__law_less.nd) (tgs_cons (tg_name 4 sc__law_less.nd) (tgs_nil)))) (fun s H C cl fp => ec_nil) (fun s H C cl fp => ev_bin o_sub q_sub (ev_var 4) (ev_callT c_int q_int fs.f_int (ea_cons (ev_cmp (o_eq (Fit.blk (Fit.blk ft)).u64) q_eq (ev_var 1) (ev_var 3)) (ea_nil)))))))
abbrev st_is_square : Stmt := top 5
noncomputable def c_is_square : Mid.Env → Comp (Fl × Mid.Env) := sSeq (sIf (bOr (bNot (bOf (eUn isTup (eVar 0)))) (bOf (eBin dNe (eCallB gLen (aCons (eVar 0) (aNil))) (eVar 1)))) (sRet [] (eK (.bl false))) (sNil))
  (sSeq (sForS [0] (iSeq (eVar 0)) (tName 2) (sIf (bOr (bNot (bOf (eUn isTup (eVar 2)))) (bOr (bOf (eBin dNe (eCallB gLen (aCons (eVar 2) (aNil))) (eVar 1))) (bNot (bOf (eCallB gAll (aCons (eComp [3] (iSeq (eVar 2)) (tName 3) (cAll) (eCall 1 F_is_whole (aCons (eVar 3) (aNil)))) (aNil))))))) (sRet [] (eK (.bl false))) (sNil)))
  (sRet [] (eK (.bl true))))
noncomputable def F_is_square : List D → Comp D := fnB 4 c_is_square
theorem sc_is_square : FnScope ["thing", "many", "row", "number"] ["thing", "many"] (defScope st_is_square) := ⟨rfl, rfl, rfl, by decide +kernel, rfl, by decide +kernel, by decide +kernel⟩
theorem a_is_square {f : Addr} {fd : FuncData} (F : FunD K "is_square" "is_square" (defArgs st_is_square) (defBody st_is_square) (defScope st_is_square) [] [] f fd) (hm : mg "is_square" = some (.ref f)) (fs : Fs mg) (C_is_whole : Cal P w K mg base 1 "is_whole" 1 F_is_whole) : Cal P w K mg base 2 "is_square" 2 F_is_square :=
  cal_of (N := ["thing", "many", "row", "number"]) (ps := ["thing", "many"]) (body := c_is_square) F sc_is_square hm (F.bindsN fun _ _ _ _ _ _ us hl => match us, hl with | [_, _], _ => rfl) fun cdv A outer s H E ft po => by
  delta c_is_square
  exact svs_cons (sv_if (vs := [0, 1]) (EW.eb (ew_or (eb_not (eb_val (ev_isi isi_tuple fs.f_isinstance fs.f_tuple (ev_var 0)))) (ew_or1 (eb_cmp (o_ne ft.u64) q_ne (ev_callB c_len q_len fs.f_len (ea_cons (ev_var 0) (ea_nil))) (ev_var 1))))) (svs_one (sv_ret (ev_bl))) (svs_nil))
      (svs_cons (sv_forS (vs := [0]) (is := [2]) po ft.cm (iv_seq (ev_var 0)) (tg_name 2 sc_is_square.nd) (svs_one (sv_if (vs := [1, 2]) (EW.eb (ew_or (eb_not (eb_val (ev_isi isi_tuple fs.f_isinstance fs.f_tuple (ev_var 2)))) (ew_or (eb_cmp (o_ne ft.u64) q_ne (ev_callB c_len q_len fs.f_len (ea_cons (ev_var 2) (ea_nil))) (ev_var 1)) (ew_or1 (eb_not (eb_val (ev_callB (c_all ft.cm) q_all fs.f_all (ea_cons (ev_comp (own := [("number", 3)]) (is := [3]) (vs2 := [3]) ft.cm sc_is_square.nd (iv_seq (ev_var 2)) rfl (fun s H C cl fp => tg_name 3 sc_is_square.nd) (fun s H C cl fp => ec_nil) (fun s H C cl fp => ev_cal (Fit.blk ft) C_is_whole (by decide) (ea_cons (ev_var 3) (ea_nil)))) (ea_nil))))))))) (svs_one (sv_ret (ev_bl))) (svs_nil))))
      (svs_one (sv_ret (ev_bl))))
abbrev st_is_full_by : Stmt := top 12
noncomputable def c_is_full_by : Mid.Env → Comp (Fl × Mid.Env) := sRet [0] (eBin dGe (eCallB gMin (aCons (eComp [1] (iSeq (eCall 1 F_less_ones (aCons (eVar 0) (aNil)))) (tName 1) (cAll) (eCallB gMin (aCons (eVar 1) (aNil)))) (aNil))) (eK (.int 1)))
noncomputable def F_is_full_by : List D → Comp D := fnB 2 c_is_full_by
theorem sc_is_full_by : FnScope ["web", "row"] ["web"] (defScope st_is_full_by) := ⟨rfl, rfl, rfl, by decide +kernel, rfl, by decide +kernel, by decide +kernel⟩
theorem a_is_full_by {f : Addr} {fd : FuncData} (F : FunD K "is_full_by" "is_full_by" (defArgs st_is_full_by) (defBody st_is_full_by) (defScope st_is_full_by) [] [] f fd) (hm : mg "is_full_by" = some (.ref f)) (fs : Fs mg) (C_less_ones : Cal P w K mg base 1 "less_ones" 1 F_less_ones) : Cal P w K mg base 2 "is_full_by" 1 F_is_full_by :=
  cal_of (N := ["web", "row"]) (ps := ["web"]) (body := c_is_full_by) F sc_is_full_by hm (F.bindsN fun _ _ _ _ _ _ us hl => match us, hl with | [_], _ => rfl) fun cdv A outer s H E ft po => by
  delta c_is_full_by
  exact svs_one (sv_ret (ev_cmp o_ge (q_cmp _) (ev_callB (c_min ft.cm) q_min fs.f_min (ea_cons (ev_comp (own := [("row", 1)]) (is := [1]) (vs2 := [1]) ft.cm sc_is_full_by.nd (iv_seq (ev_cal ft C_less_ones (by decide) (ea_cons (ev_var 0) (ea_nil)))) rfl (fun s H C cl fp => tg_name 1 sc_is_full_by.nd) (fun s H C cl fp => ec_nil) (fun s H C cl fp => ev_callB (c_min (Fit.blk ft).cm) q_min fs.f_min (ea_cons (ev_var 1) (ea_nil)))) (ea_nil))) (ev_int)))
abbrev st__law_take : Stmt := top 21
theorem sc__law_take : FnScope ["_law_pen", "_law_many", "_law_found", "_law_at", "_law_cell"] ["_law_pen", "_law_many"] (defScope st__law_take) := ⟨rfl, rfl, rfl, by decide +kernel, rfl, by decide +kernel, by decide +kernel⟩
noncomputable def F__law_take : List D → Comp D := gTake
theorem a__law_take {f : Addr} {fd : FuncData} (F : FunD K "_law_take" "_law_take" (defArgs st__law_take) (defBody st__law_take) (defScope st__law_take) [] [] f fd) (hm : mg "_law_take" = some (.ref f)) (fs : Fs mg) (C__law_spread : Cal P w K mg base 1 "_law_spread" 2 F__law_spread) : Cal P w K mg base 2 "_law_take" 2 F__law_take :=
  take_cal (N := ["_law_pen", "_law_many", "_law_found", "_law_at", "_law_cell"]) (ps := ["_law_pen", "_law_many"]) F sc__law_take hm (F.bindsN fun _ _ _ _ _ _ us hl => match us, hl with | [_, _], _ => rfl) rfl rfl fun cdv A outer s H E ft => by
  delta t_take
  exact pss_cons (ps_if (eb_cmp o_lt (q_cmp _) (ev_ix x_ix q_ix (ev_var 0) ev_int) (ev_var 1))
      (pss_cons (ps_set (i := 3) sc__law_take.nd rfl (Or.inl rfl) (ev_ix x_ix q_ix (ev_var 0) ev_int))
      (pss_cons (ps_set (i := 4) sc__law_take.nd rfl (Or.inl rfl) (ev_int))
      (pss_cons (ps_if (eb_cmp o_lt (q_cmp _) (ev_var 3) (ev_callB c_len q_len fs.f_len (ea_cons (ev_ix x_ix q_ix (ev_var 0) ev_int) ea_nil))) (pss_one (ps_set (i := 4) sc__law_take.nd rfl (Or.inl rfl) (ev_ix x_ix q_ix (ev_ix x_ix q_ix (ev_var 0) ev_int) (ev_var 3)))) (pss_one (ps_if (eb_cmp o_gt (q_cmp _) (ev_callB c_len q_len fs.f_len (ea_cons (ev_ix x_ix q_ix (ev_var 0) ev_int) ea_nil)) ev_int) (pss_one (ps_set (i := 4) sc__law_take.nd rfl (Or.inl rfl) (ev_bin o_mod q_mod (ev_ix x_ix q_ix (ev_ix x_ix q_ix (ev_var 0) ev_int) (ev_bin o_mod q_mod (ev_bin o_add q_add (ev_bin o_mul q_mul (ev_var 3) ev_int) ev_int) (ev_callB c_len q_len fs.f_len (ea_cons (ev_ix x_ix q_ix (ev_var 0) ev_int) ea_nil)))) (ev_bin o_add q_add (ev_bin o_pow q_pow ev_int ev_int) (ev_var 3))))) pss_nil)))
      (pss_cons (ps_asg (ev_bin o_add q_add (ev_var 3) ev_int) (pg_sub (pe_var rfl (Or.inl rfl)) ev_int set_list))
      (pss_one (ps_asg (ev_cal ft C__law_spread (by decide) (ea_cons (ev_var 4) (ea_cons (ev_var 3) ea_nil))) (pg_sub (pe_var rfl (Or.inl rfl)) ev_int set_list)))))))
      pss_nil)
      (pss_cons (ps_set (i := 2) sc__law_take.nd rfl (Or.inl rfl) (ev_bin o_mod q_mod (ev_ix x_ix q_ix (ev_var 0) ev_int) (ev_var 1)))
      (pss_cons (ps_asg (ev_bin o_div q_div (ev_ix x_ix q_ix (ev_var 0) ev_int) (ev_var 1)) (pg_sub (pe_var rfl (Or.inl rfl)) ev_int set_list))
      (pss_one (ps_ret (pe_var rfl (Or.inl rfl))))))
abbrev st__law_due : Stmt := top 30
noncomputable def c__law_due : Mid.Env → Comp (Fl × Mid.Env) := sSeq (sAsg 1 [0] (eCall 1 F__law_less (aCons (eVar 0) (aNil))))
  (sSeq (sAsg 2 [1] (eBin dGe (eCallB gMin (aCons (eComp [4] (iSeq (eVar 1)) (tName 4) (cAll) (eCallB gMin (aCons (eVar 4) (aNil)))) (aNil))) (eK (.int 1))))
  (sSeq (sAsg 3 [1] (eBin dIx (eBin dIx (eVar 1) (eK (.int 0))) (eK (.int 0))))
  (sSeq (sIf (bOr (bNot (bOf (eVar 2))) (bOf (eBin dNe (eBin dIx (eVar 1) (eK (.int 0))) (eBin dMul (eCallB gLst (aCons (eVar 3) (aNil))) (eCallB gLen (aCons (eVar 0) (aNil))))))) (sRet [2] (eCallB Mid.gTup (aCons (eVar 2) (aCons (eK (.bl false)) (aNil))))) (sNil))
  (sRet [1, 3] (eCallB Mid.gTup (aCons (eK (.bl true)) (aCons (eBin dEq (eComp [4] (iSeq (eVar 1)) (tName 4) (bOf (eBin dNe (eComp [5] (iSeq (eVar 4)) (tName 5) (bOf (eBin dNe (eBin dMod (eVar 5) (eVar 3)) (eK (.int 0)))) (eVar 5)) (eCallB gLst (aNil)))) (eVar 4)) (eCallB gLst (aNil))) (aNil))))))))
noncomputable def F__law_due : List D → Comp D := fnB 6 c__law_due
theorem sc__law_due : FnScope ["_law_web_here", "_law_rows", "_law_full_here", "_law_first", "_law_row", "_law_number"] ["_law_web_here"] (defScope st__law_due) := ⟨rfl, rfl, rfl, by decide +kernel, rfl, by decide +kernel, by decide +kernel⟩
theorem a__law_due {f : Addr} {fd : FuncData} (F : FunD K "_law_due" "_law_due" (defArgs st__law_due) (defBody st__law_due) (defScope st__law_due) [] [] f fd) (hm : mg "_law_due" = some (.ref f)) (fs : Fs mg) (C__law_less : Cal P w K mg base 1 "_law_less" 1 F__law_less) : Cal P w K mg base 2 "_law_due" 1 F__law_due :=
  cal_of (N := ["_law_web_here", "_law_rows", "_law_full_here", "_law_first", "_law_row", "_law_number"]) (ps := ["_law_web_here"]) (body := c__law_due) F sc__law_due hm (F.bindsN fun _ _ _ _ _ _ us hl => match us, hl with | [_], _ => rfl) fun cdv A outer s H E ft po => by
  delta c__law_due
  exact svs_cons (sv_asg sc__law_due.nd (ev_cal ft C__law_less (by decide) (ea_cons (ev_var 0) (ea_nil))))
      (svs_cons (sv_asg sc__law_due.nd (ev_cmp o_ge (q_cmp _) (ev_callB (c_min ft.cm) q_min fs.f_min (ea_cons (ev_comp (own := [("_law_row", 4)]) (is := [4]) (vs2 := [4]) ft.cm sc__law_due.nd (iv_seq (ev_var 1)) rfl (fun s H C cl fp => tg_name 4 sc__law_due.nd) (fun s H C cl fp => ec_nil) (fun s H C cl fp => ev_callB (c_min (Fit.blk ft).cm) q_min fs.f_min (ea_cons (ev_var 4) (ea_nil)))) (ea_nil))) (ev_int)))
      (svs_cons (sv_asg sc__law_due.nd (ev_ix x_ix q_ix (ev_ix x_ix q_ix (ev_var 1) (ev_int)) (ev_int)))
      (svs_cons (sv_if (vs := [0, 1, 2, 3]) (EW.eb (ew_or (eb_not (eb_val (ev_var 2))) (ew_or1 (eb_cmp (o_ne ft.u64) q_ne (ev_ix x_ix q_ix (ev_var 1) (ev_int)) (ev_bin o_mul q_mul (ev_lst (ea_cons (ev_var 3) (ea_nil))) (ev_callB c_len q_len fs.f_len (ea_cons (ev_var 0) (ea_nil)))))))) (svs_one (sv_ret (ev_tup (ea_cons (ev_var 2) (ea_cons (ev_bl) (ea_nil)))))) (svs_nil))
      (svs_one (sv_ret (ev_tup (ea_cons (ev_bl) (ea_cons (ev_cmp (o_eq ft.u64) q_eq (ev_comp (own := [("_law_row", 4)]) (is := [4]) (vs2 := [3, 4]) ft.cm sc__law_due.nd (iv_seq (ev_var 1)) rfl (fun s H C cl fp => tg_name 4 sc__law_due.nd) (fun s H C cl fp => ec_one (eb_cmp (o_ne (Fit.blk ft).u64) q_ne (ev_comp (own := [("_law_number", 5)]) (is := [5]) (vs2 := [3, 5]) (Fit.blk ft).cm sc__law_due.nd (iv_seq (ev_var 4)) rfl (fun s H C cl fp => tg_name 5 sc__law_due.nd) (fun s H C cl fp => ec_one (eb_cmp (o_ne (Fit.blk (Fit.blk ft)).u64) q_ne (ev_bin o_mod q_mod (ev_var 5) (ev_var 3)) (ev_int))) (fun s H C cl fp => ev_var 5)) (ev_lst (ea_nil)))) (fun s H C cl fp => ev_var 4)) (ev_lst (ea_nil))) (ea_nil)))))))))
abbrev st_is_web : Stmt := top 9
noncomputable def c_is_web : Mid.Env → Comp (Fl × Mid.Env) := sSeq (sIf (bOr (bNot (bOf (eUn isTup (eVar 0)))) (bOr (bNot (bOf (eChain dLe dLe (eK (.int 1)) (eCallB gLen (aCons (eVar 0) (aNil))) (eK (.int 8))))) (bNot (bOf (eCall 2 F_is_square (aCons (eVar 0) (aCons (eCallB gLen (aCons (eVar 0) (aNil))) (aNil)))))))) (sRet [] (eK (.bl false))) (sNil))
  (sRet [0] (eCallB gAll (aCons (eComp [1] (iSeq (eVar 0)) (tName 1) (cAll) (eBin dGe (eCallB gMin (aCons (eVar 1) (aNil))) (eK (.int 0)))) (aNil))))
noncomputable def F_is_web : List D → Comp D := fnB 2 c_is_web
theorem sc_is_web : FnScope ["thing", "row"] ["thing"] (defScope st_is_web) := ⟨rfl, rfl, rfl, by decide +kernel, rfl, by decide +kernel, by decide +kernel⟩
theorem a_is_web {f : Addr} {fd : FuncData} (F : FunD K "is_web" "is_web" (defArgs st_is_web) (defBody st_is_web) (defScope st_is_web) [] [] f fd) (hm : mg "is_web" = some (.ref f)) (fs : Fs mg) (C_is_square : Cal P w K mg base 2 "is_square" 2 F_is_square) : Cal P w K mg base 3 "is_web" 1 F_is_web :=
  cal_of (N := ["thing", "row"]) (ps := ["thing"]) (body := c_is_web) F sc_is_web hm (F.bindsN fun _ _ _ _ _ _ us hl => match us, hl with | [_], _ => rfl) fun cdv A outer s H E ft po => by
  delta c_is_web
  exact svs_cons (sv_if (vs := [0]) (EW.eb (ew_or (eb_not (eb_val (ev_isi isi_tuple fs.f_isinstance fs.f_tuple (ev_var 0)))) (ew_or (eb_not (eb_chain o_le (q_cmp _) o_le (q_cmp _) (ev_int) (ev_callB c_len q_len fs.f_len (ea_cons (ev_var 0) (ea_nil))) (ev_gint fs.i_MOST_PLACES))) (ew_or1 (eb_not (eb_val (ev_cal ft C_is_square (by decide) (ea_cons (ev_var 0) (ea_cons (ev_callB c_len q_len fs.f_len (ea_cons (ev_var 0) (ea_nil))) (ea_nil)))))))))) (svs_one (sv_ret (ev_bl))) (svs_nil))
      (svs_one (sv_ret (ev_callB (c_all ft.cm) q_all fs.f_all (ea_cons (ev_comp (own := [("row", 1)]) (is := [1]) (vs2 := [1]) ft.cm sc_is_web.nd (iv_seq (ev_var 0)) rfl (fun s H C cl fp => tg_name 1 sc_is_web.nd) (fun s H C cl fp => ec_nil) (fun s H C cl fp => ev_cmp o_ge (q_cmp _) (ev_callB (c_min (Fit.blk ft).cm) q_min fs.f_min (ea_cons (ev_var 1) (ea_nil))) (ev_int))) (ea_nil)))))
abbrev st_is_level_by : Stmt := top 15
noncomputable def c_is_level_by : Mid.Env → Comp (Fl × Mid.Env) := sSeq (sAsg 1 [0] (eCall 1 F_less_ones (aCons (eVar 0) (aNil))))
  (sSeq (sIf (bOr (bNot (bOf (eCall 1 F_is_full_by (aCons (eVar 0) (aNil))))) (bOf (eBin dNe (eBin dIx (eVar 1) (eK (.int 0))) (eBin dMul (eSl dSl (eBin dIx (eVar 1) (eK (.int 0))) (oNone) (oSome (eK (.int 1)))) (eCallB gLen (aCons (eVar 0) (aNil))))))) (sRet [] (eK (.bl false))) (sNil))
  (sRet [1] (eBin dEq (eComp2 [2, 3] (iSeq (eVar 1)) (tName 2) (cAll) (iSeq (eVar 2)) [3] (tName 3) (bOf (eBin dNe (eBin dMod (eVar 3) (eBin dIx (eBin dIx (eVar 1) (eK (.int 0))) (eK (.int 0)))) (eK (.int 0)))) (eVar 3)) (eCallB gLst (aNil)))))
noncomputable def F_is_level_by : List D → Comp D := fnB 4 c_is_level_by
theorem sc_is_level_by : FnScope ["web", "less", "row", "number"] ["web"] (defScope st_is_level_by) := ⟨rfl, rfl, rfl, by decide +kernel, rfl, by decide +kernel, by decide +kernel⟩
theorem a_is_level_by {f : Addr} {fd : FuncData} (F : FunD K "is_level_by" "is_level_by" (defArgs st_is_level_by) (defBody st_is_level_by) (defScope st_is_level_by) [] [] f fd) (hm : mg "is_level_by" = some (.ref f)) (fs : Fs mg) (C_less_ones : Cal P w K mg base 1 "less_ones" 1 F_less_ones) (C_is_full_by : Cal P w K mg base 2 "is_full_by" 1 F_is_full_by) : Cal P w K mg base 3 "is_level_by" 1 F_is_level_by :=
  cal_of (N := ["web", "less", "row", "number"]) (ps := ["web"]) (body := c_is_level_by) F sc_is_level_by hm (F.bindsN fun _ _ _ _ _ _ us hl => match us, hl with | [_], _ => rfl) fun cdv A outer s H E ft po => by
  delta c_is_level_by
  exact svs_cons (sv_asg sc_is_level_by.nd (ev_cal ft C_less_ones (by decide) (ea_cons (ev_var 0) (ea_nil))))
      (svs_cons (sv_if (vs := [0, 1]) (EW.eb (ew_or (eb_not (eb_val (ev_cal ft C_is_full_by (by decide) (ea_cons (ev_var 0) (ea_nil))))) (ew_or1 (eb_cmp (o_ne ft.u64) q_ne (ev_ix x_ix q_ix (ev_var 1) (ev_int)) (ev_bin o_mul q_mul (ev_sl s_sl q_sl (ev_ix x_ix q_ix (ev_var 1) (ev_int)) (eo_none) (eo_some (ev_int))) (ev_callB c_len q_len fs.f_len (ea_cons (ev_var 0) (ea_nil)))))))) (svs_one (sv_ret (ev_bl))) (svs_nil))
      (svs_one (sv_ret (ev_cmp (o_eq ft.u64) q_eq (ev_comp2 (own := [("row", 2), ("number", 3)]) (own1 := [3]) (is := [2]) (is1 := [3]) (vs2 := [1, 2]) (vs3 := [1, 3]) ft.cm sc_is_level_by.nd (iv_seq (ev_var 1)) rfl (fun s H C cl fp => tg_name 2 sc_is_level_by.nd) (fun s H C cl fp => ec_nil) (fun s H C cl fp => iv_seq (ev_var 2)) (fun s H C cl fp => tg_name 3 sc_is_level_by.nd) (fun s H C cl fp => ec_one (eb_cmp (o_ne (Fit.blk ft).u64) q_ne (ev_bin o_mod q_mod (ev_var 3) (ev_ix x_ix q_ix (ev_ix x_ix q_ix (ev_var 1) (ev_int)) (ev_int))) (ev_int))) (fun s H C cl fp => ev_var 3)) (ev_lst (ea_nil))))))
abbrev st__law_one : Stmt := top 22
noncomputable def c__law_one : Mid.Env → Comp (Fl × Mid.Env) := sRet [0, 1] (eBin dIx (eVar 1) (eCall 2 F__law_take (aCons (eVar 0) (aCons (eCallB gLen (aCons (eVar 1) (aNil))) (aNil)))))
noncomputable def F__law_one : List D → Comp D := fnB 2 c__law_one
theorem sc__law_one : FnScope ["_law_pen", "_law_some"] ["_law_pen", "_law_some"] (defScope st__law_one) := ⟨rfl, rfl, rfl, by decide +kernel, rfl, by decide +kernel, by decide +kernel⟩
theorem a__law_one {f : Addr} {fd : FuncData} (F : FunD K "_law_one" "_law_one" (defArgs st__law_one) (defBody st__law_one) (defScope st__law_one) [] [] f fd) (hm : mg "_law_one" = some (.ref f)) (fs : Fs mg) (C__law_take : Cal P w K mg base 2 "_law_take" 2 F__law_take) : Cal P w K mg base 3 "_law_one" 2 F__law_one :=
  cal_of (N := ["_law_pen", "_law_some"]) (ps := ["_law_pen", "_law_some"]) (body := c__law_one) F sc__law_one hm (F.bindsN fun _ _ _ _ _ _ us hl => match us, hl with | [_, _], _ => rfl) fun cdv A outer s H E ft po => by
  delta c__law_one
  exact svs_one (sv_ret (ev_ix x_ix q_ix (ev_var 1) (ev_cal ft C__law_take (by decide) (ea_cons (ev_var 0) (ea_cons (ev_callB c_len q_len fs.f_len (ea_cons (ev_var 1) (ea_nil))) (ea_nil))))))
abbrev st__law_drawn : Stmt := top 23
noncomputable def c__law_drawn : Mid.Env → Comp (Fl × Mid.Env) := sSeq (sAsg 2 [] (eCallB gLst (aNil)))
  (sSeq (sForR (iOf gRange1 (aCons (eVar 1) (aNil))) (tName 3) (sIns 2 [0, 3] (eCall 2 F__law_take (aCons (eVar 0) (aCons (eBin dAdd (eVar 3) (eK (.int 1))) (aNil)))) (eVar 3)))
  (sRetV 2))
noncomputable def F__law_drawn : List D → Comp D := fnB 4 c__law_drawn
theorem sc__law_drawn : FnScope ["_law_pen", "_law_many", "_law_found", "_law_k"] ["_law_pen", "_law_many"] (defScope st__law_drawn) := ⟨rfl, rfl, rfl, by decide +kernel, rfl, by decide +kernel, by decide +kernel⟩
theorem a__law_drawn {f : Addr} {fd : FuncData} (F : FunD K "_law_drawn" "_law_drawn" (defArgs st__law_drawn) (defBody st__law_drawn) (defScope st__law_drawn) [] [] f fd) (hm : mg "_law_drawn" = some (.ref f)) (fs : Fs mg) (C__law_take : Cal P w K mg base 2 "_law_take" 2 F__law_take) : Cal P w K mg base 3 "_law_drawn" 2 F__law_drawn :=
  cal_of (N := ["_law_pen", "_law_many", "_law_found", "_law_k"]) (ps := ["_law_pen", "_law_many"]) (body := c__law_drawn) F sc__law_drawn hm (F.bindsN fun _ _ _ _ _ _ us hl => match us, hl with | [_, _], _ => rfl) fun cdv A outer s H E ft po => by
  delta c__law_drawn
  exact svs_cons (sv_asg sc__law_drawn.nd (ev_lst (ea_nil)))
      (svs_cons (sv_forR (vs := [1]) (is := [3]) po ft.cm (ivr_range1 fs.f_range (ea_cons (ev_var 1) (ea_nil))) (tg_name 3 sc__law_drawn.nd) (svs_one (sv_ins (ev_cal ft C__law_take (by decide) (ea_cons (ev_var 0) (ea_cons (ev_bin o_add q_add (ev_var 3) (ev_int)) (ea_nil)))) (ev_var 3))))
      (svs_one (sv_retV 2)))
abbrev st__law_full : Stmt := top 26
noncomputable def c__law_full : Mid.Env → Comp (Fl × Mid.Env) := sSeq (sAsg 3 [0, 1] (eBin dAdd (eK (.int 1)) (eCall 2 F__law_take (aCons (eVar 0) (aCons (eVar 1) (aNil))))))
  (sSeq (sAsg 4 [] (eCallB gLst (aNil)))
  (sSeq (sForR (iOf gRange1 (aCons (eVar 3) (aNil))) (tName 5) (sApp 4 [0, 2, 3, 5] (eCallB gTuple (aCons (eComp [6] (iOf gRange1 (aCons (eVar 3) (aNil))) (tName 6) (cAll) (eBin dAdd (eBin dAdd (eK (.int 1)) (eCallB gInt (aCons (eBin dEq (eVar 5) (eVar 6)) (aNil)))) (eCall 2 F__law_take (aCons (eVar 0) (aCons (eVar 2) (aNil)))))) (aNil)))))
  (sRet [4] (eCallB gTuple (aCons (eVar 4) (aNil))))))
noncomputable def F__law_full : List D → Comp D := fnB 7 c__law_full
theorem sc__law_full : FnScope ["_law_pen", "_law_places", "_law_most", "_law_many", "_law_found", "_law_i", "_law_j"] ["_law_pen", "_law_places", "_law_most"] (defScope st__law_full) := ⟨rfl, rfl, rfl, by decide +kernel, rfl, by decide +kernel, by decide +kernel⟩
theorem a__law_full {f : Addr} {fd : FuncData} (F : FunD K "_law_full" "_law_full" (defArgs st__law_full) (defBody st__law_full) (defScope st__law_full) [] [] f fd) (hm : mg "_law_full" = some (.ref f)) (fs : Fs mg) (C__law_take : Cal P w K mg base 2 "_law_take" 2 F__law_take) : Cal P w K mg base 3 "_law_full" 3 F__law_full :=
  cal_of (N := ["_law_pen", "_law_places", "_law_most", "_law_many", "_law_found", "_law_i", "_law_j"]) (ps := ["_law_pen", "_law_places", "_law_most"]) (body := c__law_full) F sc__law_full hm (F.bindsN fun _ _ _ _ _ _ us hl => match us, hl with | [_, _, _], _ => rfl) fun cdv A outer s H E ft po => by
  delta c__law_full
  exact svs_cons (sv_asg sc__law_full.nd (ev_bin o_add q_add (ev_int) (ev_cal ft C__law_take (by decide) (ea_cons (ev_var 0) (ea_cons (ev_var 1) (ea_nil))))))
      (svs_cons (sv_asg sc__law_full.nd (ev_lst (ea_nil)))
      (svs_cons (sv_forR (vs := [3]) (is := [5]) po ft.cm (ivr_range1 fs.f_range (ea_cons (ev_var 3) (ea_nil))) (tg_name 5 sc__law_full.nd) (svs_one (sv_app (ev_callT c_tuple q_tuple fs.f_tuple (ea_cons (ev_comp (own := [("_law_j", 6)]) (is := [6]) (vs2 := [0, 2, 5, 6]) ft.cm sc__law_full.nd (iv_range1 fs.f_range (ea_cons (ev_var 3) (ea_nil))) rfl (fun s H C cl fp => tg_name 6 sc__law_full.nd) (fun s H C cl fp => ec_nil) (fun s H C cl fp => ev_bin o_add q_add (ev_bin o_add q_add (ev_int) (ev_callT c_int q_int fs.f_int (ea_cons (ev_cmp (o_eq (Fit.blk ft).u64) q_eq (ev_var 5) (ev_var 6)) (ea_nil)))) (ev_cal (Fit.blk ft) C__law_take (by decide) (ea_cons (ev_var 0) (ea_cons (ev_var 2) (ea_nil)))))) (ea_nil))))))
      (svs_one (sv_ret (ev_callT c_tuple q_tuple fs.f_tuple (ea_cons (ev_var 4) (ea_nil)))))))
abbrev st__law_level : Stmt := top 28
noncomputable def c__law_level : Mid.Env → Comp (Fl × Mid.Env) := sSeq (sUnp [0] (tTup 2 (tsCons (tName 3) (tsCons (tName 4) (tsNil)))) (eCallB Mid.gTup (aCons (eBin dAdd (eK (.int 1)) (eCall 2 F__law_take (aCons (eVar 0) (aCons (eK (.int 8)) (aNil))))) (aCons (eBin dAdd (eK (.int 1)) (eCall 2 F__law_take (aCons (eVar 0) (aCons (eK (.int 6)) (aNil))))) (aNil)))))
  (sSeq (sAsg 1 [] (eCallB gLst (aNil)))
  (sSeq (sForR (iOf gRange1 (aCons (eVar 3) (aNil))) (tName 2) (sSeq (sAsg 5 [0, 2, 3, 4] (eComp [6] (iOf gRange1 (aCons (eVar 3) (aNil))) (tName 6) (cAll) (eBin dMul (eVar 4) (eBin dAdd (eK (.int 1)) (eBin dMul (eCall 2 F__law_take (aCons (eVar 0) (aCons (eK (.int 5)) (aNil)))) (eCallB gInt (aCons (eBin dGt (eVar 2) (eK (.int 0))) (aNil))))))))
  (sSeq (sSet1 5 [2, 5] (eBin dAdd (eBin dIx (eVar 5) (eVar 2)) (eK (.int 1))) (eVar 2))
  (sApp 1 [5] (eCallB gTuple (aCons (eVar 5) (aNil)))))))
  (sRet [1] (eCallB gTuple (aCons (eVar 1) (aNil))))))
noncomputable def F__law_level : List D → Comp D := fnB 7 c__law_level
theorem sc__law_level : FnScope ["_law_pen", "_law_found", "_law_i", "_law_many", "_law_first", "_law_row", "_law_j"] ["_law_pen"] (defScope st__law_level) := ⟨rfl, rfl, rfl, by decide +kernel, rfl, by decide +kernel, by decide +kernel⟩
theorem a__law_level {f : Addr} {fd : FuncData} (F : FunD K "_law_level" "_law_level" (defArgs st__law_level) (defBody st__law_level) (defScope st__law_level) [] [] f fd) (hm : mg "_law_level" = some (.ref f)) (fs : Fs mg) (C__law_take : Cal P w K mg base 2 "_law_take" 2 F__law_take) : Cal P w K mg base 3 "_law_level" 1 F__law_level :=
  cal_of (N := ["_law_pen", "_law_found", "_law_i", "_law_many", "_law_first", "_law_row", "_law_j"]) (ps := ["_law_pen"]) (body := c__law_level) F sc__law_level hm (F.bindsN fun _ _ _ _ _ _ us hl => match us, hl with | [_], _ => rfl) fun cdv A outer s H E ft po => by
  delta c__law_level
  exact svs_cons (sv_unp (is := [3, 4]) (ev_tup (ea_cons (ev_bin o_add q_add (ev_int) (ev_cal ft C__law_take (by decide) (ea_cons (ev_var 0) (ea_cons (ev_int) (ea_nil))))) (ea_cons (ev_bin o_add q_add (ev_int) (ev_cal ft C__law_take (by decide) (ea_cons (ev_var 0) (ea_cons (ev_int) (ea_nil))))) (ea_nil)))) (tg_tup ft.cm (tgs_cons (tg_name 3 sc__law_level.nd) (tgs_cons (tg_name 4 sc__law_level.nd) (tgs_nil)))))
      (svs_cons (sv_asg sc__law_level.nd (ev_lst (ea_nil)))
      (svs_cons (sv_forR (vs := [3]) (is := [2]) po ft.cm (ivr_range1 fs.f_range (ea_cons (ev_var 3) (ea_nil))) (tg_name 2 sc__law_level.nd) (svs_cons (sv_asgC (own := [("_law_j", 6)]) (is := [6]) (vs2 := [0, 2, 4, 6]) ft.cm sc__law_level.nd (iv_range1 fs.f_range (ea_cons (ev_var 3) (ea_nil))) rfl (fun s H C cl fp => tg_name 6 sc__law_level.nd) (fun s H C cl fp => ec_nil) (fun s H C cl fp => ev_bin o_mul q_mul (ev_var 4) (ev_bin o_add q_add (ev_int) (ev_bin o_mul q_mul (ev_cal (Fit.blk ft) C__law_take (by decide) (ea_cons (ev_var 0) (ea_cons (ev_int) (ea_nil)))) (ev_callT c_int q_int fs.f_int (ea_cons (ev_cmp o_gt (q_cmp _) (ev_var 2) (ev_int)) (ea_nil)))))))
      (svs_cons (sv_set1 (ev_bin o_add q_add (ev_ix x_ix q_ix (ev_var 5) (ev_var 2)) (ev_int)) (ev_var 2))
      (svs_one (sv_app (ev_callT c_tuple q_tuple fs.f_tuple (ea_cons (ev_var 5) (ea_nil))))))))
      (svs_one (sv_ret (ev_callT c_tuple q_tuple fs.f_tuple (ea_cons (ev_var 1) (ea_nil)))))))
abbrev st_need_web : Stmt := top 10
noncomputable def c_need_web : Mid.Env → Comp (Fl × Mid.Env) := sIf (bNot (bOf (eCall 1 F_is_web (aCons (eVar 0) (aNil))))) (sNever) (sNil)
noncomputable def F_need_web : List D → Comp D := fnB 1 c_need_web
theorem sc_need_web : FnScope ["web"] ["web"] (defScope st_need_web) := ⟨rfl, rfl, rfl, by decide +kernel, rfl, by decide +kernel, by decide +kernel⟩
theorem a_need_web {f : Addr} {fd : FuncData} (F : FunD K "need_web" "need_web" (defArgs st_need_web) (defBody st_need_web) (defScope st_need_web) [] [] f fd) (hm : mg "need_web" = some (.ref f)) (fs : Fs mg) (C_is_web : Cal P w K mg base 3 "is_web" 1 F_is_web) : Cal P w K mg base 4 "need_web" 1 F_need_web :=
  cal_of (N := ["web"]) (ps := ["web"]) (body := c_need_web) F sc_need_web hm (F.bindsN fun _ _ _ _ _ _ us hl => match us, hl with | [_], _ => rfl) fun cdv A outer s H E ft po => by
  delta c_need_web
  exact svs_one (sv_if (vs := [0]) (eb_not (eb_val (ev_cal ft C_is_web (by decide) (ea_cons (ev_var 0) (ea_nil))))) (svs_one (sv_never)) (svs_nil))
abbrev st__law_web : Stmt := top 24
noncomputable def c__law_web : Mid.Env → Comp (Fl × Mid.Env) := sSeq (sAsg 3 [0, 1] (eBin dAdd (eK (.int 1)) (eCall 2 F__law_take (aCons (eVar 0) (aCons (eVar 1) (aNil))))))
  (sSeq (sPar 5 6 [0] (eCall 2 F__law_take (aCons (eVar 0) (aCons (eK (.int 4)) (aNil)))) (eCallB gLst (aNil)))
  (sSeq (sForR (iOf gRange1 (aCons (eVar 3) (aNil))) (tName 4) (sSeq (sAsg 7 [] (eCallB gLst (aNil)))
  (sSeq (sForR (iOf gRange1 (aCons (eVar 3) (aNil))) (tName 8) (sSeq (sAsg 9 [0, 2] (eCall 2 F__law_one (aCons (eVar 0) (aCons (eCallB gLst (aCons (eCall 2 F__law_take (aCons (eVar 0) (aCons (eBin dAdd (eVar 2) (eK (.int 1))) (aNil)))) (aCons (eCall 2 F__law_take (aCons (eVar 0) (aCons (eBin dAdd (eVar 2) (eK (.int 1))) (aNil)))) (aCons (eK (.int 0)) (aCons (eCall 2 F__law_take (aCons (eVar 0) (aCons (eBin dAdd (eVar 2) (eK (.int 1))) (aNil)))) (aNil)))))) (aNil)))))
  (sApp 7 [0, 5, 9] (eIf (bOr (bOf (eBin dGt (eVar 5) (eK (.int 0)))) (bOf (eBin dGt (eCall 2 F__law_take (aCons (eVar 0) (aCons (eK (.int 9)) (aNil)))) (eK (.int 0))))) (eVar 9) (eBin dAdd (eBin dPow (eK (.int 10)) (eK (.int 12))) (eVar 9))))))
  (sApp 6 [7] (eCallB gTuple (aCons (eVar 7) (aNil)))))))
  (sRet [6] (eCallB gTuple (aCons (eVar 6) (aNil))))))
noncomputable def F__law_web : List D → Comp D := fnB 10 c__law_web
theorem sc__law_web : FnScope ["_law_pen", "_law_places", "_law_most", "_law_many", "_law_i", "_law_thin", "_law_found", "_law_row", "_law_j", "_law_number"] ["_law_pen", "_law_places", "_law_most"] (defScope st__law_web) := ⟨rfl, rfl, rfl, by decide +kernel, rfl, by decide +kernel, by decide +kernel⟩
theorem a__law_web {f : Addr} {fd : FuncData} (F : FunD K "_law_web" "_law_web" (defArgs st__law_web) (defBody st__law_web) (defScope st__law_web) [] [] f fd) (hm : mg "_law_web" = some (.ref f)) (fs : Fs mg) (C__law_take : Cal P w K mg base 2 "_law_take" 2 F__law_take) (C__law_one : Cal P w K mg base 3 "_law_one" 2 F__law_one) : Cal P w K mg base 4 "_law_web" 3 F__law_web :=
  cal_of (N := ["_law_pen", "_law_places", "_law_most", "_law_many", "_law_i", "_law_thin", "_law_found", "_law_row", "_law_j", "_law_number"]) (ps := ["_law_pen", "_law_places", "_law_most"]) (body := c__law_web) F sc__law_web hm (F.bindsN fun _ _ _ _ _ _ us hl => match us, hl with | [_, _, _], _ => rfl) fun cdv A outer s H E ft po => by
  delta c__law_web
  exact svs_cons (sv_asg sc__law_web.nd (ev_bin o_add q_add (ev_int) (ev_cal ft C__law_take (by decide) (ea_cons (ev_var 0) (ea_cons (ev_var 1) (ea_nil))))))
      (svs_cons (sv_par ft.cm sc__law_web.nd (ev_cal ft C__law_take (by decide) (ea_cons (ev_var 0) (ea_cons (ev_int) (ea_nil)))) (ev_lst (ea_nil)))
      (svs_cons (sv_forR (vs := [3]) (is := [4]) po ft.cm (ivr_range1 fs.f_range (ea_cons (ev_var 3) (ea_nil))) (tg_name 4 sc__law_web.nd) (svs_cons (sv_asg sc__law_web.nd (ev_lst (ea_nil)))
      (svs_cons (sv_forR (vs := [3]) (is := [8]) po ft.cm (ivr_range1 fs.f_range (ea_cons (ev_var 3) (ea_nil))) (tg_name 8 sc__law_web.nd) (svs_cons (sv_asg sc__law_web.nd (ev_cal ft C__law_one (by decide) (ea_cons (ev_var 0) (ea_cons (ev_lst (ea_cons (ev_cal ft C__law_take (by decide) (ea_cons (ev_var 0) (ea_cons (ev_bin o_add q_add (ev_var 2) (ev_int)) (ea_nil)))) (ea_cons (ev_cal ft C__law_take (by decide) (ea_cons (ev_var 0) (ea_cons (ev_bin o_add q_add (ev_var 2) (ev_int)) (ea_nil)))) (ea_cons (ev_int) (ea_cons (ev_cal ft C__law_take (by decide) (ea_cons (ev_var 0) (ea_cons (ev_bin o_add q_add (ev_var 2) (ev_int)) (ea_nil)))) (ea_nil)))))) (ea_nil)))))
      (svs_one (sv_app (ev_if (EW.eb (ew_or (eb_cmp o_gt (q_cmp _) (ev_var 5) (ev_int)) (ew_or1 (eb_cmp o_gt (q_cmp _) (ev_cal ft C__law_take (by decide) (ea_cons (ev_var 0) (ea_cons (ev_int) (ea_nil)))) (ev_int))))) (ev_var 9) (ev_bin o_add q_add (ev_bin o_pow q_pow (ev_int) (ev_int)) (ev_var 9)))))))
      (svs_one (sv_app (ev_callT c_tuple q_tuple fs.f_tuple (ea_cons (ev_var 7) (ea_nil))))))))
      (svs_one (sv_ret (ev_callT c_tuple q_tuple fs.f_tuple (ea_cons (ev_var 6) (ea_nil)))))))
abbrev st__law_rich : Stmt := top 25
noncomputable def c__law_rich : Mid.Env → Comp (Fl × Mid.Env) := sSeq (sAsg 3 [0, 1] (eBin dAdd (eK (.int 1)) (eCall 2 F__law_take (aCons (eVar 0) (aCons (eVar 1) (aNil))))))
  (sSeq (sPar 7 8 [0, 3] (eCall 2 F__law_drawn (aCons (eVar 0) (aCons (eVar 3) (aNil)))) (eCall 2 F__law_take (aCons (eVar 0) (aCons (eK (.int 4)) (aNil)))))
  (sSeq (sAsg 4 [3] (eComp [5] (iOf gRange1 (aCons (eVar 3) (aNil))) (tName 5) (cAll) (eBin dMul (eCallB gLst (aCons (eK (.int 0)) (aNil))) (eVar 3))))
  (sSeq (sForR (iOf gRange1 (aCons (eVar 3) (aNil))) (tName 5) (sSet2 4 [3, 5, 7] (eK (.int 1)) (eBin dIx (eVar 7) (eVar 5)) (eBin dIx (eVar 7) (eBin dMod (eBin dAdd (eVar 5) (eK (.int 1))) (eVar 3)))))
  (sSeq (sForR (iOf gRange1 (aCons (eVar 3) (aNil))) (tName 6) (sForR (iOf gRange1 (aCons (eVar 3) (aNil))) (tName 9) (sIf (bOf (eBin dEq (eCall 2 F__law_take (aCons (eVar 0) (aCons (eBin dAdd (eK (.int 1)) (eVar 8)) (aNil)))) (eK (.int 0)))) (sSet2 4 [0, 2, 4, 6, 9] (eBin dAdd (eBin dIx (eBin dIx (eVar 4) (eVar 6)) (eVar 9)) (eCall 2 F__law_take (aCons (eVar 0) (aCons (eBin dAdd (eVar 2) (eK (.int 1))) (aNil))))) (eVar 6) (eVar 9)) (sNil))))
  (sSeq (sPar 6 9 [0, 3] (eCall 2 F__law_take (aCons (eVar 0) (aCons (eVar 3) (aNil)))) (eCall 2 F__law_take (aCons (eVar 0) (aCons (eVar 3) (aNil)))))
  (sSeq (sSet2 4 [4, 6, 9] (eBin dAdd (eBin dIx (eBin dIx (eVar 4) (eVar 6)) (eVar 9)) (eK (.int 1))) (eVar 6) (eVar 9))
  (sRet [4] (eCallB gTuple (aCons (eComp [10] (iSeq (eVar 4)) (tName 10) (cAll) (eCallB gTuple (aCons (eVar 10) (aNil)))) (aNil))))))))))
noncomputable def F__law_rich : List D → Comp D := fnB 11 c__law_rich
theorem sc__law_rich : FnScope ["_law_pen", "_law_places", "_law_most", "_law_many", "_law_table", "_law_k", "_law_i", "_law_ring", "_law_thin", "_law_j", "_law_row"] ["_law_pen", "_law_places", "_law_most"] (defScope st__law_rich) := ⟨rfl, rfl, rfl, by decide +kernel, rfl, by decide +kernel, by decide +kernel⟩
theorem a__law_rich {f : Addr} {fd : FuncData} (F : FunD K "_law_rich" "_law_rich" (defArgs st__law_rich) (defBody st__law_rich) (defScope st__law_rich) [] [] f fd) (hm : mg "_law_rich" = some (.ref f)) (fs : Fs mg) (C__law_take : Cal P w K mg base 2 "_law_take" 2 F__law_take) (C__law_drawn : Cal P w K mg base 3 "_law_drawn" 2 F__law_drawn) : Cal P w K mg base 4 "_law_rich" 3 F__law_rich :=
  cal_of (N := ["_law_pen", "_law_places", "_law_most", "_law_many", "_law_table", "_law_k", "_law_i", "_law_ring", "_law_thin", "_law_j", "_law_row"]) (ps := ["_law_pen", "_law_places", "_law_most"]) (body := c__law_rich) F sc__law_rich hm (F.bindsN fun _ _ _ _ _ _ us hl => match us, hl with | [_, _, _], _ => rfl) fun cdv A outer s H E ft po => by
  delta c__law_rich
  exact svs_cons (sv_asg sc__law_rich.nd (ev_bin o_add q_add (ev_int) (ev_cal ft C__law_take (by decide) (ea_cons (ev_var 0) (ea_cons (ev_var 1) (ea_nil))))))
      (svs_cons (sv_par ft.cm sc__law_rich.nd (ev_cal ft C__law_drawn (by decide) (ea_cons (ev_var 0) (ea_cons (ev_var 3) (ea_nil)))) (ev_cal ft C__law_take (by decide) (ea_cons (ev_var 0) (ea_cons (ev_int) (ea_nil)))))
      (svs_cons (sv_asgC (own := [("_law_k", 5)]) (is := [5]) (vs2 := [3, 5]) ft.cm sc__law_rich.nd (iv_range1 fs.f_range (ea_cons (ev_var 3) (ea_nil))) rfl (fun s H C cl fp => tg_name 5 sc__law_rich.nd) (fun s H C cl fp => ec_nil) (fun s H C cl fp => ev_bin o_mul q_mul (ev_lst (ea_cons (ev_int) (ea_nil))) (ev_var 3)))
      (svs_cons (sv_forR (vs := [3]) (is := [5]) po ft.cm (ivr_range1 fs.f_range (ea_cons (ev_var 3) (ea_nil))) (tg_name 5 sc__law_rich.nd) (svs_one (sv_set2 (ev_int) (ev_ix x_ix q_ix (ev_var 7) (ev_var 5)) (ev_ix x_ix q_ix (ev_var 7) (ev_bin o_mod q_mod (ev_bin o_add q_add (ev_var 5) (ev_int)) (ev_var 3))))))
      (svs_cons (sv_forR (vs := [3]) (is := [6]) po ft.cm (ivr_range1 fs.f_range (ea_cons (ev_var 3) (ea_nil))) (tg_name 6 sc__law_rich.nd) (svs_one (sv_forR (vs := [3]) (is := [9]) po ft.cm (ivr_range1 fs.f_range (ea_cons (ev_var 3) (ea_nil))) (tg_name 9 sc__law_rich.nd) (svs_one (sv_if (vs := [0, 8]) (eb_cmp (o_eq ft.u64) q_eq (ev_cal ft C__law_take (by decide) (ea_cons (ev_var 0) (ea_cons (ev_bin o_add q_add (ev_int) (ev_var 8)) (ea_nil)))) (ev_int)) (svs_one (sv_set2 (ev_bin o_add q_add (ev_ix x_ix q_ix (ev_ix x_ix q_ix (ev_var 4) (ev_var 6)) (ev_var 9)) (ev_cal ft C__law_take (by decide) (ea_cons (ev_var 0) (ea_cons (ev_bin o_add q_add (ev_var 2) (ev_int)) (ea_nil))))) (ev_var 6) (ev_var 9))) (svs_nil))))))
      (svs_cons (sv_par ft.cm sc__law_rich.nd (ev_cal ft C__law_take (by decide) (ea_cons (ev_var 0) (ea_cons (ev_var 3) (ea_nil)))) (ev_cal ft C__law_take (by decide) (ea_cons (ev_var 0) (ea_cons (ev_var 3) (ea_nil)))))
      (svs_cons (sv_set2 (ev_bin o_add q_add (ev_ix x_ix q_ix (ev_ix x_ix q_ix (ev_var 4) (ev_var 6)) (ev_var 9)) (ev_int)) (ev_var 6) (ev_var 9))
      (svs_one (sv_ret (ev_callT c_tuple q_tuple fs.f_tuple (ea_cons (ev_comp (own := [("_law_row", 10)]) (is := [10]) (vs2 := [10]) ft.cm sc__law_rich.nd (iv_seq (ev_var 4)) rfl (fun s H C cl fp => tg_name 10 sc__law_rich.nd) (fun s H C cl fp => ec_nil) (fun s H C cl fp => ev_callT c_tuple q_tuple fs.f_tuple (ea_cons (ev_var 10) (ea_nil)))) (ea_nil)))))))))))
abbrev st__law_bent : Stmt := top 29
noncomputable def c__law_bent : Mid.Env → Comp (Fl × Mid.Env) := sSeq (sPar 3 4 [0, 1] (eCall 2 F__law_take (aCons (eVar 0) (aCons (eCallB gLen (aCons (eVar 1) (aNil))) (aNil)))) (eCall 2 F__law_take (aCons (eVar 0) (aCons (eCallB gLen (aCons (eVar 1) (aNil))) (aNil)))))
  (sSeq (sAsg 2 [1, 3] (eCallB gList (aCons (eBin dIx (eVar 1) (eVar 3)) (aNil))))
  (sSeq (sSet1 2 [0, 2, 4] (eCallB gMax (aCons (eK (.int 0)) (aCons (eBin dAdd (eBin dIx (eVar 2) (eVar 4)) (eCall 2 F__law_one (aCons (eVar 0) (aCons (eCallB gLst (aCons (eUn dNeg (eK (.int 1))) (aCons (eK (.int 1)) (aCons (eUn dNeg (eK (.int 2))) (aCons (eK (.int 2)) (aCons (eBin dSub (eK (.int 0)) (eBin dIx (eVar 2) (eVar 4))) (aNil))))))) (aNil))))) (aNil)))) (eVar 4))
  (sRet [1, 2, 3] (eBin dAdd (eBin dAdd (eSl dSl (eVar 1) (oNone) (oSome (eVar 3))) (eCallB Mid.gTup (aCons (eCallB gTuple (aCons (eVar 2) (aNil))) (aNil)))) (eSl dSl (eVar 1) (oSome (eBin dAdd (eVar 3) (eK (.int 1)))) (oNone))))))
noncomputable def F__law_bent : List D → Comp D := fnB 5 c__law_bent
theorem sc__law_bent : FnScope ["_law_pen", "_law_web_here", "_law_row", "_law_i", "_law_j"] ["_law_pen", "_law_web_here"] (defScope st__law_bent) := ⟨rfl, rfl, rfl, by decide +kernel, rfl, by decide +kernel, by decide +kernel⟩
theorem a__law_bent {f : Addr} {fd : FuncData} (F : FunD K "_law_bent" "_law_bent" (defArgs st__law_bent) (defBody st__law_bent) (defScope st__law_bent) [] [] f fd) (hm : mg "_law_bent" = some (.ref f)) (fs : Fs mg) (C__law_take : Cal P w K mg base 2 "_law_take" 2 F__law_take) (C__law_one : Cal P w K mg base 3 "_law_one" 2 F__law_one) : Cal P w K mg base 4 "_law_bent" 2 F__law_bent :=
  cal_of (N := ["_law_pen", "_law_web_here", "_law_row", "_law_i", "_law_j"]) (ps := ["_law_pen", "_law_web_here"]) (body := c__law_bent) F sc__law_bent hm (F.bindsN fun _ _ _ _ _ _ us hl => match us, hl with | [_, _], _ => rfl) fun cdv A outer s H E ft po => by
  delta c__law_bent
  exact svs_cons (sv_par ft.cm sc__law_bent.nd (ev_cal ft C__law_take (by decide) (ea_cons (ev_var 0) (ea_cons (ev_callB c_len q_len fs.f_len (ea_cons (ev_var 1) (ea_nil))) (ea_nil)))) (ev_cal ft C__law_take (by decide) (ea_cons (ev_var 0) (ea_cons (ev_callB c_len q_len fs.f_len (ea_cons (ev_var 1) (ea_nil))) (ea_nil)))))
      (svs_cons (sv_asg sc__law_bent.nd (ev_callT c_list q_list fs.f_list (ea_cons (ev_ix x_ix q_ix (ev_var 1) (ev_var 3)) (ea_nil))))
      (svs_cons (sv_set1 (ev_callB (c_max ft.cm) q_max fs.f_max (ea_cons (ev_int) (ea_cons (ev_bin o_add q_add (ev_ix x_ix q_ix (ev_var 2) (ev_var 4)) (ev_cal ft C__law_one (by decide) (ea_cons (ev_var 0) (ea_cons (ev_lst (ea_cons (ev_un u_neg q_neg (ev_int)) (ea_cons (ev_int) (ea_cons (ev_un u_neg q_neg (ev_int)) (ea_cons (ev_int) (ea_cons (ev_bin o_sub q_sub (ev_int) (ev_ix x_ix q_ix (ev_var 2) (ev_var 4))) (ea_nil))))))) (ea_nil))))) (ea_nil)))) (ev_var 4))
      (svs_one (sv_ret (ev_bin o_add q_add (ev_bin o_add q_add (ev_sl s_sl q_sl (ev_var 1) (eo_none) (eo_some (ev_var 3))) (ev_tup (ea_cons (ev_callT c_tuple q_tuple fs.f_tuple (ea_cons (ev_var 2) (ea_nil))) (ea_nil)))) (ev_sl s_sl q_sl (ev_var 1) (eo_some (ev_bin o_add q_add (ev_var 3) (ev_int))) (eo_none)))))))
abbrev st_is_full : Stmt := top 13
noncomputable def c_is_full : Mid.Env → Comp (Fl × Mid.Env) := sSeq (sExpr [0] (eCall 1 F_need_web (aCons (eVar 0) (aNil))))
  (sRet [0] (eCall 1 F_is_full_by (aCons (eVar 0) (aNil))))
noncomputable def F_is_full : List D → Comp D := fnB 1 c_is_full
theorem sc_is_full : FnScope ["web"] ["web"] (defScope st_is_full) := ⟨rfl, rfl, rfl, by decide +kernel, rfl, by decide +kernel, by decide +kernel⟩
theorem a_is_full {f : Addr} {fd : FuncData} (F : FunD K "is_full" "is_full" (defArgs st_is_full) (defBody st_is_full) (defScope st_is_full) [] [] f fd) (hm : mg "is_full" = some (.ref f)) (fs : Fs mg) (C_need_web : Cal P w K mg base 4 "need_web" 1 F_need_web) (C_is_full_by : Cal P w K mg base 2 "is_full_by" 1 F_is_full_by) : Cal P w K mg base 5 "is_full" 1 F_is_full :=
  cal_of (N := ["web"]) (ps := ["web"]) (body := c_is_full) F sc_is_full hm (F.bindsN fun _ _ _ _ _ _ us hl => match us, hl with | [_], _ => rfl) fun cdv A outer s H E ft po => by
  delta c_is_full
  exact svs_cons (sv_expr (ev_cal ft C_need_web (by decide) (ea_cons (ev_var 0) (ea_nil))))
      (svs_one (sv_ret (ev_cal ft C_is_full_by (by decide) (ea_cons (ev_var 0) (ea_nil)))))
abbrev st_is_level : Stmt := top 16
noncomputable def c_is_level : Mid.Env → Comp (Fl × Mid.Env) := sSeq (sExpr [0] (eCall 1 F_need_web (aCons (eVar 0) (aNil))))
  (sRet [0] (eCall 1 F_is_level_by (aCons (eVar 0) (aNil))))
noncomputable def F_is_level : List D → Comp D := fnB 1 c_is_level
theorem sc_is_level : FnScope ["web"] ["web"] (defScope st_is_level) := ⟨rfl, rfl, rfl, by decide +kernel, rfl, by decide +kernel, by decide +kernel⟩
theorem a_is_level {f : Addr} {fd : FuncData} (F : FunD K "is_level" "is_level" (defArgs st_is_level) (defBody st_is_level) (defScope st_is_level) [] [] f fd) (hm : mg "is_level" = some (.ref f)) (fs : Fs mg) (C_need_web : Cal P w K mg base 4 "need_web" 1 F_need_web) (C_is_level_by : Cal P w K mg base 3 "is_level_by" 1 F_is_level_by) : Cal P w K mg base 5 "is_level" 1 F_is_level :=
  cal_of (N := ["web"]) (ps := ["web"]) (body := c_is_level) F sc_is_level hm (F.bindsN fun _ _ _ _ _ _ us hl => match us, hl with | [_], _ => rfl) fun cdv A outer s H E ft po => by
  delta c_is_level
  exact svs_cons (sv_expr (ev_cal ft C_need_web (by decide) (ea_cons (ev_var 0) (ea_nil))))
      (svs_one (sv_ret (ev_cal ft C_is_level_by (by decide) (ea_cons (ev_var 0) (ea_nil)))))
abbrev st_law : Stmt := top 31
theorem sc_law : FnScope ["_law_script", "_law_pen", "_law_turn", "_law_level_one", "_law_full_one", "_law_some", "_law_web_here", "_law_handed", "_law_found"] ["_law_script"] (defScope st_law) := ⟨rfl, rfl, rfl, by decide +kernel, rfl, by decide +kernel, by decide +kernel⟩
noncomputable def c_law : Mid.Env → Comp (Fl × Mid.Env) := sSeq (sForR (iOf gRange1 (aCons (eK (.int 5)) (aNil))) (tName 2) (sSeq (sAsg 3 [1] (eCall 1 F__law_level (aCons (eCall 1 F__law_anew (aCons (eVar 1) (aNil))) (aNil))))
  (sSeq (sAsg 4 [1] (eCall 3 F__law_full (aCons (eVar 1) (aCons (eK (.int 8)) (aCons (eK (.int 3)) (aNil))))))
  (sSeq (sAsg 5 [1, 3, 4] (eCallB gLst (aCons (eVar 3) (aCons (eCall 2 F__law_bent (aCons (eVar 1) (aCons (eVar 3) (aNil)))) (aCons (eVar 4) (aCons (eCall 2 F__law_bent (aCons (eVar 1) (aCons (eVar 4) (aNil)))) (aCons (eCall 3 F__law_rich (aCons (eVar 1) (aCons (eK (.int 5)) (aCons (eK (.int 3)) (aNil))))) (aNil))))))))
  (sForS [1, 5] (iSeq (eBin dAdd (eVar 5) (eCallB gLst (aCons (eCall 3 F__law_web (aCons (eVar 1) (aCons (eK (.int 4)) (aCons (eK (.int 3)) (aNil))))) (aNil))))) (tName 6) (sSeq (sAsg 7 [6] (eCallB gRepr (aCons (eVar 6) (aNil))))
  (sSeq (sAsg 8 [6] (eCallB Mid.gTup (aCons (eCall 1 F_is_full (aCons (eVar 6) (aNil))) (aCons (eCall 1 F_is_level (aCons (eVar 6) (aNil))) (aNil)))))
  (sIf (bOr (bOf (eBin dNe (eCallB gRepr (aCons (eVar 8) (aNil))) (eCallB gRepr (aCons (eCall 1 F__law_due (aCons (eVar 6) (aNil))) (aNil))))) (bOf (eBin dNe (eCallB gRepr (aCons (eVar 6) (aNil))) (eVar 7)))) (sRet [] (eK (.bl false))) (sNil)))))))))
  (sRet [] (eK (.bl true)))
theorem a_law {f : Addr} {fd : FuncData} (F : FunD K "law" "law" (defArgs st_law) (defBody st_law) (defScope st_law) [] [] f fd) (fs : Fs mg) (O : OpenAt P w K mg base 1) (C__law_anew : Cal P w K mg base 1 "_law_anew" 1 F__law_anew) (C__law_level : Cal P w K mg base 3 "_law_level" 1 F__law_level) (C__law_full : Cal P w K mg base 3 "_law_full" 3 F__law_full) (C__law_rich : Cal P w K mg base 4 "_law_rich" 3 F__law_rich) (C__law_bent : Cal P w K mg base 4 "_law_bent" 2 F__law_bent) (C_is_level : Cal P w K mg base 5 "is_level" 1 F_is_level) (C_is_full : Cal P w K mg base 5 "is_full" 1 F_is_full) (C__law_due : Cal P w K mg base 2 "_law_due" 1 F__law_due) (C__law_web : Cal P w K mg base 4 "_law_web" 3 F__law_web) {b : Nat} (hb : b ≤ bigA) (good : Good c_law 9 b) : FnG P w K mg base 6 f fd ["_law_script"] (spLaw K) :=
  law_fn (N := ["_law_script", "_law_pen", "_law_turn", "_law_level_one", "_law_full_one", "_law_some", "_law_web_here", "_law_handed", "_law_found"]) (ps := ["_law_script"]) F sc_law rfl (by decide) hb good fun cdv A outer s H E ft po => by
  delta c_law
  exact pss_cons (ps_pen sc_law.nd (pe_open ft O (by decide)))
      (svs_cons (sv_forR (vs := []) (is := [2]) po ft.cm (ivr_range1 fs.f_range (ea_cons (ev_int) (ea_nil))) (tg_name 2 sc_law.nd) (svs_cons (sv_asg sc_law.nd (ev_cal ft C__law_level (by decide) (ea_cons (ev_cal ft C__law_anew (by decide) (ea_cons (ev_var 1) (ea_nil))) (ea_nil))))
      (svs_cons (sv_asg sc_law.nd (ev_cal ft C__law_full (by decide) (ea_cons (ev_var 1) (ea_cons (ev_int) (ea_cons (ev_int) (ea_nil))))))
      (svs_cons (sv_asg sc_law.nd (ev_lst (ea_cons (ev_var 3) (ea_cons (ev_cal ft C__law_bent (by decide) (ea_cons (ev_var 1) (ea_cons (ev_var 3) (ea_nil)))) (ea_cons (ev_var 4) (ea_cons (ev_cal ft C__law_bent (by decide) (ea_cons (ev_var 1) (ea_cons (ev_var 4) (ea_nil)))) (ea_cons (ev_cal ft C__law_rich (by decide) (ea_cons (ev_var 1) (ea_cons (ev_int) (ea_cons (ev_int) (ea_nil))))) (ea_nil))))))))
      (svs_one (sv_forS (vs := [1, 5]) (is := [6]) po ft.cm (iv_seq (ev_bin o_add q_add (ev_var 5) (ev_lst (ea_cons (ev_cal ft C__law_web (by decide) (ea_cons (ev_var 1) (ea_cons (ev_int) (ea_cons (ev_int) (ea_nil))))) (ea_nil))))) (tg_name 6 sc_law.nd) (svs_cons (sv_asg sc_law.nd (ev_callB (c_repr ft.ca ft.u66) q_repr fs.f_repr (ea_cons (ev_var 6) (ea_nil))))
      (svs_cons (sv_asg sc_law.nd (ev_tup (ea_cons (ev_cal ft C_is_full (by decide) (ea_cons (ev_var 6) (ea_nil))) (ea_cons (ev_cal ft C_is_level (by decide) (ea_cons (ev_var 6) (ea_nil))) (ea_nil)))))
      (svs_one (sv_if (vs := [6, 7, 8]) (EW.eb (ew_or (eb_cmp (o_ne ft.u64) q_ne (ev_callB (c_repr ft.ca ft.u66) q_repr fs.f_repr (ea_cons (ev_var 8) (ea_nil))) (ev_callB (c_repr ft.ca ft.u66) q_repr fs.f_repr (ea_cons (ev_cal ft C__law_due (by decide) (ea_cons (ev_var 6) (ea_nil))) (ea_nil)))) (ew_or1 (eb_cmp (o_ne ft.u64) q_ne (ev_callB (c_repr ft.ca ft.u66) q_repr fs.f_repr (ea_cons (ev_var 6) (ea_nil))) (ev_var 7))))) (svs_one (sv_ret (ev_bl))) (svs_nil)))))))))))
      (svs_one (sv_ret (ev_bl))))
end
end Law

namespace Law
open PySem PySem.Spec PyProof.Rows L2 Mid

/-! ## expressions, evaluated -/
theorem comp_eq {α : Type} {own : List Nat} {it : Mid.Env → Comp (List D)} {t : Tg} {c : Mid.Env → Comp Bool} {f : Mid.Env → Comp D} {ρ : Mid.Env} (E G : α → D) (p : α → Bool) (L : List α) (hi : it ρ = .ret (L.map E)) (hl : L.length < sizeLine)
    (h : ∀ a ∈ L, ∃ ρ', t (E a) (wipeE ρ own) = some ρ' ∧ c ρ' = .ret (p a) ∧ (p a = true → f ρ' = .ret (G a))) : eComp own it t c f ρ = .ret (.lst true ((L.filter p).map G)) := by
  unfold eComp
  rw [hi, bind_ret, List.length_map, if_pos hl, compL_eq E G p L h, bind_ret]
theorem comp_all {α : Type} {own : List Nat} {it : Mid.Env → Comp (List D)} {t : Tg} {f : Mid.Env → Comp D} {ρ : Mid.Env} (E G : α → D) (L : List α) (hi : it ρ = .ret (L.map E)) (hl : L.length < sizeLine)
    (h : ∀ a ∈ L, ∃ ρ', t (E a) (wipeE ρ own) = some ρ' ∧ f ρ' = .ret (G a)) : eComp own it t cAll f ρ = .ret (.lst true (L.map G)) := by
  unfold eComp
  rw [hi, bind_ret, List.length_map, if_pos hl, compL_all E G L h, bind_ret]
theorem enum_eq {f : Mid.Env → Comp D} {ρ : Mid.Env} {d : D} {ds : List D} (hf : f ρ = .ret d) (hd : itemsOf (fz d) = .ret ds) : iOf gEnum (aCons f aNil) ρ = .ret (numbered 0 ds) := by
  unfold iOf aCons aNil
  rw [hf, bind_ret, bind_ret, bind_ret]
  show (itemsOf (fz d)).bind _ = _
  rw [hd]; rfl
theorem seq_it {f : Mid.Env → Comp D} {ρ : Mid.Env} {d : D} {ds : List D} (hf : f ρ = .ret d) (hd : itemsOf (fz d) = .ret ds) : iSeq f ρ = .ret ds := by
  unfold iSeq; rw [hf, bind_ret, hd]
theorem call1_eq {g : List D → Comp D} {f : Mid.Env → Comp D} {ρ : Mid.Env} {d : D} {r : Comp D} (hf : f ρ = .ret d) (hg : g [fz d] = r) : eCallB g (aCons f aNil) ρ = r := by
  unfold eCallB aCons aNil
  rw [hf, bind_ret, bind_ret, bind_ret, hg]
theorem fn1_eq {F : List D → Comp D} {f : Mid.Env → Comp D} {ρ : Mid.Env} {d : D} {r : Comp D} (hf : f ρ = .ret d) (hg : F [fz d] = r) : eCall 1 F (aCons f aNil) ρ = r := by
  unfold eCall aCons aNil
  rw [hf, bind_ret, bind_ret, bind_ret]
  exact (if_pos rfl).trans hg
theorem intsOf_map : ∀ r : List Int, intsOf (r.map D.int) = some r
  | [] => rfl
  | a :: r => by show (intsOf (r.map D.int)).map _ = _; rw [intsOf_map r]; rfl
theorem blsOf_map : ∀ r : List Bool, blsOf (r.map D.bl) = some r
  | [] => rfl
  | a :: r => by show (blsOf (r.map D.bl)).map _ = _; rw [blsOf_map r]; rfl
theorem min_row {r : List Int} (h : 0 < r.length) : gMin [rowD r] = .ret (.int (minL r)) := by
  unfold rowD
  simp only [gMin, intsOf_map]
  exact if_pos h
theorem min_lst {b : Bool} {r : List Int} (h : 0 < r.length) : gMin [.lst b (r.map D.int)] = .ret (.int (minL r)) := by
  simp only [gMin, intsOf_map]
  exact if_pos h
/-! ## webs -/
structure Web (W : List (List Int)) : Prop where
  one : 1 ≤ W.length
  eight : W.length ≤ 8
  sq : ∀ r ∈ W, r.length = W.length
  pos : ∀ r ∈ W, ∀ x ∈ r, 0 ≤ x
  low : ∀ r ∈ W, ∀ x ∈ r, x < 10 ^ 12 + 100
def less (W : List (List Int)) : List (List Int) := W.zipIdx.map fun p => p.1.zipIdx.map fun q => q.1 - (if p.2 = q.2 then 1 else 0)
theorem small_line : ∀ {n : Nat}, n ≤ 100 → n < sizeLine := fun h => by rw [sizeLine_eq]; omega
theorem zipIdx_mem {α : Type} {L : List α} {p : α × Nat} (h : p ∈ L.zipIdx) : p.1 ∈ L := by
  obtain ⟨a, i⟩ := p
  have := List.mem_zipIdx h
  rw [this.2.2]
  exact List.getElem_mem _
theorem less_ones_eq {W : List (List Int)} (h : Web W) : F_less_ones [webD W] = .ret (webD (less W)) := by
  refine fnB_eq (fl := .rt (webD (less W))) (ρ := startE 5 [webD W]) ?_
  unfold c_less_ones
  refine ret_eq (call1_eq (d := .lst true ((less W).map rowD)) ?_ (by show Comp.ret (D.tup (fzL ((less W).map rowD))) = _; rw [fzL_rows]; rfl))
  have e : (less W).map rowD = W.zipIdx.map fun p => rowD (p.1.zipIdx.map fun q => q.1 - (if p.2 = q.2 then 1 else 0)) := by
    unfold less; rw [List.map_map]; rfl
  rw [e]
  refine comp_all (fun p : List Int × Nat => D.tup [.int (p.2 : Int), rowD p.1]) _ W.zipIdx (by rw [← numbered_map]; exact enum_eq (d := webD W) rfl rfl) (by rw [List.length_zipIdx]; exact small_line (by have := h.eight; omega)) fun p hp => ?_
  obtain ⟨r, i⟩ := p
  have hr : r ∈ W := zipIdx_mem hp
  refine ⟨[some (webD W), some (.int i), some (rowD r), none, none], rfl, ?_⟩
  refine call1_eq (d := .lst true ((r.zipIdx.map fun q => q.1 - (if i = q.2 then 1 else 0)).map D.int)) ?_ (by show Comp.ret (D.tup (fzL (List.map D.int _))) = _; rw [fzL_ints]; rfl)
  rw [List.map_map]
  refine comp_all (fun q : Int × Nat => D.tup [.int (q.2 : Int), .int q.1]) _ r.zipIdx (by rw [← numbered_map]; exact enum_eq (d := rowD r) rfl rfl) (by rw [List.length_zipIdx]; exact small_line (by have := h.sq r hr; have := h.eight; omega)) fun q hq => ?_
  obtain ⟨x, j⟩ := q
  refine ⟨[some (webD W), some (.int i), some (rowD r), some (.int j), some (.int x)], rfl, ?_⟩
  refine bin_eq (d := .int x) (e := .int (if i = j then 1 else 0)) rfl (call1_eq (d := .bl (decide ((i : Int) = j))) rfl ?_) rfl
  show Comp.ret (D.int (if decide ((i : Int) = j) = true then 1 else 0)) = _
  by_cases q : i = j
  · subst q; simp
  · rw [if_neg q, if_neg (by simp; omega)]
theorem less_length (W : List (List Int)) : (less W).length = W.length := by
  unfold less; rw [List.length_map, List.length_zipIdx]
theorem less_row {W : List (List Int)} (h : Web W) : ∀ r ∈ less W, r.length = W.length := fun r hr => by
  unfold less at hr
  obtain ⟨p, hp, e⟩ := List.mem_map.mp hr
  rw [← e, List.length_map, List.length_zipIdx, h.sq _ (zipIdx_mem hp)]
def full (W : List (List Int)) : Bool := decide (1 ≤ minL ((less W).map minL))
theorem mins_eq {own : List Nat} {it : Mid.Env → Comp (List D)} {i : Nat} {ρ : Mid.Env} {L : List (List Int)} {E : List Int → D} (hE : ∀ r, fz (E r) = E r) (hmin : ∀ r, 0 < r.length → gMin [E r] = .ret (.int (minL r))) (hi : it ρ = .ret (L.map E)) (hl : L.length ≤ 100) (hr : ∀ r ∈ L, 0 < r.length) (hne : 0 < L.length) (hown : ∀ d, (tName i d (wipeE ρ own)).bind (fun ρ' => ρ'[i]?) = some (some d)) :
    eCallB gMin (aCons (eComp own it (tName i) cAll (eCallB gMin (aCons (eVar i) aNil))) aNil) ρ = .ret (.int (minL (L.map minL))) := by
  refine call1_eq (d := .lst true ((L.map minL).map D.int)) ?_ (by show gMin [D.lst false (fzL _)] = _; rw [fzL_ints]; exact min_lst (by rw [List.length_map]; exact hne))
  rw [List.map_map]
  refine comp_all E _ L hi (small_line hl) fun r h => ⟨_, rfl, ?_⟩
  have := hown (E r)
  refine call1_eq (d := E r) ?_ (by rw [hE]; exact hmin r (hr r h))
  unfold eVar
  have e : ((wipeE ρ own).set i (some (E r)))[i]? = some (some (E r)) := this
  rw [e]
theorem is_full_by_eq {W : List (List Int)} (h : Web W) : F_is_full_by [webD W] = .ret (.bl (full W)) := by
  refine fnB_eq (fl := .rt (.bl (full W))) (ρ := startE 2 [webD W]) ?_
  unfold c_is_full_by
  refine ret_eq (bin_eq (d := .int (minL ((less W).map minL))) (e := .int 1) ?_ rfl rfl)
  exact mins_eq (E := rowD) fz_row (fun r => min_row) (seq_it (fn1_eq (d := webD W) rfl (less_ones_eq h)) rfl) (by rw [less_length]; have := h.eight; omega) (fun r hr => by rw [less_row h r hr]; exact h.one) (by rw [less_length]; exact h.one) (fun d => rfl)
/-! ### webs are seen as webs -/
theorem forL_keep {t : Tg} {body : Mid.Env → Comp (Fl × Mid.Env)} {S : Mid.Env → Prop} : ∀ (ds : List D), (∀ d ∈ ds, ∀ ρ, S ρ → ∃ ρ' ρ2, t d ρ = some ρ' ∧ body ρ' = .ret (.nx, ρ2) ∧ S ρ2) → ∀ ρ, S ρ → ∃ ρ', S ρ' ∧ forL t body ds ρ = .ret (.nx, ρ')
  | [], _, ρ, s => ⟨ρ, s, rfl⟩
  | d :: ds, h, ρ, s => by
    obtain ⟨ρ', ρ2, e1, e2, s2⟩ := h d List.mem_cons_self ρ s
    obtain ⟨ρ3, s3, e3⟩ := forL_keep ds (fun x hx => h x (List.mem_cons_of_mem _ hx)) ρ2 s2
    refine ⟨ρ3, s3, ?_⟩
    unfold forL
    rw [e1]
    simp only [e2, bind_ret]
    exact e3
theorem bnot_eq {c : Mid.Env → Comp Bool} {ρ : Mid.Env} {b : Bool} (h : c ρ = .ret b) : bNot c ρ = .ret (!b) := by
  unfold bNot; rw [h]; rfl
theorem bor_eq {c c' : Mid.Env → Comp Bool} {ρ : Mid.Env} {a b : Bool} (h : c ρ = .ret a) (h' : c' ρ = .ret b) : bOr c c' ρ = .ret (a || b) := by
  unfold bOr; rw [h, bind_ret]
  cases a with
  | true => rfl
  | false => exact h'
theorem un_eq {g : D → Comp D} {f : Mid.Env → Comp D} {ρ : Mid.Env} {d : D} {r : Comp D} (h : f ρ = .ret d) (hg : g (fz d) = r) : eUn g f ρ = r := by
  unfold eUn; rw [h, bind_ret, hg]
theorem is_whole_eq (i : Int) : F_is_whole [.int i] = .ret (.bl true) := rfl
theorem len_tup (ds : List D) : gLen [.tup ds] = .ret (.int ds.length) := rfl
theorem all_true {L : List Int} : gAll [.lst false (L.map fun _ => D.bl true)] = .ret (.bl true) := by
  have e : (L.map fun _ => D.bl true) = (L.map fun _ => true).map D.bl := by rw [List.map_map]; rfl
  rw [e]
  simp only [gAll, blsOf_map]
  have : (L.map fun _ => true).all id = true := by simp
  rw [this]
theorem fzL_bls : ∀ L : List Bool, fzL (L.map D.bl) = L.map D.bl
  | [] => rfl
  | _ :: L => congrArg (_ :: ·) (fzL_bls L)
theorem is_square_eq {W : List (List Int)} (h : Web W) : F_is_square [webD W, .int W.length] = .ret (.bl true) := by
  obtain ⟨ρ', s, e⟩ := forL_keep (t := tName 2) (body := sIf (bOr (bNot (bOf (eUn isTup (eVar 2)))) (bOr (bOf (eBin dNe (eCallB gLen (aCons (eVar 2) (aNil))) (eVar 1))) (bNot (bOf (eCallB gAll (aCons (eComp [3] (iSeq (eVar 2)) (tName 3) (cAll) (eCall 1 F_is_whole (aCons (eVar 3) (aNil)))) (aNil))))))) (sRet [] (eK (.bl false))) (sNil))
    (S := fun ρ => ∃ y, ρ = [some (webD W), some (.int W.length), y, none]) (W.map rowD) (fun d hd ρ s => by
      obtain ⟨y, rfl⟩ := s
      obtain ⟨r, hr, rfl⟩ := List.mem_map.mp hd
      refine ⟨[some (webD W), some (.int W.length), some (rowD r), none], [some (webD W), some (.int W.length), some (rowD r), none], rfl, ?_, some (rowD r), rfl⟩
      have hl := h.sq r hr
      rw [if_eq (b := false) ?_]
      · rfl
      refine bor_eq (a := false) (b := false) (bnot_eq (b := true) (bof_eq (un_eq (d := rowD r) rfl rfl))) (bor_eq (a := false) (b := false) (bof_eq (bin_eq (d := .int r.length) (e := .int W.length) (call1_eq (d := rowD r) rfl (by show Comp.ret (D.int (List.length (r.map D.int))) = _; rw [List.length_map])) rfl ?_)) (bnot_eq (b := true) (bof_eq (call1_eq (d := .lst true (r.map fun _ => D.bl true)) ?_ ?_))))
      · rw [hl]
        show Comp.ret (D.bl !(decide ((W.length : Int) = W.length))) = _
        simp
      · exact comp_all D.int _ r (seq_it (d := rowD r) rfl rfl) (small_line (by have := h.eight; omega)) fun x hx => ⟨[some (webD W), some (.int W.length), some (rowD r), some (.int x)], rfl, fn1_eq (d := .int x) rfl (is_whole_eq x)⟩
      · show gAll [.lst false (fzL (r.map fun _ => D.bl true))] = _
        have e : (r.map fun _ => D.bl true) = (r.map fun _ => true).map D.bl := by rw [List.map_map]; rfl
        rw [e, fzL_bls, ← e]
        exact all_true) [some (webD W), some (.int W.length), none, none] ⟨none, rfl⟩
  refine fnB_eq (fl := .rt (.bl true)) (ρ := ρ') ?_
  unfold c_is_square
  rw [seq_eq (ρ' := [some (webD W), some (.int W.length), none, none]) ?_]
  · rw [seq_eq (ρ' := ρ') ?_]
    · obtain ⟨y, rfl⟩ := s
      rfl
    · unfold sForS
      rw [show iSeq (eVar 0) (fzE [some (webD W), some (.int W.length), none, none]) = .ret (W.map rowD) by rw [seq_it (d := webD W) rfl rfl], try_ret]
      exact e
  · rw [if_eq (b := false) ?_]
    · rfl
    refine bor_eq (a := false) (b := false) (bnot_eq (b := true) (bof_eq (un_eq (d := webD W) rfl rfl))) (bof_eq (bin_eq (d := .int W.length) (e := .int W.length) (call1_eq (d := webD W) rfl (by show Comp.ret (D.int (List.length (W.map rowD))) = _; rw [List.length_map])) rfl ?_))
    show Comp.ret (D.bl !(decide ((W.length : Int) = W.length))) = _
    simp
theorem fn2_eq {F : List D → Comp D} {f g : Mid.Env → Comp D} {ρ : Mid.Env} {d e : D} {r : Comp D} (hf : f ρ = .ret d) (hg : g ρ = .ret e) (h : F [fz d, fz e] = r) : eCall 2 F (aCons f (aCons g aNil)) ρ = r := by
  unfold eCall aCons aNil
  rw [hf, bind_ret, hg, bind_ret, bind_ret, bind_ret, bind_ret]
  exact (if_pos rfl).trans h
theorem chain_eq {g g' : D → D → Comp D} {f1 f2 f3 : Mid.Env → Comp D} {ρ : Mid.Env} {d1 d2 d3 : D} {b : Bool} {r : Comp D} (h1 : f1 ρ = .ret d1) (h2 : f2 ρ = .ret d2) (h3 : f3 ρ = .ret d3) (hg : g (fz d1) (fz d2) = .ret (.bl true)) (hg' : g' (fz d2) (fz d3) = r) : eChain g g' f1 f2 f3 ρ = r := by
  unfold eChain
  rw [h1, bind_ret, h2, bind_ret, hg, bind_ret]
  show (Comp.ret true).bind _ = _
  rw [bind_ret, if_pos rfl, h3, bind_ret, hg']
theorem minL_mem : ∀ {r : List Int}, 0 < r.length → minL r ∈ r
  | [a], _ => List.mem_cons_self
  | a :: b :: r, _ => by
    have ih := minL_mem (r := b :: r) (Nat.succ_pos _)
    show min a (minL (b :: r)) ∈ _
    by_cases q : a ≤ minL (b :: r)
    · rw [Int.min_eq_left q]; exact List.mem_cons_self
    · rw [Int.min_eq_right (by omega)]; exact List.mem_cons_of_mem _ ih
theorem minL_le : ∀ {r : List Int} {x : Int}, x ∈ r → minL r ≤ x
  | [a], x, h => by
    have e : x = a := by simpa using h
    rw [e]; exact Int.le_refl _
  | a :: b :: r, x, h => by
    show min a (minL (b :: r)) ≤ x
    rcases List.mem_cons.mp h with q | q
    · rw [q]; exact Int.min_le_left _ _
    · exact Int.le_trans (Int.min_le_right _ _) (minL_le q)
theorem len_web {f : Mid.Env → Comp D} {ρ : Mid.Env} {W : List (List Int)} (hf : f ρ = .ret (webD W)) : eCallB gLen (aCons f aNil) ρ = .ret (.int W.length) := call1_eq hf (by show Comp.ret (D.int (List.length (W.map rowD))) = _; rw [List.length_map])
theorem is_web_eq {W : List (List Int)} (h : Web W) : F_is_web [webD W] = .ret (.bl true) := by
  refine fnB_eq (fl := .rt (.bl true)) (ρ := startE 2 [webD W]) ?_
  unfold c_is_web
  have h1 := h.one
  have h8 := h.eight
  rw [seq_eq (ρ' := startE 2 [webD W]) ?_]
  · refine ret_eq (call1_eq (d := .lst true (W.map fun _ => D.bl true)) ?_ ?_)
    · refine comp_all rowD _ W (seq_it (d := webD W) rfl rfl) (small_line (by omega)) fun r hr => ⟨[some (webD W), some (rowD r)], rfl, ?_⟩
      have hl := h.sq r hr
      refine bin_eq (d := .int (minL r)) (e := .int 0) (call1_eq (d := rowD r) rfl (min_row (by omega))) rfl ?_
      show Comp.ret (D.bl (decide (0 ≤ minL r))) = _
      rw [decide_eq_true (h.pos r hr _ (minL_mem (by omega)))]
    · have e : (W.map fun _ => D.bl true) = (W.map fun _ => true).map D.bl := by rw [List.map_map]; rfl
      show gAll [.lst false (fzL (W.map fun _ => D.bl true))] = _
      rw [e, fzL_bls]
      simp only [gAll, blsOf_map]
      simp
  · rw [if_eq (b := false) ?_]
    · rfl
    refine bor_eq (a := false) (b := false) (bnot_eq (b := true) (bof_eq (un_eq (d := webD W) rfl rfl))) (bor_eq (a := false) (b := false) (bnot_eq (b := true) (bof_eq ?_)) (bnot_eq (b := true) (bof_eq ?_)))
    · refine chain_eq (b := true) (d1 := .int 1) (d2 := .int W.length) (d3 := .int 8) rfl (len_web rfl) rfl ?_ ?_
      · show Comp.ret (D.bl (decide ((1 : Int) ≤ W.length))) = _
        rw [decide_eq_true (by omega)]
      · show Comp.ret (D.bl (decide ((W.length : Int) ≤ 8))) = _
        rw [decide_eq_true (by omega)]
    · exact fn2_eq (d := webD W) (e := .int W.length) rfl (len_web rfl) (is_square_eq h)
theorem need_web_eq {W : List (List Int)} (h : Web W) : F_need_web [webD W] = .ret .non := by
  refine fnB_eq (fl := .nx) (ρ := startE 1 [webD W]) ?_
  unfold c_need_web
  rw [if_eq (b := false) (bnot_eq (b := true) (bof_eq (fn1_eq (d := webD W) rfl (is_web_eq h))))]
  rfl
theorem expr_eq {vs : List Nat} {f : Mid.Env → Comp D} {ρ : Mid.Env} {d : D} (h : f (fzE ρ) = .ret d) : sExpr vs f ρ = .ret (.nx, ρ) := by
  unfold sExpr; rw [run_int h]
theorem is_full_eq {W : List (List Int)} (h : Web W) : F_is_full [webD W] = .ret (.bl (full W)) := by
  refine fnB_eq (fl := .rt (.bl (full W))) (ρ := startE 1 [webD W]) ?_
  unfold c_is_full
  rw [seq_eq (expr_eq (fn1_eq (d := webD W) rfl (need_web_eq h)))]
  exact ret_eq (fn1_eq (d := webD W) rfl (is_full_by_eq h))
/-! ### equality of rows -/
theorem plain_ints : ∀ r : List Int, plainL (r.map D.int) = true
  | [] => rfl
  | _ :: r => plain_ints r
theorem lay_ints : ∀ r : List Int, PyData.canLayAll0 (pyDL (r.map D.int)) = true
  | [] => rfl
  | _ :: r => lay_ints r
theorem depth_ints : ∀ r : List Int, PyData.depthAll (pyDL (r.map D.int)) = 0
  | [] => rfl
  | _ :: r => by show max 0 (PyData.depthAll (pyDL (r.map D.int))) = 0; rw [depth_ints r]; rfl
theorem eqv_ints : ∀ a b : List Int, PyData.eqvAll (pyDL (a.map D.int)) (pyDL (b.map D.int)) = decide (a = b)
  | [], [] => rfl
  | [], _ :: _ => rfl
  | _ :: _, [] => rfl
  | x :: a, y :: b => by
    show ((x == y) && PyData.eqvAll (pyDL (a.map D.int)) (pyDL (b.map D.int))) = _
    rw [eqv_ints a b]
    by_cases h : x = y
    · subst h; simp
    · simp [h]
theorem ok_row (r : List Int) : okD (rowD r) = true := by
  show (plainL (r.map D.int) && (PyData.canLayAll0 (pyDL (r.map D.int)) && decide (PyData.depthAll (pyDL (r.map D.int)) + 1 ≤ 64))) = true
  rw [plain_ints, lay_ints, depth_ints]; rfl
theorem ok_lst (b : Bool) (r : List Int) : okD (.lst b (r.map D.int)) = true := by
  show (plainL (r.map D.int) && (PyData.canLayAll0 (pyDL (r.map D.int)) && decide (PyData.depthAll (pyDL (r.map D.int)) + 1 ≤ 64))) = true
  rw [plain_ints, lay_ints, depth_ints]; rfl
theorem ne_row (a b : List Int) : dNe (rowD a) (rowD b) = .ret (.bl !(decide (a = b))) := by
  have e : dNe (rowD a) (rowD b) = if okD (rowD a) && okD (rowD b) then .ret (.bl (!PyData.eqv (pyD (rowD a)) (pyD (rowD b)))) else .stuck := rfl
  rw [e, ok_row, ok_row, if_pos (show (true && true) = true from rfl)]
  show Comp.ret (D.bl !(PyData.eqvAll (pyDL (a.map D.int)) (pyDL (b.map D.int)))) = _
  rw [eqv_ints]
theorem ne_lst (u v : Bool) (a b : List Int) : dNe (.lst u (a.map D.int)) (.lst v (b.map D.int)) = .ret (.bl !(decide (a = b))) := by
  have e : dNe (.lst u (a.map D.int)) (.lst v (b.map D.int)) = if okD (.lst u (a.map D.int)) && okD (.lst v (b.map D.int)) then .ret (.bl (!PyData.eqv (pyD (.lst u (a.map D.int))) (pyD (.lst v (b.map D.int))))) else .stuck := rfl
  rw [e, ok_lst, ok_lst, if_pos (show (true && true) = true from rfl)]
  show Comp.ret (D.bl !(PyData.eqvAll (pyDL (a.map D.int)) (pyDL (b.map D.int)))) = _
  rw [eqv_ints]
theorem eq_lst (u v : Bool) (a b : List Int) : dEq (.lst u (a.map D.int)) (.lst v (b.map D.int)) = .ret (.bl (decide (a = b))) := by
  have e : dEq (.lst u (a.map D.int)) (.lst v (b.map D.int)) = if okD (.lst u (a.map D.int)) && okD (.lst v (b.map D.int)) then .ret (.bl (PyData.eqv (pyD (.lst u (a.map D.int))) (pyD (.lst v (b.map D.int))))) else .stuck := rfl
  rw [e, ok_lst, ok_lst, if_pos (show (true && true) = true from rfl)]
  show Comp.ret (D.bl (PyData.eqvAll (pyDL (a.map D.int)) (pyDL (b.map D.int)))) = _
  rw [eqv_ints]
/-! ### level -/
theorem comp2L_eq {α β : Type} {t t1 : Tg} {it1 : Mid.Env → Comp (List D)} {own1 : List Nat} {c1 : Mid.Env → Comp Bool} {f : Mid.Env → Comp D} {ρ : Mid.Env} (E : α → D) (L1 : α → List β) (E1 G : β → D) (p : β → Bool) : ∀ L : List α, (∀ a ∈ L, ∃ ρ', t (E a) ρ = some ρ' ∧ it1 ρ' = .ret ((L1 a).map E1) ∧ (L1 a).length < few ∧ ∀ b ∈ L1 a, ∃ ρ'', t1 (E1 b) (wipeE ρ' own1) = some ρ'' ∧ c1 ρ'' = .ret (p b) ∧ (p b = true → f ρ'' = .ret (G b))) →
    comp2L t cAll it1 own1 t1 c1 f ρ (L.map E) = .ret ((L.map fun a => ((L1 a).filter p).map G).flatten)
  | [], _ => rfl
  | a :: L, h => by
    obtain ⟨ρ', e1, e2, e3, e4⟩ := h a List.mem_cons_self
    have ih := comp2L_eq E L1 E1 G p L fun x hx => h x (List.mem_cons_of_mem _ hx)
    have ei := compL_eq (ρ := wipeE ρ' own1) E1 G p (L1 a) e4
    simp only [List.map_cons, comp2L, e1, e2, sure_ret, bind_ret, cAll, if_true, ih, ei, List.length_map, e3, List.flatten_cons]
theorem seq_rt {f g : Mid.Env → Comp (Fl × Mid.Env)} {ρ ρ' : Mid.Env} {d : D} (h : f ρ = .ret (.rt d, ρ')) : sSeq f g ρ = .ret (.rt d, ρ') := by
  unfold sSeq; rw [h]; rfl
theorem ix0 (d : D) (ds : List D) : dIx (.tup (d :: ds)) (.int 0) = .ret d := by
  have e : atI (d :: ds) 0 = some d := by
    unfold atI ixN
    rw [if_pos (by decide), if_pos (by simp only [List.length_cons]; omega)]; rfl
  simp only [dIx, e]
theorem ix0l (b : Bool) (d : D) (ds : List D) : dIx (.lst b (d :: ds)) (.int 0) = .ret d := by
  have e : atI (d :: ds) 0 = some d := by
    unfold atI ixN
    rw [if_pos (by decide), if_pos (by simp only [List.length_cons]; omega)]; rfl
  simp only [dIx, e]
theorem rep_one {α : Type} (n : Nat) (x : α) : (List.replicate n [x]).flatten = List.replicate n x := by
  induction n with
  | zero => rfl
  | succ n ih => rw [List.replicate_succ, List.flatten_cons, ih]; rfl
theorem mul_row {a : Int} {n : Nat} (h1 : 1 ≤ n) (h2 : n ≤ 1000) : dMul (rowD [a]) (.int n) = .ret (rowD (List.replicate n a)) := by
  have e : dMul (rowD [a]) (.int n) = .ret (.tup (List.replicate (n : Int).toNat [D.int a]).flatten) := if_pos ⟨Nat.one_pos, by omega, by omega, by show 1 ≤ 1000; decide⟩
  rw [e, Int.toNat_natCast, rep_one, rowD, List.map_replicate]
theorem mul_lst {a : Int} {n : Nat} (b : Bool) (h2 : n ≤ 1000) : dMul (.lst b [.int a]) (.int n) = .ret (.lst true ((List.replicate n a).map D.int)) := by
  have hs := sizeLine_eq
  simp only [dMul]
  rw [if_pos ⟨by omega, by omega, by rw [List.length_singleton, Int.toNat_natCast, hs]; omega⟩, Int.toNat_natCast, rep_one, List.map_replicate]
theorem mod_ne {x a : Int} (h : a ≠ 0) : dMod (.int x) (.int a) = .ret (.int (x.fmod a)) := if_pos h
def even (a : Int) (r : List Int) : Bool := r.all fun x => decide (x.fmod a = 0)
def levelBy (n : Nat) : List (List Int) → Bool
  | (a :: t) :: L => decide (a :: t = List.replicate n a) && ((a :: t) :: L).all (even a)
  | _ => false
def level (W : List (List Int)) : Bool := full W && levelBy W.length (less W)
theorem full_pos {W : List (List Int)} {a : Int} {t : List Int} {L : List (List Int)} (e : less W = (a :: t) :: L) (h : full W = true) : 1 ≤ a := by
  have h1 : 1 ≤ minL ((less W).map minL) := of_decide_eq_true h
  rw [e] at h1
  have h2 : minL (((a :: t) :: L).map minL) ≤ minL (a :: t) := minL_le List.mem_cons_self
  have h3 : minL (a :: t) ≤ a := minL_le List.mem_cons_self
  omega
theorem less_cons {W : List (List Int)} (h : Web W) : ∃ a t L, less W = (a :: t) :: L := by
  have h1 := less_length W
  have h2 := h.one
  cases e : less W with
  | nil => rw [e] at h1; simp at h1; omega
  | cons r L =>
    have h3 := less_row h r (by rw [e]; exact List.mem_cons_self)
    cases r with
    | nil => simp at h3; omega
    | cons a t => exact ⟨a, t, L, rfl⟩
theorem filter_nil {a : Int} {r : List Int} : (r.filter fun x => !(decide (x.fmod a = 0))) = [] ↔ even a r = true := by
  rw [List.filter_eq_nil_iff]
  unfold even
  rw [List.all_eq_true]
  constructor
  · intro q x hx
    have := q x hx
    simpa using this
  · intro q x hx
    have := q x hx
    simp [this]
theorem is_level_by_eq {W : List (List Int)} (h : Web W) : F_is_level_by [webD W] = .ret (.bl (level W)) := by
  obtain ⟨a, t, L, e⟩ := less_cons h
  have h8 := h.eight
  have h1 := h.one
  have el := less_ones_eq h
  have c0 : (bOr (bNot (bOf (eCall 1 F_is_full_by (aCons (eVar 0) (aNil))))) (bOf (eBin dNe (eBin dIx (eVar 1) (eK (.int 0))) (eBin dMul (eSl dSl (eBin dIx (eVar 1) (eK (.int 0))) (oNone) (oSome (eK (.int 1)))) (eCallB gLen (aCons (eVar 0) (aNil))))))) (fzE [some (webD W), some (webD (less W)), none, none]) = .ret (!(full W) || !(decide (a :: t = List.replicate W.length a))) := by
    refine bor_eq (bnot_eq (bof_eq (fn1_eq (d := webD W) rfl (is_full_by_eq h)))) (bof_eq ?_)
    have ei : eBin dIx (eVar 1) (eK (.int 0)) (fzE [some (webD W), some (webD (less W)), none, none]) = .ret (rowD (a :: t)) := bin_eq (d := webD (less W)) (e := .int 0) rfl rfl (by rw [fz_web, e]; exact ix0 _ _)
    refine bin_eq ei (bin_eq (d := rowD [a]) (e := .int W.length) ?_ (len_web rfl) (mul_row h1 (by omega))) (ne_row _ _)
    unfold eSl
    rw [ei, bind_ret]
    show dSl (rowD (a :: t)) none (some 1) = _
    show Comp.ret (D.tup (cutD ((a :: t).map D.int) none (some 1))) = _
    rw [cut_ints]
    show Comp.ret (D.tup ((((a :: t).drop 0).take (min 1 (a :: t).length - 0)).map D.int)) = _
    rw [show min 1 (a :: t).length - 0 = 1 by simp only [List.length_cons]; omega]
    rfl
  have s1 : ∀ g, sSeq (sAsg 1 [0] (eCall 1 F_less_ones (aCons (eVar 0) (aNil)))) g (startE 4 [webD W]) = g [some (webD W), some (webD (less W)), none, none] := fun g => seq_eq (asg_eq (d := webD (less W)) (fn1_eq (d := webD W) rfl el) (by
    show noShrL ((less W).map rowD) = true
    generalize less W = M
    induction M with
    | nil => rfl
    | cons r M ih => show (noShrL (r.map D.int) && noShrL (M.map rowD)) = true; rw [noShr_ints, ih]; rfl))
  unfold level levelBy
  rw [e]
  by_cases hf : (full W && decide (a :: t = List.replicate W.length a)) = true
  · obtain ⟨hf1, hf2⟩ := (Bool.and_eq_true _ _).mp hf |> fun z => (⟨z.1, z.2⟩ : full W = true ∧ decide (a :: t = List.replicate W.length a) = true)
    have ha := full_pos e hf1
    refine fnB_eq (fl := .rt (.bl (full W && (decide (a :: t = List.replicate W.length a) && ((a :: t) :: L).all (even a))))) (ρ := [some (webD W), some (webD (less W)), none, none]) ?_
    unfold c_is_level_by
    rw [s1, seq_eq (ρ' := [some (webD W), some (webD (less W)), none, none]) (by rw [if_eq (b := false) (c0.trans (by rw [hf1, hf2]; rfl))]; rfl)]
    rw [hf1, hf2, Bool.true_and, Bool.true_and]
    refine ret_eq (bin_eq (d := .lst true (((less W).map fun r => r.filter fun x => !(decide (x.fmod a = 0))).flatten.map D.int)) (e := .lst true []) ?_ rfl ?_)
    · unfold eComp2
      rw [show iSeq (eVar 1) (fzE [some (webD W), some (webD (less W)), none, none]) = .ret ((less W).map rowD) from seq_it (d := webD (less W)) rfl rfl, bind_ret, List.length_map, if_pos (by rw [less_length]; show W.length < 2000; omega)]
      rw [comp2L_eq (ρ := wipeE (fzE [some (webD W), some (webD (less W)), none, none]) [2, 3]) rowD (fun r => r) D.int D.int (fun x => !(decide (x.fmod a = 0))) (less W) fun r hr => ⟨[some (webD W), some (webD (less W)), some (rowD r), none], rfl, seq_it (d := rowD r) rfl rfl, by rw [less_row h r hr]; show W.length < 2000; omega, fun x hx => ⟨[some (webD W), some (webD (less W)), some (rowD r), some (.int x)], rfl, ?_, fun _ => rfl⟩⟩, bind_ret]
      · rw [List.map_flatten, List.map_map]; rfl
      · refine bof_eq (bin_eq (d := .int (x.fmod a)) (e := .int 0) (bin_eq (d := .int x) (e := .int a) rfl (bin_eq (d := rowD (a :: t)) (e := .int 0) (bin_eq (d := webD (less W)) (e := .int 0) rfl rfl (by rw [fz_web, e]; exact ix0 _ _)) rfl (ix0 _ _)) (mod_ne (by omega))) rfl rfl)
    · have ef : ∀ zs : List Int, fz (.lst true (zs.map D.int)) = .lst false (zs.map D.int) := fun zs => by
        show D.lst false (fzL (zs.map D.int)) = _
        rw [fzL_ints]
      rw [ef]
      refine (eq_lst false false _ []).trans ?_
      refine congrArg (fun b => Comp.ret (D.bl b)) ?_
      rw [Bool.eq_iff_iff, decide_eq_true_iff, List.flatten_eq_nil_iff, ← e, List.all_eq_true]
      constructor
      · intro q r hr
        exact filter_nil.mp (q _ (List.mem_map_of_mem hr))
      · intro q l hl
        obtain ⟨r, hr, rfl⟩ := List.mem_map.mp hl
        exact filter_nil.mpr (q r hr)
  · refine fnB_eq (fl := .rt (.bl (full W && (decide (a :: t = List.replicate W.length a) && ((a :: t) :: L).all (even a))))) (ρ := [some (webD W), some (webD (less W)), none, none]) ?_
    unfold c_is_level_by
    have hb : (!(full W) || !(decide (a :: t = List.replicate W.length a))) = true := by
      cases h1 : full W <;> cases h2 : decide (a :: t = List.replicate W.length a) <;> simp_all
    have hv : (full W && (decide (a :: t = List.replicate W.length a) && ((a :: t) :: L).all (even a))) = false := by
      cases h1 : full W <;> cases h2 : decide (a :: t = List.replicate W.length a) <;> simp_all
    rw [s1, hv]
    refine seq_rt ?_
    have c2 := c0.trans (congrArg Comp.ret hb)
    refine (if_eq (b := true) c2).trans ?_
    rfl
theorem is_level_eq {W : List (List Int)} (h : Web W) : F_is_level [webD W] = .ret (.bl (level W)) := by
  refine fnB_eq (fl := .rt (.bl (level W))) (ρ := startE 1 [webD W]) ?_
  unfold c_is_level
  rw [seq_eq (expr_eq (fn1_eq (d := webD W) rfl (need_web_eq h)))]
  exact ret_eq (fn1_eq (d := webD W) rfl (is_level_by_eq h))
/-! ### what is due -/
def lstD (b : Bool) (r : List Int) : D := .lst b (r.map D.int)
def lowD (b : Bool) (L : List (List Int)) : D := .lst b (L.map (lstD b))
theorem fz_lst (b : Bool) (r : List Int) : fz (lstD b r) = lstD false r := by
  show D.lst false (fzL (r.map D.int)) = _
  rw [fzL_ints]; rfl
theorem fzL_low (b : Bool) : ∀ L : List (List Int), fzL (L.map (lstD b)) = L.map (lstD false)
  | [] => rfl
  | r :: L => by show fz (lstD b r) :: fzL (L.map (lstD b)) = _; rw [fz_lst, fzL_low b L]; rfl
theorem fz_low (b : Bool) (L : List (List Int)) : fz (lowD b L) = lowD false L := by
  show D.lst false (fzL (L.map (lstD b))) = _
  rw [fzL_low]; rfl
theorem noShr_low : ∀ L : List (List Int), noShrL (L.map (lstD true)) = true
  | [] => rfl
  | r :: L => by show ((true && noShrL (r.map D.int)) && noShrL (L.map (lstD true))) = true; rw [noShr_ints, noShr_low L]; rfl
theorem law_less_eq {W : List (List Int)} (h : Web W) : F__law_less [webD W] = .ret (lowD true (less W)) := by
  refine fnB_eq (fl := .rt (lowD true (less W))) (ρ := startE 5 [webD W]) ?_
  unfold c__law_less
  refine ret_eq ?_
  have e : lowD true (less W) = .lst true (W.zipIdx.map fun p => lstD true (p.1.zipIdx.map fun q => q.1 - (if p.2 = q.2 then 1 else 0))) := by
    unfold lowD less; rw [List.map_map]; rfl
  rw [e]
  refine comp_all (fun p : List Int × Nat => D.tup [.int (p.2 : Int), rowD p.1]) _ W.zipIdx (by rw [← numbered_map]; exact enum_eq (d := webD W) rfl rfl) (by rw [List.length_zipIdx]; exact small_line (by have := h.eight; omega)) fun p hp => ?_
  obtain ⟨r, i⟩ := p
  have hr : r ∈ W := zipIdx_mem hp
  refine ⟨[some (webD W), some (.int i), some (rowD r), none, none], rfl, ?_⟩
  show _ = Comp.ret (D.lst true ((r.zipIdx.map fun q => q.1 - (if i = q.2 then 1 else 0)).map D.int))
  rw [List.map_map]
  refine comp_all (fun q : Int × Nat => D.tup [.int (q.2 : Int), .int q.1]) _ r.zipIdx (by rw [← numbered_map]; exact enum_eq (d := rowD r) rfl rfl) (by rw [List.length_zipIdx]; exact small_line (by have := h.sq r hr; have := h.eight; omega)) fun q hq => ?_
  obtain ⟨x, j⟩ := q
  refine ⟨[some (webD W), some (.int i), some (rowD r), some (.int j), some (.int x)], rfl, ?_⟩
  refine bin_eq (d := .int x) (e := .int (if i = j then 1 else 0)) rfl (call1_eq (d := .bl (decide ((i : Int) = j))) rfl ?_) rfl
  show Comp.ret (D.int (if decide ((i : Int) = j) = true then 1 else 0)) = _
  by_cases q : i = j
  · subst q; simp
  · rw [if_neg q, if_neg (by simp; omega)]
theorem plain_low (b : Bool) : ∀ L : List (List Int), plainL (L.map (lstD b)) = true
  | [] => rfl
  | r :: L => by show (plainL (r.map D.int) && plainL (L.map (lstD b))) = true; rw [plain_ints, plain_low b L]; rfl
theorem lay_low (b : Bool) : ∀ L : List (List Int), PyData.canLayAll0 (pyDL (L.map (lstD b))) = true
  | [] => rfl
  | r :: L => by show (PyData.canLayAll0 (pyDL (r.map D.int)) && PyData.canLayAll0 (pyDL (L.map (lstD b)))) = true; rw [lay_ints, lay_low b L]; rfl
theorem depth_low (b : Bool) : ∀ L : List (List Int), PyData.depthAll (pyDL (L.map (lstD b))) ≤ 1
  | [] => Nat.zero_le _
  | r :: L => by
    show max (PyData.depthAll (pyDL (r.map D.int)) + 1) (PyData.depthAll (pyDL (L.map (lstD b)))) ≤ 1
    have := depth_low b L
    rw [depth_ints]
    omega
theorem ok_low (b : Bool) (L : List (List Int)) : okD (lowD b L) = true := by
  show (plainL (L.map (lstD b)) && (PyData.canLayAll0 (pyDL (L.map (lstD b))) && decide (PyData.depthAll (pyDL (L.map (lstD b))) + 1 ≤ 64))) = true
  have := depth_low b L
  rw [plain_low, lay_low, decide_eq_true (by omega)]; rfl
theorem eq_low_nil (b c : Bool) (L : List (List Int)) : dEq (lowD b L) (.lst c []) = .ret (.bl (decide (L = []))) := by
  have e : dEq (lowD b L) (.lst c []) = if okD (lowD b L) && okD (.lst c []) then .ret (.bl (PyData.eqv (pyD (lowD b L)) (pyD (.lst c [])))) else .stuck := rfl
  rw [e, ok_low, if_pos (show (true && okD (.lst c [])) = true from rfl)]
  cases L with
  | nil => rfl
  | cons r L => rfl
theorem tup2_eq {f g : Mid.Env → Comp D} {ρ : Mid.Env} {d e : D} (hf : f ρ = .ret d) (hg : g ρ = .ret e) : eCallB Mid.gTup (aCons f (aCons g aNil)) ρ = .ret (.tup [fz d, fz e]) := by
  unfold eCallB aCons aNil
  rw [hf, bind_ret, hg, bind_ret, bind_ret, bind_ret, bind_ret]
  exact if_pos (by rw [sizeLine_eq]; show 2 ≤ 16777216; decide)
theorem due_eq {W : List (List Int)} (h : Web W) : F__law_due [webD W] = .ret (.tup [.bl (full W), .bl (level W)]) := by
  obtain ⟨a, t, L, e⟩ := less_cons h
  have h8 := h.eight
  have h1 := h.one
  have fzr : fzE [some (webD W), some (lowD true (less W)), none, none, none, none] = [some (webD W), some (lowD false (less W)), none, none, none, none] := by
    show [some (fz (webD W)), some (fz (lowD true (less W))), none, none, none, none] = _
    rw [fz_web, fz_low]
  have fzr2 : fzE [some (webD W), some (lowD true (less W)), some (.bl (full W)), none, none, none] = [some (webD W), some (lowD false (less W)), some (.bl (full W)), none, none, none] := by
    show [some (fz (webD W)), some (fz (lowD true (less W))), some (.bl (full W)), none, none, none] = _
    rw [fz_web, fz_low]
  have fzr3 : fzE [some (webD W), some (lowD true (less W)), some (.bl (full W)), some (.int a), none, none] = [some (webD W), some (lowD false (less W)), some (.bl (full W)), some (.int a), none, none] := by
    show [some (fz (webD W)), some (fz (lowD true (less W))), some (.bl (full W)), some (.int a), none, none] = _
    rw [fz_web, fz_low]
  have s1 : ∀ g, sSeq (sAsg 1 [0] (eCall 1 F__law_less (aCons (eVar 0) (aNil)))) g (startE 6 [webD W]) = g [some (webD W), some (lowD true (less W)), none, none, none, none] := fun g => seq_eq (asg_eq (d := lowD true (less W)) (fn1_eq (d := webD W) rfl (law_less_eq h)) (noShr_low _))
  have s2 : ∀ g, sSeq (sAsg 2 [1] (eBin dGe (eCallB gMin (aCons (eComp [4] (iSeq (eVar 1)) (tName 4) (cAll) (eCallB gMin (aCons (eVar 4) (aNil)))) (aNil))) (eK (.int 1)))) g [some (webD W), some (lowD true (less W)), none, none, none, none] = g [some (webD W), some (lowD true (less W)), some (.bl (full W)), none, none, none] := fun g => seq_eq (asg_eq (d := .bl (full W)) (by
    rw [fzr]
    refine bin_eq (d := .int (minL ((less W).map minL))) (e := .int 1) ?_ rfl rfl
    exact mins_eq (E := lstD false) (fz_lst false) (fun r => min_lst) (seq_it (d := lowD false (less W)) rfl (by rw [fz_low]; rfl)) (by rw [less_length]; omega) (fun r hr => by rw [less_row h r hr]; exact h1) (by rw [less_length]; exact h1) (fun d => rfl)))
  have ei : ∀ x y z, eBin dIx (eVar 1) (eK (.int 0)) [some (webD W), some (lowD false (less W)), x, y, none, z] = .ret (lstD false (a :: t)) := fun x y z => bin_eq (d := lowD false (less W)) (e := .int 0) rfl rfl (by rw [fz_low, e]; exact ix0l _ _ _)
  have s3 : ∀ g, sSeq (sAsg 3 [1] (eBin dIx (eBin dIx (eVar 1) (eK (.int 0))) (eK (.int 0)))) g [some (webD W), some (lowD true (less W)), some (.bl (full W)), none, none, none] = g [some (webD W), some (lowD true (less W)), some (.bl (full W)), some (.int a), none, none] := fun g => seq_eq (asg_eq (d := .int a) (by
    rw [fzr2]
    exact bin_eq (d := lstD false (a :: t)) (e := .int 0) (ei _ _ _) rfl (by rw [fz_lst]; exact ix0l _ _ _)))
  have c0 : (bOr (bNot (bOf (eVar 2))) (bOf (eBin dNe (eBin dIx (eVar 1) (eK (.int 0))) (eBin dMul (eCallB gLst (aCons (eVar 3) (aNil))) (eCallB gLen (aCons (eVar 0) (aNil))))))) (fzE [some (webD W), some (lowD true (less W)), some (.bl (full W)), some (.int a), none, none]) = .ret (!(full W) || !(decide (a :: t = List.replicate W.length a))) := by
    rw [fzr3]
    refine bor_eq (bnot_eq (b := full W) rfl) (bof_eq ?_)
    refine bin_eq (d := lstD false (a :: t)) (e := lstD true (List.replicate W.length a)) (ei _ _ _) (bin_eq (d := lstD true [a]) (e := .int W.length) rfl (len_web rfl) (by rw [fz_lst]; exact mul_lst false (by omega))) ?_
    rw [fz_lst, fz_lst]
    exact ne_lst false false _ _
  unfold level levelBy
  rw [e]
  by_cases hf : (full W && decide (a :: t = List.replicate W.length a)) = true
  · have hf1 : full W = true := by cases q : full W <;> simp_all
    have hf2 : decide (a :: t = List.replicate W.length a) = true := by cases q : full W <;> simp_all
    have ha := full_pos e hf1
    refine fnB_eq (fl := .rt (.tup [.bl (full W), .bl (full W && (decide (a :: t = List.replicate W.length a) && ((a :: t) :: L).all (even a)))])) (ρ := [some (webD W), some (lowD true (less W)), some (.bl (full W)), some (.int a), none, none]) ?_
    unfold c__law_due
    have c2 := c0.trans (congrArg Comp.ret (show (!(full W) || !(decide (a :: t = List.replicate W.length a))) = false by rw [hf1, hf2]; rfl))
    rw [s1, s2, s3, seq_eq (ρ' := [some (webD W), some (lowD true (less W)), some (.bl (full W)), some (.int a), none, none]) ((if_eq (b := false) c2).trans rfl)]
    rw [hf2, hf1, Bool.true_and, Bool.true_and]
    refine ret_eq ?_
    have e5 : eBin dEq (eComp [4] (iSeq (eVar 1)) (tName 4) (bOf (eBin dNe (eComp [5] (iSeq (eVar 4)) (tName 5) (bOf (eBin dNe (eBin dMod (eVar 5) (eVar 3)) (eK (.int 0)))) (eVar 5)) (eCallB gLst (aNil)))) (eVar 4)) (eCallB gLst (aNil)) [some (webD W), some (lowD false (less W)), some (.bl (full W)), some (.int a), none, none] = .ret (.bl (((a :: t) :: L).all (even a))) := by
      refine bin_eq (d := .lst true (((less W).filter fun r => !(even a r)).map (lstD false))) (e := .lst true []) ?_ rfl ?_
      · refine comp_eq (lstD false) (lstD false) (fun r => !(even a r)) (less W) (seq_it (d := lowD false (less W)) rfl (by rw [fz_low]; rfl)) (by rw [less_length]; exact small_line (by omega)) fun r hr => ⟨[some (webD W), some (lowD false (less W)), some (.bl (full W)), some (.int a), some (lstD false r), none], rfl, ?_, fun _ => rfl⟩
        refine bof_eq (bin_eq (d := lstD true (r.filter fun x => !(decide (x.fmod a = 0)))) (e := .lst true []) ?_ rfl ?_)
        · refine comp_eq D.int D.int (fun x => !(decide (x.fmod a = 0))) r (seq_it (d := lstD false r) rfl (by rw [fz_lst]; rfl)) (by rw [less_row h r hr]; exact small_line (by omega)) fun x hx => ⟨[some (webD W), some (lowD false (less W)), some (.bl (full W)), some (.int a), some (lstD false r), some (.int x)], rfl, ?_, fun _ => rfl⟩
          exact bof_eq (bin_eq (d := .int (x.fmod a)) (e := .int 0) (bin_eq (d := .int x) (e := .int a) rfl rfl (mod_ne (by omega))) rfl rfl)
        · rw [fz_lst]
          refine (ne_lst false false _ []).trans ?_
          refine congrArg (fun b => Comp.ret (D.bl !b)) ?_
          rw [Bool.eq_iff_iff, decide_eq_true_iff]
          exact filter_nil
      · have ef : fz (.lst true (((less W).filter fun r => !(even a r)).map (lstD false))) = lowD false ((less W).filter fun r => !(even a r)) := by
          show D.lst false (fzL _) = _
          rw [fzL_low]; rfl
        rw [ef]
        refine (eq_low_nil false false _).trans ?_
        refine congrArg (fun b => Comp.ret (D.bl b)) ?_
        rw [Bool.eq_iff_iff, decide_eq_true_iff, List.filter_eq_nil_iff, List.all_eq_true, ← e]
        constructor
        · intro q r hr
          have := q r hr
          simpa using this
        · intro q r hr
          rw [q r hr]; decide
    have e6 := tup2_eq (f := eK (.bl true)) (d := .bl true) rfl e5
    rw [hf1] at fzr3 e6
    rw [fzr3]
    exact e6
  · have hb : (!(full W) || !(decide (a :: t = List.replicate W.length a))) = true := by
      cases h1 : full W <;> cases h2 : decide (a :: t = List.replicate W.length a) <;> simp_all
    have hv : (full W && (decide (a :: t = List.replicate W.length a) && ((a :: t) :: L).all (even a))) = false := by
      cases h1 : full W <;> cases h2 : decide (a :: t = List.replicate W.length a) <;> simp_all
    refine fnB_eq (fl := .rt (.tup [.bl (full W), .bl (full W && (decide (a :: t = List.replicate W.length a) && ((a :: t) :: L).all (even a)))])) (ρ := [some (webD W), some (lowD true (less W)), some (.bl (full W)), some (.int a), none, none]) ?_
    unfold c__law_due
    rw [s1, s2, s3, hv]
    refine seq_rt ?_
    have c2 := c0.trans (congrArg Comp.ret hb)
    refine (if_eq (b := true) c2).trans ?_
    refine ret_eq (d := .tup [.bl (full W), .bl false]) ?_
    rw [fzr3]
    exact tup2_eq (d := .bl (full W)) (e := .bl false) rfl rfl
end Law

namespace Law
open PySem PySem.Spec PyProof.Rows L2 Mid

theorem nil_eq {ρ : Mid.Env} : eCallB gLst aNil ρ = .ret (.lst true []) := by
  unfold eCallB aNil
  rw [bind_ret]
  unfold gLst
  exact if_pos (Nat.zero_le _)
theorem asg_nil {i : Nat} {vs : List Nat} {ρ : Mid.Env} : Spec (sAsg i vs (eCallB gLst aNil) ρ) 0 (fun r => ∃ ρ', r = (.nx, ρ') ∧ ρ' = ρ.set i (some (.lst true []))) :=
  (Spec.asg (P := fun d => d = .lst true []) (Spec.of nil_eq ⟨rfl, rfl⟩)).imp fun r ⟨d, hd, e⟩ => ⟨_, e, by rw [hd]⟩
theorem seq_nil {i : Nat} {vs : List Nat} {ρ : Mid.Env} {g2 : Mid.Env → Comp (Fl × Mid.Env)} {b : Nat} {Q : Fl × Mid.Env → Prop} (h : Spec (g2 (ρ.set i (some (.lst true [])))) b Q) : Spec (sSeq (sAsg i vs (eCallB gLst aNil)) g2 ρ) b Q := by
  have := Spec.seq1 (g2 := g2) (b2 := b) (Q := Q) (asg_nil (i := i) (vs := vs) (ρ := ρ)) fun ρ' e => by rw [e]; exact h
  rw [Nat.zero_add] at this
  exact this
theorem ints_of {R : Int → Prop} : ∀ {es : List D}, (∀ e ∈ es, ∃ x : Int, e = .int x ∧ R x) → ∃ xs : List Int, es = xs.map D.int ∧ ∀ x ∈ xs, R x
  | [], _ => ⟨[], rfl, fun _ h => nomatch h⟩
  | e :: es, h => by
    obtain ⟨x, rfl, hx⟩ := h e List.mem_cons_self
    obtain ⟨xs, e2, h2⟩ := ints_of fun y hy => h y (List.mem_cons_of_mem _ hy)
    exact ⟨x :: xs, by rw [e2]; rfl, fun y hy => by
      rcases List.mem_cons.mp hy with q | q
      · rw [q]; exact hx
      · exact h2 y q⟩
theorem range_mem {n : Nat} {d : D} (h : d ∈ rangeL 0 n) : ∃ k : Nat, k < n ∧ d = .int k := by
  rw [rangeL_map] at h
  obtain ⟨k, hk, e⟩ := List.mem_map.mp h
  exact ⟨k, List.mem_range.mp hk, by rw [← e]; simp⟩
theorem range_len (n : Nat) : (rangeL 0 n).length = n := by rw [rangeL_map]; simp
theorem spec_compR {own : List Nat} {i n b : Nat} {g f : Mid.Env → Comp D} {ρ : Mid.Env} {R : Int → Prop} (hi : iOf gRange1 (aCons g aNil) ρ = .ret (rangeL 0 n)) (hn : n < sizeLine) (step : ∀ k : Nat, k < n → Spec (f ((wipeE ρ own).set i (some (.int (k : Int))))) b (fun d => ∃ x : Int, d = .int x ∧ R x)) :
    Spec (eComp own (iOf gRange1 (aCons g aNil)) (tName i) cAll f ρ) (b * n) (fun d => ∃ xs : List Int, d = .lst true (xs.map D.int) ∧ xs.length = n ∧ ∀ x ∈ xs, R x) := by
  unfold eComp
  rw [hi, bind_ret, range_len, if_pos hn]
  have := Spec.bind (b2 := 0) (Q := fun d => ∃ xs : List Int, d = D.lst true (xs.map D.int) ∧ xs.length = n ∧ ∀ x ∈ xs, R x) (f := fun es => .ret (.lst true es)) (Spec.compL (t := tName i) (f := f) (ρ := wipeE ρ own) (b := b) (P := fun d => ∃ x : Int, d = .int x ∧ R x) (rangeL 0 n) fun d hd => by
    obtain ⟨k, hk, rfl⟩ := range_mem hd
    exact ⟨_, rfl, step k hk⟩) fun es ⟨hl, he⟩ => by
    obtain ⟨xs, e, hx⟩ := ints_of he
    exact Spec.ret ⟨xs, by rw [e], by rw [← List.length_map (f := D.int), ← e, hl, range_len], hx⟩
  rw [range_len] at this
  exact this
theorem take_ {f g : Mid.Env → Comp D} {ρ : Mid.Env} {m : Int} (hf : f ρ = .ret .pen) (hg : g ρ = .ret (.int m)) (h0 : 0 < m) (h1 : m < 2 ^ 200) : Spec (eCall 2 F__law_take (aCons f (aCons g aNil)) ρ) 1 (fun d => ∃ r : Int, d = .int r ∧ 0 ≤ r ∧ r < m) :=
  Spec.eq (fn2_eq (F := F__law_take) hf hg rfl) (take_spec h0 h1)
theorem one_spec {xs : List Int} (h : 0 < xs.length) (h2 : xs.length < 2 ^ 62) : Spec (F__law_one [.pen, .lst false (xs.map D.int)]) 1 (fun d => ∃ x ∈ xs, d = .int x) := by
  refine Spec.fn (P := fun d => ∃ x ∈ xs, d = .int x) ?_
  unfold c__law_one
  have ez : fzE (startE 2 [.pen, .lst false (xs.map D.int)]) = [some .pen, some (.lst false (xs.map D.int))] := by
    show [some .pen, some (D.lst false (fzL (xs.map D.int)))] = _
    rw [fzL_ints]
  refine (Spec.ret_ (P := fun d => ∃ x ∈ xs, d = .int x) ?_).imp fun r ⟨d, hd, e⟩ => ⟨d, _, hd, e⟩
  rw [ez]
  refine (Spec.bin (b1 := 0) (b2 := 1) (b3 := 0) (P1 := fun d => d = .lst false (xs.map D.int)) (P2 := fun d => ∃ r : Int, d = .int r ∧ 0 ≤ r ∧ r < xs.length) (Spec.var rfl rfl) (take_ (m := xs.length) rfl ?_ (by omega) (Int.lt_trans (by omega : (xs.length : Int) < 2 ^ 62) (by decide))) fun d e hd he => ?_)
  · refine call1_eq (d := .lst false (xs.map D.int)) rfl ?_
    show gLen [.lst false (fzL (xs.map D.int))] = _
    rw [fzL_ints]
    show Comp.ret (D.int (List.length (xs.map D.int))) = _
    rw [List.length_map]
  · subst hd
    obtain ⟨r, rfl, s0, s1⟩ := he
    have hr : r.toNat < xs.length := by omega
    refine Spec.of (a := .int xs[r.toNat]) ?_ ⟨_, List.getElem_mem hr, rfl⟩
    show dIx (.lst false (fzL (xs.map D.int))) (.int r) = _
    rw [fzL_ints]
    have ea : atI (xs.map D.int) r = some (.int xs[r.toNat]) := by
      unfold atI
      rw [List.length_map, ixN_in s0 s1]
      simp [hr]
    simp only [dIx, ea]
theorem drawn_spec {n : Nat} (h0 : n ≤ 100) : Spec (F__law_drawn [.pen, .int n]) (1 * n) (fun d => ∃ cs : List Int, d = .lst true (cs.map D.int) ∧ cs.length = n ∧ ∀ c ∈ cs, 0 ≤ c ∧ c < n) := by
  refine Spec.fn ?_
  unfold c__law_drawn
  refine seq_nil ?_
  show Spec (sSeq _ _ [some .pen, some (.int n), some (.lst true []), none]) _ _
  refine Spec.mono (seq_for (b2 := 0) (b := 1) (n := n) (range1_eq rfl (by omega)) (fun k ρ => ∃ (cs : List Int) (y : Option D), ρ = [some .pen, some (.int n), some (.lst true (cs.map D.int)), y] ∧ cs.length = k ∧ ∀ c ∈ cs, 0 ≤ c ∧ c < n) ⟨[], none, rfl, rfl, fun _ h => nomatch h⟩ (fun k ρ hk ⟨cs, y, e, hl, hc⟩ => ?_) fun ρ ⟨cs, y, e, hl, hc⟩ => ?_) (Nat.le_refl _)
  · subst e
    refine ⟨[some .pen, some (.int n), some (.lst true (cs.map D.int)), some (.int k)], rfl, ?_⟩
    have ez : fzE [some .pen, some (.int n), some (.lst true (cs.map D.int)), some (.int (k : Int))] = [some .pen, some (.int n), some (.lst false (cs.map D.int)), some (.int k)] := by
      show [some .pen, some (.int (n : Int)), some (D.lst false (fzL (cs.map D.int))), some (.int (k : Int))] = _
      rw [fzL_ints]
    refine (Spec.ins (b1 := 1) (b2 := 0) (P := fun d => d = .int k) rfl (by rw [List.length_map, hl]; exact small_line (by omega)) ?_ ?_).imp fun r ⟨j, d, hd, e⟩ => ?_
    · rw [ez]
      exact (take_ (m := (k : Int) + 1) rfl rfl (by omega) (Int.lt_trans (by omega : (k : Int) + 1 < 2 ^ 62) (by decide))).imp fun d ⟨z, e, z0, z1⟩ => ⟨z, e, z0, Int.lt_trans z1 (by omega)⟩
    · rw [ez]
      exact Spec.of (a := .int k) rfl ⟨rfl, rfl⟩
    · subst hd
      refine ⟨_, e, cs.take j ++ ([(k : Int)] ++ cs.drop j), some (.int k), ?_, ?_, fun c hc' => ?_⟩
      · rw [List.map_append, List.map_append, List.map_take, List.map_drop]; rfl
      · simp only [List.length_append, List.length_take, List.length_drop, List.length_singleton]; omega
      · rcases List.mem_append.mp hc' with q | q
        · exact hc c (List.mem_of_mem_take q)
        · rcases List.mem_append.mp q with q | q
          · have : c = (k : Int) := by simpa using q
            omega
          · exact hc c (List.mem_of_mem_drop q)
  · subst e
    exact Spec.of (a := (.rt (.lst true (cs.map D.int)), [some .pen, some (.int n), some (.lst true (cs.map D.int)), y])) rfl ⟨_, _, ⟨cs, rfl, hl, hc⟩, rfl⟩
/-- rows told one behind another make a web -/
theorem full_spec {p most : Nat} (hp : 1 ≤ p) (hp8 : p ≤ 8) (hm : 1 ≤ most) (hm2 : most ≤ 50) : Spec (F__law_full [.pen, .int p, .int most]) 200 (fun d => ∃ W, (Web W ∧ ∀ r ∈ W, ∀ x ∈ r, x < 1000) ∧ d = webD W) := by
  refine Spec.fn ?_
  unfold c__law_full
  refine Spec.mono (Spec.seq1 (b1 := 1) (b2 := 64) (R := fun ρ => ∃ n : Nat, 1 ≤ n ∧ n ≤ 8 ∧ ρ = [some .pen, some (.int p), some (.int most), some (.int n), none, none, none]) ((Spec.asg (P := fun d => ∃ n : Nat, 1 ≤ n ∧ n ≤ 8 ∧ d = .int n) ?_).imp fun r ⟨d, ⟨n, h1, h2, hd⟩, e⟩ => ⟨_, e, n, h1, h2, by rw [hd]; rfl⟩) fun ρ ⟨n, h1, h2, e⟩ => ?_) (by omega)
  · refine (Spec.bin (b1 := 0) (b2 := 1) (b3 := 0) (P1 := fun d => d = .int 1) (P2 := fun d => ∃ r : Int, d = .int r ∧ 0 ≤ r ∧ r < p) (Spec.k rfl) (take_ (m := p) rfl rfl (by omega) (Int.lt_trans (by omega : (p : Int) < 2 ^ 62) (by decide))) fun d e hd ⟨r, he, s0, s1⟩ => ?_)
    subst hd he
    exact Spec.of (a := .int (1 + r)) rfl ⟨rfl, (1 + r).toNat, by omega, by omega, by rw [Int.toNat_of_nonneg (by omega)]⟩
  · subst e
    refine seq_nil ?_
    show Spec (sSeq _ _ [some .pen, some (.int p), some (.int most), some (.int n), some (.lst true []), none, none]) _ _
    refine Spec.mono (seq_for (b2 := 0) (b := 1 * n) (n := n) (range1_eq rfl (by omega)) (fun k ρ => ∃ (W : List (List Int)) (y : Option D), ρ = [some .pen, some (.int p), some (.int most), some (.int n), some (.lst true (W.map rowD)), y, none] ∧ W.length = k ∧ ∀ r ∈ W, r.length = n ∧ ∀ x ∈ r, 0 ≤ x ∧ x < 1000) ⟨[], none, rfl, rfl, fun _ h => nomatch h⟩ (fun k ρ hk ⟨W, y, e, hl, hc⟩ => ?_) fun ρ ⟨W, y, e, hl, hc⟩ => ?_) (by
        have : 1 * n * n ≤ 8 * 8 := Nat.mul_le_mul (by omega) h2
        omega)
    · subst e
      refine ⟨[some .pen, some (.int p), some (.int most), some (.int n), some (.lst true (W.map rowD)), some (.int k), none], rfl, ?_⟩
      refine (Spec.app (b := 1 * n) (P := fun d => ∃ r : List Int, d = rowD r ∧ r.length = n ∧ ∀ x ∈ r, 0 ≤ x ∧ x < 1000) rfl (by rw [List.length_map, hl]; exact small_line (by omega)) ?_).imp fun r ⟨d, ⟨q, hd, q1, q2⟩, e⟩ => ⟨_, e, W ++ [q], some (.int k), by rw [List.map_append, hd]; rfl, by simp [hl], fun r hr => by
        rcases List.mem_append.mp hr with z | z
        · exact hc r z
        · have : r = q := by simpa using z
          rw [this]; exact ⟨q1, q2⟩⟩
      have ez : fzE [some .pen, some (.int p), some (.int most), some (.int n), some (.lst true (W.map rowD)), some (.int (k : Int)), none] = [some .pen, some (.int p), some (.int most), some (.int n), some (.lst false (W.map rowD)), some (.int k), none] := by
        show [some .pen, some (.int (p : Int)), some (.int (most : Int)), some (.int (n : Int)), some (D.lst false (fzL (W.map rowD))), some (.int (k : Int)), none] = _
        rw [fzL_rows]
      rw [ez]
      refine (Spec.call1 (b1 := 1 * n) (b2 := 0) (spec_compR (b := 1) (n := n) (R := fun x => 0 ≤ x ∧ x < 1000) (range1_eq rfl (by omega)) (small_line (by omega)) fun j hj => ?_) fun d ⟨xs, hd, hl, hx⟩ => ?_)
      · refine (Spec.bin (b1 := 0) (b2 := 1) (b3 := 0) (P1 := fun d => d = .int (1 + (if (k : Int) = j then 1 else 0))) (P2 := fun d => ∃ r : Int, d = .int r ∧ 0 ≤ r ∧ r < most) (Spec.of (bin_eq (d := .int 1) (e := .int (if (k : Int) = j then 1 else 0)) rfl (call1_eq (d := .bl (decide ((k : Int) = j))) rfl (by
            show Comp.ret (D.int (if decide ((k : Int) = j) = true then 1 else 0)) = _
            simp)) rfl) rfl) (take_ (m := most) rfl rfl (by omega) (Int.lt_trans (by omega : (most : Int) < 2 ^ 62) (by decide))) fun d e hd ⟨r, he, s0, s1⟩ => ?_)
        subst hd he
        refine Spec.of (a := .int (1 + (if (k : Int) = j then 1 else 0) + r)) rfl ⟨_, rfl, ?_⟩
        split <;> omega
      · subst hd
        refine Spec.of (a := rowD xs) ?_ ⟨noShr_ints _, xs, rfl, hl, hx⟩
        show Comp.ret (D.tup (fzL (xs.map D.int))) = _
        rw [fzL_ints]; rfl
    · subst e
      refine ((Spec.ret_ (b := 0) (P := fun d => d = webD W) (Spec.of (a := webD W) ?_ rfl)).imp fun r ⟨d, hd, e⟩ => ⟨d, _, ⟨W, ?_, hd⟩, e⟩)
      · refine call1_eq (d := .lst false (W.map rowD)) (by show Comp.ret (D.lst false (fzL (W.map rowD))) = _; rw [fzL_rows]) (by show Comp.ret (D.tup (fzL (W.map rowD))) = _; rw [fzL_rows]; rfl)
      · exact ⟨⟨by omega, by omega, fun r hr => by rw [(hc r hr).1, hl], fun r hr x hx => ((hc r hr).2 x hx).1, fun r hr x hx => by have := ((hc r hr).2 x hx).2; omega⟩, fun r hr x hx => ((hc r hr).2 x hx).2⟩
end Law

namespace Law
open PySem PySem.Spec PyProof.Rows L2 Mid

theorem spec_tup2 {f g : Mid.Env → Comp D} {ρ : Mid.Env} {b1 b2 : Nat} {P1 P2 : D → Prop} (s : Spec (f ρ) b1 P1) (s2 : Spec (g ρ) b2 P2) : Spec (eCallB Mid.gTup (aCons f (aCons g aNil)) ρ) (b1 + b2) (fun d => ∃ x y, P1 x ∧ P2 y ∧ d = .tup [fz x, fz y]) := by
  have := Spec.bind (b2 := b2 + 0) (Q := fun d => ∃ x y, P1 x ∧ P2 y ∧ d = D.tup [fz x, fz y]) (f := fun x => (g ρ).bind fun y => .ret (.tup [fz x, fz y])) s fun x hx => Spec.bind s2 fun y hy => Spec.ret ⟨x, y, hx, hy, rfl⟩
  refine Spec.eq ?_ this
  unfold eCallB aCons aNil
  have bb : ∀ {α β γ : Type} (c : Comp α) (f : α → Comp β) (g : β → Comp γ), (c.bind f).bind g = c.bind fun a => (f a).bind g := by
    intro α β γ c f g
    induction c with
    | ret a => rfl
    | draw m k ih => exact congrArg (Comp.draw m) (funext ih)
    | err c x => rfl
    | stuck => rfl
  rw [bb]
  refine congrArg (Comp.bind (f ρ)) (funext fun d => ?_)
  rw [bb, bb]
  refine congrArg (Comp.bind (g ρ)) (funext fun e => ?_)
  simp only [bind_ret]
  exact if_pos (by rw [sizeLine_eq]; show 2 ≤ 16777216; decide)
theorem seq_unp {vs : List Nat} {t : Tg} {f : Mid.Env → Comp D} {g2 : Mid.Env → Comp (Fl × Mid.Env)} {ρ : Mid.Env} {b1 b2 : Nat} {R : Mid.Env → Prop} {Q : Fl × Mid.Env → Prop} (s : Spec (f (fzE ρ)) b1 (fun d => noShr d = true ∧ ∃ ds ρ', d = .tup ds ∧ t (.tup ds) ρ = some ρ' ∧ R ρ')) (h : ∀ ρ', R ρ' → Spec (g2 ρ') b2 Q) : Spec (sSeq (sUnp vs t f) g2 ρ) (b1 + b2) Q := by
  have s2 : Spec (sUnp vs t f ρ) (b1 + 0) (fun r => ∃ ρ', r = (Fl.nx, ρ') ∧ R ρ') := by
    unfold sUnp
    refine Spec.run s fun d ⟨hn, ds, ρ', e, et, hr⟩ => ?_
    subst e
    have eu : upE vs (.tup ds) ρ = ρ := by unfold upE; rw [if_pos hn]
    simp only [eu, et]
    exact Spec.ret ⟨ρ', rfl, hr⟩
  exact Spec.seq1 s2 h
theorem lt200 {x : Int} (h : x < 2 ^ 62) : x < 2 ^ 200 := Int.lt_trans h (by decide)
/-- 1 + a draw -/
theorem one_more {f g : Mid.Env → Comp D} {ρ : Mid.Env} {p : Int} (hf : f ρ = .ret .pen) (hg : g ρ = .ret (.int p)) (h : 0 < p) (h2 : p < 2 ^ 62) : Spec (eBin dAdd (eK (.int 1)) (eCall 2 F__law_take (aCons f (aCons g aNil))) ρ) 1 (fun d => ∃ n : Nat, 1 ≤ n ∧ (n : Int) ≤ p ∧ d = .int n) := by
  refine (Spec.bin (b1 := 0) (b2 := 1) (b3 := 0) (P1 := fun d => d = .int 1) (P2 := fun d => ∃ r : Int, d = .int r ∧ 0 ≤ r ∧ r < p) (Spec.k rfl) (take_ hf hg h (lt200 h2)) fun d e hd ⟨r, he, s0, s1⟩ => ?_)
  subst hd he
  exact Spec.of (a := .int (1 + r)) rfl ⟨(1 + r).toNat, by omega, by omega, by rw [Int.toNat_of_nonneg (by omega)]⟩
theorem web_of {W : List (List Int)} {n : Nat} (h1 : 1 ≤ n) (h8 : n ≤ 8) (hl : W.length = n) {B : Int} (hB : B ≤ 10 ^ 12 + 100) (hc : ∀ r ∈ W, r.length = n ∧ ∀ x ∈ r, 0 ≤ x ∧ x < B) : Web W :=
  ⟨by omega, by omega, fun r hr => by rw [(hc r hr).1, hl], fun r hr x hx => ((hc r hr).2 x hx).1, fun r hr x hx => by have := ((hc r hr).2 x hx).2; omega⟩
theorem row_add {W : List (List Int)} {q : List Int} {n : Nat} {B : Int} (hc : ∀ r ∈ W, r.length = n ∧ ∀ x ∈ r, 0 ≤ x ∧ x < B) (hq : q.length = n ∧ ∀ x ∈ q, 0 ≤ x ∧ x < B) : ∀ r ∈ W ++ [q], r.length = n ∧ ∀ x ∈ r, 0 ≤ x ∧ x < B := fun r hr => by
  rcases List.mem_append.mp hr with z | z
  · exact hc r z
  · have : r = q := by simpa using z
    rw [this]; exact hq
theorem lst_at {b : Bool} {xs : List Int} {j : Nat} (h : j < xs.length) : dIx (.lst b (xs.map D.int)) (.int j) = .ret (.int xs[j]) := by
  have ea : atI (xs.map D.int) (j : Int) = some (.int xs[j]) := by
    unfold atI
    rw [List.length_map, ixN_in (by omega) (by omega), Int.toNat_natCast]
    simp [h]
  simp only [dIx, ea]
theorem tuple_row {f : Mid.Env → Comp D} {ρ : Mid.Env} {b : Bool} {xs : List Int} (h : f ρ = .ret (.lst b (xs.map D.int))) : eCallB gTuple (aCons f aNil) ρ = .ret (rowD xs) := call1_eq h (by show Comp.ret (D.tup (fzL (xs.map D.int))) = _; rw [fzL_ints]; rfl)
theorem level_spec : Spec (F__law_level [.pen]) 200 (fun d => ∃ W, (Web W ∧ ∀ r ∈ W, ∀ x ∈ r, x < 1000) ∧ d = webD W) := by
  refine Spec.fn ?_
  unfold c__law_level
  refine Spec.mono (seq_unp (b1 := 2) (b2 := 64) (R := fun ρ => ∃ n m : Nat, 1 ≤ n ∧ n ≤ 8 ∧ 1 ≤ m ∧ m ≤ 6 ∧ ρ = [some .pen, none, none, some (.int n), some (.int m), none, none]) ((spec_tup2 (one_more (p := 8) rfl rfl (by decide) (by decide)) (one_more (p := 6) rfl rfl (by decide) (by decide))).imp fun d ⟨x, y, ⟨n, n1, n2, hx⟩, ⟨m, m1, m2, hy⟩, e⟩ => ?_) fun ρ ⟨n, m, h1, h2, h3, h4, e⟩ => ?_) (by omega)
  · subst hx hy e
    exact ⟨rfl, _, _, rfl, rfl, n, m, n1, by omega, m1, by omega, rfl⟩
  subst e
  refine seq_nil ?_
  show Spec (sSeq _ _ [some .pen, some (.lst true []), none, some (.int n), some (.int m), none, none]) _ _
  refine Spec.mono (seq_for (b2 := 0) (b := n) (n := n) (range1_eq rfl (by omega)) (fun k ρ => ∃ (W : List (List Int)) (y z : Option D), ρ = [some .pen, some (.lst true (W.map rowD)), y, some (.int n), some (.int m), z, none] ∧ W.length = k ∧ ∀ r ∈ W, r.length = n ∧ ∀ x ∈ r, 0 ≤ x ∧ x < 1000) ⟨[], none, none, rfl, rfl, fun _ h => nomatch h⟩ (fun k ρ hk ⟨W, y, z, e, hl, hc⟩ => ?_) fun ρ ⟨W, y, z, e, hl, hc⟩ => ?_) (by
    have : n * n ≤ 8 * 8 := Nat.mul_le_mul h2 h2
    omega)
  · subst e
    refine ⟨[some .pen, some (.lst true (W.map rowD)), some (.int k), some (.int n), some (.int m), z, none], rfl, ?_⟩
    have hzW : ∀ x : Option D, fzE [some .pen, some (.lst true (W.map rowD)), some (.int (k : Int)), some (.int n), some (.int m), x, none] = [some .pen, some (.lst false (W.map rowD)), some (.int k), some (.int n), some (.int m), x.map fz, none] := fun x => by
      show [some .pen, some (D.lst false (fzL (W.map rowD))), some (.int (k : Int)), some (.int (n : Int)), some (.int (m : Int)), x.map fz, none] = _
      rw [fzL_rows]
    refine Spec.mono (Spec.asgS (b1 := 1 * n) (b2 := 0) (P := fun d => ∃ xs : List Int, d = .lst true (xs.map D.int) ∧ xs.length = n ∧ ∀ x ∈ xs, 0 ≤ x ∧ x < 900) ?_ fun d ⟨xs, hd, hxl, hx⟩ => ?_) (by omega)
    · rw [hzW]
      refine (spec_compR (b := 1) (n := n) (R := fun x => 0 ≤ x ∧ x < 900) (range1_eq rfl (by omega)) (small_line (by omega)) fun j hj => ?_).imp fun d ⟨xs, e, q1, q2⟩ => ⟨by rw [e]; exact noShr_ints _, xs, e, q1, q2⟩
      refine (Spec.bin (b1 := 0) (b2 := 1) (b3 := 0) (P1 := fun d => d = .int m) (P2 := fun d => ∃ r : Int, d = .int r ∧ 0 ≤ r ∧ r ≤ 5) (Spec.var rfl rfl) (Spec.bin (b1 := 0) (b2 := 1) (b3 := 0) (P1 := fun d => d = .int 1) (P2 := fun d => ∃ r : Int, d = .int r ∧ 0 ≤ r ∧ r ≤ 4) (Spec.k rfl) (Spec.bin (b1 := 1) (b2 := 0) (b3 := 0) (P1 := fun d => ∃ r : Int, d = .int r ∧ 0 ≤ r ∧ r < 5) (P2 := fun d => ∃ r : Int, d = .int r ∧ 0 ≤ r ∧ r ≤ 1) (take_ rfl rfl (by decide) (by decide)) (Spec.of (a := .int (if decide ((0 : Int) < k) = true then 1 else 0)) (call1_eq (d := .bl (decide ((0 : Int) < k))) rfl rfl) ⟨_, rfl, by split <;> omega, by split <;> omega⟩) fun d e ⟨u, hu, u0, u1⟩ ⟨v, hv, v0, v1⟩ => ?_) fun d e hd ⟨v, hv, v0, v1⟩ => ?_) fun d e hd ⟨v, hv, v0, v1⟩ => ?_)
      · subst hu hv
        have hb := bnd_mul (A := 4) (B := 1) u0 (by omega) v0 v1
        exact Spec.of (a := .int (u * v)) (dMul_small (Nat.lt_of_lt_of_le (nat_lt (k := 10) u0 (by omega)) (Nat.pow_le_pow_right (by decide) (by decide))) (Nat.lt_of_lt_of_le (nat_lt (k := 10) v0 (by omega)) (Nat.pow_le_pow_right (by decide) (by decide)))) ⟨_, rfl, hb.1, by omega⟩
      · subst hd hv
        exact Spec.of (a := .int (1 + v)) rfl ⟨_, rfl, by omega, by omega⟩
      · subst hd hv
        have hb := bnd_mul (A := 6) (B := 5) (show (0 : Int) ≤ m by omega) (by omega) v0 v1
        exact Spec.of (a := .int (m * v)) (dMul_small (Nat.lt_of_lt_of_le (nat_lt (k := 10) (by omega) (by omega)) (Nat.pow_le_pow_right (by decide) (by decide))) (Nat.lt_of_lt_of_le (nat_lt (k := 10) v0 (by omega)) (Nat.pow_le_pow_right (by decide) (by decide)))) ⟨_, rfl, hb.1, by omega⟩
    · subst hd
      show Spec (sSeq _ _ [some .pen, some (.lst true (W.map rowD)), some (.int k), some (.int n), some (.int m), some (.lst true (xs.map D.int)), none]) _ _
      have hkx : k < xs.length := by omega
      have hz5 : (some (D.lst true (xs.map D.int))).map fz = some (.lst false (xs.map D.int)) := by
        show some (D.lst false (fzL (xs.map D.int))) = _
        rw [fzL_ints]
      refine Spec.mono (seq_set1 (b1 := 0) (b2 := 0) (c := 0) (P := fun d => d = .int (xs[k] + 1)) rfl (Spec.of (a := .int (xs[k] + 1)) ?_ ⟨rfl, rfl⟩) (Spec.of (a := .int k) ?_ ⟨k, rfl, by omega, by rw [List.length_map]; omega⟩) fun j d hj hd => ?_) (by omega)
      · rw [hzW, hz5]
        refine bin_eq (d := .int xs[k]) (e := .int 1) (bin_eq (d := .lst false (xs.map D.int)) (e := .int k) rfl rfl ?_) rfl rfl
        show dIx (.lst false (fzL (xs.map D.int))) (.int k) = _
        rw [fzL_ints]
        exact lst_at hkx
      · rfl
      · subst hd
        rw [List.length_map] at hj
        have hset : (xs.map D.int).set j (.int (xs[k] + 1)) = (xs.set j (xs[k] + 1)).map D.int := by rw [List.map_set]
        have hrow : (xs.set j (xs[k] + 1)).length = n ∧ ∀ x ∈ xs.set j (xs[k] + 1), 0 ≤ x ∧ x < 1000 := ⟨by rw [List.length_set, hxl], fun x hxm => by
          rcases List.mem_or_eq_of_mem_set hxm with q | q
          · have := hx x q; omega
          · have := hx _ (List.getElem_mem hkx); omega⟩
        rw [hset]
        generalize xs.set j (xs[k] + 1) = ys at hrow
        show Spec (sApp 1 [5] _ [some .pen, some (.lst true (W.map rowD)), some (.int k), some (.int n), some (.int m), some (.lst true (ys.map D.int)), none]) _ _
        refine (Spec.app (b := 0) (P := fun d => d = rowD ys) rfl (by rw [List.length_map, hl]; exact small_line (by omega)) (Spec.of (a := rowD ys) ?_ ⟨noShr_ints _, rfl⟩)).imp fun r ⟨d, hd, e⟩ => ⟨_, e, W ++ [ys], some (.int k), some (.lst true (ys.map D.int)), by rw [List.map_append, hd]; rfl, by simp [hl], row_add hc hrow⟩
        have hz6 : (some (D.lst true (ys.map D.int))).map fz = some (.lst false (ys.map D.int)) := by
          show some (D.lst false (fzL (ys.map D.int))) = _
          rw [fzL_ints]
        rw [hzW, hz6]
        exact tuple_row (b := false) rfl
  · subst e
    refine ((Spec.ret_ (b := 0) (P := fun d => d = webD W) (Spec.of (a := webD W) ?_ rfl)).imp fun r ⟨d, hd, e⟩ => ⟨d, _, ⟨W, ⟨web_of h1 h2 hl (by decide) hc, fun r hr x hx => ((hc r hr).2 x hx).2⟩, hd⟩, e⟩)
    exact call1_eq (d := .lst false (W.map rowD)) (by show Comp.ret (D.lst false (fzL (W.map rowD))) = _; rw [fzL_rows]) (by show Comp.ret (D.tup (fzL (W.map rowD))) = _; rw [fzL_rows]; rfl)
end Law

namespace Law
open PySem PySem.Spec PyProof.Rows L2 Mid

theorem max2 (x y : Int) : gMax [.int x, .int y] = .ret (.int (max x y)) := by
  have e : max x y = if y > x then y else x := by split <;> omega
  rw [e]; rfl
theorem web_row {W : List (List Int)} (h : Web W) {i : Nat} (hi : i < W.length) : dIx (webD W) (.int i) = .ret (rowD W[i]) := by
  have ea : atI (W.map rowD) (i : Int) = some (rowD W[i]) := by
    unfold atI
    rw [List.length_map, ixN_in (by omega) (by omega), Int.toNat_natCast]
    simp [hi]
  unfold webD
  simp only [dIx, ea]
theorem cut_web (W : List (List Int)) (lo hi : Option Int) : dSl (webD W) lo hi = .ret (webD ((W.drop (HT.sIx W.length 0 lo)).take (HT.sIx W.length W.length hi - HT.sIx W.length 0 lo))) := by
  show Comp.ret (D.tup (Mid.cutD (W.map rowD) lo hi)) = _
  unfold Mid.cutD webD
  rw [List.length_map, List.map_take, List.map_drop]
theorem add_web {U V : List (List Int)} (h : U.length + V.length ≤ 100) : dAdd (webD U) (webD V) = .ret (webD (U ++ V)) := by
  unfold webD
  simp only [dAdd]
  rw [if_pos (by rw [List.length_map, List.length_map, sizeLine_eq]; omega), List.map_append]
theorem bent_spec {W : List (List Int)} (h : Web W) (hb : ∀ r ∈ W, ∀ x ∈ r, x < 1000) : Spec (F__law_bent [.pen, webD W]) 3 (fun d => ∃ V, Web V ∧ d = webD V) := by
  have h1 := h.one
  have h8 := h.eight
  refine Spec.fn ?_
  unfold c__law_bent
  show Spec (sSeq _ _ [some .pen, some (webD W), none, none, none]) _ _
  refine Spec.mono (seq_par (b1 := 1) (b2 := 1) (c := 1) (P1 := fun d => ∃ i : Nat, i < W.length ∧ d = .int i) (P2 := fun d => ∃ i : Nat, i < W.length ∧ d = .int i) ((take_ (m := W.length) rfl (len_web rfl) (by omega) (lt200 (by omega))).imp fun d ⟨r, e, s0, s1⟩ => ⟨by rw [e]; rfl, r.toNat, by omega, by rw [e, Int.toNat_of_nonneg s0]⟩) ((take_ (m := W.length) rfl (len_web rfl) (by omega) (lt200 (by omega))).imp fun d ⟨r, e, s0, s1⟩ => ⟨by rw [e]; rfl, r.toNat, by omega, by rw [e, Int.toNat_of_nonneg s0]⟩) fun d e ⟨i, hi, hd⟩ ⟨j, hj, he⟩ => ?_) (by omega)
  subst hd he
  show Spec (sSeq _ _ [some .pen, some (webD W), none, some (.int i), some (.int j)]) _ _
  have hrow : W[i] ∈ W := List.getElem_mem hi
  have hrl := h.sq _ hrow
  refine Spec.mono (Spec.asgS (b1 := 0) (b2 := 1) (P := fun d => d = .lst true (W[i].map D.int)) (Spec.of (a := .lst true (W[i].map D.int)) ?_ ⟨noShr_ints _, rfl⟩) fun d hd => ?_) (by omega)
  · exact call1_eq (d := rowD W[i]) (bin_eq (d := webD W) (e := .int i) rfl rfl (web_row h hi)) rfl
  subst hd
  show Spec (sSeq _ _ [some .pen, some (webD W), some (.lst true (W[i].map D.int)), some (.int i), some (.int j)]) _ _
  have hjr : j < W[i].length := by omega
  have ez : ∀ xs : List Int, fzE [some .pen, some (webD W), some (.lst true (xs.map D.int)), some (.int (i : Int)), some (.int (j : Int))] = [some .pen, some (webD W), some (.lst false (xs.map D.int)), some (.int i), some (.int j)] := fun xs => by
    show [some .pen, some (fz (webD W)), some (D.lst false (fzL (xs.map D.int))), some (.int (i : Int)), some (.int (j : Int))] = _
    rw [fzL_ints, fz_web]
  have eij : eBin dIx (eVar 2) (eVar 4) [some .pen, some (webD W), some (.lst false (W[i].map D.int)), some (.int (i : Int)), some (.int (j : Int))] = .ret (.int W[i][j]) := bin_eq (d := .lst false (W[i].map D.int)) (e := .int j) rfl rfl (by
    show dIx (.lst false (fzL (W[i].map D.int))) (.int j) = _
    rw [fzL_ints]
    exact lst_at hjr)
  have hx0 := h.pos _ hrow _ (List.getElem_mem hjr)
  have hx1 := hb _ hrow _ (List.getElem_mem hjr)
  refine Spec.mono (seq_set1 (b1 := 1) (b2 := 0) (c := 0) (P := fun d => ∃ x : Int, d = .int x ∧ 0 ≤ x ∧ x < 2000) rfl ?_ (Spec.of (a := .int j) rfl ⟨j, rfl, by omega, by rw [List.length_map]; omega⟩) fun k d hk ⟨x, hd, x0, x1⟩ => ?_) (by omega)
  · rw [ez]
    have eo : eCallB gLst (aCons (eUn dNeg (eK (.int 1))) (aCons (eK (.int 1)) (aCons (eUn dNeg (eK (.int 2))) (aCons (eK (.int 2)) (aCons (eBin dSub (eK (.int 0)) (eBin dIx (eVar 2) (eVar 4))) (aNil)))))) [some .pen, some (webD W), some (.lst false (W[i].map D.int)), some (.int (i : Int)), some (.int (j : Int))] = .ret (.lst true ([-1, 1, -2, 2, 0 - W[i][j]].map D.int)) := by
      unfold eCallB aCons aNil
      rw [show eUn dNeg (eK (.int 1)) [some .pen, some (webD W), some (.lst false (W[i].map D.int)), some (.int (i : Int)), some (.int (j : Int))] = .ret (.int (-1)) from rfl, show eUn dNeg (eK (.int 2)) [some .pen, some (webD W), some (.lst false (W[i].map D.int)), some (.int (i : Int)), some (.int (j : Int))] = .ret (.int (-2)) from rfl,
        show eBin dSub (eK (.int 0)) (eBin dIx (eVar 2) (eVar 4)) [some .pen, some (webD W), some (.lst false (W[i].map D.int)), some (.int (i : Int)), some (.int (j : Int))] = .ret (.int (0 - W[i][j])) from bin_eq (d := .int 0) rfl eij rfl]
      simp only [bind_ret, eK, fz]
      exact if_pos (by rw [sizeLine_eq]; show 5 ≤ 16777216; decide)
    have s1 : Spec (eCall 2 F__law_one (aCons (eVar 0) (aCons (eCallB gLst (aCons (eUn dNeg (eK (.int 1))) (aCons (eK (.int 1)) (aCons (eUn dNeg (eK (.int 2))) (aCons (eK (.int 2)) (aCons (eBin dSub (eK (.int 0)) (eBin dIx (eVar 2) (eVar 4))) (aNil))))))) (aNil))) [some .pen, some (webD W), some (.lst false (W[i].map D.int)), some (.int (i : Int)), some (.int (j : Int))]) 1 (fun d => ∃ x : Int, d = .int x ∧ x ≤ 2 ∧ -2000 ≤ x) := by
      refine Spec.eq (fn2_eq (F := F__law_one) (d := .pen) rfl eo (by show F__law_one [.pen, .lst false (fzL (List.map D.int _))] = _; rw [fzL_ints])) ((one_spec (xs := [-1, 1, -2, 2, 0 - W[i][j]]) (by show 0 < 5; decide) (by show 5 < 2 ^ 62; decide)).imp fun d ⟨x, hx, e⟩ => ⟨x, e, ?_⟩)
      simp only [List.mem_cons, List.not_mem_nil, or_false] at hx
      rcases hx with q | q | q | q | q <;> omega
    have s2 := Spec.bin (op := dAdd) (b1 := 0) (b2 := 1) (b3 := 0) (P1 := fun d => d = .int W[i][j]) (Q := fun d => ∃ x : Int, d = .int x ∧ x < 1100 ∧ -2000 ≤ x) (Spec.of eij rfl) s1 fun d e hd ⟨x, he, q1, q2⟩ => by
      subst hd he
      exact Spec.of (a := .int (W[i][j] + x)) rfl ⟨_, rfl, by omega, by omega⟩
    have s3 := Spec.bind (b2 := 0) (Q := fun d => noShr d = true ∧ ∃ x : Int, d = .int x ∧ 0 ≤ x ∧ x < 2000) (f := fun d => gMax [.int 0, fz d]) s2 fun d ⟨x, hd, q1, q2⟩ => by
      subst hd
      exact Spec.of (a := .int (max 0 x)) (max2 0 x) ⟨rfl, _, rfl, by omega, by omega⟩
    refine Spec.eq ?_ s3
    unfold eCallB aCons aNil
    have bb : ∀ {α β γ : Type} (c : Comp α) (f : α → Comp β) (g : β → Comp γ), (c.bind f).bind g = c.bind fun a => (f a).bind g := by
      intro α β γ c f g
      induction c with
      | ret a => rfl
      | draw m k ih => exact congrArg (Comp.draw m) (funext ih)
      | err c x => rfl
      | stuck => rfl
    simp only [eK, bind_ret]
    rw [bb, bb]
    refine congrArg (Comp.bind _) (funext fun d => ?_)
    simp only [bind_ret]
    rfl
  · subst hd
    rw [List.length_map] at hk
    have hset : (W[i].map D.int).set k (.int x) = (W[i].set k x).map D.int := by rw [List.map_set]
    have hl2 : (W[i].set k x).length = W.length := by rw [List.length_set, hrl]
    have hc2 : ∀ y ∈ W[i].set k x, 0 ≤ y ∧ y < 2000 := fun y hy => by
      rcases List.mem_or_eq_of_mem_set hy with q | q
      · have := h.pos _ hrow y q; have := hb _ hrow y q; omega
      · omega
    rw [hset]
    generalize W[i].set k x = ys at hl2 hc2
    show Spec (sRet [1, 2, 3] _ [some .pen, some (webD W), some (.lst true (ys.map D.int)), some (.int i), some (.int j)]) _ _
    have ed : (eBin dAdd (eBin dAdd (eSl dSl (eVar 1) (oNone) (oSome (eVar 3))) (eCallB Mid.gTup (aCons (eCallB gTuple (aCons (eVar 2) (aNil))) (aNil)))) (eSl dSl (eVar 1) (oSome (eBin dAdd (eVar 3) (eK (.int 1)))) (oNone))) (fzE [some .pen, some (webD W), some (.lst true (ys.map D.int)), some (.int (i : Int)), some (.int (j : Int))]) = .ret (webD (W.take i ++ [ys] ++ W.drop (i + 1))) := by
      rw [ez]
      refine bin_eq (d := webD (W.take i ++ [ys])) (e := webD (W.drop (i + 1))) (bin_eq (d := webD (W.take i)) (e := webD [ys]) ?_ ?_ (by rw [fz_web, fz_web]; exact add_web (by rw [List.length_take, List.length_singleton]; omega))) ?_ (by rw [fz_web, fz_web]; exact add_web (by rw [List.length_append, List.length_take, List.length_drop, List.length_singleton]; omega))
      · show dSl (webD W) none (some (i : Int)) = _
        rw [cut_web]
        show Comp.ret (webD ((W.drop 0).take (HT.sIx W.length W.length (some (i : Int)) - 0))) = _
        rw [HT.sIx_nat, Nat.min_eq_left (by omega)]; rfl
      · have e1 : eCallB gTuple (aCons (eVar 2) aNil) [some .pen, some (webD W), some (.lst false (ys.map D.int)), some (.int (i : Int)), some (.int (j : Int))] = .ret (rowD ys) := tuple_row (b := false) rfl
        exact call1_eq e1 (if_pos (by rw [sizeLine_eq]; show 1 ≤ 16777216; decide))
      · show dSl (webD W) (some ((i : Int) + 1)) none = _
        rw [cut_web]
        have es : ((i : Int) + 1) = ((i + 1 : Nat) : Int) := by push_cast; rfl
        rw [es, HT.sIx_nat, Nat.min_eq_left (by omega)]
        show Comp.ret (webD ((W.drop (i + 1)).take (W.length - (i + 1)))) = _
        rw [List.take_of_length_le (by rw [List.length_drop]; omega)]
    refine ((Spec.ret_ (b := 0) (P := fun d => d = webD (W.take i ++ [ys] ++ W.drop (i + 1))) (Spec.of (a := webD (W.take i ++ [ys] ++ W.drop (i + 1))) ed rfl)).imp fun r ⟨d, hd, e⟩ => ⟨d, _, ⟨_, ?_, hd⟩, e⟩)
    refine web_of (n := W.length) (B := 2000) h1 h8 (by simp only [List.length_append, List.length_take, List.length_drop, List.length_singleton]; omega) (by decide) fun r hr => ?_
    rcases List.mem_append.mp hr with q | q
    · rcases List.mem_append.mp q with q | q
      · have hm := List.mem_of_mem_take q
        exact ⟨h.sq r hm, fun y hy => ⟨h.pos r hm y hy, by have := hb r hm y hy; omega⟩⟩
      · have : r = ys := by simpa using q
        rw [this]; exact ⟨hl2, hc2⟩
    · have hm := List.mem_of_mem_drop q
      exact ⟨h.sq r hm, fun y hy => ⟨h.pos r hm y hy, by have := hb r hm y hy; omega⟩⟩
end Law

namespace Law
open PySem PySem.Spec PyProof.Rows L2 Mid

theorem bind_bind {α β γ : Type} (c : Comp α) (f : α → Comp β) (g : β → Comp γ) : (c.bind f).bind g = c.bind fun a => (f a).bind g := by
  induction c with
  | ret a => rfl
  | draw m k ih => exact congrArg (Comp.draw m) (funext ih)
  | err c x => rfl
  | stuck => rfl
theorem spec_acons {f : Mid.Env → Comp D} {fs : Mid.Env → Comp (List D)} {ρ : Mid.Env} {b1 b2 : Nat} {P : D → Prop} {R : List D → Prop} (s : Spec (f ρ) b1 P) (s2 : Spec (fs ρ) b2 R) : Spec (aCons f fs ρ) (b1 + b2) (fun ds => ∃ d r, P d ∧ R r ∧ ds = fz d :: r) :=
  Spec.bind s fun d hd => Spec.bind (b2 := 0) s2 fun r hr => Spec.ret ⟨d, r, hd, hr, rfl⟩
theorem spec_anil {ρ : Mid.Env} : Spec (aNil ρ) 0 (fun ds => ds = []) := Spec.ret rfl
theorem spec_callL {g : List D → Comp D} {fs : Mid.Env → Comp (List D)} {ρ : Mid.Env} {b1 b2 : Nat} {R : List D → Prop} {Q : D → Prop} (s : Spec (fs ρ) b1 R) (h : ∀ ds, R ds → Spec (g ds) b2 Q) : Spec (eCallB g fs ρ) (b1 + b2) Q := Spec.bind s h
theorem spec_callF {np : Nat} {F : List D → Comp D} {fs : Mid.Env → Comp (List D)} {ρ : Mid.Env} {b1 b2 : Nat} {R : List D → Prop} {Q : D → Prop} (s : Spec (fs ρ) b1 R) (h : ∀ ds, R ds → ds.length = np ∧ Spec (F ds) b2 Q) : Spec (eCall np F fs ρ) (b1 + b2) Q := Spec.bind s fun ds hd => by
  rw [if_pos (h ds hd).1]
  exact (h ds hd).2
theorem spec_if {c : Mid.Env → Comp Bool} {f g : Mid.Env → Comp D} {ρ : Mid.Env} {b1 b2 : Nat} {Q : D → Prop} (s : Spec (c ρ) b1 (fun _ => True)) (h1 : Spec (f ρ) b2 Q) (h2 : Spec (g ρ) b2 Q) : Spec (eIf c f g ρ) (b1 + b2) Q := Spec.bind s fun b _ => by
  cases b with
  | true => exact h1
  | false => exact h2
theorem spec_or {c c' : Mid.Env → Comp Bool} {ρ : Mid.Env} {b1 b2 : Nat} (s : Spec (c ρ) b1 (fun _ => True)) (s2 : Spec (c' ρ) b2 (fun _ => True)) : Spec (bOr c c' ρ) (b1 + b2) (fun _ => True) := Spec.bind s fun b _ => by
  cases b with
  | true => exact (Spec.ret trivial).mono (Nat.zero_le _)
  | false => exact s2
theorem spec_bof {f : Mid.Env → Comp D} {ρ : Mid.Env} {b : Nat} (s : Spec (f ρ) b (fun d => ∃ v, d = .bl v)) : Spec (bOf f ρ) b (fun _ => True) := Spec.bind (b2 := 0) s fun d ⟨v, e⟩ => by
  subst e
  exact Spec.ret trivial
theorem web_spec : Spec (F__law_web [.pen, .int 4, .int 3]) 600 (fun d => ∃ W, Web W ∧ d = webD W) := by
  refine Spec.fn ?_
  unfold c__law_web
  show Spec (sSeq _ _ [some .pen, some (.int 4), some (.int 3), none, none, none, none, none, none, none]) _ _
  refine Spec.mono (Spec.asgS (b1 := 1) (b2 := 599) (P := fun d => ∃ n : Nat, 1 ≤ n ∧ n ≤ 8 ∧ d = .int n) ((one_more (p := 4) rfl rfl (by decide) (by decide)).imp fun d ⟨n, n1, n2, e⟩ => ⟨by rw [e]; rfl, n, n1, by omega, e⟩) fun d ⟨n, h1, h2, hd⟩ => ?_) (by omega)
  subst hd
  show Spec (sSeq _ _ [some .pen, some (.int 4), some (.int 3), some (.int n), none, none, none, none, none, none]) _ _
  refine Spec.mono (seq_par (b1 := 1) (b2 := 0) (c := 560) (P1 := fun d => ∃ t : Int, d = .int t) (P2 := fun d => d = .lst true []) ((take_ (m := 4) rfl rfl (by decide) (by decide)).imp fun d ⟨r, e, _, _⟩ => ⟨by rw [e]; rfl, r, e⟩) (Spec.of (a := .lst true []) nil_eq ⟨rfl, rfl⟩) fun d e ⟨t, hd⟩ he => ?_) (by omega)
  subst hd he
  show Spec (sSeq _ _ [some .pen, some (.int 4), some (.int 3), some (.int n), none, some (.int t), some (.lst true []), none, none, none]) _ _
  refine Spec.mono (seq_for (b2 := 0) (b := 7 * n) (n := n) (range1_eq rfl (by omega)) (fun k ρ => ∃ (W : List (List Int)) (y4 y7 y8 y9 : Option D), ρ = [some .pen, some (.int 4), some (.int 3), some (.int n), y4, some (.int t), some (.lst true (W.map rowD)), y7, y8, y9] ∧ W.length = k ∧ ∀ r ∈ W, r.length = n ∧ ∀ x ∈ r, 0 ≤ x ∧ x < 10 ^ 12 + 100) ⟨[], none, none, none, none, rfl, rfl, fun _ h => nomatch h⟩ (fun k ρ hk ⟨W, y4, y7, y8, y9, e, hl, hc⟩ => ?_) fun ρ ⟨W, y4, y7, y8, y9, e, hl, hc⟩ => ?_) (by
    have : n * n ≤ 8 * 8 := Nat.mul_le_mul h2 h2
    rw [Nat.mul_assoc]
    omega)
  · subst e
    refine ⟨[some .pen, some (.int 4), some (.int 3), some (.int n), some (.int k), some (.int t), some (.lst true (W.map rowD)), y7, y8, y9], rfl, ?_⟩
    refine seq_nil ?_
    show Spec (sSeq _ _ [some .pen, some (.int 4), some (.int 3), some (.int n), some (.int k), some (.int t), some (.lst true (W.map rowD)), some (.lst true []), y8, y9]) _ _
    refine Spec.mono (seq_for (b2 := 0) (b := 5) (n := n) (range1_eq rfl (by omega)) (fun j ρ => ∃ (xs : List Int) (y8 y9 : Option D), ρ = [some .pen, some (.int 4), some (.int 3), some (.int n), some (.int k), some (.int t), some (.lst true (W.map rowD)), some (.lst true (xs.map D.int)), y8, y9] ∧ xs.length = j ∧ ∀ x ∈ xs, 0 ≤ x ∧ x < 10 ^ 12 + 100) ⟨[], y8, y9, rfl, rfl, fun _ h => nomatch h⟩ (fun j ρ hj ⟨xs, y8, y9, e, hxl, hx⟩ => ?_) fun ρ ⟨xs, y8, y9, e, hxl, hx⟩ => ?_) (by omega)
    · subst e
      refine ⟨[some .pen, some (.int 4), some (.int 3), some (.int n), some (.int k), some (.int t), some (.lst true (W.map rowD)), some (.lst true (xs.map D.int)), some (.int j), y9], rfl, ?_⟩
      have tk : Spec (eCall 2 F__law_take (aCons (eVar 0) (aCons (eBin dAdd (eVar 2) (eK (.int 1))) (aNil))) (fzE [some .pen, some (.int 4), some (.int 3), some (.int n), some (.int k), some (.int t), some (.lst true (W.map rowD)), some (.lst true (xs.map D.int)), some (.int j), y9])) 1 (fun d => ∃ r : Int, d = .int r ∧ 0 ≤ r ∧ r < 4) := take_ rfl rfl (by decide) (by decide)
      refine Spec.mono (Spec.asgS (b1 := 4) (b2 := 1) (P := fun d => ∃ v : Int, d = .int v ∧ 0 ≤ v ∧ v < 4) ?_ fun d ⟨v, hd, v0, v1⟩ => ?_) (by omega)
      · refine Spec.mono (spec_callF (b1 := 3) (b2 := 1) (R := fun ds => ∃ zs : List Int, ds = [.pen, .lst false (zs.map D.int)] ∧ zs.length = 4 ∧ ∀ z ∈ zs, 0 ≤ z ∧ z < 4) ?_ fun ds ⟨zs, e, hz, hzb⟩ => ?_) (by omega)
        · refine Spec.mono ((spec_acons (P := fun d => d = .pen) (Spec.var rfl rfl) (spec_acons (P := fun d => ∃ zs : List Int, d = .lst true (zs.map D.int) ∧ zs.length = 4 ∧ ∀ z ∈ zs, 0 ≤ z ∧ z < 4) (b1 := 3) (spec_callL (b1 := 3) (b2 := 0) (spec_acons tk (spec_acons tk (spec_acons (P := fun d => d = .int 0) (Spec.k rfl) (spec_acons tk spec_anil)))) fun ds hds => ?_) spec_anil)).imp fun ds hds => ?_) (by omega)
          · obtain ⟨_, _, ⟨a, rfl, a0, a1⟩, ⟨_, _, ⟨b, rfl, b0, b1⟩, ⟨_, _, rfl, ⟨_, _, ⟨c, rfl, c0, c1⟩, rfl, rfl⟩, rfl⟩, rfl⟩, rfl⟩ := hds
            refine Spec.of (a := .lst true ([a, b, 0, c].map D.int)) (if_pos (by rw [sizeLine_eq]; show 4 ≤ 16777216; decide)) ⟨_, rfl, rfl, fun z hz => ?_⟩
            simp only [List.mem_cons, List.not_mem_nil, or_false] at hz
            rcases hz with q | q | q | q <;> omega
          · obtain ⟨_, _, rfl, ⟨_, _, ⟨zs, rfl, hz, hzb⟩, rfl, rfl⟩, rfl⟩ := hds
            exact ⟨zs, by show [D.pen, D.lst false (fzL (zs.map D.int))] = _; rw [fzL_ints], hz, hzb⟩
        · subst e
          exact ⟨rfl, (one_spec (by omega) (by omega)).imp fun d ⟨x, hx, e⟩ => ⟨by rw [e]; rfl, x, e, (hzb x hx).1, (hzb x hx).2⟩⟩
      · subst hd
        show Spec (sApp 7 [0, 5, 9] _ [some .pen, some (.int 4), some (.int 3), some (.int n), some (.int k), some (.int t), some (.lst true (W.map rowD)), some (.lst true (xs.map D.int)), some (.int j), some (.int v)]) _ _
        refine (Spec.app (b := 1) (P := fun d => ∃ x : Int, d = .int x ∧ 0 ≤ x ∧ x < 10 ^ 12 + 100) rfl (by rw [List.length_map]; exact small_line (by omega)) ?_).imp fun r ⟨d, ⟨x, hd, x0, x1⟩, e⟩ => ⟨_, e, xs ++ [x], some (.int j), some (.int v), by rw [List.map_append, hd]; rfl, by simp [hxl], fun y hy => by
          rcases List.mem_append.mp hy with q | q
          · exact hx y q
          · have : y = x := by simpa using q
            rw [this]; exact ⟨x0, x1⟩⟩
        refine spec_if (b1 := 1) (b2 := 0) (spec_or (b1 := 0) (b2 := 1) (Spec.of (a := decide ((0 : Int) < t)) rfl trivial) (spec_bof (Spec.bin (b1 := 1) (b2 := 0) (b3 := 0) (P2 := fun d => d = .int 0) (take_ (m := 9) rfl rfl (by decide) (by decide)) (Spec.k rfl) fun d e ⟨r, hd, _, _⟩ he => ?_))) (Spec.of (a := .int v) rfl ⟨rfl, v, rfl, v0, by omega⟩) (Spec.of (a := .int (10 ^ 12 + v)) ?_ ⟨rfl, _, rfl, by omega, by omega⟩)
        · subst hd he
          exact Spec.of (a := .bl (decide ((0 : Int) < r))) rfl ⟨_, rfl⟩
        · exact bin_eq (d := .int (10 ^ 12)) (e := .int v) (bin_eq (d := .int 10) (e := .int 12) rfl rfl (dPow_small (k := 12) (by decide) (by decide))) rfl rfl
    · subst e
      refine (Spec.app (b := 0) (P := fun d => d = rowD xs) rfl (by rw [List.length_map, hl]; exact small_line (by omega)) (Spec.of (a := rowD xs) ?_ ⟨noShr_ints _, rfl⟩)).imp fun r ⟨d, hd, e⟩ => ⟨_, e, W ++ [xs], some (.int k), some (.lst true (xs.map D.int)), y8, y9, by rw [List.map_append, hd]; rfl, by simp [hl], row_add hc ⟨hxl, hx⟩⟩
      refine tuple_row (b := false) (xs := xs) ?_
      show Comp.ret (D.lst false (fzL (xs.map D.int))) = _
      rw [fzL_ints]
  · subst e
    refine ((Spec.ret_ (b := 0) (P := fun d => d = webD W) (Spec.of (a := webD W) ?_ rfl)).imp fun r ⟨d, hd, e⟩ => ⟨d, _, ⟨W, web_of h1 h2 hl (by decide) hc, hd⟩, e⟩)
    exact call1_eq (d := .lst false (W.map rowD)) (by show Comp.ret (D.lst false (fzL (W.map rowD))) = _; rw [fzL_rows]) (by show Comp.ret (D.tup (fzL (W.map rowD))) = _; rw [fzL_rows]; rfl)
end Law

namespace Law
open PySem PySem.Spec PyProof.Rows L2 Mid

def tabD (T : List (List Int)) : D := .lst true (T.map (lstD true))
structure Tab (n : Nat) (B : Int) (T : List (List Int)) : Prop where
  len : T.length = n
  row : ∀ r ∈ T, r.length = n
  bnd : ∀ r ∈ T, ∀ x ∈ r, 0 ≤ x ∧ x < B
theorem Tab.mono {n : Nat} {B C : Int} {T : List (List Int)} (t : Tab n B T) (h : B ≤ C) : Tab n C T := ⟨t.len, t.row, fun r hr x hx => by have := t.bnd r hr x hx; omega⟩
theorem Tab.own {n : Nat} {B : Int} {T : List (List Int)} (t : Tab n B T) : ∀ x ∈ T.map (lstD true), ∃ ys, x = .lst true ys ∧ ys.length = n := fun x hx => by
  obtain ⟨r, hr, rfl⟩ := List.mem_map.mp hx
  exact ⟨r.map D.int, rfl, by rw [List.length_map]; exact t.row r hr⟩
theorem Tab.put {n : Nat} {B C : Int} {T : List (List Int)} (t : Tab n B T) {j k : Nat} {ys : List D} {x : Int} (e : (T.map (lstD true))[j]? = some (.lst true ys)) (x0 : 0 ≤ x) (x1 : x < C) (h : B ≤ C) : ∃ T', Tab n C T' ∧ (T.map (lstD true)).set j (.lst true (ys.set k (.int x))) = T'.map (lstD true) := by
  have hj : j < T.length := by
    have := (List.getElem?_eq_some_iff.mp e).1
    simpa using this
  have ey : ys = T[j].map D.int := by
    rw [List.getElem?_map, List.getElem?_eq_getElem hj] at e
    injection e with e
    injection e with _ e
    exact e.symm
  subst ey
  refine ⟨T.set j (T[j].set k x), ⟨by rw [List.length_set]; exact t.len, fun r hr => ?_, fun r hr y hy => ?_⟩, ?_⟩
  · rcases List.mem_or_eq_of_mem_set hr with q | q
    · exact t.row r q
    · rw [q, List.length_set]; exact t.row _ (List.getElem_mem hj)
  · rcases List.mem_or_eq_of_mem_set hr with q | q
    · have := t.bnd r q y hy; omega
    · rw [q] at hy
      rcases List.mem_or_eq_of_mem_set hy with z | z
      · have := t.bnd _ (List.getElem_mem hj) y z; omega
      · omega
  · rw [List.map_set]
    unfold lstD
    rw [List.map_set]
theorem low_at {T : List (List Int)} {f g : Mid.Env → Comp D} {ρ : Mid.Env} {i j : Nat} (hi : i < T.length) (hj : j < T[i].length) {h_ : Mid.Env → Comp D} (h1 : h_ ρ = .ret (lowD false T)) (hf : f ρ = .ret (.int i)) (hg : g ρ = .ret (.int j)) : eBin dIx (eBin dIx h_ f) g ρ = .ret (.int T[i][j]) := by
  refine bin_eq (d := lstD false T[i]) (e := .int j) (bin_eq h1 hf ?_) hg ?_
  · rw [fz_low]
    have ea : atI (T.map (lstD false)) (i : Int) = some (lstD false T[i]) := by
      unfold atI
      rw [List.length_map, ixN_in (by omega) (by omega), Int.toNat_natCast]
      simp [hi]
    unfold lowD
    show dIx (.lst false (T.map (lstD false))) (.int i) = _
    simp only [dIx, ea]
  · rw [fz_lst]
    exact lst_at hj
theorem noShr_tab (T : List (List Int)) : noShr (tabD T) = true := noShr_low T
theorem fz_tab (T : List (List Int)) : fz (tabD T) = lowD false T := fz_low true T
theorem rich_spec : Spec (F__law_rich [.pen, .int 5, .int 3]) 300 (fun d => ∃ W, Web W ∧ d = webD W) := by
  refine Spec.fn ?_
  unfold c__law_rich
  show Spec (sSeq _ _ [some .pen, some (.int 5), some (.int 3), none, none, none, none, none, none, none, none]) _ _
  refine Spec.mono (Spec.asgS (b1 := 1) (b2 := 299) (P := fun d => ∃ n : Nat, 1 ≤ n ∧ n ≤ 8 ∧ d = .int n) ((one_more (p := 5) rfl rfl (by decide) (by decide)).imp fun d ⟨n, n1, n2, e⟩ => ⟨by rw [e]; rfl, n, n1, by omega, e⟩) fun d ⟨n, h1, h2, hd⟩ => ?_) (by omega)
  subst hd
  show Spec (sSeq _ _ [some .pen, some (.int 5), some (.int 3), some (.int n), none, none, none, none, none, none, none]) _ _
  refine Spec.mono (seq_par (b1 := 1 * n) (b2 := 1) (c := 280) (P1 := fun d => ∃ cs : List Int, d = .lst true (cs.map D.int) ∧ cs.length = n ∧ ∀ c ∈ cs, 0 ≤ c ∧ c < n) (P2 := fun d => ∃ t : Int, d = .int t ∧ 0 ≤ t ∧ t < 4) (Spec.eq (fn2_eq (F := F__law_drawn) (d := .pen) (e := .int n) rfl rfl rfl) ((drawn_spec (by omega)).imp fun d ⟨cs, e, q⟩ => ⟨by rw [e]; exact noShr_ints _, cs, e, q⟩)) ((take_ (m := 4) rfl rfl (by decide) (by decide)).imp fun d ⟨r, e, q⟩ => ⟨by rw [e]; rfl, r, e, q⟩) fun d e ⟨cs, hd, hcl, hcb⟩ ⟨t, he, t0, t1⟩ => ?_) (by omega)
  subst hd he
  show Spec (sSeq _ _ [some .pen, some (.int 5), some (.int 3), some (.int n), none, none, none, some (.lst true (cs.map D.int)), some (.int t), none, none]) _ _
  -- the ring, read
  have rd : ∀ (f : Mid.Env → Comp D) (a b c d e g h : Option D) (k : Nat), k < n → f (fzE [a, b, c, d, e, g, h, some (.lst true (cs.map D.int)), some (.int t), none, none]) = .ret (.int k) → Spec (eBin dIx (eVar 7) f (fzE [a, b, c, d, e, g, h, some (.lst true (cs.map D.int)), some (.int t), none, none])) 0 (fun d => ∃ z : Int, d = .int z ∧ 0 ≤ z ∧ z < n) := fun f a b c d e g h k hk hf => by
    have hkc : k < cs.length := by omega
    refine Spec.of (a := .int cs[k]) (bin_eq (d := .lst false (cs.map D.int)) (e := .int k) ?_ hf ?_) ⟨_, rfl, hcb _ (List.getElem_mem hkc)⟩
    · show Comp.ret (D.lst false (fzL (cs.map D.int))) = _
      rw [fzL_ints]
    · show dIx (.lst false (fzL (cs.map D.int))) (.int k) = _
      rw [fzL_ints]
      exact lst_at hkc
  refine Spec.mono (Spec.asgS (b1 := 0) (b2 := 270) (P := fun d => ∃ T, Tab n 1 T ∧ d = tabD T) ?_ fun d ⟨T, hT, hd⟩ => ?_) (by omega)
  · have er : ∀ ρ : Mid.Env, ρ[3]? = some (some (.int (n : Int))) → eBin dMul (eCallB gLst (aCons (eK (.int 0)) (aNil))) (eVar 3) ρ = .ret (lstD true (List.replicate n 0)) := fun ρ hρ => bin_eq (d := .lst true [.int 0]) (e := .int n) rfl (by unfold eVar; rw [hρ]) (mul_lst false (by omega))
    have : eComp [5] (iOf gRange1 (aCons (eVar 3) (aNil))) (tName 5) (cAll) (eBin dMul (eCallB gLst (aCons (eK (.int 0)) (aNil))) (eVar 3)) (fzE [some .pen, some (.int 5), some (.int 3), some (.int n), none, none, none, some (.lst true (cs.map D.int)), some (.int t), none, none]) = .ret (tabD ((List.range n).map fun _ => List.replicate n 0)) := by
      unfold tabD
      rw [List.map_map]
      refine comp_all (fun k : Nat => D.int (0 + (k : Int))) (lstD true ∘ fun _ => List.replicate n 0) (List.range n) ?_ (by rw [List.length_range]; exact small_line (by omega)) fun k hk => ⟨_, rfl, er _ rfl⟩
      rw [← rangeL_map n 0]
      exact range1_eq rfl (by omega)
    refine Spec.of this ⟨noShr_tab _, _, ⟨by simp, fun r hr => ?_, fun r hr x hx => ?_⟩, rfl⟩
    · obtain ⟨_, _, rfl⟩ := List.mem_map.mp hr
      simp
    · obtain ⟨_, _, rfl⟩ := List.mem_map.mp hr
      have := List.eq_of_mem_replicate hx
      omega
  subst hd
  show Spec (sSeq _ _ [some .pen, some (.int 5), some (.int 3), some (.int n), some (tabD T), none, none, some (.lst true (cs.map D.int)), some (.int t), none, none]) _ _
  refine Spec.mono (seq_for (b2 := 260) (b := 0) (n := n) (range1_eq rfl (by omega)) (fun k ρ => ∃ (T : List (List Int)) (y5 : Option D), ρ = [some .pen, some (.int 5), some (.int 3), some (.int n), some (tabD T), y5, none, some (.lst true (cs.map D.int)), some (.int t), none, none] ∧ Tab n 2 T) ⟨T, none, rfl, hT.mono (by decide)⟩ (fun k ρ hk ⟨T, y5, e, hT⟩ => ?_) fun ρ ⟨T, y5, e, hT⟩ => ?_) (by omega)
  · subst e
    refine ⟨[some .pen, some (.int 5), some (.int 3), some (.int n), some (tabD T), some (.int k), none, some (.lst true (cs.map D.int)), some (.int t), none, none], rfl, ?_⟩
    have hk1 : (k + 1) % n < n := Nat.mod_lt _ (by omega)
    refine (Spec.set2 (b1 := 0) (b2 := 0) (b3 := 0) (P := fun d => d = .int 1) (xs := T.map (lstD true)) (m := n) rfl (Spec.of (a := .int 1) rfl ⟨rfl, rfl⟩) ((rd _ _ _ _ _ _ _ _ k hk rfl).imp fun d q => by rw [List.length_map, hT.len]; exact q) hT.own (rd _ _ _ _ _ _ _ _ ((k + 1) % n) hk1 ?_)).imp fun r ⟨j, k2, ys, d, e1, e2, e3, e⟩ => ?_
    · refine bin_eq (d := .int (k + 1)) (e := .int n) (bin_eq (d := .int k) (e := .int 1) rfl rfl rfl) rfl ((dMod_pos (by omega)).trans ?_)
      congr 2
    · subst e3
      obtain ⟨T', hT', eT⟩ := hT.put (k := k2) e1 (x := 1) (C := 2) (by decide) (by decide) (Int.le_refl _)
      exact ⟨_, e, T', some (.int k), by rw [eT]; rfl, hT'⟩
  · subst e
    refine Spec.mono (seq_for (b2 := 10) (b := 2 * n) (n := n) (range1_eq rfl (by omega)) (fun k ρ => ∃ (T : List (List Int)) (y5 y6 y9 : Option D), ρ = [some .pen, some (.int 5), some (.int 3), some (.int n), some (tabD T), y5, y6, some (.lst true (cs.map D.int)), some (.int t), y9, none] ∧ Tab n (2 + 100 * k) T) ⟨T, y5, none, none, rfl, hT.mono (by omega)⟩ (fun k ρ hk ⟨T, y5, y6, y9, e, hT⟩ => ?_) fun ρ ⟨T, y5, y6, y9, e, hT⟩ => ?_) (by
      have : n * n ≤ 8 * 8 := Nat.mul_le_mul h2 h2
      rw [Nat.mul_assoc]
      omega)
    · subst e
      refine ⟨[some .pen, some (.int 5), some (.int 3), some (.int n), some (tabD T), y5, some (.int k), some (.lst true (cs.map D.int)), some (.int t), y9, none], rfl, ?_⟩
      refine Spec.mono ((Spec.forR (b := 2) (n := n) (range1_eq rfl (by omega)) (fun j ρ => ∃ (T : List (List Int)) (y9 : Option D), ρ = [some .pen, some (.int 5), some (.int 3), some (.int n), some (tabD T), y5, some (.int k), some (.lst true (cs.map D.int)), some (.int t), y9, none] ∧ Tab n (2 + 100 * k + 10 * j) T) ⟨T, y9, rfl, hT.mono (by omega)⟩ (fun j ρ hj ⟨T, y9, e, hT⟩ => ?_)).imp fun r ⟨ρ2, er, T, y9, e, hT⟩ => ⟨ρ2, er, T, y5, some (.int k), y9, e, hT.mono (by omega)⟩) (Nat.le_refl _)
      subst e
      refine ⟨[some .pen, some (.int 5), some (.int 3), some (.int n), some (tabD T), y5, some (.int k), some (.lst true (cs.map D.int)), some (.int t), some (.int j), none], rfl, ?_⟩
      have hi : k < T.length := by rw [hT.len]; exact hk
      have hj2 : j < T[k].length := by rw [hT.row _ (List.getElem_mem hi)]; exact hj
      refine Spec.mono (Spec.if_ (b1 := 1) (b2 := 1) (spec_bof (Spec.bin (b1 := 1) (b2 := 0) (b3 := 0) (P2 := fun d => d = .int 0) (take_ (m := 1 + t) rfl rfl (by omega) (lt200 (by omega))) (Spec.k rfl) fun d e ⟨r, hd, _, _⟩ he => ?_)) ?_ ?_) (by omega)
      · subst hd he
        exact Spec.of (a := .bl (decide (r = 0))) rfl ⟨_, rfl⟩
      · refine Spec.mono ((Spec.set2 (b1 := 1) (b2 := 0) (b3 := 0) (P := fun d => ∃ x : Int, d = .int x ∧ 0 ≤ x ∧ x < 2 + 100 * k + 10 * (j + 1)) (xs := T.map (lstD true)) (m := n) rfl ?_ (Spec.of (a := .int k) rfl ⟨k, rfl, by omega, by rw [List.length_map]; omega⟩) hT.own (Spec.of (a := .int j) rfl ⟨j, rfl, by omega, by omega⟩)).imp fun r ⟨j2, k2, ys, d, e1, e2, ⟨x, e3, x0, x1⟩, e⟩ => ?_) (by omega)
        · refine (Spec.bin (b1 := 0) (b2 := 1) (b3 := 0) (P1 := fun d => d = .int T[k][j]) (P2 := fun d => ∃ r : Int, d = .int r ∧ 0 ≤ r ∧ r < 4) (Spec.of (low_at (T := T) hi hj2 (h_ := eVar 4) (by show Comp.ret (fz (tabD T)) = _; rw [fz_tab]) rfl rfl) rfl) (take_ (m := 4) rfl rfl (by decide) (by decide)) fun d e hd ⟨r, he, s0, s1⟩ => ?_)
          subst hd he
          have hb := hT.bnd _ (List.getElem_mem hi) _ (List.getElem_mem hj2)
          exact Spec.of (a := .int (T[k][j] + r)) rfl ⟨rfl, _, rfl, by omega, by omega⟩
        · subst e3
          obtain ⟨T', hT', eT⟩ := hT.put (k := k2) e1 x0 x1 (by omega)
          exact ⟨_, e, T', some (.int j), by rw [eT]; rfl, hT'⟩
      · refine Spec.mono (Spec.of (a := (.nx, [some .pen, some (.int 5), some (.int 3), some (.int n), some (tabD T), y5, some (.int k), some (.lst true (cs.map D.int)), some (.int t), some (.int j), none])) rfl ⟨_, rfl, T, some (.int j), rfl, hT.mono (by omega)⟩) (by omega)
    · subst e
      have tk : ∀ a b c d, Spec (eCall 2 F__law_take (aCons (eVar 0) (aCons (eVar 3) aNil)) (fzE [some .pen, some (.int 5), some (.int 3), some (.int (n : Int)), a, b, c, some (.lst true (cs.map D.int)), some (.int t), d, none])) 1 (fun d => noShr d = true ∧ ∃ i : Nat, i < n ∧ d = .int i) := fun a b c d => (take_ (m := n) rfl rfl (by omega) (lt200 (by omega))).imp fun d ⟨r, e, s0, s1⟩ => ⟨by rw [e]; rfl, r.toNat, by omega, by rw [e, Int.toNat_of_nonneg s0]⟩
      refine Spec.mono (seq_par (b1 := 1) (b2 := 1) (c := 0) (tk _ _ _ _) (tk _ _ _ _) fun d e ⟨i, hi, hd⟩ ⟨j, hj, he⟩ => ?_) (by omega)
      subst hd he
      show Spec (sSeq _ _ [some .pen, some (.int 5), some (.int 3), some (.int n), some (tabD T), y5, some (.int i), some (.lst true (cs.map D.int)), some (.int t), some (.int j), none]) _ _
      have hi2 : i < T.length := by rw [hT.len]; exact hi
      have hj2 : j < T[i].length := by rw [hT.row _ (List.getElem_mem hi2)]; exact hj
      have hb := hT.bnd _ (List.getElem_mem hi2) _ (List.getElem_mem hj2)
      refine Spec.mono (seq_set2 (b1 := 0) (b2 := 0) (b3 := 0) (c := 0) (P := fun d => d = .int (T[i][j] + 1)) (xs := T.map (lstD true)) (m := n) rfl (Spec.of (a := .int (T[i][j] + 1)) ?_ ⟨rfl, rfl⟩) (Spec.of (a := .int i) rfl ⟨i, rfl, by omega, by rw [List.length_map]; omega⟩) hT.own (Spec.of (a := .int j) rfl ⟨j, rfl, by omega, by omega⟩) fun j2 k2 ys d e1 e2 e3 => ?_) (by omega)
      · exact bin_eq (d := .int T[i][j]) (e := .int 1) (low_at (T := T) hi2 hj2 (h_ := eVar 4) (by show Comp.ret (fz (tabD T)) = _; rw [fz_tab]) rfl rfl) rfl rfl
      · subst e3
        obtain ⟨T', hT', eT⟩ := hT.put (k := k2) e1 (x := T[i][j] + 1) (C := 2000) (by omega) (by omega) (by omega)
        rw [eT]
        show Spec (sRet [4] _ [some .pen, some (.int 5), some (.int 3), some (.int n), some (tabD T'), y5, some (.int i), some (.lst true (cs.map D.int)), some (.int t), some (.int j), none]) _ _
        refine ((Spec.ret_ (b := 0) (P := fun d => d = webD T') (Spec.of (a := webD T') ?_ rfl)).imp fun r ⟨d, hd, e⟩ => ⟨d, _, ⟨T', web_of h1 h2 hT'.len (B := 2000) (by decide) fun r hr => ⟨hT'.row r hr, hT'.bnd r hr⟩, hd⟩, e⟩)
        refine call1_eq (d := .lst true (T'.map rowD)) ?_ (by show Comp.ret (D.tup (fzL (T'.map rowD))) = _; rw [fzL_rows]; rfl)
        refine comp_all (lstD false) rowD T' (seq_it (d := lowD false T') (by show Comp.ret (fz (tabD T')) = _; rw [fz_tab]) (by rw [fz_low]; rfl)) (by rw [hT'.len]; exact small_line (by omega)) fun r hr => ⟨_, rfl, tuple_row (b := false) (xs := r) rfl⟩
end Law

namespace Law
open PySem PySem.Spec PyProof.Rows L2 Mid

/-! ## webs, shown -/
theorem plain_web : ∀ W : List (List Int), plainL (W.map rowD) = true
  | [] => rfl
  | r :: L => by show (plainL (r.map D.int) && plainL (L.map rowD)) = true; rw [plain_ints, plain_web L]; rfl
theorem lay_web : ∀ W : List (List Int), PyData.canLayAll0 (pyDL (W.map rowD)) = true
  | [] => rfl
  | r :: L => by show (PyData.canLayAll0 (pyDL (r.map D.int)) && PyData.canLayAll0 (pyDL (L.map rowD))) = true; rw [lay_ints, lay_web L]; rfl
theorem depth_web : ∀ W : List (List Int), PyData.depthAll (pyDL (W.map rowD)) ≤ 1
  | [] => Nat.zero_le _
  | r :: L => by
    show max (PyData.depthAll (pyDL (r.map D.int)) + 1) (PyData.depthAll (pyDL (L.map rowD))) ≤ 1
    have := depth_web L
    rw [depth_ints]
    omega
theorem ok_web (W : List (List Int)) : okD (webD W) = true := by
  show (plainL (W.map rowD) && (PyData.canLayAll0 (pyDL (W.map rowD)) && decide (PyData.depthAll (pyDL (W.map rowD)) + 1 ≤ 64))) = true
  have := depth_web W
  rw [plain_web, lay_web, decide_eq_true (by omega)]; rfl
theorem log_lt {x : Int} (h0 : 0 ≤ x) (h : x < 2 ^ 41) : x.natAbs.log2 < 41 := by
  by_cases hz : x.natAbs = 0
  · rw [hz]; decide
  · exact (Nat.log2_lt hz).mpr (nat_lt h0 h)
theorem show_ints : ∀ r : List Int, (∀ x ∈ r, 0 ≤ x ∧ x < 10 ^ 12 + 100) → PyData.showableAll (pyDL (r.map D.int)) = true ∧ PyData.intsShortAll 13 (pyDL (r.map D.int)) = true ∧ PyData.weightAll (pyDL (r.map D.int)) ≤ 50 * r.length
  | [], _ => ⟨rfl, rfl, Nat.zero_le _⟩
  | x :: r, h => by
    obtain ⟨h1, h2, h3⟩ := show_ints r fun y hy => h y (List.mem_cons_of_mem _ hy)
    obtain ⟨x0, x1⟩ := h x List.mem_cons_self
    have hlog := log_lt x0 (by omega)
    refine ⟨?_, ?_, ?_⟩
    · show (decide (x.natAbs.log2 < 1920) && PyData.showableAll (pyDL (r.map D.int))) = true
      rw [h1, decide_eq_true (by omega)]; rfl
    · show (decide ((PySem.Str.ofString (toString x)).length ≤ 13) && PyData.intsShortAll 13 (pyDL (r.map D.int))) = true
      rw [h2, decide_eq_true (toString_length_le x0 (by decide) (by omega))]; rfl
    · show (if x == 0 then 0 else x.natAbs.log2 + 1) + 1 + PyData.weightAll (pyDL (r.map D.int)) ≤ 50 * (r.length + 1)
      split <;> omega
theorem show_web {n : Nat} : ∀ W : List (List Int), (∀ r ∈ W, r.length ≤ n ∧ ∀ x ∈ r, 0 ≤ x ∧ x < 10 ^ 12 + 100) → PyData.showableAll (pyDL (W.map rowD)) = true ∧ PyData.intsShortAll 13 (pyDL (W.map rowD)) = true ∧ PyData.weightAll (pyDL (W.map rowD)) ≤ (50 * n + 1) * W.length
  | [], _ => ⟨rfl, rfl, Nat.zero_le _⟩
  | r :: W, h => by
    obtain ⟨h1, h2, h3⟩ := show_web W fun y hy => h y (List.mem_cons_of_mem _ hy)
    obtain ⟨hr, hx⟩ := h r List.mem_cons_self
    obtain ⟨g1, g2, g3⟩ := show_ints r hx
    refine ⟨?_, ?_, ?_⟩
    · show (PyData.showableAll (pyDL (r.map D.int)) && PyData.showableAll (pyDL (W.map rowD))) = true
      rw [g1, h1]; rfl
    · show (PyData.intsShortAll 13 (pyDL (r.map D.int)) && PyData.intsShortAll 13 (pyDL (W.map rowD))) = true
      rw [g2, h2]; rfl
    · show PyData.weightAll (pyDL (r.map D.int)) + 1 + PyData.weightAll (pyDL (W.map rowD)) ≤ (50 * n + 1) * (W.length + 1)
      have e := Nat.mul_succ (50 * n + 1) W.length
      have e2 : 50 * r.length ≤ 50 * n := Nat.mul_le_mul_left _ hr
      rw [show (50 * n + 1) * (W.length + 1) = (50 * n + 1) * W.length + (50 * n + 1) from e]
      omega
theorem repr_web {W : List (List Int)} (h : Web W) : ∃ s, gRepr [webD W] = .ret (.str s) := by
  have h8 := h.eight
  obtain ⟨h1, h2, h3⟩ := show_web (n := 8) W fun r hr => ⟨by have := h.sq r hr; omega, fun x hx => ⟨h.pos r hr x hx, h.low r hr x hx⟩⟩
  refine ⟨(pyD (webD W)).shown, ?_⟩
  have hw : PyData.weightAll (pyDL (W.map rowD)) ≤ 2 ^ 20 := Nat.le_trans h3 (Nat.le_trans (Nat.mul_le_mul_left _ h8) (by decide))
  have hd := depth_web W
  have hlay : PyData.layable0 (pyD (webD W)) = true := by
    show (PyData.canLayAll0 (pyDL (W.map rowD)) && decide (PyData.depthAll (pyDL (W.map rowD)) + 1 ≤ 64) && decide (PyData.weightAll (pyDL (W.map rowD)) ≤ 2 ^ 20)) = true
    rw [lay_web, decide_eq_true hw, decide_eq_true (by omega)]; rfl
  have hlen := shown_le13 hlay (show (pyD (webD W)).intsShort 13 = true from h2)
  have e : gRepr [webD W] = if okD (webD W) && (pyD (webD W)).showable && decide ((pyD (webD W)).shown.length ≤ sizeLine) then .ret (.str (pyD (webD W)).shown) else .stuck := rfl
  rw [e, ok_web, show (pyD (webD W)).showable = true from h1, decide_eq_true (by rw [sizeLine_eq]; omega)]
  exact if_pos rfl
theorem repr_of {d : D} (h1 : okD d = true) (h2 : (pyD d).showable = true) (h3 : (pyD d).shown.length ≤ sizeLine) : ∃ s, gRepr [d] = .ret (.str s) := by
  refine ⟨(pyD d).shown, ?_⟩
  simp only [gRepr]
  rw [h1, h2, decide_eq_true h3]
  exact if_pos rfl
theorem short_of {p : PyData} (h1 : PyData.layable0 p = true) (h2 : p.intsShort 13 = true) : p.shown.length ≤ sizeLine := by
  have := shown_le13 h1 h2
  rw [sizeLine_eq]
  omega
theorem repr_pair (a b : Bool) : ∃ s, gRepr [.tup [.bl a, .bl b]] = .ret (.str s) := repr_of rfl rfl (short_of rfl rfl)
theorem noShr_web : ∀ W : List (List Int), noShr (webD W) = true := fun W => by
  show noShrL (W.map rowD) = true
  induction W with
  | nil => rfl
  | cons r M ih => show (noShrL (r.map D.int) && noShrL (M.map rowD)) = true; rw [noShr_ints, ih]; rfl
theorem ne_str (s : PySem.Str) : dNe (.str s) (.str s) = .ret (.bl false) := by
  show Comp.ret (D.bl !(decide (s = s))) = _
  rw [decide_eq_true rfl]; rfl
/-! ## the law -/
def budget : Nat := 7000
theorem budget_ok : budget ≤ bigA := by unfold budget bigA; decide
theorem inner_ok {W : List (List Int)} (h : Web W) (y2 y3 y4 y5 y7 y8 : Option D) : ∃ z7 z8, sSeq (sAsg 7 [6] (eCallB gRepr (aCons (eVar 6) (aNil))))
  (sSeq (sAsg 8 [6] (eCallB Mid.gTup (aCons (eCall 1 F_is_full (aCons (eVar 6) (aNil))) (aCons (eCall 1 F_is_level (aCons (eVar 6) (aNil))) (aNil)))))
  (sIf (bOr (bOf (eBin dNe (eCallB gRepr (aCons (eVar 8) (aNil))) (eCallB gRepr (aCons (eCall 1 F__law_due (aCons (eVar 6) (aNil))) (aNil))))) (bOf (eBin dNe (eCallB gRepr (aCons (eVar 6) (aNil))) (eVar 7)))) (sRet [] (eK (.bl false))) (sNil))) [none, some .pen, y2, y3, y4, y5, some (webD W), y7, y8] = .ret (.nx, [none, some .pen, y2, y3, y4, y5, some (webD W), z7, z8]) := by
  obtain ⟨s, hs⟩ := repr_web h
  obtain ⟨s2, hs2⟩ := repr_pair (full W) (level W)
  refine ⟨some (.str s), some (.tup [.bl (full W), .bl (level W)]), ?_⟩
  rw [seq_eq (ρ' := [none, some .pen, y2, y3, y4, y5, some (webD W), some (.str s), y8]) (asg_eq (d := .str s) (call1_eq (d := webD W) rfl hs))]
  rw [seq_eq (ρ' := [none, some .pen, y2, y3, y4, y5, some (webD W), some (.str s), some (.tup [.bl (full W), .bl (level W)])]) (asg_eq (d := .tup [.bl (full W), .bl (level W)]) (tup2_eq (d := .bl (full W)) (e := .bl (level W)) (fn1_eq (d := webD W) rfl (is_full_eq h)) (fn1_eq (d := webD W) rfl (is_level_eq h))))]
  rw [if_eq (b := false) ?_]
  · rfl
  refine bor_eq (a := false) (b := false) (bof_eq (bin_eq (d := .str s2) (e := .str s2) (call1_eq (d := .tup [.bl (full W), .bl (level W)]) rfl hs2) (call1_eq (d := .tup [.bl (full W), .bl (level W)]) (fn1_eq (d := webD W) rfl (due_eq h)) hs2) (ne_str s2))) (bof_eq (bin_eq (d := .str s) (e := .str s) (call1_eq (d := webD W) rfl hs) rfl (ne_str s)))
theorem fn3_eq {F : List D → Comp D} {f g h_ : Mid.Env → Comp D} {ρ : Mid.Env} {d e k : D} {r : Comp D} (hf : f ρ = .ret d) (hg : g ρ = .ret e) (hk : h_ ρ = .ret k) (h : F [fz d, fz e, fz k] = r) : eCall 3 F (aCons f (aCons g (aCons h_ aNil))) ρ = r := by
  unfold eCall aCons aNil
  rw [hf, bind_ret, hg, bind_ret, hk, bind_ret, bind_ret, bind_ret, bind_ret, bind_ret]
  exact (if_pos rfl).trans h
def WebIs (d : D) : Prop := ∃ W, Web W ∧ d = webD W
theorem turn_ok (y2 y3 y4 y5 y6 y7 y8 : Option D) : Spec (sSeq (sAsg 3 [1] (eCall 1 F__law_level (aCons (eCall 1 F__law_anew (aCons (eVar 1) (aNil))) (aNil))))
  (sSeq (sAsg 4 [1] (eCall 3 F__law_full (aCons (eVar 1) (aCons (eK (.int 8)) (aCons (eK (.int 3)) (aNil))))))
  (sSeq (sAsg 5 [1, 3, 4] (eCallB gLst (aCons (eVar 3) (aCons (eCall 2 F__law_bent (aCons (eVar 1) (aCons (eVar 3) (aNil)))) (aCons (eVar 4) (aCons (eCall 2 F__law_bent (aCons (eVar 1) (aCons (eVar 4) (aNil)))) (aCons (eCall 3 F__law_rich (aCons (eVar 1) (aCons (eK (.int 5)) (aCons (eK (.int 3)) (aNil))))) (aNil))))))))
  (sForS [1, 5] (iSeq (eBin dAdd (eVar 5) (eCallB gLst (aCons (eCall 3 F__law_web (aCons (eVar 1) (aCons (eK (.int 4)) (aCons (eK (.int 3)) (aNil))))) (aNil))))) (tName 6) (sSeq (sAsg 7 [6] (eCallB gRepr (aCons (eVar 6) (aNil))))
  (sSeq (sAsg 8 [6] (eCallB Mid.gTup (aCons (eCall 1 F_is_full (aCons (eVar 6) (aNil))) (aCons (eCall 1 F_is_level (aCons (eVar 6) (aNil))) (aNil)))))
  (sIf (bOr (bOf (eBin dNe (eCallB gRepr (aCons (eVar 8) (aNil))) (eCallB gRepr (aCons (eCall 1 F__law_due (aCons (eVar 6) (aNil))) (aNil))))) (bOf (eBin dNe (eCallB gRepr (aCons (eVar 6) (aNil))) (eVar 7)))) (sRet [] (eK (.bl false))) (sNil)))))))
  [none, some .pen, y2, y3, y4, y5, y6, y7, y8]) 1400 (fun r => ∃ ρ2, r = (.nx, ρ2) ∧ ∃ y2 y3 y4 y5 y6 y7 y8 : Option D, ρ2 = [none, some .pen, y2, y3, y4, y5, y6, y7, y8]) := by
  refine Spec.mono (Spec.asgS (b1 := 200) (b2 := 1200) (P := fun d => ∃ W, (Web W ∧ ∀ r ∈ W, ∀ x ∈ r, x < 1000) ∧ d = webD W) ?_ fun d ⟨U, hU, hd⟩ => ?_) (by omega)
  · refine Spec.eq (fn1_eq (F := F__law_level) (d := .pen) (fn1_eq (F := F__law_anew) (d := .pen) rfl rfl) rfl) (level_spec.imp fun d ⟨W, hW, e⟩ => ⟨by rw [e]; exact noShr_web W, W, hW, e⟩)
  subst hd
  show Spec (sSeq _ _ [none, some .pen, y2, some (webD U), y4, y5, y6, y7, y8]) _ _
  refine Spec.mono (Spec.asgS (b1 := 200) (b2 := 1000) (P := fun d => ∃ W, (Web W ∧ ∀ r ∈ W, ∀ x ∈ r, x < 1000) ∧ d = webD W) ?_ fun d ⟨V, hV, hd⟩ => ?_) (by omega)
  · refine Spec.eq (fn3_eq (F := F__law_full) (d := .pen) (e := .int 8) (k := .int 3) rfl rfl rfl rfl) ((full_spec (p := 8) (most := 3) (by omega) (by omega) (by omega) (by omega)).imp fun d ⟨W, hW, e⟩ => ⟨by rw [e]; exact noShr_web W, W, hW, e⟩)
  subst hd
  show Spec (sSeq _ _ [none, some .pen, y2, some (webD U), some (webD V), y5, y6, y7, y8]) _ _
  have wi : ∀ {d : D}, WebIs d → fz d = d := fun ⟨W, _, e⟩ => by rw [e]; rfl
  have sb : ∀ (i : Nat) (W : List (List Int)), [none, some .pen, y2, some (webD U), some (webD V), y5, y6, y7, y8][i]? = some (some (webD W)) → (Web W ∧ ∀ r ∈ W, ∀ x ∈ r, x < 1000) → True := fun _ _ _ _ => trivial
  refine Spec.mono (Spec.asgS (b1 := 320) (b2 := 610) (P := fun d => ∃ es : List D, d = .lst true es ∧ es.length = 5 ∧ ∀ e ∈ es, WebIs e) ?_ fun d ⟨es, hd, hl, he⟩ => ?_) (by omega)
  · refine Spec.mono (spec_callL (b1 := 310) (b2 := 0) (Spec.mono (spec_acons (P := WebIs) (Spec.of (a := webD U) rfl ⟨U, hU.1, rfl⟩) (spec_acons (P := WebIs) (Spec.eq (fn2_eq (F := F__law_bent) (d := .pen) (e := webD U) rfl rfl rfl) (bent_spec hU.1 hU.2)) (spec_acons (P := WebIs) (Spec.of (a := webD V) rfl ⟨V, hV.1, rfl⟩) (spec_acons (P := WebIs) (Spec.eq (fn2_eq (F := F__law_bent) (d := .pen) (e := webD V) rfl rfl rfl) (bent_spec hV.1 hV.2)) (spec_acons (P := WebIs) (Spec.eq (fn3_eq (F := F__law_rich) (d := .pen) (e := .int 5) (k := .int 3) rfl rfl rfl rfl) rich_spec) spec_anil))))) (by omega)) fun ds hds => ?_) (by omega)
    obtain ⟨a, _, ha, ⟨b, _, hb, ⟨c, _, hc, ⟨d, _, hd, ⟨e, _, he, rfl, rfl⟩, rfl⟩, rfl⟩, rfl⟩, rfl⟩ := hds
    rw [wi ha, wi hb, wi hc, wi hd, wi he]
    refine Spec.of (a := .lst true [a, b, c, d, e]) (if_pos (by rw [sizeLine_eq]; show 5 ≤ 16777216; decide)) ⟨?_, _, rfl, rfl, fun x hx => ?_⟩
    · obtain ⟨A, _, rfl⟩ := ha
      obtain ⟨B, _, rfl⟩ := hb
      obtain ⟨C, _, rfl⟩ := hc
      obtain ⟨E, _, rfl⟩ := hd
      obtain ⟨F, _, rfl⟩ := he
      show (noShr (webD A) && (noShr (webD B) && (noShr (webD C) && (noShr (webD E) && (noShr (webD F) && true))))) = true
      rw [noShr_web, noShr_web, noShr_web, noShr_web, noShr_web]; rfl
    · simp only [List.mem_cons, List.not_mem_nil, or_false] at hx
      rcases hx with q | q | q | q | q <;> rw [q] <;> assumption
  subst hd
  show Spec (sForS [1, 5] _ _ _ [none, some .pen, y2, some (webD U), some (webD V), some (.lst true es), y6, y7, y8]) _ _
  unfold sForS
  have efz : ∀ {es : List D}, (∀ e ∈ es, WebIs e) → fzL es = es := by
    intro es
    induction es with
    | nil => intro _; rfl
    | cons e es ih => intro h; show fz e :: fzL es = _; rw [wi (h e List.mem_cons_self), ih fun x hx => h x (List.mem_cons_of_mem _ hx)]
  refine Spec.mono (Spec.try_ (b1 := 600) (b2 := 0) (P := fun ds => ∀ d ∈ ds, WebIs d) ?_ fun ds hds => ?_) (by omega)
  · unfold iSeq
    refine Spec.mono (Spec.bind (b1 := 600) (b2 := 0) (P := fun d => ∃ es : List D, d = .lst true es ∧ ∀ e ∈ es, WebIs e) (Spec.bin (b1 := 0) (b2 := 600) (b3 := 0) (P1 := fun d => d = .lst false es) (P2 := fun d => ∃ e, WebIs e ∧ d = .lst true [e]) (Spec.of (a := .lst false es) ?_ rfl) (spec_callL (b1 := 600) (b2 := 0) (spec_acons (P := WebIs) (Spec.eq (fn3_eq (F := F__law_web) (d := .pen) (e := .int 4) (k := .int 3) rfl rfl rfl rfl) web_spec) spec_anil) fun ds hds => ?_) fun d e hd ⟨w, hw, he2⟩ => ?_) fun d ⟨gs, hd, hg⟩ => ?_) (by omega)
    · show Comp.ret (D.lst false (fzL es)) = _
      rw [efz he]
    · obtain ⟨w, _, hw, rfl, rfl⟩ := hds
      rw [wi hw]
      exact Spec.of (a := .lst true [w]) (if_pos (by rw [sizeLine_eq]; show 1 ≤ 16777216; decide)) ⟨w, hw, rfl⟩
    · subst hd he2
      refine Spec.of (a := .lst true (es ++ [w])) ?_ ⟨_, rfl, fun x hx => ?_⟩
      · show dAdd (.lst false (fzL es)) (.lst false [fz w]) = _
        rw [efz he, wi hw]
        simp only [dAdd]
        exact if_pos (by rw [hl, sizeLine_eq]; show 6 ≤ 16777216; decide)
      · rcases List.mem_append.mp hx with q | q
        · exact he x q
        · have : x = w := by simpa using q
          rw [this]; exact hw
    · subst hd
      refine Spec.of (a := gs) ?_ hg
      show Comp.ret (fzL gs) = _
      rw [efz hg]
  · have := Spec.forL (t := tName 6) (b := 0) (Q := fun r => ∃ ρ2, r = (Fl.nx, ρ2) ∧ ∃ y2 y3 y4 y5 y6 y7 y8 : Option D, ρ2 = [none, some .pen, y2, y3, y4, y5, y6, y7, y8]) (fun ds ρ => (∀ d ∈ ds, WebIs d) ∧ ∃ y2 y3 y4 y5 y6 y7 y8 : Option D, ρ = [none, some .pen, y2, y3, y4, y5, y6, y7, y8]) (fun d ds ρ ⟨hd, y2, y3, y4, y5, y6, y7, y8, e⟩ => by
      obtain ⟨W, hW, e2⟩ := hd d List.mem_cons_self
      subst e e2
      obtain ⟨z7, z8, hz⟩ := inner_ok hW y2 y3 y4 y5 y7 y8
      exact ⟨[none, some .pen, y2, y3, y4, y5, some (webD W), y7, y8], rfl, Spec.of hz (.inl ⟨_, ⟨fun x hx => hd x (List.mem_cons_of_mem _ hx), y2, y3, y4, y5, some (webD W), z7, z8, rfl⟩, .inl rfl⟩)⟩) (fun ρ ⟨_, q⟩ => ⟨ρ, rfl, q⟩) ds _ ⟨hds, y2, some (webD U), some (webD V), some (fz (.lst true es)), y6, y7, y8, rfl⟩
    exact this.mono (by omega)
theorem good : Good c_law 9 budget := by
  have s : Spec (c_law (lawE 9)) budget (fun r => ∃ ρ2, r = (.rt (.bl true), ρ2)) := by
    unfold c_law
    show Spec (sSeq _ _ [none, some .pen, none, none, none, none, none, none, none]) _ _
    refine Spec.mono (seq_for (b2 := 0) (b := 1400) (n := 5) (range1_eq rfl (by decide)) (fun k ρ => ∃ y2 y3 y4 y5 y6 y7 y8 : Option D, ρ = [none, some .pen, y2, y3, y4, y5, y6, y7, y8]) ⟨_, _, _, _, _, _, _, rfl⟩ (fun k ρ hk ⟨y2, y3, y4, y5, y6, y7, y8, e⟩ => ?_) fun ρ ⟨y2, y3, y4, y5, y6, y7, y8, e⟩ => ?_) (by unfold budget; omega)
    · subst e
      exact ⟨_, rfl, turn_ok _ y3 y4 y5 y6 y7 y8⟩
    · exact Spec.of (a := (.rt (.bl true), ρ)) rfl ⟨ρ, rfl⟩
  exact Comp.all_mono (fun m r ⟨_, ρ2, e⟩ => by rw [e]) (fun _ _ _ q => q) (s.go budget (Nat.le_refl _))
end Law

namespace Law
open PySem PySem.Spec PyProof.Rows L2 Mid
def d_is_whole : He.DefD := ⟨("is_whole", none), "is_whole", "is_whole", defArgs st_is_whole, defBody st_is_whole, defScope st_is_whole, [], []⟩
def d_less_ones : He.DefD := ⟨("less_ones", none), "less_ones", "less_ones", defArgs st_less_ones, defBody st_less_ones, defScope st_less_ones, [], []⟩
def d__law_spread : He.DefD := ⟨("_law_spread", none), "_law_spread", "_law_spread", defArgs st__law_spread, defBody st__law_spread, defScope st__law_spread, [], []⟩
def d__law_open : He.DefD := ⟨("_law_open", none), "_law_open", "_law_open", defArgs st__law_open, defBody st__law_open, defScope st__law_open, [], []⟩
def d__law_anew : He.DefD := ⟨("_law_anew", none), "_law_anew", "_law_anew", defArgs st__law_anew, defBody st__law_anew, defScope st__law_anew, [], []⟩
def d__law_less : He.DefD := ⟨("_law_less", none), "_law_less", "_law_less", defArgs st__law_less, defBody st__law_less, defScope st__law_less, [], []⟩
def d_is_square : He.DefD := ⟨("is_square", none), "is_square", "is_square", defArgs st_is_square, defBody st_is_square, defScope st_is_square, [], []⟩
def d_is_full_by : He.DefD := ⟨("is_full_by", none), "is_full_by", "is_full_by", defArgs st_is_full_by, defBody st_is_full_by, defScope st_is_full_by, [], []⟩
def d__law_take : He.DefD := ⟨("_law_take", none), "_law_take", "_law_take", defArgs st__law_take, defBody st__law_take, defScope st__law_take, [], []⟩
def d__law_due : He.DefD := ⟨("_law_due", none), "_law_due", "_law_due", defArgs st__law_due, defBody st__law_due, defScope st__law_due, [], []⟩
def d_is_web : He.DefD := ⟨("is_web", none), "is_web", "is_web", defArgs st_is_web, defBody st_is_web, defScope st_is_web, [], []⟩
def d_is_level_by : He.DefD := ⟨("is_level_by", none), "is_level_by", "is_level_by", defArgs st_is_level_by, defBody st_is_level_by, defScope st_is_level_by, [], []⟩
def d__law_one : He.DefD := ⟨("_law_one", none), "_law_one", "_law_one", defArgs st__law_one, defBody st__law_one, defScope st__law_one, [], []⟩
def d__law_drawn : He.DefD := ⟨("_law_drawn", none), "_law_drawn", "_law_drawn", defArgs st__law_drawn, defBody st__law_drawn, defScope st__law_drawn, [], []⟩
def d__law_full : He.DefD := ⟨("_law_full", none), "_law_full", "_law_full", defArgs st__law_full, defBody st__law_full, defScope st__law_full, [], []⟩
def d__law_level : He.DefD := ⟨("_law_level", none), "_law_level", "_law_level", defArgs st__law_level, defBody st__law_level, defScope st__law_level, [], []⟩
def d_need_web : He.DefD := ⟨("need_web", none), "need_web", "need_web", defArgs st_need_web, defBody st_need_web, defScope st_need_web, [], []⟩
def d__law_web : He.DefD := ⟨("_law_web", none), "_law_web", "_law_web", defArgs st__law_web, defBody st__law_web, defScope st__law_web, [], []⟩
def d__law_rich : He.DefD := ⟨("_law_rich", none), "_law_rich", "_law_rich", defArgs st__law_rich, defBody st__law_rich, defScope st__law_rich, [], []⟩
def d__law_bent : He.DefD := ⟨("_law_bent", none), "_law_bent", "_law_bent", defArgs st__law_bent, defBody st__law_bent, defScope st__law_bent, [], []⟩
def d_is_full : He.DefD := ⟨("is_full", none), "is_full", "is_full", defArgs st_is_full, defBody st_is_full, defScope st_is_full, [], []⟩
def d_is_level : He.DefD := ⟨("is_level", none), "is_level", "is_level", defArgs st_is_level, defBody st_is_level, defScope st_is_level, [], []⟩
def d_law : He.DefD := ⟨("law", none), "law", "law", defArgs st_law, defBody st_law, defScope st_law, [], []⟩
def fn : List He.DefD := [d_is_whole, d_less_ones, d__law_spread, d__law_open, d__law_anew, d__law_less, d_is_square, d_is_full_by, d__law_take, d__law_due, d_is_web, d_is_level_by, d__law_one, d__law_drawn, d__law_full, d__law_level, d_need_web, d__law_web, d__law_rich, d__law_bent, d_is_full, d_is_level, d_law]
def fa0 : List He.Fa := [.glo "is_whole", .glo "less_ones", .glo "_law_spread", .glo "_law_open", .glo "_law_anew", .glo "_law_less", .glo "is_square", .glo "is_full_by", .glo "_law_take", .glo "_law_due", .glo "is_web", .glo "is_level_by", .glo "_law_one", .glo "_law_drawn", .glo "_law_full", .glo "_law_level", .glo "need_web", .glo "_law_web", .glo "_law_rich", .glo "_law_bent", .glo "is_full", .glo "is_level", .glo "law", .free "isinstance", .free "int", .free "bool", .free "tuple", .free "enumerate", .free "list", .free "len"]
def fa1 : List He.Fa := [.free "all", .free "min", .free "range", .free "max", .free "repr", .int "MOST_PLACES" 8]
def fa : List He.Fa := fa0 ++ fa1
def nm0 : List PySem.Str := ["RoadError", "NoWeb", "is_whole", "is_square", "less_ones", "MOST_PLACES", "is_web", "need_web", "is_full_by", "is_full", "is_level_by", "is_level", "_law_spread", "_law_open", "_law_anew", "_law_take", "_law_one", "_law_drawn", "_law_web", "_law_rich", "_law_full", "_law_less", "_law_level", "_law_bent", "_law_due"]
def nm : List PySem.Str := nm0
abbrev R : PySem.W.OpenRow := PySem.W.OpenLaw.row PySem.Challenge.rw_laidroads_k47_full_and_level
abbrev hk : PySem.W.Hook := He.hookD 4 fa fn
def ob (s : PySem.W.SharedT) : He.AlD := He.obsDG 4 fa fn (HandSHeadRun.getT s)
theorem ob_eq (s : PySem.W.SharedT) : ob s = hk.obs s.abs := He.obsDG_eq (HandSHeadRun.getT_eq s)
theorem run (w : World) : HandSHeadRun.RunEq R (PySem.W.view R.prog [31]) hk ob 4000 nm w := by
  intro os
  kernel_rfl
theorem facts (b : Nat) (hb : b ≤ bigA) (good : Good c_law 9 b) {P : Program} {w : World} {K : PySem.W.Frag} {h : Heap} {mg : Str → Option Value} {f : Addr} (X : K.In h) (G : h.Ns mainGlobals mg) (hfa : mg ("law" : Str) = some (.ref f)) (c : He.SaysD fa fn K) :
    ∃ fd : FuncData, (∀ (s : Shared) (v : Value), BindsTo s fd ⟨[v], []⟩ [("_law_script", v)]) ∧ ∀ base : Heap, K.In base → base.Ns mainGlobals mg → FnG P w K mg base 6 f fd ["_law_script"] (spLaw K) := by
  obtain ⟨fd_is_whole, F_is_whole⟩ := c.def_ 0 (d := d_is_whole) rfl
  have g_is_whole := He.glo_ok X G (c.fact 0 (f := .glo "is_whole") rfl)
  obtain ⟨fd_less_ones, F_less_ones⟩ := c.def_ 1 (d := d_less_ones) rfl
  have g_less_ones := He.glo_ok X G (c.fact 1 (f := .glo "less_ones") rfl)
  obtain ⟨fd__law_spread, F__law_spread⟩ := c.def_ 2 (d := d__law_spread) rfl
  have g__law_spread := He.glo_ok X G (c.fact 2 (f := .glo "_law_spread") rfl)
  obtain ⟨fd__law_open, F__law_open⟩ := c.def_ 3 (d := d__law_open) rfl
  have g__law_open := He.glo_ok X G (c.fact 3 (f := .glo "_law_open") rfl)
  obtain ⟨fd__law_anew, F__law_anew⟩ := c.def_ 4 (d := d__law_anew) rfl
  have g__law_anew := He.glo_ok X G (c.fact 4 (f := .glo "_law_anew") rfl)
  obtain ⟨fd__law_less, F__law_less⟩ := c.def_ 5 (d := d__law_less) rfl
  have g__law_less := He.glo_ok X G (c.fact 5 (f := .glo "_law_less") rfl)
  obtain ⟨fd_is_square, F_is_square⟩ := c.def_ 6 (d := d_is_square) rfl
  have g_is_square := He.glo_ok X G (c.fact 6 (f := .glo "is_square") rfl)
  obtain ⟨fd_is_full_by, F_is_full_by⟩ := c.def_ 7 (d := d_is_full_by) rfl
  have g_is_full_by := He.glo_ok X G (c.fact 7 (f := .glo "is_full_by") rfl)
  obtain ⟨fd__law_take, F__law_take⟩ := c.def_ 8 (d := d__law_take) rfl
  have g__law_take := He.glo_ok X G (c.fact 8 (f := .glo "_law_take") rfl)
  obtain ⟨fd__law_due, F__law_due⟩ := c.def_ 9 (d := d__law_due) rfl
  have g__law_due := He.glo_ok X G (c.fact 9 (f := .glo "_law_due") rfl)
  obtain ⟨fd_is_web, F_is_web⟩ := c.def_ 10 (d := d_is_web) rfl
  have g_is_web := He.glo_ok X G (c.fact 10 (f := .glo "is_web") rfl)
  obtain ⟨fd_is_level_by, F_is_level_by⟩ := c.def_ 11 (d := d_is_level_by) rfl
  have g_is_level_by := He.glo_ok X G (c.fact 11 (f := .glo "is_level_by") rfl)
  obtain ⟨fd__law_one, F__law_one⟩ := c.def_ 12 (d := d__law_one) rfl
  have g__law_one := He.glo_ok X G (c.fact 12 (f := .glo "_law_one") rfl)
  obtain ⟨fd__law_drawn, F__law_drawn⟩ := c.def_ 13 (d := d__law_drawn) rfl
  have g__law_drawn := He.glo_ok X G (c.fact 13 (f := .glo "_law_drawn") rfl)
  obtain ⟨fd__law_full, F__law_full⟩ := c.def_ 14 (d := d__law_full) rfl
  have g__law_full := He.glo_ok X G (c.fact 14 (f := .glo "_law_full") rfl)
  obtain ⟨fd__law_level, F__law_level⟩ := c.def_ 15 (d := d__law_level) rfl
  have g__law_level := He.glo_ok X G (c.fact 15 (f := .glo "_law_level") rfl)
  obtain ⟨fd_need_web, F_need_web⟩ := c.def_ 16 (d := d_need_web) rfl
  have g_need_web := He.glo_ok X G (c.fact 16 (f := .glo "need_web") rfl)
  obtain ⟨fd__law_web, F__law_web⟩ := c.def_ 17 (d := d__law_web) rfl
  have g__law_web := He.glo_ok X G (c.fact 17 (f := .glo "_law_web") rfl)
  obtain ⟨fd__law_rich, F__law_rich⟩ := c.def_ 18 (d := d__law_rich) rfl
  have g__law_rich := He.glo_ok X G (c.fact 18 (f := .glo "_law_rich") rfl)
  obtain ⟨fd__law_bent, F__law_bent⟩ := c.def_ 19 (d := d__law_bent) rfl
  have g__law_bent := He.glo_ok X G (c.fact 19 (f := .glo "_law_bent") rfl)
  obtain ⟨fd_is_full, F_is_full⟩ := c.def_ 20 (d := d_is_full) rfl
  have g_is_full := He.glo_ok X G (c.fact 20 (f := .glo "is_full") rfl)
  obtain ⟨fd_is_level, F_is_level⟩ := c.def_ 21 (d := d_is_level) rfl
  have g_is_level := He.glo_ok X G (c.fact 21 (f := .glo "is_level") rfl)
  obtain ⟨fd_law, F_law⟩ := c.def_ 22 (d := d_law) rfl
  have g_law := He.glo_ok X G (c.fact 22 (f := .glo "law") rfl)
  have fs : Fs mg := ⟨He.free_ok X G (c.fact 23 (f := .free "isinstance") rfl), He.free_ok X G (c.fact 24 (f := .free "int") rfl), He.free_ok X G (c.fact 25 (f := .free "bool") rfl), He.free_ok X G (c.fact 26 (f := .free "tuple") rfl), He.free_ok X G (c.fact 27 (f := .free "enumerate") rfl), He.free_ok X G (c.fact 28 (f := .free "list") rfl), He.free_ok X G (c.fact 29 (f := .free "len") rfl), He.free_ok X G (c.fact 30 (f := .free "all") rfl), He.free_ok X G (c.fact 31 (f := .free "min") rfl), He.free_ok X G (c.fact 32 (f := .free "range") rfl), He.free_ok X G (c.fact 33 (f := .free "max") rfl), He.free_ok X G (c.fact 34 (f := .free "repr") rfl), He.int_ok X G (c.fact 35 (f := .int "MOST_PLACES" 8) rfl)⟩
  have e := hfa.symm.trans g_law
  cases e
  have bd := FunD.bindsA (ps := ["_law_script"]) F_law fun _ _ _ _ _ _ us hl => match us, hl with | [_], _ => rfl
  refine ⟨fd_law, fun s v => bd s [v] rfl, fun base _ _ => ?_⟩
  have C_is_whole := a_is_whole (P := P) (w := w) (base := base) F_is_whole g_is_whole fs
  have C_less_ones := a_less_ones (P := P) (w := w) (base := base) F_less_ones g_less_ones fs
  have C__law_spread := a__law_spread (P := P) (w := w) (base := base) F__law_spread g__law_spread fs
  have C__law_open := a__law_open (P := P) (w := w) (base := base) F__law_open g__law_open fs
  have C__law_anew := a__law_anew (P := P) (w := w) (base := base) F__law_anew g__law_anew fs
  have C__law_less := a__law_less (P := P) (w := w) (base := base) F__law_less g__law_less fs
  have C_is_square := a_is_square (P := P) (w := w) (base := base) F_is_square g_is_square fs C_is_whole
  have C_is_full_by := a_is_full_by (P := P) (w := w) (base := base) F_is_full_by g_is_full_by fs C_less_ones
  have C__law_take := a__law_take (P := P) (w := w) (base := base) F__law_take g__law_take fs C__law_spread
  have C__law_due := a__law_due (P := P) (w := w) (base := base) F__law_due g__law_due fs C__law_less
  have C_is_web := a_is_web (P := P) (w := w) (base := base) F_is_web g_is_web fs C_is_square
  have C_is_level_by := a_is_level_by (P := P) (w := w) (base := base) F_is_level_by g_is_level_by fs C_less_ones C_is_full_by
  have C__law_one := a__law_one (P := P) (w := w) (base := base) F__law_one g__law_one fs C__law_take
  have C__law_drawn := a__law_drawn (P := P) (w := w) (base := base) F__law_drawn g__law_drawn fs C__law_take
  have C__law_full := a__law_full (P := P) (w := w) (base := base) F__law_full g__law_full fs C__law_take
  have C__law_level := a__law_level (P := P) (w := w) (base := base) F__law_level g__law_level fs C__law_take
  have C_need_web := a_need_web (P := P) (w := w) (base := base) F_need_web g_need_web fs C_is_web
  have C__law_web := a__law_web (P := P) (w := w) (base := base) F__law_web g__law_web fs C__law_take C__law_one
  have C__law_rich := a__law_rich (P := P) (w := w) (base := base) F__law_rich g__law_rich fs C__law_take C__law_drawn
  have C__law_bent := a__law_bent (P := P) (w := w) (base := base) F__law_bent g__law_bent fs C__law_take C__law_one
  have C_is_full := a_is_full (P := P) (w := w) (base := base) F_is_full g_is_full fs C_need_web C_is_full_by
  have C_is_level := a_is_level (P := P) (w := w) (base := base) F_is_level g_is_level fs C_need_web C_is_level_by
  exact a_law F_law fs C__law_open C__law_anew C__law_level C__law_full C__law_rich C__law_bent C_is_level C_is_full C__law_due C__law_web hb good
end Law

open PySem PySem.W PySem.Calls PyProof.Rows
theorem PySem.Challenge.cw_laidroads_k47_full_and_level_holds : PySem.Challenge.rw_laidroads_k47_full_and_level.Holds := by
  w_on; o_law
  refine HandSHeadRun.head_any (r := OpenLaw.row PySem.Challenge.rw_laidroads_k47_full_and_level) (q := view (OpenLaw.row PySem.Challenge.rw_laidroads_k47_full_and_level).prog [31]) (H := Law.hk) (ob := Law.ob) (M := 4000) (loose := Law.nm) (d := HandSHeadRun.topDef (OpenLaw.row PySem.Challenge.rw_laidroads_k47_full_and_level).prog 31) (kwd := []) Law.ob_eq
    (by kernel_rfl) (fun s => by kernel_rfl) Law.run (by kernel_rfl) (by kernel_rfl) (by kernel_rfl) (by rfl) (by first | assumption | decide +kernel) (by decide +kernel) ⟨rfl, rfl, rfl, rfl, rfl, by decide +kernel⟩ ?hw ?hc
  case hw => w_witness2
  case hc =>
    refine Mid.walk_mid (l := PySem.Challenge.rw_laidroads_k47_full_and_level) (k := 6) (x := "_law_script") rfl (by kernel_rfl) ⟨rfl, by decide, by decide⟩ ?_
    intro w mg fa h Y G hmg0
    obtain ⟨K, KX, c⟩ := Y
    have hmg : mg ("law" : PySem.Str) = some (.ref fa) := by
      have e : (HandSHeadRun.topDef (OpenLaw.row PySem.Challenge.rw_laidroads_k47_full_and_level).prog 31).name = ("law" : PySem.Str) := by kernel_rfl
      rw [← e]
      exact hmg0
    obtain ⟨fd, hb, hF⟩ := Law.facts Law.budget Law.budget_ok Law.good (P := (PySem.Challenge.rw_laidroads_k47_full_and_level).prog) (w := w) KX G hmg c
    exact ⟨K, fd, KX, hb, hF⟩

