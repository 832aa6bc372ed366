import PyProof.Rows.All
import Wide.All
import OpenK.AllK
import Wide.FinOn
import KE.KStateDown
import HandS.ForMost
import HandS.Exc
import HandS.ExcOwn
import HandS.WordsExc
import HandS.Defaults
import HandS.Flow
import HandS.IsInst
import HandS.HeadHook1
import HandS.HeadHook2
import HandS.Walk
import HandS.Zip
import KE.GoesMore
import KE.GoesEnum
import HandS.TupMul
import HandS.TupAny
import HandS.Deep
import HandS.Wide
import HandS.More
import PyProof.ReprRoads
import PyProof.WalksMore
import PyProof.MinMaxWalk
import PyProof.WalkInts
import PyProof.SumWalkG
import HandS.Conv
import HandS.SortInts
import HandS.EndBits
import HandS.Strs
import KE.DataFind
import KE.DataMinMax
import HandS.Style
import HandS.Text
import HandS.TryOnly
import KE.KItemsList
import KE.GoesZip
import HandS.Head0
import HandS.Head1
import HandS.Head2
import HandS.HeadEnd
import HandS.HeadHook3
import HandS.HeadHook4
import HandS.ExcInit
import KE.KExcIs
import HandS.List
import HandS.Dict
import KE.GoesComp
import HandS.Iter
import HandS.Sort
import PyProof.SumAny
import PyProof.Rows.StrOr
import HandS.RaiseMore
import PySem.Challenge.RW_laidroads_k05_refusals_by_hand
import PyProof.StrLawsRepr
import PyProof.Rows.StrGather
set_option Elab.async false
set_option linter.all false
set_option maxRecDepth 100000
set_option maxHeartbeats 0
namespace Mid
open PySem PySem.Spec PyProof.Rows L2
/-- whose a list is: given up (read, never written), its holder's own, lent to its holder -/
inductive Ow where
  | f | t | b
deriving DecidableEq
inductive D where
  | non | bl (b : Bool) | int (i : Int) | str (x : Str)
  | tup (xs : List D) | lst (o : Ow) (xs : List D)
  | dct (o : Ow) (ks : List Key) (xs : List D)
  /-- a pair that is unpacked at once -/
  | pr (xs : List D)
  /-- a caught error: its class, its field's name and value -/
  | exc (c : Str) (xs : List D)
  /-- an instance: its class, its fields in the class's order -/
  | obj (o : Ow) (c : Str) (xs : List D)
  /-- a def of the top -/
  | fn (x : Str)
  | pen
  | scr (ns : List Int)
mutual
def fz : D → D
  | .lst _ xs => .lst .f (fzL xs)
  | .dct _ ks xs => .dct .f ks (fzL xs)
  | .non => .non
  | .bl b => .bl b
  | .int i => .int i
  | .str x => .str x
  | .tup xs => .tup xs
  | .pr xs => .pr xs
  | .exc c xs => .exc c xs
  | .obj _ c xs => .obj .f c (fzL xs)
  | .fn x => .fn x
  | .pen => .pen
  | .scr ns => .scr ns
def fzL : List D → List D
  | [] => []
  | d :: ds => fz d :: fzL ds
end
theorem fzL_len : ∀ ds : List D, (fzL ds).length = ds.length
  | [] => rfl
  | _ :: ds => congrArg Nat.succ (fzL_len ds)
inductive Comp (α : Type) where
  | ret (a : α)
  | draw (many : Nat) (k : Nat → Comp α)
  | err (c : Str) (x : List D)
  | stuck
def Comp.bind {α β : Type} : Comp α → (α → Comp β) → Comp β
  | .ret a, f => f a
  | .draw m k, f => .draw m fun r => (k r).bind f
  | .err c x, _ => .err c x
  | .stuck, _ => .stuck
/-- each leaf, with what is left of the draws -/
def Comp.all {α : Type} (Q : Nat → α → Prop) (E : Nat → Str → List D → Prop) : Comp α → Nat → Prop
  | .ret a, n => Q n a
  | .draw many k, n => ∃ m, n = m + 1 ∧ 0 < many ∧ ∀ r, r < many → (k r).all Q E m
  | .err c x, n => E n c x
  | .stuck, _ => False
theorem Comp.all_bind {α β : Type} {Q : Nat → β → Prop} {E : Nat → Str → List D → Prop} {f : α → Comp β} : ∀ {c : Comp α} {n : Nat}, (c.bind f).all Q E n ↔ c.all (fun m a => (f a).all Q E m) E n
  | .ret a, n => Iff.rfl
  | .draw many k, n => by
    constructor
    · rintro ⟨m, e, h0, h⟩
      exact ⟨m, e, h0, fun r hr => Comp.all_bind.mp (h r hr)⟩
    · rintro ⟨m, e, h0, h⟩
      exact ⟨m, e, h0, fun r hr => Comp.all_bind.mpr (h r hr)⟩
  | .err c x, n => Iff.rfl
  | .stuck, n => Iff.rfl
theorem Comp.all_mono {α : Type} {Q Q' : Nat → α → Prop} {E E' : Nat → Str → List D → Prop} (hq : ∀ m a, Q m a → Q' m a) (he : ∀ m c x, E m c x → E' m c x) : ∀ {c : Comp α} {n : Nat}, c.all Q E n → c.all Q' E' n
  | .ret a, n, h => hq n a h
  | .draw many k, n, ⟨m, e, h0, h⟩ => ⟨m, e, h0, fun r hr => Comp.all_mono hq he (h r hr)⟩
  | .err c x, n, h => he n c x h
  | .stuck, n, h => h
abbrev Pn := Option (Addr × Addr)
def NP (PN : Pn) (a : Addr) : Prop := ∀ p c, PN = some (p, c) → a ≠ p ∧ a ≠ c
def bigA : Nat := 2 ^ 30
def bigR : Nat := 2 ^ 1200000
def PenAt (n : Nat) (H : Hp) (p c : Addr) : Prop := ∃ (cs : List Int) (at_ rest : Int), H p = some (.lst [.ref c, .int at_, .int rest]) ∧ H c = some (.lst (cs.map V.int)) ∧
  0 ≤ at_ ∧ at_ + n ≤ (bigA : Int) ∧ cs.length ≤ 12 ∧ (∀ x ∈ cs, x.natAbs < bigR) ∧ 0 ≤ rest ∧ rest.natAbs < bigR
def Pens (PN : Pn) (n : Nat) (H : Hp) : Prop := n ≤ bigA ∧ ∀ p c, PN = some (p, c) → PenAt n H p c
structure Mv (PN : Pn) (H : Hp) (PN' : Pn) (H' : Hp) : Prop where
  sub : ∀ pc, PN = some pc → PN' = some pc
  new : ∀ pc, PN' = some pc → PN = some pc ∨ (PN = none ∧ H pc.1 = none ∧ H pc.2 = none)
  ext : ∀ a o, H a = some o → NP PN a → H' a = some o
  keep : ∀ a, H' a = none → H a = none
theorem Mv.refl {PN : Pn} {H : Hp} : Mv PN H PN H := ⟨fun _ h => h, fun _ h => .inl h, fun _ _ h _ => h, fun _ h => h⟩
theorem Mv.np {PN PN' : Pn} {H H' : Hp} (m : Mv PN H PN' H') {a : Addr} (h : NP PN a) (ha : H a ≠ none) : NP PN' a := fun p c e => by
  rcases m.new _ e with z | ⟨_, z1, z2⟩
  · exact h p c z
  · exact ⟨fun q => ha (by rw [q]; exact z1), fun q => ha (by rw [q]; exact z2)⟩
theorem Mv.trans {PN PN1 PN2 : Pn} {H H1 H2 : Hp} (a : Mv PN H PN1 H1) (b : Mv PN1 H1 PN2 H2) : Mv PN H PN2 H2 where
  sub := fun pc h => b.sub pc (a.sub pc h)
  new := fun pc h => by
    rcases b.new pc h with z | ⟨z0, z1, z2⟩
    · exact a.new pc z
    · refine .inr ⟨?_, a.keep _ z1, a.keep _ z2⟩
      cases e : PN with
      | none => rfl
      | some q => rw [a.sub q e] at z0; cases z0
  ext := fun x o h n => b.ext x o (a.ext x o h n) (a.np n (by rw [h]; simp))
  keep := fun x h => a.keep x (b.keep x h)
theorem Mv.laid {PN : Pn} {H : Hp} {p : Addr} {o : HO} (hp : H p = none) : Mv PN H PN (upd H p o) where
  sub := fun _ h => h
  new := fun _ h => .inl h
  ext := fun a u h _ => by rw [upd_ne (ne_of_none h hp)]; exact h
  keep := fun a h => by
    by_cases e : a = p
    · rw [e]; exact hp
    · rw [upd_ne e] at h; exact h
theorem Pens.laid {PN : Pn} {n : Nat} {H : Hp} {p : Addr} {o : HO} (h : Pens PN n H) (hp : H p = none) : Pens PN n (upd H p o) := ⟨h.1, fun q c e => by
  obtain ⟨cs, a, r, h1, h2, h3⟩ := h.2 q c e
  exact ⟨cs, a, r, by rw [upd_ne (ne_of_none h1 hp)]; exact h1, by rw [upd_ne (ne_of_none h2 hp)]; exact h2, h3⟩⟩
theorem Pens.tracked {PN : Pn} {n : Nat} {H : Hp} (h : Pens PN n H) {a : Addr} (ha : H a = none) : NP PN a := fun p c e => by
  obtain ⟨cs, x, r, h1, h2, h3⟩ := h.2 p c e
  exact ⟨fun q => (by rw [q, h1] at ha; cases ha), fun q => (by rw [q, h2] at ha; cases ha)⟩
/-- a list that nothing changes -/
def Fzn (K : PySem.W.Frag) (H : Hp) (a : Addr) (xs : List V) : Prop := (∃ o, H a = some (.frz o (.lst xs))) ∨
  ∃ (o : Obj) (its : Array Value) (n : Nat), K.lookup a = some o ∧ o.cls = .type "list" ∧ o.dict = none ∧ o.data = .seq its n ∧ its.size ≤ sizeLine ∧ Vals xs its.toList
theorem Fzn.sq {K : PySem.W.Frag} {H : Hp} {a : Addr} {xs : List V} (h : Fzn K H a xs) : SqL K H a xs := by
  rcases h with ⟨o, h⟩ | h
  · exact .inl (.inr ⟨o, h⟩)
  · exact .inr h
/-- a tuple whose object has no dict of its own -/
def TupN (K : PySem.W.Frag) (H : Hp) (a : Addr) (xs : List V) : Prop :=
  (∃ o : Obj, H a = some (.frz o (.tup xs)) ∧ o.dict = none) ∨
    ∃ (o : Obj) (its : Array Value) (n : Nat), K.lookup a = some o ∧ o.cls = .type "tuple" ∧ o.dict = none ∧ o.data = .seq its n ∧ its.size ≤ sizeLine ∧ Vals xs its.toList
theorem TupN.sq {K : PySem.W.Frag} {H : Hp} {a : Addr} {xs : List V} (h : TupN K H a xs) : SqT K H a xs := by
  rcases h with ⟨o, h, _⟩ | ⟨o, its, n, h1, h2, _, h3⟩
  · exact .inl (.inr ⟨o, h⟩)
  · exact .inr ⟨o, its, n, h1, h2, h3⟩
/-- a caught error's object -/
def ExcAt (H : Hp) (a C : Addr) (d : Option Addr) : Prop := ∃ (o : Obj) (z : Array Value), H a = some (.frz o (.own a)) ∧ o.cls = .ref C ∧ o.dict = d ∧ o.data = .fields z
/-- the fields of the classes of these programs, in the order in which they are made -/
def flds (c : Str) : List Str :=
  if c = "Bench" then ["now", "log"] else if c = "Reducing" then ["rows", "u", "u_back", "v", "v_back"] else if c = "House" then ["kept", "things", "log", "held"] else []
mutual
inductive Rep (K : PySem.W.Frag) (PN : Pn) (H : Hp) (Z : Addr → Prop) : V → D → List Addr → Prop
  | non : Rep K PN H Z .non .non []
  | bl {b} : Rep K PN H Z (.bl b) (.bl b) []
  | int {i} : Rep K PN H Z (.int i) (.int i) []
  | str {x} : Rep K PN H Z (.str x) (.str x) []
  | tup {a vs ds} : TupN K H a vs → RepL K PN H Z vs ds [] → Rep K PN H Z (.ref a) (.tup ds) []
  | pr {a vs ds} : SqT K H a vs → RepL K PN H Z vs ds [] → Rep K PN H Z (.ref a) (.pr ds) []
  | exc0 {a c} : ExcAt H a (He.ga K c) none → Rep K PN H Z (.ref a) (.exc c []) []
  | exc1 {a c f dd v d} : ExcAt H a (He.ga K c) (some dd) → H dd = some (.xd [(f, v)]) → Z dd → Rep K PN H Z v d [] → Rep K PN H Z (.ref a) (.exc c [.str f, d]) []
  | oshr {a c dx vs ds} : H a = some (.ins (He.ga K c) dx (((flds c).take ds.length).zip vs)) → H dx = some (.own a) → ds.length ≤ (flds c).length → vs.length = ds.length → Z a → Z dx → RepL K PN H Z vs ds [] → Rep K PN H Z (.ref a) (.obj .f c ds) []
  | oown {a c dx vs ds fp o} : o ≠ .f → H a = some (.ins (He.ga K c) dx (((flds c).take ds.length).zip vs)) → H dx = some (.own a) → ds.length ≤ (flds c).length → vs.length = ds.length → RepL K PN H Z vs ds fp → Rep K PN H Z (.ref a) (.obj o c ds) (a :: dx :: fp)
  | fn {x} : Rep K PN H Z (.ref (He.ga K x)) (.fn x) []
  | shr {a vs ds} : H a = some (.lst vs) → Z a → RepL K PN H Z vs ds [] → Rep K PN H Z (.ref a) (.lst .f ds) []
  | own {a vs ds fp o} : o ≠ .f → H a = some (.lst vs) → RepL K PN H Z vs ds fp → Rep K PN H Z (.ref a) (.lst o ds) (a :: fp)
  | dshr {a ks vs ds} : Rd H a (.dK (ks.zip vs)) → ks.length = vs.length → Z a → RepL K PN H Z vs ds [] → Rep K PN H Z (.ref a) (.dct .f ks ds) []
  | down {a ks vs ds fp o} : o ≠ .f → H a = some (.dK (ks.zip vs)) → ks.length = vs.length → RepL K PN H Z vs ds fp → Rep K PN H Z (.ref a) (.dct o ks ds) (a :: fp)
  | pen {p c} : PN = some (p, c) → Rep K PN H Z (.ref p) .pen []
  | scr {a ns} : Fzn K H a (ns.map V.int) → Rep K PN H Z (.ref a) (.scr ns) []
inductive RepL (K : PySem.W.Frag) (PN : Pn) (H : Hp) (Z : Addr → Prop) : List V → List D → List Addr → Prop
  | nil : RepL K PN H Z [] [] []
  | cons {v d f vs ds g} : Rep K PN H Z v d f → RepL K PN H Z vs ds g → RepL K PN H Z (v :: vs) (d :: ds) (f ++ g)
end
/-- what a step leaves -/
structure Pres (Z : Addr → Prop) (H H' : Hp) : Prop where
  lst : ∀ a o, H a = some o → Z a → H' a = some o
  tup : ∀ a xs, H a = some (.tup xs) → H' a = some (.tup xs)
  frz : ∀ a o u, H a = some (.frz o u) → H' a = some (.frz o u)
theorem Pres.rdO {Z : Addr → Prop} {H H' : Hp} (p : Pres Z H H') {a : Addr} {u : HO} (z : Z a) (h : Rd H a u) : Rd H' a u := by
  rcases h with h | ⟨o, h⟩
  · exact .inl (p.lst _ _ h z)
  · exact .inr ⟨o, p.frz _ _ _ h⟩
theorem Pres.sqT {Z : Addr → Prop} {H H' : Hp} {K : PySem.W.Frag} (p : Pres Z H H') {a : Addr} {xs : List V} (h : SqT K H a xs) : SqT K H' a xs := by
  rcases h with (h | ⟨o, h⟩) | h
  · exact .inl (.inl (p.tup _ _ h))
  · exact .inl (.inr ⟨o, p.frz _ _ _ h⟩)
  · exact .inr h
theorem Pres.fzn {Z : Addr → Prop} {H H' : Hp} {K : PySem.W.Frag} (p : Pres Z H H') {a : Addr} {xs : List V} (h : Fzn K H a xs) : Fzn K H' a xs := by
  rcases h with ⟨o, h⟩ | h
  · exact .inl ⟨o, p.frz _ _ _ h⟩
  · exact .inr h
theorem Pres.tupN {Z : Addr → Prop} {H H' : Hp} {K : PySem.W.Frag} (p : Pres Z H H') {a : Addr} {xs : List V} (h : TupN K H a xs) : TupN K H' a xs := by
  rcases h with ⟨o, h, q⟩ | h
  · exact .inl ⟨o, p.frz _ _ _ h, q⟩
  · exact .inr h
theorem Pres.exc {Z : Addr → Prop} {H H' : Hp} (p : Pres Z H H') {a C : Addr} {d : Option Addr} (h : ExcAt H a C d) : ExcAt H' a C d := by
  obtain ⟨o, z, h, q⟩ := h
  exact ⟨o, z, p.frz _ _ _ h, q⟩
theorem Pres.trans {Z Z' : Addr → Prop} {H H1 H2 : Hp} (a : Pres Z H H1) (zz : ∀ a, Z a → Z' a) (b : Pres Z' H1 H2) : Pres Z H H2 :=
  ⟨fun x o h z => b.lst x o (a.lst x o h z) (zz x z), fun x xs h => b.tup x xs (a.tup x xs h), fun x o u h => b.frz x o u (a.frz x o u h)⟩
theorem app_nil {α : Type} {f g : List α} (h : f ++ g = []) : f = [] ∧ g = [] := by
  cases f with
  | nil => exact ⟨rfl, h⟩
  | cons a f => cases h
mutual
theorem Rep.to {K : PySem.W.Frag} {PN PN' : Pn} {H H' : Hp} {Z Z' : Addr → Prop} (pr : Pres Z H H') (pn : ∀ pc, PN = some pc → PN' = some pc) (zz : ∀ a, Z a → Z' a) : ∀ (d : D) {v : V} {fp : List Addr},
    (∀ a ∈ fp, ∀ o, H a = some o → H' a = some o) → Rep K PN H Z v d fp → Rep K PN' H' Z' v d fp
  | .non, _, _, _, .non => .non
  | .bl _, _, _, _, .bl => .bl
  | .int _, _, _, _, .int => .int
  | .str _, _, _, _, .str => .str
  | .tup ds, _, _, _, .tup h r => .tup (pr.tupN h) (RepL.to pr pn zz ds (fun _ h => nomatch h) r)
  | .pr ds, _, _, _, .pr h r => .pr (pr.sqT h) (RepL.to pr pn zz ds (fun _ h => nomatch h) r)
  | .exc _ _, _, _, _, .exc0 h => .exc0 (pr.exc h)
  | .exc _ [.str _, d], _, _, _, .exc1 h h2 z r => .exc1 (pr.exc h) (pr.lst _ _ h2 z) (zz _ z) (Rep.to pr pn zz d (fun _ h => nomatch h) r)
  | .obj _ _ ds, _, _, _, .oshr h h2 l l2 z z2 r => .oshr (pr.lst _ _ h z) (pr.lst _ _ h2 z2) l l2 (zz _ z) (zz _ z2) (RepL.to pr pn zz ds (fun _ h => nomatch h) r)
  | .obj _ _ ds, _, _, f, .oown ho h h2 l l2 r => .oown ho (f _ List.mem_cons_self _ h) (f _ (List.mem_cons_of_mem _ List.mem_cons_self) _ h2) l l2 (RepL.to pr pn zz ds (fun a ha => f a (List.mem_cons_of_mem _ (List.mem_cons_of_mem _ ha))) r)
  | .fn _, _, _, _, .fn => .fn
  | .lst _ ds, _, _, _, .shr h z r => .shr (pr.lst _ _ h z) (zz _ z) (RepL.to pr pn zz ds (fun _ h => nomatch h) r)
  | .lst _ ds, _, _, f, .own ho h r => .own ho (f _ List.mem_cons_self _ h) (RepL.to pr pn zz ds (fun a ha => f a (List.mem_cons_of_mem _ ha)) r)
  | .dct _ _ ds, _, _, _, .dshr h l z r => .dshr (pr.rdO z h) l (zz _ z) (RepL.to pr pn zz ds (fun _ h => nomatch h) r)
  | .dct _ _ ds, _, _, f, .down ho h l r => .down ho (f _ List.mem_cons_self _ h) l (RepL.to pr pn zz ds (fun a ha => f a (List.mem_cons_of_mem _ ha)) r)
  | .pen, _, _, _, .pen h => .pen (pn _ h)
  | .scr _, _, _, _, .scr h => .scr (pr.fzn h)
theorem RepL.to {K : PySem.W.Frag} {PN PN' : Pn} {H H' : Hp} {Z Z' : Addr → Prop} (pr : Pres Z H H') (pn : ∀ pc, PN = some pc → PN' = some pc) (zz : ∀ a, Z a → Z' a) : ∀ (ds : List D) {vs : List V} {fp : List Addr},
    (∀ a ∈ fp, ∀ o, H a = some o → H' a = some o) → RepL K PN H Z vs ds fp → RepL K PN' H' Z' vs ds fp
  | [], _, _, _, .nil => .nil
  | d :: ds, _, _, f, .cons r q => .cons (Rep.to pr pn zz d (fun a ha => f a (List.mem_append_left _ ha)) r) (RepL.to pr pn zz ds (fun a ha => f a (List.mem_append_right _ ha)) q)
end
mutual
/-- given up: read from now on, never written -/
theorem Rep.fz {K : PySem.W.Frag} {PN : Pn} {H : Hp} {Z Z' : Addr → Prop} (zz : ∀ a, Z a → Z' a) : ∀ (d : D) {v : V} {fp : List Addr}, (∀ a ∈ fp, Z' a) → Rep K PN H Z v d fp → Rep K PN H Z' v (fz d) []
  | .non, _, _, _, .non => .non
  | .bl _, _, _, _, .bl => .bl
  | .int _, _, _, _, .int => .int
  | .str _, _, _, _, .str => .str
  | .tup ds, _, _, _, .tup h r => .tup h (RepL.to ⟨fun _ _ h _ => h, fun _ _ h => h, fun _ _ _ h => h⟩ (fun _ h => h) zz ds (fun _ h => nomatch h) r)
  | .pr ds, _, _, _, .pr h r => .pr h (RepL.to ⟨fun _ _ h _ => h, fun _ _ h => h, fun _ _ _ h => h⟩ (fun _ h => h) zz ds (fun _ h => nomatch h) r)
  | .exc _ _, _, _, _, .exc0 h => .exc0 h
  | .exc _ [.str _, d], _, _, _, .exc1 h h2 z r => .exc1 h h2 (zz _ z) (Rep.to ⟨fun _ _ h _ => h, fun _ _ h => h, fun _ _ _ h => h⟩ (fun _ h => h) zz d (fun _ h => nomatch h) r)
  | .obj _ _ ds, _, _, f, .oshr h h2 l l2 z z2 r => .oshr (by rw [fzL_len]; exact h) h2 (by rw [fzL_len]; exact l) (by rw [fzL_len]; exact l2) (zz _ z) (zz _ z2) (RepL.fz zz ds f r)
  | .obj _ _ ds, _, _, f, .oown _ h h2 l l2 r => .oshr (by rw [fzL_len]; exact h) h2 (by rw [fzL_len]; exact l) (by rw [fzL_len]; exact l2) (f _ List.mem_cons_self) (f _ (List.mem_cons_of_mem _ List.mem_cons_self)) (RepL.fz zz ds (fun a ha => f a (List.mem_cons_of_mem _ (List.mem_cons_of_mem _ ha))) r)
  | .fn _, _, _, _, .fn => .fn
  | .lst _ ds, _, _, f, .shr h z r => .shr h (zz _ z) (RepL.fz zz ds f r)
  | .lst _ ds, _, _, f, .own _ h r => .shr h (f _ List.mem_cons_self) (RepL.fz zz ds (fun a ha => f a (List.mem_cons_of_mem _ ha)) r)
  | .dct _ _ ds, _, _, f, .dshr h l z r => .dshr h l (zz _ z) (RepL.fz zz ds f r)
  | .dct _ _ ds, _, _, f, .down _ h l r => .dshr (.inl h) l (f _ List.mem_cons_self) (RepL.fz zz ds (fun a ha => f a (List.mem_cons_of_mem _ ha)) r)
  | .pen, _, _, _, .pen h => .pen h
  | .scr _, _, _, _, .scr h => .scr h
theorem RepL.fz {K : PySem.W.Frag} {PN : Pn} {H : Hp} {Z Z' : Addr → Prop} (zz : ∀ a, Z a → Z' a) : ∀ (ds : List D) {vs : List V} {fp : List Addr}, (∀ a ∈ fp, Z' a) → RepL K PN H Z vs ds fp → RepL K PN H Z' vs (fzL ds) []
  | [], _, _, _, .nil => .nil
  | d :: ds, _, _, f, .cons r q => .cons (f := []) (Rep.fz zz d (fun a ha => f a (List.mem_append_left _ ha)) r) (RepL.fz zz ds (fun a ha => f a (List.mem_append_right _ ha)) q)
end
theorem RepL.length {K : PySem.W.Frag} {PN : Pn} {H : Hp} {Z : Addr → Prop} : ∀ {vs : List V} {ds : List D} {fp : List Addr}, RepL K PN H Z vs ds fp → vs.length = ds.length
  | _, _, _, .nil => rfl
  | _, _, _, .cons _ q => by simp [q.length]
/-- list items, nothing owned -/
theorem RepL.get {K : PySem.W.Frag} {PN : Pn} {H : Hp} {Z : Addr → Prop} : ∀ {vs : List V} {ds : List D} {fp : List Addr} {i : Nat} {d : D}, RepL K PN H Z vs ds fp → fp = [] → ds[i]? = some d → ∃ v, vs[i]? = some v ∧ Rep K PN H Z v d []
  | _, _, _, _, _, .nil, _, h => by simp at h
  | _, _, _, 0, d, .cons r q, e, h => by
    obtain ⟨e1, e2⟩ := app_nil e
    simp at h
    subst h
    subst e1
    exact ⟨_, rfl, r⟩
  | _, _, _, i + 1, d, .cons r q, e, h => by
    obtain ⟨v, h1, h2⟩ := RepL.get (i := i) q (app_nil e).2 (by simpa using h)
    exact ⟨v, by simpa using h1, h2⟩
theorem RepL.append {K : PySem.W.Frag} {PN : Pn} {H : Hp} {Z : Addr → Prop} : ∀ {vs us : List V} {ds es : List D} {f g : List Addr}, RepL K PN H Z vs ds f → RepL K PN H Z us es g → RepL K PN H Z (vs ++ us) (ds ++ es) (f ++ g)
  | _, _, _, _, _, _, .nil, s => s
  | _, _, _, _, _, _, .cons r t, s => by
    rw [List.append_assoc]
    exact .cons r (RepL.append t s)
theorem RepL.drop {K : PySem.W.Frag} {PN : Pn} {H : Hp} {Z : Addr → Prop} : ∀ {vs : List V} {ds : List D} {f : List Addr} (n : Nat), RepL K PN H Z vs ds f → f = [] → RepL K PN H Z (vs.drop n) (ds.drop n) []
  | _, _, _, 0, r, e => e ▸ r
  | _, _, _, _ + 1, .nil, _ => .nil
  | _, _, _, n + 1, .cons r t, e => RepL.drop n t (app_nil e).2
theorem RepL.take {K : PySem.W.Frag} {PN : Pn} {H : Hp} {Z : Addr → Prop} : ∀ {vs : List V} {ds : List D} {f : List Addr} (n : Nat), RepL K PN H Z vs ds f → f = [] → RepL K PN H Z (vs.take n) (ds.take n) []
  | _, _, _, 0, r, e => .nil
  | _, _, _, _ + 1, .nil, _ => .nil
  | _, _, _, n + 1, .cons r t, e => by
    obtain ⟨e1, e2⟩ := app_nil e
    subst e1
    exact .cons (f := []) r (RepL.take n t e2)
end Mid
namespace Mid
open PySem PySem.Spec PyProof.Rows L2
abbrev Env := List (Option D)
def Zk (PN : Pn) (Z : Addr → Prop) (H : Hp) : Prop := ∀ a, Z a → H a ≠ none ∧ NP PN a
theorem Zk.step {PN PN' : Pn} {H H' : Hp} {Z : Addr → Prop} (z : Zk PN Z H) (m : Mv PN H PN' H') : Zk PN' Z H' := fun a h => by
  obtain ⟨h1, h2⟩ := z a h
  exact ⟨fun q => h1 (m.keep a q), m.np h2 h1⟩
theorem Pens.notTup {PN : Pn} {n : Nat} {H : Hp} (h : Pens PN n H) {a : Addr} (ha : ∀ xs, H a ≠ some (.lst xs)) : NP PN a := fun p c e => by
  obtain ⟨cs, x, r, h1, h2, h3⟩ := h.2 p c e
  exact ⟨fun q => ha _ (by rw [q]; exact h1), fun q => ha _ (by rw [q]; exact h2)⟩
theorem Mv.pres {PN PN' : Pn} {H H' : Hp} {Z : Addr → Prop} {n : Nat} (m : Mv PN H PN' H') (p : Pens PN n H) (z : Zk PN Z H) : Pres Z H H' where
  lst := fun a o h hz => m.ext a o h (z a hz).2
  tup := fun a xs h => m.ext a _ h (p.notTup fun ys e => by rw [h] at e; cases e)
  frz := fun a o u h => m.ext a _ h (p.notTup fun ys e => by rw [h] at e; cases e)
/-- a step seen from the heap ahead: what is given up is from Z, or new -/
structure Sh (K : PySem.W.Frag) (PN : Pn) (H : Hp) (Z : Addr → Prop) (m : Nat) (PN' : Pn) (H' : Hp) (Z' : Addr → Prop) : Prop where
  mv : Mv PN H PN' H'
  pens : Pens PN' m H'
  zk : Zk PN' Z' H'
  up : ∀ a, Z a → Z' a
  down : ∀ a, Z' a → Z a ∨ H a = none
theorem Sh.refl {K : PySem.W.Frag} {PN : Pn} {H : Hp} {Z : Addr → Prop} {m : Nat} (p : Pens PN m H) (z : Zk PN Z H) : Sh K PN H Z m PN H Z := ⟨.refl, p, z, fun _ h => h, fun _ h => .inl h⟩
theorem Sh.trans {K : PySem.W.Frag} {PN PN1 PN2 : Pn} {H H1 H2 : Hp} {Z Z1 Z2 : Addr → Prop} {m m' : Nat} (a : Sh K PN H Z m PN1 H1 Z1) (b : Sh K PN1 H1 Z1 m' PN2 H2 Z2) : Sh K PN H Z m' PN2 H2 Z2 :=
  ⟨a.mv.trans b.mv, b.pens, b.zk, fun x h => b.up x (a.up x h), fun x h => by
    rcases b.down x h with h | h
    · exact a.down x h
    · exact .inr (a.mv.keep x h)⟩
theorem Rep.step {K : PySem.W.Frag} {PN PN' : Pn} {H H' : Hp} {Z Z' : Addr → Prop} {m n : Nat} {v : V} {d : D} (s : Sh K PN H Z m PN' H' Z') (p : Pens PN n H) (z : Zk PN Z H) (r : Rep K PN H Z v d []) : Rep K PN' H' Z' v d [] :=
  Rep.to (s.mv.pres p z) (s.mv.sub) s.up d (fun _ h => nomatch h) r
theorem RepL.step {K : PySem.W.Frag} {PN PN' : Pn} {H H' : Hp} {Z Z' : Addr → Prop} {m n : Nat} {v : List V} {d : List D} (s : Sh K PN H Z m PN' H' Z') (p : Pens PN n H) (z : Zk PN Z H) (r : RepL K PN H Z v d []) : RepL K PN' H' Z' v d [] :=
  RepL.to (s.mv.pres p z) (s.mv.sub) s.up d (fun _ h => nomatch h) r
/-- lent -/
def brw : D → Bool
  | .lst .b _ => true
  | .dct .b _ _ => true
  | .obj .b _ _ => true
  | _ => false
theorem Rep.brw0 {K : PySem.W.Frag} {PN : Pn} {H : Hp} {Z : Addr → Prop} {v : V} {d : D} (r : Rep K PN H Z v d []) : brw d = false := by
  generalize hf : ([] : List Addr) = f at r
  cases r <;> first | rfl | cases hf
theorem brw_fz : ∀ d : D, brw (fz d) = false := fun d => by cases d <;> rfl
/-- an expression's value v is d; what is new and its own alone: fp -/
def Ev (K : PySem.W.Frag) (PN : Pn) (H : Hp) (Z : Addr → Prop) (m : Nat) (v : V) (d : D) (PN' : Pn) (H' : Hp) : Prop :=
  brw d = false ∧ ∃ fp Z', Mv PN H PN' H' ∧ Pens PN' m H' ∧ fp.Nodup ∧ (∀ a ∈ fp, H a = none ∧ NP PN' a ∧ H' a ≠ none) ∧
    (∀ a, Z' a → (Z a ∨ H a = none) ∧ a ∉ fp ∧ NP PN' a ∧ H' a ≠ none) ∧ Rep K PN' H' Z' v d fp
theorem Ev.sh {K : PySem.W.Frag} {PN PN' : Pn} {H H' : Hp} {Z : Addr → Prop} {m : Nat} {v : V} {d : D} (z : Zk PN Z H) (h : Ev K PN H Z m v d PN' H') : ∃ Z', Sh K PN H Z m PN' H' Z' ∧ Rep K PN' H' Z' v (fz d) [] := by
  obtain ⟨_, fp, Z', mv, p, nd, hf, hz, r⟩ := h
  refine ⟨fun a => Z a ∨ Z' a ∨ a ∈ fp, ⟨mv, p, fun a ha => ?_, fun a h => .inl h, fun a ha => ?_⟩, Rep.fz (fun a h => .inr (.inl h)) d (fun a h => .inr (.inr h)) r⟩
  · rcases ha with h | h | h
    · exact z.step mv a h
    · exact ⟨(hz a h).2.2.2, (hz a h).2.2.1⟩
    · exact ⟨(hf a h).2.2, (hf a h).2.1⟩
  · rcases ha with h | h | h
    · exact .inl h
    · exact (hz a h).1
    · exact .inr (hf a h).1
theorem Ev.back {K : PySem.W.Frag} {PN PN1 PN2 : Pn} {H H1 H2 : Hp} {Z Z1 : Addr → Prop} {m m' : Nat} {v : V} {d : D} (s : Sh K PN H Z m' PN1 H1 Z1) (h : Ev K PN1 H1 Z1 m v d PN2 H2) : Ev K PN H Z m v d PN2 H2 := by
  obtain ⟨hb, fp, Z', mv, p, nd, hf, hz, r⟩ := h
  refine ⟨hb, fp, Z', s.mv.trans mv, p, nd, fun a h => ⟨s.mv.keep a (hf a h).1, (hf a h).2⟩, fun a h => ⟨?_, (hz a h).2⟩, r⟩
  rcases (hz a h).1 with h | h
  · exact s.down a h
  · exact .inr (s.mv.keep a h)
/-- a value that was there -/
theorem Ev.here {K : PySem.W.Frag} {PN : Pn} {H : Hp} {Z : Addr → Prop} {m : Nat} {v : V} {d : D} (p : Pens PN m H) (z : Zk PN Z H) (r : Rep K PN H Z v d []) : Ev K PN H Z m v d PN H :=
  ⟨r.brw0, [], Z, .refl, p, .nil, fun _ h => (nomatch h), fun a h => ⟨.inl h, fun h => (nomatch h), (z a h).2, (z a h).1⟩, r⟩
theorem Ev.after {K : PySem.W.Frag} {PN PN' : Pn} {H H' : Hp} {Z Z' : Addr → Prop} {m : Nat} {v : V} {d : D} (s : Sh K PN H Z m PN' H' Z') (r : Rep K PN' H' Z' v d []) : Ev K PN H Z m v d PN' H' :=
  Ev.back s (Ev.here s.pens s.zk r)
/-- a new tuple of what is there -/
theorem Ev.tup {K : PySem.W.Frag} {PN : Pn} {H : Hp} {Z : Addr → Prop} {m : Nat} {vs : List V} {ds : List D} {p : Addr} {ob : Obj} (hp : H p = none) (ho : ob.dict = none) (ps : Pens PN m H) (z : Zk PN Z H) (r : RepL K PN H Z vs ds []) : Ev K PN H Z m (.ref p) (.tup ds) PN (upd H p (.frz ob (.tup vs))) := by
  have mv : Mv PN H PN (upd H p (.frz ob (.tup vs))) := .laid hp
  have s : Sh K PN H Z m PN (upd H p (.frz ob (.tup vs))) Z := ⟨mv, ps.laid hp, z.step mv, fun _ h => h, fun _ h => .inl h⟩
  exact Ev.after s (.tup (.inl ⟨ob, upd_same, ho⟩) (r.step s ps z))
/-- a new tuple's rule -/
def NewT (H : Hp) (xs : List V) (Q : VK) : Prop := ∀ (p : Addr) (ob : Obj), H p = none → ob.dict = none → Q (.ref p) (upd H p (.frz ob (.tup xs)))
/-- a new list of what is there -/
theorem Ev.lst {K : PySem.W.Frag} {PN : Pn} {H : Hp} {Z : Addr → Prop} {m : Nat} {vs : List V} {ds : List D} {p : Addr} (hp : H p = none) (ps : Pens PN m H) (z : Zk PN Z H) (r : RepL K PN H Z vs ds []) : Ev K PN H Z m (.ref p) (.lst .t ds) PN (upd H p (.lst vs)) := by
  have mv : Mv PN H PN (upd H p (.lst vs)) := .laid hp
  have s : Sh K PN H Z m PN (upd H p (.lst vs)) Z := ⟨mv, ps.laid hp, z.step mv, fun _ h => h, fun _ h => .inl h⟩
  refine ⟨rfl, [p], Z, mv, s.pens, (List.nodup_cons.mpr ⟨fun h => (nomatch h), List.Pairwise.nil⟩), fun a ha => ?_, fun a ha => ⟨.inl ha, fun q => ?_, (s.zk a ha).2, (s.zk a ha).1⟩, .own (by decide) upd_same (r.step s ps z)⟩
  · have e := List.mem_singleton.mp ha
    subst e
    exact ⟨hp, ps.tracked hp, by rw [upd_same]; simp⟩
  · have e := List.mem_singleton.mp q
    subst e
    exact (z a ha).1 hp
def Pk (K : PySem.W.Frag) (PN : Pn) (H : Hp) (Z : Addr → Prop) (vs : List Nat) (ρ : Env) (σ : L2.St) : Prop :=
  ρ.length = σ.length ∧ ∀ i ∈ vs, ∀ d, ρ[i]? = some (some d) → ∃ v, σ[i]? = some (some v) ∧ Rep K PN H Z v d []
theorem Pk.step {K : PySem.W.Frag} {PN PN' : Pn} {H H' : Hp} {Z Z' : Addr → Prop} {m n : Nat} {vs : List Nat} {ρ : Env} {σ : L2.St} (k : Pk K PN H Z vs ρ σ) (s : Sh K PN H Z m PN' H' Z') (p : Pens PN n H) (z : Zk PN Z H) : Pk K PN' H' Z' vs ρ σ := ⟨k.1, fun i hi d hd => by
  obtain ⟨v, h1, h2⟩ := k.2 i hi d hd
  exact ⟨v, h1, h2.step s p z⟩⟩
/-- an error as it leaves: its class, its own dict -/
def ErrAt (K : PySem.W.Frag) (PN : Pn) (H : Hp) (Z : Addr → Prop) (c : Str) (x : List D) (od : Option Addr) : Prop := (x = [] ∧ od = none) ∨
  ∃ (f : Str) (v : V) (d : D) (dd : Addr), x = [.str f, d] ∧ od = some dd ∧ H dd = some (.xd [(f, v)]) ∧ Z dd ∧ Rep K PN H Z v d []
/-- what an error that leaves is to bring -/
def Out (K : PySem.W.Frag) (W : WX) (PN : Pn) (H : Hp) (Z : Addr → Prop) (σ : L2.St) : Nat → Str → List D → Prop := fun m c x =>
  ∀ od PN' H' Z', Sh K PN H Z m PN' H' Z' → ErrAt K PN' H' Z' c x od → W (.ref (He.ga K c)) od σ H'
theorem Out.back {K : PySem.W.Frag} {W : WX} {PN PN1 : Pn} {H H1 : Hp} {Z Z1 : Addr → Prop} {σ : L2.St} {m m' : Nat} {c : Str} {x : List D} (s : Sh K PN H Z m' PN1 H1 Z1) (h : Out K W PN H Z σ m c x) : Out K W PN1 H1 Z1 σ m c x :=
  fun od PN' H' Z' s' e => h od PN' H' Z' (s.trans s') e
def ePre (K : PySem.W.Frag) (mg : Str → Option Value) (W : WX) (vs : List Nat) (f : Env → Comp D) : TE := fun σ H Q => ∃ PN n Z ρ, Pk K PN H Z vs ρ σ ∧ Zk PN Z H ∧ Pens PN n H ∧
  (f ρ).all (fun m d => ∀ v PN' H', Ev K PN H Z m v d PN' H' → Q v H') (Out K W PN H Z σ) n
def bPre (K : PySem.W.Frag) (mg : Str → Option Value) (W : WX) (vs : List Nat) (f : Env → Comp Bool) : TT := fun σ H Q => ∃ PN n Z ρ, Pk K PN H Z vs ρ σ ∧ Zk PN Z H ∧ Pens PN n H ∧
  (f ρ).all (fun m b => ∀ PN' H' Z', Sh K PN H Z m PN' H' Z' → Q b H') (Out K W PN H Z σ) n
def aPre (K : PySem.W.Frag) (mg : Str → Option Value) (W : WX) (vs : List Nat) (f : Env → Comp (List D)) : TA := fun σ H Q => ∃ PN n Z ρ, Pk K PN H Z vs ρ σ ∧ Zk PN Z H ∧ Pens PN n H ∧
  (f ρ).all (fun m ds => ∀ us PN' H' Z', Sh K PN H Z m PN' H' Z' → RepL K PN' H' Z' us ds [] → Q us H') (Out K W PN H Z σ) n
abbrev EV (X : Cx) (W : WX) (vs : List Nat) (f : Env → Comp D) (e : Expr) : Prop := PE X e (ePre X.K X.mg W vs f)
abbrev EB (X : Cx) (W : WX) (vs : List Nat) (f : Env → Comp Bool) (e : Expr) : Prop := PT X e (bPre X.K X.mg W vs f)
abbrev EA (X : Cx) (W : WX) (vs : List Nat) (f : Env → Comp (List D)) (es : List Expr) : Prop := PA X es (aPre X.K X.mg W vs f)
theorem peW {X : Cx} {e : Expr} {t t' : TE} (h : PE X e t) (w : ∀ σ H Q, t' σ H Q → t σ H Q) : PE X e t' := ⟨fun pins s σ H Q I q => h.run pins s σ H Q I (w σ H Q q)⟩
theorem ptW {X : Cx} {e : Expr} {t t' : TT} (h : PT X e t) (w : ∀ σ H Q, t' σ H Q → t σ H Q) : PT X e t' := ⟨fun pins s σ H Q I q => h.run pins s σ H Q I (w σ H Q q)⟩
theorem paW {X : Cx} {e : List Expr} {t t' : TA} (h : PA X e t) (w : ∀ σ H Q, t' σ H Q → t σ H Q) : PA X e t' := ⟨fun pos pins s σ H Q I q => h.run pos pins s σ H Q I (w σ H Q q)⟩
theorem psW {X : Cx} {e : Stmt} {t t' : TS} (h : PS X e t) (w : ∀ D σ H, t' D σ H → t D σ H) : PS X e t' := ⟨fun pins s σ H D I q => h.run pins s σ H D I (w D σ H q)⟩
theorem pssW {X : Cx} {e : List Stmt} {t t' : TS} (h : PSs X e t) (w : ∀ D σ H, t' D σ H → t D σ H) : PSs X e t' := ⟨fun pins s σ H D I q => h.run pins s σ H D I (w D σ H q)⟩
def eVar (i : Nat) : Env → Comp D := fun ρ => match ρ[i]? with
  | some (some d) => .ret d
  | _ => .stuck
def eK (d : D) : Env → Comp D := fun _ => .ret d
section
variable {X : Cx} {W : WX} {vs : List Nat}
theorem ev_var (i : Nat) {x : Str} {pos : Pos} (hN : X.N[i]? = some x := by rfl) (hv : Vis X.env.scope x := by first | exact Or.inl rfl | exact Or.inr (Or.inl rfl) | exact Or.inr (Or.inr rfl)) (hm : vs.contains i = true := by rfl)
    (hd : (x == ("__debug__" : Str)) = false := by decide) (hcd : (x == ("__classdict__" : Str)) = false := by decide) : EV X W vs (eVar i) (.Name x pos) := by
  refine peW (pe_var hN hv hd hcd) fun σ H Q h => ?_
  obtain ⟨PN, n, Z, ρ, k, z, p, h⟩ := h
  unfold eVar at h
  split at h
  · rename_i d e
    obtain ⟨v, h1, h2⟩ := k.2 i (by simpa using hm) d e
    exact ⟨v, h1, h v PN H (Ev.here p z h2)⟩
  · exact h.elim
theorem ev_k {e : Expr} {v : V} {d : D} (he : PE X e (tC v)) (r : ∀ PN H Z, Rep X.K PN H Z v d []) : EV X W vs (eK d) e := by
  refine peW he fun σ H Q h => ?_
  obtain ⟨PN, n, Z, ρ, k, z, p, h⟩ := h
  exact h v PN H (Ev.here p z (r PN H Z))
theorem ev_int {i j pos} : EV X W vs (eK (.int i)) (.Constant (.int i) j pos) := ev_k pe_int fun _ _ _ => .int
theorem ev_bl {i j pos} : EV X W vs (eK (.bl i)) (.Constant (.bool i) j pos) := ev_k pe_bl fun _ _ _ => .bl
theorem ev_non {j pos} : EV X W vs (eK .non) (.Constant .none j pos) := ev_k pe_non fun _ _ _ => .non
theorem ev_str {i j pos} : EV X W vs (eK (.str i)) (.Constant (.str i) j pos) := ev_k pe_str fun _ _ _ => .str
/-- g tells of two values what comes -/
def r2 (K : PySem.W.Frag) (g : D → D → Comp D) : R2 := fun x y H Q => ∃ PN n Z d e, Rep K PN H Z x d [] ∧ Rep K PN H Z y e [] ∧ Zk PN Z H ∧ Pens PN n H ∧
  (g d e).all (fun m r => ∀ v PN' H', Ev K PN H Z m v r PN' H' → Q v H') (fun _ _ _ => False) n
def eBin (g : D → D → Comp D) (f f' : Env → Comp D) : Env → Comp D := fun ρ => (f ρ).bind fun d => (f' ρ).bind fun e => g (fz d) (fz e)
theorem Out.none {α : Type} {Q : Nat → α → Prop} {E : Nat → Str → List D → Prop} {c : Comp α} {n : Nat} (h : c.all Q (fun _ _ _ => False) n) : c.all Q E n := Comp.all_mono (fun _ _ h => h) (fun _ _ _ h => h.elim) h
/-- a computation that is never refused -/
def Comp.quiet {α : Type} : Comp α → Prop
  | .ret _ => True
  | .draw many k => ∀ r, r < many → (k r).quiet
  | .err _ _ => False
  | .stuck => True
theorem Comp.all_quiet {α : Type} {Q : Nat → α → Prop} {E E' : Nat → Str → List D → Prop} : ∀ {c : Comp α} {n : Nat}, c.quiet → c.all Q E n → c.all Q E' n
  | .ret _, _, _, h => h
  | .draw _ _, _, q, ⟨m, e, h0, h⟩ => ⟨m, e, h0, fun r hr => Comp.all_quiet (q r hr) (h r hr)⟩
  | .err _ _, _, q, _ => q.elim
  | .stuck, _, _, h => h
theorem bin_pre {a b : TE} {f f' : Env → Comp D} {g : D → D → Comp D} (ha : ∀ σ H Q, ePre X.K X.mg W vs f σ H Q → a σ H Q) (hb : ∀ σ H Q, ePre X.K X.mg W vs f' σ H Q → b σ H Q) (hg : ∀ d e, (g d e).quiet) :
    ∀ σ H Q, ePre X.K X.mg W vs (eBin g f f') σ H Q → tOp (r2 X.K g) a b σ H Q := fun σ H Q h => by
  obtain ⟨PN, n, Z, ρ, k, z, p, h⟩ := h
  rw [eBin, Comp.all_bind] at h
  refine ha σ H _ ⟨PN, n, Z, ρ, k, z, p, Comp.all_mono (fun m d h => fun v PN1 H1 ev => ?_) (fun _ _ _ h => h) h⟩
  obtain ⟨Z1, s1, r1⟩ := ev.sh z
  rw [Comp.all_bind] at h
  refine hb σ H1 _ ⟨PN1, m, Z1, ρ, k.step s1 p z, s1.zk, s1.pens, Comp.all_mono (fun m' d' h => fun v' PN2 H2 ev' => ?_) (fun _ _ _ h => h.back s1) h⟩
  obtain ⟨Z2, s2, q2⟩ := ev'.sh s1.zk
  refine ⟨PN2, m', Z2, fz d, fz d', r1.step s2 s1.pens s1.zk, q2, s2.zk, s2.pens, Comp.all_quiet (hg _ _) (Comp.all_mono (fun m2 r h => fun w PN3 H3 ev3 => ?_) (fun _ _ _ h => h) h)⟩
  exact h w PN3 H3 (Ev.back (s1.trans s2) ev3)
theorem ev_bin {op : Operator} {g : D → D → Comp D} {a b : Expr} {f f' : Env → Comp D} {pos : Pos} (ho : OpR X (binaryOp op) (r2 X.K g)) (hg : ∀ d e, (g d e).quiet) (ha : EV X W vs f a) (hb : EV X W vs f' b) : EV X W vs (eBin g f f') (.BinOp a op b pos) :=
  peW (pe_op ho ha hb) (bin_pre (fun _ _ _ h => h) (fun _ _ _ h => h) hg)
theorem ev_cmp {op : CmpOp} {g : D → D → Comp D} {a b : Expr} {f f' : Env → Comp D} {pos : Pos} (ho : OpR X (compareOp op) (r2 X.K g)) (hg : ∀ d e, (g d e).quiet) (ha : EV X W vs f a) (hb : EV X W vs f' b)
    (hm : behindInMarks op b = false := by first | exact nomark _ | rfl) : EV X W vs (eBin g f f') (.Compare a [op] [b] pos) :=
  peW (pe_cmpR ho ha hb hm) (bin_pre (fun _ _ _ h => h) (fun _ _ _ h => h) hg)
def eUn (g : D → Comp D) (f : Env → Comp D) : Env → Comp D := fun ρ => (f ρ).bind fun d => g (fz d)
def r1 (K : PySem.W.Frag) (g : D → Comp D) : V → Hp → VK → Prop := fun x H Q => ∃ PN n Z d, Rep K PN H Z x d [] ∧ Zk PN Z H ∧ Pens PN n H ∧
  (g d).all (fun m r => ∀ v PN' H', Ev K PN H Z m v r PN' H' → Q v H') (fun _ _ _ => False) n
def asB : D → Comp Bool
  | .bl b => .ret b
  | _ => .stuck
def bOf (f : Env → Comp D) : Env → Comp Bool := fun ρ => (f ρ).bind asB
theorem eb_val {e : Expr} {f : Env → Comp D} (h : EV X W vs f e) (he : ∀ whole, isTrue e X.env whole = (do let v ← whole; standAt e.pos; holding [v] (truthy v)) := by intro _; rfl) : EB X W vs (bOf f) e := by
  refine ptW (pt_val h he) fun σ H Q h => ?_
  obtain ⟨PN, n, Z, ρ, k, z, p, h⟩ := h
  rw [bOf, Comp.all_bind] at h
  refine ⟨PN, n, Z, ρ, k, z, p, Comp.all_mono (fun m d h => fun v PN1 H1 ev => ?_) (fun _ _ _ h => h) h⟩
  obtain ⟨Z1, s1, r1⟩ := ev.sh z
  cases d with
  | bl b =>
    cases r1
    exact ⟨b, rfl, h PN1 H1 Z1 s1⟩
  | _ => exact h.elim
theorem eb_cmp {op : CmpOp} {g : D → D → Comp D} {a b : Expr} {f f' : Env → Comp D} {pos : Pos} (ho : OpR X (compareOp op) (r2 X.K g)) (hg : ∀ d e, (g d e).quiet) (ha : EV X W vs f a) (hb : EV X W vs f' b)
    (hm : behindInMarks op b = false := by first | exact nomark _ | rfl) : EB X W vs (bOf (eBin g f f')) (.Compare a [op] [b] pos) := by
  refine ptW (pt_cmpR ho ha hb hm) fun σ H Q h => ?_
  refine bin_pre (fun _ _ _ h => h) (fun _ _ _ h => h) hg σ H _ ?_
  obtain ⟨PN, n, Z, ρ, k, z, p, h⟩ := h
  rw [bOf, Comp.all_bind] at h
  refine ⟨PN, n, Z, ρ, k, z, p, Comp.all_mono (fun m d h => fun v PN1 H1 ev => ?_) (fun _ _ _ h => h) h⟩
  obtain ⟨Z1, s1, r1⟩ := ev.sh z
  cases d with
  | bl b =>
    cases r1
    exact ⟨b, rfl, h PN1 H1 Z1 s1⟩
  | _ => exact h.elim
def bAnd (f g : Env → Comp Bool) : Env → Comp Bool := fun ρ => (f ρ).bind fun b => if b then g ρ else .ret false
def bOr (f g : Env → Comp Bool) : Env → Comp Bool := fun ρ => (f ρ).bind fun b => if b then .ret true else g ρ
def bNot (f : Env → Comp Bool) : Env → Comp Bool := fun ρ => (f ρ).bind fun b => .ret (!b)
/-- a test as a part of and, or -/
structure EW (X : Cx) (W : WX) (vs : List Nat) (f : Env → Comp Bool) (e : Expr) : Prop where
  run : PW X e (bPre X.K X.mg W vs f)
theorem EW.eb {f : Env → Comp Bool} {e : Expr} (h : EW X W vs f e) : EB X W vs f e := PW.pt h.run
theorem pwW {e : Expr} {t t' : TT} (h : PW X e t) (w : ∀ σ H Q, t' σ H Q → t σ H Q) : PW X e t' := ⟨fun wh pins s σ H Q I q => h.run wh pins s σ H Q I (w σ H Q q)⟩
theorem ew_or1 {f : Env → Comp Bool} {e : Expr} {pos : Pos} (h : EB X W vs f e) : EW X W vs f (.BoolOp .Or [e] pos) := ⟨pw_or1 h⟩
theorem ew_or {f g : Env → Comp Bool} {e e2 : Expr} {es : List Expr} {pos : Pos} (h : EB X W vs f e) (h2 : EW X W vs g (.BoolOp .Or (e2 :: es) pos)) : EW X W vs (bOr f g) (.BoolOp .Or (e :: e2 :: es) pos) := by
  refine ⟨pwW (pw_or h h2.run) fun σ H Q h => ?_⟩
  obtain ⟨PN, n, Z, ρ, k, z, p, h⟩ := h
  rw [bOr, Comp.all_bind] at h
  refine ⟨PN, n, Z, ρ, k, z, p, Comp.all_mono (fun m b h => fun PN1 H1 Z1 s1 => ?_) (fun _ _ _ h => h) h⟩
  cases b with
  | false => exact ⟨PN1, m, Z1, ρ, k.step s1 p z, s1.zk, s1.pens, Comp.all_mono (fun m' b' h => fun PN2 H2 Z2 s2 => h PN2 H2 Z2 (s1.trans s2)) (fun _ _ _ h => h.back s1) h⟩
  | true => exact h PN1 H1 Z1 s1
theorem eb_not {f : Env → Comp Bool} {e : Expr} {pos : Pos} (h : EB X W vs f e) : EB X W vs (bNot f) (.UnaryOp .Not e pos) := by
  refine ptW (pt_not h) fun σ H Q h => ?_
  obtain ⟨PN, n, Z, ρ, k, z, p, h⟩ := h
  rw [bNot, Comp.all_bind] at h
  exact ⟨PN, n, Z, ρ, k, z, p, h⟩
def eAnd (f g : Env → Comp D) : Env → Comp D := fun ρ => (f ρ).bind fun d => (asB d).bind fun b => if b then g ρ else .ret (.bl false)
def eOr (f g : Env → Comp D) : Env → Comp D := fun ρ => (f ρ).bind fun d => (asB d).bind fun b => if b then .ret (.bl true) else g ρ
def eNot (f : Env → Comp D) : Env → Comp D := fun ρ => (f ρ).bind fun d => (asB d).bind fun b => .ret (.bl (!b))
theorem ev_one {op : BoolOp} {f : Env → Comp D} {e : Expr} {pos : Pos} (h : EV X W vs f e) : EV X W vs f (.BoolOp op [e] pos) := pe_one h
theorem ev_and {f g : Env → Comp D} {e e2 : Expr} {es : List Expr} {pos : Pos} (h : EV X W vs f e) (h2 : EV X W vs g (.BoolOp .And (e2 :: es) pos)) : EV X W vs (eAnd f g) (.BoolOp .And (e :: e2 :: es) pos) := by
  refine peW (pe_and h h2) fun σ H Q h => ?_
  obtain ⟨PN, n, Z, ρ, k, z, p, h⟩ := h
  rw [eAnd, Comp.all_bind] at h
  refine ⟨PN, n, Z, ρ, k, z, p, Comp.all_mono (fun m d h => fun v PN1 H1 ev => ?_) (fun _ _ _ h => h) h⟩
  obtain ⟨Z1, s1, r1⟩ := ev.sh z
  cases d with
  | bl b =>
    cases r1
    refine ⟨b, rfl, ?_⟩
    cases b with
    | true => exact ⟨PN1, m, Z1, ρ, k.step s1 p z, s1.zk, s1.pens, Comp.all_mono (fun m' b' h => fun w PN2 H2 e2 => h w PN2 H2 (e2.back s1)) (fun _ _ _ h => h.back s1) h⟩
    | false => exact h _ PN1 H1 ev
  | _ => exact h.elim
def eIf (c : Env → Comp Bool) (f g : Env → Comp D) : Env → Comp D := fun ρ => (c ρ).bind fun b => if b then f ρ else g ρ
def aNil : Env → Comp (List D) := fun _ => .ret []
def aCons (f : Env → Comp D) (fs : Env → Comp (List D)) : Env → Comp (List D) := fun ρ => (f ρ).bind fun d => (fs ρ).bind fun ds => .ret (fz d :: ds)
theorem ea_nil : EA X W vs aNil [] := by
  refine paW pa_nil fun σ H Q h => ?_
  obtain ⟨PN, n, Z, ρ, k, z, p, h⟩ := h
  exact h [] PN H Z (Sh.refl p z) .nil
theorem ea_cons {f : Env → Comp D} {fs : Env → Comp (List D)} {e : Expr} {es : List Expr} (h : EV X W vs f e) (h2 : EA X W vs fs es) (hs : starEach (e :: es) X.env = (false, eval e X.env) :: starEach es X.env := by rfl) : EA X W vs (aCons f fs) (e :: es) := by
  refine paW (pa_cons h h2 hs) fun σ H Q h => ?_
  obtain ⟨PN, n, Z, ρ, k, z, p, h⟩ := h
  rw [aCons, Comp.all_bind] at h
  refine ⟨PN, n, Z, ρ, k, z, p, Comp.all_mono (fun m d h => fun v PN1 H1 ev => ?_) (fun _ _ _ h => h) h⟩
  obtain ⟨Z1, s1, r1⟩ := ev.sh z
  rw [Comp.all_bind] at h
  refine ⟨PN1, m, Z1, ρ, k.step s1 p z, s1.zk, s1.pens, Comp.all_mono (fun m' ds h => fun us PN2 H2 Z2 s2 r2 => ?_) (fun _ _ _ h => h.back s1) h⟩
  exact h (v :: us) PN2 H2 Z2 (s1.trans s2) (.cons (f := []) (r1.step s2 s1.pens s1.zk) r2)
/-- g tells of the arguments what comes -/
def rN (K : PySem.W.Frag) (g : List D → Comp D) : List V → Hp → VK → Prop := fun us H Q => ∃ PN n Z ds, RepL K PN H Z us ds [] ∧ Zk PN Z H ∧ Pens PN n H ∧
  (g ds).all (fun m r => ∀ v PN' H', Ev K PN H Z m v r PN' H' → Q v H') (fun _ _ _ => False) n
def eCallB (g : List D → Comp D) (fs : Env → Comp (List D)) : Env → Comp D := fun ρ => (fs ρ).bind g
theorem call_pre {t : TA} {fs : Env → Comp (List D)} {g : List D → Comp D} (hg : ∀ ds, (g ds).quiet) (ht : ∀ σ H Q, aPre X.K X.mg W vs fs σ H Q → t σ H Q) : ∀ σ H Q, ePre X.K X.mg W vs (eCallB g fs) σ H Q → tCB (rN X.K g) t σ H Q := fun σ H Q h => by
  obtain ⟨PN, n, Z, ρ, k, z, p, h⟩ := h
  rw [eCallB, Comp.all_bind] at h
  refine ht σ H _ ⟨PN, n, Z, ρ, k, z, p, Comp.all_mono (fun m ds h => fun us PN1 H1 Z1 s1 r1 => ?_) (fun _ _ _ h => h) h⟩
  exact ⟨PN1, m, Z1, ds, r1, s1.zk, s1.pens, Comp.all_quiet (hg _) (Comp.all_mono (fun m2 r h => fun w PN3 H3 ev3 => h w PN3 H3 (Ev.back s1 ev3)) (fun _ _ _ h => h) h)⟩
theorem ev_callB {g : List D → Comp D} {fs : Env → Comp (List D)} {x : Str} {id : String} {p pos : Pos} {e : Expr} {es : List Expr} (hc : CallR X (.builtin id) (rN X.K g)) (hq : ∀ ds, (g ds).quiet) (hm : X.mg x = none) (ha : EA X W vs fs (e :: es)) (hg : Gl X x := by rfl) (hv : bootBuiltins x = some (.builtin id) := by decide +kernel) (hn : x ≠ "__name__" := by decide) (hdb : (x == ("__debug__" : Str)) = false := by decide)
    (he : starEach (e :: es) X.env = (false, eval e X.env) :: starEach es X.env := by rfl) (hpl : (backTo pos (starEach es X.env)).any (·.1) = false := by rfl) : EV X W vs (eCallB g fs) (.Call (.Name x p) (e :: es) [] pos) :=
  peW (pe_callB hc hg hm hv ha hn hdb he hpl) (call_pre hq fun _ _ _ h => h)
theorem ev_callT {g : List D → Comp D} {fs : Env → Comp (List D)} {x : Str} {T : String} {p pos : Pos} {e : Expr} {es : List Expr} (hc : CallR X (.type T) (rN X.K g)) (hq : ∀ ds, (g ds).quiet) (hm : X.mg x = none) (ha : EA X W vs fs (e :: es)) (hg : Gl X x := by rfl) (hv : bootBuiltins x = some (.type T) := by decide +kernel) (hn : x ≠ "__name__" := by decide) (hdb : (x == ("__debug__" : Str)) = false := by decide)
    (he : starEach (e :: es) X.env = (false, eval e X.env) :: starEach es X.env := by rfl) (hpl : (backTo pos (starEach es X.env)).any (·.1) = false := by rfl) : EV X W vs (eCallB g fs) (.Call (.Name x p) (e :: es) [] pos) :=
  peW (pe_callTy hc hg hm hv ha hn hdb he hpl) (call_pre hq fun _ _ _ h => h)
def gTup : List D → Comp D := fun ds => if ds.length ≤ sizeLine then .ret (.tup ds) else .stuck
def gLst : List D → Comp D := fun ds => if ds.length ≤ sizeLine then .ret (.lst .t ds) else .stuck
theorem pe_tupN {X : Cx} {es : List Expr} {t : TA} {k : _} {pos : Pos} (h : PA X es t) : PE X (.Tuple es k pos) (fun σ H Q => t σ H fun xs H1 => xs.length ≤ sizeLine ∧ NewT H1 xs Q) := by
  refine ⟨fun pins s σ H Q I hq => ?_⟩
  refine wpAny_Tuple_spliced (thn (h.run pos pins s σ H _ I hq) fun us s1 ⟨xs, H1, I1, r, z, q⟩ => ⟨by rw [← r.length]; exact z, ?_⟩)
  have hf : H1 s1.heap.objs.size = none := I1.hok.fresh (Nat.le_refl _)
  refine ⟨.ref s1.heap.objs.size, upd H1 s1.heap.objs.size (.frz { cls := .type "tuple", data := .seq us.toArray } (.tup xs)), I1.laid (t' := s1.toks) (fun b u e => Heap.get?_push_of_some _ e) (Nat.le_refl _) ?_, rfl, q _ _ hf rfl⟩
  exact ⟨Heap.get?_push_size _ rfl, z, us, r, ⟨_, Heap.get?_push_size _ rfl, rfl, _, rfl⟩⟩
theorem ev_tup {fs : Env → Comp (List D)} {es : List Expr} {k pos} (h : EA X W vs fs es) : EV X W vs (eCallB gTup fs) (.Tuple es k pos) := by
  refine peW (pe_tupN h) fun σ H Q h => ?_
  obtain ⟨PN, n, Z, ρ, k, z, p, h⟩ := h
  rw [eCallB, Comp.all_bind] at h
  refine ⟨PN, n, Z, ρ, k, z, p, Comp.all_mono (fun m ds h => fun us PN1 H1 Z1 s1 r1 => ?_) (fun _ _ _ h => h) h⟩
  unfold gTup at h
  split at h
  · rename_i hl
    exact ⟨by rw [r1.length]; exact hl, fun q ob nq ho => h _ _ _ (Ev.back s1 (Ev.tup nq ho s1.pens s1.zk r1))⟩
  · exact h.elim
theorem ev_lst {fs : Env → Comp (List D)} {es : List Expr} {pos} (h : EA X W vs fs es) : EV X W vs (eCallB gLst fs) (.List es pos) := by
  refine peW (pe_lst h) fun σ H Q h => ?_
  obtain ⟨PN, n, Z, ρ, k, z, p, h⟩ := h
  rw [eCallB, Comp.all_bind] at h
  refine ⟨PN, n, Z, ρ, k, z, p, Comp.all_mono (fun m ds h => fun us PN1 H1 Z1 s1 r1 => ?_) (fun _ _ _ h => h) h⟩
  unfold gLst at h
  split at h
  · rename_i hl
    exact ⟨by rw [r1.length]; exact hl, fun q nq => h _ _ _ (Ev.back s1 (Ev.lst nq s1.pens s1.zk r1))⟩
  · exact h.elim
theorem ev_ix {g : D → D → Comp D} {a b : Expr} {f f' : Env → Comp D} {pos : Pos} (ho : IxR X (r2 X.K g)) (hg : ∀ d e, (g d e).quiet) (ha : EV X W vs f a) (hb : EV X W vs f' b) (hs : PlainIx b := by exact fun _ _ => rfl) : EV X W vs (eBin g f f') (.Subscript a b pos) :=
  peW (pe_ix ho ha hb hs) (bin_pre (fun _ _ _ h => h) (fun _ _ _ h => h) hg)
def oNone : Env → Comp (Option Int) := fun _ => .ret none
def asI : D → Comp (Option Int)
  | .int i => .ret (some i)
  | _ => .stuck
def oSome (f : Env → Comp D) : Env → Comp (Option Int) := fun ρ => (f ρ).bind asI
def oPre (K : PySem.W.Frag) (mg : Str → Option Value) (W : WX) (vs : List Nat) (f : Env → Comp (Option Int)) : TO := fun σ H Q => ∃ PN n Z ρ, Pk K PN H Z vs ρ σ ∧ Zk PN Z H ∧ Pens PN n H ∧
  (f ρ).all (fun m b => ∀ PN' H' Z', Sh K PN H Z m PN' H' Z' → Q b H') (Out K W PN H Z σ) n
structure EO (X : Cx) (W : WX) (vs : List Nat) (f : Env → Comp (Option Int)) (e : Option Expr) : Prop where
  run : PO X e (oPre X.K X.mg W vs f)
theorem poW {e : Option Expr} {t t' : TO} (h : PO X e t) (w : ∀ σ H Q, t' σ H Q → t σ H Q) : PO X e t' := ⟨fun pins s σ H Q I q => h.run pins s σ H Q I (w σ H Q q)⟩
theorem eo_none : EO X W vs oNone none := ⟨poW po_none fun σ H Q h => by
  obtain ⟨PN, n, Z, ρ, k, z, p, h⟩ := h
  exact h PN H Z (Sh.refl p z)⟩
theorem eo_some {f : Env → Comp D} {e : Expr} (h : EV X W vs f e) : EO X W vs (oSome f) (some e) := ⟨poW (po_some h) fun σ H Q h => by
  obtain ⟨PN, n, Z, ρ, k, z, p, h⟩ := h
  rw [oSome, Comp.all_bind] at h
  refine ⟨PN, n, Z, ρ, k, z, p, Comp.all_mono (fun m d h => fun v PN1 H1 ev => ?_) (fun _ _ _ h => h) h⟩
  obtain ⟨Z1, s1, r1⟩ := ev.sh z
  cases d with
  | int b =>
    cases r1
    exact ⟨b, rfl, h PN1 H1 Z1 s1⟩
  | _ => exact h.elim⟩
def rSl (K : PySem.W.Frag) (g : D → Option Int → Option Int → Comp D) : V → Option Int → Option Int → Hp → VK → Prop := fun x lo hi H Q => ∃ PN n Z d, Rep K PN H Z x d [] ∧ Zk PN Z H ∧ Pens PN n H ∧
  (g d lo hi).all (fun m r => ∀ v PN' H', Ev K PN H Z m v r PN' H' → Q v H') (fun _ _ _ => False) n
def eSl (g : D → Option Int → Option Int → Comp D) (f : Env → Comp D) (lo hi : Env → Comp (Option Int)) : Env → Comp D := fun ρ => (f ρ).bind fun d => (lo ρ).bind fun l => (hi ρ).bind fun u => g (fz d) l u
theorem ev_sl {g : D → Option Int → Option Int → Comp D} {f : Env → Comp D} {lo hi : Env → Comp (Option Int)} {e : Expr} {l u : Option Expr} {p2 pos : Pos} (hr : SlR X (rSl X.K g)) (hg : ∀ d l u, (g d l u).quiet) (he : EV X W vs f e) (hl : EO X W vs lo l) (hu : EO X W vs hi u) :
    EV X W vs (eSl g f lo hi) (.Subscript e (.Slice l u none p2) pos) := by
  refine peW (pe_slice hr he hl.run hu.run) fun σ H Q h => ?_
  obtain ⟨PN, n, Z, ρ, k, z, p, h⟩ := h
  rw [eSl, Comp.all_bind] at h
  refine ⟨PN, n, Z, ρ, k, z, p, Comp.all_mono (fun m d h => fun v PN1 H1 ev => ?_) (fun _ _ _ h => h) h⟩
  obtain ⟨Z1, s1, r1⟩ := ev.sh z
  rw [Comp.all_bind] at h
  refine ⟨PN1, m, Z1, ρ, k.step s1 p z, s1.zk, s1.pens, Comp.all_mono (fun m' l' h => fun PN2 H2 Z2 s2 => ?_) (fun _ _ _ h => h.back s1) h⟩
  rw [Comp.all_bind] at h
  have k1 := k.step s1 p z
  refine ⟨PN2, m', Z2, ρ, k1.step s2 s1.pens s1.zk, s2.zk, s2.pens, Comp.all_mono (fun m' u' h => fun PN3 H3 Z3 s3 => ?_) (fun _ _ _ h => h.back (s1.trans s2)) h⟩
  refine ⟨PN3, m', Z3, fz d, (r1.step s2 s1.pens s1.zk).step s3 s2.pens s2.zk, s3.zk, s3.pens, Comp.all_quiet (hg _ _ _) (Comp.all_mono (fun m2 r h => fun w PN4 H4 ev4 => h w PN4 H4 (Ev.back ((s1.trans s2).trans s3) ev4)) (fun _ _ _ h => h) h)⟩
end
end Mid
namespace Mid
open PySem PySem.Spec PyProof.Rows L2
theorem Pres.refl {Z : Addr → Prop} {H : Hp} : Pres Z H H := ⟨fun _ _ h _ => h, fun _ _ h => h, fun _ _ _ h => h⟩
inductive Fl where
  | nx | bk | ct | rt (d : D) | er (c : Str) (x : List D)
def Comp.try_ {α β : Type} : Comp α → (α → Comp β) → (Str → List D → Comp β) → Comp β
  | .ret a, f, _ => f a
  | .draw m k, f, g => .draw m fun r => (k r).try_ f g
  | .err c x, _, g => g c x
  | .stuck, _, _ => .stuck
theorem Comp.all_try {α β : Type} {Q : Nat → β → Prop} {E : Nat → Str → List D → Prop} {f : α → Comp β} {g : Str → List D → Comp β} : ∀ {c : Comp α} {n : Nat},
    (c.try_ f g).all Q E n ↔ c.all (fun m a => (f a).all Q E m) (fun m c x => (g c x).all Q E m) n
  | .ret a, n => Iff.rfl
  | .draw many k, n => by
    constructor
    · rintro ⟨m, e, h0, h⟩
      exact ⟨m, e, h0, fun r hr => Comp.all_try.mp (h r hr)⟩
    · rintro ⟨m, e, h0, h⟩
      exact ⟨m, e, h0, fun r hr => Comp.all_try.mpr (h r hr)⟩
  | .err c x, n => Iff.rfl
  | .stuck, n => Iff.rfl
/-- the entry (pn, h, z); and what stands since some later place (pb, hb, zb) -/
structure Bs where
  pn : Pn
  h : Hp
  z : Addr → Prop
  pb : Pn
  hb : Hp
  zb : Addr → Prop
  /-- what is lent to a slot stays there -/
  fix : Nat → Option Addr
structure SOk (K : PySem.W.Frag) (B : Bs) (PN : Pn) (H : Hp) (Z : Addr → Prop) (ρ : Env) (σ : L2.St) (o : Addr → Option Nat) : Prop where
  mv : Mv B.pn B.h PN H
  zk : Zk PN Z H
  z0 : ∀ a, Z a → B.z a ∨ B.h a = none
  old : Pres B.zb B.hb H
  pold : ∀ pc, B.pb = some pc → PN = some pc
  zold : ∀ a, B.zb a → Z a
  len : ρ.length = σ.length
  slot : ∀ i d, ρ[i]? = some (some d) → ∃ v f, σ[i]? = some (some v) ∧ f.Nodup ∧ (∀ a ∈ f, o a = some i) ∧ Rep K PN H Z v d f
  own : ∀ a i, o a = some i → B.h a = none ∧ ¬ Z a ∧ NP PN a ∧ H a ≠ none
  fix : ∀ i a d, B.fix i = some a → ρ[i]? = some (some d) → brw d = true → σ[i]? = some (some (.ref a))
section
variable {K : PySem.W.Frag} {B : Bs} {PN PN' : Pn} {H H' : Hp} {Z Z' : Addr → Prop} {ρ : Env} {σ : L2.St} {o : Addr → Option Nat} {m n : Nat} {vs : List Nat}
/-- an expression ran: what is owned stood still -/
theorem SOk.step (s : SOk K B PN H Z ρ σ o) (p : Pens PN n H) (mv : Mv PN H PN' H') : SOk K B PN' H' Z ρ σ o where
  mv := s.mv.trans mv
  zk := s.zk.step mv
  z0 := s.z0
  old := s.old.trans s.zold (mv.pres p s.zk)
  pold := fun pc h => mv.sub pc (s.pold pc h)
  zold := s.zold
  len := s.len
  slot := fun i d hd => by
    obtain ⟨v, f, h1, h2, h3, h4⟩ := s.slot i d hd
    exact ⟨v, f, h1, h2, h3, Rep.to (mv.pres p s.zk) mv.sub (fun _ h => h) d (fun a ha ob e => mv.ext a ob e (s.own a i (h3 a ha)).2.2.1) h4⟩
  own := fun a i h => by
    obtain ⟨h1, h2, h3, h4⟩ := s.own a i h
    exact ⟨h1, h2, mv.np h3 h4, fun e => h4 (mv.keep a e)⟩
  fix := s.fix
def fzE (ρ : Env) : Env := ρ.map (Option.map fz)
theorem fzE_get {i : Nat} {d : D} (h : (fzE ρ)[i]? = some (some d)) : ∃ e, ρ[i]? = some (some e) ∧ d = fz e := by
  unfold fzE at h
  rw [List.getElem?_map] at h
  cases e : ρ[i]? with
  | none => rw [e] at h; cases h
  | some x =>
    rw [e] at h
    cases x with
    | none => cases h
    | some y =>
      simp at h
      exact ⟨y, rfl, h.symm⟩
def Zv (Z : Addr → Prop) (o : Addr → Option Nat) (vs : List Nat) : Addr → Prop := fun a => Z a ∨ ∃ i, o a = some i ∧ i ∈ vs
theorem SOk.pk (s : SOk K B PN H Z ρ σ o) (vs : List Nat) : Pk K PN H (Zv Z o vs) vs (fzE ρ) σ ∧ Zk PN (Zv Z o vs) H := by
  refine ⟨⟨by unfold fzE; simp [s.len], fun i hi d hd => ?_⟩, fun a ha => ?_⟩
  · obtain ⟨e, he, rfl⟩ := fzE_get hd
    obtain ⟨v, f, h1, h2, h3, h4⟩ := s.slot i e he
    exact ⟨v, h1, Rep.fz (fun a h => .inl h) e (fun a ha => .inr ⟨i, h3 a ha, hi⟩) h4⟩
  · rcases ha with ha | ⟨i, h, _⟩
    · exact s.zk a ha
    · exact ⟨(s.own a i h).2.2.2, (s.own a i h).2.2.1⟩
mutual
/-- nothing in it may be another's -/
def noShr : D → Bool
  | .lst o xs => o != .f && noShrL xs
  | .dct o _ xs => o != .f && noShrL xs
  | .tup xs => noShrL xs
  | .pr xs => noShrL xs
  | .exc _ xs => xs.isEmpty
  | .obj o _ xs => o != .f && noShrL xs
  | .fn _ => true
  | .non => true
  | .bl _ => true
  | .int _ => true
  | .str _ => true
  | .pen => true
  | .scr _ => true
def noShrL : List D → Bool
  | [] => true
  | d :: ds => noShr d && noShrL ds
end
mutual
theorem Rep.anyZ : ∀ (d : D) {v : V} {fp : List Addr}, noShr d = true → Rep K PN H Z v d fp → Rep K PN H Z' v d fp
  | .non, _, _, _, .non => .non
  | .bl _, _, _, _, .bl => .bl
  | .int _, _, _, _, .int => .int
  | .str _, _, _, _, .str => .str
  | .tup ds, _, _, n, .tup h r => .tup h (RepL.anyZ ds n r)
  | .pr ds, _, _, n, .pr h r => .pr h (RepL.anyZ ds n r)
  | .exc _ _, _, _, _, .exc0 h => .exc0 h
  | .exc _ [.str _, _], _, _, n, .exc1 _ _ _ _ => by simp [noShr] at n
  | .lst _ ds, _, _, n, .own ho h r => .own ho h (RepL.anyZ ds (by simp only [noShr, Bool.and_eq_true] at n; exact n.2) r)
  | .dct _ _ ds, _, _, n, .down ho h l r => .down ho h l (RepL.anyZ ds (by simp only [noShr, Bool.and_eq_true] at n; exact n.2) r)
  | .obj _ _ ds, _, _, n, .oown ho h h2 l l2 r => .oown ho h h2 l l2 (RepL.anyZ ds (by simp only [noShr, Bool.and_eq_true] at n; exact n.2) r)
  | .lst .f ds, _, _, n, .shr _ _ _ => by simp [noShr] at n
  | .dct .f _ ds, _, _, n, .dshr _ _ _ _ => by simp [noShr] at n
  | .obj .f _ ds, _, _, n, .oshr _ _ _ _ _ _ _ => by simp [noShr] at n
  | .fn _, _, _, _, .fn => .fn
  | .pen, _, _, _, .pen h => .pen h
  | .scr _, _, _, _, .scr h => .scr h
theorem RepL.anyZ : ∀ (ds : List D) {vs : List V} {fp : List Addr}, noShrL ds = true → RepL K PN H Z vs ds fp → RepL K PN H Z' vs ds fp
  | [], _, _, _, .nil => .nil
  | d :: ds, _, _, n, .cons r q => .cons (Rep.anyZ d (by rw [noShrL, Bool.and_eq_true] at n; exact n.1) r) (RepL.anyZ ds (by rw [noShrL, Bool.and_eq_true] at n; exact n.2) q)
end
def frzE (vs : List Nat) (ρ : Env) : Env := ρ.mapIdx fun i x => if vs.contains i then x.map fz else x
theorem frzE_length : (frzE vs ρ).length = ρ.length := by unfold frzE; simp
theorem frzE_get {i : Nat} {d : D} (h : (frzE vs ρ)[i]? = some (some d)) : ∃ e, ρ[i]? = some (some e) ∧ ((i ∈ vs ∧ d = fz e) ∨ (i ∉ vs ∧ d = e)) := by
  unfold frzE at h
  rw [List.getElem?_mapIdx] at h
  cases e : ρ[i]? with
  | none => rw [e] at h; cases h
  | some x =>
    rw [e] at h
    cases x with
    | none => simp at h
    | some y =>
      refine ⟨y, rfl, ?_⟩
      by_cases hi : i ∈ vs
      · simp [hi] at h
        exact .inl ⟨hi, h.symm⟩
      · simp [hi] at h
        exact .inr ⟨hi, h.symm⟩
/-- what the value of an expression does to the names that it read -/
def upE (vs : List Nat) (d : D) (ρ : Env) : Env := if noShr d then ρ else frzE vs ρ
/-- names given up -/
theorem SOk.freeze (s : SOk K B PN H Z ρ σ o) (vs : List Nat) : SOk K B PN H (Zv Z o vs) (frzE vs ρ) σ (fun a => (o a).bind fun i => if i ∈ vs then none else some i) where
  mv := s.mv
  zk := (s.pk vs).2
  z0 := fun a ha => by
    rcases ha with ha | ⟨i, h, _⟩
    · exact s.z0 a ha
    · exact .inr (s.own a i h).1
  old := s.old
  pold := s.pold
  zold := fun a h => .inl (s.zold a h)
  len := by rw [frzE_length]; exact s.len
  slot := fun i d hd => by
    obtain ⟨e, he, h⟩ := frzE_get hd
    obtain ⟨v, f, h1, h2, h3, h4⟩ := s.slot i e he
    rcases h with ⟨hi, rfl⟩ | ⟨hi, rfl⟩
    · exact ⟨v, [], h1, List.Pairwise.nil, fun _ h => (nomatch h), Rep.fz (fun a h => .inl h) e (fun a ha => .inr ⟨i, h3 a ha, hi⟩) h4⟩
    · refine ⟨v, f, h1, h2, fun a ha => ?_, Rep.to ⟨fun _ _ h _ => h, fun _ _ h => h, fun _ _ _ h => h⟩ (fun _ h => h) (fun a h => .inl h) d (fun _ _ _ h => h) h4⟩
      rw [h3 a ha]
      simp [hi]
  own := fun a i h => by
    cases e : o a with
    | none => rw [e] at h; cases h
    | some j =>
      rw [e] at h
      by_cases hj : j ∈ vs
      · simp [hj] at h
      · simp [hj] at h
        subst h
        obtain ⟨h1, h2, h3, h4⟩ := s.own a j e
        refine ⟨h1, fun hz => ?_, h3, h4⟩
        rcases hz with hz | ⟨k, hk, hm⟩
        · exact h2 hz
        · rw [e] at hk
          cases hk
          exact hj hm
  fix := fun i a d hi hd hb => by
    obtain ⟨e, he, h⟩ := frzE_get hd
    rcases h with ⟨_, rfl⟩ | ⟨_, rfl⟩
    · rw [brw_fz] at hb; cases hb
    · exact s.fix i a d hi he hb
/-- a value is stored, what it owns with it -/
theorem SOk.put (s : SOk K B PN H Z ρ σ o) {i : Nat} {v : V} {d : D} {fp : List Addr} (nd : fp.Nodup) (hf : ∀ a ∈ fp, B.h a = none ∧ ¬ Z a ∧ NP PN a ∧ H a ≠ none ∧ (∀ j, o a = some j → j = i)) (hb : brw d = false) (r : Rep K PN H Z v d fp) :
    SOk K B PN H Z (ρ.set i (some d)) (σ.set i (some v)) (fun a => if a ∈ fp then some i else if o a = some i then none else o a) where
  mv := s.mv
  zk := s.zk
  z0 := s.z0
  old := s.old
  pold := s.pold
  zold := s.zold
  len := by simp [s.len]
  slot := fun j e he => by
    by_cases hj : i = j
    · subst hj
      have hl : i < ρ.length := by
        have := (List.getElem?_eq_some_iff.mp he).1
        simpa using this
      rw [List.getElem?_set_self hl] at he
      cases he
      exact ⟨v, fp, by rw [List.getElem?_set_self (by rw [← s.len]; exact hl)], nd, fun a ha => if_pos ha, r⟩
    · rw [List.getElem?_set_ne hj] at he
      obtain ⟨u, f, h1, h2, h3, h4⟩ := s.slot j e he
      refine ⟨u, f, by rw [List.getElem?_set_ne hj]; exact h1, h2, fun a ha => ?_, h4⟩
      have hn : a ∉ fp := fun q => hj ((hf a q).2.2.2.2 j (h3 a ha)).symm
      rw [if_neg hn, if_neg (by rw [h3 a ha]; simpa using fun q => hj q.symm)]
      exact h3 a ha
  own := fun a j h => by
    by_cases ha : a ∈ fp
    · obtain ⟨h1, h2, h3, h4, _⟩ := hf a ha
      exact ⟨h1, h2, h3, h4⟩
    · rw [if_neg ha] at h
      split at h
      · cases h
      · exact s.own a j h
  fix := fun j a e hj he hbe => by
    by_cases hij : i = j
    · subst hij
      have hl : i < ρ.length := by
        have := (List.getElem?_eq_some_iff.mp he).1
        simpa using this
      rw [List.getElem?_set_self hl] at he
      cases he
      rw [hb] at hbe
      cases hbe
    · rw [List.getElem?_set_ne hij] at he ⊢
      exact s.fix j a e hj he hbe
def Bs.at (B : Bs) (PN : Pn) (H : Hp) (Z : Addr → Prop) : Bs := { B with pb := PN, hb := H, zb := Z }
theorem SOk.rebase (s : SOk K B PN H Z ρ σ o) : SOk K (B.at PN H Z) PN H Z ρ σ o := ⟨s.mv, s.zk, s.z0, .refl, fun _ h => h, fun _ h => h, s.len, s.slot, s.own, s.fix⟩
theorem SOk.unbase (s : SOk K B PN H Z ρ σ o) (s' : SOk K (B.at PN H Z) PN' H' Z' ρ' σ' o') : SOk K B PN' H' Z' ρ' σ' o' :=
  ⟨s'.mv, s'.zk, s'.z0, s.old.trans s.zold s'.old, fun pc h => s'.pold pc (s.pold pc h), fun a h => s'.zold a (s.zold a h), s'.len, s'.slot, s'.own, s'.fix⟩
/-- more is given up, nothing of it owned -/
theorem SOk.more (s : SOk K B PN H Z ρ σ o) (zk : Zk PN Z' H) (up : ∀ a, Z a → Z' a) (z0 : ∀ a, Z' a → B.z a ∨ B.h a = none) (own : ∀ a i, o a = some i → ¬ Z' a) : SOk K B PN H Z' ρ σ o :=
  ⟨s.mv, zk, z0, s.old, s.pold, fun a h => up a (s.zold a h), s.len, fun i d hd => by
    obtain ⟨v, f, h1, h2, h3, h4⟩ := s.slot i d hd
    exact ⟨v, f, h1, h2, h3, Rep.to .refl (fun _ h => h) up d (fun _ _ _ h => h) h4⟩, fun a i h => ⟨(s.own a i h).1, own a i h, (s.own a i h).2.2⟩, s.fix⟩
/-- an expression's value, not yet stored -/
theorem SOk.gain (s : SOk K B PN H Z ρ σ o) (p : Pens PN n H) {v : V} {d : D} (ev : Ev K PN H (Zv Z o vs) m v d PN' H') :
    Pens PN' m H' ∧ ∃ Z' o' fp, SOk K B PN' H' Z' (upE vs d ρ) σ o' ∧ fp.Nodup ∧ (∀ a ∈ fp, B.h a = none ∧ ¬ Z' a ∧ NP PN' a ∧ H' a ≠ none ∧ ∀ j, o' a ≠ some j) ∧ Rep K PN' H' Z' v d fp := by
  obtain ⟨hb, fp, Z1, mv, p', nd, hf, hz, r⟩ := ev
  refine ⟨p', ?_⟩
  have fr : ∀ a ∈ fp, B.h a = none ∧ NP PN' a ∧ H' a ≠ none ∧ ∀ j, o a ≠ some j := fun a ha => by
    obtain ⟨h1, h2, h3⟩ := hf a ha
    exact ⟨s.mv.keep a h1, h2, h3, fun j hj => (s.own a j hj).2.2.2 h1⟩
  unfold upE
  by_cases hn : noShr d = true
  · rw [if_pos hn]
    refine ⟨Z, o, fp, s.step p mv, nd, fun a ha => ?_, Rep.anyZ d hn r⟩
    obtain ⟨h1, h2, h3, h4⟩ := fr a ha
    exact ⟨h1, fun q => (s.zk a q).1 (hf a ha).1, h2, h3, h4⟩
  · rw [if_neg hn]
    have sf := (s.freeze vs).step p mv
    have back : ∀ a, Z1 a → Zv Z o vs a ∨ H a = none := fun a ha => (hz a ha).1
    have sg := sf.more (Z' := fun a => Zv Z o vs a ∨ Z1 a) (fun a ha => by
      rcases ha with ha | ha
      · exact sf.zk a ha
      · exact ⟨(hz a ha).2.2.2, (hz a ha).2.2.1⟩) (fun a h => .inl h) (fun a ha => by
      rcases ha with ha | ha
      · exact sf.z0 a ha
      · rcases back a ha with q | q
        · exact sf.z0 a q
        · exact .inr (s.mv.keep a q)) (fun a i hi q => by
      have q' : Zv Z o vs a ∨ H a = none := by
        rcases q with q | q
        · exact .inl q
        · exact back a q
      rcases q' with q | q
      · exact (sf.own a i hi).2.1 q
      · have ho : ∃ k, o a = some k := by
          cases e : o a with
          | none => rw [e] at hi; cases hi
          | some k => exact ⟨k, rfl⟩
        obtain ⟨k, hk⟩ := ho
        exact (s.own a k hk).2.2.2 q)
    refine ⟨_, _, fp, sg, nd, fun a ha => ?_, Rep.to .refl (fun _ h => h) (fun a h => .inr h) d (fun _ _ _ h => h) r⟩
    obtain ⟨h1, h2, h3, h4⟩ := fr a ha
    refine ⟨h1, fun q => ?_, h2, h3, fun j hj => ?_⟩
    · rcases q with q | q
      · exact ((s.pk vs).2 a q).1 (hf a ha).1
      · exact (hz a q).2.1 ha
    · cases e : o a with
      | none => rw [e] at hj; cases hj
      | some k => exact h4 k e
/-- an expression's value is stored -/
theorem SOk.store (s : SOk K B PN H Z ρ σ o) (p : Pens PN n H) {i : Nat} {v : V} {d : D} (ev : Ev K PN H (Zv Z o vs) m v d PN' H') :
    Pens PN' m H' ∧ ∃ Z' o', SOk K B PN' H' Z' ((upE vs d ρ).set i (some d)) (σ.set i (some v)) o' := by
  obtain ⟨p', Z', o', fp, s', nd, hf, r⟩ := s.gain p ev
  exact ⟨p', Z', _, s'.put (i := i) nd (fun a ha => ⟨(hf a ha).1, (hf a ha).2.1, (hf a ha).2.2.1, (hf a ha).2.2.2.1, fun j hj => absurd hj ((hf a ha).2.2.2.2 j)⟩) ev.1 r⟩
/-- what an error does to the names that were read -/
def upX (vs : List Nat) (x : List D) (ρ : Env) : Env := if x.isEmpty then ρ else frzE vs ρ
theorem SOk.err (s : SOk K B PN H Z ρ σ o) (p : Pens PN n H) {c : Str} {x : List D} {od : Option Addr} (sh : Sh K PN H (Zv Z o vs) m PN' H' Z') (e : ErrAt K PN' H' Z' c x od) :
    ∃ Z2 o2, SOk K B PN' H' Z2 (upX vs x ρ) σ o2 ∧ ErrAt K PN' H' Z2 c x od := by
  have noOwn : ∀ a i, o a = some i → i ∉ vs → ¬ Z' a := fun a i hi hv q => by
    rcases sh.down a q with q | q
    · rcases q with q | ⟨j, hj, hm⟩
      · exact (s.own a i hi).2.1 q
      · rw [hi] at hj; cases hj; exact hv hm
    · exact (s.own a i hi).2.2.2 q
  have z0' : ∀ a, Z' a → B.z a ∨ B.h a = none := fun a q => by
    rcases sh.down a q with q | q
    · rcases q with q | ⟨j, hj, hm⟩
      · exact s.z0 a q
      · exact .inr (s.own a j hj).1
    · exact .inr (s.mv.keep a q)
  unfold upX
  by_cases hn : x.isEmpty = true
  · rw [if_pos hn]
    have s' := s.step p sh.mv
    rcases e with ⟨e1, e2⟩ | ⟨f, v, d, dd, e1, _⟩
    · exact ⟨Z, o, s', .inl ⟨e1, e2⟩⟩
    · rw [e1] at hn
      cases hn
  · rw [if_neg hn]
    have sf := (s.freeze vs).step p sh.mv
    refine ⟨Z', _, sf.more sh.zk sh.up z0' (fun a i hi q => ?_), e⟩
    cases ho : o a with
    | none => rw [ho] at hi; cases hi
    | some k =>
      rw [ho] at hi
      by_cases hk : k ∈ vs
      · simp [hk] at hi
      · exact noOwn a k ho hk q
end
/-- a value that is handed back, and what stands then -/
def RtOk (K : PySem.W.Frag) (B : Bs) (m : Nat) (ρ : Env) (v : V) (d : D) (PN' : Pn) (H' : Hp) : Prop := brw d = false ∧ ∃ σ Z' o' fp, SOk K B PN' H' Z' ρ σ o' ∧ Pens PN' m H' ∧ fp.Nodup ∧
  (∀ a ∈ fp, B.h a = none ∧ ¬ Z' a ∧ NP PN' a ∧ H' a ≠ none ∧ ∀ j, o' a ≠ some j) ∧ Rep K PN' H' Z' v d fp
theorem RtOk.ev {K : PySem.W.Frag} {B : Bs} {m : Nat} {ρ : Env} {v : V} {d : D} {PN' : Pn} {H' : Hp} (r : RtOk K B m ρ v d PN' H') : Ev K B.pn B.h B.z m v d PN' H' := by
  obtain ⟨hb, σ, Z', o', fp, s, p, nd, hf, r⟩ := r
  exact ⟨hb, fp, Z', s.mv, p, nd, fun a ha => ⟨(hf a ha).1, (hf a ha).2.2.1, (hf a ha).2.2.2.1⟩, fun a ha => ⟨s.z0 a ha, fun q => (hf a q).2.1 ha, (s.zk a ha).2, (s.zk a ha).1⟩, r⟩
def SPost (X : Cx) (W : WX) (D' : Ends) (B : Bs) : Nat → Fl × Env → Prop := fun m r =>
  match r.1 with
  | .rt d => ∀ v PN' H', RtOk X.K B m r.2 v d PN' H' → D'.rt v H'
  | .nx => ∀ PN' H' Z' σ' o', SOk X.K B PN' H' Z' r.2 σ' o' → Pens PN' m H' → D'.nx σ' H'
  | .bk => ∀ PN' H' Z' σ' o', SOk X.K B PN' H' Z' r.2 σ' o' → Pens PN' m H' → D'.bk σ' H'
  | .ct => ∀ PN' H' Z' σ' o', SOk X.K B PN' H' Z' r.2 σ' o' → Pens PN' m H' → D'.ct σ' H'
  | .er c x => ∀ od PN' H' Z' σ' o', SOk X.K B PN' H' Z' r.2 σ' o' → Pens PN' m H' → ErrAt X.K PN' H' Z' c x od → W (.ref (He.ga X.K c)) od σ' H'
abbrev NoErr : Nat → Str → List D → Prop := fun _ _ _ => False
def sPre (X : Cx) (W : WX) (f : Env → Comp (Fl × Env)) : TS := fun D' σ H => ∃ B PN n Z ρ o, SOk X.K B PN H Z ρ σ o ∧ Pens PN n H ∧ (f ρ).all (SPost X W D' B) NoErr n
abbrev SV (X : Cx) (W : WX) (f : Env → Comp (Fl × Env)) (st : Stmt) : Prop := PS X st (sPre X W f)
abbrev SVs (X : Cx) (W : WX) (f : Env → Comp (Fl × Env)) (st : List Stmt) : Prop := PSs X st (sPre X W f)
/-- run an expression in a statement -/
def run (vs : List Nat) (f : Env → Comp D) (ρ : Env) (k : D → Comp (Fl × Env)) : Comp (Fl × Env) := (f (fzE ρ)).try_ k fun c x => .ret (.er c x, upX vs x ρ)
def runB (vs : List Nat) (f : Env → Comp Bool) (ρ : Env) (k : Bool → Comp (Fl × Env)) : Comp (Fl × Env) := (f (fzE ρ)).try_ k fun c x => .ret (.er c x, upX vs x ρ)
section
variable {X : Cx} {W : WX} {vs : List Nat}
theorem run_pre {f : Env → Comp D} {ρ : Env} {k : D → Comp (Fl × Env)} {D' : Ends} {σ : L2.St} {H : Hp} {Q : VK} {B : Bs} {PN : Pn} {Z : Addr → Prop} {o : Addr → Option Nat} {n : Nat}
    (s : SOk X.K B PN H Z ρ σ o) (p : Pens PN n H) (h : (run vs f ρ k).all (SPost X W D' B) NoErr n)
    (q : ∀ m d v PN' H', Ev X.K PN H (Zv Z o vs) m v d PN' H' → (k d).all (SPost X W D' B) NoErr m → Q v H') : ePre X.K X.mg W vs f σ H Q := by
  rw [run, Comp.all_try] at h
  obtain ⟨k1, z1⟩ := s.pk vs
  refine ⟨PN, n, Zv Z o vs, fzE ρ, k1, z1, p, Comp.all_mono (fun m d h v PN' H' ev => q m d v PN' H' ev h) (fun m c x h => ?_) h⟩
  intro od PN' H' Z' sh e
  obtain ⟨Z2, o2, s2, e2⟩ := s.err p sh e
  exact h od PN' H' Z2 σ o2 s2 sh.pens e2
theorem runB_pre {f : Env → Comp Bool} {ρ : Env} {k : Bool → Comp (Fl × Env)} {D' : Ends} {σ : L2.St} {H : Hp} {Q : Bool → Hp → Prop} {B : Bs} {PN : Pn} {Z : Addr → Prop} {o : Addr → Option Nat} {n : Nat}
    (s : SOk X.K B PN H Z ρ σ o) (p : Pens PN n H) (h : (runB vs f ρ k).all (SPost X W D' B) NoErr n)
    (q : ∀ m b PN' H', SOk X.K B PN' H' Z ρ σ o → Pens PN' m H' → (k b).all (SPost X W D' B) NoErr m → Q b H') : bPre X.K X.mg W vs f σ H Q := by
  rw [runB, Comp.all_try] at h
  obtain ⟨k1, z1⟩ := s.pk vs
  refine ⟨PN, n, Zv Z o vs, fzE ρ, k1, z1, p, Comp.all_mono (fun m d h PN' H' Z' sh => q m d PN' H' (s.step p sh.mv) sh.pens h) (fun m c x h => ?_) h⟩
  intro od PN' H' Z' sh e
  obtain ⟨Z2, o2, s2, e2⟩ := s.err p sh e
  exact h od PN' H' Z2 σ o2 s2 sh.pens e2
def sNil : Env → Comp (Fl × Env) := fun ρ => .ret (.nx, ρ)
def sSeq (f g : Env → Comp (Fl × Env)) : Env → Comp (Fl × Env) := fun ρ => (f ρ).bind fun r => match r with
  | (.nx, ρ') => g ρ'
  | r => .ret r
theorem svs_nil : SVs X W sNil [] := pssW pss_nil fun D' σ H h => by
  obtain ⟨B, PN, n, Z, ρ, o, s, p, h⟩ := h
  exact h PN H Z σ o s p
theorem svs_one {f : Env → Comp (Fl × Env)} {st : Stmt} (h : SV X W f st) : SVs X W f [st] := pss_one h
theorem svs_cons {f g : Env → Comp (Fl × Env)} {st : Stmt} {sts : List Stmt} (h : SV X W f st) (h2 : SVs X W g sts) : SVs X W (sSeq f g) (st :: sts) := by
  refine pssW (pss_cons h h2) fun D' σ H h => ?_
  obtain ⟨B, PN, n, Z, ρ, o, s, p, h⟩ := h
  rw [sSeq, Comp.all_bind] at h
  refine ⟨B, PN, n, Z, ρ, o, s, p, Comp.all_mono (fun m r h => ?_) (fun _ _ _ h => h) h⟩
  obtain ⟨fl, ρ'⟩ := r
  cases fl with
  | nx => exact fun PN' H' Z' σ' o' s' p' => ⟨B, PN', m, Z', ρ', o', s', p', h⟩
  | bk => exact h
  | ct => exact h
  | rt d => exact h
  | er c x => exact h
def sAsg (i : Nat) (vs : List Nat) (f : Env → Comp D) : Env → Comp (Fl × Env) := fun ρ => run vs f ρ fun d => .ret (.nx, (upE vs d ρ).set i (some d))
theorem sv_asg {i : Nat} {x : Str} {e : Expr} {f : Env → Comp D} {pos pos' : Pos} (hN : X.N.Nodup) (he : EV X W vs f e) (hi : X.N[i]? = some x := by rfl) (hx : Loc X.env.scope x := by first | exact Or.inl rfl | exact Or.inr rfl) (hs : swapsWith e (some (.Name x pos')) pos.line X.env = pure false := by rfl)
    (hf : X.fn x = true ∨ X.env.scope.names.lookup x = some .local := by first | exact .inl rfl | exact .inr rfl) : SV X W (sAsg i vs f) (.Assign [.Name x pos'] e pos) := by
  refine psW (ps_set hN hi hx he hs hf) fun D' σ H h => ?_
  obtain ⟨B, PN, n, Z, ρ, o, s, p, h⟩ := h
  refine run_pre (Q := fun v H1 => gName i v σ H1 D'.nx) s p h fun m d v PN' H' ev h => ?_
  obtain ⟨p', Z', o', s'⟩ := s.store (i := i) p ev
  exact h PN' H' Z' _ o' s' p'
def sExpr (vs : List Nat) (f : Env → Comp D) : Env → Comp (Fl × Env) := fun ρ => run vs f ρ fun d => .ret (.nx, ρ)
def sRet (vs : List Nat) (f : Env → Comp D) : Env → Comp (Fl × Env) := fun ρ => run vs f ρ fun d => .ret (.rt d, upE vs d ρ)
theorem sv_ret {e : Expr} {f : Env → Comp D} {pos : Pos} (he : EV X W vs f e) : SV X W (sRet vs f) (.Return (some e) pos) := by
  refine psW (ps_ret he) fun D' σ H h => ?_
  obtain ⟨B, PN, n, Z, ρ, o, s, p, h⟩ := h
  refine run_pre (Q := D'.rt) s p h fun m d v PN' H' ev h => ?_
  obtain ⟨p', Z', o', fp, s', nd, hf, r⟩ := s.gain p ev
  exact h v PN' H' ⟨ev.1, σ, Z', o', fp, s', p', nd, hf, r⟩
/-- return x, x a list of its own -/
def sRetV (i : Nat) : Env → Comp (Fl × Env) := fun ρ => match ρ[i]? with
  | some (some d) => if brw d then .stuck else .ret (.rt d, ρ.set i none)
  | _ => .stuck
theorem sv_retV (i : Nat) {x : Str} {p0 pos : Pos} (hN : X.N[i]? = some x := by rfl) (hv : Vis X.env.scope x := by first | exact Or.inl rfl | exact Or.inr (Or.inl rfl) | exact Or.inr (Or.inr rfl))
    (hd : (x == ("__debug__" : Str)) = false := by decide) (hcd : (x == ("__classdict__" : Str)) = false := by decide) : SV X W (sRetV i) (.Return (some (.Name x p0)) pos) := by
  refine psW (ps_ret (pe_var hN hv hd hcd)) fun D' σ H h => ?_
  obtain ⟨B, PN, n, Z, ρ, o, s, p, h⟩ := h
  unfold sRetV at h
  split at h
  · rename_i d e
    obtain ⟨v, f, h1, h2, h3, h4⟩ := s.slot i d e
    by_cases hb : brw d = true
    · rw [if_pos hb] at h
      exact h.elim
    rw [if_neg hb] at h
    refine ⟨v, h1, h v PN H ⟨by simpa using hb, σ, Z, fun a => if o a = some i then none else o a, f, ⟨s.mv, s.zk, s.z0, s.old, s.pold, s.zold, by simp [s.len], fun j e he => ?_, fun a j ha => ?_, fun j a e hj he hbe => ?_⟩, p, h2, fun a ha => ?_, h4⟩⟩
    · by_cases hj : i = j
      · subst hj
        have hl : i < ρ.length := by
          have := (List.getElem?_eq_some_iff.mp he).1
          simpa using this
        rw [List.getElem?_set_self hl] at he
        cases he
      · rw [List.getElem?_set_ne hj] at he
        obtain ⟨u, g, g1, g2, g3, g4⟩ := s.slot j e he
        exact ⟨u, g, g1, g2, fun a ha => by rw [if_neg (by rw [g3 a ha]; simpa using fun q => hj q.symm)]; exact g3 a ha, g4⟩
    · split at ha
      · cases ha
      · exact s.own a j ha
    · by_cases hj2 : i = j
      · subst hj2
        have hl : i < ρ.length := by
          have := (List.getElem?_eq_some_iff.mp he).1
          simpa using this
        rw [List.getElem?_set_self hl] at he
        cases he
      · rw [List.getElem?_set_ne hj2] at he
        exact s.fix j a e hj he hbe
    · obtain ⟨q1, q2, q3, q4⟩ := s.own a i (h3 a ha)
      exact ⟨q1, q2, q3, q4, fun j hj => by
        have hj' : (if o a = some i then none else o a) = some j := hj
        rw [if_pos (h3 a ha)] at hj'
        cases hj'⟩
  · exact h.elim
def sRetN : Env → Comp (Fl × Env) := fun ρ => .ret (.rt .non, ρ)
def sBreak : Env → Comp (Fl × Env) := fun ρ => .ret (.bk, ρ)
def sCont : Env → Comp (Fl × Env) := fun ρ => .ret (.ct, ρ)
def sIf (vs : List Nat) (c : Env → Comp Bool) (f g : Env → Comp (Fl × Env)) : Env → Comp (Fl × Env) := fun ρ => runB vs c ρ fun b => if b then f ρ else g ρ
theorem sv_if {c : Env → Comp Bool} {f g : Env → Comp (Fl × Env)} {e : Expr} {a b : List Stmt} {pos : Pos} (hc : EB X W vs c e) (ha : SVs X W f a) (hb : SVs X W g b) : SV X W (sIf vs c f g) (.If e a b pos) := by
  refine psW (ps_if hc ha hb) fun D' σ H h => ?_
  obtain ⟨B, PN, n, Z, ρ, o, s, p, h⟩ := h
  refine runB_pre (Q := fun b H1 => if b = true then sPre X W f D' σ H1 else sPre X W g D' σ H1) s p h fun m b PN' H' s' p' h => ?_
  cases b with
  | true => exact ⟨B, PN', m, Z, ρ, o, s', p', h⟩
  | false => exact ⟨B, PN', m, Z, ρ, o, s', p', h⟩
def sRaise (c : Str) : Env → Comp (Fl × Env) := fun ρ => .ret (.er c [], ρ)
end
end Mid
namespace Mid
open PySem PySem.Spec PyProof.Rows L2
abbrev Calm (A : Around) : Prop := A.guards = some []
structure FnG (P : Program) (w : World) (K : PySem.W.Frag) (mg : Str → Option Value) (base : Heap) (k : Nat) (f : Addr) (fd : FuncData) (ps : List Str) (sp : Sp) : Prop where
  len : ∀ vs H Q E, sp vs H Q E → vs.length = ps.length
  go : ∀ (A : Around) (outer : List PySem.Env) (s : Shared) (H : Hp) (args : Args) (us : List Value) (vs : List V) (Q : VK) (E : XK), Room k A → Calm A → Env0 P w K mg base A outer s H → BindsTo s fd args (ps.zip us) → Vals vs us → sp vs H Q E →
    codeAny (model P w) A (.call (.ref f) args) (CR (L2.CX P w) outer P w H s Q E) s
theorem FnG.mono {P : Program} {w : World} {K : PySem.W.Frag} {mg : Str → Option Value} {base : Heap} {j k : Nat} {f : Addr} {fd : FuncData} {ps : List Str} {sp : Sp} (F : FnG P w K mg base j f fd ps sp) (h : j ≤ k) : FnG P w K mg base k f fd ps sp :=
  ⟨F.len, fun A outer s H args us vs Q E hr => F.go A outer s H args us vs Q E (hr.mono h)⟩
theorem FnG.imp {P : Program} {w : World} {K : PySem.W.Frag} {mg : Str → Option Value} {base : Heap} {k : Nat} {f : Addr} {fd : FuncData} {ps : List Str} {sp sp' : Sp} (F : FnG P w K mg base k f fd ps sp)
    (h : ∀ vs H Q E, sp' vs H Q E → sp vs H Q E) : FnG P w K mg base k f fd ps sp' :=
  ⟨fun vs H Q E q => F.len vs H Q E (h _ _ _ _ q), fun A outer s H args us vs Q E r c e b v q => F.go A outer s H args us vs Q E r c e b v (h _ _ _ _ q)⟩
abbrev Xf (P : Program) (w : World) (K : PySem.W.Frag) (mg : Str → Option Value) (base : Heap) (N : List Str) (qual : Str) (scope : Scope) (f : Addr) (cd : Value) (A : Around) (outer : List PySem.Env) (s : Shared) (H : Hp) (E : XK) : Cx := cxOf (L2.CX P w) P w K mg base N qual scope f cd A outer s H E
abbrev Wf (E : XK) : WX := fun c d _ H => E c d H
/-- what is promised: F of the arguments -/
def spF (K : PySem.W.Frag) (mg : Str → Option Value) (np : Nat) (F : List D → Comp D) : Sp := fun vs H Q E => ∃ PN n Z ds, ds.length = np ∧ RepL K PN H Z vs ds [] ∧ Zk PN Z H ∧ Pens PN n H ∧
  (F ds).all (fun m d => ∀ v PN' H', Ev K PN H Z m v d PN' H' → Q v H') (fun m c x => ∀ od PN' H' Z', Sh K PN H Z m PN' H' Z' → ErrAt K PN' H' Z' c x od → E (.ref (He.ga K c)) od H') n
def startE (n : Nat) (ds : List D) : Env := ds.map some ++ List.replicate (n - ds.length) none
def fnOut : Fl → Comp D
  | .rt d => .ret d
  | .nx => .ret .non
  | .er c x => .err c x
  | _ => .stuck
def fnB (n : Nat) (body : Env → Comp (Fl × Env)) : List D → Comp D := fun ds => (body (startE n ds)).try_ (fun r => fnOut r.1) fun _ _ => .stuck
theorem startE_get {n : Nat} {ds : List D} {i : Nat} {d : D} (h : (startE n ds)[i]? = some (some d)) : ds[i]? = some d := by
  unfold startE at h
  by_cases hi : i < ds.length
  · rw [List.getElem?_append_left (by simpa using hi), List.getElem?_map] at h
    cases e : ds[i]? with
    | none => rw [e] at h; cases h
    | some y => rw [e] at h; cases h; rfl
  · rw [List.getElem?_append_right (by simpa using hi), List.getElem?_replicate] at h
    split at h <;> cases h
theorem start_get {N : List Str} {vs : List V} {i : Nat} {v : V} (h : vs[i]? = some v) : (L2.start N vs)[i]? = some (some v) := by
  have hi : i < vs.length := (List.getElem?_eq_some_iff.mp h).1
  unfold L2.start
  rw [List.getElem?_append_left (by simpa using hi), List.getElem?_map, h]
  rfl
def eCall (np : Nat) (F : List D → Comp D) (fs : Env → Comp (List D)) : Env → Comp D := fun ρ => (fs ρ).bind fun ds => if ds.length = np then F ds else .stuck
section
variable {X : Cx} {W : WX} {vs : List Nat} {k : Nat} {f : Addr} {fd : FuncData} {ps : List Str} {sp : Sp}
theorem run_fnG {pins : List (Addr × Obj)} {σ : L2.St} {H : Hp} {s : Shared} {Q : VK} {us : List Value} {ws : List V} (F : FnG X.prog X.w X.K X.mg X.base k f fd ps sp) (hr : Room k X.A) (hg : Calm X.A) (hb : Binds X.K fd ps []) (tk : Takes X W)
    (I : Inv X pins σ H s) (r : Vals ws us) (h : sp ws H Q (WE W σ)) : wpAny (model X.prog X.w) X.A (call (.ref f) us) (EP X pins σ Q) X.xe s := by
  have hl : us.length = ps.length := r.length.symm.trans (F.len _ _ _ _ h)
  have b := hb s us I.kIn (by simpa using hl)
  rw [List.append_nil] at b
  refine wpAny_call (codeAny_mono (F.go X.A X.stack s H ⟨us, []⟩ us ws Q (WE W σ) hr hg I.env0 b r h) fun res s' hq => ?_)
  cases res with
  | error e => exact passAt tk σ pins H s e s' I hq
  | ok fl =>
    cases fl with
    | ret u => exact I.after hq
    | next => exact hq.elim
    | brk => exact hq.elim
    | cont => exact hq.elim
def tCallG (sp : Sp) (W : WX) (t : TA) : TE := fun σ H Q => t σ H fun ws H1 => sp ws H1 Q (WE W σ)
theorem pe_callG {x : Str} {p pos : Pos} {e : Expr} {es : List Expr} {t : TA} (F : FnG X.prog X.w X.K X.mg X.base k f fd ps sp) (hr : Room k X.A) (hgd : Calm X.A) (hg : Gl X x) (hm : X.mg x = some (.ref f)) (hk : PySem.W.keepIn X.K (.ref f) = true) (hb : Binds X.K fd ps []) (tk : Takes X W)
    (ha : PA X (e :: es) t) (hdb : (x == ("__debug__" : Str)) = false := by decide) (he : starEach (e :: es) X.env = (false, eval e X.env) :: starEach es X.env := by rfl) (hpl : (backTo pos (starEach es X.env)).any (·.1) = false := by rfl) : PE X (.Call (.Name x p) (e :: es) [] pos) (tCallG sp W t) := by
  constructor
  intro pins s σ H Q I h
  refine wpAny_Call_Name_kw (ld_glob I hg hm ?_ hdb)
  refine PySem.W.callWith_K (h₀ := X.base) I.ok.mod.kin hk (thn (ha.run pos pins s σ H _ I h) fun us s1 q1 => ?_) he hpl
  obtain ⟨ws, H1, I1, r, q⟩ := q1
  exact ⟨I1.kIn, run_fnG F hr hgd hb tk I1 r q⟩
theorem ev_call {F : List D → Comp D} {np : Nat} {fs : Env → Comp (List D)} {x : Str} {p pos : Pos} {e : Expr} {es : List Expr} (G : FnG X.prog X.w X.K X.mg X.base k f fd ps (spF X.K X.mg np F)) (hr : Room k X.A) (hgd : Calm X.A) (hm : X.mg x = some (.ref f)) (hk : PySem.W.keepIn X.K (.ref f) = true) (hb : Binds X.K fd ps []) (tk : Takes X W)
    (ha : EA X W vs fs (e :: es)) (hg : Gl X x := by rfl) (hdb : (x == ("__debug__" : Str)) = false := by decide) (he : starEach (e :: es) X.env = (false, eval e X.env) :: starEach es X.env := by rfl) (hpl : (backTo pos (starEach es X.env)).any (·.1) = false := by rfl) :
    EV X W vs (eCall np F fs) (.Call (.Name x p) (e :: es) [] pos) := by
  refine peW (pe_callG G hr hgd hg hm hk hb tk ha hdb he hpl) fun σ H Q h => ?_
  obtain ⟨PN, n, Z, ρ, k, z, p, h⟩ := h
  rw [eCall, Comp.all_bind] at h
  refine ⟨PN, n, Z, ρ, k, z, p, Comp.all_mono (fun m ds h => fun us PN1 H1 Z1 s1 r1 => ?_) (fun _ _ _ h => h) h⟩
  split at h
  · rename_i hl
    exact ⟨PN1, m, Z1, ds, hl, r1, s1.zk, s1.pens, Comp.all_mono (fun m2 r h => fun w PN3 H3 ev3 => h w PN3 H3 (Ev.back s1 ev3)) (fun m' c x h => fun od PN' H' Z' sh ee => h od PN' H' Z' (s1.trans sh) ee) h⟩
  · exact h.elim
end
end Mid
namespace Mid
open PySem PySem.Spec PyProof.Rows L2
open AutoSeq1 (wpAny_loadPart')
theorem meets_enum1 {v : Value} {o : Obj} {G : Heap → Prop} (B : Begins v o G) :
    Meets (Builtin.«enumerate.__new__» ⟨[.type "enumerate", v], []⟩) (fun _ R s => G s.heap ∧
      R (.ok (.ret (.ref (s.heap.push o).objs.size))) { s with heap := (s.heap.push o).push { cls := .type "enumerate", data := .fields #[.none, .bool false, .ref s.heap.objs.size, rawInt 0, .none, .none] } }) :=
  .of_wp fun prog w A R s hh => by
    obtain ⟨hp, g, d, tk, os⟩ := s
    obtain ⟨g1, hh⟩ := hh
    have sub := sub_enumerate
    have it : ∀ {A2 : Around} {E : Value → Shared → Prop} {Q : Value → Shared → Prop}, Q (.ref hp.objs.size) ⟨hp.push o, g, d, tk, os⟩ → wpAny (model prog w) A2 (pyIter v) Q E ⟨hp, g, d, tk, os⟩ := fun q => B.iter prog w _ _ ⟨hp, g, d, tk, os⟩ _ g1 q
    wp_walk using it
    refine wpAny_stack_any fun st => wpAny_pure ?_
    split
    · rename_i c _ _ _ _ _
      cases (c == Value.type "enumerate") <;> (wp_walk using it; exact ⟨_, rfl, hh⟩)
    · wp_walk using it
      exact ⟨_, rfl, hh⟩
theorem enum1_begins {prog : Program} {w : World} {A : Around} {E : Value → Shared → Prop} {s : Shared} {v : Value} {o : Obj} {G : Heap → Prop} {Q : Value → Shared → Prop} (B : Begins v o G) (g1 : G s.heap)
    (h : ∀ h', IsEnum h' (s.heap.objs.size + 1) s.heap.objs.size 0 .none → h'.get? s.heap.objs.size = some o → h'.objs.size = s.heap.objs.size + 2 →
      (∀ b u, s.heap.get? b = some u → h'.get? b = some u) → Q (.ref (s.heap.objs.size + 1)) { s with heap := h' }) :
    wpAny (model prog w) A (call (.type "enumerate") [v]) Q E s := by
  refine callType_new F.called_enumerate (by decide) (F.typeCall_enumerate_1 _) (F.newCall_enumerate_1 _) (fun ob => F.args_object_init_2 ob _) F.entry_enumerate_new (meets_enum1 B) ⟨g1, ?_⟩
  have sz : (s.heap.push o).objs.size = s.heap.objs.size + 1 := Heap.size_push ..
  show _ ∧ _
  rw [sz]
  have e1 : IsEnum ((s.heap.push o).push { cls := .type "enumerate", data := .fields #[.none, .bool false, .ref s.heap.objs.size, rawInt 0, .none, .none] }) (s.heap.objs.size + 1) s.heap.objs.size 0 .none := by
    have q := Heap.get?_push_size (s.heap.push o) (o := { cls := .type "enumerate", data := .fields #[.none, .bool false, .ref s.heap.objs.size, rawInt 0, .none, .none] }) rfl
    rw [sz] at q
    exact q
  exact ⟨⟨_, e1, rfl⟩, h _ e1 (Heap.get?_push_of_some _ (Heap.get?_push_size _ B.free)) (by rw [Heap.size_push, sz]) fun b u x => Heap.get?_push_of_some _ (Heap.get?_push_of_some _ x)⟩
/-- the tuple at a, each item in a new pair -/
def IteT (K : PySem.W.Frag) (a : Addr) : It :=
  ⟨fun i H => ∃ (xs : List V) (x : V), SqT K H a xs ∧ xs[i]? = some x, fun i H v H' => ∃ T x, v = .ref T ∧ H T = none ∧ H' = upd H T (.tup [.int (i : Nat), x]) ∧ ∀ xs, SqT K H a xs → xs[i]? = some x, fun i H => ∃ xs : List V, SqT K H a xs ∧ xs.length = i⟩
theorem turn_enumT {P : Program} {w : World} {K : PySem.W.Frag} {elts : List Expr} {kk : Nat} {tpos : Pos} (a e it : Addr) (hat : a ≠ it) :
    Turn P w K (.Tuple elts kk tpos) (IteT K a) [e, it] e (fun i h => (∃ old, IsEnum h e it ((i : Nat) : Int) old) ∧ h.IsTupleIter it a i ∧ e ≠ it ∧ e ≠ a) where
  mem := by simp
  obj := fun i h st b hb => by
    obtain ⟨⟨old, he⟩, ⟨o, ho, hc, hd⟩, _⟩ := st
    rcases (show b = e ∨ b = it by simpa using hb) with z | z
    · subst z; exact ⟨_, he, fun v q => nomatch q⟩
    · subst z; exact ⟨_, ho, fun v q => by rw [hd] at q; cases q⟩
  keep := fun i h h' st k => ⟨⟨st.1.choose, k e (by simp) _ st.1.choose_spec⟩, st.2.1.at fun o q => k it (by simp) o q, st.2.2⟩
  item := by
    intro X hP hw hK hc i pins s σ H E I hf st hg
    subst hP hw hK
    obtain ⟨⟨old, he⟩, hit, hne, hea⟩ := st
    obtain ⟨xs, x, hq, hx⟩ := hg
    obtain ⟨its, rv, p, hz⟩ := I.tuple hq
    obtain ⟨u, hu, ru⟩ := rv.get hx
    have hel : e < s.heap.objs.size := Heap.lt_size he
    have hil : it < s.heap.objs.size := by obtain ⟨_, q, _⟩ := hit; exact Heap.lt_size q
    have Dr := Draws.tuple (prog := X.prog) (w := X.w) (A := X.A.in1) (I.ok.hd hc) it a hat its.toArray
    have hlt : i < its.toArray.size := by
      have := (List.getElem?_eq_some_iff.mp hu).1
      simpa using this
    refine wpAny_pyNext_enum_itemD Dr he ⟨hit, show s.heap.IsTuple a its.toArray from p⟩ hlt hne (by simp [hne, hea]) fun y h' tk hy ho hst' hT hsz hk => ?_
    have hyu : y = u := by
      have q : its.toArray[i]? = some y := hy
      simp at q
      rw [hu] at q
      exact (Option.some.inj q).symm
    subst hyu
    refine ⟨_, rfl, wpAny_letOwnedTupleGo_enum (s := { s with heap := h', toks := tk + 1 }) ho fun h'' he' sb => ?_⟩
    have hT2 : h''.get? s.heap.objs.size = some { cls := .type "tuple", data := .seq #[.int i tk, y] } := (sb.2 _ (Nat.ne_of_gt hel)).trans hT
    have new : ObjOk X.prog X.w (upd H s.heap.objs.size (.tup [.int (i : Nat), x])) h'' s.heap.objs.size (.tup [.int (i : Nat), x]) :=
      ⟨by show 2 ≤ sizeLine; decide, [.int i tk, y], .cons ⟨_, rfl⟩ (.cons ru .nil), ⟨_, hT2, rfl, _, rfl⟩⟩
    have I1 : Inv X pins σ (upd H s.heap.objs.size (.tup [.int (i : Nat), x])) { s with heap := h'', toks := tk + 1 } :=
      I.turnedNew (ch := [e, it]) (fun b ob hb q => (sb.2 b (fun z => hb (by simp [z]))).trans (hk b ob (fun z => hb (by simp [z])) (fun z => hb (by simp [z])) q)) hf (Nat.le_refl _) new
    refine ⟨.ref s.heap.objs.size, _, I1, rfl, ⟨_, x, rfl, I.hok.fresh (Nat.le_refl _), rfl, fun ys hy => by rw [I.tuple_inj hy hq]; exact hx⟩, ⟨⟨y, ?_⟩, hst'.1.at fun o q => (sb.2 it (Ne.symm hne)).trans q, hne, hea⟩, fun b hb => ?_⟩
    · have e1 : ((i + 1 : Nat) : Int) = (i : Int) + 1 := by omega
      rw [e1]
      exact he'
    · have hb' : b < s.heap.objs.size := by
        rcases (show b = e ∨ b = it by simpa using hb) with z | z
        · rw [z]; exact hel
        · rw [z]; exact hil
      rw [upd_ne (Nat.ne_of_lt hb')]
      exact (hf b hb).1
  done := by
    intro X hP hw hK hc i pins s σ H E I hf st hg
    subst hP hw hK
    obtain ⟨⟨old, he⟩, hit, hne, hea⟩ := st
    obtain ⟨xs, hq, hx⟩ := hg
    obtain ⟨its, rv, p, hz⟩ := I.tuple hq
    obtain ⟨f0, f1, f2, f3, f4, f5⟩ := hf it (by simp)
    have hl := rv.length
    have Dr := Draws.tuple (prog := X.prog) (w := X.w) (A := X.A.in1) (I.ok.hd hc) it a hat its.toArray
    have hi : i = its.toArray.size := by simp; omega
    subst hi
    exact wpAny_pyNext_enum_endD Dr he ⟨hit, show s.heap.IsTuple a its.toArray from p⟩ fun h' eb => ⟨rfl, I.turned (t' := s.toks) (fun b o hb q => eb b o hb q) f0 f1 f3 f4 f5⟩
  self := fun A i s Q E st h => wpAny_pyIter_enum st.1.choose_spec h
theorem walk_enumT {K : PySem.W.Frag} {a : Addr} {xs : List V} : Walk (IteT K a) xs.length (fun H => SqT K H a xs) (YPair (fun i => some (.int (i : Nat))) (fun i => xs[i]?)) := by
  refine ⟨fun i _ hi q => ⟨xs, xs[i], q, by simp [hi]⟩, fun _ q => ⟨xs, q, rfl⟩, fun i H v H' _ q y => ?_⟩
  obtain ⟨T, x, h1, h2, h3, h4⟩ := y
  exact ⟨T, .int (i : Nat), x, h1, h2, h3, rfl, h4 xs q⟩
/-- J goes through ds, whatever else is done meanwhile -/
def Walks (K : PySem.W.Frag) (PN : Pn) (H : Hp) (Z : Addr → Prop) (ds : List D) (J : It) : Prop :=
  ∀ PN2 H2 Z2 m2, Pres Z H H2 → (∀ pc, PN = some pc → PN2 = some pc) → (∀ a, Z a → Z2 a) → Zk PN2 Z2 H2 → Pens PN2 m2 H2 →
    (∀ i, i < ds.length → J.go i H2 ∧ ∀ x H3, J.yld i H2 x H3 → ∃ d, ds[i]? = some d ∧ Sh K PN2 H2 Z2 m2 PN2 H3 Z2 ∧ Rep K PN2 H3 Z2 x d []) ∧ J.stop ds.length H2
def iPre (K : PySem.W.Frag) (mg : Str → Option Value) (W : WX) (vs : List Nat) (f : Env → Comp (List D)) : TI := fun σ H R => ∃ PN n Z ρ, Pk K PN H Z vs ρ σ ∧ Zk PN Z H ∧ Pens PN n H ∧
  (f ρ).all (fun m ds => ∀ J PN' H' Z', Sh K PN H Z m PN' H' Z' → Walks K PN' H' Z' ds J → R J H') (Out K W PN H Z σ) n
abbrev IV (X : Cx) (W : WX) (vs : List Nat) (f : Env → Comp (List D)) (tg it : Expr) : Prop := PI X tg it (iPre X.K X.mg W vs f)
theorem piW {X : Cx} {tg it : Expr} {t t' : TI} (h : PI X tg it t) (w : ∀ σ H Q, t' σ H Q → t σ H Q) : PI X tg it t' := ⟨fun pins s σ H Q I q => h.run pins s σ H Q I (w σ H Q q)⟩
/-- a heap that only grew by one tuple -/
theorem Sh.tupled {K : PySem.W.Frag} {PN : Pn} {H : Hp} {Z : Addr → Prop} {m : Nat} {p : Addr} {xs : List V} (hp : H p = none) (ps : Pens PN m H) (z : Zk PN Z H) : Sh K PN H Z m PN (upd H p (.tup xs)) Z :=
  ⟨.laid hp, ps.laid hp, z.step (.laid hp), fun _ h => h, fun _ h => .inl h⟩
def pairs : List D → List D → List D
  | d :: ds, e :: es => .pr [d, e] :: pairs ds es
  | _, _ => []
def numbered (k : Nat) : List D → List D
  | [] => []
  | d :: ds => .pr [.int (k : Int), d] :: numbered (k + 1) ds
theorem numbered_length (k : Nat) (ds : List D) : (numbered k ds).length = ds.length := by
  induction ds generalizing k with
  | nil => rfl
  | cons d ds ih => simp [numbered, ih]
theorem numbered_get {ds : List D} : ∀ {k i : Nat}, (numbered k ds)[i]? = ds[i]?.map fun d => .pr [.int ((k + i : Nat) : Int), d] := by
  induction ds with
  | nil => intro k i; simp [numbered]
  | cons d ds ih =>
    intro k i
    cases i with
    | zero => simp [numbered]
    | succ i =>
      simp only [numbered, List.getElem?_cons_succ, ih]
      rw [show k + 1 + i = k + (i + 1) by omega]
theorem pairs_length : ∀ (ds es : List D), (pairs ds es).length = min ds.length es.length
  | [], _ => by simp [pairs]
  | _ :: _, [] => by simp [pairs]
  | _ :: ds, _ :: es => by simp [pairs, pairs_length ds es]
theorem pairs_get : ∀ {ds es : List D} {i : Nat} {d e : D}, ds[i]? = some d → es[i]? = some e → (pairs ds es)[i]? = some (.pr [d, e])
  | [], _, _, _, _, h, _ => by simp at h
  | _ :: _, [], _, _, _, _, h => by simp at h
  | d :: ds, e :: es, 0, _, _, h, h' => by
    simp at h h'
    subst h; subst h'
    rfl
  | d :: ds, e :: es, i + 1, _, _, h, h' => by
    simp only [pairs, List.getElem?_cons_succ]
    exact pairs_get (by simpa using h) (by simpa using h')
theorem walks_pair {K : PySem.W.Frag} {PN : Pn} {H : Hp} {Z : Addr → Prop} {n : Nat} {ds : List D} {f g : Nat → Option V} {J : It} {G : Hp → Prop} (w : Walk J n G (YPair f g)) (hn : ds.length = n) (hg : ∀ H2, Pres Z H H2 → G H2)
    (r : ∀ PN2 H2 Z2 i x y, Pres Z H H2 → (∀ pc, PN = some pc → PN2 = some pc) → (∀ a, Z a → Z2 a) → i < n → f i = some x → g i = some y → ∃ d e, ds[i]? = some (.pr [d, e]) ∧ Rep K PN2 H2 Z2 x d [] ∧ Rep K PN2 H2 Z2 y e []) : Walks K PN H Z ds J := by
  intro PN2 H2 Z2 m2 pr pn zz z2 p2
  have g1 := hg H2 pr
  refine ⟨fun i hi => ⟨w.goes i H2 (by omega) g1, fun v H3 hy => ?_⟩, hn ▸ w.stops H2 g1⟩
  obtain ⟨T, x, y, rfl, nT, rfl, hx, hy⟩ := w.yields i H2 v H3 (by omega) g1 hy
  obtain ⟨d, e, h1, h2, h3⟩ := r PN2 H2 Z2 i x y pr pn zz (by omega) hx hy
  have s : Sh K PN2 H2 Z2 m2 PN2 (upd H2 T (.tup [x, y])) Z2 := Sh.tupled nT p2 z2
  exact ⟨_, h1, s, .pr (SqT.of upd_same) (.cons (f := []) (h2.step s p2 z2) (.cons (f := []) (h3.step s p2 z2) .nil))⟩
def itemsOf : D → Comp (List D)
  | .tup ds => .ret ds
  | .lst _ ds => .ret ds
  | _ => .stuck
/-- the items of a list or tuple -/
def iSeq (f : Env → Comp D) : Env → Comp (List D) := fun ρ => (f ρ).bind fun d => itemsOf (fz d)
section
variable {X : Cx} {W : WX} {vs : List Nat}
/-- it stays so -/
theorem Rep.sqLs {K : PySem.W.Frag} {PN : Pn} {H : Hp} {Z : Addr → Prop} {v : V} {b : Ow} {ds : List D} (h : Rep K PN H Z v (.lst b ds) []) : ∃ a xs, v = .ref a ∧ RepL K PN H Z xs ds [] ∧ ∀ H2, Pres Z H H2 → SqL K H2 a xs := by
  generalize hf : ([] : List Addr) = f at h
  cases h with
  | shr h z r => exact ⟨_, _, rfl, hf ▸ r, fun H2 p => SqL.of (p.lst _ _ h z)⟩
  | own ho h r => cases hf
def rangeL (lo : Int) : Nat → List D
  | 0 => []
  | n + 1 => .int lo :: rangeL (lo + 1) n
theorem rangeL_length : ∀ (n : Nat) (lo : Int), (rangeL lo n).length = n
  | 0, _ => rfl
  | n + 1, lo => by simp [rangeL, rangeL_length n]
theorem rangeL_get : ∀ {n : Nat} {lo : Int} {i : Nat}, i < n → (rangeL lo n)[i]? = some (.int (lo + i))
  | n + 1, lo, 0, _ => by simp [rangeL]
  | n + 1, lo, i + 1, h => by
    simp only [rangeL, List.getElem?_cons_succ]
    rw [rangeL_get (by omega)]
    simp only [Option.some.injEq, D.int.injEq]
    omega
theorem walks_range {K : PySem.W.Frag} {PN : Pn} {H : Hp} {Z : Addr → Prop} {lo : Int} {n : Nat} : Walks K PN H Z (rangeL lo n) (Itr lo n) := by
  intro PN2 H2 Z2 m2 pr pn zz z2 p2
  rw [rangeL_length]
  refine ⟨fun i hi => ⟨hi, fun x H3 hy => ?_⟩, Nat.le_refl _⟩
  obtain ⟨e, hx⟩ := hy
  subst e
  subst hx
  exact ⟨_, rangeL_get hi, Sh.refl p2 z2, .int⟩
def gRange1 : List D → Comp (List D)
  | [.int j] => if -(2 ^ 62) ≤ j ∧ j < 2 ^ 62 then .ret (rangeL 0 j.toNat) else .stuck
  | _ => .stuck
def gRange2 : List D → Comp (List D)
  | [.int i, .int j] => if (-(2 ^ 62) ≤ i ∧ i < 2 ^ 62) ∧ (-(2 ^ 62) ≤ j ∧ j < 2 ^ 62) then .ret (rangeL i (j - i).toNat) else .stuck
  | _ => .stuck
def iOf (g : List D → Comp (List D)) (fs : Env → Comp (List D)) : Env → Comp (List D) := fun ρ => (fs ρ).bind g
theorem RepL.inv0 {K : PySem.W.Frag} {PN : Pn} {H : Hp} {Z : Addr → Prop} {vs : List V} {fp : List Addr} (h : RepL K PN H Z vs [] fp) : vs = [] := by
  cases h
  rfl
theorem RepL.inv {K : PySem.W.Frag} {PN : Pn} {H : Hp} {Z : Addr → Prop} {vs : List V} {d : D} {ds : List D} {fp : List Addr} (h : RepL K PN H Z vs (d :: ds) fp) (e : fp = []) : ∃ v us, vs = v :: us ∧ Rep K PN H Z v d [] ∧ RepL K PN H Z us ds [] := by
  cases h with
  | cons r q =>
    obtain ⟨e1, e2⟩ := app_nil e
    subst e1; subst e2
    exact ⟨_, _, rfl, r, q⟩
theorem Rep.int_inv {K : PySem.W.Frag} {PN : Pn} {H : Hp} {Z : Addr → Prop} {v : V} {i : Int} {fp : List Addr} (h : Rep K PN H Z v (.int i) fp) : v = .int i := by
  cases h
  rfl
theorem iv_range1 {tg a : Expr} {fs : Env → Comp (List D)} {p pos : Pos} (hm : X.mg "range" = none) (ha : EA X W vs fs [a]) (hg : Gl X "range" := by rfl) (hs : starEach [a] X.env = [(false, eval a X.env)] := by rfl) : IV X W vs (iOf gRange1 fs) tg (.Call (.Name "range" p) [a] [] pos) := by
  refine piW (pi_range1 hg hm ha hs) fun σ H R h => ?_
  obtain ⟨PN, n, Z, ρ, k, z, p, h⟩ := h
  rw [iOf, Comp.all_bind] at h
  refine ⟨PN, n, Z, ρ, k, z, p, Comp.all_mono (fun m ds h => fun us PN1 H1 Z1 s1 r1 => ?_) (fun _ _ _ h => h) h⟩
  unfold gRange1 at h
  split at h
  · rename_i j
    split at h
    · rename_i hj
      obtain ⟨v, us', rfl, r, q⟩ := r1.inv rfl
      obtain rfl := q.inv0
      obtain rfl := r.int_inv
      exact ⟨j, rfl, hj.1, hj.2, h _ PN1 H1 Z1 s1 walks_range⟩
    · exact h.elim
  · exact h.elim
def gEnum : List D → Comp (List D)
  | [d] => (itemsOf d).bind fun ds => .ret (numbered 0 ds)
  | _ => .stuck
theorem walks_enum {K : PySem.W.Frag} {PN : Pn} {H : Hp} {Z : Addr → Prop} {ds : List D} {xs : List V} {J : It} {G : Hp → Prop} (w : Walk J xs.length G (YPair (fun i => some (.int (i : Nat))) (fun i => xs[i]?))) (hg : ∀ H2, Pres Z H H2 → G H2) (r : RepL K PN H Z xs ds []) : Walks K PN H Z (numbered 0 ds) J := by
  have hl := r.length
  refine walks_pair w (by rw [numbered_length]; omega) hg fun PN2 H2 Z2 i x y pr pn zz hi hx hy => ?_
  have r2 := RepL.to (fp := []) pr pn zz ds (fun _ h => nomatch h) r
  have hi' : i < ds.length := by omega
  obtain ⟨v, h1, h2⟩ := r2.get rfl (List.getElem?_eq_getElem hi')
  rw [h1] at hy
  cases hy
  cases hx
  refine ⟨.int (i : Nat), ds[i], ?_, .int, h2⟩
  rw [numbered_get, List.getElem?_eq_getElem hi', Nat.zero_add]
  rfl
theorem iv_enum {e : Expr} {fs : Env → Comp (List D)} {p pos tpos : Pos} {elts : List Expr} {kk : Nat} (hm : X.mg "enumerate" = none) (ha : EA X W vs fs [e]) (hg : Gl X "enumerate" := by rfl) (hs : starEach [e] X.env = [(false, eval e X.env)] := by rfl) :
    IV X W vs (iOf gEnum fs) (.Tuple elts kk tpos) (.Call (.Name "enumerate" p) [e] [] pos) := by
  constructor
  intro pins s σ H R I q
  obtain ⟨PN, n, Z, ρ, k, z, p, q⟩ := q
  rw [iOf, Comp.all_bind] at q
  refine Call_ (ld_blt I hg hm boot_enumerate (PyProof.Rows.callWith_type1 (thn (ha.run pos pins s σ H (fun us H1 => ∃ a, us = [.ref a] ∧ ((∃ xs, SqL X.K H1 a xs ∧ R (Ite X.K a) H1) ∨ ∃ xs, SqT X.K H1 a xs ∧ R (IteT X.K a) H1)) I
    ⟨PN, n, Z, ρ, k, z, p, Comp.all_mono (fun m ds q => fun us PN1 H1 Z1 s1 r1 => ?_) (fun _ _ _ h => h) q⟩) fun us s1 q1 => ?_) hs rfl))
  · unfold gEnum at q
    split at q
    · rename_i d
      obtain ⟨v, us', rfl, r, r0⟩ := r1.inv rfl
      obtain rfl := r0.inv0
      rw [Comp.all_bind] at q
      cases d with
      | tup ds =>
        cases r with
        | tup h r => exact ⟨_, rfl, .inr ⟨_, h.sq, q _ PN1 H1 Z1 s1 (walks_enum walk_enumT (fun H2 pr => (pr.tupN h).sq) r)⟩⟩
      | lst b ds =>
        obtain ⟨a, xs, rfl, r, st⟩ := Rep.sqLs r
        exact ⟨_, rfl, .inl ⟨_, st H1 .refl, q _ PN1 H1 Z1 s1 (walks_enum walk_enum st r)⟩⟩
      | _ => exact q.elim
    · exact q.elim
  · obtain ⟨ws, H1, I1, rv, a, rfl, q⟩ := q1
    cases rv with
    | cons rx rr =>
      cases rr
      cases rx
      rcases q with ⟨xs, hq, q⟩ | ⟨xs, hq, q⟩
      · obtain ⟨its, rv, p', hz⟩ := I1.list hq
        refine call_enumerate_list p'.isList fun h' he hit hsz hk => wpAny_pyIter_enum he ?_
        have I2 : Inv X pins σ H1 { s1 with heap := h' } := I1.kept (t' := s1.toks) hk
        refine ⟨s1.heap.objs.size + 1, [s1.heap.objs.size + 1, s1.heap.objs.size], _, _, H1, rfl, I2, turn_enum a (s1.heap.objs.size + 1) s1.heap.objs.size, ⟨⟨.none, he⟩, hit, Nat.succ_ne_self _⟩, fun b hb => ?_, q⟩
        have hle : s1.heap.objs.size ≤ b := by
          rcases (show b = s1.heap.objs.size + 1 ∨ b = s1.heap.objs.size by simpa using hb) with z | z
          · rw [z]; exact Nat.le_succ _
          · rw [z]; exact Nat.le_refl _
        exact I1.fpOk hle (I1.hok.fresh hle)
      · obtain ⟨its, rv, p', hz⟩ := I1.tuple hq
        have al : a < s1.heap.objs.size := by obtain ⟨o, e, _⟩ := p'; exact Heap.lt_size e
        refine enum1_begins (begins_tuple a its.toArray) (show s1.heap.IsTuple a its.toArray from p') fun h' he hit hsz hk => wpAny_pyIter_enum he ?_
        have I2 : Inv X pins σ H1 { s1 with heap := h' } := I1.kept (t' := s1.toks) hk
        refine ⟨s1.heap.objs.size + 1, [s1.heap.objs.size + 1, s1.heap.objs.size], _, _, H1, rfl, I2, turn_enumT a (s1.heap.objs.size + 1) s1.heap.objs.size (Nat.ne_of_lt al), ⟨⟨.none, he⟩, ⟨_, hit, rfl, rfl⟩, Nat.succ_ne_self _, Nat.ne_of_gt (Nat.lt_succ_of_lt al)⟩, fun b hb => ?_, q⟩
        have hle : s1.heap.objs.size ≤ b := by
          rcases (show b = s1.heap.objs.size + 1 ∨ b = s1.heap.objs.size by simpa using hb) with z | z
          · rw [z]; exact Nat.le_succ _
          · rw [z]; exact Nat.le_refl _
        exact I1.fpOk hle (I1.hok.fresh hle)
def gZip : List D → Comp (List D)
  | [.tup ds, .tup es] => .ret (pairs ds es)
  | [.lst _ ds, .lst _ es] => .ret (pairs ds es)
  | _ => .stuck
end
end Mid
namespace Mid
open PySem PySem.Spec PyProof.Rows L2
abbrev Tg := D → Env → Option Env
def Closed (K : PySem.W.Frag) (PN : Pn) (Z : Addr → Prop) (is : List Nat) (P : Env → L2.St → Hp → Prop) : Prop :=
  ∀ ρ σ H i v d, i ∈ is → P ρ σ H → Rep K PN H Z v d [] → P (ρ.set i (some d)) (σ.set i (some v)) H
def gAny (K : PySem.W.Frag) (is : List Nat) (t : Tg) : TG := fun v σ H Q => ∃ PN Z P ρ d ρ', Closed K PN Z is P ∧ P ρ σ H ∧ Rep K PN H Z v d [] ∧ t d ρ = some ρ' ∧ ∀ σ', P ρ' σ' H → Q σ' H
def gAnyL (K : PySem.W.Frag) (is : List Nat) (t : List D → Env → Option Env) : TGs := fun vs σ H Q => ∃ PN Z P ρ ds ρ', Closed K PN Z is P ∧ P ρ σ H ∧ RepL K PN H Z vs ds [] ∧ t ds ρ = some ρ' ∧ ∀ σ', P ρ' σ' H → Q σ' H
abbrev TGV (X : Cx) (is : List Nat) (t : Tg) (e : Expr) : Prop := PG X e (gAny X.K is t)
abbrev TGsV (X : Cx) (is : List Nat) (t : List D → Env → Option Env) (e : List Expr) : Prop := PGs X e (gAnyL X.K is t)
def tName (i : Nat) : Tg := fun d ρ => some (ρ.set i (some d))
def tsNil : List D → Env → Option Env := fun ds ρ => match ds with
  | [] => some ρ
  | _ => none
def tsCons (t : Tg) (ts : List D → Env → Option Env) : List D → Env → Option Env := fun ds ρ => match ds with
  | d :: ds => (t d ρ).bind (ts ds)
  | [] => none
def tTup (n : Nat) (ts : List D → Env → Option Env) : Tg := fun d ρ => match d with
  | .tup ds => if ds.length = n then ts ds ρ else none
  | .pr ds => if ds.length = n then ts ds ρ else none
  | _ => none
section
variable {X : Cx} {is : List Nat}
theorem pgW {e : Expr} {t t' : TG} (h : PG X e t) (w : ∀ v σ H Q, t' v σ H Q → t v σ H Q) : PG X e t' := ⟨fun pins s σ H v u Q I r q => h.run pins s σ H v u Q I r (w v σ H Q q)⟩
theorem pgsW {e : List Expr} {t t' : TGs} (h : PGs X e t) (w : ∀ v σ H Q, t' v σ H Q → t v σ H Q) : PGs X e t' := ⟨fun pins s σ H v u Q I r q => h.run pins s σ H v u Q I r (w v σ H Q q)⟩
theorem tg_name (i : Nat) {x : Str} {pos : Pos} (hN : X.N.Nodup) (hi : X.N[i]? = some x := by rfl) (hx : Loc X.env.scope x := by first | exact Or.inl rfl | exact Or.inr rfl) (hm : is.contains i = true := by rfl) (hf : X.fn x = true ∨ X.env.scope.names.lookup x = some .local := by first | exact .inl rfl | exact .inr rfl) :
    TGV X is (tName i) (.Name x pos) := by
  refine pgW (pg_name hN hi hx hf) fun v σ H Q h => ?_
  obtain ⟨PN, Z, P, ρ, d, ρ', c, p, r, e, q⟩ := h
  cases e
  exact q _ (c ρ σ H i v d (by simpa using hm) p r)
theorem tgs_nil : TGsV X is tsNil [] := by
  refine pgsW pgs_nil fun v σ H Q h => ?_
  obtain ⟨PN, Z, P, ρ, ds, ρ', c, p, r, e, q⟩ := h
  cases ds with
  | nil =>
    cases e
    exact ⟨r.inv0, q _ p⟩
  | cons d ds => cases e
theorem tgs_cons {t : Tg} {ts : List D → Env → Option Env} {e : Expr} {es : List Expr} (h1 : TGV X is t e) (h2 : TGsV X is ts es) (hs : (assignEach (e :: es) X.env).map (·.2) = assign e X.env :: (assignEach es X.env).map (·.2) := by rfl) : TGsV X is (tsCons t ts) (e :: es) := by
  refine pgsW (pgs_cons h1 h2 hs) fun vs σ H Q h => ?_
  obtain ⟨PN, Z, P, ρ, ds, ρ', c, p, r, e, q⟩ := h
  cases ds with
  | nil => cases e
  | cons d ds =>
    obtain ⟨v, us, rfl, rv, ru⟩ := r.inv rfl
    have e' : (t d ρ).bind (ts ds) = some ρ' := e
    cases et : t d ρ with
    | none => rw [et] at e'; cases e'
    | some ρ1 =>
      rw [et] at e'
      exact ⟨v, us, rfl, PN, Z, P, ρ, d, ρ1, c, p, rv, et, fun σ1 p1 => ⟨PN, Z, P, ρ1, ds, ρ', c, p1, ru, e', q⟩⟩
theorem tg_tup {n : Nat} {ts : List D → Env → Option Env} {es : List Expr} {k : Nat} {pos : Pos} (hc : X.calm = true) (h : TGsV X is ts es) (hn : (assignEach es X.env).length = n := by rfl) (hst : (assignEach es X.env).findIdx? (·.1) = none := by rfl) : TGV X is (tTup n ts) (.Tuple es k pos) := by
  refine pgW (pg_tup hc h hn hst) fun v σ H Q h => ?_
  obtain ⟨PN, Z, P, ρ, d, ρ', c, p, r, e, q⟩ := h
  unfold tTup at e
  split at e
  · rename_i ds
    split at e
    · rename_i hl
      cases r with
      | tup hq r => exact ⟨_, _, rfl, hq.sq, r.length.trans hl, PN, Z, P, ρ, ds, ρ', c, p, r, e, q⟩
    · cases e
  · rename_i ds
    split at e
    · rename_i hl
      cases r with
      | pr hq r => exact ⟨_, _, rfl, hq, r.length.trans hl, PN, Z, P, ρ, ds, ρ', c, p, r, e, q⟩
    · cases e
  · cases e
end
def forL (t : Tg) (body : Env → Comp (Fl × Env)) : List D → Env → Comp (Fl × Env)
  | [], ρ => .ret (.nx, ρ)
  | d :: ds, ρ => match t d ρ with
    | none => .stuck
    | some ρ' => (body ρ').bind fun r => match r with
      | (.nx, ρ2) => forL t body ds ρ2
      | (.ct, ρ2) => forL t body ds ρ2
      | (.bk, ρ2) => .ret (.nx, ρ2)
      | r => .ret r
/-- over what stands still: its names are given up -/
def sForS (vs : List Nat) (it : Env → Comp (List D)) (t : Tg) (body : Env → Comp (Fl × Env)) : Env → Comp (Fl × Env) := fun ρ =>
  (it (fzE ρ)).try_ (fun ds => forL t body ds (frzE vs ρ)) fun c x => .ret (.er c x, upX vs x ρ)
/-- over a range -/
def sForR (vs : List Nat) (it : Env → Comp (List D)) (t : Tg) (body : Env → Comp (Fl × Env)) : Env → Comp (Fl × Env) := fun ρ =>
  (it (fzE ρ)).try_ (fun ds => forL t body ds ρ) fun c x => .ret (.er c x, upX vs x ρ)
section
variable {K : PySem.W.Frag} {B : Bs} {PN PN' : Pn} {H H' : Hp} {Z Z' : Addr → Prop} {ρ ρ' : Env} {σ σ' : L2.St} {o o' : Addr → Option Nat}
theorem SOk.closed {is : List Nat} : Closed K PN Z is (fun ρ σ H => ∃ o, SOk K B PN H Z ρ σ o) := fun ρ σ H i v d _ ⟨o, s⟩ r =>
  ⟨_, s.put (i := i) (fp := []) List.Pairwise.nil (fun _ h => (nomatch h)) r.brw0 r⟩
end
section
variable {X : Cx} {W : WX} {vs : List Nat}
theorem for_core {body : Env → Comp (Fl × Env)} {t : Tg} {is : List Nat} {D' : Ends} {J : It} {B : Bs} {PN1 : Pn} {H1 : Hp} {Z1 Zw : Addr → Prop} {ds : List D} {m0 : Nat} {ρ : Env} {σ : L2.St} {o : Addr → Option Nat}
    (wk : Walks X.K PN1 H1 Zw ds J) (zw : ∀ a, Zw a → Z1 a) (s : SOk X.K B PN1 H1 Z1 ρ σ o) (p : Pens PN1 m0 H1) (h : (forL t body ds ρ).all (SPost X W D' B) NoErr m0) :
    ∃ V : Nat → Nat → L2.St → Hp → Prop, (∃ m, V 0 m σ H1) ∧ ∀ i m σ H, V i m σ H →
      (J.stop i H ∧ D'.nx σ H) ∨ (J.go i H ∧ ∃ N : L2.St → Hp → Prop, (∀ σ' H', N σ' H' → ∃ m', m' < m ∧ V (i + 1) m' σ' H') ∧ ∀ x H', J.yld i H x H' → gAny X.K is t x σ H' fun σ2 H2 => sPre X W body { D' with nx := N, ct := N, bk := D'.nx } σ2 H2) := by
  refine ⟨fun i m σ H => m = ds.length - i ∧ i ≤ ds.length ∧ ∃ PN n Z ρ o, SOk X.K (B.at PN1 H1 Z1) PN H Z ρ σ o ∧ Pens PN n H ∧ (forL t body (ds.drop i) ρ).all (SPost X W D' B) NoErr n,
    ⟨ds.length, rfl, Nat.zero_le _, PN1, m0, Z1, ρ, o, s.rebase, p, h⟩, ?_⟩
  rintro i m σi Hi ⟨rfl, hi, PN, n, Z, ρi, oi, si, pi_, h⟩
  obtain ⟨w1, w2⟩ := wk PN Hi Z n ⟨fun a ob e z => si.old.lst a ob e (zw a z), si.old.tup, si.old.frz⟩ si.pold (fun a z => si.zold a (zw a z)) si.zk pi_
  by_cases hlt : i < ds.length
  · obtain ⟨go, yl⟩ := w1 i hlt
    rw [List.drop_eq_getElem_cons hlt] at h
    refine .inr ⟨go, fun σ' H' => ∃ PN n Z ρ o, SOk X.K (B.at PN1 H1 Z1) PN H' Z ρ σ' o ∧ Pens PN n H' ∧ (forL t body (ds.drop (i + 1)) ρ).all (SPost X W D' B) NoErr n, fun σ' H' q => ⟨ds.length - (i + 1), by omega, rfl, hlt, q⟩, fun x H' hy => ?_⟩
    obtain ⟨d, hd, sh, r⟩ := yl x H' hy
    rw [List.getElem?_eq_getElem hlt] at hd
    cases hd
    unfold forL at h
    split at h
    · exact h.elim
    · rename_i ρ' et
      refine ⟨PN, Z, _, ρi, ds[i], ρ', SOk.closed (B := B.at PN1 H1 Z1), ⟨oi, si.step pi_ sh.mv⟩, r, et, fun σ2 ⟨o2, s2⟩ => ?_⟩
      rw [Comp.all_bind] at h
      refine ⟨B.at PN1 H1 Z1, PN, n, Z, ρ', o2, s2, sh.pens, Comp.all_mono (fun m rr h => ?_) (fun _ _ _ h => h) h⟩
      obtain ⟨fl, ρ3⟩ := rr
      cases fl with
      | nx => exact fun PN' H' Z' σ' o' s' p' => ⟨PN', m, Z', ρ3, o', s', p', h⟩
      | ct => exact fun PN' H' Z' σ' o' s' p' => ⟨PN', m, Z', ρ3, o', s', p', h⟩
      | bk => exact fun PN' H' Z' σ' o' s' p' => h PN' H' Z' σ' o' (s.unbase s') p'
      | rt d => exact fun v PN' H' ev => h v PN' H' (by
          obtain ⟨hb, σ9, Z9, o9, f9, s9, p9, nd9, hf9, r9⟩ := ev
          exact ⟨hb, σ9, Z9, o9, f9, s.unbase s9, p9, nd9, hf9, r9⟩)
      | er c x => exact fun od PN' H' Z' σ' o' s' p' e => h od PN' H' Z' σ' o' (s.unbase s') p' e
  · have e : i = ds.length := by omega
    subst e
    rw [List.drop_length] at h
    exact .inl ⟨w2, h PN Hi Z σi oi (s.unbase si) pi_⟩
theorem sv_forS {tg iter : Expr} {it : Env → Comp (List D)} {t : Tg} {is : List Nat} {body : Env → Comp (Fl × Env)} {sts : List Stmt} {pos : Pos} (hp : PassesOwn (model X.prog X.w) X.A X.env X.xe) (hc : X.calm = true) (hi : IV X W vs it tg iter) (hg : TGV X is t tg) (hb : SVs X W body sts)
    (hs : ∀ x, foldedSetIterable iter X.env x = pure x := by intro _; rfl) : SV X W (sForS vs it t body) (.For tg iter sts [] pos) := by
  refine psW (ps_for hp hc hi hg hb hs) fun D' σ H h => ?_
  obtain ⟨B, PN, n, Z, ρ, o, s, p, h⟩ := h
  rw [sForS, Comp.all_try] at h
  obtain ⟨k1, z1⟩ := s.pk vs
  refine ⟨PN, n, Zv Z o vs, fzE ρ, k1, z1, p, Comp.all_mono (fun m ds h => fun J PN' H' Z' sh wk => ?_) (fun m c x h => ?_) h⟩
  · have sf := (s.freeze vs).step p sh.mv
    have sg := sf.more (Z' := Z') sh.zk sh.up (fun a ha => by
      rcases sh.down a ha with q | q
      · exact sf.z0 a q
      · exact .inr (s.mv.keep a q)) (fun a i hi q => by
      rcases sh.down a q with q | q
      · exact (sf.own a i hi).2.1 q
      · have ho : ∃ k, o a = some k := by
          cases e : o a with
          | none => rw [e] at hi; cases hi
          | some k => exact ⟨k, rfl⟩
        obtain ⟨k, hk⟩ := ho
        exact (s.own a k hk).2.2.2 q)
    exact for_core wk (fun _ h => h) sg sh.pens h
  · intro od PN' H' Z' sh e
    obtain ⟨Z2, o2, s2, e2⟩ := s.err p sh e
    exact h od PN' H' Z2 σ o2 s2 sh.pens e2
/-- a range stands still by itself -/
def iPreR (K : PySem.W.Frag) (mg : Str → Option Value) (W : WX) (vs : List Nat) (f : Env → Comp (List D)) : TI := fun σ H R => ∃ PN n Z ρ, Pk K PN H Z vs ρ σ ∧ Zk PN Z H ∧ Pens PN n H ∧
  (f ρ).all (fun m ds => ∀ J PN' H' Z', Sh K PN H Z m PN' H' Z' → Walks K PN' H' (fun _ => False) ds J → R J H') (Out K W PN H Z σ) n
abbrev IVR (X : Cx) (W : WX) (vs : List Nat) (f : Env → Comp (List D)) (tg it : Expr) : Prop := PI X tg it (iPreR X.K X.mg W vs f)
theorem ivr_range1 {tg a : Expr} {fs : Env → Comp (List D)} {p pos : Pos} (hm : X.mg "range" = none) (ha : EA X W vs fs [a]) (hg : Gl X "range" := by rfl) (hs : starEach [a] X.env = [(false, eval a X.env)] := by rfl) : IVR X W vs (iOf gRange1 fs) tg (.Call (.Name "range" p) [a] [] pos) := by
  refine piW (pi_range1 hg hm ha hs) fun σ H R h => ?_
  obtain ⟨PN, n, Z, ρ, k, z, p, h⟩ := h
  rw [iOf, Comp.all_bind] at h
  refine ⟨PN, n, Z, ρ, k, z, p, Comp.all_mono (fun m ds h => fun us PN1 H1 Z1 s1 r1 => ?_) (fun _ _ _ h => h) h⟩
  unfold gRange1 at h
  split at h
  · rename_i j
    split at h
    · rename_i hj
      obtain ⟨v, us', rfl, r, q⟩ := r1.inv rfl
      obtain rfl := q.inv0
      obtain rfl := r.int_inv
      exact ⟨j, rfl, hj.1, hj.2, h _ PN1 H1 Z1 s1 walks_range⟩
    · exact h.elim
  · exact h.elim
theorem sv_forR {tg iter : Expr} {it : Env → Comp (List D)} {t : Tg} {is : List Nat} {body : Env → Comp (Fl × Env)} {sts : List Stmt} {pos : Pos} (hp : PassesOwn (model X.prog X.w) X.A X.env X.xe) (hc : X.calm = true) (hi : IVR X W vs it tg iter) (hg : TGV X is t tg) (hb : SVs X W body sts)
    (hs : ∀ x, foldedSetIterable iter X.env x = pure x := by intro _; rfl) : SV X W (sForR vs it t body) (.For tg iter sts [] pos) := by
  refine psW (ps_for hp hc hi hg hb hs) fun D' σ H h => ?_
  obtain ⟨B, PN, n, Z, ρ, o, s, p, h⟩ := h
  rw [sForR, Comp.all_try] at h
  obtain ⟨k1, z1⟩ := s.pk vs
  refine ⟨PN, n, Zv Z o vs, fzE ρ, k1, z1, p, Comp.all_mono (fun m ds h => fun J PN' H' Z' sh wk => ?_) (fun m c x h => ?_) h⟩
  · exact for_core wk (fun _ h => h.elim) (s.step p sh.mv) sh.pens h
  · intro od PN' H' Z' sh e
    obtain ⟨Z2, o2, s2, e2⟩ := s.err p sh e
    exact h od PN' H' Z2 σ o2 s2 sh.pens e2
end
def Comp.sure {α : Type} : Comp α → Comp α
  | .ret a => .ret a
  | .draw m k => .draw m fun r => (k r).sure
  | .err _ _ => .stuck
  | .stuck => .stuck
theorem Comp.all_sure {α : Type} {Q : Nat → α → Prop} {E E' : Nat → Str → List D → Prop} : ∀ {c : Comp α} {n : Nat}, c.sure.all Q E n → c.all Q E' n
  | .ret _, _, h => h
  | .draw _ _, _, ⟨m, e, h0, h⟩ => ⟨m, e, h0, fun r hr => Comp.all_sure (h r hr)⟩
  | .err _ _, _, h => h.elim
  | .stuck, _, h => h
def wipeE : Env → List Nat → Env
  | ρ, [] => ρ
  | ρ, v :: vs => (wipeE ρ vs).set v none
def compL (t : Tg) (c : Env → Comp Bool) (f : Env → Comp D) (ρ : Env) : List D → Comp (List D)
  | [] => .ret []
  | d :: ds => match t d ρ with
    | none => .stuck
    | some ρ' => (c ρ').sure.bind fun b => if b then (f ρ').sure.bind fun e => (compL t c f ρ ds).bind fun es => .ret (e :: es) else compL t c f ρ ds
def eComp (own : List Nat) (it : Env → Comp (List D)) (t : Tg) (c : Env → Comp Bool) (f : Env → Comp D) : Env → Comp D := fun ρ => (it ρ).bind fun ds => if ds.length < sizeLine then (compL t c f (wipeE ρ own) ds).bind fun es => .ret (.lst .t es) else .stuck
def cAll : Env → Comp Bool := fun _ => .ret true
abbrev EC (X : Cx) (W : WX) (vs : List Nat) (f : Env → Comp Bool) (ifs : List Expr) : Prop := PTs X ifs (bPre X.K X.mg W vs f)
section
variable {X : Cx} {W : WX} {vs : List Nat}
theorem ptsW {e : List Expr} {t t' : TT} (h : PTs X e t) (w : ∀ σ H Q, t' σ H Q → t σ H Q) : PTs X e t' := ⟨fun pins s σ H Q I q => h.run pins s σ H Q I (w σ H Q q)⟩
theorem ec_nil : EC X W vs cAll [] := ptsW pts_nil fun σ H Q h => by
  obtain ⟨PN, n, Z, ρ, k, z, p, h⟩ := h
  exact h PN H Z (Sh.refl p z)
abbrev W0 : WX := fun _ _ _ _ => False
theorem wipe_at {σ : L2.St} {j : Nat} : ∀ {vs : List Nat}, (wipe σ vs)[j]? = if j ∈ vs then σ[j]?.map fun _ => none else σ[j]?
  | [] => by simp [wipe]
  | v :: vs => by
    have ih := wipe_at (σ := σ) (j := j) (vs := vs)
    unfold wipe
    rw [List.getElem?_set, wipe_length]
    by_cases hv : v = j
    · subst hv
      rw [if_pos rfl, if_pos List.mem_cons_self]
      by_cases hl : v < σ.length
      · rw [if_pos hl, List.getElem?_eq_getElem hl]; rfl
      · rw [if_neg hl, List.getElem?_eq_none (by omega)]; rfl
    · rw [if_neg hv, ih]
      simp [Ne.symm hv]
theorem wipe_set {σ : L2.St} {i : Nat} {x : Option V} {vs : List Nat} (h : i ∈ vs) : wipe (σ.set i x) vs = wipe σ vs := by
  apply List.ext_getElem?
  intro j
  rw [wipe_at, wipe_at]
  by_cases hj : j ∈ vs
  · rw [if_pos hj, if_pos hj, List.getElem?_set]
    split
    · rename_i e
      subst e
      split
      · rename_i hl
        rw [List.getElem?_eq_getElem hl]; rfl
      · rename_i hl
        rw [List.getElem?_eq_none (by omega)]
    · rfl
  · rw [if_neg hj, if_neg hj, List.getElem?_set_ne]
    intro e
    exact hj (e ▸ h)
theorem wipe_wipe {σ : L2.St} {vs : List Nat} : wipe (wipe σ vs) vs = wipe σ vs := by
  apply List.ext_getElem?
  intro j
  rw [wipe_at, wipe_at]
  by_cases hj : j ∈ vs
  · rw [if_pos hj, if_pos hj]
    cases σ[j]? <;> rfl
  · rw [if_neg hj]
theorem wipeE_length (ρ : Env) : ∀ vs : List Nat, (wipeE ρ vs).length = ρ.length
  | [] => rfl
  | v :: vs => by unfold wipeE; rw [List.length_set, wipeE_length ρ vs]
theorem wipeE_some {ρ : Env} {i : Nat} {x : D} : ∀ {vs : List Nat}, (wipeE ρ vs)[i]? = some (some x) → ρ[i]? = some (some x) ∧ i ∉ vs
  | [], h => ⟨h, by simp⟩
  | v :: vs, h => by
    unfold wipeE at h
    rw [List.getElem?_set] at h
    split at h
    · split at h <;> cases h
    · rename_i hv
      obtain ⟨h1, h2⟩ := wipeE_some h
      exact ⟨h1, by simp only [List.mem_cons, not_or]; exact ⟨fun e => hv e.symm, h2⟩⟩
theorem comp_core {it : Env → Comp (List D)} {t : Tg} {c : Env → Comp Bool} {f : Env → Comp D} {is own vs2 : List Nat} {ρ : Env} {σ : L2.St} {J : It} {Q : VK} {ds : List D} {PN1 : Pn} {H1 : Hp} {Z1 : Addr → Prop} {m0 : Nat} {E : Nat → Str → List D → Prop} {Dn : Addr}
    (mg2 : Str → Option Value) (his : ∀ i ∈ is, i ∈ own) (hvs : ∀ i ∈ vs2, i ∈ own ∨ i ∈ vs) (hl : ds.length < sizeLine) (k1 : Pk X.K PN1 H1 Z1 vs ρ σ) (z1 : Zk PN1 Z1 H1) (p1 : Pens PN1 m0 H1) (wk : Walks X.K PN1 H1 Z1 ds J) (hD : H1 Dn = none)
    (h : (compL t c f (wipeE ρ own) ds).all (fun m es => ∀ v PN' H', Ev X.K PN1 H1 Z1 m v (.lst .t es) PN' H' → Q v H') E m0) :
    ∃ V : Nat → Nat → Hp → Prop, (∃ m, V 0 m (upd H1 Dn (.lst []))) ∧ ∀ i m H, V i m H →
      (J.stop i H ∧ Q (.ref Dn) H) ∨ (J.go i H ∧ ∃ Nx : Hp → Prop, (∀ H', Nx H' → ∃ m', m' < m ∧ V (i + 1) m' H') ∧ ∀ x H', J.yld i H x H' → gAny X.K is t x (wipe σ own) H' fun σ2 H2 => wipe σ2 own = wipe σ own ∧ bPre X.K mg2 W0 vs2 c σ2 H2 fun b H3 =>
        if b = true then ePre X.K mg2 W0 vs2 f σ2 H3 fun y H4 => ∃ acc, H4 Dn = some (.lst acc) ∧ acc.length < sizeLine ∧ Nx (upd H4 Dn (.lst (acc ++ [y]))) else Nx H3) := by
  -- what holds behind i turns
  let G : Nat → Hp → Prop := fun i H => i ≤ ds.length ∧ ∃ PN n Z acc es fp, Mv PN1 H1 PN H ∧ Pens PN n H ∧ Zk PN Z H ∧ (∀ a, Z1 a → Z a) ∧ (∀ a, Z a → Z1 a ∨ H1 a = none) ∧ H Dn = some (.lst acc) ∧ RepL X.K PN H Z acc es fp ∧
    (Dn :: fp).Nodup ∧ (∀ a ∈ Dn :: fp, H1 a = none ∧ NP PN a ∧ H a ≠ none ∧ ¬ Z a) ∧ acc.length ≤ i ∧
    (compL t c f (wipeE ρ own) (ds.drop i)).all (fun m es' => ∀ v PN' H', Ev X.K PN1 H1 Z1 m v (.lst .t (es ++ es')) PN' H' → Q v H') E n
  refine ⟨fun i m H => m = ds.length - i ∧ G i H, ⟨ds.length, rfl, Nat.zero_le _, PN1, m0, Z1, [], [], [], .laid hD, p1.laid hD, z1.step (.laid hD), fun _ h => h, fun _ h => .inl h, upd_same, .nil, by simp, ?_, Nat.le_refl _, h⟩, ?_⟩
  · intro a ha
    have e : a = Dn := by simpa using ha
    subst e
    exact ⟨hD, p1.tracked hD, by rw [upd_same]; simp, fun q => (z1 a q).1 hD⟩
  rintro i m H ⟨rfl, hi, PN, n, Z, acc, es, fp, mv, p, zk, up, down, hacc, rl, nd, fr, hal, h⟩
  obtain ⟨w1, w2⟩ := wk PN H Z n (mv.pres p1 z1) mv.sub up zk p
  by_cases hlt : i < ds.length
  · obtain ⟨go, yl⟩ := w1 i hlt
    rw [List.drop_eq_getElem_cons hlt] at h
    refine .inr ⟨go, G (i + 1), fun H' q => ⟨ds.length - (i + 1), by omega, rfl, q⟩, fun x H' hy => ?_⟩
    obtain ⟨d, hd, sh, r⟩ := yl x H' hy
    rw [List.getElem?_eq_getElem hlt] at hd
    cases hd
    unfold compL at h
    split at h
    · exact h.elim
    · rename_i ρ' et
      have sh1 : Sh X.K PN1 H1 Z1 n PN H Z := ⟨mv, p, zk, up, down⟩
      have k2 : Pk X.K PN H' Z vs ρ σ := (k1.step sh1 p1 z1).step sh p zk
      refine ⟨PN, Z, fun ρ2 σ2 H2 => H2 = H' ∧ Pk X.K PN H2 Z vs2 ρ2 σ2 ∧ wipe σ2 own = wipe σ own, wipeE ρ own, ds[i], ρ', fun ρ2 σ2 H2 j v d hj ⟨e, kk, ew⟩ rr => ⟨e, ⟨by simp [kk.1], fun l hl2 d' hd' => ?_⟩, by rw [wipe_set (his j hj)]; exact ew⟩, ⟨rfl, ⟨by rw [wipeE_length, wipe_length]; exact k2.1, fun l hl2 d' hd' => ?_⟩, wipe_wipe⟩, r, et, fun σ2 ⟨_, kk, ew⟩ => ⟨ew, ?_⟩⟩
      · by_cases hjl : j = l
        · subst hjl
          have hlen : j < ρ2.length := by
            have := (List.getElem?_eq_some_iff.mp hd').1
            simpa using this
          rw [List.getElem?_set_self hlen] at hd'
          cases hd'
          exact ⟨v, by rw [List.getElem?_set_self (by rw [← kk.1]; exact hlen)], rr⟩
        · rw [List.getElem?_set_ne hjl] at hd'
          obtain ⟨u, h1, h2⟩ := kk.2 l hl2 d' hd'
          exact ⟨u, by rw [List.getElem?_set_ne hjl]; exact h1, h2⟩
      · obtain ⟨h1, h2⟩ := wipeE_some hd'
        rcases hvs l hl2 with q | q
        · exact absurd q h2
        · obtain ⟨u, h3, h4⟩ := k2.2 l q d' h1
          exact ⟨u, by rw [wipe_at, if_neg h2]; exact h3, h4⟩
      rw [Comp.all_bind] at h
      have zk' := sh.zk
      refine ⟨PN, n, Z, ρ', kk, zk', sh.pens, Comp.all_mono (fun m2 b h => fun PNb Hb Zb shb => ?_) (fun _ _ _ h => h) (Comp.all_sure h)⟩
      have shB : Sh X.K PN H Z m2 PNb Hb Zb := sh.trans shb
      have rl2 : RepL X.K PNb Hb Z acc es fp := RepL.to (shB.mv.pres p zk) shB.mv.sub (fun _ h => h) es (fun a ha o e => shB.mv.ext a o e (fr a (List.mem_cons_of_mem _ ha)).2.1) rl
      have haccB : Hb Dn = some (.lst acc) := shB.mv.ext _ _ hacc (fr Dn List.mem_cons_self).2.1
      have frB : ∀ a ∈ Dn :: fp, H1 a = none ∧ NP PNb a ∧ Hb a ≠ none ∧ ¬ Zb a := fun a ha => by
        obtain ⟨q1, q2, q3, q4⟩ := fr a ha
        refine ⟨q1, shB.mv.np q2 q3, fun q => q3 (shB.mv.keep a q), fun q => ?_⟩
        rcases shB.down a q with q | q
        · exact q4 q
        · exact q3 q
      have downB : ∀ a, Zb a → Z1 a ∨ H1 a = none := fun a q => by
        rcases shB.down a q with q | q
        · exact down a q
        · exact .inr (mv.keep a q)
      cases b with
      | false =>
        refine iteF ?_
        exact ⟨hlt, PNb, m2, Zb, acc, es, fp, mv.trans shB.mv, shB.pens, shB.zk, fun a q => shB.up a (up a q), downB, haccB, RepL.to .refl (fun _ h => h) shB.up es (fun _ _ _ h => h) rl2, nd, frB, by omega, h⟩
      | true =>
        refine iteT ?_
        have h := Comp.all_bind.mp h
        refine ⟨PNb, m2, Zb, ρ', kk.step shb sh.pens sh.zk, shb.zk, shb.pens, Comp.all_mono (fun m3 e h => fun y PNe He ev => ?_) (fun _ _ _ h => h) (Comp.all_sure h)⟩
        obtain ⟨_, fe, Ze, mve, pe, nde, hfe, hze, re⟩ := ev
        rw [Comp.all_bind] at h
        have haccE : He Dn = some (.lst acc) := mve.ext _ _ haccB (frB Dn List.mem_cons_self).2.1
        refine ⟨acc, haccE, by omega, hlt, PNe, m3, fun a => Zb a ∨ Ze a, acc ++ [y], es ++ [e], fp ++ fe, ?_, ?_, ?_, fun a q => .inl (shB.up a (up a q)), ?_, upd_same, ?_, ?_, ?_, by simp; omega, ?_⟩
        · -- the heap, seen from H1
          refine ⟨fun pc q => mve.sub pc (shB.mv.sub pc (mv.sub pc q)), fun pc q => ((mv.trans shB.mv).trans mve).new pc q, fun a o q nq => ?_, fun a q => ?_⟩
          · rw [upd_ne (ne_of_none q hD)]
            exact ((mv.trans shB.mv).trans mve).ext a o q nq
          · by_cases ea : a = Dn
            · rw [ea]; exact hD
            · rw [upd_ne ea] at q
              exact ((mv.trans shB.mv).trans mve).keep a q
        · -- the pen
          refine ⟨pe.1, fun pp cc q => ?_⟩
          have nD := (mve.np (frB Dn List.mem_cons_self).2.1 (frB Dn List.mem_cons_self).2.2.1) pp cc q
          obtain ⟨cs, at_, rest, a1, a2, a3⟩ := pe.2 pp cc q
          exact ⟨cs, at_, rest, by rw [upd_ne (Ne.symm nD.1)]; exact a1, by rw [upd_ne (Ne.symm nD.2)]; exact a2, a3⟩
        · intro a q
          have nDa : a ≠ Dn := fun ea => by
            subst ea
            rcases q with q | q
            · exact (frB a List.mem_cons_self).2.2.2 q
            · rcases (hze a q).1 with q | q
              · exact (frB a List.mem_cons_self).2.2.2 q
              · exact (frB a List.mem_cons_self).2.2.1 q
          rw [upd_ne nDa]
          rcases q with q | q
          · exact shB.zk.step mve a q
          · exact ⟨(hze a q).2.2.2, (hze a q).2.2.1⟩
        · intro a q
          rcases q with q | q
          · exact downB a q
          · rcases (hze a q).1 with q | q
            · exact downB a q
            · exact .inr (mv.keep a (shB.mv.keep a q))
        · -- the items
          have zD : ∀ a, (Zb a ∨ Ze a) → a ≠ Dn := fun a q ea => by
            subst ea
            rcases q with q | q
            · exact (frB a List.mem_cons_self).2.2.2 q
            · rcases (hze a q).1 with q | q
              · exact (frB a List.mem_cons_self).2.2.2 q
              · exact (frB a List.mem_cons_self).2.2.1 q
          have prD : Pres (fun a => Zb a ∨ Ze a) He (upd He Dn (.lst (acc ++ [y]))) :=
            ⟨fun a o q z => by rw [upd_ne (zD a z)]; exact q, fun a xs q => by rw [upd_ne (fun ea => by subst ea; rw [haccE] at q; cases q)]; exact q, fun a o u q => by rw [upd_ne (fun ea => by subst ea; rw [haccE] at q; cases q)]; exact q⟩
          have rl3 : RepL X.K PNe He (fun a => Zb a ∨ Ze a) acc es fp := RepL.to ⟨fun a o q z => (mve.pres shB.pens shB.zk).lst a o q (shB.up a z), (mve.pres shB.pens shB.zk).tup, (mve.pres shB.pens shB.zk).frz⟩ mve.sub (fun a h => .inl (shB.up a h)) es (fun a ha o e => mve.ext a o e (frB a (List.mem_cons_of_mem _ ha)).2.1) rl2
          have re3 : Rep X.K PNe He (fun a => Zb a ∨ Ze a) y e fe := Rep.to .refl (fun _ h => h) (fun a h => .inr h) e (fun _ _ _ h => h) re
          have nfp : Dn ∉ fp := (List.nodup_cons.mp nd).1
          have nfe : Dn ∉ fe := fun q => (frB Dn List.mem_cons_self).2.2.1 (hfe Dn q).1
          have both := RepL.append rl3 (.cons re3 .nil)
          rw [List.append_nil] at both
          refine RepL.to prD (fun _ h => h) (fun _ h => h) _ (fun a ha o e => ?_) both
          rw [upd_ne (fun ea => by
            subst ea
            rcases List.mem_append.mp ha with q | q
            · exact nfp q
            · exact nfe q)]
          exact e
        · have nfe : Dn ∉ fe := fun q => (frB Dn List.mem_cons_self).2.2.1 (hfe Dn q).1
          have q := List.nodup_cons.mp nd
          refine List.nodup_cons.mpr ⟨fun hm => ?_, List.nodup_append.mpr ⟨q.2, nde, fun a ha b hb e => ?_⟩⟩
          · rcases List.mem_append.mp hm with r | r
            · exact q.1 r
            · exact nfe r
          · subst e
            exact (frB a (List.mem_cons_of_mem _ ha)).2.2.1 (hfe a hb).1
        · intro a ha
          have key : a ∈ Dn :: fp ∨ a ∈ fe := by
            rcases List.mem_cons.mp ha with r | r
            · exact .inl (by rw [r]; exact List.mem_cons_self)
            · rcases List.mem_append.mp r with r | r
              · exact .inl (List.mem_cons_of_mem _ r)
              · exact .inr r
          have there : ∀ b, He b ≠ none → upd He Dn (.lst (acc ++ [y])) b ≠ none := fun b q => by
            by_cases eb : b = Dn
            · rw [eb, upd_same]; simp
            · rw [upd_ne eb]; exact q
          rcases key with q | q
          · obtain ⟨q1, q2, q3, q4⟩ := frB a q
            refine ⟨q1, mve.np q2 q3, there a fun r => q3 (mve.keep a r), fun z => ?_⟩
            rcases z with z | z
            · exact q4 z
            · rcases (hze a z).1 with z | z
              · exact q4 z
              · exact q3 z
          · obtain ⟨q1, q2, q3⟩ := hfe a q
            refine ⟨mv.keep a (shB.mv.keep a q1), q2, there a q3, fun z => ?_⟩
            rcases z with z | z
            · exact (shB.zk a z).1 q1
            · exact (hze a z).2.1 q
        · refine Comp.all_mono (fun m4 es' h => fun v PN' H' ev => ?_) (fun _ _ _ h => h) h
          refine h v PN' H' ?_
          rw [List.append_assoc] at ev
          exact ev
  · have e : i = ds.length := by omega
    subst e
    rw [List.drop_length] at h
    refine .inl ⟨w2, h _ PN H ?_⟩
    rw [List.append_nil]
    exact ⟨rfl, Dn :: fp, Z, mv, p, nd, fun a ha => ⟨(fr a ha).1, (fr a ha).2.1, (fr a ha).2.2.1⟩, fun a z => ⟨down a z, fun q => (fr a q).2.2.2 z, (zk a z).2, (zk a z).1⟩, .own (by decide) hacc rl⟩
theorem comp_pre {it : Env → Comp (List D)} {t : Tg} {c : Env → Comp Bool} {f : Env → Comp D} {is own vs2 : List Nat} (his : ∀ i ∈ is, i ∈ own) (hvs : ∀ i ∈ vs2, i ∈ own ∨ i ∈ vs) :
    ∀ σ H Q, ePre X.K X.mg W vs (eComp own it t c f) σ H Q → tLc (iPre X.K X.mg W vs it) (gAny X.K is t) (bPre X.K X.mg W0 vs2 c) (ePre X.K X.mg W0 vs2 f) own σ H Q := fun σ H Q h => by
  obtain ⟨PN, n, Z, ρ, k, z, p, h⟩ := h
  rw [eComp, Comp.all_bind] at h
  refine ⟨PN, n, Z, ρ, k, z, p, Comp.all_mono (fun m ds h => fun J PN1 H1 Z1 sh wk Dn hD => ?_) (fun _ _ _ h => h) h⟩
  split at h
  · rename_i hl
    rw [Comp.all_bind] at h
    exact comp_core (it := it) (ds := ds) (E := Out X.K W PN H Z σ) X.mg his hvs hl (k.step sh p z) sh.zk sh.pens wk hD (Comp.all_mono (fun m' es h => fun v PN' H' ev => h v PN' H' (ev.back sh)) (fun _ _ _ h => h) h)
  · exact h.elim
theorem all_mem {a b : List Nat} (h : a.all (fun i => b.contains i) = true) : ∀ i ∈ a, i ∈ b := fun i hi => by simpa using List.all_eq_true.mp h i hi
theorem all_mem2 {a b e : List Nat} (h : a.all (fun i => b.contains i || e.contains i) = true) : ∀ i ∈ a, i ∈ b ∨ i ∈ e := fun i hi => by simpa using List.all_eq_true.mp h i hi
theorem ev_comp {elt tg iter : Expr} {ifs : List Expr} {scope : Scope} {own : List (Str × Nat)} {pos : Pos} {it : Env → Comp (List D)} {t : Tg} {c : Env → Comp Bool} {f : Env → Comp D} {is vs2 : List Nat} (hc : X.calm = true) (hN : X.N.Nodup) (hi : IV X W vs it tg iter) (ok : blkC X.N X.env.scope scope own = true)
    (hg : ∀ (s : Shared) (H : Hp) (C : Addr) (cl : List (Str × Addr)) (fp : List Addr), PG (X.blk s H scope (compEnvC scope cl C X.env) fp) tg (gAny X.K is t)) (ht : ∀ (s : Shared) (H : Hp) (C : Addr) (cl : List (Str × Addr)) (fp : List Addr), PTs (X.blk s H scope (compEnvC scope cl C X.env) fp) ifs (bPre X.K X.mg W0 vs2 c))
    (he : ∀ (s : Shared) (H : Hp) (C : Addr) (cl : List (Str × Addr)) (fp : List Addr), PE (X.blk s H scope (compEnvC scope cl C X.env) fp) elt (ePre X.K X.mg W0 vs2 f)) (his : is.all (fun i => (own.map (·.2)).contains i) = true := by rfl) (hvs : vs2.all (fun i => (own.map (·.2)).contains i || vs.contains i) = true := by rfl)
    (hs : ∀ x, foldedSetIterable iter X.env x = pure x := by intro _; rfl) : EV X W vs (eComp (own.map (·.2)) it t c f) (.ListComp elt [⟨tg, iter, ifs, 0⟩] scope pos) := by
  exact peW (pe_lc hc hN hi (blkOk_by ok) hg ht he hs) (comp_pre (all_mem his) (all_mem2 hvs))
theorem sv_asgC {i : Nat} {y : Str} {py spos : Pos} {elt tg iter : Expr} {ifs : List Expr} {scope : Scope} {own : List (Str × Nat)} {pos : Pos} {it : Env → Comp (List D)} {t : Tg} {c : Env → Comp Bool} {f : Env → Comp D} {is vs2 : List Nat} (hc : X.calm = true) (hN : X.N.Nodup) (hi : IV X W vs it tg iter) (ok : blkC X.N X.env.scope scope own = true)
    (hg : ∀ (s : Shared) (H : Hp) (C : Addr) (cl : List (Str × Addr)) (fp : List Addr), PG (X.blk s H scope (compEnvC scope cl C X.env) fp) tg (gAny X.K is t)) (ht : ∀ (s : Shared) (H : Hp) (C : Addr) (cl : List (Str × Addr)) (fp : List Addr), PTs (X.blk s H scope (compEnvC scope cl C X.env) fp) ifs (bPre X.K X.mg W0 vs2 c))
    (he : ∀ (s : Shared) (H : Hp) (C : Addr) (cl : List (Str × Addr)) (fp : List Addr), PE (X.blk s H scope (compEnvC scope cl C X.env) fp) elt (ePre X.K X.mg W0 vs2 f)) (his : is.all (fun i => (own.map (·.2)).contains i) = true := by rfl) (hvs : vs2.all (fun i => (own.map (·.2)).contains i || vs.contains i) = true := by rfl)
    (hy : X.N[i]? = some y := by rfl) (hyl : X.env.scope.names.lookup y = some .local := by rfl) (hsw : swapsWith (.ListComp elt [⟨tg, iter, ifs, 0⟩] scope pos) (some (.Name y py)) spos.line X.env = pure true := by rfl)
    (hs : ∀ x, foldedSetIterable iter X.env x = pure x := by intro _; rfl) : SV X W (sAsg i vs (eComp (own.map (·.2)) it t c f)) (.Assign [.Name y py] (.ListComp elt [⟨tg, iter, ifs, 0⟩] scope pos) spos) := by
  refine psW (ps_setLc hc hN hy hyl hsw hi (blkOk_by ok) hg ht he hs) fun D' σ H h => ?_
  obtain ⟨B, PN, n, Z, ρ, o, s, p, h⟩ := h
  refine comp_pre (all_mem his) (all_mem2 hvs) σ H _ (run_pre (Q := fun v H1 => gName i v σ H1 D'.nx) s p h fun m d v PN' H' ev h => ?_)
  obtain ⟨p', Z', o', s'⟩ := s.store (i := i) p ev
  exact h PN' H' Z' _ o' s' p'
end
end Mid
namespace Mid
open PySem PySem.Spec PyProof.Rows L2
theorem tuple_mulOne (l : Addr) (its : Array Value) (n : Nat) (dd : Option Addr) (sl : Array (Option Value)) (x : Int) (u : Tok) (c0 : (decide (x < -(2 ^ 63)) || decide (x ≥ 2 ^ 63)) = false) (c1 : (its.isEmpty || x == 1) = true) :
    Meets (Builtin.«tuple.__mul__» ⟨[.ref l, .int x u], []⟩) (fun _ R s => s.heap.get? l = some { cls := .type "tuple", dict := dd, data := .seq its n, slots := sl } ∧ R (.ok (.ret (Value.ref l))) s) :=
  .of_wp fun prog w A R s h => by
    obtain ⟨hp, g, d, tk, os⟩ := s
    obtain ⟨hl, h⟩ := h
    have f1 := AutoSeq1.idx_int
    wp_walk using wpAny_loadPart' hl
    repeat (first
      | (refine wpAny_ite_false (decide_eq_false (by rw [c0]; exact Bool.false_ne_true)) ?_; wp_walk using wpAny_loadPart' hl)
      | (refine wpAny_ite_true (decide_eq_true (by rw [c1])) ?_; wp_walk using wpAny_loadPart' hl))
    exact ⟨_, rfl, h⟩
def rRep1 (K : PySem.W.Frag) : R2 := fun x y H Q => ∃ l k xs, x = .ref l ∧ y = .int k ∧ SqT K H l xs ∧ xs ≠ [] ∧ k = 1 ∧ Q (.ref l) H
section
variable {X : Cx}
theorem op_rep1 : OpR X (binaryOp .Mult) (rRep1 X.K) := by
  intro pins s σ H x y v u Q I rx ry h
  obtain ⟨l, k, xs, rfl, rfl, hT, hne, rfl, q⟩ := h
  cases rx
  obtain ⟨t, rfl⟩ := ry
  obtain ⟨its, r, ⟨⟨cls, dd, data, sl⟩, ho, hc, n, hd⟩, hs⟩ := I.tuple hT
  simp only at hc hd
  subst hc hd
  refine wpAny_binaryOp_repeat_ref (T := "tuple") (U := "int") (by decide) ⟨_, ho, rfl⟩ (fun s' => typeIs_int s' 1 t) noFill_tuple_mul F.fills_int_mul F.slot_int_rmul repeat_tuple F.slot_int_index.lookup
    (call_meets F.slot_int_rmul (typeIs_int s 1 t) F.entry_int_rmul (F.args_int_rmul_2 _ _) (int_rmul_tuple 1 t l its.toArray n dd sl)
      ⟨ho, rfl, ⟨_, ho, rfl⟩, call_meets F.slot_tuple_mul ⟨_, ho, rfl⟩ F.entry_tuple_mul (F.args_tuple_mul_2 _ _) (tuple_mulOne l its.toArray n dd sl 1 t (by decide) (by simp)) ⟨ho, ?_⟩⟩)
  exact ⟨.ref l, H, I, rfl, q⟩
end
end Mid
namespace Mid
open PySem PySem.Spec PyProof.Rows L2
section
variable {X : Cx}
theorem tupNew {K : PySem.W.Frag} {P : Program} {w : World} {H : Hp} {hp : Heap} {zs : List V} {qs : List Value} (hl : zs.length ≤ sizeLine) (rr : Vals zs qs) (ar : Array Value) (ea : ar = qs.toArray) :
    ObjOk P w (L2.upd H hp.objs.size (.frz { cls := .type "tuple", data := .seq ar } (.tup zs))) (hp.push { cls := .type "tuple", data := .seq ar }) hp.objs.size (.frz { cls := .type "tuple", data := .seq ar } (.tup zs)) := by
  subst ea
  exact ⟨Heap.get?_push_size _ rfl, hl, qs, rr, IsTup.new _ _⟩
theorem op_catN : OpR X (binaryOp .Add) (fun x y H Q => ∃ a b xs ys, x = .ref a ∧ y = .ref b ∧ SqT X.K H a xs ∧ SqT X.K H b ys ∧ xs.length + ys.length ≤ sizeLine ∧
    (xs = [] → Q (.ref b) H) ∧ (xs ≠ [] → ys = [] → Q (.ref a) H) ∧ (xs ≠ [] → ys ≠ [] → NewT H (xs ++ ys) Q)) := by
  intro pins s σ H x y v u Q I rx ry h
  obtain ⟨a, b, xs, ys, rfl, rfl, ha, hb, hz, k0, k1, k2⟩ := h
  by_cases hx : xs = []
  · exact op_catA pins s σ H _ _ v u Q I rx ry ⟨a, b, xs, ys, rfl, rfl, ha, hb, hz, k0, fun e => absurd hx e, fun e => absurd hx e⟩
  · cases rx
    cases ry
    obtain ⟨qs, w1, g1, _⟩ := I.tuple ha
    obtain ⟨us, w2, g2, _⟩ := I.tuple hb
    refine HT.cat_tup g1 g2 (fun z => hx (w1.nil_iff.mp z)) (fun z => ⟨.ref a, H, I, rfl, k1 hx (w2.nil_iff.mp z)⟩) (fun z => ?_) (by rw [← w1.length, ← w2.length]; exact hz)
    exact ⟨.ref s.heap.objs.size, _, I.laid (t' := s.toks) (fun _ _ e => Heap.get?_push_of_some _ e) (Nat.le_refl _) (tupNew (K := X.K) (by rw [List.length_append]; exact hz) (w1.append w2) _ (by simp)), rfl, k2 hx (fun e => z (w2.nil_iff.mpr e)) _ _ (I.hok.fresh (Nat.le_refl _)) rfl⟩
theorem sl_tupN : SlR X (fun x lo hi H Q => ∃ a xs, x = .ref a ∧ SqT X.K H a xs ∧
    (HT.sIx xs.length 0 lo = 0 ∧ HT.sIx xs.length xs.length hi = xs.length → Q (.ref a) H) ∧ (¬ (HT.sIx xs.length 0 lo = 0 ∧ HT.sIx xs.length xs.length hi = xs.length) → NewT H (cutV xs lo hi) Q)) := by
  intro pins s σ H x v vl vu lo hi sl Q I rx hs pl pu h
  obtain ⟨a, xs, rfl, hx, k1, k2⟩ := h
  by_cases hw : HT.sIx xs.length 0 lo = 0 ∧ HT.sIx xs.length xs.length hi = xs.length
  · exact sl_tupA pins s σ H _ v vl vu lo hi sl Q I rx hs pl pu ⟨a, xs, rfl, hx, k1, fun e => absurd hw e⟩
  · cases rx
    obtain ⟨qs, w1, g1, hz⟩ := I.tuple hx
    have en : qs.toArray.size = xs.length := by rw [List.size_toArray, w1.length]
    refine ⟨_, _, PyProof.Rows.slot_tuple_getitem.lookup, g1.typeIs, HT.getItem_tuple_cut g1 hs pl pu (by rw [en]; exact hw) ?_ (by rw [en]; exact hz)⟩
    rw [en]
    exact ⟨.ref s.heap.objs.size, _, I.laid (t' := s.toks) (fun _ _ e => Heap.get?_push_of_some _ e) (Nat.le_refl _) (tupNew (K := X.K) (Nat.le_trans (cutV_length xs lo hi) hz) ((w1.drop (HT.sIx xs.length 0 lo)).take (HT.sIx xs.length xs.length hi - HT.sIx xs.length 0 lo)) _ rfl), rfl,
      k2 hw _ _ (I.hok.fresh (Nat.le_refl _)) rfl⟩
theorem op_repN : OpR X (binaryOp .Mult) (fun x y H Q => ∃ l k xs, x = .ref l ∧ y = .int k ∧ SqT X.K H l xs ∧ xs ≠ [] ∧ 2 ≤ k ∧ k ≤ 1000 ∧ xs.length ≤ 1000 ∧ NewT H (List.replicate k.toNat xs).flatten Q) := by
  intro pins s σ H x y v u Q I rx ry h
  obtain ⟨l, k, xs, rfl, rfl, hT, hne, h1, h2, hz, go⟩ := h
  cases rx
  obtain ⟨t, rfl⟩ := ry
  obtain ⟨qs, w1, ⟨⟨c9, d9, dt9, sl9⟩, g1, gc, n9, gd⟩, hs⟩ := I.tuple hT
  simp only at gc gd
  subst gc gd
  have en : qs.length = xs.length := w1.length.symm
  have ne : qs ≠ [] := fun e => hne (List.eq_nil_of_length_eq_zero (by rw [← en, e]; rfl))
  have emp : qs.toArray.isEmpty = false := by
    cases qs with
    | nil => exact (ne rfl).elim
    | cons a b => rfl
  have en2 : qs.toArray.size = xs.length := by rw [List.size_toArray, en]
  have big : ((qs.toArray.size : Nat) : Int) * k ≤ 1000000 := by
    rw [en2]
    have : ((xs.length : Nat) : Int) * k ≤ 1000 * k := Int.mul_le_mul_of_nonneg_right (by omega) (by omega)
    omega
  have fl9 : (List.replicate k.toNat qs).flatten.length ≤ sizeLine := by
    rw [PyProof.Rows.lm_len_rep_flat, en, sizeLine_eq]
    have : k.toNat * xs.length ≤ 1000 * 1000 := Nat.mul_le_mul (by omega) hz
    omega
  refine wpAny_binaryOp_repeat_ref (T := "tuple") (U := "int") (by decide) ⟨_, g1, rfl⟩ (fun s9 => typeIs_int s9 k t) noFill_tuple_mul F.fills_int_mul F.slot_int_rmul repeat_tuple F.slot_int_index.lookup ?_
  refine call_meets F.slot_int_rmul (typeIs_int s k t) F.entry_int_rmul (F.args_int_rmul_2 _ _) (int_rmul_tuple k t l qs.toArray n9 d9 sl9) ⟨g1, rfl, ⟨_, g1, rfl⟩, ?_⟩
  refine call_meets F.slot_tuple_mul ⟨_, g1, rfl⟩ F.entry_tuple_mul (F.args_tuple_mul_2 _ _) (tuple_mulW l qs.toArray n9 d9 sl9 k t ?_ ?_ ?_ (by omega) ?_ (by rw [size_rep, List.size_toArray]; exact fl9)) ⟨g1, ?_⟩
  · rw [decide_eq_false (by omega), decide_eq_false (by omega)] <;> rfl
  · rw [emp, Bool.false_or]; exact beq_eq_false_iff_ne.mpr (by omega)
  · rw [emp, Bool.or_false]; exact decide_eq_false (by omega)
  · unfold Builtin.Tuple.tupleTooMany
    rw [sizeLine_eq]
    exact decide_eq_false (by omega)
  rw [size_rep]
  exact ⟨.ref s.heap.objs.size, _, I.laid (t' := s.toks) (fun _ _ e => Heap.get?_push_of_some _ e) (Nat.le_refl _) (tupNew (K := X.K) (by rw [← (w1.rep k.toNat).length] at fl9; exact fl9) (w1.rep k.toNat) _ rfl), rfl, go _ _ (I.hok.fresh (Nat.le_refl _)) rfl⟩
end
end Mid
namespace Mid
open PySem PySem.Spec PyProof.Rows L2
mutual
def pyD : D → PyData
  | .non => .none
  | .bl b => .bool b
  | .int i => .int i
  | .str x => .str x
  | .tup xs => .tuple (pyDL xs)
  | .lst _ xs => .list (pyDL xs)
  | _ => .none
def pyDL : List D → List PyData
  | [] => []
  | d :: ds => pyD d :: pyDL ds
end
mutual
def plainD : D → Bool
  | .tup xs => plainL xs
  | .lst _ xs => plainL xs
  | .non => true
  | .bl _ => true
  | .int _ => true
  | .str _ => true
  | _ => false
def plainL : List D → Bool
  | [] => true
  | d :: ds => plainD d && plainL ds
end
mutual
theorem Rep.dp {K : PySem.W.Frag} {PN : Pn} {H : Hp} {Z : Addr → Prop} : ∀ (d : D) {v : V} {fp : List Addr}, plainD d = true → Rep K PN H Z v d fp → Dp K H v (pyD d)
  | .non, _, _, _, .non => .non
  | .bl b, _, _, _, .bl => .bl b
  | .int i, _, _, _, .int => .int i
  | .str x, _, _, _, .str => .str x
  | .tup ds, _, _, n, .tup h r => .tup h.sq (RepL.dp ds n r)
  | .lst _ ds, _, _, n, .shr h z r => .lst (SqL.of h) (RepL.dp ds n r)
  | .lst _ ds, _, _, n, .own _ h r => .lst (.inl (.inl h)) (RepL.dp ds n r)
theorem RepL.dp {K : PySem.W.Frag} {PN : Pn} {H : Hp} {Z : Addr → Prop} : ∀ (ds : List D) {vs : List V} {fp : List Addr}, plainL ds = true → RepL K PN H Z vs ds fp → DpAll K H vs (pyDL ds)
  | [], _, _, _, .nil => .nil
  | d :: ds, _, _, n, .cons r q => .cons (Rep.dp d (by rw [plainL, Bool.and_eq_true] at n; exact n.1) r) (RepL.dp ds (by rw [plainL, Bool.and_eq_true] at n; exact n.2) q)
end
def okD (d : D) : Bool := plainD d && SeqAt.shaped (pyD d)
def dAdd : D → D → Comp D
  | .int i, .int j => .ret (.int (i + j))
  | .tup xs, .tup ys => if xs.length + ys.length ≤ sizeLine then .ret (.tup (xs ++ ys)) else .stuck
  | .lst _ xs, .lst _ ys => if xs.length + ys.length ≤ sizeLine then .ret (.lst .t (xs ++ ys)) else .stuck
  | .str x, .str y => if x.length + y.length ≤ sizeLine then .ret (.str (x ++ y)) else .stuck
  | _, _ => .stuck
def dSub : D → D → Comp D
  | .int i, .int j => .ret (.int (i - j))
  | _, _ => .stuck
structure smallI (n : Nat) (i : Int) : Prop where
  lt : i.natAbs < 2 ^ n
noncomputable instance {n : Nat} {i : Int} : Decidable (smallI n i) := Classical.propDecidable _
def mulLine : Nat := 400000
def divLine : Nat := 8000
noncomputable def dMul : D → D → Comp D
  | .int i, .int j => if smallI mulLine i ∧ smallI mulLine j then .ret (.int (i * j)) else .stuck
  | .lst _ xs, .int k => if -(2 ^ 63) ≤ k ∧ k < 2 ^ 63 ∧ xs.length * k.toNat ≤ sizeLine then .ret (.lst .t (List.replicate k.toNat xs).flatten) else .stuck
  | .tup xs, .int k => if 0 < xs.length ∧ 1 ≤ k ∧ k ≤ 1000 ∧ xs.length ≤ 1000 then .ret (.tup (List.replicate k.toNat xs).flatten) else .stuck
  | _, _ => .stuck
noncomputable def dDiv : D → D → Comp D
  | .int i, .int j => if 0 < j ∧ smallI divLine j then .ret (.int (i / j)) else .stuck
  | _, _ => .stuck
def dMod : D → D → Comp D
  | .int i, .int j => if j ≠ 0 then .ret (.int (i.fmod j)) else .stuck
  | _, _ => .stuck
noncomputable def dPow : D → D → Comp D
  | .int i, .int j => if 0 ≤ j ∧ j ≤ 1000 ∧ smallI 64 i then .ret (.int (i ^ j.toNat)) else .stuck
  | _, _ => .stuck
def scalD : D → D → Option Bool
  | .int i, .int j => some (decide (i = j))
  | .str x, .str y => some (decide (x = y))
  | .bl x, .bl y => some (decide (x = y))
  | _, _ => none
def dEq (d e : D) : Comp D := match scalD d e with
  | some b => .ret (.bl b)
  | none => if okD d && okD e then .ret (.bl (PyData.eqv (pyD d) (pyD e))) else .stuck
def dNe (d e : D) : Comp D := match scalD d e with
  | some b => .ret (.bl !b)
  | none => if okD d && okD e then .ret (.bl (!PyData.eqv (pyD d) (pyD e))) else .stuck
def dCmp (p : Int → Int → Bool) : D → D → Comp D
  | .int i, .int j => .ret (.bl (p i j))
  | _, _ => .stuck
abbrev dLt := dCmp fun i j => decide (i < j)
abbrev dGt := dCmp fun i j => decide (j < i)
abbrev dGe := dCmp fun i j => decide (j ≤ i)
def isNon : D → Bool
  | .non => true
  | _ => false
def dIs : D → D → Comp D
  | d, .non => .ret (.bl (isNon d))
  | _, _ => .stuck
def dIsNot : D → D → Comp D
  | d, .non => .ret (.bl (!isNon d))
  | _, _ => .stuck
def dIn : D → D → Comp D
  | d, .tup ds => if okD d && okD (.tup ds) then .ret (.bl (ds.any fun z => PyData.eqv (pyD z) (pyD d))) else .stuck
  | d, .lst _ ds => if okD d && okD (.lst .t ds) then .ret (.bl (ds.any fun z => PyData.eqv (pyD z) (pyD d))) else .stuck
  | _, _ => .stuck
def dNotIn : D → D → Comp D
  | d, .tup ds => if okD d && okD (.tup ds) then .ret (.bl (!ds.any fun z => PyData.eqv (pyD z) (pyD d))) else .stuck
  | d, .lst _ ds => if okD d && okD (.lst .t ds) then .ret (.bl (!ds.any fun z => PyData.eqv (pyD z) (pyD d))) else .stuck
  | _, _ => .stuck
local macro_rules | `(tactic| walk_at "quiet") => `(tactic| (intros; first | trivial | (split <;> first | trivial | (split <;> first | trivial | (split <;> trivial)))))
theorem q_add (d e : D) : (dAdd d e).quiet := by unfold dAdd; walk_at "quiet"
theorem q_mul (d e : D) : (dMul d e).quiet := by unfold dMul; walk_at "quiet"
theorem q_div (d e : D) : (dDiv d e).quiet := by unfold dDiv; walk_at "quiet"
theorem q_mod (d e : D) : (dMod d e).quiet := by unfold dMod; walk_at "quiet"
theorem q_pow (d e : D) : (dPow d e).quiet := by unfold dPow; walk_at "quiet"
theorem q_eq (d e : D) : (dEq d e).quiet := by unfold dEq; walk_at "quiet"
theorem q_ne (d e : D) : (dNe d e).quiet := by unfold dNe; walk_at "quiet"
theorem q_cmp (p : Int → Int → Bool) (d e : D) : (dCmp p d e).quiet := by unfold dCmp; walk_at "quiet"
theorem q_notin (d e : D) : (dNotIn d e).quiet := by unfold dNotIn; walk_at "quiet"
section
variable {X : Cx}
theorem or2 {f : Value → Value → Sem Value} {r : R2} (w : R2) (h : OpR X f w) (k : ∀ x y H Q, r x y H Q → w x y H Q) : OpR X f r := fun pins s σ H x y v u Q I rx ry q => h pins s σ H x y v u Q I rx ry (k x y H Q q)
theorem RepL.rep {K : PySem.W.Frag} {PN : Pn} {H : Hp} {Z : Addr → Prop} {vs : List V} {ds : List D} (r : RepL K PN H Z vs ds []) : ∀ k : Nat, RepL K PN H Z (List.replicate k vs).flatten (List.replicate k ds).flatten []
  | 0 => .nil
  | k + 1 => by
    rw [List.replicate_succ, List.replicate_succ, List.flatten_cons, List.flatten_cons]
    exact RepL.append (f := []) r (RepL.rep r k)
theorem Rep.lstS {K : PySem.W.Frag} {PN : Pn} {H : Hp} {Z : Addr → Prop} {v : V} {b : Ow} {ds : List D} (r : Rep K PN H Z v (.lst b ds) []) : ∃ a xs, v = .ref a ∧ H a = some (.lst xs) ∧ RepL K PN H Z xs ds [] := by
  generalize hf : ([] : List Addr) = f at r
  cases r with
  | shr h z r => exact ⟨_, _, rfl, h, hf ▸ r⟩
  | own _ h r => cases hf
theorem natAbs_log (n : Nat) (i : Int) (h0 : 0 < n) (h : smallI n i) : i.natAbs.log2 < n := PySem.Flt.log2_lt_of h0 h.lt
theorem o_mul : OpR X (binaryOp .Mult) (r2 X.K dMul) := or2 _ ((op_mulW (X := X)).or (op_rep.or (op_repN.or op_rep1))) fun x y H Q h => by
  obtain ⟨PN, n, Z, d, e, rd, re, z, p, h⟩ := h
  cases e <;> first | (cases d <;> exact h.elim) | skip
  rename_i j
  cases re
  cases d <;> first | exact h.elim | skip
  · rename_i i
    cases rd
    unfold dMul at h
    dsimp only at h
    split at h
    · rename_i hj
      refine .inl ⟨_, _, rfl, rfl, ?_, h _ PN H (Ev.here p z .int)⟩
      have a1 := natAbs_log mulLine i (by decide) hj.1
      have a2 := natAbs_log mulLine j (by decide) hj.2
      have a3 : mulLine = 400000 := rfl
      show i.natAbs.log2 + j.natAbs.log2 < 1000000
      omega
    · exact h.elim
  · rename_i ds
    unfold dMul at h
    dsimp only at h
    split at h
    · rename_i hj
      cases rd with
      | tup h1 r =>
        rename_i a vs
        have hl := r.length
        have hne : vs ≠ [] := fun e => by
          rw [e] at hl
          have := hj.1
          rw [← hl] at this
          exact absurd this (by decide)
        by_cases h2 : 2 ≤ j
        · exact .inr (.inr (.inl ⟨a, _, vs, rfl, rfl, h1.sq, hne, h2, hj.2.2.1, by rw [hl]; exact hj.2.2.2, fun q ob nq no => h _ PN _ (Ev.tup nq no p z (RepL.rep r _))⟩))
        · have e1 : j = 1 := by omega
          subst e1
          refine .inr (.inr (.inr ⟨a, _, vs, rfl, rfl, h1.sq, hne, rfl, ?_⟩))
          have e2 : (List.replicate (1 : Int).toNat ds).flatten = ds := by simp
          rw [e2] at h
          exact h _ PN H (Ev.here p z (.tup h1 r))
    · exact h.elim
  · rename_i b ds
    unfold dMul at h
    dsimp only at h
    split at h
    · rename_i hj
      obtain ⟨a, xs, rfl, hh, r⟩ := Rep.lstS rd
      have hl := r.length
      exact .inr (.inl ⟨_, _, _, rfl, rfl, hh, hj.1, hj.2.1, by rw [hl]; exact hj.2.2, fun q nq => h _ PN _ (Ev.lst nq p z (RepL.rep r _))⟩)
    · exact h.elim
theorem o_add : OpR X (binaryOp .Add) (r2 X.K dAdd) := or2 _ ((op_add (X := X)).or (op_catN.or (op_cat.or op_add_str))) fun x y H Q h => by
  obtain ⟨PN, n, Z, d, e, rd, re, z, p, h⟩ := h
  cases d <;> first | exact h.elim | skip
  · cases e <;> first | exact h.elim | skip
    cases rd; cases re
    exact .inl ⟨_, _, rfl, rfl, h _ PN H (Ev.here p z .int)⟩
  · cases e <;> first | exact h.elim | skip
    cases rd; cases re
    unfold dAdd at h
    dsimp only at h
    split at h
    · rename_i hl
      exact .inr (.inr (.inr ⟨_, _, rfl, rfl, hl, h _ PN H (Ev.here p z .str)⟩))
    · exact h.elim
  · cases e <;> first | exact h.elim | skip
    cases rd with
    | tup h1 r1 =>
      cases re with
      | tup h2 r2 =>
        unfold dAdd at h
        dsimp only at h
        split at h
        · rename_i hl
          have l1 := r1.length
          have l2 := r2.length
          refine .inr (.inl ⟨_, _, _, _, rfl, rfl, h1.sq, h2.sq, by omega, fun ex => ?_, fun _ ey => ?_, fun _ _ q ob nq no => h _ PN _ (Ev.tup nq no p z (RepL.append (f := []) r1 r2))⟩)
          · subst ex
            cases r1
            exact h _ PN H (Ev.here p z (.tup h2 r2))
          · subst ey
            cases r2
            rw [List.append_nil] at h
            exact h _ PN H (Ev.here p z (.tup h1 r1))
        · exact h.elim
  · cases e <;> first | exact h.elim | skip
    unfold dAdd at h
    dsimp only at h
    split at h
    · rename_i hl
      obtain ⟨a, xs, rfl, h1, r1⟩ := Rep.lstS rd
      obtain ⟨b, ys, rfl, h2, r2⟩ := Rep.lstS re
      have l1 := r1.length
      have l2 := r2.length
      exact .inr (.inr (.inl ⟨_, _, _, _, rfl, rfl, h1, h2, by omega, fun q nq => h _ PN _ (Ev.lst nq p z (RepL.append (f := []) r1 r2))⟩))
    · exact h.elim
theorem o_div : OpR X (binaryOp .FloorDiv) (r2 X.K dDiv) := or2 _ op_fdivW fun x y H Q h => by
  obtain ⟨PN, n, Z, d, e, rd, re, z, p, h⟩ := h
  cases d <;> first | exact h.elim | skip
  cases e <;> first | exact h.elim | skip
  cases rd; cases re
  unfold dDiv at h
  dsimp only at h
  split at h
  · rename_i hj
    exact ⟨_, _, rfl, rfl, ⟨hj.1, Nat.lt_of_lt_of_le (natAbs_log _ _ (by decide) hj.2) (by decide)⟩, h _ PN H (Ev.here p z .int)⟩
  · exact h.elim
theorem o_mod : OpR X (binaryOp .Mod) (r2 X.K dMod) := or2 _ op_modN fun x y H Q h => by
  obtain ⟨PN, n, Z, d, e, rd, re, z, p, h⟩ := h
  cases d <;> first | exact h.elim | skip
  cases e <;> first | exact h.elim | skip
  cases rd; cases re
  unfold dMod at h
  dsimp only at h
  split at h
  · rename_i hj
    exact ⟨_, _, rfl, rfl, hj, h _ PN H (Ev.here p z .int)⟩
  · exact h.elim
theorem o_pow : OpR X (binaryOp .Pow) (r2 X.K dPow) := or2 _ op_pow fun x y H Q h => by
  obtain ⟨PN, n, Z, d, e, rd, re, z, p, h⟩ := h
  cases d <;> first | exact h.elim | skip
  cases e <;> first | exact h.elim | skip
  cases rd; cases re
  unfold dPow at h
  dsimp only at h
  split at h
  · rename_i hj
    exact ⟨_, _, rfl, rfl, ⟨hj.1, by omega, hj.2.2.lt⟩, h _ PN H (Ev.here p z .int)⟩
  · exact h.elim
theorem o_cmp {op : CmpOp} {q : Int → Int → Bool} (ho : OpR X (compareOp op) (rI0 fun i j => .bl (q i j))) : OpR X (compareOp op) (r2 X.K (dCmp q)) := or2 _ ho fun x y H Q h => by
  obtain ⟨PN, n, Z, d, e, rd, re, z, p, h⟩ := h
  cases d <;> first | exact h.elim | skip
  cases e <;> first | exact h.elim | skip
  cases rd; cases re
  exact ⟨_, _, rfl, rfl, h _ PN H (Ev.here p z .bl)⟩
theorem o_lt : OpR X (compareOp .Lt) (r2 X.K dLt) := o_cmp op_lt
theorem o_gt : OpR X (compareOp .Gt) (r2 X.K dGt) := o_cmp op_gt
theorem o_ge : OpR X (compareOp .GtE) (r2 X.K dGe) := o_cmp op_ge
theorem okD_and {d e : D} (h : (okD d && okD e) = true) : (plainD d = true ∧ SeqAt.shaped (pyD d) = true) ∧ plainD e = true ∧ SeqAt.shaped (pyD e) = true := by
  simpa [okD] using h
theorem scalD_some {K : PySem.W.Frag} {PN : Pn} {H : Hp} {Z : Addr → Prop} {x y : V} {d e : D} {f g : List Addr} {b : Bool} (h : scalD d e = some b) (rd : Rep K PN H Z x d f) (re : Rep K PN H Z y e g) : scal x y = true ∧ decide (x = y) = b := by
  cases d <;> cases e <;> first | cases h | skip
  all_goals (cases rd; cases re; exact ⟨rfl, by simp⟩)
theorem o_eq (hu : X.A.units + 64 < cLine) : OpR X (compareOp .Eq) (r2 X.K dEq) := or2 _ ((op_eq (X := X)).or (op_eqD hu)) fun x y H Q h => by
  obtain ⟨PN, n, Z, d, e, rd, re, z, p, h⟩ := h
  unfold dEq at h
  split at h
  · rename_i b hb
    obtain ⟨h1, h2⟩ := scalD_some hb rd re
    exact .inl ⟨h1, by rw [h2]; exact h _ PN H (Ev.here p z .bl)⟩
  split at h
  · rename_i hk
    obtain ⟨⟨a1, a2⟩, b1, b2⟩ := okD_and hk
    exact .inr ⟨_, _, rd.dp _ a1, re.dp _ b1, a2, b2, h _ PN H (Ev.here p z .bl)⟩
  · exact h.elim
theorem o_ne (hu : X.A.units + 64 < cLine) : OpR X (compareOp .NotEq) (r2 X.K dNe) := or2 _ ((op_ne (X := X)).or (op_neD hu)) fun x y H Q h => by
  obtain ⟨PN, n, Z, d, e, rd, re, z, p, h⟩ := h
  unfold dNe at h
  split at h
  · rename_i b hb
    obtain ⟨h1, h2⟩ := scalD_some hb rd re
    exact .inl ⟨h1, by rw [h2]; exact h _ PN H (Ev.here p z .bl)⟩
  split at h
  · rename_i hk
    obtain ⟨⟨a1, a2⟩, b1, b2⟩ := okD_and hk
    exact .inr ⟨_, _, rd.dp _ a1, re.dp _ b1, a2, b2, h _ PN H (Ev.here p z .bl)⟩
  · exact h.elim
theorem pyDL_any {d : PyData} : ∀ ds : List D, ((pyDL ds).any fun z => PyData.eqv z d) = ds.any fun z => PyData.eqv (pyD z) d
  | [] => rfl
  | e :: ds => by simp [pyDL, pyDL_any ds]
def rnotinTup (K : PySem.W.Frag) : R2 := fun x y H Q => ∃ d ds, Dp K H x d ∧ Dp K H y (.tuple ds) ∧ SeqAt.shaped d = true ∧ SeqAt.shaped (.tuple ds) = true ∧ Q (.bl (!ds.any fun z => PyData.eqv z d)) H
theorem op_notinTup (hu : X.A.units + 65 < cLine) : OpR X (compareOp .NotIn) (rnotinTup X.K) := fun pins s σ H x y v u Q I rx ry ⟨d, ds, hd, he, sd, se, q⟩ => by
  obtain ⟨as, w1⟩ := Dp.reads I d x v hd rx
  obtain ⟨bs, w2⟩ := Dp.reads I (.tuple ds) y u he ry
  exact SeqAt.notIn_tuple_reads w2 w1 (SeqAt.canLay_of_shaped se) (SeqAt.canLay_of_shaped sd) (room_in_shaped sd hu) ⟨.bl _, H, I, rfl, q⟩
theorem o_notin (hu : X.A.units + 65 < cLine) : OpR X (compareOp .NotIn) (r2 X.K dNotIn) := or2 _ ((op_notInD hu).or (op_notinTup hu)) fun x y H Q h => by
  obtain ⟨PN, n, Z, d, e, rd, re, z, p, h⟩ := h
  cases e <;> first | exact h.elim | skip
  · rename_i ds
    unfold dNotIn at h
    dsimp only at h
    split at h
    · rename_i hk
      obtain ⟨⟨a1, a2⟩, b1, b2⟩ := okD_and hk
      exact .inr ⟨_, _, rd.dp _ a1, (show Dp X.K H y (pyD (.tup ds)) from re.dp _ b1), a2, b2, by rw [pyDL_any]; exact h _ PN H (Ev.here p z .bl)⟩
    · exact h.elim
  · rename_i b ds
    have re : Rep X.K PN H Z y (.lst b ds) [] := re
    unfold dNotIn at h
    dsimp only at h
    split at h
    · rename_i hk
      obtain ⟨⟨a1, a2⟩, b1, b2⟩ := okD_and hk
      exact .inl ⟨_, _, rd.dp _ a1, (show Dp X.K H y (pyD (.lst .t ds)) from (re.dp _ b1 : Dp X.K H y (pyD (.lst b ds)))), a2, b2, by rw [pyDL_any]; exact h _ PN H (Ev.here p z .bl)⟩
    · exact h.elim
def dIx : D → D → Comp D
  | .tup xs, .int i => match atI xs i with
    | some d => .ret d
    | none => .stuck
  | .lst _ xs, .int i => match atI xs i with
    | some d => .ret d
    | none => .stuck
  | _, _ => .stuck
theorem q_ix (d e : D) : (dIx d e).quiet := by unfold dIx; walk_at "quiet"
theorem RepL.atI {K : PySem.W.Frag} {PN : Pn} {H : Hp} {Z : Addr → Prop} {vs : List V} {ds : List D} {i : Int} {d : D} (r : RepL K PN H Z vs ds []) (h : L2.atI ds i = some d) : ∃ v, L2.atI vs i = some v ∧ Rep K PN H Z v d [] := by
  unfold L2.atI at h ⊢
  rw [r.length]
  cases e : ixN ds.length i with
  | none => rw [e] at h; cases h
  | some j =>
    rw [e] at h
    exact r.get rfl h
theorem ixW {r : R2} (w : R2) (h : IxR X w) (k : ∀ x y H Q, r x y H Q → w x y H Q) : IxR X r := fun b1 b2 pins s σ H x y v u Q I rx ry q hs => h b1 b2 pins s σ H x y v u Q I rx ry (k x y H Q q) hs
theorem x_ix : IxR X (r2 X.K dIx) := ixW _ (ix_list.or ix_tup) fun x y H Q h => by
  obtain ⟨PN, n, Z, d, e, rd, re, z, p, h⟩ := h
  cases e <;> first | (cases d <;> exact h.elim) | skip
  cases re
  cases d <;> first | exact h.elim | skip
  · unfold dIx at h
    dsimp only at h
    split at h
    · rename_i d' e
      cases rd with
      | tup h1 r =>
        obtain ⟨v, h2, h3⟩ := RepL.atI r e
        exact .inr ⟨_, _, _, v, rfl, rfl, h1.sq, h2, h _ PN H (Ev.here p z h3)⟩
    · exact h.elim
  · unfold dIx at h
    dsimp only at h
    split at h
    · rename_i d' e
      obtain ⟨a, xs, rfl, hh, r⟩ := Rep.lstS rd
      obtain ⟨v, h2, h3⟩ := RepL.atI r e
      exact .inl ⟨_, _, _, v, rfl, rfl, SqL.of hh, h2, h _ PN H (Ev.here p z h3)⟩
    · exact h.elim
def cutD (xs : List D) (lo hi : Option Int) : List D := (xs.drop (HT.sIx xs.length 0 lo)).take (HT.sIx xs.length xs.length hi - HT.sIx xs.length 0 lo)
theorem RepL.cut {K : PySem.W.Frag} {PN : Pn} {H : Hp} {Z : Addr → Prop} {vs : List V} {ds : List D} (r : RepL K PN H Z vs ds []) (lo hi : Option Int) : RepL K PN H Z (cutV vs lo hi) (cutD ds lo hi) [] := by
  unfold cutV cutD
  rw [r.length]
  exact RepL.take _ (RepL.drop _ r rfl) rfl
theorem RepL.intsM {K : PySem.W.Frag} {PN : Pn} {H : Hp} {Z : Addr → Prop} : ∀ ns : List Int, RepL K PN H Z (ns.map V.int) (ns.map D.int) []
  | [] => .nil
  | _ :: ns => .cons (f := []) .int (RepL.intsM ns)
def dSl : D → Option Int → Option Int → Comp D
  | .tup xs, lo, hi => .ret (.tup (cutD xs lo hi))
  | .lst _ xs, lo, hi => .ret (.lst .t (cutD xs lo hi))
  | .scr ns, lo, hi => .ret (.lst .t (cutD (ns.map D.int) lo hi))
  | _, _, _ => .stuck
theorem q_sl (d : D) (lo hi : Option Int) : (dSl d lo hi).quiet := by unfold dSl; walk_at "quiet"
theorem slW {r : V → Option Int → Option Int → Hp → VK → Prop} (w : V → Option Int → Option Int → Hp → VK → Prop) (h : SlR X w) (k : ∀ x lo hi H Q, r x lo hi H Q → w x lo hi H Q) : SlR X r := fun a1 a2 a3 H x a6 a7 a8 lo hi a11 Q I rx hs pl pu q => h a1 a2 a3 H x a6 a7 a8 lo hi a11 Q I rx hs pl pu (k x lo hi H Q q)
theorem cutD_whole {xs : List D} {lo hi : Option Int} (h1 : HT.sIx xs.length 0 lo = 0) (h2 : HT.sIx xs.length xs.length hi = xs.length) : cutD xs lo hi = xs := by
  unfold cutD
  rw [h1, h2]
  simp
theorem s_sl : SlR X (rSl X.K dSl) := slW _ (sl_list.or sl_tupN) fun x lo hi H Q h => by
  obtain ⟨PN, n, Z, d, rd, z, p, h⟩ := h
  cases d <;> first | exact h.elim | skip
  · rename_i ds
    cases rd with
    | tup h1 r =>
      refine .inr ⟨_, _, rfl, h1.sq, fun ⟨e1, e2⟩ => ?_, fun _ q ob nq no => h _ PN _ (Ev.tup nq no p z (r.cut lo hi))⟩
      have hl := r.length
      rw [hl] at e1 e2
      have hw : cutD ds lo hi = ds := cutD_whole e1 e2
      have h' : ∀ v PN' H', Ev X.K PN H Z n v (.tup (cutD ds lo hi)) PN' H' → Q v H' := h
      rw [hw] at h'
      exact h' _ PN H (Ev.here p z (.tup h1 r))
  · obtain ⟨a, xs, rfl, hh, r⟩ := Rep.lstS rd
    exact .inl ⟨_, _, rfl, SqL.of hh, fun q nq => h _ PN _ (Ev.lst nq p z (r.cut lo hi))⟩
  · rename_i ns
    cases rd with
    | scr hh => exact .inl ⟨_, _, rfl, hh.sq, fun q nq => h _ PN _ (Ev.lst nq p z ((RepL.intsM ns).cut lo hi))⟩
def gLen : List D → Comp D
  | [.tup xs] => .ret (.int xs.length)
  | [.lst _ xs] => .ret (.int xs.length)
  | [.str x] => if x.length ≤ sizeLine then .ret (.int x.length) else .stuck
  | _ => .stuck
def gInt : List D → Comp D
  | [.int i] => .ret (.int i)
  | [.bl b] => .ret (.int (if b then 1 else 0))
  | _ => .stuck
def gList : List D → Comp D
  | [.tup xs] => .ret (.lst .t xs)
  | [.lst _ xs] => .ret (.lst .t xs)
  | _ => .stuck
def gTuple : List D → Comp D
  | [.tup xs] => .ret (.tup xs)
  | [.lst _ xs] => .ret (.tup xs)
  | _ => .stuck
def intsOf : List D → Option (List Int)
  | [] => some []
  | .int i :: ds => (intsOf ds).map (i :: ·)
  | _ :: _ => none
def blsOf : List D → Option (List Bool)
  | [] => some []
  | .bl i :: ds => (blsOf ds).map (i :: ·)
  | _ :: _ => none
def gSum : List D → Comp D
  | [.lst _ xs] => match intsOf xs with
    | some ns => .ret (.int ns.sum)
    | none => .stuck
  | [.tup xs] => match intsOf xs with
    | some ns => .ret (.int ns.sum)
    | none => .stuck
  | _ => .stuck
def gAll : List D → Comp D
  | [.lst _ xs] => match blsOf xs with
    | some bs => .ret (.bl (bs.all id))
    | none => .stuck
  | _ => .stuck
def gAnyB : List D → Comp D
  | [.lst _ xs] => match blsOf xs with
    | some bs => .ret (.bl (bs.any id))
    | none => .stuck
  | _ => .stuck
def minL : List Int → Int
  | [] => 0
  | [a] => a
  | a :: b :: r => min a (minL (b :: r))
def maxL : List Int → Int
  | [] => 0
  | [a] => a
  | a :: b :: r => max a (maxL (b :: r))
def gMin : List D → Comp D
  | [.lst _ xs] => match intsOf xs with
    | some ns => if 0 < ns.length then .ret (.int (minL ns)) else .stuck
    | none => .stuck
  | [.tup xs] => match intsOf xs with
    | some ns => if 0 < ns.length then .ret (.int (minL ns)) else .stuck
    | none => .stuck
  | [.int i, .int j] => .ret (.int (if j < i then j else i))
  | _ => .stuck
def gMax : List D → Comp D
  | [.lst _ xs] => match intsOf xs with
    | some ns => if 0 < ns.length then .ret (.int (maxL ns)) else .stuck
    | none => .stuck
  | [.tup xs] => match intsOf xs with
    | some ns => if 0 < ns.length then .ret (.int (maxL ns)) else .stuck
    | none => .stuck
  | [.int i, .int j] => .ret (.int (if j > i then j else i))
  | _ => .stuck
def gRepr : List D → Comp D
  | [d] => if okD d && (pyD d).showable && decide ((pyD d).shown.length ≤ sizeLine) then .ret (.str (pyD d).shown) else .stuck
  | _ => .stuck
theorem q_len (d : List D) : (gLen d).quiet := by unfold gLen; walk_at "quiet"
theorem q_list (d : List D) : (gList d).quiet := by unfold gList; walk_at "quiet"
theorem q_repr (d : List D) : (gRepr d).quiet := by unfold gRepr; walk_at "quiet"
theorem clW {f : Value} {r : List V → Hp → VK → Prop} (w : List V → Hp → VK → Prop) (h : CallR X f w) (k : ∀ xs H Q, r xs H Q → w xs H Q) : CallR X f r := fun pins s σ H xs us Q I rx q => h pins s σ H xs us Q I rx (k xs H Q q)
/-- one argument -/
theorem one_of {K : PySem.W.Frag} {g : List D → Comp D} {xs : List V} {H : Hp} {Q : VK} (h : rN K g xs H Q) (h1 : ∀ ds, (∀ d, ds ≠ [d]) → g ds = .stuck) : ∃ x PN n Z d, xs = [x] ∧ Rep K PN H Z x d [] ∧ Zk PN Z H ∧ Pens PN n H ∧
    (g [d]).all (fun m r => ∀ v PN' H', Ev K PN H Z m v r PN' H' → Q v H') (fun _ _ _ => False) n := by
  obtain ⟨PN, n, Z, ds, r, z, p, h⟩ := h
  by_cases e : ∃ d, ds = [d]
  · obtain ⟨d, rfl⟩ := e
    obtain ⟨v, us, rfl, r1, r2⟩ := r.inv rfl
    obtain rfl := r2.inv0
    exact ⟨v, PN, n, Z, d, rfl, r1, z, p, h⟩
  · rw [h1 ds fun d q => e ⟨d, q⟩] at h
    exact h.elim
local macro_rules | `(tactic| walk_at "one") => `(tactic| (intro ds hd; rcases ds with _ | ⟨d, _ | ⟨e, ds⟩⟩; rfl; exact absurd rfl (hd d); (first | rfl | (cases d <;> rfl))))
theorem c_len : CallR X (.builtin "len") (rN X.K gLen) := clW _ (call_len_seq.or call_len_str) fun xs H Q h => by
  have h0 := one_of h (by walk_at "one")
  clear h
  obtain ⟨x, PN, n, Z, d, rfl, r, z, p, h⟩ := h0
  cases d <;> first | exact h.elim | skip
  · cases r
    unfold gLen at h
    dsimp only at h
    split at h
    · rename_i hl
      exact .inr ⟨_, rfl, hl, h _ PN H (Ev.here p z .int)⟩
    · exact h.elim
  · cases r with
    | tup h1 r => exact .inl ⟨_, _, rfl, .inr h1.sq, by rw [r.length]; exact h _ PN H (Ev.here p z .int)⟩
  · obtain ⟨a, xs, rfl, hh, r⟩ := Rep.lstS r
    exact .inl ⟨_, _, rfl, .inl (SqL.of hh), by rw [r.length]; exact h _ PN H (Ev.here p z .int)⟩
theorem c_list : CallR X (.type "list") (rN X.K gList) := clW _ call_list_of fun xs H Q h => by
  have h0 := one_of h (by walk_at "one")
  clear h
  obtain ⟨x, PN, n, Z, d, rfl, r, z, p, h⟩ := h0
  cases d <;> first | exact h.elim | skip
  · cases r with
    | tup h1 r => exact ⟨_, _, rfl, .inr h1.sq, fun l hl => h _ PN _ (Ev.lst hl p z r)⟩
  · obtain ⟨a, xs, rfl, hh, r⟩ := Rep.lstS r
    exact ⟨_, _, rfl, .inl (SqL.of hh), fun l hl => h _ PN _ (Ev.lst hl p z r)⟩
end
end Mid
namespace Mid
open PySem PySem.Spec PyProof.Rows L2
section
variable {prog : Program} {w : World} {A : Around} {E : Value → Shared → Prop} {s : Shared} {l : Addr} {its : List Value} {ns : List Int} {Q : Value → Shared → Prop}
theorem IntsAre.at : ∀ {its : List Value} {ns : List Int}, IntsAre its ns → ∀ {i : Nat} {v : Value}, its[i]? = some v → ∃ t, v = .int (ns.getD i 0) t
  | _, _, .nil, _, _, h => by simp at h
  | _, _, .cons n t r, 0, v, h => by
    simp at h
    exact ⟨t, by simp [h]⟩
  | _, _, .cons n t r, i + 1, v, h => by
    obtain ⟨u, e⟩ := IntsAre.at r (i := i) (by simpa using h)
    exact ⟨u, by simpa using e⟩
end
section
variable {X : Cx}
local macro_rules | `(tactic| walk_at "one") => `(tactic| (intro ds hd; rcases ds with _ | ⟨d, _ | ⟨e, ds⟩⟩; rfl; exact absurd rfl (hd d); (first | rfl | (cases d <;> rfl))))
local macro_rules | `(tactic| walk_at "two") => `(tactic| (intro ds hd he; rcases ds with _ | ⟨d, _ | ⟨e, _ | ⟨e2, ds⟩⟩⟩; rfl; exact absurd rfl (hd d); exact absurd rfl (he d e); (first | rfl | (cases d <;> first | rfl | (cases e <;> rfl)))))
theorem c_repr (hc : Calm X.A) (hu : X.A.units + 66 < cLine) : CallR X (.builtin "repr") (rN X.K gRepr) := by
  intro pins s σ H xs us Q I rx h
  have h0 := one_of h (by intro ds hd; rcases ds with _ | ⟨d, _ | ⟨e, ds⟩⟩; rfl; exact absurd rfl (hd d); rfl)
  clear h
  obtain ⟨x, PN, n, Z, d, rfl, r, z, p, h⟩ := h0
  unfold gRepr at h
  dsimp only at h
  split at h
  · rename_i hk
    obtain ⟨⟨⟨k1, k2⟩, k3⟩, k4⟩ : ((plainD d = true ∧ SeqAt.shaped (pyD d) = true) ∧ (pyD d).showable = true) ∧ (pyD d).shown.length ≤ sizeLine := by simpa [okD] using hk
    have fin : ∀ h' u tk, (∀ b o, s.heap.get? b = some o → h'.get? b = some o) → EP X pins σ Q (.str (pyD d).shown u) { s with heap := h', toks := tk } := fun h' u tk hk => ⟨.str _, H, I.kept hk, ⟨_, rfl⟩, h _ PN H (Ev.here p z .str)⟩
    obtain ⟨u, rfl, ru⟩ := vals1 rx
    have hdep := SeqAt.depth_of_shaped k2
    have hlay := SeqAt.canLay_of_shaped k2
    have same : ∀ b o, s.heap.get? b = some o → s.heap.get? b = some o := fun _ _ h => h
    cases d with
    | non => cases r; cases ru; exact PySem.P.repr_of_none (fin _ _ _ same)
    | bl b => cases r; cases ru; exact PySem.P.repr_of_bool (fin _ _ _ same)
    | int i =>
      cases r
      obtain ⟨t, rfl⟩ := ru
      have k5 : i.natAbs.log2 < 1920 := by simpa [pyD, PyData.showable] using k3
      exact PySem.P.repr_of_int k5 (fin _ _ _ same)
    | str x =>
      cases r
      obtain ⟨t, rfl⟩ := ru
      exact PySem.P.repr_of_str (fin _ _ _ same) k4
    | tup ds =>
      cases r with
      | tup h1 r =>
        cases ru
        obtain ⟨as, hr⟩ := Dp.reads I _ _ _ (Rep.dp (.tup ds) k1 (.tup h1 r)) rfl
        exact repr_of_reads' hr k3 (fun q => by rw [PyData.hasDict_of_canLay _ hlay] at q; cases q) hc (by omega) same (fun h' u tk hk => fin h' u tk hk) k4
    | lst b ds =>
      obtain ⟨a, xs, rfl, hh, _⟩ := Rep.lstS r
      cases ru
      obtain ⟨as, hr⟩ := Dp.reads I _ _ _ (Rep.dp (.lst b ds) k1 r) rfl
      exact repr_of_reads' hr k3 (fun q => by rw [PyData.hasDict_of_canLay _ hlay] at q; cases q) hc (by omega) same (fun h' u tk hk => fin h' u tk hk) k4
    | _ => cases k1
  · exact h.elim
end
end Mid
namespace Mid
open PySem PySem.Spec PyProof.Rows L2
section
variable {K : PySem.W.Frag} {B : Bs} {PN PN' : Pn} {H H' : Hp} {Z Z' : Addr → Prop} {ρ ρ' : Env} {σ σ' : L2.St} {o o' : Addr → Option Nat} {m n : Nat} {vs : List Nat}
/-- a list of slot i is changed at its address a -/
theorem SOk.upd (s : SOk K B PN H Z ρ σ o) (p : Pens PN n H) {i : Nat} {a : Addr} {old new : List V} {v0 : V} {d1 : D} {f1 : List Addr} (ha : o a = some i) (hH : H a = some (.lst old)) (hv : σ[i]? = some (some v0)) (nd : f1.Nodup) (hbw : brw d1 = true → ∃ d0, ρ[i]? = some (some d0) ∧ brw d0 = true)
    (hf : ∀ b ∈ f1, o b = some i ∨ (B.h b = none ∧ ¬ Z b ∧ NP PN b ∧ H b ≠ none ∧ ∀ j, o b ≠ some j)) (r : Rep K PN (L2.upd H a (.lst new)) Z v0 d1 f1) :
    Pens PN n (L2.upd H a (.lst new)) ∧ ∃ o', SOk K B PN (L2.upd H a (.lst new)) Z (ρ.set i (some d1)) σ o' := by
  obtain ⟨a1, a2, a3, a4⟩ := s.own a i ha
  have there : ∀ b, H b ≠ none → L2.upd H a (.lst new) b ≠ none := fun b q => by
    by_cases e : b = a
    · rw [e, upd_same]; simp
    · rw [upd_ne e]; exact q
  have pr : Pres Z H (L2.upd H a (.lst new)) := ⟨fun b ob e z => by rw [upd_ne (by intro q; rw [q] at z; exact a2 z)]; exact e, fun b xs e => by rw [upd_ne (fun q => by rw [q, hH] at e; cases e)]; exact e,
    fun b ob u e => by rw [upd_ne (fun q => by rw [q, hH] at e; cases e)]; exact e⟩
  refine ⟨⟨p.1, fun pp cc e => ?_⟩, fun b => if b ∈ f1 then some i else if o b = some i then none else o b, ?_⟩
  · obtain ⟨cs, x, y, h1, h2, h3⟩ := p.2 pp cc e
    exact ⟨cs, x, y, by rw [upd_ne (Ne.symm (a3 pp cc e).1)]; exact h1, by rw [upd_ne (Ne.symm (a3 pp cc e).2)]; exact h2, h3⟩
  refine ⟨⟨s.mv.sub, s.mv.new, fun b ob e np => ?_, fun b e => ?_⟩, fun b z => ⟨there b (s.zk b z).1, (s.zk b z).2⟩, s.z0, s.old.trans s.zold pr, s.pold, s.zold, by simp [s.len], fun j e he => ?_, fun b j h => ?_, fun j a9 e hj he hbe => ?_⟩
  · rw [upd_ne (fun q => by rw [q, a1] at e; cases e)]
    exact s.mv.ext b ob e np
  · by_cases q : b = a
    · rw [q]; exact a1
    · rw [upd_ne q] at e
      exact s.mv.keep b e
  · by_cases hj : i = j
    · subst hj
      have hl : i < ρ.length := by
        have := (List.getElem?_eq_some_iff.mp he).1
        simpa using this
      rw [List.getElem?_set_self hl] at he
      cases he
      exact ⟨v0, f1, hv, nd, fun b hb => if_pos hb, r⟩
    · rw [List.getElem?_set_ne hj] at he
      obtain ⟨u, f, h1, h2, h3, h4⟩ := s.slot j e he
      have fa : a ∉ f := fun q => hj (Option.some.inj (ha.symm.trans (h3 a q)))
      refine ⟨u, f, h1, h2, fun b hb => ?_, Rep.to pr (fun _ h => h) (fun _ h => h) e (fun b hb ob eb => by rw [upd_ne (by intro q; rw [q] at hb; exact fa hb)]; exact eb) h4⟩
      have hn : b ∉ f1 := fun q => by
        rcases hf b q with q | q
        · exact hj (Option.some.inj (q.symm.trans (h3 b hb)))
        · exact q.2.2.2.2 j (h3 b hb)
      rw [if_neg hn, if_neg (by rw [h3 b hb]; simpa using fun q => hj q.symm)]
      exact h3 b hb
  · by_cases hb : b ∈ f1
    · rcases hf b hb with q | q
      · obtain ⟨b1, b2, b3, b4⟩ := s.own b i q
        exact ⟨b1, b2, b3, there b b4⟩
      · exact ⟨q.1, q.2.1, q.2.2.1, there b q.2.2.2.1⟩
    · rw [if_neg hb] at h
      split at h
      · cases h
      · obtain ⟨b1, b2, b3, b4⟩ := s.own b j h
        exact ⟨b1, b2, b3, there b b4⟩
  · by_cases hij : i = j
    · subst hij
      have hl : i < ρ.length := by
        have := (List.getElem?_eq_some_iff.mp he).1
        simpa using this
      rw [List.getElem?_set_self hl] at he
      cases he
      obtain ⟨d0, e0, b0⟩ := hbw hbe
      exact s.fix i a9 d0 hj e0 b0
    · rw [List.getElem?_set_ne hij] at he
      exact s.fix j a9 e hj he hbe
theorem RepL.split : ∀ {vs : List V} {ds : List D} {f : List Addr} (k : Nat), RepL K PN H Z vs ds f → ∃ f1 f2, f = f1 ++ f2 ∧ RepL K PN H Z (vs.take k) (ds.take k) f1 ∧ RepL K PN H Z (vs.drop k) (ds.drop k) f2
  | _, _, f, 0, r => ⟨[], f, rfl, .nil, r⟩
  | _, _, _, _ + 1, .nil => ⟨[], [], rfl, .nil, .nil⟩
  | _, _, _, k + 1, .cons (f := g) r t => by
    obtain ⟨f1, f2, e, h1, h2⟩ := RepL.split k t
    exact ⟨g ++ f1, f2, by rw [e, List.append_assoc], .cons r h1, h2⟩
theorem set_split {α : Type} {xs : List α} {j : Nat} {x : α} (h : j < xs.length) : xs.set j x = xs.take j ++ (x :: xs.drop (j + 1)) := by
  rw [List.set_eq_take_append_cons_drop, if_pos h]
theorem RepL.upd {vs : List V} {ds : List D} {f : List Addr} {a : Addr} {old new : List V} (r : RepL K PN H Z vs ds f) (hH : H a = some (.lst old)) (hz : ¬ Z a) (hf : a ∉ f) : RepL K PN (L2.upd H a (.lst new)) Z vs ds f :=
  RepL.to ⟨fun b ob e z => by rw [upd_ne (by intro q; rw [q] at z; exact hz z)]; exact e, fun b xs e => by rw [upd_ne (fun q => by rw [q, hH] at e; cases e)]; exact e, fun b ob u e => by rw [upd_ne (fun q => by rw [q, hH] at e; cases e)]; exact e⟩
    (fun _ h => h) (fun _ h => h) ds (fun b hb ob e => by rw [upd_ne (by intro q; rw [q] at hb; exact hf hb)]; exact e) r
theorem Rep.upd {v : V} {d : D} {f : List Addr} {a : Addr} {old new : List V} (r : Rep K PN H Z v d f) (hH : H a = some (.lst old)) (hz : ¬ Z a) (hf : a ∉ f) : Rep K PN (L2.upd H a (.lst new)) Z v d f :=
  Rep.to ⟨fun b ob e z => by rw [upd_ne (by intro q; rw [q] at z; exact hz z)]; exact e, fun b xs e => by rw [upd_ne (fun q => by rw [q, hH] at e; cases e)]; exact e, fun b ob u e => by rw [upd_ne (fun q => by rw [q, hH] at e; cases e)]; exact e⟩
    (fun _ h => h) (fun _ h => h) d (fun b hb ob e => by rw [upd_ne (by intro q; rw [q] at hb; exact hf hb)]; exact e) r
end
def ownAt (ρ : Env) (i : Nat) : Option (Ow × List D) := match ρ[i]? with
  | some (some (.lst .t xs)) => some (.t, xs)
  | some (some (.lst .b xs)) => some (.b, xs)
  | _ => none
def sApp (i : Nat) (vs : List Nat) (f : Env → Comp D) : Env → Comp (Fl × Env) := fun ρ => match ownAt ρ i with
  | some _ => run vs f ρ fun d => match ownAt (upE vs d ρ) i with
    | some (w, xs) => if xs.length < sizeLine then .ret (.nx, (upE vs d ρ).set i (some (.lst w (xs ++ [d])))) else .stuck
    | none => .stuck
  | none => .stuck
theorem ownAt_some {ρ : Env} {i : Nat} {xs : List D} {w : Ow} (h : ownAt ρ i = some (w, xs)) : ρ[i]? = some (some (.lst w xs)) ∧ w ≠ .f := by
  unfold ownAt at h
  split at h
  · rename_i ys e
    cases h
    exact ⟨e, by decide⟩
  · rename_i ys e
    cases h
    exact ⟨e, by decide⟩
  · cases h
theorem brw_lst {w : Ow} {xs ys : List D} (h : brw (.lst w xs) = true) : brw (.lst w ys) = true := by
  cases w <;> first | exact h | cases h
end Mid
namespace Mid
open PySem PySem.Spec PyProof.Rows L2
section
variable {K : PySem.W.Frag} {B : Bs} {PN PN' : Pn} {H H' : Hp} {Z Z' : Addr → Prop} {ρ ρ' : Env} {σ σ' : L2.St} {o o' : Addr → Option Nat} {m n : Nat} {vs : List Nat}
/-- a value that owns nothing of another's -/
theorem SOk.gain0 (s : SOk K B PN H Z ρ σ o) (p : Pens PN n H) {v : V} {d : D} (hn : noShr d = true) (ev : Ev K PN H (Zv Z o vs) m v d PN' H') :
    Pens PN' m H' ∧ SOk K B PN' H' Z ρ σ o ∧ Mv PN H PN' H' ∧ ∃ fp, fp.Nodup ∧ (∀ a ∈ fp, B.h a = none ∧ ¬ Z a ∧ NP PN' a ∧ H' a ≠ none ∧ ∀ j, o a ≠ some j) ∧ Rep K PN' H' Z v d fp := by
  obtain ⟨_, fp, Z1, mv, p', nd, hf, hz, r⟩ := ev
  refine ⟨p', s.step p mv, mv, fp, nd, fun a ha => ?_, Rep.anyZ d hn r⟩
  obtain ⟨h1, h2, h3⟩ := hf a ha
  exact ⟨s.mv.keep a h1, fun q => (s.zk a q).1 h1, h2, h3, fun j hj => (s.own a j hj).2.2.2 h1⟩
theorem nodup_out {f1 f2 f3 g : List Addr} (h : (f1 ++ (f2 ++ f3)).Nodup) (hg : g.Nodup) (hd : ∀ a ∈ g, a ∉ f1 ∧ a ∉ f3) : (f1 ++ (g ++ f3)).Nodup := by
  obtain ⟨h1, h2, h3⟩ := List.nodup_append.mp h
  obtain ⟨_, h5, _⟩ := List.nodup_append.mp h2
  refine List.nodup_append.mpr ⟨h1, List.nodup_append.mpr ⟨hg, h5, fun a ha b hb e => ?_⟩, fun a ha b hb e => ?_⟩
  · subst e; exact (hd a ha).2 hb
  · subst e
    rcases List.mem_append.mp hb with q | q
    · exact (hd a q).1 ha
    · exact h3 a ha a (List.mem_append_right _ q) rfl
/-- items k to k' of an own list give way to others -/
theorem RepL.cutF {vs : List V} {ds : List D} {f : List Addr} (r : RepL K PN H Z vs ds f) {k k' : Nat} (hk : k ≤ k') : ∃ f1 f2 f3, f = f1 ++ (f2 ++ f3) ∧ RepL K PN H Z (vs.take k) (ds.take k) f1 ∧ RepL K PN H Z (vs.drop k') (ds.drop k') f3 := by
  obtain ⟨f1, g, e, h1, h2⟩ := r.split k
  obtain ⟨f2, f3, e2, h3, h4⟩ := h2.split (k' - k)
  rw [List.drop_drop, List.drop_drop, show k + (k' - k) = k' by omega] at h4
  exact ⟨f1, f2, f3, by rw [e, e2], h1, h4⟩
theorem SOk.splice (s : SOk K B PN H Z ρ σ o) (p : Pens PN n H) {i k k' : Nat} {xs ds : List D} {us : List V} {fp : List Addr} (hk : k ≤ k') {w : Ow} (e1 : ρ[i]? = some (some (.lst w xs))) (hw : w ≠ .f) (nd : fp.Nodup)
    (hf : ∀ b ∈ fp, B.h b = none ∧ ¬ Z b ∧ NP PN b ∧ H b ≠ none ∧ ∀ j, o b ≠ some j) (r : RepL K PN H Z us ds fp) :
    ∃ a ws f0, σ[i]? = some (some (.ref a)) ∧ H a = some (.lst ws) ∧ RepL K PN H Z ws xs f0 ∧ Pens PN n (L2.upd H a (.lst (ws.take k ++ (us ++ ws.drop k')))) ∧
      ∃ o', SOk K B PN (L2.upd H a (.lst (ws.take k ++ (us ++ ws.drop k')))) Z (ρ.set i (some (.lst w (xs.take k ++ (ds ++ xs.drop k'))))) σ o' := by
  obtain ⟨v1, f1, g1, g2, g3, g4⟩ := s.slot i _ e1
  cases g4 with
  | shr => exact absurd rfl hw
  | own ho9 hH r1 =>
    rename_i a ws fp1
    refine ⟨a, ws, fp1, g1, hH, r1, ?_⟩
    obtain ⟨t1, t2, t3, et, r2, r3⟩ := r1.cutF hk
    have oa := g3 a List.mem_cons_self
    have na : a ∉ fp1 := (List.nodup_cons.mp g2).1
    have nz : ¬ Z a := (s.own a i oa).2.1
    have naf : a ∉ fp := fun q => (hf a q).2.2.2.2 i oa
    have in1 : ∀ b ∈ t1, b ∈ fp1 := fun b hb => by rw [et]; exact List.mem_append_left _ hb
    have in3 : ∀ b ∈ t3, b ∈ fp1 := fun b hb => by rw [et]; exact List.mem_append_right _ (List.mem_append_right _ hb)
    have own : ∀ b ∈ fp1, o b = some i := fun b hb => g3 b (List.mem_cons_of_mem _ hb)
    have hnd : (a :: (t1 ++ (fp ++ t3))).Nodup := List.nodup_cons.mpr ⟨fun q => by
      rcases List.mem_append.mp q with q | q
      · exact na (in1 a q)
      · rcases List.mem_append.mp q with q | q
        · exact naf q
        · exact na (in3 a q), nodup_out (by rw [← et]; exact (List.nodup_cons.mp g2).2) nd fun b hb => ⟨fun q => (hf b hb).2.2.2.2 i (own b (in1 b q)), fun q => (hf b hb).2.2.2.2 i (own b (in3 b q))⟩⟩
    exact s.upd p (new := ws.take k ++ (us ++ ws.drop k')) (f1 := a :: (t1 ++ (fp ++ t3))) oa hH g1 hnd (fun q => ⟨_, e1, brw_lst q⟩) (fun b hb => by
      rcases List.mem_cons.mp hb with q | q
      · rw [q]; exact .inl oa
      · rcases List.mem_append.mp q with q | q
        · exact .inl (own b (in1 b q))
        · rcases List.mem_append.mp q with q | q
          · exact .inr (hf b q)
          · exact .inl (own b (in3 b q)))
      (.own hw upd_same (RepL.append (r2.upd hH nz fun q => na (in1 a q)) (RepL.append (r.upd hH nz naf) (r3.upd hH nz fun q => na (in3 a q)))))
/-- a value held while another expression runs -/
theorem held (s : SOk K B PN H Z ρ σ o) (p : Pens PN n H) (mv : Mv PN H PN' H') {v : V} {d : D} {fp : List Addr} (nd : fp.Nodup) (hf : ∀ b ∈ fp, B.h b = none ∧ ¬ Z b ∧ NP PN b ∧ H b ≠ none ∧ ∀ j, o b ≠ some j) (r : Rep K PN H Z v d fp) :
    (∀ b ∈ fp, B.h b = none ∧ ¬ Z b ∧ NP PN' b ∧ H' b ≠ none ∧ ∀ j, o b ≠ some j) ∧ Rep K PN' H' Z v d fp :=
  ⟨fun b hb => by
    obtain ⟨h1, h2, h3, h4, h5⟩ := hf b hb
    exact ⟨h1, h2, mv.np h3 h4, fun q => h4 (mv.keep b q), h5⟩, Rep.to (mv.pres p s.zk) mv.sub (fun _ h => h) d (fun a ha ob e => mv.ext a ob e (hf a ha).2.2.1) r⟩
end
/-- x.insert(k, y) -/
def sIns (i : Nat) (vs : List Nat) (f g : Env → Comp D) : Env → Comp (Fl × Env) := fun ρ => match ownAt ρ i with
  | some _ => run vs f ρ fun k => match k with
    | .int z => run vs g ρ fun d => match ownAt (upE vs d ρ) i with
      | some (w, xs) => if xs.length < sizeLine ∧ 0 ≤ z ∧ z < 2 ^ 63 then .ret (.nx, (upE vs d ρ).set i (some (.lst w (xs.take z.toNat ++ ([d] ++ xs.drop z.toNat))))) else .stuck
      | none => .stuck
    | _ => .stuck
  | none => .stuck
/-- x[k] = y -/
def sSet1 (i : Nat) (vs : List Nat) (f g : Env → Comp D) : Env → Comp (Fl × Env) := fun ρ => run vs f ρ fun d => match ownAt (upE vs d ρ) i with
  | some (w, xs) => run vs g (upE vs d ρ) fun k => match k with
    | .int z => match ixN xs.length z with
      | some j => .ret (.nx, (upE vs d ρ).set i (some (.lst w (xs.take j ++ ([d] ++ xs.drop (j + 1))))))
      | none => .stuck
    | _ => .stuck
  | none => .stuck
/-- x[h][k] = y -/
def sSet2 (i : Nat) (vs : List Nat) (f h g : Env → Comp D) : Env → Comp (Fl × Env) := fun ρ => run vs f ρ fun d => match ownAt (upE vs d ρ) i with
  | some (w, xs) => run vs h (upE vs d ρ) fun k1 => match k1 with
    | .int z1 => match ixN xs.length z1 with
      | some j1 => match xs[j1]? with
        | some (.lst .t ys) => run vs g (upE vs d ρ) fun k2 => match k2 with
          | .int z => match ixN ys.length z with
            | some j2 => .ret (.nx, (upE vs d ρ).set i (some (.lst w (xs.set j1 (.lst .t (ys.take j2 ++ ([d] ++ ys.drop (j2 + 1))))))))
            | none => .stuck
          | _ => .stuck
        | _ => .stuck
      | none => .stuck
    | _ => .stuck
  | none => .stuck
/-- x.pop(k), its value dropped -/
def sPopAt (i : Nat) (vs : List Nat) (g : Env → Comp D) : Env → Comp (Fl × Env) := fun ρ => match ownAt ρ i with
  | some (w, xs) => run vs g ρ fun k => match k with
    | .int z => if -(2 ^ 63) ≤ z ∧ z < 2 ^ 63 then match ixN xs.length z with
        | some j => .ret (.nx, ρ.set i (some (.lst w (xs.take j ++ ([] ++ xs.drop (j + 1))))))
        | none => .stuck
      else .stuck
    | _ => .stuck
  | none => .stuck
theorem ixN_lt {n : Nat} {z : Int} {j : Nat} (h : ixN n z = some j) : j < n := (ixN_seq h).2.1
section
variable {X : Cx} {W : WX} {vs : List Nat}
theorem sv_ins {i : Nat} {x : Str} {e e2 : Expr} {f g : Env → Comp D} {p0 ap cp ep : Pos} (he : EV X W vs f e) (hg : EV X W vs g e2) (hN : X.N[i]? = some x := by rfl) (hv : Vis X.env.scope x := by first | exact Or.inl rfl | exact Or.inr (Or.inl rfl) | exact Or.inr (Or.inr rfl))
    (hbase : attributeBase (.Name x p0) "insert" X.env (eval (.Name x p0) X.env) = eval (.Name x p0) X.env := by rfl)
    (hfew : ((backTo cp (starEach (e :: e2 :: []) X.env)).all (fun x => !x.1) && (backToKw cp (keywordEach [] X.env)).all (fun x => x.1.isSome) && decide ((e :: e2 :: ([] : List Expr)).length + ([] : List Keyword).length + (if ([] : List Keyword).isEmpty then 0 else 1) < 30)) = true := by rfl)
    (hline : (ap.endLine == cp.line) = true := by rfl) (hs : starEach (e :: e2 :: []) X.env = (false, eval e X.env) :: starEach (e2 :: []) X.env := by rfl) (hs2 : starEach (e2 :: []) X.env = (false, eval e2 X.env) :: starEach [] X.env := by rfl)
    (hplain : (backTo cp (starEach (e2 :: []) X.env)).any (·.1) = false := by rfl)
    (hsw : swapsWith (.Call (.Attribute (.Name x p0) "insert" ap) [e, e2] [] cp) none ep.line X.env = pure false := by rfl) (hd : (x == ("__debug__" : Str)) = false := by decide) (hcd : (x == ("__classdict__" : Str)) = false := by decide) :
    SV X W (sIns i vs f g) (.Expr (.Call (.Attribute (.Name x p0) "insert" ap) [e, e2] [] cp) ep) := by
  refine psW (ps_expr (pe_bm PySem.F.plainAttrs_list PySem.F.slot_list_insert PySem.F.type_list_insert mt_insert (pe_var hN hv hd hcd) (pa_cons he (pa_cons hg pa_nil hs2) hs) hbase hfew hline hs hplain) hsw) fun D' σ H h => ?_
  obtain ⟨B, PN, n, Z, ρ, o, s, p, h⟩ := h
  unfold sIns at h
  split at h
  · rename_i x0 e0
    obtain ⟨w0, xs0⟩ := x0
    obtain ⟨e0, hw0⟩ := ownAt_some e0
    obtain ⟨v0, f0, h1, h2, h3, h4⟩ := s.slot i _ e0
    cases h4 with
    | shr => exact absurd rfl hw0
    | own ho9 hH r0 =>
      rename_i a us fp0
      refine ⟨_, h1, .inl ⟨rfl, _, SqL.of hH⟩, ?_⟩
      refine run_pre (Q := _) s p h fun m k v PN' H' ev h => ?_
      split at h
      · rename_i z
        obtain ⟨p', s', mv, fp, nd, hf, r⟩ := s.gain0 p (by rfl) ev
        cases r
        refine run_pre (Q := _) s' p' h fun m2 d y PN2 H2 ev2 h => ?_
        obtain ⟨p2, Z2, o2, fp, s2, nd, hf, r⟩ := s'.gain p' ev2
        split at h
        · rename_i w xs e1
          split at h
          · rename_i hl
            obtain ⟨a', ws, f0, g1, g2, g3, p3, o3, s3⟩ := s2.splice p2 (k := z.toNat) (k' := z.toNat) (Nat.le_refl _) (ownAt_some e1).1 (ownAt_some e1).2 (fp := fp ++ []) (by simpa using nd) (by simpa using hf) (.cons r .nil)
            rw [h1] at g1
            cases g1
            refine ⟨a, ws, z, y, rfl, rfl, g2, by rw [g3.length]; exact hl.1, hl.2.1, hl.2.2, ?_⟩
            rw [List.append_assoc]
            exact h PN2 _ Z2 σ o3 s3 p3
          · exact h.elim
        · exact h.elim
      · exact h.elim
  · exact h.elim
theorem sv_set1 {i : Nat} {x : Str} {e ie : Expr} {f g : Env → Comp D} {p0 sp pos : Pos} (he : EV X W vs f e) (hg : EV X W vs g ie) (hN : X.N[i]? = some x := by rfl) (hv : Vis X.env.scope x := by first | exact Or.inl rfl | exact Or.inr (Or.inl rfl) | exact Or.inr (Or.inr rfl))
    (ha : ∀ v, assign (.Subscript (.Name x p0) ie sp) X.env v = (do
      let ov ← holding [v] (eval (.Name x p0) X.env)
      let iv ← holding [v, ov] (eval ie X.env)
      standAt sp
      holding [v, ov, iv] (setItem ov iv v)
      release [v, ov, iv] []) := by intro _; rfl)
    (hs : swapsWithSole [.Subscript (.Name x p0) ie sp] e pos.line X.env = pure false := by rfl) (hw : swappedStores [.Subscript (.Name x p0) ie sp] e X.env = pure none := by rfl)
    (h1 : (assignEach [.Subscript (.Name x p0) ie sp] X.env).map (·.2) = [assign (.Subscript (.Name x p0) ie sp) X.env] := by rfl) (hd : (x == ("__debug__" : Str)) = false := by decide) (hcd : (x == ("__classdict__" : Str)) = false := by decide) :
    SV X W (sSet1 i vs f g) (.Assign [.Subscript (.Name x p0) ie sp] e pos) := by
  refine psW (ps_asg he (pg_sub (pe_var hN hv hd hcd) hg set_list ha) hs hw h1) fun D' σ H h => ?_
  obtain ⟨B, PN, n, Z, ρ, o, s, p, h⟩ := h
  refine run_pre (Q := _) s p h fun m d v PN' H' ev h => ?_
  obtain ⟨p', Z', o', fp, s', nd, hf, r⟩ := s.gain p ev
  split at h
  · rename_i w xs e1
    obtain ⟨e1, hw⟩ := ownAt_some e1
    obtain ⟨v0, f0, q1, _⟩ := s'.slot i _ e1
    refine ⟨v0, q1, ?_⟩
    refine run_pre (Q := _) s' p' h fun m2 k y PN2 H2 ev2 h => ?_
    split at h
    · rename_i z
      obtain ⟨p2, s2, mv, _, _, _, r2⟩ := s'.gain0 p' (by rfl) ev2
      cases r2
      split at h
      · rename_i j hj
        have hold := held s' p' mv nd hf r
        obtain ⟨a', ws, f1, g1, g2, g3, p3, o3, s3⟩ := s2.splice p2 (k := j) (k' := j + 1) (by omega) e1 hw (fp := fp ++ []) (by simpa using nd) (by simpa using hold.1) (.cons hold.2 .nil)
        rw [q1] at g1
        cases g1
        refine ⟨a', ws, z, j, rfl, rfl, g2, by rw [g3.length]; exact hj, ?_⟩
        rw [set_split (by rw [g3.length]; exact ixN_lt hj)]
        exact h PN2 _ Z' σ o3 s3 p3
      · exact h.elim
    · exact h.elim
  · exact h.elim
end
end Mid
namespace Mid
open PySem PySem.Spec PyProof.Rows L2
def opaqueD : D → Bool
  | .pen => true
  | .scr _ => true
  | .pr _ => true
  | .exc _ _ => true
  | .obj _ _ _ => true
  | .fn _ => true
  | _ => false
def isInt : D → Comp D
  | .int _ => .ret (.bl true)
  | .bl _ => .ret (.bl true)
  | d => if opaqueD d then .stuck else .ret (.bl false)
def isBool : D → Comp D
  | .bl _ => .ret (.bl true)
  | d => if opaqueD d then .stuck else .ret (.bl false)
def isStr : D → Comp D
  | .str _ => .ret (.bl true)
  | d => if opaqueD d then .stuck else .ret (.bl false)
def isTup : D → Comp D
  | .tup _ => .ret (.bl true)
  | d => if opaqueD d then .stuck else .ret (.bl false)
def isLst : D → Comp D
  | .lst _ _ => .ret (.bl true)
  | d => if opaqueD d then .stuck else .ret (.bl false)
def isDct : D → Comp D
  | .dct _ _ _ => .ret (.bl true)
  | d => if opaqueD d then .stuck else .ret (.bl false)
end Mid
namespace Mid
open PySem PySem.Spec PyProof.Rows L2
/-- the list at Dn grows: seen from PN1, H1, Z1 -/
structure Acc (K : PySem.W.Frag) (PN1 : Pn) (H1 : Hp) (Z1 : Addr → Prop) (Dn : Addr) (PN : Pn) (n : Nat) (Z : Addr → Prop) (H : Hp) (acc : List V) (es : List D) (fp : List Addr) : Prop where
  mv : Mv PN1 H1 PN H
  p : Pens PN n H
  zk : Zk PN Z H
  up : ∀ a, Z1 a → Z a
  down : ∀ a, Z a → Z1 a ∨ H1 a = none
  at_ : H Dn = some (.lst acc)
  rl : RepL K PN H Z acc es fp
  nd : (Dn :: fp).Nodup
  fr : ∀ a ∈ Dn :: fp, H1 a = none ∧ NP PN a ∧ H a ≠ none ∧ ¬ Z a
section
variable {K : PySem.W.Frag} {PN1 PN PN' : Pn} {H1 H H' : Hp} {Z1 Z Z' : Addr → Prop} {Dn : Addr} {n m : Nat} {acc : List V} {es : List D} {fp : List Addr}
theorem Acc.start (hD : H1 Dn = none) (p1 : Pens PN1 n H1) (z1 : Zk PN1 Z1 H1) : Acc K PN1 H1 Z1 Dn PN1 n Z1 (upd H1 Dn (.lst [])) [] [] [] :=
  ⟨.laid hD, p1.laid hD, z1.step (.laid hD), fun _ h => h, fun _ h => .inl h, upd_same, .nil, by simp, fun a ha => by
    have e : a = Dn := by simpa using ha
    subst e
    exact ⟨hD, p1.tracked hD, by rw [upd_same]; simp, fun q => (z1 a q).1 hD⟩⟩
theorem Acc.sh (A : Acc K PN1 H1 Z1 Dn PN n Z H acc es fp) (s : Sh K PN H Z m PN' H' Z') : Acc K PN1 H1 Z1 Dn PN' m Z' H' acc es fp :=
  ⟨A.mv.trans s.mv, s.pens, s.zk, fun a q => s.up a (A.up a q), fun a q => by
    rcases s.down a q with q | q
    · exact A.down a q
    · exact .inr (A.mv.keep a q), s.mv.ext _ _ A.at_ (A.fr Dn List.mem_cons_self).2.1,
    RepL.to (s.mv.pres A.p A.zk) s.mv.sub s.up es (fun a ha o e => s.mv.ext a o e (A.fr a (List.mem_cons_of_mem _ ha)).2.1) A.rl, A.nd, fun a ha => by
      obtain ⟨q1, q2, q3, q4⟩ := A.fr a ha
      refine ⟨q1, s.mv.np q2 q3, fun q => q3 (s.mv.keep a q), fun q => ?_⟩
      rcases s.down a q with q | q
      · exact q4 q
      · exact q3 q⟩
theorem Acc.push (A : Acc K PN1 H1 Z1 Dn PN n Z H acc es fp) {y : V} {e : D} (ev : Ev K PN H Z m y e PN' H') : H' Dn = some (.lst acc) ∧ ∃ Z' fp', (∀ a, Z a → Z' a) ∧ Acc K PN1 H1 Z1 Dn PN' m Z' (upd H' Dn (.lst (acc ++ [y]))) (acc ++ [y]) (es ++ [e]) fp' := by
  obtain ⟨_, fe, Ze, mve, pe, nde, hfe, hze, re⟩ := ev
  have haccE : H' Dn = some (.lst acc) := mve.ext _ _ A.at_ (A.fr Dn List.mem_cons_self).2.1
  have nDz : ∀ a, Z a ∨ Ze a → a ≠ Dn := fun a q ea => by
    subst ea
    rcases q with q | q
    · exact (A.fr a List.mem_cons_self).2.2.2 q
    · rcases (hze a q).1 with q | q
      · exact (A.fr a List.mem_cons_self).2.2.2 q
      · exact (A.fr a List.mem_cons_self).2.2.1 q
  have hD : H1 Dn = none := (A.fr Dn List.mem_cons_self).1
  have nfe : Dn ∉ fe := fun q => (A.fr Dn List.mem_cons_self).2.2.1 (hfe Dn q).1
  have nfp : Dn ∉ fp := (List.nodup_cons.mp A.nd).1
  refine ⟨haccE, fun a => Z a ∨ Ze a, fp ++ fe, fun _ q => .inl q, ⟨fun pc q => mve.sub pc (A.mv.sub pc q), fun pc q => (A.mv.trans mve).new pc q, fun a o q nq => ?_, fun a q => ?_⟩, ⟨pe.1, fun pp cc q => ?_⟩, fun a q => ?_, fun a q => .inl (A.up a q), fun a q => ?_, upd_same, ?_, ?_, ?_⟩
  · rw [upd_ne (ne_of_none q hD)]
    exact (A.mv.trans mve).ext a o q nq
  · by_cases ea : a = Dn
    · rw [ea]; exact hD
    · rw [upd_ne ea] at q
      exact (A.mv.trans mve).keep a q
  · have nD := (mve.np (A.fr Dn List.mem_cons_self).2.1 (A.fr Dn List.mem_cons_self).2.2.1) pp cc q
    obtain ⟨cs, at_, rest, a1, a2, a3⟩ := pe.2 pp cc q
    exact ⟨cs, at_, rest, by rw [upd_ne (Ne.symm nD.1)]; exact a1, by rw [upd_ne (Ne.symm nD.2)]; exact a2, a3⟩
  · rw [upd_ne (nDz a q)]
    rcases q with q | q
    · exact A.zk.step mve a q
    · exact ⟨(hze a q).2.2.2, (hze a q).2.2.1⟩
  · rcases q with q | q
    · exact A.down a q
    · rcases (hze a q).1 with q | q
      · exact A.down a q
      · exact .inr (A.mv.keep a q)
  · have prD : Pres (fun a => Z a ∨ Ze a) H' (upd H' Dn (.lst (acc ++ [y]))) :=
      ⟨fun a o q z => by rw [upd_ne (nDz a z)]; exact q, fun a xs q => by rw [upd_ne (fun ea => by subst ea; rw [haccE] at q; cases q)]; exact q, fun a o u q => by rw [upd_ne (fun ea => by subst ea; rw [haccE] at q; cases q)]; exact q⟩
    have rl3 : RepL K PN' H' (fun a => Z a ∨ Ze a) acc es fp := RepL.to ⟨fun a o q z => (mve.pres A.p A.zk).lst a o q z, (mve.pres A.p A.zk).tup, (mve.pres A.p A.zk).frz⟩ mve.sub (fun a h => .inl h) es (fun a ha o e => mve.ext a o e (A.fr a (List.mem_cons_of_mem _ ha)).2.1) A.rl
    have re3 : Rep K PN' H' (fun a => Z a ∨ Ze a) y e fe := Rep.to .refl (fun _ h => h) (fun a h => .inr h) e (fun _ _ _ h => h) re
    have both := RepL.append rl3 (.cons re3 .nil)
    rw [List.append_nil] at both
    refine RepL.to prD (fun _ h => h) (fun _ h => h) _ (fun a ha o e => ?_) both
    rw [upd_ne (fun ea => by
      subst ea
      rcases List.mem_append.mp ha with q | q
      · exact nfp q
      · exact nfe q)]
    exact e
  · have q := List.nodup_cons.mp A.nd
    refine List.nodup_cons.mpr ⟨fun hm => ?_, List.nodup_append.mpr ⟨q.2, nde, fun a ha b hb e => ?_⟩⟩
    · rcases List.mem_append.mp hm with r | r
      · exact q.1 r
      · exact nfe r
    · subst e
      exact (A.fr a (List.mem_cons_of_mem _ ha)).2.2.1 (hfe a hb).1
  · intro a ha
    have key : a ∈ Dn :: fp ∨ a ∈ fe := by
      rcases List.mem_cons.mp ha with r | r
      · exact .inl (by rw [r]; exact List.mem_cons_self)
      · rcases List.mem_append.mp r with r | r
        · exact .inl (List.mem_cons_of_mem _ r)
        · exact .inr r
    have there : ∀ b, H' b ≠ none → upd H' Dn (.lst (acc ++ [y])) b ≠ none := fun b q => by
      by_cases eb : b = Dn
      · rw [eb, upd_same]; simp
      · rw [upd_ne eb]; exact q
    rcases key with q | q
    · obtain ⟨q1, q2, q3, q4⟩ := A.fr a q
      refine ⟨q1, mve.np q2 q3, there a fun r => q3 (mve.keep a r), fun z => ?_⟩
      rcases z with z | z
      · exact q4 z
      · rcases (hze a z).1 with z | z
        · exact q4 z
        · exact q3 z
    · obtain ⟨q1, q2, q3⟩ := hfe a q
      refine ⟨A.mv.keep a q1, q2, there a q3, fun z => ?_⟩
      rcases z with z | z
      · exact (A.zk a z).1 q1
      · exact (hze a z).2.1 q
end
section
variable {X : Cx} {W : WX} {vs : List Nat}
theorem Pk.pres {K : PySem.W.Frag} {PN PN' : Pn} {H H' : Hp} {Z Z' : Addr → Prop} {ρ : Env} {σ : L2.St} (k : Pk K PN H Z vs ρ σ) (pr : Pres Z H H') (pn : ∀ pc, PN = some pc → PN' = some pc) (zz : ∀ a, Z a → Z' a) : Pk K PN' H' Z' vs ρ σ :=
  ⟨k.1, fun i hi d hd => by
    obtain ⟨v, h1, h2⟩ := k.2 i hi d hd
    exact ⟨v, h1, Rep.to pr pn zz d (fun _ h => nomatch h) h2⟩⟩
end
end Mid
namespace Mid
open PySem PySem.Spec PyProof.Rows L2
def eChain (g g' : D → D → Comp D) (f1 f2 f3 : Env → Comp D) : Env → Comp D := fun ρ => (f1 ρ).bind fun d1 => (f2 ρ).bind fun d2 => (g (fz d1) (fz d2)).bind fun r => (asB r).bind fun b => if b then (f3 ρ).bind fun d3 => g' (fz d2) (fz d3) else .ret (.bl false)
def sPar (i j : Nat) (vs : List Nat) (f g : Env → Comp D) : Env → Comp (Fl × Env) := fun ρ => run vs f ρ fun d1 => run vs g (upE vs d1 ρ) fun d2 => .ret (.nx, ((upE vs d2 (upE vs d1 ρ)).set i (some d1)).set j (some d2))
/-- names = e, a tuple -/
def sUnp (vs : List Nat) (t : Tg) (f : Env → Comp D) : Env → Comp (Fl × Env) := fun ρ => run vs f ρ fun d => match d with
  | .tup ds => match t (.tup ds) (upE vs (.tup ds) ρ) with
    | some ρ' => .ret (.nx, ρ')
    | none => .stuck
  | _ => .stuck
structure Fit (k : Nat) (X : Cx) (W : WX) : Prop where
  rm : Room k X.A
  ca : Calm X.A
  cm : X.calm = true
  tk : Takes X W
theorem Fit.u64 {k : Nat} {X : Cx} {W : WX} (f : Fit k X W) : X.A.units + 64 < cLine := by have := f.rm.un; omega
theorem Fit.u65 {k : Nat} {X : Cx} {W : WX} (f : Fit k X W) : X.A.units + 65 < cLine := by have := f.rm.un; omega
theorem Fit.u66 {k : Nat} {X : Cx} {W : WX} (f : Fit k X W) : X.A.units + 66 < cLine := by have := f.rm.un; omega
theorem Fit.blk {k : Nat} {X : Cx} {W : WX} (f : Fit k X W) {s : Shared} {H : Hp} {scope : Scope} {cenv : PySem.Env} {fp : List Addr} : Fit k (X.blk s H scope cenv fp) W0 := ⟨f.rm, f.ca, f.cm, takes0⟩
structure Cal (P : Program) (w : World) (K : PySem.W.Frag) (mg : Str → Option Value) (base : Heap) (k : Nat) (x : Str) (np : Nat) (F : List D → Comp D) : Prop where
  ex : ∃ (f : Addr) (fd : FuncData) (ps : List Str), FnG P w K mg base k f fd ps (spF K mg np F) ∧ mg x = some (.ref f) ∧ PySem.W.keepIn K (.ref f) = true ∧ Binds K fd ps []
theorem Cal.mono {P : Program} {w : World} {K : PySem.W.Frag} {mg : Str → Option Value} {base : Heap} {j k : Nat} {x : Str} {np : Nat} {F : List D → Comp D} (c : Cal P w K mg base j x np F) (h : j ≤ k) : Cal P w K mg base k x np F := by
  obtain ⟨f, fd, ps, G, r⟩ := c.ex
  exact ⟨f, fd, ps, G.mono h, r⟩
theorem ev_cal {X : Cx} {W : WX} {vs : List Nat} {k k' : Nat} {F : List D → Comp D} {np : Nat} {fs : Env → Comp (List D)} {x : Str} {p pos : Pos} {e : Expr} {es : List Expr} (ft : Fit k X W) (C : Cal X.prog X.w X.K X.mg X.base k' x np F) (hk : k' ≤ k) (ha : EA X W vs fs (e :: es)) (hg : Gl X x := by rfl) (hdb : (x == ("__debug__" : Str)) = false := by decide)
    (he : starEach (e :: es) X.env = (false, eval e X.env) :: starEach es X.env := by rfl) (hpl : (backTo pos (starEach es X.env)).any (·.1) = false := by rfl) : EV X W vs (eCall np F fs) (.Call (.Name x p) (e :: es) [] pos) := by
  obtain ⟨f, fd, ps, G, h1, h2, h3⟩ := C.ex
  exact ev_call (G.mono hk) ft.rm ft.ca h1 h2 h3 ft.tk ha hg hdb he hpl
section
variable {P : Program} {w : World} {K : PySem.W.Frag} {mg : Str → Option Value} {base : Heap}
theorem gfn_of {x qual : Str} {params : Arguments} {bd : List Stmt} {scope : Scope} {kws : List (Str × V)} {f : Addr} {fd : FuncData} {N ps : List Str} {k : Nat} {sp : Sp} (F : FunD K x qual params bd scope [] kws f fd) (S : FnScope N ps scope) (len : ∀ vs H Q E, sp vs H Q E → vs.length = ps.length)
    (hbody : ∀ (cdv : Value) (A : Around) (outer : List PySem.Env) (s : Shared) (H : Hp) (vs : List V) (Q : VK) (E : XK), Fit k (Xf P w K mg base N qual scope f cdv A outer s H E) (Wf E) → PassesOwn (model P w) (Xf P w K mg base N qual scope f cdv A outer s H E).A (Xf P w K mg base N qual scope f cdv A outer s H E).env (Xf P w K mg base N qual scope f cdv A outer s H E).xe → sp vs H Q E →
      ∃ t, PSs (Xf P w K mg base N qual scope f cdv A outer s H E) bd t ∧ t { nx := fun _ H' => Q .non H', rt := Q } (L2.start N vs) H) : FnG P w K mg base (k + 1) f fd ps sp := by
  obtain ⟨oc, od, dV, kV, doc, pm, an, cdv, ct, osl, rfl, lk, hcd, _, _⟩ := F.ex
  constructor
  · exact len
  intro A outer s H args us vs Q E hr hg e0 hb r hsp
  have kin := e0.mod.kin.keeps fun b o e => (e0.bs b o e).1
  have nl := e0.mod.nolimit.keeps fun b o e => (e0.bs b o e).1
  have kinds : ∀ y ∈ ps.zip us, scope.names.lookup y.1 = some .local ∨ (scope.names.lookup y.1 = some .cell ∧ ((cellsFrom (s.heap.objs.size + 1) scope.names []).lookup y.1).isSome = true) := by
    rintro ⟨nm, v⟩ hy
    rcases S.par nm (List.of_mem_zip hy).1 with q | q
    · exact Or.inl q
    · exact Or.inr ⟨q, PySem.W.cellsFrom_some _ _ _ (Or.inl q)⟩
  refine codeAny_call_function hr.depth (kin _ _ lk) rfl S.co S.gen rfl (PySem.W.codeRec_of kin hcd) (hb _ _ _ _ ?_)
  refine wpAny_newFunctionEnv_cells S.kind kinds fun env he s1 x1 => ?_
  subst he
  refine ⟨nl.keeps x1.toInCall.keep, codeAny_func ?_⟩
  obtain ⟨t, ht, hq⟩ := hbody cdv A outer s H vs Q E ⟨hr.deeper _, hg, rfl, takes_of rfl rfl rfl rfl⟩ (passes_of rfl) hsp
  have I := inv_start (CX := L2.CX P w) (E := E) (A := A) (cd := cdv) (qual := qual) (f := f) S hr.hd e0 (len _ _ _ _ hsp) r x1
  refine wpAny_mono (ht.run [] s1 (L2.start N vs) H _ I hq) (fun fl s' hs => ?_) fun _ _ hs => hs
  cases fl with
  | ret u =>
    obtain ⟨v, σ', H', J, rv, q⟩ := hs
    exact ⟨v, H', J.os, J.bare, J.base, J.hok, rv, q⟩
  | next =>
    obtain ⟨σ', H', J, q⟩ := hs
    exact ⟨V.non, H', J.os, J.bare, J.base, J.hok, rfl, q⟩
  | brk =>
    obtain ⟨_, _, _, q⟩ := hs
    exact q.elim
  | cont =>
    obtain ⟨_, _, _, q⟩ := hs
    exact q.elim
theorem gfn_body {x qual : Str} {params : Arguments} {bd : List Stmt} {scope : Scope} {kws : List (Str × V)} {f : Addr} {fd : FuncData} {N ps : List Str} {k : Nat} {body : Env → Comp (Fl × Env)} (F : FunD K x qual params bd scope [] kws f fd) (S : FnScope N ps scope)
    (h : ∀ (cdv : Value) (A : Around) (outer : List PySem.Env) (s : Shared) (H : Hp) (E : XK), Fit k (Xf P w K mg base N qual scope f cdv A outer s H E) (Wf E) → PassesOwn (model P w) (Xf P w K mg base N qual scope f cdv A outer s H E).A (Xf P w K mg base N qual scope f cdv A outer s H E).env (Xf P w K mg base N qual scope f cdv A outer s H E).xe →
      SVs (Xf P w K mg base N qual scope f cdv A outer s H E) (Wf E) body bd) :
    FnG P w K mg base (k + 1) f fd ps (spF K mg ps.length (fnB N.length body)) := by
  refine gfn_of F S (fun vs H Q E q => ?_) fun cdv A outer s H vs Q E ft po q => ⟨_, h cdv A outer s H E ft po, ?_⟩
  · obtain ⟨PN, n, Z, ds, hl, r, _⟩ := q
    exact r.length.trans hl
  · obtain ⟨PN, n, Z, ds, hl, r, z, p, q⟩ := q
    have hn : ps.length ≤ N.length := by have := congrArg List.length S.pre; rw [List.length_take] at this; omega
    refine ⟨⟨PN, H, Z, PN, H, Z, fun _ => none⟩, PN, n, Z, startE N.length ds, fun _ => none, ⟨.refl, z, fun _ h => .inl h, ⟨fun _ _ h _ => h, fun _ _ h => h, fun _ _ _ h => h⟩, fun _ h => h, fun _ h => h, ?_, fun i d hd => ?_, fun a i h => (by cases h), fun i a d e => nomatch e⟩, p, ?_⟩
    · unfold startE L2.start
      simp only [List.length_append, List.length_map, List.length_replicate, r.length]
    · obtain ⟨v, h1, h2⟩ := r.get rfl (startE_get hd)
      exact ⟨v, [], start_get h1, List.Pairwise.nil, fun _ h => (nomatch h), h2⟩
    · rw [fnB, Comp.all_try] at q
      refine Comp.all_mono (fun m r h => ?_) (fun _ _ _ h => h) q
      obtain ⟨fl, ρ'⟩ := r
      cases fl with
      | rt d => exact fun v PN' H' e => h v PN' H' e.ev
      | nx =>
        intro PN' H' Z' σ' o' s' p'
        exact h .non PN' H' ⟨rfl, [], fun _ => False, s'.mv, p', List.Pairwise.nil, fun _ h => (nomatch h), fun a h => h.elim, .non⟩
      | bk => exact h.elim
      | ct => exact h.elim
      | er c x =>
        intro od PN' H' Z' σ' o' s' p' e
        exact h od PN' H' Z' ⟨s'.mv, p', s'.zk, s'.zold, s'.z0⟩ e
/-- a def with plain parameters -/
theorem cal_of {x qual : Str} {params : Arguments} {bd : List Stmt} {scope : Scope} {kws : List (Str × V)} {f : Addr} {fd : FuncData} {N ps : List Str} {k : Nat} {body : Env → Comp (Fl × Env)} (F : FunD K x qual params bd scope [] kws f fd) (S : FnScope N ps scope) (hm : mg x = some (.ref f)) (hb : Binds K fd ps [])
    (h : ∀ (cdv : Value) (A : Around) (outer : List PySem.Env) (s : Shared) (H : Hp) (E : XK), Fit k (Xf P w K mg base N qual scope f cdv A outer s H E) (Wf E) → PassesOwn (model P w) (Xf P w K mg base N qual scope f cdv A outer s H E).A (Xf P w K mg base N qual scope f cdv A outer s H E).env (Xf P w K mg base N qual scope f cdv A outer s H E).xe →
      SVs (Xf P w K mg base N qual scope f cdv A outer s H E) (Wf E) body bd) : Cal P w K mg base (k + 1) x ps.length (fnB N.length body) :=
  ⟨f, fd, ps, gfn_body F S h, hm, F.kp, hb⟩
end
end Mid
namespace Mid
open PySem PySem.Spec PyProof.Rows L2
theorem bind_ret {α β : Type} {a : α} {f : α → Comp β} : (Comp.ret a).bind f = f a := rfl
theorem try_ret {α β : Type} {a : α} {f : α → Comp β} {g : Str → List D → Comp β} : (Comp.ret a).try_ f g = f a := rfl
theorem fzL_ints : ∀ ns : List Int, fzL (ns.map D.int) = ns.map D.int
  | [] => rfl
  | _ :: ns => congrArg (_ :: ·) (fzL_ints ns)
theorem dMul_small {i j : Int} (hi : i.natAbs < 2 ^ 200) (hj : j.natAbs < 2 ^ 200) : dMul (.int i) (.int j) = .ret (.int (i * j)) := by
  have h : ∀ k : Int, k.natAbs < 2 ^ 200 → smallI mulLine k := fun k hk => ⟨Nat.lt_of_lt_of_le hk (Nat.pow_le_pow_right (by decide) (by decide))⟩
  exact if_pos ⟨h i hi, h j hj⟩
theorem dPow_small {i : Int} {k : Nat} (hi : i.natAbs < 2 ^ 64) (hk : k ≤ 1000) : dPow (.int i) (.int (k : Int)) = .ret (.int (i ^ k)) := by
  exact (if_pos ⟨by omega, by omega, ⟨hi⟩⟩).trans (by simp)
theorem dMod_pos {i j : Int} (hj : 0 < j) : dMod (.int i) (.int j) = .ret (.int (i % j)) := by
  exact (if_pos (by omega)).trans (by rw [Int.fmod_eq_emod_of_nonneg _ (by omega)])
noncomputable def c_spread : Env → Comp (Fl × Env) := sSeq (sIf [0] (bOf (eBin dGe (eVar 0) (eBin dPow (eK (.int 10)) (eK (.int 18))))) (sRetV 0) (sNil))
  (sSeq (sAsg 2 [] (eCallB gLst (aCons (eK (.int 2147483629)) (aCons (eK (.int 2147483587)) (aCons (eK (.int 2147483579)) (aCons (eK (.int 2147483563)) (aCons (eK (.int 2147483549)) (aCons (eK (.int 2147483543)) (aCons (eK (.int 2147483497)) (aNil))))))))))
  (sSeq (sAsg 2 [2] (eBin dAdd (eVar 2) (eCallB gLst (aCons (eK (.int 2147483489)) (aCons (eK (.int 2147483477)) (aCons (eK (.int 2147483423)) (aCons (eK (.int 2147483399)) (aCons (eK (.int 2147483353)) (aCons (eK (.int 2147483323)) (aNil))))))))))
  (sSeq (sAsg 3 [0, 1] (eBin dAdd (eBin dAdd (eBin dMul (eBin dMod (eVar 0) (eK (.int 1000000007))) (eBin dAdd (eBin dMul (eK (.int 2)) (eVar 1)) (eK (.int 69069)))) (eBin dMul (eVar 1) (eK (.int 40503)))) (eK (.int 977))))
  (sSeq (sAsg 4 [1, 2, 3] (eBin dMod (eBin dPow (eVar 3) (eK (.int 3))) (eBin dIx (eVar 2) (eBin dMod (eVar 1) (eK (.int 13))))))
  (sSeq (sAsg 5 [0, 1, 2, 4] (eBin dMod (eBin dPow (eBin dAdd (eBin dAdd (eBin dMul (eVar 4) (eBin dAdd (eVar 1) (eK (.int 3)))) (eBin dMod (eVar 0) (eK (.int 65537)))) (eK (.int 5))) (eK (.int 5))) (eBin dIx (eVar 2) (eBin dMod (eBin dAdd (eVar 1) (eK (.int 5))) (eK (.int 13))))))
  (sSeq (sAsg 6 [1, 2, 4, 5] (eBin dMod (eBin dPow (eBin dAdd (eBin dAdd (eVar 5) (eBin dMod (eVar 4) (eK (.int 1009)))) (eVar 1)) (eK (.int 3))) (eBin dIx (eVar 2) (eBin dMod (eBin dAdd (eVar 1) (eK (.int 7))) (eK (.int 13))))))
  (sRet [4, 5, 6] (eBin dAdd (eBin dMul (eBin dAdd (eBin dMul (eVar 4) (eK (.int 2147483647))) (eVar 5)) (eK (.int 2147483647))) (eVar 6)))))))))
noncomputable def gSpread : List D → Comp D := fnB 7 c_spread
def primes : List Int := [2147483629, 2147483587, 2147483579, 2147483563, 2147483549, 2147483543, 2147483497, 2147483489, 2147483477, 2147483423, 2147483399, 2147483353, 2147483323]
theorem prime_at {k : Int} (h0 : 0 ≤ k) (h : k < 13) : ∃ q : Int, dIx (.lst .f (primes.map D.int)) (.int k) = .ret (.int q) ∧ 1 ≤ q ∧ q < 2 ^ 31 := by
  have : k = 0 ∨ k = 1 ∨ k = 2 ∨ k = 3 ∨ k = 4 ∨ k = 5 ∨ k = 6 ∨ k = 7 ∨ k = 8 ∨ k = 9 ∨ k = 10 ∨ k = 11 ∨ k = 12 := by omega
  rcases this with rfl | rfl | rfl | rfl | rfl | rfl | rfl | rfl | rfl | rfl | rfl | rfl | rfl <;> exact ⟨_, rfl, by decide, by decide⟩
theorem bnd_mul {x y A B : Int} (h0 : 0 ≤ x) (h1 : x ≤ A) (h2 : 0 ≤ y) (h3 : y ≤ B) : 0 ≤ x * y ∧ x * y ≤ A * B := ⟨Int.mul_nonneg h0 h2, Int.mul_le_mul h1 h3 h2 (by omega)⟩
theorem nat_lt {x : Int} {k : Nat} (h0 : 0 ≤ x) (h : x < (2 : Int) ^ k) : x.natAbs < 2 ^ k := by
  have : ((x.natAbs : Nat) : Int) = x := Int.natAbs_of_nonneg h0
  have h2 : ((2 ^ k : Nat) : Int) = (2 : Int) ^ k := by norm_cast
  omega
theorem bigR_ge : 2 ^ 64 ≤ bigR := Nat.pow_le_pow_right (by decide) (by decide)
theorem run_int {vs : List Nat} {f : Env → Comp D} {ρ : Env} {k : D → Comp (Fl × Env)} {d : D} (h : f (fzE ρ) = .ret d) : run vs f ρ k = k d := by
  unfold run; rw [h]; rfl
theorem asg_eq {i : Nat} {vs : List Nat} {f : Env → Comp D} {ρ : Env} {d : D} (h : f (fzE ρ) = .ret d) (hn : noShr d = true := by rfl) : sAsg i vs f ρ = .ret (.nx, ρ.set i (some d)) := by
  unfold sAsg
  rw [run_int h]
  unfold upE
  rw [if_pos hn]
theorem seq_eq {f g : Env → Comp (Fl × Env)} {ρ ρ' : Env} (h : f ρ = .ret (.nx, ρ')) : sSeq f g ρ = g ρ' := by
  unfold sSeq; rw [h]; rfl
theorem if_eq {vs : List Nat} {c : Env → Comp Bool} {f g : Env → Comp (Fl × Env)} {ρ : Env} {b : Bool} (h : c (fzE ρ) = .ret b)   : sIf vs c f g ρ = if b then f ρ else g ρ := by
  unfold sIf runB; rw [h]; rfl
theorem bin_eq {g : D → D → Comp D} {f f' : Env → Comp D} {ρ : Env} {d e : D} {r : Comp D} (h : f ρ = .ret d) (h' : f' ρ = .ret e) (hg : g (fz d) (fz e) = r) : eBin g f f' ρ = r := by
  unfold eBin; rw [h, bind_ret, h', bind_ret, hg]
theorem bof_eq {f : Env → Comp D} {ρ : Env} {b : Bool} (h : f ρ = .ret (.bl b)) : bOf f ρ = .ret b := by
  unfold bOf; rw [h]; rfl
theorem fnB_eq {n : Nat} {c : Env → Comp (Fl × Env)} {ds : List D} {fl : Fl} {ρ : Env} (h : c (startE n ds) = .ret (fl, ρ)) : fnB n c ds = fnOut fl := by
  unfold fnB; rw [h]; rfl
theorem ret_eq {vs : List Nat} {f : Env → Comp D} {ρ : Env} {d : D} (h : f (fzE ρ) = .ret d) : sRet vs f ρ = .ret (.rt d, upE vs d ρ) := by
  unfold sRet; rw [run_int h]
theorem spread_ok {c a : Int} (hc : c.natAbs < bigR) (h0 : 0 ≤ a) (ha : a < 2 ^ 30) : ∃ z, gSpread [.int c, .int a] = .ret (.int z) ∧ 0 ≤ z ∧ z.natAbs < bigR := by
  have e10 : dPow (.int 10) (.int 18) = .ret (.int (10 ^ 18)) := dPow_small (k := 18) (by decide) (by decide)
  have t0 : ∀ ρ : Env, fzE ρ = ρ.map (Option.map fz) := fun _ => rfl
  have c0 : (bOf (eBin dGe (eVar 0) (eBin dPow (eK (.int 10)) (eK (.int 18))))) (fzE (startE 7 [.int c, .int a])) = .ret (decide ((10 : Int) ^ 18 ≤ c)) := bof_eq (bin_eq (d := .int c) rfl (bin_eq (d := .int 10) (e := .int 18) rfl rfl e10) rfl)
  by_cases hbig : (10 : Int) ^ 18 ≤ c
  · refine ⟨c, ?_, by omega, hc⟩
    refine fnB_eq (fl := .rt (.int c)) (ρ := (startE 7 [.int c, .int a]).set 0 none) ?_
    unfold c_spread sSeq
    rw [if_eq c0, if_pos (decide_eq_true hbig)]
    rfl
  · -- the draws' own mixing
    have m0 := Int.emod_nonneg c (show (1000000007 : Int) ≠ 0 by decide)
    have m1 := Int.emod_lt_of_pos c (show (0 : Int) < 1000000007 by decide)
    have n0 := Int.emod_nonneg c (show (65537 : Int) ≠ 0 by decide)
    have n1 := Int.emod_lt_of_pos c (show (0 : Int) < 65537 by decide)
    have b1 := bnd_mul (A := 1000000006) (B := 2 * 2 ^ 30 + 69069) m0 (by omega) (show 0 ≤ 2 * a + 69069 by omega) (by omega)
    generalize hx : c % 1000000007 * (2 * a + 69069) = x1 at b1
    have hM : 0 ≤ x1 + a * 40503 + 977 ∧ x1 + a * 40503 + 977 < 2 ^ 62 := by omega
    obtain ⟨q1, p1, q1a, q1b⟩ := prime_at (k := a % 13) (Int.emod_nonneg _ (by decide)) (Int.emod_lt_of_pos _ (by decide))
    obtain ⟨q2, p2, q2a, q2b⟩ := prime_at (k := (a + 5) % 13) (Int.emod_nonneg _ (by decide)) (Int.emod_lt_of_pos _ (by decide))
    obtain ⟨q3, p3, q3a, q3b⟩ := prime_at (k := (a + 7) % 13) (Int.emod_nonneg _ (by decide)) (Int.emod_lt_of_pos _ (by decide))
    generalize hM1 : x1 + a * 40503 + 977 = M at hM
    -- one
    have o0 := Int.emod_nonneg (M ^ 3) (show q1 ≠ 0 by omega)
    have o1 := Int.emod_lt_of_pos (M ^ 3) (show 0 < q1 by omega)
    generalize hO : M ^ 3 % q1 = O at o0 o1
    have b2 := bnd_mul (A := 2 ^ 31) (B := 2 ^ 30 + 3) o0 (by omega) (show 0 ≤ a + 3 by omega) (by omega)
    generalize hx2 : O * (a + 3) = x2 at b2
    have hN : 0 ≤ x2 + c % 65537 + 5 ∧ x2 + c % 65537 + 5 < 2 ^ 62 := by omega
    generalize hN1 : x2 + c % 65537 + 5 = N at hN
    have w0 := Int.emod_nonneg (N ^ 5) (show q2 ≠ 0 by omega)
    have w1 := Int.emod_lt_of_pos (N ^ 5) (show 0 < q2 by omega)
    generalize hW : N ^ 5 % q2 = T at w0 w1
    have r0 := Int.emod_nonneg O (show (1009 : Int) ≠ 0 by decide)
    have r1 := Int.emod_lt_of_pos O (show (0 : Int) < 1009 by decide)
    have hU : 0 ≤ T + O % 1009 + a ∧ T + O % 1009 + a < 2 ^ 62 := by omega
    generalize hU1 : T + O % 1009 + a = U at hU
    have v0 := Int.emod_nonneg (U ^ 3) (show q3 ≠ 0 by omega)
    have v1 := Int.emod_lt_of_pos (U ^ 3) (show 0 < q3 by omega)
    generalize hV : U ^ 3 % q3 = V3 at v0 v1
    have hz : 0 ≤ (O * 2147483647 + T) * 2147483647 + V3 ∧ (O * 2147483647 + T) * 2147483647 + V3 < 2 ^ 98 := by omega
    refine ⟨(O * 2147483647 + T) * 2147483647 + V3, ?_, hz.1, Nat.lt_of_lt_of_le (nat_lt hz.1 hz.2) (Nat.pow_le_pow_right (by decide) (by decide))⟩
    have big : ∀ {y : Int} {k : Nat}, 0 ≤ y → y < 2 ^ k → k ≤ 200 → y.natAbs < 2 ^ 200 := fun h1 h2 h3 => Nat.lt_of_lt_of_le (nat_lt h1 h2) (Nat.pow_le_pow_right (by decide) h3)
    refine fnB_eq (fl := .rt (.int ((O * 2147483647 + T) * 2147483647 + V3))) (ρ := [some (.int c), some (.int a), some (.lst .t (primes.map D.int)), some (.int M), some (.int O), some (.int T), some (.int V3)]) ?_
    unfold c_spread
    rw [seq_eq (ρ' := startE 7 [.int c, .int a]) (by rw [if_eq c0, if_neg (by simpa using hbig)]; rfl)]
    rw [seq_eq (asg_eq (d := .lst .t ((primes.take 7).map D.int)) rfl)]
    rw [seq_eq (asg_eq (d := .lst .t (primes.map D.int)) rfl)]
    rw [seq_eq (asg_eq (d := .int M) (by
      refine bin_eq (d := .int (x1 + a * 40503)) (e := .int 977) (bin_eq (d := .int x1) (e := .int (a * 40503)) ?_ ?_ rfl) rfl (by rw [← hM1]; rfl)
      · refine bin_eq (d := .int (c % 1000000007)) (e := .int (2 * a + 69069)) (bin_eq (d := .int c) (e := .int 1000000007) rfl rfl (dMod_pos (by decide))) (bin_eq (d := .int (2 * a)) (e := .int 69069) (bin_eq (d := .int 2) (e := .int a) rfl rfl (dMul_small (by decide) (big (k := 30) h0 ha (by decide)))) rfl rfl) ?_
        rw [← hx]
        exact dMul_small (big (k := 30) m0 (by omega) (by decide)) (big (k := 32) (by omega) (by omega) (by decide))
      · exact bin_eq (d := .int a) (e := .int 40503) rfl rfl (dMul_small (big (k := 30) h0 ha (by decide)) (by decide))))]
    rw [seq_eq (asg_eq (d := .int O) (by
      refine bin_eq (d := .int (M ^ 3)) (e := .int q1) (bin_eq (d := .int M) (e := .int 3) rfl rfl (dPow_small (k := 3) (Nat.lt_of_lt_of_le (nat_lt (k := 62) hM.1 hM.2) (by decide)) (by decide))) (bin_eq (d := .lst .f (primes.map D.int)) (e := .int (a % 13)) rfl (bin_eq (d := .int a) (e := .int 13) rfl rfl (dMod_pos (by decide))) p1) ?_
      rw [← hO]; exact dMod_pos (by omega)))]
    rw [seq_eq (asg_eq (d := .int T) (by
      refine bin_eq (d := .int (N ^ 5)) (e := .int q2) (bin_eq (d := .int N) (e := .int 5) (bin_eq (d := .int (x2 + c % 65537)) (e := .int 5) (bin_eq (d := .int x2) (e := .int (c % 65537)) (bin_eq (d := .int O) (e := .int (a + 3)) rfl (bin_eq (d := .int a) (e := .int 3) rfl rfl rfl) (by rw [← hx2]; exact dMul_small (big (k := 31) o0 (by omega) (by decide)) (big (k := 31) (by omega) (by omega) (by decide)))) (bin_eq (d := .int c) (e := .int 65537) rfl rfl (dMod_pos (by decide))) rfl) rfl (by rw [← hN1]; rfl)) rfl (dPow_small (k := 5) (Nat.lt_of_lt_of_le (nat_lt (k := 62) hN.1 hN.2) (by decide)) (by decide)))
        (bin_eq (d := .lst .f (primes.map D.int)) (e := .int ((a + 5) % 13)) rfl (bin_eq (d := .int (a + 5)) (e := .int 13) (bin_eq (d := .int a) (e := .int 5) rfl rfl rfl) rfl (dMod_pos (by decide))) p2) ?_
      rw [← hW]; exact dMod_pos (by omega)))]
    rw [seq_eq (asg_eq (d := .int V3) (by
      refine bin_eq (d := .int (U ^ 3)) (e := .int q3) (bin_eq (d := .int U) (e := .int 3) (bin_eq (d := .int (T + O % 1009)) (e := .int a) (bin_eq (d := .int T) (e := .int (O % 1009)) rfl (bin_eq (d := .int O) (e := .int 1009) rfl rfl (dMod_pos (by decide))) rfl) rfl (by rw [← hU1]; rfl)) rfl (dPow_small (k := 3) (Nat.lt_of_lt_of_le (nat_lt (k := 62) hU.1 hU.2) (by decide)) (by decide)))
        (bin_eq (d := .lst .f (primes.map D.int)) (e := .int ((a + 7) % 13)) rfl (bin_eq (d := .int (a + 7)) (e := .int 13) (bin_eq (d := .int a) (e := .int 7) rfl rfl rfl) rfl (dMod_pos (by decide))) p3) ?_
      rw [← hV]; exact dMod_pos (by omega)))]
    refine ret_eq (bin_eq (d := .int ((O * 2147483647 + T) * 2147483647)) (e := .int V3) (bin_eq (d := .int (O * 2147483647 + T)) (e := .int 2147483647) (bin_eq (d := .int (O * 2147483647)) (e := .int T) (bin_eq (d := .int O) (e := .int 2147483647) rfl rfl (dMul_small (big (k := 31) o0 (by omega) (by decide)) (by decide))) rfl rfl) rfl (dMul_small (big (k := 63) (by omega) (by omega) (by decide)) (by decide))) rfl rfl)
end Mid
namespace Mid
open PySem PySem.Spec PyProof.Rows L2
structure PnAt (p c : Addr) (H0 H : Hp) (cs : List Int) (a r : Int) : Prop where
  hp : H p = some (.lst [.ref c, .int a, .int r])
  hc : H c = some (.lst (cs.map V.int))
  ext : ∀ x o, H0 x = some o → x ≠ p → x ≠ c → H x = some o
  keep : ∀ x, H x = none → H0 x = none
def penF (cs : List Int) (a r : Int) : D := .lst .f [.lst .f (cs.map D.int), .int a, .int r]
def stV (p : Addr) (is : List (Option Int)) : L2.St := some (.ref p) :: is.map (Option.map V.int)
def stD (cs : List Int) (a r : Int) (is : List (Option Int)) : Env := some (penF cs a r) :: is.map (Option.map D.int)
section
variable {K : PySem.W.Frag} {p c : Addr} {H0 H : Hp} {cs : List Int} {a r : Int} {mg : Str → Option Value} {W : WX} {vs : List Nat} {is : List (Option Int)}
theorem PnAt.ne (S : PnAt p c H0 H cs a r) : p ≠ c := fun e => by
  have h1 := S.hp
  rw [e, S.hc] at h1
  cases cs with
  | nil => cases h1
  | cons x cs => cases h1
theorem PnAt.mv (S : PnAt p c H0 H cs a r) {PN' : Pn} {H' : Hp} (m : Mv none H PN' H') : PnAt p c H0 H' cs a r :=
  ⟨m.ext _ _ S.hp (fun _ _ e => nomatch e), m.ext _ _ S.hc (fun _ _ e => nomatch e), fun x o h n1 n2 => m.ext _ _ (S.ext x o h n1 n2) (fun _ _ e => nomatch e), fun x h => S.keep x (m.keep x h)⟩
theorem PnAt.pk (S : PnAt p c H0 H cs a r) : Pk K none H (fun x => x = p ∨ x = c) vs (stD cs a r is) (stV p is) := by
  refine ⟨by simp [stD, stV], fun i _ d hd => ?_⟩
  cases i with
  | zero =>
    have e : penF cs a r = d := by simpa [stD] using hd
    subst e
    exact ⟨.ref p, rfl, .shr S.hp (.inl rfl) (.cons (f := []) (.shr S.hc (.inr rfl) (RepL.intsM cs)) (.cons (f := []) .int (.cons (f := []) .int .nil)))⟩
  | succ i =>
    have e : (is.map (Option.map D.int))[i]? = some (some d) := by simpa [stD] using hd
    rw [List.getElem?_map] at e
    cases q : is[i]? with
    | none => rw [q] at e; cases e
    | some o =>
      rw [q] at e
      cases o with
      | none => cases e
      | some z =>
        cases e
        refine ⟨.int z, ?_, .int⟩
        show (is.map (Option.map V.int))[i]? = _
        rw [List.getElem?_map, q]; rfl
theorem PnAt.zk (S : PnAt p c H0 H cs a r) : Zk none (fun x => x = p ∨ x = c) H := fun x hx => by
  refine ⟨fun e => ?_, fun _ _ e => nomatch e⟩
  rcases hx with rfl | rfl
  · rw [S.hp] at e; cases e
  · rw [S.hc] at e; cases e
theorem pens0 : Pens none 0 H := ⟨Nat.zero_le _, fun _ _ e => nomatch e⟩
theorem at_int (S : PnAt p c H0 H cs a r) {f : Env → Comp D} {z : Int} {Q : VK} (e : f (stD cs a r is) = .ret (.int z)) (k : ∀ H', PnAt p c H0 H' cs a r → Q (.int z) H') : ePre K mg W vs f (stV p is) H Q := by
  refine ⟨none, 0, _, _, S.pk, S.zk, pens0, ?_⟩
  rw [e]
  intro v PN' H' ev
  obtain ⟨_, fp, Z1, mv, _, _, _, _, rr⟩ := ev
  cases rr
  exact k H' (S.mv mv)
theorem at_bool (S : PnAt p c H0 H cs a r) {f : Env → Comp Bool} {b : Bool} {Q : Bool → Hp → Prop} (e : f (stD cs a r is) = .ret b) (k : ∀ H', PnAt p c H0 H' cs a r → Q b H') : bPre K mg W vs f (stV p is) H Q := by
  refine ⟨none, 0, _, _, S.pk, S.zk, pens0, ?_⟩
  rw [e]
  intro PN' H' Z' sh
  exact k H' (S.mv sh.mv)
theorem PnAt.put (S : PnAt p c H0 H cs a r) (a' r' : Int) : PnAt p c H0 (L2.upd H p (.lst [.ref c, .int a', .int r'])) cs a' r' :=
  ⟨upd_same, by rw [upd_ne (Ne.symm S.ne)]; exact S.hc, fun x o h n1 n2 => by rw [upd_ne n1]; exact S.ext x o h n1 n2, fun x h => by
    by_cases e : x = p
    · rw [e, upd_same] at h; cases h
    · rw [upd_ne e] at h; exact S.keep x h⟩
/-- pen[1] = z, pen[2] = z -/
theorem at_set1 (S : PnAt p c H0 H cs a r) {z : Int} {Q : Hp → Prop} (k : PnAt p c H0 (L2.upd H p (.lst [.ref c, .int z, .int r])) cs z r → Q (L2.upd H p (.lst [.ref c, .int z, .int r]))) : rSetL (.ref p) (.int 1) (.int z) H Q := ⟨p, _, 1, 1, rfl, rfl, S.hp, rfl, k (S.put z r)⟩
theorem at_set2 (S : PnAt p c H0 H cs a r) {z : Int} {Q : Hp → Prop} (k : PnAt p c H0 (L2.upd H p (.lst [.ref c, .int a, .int z])) cs a z → Q (L2.upd H p (.lst [.ref c, .int a, .int z]))) : rSetL (.ref p) (.int 2) (.int z) H Q := ⟨p, _, 2, 2, rfl, rfl, S.hp, rfl, k (S.put a z)⟩
end
def gTake : List D → Comp D
  | [.pen, .int z] => if 0 < z ∧ z < 2 ^ 200 then .draw z.toNat fun r => .ret (.int (r : Int)) else .stuck
  | _ => .stuck
def gAnew : List D → Comp D
  | [.pen] => .ret .pen
  | _ => .stuck
noncomputable def k1 : Env → Comp D := eBin dIx (eVar 0) (eK (.int 1))
noncomputable def k2 : Env → Comp D := eBin dIx (eVar 0) (eK (.int 2))
noncomputable def kcs : Env → Comp D := eBin dIx (eVar 0) (eK (.int 0))
noncomputable def klen : Env → Comp D := eCallB gLen (aCons kcs aNil)
noncomputable def k4 : Env → Comp D := eBin dMod (eBin dIx kcs (eBin dMod (eBin dAdd (eBin dMul (eVar 3) (eK (.int 5))) (eK (.int 3))) klen)) (eBin dAdd (eBin dPow (eK (.int 10)) (eK (.int 17))) (eVar 3))
noncomputable def kspr : Env → Comp D := eCall 2 gSpread (aCons (eVar 4) (aCons (eVar 3) aNil))
noncomputable def t_take (K : PySem.W.Frag) (mg : Str → Option Value) (W : WX) : TS :=
  tSeq (tIfS (bPre K mg W [0, 1] (bOf (eBin dLt k2 (eVar 1))))
    (tSeq (tAsg (ePre K mg W [0] k1) (gName 3)) (tSeq (tAsg (ePre K mg W [] (eK (.int 0))) (gName 4))
      (tSeq (tIfS (bPre K mg W [0, 3] (bOf (eBin dLt (eVar 3) klen))) (tAsg (ePre K mg W [0, 3] (eBin dIx kcs (eVar 3))) (gName 4))
          (tIfS (bPre K mg W [0] (bOf (eBin dGt klen (eK (.int 0))))) (tAsg (ePre K mg W [0, 3] k4) (gName 4)) tNext))
        (tSeq (tAsg (ePre K mg W [3] (eBin dAdd (eVar 3) (eK (.int 1)))) (gSub (tVar 0) (ePre K mg W [] (eK (.int 1))) rSetL))
          (tAsg (ePre K mg W [3, 4] kspr) (gSub (tVar 0) (ePre K mg W [] (eK (.int 2))) rSetL)))))) tNext)
  (tSeq (tAsg (ePre K mg W [0, 1] (eBin dMod k2 (eVar 1))) (gName 2))
  (tSeq (tAsg (ePre K mg W [0, 1] (eBin dDiv k2 (eVar 1))) (gSub (tVar 0) (ePre K mg W [] (eK (.int 2))) rSetL))
    (tRet (tVar 2))))
section
variable {K : PySem.W.Frag} {p c : Addr} {H0 H : Hp} {cs : List Int} {a r m : Int} {mg : Str → Option Value} {W : WX} {D' : Ends}
theorem kcs_eq {is : List (Option Int)} : kcs (stD cs a r is) = .ret (.lst .f (cs.map D.int)) := bin_eq (d := penF cs a r) rfl rfl (by
  show dIx (.lst .f (fzL [.lst .f (cs.map D.int), .int a, .int r])) (.int 0) = _
  simp only [fzL, fz, fzL_ints]
  rfl)
theorem k1_eq {is : List (Option Int)} : k1 (stD cs a r is) = .ret (.int a) := rfl
theorem k2_eq {is : List (Option Int)} : k2 (stD cs a r is) = .ret (.int r) := rfl
theorem klen_eq {is : List (Option Int)} : klen (stD cs a r is) = .ret (.int cs.length) := by
  unfold klen eCallB aCons
  rw [kcs_eq, bind_ret]
  simp only [aNil, bind_ret, fz, fzL_ints]
  simp [gLen]
theorem cell_eq {is : List (Option Int)} {f : Env → Comp D} {k : Int} {j : Nat} {z : Int} (hf : f (stD cs a r is) = .ret (.int k)) (hk : ixN cs.length k = some j) (hz : cs[j]? = some z) : eBin dIx kcs f (stD cs a r is) = .ret (.int z) := bin_eq (d := .lst .f (cs.map D.int)) kcs_eq hf (by
  show dIx (.lst .f (fzL (cs.map D.int))) (.int k) = _
  rw [fzL_ints]
  unfold dIx atI
  simp only [List.length_map, hk]
  simp [hz])
/-- the last three statements -/
theorem take_tail {H : Hp} {a r : Int} {o3 o4 : Option Int} (S : PnAt p c H0 H cs a r) (hm : 0 < m) (hm2 : m < 2 ^ 200) (hr : 0 ≤ r) (hr2 : r.natAbs < bigR)
    (k : ∀ H' r', PnAt p c H0 H' cs a r' → 0 ≤ r' → r'.natAbs < bigR → D'.rt (.int (r % m)) H') :
    tSeq (tAsg (ePre K mg W [0, 1] (eBin dMod k2 (eVar 1))) (gName 2)) (tSeq (tAsg (ePre K mg W [0, 1] (eBin dDiv k2 (eVar 1))) (gSub (tVar 0) (ePre K mg W [] (eK (.int 2))) rSetL)) (tRet (tVar 2))) D' (stV p [some m, none, o3, o4]) H := by
  refine at_int (mg := mg) S (bin_eq k2_eq rfl (dMod_pos hm)) fun H1 S1 => ?_
  show tSeq _ _ D' (stV p [some m, some (r % m), o3, o4]) H1
  refine at_int (mg := mg) S1 (z := r / m) (bin_eq k2_eq rfl (if_pos ⟨hm, ⟨Nat.lt_of_lt_of_le (nat_lt (by omega) hm2) (Nat.pow_le_pow_right (by decide) (by decide))⟩⟩)) fun H2 S2 => ?_
  refine ⟨_, rfl, at_int (mg := mg) S2 rfl fun H3 S3 => at_set2 S3 fun S4 => ⟨_, rfl, k _ _ S4 (Int.ediv_nonneg hr (by omega)) ?_⟩⟩
  have h1 : r / m ≤ r := Int.ediv_le_self _ hr
  have h2 : 0 ≤ r / m := Int.ediv_nonneg hr (by omega)
  omega
theorem take_pure (S : PnAt p c H0 H cs a r) (hm : 0 < m) (hm2 : m < 2 ^ 200) (hr : 0 ≤ r) (hr2 : r.natAbs < bigR) (ha : 0 ≤ a) (ha2 : a < 2 ^ 30) (hcs : ∀ x ∈ cs, x.natAbs < bigR) (hl : cs.length ≤ 12)
    (k : ∀ H' a' r' z, PnAt p c H0 H' cs a' r' → a ≤ a' → a' ≤ a + 1 → 0 ≤ r' → r'.natAbs < bigR → 0 ≤ z → z < m → D'.rt (.int z) H') : t_take K mg W D' (stV p [some m, none, none, none]) H := by
  refine at_bool (mg := mg) S (b := decide (r < m)) (bof_eq (bin_eq k2_eq rfl rfl)) fun H1 S1 => ?_
  by_cases hlt : r < m
  · rw [decide_eq_true hlt, if_pos rfl]
    refine at_int (mg := mg) S1 k1_eq fun H2 S2 => ?_
    show tSeq _ _ _ (stV p [some m, none, some a, none]) H2
    refine at_int (mg := mg) S2 (z := 0) rfl fun H3 S3 => ?_
    show tSeq _ _ _ (stV p [some m, none, some a, some 0]) H3
    -- the rest, from the cell's number
    have fin : ∀ (z : Int) (H4 : Hp), z.natAbs < bigR → PnAt p c H0 H4 cs a r → tSeq (tAsg (ePre K mg W [3] (eBin dAdd (eVar 3) (eK (.int 1)))) (gSub (tVar 0) (ePre K mg W [] (eK (.int 1))) rSetL)) (tAsg (ePre K mg W [3, 4] kspr) (gSub (tVar 0) (ePre K mg W [] (eK (.int 2))) rSetL))
        { D' with nx := tSeq (tAsg (ePre K mg W [0, 1] (eBin dMod k2 (eVar 1))) (gName 2)) (tSeq (tAsg (ePre K mg W [0, 1] (eBin dDiv k2 (eVar 1))) (gSub (tVar 0) (ePre K mg W [] (eK (.int 2))) rSetL)) (tRet (tVar 2))) D' } (stV p [some m, none, some a, some z]) H4 := fun z H4 hz S4 => by
      refine at_int (mg := mg) S4 (z := a + 1) rfl fun H5 S5 => ?_
      refine ⟨_, rfl, at_int (mg := mg) S5 rfl fun H6 S6 => at_set1 S6 fun S7 => ?_⟩
      obtain ⟨y, ey, y0, y1⟩ := spread_ok hz ha ha2
      refine at_int (mg := mg) S7 (z := y) ?_ fun H8 S8 => ?_
      · show eCall 2 gSpread _ _ = _
        exact ey
      refine ⟨_, rfl, at_int (mg := mg) S8 rfl fun H9 S9 => at_set2 S9 fun S10 => ?_⟩
      exact take_tail S10 hm hm2 y0 y1 fun H' r' S' h1 h2 => k H' _ r' _ S' (by omega) (by omega) h1 h2 (Int.emod_nonneg _ (by omega)) (Int.emod_lt_of_pos _ hm)
    refine at_bool (mg := mg) S3 (b := decide (a < cs.length)) (bof_eq (bin_eq (d := .int a) rfl klen_eq rfl)) fun H4 S4 => ?_
    by_cases hin : a < cs.length
    · rw [decide_eq_true hin, if_pos rfl]
      have hj : a.toNat < cs.length := by omega
      refine at_int (mg := mg) S4 (cell_eq (k := a) (j := a.toNat) (z := cs[a.toNat]) rfl (by unfold ixN; rw [if_pos ha, if_pos hin]) (List.getElem?_eq_getElem hj)) fun H5 S5 => ?_
      exact fin _ H5 (hcs _ (List.getElem_mem hj)) S5
    · rw [decide_eq_false hin, if_neg (by decide)]
      refine at_bool (mg := mg) S4 (b := decide ((0 : Int) < cs.length)) (bof_eq (bin_eq klen_eq rfl rfl)) fun H5 S5 => ?_
      by_cases hpos : (0 : Int) < cs.length
      · rw [decide_eq_true hpos, if_pos rfl]
        have hk0 := Int.emod_nonneg (a * 5 + 3) (show ((cs.length : Nat) : Int) ≠ 0 by omega)
        have hk1 := Int.emod_lt_of_pos (a * 5 + 3) hpos
        have hj : ((a * 5 + 3) % (cs.length : Int)).toNat < cs.length := by omega
        have hc := hcs _ (List.getElem_mem hj)
        generalize hq : cs[((a * 5 + 3) % (cs.length : Int)).toNat] = q at hc
        have q0 := Int.emod_nonneg q (show ((10 : Int) ^ 17 + a) ≠ 0 by omega)
        have q1 := Int.emod_lt_of_pos q (show (0 : Int) < (10 : Int) ^ 17 + a by omega)
        refine at_int (mg := mg) S5 (z := q % (10 ^ 17 + a)) ?_ fun H6 S6 => fin _ H6 (Nat.lt_of_lt_of_le (nat_lt (k := 62) q0 (by omega)) (Nat.pow_le_pow_right (by decide) (by decide))) S6
        refine bin_eq (d := .int q) (e := .int (10 ^ 17 + a)) (cell_eq (k := (a * 5 + 3) % (cs.length : Int)) (j := ((a * 5 + 3) % (cs.length : Int)).toNat) ?_ (by unfold ixN; rw [if_pos hk0, if_pos hk1]) (by rw [← hq]; exact List.getElem?_eq_getElem hj)) (bin_eq (d := .int (10 ^ 17)) (e := .int a) (bin_eq (d := .int 10) (e := .int 17) rfl rfl (dPow_small (k := 17) (by decide) (by decide))) rfl rfl) (dMod_pos (by omega))
        exact bin_eq (d := .int (a * 5 + 3)) (e := .int cs.length) (bin_eq (d := .int (a * 5)) (e := .int 3) (bin_eq (d := .int a) (e := .int 5) rfl rfl (dMul_small (Nat.lt_of_lt_of_le (nat_lt (k := 30) ha ha2) (Nat.pow_le_pow_right (by decide) (by decide))) (by decide))) rfl rfl) klen_eq (dMod_pos hpos)
      · rw [decide_eq_false hpos, if_neg (by decide)]
        exact fin 0 H5 (Nat.lt_of_lt_of_le (by decide : (0 : Int).natAbs < 2 ^ 64) bigR_ge) S5
  · rw [decide_eq_false hlt, if_neg (by decide)]
    exact take_tail S1 hm hm2 hr hr2 fun H' r' S' h1 h2 => k H' _ r' _ S' (by omega) (by omega) h1 h2 (Int.emod_nonneg _ (by omega)) (Int.emod_lt_of_pos _ hm)
end
end Mid
namespace Mid
open PySem PySem.Spec PyProof.Rows L2
section
variable {P : Program} {w : World} {K : PySem.W.Frag} {mg : Str → Option Value} {base : Heap}
theorem PnAt.of {n : Nat} {H : Hp} {p c : Addr} (ps : Pens (some (p, c)) n H) : ∃ cs a r, PnAt p c H H cs a r ∧ 0 ≤ a ∧ a + n ≤ (bigA : Int) ∧ cs.length ≤ 12 ∧ (∀ x ∈ cs, x.natAbs < bigR) ∧ 0 ≤ r ∧ r.natAbs < bigR := by
  obtain ⟨cs, a, r, h1, h2, h3⟩ := ps.2 p c rfl
  exact ⟨cs, a, r, ⟨h1, h2, fun _ _ h _ _ => h, fun _ h => h⟩, h3⟩
theorem PnAt.ev {n m : Nat} {H H' : Hp} {p c : Addr} {cs : List Int} {a r : Int} {Z : Addr → Prop} {v : V} {d : D} (S : PnAt p c H H' cs a r) (hm : m ≤ bigA) (ha : 0 ≤ a) (hb : a + m ≤ (bigA : Int)) (hl : cs.length ≤ 12) (hcs : ∀ x ∈ cs, x.natAbs < bigR) (hr : 0 ≤ r) (hr2 : r.natAbs < bigR)
    (rd : Rep K (some (p, c)) H' (fun _ => False) v d []) : Ev K (some (p, c)) H Z m v d (some (p, c)) H' :=
  ⟨rd.brw0, [], fun _ => False, ⟨fun _ h => h, fun _ h => .inl h, fun x o h np => S.ext x o h (np p c rfl).1 (np p c rfl).2, S.keep⟩, ⟨hm, fun p' c' e => by
    cases e
    exact ⟨cs, a, r, S.hp, S.hc, ha, hb, hl, hcs, hr, hr2⟩⟩, List.Pairwise.nil, fun _ h => (nomatch h), fun _ h => h.elim, rd⟩
theorem take_cal {x qual : Str} {params : Arguments} {bd : List Stmt} {scope : Scope} {kws : List (Str × V)} {f : Addr} {fd : FuncData} {N ps : List Str} {k : Nat} (F : FunD K x qual params bd scope [] kws f fd) (S : FnScope N ps scope) (hm : mg x = some (.ref f)) (hb : Binds K fd ps []) (h2 : ps.length = 2) (h5 : N.length = 5)
    (h : ∀ (cdv : Value) (A : Around) (outer : List PySem.Env) (s : Shared) (H : Hp) (E : XK), Fit k (Xf P w K mg base N qual scope f cdv A outer s H E) (Wf E) → PSs (Xf P w K mg base N qual scope f cdv A outer s H E) bd (t_take K mg (Wf E))) : Cal P w K mg base (k + 1) x 2 gTake := by
  refine ⟨f, fd, ps, gfn_of F S (fun vs H Q E q => ?_) fun cdv A outer s H vs Q E ft po q => ⟨_, h cdv A outer s H E ft, ?_⟩, hm, F.kp, hb⟩
  · obtain ⟨PN, n, Z, ds, hl, r, _⟩ := q
    rw [r.length, hl, h2]
  · obtain ⟨PN, n, Z, ds, hl, r, z, p, q⟩ := q
    unfold gTake at q
    split at q
    · rename_i m
      split at q
      · rename_i hm
        obtain ⟨m', rfl, _, q⟩ := q
        obtain ⟨v1, u1, rfl, r1, r2⟩ := r.inv rfl
        obtain ⟨v2, u2, rfl, r3, r4⟩ := r2.inv rfl
        have e0 := r4.inv0
        subst e0
        cases r3
        cases r1 with
        | pen hp =>
          subst hp
          rename_i pa ca
          obtain ⟨cs, a, r, S0, ha, hb, hl, hcs, hr, hr2⟩ := PnAt.of p
          have est : L2.start N [.ref pa, .int m] = stV pa [some m, none, none, none] := by
            unfold L2.start
            rw [h5]; rfl
          have hA : bigA = 2 ^ 30 := rfl
          rw [est]
          refine take_pure S0 hm.1 hm.2 hr hr2 ha (by omega) hcs hl fun H' a' r' z' S' l1 l2 l3 l4 l5 l6 => ?_
          have := q z'.toNat (by omega) (.int z') (some (pa, ca)) H'
          rw [Int.toNat_of_nonneg l5] at this
          exact this (S'.ev (n := 0) (by have := p.1; omega) (by omega) (by omega) hl hcs l3 l4 .int)
      · exact q.elim
    · exact q.elim
def t_anew (K : PySem.W.Frag) (mg : Str → Option Value) (W : WX) : TS := tSeq (tAsg (ePre K mg W [] (eK (.int 0))) (gSub (tVar 0) (ePre K mg W [] (eK (.int 2))) rSetL)) (tRet (tVar 0))
theorem anew_cal {x qual : Str} {params : Arguments} {bd : List Stmt} {scope : Scope} {kws : List (Str × V)} {f : Addr} {fd : FuncData} {N ps : List Str} {k : Nat} (F : FunD K x qual params bd scope [] kws f fd) (S : FnScope N ps scope) (hm : mg x = some (.ref f)) (hb : Binds K fd ps []) (h2 : ps.length = 1) (h5 : N.length = 1)
    (h : ∀ (cdv : Value) (A : Around) (outer : List PySem.Env) (s : Shared) (H : Hp) (E : XK), Fit k (Xf P w K mg base N qual scope f cdv A outer s H E) (Wf E) → PSs (Xf P w K mg base N qual scope f cdv A outer s H E) bd (t_anew K mg (Wf E))) : Cal P w K mg base (k + 1) x 1 gAnew := by
  refine ⟨f, fd, ps, gfn_of F S (fun vs H Q E q => ?_) fun cdv A outer s H vs Q E ft po q => ⟨_, h cdv A outer s H E ft, ?_⟩, hm, F.kp, hb⟩
  · obtain ⟨PN, n, Z, ds, hl, r, _⟩ := q
    rw [r.length, hl, h2]
  · obtain ⟨PN, n, Z, ds, hl, r, z, p, q⟩ := q
    unfold gAnew at q
    split at q
    · obtain ⟨v1, u1, rfl, r1, r2⟩ := r.inv rfl
      have e0 := r2.inv0
      subst e0
      cases r1 with
      | pen hp =>
        subst hp
        rename_i pa ca
        obtain ⟨cs, a, r, S0, ha, hb, hl, hcs, hr, hr2⟩ := PnAt.of p
        have est : L2.start N [.ref pa] = stV pa [] := by
          unfold L2.start
          rw [h5]; rfl
        rw [est]
        refine at_int (mg := mg) S0 rfl fun H1 S1 => ⟨_, rfl, at_int (mg := mg) S1 rfl fun H2 S2 => at_set2 S2 fun S3 => ⟨_, rfl, ?_⟩⟩
        exact q _ (some (pa, ca)) _ (S3.ev (n := 0) p.1 ha hb hl hcs (by decide) (Nat.lt_of_lt_of_le (by decide : (0 : Int).natAbs < 2 ^ 64) bigR_ge) (.pen rfl))
    · exact q.elim
end
def thenPost (X : Cx) (t : TS) (D' : Ends) (B : Bs) : Nat → Fl × Env → Prop := fun m r => match r.1 with
  | .nx => ∀ PN' H' Z' σ' o', SOk X.K B PN' H' Z' r.2 σ' o' → Pens PN' m H' → t D' σ' H'
  | _ => False
def tThen (X : Cx) (f : Env → Comp (Fl × Env)) (t : TS) : TS := fun D' σ H => ∃ B PN n Z ρ o, SOk X.K B PN H Z ρ σ o ∧ Pens PN n H ∧ (f ρ).all (thenPost X t D' B) NoErr n
theorem pss_then {X : Cx} {W : WX} {f : Env → Comp (Fl × Env)} {st : Stmt} {sts : List Stmt} {t : TS} (h : SV X W f st) (h2 : PSs X sts t) : PSs X (st :: sts) (tThen X f t) := pssW (pss_cons h h2) fun D' σ H q => by
  obtain ⟨B, PN, n, Z, ρ, o, s, p, q⟩ := q
  refine ⟨B, PN, n, Z, ρ, o, s, p, Comp.all_mono (fun m r q => ?_) (fun _ _ _ h => h) q⟩
  obtain ⟨fl, ρ'⟩ := r
  cases fl with
  | nx => exact q
  | _ => exact q.elim
theorem set1_eq {i : Nat} {vs : List Nat} {f g : Env → Comp D} {ρ : Env} {d : D} {z : Int} {xs : List D} {w : Ow} {j : Nat} (hf : f (fzE ρ) = .ret d) (hn : noShr d = true) (hx : ownAt ρ i = some (w, xs)) (hg : g (fzE ρ) = .ret (.int z)) (hj : ixN xs.length z = some j) :
    sSet1 i vs f g ρ = .ret (.nx, ρ.set i (some (.lst w (xs.take j ++ ([d] ++ xs.drop (j + 1)))))) := by
  unfold sSet1
  rw [run_int hf]
  unfold upE
  rw [if_pos hn]
  simp only [hx]
  rw [run_int hg]
  simp only [hj]
def bigS : Nat := 2 ^ 1048577
noncomputable def c_open1 : Env → Comp (Fl × Env) := sAsg 1 [0] (eCallB gList (aCons (eSl dSl (eVar 0) (oNone) (oSome (eK (.int 12)))) (aNil)))
noncomputable def c_open2 : Env → Comp (Fl × Env) := sForS [0] (iOf gEnum (aCons (eSl dSl (eVar 0) (oSome (eK (.int 12))) (oSome (eK (.int 63)))) (aNil))) (tTup 2 (tsCons (tName 2) (tsCons (tName 3) (tsNil)))) (sSet1 1 [1, 2, 3] (eBin dAdd (eBin dIx (eVar 1) (eBin dMod (eVar 2) (eK (.int 12)))) (eVar 3)) (eBin dMod (eVar 2) (eK (.int 12))))
theorem noShr_ints : ∀ ns : List Int, noShrL (ns.map D.int) = true
  | [] => rfl
  | _ :: ns => noShr_ints ns
theorem cut_ints (ns : List Int) (lo hi : Option Int) : cutD (ns.map D.int) lo hi = ((ns.drop (HT.sIx ns.length 0 lo)).take (HT.sIx ns.length ns.length hi - HT.sIx ns.length 0 lo)).map D.int := by
  unfold cutD
  rw [List.length_map, List.map_take, List.map_drop]
theorem loop_open (scr : List Int) : ∀ (zs cs : List Int) (k T : Nat) (x2 x3 : Option D), (zs ≠ [] → cs.length = 12) → (∀ z ∈ zs, z.natAbs < bigS) → (∀ c ∈ cs, c.natAbs < T * bigS) → ∃ (cs' : List Int) (y2 y3 : Option D), cs'.length = cs.length ∧ (∀ c ∈ cs', c.natAbs < (T + zs.length) * bigS) ∧
    forL (tTup 2 (tsCons (tName 2) (tsCons (tName 3) (tsNil)))) (sSet1 1 [1, 2, 3] (eBin dAdd (eBin dIx (eVar 1) (eBin dMod (eVar 2) (eK (.int 12)))) (eVar 3)) (eBin dMod (eVar 2) (eK (.int 12)))) (numbered k (zs.map D.int)) [some (.scr scr), some (.lst .t (cs.map D.int)), x2, x3] =
      .ret (.nx, [some (.scr scr), some (.lst .t (cs'.map D.int)), y2, y3])
  | [], cs, k, T, x2, x3, _, _, h3 => ⟨cs, x2, x3, rfl, h3, rfl⟩
  | z :: zs, cs, k, T, x2, x3, h1, h2, h3 => by
    have hl : cs.length = 12 := h1 (List.cons_ne_nil _ _)
    have k0 := Int.emod_nonneg (k : Int) (show (12 : Int) ≠ 0 by decide)
    have k1 := Int.emod_lt_of_pos (k : Int) (show (0 : Int) < 12 by decide)
    generalize hj : ((k : Int) % 12).toNat = j
    have hj12 : j < cs.length := by omega
    have hix : ixN cs.length ((k : Int) % 12) = some j := by
      unfold ixN
      rw [if_pos k0, if_pos (by rw [hl]; exact k1), hj]
    have hlen : (cs.set j (cs[j] + z)).length = 12 := by rw [List.length_set, hl]
    obtain ⟨cs', y2, y3, e1, e2, e3⟩ := loop_open scr zs (cs.set j (cs[j] + z)) (k + 1) (T + 1) (some (.int k)) (some (.int z)) (fun _ => hlen) (fun x hx => h2 x (List.mem_cons_of_mem _ hx)) (fun x hx => by
      have hz := h2 z List.mem_cons_self
      have hm := Nat.succ_mul T bigS
      rcases List.mem_or_eq_of_mem_set hx with q | q
      · have := h3 x q
        show x.natAbs < T.succ * bigS
        omega
      · have := h3 _ (List.getElem_mem hj12)
        show x.natAbs < T.succ * bigS
        rw [q]
        omega)
    refine ⟨cs', y2, y3, by rw [e1, List.length_set], fun x hx => by have := e2 x hx; rw [List.length_cons, show T + (zs.length + 1) = T + 1 + zs.length by omega]; exact this, ?_⟩
    show forL _ _ (.pr [.int k, .int z] :: numbered (k + 1) (zs.map D.int)) _ = _
    unfold forL
    have et : tTup 2 (tsCons (tName 2) (tsCons (tName 3) tsNil)) (.pr [.int k, .int z]) [some (.scr scr), some (.lst .t (cs.map D.int)), x2, x3] = some [some (.scr scr), some (.lst .t (cs.map D.int)), some (.int k), some (.int z)] := rfl
    rw [et]
    have md : ∀ ρ : Env, ρ[2]? = some (some (.int k)) → eBin dMod (eVar 2) (eK (.int 12)) ρ = .ret (.int ((k : Int) % 12)) := fun ρ hρ => bin_eq (d := .int k) (e := .int 12) (by unfold eVar; rw [hρ]) rfl (dMod_pos (by decide))
    have es := set1_eq (i := 1) (vs := [1, 2, 3]) (ρ := [some (.scr scr), some (.lst .t (cs.map D.int)), some (.int k), some (.int z)]) (d := .int (cs[j] + z)) (z := (k : Int) % 12) (xs := cs.map D.int) (j := j)
      (f := eBin dAdd (eBin dIx (eVar 1) (eBin dMod (eVar 2) (eK (.int 12)))) (eVar 3)) (g := eBin dMod (eVar 2) (eK (.int 12)))
      (bin_eq (d := .int cs[j]) (e := .int z) (bin_eq (d := .lst .f (fzL (cs.map D.int))) (e := .int ((k : Int) % 12)) rfl (md _ rfl) (by
        show dIx (.lst .f (fzL (fzL (cs.map D.int)))) (.int ((k : Int) % 12)) = _
        rw [fzL_ints, fzL_ints]
        unfold dIx atI
        simp only [List.length_map, hix]
        simp [hj12])) rfl rfl) rfl rfl (md _ rfl) (by rw [List.length_map]; exact hix)
    simp only [es, bind_ret]
    have en : (cs.map D.int).take j ++ ([.int (cs[j] + z)] ++ (cs.map D.int).drop (j + 1)) = (cs.set j (cs[j] + z)).map D.int := by
      rw [set_split hj12, List.map_append, List.map_take, List.map_cons, List.map_drop]; rfl
    rw [en]
    exact e3
theorem open_pure {ns : List Int} (hl : ns.length ≤ 63) (hb : ∀ z ∈ ns, z.natAbs < bigS) : ∃ (ρ1 : Env) (cs : List Int) (y2 y3 : Option D), c_open1 [some (.scr ns), none, none, none] = .ret (.nx, ρ1) ∧ c_open2 ρ1 = .ret (.nx, [some (.scr ns), some (.lst .t (cs.map D.int)), y2, y3]) ∧ cs.length ≤ 12 ∧ ∀ c ∈ cs, c.natAbs < bigR := by
  have c1 : cutD (ns.map D.int) none (some 12) = (ns.take 12).map D.int := by
    rw [cut_ints]
    show ((ns.drop 0).take (min 12 ns.length - 0)).map D.int = _
    rw [List.drop_zero, Nat.sub_zero]
    congr 1
    by_cases h : 12 ≤ ns.length
    · rw [Nat.min_eq_left h]
    · rw [Nat.min_eq_right (by omega), List.take_length, List.take_of_length_le (by omega)]
  have c2 : cutD (ns.map D.int) (some 12) (some 63) = (ns.drop 12).map D.int := by
    rw [cut_ints]
    show ((ns.drop (min 12 ns.length)).take (min 63 ns.length - min 12 ns.length)).map D.int = _
    congr 1
    by_cases h : 12 ≤ ns.length
    · rw [Nat.min_eq_left h, Nat.min_eq_right hl, List.take_of_length_le (by rw [List.length_drop]; exact Nat.le_refl _)]
    · rw [List.drop_of_length_le (by omega), List.drop_of_length_le (by omega)]; simp
  obtain ⟨cs, y2, y3, e1, e2, e3⟩ := loop_open ns (ns.drop 12) (ns.take 12) 0 1 none none (fun h => by
    have : 12 < ns.length := by
      rcases Nat.lt_or_ge 12 ns.length with q | q
      · exact q
      · exact absurd (List.drop_of_length_le q) h
    rw [List.length_take]; omega) (fun z hz => hb z (List.mem_of_mem_drop hz)) (fun c hc => by rw [Nat.one_mul]; exact hb c (List.mem_of_mem_take hc))
  refine ⟨[some (.scr ns), some (.lst .t ((ns.take 12).map D.int)), none, none], cs, y2, y3, ?_, ?_, by rw [e1, List.length_take]; omega, fun c hc => ?_⟩
  · refine asg_eq (d := .lst .t ((ns.take 12).map D.int)) ?_ (noShr_ints _)
    show gList [fz (.lst .t (cutD (ns.map D.int) none (some 12)))] = _
    rw [c1]
    show Comp.ret (D.lst .t (fzL ((ns.take 12).map D.int))) = _
    rw [fzL_ints]
  · unfold c_open2 sForS
    have ei : iOf gEnum (aCons (eSl dSl (eVar 0) (oSome (eK (.int 12))) (oSome (eK (.int 63)))) aNil) (fzE [some (.scr ns), some (.lst .t ((ns.take 12).map D.int)), none, none]) = .ret (numbered 0 ((ns.drop 12).map D.int)) := by
      show gEnum [fz (.lst .t (cutD (ns.map D.int) (some 12) (some 63)))] = _
      rw [c2]
      show Comp.ret (numbered 0 (fzL ((ns.drop 12).map D.int))) = _
      rw [fzL_ints]
    rw [ei, try_ret]
    exact e3
  · have h1 := e2 c hc
    rw [List.length_drop] at h1
    have h2 : (1 + (ns.length - 12)) * bigS ≤ 64 * bigS := Nat.mul_le_mul_right _ (by omega)
    have h3 : 64 * bigS ≤ bigR := by
      unfold bigS bigR
      rw [show (64 : Nat) = 2 ^ 6 by rfl, ← Nat.pow_add]
      exact Nat.pow_le_pow_right (by decide) (by decide)
    omega
end Mid
namespace Mid
open PySem PySem.Spec PyProof.Rows L2
def spOpen (K : PySem.W.Frag) : Sp := fun vs H Q _ => ∃ (n : Nat) (a : Addr) (ns : List Int), vs = [.ref a] ∧ Fzn K H a (ns.map V.int) ∧ ns.length ≤ 63 ∧ (∀ z ∈ ns, z.natAbs < bigS) ∧ n ≤ bigA ∧ ∀ p c H', Mv none H (some (p, c)) H' → Pens (some (p, c)) n H' → Q (.ref p) H'
theorem RepL.intsV {K : PySem.W.Frag} {PN : Pn} {H : Hp} {Z : Addr → Prop} : ∀ {cs : List Int} {vs : List V} {fp : List Addr}, RepL K PN H Z vs (cs.map D.int) fp → vs = cs.map V.int
  | [], _, _, .nil => rfl
  | c :: cs, _, _, .cons r t => by
    cases r
    rw [RepL.intsV t]; rfl
structure OpenAt (P : Program) (w : World) (K : PySem.W.Frag) (mg : Str → Option Value) (base : Heap) (k : Nat) : Prop where
  ex : ∃ (f : Addr) (fd : FuncData) (ps : List Str), FnG P w K mg base k f fd ps (spOpen K) ∧ mg "_law_open" = some (.ref f) ∧ PySem.W.keepIn K (.ref f) = true ∧ Binds K fd ps []
section
variable {P : Program} {w : World} {K : PySem.W.Frag} {mg : Str → Option Value} {base : Heap}
theorem open_at {qual : Str} {params : Arguments} {bd : List Stmt} {scope : Scope} {kws : List (Str × V)} {f : Addr} {fd : FuncData} {N ps : List Str} {k : Nat} (F : FunD K "_law_open" qual params bd scope [] kws f fd) (S : FnScope N ps scope) (hm : mg "_law_open" = some (.ref f)) (hb : Binds K fd ps []) (h2 : ps.length = 1) (h5 : N.length = 4)
    (h : ∀ (cdv : Value) (A : Around) (outer : List PySem.Env) (s : Shared) (H : Hp) (E : XK), Fit k (Xf P w K mg base N qual scope f cdv A outer s H E) (Wf E) → PassesOwn (model P w) (Xf P w K mg base N qual scope f cdv A outer s H E).A (Xf P w K mg base N qual scope f cdv A outer s H E).env (Xf P w K mg base N qual scope f cdv A outer s H E).xe →
      PSs (Xf P w K mg base N qual scope f cdv A outer s H E) bd (tThen (Xf P w K mg base N qual scope f cdv A outer s H E) c_open1 (tThen (Xf P w K mg base N qual scope f cdv A outer s H E) c_open2 (tRet (tLst (tCons (tVar 1) (tCons (tC (.int 0)) (tCons (tC (.int 0)) tNil)))))))) : OpenAt P w K mg base (k + 1) := by
  refine ⟨f, fd, ps, gfn_of F S (fun vs H Q E q => ?_) fun cdv A outer s H vs Q E ft po q => ⟨_, h cdv A outer s H E ft po, ?_⟩, hm, F.kp, hb⟩
  · obtain ⟨n, a, ns, rfl, _⟩ := q
    exact h2.symm
  · obtain ⟨n, a, ns, rfl, fz0, hl, hbits, hn, hQ⟩ := q
    obtain ⟨ρ1, cs, y2, y3, e1, e2, hcl, hcb⟩ := open_pure hl hbits
    have est : L2.start N [.ref a] = [some (.ref a), none, none, none] := by
      unfold L2.start
      rw [h5]; rfl
    rw [est]
    refine ⟨⟨none, H, fun _ => False, none, H, fun _ => False, fun _ => none⟩, none, n, fun _ => False, [some (.scr ns), none, none, none], fun _ => none, ⟨.refl, fun _ q => q.elim, fun _ q => q.elim, ⟨fun _ _ q _ => q, fun _ _ q => q, fun _ _ _ q => q⟩, fun _ q => q, fun _ q => q, rfl, fun i d hd => ?_, fun x i q => (by cases q), fun i a d e => nomatch e⟩, ⟨hn, fun _ _ q => nomatch q⟩, ?_⟩
    · have hi : i = 0 := by
        rcases i with _ | _ | _ | _ | i
        · rfl
        · cases hd
        · cases hd
        · cases hd
        · cases hd
      subst hi
      cases hd
      exact ⟨.ref a, [], rfl, List.Pairwise.nil, fun _ q => (nomatch q), .scr fz0⟩
    · rw [e1]
      intro PN1 H1 Z1 σ1 o1 s1 p1
      refine ⟨_, PN1, n, Z1, ρ1, o1, s1, p1, ?_⟩
      rw [e2]
      intro PN2 H2 Z2 σ2 o2 s2 p2
      obtain ⟨v, f1, g1, g2, g3, g4⟩ := s2.slot 1 _ rfl
      cases g4 with
      | @own c ws _ fp _ _ hH r =>
        have ew := RepL.intsV r
        subst ew
        have oc := s2.own c 1 (g3 c List.mem_cons_self)
        refine ⟨_, g1, (show 3 ≤ sizeLine by decide), fun q nq => hQ q c _ ⟨(fun _ z => nomatch z), fun pc z => ?_, fun x u hx np => ?_, fun x hx => ?_⟩ ⟨hn, fun p' c' z => ?_⟩⟩
        · cases z
          exact .inr ⟨rfl, s2.mv.keep q nq, oc.1⟩
        · rw [upd_ne (ne_of_none hx (s2.mv.keep q nq))]
          exact s2.mv.ext x u hx fun _ _ z => nomatch z
        · by_cases z : x = q
          · rw [z]; exact s2.mv.keep q nq
          · rw [upd_ne z] at hx
            exact s2.mv.keep x hx
        · cases z
          have hA : bigA = 2 ^ 30 := rfl
          refine ⟨cs, 0, 0, upd_same, ?_, by omega, by omega, hcl, hcb, by omega, Nat.lt_of_lt_of_le (by decide : (0 : Int).natAbs < 2 ^ 64) bigR_ge⟩
          rw [upd_ne (fun z => by rw [z, nq] at hH; cases hH)]
          exact hH
theorem pe_open {X : Cx} {W : WX} {k k' : Nat} {x : Str} {p p2 pos : Pos} (ft : Fit k X W) (O : OpenAt X.prog X.w X.K X.mg X.base k') (hk : k' ≤ k) (hN : X.N[0]? = some x := by rfl) (hv : Vis X.env.scope x := by first | exact Or.inl rfl | exact Or.inr (Or.inl rfl) | exact Or.inr (Or.inr rfl)) (hg : Gl X "_law_open" := by rfl) (he : starEach [.Name x p2] X.env = (false, eval (.Name x p2) X.env) :: starEach [] X.env := by rfl) (hpl : (backTo pos (starEach [] X.env)).any (·.1) = false := by rfl)
    (hd : (x == ("__debug__" : Str)) = false := by decide) (hcd : (x == ("__classdict__" : Str)) = false := by decide) :
    PE X (.Call (.Name "_law_open" p) [.Name x p2] [] pos) (tCallG (spOpen X.K) W (tCons (tVar 0) tNil)) := by
  obtain ⟨f, fd, ps, G, h1, h2, h3⟩ := O.ex
  exact pe_callG (G.mono hk) ft.rm ft.ca hg h1 h2 h3 ft.tk (pa_cons (pe_var hN hv hd hcd) pa_nil he) (by decide) he hpl
theorem ps_pen {X : Cx} {y : Str} {e : Expr} {te : TE} {pos pos' : Pos} (hN : X.N.Nodup) (he : PE X e te) (hi : X.N[1]? = some y := by rfl) (hx : Loc X.env.scope y := by first | exact Or.inl rfl | exact Or.inr rfl) (hs : swapsWith e (some (.Name y pos')) pos.line X.env = pure false := by rfl)
    (hf : X.fn y = true ∨ X.env.scope.names.lookup y = some .local := by first | exact .inl rfl | exact .inr rfl) : PS X (.Assign [.Name y pos'] e pos) (tAsg te (gName 1)) := ps_set hN hi hx he hs hf
def lawE (n : Nat) : Env := none :: some .pen :: List.replicate (n - 2) none
/-- a def's reading that answers True -/
def Good (c : Env → Comp (Fl × Env)) (n : Nat) (budget : Nat) : Prop := (c (lawE n)).all (fun _ r => match r.1 with
  | .rt d => d = .bl true
  | _ => False) NoErr budget
def spLaw (K : PySem.W.Frag) : Sp := fun vs H Q _ => ∃ (a : Addr) (ns : List Int), vs = [.ref a] ∧ Fzn K H a (ns.map V.int) ∧ ns.length ≤ 63 ∧ (∀ z ∈ ns, z.natAbs < bigS) ∧ ∀ H', Q (.bl true) H'
theorem law_fn {x qual : Str} {params : Arguments} {bd : List Stmt} {scope : Scope} {kws : List (Str × V)} {f : Addr} {fd : FuncData} {N ps : List Str} {k b : Nat} {c : Env → Comp (Fl × Env)} (F : FunD K x qual params bd scope [] kws f fd) (S : FnScope N ps scope) (h2 : ps.length = 1) (h5 : 2 ≤ N.length) (hb : b ≤ bigA) (good : Good c N.length b)
    (h : ∀ (cdv : Value) (A : Around) (outer : List PySem.Env) (s : Shared) (H : Hp) (E : XK), Fit k (Xf P w K mg base N qual scope f cdv A outer s H E) (Wf E) → PassesOwn (model P w) (Xf P w K mg base N qual scope f cdv A outer s H E).A (Xf P w K mg base N qual scope f cdv A outer s H E).env (Xf P w K mg base N qual scope f cdv A outer s H E).xe →
      PSs (Xf P w K mg base N qual scope f cdv A outer s H E) bd (tSeq (tAsg (tCallG (spOpen K) (Wf E) (tCons (tVar 0) tNil)) (gName 1)) (sPre (Xf P w K mg base N qual scope f cdv A outer s H E) (Wf E) c))) : FnG P w K mg base (k + 1) f fd ps (spLaw K) := by
  refine gfn_of F S (fun vs H Q E q => ?_) fun cdv A outer s H vs Q E ft po q => ⟨_, h cdv A outer s H E ft po, ?_⟩
  · obtain ⟨a, ns, rfl, _⟩ := q
    exact h2.symm
  · obtain ⟨a, ns, rfl, fz0, hl, hbits, hQ⟩ := q
    obtain ⟨n, hn⟩ : ∃ n, N.length = n + 2 := ⟨N.length - 2, by omega⟩
    have est : L2.start N [.ref a] = some (.ref a) :: none :: List.replicate n none := by
      unfold L2.start
      rw [hn]; rfl
    rw [est]
    refine ⟨_, rfl, b, a, ns, rfl, fz0, hl, hbits, hb, fun p cc H' mv pens => ?_⟩
    refine ⟨⟨some (p, cc), H', fun _ => False, some (p, cc), H', fun _ => False, fun _ => none⟩, some (p, cc), b, fun _ => False, lawE N.length, fun _ => none, ⟨.refl, fun _ q => q.elim, fun _ q => q.elim, ⟨fun _ _ q _ => q, fun _ _ q => q, fun _ _ _ q => q⟩, fun _ q => q, fun _ q => q, ?_, fun i d hd => ?_, fun x i q => (by cases q), fun i a d e => nomatch e⟩, pens, ?_⟩
    · unfold lawE
      rw [hn]
      simp
    · unfold lawE at hd
      rcases i with _ | _ | i
      · cases hd
      · cases hd
        exact ⟨.ref p, [], rfl, List.Pairwise.nil, fun _ q => (nomatch q), .pen rfl⟩
      · exfalso
        have hd' : (List.replicate (N.length - 2) (none : Option D))[i]? = some (some d) := hd
        rw [List.getElem?_replicate] at hd'
        split at hd' <;> cases hd'
    · refine Comp.all_mono (fun m r q => ?_) (fun _ _ _ q => q) good
      obtain ⟨fl, ρ'⟩ := r
      cases fl with
      | rt d =>
        have e : d = .bl true := q
        subst e
        intro v PN' H2 ev
        obtain ⟨_, fp, Z1, _, _, _, _, _, rr⟩ := RtOk.ev ev
        cases rr
        exact hQ H2
      | _ => exact q.elim
end
theorem bits_big {z : Int} (h : Builtin.Int.intBits z ≤ 1048576) : z.natAbs < bigS := by
  unfold Builtin.Int.intBits at h
  have hp : 0 < bigS := Nat.pow_pos (by decide)
  by_cases hz : z = 0
  · subst hz
    exact hp
  · have hb : (z == 0) = false := by simpa using hz
    rw [hb, if_neg (by decide)] at h
    have h1 : z.natAbs.log2 < 1048577 := by omega
    exact (Nat.log2_lt (by omega)).mp h1
/-- the law's def is called at the ground -/
theorem law_at {P : Program} {w : World} {K : PySem.W.Frag} {mg mb : Str → Option Value} {k : Nat} {fa la : Addr} {fd : FuncData} {x : Str} {t : Shared} {us : List Value} {ns : List Int} (kin : K.In t.heap) (gl : t.heap.Ns mainGlobals mg) (bl : t.heap.Ns builtinsNs mb) (bb : ∀ x : Str, x ≠ "__name__" → mb x = bootBuiltins x) (lim : t.heap.NoLimit) (ng : t.gens = #[])
    (hla : t.heap.get? la = some { cls := .type "list", data := .seq us.toArray }) (areI : IntsAre us ns) (h63 : ns.length ≤ 63) (hbits : ∀ z ∈ ns, Builtin.Int.intBits z ≤ 1048576) (rm : Room k callerA) (hbind : ∀ (s : Shared) (u : Value), BindsTo s fd ⟨[u], []⟩ [(x, u)])
    (G : ∀ base : Heap, K.In base → base.Ns mainGlobals mg → FnG P w K mg base k fa fd [x] (spLaw K)) :
    codeAny (model P w) callerA (.call (.ref fa) ⟨[.ref la], []⟩) (fun r t' => r = .ok (.ret (.bool true)) ∧ OldK t.heap t'.heap ∧ t'.os = t.os ∧ AllBare t'.gens) t := by
  have vals := vals_ints areI
  have lens := areI.length
  have hsz : ns.length ≤ sizeLine := Nat.le_trans h63 (by decide)
  have main : ∀ H : Hp, (∀ b, H b = none ∨ ∃ o, H b = some (.frz o (.lst (ns.map V.int)))) → Fzn K H la (ns.map V.int) → HOk P w H t.heap → (∀ b, H b ≠ none → b = la) → (H la ≠ none → K.lookup la = none) →
      codeAny (model P w) callerA (.call (.ref fa) ⟨[.ref la], []⟩) (fun r t' => r = .ok (.ret (.bool true)) ∧ OldK t.heap t'.heap ∧ t'.os = t.os ∧ AllBare t'.gens) t := by
    intro H only fzn ok at_ noK
    have back : ∀ {b : Addr} {o : Obj}, t.heap.get? b = some o → H b = none → (hidT t.heap H).get? b = some o := hidT_get
    have dicts : ∀ {b : Addr} {o : Obj} {es : Array DictEntry} {ep : Nat}, t.heap.get? b = some o → o.data = .dict es ep → H b = none := by
      intro b o es ep e d
      by_cases q : H b = none
      · exact q
      · rw [at_ b q, hla] at e
        cases e
        cases (show Data.seq us.toArray _ = Data.dict es ep from d)
    have names : ∀ {b : Addr} {m : Str → Option Value}, t.heap.Ns b m → (hidT t.heap H).Ns b m := by
      rintro b m ⟨o, es, ep, e, d, r⟩
      exact ⟨o, es, ep, back e (dicts e d), d, r⟩
    have kin' : K.In (hidT t.heap H) := by
      intro b o e
      refine back (kin b o e) ?_
      by_cases q : H b = none
      · exact q
      · have e' := at_ b q
        rw [e'] at q e
        rw [noK q] at e
        cases e
    have md : Mod K mg (hidT t.heap H) := by
      obtain ⟨mc, l1, l2⟩ := lim
      exact ⟨kin', names gl, ⟨mb, names bl, bb⟩, mc, names l1, l2⟩
    have ground : Env0 P w K mg (hidT t.heap H) callerA [] t H :=
      ⟨rfl, md, fun _ _ e => of_hidT e, Nat.le_of_eq (hidT_size _ _), trivial, fun b q => absurd (show b ∈ ([] : List Addr) from q) (by simp), ok, .of_eq ng⟩
    have pre : spLaw K [.ref la] H (fun v _ => v = .bl true) (fun _ _ _ => False) := ⟨la, ns, rfl, fzn, h63, fun z hz => bits_big (hbits z hz), fun _ => rfl⟩
    refine codeAny_mono ((G _ kin' (names gl)).go callerA [] t H ⟨[.ref la], []⟩ [.ref la] [.ref la] _ _ rm rfl ground (hbind t (.ref la)) (.cons rfl .nil) pre) ?_
    intro r t' res
    match r, res with
    | .error e, res =>
      obtain ⟨_, _, _, _, _, _, _, _, _, _, _, _, q⟩ := res
      exact q.elim
    | .ok .next, res => exact False.elim res
    | .ok .brk, res => exact False.elim res
    | .ok .cont, res => exact False.elim res
    | .ok (.ret u), res =>
      obtain ⟨v, H', hos, hbare, un, ok', rel, ev⟩ := res
      have ev' : v = .bl true := ev
      subst ev'
      have eu : u = Value.bool true := rel
      subst eu
      refine ⟨rfl, OldK.of_keep fun b o e => ?_, hos, hbare⟩
      rcases only b with q | ⟨ob, q⟩
      · exact un.keep b o e q (by intro z; exact absurd (show b ∈ ([] : List Addr) from z) (by simp)) (by simp)
      · have q2 := un.frzs b ob _ q
        have e1 := (ok b _ q).1
        have e2 := (ok' b _ q2).1
        rw [e] at e1
        cases e1
        exact e2
  match hk : K.lookup la with
  | some o =>
    have e := kin la o hk
    rw [hla] at e
    cases e
    refine main (fun _ => none) (fun _ => .inl rfl) (.inr ⟨_, us.toArray, _, hk, rfl, rfl, rfl, ?_, by simpa using vals⟩) (fun b u z => by cases (show (none : Option HO) = some u from z)) (fun _ z => absurd rfl z) (fun z => absurd rfl z)
    rw [List.size_toArray, lens]
    exact hsz
  | none =>
    let ob : Obj := { cls := .type "list", data := .seq us.toArray }
    refine main (fun b => if b = la then some (.frz ob (.lst (ns.map V.int))) else none) (fun b => ?_) (.inl ⟨ob, if_pos rfl⟩) (fun b u z => ?_) (fun b z => ?_) (fun _ => hk)
    · by_cases e : b = la
      · exact .inr ⟨ob, if_pos e⟩
      · exact .inl (if_neg e)
    · by_cases e : b = la
      · have z' := (if_pos e).symm.trans z
        cases z'
        rw [e]
        exact ⟨hla, by rw [List.length_map]; exact hsz, us, _, vals, hla⟩
      · cases (if_neg e).symm.trans z
    · by_cases e : b = la
      · exact e
      · exact absurd (if_neg e) z
theorem walk_mid {l : PySem.W.OpenLaw} {k : Nat} {q : Program} {loose : List Str} {XP : (Str → Option Value) → Heap → Prop} {YP : World → Heap → Prop} {d : DefRec} {x : Str} (hm : l.most = some 63) (hdf : d.params.defaults = []) (rm : Room k callerA)
    (F : ∀ (w : World) (mg : Str → Option Value) (fa : Addr) (h : Heap), YP w h → h.Ns mainGlobals mg → mg d.name = some (.ref fa) →
      ∃ (K : PySem.W.Frag) (fd : FuncData), K.In h ∧ (∀ (s : Shared) (u : Value), BindsTo s fd ⟨[u], []⟩ [(x, u)]) ∧ ∀ base : Heap, K.In base → base.Ns mainGlobals mg → FnG l.prog w K mg base k fa fd [x] (spLaw K)) :
    PySem.W.WalkO q loose XP YP l.row.toRowW d [] (fun f vs => PySem.call f vs) := by
  refine Att.attach_callB hm hdf ?_
  intro w s0 t mg mb fa o pm cd doc la us ns G Y _ _ _ hmg hobj areI h63 hbits ng
  obtain ⟨K, fd, kin, hb, hF⟩ := F w mg fa _ Y G.T.g hmg
  exact law_at kin G.T.g G.T.b G.T.builtins G.T.nolimit ng hobj areI h63 hbits rm hb hF
end Mid
namespace Mid
open PySem PySem.Spec PyProof.Rows L2
section
variable {X : Cx} {W : WX} {vs : List Nat}
def findD (d : D) (ds : List D) : Option Nat := ds.findIdx? fun z => PyData.eqv (pyD z) (pyD d)
def gIdx : D → D → Comp D
  | .tup ds, d => if okD d && okD (.tup ds) then (match findD d ds with
    | some j => .ret (.int (j : Int))
    | none => .stuck) else .stuck
  | .lst _ ds, d => if okD d && okD (.lst .t ds) then (match findD d ds with
    | some j => .ret (.int (j : Int))
    | none => .stuck) else .stuck
  | _, _ => .stuck
def seqD : D → Bool
  | .tup _ => true
  | .lst _ _ => true
  | _ => false
def eIdx (f g : Env → Comp D) : Env → Comp D := fun ρ => (f ρ).bind fun d => if seqD (fz d) then (g ρ).bind fun e => gIdx (fz d) (fz e) else .stuck
end
end Mid
namespace Mid
open PySem PySem.Spec PyProof.Rows L2
section
variable {X : Cx} {W : WX} {vs : List Nat}
inductive CV : V → D → Prop
  | int {i} : CV (.int i) (.int i)
  | str {i} : CV (.str i) (.str i)
  | bl {i} : CV (.bl i) (.bl i)
  | non : CV .non .non
inductive CVs : List V → List D → Prop
  | nil : CVs [] []
  | cons {v d vs ds} : CV v d → CVs vs ds → CVs (v :: vs) (d :: ds)
theorem CV.rep {K : PySem.W.Frag} {PN : Pn} {H : Hp} {Z : Addr → Prop} {v : V} {d : D} (h : CV v d) : Rep K PN H Z v d [] := by
  cases h
  · exact .int
  · exact .str
  · exact .bl
  · exact .non
theorem CVs.rep {K : PySem.W.Frag} {PN : Pn} {H : Hp} {Z : Addr → Prop} : ∀ {vs : List V} {ds : List D}, CVs vs ds → RepL K PN H Z vs ds []
  | _, _, .nil => .nil
  | _, _, .cons h t => .cons (f := []) h.rep (CVs.rep t)
theorem CVs.length : ∀ {vs : List V} {ds : List D}, CVs vs ds → vs.length = ds.length
  | _, _, .nil => rfl
  | _, _, .cons _ t => congrArg Nat.succ (CVs.length t)
/-- a new dict of what is there -/
theorem Ev.dct {K : PySem.W.Frag} {PN : Pn} {H : Hp} {Z : Addr → Prop} {m : Nat} {ks : List Key} {us : List V} {ds : List D} {p : Addr} (hp : H p = none) (hl : ks.length = us.length) (ps : Pens PN m H) (z : Zk PN Z H) (r : RepL K PN H Z us ds []) : Ev K PN H Z m (.ref p) (.dct .t ks ds) PN (upd H p (.dK (ks.zip us))) := by
  have mv : Mv PN H PN (upd H p (.dK (ks.zip us))) := .laid hp
  have s : Sh K PN H Z m PN (upd H p (.dK (ks.zip us))) Z := ⟨mv, ps.laid hp, z.step mv, fun _ h => h, fun _ h => .inl h⟩
  refine ⟨rfl, [p], Z, mv, s.pens, (List.nodup_cons.mpr ⟨fun h => (nomatch h), List.Pairwise.nil⟩), fun a ha => ?_, fun a ha => ⟨.inl ha, fun q => ?_, (s.zk a ha).2, (s.zk a ha).1⟩, .down (by decide) upd_same hl (r.step s ps z)⟩
  · have e := List.mem_singleton.mp ha
    subst e
    exact ⟨hp, ps.tracked hp, by rw [upd_same]; simp⟩
  · have e := List.mem_singleton.mp q
    subst e
    exact (z a ha).1 hp
def eDct (ks : List Key) (ds : List D) : Env → Comp D := fun _ => .ret (.dct .t ks ds)
end
end Mid
namespace Mid
open PySem PySem.Spec PyProof.Rows L2
theorem SOk.wipe {K : PySem.W.Frag} {B : Bs} {PN : Pn} {H : Hp} {Z : Addr → Prop} {ρ : Env} {σ : L2.St} {o : Addr → Option Nat} (ks : List Nat) (s : SOk K B PN H Z ρ σ o) : SOk K B PN H Z (wipeE ρ ks) σ o :=
  ⟨s.mv, s.zk, s.z0, s.old, s.pold, s.zold, by rw [wipeE_length]; exact s.len, fun i d h => s.slot i d (wipeE_some h).1, s.own, fun i a d hi h hb => s.fix i a d hi (wipeE_some h).1 hb⟩
/-- the names ks are forgotten behind it -/
def sK (ks : List Nat) (f : Env → Comp (Fl × Env)) : Env → Comp (Fl × Env) := fun ρ => (f ρ).bind fun r => .ret (r.1, wipeE r.2 ks)
section
variable {X : Cx} {W : WX} {vs : List Nat}
theorem svs_k {f : Env → Comp (Fl × Env)} {st : List Stmt} (ks : List Nat) (h : SVs X W f st) : SVs X W (sK ks f) st := by
  refine pssW h fun D' σ H h => ?_
  obtain ⟨B, PN, n, Z, ρ, o, s, p, h⟩ := h
  rw [sK, Comp.all_bind] at h
  refine ⟨B, PN, n, Z, ρ, o, s, p, Comp.all_mono (fun m r h => ?_) (fun _ _ _ h => h) h⟩
  obtain ⟨fl, ρ'⟩ := r
  cases fl with
  | nx => exact fun PN' H' Z' σ' o' s' p' => h PN' H' Z' σ' o' (s'.wipe ks) p'
  | bk => exact fun PN' H' Z' σ' o' s' p' => h PN' H' Z' σ' o' (s'.wipe ks) p'
  | ct => exact fun PN' H' Z' σ' o' s' p' => h PN' H' Z' σ' o' (s'.wipe ks) p'
  | rt d => exact fun v PN' H' ev => h v PN' H' (by
      obtain ⟨hb, σ9, Z9, o9, f9, s9, p9, r9⟩ := ev
      exact ⟨hb, σ9, Z9, o9, f9, s9.wipe ks, p9, r9⟩)
  | er c x => exact fun od PN' H' Z' σ' o' s' p' e => h od PN' H' Z' σ' o' (s'.wipe ks) p' e
end
end Mid
namespace Mid
open PySem PySem.Spec PyProof.Rows L2
def sExt (i : Nat) (vs : List Nat) (f : Env → Comp D) : Env → Comp (Fl × Env) := fun ρ => match ownAt ρ i with
  | some _ => run vs f ρ fun d => match d with
    | .lst .t ys => match ownAt (upE vs (.lst .t ys) ρ) i with
      | some (w, xs) => if xs.length + ys.length ≤ sizeLine then .ret (.nx, (upE vs (.lst .t ys) ρ).set i (some (.lst w (xs ++ ys)))) else .stuck
      | none => .stuck
    | _ => .stuck
  | none => .stuck
end Mid
namespace Mid
open PySem PySem.Spec PyProof.Rows L2
def sortI (ns : List Int) : List Int := ns.mergeSort fun a b => decide (a ≤ b)
theorem sortI_perm (ns : List Int) : (sortI ns).Perm ns := List.mergeSort_perm ns _
theorem sortI_le (ns : List Int) : (sortI ns).Pairwise (· ≤ ·) := by
  have h := List.pairwise_mergeSort (le := fun a b : Int => decide (a ≤ b)) (fun a b c h1 h2 => decide_eq_true (Int.le_trans (of_decide_eq_true h1) (of_decide_eq_true h2))) (fun a b => by
    rcases Int.le_total a b with h | h
    · rw [decide_eq_true h]; rfl
    · rw [decide_eq_true h, Bool.or_true]) ns
  exact h.imp fun q => of_decide_eq_true q
theorem sortI_uniq {ns ns' : List Int} (h1 : ns'.Perm ns) (h2 : ns'.Pairwise (· ≤ ·)) : ns' = sortI ns :=
  List.Perm.eq_of_pairwise (le := (· ≤ ·)) (fun a b _ _ x y => Int.le_antisymm x y) h2 (sortI_le ns) (h1.trans (sortI_perm ns).symm)
end Mid
namespace Mid
open PySem PySem.Spec PyProof.Rows L2
def gLR : D → Comp D
  | .int n => if -(2 ^ 62) ≤ n ∧ n < 2 ^ 24 then .ret (.lst .t (rangeL 0 n.toNat)) else .stuck
  | _ => .stuck
end Mid
namespace Mid
open PySem PySem.Spec PyProof.Rows L2
section
variable {X : Cx}
def gSrt : List D → Comp D
  | [.lst _ xs] => match intsOf xs with
    | some ns => .ret (.lst .t ((sortI ns).map D.int))
    | none => .stuck
  | [.tup xs] => match intsOf xs with
    | some ns => .ret (.lst .t ((sortI ns).map D.int))
    | none => .stuck
  | _ => .stuck
end
end Mid
namespace Mid
open PySem PySem.Spec PyProof.Rows L2
end Mid
namespace Mid
open PySem PySem.Spec PyProof.Rows L2
end Mid
namespace Mid
open PySem PySem.Spec PyProof.Rows L2
section
variable {K : PySem.W.Frag} {B : Bs} {PN PN' : Pn} {H H' : Hp} {Z Z' : Addr → Prop} {ρ ρ' : Env} {σ σ' : L2.St} {o o' : Addr → Option Nat} {m n : Nat} {vs : List Nat}
/-- a slot's value is taken out, what it owns with it -/
theorem SOk.take (s : SOk K B PN H Z ρ σ o) {i : Nat} {d : D} (e : ρ[i]? = some (some d)) : ∃ v f o', σ[i]? = some (some v) ∧ SOk K B PN H Z (ρ.set i none) σ o' ∧ f.Nodup ∧ (∀ a ∈ f, B.h a = none ∧ ¬ Z a ∧ NP PN a ∧ H a ≠ none ∧ ∀ j, o' a ≠ some j) ∧ Rep K PN H Z v d f := by
  obtain ⟨v, f, h1, h2, h3, h4⟩ := s.slot i d e
  refine ⟨v, f, fun a => if o a = some i then none else o a, h1, ⟨s.mv, s.zk, s.z0, s.old, s.pold, s.zold, by simp [s.len], fun j e he => ?_, fun a j ha => ?_, fun j a e hj he hbe => ?_⟩, h2, fun a ha => ?_, h4⟩
  · by_cases hj : i = j
    · subst hj
      have hl : i < ρ.length := by
        have := (List.getElem?_eq_some_iff.mp he).1
        simpa using this
      rw [List.getElem?_set_self hl] at he
      cases he
    · rw [List.getElem?_set_ne hj] at he
      obtain ⟨u, g, g1, g2, g3, g4⟩ := s.slot j e he
      exact ⟨u, g, g1, g2, fun a ha => by rw [if_neg (by rw [g3 a ha]; simpa using fun q => hj q.symm)]; exact g3 a ha, g4⟩
  · split at ha
    · cases ha
    · exact s.own a j ha
  · by_cases hj2 : i = j
    · subst hj2
      have hl : i < ρ.length := by
        have := (List.getElem?_eq_some_iff.mp he).1
        simpa using this
      rw [List.getElem?_set_self hl] at he
      cases he
    · rw [List.getElem?_set_ne hj2] at he
      exact s.fix j a e hj he hbe
  · obtain ⟨q1, q2, q3, q4⟩ := s.own a i (h3 a ha)
    exact ⟨q1, q2, q3, q4, fun j hj => by
      have hj' : (if o a = some i then none else o a) = some j := hj
      rw [if_pos (h3 a ha)] at hj'
      cases hj'⟩
end
end Mid
namespace Mid
open PySem PySem.Spec PyProof.Rows L2
end Mid
namespace Mid
open PySem PySem.Spec PyProof.Rows L2
end Mid
namespace Mid
open PySem PySem.Spec PyProof.Rows L2
/-- names = a list that stands still -/
def tLst (n : Nat) (ts : List D → Env → Option Env) : Tg := fun d ρ => match d with
  | .lst .f ds => if ds.length = n then ts ds ρ else none
  | _ => none
end Mid
namespace Mid
open PySem PySem.Spec PyProof.Rows L2
section
variable {K : PySem.W.Frag} {B : Bs} {PN : Pn} {H : Hp} {Z : Addr → Prop} {ρ : Env} {σ : L2.St} {o : Addr → Option Nat} {n : Nat}
theorem SOk.free (s : SOk K B PN H Z ρ σ o) {r : Nat} {v : V} (hr : ∀ d, ρ[r]? ≠ some (some d)) : SOk K B PN H Z ρ (σ.set r (some v)) o where
  mv := s.mv
  zk := s.zk
  z0 := s.z0
  old := s.old
  pold := s.pold
  zold := s.zold
  len := by rw [List.length_set]; exact s.len
  slot := fun j d hd => by
    have hj : r ≠ j := fun e => hr d (by rw [e]; exact hd)
    rw [List.getElem?_set_ne hj]
    exact s.slot j d hd
  own := s.own
  fix := fun j a d hj hd hb => by
    have hjr : r ≠ j := fun e => hr d (by rw [e]; exact hd)
    rw [List.getElem?_set_ne hjr]
    exact s.fix j a d hj hd hb
/-- an own list of slot i: where it lies -/
theorem SOk.list (s : SOk K B PN H Z ρ σ o) {i : Nat} {w : Ow} {xs : List D} (e : ρ[i]? = some (some (.lst w xs))) (hw : w ≠ .f) : ∃ a ws, σ[i]? = some (some (.ref a)) ∧ H a = some (.lst ws) ∧ ws.length = xs.length ∧ o a = some i ∧ ∃ fp, RepL K PN H Z ws xs fp ∧ ∀ b ∈ fp, o b = some i := by
  obtain ⟨v, f, h1, h2, h3, h4⟩ := s.slot i _ e
  cases h4 with
  | shr => exact absurd rfl hw
  | own ho hH r =>
    rename_i a ws fp
    exact ⟨a, ws, h1, hH, r.length, h3 a List.mem_cons_self, fp, r, fun b hb => h3 b (List.mem_cons_of_mem _ hb)⟩
end
end Mid
namespace ZS
open PySem
open PySem.Sem (wp)
def IterK (kd : Bool) (h : Heap) (it l : Addr) (k : Nat) : Prop := match kd with
  | true => h.IsListIter it l k
  | false => h.IsTupleIter it l k
theorem IterK.at {kd : Bool} {h h' : Heap} {it l : Addr} {k : Nat} (q : IterK kd h it l k) (e : ∀ o, h.get? it = some o → h'.get? it = some o) : IterK kd h' it l k := by
  cases kd
  · exact Heap.IsTupleIter.at q e
  · exact Heap.IsListIter.at q e
theorem IterK.there {kd : Bool} {h : Heap} {it l : Addr} {k : Nat} (q : IterK kd h it l k) : ∃ o, h.get? it = some o ∧ o.data = .fields #[.ref l, .int k 0] := by
  cases kd
  · obtain ⟨o, h1, h2, h3⟩ := q; exact ⟨o, h1, h3⟩
  · obtain ⟨o, h1, h2, h3⟩ := q; exact ⟨o, h1, h3⟩
end ZS
namespace Mid
open PySem PySem.Spec PyProof.Rows L2
end Mid
namespace Mid
open PySem PySem.Spec PyProof.Rows L2
open Builtin.SmallTypes (ownedTupleIsFree ownedTupleHandOut nextOf)
end Mid
namespace Mid
open PySem PySem.Spec PyProof.Rows L2
section
variable {X : Cx} {W : WX} {vs : List Nat}
def gEnumZip : List D → Comp (List D)
  | [.tup ds, .tup es] => .ret (numbered 0 (pairs ds es))
  | _ => .stuck
end
end Mid
namespace Mid
open PySem PySem.Spec PyProof.Rows L2
def strAll : List Value → List Str → Bool
  | [], [] => true
  | .str x _ :: vs, y :: ys => decide (x = y) && strAll vs ys
  | _, _ => false
def tupD : Data → List Str → Bool
  | .seq its _, ys => decide (its.size ≤ sizeLine) && strAll its.toList ys
  | _, _ => false
def tupO (o : Obj) (ys : List Str) : Bool := (match o.cls with
  | .type T => decide (T = "tuple")
  | _ => false) && (o.dict.isNone && tupD o.data ys)
def tupN (K : PySem.W.Frag) (x : Str) (ys : List Str) : Bool := match K.lookup (He.ga K x) with
  | some o => tupO o ys
  | none => false
end Mid
namespace Mid
open PySem PySem.Spec PyProof.Rows L2
section
variable {X : Cx} {pins : List (Addr × Obj)} {σ : L2.St} {H : Hp} {s : Shared}
/-- an object that nothing knew of is known from now on, as it stands -/
theorem adopt (I : Inv X pins σ H s) {a : Addr} {oe : Obj} {fv : Array Value} (ha : s.heap.get? a = some oe) (hd : oe.data = .fields fv) (na : H a = none) (n0 : X.s_0.heap.get? a = none) (hp : ∀ p ∈ X.pn ++ pins, p.1 ≠ a) (nL : a ≠ X.env.locals) :
    Inv X pins σ (upd H a (.frz oe (.own a))) s := by
  have ne0 : ∀ b u, X.s_0.heap.get? b = some u → b ≠ a := fun b u e z => by subst z; rw [n0] at e; cases e
  have neH : ∀ b u, H b = some u → b ≠ a := fun b u e z => by subst z; rw [na] at e; cases e
  refine ⟨I.ok, I.os, I.bare, ⟨I.base.keep, I.base.slot, fun b u e n q => by rw [upd_ne (ne0 b u e)]; exact I.base.free b u e n q, I.base.there, fun b xs e => ?_, fun b u xs e => ?_, fun b ps e => ?_⟩, I.loc, I.cell, by rw [upd_ne nL.symm]; exact I.free, fun x c e => ?_, fun p q => ?_, fun b u e => ?_, I.len⟩
  · have z := I.base.tups b xs e
    rw [upd_ne (neH _ _ z)]; exact z
  · have z := I.base.frzs b u xs e
    rw [upd_ne (neH _ _ z)]; exact z
  · obtain ⟨m, z⟩ := I.base.tbls b ps e
    exact ⟨m, by rw [upd_ne (neH _ _ z)]; exact z⟩
  · have : c ≠ a := fun z => by
      subst z
      obtain ⟨v, o, h1, h2⟩ := I.cell x c e
      rw [ha] at h1; cases h1
      rw [hd] at h2; cases h2
    rw [upd_ne this]; exact I.freeC x c e
  · obtain ⟨h1, h2, h3⟩ := I.pin p q
    exact ⟨h1, by rw [upd_ne (hp p q)]; exact h2, h3⟩
  · by_cases hb : b = a
    · subst hb
      rw [upd_same] at e
      cases e
      exact ⟨ha, ⟨oe, ha⟩⟩
    · rw [upd_ne hb] at e
      exact (I.hok b u e).stay (fun _ _ _ q => q) (fun c q => by rw [upd_ne (neH _ _ q)]; exact q) fun c xs q => by rw [upd_ne (neH _ _ q)]; exact q
end
end Mid
namespace Mid
open PySem PySem.Spec PyProof.Rows L2
/-- what is known of a class of errors -/
structure ExcF (K : PySem.W.Frag) (mg : Str → Option Value) (x : Str) : Prop where
  ex : PySem.W.excIn K (He.ga K x) He.veBase "ValueError.__new__" = true
  kp : PySem.W.keepIn K (.ref (He.ga K x)) = true
  sb : PySem.W.subIn K (.ref (He.ga K x)) (.type "BaseException") = some true
  ty : PySem.W.typeIn K (.ref (He.ga K x)) = some (.type "type")
  g : mg x = some (.ref (He.ga K x))
section
variable {X : Cx} {W : WX} {vs : List Nat}
/-- which errors the clause takes, of those that are known -/
abbrev Errs := List (Str × Bool)
def takeE (i j : Nat) (es : Errs) : Fl × Env → Comp (Fl × Env) := fun r => match r with
  | (.er c ds, ρ) => (match es.lookup c with
    | some true => .ret (.nx, (((ρ.set i none).set j (some (.exc c ds))).set i none))
    | some false => .ret (.er c ds, ρ)
    | none => .stuck)
  | r => .ret r
def sTryK (i j : Nat) (es : Errs) (f : Env → Comp (Fl × Env)) : Env → Comp (Fl × Env) := fun ρ => (f ρ).bind (takeE i j es)
end
end Mid
namespace Mid
open PySem PySem.Spec PyProof.Rows L2
/-- what of the text an error's class must have -/
def excCB (K : PySem.W.Frag) (c : Str) : Bool := (PySem.W.clsIn K (He.ga K c)).isSome && decide (PySem.W.findIn K (.ref (He.ga K c)) "__getattribute__" = some (some (.builtin "BaseException.__getattribute__"))) && (PySem.W.findIn K (.ref (He.ga K c)) "__getattr__").isSome &&
  decide (PySem.W.subIn K (.ref (He.ga K c)) (.type "BaseException") = some true) && decide (PySem.W.findIn K (.ref (He.ga K c)) "__class__" = some (some (.builtin "object.__class__"))) && decide (PySem.W.mroIn K (He.ga K c) (.type "object") = some true)
def excGB (K : PySem.W.Frag) : Bool := decide (PySem.W.specialIn K (.builtin "object.__class__") "__get__" = some (some (.builtin "getset_descriptor.__get__"))) && decide (PySem.W.takesIn K (.builtin "object.__class__") = some true)
theorem kitx_err {K : PySem.W.Frag} {c : Str} {x : Addr} {ox : Obj} {od : Option Obj} (h : excCB K c = true) (g : excGB K = true) : PySem.W.KitX K (.ref x) (.ref (He.ga K c)) (fun h => PySem.W.InstAt h x ox (He.ga K c) od) := by
  simp only [excCB, excGB, Bool.and_eq_true, decide_eq_true_eq] at h g
  obtain ⟨⟨⟨⟨⟨h1, h2⟩, h3⟩, h4⟩, h5⟩, h6⟩ := h
  obtain ⟨gt, h3⟩ := Option.isSome_iff_exists.mp h3
  exact PySem.W.kitx_exc h1 h2 h3 h4 h5 g.1 g.2 h6
/-- an error's object, and its dict's -/
theorem err_inst {X : Cx} {pins : List (Addr × Obj)} {σ : L2.St} {H : Hp} {s : Shared} (I : Inv X pins σ H s) {a C : Addr} {d : Option Addr} (h : ExcAt H a C d) (hd : ∀ dd, d = some dd → ∃ fs, H dd = some (.xd fs)) :
    ∃ ox od, PySem.W.InstAt s.heap a ox C od ∧ ∀ dd fs, d = some dd → H dd = some (.xd fs) → ∃ (o : Obj) (mA : Str → Option Value), od = some o ∧ (∀ f, RelO (fs.lookup f) (mA f)) ∧ ∀ n, PySem.W.lookIn n o = some (mA n) := by
  obtain ⟨o, z, h1, h2, h3, h4⟩ := h
  have at_ := (I.hok a _ h1).1
  have nc : PySem.W.notCls o = true := by unfold PySem.W.notCls; rw [h4]
  cases d with
  | none => exact ⟨o, none, ⟨at_, h2, nc, by rw [h3]; trivial⟩, fun dd fs e => by cases e⟩
  | some dd =>
    obtain ⟨fs, hf⟩ := hd dd rfl
    obtain ⟨mA, n, r⟩ := I.hok dd _ hf
    obtain ⟨od, e1, e2⟩ := lookIn_ns n
    refine ⟨o, some od, ⟨at_, h2, nc, by rw [h3]; exact e1⟩, fun dd' fs' e hf' => ?_⟩
    cases e
    rw [hf] at hf'
    cases hf'
    exact ⟨od, mA, rfl, r, e2⟩
theorem Rep.err {K : PySem.W.Frag} {PN : Pn} {H : Hp} {Z : Addr → Prop} {v : V} {c : Str} {xs : List D} {fp : List Addr} (r : Rep K PN H Z v (.exc c xs) fp) : ∃ a d, v = .ref a ∧ ExcAt H a (He.ga K c) d ∧ (∀ dd, d = some dd → ∃ fs, H dd = some (.xd fs)) := by
  cases r with
  | exc0 h => exact ⟨_, none, rfl, h, fun dd e => by cases e⟩
  | exc1 h h2 z r => exact ⟨_, _, rfl, h, fun dd e => by cases e; exact ⟨_, h2⟩⟩
/-- isinstance of errors that are known, and of none -/
def isTB (K : PySem.W.Frag) (u : Value) (es : Errs) : Bool := excGB K && es.all (fun q => excCB K q.1 && decide (PySem.W.kitOne K (.ref (He.ga K q.1)) u = some q.2)) && decide (PySem.W.kitOne K (.type "NoneType") u = some false)
structure IsT (K : PySem.W.Frag) (u : Value) (es : Errs) : Prop where
  g : excGB K = true
  ok : ∀ c b, es.lookup c = some b → excCB K c = true ∧ PySem.W.kitOne K (.ref (He.ga K c)) u = some b
  non : PySem.W.kitOne K (.type "NoneType") u = some false
theorem lookup_memE {c : Str} {b : Bool} : ∀ {es : Errs}, es.lookup c = some b → (c, b) ∈ es
  | [], h => by cases h
  | (x, y) :: es, h => by
    rw [List.lookup_cons] at h
    split at h
    · rename_i e
      cases h
      rw [eq_of_beq e]; exact List.mem_cons_self
    · exact List.mem_cons_of_mem _ (lookup_memE h)
theorem isT_of {K : PySem.W.Frag} {u : Value} {es : Errs} (h : isTB K u es = true) : IsT K u es := by
  simp only [isTB, Bool.and_eq_true, decide_eq_true_eq, List.all_eq_true] at h
  exact ⟨h.1.1, fun c b e => h.1.2 (c, b) (lookup_memE e), h.2⟩
def isE (es : Errs) : D → Comp D
  | .exc c _ => (match es.lookup c with
    | some b => .ret (.bl b)
    | none => .stuck)
  | .non => .ret (.bl false)
  | _ => .stuck
section
variable {X : Cx} {W : WX} {vs : List Nat}
def rIsE (K : PySem.W.Frag) (g : Bool) : List V → Hp → VK → Prop := fun xs H Q => ∃ (a : Addr) (c : Str) (d : Option Addr) (cv : V) (u : Value) (b : Bool), xs = [.ref a, cv] ∧ ClsV cv u ∧ ExcAt H a (He.ga K c) d ∧ (∀ dd, d = some dd → ∃ fs, H dd = some (.xd fs)) ∧
  excCB K c = true ∧ excGB K = true ∧ PySem.W.kitOne K (.ref (He.ga K c)) u = some b ∧ Q (.bl b) H
theorem call_isE : CallR X (.builtin "isinstance") (rIsE X.K true) := by
  intro pins s σ H xs us Q I r h
  obtain ⟨a, c, d, cv, u, b, rfl, k, e1, e2, f1, f2, e, q⟩ := h
  obtain ⟨u1, u2, rfl, r1, r2⟩ := vals2 r
  have q2 := k.eq r2
  subst q2
  cases (show u1 = Value.ref a from r1)
  obtain ⟨ox, od, i1, _⟩ := err_inst I e1 e2
  exact PySem.W.kia_one (kitx_err (x := a) (ox := ox) (od := od) f1 f2) I.kIn i1 e (fun z => nomatch z) fun tk => ⟨.bl b, H, I.tok tk, rfl, q⟩
/-- a class as it is named -/
inductive Cl (X : Cx) : Expr → V → Value → Prop
  | own {x : Str} {q : Pos} (h : X.mg x = some (.ref (He.ga X.K x))) (hg : Gl X x) (hd : (x == ("__debug__" : Str)) = false) : Cl X (.Name x q) (.ref (He.ga X.K x)) (.ref (He.ga X.K x))
  | bui {x : Str} {q : Pos} {T : String} (h : X.mg x = none) (hg : Gl X x) (hv : bootBuiltins x = some (.type T)) (hn : x ≠ "__name__") (hd : (x == ("__debug__" : Str)) = false) : Cl X (.Name x q) (.ty T) (.type T)
theorem Cl.pe {e : Expr} {v : V} {u : Value} (c : Cl X e v u) : PE X e (tC v) := by
  cases c with
  | own h hg hd => exact pe_glob hg h rfl hd
  | bui h hg hv hn hd => exact pe_bltn hg h hv rfl hn hd
theorem Cl.cv {e : Expr} {v : V} {u : Value} (c : Cl X e v u) : ClsV v u := by
  cases c with
  | own h hg hd => exact .own _
  | bui h hg hv hn hd => exact .ty _
theorem ev_isE {es : Errs} {f : Env → Comp D} {e ec : Expr} {cv : V} {u : Value} {p pos : Pos} (hm : X.mg "isinstance" = none) (c : Cl X ec cv u) (I : IsT X.K u es) (he : EV X W vs f e) (hg : Gl X "isinstance" := by rfl)
    (hs : starEach (e :: [ec]) X.env = (false, eval e X.env) :: starEach [ec] X.env := by rfl) (hs2 : starEach [ec] X.env = (false, eval ec X.env) :: starEach [] X.env := by rfl) (hpl : (backTo pos (starEach [ec] X.env)).any (·.1) = false := by rfl) :
    EV X W vs (eUn (isE es) f) (.Call (.Name "isinstance" p) [e, ec] [] pos) := by
  refine peW (pe_callB (call_isE.or call_isi) hg hm (by decide +kernel) (pa_cons he (pa_cons c.pe pa_nil hs2) hs) (by decide) (by decide) hs hpl) fun σ H Q h => ?_
  obtain ⟨PN, n, Z, ρ, k, z, p, h⟩ := h
  rw [eUn, Comp.all_bind] at h
  refine ⟨PN, n, Z, ρ, k, z, p, Comp.all_mono (fun m d h => fun v PN' H' ev => ?_) (fun _ _ _ h => h) h⟩
  obtain ⟨Z', sh, r⟩ := ev.sh z
  generalize fz d = y at h r
  cases y with
  | non =>
    cases r
    exact .inr ⟨.non, cv, .type "NoneType", u, false, rfl, c.cv, .base .non, I.non, h _ _ _ (Ev.after sh .bl)⟩
  | exc c' x =>
    obtain ⟨a, d', rfl, e1, e2⟩ := r.err
    simp only [isE] at h
    cases hl : es.lookup c' with
    | none => rw [hl] at h; exact h.elim
    | some b =>
      rw [hl] at h
      obtain ⟨f1, f2⟩ := I.ok c' b hl
      exact .inl ⟨a, c', d', cv, u, b, rfl, c.cv, e1, e2, f1, I.g, f2, h _ _ _ (Ev.after sh .bl)⟩
  | _ => exact h.elim
def atE (fld : Str) (cs : List Str) : D → Comp D
  | .exc c [.str g, d] => if g = fld ∧ c ∈ cs then .ret d else .stuck
  | _ => .stuck
def atB (K : PySem.W.Frag) (fld : Str) (cs : List Str) : Bool := cs.all fun c => excCB K c && PySem.W.hasDictIn K (He.ga K c) && decide (PySem.W.findIn K (.ref (He.ga K c)) fld = some none)
theorem ev_atE {fld : Str} {cs : List Str} {f : Env → Comp D} {e : Expr} {pos : Pos} (hK : atB X.K fld cs = true) (he : EV X W vs f e) (hb : attributeBase e fld X.env (eval e X.env) = eval e X.env := by rfl) :
    EV X W vs (eUn (atE fld cs) f) (.Attribute e fld pos) := by
  refine ⟨fun pins s σ H Q I h => ?_⟩
  obtain ⟨PN, n, Z, ρ, k, z, p, h⟩ := h
  rw [eUn, Comp.all_bind] at h
  refine attr_of hb (thn (he.run pins s σ H (fun x H1 => ∃ (a dd C : Addr) (v : V), x = .ref a ∧ ExcAt H1 a C (some dd) ∧ H1 dd = some (.xd [(fld, v)]) ∧ (∃ c, C = He.ga X.K c ∧ excCB X.K c = true ∧ PySem.W.hasDictIn X.K C = true ∧ PySem.W.findIn X.K (.ref C) fld = some none) ∧ Q v H1) I
    ⟨PN, n, Z, ρ, k, z, p, Comp.all_mono (fun m d hh => fun v PN' H' ev => ?_) (fun _ _ _ h => h) h⟩) fun u s1 q => ?_)
  · obtain ⟨Z', sh, r⟩ := ev.sh z
    generalize fz d = y at hh r
    unfold atE at hh
    split at hh
    · rename_i c g y
      split at hh
      · rename_i hc
        obtain ⟨rfl, hc⟩ := hc
        simp only [atB, List.all_eq_true, Bool.and_eq_true, decide_eq_true_eq] at hK
        obtain ⟨⟨k1, k2⟩, k3⟩ := hK c hc
        cases r with
        | exc1 h1 h2 h3 r => exact ⟨_, _, _, _, rfl, h1, h2, ⟨c, rfl, k1, k2, k3⟩, hh _ _ _ (Ev.after sh r)⟩
      · exact hh.elim
    · exact hh.elim
  · obtain ⟨v, H1, I1, r1, a, dd, C, y, rfl, e1, e2, ⟨c, rfl, k1, k2, k3⟩, q⟩ := q
    cases (show u = Value.ref a from r1)
    obtain ⟨ox, od, i1, i2⟩ := err_inst I1 e1 (fun dd' e => by cases e; exact ⟨_, e2⟩)
    obtain ⟨o, mA, rfl, r, l⟩ := i2 dd _ rfl e2
    obtain ⟨u, hu, ru⟩ := RelO.some_of (v := y) (o := mA fld) (by have := r fld; simpa using this)
    simp only [excCB, Bool.and_eq_true, decide_eq_true_eq] at k1
    obtain ⟨⟨⟨⟨⟨h1, h2⟩, h3⟩, h4⟩, h5⟩, h6⟩ := k1
    obtain ⟨gt, h3⟩ := Option.isSome_iff_exists.mp h3
    exact HandSPX.exc_get I1.kIn i1 h2 h3 h4 (PySem.W.findObj_own k2 k3 rfl (by rw [l, hu])) (handed_of ru) ⟨y, H1, I1.tok _, ru, q⟩
end
end Mid
namespace Mid
open PySem PySem.Spec PyProof.Rows L2
def oexB (K : PySem.W.Frag) (C : Addr) : Bool := (match K.lookup C with
  | some ⟨.type "type", _, .cls cd, sl⟩ => (match cd.mro, sl.toList with
    | .ref C' :: bm, [_, _, _, _, some (.builtin n), _] => C' == C && n == "ValueError.__new__" && HandSPX.refsVE bm && cd.hasDict && !cd.hasDel
    | _, _ => false)
  | _ => false) && decide (PySem.W.findIn K (.ref C) "__setattr__" = some (some (.builtin "object.__setattr__"))) && decide (PySem.W.subIn K (.ref C) (.type "BaseException") = some true) && decide (PySem.W.typeIn K (.ref C) = some (.type "type")) && PySem.W.keepIn K (.ref C)
theorem oex_of {K : PySem.W.Frag} {C : Addr} (h : oexB K C = true) : OexC K C := by
  simp only [oexB, Bool.and_eq_true, decide_eq_true_eq] at h
  obtain ⟨⟨⟨⟨h0, h1⟩, h2⟩, h3⟩, h4⟩ := h
  refine ⟨?_, h1, h2, h3, h4⟩
  split at h0
  · rename_i dd cd sl ho
    split at h0
    · rename_i C' bm k0 k1 k2 k3 n k5 hm hs
      simp only [Bool.and_eq_true, beq_iff_eq, Bool.not_eq_true'] at h0
      obtain ⟨⟨⟨⟨rfl, rfl⟩, hr⟩, hd⟩, hl⟩ := h0
      obtain ⟨nm, bs, mro, ns, qn, hdx, sn, sub, ab, col, del⟩ := cd
      simp only at hm hd hl
      subst hm hd hl
      have hsl : sl = #[k0, k1, k2, k3, some (.builtin "ValueError.__new__"), k5] := by
        cases sl
        simp only at hs
        rw [hs]
      subst hsl
      exact ⟨nm, qn, ns, bs, bm, sn, sub, ab, col, dd, k0, k1, k2, k3, k5, ho, hr⟩
    · cases h0
  · cases h0
/-- what of the text RoadError must have, for RoadError.__init__(self, ..) -/
def iniB (K : PySem.W.Frag) (R : Addr) : Bool := decide (PySem.W.specialIn K (.ref R) "__getattribute__" = some (some (.builtin "type.__getattribute__"))) && decide (PySem.W.typeIn K (.ref R) = some (.type "type")) && PySem.W.readsIn K R (.type "type") &&
  (match PySem.W.findCls K (.ref R) (.type "type") "__init__" with
  | some (.val v) => decide (v = .builtin "ValueError.__init__")
  | _ => false)
theorem ini_of {K : PySem.W.Frag} {R : Addr} (h : iniB K R = true) : PySem.W.specialIn K (.ref R) "__getattribute__" = some (some (.builtin "type.__getattribute__")) ∧ PySem.W.typeIn K (.ref R) = some (.type "type") ∧ PySem.W.readsIn K R (.type "type") = true ∧ PySem.W.findCls K (.ref R) (.type "type") "__init__" = some (.val (.builtin "ValueError.__init__")) := by
  simp only [iniB, Bool.and_eq_true, decide_eq_true_eq] at h
  obtain ⟨⟨⟨h1, h2⟩, h3⟩, h4⟩ := h
  refine ⟨h1, h2, h3, ?_⟩
  split at h4
  · rename_i e
    rw [of_decide_eq_true h4] at e
    exact e
  · cases h4
section
variable {X : Cx}
theorem pe_baseInit {r : Str} {R : Addr} {e : Expr} {es : List Expr} {ta : TA} {p1 p2 pos : Pos} {pl : Sem Bool} (hg : Gl X r) (hm : X.mg r = some (.ref R)) (hi : iniB X.K R = true) (ha : PA X (e :: es) ta)
    (hc : eval (.Call (.Attribute (.Name r p1) "__init__" p2) (e :: es) [] pos) X.env = (do
      let ov ← eval (.Name r p1) X.env
      standAt p2.atName
      let (f, fst) ← holding [ov] (getMethod ov "__init__" pl)
      callWith pos f fst (backTo pos (starEach (e :: es) X.env)) (backToKw pos (keywordEach [] X.env))) := by rfl)
    (hs : starEach (e :: es) X.env = (false, eval e X.env) :: starEach es X.env := by rfl) (hpl : (backTo pos (starEach es X.env)).any (·.1) = false := by rfl) (hdb : (r == ("__debug__" : Str)) = false := by decide) :
    PE X (.Call (.Attribute (.Name r p1) "__init__" p2) (e :: es) [] pos) (tVeI X.K ta) := by
  obtain ⟨i1, i2, i3, i4⟩ := ini_of hi
  refine ⟨fun pins s σ H Q I h => PySem.W.methodCall_KW (ld_glob I hg hm ?_ hdb) hc⟩
  obtain ⟨m, fr⟩ := I.fr
  refine PySem.W.method_of_cls fr I.ok.mod.kin i1 (PySem.W.cls_val fr I.ok.mod.kin i2 i3 i4 (by decide +kernel) ?_)
  show wpAny _ _ (callWith pos (Value.builtin "ValueError.__init__") [] (backTo pos (starEach (e :: es) X.env)) []) _ _ _
  refine PyProof.Rows.callWith_method1 (thn (ha.run pos pins _ σ H _ (I.tok _) h) fun us s1 q => ?_) hs hpl
  obtain ⟨vs, H1, I1, r1, a, C, ws, rfl, hl, T, ea, q⟩ := q
  cases r1 with
  | @cons _ u0 _ ur ra rw' =>
    cases (show u0 = Value.ref a from ra)
    exact oinit_ok T I1 ea (by rw [← Paired.length rw', sizeLine_eq]; omega) fun s' J => ⟨.non, H1, J, rfl, q⟩
/-- what __init__ promises -/
def spInit (K : PySem.W.Frag) (fld : Str) : Sp := fun vs H Q E => ∃ (a C : Addr) (y : V), vs = [.ref a, y] ∧ OexC K C ∧ PySem.W.findIn K (.ref C) fld = some none ∧ H a = some (exo a C none) ∧
  ∀ dx, H dx = none → dx ≠ a → Q .non (upd (upd H dx (exd dx [(fld, y)])) a (exo a C (some dx)))
end
theorem init_ok {P : Program} {w : World} {K : PySem.W.Frag} {mg : Str → Option Value} {base : Heap} {x qual : Str} {params : Arguments} {scope : Scope} {kws : List (Str × V)} {f : Addr} {fd : FuncData} {k : Nat} {y r m fld : Str} {j : Nat} {p1 p2 p3 p4 p5 p6 q1 q2 q3 q4 : Pos}
    (F : FunD K x qual params [.Expr (.Call (.Attribute (.Name r p1) "__init__" p2) [.Name "self" p3, .Constant (.str m) j p4] [] p5) p6, .Assign [.Attribute (.Name "self" q1) fld q2] (.Name y q3) q4] scope [] kws f fd) (S : FnScope ["self", y] ["self", y] scope)
    (hv1 : scope.names.lookup ("self" : Str) = some NameKind.local := by rfl) (hv2 : scope.names.lookup y = some NameKind.local := by rfl)
    (he : ∀ (cdv : Value) (A : Around) (outer : List PySem.Env) (s : Shared) (H : Hp) (E : XK) (t : TA), PA (cxOf (L2.CX P w) P w K mg base ["self", y] qual scope f cdv A outer s H E) [.Name "self" p3, .Constant (.str m) j p4] t → PE (cxOf (L2.CX P w) P w K mg base ["self", y] qual scope f cdv A outer s H E) (.Call (.Attribute (.Name r p1) "__init__" p2) [.Name "self" p3, .Constant (.str m) j p4] [] p5) (tVeI K t))
    (hyd : (y == ("__debug__" : Str)) = false := by decide) (hyc : (y == ("__classdict__" : Str)) = false := by decide) : FnOk P w K mg base (L2.CX P w) (k + 1) f fd ["self", y] (spInit K fld) := by
  refine F.ok S (fun vs H Q E q => ?_) fun cdv A outer s H vs Q E hr q => ?_
  · obtain ⟨a, C, v, rfl, _⟩ := q
    rfl
  · obtain ⟨a, C, v, rfl, T, hn, ha, q⟩ := q
    have e1 := pe_var (X := cxOf (L2.CX P w) P w K mg base ["self", y] qual scope f cdv A outer s H E) (i := 0) (x := "self") (pos := p3) rfl (.inl hv1)
    have e2 := pe_var (X := cxOf (L2.CX P w) P w K mg base ["self", y] qual scope f cdv A outer s H E) (i := 0) (x := "self") (pos := q1) rfl (.inl hv1)
    have e3 := pe_var (X := cxOf (L2.CX P w) P w K mg base ["self", y] qual scope f cdv A outer s H E) (i := 1) (x := y) (pos := q3) rfl (.inl hv2) hyd hyc
    refine ⟨_, pss_cons (ps_expr (he cdv A outer s H E _ (pa_cons e1 (pa_cons pe_str pa_nil))) rfl) (pss_one (ps_ost e2 e3 rfl)), ?_⟩
    refine ⟨_, rfl, a, C, _, rfl, Nat.succ_le_of_lt (by simp), T, ha, ?_⟩
    refine ⟨_, rfl, _, rfl, a, C, rfl, T, hn, .inl ⟨ha, fun dx h1 h2 => q dx h1 h2⟩⟩
section
variable {X : Cx} {W : WX} {vs : List Nat}
def eRaise (c fld : Str) (f : Env → Comp D) : Env → Comp D := fun ρ => (f ρ).bind fun d => .err c [.str fld, fz d]
def sRaiseE (c fld : Str) (vs : List Nat) (f : Env → Comp D) : Env → Comp (Fl × Env) := sExpr vs (eRaise c fld f)
/-- an error's class with one field -/
structure ExcI (P : Program) (w : World) (K : PySem.W.Frag) (mg : Str → Option Value) (base : Heap) (k : Nat) (x fld : Str) : Prop where
  g : mg x = some (.ref (He.ga K x))
  ox : OexC K (He.ga K x)
  no : PySem.W.findIn K (.ref (He.ga K x)) fld = some none
  fn : ∃ (fI : Addr) (fd : FuncData) (ps : List Str), PySem.W.findIn K (.ref (He.ga K x)) "__init__" = some (some (.ref fI)) ∧ PySem.W.typeIn K (.ref fI) = some (.type "function") ∧ FnOk P w K mg base (L2.CX P w) k fI fd ps (spInit K fld) ∧ Binds K fd ps []
end
end Mid
namespace Mid
open PySem PySem.Spec PyProof.Rows L2
theorem exAt {L : List Bool} (h : L.all id = true) (i : Nat) {b : Bool} (hi : L[i]? = some b) : b = true := List.all_eq_true.mp h b (List.mem_of_getElem? hi)
theorem excF_of {K : PySem.W.Frag} {mg : Str → Option Value} {x : Str} (g : mg x = some (.ref (He.ga K x))) (h : (He.Fa.exc x).ok K = true) : ExcF K mg x := by
  obtain ⟨h1, h2, h3, h4⟩ := He.exc_ok h
  first
    | exact ⟨h1, h2, h3, h4, g⟩
    | exact ⟨h1, h2, h3, h4.1, g⟩
def clsB : Stmt → List Stmt
  | .ClassDef _ _ _ b _ _ _ _ _ _ _ => b
  | _ => []
theorem excI_of {P : Program} {w : World} {K : PySem.W.Frag} {mg : Str → Option Value} {base : Heap} {k : Nat} {x fld : Str} {fd : FuncData} {ps : List Str} (g : mg x = some (.ref (He.ga K x))) (h1 : oexB K (He.ga K x) = true) (h2 : decide (PySem.W.findIn K (.ref (He.ga K x)) fld = some none) = true)
    (hm : (He.Fa.meth x "__init__").ok K = true) (G : FnOk P w K mg base (L2.CX P w) k (He.ma K (He.ga K x) "__init__") fd ps (spInit K fld)) (hb : Binds K fd ps []) : ExcI P w K mg base k x fld := by
  have m := He.meth_ok hm
  exact ⟨g, oex_of h1, of_decide_eq_true h2, ⟨_, fd, ps, m.at_, beq_iff_eq.mp m.fn, G, hb⟩⟩
end Mid
namespace Mid
open PySem PySem.Spec PyProof.Rows L2 He
def frY (n : Nat) (g : Addr → Option Obj) : PySem.W.Frag := frT g (cStatics :: asD g n)
structure SaysY (fa : List Fa) (fn : List DefD) (ex : PySem.W.Frag → Bool) (w : World) (K : PySem.W.Frag) : Prop where
  t : SaysT fa fn [] w K
  more : ex K = true
def obsY (n : Nat) (fa : List Fa) (fn : List DefD) (ex : PySem.W.Frag → Bool) (g : Addr → Option Obj) : AlX := (obsT fa fn [] (frY n g), ex (frY n g))
def hookY (n : Nat) (fa : List Fa) (fn : List DefD) (ex : PySem.W.Frag → Bool) : PySem.W.Hook where
  α := AlX
  obs := fun s => obsY n fa fn ex s.heap.get?
  val := fun w => valX fn [] w
  says := fun w h => ∃ K : PySem.W.Frag, K.In h ∧ SaysY fa fn ex w K
  of := fun _ _ e => ⟨_, frT_in, ⟨congrArg (fun z : AlX => z.1) e, congrArg (fun z : AlX => z.2) e⟩⟩
  keeps := fun _ _ _ ⟨K, hK, c⟩ k => ⟨K, PySem.W.Frag.In.keeps hK k, c⟩
theorem obsY_eq {n : Nat} {fa : List Fa} {fn : List DefD} {ex : PySem.W.Frag → Bool} {g : Addr → Option Obj} {s : Shared} (h : ∀ a, g a = s.heap.get? a) : obsY n fa fn ex g = (hookY n fa fn ex).obs s := by
  obtain rfl : g = s.heap.get? := funext h
  rfl
end Mid
namespace Mid
open PySem PySem.Spec PyProof.Rows L2
end Mid
namespace Mid
open PySem PySem.Spec PyProof.Rows L2
section
variable {X : Cx} {W : WX} {vs : List Nat}
/-- classes as they are named, in a row -/
inductive Cls (X : Cx) : List Expr → TA → List V → List Value → Prop
  | nil : Cls X [] tNil [] []
  | cons {e : Expr} {cv : V} {u : Value} {es : List Expr} {t : TA} {cs : List V} {us : List Value} (c : Cl X e cv u) (r : Cls X es t cs us) (hs : starEach (e :: es) X.env = (false, eval e X.env) :: starEach es X.env := by rfl) : Cls X (e :: es) (tCons (tC cv) t) (cv :: cs) (u :: us)
theorem Cls.len {es : List Expr} {t : TA} {cs : List V} {us : List Value} (c : Cls X es t cs us) : cs.length = es.length := by
  induction c with
  | nil => rfl
  | cons c r hs ih => exact congrArg (· + 1) ih
theorem Cls.run {es : List Expr} {t : TA} {cs : List V} {us : List Value} (c : Cls X es t cs us) : ∀ {σ : L2.St} {H : Hp} {Q : List V → Hp → Prop}, Q cs H → t σ H Q := by
  induction c with
  | nil => intro σ H Q h; exact h
  | cons c r hs ih => intro σ H Q h; exact ih h
end
end Mid
namespace Mid
open PySem PySem.Spec PyProof.Rows L2 He
end Mid
namespace Mid
open PySem PySem.Spec PyProof.Rows L2
end Mid
namespace Mid
open PySem PySem.Spec PyProof.Rows L2
end Mid
namespace Mid
open PySem PySem.Spec PyProof.Rows L2
def scal : D → Bool
  | .int _ => true
  | .bl _ => true
  | .str _ => true
  | .non => true
  | _ => false
end Mid
namespace Mid
open PySem PySem.Spec PyProof.Rows L2
end Mid
namespace Mid
open PySem PySem.Spec PyProof.Rows L2
end Mid
namespace Mid
open PySem PySem.Spec PyProof.Rows L2
end Mid
namespace Mid
open PySem PySem.Spec PyProof.Rows L2
end Mid
namespace Mid
open PySem PySem.Spec PyProof.Rows L2
end Mid
namespace Mid
open PySem PySem.Spec PyProof.Rows L2
end Mid
namespace Mid
open PySem PySem.Spec PyProof.Rows L2
end Mid
namespace Mid
open PySem PySem.Spec PyProof.Rows L2
end Mid
namespace Mid
open PySem PySem.Spec PyProof.Rows L2
/-- H' is H but for a dict at a -/
structure Swp (H H' : Hp) (a : Addr) : Prop where
  same : ∀ b, b ≠ a → H' b = H b
  here : ∀ u, H a = some u → (∃ kvs, u = .dK kvs) ∨ ∃ o kvs, u = .frz o (.dK kvs)
  rd : ∀ kvs, Rd H a (.dK kvs) → Rd H' a (.dK kvs)
section
variable {K : PySem.W.Frag} {PN : Pn} {H H' : Hp} {Z : Addr → Prop} {a : Addr}
theorem Swp.at_ (s : Swp H H' a) {b : Addr} {u : HO} (h : H b = some u) (n1 : ∀ kvs, u ≠ .dK kvs) (n2 : ∀ o kvs, u ≠ .frz o (.dK kvs)) : H' b = some u := by
  by_cases e : b = a
  · rw [e] at h
    rcases s.here u h with ⟨kvs, q⟩ | ⟨o, kvs, q⟩
    · exact absurd q (n1 kvs)
    · exact absurd q (n2 o kvs)
  · rw [s.same b e]; exact h
theorem Swp.tupN (s : Swp H H' a) {b : Addr} {xs : List V} (h : TupN K H b xs) : TupN K H' b xs := by
  rcases h with ⟨o, h, q⟩ | h
  · exact .inl ⟨o, s.at_ h (fun _ e => by cases e) (fun _ _ e => by cases e), q⟩
  · exact .inr h
theorem Swp.sqT (s : Swp H H' a) {b : Addr} {xs : List V} (h : SqT K H b xs) : SqT K H' b xs := by
  rcases h with (h | ⟨o, h⟩) | h
  · exact .inl (.inl (s.at_ h (fun _ e => by cases e) (fun _ _ e => by cases e)))
  · exact .inl (.inr ⟨o, s.at_ h (fun _ e => by cases e) (fun _ _ e => by cases e)⟩)
  · exact .inr h
theorem Swp.exc (s : Swp H H' a) {b C : Addr} {d : Option Addr} (h : ExcAt H b C d) : ExcAt H' b C d := by
  obtain ⟨o, z, h, q⟩ := h
  exact ⟨o, z, s.at_ h (fun _ e => by cases e) (fun _ _ e => by cases e), q⟩
end
end Mid
namespace Mid
open PySem PySem.Spec PyProof.Rows L2
end Mid
namespace Mid
open PySem PySem.Spec PyProof.Rows L2
end Mid
namespace Mid
open PySem PySem.Spec PyProof.Rows L2
section
variable {X : Cx}
theorem pe_mk {e : Expr} {t : L2.St → Hp → XK → Prop} (h3 : X.ex = []) (he : PMk X e t) :
    PE X e (fun σ H Q => t σ H fun cls d H' => ∀ (a : Addr) (oe : Obj) (fv : Array Value), Zc cls d oe → oe.data = .fields fv → H' a = none → Q (.ref a) (upd H' a (.frz oe (.own a)))) := by
  refine ⟨fun pins s σ H Q I h => wpAny_mono (he pins s σ H _ I h) (fun u s' hu => ?_) fun _ _ x => x⟩
  obtain ⟨a, oe, vs, sI, H', cls, d, rfl, J, k, hne, ha, hz, hd, h1, na, os, ag, r, q⟩ := hu
  have J2 : Inv X pins σ H' s' := J.landed (B := sI.heap) (fun b o e _ => e) k (Heap.UpToSlots.of_keeps k) os ag
  have n0 : X.s_0.heap.get? a = none := by
    cases e : X.s_0.heap.get? a with
    | none => rfl
    | some o =>
      obtain ⟨o', e'⟩ := J.base.there a o e (by rw [h3]; exact fun z => nomatch z)
      rw [hne] at e'; cases e'
  have npin : ∀ p ∈ X.pn ++ pins, p.1 ≠ a := fun p hp z => by
    have := (J.pin p hp).1
    rw [z, hne] at this; cases this
  have nL : a ≠ X.env.locals := fun z => by
    obtain ⟨m, ⟨o', es, ep, ho', hd', _⟩, _⟩ := J.loc
    rw [← z, hne] at ho'; cases ho'
  exact ⟨.ref a, _, adopt J2 ha hd na n0 npin nL, rfl, q a oe vs hz hd na⟩
variable {W : WX} {vs : List Nat}
def eMk (c : Str) (f : Env → Comp D) : Env → Comp D := fun ρ => (f ρ).bind fun _ => .ret (.exc c [])
theorem ev_mk {k : Nat} {x : Str} {f : Env → Comp D} {e : Expr} {p0 pos : Pos} (ft : Fit k X W) (F : ExcF X.K X.mg x) (he : EV X W vs f e) (hg : Gl X x := by rfl) (h3 : X.ex = [] := by rfl)
    (hs : starEach [e] X.env = (false, eval e X.env) :: starEach [] X.env := by rfl) (hdb : (x == ("__debug__" : Str)) = false := by decide) : EV X W vs (eMk x f) (.Call (.Name x p0) [e] [] pos) := by
  refine peW (pe_mk h3 (SkE.pmk_own1 PySem.F.excBase_ValueError F.ex F.g F.kp (raises_own F.sb F.ty) hg he hs hdb)) fun σ H Q h => ?_
  obtain ⟨PN, n, Z, ρ, kk, z, p, h⟩ := h
  refine ⟨PN, n, Z, ρ, kk, z, p, ?_⟩
  rw [eMk, Comp.all_bind] at h
  refine Comp.all_mono (fun m d h => ?_) (fun _ _ _ h => h) h
  intro v PN1 H1 ev a oe fv hz hd na
  obtain ⟨Z1, s1, _⟩ := ev.sh z
  have mv : Mv PN1 H1 PN1 (upd H1 a (.frz oe (.own a))) := .laid na
  have s2 : Sh X.K PN1 H1 Z1 m PN1 (upd H1 a (.frz oe (.own a))) Z1 := ⟨mv, s1.pens.laid na, s1.zk.step mv, fun _ h => h, fun _ h => .inl h⟩
  exact h _ _ _ (Ev.after (s1.trans s2) (.exc0 ⟨oe, fv, upd_same, hz.1, hz.2, hd⟩))
def eMkE (c fld : Str) (f : Env → Comp D) : Env → Comp D := fun ρ => (f ρ).bind fun d => .ret (.exc c [.str fld, fz d])
theorem ev_mkE {k k' : Nat} {x fld : Str} {f : Env → Comp D} {e : Expr} {p0 pos : Pos} (ft : Fit k X W) (E : ExcI X.prog X.w X.K X.mg X.base k' x fld) (hk : k' + 1 ≤ k) (he : EV X W vs f e) (hg : Gl X x := by rfl) (h3 : X.ex = [] := by rfl)
    (hs : starEach [e] X.env = (false, eval e X.env) :: starEach [] X.env := by rfl) (hpl : (backTo pos (starEach [] X.env)).any (·.1) = false := by rfl) (hdb : (x == ("__debug__" : Str)) = false := by decide) : EV X W vs (eMkE x fld f) (.Call (.Name x p0) [e] [] pos) := by
  obtain ⟨fI, fd, ps, iC, tI, G, hb⟩ := E.fn
  refine peW (pe_mk h3 (pmk_oex (dvs := []) (ds := []) E.ox iC tI G (ft.rm.mono hk) hb .nil passL hg E.g (ea_cons he ea_nil hs) hdb hs hpl)) fun σ H Q h => ?_
  obtain ⟨PN, n, Z, ρ, kk, z, p, h⟩ := h
  refine ⟨PN, n, Z, ρ, kk, z, p, ?_⟩
  rw [eMkE, Comp.all_bind] at h
  rw [aCons, Comp.all_bind]
  refine Comp.all_mono (fun m d h => ?_) (fun _ _ _ h => h) h
  intro us PN1 H1 Z1 s1 r1
  obtain ⟨v, us', rfl, r, q⟩ := r1.inv rfl
  obtain rfl := q.inv0
  refine ⟨by simp, fun a ha => ⟨a, _, v, rfl, E.ox, E.no, upd_same, fun dx hd hne => ⟨rfl, dx, [(fld, v)], upd_same, by rw [upd_ne hne, upd_same], ?_, ?_⟩⟩⟩
  · rw [upd_ne hne] at hd; exact hd
  · rw [upd_ne hne] at hd
    have e : upd (del (upd (upd (upd H1 a (exo a (He.ga X.K x) none)) dx (exd dx [(fld, v)])) a (exo a (He.ga X.K x) (some dx))) a) dx (.xd [(fld, v)]) = upd H1 dx (.xd [(fld, v)]) := by
      funext b
      unfold upd del
      by_cases e1 : b = dx
      · simp only [if_pos e1]
      · by_cases e2 : b = a
        · simp only [if_neg e1, if_pos e2]; rw [e2]; exact ha.symm
        · simp only [if_neg e1, if_neg e2]
    rw [e]
    have mv : Mv PN1 H1 PN1 (upd H1 dx (.xd [(fld, v)])) := .laid hd
    have zz : Zk PN1 (fun b => Z1 b ∨ b = dx) (upd H1 dx (.xd [(fld, v)])) := fun b hb => by
      rcases hb with hb | rfl
      · exact s1.zk.step mv b hb
      · exact ⟨by rw [upd_same]; simp, s1.pens.tracked hd⟩
    have s2 : Sh X.K PN1 H1 Z1 m PN1 (upd H1 dx (.xd [(fld, v)])) (fun b => Z1 b ∨ b = dx) := ⟨mv, s1.pens.laid hd, zz, fun _ h => .inl h, fun b hb => by
      rcases hb with hb | rfl
      · exact .inl hb
      · exact .inr hd⟩
    intro b oe fv hz hdf na
    have mv3 : Mv PN1 (upd H1 dx (.xd [(fld, v)])) PN1 (upd (upd H1 dx (.xd [(fld, v)])) b (.frz oe (.own b))) := .laid na
    have s3 : Sh X.K PN1 (upd H1 dx (.xd [(fld, v)])) (fun b => Z1 b ∨ b = dx) m PN1 (upd (upd H1 dx (.xd [(fld, v)])) b (.frz oe (.own b))) (fun b => Z1 b ∨ b = dx) := ⟨mv3, s2.pens.laid na, s2.zk.step mv3, fun _ h => h, fun _ h => .inl h⟩
    have at_ : ExcAt (upd (upd H1 dx (.xd [(fld, v)])) b (.frz oe (.own b))) b (He.ga X.K x) (some dx) := ⟨oe, fv, upd_same, hz.1, hz.2, hdf⟩
    have nb : dx ≠ b := fun z => by rw [← z, upd_same] at na; cases na
    exact h _ _ _ (Ev.after ((s1.trans s2).trans s3) (.exc1 at_ (by rw [upd_ne nb, upd_same]) (.inr rfl) ((r.step s2 s1.pens s1.zk).step s3 s2.pens s2.zk)))
end
end Mid
namespace Mid
open PySem PySem.Spec PyProof.Rows L2
def txtsOf : List D → Option (List Str)
  | [] => some []
  | .str a :: ds => (txtsOf ds).map (a :: ·)
  | _ => none
def joinD (sep : Str) : D → Comp D
  | .lst _ xs => match txtsOf xs with
    | some ys => if (ys.map (·.length)).sum + ys.length * sep.length ≤ 16777216 then .ret (.str (Txt.join sep ys)) else .stuck
    | none => .stuck
  | _ => .stuck
theorem RepL.txts {K : PySem.W.Frag} {PN : Pn} {H : Hp} {Z : Addr → Prop} : ∀ {vs : List V} {ds : List D} {ys : List Str} {fp : List Addr}, RepL K PN H Z vs ds fp → txtsOf ds = some ys → vs = ys.map V.str
  | _, _, ys, _, .nil, h => by
    cases h
    rfl
  | _, _, ys, _, .cons (d := d) (ds := ds) r q, h => by
    cases d <;> first | (cases h; done) | skip
    rename_i a
    have h' : (txtsOf ds).map (a :: ·) = some ys := h
    cases e : txtsOf ds with
    | none => rw [e] at h'; cases h'
    | some zs =>
      rw [e] at h'
      cases h'
      cases r
      rw [List.map_cons, RepL.txts q e]
section
variable {X : Cx} {W : WX} {vs : List Nat}
theorem ev_join {sep : Str} {f : Env → Comp D} {e : Expr} {i : Nat} {cp apos pos : Pos} (he : EV X W vs f e) (hs : starEach [e] X.env = [(false, eval e X.env)] := by rfl) (hbase : attributeBase (.Constant (.str sep) i cp) "join" X.env (eval (.Constant (.str sep) i cp) X.env) = eval (.Constant (.str sep) i cp) X.env := by rfl) (hline : (apos.endLine == pos.line) = true := by rfl) :
    EV X W vs (eUn (joinD sep) f) (.Call (.Attribute (.Constant (.str sep) i cp) "join" apos) [e] [] pos) := by
  refine peW (pe_join pe_str he hs hbase hline) fun σ H Q h => ?_
  obtain ⟨PN, n, Z, ρ, kk, z, p, h⟩ := h
  refine ⟨⟨sep, rfl⟩, PN, n, Z, ρ, kk, z, p, ?_⟩
  rw [eUn, Comp.all_bind] at h
  refine Comp.all_mono (fun m d h => ?_) (fun _ _ _ h => h) h
  intro v PN1 H1 ev
  obtain ⟨Z1, s1, r⟩ := ev.sh z
  cases d <;> first | exact h.elim | skip
  rename_i o xs
  obtain ⟨a, us, rfl, hh, r⟩ := Rep.lstS r
  show ∃ b p, ∃ ys : List Str, _
  have h : (joinD sep (.lst .f (fzL xs))).all _ _ m := h
  unfold joinD at h
  dsimp only at h
  split at h
  · rename_i ys e
    have ex := RepL.txts r e
    subst ex
    split at h
    · rename_i hz
      exact ⟨sep, a, ys, rfl, rfl, .inl (SqL.of hh), hz, h _ PN1 H1 (Ev.after s1 .str)⟩
    · exact h.elim
  · exact h.elim
end
end Mid
namespace Law
open PySem PySem.Spec PyProof.Rows L2 Mid
def top (i : Nat) : Stmt := PySem.Challenge.pw_laidroads_k05_refusals_by_hand.main.body.getD i (.Pass ⟨0, 0, 0, 0⟩)
abbrev st_NoMark_init : Stmt := (clsB (top 21)).getD 0 (.Pass ⟨0, 0, 0, 0⟩)
abbrev st_Full_init : Stmt := (clsB (top 20)).getD 0 (.Pass ⟨0, 0, 0, 0⟩)
abbrev st_Standing_init : Stmt := (clsB (top 19)).getD 0 (.Pass ⟨0, 0, 0, 0⟩)
abbrev st_NoName_init : Stmt := (clsB (top 18)).getD 0 (.Pass ⟨0, 0, 0, 0⟩)
abbrev st_NoDeed_init : Stmt := (clsB (top 17)).getD 0 (.Pass ⟨0, 0, 0, 0⟩)
abbrev st__law_spread : Stmt := top 23
abbrev st__law_open : Stmt := top 24
abbrev st__law_anew : Stmt := top 25
abbrev st__law_kinds : Stmt := top 29
abbrev st__law_take : Stmt := top 26
abbrev st__law_one : Stmt := top 27
abbrev st__law_drawn : Stmt := top 28
abbrev st_law : Stmt := top 30
def d__law_spread : He.DefD := ⟨("_law_spread", none), "_law_spread", "_law_spread", defArgs st__law_spread, defBody st__law_spread, defScope st__law_spread, [], []⟩
def d__law_open : He.DefD := ⟨("_law_open", none), "_law_open", "_law_open", defArgs st__law_open, defBody st__law_open, defScope st__law_open, [], []⟩
def d__law_anew : He.DefD := ⟨("_law_anew", none), "_law_anew", "_law_anew", defArgs st__law_anew, defBody st__law_anew, defScope st__law_anew, [], []⟩
def d__law_kinds : He.DefD := ⟨("_law_kinds", none), "_law_kinds", "_law_kinds", defArgs st__law_kinds, defBody st__law_kinds, defScope st__law_kinds, [], []⟩
def d__law_take : He.DefD := ⟨("_law_take", none), "_law_take", "_law_take", defArgs st__law_take, defBody st__law_take, defScope st__law_take, [], []⟩
def d__law_one : He.DefD := ⟨("_law_one", none), "_law_one", "_law_one", defArgs st__law_one, defBody st__law_one, defScope st__law_one, [], []⟩
def d__law_drawn : He.DefD := ⟨("_law_drawn", none), "_law_drawn", "_law_drawn", defArgs st__law_drawn, defBody st__law_drawn, defScope st__law_drawn, [], []⟩
def d_law : He.DefD := ⟨("law", none), "law", "law", defArgs st_law, defBody st_law, defScope st_law, [], []⟩
def d_NoMark_init : He.DefD := ⟨("NoMark", some "__init__"), "__init__", "NoMark.__init__", defArgs st_NoMark_init, defBody st_NoMark_init, defScope st_NoMark_init, [], []⟩
def d_Full_init : He.DefD := ⟨("Full", some "__init__"), "__init__", "Full.__init__", defArgs st_Full_init, defBody st_Full_init, defScope st_Full_init, [], []⟩
def d_Standing_init : He.DefD := ⟨("Standing", some "__init__"), "__init__", "Standing.__init__", defArgs st_Standing_init, defBody st_Standing_init, defScope st_Standing_init, [], []⟩
def d_NoName_init : He.DefD := ⟨("NoName", some "__init__"), "__init__", "NoName.__init__", defArgs st_NoName_init, defBody st_NoName_init, defScope st_NoName_init, [], []⟩
def d_NoDeed_init : He.DefD := ⟨("NoDeed", some "__init__"), "__init__", "NoDeed.__init__", defArgs st_NoDeed_init, defBody st_NoDeed_init, defScope st_NoDeed_init, [], []⟩
def fn : List He.DefD := [d__law_spread, d__law_open, d__law_anew, d__law_kinds, d__law_take, d__law_one, d__law_drawn, d_law, d_NoMark_init, d_Full_init, d_Standing_init, d_NoName_init, d_NoDeed_init]
def fa0 : List He.Fa := [.glo "_law_spread", .glo "_law_open", .glo "_law_anew", .glo "_law_kinds", .glo "_law_take", .glo "_law_one", .glo "_law_drawn", .glo "law", .free "isinstance", .free "len", .free "range", .free "ValueError", .free "repr", .free "enumerate", .free "list", .glo "RoadError", .glo "NoWeb", .glo "NoPlace", .glo "NoOrder", .glo "NoRound", .glo "NoNumber", .glo "NoWorth", .glo "NoNumbers", .glo "NotRich", .glo "NotFull", .glo "NotLevel", .glo "NoPaper", .glo "Nothing", .glo "TooMany", .glo "TooLong"]
def fa1 : List He.Fa := [.glo "TooGreat", .glo "NoDeed", .glo "NoName", .glo "Standing", .glo "Full", .glo "NoMark", .exc "RoadError", .exc "TooGreat", .exc "TooLong", .exc "TooMany", .exc "Nothing", .exc "NoPaper", .exc "NotLevel", .exc "NotFull", .exc "NotRich", .exc "NoNumbers", .exc "NoWorth", .exc "NoNumber", .exc "NoRound", .exc "NoOrder", .exc "NoPlace", .exc "NoWeb", .meth "NoMark" "__init__", .meth "Full" "__init__", .meth "Standing" "__init__", .meth "NoName" "__init__", .meth "NoDeed" "__init__"]
def fa : List He.Fa := fa0 ++ fa1
def nm0 : List PySem.Str := ["RoadError", "NoWeb", "NoPlace", "NoOrder", "NoRound", "NoNumber", "NoWorth", "NoNumbers", "NotRich", "NotFull", "NotLevel", "NoPaper", "Nothing", "TooMany", "TooLong", "TooGreat", "NoDeed", "NoName", "Standing", "Full", "NoMark", "_law_spread", "_law_open", "_law_anew", "_law_take", "_law_one", "_law_drawn", "_law_kinds"]
def nm : List PySem.Str := nm0
def exL (K : PySem.W.Frag) : List Bool := [isTB K (.ref (He.ga K "NoMark")) [("RoadError", false), ("NoWeb", false), ("NoPlace", false), ("NoOrder", false), ("NoRound", false), ("NoNumber", false), ("NoWorth", false), ("NoNumbers", false), ("NotRich", false), ("NotFull", false), ("NotLevel", false), ("NoPaper", false), ("Nothing", false), ("TooMany", false), ("TooLong", false), ("TooGreat", false), ("NoDeed", false), ("NoName", false), ("Standing", false), ("Full", false), ("NoMark", true)],
  isTB K (.ref (He.ga K "Full")) [("RoadError", false), ("NoWeb", false), ("NoPlace", false), ("NoOrder", false), ("NoRound", false), ("NoNumber", false), ("NoWorth", false), ("NoNumbers", false), ("NotRich", false), ("NotFull", false), ("NotLevel", false), ("NoPaper", false), ("Nothing", false), ("TooMany", false), ("TooLong", false), ("TooGreat", false), ("NoDeed", false), ("NoName", false), ("Standing", false), ("Full", true), ("NoMark", false)],
  isTB K (.ref (He.ga K "Standing")) [("RoadError", false), ("NoWeb", false), ("NoPlace", false), ("NoOrder", false), ("NoRound", false), ("NoNumber", false), ("NoWorth", false), ("NoNumbers", false), ("NotRich", false), ("NotFull", false), ("NotLevel", false), ("NoPaper", false), ("Nothing", false), ("TooMany", false), ("TooLong", false), ("TooGreat", false), ("NoDeed", false), ("NoName", false), ("Standing", true), ("Full", false), ("NoMark", false)],
  isTB K (.ref (He.ga K "NoName")) [("RoadError", false), ("NoWeb", false), ("NoPlace", false), ("NoOrder", false), ("NoRound", false), ("NoNumber", false), ("NoWorth", false), ("NoNumbers", false), ("NotRich", false), ("NotFull", false), ("NotLevel", false), ("NoPaper", false), ("Nothing", false), ("TooMany", false), ("TooLong", false), ("TooGreat", false), ("NoDeed", false), ("NoName", true), ("Standing", false), ("Full", false), ("NoMark", false)],
  isTB K (.ref (He.ga K "NoDeed")) [("RoadError", false), ("NoWeb", false), ("NoPlace", false), ("NoOrder", false), ("NoRound", false), ("NoNumber", false), ("NoWorth", false), ("NoNumbers", false), ("NotRich", false), ("NotFull", false), ("NotLevel", false), ("NoPaper", false), ("Nothing", false), ("TooMany", false), ("TooLong", false), ("TooGreat", false), ("NoDeed", true), ("NoName", false), ("Standing", false), ("Full", false), ("NoMark", false)],
  isTB K (.ref (He.ga K "TooGreat")) [("RoadError", false), ("NoWeb", false), ("NoPlace", false), ("NoOrder", false), ("NoRound", false), ("NoNumber", false), ("NoWorth", false), ("NoNumbers", false), ("NotRich", false), ("NotFull", false), ("NotLevel", false), ("NoPaper", false), ("Nothing", false), ("TooMany", false), ("TooLong", false), ("TooGreat", true), ("NoDeed", false), ("NoName", false), ("Standing", false), ("Full", false), ("NoMark", false)],
  isTB K (.ref (He.ga K "TooLong")) [("RoadError", false), ("NoWeb", false), ("NoPlace", false), ("NoOrder", false), ("NoRound", false), ("NoNumber", false), ("NoWorth", false), ("NoNumbers", false), ("NotRich", false), ("NotFull", false), ("NotLevel", false), ("NoPaper", false), ("Nothing", false), ("TooMany", false), ("TooLong", true), ("TooGreat", false), ("NoDeed", false), ("NoName", false), ("Standing", false), ("Full", false), ("NoMark", false)],
  isTB K (.ref (He.ga K "TooMany")) [("RoadError", false), ("NoWeb", false), ("NoPlace", false), ("NoOrder", false), ("NoRound", false), ("NoNumber", false), ("NoWorth", false), ("NoNumbers", false), ("NotRich", false), ("NotFull", false), ("NotLevel", false), ("NoPaper", false), ("Nothing", false), ("TooMany", true), ("TooLong", false), ("TooGreat", false), ("NoDeed", false), ("NoName", false), ("Standing", false), ("Full", false), ("NoMark", false)],
  isTB K (.ref (He.ga K "Nothing")) [("RoadError", false), ("NoWeb", false), ("NoPlace", false), ("NoOrder", false), ("NoRound", false), ("NoNumber", false), ("NoWorth", false), ("NoNumbers", false), ("NotRich", false), ("NotFull", false), ("NotLevel", false), ("NoPaper", false), ("Nothing", true), ("TooMany", false), ("TooLong", false), ("TooGreat", false), ("NoDeed", false), ("NoName", false), ("Standing", false), ("Full", false), ("NoMark", false)],
  isTB K (.ref (He.ga K "NoPaper")) [("RoadError", false), ("NoWeb", false), ("NoPlace", false), ("NoOrder", false), ("NoRound", false), ("NoNumber", false), ("NoWorth", false), ("NoNumbers", false), ("NotRich", false), ("NotFull", false), ("NotLevel", false), ("NoPaper", true), ("Nothing", false), ("TooMany", false), ("TooLong", false), ("TooGreat", false), ("NoDeed", false), ("NoName", false), ("Standing", false), ("Full", false), ("NoMark", false)],
  isTB K (.ref (He.ga K "NotLevel")) [("RoadError", false), ("NoWeb", false), ("NoPlace", false), ("NoOrder", false), ("NoRound", false), ("NoNumber", false), ("NoWorth", false), ("NoNumbers", false), ("NotRich", false), ("NotFull", false), ("NotLevel", true), ("NoPaper", false), ("Nothing", false), ("TooMany", false), ("TooLong", false), ("TooGreat", false), ("NoDeed", false), ("NoName", false), ("Standing", false), ("Full", false), ("NoMark", false)],
  isTB K (.ref (He.ga K "NotFull")) [("RoadError", false), ("NoWeb", false), ("NoPlace", false), ("NoOrder", false), ("NoRound", false), ("NoNumber", false), ("NoWorth", false), ("NoNumbers", false), ("NotRich", false), ("NotFull", true), ("NotLevel", false), ("NoPaper", false), ("Nothing", false), ("TooMany", false), ("TooLong", false), ("TooGreat", false), ("NoDeed", false), ("NoName", false), ("Standing", false), ("Full", false), ("NoMark", false)],
  isTB K (.ref (He.ga K "NotRich")) [("RoadError", false), ("NoWeb", false), ("NoPlace", false), ("NoOrder", false), ("NoRound", false), ("NoNumber", false), ("NoWorth", false), ("NoNumbers", false), ("NotRich", true), ("NotFull", false), ("NotLevel", false), ("NoPaper", false), ("Nothing", false), ("TooMany", false), ("TooLong", false), ("TooGreat", false), ("NoDeed", false), ("NoName", false), ("Standing", false), ("Full", false), ("NoMark", false)],
  isTB K (.ref (He.ga K "NoNumbers")) [("RoadError", false), ("NoWeb", false), ("NoPlace", false), ("NoOrder", false), ("NoRound", false), ("NoNumber", false), ("NoWorth", false), ("NoNumbers", true), ("NotRich", false), ("NotFull", false), ("NotLevel", false), ("NoPaper", false), ("Nothing", false), ("TooMany", false), ("TooLong", false), ("TooGreat", false), ("NoDeed", false), ("NoName", false), ("Standing", false), ("Full", false), ("NoMark", false)],
  isTB K (.ref (He.ga K "NoWorth")) [("RoadError", false), ("NoWeb", false), ("NoPlace", false), ("NoOrder", false), ("NoRound", false), ("NoNumber", false), ("NoWorth", true), ("NoNumbers", false), ("NotRich", false), ("NotFull", false), ("NotLevel", false), ("NoPaper", false), ("Nothing", false), ("TooMany", false), ("TooLong", false), ("TooGreat", false), ("NoDeed", false), ("NoName", false), ("Standing", false), ("Full", false), ("NoMark", false)],
  isTB K (.ref (He.ga K "NoNumber")) [("RoadError", false), ("NoWeb", false), ("NoPlace", false), ("NoOrder", false), ("NoRound", false), ("NoNumber", true), ("NoWorth", false), ("NoNumbers", false), ("NotRich", false), ("NotFull", false), ("NotLevel", false), ("NoPaper", false), ("Nothing", false), ("TooMany", false), ("TooLong", false), ("TooGreat", false), ("NoDeed", false), ("NoName", false), ("Standing", false), ("Full", false), ("NoMark", false)],
  isTB K (.ref (He.ga K "NoRound")) [("RoadError", false), ("NoWeb", false), ("NoPlace", false), ("NoOrder", false), ("NoRound", true), ("NoNumber", false), ("NoWorth", false), ("NoNumbers", false), ("NotRich", false), ("NotFull", false), ("NotLevel", false), ("NoPaper", false), ("Nothing", false), ("TooMany", false), ("TooLong", false), ("TooGreat", false), ("NoDeed", false), ("NoName", false), ("Standing", false), ("Full", false), ("NoMark", false)],
  isTB K (.ref (He.ga K "NoOrder")) [("RoadError", false), ("NoWeb", false), ("NoPlace", false), ("NoOrder", true), ("NoRound", false), ("NoNumber", false), ("NoWorth", false), ("NoNumbers", false), ("NotRich", false), ("NotFull", false), ("NotLevel", false), ("NoPaper", false), ("Nothing", false), ("TooMany", false), ("TooLong", false), ("TooGreat", false), ("NoDeed", false), ("NoName", false), ("Standing", false), ("Full", false), ("NoMark", false)],
  isTB K (.ref (He.ga K "NoPlace")) [("RoadError", false), ("NoWeb", false), ("NoPlace", true), ("NoOrder", false), ("NoRound", false), ("NoNumber", false), ("NoWorth", false), ("NoNumbers", false), ("NotRich", false), ("NotFull", false), ("NotLevel", false), ("NoPaper", false), ("Nothing", false), ("TooMany", false), ("TooLong", false), ("TooGreat", false), ("NoDeed", false), ("NoName", false), ("Standing", false), ("Full", false), ("NoMark", false)],
  isTB K (.ref (He.ga K "NoWeb")) [("RoadError", false), ("NoWeb", true), ("NoPlace", false), ("NoOrder", false), ("NoRound", false), ("NoNumber", false), ("NoWorth", false), ("NoNumbers", false), ("NotRich", false), ("NotFull", false), ("NotLevel", false), ("NoPaper", false), ("Nothing", false), ("TooMany", false), ("TooLong", false), ("TooGreat", false), ("NoDeed", false), ("NoName", false), ("Standing", false), ("Full", false), ("NoMark", false)],
  isTB K (.type "ValueError") [("RoadError", true), ("NoWeb", true), ("NoPlace", true), ("NoOrder", true), ("NoRound", true), ("NoNumber", true), ("NoWorth", true), ("NoNumbers", true), ("NotRich", true), ("NotFull", true), ("NotLevel", true), ("NoPaper", true), ("Nothing", true), ("TooMany", true), ("TooLong", true), ("TooGreat", true), ("NoDeed", true), ("NoName", true), ("Standing", true), ("Full", true), ("NoMark", true)],
  isTB K (.ref (He.ga K "RoadError")) [("RoadError", true), ("NoWeb", true), ("NoPlace", true), ("NoOrder", true), ("NoRound", true), ("NoNumber", true), ("NoWorth", true), ("NoNumbers", true), ("NotRich", true), ("NotFull", true), ("NotLevel", true), ("NoPaper", true), ("Nothing", true), ("TooMany", true), ("TooLong", true), ("TooGreat", true), ("NoDeed", true), ("NoName", true), ("Standing", true), ("Full", true), ("NoMark", true)],
  atB K "number" ["NoDeed", "NoMark"],
  atB K "most" ["Full"],
  atB K "name" ["NoName", "Standing"],
  oexB K (He.ga K "NoMark"),
  decide (PySem.W.findIn K (.ref (He.ga K "NoMark")) "number" = some none),
  oexB K (He.ga K "Full"),
  decide (PySem.W.findIn K (.ref (He.ga K "Full")) "most" = some none),
  oexB K (He.ga K "Standing"),
  decide (PySem.W.findIn K (.ref (He.ga K "Standing")) "name" = some none),
  oexB K (He.ga K "NoName"),
  decide (PySem.W.findIn K (.ref (He.ga K "NoName")) "name" = some none),
  oexB K (He.ga K "NoDeed"),
  decide (PySem.W.findIn K (.ref (He.ga K "NoDeed")) "number" = some none),
  iniB K (He.ga K "RoadError")]
def ex (K : PySem.W.Frag) : Bool := (exL K).all id
abbrev R : PySem.W.OpenRow := PySem.W.OpenLaw.row PySem.Challenge.rw_laidroads_k05_refusals_by_hand
abbrev hk : PySem.W.Hook := Mid.hookY 4 fa fn ex
def ob (s : PySem.W.SharedT) : He.AlX := Mid.obsY 4 fa fn ex (HandSHeadRun.getT s)
theorem ob_eq (s : PySem.W.SharedT) : ob s = hk.obs s.abs := Mid.obsY_eq (HandSHeadRun.getT_eq s)
theorem run (w : World) : HandSHeadRun.RunEq R (PySem.W.view R.prog [30]) hk ob 6500 nm w := by
  intro os
  kernel_rfl
end Law
namespace Mid
open PySem PySem.Spec PyProof.Rows L2
def Comp.wp {α : Type} (Q : Nat → α → Prop) (E : Nat → Str → List D → Prop) : Comp α → Nat → Prop
  | .ret a, n => Q n a
  | .draw many k, n => 0 < many ∧ ∀ r, r < many → (k r).wp Q E (n + 1)
  | .err c x, n => E n c x
  | .stuck, _ => False
abbrev NoE : Nat → Str → List D → Prop := fun _ _ _ => False
section
variable {α β : Type} {Q : Nat → α → Prop} {R : Nat → β → Prop} {E : Nat → Str → List D → Prop} {n : Nat}
theorem wp_ret {a : α} : (Comp.ret a).wp Q E n = Q n a := rfl
theorem wp_stuck : (Comp.stuck : Comp α).wp Q E n = False := rfl
theorem wp_err {c : Str} {x : List D} : (Comp.err c x : Comp α).wp Q E n = E n c x := rfl
theorem wp_bind {c : Comp β} {f : β → Comp α} : (c.bind f).wp Q E n = c.wp (fun m a => (f a).wp Q E m) E n := by
  induction c generalizing n with
  | ret a => rfl
  | draw m k ih => simp only [Comp.bind, Comp.wp, ih]
  | err c x => rfl
  | stuck => rfl
theorem wp_try {c : Comp β} {f : β → Comp α} {g : Str → List D → Comp α} : (c.try_ f g).wp Q E n = c.wp (fun m a => (f a).wp Q E m) (fun m c x => (g c x).wp Q E m) n := by
  induction c generalizing n with
  | ret a => rfl
  | draw m k ih => simp only [Comp.try_, Comp.wp, ih]
  | err c x => rfl
  | stuck => rfl
theorem wp_ite {p : Prop} [Decidable p] {a b : Comp α} : (if p then a else b).wp Q E n = ((p → a.wp Q E n) ∧ (¬ p → b.wp Q E n)) := by
  by_cases h : p
  · rw [if_pos h]; exact propext ⟨fun q => ⟨fun _ => q, fun z => absurd h z⟩, fun q => q.1 h⟩
  · rw [if_neg h]; exact propext ⟨fun q => ⟨fun z => absurd z h, fun _ => q⟩, fun q => q.2 h⟩
theorem wp_mono {Q' : Nat → α → Prop} {E' : Nat → Str → List D → Prop} {c : Comp α} (h : c.wp Q E n) (hq : ∀ m a, n ≤ m → Q m a → Q' m a) (he : ∀ m c x, n ≤ m → E m c x → E' m c x) : c.wp Q' E' n := by
  induction c generalizing n with
  | ret a => exact hq _ _ (Nat.le_refl _) h
  | draw m k ih => exact ⟨h.1, fun r hr => ih r (h.2 r hr) (fun m a l => hq m a (by omega)) fun m c x l => he m c x (by omega)⟩
  | err c x => exact he _ _ _ (Nat.le_refl _) h
  | stuck => exact h
theorem wp_sure {c : Comp α} (h : c.wp Q NoE n) : c.sure.wp Q E n := by
  induction c generalizing n with
  | ret a => exact h
  | draw m k ih => exact ⟨h.1, fun r hr => ih r (h.2 r hr)⟩
  | err c x => exact h.elim
  | stuck => exact h
theorem ret_of_wp {c : Comp α} {v : α} (h : c.wp (fun m a => m = 0 ∧ a = v) NoE 0) : c = .ret v := by
  have key : ∀ (c : Comp α) (k : Nat), 0 < k → ¬ c.wp (fun m a => m = 0 ∧ a = v) NoE k := by
    intro c
    induction c with
    | ret a => intro k hk h; exact absurd h.1 (by omega)
    | draw m f ih => intro k hk h; exact ih 0 (k + 1) (by omega) (h.2 0 h.1)
    | err c x => exact fun _ _ h => h
    | stuck => exact fun _ _ h => h
  cases c with
  | ret a => exact congrArg _ h.2
  | draw m f => exact absurd (h.2 0 h.1) (key _ _ (by omega))
  | err c x => exact h.elim
  | stuck => exact h.elim
theorem all_of_wp {b : Nat} {P : α → Prop} {c : Comp α} (h : c.wp (fun m a => m ≤ b ∧ P a) NoE 0) : c.all (fun _ a => P a) NoErr b := by
  have low : ∀ (c : Comp α) (k : Nat), c.wp (fun m a => m ≤ b ∧ P a) NoE k → k ≤ b := by
    intro c
    induction c with
    | ret a => intro k h; exact h.1
    | draw m f ih => intro k h; exact Nat.le_of_succ_le (ih 0 (k + 1) (h.2 0 h.1))
    | err c x => exact fun _ h => h.elim
    | stuck => exact fun _ h => h.elim
  have key : ∀ (c : Comp α) (k : Nat), c.wp (fun m a => m ≤ b ∧ P a) NoE k → c.all (fun _ a => P a) NoErr (b - k) := by
    intro c
    induction c with
    | ret a => intro k h; exact h.2
    | draw m f ih =>
      intro k h
      have := low _ _ (h.2 0 h.1)
      exact ⟨b - (k + 1), by omega, h.1, fun r hr => ih r (k + 1) (h.2 r hr)⟩
    | err c x => exact fun _ h => h.elim
    | stuck => exact fun _ h => h.elim
  exact key c 0 h
end
theorem good_of {c : Env → Comp (Fl × Env)} {k b : Nat} (h : (c (lawE k)).wp (fun m r => m ≤ b ∧ (match r.1 with
  | .rt d => d = .bl true
  | _ => False)) NoE 0) : Good c k b := all_of_wp h
section
variable {α : Type} {Q : Nat → Fl × Env → Prop} {E : Nat → Str → List D → Prop} {n m i j : Nat} {vs : List Nat} {f g : Env → Comp (Fl × Env)} {h h2 : Env → Comp D} {c : Env → Comp Bool} {ρ : Env}
def seqQ (g : Env → Comp (Fl × Env)) (Q : Nat → Fl × Env → Prop) (E : Nat → Str → List D → Prop) (m : Nat) (r : Fl × Env) : Prop := match r with
  | (.nx, ρ) => (g ρ).wp Q E m
  | r => Q m r
theorem seqQ_nx : seqQ g Q E m (.nx, ρ) = (g ρ).wp Q E m := rfl
theorem seqQ_rt {d : D} : seqQ g Q E m (.rt d, ρ) = Q m (.rt d, ρ) := rfl
theorem seqQ_er {d : Str} {x : List D} : seqQ g Q E m (.er d x, ρ) = Q m (.er d x, ρ) := rfl
theorem seqQ_bk : seqQ g Q E m (.bk, ρ) = Q m (.bk, ρ) := rfl
theorem seqQ_ct : seqQ g Q E m (.ct, ρ) = Q m (.ct, ρ) := rfl
theorem wp_seq : (sSeq f g ρ).wp Q E n = (f ρ).wp (seqQ g Q E) E n := by
  unfold sSeq
  rw [wp_bind]
  congr 1
  funext m r
  obtain ⟨fl, ρ'⟩ := r
  cases fl <;> rfl
theorem wp_nil : (sNil ρ).wp Q E n = Q n (.nx, ρ) := rfl
def errQ (vs : List Nat) (ρ : Env) (Q : Nat → Fl × Env → Prop) (m : Nat) (c : Str) (x : List D) : Prop := Q m (.er c x, upX vs x ρ)
def asgQ (i : Nat) (vs : List Nat) (ρ : Env) (Q : Nat → Fl × Env → Prop) (m : Nat) (d : D) : Prop := Q m (.nx, (upE vs d ρ).set i (some d))
theorem wp_asg : (sAsg i vs h ρ).wp Q E n = (h (fzE ρ)).wp (asgQ i vs ρ Q) (errQ vs ρ Q) n := by unfold sAsg run; rw [wp_try]; rfl
def expQ (ρ : Env) (Q : Nat → Fl × Env → Prop) (m : Nat) (_ : D) : Prop := Q m (.nx, ρ)
theorem wp_expr : (sExpr vs h ρ).wp Q E n = (h (fzE ρ)).wp (expQ ρ Q) (errQ vs ρ Q) n := by unfold sExpr run; rw [wp_try]; rfl
def rtQ (vs : List Nat) (ρ : Env) (Q : Nat → Fl × Env → Prop) (m : Nat) (d : D) : Prop := Q m (.rt d, upE vs d ρ)
theorem wp_rt : (sRet vs h ρ).wp Q E n = (h (fzE ρ)).wp (rtQ vs ρ Q) (errQ vs ρ Q) n := by unfold sRet run; rw [wp_try]; rfl
def ifQ (f g : Env → Comp (Fl × Env)) (ρ : Env) (Q : Nat → Fl × Env → Prop) (E : Nat → Str → List D → Prop) (m : Nat) (b : Bool) : Prop := (b = true → (f ρ).wp Q E m) ∧ (b = false → (g ρ).wp Q E m)
theorem wp_if : (sIf vs c f g ρ).wp Q E n = (c (fzE ρ)).wp (ifQ f g ρ Q E) (errQ vs ρ Q) n := by
  unfold sIf runB
  rw [wp_try]
  have : (fun m a => (if a = true then f ρ else g ρ).wp Q E m) = ifQ f g ρ Q E := by
    funext m a
    cases a
    · rw [if_neg Bool.false_ne_true]; exact propext ⟨fun q => ⟨fun z => Bool.noConfusion z, fun _ => q⟩, fun q => q.2 rfl⟩
    · rw [if_pos rfl]; exact propext ⟨fun q => ⟨fun _ => q, fun z => Bool.noConfusion z⟩, fun q => q.1 rfl⟩
  rw [this]; rfl
theorem wp_k {ks : List Nat} : (sK ks f ρ).wp Q E n = (f ρ).wp (fun m r => Q m (r.1, wipeE r.2 ks)) E n := by unfold sK; rw [wp_bind]; rfl
def par2Q (i j : Nat) (vs : List Nat) (ρ : Env) (d1 : D) (Q : Nat → Fl × Env → Prop) (m : Nat) (d2 : D) : Prop := Q m (.nx, ((upE vs d2 ρ).set i (some d1)).set j (some d2))
def parQ (i j : Nat) (vs : List Nat) (h : Env → Comp D) (ρ : Env) (Q : Nat → Fl × Env → Prop) (m : Nat) (d1 : D) : Prop := (h (fzE (upE vs d1 ρ))).wp (par2Q i j vs (upE vs d1 ρ) d1 Q) (errQ vs (upE vs d1 ρ) Q) m
theorem wp_par : (sPar i j vs h h2 ρ).wp Q E n = (h (fzE ρ)).wp (parQ i j vs h2 ρ Q) (errQ vs ρ Q) n := by
  unfold sPar run
  rw [wp_try]
  congr 1
  funext m d1
  rw [wp_try]; rfl
def unpQ (vs : List Nat) (t : Tg) (ρ : Env) (Q : Nat → Fl × Env → Prop) (m : Nat) (d : D) : Prop := ∃ ds ρ', d = .tup ds ∧ t (.tup ds) (upE vs (.tup ds) ρ) = some ρ' ∧ Q m (.nx, ρ')
theorem wp_unp {t : Tg} : (sUnp vs t h ρ).wp Q E n = (h (fzE ρ)).wp (unpQ vs t ρ Q) (errQ vs ρ Q) n := by
  unfold sUnp run
  rw [wp_try]
  congr 1
  funext m d
  cases d with
  | tup ds =>
    show Comp.wp Q E (match t (.tup ds) (upE vs (.tup ds) ρ) with
      | some ρ' => .ret (.nx, ρ')
      | none => .stuck) m = _
    cases e : t (.tup ds) (upE vs (.tup ds) ρ) with
    | none => exact propext ⟨fun z => z.elim, fun ⟨ds', ρ', h1, h2, _⟩ => by cases h1; rw [e] at h2; cases h2⟩
    | some ρ' => exact propext ⟨fun z => ⟨ds, ρ', rfl, e, z⟩, fun ⟨ds', ρ2, h1, h2, z⟩ => by cases h1; rw [e] at h2; cases h2; exact z⟩
  | _ => exact propext ⟨fun z => z.elim, fun ⟨ds', ρ', h1, _⟩ => by cases h1⟩
def rtvQ (x : Option (Option D)) (ρ : Env) (Q : Nat → Fl × Env → Prop) (m : Nat) : Prop := match x with
  | some (some d) => brw d = false ∧ Q m (.rt d, ρ)
  | _ => False
theorem rtvQ_eq {d : D} : rtvQ (some (some d)) ρ Q m = (brw d = false ∧ Q m (.rt d, ρ)) := rfl
theorem wp_rtV : (sRetV i ρ).wp Q E n = rtvQ ρ[i]? (ρ.set i none) Q n := by
  unfold sRetV
  match ρ[i]? with
  | some (some d) =>
    rw [rtvQ_eq]
    cases hb : brw d
    · simp only []; rw [hb, if_neg Bool.false_ne_true]; exact propext ⟨fun q => ⟨trivial, q⟩, fun q => q.2⟩
    · simp only []; rw [hb, if_pos rfl]; exact propext ⟨fun q => q.elim, fun q => Bool.noConfusion q.1⟩
  | some none => rfl
  | none => rfl
theorem wp_rtN : (sRetN ρ).wp Q E n = Q n (.rt .non, ρ) := rfl
theorem wp_break : (sBreak ρ).wp Q E n = Q n (.bk, ρ) := rfl
theorem wp_cont : (sCont ρ).wp Q E n = Q n (.ct, ρ) := rfl
theorem wp_raise {d : Str} : (sRaise d ρ).wp Q E n = Q n (.er d [], ρ) := rfl
def forQ (t : Tg) (f : Env → Comp (Fl × Env)) (ρ : Env) (Q : Nat → Fl × Env → Prop) (E : Nat → Str → List D → Prop) (m : Nat) (ds : List D) : Prop := (forL t f ds ρ).wp Q E m
theorem wp_forR {t : Tg} {it : Env → Comp (List D)} : (sForR vs it t f ρ).wp Q E n = (it (fzE ρ)).wp (forQ t f ρ Q E) (errQ vs ρ Q) n := by unfold sForR; rw [wp_try]; rfl
theorem wp_forS {t : Tg} {it : Env → Comp (List D)} : (sForS vs it t f ρ).wp Q E n = (it (fzE ρ)).wp (forQ t f (frzE vs ρ) Q E) (errQ vs ρ Q) n := by unfold sForS; rw [wp_try]; rfl
/-- what a turn of a loop leaves -/
def turnQ (N : Nat → Env → Prop) (Q : Nat → Fl × Env → Prop) (m : Nat) (r : Fl × Env) : Prop := match r with
  | (.nx, ρ) => N m ρ
  | (.ct, ρ) => N m ρ
  | (.bk, ρ) => Q m (.nx, ρ)
  | r => Q m r
theorem turnQ_nx {N : Nat → Env → Prop} : turnQ N Q m (.nx, ρ) = N m ρ := rfl
theorem turnQ_ct {N : Nat → Env → Prop} : turnQ N Q m (.ct, ρ) = N m ρ := rfl
theorem turnQ_bk {N : Nat → Env → Prop} : turnQ N Q m (.bk, ρ) = Q m (.nx, ρ) := rfl
theorem turnQ_rt {N : Nat → Env → Prop} {d : D} : turnQ N Q m (.rt d, ρ) = Q m (.rt d, ρ) := rfl
theorem turnQ_er {N : Nat → Env → Prop} {d : Str} {x : List D} : turnQ N Q m (.er d x, ρ) = Q m (.er d x, ρ) := rfl
theorem wp_forL {t : Tg} (I : Nat → Nat → Env → Prop) : ∀ {ds : List D} {k m : Nat} {ρ : Env}, I k m ρ → (∀ i d m ρ, ds[i]? = some d → I (k + i) m ρ → ∃ ρ', t d ρ = some ρ' ∧ (f ρ').wp (turnQ (I (k + i + 1)) Q) E m) → (∀ m ρ, I (k + ds.length) m ρ → Q m (.nx, ρ)) → (forL t f ds ρ).wp Q E m
  | [], k, m, ρ, h0, _, hl => hl m ρ h0
  | d :: ds, k, m, ρ, h0, hs, hl => by
    obtain ⟨ρ', e, w⟩ := hs 0 d m ρ rfl h0
    unfold Mid.forL
    rw [e]
    simp only []
    rw [wp_bind]
    refine wp_mono w (fun m2 r l q => ?_) fun _ _ _ _ q => q
    have go : ∀ ρ2, I (k + 0 + 1) m2 ρ2 → (Mid.forL t f ds ρ2).wp Q E m2 := fun ρ2 q => wp_forL I (k := k + 1) q (fun i d m ρ hd q => by
      have := hs (i + 1) d m ρ hd (by rw [show k + (i + 1) = k + 1 + i by omega]; exact q)
      rw [show k + (i + 1) + 1 = k + 1 + i + 1 by omega] at this
      exact this) (fun m ρ q => hl m ρ (by rw [show k + (d :: ds).length = k + 1 + ds.length by simp only [List.length_cons]; omega]; exact q))
    obtain ⟨fl, ρ2⟩ := r
    cases fl with
    | nx => exact go ρ2 q
    | ct => exact go ρ2 q
    | bk => exact q
    | rt d => exact q
    | er c x => exact q
def onW (x : Option (Ow × List D)) (k : Ow → List D → Prop) : Prop := match x with
  | some (w, xs) => k w xs
  | none => False
theorem onW_some {w : Ow} {xs : List D} {k : Ow → List D → Prop} : onW (some (w, xs)) k = k w xs := rfl
def onN (x : Option Nat) (k : Nat → Prop) : Prop := match x with
  | some j => k j
  | none => False
theorem onN_some {j : Nat} {k : Nat → Prop} : onN (some j) k = k j := rfl
def onI (d : D) (k : Int → Prop) : Prop := match d with
  | .int z => k z
  | _ => False
theorem onI_int {z : Int} {k : Int → Prop} : onI (.int z) k = k z := rfl
def onL (x : Option D) (k : List D → Prop) : Prop := match x with
  | some (.lst .t ys) => k ys
  | _ => False
theorem onL_some {ys : List D} {k : List D → Prop} : onL (some (.lst .t ys)) k = k ys := rfl
def appQ (i : Nat) (vs : List Nat) (ρ : Env) (Q : Nat → Fl × Env → Prop) (m : Nat) (d : D) : Prop := onW (ownAt (upE vs d ρ) i) fun w xs => xs.length < sizeLine ∧ Q m (.nx, (upE vs d ρ).set i (some (.lst w (xs ++ [d]))))
theorem wp_app : (sApp i vs h ρ).wp Q E n = onW (ownAt ρ i) fun _ _ => (h (fzE ρ)).wp (appQ i vs ρ Q) (errQ vs ρ Q) n := by
  unfold sApp
  cases e : ownAt ρ i with
  | none => rfl
  | some p =>
    obtain ⟨w0, xs0⟩ := p
    simp only [onW_some]
    unfold run
    rw [wp_try]
    congr 1
    funext m d
    unfold appQ
    cases e2 : ownAt (upE vs d ρ) i with
    | none => rfl
    | some p =>
      obtain ⟨w, xs⟩ := p
      simp only [onW_some, wp_ite, wp_ret, wp_stuck]
      exact propext ⟨fun q => by
        by_cases hl : xs.length < sizeLine
        · exact ⟨hl, q.1 hl⟩
        · exact (q.2 hl).elim, fun q => ⟨fun _ => q.2, fun z => absurd q.1 z⟩⟩
theorem set_is {xs : List D} {k : Nat} {z : Int} {j : Nat} {d : D} (e : ixN xs.length z = some j) : xs.take j ++ ([d] ++ xs.drop (j + 1)) = xs.set j d :=
  ((List.set_eq_take_append_cons_drop (a := d) (i := j) (l := xs)).trans (if_pos (ixN_lt e))).symm
def set1bQ (i : Nat) (w : Ow) (xs : List D) (d : D) (ρ : Env) (Q : Nat → Fl × Env → Prop) (m : Nat) (k : D) : Prop := onI k fun z => onN (ixN xs.length z) fun j => Q m (.nx, ρ.set i (some (.lst w (xs.set j d))))
def set1Q (i : Nat) (vs : List Nat) (g : Env → Comp D) (ρ : Env) (Q : Nat → Fl × Env → Prop) (m : Nat) (d : D) : Prop := onW (ownAt (upE vs d ρ) i) fun w xs => (g (fzE (upE vs d ρ))).wp (set1bQ i w xs d (upE vs d ρ) Q) (errQ vs (upE vs d ρ) Q) m
theorem wp_set1 : (sSet1 i vs h h2 ρ).wp Q E n = (h (fzE ρ)).wp (set1Q i vs h2 ρ Q) (errQ vs ρ Q) n := by
  unfold sSet1 run
  rw [wp_try]
  congr 1
  funext m d
  unfold set1Q
  cases e2 : ownAt (upE vs d ρ) i with
  | none => rfl
  | some p =>
    obtain ⟨w, xs⟩ := p
    simp only [onW_some]
    rw [wp_try]
    congr 1
    funext m k
    unfold set1bQ
    cases k with
    | int z =>
      simp only [onI_int]
      cases e : ixN xs.length z with
      | none => rfl
      | some j => simp only [onN_some]; rw [wp_ret, set_is (k := 0) e]
    | _ => rfl
def set2cQ (i : Nat) (w : Ow) (xs ys : List D) (j1 : Nat) (d : D) (ρ : Env) (Q : Nat → Fl × Env → Prop) (m : Nat) (k : D) : Prop := onI k fun z => onN (ixN ys.length z) fun j2 => Q m (.nx, ρ.set i (some (.lst w (xs.set j1 (.lst .t (ys.set j2 d))))))
def set2bQ (i : Nat) (vs : List Nat) (g : Env → Comp D) (w : Ow) (xs : List D) (d : D) (ρ : Env) (Q : Nat → Fl × Env → Prop) (m : Nat) (k : D) : Prop := onI k fun z => onN (ixN xs.length z) fun j1 => onL xs[j1]? fun ys => (g (fzE ρ)).wp (set2cQ i w xs ys j1 d ρ Q) (errQ vs ρ Q) m
def set2Q (i : Nat) (vs : List Nat) (h g : Env → Comp D) (ρ : Env) (Q : Nat → Fl × Env → Prop) (m : Nat) (d : D) : Prop := onW (ownAt (upE vs d ρ) i) fun w xs => (h (fzE (upE vs d ρ))).wp (set2bQ i vs g w xs d (upE vs d ρ) Q) (errQ vs (upE vs d ρ) Q) m
theorem wp_set2 {h3 : Env → Comp D} : (sSet2 i vs h h2 h3 ρ).wp Q E n = (h (fzE ρ)).wp (set2Q i vs h2 h3 ρ Q) (errQ vs ρ Q) n := by
  unfold sSet2 run
  rw [wp_try]
  congr 1
  funext m d
  unfold set2Q
  cases e2 : ownAt (upE vs d ρ) i with
  | none => rfl
  | some p =>
    obtain ⟨w, xs⟩ := p
    simp only [onW_some]
    rw [wp_try]
    congr 1
    funext m k
    unfold set2bQ
    cases k with
    | int z =>
      simp only [onI_int]
      cases e : ixN xs.length z with
      | none => rfl
      | some j1 =>
        simp only [onN_some]
        cases hx : xs[j1]? with
        | none => rfl
        | some x =>
          cases x with
          | lst o ys =>
            cases o with
            | t =>
              simp only [onL_some]
              rw [wp_try]
              congr 1
              funext m k
              unfold set2cQ
              cases k with
              | int z =>
                simp only [onI_int]
                cases e : ixN ys.length z with
                | none => rfl
                | some j => simp only [onN_some]; rw [wp_ret, set_is (k := 0) e]
              | _ => rfl
            | _ => rfl
          | _ => rfl
    | _ => rfl
def insAt {α : Type} (xs : List α) (j : Nat) (x : α) : List α := xs.take j ++ x :: xs.drop j
def insbQ (i : Nat) (vs : List Nat) (z : Int) (ρ : Env) (Q : Nat → Fl × Env → Prop) (m : Nat) (d : D) : Prop := onW (ownAt (upE vs d ρ) i) fun w xs => (xs.length < sizeLine ∧ 0 ≤ z ∧ z < 2 ^ 63) ∧ Q m (.nx, (upE vs d ρ).set i (some (.lst w (insAt xs z.toNat d))))
def insQ (i : Nat) (vs : List Nat) (g : Env → Comp D) (ρ : Env) (Q : Nat → Fl × Env → Prop) (m : Nat) (k : D) : Prop := onI k fun z => (g (fzE ρ)).wp (insbQ i vs z ρ Q) (errQ vs ρ Q) m
theorem wp_ins : (sIns i vs h h2 ρ).wp Q E n = onW (ownAt ρ i) fun _ _ => (h (fzE ρ)).wp (insQ i vs h2 ρ Q) (errQ vs ρ Q) n := by
  unfold sIns
  cases e : ownAt ρ i with
  | none => rfl
  | some p =>
    obtain ⟨w0, xs0⟩ := p
    simp only [onW_some]
    unfold run
    rw [wp_try]
    congr 1
    funext m d
    unfold insQ
    cases d with
    | int z =>
      simp only [onI_int]
      rw [wp_try]
      congr 1
      funext m d
      unfold insbQ
      cases e2 : ownAt (upE vs d ρ) i with
      | none => rfl
      | some p =>
        obtain ⟨w, xs⟩ := p
        simp only [onW_some, wp_ite, wp_stuck]
        exact propext ⟨fun q => by
          by_cases hl : xs.length < sizeLine ∧ 0 ≤ z ∧ z < 2 ^ 63
          · exact ⟨hl, q.1 hl⟩
          · exact (q.2 hl).elim, fun q => ⟨fun _ => q.2, fun z => absurd q.1 z⟩⟩
    | _ => rfl
def popQ (i : Nat) (w : Ow) (xs : List D) (ρ : Env) (Q : Nat → Fl × Env → Prop) (m : Nat) (k : D) : Prop := onI k fun z => (-(2 ^ 63) ≤ z ∧ z < 2 ^ 63) ∧ onN (ixN xs.length z) fun j => Q m (.nx, ρ.set i (some (.lst w (xs.eraseIdx j))))
theorem wp_pop : (sPopAt i vs h ρ).wp Q E n = onW (ownAt ρ i) fun w xs => (h (fzE ρ)).wp (popQ i w xs ρ Q) (errQ vs ρ Q) n := by
  unfold sPopAt
  cases e : ownAt ρ i with
  | none => rfl
  | some p =>
    obtain ⟨w, xs⟩ := p
    simp only [onW_some]
    unfold run
    rw [wp_try]
    congr 1
    funext m d
    unfold popQ
    cases d with
    | int z =>
      simp only [onI_int, wp_ite, wp_stuck]
      cases e2 : ixN xs.length z with
      | none => exact propext ⟨fun q => by
          by_cases hl : -(2 ^ 63) ≤ z ∧ z < 2 ^ 63
          · exact (q.1 hl).elim
          · exact (q.2 hl).elim, fun q => q.2.elim⟩
      | some j =>
        simp only [onN_some, wp_ret]
        rw [show xs.take j ++ ([] ++ xs.drop (j + 1)) = xs.eraseIdx j from (List.eraseIdx_eq_take_drop_succ xs j).symm]
        exact propext ⟨fun q => by
          by_cases hl : -(2 ^ 63) ≤ z ∧ z < 2 ^ 63
          · exact ⟨hl, q.1 hl⟩
          · exact (q.2 hl).elim, fun q => ⟨fun _ => q.2, fun z => absurd q.1 z⟩⟩
    | _ => rfl
end
def outQ (Q : Nat → D → Prop) (E : Nat → Str → List D → Prop) (m : Nat) (r : Fl × Env) : Prop := match r.1 with
  | .rt d => Q m d
  | .nx => Q m .non
  | .er c x => E m c x
  | _ => False
theorem wp_fn {k n : Nat} {c : Env → Comp (Fl × Env)} {ds : List D} {Q : Nat → D → Prop} {E : Nat → Str → List D → Prop} : (fnB k c ds).wp Q E n = (c (startE k ds)).wp (outQ Q E) NoE n := by
  unfold fnB
  rw [wp_try]
  congr 1
  funext m r
  obtain ⟨fl, ρ⟩ := r
  cases fl <;> rfl
/-- a def whose answer is v, by its body -/
theorem fn_eq {k : Nat} {c : Env → Comp (Fl × Env)} {ds : List D} {v : D} (h : (c (startE k ds)).wp (outQ (fun m d => m = 0 ∧ d = v) NoE) NoE 0) : fnB k c ds = .ret v := ret_of_wp (by rw [wp_fn]; exact h)
theorem wp_take {Q : Nat → D → Prop} {E : Nat → Str → List D → Prop} {n : Nat} {z : Int} (h0 : 0 < z) (h1 : z < 2 ^ 200) : (gTake [.pen, .int z]).wp Q E n = ∀ r : Nat, (r : Int) < z → Q (n + 1) (.int (r : Int)) := by
  have e : gTake [.pen, .int z] = .draw z.toNat fun r => .ret (.int (r : Int)) := if_pos ⟨h0, h1⟩
  rw [e]
  exact propext ⟨fun q r hr => q.2 r (by omega), fun q => ⟨by omega, fun r hr => q r (by omega)⟩⟩
end Mid
namespace Mid
open PySem PySem.Spec PyProof.Rows L2
@[irreducible] def rg {α : Type} (n : Nat) (f : Nat → α) : List α := (List.range n).map f
theorem rg_length {α : Type} (n : Nat) (f : Nat → α) : (rg n f).length = n := by unfold rg; simp
theorem rg_get {α : Type} (n : Nat) (f : Nat → α) (i : Nat) (h : i < n) : (rg n f)[i]? = some (f i) := by unfold rg; simp [h]
theorem rg_get? {α : Type} (n : Nat) (f : Nat → α) (i : Nat) : (rg n f)[i]? = if i < n then some (f i) else none := by
  by_cases h : i < n
  · rw [rg_get n f i h, if_pos h]
  · rw [if_neg h, List.getElem?_eq_none (by rw [rg_length]; omega)]
theorem rg_ext {α : Type} {n m : Nat} {f g : Nat → α} (e : n = m) (h : ∀ i, i < m → f i = g i) : rg n f = rg m g := by
  subst e
  unfold rg
  exact List.map_congr_left fun i hi => h i (List.mem_range.mp hi)
theorem rg_zero {α : Type} (f : Nat → α) : rg 0 f = [] := by unfold rg; rfl
theorem rg_succ {α : Type} (n : Nat) (f : Nat → α) : rg (n + 1) f = rg n f ++ [f n] := by unfold rg; rw [List.range_succ, List.map_append]; rfl
theorem rg_map {α β : Type} (n : Nat) (f : Nat → α) (g : α → β) : (rg n f).map g = rg n fun i => g (f i) := by unfold rg; rw [List.map_map]; rfl
theorem rg_of {α : Type} (x0 : α) (xs : List α) : xs = rg xs.length fun i => xs.getD i x0 := by
  refine List.ext_getElem? fun i => ?_
  rw [rg_get?]
  by_cases h : i < xs.length
  · rw [if_pos h, List.getElem?_eq_getElem h, List.getD_eq_getElem?_getD, List.getElem?_eq_getElem h]; rfl
  · rw [if_neg h, List.getElem?_eq_none (by omega)]
theorem rg_set {α : Type} (n : Nat) (f : Nat → α) (j : Nat) (x : α) : (rg n f).set j x = rg n fun i => if i = j then x else f i := by
  refine List.ext_getElem? fun k => ?_
  rw [List.getElem?_set, rg_length, rg_get?, rg_get?]
  by_cases hk : k < n
  · by_cases e : j = k
    · subst e; rw [if_pos rfl, if_pos hk, if_pos hk, if_pos rfl]
    · rw [if_neg e, if_pos hk, if_pos hk, if_neg (fun z => e z.symm)]
  · by_cases e : j = k
    · subst e; rw [if_pos rfl, if_neg hk, if_neg hk]
    · rw [if_neg e, if_neg hk, if_neg hk]
theorem rg_erase {α : Type} (n : Nat) (f : Nat → α) (j : Nat) (h : j < n) : (rg n f).eraseIdx j = rg (n - 1) fun i => f (if i < j then i else i + 1) := by
  refine List.ext_getElem? fun k => ?_
  rw [List.getElem?_eraseIdx, rg_get?, rg_get?, rg_get?]
  by_cases hk : k < j
  · rw [if_pos hk, if_pos (by omega), if_pos (by omega), if_pos hk]
  · rw [if_neg hk]
    by_cases h2 : k + 1 < n
    · rw [if_pos h2, if_pos (by omega), if_neg hk]
    · rw [if_neg h2, if_neg (by omega)]
theorem rg_take {α : Type} (n : Nat) (f : Nat → α) (j : Nat) : (rg n f).take j = rg (min j n) f := by
  refine List.ext_getElem? fun k => ?_
  rw [List.getElem?_take, rg_get?, rg_get?]
  by_cases hk : k < j
  · rw [if_pos hk]
    by_cases h2 : k < n
    · rw [if_pos h2, if_pos (by omega)]
    · rw [if_neg h2, if_neg (by omega)]
  · rw [if_neg hk, if_neg (by omega)]
theorem rg_drop {α : Type} (n : Nat) (f : Nat → α) (j : Nat) : (rg n f).drop j = rg (n - j) fun i => f (j + i) := by
  refine List.ext_getElem? fun k => ?_
  rw [List.getElem?_drop, rg_get?, rg_get?]
  by_cases h2 : j + k < n
  · rw [if_pos h2, if_pos (by omega)]
  · rw [if_neg h2, if_neg (by omega)]
theorem rg_append {α : Type} (n m : Nat) (f g : Nat → α) : rg n f ++ rg m g = rg (n + m) fun i => if i < n then f i else g (i - n) := by
  refine List.ext_getElem? fun k => ?_
  rw [List.getElem?_append, rg_length, rg_get?, rg_get?, rg_get?]
  by_cases h : k < n
  · rw [if_pos h, if_pos h, if_pos (by omega), if_pos h]
  · rw [if_neg h]
    by_cases h2 : k - n < m
    · rw [if_pos h2, if_pos (by omega), if_neg h]
    · rw [if_neg h2, if_neg (by omega)]
theorem rg_cons {α : Type} (m : Nat) (x : α) (g : Nat → α) : x :: rg m g = rg (m + 1) fun i => if i = 0 then x else g (i - 1) := by
  have := rg_append 1 m (fun _ => x) g
  rw [show 1 + m = m + 1 by omega, show rg 1 (fun _ => x) = [x] by unfold rg; rfl] at this
  refine Eq.trans this (rg_ext rfl fun i _ => ?_)
  by_cases h : i = 0
  · rw [if_pos h, if_pos (by omega)]
  · rw [if_neg h, if_neg (by omega)]
theorem rg_insert {α : Type} (n : Nat) (f : Nat → α) (j : Nat) (x : α) (h : j ≤ n) : (rg n f).take j ++ x :: (rg n f).drop j = rg (n + 1) fun i => if i < j then f i else if i = j then x else f (i - 1) := by
  rw [rg_take, rg_drop, rg_cons, rg_append]
  refine rg_ext (by omega) fun i hi => ?_
  rw [show min j n = j by omega]
  by_cases h1 : i < j
  · rw [if_pos h1, if_pos h1]
  · rw [if_neg h1, if_neg h1]
    by_cases h2 : i = j
    · rw [if_pos h2, if_pos (by omega)]
    · rw [if_neg h2, if_neg (by omega)]
      congr 1; omega
theorem insAt_rg {α : Type} (n : Nat) (f : Nat → α) (j : Nat) (x : α) (h : j ≤ n) : insAt (rg n f) j x = rg (n + 1) fun i => if i < j then f i else if i = j then x else f (i - 1) := rg_insert n f j x h
theorem rg_rep {α : Type} (n : Nat) (x : α) : (List.replicate n [x]).flatten = rg n fun _ => x := by
  induction n with
  | zero => rw [rg_zero]; rfl
  | succ n ih => rw [rg_succ, ← ih, List.replicate_succ', List.flatten_append]; rfl
theorem fzL_rg (n : Nat) (f : Nat → D) : fzL (rg n f) = rg n fun i => fz (f i) := by
  unfold rg
  generalize List.range n = L
  induction L with
  | nil => rfl
  | cons a L ih => exact congrArg (_ :: ·) ih
theorem noShrL_rg (n : Nat) (f : Nat → D) (h : ∀ i, i < n → noShr (f i) = true) : noShrL (rg n f) = true := by
  have key : ∀ L : List Nat, (∀ i ∈ L, i < n) → noShrL (L.map f) = true := by
    intro L
    induction L with
    | nil => intro _; rfl
    | cons a L ih => intro hL; show (noShr (f a) && noShrL (L.map f)) = true; rw [h a (hL a List.mem_cons_self), ih fun i hi => hL i (List.mem_cons_of_mem _ hi)]; rfl
  unfold rg
  exact key _ fun i hi => List.mem_range.mp hi
theorem atI_rg {n : Nat} {f : Nat → D} {z : Int} (h0 : 0 ≤ z) (h1 : z < n) : atI (rg n f) z = some (f z.toNat) := by
  unfold atI ixN
  rw [rg_length, if_pos h0, if_pos h1]
  exact rg_get n f _ (by omega)
theorem ix_rg_t (n : Nat) (f : Nat → D) (z : Int) (h0 : 0 ≤ z) (h1 : z < n) : dIx (.tup (rg n f)) (.int z) = .ret (f z.toNat) := by
  simp only [dIx, atI_rg h0 h1]
theorem ix_rg_l (b : Ow) (n : Nat) (f : Nat → D) (z : Int) (h0 : 0 ≤ z) (h1 : z < n) : dIx (.lst b (rg n f)) (.int z) = .ret (f z.toNat) := by
  simp only [dIx, atI_rg h0 h1]
theorem ixN_in {n : Nat} {z : Int} (h0 : 0 ≤ z) (h1 : z < n) : ixN n z = some z.toNat := by
  unfold ixN; rw [if_pos h0, if_pos h1]
theorem rangeL_rg (n : Nat) (lo : Int) : rangeL lo n = rg n fun i => .int (lo + (i : Int)) := by
  refine List.ext_getElem? fun k => ?_
  rw [rg_get?]
  by_cases h : k < n
  · rw [if_pos h, rangeL_get h]
  · rw [if_neg h, List.getElem?_eq_none (by rw [rangeL_length]; omega)]
theorem numbered_rg (n : Nat) (f : Nat → D) : numbered 0 (rg n f) = rg n fun i => .pr [.int (i : Int), f i] := by
  refine List.ext_getElem? fun k => ?_
  rw [numbered_get]
  by_cases h : k < n
  · rw [rg_get _ _ _ h, rg_get _ _ _ h]; simp
  · rw [List.getElem?_eq_none (by rw [rg_length]; omega), List.getElem?_eq_none (by rw [rg_length]; omega)]; rfl
theorem pairs_rg (n m : Nat) (f g : Nat → D) : pairs (rg n f) (rg m g) = rg (min n m) fun i => .pr [f i, g i] := by
  refine List.ext_getElem? fun k => ?_
  rw [rg_get?]
  by_cases h : k < min n m
  · rw [if_pos h, pairs_get (rg_get n f k (by omega)) (rg_get m g k (by omega))]
  · rw [if_neg h, List.getElem?_eq_none (by rw [pairs_length, rg_length, rg_length]; omega)]
theorem g_pos {α : Type} {c : Prop} [Decidable c] {a : Comp α} (h : c) : (if c then a else .stuck) = a := if_pos h
theorem sure_ret {α : Type} {a : α} : (Comp.ret a).sure = .ret a := rfl
def stepC (t : Tg) (f : Env → Comp D) (ρ : Env) (d : D) : Comp D := match t d ρ with
  | none => .stuck
  | some ρ' => (f ρ').sure
def onC {α : Type} (x : Option Env) (f : Env → Comp α) : Comp α := match x with
  | none => .stuck
  | some ρ' => (f ρ').sure
theorem onC_some {α : Type} {ρ : Env} {f : Env → Comp α} : onC (some ρ) f = (f ρ).sure := rfl
theorem stepC_eq {t : Tg} {f : Env → Comp D} {ρ : Env} {d : D} : stepC t f ρ d = onC (t d ρ) f := rfl
@[irreducible] def mapR (n : Nat) (g : Nat → Comp D) : Comp (List D) := (List.range n).foldr (fun i r => (g i).bind fun e => r.bind fun es => .ret (e :: es)) (.ret [])
theorem compL_rg0 (t : Tg) (f : Env → Comp D) (ρ : Env) (n : Nat) (E : Nat → D) : compL t cAll f ρ (rg n E) = mapR n fun i => stepC t f ρ (E i) := by
  unfold rg mapR
  generalize List.range n = L
  induction L with
  | nil => rfl
  | cons a L ih =>
    rw [List.map_cons, List.foldr_cons, ← ih]
    show compL t cAll f ρ (E a :: L.map E) = _
    rw [compL]
    show _ = (stepC t f ρ (E a)).bind _
    unfold stepC
    cases t (E a) ρ with
    | none => rfl
    | some ρ' => rfl
theorem mapR_congr {n m : Nat} {f g : Nat → Comp D} (e : n = m) (h : ∀ i, i < m → f i = g i) : mapR n f = mapR m g := by
  subst e
  unfold mapR
  have : ∀ L : List Nat, (∀ i ∈ L, i < n) → L.foldr (fun i r => (f i).bind fun e => r.bind fun es => .ret (e :: es)) (.ret []) = L.foldr (fun i r => (g i).bind fun e => r.bind fun es => .ret (e :: es)) (.ret []) := by
    intro L hL
    induction L with
    | nil => rfl
    | cons a L ih =>
      rw [List.foldr_cons, List.foldr_cons, ih fun i hi => hL i (List.mem_cons_of_mem _ hi), h a (hL a List.mem_cons_self)]
  exact this _ fun i hi => List.mem_range.mp hi
theorem mapR_ret0 (n : Nat) (g : Nat → D) : mapR n (fun i => .ret (g i)) = .ret (rg n g) := by
  unfold mapR rg
  generalize List.range n = L
  induction L with
  | nil => rfl
  | cons a L ih => rw [List.foldr_cons, ih]; rfl
theorem compL_rg (t : Tg) (f : Env → Comp D) (ρ : Env) (n : Nat) (E : Nat → D) : compL t cAll f ρ (rg n E) = mapR n fun i => if i < n then stepC t f ρ (E i) else .stuck := by
  rw [compL_rg0]
  exact mapR_congr rfl fun i hi => (if_pos hi).symm
theorem mapR_ret (n : Nat) (g : Nat → D) : mapR n (fun i => if i < n then .ret (g i) else .stuck) = .ret (rg n g) := by
  rw [← mapR_ret0]
  exact mapR_congr rfl fun i hi => if_pos hi
theorem mapR_wp {Q : Nat → List D → Prop} {E : Nat → Str → List D → Prop} {b : Nat} (P : Nat → D → Prop) : ∀ {n : Nat} {g : Nat → Comp D} {k : Nat}, (∀ i m, i < n → (g i).wp (fun m' d => m' ≤ m + b ∧ P i d) E m) → (∀ f m, m ≤ k + n * b → (∀ i, i < n → P i (f i)) → Q m (rg n f)) → (mapR n g).wp Q E k := by
  intro n g k hg hq
  have key : ∀ (l s : Nat) (L : List Nat), L = List.range' s l → s + l = n → ∀ (k : Nat) (Q : Nat → List D → Prop), (∀ es m, m ≤ k + l * b → es.length = l → (∀ i d, es[i]? = some d → P (s + i) d) → Q m es) → (L.foldr (fun i r => (g i).bind fun e => r.bind fun es => .ret (e :: es)) (.ret [])).wp Q E k := by
    intro l
    induction l with
    | zero => intro s L e _ k Q hq; subst e; exact hq [] k (by omega) rfl fun i d h => by simp at h
    | succ l ih =>
      intro s L e hs k Q hq
      subst e
      rw [List.range'_succ, List.foldr_cons, wp_bind]
      refine wp_mono (hg s k (by omega)) (fun m d _ q => ?_) fun _ _ _ _ q => q
      rw [wp_bind]
      refine ih (s + 1) _ rfl (by omega) m _ fun es m2 h1 h2 h3 => ?_
      refine hq (d :: es) m2 ?_ (by simp [h2]) fun i d' h => ?_
      · have := q.1; rw [Nat.succ_mul]; omega
      · cases i with
        | zero => cases h; exact q.2
        | succ i => have := h3 i d' h; rw [show s + 1 + i = s + (i + 1) by omega] at this; exact this
  unfold mapR
  refine key n 0 _ (List.range_eq_range' ) (by omega) k Q fun es m h1 h2 h3 => ?_
  have e := rg_of D.non es
  rw [e, h2]
  refine hq _ m h1 fun i hi => ?_
  have hi' : i < es.length := by omega
  have := h3 i es[i] (List.getElem?_eq_getElem hi')
  rw [Nat.zero_add] at this
  rw [List.getD_eq_getElem?_getD, List.getElem?_eq_getElem hi']
  exact this
theorem frzE_eq (vs : List Nat) (ρ : Env) : frzE vs ρ = (ρ.zipIdx).map fun p => if vs.contains p.2 then p.1.map fz else p.1 := by
  unfold frzE
  refine List.ext_getElem? fun i => ?_
  simp
  cases ρ[i]? <;> rfl
def frzA (vs : List Nat) (k : Nat) : Env → Env
  | [] => []
  | x :: ρ => (if vs.contains k then x.map fz else x) :: frzA vs (k + 1) ρ
theorem frzE_A (vs : List Nat) (ρ : Env) : frzE vs ρ = frzA vs 0 ρ := by
  have key : ∀ (ρ : Env) (k : Nat), (ρ.zipIdx k).map (fun p => if vs.contains p.2 then p.1.map fz else p.1) = frzA vs k ρ := by
    intro ρ
    induction ρ with
    | nil => intro k; rfl
    | cons x ρ ih => intro k; rw [List.zipIdx_cons, List.map_cons, ih]; rfl
  rw [frzE_eq]; exact key ρ 0
abbrev rowT (n : Nat) (w : Nat → Int) : D := .tup (rg n fun j => .int (w j))
abbrev webT (n : Nat) (W : Nat → Nat → Int) : D := .tup (rg n fun i => .tup (rg n fun j => .int (W i j)))
theorem dEq_int (i j : Int) : dEq (.int i) (.int j) = .ret (.bl (decide (i = j))) := rfl
theorem dNe_int (i j : Int) : dNe (.int i) (.int j) = .ret (.bl (!decide (i = j))) := rfl
theorem dEq_str (i j : Str) : dEq (.str i) (.str j) = .ret (.bl (decide (i = j))) := rfl
theorem dNe_str (i j : Str) : dNe (.str i) (.str j) = .ret (.bl (!decide (i = j))) := rfl
theorem dEq_bl (i j : Bool) : dEq (.bl i) (.bl j) = .ret (.bl (decide (i = j))) := rfl
theorem dNe_bl (i j : Bool) : dNe (.bl i) (.bl j) = .ret (.bl (!decide (i = j))) := rfl
/-- flat data, of depth k at most -/
def fits (k : Nat) (d : D) : Prop := plainD d = true ∧ PyData.canLay0 (pyD d) = true ∧ (pyD d).depth ≤ k
theorem fits_ok {k : Nat} {d : D} (h : fits k d) (hk : k ≤ 64) : okD d = true := by
  unfold okD SeqAt.shaped
  rw [h.1, h.2.1, decide_eq_true (Nat.le_trans h.2.2 hk)]; rfl
theorem fits_int (i : Int) : fits 0 (.int i) := ⟨rfl, rfl, Nat.le_refl _⟩
theorem fits_bl (i : Bool) : fits 0 (.bl i) := ⟨rfl, rfl, Nat.le_refl _⟩
theorem fits_non : fits 0 .non := ⟨rfl, rfl, Nat.le_refl _⟩
theorem fits_list {k : Nat} : ∀ {ds : List D}, (∀ d ∈ ds, fits k d) → plainL ds = true ∧ PyData.canLayAll0 (pyDL ds) = true ∧ PyData.depthAll (pyDL ds) ≤ k
  | [], _ => ⟨rfl, rfl, Nat.zero_le _⟩
  | d :: ds, h => by
    obtain ⟨h1, h2, h3⟩ := h d List.mem_cons_self
    obtain ⟨q1, q2, q3⟩ := fits_list fun x hx => h x (List.mem_cons_of_mem _ hx)
    refine ⟨?_, ?_, ?_⟩
    · show (plainD d && plainL ds) = true; rw [h1, q1]; rfl
    · show (PyData.canLay0 (pyD d) && PyData.canLayAll0 (pyDL ds)) = true; rw [h2, q2]; rfl
    · show max (pyD d).depth (PyData.depthAll (pyDL ds)) ≤ k; omega
theorem fits_tup {k : Nat} {ds : List D} (h : ∀ d ∈ ds, fits k d) : fits (k + 1) (.tup ds) := by
  obtain ⟨h1, h2, h3⟩ := fits_list h
  exact ⟨h1, h2, Nat.succ_le_succ h3⟩
theorem fits_lst {k : Nat} {b : Ow} {ds : List D} (h : ∀ d ∈ ds, fits k d) : fits (k + 1) (.lst b ds) := by
  obtain ⟨h1, h2, h3⟩ := fits_list h
  exact ⟨h1, h2, Nat.succ_le_succ h3⟩
theorem mem_rg {α : Type} {n : Nat} {f : Nat → α} {x : α} : x ∈ rg n f ↔ ∃ i, i < n ∧ f i = x := by unfold rg; simp
theorem fits_row (n : Nat) (w : Nat → Int) : fits 1 (rowT n w) := fits_tup fun d h => by
  obtain ⟨i, _, rfl⟩ := mem_rg.mp h
  exact fits_int _
theorem fits_web (n : Nat) (W : Nat → Nat → Int) : fits 2 (webT n W) := fits_tup fun d h => by
  obtain ⟨i, _, rfl⟩ := mem_rg.mp h
  exact fits_row _ _
theorem eqv_rg (n m : Nat) (f g : Nat → D) : PyData.eqvAll (pyDL (rg n f)) (pyDL (rg m g)) = decide (n = m ∧ ∀ i, i < n → PyData.eqv (pyD (f i)) (pyD (g i)) = true) := by
  have key : ∀ xs ys : List D, PyData.eqvAll (pyDL xs) (pyDL ys) = true ↔ xs.length = ys.length ∧ ∀ (i : Nat) (x y : D), xs[i]? = some x → ys[i]? = some y → PyData.eqv (pyD x) (pyD y) = true := by
    intro xs
    induction xs with
    | nil =>
      intro ys
      cases ys with
      | nil => exact ⟨fun _ => ⟨rfl, fun i x y h => by simp at h⟩, fun _ => rfl⟩
      | cons y ys => exact ⟨fun h => Bool.noConfusion h, fun h => by simp at h⟩
    | cons x xs ih =>
      intro ys
      cases ys with
      | nil => exact ⟨fun h => Bool.noConfusion h, fun h => by simp at h⟩
      | cons y ys =>
        show (PyData.eqv (pyD x) (pyD y) && PyData.eqvAll (pyDL xs) (pyDL ys)) = true ↔ _
        rw [Bool.and_eq_true, ih ys]
        constructor
        · rintro ⟨h1, h2, h3⟩
          refine ⟨by simp [h2], fun i a b ha hb => ?_⟩
          cases i with
          | zero => cases ha; cases hb; exact h1
          | succ i => exact h3 i a b ha hb
        · rintro ⟨h1, h2⟩
          exact ⟨h2 0 x y rfl rfl, by simpa using h1, fun i a b ha hb => h2 (i + 1) a b ha hb⟩
  rw [Bool.eq_iff_iff, key, decide_eq_true_iff]
  rw [rg_length, rg_length]
  constructor
  · rintro ⟨h1, h2⟩
    exact ⟨h1, fun i hi => h2 i _ _ (rg_get n f i hi) (rg_get m g i (by omega))⟩
  · rintro ⟨h1, h2⟩
    refine ⟨h1, fun i x y hx hy => ?_⟩
    have hi : i < n := by have := (List.getElem?_eq_some_iff.mp hx).1; rwa [rg_length] at this
    rw [rg_get n f i hi] at hx
    rw [rg_get m g i (by omega)] at hy
    cases hx; cases hy
    exact h2 i hi
theorem eqv_int (i j : Int) : (PyData.eqv (.int i) (.int j) = true) = (i = j) := by
  show ((i == j) = true) = _
  simp
theorem eqv_row (n m : Nat) (w v : Nat → Int) : PyData.eqv (pyD (rowT n w)) (pyD (rowT m v)) = decide (n = m ∧ ∀ i, i < n → w i = v i) := by
  show PyData.eqvAll _ _ = _
  rw [eqv_rg]
  simp only [pyD, eqv_int]
theorem eqv_web (n m : Nat) (W V : Nat → Nat → Int) : PyData.eqv (pyD (webT n W)) (pyD (webT m V)) = decide (n = m ∧ ∀ i, i < n → ∀ j, j < n → W i j = V i j) := by
  show PyData.eqvAll _ _ = _
  rw [eqv_rg]
  simp only [eqv_row, decide_eq_true_iff]
  by_cases e : n = m
  · subst e; simp
  · simp [e]
theorem dEq_fits {k j : Nat} {d e : D} (h : scalD d e = none) (h1 : fits k d) (h2 : fits j e) (hk : k ≤ 64) (hj : j ≤ 64) : dEq d e = .ret (.bl (PyData.eqv (pyD d) (pyD e))) := by
  unfold dEq
  rw [h]
  simp only [fits_ok h1 hk, fits_ok h2 hj, Bool.and_self, if_true]
theorem dNe_fits {k j : Nat} {d e : D} (h : scalD d e = none) (h1 : fits k d) (h2 : fits j e) (hk : k ≤ 64) (hj : j ≤ 64) : dNe d e = .ret (.bl (!PyData.eqv (pyD d) (pyD e))) := by
  unfold dNe
  rw [h]
  simp only [fits_ok h1 hk, fits_ok h2 hj, Bool.and_self, if_true]
theorem dEq_web (n m : Nat) (W V : Nat → Nat → Int) : dEq (webT n W) (webT m V) = .ret (.bl (decide (n = m ∧ ∀ i, i < n → ∀ j, j < n → W i j = V i j))) := by
  rw [dEq_fits rfl (fits_web _ _) (fits_web _ _) (by decide) (by decide), eqv_web]
theorem dNe_web (n m : Nat) (W V : Nat → Nat → Int) : dNe (webT n W) (webT m V) = .ret (.bl (!decide (n = m ∧ ∀ i, i < n → ∀ j, j < n → W i j = V i j))) := by
  rw [dNe_fits rfl (fits_web _ _) (fits_web _ _) (by decide) (by decide), eqv_web]
theorem dEq_row (n m : Nat) (w v : Nat → Int) : dEq (rowT n w) (rowT m v) = .ret (.bl (decide (n = m ∧ ∀ i, i < n → w i = v i))) := by
  rw [dEq_fits rfl (fits_row _ _) (fits_row _ _) (by decide) (by decide), eqv_row]
theorem dNe_row (n m : Nat) (w v : Nat → Int) : dNe (rowT n w) (rowT m v) = .ret (.bl (!decide (n = m ∧ ∀ i, i < n → w i = v i))) := by
  rw [dNe_fits rfl (fits_row _ _) (fits_row _ _) (by decide) (by decide), eqv_row]
theorem dEq_web_non (n : Nat) (W : Nat → Nat → Int) : dEq (webT n W) .non = .ret (.bl false) := by
  rw [dEq_fits rfl (fits_web _ _) fits_non (by decide) (by decide)]; rfl
theorem dEq_non_web (n : Nat) (W : Nat → Nat → Int) : dEq .non (webT n W) = .ret (.bl false) := by
  rw [dEq_fits rfl fits_non (fits_web _ _) (by decide) (by decide)]; rfl
theorem dNe_web_non (n : Nat) (W : Nat → Nat → Int) : dNe (webT n W) .non = .ret (.bl true) := by
  rw [dNe_fits rfl (fits_web _ _) fits_non (by decide) (by decide)]; rfl
theorem dNe_non_web (n : Nat) (W : Nat → Nat → Int) : dNe .non (webT n W) = .ret (.bl true) := by
  rw [dNe_fits rfl fits_non (fits_web _ _) (by decide) (by decide)]; rfl
theorem dNe_non_non : dNe .non .non = .ret (.bl false) := rfl
theorem dEq_non_non : dEq .non .non = .ret (.bl true) := rfl
theorem intsOf_rg (n : Nat) (w : Nat → Int) : intsOf (rg n fun j => .int (w j)) = some (rg n w) := by
  unfold rg
  generalize List.range n = L
  induction L with
  | nil => rfl
  | cons a L ih => show (intsOf (L.map _)).map _ = _; rw [ih]; rfl
theorem blsOf_rg (n : Nat) (w : Nat → Bool) : blsOf (rg n fun j => .bl (w j)) = some (rg n w) := by
  unfold rg
  generalize List.range n = L
  induction L with
  | nil => rfl
  | cons a L ih => show (blsOf (L.map _)).map _ = _; rw [ih]; rfl
def sumR (n : Nat) (w : Nat → Int) : Int := (rg n w).sum
theorem gSum_l (n : Nat) (b : Ow) (w : Nat → Int) : gSum [.lst b (rg n fun j => .int (w j))] = .ret (.int (sumR n w)) := by simp only [gSum, intsOf_rg]; rfl
theorem gSum_t (n : Nat) (w : Nat → Int) : gSum [rowT n w] = .ret (.int (sumR n w)) := by simp only [gSum, intsOf_rg]; rfl
theorem all_rg (n : Nat) (p : Nat → Bool) : (rg n p).all id = decide (∀ i, i < n → p i = true) := by
  rw [Bool.eq_iff_iff, List.all_eq_true, decide_eq_true_iff]
  exact ⟨fun h i hi => h _ (mem_rg.mpr ⟨i, hi, rfl⟩), fun h x hx => by obtain ⟨i, hi, rfl⟩ := mem_rg.mp hx; exact h i hi⟩
theorem any_rg (n : Nat) (p : Nat → Bool) : (rg n p).any id = decide (∃ i, i < n ∧ p i = true) := by
  rw [Bool.eq_iff_iff, List.any_eq_true, decide_eq_true_iff]
  exact ⟨fun ⟨x, hx, h⟩ => by obtain ⟨i, hi, rfl⟩ := mem_rg.mp hx; exact ⟨i, hi, h⟩, fun ⟨i, hi, h⟩ => ⟨_, mem_rg.mpr ⟨i, hi, rfl⟩, h⟩⟩
theorem gAll_rg (n : Nat) (b : Ow) (p : Nat → Bool) : gAll [.lst b (rg n fun i => .bl (p i))] = .ret (.bl (decide (∀ i, i < n → p i = true))) := by
  simp only [gAll, blsOf_rg, all_rg]
theorem gAnyB_rg (n : Nat) (b : Ow) (p : Nat → Bool) : gAnyB [.lst b (rg n fun i => .bl (p i))] = .ret (.bl (decide (∃ i, i < n ∧ p i = true))) := by
  simp only [gAnyB, blsOf_rg, any_rg]
def minR (n : Nat) (w : Nat → Int) : Int := minL (rg n w)
def maxR (n : Nat) (w : Nat → Int) : Int := maxL (rg n w)
theorem gMin_t (n : Nat) (w : Nat → Int) (h : 0 < n) : gMin [rowT n w] = .ret (.int (minR n w)) := by
  simp only [gMin, intsOf_rg, rg_length, if_pos h]; rfl
theorem gMin_l (n : Nat) (b : Ow) (w : Nat → Int) (h : 0 < n) : gMin [.lst b (rg n fun j => .int (w j))] = .ret (.int (minR n w)) := by
  simp only [gMin, intsOf_rg, rg_length, if_pos h]; rfl
theorem gMax_t (n : Nat) (w : Nat → Int) (h : 0 < n) : gMax [rowT n w] = .ret (.int (maxR n w)) := by
  simp only [gMax, intsOf_rg, rg_length, if_pos h]; rfl
theorem gMax_l (n : Nat) (b : Ow) (w : Nat → Int) (h : 0 < n) : gMax [.lst b (rg n fun j => .int (w j))] = .ret (.int (maxR n w)) := by
  simp only [gMax, intsOf_rg, rg_length, if_pos h]; rfl
/-- numbers that may be multiplied -/
@[irreducible] def bigM : Int := 2 ^ 8000
theorem small_of {i : Int} {k : Nat} (h : -bigM ≤ i ∧ i ≤ bigM) (hk : 8002 ≤ k) : smallI k i := by
  refine ⟨Nat.lt_of_lt_of_le (m := 2 ^ 8002) ?_ (Nat.pow_le_pow_right (by decide) hk)⟩
  have e : bigM = ((2 ^ 8000 : Nat) : Int) := by unfold bigM; rw [Int.natCast_pow]; rfl
  have e2 : (2 : Nat) ^ 8002 = 2 ^ 8000 * 4 := by rw [show 8002 = 8000 + 2 by omega, Nat.pow_add]
  have e3 : 0 < (2 : Nat) ^ 8000 := Nat.pow_pos (by decide)
  generalize (2 : Nat) ^ 8000 = q at *
  rw [e] at h
  omega
theorem dMul_int (i j : Int) (h : -bigM ≤ i ∧ i ≤ bigM) (h2 : -bigM ≤ j ∧ j ≤ bigM) : dMul (.int i) (.int j) = .ret (.int (i * j)) := by
  have hm : 8002 ≤ mulLine := by unfold mulLine; decide
  exact if_pos ⟨small_of h hm, small_of h2 hm⟩
theorem dMod_int (i j : Int) (h : j ≠ 0) : dMod (.int i) (.int j) = .ret (.int (i.fmod j)) := if_pos h
end Mid
namespace Mid
open PySem PySem.Spec PyProof.Rows L2
theorem cut_to (n k : Nat) (f : Nat → D) (h : k ≤ n) : cutD (rg n f) none (some (k : Int)) = rg k f := by
  unfold cutD
  rw [rg_length, HT.sIx_nat, HT.sIx_none, List.drop_zero, rg_take]
  congr 1; omega
theorem cut_from (n k : Nat) (f : Nat → D) (h : k ≤ n) : cutD (rg n f) (some (k : Int)) none = rg (n - k) fun i => f (k + i) := by
  unfold cutD
  rw [rg_length, HT.sIx_nat, HT.sIx_none, rg_drop, rg_take]
  refine rg_ext (by omega) fun i _ => ?_
  congr 1; omega
theorem dSl_t_to (n k : Nat) (f : Nat → D) (h : k ≤ n) : dSl (.tup (rg n f)) none (some (k : Int)) = .ret (.tup (rg k f)) := congrArg (fun x => Comp.ret (D.tup x)) (cut_to n k f h)
theorem dSl_t_from (n k : Nat) (f : Nat → D) (h : k ≤ n) : dSl (.tup (rg n f)) (some (k : Int)) none = .ret (.tup (rg (n - k) fun i => f (k + i))) := congrArg (fun x => Comp.ret (D.tup x)) (cut_from n k f h)
theorem dSl_t_from1 (n k : Nat) (f : Nat → D) (h : k + 1 ≤ n) : dSl (.tup (rg n f)) (some ((k : Int) + 1)) none = .ret (.tup (rg (n - (k + 1)) fun i => f (k + 1 + i))) := dSl_t_from n (k + 1) f h
theorem dSl_tail (d : D) (ds : List D) : dSl (.tup (d :: ds)) (some 1) none = .ret (.tup ds) := by
  show Comp.ret (D.tup (cutD (d :: ds) (some ((1 : Nat) : Int)) none)) = _
  unfold cutD
  rw [HT.sIx_nat, HT.sIx_none]
  have e : min 1 (d :: ds).length = 1 := by simp only [List.length_cons]; omega
  rw [e]
  show Comp.ret (D.tup (List.take _ ds)) = _
  rw [List.take_of_length_le (by simp)]
theorem rg_snoc {α : Type} (n : Nat) (f : Nat → α) (x : α) : rg n f ++ [x] = rg (n + 1) fun i => if i < n then f i else x := by
  rw [rg_succ]
  have : rg n (fun i => if i < n then f i else x) = rg n f := rg_ext rfl fun i hi => if_pos hi
  rw [this]
  congr 2
  exact (if_neg (Nat.lt_irrefl n)).symm
theorem ix0 (d : D) (ds : List D) : dIx (.tup (d :: ds)) (.int 0) = .ret d := by
  show (match atI (d :: ds) 0 with
    | some d => Comp.ret d
    | none => .stuck) = _
  have : atI (d :: ds) 0 = some d := by
    unfold atI
    rw [ixN_in (Int.le_refl 0) (by simp only [List.length_cons]; omega)]; rfl
  rw [this]
theorem ixK (d : D) (ds : List D) (k : Nat) (h : k < ds.length) : dIx (.tup (d :: ds)) (.int ((k + 1 : Nat) : Int)) = dIx (.tup ds) (.int (k : Nat)) := by
  have : atI (d :: ds) ((k + 1 : Nat) : Int) = atI ds (k : Int) := by
    unfold atI
    rw [ixN_in (by omega) (by simp only [List.length_cons]; omega), ixN_in (by omega) (by omega)]; rfl
  simp only [dIx, this]
theorem ix1 (d e : D) (ds : List D) : dIx (.tup (d :: e :: ds)) (.int 1) = .ret e := (ixK d (e :: ds) 0 (by simp)).trans (ix0 e ds)
theorem ix2 (d e f : D) (ds : List D) : dIx (.tup (d :: e :: f :: ds)) (.int 2) = .ret f := (ixK d (e :: f :: ds) 1 (by simp)).trans (ix1 e f ds)
theorem ix3 (d e f g : D) (ds : List D) : dIx (.tup (d :: e :: f :: g :: ds)) (.int 3) = .ret g := (ixK d (e :: f :: g :: ds) 2 (by simp)).trans (ix2 e f g ds)
theorem lix0 (b : Ow) (d : D) (ds : List D) : dIx (.lst b (d :: ds)) (.int 0) = .ret d := ix0 d ds
theorem lix1 (b : Ow) (d e : D) (ds : List D) : dIx (.lst b (d :: e :: ds)) (.int 1) = .ret e := ix1 d e ds
theorem castI_eq (i j : Nat) : ((i : Int) = (j : Int)) = (i = j) := propext Int.ofNat_inj
theorem castI_lt (i j : Nat) : ((i : Int) < (j : Int)) = (i < j) := propext Int.ofNat_lt
theorem castI_le (i j : Nat) : ((i : Int) ≤ (j : Int)) = (i ≤ j) := propext Int.ofNat_le
theorem castI_nn (i : Nat) : ((0 : Int) ≤ (i : Int)) = True := eq_true (by omega)
theorem dEq_tup_nil (d : D) (ds : List D) (k : Nat) (h : ∀ x ∈ d :: ds, fits k x) (hk : k + 1 ≤ 64) : dEq (.tup (d :: ds)) (.tup []) = .ret (.bl false) := by
  rw [dEq_fits rfl (fits_tup h) (fits_tup (k := 0) fun _ z => absurd z List.not_mem_nil) hk (by decide)]; rfl
theorem ite_ret_int {p : Prop} [Decidable p] {a b : Int} : (if p then Comp.ret (D.int a) else Comp.ret (D.int b)) = Comp.ret (D.int (if p then a else b)) := by split <;> rfl
theorem ite_ret_bl {p : Prop} [Decidable p] {a b : Bool} : (if p then Comp.ret (D.bl a) else Comp.ret (D.bl b)) = Comp.ret (D.bl (if p then a else b)) := by split <;> rfl
theorem ite_ret_b {p : Prop} [Decidable p] {a b : Bool} : (if p then Comp.ret a else Comp.ret b) = Comp.ret (if p then a else b) := by split <;> rfl
theorem ite_ret_str {p : Prop} [Decidable p] {a b : Str} : (if p then Comp.ret (D.str a) else Comp.ret (D.str b)) = Comp.ret (D.str (if p then a else b)) := by split <;> rfl
theorem x_ite_tt {p : Prop} [Decidable p] {b : Bool} : (if p then true else b) = (decide p || b) := by by_cases h : p <;> simp [h]
theorem x_ite_tf {p : Prop} [Decidable p] : (if p then true else false) = decide p := by by_cases h : p <;> simp [h]
theorem x_ite_ft {p : Prop} [Decidable p] : (if p then false else true) = !decide p := by by_cases h : p <;> simp [h]
theorem x_ite_ff {p : Prop} [Decidable p] {b : Bool} : (if p then b else false) = (decide p && b) := by by_cases h : p <;> simp [h]
section
variable {t : Tg} {f : Env → Comp (Fl × Env)} {Q : Nat → Fl × Env → Prop} {E : Nat → Str → List D → Prop} {k n : Nat} {ρ : Env} {e : Nat → D}
/-- a loop with b draws a turn at most -/
theorem forQ_rgd (b : Nat) (I : Nat → Env → Prop) (h0 : I 0 ρ) (step : ∀ i m ρ, i < n → m ≤ k + i * b → I i ρ → ∃ ρ', t (e i) ρ = some ρ' ∧ (f ρ').wp (turnQ (fun m' ρ2 => m' ≤ m + b ∧ I (i + 1) ρ2) Q) E m) (last : ∀ m ρ, m ≤ k + n * b → I n ρ → Q m (.nx, ρ)) : forQ t f ρ Q E k (rg n e) := by
  unfold forQ
  refine wp_forL (fun i m ρ => m ≤ k + i * b ∧ I i ρ) (k := 0) ⟨by omega, h0⟩ (fun i d m ρ hd hi => ?_) fun m ρ h => ?_
  · rw [Nat.zero_add] at hi
    rw [Nat.zero_add]
    have hn : i < n := by have := (List.getElem?_eq_some_iff.mp hd).1; rwa [rg_length] at this
    rw [rg_get n e i hn] at hd
    cases hd
    obtain ⟨ρ', e1, w⟩ := step i m ρ hn hi.1 hi.2
    refine ⟨ρ', e1, wp_mono w (fun m' r l q => ?_) fun _ _ _ _ q => q⟩
    obtain ⟨fl, ρ2⟩ := r
    have go : ∀ ρ2, m' ≤ m + b ∧ I (i + 1) ρ2 → m' ≤ k + (i + 1) * b ∧ I (i + 1) ρ2 := fun ρ2 q => ⟨by have := hi.1; have := q.1; rw [Nat.succ_mul]; omega, q.2⟩
    cases fl with
    | nx => exact go ρ2 q
    | ct => exact go ρ2 q
    | bk => exact q
    | rt d => exact q
    | er c x => exact q
  · rw [rg_length, Nat.zero_add] at h
    exact last m ρ h.1 h.2
end
theorem ow_tf : (Ow.t != Ow.f) = true := rfl
theorem ow_bf : (Ow.b != Ow.f) = true := rfl
theorem ow_ff : (Ow.f != Ow.f) = false := rfl
theorem noShrL_ints (n : Nat) (w : Nat → Int) : noShrL (rg n fun i => D.int (w i)) = true := noShrL_rg _ _ fun _ _ => rfl
theorem noShrL_bls (n : Nat) (w : Nat → Bool) : noShrL (rg n fun i => D.bl (w i)) = true := noShrL_rg _ _ fun _ _ => rfl
theorem noShrL_rows (n : Nat) (m : Nat → Nat) (w : Nat → Nat → Int) : noShrL (rg n fun i => D.tup (rg (m i) fun j => D.int (w i j))) = true := noShrL_rg _ _ fun _ _ => noShrL_ints _ _
theorem noShrL_lrows (n : Nat) (m : Nat → Nat) (w : Nat → Nat → Int) : noShrL (rg n fun i => D.lst .t (rg (m i) fun j => D.int (w i j))) = true := noShrL_rg _ _ fun _ _ => noShrL_ints _ _
def oW (n : Nat) : Option (Nat → Nat → Int) → D
  | none => .non
  | some W => webT n W
theorem oW_none (n : Nat) : oW n none = .non := rfl
theorem oW_some (n : Nat) (W : Nat → Nat → Int) : oW n (some W) = webT n W := rfl
end Mid
namespace Mid
open PySem PySem.Spec PyProof.Rows L2
theorem seqD_t (xs : List D) : seqD (.tup xs) = true := rfl
theorem seqD_l (b : Ow) (xs : List D) : seqD (.lst b xs) = true := rfl
/-- the first place of z among the n first of w -/
def idxR : Nat → (Nat → Int) → Int → Nat
  | 0, _, _ => 0
  | n + 1, w, z => if w 0 = z then 0 else idxR n (fun i => w (i + 1)) z + 1
theorem idxR_ok : ∀ {n : Nat} {w : Nat → Int} {z : Int}, (∃ i, i < n ∧ w i = z) → idxR n w z < n ∧ w (idxR n w z) = z ∧ ∀ i, i < idxR n w z → w i ≠ z
  | 0, w, z, h => by obtain ⟨i, hi, _⟩ := h; omega
  | n + 1, w, z, h => by
    unfold idxR
    by_cases h0 : w 0 = z
    · rw [if_pos h0]; exact ⟨by omega, h0, fun i hi => by omega⟩
    · rw [if_neg h0]
      obtain ⟨i, hi, e⟩ := h
      have h1 : ∃ i, i < n ∧ (fun i => w (i + 1)) i = z := by
        cases i with
        | zero => exact absurd e h0
        | succ i => exact ⟨i, by omega, e⟩
      obtain ⟨q1, q2, q3⟩ := idxR_ok h1
      refine ⟨by omega, q2, fun i hi => ?_⟩
      cases i with
      | zero => exact h0
      | succ i => exact q3 i (by omega)
theorem findD_rg {n : Nat} {w : Nat → Int} {z : Int} (h : ∃ i, i < n ∧ w i = z) : findD (.int z) (rg n fun i => .int (w i)) = some (idxR n w z) := by
  obtain ⟨h1, h2, h3⟩ := idxR_ok h
  unfold findD
  rw [List.findIdx?_eq_some_iff_getElem]
  have gt : ∀ j (hj : j < (rg n fun i => D.int (w i)).length), (rg n fun i => D.int (w i))[j] = .int (w j) := fun j hj => by
    have := rg_get n (fun i => D.int (w i)) j (by rwa [rg_length] at hj)
    rw [List.getElem?_eq_getElem hj] at this
    exact Option.some.inj this
  have hl : idxR n w z < (rg n fun i => D.int (w i)).length := by rw [rg_length]; exact h1
  refine ⟨hl, ?_, fun j hj => ?_⟩
  · rw [gt _ hl]
    show (w (idxR n w z) == z) = true
    rw [h2]; exact beq_self_eq_true z
  · rw [gt j (by omega)]
    show ¬ ((w j == z) = true)
    rw [beq_iff_eq]; exact h3 j hj
theorem gIdx_l (n : Nat) (b : Ow) (w : Nat → Int) (z : Int) (h : ∃ i, i < n ∧ w i = z) : gIdx (.lst b (rg n fun i => .int (w i))) (.int z) = .ret (.int (idxR n w z : Nat)) := by
  show (if okD (.int z) && okD (.lst .t (rg n fun i => .int (w i))) then _ else _) = _
  rw [fits_ok (fits_int z) (by decide), fits_ok (k := 1) (fits_lst fun d hd => by obtain ⟨i, _, rfl⟩ := mem_rg.mp hd; exact fits_int _) (by decide)]
  simp only [Bool.and_self, if_true]
  rw [findD_rg h]
theorem gIdx_t (n : Nat) (w : Nat → Int) (z : Int) (h : ∃ i, i < n ∧ w i = z) : gIdx (rowT n w) (.int z) = .ret (.int (idxR n w z : Nat)) := by
  show (if okD (.int z) && okD (.tup (rg n fun i => .int (w i))) then _ else _) = _
  rw [fits_ok (fits_int z) (by decide), fits_ok (k := 1) (fits_row n w) (by decide)]
  simp only [Bool.and_self, if_true]
  rw [findD_rg h]
def unpU (x : Option Env) (Q : Nat → Fl × Env → Prop) (m : Nat) : Prop := match x with
  | some ρ => Q m (.nx, ρ)
  | none => False
theorem unpU_some {ρ : Env} {Q : Nat → Fl × Env → Prop} {m : Nat} : unpU (some ρ) Q m = Q m (.nx, ρ) := rfl
theorem unpQ_tup {vs : List Nat} {t : Tg} {ρ : Env} {Q : Nat → Fl × Env → Prop} {m : Nat} {ds : List D} : unpQ vs t ρ Q m (.tup ds) = unpU (t (.tup ds) (upE vs (.tup ds) ρ)) Q m := by
  unfold unpQ
  cases e : t (.tup ds) (upE vs (.tup ds) ρ) with
  | none => exact propext ⟨fun ⟨_, _, h1, h2, _⟩ => (by cases h1; rw [e] at h2; cases h2), fun h => False.elim h⟩
  | some ρ' => exact propext ⟨fun ⟨_, _, h1, h2, h3⟩ => (by cases h1; rw [e] at h2; cases h2; exact h3), fun h => ⟨_, _, rfl, e, h⟩⟩
theorem fz_oW (n : Nat) (x : Option (Nat → Nat → Int)) : fz (oW n x) = oW n x := by cases x <;> rfl
theorem noShr_oW (n : Nat) (x : Option (Nat → Nat → Int)) : noShr (oW n x) = true := by
  cases x with
  | none => rfl
  | some W => exact noShrL_rows n _ W
theorem isNon_oW (n : Nat) (x : Option (Nat → Nat → Int)) : isNon (oW n x) = x.isNone := by cases x <;> rfl
theorem brw_oW (n : Nat) (x : Option (Nat → Nat → Int)) : brw (oW n x) = false := by cases x <;> rfl
theorem d_ite_int {p : Prop} [Decidable p] {a b : Int} : (if p then D.int a else D.int b) = D.int (if p then a else b) := by split <;> rfl
theorem d_ite_tup {p : Prop} [Decidable p] {n : Nat} {f g : Nat → D} : (if p then D.tup (rg n f) else D.tup (rg n g)) = D.tup (rg n fun q => if p then f q else g q) := by split <;> rfl
theorem d_ite_lst {p : Prop} [Decidable p] {o : Ow} {n : Nat} {f g : Nat → D} : (if p then D.lst o (rg n f) else D.lst o (rg n g)) = D.lst o (rg n fun q => if p then f q else g q) := by split <;> rfl
theorem isNon_tup (xs : List D) : isNon (.tup xs) = false := rfl
theorem isNon_int (i : Int) : isNon (.int i) = false := rfl
theorem isNon_lst (b : Ow) (xs : List D) : isNon (.lst b xs) = false := rfl
theorem isNon_bl (b : Bool) : isNon (.bl b) = false := rfl
theorem isNon_str (b : Str) : isNon (.str b) = false := rfl
theorem castI_0 : ((0 : Nat) : Int) = 0 := rfl
theorem castI_1 : ((1 : Nat) : Int) = 1 := rfl
theorem castI_2 : ((2 : Nat) : Int) = 2 := rfl
theorem castI_3 : ((3 : Nat) : Int) = 3 := rfl
theorem castI_4 : ((4 : Nat) : Int) = 4 := rfl
theorem castI_5 : ((5 : Nat) : Int) = 5 := rfl
theorem castI_6 : ((6 : Nat) : Int) = 6 := rfl
theorem castI_7 : ((7 : Nat) : Int) = 7 := rfl
theorem castI_8 : ((8 : Nat) : Int) = 8 := rfl
theorem castI_9 : ((9 : Nat) : Int) = 9 := rfl
theorem castI_10 : ((10 : Nat) : Int) = 10 := rfl
theorem castI_11 : ((11 : Nat) : Int) = 11 := rfl
theorem castI_12 : ((12 : Nat) : Int) = 12 := rfl
end Mid
namespace Mid
open PySem PySem.Spec PyProof.Rows L2
theorem brw_tup (xs : List D) : brw (.tup xs) = false := rfl
theorem brw_int (xs : Int) : brw (.int xs) = false := rfl
theorem brw_bl (xs : Bool) : brw (.bl xs) = false := rfl
theorem brw_str (xs : Str) : brw (.str xs) = false := rfl
theorem brw_non : brw .non = false := rfl
theorem brw_lt (xs : List D) : brw (.lst .t xs) = false := rfl
theorem brw_lf (xs : List D) : brw (.lst .f xs) = false := rfl
def onE (x : Option Env) (k : Env → Prop) : Prop := match x with
  | some ρ => k ρ
  | none => False
theorem onE_some {ρ : Env} {k : Env → Prop} : onE (some ρ) k = k ρ := rfl
section
variable {t : Tg} {f : Env → Comp (Fl × Env)} {Q : Nat → Fl × Env → Prop} {E : Nat → Str → List D → Prop} {m : Nat} {ρ : Env}
theorem forQ_nil : forQ t f ρ Q E m [] = Q m (.nx, ρ) := rfl
def fromQ (t : Tg) (f : Env → Comp (Fl × Env)) (Q : Nat → Fl × Env → Prop) (E : Nat → Str → List D → Prop) (ds : List D) (m : Nat) (ρ : Env) : Prop := forQ t f ρ Q E m ds
theorem forQ_cons {d : D} {ds : List D} : forQ t f ρ Q E m (d :: ds) = onE (t d ρ) fun ρ' => (f ρ').wp (turnQ (fromQ t f Q E ds) Q) E m := by
  unfold forQ
  rw [forL]
  cases t d ρ with
  | none => rfl
  | some ρ' =>
    rw [onE_some]
    simp only []
    rw [wp_bind]
    congr 1
    funext m r
    obtain ⟨fl, ρ2⟩ := r
    cases fl <;> rfl
theorem fromQ_eq {ds : List D} : fromQ t f Q E ds m ρ = forQ t f ρ Q E m ds := rfl
end
theorem fmod_nat (a b : Nat) : ((a : Int) + 1).fmod (b : Int) = (((a + 1) % b : Nat) : Int) := by
  rw [Int.fmod_eq_emod_of_nonneg _ (by omega)]; norm_cast
theorem fmod_cast (a b : Nat) : (a : Int).fmod (b : Int) = ((a % b : Nat) : Int) := by
  rw [Int.fmod_eq_emod_of_nonneg _ (by omega)]; norm_cast
theorem dMul_lst1 (b : Ow) (x : D) (n : Nat) (h : n < 1000) : dMul (.lst b [x]) (.int (n : Int)) = .ret (.lst .t (rg n fun _ => x)) := by
  have hs := sizeLine_eq
  have e : dMul (.lst b [x]) (.int (n : Int)) = if -(2 ^ 63) ≤ (n : Int) ∧ (n : Int) < 2 ^ 63 ∧ [x].length * (n : Int).toNat ≤ sizeLine then .ret (.lst .t (List.replicate (n : Int).toNat [x]).flatten) else .stuck := rfl
  rw [e, Int.toNat_natCast, if_pos ⟨by omega, by omega, by simp only [List.length_cons, List.length_nil]; omega⟩, rg_rep]
theorem x_dPow (i : Int) (j : Nat) (hj : j ≤ 1000) (hi : smallI 64 i) : dPow (.int i) (.int (j : Int)) = .ret (.int (i ^ j)) := by
  have e : dPow (.int i) (.int (j : Int)) = if 0 ≤ (j : Int) ∧ (j : Int) ≤ 1000 ∧ smallI 64 i then .ret (.int (i ^ (j : Int).toNat)) else .stuck := rfl
  rw [e, if_pos ⟨by omega, by omega, hi⟩, Int.toNat_natCast]
theorem dPow_10_9 : dPow (.int 10) (.int 9) = .ret (.int 1000000000) := x_dPow 10 9 (by decide) ⟨by decide⟩
theorem dPow_10_12 : dPow (.int 10) (.int 12) = .ret (.int 1000000000000) := x_dPow 10 12 (by decide) ⟨by decide⟩
theorem dIn_two (z a b : Int) : dIn (.int z) (.tup [.int a, .int b]) = .ret (.bl (decide (a = z) || decide (b = z))) := by
  have e : dIn (.int z) (.tup [.int a, .int b]) = if okD (.int z) && okD (.tup [.int a, .int b]) then .ret (.bl ((a == z) || ((b == z) || false))) else .stuck := rfl
  have h : okD (.tup [.int a, .int b]) = true := rfl
  rw [e, h, fits_ok (fits_int z) (by decide), Bool.or_false]
  rfl
theorem fits_oW (n : Nat) (x : Option (Nat → Nat → Int)) : fits 2 (oW n x) := by
  cases x with
  | none => exact ⟨rfl, rfl, Nat.zero_le _⟩
  | some W => exact fits_web n W
theorem dIn_non_oW (b : Ow) (n m : Nat) (x y : Option (Nat → Nat → Int)) : dIn .non (.lst b [oW n x, oW m y]) = .ret (.bl (x.isNone || y.isNone)) := by
  show (if okD .non && okD (.lst .t [oW n x, oW m y]) then _ else _) = _
  rw [fits_ok fits_non (by decide), fits_ok (k := 3) (fits_lst fun d hd => by
    rcases List.mem_cons.mp hd with rfl | hd
    · exact fits_oW n x
    · rw [List.mem_singleton.mp hd]; exact fits_oW m y) (by decide)]
  cases x <;> cases y <;> rfl
theorem dNe_oW_self (n : Nat) (x : Option (Nat → Nat → Int)) : dNe (oW n x) (oW n x) = .ret (.bl false) := by
  cases x with
  | none => rfl
  | some W => rw [oW_some, dNe_web, decide_eq_true ⟨rfl, fun _ _ _ _ => rfl⟩]; rfl
theorem dIx_lst (b : Ow) (xs : List D) (z : Int) (h0 : 0 ≤ z) (h1 : z < xs.length) : ∃ d, d ∈ xs ∧ dIx (.lst b xs) (.int z) = .ret d := by
  have hl : z.toNat < xs.length := by omega
  refine ⟨xs[z.toNat], List.getElem_mem hl, ?_⟩
  have e : atI xs z = some xs[z.toNat] := by
    unfold atI
    rw [ixN_in h0 h1]
    exact List.getElem?_eq_getElem hl
  simp only [dIx, e]
theorem gTup_ok {ds : List D} (h : ds.length ≤ sizeLine) : gTup ds = .ret (.tup ds) := if_pos h
theorem gLst_ok {ds : List D} (h : ds.length ≤ sizeLine) : gLst ds = .ret (.lst .t ds) := if_pos h
theorem wp_two (Q : Nat → D → Prop) (E : Nat → Str → List D → Prop) (n : Nat) (z : Int) (h0 : 0 < z) (h1 : z ≤ 1000000000000000) (h : ∀ r : Int, 0 ≤ r → r < z → Q (n + 1) (.int r)) : (gTake [.pen, .int z]).wp Q E n := by
  rw [wp_take h0 (Int.lt_of_le_of_lt h1 (by decide))]; exact fun r hr => h r (by omega) hr
end Mid
namespace Mid
open PySem PySem.Spec PyProof.Rows L2
section
variable {Q : Nat → Fl × Env → Prop} {E : Nat → Str → List D → Prop} {n i : Nat} {vs : List Nat} {h : Env → Comp D} {ρ : Env}
def onT (d : D) (k : List D → Prop) : Prop := match d with
  | .lst .t ys => k ys
  | _ => False
theorem onT_lst {ys : List D} {k : List D → Prop} : onT (.lst .t ys) k = k ys := rfl
def extQ (i : Nat) (vs : List Nat) (ρ : Env) (Q : Nat → Fl × Env → Prop) (m : Nat) (d : D) : Prop := onT d fun ys => onW (ownAt (upE vs (.lst .t ys) ρ) i) fun w xs => xs.length + ys.length ≤ sizeLine ∧ Q m (.nx, (upE vs (.lst .t ys) ρ).set i (some (.lst w (xs ++ ys))))
theorem wp_ext : (sExt i vs h ρ).wp Q E n = onW (ownAt ρ i) fun _ _ => (h (fzE ρ)).wp (extQ i vs ρ Q) (errQ vs ρ Q) n := by
  unfold sExt
  cases e : ownAt ρ i with
  | none => rfl
  | some p =>
    obtain ⟨w0, xs0⟩ := p
    simp only [onW_some]
    unfold run
    rw [wp_try]
    congr 1
    funext m d
    unfold extQ
    cases d with
    | lst o ys =>
      cases o with
      | t =>
        simp only [onT_lst]
        cases e2 : ownAt (upE vs (.lst .t ys) ρ) i with
        | none => rfl
        | some p =>
          obtain ⟨w, xs⟩ := p
          simp only [onW_some, wp_ite, wp_ret, wp_stuck]
          exact propext ⟨fun q => by
            by_cases hl : xs.length + ys.length ≤ sizeLine
            · exact ⟨hl, q.1 hl⟩
            · exact (q.2 hl).elim, fun q => ⟨fun _ => q.2, fun z => absurd q.1 z⟩⟩
      | _ => rfl
    | _ => rfl
end
theorem gLR_nat (n : Nat) (h : n < 1000000) : gLR (.int (n : Int)) = .ret (.lst .t (rg n fun i => .int (i : Nat))) := by
  have e : gLR (.int (n : Int)) = if -(2 ^ 62) ≤ (n : Int) ∧ (n : Int) < 2 ^ 24 then .ret (.lst .t (rangeL 0 (n : Int).toNat)) else .stuck := rfl
  rw [e, if_pos ⟨by omega, by omega⟩, Int.toNat_natCast, rangeL_rg]
  simp only [Int.zero_add]
theorem fits_lints (n : Nat) (b : Ow) (w : Nat → Int) : fits 1 (.lst b (rg n fun j => .int (w j))) := fits_lst fun d h => by
  obtain ⟨i, _, rfl⟩ := mem_rg.mp h
  exact fits_int _
theorem eqv_lints (n m : Nat) (a b : Ow) (w v : Nat → Int) : PyData.eqv (pyD (.lst a (rg n fun j => .int (w j)))) (pyD (.lst b (rg m fun j => .int (v j)))) = decide (n = m ∧ ∀ i, i < n → w i = v i) := by
  show PyData.eqvAll _ _ = _
  rw [eqv_rg]
  simp only [pyD, eqv_int]
theorem dEq_lints (n m : Nat) (a b : Ow) (w v : Nat → Int) : dEq (.lst a (rg n fun j => .int (w j))) (.lst b (rg m fun j => .int (v j))) = .ret (.bl (decide (n = m ∧ ∀ i, i < n → w i = v i))) := by
  rw [dEq_fits rfl (fits_lints _ _ _) (fits_lints _ _ _) (by decide) (by decide), eqv_lints]
theorem dNe_lints (n m : Nat) (a b : Ow) (w v : Nat → Int) : dNe (.lst a (rg n fun j => .int (w j))) (.lst b (rg m fun j => .int (v j))) = .ret (.bl (!decide (n = m ∧ ∀ i, i < n → w i = v i))) := by
  rw [dNe_fits rfl (fits_lints _ _ _) (fits_lints _ _ _) (by decide) (by decide), eqv_lints]
structure Ord (n : Nat) (c : Nat → Nat) : Prop where
  lt : ∀ i, i < n → c i < n
  inj : ∀ i j, i < n → j < n → c i = c j → i = j
theorem Ord.nodup {n : Nat} {c : Nat → Nat} (h : Ord n c) : (rg n c).Nodup := by
  have key : ∀ (L : List Nat), L.Nodup → (∀ i ∈ L, i < n) → (L.map c).Nodup := by
    intro L
    induction L with
    | nil => intro _ _; exact List.nodup_nil
    | cons a L ih =>
      intro hn hl
      have h1 := List.nodup_cons.mp hn
      rw [List.map_cons]
      refine List.nodup_cons.mpr ⟨fun q => ?_, ih h1.2 fun i hi => hl i (List.mem_cons_of_mem _ hi)⟩
      obtain ⟨b, hb, e⟩ := List.mem_map.mp q
      have := h.inj b a (hl b (List.mem_cons_of_mem _ hb)) (hl a List.mem_cons_self) e
      exact h1.1 (this ▸ hb)
  unfold rg
  exact key _ List.nodup_range fun i hi => List.mem_range.mp hi
theorem Ord.surj {n : Nat} {c : Nat → Nat} (h : Ord n c) {y : Nat} (hy : y < n) : ∃ i, i < n ∧ c i = y := by
  by_cases q : y ∈ rg n c
  · exact mem_rg.mp q
  · have h1 : (y :: rg n c).Nodup := List.nodup_cons.mpr ⟨q, h.nodup⟩
    have h2 := h1.length_le_of_subset (l₂ := List.range n) fun x hx => by
      rcases List.mem_cons.mp hx with rfl | hx
      · exact List.mem_range.mpr hy
      · obtain ⟨i, hi, rfl⟩ := mem_rg.mp hx
        exact List.mem_range.mpr (h.lt i hi)
    rw [List.length_cons, rg_length, List.length_range] at h2
    omega
theorem Ord.perm {n : Nat} {c : Nat → Nat} (h : Ord n c) : (rg n c).Perm (List.range n) := by
  refine (List.perm_ext_iff_of_nodup h.nodup List.nodup_range).mpr fun a => ?_
  rw [List.mem_range, mem_rg]
  exact ⟨fun ⟨i, hi, e⟩ => e ▸ h.lt i hi, fun ha => h.surj ha⟩
theorem Ord.sort {n : Nat} {c : Nat → Nat} (h : Ord n c) : sortI (rg n fun i => ((c i : Nat) : Int)) = rg n fun i => ((i : Nat) : Int) := by
  refine (sortI_uniq ?_ ?_).symm
  · have := (h.perm.map fun x : Nat => (x : Int)).symm
    rw [rg_map] at this
    unfold rg
    unfold rg at this
    exact this
  · unfold rg
    refine List.pairwise_map.mpr (List.pairwise_lt_range.imp fun q => ?_)
    omega
theorem gSrt_ord_t {n : Nat} {c : Nat → Nat} (h : Ord n c) : gSrt [.tup (rg n fun i => .int (c i : Nat))] = .ret (.lst .t (rg n fun i => .int (i : Nat))) := by
  simp only [gSrt, intsOf_rg n fun i => ((c i : Nat) : Int), h.sort, rg_map]
theorem gSrt_ord_l {n : Nat} {b : Ow} {c : Nat → Nat} (h : Ord n c) : gSrt [.lst b (rg n fun i => .int (c i : Nat))] = .ret (.lst .t (rg n fun i => .int (i : Nat))) := by
  simp only [gSrt, intsOf_rg n fun i => ((c i : Nat) : Int), h.sort, rg_map]
end Mid
namespace Mid
open PySem PySem.Spec PyProof.Rows L2
/-- the places below n that are kept -/
@[irreducible] def keepL (n : Nat) (b : Nat → Bool) : List Nat := (List.range n).filter b
@[irreducible] def cntR (n : Nat) (b : Nat → Bool) : Nat := (keepL n b).length
@[irreducible] def selR (n : Nat) (b : Nat → Bool) (i : Nat) : Nat := (keepL n b).getD i 0
theorem mem_keep {n : Nat} {b : Nat → Bool} {x : Nat} : x ∈ keepL n b ↔ x < n ∧ b x = true := by unfold keepL; simp
theorem sel_get {n : Nat} {b : Nat → Bool} {i : Nat} (h : i < cntR n b) : (keepL n b)[i]? = some (selR n b i) := by
  unfold cntR at h
  unfold selR
  rw [List.getD_eq_getElem?_getD, List.getElem?_eq_getElem h]; rfl
theorem sel_mem {n : Nat} {b : Nat → Bool} {i : Nat} (h : i < cntR n b) : selR n b i ∈ keepL n b := List.mem_of_getElem? (sel_get h)
theorem selR_lt {n : Nat} {b : Nat → Bool} {i : Nat} (h : i < cntR n b) : selR n b i < n := (mem_keep.mp (sel_mem h)).1
theorem selLT {n m : Nat} {b : Nat → Bool} {i : Nat} (h : i < cntR n b) (e : n ≤ m) : selR n b i < m := Nat.lt_of_lt_of_le (selR_lt h) e
theorem selLTI {n m : Nat} {b : Nat → Bool} {i : Nat} (h : i < cntR n b) (e : n ≤ m) : ((selR n b i : Nat) : Int) < (m : Int) := by have := selLT h e; omega
theorem cntR_le (n : Nat) (b : Nat → Bool) : cntR n b ≤ n := by
  unfold cntR keepL
  have := List.length_filter_le b (List.range n)
  rwa [List.length_range] at this
theorem cnt_lt {n m : Nat} {b : Nat → Bool} (h : n < m) : cntR n b < m := Nat.lt_of_le_of_lt (cntR_le n b) h
/-- all but one -/
def upN (k p : Nat) : Nat := if p < k then p else p + 1
theorem keep_ne {n k : Nat} (h : k ≤ n) : keepL (n + 1) (fun p => !decide (p = k)) = rg n (upN k) := by
  unfold keepL rg
  have key : ∀ m, m ≤ n → (List.range (m + 1)).filter (fun p => !decide (p = k)) = if k ≤ m then (List.range m).map (upN k) else List.range (m + 1) := by
    intro m
    induction m with
    | zero =>
      intro _
      by_cases hk : k = 0
      · subst hk; simp
      · rw [if_neg (by omega)]
        refine List.filter_eq_self.mpr fun x hx => ?_
        have : x = 0 := by have := List.mem_range.mp hx; omega
        subst this
        simp; omega
    | succ m ih =>
      intro hm
      rw [List.range_succ, List.filter_append, ih (by omega)]
      by_cases hk : k ≤ m
      · rw [if_pos hk, if_pos (by omega), List.range_succ (n := m), List.map_append]
        have : ((fun p => !decide (p = k)) (m + 1)) = true := by simp; omega
        simp only [List.filter_cons, this, if_true, List.filter_nil, List.map_cons, List.map_nil, upN, if_neg (show ¬ m < k by omega)]
      · rw [if_neg hk]
        by_cases hk2 : k = m + 1
        · subst hk2
          rw [if_pos (Nat.le_refl _)]
          simp only [List.filter_cons, decide_true, Bool.not_true, Bool.false_eq_true, if_false, List.filter_nil, List.append_nil]
          refine (List.map_congr_left (g := id) fun x hx => ?_).trans (List.map_id _) |>.symm
          have := List.mem_range.mp hx
          unfold upN
          rw [if_pos (by omega)]; rfl
        · rw [if_neg (by omega)]
          have : ((fun p => !decide (p = k)) (m + 1)) = true := by simp; omega
          simp only [List.filter_cons, this, if_true, List.filter_nil]
          try exact (List.range_succ).symm
  rw [key n (Nat.le_refl _), if_pos h]
theorem cnt_ne {n k : Nat} (h : k ≤ n) : cntR (n + 1) (fun p => !decide (p = k)) = n := by unfold cntR; rw [keep_ne h, rg_length]
theorem sel_ne {n k i : Nat} (h : k ≤ n) (hi : i < n) : selR (n + 1) (fun p => !decide (p = k)) i = upN k i := by
  unfold selR
  rw [keep_ne h, List.getD_eq_getElem?_getD, rg_get n _ i hi]; rfl
/-- the tests, then the rest -/
@[irreducible] def filtR (n : Nat) (b : Nat → Comp Bool) (g : Nat → Comp D) : Comp (List D) := (List.range n).foldr (fun i r => (b i).sure.bind fun t => if t then (g i).bind fun e => r.bind fun es => .ret (e :: es) else r) (.ret [])
def testC (t : Tg) (c : Env → Comp Bool) (ρ : Env) (d : D) : Comp Bool := match t d ρ with
  | none => .stuck
  | some ρ' => (c ρ').sure
def onB (x : Option Env) (f : Env → Comp Bool) : Comp Bool := match x with
  | none => .stuck
  | some ρ' => (f ρ').sure
theorem onB_some {ρ : Env} {f : Env → Comp Bool} : onB (some ρ) f = (f ρ).sure := rfl
theorem testC_eq {t : Tg} {f : Env → Comp Bool} {ρ : Env} {d : D} : testC t f ρ d = onB (t d ρ) f := rfl
theorem sure_sure {α : Type} (c : Comp α) : c.sure.sure = c.sure := by
  induction c with
  | ret a => rfl
  | draw m k ih => simp only [Comp.sure, ih]
  | err c x => rfl
  | stuck => rfl
theorem filtR_congr {n m : Nat} {b c : Nat → Comp Bool} {f g : Nat → Comp D} (e : n = m) (hb : ∀ i, i < m → b i = c i) (h : ∀ i, i < m → f i = g i) : filtR n b f = filtR m c g := by
  subst e
  unfold filtR
  have : ∀ L : List Nat, (∀ i ∈ L, i < n) → L.foldr (fun i r => (b i).sure.bind fun t => if t then (f i).bind fun e => r.bind fun es => .ret (e :: es) else r) (.ret []) = L.foldr (fun i r => (c i).sure.bind fun t => if t then (g i).bind fun e => r.bind fun es => .ret (e :: es) else r) (.ret []) := by
    intro L hL
    induction L with
    | nil => rfl
    | cons a L ih => rw [List.foldr_cons, List.foldr_cons, ih fun i hi => hL i (List.mem_cons_of_mem _ hi), h a (hL a List.mem_cons_self), hb a (hL a List.mem_cons_self)]
  exact this _ fun i hi => List.mem_range.mp hi
theorem compL_filt (t : Tg) (c : Env → Comp Bool) (f : Env → Comp D) (ρ : Env) (n : Nat) (E : Nat → D) : compL t c f ρ (rg n E) = filtR n (fun i => if i < n then testC t c ρ (E i) else .stuck) (fun i => stepC t f ρ (E i)) := by
  have : compL t c f ρ (rg n E) = filtR n (fun i => testC t c ρ (E i)) (fun i => stepC t f ρ (E i)) := by
    unfold rg filtR
    generalize List.range n = L
    induction L with
    | nil => rfl
    | cons a L ih =>
      rw [List.map_cons, List.foldr_cons, ← ih]
      rw [compL]
      show _ = ((testC t c ρ (E a)).sure.bind _)
      have e1 : ∀ x : Option Env, t (E a) ρ = x → testC t c ρ (E a) = onB x c ∧ stepC t f ρ (E a) = onC x f := fun x e => by subst e; exact ⟨rfl, rfl⟩
      cases e : t (E a) ρ with
      | none =>
        rw [(e1 _ e).1]; rfl
      | some ρ' =>
        show _ = (testC t c ρ (E a)).sure.bind fun u => if u then (stepC t f ρ (E a)).bind _ else _
        rw [(e1 _ e).1, (e1 _ e).2, onB_some, onC_some, sure_sure]
  rw [this]
  exact filtR_congr rfl (fun i hi => (if_pos hi).symm) fun _ _ => rfl
theorem filtR_ret (n : Nat) (b : Nat → Bool) (g : Nat → Comp D) : filtR n (fun i => if i < n then .ret (b i) else .stuck) g = mapR (cntR n b) fun i => if i < cntR n b then g (selR n b i) else .stuck := by
  have h1 : filtR n (fun i => if i < n then .ret (b i) else .stuck) g = filtR n (fun i => .ret (b i)) g := filtR_congr rfl (fun i hi => if_pos hi) fun _ _ => rfl
  have h2 : (mapR (cntR n b) fun i => if i < cntR n b then g (selR n b i) else .stuck) = mapR (cntR n b) fun i => g (selR n b i) := mapR_congr rfl fun i hi => if_pos hi
  rw [h1, h2]
  have h3 : (mapR (cntR n b) fun i => g (selR n b i)) = (keepL n b).foldr (fun i r => (g i).bind fun e => r.bind fun es => .ret (e :: es)) (.ret []) := by
    have e : keepL n b = (List.range (cntR n b)).map (selR n b) := by
      refine List.ext_getElem? fun i => ?_
      by_cases hi : i < cntR n b
      · rw [sel_get hi, List.getElem?_map, List.getElem?_range hi]; rfl
      · rw [List.getElem?_eq_none (by unfold cntR at hi; omega), List.getElem?_eq_none (by simp; omega)]
    rw [e, List.foldr_map]
    unfold mapR
    rfl
  rw [h3]
  unfold filtR keepL
  generalize List.range n = L
  induction L with
  | nil => rfl
  | cons a L ih =>
    rw [List.foldr_cons, ih, List.filter_cons]
    show (if b a = true then _ else _) = _
    cases b a with
    | true => simp only [if_true, List.foldr_cons]
    | false => simp only [Bool.false_eq_true, if_false]
theorem keep_true (n : Nat) : keepL n (fun _ => true) = List.range n := by unfold keepL; exact List.filter_eq_self.mpr fun _ _ => rfl
theorem cnt_true (n : Nat) : cntR n (fun _ => true) = n := by unfold cntR; rw [keep_true, List.length_range]
theorem sel_true {n i : Nat} (h : i < n) : selR n (fun _ => true) i = i := by
  unfold selR
  rw [keep_true, List.getD_eq_getElem?_getD, List.getElem?_range h]; rfl
theorem toNat_n1 (n : Nat) : ((n : Int) + 1).toNat = n + 1 := by omega
theorem dMul_lst1Z (b : Ow) (x : D) (z : Int) (h0 : 0 ≤ z) (h : z < 1000) : dMul (.lst b [x]) (.int z) = .ret (.lst .t (rg z.toNat fun _ => x)) := by
  obtain ⟨n, rfl⟩ := Int.eq_ofNat_of_zero_le h0
  exact dMul_lst1 b x n (by omega)
/-- not in, by in -/
theorem notIn_of (d e : D) (b : Bool) (h : dIn d e = .ret (.bl b)) : dNotIn d e = .ret (.bl (!b)) := by
  cases e with
  | tup ds =>
    have h1 : dIn d (.tup ds) = if okD d && okD (.tup ds) then .ret (.bl (ds.any fun z => PyData.eqv (pyD z) (pyD d))) else .stuck := rfl
    have h2 : dNotIn d (.tup ds) = if okD d && okD (.tup ds) then .ret (.bl (!ds.any fun z => PyData.eqv (pyD z) (pyD d))) else .stuck := rfl
    rw [h1] at h
    rw [h2]
    split at h
    · rename_i c
      rw [if_pos c]
      cases h; rfl
    · cases h
  | lst o ds =>
    have h1 : dIn d (.lst o ds) = if okD d && okD (.lst .t ds) then .ret (.bl (ds.any fun z => PyData.eqv (pyD z) (pyD d))) else .stuck := rfl
    have h2 : dNotIn d (.lst o ds) = if okD d && okD (.lst .t ds) then .ret (.bl (!ds.any fun z => PyData.eqv (pyD z) (pyD d))) else .stuck := rfl
    rw [h1] at h
    rw [h2]
    split at h
    · rename_i c
      rw [if_pos c]
      cases h; rfl
    · cases h
  | _ => cases h
theorem dNotIn_two (z a b : Int) : dNotIn (.int z) (.tup [.int a, .int b]) = .ret (.bl (!(decide (a = z) || decide (b = z)))) := notIn_of _ _ _ (dIn_two z a b)
theorem noShrL_pairs (n : Nat) (w v : Nat → Int) : noShrL (rg n fun i => D.tup [.int (w i), .int (v i)]) = true := noShrL_rg _ _ fun _ _ => rfl
theorem one_rg (x : D) : [x] = rg 1 fun _ => x := by rw [rg_succ, rg_zero]; rfl
/-- lists of ints against written ones -/
theorem dNe_lints1 (n : Nat) (a b : Ow) (w : Nat → Int) (z : Int) : dNe (.lst a (rg n fun j => .int (w j))) (.lst b [.int z]) = .ret (.bl (!decide (n = 1 ∧ ∀ i, i < n → w i = z))) := by
  rw [one_rg]; exact dNe_lints n 1 a b w fun _ => z
theorem dEq_lints1 (n : Nat) (a b : Ow) (w : Nat → Int) (z : Int) : dEq (.lst a (rg n fun j => .int (w j))) (.lst b [.int z]) = .ret (.bl (decide (n = 1 ∧ ∀ i, i < n → w i = z))) := by
  rw [one_rg]; exact dEq_lints n 1 a b w fun _ => z
theorem dNe_nil (k n : Nat) (a b : Ow) (f : Nat → D) (h : ∀ i, i < n → fits k (f i)) (hk : k < 60) : dNe (.lst a (rg n f)) (.lst b []) = .ret (.bl (!decide (n = 0))) := by
  rw [dNe_fits rfl (fits_lst fun d hd => by obtain ⟨i, hi, rfl⟩ := mem_rg.mp hd; exact h i hi) (fits_lst (k := 0) fun _ z => absurd z List.not_mem_nil) (by omega) (by decide)]
  congr 2
  show (!PyData.eqvAll (pyDL (rg n f)) (pyDL [])) = _
  congr 1
  have := eqv_rg n 0 f f
  rw [rg_zero f] at this
  rw [this]
  by_cases e : n = 0
  · subst e; simp
  · simp [e]
theorem dNe_nil_int (n : Nat) (a b : Ow) (w : Nat → Int) : dNe (.lst a (rg n fun i => .int (w i))) (.lst b []) = .ret (.bl (!decide (n = 0))) := dNe_nil 0 n a b _ (fun _ _ => fits_int _) (by decide)
theorem dNe_nil_pair (n : Nat) (a b : Ow) (w v : Nat → Int) : dNe (.lst a (rg n fun i => .tup [.int (w i), .int (v i)])) (.lst b []) = .ret (.bl (!decide (n = 0))) := dNe_nil 1 n a b _ (fun _ _ => fits_tup fun d hd => by
  rcases List.mem_cons.mp hd with rfl | hd
  · exact fits_int _
  · rw [List.mem_singleton.mp hd]; exact fits_int _) (by decide)
end Mid
namespace Mid
open PySem PySem.Spec PyProof.Rows L2
/-- flat data whose text has at most L signs -/
def ShR (k L : Nat) (d : D) : Prop := fits k d ∧ (pyD d).showable = true ∧ (pyD d).shown.length ≤ L
theorem shR_int {i : Int} (h : i.natAbs < 10 ^ 500) : ShR 0 501 (.int i) := by
  refine ⟨fits_int i, ?_, ?_⟩
  · show decide (i.natAbs.log2 < 1920) = true
    refine decide_eq_true ?_
    by_cases e : i.natAbs = 0
    · rw [e]; decide
    · refine (Nat.log2_lt e).mpr (Nat.lt_trans h ?_)
      decide +kernel
  · have e := int_text_length_le10 (k := 500) (by decide) h
    show (Str.ofString (toString i)).length ≤ 501
    rw [PySem.ofString_length]; exact e
theorem shR_non : ShR 0 501 .non := ⟨fits_non, rfl, by decide⟩
theorem shR_bl (b : Bool) : ShR 0 501 (.bl b) := ⟨fits_bl b, rfl, by cases b <;> decide⟩
theorem ShR.mono {k L k' L' : Nat} {d : D} (h : ShR k L d) (hk : k ≤ k') (hL : L ≤ L') : ShR k' L' d := ⟨⟨h.1.1, h.1.2.1, Nat.le_trans h.1.2.2 hk⟩, h.2.1, Nat.le_trans h.2.2 hL⟩
theorem gRepr_ok {k L : Nat} {d : D} (h : ShR k L d) (hk : k ≤ 64) (hL : L ≤ 16000000) : gRepr [d] = .ret (.str (pyD d).shown) := by
  have hs := sizeLine_eq
  have h1 := fits_ok h.1 hk
  have h2 := h.2.1
  have h3 : decide ((pyD d).shown.length ≤ sizeLine) = true := decide_eq_true (by have := h.2.2; omega)
  show (if okD d && (pyD d).showable && decide ((pyD d).shown.length ≤ sizeLine) then Comp.ret (D.str (pyD d).shown) else .stuck) = _
  rw [h1, h2, h3]; rfl
section
variable {Q : Nat → Fl × Env → Prop} {E : Nat → Str → List D → Prop} {n : Nat} {ρ : Env} {f : Env → Comp (Fl × Env)} {i j : Nat} {es : Errs}
def tryQ (i j : Nat) (es : Errs) (Q : Nat → Fl × Env → Prop) (E : Nat → Str → List D → Prop) (m : Nat) (r : Fl × Env) : Prop := (takeE i j es r).wp Q E m
theorem wp_tryK : (sTryK i j es f ρ).wp Q E n = (f ρ).wp (tryQ i j es Q E) E n := by unfold sTryK; rw [wp_bind]; rfl
theorem tryQ_nx {m : Nat} : tryQ i j es Q E m (.nx, ρ) = Q m (.nx, ρ) := rfl
theorem tryQ_rt {m : Nat} {d : D} : tryQ i j es Q E m (.rt d, ρ) = Q m (.rt d, ρ) := rfl
def onEs (x : Option Bool) (p q : Prop) : Prop := match x with
  | some true => p
  | some false => q
  | none => False
theorem onEs_t {p q : Prop} : onEs (some true) p q = p := rfl
theorem onEs_f {p q : Prop} : onEs (some false) p q = q := rfl
theorem tryQ_er {m : Nat} {c : Str} {x : List D} : tryQ i j es Q E m (.er c x, ρ) = onEs (es.lookup c) (Q m (.nx, ((ρ.set i none).set j (some (.exc c x))).set i none)) (Q m (.er c x, ρ)) := by
  show Comp.wp Q E (match es.lookup c with
    | some true => .ret (.nx, (((ρ.set i none).set j (some (.exc c x))).set i none))
    | some false => .ret (.er c x, ρ)
    | none => .stuck) m = _
  cases es.lookup c with
  | none => rfl
  | some b => cases b <;> rfl
end
theorem isE_non (es : Errs) : isE es .non = .ret (.bl false) := rfl
theorem isE_exc (es : Errs) (c : Str) (x : List D) (b : Bool) (h : es.lookup c = some b) : isE es (.exc c x) = .ret (.bl b) := by
  show (match es.lookup c with | some b => Comp.ret (D.bl b) | none => .stuck) = _
  rw [h]
theorem atE_exc (f : Str) (cs : List Str) (c : Str) (d : D) (h : c ∈ cs) : atE f cs (.exc c [.str f, d]) = .ret d := if_pos ⟨rfl, h⟩
theorem isNon_exc (c : Str) (x : List D) : isNon (.exc c x) = false := rfl
theorem noShr_exc1 (c f : Str) (d : D) : noShr (.exc c [.str f, d]) = false := rfl
theorem noShr_exc0 (c : Str) : noShr (.exc c []) = true := rfl
theorem upX_nil (vs : List Nat) (ρ : Env) : upX vs [] ρ = ρ := rfl
theorem upX_cons (vs : List Nat) (d : D) (ds : List D) (ρ : Env) : upX vs (d :: ds) ρ = frzE vs ρ := rfl
theorem fz_exc (c : Str) (x : List D) : fz (.exc c x) = .exc c x := rfl
theorem brw_exc (c : Str) (x : List D) : brw (.exc c x) = false := rfl
end Mid
namespace Mid
open PySem PySem.Spec PyProof.Rows L2
def evb := (And.intro (And.intro (And.intro (And.intro (And.intro (And.intro (And.intro (And.intro @Mid.wp_ret @Mid.wp_stuck) (And.intro @Mid.wp_bind (And.intro @Mid.wp_seq @Mid.wp_nil))) (And.intro (And.intro @Mid.wp_asg (And.intro @Mid.wp_expr @Mid.wp_rt)) (And.intro @Mid.wp_if (And.intro @Mid.wp_k @Mid.wp_par)))) (And.intro (And.intro (And.intro @Mid.wp_unp (And.intro @Mid.wp_rtV @Mid.wp_rtN)) (And.intro @Mid.wp_break (And.intro @Mid.wp_cont @Mid.wp_raise))) (And.intro (And.intro @Mid.wp_forR (And.intro @Mid.wp_forS @Mid.wp_app)) (And.intro @Mid.wp_fn (And.intro @Mid.seqQ_nx @Mid.seqQ_rt))))) (And.intro (And.intro (And.intro (And.intro @Mid.seqQ_er @Mid.seqQ_bk) (And.intro @Mid.seqQ_ct (And.intro @Mid.turnQ_nx @Mid.turnQ_ct))) (And.intro (And.intro @Mid.turnQ_bk (And.intro @Mid.turnQ_rt @Mid.turnQ_er)) (And.intro @Mid.errQ.eq_1 (And.intro @Mid.asgQ.eq_1 @Mid.expQ.eq_1)))) (And.intro (And.intro (And.intro @Mid.rtQ.eq_1 (And.intro @Mid.ifQ.eq_1 @Mid.par2Q.eq_1)) (And.intro @Mid.parQ.eq_1 (And.intro @Mid.rtvQ_eq @Mid.outQ.eq_1))) (And.intro (And.intro @Mid.startE.eq_1 (And.intro @Mid.run.eq_1 @Mid.fzE.eq_1)) (And.intro @Mid.frzE_A (And.intro @Mid.frzA.eq_1 @Mid.frzA.eq_2)))))) (And.intro (And.intro (And.intro (And.intro (And.intro @Mid.upE.eq_1 @Mid.upX.eq_1) (And.intro @Mid.noShr.eq_1 (And.intro @Mid.noShr.eq_2 @Mid.noShr.eq_3))) (And.intro (And.intro @Mid.noShr.eq_4 (And.intro @Mid.noShr.eq_5 @Mid.noShr.eq_6)) (And.intro @Mid.noShr.eq_7 (And.intro @Mid.noShr.eq_8 @Mid.noShr.eq_9)))) (And.intro (And.intro (And.intro @Mid.noShr.eq_10 (And.intro @Mid.noShr.eq_11 @Mid.noShr.eq_12)) (And.intro @Mid.noShr.eq_13 (And.intro @Mid.noShrL.eq_1 @Mid.noShrL.eq_2))) (And.intro (And.intro @Mid.noShrL_rg (And.intro @Mid.noShrL_ints @Mid.noShrL_bls)) (And.intro @Mid.noShrL_rows (And.intro @Mid.noShrL_lrows @Mid.ow_tf))))) (And.intro (And.intro (And.intro (And.intro @Mid.ow_bf (And.intro @Mid.ow_ff @Mid.brw_tup)) (And.intro @Mid.brw_int (And.intro @Mid.brw_bl @Mid.brw_str))) (And.intro (And.intro @Mid.brw_non (And.intro @Mid.brw_lt @Mid.brw_lf)) (And.intro @Mid.wipeE.eq_1 (And.intro @Mid.wipeE.eq_2 @Mid.ownAt.eq_1)))) (And.intro (And.intro (And.intro @Mid.fz.eq_1 (And.intro @Mid.fz.eq_2 @Mid.fz.eq_3)) (And.intro @Mid.fz.eq_4 (And.intro @Mid.fz.eq_5 @Mid.fz.eq_6))) (And.intro (And.intro @Mid.fz.eq_7 (And.intro @Mid.fz.eq_8 @Mid.fz.eq_9)) (And.intro @Mid.fz.eq_10 (And.intro @Mid.fz.eq_11 @Mid.fz.eq_12))))))) (And.intro (And.intro (And.intro (And.intro (And.intro (And.intro @Mid.fz.eq_13 @Mid.fzL.eq_1) (And.intro @Mid.fzL.eq_2 (And.intro @Mid.fzL_rg @List.map_cons.{0,0}))) (And.intro (And.intro @List.map_nil.{0,0} (And.intro @List.cons_append.{0} @List.nil_append.{0})) (And.intro @List.length_cons.{0} (And.intro @List.length_nil.{0} @List.replicate.eq_1.{0})))) (And.intro (And.intro (And.intro @List.replicate.eq_2.{0} (And.intro @Option.map_some.{0,0} @Option.map_none.{0,0})) (And.intro @List.getElem?_cons_zero.{0} (And.intro @List.getElem?_cons_succ.{0} @List.set_cons_zero.{0}))) (And.intro (And.intro @List.set_cons_succ.{0} (And.intro @List.contains_cons.{0} @List.contains_nil.{0})) (And.intro @List.isEmpty_nil.{0} (And.intro @List.isEmpty_cons.{0} @Mid.eVar.eq_1))))) (And.intro (And.intro (And.intro (And.intro @Mid.eK.eq_1 @Mid.eBin.eq_1) (And.intro @Mid.eUn.eq_1 (And.intro @Mid.asB.eq_1 @Mid.bOf.eq_1))) (And.intro (And.intro @Mid.bAnd.eq_1 (And.intro @Mid.bOr.eq_1 @Mid.bNot.eq_1)) (And.intro @Mid.eAnd.eq_1 (And.intro @Mid.eOr.eq_1 @Mid.eNot.eq_1)))) (And.intro (And.intro (And.intro @Mid.eIf.eq_1 (And.intro @Mid.aNil.eq_1 @Mid.aCons.eq_1)) (And.intro @Mid.eCallB.eq_1 (And.intro @Mid.eCall.eq_1 @Mid.gTup_ok))) (And.intro (And.intro @Mid.gLst_ok (And.intro @Mid.eDct.eq_1 @Mid.oNone.eq_1)) (And.intro @Mid.oSome.eq_1 (And.intro @Mid.asI.eq_1 @Mid.eSl.eq_1)))))) (And.intro (And.intro (And.intro (And.intro (And.intro @Mid.eChain.eq_1 @Mid.eComp.eq_1) (And.intro @Mid.iSeq.eq_1 (And.intro @Mid.iOf.eq_1 @Mid.itemsOf.eq_1))) (And.intro (And.intro @Mid.itemsOf.eq_2 (And.intro @Mid.gRange1.eq_1 @Mid.gRange2.eq_1)) (And.intro @Mid.gEnum.eq_1 (And.intro @Mid.gZip.eq_1 @Mid.gZip.eq_2)))) (And.intro (And.intro (And.intro @Mid.gEnumZip.eq_1 (And.intro @Mid.eIdx.eq_1 @Mid.bind_ret)) (And.intro @Mid.try_ret (And.intro @Mid.sure_ret @Mid.cAll.eq_1))) (And.intro (And.intro @Mid.compL_rg (And.intro @Mid.stepC_eq @Mid.onC_some)) (And.intro @Mid.tName.eq_1 (And.intro @Mid.tTup.eq_1 @Mid.tTup.eq_2))))) (And.intro (And.intro (And.intro (And.intro @Mid.tTup.eq_3 (And.intro @Mid.tsCons.eq_1 @Mid.tsCons.eq_2)) (And.intro @Mid.tsNil.eq_1 (And.intro @Mid.tsNil.eq_2 @Option.bind_some.{0,0}))) (And.intro (And.intro @Option.bind_none.{0,0} (And.intro @Mid.mapR_ret @Mid.rg_length)) (And.intro @Mid.rg_zero (And.intro @Mid.numbered_rg @Mid.pairs_rg)))) (And.intro (And.intro (And.intro @Mid.rangeL_rg (And.intro @Mid.ix_rg_t @Mid.ix_rg_l)) (And.intro @Mid.dEq_int (And.intro @Mid.dNe_int @Mid.dEq_str))) (And.intro (And.intro @Mid.dNe_str (And.intro @Mid.dEq_bl @Mid.dNe_bl)) (And.intro @Mid.dEq_web (And.intro @Mid.dNe_web @Mid.dEq_row)))))))) (And.intro (And.intro (And.intro (And.intro (And.intro (And.intro (And.intro @Mid.dNe_row @Mid.dEq_web_non) (And.intro @Mid.dEq_non_web (And.intro @Mid.dNe_web_non @Mid.dNe_non_web))) (And.intro (And.intro @Mid.dNe_non_non (And.intro @Mid.dEq_non_non @Mid.dIs.eq_1)) (And.intro @Mid.dIsNot.eq_1 (And.intro @Mid.isNon.eq_1 @Mid.isNon_tup)))) (And.intro (And.intro (And.intro @Mid.isNon_int (And.intro @Mid.isNon_lst @Mid.isNon_bl)) (And.intro @Mid.isNon_str (And.intro @Mid.dAdd.eq_1 @Mid.dAdd.eq_2))) (And.intro (And.intro @Mid.dAdd.eq_3 (And.intro @Mid.dSub.eq_1 @Mid.dMul_int)) (And.intro @Mid.dMod_int (And.intro @Mid.dCmp.eq_1 @Mid.gLen.eq_1))))) (And.intro (And.intro (And.intro (And.intro @Mid.gLen.eq_2 @Mid.gInt.eq_1) (And.intro @Mid.gInt.eq_2 (And.intro @Mid.gList.eq_1 @Mid.gList.eq_2))) (And.intro (And.intro @Mid.gTuple.eq_1 (And.intro @Mid.gTuple.eq_2 @Mid.gSum_l)) (And.intro @Mid.gSum_t (And.intro @Mid.gAll_rg @Mid.gAnyB_rg)))) (And.intro (And.intro (And.intro @Mid.gMin_t (And.intro @Mid.gMin_l @Mid.gMax_t)) (And.intro @Mid.gMax_l (And.intro @Mid.gAnew.eq_1 @Bool.not_true))) (And.intro (And.intro @Bool.not_false (And.intro @Bool.and_true @Bool.and_false)) (And.intro @Bool.true_and (And.intro @Bool.false_and @Bool.or_true)))))) (And.intro (And.intro (And.intro (And.intro (And.intro @Bool.or_false @Bool.true_or) (And.intro @Bool.false_or (And.intro @Bool.and_self @Bool.or_self))) (And.intro (And.intro @bne_self_eq_false.{0} (And.intro @decide_true @decide_false)) (And.intro @if_true.{1} (And.intro @if_false.{1} @ite_true.{1})))) (And.intro (And.intro (And.intro @ite_false.{1} (And.intro @true_and @and_true)) (And.intro @false_and (And.intro @and_false @forall_const.{0}))) (And.intro (And.intro @forall_const.{1} (And.intro @true_implies @false_implies)) (And.intro @implies_true.{0} (And.intro @implies_true.{1} @ne_eq.{1}))))) (And.intro (And.intro (And.intro (And.intro @not_true_eq_false (And.intro @not_false_eq_true @eq_self.{1})) (And.intro @Mid.g_pos (And.intro @Int.toNat_natCast @Int.toNat_one))) (And.intro (And.intro @Int.toNat_zero (And.intro @Nat.add_zero @Nat.zero_add)) (And.intro @Int.zero_add (And.intro @Int.add_zero @Nat.min_self)))) (And.intro (And.intro (And.intro @exists_eq_left.{1} (And.intro @exists_eq_left'.{1} @Bool.false_eq_true)) (And.intro @Bool.true_eq_false (And.intro @decide_not @beq_self_eq_true.{0}))) (And.intro (And.intro @Mid.castI_eq (And.intro @Mid.castI_lt @Mid.castI_le)) (And.intro @Mid.castI_nn (And.intro @Mid.dSl_t_to @Mid.dSl_t_from))))))) (And.intro (And.intro (And.intro (And.intro (And.intro (And.intro @Mid.dSl_t_from1 @Mid.dSl_tail) (And.intro @Mid.ix0 (And.intro @Mid.ix1 @Mid.ix2))) (And.intro (And.intro @Mid.ix3 (And.intro @Mid.lix0 @Mid.lix1)) (And.intro @Mid.rg_snoc (And.intro @Mid.rg_append @Mid.oW_none)))) (And.intro (And.intro (And.intro @Mid.oW_some (And.intro @decide_eq_true_eq @decide_eq_false_iff_not)) (And.intro @Bool.not_eq_true (And.intro @Bool.not_eq_false @Mid.dEq_tup_nil))) (And.intro (And.intro @Mid.rg_take (And.intro @Mid.rg_drop @List.length_append.{0})) (And.intro @List.map_append.{0,0} (And.intro @Bool.not_eq_eq_eq_not @Bool.and_eq_true))))) (And.intro (And.intro (And.intro (And.intro @Bool.or_eq_true @Mid.onW_some) (And.intro @Mid.onN_some (And.intro @Mid.onI_int @Mid.onL_some))) (And.intro (And.intro @Mid.appQ.eq_1 (And.intro @Mid.set1bQ.eq_1 @Mid.set1Q.eq_1)) (And.intro @Mid.wp_set1 (And.intro @Mid.set2cQ.eq_1 @Mid.set2bQ.eq_1)))) (And.intro (And.intro (And.intro @Mid.set2Q.eq_1 (And.intro @Mid.wp_set2 @Mid.insbQ.eq_1)) (And.intro @Mid.insQ.eq_1 (And.intro @Mid.wp_ins @Mid.popQ.eq_1))) (And.intro (And.intro @Mid.wp_pop (And.intro @Mid.ixN_in @Mid.rg_set)) (And.intro @Mid.rg_erase (And.intro @Mid.insAt_rg @Mid.rg_get)))))) (And.intro (And.intro (And.intro (And.intro (And.intro @Mid.d_ite_int @Mid.d_ite_tup) (And.intro @Mid.d_ite_lst (And.intro @Mid.unpU_some @Mid.unpQ_tup))) (And.intro (And.intro @Mid.fz_oW (And.intro @Mid.noShr_oW @Mid.isNon_oW)) (And.intro @Mid.brw_oW (And.intro @Mid.seqD_t @Mid.seqD_l)))) (And.intro (And.intro (And.intro @Mid.gIdx_l (And.intro @Mid.gIdx_t @Mid.ite_ret_int)) (And.intro @Mid.ite_ret_bl (And.intro @Mid.ite_ret_b @Mid.ite_ret_str))) (And.intro (And.intro @Mid.x_ite_tt (And.intro @Mid.x_ite_ff @Mid.x_ite_tf)) (And.intro @Mid.x_ite_ft (And.intro @Mid.wp_ite @Mid.castI_0))))) (And.intro (And.intro (And.intro (And.intro @Mid.castI_1 (And.intro @Mid.castI_2 @Mid.castI_3)) (And.intro @Mid.castI_4 (And.intro @Mid.castI_5 @Mid.castI_6))) (And.intro (And.intro @Mid.castI_7 (And.intro @Mid.castI_8 @Mid.castI_9)) (And.intro @Mid.castI_10 (And.intro @Mid.castI_11 @Mid.castI_12)))) (And.intro (And.intro (And.intro @Mid.dPow_10_9 (And.intro @Mid.dPow_10_12 @Mid.dIn_two)) (And.intro @Mid.dIn_non_oW (And.intro @Mid.dNe_oW_self @Mid.fmod_nat))) (And.intro (And.intro @Mid.fmod_cast (And.intro @Mid.dMul_lst1 @Mid.onE_some)) (And.intro @Mid.forQ_nil (And.intro @Mid.forQ_cons @Mid.fromQ_eq)))))))))
def ev35 := (And.intro (And.intro (And.intro @Mid.onT_lst @Mid.extQ.eq_1) (And.intro @Mid.wp_ext @Mid.gLR_nat)) (And.intro (And.intro @Mid.gSrt_ord_t @Mid.gSrt_ord_l) (And.intro @Mid.dEq_lints @Mid.dNe_lints)))
def ev36 := (And.intro (And.intro (And.intro (And.intro @Mid.compL_filt @Mid.filtR_ret) (And.intro @Mid.testC_eq @Mid.onB_some)) (And.intro (And.intro @Mid.cnt_true @Mid.sel_true) (And.intro @Mid.dNe_lints1 @Mid.dEq_lints1))) (And.intro (And.intro (And.intro @Mid.dNe_nil_int @Mid.dNe_nil_pair) (And.intro @Mid.cnt_ne @Mid.sel_ne)) (And.intro (And.intro @Mid.toNat_n1 @Mid.dMul_lst1Z) (And.intro @Mid.dNotIn_two @Mid.noShrL_pairs))))
def ev37 := (And.intro (And.intro (And.intro (And.intro @Mid.wp_err @Mid.wp_tryK) (And.intro @Mid.tryQ_nx (And.intro @Mid.tryQ_rt @Mid.tryQ_er))) (And.intro (And.intro @Mid.onEs_t @Mid.onEs_f) (And.intro @Mid.isE_non (And.intro @Mid.atE_exc @Mid.isNon_exc)))) (And.intro (And.intro (And.intro @Mid.noShr_exc1 @Mid.noShr_exc0) (And.intro @Mid.upX_nil (And.intro @Mid.upX_cons @Mid.fz_exc))) (And.intro (And.intro @Mid.brw_exc (And.intro @Mid.eRaise.eq_1 @Mid.sRaiseE.eq_1)) (And.intro @Mid.wp_raise (And.intro @Mid.outQ.eq_1 @Mid.isE_exc)))))
end Mid
namespace Mid
open PySem PySem.Spec PyProof.Rows L2
end Mid
namespace Mid
open PySem PySem.Spec PyProof.Rows L2
end Mid
namespace Law
open PySem PySem.Spec PyProof.Rows L2 Mid
noncomputable def c__law_one : Mid.Env → Comp (Fl × Mid.Env) := sRet [0, 1] (eBin dIx (eVar 1) (eCall 2 gTake (aCons (eVar 0) (aCons (eCallB gLen (aCons (eVar 1) (aNil))) (aNil)))))
noncomputable def F__law_one : List D → Comp D := fnB 2 c__law_one
noncomputable def c__law_drawn : Mid.Env → Comp (Fl × Mid.Env) := sSeq (sAsg 2 [] (eCallB gLst (aNil)))
  (sSeq (sForR [1] (iOf gRange1 (aCons (eVar 1) (aNil))) (tName 3) (sK [3] (sIns 2 [0, 3] (eCall 2 gTake (aCons (eVar 0) (aCons (eBin dAdd (eVar 3) (eK (.int 1))) (aNil)))) (eVar 3))))
  (sRetV 2))
noncomputable def F__law_drawn : List D → Comp D := fnB 4 c__law_drawn
noncomputable def c__law_kinds : Mid.Env → Comp (Fl × Mid.Env) := sSeq (sAsg 1 [0] (eCallB gLst (aCons (eUn (isE [("RoadError", false), ("NoWeb", true), ("NoPlace", false), ("NoOrder", false), ("NoRound", false), ("NoNumber", false), ("NoWorth", false), ("NoNumbers", false), ("NotRich", false), ("NotFull", false), ("NotLevel", false), ("NoPaper", false), ("Nothing", false), ("TooMany", false), ("TooLong", false), ("TooGreat", false), ("NoDeed", false), ("NoName", false), ("Standing", false), ("Full", false), ("NoMark", false)]) (eVar 0)) (aCons (eUn (isE [("RoadError", false), ("NoWeb", false), ("NoPlace", true), ("NoOrder", false), ("NoRound", false), ("NoNumber", false), ("NoWorth", false), ("NoNumbers", false), ("NotRich", false), ("NotFull", false), ("NotLevel", false), ("NoPaper", false), ("Nothing", false), ("TooMany", false), ("TooLong", false), ("TooGreat", false), ("NoDeed", false), ("NoName", false), ("Standing", false), ("Full", false), ("NoMark", false)]) (eVar 0)) (aCons (eUn (isE [("RoadError", false), ("NoWeb", false), ("NoPlace", false), ("NoOrder", true), ("NoRound", false), ("NoNumber", false), ("NoWorth", false), ("NoNumbers", false), ("NotRich", false), ("NotFull", false), ("NotLevel", false), ("NoPaper", false), ("Nothing", false), ("TooMany", false), ("TooLong", false), ("TooGreat", false), ("NoDeed", false), ("NoName", false), ("Standing", false), ("Full", false), ("NoMark", false)]) (eVar 0)) (aCons (eUn (isE [("RoadError", false), ("NoWeb", false), ("NoPlace", false), ("NoOrder", false), ("NoRound", true), ("NoNumber", false), ("NoWorth", false), ("NoNumbers", false), ("NotRich", false), ("NotFull", false), ("NotLevel", false), ("NoPaper", false), ("Nothing", false), ("TooMany", false), ("TooLong", false), ("TooGreat", false), ("NoDeed", false), ("NoName", false), ("Standing", false), ("Full", false), ("NoMark", false)]) (eVar 0)) (aNil)))))))
  (sSeq (sAsg 1 [0, 1] (eBin dAdd (eVar 1) (eCallB gLst (aCons (eUn (isE [("RoadError", false), ("NoWeb", false), ("NoPlace", false), ("NoOrder", false), ("NoRound", false), ("NoNumber", true), ("NoWorth", false), ("NoNumbers", false), ("NotRich", false), ("NotFull", false), ("NotLevel", false), ("NoPaper", false), ("Nothing", false), ("TooMany", false), ("TooLong", false), ("TooGreat", false), ("NoDeed", false), ("NoName", false), ("Standing", false), ("Full", false), ("NoMark", false)]) (eVar 0)) (aCons (eUn (isE [("RoadError", false), ("NoWeb", false), ("NoPlace", false), ("NoOrder", false), ("NoRound", false), ("NoNumber", false), ("NoWorth", true), ("NoNumbers", false), ("NotRich", false), ("NotFull", false), ("NotLevel", false), ("NoPaper", false), ("Nothing", false), ("TooMany", false), ("TooLong", false), ("TooGreat", false), ("NoDeed", false), ("NoName", false), ("Standing", false), ("Full", false), ("NoMark", false)]) (eVar 0)) (aCons (eUn (isE [("RoadError", false), ("NoWeb", false), ("NoPlace", false), ("NoOrder", false), ("NoRound", false), ("NoNumber", false), ("NoWorth", false), ("NoNumbers", true), ("NotRich", false), ("NotFull", false), ("NotLevel", false), ("NoPaper", false), ("Nothing", false), ("TooMany", false), ("TooLong", false), ("TooGreat", false), ("NoDeed", false), ("NoName", false), ("Standing", false), ("Full", false), ("NoMark", false)]) (eVar 0)) (aNil)))))))
  (sSeq (sAsg 1 [0, 1] (eBin dAdd (eVar 1) (eCallB gLst (aCons (eUn (isE [("RoadError", false), ("NoWeb", false), ("NoPlace", false), ("NoOrder", false), ("NoRound", false), ("NoNumber", false), ("NoWorth", false), ("NoNumbers", false), ("NotRich", true), ("NotFull", false), ("NotLevel", false), ("NoPaper", false), ("Nothing", false), ("TooMany", false), ("TooLong", false), ("TooGreat", false), ("NoDeed", false), ("NoName", false), ("Standing", false), ("Full", false), ("NoMark", false)]) (eVar 0)) (aCons (eUn (isE [("RoadError", false), ("NoWeb", false), ("NoPlace", false), ("NoOrder", false), ("NoRound", false), ("NoNumber", false), ("NoWorth", false), ("NoNumbers", false), ("NotRich", false), ("NotFull", true), ("NotLevel", false), ("NoPaper", false), ("Nothing", false), ("TooMany", false), ("TooLong", false), ("TooGreat", false), ("NoDeed", false), ("NoName", false), ("Standing", false), ("Full", false), ("NoMark", false)]) (eVar 0)) (aCons (eUn (isE [("RoadError", false), ("NoWeb", false), ("NoPlace", false), ("NoOrder", false), ("NoRound", false), ("NoNumber", false), ("NoWorth", false), ("NoNumbers", false), ("NotRich", false), ("NotFull", false), ("NotLevel", true), ("NoPaper", false), ("Nothing", false), ("TooMany", false), ("TooLong", false), ("TooGreat", false), ("NoDeed", false), ("NoName", false), ("Standing", false), ("Full", false), ("NoMark", false)]) (eVar 0)) (aNil)))))))
  (sSeq (sAsg 1 [0, 1] (eBin dAdd (eVar 1) (eCallB gLst (aCons (eUn (isE [("RoadError", false), ("NoWeb", false), ("NoPlace", false), ("NoOrder", false), ("NoRound", false), ("NoNumber", false), ("NoWorth", false), ("NoNumbers", false), ("NotRich", false), ("NotFull", false), ("NotLevel", false), ("NoPaper", true), ("Nothing", false), ("TooMany", false), ("TooLong", false), ("TooGreat", false), ("NoDeed", false), ("NoName", false), ("Standing", false), ("Full", false), ("NoMark", false)]) (eVar 0)) (aCons (eUn (isE [("RoadError", false), ("NoWeb", false), ("NoPlace", false), ("NoOrder", false), ("NoRound", false), ("NoNumber", false), ("NoWorth", false), ("NoNumbers", false), ("NotRich", false), ("NotFull", false), ("NotLevel", false), ("NoPaper", false), ("Nothing", true), ("TooMany", false), ("TooLong", false), ("TooGreat", false), ("NoDeed", false), ("NoName", false), ("Standing", false), ("Full", false), ("NoMark", false)]) (eVar 0)) (aCons (eUn (isE [("RoadError", false), ("NoWeb", false), ("NoPlace", false), ("NoOrder", false), ("NoRound", false), ("NoNumber", false), ("NoWorth", false), ("NoNumbers", false), ("NotRich", false), ("NotFull", false), ("NotLevel", false), ("NoPaper", false), ("Nothing", false), ("TooMany", true), ("TooLong", false), ("TooGreat", false), ("NoDeed", false), ("NoName", false), ("Standing", false), ("Full", false), ("NoMark", false)]) (eVar 0)) (aNil)))))))
  (sSeq (sAsg 1 [0, 1] (eBin dAdd (eVar 1) (eCallB gLst (aCons (eUn (isE [("RoadError", false), ("NoWeb", false), ("NoPlace", false), ("NoOrder", false), ("NoRound", false), ("NoNumber", false), ("NoWorth", false), ("NoNumbers", false), ("NotRich", false), ("NotFull", false), ("NotLevel", false), ("NoPaper", false), ("Nothing", false), ("TooMany", false), ("TooLong", true), ("TooGreat", false), ("NoDeed", false), ("NoName", false), ("Standing", false), ("Full", false), ("NoMark", false)]) (eVar 0)) (aCons (eUn (isE [("RoadError", false), ("NoWeb", false), ("NoPlace", false), ("NoOrder", false), ("NoRound", false), ("NoNumber", false), ("NoWorth", false), ("NoNumbers", false), ("NotRich", false), ("NotFull", false), ("NotLevel", false), ("NoPaper", false), ("Nothing", false), ("TooMany", false), ("TooLong", false), ("TooGreat", true), ("NoDeed", false), ("NoName", false), ("Standing", false), ("Full", false), ("NoMark", false)]) (eVar 0)) (aCons (eUn (isE [("RoadError", false), ("NoWeb", false), ("NoPlace", false), ("NoOrder", false), ("NoRound", false), ("NoNumber", false), ("NoWorth", false), ("NoNumbers", false), ("NotRich", false), ("NotFull", false), ("NotLevel", false), ("NoPaper", false), ("Nothing", false), ("TooMany", false), ("TooLong", false), ("TooGreat", false), ("NoDeed", true), ("NoName", false), ("Standing", false), ("Full", false), ("NoMark", false)]) (eVar 0)) (aNil)))))))
  (sSeq (sAsg 1 [0, 1] (eBin dAdd (eVar 1) (eCallB gLst (aCons (eUn (isE [("RoadError", false), ("NoWeb", false), ("NoPlace", false), ("NoOrder", false), ("NoRound", false), ("NoNumber", false), ("NoWorth", false), ("NoNumbers", false), ("NotRich", false), ("NotFull", false), ("NotLevel", false), ("NoPaper", false), ("Nothing", false), ("TooMany", false), ("TooLong", false), ("TooGreat", false), ("NoDeed", false), ("NoName", true), ("Standing", false), ("Full", false), ("NoMark", false)]) (eVar 0)) (aCons (eUn (isE [("RoadError", false), ("NoWeb", false), ("NoPlace", false), ("NoOrder", false), ("NoRound", false), ("NoNumber", false), ("NoWorth", false), ("NoNumbers", false), ("NotRich", false), ("NotFull", false), ("NotLevel", false), ("NoPaper", false), ("Nothing", false), ("TooMany", false), ("TooLong", false), ("TooGreat", false), ("NoDeed", false), ("NoName", false), ("Standing", true), ("Full", false), ("NoMark", false)]) (eVar 0)) (aCons (eUn (isE [("RoadError", false), ("NoWeb", false), ("NoPlace", false), ("NoOrder", false), ("NoRound", false), ("NoNumber", false), ("NoWorth", false), ("NoNumbers", false), ("NotRich", false), ("NotFull", false), ("NotLevel", false), ("NoPaper", false), ("Nothing", false), ("TooMany", false), ("TooLong", false), ("TooGreat", false), ("NoDeed", false), ("NoName", false), ("Standing", false), ("Full", true), ("NoMark", false)]) (eVar 0)) (aNil)))))))
  (sRet [0, 1] (eBin dAdd (eVar 1) (eCallB gLst (aCons (eUn (isE [("RoadError", false), ("NoWeb", false), ("NoPlace", false), ("NoOrder", false), ("NoRound", false), ("NoNumber", false), ("NoWorth", false), ("NoNumbers", false), ("NotRich", false), ("NotFull", false), ("NotLevel", false), ("NoPaper", false), ("Nothing", false), ("TooMany", false), ("TooLong", false), ("TooGreat", false), ("NoDeed", false), ("NoName", false), ("Standing", false), ("Full", false), ("NoMark", true)]) (eVar 0)) (aNil))))))))))
noncomputable def F__law_kinds : List D → Comp D := fnB 2 c__law_kinds
noncomputable def c_law_k05 : Mid.Env → Comp (Fl × Mid.Env) := sSeq (sAsg 2 [1] (eUn (joinD ("" : PySem.Str)) (eComp [6] (iOf gRange1 (aCons (eCall 2 gTake (aCons (eVar 1) (aCons (eK (.int 9)) (aNil)))) (aNil))) (tName 6) (cAll) (eCall 2 F__law_one (aCons (eVar 1) (aCons (eCallB gLst (aCons (eK (.str ("a" : PySem.Str))) (aCons (eK (.str ("b" : PySem.Str))) (aCons (eK (.str (" " : PySem.Str))) (aCons (eK (.str ("z" : PySem.Str))) (aCons (eK (.str ("0" : PySem.Str))) (aNil))))))) (aNil)))))))
  (sSeq (sAsg 3 [2] (eCallB gLst (aCons (eMk ("NoWeb" : PySem.Str) (eVar 2)) (aCons (eMk ("NoPlace" : PySem.Str) (eVar 2)) (aCons (eMk ("NoOrder" : PySem.Str) (eVar 2)) (aCons (eMk ("NoRound" : PySem.Str) (eVar 2)) (aCons (eMk ("NoNumber" : PySem.Str) (eVar 2)) (aCons (eMk ("NoWorth" : PySem.Str) (eVar 2)) (aCons (eMk ("NoNumbers" : PySem.Str) (eVar 2)) (aNil))))))))))
  (sSeq (sAsg 3 [2, 3] (eBin dAdd (eVar 3) (eCallB gLst (aCons (eMk ("NotRich" : PySem.Str) (eVar 2)) (aCons (eMk ("NotFull" : PySem.Str) (eVar 2)) (aCons (eMk ("NotLevel" : PySem.Str) (eVar 2)) (aCons (eMk ("NoPaper" : PySem.Str) (eVar 2)) (aCons (eMk ("Nothing" : PySem.Str) (eVar 2)) (aCons (eMk ("TooMany" : PySem.Str) (eVar 2)) (aNil))))))))))
  (sSeq (sAsg 3 [2, 3] (eBin dAdd (eVar 3) (eCallB gLst (aCons (eMk ("TooLong" : PySem.Str) (eVar 2)) (aCons (eMk ("TooGreat" : PySem.Str) (eVar 2)) (aNil))))))
  (sSeq (sAsg 4 [1, 2] (eComp [6] (iOf gRange1 (aCons (eK (.int 5)) (aNil))) (tName 6) (cAll) (eCall 2 F__law_one (aCons (eVar 1) (aCons (eCallB gLst (aCons (eVar 2) (aCons (eK .non) (aCons (eK (.int 7)) (aCons (eK (.str ("" : PySem.Str))) (aCons (eCallB Mid.gTup (aCons (eK (.str ("a" : PySem.Str))) (aNil))) (aCons (eCallB gLst (aCons (eK (.int 0)) (aNil))) (aCons (eK (.bl true)) (aCons (eBin dPow (eK (.int 10)) (eK (.int 20))) (aNil)))))))))) (aNil))))))
  (sSeq (sAsg 3 [3, 4] (eBin dAdd (eVar 3) (eCallB gLst (aCons (eMkE ("NoDeed" : PySem.Str) ("number" : PySem.Str) (eBin dIx (eVar 4) (eK (.int 0)))) (aCons (eMkE ("NoName" : PySem.Str) ("name" : PySem.Str) (eBin dIx (eVar 4) (eK (.int 1)))) (aCons (eMkE ("Standing" : PySem.Str) ("name" : PySem.Str) (eBin dIx (eVar 4) (eK (.int 2)))) (aCons (eMkE ("Full" : PySem.Str) ("most" : PySem.Str) (eBin dIx (eVar 4) (eK (.int 3)))) (aCons (eMkE ("NoMark" : PySem.Str) ("number" : PySem.Str) (eBin dIx (eVar 4) (eK (.int 4)))) (aNil)))))))))
  (sSeq (sForS [3] (iOf gEnum (aCons (eVar 3) (aNil))) (tTup 2 (tsCons (tName 6) (tsCons (tName 7) (tsNil)))) (sK [6, 7, 8] (sSeq (sIf [6, 7] (bOf (eBin dNe (eCall 1 F__law_kinds (aCons (eVar 7) (aNil))) (eComp [8] (iOf gRange1 (aCons (eK (.int 20)) (aNil))) (tName 8) (cAll) (eBin dEq (eVar 8) (eVar 6))))) (sRet [] (eK (.bl false))) (sNil))
  (sIf [7] (bOr (bNot (bOf (eUn (isE [("RoadError", true), ("NoWeb", true), ("NoPlace", true), ("NoOrder", true), ("NoRound", true), ("NoNumber", true), ("NoWorth", true), ("NoNumbers", true), ("NotRich", true), ("NotFull", true), ("NotLevel", true), ("NoPaper", true), ("Nothing", true), ("TooMany", true), ("TooLong", true), ("TooGreat", true), ("NoDeed", true), ("NoName", true), ("Standing", true), ("Full", true), ("NoMark", true)]) (eVar 7)))) (bNot (bOf (eUn (isE [("RoadError", true), ("NoWeb", true), ("NoPlace", true), ("NoOrder", true), ("NoRound", true), ("NoNumber", true), ("NoWorth", true), ("NoNumbers", true), ("NotRich", true), ("NotFull", true), ("NotLevel", true), ("NoPaper", true), ("Nothing", true), ("TooMany", true), ("TooLong", true), ("TooGreat", true), ("NoDeed", true), ("NoName", true), ("Standing", true), ("Full", true), ("NoMark", true)]) (eVar 7))))) (sRet [] (eK (.bl false))) (sNil)))))
  (sSeq (sAsg 5 [3] (eCallB gLst (aCons (eUn (atE ("number" : PySem.Str) [("NoDeed" : PySem.Str), ("NoMark" : PySem.Str)]) (eBin dIx (eVar 3) (eK (.int 15)))) (aCons (eUn (atE ("name" : PySem.Str) [("NoName" : PySem.Str), ("Standing" : PySem.Str)]) (eBin dIx (eVar 3) (eK (.int 16)))) (aCons (eUn (atE ("name" : PySem.Str) [("NoName" : PySem.Str), ("Standing" : PySem.Str)]) (eBin dIx (eVar 3) (eK (.int 17)))) (aCons (eUn (atE ("most" : PySem.Str) [("Full" : PySem.Str)]) (eBin dIx (eVar 3) (eK (.int 18)))) (aCons (eUn (atE ("number" : PySem.Str) [("NoDeed" : PySem.Str), ("NoMark" : PySem.Str)]) (eBin dIx (eVar 3) (eK (.int 19)))) (aNil))))))))
  (sSeq (sIf [4, 5] (bOf (eBin dNe (eCallB gRepr (aCons (eVar 5) (aNil))) (eCallB gRepr (aCons (eVar 4) (aNil))))) (sRet [] (eK (.bl false))) (sNil))
  (sRet [2] (eAnd (eBin dNotIn (eK (.bl true)) (eCall 1 F__law_kinds (aCons (eMk ("RoadError" : PySem.Str) (eVar 2)) (aNil)))) (eUn (isE [("RoadError", true), ("NoWeb", true), ("NoPlace", true), ("NoOrder", true), ("NoRound", true), ("NoNumber", true), ("NoWorth", true), ("NoNumbers", true), ("NotRich", true), ("NotFull", true), ("NotLevel", true), ("NoPaper", true), ("Nothing", true), ("TooMany", true), ("TooLong", true), ("TooGreat", true), ("NoDeed", true), ("NoName", true), ("Standing", true), ("Full", true), ("NoMark", true)]) (eMk ("RoadError" : PySem.Str) (eVar 2)))))))))))))
end Law
namespace Law
open PySem PySem.Spec PyProof.Rows L2 Mid
structure Fs (mg : Str → Option Value) (K : PySem.W.Frag) : Prop where
  f_isinstance : mg "isinstance" = none
  f_len : mg "len" = none
  f_range : mg "range" = none
  f_ValueError : mg "ValueError" = none
  f_repr : mg "repr" = none
  f_enumerate : mg "enumerate" = none
  f_list : mg "list" = none
  x_RoadError : ExcF K mg "RoadError"
  x_TooGreat : ExcF K mg "TooGreat"
  x_TooLong : ExcF K mg "TooLong"
  x_TooMany : ExcF K mg "TooMany"
  x_Nothing : ExcF K mg "Nothing"
  x_NoPaper : ExcF K mg "NoPaper"
  x_NotLevel : ExcF K mg "NotLevel"
  x_NotFull : ExcF K mg "NotFull"
  x_NotRich : ExcF K mg "NotRich"
  x_NoNumbers : ExcF K mg "NoNumbers"
  x_NoWorth : ExcF K mg "NoWorth"
  x_NoNumber : ExcF K mg "NoNumber"
  x_NoRound : ExcF K mg "NoRound"
  x_NoOrder : ExcF K mg "NoOrder"
  x_NoPlace : ExcF K mg "NoPlace"
  x_NoWeb : ExcF K mg "NoWeb"
  g_RoadError : mg "RoadError" = some (.ref (He.ga K "RoadError"))
  g_NoWeb : mg "NoWeb" = some (.ref (He.ga K "NoWeb"))
  g_NoPlace : mg "NoPlace" = some (.ref (He.ga K "NoPlace"))
  g_NoOrder : mg "NoOrder" = some (.ref (He.ga K "NoOrder"))
  g_NoRound : mg "NoRound" = some (.ref (He.ga K "NoRound"))
  g_NoNumber : mg "NoNumber" = some (.ref (He.ga K "NoNumber"))
  g_NoWorth : mg "NoWorth" = some (.ref (He.ga K "NoWorth"))
  g_NoNumbers : mg "NoNumbers" = some (.ref (He.ga K "NoNumbers"))
  g_NotRich : mg "NotRich" = some (.ref (He.ga K "NotRich"))
  g_NotFull : mg "NotFull" = some (.ref (He.ga K "NotFull"))
  g_NotLevel : mg "NotLevel" = some (.ref (He.ga K "NotLevel"))
  g_NoPaper : mg "NoPaper" = some (.ref (He.ga K "NoPaper"))
  g_Nothing : mg "Nothing" = some (.ref (He.ga K "Nothing"))
  g_TooMany : mg "TooMany" = some (.ref (He.ga K "TooMany"))
  g_TooLong : mg "TooLong" = some (.ref (He.ga K "TooLong"))
  g_TooGreat : mg "TooGreat" = some (.ref (He.ga K "TooGreat"))
  g_NoDeed : mg "NoDeed" = some (.ref (He.ga K "NoDeed"))
  g_NoName : mg "NoName" = some (.ref (He.ga K "NoName"))
  g_Standing : mg "Standing" = some (.ref (He.ga K "Standing"))
  g_Full : mg "Full" = some (.ref (He.ga K "Full"))
  g_NoMark : mg "NoMark" = some (.ref (He.ga K "NoMark"))
  is_NoMark : IsT K (.ref (He.ga K "NoMark")) [("RoadError", false), ("NoWeb", false), ("NoPlace", false), ("NoOrder", false), ("NoRound", false), ("NoNumber", false), ("NoWorth", false), ("NoNumbers", false), ("NotRich", false), ("NotFull", false), ("NotLevel", false), ("NoPaper", false), ("Nothing", false), ("TooMany", false), ("TooLong", false), ("TooGreat", false), ("NoDeed", false), ("NoName", false), ("Standing", false), ("Full", false), ("NoMark", true)]
  is_Full : IsT K (.ref (He.ga K "Full")) [("RoadError", false), ("NoWeb", false), ("NoPlace", false), ("NoOrder", false), ("NoRound", false), ("NoNumber", false), ("NoWorth", false), ("NoNumbers", false), ("NotRich", false), ("NotFull", false), ("NotLevel", false), ("NoPaper", false), ("Nothing", false), ("TooMany", false), ("TooLong", false), ("TooGreat", false), ("NoDeed", false), ("NoName", false), ("Standing", false), ("Full", true), ("NoMark", false)]
  is_Standing : IsT K (.ref (He.ga K "Standing")) [("RoadError", false), ("NoWeb", false), ("NoPlace", false), ("NoOrder", false), ("NoRound", false), ("NoNumber", false), ("NoWorth", false), ("NoNumbers", false), ("NotRich", false), ("NotFull", false), ("NotLevel", false), ("NoPaper", false), ("Nothing", false), ("TooMany", false), ("TooLong", false), ("TooGreat", false), ("NoDeed", false), ("NoName", false), ("Standing", true), ("Full", false), ("NoMark", false)]
  is_NoName : IsT K (.ref (He.ga K "NoName")) [("RoadError", false), ("NoWeb", false), ("NoPlace", false), ("NoOrder", false), ("NoRound", false), ("NoNumber", false), ("NoWorth", false), ("NoNumbers", false), ("NotRich", false), ("NotFull", false), ("NotLevel", false), ("NoPaper", false), ("Nothing", false), ("TooMany", false), ("TooLong", false), ("TooGreat", false), ("NoDeed", false), ("NoName", true), ("Standing", false), ("Full", false), ("NoMark", false)]
  is_NoDeed : IsT K (.ref (He.ga K "NoDeed")) [("RoadError", false), ("NoWeb", false), ("NoPlace", false), ("NoOrder", false), ("NoRound", false), ("NoNumber", false), ("NoWorth", false), ("NoNumbers", false), ("NotRich", false), ("NotFull", false), ("NotLevel", false), ("NoPaper", false), ("Nothing", false), ("TooMany", false), ("TooLong", false), ("TooGreat", false), ("NoDeed", true), ("NoName", false), ("Standing", false), ("Full", false), ("NoMark", false)]
  is_TooGreat : IsT K (.ref (He.ga K "TooGreat")) [("RoadError", false), ("NoWeb", false), ("NoPlace", false), ("NoOrder", false), ("NoRound", false), ("NoNumber", false), ("NoWorth", false), ("NoNumbers", false), ("NotRich", false), ("NotFull", false), ("NotLevel", false), ("NoPaper", false), ("Nothing", false), ("TooMany", false), ("TooLong", false), ("TooGreat", true), ("NoDeed", false), ("NoName", false), ("Standing", false), ("Full", false), ("NoMark", false)]
  is_TooLong : IsT K (.ref (He.ga K "TooLong")) [("RoadError", false), ("NoWeb", false), ("NoPlace", false), ("NoOrder", false), ("NoRound", false), ("NoNumber", false), ("NoWorth", false), ("NoNumbers", false), ("NotRich", false), ("NotFull", false), ("NotLevel", false), ("NoPaper", false), ("Nothing", false), ("TooMany", false), ("TooLong", true), ("TooGreat", false), ("NoDeed", false), ("NoName", false), ("Standing", false), ("Full", false), ("NoMark", false)]
  is_TooMany : IsT K (.ref (He.ga K "TooMany")) [("RoadError", false), ("NoWeb", false), ("NoPlace", false), ("NoOrder", false), ("NoRound", false), ("NoNumber", false), ("NoWorth", false), ("NoNumbers", false), ("NotRich", false), ("NotFull", false), ("NotLevel", false), ("NoPaper", false), ("Nothing", false), ("TooMany", true), ("TooLong", false), ("TooGreat", false), ("NoDeed", false), ("NoName", false), ("Standing", false), ("Full", false), ("NoMark", false)]
  is_Nothing : IsT K (.ref (He.ga K "Nothing")) [("RoadError", false), ("NoWeb", false), ("NoPlace", false), ("NoOrder", false), ("NoRound", false), ("NoNumber", false), ("NoWorth", false), ("NoNumbers", false), ("NotRich", false), ("NotFull", false), ("NotLevel", false), ("NoPaper", false), ("Nothing", true), ("TooMany", false), ("TooLong", false), ("TooGreat", false), ("NoDeed", false), ("NoName", false), ("Standing", false), ("Full", false), ("NoMark", false)]
  is_NoPaper : IsT K (.ref (He.ga K "NoPaper")) [("RoadError", false), ("NoWeb", false), ("NoPlace", false), ("NoOrder", false), ("NoRound", false), ("NoNumber", false), ("NoWorth", false), ("NoNumbers", false), ("NotRich", false), ("NotFull", false), ("NotLevel", false), ("NoPaper", true), ("Nothing", false), ("TooMany", false), ("TooLong", false), ("TooGreat", false), ("NoDeed", false), ("NoName", false), ("Standing", false), ("Full", false), ("NoMark", false)]
  is_NotLevel : IsT K (.ref (He.ga K "NotLevel")) [("RoadError", false), ("NoWeb", false), ("NoPlace", false), ("NoOrder", false), ("NoRound", false), ("NoNumber", false), ("NoWorth", false), ("NoNumbers", false), ("NotRich", false), ("NotFull", false), ("NotLevel", true), ("NoPaper", false), ("Nothing", false), ("TooMany", false), ("TooLong", false), ("TooGreat", false), ("NoDeed", false), ("NoName", false), ("Standing", false), ("Full", false), ("NoMark", false)]
  is_NotFull : IsT K (.ref (He.ga K "NotFull")) [("RoadError", false), ("NoWeb", false), ("NoPlace", false), ("NoOrder", false), ("NoRound", false), ("NoNumber", false), ("NoWorth", false), ("NoNumbers", false), ("NotRich", false), ("NotFull", true), ("NotLevel", false), ("NoPaper", false), ("Nothing", false), ("TooMany", false), ("TooLong", false), ("TooGreat", false), ("NoDeed", false), ("NoName", false), ("Standing", false), ("Full", false), ("NoMark", false)]
  is_NotRich : IsT K (.ref (He.ga K "NotRich")) [("RoadError", false), ("NoWeb", false), ("NoPlace", false), ("NoOrder", false), ("NoRound", false), ("NoNumber", false), ("NoWorth", false), ("NoNumbers", false), ("NotRich", true), ("NotFull", false), ("NotLevel", false), ("NoPaper", false), ("Nothing", false), ("TooMany", false), ("TooLong", false), ("TooGreat", false), ("NoDeed", false), ("NoName", false), ("Standing", false), ("Full", false), ("NoMark", false)]
  is_NoNumbers : IsT K (.ref (He.ga K "NoNumbers")) [("RoadError", false), ("NoWeb", false), ("NoPlace", false), ("NoOrder", false), ("NoRound", false), ("NoNumber", false), ("NoWorth", false), ("NoNumbers", true), ("NotRich", false), ("NotFull", false), ("NotLevel", false), ("NoPaper", false), ("Nothing", false), ("TooMany", false), ("TooLong", false), ("TooGreat", false), ("NoDeed", false), ("NoName", false), ("Standing", false), ("Full", false), ("NoMark", false)]
  is_NoWorth : IsT K (.ref (He.ga K "NoWorth")) [("RoadError", false), ("NoWeb", false), ("NoPlace", false), ("NoOrder", false), ("NoRound", false), ("NoNumber", false), ("NoWorth", true), ("NoNumbers", false), ("NotRich", false), ("NotFull", false), ("NotLevel", false), ("NoPaper", false), ("Nothing", false), ("TooMany", false), ("TooLong", false), ("TooGreat", false), ("NoDeed", false), ("NoName", false), ("Standing", false), ("Full", false), ("NoMark", false)]
  is_NoNumber : IsT K (.ref (He.ga K "NoNumber")) [("RoadError", false), ("NoWeb", false), ("NoPlace", false), ("NoOrder", false), ("NoRound", false), ("NoNumber", true), ("NoWorth", false), ("NoNumbers", false), ("NotRich", false), ("NotFull", false), ("NotLevel", false), ("NoPaper", false), ("Nothing", false), ("TooMany", false), ("TooLong", false), ("TooGreat", false), ("NoDeed", false), ("NoName", false), ("Standing", false), ("Full", false), ("NoMark", false)]
  is_NoRound : IsT K (.ref (He.ga K "NoRound")) [("RoadError", false), ("NoWeb", false), ("NoPlace", false), ("NoOrder", false), ("NoRound", true), ("NoNumber", false), ("NoWorth", false), ("NoNumbers", false), ("NotRich", false), ("NotFull", false), ("NotLevel", false), ("NoPaper", false), ("Nothing", false), ("TooMany", false), ("TooLong", false), ("TooGreat", false), ("NoDeed", false), ("NoName", false), ("Standing", false), ("Full", false), ("NoMark", false)]
  is_NoOrder : IsT K (.ref (He.ga K "NoOrder")) [("RoadError", false), ("NoWeb", false), ("NoPlace", false), ("NoOrder", true), ("NoRound", false), ("NoNumber", false), ("NoWorth", false), ("NoNumbers", false), ("NotRich", false), ("NotFull", false), ("NotLevel", false), ("NoPaper", false), ("Nothing", false), ("TooMany", false), ("TooLong", false), ("TooGreat", false), ("NoDeed", false), ("NoName", false), ("Standing", false), ("Full", false), ("NoMark", false)]
  is_NoPlace : IsT K (.ref (He.ga K "NoPlace")) [("RoadError", false), ("NoWeb", false), ("NoPlace", true), ("NoOrder", false), ("NoRound", false), ("NoNumber", false), ("NoWorth", false), ("NoNumbers", false), ("NotRich", false), ("NotFull", false), ("NotLevel", false), ("NoPaper", false), ("Nothing", false), ("TooMany", false), ("TooLong", false), ("TooGreat", false), ("NoDeed", false), ("NoName", false), ("Standing", false), ("Full", false), ("NoMark", false)]
  is_NoWeb : IsT K (.ref (He.ga K "NoWeb")) [("RoadError", false), ("NoWeb", true), ("NoPlace", false), ("NoOrder", false), ("NoRound", false), ("NoNumber", false), ("NoWorth", false), ("NoNumbers", false), ("NotRich", false), ("NotFull", false), ("NotLevel", false), ("NoPaper", false), ("Nothing", false), ("TooMany", false), ("TooLong", false), ("TooGreat", false), ("NoDeed", false), ("NoName", false), ("Standing", false), ("Full", false), ("NoMark", false)]
  is_ValueError : IsT K (.type "ValueError") [("RoadError", true), ("NoWeb", true), ("NoPlace", true), ("NoOrder", true), ("NoRound", true), ("NoNumber", true), ("NoWorth", true), ("NoNumbers", true), ("NotRich", true), ("NotFull", true), ("NotLevel", true), ("NoPaper", true), ("Nothing", true), ("TooMany", true), ("TooLong", true), ("TooGreat", true), ("NoDeed", true), ("NoName", true), ("Standing", true), ("Full", true), ("NoMark", true)]
  is_RoadError : IsT K (.ref (He.ga K "RoadError")) [("RoadError", true), ("NoWeb", true), ("NoPlace", true), ("NoOrder", true), ("NoRound", true), ("NoNumber", true), ("NoWorth", true), ("NoNumbers", true), ("NotRich", true), ("NotFull", true), ("NotLevel", true), ("NoPaper", true), ("Nothing", true), ("TooMany", true), ("TooLong", true), ("TooGreat", true), ("NoDeed", true), ("NoName", true), ("Standing", true), ("Full", true), ("NoMark", true)]
  at_number : atB K "number" ["NoDeed", "NoMark"] = true
  at_most : atB K "most" ["Full"] = true
  at_name : atB K "name" ["NoName", "Standing"] = true
section
variable {P : Program} {w : World} {K : PySem.W.Frag} {mg : Str → Option Value} {base : Heap}
theorem sc_NoMark_init : FnScope ["self", "number"] ["self", "number"] (defScope st_NoMark_init) := ⟨rfl, rfl, rfl, by decide +kernel, rfl, by decide +kernel, by decide +kernel⟩
theorem a_NoMark_init {f : Addr} {fd : FuncData} (F : FunD K "__init__" "NoMark.__init__" (defArgs st_NoMark_init) (defBody st_NoMark_init) (defScope st_NoMark_init) [] [] f fd) (hm : mg "RoadError" = some (.ref (He.ga K "RoadError"))) (hi : iniB K (He.ga K "RoadError") = true) : FnOk P w K mg base (L2.CX P w) 1 f fd ["self", "number"] (spInit K "number") :=
  init_ok (k := 0) F sc_NoMark_init rfl rfl (fun cdv A outer s H E t ha => pe_baseInit (by rfl) hm hi ha)
theorem sc_Full_init : FnScope ["self", "most"] ["self", "most"] (defScope st_Full_init) := ⟨rfl, rfl, rfl, by decide +kernel, rfl, by decide +kernel, by decide +kernel⟩
theorem a_Full_init {f : Addr} {fd : FuncData} (F : FunD K "__init__" "Full.__init__" (defArgs st_Full_init) (defBody st_Full_init) (defScope st_Full_init) [] [] f fd) (hm : mg "RoadError" = some (.ref (He.ga K "RoadError"))) (hi : iniB K (He.ga K "RoadError") = true) : FnOk P w K mg base (L2.CX P w) 1 f fd ["self", "most"] (spInit K "most") :=
  init_ok (k := 0) F sc_Full_init rfl rfl (fun cdv A outer s H E t ha => pe_baseInit (by rfl) hm hi ha)
theorem sc_Standing_init : FnScope ["self", "name"] ["self", "name"] (defScope st_Standing_init) := ⟨rfl, rfl, rfl, by decide +kernel, rfl, by decide +kernel, by decide +kernel⟩
theorem a_Standing_init {f : Addr} {fd : FuncData} (F : FunD K "__init__" "Standing.__init__" (defArgs st_Standing_init) (defBody st_Standing_init) (defScope st_Standing_init) [] [] f fd) (hm : mg "RoadError" = some (.ref (He.ga K "RoadError"))) (hi : iniB K (He.ga K "RoadError") = true) : FnOk P w K mg base (L2.CX P w) 1 f fd ["self", "name"] (spInit K "name") :=
  init_ok (k := 0) F sc_Standing_init rfl rfl (fun cdv A outer s H E t ha => pe_baseInit (by rfl) hm hi ha)
theorem sc_NoName_init : FnScope ["self", "name"] ["self", "name"] (defScope st_NoName_init) := ⟨rfl, rfl, rfl, by decide +kernel, rfl, by decide +kernel, by decide +kernel⟩
theorem a_NoName_init {f : Addr} {fd : FuncData} (F : FunD K "__init__" "NoName.__init__" (defArgs st_NoName_init) (defBody st_NoName_init) (defScope st_NoName_init) [] [] f fd) (hm : mg "RoadError" = some (.ref (He.ga K "RoadError"))) (hi : iniB K (He.ga K "RoadError") = true) : FnOk P w K mg base (L2.CX P w) 1 f fd ["self", "name"] (spInit K "name") :=
  init_ok (k := 0) F sc_NoName_init rfl rfl (fun cdv A outer s H E t ha => pe_baseInit (by rfl) hm hi ha)
theorem sc_NoDeed_init : FnScope ["self", "number"] ["self", "number"] (defScope st_NoDeed_init) := ⟨rfl, rfl, rfl, by decide +kernel, rfl, by decide +kernel, by decide +kernel⟩
theorem a_NoDeed_init {f : Addr} {fd : FuncData} (F : FunD K "__init__" "NoDeed.__init__" (defArgs st_NoDeed_init) (defBody st_NoDeed_init) (defScope st_NoDeed_init) [] [] f fd) (hm : mg "RoadError" = some (.ref (He.ga K "RoadError"))) (hi : iniB K (He.ga K "RoadError") = true) : FnOk P w K mg base (L2.CX P w) 1 f fd ["self", "number"] (spInit K "number") :=
  init_ok (k := 0) F sc_NoDeed_init rfl rfl (fun cdv A outer s H E t ha => pe_baseInit (by rfl) hm hi ha)
theorem sc__law_spread : FnScope ["_law_cell", "_law_at", "_law_primes", "_law_mixed", "_law_one_here", "_law_two", "_law_three"] ["_law_cell", "_law_at"] (defScope st__law_spread) := ⟨rfl, rfl, rfl, by decide +kernel, rfl, by decide +kernel, by decide +kernel⟩
theorem a__law_spread {f : Addr} {fd : FuncData} (F : FunD K "_law_spread" "_law_spread" (defArgs st__law_spread) (defBody st__law_spread) (defScope st__law_spread) [] [] f fd) (hm : mg "_law_spread" = some (.ref f)) (fs : Fs mg K) : Cal P w K mg base 1 "_law_spread" 2 gSpread :=
  cal_of (N := ["_law_cell", "_law_at", "_law_primes", "_law_mixed", "_law_one_here", "_law_two", "_law_three"]) (ps := ["_law_cell", "_law_at"]) (body := c_spread) F sc__law_spread hm (F.bindsN fun _ _ _ _ _ _ us hl => match us, hl with | [_, _], _ => rfl) fun cdv A outer s H E ft po => by
  delta c_spread
  exact svs_cons (sv_if (vs := [0]) (eb_cmp o_ge (q_cmp _) (ev_var 0) (ev_bin o_pow q_pow (ev_int) (ev_int))) (svs_one (sv_retV 0)) (svs_nil))
      (svs_cons (sv_asg sc__law_spread.nd (ev_lst (ea_cons (ev_int) (ea_cons (ev_int) (ea_cons (ev_int) (ea_cons (ev_int) (ea_cons (ev_int) (ea_cons (ev_int) (ea_cons (ev_int) (ea_nil))))))))))
      (svs_cons (sv_asg sc__law_spread.nd (ev_bin o_add q_add (ev_var 2) (ev_lst (ea_cons (ev_int) (ea_cons (ev_int) (ea_cons (ev_int) (ea_cons (ev_int) (ea_cons (ev_int) (ea_cons (ev_int) (ea_nil))))))))))
      (svs_cons (sv_asg sc__law_spread.nd (ev_bin o_add q_add (ev_bin o_add q_add (ev_bin o_mul q_mul (ev_bin o_mod q_mod (ev_var 0) (ev_int)) (ev_bin o_add q_add (ev_bin o_mul q_mul (ev_int) (ev_var 1)) (ev_int))) (ev_bin o_mul q_mul (ev_var 1) (ev_int))) (ev_int)))
      (svs_cons (sv_asg sc__law_spread.nd (ev_bin o_mod q_mod (ev_bin o_pow q_pow (ev_var 3) (ev_int)) (ev_ix x_ix q_ix (ev_var 2) (ev_bin o_mod q_mod (ev_var 1) (ev_int)))))
      (svs_cons (sv_asg sc__law_spread.nd (ev_bin o_mod q_mod (ev_bin o_pow q_pow (ev_bin o_add q_add (ev_bin o_add q_add (ev_bin o_mul q_mul (ev_var 4) (ev_bin o_add q_add (ev_var 1) (ev_int))) (ev_bin o_mod q_mod (ev_var 0) (ev_int))) (ev_int)) (ev_int)) (ev_ix x_ix q_ix (ev_var 2) (ev_bin o_mod q_mod (ev_bin o_add q_add (ev_var 1) (ev_int)) (ev_int)))))
      (svs_cons (sv_asg sc__law_spread.nd (ev_bin o_mod q_mod (ev_bin o_pow q_pow (ev_bin o_add q_add (ev_bin o_add q_add (ev_var 5) (ev_bin o_mod q_mod (ev_var 4) (ev_int))) (ev_var 1)) (ev_int)) (ev_ix x_ix q_ix (ev_var 2) (ev_bin o_mod q_mod (ev_bin o_add q_add (ev_var 1) (ev_int)) (ev_int)))))
      (svs_one (sv_ret (ev_bin o_add q_add (ev_bin o_mul q_mul (ev_bin o_add q_add (ev_bin o_mul q_mul (ev_var 4) (ev_int)) (ev_var 5)) (ev_int)) (ev_var 6))))))))))
theorem sc__law_open : FnScope ["_law_script", "_law_cells", "_law_k", "_law_cell"] ["_law_script"] (defScope st__law_open) := ⟨rfl, rfl, rfl, by decide +kernel, rfl, by decide +kernel, by decide +kernel⟩
theorem a__law_open {f : Addr} {fd : FuncData} (F : FunD K "_law_open" "_law_open" (defArgs st__law_open) (defBody st__law_open) (defScope st__law_open) [] [] f fd) (hm : mg "_law_open" = some (.ref f)) (fs : Fs mg K) : OpenAt P w K mg base 1 :=
  open_at (N := ["_law_script", "_law_cells", "_law_k", "_law_cell"]) (ps := ["_law_script"]) F sc__law_open hm (F.bindsN fun _ _ _ _ _ _ us hl => match us, hl with | [_], _ => rfl) rfl rfl fun cdv A outer s H E ft po => by
  delta c_open1 c_open2
  exact pss_then (W := Wf E) (sv_asg sc__law_open.nd (ev_callT c_list q_list fs.f_list (ea_cons (ev_sl s_sl q_sl (ev_var 0) (eo_none) (eo_some (ev_int))) (ea_nil))))
      (pss_then (W := Wf E) (sv_forS (vs := [0]) (is := [2, 3]) po ft.cm (iv_enum fs.f_enumerate (ea_cons (ev_sl s_sl q_sl (ev_var 0) (eo_some (ev_int)) (eo_some (ev_int))) (ea_nil))) (tg_tup ft.cm (tgs_cons (tg_name 2 sc__law_open.nd) (tgs_cons (tg_name 3 sc__law_open.nd) (tgs_nil)))) ((svs_one (sv_set1 (ev_bin o_add q_add (ev_ix x_ix q_ix (ev_var 1) (ev_bin o_mod q_mod (ev_var 2) (ev_int))) (ev_var 3)) (ev_bin o_mod q_mod (ev_var 2) (ev_int))))))
      (pss_one (ps_ret (pe_lst (pa_cons (pe_var rfl (Or.inl rfl)) (pa_cons pe_int (pa_cons pe_int pa_nil)))))))
theorem sc__law_anew : FnScope ["_law_pen"] ["_law_pen"] (defScope st__law_anew) := ⟨rfl, rfl, rfl, by decide +kernel, rfl, by decide +kernel, by decide +kernel⟩
theorem a__law_anew {f : Addr} {fd : FuncData} (F : FunD K "_law_anew" "_law_anew" (defArgs st__law_anew) (defBody st__law_anew) (defScope st__law_anew) [] [] f fd) (hm : mg "_law_anew" = some (.ref f)) (fs : Fs mg K) : Cal P w K mg base 1 "_law_anew" 1 gAnew :=
  anew_cal (N := ["_law_pen"]) (ps := ["_law_pen"]) F sc__law_anew hm (F.bindsN fun _ _ _ _ _ _ us hl => match us, hl with | [_], _ => rfl) rfl rfl fun cdv A outer s H E ft =>
  pss_cons (ps_asg ev_int (pg_sub (pe_var rfl (Or.inl rfl)) ev_int set_list)) (pss_one (ps_ret (pe_var rfl (Or.inl rfl))))
theorem sc__law_kinds : FnScope ["_law_one_here", "_law_some"] ["_law_one_here"] (defScope st__law_kinds) := ⟨rfl, rfl, rfl, by decide +kernel, rfl, by decide +kernel, by decide +kernel⟩
theorem a__law_kinds {f : Addr} {fd : FuncData} (F : FunD K "_law_kinds" "_law_kinds" (defArgs st__law_kinds) (defBody st__law_kinds) (defScope st__law_kinds) [] [] f fd) (hm : mg "_law_kinds" = some (.ref f)) (fs : Fs mg K) : Cal P w K mg base 1 "_law_kinds" 1 F__law_kinds :=
  cal_of (N := ["_law_one_here", "_law_some"]) (ps := ["_law_one_here"]) (body := c__law_kinds) F sc__law_kinds hm (F.bindsN fun _ _ _ _ _ _ us hl => match us, hl with | [_], _ => rfl) fun cdv A outer s H E ft po => by
  delta c__law_kinds
  exact svs_cons (sv_asg sc__law_kinds.nd (ev_lst (ea_cons (ev_isE fs.f_isinstance (.own fs.g_NoWeb rfl (by decide)) fs.is_NoWeb (ev_var 0)) (ea_cons (ev_isE fs.f_isinstance (.own fs.g_NoPlace rfl (by decide)) fs.is_NoPlace (ev_var 0)) (ea_cons (ev_isE fs.f_isinstance (.own fs.g_NoOrder rfl (by decide)) fs.is_NoOrder (ev_var 0)) (ea_cons (ev_isE fs.f_isinstance (.own fs.g_NoRound rfl (by decide)) fs.is_NoRound (ev_var 0)) (ea_nil)))))))
      (svs_cons (sv_asg sc__law_kinds.nd (ev_bin o_add q_add (ev_var 1) (ev_lst (ea_cons (ev_isE fs.f_isinstance (.own fs.g_NoNumber rfl (by decide)) fs.is_NoNumber (ev_var 0)) (ea_cons (ev_isE fs.f_isinstance (.own fs.g_NoWorth rfl (by decide)) fs.is_NoWorth (ev_var 0)) (ea_cons (ev_isE fs.f_isinstance (.own fs.g_NoNumbers rfl (by decide)) fs.is_NoNumbers (ev_var 0)) (ea_nil)))))))
      (svs_cons (sv_asg sc__law_kinds.nd (ev_bin o_add q_add (ev_var 1) (ev_lst (ea_cons (ev_isE fs.f_isinstance (.own fs.g_NotRich rfl (by decide)) fs.is_NotRich (ev_var 0)) (ea_cons (ev_isE fs.f_isinstance (.own fs.g_NotFull rfl (by decide)) fs.is_NotFull (ev_var 0)) (ea_cons (ev_isE fs.f_isinstance (.own fs.g_NotLevel rfl (by decide)) fs.is_NotLevel (ev_var 0)) (ea_nil)))))))
      (svs_cons (sv_asg sc__law_kinds.nd (ev_bin o_add q_add (ev_var 1) (ev_lst (ea_cons (ev_isE fs.f_isinstance (.own fs.g_NoPaper rfl (by decide)) fs.is_NoPaper (ev_var 0)) (ea_cons (ev_isE fs.f_isinstance (.own fs.g_Nothing rfl (by decide)) fs.is_Nothing (ev_var 0)) (ea_cons (ev_isE fs.f_isinstance (.own fs.g_TooMany rfl (by decide)) fs.is_TooMany (ev_var 0)) (ea_nil)))))))
      (svs_cons (sv_asg sc__law_kinds.nd (ev_bin o_add q_add (ev_var 1) (ev_lst (ea_cons (ev_isE fs.f_isinstance (.own fs.g_TooLong rfl (by decide)) fs.is_TooLong (ev_var 0)) (ea_cons (ev_isE fs.f_isinstance (.own fs.g_TooGreat rfl (by decide)) fs.is_TooGreat (ev_var 0)) (ea_cons (ev_isE fs.f_isinstance (.own fs.g_NoDeed rfl (by decide)) fs.is_NoDeed (ev_var 0)) (ea_nil)))))))
      (svs_cons (sv_asg sc__law_kinds.nd (ev_bin o_add q_add (ev_var 1) (ev_lst (ea_cons (ev_isE fs.f_isinstance (.own fs.g_NoName rfl (by decide)) fs.is_NoName (ev_var 0)) (ea_cons (ev_isE fs.f_isinstance (.own fs.g_Standing rfl (by decide)) fs.is_Standing (ev_var 0)) (ea_cons (ev_isE fs.f_isinstance (.own fs.g_Full rfl (by decide)) fs.is_Full (ev_var 0)) (ea_nil)))))))
      (svs_one (sv_ret (ev_bin o_add q_add (ev_var 1) (ev_lst (ea_cons (ev_isE fs.f_isinstance (.own fs.g_NoMark rfl (by decide)) fs.is_NoMark (ev_var 0)) (ea_nil)))))))))))
theorem sc__law_take : FnScope ["_law_pen", "_law_many", "_law_found", "_law_at", "_law_cell"] ["_law_pen", "_law_many"] (defScope st__law_take) := ⟨rfl, rfl, rfl, by decide +kernel, rfl, by decide +kernel, by decide +kernel⟩
theorem a__law_take {f : Addr} {fd : FuncData} (F : FunD K "_law_take" "_law_take" (defArgs st__law_take) (defBody st__law_take) (defScope st__law_take) [] [] f fd) (hm : mg "_law_take" = some (.ref f)) (fs : Fs mg K) (C__law_spread : Cal P w K mg base 1 "_law_spread" 2 gSpread) : Cal P w K mg base 2 "_law_take" 2 gTake :=
  take_cal (N := ["_law_pen", "_law_many", "_law_found", "_law_at", "_law_cell"]) (ps := ["_law_pen", "_law_many"]) F sc__law_take hm (F.bindsN fun _ _ _ _ _ _ us hl => match us, hl with | [_, _], _ => rfl) rfl rfl fun cdv A outer s H E ft => by
  delta t_take
  exact pss_cons (ps_if (eb_cmp o_lt (q_cmp _) (ev_ix x_ix q_ix (ev_var 0) ev_int) (ev_var 1))
      (pss_cons (ps_set (i := 3) sc__law_take.nd rfl (Or.inl rfl) (ev_ix x_ix q_ix (ev_var 0) ev_int))
      (pss_cons (ps_set (i := 4) sc__law_take.nd rfl (Or.inl rfl) (ev_int))
      (pss_cons (ps_if (eb_cmp o_lt (q_cmp _) (ev_var 3) (ev_callB c_len q_len fs.f_len (ea_cons (ev_ix x_ix q_ix (ev_var 0) ev_int) ea_nil))) (pss_one (ps_set (i := 4) sc__law_take.nd rfl (Or.inl rfl) (ev_ix x_ix q_ix (ev_ix x_ix q_ix (ev_var 0) ev_int) (ev_var 3)))) (pss_one (ps_if (eb_cmp o_gt (q_cmp _) (ev_callB c_len q_len fs.f_len (ea_cons (ev_ix x_ix q_ix (ev_var 0) ev_int) ea_nil)) ev_int) (pss_one (ps_set (i := 4) sc__law_take.nd rfl (Or.inl rfl) (ev_bin o_mod q_mod (ev_ix x_ix q_ix (ev_ix x_ix q_ix (ev_var 0) ev_int) (ev_bin o_mod q_mod (ev_bin o_add q_add (ev_bin o_mul q_mul (ev_var 3) ev_int) ev_int) (ev_callB c_len q_len fs.f_len (ea_cons (ev_ix x_ix q_ix (ev_var 0) ev_int) ea_nil)))) (ev_bin o_add q_add (ev_bin o_pow q_pow ev_int ev_int) (ev_var 3))))) pss_nil)))
      (pss_cons (ps_asg (ev_bin o_add q_add (ev_var 3) ev_int) (pg_sub (pe_var rfl (Or.inl rfl)) ev_int set_list))
      (pss_one (ps_asg (ev_cal ft C__law_spread (by decide) (ea_cons (ev_var 4) (ea_cons (ev_var 3) ea_nil))) (pg_sub (pe_var rfl (Or.inl rfl)) ev_int set_list)))))))
      pss_nil)
      (pss_cons (ps_set (i := 2) sc__law_take.nd rfl (Or.inl rfl) (ev_bin o_mod q_mod (ev_ix x_ix q_ix (ev_var 0) ev_int) (ev_var 1)))
      (pss_cons (ps_asg (ev_bin o_div q_div (ev_ix x_ix q_ix (ev_var 0) ev_int) (ev_var 1)) (pg_sub (pe_var rfl (Or.inl rfl)) ev_int set_list))
      (pss_one (ps_ret (pe_var rfl (Or.inl rfl))))))
theorem sc__law_one : FnScope ["_law_pen", "_law_some"] ["_law_pen", "_law_some"] (defScope st__law_one) := ⟨rfl, rfl, rfl, by decide +kernel, rfl, by decide +kernel, by decide +kernel⟩
theorem a__law_one {f : Addr} {fd : FuncData} (F : FunD K "_law_one" "_law_one" (defArgs st__law_one) (defBody st__law_one) (defScope st__law_one) [] [] f fd) (hm : mg "_law_one" = some (.ref f)) (fs : Fs mg K) (C__law_take : Cal P w K mg base 2 "_law_take" 2 gTake) : Cal P w K mg base 3 "_law_one" 2 F__law_one :=
  cal_of (N := ["_law_pen", "_law_some"]) (ps := ["_law_pen", "_law_some"]) (body := c__law_one) F sc__law_one hm (F.bindsN fun _ _ _ _ _ _ us hl => match us, hl with | [_, _], _ => rfl) fun cdv A outer s H E ft po => by
  delta c__law_one
  exact svs_one (sv_ret (ev_ix x_ix q_ix (ev_var 1) (ev_cal ft C__law_take (by decide) (ea_cons (ev_var 0) (ea_cons (ev_callB c_len q_len fs.f_len (ea_cons (ev_var 1) (ea_nil))) (ea_nil))))))
theorem sc__law_drawn : FnScope ["_law_pen", "_law_many", "_law_found", "_law_k"] ["_law_pen", "_law_many"] (defScope st__law_drawn) := ⟨rfl, rfl, rfl, by decide +kernel, rfl, by decide +kernel, by decide +kernel⟩
theorem a__law_drawn {f : Addr} {fd : FuncData} (F : FunD K "_law_drawn" "_law_drawn" (defArgs st__law_drawn) (defBody st__law_drawn) (defScope st__law_drawn) [] [] f fd) (hm : mg "_law_drawn" = some (.ref f)) (fs : Fs mg K) (C__law_take : Cal P w K mg base 2 "_law_take" 2 gTake) : Cal P w K mg base 3 "_law_drawn" 2 F__law_drawn :=
  cal_of (N := ["_law_pen", "_law_many", "_law_found", "_law_k"]) (ps := ["_law_pen", "_law_many"]) (body := c__law_drawn) F sc__law_drawn hm (F.bindsN fun _ _ _ _ _ _ us hl => match us, hl with | [_, _], _ => rfl) fun cdv A outer s H E ft po => by
  delta c__law_drawn
  exact svs_cons (sv_asg sc__law_drawn.nd (ev_lst (ea_nil)))
      (svs_cons (sv_forR (vs := [1]) (is := [3]) po ft.cm (ivr_range1 fs.f_range (ea_cons (ev_var 1) (ea_nil))) (tg_name 3 sc__law_drawn.nd) (svs_k [3] (svs_one (sv_ins (ev_cal ft C__law_take (by decide) (ea_cons (ev_var 0) (ea_cons (ev_bin o_add q_add (ev_var 3) (ev_int)) (ea_nil)))) (ev_var 3)))))
      (svs_one (sv_retV 2)))
theorem sc_law : FnScope ["_law_script", "_law_pen", "_law_text", "_law_some", "_law_things", "_law_fields", "_law_k", "_law_one_here", "_law_at"] ["_law_script"] (defScope st_law) := ⟨rfl, rfl, rfl, by decide +kernel, rfl, by decide +kernel, by decide +kernel⟩
theorem a_law {f : Addr} {fd : FuncData} (F : FunD K "law" "law" (defArgs st_law) (defBody st_law) (defScope st_law) [] [] f fd) (fs : Fs mg K) (O : OpenAt P w K mg base 1) (C__law_kinds : Cal P w K mg base 1 "_law_kinds" 1 F__law_kinds) (X_NoMark : ExcI P w K mg base 1 "NoMark" "number") (X_Full : ExcI P w K mg base 1 "Full" "most") (X_Standing : ExcI P w K mg base 1 "Standing" "name") (X_NoName : ExcI P w K mg base 1 "NoName" "name") (X_NoDeed : ExcI P w K mg base 1 "NoDeed" "number") (C__law_one : Cal P w K mg base 3 "_law_one" 2 F__law_one) (C__law_take : Cal P w K mg base 2 "_law_take" 2 gTake) {b : Nat} (hb : b ≤ bigA) (good : Good c_law_k05 9 b) : FnG P w K mg base 4 f fd ["_law_script"] (spLaw K) :=
  law_fn (N := ["_law_script", "_law_pen", "_law_text", "_law_some", "_law_things", "_law_fields", "_law_k", "_law_one_here", "_law_at"]) (ps := ["_law_script"]) F sc_law rfl (by decide) hb good fun cdv A outer s H E ft po => by
  delta c_law_k05
  exact pss_cons (ps_pen sc_law.nd (pe_open ft O (by decide)))
      (svs_cons (sv_asg sc_law.nd (ev_join (ev_comp (own := [("_law_k", 6)]) (is := [6]) (vs2 := [1, 6]) ft.cm sc_law.nd (iv_range1 fs.f_range (ea_cons (ev_cal ft C__law_take (by decide) (ea_cons (ev_var 1) (ea_cons (ev_int) (ea_nil)))) (ea_nil))) rfl (fun s H C cl fp => tg_name 6 sc_law.nd) (fun s H C cl fp => ec_nil) (fun s H C cl fp => ev_cal (Fit.blk ft) C__law_one (by decide) (ea_cons (ev_var 1) (ea_cons (ev_lst (ea_cons (ev_str) (ea_cons (ev_str) (ea_cons (ev_str) (ea_cons (ev_str) (ea_cons (ev_str) (ea_nil))))))) (ea_nil)))))))
      (svs_cons (sv_asg sc_law.nd (ev_lst (ea_cons (ev_mk ft fs.x_NoWeb (ev_var 2)) (ea_cons (ev_mk ft fs.x_NoPlace (ev_var 2)) (ea_cons (ev_mk ft fs.x_NoOrder (ev_var 2)) (ea_cons (ev_mk ft fs.x_NoRound (ev_var 2)) (ea_cons (ev_mk ft fs.x_NoNumber (ev_var 2)) (ea_cons (ev_mk ft fs.x_NoWorth (ev_var 2)) (ea_cons (ev_mk ft fs.x_NoNumbers (ev_var 2)) (ea_nil))))))))))
      (svs_cons (sv_asg sc_law.nd (ev_bin o_add q_add (ev_var 3) (ev_lst (ea_cons (ev_mk ft fs.x_NotRich (ev_var 2)) (ea_cons (ev_mk ft fs.x_NotFull (ev_var 2)) (ea_cons (ev_mk ft fs.x_NotLevel (ev_var 2)) (ea_cons (ev_mk ft fs.x_NoPaper (ev_var 2)) (ea_cons (ev_mk ft fs.x_Nothing (ev_var 2)) (ea_cons (ev_mk ft fs.x_TooMany (ev_var 2)) (ea_nil))))))))))
      (svs_cons (sv_asg sc_law.nd (ev_bin o_add q_add (ev_var 3) (ev_lst (ea_cons (ev_mk ft fs.x_TooLong (ev_var 2)) (ea_cons (ev_mk ft fs.x_TooGreat (ev_var 2)) (ea_nil))))))
      (svs_cons (sv_asgC (own := [("_law_k", 6)]) (is := [6]) (vs2 := [1, 2, 6]) ft.cm sc_law.nd (iv_range1 fs.f_range (ea_cons (ev_int) (ea_nil))) rfl (fun s H C cl fp => tg_name 6 sc_law.nd) (fun s H C cl fp => ec_nil) (fun s H C cl fp => ev_cal (Fit.blk ft) C__law_one (by decide) (ea_cons (ev_var 1) (ea_cons (ev_lst (ea_cons (ev_var 2) (ea_cons (ev_non) (ea_cons (ev_int) (ea_cons (ev_str) (ea_cons (ev_tup (ea_cons (ev_str) (ea_nil))) (ea_cons (ev_lst (ea_cons (ev_int) (ea_nil))) (ea_cons (ev_bl) (ea_cons (ev_bin o_pow q_pow (ev_int) (ev_int)) (ea_nil)))))))))) (ea_nil)))))
      (svs_cons (sv_asg sc_law.nd (ev_bin o_add q_add (ev_var 3) (ev_lst (ea_cons (ev_mkE ft X_NoDeed (by decide) (ev_ix x_ix q_ix (ev_var 4) (ev_int))) (ea_cons (ev_mkE ft X_NoName (by decide) (ev_ix x_ix q_ix (ev_var 4) (ev_int))) (ea_cons (ev_mkE ft X_Standing (by decide) (ev_ix x_ix q_ix (ev_var 4) (ev_int))) (ea_cons (ev_mkE ft X_Full (by decide) (ev_ix x_ix q_ix (ev_var 4) (ev_int))) (ea_cons (ev_mkE ft X_NoMark (by decide) (ev_ix x_ix q_ix (ev_var 4) (ev_int))) (ea_nil)))))))))
      (svs_cons (sv_forS (vs := [3]) (is := [6, 7]) po ft.cm (iv_enum fs.f_enumerate (ea_cons (ev_var 3) (ea_nil))) (tg_tup ft.cm (tgs_cons (tg_name 6 sc_law.nd) (tgs_cons (tg_name 7 sc_law.nd) (tgs_nil)))) (svs_k [6, 7, 8] (svs_cons (sv_if (vs := [6, 7]) (eb_cmp (o_ne ft.u64) q_ne (ev_cal ft C__law_kinds (by decide) (ea_cons (ev_var 7) (ea_nil))) (ev_comp (own := [("_law_at", 8)]) (is := [8]) (vs2 := [6, 8]) ft.cm sc_law.nd (iv_range1 fs.f_range (ea_cons (ev_int) (ea_nil))) rfl (fun s H C cl fp => tg_name 8 sc_law.nd) (fun s H C cl fp => ec_nil) (fun s H C cl fp => ev_cmp (o_eq (Fit.blk ft).u64) q_eq (ev_var 8) (ev_var 6)))) (svs_one (sv_ret (ev_bl))) (svs_nil))
      (svs_one (sv_if (vs := [7]) (EW.eb (ew_or (eb_not (eb_val (ev_isE fs.f_isinstance (.own fs.g_RoadError rfl (by decide)) fs.is_RoadError (ev_var 7)))) (ew_or1 (eb_not (eb_val (ev_isE fs.f_isinstance (.bui fs.f_ValueError rfl (by decide +kernel) (by decide) (by decide)) fs.is_ValueError (ev_var 7))))))) (svs_one (sv_ret (ev_bl))) (svs_nil))))))
      (svs_cons (sv_asg sc_law.nd (ev_lst (ea_cons (ev_atE fs.at_number (ev_ix x_ix q_ix (ev_var 3) (ev_int))) (ea_cons (ev_atE fs.at_name (ev_ix x_ix q_ix (ev_var 3) (ev_int))) (ea_cons (ev_atE fs.at_name (ev_ix x_ix q_ix (ev_var 3) (ev_int))) (ea_cons (ev_atE fs.at_most (ev_ix x_ix q_ix (ev_var 3) (ev_int))) (ea_cons (ev_atE fs.at_number (ev_ix x_ix q_ix (ev_var 3) (ev_int))) (ea_nil))))))))
      (svs_cons (sv_if (vs := [4, 5]) (eb_cmp (o_ne ft.u64) q_ne (ev_callB (c_repr ft.ca ft.u66) q_repr fs.f_repr (ea_cons (ev_var 5) (ea_nil))) (ev_callB (c_repr ft.ca ft.u66) q_repr fs.f_repr (ea_cons (ev_var 4) (ea_nil)))) (svs_one (sv_ret (ev_bl))) (svs_nil))
      (svs_one (sv_ret (ev_and (ev_cmp (o_notin ft.u65) q_notin (ev_bl) (ev_cal ft C__law_kinds (by decide) (ea_cons (ev_mk ft fs.x_RoadError (ev_var 2)) (ea_nil)))) (ev_one (ev_isE fs.f_isinstance (.bui fs.f_ValueError rfl (by decide +kernel) (by decide) (by decide)) fs.is_ValueError (ev_mk ft fs.x_RoadError (ev_var 2))))))))))))))))
end
end Law
namespace Law
open PySem PySem.Spec PyProof.Rows L2 Mid
def words : List PySem.Str := ["lead", "bring", "unlead", "unbring"]
abbrev deed (w : PySem.Str) (i j : Nat) (k : Int) : D := .tup [.str w, .int i, .int j, .int k]
abbrev outD (k : Nat) : D := .tup [.str "out", .int k]
end Law
namespace Law
open PySem PySem.Spec PyProof.Rows L2 Mid
def up (k i : Nat) : Nat := if i < k then i else i + 1
end Law
namespace Law
open PySem PySem.Spec PyProof.Rows L2 Mid
/-- a deed as it is written -/
inductive Dd where
  | four (w : PySem.Str) (i j : Nat) (t : Int)
  | put (i j k : Nat)
  | out (k : Nat)
def Dd.d : Dd → D
  | .four w i j t => deed w i j t
  | .put i j k => deed "put" i j k
  | .out k => outD k
/-- its places stand in a web of n places, it goes at most T times -/
def Dd.ok (n : Nat) (T : Int) : Dd → Prop
  | .four w i j t => w ∈ words ∧ i < n ∧ j < n ∧ 1 ≤ t ∧ t ≤ T
  | .put i j k => i < n ∧ j < n ∧ k ≤ n
  | .out k => k < n
end Law
namespace Law
open PySem PySem.Spec PyProof.Rows L2 Mid
theorem one_wp (b : Ow) (xs : List D) (h0 : 0 < xs.length) (h1 : xs.length < 1000000) (hx : fzL xs = xs) {Q : Nat → D → Prop} {E : Nat → PySem.Str → List D → Prop} {n : Nat} (h : ∀ d, d ∈ xs → Q (n + 1) d) : (F__law_one [.pen, .lst b xs]).wp Q E n := by
  have hs := sizeLine_eq
  rw [F__law_one, wp_fn]
  simp -implicitDefEqProofs (maxSteps := 1000000) (disch := (first | omega | assumption | decide | (intros; omega) | (simp only [List.length_cons, List.length_nil, Mid.rg_length]; omega))) only [Mid.evb, Mid.isInt, Mid.isBool, Mid.isStr, Mid.isTup, Mid.isLst, Mid.isDct, Mid.opaqueD, List.contains, List.elem, List.elem_eq_contains, reduceIte, reduceCtorEq, ↓reduceIte, Nat.reduceAdd, Nat.reduceSub, Nat.reduceEqDiff, Int.reduceToNat, Int.reduceLT, Int.reduceLE, Nat.reduceLeDiff, Nat.reduceLT, Int.reduceAdd, Int.reduceSub, Int.reduceMul, Int.reduceNeg, Nat.reduceBEq, Int.reduceEq, c__law_one, hx]
  with_reducible refine wp_two _ _ _ _ (by omega) (by omega) ?_
  intro z z0 z1
  obtain ⟨d, hd, e⟩ := dIx_lst .f xs z z0 z1
  simp -implicitDefEqProofs (maxSteps := 1000000) (disch := (first | omega | assumption | decide | (intros; omega) | (simp only [List.length_cons, List.length_nil, Mid.rg_length]; omega))) only [Mid.evb, Mid.isInt, Mid.isBool, Mid.isStr, Mid.isTup, Mid.isLst, Mid.isDct, Mid.opaqueD, List.contains, List.elem, List.elem_eq_contains, reduceIte, reduceCtorEq, ↓reduceIte, Nat.reduceAdd, Nat.reduceSub, Nat.reduceEqDiff, Int.reduceToNat, Int.reduceLT, Int.reduceLE, Nat.reduceLeDiff, Nat.reduceLT, Int.reduceAdd, Int.reduceSub, Int.reduceMul, Int.reduceNeg, Nat.reduceBEq, Int.reduceEq, e]
  exact h d hd
end Law
namespace Law
open PySem PySem.Spec PyProof.Rows L2 Mid
/-- plain data given up, its whole numbers at most B in size -/
inductive Ok (B : Nat) : D → Prop
  | int (z : Int) (h : z.natAbs ≤ B) : Ok B (.int z)
  | bl (b : Bool) : Ok B (.bl b)
  | non : Ok B .non
  | str (s : PySem.Str) (h : PyData.strOk s = true) (hl : (PyData.str s).shown.length ≤ 501) : Ok B (.str s)
  | tup (xs : List D) (h : ∀ x, x ∈ xs → Ok B x) : Ok B (.tup xs)
  | lst (xs : List D) (h : ∀ x, x ∈ xs → Ok B x) : Ok B (.lst .f xs)
mutual
def sz : D → Nat
  | .tup xs => szL xs + 3
  | .lst _ xs => szL xs + 3
  | _ => 501
def szL : List D → Nat
  | [] => 0
  | d :: ds => sz d + 2 + szL ds
end
mutual
def dp : D → Nat
  | .tup xs => dpL xs + 1
  | .lst _ xs => dpL xs + 1
  | _ => 0
def dpL : List D → Nat
  | [] => 0
  | d :: ds => max (dp d) (dpL ds)
end
theorem dpL_le {xs : List D} {k : Nat} (h : ∀ x, x ∈ xs → dp x ≤ k) : dpL xs ≤ k := by
  induction xs with
  | nil => exact Nat.zero_le _
  | cons a xs ih =>
    rw [dpL]
    have h1 := h a List.mem_cons_self
    have h2 := ih fun x hx => h x (List.mem_cons_of_mem _ hx)
    omega
theorem fzL_all {L : List D} (h : ∀ d, d ∈ L → fz d = d) : fzL L = L := by
  induction L with
  | nil => rw [fzL]
  | cons a L ih => rw [fzL, h a List.mem_cons_self, ih fun d hd => h d (List.mem_cons_of_mem _ hd)]
theorem Ok.fz {B : Nat} {d : D} (h : Ok B d) : fz d = d := by
  induction h with
  | lst xs h ih => rw [Mid.fz, fzL_all ih]
  | _ => rw [Mid.fz]
theorem Ok.up {B B' : Nat} {d : D} (h : Ok B d) (hB : B ≤ B') : Ok B' d := by
  induction h with
  | int z h => exact .int z (by omega)
  | bl b => exact .bl b
  | non => exact .non
  | str s h hl => exact .str s h hl
  | tup xs h ih => exact .tup xs ih
  | lst xs h ih => exact .lst xs ih
theorem ok_list {xs : List D} (h : ∀ d, d ∈ xs → plainD d = true ∧ (pyD d).canLay0 = true ∧ (pyD d).showable = true ∧ (pyD d).shown.length ≤ sz d ∧ (pyD d).depth = dp d) : plainL xs = true ∧ PyData.canLayAll0 (pyDL xs) = true ∧ PyData.showableAll (pyDL xs) = true ∧ ((PyData.shownAll (pyDL xs)).map (·.length)).sum + 2 * xs.length ≤ szL xs ∧ (PyData.shownAll (pyDL xs)).length = xs.length ∧ PyData.depthAll (pyDL xs) = dpL xs := by
  induction xs with
  | nil => exact ⟨rfl, rfl, rfl, Nat.zero_le _, rfl, rfl⟩
  | cons d ds ih =>
    obtain ⟨h1, h2, h3, h4, h5⟩ := h d List.mem_cons_self
    obtain ⟨q1, q2, q3, q4, q5, q6⟩ := ih fun x hx => h x (List.mem_cons_of_mem _ hx)
    refine ⟨?_, ?_, ?_, ?_, ?_, ?_⟩
    · show (plainD d && plainL ds) = true; rw [h1, q1]; rfl
    · show ((pyD d).canLay0 && PyData.canLayAll0 (pyDL ds)) = true; rw [h2, q2]; rfl
    · show (PyData.showable (pyD d) && PyData.showableAll (pyDL ds)) = true; rw [h3, q3]; rfl
    · show (((PyData.shown (pyD d)) :: PyData.shownAll (pyDL ds)).map (·.length)).sum + 2 * (ds.length + 1) ≤ _
      rw [List.map_cons, List.sum_cons, szL]; omega
    · show ((PyData.shown (pyD d)) :: PyData.shownAll (pyDL ds)).length = _
      rw [List.length_cons, List.length_cons, q5]
    · show max (pyD d).depth (PyData.depthAll (pyDL ds)) = _
      rw [h5, q6, dpL]
theorem Ok.all {B : Nat} (hB : B < 10 ^ 500) {d : D} (h : Ok B d) : plainD d = true ∧ (pyD d).canLay0 = true ∧ (pyD d).showable = true ∧ (pyD d).shown.length ≤ sz d ∧ (pyD d).depth = dp d := by
  induction h with
  | int z h =>
    have e := shR_int (i := z) (by omega)
    exact ⟨rfl, rfl, e.2.1, e.2.2, rfl⟩
  | bl b => exact ⟨rfl, rfl, rfl, (shR_bl b).2.2, rfl⟩
  | non => exact ⟨rfl, rfl, rfl, shR_non.2.2, rfl⟩
  | str s h hl => exact ⟨rfl, h, rfl, hl, rfl⟩
  | tup xs h ih =>
    obtain ⟨q1, q2, q3, q4, q5, q6⟩ := ok_list ih
    refine ⟨q1, q2, q3, ?_, congrArg Nat.succ q6⟩
    have := tupleText_len_le (PyData.shownAll (pyDL xs))
    show (tupleText (PyData.shownAll (pyDL xs))).length ≤ szL xs + 3
    rw [q5] at this
    omega
  | lst xs h ih =>
    obtain ⟨q1, q2, q3, q4, q5, q6⟩ := ok_list ih
    refine ⟨q1, q2, q3, ?_, congrArg Nat.succ q6⟩
    have := listText_len_le (PyData.shownAll (pyDL xs))
    show (listText (PyData.shownAll (pyDL xs))).length ≤ szL xs + 3
    rw [q5] at this
    omega
theorem Ok.shR {B k L : Nat} {d : D} (h : Ok B d) (hB : B < 10 ^ 500) (hk : dp d ≤ k) (hL : sz d ≤ L) : ShR k L d := by
  obtain ⟨q1, q2, q3, q4, q5⟩ := h.all hB
  exact ⟨⟨q1, q2, by omega⟩, q3, by omega⟩
/-- plain data of so much depth and text -/
def Gd (B k L : Nat) (d : D) : Prop := Ok B d ∧ dp d ≤ k ∧ sz d ≤ L
theorem Gd.up {B k L B' k' L' : Nat} {d : D} (h : Gd B k L d) (hB : B ≤ B') (hk : k ≤ k') (hL : L ≤ L') : Gd B' k' L' d := ⟨h.1.up hB, by have := h.2.1; omega, by have := h.2.2; omega⟩
theorem Gd.fz {B k L : Nat} {d : D} (h : Gd B k L d) : Mid.fz d = d := h.1.fz
theorem Gd.shR {B k L : Nat} {d : D} (h : Gd B k L d) (hB : B < 10 ^ 500) : ShR k L d := h.1.shR hB h.2.1 h.2.2
theorem rg_list (xs : List D) : xs = rg xs.length fun i => xs.getD i .non := Mid.rg_of .non xs
end Law
namespace Law
open PySem PySem.Spec PyProof.Rows L2 Mid
def LtS (n : Nat) (s : PySem.Str) : Prop := s.length ≤ n ∧ ∀ c, c ∈ s.cps.toList → c < 1114112
theorem len_app (a b : PySem.Str) : (a ++ b).length = a.length + b.length := by
  show (a.cps ++ b.cps).size = _
  rw [Array.size_append]
  rfl
theorem lts_app {n m : Nat} {a b : PySem.Str} (h1 : LtS n a) (h2 : LtS m b) : LtS (n + m) (a ++ b) := by
  refine ⟨by rw [len_app]; have := h1.1; have := h2.1; omega, fun c hc => ?_⟩
  have e : (a ++ b).cps.toList = a.cps.toList ++ b.cps.toList := by
    show (a.cps ++ b.cps).toList = _
    rw [Array.toList_append]
  rw [e] at hc
  rcases List.mem_append.mp hc with h | h
  · exact h1.2 c h
  · exact h2.2 c h
theorem lts_join : ∀ (ys : List PySem.Str), (∀ y, y ∈ ys → LtS 1 y) → LtS ys.length (PySem.Str.join ⟨#[]⟩ ys)
  | [], _ => ⟨Nat.le_refl _, fun c hc => absurd hc List.not_mem_nil⟩
  | y :: ys, h => by
    rw [join_nil_cons, List.length_cons, Nat.add_comm]
    exact lts_app (h y List.mem_cons_self) (lts_join ys fun z hz => h z (List.mem_cons_of_mem _ hz))
theorem lts_ok {B : Nat} {s : PySem.Str} (h : LtS 8 s) : Ok B (.str s) := by
  refine .str s ?_ ?_
  · show s.cps.all (· < 0x110000) = true
    rw [← Array.all_toList, List.all_eq_true]
    exact fun c hc => decide_eq_true (h.2 c hc)
  · have e : (PyData.str s).shown = PySem.reprText s := rfl
    rw [e]
    have := PySem.StrLaws.reprText_len s fun c hc => Nat.lt_trans (h.2 c hc) (by decide)
    have := h.1
    omega
abbrev letters : List D := [.str "a", .str "b", .str " ", .str "z", .str "0"]
def Lt1 (d : D) : Prop := ∃ s, d = .str s ∧ LtS 1 s
theorem letter_of {d : D} (h : d ∈ letters) : Lt1 d := by
  have k : ∀ s : PySem.Str, s.length ≤ 1 → (s.cps.toList.all fun c => decide (c < 1114112)) = true → LtS 1 s := fun s h1 h2 => ⟨h1, fun c hc => of_decide_eq_true (List.all_eq_true.mp h2 c hc)⟩
  rcases List.mem_cons.mp h with rfl | h
  · exact ⟨_, rfl, k _ (by decide +kernel) (by decide +kernel)⟩
  rcases List.mem_cons.mp h with rfl | h
  · exact ⟨_, rfl, k _ (by decide +kernel) (by decide +kernel)⟩
  rcases List.mem_cons.mp h with rfl | h
  · exact ⟨_, rfl, k _ (by decide +kernel) (by decide +kernel)⟩
  rcases List.mem_cons.mp h with rfl | h
  · exact ⟨_, rfl, k _ (by decide +kernel) (by decide +kernel)⟩
  rw [List.mem_singleton.mp h]
  exact ⟨_, rfl, k _ (by decide +kernel) (by decide +kernel)⟩
theorem txts_ok : ∀ {xs : List D}, (∀ d, d ∈ xs → Lt1 d) → ∃ ys : List PySem.Str, txtsOf xs = some ys ∧ ys.length = xs.length ∧ ∀ y, y ∈ ys → LtS 1 y
  | [], _ => ⟨[], rfl, rfl, fun y hy => absurd hy List.not_mem_nil⟩
  | d :: xs, h => by
    obtain ⟨s, rfl, hs⟩ := h d List.mem_cons_self
    obtain ⟨ys, e, l, hy⟩ := txts_ok fun x hx => h x (List.mem_cons_of_mem _ hx)
    refine ⟨s :: ys, by unfold txtsOf; rw [e]; rfl, by rw [List.length_cons, List.length_cons, l], fun y hy2 => ?_⟩
    rcases List.mem_cons.mp hy2 with rfl | h
    · exact hs
    · exact hy y h
/-- the text put together -/
theorem join_ok {o : Ow} {xs : List D} (h : ∀ d, d ∈ xs → Lt1 d) (hl : xs.length ≤ 8) : ∃ s : PySem.Str, joinD ("" : PySem.Str) (.lst o xs) = .ret (.str s) ∧ LtS 8 s := by
  obtain ⟨ys, e, l, hy⟩ := txts_ok h
  have j := lts_join ys hy
  have sm : (ys.map (·.length)).sum ≤ ys.length := by
    clear e l j
    induction ys with
    | nil => exact Nat.le_refl _
    | cons a ys ih =>
      rw [List.map_cons, List.sum_cons, List.length_cons]
      have := ih fun y hh => hy y (List.mem_cons_of_mem _ hh)
      have := (hy a List.mem_cons_self).1
      omega
  refine ⟨_, ?_, ⟨Nat.le_trans j.1 (by omega), j.2⟩⟩
  unfold joinD
  simp only [e]
  have z : ("" : PySem.Str).length = 0 := rfl
  rw [if_pos (by rw [z]; omega), TL.join_eq]
  rfl
end Law
namespace Law
open PySem PySem.Spec PyProof.Rows L2 Mid
abbrev bits5 (k : Nat) : List D := [.bl (0 == k), .bl (1 == k), .bl (2 == k), .bl (3 == k), .bl (4 == k), .bl (5 == k), .bl (6 == k), .bl (7 == k), .bl (8 == k), .bl (9 == k), .bl (10 == k), .bl (11 == k), .bl (12 == k), .bl (13 == k), .bl (14 == k), .bl (15 == k), .bl (16 == k), .bl (17 == k), .bl (18 == k), .bl (19 == k)]
theorem kinds_of (c : PySem.Str) (x : List D) (k : Nat)
    (h0 : List.lookup c ([("RoadError", false), ("NoWeb", true), ("NoPlace", false), ("NoOrder", false), ("NoRound", false), ("NoNumber", false), ("NoWorth", false), ("NoNumbers", false), ("NotRich", false), ("NotFull", false), ("NotLevel", false), ("NoPaper", false), ("Nothing", false), ("TooMany", false), ("TooLong", false), ("TooGreat", false), ("NoDeed", false), ("NoName", false), ("Standing", false), ("Full", false), ("NoMark", false)] : Errs) = some (0 == k))
    (h1 : List.lookup c ([("RoadError", false), ("NoWeb", false), ("NoPlace", true), ("NoOrder", false), ("NoRound", false), ("NoNumber", false), ("NoWorth", false), ("NoNumbers", false), ("NotRich", false), ("NotFull", false), ("NotLevel", false), ("NoPaper", false), ("Nothing", false), ("TooMany", false), ("TooLong", false), ("TooGreat", false), ("NoDeed", false), ("NoName", false), ("Standing", false), ("Full", false), ("NoMark", false)] : Errs) = some (1 == k))
    (h2 : List.lookup c ([("RoadError", false), ("NoWeb", false), ("NoPlace", false), ("NoOrder", true), ("NoRound", false), ("NoNumber", false), ("NoWorth", false), ("NoNumbers", false), ("NotRich", false), ("NotFull", false), ("NotLevel", false), ("NoPaper", false), ("Nothing", false), ("TooMany", false), ("TooLong", false), ("TooGreat", false), ("NoDeed", false), ("NoName", false), ("Standing", false), ("Full", false), ("NoMark", false)] : Errs) = some (2 == k))
    (h3 : List.lookup c ([("RoadError", false), ("NoWeb", false), ("NoPlace", false), ("NoOrder", false), ("NoRound", true), ("NoNumber", false), ("NoWorth", false), ("NoNumbers", false), ("NotRich", false), ("NotFull", false), ("NotLevel", false), ("NoPaper", false), ("Nothing", false), ("TooMany", false), ("TooLong", false), ("TooGreat", false), ("NoDeed", false), ("NoName", false), ("Standing", false), ("Full", false), ("NoMark", false)] : Errs) = some (3 == k))
    (h4 : List.lookup c ([("RoadError", false), ("NoWeb", false), ("NoPlace", false), ("NoOrder", false), ("NoRound", false), ("NoNumber", true), ("NoWorth", false), ("NoNumbers", false), ("NotRich", false), ("NotFull", false), ("NotLevel", false), ("NoPaper", false), ("Nothing", false), ("TooMany", false), ("TooLong", false), ("TooGreat", false), ("NoDeed", false), ("NoName", false), ("Standing", false), ("Full", false), ("NoMark", false)] : Errs) = some (4 == k))
    (h5 : List.lookup c ([("RoadError", false), ("NoWeb", false), ("NoPlace", false), ("NoOrder", false), ("NoRound", false), ("NoNumber", false), ("NoWorth", true), ("NoNumbers", false), ("NotRich", false), ("NotFull", false), ("NotLevel", false), ("NoPaper", false), ("Nothing", false), ("TooMany", false), ("TooLong", false), ("TooGreat", false), ("NoDeed", false), ("NoName", false), ("Standing", false), ("Full", false), ("NoMark", false)] : Errs) = some (5 == k))
    (h6 : List.lookup c ([("RoadError", false), ("NoWeb", false), ("NoPlace", false), ("NoOrder", false), ("NoRound", false), ("NoNumber", false), ("NoWorth", false), ("NoNumbers", true), ("NotRich", false), ("NotFull", false), ("NotLevel", false), ("NoPaper", false), ("Nothing", false), ("TooMany", false), ("TooLong", false), ("TooGreat", false), ("NoDeed", false), ("NoName", false), ("Standing", false), ("Full", false), ("NoMark", false)] : Errs) = some (6 == k))
    (h7 : List.lookup c ([("RoadError", false), ("NoWeb", false), ("NoPlace", false), ("NoOrder", false), ("NoRound", false), ("NoNumber", false), ("NoWorth", false), ("NoNumbers", false), ("NotRich", true), ("NotFull", false), ("NotLevel", false), ("NoPaper", false), ("Nothing", false), ("TooMany", false), ("TooLong", false), ("TooGreat", false), ("NoDeed", false), ("NoName", false), ("Standing", false), ("Full", false), ("NoMark", false)] : Errs) = some (7 == k))
    (h8 : List.lookup c ([("RoadError", false), ("NoWeb", false), ("NoPlace", false), ("NoOrder", false), ("NoRound", false), ("NoNumber", false), ("NoWorth", false), ("NoNumbers", false), ("NotRich", false), ("NotFull", true), ("NotLevel", false), ("NoPaper", false), ("Nothing", false), ("TooMany", false), ("TooLong", false), ("TooGreat", false), ("NoDeed", false), ("NoName", false), ("Standing", false), ("Full", false), ("NoMark", false)] : Errs) = some (8 == k))
    (h9 : List.lookup c ([("RoadError", false), ("NoWeb", false), ("NoPlace", false), ("NoOrder", false), ("NoRound", false), ("NoNumber", false), ("NoWorth", false), ("NoNumbers", false), ("NotRich", false), ("NotFull", false), ("NotLevel", true), ("NoPaper", false), ("Nothing", false), ("TooMany", false), ("TooLong", false), ("TooGreat", false), ("NoDeed", false), ("NoName", false), ("Standing", false), ("Full", false), ("NoMark", false)] : Errs) = some (9 == k))
    (h10 : List.lookup c ([("RoadError", false), ("NoWeb", false), ("NoPlace", false), ("NoOrder", false), ("NoRound", false), ("NoNumber", false), ("NoWorth", false), ("NoNumbers", false), ("NotRich", false), ("NotFull", false), ("NotLevel", false), ("NoPaper", true), ("Nothing", false), ("TooMany", false), ("TooLong", false), ("TooGreat", false), ("NoDeed", false), ("NoName", false), ("Standing", false), ("Full", false), ("NoMark", false)] : Errs) = some (10 == k))
    (h11 : List.lookup c ([("RoadError", false), ("NoWeb", false), ("NoPlace", false), ("NoOrder", false), ("NoRound", false), ("NoNumber", false), ("NoWorth", false), ("NoNumbers", false), ("NotRich", false), ("NotFull", false), ("NotLevel", false), ("NoPaper", false), ("Nothing", true), ("TooMany", false), ("TooLong", false), ("TooGreat", false), ("NoDeed", false), ("NoName", false), ("Standing", false), ("Full", false), ("NoMark", false)] : Errs) = some (11 == k))
    (h12 : List.lookup c ([("RoadError", false), ("NoWeb", false), ("NoPlace", false), ("NoOrder", false), ("NoRound", false), ("NoNumber", false), ("NoWorth", false), ("NoNumbers", false), ("NotRich", false), ("NotFull", false), ("NotLevel", false), ("NoPaper", false), ("Nothing", false), ("TooMany", true), ("TooLong", false), ("TooGreat", false), ("NoDeed", false), ("NoName", false), ("Standing", false), ("Full", false), ("NoMark", false)] : Errs) = some (12 == k))
    (h13 : List.lookup c ([("RoadError", false), ("NoWeb", false), ("NoPlace", false), ("NoOrder", false), ("NoRound", false), ("NoNumber", false), ("NoWorth", false), ("NoNumbers", false), ("NotRich", false), ("NotFull", false), ("NotLevel", false), ("NoPaper", false), ("Nothing", false), ("TooMany", false), ("TooLong", true), ("TooGreat", false), ("NoDeed", false), ("NoName", false), ("Standing", false), ("Full", false), ("NoMark", false)] : Errs) = some (13 == k))
    (h14 : List.lookup c ([("RoadError", false), ("NoWeb", false), ("NoPlace", false), ("NoOrder", false), ("NoRound", false), ("NoNumber", false), ("NoWorth", false), ("NoNumbers", false), ("NotRich", false), ("NotFull", false), ("NotLevel", false), ("NoPaper", false), ("Nothing", false), ("TooMany", false), ("TooLong", false), ("TooGreat", true), ("NoDeed", false), ("NoName", false), ("Standing", false), ("Full", false), ("NoMark", false)] : Errs) = some (14 == k))
    (h15 : List.lookup c ([("RoadError", false), ("NoWeb", false), ("NoPlace", false), ("NoOrder", false), ("NoRound", false), ("NoNumber", false), ("NoWorth", false), ("NoNumbers", false), ("NotRich", false), ("NotFull", false), ("NotLevel", false), ("NoPaper", false), ("Nothing", false), ("TooMany", false), ("TooLong", false), ("TooGreat", false), ("NoDeed", true), ("NoName", false), ("Standing", false), ("Full", false), ("NoMark", false)] : Errs) = some (15 == k))
    (h16 : List.lookup c ([("RoadError", false), ("NoWeb", false), ("NoPlace", false), ("NoOrder", false), ("NoRound", false), ("NoNumber", false), ("NoWorth", false), ("NoNumbers", false), ("NotRich", false), ("NotFull", false), ("NotLevel", false), ("NoPaper", false), ("Nothing", false), ("TooMany", false), ("TooLong", false), ("TooGreat", false), ("NoDeed", false), ("NoName", true), ("Standing", false), ("Full", false), ("NoMark", false)] : Errs) = some (16 == k))
    (h17 : List.lookup c ([("RoadError", false), ("NoWeb", false), ("NoPlace", false), ("NoOrder", false), ("NoRound", false), ("NoNumber", false), ("NoWorth", false), ("NoNumbers", false), ("NotRich", false), ("NotFull", false), ("NotLevel", false), ("NoPaper", false), ("Nothing", false), ("TooMany", false), ("TooLong", false), ("TooGreat", false), ("NoDeed", false), ("NoName", false), ("Standing", true), ("Full", false), ("NoMark", false)] : Errs) = some (17 == k))
    (h18 : List.lookup c ([("RoadError", false), ("NoWeb", false), ("NoPlace", false), ("NoOrder", false), ("NoRound", false), ("NoNumber", false), ("NoWorth", false), ("NoNumbers", false), ("NotRich", false), ("NotFull", false), ("NotLevel", false), ("NoPaper", false), ("Nothing", false), ("TooMany", false), ("TooLong", false), ("TooGreat", false), ("NoDeed", false), ("NoName", false), ("Standing", false), ("Full", true), ("NoMark", false)] : Errs) = some (18 == k))
    (h19 : List.lookup c ([("RoadError", false), ("NoWeb", false), ("NoPlace", false), ("NoOrder", false), ("NoRound", false), ("NoNumber", false), ("NoWorth", false), ("NoNumbers", false), ("NotRich", false), ("NotFull", false), ("NotLevel", false), ("NoPaper", false), ("Nothing", false), ("TooMany", false), ("TooLong", false), ("TooGreat", false), ("NoDeed", false), ("NoName", false), ("Standing", false), ("Full", false), ("NoMark", true)] : Errs) = some (19 == k))
    : F__law_kinds [.exc c x] = .ret (.lst .t (bits5 k)) := by
  have hs := sizeLine_eq
  refine fn_eq ?_
  have e0 := isE_exc _ c x _ h0
  have e1 := isE_exc _ c x _ h1
  have e2 := isE_exc _ c x _ h2
  have e3 := isE_exc _ c x _ h3
  have e4 := isE_exc _ c x _ h4
  have e5 := isE_exc _ c x _ h5
  have e6 := isE_exc _ c x _ h6
  have e7 := isE_exc _ c x _ h7
  have e8 := isE_exc _ c x _ h8
  have e9 := isE_exc _ c x _ h9
  have e10 := isE_exc _ c x _ h10
  have e11 := isE_exc _ c x _ h11
  have e12 := isE_exc _ c x _ h12
  have e13 := isE_exc _ c x _ h13
  have e14 := isE_exc _ c x _ h14
  have e15 := isE_exc _ c x _ h15
  have e16 := isE_exc _ c x _ h16
  have e17 := isE_exc _ c x _ h17
  have e18 := isE_exc _ c x _ h18
  have e19 := isE_exc _ c x _ h19
  simp -implicitDefEqProofs (maxSteps := 1000000) (disch := (first | omega | assumption | decide | (intros; omega) | (simp only [List.length_cons, List.length_nil, Mid.rg_length]; omega) | (refine Mid.cnt_lt ?_; omega) | (refine Mid.selLT ?_ ?_ <;> first | assumption | omega | fail) | (refine Mid.selLTI ?_ ?_ <;> first | assumption | omega | fail) | fail)) only [Mid.evb, Mid.ev35, Mid.ev36, Mid.ev37, Mid.isInt, Mid.isBool, Mid.isStr, Mid.isTup, Mid.isLst, Mid.isDct, Mid.opaqueD, List.contains, List.elem, List.elem_eq_contains, reduceIte, reduceCtorEq, ↓reduceIte, Nat.reduceAdd, Nat.reduceSub, Nat.reduceEqDiff, Int.reduceToNat, Int.reduceLT, Int.reduceLE, Nat.reduceLeDiff, Nat.reduceLT, Int.reduceAdd, Int.reduceSub, Int.reduceMul, Int.reduceNeg, Nat.reduceBEq, Int.reduceEq, c__law_kinds, e0, e1, e2, e3, e4, e5, e6, e7, e8, e9, e10, e11, e12, e13, e14, e15, e16, e17, e18, e19]
theorem kinds_NoWeb (x : List D) : F__law_kinds [.exc "NoWeb" x] = .ret (.lst .t (bits5 0)) := kinds_of "NoWeb" x 0 (by decide +kernel) (by decide +kernel) (by decide +kernel) (by decide +kernel) (by decide +kernel) (by decide +kernel) (by decide +kernel) (by decide +kernel) (by decide +kernel) (by decide +kernel) (by decide +kernel) (by decide +kernel) (by decide +kernel) (by decide +kernel) (by decide +kernel) (by decide +kernel) (by decide +kernel) (by decide +kernel) (by decide +kernel) (by decide +kernel)
theorem road_NoWeb (x : List D) : isE [("RoadError", true), ("NoWeb", true), ("NoPlace", true), ("NoOrder", true), ("NoRound", true), ("NoNumber", true), ("NoWorth", true), ("NoNumbers", true), ("NotRich", true), ("NotFull", true), ("NotLevel", true), ("NoPaper", true), ("Nothing", true), ("TooMany", true), ("TooLong", true), ("TooGreat", true), ("NoDeed", true), ("NoName", true), ("Standing", true), ("Full", true), ("NoMark", true)] (.exc "NoWeb" x) = .ret (.bl true) := isE_exc _ "NoWeb" x _ (by decide +kernel)
theorem kinds_NoPlace (x : List D) : F__law_kinds [.exc "NoPlace" x] = .ret (.lst .t (bits5 1)) := kinds_of "NoPlace" x 1 (by decide +kernel) (by decide +kernel) (by decide +kernel) (by decide +kernel) (by decide +kernel) (by decide +kernel) (by decide +kernel) (by decide +kernel) (by decide +kernel) (by decide +kernel) (by decide +kernel) (by decide +kernel) (by decide +kernel) (by decide +kernel) (by decide +kernel) (by decide +kernel) (by decide +kernel) (by decide +kernel) (by decide +kernel) (by decide +kernel)
theorem road_NoPlace (x : List D) : isE [("RoadError", true), ("NoWeb", true), ("NoPlace", true), ("NoOrder", true), ("NoRound", true), ("NoNumber", true), ("NoWorth", true), ("NoNumbers", true), ("NotRich", true), ("NotFull", true), ("NotLevel", true), ("NoPaper", true), ("Nothing", true), ("TooMany", true), ("TooLong", true), ("TooGreat", true), ("NoDeed", true), ("NoName", true), ("Standing", true), ("Full", true), ("NoMark", true)] (.exc "NoPlace" x) = .ret (.bl true) := isE_exc _ "NoPlace" x _ (by decide +kernel)
theorem kinds_NoOrder (x : List D) : F__law_kinds [.exc "NoOrder" x] = .ret (.lst .t (bits5 2)) := kinds_of "NoOrder" x 2 (by decide +kernel) (by decide +kernel) (by decide +kernel) (by decide +kernel) (by decide +kernel) (by decide +kernel) (by decide +kernel) (by decide +kernel) (by decide +kernel) (by decide +kernel) (by decide +kernel) (by decide +kernel) (by decide +kernel) (by decide +kernel) (by decide +kernel) (by decide +kernel) (by decide +kernel) (by decide +kernel) (by decide +kernel) (by decide +kernel)
theorem road_NoOrder (x : List D) : isE [("RoadError", true), ("NoWeb", true), ("NoPlace", true), ("NoOrder", true), ("NoRound", true), ("NoNumber", true), ("NoWorth", true), ("NoNumbers", true), ("NotRich", true), ("NotFull", true), ("NotLevel", true), ("NoPaper", true), ("Nothing", true), ("TooMany", true), ("TooLong", true), ("TooGreat", true), ("NoDeed", true), ("NoName", true), ("Standing", true), ("Full", true), ("NoMark", true)] (.exc "NoOrder" x) = .ret (.bl true) := isE_exc _ "NoOrder" x _ (by decide +kernel)
theorem kinds_NoRound (x : List D) : F__law_kinds [.exc "NoRound" x] = .ret (.lst .t (bits5 3)) := kinds_of "NoRound" x 3 (by decide +kernel) (by decide +kernel) (by decide +kernel) (by decide +kernel) (by decide +kernel) (by decide +kernel) (by decide +kernel) (by decide +kernel) (by decide +kernel) (by decide +kernel) (by decide +kernel) (by decide +kernel) (by decide +kernel) (by decide +kernel) (by decide +kernel) (by decide +kernel) (by decide +kernel) (by decide +kernel) (by decide +kernel) (by decide +kernel)
theorem road_NoRound (x : List D) : isE [("RoadError", true), ("NoWeb", true), ("NoPlace", true), ("NoOrder", true), ("NoRound", true), ("NoNumber", true), ("NoWorth", true), ("NoNumbers", true), ("NotRich", true), ("NotFull", true), ("NotLevel", true), ("NoPaper", true), ("Nothing", true), ("TooMany", true), ("TooLong", true), ("TooGreat", true), ("NoDeed", true), ("NoName", true), ("Standing", true), ("Full", true), ("NoMark", true)] (.exc "NoRound" x) = .ret (.bl true) := isE_exc _ "NoRound" x _ (by decide +kernel)
theorem kinds_NoNumber (x : List D) : F__law_kinds [.exc "NoNumber" x] = .ret (.lst .t (bits5 4)) := kinds_of "NoNumber" x 4 (by decide +kernel) (by decide +kernel) (by decide +kernel) (by decide +kernel) (by decide +kernel) (by decide +kernel) (by decide +kernel) (by decide +kernel) (by decide +kernel) (by decide +kernel) (by decide +kernel) (by decide +kernel) (by decide +kernel) (by decide +kernel) (by decide +kernel) (by decide +kernel) (by decide +kernel) (by decide +kernel) (by decide +kernel) (by decide +kernel)
theorem road_NoNumber (x : List D) : isE [("RoadError", true), ("NoWeb", true), ("NoPlace", true), ("NoOrder", true), ("NoRound", true), ("NoNumber", true), ("NoWorth", true), ("NoNumbers", true), ("NotRich", true), ("NotFull", true), ("NotLevel", true), ("NoPaper", true), ("Nothing", true), ("TooMany", true), ("TooLong", true), ("TooGreat", true), ("NoDeed", true), ("NoName", true), ("Standing", true), ("Full", true), ("NoMark", true)] (.exc "NoNumber" x) = .ret (.bl true) := isE_exc _ "NoNumber" x _ (by decide +kernel)
theorem kinds_NoWorth (x : List D) : F__law_kinds [.exc "NoWorth" x] = .ret (.lst .t (bits5 5)) := kinds_of "NoWorth" x 5 (by decide +kernel) (by decide +kernel) (by decide +kernel) (by decide +kernel) (by decide +kernel) (by decide +kernel) (by decide +kernel) (by decide +kernel) (by decide +kernel) (by decide +kernel) (by decide +kernel) (by decide +kernel) (by decide +kernel) (by decide +kernel) (by decide +kernel) (by decide +kernel) (by decide +kernel) (by decide +kernel) (by decide +kernel) (by decide +kernel)
theorem road_NoWorth (x : List D) : isE [("RoadError", true), ("NoWeb", true), ("NoPlace", true), ("NoOrder", true), ("NoRound", true), ("NoNumber", true), ("NoWorth", true), ("NoNumbers", true), ("NotRich", true), ("NotFull", true), ("NotLevel", true), ("NoPaper", true), ("Nothing", true), ("TooMany", true), ("TooLong", true), ("TooGreat", true), ("NoDeed", true), ("NoName", true), ("Standing", true), ("Full", true), ("NoMark", true)] (.exc "NoWorth" x) = .ret (.bl true) := isE_exc _ "NoWorth" x _ (by decide +kernel)
theorem kinds_NoNumbers (x : List D) : F__law_kinds [.exc "NoNumbers" x] = .ret (.lst .t (bits5 6)) := kinds_of "NoNumbers" x 6 (by decide +kernel) (by decide +kernel) (by decide +kernel) (by decide +kernel) (by decide +kernel) (by decide +kernel) (by decide +kernel) (by decide +kernel) (by decide +kernel) (by decide +kernel) (by decide +kernel) (by decide +kernel) (by decide +kernel) (by decide +kernel) (by decide +kernel) (by decide +kernel) (by decide +kernel) (by decide +kernel) (by decide +kernel) (by decide +kernel)
theorem road_NoNumbers (x : List D) : isE [("RoadError", true), ("NoWeb", true), ("NoPlace", true), ("NoOrder", true), ("NoRound", true), ("NoNumber", true), ("NoWorth", true), ("NoNumbers", true), ("NotRich", true), ("NotFull", true), ("NotLevel", true), ("NoPaper", true), ("Nothing", true), ("TooMany", true), ("TooLong", true), ("TooGreat", true), ("NoDeed", true), ("NoName", true), ("Standing", true), ("Full", true), ("NoMark", true)] (.exc "NoNumbers" x) = .ret (.bl true) := isE_exc _ "NoNumbers" x _ (by decide +kernel)
theorem kinds_NotRich (x : List D) : F__law_kinds [.exc "NotRich" x] = .ret (.lst .t (bits5 7)) := kinds_of "NotRich" x 7 (by decide +kernel) (by decide +kernel) (by decide +kernel) (by decide +kernel) (by decide +kernel) (by decide +kernel) (by decide +kernel) (by decide +kernel) (by decide +kernel) (by decide +kernel) (by decide +kernel) (by decide +kernel) (by decide +kernel) (by decide +kernel) (by decide +kernel) (by decide +kernel) (by decide +kernel) (by decide +kernel) (by decide +kernel) (by decide +kernel)
theorem road_NotRich (x : List D) : isE [("RoadError", true), ("NoWeb", true), ("NoPlace", true), ("NoOrder", true), ("NoRound", true), ("NoNumber", true), ("NoWorth", true), ("NoNumbers", true), ("NotRich", true), ("NotFull", true), ("NotLevel", true), ("NoPaper", true), ("Nothing", true), ("TooMany", true), ("TooLong", true), ("TooGreat", true), ("NoDeed", true), ("NoName", true), ("Standing", true), ("Full", true), ("NoMark", true)] (.exc "NotRich" x) = .ret (.bl true) := isE_exc _ "NotRich" x _ (by decide +kernel)
theorem kinds_NotFull (x : List D) : F__law_kinds [.exc "NotFull" x] = .ret (.lst .t (bits5 8)) := kinds_of "NotFull" x 8 (by decide +kernel) (by decide +kernel) (by decide +kernel) (by decide +kernel) (by decide +kernel) (by decide +kernel) (by decide +kernel) (by decide +kernel) (by decide +kernel) (by decide +kernel) (by decide +kernel) (by decide +kernel) (by decide +kernel) (by decide +kernel) (by decide +kernel) (by decide +kernel) (by decide +kernel) (by decide +kernel) (by decide +kernel) (by decide +kernel)
theorem road_NotFull (x : List D) : isE [("RoadError", true), ("NoWeb", true), ("NoPlace", true), ("NoOrder", true), ("NoRound", true), ("NoNumber", true), ("NoWorth", true), ("NoNumbers", true), ("NotRich", true), ("NotFull", true), ("NotLevel", true), ("NoPaper", true), ("Nothing", true), ("TooMany", true), ("TooLong", true), ("TooGreat", true), ("NoDeed", true), ("NoName", true), ("Standing", true), ("Full", true), ("NoMark", true)] (.exc "NotFull" x) = .ret (.bl true) := isE_exc _ "NotFull" x _ (by decide +kernel)
theorem kinds_NotLevel (x : List D) : F__law_kinds [.exc "NotLevel" x] = .ret (.lst .t (bits5 9)) := kinds_of "NotLevel" x 9 (by decide +kernel) (by decide +kernel) (by decide +kernel) (by decide +kernel) (by decide +kernel) (by decide +kernel) (by decide +kernel) (by decide +kernel) (by decide +kernel) (by decide +kernel) (by decide +kernel) (by decide +kernel) (by decide +kernel) (by decide +kernel) (by decide +kernel) (by decide +kernel) (by decide +kernel) (by decide +kernel) (by decide +kernel) (by decide +kernel)
theorem road_NotLevel (x : List D) : isE [("RoadError", true), ("NoWeb", true), ("NoPlace", true), ("NoOrder", true), ("NoRound", true), ("NoNumber", true), ("NoWorth", true), ("NoNumbers", true), ("NotRich", true), ("NotFull", true), ("NotLevel", true), ("NoPaper", true), ("Nothing", true), ("TooMany", true), ("TooLong", true), ("TooGreat", true), ("NoDeed", true), ("NoName", true), ("Standing", true), ("Full", true), ("NoMark", true)] (.exc "NotLevel" x) = .ret (.bl true) := isE_exc _ "NotLevel" x _ (by decide +kernel)
theorem kinds_NoPaper (x : List D) : F__law_kinds [.exc "NoPaper" x] = .ret (.lst .t (bits5 10)) := kinds_of "NoPaper" x 10 (by decide +kernel) (by decide +kernel) (by decide +kernel) (by decide +kernel) (by decide +kernel) (by decide +kernel) (by decide +kernel) (by decide +kernel) (by decide +kernel) (by decide +kernel) (by decide +kernel) (by decide +kernel) (by decide +kernel) (by decide +kernel) (by decide +kernel) (by decide +kernel) (by decide +kernel) (by decide +kernel) (by decide +kernel) (by decide +kernel)
theorem road_NoPaper (x : List D) : isE [("RoadError", true), ("NoWeb", true), ("NoPlace", true), ("NoOrder", true), ("NoRound", true), ("NoNumber", true), ("NoWorth", true), ("NoNumbers", true), ("NotRich", true), ("NotFull", true), ("NotLevel", true), ("NoPaper", true), ("Nothing", true), ("TooMany", true), ("TooLong", true), ("TooGreat", true), ("NoDeed", true), ("NoName", true), ("Standing", true), ("Full", true), ("NoMark", true)] (.exc "NoPaper" x) = .ret (.bl true) := isE_exc _ "NoPaper" x _ (by decide +kernel)
theorem kinds_Nothing (x : List D) : F__law_kinds [.exc "Nothing" x] = .ret (.lst .t (bits5 11)) := kinds_of "Nothing" x 11 (by decide +kernel) (by decide +kernel) (by decide +kernel) (by decide +kernel) (by decide +kernel) (by decide +kernel) (by decide +kernel) (by decide +kernel) (by decide +kernel) (by decide +kernel) (by decide +kernel) (by decide +kernel) (by decide +kernel) (by decide +kernel) (by decide +kernel) (by decide +kernel) (by decide +kernel) (by decide +kernel) (by decide +kernel) (by decide +kernel)
theorem road_Nothing (x : List D) : isE [("RoadError", true), ("NoWeb", true), ("NoPlace", true), ("NoOrder", true), ("NoRound", true), ("NoNumber", true), ("NoWorth", true), ("NoNumbers", true), ("NotRich", true), ("NotFull", true), ("NotLevel", true), ("NoPaper", true), ("Nothing", true), ("TooMany", true), ("TooLong", true), ("TooGreat", true), ("NoDeed", true), ("NoName", true), ("Standing", true), ("Full", true), ("NoMark", true)] (.exc "Nothing" x) = .ret (.bl true) := isE_exc _ "Nothing" x _ (by decide +kernel)
theorem kinds_TooMany (x : List D) : F__law_kinds [.exc "TooMany" x] = .ret (.lst .t (bits5 12)) := kinds_of "TooMany" x 12 (by decide +kernel) (by decide +kernel) (by decide +kernel) (by decide +kernel) (by decide +kernel) (by decide +kernel) (by decide +kernel) (by decide +kernel) (by decide +kernel) (by decide +kernel) (by decide +kernel) (by decide +kernel) (by decide +kernel) (by decide +kernel) (by decide +kernel) (by decide +kernel) (by decide +kernel) (by decide +kernel) (by decide +kernel) (by decide +kernel)
theorem road_TooMany (x : List D) : isE [("RoadError", true), ("NoWeb", true), ("NoPlace", true), ("NoOrder", true), ("NoRound", true), ("NoNumber", true), ("NoWorth", true), ("NoNumbers", true), ("NotRich", true), ("NotFull", true), ("NotLevel", true), ("NoPaper", true), ("Nothing", true), ("TooMany", true), ("TooLong", true), ("TooGreat", true), ("NoDeed", true), ("NoName", true), ("Standing", true), ("Full", true), ("NoMark", true)] (.exc "TooMany" x) = .ret (.bl true) := isE_exc _ "TooMany" x _ (by decide +kernel)
theorem kinds_TooLong (x : List D) : F__law_kinds [.exc "TooLong" x] = .ret (.lst .t (bits5 13)) := kinds_of "TooLong" x 13 (by decide +kernel) (by decide +kernel) (by decide +kernel) (by decide +kernel) (by decide +kernel) (by decide +kernel) (by decide +kernel) (by decide +kernel) (by decide +kernel) (by decide +kernel) (by decide +kernel) (by decide +kernel) (by decide +kernel) (by decide +kernel) (by decide +kernel) (by decide +kernel) (by decide +kernel) (by decide +kernel) (by decide +kernel) (by decide +kernel)
theorem road_TooLong (x : List D) : isE [("RoadError", true), ("NoWeb", true), ("NoPlace", true), ("NoOrder", true), ("NoRound", true), ("NoNumber", true), ("NoWorth", true), ("NoNumbers", true), ("NotRich", true), ("NotFull", true), ("NotLevel", true), ("NoPaper", true), ("Nothing", true), ("TooMany", true), ("TooLong", true), ("TooGreat", true), ("NoDeed", true), ("NoName", true), ("Standing", true), ("Full", true), ("NoMark", true)] (.exc "TooLong" x) = .ret (.bl true) := isE_exc _ "TooLong" x _ (by decide +kernel)
theorem kinds_TooGreat (x : List D) : F__law_kinds [.exc "TooGreat" x] = .ret (.lst .t (bits5 14)) := kinds_of "TooGreat" x 14 (by decide +kernel) (by decide +kernel) (by decide +kernel) (by decide +kernel) (by decide +kernel) (by decide +kernel) (by decide +kernel) (by decide +kernel) (by decide +kernel) (by decide +kernel) (by decide +kernel) (by decide +kernel) (by decide +kernel) (by decide +kernel) (by decide +kernel) (by decide +kernel) (by decide +kernel) (by decide +kernel) (by decide +kernel) (by decide +kernel)
theorem road_TooGreat (x : List D) : isE [("RoadError", true), ("NoWeb", true), ("NoPlace", true), ("NoOrder", true), ("NoRound", true), ("NoNumber", true), ("NoWorth", true), ("NoNumbers", true), ("NotRich", true), ("NotFull", true), ("NotLevel", true), ("NoPaper", true), ("Nothing", true), ("TooMany", true), ("TooLong", true), ("TooGreat", true), ("NoDeed", true), ("NoName", true), ("Standing", true), ("Full", true), ("NoMark", true)] (.exc "TooGreat" x) = .ret (.bl true) := isE_exc _ "TooGreat" x _ (by decide +kernel)
theorem kinds_NoDeed (x : List D) : F__law_kinds [.exc "NoDeed" x] = .ret (.lst .t (bits5 15)) := kinds_of "NoDeed" x 15 (by decide +kernel) (by decide +kernel) (by decide +kernel) (by decide +kernel) (by decide +kernel) (by decide +kernel) (by decide +kernel) (by decide +kernel) (by decide +kernel) (by decide +kernel) (by decide +kernel) (by decide +kernel) (by decide +kernel) (by decide +kernel) (by decide +kernel) (by decide +kernel) (by decide +kernel) (by decide +kernel) (by decide +kernel) (by decide +kernel)
theorem road_NoDeed (x : List D) : isE [("RoadError", true), ("NoWeb", true), ("NoPlace", true), ("NoOrder", true), ("NoRound", true), ("NoNumber", true), ("NoWorth", true), ("NoNumbers", true), ("NotRich", true), ("NotFull", true), ("NotLevel", true), ("NoPaper", true), ("Nothing", true), ("TooMany", true), ("TooLong", true), ("TooGreat", true), ("NoDeed", true), ("NoName", true), ("Standing", true), ("Full", true), ("NoMark", true)] (.exc "NoDeed" x) = .ret (.bl true) := isE_exc _ "NoDeed" x _ (by decide +kernel)
theorem kinds_NoName (x : List D) : F__law_kinds [.exc "NoName" x] = .ret (.lst .t (bits5 16)) := kinds_of "NoName" x 16 (by decide +kernel) (by decide +kernel) (by decide +kernel) (by decide +kernel) (by decide +kernel) (by decide +kernel) (by decide +kernel) (by decide +kernel) (by decide +kernel) (by decide +kernel) (by decide +kernel) (by decide +kernel) (by decide +kernel) (by decide +kernel) (by decide +kernel) (by decide +kernel) (by decide +kernel) (by decide +kernel) (by decide +kernel) (by decide +kernel)
theorem road_NoName (x : List D) : isE [("RoadError", true), ("NoWeb", true), ("NoPlace", true), ("NoOrder", true), ("NoRound", true), ("NoNumber", true), ("NoWorth", true), ("NoNumbers", true), ("NotRich", true), ("NotFull", true), ("NotLevel", true), ("NoPaper", true), ("Nothing", true), ("TooMany", true), ("TooLong", true), ("TooGreat", true), ("NoDeed", true), ("NoName", true), ("Standing", true), ("Full", true), ("NoMark", true)] (.exc "NoName" x) = .ret (.bl true) := isE_exc _ "NoName" x _ (by decide +kernel)
theorem kinds_Standing (x : List D) : F__law_kinds [.exc "Standing" x] = .ret (.lst .t (bits5 17)) := kinds_of "Standing" x 17 (by decide +kernel) (by decide +kernel) (by decide +kernel) (by decide +kernel) (by decide +kernel) (by decide +kernel) (by decide +kernel) (by decide +kernel) (by decide +kernel) (by decide +kernel) (by decide +kernel) (by decide +kernel) (by decide +kernel) (by decide +kernel) (by decide +kernel) (by decide +kernel) (by decide +kernel) (by decide +kernel) (by decide +kernel) (by decide +kernel)
theorem road_Standing (x : List D) : isE [("RoadError", true), ("NoWeb", true), ("NoPlace", true), ("NoOrder", true), ("NoRound", true), ("NoNumber", true), ("NoWorth", true), ("NoNumbers", true), ("NotRich", true), ("NotFull", true), ("NotLevel", true), ("NoPaper", true), ("Nothing", true), ("TooMany", true), ("TooLong", true), ("TooGreat", true), ("NoDeed", true), ("NoName", true), ("Standing", true), ("Full", true), ("NoMark", true)] (.exc "Standing" x) = .ret (.bl true) := isE_exc _ "Standing" x _ (by decide +kernel)
theorem kinds_Full (x : List D) : F__law_kinds [.exc "Full" x] = .ret (.lst .t (bits5 18)) := kinds_of "Full" x 18 (by decide +kernel) (by decide +kernel) (by decide +kernel) (by decide +kernel) (by decide +kernel) (by decide +kernel) (by decide +kernel) (by decide +kernel) (by decide +kernel) (by decide +kernel) (by decide +kernel) (by decide +kernel) (by decide +kernel) (by decide +kernel) (by decide +kernel) (by decide +kernel) (by decide +kernel) (by decide +kernel) (by decide +kernel) (by decide +kernel)
theorem road_Full (x : List D) : isE [("RoadError", true), ("NoWeb", true), ("NoPlace", true), ("NoOrder", true), ("NoRound", true), ("NoNumber", true), ("NoWorth", true), ("NoNumbers", true), ("NotRich", true), ("NotFull", true), ("NotLevel", true), ("NoPaper", true), ("Nothing", true), ("TooMany", true), ("TooLong", true), ("TooGreat", true), ("NoDeed", true), ("NoName", true), ("Standing", true), ("Full", true), ("NoMark", true)] (.exc "Full" x) = .ret (.bl true) := isE_exc _ "Full" x _ (by decide +kernel)
theorem kinds_NoMark (x : List D) : F__law_kinds [.exc "NoMark" x] = .ret (.lst .t (bits5 19)) := kinds_of "NoMark" x 19 (by decide +kernel) (by decide +kernel) (by decide +kernel) (by decide +kernel) (by decide +kernel) (by decide +kernel) (by decide +kernel) (by decide +kernel) (by decide +kernel) (by decide +kernel) (by decide +kernel) (by decide +kernel) (by decide +kernel) (by decide +kernel) (by decide +kernel) (by decide +kernel) (by decide +kernel) (by decide +kernel) (by decide +kernel) (by decide +kernel)
theorem road_NoMark (x : List D) : isE [("RoadError", true), ("NoWeb", true), ("NoPlace", true), ("NoOrder", true), ("NoRound", true), ("NoNumber", true), ("NoWorth", true), ("NoNumbers", true), ("NotRich", true), ("NotFull", true), ("NotLevel", true), ("NoPaper", true), ("Nothing", true), ("TooMany", true), ("TooLong", true), ("TooGreat", true), ("NoDeed", true), ("NoName", true), ("Standing", true), ("Full", true), ("NoMark", true)] (.exc "NoMark" x) = .ret (.bl true) := isE_exc _ "NoMark" x _ (by decide +kernel)
theorem kinds_RoadError (x : List D) : F__law_kinds [.exc "RoadError" x] = .ret (.lst .t (bits5 20)) := kinds_of "RoadError" x 20 (by decide +kernel) (by decide +kernel) (by decide +kernel) (by decide +kernel) (by decide +kernel) (by decide +kernel) (by decide +kernel) (by decide +kernel) (by decide +kernel) (by decide +kernel) (by decide +kernel) (by decide +kernel) (by decide +kernel) (by decide +kernel) (by decide +kernel) (by decide +kernel) (by decide +kernel) (by decide +kernel) (by decide +kernel) (by decide +kernel)
theorem road_RoadError (x : List D) : isE [("RoadError", true), ("NoWeb", true), ("NoPlace", true), ("NoOrder", true), ("NoRound", true), ("NoNumber", true), ("NoWorth", true), ("NoNumbers", true), ("NotRich", true), ("NotFull", true), ("NotLevel", true), ("NoPaper", true), ("Nothing", true), ("TooMany", true), ("TooLong", true), ("TooGreat", true), ("NoDeed", true), ("NoName", true), ("Standing", true), ("Full", true), ("NoMark", true)] (.exc "RoadError" x) = .ret (.bl true) := isE_exc _ "RoadError" x _ (by decide +kernel)
end Law
namespace Law
open PySem PySem.Spec PyProof.Rows L2 Mid
theorem dPowG : dPow (.int 10) (.int 20) = .ret (.int 100000000000000000000) := x_dPow 10 20 (by decide) ⟨by decide⟩
theorem gd_at {B k L : Nat} {d : D} (h : Ok B d) (h1 : dp d = 0) (h2 : sz d = 501) (hL : 501 ≤ L) : Gd B k L d := ⟨h, by omega, by omega⟩
theorem gd_tup {B k L : Nat} {xs : List D} (h : ∀ x, x ∈ xs → Ok B x) (hk : ∀ x, x ∈ xs → dp x ≤ k) (hL : szL xs + 3 ≤ L) : Gd B (k + 1) L (.tup xs) := ⟨.tup xs h, by rw [dp]; have := dpL_le hk; omega, by rw [sz]; exact hL⟩
theorem gd_lst {B k L : Nat} {xs : List D} (h : ∀ x, x ∈ xs → Ok B x) (hk : ∀ x, x ∈ xs → dp x ≤ k) (hL : szL xs + 3 ≤ L) : Gd B (k + 1) L (.lst .f xs) := ⟨.lst xs h, by rw [dp]; have := dpL_le hk; omega, by rw [sz]; exact hL⟩
end Law
namespace Law
open PySem PySem.Spec PyProof.Rows L2 Mid
def budget : Nat := 100000
theorem budget_ok : budget ≤ bigA := by unfold budget bigA; decide
end Law
namespace Law
open PySem PySem.Spec PyProof.Rows L2 Mid
theorem szL_le {xs : List D} {c : Nat} (h : ∀ x, x ∈ xs → sz x ≤ c) : szL xs ≤ xs.length * (c + 2) := by
  induction xs with
  | nil => exact Nat.zero_le _
  | cons a xs ih =>
    rw [szL, List.length_cons, Nat.succ_mul]
    have h1 := h a List.mem_cons_self
    have h2 := ih fun x hx => h x (List.mem_cons_of_mem _ hx)
    omega
theorem gd_tupL {B k c L : Nat} {xs : List D} (l : Nat) (hl : xs.length ≤ l) (h : ∀ x, x ∈ xs → Gd B k c x) (hL : l * (c + 2) + 3 ≤ L) : Gd B (k + 1) L (.tup xs) :=
  gd_tup (fun x hx => (h x hx).1) (fun x hx => (h x hx).2.1) (by
    have h1 := szL_le fun x hx => (h x hx).2.2
    have h2 := Nat.mul_le_mul_right (c + 2) hl
    omega)
theorem gd_lstL {B k c L : Nat} {xs : List D} (l : Nat) (hl : xs.length ≤ l) (h : ∀ x, x ∈ xs → Gd B k c x) (hL : l * (c + 2) + 3 ≤ L) : Gd B (k + 1) L (.lst .f xs) :=
  gd_lst (fun x hx => (h x hx).1) (fun x hx => (h x hx).2.1) (by
    have h1 := szL_le fun x hx => (h x hx).2.2
    have h2 := Nat.mul_le_mul_right (c + 2) hl
    omega)
end Law
namespace Law
open PySem PySem.Spec PyProof.Rows L2 Mid
theorem forQ_memd {t : Tg} {f : Mid.Env → Comp (Fl × Mid.Env)} {Q : Nat → Fl × Mid.Env → Prop} {E : Nat → PySem.Str → List D → Prop} {k : Nat} {ρ : Mid.Env} {xs : List D} (b : Nat) (P : D → Prop) (hp : ∀ d, d ∈ xs → P d) (step : ∀ d m, P d → ∃ ρ', t d ρ = some ρ' ∧ (f ρ').wp (turnQ (fun m' ρ2 => m' ≤ m + b ∧ ρ2 = ρ) Q) E m) (last : ∀ m, m ≤ k + xs.length * b → Q m (.nx, ρ)) : forQ t f ρ Q E k xs := by
  rw [rg_list xs]
  refine forQ_rgd b (fun _ ρ2 => ρ2 = ρ) rfl (fun i m ρ2 hi hm e => ?_) fun m ρ2 hm e => by rw [e]; exact last m hm
  subst e
  refine step _ m (hp _ ?_)
  rw [List.getD_eq_getElem?_getD, List.getElem?_eq_getElem hi]
  exact List.getElem_mem hi
end Law
namespace Law
open PySem PySem.Spec PyProof.Rows L2 Mid
theorem fzL_of05 : ∀ {xs : List D}, (∀ d, d ∈ xs → fz d = d) → fzL xs = xs
  | [], _ => rfl
  | a :: xs, h => by rw [fzL, h a List.mem_cons_self, fzL_of05 fun d hd => h d (List.mem_cons_of_mem _ hd)]
theorem one_wp05 {b : Ow} {xs : List D} (P : D → Prop) (hP : ∀ d, P d → fz d = d) {Q : Nat → D → Prop} {E : Nat → PySem.Str → List D → Prop} {n : Nat} (h0 : 0 < xs.length) (h1 : xs.length < 1000000) (all : ∀ d, d ∈ xs → P d) (h : ∀ d, P d → Q (n + 1) d) : (F__law_one [.pen, .lst b xs]).wp Q E n :=
  one_wp b xs h0 h1 (fzL_of05 fun d hd => hP d (all d hd)) fun d hd => h d (all d hd)
theorem lt1_fz {d : D} (h : Lt1 d) : fz d = d := by
  obtain ⟨s, rfl, _⟩ := h
  rfl
def P5 (d : D) : Prop := ∃ (k : Nat) (c : PySem.Str) (x : List D), k < 20 ∧ d = .pr [.int (k : Int), .exc c x] ∧ F__law_kinds [.exc c x] = .ret (.lst .t (bits5 k)) ∧ isE [("RoadError", true), ("NoWeb", true), ("NoPlace", true), ("NoOrder", true), ("NoRound", true), ("NoNumber", true), ("NoWorth", true), ("NoNumbers", true), ("NotRich", true), ("NotFull", true), ("NotLevel", true), ("NoPaper", true), ("Nothing", true), ("TooMany", true), ("TooLong", true), ("TooGreat", true), ("NoDeed", true), ("NoName", true), ("Standing", true), ("Full", true), ("NoMark", true)] (.exc c x) = .ret (.bl true)
theorem p5_ex {d : D} (h : P5 d) : ∃ (k : Nat) (c : PySem.Str) (x : List D), k < 20 ∧ d = .pr [.int (k : Int), .exc c x] ∧ F__law_kinds [.exc c x] = .ret (.lst .t (bits5 k)) ∧ isE [("RoadError", true), ("NoWeb", true), ("NoPlace", true), ("NoOrder", true), ("NoRound", true), ("NoNumber", true), ("NoWorth", true), ("NoNumbers", true), ("NotRich", true), ("NotFull", true), ("NotLevel", true), ("NoPaper", true), ("Nothing", true), ("TooMany", true), ("TooLong", true), ("TooGreat", true), ("NoDeed", true), ("NoName", true), ("Standing", true), ("Full", true), ("NoMark", true)] (.exc c x) = .ret (.bl true) := h
theorem bits_rg (k : Nat) : bits5 k = rg 20 fun i => .bl (decide (i = k)) := by
  have e : ∀ i : Nat, (i == k) = decide (i = k) := fun i => by
    by_cases c : i = k
    · subst c; simp
    · rw [decide_eq_false c]; simpa using c
  have f : (rg 20 fun i => D.bl (decide (i = k))) = rg 20 fun i => D.bl (i == k) := rg_ext rfl fun i _ => by rw [e]
  rw [f]
  unfold rg
  rfl
theorem fits_bits (o : Ow) (n : Nat) (f : Nat → Bool) : fits 1 (.lst o (rg n fun i => .bl (f i))) := fits_lst (k := 0) fun d hd => by
  obtain ⟨_, _, rfl⟩ := mem_rg.mp hd
  exact fits_bl _
theorem dNe05 (k : Nat) (a b : Ow) : dNe (.lst a (bits5 k)) (.lst b (rg 20 fun i => .bl (decide (i = k)))) = .ret (.bl false) := by
  rw [bits_rg k, dNe_fits rfl (fits_bits _ _ _) (fits_bits _ _ _) (by decide) (by decide)]
  have : PyData.eqv (pyD (.lst a (rg 20 fun i => .bl (decide (i = k))))) (pyD (.lst b (rg 20 fun i => .bl (decide (i = k))))) = true := PySem.SeqAt.eqv_refl _ (fits_bits a 20 fun i => decide (i = k)).2.1
  rw [this]; rfl
theorem not05 (o : Ow) : dNotIn (.bl true) (.lst o [.bl false, .bl false, .bl false, .bl false, .bl false, .bl false, .bl false, .bl false, .bl false, .bl false, .bl false, .bl false, .bl false, .bl false, .bl false, .bl false, .bl false, .bl false, .bl false, .bl false]) = .ret (.bl true) := rfl
theorem ix5_15 (y : Nat → D) (o : Ow) : dIx (.lst o [.exc "NoWeb" [], .exc "NoPlace" [], .exc "NoOrder" [], .exc "NoRound" [], .exc "NoNumber" [], .exc "NoWorth" [], .exc "NoNumbers" [], .exc "NotRich" [], .exc "NotFull" [], .exc "NotLevel" [], .exc "NoPaper" [], .exc "Nothing" [], .exc "TooMany" [], .exc "TooLong" [], .exc "TooGreat" [], .exc "NoDeed" [.str "number", y 0], .exc "NoName" [.str "name", y 1], .exc "Standing" [.str "name", y 2], .exc "Full" [.str "most", y 3], .exc "NoMark" [.str "number", y 4]]) (.int 15) = .ret (.exc "NoDeed" [.str "number", y 0]) := rfl
theorem ix5_16 (y : Nat → D) (o : Ow) : dIx (.lst o [.exc "NoWeb" [], .exc "NoPlace" [], .exc "NoOrder" [], .exc "NoRound" [], .exc "NoNumber" [], .exc "NoWorth" [], .exc "NoNumbers" [], .exc "NotRich" [], .exc "NotFull" [], .exc "NotLevel" [], .exc "NoPaper" [], .exc "Nothing" [], .exc "TooMany" [], .exc "TooLong" [], .exc "TooGreat" [], .exc "NoDeed" [.str "number", y 0], .exc "NoName" [.str "name", y 1], .exc "Standing" [.str "name", y 2], .exc "Full" [.str "most", y 3], .exc "NoMark" [.str "number", y 4]]) (.int 16) = .ret (.exc "NoName" [.str "name", y 1]) := rfl
theorem ix5_17 (y : Nat → D) (o : Ow) : dIx (.lst o [.exc "NoWeb" [], .exc "NoPlace" [], .exc "NoOrder" [], .exc "NoRound" [], .exc "NoNumber" [], .exc "NoWorth" [], .exc "NoNumbers" [], .exc "NotRich" [], .exc "NotFull" [], .exc "NotLevel" [], .exc "NoPaper" [], .exc "Nothing" [], .exc "TooMany" [], .exc "TooLong" [], .exc "TooGreat" [], .exc "NoDeed" [.str "number", y 0], .exc "NoName" [.str "name", y 1], .exc "Standing" [.str "name", y 2], .exc "Full" [.str "most", y 3], .exc "NoMark" [.str "number", y 4]]) (.int 17) = .ret (.exc "Standing" [.str "name", y 2]) := rfl
theorem ix5_18 (y : Nat → D) (o : Ow) : dIx (.lst o [.exc "NoWeb" [], .exc "NoPlace" [], .exc "NoOrder" [], .exc "NoRound" [], .exc "NoNumber" [], .exc "NoWorth" [], .exc "NoNumbers" [], .exc "NotRich" [], .exc "NotFull" [], .exc "NotLevel" [], .exc "NoPaper" [], .exc "Nothing" [], .exc "TooMany" [], .exc "TooLong" [], .exc "TooGreat" [], .exc "NoDeed" [.str "number", y 0], .exc "NoName" [.str "name", y 1], .exc "Standing" [.str "name", y 2], .exc "Full" [.str "most", y 3], .exc "NoMark" [.str "number", y 4]]) (.int 18) = .ret (.exc "Full" [.str "most", y 3]) := rfl
theorem ix5_19 (y : Nat → D) (o : Ow) : dIx (.lst o [.exc "NoWeb" [], .exc "NoPlace" [], .exc "NoOrder" [], .exc "NoRound" [], .exc "NoNumber" [], .exc "NoWorth" [], .exc "NoNumbers" [], .exc "NotRich" [], .exc "NotFull" [], .exc "NotLevel" [], .exc "NoPaper" [], .exc "Nothing" [], .exc "TooMany" [], .exc "TooLong" [], .exc "TooGreat" [], .exc "NoDeed" [.str "number", y 0], .exc "NoName" [.str "name", y 1], .exc "Standing" [.str "name", y 2], .exc "Full" [.str "most", y 3], .exc "NoMark" [.str "number", y 4]]) (.int 19) = .ret (.exc "NoMark" [.str "number", y 4]) := rfl
theorem join05 {n : Nat} {f : Nat → D} (h : ∀ i, i < n → Lt1 (f i)) (hn : n ≤ 8) : ∃ s : PySem.Str, (∀ o, joinD ("" : PySem.Str) (.lst o (rg n f)) = .ret (.str s)) ∧ LtS 8 s := by
  obtain ⟨s, h1, h2⟩ := join_ok (o := .f) (fun d hd => by obtain ⟨i, hi, rfl⟩ := mem_rg.mp hd; exact h i hi) (by rw [rg_length]; exact hn)
  exact ⟨s, fun _ => h1, h2⟩
theorem good : Good c_law_k05 9 budget := by
  have hs := sizeLine_eq
  refine good_of ?_
  simp -implicitDefEqProofs (maxSteps := 1000000) (disch := (first | omega | assumption | decide | (intros; omega) | (simp only [List.length_cons, List.length_nil, Mid.rg_length]; omega) | (refine Mid.cnt_lt ?_; omega) | (refine Mid.selLT ?_ ?_ <;> first | assumption | omega | fail) | (refine Mid.selLTI ?_ ?_ <;> first | assumption | omega | fail) | fail)) only [Mid.wp_ret, Mid.wp_stuck, Mid.wp_bind, Mid.wp_seq, Mid.wp_nil, Mid.wp_asg, Mid.wp_expr, Mid.wp_rt, Mid.wp_if, Mid.wp_k, Mid.wp_par, Mid.wp_unp, Mid.wp_rtV, Mid.wp_rtN, Mid.wp_break, Mid.wp_cont, Mid.wp_raise,
    Mid.wp_forR, Mid.wp_forS, Mid.wp_app, Mid.wp_fn, Mid.seqQ_nx, Mid.seqQ_rt, Mid.seqQ_er, Mid.seqQ_bk, Mid.seqQ_ct, Mid.turnQ_nx, Mid.turnQ_ct, Mid.turnQ_bk, Mid.turnQ_rt, Mid.turnQ_er, Mid.errQ, Mid.asgQ,
    Mid.expQ, Mid.rtQ, Mid.ifQ, Mid.par2Q, Mid.parQ, Mid.rtvQ_eq, Mid.outQ, Mid.startE, Mid.run, Mid.fzE, Mid.frzE_A, Mid.frzA, Mid.upE, Mid.upX, Mid.noShr, Mid.noShrL, Mid.noShrL_rg, Mid.noShrL_ints, Mid.noShrL_bls,
    Mid.noShrL_rows, Mid.noShrL_lrows, Mid.ow_tf, Mid.ow_bf, Mid.ow_ff, Mid.brw_tup, Mid.brw_int, Mid.brw_bl, Mid.brw_str, Mid.brw_non, Mid.brw_lt, Mid.brw_lf, Mid.wipeE, Mid.ownAt, Mid.fz, Mid.fzL, Mid.fzL_rg,
    List.map_cons, List.map_nil, List.cons_append, List.nil_append, List.length_cons, List.length_nil, List.replicate, Option.map_some, Option.map_none, List.getElem?_cons_zero, List.getElem?_cons_succ, List.set_cons_zero,
    List.set_cons_succ, List.contains_cons, List.contains_nil, List.elem_eq_contains, List.isEmpty_nil, List.isEmpty_cons, Mid.eVar, Mid.eK, Mid.eBin, Mid.eUn, Mid.asB.eq_1, Mid.bOf, Mid.bAnd, Mid.bOr, Mid.bNot,
    Mid.eAnd, Mid.eOr, Mid.eNot, Mid.eIf, Mid.aNil, Mid.aCons, Mid.eCallB, Mid.eCall, Mid.gTup_ok, Mid.gLst_ok, Mid.eDct, Mid.oNone, Mid.oSome, Mid.asI.eq_1, Mid.eSl, Mid.eChain, Mid.eComp, Mid.iSeq, Mid.iOf,
    Mid.itemsOf.eq_1, Mid.itemsOf.eq_2, Mid.gRange1.eq_1, Mid.gRange2.eq_1, Mid.gEnum.eq_1, Mid.gZip.eq_1, Mid.gZip.eq_2, Mid.gEnumZip.eq_1, Mid.eIdx, Mid.bind_ret, Mid.try_ret, Mid.sure_ret, Mid.cAll, Mid.compL_rg,
    Mid.stepC_eq, Mid.onC_some, Mid.tName, Mid.tTup, Mid.tsCons, Mid.tsNil, Option.bind_some, Option.bind_none, Mid.mapR_ret, Mid.rg_length, Mid.rg_zero, Mid.numbered_rg, Mid.pairs_rg, Mid.rangeL_rg, Mid.ix_rg_t,
    Mid.ix_rg_l, Mid.dEq_int, Mid.dNe_int, Mid.dEq_str, Mid.dNe_str, Mid.dEq_bl, Mid.dNe_bl, Mid.dEq_web, Mid.dNe_web, Mid.dEq_row, Mid.dNe_row, Mid.dEq_web_non, Mid.dEq_non_web, Mid.dNe_web_non, Mid.dNe_non_web,
    Mid.dNe_non_non, Mid.dEq_non_non, Mid.dIs.eq_1, Mid.dIsNot.eq_1, Mid.isNon.eq_1, Mid.isNon_tup, Mid.isNon_int, Mid.isNon_lst, Mid.isNon_bl, Mid.isNon_str, Mid.dAdd.eq_1, Mid.dAdd.eq_2, Mid.dAdd.eq_3, Mid.dSub.eq_1,
    Mid.dMul_int, Mid.dMod_int, Mid.dCmp.eq_1, Mid.gLen.eq_1, Mid.gLen.eq_2, Mid.gInt.eq_1, Mid.gInt.eq_2, Mid.gList.eq_1, Mid.gList.eq_2, Mid.gTuple.eq_1, Mid.gTuple.eq_2, Mid.gSum_l, Mid.gSum_t, Mid.gAll_rg,
    Mid.gAnyB_rg, Mid.gMin_t, Mid.gMin_l, Mid.gMax_t, Mid.gMax_l, Mid.gAnew.eq_1, Mid.isInt, Mid.isBool, Mid.isStr, Mid.isTup, Mid.isLst, Mid.isDct, Mid.opaqueD, Bool.not_true, Bool.not_false, Bool.and_true,
    Bool.and_false, Bool.true_and, Bool.false_and, Bool.or_true, Bool.or_false, Bool.true_or, Bool.false_or, Bool.and_self, Bool.or_self, bne_self_eq_false, decide_true, decide_false, if_true, if_false, ite_true,
    ite_false, reduceIte, reduceCtorEq, true_and, and_true, false_and, and_false, forall_const, true_implies, false_implies, implies_true, ne_eq, not_true_eq_false, not_false_eq_true, eq_self, Mid.g_pos, Int.toNat_natCast,
    Int.toNat_one, Int.toNat_zero, Nat.add_zero, Nat.zero_add, Int.zero_add, Int.add_zero, Nat.min_self, exists_eq_left, exists_eq_left', Bool.false_eq_true, Bool.true_eq_false, ↓reduceIte, Nat.reduceAdd,
    Nat.reduceSub, Nat.reduceEqDiff, Int.reduceToNat, Int.reduceLT, Int.reduceLE, Nat.reduceLeDiff, Nat.reduceLT, Int.reduceAdd, Int.reduceSub, Int.reduceMul, Int.reduceNeg, Nat.reduceBEq, Int.reduceEq, decide_not,
    List.contains, List.elem, beq_self_eq_true, Mid.castI_eq, Mid.castI_lt, Mid.castI_le, Mid.castI_nn, Mid.dSl_t_to, Mid.dSl_t_from, Mid.dSl_t_from1, Mid.dSl_tail, Mid.ix0, Mid.ix1, Mid.ix2, Mid.ix3, Mid.lix0,
    Mid.lix1, Mid.rg_snoc, Mid.rg_append, Mid.oW_none, Mid.oW_some, decide_eq_true_eq, decide_eq_false_iff_not, Bool.not_eq_true, Bool.not_eq_false, Mid.dEq_tup_nil, Mid.rg_take, Mid.rg_drop, List.length_append,
    List.map_append, Bool.not_eq_eq_eq_not, Bool.and_eq_true, Bool.or_eq_true, Mid.onW_some, Mid.onN_some, Mid.onI_int, Mid.onL_some, Mid.appQ, Mid.set1bQ, Mid.set1Q, Mid.wp_set1, Mid.set2cQ, Mid.set2bQ, Mid.set2Q,
    Mid.wp_set2, Mid.insbQ, Mid.insQ, Mid.wp_ins, Mid.popQ, Mid.wp_pop, Mid.ixN_in, Mid.rg_set, Mid.rg_erase, Mid.insAt_rg, Mid.rg_get, Mid.d_ite_int, Mid.d_ite_tup, Mid.d_ite_lst, Mid.unpU_some, Mid.unpQ_tup,
    Mid.fz_oW, Mid.noShr_oW, Mid.isNon_oW, Mid.brw_oW, Mid.seqD_t, Mid.seqD_l, Mid.gIdx_l, Mid.gIdx_t, Mid.ite_ret_int, Mid.ite_ret_bl, Mid.ite_ret_b, Mid.ite_ret_str, Mid.x_ite_tt, Mid.x_ite_ff, Mid.x_ite_tf,
    Mid.x_ite_ft, Mid.wp_ite, Mid.castI_0, Mid.castI_1, Mid.castI_2, Mid.castI_3, Mid.castI_4, Mid.castI_5, Mid.castI_6, Mid.castI_7, Mid.castI_8, Mid.castI_9, Mid.castI_10, Mid.castI_11, Mid.castI_12, Mid.dPow_10_9,
    Mid.dPow_10_12, Mid.dIn_two, Mid.dIn_non_oW, Mid.dNe_oW_self, Mid.fmod_nat, Mid.fmod_cast, Mid.dMul_lst1, Mid.onE_some, Mid.forQ_nil, Mid.fromQ_eq, Mid.wp_err, Mid.wp_tryK, Mid.tryQ_nx, Mid.tryQ_rt, Mid.tryQ_er,
    Mid.onEs_t, Mid.onEs_f, Mid.isE_non, Mid.atE_exc, Mid.isNon_exc, Mid.noShr_exc1, Mid.noShr_exc0, Mid.upX_nil, Mid.upX_cons, Mid.fz_exc, Mid.brw_exc, Mid.eRaise, Mid.sRaiseE, Mid.wp_raise, Mid.outQ, Mid.isE_exc,
    Mid.onT_lst, Mid.extQ, Mid.wp_ext, Mid.gLR_nat, Mid.gSrt_ord_t, Mid.gSrt_ord_l, Mid.dEq_lints, Mid.dNe_lints, Mid.compL_filt, Mid.filtR_ret, Mid.testC_eq, Mid.onB_some, Mid.cnt_true, Mid.sel_true, Mid.dNe_lints1,
    Mid.dEq_lints1, Mid.dNe_nil_int, Mid.dNe_nil_pair, Mid.cnt_ne, Mid.sel_ne, Mid.toNat_n1, Mid.dMul_lst1Z, Mid.dNotIn_two, Mid.noShrL_pairs, c_law_k05, Mid.lawE]
  with_reducible refine wp_two _ _ _ _ (by omega) (by omega) ?_
  intro t t0 t1
  have tl0 : t.toNat < sizeLine := by omega
  simp -implicitDefEqProofs (maxSteps := 1000000) (disch := (first | omega | assumption | decide | (intros; omega) | (simp only [List.length_cons, List.length_nil, Mid.rg_length]; omega) | (refine Mid.cnt_lt ?_; omega) | (refine Mid.selLT ?_ ?_ <;> first | assumption | omega | fail) | (refine Mid.selLTI ?_ ?_ <;> first | assumption | omega | fail) | fail)) only [Mid.wp_ret, Mid.wp_stuck, Mid.wp_bind, Mid.wp_seq, Mid.wp_nil, Mid.wp_asg, Mid.wp_expr, Mid.wp_rt, Mid.wp_if, Mid.wp_k, Mid.wp_par, Mid.wp_unp, Mid.wp_rtV, Mid.wp_rtN, Mid.wp_break, Mid.wp_cont, Mid.wp_raise,
    Mid.wp_forR, Mid.wp_forS, Mid.wp_app, Mid.wp_fn, Mid.seqQ_nx, Mid.seqQ_rt, Mid.seqQ_er, Mid.seqQ_bk, Mid.seqQ_ct, Mid.turnQ_nx, Mid.turnQ_ct, Mid.turnQ_bk, Mid.turnQ_rt, Mid.turnQ_er, Mid.errQ, Mid.asgQ,
    Mid.expQ, Mid.rtQ, Mid.ifQ, Mid.par2Q, Mid.parQ, Mid.rtvQ_eq, Mid.outQ, Mid.startE, Mid.run, Mid.fzE, Mid.frzE_A, Mid.frzA, Mid.upE, Mid.upX, Mid.noShr, Mid.noShrL, Mid.noShrL_rg, Mid.noShrL_ints, Mid.noShrL_bls,
    Mid.noShrL_rows, Mid.noShrL_lrows, Mid.ow_tf, Mid.ow_bf, Mid.ow_ff, Mid.brw_tup, Mid.brw_int, Mid.brw_bl, Mid.brw_str, Mid.brw_non, Mid.brw_lt, Mid.brw_lf, Mid.wipeE, Mid.ownAt, Mid.fz, Mid.fzL, Mid.fzL_rg,
    List.map_cons, List.map_nil, List.cons_append, List.nil_append, List.length_cons, List.length_nil, List.replicate, Option.map_some, Option.map_none, List.getElem?_cons_zero, List.getElem?_cons_succ, List.set_cons_zero,
    List.set_cons_succ, List.contains_cons, List.contains_nil, List.elem_eq_contains, List.isEmpty_nil, List.isEmpty_cons, Mid.eVar, Mid.eK, Mid.eBin, Mid.eUn, Mid.asB.eq_1, Mid.bOf, Mid.bAnd, Mid.bOr, Mid.bNot,
    Mid.eAnd, Mid.eOr, Mid.eNot, Mid.eIf, Mid.aNil, Mid.aCons, Mid.eCallB, Mid.eCall, Mid.gTup_ok, Mid.gLst_ok, Mid.eDct, Mid.oNone, Mid.oSome, Mid.asI.eq_1, Mid.eSl, Mid.eChain, Mid.eComp, Mid.iSeq, Mid.iOf,
    Mid.itemsOf.eq_1, Mid.itemsOf.eq_2, Mid.gRange1.eq_1, Mid.gRange2.eq_1, Mid.gEnum.eq_1, Mid.gZip.eq_1, Mid.gZip.eq_2, Mid.gEnumZip.eq_1, Mid.eIdx, Mid.bind_ret, Mid.try_ret, Mid.sure_ret, Mid.cAll, Mid.compL_rg,
    Mid.stepC_eq, Mid.onC_some, Mid.tName, Mid.tTup, Mid.tsCons, Mid.tsNil, Option.bind_some, Option.bind_none, Mid.mapR_ret, Mid.rg_length, Mid.rg_zero, Mid.numbered_rg, Mid.pairs_rg, Mid.rangeL_rg, Mid.ix_rg_t,
    Mid.ix_rg_l, Mid.dEq_int, Mid.dNe_int, Mid.dEq_str, Mid.dNe_str, Mid.dEq_bl, Mid.dNe_bl, Mid.dEq_web, Mid.dNe_web, Mid.dEq_row, Mid.dNe_row, Mid.dEq_web_non, Mid.dEq_non_web, Mid.dNe_web_non, Mid.dNe_non_web,
    Mid.dNe_non_non, Mid.dEq_non_non, Mid.dIs.eq_1, Mid.dIsNot.eq_1, Mid.isNon.eq_1, Mid.isNon_tup, Mid.isNon_int, Mid.isNon_lst, Mid.isNon_bl, Mid.isNon_str, Mid.dAdd.eq_1, Mid.dAdd.eq_2, Mid.dAdd.eq_3, Mid.dSub.eq_1,
    Mid.dMul_int, Mid.dMod_int, Mid.dCmp.eq_1, Mid.gLen.eq_1, Mid.gLen.eq_2, Mid.gInt.eq_1, Mid.gInt.eq_2, Mid.gList.eq_1, Mid.gList.eq_2, Mid.gTuple.eq_1, Mid.gTuple.eq_2, Mid.gSum_l, Mid.gSum_t, Mid.gAll_rg,
    Mid.gAnyB_rg, Mid.gMin_t, Mid.gMin_l, Mid.gMax_t, Mid.gMax_l, Mid.gAnew.eq_1, Mid.isInt, Mid.isBool, Mid.isStr, Mid.isTup, Mid.isLst, Mid.isDct, Mid.opaqueD, Bool.not_true, Bool.not_false, Bool.and_true,
    Bool.and_false, Bool.true_and, Bool.false_and, Bool.or_true, Bool.or_false, Bool.true_or, Bool.false_or, Bool.and_self, Bool.or_self, bne_self_eq_false, decide_true, decide_false, if_true, if_false, ite_true,
    ite_false, reduceIte, reduceCtorEq, true_and, and_true, false_and, and_false, forall_const, true_implies, false_implies, implies_true, ne_eq, not_true_eq_false, not_false_eq_true, eq_self, Mid.g_pos, Int.toNat_natCast,
    Int.toNat_one, Int.toNat_zero, Nat.add_zero, Nat.zero_add, Int.zero_add, Int.add_zero, Nat.min_self, exists_eq_left, exists_eq_left', Bool.false_eq_true, Bool.true_eq_false, ↓reduceIte, Nat.reduceAdd,
    Nat.reduceSub, Nat.reduceEqDiff, Int.reduceToNat, Int.reduceLT, Int.reduceLE, Nat.reduceLeDiff, Nat.reduceLT, Int.reduceAdd, Int.reduceSub, Int.reduceMul, Int.reduceNeg, Nat.reduceBEq, Int.reduceEq, decide_not,
    List.contains, List.elem, beq_self_eq_true, Mid.castI_eq, Mid.castI_lt, Mid.castI_le, Mid.castI_nn, Mid.dSl_t_to, Mid.dSl_t_from, Mid.dSl_t_from1, Mid.dSl_tail, Mid.ix0, Mid.ix1, Mid.ix2, Mid.ix3, Mid.lix0,
    Mid.lix1, Mid.rg_snoc, Mid.rg_append, Mid.oW_none, Mid.oW_some, decide_eq_true_eq, decide_eq_false_iff_not, Bool.not_eq_true, Bool.not_eq_false, Mid.dEq_tup_nil, Mid.rg_take, Mid.rg_drop, List.length_append,
    List.map_append, Bool.not_eq_eq_eq_not, Bool.and_eq_true, Bool.or_eq_true, Mid.onW_some, Mid.onN_some, Mid.onI_int, Mid.onL_some, Mid.appQ, Mid.set1bQ, Mid.set1Q, Mid.wp_set1, Mid.set2cQ, Mid.set2bQ, Mid.set2Q,
    Mid.wp_set2, Mid.insbQ, Mid.insQ, Mid.wp_ins, Mid.popQ, Mid.wp_pop, Mid.ixN_in, Mid.rg_set, Mid.rg_erase, Mid.insAt_rg, Mid.rg_get, Mid.d_ite_int, Mid.d_ite_tup, Mid.d_ite_lst, Mid.unpU_some, Mid.unpQ_tup,
    Mid.fz_oW, Mid.noShr_oW, Mid.isNon_oW, Mid.brw_oW, Mid.seqD_t, Mid.seqD_l, Mid.gIdx_l, Mid.gIdx_t, Mid.ite_ret_int, Mid.ite_ret_bl, Mid.ite_ret_b, Mid.ite_ret_str, Mid.x_ite_tt, Mid.x_ite_ff, Mid.x_ite_tf,
    Mid.x_ite_ft, Mid.wp_ite, Mid.castI_0, Mid.castI_1, Mid.castI_2, Mid.castI_3, Mid.castI_4, Mid.castI_5, Mid.castI_6, Mid.castI_7, Mid.castI_8, Mid.castI_9, Mid.castI_10, Mid.castI_11, Mid.castI_12, Mid.dPow_10_9,
    Mid.dPow_10_12, Mid.dIn_two, Mid.dIn_non_oW, Mid.dNe_oW_self, Mid.fmod_nat, Mid.fmod_cast, Mid.dMul_lst1, Mid.onE_some, Mid.forQ_nil, Mid.fromQ_eq, Mid.wp_err, Mid.wp_tryK, Mid.tryQ_nx, Mid.tryQ_rt, Mid.tryQ_er,
    Mid.onEs_t, Mid.onEs_f, Mid.isE_non, Mid.atE_exc, Mid.isNon_exc, Mid.noShr_exc1, Mid.noShr_exc0, Mid.upX_nil, Mid.upX_cons, Mid.fz_exc, Mid.brw_exc, Mid.eRaise, Mid.sRaiseE, Mid.wp_raise, Mid.outQ, Mid.isE_exc,
    Mid.onT_lst, Mid.extQ, Mid.wp_ext, Mid.gLR_nat, Mid.gSrt_ord_t, Mid.gSrt_ord_l, Mid.dEq_lints, Mid.dNe_lints, Mid.compL_filt, Mid.filtR_ret, Mid.testC_eq, Mid.onB_some, Mid.cnt_true, Mid.sel_true, Mid.dNe_lints1,
    Mid.dEq_lints1, Mid.dNe_nil_int, Mid.dNe_nil_pair, Mid.cnt_ne, Mid.sel_ne, Mid.toNat_n1, Mid.dMul_lst1Z, Mid.dNotIn_two, Mid.noShrL_pairs, tl0]
  refine mapR_wp (b := 1) (fun _ d => Lt1 d) (fun i m hi => ?_) fun f m hm hf => ?_
  · simp -implicitDefEqProofs (maxSteps := 1000000) (disch := (first | omega | assumption | decide | (intros; omega) | (simp only [List.length_cons, List.length_nil, Mid.rg_length]; omega) | (refine Mid.cnt_lt ?_; omega) | (refine Mid.selLT ?_ ?_ <;> first | assumption | omega | fail) | (refine Mid.selLTI ?_ ?_ <;> first | assumption | omega | fail) | fail)) only [Mid.wp_ret, Mid.wp_stuck, Mid.wp_bind, Mid.wp_seq, Mid.wp_nil, Mid.wp_asg, Mid.wp_expr, Mid.wp_rt, Mid.wp_if, Mid.wp_k, Mid.wp_par, Mid.wp_unp, Mid.wp_rtV, Mid.wp_rtN, Mid.wp_break, Mid.wp_cont, Mid.wp_raise,
    Mid.wp_forR, Mid.wp_forS, Mid.wp_app, Mid.wp_fn, Mid.seqQ_nx, Mid.seqQ_rt, Mid.seqQ_er, Mid.seqQ_bk, Mid.seqQ_ct, Mid.turnQ_nx, Mid.turnQ_ct, Mid.turnQ_bk, Mid.turnQ_rt, Mid.turnQ_er, Mid.errQ, Mid.asgQ,
    Mid.expQ, Mid.rtQ, Mid.ifQ, Mid.par2Q, Mid.parQ, Mid.rtvQ_eq, Mid.outQ, Mid.startE, Mid.run, Mid.fzE, Mid.frzE_A, Mid.frzA, Mid.upE, Mid.upX, Mid.noShr, Mid.noShrL, Mid.noShrL_rg, Mid.noShrL_ints, Mid.noShrL_bls,
    Mid.noShrL_rows, Mid.noShrL_lrows, Mid.ow_tf, Mid.ow_bf, Mid.ow_ff, Mid.brw_tup, Mid.brw_int, Mid.brw_bl, Mid.brw_str, Mid.brw_non, Mid.brw_lt, Mid.brw_lf, Mid.wipeE, Mid.ownAt, Mid.fz, Mid.fzL, Mid.fzL_rg,
    List.map_cons, List.map_nil, List.cons_append, List.nil_append, List.length_cons, List.length_nil, List.replicate, Option.map_some, Option.map_none, List.getElem?_cons_zero, List.getElem?_cons_succ, List.set_cons_zero,
    List.set_cons_succ, List.contains_cons, List.contains_nil, List.elem_eq_contains, List.isEmpty_nil, List.isEmpty_cons, Mid.eVar, Mid.eK, Mid.eBin, Mid.eUn, Mid.asB.eq_1, Mid.bOf, Mid.bAnd, Mid.bOr, Mid.bNot,
    Mid.eAnd, Mid.eOr, Mid.eNot, Mid.eIf, Mid.aNil, Mid.aCons, Mid.eCallB, Mid.eCall, Mid.gTup_ok, Mid.gLst_ok, Mid.eDct, Mid.oNone, Mid.oSome, Mid.asI.eq_1, Mid.eSl, Mid.eChain, Mid.eComp, Mid.iSeq, Mid.iOf,
    Mid.itemsOf.eq_1, Mid.itemsOf.eq_2, Mid.gRange1.eq_1, Mid.gRange2.eq_1, Mid.gEnum.eq_1, Mid.gZip.eq_1, Mid.gZip.eq_2, Mid.gEnumZip.eq_1, Mid.eIdx, Mid.bind_ret, Mid.try_ret, Mid.sure_ret, Mid.cAll, Mid.compL_rg,
    Mid.stepC_eq, Mid.onC_some, Mid.tName, Mid.tTup, Mid.tsCons, Mid.tsNil, Option.bind_some, Option.bind_none, Mid.mapR_ret, Mid.rg_length, Mid.rg_zero, Mid.numbered_rg, Mid.pairs_rg, Mid.rangeL_rg, Mid.ix_rg_t,
    Mid.ix_rg_l, Mid.dEq_int, Mid.dNe_int, Mid.dEq_str, Mid.dNe_str, Mid.dEq_bl, Mid.dNe_bl, Mid.dEq_web, Mid.dNe_web, Mid.dEq_row, Mid.dNe_row, Mid.dEq_web_non, Mid.dEq_non_web, Mid.dNe_web_non, Mid.dNe_non_web,
    Mid.dNe_non_non, Mid.dEq_non_non, Mid.dIs.eq_1, Mid.dIsNot.eq_1, Mid.isNon.eq_1, Mid.isNon_tup, Mid.isNon_int, Mid.isNon_lst, Mid.isNon_bl, Mid.isNon_str, Mid.dAdd.eq_1, Mid.dAdd.eq_2, Mid.dAdd.eq_3, Mid.dSub.eq_1,
    Mid.dMul_int, Mid.dMod_int, Mid.dCmp.eq_1, Mid.gLen.eq_1, Mid.gLen.eq_2, Mid.gInt.eq_1, Mid.gInt.eq_2, Mid.gList.eq_1, Mid.gList.eq_2, Mid.gTuple.eq_1, Mid.gTuple.eq_2, Mid.gSum_l, Mid.gSum_t, Mid.gAll_rg,
    Mid.gAnyB_rg, Mid.gMin_t, Mid.gMin_l, Mid.gMax_t, Mid.gMax_l, Mid.gAnew.eq_1, Mid.isInt, Mid.isBool, Mid.isStr, Mid.isTup, Mid.isLst, Mid.isDct, Mid.opaqueD, Bool.not_true, Bool.not_false, Bool.and_true,
    Bool.and_false, Bool.true_and, Bool.false_and, Bool.or_true, Bool.or_false, Bool.true_or, Bool.false_or, Bool.and_self, Bool.or_self, bne_self_eq_false, decide_true, decide_false, if_true, if_false, ite_true,
    ite_false, reduceIte, reduceCtorEq, true_and, and_true, false_and, and_false, forall_const, true_implies, false_implies, implies_true, ne_eq, not_true_eq_false, not_false_eq_true, eq_self, Mid.g_pos, Int.toNat_natCast,
    Int.toNat_one, Int.toNat_zero, Nat.add_zero, Nat.zero_add, Int.zero_add, Int.add_zero, Nat.min_self, exists_eq_left, exists_eq_left', Bool.false_eq_true, Bool.true_eq_false, ↓reduceIte, Nat.reduceAdd,
    Nat.reduceSub, Nat.reduceEqDiff, Int.reduceToNat, Int.reduceLT, Int.reduceLE, Nat.reduceLeDiff, Nat.reduceLT, Int.reduceAdd, Int.reduceSub, Int.reduceMul, Int.reduceNeg, Nat.reduceBEq, Int.reduceEq, decide_not,
    List.contains, List.elem, beq_self_eq_true, Mid.castI_eq, Mid.castI_lt, Mid.castI_le, Mid.castI_nn, Mid.dSl_t_to, Mid.dSl_t_from, Mid.dSl_t_from1, Mid.dSl_tail, Mid.ix0, Mid.ix1, Mid.ix2, Mid.ix3, Mid.lix0,
    Mid.lix1, Mid.rg_snoc, Mid.rg_append, Mid.oW_none, Mid.oW_some, decide_eq_true_eq, decide_eq_false_iff_not, Bool.not_eq_true, Bool.not_eq_false, Mid.dEq_tup_nil, Mid.rg_take, Mid.rg_drop, List.length_append,
    List.map_append, Bool.not_eq_eq_eq_not, Bool.and_eq_true, Bool.or_eq_true, Mid.onW_some, Mid.onN_some, Mid.onI_int, Mid.onL_some, Mid.appQ, Mid.set1bQ, Mid.set1Q, Mid.wp_set1, Mid.set2cQ, Mid.set2bQ, Mid.set2Q,
    Mid.wp_set2, Mid.insbQ, Mid.insQ, Mid.wp_ins, Mid.popQ, Mid.wp_pop, Mid.ixN_in, Mid.rg_set, Mid.rg_erase, Mid.insAt_rg, Mid.rg_get, Mid.d_ite_int, Mid.d_ite_tup, Mid.d_ite_lst, Mid.unpU_some, Mid.unpQ_tup,
    Mid.fz_oW, Mid.noShr_oW, Mid.isNon_oW, Mid.brw_oW, Mid.seqD_t, Mid.seqD_l, Mid.gIdx_l, Mid.gIdx_t, Mid.ite_ret_int, Mid.ite_ret_bl, Mid.ite_ret_b, Mid.ite_ret_str, Mid.x_ite_tt, Mid.x_ite_ff, Mid.x_ite_tf,
    Mid.x_ite_ft, Mid.wp_ite, Mid.castI_0, Mid.castI_1, Mid.castI_2, Mid.castI_3, Mid.castI_4, Mid.castI_5, Mid.castI_6, Mid.castI_7, Mid.castI_8, Mid.castI_9, Mid.castI_10, Mid.castI_11, Mid.castI_12, Mid.dPow_10_9,
    Mid.dPow_10_12, Mid.dIn_two, Mid.dIn_non_oW, Mid.dNe_oW_self, Mid.fmod_nat, Mid.fmod_cast, Mid.dMul_lst1, Mid.onE_some, Mid.forQ_nil, Mid.fromQ_eq, Mid.wp_err, Mid.wp_tryK, Mid.tryQ_nx, Mid.tryQ_rt, Mid.tryQ_er,
    Mid.onEs_t, Mid.onEs_f, Mid.isE_non, Mid.atE_exc, Mid.isNon_exc, Mid.noShr_exc1, Mid.noShr_exc0, Mid.upX_nil, Mid.upX_cons, Mid.fz_exc, Mid.brw_exc, Mid.eRaise, Mid.sRaiseE, Mid.wp_raise, Mid.outQ, Mid.isE_exc,
    Mid.onT_lst, Mid.extQ, Mid.wp_ext, Mid.gLR_nat, Mid.gSrt_ord_t, Mid.gSrt_ord_l, Mid.dEq_lints, Mid.dNe_lints, Mid.compL_filt, Mid.filtR_ret, Mid.testC_eq, Mid.onB_some, Mid.cnt_true, Mid.sel_true, Mid.dNe_lints1,
    Mid.dEq_lints1, Mid.dNe_nil_int, Mid.dNe_nil_pair, Mid.cnt_ne, Mid.sel_ne, Mid.toNat_n1, Mid.dMul_lst1Z, Mid.dNotIn_two, Mid.noShrL_pairs, hi]
    with_reducible refine wp_sure ?_
    with_reducible refine one_wp05 Lt1 (fun d h => lt1_fz h) (by simp) (by simp) (fun d hd => letter_of hd) ?_
    intro d hd
    exact ⟨Nat.le_refl _, hd⟩
  · have tl : t.toNat ≤ 8 := by omega
    with_reducible refine Exists.elim (join05 hf tl) ?_
    intro s hS
    have j := hS.1
    have ls := hS.2
    have xf : fzL (rg t.toNat f) = rg t.toNat f := fzL_of05 fun d hd => by
      obtain ⟨i, hi, rfl⟩ := mem_rg.mp hd
      exact lt1_fz (hf i hi)
    simp -implicitDefEqProofs (maxSteps := 1000000) (disch := (first | omega | assumption | decide | (intros; omega) | (simp only [List.length_cons, List.length_nil, Mid.rg_length]; omega) | (refine Mid.cnt_lt ?_; omega) | (refine Mid.selLT ?_ ?_ <;> first | assumption | omega | fail) | (refine Mid.selLTI ?_ ?_ <;> first | assumption | omega | fail) | fail)) only [Mid.wp_ret, Mid.wp_stuck, Mid.wp_bind, Mid.wp_seq, Mid.wp_nil, Mid.wp_asg, Mid.wp_expr, Mid.wp_rt, Mid.wp_if, Mid.wp_k, Mid.wp_par, Mid.wp_unp, Mid.wp_rtV, Mid.wp_rtN, Mid.wp_break, Mid.wp_cont, Mid.wp_raise,
    Mid.wp_forR, Mid.wp_forS, Mid.wp_app, Mid.wp_fn, Mid.seqQ_nx, Mid.seqQ_rt, Mid.seqQ_er, Mid.seqQ_bk, Mid.seqQ_ct, Mid.turnQ_nx, Mid.turnQ_ct, Mid.turnQ_bk, Mid.turnQ_rt, Mid.turnQ_er, Mid.errQ, Mid.asgQ,
    Mid.expQ, Mid.rtQ, Mid.ifQ, Mid.par2Q, Mid.parQ, Mid.rtvQ_eq, Mid.outQ, Mid.startE, Mid.run, Mid.fzE, Mid.frzE_A, Mid.frzA, Mid.upE, Mid.upX, Mid.noShr, Mid.noShrL, Mid.noShrL_rg, Mid.noShrL_ints, Mid.noShrL_bls,
    Mid.noShrL_rows, Mid.noShrL_lrows, Mid.ow_tf, Mid.ow_bf, Mid.ow_ff, Mid.brw_tup, Mid.brw_int, Mid.brw_bl, Mid.brw_str, Mid.brw_non, Mid.brw_lt, Mid.brw_lf, Mid.wipeE, Mid.ownAt, Mid.fz, Mid.fzL, List.map_cons,
    List.map_nil, List.cons_append, List.nil_append, List.length_cons, List.length_nil, List.replicate, Option.map_some, Option.map_none, List.getElem?_cons_zero, List.getElem?_cons_succ, List.set_cons_zero,
    List.set_cons_succ, List.contains_cons, List.contains_nil, List.elem_eq_contains, List.isEmpty_nil, List.isEmpty_cons, Mid.eVar, Mid.eK, Mid.eBin, Mid.eUn, Mid.asB.eq_1, Mid.bOf, Mid.bAnd, Mid.bOr, Mid.bNot,
    Mid.eAnd, Mid.eOr, Mid.eNot, Mid.eIf, Mid.aNil, Mid.aCons, Mid.eCallB, Mid.eCall, Mid.gTup_ok, Mid.gLst_ok, Mid.eDct, Mid.oNone, Mid.oSome, Mid.asI.eq_1, Mid.eSl, Mid.eChain, Mid.eComp, Mid.iSeq, Mid.iOf,
    Mid.itemsOf.eq_1, Mid.itemsOf.eq_2, Mid.gRange1.eq_1, Mid.gRange2.eq_1, Mid.gEnum.eq_1, Mid.gZip.eq_1, Mid.gZip.eq_2, Mid.gEnumZip.eq_1, Mid.eIdx, Mid.bind_ret, Mid.try_ret, Mid.sure_ret, Mid.cAll, Mid.compL_rg,
    Mid.stepC_eq, Mid.onC_some, Mid.tName, Mid.tTup, Mid.tsCons, Mid.tsNil, Option.bind_some, Option.bind_none, Mid.mapR_ret, Mid.rg_length, Mid.rg_zero, Mid.numbered_rg, Mid.pairs_rg, Mid.rangeL_rg, Mid.ix_rg_t,
    Mid.ix_rg_l, Mid.dEq_int, Mid.dNe_int, Mid.dEq_str, Mid.dNe_str, Mid.dEq_bl, Mid.dNe_bl, Mid.dEq_web, Mid.dNe_web, Mid.dEq_row, Mid.dNe_row, Mid.dEq_web_non, Mid.dEq_non_web, Mid.dNe_web_non, Mid.dNe_non_web,
    Mid.dNe_non_non, Mid.dEq_non_non, Mid.dIs.eq_1, Mid.dIsNot.eq_1, Mid.isNon.eq_1, Mid.isNon_tup, Mid.isNon_int, Mid.isNon_lst, Mid.isNon_bl, Mid.isNon_str, Mid.dAdd.eq_1, Mid.dAdd.eq_2, Mid.dAdd.eq_3, Mid.dSub.eq_1,
    Mid.dMul_int, Mid.dMod_int, Mid.dCmp.eq_1, Mid.gLen.eq_1, Mid.gLen.eq_2, Mid.gInt.eq_1, Mid.gInt.eq_2, Mid.gList.eq_1, Mid.gList.eq_2, Mid.gTuple.eq_1, Mid.gTuple.eq_2, Mid.gSum_l, Mid.gSum_t, Mid.gAll_rg,
    Mid.gAnyB_rg, Mid.gMin_t, Mid.gMin_l, Mid.gMax_t, Mid.gMax_l, Mid.gAnew.eq_1, Mid.isInt, Mid.isBool, Mid.isStr, Mid.isTup, Mid.isLst, Mid.isDct, Mid.opaqueD, Bool.not_true, Bool.not_false, Bool.and_true,
    Bool.and_false, Bool.true_and, Bool.false_and, Bool.or_true, Bool.or_false, Bool.true_or, Bool.false_or, Bool.and_self, Bool.or_self, bne_self_eq_false, decide_true, decide_false, if_true, if_false, ite_true,
    ite_false, reduceIte, reduceCtorEq, true_and, and_true, false_and, and_false, forall_const, true_implies, false_implies, implies_true, ne_eq, not_true_eq_false, not_false_eq_true, eq_self, Mid.g_pos, Int.toNat_natCast,
    Int.toNat_one, Int.toNat_zero, Nat.add_zero, Nat.zero_add, Int.zero_add, Int.add_zero, Nat.min_self, exists_eq_left, exists_eq_left', Bool.false_eq_true, Bool.true_eq_false, ↓reduceIte, Nat.reduceAdd,
    Nat.reduceSub, Nat.reduceEqDiff, Int.reduceToNat, Int.reduceLT, Int.reduceLE, Nat.reduceLeDiff, Nat.reduceLT, Int.reduceAdd, Int.reduceSub, Int.reduceMul, Int.reduceNeg, Nat.reduceBEq, Int.reduceEq, decide_not,
    List.contains, List.elem, beq_self_eq_true, Mid.castI_eq, Mid.castI_lt, Mid.castI_le, Mid.castI_nn, Mid.dSl_t_to, Mid.dSl_t_from, Mid.dSl_t_from1, Mid.dSl_tail, Mid.ix0, Mid.ix1, Mid.ix2, Mid.ix3, Mid.lix0,
    Mid.lix1, Mid.rg_snoc, Mid.rg_append, Mid.oW_none, Mid.oW_some, decide_eq_true_eq, decide_eq_false_iff_not, Bool.not_eq_true, Bool.not_eq_false, Mid.dEq_tup_nil, Mid.rg_take, Mid.rg_drop, List.length_append,
    List.map_append, Bool.not_eq_eq_eq_not, Bool.and_eq_true, Bool.or_eq_true, Mid.onW_some, Mid.onN_some, Mid.onI_int, Mid.onL_some, Mid.appQ, Mid.set1bQ, Mid.set1Q, Mid.wp_set1, Mid.set2cQ, Mid.set2bQ, Mid.set2Q,
    Mid.wp_set2, Mid.insbQ, Mid.insQ, Mid.wp_ins, Mid.popQ, Mid.wp_pop, Mid.ixN_in, Mid.rg_set, Mid.rg_erase, Mid.insAt_rg, Mid.rg_get, Mid.d_ite_int, Mid.d_ite_tup, Mid.d_ite_lst, Mid.unpU_some, Mid.unpQ_tup,
    Mid.fz_oW, Mid.noShr_oW, Mid.isNon_oW, Mid.brw_oW, Mid.seqD_t, Mid.seqD_l, Mid.gIdx_l, Mid.gIdx_t, Mid.ite_ret_int, Mid.ite_ret_bl, Mid.ite_ret_b, Mid.ite_ret_str, Mid.x_ite_tt, Mid.x_ite_ff, Mid.x_ite_tf,
    Mid.x_ite_ft, Mid.wp_ite, Mid.castI_0, Mid.castI_1, Mid.castI_2, Mid.castI_3, Mid.castI_4, Mid.castI_5, Mid.castI_6, Mid.castI_7, Mid.castI_8, Mid.castI_9, Mid.castI_10, Mid.castI_11, Mid.castI_12, Mid.dPow_10_9,
    Mid.dPow_10_12, Mid.dIn_two, Mid.dIn_non_oW, Mid.dNe_oW_self, Mid.fmod_nat, Mid.fmod_cast, Mid.dMul_lst1, Mid.onE_some, Mid.forQ_nil, Mid.fromQ_eq, Mid.wp_err, Mid.wp_tryK, Mid.tryQ_nx, Mid.tryQ_rt, Mid.tryQ_er,
    Mid.onEs_t, Mid.onEs_f, Mid.isE_non, Mid.atE_exc, Mid.isNon_exc, Mid.noShr_exc1, Mid.noShr_exc0, Mid.upX_nil, Mid.upX_cons, Mid.fz_exc, Mid.brw_exc, Mid.eRaise, Mid.sRaiseE, Mid.wp_raise, Mid.outQ, Mid.isE_exc,
    Mid.onT_lst, Mid.extQ, Mid.wp_ext, Mid.gLR_nat, Mid.gSrt_ord_t, Mid.gSrt_ord_l, Mid.dEq_lints, Mid.dNe_lints, Mid.compL_filt, Mid.filtR_ret, Mid.testC_eq, Mid.onB_some, Mid.cnt_true, Mid.sel_true, Mid.dNe_lints1,
    Mid.dEq_lints1, Mid.dNe_nil_int, Mid.dNe_nil_pair, Mid.cnt_ne, Mid.sel_ne, Mid.toNat_n1, Mid.dMul_lst1Z, Mid.dNotIn_two, Mid.noShrL_pairs, xf, j, Mid.eMk, Mid.eMkE]
    have os : Ok 100000000000000000000 (.str s) := lts_ok ls
    refine mapR_wp (b := 1) (fun _ d => Gd 100000000000000000000 1 1100 d) (fun i m hi => ?_) fun y m2 hm2 hy => ?_
    · simp -implicitDefEqProofs (maxSteps := 1000000) (disch := (first | omega | assumption | decide | (intros; omega) | (simp only [List.length_cons, List.length_nil, Mid.rg_length]; omega) | (refine Mid.cnt_lt ?_; omega) | (refine Mid.selLT ?_ ?_ <;> first | assumption | omega | fail) | (refine Mid.selLTI ?_ ?_ <;> first | assumption | omega | fail) | fail)) only [Mid.wp_ret, Mid.wp_stuck, Mid.wp_bind, Mid.wp_seq, Mid.wp_nil, Mid.wp_asg, Mid.wp_expr, Mid.wp_rt, Mid.wp_if, Mid.wp_k, Mid.wp_par, Mid.wp_unp, Mid.wp_rtV, Mid.wp_rtN, Mid.wp_break, Mid.wp_cont, Mid.wp_raise,
    Mid.wp_forR, Mid.wp_forS, Mid.wp_app, Mid.wp_fn, Mid.seqQ_nx, Mid.seqQ_rt, Mid.seqQ_er, Mid.seqQ_bk, Mid.seqQ_ct, Mid.turnQ_nx, Mid.turnQ_ct, Mid.turnQ_bk, Mid.turnQ_rt, Mid.turnQ_er, Mid.errQ, Mid.asgQ,
    Mid.expQ, Mid.rtQ, Mid.ifQ, Mid.par2Q, Mid.parQ, Mid.rtvQ_eq, Mid.outQ, Mid.startE, Mid.run, Mid.fzE, Mid.frzE_A, Mid.frzA, Mid.upE, Mid.upX, Mid.noShr, Mid.noShrL, Mid.noShrL_rg, Mid.noShrL_ints, Mid.noShrL_bls,
    Mid.noShrL_rows, Mid.noShrL_lrows, Mid.ow_tf, Mid.ow_bf, Mid.ow_ff, Mid.brw_tup, Mid.brw_int, Mid.brw_bl, Mid.brw_str, Mid.brw_non, Mid.brw_lt, Mid.brw_lf, Mid.wipeE, Mid.ownAt, Mid.fz, Mid.fzL, Mid.fzL_rg,
    List.map_cons, List.map_nil, List.cons_append, List.nil_append, List.length_cons, List.length_nil, List.replicate, Option.map_some, Option.map_none, List.getElem?_cons_zero, List.getElem?_cons_succ, List.set_cons_zero,
    List.set_cons_succ, List.contains_cons, List.contains_nil, List.elem_eq_contains, List.isEmpty_nil, List.isEmpty_cons, Mid.eVar, Mid.eK, Mid.eBin, Mid.eUn, Mid.asB.eq_1, Mid.bOf, Mid.bAnd, Mid.bOr, Mid.bNot,
    Mid.eAnd, Mid.eOr, Mid.eNot, Mid.eIf, Mid.aNil, Mid.aCons, Mid.eCallB, Mid.eCall, Mid.gTup_ok, Mid.gLst_ok, Mid.eDct, Mid.oNone, Mid.oSome, Mid.asI.eq_1, Mid.eSl, Mid.eChain, Mid.eComp, Mid.iSeq, Mid.iOf,
    Mid.itemsOf.eq_1, Mid.itemsOf.eq_2, Mid.gRange1.eq_1, Mid.gRange2.eq_1, Mid.gEnum.eq_1, Mid.gZip.eq_1, Mid.gZip.eq_2, Mid.gEnumZip.eq_1, Mid.eIdx, Mid.bind_ret, Mid.try_ret, Mid.sure_ret, Mid.cAll, Mid.compL_rg,
    Mid.stepC_eq, Mid.onC_some, Mid.tName, Mid.tTup, Mid.tsCons, Mid.tsNil, Option.bind_some, Option.bind_none, Mid.mapR_ret, Mid.rg_length, Mid.rg_zero, Mid.numbered_rg, Mid.pairs_rg, Mid.rangeL_rg, Mid.ix_rg_t,
    Mid.ix_rg_l, Mid.dEq_int, Mid.dNe_int, Mid.dEq_str, Mid.dNe_str, Mid.dEq_bl, Mid.dNe_bl, Mid.dEq_web, Mid.dNe_web, Mid.dEq_row, Mid.dNe_row, Mid.dEq_web_non, Mid.dEq_non_web, Mid.dNe_web_non, Mid.dNe_non_web,
    Mid.dNe_non_non, Mid.dEq_non_non, Mid.dIs.eq_1, Mid.dIsNot.eq_1, Mid.isNon.eq_1, Mid.isNon_tup, Mid.isNon_int, Mid.isNon_lst, Mid.isNon_bl, Mid.isNon_str, Mid.dAdd.eq_1, Mid.dAdd.eq_2, Mid.dAdd.eq_3, Mid.dSub.eq_1,
    Mid.dMul_int, Mid.dMod_int, Mid.dCmp.eq_1, Mid.gLen.eq_1, Mid.gLen.eq_2, Mid.gInt.eq_1, Mid.gInt.eq_2, Mid.gList.eq_1, Mid.gList.eq_2, Mid.gTuple.eq_1, Mid.gTuple.eq_2, Mid.gSum_l, Mid.gSum_t, Mid.gAll_rg,
    Mid.gAnyB_rg, Mid.gMin_t, Mid.gMin_l, Mid.gMax_t, Mid.gMax_l, Mid.gAnew.eq_1, Mid.isInt, Mid.isBool, Mid.isStr, Mid.isTup, Mid.isLst, Mid.isDct, Mid.opaqueD, Bool.not_true, Bool.not_false, Bool.and_true,
    Bool.and_false, Bool.true_and, Bool.false_and, Bool.or_true, Bool.or_false, Bool.true_or, Bool.false_or, Bool.and_self, Bool.or_self, bne_self_eq_false, decide_true, decide_false, if_true, if_false, ite_true,
    ite_false, reduceIte, reduceCtorEq, true_and, and_true, false_and, and_false, forall_const, true_implies, false_implies, implies_true, ne_eq, not_true_eq_false, not_false_eq_true, eq_self, Mid.g_pos, Int.toNat_natCast,
    Int.toNat_one, Int.toNat_zero, Nat.add_zero, Nat.zero_add, Int.zero_add, Int.add_zero, Nat.min_self, exists_eq_left, exists_eq_left', Bool.false_eq_true, Bool.true_eq_false, ↓reduceIte, Nat.reduceAdd,
    Nat.reduceSub, Nat.reduceEqDiff, Int.reduceToNat, Int.reduceLT, Int.reduceLE, Nat.reduceLeDiff, Nat.reduceLT, Int.reduceAdd, Int.reduceSub, Int.reduceMul, Int.reduceNeg, Nat.reduceBEq, Int.reduceEq, decide_not,
    List.contains, List.elem, beq_self_eq_true, Mid.castI_eq, Mid.castI_lt, Mid.castI_le, Mid.castI_nn, Mid.dSl_t_to, Mid.dSl_t_from, Mid.dSl_t_from1, Mid.dSl_tail, Mid.ix0, Mid.ix1, Mid.ix2, Mid.ix3, Mid.lix0,
    Mid.lix1, Mid.rg_snoc, Mid.rg_append, Mid.oW_none, Mid.oW_some, decide_eq_true_eq, decide_eq_false_iff_not, Bool.not_eq_true, Bool.not_eq_false, Mid.dEq_tup_nil, Mid.rg_take, Mid.rg_drop, List.length_append,
    List.map_append, Bool.not_eq_eq_eq_not, Bool.and_eq_true, Bool.or_eq_true, Mid.onW_some, Mid.onN_some, Mid.onI_int, Mid.onL_some, Mid.appQ, Mid.set1bQ, Mid.set1Q, Mid.wp_set1, Mid.set2cQ, Mid.set2bQ, Mid.set2Q,
    Mid.wp_set2, Mid.insbQ, Mid.insQ, Mid.wp_ins, Mid.popQ, Mid.wp_pop, Mid.ixN_in, Mid.rg_set, Mid.rg_erase, Mid.insAt_rg, Mid.rg_get, Mid.d_ite_int, Mid.d_ite_tup, Mid.d_ite_lst, Mid.unpU_some, Mid.unpQ_tup,
    Mid.fz_oW, Mid.noShr_oW, Mid.isNon_oW, Mid.brw_oW, Mid.seqD_t, Mid.seqD_l, Mid.gIdx_l, Mid.gIdx_t, Mid.ite_ret_int, Mid.ite_ret_bl, Mid.ite_ret_b, Mid.ite_ret_str, Mid.x_ite_tt, Mid.x_ite_ff, Mid.x_ite_tf,
    Mid.x_ite_ft, Mid.wp_ite, Mid.castI_0, Mid.castI_1, Mid.castI_2, Mid.castI_3, Mid.castI_4, Mid.castI_5, Mid.castI_6, Mid.castI_7, Mid.castI_8, Mid.castI_9, Mid.castI_10, Mid.castI_11, Mid.castI_12, Mid.dPow_10_9,
    Mid.dPow_10_12, Mid.dIn_two, Mid.dIn_non_oW, Mid.dNe_oW_self, Mid.fmod_nat, Mid.fmod_cast, Mid.dMul_lst1, Mid.onE_some, Mid.forQ_nil, Mid.fromQ_eq, Mid.wp_err, Mid.wp_tryK, Mid.tryQ_nx, Mid.tryQ_rt, Mid.tryQ_er,
    Mid.onEs_t, Mid.onEs_f, Mid.isE_non, Mid.atE_exc, Mid.isNon_exc, Mid.noShr_exc1, Mid.noShr_exc0, Mid.upX_nil, Mid.upX_cons, Mid.fz_exc, Mid.brw_exc, Mid.eRaise, Mid.sRaiseE, Mid.wp_raise, Mid.outQ, Mid.isE_exc,
    Mid.onT_lst, Mid.extQ, Mid.wp_ext, Mid.gLR_nat, Mid.gSrt_ord_t, Mid.gSrt_ord_l, Mid.dEq_lints, Mid.dNe_lints, Mid.compL_filt, Mid.filtR_ret, Mid.testC_eq, Mid.onB_some, Mid.cnt_true, Mid.sel_true, Mid.dNe_lints1,
    Mid.dEq_lints1, Mid.dNe_nil_int, Mid.dNe_nil_pair, Mid.cnt_ne, Mid.sel_ne, Mid.toNat_n1, Mid.dMul_lst1Z, Mid.dNotIn_two, Mid.noShrL_pairs, hi, dPowG]
      with_reducible refine wp_sure ?_
      with_reducible refine one_wp05 (fun d => Gd 100000000000000000000 1 1100 d) (fun d h => h.fz) (by simp) (by simp) (fun d hd => ?_) ?_
      · rcases List.mem_cons.mp hd with rfl | hd
        · exact gd_at os rfl rfl (by omega)
        rcases List.mem_cons.mp hd with rfl | hd
        · exact gd_at .non rfl rfl (by omega)
        rcases List.mem_cons.mp hd with rfl | hd
        · exact gd_at (.int _ (by decide)) rfl rfl (by omega)
        rcases List.mem_cons.mp hd with rfl | hd
        · exact gd_at (.str _ (by decide +kernel) (by decide +kernel)) rfl rfl (by omega)
        rcases List.mem_cons.mp hd with rfl | hd
        · exact gd_tupL (k := 0) (c := 501) 1 (by simp) (fun x hx => by rw [List.mem_singleton.mp hx]; exact gd_at (.str _ (by decide +kernel) (by decide +kernel)) rfl rfl (by omega)) (by omega)
        rcases List.mem_cons.mp hd with rfl | hd
        · exact gd_lstL (k := 0) (c := 501) 1 (by simp) (fun x hx => by rw [List.mem_singleton.mp hx]; exact gd_at (.int _ (by decide)) rfl rfl (by omega)) (by omega)
        rcases List.mem_cons.mp hd with rfl | hd
        · exact gd_at (.bl _) rfl rfl (by omega)
        rw [List.mem_singleton.mp hd]
        exact gd_at (.int _ (by decide +kernel)) rfl rfl (by omega)
      · intro d hd
        exact ⟨Nat.le_refl _, hd⟩
    · have y0 := (hy 0 (by omega)).fz
      have y1 := (hy 1 (by omega)).fz
      have y2 := (hy 2 (by omega)).fz
      have y3 := (hy 3 (by omega)).fz
      have y4 := (hy 4 (by omega)).fz
      have xy : fzL (rg 5 y) = rg 5 y := fzL_of05 fun d hd => by
        obtain ⟨i, hi, rfl⟩ := mem_rg.mp hd
        exact (hy i hi).fz
      cases ns : noShrL (rg 5 y)
      all_goals simp -implicitDefEqProofs (maxSteps := 1000000) (disch := (first | omega | assumption | decide | (intros; omega) | (simp only [List.length_cons, List.length_nil, Mid.rg_length]; omega) | (refine Mid.cnt_lt ?_; omega) | (refine Mid.selLT ?_ ?_ <;> first | assumption | omega | fail) | (refine Mid.selLTI ?_ ?_ <;> first | assumption | omega | fail) | fail)) only [Mid.wp_ret, Mid.wp_stuck, Mid.wp_bind, Mid.wp_seq, Mid.wp_nil, Mid.wp_asg, Mid.wp_expr, Mid.wp_rt, Mid.wp_if, Mid.wp_k, Mid.wp_par, Mid.wp_unp, Mid.wp_rtV, Mid.wp_rtN, Mid.wp_break, Mid.wp_cont, Mid.wp_raise,
    Mid.wp_forR, Mid.wp_forS, Mid.wp_app, Mid.wp_fn, Mid.seqQ_nx, Mid.seqQ_rt, Mid.seqQ_er, Mid.seqQ_bk, Mid.seqQ_ct, Mid.turnQ_nx, Mid.turnQ_ct, Mid.turnQ_bk, Mid.turnQ_rt, Mid.turnQ_er, Mid.errQ, Mid.asgQ,
    Mid.expQ, Mid.rtQ, Mid.ifQ, Mid.par2Q, Mid.parQ, Mid.rtvQ_eq, Mid.outQ, Mid.startE, Mid.run, Mid.fzE, Mid.frzE_A, Mid.frzA, Mid.upE, Mid.upX, Mid.noShr, Mid.noShrL, Mid.noShrL_rg, Mid.noShrL_ints, Mid.noShrL_bls,
    Mid.noShrL_rows, Mid.noShrL_lrows, Mid.ow_tf, Mid.ow_bf, Mid.ow_ff, Mid.brw_tup, Mid.brw_int, Mid.brw_bl, Mid.brw_str, Mid.brw_non, Mid.brw_lt, Mid.brw_lf, Mid.wipeE, Mid.ownAt, Mid.fz, Mid.fzL, List.map_cons,
    List.map_nil, List.cons_append, List.nil_append, List.length_cons, List.length_nil, List.replicate, Option.map_some, Option.map_none, List.getElem?_cons_zero, List.getElem?_cons_succ, List.set_cons_zero,
    List.set_cons_succ, List.contains_cons, List.contains_nil, List.elem_eq_contains, List.isEmpty_nil, List.isEmpty_cons, Mid.eVar, Mid.eK, Mid.eBin, Mid.eUn, Mid.asB.eq_1, Mid.bOf, Mid.bAnd, Mid.bOr, Mid.bNot,
    Mid.eAnd, Mid.eOr, Mid.eNot, Mid.eIf, Mid.aNil, Mid.aCons, Mid.eCallB, Mid.eCall, Mid.gTup_ok, Mid.gLst_ok, Mid.eDct, Mid.oNone, Mid.oSome, Mid.asI.eq_1, Mid.eSl, Mid.eChain, Mid.eComp, Mid.iSeq, Mid.iOf,
    Mid.itemsOf.eq_1, Mid.itemsOf.eq_2, Mid.gRange1.eq_1, Mid.gRange2.eq_1, Mid.gEnum.eq_1, Mid.gZip.eq_1, Mid.gZip.eq_2, Mid.gEnumZip.eq_1, Mid.eIdx, Mid.bind_ret, Mid.try_ret, Mid.sure_ret, Mid.cAll, Mid.compL_rg,
    Mid.stepC_eq, Mid.onC_some, Mid.tName, Mid.tTup, Mid.tsCons, Mid.tsNil, Option.bind_some, Option.bind_none, Mid.mapR_ret, Mid.rg_length, Mid.rg_zero, Mid.numbered_rg, Mid.pairs_rg, Mid.rangeL_rg, Mid.ix_rg_t,
    Mid.ix_rg_l, Mid.dEq_int, Mid.dNe_int, Mid.dEq_str, Mid.dNe_str, Mid.dEq_bl, Mid.dNe_bl, Mid.dEq_web, Mid.dNe_web, Mid.dEq_row, Mid.dNe_row, Mid.dEq_web_non, Mid.dEq_non_web, Mid.dNe_web_non, Mid.dNe_non_web,
    Mid.dNe_non_non, Mid.dEq_non_non, Mid.dIs.eq_1, Mid.dIsNot.eq_1, Mid.isNon.eq_1, Mid.isNon_tup, Mid.isNon_int, Mid.isNon_lst, Mid.isNon_bl, Mid.isNon_str, Mid.dAdd.eq_1, Mid.dAdd.eq_2, Mid.dAdd.eq_3, Mid.dSub.eq_1,
    Mid.dMul_int, Mid.dMod_int, Mid.dCmp.eq_1, Mid.gLen.eq_1, Mid.gLen.eq_2, Mid.gInt.eq_1, Mid.gInt.eq_2, Mid.gList.eq_1, Mid.gList.eq_2, Mid.gTuple.eq_1, Mid.gTuple.eq_2, Mid.gSum_l, Mid.gSum_t, Mid.gAll_rg,
    Mid.gAnyB_rg, Mid.gMin_t, Mid.gMin_l, Mid.gMax_t, Mid.gMax_l, Mid.gAnew.eq_1, Mid.isInt, Mid.isBool, Mid.isStr, Mid.isTup, Mid.isLst, Mid.isDct, Mid.opaqueD, Bool.not_true, Bool.not_false, Bool.and_true,
    Bool.and_false, Bool.true_and, Bool.false_and, Bool.or_true, Bool.or_false, Bool.true_or, Bool.false_or, Bool.and_self, Bool.or_self, bne_self_eq_false, decide_true, decide_false, if_true, if_false, ite_true,
    ite_false, reduceIte, reduceCtorEq, true_and, and_true, false_and, and_false, forall_const, true_implies, false_implies, implies_true, ne_eq, not_true_eq_false, not_false_eq_true, eq_self, Mid.g_pos, Int.toNat_natCast,
    Int.toNat_one, Int.toNat_zero, Nat.add_zero, Nat.zero_add, Int.zero_add, Int.add_zero, Nat.min_self, exists_eq_left, exists_eq_left', Bool.false_eq_true, Bool.true_eq_false, ↓reduceIte, Nat.reduceAdd,
    Nat.reduceSub, Nat.reduceEqDiff, Int.reduceToNat, Int.reduceLT, Int.reduceLE, Nat.reduceLeDiff, Nat.reduceLT, Int.reduceAdd, Int.reduceSub, Int.reduceMul, Int.reduceNeg, Nat.reduceBEq, Int.reduceEq, decide_not,
    List.contains, List.elem, beq_self_eq_true, Mid.castI_eq, Mid.castI_lt, Mid.castI_le, Mid.castI_nn, Mid.dSl_t_to, Mid.dSl_t_from, Mid.dSl_t_from1, Mid.dSl_tail, Mid.ix0, Mid.ix1, Mid.ix2, Mid.ix3, Mid.lix0,
    Mid.lix1, Mid.rg_snoc, Mid.rg_append, Mid.oW_none, Mid.oW_some, decide_eq_true_eq, decide_eq_false_iff_not, Bool.not_eq_true, Bool.not_eq_false, Mid.dEq_tup_nil, Mid.rg_take, Mid.rg_drop, List.length_append,
    List.map_append, Bool.not_eq_eq_eq_not, Bool.and_eq_true, Bool.or_eq_true, Mid.onW_some, Mid.onN_some, Mid.onI_int, Mid.onL_some, Mid.appQ, Mid.set1bQ, Mid.set1Q, Mid.wp_set1, Mid.set2cQ, Mid.set2bQ, Mid.set2Q,
    Mid.wp_set2, Mid.insbQ, Mid.insQ, Mid.wp_ins, Mid.popQ, Mid.wp_pop, Mid.ixN_in, Mid.rg_set, Mid.rg_erase, Mid.insAt_rg, Mid.rg_get, Mid.d_ite_int, Mid.d_ite_tup, Mid.d_ite_lst, Mid.unpU_some, Mid.unpQ_tup,
    Mid.fz_oW, Mid.noShr_oW, Mid.isNon_oW, Mid.brw_oW, Mid.seqD_t, Mid.seqD_l, Mid.gIdx_l, Mid.gIdx_t, Mid.ite_ret_int, Mid.ite_ret_bl, Mid.ite_ret_b, Mid.ite_ret_str, Mid.x_ite_tt, Mid.x_ite_ff, Mid.x_ite_tf,
    Mid.x_ite_ft, Mid.wp_ite, Mid.castI_0, Mid.castI_1, Mid.castI_2, Mid.castI_3, Mid.castI_4, Mid.castI_5, Mid.castI_6, Mid.castI_7, Mid.castI_8, Mid.castI_9, Mid.castI_10, Mid.castI_11, Mid.castI_12, Mid.dPow_10_9,
    Mid.dPow_10_12, Mid.dIn_two, Mid.dIn_non_oW, Mid.dNe_oW_self, Mid.fmod_nat, Mid.fmod_cast, Mid.dMul_lst1, Mid.onE_some, Mid.forQ_nil, Mid.fromQ_eq, Mid.wp_err, Mid.wp_tryK, Mid.tryQ_nx, Mid.tryQ_rt, Mid.tryQ_er,
    Mid.onEs_t, Mid.onEs_f, Mid.isE_non, Mid.atE_exc, Mid.isNon_exc, Mid.noShr_exc1, Mid.noShr_exc0, Mid.upX_nil, Mid.upX_cons, Mid.fz_exc, Mid.brw_exc, Mid.eRaise, Mid.sRaiseE, Mid.wp_raise, Mid.outQ, Mid.isE_exc,
    Mid.onT_lst, Mid.extQ, Mid.wp_ext, Mid.gLR_nat, Mid.gSrt_ord_t, Mid.gSrt_ord_l, Mid.dEq_lints, Mid.dNe_lints, Mid.compL_filt, Mid.filtR_ret, Mid.testC_eq, Mid.onB_some, Mid.cnt_true, Mid.sel_true, Mid.dNe_lints1,
    Mid.dEq_lints1, Mid.dNe_nil_int, Mid.dNe_nil_pair, Mid.cnt_ne, Mid.sel_ne, Mid.toNat_n1, Mid.dMul_lst1Z, Mid.dNotIn_two, Mid.noShrL_pairs, xy, y0, y1, y2, y3, y4, Mid.eMk, Mid.eMkE, ns]
      all_goals
        with_reducible refine forQ_memd 0 P5 (fun d hd => ?_) (fun d m6 gd => ?_) fun m6 hm6 => ?_
        · rcases List.mem_cons.mp hd with rfl | hd
          · exact ⟨0, _, _, by omega, rfl, kinds_NoWeb _, road_NoWeb _⟩
          rcases List.mem_cons.mp hd with rfl | hd
          · exact ⟨1, _, _, by omega, rfl, kinds_NoPlace _, road_NoPlace _⟩
          rcases List.mem_cons.mp hd with rfl | hd
          · exact ⟨2, _, _, by omega, rfl, kinds_NoOrder _, road_NoOrder _⟩
          rcases List.mem_cons.mp hd with rfl | hd
          · exact ⟨3, _, _, by omega, rfl, kinds_NoRound _, road_NoRound _⟩
          rcases List.mem_cons.mp hd with rfl | hd
          · exact ⟨4, _, _, by omega, rfl, kinds_NoNumber _, road_NoNumber _⟩
          rcases List.mem_cons.mp hd with rfl | hd
          · exact ⟨5, _, _, by omega, rfl, kinds_NoWorth _, road_NoWorth _⟩
          rcases List.mem_cons.mp hd with rfl | hd
          · exact ⟨6, _, _, by omega, rfl, kinds_NoNumbers _, road_NoNumbers _⟩
          rcases List.mem_cons.mp hd with rfl | hd
          · exact ⟨7, _, _, by omega, rfl, kinds_NotRich _, road_NotRich _⟩
          rcases List.mem_cons.mp hd with rfl | hd
          · exact ⟨8, _, _, by omega, rfl, kinds_NotFull _, road_NotFull _⟩
          rcases List.mem_cons.mp hd with rfl | hd
          · exact ⟨9, _, _, by omega, rfl, kinds_NotLevel _, road_NotLevel _⟩
          rcases List.mem_cons.mp hd with rfl | hd
          · exact ⟨10, _, _, by omega, rfl, kinds_NoPaper _, road_NoPaper _⟩
          rcases List.mem_cons.mp hd with rfl | hd
          · exact ⟨11, _, _, by omega, rfl, kinds_Nothing _, road_Nothing _⟩
          rcases List.mem_cons.mp hd with rfl | hd
          · exact ⟨12, _, _, by omega, rfl, kinds_TooMany _, road_TooMany _⟩
          rcases List.mem_cons.mp hd with rfl | hd
          · exact ⟨13, _, _, by omega, rfl, kinds_TooLong _, road_TooLong _⟩
          rcases List.mem_cons.mp hd with rfl | hd
          · exact ⟨14, _, _, by omega, rfl, kinds_TooGreat _, road_TooGreat _⟩
          rcases List.mem_cons.mp hd with rfl | hd
          · exact ⟨15, _, _, by omega, rfl, kinds_NoDeed _, road_NoDeed _⟩
          rcases List.mem_cons.mp hd with rfl | hd
          · exact ⟨16, _, _, by omega, rfl, kinds_NoName _, road_NoName _⟩
          rcases List.mem_cons.mp hd with rfl | hd
          · exact ⟨17, _, _, by omega, rfl, kinds_Standing _, road_Standing _⟩
          rcases List.mem_cons.mp hd with rfl | hd
          · exact ⟨18, _, _, by omega, rfl, kinds_Full _, road_Full _⟩
          rw [List.mem_singleton.mp hd]
          exact ⟨19, _, _, by omega, rfl, kinds_NoMark _, road_NoMark _⟩
        · with_reducible refine Exists.elim (p5_ex gd) ?_
          intro k hk
          with_reducible refine Exists.elim hk ?_
          intro c hc
          with_reducible refine Exists.elim hc ?_
          intro x hx
          have k20 := hx.1
          have ed := hx.2.1
          have kk := hx.2.2.1
          have kr := hx.2.2.2
          subst ed
          clear hx hc hk gd
          refine ⟨_, rfl, ?_⟩
          have ne := dNe05 k
          simp -implicitDefEqProofs (maxSteps := 1000000) (disch := (first | omega | assumption | decide | (intros; omega) | (simp only [List.length_cons, List.length_nil, Mid.rg_length]; omega) | (refine Mid.cnt_lt ?_; omega) | (refine Mid.selLT ?_ ?_ <;> first | assumption | omega | fail) | (refine Mid.selLTI ?_ ?_ <;> first | assumption | omega | fail) | fail)) only [Mid.wp_ret, Mid.wp_stuck, Mid.wp_bind, Mid.wp_seq, Mid.wp_nil, Mid.wp_asg, Mid.wp_expr, Mid.wp_rt, Mid.wp_if, Mid.wp_k, Mid.wp_par, Mid.wp_unp, Mid.wp_rtV, Mid.wp_rtN, Mid.wp_break, Mid.wp_cont, Mid.wp_raise,
    Mid.wp_forR, Mid.wp_forS, Mid.wp_app, Mid.wp_fn, Mid.seqQ_nx, Mid.seqQ_rt, Mid.seqQ_er, Mid.seqQ_bk, Mid.seqQ_ct, Mid.turnQ_nx, Mid.turnQ_ct, Mid.turnQ_bk, Mid.turnQ_rt, Mid.turnQ_er, Mid.errQ, Mid.asgQ,
    Mid.expQ, Mid.rtQ, Mid.ifQ, Mid.par2Q, Mid.parQ, Mid.rtvQ_eq, Mid.outQ, Mid.startE, Mid.run, Mid.fzE, Mid.frzE_A, Mid.frzA, Mid.upE, Mid.upX, Mid.noShr, Mid.noShrL, Mid.noShrL_rg, Mid.noShrL_ints, Mid.noShrL_bls,
    Mid.noShrL_rows, Mid.noShrL_lrows, Mid.ow_tf, Mid.ow_bf, Mid.ow_ff, Mid.brw_tup, Mid.brw_int, Mid.brw_bl, Mid.brw_str, Mid.brw_non, Mid.brw_lt, Mid.brw_lf, Mid.wipeE, Mid.ownAt, Mid.fz, Mid.fzL, Mid.fzL_rg,
    List.map_cons, List.map_nil, List.cons_append, List.nil_append, List.length_cons, List.length_nil, List.replicate, Option.map_some, Option.map_none, List.getElem?_cons_zero, List.getElem?_cons_succ, List.set_cons_zero,
    List.set_cons_succ, List.contains_cons, List.contains_nil, List.elem_eq_contains, List.isEmpty_nil, List.isEmpty_cons, Mid.eVar, Mid.eK, Mid.eBin, Mid.eUn, Mid.asB.eq_1, Mid.bOf, Mid.bAnd, Mid.bOr, Mid.bNot,
    Mid.eAnd, Mid.eOr, Mid.eNot, Mid.eIf, Mid.aNil, Mid.aCons, Mid.eCallB, Mid.eCall, Mid.gTup_ok, Mid.gLst_ok, Mid.eDct, Mid.oNone, Mid.oSome, Mid.asI.eq_1, Mid.eSl, Mid.eChain, Mid.eComp, Mid.iSeq, Mid.iOf,
    Mid.itemsOf.eq_1, Mid.itemsOf.eq_2, Mid.gRange1.eq_1, Mid.gRange2.eq_1, Mid.gEnum.eq_1, Mid.gZip.eq_1, Mid.gZip.eq_2, Mid.gEnumZip.eq_1, Mid.eIdx, Mid.bind_ret, Mid.try_ret, Mid.sure_ret, Mid.cAll, Mid.compL_rg,
    Mid.stepC_eq, Mid.onC_some, Mid.tName, Mid.tTup, Mid.tsCons, Mid.tsNil, Option.bind_some, Option.bind_none, Mid.mapR_ret, Mid.rg_length, Mid.rg_zero, Mid.numbered_rg, Mid.pairs_rg, Mid.rangeL_rg, Mid.ix_rg_t,
    Mid.ix_rg_l, Mid.dEq_int, Mid.dNe_int, Mid.dEq_str, Mid.dNe_str, Mid.dEq_bl, Mid.dNe_bl, Mid.dEq_web, Mid.dNe_web, Mid.dEq_row, Mid.dNe_row, Mid.dEq_web_non, Mid.dEq_non_web, Mid.dNe_web_non, Mid.dNe_non_web,
    Mid.dNe_non_non, Mid.dEq_non_non, Mid.dIs.eq_1, Mid.dIsNot.eq_1, Mid.isNon.eq_1, Mid.isNon_tup, Mid.isNon_int, Mid.isNon_lst, Mid.isNon_bl, Mid.isNon_str, Mid.dAdd.eq_1, Mid.dAdd.eq_2, Mid.dAdd.eq_3, Mid.dSub.eq_1,
    Mid.dMul_int, Mid.dMod_int, Mid.dCmp.eq_1, Mid.gLen.eq_1, Mid.gLen.eq_2, Mid.gInt.eq_1, Mid.gInt.eq_2, Mid.gList.eq_1, Mid.gList.eq_2, Mid.gTuple.eq_1, Mid.gTuple.eq_2, Mid.gSum_l, Mid.gSum_t, Mid.gAll_rg,
    Mid.gAnyB_rg, Mid.gMin_t, Mid.gMin_l, Mid.gMax_t, Mid.gMax_l, Mid.gAnew.eq_1, Mid.isInt, Mid.isBool, Mid.isStr, Mid.isTup, Mid.isLst, Mid.isDct, Mid.opaqueD, Bool.not_true, Bool.not_false, Bool.and_true,
    Bool.and_false, Bool.true_and, Bool.false_and, Bool.or_true, Bool.or_false, Bool.true_or, Bool.false_or, Bool.and_self, Bool.or_self, bne_self_eq_false, decide_true, decide_false, if_true, if_false, ite_true,
    ite_false, reduceIte, reduceCtorEq, true_and, and_true, false_and, and_false, forall_const, true_implies, false_implies, implies_true, ne_eq, not_true_eq_false, not_false_eq_true, eq_self, Mid.g_pos, Int.toNat_natCast,
    Int.toNat_one, Int.toNat_zero, Nat.add_zero, Nat.zero_add, Int.zero_add, Int.add_zero, Nat.min_self, exists_eq_left, exists_eq_left', Bool.false_eq_true, Bool.true_eq_false, ↓reduceIte, Nat.reduceAdd,
    Nat.reduceSub, Nat.reduceEqDiff, Int.reduceToNat, Int.reduceLT, Int.reduceLE, Nat.reduceLeDiff, Nat.reduceLT, Int.reduceAdd, Int.reduceSub, Int.reduceMul, Int.reduceNeg, Nat.reduceBEq, Int.reduceEq, decide_not,
    List.contains, List.elem, beq_self_eq_true, Mid.castI_eq, Mid.castI_lt, Mid.castI_le, Mid.castI_nn, Mid.dSl_t_to, Mid.dSl_t_from, Mid.dSl_t_from1, Mid.dSl_tail, Mid.ix0, Mid.ix1, Mid.ix2, Mid.ix3, Mid.lix0,
    Mid.lix1, Mid.rg_snoc, Mid.rg_append, Mid.oW_none, Mid.oW_some, decide_eq_true_eq, decide_eq_false_iff_not, Bool.not_eq_true, Bool.not_eq_false, Mid.dEq_tup_nil, Mid.rg_take, Mid.rg_drop, List.length_append,
    List.map_append, Bool.not_eq_eq_eq_not, Bool.and_eq_true, Bool.or_eq_true, Mid.onW_some, Mid.onN_some, Mid.onI_int, Mid.onL_some, Mid.appQ, Mid.set1bQ, Mid.set1Q, Mid.wp_set1, Mid.set2cQ, Mid.set2bQ, Mid.set2Q,
    Mid.wp_set2, Mid.insbQ, Mid.insQ, Mid.wp_ins, Mid.popQ, Mid.wp_pop, Mid.ixN_in, Mid.rg_set, Mid.rg_erase, Mid.insAt_rg, Mid.rg_get, Mid.d_ite_int, Mid.d_ite_tup, Mid.d_ite_lst, Mid.unpU_some, Mid.unpQ_tup,
    Mid.fz_oW, Mid.noShr_oW, Mid.isNon_oW, Mid.brw_oW, Mid.seqD_t, Mid.seqD_l, Mid.gIdx_l, Mid.gIdx_t, Mid.ite_ret_int, Mid.ite_ret_bl, Mid.ite_ret_b, Mid.ite_ret_str, Mid.x_ite_tt, Mid.x_ite_ff, Mid.x_ite_tf,
    Mid.x_ite_ft, Mid.wp_ite, Mid.castI_0, Mid.castI_1, Mid.castI_2, Mid.castI_3, Mid.castI_4, Mid.castI_5, Mid.castI_6, Mid.castI_7, Mid.castI_8, Mid.castI_9, Mid.castI_10, Mid.castI_11, Mid.castI_12, Mid.dPow_10_9,
    Mid.dPow_10_12, Mid.dIn_two, Mid.dIn_non_oW, Mid.dNe_oW_self, Mid.fmod_nat, Mid.fmod_cast, Mid.dMul_lst1, Mid.onE_some, Mid.forQ_nil, Mid.fromQ_eq, Mid.wp_err, Mid.wp_tryK, Mid.tryQ_nx, Mid.tryQ_rt, Mid.tryQ_er,
    Mid.onEs_t, Mid.onEs_f, Mid.isE_non, Mid.atE_exc, Mid.isNon_exc, Mid.noShr_exc1, Mid.noShr_exc0, Mid.upX_nil, Mid.upX_cons, Mid.fz_exc, Mid.brw_exc, Mid.eRaise, Mid.sRaiseE, Mid.wp_raise, Mid.outQ, Mid.isE_exc,
    Mid.onT_lst, Mid.extQ, Mid.wp_ext, Mid.gLR_nat, Mid.gSrt_ord_t, Mid.gSrt_ord_l, Mid.dEq_lints, Mid.dNe_lints, Mid.compL_filt, Mid.filtR_ret, Mid.testC_eq, Mid.onB_some, Mid.cnt_true, Mid.sel_true, Mid.dNe_lints1,
    Mid.dEq_lints1, Mid.dNe_nil_int, Mid.dNe_nil_pair, Mid.cnt_ne, Mid.sel_ne, Mid.toNat_n1, Mid.dMul_lst1Z, Mid.dNotIn_two, Mid.noShrL_pairs, kk, kr, ne]
          exact Nat.le_refl _
        · have g5 : [y 0, y 1, y 2, y 3, y 4] = rg 5 y := by rw [rg_succ, rg_succ, rg_succ, rg_succ, rg_succ, rg_zero]; rfl
          have gL : Gd 100000000000000000000 2 6000 (.lst .f (rg 5 y)) := gd_lstL (k := 1) (c := 1100) 5 (by rw [rg_length]; omega) (fun d hd => by obtain ⟨i, hi, rfl⟩ := mem_rg.mp hd; exact hy i hi) (by omega)
          have rp := gRepr_ok (gL.shR (by decide +kernel)) (by omega) (by omega)
          have kr := kinds_RoadError []
          have rr := road_RoadError []
          have nn := not05
          simp -implicitDefEqProofs (maxSteps := 1000000) (disch := (first | omega | assumption | decide | (intros; omega) | (simp only [List.length_cons, List.length_nil, Mid.rg_length]; omega) | (refine Mid.cnt_lt ?_; omega) | (refine Mid.selLT ?_ ?_ <;> first | assumption | omega | fail) | (refine Mid.selLTI ?_ ?_ <;> first | assumption | omega | fail) | fail)) only [Mid.wp_ret, Mid.wp_stuck, Mid.wp_bind, Mid.wp_seq, Mid.wp_nil, Mid.wp_asg, Mid.wp_expr, Mid.wp_rt, Mid.wp_if, Mid.wp_k, Mid.wp_par, Mid.wp_unp, Mid.wp_rtV, Mid.wp_rtN, Mid.wp_break, Mid.wp_cont, Mid.wp_raise,
    Mid.wp_forR, Mid.wp_forS, Mid.wp_app, Mid.wp_fn, Mid.seqQ_nx, Mid.seqQ_rt, Mid.seqQ_er, Mid.seqQ_bk, Mid.seqQ_ct, Mid.turnQ_nx, Mid.turnQ_ct, Mid.turnQ_bk, Mid.turnQ_rt, Mid.turnQ_er, Mid.errQ, Mid.asgQ,
    Mid.expQ, Mid.rtQ, Mid.ifQ, Mid.par2Q, Mid.parQ, Mid.rtvQ_eq, Mid.outQ, Mid.startE, Mid.run, Mid.fzE, Mid.frzE_A, Mid.frzA, Mid.upE, Mid.upX, Mid.noShr, Mid.noShrL, Mid.noShrL_rg, Mid.noShrL_ints, Mid.noShrL_bls,
    Mid.noShrL_rows, Mid.noShrL_lrows, Mid.ow_tf, Mid.ow_bf, Mid.ow_ff, Mid.brw_tup, Mid.brw_int, Mid.brw_bl, Mid.brw_str, Mid.brw_non, Mid.brw_lt, Mid.brw_lf, Mid.wipeE, Mid.ownAt, Mid.fz, Mid.fzL, List.map_cons,
    List.map_nil, List.cons_append, List.nil_append, List.length_cons, List.length_nil, List.replicate, Option.map_some, Option.map_none, List.getElem?_cons_zero, List.getElem?_cons_succ, List.set_cons_zero,
    List.set_cons_succ, List.contains_cons, List.contains_nil, List.elem_eq_contains, List.isEmpty_nil, List.isEmpty_cons, Mid.eVar, Mid.eK, Mid.eBin, Mid.eUn, Mid.asB.eq_1, Mid.bOf, Mid.bAnd, Mid.bOr, Mid.bNot,
    Mid.eAnd, Mid.eOr, Mid.eNot, Mid.eIf, Mid.aNil, Mid.aCons, Mid.eCallB, Mid.eCall, Mid.gTup_ok, Mid.gLst_ok, Mid.eDct, Mid.oNone, Mid.oSome, Mid.asI.eq_1, Mid.eSl, Mid.eChain, Mid.eComp, Mid.iSeq, Mid.iOf,
    Mid.itemsOf.eq_1, Mid.itemsOf.eq_2, Mid.gRange1.eq_1, Mid.gRange2.eq_1, Mid.gEnum.eq_1, Mid.gZip.eq_1, Mid.gZip.eq_2, Mid.gEnumZip.eq_1, Mid.eIdx, Mid.bind_ret, Mid.try_ret, Mid.sure_ret, Mid.cAll, Mid.compL_rg,
    Mid.stepC_eq, Mid.onC_some, Mid.tName, Mid.tTup, Mid.tsCons, Mid.tsNil, Option.bind_some, Option.bind_none, Mid.mapR_ret, Mid.rg_length, Mid.rg_zero, Mid.numbered_rg, Mid.pairs_rg, Mid.rangeL_rg, Mid.ix_rg_t,
    Mid.ix_rg_l, Mid.dEq_int, Mid.dNe_int, Mid.dEq_str, Mid.dNe_str, Mid.dEq_bl, Mid.dNe_bl, Mid.dEq_web, Mid.dNe_web, Mid.dEq_row, Mid.dNe_row, Mid.dEq_web_non, Mid.dEq_non_web, Mid.dNe_web_non, Mid.dNe_non_web,
    Mid.dNe_non_non, Mid.dEq_non_non, Mid.dIs.eq_1, Mid.dIsNot.eq_1, Mid.isNon.eq_1, Mid.isNon_tup, Mid.isNon_int, Mid.isNon_lst, Mid.isNon_bl, Mid.isNon_str, Mid.dAdd.eq_1, Mid.dAdd.eq_2, Mid.dAdd.eq_3, Mid.dSub.eq_1,
    Mid.dMul_int, Mid.dMod_int, Mid.dCmp.eq_1, Mid.gLen.eq_1, Mid.gLen.eq_2, Mid.gInt.eq_1, Mid.gInt.eq_2, Mid.gList.eq_1, Mid.gList.eq_2, Mid.gTuple.eq_1, Mid.gTuple.eq_2, Mid.gSum_l, Mid.gSum_t, Mid.gAll_rg,
    Mid.gAnyB_rg, Mid.gMin_t, Mid.gMin_l, Mid.gMax_t, Mid.gMax_l, Mid.gAnew.eq_1, Mid.isInt, Mid.isBool, Mid.isStr, Mid.isTup, Mid.isLst, Mid.isDct, Mid.opaqueD, Bool.not_true, Bool.not_false, Bool.and_true,
    Bool.and_false, Bool.true_and, Bool.false_and, Bool.or_true, Bool.or_false, Bool.true_or, Bool.false_or, Bool.and_self, Bool.or_self, bne_self_eq_false, decide_true, decide_false, if_true, if_false, ite_true,
    ite_false, reduceIte, reduceCtorEq, true_and, and_true, false_and, and_false, forall_const, true_implies, false_implies, implies_true, ne_eq, not_true_eq_false, not_false_eq_true, eq_self, Mid.g_pos, Int.toNat_natCast,
    Int.toNat_one, Int.toNat_zero, Nat.add_zero, Nat.zero_add, Int.zero_add, Int.add_zero, Nat.min_self, exists_eq_left, exists_eq_left', Bool.false_eq_true, Bool.true_eq_false, ↓reduceIte, Nat.reduceAdd,
    Nat.reduceSub, Nat.reduceEqDiff, Int.reduceToNat, Int.reduceLT, Int.reduceLE, Nat.reduceLeDiff, Nat.reduceLT, Int.reduceAdd, Int.reduceSub, Int.reduceMul, Int.reduceNeg, Nat.reduceBEq, Int.reduceEq, decide_not,
    List.contains, List.elem, beq_self_eq_true, Mid.castI_eq, Mid.castI_lt, Mid.castI_le, Mid.castI_nn, Mid.dSl_t_to, Mid.dSl_t_from, Mid.dSl_t_from1, Mid.dSl_tail, Mid.ix0, Mid.ix1, Mid.ix2, Mid.ix3, Mid.lix0,
    Mid.lix1, Mid.rg_snoc, Mid.rg_append, Mid.oW_none, Mid.oW_some, decide_eq_true_eq, decide_eq_false_iff_not, Bool.not_eq_true, Bool.not_eq_false, Mid.dEq_tup_nil, Mid.rg_take, Mid.rg_drop, List.length_append,
    List.map_append, Bool.not_eq_eq_eq_not, Bool.and_eq_true, Bool.or_eq_true, Mid.onW_some, Mid.onN_some, Mid.onI_int, Mid.onL_some, Mid.appQ, Mid.set1bQ, Mid.set1Q, Mid.wp_set1, Mid.set2cQ, Mid.set2bQ, Mid.set2Q,
    Mid.wp_set2, Mid.insbQ, Mid.insQ, Mid.wp_ins, Mid.popQ, Mid.wp_pop, Mid.ixN_in, Mid.rg_set, Mid.rg_erase, Mid.insAt_rg, Mid.rg_get, Mid.d_ite_int, Mid.d_ite_tup, Mid.d_ite_lst, Mid.unpU_some, Mid.unpQ_tup,
    Mid.fz_oW, Mid.noShr_oW, Mid.isNon_oW, Mid.brw_oW, Mid.seqD_t, Mid.seqD_l, Mid.gIdx_l, Mid.gIdx_t, Mid.ite_ret_int, Mid.ite_ret_bl, Mid.ite_ret_b, Mid.ite_ret_str, Mid.x_ite_tt, Mid.x_ite_ff, Mid.x_ite_tf,
    Mid.x_ite_ft, Mid.wp_ite, Mid.castI_0, Mid.castI_1, Mid.castI_2, Mid.castI_3, Mid.castI_4, Mid.castI_5, Mid.castI_6, Mid.castI_7, Mid.castI_8, Mid.castI_9, Mid.castI_10, Mid.castI_11, Mid.castI_12, Mid.dPow_10_9,
    Mid.dPow_10_12, Mid.dIn_two, Mid.dIn_non_oW, Mid.dNe_oW_self, Mid.fmod_nat, Mid.fmod_cast, Mid.dMul_lst1, Mid.onE_some, Mid.forQ_nil, Mid.fromQ_eq, Mid.wp_err, Mid.wp_tryK, Mid.tryQ_nx, Mid.tryQ_rt, Mid.tryQ_er,
    Mid.onEs_t, Mid.onEs_f, Mid.isE_non, Mid.atE_exc, Mid.isNon_exc, Mid.noShr_exc1, Mid.noShr_exc0, Mid.upX_nil, Mid.upX_cons, Mid.fz_exc, Mid.brw_exc, Mid.eRaise, Mid.sRaiseE, Mid.wp_raise, Mid.outQ, Mid.isE_exc,
    Mid.onT_lst, Mid.extQ, Mid.wp_ext, Mid.gLR_nat, Mid.gSrt_ord_t, Mid.gSrt_ord_l, Mid.dEq_lints, Mid.dNe_lints, Mid.compL_filt, Mid.filtR_ret, Mid.testC_eq, Mid.onB_some, Mid.cnt_true, Mid.sel_true, Mid.dNe_lints1,
    Mid.dEq_lints1, Mid.dNe_nil_int, Mid.dNe_nil_pair, Mid.cnt_ne, Mid.sel_ne, Mid.toNat_n1, Mid.dMul_lst1Z, Mid.dNotIn_two, Mid.noShrL_pairs, y0, y1, y2, y3, y4, ix5_15, ix5_16, ix5_17, ix5_18, ix5_19, g5,
    rp, xy, Mid.eMk, kr, rr, nn, ns]
          have h6 : m6 ≤ m2 + 20 * 0 := hm6
          show m6 ≤ 100000
          omega
end Law
namespace Law
open PySem PySem.Spec PyProof.Rows L2 Mid
theorem facts (b : Nat) (hb : b ≤ bigA) (good : Good c_law_k05 9 b) {P : Program} {w : World} {K : PySem.W.Frag} {h : Heap} {mg : Str → Option Value} {f : Addr} (X : K.In h) (G : h.Ns mainGlobals mg) (hfa : mg ("law" : Str) = some (.ref f)) (c : He.SaysD fa fn K) (cx : ex K = true) :
    ∃ fd : FuncData, (∀ (s : Shared) (v : Value), BindsTo s fd ⟨[v], []⟩ [("_law_script", v)]) ∧ ∀ base : Heap, K.In base → base.Ns mainGlobals mg → FnG P w K mg base 4 f fd ["_law_script"] (spLaw K) := by
  obtain ⟨fd__law_spread, F__law_spread⟩ := c.def_ 0 (d := d__law_spread) rfl
  have g__law_spread := He.glo_ok X G (c.fact 0 (f := .glo "_law_spread") rfl)
  obtain ⟨fd__law_open, F__law_open⟩ := c.def_ 1 (d := d__law_open) rfl
  have g__law_open := He.glo_ok X G (c.fact 1 (f := .glo "_law_open") rfl)
  obtain ⟨fd__law_anew, F__law_anew⟩ := c.def_ 2 (d := d__law_anew) rfl
  have g__law_anew := He.glo_ok X G (c.fact 2 (f := .glo "_law_anew") rfl)
  obtain ⟨fd__law_kinds, F__law_kinds⟩ := c.def_ 3 (d := d__law_kinds) rfl
  have g__law_kinds := He.glo_ok X G (c.fact 3 (f := .glo "_law_kinds") rfl)
  obtain ⟨fd__law_take, F__law_take⟩ := c.def_ 4 (d := d__law_take) rfl
  have g__law_take := He.glo_ok X G (c.fact 4 (f := .glo "_law_take") rfl)
  obtain ⟨fd__law_one, F__law_one⟩ := c.def_ 5 (d := d__law_one) rfl
  have g__law_one := He.glo_ok X G (c.fact 5 (f := .glo "_law_one") rfl)
  obtain ⟨fd__law_drawn, F__law_drawn⟩ := c.def_ 6 (d := d__law_drawn) rfl
  have g__law_drawn := He.glo_ok X G (c.fact 6 (f := .glo "_law_drawn") rfl)
  obtain ⟨fd_law, F_law⟩ := c.def_ 7 (d := d_law) rfl
  have g_law := He.glo_ok X G (c.fact 7 (f := .glo "law") rfl)
  have fs : Fs mg K := ⟨He.free_ok X G (c.fact 8 (f := .free "isinstance") rfl), He.free_ok X G (c.fact 9 (f := .free "len") rfl), He.free_ok X G (c.fact 10 (f := .free "range") rfl), He.free_ok X G (c.fact 11 (f := .free "ValueError") rfl), He.free_ok X G (c.fact 12 (f := .free "repr") rfl), He.free_ok X G (c.fact 13 (f := .free "enumerate") rfl), He.free_ok X G (c.fact 14 (f := .free "list") rfl), excF_of (He.glo_ok X G (c.fact 15 (f := .glo "RoadError") rfl)) (c.fact 36 (f := .exc "RoadError") rfl), excF_of (He.glo_ok X G (c.fact 30 (f := .glo "TooGreat") rfl)) (c.fact 37 (f := .exc "TooGreat") rfl), excF_of (He.glo_ok X G (c.fact 29 (f := .glo "TooLong") rfl)) (c.fact 38 (f := .exc "TooLong") rfl), excF_of (He.glo_ok X G (c.fact 28 (f := .glo "TooMany") rfl)) (c.fact 39 (f := .exc "TooMany") rfl), excF_of (He.glo_ok X G (c.fact 27 (f := .glo "Nothing") rfl)) (c.fact 40 (f := .exc "Nothing") rfl), excF_of (He.glo_ok X G (c.fact 26 (f := .glo "NoPaper") rfl)) (c.fact 41 (f := .exc "NoPaper") rfl), excF_of (He.glo_ok X G (c.fact 25 (f := .glo "NotLevel") rfl)) (c.fact 42 (f := .exc "NotLevel") rfl), excF_of (He.glo_ok X G (c.fact 24 (f := .glo "NotFull") rfl)) (c.fact 43 (f := .exc "NotFull") rfl), excF_of (He.glo_ok X G (c.fact 23 (f := .glo "NotRich") rfl)) (c.fact 44 (f := .exc "NotRich") rfl), excF_of (He.glo_ok X G (c.fact 22 (f := .glo "NoNumbers") rfl)) (c.fact 45 (f := .exc "NoNumbers") rfl), excF_of (He.glo_ok X G (c.fact 21 (f := .glo "NoWorth") rfl)) (c.fact 46 (f := .exc "NoWorth") rfl), excF_of (He.glo_ok X G (c.fact 20 (f := .glo "NoNumber") rfl)) (c.fact 47 (f := .exc "NoNumber") rfl), excF_of (He.glo_ok X G (c.fact 19 (f := .glo "NoRound") rfl)) (c.fact 48 (f := .exc "NoRound") rfl), excF_of (He.glo_ok X G (c.fact 18 (f := .glo "NoOrder") rfl)) (c.fact 49 (f := .exc "NoOrder") rfl), excF_of (He.glo_ok X G (c.fact 17 (f := .glo "NoPlace") rfl)) (c.fact 50 (f := .exc "NoPlace") rfl), excF_of (He.glo_ok X G (c.fact 16 (f := .glo "NoWeb") rfl)) (c.fact 51 (f := .exc "NoWeb") rfl), (He.glo_ok X G (c.fact 15 (f := .glo "RoadError") rfl)), (He.glo_ok X G (c.fact 16 (f := .glo "NoWeb") rfl)), (He.glo_ok X G (c.fact 17 (f := .glo "NoPlace") rfl)), (He.glo_ok X G (c.fact 18 (f := .glo "NoOrder") rfl)), (He.glo_ok X G (c.fact 19 (f := .glo "NoRound") rfl)), (He.glo_ok X G (c.fact 20 (f := .glo "NoNumber") rfl)), (He.glo_ok X G (c.fact 21 (f := .glo "NoWorth") rfl)), (He.glo_ok X G (c.fact 22 (f := .glo "NoNumbers") rfl)), (He.glo_ok X G (c.fact 23 (f := .glo "NotRich") rfl)), (He.glo_ok X G (c.fact 24 (f := .glo "NotFull") rfl)), (He.glo_ok X G (c.fact 25 (f := .glo "NotLevel") rfl)), (He.glo_ok X G (c.fact 26 (f := .glo "NoPaper") rfl)), (He.glo_ok X G (c.fact 27 (f := .glo "Nothing") rfl)), (He.glo_ok X G (c.fact 28 (f := .glo "TooMany") rfl)), (He.glo_ok X G (c.fact 29 (f := .glo "TooLong") rfl)), (He.glo_ok X G (c.fact 30 (f := .glo "TooGreat") rfl)), (He.glo_ok X G (c.fact 31 (f := .glo "NoDeed") rfl)), (He.glo_ok X G (c.fact 32 (f := .glo "NoName") rfl)), (He.glo_ok X G (c.fact 33 (f := .glo "Standing") rfl)), (He.glo_ok X G (c.fact 34 (f := .glo "Full") rfl)), (He.glo_ok X G (c.fact 35 (f := .glo "NoMark") rfl)), isT_of (exAt cx 0 rfl), isT_of (exAt cx 1 rfl), isT_of (exAt cx 2 rfl), isT_of (exAt cx 3 rfl), isT_of (exAt cx 4 rfl), isT_of (exAt cx 5 rfl), isT_of (exAt cx 6 rfl), isT_of (exAt cx 7 rfl), isT_of (exAt cx 8 rfl), isT_of (exAt cx 9 rfl), isT_of (exAt cx 10 rfl), isT_of (exAt cx 11 rfl), isT_of (exAt cx 12 rfl), isT_of (exAt cx 13 rfl), isT_of (exAt cx 14 rfl), isT_of (exAt cx 15 rfl), isT_of (exAt cx 16 rfl), isT_of (exAt cx 17 rfl), isT_of (exAt cx 18 rfl), isT_of (exAt cx 19 rfl), isT_of (exAt cx 20 rfl), isT_of (exAt cx 21 rfl), (exAt cx 22 rfl), (exAt cx 23 rfl), (exAt cx 24 rfl)⟩
  have e := hfa.symm.trans g_law
  cases e
  have bd := FunD.bindsA (ps := ["_law_script"]) F_law fun _ _ _ _ _ _ us hl => match us, hl with | [_], _ => rfl
  refine ⟨fd_law, fun s v => bd s [v] rfl, fun base _ _ => ?_⟩
  obtain ⟨fd_NoMark_init, F_NoMark_init⟩ := c.def_ 8 (d := d_NoMark_init) rfl
  have X_NoMark := excI_of (P := P) (w := w) (base := base) (He.glo_ok X G (c.fact 35 (f := .glo "NoMark") rfl)) (exAt cx 25 rfl) (exAt cx 26 rfl) (c.fact 52 (f := .meth "NoMark" "__init__") rfl) (a_NoMark_init F_NoMark_init (He.glo_ok X G (c.fact 15 (f := .glo "RoadError") rfl)) (exAt cx 35 rfl)) (F_NoMark_init.bindsN fun _ _ _ _ _ _ us hl => match us, hl with | [_, _], _ => rfl)
  obtain ⟨fd_Full_init, F_Full_init⟩ := c.def_ 9 (d := d_Full_init) rfl
  have X_Full := excI_of (P := P) (w := w) (base := base) (He.glo_ok X G (c.fact 34 (f := .glo "Full") rfl)) (exAt cx 27 rfl) (exAt cx 28 rfl) (c.fact 53 (f := .meth "Full" "__init__") rfl) (a_Full_init F_Full_init (He.glo_ok X G (c.fact 15 (f := .glo "RoadError") rfl)) (exAt cx 35 rfl)) (F_Full_init.bindsN fun _ _ _ _ _ _ us hl => match us, hl with | [_, _], _ => rfl)
  obtain ⟨fd_Standing_init, F_Standing_init⟩ := c.def_ 10 (d := d_Standing_init) rfl
  have X_Standing := excI_of (P := P) (w := w) (base := base) (He.glo_ok X G (c.fact 33 (f := .glo "Standing") rfl)) (exAt cx 29 rfl) (exAt cx 30 rfl) (c.fact 54 (f := .meth "Standing" "__init__") rfl) (a_Standing_init F_Standing_init (He.glo_ok X G (c.fact 15 (f := .glo "RoadError") rfl)) (exAt cx 35 rfl)) (F_Standing_init.bindsN fun _ _ _ _ _ _ us hl => match us, hl with | [_, _], _ => rfl)
  obtain ⟨fd_NoName_init, F_NoName_init⟩ := c.def_ 11 (d := d_NoName_init) rfl
  have X_NoName := excI_of (P := P) (w := w) (base := base) (He.glo_ok X G (c.fact 32 (f := .glo "NoName") rfl)) (exAt cx 31 rfl) (exAt cx 32 rfl) (c.fact 55 (f := .meth "NoName" "__init__") rfl) (a_NoName_init F_NoName_init (He.glo_ok X G (c.fact 15 (f := .glo "RoadError") rfl)) (exAt cx 35 rfl)) (F_NoName_init.bindsN fun _ _ _ _ _ _ us hl => match us, hl with | [_, _], _ => rfl)
  obtain ⟨fd_NoDeed_init, F_NoDeed_init⟩ := c.def_ 12 (d := d_NoDeed_init) rfl
  have X_NoDeed := excI_of (P := P) (w := w) (base := base) (He.glo_ok X G (c.fact 31 (f := .glo "NoDeed") rfl)) (exAt cx 33 rfl) (exAt cx 34 rfl) (c.fact 56 (f := .meth "NoDeed" "__init__") rfl) (a_NoDeed_init F_NoDeed_init (He.glo_ok X G (c.fact 15 (f := .glo "RoadError") rfl)) (exAt cx 35 rfl)) (F_NoDeed_init.bindsN fun _ _ _ _ _ _ us hl => match us, hl with | [_, _], _ => rfl)
  have C__law_spread := a__law_spread (P := P) (w := w) (base := base) F__law_spread g__law_spread fs
  have C__law_open := a__law_open (P := P) (w := w) (base := base) F__law_open g__law_open fs
  have C__law_anew := a__law_anew (P := P) (w := w) (base := base) F__law_anew g__law_anew fs
  have C__law_kinds := a__law_kinds (P := P) (w := w) (base := base) F__law_kinds g__law_kinds fs
  have C__law_take := a__law_take (P := P) (w := w) (base := base) F__law_take g__law_take fs C__law_spread
  have C__law_one := a__law_one (P := P) (w := w) (base := base) F__law_one g__law_one fs C__law_take
  have C__law_drawn := a__law_drawn (P := P) (w := w) (base := base) F__law_drawn g__law_drawn fs C__law_take
  exact a_law F_law fs C__law_open C__law_kinds X_NoMark X_Full X_Standing X_NoName X_NoDeed C__law_one C__law_take hb good
end Law
open PySem PySem.W PySem.Calls PyProof.Rows
theorem PySem.Challenge.cw_laidroads_k05_refusals_by_hand_holds : PySem.Challenge.rw_laidroads_k05_refusals_by_hand.Holds := by
  w_on; o_law
  refine HandSHeadRun.head_any (r := OpenLaw.row PySem.Challenge.rw_laidroads_k05_refusals_by_hand) (q := view (OpenLaw.row PySem.Challenge.rw_laidroads_k05_refusals_by_hand).prog [30]) (H := Law.hk) (ob := Law.ob) (M := 6500) (loose := Law.nm) (d := HandSHeadRun.topDef (OpenLaw.row PySem.Challenge.rw_laidroads_k05_refusals_by_hand).prog 30) (kwd := []) Law.ob_eq
    (by kernel_rfl) (fun s => by kernel_rfl) Law.run (by kernel_rfl) (by kernel_rfl) (by kernel_rfl) (by rfl) (by first | assumption | decide +kernel) (by decide +kernel) ⟨rfl, rfl, rfl, rfl, rfl, by decide +kernel⟩ ?hw ?hc
  case hw => w_witness2
  case hc =>
    refine Mid.walk_mid (l := PySem.Challenge.rw_laidroads_k05_refusals_by_hand) (k := 4) (x := "_law_script") rfl (by kernel_rfl) ⟨rfl, by decide, by decide⟩ ?_
    intro w mg fa h Y G hmg0
    obtain ⟨K, KX, says⟩ := Y
    have hmg : mg ("law" : PySem.Str) = some (.ref fa) := by
      have e : (HandSHeadRun.topDef (OpenLaw.row PySem.Challenge.rw_laidroads_k05_refusals_by_hand).prog 30).name = ("law" : PySem.Str) := by kernel_rfl
      rw [← e]
      exact hmg0
    obtain ⟨fd, hb, hF⟩ := Law.facts Law.budget Law.budget_ok Law.good (P := (PySem.Challenge.rw_laidroads_k05_refusals_by_hand).prog) (w := w) KX G hmg says.t.d says.more
    exact ⟨K, fd, KX, hb, hF⟩
