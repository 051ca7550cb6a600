import PyProof.Rows.All
import Wide.All
import OpenK.AllK
import Wide.FinOn
import HandS.ForMost
import HandS.ForExc
import HandS.TupAny
import HandS.TupLe
import HandS.Wide
import HandS.Text
import HandS.Zip
import HandS.Conv
import HandS.TupLen
import HandS.Steps
import HandS.IsInst
import KE.DataEq
import KE.DataCmp
import KE.SortData
import KE.DataMinMax
import KE.DataFind
import HandS.More
import HandS.Head0
import HandS.Head1
import HandS.Head2
import HandS.HeadEnd
import HandS.HeadHook1
import HandS.HeadHook2
import HandS.HeadNt
import HandS.Defaults
import PySem.Challenge.RW_treerounds_k71_ends_of_trees
set_option Elab.async false
set_option linter.all false
set_option maxRecDepth 100000
set_option maxHeartbeats 0
namespace TR
open PySem PySem.Spec PyProof.Rows L2
theorem nr {α : Sort u} {a b : α} (h : a = b) : a = b := h
inductive P where
  | non | bl (b : Bool) | int (i : Int) | str (x : Str) | tup (ps : List P)
mutual
def P.dec : (p q : P) → Decidable (p = q)
  | .non, .non => Decidable.isTrue rfl
  | .bl a, .bl b => if h : a = b then Decidable.isTrue (by rw [h]) else Decidable.isFalse fun e => h (by injection e)
  | .int a, .int b => if h : a = b then Decidable.isTrue (by rw [h]) else Decidable.isFalse fun e => h (by injection e)
  | .str a, .str b => if h : a = b then Decidable.isTrue (by rw [h]) else Decidable.isFalse fun e => h (by injection e)
  | .tup a, .tup b => match P.decs a b with
    | Decidable.isTrue h => Decidable.isTrue (by rw [h])
    | Decidable.isFalse h => Decidable.isFalse fun e => h (by injection e)
  | .non, .bl _ => Decidable.isFalse fun e => nomatch e
  | .non, .int _ => Decidable.isFalse fun e => nomatch e
  | .non, .str _ => Decidable.isFalse fun e => nomatch e
  | .non, .tup _ => Decidable.isFalse fun e => nomatch e
  | .bl _, .non => Decidable.isFalse fun e => nomatch e
  | .bl _, .int _ => Decidable.isFalse fun e => nomatch e
  | .bl _, .str _ => Decidable.isFalse fun e => nomatch e
  | .bl _, .tup _ => Decidable.isFalse fun e => nomatch e
  | .int _, .non => Decidable.isFalse fun e => nomatch e
  | .int _, .bl _ => Decidable.isFalse fun e => nomatch e
  | .int _, .str _ => Decidable.isFalse fun e => nomatch e
  | .int _, .tup _ => Decidable.isFalse fun e => nomatch e
  | .str _, .non => Decidable.isFalse fun e => nomatch e
  | .str _, .bl _ => Decidable.isFalse fun e => nomatch e
  | .str _, .int _ => Decidable.isFalse fun e => nomatch e
  | .str _, .tup _ => Decidable.isFalse fun e => nomatch e
  | .tup _, .non => Decidable.isFalse fun e => nomatch e
  | .tup _, .bl _ => Decidable.isFalse fun e => nomatch e
  | .tup _, .int _ => Decidable.isFalse fun e => nomatch e
  | .tup _, .str _ => Decidable.isFalse fun e => nomatch e
def P.decs : (p q : List P) → Decidable (p = q)
  | [], [] => Decidable.isTrue rfl
  | [], _ :: _ => Decidable.isFalse fun e => nomatch e
  | _ :: _, [] => Decidable.isFalse fun e => nomatch e
  | a :: p, b :: q => match P.dec a b with
    | Decidable.isFalse h => Decidable.isFalse fun e => h (by injection e)
    | Decidable.isTrue h => match P.decs p q with
      | Decidable.isFalse h2 => Decidable.isFalse fun e => h2 (by injection e)
      | Decidable.isTrue h2 => Decidable.isTrue (by rw [h, h2])
end
instance : DecidableEq P := P.dec
inductive T where
  | pv (p : P) | tup (ts : List T) | lst (ts : List T) | fls (ts : List T) | dct (tk : Bool) (ks : List P) (ts : List T)
inductive Sl where
  | no | ow (t : T) | vw (t : T)
abbrev Env := List Sl
structure Exn where
  c : Str
  fs : List (Str × P)
inductive R (ε α : Type) where
  | ok (a : α) | exc (e : Exn) (r : ε) | bad
def R.bind {ε α β : Type} (x : R ε α) (f : α → R ε β) : R ε β := match x with
  | .ok a => f a
  | .exc e r => .exc e r
  | .bad => .bad
def R.of {ε α : Type} : Option α → R ε α
  | some a => .ok a
  | none => .bad
@[simp] theorem R.bind_ok {ε α β : Type} (a : α) (f : α → R ε β) : (R.ok a : R ε α).bind f = f a := nr rfl
@[simp] theorem R.bind_exc {ε α β : Type} (e : Exn) (r : ε) (f : α → R ε β) : (R.exc e r : R ε α).bind f = .exc e r := nr rfl
@[simp] theorem R.bind_bad {ε α β : Type} (f : α → R ε β) : (R.bad : R ε α).bind f = .bad := nr rfl
@[simp] theorem R.of_some {ε α : Type} (a : α) : (R.of (some a) : R ε α) = .ok a := nr rfl
@[simp] theorem R.of_none {ε α : Type} : (R.of (none : Option α) : R ε α) = .bad := nr rfl
abbrev Fp := Addr → Prop
abbrev Sub (A B : Fp) : Prop := ∀ a, A a → B a
abbrev Disj (A B : Fp) : Prop := ∀ a, A a → B a → False
abbrev Al (H : Hp) (A : Fp) : Prop := ∀ a, A a → H a ≠ none
abbrev Fresh (H : Hp) (A : Fp) : Prop := ∀ a, A a → H a = none
abbrev top : Fp := fun _ => True
abbrev emp : Fp := fun _ => False
abbrev un (A B : Fp) : Fp := fun a => A a ∨ B a
abbrev Ext (H H' : Hp) : Prop := ∀ b o, H b = some o → H' b = some o
theorem Ext.refl (H : Hp) : Ext H H := fun _ _ h => h
theorem Ext.trans {H H1 H2 : Hp} (a : Ext H H1) (b : Ext H1 H2) : Ext H H2 := fun x o h => b x o (a x o h)
theorem Ext.new {H : Hp} {p : Addr} {o : HO} (h : H p = none) : Ext H (upd H p o) := fun a u e => by
  rw [upd_ne (ne_of_none e h)]; exact e
theorem Ext.fresh {H H' : Hp} (e : Ext H H') {p : Addr} (h : H' p = none) : H p = none := by
  cases q : H p with
  | none => rfl
  | some o => rw [e p o q] at h; cases h
theorem Ext.al {H H' : Hp} {A : Fp} (e : Ext H H') (h : Al H A) : Al H' A := fun a ha q => h a ha (e.fresh q)
structure Step (H : Hp) (A : Fp) (H' : Hp) (A' : Fp) : Prop where
  keep : ∀ b o, H b = some o → (A b → ¬ Mut (some o)) → H' b = some o
  dom : ∀ b, H b ≠ none → H' b ≠ none
  sub : ∀ b, A' b → A b ∨ H b = none
theorem Ext.dom {H H' : Hp} (e : Ext H H') : ∀ b, H b ≠ none → H' b ≠ none := fun b h q => h (e.fresh q)
theorem Step.refl (H : Hp) (A : Fp) : Step H A H A := ⟨fun _ _ h _ => h, fun _ h => h, fun _ h => .inl h⟩
theorem Step.ext {H H' : Hp} {A B : Fp} (e : Ext H H') (f : Fresh H B) : Step H A H' (un A B) :=
  ⟨fun b o h _ => e b o h, e.dom, fun b h => h.elim .inl fun z => .inr (f b z)⟩
theorem Step.ext0 {H H' : Hp} {A : Fp} (e : Ext H H') : Step H A H' A := ⟨fun b o h _ => e b o h, e.dom, fun b h => .inl h⟩
theorem Step.trans {H H1 H2 : Hp} {A A1 A2 : Fp} (a : Step H A H1 A1) (b : Step H1 A1 H2 A2) : Step H A H2 A2 := by
  refine ⟨fun x o h n => ?_, fun x h => b.dom x (a.dom x h), fun x h => ?_⟩
  · refine b.keep x o (a.keep x o h n) fun h1 => ?_
    rcases a.sub x h1 with z | z
    · exact n z
    · rw [z] at h; cases h
  · rcases b.sub x h with z | z
    · exact a.sub x z
    · right
      cases q : H x with
      | none => rfl
      | some o => exact absurd z (a.dom x (by rw [q]; intro c; cases c))
theorem Step.al {H H' : Hp} {A A' B : Fp} (s : Step H A H' A') (h : Al H B) : Al H' B := fun a ha => s.dom a (h a ha)
theorem Step.mono {H H' : Hp} {A A' B : Fp} (s : Step H A H' A') (h : Sub B A') : Step H A H' B := ⟨s.keep, s.dom, fun b hb => s.sub b (h b hb)⟩
theorem Step.wide {H H' : Hp} {A A' C : Fp} (s : Step H A H' A') : Step H (un A C) H' (un A' C) :=
  ⟨fun b o h n => s.keep b o h fun z => n (.inl z), s.dom, fun b h => h.elim (fun z => (s.sub b z).imp .inl id) fun z => .inl (.inr z)⟩
theorem Step.disj {H H' : Hp} {A A' C : Fp} (s : Step H A H' A') (h : Disj C A) (al : Al H C) : Disj C A' := fun a hc ha => by
  rcases s.sub a ha with z | z
  · exact h a hc z
  · exact al a hc z
structure Kp (C Z : Fp) (H H' : Hp) : Prop where
  tk : ∀ b xs, H b = some (.tup xs) → H' b = some (.tup xs)
  fk : ∀ b o u, H b = some (.frz o u) → H' b = some (.frz o u)
  own : ∀ b o, C b → H b = some o → H' b = some o
  st : ∀ b o, Z b → H b = some o → H' b = some o
theorem Kp.refl {C Z : Fp} {H : Hp} : Kp C Z H H := ⟨fun _ _ h => h, fun _ _ _ h => h, fun _ _ _ h => h, fun _ _ _ h => h⟩
theorem Ext.kp {C Z : Fp} {H H' : Hp} (e : Ext H H') : Kp C Z H H' := ⟨fun b _ h => e b _ h, fun b _ _ h => e b _ h, fun b _ _ h => e b _ h, fun b _ _ h => e b _ h⟩
theorem Step.kp {C Z : Fp} {H H' : Hp} {A A' : Fp} (s : Step H A H' A') (hc : Disj C A) (hz : Disj Z A) : Kp C Z H H' :=
  ⟨fun b _ h => s.keep b _ h fun _ m => m, fun b _ _ h => s.keep b _ h fun _ m => m, fun b _ hb h => s.keep b _ h fun ha => (hc b hb ha).elim, fun b _ hb h => s.keep b _ h fun ha => (hz b hb ha).elim⟩
theorem Kp.mono {C Z C' Z' : Fp} {H H' : Hp} (k : Kp C Z H H') (h : Sub C' C) (h2 : Sub Z' Z) : Kp C' Z' H H' := ⟨k.tk, k.fk, fun b o hb => k.own b o (h b hb), fun b o hb => k.st b o (h2 b hb)⟩
def keyP : Key → P
  | .inl i => .int i
  | .inr x => .str x
mutual
def RepP (H : Hp) : P → V → Prop
  | .non, v => v = .non
  | .bl b, v => v = .bl b
  | .int i, v => v = .int i
  | .str x, v => v = .str x
  | .tup ps, v => ∃ a xs, v = .ref a ∧ H a = some (.tup xs) ∧ RepPs H ps xs
def RepPs (H : Hp) : List P → List V → Prop
  | [], xs => xs = []
  | p :: ps, xs => ∃ x r, xs = x :: r ∧ RepP H p x ∧ RepPs H ps r
end
def DctAt (tk : Bool) (rd : Addr → HO → Prop) (a : Addr) (ks : List P) (xs : List V) : Prop := ks.Nodup ∧ match tk with
  | false => ∃ kv : List (Key × V), rd a (.dK kv) ∧ ks = kv.map (fun e => keyP e.1) ∧ xs = kv.map (·.2)
  | true => ∃ kv : List (List Key × V), rd a (.dT kv) ∧ ks = kv.map (fun e => P.tup (e.1.map keyP)) ∧ xs = kv.map (·.2)
abbrev IsA (H : Hp) : Addr → HO → Prop := fun a o => H a = some o
mutual
def Rep (H : Hp) : T → V → Fp → Prop
  | .pv p, v, _ => RepP H p v
  | .tup ts, v, A => ∃ a xs, v = .ref a ∧ H a = some (.tup xs) ∧ Reps H ts xs A
  | .lst ts, v, A => ∃ a xs, v = .ref a ∧ H a = some (.lst xs) ∧ A a ∧ Reps H ts xs (fun b => A b ∧ b ≠ a)
  | .fls ts, v, A => ∃ a xs, v = .ref a ∧ (∃ o, H a = some (.frz o (.lst xs))) ∧ Reps H ts xs A
  | .dct tk ks ts, v, A => ∃ a xs, v = .ref a ∧ DctAt tk (IsA H) a ks xs ∧ A a ∧ Reps H ts xs (fun b => A b ∧ b ≠ a)
def Reps (H : Hp) : List T → List V → Fp → Prop
  | [], xs, _ => xs = []
  | t :: ts, xs, A => ∃ x r B C, xs = x :: r ∧ Rep H t x B ∧ Reps H ts r C ∧ Sub B A ∧ Sub C A ∧ Disj B C
end
def RdL (K : PySem.W.Frag) (Z : Fp) (H : Hp) (a : Addr) (xs : List V) : Prop := H a = some (.lst xs) ∧ Z a
def KL (K : PySem.W.Frag) (a : Addr) (xs : List V) : Prop := ∃ (o : Obj) (its : Array Value) (n : Nat), K.lookup a = some o ∧ o.cls = .type "list" ∧ o.dict = none ∧ o.data = .seq its n ∧ its.size ≤ sizeLine ∧ Vals xs its.toList
def FrL (K : PySem.W.Frag) (H : Hp) (a : Addr) (xs : List V) : Prop := (∃ o, H a = some (.frz o (.lst xs))) ∨ KL K a xs
mutual
def Vw (K : PySem.W.Frag) (Z : Fp) (H : Hp) : T → V → Prop
  | .pv p, v => RepP H p v
  | .tup ts, v => ∃ a xs, v = .ref a ∧ H a = some (.tup xs) ∧ Vws K Z H ts xs
  | .lst ts, v => ∃ a xs, v = .ref a ∧ RdL K Z H a xs ∧ Vws K Z H ts xs
  | .fls ts, v => ∃ a xs, v = .ref a ∧ FrL K H a xs ∧ Vws K Z H ts xs
  | .dct tk ks ts, v => ∃ a xs, v = .ref a ∧ DctAt tk (fun a o => (H a = some o ∧ Z a) ∨ ∃ ob, H a = some (.frz ob o)) a ks xs ∧ Vws K Z H ts xs
def Vws (K : PySem.W.Frag) (Z : Fp) (H : Hp) : List T → List V → Prop
  | [], xs => xs = []
  | t :: ts, xs => ∃ x r, xs = x :: r ∧ Vw K Z H t x ∧ Vws K Z H ts r
end
section
variable {K : PySem.W.Frag} {H H' : Hp}
mutual
theorem RepP.kp (tk : ∀ b xs, H b = some (.tup xs) → H' b = some (.tup xs)) : ∀ (p : P) (v : V), RepP H p v → RepP H' p v
  | .non, _, h => h
  | .bl _, _, h => h
  | .int _, _, h => h
  | .str _, _, h => h
  | .tup ps, _, h => by
    obtain ⟨a, xs, e, q, r⟩ := h
    exact ⟨a, xs, e, tk _ _ q, RepPs.kp tk ps xs r⟩
theorem RepPs.kp (tk : ∀ b xs, H b = some (.tup xs) → H' b = some (.tup xs)) : ∀ (ps : List P) (xs : List V), RepPs H ps xs → RepPs H' ps xs
  | [], _, h => h
  | p :: ps, _, h => by
    obtain ⟨x, r, e, h1, h2⟩ := h
    exact ⟨x, r, e, RepP.kp tk p x h1, RepPs.kp tk ps r h2⟩
end
theorem DctAt.imp {tk : Bool} {rd rd' : Addr → HO → Prop} {a : Addr} {ks : List P} {xs : List V} (h : ∀ o, rd a o → rd' a o) (d : DctAt tk rd a ks xs) : DctAt tk rd' a ks xs := by
  cases tk with
  | false =>
    obtain ⟨n, kv, h1, h2⟩ := d
    exact ⟨n, kv, h _ h1, h2⟩
  | true =>
    obtain ⟨n, kv, h1, h2⟩ := d
    exact ⟨n, kv, h _ h1, h2⟩
mutual
theorem Rep.mono {A B : Fp} (s : Sub A B) : ∀ (t : T) (v : V), Rep H t v A → Rep H t v B
  | .pv _, _, h => h
  | .tup ts, _, h => by
    obtain ⟨a, xs, e, q, r⟩ := h
    exact ⟨a, xs, e, q, Reps.mono s ts xs r⟩
  | .lst ts, _, h => by
    obtain ⟨a, xs, e, q, m, r⟩ := h
    exact ⟨a, xs, e, q, s a m, Reps.mono (fun b hb => ⟨s b hb.1, hb.2⟩) ts xs r⟩
  | .fls ts, _, h => by
    obtain ⟨a, xs, e, q, r⟩ := h
    exact ⟨a, xs, e, q, Reps.mono s ts xs r⟩
  | .dct tk ks ts, _, h => by
    obtain ⟨a, xs, e, q, m, r⟩ := h
    exact ⟨a, xs, e, q, s a m, Reps.mono (fun b hb => ⟨s b hb.1, hb.2⟩) ts xs r⟩
theorem Reps.mono {A B : Fp} (s : Sub A B) : ∀ (ts : List T) (xs : List V), Reps H ts xs A → Reps H ts xs B
  | [], _, h => h
  | _ :: _, _, h => by
    obtain ⟨x, r, C, D, e, h1, h2, s1, s2, d⟩ := h
    exact ⟨x, r, C, D, e, h1, h2, fun a ha => s a (s1 a ha), fun a ha => s a (s2 a ha), d⟩
end
mutual
theorem Rep.kp {A Z : Fp} (k : Kp A Z H H') : ∀ (t : T) (v : V), Rep H t v A → Rep H' t v A
  | .pv p, v, h => RepP.kp k.tk p v h
  | .tup ts, _, h => by
    obtain ⟨a, xs, e, q, r⟩ := h
    exact ⟨a, xs, e, k.tk _ _ q, Reps.kp k ts xs r⟩
  | .lst ts, _, h => by
    obtain ⟨a, xs, e, q, m, r⟩ := h
    exact ⟨a, xs, e, k.own _ _ m q, m, Reps.kp (k.mono (fun b hb => hb.1) fun _ h => h) ts xs r⟩
  | .fls ts, _, h => by
    obtain ⟨a, xs, e, ⟨o, q⟩, r⟩ := h
    exact ⟨a, xs, e, ⟨o, k.fk _ _ _ q⟩, Reps.kp k ts xs r⟩
  | .dct tk ks ts, _, h => by
    obtain ⟨a, xs, e, q, m, r⟩ := h
    exact ⟨a, xs, e, q.imp fun o h => k.own _ _ m h, m, Reps.kp (k.mono (fun b hb => hb.1) fun _ h => h) ts xs r⟩
theorem Reps.kp {A Z : Fp} (k : Kp A Z H H') : ∀ (ts : List T) (xs : List V), Reps H ts xs A → Reps H' ts xs A
  | [], _, h => h
  | t :: ts, _, h => by
    obtain ⟨x, r, C, D, e, h1, h2, s1, s2, d⟩ := h
    exact ⟨x, r, C, D, e, Rep.kp (k.mono s1 fun _ h => h) t x h1, Reps.kp (k.mono s2 fun _ h => h) ts r h2, s1, s2, d⟩
end
theorem RdL.kp {C Z : Fp} (k : Kp C Z H H') {a : Addr} {xs : List V} (h : RdL K Z H a xs) : RdL K Z H' a xs := ⟨k.st _ _ h.2 h.1, h.2⟩
theorem FrL.kp {C Z : Fp} (k : Kp C Z H H') {a : Addr} {xs : List V} (h : FrL K H a xs) : FrL K H' a xs := h.imp (fun ⟨o, q⟩ => ⟨o, k.fk _ _ _ q⟩) id
theorem RdL.mono {Z Z' : Fp} (s : Sub Z Z') {a : Addr} {xs : List V} (h : RdL K Z H a xs) : RdL K Z' H a xs := ⟨h.1, s _ h.2⟩
mutual
theorem Vw.kp {C Z : Fp} (k : Kp C Z H H') : ∀ (t : T) (v : V), Vw K Z H t v → Vw K Z H' t v
  | .pv p, v, h => RepP.kp k.tk p v h
  | .tup ts, _, h => by
    obtain ⟨a, xs, e, q, r⟩ := h
    exact ⟨a, xs, e, k.tk _ _ q, Vws.kp k ts xs r⟩
  | .lst ts, _, h => by
    obtain ⟨a, xs, e, q, r⟩ := h
    exact ⟨a, xs, e, q.kp k, Vws.kp k ts xs r⟩
  | .fls ts, _, h => by
    obtain ⟨a, xs, e, q, r⟩ := h
    exact ⟨a, xs, e, q.kp k, Vws.kp k ts xs r⟩
  | .dct tk ks ts, _, h => by
    obtain ⟨a, xs, e, q, r⟩ := h
    exact ⟨a, xs, e, q.imp fun o h => h.imp (fun z => ⟨k.st _ _ z.2 z.1, z.2⟩) fun ⟨ob, z⟩ => ⟨ob, k.fk _ _ _ z⟩, Vws.kp k ts xs r⟩
theorem Vws.kp {C Z : Fp} (k : Kp C Z H H') : ∀ (ts : List T) (xs : List V), Vws K Z H ts xs → Vws K Z H' ts xs
  | [], _, h => h
  | t :: ts, _, h => by
    obtain ⟨x, r, e, h1, h2⟩ := h
    exact ⟨x, r, e, Vw.kp k t x h1, Vws.kp k ts r h2⟩
end
mutual
theorem Vw.mono {Z Z' : Fp} (s : Sub Z Z') : ∀ (t : T) (v : V), Vw K Z H t v → Vw K Z' H t v
  | .pv p, v, h => h
  | .tup ts, _, h => by
    obtain ⟨a, xs, e, q, r⟩ := h
    exact ⟨a, xs, e, q, Vws.mono s ts xs r⟩
  | .lst ts, _, h => by
    obtain ⟨a, xs, e, q, r⟩ := h
    exact ⟨a, xs, e, q.mono s, Vws.mono s ts xs r⟩
  | .fls ts, _, h => by
    obtain ⟨a, xs, e, q, r⟩ := h
    exact ⟨a, xs, e, q, Vws.mono s ts xs r⟩
  | .dct tk ks ts, _, h => by
    obtain ⟨a, xs, e, q, r⟩ := h
    exact ⟨a, xs, e, q.imp fun o h => h.imp (fun z => ⟨z.1, s _ z.2⟩) id, Vws.mono s ts xs r⟩
theorem Vws.mono {Z Z' : Fp} (s : Sub Z Z') : ∀ (ts : List T) (xs : List V), Vws K Z H ts xs → Vws K Z' H ts xs
  | [], _, h => h
  | t :: ts, _, h => by
    obtain ⟨x, r, e, h1, h2⟩ := h
    exact ⟨x, r, e, Vw.mono s t x h1, Vws.mono s ts r h2⟩
end
mutual
theorem Rep.vw {A Z : Fp} (s : Sub A Z) : ∀ (t : T) (v : V), Rep H t v A → Vw K Z H t v
  | .pv p, v, h => h
  | .tup ts, _, h => by
    obtain ⟨a, xs, e, q, r⟩ := h
    exact ⟨a, xs, e, q, Reps.vw s ts xs r⟩
  | .lst ts, _, h => by
    obtain ⟨a, xs, e, q, m, r⟩ := h
    exact ⟨a, xs, e, ⟨q, s a m⟩, Reps.vw (fun b hb => s b hb.1) ts xs r⟩
  | .fls ts, _, h => by
    obtain ⟨a, xs, e, q, r⟩ := h
    exact ⟨a, xs, e, .inl q, Reps.vw s ts xs r⟩
  | .dct tk ks ts, _, h => by
    obtain ⟨a, xs, e, q, m, r⟩ := h
    exact ⟨a, xs, e, q.imp fun o h => .inl ⟨h, s a m⟩, Reps.vw (fun b hb => s b hb.1) ts xs r⟩
theorem Reps.vw {A Z : Fp} (s : Sub A Z) : ∀ (ts : List T) (xs : List V), Reps H ts xs A → Vws K Z H ts xs
  | [], _, h => h
  | t :: ts, _, h => by
    obtain ⟨x, r, B, C, e, h1, h2, s1, s2, d⟩ := h
    exact ⟨x, r, e, Rep.vw (fun a ha => s a (s1 a ha)) t x h1, Reps.vw (fun a ha => s a (s2 a ha)) ts r h2⟩
end
def SlRep (K : PySem.W.Frag) (Z : Fp) (H : Hp) (o : Option V) : Sl → Fp → Prop
  | .no, _ => True
  | .ow t, A => ∃ v, o = some v ∧ Rep H t v A
  | .vw t, _ => ∃ v, o = some v ∧ Vw K Z H t v
def EnvRep (K : PySem.W.Frag) (Z : Fp) (H : Hp) : List (Option V) → Env → Fp → Prop
  | [], [], _ => True
  | o :: σ, s :: ρ, A => ∃ B C, SlRep K Z H o s B ∧ EnvRep K Z H σ ρ C ∧ Sub B A ∧ Sub C A ∧ Disj B C
  | _, _, _ => False
theorem SlRep.kp {C Z : Fp} (k : Kp C Z H H') {o : Option V} {s : Sl} (h : SlRep K Z H o s C) : SlRep K Z H' o s C := by
  cases s with
  | no => trivial
  | ow t => obtain ⟨v, e, r⟩ := h; exact ⟨v, e, Rep.kp k t v r⟩
  | vw t => obtain ⟨v, e, r⟩ := h; exact ⟨v, e, Vw.kp k t v r⟩
theorem SlRep.mono {A B Z Z' : Fp} (s : Sub A B) (z : Sub Z Z') {o : Option V} {x : Sl} (h : SlRep K Z H o x A) : SlRep K Z' H o x B := by
  cases x with
  | no => trivial
  | ow t => obtain ⟨v, e, r⟩ := h; exact ⟨v, e, Rep.mono s t v r⟩
  | vw t => obtain ⟨v, e, r⟩ := h; exact ⟨v, e, Vw.mono z t v r⟩
theorem EnvRep.kp {Z : Fp} : ∀ {σ : List (Option V)} {ρ : Env} {A : Fp}, Kp A Z H H' → EnvRep K Z H σ ρ A → EnvRep K Z H' σ ρ A
  | [], [], _, _, _ => trivial
  | o :: σ, s :: ρ, A, k, h => by
    obtain ⟨B, C, h1, h2, s1, s2, d⟩ := h
    exact ⟨B, C, h1.kp (k.mono s1 fun _ h => h), EnvRep.kp (k.mono s2 fun _ h => h) h2, s1, s2, d⟩
  | [], _ :: _, _, _, h => h.elim
  | _ :: _, [], _, _, h => h.elim
theorem EnvRep.mono {Z Z' : Fp} (z : Sub Z Z') : ∀ {σ : List (Option V)} {ρ : Env} {A B : Fp}, Sub A B → EnvRep K Z H σ ρ A → EnvRep K Z' H σ ρ B
  | [], [], _, _, _, _ => trivial
  | o :: σ, s :: ρ, A, B', s', h => by
    obtain ⟨B, C, h1, h2, s1, s2, d⟩ := h
    exact ⟨B, C, h1.mono (fun _ h => h) z, h2.mono z (fun _ h => h), fun a ha => s' a (s1 a ha), fun a ha => s' a (s2 a ha), d⟩
  | [], _ :: _, _, _, _, h => h.elim
  | _ :: _, [], _, _, _, h => h.elim
theorem EnvRep.len {Z : Fp} : ∀ {σ : List (Option V)} {ρ : Env} {A : Fp}, EnvRep K Z H σ ρ A → σ.length = ρ.length
  | [], [], _, _ => rfl
  | o :: σ, s :: ρ, A, h => by
    obtain ⟨B, C, h1, h2, s1, s2, d⟩ := h
    simp [h2.len]
  | [], _ :: _, _, h => h.elim
  | _ :: _, [], _, h => h.elim
theorem EnvRep.at {Z : Fp} : ∀ {σ : List (Option V)} {ρ : Env} {A : Fp} {i : Nat} {s : Sl}, EnvRep K Z H σ ρ A → ρ[i]? = some s →
    ∃ o B C, σ[i]? = some o ∧ SlRep K Z H o s B ∧ Sub B A ∧ Sub C A ∧ Disj B C ∧
      ∀ (H' : Hp) (Z' : Fp), Kp C Z H H' → Sub Z Z' → ∀ (o' : Option V) (s' : Sl) (D : Fp), SlRep K Z' H' o' s' D → Disj D C → EnvRep K Z' H' (σ.set i o') (ρ.set i s') (un D C)
  | [], [], _, _, _, _, e => by simp at e
  | o :: σ, s :: ρ, A, 0, s0, h, e => by
    obtain ⟨B, C, h1, h2, s1, s2, d⟩ := h
    obtain rfl : s = s0 := by simpa using e
    refine ⟨o, B, C, rfl, h1, s1, s2, d, fun H' Z' k z o' s' D hD dD => ⟨D, C, hD, (EnvRep.kp k h2).mono z fun _ h => h, fun _ h => .inl h, fun _ h => .inr h, dD⟩⟩
  | o :: σ, s :: ρ, A, i + 1, s0, h, e => by
    obtain ⟨B, C, h1, h2, s1, s2, d⟩ := h
    obtain ⟨oi, Bi, Ci, e1, r1, sb, sc, di, put⟩ := EnvRep.at (i := i) h2 (by simpa using e)
    refine ⟨oi, Bi, un B Ci, by simpa using e1, r1, fun a ha => s2 a (sb a ha), fun a ha => ha.elim (s1 a) fun z => s2 a (sc a z), fun a h1 h2 => h2.elim (fun z => d a z (sb a h1)) (di a h1), ?_⟩
    intro H' Z' k z o' s' D hD dD
    refine ⟨B, un D Ci, (h1.kp (k.mono (fun _ h => .inl h) fun _ h => h)).mono (fun _ h => h) z, put H' Z' (k.mono (fun _ h => .inr h) fun _ h => h) z o' s' D hD fun a h1 h2 => dD a h1 (.inr h2), fun a ha => .inr (.inl ha), fun a ha => ha.elim .inl fun z => .inr (.inr z), ?_⟩
    intro a hb hdc
    rcases hdc with q | q
    · exact dD a q (.inl hb)
    · exact d a hb (sc a q)
  | [], _ :: _, _, _, _, h, _ => h.elim
  | _ :: _, [], _, _, _, h, _ => h.elim
end
structure Good (K : PySem.W.Frag) (Z : Fp) (H : Hp) (σ : L2.St) (ρ : Env) (A : Fp) : Prop where
  env : EnvRep K Z H σ ρ A
  dis : Disj Z A
  alZ : Al H Z
  alA : Al H A
section
variable {K : PySem.W.Frag} {Z A : Fp} {H H' : Hp} {σ : L2.St} {ρ : Env}
theorem Good.ext (g : Good K Z H σ ρ A) (e : Ext H H') : Good K Z H' σ ρ A := ⟨g.env.kp e.kp, g.dis, e.al g.alZ, e.al g.alA⟩
end
end TR
namespace TR
open PySem PySem.Spec PyProof.Rows L2
abbrev Stt := List (Option V)
def ExcRep (mg : Str → Option Value) (H : Hp) (e : Exn) (cls : Value) (d : Option Addr) : Prop :=
  mg e.c = some cls ∧ match e.fs with
    | [] => d = none
    | fs => ∃ dd vs, d = some dd ∧ H dd = some (.xd ((fs.map (·.1)).zip vs)) ∧ RepPs H (fs.map (·.2)) vs
inductive Md where | e | z | o
def ResM (K : PySem.W.Frag) (Z : Fp) (H : Hp) : Md → Hp → T → V → Prop
  | .e, H', t, v => Vw K top H' t v
  | .z, H', t, v => Vw K Z H' t v
  | .o, H', t, v => ∃ B, Rep H' t v B ∧ Fresh H B ∧ Al H' B
inductive AV where
  | late (i : Nat) | val (t : T)
def AvRep (σ : Stt) (H : Hp) : AV → V → Fp → Prop
  | .late i, v, _ => σ[i]? = some (some v)
  | .val t, v, B => Rep H t v B
def Sl.t? : Sl → Option T
  | .no => none
  | .ow t => some t
  | .vw t => some t
def AV.see (ρ : Env) : AV → Option T
  | .late i => (ρ[i]?).bind Sl.t?
  | .val t => some t
section
variable (K : PySem.W.Frag) (mg : Str → Option Value) (W : WX)
def FQ (m : Md) (f : Env → R Unit T) : TE := fun σ H Q => ∃ ρ Z A, Good K Z H σ ρ A ∧ match f ρ with
  | .ok t => ∀ v H', Ext H H' → ResM K Z H m H' t v → Q v H'
  | .exc e _ => ∀ cls d H', Ext H H' → ExcRep mg H' e cls d → W cls d σ H'
  | .bad => False
def FQT (f : Env → R Unit Bool) : TT := fun σ H Q => ∃ ρ Z A, Good K Z H σ ρ A ∧ match f ρ with
  | .ok b => ∀ H', Ext H H' → Q b H'
  | .exc e _ => ∀ cls d H', Ext H H' → ExcRep mg H' e cls d → W cls d σ H'
  | .bad => False
def FQA (f : Env → R Unit (List T)) : TA := fun σ H Q => ∃ ρ Z A, Good K Z H σ ρ A ∧ match f ρ with
  | .ok ts => ∀ vs H', Ext H H' → Vws K top H' ts vs → Q vs H'
  | .exc e _ => ∀ cls d H', Ext H H' → ExcRep mg H' e cls d → W cls d σ H'
  | .bad => False
def FOA (f : Env → R Unit (List T)) : TA := fun σ H Q => ∃ ρ Z A, Good K Z H σ ρ A ∧ match f ρ with
  | .ok ts => ∀ vs H' B, Ext H H' → Reps H' ts vs B → Fresh H B → Al H' B → Q vs H'
  | .exc e _ => ∀ cls d H', Ext H H' → ExcRep mg H' e cls d → W cls d σ H'
  | .bad => False
def FS (f : Env → R Env (AV × Env)) : TE := fun σ H Q => ∃ ρ Z A, Good K Z H σ ρ A ∧ match f ρ with
  | .ok (av, ρ') => ∀ v H' A' B, Good K Z H' σ ρ' A' → AvRep σ H' av v B → Disj B A' → Al H' B → Step H A H' (un A' B) → Q v H'
  | .exc e ρ' => ∀ cls d H' A', Good K Z H' σ ρ' A' → Step H A H' A' → ExcRep mg H' e cls d → W cls d σ H'
  | .bad => False
def FST (f : Env → R Env (Bool × Env)) : TT := fun σ H Q => ∃ ρ Z A, Good K Z H σ ρ A ∧ match f ρ with
  | .ok (b, ρ') => ∀ H' A', Good K Z H' σ ρ' A' → Step H A H' A' → Q b H'
  | .exc e ρ' => ∀ cls d H' A', Good K Z H' σ ρ' A' → Step H A H' A' → ExcRep mg H' e cls d → W cls d σ H'
  | .bad => False
inductive AvReps (σ : Stt) (H : Hp) : List AV → List V → Fp → Prop
  | nil {A : Fp} : AvReps σ H [] [] A
  | cons {a : AV} {v : V} {as : List AV} {vs : List V} {A B C : Fp} : AvRep σ H a v B → AvReps σ H as vs C → Sub B A → Sub C A → Disj B C → AvReps σ H (a :: as) (v :: vs) A
def FSA (f : Env → R Env (List AV × Env)) : TA := fun σ H Q => ∃ ρ Z A, Good K Z H σ ρ A ∧ match f ρ with
  | .ok (as, ρ') => ∀ vs H' A' B, Good K Z H' σ ρ' A' → AvReps σ H' as vs B → Disj B A' → Al H' B → Step H A H' (un A' B) → Q vs H'
  | .exc e ρ' => ∀ cls d H' A', Good K Z H' σ ρ' A' → Step H A H' A' → ExcRep mg H' e cls d → W cls d σ H'
  | .bad => False
inductive Fl where | nx | rt (t : T) | bk | ct
def Agree (kp : Nat → Bool) (σ σ' : Stt) : Prop := σ'.length = σ.length ∧ ∀ i, kp i = true → σ'[i]? = σ[i]?
def FT (kp : Nat → Bool) (f : Env → R Env (Fl × Env)) : TS := fun D σ H => ∃ ρ Z A, Good K Z H σ ρ A ∧ match f ρ with
  | .ok (.nx, ρ') => ∀ σ' H' Z' A', Good K Z' H' σ' ρ' A' → Step H A H' A' → Agree kp σ σ' → D.nx σ' H'
  | .ok (.bk, ρ') => ∀ σ' H' Z' A', Good K Z' H' σ' ρ' A' → Step H A H' A' → Agree kp σ σ' → D.bk σ' H'
  | .ok (.ct, ρ') => ∀ σ' H' Z' A', Good K Z' H' σ' ρ' A' → Step H A H' A' → Agree kp σ σ' → D.ct σ' H'
  | .ok (.rt t, ρ') => ∀ v σ' H' Z' A' B, Good K Z' H' σ' ρ' A' → Rep H' t v B → Disj B A' → Al H' B → Step H A H' (un A' B) → Agree kp σ σ' → D.rt v H'
  | .exc e ρ' => ∀ cls d σ' H' Z' A', Good K Z' H' σ' ρ' A' → Step H A H' A' → Agree kp σ σ' → ExcRep mg H' e cls d → W cls d σ' H'
  | .bad => False
end
section
variable (X : Cx) (W : WX)
def JQ (m : Md) (e : Expr) (f : Env → R Unit T) : Prop := PE X e (FQ X.K X.mg W m f)
def JQT (e : Expr) (f : Env → R Unit Bool) : Prop := PT X e (FQT X.K X.mg W f)
def JQA (es : List Expr) (f : Env → R Unit (List T)) : Prop := PA X es (FQA X.K X.mg W f)
def JOA (es : List Expr) (f : Env → R Unit (List T)) : Prop := PA X es (FOA X.K X.mg W f)
def JS (e : Expr) (f : Env → R Env (AV × Env)) : Prop := PE X e (FS X.K X.mg W f)
def JST (e : Expr) (f : Env → R Env (Bool × Env)) : Prop := PT X e (FST X.K X.mg W f)
def JSA (es : List Expr) (f : Env → R Env (List AV × Env)) : Prop := PA X es (FSA X.K X.mg W f)
def JT (kp : Nat → Bool) (st : Stmt) (f : Env → R Env (Fl × Env)) : Prop := PS X st (FT X.K X.mg W kp f)
def JTs (kp : Nat → Bool) (sts : List Stmt) (f : Env → R Env (Fl × Env)) : Prop := PSs X sts (FT X.K X.mg W kp f)
end
section
variable {X : Cx} {W : WX}
theorem peM {e : Expr} {t u : TE} (h : PE X e t) (m : ∀ σ H Q, u σ H Q → t σ H Q) : PE X e u := ⟨fun pins s σ H Q I q => h.run pins s σ H Q I (m σ H Q q)⟩
theorem ptM {e : Expr} {t u : TT} (h : PT X e t) (m : ∀ σ H Q, u σ H Q → t σ H Q) : PT X e u := ⟨fun pins s σ H Q I q => h.run pins s σ H Q I (m σ H Q q)⟩
theorem paM {e : List Expr} {t u : TA} (h : PA X e t) (m : ∀ σ H Q, u σ H Q → t σ H Q) : PA X e u := ⟨fun pos pins s σ H Q I q => h.run pos pins s σ H Q I (m σ H Q q)⟩
theorem psM {e : Stmt} {t u : TS} (h : PS X e t) (m : ∀ D σ H, u D σ H → t D σ H) : PS X e u := ⟨fun pins s σ H D I q => h.run pins s σ H D I (m D σ H q)⟩
theorem pssM {e : List Stmt} {t u : TS} (h : PSs X e t) (m : ∀ D σ H, u D σ H → t D σ H) : PSs X e u := ⟨fun pins s σ H D I q => h.run pins s σ H D I (m D σ H q)⟩
theorem ResM.o_e {K : PySem.W.Frag} {Z : Fp} {H H' : Hp} {t : T} {v : V} (h : ResM K Z H .o H' t v) : ResM K Z H .e H' t v := by
  obtain ⟨B, r, _, _⟩ := h
  exact Rep.vw (fun _ _ => trivial) t v r
theorem ResM.z_e {K : PySem.W.Frag} {Z : Fp} {H H' : Hp} {t : T} {v : V} (h : ResM K Z H .z H' t v) : ResM K Z H .e H' t v := Vw.mono (fun _ _ => trivial) t v h
theorem JQ.imp {m m' : Md} {e : Expr} {f : Env → R Unit T} (h : JQ X W m e f) (i : ∀ K Z H H' t v, ResM K Z H m H' t v → ResM K Z H m' H' t v) : JQ X W m' e f :=
  peM h fun σ H Q ⟨ρ, Z, A, G, q⟩ => ⟨ρ, Z, A, G, by
    revert q
    cases f ρ with
    | ok t => exact fun q v H' e r => q v H' e (i _ _ _ _ _ _ r)
    | exc e r => exact id
    | bad => exact id⟩
theorem q_oe {e : Expr} {f : Env → R Unit T} (h : JQ X W .o e f) : JQ X W .e e f := h.imp fun _ _ _ _ _ _ => ResM.o_e
theorem q_ze {e : Expr} {f : Env → R Unit T} (h : JQ X W .z e f) : JQ X W .e e f := h.imp fun _ _ _ _ _ _ => ResM.z_e
def fPure (f : Env → R Unit T) : Env → R Unit T := fun ρ => (f ρ).bind fun t => match t with
  | .pv p => .ok (.pv p)
  | _ => .bad
theorem q_pure {m : Md} {e : Expr} {f : Env → R Unit T} (h : JQ X W .e e f) : JQ X W m e (fPure f) :=
  peM h fun σ H Q ⟨ρ, Z, A, G, q⟩ => ⟨ρ, Z, A, G, by
    revert q
    unfold fPure
    cases f ρ with
    | ok t =>
      cases t with
      | pv p => exact fun q v H' e r => q v H' e (by
          have r' : RepP H' p v := r
          cases m with
          | e => exact r'
          | z => exact r'
          | o => exact ⟨emp, r', fun _ z => z.elim, fun _ z => z.elim⟩)
      | _ => exact fun q => q.elim
    | exc e r => exact id
    | bad => exact fun q => q.elim⟩
def fVal (f : Env → R Unit T) : Env → R Env (AV × Env) := fun ρ => match f ρ with
  | .ok t => .ok (.val t, ρ)
  | .exc e _ => .exc e ρ
  | .bad => .bad
theorem s_o {e : Expr} {f : Env → R Unit T} (h : JQ X W .o e f) : JS X W e (fVal f) :=
  peM h fun σ H Q ⟨ρ, Z, A, G, q⟩ => ⟨ρ, Z, A, G, by
    revert q
    unfold fVal
    cases f ρ with
    | ok t => exact fun q v H' e ⟨B, r, fr, al⟩ => q v H' A B (G.ext e) r (fun a hb ha => G.alA a ha (fr a hb)) al (Step.ext e fr)
    | exc e r => exact fun q cls d H' e x => q cls d H' A (G.ext e) (Step.ext0 e) x
    | bad => exact id⟩
def fLate (i : Nat) : Env → R Env (AV × Env) := fun ρ => .ok (.late i, ρ)
theorem slot_of {K : PySem.W.Frag} {Z A : Fp} {H : Hp} {σ : Stt} {ρ : Env} {i : Nat} {s : Sl} (g : EnvRep K Z H σ ρ A) (e : ρ[i]? = some s) : ∃ o B, σ[i]? = some o ∧ SlRep K Z H o s B ∧ Sub B A := by
  obtain ⟨o, B, C, h1, h2, h3, _⟩ := g.at e
  exact ⟨o, B, h1, h2, h3⟩
def fVar (i : Nat) : Env → R Unit T := fun ρ => match ρ[i]? with
  | some (.ow t) => .ok t
  | some (.vw t) => .ok t
  | _ => .bad
def fVarZ (i : Nat) : Env → R Unit T := fun ρ => match ρ[i]? with
  | some (.ow (.pv p)) => .ok (.pv p)
  | some (.vw t) => .ok t
  | _ => .bad
theorem q_var (i : Nat) {x : Str} {pos : Pos} (hN : X.N[i]? = some x := by rfl) (hv : Vis X.env.scope x := by first | exact Or.inl rfl | exact Or.inr (Or.inl rfl) | exact Or.inr (Or.inr rfl)) (hd : (x == ("__debug__" : Str)) = false := by decide)
    (hcd : (x == ("__classdict__" : Str)) = false := by decide) : JQ X W .e (.Name x pos) (fVar i) := by
  refine peM (pe_var (i := i) hN hv hd hcd) fun σ H Q ⟨ρ, Z, A, G, q⟩ => ?_
  unfold fVar at q
  cases e : ρ[i]? with
  | none => rw [e] at q; exact q.elim
  | some s =>
    rw [e] at q
    obtain ⟨o, B, h1, h2, h3⟩ := slot_of G.env e
    cases s with
    | no => exact q.elim
    | ow t =>
      obtain ⟨v, e1, r⟩ := h2
      exact ⟨v, by rw [h1, e1], q v H (Ext.refl H) (Rep.vw (fun _ _ => trivial) t v r)⟩
    | vw t =>
      obtain ⟨v, e1, r⟩ := h2
      exact ⟨v, by rw [h1, e1], q v H (Ext.refl H) (Vw.mono (fun _ _ => trivial) t v r)⟩
theorem q_varZ (i : Nat) {x : Str} {pos : Pos} (hN : X.N[i]? = some x := by rfl) (hv : Vis X.env.scope x := by first | exact Or.inl rfl | exact Or.inr (Or.inl rfl) | exact Or.inr (Or.inr rfl)) (hd : (x == ("__debug__" : Str)) = false := by decide)
    (hcd : (x == ("__classdict__" : Str)) = false := by decide) : JQ X W .z (.Name x pos) (fVarZ i) := by
  refine peM (pe_var (i := i) hN hv hd hcd) fun σ H Q ⟨ρ, Z, A, G, q⟩ => ?_
  unfold fVarZ at q
  cases e : ρ[i]? with
  | none => rw [e] at q; exact q.elim
  | some s =>
    rw [e] at q
    obtain ⟨o, B, h1, h2, h3⟩ := slot_of G.env e
    cases s with
    | no => exact q.elim
    | ow t =>
      cases t with
      | pv p =>
        obtain ⟨v, e1, r⟩ := h2
        exact ⟨v, by rw [h1, e1], q v H (Ext.refl H) r⟩
      | _ => exact q.elim
    | vw t =>
      obtain ⟨v, e1, r⟩ := h2
      exact ⟨v, by rw [h1, e1], q v H (Ext.refl H) r⟩
def fLateN (i : Nat) : Env → R Env (AV × Env) := fun ρ => match ρ[i]? with
  | some (.ow _) => .ok (.late i, ρ)
  | some (.vw _) => .ok (.late i, ρ)
  | _ => .bad
theorem s_late (i : Nat) {x : Str} {pos : Pos} (hN : X.N[i]? = some x := by rfl) (hv : Vis X.env.scope x := by first | exact Or.inl rfl | exact Or.inr (Or.inl rfl) | exact Or.inr (Or.inr rfl)) (hd : (x == ("__debug__" : Str)) = false := by decide)
    (hcd : (x == ("__classdict__" : Str)) = false := by decide) : JS X W (.Name x pos) (fLateN i) := by
  refine peM (pe_var (i := i) hN hv hd hcd) fun σ H Q ⟨ρ, Z, A, G, q⟩ => ?_
  unfold fLateN at q
  have st : Step H A H (un A emp) := ⟨(Step.refl H A).keep, (Step.refl H A).dom, fun b h => h.elim .inl fun z => z.elim⟩
  cases e : ρ[i]? with
  | none => rw [e] at q; exact q.elim
  | some s =>
    rw [e] at q
    obtain ⟨o, B, h1, h2, h3⟩ := slot_of G.env e
    cases s with
    | no => exact q.elim
    | ow t =>
      obtain ⟨v, e1, r⟩ := h2
      exact ⟨v, by rw [h1, e1], q v H A emp G (by show σ[i]? = _; rw [h1, e1]) (fun _ z => z.elim) (fun _ z => z.elim) st⟩
    | vw t =>
      obtain ⟨v, e1, r⟩ := h2
      exact ⟨v, by rw [h1, e1], q v H A emp G (by show σ[i]? = _; rw [h1, e1]) (fun _ z => z.elim) (fun _ z => z.elim) st⟩
theorem see_vw {K : PySem.W.Frag} {Z A B : Fp} {H : Hp} {σ : Stt} {ρ : Env} {a : AV} {v : V} {t : T} (g : Good K Z H σ ρ A) (r : AvRep σ H a v B) (e : a.see ρ = some t) : Vw K top H t v := by
  cases a with
  | val u =>
    have e' : u = t := Option.some.inj e
    subst e'
    exact Rep.vw (fun _ _ => trivial) _ v r
  | late i =>
    have r' : σ[i]? = some (some v) := r
    have e' : (ρ[i]?).bind Sl.t? = some t := e
    cases q : ρ[i]? with
    | none => rw [q] at e'; cases e'
    | some s =>
      rw [q] at e'
      obtain ⟨o, B, h1, h2, _⟩ := slot_of g.env q
      rw [h1] at r'
      have er : o = some v := Option.some.inj r'
      subst er
      cases s with
      | no => cases e'
      | ow u =>
        have e2 : u = t := Option.some.inj e'
        subst e2
        obtain ⟨w, e3, r3⟩ := h2
        cases e3
        exact Rep.vw (fun _ _ => trivial) _ v r3
      | vw u =>
        have e2 : u = t := Option.some.inj e'
        subst e2
        obtain ⟨w, e3, r3⟩ := h2
        cases e3
        exact Vw.mono (fun _ _ => trivial) _ v r3
end
end TR
namespace TR
open PySem PySem.Spec PyProof.Rows L2
abbrev NewR (H : Hp) (q : T) (Q : VK) : Prop := ∀ v' H' B, Ext H H' → Rep H' q v' B → Fresh H B → Al H' B → Q v' H'
theorem NewR.pure {H : Hp} {p : P} {Q : VK} {v : V} (n : NewR H (.pv p) Q) (r : RepP H p v) : Q v H := n v H emp (Ext.refl H) r (fun _ z => z.elim) (fun _ z => z.elim)
theorem NewR.lst {H : Hp} {ts : List T} {Q : VK} {p : Addr} {xs : List V} (n : NewR H (.lst ts) Q) (hp : H p = none) (r : Reps (upd H p (.lst xs)) ts xs emp) : Q (.ref p) (upd H p (.lst xs)) :=
  n _ _ (fun b => b = p) (Ext.new hp) ⟨p, xs, rfl, upd_same, rfl, Reps.mono (fun _ z => z.elim) _ _ r⟩ (fun b e => by rw [e]; exact hp) fun b e => by rw [e, upd_same]; intro z; cases z
theorem NewR.tup {H : Hp} {ps : List P} {Q : VK} {p : Addr} {xs : List V} (n : NewR H (.pv (.tup ps)) Q) (hp : H p = none) (r : RepPs (upd H p (.tup xs)) ps xs) : Q (.ref p) (upd H p (.tup xs)) :=
  n _ _ emp (Ext.new hp) ⟨p, xs, rfl, upd_same, r⟩ (fun _ z => z.elim) fun _ z => z.elim
def Ok1 (K : PySem.W.Frag) (r : V → Hp → VK → Prop) (g : T → Option T) : Prop := ∀ H t v q, Vw K top H t v → g t = some q → ∀ Q, NewR H q Q → r v H Q
def Ok2 (K : PySem.W.Frag) (r : R2) (g : T → T → Option T) : Prop := ∀ H t u v w q, Vw K top H t v → Vw K top H u w → g t u = some q → ∀ Q, NewR H q Q → r v w H Q
def OkN (K : PySem.W.Frag) (r : List V → Hp → VK → Prop) (g : List T → Option T) : Prop := ∀ H ts vs q, Vws K top H ts vs → g ts = some q → ∀ Q, NewR H q Q → r vs H Q
def f1 (g : T → Option T) (fa : Env → R Unit T) : Env → R Unit T := fun ρ => (fa ρ).bind fun t => R.of (g t)
def f2 (g : T → T → Option T) (fa fb : Env → R Unit T) : Env → R Unit T := fun ρ => (fa ρ).bind fun t => (fb ρ).bind fun u => R.of (g t u)
def fN (g : List T → Option T) (fa : Env → R Unit (List T)) : Env → R Unit T := fun ρ => (fa ρ).bind fun t => R.of (g t)
def s1 (g : T → Option T) (fa : Env → R Env (AV × Env)) : Env → R Env (AV × Env) := fun ρ => (fa ρ).bind fun (x, ρ1) => R.of ((x.see ρ1).bind fun t => (g t).map fun q => (AV.val q, ρ1))
def s2 (g : T → T → Option T) (fa fb : Env → R Env (AV × Env)) : Env → R Env (AV × Env) := fun ρ => (fa ρ).bind fun (x, ρ1) => (fb ρ1).bind fun (y, ρ2) =>
  R.of ((x.see ρ2).bind fun t => (y.see ρ2).bind fun u => (g t u).map fun q => (AV.val q, ρ2))
def sees (ρ : Env) : List AV → Option (List T)
  | [] => some []
  | a :: as => (a.see ρ).bind fun t => (sees ρ as).map fun ts => t :: ts
def sN (g : List T → Option T) (fa : Env → R Env (List AV × Env)) : Env → R Env (AV × Env) := fun ρ => (fa ρ).bind fun (xs, ρ1) => R.of ((sees ρ1 xs).bind fun ts => (g ts).map fun q => (AV.val q, ρ1))
section
variable {X : Cx} {W : WX} {K : PySem.W.Frag} {mg : Str → Option Value}
theorem AvRep.kp {σ : Stt} {H H' : Hp} {B Z : Fp} (k : Kp B Z H H') {a : AV} {v : V} (r : AvRep σ H a v B) : AvRep σ H' a v B := by
  cases a with
  | late i => exact r
  | val t => exact Rep.kp k t v r
theorem AvReps.kp {σ : Stt} {H H' : Hp} {Z : Fp} {as : List AV} {vs : List V} {B : Fp} (r : AvReps σ H as vs B) : Kp B Z H H' → AvReps σ H' as vs B := by
  induction r with
  | nil => exact fun _ => .nil
  | cons h1 h2 s1 s2 d ih => exact fun k => .cons (h1.kp (k.mono s1 fun _ h => h)) (ih (k.mono s2 fun _ h => h)) s1 s2 d
theorem Vws.len {Z : Fp} {H : Hp} : ∀ {ts : List T} {vs : List V}, Vws K Z H ts vs → ts.length = vs.length
  | [], vs, h => by have e : vs = [] := h; subst e; rfl
  | t :: ts, vs, h => by
    obtain ⟨x, r, e, _, h2⟩ := h
    subst e
    simp [Vws.len h2]
theorem fq2 {r : R2} {g : T → T → Option T} (hr : Ok2 K r g) {fa fb : Env → R Unit T} {σ : Stt} {H : Hp} {Q : VK} (h : FQ K mg W .o (f2 g fa fb) σ H Q) : tOp r (FQ K mg W .e fa) (FQ K mg W .e fb) σ H Q := by
  obtain ⟨ρ, Z, A, G, q⟩ := h
  refine ⟨ρ, Z, A, G, ?_⟩
  revert q
  unfold f2
  cases fa ρ with
  | ok t =>
    intro q v H1 e1 r1
    refine ⟨ρ, Z, A, G.ext e1, ?_⟩
    revert q
    rw [R.bind_ok]
    cases fb ρ with
    | ok u =>
      intro q w H2 e2 r2
      rw [R.bind_ok] at q
      cases hg : g t u with
      | none => rw [hg] at q; exact q.elim
      | some x =>
        rw [hg] at q
        exact hr H2 t u v w x (Vw.kp (e2.kp (C := top)) t v r1) r2 hg Q fun v' H' B e3 rep fr al => q v' H' (e1.trans (e2.trans e3)) ⟨B, rep, fun a ha => (e1.trans e2).fresh (fr a ha), al⟩
    | exc e x => exact fun q cls d H' e2 x => q cls d H' (e1.trans e2) x
    | bad => exact fun q => q.elim
  | exc e x => exact fun q => q
  | bad => exact fun q => q.elim
theorem fq1 {r : V → Hp → VK → Prop} {g : T → Option T} (hr : Ok1 K r g) {fa : Env → R Unit T} {σ : Stt} {H : Hp} {Q : VK} (h : FQ K mg W .o (f1 g fa) σ H Q) : tUn r (FQ K mg W .e fa) σ H Q := by
  obtain ⟨ρ, Z, A, G, q⟩ := h
  refine ⟨ρ, Z, A, G, ?_⟩
  revert q
  unfold f1
  cases fa ρ with
  | ok t =>
    intro q v H1 e1 r1
    rw [R.bind_ok] at q
    cases hg : g t with
    | none => rw [hg] at q; exact q.elim
    | some x =>
      rw [hg] at q
      exact hr H1 t v x r1 hg Q fun v' H' B e3 rep fr al => q v' H' (e1.trans e3) ⟨B, rep, fun a ha => e1.fresh (fr a ha), al⟩
  | exc e x => exact fun q => q
  | bad => exact fun q => q.elim
theorem fqN {r : List V → Hp → VK → Prop} {g : List T → Option T} (hr : OkN K r g) {fa : Env → R Unit (List T)} {σ : Stt} {H : Hp} {Q : VK} (h : FQ K mg W .o (fN g fa) σ H Q) : tCB r (FQA K mg W fa) σ H Q := by
  obtain ⟨ρ, Z, A, G, q⟩ := h
  refine ⟨ρ, Z, A, G, ?_⟩
  revert q
  unfold fN
  cases fa ρ with
  | ok t =>
    intro q v H1 e1 r1
    rw [R.bind_ok] at q
    cases hg : g t with
    | none => rw [hg] at q; exact q.elim
    | some x =>
      rw [hg] at q
      exact hr H1 t v x r1 hg Q fun v' H' B e3 rep fr al => q v' H' (e1.trans e3) ⟨B, rep, fun a ha => e1.fresh (fr a ha), al⟩
  | exc e x => exact fun q => q
  | bad => exact fun q => q.elim
theorem fs2 {r : R2} {g : T → T → Option T} (hr : Ok2 K r g) {fa fb : Env → R Env (AV × Env)} {σ : Stt} {H : Hp} {Q : VK} (h : FS K mg W (s2 g fa fb) σ H Q) : tOp r (FS K mg W fa) (FS K mg W fb) σ H Q := by
  obtain ⟨ρ, Z, A, G, q⟩ := h
  refine ⟨ρ, Z, A, G, ?_⟩
  revert q
  unfold s2
  cases fa ρ with
  | ok x =>
    obtain ⟨a, ρ1⟩ := x
    intro q v H1 A1 B1 G1 r1 d1 al1 st1
    have st1' : Step H A H1 A1 := st1.mono fun _ h => .inl h
    refine ⟨ρ1, Z, A1, G1, ?_⟩
    revert q
    simp only [R.bind_ok]
    cases fb ρ1 with
    | ok y =>
      obtain ⟨b, ρ2⟩ := y
      intro q w H2 A2 B2 G2 r2 d2 al2 st2
      have r1' : AvRep σ H2 a v B1 := r1.kp (st2.kp d1 G1.dis)
      simp only [R.bind_ok] at q
      cases h1 : a.see ρ2 with
      | none => rw [h1] at q; exact q.elim
      | some t =>
        cases h2 : b.see ρ2 with
        | none => rw [h1, h2] at q; exact q.elim
        | some u =>
          cases hg : g t u with
          | none => rw [h1, h2] at q; simp only [Option.bind_some, hg] at q; exact q.elim
          | some z =>
            rw [h1, h2] at q
            simp only [Option.bind_some, hg] at q
            have st : Step H A H2 A2 := st1'.trans (st2.mono fun _ h => .inl h)
            exact hr H2 t u v w z (see_vw G2 r1' h1) (see_vw G2 r2 h2) hg Q fun v' H' B e3 rep fr al =>
              q v' H' A2 B (G2.ext e3) rep (fun x hb ha => G2.alA x ha (fr x hb)) al (st.trans (Step.ext e3 fr))
    | exc e x => exact fun q cls d H' A' G' s' x => q cls d H' A' G' (st1'.trans s') x
    | bad => exact fun q => q.elim
  | exc e x => exact fun q => q
  | bad => exact fun q => q.elim
theorem fs1 {r : V → Hp → VK → Prop} {g : T → Option T} (hr : Ok1 K r g) {fa : Env → R Env (AV × Env)} {σ : Stt} {H : Hp} {Q : VK} (h : FS K mg W (s1 g fa) σ H Q) : tUn r (FS K mg W fa) σ H Q := by
  obtain ⟨ρ, Z, A, G, q⟩ := h
  refine ⟨ρ, Z, A, G, ?_⟩
  revert q
  unfold s1
  cases fa ρ with
  | ok x =>
    obtain ⟨a, ρ1⟩ := x
    intro q v H1 A1 B1 G1 r1 d1 al1 st1
    have st1' : Step H A H1 A1 := st1.mono fun _ h => .inl h
    simp only [R.bind_ok] at q
    cases h1 : a.see ρ1 with
    | none => rw [h1] at q; exact q.elim
    | some t =>
      cases hg : g t with
      | none => rw [h1] at q; simp only [Option.bind_some, hg] at q; exact q.elim
      | some z =>
        rw [h1] at q
        simp only [Option.bind_some, hg] at q
        exact hr H1 t v z (see_vw G1 r1 h1) hg Q fun v' H' B e3 rep fr al =>
          q v' H' A1 B (G1.ext e3) rep (fun x hb ha => G1.alA x ha (fr x hb)) al (st1'.trans (Step.ext e3 fr))
  | exc e x => exact fun q => q
  | bad => exact fun q => q.elim
theorem sees_vws {Z A : Fp} {H : Hp} {σ : Stt} {ρ : Env} (g : Good K Z H σ ρ A) : ∀ {as : List AV} {vs : List V} {ts : List T} {B : Fp}, AvReps σ H as vs B → sees ρ as = some ts → Vws K top H ts vs
  | [], _, ts, _, .nil, e => by
    have e' : [] = ts := Option.some.inj e
    subst e'
    rfl
  | a :: as, _, ts, _, .cons h1 h2 s1 s2 d, e => by
    unfold sees at e
    cases q : a.see ρ with
    | none => rw [q] at e; cases e
    | some t =>
      cases q2 : sees ρ as with
      | none => rw [q, q2] at e; cases e
      | some ts' =>
        rw [q, q2] at e
        have e' : t :: ts' = ts := Option.some.inj e
        subst e'
        exact ⟨_, _, rfl, see_vw g h1 q, sees_vws g h2 q2⟩
theorem fsN {r : List V → Hp → VK → Prop} {g : List T → Option T} (hr : OkN K r g) {fa : Env → R Env (List AV × Env)} {σ : Stt} {H : Hp} {Q : VK} (h : FS K mg W (sN g fa) σ H Q) : tCB r (FSA K mg W fa) σ H Q := by
  obtain ⟨ρ, Z, A, G, q⟩ := h
  refine ⟨ρ, Z, A, G, ?_⟩
  revert q
  unfold sN
  cases fa ρ with
  | ok x =>
    obtain ⟨as, ρ1⟩ := x
    intro q v H1 A1 B1 G1 r1 d1 al1 st1
    have st1' : Step H A H1 A1 := st1.mono fun _ h => .inl h
    simp only [R.bind_ok] at q
    cases h1 : sees ρ1 as with
    | none => rw [h1] at q; exact q.elim
    | some ts =>
      cases hg : g ts with
      | none => rw [h1] at q; simp only [Option.bind_some, hg] at q; exact q.elim
      | some z =>
        rw [h1] at q
        simp only [Option.bind_some, hg] at q
        exact hr H1 ts v z (sees_vws G1 r1 h1) hg Q fun v' H' B e3 rep fr al =>
          q v' H' A1 B (G1.ext e3) rep (fun x hb ha => G1.alA x ha (fr x hb)) al (st1'.trans (Step.ext e3 fr))
  | exc e x => exact fun q => q
  | bad => exact fun q => q.elim
def aNil : Env → R Unit (List T) := fun _ => .ok []
def aCons (fa : Env → R Unit T) (fr : Env → R Unit (List T)) : Env → R Unit (List T) := fun ρ => (fa ρ).bind fun t => (fr ρ).bind fun ts => .ok (t :: ts)
theorem qa_nil : JQA X W [] aNil := paM pa_nil fun σ H Q ⟨ρ, Z, A, G, q⟩ => q [] H (Ext.refl H) rfl
theorem oa_nil : JOA X W [] aNil := paM pa_nil fun σ H Q ⟨ρ, Z, A, G, q⟩ => q [] H emp (Ext.refl H) rfl (fun _ z => z.elim) (fun _ z => z.elim)
theorem qa_cons {e : Expr} {es : List Expr} {fa : Env → R Unit T} {fr : Env → R Unit (List T)} (ha : JQ X W .e e fa) (hr : JQA X W es fr) (hs : starEach (e :: es) X.env = (false, eval e X.env) :: starEach es X.env := by rfl) : JQA X W (e :: es) (aCons fa fr) := by
  refine paM (pa_cons ha hr hs) fun σ H Q ⟨ρ, Z, A, G, q⟩ => ?_
  refine ⟨ρ, Z, A, G, ?_⟩
  revert q
  unfold aCons
  cases fa ρ with
  | ok t =>
    intro q v H1 e1 r1
    refine ⟨ρ, Z, A, G.ext e1, ?_⟩
    revert q
    rw [R.bind_ok]
    cases fr ρ with
    | ok ts => exact fun q vs H2 e2 r2 => q (v :: vs) H2 (e1.trans e2) ⟨v, vs, rfl, Vw.kp (e2.kp (C := top)) t v r1, r2⟩
    | exc e x => exact fun q cls d H' e2 x => q cls d H' (e1.trans e2) x
    | bad => exact fun q => q.elim
  | exc e x => exact fun q => q
  | bad => exact fun q => q.elim
theorem oa_cons {e : Expr} {es : List Expr} {fa : Env → R Unit T} {fr : Env → R Unit (List T)} (ha : JQ X W .o e fa) (hr : JOA X W es fr) (hs : starEach (e :: es) X.env = (false, eval e X.env) :: starEach es X.env := by rfl) : JOA X W (e :: es) (aCons fa fr) := by
  refine paM (pa_cons ha hr hs) fun σ H Q ⟨ρ, Z, A, G, q⟩ => ?_
  refine ⟨ρ, Z, A, G, ?_⟩
  revert q
  unfold aCons
  cases fa ρ with
  | ok t =>
    intro q v H1 e1 r1
    obtain ⟨B1, rb, fr1, al1⟩ := r1
    refine ⟨ρ, Z, A, G.ext e1, ?_⟩
    revert q
    rw [R.bind_ok]
    cases fr ρ with
    | ok ts => exact fun q vs H2 B2 e2 r2 fr2 al2 => q (v :: vs) H2 (un B1 B2) (e1.trans e2) ⟨v, vs, B1, B2, rfl, Rep.kp (e2.kp (C := B1) (Z := top)) t v rb, r2, fun _ h => .inl h, fun _ h => .inr h, fun a h1 h2 => al1 a h1 (fr2 a h2)⟩ (fun a h => h.elim (fr1 a) fun z => e1.fresh (fr2 a z)) (fun a h => h.elim (fun z => e2.al al1 a z) (al2 a))
    | exc e x => exact fun q cls d H' e2 x => q cls d H' (e1.trans e2) x
    | bad => exact fun q => q.elim
  | exc e x => exact fun q => q
  | bad => exact fun q => q.elim
def sNil : Env → R Env (List AV × Env) := fun ρ => .ok ([], ρ)
def sCons (fa : Env → R Env (AV × Env)) (fr : Env → R Env (List AV × Env)) : Env → R Env (List AV × Env) := fun ρ => (fa ρ).bind fun (t, ρ1) => (fr ρ1).bind fun (ts, ρ2) => .ok (t :: ts, ρ2)
theorem sa_nil : JSA X W [] sNil := paM pa_nil fun σ H Q ⟨ρ, Z, A, G, q⟩ => q [] H A emp G .nil (fun _ z => z.elim) (fun _ z => z.elim) ((Step.refl H A).mono fun _ h => h.elim id fun z => z.elim)
theorem sa_cons {e : Expr} {es : List Expr} {fa : Env → R Env (AV × Env)} {fr : Env → R Env (List AV × Env)} (ha : JS X W e fa) (hr : JSA X W es fr) (hs : starEach (e :: es) X.env = (false, eval e X.env) :: starEach es X.env := by rfl) : JSA X W (e :: es) (sCons fa fr) := by
  refine paM (pa_cons ha hr hs) fun σ H Q ⟨ρ, Z, A, G, q⟩ => ?_
  refine ⟨ρ, Z, A, G, ?_⟩
  revert q
  unfold sCons
  cases fa ρ with
  | ok x =>
    obtain ⟨a, ρ1⟩ := x
    intro q v H1 A1 B1 G1 r1 d1 al1 st1
    have st1' : Step H A H1 A1 := st1.mono fun _ h => .inl h
    refine ⟨ρ1, Z, A1, G1, ?_⟩
    revert q
    simp only [R.bind_ok]
    cases fr ρ1 with
    | ok y =>
      obtain ⟨as, ρ2⟩ := y
      intro q vs H2 A2 B2 G2 r2 d2 al2 st2
      have dd : Disj B1 (un A2 B2) := st2.disj d1 al1
      refine q (v :: vs) H2 A2 (un B1 B2) G2 (.cons (r1.kp (st2.kp d1 G1.dis)) r2 (fun _ h => .inl h) (fun _ h => .inr h) fun x h1 h2 => dd x h1 (.inr h2)) (fun x h1 h2 => h1.elim (fun z => dd x z (.inl h2)) fun z => d2 x z h2) (fun x h => h.elim (fun z => st2.al al1 x z) (al2 x)) ?_
      have w : Step H1 (un A1 B1) H2 (un (un A2 B2) B1) := st2.wide
      exact (st1.trans w).mono fun x h => h.elim (fun z => .inl (.inl z)) fun z => z.elim .inr fun z => .inl (.inr z)
    | exc e x => exact fun q cls d H' A' G' s' x => q cls d H' A' G' (st1'.trans s') x
    | bad => exact fun q => q.elim
  | exc e x => exact fun q => q
  | bad => exact fun q => q.elim
def fC (p : P) : Env → R Unit T := fun _ => .ok (.pv p)
theorem fq_c {m : Md} {p : P} {v : V} (h : ∀ H, RepP H p v) {σ : Stt} {H : Hp} {Q : VK} (q : FQ K mg W m (fC p) σ H Q) : tC v σ H Q := by
  obtain ⟨ρ, Z, A, G, q⟩ := q
  refine q v H (Ext.refl H) ?_
  cases m with
  | e => exact h H
  | z => exact h H
  | o => exact ⟨emp, h H, fun _ z => z.elim, fun _ z => z.elim⟩
theorem q_int {m : Md} {i : Int} {j : Nat} {pos : Pos} : JQ X W m (.Constant (.int i) j pos) (fC (.int i)) := peM pe_int fun _ _ _ q => fq_c (p := .int i) (v := .int i) (fun _ => rfl) q
theorem q_bl {m : Md} {b : Bool} {j : Nat} {pos : Pos} : JQ X W m (.Constant (.bool b) j pos) (fC (.bl b)) := peM pe_bl fun _ _ _ q => fq_c (p := .bl b) (v := .bl b) (fun _ => rfl) q
theorem q_non {m : Md} {j : Nat} {pos : Pos} : JQ X W m (.Constant .none j pos) (fC .non) := peM pe_non fun _ _ _ q => fq_c (p := .non) (v := .non) (fun _ => rfl) q
theorem q_str {m : Md} {x : Str} {j : Nat} {pos : Pos} : JQ X W m (.Constant (.str x) j pos) (fC (.str x)) := peM pe_str fun _ _ _ q => fq_c (p := .str x) (v := .str x) (fun _ => rfl) q
variable {a b : Expr} {pos p : Pos} {op : Operator} {fa fb : Env → R Unit T} {sa sb : Env → R Env (AV × Env)} {g : T → T → Option T} {r : R2} {x : Str} {id : String}
theorem q_op (ho : OpR X (binaryOp op) r) (hr : Ok2 X.K r g) (ha : JQ X W .e a fa) (hb : JQ X W .e b fb) : JQ X W .o (.BinOp a op b pos) (f2 g fa fb) := peM (pe_op ho ha hb) fun _ _ _ q => fq2 hr q
theorem s_op (ho : OpR X (binaryOp op) r) (hr : Ok2 X.K r g) (ha : JS X W a sa) (hb : JS X W b sb) : JS X W (.BinOp a op b pos) (s2 g sa sb) := peM (pe_op ho ha hb) fun _ _ _ q => fs2 hr q
theorem q_cmp {c : CmpOp} (ho : OpR X (compareOp c) r) (hr : Ok2 X.K r g) (ha : JQ X W .e a fa) (hb : JQ X W .e b fb) (hm : behindInMarks c b = false) : JQ X W .o (.Compare a [c] [b] pos) (f2 g fa fb) := peM (pe_cmpR ho ha hb hm) fun _ _ _ q => fq2 hr q
theorem s_cmp {c : CmpOp} (ho : OpR X (compareOp c) r) (hr : Ok2 X.K r g) (ha : JS X W a sa) (hb : JS X W b sb) (hm : behindInMarks c b = false) : JS X W (.Compare a [c] [b] pos) (s2 g sa sb) := peM (pe_cmpR ho ha hb hm) fun _ _ _ q => fs2 hr q
theorem q_un {c : UnaryOp} {r1 : V → Hp → VK → Prop} {g1 : T → Option T} (ho : UnR X (unaryOp c) r1) (hr : Ok1 X.K r1 g1) (ha : JQ X W .e a fa) : JQ X W .o (.UnaryOp c a pos) (f1 g1 fa) := peM (pe_un ho ha) fun _ _ _ q => fq1 hr q
theorem s_un {c : UnaryOp} {r1 : V → Hp → VK → Prop} {g1 : T → Option T} (ho : UnR X (unaryOp c) r1) (hr : Ok1 X.K r1 g1) (ha : JS X W a sa) : JS X W (.UnaryOp c a pos) (s1 g1 sa) := peM (pe_un ho ha) fun _ _ _ q => fs1 hr q
variable {rn : List V → Hp → VK → Prop} {gn : List T → Option T} {e : Expr} {es : List Expr} {fas : Env → R Unit (List T)} {sas : Env → R Env (List AV × Env)}
theorem q_callB (hc : CallR X (.builtin id) rn) (hr : OkN X.K rn gn) (hg : Gl X x) (hm : X.mg x = none) (hv : bootBuiltins x = some (.builtin id)) (ha : JQA X W (e :: es) fas) (hn : x ≠ "__name__" := by decide) (hdb : (x == ("__debug__" : Str)) = false := by decide)
    (he : starEach (e :: es) X.env = (false, eval e X.env) :: starEach es X.env := by rfl) (hpl : (backTo pos (starEach es X.env)).any (·.1) = false := by rfl) : JQ X W .o (.Call (.Name x p) (e :: es) [] pos) (fN gn fas) :=
  peM (pe_callB hc hg hm hv ha hn hdb he hpl) fun _ _ _ q => fqN hr q
theorem s_callB (hc : CallR X (.builtin id) rn) (hr : OkN X.K rn gn) (hg : Gl X x) (hm : X.mg x = none) (hv : bootBuiltins x = some (.builtin id)) (ha : JSA X W (e :: es) sas) (hn : x ≠ "__name__" := by decide) (hdb : (x == ("__debug__" : Str)) = false := by decide)
    (he : starEach (e :: es) X.env = (false, eval e X.env) :: starEach es X.env := by rfl) (hpl : (backTo pos (starEach es X.env)).any (·.1) = false := by rfl) : JS X W (.Call (.Name x p) (e :: es) [] pos) (sN gn sas) :=
  peM (pe_callB hc hg hm hv ha hn hdb he hpl) fun _ _ _ q => fsN hr q
theorem q_callTy {Ty : String} (hc : CallR X (.type Ty) rn) (hr : OkN X.K rn gn) (hg : Gl X x) (hm : X.mg x = none) (hv : bootBuiltins x = some (.type Ty)) (ha : JQA X W (e :: es) fas) (hn : x ≠ "__name__" := by decide) (hdb : (x == ("__debug__" : Str)) = false := by decide)
    (he : starEach (e :: es) X.env = (false, eval e X.env) :: starEach es X.env := by rfl) (hpl : (backTo pos (starEach es X.env)).any (·.1) = false := by rfl) : JQ X W .o (.Call (.Name x p) (e :: es) [] pos) (fN gn fas) :=
  peM (pe_callTy hc hg hm hv ha hn hdb he hpl) fun _ _ _ q => fqN hr q
theorem s_callTy {Ty : String} (hc : CallR X (.type Ty) rn) (hr : OkN X.K rn gn) (hg : Gl X x) (hm : X.mg x = none) (hv : bootBuiltins x = some (.type Ty)) (ha : JSA X W (e :: es) sas) (hn : x ≠ "__name__" := by decide) (hdb : (x == ("__debug__" : Str)) = false := by decide)
    (he : starEach (e :: es) X.env = (false, eval e X.env) :: starEach es X.env := by rfl) (hpl : (backTo pos (starEach es X.env)).any (·.1) = false := by rfl) : JS X W (.Call (.Name x p) (e :: es) [] pos) (sN gn sas) :=
  peM (pe_callTy hc hg hm hv ha hn hdb he hpl) fun _ _ _ q => fsN hr q
end
end TR
namespace TR
open PySem PySem.Spec PyProof.Rows L2
abbrev FF := Env → R Env (Fl × Env)
section
variable (K : PySem.W.Frag) (mg : Str → Option Value) (W : WX)
def EndT (kp : Nat → Bool) (D : Ends) (σ : Stt) (H : Hp) (A : Fp) : R Env (Fl × Env) → Prop
  | .ok (.nx, ρ') => ∀ σ' H' Z' A', Good K Z' H' σ' ρ' A' → Step H A H' A' → Agree kp σ σ' → D.nx σ' H'
  | .ok (.bk, ρ') => ∀ σ' H' Z' A', Good K Z' H' σ' ρ' A' → Step H A H' A' → Agree kp σ σ' → D.bk σ' H'
  | .ok (.ct, ρ') => ∀ σ' H' Z' A', Good K Z' H' σ' ρ' A' → Step H A H' A' → Agree kp σ σ' → D.ct σ' H'
  | .ok (.rt t, ρ') => ∀ v σ' H' Z' A' B, Good K Z' H' σ' ρ' A' → Rep H' t v B → Disj B A' → Al H' B → Step H A H' (un A' B) → Agree kp σ σ' → D.rt v H'
  | .exc e ρ' => ∀ cls d σ' H' Z' A', Good K Z' H' σ' ρ' A' → Step H A H' A' → Agree kp σ σ' → ExcRep mg H' e cls d → W cls d σ' H'
  | .bad => False
end
section
variable {K : PySem.W.Frag} {mg : Str → Option Value} {W : WX} {kp : Nat → Bool} {D : Ends} {σ σ1 : Stt} {H H1 : Hp} {A A1 : Fp}
theorem Agree.refl : Agree kp σ σ := ⟨rfl, fun _ _ => rfl⟩
theorem Agree.trans {σ2 : Stt} (a : Agree kp σ σ1) (b : Agree kp σ1 σ2) : Agree kp σ σ2 := ⟨b.1.trans a.1, fun i h => (b.2 i h).trans (a.2 i h)⟩
theorem FT_iff {f : FF} : FT K mg W kp f D σ H ↔ ∃ ρ Z A, Good K Z H σ ρ A ∧ EndT K mg W kp D σ H A (f ρ) := by
  unfold FT EndT
  constructor
  · rintro ⟨ρ, Z, A, G, q⟩
    exact ⟨ρ, Z, A, G, q⟩
  · rintro ⟨ρ, Z, A, G, q⟩
    exact ⟨ρ, Z, A, G, q⟩
theorem EndT.after (st : Step H A H1 A1) (ag : Agree kp σ σ1) : ∀ {o : R Env (Fl × Env)}, EndT K mg W kp D σ H A o → EndT K mg W kp D σ1 H1 A1 o
  | .ok (.nx, _), q => fun σ' H' Z' A' G s a => q σ' H' Z' A' G (st.trans s) (ag.trans a)
  | .ok (.bk, _), q => fun σ' H' Z' A' G s a => q σ' H' Z' A' G (st.trans s) (ag.trans a)
  | .ok (.ct, _), q => fun σ' H' Z' A' G s a => q σ' H' Z' A' G (st.trans s) (ag.trans a)
  | .ok (.rt t, _), q => fun v σ' H' Z' A' B G r d al s a => q v σ' H' Z' A' B G r d al (st.trans s) (ag.trans a)
  | .exc e _, q => fun cls d σ' H' Z' A' G s a x => q cls d σ' H' Z' A' G (st.trans s) (ag.trans a) x
  | .bad, q => q
theorem EndT.next {D' : Ends} (hr : D'.rt = D.rt) (hb : D'.bk = D.bk) (hc : D'.ct = D.ct) {o : R Env (Fl × Env)} (h : EndT K mg W kp D σ H A o)
    (hn : ∀ ρ', o = .ok (.nx, ρ') → ∀ σ' H' Z' A', Good K Z' H' σ' ρ' A' → Step H A H' A' → Agree kp σ σ' → D'.nx σ' H') : EndT K mg W kp D' σ H A o := by
  match o, h with
  | .ok (.nx, ρ'), q => exact hn ρ' rfl
  | .ok (.bk, _), q => intro σ' H' Z' A' G s a; rw [hb]; exact q σ' H' Z' A' G s a
  | .ok (.ct, _), q => intro σ' H' Z' A' G s a; rw [hc]; exact q σ' H' Z' A' G s a
  | .ok (.rt t, _), q => intro v σ' H' Z' A' B G r d al s a; rw [hr]; exact q v σ' H' Z' A' B G r d al s a
  | .exc e _, q => exact q
  | .bad, q => exact q
end
def tNx : FF := fun ρ => .ok (.nx, ρ)
def tSq (f g : FF) : FF := fun ρ => match f ρ with
  | .ok (.nx, ρ1) => g ρ1
  | o => o
def liftQ {α : Type} (o : R Unit α) (ρ : Env) (f : α → R Env (Fl × Env)) : R Env (Fl × Env) := match o with
  | .ok a => f a
  | .exc e _ => .exc e ρ
  | .bad => .bad
@[simp] theorem liftQ_ok {α : Type} (a : α) (ρ : Env) (f : α → R Env (Fl × Env)) : liftQ (.ok a) ρ f = f a := nr rfl
@[simp] theorem liftQ_bad {α : Type} (ρ : Env) (f : α → R Env (Fl × Env)) : liftQ (.bad : R Unit α) ρ f = .bad := nr rfl
@[simp] theorem liftQ_exc {α : Type} (e : Exn) (r : Unit) (ρ : Env) (f : α → R Env (Fl × Env)) : liftQ (.exc e r : R Unit α) ρ f = .exc e ρ := nr rfl
def tIfQ (c : Env → R Unit Bool) (f g : FF) : FF := fun ρ => liftQ (c ρ) ρ fun b => if b = true then f ρ else g ρ
def tIfE (c : Env → R Env (Bool × Env)) (f g : FF) : FF := fun ρ => (c ρ).bind fun (b, ρ1) => if b = true then f ρ1 else g ρ1
def tSet (i : Nat) (f : Env → R Unit T) : FF := fun ρ => liftQ (f ρ) ρ fun t => if i < ρ.length then .ok (.nx, ρ.set i (.ow t)) else .bad
def tSetE (i : Nat) (f : Env → R Env (AV × Env)) : FF := fun ρ => (f ρ).bind fun (a, ρ1) => match a with
  | .val t => if i < ρ1.length then .ok (.nx, ρ1.set i (.ow t)) else .bad
  | .late j => match ((ρ1[j]?).bind Sl.t?) with
    | some (.pv p) => if i < ρ1.length then .ok (.nx, ρ1.set i (.ow (.pv p))) else .bad
    | _ => .bad
def tRetF (f : Env → R Unit T) : FF := fun ρ => liftQ (f ρ) ρ fun t => .ok (.rt t, ρ)
def tRetE (f : Env → R Env (AV × Env)) : FF := fun ρ => (f ρ).bind fun (a, ρ1) => match a with
  | .val t => .ok (.rt t, ρ1)
  | .late j => match ((ρ1[j]?).bind Sl.t?) with
    | some (.pv p) => .ok (.rt (.pv p), ρ1)
    | _ => .bad
def tExp (f : Env → R Unit T) : FF := fun ρ => liftQ (f ρ) ρ fun _ => .ok (.nx, ρ)
def tExpE (f : Env → R Env (AV × Env)) : FF := fun ρ => (f ρ).bind fun (_, ρ1) => .ok (.nx, ρ1)
def fMv (i : Nat) : Env → R Env (AV × Env) := fun ρ => match ρ[i]? with
  | some (.ow t) => .ok (.val t, ρ.set i .no)
  | some (.vw (.pv p)) => .ok (.val (.pv p), ρ)
  | _ => .bad
section
variable {X : Cx} {W : WX} {kp : Nat → Bool} {st : Stmt} {rest sts : List Stmt} {f g : FF} {e : Expr} {pos pos' : Pos}
theorem t_nil : JTs X W kp [] tNx := pssM pss_nil fun D σ H h => by
  obtain ⟨ρ, Z, A, G, q⟩ := FT_iff.mp h
  exact q σ H Z A G (Step.refl H A) Agree.refl
theorem t_one (h : JT X W kp st f) : JTs X W kp [st] f := pssM (pss_one h) fun _ _ _ q => q
theorem t_cons (h1 : JT X W kp st f) (h2 : JTs X W kp rest g) : JTs X W kp (st :: rest) (tSq f g) := pssM (pss_cons h1 h2) fun D σ H h => by
  obtain ⟨ρ, Z, A, G, q⟩ := FT_iff.mp h
  refine FT_iff.mpr ⟨ρ, Z, A, G, ?_⟩
  unfold tSq at q
  revert q
  match f ρ with
  | .ok (.nx, ρ1) => exact fun q σ' H' Z' A' G' s a => FT_iff.mpr ⟨ρ1, Z', A', G', EndT.after s a q⟩
  | .ok (.bk, _) => exact id
  | .ok (.ct, _) => exact id
  | .ok (.rt t, _) => exact id
  | .exc e _ => exact id
  | .bad => exact id
theorem t_pass : JT X W kp (.Pass pos) tNx := psM ps_pass fun D σ H h => by
  obtain ⟨ρ, Z, A, G, q⟩ := FT_iff.mp h
  exact q σ H Z A G (Step.refl H A) Agree.refl
theorem t_break : JT X W kp (.Break pos) (fun ρ => .ok (.bk, ρ)) := psM ps_break fun D σ H h => by
  obtain ⟨ρ, Z, A, G, q⟩ := FT_iff.mp h
  exact q σ H Z A G (Step.refl H A) Agree.refl
theorem t_continue : JT X W kp (.Continue pos) (fun ρ => .ok (.ct, ρ)) := psM ps_continue fun D σ H h => by
  obtain ⟨ρ, Z, A, G, q⟩ := FT_iff.mp h
  exact q σ H Z A G (Step.refl H A) Agree.refl
theorem t_never : JT X W kp st (fun _ => .bad) := psM ps_never fun D σ H h => by
  obtain ⟨ρ, Z, A, G, q⟩ := FT_iff.mp h
  exact q
theorem t_ifQ {c : Expr} {a b : List Stmt} {fc : Env → R Unit Bool} (hc : JQT X W c fc) (ha : JTs X W kp a f) (hb : JTs X W kp b g) : JT X W kp (.If c a b pos) (tIfQ fc f g) := psM (ps_if hc ha hb) fun D σ H h => by
  obtain ⟨ρ, Z, A, G, q⟩ := FT_iff.mp h
  refine ⟨ρ, Z, A, G, ?_⟩
  unfold tIfQ at q
  revert q
  cases fc ρ with
  | ok d =>
    intro q H1 e1
    rw [liftQ_ok] at q
    cases d with
    | true => exact FT_iff.mpr ⟨ρ, Z, A, G.ext e1, EndT.after (Step.ext0 e1) Agree.refl q⟩
    | false => exact FT_iff.mpr ⟨ρ, Z, A, G.ext e1, EndT.after (Step.ext0 e1) Agree.refl q⟩
  | exc e x => exact fun q cls d H' e2 x => q cls d σ H' Z A (G.ext e2) (Step.ext0 e2) Agree.refl x
  | bad => exact id
theorem t_ifE {c : Expr} {a b : List Stmt} {fc : Env → R Env (Bool × Env)} (hc : JST X W c fc) (ha : JTs X W kp a f) (hb : JTs X W kp b g) : JT X W kp (.If c a b pos) (tIfE fc f g) := psM (ps_if hc ha hb) fun D σ H h => by
  obtain ⟨ρ, Z, A, G, q⟩ := FT_iff.mp h
  refine ⟨ρ, Z, A, G, ?_⟩
  unfold tIfE at q
  revert q
  cases fc ρ with
  | ok d =>
    obtain ⟨d, ρ1⟩ := d
    intro q H1 A1 G1 s1
    simp only [R.bind_ok] at q
    cases d with
    | true => exact FT_iff.mpr ⟨ρ1, Z, A1, G1, EndT.after s1 Agree.refl q⟩
    | false => exact FT_iff.mpr ⟨ρ1, Z, A1, G1, EndT.after s1 Agree.refl q⟩
  | exc e x => exact fun q cls d H' A' G' s' x => q cls d σ H' Z A' G' s' Agree.refl x
  | bad => exact id
theorem set_same {α : Type} : ∀ {l : List α} {i : Nat} {a : α}, l[i]? = some a → l.set i a = l
  | [], _, _, h => by simp at h
  | x :: l, 0, a, h => by
    have e : x = a := by simpa using h
    subst e; rfl
  | x :: l, i + 1, a, h => by
    rw [List.set_cons_succ, set_same (by simpa using h)]
theorem Good.set {K : PySem.W.Frag} {Z A B : Fp} {H : Hp} {σ : Stt} {ρ : Env} {i : Nat} {t : T} {v : V} (G : Good K Z H σ ρ A) (hi : i < ρ.length) (r : Rep H t v B) (dB : Disj B A) (dZ : Disj B Z) (al : Al H B) :
    ∃ C, Good K Z H (σ.set i (some v)) (ρ.set i (.ow t)) C ∧ Sub C (un A B) := by
  obtain ⟨o, B0, C, h1, h2, h3, h4, h5, put⟩ := G.env.at (List.getElem?_eq_getElem hi)
  refine ⟨un B C, ⟨put H Z Kp.refl (fun _ h => h) (some v) (.ow t) B ⟨v, rfl, r⟩ fun a hb hc => dB a hb (h4 a hc), fun a hz hb => hb.elim (fun z => dZ a z hz) fun z => G.dis a hz (h4 a z), G.alZ, fun a ha => ha.elim (al a) fun z => G.alA a (h4 a z)⟩, fun a ha => ha.elim .inr fun z => .inl (h4 a z)⟩
theorem Agree.set {σ : Stt} {i : Nat} {o : Option V} (h : kp i = false) : Agree kp σ (σ.set i o) := ⟨by simp, fun j hj => by
  by_cases e : i = j
  · subst e; rw [h] at hj; cases hj
  · rw [List.getElem?_set_ne e]⟩
theorem fq_store {K : PySem.W.Frag} {mg : Str → Option Value} {D : Ends} {i : Nat} {f : Env → R Unit T} {σ : Stt} {H : Hp} (hk : kp i = false) (h : FT K mg W kp (tSet i f) D σ H) : FQ K mg W .o f σ H fun v H' => D.nx (σ.set i (some v)) H' := by
  obtain ⟨ρ, Z, A, G, q⟩ := FT_iff.mp h
  refine ⟨ρ, Z, A, G, ?_⟩
  unfold tSet at q
  revert q
  cases f ρ with
  | ok t =>
    intro q v H1 e1 r1
    obtain ⟨B, rb, fr, al⟩ := r1
    rw [liftQ_ok] at q
    by_cases hi : i < ρ.length
    · rw [if_pos hi] at q
      obtain ⟨C, G', s⟩ := (G.ext e1).set hi rb (fun a h1 h2 => G.alA a h2 (fr a h1)) (fun a h1 h2 => G.alZ a h2 (fr a h1)) al
      exact q _ H1 Z C G' ((Step.ext e1 fr).mono s) (Agree.set hk)
    · rw [if_neg hi] at q; exact q.elim
  | exc e x => exact fun q cls d H' e2 x => q cls d σ H' Z A (G.ext e2) (Step.ext0 e2) Agree.refl x
  | bad => exact id
theorem t_set (i : Nat) {x : Str} {f : Env → R Unit T} (hN : X.N.Nodup) (hi : X.N[i]? = some x) (hx : Loc X.env.scope x) (he : JQ X W .o e f) (hk : kp i = false := by rfl) (hs : swapsWith e (some (.Name x pos')) pos.line X.env = pure false := by rfl)
    (hf : X.fn x = true ∨ X.env.scope.names.lookup x = some .local := by first | exact .inl rfl | exact .inr rfl | assumption) : JT X W kp (.Assign [.Name x pos'] e pos) (tSet i f) := psM (ps_set (i := i) hN hi hx he hs hf) fun D σ H h => fq_store hk h
theorem late_pure {K : PySem.W.Frag} {Z A : Fp} {H : Hp} {σ : Stt} {ρ : Env} {j : Nat} {p : P} {v : V} (g : Good K Z H σ ρ A) (r : σ[j]? = some (some v)) (e : (ρ[j]?).bind Sl.t? = some (.pv p)) : RepP H p v :=
  see_vw (a := .late j) (B := emp) g r e
theorem fs_store {K : PySem.W.Frag} {mg : Str → Option Value} {D : Ends} {i : Nat} {f : Env → R Env (AV × Env)} {σ : Stt} {H : Hp} (hk : kp i = false) (h : FT K mg W kp (tSetE i f) D σ H) : FS K mg W f σ H fun v H' => D.nx (σ.set i (some v)) H' := by
  obtain ⟨ρ, Z, A, G, q⟩ := FT_iff.mp h
  refine ⟨ρ, Z, A, G, ?_⟩
  unfold tSetE at q
  revert q
  cases f ρ with
  | ok a =>
    obtain ⟨a, ρ1⟩ := a
    intro q v H1 A1 B G1 r d al s1
    simp only [R.bind_ok] at q
    cases a with
    | val t =>
      dsimp only at q
      by_cases hi : i < ρ1.length
      · rw [if_pos hi] at q
        have dz : Disj B Z := fun a h1 h2 => (s1.sub a (.inr h1)).elim (fun z => G.dis a h2 z) fun z => G.alZ a h2 z
        obtain ⟨C, G', s⟩ := G1.set hi r d dz al
        exact q _ H1 Z C G' (s1.mono s) (Agree.set hk)
      · rw [if_neg hi] at q; exact q.elim
    | late j =>
      dsimp only at q
      split at q
      · rename_i p e
        by_cases hi : i < ρ1.length
        · rw [if_pos hi] at q
          obtain ⟨C, G', s⟩ := G1.set (t := .pv p) (B := emp) hi (late_pure G1 r e) (fun _ z => z.elim) (fun _ z => z.elim) (fun _ z => z.elim)
          exact q _ H1 Z C G' (s1.mono fun a ha => (s a ha).elim .inl fun z => z.elim) (Agree.set hk)
        · rw [if_neg hi] at q; exact q.elim
      · exact q.elim
  | exc e x => exact fun q cls d H' A' G' s' x => q cls d σ H' Z A' G' s' Agree.refl x
  | bad => exact id
theorem t_setE (i : Nat) {x : Str} {f : Env → R Env (AV × Env)} (hN : X.N.Nodup) (hi : X.N[i]? = some x) (hx : Loc X.env.scope x) (he : JS X W e f) (hk : kp i = false := by rfl) (hs : swapsWith e (some (.Name x pos')) pos.line X.env = pure false := by rfl)
    (hf : X.fn x = true ∨ X.env.scope.names.lookup x = some .local := by first | exact .inl rfl | exact .inr rfl | assumption) : JT X W kp (.Assign [.Name x pos'] e pos) (tSetE i f) := psM (ps_set (i := i) hN hi hx he hs hf) fun D σ H h => fs_store hk h
theorem t_ret {f : Env → R Unit T} (he : JQ X W .o e f) : JT X W kp (.Return (some e) pos) (tRetF f) := psM (ps_ret he) fun D σ H h => by
  obtain ⟨ρ, Z, A, G, q⟩ := FT_iff.mp h
  refine ⟨ρ, Z, A, G, ?_⟩
  unfold tRetF at q
  revert q
  cases f ρ with
  | ok t => exact fun q v H1 e1 ⟨B, rb, fr, al⟩ => q v σ H1 Z A B (G.ext e1) rb (fun a h1 h2 => G.alA a h2 (fr a h1)) al (Step.ext e1 fr) Agree.refl
  | exc e x => exact fun q cls d H' e2 x => q cls d σ H' Z A (G.ext e2) (Step.ext0 e2) Agree.refl x
  | bad => exact id
theorem t_retE {f : Env → R Env (AV × Env)} (he : JS X W e f) : JT X W kp (.Return (some e) pos) (tRetE f) := psM (ps_ret he) fun D σ H h => by
  obtain ⟨ρ, Z, A, G, q⟩ := FT_iff.mp h
  refine ⟨ρ, Z, A, G, ?_⟩
  unfold tRetE at q
  revert q
  cases f ρ with
  | ok a =>
    obtain ⟨a, ρ1⟩ := a
    intro q v H1 A1 B G1 r d al s1
    simp only [R.bind_ok] at q
    cases a with
    | val t => exact q v σ H1 Z A1 B G1 r d al s1 Agree.refl
    | late j =>
      dsimp only at q
      split at q
      · rename_i p e
        exact q v σ H1 Z A1 emp G1 (late_pure G1 r e) (fun _ z => z.elim) (fun _ z => z.elim) (s1.mono fun a ha => ha.elim .inl fun z => z.elim) Agree.refl
      · exact q.elim
  | exc e x => exact fun q cls d H' A' G' s' x => q cls d σ H' Z A' G' s' Agree.refl x
  | bad => exact id
theorem t_retN : JT X W kp (.Return none pos) (fun ρ => .ok (.rt (.pv .non), ρ)) := psM ps_retN fun D σ H h => by
  obtain ⟨ρ, Z, A, G, q⟩ := FT_iff.mp h
  exact q .non σ H Z A emp G rfl (fun _ z => z.elim) (fun _ z => z.elim) ((Step.refl H A).mono fun a ha => ha.elim id fun z => z.elim) Agree.refl
theorem t_exp {f : Env → R Unit T} (he : JQ X W .e e f) (hs : swapsWith e none pos.line X.env = pure false := by rfl) : JT X W kp (.Expr e pos) (tExp f) := psM (ps_expr he hs) fun D σ H h => by
  obtain ⟨ρ, Z, A, G, q⟩ := FT_iff.mp h
  refine ⟨ρ, Z, A, G, ?_⟩
  unfold tExp at q
  revert q
  cases f ρ with
  | ok t => exact fun q v H1 e1 _ => q σ H1 Z A (G.ext e1) (Step.ext0 e1) Agree.refl
  | exc e x => exact fun q cls d H' e2 x => q cls d σ H' Z A (G.ext e2) (Step.ext0 e2) Agree.refl x
  | bad => exact id
theorem t_expE {f : Env → R Env (AV × Env)} (he : JS X W e f) (hs : swapsWith e none pos.line X.env = pure false := by rfl) : JT X W kp (.Expr e pos) (tExpE f) := psM (ps_expr he hs) fun D σ H h => by
  obtain ⟨ρ, Z, A, G, q⟩ := FT_iff.mp h
  refine ⟨ρ, Z, A, G, ?_⟩
  unfold tExpE at q
  revert q
  cases f ρ with
  | ok a =>
    obtain ⟨a, ρ1⟩ := a
    intro q v H1 A1 B G1 r d al s1
    exact q σ H1 Z A1 G1 (s1.mono fun _ h => .inl h) Agree.refl
  | exc e x => exact fun q cls d H' A' G' s' x => q cls d σ H' Z A' G' s' Agree.refl x
  | bad => exact id
theorem t_doc {x : Str} {j : Nat} : JT X W kp (.Expr (.Constant (.str x) j pos) pos') tNx := psM ps_doc fun D σ H h => by
  obtain ⟨ρ, Z, A, G, q⟩ := FT_iff.mp h
  exact q σ H Z A G (Step.refl H A) Agree.refl
theorem s_mv (i : Nat) {x : Str} {pos : Pos} (hN : X.N[i]? = some x := by rfl) (hv : Vis X.env.scope x := by first | exact Or.inl rfl | exact Or.inr (Or.inl rfl) | exact Or.inr (Or.inr rfl)) (hd : (x == ("__debug__" : Str)) = false := by decide)
    (hcd : (x == ("__classdict__" : Str)) = false := by decide) : JS X W (.Name x pos) (fMv i) := by
  refine peM (pe_var (i := i) hN hv hd hcd) fun σ H Q ⟨ρ, Z, A, G, q⟩ => ?_
  unfold fMv at q
  cases e : ρ[i]? with
  | none => rw [e] at q; exact q.elim
  | some s =>
    rw [e] at q
    obtain ⟨o, B, C, h1, h2, h3, h4, h5, put⟩ := G.env.at e
    cases s with
    | no => exact q.elim
    | ow t =>
      obtain ⟨v, e1, r⟩ := h2
      have G' := put H Z Kp.refl (fun _ h => h) o .no emp trivial (fun _ z => z.elim)
      rw [set_same h1] at G'
      refine ⟨v, by rw [h1, e1], q v H (un emp C) B ⟨G', fun a hz h => h.elim (fun z => z.elim) fun z => G.dis a hz (h4 a z), G.alZ, fun a h => h.elim (fun z => z.elim) fun z => G.alA a (h4 a z)⟩ r (fun a hb h => h.elim (fun z => z.elim) fun z => h5 a hb z) (fun a hb => G.alA a (h3 a hb)) ?_⟩
      exact (Step.refl H A).mono fun a h => h.elim (fun z => z.elim (fun y => y.elim) fun y => h4 a y) fun z => h3 a z
    | vw t =>
      cases t with
      | pv p =>
        obtain ⟨v, e1, r⟩ := h2
        exact ⟨v, by rw [h1, e1], q v H A emp G r (fun _ z => z.elim) (fun _ z => z.elim) ((Step.refl H A).mono fun a ha => ha.elim id fun z => z.elim)⟩
      | _ => exact q.elim
end
end TR
namespace TR
open PySem PySem.Spec PyProof.Rows L2
abbrev Fn := Env → R Env (T × Env)
def maskE : List Bool → Env → Env
  | b :: bs, s :: ρ => (if b = true then s else .no) :: maskE bs ρ
  | _, _ => []
def kpOf (io : List Bool) : Nat → Bool := fun i => io.getD i false
def fnOf (io : List Bool) (n : Nat) (b : FF) : Fn := fun ρ => if ρ.length = io.length then (match b (ρ ++ List.replicate (n - io.length) .no) with
  | .ok (.rt t, ρ') => .ok (t, maskE io ρ')
  | .ok (.nx, ρ') => .ok (.pv .non, maskE io ρ')
  | .exc e ρ' => .exc e (maskE io ρ')
  | _ => .bad) else .bad
def spF (K : PySem.W.Frag) (mg : Str → Option Value) (g : Fn) : Sp := fun vs H Q E => ∃ ρ Z A, Good K Z H (vs.map some) ρ A ∧ match g ρ with
  | .ok (t, ρ') => ∀ v H' Z' A' B, Good K Z' H' (vs.map some) ρ' A' → Rep H' t v B → Disj B A' → Al H' B → Step H A H' (un A' B) → Q v H'
  | .exc e ρ' => ∀ cls d H' Z' A', Good K Z' H' (vs.map some) ρ' A' → Step H A H' A' → ExcRep mg H' e cls d → E cls d H'
  | .bad => False
section
variable {K : PySem.W.Frag} {mg : Str → Option Value}
theorem maskE_len : ∀ (io : List Bool) (ρ : Env), io.length ≤ ρ.length → (maskE io ρ).length = io.length
  | [], _, _ => by simp [maskE]
  | b :: io, [], h => by simp at h
  | b :: io, s :: ρ, h => by simp [maskE, maskE_len io ρ (by simpa using h)]
theorem mask_env {Z : Fp} {H : Hp} : ∀ {io : List Bool} {vs : List V} {σ : Stt} {ρ : Env} {A : Fp}, EnvRep K Z H σ ρ A → io.length = vs.length → vs.length ≤ σ.length → (∀ i, io.getD i false = true → σ[i]? = (vs.map some)[i]?) → EnvRep K Z H (vs.map some) (maskE io ρ) A
  | [], [], σ, ρ, A, _, _, _, _ => by simp [maskE, EnvRep]
  | b :: io, v :: vs, o :: σ, s :: ρ, A, h, hl, hn, hk => by
    obtain ⟨B, C, h1, h2, s1, s2, d⟩ := h
    have ih : EnvRep K Z H (vs.map some) (maskE io ρ) C := mask_env h2 (by simpa using hl) (by simpa using hn) fun i hi => by
      have := hk (i + 1) (by simpa using hi)
      simpa using this
    refine ⟨B, C, ?_, ih, s1, s2, d⟩
    cases b with
    | false => simp [SlRep]
    | true =>
      have e := hk 0 (by simp)
      have e' : o = some v := by simpa using e
      subst e'
      simpa using h1
  | b :: io, [], _, _, _, _, hl, _, _ => by simp at hl
  | [], v :: vs, _, _, _, _, hl, _, _ => by simp at hl
  | b :: io, v :: vs, [], _, _, _, _, hn, _ => by simp at hn
  | b :: io, v :: vs, o :: σ, [], _, h, _, _, _ => h.elim
theorem env_app {Z : Fp} {H : Hp} : ∀ {σ : Stt} {ρ : Env} {A : Fp} (n : Nat), EnvRep K Z H σ ρ A → EnvRep K Z H (σ ++ List.replicate n none) (ρ ++ List.replicate n .no) A
  | [], [], A, 0, _ => trivial
  | [], [], A, n + 1, _ => by
    show EnvRep K Z H (List.replicate (n + 1) none) (List.replicate (n + 1) .no) A
    rw [List.replicate_succ, List.replicate_succ]
    exact ⟨emp, A, trivial, env_app (σ := []) (ρ := []) n trivial, fun _ z => z.elim, fun _ h => h, fun _ z => z.elim⟩
  | o :: σ, s :: ρ, A, n, h => by
    obtain ⟨B, C, h1, h2, s1, s2, d⟩ := h
    exact ⟨B, C, h1, env_app n h2, s1, s2, d⟩
  | [], _ :: _, _, _, h => h.elim
  | _ :: _, [], _, _, h => h.elim
variable {P : Program} {w : World} {base : Heap}
theorem fun_ok {x qual : Str} {st : Stmt} {f : Addr} {fd : FuncData} {N ps : List Str} {k : Nat} (io : List Bool) {b : FF} (F : Fun K x qual st f fd) (S : FnScope N ps (defScope st)) (hio : io.length = ps.length) (hN : ps.length ≤ N.length)
    (hb : ∀ (cdv : Value) (A : Around) (outer : List PySem.Env) (s : Shared) (H : Hp) (E : XK), Room k (A.deeper (envOfC qual (defScope st) s.heap.objs.size f cdv)) →
      JTs (cxOf (L2.CX P w) P w K mg base N qual (defScope st) f cdv A outer s H E) (fun cls d _ H => E cls d H) (kpOf io) (defBody st) b) :
    FnOk P w K mg base (L2.CX P w) (k + 1) f fd ps (spF K mg (fnOf io N.length b)) := by
  have hlen : ∀ vs H Q E, spF K mg (fnOf io N.length b) vs H Q E → vs.length = ps.length := by
    intro vs H Q E h
    obtain ⟨ρ, Z, A, G, q⟩ := h
    have e := G.env.len
    unfold fnOf at q
    by_cases hr : ρ.length = io.length
    · rw [← hio, ← hr, ← e]; simp
    · rw [if_neg hr] at q; exact q.elim
  refine F.okX S hlen fun cdv A outer s H vs Q E hr h => ⟨_, hb cdv A outer s H E hr, ?_⟩
  have hvl := hlen vs H Q E h
  obtain ⟨ρ, Z, A1, G, q⟩ := h
  have e := G.env.len
  unfold fnOf at q
  by_cases hr : ρ.length = io.length
  · rw [if_pos hr] at q
    have hst : L2.start N vs = vs.map some ++ List.replicate (N.length - io.length) none := by unfold L2.start; rw [hvl, hio]
    have G' : Good K Z H (L2.start N vs) (ρ ++ List.replicate (N.length - io.length) .no) A1 := ⟨by rw [hst]; exact env_app _ G.env, G.dis, G.alZ, G.alA⟩
    refine FT_iff.mpr ⟨_, Z, A1, G', ?_⟩
    have bk : ∀ {σ' : Stt} {H' : Hp} {Z' A' : Fp} {ρ' : Env}, Good K Z' H' σ' ρ' A' → Agree (kpOf io) (L2.start N vs) σ' → Good K Z' H' (vs.map some) (maskE io ρ') A' := fun {σ' H' Z' A' ρ'} g a =>
      ⟨mask_env g.env (by rw [hvl, hio]) (by rw [a.1, hst]; simp) fun i hi => by
        rw [a.2 i hi, hst]
        have hi2 : i < io.length := by
          rcases Nat.lt_or_ge i io.length with z | z
          · exact z
          · rw [List.getD_eq_getElem?_getD, List.getElem?_eq_none z] at hi; cases hi
        rw [List.getElem?_append_left (by simp; omega)], g.dis, g.alZ, g.alA⟩
    generalize b (ρ ++ List.replicate (N.length - io.length) .no) = o at q ⊢
    match o, q with
    | .ok (.rt t, ρ'), q => exact fun v σ' H' Z' A' B g r d al s a => q v H' Z' A' B (bk g a) r d al s
    | .ok (.nx, ρ'), q => exact fun σ' H' Z' A' g s a => q .non H' Z' A' emp (bk g a) rfl (fun _ z => z.elim) (fun _ z => z.elim) (s.mono fun a h => h.elim id fun z => z.elim)
    | .ok (.bk, _), q => exact q.elim
    | .ok (.ct, _), q => exact q.elim
    | .exc e ρ', q => exact fun cls d σ' H' Z' A' g s a x => q cls d H' Z' A' (bk g a) s x
    | .bad, q => exact q.elim
  · rw [if_neg hr] at q; exact q.elim
def argSl : T → Sl
  | .pv p => .ow (.pv p)
  | t => .vw t
def fCall (g : Fn) (fa : Env → R Unit (List T)) : Env → R Unit T := fun ρ => (fa ρ).bind fun ts => match g (ts.map argSl) with
  | .ok (t, _) => .ok t
  | .exc e _ => .exc e ()
  | .bad => .bad
mutual
theorem Vw.alloc {H : Hp} : ∀ (t : T) (v : V), Vw K top H t v → Vw K (fun b => H b ≠ none) H t v
  | .pv p, v, h => h
  | .tup ts, _, h => by
    obtain ⟨a, xs, e, q, r⟩ := h
    exact ⟨a, xs, e, q, Vws.alloc ts xs r⟩
  | .lst ts, _, h => by
    obtain ⟨a, xs, e, q, r⟩ := h
    exact ⟨a, xs, e, ⟨q.1, by show H a ≠ none; rw [q.1]; intro z; cases z⟩, Vws.alloc ts xs r⟩
  | .fls ts, _, h => by
    obtain ⟨a, xs, e, q, r⟩ := h
    exact ⟨a, xs, e, q, Vws.alloc ts xs r⟩
  | .dct tk ks ts, _, h => by
    obtain ⟨a, xs, e, q, r⟩ := h
    exact ⟨a, xs, e, q.imp fun o h => h.imp (fun z => ⟨z.1, by show H a ≠ none; rw [z.1]; intro z; cases z⟩) id, Vws.alloc ts xs r⟩
theorem Vws.alloc {H : Hp} : ∀ (ts : List T) (xs : List V), Vws K top H ts xs → Vws K (fun b => H b ≠ none) H ts xs
  | [], _, h => h
  | t :: ts, _, h => by
    obtain ⟨x, r, e, h1, h2⟩ := h
    exact ⟨x, r, e, Vw.alloc t x h1, Vws.alloc ts r h2⟩
end
theorem args_env {Z : Fp} {H : Hp} : ∀ {ts : List T} {vs : List V}, Vws K Z H ts vs → EnvRep K Z H (vs.map some) (ts.map argSl) emp
  | [], _, h => by
    have e : _ = [] := h
    subst e
    trivial
  | t :: ts, _, h => by
    obtain ⟨x, r, e, h1, h2⟩ := h
    subst e
    refine ⟨emp, emp, ?_, args_env h2, fun _ z => z, fun _ z => z, fun _ z => z.elim⟩
    cases t with
    | pv p => exact ⟨x, rfl, h1⟩
    | _ => exact ⟨x, rfl, h1⟩
end
section
variable {X : Cx} {W : WX} {k : Nat} {f : Addr} {fd : FuncData} {ps : List Str} {x : Str} {p pos : Pos} {e : Expr} {es : List Expr}
structure Cal (X : Cx) (k : Nat) (x : Str) (g : Fn) : Prop where
  ex : ∃ (f : Addr) (fd : FuncData) (ps : List Str), FnOk X.prog X.w X.K X.mg X.base (L2.CX X.prog X.w) k f fd ps (spF X.K X.mg g) ∧ X.mg x = some (.ref f) ∧ PySem.W.keepIn X.K (.ref f) = true ∧ Binds X.K fd ps []
theorem q_call {g : Fn} {fas : Env → R Unit (List T)} (tk : Takes X W) (c : Cal X k x g) (hr : Room k X.A) (hg : Gl X x) (ha : JQA X W (e :: es) fas) (hdb : (x == ("__debug__" : Str)) = false := by decide)
    (he : starEach (e :: es) X.env = (false, eval e X.env) :: starEach es X.env := by rfl) (hpl : (backTo pos (starEach es X.env)).any (·.1) = false := by rfl) : JQ X W .o (.Call (.Name x p) (e :: es) [] pos) (fCall g fas) := by
  obtain ⟨f, fd, ps, F, hm, hk, hb⟩ := c.ex
  refine peM (pe_callS F hr hg hm hk hb (fun σ => passAt tk σ) ha hdb he hpl) fun σ H Q ⟨ρ, Z, A, G, q⟩ => ⟨ρ, Z, A, G, ?_⟩
  revert q
  unfold fCall
  cases fas ρ with
  | ok ts =>
    intro q vs H1 e1 r1
    rw [R.bind_ok] at q
    refine ⟨ts.map argSl, fun b => H1 b ≠ none, emp, ⟨args_env (Vws.alloc ts vs r1), fun _ _ z => z, fun _ h => h, fun _ z => z.elim⟩, ?_⟩
    revert q
    have ext : ∀ {H' : Hp} {A' : Fp}, Step H1 emp H' A' → Ext H1 H' := fun s b o h => s.keep b o h fun z => z.elim
    match g (ts.map argSl) with
    | .ok (t, ρ') => exact fun q v H' Z' A' B g r d al s => q v H' (e1.trans (ext s)) ⟨B, r, fun a ha => e1.fresh ((s.sub a (.inr ha)).elim (fun z => z.elim) id), al⟩
    | .exc e ρ' => exact fun q cls d H' Z' A' g s x => q cls d H' (e1.trans (ext s)) x
    | .bad => exact fun q => q.elim
  | exc e x => exact fun q => q
  | bad => exact fun q => q.elim
end
end TR
namespace TR
open PySem PySem.Spec PyProof.Rows L2
abbrev TgF := Sl → Env → Option Env
def SlAt (K : PySem.W.Frag) (Z : Fp) (H : Hp) (s : Sl) (v : V) (B : Fp) : Prop := SlRep K Z H (some v) s B ∧ s ≠ .no
def FG (K : PySem.W.Frag) (kp : Nat → Bool) (tg : TgF) : TG := fun v σ H Q => ∃ ρ Z A s B, Good K Z H σ ρ A ∧ SlRep K Z H (some v) s B ∧ Disj B A ∧ Disj B Z ∧ Al H B ∧ match tg s ρ with
  | some ρ' => ∀ σ' A', Good K Z H σ' ρ' A' → Sub A' (un A B) → Agree kp σ σ' → Q σ' H
  | none => False
def JG (X : Cx) (kp : Nat → Bool) (e : Expr) (tg : TgF) : Prop := PG X e (FG X.K kp tg)
def SlReps (K : PySem.W.Frag) (Z : Fp) (H : Hp) : List Sl → List V → Fp → Prop
  | [], vs, _ => vs = []
  | s :: ss, vs, A => ∃ v r B C, vs = v :: r ∧ SlRep K Z H (some v) s B ∧ SlReps K Z H ss r C ∧ Sub B A ∧ Sub C A ∧ Disj B C
abbrev TgsF := List Sl → Env → Option Env
def FGs (K : PySem.W.Frag) (kp : Nat → Bool) (tg : TgsF) : TGs := fun vs σ H Q => ∃ ρ Z A ss B, Good K Z H σ ρ A ∧ SlReps K Z H ss vs B ∧ Disj B A ∧ Disj B Z ∧ Al H B ∧ match tg ss ρ with
  | some ρ' => ∀ σ' A', Good K Z H σ' ρ' A' → Sub A' (un A B) → Agree kp σ σ' → Q σ' H
  | none => False
def JGs (X : Cx) (kp : Nat → Bool) (es : List Expr) (tg : TgsF) : Prop := PGs X es (FGs X.K kp tg)
def gN (i : Nat) : TgF := fun s ρ => if i < ρ.length then some (ρ.set i s) else none
def gsNil : TgsF := fun ss ρ => match ss with
  | [] => some ρ
  | _ => none
def gsCons (g : TgF) (gs : TgsF) : TgsF := fun ss ρ => match ss with
  | s :: r => (g s ρ).bind fun ρ1 => gs r ρ1
  | [] => none
def parts : Sl → Option (List Sl)
  | .ow (.pv (.tup ps)) => some (ps.map fun p => .ow (.pv p))
  | .vw (.pv (.tup ps)) => some (ps.map fun p => .ow (.pv p))
  | .ow (.tup ts) => some (ts.map .ow)
  | .vw (.tup ts) => some (ts.map argSl)
  | _ => none
def partsL : Sl → Option (List Sl)
  | .ow (.lst ts) => some (ts.map .ow)
  | .vw (.lst ts) => some (ts.map argSl)
  | _ => none
def gT (gs : TgsF) : TgF := fun s ρ => (parts s).bind fun ss => gs ss ρ
def gL (gs : TgsF) : TgF := fun s ρ => (partsL s).bind fun ss => gs ss ρ
section
variable {X : Cx} {kp : Nat → Bool} {K : PySem.W.Frag}
theorem Good.setS {Z A B : Fp} {H : Hp} {σ : Stt} {ρ : Env} {i : Nat} {s : Sl} {o : Option V} (G : Good K Z H σ ρ A) (hi : i < ρ.length) (r : SlRep K Z H o s B) (dB : Disj B A) (dZ : Disj B Z) (al : Al H B) :
    ∃ C, Good K Z H (σ.set i o) (ρ.set i s) C ∧ Sub C (un A B) := by
  obtain ⟨o1, B0, C, h1, h2, h3, h4, h5, put⟩ := G.env.at (List.getElem?_eq_getElem hi)
  refine ⟨un B C, ⟨put H Z Kp.refl (fun _ h => h) o s B r fun a hb hc => dB a hb (h4 a hc), fun a hz hb => hb.elim (fun z => dZ a z hz) fun z => G.dis a hz (h4 a z), G.alZ, fun a ha => ha.elim (al a) fun z => G.alA a (h4 a z)⟩, fun a ha => ha.elim .inr fun z => .inl (h4 a z)⟩
theorem g_name (i : Nat) {x : Str} {pos : Pos} (hN : X.N.Nodup) (hi : X.N[i]? = some x) (hx : Loc X.env.scope x) (hk : kp i = false := by rfl) (hf : X.fn x = true ∨ X.env.scope.names.lookup x = some .local := by first | exact .inl rfl | exact .inr rfl | assumption) : JG X kp (.Name x pos) (gN i) := by
  refine ⟨fun pins s σ H v u Q I r h => (pg_name (i := i) hN hi hx hf).run pins s σ H v u Q I r ?_⟩
  obtain ⟨ρ, Z, A, sl, B, G, rs, d1, d2, al, q⟩ := h
  unfold gN at q
  by_cases hi : i < ρ.length
  · rw [if_pos hi] at q
    obtain ⟨C, G', s⟩ := G.setS hi rs d1 d2 al
    exact q _ C G' s (Agree.set hk)
  · rw [if_neg hi] at q; exact q.elim
theorem gs_nil : JGs X kp [] gsNil := by
  refine ⟨fun pins s σ H vs us Q I r h => pgs_nil.run pins s σ H vs us Q I r ?_⟩
  obtain ⟨ρ, Z, A, ss, B, G, rs, d1, d2, al, q⟩ := h
  unfold gsNil at q
  cases ss with
  | nil => exact ⟨rs, q σ A G (fun _ h => .inl h) Agree.refl⟩
  | cons a b => exact q.elim
theorem SlReps.imp {Z Z' : Fp} {H : Hp} : ∀ {ss : List Sl} {vs : List V} {A B : Fp}, SlReps K Z H ss vs A → Sub A B → Sub Z Z' → SlReps K Z' H ss vs B
  | [], _, _, _, h, _, _ => h
  | s :: ss, _, _, _, ⟨v, r, C, D, e, h1, h2, s1, s2, d⟩, sb, sz => ⟨v, r, C, D, e, h1.mono (fun _ h => h) sz, h2.imp (fun _ h => h) sz, fun a h => sb a (s1 a h), fun a h => sb a (s2 a h), d⟩
theorem gs_cons {e : Expr} {es : List Expr} {g : TgF} {gs : TgsF} (h1 : JG X kp e g) (h2 : JGs X kp es gs) (hs : (assignEach (e :: es) X.env).map (·.2) = assign e X.env :: (assignEach es X.env).map (·.2) := by rfl) : JGs X kp (e :: es) (gsCons g gs) := by
  refine ⟨fun pins s σ H vs us Q I r h => (pgs_cons h1 h2 hs).run pins s σ H vs us Q I r ?_⟩
  obtain ⟨ρ, Z, A, ss, B, G, rs, d1, d2, al, q⟩ := h
  cases ss with
  | nil => exact q.elim
  | cons s ss =>
    obtain ⟨v, r', C, D, e1, h1', h2', s1, s2, d⟩ := rs
    refine ⟨v, r', e1, ρ, Z, A, s, C, G, h1', fun a h => d1 a (s1 a h), fun a h => d2 a (s1 a h), fun a h => al a (s1 a h), ?_⟩
    unfold gsCons at q
    dsimp only at q
    cases hg : g s ρ with
    | none => rw [hg] at q; exact q.elim
    | some ρ1 =>
      rw [hg] at q
      intro σ1 A1 G1 sA ag
      refine ⟨ρ1, Z, A1, ss, D, G1, h2', fun a h1 h2 => (sA a h2).elim (fun z => d1 a (s2 a h1) z) fun z => d a z h1, fun a h => d2 a (s2 a h), fun a h => al a (s2 a h), ?_⟩
      dsimp only [Option.bind_some] at q
      cases hg2 : gs ss ρ1 with
      | none => rw [hg2] at q; exact q.elim
      | some ρ2 =>
        rw [hg2] at q
        exact fun σ' A' G' sA' ag' => q σ' A' G' (fun a h => (sA' a h).elim (fun z => (sA a z).elim .inl fun y => .inr (s1 a y)) fun z => .inr (s2 a z)) (ag.trans ag')
theorem reps_sl {Z : Fp} {H : Hp} : ∀ {ts : List T} {vs : List V} {A : Fp}, Reps H ts vs A → SlReps K Z H (ts.map .ow) vs A
  | [], _, _, h => h
  | t :: ts, _, _, ⟨v, r, B, C, e, h1, h2, s1, s2, d⟩ => ⟨v, r, B, C, e, ⟨v, rfl, h1⟩, reps_sl h2, s1, s2, d⟩
theorem vws_sl {Z : Fp} {H : Hp} : ∀ {ts : List T} {vs : List V} {A : Fp}, Vws K Z H ts vs → SlReps K Z H (ts.map argSl) vs A
  | [], _, _, h => h
  | t :: ts, _, _, ⟨v, r, e, h1, h2⟩ => ⟨v, r, emp, emp, e, by
      cases t with
      | pv p => exact ⟨v, rfl, h1⟩
      | _ => exact ⟨v, rfl, h1⟩, vws_sl h2, fun _ z => z.elim, fun _ z => z.elim, fun _ z => z.elim⟩
theorem pps_sl {Z : Fp} {H : Hp} : ∀ {ps : List P} {vs : List V} {A : Fp}, RepPs H ps vs → SlReps K Z H (ps.map fun p => .ow (.pv p)) vs A
  | [], _, _, h => h
  | t :: ts, _, _, ⟨v, r, e, h1, h2⟩ => ⟨v, r, emp, emp, e, ⟨v, rfl, h1⟩, pps_sl h2, fun _ z => z.elim, fun _ z => z.elim, fun _ z => z.elim⟩
theorem parts_ok {Z B : Fp} {H : Hp} {s : Sl} {v : V} {ss : List Sl} (r : SlRep K Z H (some v) s B) (e : parts s = some ss) : ∃ a xs, v = .ref a ∧ SqT K H a xs ∧ SlReps K Z H ss xs B := by
  cases s with
  | no => cases e
  | ow t =>
    obtain ⟨w, e1, r⟩ := r
    cases e1
    cases t with
    | pv p =>
      cases p with
      | tup ps =>
        cases e
        obtain ⟨a, xs, e, q, r⟩ := r
        exact ⟨a, xs, e, .of q, pps_sl r⟩
      | _ => cases e
    | tup ts =>
      cases e
      obtain ⟨a, xs, e, q, r⟩ := r
      exact ⟨a, xs, e, .of q, reps_sl r⟩
    | _ => cases e
  | vw t =>
    obtain ⟨w, e1, r⟩ := r
    cases e1
    cases t with
    | pv p =>
      cases p with
      | tup ps =>
        cases e
        obtain ⟨a, xs, e, q, r⟩ := r
        exact ⟨a, xs, e, .of q, pps_sl r⟩
      | _ => cases e
    | tup ts =>
      cases e
      obtain ⟨a, xs, e, q, r⟩ := r
      exact ⟨a, xs, e, .of q, vws_sl r⟩
    | _ => cases e
theorem SlReps.len {Z : Fp} {H : Hp} : ∀ {ss : List Sl} {vs : List V} {A : Fp}, SlReps K Z H ss vs A → vs.length = ss.length
  | [], _, _, h => by
    have e : _ = [] := h
    subst e; rfl
  | s :: ss, _, _, ⟨v, r, C, D, e, h1, h2, s1, s2, d⟩ => by subst e; simp [SlReps.len h2]
theorem RdL.sq {Z : Fp} {H : Hp} {a : Addr} {xs : List V} (h : RdL K Z H a xs) : SqL K H a xs := .inl (.inl h.1)
theorem FrL.sq {H : Hp} {a : Addr} {xs : List V} (h : FrL K H a xs) : SqL K H a xs := h.elim (fun z => .inl (.inr z)) .inr
theorem partsL_ok {Z B : Fp} {H : Hp} {s : Sl} {v : V} {ss : List Sl} (r : SlRep K Z H (some v) s B) (e : partsL s = some ss) : ∃ a xs, v = .ref a ∧ SqL K H a xs ∧ SlReps K Z H ss xs B := by
  cases s with
  | no => cases e
  | ow t =>
    obtain ⟨w, e1, r⟩ := r
    cases e1
    cases t with
    | lst ts =>
      cases e
      obtain ⟨a, xs, e, q, m, r⟩ := r
      exact ⟨a, xs, e, .of q, (reps_sl r).imp (fun b h => h.1) fun _ h => h⟩
    | _ => cases e
  | vw t =>
    obtain ⟨w, e1, r⟩ := r
    cases e1
    cases t with
    | lst ts =>
      cases e
      obtain ⟨a, xs, e, q, r⟩ := r
      exact ⟨a, xs, e, q.sq, vws_sl r⟩
    | _ => cases e
theorem FGs.len {n : Nat} {gs : TgsF} (hn : ∀ ss ρ, ss.length ≠ n → gs ss ρ = none) {ss : List Sl} {ρ ρ' : Env} (h : gs ss ρ = some ρ') : ss.length = n := by
  by_cases e : ss.length = n
  · exact e
  · rw [hn ss ρ e] at h; cases h
class Takesn (gs : TgsF) (n : Nat) : Prop where
  h : ∀ ss ρ, ss.length ≠ n → gs ss ρ = none
instance : Takesn gsNil 0 := ⟨fun ss ρ h => by
  cases ss with
  | nil => exact absurd rfl h
  | cons a b => rfl⟩
instance {g : TgF} {gs : TgsF} {n : Nat} [i : Takesn gs n] : Takesn (gsCons g gs) (n + 1) := ⟨fun ss ρ h => by
  cases ss with
  | nil => rfl
  | cons a b =>
    show (g a ρ).bind (fun ρ1 => gs b ρ1) = none
    cases g a ρ with
    | none => rfl
    | some ρ1 => exact i.h b ρ1 (by simpa using h)⟩
theorem g_tup {es : List Expr} {k : Nat} {gs : TgsF} {n : Nat} {pos : Pos} (hc : X.calm = true) (h : JGs X kp es gs) [t : Takesn gs n] (hn : (assignEach es X.env).length = n := by rfl) (hst : (assignEach es X.env).findIdx? (·.1) = none := by rfl) : JG X kp (.Tuple es k pos) (gT gs) := by
  refine ⟨fun pins s σ H v u Q I r h' => (pg_tup hc h hn hst).run pins s σ H v u Q I r ?_⟩
  obtain ⟨ρ, Z, A, sl, B, G, rs, d1, d2, al, q⟩ := h'
  unfold gT at q
  cases e : parts sl with
  | none => rw [e] at q; exact q.elim
  | some ss =>
    rw [e] at q
    obtain ⟨a, xs, e1, hq, r2⟩ := parts_ok rs e
    dsimp only [Option.bind_some] at q
    refine ⟨a, xs, e1, hq, ?_, ρ, Z, A, ss, B, G, r2, d1, d2, al, q⟩
    rw [r2.len]
    cases hg : gs ss ρ with
    | none => rw [hg] at q; exact q.elim
    | some ρ' => exact FGs.len t.h hg
theorem g_lst {es : List Expr} {k : Nat} {gs : TgsF} {n : Nat} {pos : Pos} (hc : X.calm = true) (h : JGs X kp es gs) [t : Takesn gs n] (hn : (assignEach es X.env).length = n := by rfl) (hst : (assignEach es X.env).findIdx? (·.1) = none := by rfl) : JG X kp (.Tuple es k pos) (gL gs) := by
  refine ⟨fun pins s σ H v u Q I r h' => (pg_lst hc h hn hst).run pins s σ H v u Q I r ?_⟩
  obtain ⟨ρ, Z, A, sl, B, G, rs, d1, d2, al, q⟩ := h'
  unfold gL at q
  cases e : partsL sl with
  | none => rw [e] at q; exact q.elim
  | some ss =>
    rw [e] at q
    obtain ⟨a, xs, e1, hq, r2⟩ := partsL_ok rs e
    dsimp only [Option.bind_some] at q
    refine ⟨a, xs, e1, hq, ?_, ρ, Z, A, ss, B, G, r2, d1, d2, al, q⟩
    rw [r2.len]
    cases hg : gs ss ρ with
    | none => rw [hg] at q; exact q.elim
    | some ρ' => exact FGs.len t.h hg
end
def tAs (g : TgF) (f : Env → R Unit T) : FF := fun ρ => liftQ (f ρ) ρ fun t => match g (.ow t) ρ with
  | some ρ' => .ok (.nx, ρ')
  | none => .bad
def tAsE (g : TgF) (f : Env → R Env (AV × Env)) : FF := fun ρ => (f ρ).bind fun (a, ρ1) => match a with
  | .val t => (match g (.ow t) ρ1 with
    | some ρ' => .ok (.nx, ρ')
    | none => .bad)
  | _ => .bad
section
variable {X : Cx} {W : WX} {kp : Nat → Bool} {e tg : Expr} {pos : Pos} {g : TgF}
theorem t_as {f : Env → R Unit T} (he : JQ X W .o e f) (hg : JG X kp tg g) (hs : swapsWithSole [tg] e pos.line X.env = pure false := by rfl) (hw : swappedStores [tg] e X.env = pure none := by rfl)
    (h1 : (assignEach [tg] X.env).map (·.2) = [assign tg X.env] := by rfl) : JT X W kp (.Assign [tg] e pos) (tAs g f) := psM (ps_asg he hg hs hw h1) fun D σ H h => by
  obtain ⟨ρ, Z, A, G, q⟩ := FT_iff.mp h
  refine ⟨ρ, Z, A, G, ?_⟩
  unfold tAs at q
  revert q
  cases f ρ with
  | ok t =>
    intro q v H1 e1 ⟨B, rb, fr, al⟩
    rw [liftQ_ok] at q
    refine ⟨ρ, Z, A, .ow t, B, G.ext e1, ⟨v, rfl, rb⟩, fun a h1 h2 => G.alA a h2 (fr a h1), fun a h1 h2 => G.alZ a h2 (fr a h1), al, ?_⟩
    cases hg : g (.ow t) ρ with
    | none => rw [hg] at q; exact q.elim
    | some ρ' =>
      rw [hg] at q
      exact fun σ' A' G' s ag => q σ' H1 Z A' G' ((Step.ext e1 fr).mono s) ag
  | exc e x => exact fun q cls d H' e2 x => q cls d σ H' Z A (G.ext e2) (Step.ext0 e2) Agree.refl x
  | bad => exact id
theorem t_asE {f : Env → R Env (AV × Env)} (he : JS X W e f) (hg : JG X kp tg g) (hs : swapsWithSole [tg] e pos.line X.env = pure false := by rfl) (hw : swappedStores [tg] e X.env = pure none := by rfl)
    (h1 : (assignEach [tg] X.env).map (·.2) = [assign tg X.env] := by rfl) : JT X W kp (.Assign [tg] e pos) (tAsE g f) := psM (ps_asg he hg hs hw h1) fun D σ H h => by
  obtain ⟨ρ, Z, A, G, q⟩ := FT_iff.mp h
  refine ⟨ρ, Z, A, G, ?_⟩
  unfold tAsE at q
  revert q
  cases f ρ with
  | ok t =>
    obtain ⟨a, ρ1⟩ := t
    intro q v H1 A1 B G1 r d al s1
    simp only [R.bind_ok] at q
    cases a with
    | late j => exact q.elim
    | val t =>
      dsimp only at q
      have dz : Disj B Z := fun a h1 h2 => (s1.sub a (.inr h1)).elim (fun z => G.dis a h2 z) fun z => G.alZ a h2 z
      refine ⟨ρ1, Z, A1, .ow t, B, G1, ⟨v, rfl, r⟩, d, dz, al, ?_⟩
      cases hg : g (.ow t) ρ1 with
      | none => rw [hg] at q; exact q.elim
      | some ρ' =>
        rw [hg] at q
        exact fun σ' A' G' s ag => q σ' H1 Z A' G' (s1.mono s) ag
  | exc e x => exact fun q cls d H' A' G' s' x => q cls d σ H' Z A' G' s' Agree.refl x
  | bad => exact id
def tPr (i j : Nat) (f : Env → R Unit (List T)) : FF := fun ρ => liftQ (f ρ) ρ fun ts => match ts with
  | [t, u] => if i < ρ.length ∧ j < ρ.length then .ok (.nx, (ρ.set i (.ow t)).set j (.ow u)) else .bad
  | _ => .bad
theorem t_par (i j : Nat) {x y : Str} {a b : Expr} {f : Env → R Unit (List T)} {px py pt : Pos} {kt k2 pt2} (hc : X.calm = true) (hN : X.N.Nodup) (hi : X.N[i]? = some x) (hj : X.N[j]? = some y) (hij : i ≠ j)
    (hx : X.env.scope.names.lookup x = some .local) (hy : X.env.scope.names.lookup y = some .local) (ha : JOA X W [a, b] f)
    (hw : swappedStores [.Tuple [.Name x px, .Name y py] kt pt] (.Tuple [a, b] k2 pt2) X.env = pure (some [x, y])) (hk : kp i = false := by rfl) (hk2 : kp j = false := by rfl)
    (hs : swapsWithSole [.Tuple [.Name x px, .Name y py] kt pt] (.Tuple [a, b] k2 pt2) pos.line X.env = pure false := by rfl) :
    JT X W kp (.Assign [.Tuple [.Name x px, .Name y py] kt pt] (.Tuple [a, b] k2 pt2) pos) (tPr i j f) := psM (ps_par hc hN hi hj hij hx hy ha hw hs) fun D σ H h => by
  obtain ⟨ρ, Z, A, G, q⟩ := FT_iff.mp h
  refine ⟨ρ, Z, A, G, ?_⟩
  unfold tPr at q
  revert q
  cases f ρ with
  | ok ts =>
    intro q vs H1 B e1 r fr al
    rw [liftQ_ok] at q
    match ts, q, r with
    | [t, u], q, ⟨v, r, B1, C1, e2, h1, ⟨w, r2, B2, C2, e3, h2, e4, s3, s4, d2⟩, s1, s2, d⟩ =>
      obtain rfl : r2 = [] := e4
      subst e2 e3
      refine ⟨v, w, rfl, ?_⟩
      dsimp only at q
      by_cases hl : i < ρ.length ∧ j < ρ.length
      · rw [if_pos hl] at q
        obtain ⟨C, G', s⟩ := (G.ext e1).setS (o := some v) (s := .ow t) (B := B1) hl.1 ⟨v, rfl, h1⟩ (fun a x y => G.alA a y (fr a (s1 a x))) (fun a x y => G.alZ a y (fr a (s1 a x))) (fun a x => al a (s1 a x))
        obtain ⟨C', G'', s'⟩ := G'.setS (o := some w) (i := j) (s := .ow u) (B := B2) (by simpa using hl.2) ⟨w, rfl, h2⟩ (fun a x y => (s a y).elim (fun z => G.alA a z (fr a (s2 a (s3 a x)))) fun z => d a z (s3 a x)) (fun a x y => G.alZ a y (fr a (s2 a (s3 a x)))) (fun a x => al a (s2 a (s3 a x)))
        refine q _ H1 Z C' G'' ((Step.ext e1 fr).mono fun a ha => (s' a ha).elim (fun z => (s a z).imp id (s1 a)) fun z => .inr (s2 a (s3 a z))) ((Agree.set hk).trans (Agree.set hk2))
      · rw [if_neg hl] at q; exact q.elim
    | [], q, _ => exact q.elim
    | [_], q, _ => exact q.elim
    | _ :: _ :: _ :: _, q, _ => exact q.elim
  | exc e x => exact fun q cls d H' e2 x => q cls d σ H' Z A (G.ext e2) (Step.ext0 e2) Agree.refl x
  | bad => exact id
end
end TR
namespace TR
open PySem PySem.Spec PyProof.Rows L2
def ItemsAt (K : PySem.W.Frag) (Z1 : Fp) (Rl : Hp → Prop) (J : It) (ss : List Sl) : Prop :=
  ∀ H', Rl H' → (∀ i s, ss[i]? = some s → J.go i H' ∧ ∀ x H'', J.yld i H' x H'' → Ext H' H'' ∧ ∃ B, SlRep K Z1 H'' (some x) s B ∧ Fresh H' B ∧ Al H'' B) ∧ J.stop ss.length H'
def Bnd (K : PySem.W.Frag) (H : Hp) : Prop := (∀ a xs, SqL K H a xs → xs.length ≤ sizeLine) ∧ ∀ a xs, SqT K H a xs → xs.length ≤ sizeLine
theorem Inv.bnd {X : Cx} {pins : List (Addr × Obj)} {σ : Stt} {H : Hp} {s : Shared} (I : Inv X pins σ H s) : Bnd X.K H :=
  ⟨fun a xs h => let ⟨_, _, _, z⟩ := I.list h; z, fun a xs h => let ⟨_, _, _, z⟩ := I.tuple h; z⟩
theorem piB {X : Cx} {tg it : Expr} {wi : TI} (h : PI X tg it wi) : PI X tg it (fun σ H R => wi σ H fun J H1 => Bnd X.K H1 → R J H1) := by
  refine ⟨fun pins s σ H R I q => ?_⟩
  refine thn (h.run pins s σ H _ I q) fun v s1 h1 => thn h1 fun itv s2 ⟨it, fp, tn, J, H', e, I2, T, t0, fo, r⟩ => ⟨it, fp, tn, J, H', e, I2, T, t0, fo, r (Inv.bnd I2)⟩
theorem peB {X : Cx} {e : Expr} {t : TE} (h : PE X e t) : PE X e (fun σ H Q => t σ H fun v H1 => Bnd X.K H1 → Q v H1) := by
  refine ⟨fun pins s σ H Q I q => ?_⟩
  exact thn (h.run pins s σ H _ I q) fun v s1 ⟨x, H1, I1, r, q⟩ => ⟨x, H1, I1, r, q (Inv.bnd I1)⟩
abbrev Stb (Z1 : Fp) (H1 : Hp) : Hp → Prop := fun H' => Kp emp Z1 H1 H'
def FI (K : PySem.W.Frag) (mg : Str → Option Value) (W : WX) (fi : Env → R Unit (List Sl)) : TI := fun σ H R => ∃ ρ Z A, Good K Z H σ ρ A ∧ match fi ρ with
  | .ok ss => ∀ J H1 Z1, Ext H H1 → Sub Z Z1 → Disj Z1 A → Al H1 Z1 → ItemsAt K Z1 (Stb Z1 H1) J ss → ss.length ≤ sizeLine → R J H1
  | .exc e _ => ∀ cls d H', Ext H H' → ExcRep mg H' e cls d → W cls d σ H'
  | .bad => False
def FIe (K : PySem.W.Frag) (mg : Str → Option Value) (W : WX) (fi : Env → R Unit (List Sl)) : TI := fun σ H R => ∃ ρ Z A, Good K Z H σ ρ A ∧ match fi ρ with
  | .ok ss => ∀ J H1, Ext H H1 → ItemsAt K (fun b => H1 b ≠ none) (Ext H1) J ss → ss.length ≤ sizeLine → R J H1
  | .exc e _ => ∀ cls d H', Ext H H' → ExcRep mg H' e cls d → W cls d σ H'
  | .bad => False
def JI (X : Cx) (W : WX) (tg it : Expr) (fi : Env → R Unit (List Sl)) : Prop := PI X tg it (FI X.K X.mg W fi)
def JIe (X : Cx) (W : WX) (tg it : Expr) (fi : Env → R Unit (List Sl)) : Prop := PI X tg it (FIe X.K X.mg W fi)
def seqSl : T → Option (List Sl)
  | .pv (.tup ps) => some (ps.map fun p => .ow (.pv p))
  | .tup ts => some (ts.map argSl)
  | .lst ts => some (ts.map argSl)
  | .fls ts => some (ts.map argSl)
  | .pv (.str x) => if x.cps.size ≤ sizeLine then some (x.cps.toList.map fun c => .ow (.pv (.str ⟨#[c]⟩))) else none
  | _ => none
def iSeqF (f : Env → R Unit T) : Env → R Unit (List Sl) := fun ρ => (f ρ).bind fun t => R.of (seqSl t)
section
variable {X : Cx} {W : WX} {K : PySem.W.Frag}
theorem slreps_get {Z : Fp} {H : Hp} : ∀ {ss : List Sl} {vs : List V} {A : Fp} {i : Nat} {s : Sl}, SlReps K Z H ss vs A → ss[i]? = some s → ∃ v B, vs[i]? = some v ∧ SlRep K Z H (some v) s B ∧ Sub B A
  | s :: ss, _, A, 0, s0, ⟨v, r, C, D, e, h1, h2, s1, s2, d⟩, e0 => by
    have e' : s = s0 := by simpa using e0
    subst e' e
    exact ⟨v, C, rfl, h1, s1⟩
  | s :: ss, _, A, i + 1, s0, ⟨v, r, C, D, e, h1, h2, s1, s2, d⟩, e0 => by
    subst e
    obtain ⟨w, B, e1, r1, sb⟩ := slreps_get (i := i) h2 (by simpa using e0)
    exact ⟨w, B, by simpa using e1, r1, fun a h => s2 a (sb a h)⟩
  | [], _, _, _, _, _, e0 => by simp at e0
theorem items_list {Z1 : Fp} {Rl : Hp → Prop} {a : Addr} {xs : List V} {ss : List Sl} (hq : ∀ H', Rl H' → SqL K H' a xs ∧ SlReps K Z1 H' ss xs emp) (inj : ∀ H' ys, SqL K H' a xs → SqL K H' a ys → ys = xs) : ItemsAt K Z1 Rl (Itl K a) ss := by
  intro H' r
  obtain ⟨h1, h2⟩ := hq H' r
  refine ⟨fun i s e => ?_, xs, h1, by rw [h2.len]; exact Nat.le_refl _⟩
  obtain ⟨v, B, e1, r1, sb⟩ := slreps_get h2 e
  refine ⟨⟨xs, v, h1, e1⟩, fun x H'' y => ?_⟩
  obtain ⟨rfl, y⟩ := y
  have ex : x = v := Option.some.inj ((y xs h1).symm.trans e1)
  subst ex
  exact ⟨Ext.refl _, emp, r1.mono sb fun _ h => h, fun _ z => z.elim, fun _ z => z.elim⟩
theorem items_list' {Z1 : Fp} {Rl : Hp → Prop} {a : Addr} {xs : List V} {ss : List Sl} (hq : ∀ H', Rl H' → SqL K H' a xs ∧ SlReps K Z1 H' ss xs emp) : ItemsAt K Z1 Rl (Itl K a) ss := by
  intro H' r
  obtain ⟨h1, h2⟩ := hq H' r
  refine ⟨fun i s e => ?_, xs, h1, by rw [h2.len]; exact Nat.le_refl _⟩
  obtain ⟨v, B, e1, r1, sb⟩ := slreps_get h2 e
  refine ⟨⟨xs, v, h1, e1⟩, fun x H'' y => ?_⟩
  obtain ⟨rfl, y⟩ := y
  have ex : x = v := Option.some.inj ((y xs h1).symm.trans e1)
  subst ex
  exact ⟨Ext.refl _, emp, r1.mono sb fun _ h => h, fun _ z => z.elim, fun _ z => z.elim⟩
theorem items_tup {Z1 : Fp} {Rl : Hp → Prop} {a : Addr} {xs : List V} {ss : List Sl} (hq : ∀ H', Rl H' → SqT K H' a xs ∧ SlReps K Z1 H' ss xs emp) : ItemsAt K Z1 Rl (Itt K a) ss := by
  intro H' r
  obtain ⟨h1, h2⟩ := hq H' r
  refine ⟨fun i s e => ?_, xs, h1, by rw [h2.len]; exact Nat.le_refl _⟩
  obtain ⟨v, B, e1, r1, sb⟩ := slreps_get h2 e
  refine ⟨⟨xs, v, h1, e1⟩, fun x H'' y => ?_⟩
  obtain ⟨rfl, y⟩ := y
  have ex : x = v := Option.some.inj ((y xs h1).symm.trans e1)
  subst ex
  exact ⟨Ext.refl _, emp, r1.mono sb fun _ h => h, fun _ z => z.elim, fun _ z => z.elim⟩
theorem items_str {Z1 : Fp} {Rl : Hp → Prop} {x : Str} : ItemsAt K Z1 Rl (Its x) (x.cps.toList.map fun c => .ow (.pv (.str ⟨#[c]⟩))) := by
  intro H' r
  refine ⟨fun i s e => ?_, by show x.cps.size ≤ _; simp⟩
  rw [List.getElem?_map] at e
  cases hc : x.cps.toList[i]? with
  | none => rw [hc] at e; cases e
  | some c =>
    rw [hc] at e
    cases e
    have hi : i < x.cps.size := by
      have := (List.getElem?_eq_some_iff.mp hc).1
      simpa using this
    refine ⟨hi, fun v H'' y => ?_⟩
    obtain ⟨rfl, c', e1, e2⟩ := y
    have : c' = c := by
      have e3 : x.cps.toList[i]? = some c' := by simpa using e1
      rw [e3] at hc; exact Option.some.inj hc
    subst this
    exact ⟨Ext.refl _, emp, ⟨v, rfl, e2⟩, fun _ z => z.elim, fun _ z => z.elim⟩
theorem seq_core {tg e : Expr} {te : TE} (h : PE X e te) {pins : List (Addr × Obj)} {s : Shared} {σ : Stt} {H : Hp} {Rq : It → Hp → Prop} (I : L2.Inv X pins σ H s)
    {t : T} {ss : List Sl} (ht : seqSl t = some ss) {Pv : VK} (hte : ∀ Q : VK, (∀ v H1, Pv v H1 → Q v H1) → te σ H Q)
    (hv : ∀ v H1, Pv v H1 → ∃ Z1 Rl, Vw X.K Z1 H1 t v ∧ Rl H1 ∧ (∀ H', Rl H' → Kp emp Z1 H1 H') ∧ ∀ J, ItemsAt X.K Z1 Rl J ss → ss.length ≤ sizeLine → Rq J H1) :
    wpAny (model X.prog X.w) X.A (eval e X.env) (fun v s1 => wpAny (model X.prog X.w) X.A (pyIter v) (PIE X pins σ tg Rq) X.xe s1) X.xe s := by
  have goT : ((∃ ps, t = .pv (.tup ps)) ∨ ∃ ts, t = .tup ts) →
      wpAny (model X.prog X.w) X.A (eval e X.env) (fun v s1 => wpAny (model X.prog X.w) X.A (pyIter v) (PIE X pins σ tg Rq) X.xe s1) X.xe s := by
    intro hx
    refine (piB (pi_tup (tg := tg) h)).run pins s σ H Rq I (hte _ fun v H1 pv => ?_)
    obtain ⟨Z1, Rl, hvw, r0, hk, fin⟩ := hv v H1 pv
    have hh : ∃ a xs, v = .ref a ∧ H1 a = some (.tup xs) ∧ ∀ H', Rl H' → SlReps X.K Z1 H' ss xs emp := by
      rcases hx with ⟨ps, rfl⟩ | ⟨ts, rfl⟩
      · cases ht
        obtain ⟨a, xs, ev, hq, hvs⟩ := hvw
        exact ⟨a, xs, ev, hq, fun H' k => pps_sl (RepPs.kp (hk H' k).tk _ _ hvs)⟩
      · cases ht
        obtain ⟨a, xs, ev, hq, hvs⟩ := hvw
        exact ⟨a, xs, ev, hq, fun H' k => vws_sl (Vws.kp (hk H' k) _ _ hvs)⟩
    obtain ⟨a, xs, ev, hq, hs⟩ := hh
    refine ⟨a, ev, ⟨xs, .of hq⟩, fun bnd => fin (Itt X.K a) (items_tup fun H' k => ⟨.of ((hk H' k).tk _ _ hq), hs H' k⟩) ?_⟩
    rw [← (hs H1 r0).len]
    exact bnd.2 a xs (.of hq)
  cases t with
  | lst ts =>
    cases ht
    refine (piB (pi_list (tg := tg) h)).run pins s σ H Rq I (hte _ fun v H1 pv => ?_)
    obtain ⟨Z1, Rl, hvw, r0, hk, fin⟩ := hv v H1 pv
    obtain ⟨a, xs, ev, hq, hvs⟩ := hvw
    refine ⟨a, ev, ⟨xs, hq.sq⟩, fun bnd => fin (Itl X.K a) (items_list' fun H' k => ⟨(hq.kp (hk H' k)).sq, vws_sl (Vws.kp (hk H' k) _ _ hvs)⟩) ?_⟩
    rw [List.length_map, Vws.len hvs]
    exact bnd.1 a xs hq.sq
  | fls ts =>
    cases ht
    refine (piB (pi_list (tg := tg) h)).run pins s σ H Rq I (hte _ fun v H1 pv => ?_)
    obtain ⟨Z1, Rl, hvw, r0, hk, fin⟩ := hv v H1 pv
    obtain ⟨a, xs, ev, hq, hvs⟩ := hvw
    refine ⟨a, ev, ⟨xs, hq.sq⟩, fun bnd => fin (Itl X.K a) (items_list' fun H' k => ⟨(hq.kp (hk H' k)).sq, vws_sl (Vws.kp (hk H' k) _ _ hvs)⟩) ?_⟩
    rw [List.length_map, Vws.len hvs]
    exact bnd.1 a xs hq.sq
  | dct tk ks ts => cases ht
  | tup ts => exact goT (.inr ⟨_, rfl⟩)
  | pv p =>
    cases p with
    | tup ps => exact goT (.inl ⟨_, rfl⟩)
    | str x =>
      have ht' : (if x.cps.size ≤ sizeLine then some (x.cps.toList.map fun c => Sl.ow (.pv (.str ⟨#[c]⟩))) else none) = some ss := ht
      by_cases z : x.cps.size ≤ sizeLine
      · rw [if_pos z] at ht'
        cases ht'
        refine (piB (pi_str (tg := tg) h)).run pins s σ H Rq I (hte _ fun v H1 pv => ?_)
        obtain ⟨Z1, Rl, hvw, r0, hk, fin⟩ := hv v H1 pv
        exact ⟨x, hvw, fun bnd => fin (Its x) items_str (by simpa using z)⟩
      · rw [if_neg z] at ht'; cases ht'
    | _ => cases ht
theorem iseq_cases {f : Env → R Unit T} {ρ : Env} {P1 : R Unit (List Sl) → Prop} (hb : ¬ P1 .bad) (h : P1 (iSeqF f ρ)) : (∃ t ss, f ρ = .ok t ∧ seqSl t = some ss ∧ P1 (.ok ss)) ∨ ∃ e, f ρ = .exc e () ∧ P1 (.exc e ()) := by
  unfold iSeqF at h
  cases hf : f ρ with
  | ok t =>
    rw [hf, R.bind_ok] at h
    cases ht : seqSl t with
    | none => rw [ht] at h; exact (hb h).elim
    | some ss => rw [ht] at h; exact .inl ⟨t, ss, rfl, ht, h⟩
  | exc e r => rw [hf] at h; exact .inr ⟨e, rfl, h⟩
  | bad => rw [hf] at h; exact (hb h).elim
theorem exc_run {m : Md} {tg e : Expr} {f : Env → R Unit T} (h : JQ X W m e f) {pins : List (Addr × Obj)} {s : Shared} {σ : Stt} {H : Hp} {Rq : It → Hp → Prop} (I : L2.Inv X pins σ H s) {ρ : Env} {Z A : Fp} (G : Good X.K Z H σ ρ A)
    {x : Exn} (hf : f ρ = .exc x ()) (q : ∀ cls d H', Ext H H' → ExcRep X.mg H' x cls d → W cls d σ H') :
    wpAny (model X.prog X.w) X.A (eval e X.env) (fun v s1 => wpAny (model X.prog X.w) X.A (pyIter v) (PIE X pins σ tg Rq) X.xe s1) X.xe s :=
  (pi_list (tg := tg) h).run pins s σ H Rq I ⟨ρ, Z, A, G, by rw [hf]; exact q⟩
theorem i_z {tg e : Expr} {f : Env → R Unit T} (h : JQ X W .z e f) : JI X W tg e (iSeqF f) := by
  refine ⟨fun pins s σ H Rq I q => ?_⟩
  obtain ⟨ρ, Z, A, G, q⟩ := q
  rcases iseq_cases (P1 := fun o => match o with
    | .ok ss => ∀ J H1 Z1, Ext H H1 → Sub Z Z1 → Disj Z1 A → Al H1 Z1 → ItemsAt X.K Z1 (Stb Z1 H1) J ss → ss.length ≤ sizeLine → Rq J H1
    | .exc e _ => ∀ cls d H', Ext H H' → ExcRep X.mg H' e cls d → W cls d σ H'
    | .bad => False) id q with ⟨t, ss, hf, ht, q⟩ | ⟨x, hf, q⟩
  · exact seq_core h I ht (Pv := fun v H1 => Ext H H1 ∧ ResM X.K Z H .z H1 t v) (fun Q hQ => ⟨ρ, Z, A, G, by rw [hf]; exact fun v H1 a b => hQ v H1 ⟨a, b⟩⟩) fun v H1 ⟨e1, r1⟩ => ⟨Z, Stb Z H1, r1, Kp.refl, fun H' k => k, fun J it hl => q J H1 Z e1 (fun _ h => h) G.dis (e1.al G.alZ) it hl⟩
  · exact exc_run h I G hf q
theorem i_o {tg e : Expr} {f : Env → R Unit T} (h : JQ X W .o e f) : JI X W tg e (iSeqF f) := by
  refine ⟨fun pins s σ H Rq I q => ?_⟩
  obtain ⟨ρ, Z, A, G, q⟩ := q
  rcases iseq_cases (P1 := fun o => match o with
    | .ok ss => ∀ J H1 Z1, Ext H H1 → Sub Z Z1 → Disj Z1 A → Al H1 Z1 → ItemsAt X.K Z1 (Stb Z1 H1) J ss → ss.length ≤ sizeLine → Rq J H1
    | .exc e _ => ∀ cls d H', Ext H H' → ExcRep X.mg H' e cls d → W cls d σ H'
    | .bad => False) id q with ⟨t, ss, hf, ht, q⟩ | ⟨x, hf, q⟩
  · refine seq_core h I ht (Pv := fun v H1 => Ext H H1 ∧ ResM X.K Z H .o H1 t v) (fun Q hQ => ⟨ρ, Z, A, G, by rw [hf]; exact fun v H1 a b => hQ v H1 ⟨a, b⟩⟩) fun v H1 ⟨e1, B, rb, fr, al⟩ => ⟨un Z B, Stb (un Z B) H1, Rep.vw (fun _ h => .inr h) t v rb, Kp.refl, fun H' k => k, fun J it hl => q J H1 (un Z B) e1 (fun _ h => .inl h) (fun a h1 h2 => h1.elim (fun z => G.dis a z h2) fun z => G.alA a h2 (fr a z)) (fun a h1 => h1.elim (e1.al G.alZ a) (al a)) it hl⟩
  · exact exc_run h I G hf q
theorem i_e {tg e : Expr} {f : Env → R Unit T} (h : JQ X W .e e f) : JIe X W tg e (iSeqF f) := by
  refine ⟨fun pins s σ H Rq I q => ?_⟩
  obtain ⟨ρ, Z, A, G, q⟩ := q
  rcases iseq_cases (P1 := fun o => match o with
    | .ok ss => ∀ J H1, Ext H H1 → ItemsAt X.K (fun b => H1 b ≠ none) (Ext H1) J ss → ss.length ≤ sizeLine → Rq J H1
    | .exc e _ => ∀ cls d H', Ext H H' → ExcRep X.mg H' e cls d → W cls d σ H'
    | .bad => False) id q with ⟨t, ss, hf, ht, q⟩ | ⟨x, hf, q⟩
  · exact seq_core h I ht (Pv := fun v H1 => Ext H H1 ∧ ResM X.K Z H .e H1 t v) (fun Q hQ => ⟨ρ, Z, A, G, by rw [hf]; exact fun v H1 a b => hQ v H1 ⟨a, b⟩⟩) fun v H1 ⟨e1, r1⟩ => ⟨fun b => H1 b ≠ none, Ext H1, Vw.alloc t v r1, Ext.refl H1, fun H' k => k.kp, fun J it hl => q J H1 e1 it hl⟩
  · exact exc_run h I G hf q
def rngSl (lo : Int) (n : Nat) : List Sl := (List.range n).map fun (i : Nat) => .ow (.pv (.int (lo + (i : Int))))
def rng1 : List T → Option (List Sl)
  | [.pv (.int j)] => if -16777216 ≤ j ∧ j ≤ 16777216 then some (rngSl 0 j.toNat) else none
  | _ => none
def rng2 : List T → Option (List Sl)
  | [.pv (.int i), .pv (.int j)] => if -8388608 ≤ i ∧ i ≤ 8388608 ∧ -8388608 ≤ j ∧ j ≤ 8388608 then some (rngSl i (j - i).toNat) else none
  | _ => none
def iLst (g : List T → Option (List Sl)) (f : Env → R Unit (List T)) : Env → R Unit (List Sl) := fun ρ => (f ρ).bind fun ts => R.of (g ts)
theorem items_rng {Z1 : Fp} {Rl : Hp → Prop} {lo : Int} {n : Nat} : ItemsAt K Z1 Rl (Itr lo n) (rngSl lo n) := by
  intro H' r
  refine ⟨fun i s e => ?_, by show n ≤ _; simp [rngSl]⟩
  unfold rngSl at e
  rw [List.getElem?_map] at e
  by_cases hi : i < n
  · rw [List.getElem?_range hi] at e
    cases e
    refine ⟨hi, fun x H'' y => ?_⟩
    obtain ⟨rfl, rfl⟩ := y
    exact ⟨Ext.refl _, emp, ⟨_, rfl, rfl⟩, fun _ z => z.elim, fun _ z => z.elim⟩
  · rw [List.getElem?_eq_none (by simpa using hi)] at e; cases e
theorem rng_len {lo : Int} {n : Nat} : (rngSl lo n).length = n := by simp [rngSl]
theorem rng1_ok {ts : List T} {ss : List Sl} (e : rng1 ts = some ss) {Z : Fp} {H : Hp} {vs : List V} (r : Vws K Z H ts vs) : ∃ j : Int, vs = [.int j] ∧ -(2 ^ 62) ≤ j ∧ j < 2 ^ 62 ∧ ss = rngSl 0 j.toNat ∧ ss.length ≤ sizeLine := by
  unfold rng1 at e
  split at e
  · rename_i j
    by_cases h : -16777216 ≤ j ∧ j ≤ 16777216
    · rw [if_pos h] at e
      cases e
      obtain ⟨x, r', e1, h1, h2⟩ := r
      obtain rfl : r' = [] := h2
      obtain rfl : x = .int j := h1
      refine ⟨j, e1, by omega, by omega, rfl, ?_⟩
      rw [rng_len, sizeLine_eq]; omega
    · rw [if_neg h] at e; cases e
  · cases e
theorem rng2_ok {ts : List T} {ss : List Sl} (e : rng2 ts = some ss) {Z : Fp} {H : Hp} {vs : List V} (r : Vws K Z H ts vs) : ∃ i j : Int, vs = [.int i, .int j] ∧ (-(2 ^ 62) ≤ i ∧ i < 2 ^ 62 ∧ -(2 ^ 62) ≤ j ∧ j < 2 ^ 62) ∧ ss = rngSl i (j - i).toNat ∧ ss.length ≤ sizeLine := by
  unfold rng2 at e
  split at e
  · rename_i i j
    by_cases h : -8388608 ≤ i ∧ i ≤ 8388608 ∧ -8388608 ≤ j ∧ j ≤ 8388608
    · rw [if_pos h] at e
      cases e
      obtain ⟨x, r', e1, h1, y, r'', e2, h2, h3⟩ := r
      obtain rfl : r'' = [] := h3
      obtain rfl : x = .int i := h1
      obtain rfl : y = .int j := h2
      subst e2
      refine ⟨i, j, e1, by omega, rfl, ?_⟩
      rw [rng_len, sizeLine_eq]; omega
    · rw [if_neg h] at e; cases e
  · cases e
def FIS (K : PySem.W.Frag) (mg : Str → Option Value) (W : WX) (fi : Env → R Env (List Sl × Env)) : TI := fun σ H Rq => ∃ ρ Z A, Good K Z H σ ρ A ∧ match fi ρ with
  | .ok (ss, ρ') => ∀ J H1 A1 Z1, Good K Z H1 σ ρ' A1 → Sub Z Z1 → Disj Z1 A1 → Al H1 Z1 → Step H A H1 A1 → ItemsAt K Z1 (Stb Z1 H1) J ss → ss.length ≤ sizeLine → Rq J H1
  | .exc e ρ' => ∀ cls d H' A', Good K Z H' σ ρ' A' → Step H A H' A' → ExcRep mg H' e cls d → W cls d σ H'
  | .bad => False
def JIS (X : Cx) (W : WX) (tg it : Expr) (fi : Env → R Env (List Sl × Env)) : Prop := PI X tg it (FIS X.K X.mg W fi)
def iQ (fi : Env → R Unit (List Sl)) : Env → R Env (List Sl × Env) := fun ρ => match fi ρ with
  | .ok ss => .ok (ss, ρ)
  | .exc e _ => .exc e ρ
  | .bad => .bad
theorem piM {tg it : Expr} {t u : TI} (h : PI X tg it t) (m : ∀ σ H Q, u σ H Q → t σ H Q) : PI X tg it u := ⟨fun pins s σ H Q I q => h.run pins s σ H Q I (m σ H Q q)⟩
theorem is_q {tg it : Expr} {fi : Env → R Unit (List Sl)} (h : JI X W tg it fi) : JIS X W tg it (iQ fi) := piM h fun σ H Q ⟨ρ, Z, A, G, q⟩ => ⟨ρ, Z, A, G, by
  revert q
  unfold iQ
  cases fi ρ with
  | ok ss => exact fun q J H1 Z1 e1 s1 d al it hl => q J H1 A Z1 (G.ext e1) s1 d al (Step.ext0 e1) it hl
  | exc e r => exact fun q cls d H' e1 x => q cls d H' A (G.ext e1) (Step.ext0 e1) x
  | bad => exact id⟩
theorem i_rng1 {tg a : Expr} {p pos : Pos} {f : Env → R Unit (List T)} (hg : Gl X "range") (hm : X.mg "range" = none) (ha : JQA X W [a] f) (hs : starEach [a] X.env = [(false, eval a X.env)] := by rfl) : JI X W tg (.Call (.Name "range" p) [a] [] pos) (iLst rng1 f) :=
  piM (pi_range1 hg hm ha hs) fun σ H Q ⟨ρ, Z, A, G, q⟩ => ⟨ρ, Z, A, G, by
    revert q
    unfold iLst
    cases f ρ with
    | ok ts =>
      intro q vs H1 e1 r
      rw [R.bind_ok] at q
      cases hg : rng1 ts with
      | none => rw [hg] at q; exact q.elim
      | some ss =>
        rw [hg] at q
        obtain ⟨j, ev, h1, h2, es, hl⟩ := rng1_ok hg r
        refine ⟨j, ev, h1, h2, ?_⟩
        refine q (Itr 0 j.toNat) H1 Z e1 (fun _ h => h) G.dis (e1.al G.alZ) ?_ hl
        rw [es]; exact items_rng
    | exc e r => exact id
    | bad => exact id⟩
theorem i_rng2 {tg a b : Expr} {p pos : Pos} {f : Env → R Unit (List T)} (hg : Gl X "range") (hm : X.mg "range" = none) (ha : JQA X W [a, b] f) (hs : starEach [a, b] X.env = [(false, eval a X.env), (false, eval b X.env)] := by rfl) (hs2 : starEach [b] X.env = [(false, eval b X.env)] := by rfl) :
    JI X W tg (.Call (.Name "range" p) [a, b] [] pos) (iLst rng2 f) :=
  piM (pi_range2 hg hm ha hs hs2) fun σ H Q ⟨ρ, Z, A, G, q⟩ => ⟨ρ, Z, A, G, by
    revert q
    unfold iLst
    cases f ρ with
    | ok ts =>
      intro q vs H1 e1 r
      rw [R.bind_ok] at q
      cases hg : rng2 ts with
      | none => rw [hg] at q; exact q.elim
      | some ss =>
        rw [hg] at q
        obtain ⟨i, j, ev, h1, es, hl⟩ := rng2_ok hg r
        refine ⟨i, j, ev, h1, ?_⟩
        refine q (Itr i (j - i).toNat) H1 Z e1 (fun _ h => h) G.dis (e1.al G.alZ) ?_ hl
        rw [es]; exact items_rng
    | exc e r => exact id
    | bad => exact id⟩
theorem ie_of {tg it : Expr} {fi : Env → R Unit (List Sl)} (h : JI X W tg it fi) : JIe X W tg it fi := piM h fun σ H Q ⟨ρ, Z, A, G, q⟩ => ⟨ρ, Z, A, G, by
  revert q
  cases fi ρ with
  | ok ss =>
    intro q J H1 Z1 e1 s1 d al it hl
    refine q J H1 e1 (fun H' e => ?_) hl
    obtain ⟨h1, h2⟩ := it H' e.kp
    exact ⟨fun i s e0 => ⟨(h1 i s e0).1, fun x H'' y => let ⟨e', B, r, fr, al'⟩ := (h1 i s e0).2 x H'' y; ⟨e', B, r.mono (fun _ h => h) al, fr, al'⟩⟩, h2⟩
  | exc e r => exact id
  | bad => exact id⟩
def iSeqE (f : Env → R Env (AV × Env)) : Env → R Env (List Sl × Env) := fun ρ => (f ρ).bind fun (a, ρ1) => match a with
  | .val t => R.of ((seqSl t).map fun ss => (ss, ρ1))
  | .late _ => .bad
theorem is_val {tg e : Expr} {f : Env → R Env (AV × Env)} (h : JS X W e f) : JIS X W tg e (iSeqE f) := by
  refine ⟨fun pins s σ H Rq I q => ?_⟩
  obtain ⟨ρ, Z, A, G, q⟩ := q
  unfold iSeqE at q
  revert q
  cases hf : f ρ with
  | ok a =>
    obtain ⟨a, ρ1⟩ := a
    intro q
    simp only [R.bind_ok] at q
    cases a with
    | late j => exact q.elim
    | val t =>
      dsimp only at q
      cases ht : seqSl t with
      | none => rw [ht] at q; exact q.elim
      | some ss =>
        rw [ht] at q
        refine seq_core h I ht (Pv := fun v H1 => ∃ A1 B, Good X.K Z H1 σ ρ1 A1 ∧ Rep H1 t v B ∧ Disj B A1 ∧ Al H1 B ∧ Step H A H1 (un A1 B)) (fun Q hQ => ⟨ρ, Z, A, G, by rw [hf]; exact fun v H1 A1 B a b c d e => hQ v H1 ⟨A1, B, a, b, c, d, e⟩⟩) fun v H1 ⟨A1, B, G1, r, d, al, st⟩ => ?_
        refine ⟨un Z B, Stb (un Z B) H1, Rep.vw (fun _ h => .inr h) t v r, Kp.refl, fun H' k => k, fun J it hl => q J H1 A1 (un Z B) G1 (fun _ h => .inl h) (fun a h1 h2 => h1.elim (fun z => G1.dis a z h2) fun z => d a z h2) (fun a h1 => h1.elim (G1.alZ a) (al a)) (st.mono fun _ h => .inl h) it hl⟩
  | exc x r =>
    intro q
    exact (pi_list (tg := tg) h).run pins s σ H Rq I ⟨ρ, Z, A, G, by rw [hf]; exact q⟩
  | bad => exact fun q => q.elim
def iLstE (g : List T → Option (List Sl)) (f : Env → R Env (List AV × Env)) : Env → R Env (List Sl × Env) := fun ρ => (f ρ).bind fun (as, ρ1) => R.of ((sees ρ1 as).bind fun ts => (g ts).map fun ss => (ss, ρ1))
theorem is_rng1 {tg a : Expr} {p pos : Pos} {f : Env → R Env (List AV × Env)} (hg : Gl X "range") (hm : X.mg "range" = none) (ha : JSA X W [a] f) (hs : starEach [a] X.env = [(false, eval a X.env)] := by rfl) : JIS X W tg (.Call (.Name "range" p) [a] [] pos) (iLstE rng1 f) :=
  piM (pi_range1 hg hm ha hs) fun σ H Q ⟨ρ, Z, A, G, q⟩ => ⟨ρ, Z, A, G, by
    revert q
    unfold iLstE
    cases f ρ with
    | ok ts =>
      obtain ⟨as, ρ1⟩ := ts
      intro q vs H1 A1 B1 G1 r d al st
      simp only [R.bind_ok] at q
      cases hs : sees ρ1 as with
      | none => rw [hs] at q; exact q.elim
      | some ts =>
        cases hg : rng1 ts with
        | none => rw [hs] at q; simp only [Option.bind_some, hg] at q; exact q.elim
        | some ss =>
          rw [hs] at q
          simp only [Option.bind_some, hg] at q
          obtain ⟨j, ev, h1, h2, es, hl⟩ := rng1_ok hg (sees_vws G1 r hs)
          refine ⟨j, ev, h1, h2, ?_⟩
          refine q (Itr 0 j.toNat) H1 A1 Z G1 (fun _ h => h) G1.dis G1.alZ (st.mono fun _ h => .inl h) ?_ hl
          rw [es]; exact items_rng
    | exc e r => exact id
    | bad => exact id⟩
theorem is_rng2 {tg a b : Expr} {p pos : Pos} {f : Env → R Env (List AV × Env)} (hg : Gl X "range") (hm : X.mg "range" = none) (ha : JSA X W [a, b] f) (hs : starEach [a, b] X.env = [(false, eval a X.env), (false, eval b X.env)] := by rfl) (hs2 : starEach [b] X.env = [(false, eval b X.env)] := by rfl) : JIS X W tg (.Call (.Name "range" p) [a, b] [] pos) (iLstE rng2 f) :=
  piM (pi_range2 hg hm ha hs hs2) fun σ H Q ⟨ρ, Z, A, G, q⟩ => ⟨ρ, Z, A, G, by
    revert q
    unfold iLstE
    cases f ρ with
    | ok ts =>
      obtain ⟨as, ρ1⟩ := ts
      intro q vs H1 A1 B1 G1 r d al st
      simp only [R.bind_ok] at q
      cases hs : sees ρ1 as with
      | none => rw [hs] at q; exact q.elim
      | some ts =>
        cases hg : rng2 ts with
        | none => rw [hs] at q; simp only [Option.bind_some, hg] at q; exact q.elim
        | some ss =>
          rw [hs] at q
          simp only [Option.bind_some, hg] at q
          obtain ⟨i, j, ev, h1, es, hl⟩ := rng2_ok hg (sees_vws G1 r hs)
          refine ⟨i, j, ev, h1, ?_⟩
          refine q (Itr i (j - i).toNat) H1 A1 Z G1 (fun _ h => h) G1.dis G1.alZ (st.mono fun _ h => .inl h) ?_ hl
          rw [es]; exact items_rng
    | exc e r => exact id
    | bad => exact id⟩
end
end TR
namespace TR
open PySem PySem.Spec PyProof.Rows L2
def forGo (tg : TgF) (b : FF) : List Sl → FF
  | [], ρ => .ok (.nx, ρ)
  | s :: ss, ρ => match tg s ρ with
    | none => .bad
    | some ρ1 => match b ρ1 with
      | .ok (.nx, ρ2) => forGo tg b ss ρ2
      | .ok (.ct, ρ2) => forGo tg b ss ρ2
      | .ok (.bk, ρ2) => .ok (.nx, ρ2)
      | o => o
def tForS (fi : Env → R Env (List Sl × Env)) (tg : TgF) (b : FF) : FF := fun ρ => (fi ρ).bind fun (ss, ρ1) => forGo tg b ss ρ1
def tForF (fi : Env → R Unit (List Sl)) (tg : TgF) (b : FF) : FF := fun ρ => liftQ (fi ρ) ρ fun ss => forGo tg b ss ρ
def whileGo (c : Env → R Unit Bool) (b : FF) : Nat → FF
  | 0, _ => .bad
  | n + 1, ρ => liftQ (c ρ) ρ fun d => if d = true then (match b ρ with
      | .ok (.nx, ρ2) => whileGo c b n ρ2
      | .ok (.ct, ρ2) => whileGo c b n ρ2
      | .ok (.bk, ρ2) => .ok (.nx, ρ2)
      | o => o) else .ok (.nx, ρ)
section
variable {X : Cx} {W : WX} {kp : Nat → Bool} {K : PySem.W.Frag} {mg : Str → Option Value}
theorem Kp.trans {C Z : Fp} {H H1 H2 : Hp} (a : Kp C Z H H1) (b : Kp C Z H1 H2) : Kp C Z H H2 :=
  ⟨fun x y h => b.tk x y (a.tk x y h), fun x o u h => b.fk x o u (a.fk x o u h), fun x o hx h => b.own x o hx (a.own x o hx h), fun x o hx h => b.st x o hx (a.st x o hx h)⟩
theorem Good.zun {Z Z1 A : Fp} {H : Hp} {σ : Stt} {ρ : Env} (g : Good K Z H σ ρ A) (d : Disj Z1 A) (al : Al H Z1) : Good K (un Z Z1) H σ ρ A :=
  ⟨g.env.mono (fun _ h => .inl h) fun _ h => h, fun a h1 h2 => h1.elim (fun z => g.dis a z h2) fun z => d a z h2, fun a h => h.elim (g.alZ a) (al a), g.alA⟩
theorem t_forS {tg it : Expr} {body : List Stmt} {pos : Pos} {fi : Env → R Env (List Sl × Env)} {g : TgF} {b : FF} (hp : PassesOwn (model X.prog X.w) X.A X.env X.xe) (hc : X.calm = true) (hi : JIS X W tg it fi) (hg : JG X kp tg g) (hb : JTs X W kp body b)
    (hs : ∀ x, foldedSetIterable it X.env x = pure x := by intro _; rfl) : JT X W kp (.For tg it body [] pos) (tForS fi g b) := psM (ps_for hp hc hi hg hb hs) fun D σ H h => by
  obtain ⟨ρ, Z, A, G, q⟩ := FT_iff.mp h
  refine ⟨ρ, Z, A, G, ?_⟩
  unfold tForS at q
  revert q
  cases fi ρ with
  | exc e x => exact fun q cls d H' A' G' s' x => q cls d σ H' Z A' G' s' Agree.refl x
  | bad => exact id
  | ok ss =>
    obtain ⟨ss, ρ1⟩ := ss
    intro q J H1 A1 Z1 G0 sZ dZ aZ st1 it hl
    have G1 : Good X.K Z1 H1 σ ρ1 A1 := ⟨G0.env.mono sZ fun _ h => h, dZ, aZ, G0.alA⟩
    simp only [R.bind_ok] at q
    have q1 : EndT X.K X.mg W kp D σ H1 A1 (forGo g b ss ρ1) := EndT.after st1 Agree.refl q
    refine ⟨fun i m σ' H' => m = ss.length - i ∧ i ≤ ss.length ∧ Stb Z1 H1 H' ∧ ∃ ρ' Z' A', Good X.K Z' H' σ' ρ' A' ∧ Disj Z1 A' ∧ Al H' Z1 ∧ EndT X.K X.mg W kp D σ' H' A' (forGo g b (ss.drop i) ρ'),
      ⟨ss.length, by simp, Nat.zero_le _, Kp.refl, ρ1, Z1, A1, G1, G1.dis, G1.alZ, q1⟩, ?_⟩
    rintro i m σ' H' ⟨rfl, hi, kz, ρ', Z', A', G', d', al', q'⟩
    obtain ⟨h1, h2⟩ := it H' kz
    by_cases hlt : i < ss.length
    · refine .inr ⟨(h1 i ss[i] (List.getElem?_eq_getElem hlt)).1, fun σ3 H3 => Stb Z1 H1 H3 ∧ ∃ ρ' Z' A', Good X.K Z' H3 σ3 ρ' A' ∧ Disj Z1 A' ∧ Al H3 Z1 ∧ EndT X.K X.mg W kp D σ3 H3 A' (forGo g b (ss.drop (i + 1)) ρ'),
        fun σ3 H3 ⟨k3, n3⟩ => ⟨ss.length - (i + 1), by omega, rfl, hlt, k3, n3⟩, fun x H'' y => ?_⟩
      obtain ⟨e2, B, rs, fr, al2⟩ := (h1 i ss[i] (List.getElem?_eq_getElem hlt)).2 x H'' y
      rw [List.drop_eq_getElem_cons hlt] at q'
      unfold forGo at q'
      have G2 : Good X.K (un Z' Z1) H'' σ' ρ' A' := (G'.ext e2).zun d' (e2.al al')
      refine ⟨ρ', un Z' Z1, A', ss[i], B, G2, rs.mono (fun _ h => h) fun _ h => .inr h, fun a z1 z2 => G'.alA a z2 (fr a z1), fun a z1 z2 => z2.elim (fun z => G'.alZ a z (fr a z1)) fun z => al' a z (fr a z1), al2, ?_⟩
      cases ht : g ss[i] ρ' with
      | none => rw [ht] at q'; exact q'.elim
      | some ρ2 =>
        rw [ht] at q'
        intro σ2 A2 G3 sA ag
        have st : Step H' A' H'' A2 := (Step.ext e2 fr).mono sA
        have q2 := EndT.after st ag q'
        have k2 : Stb Z1 H1 H'' := kz.trans e2.kp
        refine FT_iff.mpr ⟨ρ2, un Z' Z1, A2, G3, ?_⟩
        have nextN : ∀ ρ3, EndT X.K X.mg W kp D σ2 H'' A2 (forGo g b (ss.drop (i + 1)) ρ3) → ∀ σ3 H3 Z3 A3, Good X.K Z3 H3 σ3 ρ3 A3 → Step H'' A2 H3 A3 → Agree kp σ2 σ3 →
            Stb Z1 H1 H3 ∧ ∃ ρ' Z' A', Good X.K Z' H3 σ3 ρ' A' ∧ Disj Z1 A' ∧ Al H3 Z1 ∧ EndT X.K X.mg W kp D σ3 H3 A' (forGo g b (ss.drop (i + 1)) ρ') := fun ρ3 q3 σ3 H3 Z3 A3 g3 s3 a3 => by
          have dz : Disj Z1 A2 := fun a x1 x2 => G3.dis a (.inr x1) x2
          have alz : Al H'' Z1 := fun a x1 => G3.alZ a (.inr x1)
          exact ⟨k2.trans (s3.kp (fun _ z => z.elim) dz), ρ3, Z3, A3, g3, s3.disj dz alz, s3.al alz, EndT.after s3 a3 q3⟩
        dsimp only at q2
        revert q2
        match b ρ2 with
        | .ok (.nx, ρ3) => exact fun q3 => nextN ρ3 q3
        | .ok (.ct, ρ3) => exact fun q3 => nextN ρ3 q3
        | .ok (.bk, ρ3) => exact fun q3 => q3
        | .ok (.rt t, ρ3) => exact fun q3 => q3
        | .exc e ρ3 => exact fun q3 => q3
        | .bad => exact fun q3 => q3
    · have e : i = ss.length := by omega
      subst e
      rw [List.drop_length] at q'
      exact .inl ⟨h2, q' σ' H' Z' A' G' (Step.refl H' A') Agree.refl⟩
theorem t_for {tg it : Expr} {body : List Stmt} {pos : Pos} {fi : Env → R Unit (List Sl)} {g : TgF} {b : FF} (hp : PassesOwn (model X.prog X.w) X.A X.env X.xe) (hc : X.calm = true) (hi : JI X W tg it fi) (hg : JG X kp tg g) (hb : JTs X W kp body b)
    (hs : ∀ x, foldedSetIterable it X.env x = pure x := by intro _; rfl) : JT X W kp (.For tg it body [] pos) (tForF fi g b) := psM (t_forS hp hc (is_q hi) hg hb hs) fun D σ H h => by
  have e : tForF fi g b = tForS (iQ fi) g b := by
    funext ρ
    unfold tForF tForS iQ
    cases fi ρ with
    | ok ss => rfl
    | exc e r => rfl
    | bad => rfl
  rw [e] at h
  exact h
theorem t_while (n : Nat) {c : Expr} {body : List Stmt} {pos : Pos} {fc : Env → R Unit Bool} {b : FF} (hp : PassesOwn (model X.prog X.w) X.A X.env X.xe) (hc : JQT X W c fc) (hb : JTs X W kp body b) : JT X W kp (.While c body [] pos) (whileGo fc b n) := psM (ps_while hp hc hb) fun D σ H h => by
  obtain ⟨ρ, Z, A, G, q⟩ := FT_iff.mp h
  refine ⟨fun m σ' H' => ∃ ρ' Z' A', Good X.K Z' H' σ' ρ' A' ∧ EndT X.K X.mg W kp D σ' H' A' (whileGo fc b m ρ'), ⟨n, ρ, Z, A, G, q⟩, ?_⟩
  rintro m σ' H' ⟨ρ', Z', A', G', q'⟩
  refine ⟨ρ', Z', A', G', ?_⟩
  cases m with
  | zero => exact q'.elim
  | succ m =>
    unfold whileGo at q'
    revert q'
    cases fc ρ' with
    | exc e x => exact fun q cls d H1 e1 x => q cls d σ' H1 Z' A' (G'.ext e1) (Step.ext0 e1) Agree.refl x
    | bad => exact id
    | ok d =>
      intro q' H1 e1
      rw [liftQ_ok] at q'
      have G1 := G'.ext e1
      have q1 := EndT.after (Step.ext0 e1) (Agree.refl (σ := σ')) q'
      cases d with
      | false => exact q1 σ' H1 Z' A' G1 (Step.refl _ _) Agree.refl
      | true =>
        rw [if_pos rfl]
        refine ⟨fun σ3 H3 => ∃ ρ' Z' A', Good X.K Z' H3 σ3 ρ' A' ∧ EndT X.K X.mg W kp D σ3 H3 A' (whileGo fc b m ρ'), fun σ3 H3 n3 => ⟨m, Nat.lt_succ_self _, n3⟩, FT_iff.mpr ⟨ρ', Z', A', G1, ?_⟩⟩
        rw [if_pos rfl] at q1
        revert q1
        match b ρ' with
        | .ok (.nx, ρ3) => exact fun q3 σ3 H3 Z3 A3 g3 s3 a3 => ⟨ρ3, Z3, A3, g3, EndT.after s3 a3 q3⟩
        | .ok (.ct, ρ3) => exact fun q3 σ3 H3 Z3 A3 g3 s3 a3 => ⟨ρ3, Z3, A3, g3, EndT.after s3 a3 q3⟩
        | .ok (.bk, ρ3) => exact fun q3 => q3
        | .ok (.rt t, ρ3) => exact fun q3 => q3
        | .exc e ρ3 => exact fun q3 => q3
        | .bad => exact fun q3 => q3
def fz (i : Nat) (ρ : Env) : Env := match ρ[i]? with
  | some (.ow t) => ρ.set i (argSl t)
  | _ => ρ
theorem Good.fz {Z A : Fp} {H : Hp} {σ : Stt} {ρ : Env} (i : Nat) (g : Good K Z H σ ρ A) : ∃ Z' A', Good K Z' H σ (TR.fz i ρ) A' ∧ Sub A' A := by
  unfold TR.fz
  cases e : ρ[i]? with
  | none => exact ⟨Z, A, g, fun _ h => h⟩
  | some s =>
    cases s with
    | no => exact ⟨Z, A, g, fun _ h => h⟩
    | vw t => exact ⟨Z, A, g, fun _ h => h⟩
    | ow t =>
      obtain ⟨o, B, C, h1, h2, h3, h4, h5, put⟩ := g.env.at e
      obtain ⟨v, e1, r⟩ := h2
      have hs : SlRep K (un Z B) H o (argSl t) emp := by
        cases t with
        | pv p => exact ⟨v, e1, r⟩
        | _ => exact ⟨v, e1, Rep.vw (fun _ h => .inr h) _ v r⟩
      have g' := put H (un Z B) Kp.refl (fun _ h => .inl h) o (argSl t) emp hs fun _ z => z.elim
      rw [set_same h1] at g'
      refine ⟨un Z B, un emp C, ⟨g', fun a x1 x2 => ?_, fun a x1 => x1.elim (g.alZ a) fun z => g.alA a (h3 a z), fun a x1 => x1.elim (fun z => z.elim) fun z => g.alA a (h4 a z)⟩, fun a x1 => x1.elim (fun z => z.elim) fun z => h4 a z⟩
      rcases x2 with z | z
      · exact z
      · exact x1.elim (fun y => g.dis a y (h4 a z)) fun y => h5 a y z
theorem t_fz (i : Nat) {sts : List Stmt} {b : FF} (h : JTs X W kp sts b) : JTs X W kp sts (fun ρ => b (fz i ρ)) := pssM h fun D σ H h => by
  obtain ⟨ρ, Z, A, G, q⟩ := FT_iff.mp h
  obtain ⟨Z', A', G', s⟩ := G.fz i
  exact FT_iff.mpr ⟨fz i ρ, Z', A', G', EndT.after ((Step.refl H A).mono s) Agree.refl q⟩
end
end TR
namespace TR
open PySem PySem.Spec PyProof.Rows L2
abbrev snds (own : List (Str × Nat)) : List Nat := own.map (·.2)
abbrev wNo : WX := fun _ _ _ _ => False
def JQTs (X : Cx) (W : WX) (ifs : List Expr) (f : Env → R Unit Bool) : Prop := PTs X ifs (FQT X.K X.mg W f)
def fYes : Env → R Unit Bool := fun _ => .ok true
theorem ptsM {X : Cx} {e : List Expr} {t u : TT} (h : PTs X e t) (m : ∀ σ H Q, u σ H Q → t σ H Q) : PTs X e u := ⟨fun pins s σ H Q I q => h.run pins s σ H Q I (m σ H Q q)⟩
theorem qts_nil {X : Cx} {W : WX} : JQTs X W [] fYes := ptsM pts_nil fun σ H Q ⟨ρ, Z, A, G, q⟩ => q H (Ext.refl H)
theorem qts_one {X : Cx} {W : WX} {c : Expr} {f : Env → R Unit Bool} (h : JQT X W c f) : JQTs X W [c] f := pts_one h
def wipeE (ρ : Env) : List Nat → Env
  | [] => ρ
  | v :: vs => (wipeE ρ vs).set v .no
def vwS : Sl → Sl
  | .no => .no
  | .ow t => argSl t
  | .vw t => argSl t
def viewE (ρ : Env) : Env := ρ.map vwS
abbrev kpV (vs : List Nat) : Nat → Bool := fun i => !vs.contains i
def lcGo (g : TgF) (fc : Env → R Unit Bool) (fe : Env → R Unit T) (ρ : Env) : List Sl → R Unit (List T)
  | [] => .ok []
  | s :: ss => match g s ρ with
    | none => .bad
    | some ρ1 => match fc ρ1 with
      | .ok true => (match fe ρ1 with
        | .ok t => (lcGo g fc fe ρ ss).bind fun ts => .ok (t :: ts)
        | _ => .bad)
      | .ok false => lcGo g fc fe ρ ss
      | _ => .bad
def fLc (vs : List Nat) (fi : Env → R Unit (List Sl)) (g : TgF) (fc : Env → R Unit Bool) (fe : Env → R Unit T) : Env → R Unit T := fun ρ => (fi ρ).bind fun ss => (lcGo g fc fe (wipeE (viewE ρ) vs) ss).bind fun ts => .ok (.lst ts)
def lcGoE (g : TgF) (fc : Env → R Unit Bool) (fe : Env → R Env (AV × Env)) (vs : List Nat) : List Sl → Env → R Env (List T × Env)
  | [], ρ => .ok ([], ρ)
  | .ow (.pv p) :: ss, ρ => match g (.ow (.pv p)) ρ with
    | none => .bad
    | some ρ1 => match fc ρ1 with
      | .ok true => (match fe ρ1 with
        | .ok (.val t, ρ2) => (lcGoE g fc fe vs ss (wipeE ρ2 vs)).bind fun (ts, ρ3) => .ok (t :: ts, ρ3)
        | _ => .bad)
      | .ok false => lcGoE g fc fe vs ss (wipeE ρ1 vs)
      | _ => .bad
  | _ :: _, _ => .bad
def sLc (vs : List Nat) (fi : Env → R Env (List Sl × Env)) (g : TgF) (fc : Env → R Unit Bool) (fe : Env → R Env (AV × Env)) : Env → R Env (AV × Env) := fun ρ => (fi ρ).bind fun (ss, ρ1) => match lcGoE g fc fe vs ss (wipeE ρ1 vs) with
  | .ok (ts, ρ2) => .ok (.val (.lst ts), ρ2)
  | _ => .bad
section
variable {X : Cx} {W : WX} {K : PySem.W.Frag} {mg : Str → Option Value}
theorem env_set_no {Z : Fp} {H : Hp} : ∀ {σ : Stt} {ρ : Env} {A : Fp} (i : Nat) (o : Option V), EnvRep K Z H σ ρ A → EnvRep K Z H (σ.set i o) (ρ.set i .no) A
  | [], [], A, _, _, h => h
  | x :: σ, s :: ρ, A, 0, o, ⟨B, C, h1, h2, s1, s2, d⟩ => ⟨emp, C, trivial, h2, fun _ z => z.elim, s2, fun _ z => z.elim⟩
  | x :: σ, s :: ρ, A, i + 1, o, ⟨B, C, h1, h2, s1, s2, d⟩ => ⟨B, C, h1, env_set_no i o h2, s1, s2, d⟩
  | [], _ :: _, _, _, _, h => h.elim
  | _ :: _, [], _, _, _, h => h.elim
theorem env_wipe {Z : Fp} {H : Hp} {σ : Stt} {ρ : Env} {A : Fp} (h : EnvRep K Z H σ ρ A) : ∀ vs : List Nat, EnvRep K Z H (wipe σ vs) (wipeE ρ vs) A
  | [] => h
  | v :: vs => env_set_no v none (env_wipe h vs)
theorem env_unset {Z : Fp} {H : Hp} : ∀ {σ τ : Stt} {ρ : Env} {A : Fp} (i : Nat), EnvRep K Z H (σ.set i none) (ρ.set i .no) A → EnvRep K Z H σ (ρ.set i .no) A
  | [], _, [], A, _, h => h
  | x :: σ, _, s :: ρ, A, 0, ⟨B, C, h1, h2, s1, s2, d⟩ => ⟨emp, C, trivial, h2, fun _ z => z.elim, s2, fun _ z => z.elim⟩
  | x :: σ, τ, s :: ρ, A, i + 1, ⟨B, C, h1, h2, s1, s2, d⟩ => ⟨B, C, h1, env_unset (τ := τ) i h2, s1, s2, d⟩
  | [], _, _ :: _, _, _, h => False.elim (by cases ‹Nat› <;> exact h)
  | _ :: _, _, [], _, _, h => False.elim (by cases ‹Nat› <;> exact h)
theorem setno_comm (ρ : Env) (i j : Nat) : (ρ.set i .no).set j .no = (ρ.set j .no).set i .no := by
  by_cases e : i = j
  · subst e; rfl
  · exact List.set_comm _ _ e
theorem wipeE_set (ρ : Env) (i : Nat) : ∀ vs : List Nat, (wipeE ρ vs).set i .no = wipeE (ρ.set i .no) vs
  | [] => rfl
  | v :: vs => by
    unfold wipeE
    rw [setno_comm, wipeE_set ρ i vs]
theorem wipe_setn (σ : Stt) (i : Nat) : ∀ vs : List Nat, (wipe σ vs).set i none = wipe (σ.set i none) vs
  | [] => rfl
  | v :: vs => by
    unfold wipe
    rw [← wipe_setn σ i vs]
    by_cases e : i = v
    · subst e; rfl
    · rw [List.set_comm _ _ (Ne.symm e)]
theorem env_unwipe {Z : Fp} {H : Hp} : ∀ (vs : List Nat) {σ : Stt} {ρ : Env} {A : Fp}, EnvRep K Z H (wipe σ vs) (wipeE ρ vs) A → EnvRep K Z H σ (wipeE ρ vs) A
  | [], _, _, _, h => h
  | v :: vs, σ, ρ, A, h => by
    have h' : EnvRep K Z H ((wipe σ vs).set v none) ((wipeE ρ vs).set v .no) A := h
    have h2 := env_unset (τ := σ) v h'
    -- the v-th slot of the tree side is no: move it inside
    show EnvRep K Z H σ ((wipeE ρ vs).set v .no) A
    rw [wipeE_set] at h2 ⊢
    exact env_unwipe vs h2
theorem wipeE_idem (ρ : Env) : ∀ vs : List Nat, wipeE (wipeE ρ vs) vs = wipeE ρ vs
  | [] => rfl
  | v :: vs => by
    show (wipeE ((wipeE ρ vs).set v .no) vs).set v .no = (wipeE ρ vs).set v .no
    rw [← wipeE_set, List.set_set, wipeE_idem ρ vs]
theorem env_view {Z : Fp} {H : Hp} : ∀ {σ : Stt} {ρ : Env} {A : Fp}, EnvRep K Z H σ ρ A → EnvRep K (fun b => H b ≠ none) H σ (viewE ρ) emp
  | [], [], A, _ => trivial
  | x :: σ, s :: ρ, A, ⟨B, C, h1, h2, s1, s2, d⟩ => by
    refine ⟨emp, emp, ?_, env_view h2, fun _ z => z, fun _ z => z, fun _ z => z.elim⟩
    cases s with
    | no => trivial
    | ow t =>
      obtain ⟨v, e, r⟩ := h1
      have r' : Vw K (fun b => H b ≠ none) H t v := Vw.alloc t v (Rep.vw (fun _ _ => trivial) t v r)
      cases t with
      | pv p => exact ⟨v, e, r'⟩
      | _ => exact ⟨v, e, r'⟩
    | vw t =>
      obtain ⟨v, e, r⟩ := h1
      have r' : Vw K (fun b => H b ≠ none) H t v := Vw.alloc t v (Vw.mono (fun _ _ => trivial) t v r)
      cases t with
      | pv p => exact ⟨v, e, r'⟩
      | _ => exact ⟨v, e, r'⟩
  | [], _ :: _, _, h => h.elim
  | _ :: _, [], _, h => h.elim
theorem wipe_get (σ : Stt) (i : Nat) : ∀ (vs : List Nat), i ∈ vs → i < σ.length → (wipe σ vs)[i]? = some none
  | v :: vs, hi, hl => by
    unfold wipe
    by_cases e : v = i
    · subst e
      rw [List.getElem?_set_self (by rw [wipe_length]; exact hl)]
    · rw [List.getElem?_set_ne e]
      exact wipe_get σ i vs ((List.mem_cons.mp hi).resolve_left (Ne.symm e)) hl
theorem wipe_get' (σ : Stt) (i : Nat) : ∀ (vs : List Nat), i ∉ vs → (wipe σ vs)[i]? = σ[i]?
  | [], _ => rfl
  | v :: vs, hi => by
    unfold wipe
    rw [List.getElem?_set_ne (fun e => hi (by rw [e]; exact List.mem_cons_self)), wipe_get' σ i vs fun h => hi (List.mem_cons_of_mem _ h)]
theorem wipe_agree {σ σ2 : Stt} {vs : List Nat} (a : Agree (kpV vs) (wipe σ vs) σ2) : wipe σ2 vs = wipe σ vs := by
  apply List.ext_getElem?
  intro i
  have hl : σ2.length = σ.length := by rw [a.1, wipe_length]
  by_cases hi : i ∈ vs
  · by_cases hl2 : i < σ.length
    · rw [wipe_get σ i vs hi hl2, wipe_get σ2 i vs hi (by omega)]
    · rw [List.getElem?_eq_none (by rw [wipe_length]; omega), List.getElem?_eq_none (by rw [wipe_length]; omega)]
  · rw [wipe_get' σ i vs hi, wipe_get' σ2 i vs hi, a.2 i (by simpa using hi), wipe_get' σ i vs hi]
theorem reps_snoc {H : Hp} : ∀ {ts : List T} {vs : List V} {A B : Fp} {t : T} {v : V}, Reps H ts vs A → Rep H t v B → Disj A B → Reps H (ts ++ [t]) (vs ++ [v]) (un A B)
  | [], vs, A, B, t, v, h, r, d => by
    obtain rfl : vs = [] := h
    exact ⟨v, [], B, emp, rfl, r, rfl, fun _ z => .inr z, fun _ z => z.elim, fun _ _ z => z.elim⟩
  | t0 :: ts, _, A, B, t, v, ⟨x, r, C, D, e, h1, h2, s1, s2, d0⟩, rt, d => by
    subst e
    exact ⟨x, r ++ [v], C, un D B, rfl, h1, reps_snoc h2 rt (fun a z1 z2 => d a (s2 a z1) z2), fun a z => .inl (s1 a z), fun a z => z.elim (fun y => .inl (s2 a y)) .inr, fun a z1 z2 => z2.elim (d0 a z1) fun y => d a (s1 a z1) y⟩
theorem kp_upd {H : Hp} {D : Addr} {xs ys : List V} {C Z : Fp} (h : H D = some (.lst xs)) (hc : ¬ C D) (hz : ¬ Z D) : Kp C Z H (upd H D (.lst ys)) :=
  ⟨fun b zs e => by rw [upd_ne (fun z => by rw [z, h] at e; cases e)]; exact e, fun b o u e => by rw [upd_ne (fun z => by rw [z, h] at e; cases e)]; exact e,
   fun b o hb e => by rw [upd_ne (fun z => hc (by rw [← z]; exact hb))]; exact e, fun b o hb e => by rw [upd_ne (fun z => hz (by rw [← z]; exact hb))]; exact e⟩
theorem fq_lc {fi : Env → R Unit (List Sl)} {g : TgF} {fc : Env → R Unit Bool} {fe : Env → R Unit T} {vs : List Nat} {σ : Stt} {H : Hp} {Q : VK} (q : FQ K mg W .o (fLc vs fi g fc fe) σ H Q) :
    tLc (FIe K mg W fi) (FG K (kpV vs) g) (FQT K mg wNo fc) (FQ K mg wNo .o fe) vs σ H Q := by
  obtain ⟨ρ, Z, A, G, q⟩ := q
  refine ⟨ρ, Z, A, G, ?_⟩
  revert q
  unfold fLc
  cases fi ρ with
  | exc e x => exact id
  | bad => exact id
  | ok ss =>
    intro q J H1 e1 it hl D hD
    rw [R.bind_ok] at q
    cases hgo : lcGo g fc fe (wipeE (viewE ρ) vs) ss with
    | exc e x =>
      -- a comprehension lets nothing out
      exfalso
      have no : ∀ l, ∀ e' x', lcGo g fc fe (wipeE (viewE ρ) vs) l ≠ .exc e' x' := by
        intro l
        induction l with
        | nil => intro e' x' h; cases h
        | cons s l ih =>
          intro e' x' h
          unfold lcGo at h
          split at h
          · cases h
          · split at h
            · split at h
              · cases hl : lcGo g fc fe (wipeE (viewE ρ) vs) l with
                | ok ts => rw [hl] at h; cases h
                | exc e2 x2 => exact ih e2 x2 hl
                | bad => rw [hl] at h; cases h
              · cases h
            · exact ih e' x' h
            · cases h
      exact no ss e x hgo
    | bad => rw [hgo] at q; exact q.elim
    | ok ts =>
      rw [hgo, R.bind_ok] at q
      have G1 : EnvRep K (fun b => H1 b ≠ none) H1 (wipe σ vs) (wipeE (viewE ρ) vs) emp := env_wipe (env_view (G.ext e1).env) _
      have GH : ∀ H', Ext H1 H' → Good K (fun b => H1 b ≠ none) H' (wipe σ vs) (wipeE (viewE ρ) vs) emp := fun H' e => ⟨G1.kp e.kp, fun _ _ z => z, fun a h => e.dom a h, fun _ z => z.elim⟩
      refine ⟨fun i m H' => m = ss.length - i ∧ i ≤ ss.length ∧ Ext H1 H' ∧ ∃ acc accV rest B, H' D = some (.lst accV) ∧ Reps H' acc accV B ∧ ¬ B D ∧ Fresh H1 B ∧ Al H' B ∧ lcGo g fc fe (wipeE (viewE ρ) vs) (ss.drop i) = .ok rest ∧ acc ++ rest = ts ∧ accV.length ≤ i,
        ⟨ss.length, by simp, Nat.zero_le _, Ext.new hD, [], [], ts, emp, upd_same, rfl, fun z => z, fun _ z => z.elim, fun _ z => z.elim, by simpa using hgo, rfl, Nat.le_refl _⟩, ?_⟩
      rintro i m H' ⟨rfl, hi2, e2, acc, accV, rest, B, hDa, hr, nB, frB, alB, hgo2, happ, hlen⟩
      obtain ⟨h1, h2⟩ := it H' e2
      by_cases hlt : i < ss.length
      · refine .inr ⟨(h1 i ss[i] (List.getElem?_eq_getElem hlt)).1, fun H3 => Ext H1 H3 ∧ ∃ acc accV rest B, H3 D = some (.lst accV) ∧ Reps H3 acc accV B ∧ ¬ B D ∧ Fresh H1 B ∧ Al H3 B ∧ lcGo g fc fe (wipeE (viewE ρ) vs) (ss.drop (i + 1)) = .ok rest ∧ acc ++ rest = ts ∧ accV.length ≤ i + 1,
          fun H3 n3 => ⟨ss.length - (i + 1), by omega, rfl, hlt, n3⟩, fun x H'' y => ?_⟩
        obtain ⟨e3, Bs, rs, fr, al2⟩ := (h1 i ss[i] (List.getElem?_eq_getElem hlt)).2 x H'' y
        rw [List.drop_eq_getElem_cons hlt] at hgo2
        unfold lcGo at hgo2
        refine ⟨wipeE (viewE ρ) vs, fun b => H1 b ≠ none, emp, ss[i], Bs, GH H'' (e2.trans e3), rs, fun _ _ z => z, fun a z1 z2 => z2 (e2.fresh (fr a z1)), al2, ?_⟩
        cases hgs : g ss[i] (wipeE (viewE ρ) vs) with
        | none => rw [hgs] at hgo2; cases hgo2
        | some ρ1 =>
          rw [hgs] at hgo2
          dsimp only at hgo2
          intro σ2 A2 G2 sA ag
          refine ⟨wipe_agree ag, ρ1, _, A2, G2, ?_⟩
          cases hfc : fc ρ1 with
          | exc e x => rw [hfc] at hgo2; cases hgo2
          | bad => rw [hfc] at hgo2; cases hgo2
          | ok d =>
            rw [hfc] at hgo2
            intro H3 e4
            have e13 : Ext H1 H3 := (e2.trans e3).trans e4
            cases d with
            | false =>
              rw [if_neg Bool.false_ne_true]
              refine ⟨e13, acc, accV, rest, B, (e3.trans e4) _ _ hDa, Reps.kp ((e3.trans e4).kp (C := B) (Z := top)) _ _ hr, nB, frB, (e3.trans e4).al alB, hgo2, happ, Nat.le_succ_of_le hlen⟩
            | true =>
              rw [if_pos rfl]
              refine ⟨ρ1, _, A2, G2.ext e4, ?_⟩
              dsimp only at hgo2
              cases hfe : fe ρ1 with
              | exc e x => rw [hfe] at hgo2; cases hgo2
              | bad => rw [hfe] at hgo2; cases hgo2
              | ok t =>
                rw [hfe] at hgo2
                dsimp only at hgo2
                intro v H4 e5 ⟨Bt, rt, frt, alt⟩
                cases hrest : lcGo g fc fe (wipeE (viewE ρ) vs) (ss.drop (i + 1)) with
                | exc e x => rw [hrest] at hgo2; cases hgo2
                | bad => rw [hrest] at hgo2; cases hgo2
                | ok rest' =>
                  rw [hrest, R.bind_ok] at hgo2
                  have er : t :: rest' = rest := by injection hgo2
                  have e04 : Ext H' H4 := (e3.trans e4).trans e5
                  have hD4 : H4 D = some (.lst accV) := e04 _ _ hDa
                  have nBt : ¬ Bt D := fun z => by
                    have := frt D z
                    rw [(e3.trans e4) _ _ hDa] at this; cases this
                  have ext5 : Ext H1 (upd H4 D (.lst (accV ++ [v]))) := fun b o h => by
                    rw [upd_ne (fun z => by rw [z, hD] at h; cases h)]
                    exact (e13.trans e5) b o h
                  have k5 : Kp (un B Bt) top H4 (upd H4 D (.lst (accV ++ [v]))) → True := fun _ => trivial
                  have rep5 : Reps (upd H4 D (.lst (accV ++ [v]))) (acc ++ [t]) (accV ++ [v]) (un B Bt) := by
                    refine Reps.kp (kp_upd (Z := emp) hD4 (fun z => z.elim nB nBt) id) _ _ (reps_snoc (Reps.kp (e04.kp (C := B) (Z := top)) _ _ hr) rt fun a z1 z2 => ?_)
                    exact (e3.trans e4).al alB a z1 (frt a z2)
                  refine ⟨accV, hD4, Nat.lt_of_le_of_lt hlen (Nat.lt_of_lt_of_le hlt hl), ext5, acc ++ [t], accV ++ [v], rest', un B Bt, upd_same, rep5, fun z => z.elim nB nBt, fun a z => z.elim (frB a) fun y => e13.fresh (frt a y), fun a z => ?_, rfl, by rw [List.append_assoc, ← happ, ← er]; rfl, by simp; omega⟩
                  have na : a ≠ D := fun w => by subst w; exact z.elim nB nBt
                  rw [upd_ne na]
                  exact z.elim (e04.al alB a) (alt a)
      · have e : i = ss.length := by omega
        subst e
        rw [List.drop_length] at hgo2
        have er : [] = rest := by injection hgo2
        subst er
        rw [List.append_nil] at happ
        subst happ
        refine .inl ⟨h2, q _ H' (e1.trans e2) ⟨fun b => b = D ∨ B b, ⟨D, accV, rfl, hDa, .inl rfl, Reps.mono (fun a z => ⟨.inr z, fun w => nB (w ▸ z)⟩) _ _ hr⟩, fun a z => z.elim (fun w => by rw [w]; exact e1.fresh hD) fun w => e1.fresh (frB a w), fun a z => z.elim (fun w => by rw [w, hDa]; intro c; cases c) (alB a)⟩⟩
theorem q_lc {elt tg it : Expr} {ifs : List Expr} {scope : Scope} (own : List (Str × Nat)) {pos : Pos} {fi : Env → R Unit (List Sl)} {g : TgF} {fc : Env → R Unit Bool} {fe : Env → R Unit T} (hc : X.calm = true) (hN : X.N.Nodup) (hi : JIe X W tg it fi) (ok : BlkOk X.N X.env.scope scope own)
    (hg : ∀ (s : Shared) (H : Hp) (C : Addr) (cl : List (Str × Addr)) (fp : List Addr), JG (X.blk s H scope (compEnvC scope cl C X.env) fp) (kpV (snds own)) tg g)
    (ht : ∀ (s : Shared) (H : Hp) (C : Addr) (cl : List (Str × Addr)) (fp : List Addr), JQTs (X.blk s H scope (compEnvC scope cl C X.env) fp) wNo ifs fc)
    (he : ∀ (s : Shared) (H : Hp) (C : Addr) (cl : List (Str × Addr)) (fp : List Addr), JQ (X.blk s H scope (compEnvC scope cl C X.env) fp) wNo .o elt fe) (hs : ∀ x, foldedSetIterable it X.env x = pure x := by intro _; rfl) :
    JQ X W .o (.ListComp elt [⟨tg, it, ifs, 0⟩] scope pos) (fLc (snds own) fi g fc fe) :=
  peM (pe_lc (g := FG X.K (kpV (snds own)) g) (tt := FQT X.K X.mg wNo fc) (te := FQ X.K X.mg wNo .o fe) hc hN hi ok hg ht he hs) fun _ _ _ q => fq_lc q
theorem t_setLc (i : Nat) {kp : Nat → Bool} {elt tg it : Expr} {ifs : List Expr} {scope : Scope} (own : List (Str × Nat)) {pos spos py : Pos} {y : Str} {fi : Env → R Unit (List Sl)} {g : TgF} {fc : Env → R Unit Bool} {fe : Env → R Unit T} (hc : X.calm = true) (hN : X.N.Nodup) (hy : X.N[i]? = some y) (hyl : X.env.scope.names.lookup y = some .local)
    (hsw : swapsWith (.ListComp elt [⟨tg, it, ifs, 0⟩] scope pos) (some (.Name y py)) spos.line X.env = pure true) (hi : JIe X W tg it fi) (ok : BlkOk X.N X.env.scope scope own)
    (hg : ∀ (s : Shared) (H : Hp) (C : Addr) (cl : List (Str × Addr)) (fp : List Addr), JG (X.blk s H scope (compEnvC scope cl C X.env) fp) (kpV (snds own)) tg g)
    (ht : ∀ (s : Shared) (H : Hp) (C : Addr) (cl : List (Str × Addr)) (fp : List Addr), JQTs (X.blk s H scope (compEnvC scope cl C X.env) fp) wNo ifs fc)
    (he : ∀ (s : Shared) (H : Hp) (C : Addr) (cl : List (Str × Addr)) (fp : List Addr), JQ (X.blk s H scope (compEnvC scope cl C X.env) fp) wNo .o elt fe) (hk : kp i = false := by rfl) (hs : ∀ x, foldedSetIterable it X.env x = pure x := by intro _; rfl) :
    JT X W kp (.Assign [.Name y py] (.ListComp elt [⟨tg, it, ifs, 0⟩] scope pos) spos) (tSet i (fLc (snds own) fi g fc fe)) :=
  psM (ps_setLc (g := FG X.K (kpV (snds own)) g) (tt := FQT X.K X.mg wNo fc) (te := FQ X.K X.mg wNo .o fe) hc hN hy hyl hsw hi ok hg ht he hs) fun D σ H q => fq_lc (fq_store hk q)
theorem fs_lc {fi : Env → R Env (List Sl × Env)} {g : TgF} {fc : Env → R Unit Bool} {fe : Env → R Env (AV × Env)} {vs : List Nat} {σ : Stt} {H : Hp} {Q : VK} (q : FS K mg W (sLc vs fi g fc fe) σ H Q) :
    tLc (FIS K mg W fi) (FG K (kpV vs) g) (FQT K mg wNo fc) (FS K mg wNo fe) vs σ H Q := by
  obtain ⟨ρ, Z, A, G, q⟩ := q
  refine ⟨ρ, Z, A, G, ?_⟩
  revert q
  unfold sLc
  cases fi ρ with
  | exc e x => exact id
  | bad => exact id
  | ok ss =>
    obtain ⟨ss, ρ1⟩ := ss
    intro q J H1 A1 Z1 G1 sZ dZ aZ st1 it hl D hD
    simp only [R.bind_ok] at q
    cases hgo : lcGoE g fc fe vs ss (wipeE ρ1 vs) with
    | exc e x => rw [hgo] at q; exact q.elim
    | bad => rw [hgo] at q; exact q.elim
    | ok tr =>
      obtain ⟨ts, ρe⟩ := tr
      rw [hgo] at q
      have Gw : Good K Z H1 (wipe σ vs) (wipeE ρ1 vs) A1 := ⟨env_wipe G1.env vs, G1.dis, G1.alZ, G1.alA⟩
      have eD : Ext H1 (upd H1 D (.lst [])) := Ext.new hD
      refine ⟨fun i m H' => m = ss.length - i ∧ i ≤ ss.length ∧ Stb Z1 H1 H' ∧ ∃ acc accV rest B ρ' A', Good K Z H' (wipe σ vs) (wipeE ρ' vs) A' ∧ Disj Z1 A' ∧ Al H' Z1 ∧ H' D = some (.lst accV) ∧ Reps H' acc accV B ∧ ¬ B D ∧ ¬ A' D ∧ ¬ Z1 D ∧ Disj B A' ∧ Al H' B ∧ Step H A H' (un A' fun b => b = D ∨ B b) ∧ lcGoE g fc fe vs (ss.drop i) (wipeE ρ' vs) = .ok (rest, ρe) ∧ acc ++ rest = ts ∧ accV.length ≤ i,
        ⟨ss.length, by simp, Nat.zero_le _, eD.kp, [], [], ts, emp, ρ1, A1, Gw.ext eD, dZ, eD.al aZ, upd_same, rfl, fun z => z, fun z => G1.alA D z hD, fun z => aZ D z hD, fun _ z => z.elim, fun _ z => z.elim, ?_, by simpa using hgo, rfl, Nat.le_refl _⟩, ?_⟩
      · exact (st1.trans (Step.ext (B := fun b => b = D) eD fun a h => by rw [h]; exact hD)).mono fun a h => h.imp id fun z => z.elim id fun y => y.elim
      rintro i m H' ⟨rfl, hi2, k2, acc, accV, rest, B, ρ', A', G', dZA, alZ1, hDa, hr, nB, nA, nZ, dBA, alB, st', hgo2, happ, hlen⟩
      obtain ⟨h1, h2⟩ := it H' k2
      by_cases hlt : i < ss.length
      · refine .inr ⟨(h1 i ss[i] (List.getElem?_eq_getElem hlt)).1, fun H3 => Stb Z1 H1 H3 ∧ ∃ acc accV rest B ρ' A', Good K Z H3 (wipe σ vs) (wipeE ρ' vs) A' ∧ Disj Z1 A' ∧ Al H3 Z1 ∧ H3 D = some (.lst accV) ∧ Reps H3 acc accV B ∧ ¬ B D ∧ ¬ A' D ∧ ¬ Z1 D ∧ Disj B A' ∧ Al H3 B ∧ Step H A H3 (un A' fun b => b = D ∨ B b) ∧ lcGoE g fc fe vs (ss.drop (i + 1)) (wipeE ρ' vs) = .ok (rest, ρe) ∧ acc ++ rest = ts ∧ accV.length ≤ i + 1,
          fun H3 n3 => ⟨ss.length - (i + 1), by omega, rfl, hlt, n3⟩, fun x H'' y => ?_⟩
        obtain ⟨e3, Bs, rs, fr, al2⟩ := (h1 i ss[i] (List.getElem?_eq_getElem hlt)).2 x H'' y
        rw [List.drop_eq_getElem_cons hlt] at hgo2
        have hp : ∃ p, ss[i] = .ow (.pv p) := by
          generalize ss[i] = s0 at hgo2
          unfold lcGoE at hgo2
          split at hgo2
          · rename_i h; exact (List.cons_ne_nil _ _ h).elim
          · rename_i h; injection h with h1 h2; exact ⟨_, h1⟩
          · cases hgo2
        obtain ⟨p, hp⟩ := hp
        rw [hp] at hgo2 rs
        unfold lcGoE at hgo2
        have G2 := G'.ext e3
        have rs' : SlRep K Z H'' (some x) (.ow (.pv p)) emp := rs
        refine ⟨wipeE ρ' vs, Z, A', .ow (.pv p), emp, G2, rs', fun _ z => z.elim, fun _ z => z.elim, fun _ z => z.elim, ?_⟩
        cases hgs : g (.ow (.pv p)) (wipeE ρ' vs) with
        | none => rw [hgs] at hgo2; cases hgo2
        | some ρ1 =>
          rw [hgs] at hgo2
          dsimp only at hgo2
          intro σ2 A2 G3 sA ag
          have wag := wipe_agree ag
          refine ⟨wag, ρ1, Z, A2, G3, ?_⟩
          have hDne : H' D ≠ none := by rw [hDa]; intro c; cases c
          have nA2 : ¬ A2 D := fun z => (sA D z).elim nA fun w => w.elim
          have dBA2 : Disj B A2 := fun a z1 z2 => (sA a z2).elim (dBA a z1) fun w => w.elim
          have stp2 : Step H' (un A' fun b => b = D ∨ B b) H'' (un A2 fun b => b = D ∨ B b) := ⟨fun b o h _ => e3 b o h, e3.dom, fun b h => h.elim (fun z => (sA b z).imp .inl fun w => w.elim) fun z => .inl (.inr z)⟩
          have dZA2 : Disj Z1 A2 := fun a z1 z2 => (sA a z2).elim (dZA a z1) fun w => w.elim
          have st2 := st'.trans stp2
          cases hfc : fc ρ1 with
          | exc e x => rw [hfc] at hgo2; cases hgo2
          | bad => rw [hfc] at hgo2; cases hgo2
          | ok d =>
            rw [hfc] at hgo2
            intro H3 e4
            have G4 := G3.ext e4
            have e34 := e3.trans e4
            have st3 : Step H A H3 (un A2 fun b => b = D ∨ B b) := st2.trans (Step.ext0 e4)
            have Gw4 : Good K Z H3 (wipe σ vs) (wipeE ρ1 vs) A2 := ⟨by rw [← wag]; exact env_wipe G4.env vs, G4.dis, G4.alZ, G4.alA⟩
            cases d with
            | false =>
              rw [if_neg Bool.false_ne_true]
              exact ⟨k2.trans e34.kp, acc, accV, rest, B, ρ1, A2, Gw4, dZA2, e34.al alZ1, e34 _ _ hDa, Reps.kp (e34.kp (C := B) (Z := top)) _ _ hr, nB, nA2, nZ, dBA2, e34.al alB, st3, hgo2, happ, Nat.le_succ_of_le hlen⟩
            | true =>
              rw [if_pos rfl]
              refine ⟨ρ1, Z, A2, G4, ?_⟩
              dsimp only at hgo2
              cases hfe : fe ρ1 with
              | exc e x => rw [hfe] at hgo2; cases hgo2
              | bad => rw [hfe] at hgo2; cases hgo2
              | ok t =>
                obtain ⟨av, ρ2⟩ := t
                rw [hfe] at hgo2
                cases av with
                | late j => cases hgo2
                | val t =>
                  dsimp only at hgo2
                  intro v H4 A4 Bt G5 rt dt alt s5
                  have rt' : Rep H4 t v Bt := rt
                  cases hrest : lcGoE g fc fe vs (ss.drop (i + 1)) (wipeE ρ2 vs) with
                  | exc e x => rw [hrest] at hgo2; cases hgo2
                  | bad => rw [hrest] at hgo2; cases hgo2
                  | ok rr =>
                    obtain ⟨rest', ρe'⟩ := rr
                    rw [hrest] at hgo2
                    simp only [R.bind_ok, R.ok.injEq, Prod.mk.injEq] at hgo2
                    obtain ⟨er, ee⟩ := hgo2
                    subst ee
                    have hD3 : H3 D = some (.lst accV) := e34 _ _ hDa
                    have hD3n : H3 D ≠ none := by rw [hD3]; intro c; cases c
                    have hD4 : H4 D = some (.lst accV) := s5.keep D _ hD3 fun z => (nA2 z).elim
                    have alB3 : Al H3 B := e34.al alB
                    have nD : ¬ un A4 Bt D := fun z => (s5.sub D z).elim nA2 hD3n
                    have dB4 : Disj B (un A4 Bt) := s5.disj dBA2 alB3
                    have r4 : Reps H4 acc accV B := Reps.kp (s5.kp dBA2 G4.dis) _ _ (Reps.kp (e34.kp (C := B) (Z := top)) _ _ hr)
                    have k6 : Kp (un B Bt) Z1 H4 (upd H4 D (.lst (accV ++ [v]))) := kp_upd hD4 (fun z => z.elim nB fun y => nD (.inr y)) nZ
                    have rep5 : Reps (upd H4 D (.lst (accV ++ [v]))) (acc ++ [t]) (accV ++ [v]) (un B Bt) := Reps.kp k6 _ _ (reps_snoc r4 rt' fun a z1 z2 => dB4 a z1 (.inr z2))
                    have dom6 : ∀ b, H4 b ≠ none → (upd H4 D (.lst (accV ++ [v]))) b ≠ none := fun b h => by
                      by_cases e : b = D
                      · rw [e, upd_same]; intro c; cases c
                      · rw [upd_ne e]; exact h
                    have nZ0 : ¬ Z D := fun z => nZ (sZ D z)
                    have G6 : Good K Z (upd H4 D (.lst (accV ++ [v]))) (wipe σ vs) (wipeE ρ2 vs) A4 :=
                      ⟨(by rw [← wag]; exact env_wipe G5.env vs : EnvRep K Z H4 (wipe σ vs) (wipeE ρ2 vs) A4).kp (kp_upd hD4 (fun z => nD (.inl z)) nZ0), G5.dis, fun a h => dom6 a (G5.alZ a h), fun a h => dom6 a (G5.alA a h)⟩
                    refine ⟨accV, hD4, Nat.lt_of_le_of_lt hlen (Nat.lt_of_lt_of_le hlt hl), ((k2.trans e34.kp).trans (s5.kp (fun _ z => z.elim) dZA2)).trans (kp_upd hD4 (fun z => z) nZ), acc ++ [t], accV ++ [v], rest', un B Bt, ρ2, A4, G6, (fun a z1 z2 => s5.disj dZA2 (e34.al alZ1) a z1 (.inl z2)), (fun a z => dom6 a (s5.al (e34.al alZ1) a z)), upd_same, rep5, fun z => z.elim nB fun y => nD (.inr y), fun z => nD (.inl z), nZ,
                      fun a z1 z2 => z1.elim (fun y => dB4 a y (.inl z2)) fun y => dt a y z2, fun a z => dom6 a (z.elim (s5.al alB3 a) (alt a)), ?_, hrest, by rw [List.append_assoc, ← happ, ← er]; rfl, by simp; omega⟩
                    have w5 : Step H3 (un A2 fun b => b = D ∨ B b) H4 (un (un A4 Bt) fun b => b = D ∨ B b) := s5.wide
                    have u6 : Step H4 (un (un A4 Bt) fun b => b = D ∨ B b) (upd H4 D (.lst (accV ++ [v]))) (un A4 fun b => b = D ∨ un B Bt b) :=
                      ⟨fun b o h n => by
                        rw [upd_ne (fun z => by
                          subst z
                          rw [hD4] at h
                          cases h
                          exact n (.inr (.inl rfl)) trivial)]
                        exact h, dom6, fun b h => .inl (h.elim (fun z => .inl (.inl z)) fun z => z.elim (fun y => .inr (.inl y)) fun y => y.elim (fun w => .inr (.inr w)) fun w => .inl (.inr w))⟩
                    exact (st3.trans w5).trans u6
      · have e : i = ss.length := by omega
        subst e
        rw [List.drop_length] at hgo2
        have er : ([], wipeE ρ' vs) = (rest, ρe) := by injection hgo2
        cases er
        rw [List.append_nil] at happ
        subst happ
        have Gf : Good K Z H' σ (wipeE ρ' vs) A' := ⟨env_unwipe vs G'.env, G'.dis, G'.alZ, G'.alA⟩
        refine .inl ⟨h2, q (.ref D) H' A' (fun b => b = D ∨ B b) Gf ⟨D, accV, rfl, hDa, .inl rfl, Reps.mono (fun a z => ⟨.inr z, fun w => nB (w ▸ z)⟩) _ _ hr⟩ (fun a z1 z2 => z1.elim (fun w => nA (w ▸ z2)) fun w => dBA a w z2) (fun a z => z.elim (fun w => by rw [w, hDa]; intro c; cases c) (alB a)) st'⟩
theorem s_lc {elt tg it : Expr} {ifs : List Expr} {scope : Scope} (own : List (Str × Nat)) {pos : Pos} {fi : Env → R Env (List Sl × Env)} {g : TgF} {fc : Env → R Unit Bool} {fe : Env → R Env (AV × Env)} (hc : X.calm = true) (hN : X.N.Nodup) (hi : JIS X W tg it fi) (ok : BlkOk X.N X.env.scope scope own)
    (hg : ∀ (s : Shared) (H : Hp) (C : Addr) (cl : List (Str × Addr)) (fp : List Addr), JG (X.blk s H scope (compEnvC scope cl C X.env) fp) (kpV (snds own)) tg g)
    (ht : ∀ (s : Shared) (H : Hp) (C : Addr) (cl : List (Str × Addr)) (fp : List Addr), JQTs (X.blk s H scope (compEnvC scope cl C X.env) fp) wNo ifs fc)
    (he : ∀ (s : Shared) (H : Hp) (C : Addr) (cl : List (Str × Addr)) (fp : List Addr), JS (X.blk s H scope (compEnvC scope cl C X.env) fp) wNo elt fe) (hs : ∀ x, foldedSetIterable it X.env x = pure x := by intro _; rfl) :
    JS X W (.ListComp elt [⟨tg, it, ifs, 0⟩] scope pos) (sLc (snds own) fi g fc fe) :=
  peM (pe_lc (g := FG X.K (kpV (snds own)) g) (tt := FQT X.K X.mg wNo fc) (te := FS X.K X.mg wNo fe) hc hN hi ok hg ht he hs) fun _ _ _ q => fs_lc q
theorem t_setLcE (i : Nat) {kp : Nat → Bool} {elt tg it : Expr} {ifs : List Expr} {scope : Scope} (own : List (Str × Nat)) {pos spos py : Pos} {y : Str} {fi : Env → R Env (List Sl × Env)} {g : TgF} {fc : Env → R Unit Bool} {fe : Env → R Env (AV × Env)} (hc : X.calm = true) (hN : X.N.Nodup) (hy : X.N[i]? = some y) (hyl : X.env.scope.names.lookup y = some .local)
    (hsw : swapsWith (.ListComp elt [⟨tg, it, ifs, 0⟩] scope pos) (some (.Name y py)) spos.line X.env = pure true) (hi : JIS X W tg it fi) (ok : BlkOk X.N X.env.scope scope own)
    (hg : ∀ (s : Shared) (H : Hp) (C : Addr) (cl : List (Str × Addr)) (fp : List Addr), JG (X.blk s H scope (compEnvC scope cl C X.env) fp) (kpV (snds own)) tg g)
    (ht : ∀ (s : Shared) (H : Hp) (C : Addr) (cl : List (Str × Addr)) (fp : List Addr), JQTs (X.blk s H scope (compEnvC scope cl C X.env) fp) wNo ifs fc)
    (he : ∀ (s : Shared) (H : Hp) (C : Addr) (cl : List (Str × Addr)) (fp : List Addr), JS (X.blk s H scope (compEnvC scope cl C X.env) fp) wNo elt fe) (hk : kp i = false := by rfl) (hs : ∀ x, foldedSetIterable it X.env x = pure x := by intro _; rfl) :
    JT X W kp (.Assign [.Name y py] (.ListComp elt [⟨tg, it, ifs, 0⟩] scope pos) spos) (tSetE i (sLc (snds own) fi g fc fe)) :=
  psM (ps_setLc (g := FG X.K (kpV (snds own)) g) (tt := FQT X.K X.mg wNo fc) (te := FS X.K X.mg wNo fe) hc hN hy hyl hsw hi ok hg ht he hs) fun D σ H q => fs_lc (fs_store hk q)
end
end TR
namespace TR
open PySem PySem.Spec PyProof.Rows L2
def fB (f : Env → R Unit T) : Env → R Unit Bool := fun ρ => (f ρ).bind fun t => match t with
  | .pv (.bl b) => .ok b
  | _ => .bad
def sB (f : Env → R Env (AV × Env)) : Env → R Env (Bool × Env) := fun ρ => (f ρ).bind fun (a, ρ1) => match a.see ρ1 with
  | some (.pv (.bl b)) => .ok (b, ρ1)
  | _ => .bad
def fAndT (f g : Env → R Unit Bool) : Env → R Unit Bool := fun ρ => (f ρ).bind fun b => if b = true then g ρ else .ok false
def fOrT (f g : Env → R Unit Bool) : Env → R Unit Bool := fun ρ => (f ρ).bind fun b => if b = true then .ok true else g ρ
def fNotT (f : Env → R Unit Bool) : Env → R Unit Bool := fun ρ => (f ρ).bind fun b => .ok (!b)
def sAndT (f g : Env → R Env (Bool × Env)) : Env → R Env (Bool × Env) := fun ρ => (f ρ).bind fun (b, ρ1) => if b = true then g ρ1 else .ok (false, ρ1)
def sOrT (f g : Env → R Env (Bool × Env)) : Env → R Env (Bool × Env) := fun ρ => (f ρ).bind fun (b, ρ1) => if b = true then .ok (true, ρ1) else g ρ1
def sNotT (f : Env → R Env (Bool × Env)) : Env → R Env (Bool × Env) := fun ρ => (f ρ).bind fun (b, ρ1) => .ok (!b, ρ1)
def fQS (f : Env → R Unit Bool) : Env → R Env (Bool × Env) := fun ρ => match f ρ with
  | .ok b => .ok (b, ρ)
  | .exc e _ => .exc e ρ
  | .bad => .bad
def fOfB (f : Env → R Unit Bool) : Env → R Unit T := fun ρ => (f ρ).bind fun b => .ok (.pv (.bl b))
def fAndV (f : Env → R Unit T) (g : Env → R Unit T) : Env → R Unit T := fun ρ => (fB f ρ).bind fun b => if b = true then g ρ else .ok (.pv (.bl false))
def fOrV (f : Env → R Unit T) (g : Env → R Unit T) : Env → R Unit T := fun ρ => (fB f ρ).bind fun b => if b = true then .ok (.pv (.bl true)) else g ρ
def fNotV (f : Env → R Unit T) : Env → R Unit T := fun ρ => (fB f ρ).bind fun b => .ok (.pv (.bl (!b)))
def fIf (c : Env → R Unit Bool) (f g : Env → R Unit T) : Env → R Unit T := fun ρ => (c ρ).bind fun b => if b = true then f ρ else g ρ
def sIf (c : Env → R Env (Bool × Env)) (f g : Env → R Env (AV × Env)) : Env → R Env (AV × Env) := fun ρ => (c ρ).bind fun (b, ρ1) => if b = true then f ρ1 else g ρ1
def fChain (g g' : T → T → Option T) (fa fb fc : Env → R Unit T) : Env → R Unit T := fun ρ => (fa ρ).bind fun t => (fb ρ).bind fun u => match g t u with
  | some (.pv (.bl true)) => (fc ρ).bind fun w => R.of (g' u w)
  | some (.pv (.bl false)) => .ok (.pv (.bl false))
  | _ => .bad
section
variable {X : Cx} {W : WX} {K : PySem.W.Frag} {mg : Str → Option Value}
theorem fqt_fq {m : Md} {f : Env → R Unit T} {σ : Stt} {H : Hp} {Q : Bool → Hp → Prop} (h : FQT K mg W (fB f) σ H Q) : FQ K mg W m f σ H fun x H' => ∃ k, x = .bl k ∧ Q k H' := by
  obtain ⟨ρ, Z, A, G, q⟩ := h
  refine ⟨ρ, Z, A, G, ?_⟩
  revert q
  unfold fB
  cases f ρ with
  | ok t =>
    intro q v H1 e1 r1
    rw [R.bind_ok] at q
    cases t with
    | pv p =>
      cases p with
      | bl b =>
        have r' : v = .bl b := by
          cases m with
          | e => exact r1
          | z => exact r1
          | o => obtain ⟨B, r, _⟩ := r1; exact r
        exact ⟨b, r', q H1 e1⟩
      | _ => exact q.elim
    | _ => exact q.elim
  | exc e x => exact fun q => q
  | bad => exact fun q => q.elim
theorem fst_fs {f : Env → R Env (AV × Env)} {σ : Stt} {H : Hp} {Q : Bool → Hp → Prop} (h : FST K mg W (sB f) σ H Q) : FS K mg W f σ H fun x H' => ∃ k, x = .bl k ∧ Q k H' := by
  obtain ⟨ρ, Z, A, G, q⟩ := h
  refine ⟨ρ, Z, A, G, ?_⟩
  revert q
  unfold sB
  cases f ρ with
  | ok t =>
    obtain ⟨a, ρ1⟩ := t
    intro q v H1 A1 B G1 r d al st
    simp only [R.bind_ok] at q
    cases hs : a.see ρ1 with
    | none => rw [hs] at q; exact q.elim
    | some t =>
      rw [hs] at q
      cases t with
      | pv p =>
        cases p with
        | bl b => exact ⟨b, see_vw G1 r hs, q H1 A1 G1 (st.mono fun _ h => .inl h)⟩
        | _ => exact q.elim
      | _ => exact q.elim
  | exc e x => exact fun q => q
  | bad => exact fun q => q.elim
variable {a b c e : Expr} {pos : Pos} {fa fb fc : Env → R Unit T} {sa sb : Env → R Env (AV × Env)} {g g' : T → T → Option T} {r r' : R2}
theorem qt_cmp {o : CmpOp} (ho : OpR X (compareOp o) r) (hr : Ok2 X.K r g) (ha : JQ X W .e a fa) (hb : JQ X W .e b fb) (hm : behindInMarks o b = false) : JQT X W (.Compare a [o] [b] pos) (fB (f2 g fa fb)) := ptM (pt_cmpR ho ha hb hm) fun _ _ _ q => fq2 hr (fqt_fq q)
theorem st_cmp {o : CmpOp} (ho : OpR X (compareOp o) r) (hr : Ok2 X.K r g) (ha : JS X W a sa) (hb : JS X W b sb) (hm : behindInMarks o b = false) : JST X W (.Compare a [o] [b] pos) (sB (s2 g sa sb)) := ptM (pt_cmpR ho ha hb hm) fun _ _ _ q => fs2 hr (fst_fs q)
theorem qt_val {m : Md} (h : JQ X W m e fa) (he : ∀ whole, isTrue e X.env whole = (do let v ← whole; standAt e.pos; holding [v] (truthy v)) := by intro _; rfl) : JQT X W e (fB fa) := ptM (pt_val h he) fun _ _ _ q => fqt_fq q
theorem st_val (h : JS X W e sa) (he : ∀ whole, isTrue e X.env whole = (do let v ← whole; standAt e.pos; holding [v] (truthy v)) := by intro _; rfl) : JST X W e (sB sa) := ptM (pt_val h he) fun _ _ _ q => fst_fs q
theorem st_q {f : Env → R Unit Bool} (h : JQT X W e f) : JST X W e (fQS f) := ptM h fun σ H Q ⟨ρ, Z, A, G, q⟩ => ⟨ρ, Z, A, G, by
  revert q
  unfold fQS
  cases f ρ with
  | ok b => exact fun q H1 e1 => q H1 A (G.ext e1) (Step.ext0 e1)
  | exc e r => exact fun q cls d H' e1 x => q cls d H' A (G.ext e1) (Step.ext0 e1) x
  | bad => exact id⟩
theorem qt_not {f : Env → R Unit Bool} (h : JQT X W e f) : JQT X W (.UnaryOp .Not e pos) (fNotT f) := ptM (pt_not h) fun σ H Q ⟨ρ, Z, A, G, q⟩ => ⟨ρ, Z, A, G, by
  revert q
  unfold fNotT
  cases f ρ with
  | ok b => exact fun q => q
  | exc e r => exact id
  | bad => exact id⟩
theorem st_not {f : Env → R Env (Bool × Env)} (h : JST X W e f) : JST X W (.UnaryOp .Not e pos) (sNotT f) := ptM (pt_not h) fun σ H Q ⟨ρ, Z, A, G, q⟩ => ⟨ρ, Z, A, G, by
  revert q
  unfold sNotT
  cases f ρ with
  | ok b => exact fun q => q
  | exc e r => exact id
  | bad => exact id⟩
def JQW (X : Cx) (W : WX) (e : Expr) (f : Env → R Unit Bool) : Prop := PW X e (FQT X.K X.mg W f)
def JSW (X : Cx) (W : WX) (e : Expr) (f : Env → R Env (Bool × Env)) : Prop := PW X e (FST X.K X.mg W f)
theorem pwM {e : Expr} {t u : TT} (h : PW X e t) (m : ∀ σ H Q, u σ H Q → t σ H Q) : PW X e u := ⟨fun w pins s σ H Q I q => h.run w pins s σ H Q I (m σ H Q q)⟩
variable {ta tb : Env → R Unit Bool} {ua ub : Env → R Env (Bool × Env)} {rest : List Expr}
theorem qw_and1 (h : JQT X W a ta) : JQW X W (.BoolOp .And [a] pos) ta := pw_and1 h
theorem qw_or1 (h : JQT X W a ta) : JQW X W (.BoolOp .Or [a] pos) ta := pw_or1 h
theorem fqt_and {σ : Stt} {H : Hp} {Q : Bool → Hp → Prop} (h : FQT K mg W (fAndT ta tb) σ H Q) : tAnd (FQT K mg W ta) (FQT K mg W tb) σ H Q := by
  obtain ⟨ρ, Z, A, G, q⟩ := h
  refine ⟨ρ, Z, A, G, ?_⟩
  revert q
  unfold fAndT
  cases ta ρ with
  | exc e r => exact id
  | bad => exact id
  | ok b =>
    intro q H1 e1
    rw [R.bind_ok] at q
    cases b with
    | false => exact q H1 e1
    | true =>
      refine ⟨ρ, Z, A, G.ext e1, ?_⟩
      revert q
      rw [if_pos rfl]
      cases tb ρ with
      | ok d => exact fun q H2 e2 => q H2 (e1.trans e2)
      | exc e r => exact fun q cls d H' e2 x => q cls d H' (e1.trans e2) x
      | bad => exact id
theorem fqt_or {σ : Stt} {H : Hp} {Q : Bool → Hp → Prop} (h : FQT K mg W (fOrT ta tb) σ H Q) : tOr (FQT K mg W ta) (FQT K mg W tb) σ H Q := by
  obtain ⟨ρ, Z, A, G, q⟩ := h
  refine ⟨ρ, Z, A, G, ?_⟩
  revert q
  unfold fOrT
  cases ta ρ with
  | exc e r => exact id
  | bad => exact id
  | ok b =>
    intro q H1 e1
    rw [R.bind_ok] at q
    cases b with
    | true => exact q H1 e1
    | false =>
      refine ⟨ρ, Z, A, G.ext e1, ?_⟩
      revert q
      rw [if_neg Bool.false_ne_true]
      cases tb ρ with
      | ok d => exact fun q H2 e2 => q H2 (e1.trans e2)
      | exc e r => exact fun q cls d H' e2 x => q cls d H' (e1.trans e2) x
      | bad => exact id
theorem qw_and (ha : JQT X W a ta) (hb : JQW X W (.BoolOp .And (b :: rest) pos) tb) : JQW X W (.BoolOp .And (a :: b :: rest) pos) (fAndT ta tb) := pwM (pw_and ha hb) fun _ _ _ q => fqt_and q
theorem qw_or (ha : JQT X W a ta) (hb : JQW X W (.BoolOp .Or (b :: rest) pos) tb) : JQW X W (.BoolOp .Or (a :: b :: rest) pos) (fOrT ta tb) := pwM (pw_or ha hb) fun _ _ _ q => fqt_or q
theorem qt_w {f : Env → R Unit Bool} (h : JQW X W e f) : JQT X W e f := PW.pt h
theorem sw_and1 (h : JST X W a ua) : JSW X W (.BoolOp .And [a] pos) ua := pw_and1 h
theorem sw_or1 (h : JST X W a ua) : JSW X W (.BoolOp .Or [a] pos) ua := pw_or1 h
theorem sw_and (ha : JST X W a ua) (hb : JSW X W (.BoolOp .And (b :: rest) pos) ub) : JSW X W (.BoolOp .And (a :: b :: rest) pos) (sAndT ua ub) := pwM (pw_and ha hb) fun σ H Q ⟨ρ, Z, A, G, q⟩ => ⟨ρ, Z, A, G, by
  revert q
  unfold sAndT
  cases ua ρ with
  | exc e r => exact id
  | bad => exact id
  | ok b =>
    obtain ⟨b, ρ1⟩ := b
    intro q H1 A1 G1 s1
    simp only [R.bind_ok] at q
    cases b with
    | false => exact q H1 A1 G1 s1
    | true =>
      refine ⟨ρ1, Z, A1, G1, ?_⟩
      revert q
      rw [if_pos rfl]
      cases ub ρ1 with
      | ok d => exact fun q H2 A2 G2 s2 => q H2 A2 G2 (s1.trans s2)
      | exc e r => exact fun q cls d H' A' G' s' x => q cls d H' A' G' (s1.trans s') x
      | bad => exact id⟩
theorem sw_or (ha : JST X W a ua) (hb : JSW X W (.BoolOp .Or (b :: rest) pos) ub) : JSW X W (.BoolOp .Or (a :: b :: rest) pos) (sOrT ua ub) := pwM (pw_or ha hb) fun σ H Q ⟨ρ, Z, A, G, q⟩ => ⟨ρ, Z, A, G, by
  revert q
  unfold sOrT
  cases ua ρ with
  | exc e r => exact id
  | bad => exact id
  | ok b =>
    obtain ⟨b, ρ1⟩ := b
    intro q H1 A1 G1 s1
    simp only [R.bind_ok] at q
    cases b with
    | true => exact q H1 A1 G1 s1
    | false =>
      refine ⟨ρ1, Z, A1, G1, ?_⟩
      revert q
      rw [if_neg Bool.false_ne_true]
      cases ub ρ1 with
      | ok d => exact fun q H2 A2 G2 s2 => q H2 A2 G2 (s1.trans s2)
      | exc e r => exact fun q cls d H' A' G' s' x => q cls d H' A' G' (s1.trans s') x
      | bad => exact id⟩
theorem st_w {f : Env → R Env (Bool × Env)} (h : JSW X W e f) : JST X W e f := PW.pt h
theorem q_one {m : Md} {o : BoolOp} (h : JQ X W m a fa) : JQ X W m (.BoolOp o [a] pos) fa := pe_one h
theorem fq_lit {m : Md} {p : P} {v : V} {Z : Fp} {H H1 : Hp} (h : ∀ H, RepP H p v) : ResM K Z H m H1 (.pv p) v := by
  cases m with
  | e => exact h _
  | z => exact h _
  | o => exact ⟨emp, h _, fun _ z => z.elim, fun _ z => z.elim⟩
theorem q_and {m m' : Md} (ha : JQ X W m' a fa) (hb : JQ X W m (.BoolOp .And (b :: rest) pos) fb) : JQ X W m (.BoolOp .And (a :: b :: rest) pos) (fAndV fa fb) := peM (pe_and ha hb) fun σ H Q ⟨ρ, Z, A, G, q⟩ => by
  refine fqt_fq ⟨ρ, Z, A, G, ?_⟩
  revert q
  unfold fAndV
  cases fB fa ρ with
  | exc e r => exact id
  | bad => exact id
  | ok b =>
    intro q H1 e1
    rw [R.bind_ok] at q
    cases b with
    | false =>
      rw [if_neg Bool.false_ne_true] at q ⊢
      exact q _ H1 e1 (fq_lit fun _ => rfl)
    | true =>
      rw [if_pos rfl] at q ⊢
      refine ⟨ρ, Z, A, G.ext e1, ?_⟩
      revert q
      cases fb ρ with
      | ok d => exact fun q v H2 e2 r => q v H2 (e1.trans e2) (by
          cases m with
          | e => exact r
          | z => exact r
          | o => obtain ⟨B, r, fr, al⟩ := r; exact ⟨B, r, fun a h => e1.fresh (fr a h), al⟩)
      | exc e r => exact fun q cls d H' e2 x => q cls d H' (e1.trans e2) x
      | bad => exact id
theorem q_or {m m' : Md} (ha : JQ X W m' a fa) (hb : JQ X W m (.BoolOp .Or (b :: rest) pos) fb) : JQ X W m (.BoolOp .Or (a :: b :: rest) pos) (fOrV fa fb) := peM (pe_or ha hb) fun σ H Q ⟨ρ, Z, A, G, q⟩ => by
  refine fqt_fq ⟨ρ, Z, A, G, ?_⟩
  revert q
  unfold fOrV
  cases fB fa ρ with
  | exc e r => exact id
  | bad => exact id
  | ok b =>
    intro q H1 e1
    rw [R.bind_ok] at q
    cases b with
    | true =>
      rw [if_pos rfl] at q ⊢
      exact q _ H1 e1 (fq_lit fun _ => rfl)
    | false =>
      rw [if_neg Bool.false_ne_true] at q ⊢
      refine ⟨ρ, Z, A, G.ext e1, ?_⟩
      revert q
      cases fb ρ with
      | ok d => exact fun q v H2 e2 r => q v H2 (e1.trans e2) (by
          cases m with
          | e => exact r
          | z => exact r
          | o => obtain ⟨B, r, fr, al⟩ := r; exact ⟨B, r, fun a h => e1.fresh (fr a h), al⟩)
      | exc e r => exact fun q cls d H' e2 x => q cls d H' (e1.trans e2) x
      | bad => exact id
theorem q_not {m m' : Md} (ha : JQ X W m' a fa) : JQ X W m (.UnaryOp .Not a pos) (fNotV fa) := peM (pe_not ha) fun σ H Q ⟨ρ, Z, A, G, q⟩ => by
  refine fqt_fq ⟨ρ, Z, A, G, ?_⟩
  revert q
  unfold fNotV
  cases fB fa ρ with
  | exc e r => exact id
  | bad => exact id
  | ok b => exact fun q H1 e1 => q _ H1 e1 (fq_lit fun _ => rfl)
theorem q_if {m : Md} (hc : JQT X W c ta) (ha : JQ X W m a fa) (hb : JQ X W m b fb) : JQ X W m (.IfExp c a b pos) (fIf ta fa fb) := peM (pe_ifExp hc ha hb) fun σ H Q ⟨ρ, Z, A, G, q⟩ => by
  refine ⟨ρ, Z, A, G, ?_⟩
  revert q
  unfold fIf
  cases ta ρ with
  | exc e r => exact id
  | bad => exact id
  | ok d =>
    intro q H1 e1
    rw [R.bind_ok] at q
    have go : ∀ f : Env → R Unit T, (match f ρ with
        | .ok t => ∀ v H', Ext H H' → ResM X.K Z H m H' t v → Q v H'
        | .exc e _ => ∀ cls d H', Ext H H' → ExcRep X.mg H' e cls d → W cls d σ H'
        | .bad => False) → FQ X.K X.mg W m f σ H1 Q := fun f q => by
      refine ⟨ρ, Z, A, G.ext e1, ?_⟩
      revert q
      cases f ρ with
      | ok d => exact fun q v H2 e2 r => q v H2 (e1.trans e2) (by
          cases m with
          | e => exact r
          | z => exact r
          | o => obtain ⟨B, r, fr, al⟩ := r; exact ⟨B, r, fun a h => e1.fresh (fr a h), al⟩)
      | exc e r => exact fun q cls d H' e2 x => q cls d H' (e1.trans e2) x
      | bad => exact id
    cases d with
    | true => rw [if_pos rfl] at q ⊢; exact go fa q
    | false => rw [if_neg Bool.false_ne_true] at q ⊢; exact go fb q
theorem s_if (hc : JST X W c ua) (ha : JS X W a sa) (hb : JS X W b sb) : JS X W (.IfExp c a b pos) (sIf ua sa sb) := peM (pe_ifExp hc ha hb) fun σ H Q ⟨ρ, Z, A, G, q⟩ => by
  refine ⟨ρ, Z, A, G, ?_⟩
  revert q
  unfold sIf
  cases ua ρ with
  | exc e r => exact id
  | bad => exact id
  | ok d =>
    obtain ⟨d, ρ1⟩ := d
    intro q H1 A1 G1 s1
    simp only [R.bind_ok] at q
    have go : ∀ f : Env → R Env (AV × Env), (match f ρ1 with
        | .ok (av, ρ') => ∀ v H' A' B, Good X.K Z H' σ ρ' A' → AvRep σ H' av v B → Disj B A' → Al H' B → Step H A H' (un A' B) → Q v H'
        | .exc e ρ' => ∀ cls d H' A', Good X.K Z H' σ ρ' A' → Step H A H' A' → ExcRep X.mg H' e cls d → W cls d σ H'
        | .bad => False) → FS X.K X.mg W f σ H1 Q := fun f q => by
      refine ⟨ρ1, Z, A1, G1, ?_⟩
      revert q
      cases f ρ1 with
      | ok d => exact fun q v H2 A2 B G2 r d al st => q v H2 A2 B G2 r d al (s1.trans st)
      | exc e r => exact fun q cls d H' A' G' st x => q cls d H' A' G' (s1.trans st) x
      | bad => exact id
    cases d with
    | true => rw [if_pos rfl] at q ⊢; exact go sa q
    | false => rw [if_neg Bool.false_ne_true] at q ⊢; exact go sb q
theorem fq_chain (hr : Ok2 K r g) (hr' : Ok2 K r' g') {σ : Stt} {H : Hp} {Q : VK} (h : FQ K mg W .o (fChain g g' fa fb fc) σ H Q) : tChain r r' (FQ K mg W .e fa) (FQ K mg W .e fb) (FQ K mg W .e fc) σ H Q := by
  obtain ⟨ρ, Z, A, G, q⟩ := h
  refine ⟨ρ, Z, A, G, ?_⟩
  revert q
  unfold fChain
  cases fa ρ with
  | exc e x => exact fun q => q
  | bad => exact fun q => q.elim
  | ok t =>
    intro q v H1 e1 r1
    refine ⟨ρ, Z, A, G.ext e1, ?_⟩
    revert q
    rw [R.bind_ok]
    cases fb ρ with
    | exc e x => exact fun q cls d H' e2 x => q cls d H' (e1.trans e2) x
    | bad => exact fun q => q.elim
    | ok u =>
      intro q w H2 e2 r2
      rw [R.bind_ok] at q
      have rt : Vw K top H2 t v := Vw.kp (e2.kp (C := top)) t v r1
      cases hg : g t u with
      | none => rw [hg] at q; exact q.elim
      | some z =>
        rw [hg] at q
        cases z with
        | pv p =>
          cases p with
          | bl k =>
            refine hr H2 t u v w _ rt r2 hg _ fun v' H' B e3 rep fr al => ⟨k, rep, ?_⟩
            have e123 : Ext H H' := e1.trans (e2.trans e3)
            cases k with
            | false =>
              rw [if_neg Bool.false_ne_true]
              exact q _ H' e123 (fq_lit fun _ => rfl)
            | true =>
              rw [if_pos rfl]
              refine ⟨ρ, Z, A, G.ext e123, ?_⟩
              revert q
              dsimp only
              cases fc ρ with
              | exc e x => exact fun q cls d H' e2 x => q cls d H' (e123.trans e2) x
              | bad => exact fun q => q.elim
              | ok y =>
                intro q x H4 e4 r4
                rw [R.bind_ok] at q
                cases hg' : g' u y with
                | none => rw [hg'] at q; exact q.elim
                | some z =>
                  rw [hg'] at q
                  exact hr' H4 u y w x z (Vw.kp ((e3.trans e4).kp (C := top)) u w r2) r4 hg' Q fun v' H' B e5 rep fr al => q v' H' (e123.trans (e4.trans e5)) ⟨B, rep, fun a ha => (e123.trans e4).fresh (fr a ha), al⟩
          | _ => exact q.elim
        | _ => exact q.elim
theorem q_chain {o o' : CmpOp} (ho : OpR X (compareOp o) r) (ho' : OpR X (compareOp o') r') (hr : Ok2 X.K r g) (hr' : Ok2 X.K r' g') (ha : JQ X W .e a fa) (hb : JQ X W .e b fb) (hc : JQ X W .e c fc)
    (hm : lastMarks [o, o'] [b, c] = false := by with_unfolding_all rfl) : JQ X W .o (.Compare a [o, o'] [b, c] pos) (fChain g g' fa fb fc) := peM (pe_chain ho ho' ha hb hc hm) fun _ _ _ q => fq_chain hr hr' q
theorem qt_chain {o o' : CmpOp} (ho : OpR X (compareOp o) r) (ho' : OpR X (compareOp o') r') (hr : Ok2 X.K r g) (hr' : Ok2 X.K r' g') (ha : JQ X W .e a fa) (hb : JQ X W .e b fb) (hc : JQ X W .e c fc)
    (hm : lastMarks [o, o'] [b, c] = false := by with_unfolding_all rfl) : JQT X W (.Compare a [o, o'] [b, c] pos) (fB (fChain g g' fa fb fc)) := ptM (pt_chain ho ho' ha hb hc hm) fun _ _ _ q => fq_chain hr hr' (fqt_fq q)
end
end TR
namespace TR
open PySem PySem.Spec PyProof.Rows L2
def takeA : List Bool → List AV → Env → Option (Env × Env)
  | [], [], ρ => some ([], ρ)
  | true :: io, .late i :: as, ρ => match ρ[i]? with
    | some (.ow t) => (takeA io as (ρ.set i .no)).map fun (args, ρ') => (.ow t :: args, ρ')
    | _ => none
  | false :: io, a :: as, ρ => (takeA io as ρ).bind fun (args, ρ') => (a.see ρ').map fun t => (argSl t :: args, ρ')
  | _, _, _ => none
def giveB : List Bool → List AV → Env → Env → Env
  | true :: io, .late i :: as, s :: ss, ρ => match s with
    | .ow t => (giveB io as ss ρ).set i (.ow t)
    | _ => giveB io as ss ρ
  | _ :: io, _ :: as, _ :: ss, ρ => giveB io as ss ρ
  | _, _, _, ρ => ρ
def sCall (g : Fn) (io : List Bool) (fa : Env → R Env (List AV × Env)) : Env → R Env (AV × Env) := fun ρ => (fa ρ).bind fun (as, ρ1) => match takeA io as ρ1 with
  | none => .bad
  | some (args, ρ2) => match g args with
    | .ok (t, ss) => .ok (.val t, giveB io as ss ρ2)
    | .exc e ss => .exc e (giveB io as ss ρ2)
    | .bad => .bad
section
variable {X : Cx} {W : WX} {K : PySem.W.Frag} {mg : Str → Option Value}
theorem see_vw2 {Z A B : Fp} {H : Hp} {σ : Stt} {ρ : Env} {a : AV} {v : V} {t : T} (g : EnvRep K Z H σ ρ A) (r : AvRep σ H a v B) (e : a.see ρ = some t) : Vw K (fun x => Z x ∨ A x ∨ B x) H t v := by
  cases a with
  | val u =>
    have e' : u = t := Option.some.inj e
    subst e'
    exact Rep.vw (fun _ h => .inr (.inr h)) _ v r
  | late i =>
    have r' : σ[i]? = some (some v) := r
    have e' : (ρ[i]?).bind Sl.t? = some t := e
    cases q : ρ[i]? with
    | none => rw [q] at e'; cases e'
    | some s =>
      rw [q] at e'
      obtain ⟨o, B', h1, h2, sb⟩ := slot_of g q
      rw [h1] at r'
      have er : o = some v := Option.some.inj r'
      subst er
      cases s with
      | no => cases e'
      | ow u =>
        have e2 : u = t := Option.some.inj e'
        subst e2
        obtain ⟨w, e3, r3⟩ := h2
        cases e3
        exact Rep.vw (fun x h => .inr (.inl (sb x h))) _ v r3
      | vw u =>
        have e2 : u = t := Option.some.inj e'
        subst e2
        obtain ⟨w, e3, r3⟩ := h2
        cases e3
        exact Vw.mono (fun _ h => .inl h) _ v r3
theorem argSl_rep {Z : Fp} {H : Hp} {t : T} {v : V} (h : Vw K Z H t v) : SlRep K Z H (some v) (argSl t) emp := by
  cases t with
  | pv p => exact ⟨v, rfl, h⟩
  | _ => exact ⟨v, rfl, h⟩
theorem takeA_ok {Z : Fp} {H : Hp} {σ : Stt} : ∀ {io : List Bool} {as : List AV} {vs : List V} {ρ : Env} {A B : Fp} {args ρ' : Env}, EnvRep K Z H σ ρ A → AvReps σ H as vs B → takeA io as ρ = some (args, ρ') →
    ∃ Ai Ar, EnvRep K Z H σ ρ' Ar ∧ Sub Ai A ∧ Sub Ar A ∧ Disj Ai Ar ∧ EnvRep K (fun x => Z x ∨ Ar x ∨ B x) H (vs.map some) args Ai ∧ ρ'.length = ρ.length ∧
      ∀ (H' : Hp) (ss : Env) (Z2 Bi : Fp), Kp Ar Z H H' → EnvRep K Z2 H' (vs.map some) ss Bi → Disj Bi Ar → ∃ C, EnvRep K Z H' σ (giveB io as ss ρ') C ∧ Sub C (un Bi Ar)
  | [], [], vs, ρ, A, B, args, ρ', g, r, e => by
    cases r
    cases e
    exact ⟨emp, A, g, fun _ z => z.elim, fun _ h => h, fun _ z => z.elim, trivial, rfl, fun H' ss Z2 Bi k h d => ⟨A, g.kp k, fun _ h => .inr h⟩⟩
  | true :: io, .late i :: as, _, ρ, A, B, args, ρ', g, .cons r1 r2 s1 s2 d, e => by
    rename_i v vs B1 B2
    unfold takeA at e
    cases q : ρ[i]? with
    | none => rw [q] at e; cases e
    | some s =>
      rw [q] at e
      cases s with
      | no => cases e
      | vw t => cases e
      | ow t =>
        dsimp only at e
        obtain ⟨o, B0, C, h1, h2, h3, h4, h5, put⟩ := g.at q
        have rv : σ[i]? = some (some v) := r1
        obtain ⟨w, eo, rt⟩ := h2
        rw [h1, eo] at rv
        have ew : w = v := by injection rv with rv; injection rv
        subst ew
        have g1 : EnvRep K Z H σ (ρ.set i .no) C := by
          have := put H Z Kp.refl (fun _ h => h) o .no emp trivial (fun _ z => z.elim)
          rw [set_same h1] at this
          exact this.mono (fun _ h => h) fun a h => h.elim (fun z => z.elim) id
        cases q2 : takeA io as (ρ.set i .no) with
        | none => rw [q2] at e; cases e
        | some p =>
          obtain ⟨args2, ρ2⟩ := p
          rw [q2] at e
          obtain ⟨rfl, rfl⟩ : Sl.ow t :: args2 = args ∧ ρ2 = ρ' := by
            have e' := Option.some.inj e
            exact ⟨congrArg Prod.fst e', congrArg Prod.snd e'⟩
          obtain ⟨Ai, Ar, e1, e2, e3, e4, e5, e6, e7⟩ := takeA_ok g1 r2 q2
          refine ⟨un B0 Ai, Ar, e1, fun a h => h.elim (h3 a) fun z => h4 a (e2 a z), fun a h => h4 a (e3 a h), fun a x y => x.elim (fun z => h5 a z (e3 a y)) fun z => e4 a z y, ?_, by rw [e6]; simp, ?_⟩
          · exact ⟨B0, Ai, ⟨w, rfl, rt⟩, e5.mono (fun x h => h.imp id (fun z => z.imp id (s2 x))) fun _ h => h, fun _ h => .inl h, fun _ h => .inr h, fun a x y => h5 a x (e2 a y)⟩
          · intro H' ss Z2 Bi k hss hd
            cases ss with
            | nil => exact ⟨Ar, e1.kp k, fun _ h => .inr h⟩
            | cons s ss =>
              obtain ⟨D, E, x1, x2, x3, x4, x5⟩ := hss
              obtain ⟨C2, y1, y2⟩ := e7 H' ss Z2 E k x2 fun a z1 z2 => hd a (x4 a z1) z2
              unfold giveB
              have weak : ∃ C, EnvRep K Z H' σ (giveB io as ss ρ2) C ∧ Sub C (un Bi Ar) := ⟨C2, y1, fun a h => (y2 a h).imp (x4 a) id⟩
              cases s with
              | no => exact weak
              | vw u => exact weak
              | ow u =>
                dsimp only
                have hl : i < (giveB io as ss ρ2).length := by
                  rw [← y1.len]
                  exact (List.getElem?_eq_some_iff.mp h1).1
                obtain ⟨o3, B3, C3, z1, z2, z3, z4, z5, put3⟩ := y1.at (List.getElem?_eq_getElem hl)
                obtain ⟨w', ew', ru⟩ := x1
                cases ew'
                have z6 := put3 H' Z Kp.refl (fun _ h => h) (some w) (.ow u) D ⟨w, rfl, ru⟩ fun a m1 m2 => (y2 a (z4 a m2)).elim (fun n => x5 a m1 n) fun n => hd a (x3 a m1) n
                rw [set_same (by rw [h1, eo])] at z6
                exact ⟨un D C3, z6, fun a h => h.elim (fun z => .inl (x3 a z)) fun z => (y2 a (z4 a z)).imp (x4 a) id⟩
  | false :: io, a :: as, _, ρ, A, B, args, ρ', g, .cons r1 r2 s1 s2 d, e => by
    rename_i v vs B1 B2
    unfold takeA at e
    cases q2 : takeA io as ρ with
    | none => rw [q2] at e; cases e
    | some p =>
      obtain ⟨args2, ρ2⟩ := p
      rw [q2] at e
      dsimp only [Option.bind_some] at e
      cases q3 : a.see ρ2 with
      | none => rw [q3] at e; cases e
      | some t =>
        rw [q3] at e
        obtain ⟨rfl, rfl⟩ : argSl t :: args2 = args ∧ ρ2 = ρ' := by
          have e' := Option.some.inj e
          exact ⟨congrArg Prod.fst e', congrArg Prod.snd e'⟩
        obtain ⟨Ai, Ar, e1, e2, e3, e4, e5, e6, e7⟩ := takeA_ok g r2 q2
        refine ⟨Ai, Ar, e1, e2, e3, e4, ⟨emp, Ai, argSl_rep (Vw.mono (fun x h => h.imp id fun z => z.imp id (s1 x)) _ _ (see_vw2 e1 r1 q3)), e5.mono (fun x h => h.imp id (fun z => z.imp id (s2 x))) fun _ h => h, fun _ z => z.elim, fun _ h => h, fun _ z => z.elim⟩, e6, ?_⟩
        intro H' ss Z2 Bi k hss hd
        cases ss with
        | nil =>
          have eg : giveB (false :: io) (a :: as) [] ρ2 = ρ2 := by unfold giveB; rfl
          rw [eg]
          exact ⟨Ar, e1.kp k, fun _ h => .inr h⟩
        | cons s ss =>
          obtain ⟨D, E, x1, x2, x3, x4, x5⟩ := hss
          obtain ⟨C2, y1, y2⟩ := e7 H' ss Z2 E k x2 fun a z1 z2 => hd a (x4 a z1) z2
          have eg : giveB (false :: io) (a :: as) (s :: ss) ρ2 = giveB io as ss ρ2 := by
            conv => lhs; unfold giveB
          rw [eg]
          exact ⟨C2, y1, fun a h => (y2 a h).imp (x4 a) id⟩
  | true :: io, .val t :: as, _, _, _, _, _, _, _, _, e => by cases e
  | [], _ :: _, _, _, _, _, _, _, _, _, e => by cases e
  | true :: _, [], _, _, _, _, _, _, _, _, e => by cases e
  | false :: _, [], _, _, _, _, _, _, _, _, e => by cases e
variable {k : Nat} {x : Str} {p pos : Pos} {e : Expr} {es : List Expr}
theorem s_call {g : Fn} (io : List Bool) {fas : Env → R Env (List AV × Env)} (tk : Takes X W) (c : Cal X k x g) (hr : Room k X.A) (hg : Gl X x) (ha : JSA X W (e :: es) fas) (hdb : (x == ("__debug__" : Str)) = false := by decide)
    (he : starEach (e :: es) X.env = (false, eval e X.env) :: starEach es X.env := by rfl) (hpl : (backTo pos (starEach es X.env)).any (·.1) = false := by rfl) : JS X W (.Call (.Name x p) (e :: es) [] pos) (sCall g io fas) := by
  obtain ⟨f, fd, ps, F, hm, hk, hb⟩ := c.ex
  refine peM (pe_callS F hr hg hm hk hb (fun σ => passAt tk σ) ha hdb he hpl) fun σ H Q ⟨ρ, Z, A, G, q⟩ => ⟨ρ, Z, A, G, ?_⟩
  revert q
  unfold sCall
  cases fas ρ with
  | exc e x => exact fun q => q
  | bad => exact fun q => q.elim
  | ok ts =>
    obtain ⟨as, ρ1⟩ := ts
    intro q vs H1 A1 B1 G1 r d al st
    simp only [R.bind_ok] at q
    cases ht : takeA io as ρ1 with
    | none => rw [ht] at q; exact q.elim
    | some pr =>
      obtain ⟨args, ρ2⟩ := pr
      rw [ht] at q
      dsimp only at q
      obtain ⟨Ai, Ar, e1, e2, e3, e4, e5, e6, e7⟩ := takeA_ok G1.env r ht
      have G2 : Good X.K (fun x => Z x ∨ Ar x ∨ B1 x) H1 (vs.map some) args Ai := ⟨e5, fun a x y => x.elim (fun z => G1.dis a z (e2 a y)) fun z => z.elim (fun w => e4 a y w) fun w => d a w (e2 a y), fun a x => x.elim (G1.alZ a) fun z => z.elim (fun w => G1.alA a (e3 a w)) (al a), fun a x => G1.alA a (e2 a x)⟩
      refine ⟨args, _, Ai, G2, ?_⟩
      revert q
      have dz : Disj Z A1 := G1.dis
      -- the rest is kept
      have rest : ∀ {H' : Hp} {A' : Fp}, Step H1 Ai H' A' → Kp Ar Z H1 H' := fun s => s.kp (fun a x y => e4 a y x) fun a x y => dz a x (e2 a y)
      have full : ∀ {H' : Hp} {A' : Fp}, Step H1 Ai H' A' → Step H A H' (un A' Ar) := fun {H' A'} s => by
        have w : Step H1 (un Ai Ar) H' (un A' Ar) := s.wide
        have st1 : Step H A H1 (un Ai Ar) := st.mono fun a h => .inl (h.elim (e2 a) (e3 a))
        exact st1.trans w
      have give : ∀ {H' : Hp} {Z' A' B : Fp} {ss : Env}, Good X.K Z' H' (vs.map some) ss A' → Step H1 Ai H' (un A' B) → ∃ C, Good X.K Z H' σ (giveB io as ss ρ2) C ∧ Sub C (un A' Ar) := fun {H' Z' A' B ss} g s => by
        have dA : Disj A' Ar := fun a m1 m2 => (s.sub a (.inl m1)).elim (fun n => e4 a n m2) fun n => G1.alA a (e3 a m2) n
        obtain ⟨C, c1, c2⟩ := e7 H' ss Z' A' (rest s) g.env dA
        refine ⟨C, ⟨c1, fun a m1 m2 => ?_, fun a m => s.dom a (G1.alZ a m), fun a m => (c2 a m).elim (g.alA a) fun n => s.dom a (G1.alA a (e3 a n))⟩, c2⟩
        rcases c2 a m2 with n | n
        · exact (s.sub a (.inl n)).elim (fun y => dz a m1 (e2 a y)) fun y => G1.alZ a m1 y
        · exact dz a m1 (e3 a n)
      cases hg : g args with
      | bad => exact fun q => q.elim
      | exc e ss =>
        intro q cls dd H' Z' A' g' s' x
        obtain ⟨C, c1, c2⟩ := give (B := emp) g' (s'.mono fun a h => h.elim id fun z => z.elim)
        exact q cls dd H' C c1 ((full s').mono c2) x
      | ok tt =>
        obtain ⟨t, ss⟩ := tt
        intro q v H' Z' A' B g' rb db alb s'
        obtain ⟨C, c1, c2⟩ := give g' s'
        refine q v H' C B c1 rb (fun a m1 m2 => ?_) alb ((full s').mono fun a h => h.elim (fun z => (c2 a z).imp .inl id) fun z => .inl (.inr z))
        rcases c2 a m2 with n | n
        · exact db a m1 n
        · exact (s'.sub a (.inr m1)).elim (fun y => e4 a y n) fun y => G1.alA a (e3 a n) y
end
end TR
namespace TR
open PySem PySem.Spec PyProof.Rows L2
section
variable {X : Cx}
def rIxD : R2 := fun x y H Q => ∃ a v, x = .ref a ∧ DGet H a y (some v) ∧ Q v H
theorem ix_dict (hu : X.A.units + 1 < cLine) : IxR X rIxD := by
  intro value slice pins s σ H x y v u Q I rx ry h hs
  obtain ⟨a, w, rfl, g, q⟩ := h
  obtain rfl : v = Value.ref a := rx
  have hT := dict_typeIs I g
  unfold subscriptTail
  refine wpAny_bind ?_
  rw [getitemInPython_of_ne hT.not_modules]
  refine wpAny_bind (wpAny_specialOf hT PySem.F.slot_dict_getitem.lookup ?_)
  have fin : wpAny (model X.prog X.w) X.A (subscripted slice false (.ref a) u) (fun r s₃ => wpAny (model X.prog X.w) X.A (letTemporaryGo value (.ref a) r >>= fun _ => pure r) (EP X pins σ Q) X.xe s₃) X.xe s := by
    rw [hs]
    exact wpAny_operating (d_getItem hu I g ry fun w' s3 I3 rw' => wpAny_bind (wpAny_letTemporaryGo (wpAny_pure ⟨w, H, I3, rw', q⟩)))
  first
    | exact wpAny_pure (wpAny_bind fin)
    | exact wpAny_bind (wpAny_pure (wpAny_bind fin))
    | exact wpAny_bind fin
def rIxAll (K : PySem.W.Frag) : R2 := fun x y H Q => rIx K x y H Q ∨ rIxD x y H Q
theorem ix_all (hu : X.A.units + 1 < cLine) : IxR X (rIxAll X.K) := ix_seq.or (ix_dict hu)
def rSetD : V → V → V → Hp → (Hp → Prop) → Prop := fun o i v H Q => ∃ a H', o = .ref a ∧ DPut H a i v H' ∧ Q H'
theorem set_dict (hu : X.A.units + 1 < cLine) : PSet X rSetD := by
  intro pins s σ H o i v ov iv u Q I ro ri rv h
  obtain ⟨a, H', rfl, g, q⟩ := h
  obtain rfl : ov = Value.ref a := ro
  exact d_setItem hu I g ri rv fun s4 I4 => ⟨H', I4, q⟩
theorem PSet.or {t t' : TSet} (h : PSet X t) (h' : PSet X t') : PSet X (fun o i v H Q => t o i v H Q ∨ t' o i v H Q) := by
  intro pins s σ H o i v ov iv u Q I ro ri rv q
  rcases q with q | q
  · exact h pins s σ H o i v ov iv u Q I ro ri rv q
  · exact h' pins s σ H o i v ov iv u Q I ro ri rv q
def rSetAll : V → V → V → Hp → (Hp → Prop) → Prop := fun o i v H Q => rSetL o i v H Q ∨ rSetD o i v H Q
theorem set_all (hu : X.A.units + 1 < cLine) : PSet X rSetAll := PSet.or set_list (set_dict hu)
def rGetD : V → V → Hp → VK → Prop := rIxD
theorem get_dict (hu : X.A.units + 1 < cLine) : PGet X rIxD := by
  intro pins s σ H o i ov iv Q I ro ri h
  obtain ⟨a, v, rfl, g, q⟩ := h
  obtain rfl : ov = Value.ref a := ro
  exact d_getItem hu I g ri fun w' s' I' r => ⟨v, H, I', r, q⟩
theorem get_list : PGet X (rIxL X.K) := by
  intro pins s σ H o i ov iv Q I ro ri h
  obtain ⟨p, xs, k, z, rfl, rfl, hq, he, q⟩ := h
  cases ro
  obtain ⟨t, rfl⟩ := ri
  obtain ⟨its, r, pl, hz⟩ := I.list hq
  obtain ⟨j, h1, h2, h3, h4, h5⟩ := atI_get he
  obtain ⟨w, ew, rw'⟩ := r.get h2
  have hl := r.length
  have hn := line63
  have fin : EP X pins σ Q w s := ⟨z, H, I, rw', q⟩
  by_cases h0 : 0 ≤ k
  · have hj : k.toNat = j := by
      rw [seqIndex_of h0 h5] at h1
      exact Option.some.inj h1
    exact wpAny_getItem_list pl.isList h0 (by omega) (by rw [hj]; simpa using ew) fin
  · have hj : (k + (its.toArray.size : Int)).toNat = j := by
      rw [seqIndex_neg (by omega) h4] at h1
      rw [List.size_toArray, ← hl]
      exact Option.some.inj h1
    exact wpAny_getItem_list_neg pl.isList (by omega) (by rw [List.size_toArray] <;> omega) (by omega) (by rw [hj]; simpa using ew) fin
theorem PGet.or {t t' : V → V → Hp → VK → Prop} (h : PGet X t) (h' : PGet X t') : PGet X (fun o i H Q => t o i H Q ∨ t' o i H Q) := by
  intro pins s σ H o i ov iv Q I ro ri q
  rcases q with q | q
  · exact h pins s σ H o i ov iv Q I ro ri q
  · exact h' pins s σ H o i ov iv Q I ro ri q
def rGetAll (K : PySem.W.Frag) : V → V → Hp → VK → Prop := fun o i H Q => rIxL K o i H Q ∨ rIxD o i H Q
theorem get_all (hu : X.A.units + 1 < cLine) : PGet X (rGetAll X.K) := PGet.or get_list (get_dict hu)
end
end TR
namespace TR
open PySem PySem.Spec PyProof.Rows L2
def idxP : List P → P → Option Nat
  | [], _ => none
  | k :: ks, q => if k = q then some 0 else (idxP ks q).map (· + 1)
theorem idxP_some : ∀ {ks : List P} {q : P} {j : Nat}, idxP ks q = some j → ks[j]? = some q
  | [], _, _, h => by cases h
  | k :: ks, q, j, h => by
    unfold idxP at h
    by_cases e : k = q
    · rw [if_pos e] at h; cases h; simp [e]
    · rw [if_neg e] at h
      cases hi : idxP ks q with
      | none => rw [hi] at h; cases h
      | some m => rw [hi] at h; cases h; simpa using idxP_some hi
theorem idxP_lt {ks : List P} {q : P} {j : Nat} (h : idxP ks q = some j) : j < ks.length := (List.getElem?_eq_some_iff.mp (idxP_some h)).1
theorem idxP_none : ∀ {ks : List P} {q : P}, idxP ks q = none ↔ q ∉ ks
  | [], _ => by simp [idxP]
  | k :: ks, q => by
    unfold idxP
    by_cases e : k = q
    · rw [if_pos e]; simp [e]
    · rw [if_neg e, Option.map_eq_none_iff, idxP_none]
      simp [Ne.symm e]
theorem idxP_mem {ks : List P} {q : P} : (idxP ks q).isSome = true ↔ q ∈ ks := by
  cases h : idxP ks q with
  | none => simp [idxP_none.mp h]
  | some j => simp; exact List.mem_of_getElem? (idxP_some h)
def lookT (ks : List P) (ts : List T) (q : P) : Option T := (idxP ks q).bind fun j => ts[j]?
theorem keyP_inj {a b : Key} (h : keyP a = keyP b) : a = b := by
  cases a <;> cases b <;> simp [keyP] at h <;> rw [h]
theorem keyPs_inj : ∀ {a b : List Key}, a.map keyP = b.map keyP → a = b
  | [], [], _ => rfl
  | x :: a, y :: b, h => by
    have h1 := (List.cons.inj h).1
    have h2 := (List.cons.inj h).2
    rw [keyP_inj h1, keyPs_inj h2]
  | [], _ :: _, h => by cases h
  | _ :: _, [], h => by cases h
def keyOf : P → Option Key
  | .int i => some (.inl i)
  | .str x => some (.inr x)
  | _ => none
def keysOf : List P → Option (List Key)
  | [] => some []
  | p :: ps => (keyOf p).bind fun k => (keysOf ps).map fun ks => k :: ks
theorem keyOf_eq {p : P} {k : Key} (h : keyOf p = some k) : p = keyP k := by
  cases p <;> simp [keyOf] at h <;> subst h <;> rfl
theorem keysOf_eq : ∀ {ps : List P} {ks : List Key}, keysOf ps = some ks → ps = ks.map keyP
  | [], ks, h => by simp [keysOf] at h; subst h; rfl
  | p :: ps, ks, h => by
    unfold keysOf at h
    cases h1 : keyOf p with
    | none => rw [h1] at h; cases h
    | some k =>
      cases h2 : keysOf ps with
      | none => rw [h1, h2] at h; cases h
      | some ks' =>
        rw [h1, h2] at h
        cases h
        rw [keyOf_eq h1, keysOf_eq h2]; rfl
theorem keyOf_keyP (k : Key) : keyOf (keyP k) = some k := by cases k <;> rfl
def isKey (tk : Bool) (p : P) : Bool := match tk with
  | false => (keyOf p).isSome
  | true => match p with
    | .tup ps => (keysOf ps).isSome
    | _ => false
section
variable {H : Hp}
theorem repP_key {k : Key} {y : V} (h : RepP H (keyP k) y) : y = kV k := by
  cases k <;> exact h
theorem repPs_key : ∀ {ks : List Key} {ys : List V}, RepPs H (ks.map keyP) ys → ys = ks.map kV
  | [], _, h => h
  | k :: ks, _, ⟨x, r, e, h1, h2⟩ => by subst e; rw [repP_key h1, repPs_key h2]; rfl
theorem repP_keys {ks : List Key} {y : V} (h : RepP H (.tup (ks.map keyP)) y) : ∃ b, y = .ref b ∧ H b = some (.tup (ks.map kV)) := by
  obtain ⟨a, xs, e, q, r⟩ := h
  rw [repPs_key r] at q
  exact ⟨a, e, q⟩
theorem idx_valK {κ : Type} [DecidableEq κ] {f : κ → P} (hf : ∀ a b, f a = f b → a = b) (k : κ) : ∀ kv : List (κ × V), valV kv k = (idxP (kv.map fun e => f e.1) (f k)).bind fun j => (kv.map (·.2))[j]?
  | [] => rfl
  | e :: kv => by
    show valV (e :: kv) k = _
    rw [List.map_cons, List.map_cons]
    unfold idxP
    by_cases he : e.1 = k
    · rw [valV_pos he, if_pos (by rw [he])]; rfl
    · rw [valV_neg he, if_neg (fun z => he (hf _ _ z)), idx_valK hf k kv]
      cases idxP (kv.map fun e => f e.1) (f k) with
      | none => rfl
      | some j => simp
theorem putK_at {κ : Type} [DecidableEq κ] {f : κ → P} (hf : ∀ a b, f a = f b → a = b) (k : κ) (v : V) {kv : List (κ × V)} (nd : (kv.map fun e => f e.1).Nodup) {j : Nat} (h : idxP (kv.map fun e => f e.1) (f k) = some j) :
    (putK kv k v).map (fun e => f e.1) = kv.map (fun e => f e.1) ∧ (putK kv k v).map (·.2) = (kv.map (·.2)).set j v := by
  have hany : (kv.any fun e => decide (e.1 = k)) = true := by
    have := idxP_some h
    rw [List.getElem?_map] at this
    cases hk : kv[j]? with
    | none => rw [hk] at this; cases this
    | some e =>
      rw [hk] at this
      have e1 : f e.1 = f k := by simpa using this
      exact List.any_eq_true.mpr ⟨e, List.mem_of_getElem? hk, by simp [hf _ _ e1]⟩
  have hp : putK kv k v = kv.map fun e => if e.1 = k then (e.1, v) else e := by
    unfold putK
    rw [if_pos hany]
  rw [hp]
  constructor
  · rw [List.map_map]
    apply List.map_congr_left
    intro e he
    show f (if e.1 = k then (e.1, v) else e).1 = f e.1
    split <;> rfl
  · apply List.ext_getElem?
    intro i
    rw [List.getElem?_map, List.getElem?_map, List.getElem?_set]
    have hj : (kv.map fun e => f e.1)[j]? = some (f k) := idxP_some h
    have hjl : j < kv.length := by simpa using idxP_lt h
    by_cases e : j = i
    · subst e
      rw [if_pos rfl]
      rw [List.getElem?_map] at hj
      cases hk : kv[j]? with
      | none => rw [hk] at hj; cases hj
      | some e =>
        rw [hk] at hj
        have e1 : e.1 = k := hf _ _ (by simpa using hj)
        simp [e1, hjl]
    · rw [if_neg e, List.getElem?_map]
      cases hk : kv[i]? with
      | none => simp
      | some e2 =>
        have ne : e2.1 ≠ k := fun z => by
          have hi : (kv.map fun e => f e.1)[i]? = some (f k) := by rw [List.getElem?_map, hk, ← z]; rfl
          have hil : i < (kv.map fun e => f e.1).length := (List.getElem?_eq_some_iff.mp hi).1
          exact e ((List.getElem?_inj (by simpa using hjl) nd).mp (hj.trans hi.symm))
        simp [ne]
theorem putK_new' {κ : Type} [DecidableEq κ] {f : κ → P} (hf : ∀ a b, f a = f b → a = b) (k : κ) (v : V) {kv : List (κ × V)} (h : idxP (kv.map fun e => f e.1) (f k) = none) : putK kv k v = kv ++ [(k, v)] := by
  apply putK_new
  rw [idx_valK hf k kv, h]; rfl
theorem dget_ok {tk : Bool} {rd : Addr → HO → Prop} {a : Addr} {ks : List P} {xs : List V} {p : P} {y : V} (hrd : ∀ o, rd a o → Rd H a o) (d : DctAt tk rd a ks xs) (hk : isKey tk p = true) (r : RepP H p y) : DGet H a y ((idxP ks p).bind fun j => xs[j]?) := by
  obtain ⟨nd, d⟩ := d
  cases tk with
  | false =>
    obtain ⟨kv, h1, h2, h3⟩ := d
    have hk' : (keyOf p).isSome = true := hk
    cases hp : keyOf p with
    | none => rw [hp] at hk'; cases hk'
    | some k =>
      have ep := keyOf_eq hp
      subst ep
      rw [repP_key r, h2, h3, ← idx_valK (f := keyP) (fun _ _ => keyP_inj) k kv]
      exact .inl ⟨kv, k, hrd _ h1, rfl, rfl⟩
  | true =>
    obtain ⟨kv, h1, h2, h3⟩ := d
    cases p with
    | tup ps =>
      have hk' : (keysOf ps).isSome = true := hk
      cases hp : keysOf ps with
      | none => rw [hp] at hk'; cases hk'
      | some k =>
        have ep := keysOf_eq hp
        subst ep
        obtain ⟨b, e1, e2⟩ := repP_keys r
        rw [h2, h3, ← idx_valK (f := fun k => P.tup (k.map keyP)) (fun a b z => keyPs_inj (by injection z)) k kv]
        exact .inr ⟨kv, k, b, hrd _ h1, e1, e2, rfl⟩
    | _ => cases hk
theorem dput_ok {tk : Bool} {a : Addr} {ks : List P} {xs : List V} {p : P} {y v : V} (d : DctAt tk (IsA H) a ks xs) (hk : isKey tk p = true) (r : RepP H p y) (hl : ks.length < sizeLine) :
    ∃ o, DPut H a y v (upd H a o) ∧ (∃ o', H a = some o' ∧ Mut (some o')) ∧ ∀ H' : Hp, H' a = some o → match idxP ks p with
      | some j => DctAt tk (IsA H') a ks (xs.set j v)
      | none => DctAt tk (IsA H') a (ks ++ [p]) (xs ++ [v]) := by
  obtain ⟨nd, d⟩ := d
  cases tk with
  | false =>
    obtain ⟨kv, h1, h2, h3⟩ := d
    have hk' : (keyOf p).isSome = true := hk
    cases hp : keyOf p with
    | none => rw [hp] at hk'; cases hk'
    | some k =>
      have ep := keyOf_eq hp
      subst ep
      rw [repP_key r]
      refine ⟨.dK (putK kv k v), DPut.k h1 (by rw [h2] at hl; simpa using hl), ⟨_, h1, trivial⟩, fun H' e => ?_⟩
      rw [h2] at nd
      cases hi : idxP ks (keyP k) with
      | some j =>
        rw [h2] at hi
        obtain ⟨q1, q2⟩ := putK_at (f := keyP) (fun _ _ => keyP_inj) k v nd hi
        exact ⟨h2 ▸ nd, putK kv k v, e, by rw [q1, h2], by rw [q2, h3]⟩
      | none =>
        have hi2 := hi
        rw [h2] at hi
        have q := putK_new' (f := keyP) (fun _ _ => keyP_inj) k v hi
        refine ⟨List.nodup_append.mpr ⟨h2 ▸ nd, by simp, fun a ha b hb => by
          simp at hb; subst hb
          exact fun z => idxP_none.mp hi2 (z ▸ ha)⟩, putK kv k v, e, by rw [q, h2]; simp, by rw [q, h3]; simp⟩
  | true =>
    obtain ⟨kv, h1, h2, h3⟩ := d
    cases p with
    | tup ps =>
      have hk' : (keysOf ps).isSome = true := hk
      cases hp : keysOf ps with
      | none => rw [hp] at hk'; cases hk'
      | some k =>
        have ep := keysOf_eq hp
        subst ep
        obtain ⟨b, e1, e2⟩ := repP_keys r
        subst e1
        have hf : ∀ a b : List Key, P.tup (a.map keyP) = P.tup (b.map keyP) → a = b := fun a b z => keyPs_inj (by injection z)
        refine ⟨.dT (putK kv k v), DPut.t h1 e2 (by rw [h2] at hl; simpa using hl), ⟨_, h1, trivial⟩, fun H' e => ?_⟩
        rw [h2] at nd
        cases hi : idxP ks (.tup (k.map keyP)) with
        | some j =>
          rw [h2] at hi
          obtain ⟨q1, q2⟩ := putK_at (f := fun k : List Key => P.tup (k.map keyP)) hf k v nd hi
          exact ⟨h2 ▸ nd, putK kv k v, e, by rw [q1, h2], by rw [q2, h3]⟩
        | none =>
          have hi2 := hi
          rw [h2] at hi
          have q := putK_new' (f := fun k : List Key => P.tup (k.map keyP)) hf k v hi
          refine ⟨List.nodup_append.mpr ⟨h2 ▸ nd, by simp, fun a ha b hb => by
            simp at hb; subst hb
            exact fun z => idxP_none.mp hi2 (z ▸ ha)⟩, putK kv k v, e, by rw [q, h2]; simp, by rw [q, h3]; simp⟩
    | _ => cases hk
end
end TR
namespace TR
open PySem PySem.Spec PyProof.Rows L2
def kidT : T → P → Option T
  | .lst ts, .int i => atI ts i
  | .dct tk ks ts, k => if isKey tk k = true ∧ ks.length < 16777216 then lookT ks ts k else none
  | _, _ => none
def setKid : T → P → T → Option T
  | .lst ts, .int i, t => (ixN ts.length i).map fun j => .lst (ts.set j t)
  | .dct tk ks ts, k, t => if isKey tk k = true ∧ ks.length < 16777216 then (match idxP ks k with
      | some j => some (.dct tk ks (ts.set j t))
      | none => some (.dct tk (ks ++ [k]) (ts ++ [t]))) else none
  | _, _, _ => none
def lookPath : List P → T → Option T
  | [], t => some t
  | k :: ks, t => (kidT t k).bind (lookPath ks)
def updPath : List P → (T → Option T) → T → Option T
  | [], f, t => f t
  | k :: ks, f, t => (kidT t k).bind fun c => (updPath ks f c).bind fun c' => setKid t k c'
def KidV (H : Hp) (v y w : V) : Prop := (∃ p xs i, v = .ref p ∧ y = .int i ∧ H p = some (.lst xs) ∧ atI xs i = some w) ∨ ∃ a, v = .ref a ∧ DGet H a y (some w)
def WalkV (H : Hp) : V → List V → V → Prop
  | v, [], w => w = v
  | v, y :: ys, w => ∃ x, KidV H v y x ∧ WalkV H x ys w
section
variable {K : PySem.W.Frag} {H H' : Hp}
theorem KidV.ext (e : Ext H H') {v y w : V} (h : KidV H v y w) : KidV H' v y w := by
  rcases h with ⟨p, xs, i, h1, h2, h3, h4⟩ | ⟨a, h1, h2⟩
  · exact .inl ⟨p, xs, i, h1, h2, e _ _ h3, h4⟩
  · refine .inr ⟨a, h1, ?_⟩
    have rd : ∀ {o : HO}, Rd H a o → Rd H' a o := fun r => r.imp (e _ _) fun ⟨ob, z⟩ => ⟨ob, e _ _ z⟩
    rcases h2 with ⟨kvs, k, a1, a2, a3⟩ | ⟨kvs, k, b, a1, a2, a3, a4⟩
    · exact .inl ⟨kvs, k, rd a1, a2, a3⟩
    · exact .inr ⟨kvs, k, b, rd a1, a2, e _ _ a3, a4⟩
theorem WalkV.ext (e : Ext H H') : ∀ {ys : List V} {v w : V}, WalkV H v ys w → WalkV H' v ys w
  | [], _, _, h => h
  | y :: ys, _, _, ⟨x, h1, h2⟩ => ⟨x, h1.ext e, WalkV.ext e h2⟩
theorem WalkV.snoc : ∀ {ys : List V} {v w y x : V}, WalkV H v ys w → KidV H w y x → WalkV H v (ys ++ [y]) x
  | [], v, w, y, x, h, k => by
    have e : w = v := h
    subst e
    exact ⟨x, k, rfl⟩
  | _ :: ys, _, _, _, _, ⟨z, h1, h2⟩, k => ⟨z, h1, WalkV.snoc h2 k⟩
theorem DGet.det {a : Addr} {y w w' : V} (h : DGet H a y (some w)) (h' : DGet H a y (some w')) : w = w' := by
  have rdinj : ∀ {u u' : HO}, (∀ ob z, u ≠ .frz ob z) → (∀ ob z, u' ≠ .frz ob z) → Rd H a u → Rd H a u' → u = u' := fun n1 n2 r r' => by
    rcases r with r | ⟨o, r⟩ <;> rcases r' with r' | ⟨o', r'⟩
    · rw [r] at r'; exact Option.some.inj r'
    · rw [r] at r'; exact absurd (Option.some.inj r') (n1 _ _)
    · rw [r] at r'; exact absurd (Option.some.inj r').symm (n2 _ _)
    · rw [r] at r'; injection r' with r'; injection r'
  rcases h with ⟨kvs, k, a1, a2, a3⟩ | ⟨kvs, k, b, a1, a2, a3, a4⟩ <;> rcases h' with ⟨kvs', k', b1, b2, b3⟩ | ⟨kvs', k', b', b1, b2, b3, b4⟩
  · have e := rdinj (by intro _ _ z; cases z) (by intro _ _ z; cases z) a1 b1
    cases e
    rw [a2] at b2
    have ek := kV_inj b2
    subst ek
    rw [← a3] at b3
    exact (Option.some.inj b3).symm
  · cases rdinj (by intro _ _ z; cases z) (by intro _ _ z; cases z) a1 b1
  · cases rdinj (by intro _ _ z; cases z) (by intro _ _ z; cases z) a1 b1
  · have e := rdinj (by intro _ _ z; cases z) (by intro _ _ z; cases z) a1 b1
    cases e
    rw [a2] at b2
    have eb : b = b' := by injection b2
    subst eb
    rw [a3] at b3
    have e2 : k.map kV = k'.map kV := by injection b3 with b3; injection b3
    have ek := kVs_inj e2
    subst ek
    rw [← a4] at b4
    exact (Option.some.inj b4).symm
theorem Reps.at : ∀ {ts : List T} {xs : List V} {A : Fp} {j : Nat} {t : T}, Reps H ts xs A → ts[j]? = some t →
    ∃ x B C, xs[j]? = some x ∧ Rep H t x B ∧ Sub B A ∧ Sub C A ∧ Disj B C ∧ ∀ (H' : Hp) (t' : T) (x' : V) (D : Fp), Kp C emp H H' → Rep H' t' x' D → Disj D C → Reps H' (ts.set j t') (xs.set j x') (un D C)
  | t :: ts, _, A, 0, t0, ⟨x, r, B, C, e, h1, h2, s1, s2, d⟩, e0 => by
    have e' : t = t0 := by simpa using e0
    subst e' e
    exact ⟨x, B, C, rfl, h1, s1, s2, d, fun H' t' x' D k rt dd => ⟨x', r, D, C, rfl, rt, Reps.kp k _ _ h2, fun _ h => .inl h, fun _ h => .inr h, dd⟩⟩
  | t :: ts, _, A, j + 1, t0, ⟨x, r, B, C, e, h1, h2, s1, s2, d⟩, e0 => by
    subst e
    obtain ⟨y, B', C', e1, r1, sb, sc, dd, put⟩ := Reps.at (j := j) h2 (by simpa using e0)
    refine ⟨y, B', un B C', by simpa using e1, r1, fun a h => s2 a (sb a h), fun a h => h.elim (s1 a) fun z => s2 a (sc a z), fun a z1 z2 => z2.elim (fun w => d a w (sb a z1)) (dd a z1), fun H' t' x' D k rt d2 => ?_⟩
    exact ⟨x, r.set j x', B, un D C', by simp, Rep.kp (k.mono (fun _ h => .inl h) fun _ h => h) _ _ h1, put H' t' x' D (k.mono (fun _ h => .inr h) fun _ h => h) rt (fun a z1 z2 => d2 a z1 (.inr z2)), fun a h => .inr (.inl h), fun a h => h.elim .inl fun z => .inr (.inr z), fun a z1 z2 => z2.elim (fun w => d2 a w (.inl z1)) fun w => d a z1 (sc a w)⟩
  | [], _, _, _, _, _, e0 => by simp at e0
theorem set_get {α : Type} {l : List α} {i : Nat} {a : α} (h : l[i]? = some a) : l.set i a = l := set_same h
theorem dct_root {tk : Bool} {a : Addr} {ks : List P} {xs : List V} (d : DctAt tk (IsA H) a ks xs) : ∃ o, H a = some o ∧ Mut (some o) ∧ (∀ zs, o ≠ .lst zs) ∧ (∀ ob u, o ≠ .frz ob u) ∧ ∀ zs, o ≠ .tup zs := by
  obtain ⟨nd, d⟩ := d
  cases tk with
  | false =>
    obtain ⟨kv, h, _⟩ := d
    exact ⟨_, h, trivial, (by intro _ z; cases z), (by intro _ _ z; cases z), (by intro _ z; cases z)⟩
  | true =>
    obtain ⟨kv, h, _⟩ := d
    exact ⟨_, h, trivial, (by intro _ z; cases z), (by intro _ _ z; cases z), (by intro _ z; cases z)⟩
theorem kid_ok {t : T} {v : V} {A : Fp} {p : P} {y : V} {t' : T} (r : Rep H t v A) (rp : RepP H p y) (e : kidT t p = some t') : (∃ w, KidV H v y w) ∧ ∀ w, KidV H v y w →
    ∃ B C a, Rep H t' w B ∧ Sub B A ∧ Sub C A ∧ A a ∧ ¬ B a ∧ ¬ C a ∧ Disj B C ∧ (∃ o, H a = some o) ∧ ∀ (H' : Hp) (t'' : T) (D : Fp), H' a = H a → Kp C emp H H' → Rep H' t'' w D → Disj D C → ¬ D a → ∃ t2, setKid t p t'' = some t2 ∧ Rep H' t2 v (fun x => D x ∨ C x ∨ x = a) := by
  cases t with
  | pv q => cases e
  | tup ts => cases e
  | fls ts => cases e
  | lst ts =>
    cases p with
    | int i =>
      have ey : y = .int i := rp
      subst ey
      obtain ⟨a, xs, ev, ha, hA, hr⟩ := r
      subst ev
      have e' : atI ts i = some t' := e
      unfold atI at e'
      cases hj : ixN ts.length i with
      | none => rw [hj] at e'; cases e'
      | some j =>
        rw [hj] at e'
        have e2 : ts[j]? = some t' := e'
        obtain ⟨x, B, C, e1, r1, sb, sc, d, put⟩ := Reps.at hr e2
        have hl : ts.length = xs.length := (vws_len hr)
        have ex : atI xs i = some x := by
          unfold atI
          rw [← hl, hj]; exact e1
        refine ⟨⟨x, .inl ⟨a, xs, i, rfl, rfl, ha, ex⟩⟩, fun w kw => ?_⟩
        have ew : w = x := by
          rcases kw with ⟨p, zs, i', h1, h2, h3, h4⟩ | ⟨a', h1, h2⟩
          · cases h1; cases h2
            rw [ha] at h3; cases h3
            rw [ex] at h4; exact (Option.some.inj h4).symm
          · cases h1
            exfalso
            rcases h2 with ⟨kvs, k, a1, _⟩ | ⟨kvs, k, b, a1, _⟩ <;> rcases a1 with a1 | ⟨o, a1⟩ <;> · rw [ha] at a1; cases a1
        subst ew
        refine ⟨B, C, a, r1, fun b h => (sb b h).1, fun b h => (sc b h).1, hA, fun h => (sb a h).2 rfl, fun h => (sc a h).2 rfl, d, ⟨_, ha⟩, fun H' t'' D hroot k rt dd nD => ?_⟩
        refine ⟨.lst (ts.set j t''), by show (ixN ts.length i).map _ = _; rw [hj]; rfl, a, xs, rfl, by rw [hroot]; exact ha, .inr (.inr rfl), ?_⟩
        have q := put H' t'' w D k rt dd
        rw [set_get e1] at q
        exact Reps.mono (fun b h => h.elim (fun z => ⟨.inl z, fun e => nD (e ▸ z)⟩) fun z => ⟨.inr (.inl z), (sc b z).2⟩) _ _ q
    | _ => cases e
  | dct tk ks ts =>
    obtain ⟨a, xs, ev, hd, hA, hr⟩ := r
    subst ev
    have e' : (if isKey tk p = true ∧ ks.length < 16777216 then lookT ks ts p else none) = some t' := by
      cases p <;> exact e
    by_cases hk2 : isKey tk p = true ∧ ks.length < 16777216
    · have hk := hk2.1
      rw [if_pos hk2] at e'
      unfold lookT at e'
      cases hj : idxP ks p with
      | none => rw [hj] at e'; cases e'
      | some j =>
        rw [hj] at e'
        have e2 : ts[j]? = some t' := e'
        obtain ⟨x, B, C, e1, r1, sb, sc, d, put⟩ := Reps.at hr e2
        have g := dget_ok (H := H) (fun o h => Rd.of h) hd hk rp
        rw [hj] at g
        have g' : DGet H a y (some x) := by rw [← e1]; exact g
        refine ⟨⟨x, .inr ⟨a, rfl, g'⟩⟩, fun w kw => ?_⟩
        obtain ⟨o, ho, mo, n1, n2, n3⟩ := dct_root hd
        have ew : w = x := by
          rcases kw with ⟨p, zs, i', h1, h2, h3, h4⟩ | ⟨a', h1, h2⟩
          · cases h1
            rw [ho] at h3
            exact absurd (Option.some.inj h3) (n1 _)
          · cases h1
            exact DGet.det h2 g'
        subst ew
        refine ⟨B, C, a, r1, fun b h => (sb b h).1, fun b h => (sc b h).1, hA, fun h => (sb a h).2 rfl, fun h => (sc a h).2 rfl, d, ⟨o, ho⟩, fun H' t'' D hroot k rt dd nD => ?_⟩
        refine ⟨.dct tk ks (ts.set j t''), ?_, a, xs, rfl, hd.imp fun u h => ?_, .inr (.inr rfl), ?_⟩
        · have es : setKid (.dct tk ks ts) p t'' = (if isKey tk p = true ∧ ks.length < 16777216 then (match idxP ks p with
              | some j => some (.dct tk ks (ts.set j t''))
              | none => some (.dct tk (ks ++ [p]) (ts ++ [t'']))) else none) := by cases p <;> rfl
          rw [es, if_pos hk2, hj]
        · show H' a = some u
          rw [hroot]; exact h
        · have q := put H' t'' w D k rt dd
          rw [set_get e1] at q
          exact Reps.mono (fun b h => h.elim (fun z => ⟨.inl z, fun e => nD (e ▸ z)⟩) fun z => ⟨.inr (.inl z), (sc b z).2⟩) _ _ q
    · rw [if_neg hk2] at e'; cases e'
where
  vws_len {H : Hp} : ∀ {ts : List T} {xs : List V} {A : Fp}, Reps H ts xs A → ts.length = xs.length
  | [], xs, _, h => by have e : xs = [] := h; subst e; rfl
  | t :: ts, _, _, ⟨x, r, B, C, e, h1, h2, s1, s2, d⟩ => by subst e; simp [vws_len h2]
theorem place_ok : ∀ {ks : List P} {ys : List V} {t : T} {v : V} {A : Fp} {t' : T}, Rep H t v A → RepPs H ks ys → lookPath ks t = some t' → (∃ w, WalkV H v ys w) ∧ ∀ w, WalkV H v ys w →
    ∃ B C, Rep H t' w B ∧ Sub B A ∧ Sub C A ∧ Disj B C ∧ ∀ (H' : Hp) (f : T → Option T) (t'' : T) (D : Fp), Kp C emp H H' → f t' = some t'' → Rep H' t'' w D → Disj D C → ∃ t2, updPath ks f t = some t2 ∧ Rep H' t2 v (un D C)
  | [], _, t, v, A, t', r, rp, e => by
    have ey : _ = [] := rp
    subst ey
    have et : t = t' := by simpa [lookPath] using e
    subst et
    refine ⟨⟨v, rfl⟩, fun w h => ?_⟩
    have ew : w = v := h
    subst ew
    exact ⟨A, emp, r, fun _ h => h, fun _ z => z.elim, fun _ _ z => z.elim, fun H' f t'' D k hf rt d => ⟨t'', by unfold updPath; exact hf, Rep.mono (fun _ h => .inl h) _ _ rt⟩⟩
  | k :: ks, _, t, v, A, t', r, ⟨y, ys, ey, rp1, rp2⟩, e => by
    subst ey
    unfold lookPath at e
    cases hc : kidT t k with
    | none => rw [hc] at e; cases e
    | some c =>
      rw [hc] at e
      obtain ⟨⟨x0, hx0⟩, kid⟩ := kid_ok r rp1 hc
      refine ⟨?_, fun w ⟨x, hx, hw⟩ => ?_⟩
      · obtain ⟨B, C, a, r1, _⟩ := kid x0 hx0
        obtain ⟨⟨w, hw⟩, _⟩ := place_ok r1 rp2 e
        exact ⟨w, x0, hx0, hw⟩
      · obtain ⟨B1, C1, a, r1, sb1, sc1, hA, nB, nC, d1, ⟨o, ho⟩, put1⟩ := kid x hx
        obtain ⟨_, pl⟩ := place_ok r1 rp2 e
        obtain ⟨B, C2, r2, sb2, sc2, d2, put2⟩ := pl w hw
        refine ⟨B, fun z => C2 z ∨ C1 z ∨ z = a, r2, fun z h => sb1 z (sb2 z h), fun z h => h.elim (fun q => sb1 z (sc2 z q)) fun q => q.elim (sc1 z) fun q => q ▸ hA, fun z h1 h2 => h2.elim (d2 z h1) fun q => q.elim (d1 z (sb2 z h1)) fun q => nB (q ▸ sb2 z h1), fun H' f t'' D k' hf rt dd => ?_⟩
        obtain ⟨c2, e2, r3⟩ := put2 H' f t'' D (k'.mono (fun z h => .inl h) fun _ h => h) hf rt fun z h1 h2 => dd z h1 (.inl h2)
        have nDC : ¬ (un D C2) a := fun h => h.elim (fun z => dd a z (.inr (.inr rfl))) fun z => nB (sc2 a z)
        obtain ⟨t2, e3, r4⟩ := put1 H' c2 (un D C2) (by rw [ho]; exact k'.own a o (.inr (.inr rfl)) ho) (k'.mono (fun z h => .inr (.inl h)) fun _ h => h) r3 (fun z h1 h2 => h1.elim (fun q => dd z q (.inr (.inl h2))) fun q => d1 z (sc2 z q) h2) nDC
        exact ⟨t2, by unfold updPath; rw [hc]; simp only [Option.bind_some, e2]; exact e3, Rep.mono (fun z h => h.elim (fun q => q.elim .inl fun q => .inr (.inl q)) fun q => .inr (.inr q)) _ _ r4⟩
end
def FP (K : PySem.W.Frag) (mg : Str → Option Value) (W : WX) (i : Nat) (f : Env → R Unit (List P)) : TE := fun σ H Q => ∃ ρ Z A, Good K Z H σ ρ A ∧ match f ρ with
  | .ok ks => ∃ t t', ρ[i]? = some (.ow t) ∧ lookPath ks t = some t' ∧ ∀ w H' v0 ys, Ext H H' → σ[i]? = some (some v0) → RepPs H' ks ys → WalkV H' v0 ys w → Q w H'
  | .exc e _ => ∀ cls d H', Ext H H' → ExcRep mg H' e cls d → W cls d σ H'
  | .bad => False
def JP (X : Cx) (W : WX) (e : Expr) (i : Nat) (f : Env → R Unit (List P)) : Prop := PE X e (FP X.K X.mg W i f)
def pNil : Env → R Unit (List P) := fun _ => .ok []
def pSnoc (f : Env → R Unit (List P)) (g : Env → R Unit T) : Env → R Unit (List P) := fun ρ => (f ρ).bind fun ks => match g ρ with
  | .ok (.pv p) => .ok (ks ++ [p])
  | _ => .bad
section
variable {X : Cx} {W : WX} {K : PySem.W.Frag} {mg : Str → Option Value}
theorem p_name (i : Nat) {x : Str} {pos : Pos} (hN : X.N[i]? = some x := by rfl) (hv : Vis X.env.scope x := by first | exact Or.inl rfl | exact Or.inr (Or.inl rfl) | exact Or.inr (Or.inr rfl)) (hd : (x == ("__debug__" : Str)) = false := by decide)
    (hcd : (x == ("__classdict__" : Str)) = false := by decide) : JP X W (.Name x pos) i pNil := by
  refine peM (pe_var (i := i) hN hv hd hcd) fun σ H Q ⟨ρ, Z, A, G, q⟩ => ?_
  obtain ⟨t, t', h1, h2, q⟩ := q
  obtain ⟨o, B, e1, ⟨v, e2, r⟩, _⟩ := slot_of G.env h1
  exact ⟨v, by rw [e1, e2], q v H v [] (Ext.refl H) (by rw [e1, e2]) rfl rfl⟩
theorem lookPath_snoc : ∀ {ks : List P} {p : P} {t t' : T}, lookPath (ks ++ [p]) t = some t' → ∃ c, lookPath ks t = some c ∧ kidT c p = some t'
  | [], p, t, t', h => by
    have h' : (kidT t p).bind (lookPath []) = some t' := h
    cases hc : kidT t p with
    | none => rw [hc] at h'; cases h'
    | some c =>
      rw [hc] at h'
      have : c = t' := by simpa [lookPath] using h'
      subst this
      exact ⟨t, rfl, hc⟩
  | k :: ks, p, t, t', h => by
    have h' : (kidT t k).bind (lookPath (ks ++ [p])) = some t' := h
    cases hc : kidT t k with
    | none => rw [hc] at h'; cases h'
    | some c =>
      rw [hc] at h'
      obtain ⟨c', e1, e2⟩ := lookPath_snoc (ks := ks) h'
      exact ⟨c', by unfold lookPath; rw [hc]; exact e1, e2⟩
theorem repPs_snoc {H : Hp} : ∀ {ks : List P} {ys : List V} {p : P} {y : V}, RepPs H ks ys → RepP H p y → RepPs H (ks ++ [p]) (ys ++ [y])
  | [], ys, p, y, h, r => by
    have e : ys = [] := h
    subst e
    exact ⟨y, [], rfl, r, rfl⟩
  | k :: ks, _, p, y, ⟨x, r', e, h1, h2⟩, r => by
    subst e
    exact ⟨x, r' ++ [y], rfl, h1, repPs_snoc h2 r⟩
theorem p_ix {a b : Expr} {pos : Pos} {i : Nat} {f : Env → R Unit (List P)} {g : Env → R Unit T} (hu : X.A.units + 1 < cLine) (ha : JP X W a i f) (hb : JQ X W .e b g) (hs : PlainIx b := by intro _ _; rfl) : JP X W (.Subscript a b pos) i (pSnoc f g) := by
  refine peM (pe_ix (ix_all hu) ha hb hs) fun σ H Q ⟨ρ, Z, A, G, q⟩ => ⟨ρ, Z, A, G, ?_⟩
  revert q
  unfold pSnoc
  cases f ρ with
  | exc e x => exact id
  | bad => exact fun q => q.elim
  | ok ks =>
    rw [R.bind_ok]
    cases hg : g ρ with
    | bad => exact fun q => q.elim
    | exc e x => exact fun q => q.elim
    | ok t1 =>
      cases t1 with
      | pv p =>
        rintro ⟨t, t', h1, h2, q⟩
        obtain ⟨c, l1, l2⟩ := lookPath_snoc h2
        refine ⟨t, c, h1, l1, fun x H1 v0 ys e1 hv rp wk => ⟨ρ, Z, A, G.ext e1, ?_⟩⟩
        rw [hg]
        intro y H2 e2 ry
        have ry' : RepP H2 p y := ry
        have G2 := G.ext (e1.trans e2)
        obtain ⟨o, B, e3, ⟨v, e4, r⟩, _⟩ := slot_of G2.env h1
        have ev : v = v0 := by rw [e3, e4] at hv; injection hv with hv; injection hv
        subst ev
        have rp2 := RepPs.kp (e2.kp (C := emp) (Z := emp)).tk _ _ rp
        obtain ⟨B1, C1, r1, _⟩ := (place_ok r rp2 l1).2 x (wk.ext e2)
        obtain ⟨⟨w, kw⟩, _⟩ := kid_ok r1 ry' l2
        have fin : Q w H2 := q w H2 v (ys ++ [y]) (e1.trans e2) hv (repPs_snoc rp2 ry') (WalkV.snoc (wk.ext e2) kw)
        rcases kw with ⟨p', xs, i', a1, a2, a3, a4⟩ | ⟨a', a1, a2⟩
        · exact .inl (.inl ⟨p', xs, i', w, a1, a2, .of a3, a4, fin⟩)
        · exact .inr ⟨a', w, a1, a2, fin⟩
      | _ => exact fun q => q.elim
end
end TR
namespace TR
open PySem PySem.Spec PyProof.Rows L2
def MutAt (A : Fp) (H H' : Hp) : Prop := ∃ a o o', A a ∧ H a = some o' ∧ Mut (some o') ∧ H' = upd H a o
section
variable {K : PySem.W.Frag} {H H' : Hp} {A : Fp}
theorem MutAt.kp (m : MutAt A H H') {C Z : Fp} (hc : Disj C A) (hz : Disj Z A) : Kp C Z H H' := by
  obtain ⟨a, o, o', hA, e, mu, rfl⟩ := m
  have ne : ∀ b u, H b = some u → ¬ Mut (some u) → b ≠ a := fun b u h n z => by subst z; rw [e] at h; cases h; exact n mu
  exact ⟨fun b xs h => by rw [upd_ne (ne b _ h id)]; exact h, fun b o u h => by rw [upd_ne (ne b _ h id)]; exact h,
    fun b u hb h => by rw [upd_ne (fun z => hc b hb (by rw [z]; exact hA))]; exact h, fun b u hb h => by rw [upd_ne (fun z => hz b hb (by rw [z]; exact hA))]; exact h⟩
theorem MutAt.dom (m : MutAt A H H') : ∀ b, H b ≠ none → H' b ≠ none := by
  obtain ⟨a, o, o', hA, e, mu, rfl⟩ := m
  intro b h
  by_cases z : b = a
  · rw [z, upd_same]; intro c; cases c
  · rw [upd_ne z]; exact h
theorem MutAt.step (m : MutAt A H H') {A0 A' : Fp} (hA : Sub A A0) (s : Sub A' A0) : Step H A0 H' A' := by
  have dom := m.dom
  obtain ⟨a, o, o', hA', e, mu, rfl⟩ := m
  refine ⟨fun b u h n => ?_, dom, fun b h => .inl (s b h)⟩
  rw [upd_ne (fun z => by subst z; rw [e] at h; cases h; exact n (hA b hA') mu)]
  exact h
theorem MutAt.mono (m : MutAt A H H') {B : Fp} (s : Sub A B) : MutAt B H H' := by
  obtain ⟨a, o, o', hA, r⟩ := m
  exact ⟨a, o, o', s a hA, r⟩
theorem env_mut {Z : Fp} {σ : Stt} {ρ : Env} {i : Nat} {t node : T} {v0 w : V} {ks : List P} {ys : List V} (g : EnvRep K Z H σ ρ A) (e : ρ[i]? = some (.ow t)) (ev : σ[i]? = some (some v0)) (rp : RepPs H ks ys) (l : lookPath ks t = some node) (wk : WalkV H v0 ys w) :
    ∃ B C, Rep H node w B ∧ Sub B A ∧ Sub C A ∧ Disj B C ∧ ∀ (H' : Hp) (f : T → Option T) (node' : T) (D : Fp), Kp C Z H H' → f node = some node' → Rep H' node' w D → Disj D C → ∃ t2, updPath ks f t = some t2 ∧ EnvRep K Z H' σ (ρ.set i (.ow t2)) (un D C) := by
  obtain ⟨o, B0, C0, h1, ⟨v, eo, r⟩, h3, h4, h5, put⟩ := g.at e
  have evv : v = v0 := by rw [h1, eo] at ev; injection ev with ev; injection ev
  subst evv
  obtain ⟨B, C, r1, sb, sc, d, upd'⟩ := (place_ok r rp l).2 w wk
  refine ⟨B, un C C0, r1, fun a h => h3 a (sb a h), fun a h => h.elim (fun z => h3 a (sc a z)) (h4 a), fun a z1 z2 => z2.elim (d a z1) (h5 a (sb a z1)), fun H' f node' D k hf rt dd => ?_⟩
  obtain ⟨t2, e2, r2⟩ := upd' H' f node' D (k.mono (fun _ h => .inl h) fun _ z => z.elim) hf rt fun a z1 z2 => dd a z1 (.inl z2)
  have q := put H' Z (k.mono (fun _ h => .inr h) fun _ h => h) (fun _ h => h) o (.ow t2) (un D C) ⟨v, eo, r2⟩ fun a z1 z2 => z1.elim (fun z => dd a z (.inr z2)) fun z => h5 a (sc a z) z2
  rw [set_same h1] at q
  exact ⟨t2, e2, q.mono (fun _ h => h) fun a h => h.elim (fun z => z.elim .inl fun z => .inr (.inl z)) fun z => .inr (.inr z)⟩
theorem updPath_look : ∀ {ks : List P} {f : T → Option T} {t t2 : T}, updPath ks f t = some t2 → ∃ node node', lookPath ks t = some node ∧ f node = some node'
  | [], f, t, t2, h => ⟨t, t2, rfl, h⟩
  | k :: ks, f, t, t2, h => by
    unfold updPath at h
    cases hc : kidT t k with
    | none => rw [hc] at h; cases h
    | some c =>
      rw [hc] at h
      cases hu : updPath ks f c with
      | none => rw [Option.bind_some, hu] at h; cases h
      | some c' =>
        obtain ⟨n, n', h1, h2⟩ := updPath_look hu
        exact ⟨n, n', by unfold lookPath; rw [hc]; exact h1, h2⟩
theorem setKid_ok {t : T} {v : V} {p : P} {y : V} {t' t2 : T} {x : V} {D : Fp} {Q : Hp → Prop} (r : Rep H t v A) (rp : RepP H p y) (e : setKid t p t' = some t2) (rx : Rep H t' x D) (d : Disj D A)
    (h : ∀ H' A', Rep H' t2 v A' → Sub A' (un A D) → MutAt A H H' → Q H') : rSetAll v y x H Q := by
  cases t with
  | pv q => cases e
  | tup ts => cases e
  | fls ts => cases e
  | lst ts =>
    cases p with
    | int i =>
      have ey : y = .int i := rp
      subst ey
      obtain ⟨a, xs, ev, ha, hA, hr⟩ := r
      subst ev
      have e' : (ixN ts.length i).map (fun j => T.lst (ts.set j t')) = some t2 := e
      cases hj : ixN ts.length i with
      | none => rw [hj] at e'; cases e'
      | some j =>
        rw [hj] at e'
        cases e'
        have hjl : j < ts.length := (ixN_seq hj).2.1
        obtain ⟨x0, B, C, e1, r1, sb, sc, dd, put⟩ := Reps.at hr (List.getElem?_eq_getElem hjl)
        have hl : ts.length = xs.length := kid_ok.vws_len hr
        have m : MutAt A H (upd H a (.lst (xs.set j x))) := ⟨a, _, _, hA, ha, trivial, rfl⟩
        refine .inl ⟨a, xs, i, j, rfl, rfl, ha, by rw [← hl]; exact hj, h _ (fun b => b = a ∨ D b ∨ C b) ⟨a, xs.set j x, rfl, upd_same, .inl rfl, ?_⟩ (fun b z => z.elim (fun z => .inl (z ▸ hA)) fun z => z.elim .inr fun z => .inl (sc b z).1) m⟩
        have kC : Kp C emp H (upd H a (.lst (xs.set j x))) := by
          have m1 : MutAt (fun b => b = a) H (upd H a (.lst (xs.set j x))) := ⟨a, _, _, rfl, ha, trivial, rfl⟩
          exact m1.kp (fun b z1 z2 => (sc b z1).2 z2) fun _ z => z.elim
        exact Reps.mono (fun b z => ⟨z.elim (fun z => .inr (.inl z)) fun z => .inr (.inr z), fun w => z.elim (fun z => d a (w ▸ z) hA) fun z => (sc b z).2 w⟩) _ _ (put _ t' x D kC (Rep.kp (m.kp d (fun _ z => z.elim : Disj emp A)) _ _ rx) fun b z1 z2 => d b z1 (sc b z2).1)
    | _ => cases e
  | dct tk ks ts =>
    obtain ⟨a, xs, ev, hd, hA, hr⟩ := r
    subst ev
    have e' : (if isKey tk p = true ∧ ks.length < 16777216 then (match idxP ks p with
        | some j => some (T.dct tk ks (ts.set j t'))
        | none => some (T.dct tk (ks ++ [p]) (ts ++ [t']))) else none) = some t2 := by
      cases p <;> exact e
    by_cases hk2 : isKey tk p = true ∧ ks.length < 16777216
    · have hk := hk2.1
      rw [if_pos hk2] at e'
      have hlx : ts.length = xs.length := kid_ok.vws_len hr
      have hkl : ks.length = xs.length := by
        obtain ⟨_, hd'⟩ := hd
        cases tk with
        | false => obtain ⟨kv, _, h2, h3⟩ := hd'; rw [h2, h3]; simp
        | true => obtain ⟨kv, _, h2, h3⟩ := hd'; rw [h2, h3]; simp
      obtain ⟨o, dp, ⟨o', ho, mo⟩, after⟩ := dput_ok (v := x) hd hk rp (by rw [sizeLine_eq]; exact hk2.2)
      have m : MutAt A H (upd H a o) := ⟨a, o, o', hA, ho, mo, rfl⟩
      have m1 : MutAt (fun b => b = a) H (upd H a o) := ⟨a, o, o', rfl, ho, mo, rfl⟩
      have rx' : Rep (upd H a o) t' x D := Rep.kp (m.kp d (fun _ z => z.elim : Disj emp A)) _ _ rx
      have aft := after (upd H a o) upd_same
      refine .inr ⟨a, upd H a o, rfl, dp, ?_⟩
      cases hj : idxP ks p with
      | some j =>
        rw [hj] at e' aft
        cases e'
        have hjl : j < ts.length := by have := idxP_lt hj; omega
        obtain ⟨x0, B, C, e1, r1, sb, sc, dd, put⟩ := Reps.at hr (List.getElem?_eq_getElem hjl)
        have kC : Kp C emp H (upd H a o) := m1.kp (fun b z1 z2 => (sc b z1).2 z2) fun _ z => z.elim
        refine h _ (fun b => b = a ∨ D b ∨ C b) ⟨a, xs.set j x, rfl, aft, .inl rfl, ?_⟩ (fun b z => z.elim (fun z => .inl (z ▸ hA)) fun z => z.elim .inr fun z => .inl (sc b z).1) m
        exact Reps.mono (fun b z => ⟨z.elim (fun z => .inr (.inl z)) fun z => .inr (.inr z), fun w => z.elim (fun z => d a (w ▸ z) hA) fun z => (sc b z).2 w⟩) _ _ (put _ t' x D kC rx' fun b z1 z2 => d b z1 (sc b z2).1)
      | none =>
        rw [hj] at e' aft
        cases e'
        have k0 : Kp (fun b => A b ∧ b ≠ a) emp H (upd H a o) := m1.kp (fun b z1 z2 => z1.2 z2) fun _ z => z.elim
        refine h _ (un A D) ⟨a, xs ++ [x], rfl, aft, .inl hA, ?_⟩ (fun b z => z) m
        exact Reps.mono (fun b z => ⟨z.elim (fun z => .inl z.1) .inr, fun w => z.elim (fun z => z.2 w) fun z => d a (w ▸ z) hA⟩) _ _ (reps_snoc (Reps.kp k0 _ _ hr) rx' fun b z1 z2 => d b z2 z1.1)
    · rw [if_neg hk2] at e'; cases e'
end
def tSetP (i : Nat) (fp : Env → R Unit (List P)) (fk fe : Env → R Unit T) : FF := fun ρ => liftQ (fe ρ) ρ fun tv => liftQ (fp ρ) ρ fun ks => match fk ρ, ρ[i]? with
  | .ok (.pv p), some (.ow t) => (match updPath ks (fun node => setKid node p tv) t with
    | some t2 => .ok (.nx, ρ.set i (.ow t2))
    | none => .bad)
  | _, _ => .bad
def tSetPE (i : Nat) (fp : Env → R Unit (List P)) (fk : Env → R Unit T) (fe : Env → R Env (AV × Env)) : FF := fun ρ => (fe ρ).bind fun (a, ρ1) => match a with
  | .late _ => .bad
  | .val tv => liftQ (fp ρ1) ρ1 fun ks => match fk ρ1, ρ1[i]? with
    | .ok (.pv p), some (.ow t) => (match updPath ks (fun node => setKid node p tv) t with
      | some t2 => .ok (.nx, ρ1.set i (.ow t2))
      | none => .bad)
    | _, _ => .bad
def augK (g : T → T → Option T) (p : P) (tv : T) : T → Option T := fun node => (kidT node p).bind fun old => (g old tv).bind fun new => match new with
  | .pv n => setKid node p (.pv n)
  | _ => none
def tAugP (i : Nat) (g : T → T → Option T) (fp : Env → R Unit (List P)) (fk fe : Env → R Unit T) : FF := fun ρ => liftQ (fp ρ) ρ fun ks => match fk ρ, fe ρ, ρ[i]? with
  | .ok (.pv p), .ok tv, some (.ow t) => (match updPath ks (augK g p tv) t with
    | some t2 => .ok (.nx, ρ.set i (.ow t2))
    | none => .bad)
  | _, _, _ => .bad
section
variable {X : Cx} {W : WX} {kp : Nat → Bool} {K : PySem.W.Frag} {mg : Str → Option Value}
theorem store_core {Z A D : Fp} {H1 : Hp} {σ : Stt} {ρ : Env} {i : Nat} {t t2 tv : T} {ks : List P} {p : P} {fp : Env → R Unit (List P)} {fk : Env → R Unit T} {xv : V} {Q : Hp → Prop} (G : Good K Z H1 σ ρ A) (rx : Rep H1 tv xv D) (dD : Disj D A) (dZ : Disj D Z) (alD : Al H1 D)
    (hp : fp ρ = .ok ks) (hk : fk ρ = .ok (.pv p)) (hi : ρ[i]? = some (.ow t)) (hu : updPath ks (fun node => setKid node p tv) t = some t2)
    (q : ∀ H' A', Good K Z H' σ (ρ.set i (.ow t2)) A' → Step H1 (un A D) H' A' → Q H') :
    FP K mg W i fp σ H1 fun o H2 => FQ K mg W .e fk σ H2 fun y H3 => rSetAll o y xv H3 Q := by
  obtain ⟨node, node', l1, l2⟩ := updPath_look hu
  refine ⟨ρ, Z, A, G, ?_⟩
  rw [hp]
  refine ⟨t, node, hi, l1, fun w H2 v0 ys e2 hv rp wk => ⟨ρ, Z, A, G.ext e2, ?_⟩⟩
  rw [hk]
  intro y H3 e3 ry
  have ry' : RepP H3 p y := ry
  have G3 := G.ext (e2.trans e3)
  obtain ⟨B, C, r1, sb, sc, d, put⟩ := env_mut G3.env hi hv (RepPs.kp (e3.kp (C := emp) (Z := emp)).tk _ _ rp) l1 (wk.ext e3)
  have rx3 : Rep H3 tv xv D := Rep.kp ((e2.trans e3).kp (C := D) (Z := emp)) _ _ rx
  refine setKid_ok r1 ry' l2 rx3 (fun a z1 z2 => dD a z1 (sb a z2)) fun H' A' r' s' m => ?_
  have dC : Disj A' C := fun a z1 z2 => (s' a z1).elim (fun z => d a z z2) fun z => dD a z (sc a z2)
  obtain ⟨t2', e4, env⟩ := put H' (fun node => setKid node p tv) node' A' (m.kp (fun a z1 z2 => d a z2 z1) fun a z1 z2 => G3.dis a z1 (sb a z2)) l2 r' dC
  rw [hu] at e4
  cases e4
  have dom := m.dom
  have sub : Sub (un A' C) (un A D) := fun a z => z.elim (fun z => (s' a z).imp (sb a) id) fun z => .inl (sc a z)
  refine q H' (un A' C) ⟨env, fun a z1 z2 => (sub a z2).elim (G3.dis a z1) fun z => dZ a z z1, fun a z => dom a (G3.alZ a z), fun a z => dom a ((sub a z).elim (G3.alA a) fun z => (e2.trans e3).al alD a z)⟩ ?_
  exact (Step.ext0 (e2.trans e3)).trans ((m.mono sb).step (fun a z => .inl z) sub)
theorem t_setP {a b e : Expr} {pos pos' : Pos} {i : Nat} {fp : Env → R Unit (List P)} {fk fe : Env → R Unit T} (hu : X.A.units + 1 < cLine) (he : JQ X W .o e fe) (ha : JP X W a i fp) (hb : JQ X W .e b fk) (hk : kp i = false ∨ True := by exact .inr trivial)
    (hsub : ∀ v, assign (.Subscript a b pos') X.env v = (do
      let ov ← holding [v] (eval a X.env)
      let iv ← holding [v, ov] (eval b X.env)
      standAt pos'
      holding [v, ov, iv] (setItem ov iv v)
      release [v, ov, iv] []) := by intro _; rfl)
    (hs : swapsWithSole [.Subscript a b pos'] e pos.line X.env = pure false := by rfl) (hw : swappedStores [.Subscript a b pos'] e X.env = pure none := by rfl)
    (h1 : (assignEach [.Subscript a b pos'] X.env).map (·.2) = [assign (.Subscript a b pos') X.env] := by rfl) : JT X W kp (.Assign [.Subscript a b pos'] e pos) (tSetP i fp fk fe) := psM (ps_asg he (pg_sub ha hb (set_all hu) hsub) hs hw h1) fun D σ H h => by
  obtain ⟨ρ, Z, A, G, q⟩ := FT_iff.mp h
  refine ⟨ρ, Z, A, G, ?_⟩
  unfold tSetP at q
  revert q
  cases fe ρ with
  | exc e x => exact fun q cls d H' e2 x => q cls d σ H' Z A (G.ext e2) (Step.ext0 e2) Agree.refl x
  | bad => exact id
  | ok tv =>
    intro q x H1 e1 ⟨Dx, rx, fr, al⟩
    rw [liftQ_ok] at q
    cases hp : fp ρ with
    | exc e x' =>
      rw [hp] at q
      refine ⟨ρ, Z, A, G.ext e1, ?_⟩
      rw [hp]
      exact fun cls d H' e2 x => q cls d σ H' Z A (G.ext (e1.trans e2)) (Step.ext0 (e1.trans e2)) Agree.refl x
    | bad => rw [hp] at q; exact q.elim
    | ok ks =>
      rw [hp, liftQ_ok] at q
      split at q
      · rename_i p t hk hi
        split at q
        · rename_i t2 hu2
          refine store_core (G.ext e1) rx (fun a z1 z2 => G.alA a z2 (fr a z1)) (fun a z1 z2 => G.alZ a z2 (fr a z1)) al hp hk hi hu2 fun H' A' g' s' => ?_
          exact q σ H' Z A' g' ((Step.ext e1 fr).trans s') Agree.refl
        · exact q.elim
      · exact q.elim
theorem t_setPE {a b e : Expr} {pos pos' : Pos} {i : Nat} {fp : Env → R Unit (List P)} {fk : Env → R Unit T} {fe : Env → R Env (AV × Env)} (hu : X.A.units + 1 < cLine) (he : JS X W e fe) (ha : JP X W a i fp) (hb : JQ X W .e b fk)
    (hsub : ∀ v, assign (.Subscript a b pos') X.env v = (do
      let ov ← holding [v] (eval a X.env)
      let iv ← holding [v, ov] (eval b X.env)
      standAt pos'
      holding [v, ov, iv] (setItem ov iv v)
      release [v, ov, iv] []) := by intro _; rfl)
    (hs : swapsWithSole [.Subscript a b pos'] e pos.line X.env = pure false := by rfl) (hw : swappedStores [.Subscript a b pos'] e X.env = pure none := by rfl)
    (h1 : (assignEach [.Subscript a b pos'] X.env).map (·.2) = [assign (.Subscript a b pos') X.env] := by rfl) : JT X W kp (.Assign [.Subscript a b pos'] e pos) (tSetPE i fp fk fe) := psM (ps_asg he (pg_sub ha hb (set_all hu) hsub) hs hw h1) fun D σ H h => by
  obtain ⟨ρ, Z, A, G, q⟩ := FT_iff.mp h
  refine ⟨ρ, Z, A, G, ?_⟩
  unfold tSetPE at q
  revert q
  cases fe ρ with
  | exc e x => exact fun q cls d H' A' G' s' x => q cls d σ H' Z A' G' s' Agree.refl x
  | bad => exact id
  | ok av =>
    obtain ⟨av, ρ1⟩ := av
    intro q x H1 A1 Dx G1 rx dd al st
    simp only [R.bind_ok] at q
    cases av with
    | late j => exact q.elim
    | val tv =>
      dsimp only at q
      have dZ : Disj Dx Z := fun a h1 h2 => (st.sub a (.inr h1)).elim (fun z => G.dis a h2 z) fun z => G.alZ a h2 z
      cases hp : fp ρ1 with
      | exc e x' =>
        rw [hp] at q
        refine ⟨ρ1, Z, A1, G1, ?_⟩
        rw [hp]
        exact fun cls d H' e2 x => q cls d σ H' Z A1 (G1.ext e2) ((st.mono fun _ h => .inl h).trans (Step.ext0 e2)) Agree.refl x
      | bad => rw [hp] at q; exact q.elim
      | ok ks =>
        rw [hp, liftQ_ok] at q
        split at q
        · rename_i p t hk hi
          split at q
          · rename_i t2 hu2
            exact store_core G1 rx dd dZ al hp hk hi hu2 fun H' A' g' s' => q σ H' Z A' g' (st.trans s') Agree.refl
          · exact q.elim
        · exact q.elim
end
end TR
namespace TR
open PySem PySem.Spec PyProof.Rows L2
section
variable {X : Cx} {W : WX} {kp : Nat → Bool} {K : PySem.W.Frag} {mg : Str → Option Value}
theorem t_augP {a b e : Expr} {pos tpos : Pos} {op : Operator} {r : R2} {i : Nat} {g : T → T → Option T} {fp : Env → R Unit (List P)} {fk fe : Env → R Unit T} (hu : X.A.units + 1 < cLine) (ho : PIp X op r) (hr : Ok2 X.K r g) (ha : JP X W a i fp) (hb : JQ X W .e b fk) (he : JQ X W .e e fe)
    (hst : ∀ ov iv new, augStore b ov iv new = (do holding [new, ov, iv] (setItem ov iv new); release [new, ov, iv] []; pure .next) := by intros; rfl) : JT X W kp (.AugAssign (.Subscript a b tpos) op e pos) (tAugP i g fp fk fe) := psM (ps_augS ha hb (get_all hu) he ho (set_all hu) hst) fun D σ H h => by
  obtain ⟨ρ, Z, A, G, q⟩ := FT_iff.mp h
  refine ⟨ρ, Z, A, G, ?_⟩
  unfold tAugP at q
  cases hp : fp ρ with
  | exc e x =>
    rw [hp] at q
    exact fun cls d H' e2 x => q cls d σ H' Z A (G.ext e2) (Step.ext0 e2) Agree.refl x
  | bad => rw [hp] at q; exact q.elim
  | ok ks =>
    rw [hp, liftQ_ok] at q
    split at q
    · rename_i p tv t hk he2 hi
      split at q
      · rename_i t2 hu2
        obtain ⟨node, node', l1, l2⟩ := updPath_look hu2
        cases hkid : kidT node p with
        | none => unfold augK at l2; rw [hkid] at l2; cases l2
        | some old =>
          unfold augK at l2
          rw [hkid, Option.bind_some] at l2
          cases hg : g old tv with
          | none => rw [hg] at l2; cases l2
          | some new =>
            rw [hg, Option.bind_some] at l2
            cases new with
            | pv n =>
              refine ⟨t, node, hi, l1, fun w H1 v0 ys e1 hv rp wk => ⟨ρ, Z, A, G.ext e1, ?_⟩⟩
              rw [hk]
              intro y H2 e2 ry
              have ry' : RepP H2 p y := ry
              have G2 := G.ext (e1.trans e2)
              obtain ⟨B, C, r1, sb, sc, d, put⟩ := env_mut G2.env hi hv (RepPs.kp (e2.kp (C := emp) (Z := emp)).tk _ _ rp) l1 (wk.ext e2)
              obtain ⟨⟨x, hx⟩, kid⟩ := kid_ok r1 ry' hkid
              obtain ⟨Bx, Cx', ax, rx, _⟩ := kid x hx
              have fin : tOp r (fun σ H Q => Q x H) (FQ X.K X.mg W .e fe) σ H2 (fun z H4 => rSetAll w y z H4 fun H6 => D.nx σ H6) := by
                refine ⟨ρ, Z, A, G2, ?_⟩
                rw [he2]
                intro yv H3 e3 ryv
                have G3 := G2.ext e3
                refine hr H3 old tv x yv _ (Vw.kp (e3.kp (C := top)) _ _ (Rep.vw (fun _ _ => trivial) _ _ rx)) ryv hg _ fun z H4 Bz e4 rz fr al => ?_
                have rz' : RepP H4 n z := rz
                have G4 := G3.ext e4
                obtain ⟨B4, C4, r4, sb4, sc4, d4, put4⟩ := env_mut G4.env hi hv (RepPs.kp ((e2.trans (e3.trans e4)).kp (C := emp) (Z := emp)).tk _ _ rp) l1 (wk.ext (e2.trans (e3.trans e4)))
                refine setKid_ok (t' := .pv n) (D := emp) r4 (RepP.kp ((e3.trans e4).kp (C := emp) (Z := emp)).tk _ _ ry') l2 rz' (fun _ z => z.elim) fun H' A' r' s' m => ?_
                have sA : Sub A' B4 := fun a z => (s' a z).elim id fun z => z.elim
                obtain ⟨t2', e5, env⟩ := put4 H' (augK g p tv) node' A' (m.kp (fun a z1 z2 => d4 a z2 z1) fun a z1 z2 => G4.dis a z1 (sb4 a z2)) (by unfold augK; rw [hkid, Option.bind_some, hg, Option.bind_some]; exact l2) r' (fun a z1 z2 => d4 a (sA a z1) z2)
                rw [hu2] at e5
                cases e5
                have sub : Sub (un A' C4) A := fun a z => z.elim (fun z => sb4 a (sA a z)) (sc4 a)
                have dom := m.dom
                exact q σ H' Z (un A' C4) ⟨env, fun a z1 z2 => G.dis a z1 (sub a z2), fun a z => dom a (G4.alZ a z), fun a z => dom a (G4.alA a (sub a z))⟩ ((Step.ext0 (e1.trans (e2.trans (e3.trans e4)))).trans ((m.mono sb4).step (fun _ h => h) sub)) Agree.refl
              rcases hx with ⟨p', xs, i', a1, a2, a3, a4⟩ | ⟨a', a1, a2⟩
              · exact .inl ⟨p', xs, i', x, a1, a2, .of a3, a4, fin⟩
              · exact .inr ⟨a', x, a1, a2, fin⟩
            | _ => cases l2
      · exact q.elim
    · exact q.elim
def OkM (r : V → List V → Hp → VK → Prop) (mu : T → List T → Option (T × T)) : Prop :=
  ∀ H t v A args vs B t' q, Rep H t v A → Reps H args vs B → Disj B A → mu t args = some (t', q) → ∀ Q : VK, (∀ v' H' D E, Rep H' t' v D → Rep H' q v' E → Disj E D → Sub (un D E) (un A B) → MutAt A H H' → Q v' H') → r v vs H Q
def isTy : String → T → Bool
  | "list", .lst _ => true
  | "dict", .dct _ _ _ => true
  | _, _ => false
theorem isTy_cases {Ty : String} {t : T} (h : isTy Ty t = true) : (Ty = "list" ∧ ∃ ts, t = .lst ts) ∨ (Ty = "dict" ∧ ∃ tk ks ts, t = .dct tk ks ts) := by
  unfold isTy at h
  split at h
  · exact .inl ⟨rfl, _, rfl⟩
  · exact .inr ⟨rfl, _, _, _, rfl⟩
  · cases h
theorem tyV_of {H : Hp} {t : T} {v : V} {A : Fp} {Ty : String} (r : Rep H t v A) (h : isTy Ty t = true) : tyV K Ty v H := by
  rcases isTy_cases h with ⟨rfl, ts, rfl⟩ | ⟨rfl, tk, ks, ts, rfl⟩
  · obtain ⟨a, xs, e, q, _⟩ := r
    subst e
    exact .inl ⟨rfl, xs, .of q⟩
  · obtain ⟨a, xs, e, ⟨_, q⟩, _⟩ := r
    subst e
    cases tk with
    | false => obtain ⟨kv, q, _⟩ := q; exact .inr (.inr (.inl ⟨rfl, .inl ⟨kv, q⟩⟩))
    | true => obtain ⟨kv, q, _⟩ := q; exact .inr (.inr (.inl ⟨rfl, .inr ⟨kv, q⟩⟩))
def sMeth (Ty : String) (i : Nat) (mu : T → List T → Option (T × T)) (fp : Env → R Unit (List P)) (fas : Env → R Unit (List T)) : Env → R Env (AV × Env) := fun ρ => match fp ρ, ρ[i]? with
  | .ok ks, some (.ow t) => (match lookPath ks t with
    | none => .bad
    | some node => if isTy Ty node = true then (match fas ρ with
      | .bad => .bad
      | .exc e _ => .exc e ρ
      | .ok ts => match mu node ts with
        | none => .bad
        | some (node', q) => match updPath ks (fun _ => some node') t with
          | some t2 => .ok (.val q, ρ.set i (.ow t2))
          | none => .bad) else .bad)
  | _, _ => .bad
def valsOf : List AV → Option (List T)
  | [] => some []
  | .val t :: as => (valsOf as).map fun ts => t :: ts
  | .late _ :: _ => none
def sMethN (Ty : String) (i : Nat) (mu : T → List T → Option (T × T)) (fas : Env → R Env (List AV × Env)) : Env → R Env (AV × Env) := fun ρ => match ρ[i]? with
  | some (.ow t0) => if isTy Ty t0 = true then (fas ρ).bind (fun (as, ρ1) => match ρ1[i]?, valsOf as with
    | some (.ow t), some ts => (match mu t ts with
      | some (t2, q) => .ok (.val q, ρ1.set i (.ow t2))
      | none => .bad)
    | _, _ => .bad) else .bad
  | _ => .bad
theorem mut_core {r : V → List V → Hp → VK → Prop} {mu : T → List T → Option (T × T)} (hm : OkM r mu) {Z A : Fp} {H : Hp} {σ : Stt} {ρ : Env} {i : Nat} {t node node' q t2 : T} {v0 w : V} {ks : List P} {ys : List V} {ts : List T} {vs : List V} {B : Fp} {Q : VK}
    (G : Good K Z H σ ρ A) (rv : Reps H ts vs B) (dB : Disj B A) (dZ : Disj B Z) (al : Al H B) (e : ρ[i]? = some (.ow t)) (ev : σ[i]? = some (some v0)) (rp : RepPs H ks ys) (l : lookPath ks t = some node) (wk : WalkV H v0 ys w)
    (em : mu node ts = some (node', q)) (eu : updPath ks (fun _ => some node') t = some t2)
    (fin : ∀ v H' A' E, Good K Z H' σ (ρ.set i (.ow t2)) A' → Rep H' q v E → Disj E A' → Al H' E → Step H (un A B) H' (un A' E) → Q v H') : r w vs H Q := by
  obtain ⟨Bn, C, r1, sb, sc, d, put⟩ := env_mut G.env e ev rp l wk
  refine hm H node w Bn ts vs B node' q r1 rv (fun a z1 z2 => dB a z1 (sb a z2)) em Q fun v' H' D E rD rE dE sub m => ?_
  have subD : Sub D (un Bn B) := fun a z => sub a (.inl z)
  have subE : Sub E (un Bn B) := fun a z => sub a (.inr z)
  have dC : Disj D C := fun a z1 z2 => (subD a z1).elim (fun z => d a z z2) fun z => dB a z (sc a z2)
  have eC : Disj E C := fun a z1 z2 => (subE a z1).elim (fun z => d a z z2) fun z => dB a z (sc a z2)
  obtain ⟨t2', e5, env⟩ := put H' (fun _ => some node') node' D (m.kp (fun a z1 z2 => d a z2 z1) fun a z1 z2 => G.dis a z1 (sb a z2)) rfl rD dC
  rw [eu] at e5
  cases e5
  have dom := m.dom
  have alU : ∀ a, un A B a → H a ≠ none := fun a z => z.elim (G.alA a) (al a)
  have subF : Sub (un D C) (un A B) := fun a z => z.elim (fun z => (subD a z).imp (sb a) id) fun z => .inl (sc a z)
  have subE' : Sub E (un A B) := fun a z => (subE a z).imp (sb a) id
  refine fin v' H' (un D C) E ⟨env, fun a z1 z2 => (subF a z2).elim (G.dis a z1) fun z => dZ a z z1, fun a z => dom a (G.alZ a z), fun a z => dom a (alU a (subF a z))⟩ rE (fun a z1 z2 => z2.elim (dE a z1) (eC a z1)) (fun a z => dom a (alU a (subE' a z))) ?_
  exact (m.mono sb).step (fun a z => .inl z) fun a z => z.elim (subF a) (subE' a)
variable {o e : Expr} {es : List Expr} {name : Str} {apos cpos : Pos} {Ty mid : String} {r : V → List V → Hp → VK → Prop} {mu : T → List T → Option (T × T)}
theorem fs_meth (hm : OkM r mu) {i : Nat} {fp : Env → R Unit (List P)} {fas : Env → R Unit (List T)} {σ : Stt} {H : Hp} {Q : VK} (h : FS K mg W (sMeth Ty i mu fp fas) σ H Q) : tBM K Ty r (FP K mg W i fp) (FOA K mg W fas) σ H Q := by
  obtain ⟨ρ, Z, A, G, q⟩ := h
  refine ⟨ρ, Z, A, G, ?_⟩
  unfold sMeth at q
  cases hp : fp ρ with
  | bad => rw [hp] at q; exact False.elim q
  | exc e x => rw [hp] at q; exact False.elim q
  | ok ks =>
    rw [hp] at q
    cases hi : ρ[i]? with
    | none => rw [hi] at q; exact False.elim q
    | some s =>
      rw [hi] at q
      cases s with
      | no => exact False.elim q
      | vw t => exact False.elim q
      | ow t =>
        dsimp only at q
        cases l : lookPath ks t with
        | none => rw [l] at q; exact False.elim q
        | some node =>
          rw [l] at q
          dsimp only at q
          by_cases hty : isTy Ty node = true
          · rw [if_pos hty] at q
            refine ⟨t, node, rfl, l, fun w H1 v0 ys e1 hv rp wk => ?_⟩
            have G1 := G.ext e1
            obtain ⟨Bn, C, r1, sb, sc, d, put⟩ := env_mut G1.env hi hv rp l wk
            refine ⟨tyV_of r1 hty, ρ, Z, A, G1, ?_⟩
            cases hf : fas ρ with
            | bad => rw [hf] at q; exact False.elim q
            | exc e x => rw [hf] at q; exact fun cls dd H' e2 x => q cls dd H' A (G.ext (e1.trans e2)) (Step.ext0 (e1.trans e2)) x
            | ok ts =>
              rw [hf] at q
              intro vs H2 B e2 rv fr al
              dsimp only at q
              cases em : mu node ts with
              | none => rw [em] at q; exact False.elim q
              | some pr =>
                obtain ⟨node', qv⟩ := pr
                rw [em] at q
                dsimp only at q
                cases eu : updPath ks (fun _ => some node') t with
                | none => rw [eu] at q; exact False.elim q
                | some t2 =>
                  rw [eu] at q
                  refine mut_core hm (G1.ext e2) rv (fun a z1 z2 => G1.alA a z2 (fr a z1)) (fun a z1 z2 => G1.alZ a z2 (fr a z1)) al hi hv (RepPs.kp (e2.kp (C := emp) (Z := emp)).tk _ _ rp) l (wk.ext e2) em eu fun v H' A' E g rE dE alE st => ?_
                  exact q v H' A' E g rE dE alE ((Step.ext0 e1).trans ((Step.ext e2 fr).trans st))
          · rw [if_neg hty] at q; exact False.elim q
theorem valsOf_reps {σ : Stt} {H : Hp} : ∀ {as : List AV} {vs : List V} {B : Fp} {ts : List T}, AvReps σ H as vs B → valsOf as = some ts → Reps H ts vs B
  | [], _, _, ts, .nil, e => by
    have e' : [] = ts := Option.some.inj e
    subst e'; rfl
  | .val t :: as, _, _, ts, .cons h1 h2 s1 s2 d, e => by
    unfold valsOf at e
    cases q : valsOf as with
    | none => rw [q] at e; cases e
    | some ts' =>
      rw [q] at e
      have e' : t :: ts' = ts := Option.some.inj e
      subst e'
      exact ⟨_, _, _, _, rfl, h1, valsOf_reps h2 q, s1, s2, d⟩
  | .late _ :: _, _, _, _, _, e => by cases e
theorem fs_methN (hm : OkM r mu) {i : Nat} {fas : Env → R Env (List AV × Env)} {σ : Stt} {H : Hp} {Q : VK} (h : FS K mg W (sMethN Ty i mu fas) σ H Q) : tBM K Ty r (tVar i) (FSA K mg W fas) σ H Q := by
  obtain ⟨ρ, Z, A, G, q⟩ := h
  unfold sMethN at q
  cases hi0 : ρ[i]? with
  | none => rw [hi0] at q; exact False.elim q
  | some s =>
    rw [hi0] at q
    cases s with
    | no => exact False.elim q
    | vw t => exact False.elim q
    | ow t0 =>
      dsimp only at q
      by_cases hty : isTy Ty t0 = true
      · rw [if_pos hty] at q
        obtain ⟨o, B0, e1, ⟨v0, e2, r0⟩, _⟩ := slot_of G.env hi0
        have hv : σ[i]? = some (some v0) := by rw [e1, e2]
        refine ⟨v0, hv, tyV_of r0 hty, ρ, Z, A, G, ?_⟩
        revert q
        cases fas ρ with
        | exc e x => exact fun q => q
        | bad => exact fun q => False.elim q
        | ok asr =>
          obtain ⟨as, ρ1⟩ := asr
          intro q vs H1 A1 B G1 rv dB al st
          simp only [R.bind_ok] at q
          cases hi : ρ1[i]? with
          | none => rw [hi] at q; exact False.elim q
          | some s =>
            rw [hi] at q
            cases s with
            | no => exact False.elim q
            | vw t => exact False.elim q
            | ow t =>
              cases hts : valsOf as with
              | none => rw [hts] at q; exact False.elim q
              | some ts =>
                rw [hts] at q
                dsimp only at q
                cases em : mu t ts with
                | none => rw [em] at q; exact False.elim q
                | some pr =>
                  obtain ⟨t2, qv⟩ := pr
                  rw [em] at q
                  have dZ : Disj B Z := fun a h1 h2 => (st.sub a (.inr h1)).elim (fun z => G.dis a h2 z) fun z => G.alZ a h2 z
                  exact mut_core hm (ks := []) (ys := []) G1 (valsOf_reps rv hts) dB dZ al hi hv rfl rfl rfl em rfl fun v H' A' E g rE dE alE s' => q v H' A' E g rE dE alE (st.trans s')
      · rw [if_neg hty] at q; exact False.elim q
theorem s_meth {i : Nat} {fp : Env → R Unit (List P)} {fas : Env → R Unit (List T)} (pa : PlainAttrs Ty) (slot : Slot Ty name mid) (hty : typeOf (.builtin mid) = pure (.type "method_descriptor")) (hm : MtR X mid r) (om : OkM r mu) (ho : JP X W o i fp) (ha : JOA X W (e :: es) fas)
    (hbase : attributeBase o name X.env (eval o X.env) = eval o X.env := by rfl)
    (hfew : ((backTo cpos (starEach (e :: es) X.env)).all (fun x => !x.1) && (backToKw cpos (keywordEach [] X.env)).all (fun x => x.1.isSome)
      && decide ((e :: es).length + ([] : List Keyword).length + (if ([] : List Keyword).isEmpty then 0 else 1) < 30)) = true := by rfl)
    (hline : (apos.endLine == cpos.line) = true := by rfl) (hs : starEach (e :: es) X.env = (false, eval e X.env) :: starEach es X.env := by rfl) (hplain : (backTo cpos (starEach es X.env)).any (·.1) = false := by rfl) :
    JS X W (.Call (.Attribute o name apos) (e :: es) [] cpos) (sMeth Ty i mu fp fas) := peM (pe_bm pa slot hty hm ho ha hbase hfew hline hs hplain) fun _ _ _ q => fs_meth om q
theorem s_methN (i : Nat) {x : Str} {npos : Pos} {fas : Env → R Env (List AV × Env)} (pa : PlainAttrs Ty) (slot : Slot Ty name mid) (hty : typeOf (.builtin mid) = pure (.type "method_descriptor")) (hm : MtR X mid r) (om : OkM r mu) (ho : PE X (.Name x npos) (tVar i)) (ha : JSA X W (e :: es) fas)
    (hbase : attributeBase (.Name x npos) name X.env (eval (.Name x npos) X.env) = eval (.Name x npos) X.env := by rfl)
    (hfew : ((backTo cpos (starEach (e :: es) X.env)).all (fun x => !x.1) && (backToKw cpos (keywordEach [] X.env)).all (fun x => x.1.isSome)
      && decide ((e :: es).length + ([] : List Keyword).length + (if ([] : List Keyword).isEmpty then 0 else 1) < 30)) = true := by rfl)
    (hline : (apos.endLine == cpos.line) = true := by rfl) (hs : starEach (e :: es) X.env = (false, eval e X.env) :: starEach es X.env := by rfl) (hplain : (backTo cpos (starEach es X.env)).any (·.1) = false := by rfl) :
    JS X W (.Call (.Attribute (.Name x npos) name apos) (e :: es) [] cpos) (sMethN Ty i mu fas) := peM (pe_bm pa slot hty hm ho ha hbase hfew hline hs hplain) fun _ _ _ q => fs_methN om q
def aNilO : Env → R Unit (List T) := fun _ => .ok []
theorem s_meth0 {i : Nat} {fp : Env → R Unit (List P)} (pa : PlainAttrs Ty) (slot : Slot Ty name mid) (hty : typeOf (.builtin mid) = pure (.type "method_descriptor")) (hm : MtR X mid r) (om : OkM r mu) (ho : JP X W o i fp)
    (hbase : attributeBase o name X.env (eval o X.env) = eval o X.env := by rfl) (hline : (apos.endLine == cpos.line) = true := by rfl) :
    JS X W (.Call (.Attribute o name apos) [] [] cpos) (sMeth Ty i mu fp aNilO) := peM (pe_bm0 pa slot hty hm ho hbase hline) fun σ H Q q => by
  have q' : tBM X.K Ty r (FP X.K X.mg W i fp) (FOA X.K X.mg W aNilO) σ H Q := fs_meth om q
  obtain ⟨ρ, Z, A, G, q'⟩ := q'
  refine ⟨ρ, Z, A, G, ?_⟩
  revert q'
  cases fp ρ with
  | exc e x => exact id
  | bad => exact id
  | ok ks =>
    rintro ⟨t, t', h1, h2, q'⟩
    refine ⟨t, t', h1, h2, fun w H' v0 ys e1 hv rp wk => ?_⟩
    obtain ⟨ty, ρ2, Z2, A2, G2, q2⟩ := q' w H' v0 ys e1 hv rp wk
    exact ⟨ty, q2 [] H' emp (Ext.refl _) rfl (fun _ z => z.elim) (fun _ z => z.elim)⟩
end
end TR
namespace TR
open PySem PySem.Spec PyProof.Rows L2
mutual
def P.toD : P → PyData
  | .non => .none
  | .bl b => .bool b
  | .int i => .int i
  | .str x => .str x
  | .tup ps => .tuple (P.toDs ps)
def P.toDs : List P → List PyData
  | [] => []
  | p :: ps => p.toD :: P.toDs ps
end
mutual
def T.toD : T → PyData
  | .pv p => p.toD
  | .tup ts => .tuple (T.toDs ts)
  | .lst ts => .list (T.toDs ts)
  | .fls ts => .list (T.toDs ts)
  | .dct _ _ _ => .dict []
def T.toDs : List T → List PyData
  | [] => []
  | t :: ts => t.toD :: T.toDs ts
end
theorem P.toDs_map : ∀ ps : List P, P.toDs ps = ps.map P.toD
  | [] => rfl
  | p :: ps => by rw [P.toDs, P.toDs_map ps]; rfl
theorem T.toDs_map : ∀ ts : List T, T.toDs ts = ts.map T.toD
  | [] => rfl
  | t :: ts => by rw [T.toDs, T.toDs_map ts]; rfl
def okD (d : PyData) : Bool := d.plain && decide (d.depth ≤ 50)
def okDs (ds : List PyData) : Bool := PyData.plainAll ds && decide (PyData.depthAll ds ≤ 50)
theorem okD_plain {d : PyData} (h : okD d = true) : d.plain = true := by unfold okD at h; exact (Bool.and_eq_true_iff.mp h).1
theorem okD_depth {d : PyData} (h : okD d = true) : d.depth ≤ 50 := by unfold okD at h; exact of_decide_eq_true (Bool.and_eq_true_iff.mp h).2
theorem okDs_plain {d : List PyData} (h : okDs d = true) : PyData.plainAll d = true := by unfold okDs at h; exact (Bool.and_eq_true_iff.mp h).1
theorem okDs_depth {d : List PyData} (h : okDs d = true) : PyData.depthAll d ≤ 50 := by unfold okDs at h; exact of_decide_eq_true (Bool.and_eq_true_iff.mp h).2
section
variable {K : PySem.W.Frag} {H : Hp}
mutual
theorem repP_dp : ∀ (p : P) (v : V), RepP H p v → Dp K H v p.toD
  | .non, _, h => by have e := h; unfold RepP at e; subst e; exact .non
  | .bl b, _, h => by have e := h; unfold RepP at e; subst e; exact .bl b
  | .int b, _, h => by have e := h; unfold RepP at e; subst e; exact .int b
  | .str b, _, h => by have e := h; unfold RepP at e; subst e; exact .str b
  | .tup ps, _, h => by
    obtain ⟨a, xs, e, q, r⟩ := h
    subst e
    exact .tup (.inl (.inl q)) (repPs_dp ps xs r)
theorem repPs_dp : ∀ (ps : List P) (vs : List V), RepPs H ps vs → DpAll K H vs (P.toDs ps)
  | [], _, h => by have e := h; unfold RepPs at e; subst e; exact .nil
  | p :: ps, _, h => by
    obtain ⟨x, r, e, h1, h2⟩ := h
    subst e
    exact .cons (repP_dp p x h1) (repPs_dp ps r h2)
end
mutual
theorem vw_dp {Z : Fp} : ∀ (t : T) (v : V), t.toD.plain = true → Vw K Z H t v → Dp K H v t.toD
  | .pv p, v, _, h => repP_dp p v h
  | .tup ts, _, pl, h => by
    obtain ⟨a, xs, e, q, r⟩ := h
    subst e
    exact .tup (.inl (.inl q)) (vws_dp ts xs pl r)
  | .lst ts, _, pl, h => by
    obtain ⟨a, xs, e, q, r⟩ := h
    subst e
    exact .lst (.inl (.inl q.1)) (vws_dp ts xs pl r)
  | .fls ts, _, pl, h => by
    obtain ⟨a, xs, e, q, r⟩ := h
    subst e
    exact .lst q.sq (vws_dp ts xs pl r)
  | .dct _ _ _, _, pl, _ => by cases pl
theorem vws_dp {Z : Fp} : ∀ (ts : List T) (vs : List V), PyData.plainAll (T.toDs ts) = true → Vws K Z H ts vs → DpAll K H vs (T.toDs ts)
  | [], _, _, h => by have e := h; unfold Vws at e; subst e; exact .nil
  | p :: ps, _, pl, h => by
    obtain ⟨x, r, e, h1, h2⟩ := h
    subst e
    have pl' : (p.toD.plain && PyData.plainAll (T.toDs ps)) = true := pl
    exact .cons (vw_dp p x (Bool.and_eq_true_iff.mp pl').1 h1) (vws_dp ps r (Bool.and_eq_true_iff.mp pl').2 h2)
end
end
def itL : T → Option (List T)
  | .lst ts => some ts
  | .fls ts => some ts
  | _ => none
def itT : T → Option (List T)
  | .tup ts => some ts
  | .pv (.tup ps) => some (ps.map .pv)
  | _ => none
def pvs : List T → Option (List P)
  | [] => some []
  | .pv p :: ts => (pvs ts).map (p :: ·)
  | _ :: _ => none
theorem pvs_eq : ∀ {ts : List T} {ps : List P}, pvs ts = some ps → ts = ps.map .pv
  | [], ps, h => by cases h; rfl
  | t :: ts, ps, h => by
    cases t with
    | pv p =>
      unfold pvs at h
      cases h2 : pvs ts with
      | none => rw [h2] at h; cases h
      | some qs => rw [h2] at h; cases h; rw [pvs_eq h2]; rfl
    | _ => cases h
@[simp] theorem pvs_map : ∀ ps : List P, pvs (ps.map .pv) = some ps
  | [] => rfl
  | p :: ps => by show (pvs (ps.map .pv)).map _ = _; rw [pvs_map ps]; rfl
def mkT (ts : List T) : T := match pvs ts with
  | some ps => .pv (.tup ps)
  | none => .tup ts
section
variable {K : PySem.W.Frag} {Z : Fp} {H : Hp}
theorem pvs_vws : ∀ {ps : List P} {xs : List V}, RepPs H ps xs → Vws K Z H (ps.map .pv) xs
  | [], _, h => h
  | _ :: _, _, ⟨x, r, e, h1, h2⟩ => ⟨x, r, e, h1, pvs_vws h2⟩
theorem vws_pvs : ∀ {ps : List P} {xs : List V}, Vws K Z H (ps.map .pv) xs → RepPs H ps xs
  | [], _, h => h
  | _ :: _, _, ⟨x, r, e, h1, h2⟩ => ⟨x, r, e, h1, vws_pvs h2⟩
theorem reps_pvs : ∀ {ps : List P} {xs : List V} {A : Fp}, Reps H (ps.map .pv) xs A → RepPs H ps xs
  | [], _, _, h => h
  | _ :: _, _, _, ⟨x, r, _, _, e, h1, h2, _⟩ => ⟨x, r, e, h1, reps_pvs h2⟩
theorem pvs_reps {A : Fp} : ∀ {ps : List P} {xs : List V}, RepPs H ps xs → Reps H (ps.map .pv) xs A
  | [], _, h => h
  | _ :: _, _, ⟨x, r, e, h1, h2⟩ => ⟨x, r, emp, emp, e, h1, Reps.mono (fun _ z => z.elim) _ _ (pvs_reps (A := emp) h2), fun _ z => z.elim, fun _ z => z.elim, fun _ z => z.elim⟩
theorem vw_L {t : T} {v : V} {ts : List T} (r : Vw K Z H t v) (e : itL t = some ts) : ∃ a xs, v = .ref a ∧ SqL K H a xs ∧ Vws K Z H ts xs := by
  cases t with
  | lst us => cases e; obtain ⟨a, xs, e, q, r⟩ := r; exact ⟨a, xs, e, .inl (.inl q.1), r⟩
  | fls us => cases e; obtain ⟨a, xs, e, q, r⟩ := r; exact ⟨a, xs, e, q.sq, r⟩
  | _ => cases e
theorem vw_T {t : T} {v : V} {ts : List T} (r : Vw K Z H t v) (e : itT t = some ts) : ∃ a xs, v = .ref a ∧ H a = some (.tup xs) ∧ Vws K Z H ts xs := by
  cases t with
  | tup us => cases e; obtain ⟨a, xs, e, q, r⟩ := r; exact ⟨a, xs, e, q, r⟩
  | pv p =>
    cases p with
    | tup ps => cases e; obtain ⟨a, xs, e, q, r⟩ := r; exact ⟨a, xs, e, q, pvs_vws r⟩
    | _ => cases e
  | _ => cases e
theorem rep_mkT {ts : List T} {a : Addr} {xs : List V} {A : Fp} (h : H a = some (.tup xs)) (r : Reps H ts xs A) : Rep H (mkT ts) (.ref a) A := by
  unfold mkT
  cases e : pvs ts with
  | some ps =>
    have e2 := pvs_eq e
    subst e2
    exact ⟨a, xs, rfl, h, reps_pvs r⟩
  | none => exact ⟨a, xs, rfl, h, r⟩
theorem repPs_len : ∀ {ps : List P} {xs : List V}, RepPs H ps xs → xs.length = ps.length
  | [], _, h => by have e := h; unfold RepPs at e; subst e; rfl
  | _ :: _, _, ⟨x, r, e, h1, h2⟩ => by subst e; simp [repPs_len h2]
theorem repPs_at : ∀ {ps : List P} {xs : List V} {j : Nat} {p : P}, RepPs H ps xs → ps[j]? = some p → ∃ x, xs[j]? = some x ∧ RepP H p x
  | p :: ps, _, 0, q, ⟨x, r, e, h1, h2⟩, h => by cases h; subst e; exact ⟨x, rfl, h1⟩
  | p :: ps, _, j + 1, q, ⟨x, r, e, h1, h2⟩, h => by
    subst e
    obtain ⟨y, e1, e2⟩ := repPs_at (j := j) h2 (by simpa using h)
    exact ⟨y, by simpa using e1, e2⟩
  | [], _, _, _, _, h => by simp at h
theorem vws_at : ∀ {ts : List T} {xs : List V} {j : Nat} {t : T}, Vws K Z H ts xs → ts[j]? = some t → ∃ x, xs[j]? = some x ∧ Vw K Z H t x
  | p :: ps, _, 0, q, ⟨x, r, e, h1, h2⟩, h => by cases h; subst e; exact ⟨x, rfl, h1⟩
  | p :: ps, _, j + 1, q, ⟨x, r, e, h1, h2⟩, h => by
    subst e
    obtain ⟨y, e1, e2⟩ := vws_at (j := j) h2 (by simpa using h)
    exact ⟨y, by simpa using e1, e2⟩
  | [], _, _, _, _, h => by simp at h
theorem vws_drop : ∀ {ts : List T} {xs : List V} (j : Nat), Vws K Z H ts xs → Vws K Z H (ts.drop j) (xs.drop j)
  | _, _, 0, h => by simpa using h
  | [], _, j + 1, h => by have e := h; unfold Vws at e; subst e; simp; rfl
  | p :: ps, _, j + 1, ⟨x, r, e, h1, h2⟩ => by subst e; simpa using vws_drop j h2
theorem vws_take : ∀ {ts : List T} {xs : List V} (j : Nat), Vws K Z H ts xs → Vws K Z H (ts.take j) (xs.take j)
  | _, _, 0, h => by simp; rfl
  | [], _, j + 1, h => by have e := h; unfold Vws at e; subst e; simp; rfl
  | p :: ps, _, j + 1, ⟨x, r, e, h1, h2⟩ => by subst e; exact ⟨x, r.take j, by simp, h1, vws_take j h2⟩
theorem vws_append : ∀ {ts us : List T} {xs ys : List V}, Vws K Z H ts xs → Vws K Z H us ys → Vws K Z H (ts ++ us) (xs ++ ys)
  | [], _, _, _, h, h' => by have e := h; unfold Vws at e; subst e; exact h'
  | p :: ps, _, _, _, ⟨x, r, e, h1, h2⟩, h' => by subst e; exact ⟨x, r ++ _, rfl, h1, vws_append h2 h'⟩
end
def gEq (t u : T) : Option T := if (okD t.toD && okD u.toD) = true then some (.pv (.bl (PyData.eqv t.toD u.toD))) else none
def gNe (t u : T) : Option T := if (okD t.toD && okD u.toD) = true then some (.pv (.bl (!PyData.eqv t.toD u.toD))) else none
def rDp (K : PySem.W.Frag) (f : PyData → PyData → Bool) : R2 := fun x y H Q => ∃ d e, Dp K H x d ∧ Dp K H y e ∧ okD d = true ∧ okD e = true ∧ Q (.bl (f d e)) H
section
variable {X : Cx}
theorem o_eq (hu : X.A.units + 100 < cLine) : OpR X (compareOp .Eq) (rDp X.K PyData.eqv) := by
  intro pins s σ H x y v u Q I rx ry h
  obtain ⟨d, e, hd, he, sd, se, q⟩ := h
  obtain ⟨as, r1⟩ := Dp.reads I d x v hd rx
  obtain ⟨bs, r2⟩ := Dp.reads I e y u he ry
  have h1 := okD_depth sd
  exact SeqAt.eq_plain r1 r2 (okD_plain sd) (okD_plain se) (by have := Nat.min_le_left d.depth e.depth; omega) ⟨.bl _, H, I, rfl, q⟩
theorem o_ne (hu : X.A.units + 100 < cLine) : OpR X (compareOp .NotEq) (rDp X.K fun d e => !PyData.eqv d e) := by
  intro pins s σ H x y v u Q I rx ry h
  obtain ⟨d, e, hd, he, sd, se, q⟩ := h
  obtain ⟨as, r1⟩ := Dp.reads I d x v hd rx
  obtain ⟨bs, r2⟩ := Dp.reads I e y u he ry
  have h1 := okD_depth sd
  exact SeqAt.ne_plain r1 r2 (okD_plain sd) (okD_plain se) (by have := Nat.min_le_left d.depth e.depth; omega) ⟨.bl _, H, I, rfl, q⟩
end
section
variable {K : PySem.W.Frag}
theorem pure_ok {f : PyData → PyData → Bool} {g : T → T → Option T} (hg : ∀ t u q, g t u = some q → okD t.toD = true ∧ okD u.toD = true ∧ q = .pv (.bl (f t.toD u.toD))) : Ok2 K (rDp K f) g := by
  intro H t u v w q h1 h2 e Q n
  obtain ⟨a, b, rfl⟩ := hg t u q e
  exact ⟨_, _, vw_dp t v (okD_plain a) h1, vw_dp u w (okD_plain b) h2, a, b, n.pure (by rfl)⟩
theorem k_eq : Ok2 K (rDp K PyData.eqv) gEq := pure_ok fun t u q e => by
  unfold gEq at e
  split at e
  · rename_i h
    have h := Bool.and_eq_true_iff.mp h
    exact ⟨h.1, h.2, (Option.some.inj e).symm⟩
  · cases e
theorem k_ne : Ok2 K (rDp K fun d e => !PyData.eqv d e) gNe := pure_ok fun t u q e => by
  unfold gNe at e
  split at e
  · rename_i h
    have h := Bool.and_eq_true_iff.mp h
    exact ⟨h.1, h.2, (Option.some.inj e).symm⟩
  · cases e
end
def rLt (K : PySem.W.Frag) (f : PyData → PyData → Bool) : R2 := fun x y H Q => ∃ d e, Dp K H x d ∧ Dp K H y e ∧ okD d = true ∧ PySem.W.alike d e = true ∧ d ≠ .none ∧ Q (.bl (f d e)) H
def nonD : PyData → Bool
  | .none => true
  | _ => false
def gOrd (f : PyData → PyData → Bool) (t u : T) : Option T := if (okD t.toD && okD u.toD && PySem.W.alike t.toD u.toD && !nonD t.toD) = true then some (.pv (.bl (f t.toD u.toD))) else none
def gLt := gOrd PySem.W.dataLt
def gGt := gOrd fun d e => PySem.W.dataLt e d
def gLe := gOrd fun d e => !PySem.W.dataLt e d
def gGe := gOrd fun d e => !PySem.W.dataLt d e
section
variable {X : Cx} {K : PySem.W.Frag}
theorem o_lt (hu : X.A.units + 100 < cLine) : OpR X (compareOp .Lt) (rLt X.K PySem.W.dataLt) := by
  intro pins s σ H x y v u Q I rx ry h
  obtain ⟨d, e, hd, he, sd, al, nn, q⟩ := h
  obtain ⟨as, r1⟩ := Dp.reads I d x v hd rx
  obtain ⟨bs, r2⟩ := Dp.reads I e y u he ry
  have h1 := okD_depth sd
  exact PySem.W.lt_data r1 r2 al nn (by have := Nat.min_le_left d.depth e.depth; omega) ⟨.bl _, H, I, rfl, q⟩
theorem o_gt (hu : X.A.units + 100 < cLine) : OpR X (compareOp .Gt) (rLt X.K fun d e => PySem.W.dataLt e d) := by
  intro pins s σ H x y v u Q I rx ry h
  obtain ⟨d, e, hd, he, sd, al, nn, q⟩ := h
  obtain ⟨as, r1⟩ := Dp.reads I d x v hd rx
  obtain ⟨bs, r2⟩ := Dp.reads I e y u he ry
  have h1 := okD_depth sd
  exact PySem.W.gt_data r1 r2 al nn (by have := Nat.min_le_left d.depth e.depth; omega) ⟨.bl _, H, I, rfl, q⟩
theorem o_le (hu : X.A.units + 100 < cLine) : OpR X (compareOp .LtE) (rLt X.K fun d e => !PySem.W.dataLt e d) := by
  intro pins s σ H x y v u Q I rx ry h
  obtain ⟨d, e, hd, he, sd, al, nn, q⟩ := h
  obtain ⟨as, r1⟩ := Dp.reads I d x v hd rx
  obtain ⟨bs, r2⟩ := Dp.reads I e y u he ry
  have h1 := okD_depth sd
  exact PySem.W.le_data r1 r2 al nn (by have := Nat.min_le_left d.depth e.depth; omega) ⟨.bl _, H, I, rfl, q⟩
theorem o_ge (hu : X.A.units + 100 < cLine) : OpR X (compareOp .GtE) (rLt X.K fun d e => !PySem.W.dataLt d e) := by
  intro pins s σ H x y v u Q I rx ry h
  obtain ⟨d, e, hd, he, sd, al, nn, q⟩ := h
  obtain ⟨as, r1⟩ := Dp.reads I d x v hd rx
  obtain ⟨bs, r2⟩ := Dp.reads I e y u he ry
  have h1 := okD_depth sd
  exact PySem.W.ge_data r1 r2 al nn (by have := Nat.min_le_left d.depth e.depth; omega) ⟨.bl _, H, I, rfl, q⟩
theorem k_ord {f : PyData → PyData → Bool} : Ok2 K (rLt K f) (gOrd f) := by
  intro H t u v w q h1 h2 e Q n
  unfold gOrd at e
  split at e
  · rename_i h
    rw [Bool.and_eq_true_iff, Bool.and_eq_true_iff, Bool.and_eq_true_iff] at h
    obtain ⟨⟨⟨a, b⟩, c⟩, d⟩ := h
    cases e
    exact ⟨_, _, vw_dp t v (okD_plain a) h1, vw_dp u w (okD_plain b) h2, a, c, (fun z => by rw [z] at d; cases d), n.pure (by rfl)⟩
  · cases e
end
def gIn0 (b : Bool) (t u : T) : Option T := match itL u with
  | some us => if (okD t.toD && okDs (T.toDs us)) = true then some (.pv (.bl (b ^^ (T.toDs us).any fun y => PyData.eqv y t.toD))) else none
  | none => match itT u with
    | some us => if (okD t.toD && okDs (T.toDs us)) = true then some (.pv (.bl (b ^^ (T.toDs us).any fun y => PyData.eqv y t.toD))) else none
    | none => match u, t with
      | .dct tk ks ts, .pv p => if isKey tk p = true then some (.pv (.bl (b ^^ (idxP ks p).isSome))) else none
      | _, _ => none
def gIn := gIn0 false
def gNotIn := gIn0 true
def rIn0 (K : PySem.W.Frag) (b : Bool) : R2 := fun x y H Q => (∃ d ds a xs, y = .ref a ∧ (SqL K H a xs ∨ SqT K H a xs) ∧ DpAll K H xs ds ∧ Dp K H x d ∧ okD d = true ∧ okDs ds = true ∧ Q (.bl (b ^^ ds.any fun z => PyData.eqv z d)) H) ∨
  ∃ a o, y = .ref a ∧ DGet H a x o ∧ Q (.bl (b ^^ o.isSome)) H
theorem bxt (c : Bool) : (true ^^ c) = !c := by cases c <;> rfl
theorem bxf (c : Bool) : (false ^^ c) = c := by cases c <;> rfl
section
variable {X : Cx} {K : PySem.W.Frag}
theorem o_in (hu : X.A.units + 100 < cLine) : OpR X (compareOp .In) (rIn0 X.K false) := by
  intro pins s σ H x y v u Q I rx ry h
  rcases h with ⟨d, ds, a, xs, rfl, hs, ha, hd, sd, se, q⟩ | ⟨a, o, rfl, g, q⟩
  · rw [bxf] at q
    have h1 := okD_depth sd
    have hm : min (PyData.depthAll ds) d.depth ≤ 50 := Nat.le_trans (Nat.min_le_right _ _) h1
    obtain ⟨as, r1⟩ := Dp.reads I d x v hd rx
    rcases hs with hs | hs
    · obtain ⟨bs, r2⟩ := Dp.reads I (.list ds) (.ref a) u (.lst hs ha) ry
      exact SeqAt.in_list_data r2 r1 (okDs_plain se) (okD_plain sd) (by omega) ⟨.bl _, H, I, rfl, q⟩
    · obtain ⟨bs, r2⟩ := Dp.reads I (.tuple ds) (.ref a) u (.tup hs ha) ry
      exact SeqAt.in_tuple_data r2 r1 (okDs_plain se) (okD_plain sd) (by omega) ⟨.bl _, H, I, rfl, q⟩
  · rw [bxf] at q
    cases ry
    exact d_in (by omega) I g rx fun s' I' => ⟨.bl _, H, I', rfl, q⟩
theorem o_notIn (hu : X.A.units + 100 < cLine) : OpR X (compareOp .NotIn) (rIn0 X.K true) := by
  intro pins s σ H x y v u Q I rx ry h
  rcases h with ⟨d, ds, a, xs, rfl, hs, ha, hd, sd, se, q⟩ | ⟨a, o, rfl, g, q⟩
  · rw [bxt] at q
    have h1 := okD_depth sd
    have hm : min (PyData.depthAll ds) d.depth ≤ 50 := Nat.le_trans (Nat.min_le_right _ _) h1
    obtain ⟨as, r1⟩ := Dp.reads I d x v hd rx
    rcases hs with hs | hs
    · obtain ⟨bs, r2⟩ := Dp.reads I (.list ds) (.ref a) u (.lst hs ha) ry
      exact SeqAt.notIn_list_data r2 r1 (okDs_plain se) (okD_plain sd) (by omega) ⟨.bl _, H, I, rfl, q⟩
    · obtain ⟨bs, r2⟩ := Dp.reads I (.tuple ds) (.ref a) u (.tup hs ha) ry
      exact SeqAt.notIn_tuple_data r2 r1 (okDs_plain se) (okD_plain sd) (by omega) ⟨.bl _, H, I, rfl, q⟩
  · rw [bxt] at q
    cases ry
    exact d_notIn (by omega) I g rx fun s' I' => ⟨.bl _, H, I', rfl, q⟩
theorem k_in0 {b : Bool} : Ok2 K (rIn0 K b) (gIn0 b) := by
  intro H t u v w q h1 h2 e Q n
  unfold gIn0 at e
  cases hl : itL u with
  | some us =>
    rw [hl] at e
    dsimp only at e
    split at e
    · rename_i h
      obtain ⟨a, c⟩ := Bool.and_eq_true_iff.mp h
      cases e
      obtain ⟨p, xs, rfl, hr, hv⟩ := vw_L h2 hl
      exact .inl ⟨_, _, p, xs, rfl, .inl hr, vws_dp us xs (okDs_plain c) hv, vw_dp t v (okD_plain a) h1, a, c, n.pure (by rfl)⟩
    · cases e
  | none =>
    rw [hl] at e
    dsimp only at e
    cases ht : itT u with
    | some us =>
      rw [ht] at e
      dsimp only at e
      split at e
      · rename_i h
        obtain ⟨a, c⟩ := Bool.and_eq_true_iff.mp h
        cases e
        obtain ⟨p, xs, rfl, hr, hv⟩ := vw_T h2 ht
        exact .inl ⟨_, _, p, xs, rfl, .inr (.inl (.inl hr)), vws_dp us xs (okDs_plain c) hv, vw_dp t v (okD_plain a) h1, a, c, n.pure (by rfl)⟩
      · cases e
    | none =>
      rw [ht] at e
      dsimp only at e
      split at e
      · rename_i tk ks ts p
        split at e
        · rename_i hk
          cases e
          obtain ⟨a, xs, rfl, hd, hv⟩ := h2
          have g := dget_ok (H := H) (y := v) (p := p) (fun o r => r.elim (fun z => .inl z.1) fun ⟨ob, z⟩ => .inr ⟨ob, z⟩) hd hk h1
          refine .inr ⟨a, _, rfl, g, n.pure ?_⟩
          have hl2 : xs.length = ts.length := (Vws.len hv).symm
          have hlen : ks.length = xs.length := by
            obtain ⟨_, hd⟩ := hd
            cases tk with
            | false => obtain ⟨kv, _, e1, e2⟩ := hd; rw [e1, e2]; simp
            | true => obtain ⟨kv, _, e1, e2⟩ := hd; rw [e1, e2]; simp
          show _ = _
          congr 2
          cases hi : idxP ks p with
          | none => rfl
          | some j =>
            have := idxP_lt hi
            simp [show j < xs.length by omega]
        · cases e
      · cases e
end
end TR
namespace TR
open PySem PySem.Spec PyProof.Rows L2
def gI (f : Int → Int → Int) (c : Int → Int → Bool) (t u : T) : Option T := match t, u with
  | .pv (.int i), .pv (.int j) => if c i j = true then some (.pv (.int (f i j))) else none
  | _, _ => none
theorem k_I {K : PySem.W.Frag} {C : Int → Int → Prop} {f : Int → Int → Int} {c : Int → Int → Bool} (h : ∀ i j, c i j = true → C i j) : Ok2 K (rI C fun i j => .int (f i j)) (gI f c) := by
  intro H t u v w q h1 h2 e Q n
  unfold gI at e
  split at e
  · rename_i i j
    split at e
    · rename_i hc
      cases e
      exact ⟨i, j, h1, h2, h _ _ hc, n.pure (by rfl)⟩
    · cases e
  · cases e
theorem k_I0 {K : PySem.W.Frag} {f : Int → Int → Int} : Ok2 K (rI0 fun i j => .int (f i j)) (gI f fun _ _ => true) := by
  intro H t u v w q h1 h2 e Q n
  unfold gI at e
  split at e
  · rename_i i j
    cases e
    exact ⟨i, j, h1, h2, n.pure (by rfl)⟩
  · cases e
abbrev yes2 : Int → Int → Bool := fun _ _ => true
def gSub := gI (fun i j => i - j) yes2
def gBand := gI (fun i j => Builtin.bitAnd i j) yes2
def gBor := gI (fun i j => Builtin.bitOr i j) yes2
def gBxor := gI (fun i j => Builtin.bitXor i j) yes2
def cDiv (i j : Int) : Bool := decide (0 < j) && decide (j.natAbs.log2 < 9000)
def gDiv := gI (fun i j => i / j) cDiv
def gMod := gI (fun i j => i % j) fun _ j => decide (0 < j)
def cPow (i j : Int) : Bool := decide (0 ≤ j) && decide (j ≤ 1000000) && decide (i.natAbs < 2 ^ 64)
def gPow := gI (fun i j => i ^ j.toNat) cPow
def gShl := gI (fun i j => i * 2 ^ j.toNat) cPow
def gShr := gI (fun i j => i / 2 ^ j.toNat) fun _ j => decide (0 ≤ j)
def cMul (i j : Int) : Bool := decide (-(2 ^ 64) < i ∧ i < 2 ^ 64) || decide (-(2 ^ 64) < j ∧ j < 2 ^ 64) || decide (i.natAbs.log2 + j.natAbs.log2 < 1000000)
section
variable {X : Cx} {K : PySem.W.Frag}
theorem k_sub : Ok2 K (rI0 fun i j => .int (i - j)) gSub := k_I0
theorem k_band : Ok2 K (rI0 fun i j => .int (Builtin.bitAnd i j)) gBand := k_I0
theorem k_bor : Ok2 K (rI0 fun i j => .int (Builtin.bitOr i j)) gBor := k_I0
theorem k_bxor : Ok2 K (rI0 fun i j => .int (Builtin.bitXor i j)) gBxor := k_I0
theorem k_div : Ok2 K (rI CDivW fun i j => .int (i / j)) gDiv := k_I fun i j h => by
  unfold cDiv at h
  rw [Bool.and_eq_true_iff] at h
  exact ⟨of_decide_eq_true h.1, of_decide_eq_true h.2⟩
theorem k_mod : Ok2 K (rI (fun _ j => 0 < j) fun i j => .int (i % j)) gMod := k_I fun i j h => of_decide_eq_true h
theorem cPow_ok {i j : Int} (h : cPow i j = true) : CPow i j := by
  unfold cPow at h
  rw [Bool.and_eq_true_iff, Bool.and_eq_true_iff] at h
  exact ⟨of_decide_eq_true h.1.1, of_decide_eq_true h.1.2, of_decide_eq_true h.2⟩
theorem k_pow : Ok2 K (rI CPow fun i j => .int (i ^ j.toNat)) gPow := k_I fun i j h => cPow_ok h
theorem k_shl : Ok2 K (rI CPow fun i j => .int (i * 2 ^ j.toNat)) gShl := k_I fun i j h => cPow_ok h
theorem k_shr : Ok2 K (rI (fun _ j => 0 ≤ j) fun i j => .int (i / 2 ^ j.toNat)) gShr := k_I fun i j h => of_decide_eq_true h
def gMul (t u : T) : Option T := match t, u with
  | .pv (.int i), .pv (.int j) => if cMul i j = true then some (.pv (.int (i * j))) else none
  | .lst ts, .pv (.int k) => (pvs ts).bind fun ps => if -(2 ^ 63) ≤ k ∧ k < 2 ^ 63 ∧ ps.length * k.toNat ≤ 16777216 then some (.lst ((List.replicate k.toNat ps).flatten.map .pv)) else none
  | _, _ => none
def rMul (K : PySem.W.Frag) : R2 := fun x y H Q => (rI CMul (fun i j => .int (i * j)) x y H Q ∨ rI CMulW (fun i j => .int (i * j)) x y H Q) ∨ rRep x y H Q
theorem o_mul : OpR X (binaryOp .Mult) (rMul X.K) := (op_mul.or op_mulW).or op_rep
theorem repPs_append {H : Hp} : ∀ {ps qs : List P} {xs ys : List V}, RepPs H ps xs → RepPs H qs ys → RepPs H (ps ++ qs) (xs ++ ys)
  | [], _, _, _, h, h' => by have e := h; unfold RepPs at e; subst e; exact h'
  | p :: ps, _, _, _, ⟨x, r, e, h1, h2⟩, h' => by subst e; exact ⟨x, r ++ _, rfl, h1, repPs_append h2 h'⟩
theorem repPs_rep {H : Hp} {ps : List P} {xs : List V} (h : RepPs H ps xs) : ∀ n : Nat, RepPs H (List.replicate n ps).flatten (List.replicate n xs).flatten
  | 0 => rfl
  | n + 1 => by rw [List.replicate_succ, List.replicate_succ, List.flatten_cons, List.flatten_cons]; exact repPs_append h (repPs_rep h n)
theorem RepPs.ext {H H' : Hp} (e : Ext H H') {ps : List P} {xs : List V} (h : RepPs H ps xs) : RepPs H' ps xs := RepPs.kp (fun b _ q => e b _ q) _ _ h
theorem k_mul : Ok2 K (rMul K) gMul := by
  intro H t u v w q h1 h2 e Q n
  unfold gMul at e
  split at e
  · rename_i i j
    split at e
    · rename_i hc
      cases e
      unfold cMul at hc
      rw [Bool.or_eq_true, Bool.or_eq_true] at hc
      have fin : Q (.int (i * j)) H := n.pure (by rfl)
      rcases hc with (hc | hc) | hc
      · exact .inl (.inl ⟨i, j, h1, h2, .inl (of_decide_eq_true hc), fin⟩)
      · exact .inl (.inl ⟨i, j, h1, h2, .inr (of_decide_eq_true hc), fin⟩)
      · exact .inl (.inr ⟨i, j, h1, h2, (of_decide_eq_true hc : i.natAbs.log2 + j.natAbs.log2 < 1000000), fin⟩)
    · cases e
  · rename_i ts k
    cases hp : pvs ts with
    | none => rw [hp] at e; cases e
    | some ps =>
      rw [hp] at e
      have e : (if -(2 ^ 63) ≤ k ∧ k < 2 ^ 63 ∧ ps.length * k.toNat ≤ 16777216 then some (T.lst ((List.replicate k.toNat ps).flatten.map .pv)) else none) = some q := e
      split at e
      · rename_i hc
        cases e
        have hts := pvs_eq hp
        subst hts
        obtain ⟨a, xs, rfl, hq, hv⟩ := h1
        have hv' := vws_pvs hv
        have hl : xs.length = ps.length := repPs_len hv'
        refine .inr ⟨a, k, xs, rfl, h2, hq.1, hc.1, hc.2.1, by rw [hl, sizeLine_eq]; exact hc.2.2, fun p hp0 => n.lst hp0 ?_⟩
        exact pvs_reps ((repPs_rep hv' _).ext (Ext.new hp0))
      · cases e
  · cases e
def gAdd (t u : T) : Option T := match t, u with
  | .pv (.int i), .pv (.int j) => some (.pv (.int (i + j)))
  | .pv (.str x), .pv (.str y) => if x.length + y.length ≤ 16777216 then some (.pv (.str (x ++ y))) else none
  | .pv (.tup ps), .pv (.tup qs) => if ps.length + qs.length ≤ 16777216 then some (.pv (.tup (ps ++ qs))) else none
  | .lst ts, .lst us => (pvs ts).bind fun ps => (pvs us).bind fun qs => if ps.length + qs.length ≤ 16777216 then some (.lst ((ps ++ qs).map .pv)) else none
  | _, _ => none
def rAdd (K : PySem.W.Frag) : R2 := fun x y H Q => ((rI0 (fun i j => .int (i + j)) x y H Q ∨ ∃ i j, x = .str i ∧ y = .str j ∧ i.length + j.length ≤ sizeLine ∧ Q (.str (i ++ j)) H) ∨ rCatA K x y H Q) ∨ rCat x y H Q
theorem o_add : OpR X (binaryOp .Add) (rAdd X.K) := ((op_add.or op_add_str).or op_catA).or op_cat
theorem k_add : Ok2 K (rAdd K) gAdd := by
  intro H t u v w q h1 h2 e Q n
  unfold gAdd at e
  split at e
  · rename_i i j
    cases e
    exact .inl (.inl (.inl ⟨i, j, h1, h2, n.pure (by rfl)⟩))
  · rename_i i j
    split at e
    · rename_i hc
      cases e
      exact .inl (.inl (.inr ⟨i, j, h1, h2, by rw [sizeLine_eq]; exact hc, n.pure (by rfl)⟩))
    · cases e
  · rename_i ps qs
    split at e
    · rename_i hc
      cases e
      obtain ⟨a, xs, rfl, hq, hv⟩ := h1
      obtain ⟨b, ys, rfl, hq2, hv2⟩ := h2
      have l1 : xs.length = ps.length := repPs_len hv
      have l2 : ys.length = qs.length := repPs_len hv2
      refine .inl (.inr ⟨a, b, xs, ys, rfl, rfl, .inl (.inl hq), .inl (.inl hq2), by rw [l1, l2, sizeLine_eq]; exact hc, fun e0 => ?_, fun _ e0 => ?_, fun _ _ p hp0 => n.tup hp0 ((repPs_append hv hv2).ext (Ext.new hp0))⟩)
      · have : ps = [] := by cases ps with
          | nil => rfl
          | cons p ps => rw [e0] at l1; cases l1
        subst this
        exact n.pure ⟨b, ys, rfl, hq2, hv2⟩
      · have : qs = [] := by cases qs with
          | nil => rfl
          | cons p ps => rw [e0] at l2; cases l2
        subst this
        rw [List.append_nil] at n
        exact n.pure ⟨a, xs, rfl, hq, hv⟩
    · cases e
  · rename_i ts us
    cases hp : pvs ts with
    | none => rw [hp] at e; cases e
    | some ps =>
      cases hp2 : pvs us with
      | none => rw [hp, hp2] at e; cases e
      | some qs =>
        rw [hp, hp2] at e
        have e : (if ps.length + qs.length ≤ 16777216 then some (T.lst ((ps ++ qs).map .pv)) else none) = some q := e
        split at e
        · rename_i hc
          cases e
          have hts := pvs_eq hp
          subst hts
          have hts := pvs_eq hp2
          subst hts
          obtain ⟨a, xs, rfl, hq, hv⟩ := h1
          obtain ⟨b, ys, rfl, hq2, hv2⟩ := h2
          have hv' := vws_pvs hv
          have hv2' := vws_pvs hv2
          have l1 : xs.length = ps.length := repPs_len hv'
          have l2 : ys.length = qs.length := repPs_len hv2'
          exact .inr ⟨a, b, xs, ys, rfl, rfl, hq.1, hq2.1, by rw [l1, l2, sizeLine_eq]; exact hc, fun p hp0 => n.lst hp0 (pvs_reps ((repPs_append hv' hv2').ext (Ext.new hp0)))⟩
        · cases e
  · cases e
def gNeg : T → Option T
  | .pv (.int i) => some (.pv (.int (-i)))
  | _ => none
theorem k_neg : Ok1 K (rU fun i => .int (-i)) gNeg := by
  intro H t v q h1 e Q n
  unfold gNeg at e
  split at e
  · cases e; exact ⟨_, h1, n.pure (by rfl)⟩
  · cases e
def isNonT : T → Bool
  | .pv .non => true
  | _ => false
def gIsN (t u : T) : Option T := if isNonT u = true then some (.pv (.bl (isNonT t))) else none
def gNotN (t u : T) : Option T := if isNonT u = true then some (.pv (.bl (!isNonT t))) else none
theorem isNonT_vw {Z : Fp} {H : Hp} {t : T} {v : V} (h : Vw K Z H t v) : decide (v = .non) = isNonT t := by
  cases t with
  | pv p =>
    cases p with
    | tup ps => obtain ⟨a, xs, rfl, _⟩ := h; rfl
    | non => have e := h; unfold Vw RepP at e; subst e; rfl
    | bl b => have e := h; unfold Vw RepP at e; subst e; rfl
    | int b => have e := h; unfold Vw RepP at e; subst e; rfl
    | str b => have e := h; unfold Vw RepP at e; subst e; rfl
  | _ => obtain ⟨a, xs, rfl, _⟩ := h; rfl
theorem k_isN : Ok2 K (fun x y H Q => y = .non ∧ Q (.bl (decide (x = .non))) H) gIsN := by
  intro H t u v w q h1 h2 e Q n
  unfold gIsN at e
  split at e
  · rename_i hu
    cases e
    have h3 := isNonT_vw h2
    rw [hu] at h3
    exact ⟨of_decide_eq_true h3, by rw [isNonT_vw h1]; exact n.pure (by rfl)⟩
  · cases e
theorem k_notN : Ok2 K (fun x y H Q => y = .non ∧ Q (.bl (!decide (x = .non))) H) gNotN := by
  intro H t u v w q h1 h2 e Q n
  unfold gNotN at e
  split at e
  · rename_i hu
    cases e
    have h3 := isNonT_vw h2
    rw [hu] at h3
    exact ⟨of_decide_eq_true h3, by rw [isNonT_vw h1]; exact n.pure (by rfl)⟩
  · cases e
def gB (f : Bool → Bool → Bool) (t u : T) : Option T := match t, u with
  | .pv (.bl a), .pv (.bl b) => some (.pv (.bl (f a b)))
  | _, _ => none
theorem k_isB : Ok2 K (fun x y H Q => ∃ a b, x = .bl a ∧ y = .bl b ∧ Q (.bl (decide (a = b))) H) (gB fun a b => decide (a = b)) := by
  intro H t u v w q h1 h2 e Q n
  unfold gB at e
  split at e
  · cases e; exact ⟨_, _, h1, h2, n.pure (by rfl)⟩
  · cases e
theorem k_notB : Ok2 K (fun x y H Q => ∃ a b, x = .bl a ∧ y = .bl b ∧ Q (.bl (!decide (a = b))) H) (gB fun a b => !decide (a = b)) := by
  intro H t u v w q h1 h2 e Q n
  unfold gB at e
  split at e
  · cases e; exact ⟨_, _, h1, h2, n.pure (by rfl)⟩
  · cases e
end
def fTup (f : Env → R Unit (List T)) : Env → R Unit T := fun ρ => (f ρ).bind fun ts => if ts.length ≤ 1000 then .ok (mkT ts) else .bad
def fLst (f : Env → R Unit (List T)) : Env → R Unit T := fun ρ => (f ρ).bind fun ts => if ts.length ≤ 1000 then .ok (.lst ts) else .bad
def ownOf (ρ : Env) : List AV → Option (List T)
  | [] => some []
  | .val t :: as => (ownOf ρ as).map fun ts => t :: ts
  | .late i :: as => match (ρ[i]?).bind Sl.t? with
    | some (.pv p) => (ownOf ρ as).map fun ts => .pv p :: ts
    | _ => none
def sTup (f : Env → R Env (List AV × Env)) : Env → R Env (AV × Env) := fun ρ => (f ρ).bind fun (as, ρ1) => match ownOf ρ1 as with
  | some ts => if ts.length ≤ 1000 then .ok (.val (mkT ts), ρ1) else .bad
  | none => .bad
def sLst (f : Env → R Env (List AV × Env)) : Env → R Env (AV × Env) := fun ρ => (f ρ).bind fun (as, ρ1) => match ownOf ρ1 as with
  | some ts => if ts.length ≤ 1000 then .ok (.val (.lst ts), ρ1) else .bad
  | none => .bad
section
variable {X : Cx} {W : WX} {K : PySem.W.Frag} {mg : Str → Option Value} {es : List Expr} {pos : Pos}
theorem Reps.len {H : Hp} : ∀ {ts : List T} {xs : List V} {A : Fp}, Reps H ts xs A → xs.length = ts.length
  | [], _, _, h => by have e := h; unfold Reps at e; subst e; rfl
  | _ :: _, _, _, ⟨x, r, _, _, e, _, h2, _⟩ => by subst e; simp [Reps.len h2]
theorem Reps.ext {H H' : Hp} (e : Ext H H') {ts : List T} {xs : List V} {A : Fp} (h : Reps H ts xs A) : Reps H' ts xs A := Reps.kp (e.kp (C := A) (Z := emp)) _ _ h
theorem Rep.ext {H H' : Hp} (e : Ext H H') {t : T} {x : V} {A : Fp} (h : Rep H t x A) : Rep H' t x A := Rep.kp (e.kp (C := A) (Z := emp)) _ _ h
theorem q_tup {x1} {f : Env → R Unit (List T)} (h : JOA X W es f) : JQ X W .o (.Tuple es x1 pos) (fTup f) := peM (pe_tup h) fun σ H Q ⟨ρ, Z, A, G, q⟩ => by
  refine ⟨ρ, Z, A, G, ?_⟩
  revert q
  unfold fTup
  cases f ρ with
  | ok ts =>
    intro q vs H1 B e r fr al
    rw [R.bind_ok] at q
    by_cases hl : ts.length ≤ 1000
    · rw [if_pos hl] at q
      have l := Reps.len r
      refine ⟨by rw [l, sizeLine_eq]; omega, fun p hp => ?_⟩
      have e2 := Ext.new (o := .tup vs) hp
      exact q _ _ (e.trans e2) ⟨B, rep_mkT upd_same (r.ext e2), fr, e2.al al⟩
    · rw [if_neg hl] at q; exact q.elim
  | exc e r => exact id
  | bad => exact fun q => q.elim
theorem q_lst {f : Env → R Unit (List T)} (h : JOA X W es f) : JQ X W .o (.List es pos) (fLst f) := peM (pe_lst h) fun σ H Q ⟨ρ, Z, A, G, q⟩ => by
  refine ⟨ρ, Z, A, G, ?_⟩
  revert q
  unfold fLst
  cases f ρ with
  | ok ts =>
    intro q vs H1 B e r fr al
    rw [R.bind_ok] at q
    by_cases hl : ts.length ≤ 1000
    · rw [if_pos hl] at q
      have l := Reps.len r
      refine ⟨by rw [l, sizeLine_eq]; omega, fun p hp => ?_⟩
      have e2 := Ext.new (o := .lst vs) hp
      refine q _ _ (e.trans e2) ⟨un (fun b => b = p) B, ⟨p, vs, rfl, upd_same, .inl rfl, Reps.mono (fun b hb => ⟨.inr hb, fun z => al b hb (by rw [z]; exact hp)⟩) _ _ (r.ext e2)⟩, fun a ha => ha.elim (fun z => by rw [z]; exact e.fresh hp) (fr a), fun a ha => ha.elim (fun z => by rw [z, upd_same]; intro c; cases c) (e2.al al a)⟩
    · rw [if_neg hl] at q; exact q.elim
  | exc e r => exact id
  | bad => exact fun q => q.elim
theorem ownOf_reps {Z A : Fp} {H : Hp} {σ : Stt} {ρ : Env} (g : Good K Z H σ ρ A) : ∀ {as : List AV} {vs : List V} {B : Fp} {ts : List T}, AvReps σ H as vs B → ownOf ρ as = some ts → Reps H ts vs B
  | [], _, _, ts, .nil, e => by cases e; rfl
  | .val t :: as, _, _, ts, .cons h1 h2 s1 s2 d, e => by
    unfold ownOf at e
    cases q : ownOf ρ as with
    | none => rw [q] at e; cases e
    | some us => rw [q] at e; cases e; exact ⟨_, _, _, _, rfl, h1, ownOf_reps g h2 q, s1, s2, d⟩
  | .late i :: as, _, _, ts, .cons h1 h2 s1 s2 d, e => by
    unfold ownOf at e
    split at e
    · rename_i p hp
      cases q : ownOf ρ as with
      | none => rw [q] at e; cases e
      | some us => rw [q] at e; cases e; exact ⟨_, _, _, _, rfl, late_pure g h1 hp, ownOf_reps g h2 q, s1, s2, d⟩
    · cases e
theorem s_tup {x1} {f : Env → R Env (List AV × Env)} (h : JSA X W es f) : JS X W (.Tuple es x1 pos) (sTup f) := peM (pe_tup h) fun σ H Q ⟨ρ, Z, A, G, q⟩ => by
  refine ⟨ρ, Z, A, G, ?_⟩
  revert q
  unfold sTup
  cases f ρ with
  | ok x =>
    obtain ⟨as, ρ1⟩ := x
    intro q vs H1 A1 B G1 r d al st
    simp only [R.bind_ok] at q
    cases ho : ownOf ρ1 as with
    | none => rw [ho] at q; exact q.elim
    | some ts =>
      rw [ho] at q
      dsimp only at q
      by_cases hl : ts.length ≤ 1000
      · rw [if_pos hl] at q
        have r2 := ownOf_reps G1 r ho
        have l := Reps.len r2
        refine ⟨by rw [l, sizeLine_eq]; omega, fun p hp => ?_⟩
        have e2 := Ext.new (o := .tup vs) hp
        exact q _ _ A1 B (G1.ext e2) (rep_mkT upd_same (r2.ext e2)) d (e2.al al) (st.trans (Step.ext0 e2))
      · rw [if_neg hl] at q; exact q.elim
  | exc e r => exact id
  | bad => exact fun q => q.elim
theorem s_lst {f : Env → R Env (List AV × Env)} (h : JSA X W es f) : JS X W (.List es pos) (sLst f) := peM (pe_lst h) fun σ H Q ⟨ρ, Z, A, G, q⟩ => by
  refine ⟨ρ, Z, A, G, ?_⟩
  revert q
  unfold sLst
  cases f ρ with
  | ok x =>
    obtain ⟨as, ρ1⟩ := x
    intro q vs H1 A1 B G1 r d al st
    simp only [R.bind_ok] at q
    cases ho : ownOf ρ1 as with
    | none => rw [ho] at q; exact q.elim
    | some ts =>
      rw [ho] at q
      dsimp only at q
      by_cases hl : ts.length ≤ 1000
      · rw [if_pos hl] at q
        have r2 := ownOf_reps G1 r ho
        have l := Reps.len r2
        refine ⟨by rw [l, sizeLine_eq]; omega, fun p hp => ?_⟩
        have e2 := Ext.new (o := .lst vs) hp
        have st2 : Step H1 (un A1 B) (upd H1 p (.lst vs)) (un (un A1 B) (fun b => b = p)) := Step.ext e2 fun b hb => by rw [hb]; exact hp
        refine q _ _ A1 (un (fun b => b = p) B) (G1.ext e2) ⟨p, vs, rfl, upd_same, .inl rfl, Reps.mono (fun b hb => ⟨.inr hb, fun z => al b hb (by rw [z]; exact hp)⟩) _ _ (r2.ext e2)⟩ (fun b h1 h2 => h1.elim (fun z => G1.alA b h2 (by rw [z]; exact hp)) fun z => d b z h2) (fun a ha => ha.elim (fun z => by rw [z, upd_same]; intro c; cases c) (e2.al al a)) ((st.trans st2).mono fun b hb => ?_)
        rcases hb with hb | hb | hb
        · exact .inl (.inl hb)
        · exact .inr hb
        · exact .inl (.inr hb)
      · rw [if_neg hl] at q; exact q.elim
  | exc e r => exact id
  | bad => exact fun q => q.elim
theorem q_dnewK : JQ X W .o (.Dict [] [] pos) (fun _ => .ok (.dct false [] [])) := peM pe_dnewK fun σ H Q ⟨ρ, Z, A, G, q⟩ => fun p hp =>
  q _ _ (Ext.new hp) ⟨fun b => b = p, ⟨p, [], rfl, ⟨List.nodup_nil, [], upd_same, rfl, rfl⟩, rfl, rfl⟩, fun b hb => by rw [hb]; exact hp, fun b hb => by rw [hb, upd_same]; intro c; cases c⟩
theorem q_dnewT : JQ X W .o (.Dict [] [] pos) (fun _ => .ok (.dct true [] [])) := peM pe_dnewT fun σ H Q ⟨ρ, Z, A, G, q⟩ => fun p hp =>
  q _ _ (Ext.new hp) ⟨fun b => b = p, ⟨p, [], rfl, ⟨List.nodup_nil, [], upd_same, rfl, rfl⟩, rfl, rfl⟩, fun b hb => by rw [hb]; exact hp, fun b hb => by rw [hb, upd_same]; intro c; cases c⟩
end
end TR
namespace TR
open PySem PySem.Spec PyProof.Rows L2
def gIx : T → T → Option T
  | .lst ts, .pv (.int i) => atI ts i
  | .fls ts, .pv (.int i) => atI ts i
  | .tup ts, .pv (.int i) => atI ts i
  | .pv (.tup ps), .pv (.int i) => (atI ps i).map .pv
  | .pv (.str x), .pv (.int i) => if x.length ≤ 16777216 then (atI x.cps.toList i).map fun c => .pv (.str ⟨#[c]⟩) else none
  | .dct tk ks ts, .pv k => if isKey tk k = true then lookT ks ts k else none
  | _, _ => none
def pureO : Option T → Option T
  | some (.pv p) => some (.pv p)
  | _ => none
def gIxP (t u : T) : Option T := pureO (gIx t u)
def fIxE (fa fb : Env → R Unit T) : Env → R Unit T := fun ρ => (fa ρ).bind fun t => (fb ρ).bind fun u => R.of (gIx t u)
section
variable {X : Cx} {W : WX} {K : PySem.W.Frag} {Z : Fp} {H : Hp} {mg : Str → Option Value}
theorem atI_vws {ts : List T} {xs : List V} {i : Int} {q : T} (h : Vws K Z H ts xs) (e : atI ts i = some q) : ∃ x, atI xs i = some x ∧ Vw K Z H q x := by
  unfold atI at e ⊢
  rw [← Vws.len h]
  cases hi : ixN ts.length i with
  | none => rw [hi] at e; cases e
  | some j =>
    rw [hi] at e
    obtain ⟨x, e1, r⟩ := vws_at h e
    exact ⟨x, e1, r⟩
theorem atI_pvs {ps : List P} {i : Int} : atI (ps.map T.pv) i = (atI ps i).map .pv := by
  unfold atI
  rw [List.length_map]
  cases ixN ps.length i with
  | none => rfl
  | some j => simp
theorem ix_ok {t u q : T} {v w : V} {Z' : Fp} (h1 : Vw K Z H t v) (h2 : Vw K Z' H u w) (e : gIx t u = some q) : ∃ x, Vw K Z H q x ∧ ∀ Q : VK, Q x H → rIxAll K v w H Q := by
  unfold gIx at e
  split at e
  · rename_i ts i
    obtain ⟨a, xs, rfl, hq, hv⟩ := h1
    obtain ⟨x, e1, r⟩ := atI_vws hv e
    exact ⟨x, r, fun Q k => .inl (.inl ⟨a, xs, i, x, rfl, h2, .inl (.inl hq.1), e1, k⟩)⟩
  · rename_i ts i
    obtain ⟨a, xs, rfl, hq, hv⟩ := h1
    obtain ⟨x, e1, r⟩ := atI_vws hv e
    exact ⟨x, r, fun Q k => .inl (.inl ⟨a, xs, i, x, rfl, h2, hq.sq, e1, k⟩)⟩
  · rename_i ts i
    obtain ⟨a, xs, rfl, hq, hv⟩ := h1
    obtain ⟨x, e1, r⟩ := atI_vws hv e
    exact ⟨x, r, fun Q k => .inl (.inr (.inl ⟨a, xs, i, x, rfl, h2, .inl (.inl hq), e1, k⟩))⟩
  · rename_i ps i
    obtain ⟨a, xs, rfl, hq, hv⟩ := h1
    rw [← atI_pvs] at e
    obtain ⟨x, e1, r⟩ := atI_vws (pvs_vws hv) e
    exact ⟨x, r, fun Q k => .inl (.inr (.inl ⟨a, xs, i, x, rfl, h2, .inl (.inl hq), e1, k⟩))⟩
  · rename_i y i
    split at e
    · rename_i hl
      cases hc : atI y.cps.toList i with
      | none => rw [hc] at e; cases e
      | some c =>
        rw [hc] at e
        cases e
        exact ⟨.str ⟨#[c]⟩, rfl, fun Q k => .inl (.inr (.inr ⟨y, i, c, h1, h2, by rw [sizeLine_eq]; exact hl, hc, k⟩))⟩
    · cases e
  · rename_i tk ks ts k
    split at e
    · rename_i hk
      obtain ⟨a, xs, rfl, hd, hv⟩ := h1
      have g := dget_ok (H := H) (y := w) (p := k) (fun o r => r.elim (fun z => .inl z.1) fun ⟨ob, z⟩ => .inr ⟨ob, z⟩) hd hk h2
      unfold lookT at e
      cases hi : idxP ks k with
      | none => rw [hi] at e; cases e
      | some j =>
        rw [hi] at e g
        obtain ⟨x, e1, r⟩ := vws_at hv e
        have g' : DGet H a w (some x) := by
          have : ((some j : Option Nat).bind fun j => xs[j]?) = some x := e1
          rw [this] at g; exact g
        exact ⟨x, r, fun Q k => .inr ⟨a, x, rfl, g', k⟩⟩
    · cases e
  · cases e
theorem k_ixP : Ok2 K (rIxAll K) gIxP := by
  intro H t u v w q h1 h2 e Q n
  unfold gIxP pureO at e
  split at e
  · rename_i p hg
    cases e
    obtain ⟨x, r, k⟩ := ix_ok h1 h2 hg
    exact k Q (n.pure r)
  · cases e
variable {a b : Expr} {pos : Pos} {fa fb : Env → R Unit T} {sa sb : Env → R Env (AV × Env)}
theorem q_ixP (hu : X.A.units + 1 < cLine) (ha : JQ X W .e a fa) (hb : JQ X W .e b fb) (hs : PlainIx b := by intro _ _; rfl) : JQ X W .o (.Subscript a b pos) (f2 gIxP fa fb) := peM (pe_ix (ix_all hu) ha hb hs) fun _ _ _ q => fq2 k_ixP q
theorem s_ixP (hu : X.A.units + 1 < cLine) (ha : JS X W a sa) (hb : JS X W b sb) (hs : PlainIx b := by intro _ _; rfl) : JS X W (.Subscript a b pos) (s2 gIxP sa sb) := peM (pe_ix (ix_all hu) ha hb hs) fun _ _ _ q => fs2 k_ixP q
theorem ResM.ext_ez {m : Md} (hm : m ≠ .o) {H1 H2 : Hp} {t : T} {v : V} (e : Ext H1 H2) (h : ResM K Z H m H1 t v) : ResM K Z H m H2 t v := by
  cases m with
  | e => exact Vw.kp (e.kp (C := top)) t v h
  | z => exact Vw.kp (e.kp (C := top)) t v h
  | o => exact absurd rfl hm
theorem q_ixV {m : Md} (hu : X.A.units + 1 < cLine) (ha : JQ X W m a fa) (hb : JQ X W .e b fb) (hm : m ≠ .o) (hs : PlainIx b := by intro _ _; rfl) : JQ X W m (.Subscript a b pos) (f2 gIx fa fb) := peM (pe_ix (ix_all hu) ha hb hs) fun σ H Q ⟨ρ, Z, A, G, q⟩ => by
  refine ⟨ρ, Z, A, G, ?_⟩
  revert q
  unfold f2
  cases fa ρ with
  | ok t =>
    intro q v H1 e1 r1
    refine ⟨ρ, Z, A, G.ext e1, ?_⟩
    revert q
    rw [R.bind_ok]
    cases fb ρ with
    | ok u =>
      intro q w H2 e2 r2
      rw [R.bind_ok] at q
      cases hg : gIx t u with
      | none => rw [hg] at q; exact q.elim
      | some x =>
        rw [hg] at q
        have r1' := r1.ext_ez hm e2
        have e12 := e1.trans e2
        cases m with
        | e =>
          obtain ⟨y, r, k⟩ := ix_ok r1' r2 hg
          exact k Q (q y H2 e12 r)
        | z =>
          obtain ⟨y, r, k⟩ := ix_ok r1' r2 hg
          exact k Q (q y H2 e12 r)
        | o => exact absurd rfl hm
    | exc e x => exact fun q cls d H' e2 x => q cls d H' (e1.trans e2) x
    | bad => exact fun q => q.elim
  | exc e x => exact fun q => q
  | bad => exact fun q => q.elim
end
def cutP {α : Type} (xs : List α) (lo hi : Option Int) : List α := (xs.drop (HT.sIx xs.length 0 lo)).take (HT.sIx xs.length xs.length hi - HT.sIx xs.length 0 lo)
def gSl (t : T) (lo hi : Option Int) : Option T := match t with
  | .lst ts => (pvs ts).map fun ps => .lst ((cutP ps lo hi).map .pv)
  | .fls ts => (pvs ts).map fun ps => .lst ((cutP ps lo hi).map .pv)
  | .pv (.tup ps) => some (.pv (.tup (cutP ps lo hi)))
  | .pv (.str x) => if x.length ≤ 16777216 then some (.pv (.str (cutS x lo hi))) else none
  | _ => none
def pNone : Env → R Unit (Option Int) := fun _ => .ok none
def pSome (f : Env → R Unit T) : Env → R Unit (Option Int) := fun ρ => (f ρ).bind fun t => match t with
  | .pv (.int i) => .ok (some i)
  | _ => .bad
def fSl (f : Env → R Unit T) (l h : Env → R Unit (Option Int)) : Env → R Unit T := fun ρ => (f ρ).bind fun t => (l ρ).bind fun lo => (h ρ).bind fun hi => R.of (gSl t lo hi)
def FO (K : PySem.W.Frag) (mg : Str → Option Value) (W : WX) (f : Env → R Unit (Option Int)) : TO := fun σ H Q => ∃ ρ Z A, Good K Z H σ ρ A ∧ match f ρ with
  | .ok o => ∀ H', Ext H H' → Q o H'
  | .exc e _ => ∀ cls d H', Ext H H' → ExcRep mg H' e cls d → W cls d σ H'
  | .bad => False
def JO (X : Cx) (W : WX) (e : Option Expr) (f : Env → R Unit (Option Int)) : Prop := ∃ t, PO X e t ∧ ∀ σ H Q, FO X.K X.mg W f σ H Q → t σ H Q
def rSlAll (K : PySem.W.Frag) : V → Option Int → Option Int → Hp → VK → Prop := fun x lo hi H Q => (rSlL K x lo hi H Q ∨ rSlA K x lo hi H Q) ∨ rSlS x lo hi H Q
section
variable {X : Cx} {W : WX} {K : PySem.W.Frag} {mg : Str → Option Value}
theorem jo_none : JO X W none pNone := ⟨_, po_none, fun σ H Q ⟨ρ, Z, A, G, q⟩ => q H (Ext.refl H)⟩
theorem jo_some {e : Expr} {f : Env → R Unit T} (h : JQ X W .e e f) : JO X W (some e) (pSome f) := ⟨_, po_some h, fun σ H Q ⟨ρ, Z, A, G, q⟩ => by
  refine ⟨ρ, Z, A, G, ?_⟩
  revert q
  unfold pSome
  cases f ρ with
  | ok t =>
    intro q v H1 e r
    rw [R.bind_ok] at q
    cases t with
    | pv p =>
      cases p with
      | int i => exact ⟨_, r, q H1 e⟩
      | _ => exact q.elim
    | _ => exact q.elim
  | exc e x => exact fun q => q
  | bad => exact fun q => q.elim⟩
theorem sl_all : SlR X (rSlAll X.K) := (sl_list.or sl_tupA).or sl_str
theorem repPs_cut (K : PySem.W.Frag) {H : Hp} {ps : List P} {xs : List V} (h : RepPs H ps xs) (lo hi : Option Int) : RepPs H (cutP ps lo hi) (cutV xs lo hi) := by
  unfold cutP cutV
  rw [repPs_len h]
  have h2 : Vws K top H (ps.map .pv) xs := pvs_vws h
  have h3 := vws_take (HT.sIx ps.length ps.length hi - HT.sIx ps.length 0 lo) (vws_drop (HT.sIx ps.length 0 lo) h2)
  rw [← List.map_drop, ← List.map_take] at h3
  exact vws_pvs h3
theorem cut_whole {ps : List P} {lo hi : Option Int} (h : HT.sIx ps.length 0 lo = 0 ∧ HT.sIx ps.length ps.length hi = ps.length) : cutP ps lo hi = ps := by
  unfold cutP
  rw [h.1, h.2]
  simp
theorem k_sl {H : Hp} {t q : T} {v : V} {lo hi : Option Int} (h1 : Vw K top H t v) (e : gSl t lo hi = some q) {Q : VK} (n : NewR H q Q) : rSlAll K v lo hi H Q := by
  unfold gSl at e
  split at e
  · rename_i ts
    cases hp : pvs ts with
    | none => rw [hp] at e; cases e
    | some ps =>
      rw [hp] at e
      cases e
      have hts := pvs_eq hp
      subst hts
      obtain ⟨a, xs, rfl, hq, hv⟩ := h1
      exact .inl (.inl ⟨a, xs, rfl, .inl (.inl hq.1), fun p hp0 => n.lst hp0 (pvs_reps ((repPs_cut K (vws_pvs hv) lo hi).ext (Ext.new hp0)))⟩)
  · rename_i ts
    cases hp : pvs ts with
    | none => rw [hp] at e; cases e
    | some ps =>
      rw [hp] at e
      cases e
      have hts := pvs_eq hp
      subst hts
      obtain ⟨a, xs, rfl, hq, hv⟩ := h1
      exact .inl (.inl ⟨a, xs, rfl, hq.sq, fun p hp0 => n.lst hp0 (pvs_reps ((repPs_cut K (vws_pvs hv) lo hi).ext (Ext.new hp0)))⟩)
  · rename_i ps
    cases e
    obtain ⟨a, xs, rfl, hq, hv⟩ := h1
    have hl : xs.length = ps.length := repPs_len hv
    refine .inl (.inr ⟨a, xs, rfl, .inl (.inl hq), fun hw => ?_, fun hw p hp0 => n.tup hp0 ((repPs_cut K hv lo hi).ext (Ext.new hp0))⟩)
    rw [hl] at hw
    rw [cut_whole hw] at n
    exact n.pure ⟨a, xs, rfl, hq, hv⟩
  · rename_i x
    split at e
    · rename_i hl
      cases e
      exact .inr ⟨x, h1, by rw [sizeLine_eq]; exact hl, n.pure (by rfl)⟩
    · cases e
  · cases e
theorem q_sl {e : Expr} {lo hi : Option Expr} {pos p2 : Pos} {f : Env → R Unit T} {l h : Env → R Unit (Option Int)} (he : JQ X W .e e f) (hl : JO X W lo l) (hh : JO X W hi h) : JQ X W .o (.Subscript e (.Slice lo hi none p2) pos) (fSl f l h) := by
  obtain ⟨tl, pl, il⟩ := hl
  obtain ⟨th, ph, ih⟩ := hh
  refine peM (pe_slice sl_all he pl ph) fun σ H Q ⟨ρ, Z, A, G, q⟩ => ?_
  refine ⟨ρ, Z, A, G, ?_⟩
  revert q
  unfold fSl
  cases f ρ with
  | ok t =>
    intro q v H1 e1 r1
    refine il _ _ _ ⟨ρ, Z, A, G.ext e1, ?_⟩
    revert q
    rw [R.bind_ok]
    cases l ρ with
    | ok u =>
      intro q H2 e2
      refine ih _ _ _ ⟨ρ, Z, A, (G.ext e1).ext e2, ?_⟩
      revert q
      rw [R.bind_ok]
      cases h ρ with
      | ok w =>
        intro q H3 e3
        rw [R.bind_ok] at q
        cases hg : gSl t u w with
        | none => rw [hg] at q; exact q.elim
        | some x =>
          rw [hg] at q
          have e23 := e2.trans e3
          have e13 := e1.trans e23
          exact k_sl (Vw.kp (e23.kp (C := top)) t v r1) hg fun v' H' B e4 rep fr al => q v' H' (e13.trans e4) ⟨B, rep, fun a ha => e13.fresh (fr a ha), al⟩
      | exc e x => exact fun q cls d H' e3 x => q cls d H' (e1.trans (e2.trans e3)) x
      | bad => exact fun q => q.elim
    | exc e x => exact fun q cls d H' e2 x => q cls d H' (e1.trans e2) x
    | bad => exact fun q => q.elim
  | exc e x => exact fun q => q
  | bad => exact fun q => q.elim
end
end TR
namespace TR
open PySem PySem.Spec PyProof.Rows L2
def gLen : List T → Option T
  | [t] => match itL t with
    | some ts => some (.pv (.int ts.length))
    | none => match itT t with
      | some ts => some (.pv (.int ts.length))
      | none => match t with
        | .pv (.str x) => if x.length ≤ 16777216 then some (.pv (.int x.length)) else none
        | .dct false ks _ => some (.pv (.int ks.length))
        | _ => none
  | _ => none
def rLen (K : PySem.W.Frag) : List V → Hp → VK → Prop := fun xs H Q => (∃ x n, xs = [x] ∧ LenV K x H n ∧ Q (.int n) H) ∨ ∃ (a : Addr) (kvs : List (Key × V)), xs = [.ref a] ∧ Rd H a (.dK kvs) ∧ Q (.int kvs.length) H
section
variable {X : Cx} {W : WX} {K : PySem.W.Frag} {H : Hp} {mg : Str → Option Value}
theorem cr_len : CallR X (.builtin "len") (rLen X.K) := by
  refine call_len.or ?_
  intro pins s σ H xs us Q I r h
  obtain ⟨a, kvs, rfl, hs, q⟩ := h
  rw [Vals.ref1 r]
  exact d_len I hs fun t s' I' => ⟨.int _, H, I', ⟨_, rfl⟩, q⟩
theorem vws1 {Z : Fp} {t : T} {vs : List V} (h : Vws K Z H [t] vs) : ∃ v, vs = [v] ∧ Vw K Z H t v := by
  obtain ⟨x, r, e, h1, h2⟩ := h
  have e2 : r = [] := h2
  subst e2 e
  exact ⟨x, rfl, h1⟩
theorem vws2 {Z : Fp} {t u : T} {vs : List V} (h : Vws K Z H [t, u] vs) : ∃ v w, vs = [v, w] ∧ Vw K Z H t v ∧ Vw K Z H u w := by
  obtain ⟨x, r, e, h1, h2⟩ := h
  obtain ⟨y, rfl, h3⟩ := vws1 h2
  exact ⟨x, y, e, h1, h3⟩
theorem k_len : OkN K (rLen K) gLen := by
  intro H ts vs q h e Q n
  unfold gLen at e
  split at e
  · rename_i t
    obtain ⟨v, rfl, h1⟩ := vws1 h
    split at e
    · rename_i us hl
      cases e
      obtain ⟨a, xs, rfl, hr, hv⟩ := vw_L h1 hl
      exact .inl ⟨_, _, rfl, .inl ⟨xs, hr, rfl⟩, by rw [← Vws.len hv]; exact n.pure (by rfl)⟩
    · split at e
      · rename_i us hl
        cases e
        obtain ⟨a, xs, rfl, hr, hv⟩ := vw_T h1 hl
        exact .inl ⟨_, _, rfl, .inr ⟨xs, .inl (.inl hr), rfl⟩, by rw [← Vws.len hv]; exact n.pure (by rfl)⟩
      · split at e
        · rename_i x _ _
          split at e
          · rename_i hl
            cases e
            have e2 : v = .str x := h1
            subst e2
            exact .inl ⟨_, x.length, rfl, ⟨by rw [sizeLine_eq]; exact hl, rfl⟩, n.pure (by rfl)⟩
          · cases e
        · rename_i ks us _ _
          cases e
          obtain ⟨a, xs, rfl, ⟨_, kv, hd, e1, e2⟩, hv⟩ := h1
          refine .inr ⟨a, kv, rfl, hd.elim (fun z => .inl z.1) fun ⟨o, z⟩ => .inr ⟨o, z⟩, ?_⟩
          have : kv.length = ks.length := by rw [e1]; simp
          rw [this]
          exact n.pure (by rfl)
        · cases e
  · cases e
def gAbs : List T → Option T
  | [.pv (.int i)] => some (.pv (.int (if i < 0 then -i else i)))
  | _ => none
theorem k_abs : OkN K (fun xs H Q => ∃ i, xs = [.int i] ∧ Q (.int (if i < 0 then -i else i)) H) gAbs := by
  intro H ts vs q h e Q n
  unfold gAbs at e
  split at e
  · cases e
    obtain ⟨v, rfl, h1⟩ := vws1 h
    have e2 : v = .int _ := h1
    subst e2
    exact ⟨_, rfl, n.pure (by rfl)⟩
  · cases e
def gInt : List T → Option T
  | [.pv (.int i)] => some (.pv (.int i))
  | [.pv (.bl b)] => some (.pv (.int (if b then 1 else 0)))
  | [.pv (.str x)] => if x.length ≤ 640 then (PySem.intText? x).map fun n => .pv (.int n) else none
  | _ => none
theorem cr_int : CallR X (.type "int") (fun xs H Q => ((∃ i, xs = [.int i] ∧ Q (.int i) H) ∨ ∃ k, xs = [.bl k] ∧ Q (.int (if k then 1 else 0)) H) ∨ ∃ a n, xs = [.str a] ∧ PySem.intText? a = some n ∧ a.length ≤ 640 ∧ Q (.int n) H) := call_int1.or call_int_str
theorem k_int : OkN K (fun xs H Q => ((∃ i, xs = [.int i] ∧ Q (.int i) H) ∨ ∃ k, xs = [.bl k] ∧ Q (.int (if k then 1 else 0)) H) ∨ ∃ a n, xs = [.str a] ∧ PySem.intText? a = some n ∧ a.length ≤ 640 ∧ Q (.int n) H) gInt := by
  intro H ts vs q h e Q n
  unfold gInt at e
  split at e
  · cases e
    obtain ⟨v, rfl, h1⟩ := vws1 h
    have e2 : v = .int _ := h1
    subst e2
    exact .inl (.inl ⟨_, rfl, n.pure (by rfl)⟩)
  · cases e
    obtain ⟨v, rfl, h1⟩ := vws1 h
    have e2 : v = .bl _ := h1
    subst e2
    exact .inl (.inr ⟨_, rfl, n.pure (by rfl)⟩)
  · split at e
    · rename_i x hl
      cases hi : PySem.intText? x with
      | none => rw [hi] at e; cases e
      | some k =>
        rw [hi] at e
        cases e
        obtain ⟨v, rfl, h1⟩ := vws1 h
        have e2 : v = .str _ := h1
        subst e2
        exact .inr ⟨_, k, rfl, hi, hl, n.pure (by rfl)⟩
    · cases e
  · cases e
def gStr : List T → Option T
  | [.pv (.int i)] => if i.natAbs.log2 < 1920 then some (.pv (.str (toString i))) else none
  | _ => none
theorem k_str : OkN K (fun xs H Q => ∃ i, xs = [.int i] ∧ i.natAbs.log2 < 1920 ∧ Q (.str (toString i)) H) gStr := by
  intro H ts vs q h e Q n
  unfold gStr at e
  split at e
  · split at e
    · rename_i hl
      cases e
      obtain ⟨v, rfl, h1⟩ := vws1 h
      have e2 : v = .int _ := h1
      subst e2
      exact ⟨_, rfl, hl, n.pure (by rfl)⟩
    · cases e
  · cases e
def gMax2 : List T → Option T
  | [.pv (.int i), .pv (.int j)] => some (.pv (.int (if j > i then j else i)))
  | _ => none
theorem k_max2 : OkN K (fun xs H Q => ∃ i j, xs = [.int i, .int j] ∧ Q (.int (if j > i then j else i)) H) gMax2 := by
  intro H ts vs q h e Q n
  unfold gMax2 at e
  split at e
  · cases e
    obtain ⟨v, w, rfl, h1, h2⟩ := vws2 h
    have e2 : v = .int _ := h1
    have e3 : w = .int _ := h2
    subst e2 e3
    exact ⟨_, _, rfl, n.pure (by rfl)⟩
  · cases e
def gMin2 : List T → Option T
  | [.pv (.int i), .pv (.int j)] => some (.pv (.int (if j < i then j else i)))
  | _ => none
theorem k_min2 : OkN K (fun xs H Q => ∃ i j, xs = [.int i, .int j] ∧ Q (.int (if j < i then j else i)) H) gMin2 := by
  intro H ts vs q h e Q n
  unfold gMin2 at e
  split at e
  · cases e
    obtain ⟨v, w, rfl, h1, h2⟩ := vws2 h
    have e2 : v = .int _ := h1
    have e3 : w = .int _ := h2
    subst e2 e3
    exact ⟨_, _, rfl, n.pure (by rfl)⟩
  · cases e
def intsP : List P → Option (List Int)
  | [] => some []
  | .int i :: ps => (intsP ps).map (i :: ·)
  | _ :: _ => none
theorem intsP_eq : ∀ {ps : List P} {is : List Int}, intsP ps = some is → ps = is.map .int
  | [], is, h => by cases h; rfl
  | p :: ps, is, h => by
    cases p with
    | int i =>
      unfold intsP at h
      cases h2 : intsP ps with
      | none => rw [h2] at h; cases h
      | some js => rw [h2] at h; cases h; rw [intsP_eq h2]; rfl
    | _ => cases h
@[simp] theorem intsP_map : ∀ is : List Int, intsP (is.map .int) = some is
  | [] => rfl
  | i :: is => by show (intsP (is.map .int)).map _ = _; rw [intsP_map is]; rfl
def blsP : List P → Option (List Bool)
  | [] => some []
  | .bl i :: ps => (blsP ps).map (i :: ·)
  | _ :: _ => none
theorem blsP_eq : ∀ {ps : List P} {is : List Bool}, blsP ps = some is → ps = is.map .bl
  | [], is, h => by cases h; rfl
  | p :: ps, is, h => by
    cases p with
    | bl i =>
      unfold blsP at h
      cases h2 : blsP ps with
      | none => rw [h2] at h; cases h
      | some js => rw [h2] at h; cases h; rw [blsP_eq h2]; rfl
    | _ => cases h
@[simp] theorem blsP_map : ∀ is : List Bool, blsP (is.map .bl) = some is
  | [] => rfl
  | i :: is => by show (blsP (is.map .bl)).map _ = _; rw [blsP_map is]; rfl
theorem repPs_ints : ∀ {is : List Int} {xs : List V}, RepPs H (is.map .int) xs → xs = is.map V.int
  | [], _, h => h
  | i :: is, _, ⟨x, r, e, h1, h2⟩ => by
    have e1 : x = .int i := h1
    subst e e1
    rw [repPs_ints h2]; rfl
theorem repPs_bls : ∀ {is : List Bool} {xs : List V}, RepPs H (is.map .bl) xs → xs = is.map V.bl
  | [], _, h => h
  | i :: is, _, ⟨x, r, e, h1, h2⟩ => by
    have e1 : x = .bl i := h1
    subst e e1
    rw [repPs_bls h2]; rfl
def pItL (t : T) : Option (List P) := (itL t).bind pvs
theorem vw_pItL {Z : Fp} {t : T} {v : V} {ps : List P} (h : Vw K Z H t v) (e : pItL t = some ps) : ∃ a xs, v = .ref a ∧ SqL K H a xs ∧ RepPs H ps xs := by
  unfold pItL at e
  cases hl : itL t with
  | none => rw [hl] at e; cases e
  | some ts =>
    rw [hl] at e
    obtain ⟨a, xs, rfl, hr, hv⟩ := vw_L h hl
    have e' : pvs ts = some ps := e
    have e2 := pvs_eq e'
    subst e2
    exact ⟨a, xs, rfl, hr, vws_pvs hv⟩
def gSum : List T → Option T
  | [t] => ((pItL t).bind intsP).map fun is => .pv (.int is.sum)
  | _ => none
theorem k_sum : OkN K (rSum K) gSum := by
  intro H ts vs q h e Q n
  unfold gSum at e
  split at e
  · rename_i t
    obtain ⟨v, rfl, h1⟩ := vws1 h
    cases hp : pItL t with
    | none => rw [hp] at e; cases e
    | some ps =>
      cases hi : intsP ps with
      | none => rw [hp] at e; simp only [Option.bind_some, hi] at e; cases e
      | some is =>
        rw [hp] at e
        simp only [Option.bind_some, hi] at e
        cases e
        obtain ⟨a, xs, rfl, hr, hv⟩ := vw_pItL h1 hp
        rw [intsP_eq hi] at hv
        have e2 := repPs_ints hv
        subst e2
        exact ⟨a, is, rfl, hr, n.pure (by rfl)⟩
  · cases e
def gAll : List T → Option T
  | [t] => ((pItL t).bind blsP).map fun is => .pv (.bl (is.all id))
  | _ => none
def gLstV : List T → Option T
  | [t] => match pItL t with
    | some ps => some (.lst (ps.map .pv))
    | none => match t with
      | .pv (.tup ps) => some (.lst (ps.map .pv))
      | _ => none
  | _ => none
theorem k_lstV : OkN K (fun xs H Q => ∃ p ys, xs = [.ref p] ∧ (SqL K H p ys ∨ SqT K H p ys) ∧ ∀ l, H l = none → Q (.ref l) (upd H l (.lst ys))) gLstV := by
  intro H ts vs q h e Q n
  unfold gLstV at e
  split at e
  · rename_i t
    obtain ⟨v, rfl, h1⟩ := vws1 h
    split at e
    · rename_i ps hp
      cases e
      obtain ⟨a, xs, rfl, hr, hv⟩ := vw_pItL h1 hp
      exact ⟨a, xs, rfl, .inl hr, fun p hp0 => n.lst hp0 (pvs_reps (hv.ext (Ext.new hp0)))⟩
    · split at e
      · cases e
        obtain ⟨a, xs, rfl, hq, hv⟩ := h1
        exact ⟨a, xs, rfl, .inr (.inl (.inl hq)), fun p hp0 => n.lst hp0 (pvs_reps (hv.ext (Ext.new hp0)))⟩
      · cases e
  · cases e
def gTupV : List T → Option T
  | [t] => match pItL t with
    | some ps => some (.pv (.tup ps))
    | none => match t with
      | .pv (.tup ps) => some (.pv (.tup ps))
      | _ => none
  | _ => none
theorem k_tupV : OkN K (fun xs H Q => ∃ p ys, xs = [.ref p] ∧ ((SqL K H p ys ∧ ∀ l, H l = none → Q (.ref l) (upd H l (.tup ys))) ∨ (SqT K H p ys ∧ Q (.ref p) H))) gTupV := by
  intro H ts vs q h e Q n
  unfold gTupV at e
  split at e
  · rename_i t
    obtain ⟨v, rfl, h1⟩ := vws1 h
    split at e
    · rename_i ps hp
      cases e
      obtain ⟨a, xs, rfl, hr, hv⟩ := vw_pItL h1 hp
      exact ⟨a, xs, rfl, .inl ⟨hr, fun p hp0 => n.tup hp0 (hv.ext (Ext.new hp0))⟩⟩
    · split at e
      · cases e
        obtain ⟨a, xs, rfl, hq, hv⟩ := h1
        exact ⟨a, xs, rfl, .inr ⟨.inl (.inl hq), n.pure ⟨a, xs, rfl, hq, hv⟩⟩⟩
      · cases e
  · cases e
def rgP (a b : Int) : List P := (List.range (b - a).toNat).map fun (i : Nat) => P.int (a + i)
def rgOkB (a b : Int) : Bool := decide (-1000000 ≤ a) && decide (a ≤ 16000000) && decide (-1000000 ≤ b) && decide (b ≤ 16000000) && decide (b - a ≤ 16000000)
theorem rgOkB_ok {a b : Int} (h : rgOkB a b = true) : RgOk a b := by
  unfold rgOkB at h
  simp only [Bool.and_eq_true, decide_eq_true_eq] at h
  obtain ⟨⟨⟨⟨h1, h2⟩, h3⟩, h4⟩, h5⟩ := h
  refine ⟨?_, ?_, ?_, ?_, ?_⟩ <;> omega
theorem repPs_rg {a b : Int} : RepPs H (rgP a b) (rgV a b) := by
  unfold rgP rgV
  generalize (b - a).toNat = m
  have : ∀ l : List Nat, RepPs H (l.map fun (i : Nat) => P.int (a + i)) (l.map fun (i : Nat) => V.int (a + (i : Nat))) := by
    intro l
    induction l with
    | nil => rfl
    | cons i l ih => exact ⟨_, _, rfl, rfl, ih⟩
  exact this _
def lstRg1 (f : Env → R Unit T) : Env → R Unit T := fun ρ => (f ρ).bind fun t => match t with
  | .pv (.int n) => if rgOkB 0 n = true then .ok (.lst ((rgP 0 n).map .pv)) else .bad
  | _ => .bad
def lstRg2 (f g : Env → R Unit T) : Env → R Unit T := fun ρ => (f ρ).bind fun t => (g ρ).bind fun u => match t, u with
  | .pv (.int a), .pv (.int n) => if rgOkB a n = true then .ok (.lst ((rgP a n).map .pv)) else .bad
  | _, _ => .bad
def tupRg1 (f : Env → R Unit T) : Env → R Unit T := fun ρ => (f ρ).bind fun t => match t with
  | .pv (.int n) => if rgOkB 0 n = true then .ok (.pv (.tup (rgP 0 n))) else .bad
  | _ => .bad
def tupRg2 (f g : Env → R Unit T) : Env → R Unit T := fun ρ => (f ρ).bind fun t => (g ρ).bind fun u => match t, u with
  | .pv (.int a), .pv (.int n) => if rgOkB a n = true then .ok (.pv (.tup (rgP a n))) else .bad
  | _, _ => .bad
variable {a b : Expr} {p pos : Pos} {f g : Env → R Unit T}
theorem fq_rg1 {t : Env → R Unit T} {ok : Int → T} (ht : t = fun ρ => (f ρ).bind fun t => match t with
    | .pv (.int n) => if rgOkB 0 n = true then .ok (ok n) else .bad
    | _ => .bad) {σ : Stt} {Q : VK} (h : FQ K mg W .o t σ H Q) {S : Int → Int → Hp → Prop} (hS : ∀ n H1, Ext H H1 → RgOk 0 n → NewR H1 (ok n) Q → S 0 n H1) : tRg1 (FQ K mg W .e f) σ H S := by
  subst ht
  obtain ⟨ρ, Z, A, G, q⟩ := h
  refine ⟨ρ, Z, A, G, ?_⟩
  revert q
  dsimp only
  cases f ρ with
  | ok t =>
    intro q v H1 e r
    rw [R.bind_ok] at q
    cases t with
    | pv p =>
      cases p with
      | int i =>
        dsimp only at q
        by_cases hk : rgOkB 0 i = true
        · rw [if_pos hk] at q
          exact ⟨i, r, hS i H1 e (rgOkB_ok hk) fun v' H' B e3 rep fr al => q v' H' (e.trans e3) ⟨B, rep, fun a ha => e.fresh (fr a ha), al⟩⟩
        · rw [if_neg hk] at q; exact q.elim
      | _ => exact q.elim
    | _ => exact q.elim
  | exc e x => exact fun q => q
  | bad => exact fun q => q.elim
theorem fq_rg2 {t : Env → R Unit T} {ok : Int → Int → T} (ht : t = fun ρ => (f ρ).bind fun t => (g ρ).bind fun u => match t, u with
    | .pv (.int a), .pv (.int n) => if rgOkB a n = true then .ok (ok a n) else .bad
    | _, _ => .bad) {σ : Stt} {Q : VK} (h : FQ K mg W .o t σ H Q) {S : Int → Int → Hp → Prop} (hS : ∀ a n H1, Ext H H1 → RgOk a n → NewR H1 (ok a n) Q → S a n H1) : tRg2 (FQ K mg W .e f) (FQ K mg W .e g) σ H S := by
  subst ht
  obtain ⟨ρ, Z, A, G, q⟩ := h
  refine ⟨ρ, Z, A, G, ?_⟩
  revert q
  dsimp only
  cases f ρ with
  | ok t =>
    intro q v H1 e r
    refine ⟨ρ, Z, A, G.ext e, ?_⟩
    revert q
    rw [R.bind_ok]
    cases g ρ with
    | ok u =>
      intro q w H2 e2 r2
      rw [R.bind_ok] at q
      cases t with
      | pv p =>
        cases p with
        | int i =>
          cases u with
          | pv p2 =>
            cases p2 with
            | int j =>
              dsimp only at q
              by_cases hk : rgOkB i j = true
              · rw [if_pos hk] at q
                have e12 := e.trans e2
                exact ⟨i, j, r, r2, hS i j H2 e12 (rgOkB_ok hk) fun v' H' B e3 rep fr al => q v' H' (e12.trans e3) ⟨B, rep, fun a ha => e12.fresh (fr a ha), al⟩⟩
              · rw [if_neg hk] at q; exact q.elim
            | _ => exact q.elim
          | _ => exact q.elim
        | _ => exact q.elim
      | _ => exact q.elim
    | exc e3 x => exact fun q cls d H' e2 x => q cls d H' (e.trans e2) x
    | bad => exact fun q => q.elim
  | exc e x => exact fun q => q
  | bad => exact fun q => q.elim
theorem q_lstRg1 {p2 pos2 : Pos} (hc : X.calm = true) (hg : Gl X "list") (hm : X.mg "list" = none) (hg2 : Gl X "range") (hm2 : X.mg "range" = none) (ha : JQ X W .e a f) (na : starEach [a] X.env = (false, eval a X.env) :: starEach [] X.env := by rfl)
    (nb : starEach [Expr.Call (.Name "range" p2) [a] [] pos2] X.env = (false, eval (Expr.Call (.Name "range" p2) [a] [] pos2) X.env) :: starEach [] X.env := by rfl) : JQ X W .o (.Call (.Name "list" p) [.Call (.Name "range" p2) [a] [] pos2] [] pos) (lstRg1 f) :=
  peM (pe_listRg hc hg hm (prg_1 hg2 hm2 ha na) nb) fun σ H Q q => fq_rg1 (ok := fun n => .lst ((rgP 0 n).map .pv)) rfl q fun n H1 e ok nr => ⟨ok, fun p hp => nr.lst hp (pvs_reps repPs_rg)⟩
theorem q_lstRg2 {p2 pos2 : Pos} (hc : X.calm = true) (hg : Gl X "list") (hm : X.mg "list" = none) (hg2 : Gl X "range") (hm2 : X.mg "range" = none) (ha : JQ X W .e a f) (hb : JQ X W .e b g) (na : starEach [a, b] X.env = (false, eval a X.env) :: starEach [b] X.env := by rfl)
    (nb : starEach [b] X.env = (false, eval b X.env) :: starEach [] X.env := by rfl) (hp : (backTo pos2 (starEach [b] X.env)).any (·.1) = false := by rfl)
    (nc : starEach [Expr.Call (.Name "range" p2) [a, b] [] pos2] X.env = (false, eval (Expr.Call (.Name "range" p2) [a, b] [] pos2) X.env) :: starEach [] X.env := by rfl) : JQ X W .o (.Call (.Name "list" p) [.Call (.Name "range" p2) [a, b] [] pos2] [] pos) (lstRg2 f g) :=
  peM (pe_listRg hc hg hm (prg_2 hg2 hm2 ha hb na nb hp) nc) fun σ H Q q => fq_rg2 (ok := fun a n => .lst ((rgP a n).map .pv)) rfl q fun a n H1 e ok nr => ⟨ok, fun p hp => nr.lst hp (pvs_reps repPs_rg)⟩
theorem q_tupRg1 {p2 pos2 : Pos} (hc : X.calm = true) (hg : Gl X "tuple") (hm : X.mg "tuple" = none) (hg2 : Gl X "range") (hm2 : X.mg "range" = none) (ha : JQ X W .e a f) (na : starEach [a] X.env = (false, eval a X.env) :: starEach [] X.env := by rfl)
    (nb : starEach [Expr.Call (.Name "range" p2) [a] [] pos2] X.env = (false, eval (Expr.Call (.Name "range" p2) [a] [] pos2) X.env) :: starEach [] X.env := by rfl) : JQ X W .o (.Call (.Name "tuple" p) [.Call (.Name "range" p2) [a] [] pos2] [] pos) (tupRg1 f) :=
  peM (pe_tupRg hc hg hm (prg_1 hg2 hm2 ha na) nb) fun σ H Q q => fq_rg1 (ok := fun n => .pv (.tup (rgP 0 n))) rfl q fun n H1 e ok nr => ⟨ok, fun p hp => nr.tup hp repPs_rg⟩
theorem q_tupRg2 {p2 pos2 : Pos} (hc : X.calm = true) (hg : Gl X "tuple") (hm : X.mg "tuple" = none) (hg2 : Gl X "range") (hm2 : X.mg "range" = none) (ha : JQ X W .e a f) (hb : JQ X W .e b g) (na : starEach [a, b] X.env = (false, eval a X.env) :: starEach [b] X.env := by rfl)
    (nb : starEach [b] X.env = (false, eval b X.env) :: starEach [] X.env := by rfl) (hp : (backTo pos2 (starEach [b] X.env)).any (·.1) = false := by rfl)
    (nc : starEach [Expr.Call (.Name "range" p2) [a, b] [] pos2] X.env = (false, eval (Expr.Call (.Name "range" p2) [a, b] [] pos2) X.env) :: starEach [] X.env := by rfl) : JQ X W .o (.Call (.Name "tuple" p) [.Call (.Name "range" p2) [a, b] [] pos2] [] pos) (tupRg2 f g) :=
  peM (pe_tupRg hc hg hm (prg_2 hg2 hm2 ha hb na nb hp) nc) fun σ H Q q => fq_rg2 (ok := fun a n => .pv (.tup (rgP a n))) rfl q fun a n H1 e ok nr => ⟨ok, fun p hp => nr.tup hp repPs_rg⟩
end
end TR
namespace TR
open PySem PySem.Spec PyProof.Rows L2
def sortP (ps : List P) : List P := ps.mergeSort (PySem.W.dataLe false P.toD)
def alikeB (ds : List PyData) : Bool := ds.all fun d => ds.all fun e => PySem.W.alike d e
def tupNE : PyData → Bool
  | .tuple (_ :: _) => true
  | _ => false
def plainNT : PyData → Bool
  | .tuple _ => false
  | .none => false
  | _ => true
def sortB (ds : List PyData) : Bool := alikeB ds && (ds.all tupNE || ds.all plainNT) && ds.all fun d => decide (d.depth ≤ 50)
def gSorted : List T → Option T
  | [t] => (pItL t).bind fun ps => if sortB (ps.map P.toD) = true then some (.lst ((sortP ps).map .pv)) else none
  | _ => none
def rSortP (K : PySem.W.Frag) : List V → Hp → VK → Prop := fun vs H Q => ∃ (a : Addr) (xs : List V) (ps : List P), vs = [.ref a] ∧ SqL K H a xs ∧ RepPs H ps xs ∧ sortB (ps.map P.toD) = true ∧
  ∀ xs' p, RepPs H (sortP ps) xs' → H p = none → Q (.ref p) (upd H p (.lst xs'))
theorem alikeB_ok {ds : List PyData} (h : alikeB ds = true) : PySem.W.AllAlike ds := fun d hd e he => List.all_eq_true.mp (List.all_eq_true.mp h d hd) e he
theorem sortB_ok {ds : List PyData} (h : sortB ds = true) : PySem.W.AllAlike ds ∧ PySem.W.Sortable ds ∧ ∀ d ∈ ds, d.depth ≤ 50 := by
  unfold sortB at h
  rw [Bool.and_eq_true, Bool.and_eq_true, Bool.or_eq_true] at h
  obtain ⟨⟨h1, h2⟩, h3⟩ := h
  refine ⟨alikeB_ok h1, ?_, fun d hd => of_decide_eq_true (List.all_eq_true.mp h3 d hd)⟩
  rcases h2 with h2 | h2
  · refine .inl fun d hd => ?_
    have := List.all_eq_true.mp h2 d hd
    unfold tupNE at this
    split at this
    · exact ⟨_, _, rfl⟩
    · cases this
  · refine .inr fun d hd => ?_
    have := List.all_eq_true.mp h2 d hd
    unfold plainNT at this
    split at this
    · cases this
    · cases this
    · rename_i h4 h5
      exact ⟨h5, h4⟩
section
variable {X : Cx} {W : WX} {K : PySem.W.Frag} {H : Hp} {mg : Str → Option Value}
theorem each_of {s : Shared} {pins : List (Addr × Obj)} {σ : Stt} (I : L2.Inv X pins σ H s) : ∀ {ps : List P} {xs : List V} {us : List Value}, RepPs H ps xs → Vals xs us →
    PySem.W.EachIs (fun v p => ∃ x, RelV x v ∧ RepP H p x) us ps ∧ PySem.W.EachIs (fun v p => ∃ as, Reads s.heap v (P.toD p) as) us ps
  | [], _, _, h, r => by
    have e := h; unfold RepPs at e; subst e
    cases r
    exact ⟨.nil, .nil⟩
  | p :: ps, _, _, ⟨x, r0, e, h1, h2⟩, r => by
    subst e
    cases r with
    | cons r1 r2 =>
      obtain ⟨a, b⟩ := each_of I h2 r2
      exact ⟨.cons ⟨x, r1, h1⟩ a, .cons (Dp.reads I _ _ _ (repP_dp (K := X.K) p x h1) r1) b⟩
theorem each_back : ∀ {ps : List P} {us : List Value}, PySem.W.EachIs (fun v p => ∃ x, RelV x v ∧ RepP H p x) us ps → ∃ xs, Vals xs us ∧ RepPs H ps xs
  | _, _, .nil => ⟨[], .nil, rfl⟩
  | _, _, .cons ⟨x, r, h⟩ t => by
    obtain ⟨xs, v, q⟩ := each_back t
    exact ⟨x :: xs, .cons r v, x, xs, rfl, h, q⟩
theorem cr_sortedP (hu : X.A.units + 100 < cLine) : CallR X (.builtin "sorted") (rSortP X.K) := by
  intro pins s σ H vs us Q I r h
  obtain ⟨a, xs, ps, rfl, hs, hr, hb, q⟩ := h
  obtain ⟨its, rv, hl, hz⟩ := I.list hs
  rw [Vals.ref1 r]
  obtain ⟨ea, eb⟩ := each_of I hr rv
  obtain ⟨s1, s2, s3⟩ := sortB_ok hb
  have hlp : ps.length ≤ sizeLine := by rw [← repPs_len hr]; exact hz
  refine PySem.W.sorted_data hl.isList ea eb s1 s2 hlp (fun b hb2 => ?_) fun out ho he => ?_
  · have := s3 _ (List.mem_map.mpr ⟨b, hb2, rfl⟩)
    omega
  · obtain ⟨xs', rv', hr'⟩ := each_back he
    obtain ⟨ep, he'⟩ := PyProof.Rows.sortedAll_at s.heap its out.toArray
    have hlen : xs'.length ≤ sizeLine := by rw [rv'.length, ho]; exact hlp
    exact ⟨.ref _, upd H (s.heap.objs.size + 1) (.lst xs'), I.laid (t' := s.toks) (fun _ _ => PyProof.Rows.sortedAll_old) (Nat.le_succ _) ⟨hlen, out, ep, rv', he'⟩, rfl, q _ _ hr' (I.hok.fresh (Nat.le_succ _))⟩
theorem k_sorted : OkN K (rSortP K) gSorted := by
  intro H ts vs q h e Q n
  unfold gSorted at e
  split at e
  · rename_i t
    obtain ⟨v, rfl, h1⟩ := vws1 h
    cases hp : pItL t with
    | none => rw [hp] at e; cases e
    | some ps =>
      rw [hp] at e
      have e : (if sortB (ps.map P.toD) = true then some (T.lst ((sortP ps).map .pv)) else none) = some q := e
      split at e
      · rename_i hb
        cases e
        obtain ⟨a, xs, rfl, hr, hv⟩ := vw_pItL h1 hp
        exact ⟨a, xs, ps, rfl, hr, hv, hb, fun xs' p hr' hp0 => n.lst hp0 (pvs_reps (hr'.ext (Ext.new hp0)))⟩
      · cases e
  · cases e
mutual
theorem P.toD_inj : ∀ {p q : P}, p.toD = q.toD → p = q
  | .non, .non, _ => rfl
  | .bl a, .bl b, h => by simp only [P.toD] at h; injection h with h; rw [h]
  | .int a, .int b, h => by simp only [P.toD] at h; injection h with h; rw [h]
  | .str a, .str b, h => by simp only [P.toD] at h; injection h with h; rw [h]
  | .tup a, .tup b, h => by simp only [P.toD] at h; injection h with h; rw [P.toDs_inj h]
  | .non, .bl _, h => by simp only [P.toD] at h; cases h
  | .non, .int _, h => by simp only [P.toD] at h; cases h
  | .non, .str _, h => by simp only [P.toD] at h; cases h
  | .non, .tup _, h => by simp only [P.toD] at h; cases h
  | .bl _, .non, h => by simp only [P.toD] at h; cases h
  | .bl _, .int _, h => by simp only [P.toD] at h; cases h
  | .bl _, .str _, h => by simp only [P.toD] at h; cases h
  | .bl _, .tup _, h => by simp only [P.toD] at h; cases h
  | .int _, .non, h => by simp only [P.toD] at h; cases h
  | .int _, .bl _, h => by simp only [P.toD] at h; cases h
  | .int _, .str _, h => by simp only [P.toD] at h; cases h
  | .int _, .tup _, h => by simp only [P.toD] at h; cases h
  | .str _, .non, h => by simp only [P.toD] at h; cases h
  | .str _, .bl _, h => by simp only [P.toD] at h; cases h
  | .str _, .int _, h => by simp only [P.toD] at h; cases h
  | .str _, .tup _, h => by simp only [P.toD] at h; cases h
  | .tup _, .non, h => by simp only [P.toD] at h; cases h
  | .tup _, .bl _, h => by simp only [P.toD] at h; cases h
  | .tup _, .int _, h => by simp only [P.toD] at h; cases h
  | .tup _, .str _, h => by simp only [P.toD] at h; cases h
theorem P.toDs_inj : ∀ {p q : List P}, P.toDs p = P.toDs q → p = q
  | [], [], _ => rfl
  | [], _ :: _, h => by simp only [P.toDs] at h; cases h
  | _ :: _, [], h => by simp only [P.toDs] at h; cases h
  | p :: ps, q :: qs, h => by simp only [P.toDs] at h; injection h with h1 h2; rw [P.toD_inj h1, P.toDs_inj h2]
end
mutual
theorem P.toD_plain : ∀ p : P, p.toD.plain = true
  | .non => rfl
  | .bl _ => rfl
  | .int _ => rfl
  | .str _ => rfl
  | .tup ps => P.toDs_plain ps
theorem P.toDs_plain : ∀ ps : List P, PyData.plainAll (P.toDs ps) = true
  | [] => rfl
  | p :: ps => by show (p.toD.plain && PyData.plainAll (P.toDs ps)) = true; rw [P.toD_plain p, P.toDs_plain ps]; rfl
end
def minP (p : P) (ps : List P) : P := ps.foldl (fun a y => if PySem.W.dataLt y.toD a.toD = true then y else a) p
def maxP (p : P) (ps : List P) : P := ps.foldl (fun a y => if PySem.W.dataLt a.toD y.toD = true then y else a) p
theorem minP_toD : ∀ (ps : List P) (p : P), PySem.W.minD p.toD (ps.map P.toD) = (minP p ps).toD
  | [], _ => rfl
  | q :: ps, p => by
    show PySem.W.minD (if PySem.W.dataLt q.toD p.toD = true then q.toD else p.toD) (ps.map P.toD) = (minP (if PySem.W.dataLt q.toD p.toD = true then q else p) ps).toD
    rw [← minP_toD ps]
    split <;> rfl
theorem maxP_toD : ∀ (ps : List P) (p : P), PySem.W.maxD p.toD (ps.map P.toD) = (maxP p ps).toD
  | [], _ => rfl
  | q :: ps, p => by
    show PySem.W.maxD (if PySem.W.dataLt p.toD q.toD = true then q.toD else p.toD) (ps.map P.toD) = (maxP (if PySem.W.dataLt p.toD q.toD = true then q else p) ps).toD
    rw [← maxP_toD ps]
    split <;> rfl
def minB (ds : List PyData) : Bool := alikeB ds && ds.all (fun d => !nonD d) && decide (PyData.depthAll ds ≤ 50)
def gMinMax (f : P → List P → P) : List T → Option T
  | [t] => match pItL t with
    | some (p :: ps) => if minB (P.toDs (p :: ps)) = true then some (.pv (f p ps)) else none
    | _ => none
  | _ => none
def gMin := gMinMax minP
def gMax := gMinMax maxP
def rMinMax (K : PySem.W.Frag) (f : P → List P → P) : List V → Hp → VK → Prop := fun vs H Q => ∃ (a : Addr) (xs : List V) (p : P) (ps : List P), vs = [.ref a] ∧ SqL K H a xs ∧ RepPs H (p :: ps) xs ∧ minB (P.toDs (p :: ps)) = true ∧ ∀ x, RepP H (f p ps) x → Q x H
theorem item_of {s : Shared} {pins : List (Addr × Obj)} {σ : Stt} (I : L2.Inv X pins σ H s) {h' : Heap} (hk : ∀ b o, s.heap.get? b = some o → h'.get? b = some o) : ∀ {ps : List P} {xs : List V} {us : List Value} {i : Nat} {v : Value} {m : P} {bs : List Addr}, RepPs H ps xs → Vals xs us → us[i]? = some v → Reads h' v m.toD bs → ∃ x, RelV x v ∧ RepP H m x
  | [], _, _, _, _, _, _, h, r, hv, _ => by
    have e := h; unfold RepPs at e; subst e
    cases r
    simp at hv
  | p :: ps, _, _, i, v, m, bs, ⟨x, r0, e, h1, h2⟩, r, hv, rd => by
    subst e
    cases r with
    | cons r1 r2 =>
      cases i with
      | zero =>
        cases hv
        obtain ⟨as, ra⟩ := Dp.reads I _ _ _ (repP_dp (K := X.K) p x h1) r1
        have := SeqAt.plain_unique _ _ _ _ _ (P.toD_plain p) (PyProof.Rows.Reads.keeps hk ra) rd
        rw [← P.toD_inj this]
        exact ⟨x, r1, h1⟩
      | succ i => exact item_of I hk h2 r2 (by simpa using hv) rd
theorem minB_ok {ds : List PyData} (h : minB ds = true) : PySem.W.AlikeAll ds ∧ PyData.depthAll ds ≤ 50 := by
  unfold minB at h
  rw [Bool.and_eq_true, Bool.and_eq_true] at h
  refine ⟨⟨alikeB_ok h.1.1, fun x hx e => ?_⟩, of_decide_eq_true h.2⟩
  have := List.all_eq_true.mp h.1.2 x hx
  rw [e] at this
  cases this
theorem cr_minP (hc : X.calm = true) (hu : X.A.units + 100 < cLine) : CallR X (.builtin "min") (rMinMax X.K minP) := by
  intro pins s σ H vs us Q I r h
  obtain ⟨a, xs, p, ps, rfl, hs, hr, hb, q⟩ := h
  obtain ⟨its, rv, hl, hz⟩ := I.list hs
  rw [Vals.ref1 r]
  obtain ⟨al, dp⟩ := minB_ok hb
  obtain ⟨as, ra⟩ := Dp.readsAll I _ xs its (repPs_dp (K := X.K) (p :: ps) xs hr) rv
  refine PySem.W.min_list_data (I.ok.hd hc) hl.isList (show ReadsAll s.heap its.toArray.toList (p.toD :: P.toDs ps) as from ra) al (by have : PyData.depthAll (p.toD :: P.toDs ps) ≤ 50 := dp; omega) fun i v h' tk bs hi rd hk => ?_
  rw [P.toDs_map, minP_toD] at rd
  obtain ⟨x, rx, rp⟩ := item_of I hk hr rv (by simpa using hi) rd
  exact ⟨x, H, I.kept hk, rx, q x rp⟩
theorem cr_maxP (hc : X.calm = true) (hu : X.A.units + 100 < cLine) : CallR X (.builtin "max") (rMinMax X.K maxP) := by
  intro pins s σ H vs us Q I r h
  obtain ⟨a, xs, p, ps, rfl, hs, hr, hb, q⟩ := h
  obtain ⟨its, rv, hl, hz⟩ := I.list hs
  rw [Vals.ref1 r]
  obtain ⟨al, dp⟩ := minB_ok hb
  obtain ⟨as, ra⟩ := Dp.readsAll I _ xs its (repPs_dp (K := X.K) (p :: ps) xs hr) rv
  refine PySem.W.max_list_data (I.ok.hd hc) hl.isList (show ReadsAll s.heap its.toArray.toList (p.toD :: P.toDs ps) as from ra) al (by have : PyData.depthAll (p.toD :: P.toDs ps) ≤ 50 := dp; omega) fun i v h' tk bs hi rd hk => ?_
  rw [P.toDs_map, maxP_toD] at rd
  obtain ⟨x, rx, rp⟩ := item_of I hk hr rv (by simpa using hi) rd
  exact ⟨x, H, I.kept hk, rx, q x rp⟩
theorem k_minmax {f : P → List P → P} : OkN K (rMinMax K f) (gMinMax f) := by
  intro H ts vs q h e Q n
  unfold gMinMax at e
  split at e
  · rename_i t
    obtain ⟨v, rfl, h1⟩ := vws1 h
    split at e
    · rename_i p ps hp
      split at e
      · rename_i hb
        cases e
        obtain ⟨a, xs, rfl, hr, hv⟩ := vw_pItL h1 hp
        exact ⟨a, xs, p, ps, rfl, hr, hv, hb, fun x r => n.pure r⟩
      · cases e
    · cases e
  · cases e
theorem k_all : OkN K (rAll K) gAll := by
  intro H ts vs q h e Q n
  unfold gAll at e
  split at e
  · rename_i t
    obtain ⟨v, rfl, h1⟩ := vws1 h
    cases hp : pItL t with
    | none => rw [hp] at e; cases e
    | some ps =>
      cases hi : blsP ps with
      | none => rw [hp] at e; simp only [Option.bind_some, hi] at e; cases e
      | some is =>
        rw [hp] at e
        simp only [Option.bind_some, hi] at e
        cases e
        obtain ⟨a, xs, rfl, hr, hv⟩ := vw_pItL h1 hp
        rw [blsP_eq hi] at hv
        have e2 := repPs_bls hv
        subst e2
        exact ⟨a, is, rfl, hr, n.pure (by rfl)⟩
  · cases e
def OkC (K : PySem.W.Frag) (r : List V → Hp → VK → Prop) (g : T → Option T) : Prop := ∀ H t v A q, Rep H t v A → Al H A → g t = some q → ∀ Q : VK, (∀ v' H' B, Ext H H' → Rep H' q v' B → (∀ b, B b → A b ∨ H b = none) → Al H' B → Q v' H') → r [v] H Q
theorem fq_take {r : List V → Hp → VK → Prop} {g : T → Option T} (hr : OkC K r g) {fa : Env → R Unit T} {σ : Stt} {H : Hp} {Q : VK} (h : FQ K mg W .o (f1 g fa) σ H Q) : tCB r (tCons (FQ K mg W .o fa) tNil) σ H Q := by
  obtain ⟨ρ, Z, A, G, q⟩ := h
  refine ⟨ρ, Z, A, G, ?_⟩
  revert q
  unfold f1
  cases fa ρ with
  | ok t =>
    intro q v H1 e1 ⟨B, rb, fr, al⟩
    rw [R.bind_ok] at q
    cases hg : g t with
    | none => rw [hg] at q; exact q.elim
    | some x =>
      rw [hg] at q
      exact hr H1 t v B x rb al hg Q fun v' H' B' e3 rep sub al' => q v' H' (e1.trans e3) ⟨B', rep, fun a ha => (sub a ha).elim (fr a) fun z => e1.fresh z, al'⟩
  | exc e x => exact fun q => q
  | bad => exact fun q => q.elim
def s1c (g : T → Option T) (fa : Env → R Env (AV × Env)) : Env → R Env (AV × Env) := fun ρ => (fa ρ).bind fun (x, ρ1) => match ownOf ρ1 [x] with
  | some [t] => (match g t with
    | some q => .ok (.val q, ρ1)
    | none => .bad)
  | _ => .bad
theorem fs_take {r : List V → Hp → VK → Prop} {g : T → Option T} (hr : OkC K r g) {fa : Env → R Env (AV × Env)} {σ : Stt} {H : Hp} {Q : VK} (h : FS K mg W (s1c g fa) σ H Q) : tCB r (tCons (FS K mg W fa) tNil) σ H Q := by
  obtain ⟨ρ, Z, A, G, q⟩ := h
  refine ⟨ρ, Z, A, G, ?_⟩
  revert q
  unfold s1c
  cases fa ρ with
  | ok x =>
    obtain ⟨a, ρ1⟩ := x
    intro q v H1 A1 B1 G1 r1 d1 al1 st1
    simp only [R.bind_ok] at q
    cases ho : ownOf ρ1 [a] with
    | none => rw [ho] at q; exact q.elim
    | some ts =>
      have rr := ownOf_reps G1 (AvReps.cons r1 .nil (fun _ h => h) (fun b (h : emp b) => h.elim) fun _ _ (z : emp _) => z.elim) ho
      rw [ho] at q
      match ts, rr, q with
      | [], _, q => exact q.elim
      | [t], ⟨x, r0, B2, C2, e, h1, h2, s1, s2, d⟩, q =>
        have e2 : r0 = [] := h2
        subst e2
        cases e
        dsimp only at q
        cases hg : g t with
        | none => rw [hg] at q; exact q.elim
        | some y =>
          rw [hg] at q
          refine hr H1 t _ B1 y (Rep.mono s1 _ _ h1) al1 hg Q fun v' H' B' e3 rep sub al' => q v' H' A1 B' (G1.ext e3) rep (fun b hb ha => (sub b hb).elim (fun z => d1 b z ha) fun z => G1.alA b ha z) al' ?_
          refine (st1.trans (Step.ext (A := un A1 B1) (B := fun b => B' b ∧ H1 b = none) e3 fun b hb => hb.2)).mono fun b hb => ?_
          rcases hb with hb | hb
          · exact .inl (.inl hb)
          · rcases sub b hb with z | z
            · exact .inl (.inr z)
            · exact .inr ⟨hb, z⟩
      | _ :: _ :: _, _, q => exact q.elim
  | exc e x => exact fun q => q
  | bad => exact fun q => q.elim
variable {a : Expr} {p pos : Pos} {f : Env → R Unit T} {sf : Env → R Env (AV × Env)} {rn : List V → Hp → VK → Prop} {g : T → Option T} {x : Str} {id : String}
theorem q_callTyO {Ty : String} (hc : CallR X (.type Ty) rn) (hr : OkC X.K rn g) (hg : Gl X x) (hm : X.mg x = none) (hv : bootBuiltins x = some (.type Ty)) (ha : JQ X W .o a f) (hn : x ≠ "__name__" := by decide) (hdb : (x == ("__debug__" : Str)) = false := by decide)
    (he : starEach [a] X.env = (false, eval a X.env) :: starEach [] X.env := by rfl) (hpl : (backTo pos (starEach [] X.env)).any (·.1) = false := by rfl) : JQ X W .o (.Call (.Name x p) [a] [] pos) (f1 g f) :=
  peM (pe_callTy hc hg hm hv (pa_cons ha pa_nil he) hn hdb he hpl) fun _ _ _ q => fq_take hr q
theorem s_callTyO {Ty : String} (hc : CallR X (.type Ty) rn) (hr : OkC X.K rn g) (hg : Gl X x) (hm : X.mg x = none) (hv : bootBuiltins x = some (.type Ty)) (ha : JS X W a sf) (hn : x ≠ "__name__" := by decide) (hdb : (x == ("__debug__" : Str)) = false := by decide)
    (he : starEach [a] X.env = (false, eval a X.env) :: starEach [] X.env := by rfl) (hpl : (backTo pos (starEach [] X.env)).any (·.1) = false := by rfl) : JS X W (.Call (.Name x p) [a] [] pos) (s1c g sf) :=
  peM (pe_callTy hc hg hm hv (pa_cons ha pa_nil he) hn hdb he hpl) fun _ _ _ q => fs_take hr q
def gTupO : T → Option T
  | .lst ts => some (mkT ts)
  | .pv (.tup ps) => some (.pv (.tup ps))
  | .tup ts => some (.tup ts)
  | _ => none
theorem k_tupO : OkC K (fun xs H Q => ∃ p ys, xs = [.ref p] ∧ ((SqL K H p ys ∧ ∀ l, H l = none → Q (.ref l) (upd H l (.tup ys))) ∨ (SqT K H p ys ∧ Q (.ref p) H))) gTupO := by
  intro H t v A q r al e Q n
  unfold gTupO at e
  split at e
  · rename_i ts
    cases e
    obtain ⟨a, xs, rfl, hq, m, hv⟩ := r
    exact ⟨a, xs, rfl, .inl ⟨.inl (.inl hq), fun p hp0 => n _ _ A (Ext.new hp0) (rep_mkT upd_same (Reps.mono (fun b hb => hb.1) _ _ (hv.ext (Ext.new hp0)))) (fun b hb => .inl hb) ((Ext.new hp0).al al)⟩⟩
  · cases e
    obtain ⟨a, xs, rfl, hq, hv⟩ := r
    exact ⟨a, xs, rfl, .inr ⟨.inl (.inl hq), n _ _ A (Ext.refl H) ⟨a, xs, rfl, hq, hv⟩ (fun b hb => .inl hb) al⟩⟩
  · cases e
    obtain ⟨a, xs, rfl, hq, hv⟩ := r
    exact ⟨a, xs, rfl, .inr ⟨.inl (.inl hq), n _ _ A (Ext.refl H) ⟨a, xs, rfl, hq, hv⟩ (fun b hb => .inl hb) al⟩⟩
  · cases e
def gLstO : T → Option T
  | .lst ts => some (.lst ts)
  | .pv (.tup ps) => some (.lst (ps.map .pv))
  | .tup ts => some (.lst ts)
  | _ => none
theorem rep_lst_new {ts : List T} {p : Addr} {xs : List V} {A : Fp} (hp : H p = none) (al : Al H A) (r : Reps H ts xs A) : Rep (upd H p (.lst xs)) (.lst ts) (.ref p) (un (fun b => b = p) A) :=
  ⟨p, xs, rfl, upd_same, .inl rfl, Reps.mono (fun b hb => ⟨.inr hb, fun z => al b hb (by rw [z]; exact hp)⟩) _ _ (r.ext (Ext.new hp))⟩
theorem k_lstO : OkC K (fun xs H Q => ∃ p ys, xs = [.ref p] ∧ (SqL K H p ys ∨ SqT K H p ys) ∧ ∀ l, H l = none → Q (.ref l) (upd H l (.lst ys))) gLstO := by
  intro H t v A q r al e Q n
  have fin : ∀ {ts : List T} {xs : List V}, Reps H ts xs A → q = .lst ts → ∀ p, H p = none → Q (.ref p) (upd H p (.lst xs)) := fun hv e p hp0 => by
    subst e
    exact n _ _ _ (Ext.new hp0) (rep_lst_new hp0 al hv) (fun b hb => hb.elim (fun z => .inr (by rw [z]; exact hp0)) .inl) fun b hb => hb.elim (fun z => by rw [z, upd_same]; intro c; cases c) ((Ext.new hp0).al al b)
  unfold gLstO at e
  split at e
  · cases e
    obtain ⟨a, xs, rfl, hq, m, hv⟩ := r
    exact ⟨a, xs, rfl, .inl (.inl (.inl hq)), fin (Reps.mono (fun b hb => hb.1) _ _ hv) rfl⟩
  · cases e
    obtain ⟨a, xs, rfl, hq, hv⟩ := r
    exact ⟨a, xs, rfl, .inr (.inl (.inl hq)), fin (pvs_reps hv) rfl⟩
  · cases e
    obtain ⟨a, xs, rfl, hq, hv⟩ := r
    exact ⟨a, xs, rfl, .inr (.inl (.inl hq)), fin hv rfl⟩
  · cases e
def pairT : T → Option (P × T)
  | .pv (.tup [k, v]) => if (keyOf k).isSome = true then some (k, .pv v) else none
  | .tup [.pv k, v] => if (keyOf k).isSome = true then some (k, v) else none
  | _ => none
def pairsT : List T → Option (List P × List T)
  | [] => some ([], [])
  | t :: ts => (pairT t).bind fun kv => (pairsT ts).map fun r => (kv.1 :: r.1, kv.2 :: r.2)
def nodupB : List P → Bool
  | [] => true
  | p :: ps => !(idxP ps p).isSome && nodupB ps
theorem nodupB_iff : ∀ {ps : List P}, nodupB ps = true ↔ ps.Nodup
  | [] => by simp [nodupB]
  | p :: ps => by
    unfold nodupB
    rw [Bool.and_eq_true, List.nodup_cons, nodupB_iff]
    cases h : idxP ps p with
    | none => simp [idxP_none.mp h]
    | some j =>
      have := idxP_some h
      simp [List.mem_of_getElem? this]
def gDictO : T → Option T
  | .lst ts => (pairsT ts).bind fun r => if nodupB r.1 = true then some (.dct false r.1 r.2) else none
  | _ => none
theorem pair_ok {t : T} {v : V} {A : Fp} {k : P} {u : T} (r : Rep H t v A) (e : pairT t = some (k, u)) : ∃ p k' w, v = .ref p ∧ k = keyP k' ∧ H p = some (.tup [kV k', w]) ∧ Rep H u w A := by
  unfold pairT at e
  split at e
  · rename_i k0 v0
    split at e
    · rename_i hk
      cases e
      obtain ⟨a, xs, rfl, hq, x, r1, e1, h1, y, r2, e2, h2, e3⟩ := r
      subst e1 e2
      have e3' : r2 = [] := e3
      subst e3'
      obtain ⟨k', hk'⟩ := Option.isSome_iff_exists.mp hk
      have ek := keyOf_eq hk'
      subst ek
      rw [repP_key h1] at hq
      exact ⟨a, k', y, rfl, rfl, hq, h2⟩
    · cases e
  · rename_i k0 v0
    split at e
    · rename_i hk
      cases e
      obtain ⟨a, xs, rfl, hq, x, r1, B, C, e1, h1, h2, s1, s2, d⟩ := r
      obtain ⟨y, r2, B2, C2, e2, h3, h4, s3, s4, d2⟩ := h2
      subst e1 e2
      have e3' : r2 = [] := h4
      subst e3'
      obtain ⟨k', hk'⟩ := Option.isSome_iff_exists.mp hk
      have ek := keyOf_eq hk'
      subst ek
      have h1' : RepP H (keyP k') x := h1
      rw [repP_key h1'] at hq
      exact ⟨a, k', y, rfl, rfl, hq, Rep.mono (fun b hb => s2 b (s3 b hb)) _ _ h3⟩
    · cases e
  · cases e
theorem pairs_ok : ∀ {ts : List T} {xs : List V} {A : Fp} {ks : List P} {us : List T}, Reps H ts xs A → pairsT ts = some (ks, us) →
    ∃ (ps : List Addr) (kvs : List (Key × V)), xs = ps.map V.ref ∧ Paired (fun p kv => SqT K H p [kV kv.1, kv.2]) ps kvs ∧ ks = kvs.map (fun e => keyP e.1) ∧ Reps H us (kvs.map (·.2)) A
  | [], _, _, _, _, h, e => by
    have e1 := h; unfold Reps at e1; subst e1
    cases e
    exact ⟨[], [], rfl, .nil, rfl, rfl⟩
  | t :: ts, _, A, _, _, ⟨x, r, B, C, e0, h1, h2, s1, s2, d⟩, e => by
    subst e0
    unfold pairsT at e
    cases hp : pairT t with
    | none => rw [hp] at e; cases e
    | some kv =>
      obtain ⟨k, u⟩ := kv
      cases hp2 : pairsT ts with
      | none => rw [hp, hp2] at e; cases e
      | some rr =>
        obtain ⟨ks', us'⟩ := rr
        rw [hp, hp2] at e
        cases e
        obtain ⟨p, k', w, rfl, rfl, hq, hw⟩ := pair_ok h1 hp
        obtain ⟨ps, kvs, rfl, pr, rfl, rr⟩ := pairs_ok h2 hp2
        exact ⟨p :: ps, (k', w) :: kvs, rfl, .cons (.inl (.inl hq)) pr, rfl, w, _, B, C, rfl, hw, rr, s1, s2, d⟩
theorem merge_nodup : ∀ (more kvs : List (Key × V)), (kvs ++ more).map (fun e => keyP e.1) |>.Nodup → mergeK kvs more = kvs ++ more
  | [], kvs, _ => by simp [mergeK]
  | e :: more, kvs, h => by
    have hn : idxP (kvs.map fun e => keyP e.1) (keyP e.1) = none := idxP_none.mpr fun hm => by
      rw [List.map_append, List.map_cons] at h
      exact (List.nodup_append.mp h).2.2 _ hm _ List.mem_cons_self rfl
    have e1 : putK kvs e.1 e.2 = kvs ++ [e] := by rw [putK_new' (f := keyP) (fun _ _ => keyP_inj) e.1 e.2 hn]
    show mergeK (putK kvs e.1 e.2) more = _
    rw [e1, merge_nodup more (kvs ++ [e]) (by simpa using h)]
    simp
theorem k_dictO : OkC K (fun xs H Q => ∃ (a : Addr) (ps : List Addr) (kvs : List (Key × V)), xs = [.ref a] ∧ SqL K H a (ps.map V.ref) ∧ Paired (fun p kv => SqT K H p [kV kv.1, kv.2]) ps kvs ∧
    ∀ p, H p = none → Q (.ref p) (upd H p (.dK (mergeK [] kvs)))) gDictO := by
  intro H t v A q r al e Q n
  unfold gDictO at e
  split at e
  · rename_i ts
    cases hp : pairsT ts with
    | none => rw [hp] at e; cases e
    | some rr =>
      obtain ⟨ks, us⟩ := rr
      rw [hp] at e
      have e : (if nodupB ks = true then some (T.dct false ks us) else none) = some q := e
      split at e
      · rename_i hn
        cases e
        obtain ⟨a, xs, rfl, hq, m, hv⟩ := r
        obtain ⟨ps, kvs, rfl, pr, rfl, hus⟩ := pairs_ok (K := K) hv hp
        have nd := nodupB_iff.mp hn
        refine ⟨a, ps, kvs, rfl, .inl (.inl hq), pr, fun p hp0 => ?_⟩
        rw [merge_nodup kvs [] (by simpa using nd)]
        have e2 := Ext.new (o := .dK ([] ++ kvs)) hp0
        refine n _ _ (un (fun b => b = p) A) e2 ⟨p, _, rfl, ⟨nd, kvs, upd_same, rfl, rfl⟩, .inl rfl, Reps.mono (fun b hb => ⟨.inr hb.1, fun z => al b hb.1 (by rw [z]; exact hp0)⟩) _ _ (hus.ext e2)⟩ (fun b hb => hb.elim (fun z => .inr (by rw [z]; exact hp0)) .inl) fun b hb => hb.elim (fun z => by rw [z, upd_same]; intro c; cases c) (e2.al al b)
      · cases e
  · cases e
def gDictV : List T → Option T
  | [.dct false ks ts] => (pvs ts).map fun ps => .dct false ks (ps.map .pv)
  | _ => none
theorem k_dictV : OkN K (fun xs H Q => ∃ (a : Addr) (kvs : List (Key × V)), xs = [.ref a] ∧ Rd H a (.dK kvs) ∧ ∀ p, H p = none → Q (.ref p) (upd H p (.dK kvs))) gDictV := by
  intro H ts vs q h e Q n
  unfold gDictV at e
  split at e
  · rename_i ks us
    obtain ⟨v, rfl, h1⟩ := vws1 h
    cases hp : pvs us with
    | none => rw [hp] at e; cases e
    | some ps =>
      rw [hp] at e
      cases e
      have e2 := pvs_eq hp
      subst e2
      obtain ⟨a, xs, rfl, ⟨nd, kv, hd, e1, e2⟩, hv⟩ := h1
      refine ⟨a, kv, rfl, hd.elim (fun z => .inl z.1) fun ⟨o, z⟩ => .inr ⟨o, z⟩, fun p hp0 => ?_⟩
      have e3 := Ext.new (o := .dK kv) hp0
      exact n _ _ (fun b => b = p) e3 ⟨p, xs, rfl, ⟨nd, kv, upd_same, e1, e2⟩, rfl, pvs_reps ((vws_pvs hv).ext e3)⟩ (fun b hb => by rw [hb]; exact hp0) fun b hb => by rw [hb, upd_same]; intro c; cases c
  · cases e
end
end TR
namespace TR
open PySem PySem.Spec PyProof.Rows L2
section
variable {X : Cx} {W : WX} {K : PySem.W.Frag} {H : Hp} {mg : Str → Option Value} {kp : Nat → Bool}
def isiT (a n : String) : Option Bool := if (Value.type a == Value.type n) = true then some true else if PySem.W.kitMeta n = true then (fastBuiltinMro a).map (fun x => x.contains (.type n)) else none
theorem isiT_ok {a n : String} {b : Bool} (h : isiT a n = some b) : PySem.W.kitOne K (.type a) (.type n) = some b := h
def tyN : T → String
  | .pv .non => "NoneType"
  | .pv (.bl _) => "bool"
  | .pv (.int _) => "int"
  | .pv (.str _) => "str"
  | .pv (.tup _) => "tuple"
  | .tup _ => "tuple"
  | .lst _ => "list"
  | .fls _ => "list"
  | .dct _ _ _ => "dict"
def frozenT : T → Bool
  | .dct true _ _ => true
  | _ => false
theorem tyX_of {Z : Fp} {t : T} {v : V} (h : Vw K Z H t v) (hf : frozenT t = false) : TyX K H v (.type (tyN t)) := by
  cases t with
  | pv p =>
    cases p with
    | non => have e := h; unfold Vw RepP at e; subst e; exact .base .non
    | bl b => have e := h; unfold Vw RepP at e; subst e; exact .base (.bl b)
    | int b => have e := h; unfold Vw RepP at e; subst e; exact .base (.int b)
    | str b => have e := h; unfold Vw RepP at e; subst e; exact .base (.str b)
    | tup ps => obtain ⟨a, xs, rfl, q, _⟩ := h; exact .base (.tup q)
  | tup ts => obtain ⟨a, xs, rfl, q, _⟩ := h; exact .base (.tup q)
  | lst ts => obtain ⟨a, xs, rfl, q, _⟩ := h; exact .base (.lst q.1)
  | fls ts =>
    obtain ⟨a, xs, rfl, q, _⟩ := h
    rcases q with ⟨o, q⟩ | ⟨o, its, n, q1, q2, _⟩
    · exact .base (.frz q)
    · exact .kList q1 q2
  | dct tk ks ts =>
    cases tk with
    | true => cases hf
    | false =>
      obtain ⟨a, xs, rfl, ⟨_, kv, q, _⟩, _⟩ := h
      rcases q with q | ⟨o, q⟩
      · exact .base (.dK q.1)
      · exact .fDict q
def fIsi (n : String) (f : Env → R Unit T) : Env → R Unit T := fun ρ => (f ρ).bind fun t => if frozenT t = false then (match isiT (tyN t) n with
  | some b => .ok (.pv (.bl b))
  | none => .bad) else .bad
def sIsi (n : String) (f : Env → R Env (AV × Env)) : Env → R Env (AV × Env) := fun ρ => (f ρ).bind fun (a, ρ1) => match a.see ρ1 with
  | some t => if frozenT t = false then (match isiT (tyN t) n with
    | some b => .ok (.val (.pv (.bl b)), ρ1)
    | none => .bad) else .bad
  | none => .bad
theorem pe_tyname {n : String} {x : Str} {pos : Pos} (hg : Gl X x) (hm : X.mg x = none) (hv : bootBuiltins x = some (.type n)) (hn : x ≠ "__name__" := by decide) (hdb : (x == ("__debug__" : Str)) = false := by decide) : PE X (.Name x pos) (tC (.ty n)) :=
  ⟨fun pins s σ H Q I h => ld_blt I hg hm hv ⟨.ty n, H, I, rfl, h⟩ hn hdb⟩
theorem boot_isinstance' : bootBuiltins "isinstance" = some (.builtin "isinstance") := by decide +kernel
variable {e : Expr} {p pos p2 : Pos} {f : Env → R Unit T}
theorem q_isi {n : String} {x : Str} (hg : Gl X "isinstance") (hm : X.mg "isinstance" = none) (hg2 : Gl X x) (hm2 : X.mg x = none) (hv : bootBuiltins x = some (.type n)) (ha : JQ X W .e e f) (hn : x ≠ "__name__" := by decide) (hdb : (x == ("__debug__" : Str)) = false := by decide)
    (he : starEach [e, .Name x p2] X.env = (false, eval e X.env) :: starEach [.Name x p2] X.env := by rfl) (he2 : starEach [.Name x p2] X.env = (false, eval (.Name x p2) X.env) :: starEach [] X.env := by rfl)
    (hpl : (backTo pos (starEach [.Name x p2] X.env)).any (·.1) = false := by rfl) : JQ X W .o (.Call (.Name "isinstance" p) [e, .Name x p2] [] pos) (fIsi n f) :=
  peM (pe_callB call_isi hg hm boot_isinstance' (pa_cons ha (pa_cons (pe_tyname hg2 hm2 hv hn hdb) pa_nil he2) he) (by decide) (by decide) he hpl) fun σ H Q ⟨ρ, Z, A, G, q⟩ => by
    refine ⟨ρ, Z, A, G, ?_⟩
    revert q
    unfold fIsi
    cases f ρ with
    | ok t =>
      intro q v H1 e1 r1
      rw [R.bind_ok] at q
      by_cases hf : frozenT t = false
      · rw [if_pos hf] at q
        cases hb : isiT (tyN t) n with
        | none => rw [hb] at q; exact q.elim
        | some b =>
          rw [hb] at q
          exact ⟨v, .ty n, _, _, b, rfl, .ty n, tyX_of r1 hf, isiT_ok hb, q (.bl b) H1 e1 ⟨emp, rfl, fun _ z => z.elim, fun _ z => z.elim⟩⟩
      · rw [if_neg hf] at q; exact q.elim
    | exc e x => exact fun q => q
    | bad => exact fun q => q.elim
def tAugF (i : Nat) (g : T → T → Option T) (fe : Env → R Unit T) : FF := fun ρ => match ρ[i]? with
  | some (.ow (.pv old)) => liftQ (fe ρ) ρ fun t => match g (.pv old) t with
    | some (.pv new) => .ok (.nx, ρ.set i (.ow (.pv new)))
    | _ => .bad
  | some (.vw (.pv old)) => liftQ (fe ρ) ρ fun t => match g (.pv old) t with
    | some (.pv new) => .ok (.nx, ρ.set i (.ow (.pv new)))
    | _ => .bad
  | _ => .bad
theorem t_aug (i : Nat) {x : Str} {op : Operator} {r : R2} {g : T → T → Option T} {fe : Env → R Unit T} {pos' : Pos} (hN : X.N.Nodup) (hi : X.N[i]? = some x) (hx : Loc X.env.scope x) (ho : PIp X op r) (hr : Ok2 X.K r g) (he : JQ X W .e e fe) (hk : kp i = false := by rfl)
    (hf : X.fn x = true ∨ X.env.scope.names.lookup x = some .local := by first | exact .inl rfl | exact .inr rfl | assumption) : JT X W kp (.AugAssign (.Name x pos') op e pos) (tAugF i g fe) := psM (ps_aug hN hi hx he ho hf) fun D σ H h => by
  obtain ⟨ρ, Z, A, G, q⟩ := FT_iff.mp h
  have main : ∀ (v : V) (old : P), σ[i]? = some (some v) → i < ρ.length → RepP H old v → EndT X.K X.mg W kp D σ H A (liftQ (fe ρ) ρ fun t => match g (.pv old) t with
    | some (.pv new) => .ok (.nx, ρ.set i (.ow (.pv new)))
    | _ => .bad) → ∃ x, σ[i]? = some (some x) ∧ FQ X.K X.mg W .e fe σ H fun y H1 => r x y H1 fun z H2 => D.nx (σ.set i (some z)) H2 := by
    intro v old hv hl rv q
    refine ⟨v, hv, ρ, Z, A, G, ?_⟩
    revert q
    cases fe ρ with
    | ok t =>
      intro q w H1 e1 r1
      have q : EndT X.K X.mg W kp D σ H A (match g (.pv old) t with
        | some (.pv new) => .ok (.nx, ρ.set i (.ow (.pv new)))
        | _ => .bad) := q
      cases hg : g (.pv old) t with
      | none => rw [hg] at q; exact q.elim
      | some u =>
        rw [hg] at q
        cases u with
        | pv new =>
          refine hr H1 (.pv old) t v w (.pv new) (RepP.kp (fun b _ h => e1 b _ h) old v rv) r1 hg _ fun v' H' B e3 rep fr al => ?_
          have G' := G.ext (e1.trans e3)
          have rep0 : Rep H' (.pv new) v' emp := rep
          obtain ⟨C, G2, sc⟩ := Good.set G' hl rep0 (fun _ z => z.elim) (fun _ z => z.elim) (fun _ z => z.elim)
          exact q _ H' _ _ G2 ((Step.ext0 (e1.trans e3)).trans ((Step.refl H' A).mono fun b hb => (sc b hb).elim id fun z => z.elim)) (Agree.set hk)
        | _ => exact q.elim
    | exc e x => exact fun q cls d H' e2 x => q cls d σ H' Z A (G.ext e2) (Step.ext0 e2) Agree.refl x
    | bad => exact fun q => q.elim
  unfold tAugF at q
  cases hi2 : ρ[i]? with
  | none => rw [hi2] at q; exact q.elim
  | some s =>
    have hl : i < ρ.length := (List.getElem?_eq_some_iff.mp hi2).1
    obtain ⟨o, B, h1, h2, h3⟩ := slot_of G.env hi2
    rw [hi2] at q
    cases s with
    | no => exact q.elim
    | ow t =>
      cases t with
      | pv old =>
        obtain ⟨v, e1, rv⟩ := h2
        exact main v old (by rw [h1, e1]) hl rv q
      | _ => exact q.elim
    | vw t =>
      cases t with
      | pv old =>
        obtain ⟨v, e1, rv⟩ := h2
        exact main v old (by rw [h1, e1]) hl rv q
      | _ => exact q.elim
theorem Reps.append {H : Hp} : ∀ {ts us : List T} {xs ys : List V} {A B : Fp}, Reps H ts xs A → Reps H us ys B → Disj A B → Reps H (ts ++ us) (xs ++ ys) (un A B)
  | [], _, _, _, _, _, h, h', _ => by have e := h; unfold Reps at e; subst e; exact Reps.mono (fun _ z => .inr z) _ _ h'
  | t :: ts, _, _, _, _, _, ⟨x, r, C, D, e, h1, h2, s1, s2, d⟩, h', dd => by
    subst e
    exact ⟨x, r ++ _, C, un D _, rfl, h1, Reps.append h2 h' (fun a z1 z2 => dd a (s2 a z1) z2), fun a z => .inl (s1 a z), fun a z => z.imp (s2 a) id, fun a z1 z2 => z2.elim (d a z1) (dd a (s1 a z1))⟩
theorem Reps.erase {H : Hp} : ∀ {ts : List T} {xs : List V} {A : Fp} {j : Nat} {t : T}, Reps H ts xs A → ts[j]? = some t → ∃ x B C, xs[j]? = some x ∧ Rep H t x B ∧ Reps H (ts.eraseIdx j) (xs.eraseIdx j) C ∧ Sub B A ∧ Sub C A ∧ Disj B C
  | t :: ts, _, A, 0, t0, ⟨x, r, B, C, e, h1, h2, s1, s2, d⟩, e0 => by
    have e' : t = t0 := by simpa using e0
    subst e' e
    exact ⟨x, B, C, rfl, h1, by simpa using h2, s1, s2, d⟩
  | t :: ts, _, A, j + 1, t0, ⟨x, r, B, C, e, h1, h2, s1, s2, d⟩, e0 => by
    subst e
    obtain ⟨y, B', C', e1, r1, rr, sb, sc, dd⟩ := Reps.erase (j := j) h2 (by simpa using e0)
    refine ⟨y, B', un B C', by simpa using e1, r1, ?_, fun a z => s2 a (sb a z), fun a z => z.elim (s1 a) fun w => s2 a (sc a w), fun a z1 z2 => z2.elim (fun w => d a w (sb a z1)) (dd a z1)⟩
    rw [List.eraseIdx_cons_succ, List.eraseIdx_cons_succ]
    exact ⟨x, _, B, C', rfl, h1, rr, fun a z => .inl z, fun a z => .inr z, fun a z1 z2 => d a z1 (sc a z2)⟩
  | [], _, _, _, _, _, e0 => by simp at e0
theorem lst_put {H : Hp} {a : Addr} {xs ys : List V} (h : H a = some (.lst xs)) {A : Fp} (ha : A a) : MutAt A H (upd H a (.lst ys)) := ⟨a, _, _, ha, h, trivial, rfl⟩
theorem Reps.put {H : Hp} {a : Addr} {xs ys : List V} (h : H a = some (.lst xs)) {ts : List T} {zs : List V} {A : Fp} (r : Reps H ts zs A) (n : ¬ A a) : Reps (upd H a (.lst ys)) ts zs A :=
  Reps.kp ((lst_put (A := fun b => b = a) h rfl).kp (C := A) (Z := emp) (fun b z1 z2 => n (by rw [← z2]; exact z1)) fun _ z => z.elim) _ _ r
theorem Rep.put {H : Hp} {a : Addr} {xs ys : List V} (h : H a = some (.lst xs)) {t : T} {z : V} {A : Fp} (r : Rep H t z A) (n : ¬ A a) : Rep (upd H a (.lst ys)) t z A :=
  Rep.kp ((lst_put (A := fun b => b = a) h rfl).kp (C := A) (Z := emp) (fun b z1 z2 => n (by rw [← z2]; exact z1)) fun _ z => z.elim) _ _ r
def muAppend : T → List T → Option (T × T)
  | .lst ts, [u] => if ts.length < 16777216 then some (.lst (ts ++ [u]), .pv .non) else none
  | _, _ => none
theorem m_append : OkM rAppend muAppend := by
  intro H t v A args vs B t' q r ra d e Q n
  unfold muAppend at e
  split at e
  · rename_i ts u
    split at e
    · rename_i hl
      cases e
      obtain ⟨a, xs, rfl, hq, m, hv⟩ := r
      obtain ⟨y, r0, C, D, rfl, h1, h2, s1, s2, dd⟩ := ra
      have e2 : r0 = [] := h2
      subst e2
      have hlen := Reps.len hv
      refine ⟨a, xs, y, rfl, rfl, hq, by rw [hlen, sizeLine_eq]; exact hl, ?_⟩
      refine n _ _ (un A B) emp ⟨a, xs ++ [y], rfl, upd_same, .inl m, ?_⟩ rfl (fun _ z => z.elim) (fun b z => z.elim id fun y => y.elim) (lst_put hq m)
      have nC : ¬ C a := fun z => d a (s1 a z) m
      have r1 := Reps.put (ys := xs ++ [y]) hq hv (fun z => z.2 rfl)
      have r2 : Reps (upd H a (.lst (xs ++ [y]))) [u] [y] C := ⟨y, [], C, emp, rfl, Rep.put hq h1 nC, rfl, fun _ z => z, fun _ z => z.elim, fun _ _ z => z.elim⟩
      exact Reps.mono (fun b z => z.elim (fun z => ⟨.inl z.1, z.2⟩) fun z => ⟨.inr (s1 b z), fun e => nC (by rw [← e]; exact z)⟩) _ _ (Reps.append r1 r2 fun b z1 z2 => d b (s1 b z2) z1.1)
    · cases e
  · cases e
def muPopAt (ts : List T) (j : Nat) : Option (T × T) := (ts[j]?).map fun t => (.lst (ts.eraseIdx j), t)
theorem pop_core {H : Hp} {ts : List T} {a : Addr} {xs : List V} {A : Fp} {j : Nat} {t' q : T} (hq : H a = some (.lst xs)) (m : A a) (hv : Reps H ts xs (fun b => A b ∧ b ≠ a)) (e : muPopAt ts j = some (t', q)) {Q : VK}
    (n : ∀ v' H' D E, Rep H' t' (.ref a) D → Rep H' q v' E → Disj E D → Sub (un D E) A → MutAt A H H' → Q v' H') : ∃ y, xs[j]? = some y ∧ Q y (upd H a (.lst (xs.eraseIdx j))) := by
  unfold muPopAt at e
  cases ht : ts[j]? with
  | none => rw [ht] at e; cases e
  | some t =>
    rw [ht] at e
    cases e
    obtain ⟨x, B, C, e1, r1, rr, sb, sc, dd⟩ := Reps.erase hv ht
    refine ⟨x, e1, n x _ (un (fun b => b = a) C) B ⟨a, _, rfl, upd_same, .inl rfl, Reps.mono (fun b z => ⟨.inr z, (sc b z).2⟩) _ _ (Reps.put hq rr fun z => (sc a z).2 rfl)⟩ (Rep.put hq r1 fun z => (sb a z).2 rfl) (fun b z1 z2 => z2.elim (fun z => (sb b z1).2 z) (dd b z1)) (fun b z => z.elim (fun z => z.elim (fun z => by rw [z]; exact m) fun z => (sc b z).1) fun z => (sb b z).1) (lst_put hq m)⟩
def muPop : T → List T → Option (T × T)
  | .lst ts, [] => muPopAt ts (ts.length - 1)
  | _, _ => none
theorem m_pop : OkM rPop muPop := by
  intro H t v A args vs B t' q r ra d e Q n
  unfold muPop at e
  split at e
  · rename_i ts
    obtain ⟨a, xs, rfl, hq, m, hv⟩ := r
    have ev : vs = [] := ra
    subst ev
    have hl := Reps.len hv
    obtain ⟨y, e1, q1⟩ := pop_core (Q := Q) hq m hv e fun v' H' D E h1 h2 h3 h4 h5 => n v' H' D E h1 h2 h3 (fun b z => .inl (h4 b z)) h5
    rw [← hl] at e1 q1
    have hpos : 0 < xs.length := by
      rcases Nat.eq_zero_or_pos xs.length with z | z
      · have := List.length_eq_zero_iff.mp z
        subst this
        cases e1
      · exact z
    have hd : xs.dropLast = xs.eraseIdx (xs.length - 1) := by rw [List.dropLast_eq_take, List.eraseIdx_eq_take_drop_succ, List.drop_of_length_le (by omega), List.append_nil]
    exact ⟨a, xs, y, rfl, rfl, hq, e1, by rw [hd]; exact q1⟩
  · cases e
def muPopI : T → List T → Option (T × T)
  | .lst ts, [.pv (.int i)] => if -(2 ^ 62) ≤ i ∧ i < 2 ^ 62 then (ixN ts.length i).bind fun j => muPopAt ts j else none
  | _, _ => none
theorem m_popI : OkM rPopAt muPopI := by
  intro H t v A args vs B t' q r ra d e Q n
  unfold muPopI at e
  split at e
  · rename_i ts i
    obtain ⟨a, xs, rfl, hq, m, hv⟩ := r
    obtain ⟨y0, r0, C, D, rfl, h1, h2, s1, s2, dd⟩ := ra
    have e2 : r0 = [] := h2
    subst e2
    have hl := Reps.len hv
    by_cases hb : -(2 ^ 62) ≤ i ∧ i < 2 ^ 62
    · rw [if_pos hb] at e
      cases hi : ixN ts.length i with
      | none => rw [hi] at e; cases e
      | some j =>
        rw [hi] at e
        have e : muPopAt ts j = some (t', q) := e
        obtain ⟨y, e1, q1⟩ := pop_core (Q := Q) hq m hv e fun v' H' D E h1 h2 h3 h4 h5 => n v' H' D E h1 h2 h3 (fun b z => .inl (h4 b z)) h5
        rw [← hl] at hi
        obtain ⟨k1, k2, k3, k4⟩ := ixN_seq hi
        have hy : y0 = .int i := h1
        subst hy
        exact ⟨a, xs, i, j, y, rfl, rfl, hq, by omega, by omega, k1, e1, q1⟩
    · rw [if_neg hb] at e; cases e
  · cases e
end
end TR
namespace TR
open PySem PySem.Spec PyProof.Rows L2
structure CalW (P : Program) (w : World) (K : PySem.W.Frag) (mg : Str → Option Value) (base : Heap) (k : Nat) (x : Str) (g : Fn) : Prop where
  ex : ∃ (f : Addr) (fd : FuncData) (ps : List Str), FnOk P w K mg base (L2.CX P w) k f fd ps (spF K mg g) ∧ mg x = some (.ref f) ∧ PySem.W.keepIn K (.ref f) = true ∧ Binds K fd ps []
theorem CalW.mono {P : Program} {w : World} {K : PySem.W.Frag} {mg : Str → Option Value} {base : Heap} {j k : Nat} {x : Str} {g : Fn} (c : CalW P w K mg base j x g) (h : j ≤ k) : CalW P w K mg base k x g := by
  obtain ⟨f, fd, ps, F, r⟩ := c.ex
  exact ⟨f, fd, ps, F.mono h, r⟩
theorem CalW.of {P : Program} {w : World} {K : PySem.W.Frag} {mg : Str → Option Value} {base : Heap} {k : Nat} {x : Str} {g : Fn} {f : Addr} {fd : FuncData} {ps : List Str} (F : FnOk P w K mg base (L2.CX P w) k f fd ps (spF K mg g)) (h1 : mg x = some (.ref f)) (h2 : PySem.W.keepIn K (.ref f) = true) (h3 : Binds K fd ps []) : CalW P w K mg base k x g := ⟨⟨f, fd, ps, F, h1, h2, h3⟩⟩
theorem cal {X : Cx} {k : Nat} {x : Str} {g : Fn} (c : CalW X.prog X.w X.K X.mg X.base k x g) : Cal X k x g := ⟨c.ex⟩
theorem tk_no {X : Cx} : Takes X (fun _ _ _ _ => False) := fun _ _ ⟨_, _, _, _, _, _, _, _, _, _, _, _, _, _, _, _, w⟩ => w.elim
theorem blk_in {X : Cx} {N : List Str} {sc scope : Scope} {own : List (Str × Nat)} (hN : X.N = N) (hs : X.env.scope = sc) (h : blkC N sc scope own = true) : BlkOk X.N X.env.scope scope own := by
  subst hN hs
  exact blkOk_by h
theorem room_hu {k : Nat} {A : Around} (r : Room k A) : A.units + 100 < cLine := by have := r.un; omega
theorem room_hu1 {k : Nat} {A : Around} (r : Room k A) : A.units + 1 < cLine := by have := r.un; omega
section
variable {X : Cx} {K : PySem.W.Frag}
theorem pvr (i : Nat) {x : Str} {pos : Pos} (hN : X.N[i]? = some x := by rfl) (hv : Vis X.env.scope x := by first | exact Or.inl rfl | exact Or.inr (Or.inl rfl) | exact Or.inr (Or.inr rfl)) (hd : (x == ("__debug__" : Str)) = false := by decide)
    (hcd : (x == ("__classdict__" : Str)) = false := by decide) : PE X (.Name x pos) (tVar i) := pe_var hN hv hd hcd
def gAdd0 := gI (fun i j => i + j) yes2
theorem k_add0 : Ok2 K (rI0 fun i j => .int (i + j)) gAdd0 := k_I0
def cMul0 (i j : Int) : Bool := decide (-(2 ^ 64) < i ∧ i < 2 ^ 64) || decide (-(2 ^ 64) < j ∧ j < 2 ^ 64)
def gMul0 := gI (fun i j => i * j) cMul0
theorem k_mul0 : Ok2 K (rI CMul fun i j => .int (i * j)) gMul0 := k_I fun i j h => by
  unfold cMul0 at h
  rw [Bool.or_eq_true] at h
  exact h.imp of_decide_eq_true of_decide_eq_true
theorem pip_add : PIp X .Add (rI0 fun i j => .int (i + j)) := iop_add
theorem pip_sub : PIp X .Sub (rI0 fun i j => .int (i - j)) := iop_sub
theorem pip_mul : PIp X .Mult (rI CMul fun i j => .int (i * j)) := iop_mul
theorem pip_or : PIp X .BitOr (rI0 fun i j => .int (Builtin.bitOr i j)) := iop_or
end
theorem boot_isinstance : bootBuiltins "isinstance" = some (.builtin "isinstance") := by decide +kernel
def LawOk (g : Fn) : Prop := ∀ ns : List Int, ns.length ≤ 63 → ∃ ρ, g [.vw (.fls (ns.map fun i => .pv (.int i)))] = .ok (.pv (.bl true), ρ)
theorem law_sp {K : PySem.W.Frag} {mg : Str → Option Value} {g : Fn} (h : LawOk g) (H : Hp) (a : Addr) (ns : List Int) (hl : ns.length ≤ 63) (ho : Only H) (hs : SqL K H a (ns.map V.int)) : spF K mg g [.ref a] H (fun v _ => v = .bl true) fun _ _ _ => False := by
  obtain ⟨ρ, e⟩ := h ns hl
  have hv : Vws K top H (ns.map fun i => T.pv (.int i)) (ns.map V.int) := by
    clear hs e hl
    induction ns with
    | nil => rfl
    | cons i ns ih => exact ⟨_, _, rfl, rfl, ih⟩
  have fr : FrL K H a (ns.map V.int) := by
    rcases hs with hs | hs
    · rcases hs with hs | hs
      · rcases ho a with z | ⟨o, xs, z⟩
        · rw [z] at hs; cases hs
        · rw [z] at hs; cases hs
      · exact .inl hs
    · exact .inr hs
  refine ⟨[.vw (.fls (ns.map fun i => .pv (.int i)))], fun b => H b ≠ none, emp, ⟨⟨emp, emp, ⟨_, rfl, a, _, rfl, fr, Vws.alloc _ _ hv⟩, trivial, fun _ z => z, fun _ z => z, fun _ z => z.elim⟩, fun _ _ z => z, fun _ z => z, fun _ z => z.elim⟩, ?_⟩
  rw [e]
  exact fun v H' Z' A' B _ r _ _ _ => r
theorem walk_w {l : PySem.W.OpenLaw} {n k : Nat} {q : Program} {loose : List Str} {XP : (Str → Option Value) → Heap → Prop} {YP : World → Heap → Prop} {d : DefRec} {x : Str} (e1 : l.most = some n) (e2 : n ≤ sizeLine) (e3 : d.params.defaults = []) (r : Room k callerA)
    (F : ∀ (w : World) (mg : Str → Option Value) (fa : Addr) (h : Heap), YP w h → h.Ns mainGlobals mg → mg d.name = some (.ref fa) → ∃ (K : PySem.W.Frag) (fd : FuncData) (sp : Sp), K.In h ∧ (∀ (s : Shared) (u : Value), BindsTo s fd ⟨[u], []⟩ [(x, u)]) ∧
      (∀ (H : Hp) (a : Addr) (ns : List Int), ns.length ≤ n → Only H → SqL K H a (ns.map V.int) → sp [.ref a] H (fun v _ => v = .bl true) fun _ _ _ => False) ∧ ∀ base : Heap, K.In base → base.Ns mainGlobals mg → FnOk l.prog w K mg base (L2.CX l.prog w) k fa fd [x] sp) :
    PySem.W.WalkO q loose XP YP l.row.toRowW d [] (fun f vs => PySem.call f vs) := Att.attach_call e1 e3 fun w _ s1 mg _ fa _ _ _ _ a _ ns G Y _ _ _ hm ho hi hlen hg => by
  obtain ⟨K, fd, sp, i1, i2, i3, i4⟩ := F w mg fa _ Y G.T.g hm
  exact law_call i1 G.T.g G.T.b G.T.builtins G.T.nolimit hg ho hi (Nat.le_trans hlen e2) r i4 i2 (fun H o1 o2 => i3 H a ns hlen o1 o2) fun _ _ _ ⟨_, _, _, _, _, _, _, _, _, _, _, _, z⟩ => z.elim
end TR
namespace TR
open PySem PySem.Spec PyProof.Rows L2
@[simp] theorem fC_ap  (p : P) (ρ : Env) : fC p ρ = (.ok (.pv p)) := nr rfl
@[simp] theorem fVar_ap  (i : Nat) (ρ : Env) : fVar i ρ = (match ρ[i]? with
  | some (.ow t) => .ok t
  | some (.vw t) => .ok t
  | _ => .bad) := nr rfl
@[simp] theorem fVarZ_ap  (i : Nat) (ρ : Env) : fVarZ i ρ = (match ρ[i]? with
  | some (.ow (.pv p)) => .ok (.pv p)
  | some (.vw t) => .ok t
  | _ => .bad) := nr rfl
@[simp] theorem fLateN_ap  (i : Nat) (ρ : Env) : fLateN i ρ = (match ρ[i]? with
  | some (.ow _) => .ok (.late i, ρ)
  | some (.vw _) => .ok (.late i, ρ)
  | _ => .bad) := nr rfl
@[simp] theorem fMv_ap  (i : Nat) (ρ : Env) : fMv i ρ = (match ρ[i]? with
  | some (.ow t) => .ok (.val t, ρ.set i .no)
  | some (.vw (.pv p)) => .ok (.val (.pv p), ρ)
  | _ => .bad) := nr rfl
@[simp] theorem fPure_ap  (f : Env → R Unit T) (ρ : Env) : fPure f ρ = ((f ρ).bind fun t => match t with
  | .pv p => .ok (.pv p)
  | _ => .bad) := nr rfl
@[simp] theorem fVal_ap  (f : Env → R Unit T) (ρ : Env) : fVal f ρ = (match f ρ with
  | .ok t => .ok (.val t, ρ)
  | .exc e _ => .exc e ρ
  | .bad => .bad) := nr rfl
@[simp] theorem f1_ap  (g : T → Option T) (fa : Env → R Unit T) (ρ : Env) : f1 g fa ρ = ((fa ρ).bind fun t => R.of (g t)) := nr rfl
@[simp] theorem f2_ap  (g : T → T → Option T) (fa fb : Env → R Unit T) (ρ : Env) : f2 g fa fb ρ = ((fa ρ).bind fun t => (fb ρ).bind fun u => R.of (g t u)) := nr rfl
@[simp] theorem fN_ap  (g : List T → Option T) (fa : Env → R Unit (List T)) (ρ : Env) : fN g fa ρ = ((fa ρ).bind fun t => R.of (g t)) := nr rfl
@[simp] theorem s1_ap  (g : T → Option T) (fa : Env → R Env (AV × Env)) (ρ : Env) : s1 g fa ρ = ((fa ρ).bind fun (x, ρ1) => R.of ((x.see ρ1).bind fun t => (g t).map fun q => (AV.val q, ρ1))) := nr rfl
@[simp] theorem s2_ap  (g : T → T → Option T) (fa fb : Env → R Env (AV × Env)) (ρ : Env) : s2 g fa fb ρ = ((fa ρ).bind fun (x, ρ1) => (fb ρ1).bind fun (y, ρ2) =>
  R.of ((x.see ρ2).bind fun t => (y.see ρ2).bind fun u => (g t u).map fun q => (AV.val q, ρ2))) := nr rfl
@[simp] theorem sN_ap  (g : List T → Option T) (fa : Env → R Env (List AV × Env)) (ρ : Env) : sN g fa ρ = ((fa ρ).bind fun (xs, ρ1) => R.of ((sees ρ1 xs).bind fun ts => (g ts).map fun q => (AV.val q, ρ1))) := nr rfl
@[simp] theorem aNil_ap  (ρ : Env) : aNil  ρ = (.ok []) := nr rfl
@[simp] theorem aNilO_ap  (ρ : Env) : aNilO  ρ = (.ok []) := nr rfl
@[simp] theorem aCons_ap  (fa : Env → R Unit T) (fr : Env → R Unit (List T)) (ρ : Env) : aCons fa fr ρ = ((fa ρ).bind fun t => (fr ρ).bind fun ts => .ok (t :: ts)) := nr rfl
@[simp] theorem sNil_ap  (ρ : Env) : sNil  ρ = (.ok ([], ρ)) := nr rfl
@[simp] theorem sCons_ap  (fa : Env → R Env (AV × Env)) (fr : Env → R Env (List AV × Env)) (ρ : Env) : sCons fa fr ρ = ((fa ρ).bind fun (t, ρ1) => (fr ρ1).bind fun (ts, ρ2) => .ok (t :: ts, ρ2)) := nr rfl
@[simp] theorem fTup_ap  (f : Env → R Unit (List T)) (ρ : Env) : fTup f ρ = ((f ρ).bind fun ts => if ts.length ≤ 1000 then .ok (mkT ts) else .bad) := nr rfl
@[simp] theorem fLst_ap  (f : Env → R Unit (List T)) (ρ : Env) : fLst f ρ = ((f ρ).bind fun ts => if ts.length ≤ 1000 then .ok (.lst ts) else .bad) := nr rfl
@[simp] theorem sTup_ap  (f : Env → R Env (List AV × Env)) (ρ : Env) : sTup f ρ = ((f ρ).bind fun (as, ρ1) => match ownOf ρ1 as with
  | some ts => if ts.length ≤ 1000 then .ok (.val (mkT ts), ρ1) else .bad
  | none => .bad) := nr rfl
@[simp] theorem sLst_ap  (f : Env → R Env (List AV × Env)) (ρ : Env) : sLst f ρ = ((f ρ).bind fun (as, ρ1) => match ownOf ρ1 as with
  | some ts => if ts.length ≤ 1000 then .ok (.val (.lst ts), ρ1) else .bad
  | none => .bad) := nr rfl
@[simp] theorem fB_ap  (f : Env → R Unit T) (ρ : Env) : fB f ρ = ((f ρ).bind fun t => match t with
  | .pv (.bl b) => .ok b
  | _ => .bad) := nr rfl
@[simp] theorem sB_ap  (f : Env → R Env (AV × Env)) (ρ : Env) : sB f ρ = ((f ρ).bind fun (a, ρ1) => match a.see ρ1 with
  | some (.pv (.bl b)) => .ok (b, ρ1)
  | _ => .bad) := nr rfl
@[simp] theorem fAndT_ap  (f g : Env → R Unit Bool) (ρ : Env) : fAndT f g ρ = ((f ρ).bind fun b => if b = true then g ρ else .ok false) := nr rfl
@[simp] theorem fOrT_ap  (f g : Env → R Unit Bool) (ρ : Env) : fOrT f g ρ = ((f ρ).bind fun b => if b = true then .ok true else g ρ) := nr rfl
@[simp] theorem fNotT_ap  (f : Env → R Unit Bool) (ρ : Env) : fNotT f ρ = ((f ρ).bind fun b => .ok (!b)) := nr rfl
@[simp] theorem sAndT_ap  (f g : Env → R Env (Bool × Env)) (ρ : Env) : sAndT f g ρ = ((f ρ).bind fun (b, ρ1) => if b = true then g ρ1 else .ok (false, ρ1)) := nr rfl
@[simp] theorem sOrT_ap  (f g : Env → R Env (Bool × Env)) (ρ : Env) : sOrT f g ρ = ((f ρ).bind fun (b, ρ1) => if b = true then .ok (true, ρ1) else g ρ1) := nr rfl
@[simp] theorem sNotT_ap  (f : Env → R Env (Bool × Env)) (ρ : Env) : sNotT f ρ = ((f ρ).bind fun (b, ρ1) => .ok (!b, ρ1)) := nr rfl
@[simp] theorem fQS_ap  (f : Env → R Unit Bool) (ρ : Env) : fQS f ρ = (match f ρ with
  | .ok b => .ok (b, ρ)
  | .exc e _ => .exc e ρ
  | .bad => .bad) := nr rfl
@[simp] theorem fAndV_ap  (f : Env → R Unit T) (g : Env → R Unit T) (ρ : Env) : fAndV f g ρ = ((fB f ρ).bind fun b => if b = true then g ρ else .ok (.pv (.bl false))) := nr rfl
@[simp] theorem fOrV_ap  (f : Env → R Unit T) (g : Env → R Unit T) (ρ : Env) : fOrV f g ρ = ((fB f ρ).bind fun b => if b = true then .ok (.pv (.bl true)) else g ρ) := nr rfl
@[simp] theorem fNotV_ap  (f : Env → R Unit T) (ρ : Env) : fNotV f ρ = ((fB f ρ).bind fun b => .ok (.pv (.bl (!b)))) := nr rfl
@[simp] theorem fIf_ap  (c : Env → R Unit Bool) (f g : Env → R Unit T) (ρ : Env) : fIf c f g ρ = ((c ρ).bind fun b => if b = true then f ρ else g ρ) := nr rfl
@[simp] theorem sIf_ap  (c : Env → R Env (Bool × Env)) (f g : Env → R Env (AV × Env)) (ρ : Env) : sIf c f g ρ = ((c ρ).bind fun (b, ρ1) => if b = true then f ρ1 else g ρ1) := nr rfl
@[simp] theorem fChain_ap  (g g' : T → T → Option T) (fa fb fc : Env → R Unit T) (ρ : Env) : fChain g g' fa fb fc ρ = ((fa ρ).bind fun t => (fb ρ).bind fun u => match g t u with
  | some (.pv (.bl true)) => (fc ρ).bind fun w => R.of (g' u w)
  | some (.pv (.bl false)) => .ok (.pv (.bl false))
  | _ => .bad) := nr rfl
@[simp] theorem pNone_ap  (ρ : Env) : pNone  ρ = (.ok none) := nr rfl
@[simp] theorem pSome_ap  (f : Env → R Unit T) (ρ : Env) : pSome f ρ = ((f ρ).bind fun t => match t with
  | .pv (.int i) => .ok (some i)
  | _ => .bad) := nr rfl
@[simp] theorem fSl_ap  (f : Env → R Unit T) (l h : Env → R Unit (Option Int)) (ρ : Env) : fSl f l h ρ = ((f ρ).bind fun t => (l ρ).bind fun lo => (h ρ).bind fun hi => R.of (gSl t lo hi)) := nr rfl
@[simp] theorem pNil_ap  (ρ : Env) : pNil  ρ = (.ok []) := nr rfl
@[simp] theorem pSnoc_ap  (f : Env → R Unit (List P)) (g : Env → R Unit T) (ρ : Env) : pSnoc f g ρ = ((f ρ).bind fun ks => match g ρ with
  | .ok (.pv p) => .ok (ks ++ [p])
  | _ => .bad) := nr rfl
@[simp] theorem iSeqF_ap  (f : Env → R Unit T) (ρ : Env) : iSeqF f ρ = ((f ρ).bind fun t => R.of (seqSl t)) := nr rfl
@[simp] theorem iLst_ap  (g : List T → Option (List Sl)) (f : Env → R Unit (List T)) (ρ : Env) : iLst g f ρ = ((f ρ).bind fun ts => R.of (g ts)) := nr rfl
@[simp] theorem iQ_ap  (fi : Env → R Unit (List Sl)) (ρ : Env) : iQ fi ρ = (match fi ρ with
  | .ok ss => .ok (ss, ρ)
  | .exc e _ => .exc e ρ
  | .bad => .bad) := nr rfl
@[simp] theorem iSeqE_ap  (f : Env → R Env (AV × Env)) (ρ : Env) : iSeqE f ρ = ((f ρ).bind fun (a, ρ1) => match a with
  | .val t => R.of ((seqSl t).map fun ss => (ss, ρ1))
  | .late _ => .bad) := nr rfl
@[simp] theorem iLstE_ap  (g : List T → Option (List Sl)) (f : Env → R Env (List AV × Env)) (ρ : Env) : iLstE g f ρ = ((f ρ).bind fun (as, ρ1) => R.of ((sees ρ1 as).bind fun ts => (g ts).map fun ss => (ss, ρ1))) := nr rfl
@[simp] theorem fYes_ap  (ρ : Env) : fYes  ρ = (.ok true) := nr rfl
@[simp] theorem fCall_ap  (g : Fn) (fa : Env → R Unit (List T)) (ρ : Env) : fCall g fa ρ = ((fa ρ).bind fun ts => match g (ts.map argSl) with
  | .ok (t, _) => .ok t
  | .exc e _ => .exc e ()
  | .bad => .bad) := nr rfl
@[simp] theorem sCall_ap  (g : Fn) (io : List Bool) (fa : Env → R Env (List AV × Env)) (ρ : Env) : sCall g io fa ρ = ((fa ρ).bind fun (as, ρ1) => match takeA io as ρ1 with
  | none => .bad
  | some (args, ρ2) => match g args with
    | .ok (t, ss) => .ok (.val t, giveB io as ss ρ2)
    | .exc e ss => .exc e (giveB io as ss ρ2)
    | .bad => .bad) := nr rfl
@[simp] theorem fIsi_ap  (n : String) (f : Env → R Unit T) (ρ : Env) : fIsi n f ρ = ((f ρ).bind fun t => if frozenT t = false then (match isiT (tyN t) n with
  | some b => .ok (.pv (.bl b))
  | none => .bad) else .bad) := nr rfl
@[simp] theorem s1c_ap  (g : T → Option T) (fa : Env → R Env (AV × Env)) (ρ : Env) : s1c g fa ρ = ((fa ρ).bind fun (x, ρ1) => match ownOf ρ1 [x] with
  | some [t] => (match g t with
    | some q => .ok (.val q, ρ1)
    | none => .bad)
  | _ => .bad) := nr rfl
@[simp] theorem lstRg1_ap  (f : Env → R Unit T) (ρ : Env) : lstRg1 f ρ = ((f ρ).bind fun t => match t with
  | .pv (.int n) => if rgOkB 0 n = true then .ok (.lst ((rgP 0 n).map .pv)) else .bad
  | _ => .bad) := nr rfl
@[simp] theorem lstRg2_ap  (f g : Env → R Unit T) (ρ : Env) : lstRg2 f g ρ = ((f ρ).bind fun t => (g ρ).bind fun u => match t, u with
  | .pv (.int a), .pv (.int n) => if rgOkB a n = true then .ok (.lst ((rgP a n).map .pv)) else .bad
  | _, _ => .bad) := nr rfl
@[simp] theorem tupRg1_ap  (f : Env → R Unit T) (ρ : Env) : tupRg1 f ρ = ((f ρ).bind fun t => match t with
  | .pv (.int n) => if rgOkB 0 n = true then .ok (.pv (.tup (rgP 0 n))) else .bad
  | _ => .bad) := nr rfl
@[simp] theorem tupRg2_ap  (f g : Env → R Unit T) (ρ : Env) : tupRg2 f g ρ = ((f ρ).bind fun t => (g ρ).bind fun u => match t, u with
  | .pv (.int a), .pv (.int n) => if rgOkB a n = true then .ok (.pv (.tup (rgP a n))) else .bad
  | _, _ => .bad) := nr rfl
abbrev pvi (i : Int) : T := .pv (.int i)
abbrev pvs' (x : Str) : T := .pv (.str x)
abbrev sli (i : Int) : Sl := .ow (.pv (.int i))
@[simp] theorem see_val (t : T) (ρ : Env) : (AV.val t).see ρ = some t := nr rfl
@[simp] theorem see_late (i : Nat) (ρ : Env) : (AV.late i).see ρ = (ρ[i]?).bind Sl.t? := nr rfl
@[simp] theorem t?_ow (t : T) : (Sl.ow t).t? = some t := nr rfl
@[simp] theorem t?_vw (t : T) : (Sl.vw t).t? = some t := nr rfl
@[simp] theorem sees_nil (ρ : Env) : sees ρ [] = some [] := nr rfl
@[simp] theorem sees_cons (ρ : Env) (a : AV) (as : List AV) : sees ρ (a :: as) = (a.see ρ).bind fun t => (sees ρ as).map fun ts => t :: ts := nr rfl
@[simp] theorem ownOf_nil (ρ : Env) : ownOf ρ [] = some [] := nr rfl
@[simp] theorem ownOf_val (ρ : Env) (t : T) (as : List AV) : ownOf ρ (.val t :: as) = (ownOf ρ as).map fun ts => t :: ts := nr rfl
@[simp] theorem gAdd_ii (i j : Int) : gAdd (.pv (.int i)) (.pv (.int j)) = some (.pv (.int (i + j))) := nr rfl
@[simp] theorem gAdd0_ii (i j : Int) : gAdd0 (.pv (.int i)) (.pv (.int j)) = some (.pv (.int (i + j))) := nr rfl
@[simp] theorem gSub_ii (i j : Int) : gSub (.pv (.int i)) (.pv (.int j)) = some (.pv (.int (i - j))) := nr rfl
@[simp] theorem gMul_ii (i j : Int) : gMul (.pv (.int i)) (.pv (.int j)) = if cMul i j = true then some (.pv (.int (i * j))) else none := nr rfl
@[simp] theorem gMod_ii (i j : Int) : gMod (.pv (.int i)) (.pv (.int j)) = if 0 < j then some (.pv (.int (i % j))) else none := by
  unfold gMod gI
  simp
@[simp] theorem gDiv_ii (i j : Int) : gDiv (.pv (.int i)) (.pv (.int j)) = if cDiv i j = true then some (.pv (.int (i / j))) else none := nr rfl
@[simp] theorem gPow_ii (i j : Int) : gPow (.pv (.int i)) (.pv (.int j)) = if cPow i j = true then some (.pv (.int (i ^ j.toNat))) else none := nr rfl
@[simp] theorem gNeg_i (i : Int) : gNeg (.pv (.int i)) = some (.pv (.int (-i))) := nr rfl
theorem cDiv_lit {i j : Int} (h0 : 0 < j) (h1 : j < 2 ^ 64) : cDiv i j = true := by
  unfold cDiv
  have hb : j.natAbs < 2 ^ 64 := by omega
  have : j.natAbs.log2 < 64 := (Nat.log2_lt (by omega)).mpr hb
  simp [h0]
  omega
theorem cMul_l {i j : Int} (h0 : -(2 ^ 64) < i) (h1 : i < 2 ^ 64) : cMul i j = true := by
  unfold cMul
  simp only [Bool.or_eq_true, decide_eq_true_eq]
  exact .inl (.inl ⟨h0, h1⟩)
theorem cMul_r {i j : Int} (h0 : -(2 ^ 64) < j) (h1 : j < 2 ^ 64) : cMul i j = true := by
  unfold cMul
  simp only [Bool.or_eq_true, decide_eq_true_eq]
  exact .inl (.inr ⟨h0, h1⟩)
theorem okD_int (i : Int) : okD (.int i) = true := rfl
@[simp] theorem gEq_ii (i j : Int) : gEq (.pv (.int i)) (.pv (.int j)) = some (.pv (.bl (decide (i = j)))) := nr rfl
@[simp] theorem gNe_ii (i j : Int) : gNe (.pv (.int i)) (.pv (.int j)) = some (.pv (.bl (!decide (i = j)))) := nr rfl
@[simp] theorem gEq_ss (x y : Str) : gEq (.pv (.str x)) (.pv (.str y)) = some (.pv (.bl (x == y))) := nr rfl
@[simp] theorem gNe_ss (x y : Str) : gNe (.pv (.str x)) (.pv (.str y)) = some (.pv (.bl (!(x == y)))) := nr rfl
@[simp] theorem gLt_ii (i j : Int) : gLt (.pv (.int i)) (.pv (.int j)) = some (.pv (.bl (decide (i < j)))) := by
  show some (T.pv (P.bl (PySem.W.dataLt (.int i) (.int j)))) = _
  rw [PySem.W.dataLt_int]
@[simp] theorem gGt_ii (i j : Int) : gGt (.pv (.int i)) (.pv (.int j)) = some (.pv (.bl (decide (j < i)))) := by
  show some (T.pv (P.bl (PySem.W.dataLt (.int j) (.int i)))) = _
  rw [PySem.W.dataLt_int]
@[simp] theorem gLe_ii (i j : Int) : gLe (.pv (.int i)) (.pv (.int j)) = some (.pv (.bl (decide (i ≤ j)))) := by
  show some (T.pv (P.bl (!PySem.W.dataLt (.int j) (.int i)))) = _
  rw [PySem.W.dataLt_int]
  congr 3
  rw [Bool.eq_iff_iff]; simp
@[simp] theorem gGe_ii (i j : Int) : gGe (.pv (.int i)) (.pv (.int j)) = some (.pv (.bl (decide (j ≤ i)))) := by
  show some (T.pv (P.bl (!PySem.W.dataLt (.int i) (.int j)))) = _
  rw [PySem.W.dataLt_int]
  congr 3
  rw [Bool.eq_iff_iff]; simp
@[simp] theorem gMax2_ii (i j : Int) : gMax2 [.pv (.int i), .pv (.int j)] = some (.pv (.int (if j > i then j else i))) := nr rfl
@[simp] theorem gMin2_ii (i j : Int) : gMin2 [.pv (.int i), .pv (.int j)] = some (.pv (.int (if j < i then j else i))) := nr rfl
@[simp] theorem gInt_b (b : Bool) : gInt [.pv (.bl b)] = some (.pv (.int (if b then 1 else 0))) := nr rfl
@[simp] theorem gInt_i (b : Int) : gInt [.pv (.int b)] = some (.pv (.int b)) := nr rfl
@[simp] theorem gLen_l (ts : List T) : gLen [.lst ts] = some (.pv (.int ts.length)) := nr rfl
@[simp] theorem gLen_f (ts : List T) : gLen [.fls ts] = some (.pv (.int ts.length)) := nr rfl
@[simp] theorem gLen_t (ps : List P) : gLen [.pv (.tup ps)] = some (.pv (.int ps.length)) := by
  show some (T.pv (P.int ((ps.map T.pv).length : Int))) = _
  rw [List.length_map]
@[simp] theorem gIx_l (ts : List T) (i : Int) : gIx (.lst ts) (.pv (.int i)) = atI ts i := nr rfl
@[simp] theorem gIx_t (ps : List P) (i : Int) : gIx (.pv (.tup ps)) (.pv (.int i)) = (atI ps i).map .pv := nr rfl
@[simp] theorem gIxP_t (ps : List P) (i : Int) : gIxP (.pv (.tup ps)) (.pv (.int i)) = (atI ps i).map .pv := by
  show pureO ((atI ps i).map .pv) = _
  cases atI ps i <;> rfl
theorem atI_nat' {α : Type} (xs : List α) (k : Nat) : atI xs (k : Int) = xs[k]? := by
  unfold atI ixN
  by_cases h : k < xs.length
  · simp [h]
  · simp [h]
@[simp] theorem atI_0 {α : Type} (x : α) (xs : List α) : atI (x :: xs) 0 = some x := atI_nat' (x :: xs) 0
@[simp] theorem atI_1 {α : Type} (x y : α) (xs : List α) : atI (x :: y :: xs) 1 = some y := atI_nat' (x :: y :: xs) 1
@[simp] theorem atI_2 {α : Type} (x y z : α) (xs : List α) : atI (x :: y :: z :: xs) 2 = some z := atI_nat' (x :: y :: z :: xs) 2
@[simp] theorem atI_3 {α : Type} (x y z w : α) (xs : List α) : atI (x :: y :: z :: w :: xs) 3 = some w := atI_nat' (x :: y :: z :: w :: xs) 3
theorem mkT_pv (ps : List P) : mkT (ps.map .pv) = .pv (.tup ps) := by unfold mkT; rw [pvs_map]
@[simp] theorem mkT_2 (p q : P) : mkT [.pv p, .pv q] = .pv (.tup [p, q]) := nr rfl
@[simp] theorem mkT_3 (p q r : P) : mkT [.pv p, .pv q, .pv r] = .pv (.tup [p, q, r]) := nr rfl
def Rn (N : Env → Prop) (Q : T → Env → Prop) : R Env (Fl × Env) → Prop
  | .ok (.nx, ρ) => N ρ
  | .ok (.rt t, ρ) => Q t ρ
  | _ => False
section
variable {N : Env → Prop} {Q : T → Env → Prop} {ρ : Env} {f g : FF}
theorem rn_imp {N' : Env → Prop} {Q' : T → Env → Prop} (n : ∀ ρ, N ρ → N' ρ) (q : ∀ t ρ, Q t ρ → Q' t ρ) : ∀ {o : R Env (Fl × Env)}, Rn N Q o → Rn N' Q' o
  | .ok (.nx, _), h => n _ h
  | .ok (.rt _, _), h => q _ _ h
  | .ok (.bk, _), h => h
  | .ok (.ct, _), h => h
  | .exc _ _, h => h
  | .bad, h => h
theorem rn_nx (h : N ρ) : Rn N Q (tNx ρ) := h
theorem rn_seq (h : Rn (fun ρ1 => Rn N Q (g ρ1)) Q (f ρ)) : Rn N Q (tSq f g ρ) := by
  unfold tSq
  generalize f ρ = o at h
  match o, h with
  | .ok (.nx, ρ1), h => exact h
  | .ok (.rt t, ρ1), h => exact h
theorem rn_if {c : Env → R Unit Bool} {b : Bool} (e : c ρ = .ok b) (h1 : b = true → Rn N Q (f ρ)) (h2 : b = false → Rn N Q (g ρ)) : Rn N Q (tIfQ c f g ρ) := by
  unfold tIfQ
  rw [e, liftQ_ok]
  cases b with
  | true => exact h1 rfl
  | false => exact h2 rfl
theorem rn_ifE {c : Env → R Env (Bool × Env)} {b : Bool} {ρ1 : Env} (e : c ρ = .ok (b, ρ1)) (h1 : b = true → Rn N Q (f ρ1)) (h2 : b = false → Rn N Q (g ρ1)) : Rn N Q (tIfE c f g ρ) := by
  unfold tIfE
  rw [e, R.bind_ok]
  cases b with
  | true => exact h1 rfl
  | false => exact h2 rfl
theorem rn_set {i : Nat} {fe : Env → R Unit T} {t : T} (e : fe ρ = .ok t) (hl : i < ρ.length) (h : N (ρ.set i (.ow t))) : Rn N Q (tSet i fe ρ) := by
  unfold tSet
  rw [e, liftQ_ok, if_pos hl]
  exact h
theorem rn_setE {i : Nat} {fe : Env → R Env (AV × Env)} {t : T} {ρ1 : Env} (e : fe ρ = .ok (.val t, ρ1)) (hl : i < ρ1.length) (h : N (ρ1.set i (.ow t))) : Rn N Q (tSetE i fe ρ) := by
  unfold tSetE
  rw [e, R.bind_ok]
  show Rn N Q (if i < ρ1.length then .ok (.nx, ρ1.set i (.ow t)) else .bad)
  rw [if_pos hl]
  exact h
theorem rn_setP {i : Nat} {fp : Env → R Unit (List P)} {fk fe : Env → R Unit T} {tv t t2 : T} {ks : List P} {p : P} (e1 : fe ρ = .ok tv) (e2 : fp ρ = .ok ks) (e3 : fk ρ = .ok (.pv p)) (e4 : ρ[i]? = some (.ow t)) (e5 : updPath ks (fun node => setKid node p tv) t = some t2) (h : N (ρ.set i (.ow t2))) : Rn N Q (tSetP i fp fk fe ρ) := by
  unfold tSetP
  rw [e1, liftQ_ok, e2, liftQ_ok, e3, e4]
  show Rn N Q (match updPath ks (fun node => setKid node p tv) t with
    | some t2 => .ok (.nx, ρ.set i (.ow t2))
    | none => .bad)
  rw [e5]
  exact h
theorem rn_ret {fe : Env → R Unit T} {t : T} (e : fe ρ = .ok t) (h : Q t ρ) : Rn N Q (tRetF fe ρ) := by
  unfold tRetF
  rw [e]
  exact h
theorem rn_retE {fe : Env → R Env (AV × Env)} {t : T} {ρ1 : Env} (e : fe ρ = .ok (.val t, ρ1)) (h : Q t ρ1) : Rn N Q (tRetE fe ρ) := by
  unfold tRetE
  rw [e]
  exact h
theorem rn_exp {fe : Env → R Unit T} {t : T} (e : fe ρ = .ok t) (h : N ρ) : Rn N Q (tExp fe ρ) := by
  unfold tExp
  rw [e]
  exact h
theorem rn_expE {fe : Env → R Env (AV × Env)} {a : AV} {ρ1 : Env} (e : fe ρ = .ok (a, ρ1)) (h : N ρ1) : Rn N Q (tExpE fe ρ) := by
  unfold tExpE
  rw [e]
  exact h
theorem rn_as {tg : TgF} {fe : Env → R Unit T} {t : T} {ρ1 : Env} (e : fe ρ = .ok t) (e2 : tg (.ow t) ρ = some ρ1) (h : N ρ1) : Rn N Q (tAs tg fe ρ) := by
  unfold tAs
  rw [e, liftQ_ok, e2]
  exact h
theorem rn_par {i j : Nat} {fe : Env → R Unit (List T)} {t u : T} (e : fe ρ = .ok [t, u]) (hl : i < ρ.length ∧ j < ρ.length) (h : N ((ρ.set i (.ow t)).set j (.ow u))) : Rn N Q (tPr i j fe ρ) := by
  unfold tPr
  rw [e, liftQ_ok]
  show Rn N Q (if i < ρ.length ∧ j < ρ.length then .ok (.nx, (ρ.set i (.ow t)).set j (.ow u)) else .bad)
  rw [if_pos hl]
  exact h
theorem forGo_run {tg : TgF} {b : FF} (I : Nat → Env → Prop) : ∀ (ss : List Sl) (i : Nat) (ρ : Env), I i ρ → (∀ j s ρ, ss[j]? = some s → I (i + j) ρ → ∃ ρ1, tg s ρ = some ρ1 ∧ Rn (fun ρ2 => I (i + j + 1) ρ2) Q (b ρ1)) → (∀ ρ, I (i + ss.length) ρ → N ρ) → Rn N Q (forGo tg b ss ρ)
  | [], i, ρ, h, _, fin => fin ρ h
  | s :: ss, i, ρ, h, st, fin => by
    obtain ⟨ρ1, e1, h1⟩ := st 0 s ρ rfl h
    show Rn N Q (match tg s ρ with
    | none => .bad
    | some ρ1 => match b ρ1 with
      | .ok (.nx, ρ2) => forGo tg b ss ρ2
      | .ok (.ct, ρ2) => forGo tg b ss ρ2
      | .ok (.bk, ρ2) => .ok (.nx, ρ2)
      | o => o)
    rw [e1]
    dsimp only
    generalize b ρ1 = o at h1
    match o, h1 with
    | .ok (.nx, ρ2), h1 =>
      refine forGo_run I ss (i + 1) ρ2 h1 (fun j s ρ e hI => ?_) (fun ρ hI => fin ρ ?_)
      · have := st (j + 1) s ρ (by simpa using e) (by rw [show i + (j + 1) = i + 1 + j by omega]; exact hI)
        rw [show i + (j + 1) + 1 = i + 1 + j + 1 by omega] at this
        exact this
      · rw [List.length_cons, show i + (ss.length + 1) = i + 1 + ss.length by omega]
        exact hI
    | .ok (.rt t, ρ2), h1 => exact h1
theorem rn_for {fi : Env → R Unit (List Sl)} {tg : TgF} {b : FF} (I : Nat → Env → Prop) {ss : List Sl} (e : fi ρ = .ok ss) (h0 : I 0 ρ) (st : ∀ j s ρ, ss[j]? = some s → I j ρ → ∃ ρ1, tg s ρ = some ρ1 ∧ Rn (fun ρ2 => I (j + 1) ρ2) Q (b ρ1)) (fin : ∀ ρ, I ss.length ρ → N ρ) : Rn N Q (tForF fi tg b ρ) := by
  unfold tForF
  rw [e, liftQ_ok]
  exact forGo_run I ss 0 ρ h0 (fun j s ρ e h => by rw [Nat.zero_add] at h ⊢; exact st j s ρ e h) fun ρ h => fin ρ (by rw [Nat.zero_add] at h; exact h)
theorem rn_forS {fi : Env → R Env (List Sl × Env)} {tg : TgF} {b : FF} (I : Nat → Env → Prop) {ss : List Sl} {ρ0 : Env} (e : fi ρ = .ok (ss, ρ0)) (h0 : I 0 ρ0) (st : ∀ j s ρ, ss[j]? = some s → I j ρ → ∃ ρ1, tg s ρ = some ρ1 ∧ Rn (fun ρ2 => I (j + 1) ρ2) Q (b ρ1)) (fin : ∀ ρ, I ss.length ρ → N ρ) : Rn N Q (tForS fi tg b ρ) := by
  unfold tForS
  rw [e, R.bind_ok]
  exact forGo_run I ss 0 ρ0 h0 (fun j s ρ e h => by rw [Nat.zero_add] at h ⊢; exact st j s ρ e h) fun ρ h => fin ρ (by rw [Nat.zero_add] at h; exact h)
theorem while_run {c : Env → R Unit Bool} {b : FF} (I : Nat → Env → Prop) (st : ∀ m ρ, I m ρ → (c ρ = .ok false ∧ N ρ) ∨ (c ρ = .ok true ∧ Rn (fun ρ2 => ∃ m', m' < m ∧ I m' ρ2) Q (b ρ))) : ∀ (n m : Nat) (ρ : Env), m < n → I m ρ → Rn N Q (whileGo c b n ρ)
  | 0, m, ρ, h, _ => absurd h (Nat.not_lt_zero _)
  | n + 1, m, ρ, h, hI => by
    unfold whileGo
    rcases st m ρ hI with ⟨e, q⟩ | ⟨e, q⟩
    · rw [e, liftQ_ok]
      exact q
    · rw [e, liftQ_ok, if_pos rfl]
      generalize b ρ = o at q
      match o, q with
      | .ok (.nx, ρ2), ⟨m', hm, q⟩ => exact while_run I st n m' ρ2 (by omega) q
      | .ok (.rt t, ρ2), q => exact q
theorem rn_while {c : Env → R Unit Bool} {b : FF} {n m : Nat} (I : Nat → Env → Prop) (hm : m < n) (h0 : I m ρ) (st : ∀ m ρ, I m ρ → (c ρ = .ok false ∧ N ρ) ∨ (c ρ = .ok true ∧ Rn (fun ρ2 => ∃ m', m' < m ∧ I m' ρ2) Q (b ρ))) : Rn N Q (whileGo c b n ρ) := while_run I st n m ρ hm h0
theorem fn_run {io : List Bool} {n : Nat} {b : FF} {args : Env} {G : T → Env → Prop} (hl : args.length = io.length) (h : Rn (fun ρ => G (.pv .non) (maskE io ρ)) (fun t ρ => G t (maskE io ρ)) (b (args ++ List.replicate (n - io.length) .no))) : ∃ t ρ', fnOf io n b args = .ok (t, ρ') ∧ G t ρ' := by
  unfold fnOf
  rw [if_pos hl]
  generalize b (args ++ List.replicate (n - io.length) .no) = o at h
  match o, h with
  | .ok (.nx, ρ2), h => exact ⟨_, _, rfl, h⟩
  | .ok (.rt t, ρ2), h => exact ⟨_, _, rfl, h⟩
theorem lc_run {α : Type} {g : TgF} {fc : Env → R Unit Bool} {fe : Env → R Unit T} {ρ : Env} (mk : α → Sl) (p : α → Bool) (h : α → T) : ∀ xs : List α, (∀ x ∈ xs, ∃ ρ1, g (mk x) ρ = some ρ1 ∧ fc ρ1 = .ok (p x) ∧ (p x = true → fe ρ1 = .ok (h x))) → lcGo g fc fe ρ (xs.map mk) = .ok ((xs.filter p).map h)
  | [], _ => rfl
  | x :: xs, H => by
    obtain ⟨ρ1, e1, e2, e3⟩ := H x List.mem_cons_self
    have ih := lc_run mk p h xs fun y hy => H y (List.mem_cons_of_mem _ hy)
    rw [List.map_cons]
    unfold lcGo
    rw [e1]
    dsimp only
    rw [e2]
    cases hp : p x with
    | true =>
      dsimp only
      rw [e3 hp]
      dsimp only
      rw [ih, R.bind_ok, List.filter_cons_of_pos hp, List.map_cons]
    | false =>
      dsimp only
      rw [ih, List.filter_cons_of_neg (by simp [hp])]
theorem lcE_run {g : TgF} {fc : Env → R Unit Bool} {fe : Env → R Env (AV × Env)} {vs : List Nat} (I : List T → Env → Prop) {L : Nat} : ∀ (ss : List Sl) (ts : List T) (ρ : Env), I ts ρ → ts.length + ss.length ≤ L → (∀ s ∈ ss, ∀ ts ρ, ts.length < L → I ts ρ → ∃ p ρ1 t ρ2, s = .ow (.pv p) ∧ g s ρ = some ρ1 ∧ fc ρ1 = .ok true ∧ fe ρ1 = .ok (.val t, ρ2) ∧ I (ts ++ [t]) (wipeE ρ2 vs)) →
    ∃ us ρ', lcGoE g fc fe vs ss ρ = .ok (us, ρ') ∧ us.length = ss.length ∧ I (ts ++ us) ρ'
  | [], ts, ρ, h, _, _ => ⟨[], ρ, rfl, rfl, by rw [List.append_nil]; exact h⟩
  | s :: ss, ts, ρ, h, hL, st => by
    obtain ⟨p, ρ1, t, ρ2, rfl, e1, e2, e3, h2⟩ := st s List.mem_cons_self ts ρ (by simp at hL; omega) h
    obtain ⟨us, ρ', e4, e5, h3⟩ := lcE_run I ss (ts ++ [t]) _ h2 (by simp at hL ⊢; omega) fun s hs => st s (List.mem_cons_of_mem _ hs)
    refine ⟨t :: us, ρ', ?_, by simp [e5], by simpa using h3⟩
    unfold lcGoE
    rw [e1]
    dsimp only
    rw [e2]
    dsimp only
    rw [e3]
    dsimp only
    rw [e4]
    rfl
theorem lcE_at {g : TgF} {fc : Env → R Unit Bool} {fe : Env → R Env (AV × Env)} {vs : List Nat} (I : List T → Env → Prop) : ∀ (ss : List Sl) (ts : List T) (ρ : Env), I ts ρ → (∀ j s us ρ, ss[j]? = some s → us.length = ts.length + j → I us ρ → ∃ p ρ1 t ρ2, s = .ow (.pv p) ∧ g s ρ = some ρ1 ∧ fc ρ1 = .ok true ∧ fe ρ1 = .ok (.val t, ρ2) ∧ I (us ++ [t]) (wipeE ρ2 vs)) →
    ∃ us ρ', lcGoE g fc fe vs ss ρ = .ok (us, ρ') ∧ us.length = ss.length ∧ I (ts ++ us) ρ'
  | [], ts, ρ, h, _ => ⟨[], ρ, rfl, rfl, by rw [List.append_nil]; exact h⟩
  | s :: ss, ts, ρ, h, st => by
    obtain ⟨p, ρ1, t, ρ2, rfl, e1, e2, e3, h2⟩ := st 0 s ts ρ rfl rfl h
    obtain ⟨us, ρ', e4, e5, h3⟩ := lcE_at I ss (ts ++ [t]) _ h2 fun j s us ρ hj hl => st (j + 1) s us ρ (by simpa using hj) (by simp at hl; omega)
    refine ⟨t :: us, ρ', ?_, by simp [e5], by simpa using h3⟩
    unfold lcGoE
    rw [e1]
    dsimp only
    rw [e2]
    dsimp only
    rw [e3]
    dsimp only
    rw [e4]
    rfl
theorem ixN_nat {n k : Nat} (h : k < n) : ixN n (k : Int) = some k := by
  unfold ixN
  rw [if_pos (by omega), if_pos (by omega)]
  simp
theorem fVal_of {f : Env → R Unit T} {ρ : Env} {t : T} (h : f ρ = .ok t) : fVal f ρ = .ok (.val t, ρ) := by rw [fVal_ap, h]
theorem f1_of {g : T → Option T} {f : Env → R Unit T} {ρ : Env} {t q : T} (h : f ρ = .ok t) (e : g t = some q) : f1 g f ρ = .ok q := by rw [f1_ap, h, R.bind_ok, e]; rfl
theorem f2_of {g : T → T → Option T} {f h : Env → R Unit T} {ρ : Env} {t u q : T} (h1 : f ρ = .ok t) (h2 : h ρ = .ok u) (e : g t u = some q) : f2 g f h ρ = .ok q := by rw [f2_ap, h1, R.bind_ok, h2, R.bind_ok, e]; rfl
theorem fN_of {g : List T → Option T} {f : Env → R Unit (List T)} {ρ : Env} {t : List T} {q : T} (h1 : f ρ = .ok t) (e : g t = some q) : fN g f ρ = .ok q := by rw [fN_ap, h1, R.bind_ok, e]; rfl
theorem aCons_of {f : Env → R Unit T} {h : Env → R Unit (List T)} {ρ : Env} {t : T} {ts : List T} (h1 : f ρ = .ok t) (h2 : h ρ = .ok ts) : aCons f h ρ = .ok (t :: ts) := by rw [aCons_ap, h1, R.bind_ok, h2]; rfl
theorem fPure_of {f : Env → R Unit T} {ρ : Env} {p : P} (h : f ρ = .ok (.pv p)) : fPure f ρ = .ok (.pv p) := by rw [fPure_ap, h]; rfl
theorem fB_of {f : Env → R Unit T} {ρ : Env} {b : Bool} (h : f ρ = .ok (.pv (.bl b))) : fB f ρ = .ok b := by rw [fB_ap, h]; rfl
theorem fNotT_of {f : Env → R Unit Bool} {ρ : Env} {b : Bool} (h : f ρ = .ok b) : fNotT f ρ = .ok (!b) := by rw [fNotT_ap, h]; rfl
theorem fTup_of {f : Env → R Unit (List T)} {ρ : Env} {ts : List T} (h : f ρ = .ok ts) (hl : ts.length ≤ 1000) : fTup f ρ = .ok (mkT ts) := by rw [fTup_ap, h, R.bind_ok, if_pos hl]
theorem fCall_of {g : Fn} {f : Env → R Unit (List T)} {ρ ρ' : Env} {ts : List T} {t : T} (h : f ρ = .ok ts) (e : g (ts.map argSl) = .ok (t, ρ')) : fCall g f ρ = .ok t := by rw [fCall_ap, h, R.bind_ok, e]
theorem s2_of {g : T → T → Option T} {f h : Env → R Env (AV × Env)} {ρ ρ1 ρ2 : Env} {a b : AV} {t u q : T} (h1 : f ρ = .ok (a, ρ1)) (h2 : h ρ1 = .ok (b, ρ2)) (h3 : a.see ρ2 = some t) (h4 : b.see ρ2 = some u) (e : g t u = some q) : s2 g f h ρ = .ok (.val q, ρ2) := by
  rw [s2_ap, h1, R.bind_ok]
  dsimp only
  rw [h2, R.bind_ok]
  dsimp only
  rw [h3, h4, Option.bind_some, Option.bind_some, e]; rfl
theorem sCons_of {f : Env → R Env (AV × Env)} {h : Env → R Env (List AV × Env)} {ρ ρ1 ρ2 : Env} {a : AV} {as : List AV} (h1 : f ρ = .ok (a, ρ1)) (h2 : h ρ1 = .ok (as, ρ2)) : sCons f h ρ = .ok (a :: as, ρ2) := by
  rw [sCons_ap, h1, R.bind_ok]
  dsimp only
  rw [h2]; rfl
theorem sTup_of {f : Env → R Env (List AV × Env)} {ρ ρ1 : Env} {as : List AV} {ts : List T} (h1 : f ρ = .ok (as, ρ1)) (h2 : ownOf ρ1 as = some ts) (hl : ts.length ≤ 1000) : sTup f ρ = .ok (.val (mkT ts), ρ1) := by
  rw [sTup_ap, h1, R.bind_ok]
  dsimp only
  rw [h2]
  dsimp only
  rw [if_pos hl]
theorem sLst_of {f : Env → R Env (List AV × Env)} {ρ ρ1 : Env} {as : List AV} {ts : List T} (h1 : f ρ = .ok (as, ρ1)) (h2 : ownOf ρ1 as = some ts) (hl : ts.length ≤ 1000) : sLst f ρ = .ok (.val (.lst ts), ρ1) := by
  rw [sLst_ap, h1, R.bind_ok]
  dsimp only
  rw [h2]
  dsimp only
  rw [if_pos hl]
theorem iQ_of {f : Env → R Unit (List Sl)} {ρ : Env} {ss : List Sl} (h : f ρ = .ok ss) : iQ f ρ = .ok (ss, ρ) := by rw [iQ_ap, h]
theorem iSeqF_of {f : Env → R Unit T} {ρ : Env} {t : T} {ss : List Sl} (h : f ρ = .ok t) (e : seqSl t = some ss) : iSeqF f ρ = .ok ss := by rw [iSeqF_ap, h, R.bind_ok, e]; rfl
theorem fLc_of {vs : List Nat} {fi : Env → R Unit (List Sl)} {g : TgF} {fc : Env → R Unit Bool} {fe : Env → R Unit T} {ρ : Env} {ss : List Sl} {ts : List T} (h : fi ρ = .ok ss) (e : lcGo g fc fe (wipeE (viewE ρ) vs) ss = .ok ts) : fLc vs fi g fc fe ρ = .ok (.lst ts) := by
  unfold fLc
  rw [h, R.bind_ok, e]; rfl
theorem sLc_of {vs : List Nat} {fi : Env → R Env (List Sl × Env)} {g : TgF} {fc : Env → R Unit Bool} {fe : Env → R Env (AV × Env)} {ρ ρ1 ρ2 : Env} {ss : List Sl} {ts : List T} (h : fi ρ = .ok (ss, ρ1)) (e : lcGoE g fc fe vs ss (wipeE ρ1 vs) = .ok (ts, ρ2)) : sLc vs fi g fc fe ρ = .ok (.val (.lst ts), ρ2) := by
  unfold sLc
  rw [h, R.bind_ok]
  dsimp only
  rw [e]
theorem s1c_of {g : T → Option T} {f : Env → R Env (AV × Env)} {ρ ρ1 : Env} {t q : T} (h1 : f ρ = .ok (.val t, ρ1)) (e : g t = some q) : s1c g f ρ = .ok (.val q, ρ1) := by
  rw [s1c_ap, h1, R.bind_ok]
  dsimp only
  rw [ownOf_val, ownOf_nil]
  show (match g t with
    | some q => R.ok (AV.val q, ρ1)
    | none => .bad) = _
  rw [e]
theorem sMethN_run {Ty : String} {i : Nat} {mu : T → List T → Option (T × T)} {fas : Env → R Env (List AV × Env)} {ρ ρ1 : Env} {t0 t t2 q : T} {as : List AV} {ts : List T} (h0 : ρ[i]? = some (.ow t0)) (hty : isTy Ty t0 = true) (h1 : fas ρ = .ok (as, ρ1)) (h2 : ρ1[i]? = some (.ow t)) (h3 : valsOf as = some ts) (h4 : mu t ts = some (t2, q)) :
    sMethN Ty i mu fas ρ = .ok (.val q, ρ1.set i (.ow t2)) := by
  unfold sMethN
  rw [h0]
  dsimp only
  rw [if_pos hty, h1, R.bind_ok]
  dsimp only
  rw [h2, h3]
  dsimp only
  rw [h4]
theorem sMeth_run {Ty : String} {i : Nat} {mu : T → List T → Option (T × T)} {fp : Env → R Unit (List P)} {fas : Env → R Unit (List T)} {ρ : Env} {t node node' q t2 : T} {ks : List P} {ts : List T} (h1 : fp ρ = .ok ks) (h0 : ρ[i]? = some (.ow t)) (h2 : lookPath ks t = some node) (hty : isTy Ty node = true) (h3 : fas ρ = .ok ts) (h4 : mu node ts = some (node', q)) (h5 : updPath ks (fun _ => some node') t = some t2) :
    sMeth Ty i mu fp fas ρ = .ok (.val q, ρ.set i (.ow t2)) := by
  unfold sMeth
  rw [h1, h0]
  dsimp only
  rw [h2]
  dsimp only
  rw [if_pos hty, h3]
  dsimp only
  rw [h4]
  dsimp only
  rw [h5]
@[simp] theorem isTy_l (ts : List T) : isTy "list" (.lst ts) = true := nr rfl
@[simp] theorem valsOf_nil : valsOf [] = some [] := nr rfl
@[simp] theorem valsOf_val (t : T) (as : List AV) : valsOf (.val t :: as) = (valsOf as).map fun ts => t :: ts := nr rfl
@[simp] theorem takeA_nil (ρ : Env) : takeA [] [] ρ = some ([], ρ) := nr rfl
@[simp] theorem takeA_f (io : List Bool) (a : AV) (as : List AV) (ρ : Env) : takeA (false :: io) (a :: as) ρ = (takeA io as ρ).bind fun (args, ρ') => (a.see ρ').map fun t => (argSl t :: args, ρ') := nr rfl
@[simp] theorem argSl_pv (p : P) : argSl (.pv p) = .ow (.pv p) := nr rfl
theorem muPopI_ok {ts : List T} {k : Nat} {t : T} (h : ts[k]? = some t) (hl : ts.length ≤ 16777216) : muPopI (.lst ts) [.pv (.int (k : Int))] = some (.lst (ts.eraseIdx k), t) := by
  have hk := (List.getElem?_eq_some_iff.mp h).1
  have hc : -(2 ^ 62) ≤ (k : Int) ∧ (k : Int) < 2 ^ 62 := ⟨by omega, by omega⟩
  unfold muPopI
  dsimp only
  rw [if_pos hc, ixN_nat hk]
  show (ts[k]?).map _ = _
  rw [h]; rfl
theorem muAppend_ok {ts : List T} {u : T} (hl : ts.length < 16777216) : muAppend (.lst ts) [u] = some (.lst (ts ++ [u]), .pv .non) := by
  simp only [muAppend, if_pos hl]
end
end TR
namespace TR
open PySem PySem.Spec PyProof.Rows L2
theorem map_erase {α β : Type} (f : α → β) : ∀ (l : List α) (d : Nat), (l.map f).eraseIdx d = (l.eraseIdx d).map f
  | [], _ => by simp
  | x :: l, 0 => by simp
  | x :: l, d + 1 => by simp [map_erase f l d]
theorem erase_perm {α : Type} : ∀ (l : List α) (d : Nat) (h : d < l.length), (l[d] :: l.eraseIdx d).Perm l
  | x :: l, 0, _ => by simp
  | x :: l, d + 1, h => by
    have ih := erase_perm l d (by simpa using h)
    simp only [List.getElem_cons_succ, List.eraseIdx_cons_succ]
    exact (List.Perm.swap x _ _).trans (ih.cons x)
def dF (nm : List Str) (g : Str → T) : T := .dct false (nm.map .str) (nm.map g)
def upF (g : Str → T) (x : Str) (t : T) : Str → T := fun y => if y = x then t else g y
theorem idx_str : ∀ (nm : List Str) (x : Str), x ∈ nm → ∃ j, idxP (nm.map .str) (.str x) = some j ∧ nm[j]? = some x
  | [], _, h => by cases h
  | y :: nm, x, h => by
    show ∃ j, (if P.str y = P.str x then some 0 else (idxP (nm.map .str) (.str x)).map (· + 1)) = some j ∧ (y :: nm)[j]? = some x
    by_cases e : y = x
    · subst e; exact ⟨0, by simp, rfl⟩
    · obtain ⟨j, e1, e2⟩ := idx_str nm x ((List.mem_cons.mp h).resolve_left fun z => e z.symm)
      refine ⟨j + 1, ?_, by simpa using e2⟩
      rw [if_neg (fun z => e (by injection z)), e1]; rfl
theorem dF_look {nm : List Str} {g : Str → T} {x : Str} (h : x ∈ nm) : lookT (nm.map .str) (nm.map g) (.str x) = some (g x) := by
  obtain ⟨j, e1, e2⟩ := idx_str nm x h
  unfold lookT
  rw [e1, Option.bind_some, List.getElem?_map, e2]; rfl
theorem gIx_dF {nm : List Str} {g : Str → T} {x : Str} (h : x ∈ nm) : gIx (dF nm g) (.pv (.str x)) = some (g x) := by
  show (if isKey false (.str x) = true then lookT (nm.map .str) (nm.map g) (.str x) else none) = _
  rw [if_pos (show isKey false (P.str x) = true from rfl), dF_look h]
theorem gIxP_dF {nm : List Str} {g : Str → T} {x : Str} {p : P} (h : x ∈ nm) (e : g x = .pv p) : gIxP (dF nm g) (.pv (.str x)) = some (.pv p) := by
  unfold gIxP
  rw [gIx_dF h, e]; rfl
theorem set_fun {nm : List Str} {g : Str → T} {x : Str} {t : T} : ∀ {j : Nat}, nm.Nodup → nm[j]? = some x → (nm.map g).set j t = nm.map (upF g x t) := by
  induction nm with
  | nil => intro j _ h; simp at h
  | cons y nm ih =>
    intro j nd h
    have nd' := List.nodup_cons.mp nd
    cases j with
    | zero =>
      have e : y = x := by simpa using h
      subst e
      rw [List.map_cons, List.set_cons_zero, List.map_cons]
      have e1 : upF g y t y = t := by unfold upF; rw [if_pos rfl]
      rw [e1]
      congr 1
      apply List.map_congr_left
      intro z hz
      unfold upF
      rw [if_neg (fun e : z = y => nd'.1 (e ▸ hz))]
    | succ j =>
      have h' : nm[j]? = some x := by simpa using h
      rw [List.map_cons, List.set_cons_succ, ih nd'.2 h', List.map_cons]
      congr 1
      unfold upF
      rw [if_neg (fun e : y = x => nd'.1 (e ▸ List.mem_of_getElem? h'))]
theorem setKid_dF {nm : List Str} {g : Str → T} {x : Str} {t : T} (nd : nm.Nodup) (hl : nm.length < 16777216) (h : x ∈ nm) : setKid (dF nm g) (.str x) t = some (dF nm (upF g x t)) := by
  obtain ⟨j, e1, e2⟩ := idx_str nm x h
  show (if isKey false (.str x) = true ∧ (nm.map P.str).length < 16777216 then (match idxP (nm.map .str) (.str x) with
      | some j => some (T.dct false (nm.map .str) ((nm.map g).set j t))
      | none => some (.dct false (nm.map .str ++ [.str x]) (nm.map g ++ [t]))) else none) = _
  rw [if_pos ⟨rfl, by simpa using hl⟩, e1]
  dsimp only
  rw [set_fun nd e2]; rfl
theorem setKid_dF_new {nm : List Str} {g : Str → T} {x : Str} {t : T} (hl : nm.length < 16777216) (h : x ∉ nm) (hg : g x = t) : setKid (dF nm g) (.str x) t = some (dF (nm ++ [x]) g) := by
  have e1 : idxP (nm.map .str) (.str x) = none := idxP_none.mpr fun hm => by
    obtain ⟨y, hy, e⟩ := List.mem_map.mp hm
    exact h ((show y = x by injection e) ▸ hy)
  show (if isKey false (.str x) = true ∧ (nm.map P.str).length < 16777216 then (match idxP (nm.map .str) (.str x) with
      | some j => some (T.dct false (nm.map .str) ((nm.map g).set j t))
      | none => some (.dct false (nm.map .str ++ [.str x]) (nm.map g ++ [t]))) else none) = _
  rw [if_pos ⟨rfl, by simpa using hl⟩, e1]
  dsimp only
  unfold dF
  rw [List.map_append, List.map_append, ← hg]; rfl
theorem kidT_dF {nm : List Str} {g : Str → T} {x : Str} (hl : nm.length < 16777216) (h : x ∈ nm) : kidT (dF nm g) (.str x) = some (g x) := by
  show (if isKey false (.str x) = true ∧ (nm.map P.str).length < 16777216 then lookT (nm.map .str) (nm.map g) (.str x) else none) = _
  rw [if_pos ⟨rfl, by simpa using hl⟩, dF_look h]
theorem nodup_strs {nm : List Str} (nd : nm.Nodup) : nodupB (nm.map .str) = true := nodupB_iff.mpr (by
  induction nm with
  | nil => exact List.nodup_nil
  | cons x nm ih =>
    have h := List.nodup_cons.mp nd
    rw [List.map_cons]
    refine List.nodup_cons.mpr ⟨fun hm => ?_, ih h.2⟩
    obtain ⟨y, hy, e⟩ := List.mem_map.mp hm
    exact h.1 ((show y = x by injection e) ▸ hy))
theorem gDict_names {nm : List Str} (g : Str → T) (nd : nm.Nodup) : gDictO (.lst (nm.map fun x => mkT [.pv (.str x), g x])) = some (dF nm g) := by
  have e : ∀ l : List Str, pairsT (l.map fun x => mkT [.pv (.str x), g x]) = some (l.map .str, l.map g) := by
    intro l
    induction l with
    | nil => rfl
    | cons x l ih =>
      have e1 : pairT (mkT [.pv (.str x), g x]) = some (.str x, g x) := by
        cases g x <;> rfl
      rw [List.map_cons]
      unfold pairsT
      rw [e1, ih]; rfl
  show ((pairsT (nm.map fun x => mkT [.pv (.str x), g x])).bind fun r => if nodupB r.1 = true then some (T.dct false r.1 r.2) else none) = _
  rw [e nm, Option.bind_some, if_pos (nodup_strs nd)]; rfl
theorem depthAll_le {ds : List PyData} {n : Nat} (h : ∀ d ∈ ds, d.depth ≤ n) : PyData.depthAll ds ≤ n := by
  induction ds with
  | nil => exact Nat.zero_le _
  | cons d ds ih =>
    show max d.depth (PyData.depthAll ds) ≤ n
    exact Nat.max_le.mpr ⟨h d List.mem_cons_self, ih fun e he => h e (List.mem_cons_of_mem _ he)⟩
theorem depth_tup {ps : List P} {n : Nat} (h : ∀ p ∈ ps, p.toD.depth ≤ n) : (P.tup ps).toD.depth ≤ n + 1 := by
  show PyData.depthAll (P.toDs ps) + 1 ≤ n + 1
  rw [P.toDs_map]
  exact Nat.succ_le_succ (depthAll_le fun d hd => by
    obtain ⟨p, hp, e⟩ := List.mem_map.mp hd
    rw [← e]; exact h p hp)
theorem okD_P {p : P} (h : p.toD.depth ≤ 50) : okD p.toD = true := by
  unfold okD
  rw [P.toD_plain, decide_eq_true h]; rfl
mutual
theorem eqv_refl : ∀ p : P, PyData.eqv p.toD p.toD = true
  | .non => rfl
  | .bl b => by show (b == b) = true; simp
  | .int b => by show (b == b) = true; simp
  | .str b => by show (b == b) = true; simp
  | .tup ps => eqvs_refl ps
theorem eqvs_refl : ∀ ps : List P, PyData.eqvAll (P.toDs ps) (P.toDs ps) = true
  | [] => rfl
  | p :: ps => by show (PyData.eqv p.toD p.toD && PyData.eqvAll (P.toDs ps) (P.toDs ps)) = true; rw [eqv_refl p, eqvs_refl ps]; rfl
end
theorem gNe_same {p : P} (h : p.toD.depth ≤ 50) : gNe (.pv p) (.pv p) = some (.pv (.bl false)) := by
  show (if (okD p.toD && okD p.toD) = true then some (T.pv (.bl (!PyData.eqv p.toD p.toD))) else none) = _
  rw [okD_P h, eqv_refl p]; rfl
theorem toDs_pv (ps : List P) : T.toDs (ps.map .pv) = P.toDs ps := by
  induction ps with
  | nil => rfl
  | cons p ps ih => show p.toD :: T.toDs (ps.map .pv) = p.toD :: P.toDs ps; rw [ih]
theorem gNe_nil {ps : List P} (h : ∀ p ∈ ps, p.toD.depth ≤ 49) : gNe (.lst (ps.map .pv)) (.lst []) = some (.pv (.bl (!ps.isEmpty))) := by
  have e : okD (T.lst (ps.map .pv)).toD = true := by
    unfold okD
    show (PyData.plainAll (T.toDs (ps.map .pv)) && decide (PyData.depthAll (T.toDs (ps.map .pv)) + 1 ≤ 50)) = true
    rw [toDs_pv, P.toDs_plain, P.toDs_map, decide_eq_true (Nat.succ_le_succ (depthAll_le fun d hd => by
      obtain ⟨p, hp, e⟩ := List.mem_map.mp hd
      rw [← e]; exact h p hp))]; rfl
  unfold gNe
  rw [e]
  show (if (true && true) = true then some (T.pv (.bl (!PyData.eqvAll (T.toDs (ps.map .pv)) []))) else none) = _
  cases ps <;> rfl
theorem gNe_empty : gNe (.lst []) (.lst []) = some (.pv (.bl false)) := rfl
theorem perm_map {α β : Type} {f : α → β} (g : β → α) (hg : ∀ a, g (f a) = a) {l : List β} {xs : List α} (h : l.Perm (xs.map f)) : ∃ ys : List α, l = ys.map f ∧ ys.Perm xs := by
  refine ⟨l.map g, ?_, ?_⟩
  · rw [List.map_map]
    conv => lhs; rw [← List.map_id l]
    apply List.map_congr_left
    intro b hb
    obtain ⟨a, _, e⟩ := List.mem_map.mp (h.mem_iff.mp hb)
    show b = f (g b)
    rw [← e, hg]
  · have := h.map g
    rw [List.map_map] at this
    have e : xs.map (g ∘ f) = xs := by
      conv => rhs; rw [← List.map_id xs]
      exact List.map_congr_left fun a _ => hg a
    rw [e] at this
    exact this
theorem sortP_perm (ps : List P) : (sortP ps).Perm ps := List.mergeSort_perm ps _
theorem gSorted_of {ps : List P} (h : sortB (ps.map P.toD) = true) : gSorted [.lst (ps.map .pv)] = some (.lst ((sortP ps).map .pv)) := by
  show ((pvs (ps.map .pv)).bind fun ps => if sortB (ps.map P.toD) = true then some (T.lst ((sortP ps).map .pv)) else none) = _
  rw [pvs_map, Option.bind_some, if_pos h]
theorem sortB_of {ps : List P} (h1 : ∀ p ∈ ps, ∀ q ∈ ps, PySem.W.alike p.toD q.toD = true) (h2 : (∀ p ∈ ps, tupNE p.toD = true) ∨ ∀ p ∈ ps, plainNT p.toD = true) (h3 : ∀ p ∈ ps, p.toD.depth ≤ 50) : sortB (ps.map P.toD) = true := by
  unfold sortB alikeB
  rw [Bool.and_eq_true, Bool.and_eq_true, Bool.or_eq_true]
  refine ⟨⟨List.all_eq_true.mpr fun d hd => List.all_eq_true.mpr fun e he => ?_, h2.imp (fun h => List.all_eq_true.mpr fun d hd => ?_) fun h => List.all_eq_true.mpr fun d hd => ?_⟩, List.all_eq_true.mpr fun d hd => decide_eq_true ?_⟩
  · obtain ⟨p, hp, e1⟩ := List.mem_map.mp hd
    obtain ⟨q, hq, e2⟩ := List.mem_map.mp he
    rw [← e1, ← e2]; exact h1 p hp q hq
  · obtain ⟨p, hp, e1⟩ := List.mem_map.mp hd
    rw [← e1]; exact h p hp
  · obtain ⟨p, hp, e1⟩ := List.mem_map.mp hd
    rw [← e1]; exact h p hp
  · obtain ⟨p, hp, e1⟩ := List.mem_map.mp hd
    rw [← e1]; exact h3 p hp
def unStr : P → Str
  | .str x => x
  | _ => "x"
def unInt : P → Int
  | .int x => x
  | _ => 0
theorem sorted_strs (xs : List Str) : ∃ ys : List Str, gSorted [.lst (xs.map fun x => T.pv (.str x))] = some (.lst (ys.map fun x => .pv (.str x))) ∧ ys.Perm xs := by
  have h : sortB ((xs.map P.str).map P.toD) = true := sortB_of (by
    intro p hp q hq
    obtain ⟨x, _, rfl⟩ := List.mem_map.mp hp
    obtain ⟨y, _, rfl⟩ := List.mem_map.mp hq
    rfl) (.inr fun p hp => by obtain ⟨x, _, rfl⟩ := List.mem_map.mp hp; rfl) fun p hp => by obtain ⟨x, _, rfl⟩ := List.mem_map.mp hp; exact Nat.zero_le _
  obtain ⟨ys, e1, e2⟩ := perm_map unStr (fun _ => rfl) (sortP_perm (xs.map P.str))
  refine ⟨ys, ?_, e2⟩
  have := gSorted_of h
  rw [e1, List.map_map, List.map_map] at this
  exact this
def enSS (x : Str × Str) : P := .tup [.str x.1, .str x.2]
def unSS : P → Str × Str
  | .tup [a, b] => (unStr a, unStr b)
  | _ => ("x", "x")
theorem sorted_pairs (xs : List (Str × Str)) : ∃ ys : List (Str × Str), gSorted [.lst (xs.map fun x => T.pv (enSS x))] = some (.lst (ys.map fun x => .pv (enSS x))) ∧ ys.Perm xs := by
  have h : sortB ((xs.map enSS).map P.toD) = true := sortB_of (by
    intro p hp q hq
    obtain ⟨x, _, rfl⟩ := List.mem_map.mp hp
    obtain ⟨y, _, rfl⟩ := List.mem_map.mp hq
    simp [enSS, P.toD, P.toDs, PySem.W.alike, PySem.W.alikeAll]) (.inl fun p hp => by obtain ⟨x, _, rfl⟩ := List.mem_map.mp hp; rfl) fun p hp => by
      obtain ⟨x, _, rfl⟩ := List.mem_map.mp hp
      exact Nat.le_trans (depth_tup (n := 0) (by intro p hp; simp at hp; rcases hp with rfl | rfl <;> exact Nat.zero_le _)) (by decide)
  obtain ⟨ys, e1, e2⟩ := perm_map unSS (fun _ => rfl) (sortP_perm (xs.map enSS))
  refine ⟨ys, ?_, e2⟩
  have := gSorted_of h
  rw [e1, List.map_map, List.map_map] at this
  exact this
theorem sorted_ints (xs : List Int) : ∃ ys : List Int, gSorted [.lst (xs.map fun x => T.pv (.int x))] = some (.lst (ys.map fun x => .pv (.int x))) ∧ ys.Perm xs ∧ ys.Pairwise (· ≤ ·) := by
  have h : sortB ((xs.map P.int).map P.toD) = true := sortB_of (by
    intro p hp q hq
    obtain ⟨x, _, rfl⟩ := List.mem_map.mp hp
    obtain ⟨y, _, rfl⟩ := List.mem_map.mp hq
    rfl) (.inr fun p hp => by obtain ⟨x, _, rfl⟩ := List.mem_map.mp hp; rfl) fun p hp => by obtain ⟨x, _, rfl⟩ := List.mem_map.mp hp; exact Nat.zero_le _
  obtain ⟨ys, e1, e2⟩ := perm_map unInt (fun _ => rfl) (sortP_perm (xs.map P.int))
  refine ⟨ys, ?_, e2, ?_⟩
  · have := gSorted_of h
    rw [e1, List.map_map, List.map_map] at this
    exact this
  · have hle : ∀ i j : Int, PySem.W.dataLe false P.toD (.int i) (.int j) = decide (i ≤ j) := fun i j => by
      show (!PySem.W.dataLt (.int j) (.int i)) = _
      rw [PySem.W.dataLt_int, PySem.W.not_lt_int]
    have tot : ∀ a b : Int, (decide (a ≤ b) || decide (b ≤ a)) = true := fun a b => by simp; omega
    have e3 : ys = xs.mergeSort (fun a b => decide (a ≤ b)) := by
      have hm : sortP (xs.map P.int) = (xs.mergeSort (fun a b => decide (a ≤ b))).map P.int := by
        unfold sortP
        rw [List.map_mergeSort]
        intro a _ b _
        exact (hle a b).symm
      rw [hm] at e1
      have := congrArg (List.map unInt) e1
      rw [List.map_map, List.map_map] at this
      have ei : ∀ l : List Int, l.map (unInt ∘ P.int) = l := fun l => by
        conv => rhs; rw [← List.map_id l]
        exact List.map_congr_left fun _ _ => rfl
      rw [ei, ei] at this
      exact this.symm
    rw [e3]
    exact (List.pairwise_mergeSort (le := fun a b : Int => decide (a ≤ b)) (fun a b c h1 h2 => by simp at *; omega) tot xs).imp fun h => by simpa using h
end TR
namespace TR
open PySem PySem.Spec PyProof.Rows L2
def join (lab : Str → Str) (a b : Str) : Str → Str := fun y => if lab y = lab b then lab a else lab y
def runE (lab : Str → Str) (E : List (Str × Str)) : Str → Str := E.foldl (fun l e => join l e.1 e.2) lab
theorem runE_snoc (lab : Str → Str) (E : List (Str × Str)) (e : Str × Str) : runE lab (E ++ [e]) = join (runE lab E) e.1 e.2 := by unfold runE; rw [List.foldl_append]; rfl
theorem join_mono {lab : Str → Str} {a b x y : Str} (h : lab x = lab y) : join lab a b x = join lab a b y := by unfold join; rw [h]
theorem join_ab (lab : Str → Str) (a b : Str) : join lab a b a = join lab a b b := by
  unfold join
  rw [if_pos (rfl : lab b = lab b)]
  split <;> rfl
theorem join_same {lab : Str → Str} {a b : Str} (h : lab a = lab b) : join lab a b = lab := by
  funext y
  unfold join
  split
  · rename_i e; rw [h, e]
  · rfl
theorem run_mono {x y : Str} : ∀ {E : List (Str × Str)} {lab : Str → Str}, lab x = lab y → runE lab E x = runE lab E y
  | [], _, h => h
  | e :: E, lab, h => run_mono (E := E) (lab := join lab e.1 e.2) (join_mono h)
theorem run_edge : ∀ {E : List (Str × Str)} {lab : Str → Str} {e : Str × Str}, e ∈ E → runE lab E e.1 = runE lab E e.2
  | e' :: E, lab, e, h => by
    rcases List.mem_cons.mp h with h | h
    · subst h
      exact run_mono (E := E) (lab := join lab e.1 e.2) (join_ab lab e.1 e.2)
    · exact run_edge (E := E) (lab := join lab e'.1 e'.2) h
theorem run_le {g : Str → Str} : ∀ {E : List (Str × Str)} {lab : Str → Str}, (∀ e ∈ E, g e.1 = g e.2) → (∀ x y, lab x = lab y → g x = g y) → ∀ x y, runE lab E x = runE lab E y → g x = g y
  | [], _, _, h, x, y, e => h x y e
  | e' :: E, lab, hg, h, x, y, e => by
    have he : g e'.1 = g e'.2 := hg e' List.mem_cons_self
    refine run_le (E := E) (lab := join lab e'.1 e'.2) (fun z hz => hg z (List.mem_cons_of_mem _ hz)) (fun u v q => ?_) x y e
    unfold join at q
    by_cases h1 : lab u = lab e'.2 <;> by_cases h2 : lab v = lab e'.2
    · rw [h u _ h1, h v _ h2]
    · rw [if_pos h1, if_neg h2] at q
      rw [h u _ h1, ← he, h _ v q]
    · rw [if_neg h1, if_pos h2] at q
      rw [h v _ h2, ← he, h u _ q]
    · rw [if_neg h1, if_neg h2] at q
      exact h u v q
def Idem (nm : List Str) (lab : Str → Str) : Prop := ∀ x ∈ nm, lab x ∈ nm ∧ lab (lab x) = lab x
def cnt (nm : List Str) (lab : Str → Str) : Nat := (nm.filter fun x => decide (lab x = x)).length
theorem idem_id (nm : List Str) : Idem nm (fun x => x) := fun x h => ⟨h, rfl⟩
theorem cnt_id (nm : List Str) : cnt nm (fun x => x) = nm.length := by unfold cnt; simp
theorem join_idem {nm : List Str} {lab : Str → Str} {a b : Str} (h : Idem nm lab) (ha : a ∈ nm) (hb : b ∈ nm) : Idem nm (join lab a b) := by
  intro x hx
  unfold join
  by_cases h1 : lab x = lab b
  · rw [if_pos h1]
    refine ⟨(h a ha).1, ?_⟩
    rw [(h a ha).2]
    split <;> rfl
  · rw [if_neg h1]
    refine ⟨(h x hx).1, ?_⟩
    rw [(h x hx).2, if_neg h1]
theorem filter_out {p : Str → Bool} {o : Str} : ∀ {nm : List Str}, nm.Nodup → o ∈ nm → p o = true → (nm.filter fun y => p y && !decide (y = o)).length + 1 = (nm.filter p).length
  | [], _, h, _ => by cases h
  | x :: nm, nd, h, hp => by
    have nd' := List.nodup_cons.mp nd
    by_cases e : x = o
    · subst e
      rw [List.filter_cons_of_neg (by simp), List.filter_cons_of_pos hp, List.length_cons]
      congr 2
      apply List.filter_congr
      intro y hy
      have : y ≠ x := fun z => nd'.1 (z ▸ hy)
      simp [this]
    · have ih := filter_out (nm := nm) nd'.2 ((List.mem_cons.mp h).resolve_left fun z => e z.symm) hp
      cases hx : p x with
      | true => rw [List.filter_cons_of_pos (by simp [hx, e]), List.filter_cons_of_pos hx, List.length_cons, List.length_cons, ih]
      | false => rw [List.filter_cons_of_neg (by simp [hx]), List.filter_cons_of_neg (by simp [hx]), ih]
theorem cnt_join {nm : List Str} {lab : Str → Str} {a b : Str} (nd : nm.Nodup) (h : Idem nm lab) (ha : a ∈ nm) (hb : b ∈ nm) (n : lab a ≠ lab b) : cnt nm (join lab a b) + 1 = cnt nm lab := by
  unfold cnt
  rw [← filter_out (p := fun x => decide (lab x = x)) (o := lab b) nd (h b hb).1 (by simp [(h b hb).2])]
  congr 2
  apply List.filter_congr
  intro y hy
  rw [Bool.eq_iff_iff]
  simp only [decide_eq_true_eq, Bool.and_eq_true, Bool.not_eq_true', decide_eq_false_iff_not]
  unfold join
  constructor
  · intro q
    by_cases h1 : lab y = lab b
    · rw [if_pos h1] at q
      rw [← q, (h a ha).2] at h1
      exact absurd h1 n
    · rw [if_neg h1] at q
      exact ⟨q, fun z => h1 (by rw [z, (h b hb).2])⟩
  · rintro ⟨q1, q2⟩
    rw [if_neg (fun z => q2 (by rw [← q1, z]))]
    exact q1
theorem cnt_join_le {nm : List Str} {lab : Str → Str} {a b : Str} (nd : nm.Nodup) (h : Idem nm lab) (ha : a ∈ nm) (hb : b ∈ nm) : cnt nm lab ≤ cnt nm (join lab a b) + 1 := by
  by_cases n : lab a = lab b
  · rw [join_same n]; omega
  · rw [cnt_join nd h ha hb n]; exact Nat.le_refl _
theorem run_idem {nm : List Str} : ∀ {E : List (Str × Str)} {lab : Str → Str}, Idem nm lab → (∀ e ∈ E, e.1 ∈ nm ∧ e.2 ∈ nm) → Idem nm (runE lab E)
  | [], _, h, _ => h
  | e :: E, lab, h, hE => run_idem (E := E) (join_idem h (hE e List.mem_cons_self).1 (hE e List.mem_cons_self).2) fun z hz => hE z (List.mem_cons_of_mem _ hz)
theorem run_cnt {nm : List Str} (nd : nm.Nodup) : ∀ {E : List (Str × Str)} {lab : Str → Str}, Idem nm lab → (∀ e ∈ E, e.1 ∈ nm ∧ e.2 ∈ nm) → cnt nm lab ≤ cnt nm (runE lab E) + E.length
  | [], _, _, _ => Nat.le_refl _
  | e :: E, lab, h, hE => by
    have h1 := cnt_join_le nd h (hE e List.mem_cons_self).1 (hE e List.mem_cons_self).2
    have h2 := run_cnt nd (E := E) (join_idem h (hE e List.mem_cons_self).1 (hE e List.mem_cons_self).2) fun z hz => hE z (List.mem_cons_of_mem _ hz)
    show cnt nm lab ≤ cnt nm (runE (join lab e.1 e.2) E) + (E.length + 1)
    omega
theorem cnt_one {nm : List Str} {lab : Str → Str} (nd : nm.Nodup) (h : Idem nm lab) (hne : nm ≠ []) (hc : ∀ x ∈ nm, ∀ y ∈ nm, lab x = lab y) : cnt nm lab = 1 := by
  obtain ⟨x0, r, rfl⟩ : ∃ x r, nm = x :: r := by
    cases nm with
    | nil => exact absurd rfl hne
    | cons x r => exact ⟨x, r, rfl⟩
  have hm := h x0 List.mem_cons_self
  have e := filter_out (p := fun x => decide (lab x = x)) (o := lab x0) nd hm.1 (by simp [hm.2])
  have z : ((x0 :: r).filter fun y => decide (lab y = y) && !decide (y = lab x0)) = [] := List.filter_eq_nil_iff.mpr fun y hy q => by
    simp only [Bool.and_eq_true, decide_eq_true_eq, Bool.not_eq_true', decide_eq_false_iff_not] at q
    exact q.2 (by rw [← q.1]; exact hc y hy x0 List.mem_cons_self)
  unfold cnt
  rw [← e, z]; rfl
theorem no_ring {nm : List Str} (nd : nm.Nodup) (hne : nm ≠ []) {E : List (Str × Str)} (hE : ∀ e ∈ E, e.1 ∈ nm ∧ e.2 ∈ nm) (hl : E.length + 1 = nm.length) (hc : ∀ x ∈ nm, ∀ y ∈ nm, runE (fun x => x) E x = runE (fun x => x) E y)
    {E1 E2 : List (Str × Str)} {e : Str × Str} (he : E = E1 ++ e :: E2) : runE (fun x => x) E1 e.1 ≠ runE (fun x => x) E1 e.2 := fun q => by
  subst he
  have h1 := cnt_one nd (run_idem (idem_id nm) hE) hne hc
  have m1 : ∀ z ∈ E1, z.1 ∈ nm ∧ z.2 ∈ nm := fun z hz => hE z (List.mem_append_left _ hz)
  have m2 : ∀ z ∈ E2, z.1 ∈ nm ∧ z.2 ∈ nm := fun z hz => hE z (List.mem_append_right _ (List.mem_cons_of_mem _ hz))
  have c1 := run_cnt nd (idem_id nm) m1
  have i1 := run_idem (idem_id nm) m1
  have c2 := run_cnt nd i1 m2
  have er : runE (fun x => x) (E1 ++ e :: E2) = runE (runE (fun x => x) E1) E2 := by
    show List.foldl _ _ _ = _
    rw [List.foldl_append]
    show runE (join (runE (fun x => x) E1) e.1 e.2) E2 = _
    rw [join_same q]
  rw [er] at h1
  rw [cnt_id] at c1
  rw [List.length_append, List.length_cons] at hl
  omega
abbrev slS (x : Str) : Sl := .ow (.pv (.str x))
abbrev tS (x : Str) : T := .pv (.str x)
theorem dF_congr {nm : List Str} {g g' : Str → T} (h : ∀ x ∈ nm, g x = g' x) : dF nm g = dF nm g' := by unfold dF; rw [List.map_congr_left h]
theorem gt_set {ρ : Env} {i j : Nat} {s : Sl} (h : i ≠ j) : (ρ.set i s)[j]? = ρ[j]? := List.getElem?_set_ne h
theorem set4 {l : Env} {n d : Nat} (h : n ≠ d) (a b c e : Sl) : (((l.set n a).set d b).set n c).set d e = (l.set n c).set d e := by
  have q : ((l.set n a).set d b).set n c = ((l.set n a).set n c).set d b := List.set_comm _ _ (Ne.symm h)
  rw [q, List.set_set, List.set_set]
theorem set3 {l : Env} {n d : Nat} (h : n ≠ d) (a b c : Sl) : ((l.set n a).set d b).set n c = (l.set n c).set d b := by
  have q : ((l.set n a).set d b).set n c = ((l.set n a).set n c).set d b := List.set_comm _ _ (Ne.symm h)
  rw [q, List.set_set]
theorem relabel_run {d n o u : Nat} {nm : List Str} (nd : nm.Nodup) (hlen : nm.length < 16777216) {lab : Str → Str} {one oth : Str} {N : Env → Prop} {Q : T → Env → Prop} (h1 : n ≠ d) (h2 : n ≠ o) (h3 : n ≠ u) (h4 : d ≠ o) (h5 : d ≠ u) {ρ : Env}
    (hd : ρ[d]? = some (.ow (dF nm fun y => tS (lab y)))) (ho : ρ[o]? = some (slS oth)) (hu : ρ[u]? = some (slS one)) (hn : n < ρ.length)
    (fin : ∀ s, N ((ρ.set n s).set d (.ow (dF nm fun y => tS (if lab y = oth then one else lab y))))) :
    Rn N Q (forGo (gN n) (tIfQ (fB (f2 gEq (f2 gIx (fVar d) (fVar n)) (fVar o))) (tSetP d pNil (fVar n) (fPure (fVar u))) tNx) (nm.map slS) ρ) := by
  have hdl : d < ρ.length := (List.getElem?_eq_some_iff.mp hd).1
  refine forGo_run (fun j ρ' => j ≤ nm.length ∧ ∃ s, ρ' = (ρ.set n s).set d (.ow (dF nm fun y => tS (if y ∈ nm.take j ∧ lab y = oth then one else lab y)))) _ 0 ρ ⟨Nat.zero_le _, ?_⟩ ?_ ?_
  · obtain ⟨s0, hs0⟩ : ∃ s0, ρ[n]? = some s0 := ⟨_, List.getElem?_eq_getElem hn⟩
    refine ⟨s0, ?_⟩
    rw [set_same hs0]
    have e : (dF nm fun y => tS (if y ∈ nm.take 0 ∧ lab y = oth then one else lab y)) = dF nm fun y => tS (lab y) := dF_congr fun y _ => by simp
    rw [e, set_same hd]
  · intro j s ρ' hs ⟨hj, s', e⟩
    rw [Nat.zero_add] at hj e
    rw [Nat.zero_add]
    rw [List.getElem?_map] at hs
    cases hx : nm[j]? with
    | none => rw [hx] at hs; cases hs
    | some x =>
      rw [hx] at hs
      cases hs
      have hxm : x ∈ nm := List.mem_of_getElem? hx
      have hjl : j < nm.length := (List.getElem?_eq_some_iff.mp hx).1
      have hxn : x ∉ nm.take j := fun hm => by
        obtain ⟨i, hi, e2⟩ := List.getElem_of_mem hm
        rw [List.getElem_take] at e2
        have hi' : i < j := by rw [List.length_take] at hi; omega
        have := (List.getElem?_inj (i := i) (j := j) (by omega) nd).mp (by rw [hx, List.getElem?_eq_getElem (by omega), e2])
        omega
      subst e
      have gd : ∀ s2, (((ρ.set n s').set d (.ow (dF nm fun y => tS (if y ∈ nm.take j ∧ lab y = oth then one else lab y)))).set n s2)[d]? = some (.ow (dF nm fun y => tS (if y ∈ nm.take j ∧ lab y = oth then one else lab y))) := fun s2 => by
        rw [gt_set h1, List.getElem?_set_self (by simpa using hdl)]
      refine ⟨_, if_pos (by simpa using hn), ?_⟩
      have e1 : (((ρ.set n s').set d (.ow (dF nm fun y => tS (if y ∈ nm.take j ∧ lab y = oth then one else lab y)))).set n (slS x))[n]? = some (slS x) := List.getElem?_set_self (by simpa using hn)
      have e2 : (((ρ.set n s').set d (.ow (dF nm fun y => tS (if y ∈ nm.take j ∧ lab y = oth then one else lab y)))).set n (slS x))[o]? = some (slS oth) := by rw [gt_set h2, gt_set h4, gt_set h2]; exact ho
      have e3 : (((ρ.set n s').set d (.ow (dF nm fun y => tS (if y ∈ nm.take j ∧ lab y = oth then one else lab y)))).set n (slS x))[u]? = some (slS one) := by rw [gt_set h3, gt_set h5, gt_set h3]; exact hu
      have glab : (if x ∈ nm.take j ∧ lab x = oth then one else lab x) = lab x := by simp [hxn]
      have take1 : ∀ y, (y ∈ nm.take (j + 1)) ↔ (y ∈ nm.take j ∨ y = x) := fun y => by
        rw [List.take_add_one, hx]; simp
      refine rn_if (b := lab x == oth) ?_ (fun hb => ?_) fun hb => ?_
      · simp only [fB_ap, f2_ap, fVar_ap, gd, e1, e2, R.bind_ok, gIx_dF hxm, R.of_some, glab, gEq_ss]
      · have hb' : lab x = oth := by simpa using hb
        refine rn_setP (tv := tS one) (ks := []) (p := .str x) (t2 := dF nm (upF (fun y => tS (if y ∈ nm.take j ∧ lab y = oth then one else lab y)) x (tS one))) ?_ rfl ?_ (gd _) ?_ ⟨by omega, slS x, ?_⟩
        · simp only [fPure_ap, fVar_ap, e3, R.bind_ok]
        · simp only [fVar_ap, e1]
        · exact setKid_dF nd hlen hxm
        · have ee : (dF nm (upF (fun y => tS (if y ∈ nm.take j ∧ lab y = oth then one else lab y)) x (tS one))) = dF nm fun y => tS (if y ∈ nm.take (j + 1) ∧ lab y = oth then one else lab y) := dF_congr fun y _ => by
            unfold upF
            by_cases h : y = x
            · subst h
              rw [if_pos rfl, if_pos ⟨(take1 y).mpr (.inr rfl), hb'⟩]
            · rw [if_neg h]
              simp [take1 y, h]
          rw [ee, set4 h1]
      · have hb' : ¬ lab x = oth := by simpa using hb
        refine rn_nx ⟨by omega, slS x, ?_⟩
        have ee : (dF nm fun y => tS (if y ∈ nm.take j ∧ lab y = oth then one else lab y)) = dF nm fun y => tS (if y ∈ nm.take (j + 1) ∧ lab y = oth then one else lab y) := dF_congr fun y _ => by
          by_cases h : y = x
          · subst h; simp [hb']
          · simp [take1 y, h]
        rw [ee, set3 h1]
  · intro ρ' ⟨_, s, e⟩
    rw [Nat.zero_add, List.length_map, List.take_length] at e
    have ee : (dF nm fun y => tS (if y ∈ nm ∧ lab y = oth then one else lab y)) = dF nm fun y => tS (if lab y = oth then one else lab y) := dF_congr fun y hy => by simp [hy]
    rw [ee] at e
    rw [e]
    exact fin s
end TR
namespace LW
open PySem PySem.Spec PyProof.Rows L2 TR
abbrev top (i : Nat) : Stmt := PySem.Challenge.pw_treerounds_k71_ends_of_trees.main.body.getD i (.Pass ⟨0, 0, 0, 0⟩)
abbrev s__law_cells : Stmt := top 13
abbrev N__law_cells : List Str := ["script", "many"]
theorem sc__law_cells : FnScope N__law_cells ["script", "many"] (defScope s__law_cells) := ⟨rfl, rfl, rfl, by decide +kernel, rfl, by decide +kernel, by decide +kernel⟩
abbrev s__law_seed : Stmt := top 11
abbrev N__law_seed : List Str := ["cell", "number"]
theorem sc__law_seed : FnScope N__law_seed ["cell"] (defScope s__law_seed) := ⟨rfl, rfl, rfl, by decide +kernel, rfl, by decide +kernel, by decide +kernel⟩
abbrev s__law_draw : Stmt := top 12
abbrev N__law_draw : List Str := ["seed", "most", "found", "number"]
theorem sc__law_draw : FnScope N__law_draw ["seed", "most"] (defScope s__law_draw) := ⟨rfl, rfl, rfl, by decide +kernel, rfl, by decide +kernel, by decide +kernel⟩
abbrev s__law_names : Stmt := top 14
abbrev N__law_names : List Str := ["seed", "many", "spare", "k"]
theorem sc__law_names : FnScope N__law_names ["seed", "many"] (defScope s__law_names) := ⟨rfl, rfl, rfl, by decide +kernel, rfl, by decide +kernel, by decide +kernel⟩
abbrev s__law_web : Stmt := top 15
abbrev N__law_web : List Str := ["seed", "most", "ties", "names", "way", "pairs", "k", "turn", "one", "other", "weights"]
theorem sc__law_web : FnScope N__law_web ["seed", "most", "ties"] (defScope s__law_web) := ⟨rfl, rfl, rfl, by decide +kernel, rfl, by decide +kernel, by decide +kernel⟩
abbrev s__law_tree : Stmt := top 16
abbrev N__law_tree : List Str := ["seed", "web", "left", "part", "name", "found", "number", "one", "other"]
theorem sc__law_tree : FnScope N__law_tree ["seed", "web"] (defScope s__law_tree) := ⟨rfl, rfl, rfl, by decide +kernel, rfl, by decide +kernel, by decide +kernel⟩
abbrev s__law_tied : Stmt := top 17
abbrev N__law_tied : List Str := ["web", "tree", "found", "name", "number"]
theorem sc__law_tied : FnScope N__law_tied ["web", "tree"] (defScope s__law_tied) := ⟨rfl, rfl, rfl, by decide +kernel, rfl, by decide +kernel, by decide +kernel⟩
abbrev s_is_tree : Stmt := top 4
abbrev N_is_tree : List Str := ["web", "row", "names", "ties", "k", "heads", "name", "number", "one", "other"]
theorem sc_is_tree : FnScope N_is_tree ["web", "row"] (defScope s_is_tree) := ⟨rfl, rfl, rfl, by decide +kernel, rfl, by decide +kernel, by decide +kernel⟩
abbrev s_need_tree : Stmt := top 6
abbrev N_need_tree : List Str := ["web", "tree"]
theorem sc_need_tree : FnScope N_need_tree ["web", "tree"] (defScope s_need_tree) := ⟨rfl, rfl, rfl, by decide +kernel, rfl, by decide +kernel, by decide +kernel⟩
abbrev s_ends_in : Stmt := top 8
abbrev N_ends_in : List Str := ["tied", "names", "name"]
theorem sc_ends_in : FnScope N_ends_in ["tied", "names"] (defScope s_ends_in) := ⟨rfl, rfl, rfl, by decide +kernel, rfl, by decide +kernel, by decide +kernel⟩
abbrev s_tied_in : Stmt := top 7
abbrev N_tied_in : List Str := ["web", "tree", "names", "ties", "found", "name", "number", "one", "other", "weight"]
theorem sc_tied_in : FnScope N_tied_in ["web", "tree"] (defScope s_tied_in) := ⟨rfl, rfl, rfl, by decide +kernel, rfl, by decide +kernel, by decide +kernel⟩
abbrev s_ends_of : Stmt := top 9
abbrev N_ends_of : List Str := ["web", "tree"]
theorem sc_ends_of : FnScope N_ends_of ["web", "tree"] (defScope s_ends_of) := ⟨rfl, rfl, rfl, by decide +kernel, rfl, by decide +kernel, by decide +kernel⟩
abbrev s_law : Stmt := top 19
abbrev N_law : List Str := ["script", "cell", "seed", "web", "turn", "tree", "tied", "due", "name", "found"]
theorem sc_law : FnScope N_law ["script"] (defScope s_law) := ⟨rfl, rfl, rfl, by decide +kernel, rfl, by decide +kernel, by decide +kernel⟩
structure Mg (mg : Str → Option Value) : Prop where
  dict_ : mg "dict" = none
  int_ : mg "int" = none
  isinstance_ : mg "isinstance" = none
  len_ : mg "len" = none
  list_ : mg "list" = none
  max_ : mg "max" = none
  min_ : mg "min" = none
  range_ : mg "range" = none
  sorted_ : mg "sorted" = none
  tuple_ : mg "tuple" = none
def b__law_cells : FF := (tRetF (f2 gAdd (fSl (fVar 0) pNone (pSome (fVar 1))) (fLst (aCons (fN gLen (aCons (fVar 0) aNil)) aNil))))
def fn__law_cells : Fn := fnOf [false, false] 2 b__law_cells
def b__law_seed : FF := (tSq (tSet 1 (fN gMax2 (aCons (fVar 0) (aCons (f2 gSub (fC (.int 0)) (fVar 0)) aNil))))
    (tRetF (fLst (aCons (fPure (fVar 1)) (aCons (fN gInt (aCons (f2 gGe (fVar 1) (f2 gPow (fC (.int 10)) (fC (.int 18)))) aNil)) (aCons (fC (.int 0)) (aCons (f2 gMod (fVar 0) (fC (.int 1999999873))) aNil)))))))
def fn__law_seed : Fn := fnOf [false] 2 b__law_seed
def b__law_draw : FF := (tSq (tSetP 0 pNil (fC (.int 2)) (f2 gAdd (f2 gIx (fVar 0) (fC (.int 2))) (fC (.int 1))))
    (tSq (tIfQ (fAndT (fB (f2 gEq (f2 gIx (fVar 0) (fC (.int 1))) (fC (.int 1)))) (fB (f2 gGt (f2 gIx (fVar 0) (fC (.int 0))) (fC (.int 0))))) (tSq (tSet 2 (f2 gMod (f2 gIx (fVar 0) (fC (.int 0))) (fVar 1)))
    (tSq (tSetP 0 pNil (fC (.int 0)) (f2 gDiv (f2 gIx (fVar 0) (fC (.int 0))) (fVar 1)))
    (tRetE (fMv 2)))) tNx)
    (tSq (tSet 3 (f2 gMod (f2 gMul (f2 gAdd (f2 gAdd (f2 gIx (fVar 0) (fC (.int 3))) (f2 gMul (fC (.int 7549)) (f2 gIx (fVar 0) (fC (.int 2))))) (fC (.int 53))) (fC (.int 48271))) (fC (.int 2147483647))))
    (tSq (tSet 3 (f2 gMod (f2 gMul (f2 gMod (f2 gMul (fVar 3) (fVar 3)) (fC (.int 2147483629))) (fC (.int 40692))) (fC (.int 2147483399))))
    (tRetF (f2 gMod (f2 gDiv (fVar 3) (fC (.int 7))) (fVar 1)))))))
def fn__law_draw : Fn := fnOf [true, false] 4 b__law_draw
def b__law_names : FF := (tSq (tSet 2 (fLst (aCons (fC (.str "a")) (aCons (fC (.str "ba")) (aCons (fC (.str "ab")) (aCons (fC (.str "aa")) (aCons (fC (.str "tie")) (aCons (fC (.str "b")) (aCons (fC (.str "bb")) (aCons (fC (.str "bbb")) (aCons (fC (.str "bab")) (aCons (fC (.str "abc")) (aCons (fC (.str "longname")) (aCons (fC (.str "longnamf")) (aCons (fC (.str "zz")) (aCons (fC (.str "z")) aNil))))))))))))))))
    (tRetE (s1c gTupO (sN gSorted (sCons (sLc [3] (iQ (iLst rng1 (aCons (fVar 1) aNil))) (gN 3) fYes (sMethN "list" 2 muPopI (sCons (sCall fn__law_draw [true, false] (sCons (fLateN 0) (sCons (fVal (fN gLen (aCons (fVar 2) aNil))) sNil))) sNil))) sNil)))))
def fn__law_names : Fn := fnOf [true, false] 4 b__law_names
def b__law_web : FF := (tSq (tSetE 3 (sCall fn__law_names [true, false] (sCons (fLateN 0) (sCons (s2 gAdd (fVal (fC (.int 1))) (sCall fn__law_draw [true, false] (sCons (fLateN 0) (sCons (fLateN 1) sNil)))) sNil))))
    (tSq (tSetE 4 (sCall fn__law_draw [true, false] (sCons (fLateN 0) (sCons (fVal (fC (.int 4))) sNil))))
    (tSq (tSet 5 (fLst aNil))
    (tSq (tForF (iLst rng2 (aCons (fC (.int 1)) (aCons (fN gLen (aCons (fVar 3) aNil)) aNil))) (gN 6)
    (tExpE (sMethN "list" 5 muAppend (sCons (sTup (sCons (s2 gIxP (fLateN 3) (s2 gIxP (sLst (sCons (sCall fn__law_draw [true, false] (sCons (fLateN 0) (sCons (fLateN 6) sNil))) (sCons (fVal (f2 gSub (fVar 6) (fC (.int 1)))) (sCons (fVal (fC (.int 0))) (sCons (sCall fn__law_draw [true, false] (sCons (fLateN 0) (sCons (fVal (fN gMin2 (aCons (fVar 6) (aCons (fC (.int 2)) aNil)))) sNil))) sNil))))) (fLateN 4))) (sCons (fVal (f2 gIxP (fVar 3) (fVar 6))) sNil))) sNil))))
    (tSq (tForS (iLstE rng1 (sCons (sCall fn__law_draw [true, false] (sCons (fLateN 0) (sCons (fVal (f2 gAdd (fVar 2) (fC (.int 1)))) sNil))) sNil)) (gN 7)
    (tSq (tSetE 8 (sCall fn__law_draw [true, false] (sCons (fLateN 0) (sCons (fVal (fN gLen (aCons (fVar 3) aNil))) sNil))))
    (tSq (tSetE 9 (sCall fn__law_draw [true, false] (sCons (fLateN 0) (sCons (fVal (fN gLen (aCons (fVar 3) aNil))) sNil))))
    (tIfQ (fAndT (fB (f2 gLt (fVar 8) (fVar 9))) (fAndT (fB (f2 gNotIn (fTup (aCons (f2 gIxP (fVar 3) (fVar 8)) (aCons (f2 gIxP (fVar 3) (fVar 9)) aNil))) (fVar 5))) (fB (f2 gLt (fN gLen (aCons (fVar 5) aNil)) (fVar 2))))) (tExpE (sMeth "list" 5 muAppend pNil (aCons (fTup (aCons (f2 gIxP (fVar 3) (fVar 8)) (aCons (f2 gIxP (fVar 3) (fVar 9)) aNil))) aNil))) tNx))))
    (tSq (tSetE 10 (s2 gIxP (fVal (fLst (aCons (fC (.int 1)) (aCons (fC (.int 9)) (aCons (fC (.int 999)) aNil))))) (sCall fn__law_draw [true, false] (sCons (fLateN 0) (sCons (fVal (fC (.int 3))) sNil)))))
    (tRetE (sTup (sCons (fLateN 3) (sCons (s1c gTupO (sLc [8, 9] (iQ (iSeqF (fN gSorted (aCons (fVar 5) aNil)))) (gT (gsCons (gN 8) (gsCons (gN 9) gsNil))) fYes (sTup (sCons (fLateN 8) (sCons (fLateN 9) (sCons (s2 gAdd (fVal (fC (.int 1))) (sCall fn__law_draw [true, false] (sCons (fLateN 0) (sCons (fLateN 10) sNil)))) sNil)))))) sNil))))))))))
def fn__law_web : Fn := fnOf [true, false, false] 11 b__law_web
def b__law_tree : FF := (tSq (tSet 2 (lstRg1 (fN gLen (aCons (f2 gIx (fVar 1) (fC (.int 1))) aNil))))
    (tSq (tSet 3 (f1 gDictO (fLc [4] (iSeqF (f2 gIx (fVar 1) (fC (.int 0)))) (gN 4) fYes (fTup (aCons (fPure (fVar 4)) (aCons (fPure (fVar 4)) aNil))))))
    (tSq (tSet 5 (fLst aNil))
    (tSq (whileGo (fB (f2 gNe (fVar 2) (fLst aNil)))
    (tSq (tSetE 6 (sMethN "list" 2 muPopI (sCons (sCall fn__law_draw [true, false] (sCons (fLateN 0) (sCons (fVal (fN gLen (aCons (fVar 2) aNil))) sNil))) sNil)))
    (tSq (tPr 7 8 (aCons (f2 gIxP (fVar 3) (f2 gIx (f2 gIx (f2 gIx (fVar 1) (fC (.int 1))) (fVar 6)) (fC (.int 0)))) (aCons (f2 gIxP (fVar 3) (f2 gIx (f2 gIx (f2 gIx (fVar 1) (fC (.int 1))) (fVar 6)) (fC (.int 1)))) aNil)))
    (tIfQ (fB (f2 gNe (fVar 7) (fVar 8))) (tSq (tExpE (sMeth "list" 5 muAppend pNil (aCons (fPure (fVar 6)) aNil)))
    (tForF (iSeqF (f2 gIx (fVarZ 1) (fC (.int 0)))) (gN 4)
    (tIfQ (fB (f2 gEq (f2 gIx (fVar 3) (fVar 4)) (fVar 8))) (tSetP 3 pNil (fVar 4) (fPure (fVar 7))) tNx))) tNx))) 1000)
    (tRetF (f1 gTupO (fN gSorted (aCons (fVar 5) aNil))))))))
def fn__law_tree : Fn := fnOf [true, false] 9 b__law_tree
def b__law_tied : FF := (tSq (tSet 2 (f1 gDictO (fLc [3] (iSeqF (f2 gIx (fVar 0) (fC (.int 0)))) (gN 3) fYes (fTup (aCons (fPure (fVar 3)) (aCons (fLst aNil) aNil))))))
    (tSq (tForF (iSeqF (fVarZ 1)) (gN 4)
    (tSq (tExpE (sMeth "list" 2 muAppend (pSnoc pNil (f2 gIx (f2 gIx (f2 gIx (fVar 0) (fC (.int 1))) (fVar 4)) (fC (.int 0)))) (aCons (f2 gIxP (f2 gIx (f2 gIx (fVar 0) (fC (.int 1))) (fVar 4)) (fC (.int 1))) aNil)))
    (tExpE (sMeth "list" 2 muAppend (pSnoc pNil (f2 gIx (f2 gIx (f2 gIx (fVar 0) (fC (.int 1))) (fVar 4)) (fC (.int 1)))) (aCons (f2 gIxP (f2 gIx (f2 gIx (fVar 0) (fC (.int 1))) (fVar 4)) (fC (.int 0))) aNil)))))
    (tRetE (fMv 2))))
def fn__law_tied : Fn := fnOf [false, false] 5 b__law_tied
def b_is_tree : FF := (tSq (tAs (gT (gsCons (gN 2) (gsCons (gN 3) gsNil))) (fPure (fVar 0)))
    (tSq (tIfQ (fOrT (fB (f2 gNe (fN gLen (aCons (fVar 1) aNil)) (f2 gSub (fN gLen (aCons (fVar 2) aNil)) (fC (.int 1))))) (fB (f2 gNe (fLc [4] (iLst rng2 (aCons (fC (.int 1)) (aCons (fN gLen (aCons (fVar 1) aNil)) aNil))) (gN 4) (fB (f2 gLe (f2 gIx (fVar 1) (fVar 4)) (f2 gIx (fVar 1) (f2 gSub (fVar 4) (fC (.int 1)))))) (fPure (fVar 4))) (fLst aNil)))) (tRetF (fC (.bl false))) tNx)
    (tSq (tSet 5 (fun _ => .ok (.dct false [] [])))
    (tSq (tForF (iSeqF (fVarZ 2)) (gN 6)
    (tSetP 5 pNil (fVar 6) (fPure (fVar 6))))
    (tSq (tForF (iSeqF (fVarZ 1)) (gN 7)
    (tSq (tIfQ (fNotT (fB (fChain gLe gLt (fC (.int 0)) (fVar 7) (fN gLen (aCons (fVar 3) aNil))))) (tRetF (fC (.bl false))) tNx)
    (tSq (tPr 8 9 (aCons (f2 gIxP (fVar 5) (f2 gIx (f2 gIx (fVar 3) (fVar 7)) (fC (.int 0)))) (aCons (f2 gIxP (fVar 5) (f2 gIx (f2 gIx (fVar 3) (fVar 7)) (fC (.int 1)))) aNil)))
    (tSq (tIfQ (fB (f2 gEq (fVar 8) (fVar 9))) (tRetF (fC (.bl false))) tNx)
    (tForF (iSeqF (fVarZ 2)) (gN 6)
    (tIfQ (fB (f2 gEq (f2 gIx (fVar 5) (fVar 6)) (fVar 9))) (tSetP 5 pNil (fVar 6) (fPure (fVar 8))) tNx))))))
    (tRetF (fC (.bl true))))))))
def fn_is_tree : Fn := fnOf [false, false] 10 b_is_tree
def b_need_tree : FF := (tIfQ (fNotT (fB (fCall fn_is_tree (aCons (fVar 0) (aCons (fVar 1) aNil))))) (fun _ => .bad) tNx)
def fn_need_tree : Fn := fnOf [false, false] 2 b_need_tree
def b_ends_in : FF := (tRetF (fLc [2] (iSeqF (fVar 1)) (gN 2) (fB (f2 gEq (fN gLen (aCons (f2 gIx (fVar 0) (fVar 2)) aNil)) (fC (.int 1)))) (fPure (fVar 2))))
def fn_ends_in : Fn := fnOf [false, false] 3 b_ends_in
def b_tied_in : FF := (tSq (tAs (gT (gsCons (gN 2) (gsCons (gN 3) gsNil))) (fPure (fVar 0)))
    (tSq (tSet 4 (f1 gDictO (fLc [5] (iSeqF (fVar 2)) (gN 5) fYes (fTup (aCons (fPure (fVar 5)) (aCons (fLst aNil) aNil))))))
    (tSq (tForF (iSeqF (fVarZ 1)) (gN 6)
    (tSq (tAs (gT (gsCons (gN 7) (gsCons (gN 8) (gsCons (gN 9) gsNil)))) (f2 gIxP (fVar 3) (fVar 6)))
    (tSq (tExpE (sMeth "list" 4 muAppend (pSnoc pNil (fVar 7)) (aCons (fPure (fVar 8)) aNil)))
    (tExpE (sMeth "list" 4 muAppend (pSnoc pNil (fVar 8)) (aCons (fPure (fVar 7)) aNil))))))
    (tRetE (fMv 4)))))
def fn_tied_in : Fn := fnOf [false, false] 10 b_tied_in
def b_ends_of : FF := (tSq (tExp (fCall fn_need_tree (aCons (fVar 0) (aCons (fVar 1) aNil))))
    (tRetF (f1 gTupO (fCall fn_ends_in (aCons (fCall fn_tied_in (aCons (fVar 0) (aCons (fVar 1) aNil))) (aCons (f2 gIx (fVar 0) (fC (.int 0))) aNil))))))
def fn_ends_of : Fn := fnOf [false, false] 2 b_ends_of
def b_law : FF := (tSq (tForF (iSeqF (fCall fn__law_cells (aCons (fVar 0) (aCons (fC (.int 6)) aNil)))) (gN 1)
    (tSq (tSet 2 (fCall fn__law_seed (aCons (fVar 1) aNil)))
    (tSq (tSetE 3 (sCall fn__law_web [true, false, false] (sCons (fLateN 2) (sCons (fVal (fC (.int 12))) (sCons (fVal (fC (.int 24))) sNil)))))
    (tForF (iLst rng1 (aCons (fC (.int 2)) aNil)) (gN 4)
    (tSq (tSetE 5 (sCall fn__law_tree [true, false] (sCons (fLateN 2) (sCons (fLateN 3) sNil))))
    (tSq (tSet 6 (fCall fn__law_tied (aCons (fVar 3) (aCons (fVar 5) aNil))))
    (tSq (tSet 7 (f1 gTupO (fLc [8] (iSeqF (f2 gIx (fVar 3) (fC (.int 0)))) (gN 8) (fB (f2 gEq (fN gLen (aCons (f2 gIx (fVar 6) (fVar 8)) aNil)) (fC (.int 1)))) (fPure (fVar 8)))))
    (tSq (tSet 9 (fCall fn_ends_of (aCons (fVar 3) (aCons (fVar 5) aNil))))
    (tIfQ (fOrT (fNotT (fB (fIsi "tuple" (fVar 9)))) (fOrT (fB (f2 gNe (fVar 9) (fVar 7))) (fB (f2 gNe (fCall fn_ends_of (aCons (fVar 3) (aCons (fVar 5) aNil))) (fVar 7))))) (tRetF (fC (.bl false))) tNx)))))))))
    (tRetF (fC (.bl true))))
def fn_law : Fn := fnOf [false] 10 b_law
theorem ok__law_cells {P : Program} {w : World} {K : PySem.W.Frag} {mg : Str → Option Value} {base : Heap} {k : Nat} {f : Addr} {fd : FuncData} (M : Mg mg)  (F : Fun K "_law_cells" "_law_cells" s__law_cells f fd) : FnOk P w K mg base (L2.CX P w) (k + 1) f fd ["script", "many"] (spF K mg fn__law_cells) :=
  fun_ok [false, false] F sc__law_cells rfl (by decide) fun cdv A outer s H E hr => by
    have SC := sc__law_cells
    have hu := room_hu hr
    have hu1 := room_hu1 hr
    have tk := takes_of (E := E) (X := cxOf (L2.CX P w) P w K mg base N__law_cells "_law_cells" (defScope s__law_cells) f cdv A outer s H E) rfl rfl rfl rfl
    have hp := passes_of (X := cxOf (L2.CX P w) P w K mg base N__law_cells "_law_cells" (defScope s__law_cells) f cdv A outer s H E) rfl
    exact (t_one (t_ret (q_op o_add k_add (q_oe (q_sl (q_var 0) jo_none (jo_some (q_var 1)))) (q_oe (q_lst (oa_cons (q_callB cr_len k_len (by rfl) M.len_ boot_len (qa_cons (q_var 0) qa_nil)) oa_nil))))))
theorem ok__law_seed {P : Program} {w : World} {K : PySem.W.Frag} {mg : Str → Option Value} {base : Heap} {k : Nat} {f : Addr} {fd : FuncData} (M : Mg mg)  (F : Fun K "_law_seed" "_law_seed" s__law_seed f fd) : FnOk P w K mg base (L2.CX P w) (k + 1) f fd ["cell"] (spF K mg fn__law_seed) :=
  fun_ok [false] F sc__law_seed rfl (by decide) fun cdv A outer s H E hr => by
    have SC := sc__law_seed
    have hu := room_hu hr
    have hu1 := room_hu1 hr
    have tk := takes_of (E := E) (X := cxOf (L2.CX P w) P w K mg base N__law_seed "_law_seed" (defScope s__law_seed) f cdv A outer s H E) rfl rfl rfl rfl
    have hp := passes_of (X := cxOf (L2.CX P w) P w K mg base N__law_seed "_law_seed" (defScope s__law_seed) f cdv A outer s H E) rfl
    exact (t_cons (t_set 1 SC.nd rfl (by first | exact Or.inl rfl | exact Or.inr rfl) (q_callB (call_max2 rfl) k_max2 (by rfl) M.max_ boot_max (qa_cons (q_var 0) (qa_cons (q_oe (q_op op_sub k_sub q_int (q_var 0))) qa_nil))))
    (t_one (t_ret (q_lst (oa_cons (q_pure (q_var 1)) (oa_cons (q_callTy cr_int k_int (by rfl) M.int_ boot_int (qa_cons (q_oe (q_cmp (o_ge hu) k_ord (q_var 1) (q_oe (q_op op_pow k_pow q_int q_int)) (by first | rfl | exact L2.nomark _))) qa_nil)) (oa_cons q_int (oa_cons (q_op op_mod k_mod (q_var 0) q_int) oa_nil))))))))
theorem ok__law_draw {P : Program} {w : World} {K : PySem.W.Frag} {mg : Str → Option Value} {base : Heap} {k : Nat} {f : Addr} {fd : FuncData} (M : Mg mg)  (F : Fun K "_law_draw" "_law_draw" s__law_draw f fd) : FnOk P w K mg base (L2.CX P w) (k + 1) f fd ["seed", "most"] (spF K mg fn__law_draw) :=
  fun_ok [true, false] F sc__law_draw rfl (by decide) fun cdv A outer s H E hr => by
    have SC := sc__law_draw
    have hu := room_hu hr
    have hu1 := room_hu1 hr
    have tk := takes_of (E := E) (X := cxOf (L2.CX P w) P w K mg base N__law_draw "_law_draw" (defScope s__law_draw) f cdv A outer s H E) rfl rfl rfl rfl
    have hp := passes_of (X := cxOf (L2.CX P w) P w K mg base N__law_draw "_law_draw" (defScope s__law_draw) f cdv A outer s H E) rfl
    exact (t_cons (t_setP hu1 (q_op o_add k_add (q_ixV hu1 (q_var 0) q_int (fun c => nomatch c)) q_int) (p_name 0) q_int)
    (t_cons (t_ifQ (qt_w (qw_and (qt_cmp (o_eq hu) k_eq (q_ixV hu1 (q_var 0) q_int (fun c => nomatch c)) q_int (by first | rfl | exact L2.nomark _)) (qw_and1 (qt_cmp (o_gt hu) k_ord (q_ixV hu1 (q_var 0) q_int (fun c => nomatch c)) q_int (by first | rfl | exact L2.nomark _))))) (t_cons (t_set 2 SC.nd rfl (by first | exact Or.inl rfl | exact Or.inr rfl) (q_op op_mod k_mod (q_ixV hu1 (q_var 0) q_int (fun c => nomatch c)) (q_var 1)))
    (t_cons (t_setP hu1 (q_op op_fdivW k_div (q_ixV hu1 (q_var 0) q_int (fun c => nomatch c)) (q_var 1)) (p_name 0) q_int)
    (t_one (t_retE (s_mv 2))))) t_nil)
    (t_cons (t_set 3 SC.nd rfl (by first | exact Or.inl rfl | exact Or.inr rfl) (q_op op_mod k_mod (q_oe (q_op o_mul k_mul (q_oe (q_op o_add k_add (q_oe (q_op o_add k_add (q_ixV hu1 (q_var 0) q_int (fun c => nomatch c)) (q_oe (q_op o_mul k_mul q_int (q_ixV hu1 (q_var 0) q_int (fun c => nomatch c)))))) q_int)) q_int)) q_int))
    (t_cons (t_set 3 SC.nd rfl (by first | exact Or.inl rfl | exact Or.inr rfl) (q_op op_mod k_mod (q_oe (q_op o_mul k_mul (q_oe (q_op op_mod k_mod (q_oe (q_op o_mul k_mul (q_var 3) (q_var 3))) q_int)) q_int)) q_int))
    (t_one (t_ret (q_op op_mod k_mod (q_oe (q_op op_fdivW k_div (q_var 3) q_int)) (q_var 1))))))))
theorem ok__law_names {P : Program} {w : World} {K : PySem.W.Frag} {mg : Str → Option Value} {base : Heap} {k : Nat} {f : Addr} {fd : FuncData} (M : Mg mg) (c__law_draw : CalW P w K mg base k "_law_draw" fn__law_draw) (F : Fun K "_law_names" "_law_names" s__law_names f fd) : FnOk P w K mg base (L2.CX P w) (k + 1) f fd ["seed", "many"] (spF K mg fn__law_names) :=
  fun_ok [true, false] F sc__law_names rfl (by decide) fun cdv A outer s H E hr => by
    have SC := sc__law_names
    have hu := room_hu hr
    have hu1 := room_hu1 hr
    have tk := takes_of (E := E) (X := cxOf (L2.CX P w) P w K mg base N__law_names "_law_names" (defScope s__law_names) f cdv A outer s H E) rfl rfl rfl rfl
    have hp := passes_of (X := cxOf (L2.CX P w) P w K mg base N__law_names "_law_names" (defScope s__law_names) f cdv A outer s H E) rfl
    exact (t_cons (t_set 2 SC.nd rfl (by first | exact Or.inl rfl | exact Or.inr rfl) (q_lst (oa_cons q_str (oa_cons q_str (oa_cons q_str (oa_cons q_str (oa_cons q_str (oa_cons q_str (oa_cons q_str (oa_cons q_str (oa_cons q_str (oa_cons q_str (oa_cons q_str (oa_cons q_str (oa_cons q_str (oa_cons q_str oa_nil))))))))))))))))
    (t_one (t_retE (s_callTyO call_tuple_of k_tupO (by rfl) M.tuple_ boot_tuple (s_callB (cr_sortedP hu) k_sorted (by rfl) M.sorted_ boot_sorted (sa_cons (s_lc [("k", 3)] rfl SC.nd (is_q (i_rng1 (by rfl) M.range_ (qa_cons (q_var 1) qa_nil))) (blk_in (N := N__law_names) (sc := defScope s__law_names) rfl rfl (by first | decide +kernel | rfl)) (fun _ _ _ _ _ => (g_name 3 SC.nd rfl (by first | exact Or.inl rfl | exact Or.inr rfl))) (fun _ _ _ _ _ => qts_nil) (fun _ _ _ _ _ => (s_methN 2 PySem.F.plainAttrs_list PySem.F.slot_list_pop PySem.F.type_list_pop mt_popAt m_popI (pvr 2) (sa_cons (s_call [true, false] tk_no (cal c__law_draw) hr (by rfl) (sa_cons (s_late 0) (sa_cons (s_o (q_callB cr_len k_len (by rfl) M.len_ boot_len (qa_cons (q_var 2) qa_nil))) sa_nil))) sa_nil)))) sa_nil))))))
theorem ok__law_web {P : Program} {w : World} {K : PySem.W.Frag} {mg : Str → Option Value} {base : Heap} {k : Nat} {f : Addr} {fd : FuncData} (M : Mg mg) (c__law_draw : CalW P w K mg base k "_law_draw" fn__law_draw) (c__law_names : CalW P w K mg base k "_law_names" fn__law_names) (F : Fun K "_law_web" "_law_web" s__law_web f fd) : FnOk P w K mg base (L2.CX P w) (k + 1) f fd ["seed", "most", "ties"] (spF K mg fn__law_web) :=
  fun_ok [true, false, false] F sc__law_web rfl (by decide) fun cdv A outer s H E hr => by
    have SC := sc__law_web
    have hu := room_hu hr
    have hu1 := room_hu1 hr
    have tk := takes_of (E := E) (X := cxOf (L2.CX P w) P w K mg base N__law_web "_law_web" (defScope s__law_web) f cdv A outer s H E) rfl rfl rfl rfl
    have hp := passes_of (X := cxOf (L2.CX P w) P w K mg base N__law_web "_law_web" (defScope s__law_web) f cdv A outer s H E) rfl
    exact (t_cons (t_setE 3 SC.nd rfl (by first | exact Or.inl rfl | exact Or.inr rfl) (s_call [true, false] tk (cal c__law_names) hr (by rfl) (sa_cons (s_late 0) (sa_cons (s_op o_add k_add (s_o q_int) (s_call [true, false] tk (cal c__law_draw) hr (by rfl) (sa_cons (s_late 0) (sa_cons (s_late 1) sa_nil)))) sa_nil))))
    (t_cons (t_setE 4 SC.nd rfl (by first | exact Or.inl rfl | exact Or.inr rfl) (s_call [true, false] tk (cal c__law_draw) hr (by rfl) (sa_cons (s_late 0) (sa_cons (s_o q_int) sa_nil))))
    (t_cons (t_set 5 SC.nd rfl (by first | exact Or.inl rfl | exact Or.inr rfl) (q_lst oa_nil))
    (t_cons (t_for hp rfl (i_rng2 (by rfl) M.range_ (qa_cons q_int (qa_cons (q_oe (q_callB cr_len k_len (by rfl) M.len_ boot_len (qa_cons (q_var 3) qa_nil))) qa_nil))) (g_name 6 SC.nd rfl (by first | exact Or.inl rfl | exact Or.inr rfl))
    (t_one (t_expE (s_methN 5 PySem.F.plainAttrs_list PySem.F.slot_list_append PySem.F.type_list_append mt_append m_append (pvr 5) (sa_cons (s_tup (sa_cons (s_ixP hu1 (s_late 3) (s_ixP hu1 (s_lst (sa_cons (s_call [true, false] tk (cal c__law_draw) hr (by rfl) (sa_cons (s_late 0) (sa_cons (s_late 6) sa_nil))) (sa_cons (s_o (q_op op_sub k_sub (q_var 6) q_int)) (sa_cons (s_o q_int) (sa_cons (s_call [true, false] tk (cal c__law_draw) hr (by rfl) (sa_cons (s_late 0) (sa_cons (s_o (q_callB (call_min2 rfl) k_min2 (by rfl) M.min_ boot_min (qa_cons (q_var 6) (qa_cons q_int qa_nil)))) sa_nil))) sa_nil))))) (s_late 4))) (sa_cons (s_o (q_ixP hu1 (q_var 3) (q_var 6))) sa_nil))) sa_nil)))))
    (t_cons (t_forS hp rfl (is_rng1 (by rfl) M.range_ (sa_cons (s_call [true, false] tk (cal c__law_draw) hr (by rfl) (sa_cons (s_late 0) (sa_cons (s_o (q_op o_add k_add (q_var 2) q_int)) sa_nil))) sa_nil)) (g_name 7 SC.nd rfl (by first | exact Or.inl rfl | exact Or.inr rfl))
    (t_cons (t_setE 8 SC.nd rfl (by first | exact Or.inl rfl | exact Or.inr rfl) (s_call [true, false] tk (cal c__law_draw) hr (by rfl) (sa_cons (s_late 0) (sa_cons (s_o (q_callB cr_len k_len (by rfl) M.len_ boot_len (qa_cons (q_var 3) qa_nil))) sa_nil))))
    (t_cons (t_setE 9 SC.nd rfl (by first | exact Or.inl rfl | exact Or.inr rfl) (s_call [true, false] tk (cal c__law_draw) hr (by rfl) (sa_cons (s_late 0) (sa_cons (s_o (q_callB cr_len k_len (by rfl) M.len_ boot_len (qa_cons (q_var 3) qa_nil))) sa_nil))))
    (t_one (t_ifQ (qt_w (qw_and (qt_cmp (o_lt hu) k_ord (q_var 8) (q_var 9) (by first | rfl | exact L2.nomark _)) (qw_and (qt_cmp (o_notIn hu) k_in0 (q_oe (q_tup (oa_cons (q_ixP hu1 (q_var 3) (q_var 8)) (oa_cons (q_ixP hu1 (q_var 3) (q_var 9)) oa_nil)))) (q_var 5) (by first | rfl | exact L2.nomark _)) (qw_and1 (qt_cmp (o_lt hu) k_ord (q_oe (q_callB cr_len k_len (by rfl) M.len_ boot_len (qa_cons (q_var 5) qa_nil))) (q_var 2) (by first | rfl | exact L2.nomark _)))))) (t_one (t_expE (s_meth PySem.F.plainAttrs_list PySem.F.slot_list_append PySem.F.type_list_append mt_append m_append (p_name 5) (oa_cons (q_tup (oa_cons (q_ixP hu1 (q_var 3) (q_var 8)) (oa_cons (q_ixP hu1 (q_var 3) (q_var 9)) oa_nil))) oa_nil)))) t_nil)))))
    (t_cons (t_setE 10 SC.nd rfl (by first | exact Or.inl rfl | exact Or.inr rfl) (s_ixP hu1 (s_o (q_lst (oa_cons q_int (oa_cons q_int (oa_cons q_int oa_nil))))) (s_call [true, false] tk (cal c__law_draw) hr (by rfl) (sa_cons (s_late 0) (sa_cons (s_o q_int) sa_nil)))))
    (t_one (t_retE (s_tup (sa_cons (s_late 3) (sa_cons (s_callTyO call_tuple_of k_tupO (by rfl) M.tuple_ boot_tuple (s_lc [("one", 8), ("other", 9)] rfl SC.nd (is_q (i_o (q_callB (cr_sortedP hu) k_sorted (by rfl) M.sorted_ boot_sorted (qa_cons (q_var 5) qa_nil)))) (blk_in (N := N__law_web) (sc := defScope s__law_web) rfl rfl (by first | decide +kernel | rfl)) (fun _ _ _ _ _ => (g_tup (n := 2) rfl (gs_cons (g_name 8 SC.nd rfl (by first | exact Or.inl rfl | exact Or.inr rfl)) (gs_cons (g_name 9 SC.nd rfl (by first | exact Or.inl rfl | exact Or.inr rfl)) gs_nil)))) (fun _ _ _ _ _ => qts_nil) (fun _ _ _ _ _ => (s_tup (sa_cons (s_late 8) (sa_cons (s_late 9) (sa_cons (s_op o_add k_add (s_o q_int) (s_call [true, false] tk_no (cal c__law_draw) hr (by rfl) (sa_cons (s_late 0) (sa_cons (s_late 10) sa_nil)))) sa_nil))))))) sa_nil)))))))))))
theorem ok__law_tree {P : Program} {w : World} {K : PySem.W.Frag} {mg : Str → Option Value} {base : Heap} {k : Nat} {f : Addr} {fd : FuncData} (M : Mg mg) (c__law_draw : CalW P w K mg base k "_law_draw" fn__law_draw) (F : Fun K "_law_tree" "_law_tree" s__law_tree f fd) : FnOk P w K mg base (L2.CX P w) (k + 1) f fd ["seed", "web"] (spF K mg fn__law_tree) :=
  fun_ok [true, false] F sc__law_tree rfl (by decide) fun cdv A outer s H E hr => by
    have SC := sc__law_tree
    have hu := room_hu hr
    have hu1 := room_hu1 hr
    have tk := takes_of (E := E) (X := cxOf (L2.CX P w) P w K mg base N__law_tree "_law_tree" (defScope s__law_tree) f cdv A outer s H E) rfl rfl rfl rfl
    have hp := passes_of (X := cxOf (L2.CX P w) P w K mg base N__law_tree "_law_tree" (defScope s__law_tree) f cdv A outer s H E) rfl
    exact (t_cons (t_set 2 SC.nd rfl (by first | exact Or.inl rfl | exact Or.inr rfl) (q_lstRg1 rfl (by rfl) M.list_ (by rfl) M.range_ (q_oe (q_callB cr_len k_len (by rfl) M.len_ boot_len (qa_cons (q_ixV hu1 (q_var 1) q_int (fun c => nomatch c)) qa_nil)))))
    (t_cons (t_set 3 SC.nd rfl (by first | exact Or.inl rfl | exact Or.inr rfl) (q_callTyO (call_dictP rfl) k_dictO (by rfl) M.dict_ boot_dict (q_lc [("name", 4)] rfl SC.nd (i_e (q_ixV hu1 (q_var 1) q_int (fun c => nomatch c))) (blk_in (N := N__law_tree) (sc := defScope s__law_tree) rfl rfl (by first | decide +kernel | rfl)) (fun _ _ _ _ _ => (g_name 4 SC.nd rfl (by first | exact Or.inl rfl | exact Or.inr rfl))) (fun _ _ _ _ _ => qts_nil) (fun _ _ _ _ _ => (q_tup (oa_cons (q_pure (q_var 4)) (oa_cons (q_pure (q_var 4)) oa_nil)))))))
    (t_cons (t_set 5 SC.nd rfl (by first | exact Or.inl rfl | exact Or.inr rfl) (q_lst oa_nil))
    (t_cons (t_while 1000 hp (qt_cmp (o_ne hu) k_ne (q_var 2) (q_oe (q_lst oa_nil)) (by first | rfl | exact L2.nomark _))
    (t_cons (t_setE 6 SC.nd rfl (by first | exact Or.inl rfl | exact Or.inr rfl) (s_methN 2 PySem.F.plainAttrs_list PySem.F.slot_list_pop PySem.F.type_list_pop mt_popAt m_popI (pvr 2) (sa_cons (s_call [true, false] tk (cal c__law_draw) hr (by rfl) (sa_cons (s_late 0) (sa_cons (s_o (q_callB cr_len k_len (by rfl) M.len_ boot_len (qa_cons (q_var 2) qa_nil))) sa_nil))) sa_nil)))
    (t_cons (t_par 7 8 rfl SC.nd rfl rfl (by decide) rfl rfl (oa_cons (q_ixP hu1 (q_var 3) (q_ixV hu1 (q_ixV hu1 (q_ixV hu1 (q_var 1) q_int (fun c => nomatch c)) (q_var 6) (fun c => nomatch c)) q_int (fun c => nomatch c))) (oa_cons (q_ixP hu1 (q_var 3) (q_ixV hu1 (q_ixV hu1 (q_ixV hu1 (q_var 1) q_int (fun c => nomatch c)) (q_var 6) (fun c => nomatch c)) q_int (fun c => nomatch c))) oa_nil)) (by rfl))
    (t_one (t_ifQ (qt_cmp (o_ne hu) k_ne (q_var 7) (q_var 8) (by first | rfl | exact L2.nomark _)) (t_cons (t_expE (s_meth PySem.F.plainAttrs_list PySem.F.slot_list_append PySem.F.type_list_append mt_append m_append (p_name 5) (oa_cons (q_pure (q_var 6)) oa_nil)))
    (t_one (t_for hp rfl (i_z (q_ixV hu1 (q_varZ 1) q_int (fun c => nomatch c))) (g_name 4 SC.nd rfl (by first | exact Or.inl rfl | exact Or.inr rfl))
    (t_one (t_ifQ (qt_cmp (o_eq hu) k_eq (q_ixV hu1 (q_var 3) (q_var 4) (fun c => nomatch c)) (q_var 8) (by first | rfl | exact L2.nomark _)) (t_one (t_setP hu1 (q_pure (q_var 7)) (p_name 3) (q_var 4))) t_nil))))) t_nil)))))
    (t_one (t_ret (q_callTyO call_tuple_of k_tupO (by rfl) M.tuple_ boot_tuple (q_callB (cr_sortedP hu) k_sorted (by rfl) M.sorted_ boot_sorted (qa_cons (q_var 5) qa_nil)))))))))
theorem ok__law_tied {P : Program} {w : World} {K : PySem.W.Frag} {mg : Str → Option Value} {base : Heap} {k : Nat} {f : Addr} {fd : FuncData} (M : Mg mg)  (F : Fun K "_law_tied" "_law_tied" s__law_tied f fd) : FnOk P w K mg base (L2.CX P w) (k + 1) f fd ["web", "tree"] (spF K mg fn__law_tied) :=
  fun_ok [false, false] F sc__law_tied rfl (by decide) fun cdv A outer s H E hr => by
    have SC := sc__law_tied
    have hu := room_hu hr
    have hu1 := room_hu1 hr
    have tk := takes_of (E := E) (X := cxOf (L2.CX P w) P w K mg base N__law_tied "_law_tied" (defScope s__law_tied) f cdv A outer s H E) rfl rfl rfl rfl
    have hp := passes_of (X := cxOf (L2.CX P w) P w K mg base N__law_tied "_law_tied" (defScope s__law_tied) f cdv A outer s H E) rfl
    exact (t_cons (t_set 2 SC.nd rfl (by first | exact Or.inl rfl | exact Or.inr rfl) (q_callTyO (call_dictP rfl) k_dictO (by rfl) M.dict_ boot_dict (q_lc [("name", 3)] rfl SC.nd (i_e (q_ixV hu1 (q_var 0) q_int (fun c => nomatch c))) (blk_in (N := N__law_tied) (sc := defScope s__law_tied) rfl rfl (by first | decide +kernel | rfl)) (fun _ _ _ _ _ => (g_name 3 SC.nd rfl (by first | exact Or.inl rfl | exact Or.inr rfl))) (fun _ _ _ _ _ => qts_nil) (fun _ _ _ _ _ => (q_tup (oa_cons (q_pure (q_var 3)) (oa_cons (q_lst oa_nil) oa_nil)))))))
    (t_cons (t_for hp rfl (i_z (q_varZ 1)) (g_name 4 SC.nd rfl (by first | exact Or.inl rfl | exact Or.inr rfl))
    (t_cons (t_expE (s_meth PySem.F.plainAttrs_list PySem.F.slot_list_append PySem.F.type_list_append mt_append m_append (p_ix hu1 (p_name 2) (q_ixV hu1 (q_ixV hu1 (q_ixV hu1 (q_var 0) q_int (fun c => nomatch c)) (q_var 4) (fun c => nomatch c)) q_int (fun c => nomatch c))) (oa_cons (q_ixP hu1 (q_ixV hu1 (q_ixV hu1 (q_var 0) q_int (fun c => nomatch c)) (q_var 4) (fun c => nomatch c)) q_int) oa_nil)))
    (t_one (t_expE (s_meth PySem.F.plainAttrs_list PySem.F.slot_list_append PySem.F.type_list_append mt_append m_append (p_ix hu1 (p_name 2) (q_ixV hu1 (q_ixV hu1 (q_ixV hu1 (q_var 0) q_int (fun c => nomatch c)) (q_var 4) (fun c => nomatch c)) q_int (fun c => nomatch c))) (oa_cons (q_ixP hu1 (q_ixV hu1 (q_ixV hu1 (q_var 0) q_int (fun c => nomatch c)) (q_var 4) (fun c => nomatch c)) q_int) oa_nil))))))
    (t_one (t_retE (s_mv 2)))))
theorem ok_is_tree {P : Program} {w : World} {K : PySem.W.Frag} {mg : Str → Option Value} {base : Heap} {k : Nat} {f : Addr} {fd : FuncData} (M : Mg mg)  (F : Fun K "is_tree" "is_tree" s_is_tree f fd) : FnOk P w K mg base (L2.CX P w) (k + 1) f fd ["web", "row"] (spF K mg fn_is_tree) :=
  fun_ok [false, false] F sc_is_tree rfl (by decide) fun cdv A outer s H E hr => by
    have SC := sc_is_tree
    have hu := room_hu hr
    have hu1 := room_hu1 hr
    have tk := takes_of (E := E) (X := cxOf (L2.CX P w) P w K mg base N_is_tree "is_tree" (defScope s_is_tree) f cdv A outer s H E) rfl rfl rfl rfl
    have hp := passes_of (X := cxOf (L2.CX P w) P w K mg base N_is_tree "is_tree" (defScope s_is_tree) f cdv A outer s H E) rfl
    exact (t_cons (t_as (q_pure (q_var 0)) (g_tup (n := 2) rfl (gs_cons (g_name 2 SC.nd rfl (by first | exact Or.inl rfl | exact Or.inr rfl)) (gs_cons (g_name 3 SC.nd rfl (by first | exact Or.inl rfl | exact Or.inr rfl)) gs_nil))))
    (t_cons (t_ifQ (qt_w (qw_or (qt_cmp (o_ne hu) k_ne (q_oe (q_callB cr_len k_len (by rfl) M.len_ boot_len (qa_cons (q_var 1) qa_nil))) (q_oe (q_op op_sub k_sub (q_oe (q_callB cr_len k_len (by rfl) M.len_ boot_len (qa_cons (q_var 2) qa_nil))) q_int)) (by first | rfl | exact L2.nomark _)) (qw_or1 (qt_cmp (o_ne hu) k_ne (q_oe (q_lc [("k", 4)] rfl SC.nd (ie_of (i_rng2 (by rfl) M.range_ (qa_cons q_int (qa_cons (q_oe (q_callB cr_len k_len (by rfl) M.len_ boot_len (qa_cons (q_var 1) qa_nil))) qa_nil)))) (blk_in (N := N_is_tree) (sc := defScope s_is_tree) rfl rfl (by first | decide +kernel | rfl)) (fun _ _ _ _ _ => (g_name 4 SC.nd rfl (by first | exact Or.inl rfl | exact Or.inr rfl))) (fun _ _ _ _ _ => (qts_one (qt_cmp (o_le hu) k_ord (q_ixV hu1 (q_var 1) (q_var 4) (fun c => nomatch c)) (q_ixV hu1 (q_var 1) (q_oe (q_op op_sub k_sub (q_var 4) q_int)) (fun c => nomatch c)) (by first | rfl | exact L2.nomark _)))) (fun _ _ _ _ _ => (q_pure (q_var 4))))) (q_oe (q_lst oa_nil)) (by first | rfl | exact L2.nomark _))))) (t_one (t_ret q_bl)) t_nil)
    (t_cons (t_set 5 SC.nd rfl (by first | exact Or.inl rfl | exact Or.inr rfl) q_dnewK)
    (t_cons (t_for hp rfl (i_z (q_varZ 2)) (g_name 6 SC.nd rfl (by first | exact Or.inl rfl | exact Or.inr rfl))
    (t_one (t_setP hu1 (q_pure (q_var 6)) (p_name 5) (q_var 6))))
    (t_cons (t_for hp rfl (i_z (q_varZ 1)) (g_name 7 SC.nd rfl (by first | exact Or.inl rfl | exact Or.inr rfl))
    (t_cons (t_ifQ (qt_not (qt_chain (o_le hu) (o_lt hu) k_ord k_ord q_int (q_var 7) (q_oe (q_callB cr_len k_len (by rfl) M.len_ boot_len (qa_cons (q_var 3) qa_nil))))) (t_one (t_ret q_bl)) t_nil)
    (t_cons (t_par 8 9 rfl SC.nd rfl rfl (by decide) rfl rfl (oa_cons (q_ixP hu1 (q_var 5) (q_ixV hu1 (q_ixV hu1 (q_var 3) (q_var 7) (fun c => nomatch c)) q_int (fun c => nomatch c))) (oa_cons (q_ixP hu1 (q_var 5) (q_ixV hu1 (q_ixV hu1 (q_var 3) (q_var 7) (fun c => nomatch c)) q_int (fun c => nomatch c))) oa_nil)) (by rfl))
    (t_cons (t_ifQ (qt_cmp (o_eq hu) k_eq (q_var 8) (q_var 9) (by first | rfl | exact L2.nomark _)) (t_one (t_ret q_bl)) t_nil)
    (t_one (t_for hp rfl (i_z (q_varZ 2)) (g_name 6 SC.nd rfl (by first | exact Or.inl rfl | exact Or.inr rfl))
    (t_one (t_ifQ (qt_cmp (o_eq hu) k_eq (q_ixV hu1 (q_var 5) (q_var 6) (fun c => nomatch c)) (q_var 9) (by first | rfl | exact L2.nomark _)) (t_one (t_setP hu1 (q_pure (q_var 8)) (p_name 5) (q_var 6))) t_nil))))))))
    (t_one (t_ret q_bl)))))))
theorem ok_need_tree {P : Program} {w : World} {K : PySem.W.Frag} {mg : Str → Option Value} {base : Heap} {k : Nat} {f : Addr} {fd : FuncData} (M : Mg mg) (c_is_tree : CalW P w K mg base k "is_tree" fn_is_tree) (F : Fun K "need_tree" "need_tree" s_need_tree f fd) : FnOk P w K mg base (L2.CX P w) (k + 1) f fd ["web", "tree"] (spF K mg fn_need_tree) :=
  fun_ok [false, false] F sc_need_tree rfl (by decide) fun cdv A outer s H E hr => by
    have SC := sc_need_tree
    have hu := room_hu hr
    have hu1 := room_hu1 hr
    have tk := takes_of (E := E) (X := cxOf (L2.CX P w) P w K mg base N_need_tree "need_tree" (defScope s_need_tree) f cdv A outer s H E) rfl rfl rfl rfl
    have hp := passes_of (X := cxOf (L2.CX P w) P w K mg base N_need_tree "need_tree" (defScope s_need_tree) f cdv A outer s H E) rfl
    exact (t_one (t_ifQ (qt_not (qt_val (q_oe (q_call tk (cal c_is_tree) hr (by rfl) (qa_cons (q_var 0) (qa_cons (q_var 1) qa_nil)))))) (t_one t_never) t_nil))
theorem ok_ends_in {P : Program} {w : World} {K : PySem.W.Frag} {mg : Str → Option Value} {base : Heap} {k : Nat} {f : Addr} {fd : FuncData} (M : Mg mg)  (F : Fun K "ends_in" "ends_in" s_ends_in f fd) : FnOk P w K mg base (L2.CX P w) (k + 1) f fd ["tied", "names"] (spF K mg fn_ends_in) :=
  fun_ok [false, false] F sc_ends_in rfl (by decide) fun cdv A outer s H E hr => by
    have SC := sc_ends_in
    have hu := room_hu hr
    have hu1 := room_hu1 hr
    have tk := takes_of (E := E) (X := cxOf (L2.CX P w) P w K mg base N_ends_in "ends_in" (defScope s_ends_in) f cdv A outer s H E) rfl rfl rfl rfl
    have hp := passes_of (X := cxOf (L2.CX P w) P w K mg base N_ends_in "ends_in" (defScope s_ends_in) f cdv A outer s H E) rfl
    exact (t_one (t_ret (q_lc [("name", 2)] rfl SC.nd (i_e (q_var 1)) (blk_in (N := N_ends_in) (sc := defScope s_ends_in) rfl rfl (by first | decide +kernel | rfl)) (fun _ _ _ _ _ => (g_name 2 SC.nd rfl (by first | exact Or.inl rfl | exact Or.inr rfl))) (fun _ _ _ _ _ => (qts_one (qt_cmp (o_eq hu) k_eq (q_oe (q_callB cr_len k_len (by rfl) M.len_ boot_len (qa_cons (q_ixV hu1 (q_var 0) (q_var 2) (fun c => nomatch c)) qa_nil))) q_int (by first | rfl | exact L2.nomark _)))) (fun _ _ _ _ _ => (q_pure (q_var 2))))))
theorem ok_tied_in {P : Program} {w : World} {K : PySem.W.Frag} {mg : Str → Option Value} {base : Heap} {k : Nat} {f : Addr} {fd : FuncData} (M : Mg mg)  (F : Fun K "tied_in" "tied_in" s_tied_in f fd) : FnOk P w K mg base (L2.CX P w) (k + 1) f fd ["web", "tree"] (spF K mg fn_tied_in) :=
  fun_ok [false, false] F sc_tied_in rfl (by decide) fun cdv A outer s H E hr => by
    have SC := sc_tied_in
    have hu := room_hu hr
    have hu1 := room_hu1 hr
    have tk := takes_of (E := E) (X := cxOf (L2.CX P w) P w K mg base N_tied_in "tied_in" (defScope s_tied_in) f cdv A outer s H E) rfl rfl rfl rfl
    have hp := passes_of (X := cxOf (L2.CX P w) P w K mg base N_tied_in "tied_in" (defScope s_tied_in) f cdv A outer s H E) rfl
    exact (t_cons (t_as (q_pure (q_var 0)) (g_tup (n := 2) rfl (gs_cons (g_name 2 SC.nd rfl (by first | exact Or.inl rfl | exact Or.inr rfl)) (gs_cons (g_name 3 SC.nd rfl (by first | exact Or.inl rfl | exact Or.inr rfl)) gs_nil))))
    (t_cons (t_set 4 SC.nd rfl (by first | exact Or.inl rfl | exact Or.inr rfl) (q_callTyO (call_dictP rfl) k_dictO (by rfl) M.dict_ boot_dict (q_lc [("name", 5)] rfl SC.nd (i_e (q_var 2)) (blk_in (N := N_tied_in) (sc := defScope s_tied_in) rfl rfl (by first | decide +kernel | rfl)) (fun _ _ _ _ _ => (g_name 5 SC.nd rfl (by first | exact Or.inl rfl | exact Or.inr rfl))) (fun _ _ _ _ _ => qts_nil) (fun _ _ _ _ _ => (q_tup (oa_cons (q_pure (q_var 5)) (oa_cons (q_lst oa_nil) oa_nil)))))))
    (t_cons (t_for hp rfl (i_z (q_varZ 1)) (g_name 6 SC.nd rfl (by first | exact Or.inl rfl | exact Or.inr rfl))
    (t_cons (t_as (q_ixP hu1 (q_var 3) (q_var 6)) (g_tup (n := 3) rfl (gs_cons (g_name 7 SC.nd rfl (by first | exact Or.inl rfl | exact Or.inr rfl)) (gs_cons (g_name 8 SC.nd rfl (by first | exact Or.inl rfl | exact Or.inr rfl)) (gs_cons (g_name 9 SC.nd rfl (by first | exact Or.inl rfl | exact Or.inr rfl)) gs_nil)))))
    (t_cons (t_expE (s_meth PySem.F.plainAttrs_list PySem.F.slot_list_append PySem.F.type_list_append mt_append m_append (p_ix hu1 (p_name 4) (q_var 7)) (oa_cons (q_pure (q_var 8)) oa_nil)))
    (t_one (t_expE (s_meth PySem.F.plainAttrs_list PySem.F.slot_list_append PySem.F.type_list_append mt_append m_append (p_ix hu1 (p_name 4) (q_var 8)) (oa_cons (q_pure (q_var 7)) oa_nil)))))))
    (t_one (t_retE (s_mv 4))))))
theorem ok_ends_of {P : Program} {w : World} {K : PySem.W.Frag} {mg : Str → Option Value} {base : Heap} {k : Nat} {f : Addr} {fd : FuncData} (M : Mg mg) (c_need_tree : CalW P w K mg base k "need_tree" fn_need_tree) (c_ends_in : CalW P w K mg base k "ends_in" fn_ends_in) (c_tied_in : CalW P w K mg base k "tied_in" fn_tied_in) (F : Fun K "ends_of" "ends_of" s_ends_of f fd) : FnOk P w K mg base (L2.CX P w) (k + 1) f fd ["web", "tree"] (spF K mg fn_ends_of) :=
  fun_ok [false, false] F sc_ends_of rfl (by decide) fun cdv A outer s H E hr => by
    have SC := sc_ends_of
    have hu := room_hu hr
    have hu1 := room_hu1 hr
    have tk := takes_of (E := E) (X := cxOf (L2.CX P w) P w K mg base N_ends_of "ends_of" (defScope s_ends_of) f cdv A outer s H E) rfl rfl rfl rfl
    have hp := passes_of (X := cxOf (L2.CX P w) P w K mg base N_ends_of "ends_of" (defScope s_ends_of) f cdv A outer s H E) rfl
    exact (t_cons (t_exp (q_oe (q_call tk (cal c_need_tree) hr (by rfl) (qa_cons (q_var 0) (qa_cons (q_var 1) qa_nil)))))
    (t_one (t_ret (q_callTyO call_tuple_of k_tupO (by rfl) M.tuple_ boot_tuple (q_call tk (cal c_ends_in) hr (by rfl) (qa_cons (q_oe (q_call tk (cal c_tied_in) hr (by rfl) (qa_cons (q_var 0) (qa_cons (q_var 1) qa_nil)))) (qa_cons (q_ixV hu1 (q_var 0) q_int (fun c => nomatch c)) qa_nil)))))))
theorem ok_law {P : Program} {w : World} {K : PySem.W.Frag} {mg : Str → Option Value} {base : Heap} {k : Nat} {f : Addr} {fd : FuncData} (M : Mg mg) (c__law_cells : CalW P w K mg base k "_law_cells" fn__law_cells) (c__law_seed : CalW P w K mg base k "_law_seed" fn__law_seed) (c__law_web : CalW P w K mg base k "_law_web" fn__law_web) (c__law_tree : CalW P w K mg base k "_law_tree" fn__law_tree) (c__law_tied : CalW P w K mg base k "_law_tied" fn__law_tied) (c_ends_of : CalW P w K mg base k "ends_of" fn_ends_of) (F : Fun K "law" "law" s_law f fd) : FnOk P w K mg base (L2.CX P w) (k + 1) f fd ["script"] (spF K mg fn_law) :=
  fun_ok [false] F sc_law rfl (by decide) fun cdv A outer s H E hr => by
    have SC := sc_law
    have hu := room_hu hr
    have hu1 := room_hu1 hr
    have tk := takes_of (E := E) (X := cxOf (L2.CX P w) P w K mg base N_law "law" (defScope s_law) f cdv A outer s H E) rfl rfl rfl rfl
    have hp := passes_of (X := cxOf (L2.CX P w) P w K mg base N_law "law" (defScope s_law) f cdv A outer s H E) rfl
    exact (t_cons (t_for hp rfl (i_o (q_call tk (cal c__law_cells) hr (by rfl) (qa_cons (q_var 0) (qa_cons q_int qa_nil)))) (g_name 1 SC.nd rfl (by first | exact Or.inl rfl | exact Or.inr rfl))
    (t_cons (t_set 2 SC.nd rfl (by first | exact Or.inl rfl | exact Or.inr rfl) (q_call tk (cal c__law_seed) hr (by rfl) (qa_cons (q_var 1) qa_nil)))
    (t_cons (t_setE 3 SC.nd rfl (by first | exact Or.inl rfl | exact Or.inr rfl) (s_call [true, false, false] tk (cal c__law_web) hr (by rfl) (sa_cons (s_late 2) (sa_cons (s_o q_int) (sa_cons (s_o q_int) sa_nil)))))
    (t_one (t_for hp rfl (i_rng1 (by rfl) M.range_ (qa_cons q_int qa_nil)) (g_name 4 SC.nd rfl (by first | exact Or.inl rfl | exact Or.inr rfl))
    (t_cons (t_setE 5 SC.nd rfl (by first | exact Or.inl rfl | exact Or.inr rfl) (s_call [true, false] tk (cal c__law_tree) hr (by rfl) (sa_cons (s_late 2) (sa_cons (s_late 3) sa_nil))))
    (t_cons (t_set 6 SC.nd rfl (by first | exact Or.inl rfl | exact Or.inr rfl) (q_call tk (cal c__law_tied) hr (by rfl) (qa_cons (q_var 3) (qa_cons (q_var 5) qa_nil))))
    (t_cons (t_set 7 SC.nd rfl (by first | exact Or.inl rfl | exact Or.inr rfl) (q_callTyO call_tuple_of k_tupO (by rfl) M.tuple_ boot_tuple (q_lc [("name", 8)] rfl SC.nd (i_e (q_ixV hu1 (q_var 3) q_int (fun c => nomatch c))) (blk_in (N := N_law) (sc := defScope s_law) rfl rfl (by first | decide +kernel | rfl)) (fun _ _ _ _ _ => (g_name 8 SC.nd rfl (by first | exact Or.inl rfl | exact Or.inr rfl))) (fun _ _ _ _ _ => (qts_one (qt_cmp (o_eq hu) k_eq (q_oe (q_callB cr_len k_len (by rfl) M.len_ boot_len (qa_cons (q_ixV hu1 (q_var 6) (q_var 8) (fun c => nomatch c)) qa_nil))) q_int (by first | rfl | exact L2.nomark _)))) (fun _ _ _ _ _ => (q_pure (q_var 8))))))
    (t_cons (t_set 9 SC.nd rfl (by first | exact Or.inl rfl | exact Or.inr rfl) (q_call tk (cal c_ends_of) hr (by rfl) (qa_cons (q_var 3) (qa_cons (q_var 5) qa_nil))))
    (t_one (t_ifQ (qt_w (qw_or (qt_not (qt_val (q_oe (q_isi (n := "tuple") (by rfl) M.isinstance_ (by rfl) M.tuple_ (by first | rfl | decide +kernel) (q_var 9))))) (qw_or (qt_cmp (o_ne hu) k_ne (q_var 9) (q_var 7) (by first | rfl | exact L2.nomark _)) (qw_or1 (qt_cmp (o_ne hu) k_ne (q_oe (q_call tk (cal c_ends_of) hr (by rfl) (qa_cons (q_var 3) (qa_cons (q_var 5) qa_nil)))) (q_var 7) (by first | rfl | exact L2.nomark _)))))) (t_one (t_ret q_bl)) t_nil)))))))))))
    (t_one (t_ret q_bl)))
def d__law_cells : He.DefD := ⟨("_law_cells", none), "_law_cells", "_law_cells", defArgs s__law_cells, defBody s__law_cells, defScope s__law_cells, [], []⟩
def d__law_seed : He.DefD := ⟨("_law_seed", none), "_law_seed", "_law_seed", defArgs s__law_seed, defBody s__law_seed, defScope s__law_seed, [], []⟩
def d__law_draw : He.DefD := ⟨("_law_draw", none), "_law_draw", "_law_draw", defArgs s__law_draw, defBody s__law_draw, defScope s__law_draw, [], []⟩
def d__law_names : He.DefD := ⟨("_law_names", none), "_law_names", "_law_names", defArgs s__law_names, defBody s__law_names, defScope s__law_names, [], []⟩
def d__law_web : He.DefD := ⟨("_law_web", none), "_law_web", "_law_web", defArgs s__law_web, defBody s__law_web, defScope s__law_web, [], []⟩
def d__law_tree : He.DefD := ⟨("_law_tree", none), "_law_tree", "_law_tree", defArgs s__law_tree, defBody s__law_tree, defScope s__law_tree, [], []⟩
def d__law_tied : He.DefD := ⟨("_law_tied", none), "_law_tied", "_law_tied", defArgs s__law_tied, defBody s__law_tied, defScope s__law_tied, [], []⟩
def d_is_tree : He.DefD := ⟨("is_tree", none), "is_tree", "is_tree", defArgs s_is_tree, defBody s_is_tree, defScope s_is_tree, [], []⟩
def d_need_tree : He.DefD := ⟨("need_tree", none), "need_tree", "need_tree", defArgs s_need_tree, defBody s_need_tree, defScope s_need_tree, [], []⟩
def d_ends_in : He.DefD := ⟨("ends_in", none), "ends_in", "ends_in", defArgs s_ends_in, defBody s_ends_in, defScope s_ends_in, [], []⟩
def d_tied_in : He.DefD := ⟨("tied_in", none), "tied_in", "tied_in", defArgs s_tied_in, defBody s_tied_in, defScope s_tied_in, [], []⟩
def d_ends_of : He.DefD := ⟨("ends_of", none), "ends_of", "ends_of", defArgs s_ends_of, defBody s_ends_of, defScope s_ends_of, [], []⟩
def d_law : He.DefD := ⟨("law", none), "law", "law", defArgs s_law, defBody s_law, defScope s_law, [], []⟩
def fn : List He.DefD := [d__law_cells, d__law_seed, d__law_draw, d__law_names, d__law_web, d__law_tree, d__law_tied, d_is_tree, d_need_tree, d_ends_in, d_tied_in, d_ends_of, d_law]
def fa : List He.Fa := [.glo "_law_cells", .glo "_law_seed", .glo "_law_draw", .glo "_law_names", .glo "_law_web", .glo "_law_tree", .glo "_law_tied", .glo "is_tree", .glo "need_tree", .glo "ends_in", .glo "tied_in", .glo "ends_of", .glo "law", .free "dict", .free "int", .free "isinstance", .free "len", .free "list", .free "max", .free "min", .free "range", .free "sorted", .free "tuple"]
def loose0 : List PySem.Str := ["__name__", "TreeError", "NoTree", "is_tree", "need_tree", "tied_in", "ends_in", "ends_of", "_law_seed", "_law_draw", "_law_cells", "_law_names", "_law_web", "_law_tree", "_law_tied", "_law_ways"]
def loose : List PySem.Str := loose0
abbrev Rw : PySem.W.OpenRow := PySem.W.OpenLaw.row PySem.Challenge.rw_treerounds_k71_ends_of_trees
abbrev hk : PySem.W.Hook := He.hookD 4 fa fn
def ob (s : PySem.W.SharedT) : He.AlD := He.obsDG 4 fa fn (HandSHeadRun.getT s)
theorem ob_eq (s : PySem.W.SharedT) : ob s = hk.obs s.abs := He.obsDG_eq (HandSHeadRun.getT_eq s)
theorem run (w : World) : HandSHeadRun.RunEq Rw (PySem.W.view Rw.prog [19]) hk ob 40000 loose w := by
  intro os
  kernel_rfl
theorem facts {P : Program} {w : World} {K : PySem.W.Frag} {h : Heap} {mg : Str → Option Value} {f : Addr} (X : K.In h) (G : h.Ns mainGlobals mg) (hfa : mg ("law" : Str) = some (.ref f)) (c : He.SaysD fa fn K) :
    ∃ fd : FuncData, (∀ (s : Shared) (v : Value), BindsTo s fd ⟨[v], []⟩ [("script", v)]) ∧ ∀ base : Heap, K.In base → base.Ns mainGlobals mg → FnOk P w K mg base (L2.CX P w) 4 f fd ["script"] (spF K mg fn_law) := by
  have M : Mg mg := ⟨He.free_ok X G (c.fact 13 (f := .free "dict") rfl), He.free_ok X G (c.fact 14 (f := .free "int") rfl), He.free_ok X G (c.fact 15 (f := .free "isinstance") rfl), He.free_ok X G (c.fact 16 (f := .free "len") rfl), He.free_ok X G (c.fact 17 (f := .free "list") rfl), He.free_ok X G (c.fact 18 (f := .free "max") rfl), He.free_ok X G (c.fact 19 (f := .free "min") rfl), He.free_ok X G (c.fact 20 (f := .free "range") rfl), He.free_ok X G (c.fact 21 (f := .free "sorted") rfl), He.free_ok X G (c.fact 22 (f := .free "tuple") rfl)⟩
  obtain ⟨fd__law_cells, F__law_cells⟩ := c.def_ 0 (d := d__law_cells) rfl
  obtain ⟨fd__law_seed, F__law_seed⟩ := c.def_ 1 (d := d__law_seed) rfl
  obtain ⟨fd__law_draw, F__law_draw⟩ := c.def_ 2 (d := d__law_draw) rfl
  obtain ⟨fd__law_names, F__law_names⟩ := c.def_ 3 (d := d__law_names) rfl
  obtain ⟨fd__law_web, F__law_web⟩ := c.def_ 4 (d := d__law_web) rfl
  obtain ⟨fd__law_tree, F__law_tree⟩ := c.def_ 5 (d := d__law_tree) rfl
  obtain ⟨fd__law_tied, F__law_tied⟩ := c.def_ 6 (d := d__law_tied) rfl
  obtain ⟨fd_is_tree, F_is_tree⟩ := c.def_ 7 (d := d_is_tree) rfl
  obtain ⟨fd_need_tree, F_need_tree⟩ := c.def_ 8 (d := d_need_tree) rfl
  obtain ⟨fd_ends_in, F_ends_in⟩ := c.def_ 9 (d := d_ends_in) rfl
  obtain ⟨fd_tied_in, F_tied_in⟩ := c.def_ 10 (d := d_tied_in) rfl
  obtain ⟨fd_ends_of, F_ends_of⟩ := c.def_ 11 (d := d_ends_of) rfl
  obtain ⟨fd_law, F_law⟩ := c.def_ 12 (d := d_law) rfl
  have e := hfa.symm.trans (He.glo_ok X G (c.fact 12 (f := .glo "law") rfl))
  cases e
  have b := FunD.bindsA (ps := ["script"]) F_law fun _ _ _ _ _ _ us hl => match us, hl with | [_], _ => rfl
  refine ⟨fd_law, fun s v => b s [v] rfl, fun base _ _ => ?_⟩
  have c__law_cells : CalW P w K mg base 1 "_law_cells" fn__law_cells := ⟨_, _, _, ok__law_cells (k := 0) M  (He5.fun_of F__law_cells), He.glo_ok X G (c.fact 0 (f := .glo "_law_cells") rfl), F__law_cells.kp, FunD.bindsN F__law_cells fun _ _ _ _ _ _ us hl => match us, hl with | [_, _], _ => rfl⟩
  have c__law_seed : CalW P w K mg base 1 "_law_seed" fn__law_seed := ⟨_, _, _, ok__law_seed (k := 0) M  (He5.fun_of F__law_seed), He.glo_ok X G (c.fact 1 (f := .glo "_law_seed") rfl), F__law_seed.kp, FunD.bindsN F__law_seed fun _ _ _ _ _ _ us hl => match us, hl with | [_], _ => rfl⟩
  have c__law_draw : CalW P w K mg base 1 "_law_draw" fn__law_draw := ⟨_, _, _, ok__law_draw (k := 0) M  (He5.fun_of F__law_draw), He.glo_ok X G (c.fact 2 (f := .glo "_law_draw") rfl), F__law_draw.kp, FunD.bindsN F__law_draw fun _ _ _ _ _ _ us hl => match us, hl with | [_, _], _ => rfl⟩
  have c__law_names : CalW P w K mg base 2 "_law_names" fn__law_names := ⟨_, _, _, ok__law_names (k := 1) M (c__law_draw.mono (by decide)) (He5.fun_of F__law_names), He.glo_ok X G (c.fact 3 (f := .glo "_law_names") rfl), F__law_names.kp, FunD.bindsN F__law_names fun _ _ _ _ _ _ us hl => match us, hl with | [_, _], _ => rfl⟩
  have c__law_web : CalW P w K mg base 3 "_law_web" fn__law_web := ⟨_, _, _, ok__law_web (k := 2) M (c__law_draw.mono (by decide)) (c__law_names.mono (by decide)) (He5.fun_of F__law_web), He.glo_ok X G (c.fact 4 (f := .glo "_law_web") rfl), F__law_web.kp, FunD.bindsN F__law_web fun _ _ _ _ _ _ us hl => match us, hl with | [_, _, _], _ => rfl⟩
  have c__law_tree : CalW P w K mg base 2 "_law_tree" fn__law_tree := ⟨_, _, _, ok__law_tree (k := 1) M (c__law_draw.mono (by decide)) (He5.fun_of F__law_tree), He.glo_ok X G (c.fact 5 (f := .glo "_law_tree") rfl), F__law_tree.kp, FunD.bindsN F__law_tree fun _ _ _ _ _ _ us hl => match us, hl with | [_, _], _ => rfl⟩
  have c__law_tied : CalW P w K mg base 1 "_law_tied" fn__law_tied := ⟨_, _, _, ok__law_tied (k := 0) M  (He5.fun_of F__law_tied), He.glo_ok X G (c.fact 6 (f := .glo "_law_tied") rfl), F__law_tied.kp, FunD.bindsN F__law_tied fun _ _ _ _ _ _ us hl => match us, hl with | [_, _], _ => rfl⟩
  have c_is_tree : CalW P w K mg base 1 "is_tree" fn_is_tree := ⟨_, _, _, ok_is_tree (k := 0) M  (He5.fun_of F_is_tree), He.glo_ok X G (c.fact 7 (f := .glo "is_tree") rfl), F_is_tree.kp, FunD.bindsN F_is_tree fun _ _ _ _ _ _ us hl => match us, hl with | [_, _], _ => rfl⟩
  have c_need_tree : CalW P w K mg base 2 "need_tree" fn_need_tree := ⟨_, _, _, ok_need_tree (k := 1) M (c_is_tree.mono (by decide)) (He5.fun_of F_need_tree), He.glo_ok X G (c.fact 8 (f := .glo "need_tree") rfl), F_need_tree.kp, FunD.bindsN F_need_tree fun _ _ _ _ _ _ us hl => match us, hl with | [_, _], _ => rfl⟩
  have c_ends_in : CalW P w K mg base 1 "ends_in" fn_ends_in := ⟨_, _, _, ok_ends_in (k := 0) M  (He5.fun_of F_ends_in), He.glo_ok X G (c.fact 9 (f := .glo "ends_in") rfl), F_ends_in.kp, FunD.bindsN F_ends_in fun _ _ _ _ _ _ us hl => match us, hl with | [_, _], _ => rfl⟩
  have c_tied_in : CalW P w K mg base 1 "tied_in" fn_tied_in := ⟨_, _, _, ok_tied_in (k := 0) M  (He5.fun_of F_tied_in), He.glo_ok X G (c.fact 10 (f := .glo "tied_in") rfl), F_tied_in.kp, FunD.bindsN F_tied_in fun _ _ _ _ _ _ us hl => match us, hl with | [_, _], _ => rfl⟩
  have c_ends_of : CalW P w K mg base 3 "ends_of" fn_ends_of := ⟨_, _, _, ok_ends_of (k := 2) M (c_need_tree.mono (by decide)) (c_ends_in.mono (by decide)) (c_tied_in.mono (by decide)) (He5.fun_of F_ends_of), He.glo_ok X G (c.fact 11 (f := .glo "ends_of") rfl), F_ends_of.kp, FunD.bindsN F_ends_of fun _ _ _ _ _ _ us hl => match us, hl with | [_, _], _ => rfl⟩
  exact ok_law (k := 3) M (c__law_cells.mono (by decide)) (c__law_seed.mono (by decide)) (c__law_web.mono (by decide)) (c__law_tree.mono (by decide)) (c__law_tied.mono (by decide)) (c_ends_of.mono (by decide)) (He5.fun_of F_law)
end LW
namespace LW
open PySem PySem.Spec PyProof.Rows L2 TR
def sd (x : Int × Int × Int × Int) : T := .lst [pvi x.1, pvi x.2.1, pvi x.2.2.1, pvi x.2.2.2]
theorem draw_ok (x : Int × Int × Int × Int) (m : Int) (h0 : 0 < m) (h1 : m < 2 ^ 64) : ∃ (d : Int) (y : Int × Int × Int × Int), fn__law_draw [.ow (sd x), .ow (pvi m)] = .ok (pvi d, [.ow (sd y), .no]) ∧ 0 ≤ d ∧ d < m := by
  obtain ⟨n, f, c, r⟩ := x
  have hd : ∀ i, cDiv i m = true := fun i => cDiv_lit h0 h1
  obtain ⟨t, ρ', e, d, y, e1, e2, k⟩ := fn_run (io := [true, false]) (n := 4) (b := b__law_draw) (args := [.ow (sd (n, f, c, r)), .ow (pvi m)]) (G := fun t ρ => ∃ (d : Int) (y : Int × Int × Int × Int), t = pvi d ∧ ρ = [.ow (sd y), .no] ∧ 0 ≤ d ∧ d < m) rfl (by
    refine rn_seq (rn_setP (tv := pvi (c + 1)) (ks := []) (p := .int 2) (t := sd (n, f, c, r)) (t2 := sd (n, f, c + 1, r)) (by simp [sd]) rfl rfl rfl rfl ?_)
    refine rn_seq (rn_if (b := decide (f = 1) && decide (0 < n)) (by simp [sd]; by_cases hf : f = 1 <;> simp [hf]) (fun hb => ?_) fun hb => ?_)
    · refine rn_seq (rn_set (t := pvi (n % m)) (by simp [sd, h0]) (by simp) ?_)
      refine rn_seq (rn_setP (tv := pvi (n / m)) (ks := []) (p := .int 0) (t := sd (n, f, c + 1, r)) (t2 := sd (n / m, f, c + 1, r)) (by simp [sd, hd]) rfl rfl rfl rfl ?_)
      refine rn_retE (t := pvi (n % m)) rfl ?_
      exact ⟨_, _, rfl, rfl, Int.emod_nonneg _ (by omega), Int.emod_lt_of_pos _ h0⟩
    · refine rn_nx ?_
      have q1 : ∀ a : Int, -(2 ^ 64) < a % 2147483647 ∧ a % 2147483647 < 2 ^ 64 := fun a => by omega
      refine rn_seq (rn_set (t := pvi ((r + 7549 * (c + 1) + 53) * 48271 % 2147483647)) (by simp [sd, cMul_l, cMul_r]) (by simp) ?_)
      generalize hz : (r + 7549 * (c + 1) + 53) * 48271 % 2147483647 = z
      have hz1 : -(2 ^ 64) < z ∧ z < 2 ^ 64 := by rw [← hz]; exact q1 _
      refine rn_seq (rn_set (t := pvi (z * z % 2147483629 * 40692 % 2147483399)) (by simp [cMul_l hz1.1 hz1.2, cMul_r]) (by simp) ?_)
      generalize z * z % 2147483629 * 40692 % 2147483399 = z2
      refine rn_ret (t := pvi (z2 / 7 % m)) (by simp [h0, cDiv_lit]) ?_
      exact ⟨_, (n, f, c + 1, r), rfl, rfl, Int.emod_nonneg _ (by omega), Int.emod_lt_of_pos _ h0⟩)
  exact ⟨d, y, by rw [fn__law_draw, e, e1, e2], k⟩
theorem draw_nat (x : Int × Int × Int × Int) (m : Nat) (h0 : 0 < m) (h1 : m < 2 ^ 63) : ∃ (d : Nat) (y : Int × Int × Int × Int), fn__law_draw [.ow (sd x), .ow (pvi (m : Int))] = .ok (pvi (d : Int), [.ow (sd y), .no]) ∧ d < m := by
  obtain ⟨d, y, e, h2, h3⟩ := draw_ok x m (by omega) (by omega)
  refine ⟨d.toNat, y, ?_, by omega⟩
  rw [show ((d.toNat : Nat) : Int) = d by omega]
  exact e
theorem sdraw {ρ : TR.Env} {x : Int × Int × Int × Int} {a : TR.Env → TR.R TR.Env (AV × TR.Env)} {av : AV} {m : Nat} (hx : ρ[0]? = some (.ow (sd x))) (ha : a (ρ) = .ok (av, ρ)) (hs : av.see (ρ.set 0 .no) = some (pvi (m : Int))) (h0 : 0 < m) (h1 : m < 2 ^ 63) :
    ∃ (d : Nat) (y : Int × Int × Int × Int), sCall fn__law_draw [true, false] (sCons (fLateN 0) (sCons a sNil)) ρ = .ok (.val (pvi (d : Int)), ρ.set 0 (.ow (sd y))) ∧ d < m := by
  obtain ⟨d, y, e, hd⟩ := draw_nat x m h0 h1
  refine ⟨d, y, ?_, hd⟩
  have e1 : (sCons (fLateN 0) (sCons a sNil)) ρ = .ok ([.late 0, av], ρ) := by
    simp only [sCons_ap, fLateN_ap, hx, R.bind_ok, ha, sNil_ap]
  have e2 : takeA [true, false] [.late 0, av] ρ = some ([.ow (sd x), .ow (pvi (m : Int))], ρ.set 0 .no) := by
    unfold takeA
    rw [hx]
    dsimp only
    rw [takeA_f, takeA_nil, Option.bind_some]
    dsimp only
    rw [hs]; rfl
  unfold sCall
  rw [e1, R.bind_ok]
  dsimp only
  rw [e2]
  dsimp only
  rw [e]
  dsimp only
  have e3 : giveB [true, false] [.late 0, av] [.ow (sd y), .no] (ρ.set 0 .no) = ρ.set 0 (.ow (sd y)) := by
    show (giveB [false] [av] [.no] (ρ.set 0 .no)).set 0 (.ow (sd y)) = _
    have : giveB [false] [av] [.no] (ρ.set 0 .no) = ρ.set 0 .no := by cases av <;> rfl
    rw [this, List.set_set]
  rw [e3]
theorem seed_ok (c : Int) : ∃ y ρ', fn__law_seed [.ow (pvi c)] = .ok (sd y, ρ') := by
  obtain ⟨t, ρ', e, y, e1⟩ := fn_run (io := [false]) (n := 2) (b := b__law_seed) (args := [.ow (pvi c)]) (G := fun t ρ => ∃ y, t = sd y) rfl (by
    refine rn_seq (rn_set (t := pvi (if 0 - c > c then 0 - c else c)) (by simp) (by simp) ?_)
    generalize (if 0 - c > c then 0 - c else c) = z
    refine rn_ret (t := sd (z, if decide (10 ^ 18 ≤ z) = true then 1 else 0, 0, c % 1999999873)) ?_ ⟨_, rfl⟩
    simp [sd, cPow])
  exact ⟨y, ρ', by rw [fn__law_seed, e, e1]⟩
theorem names_ok (x : Int × Int × Int × Int) (m : Nat) (hm : m ≤ 14) : ∃ (nm : List Str) (y : Int × Int × Int × Int), fn__law_names [.ow (sd x), .ow (pvi (m : Int))] = .ok (.pv (.tup (nm.map .str)), [.ow (sd y), .no]) ∧ nm.Nodup ∧ nm.length = m := by
  obtain ⟨t, ρ', e, nm, y, e1, e2, k⟩ := fn_run (io := [true, false]) (n := 4) (b := b__law_names) (args := [.ow (sd x), .ow (pvi (m : Int))]) (G := fun t ρ => ∃ (nm : List Str) (y : Int × Int × Int × Int), t = .pv (.tup (nm.map .str)) ∧ ρ = [.ow (sd y), .no] ∧ nm.Nodup ∧ nm.length = m) rfl (by
    refine rn_seq (rn_set (t := .lst ((["a", "ba", "ab", "aa", "tie", "b", "bb", "bbb", "bab", "abc", "longname", "longnamf", "zz", "z"] : List Str).map tS)) (by simp) (by simp) ?_)
    generalize hsp : (["a", "ba", "ab", "aa", "tie", "b", "bb", "bbb", "bab", "abc", "longname", "longnamf", "zz", "z"] : List Str) = sp
    have hnd : sp.Nodup := by rw [← hsp]; decide +kernel
    have hl : sp.length = 14 := by rw [← hsp]; rfl
    obtain ⟨us, ρ1, e1, e2, got, spare, y, e3, e4, e5, e6⟩ := lcE_run (g := gN 3) (fc := fYes) (fe := sMethN "list" 2 muPopI (sCons (sCall fn__law_draw [true, false] (sCons (fLateN 0) (sCons (fVal (fN gLen (aCons (fVar 2) aNil))) sNil))) sNil)) (vs := [3])
      (fun ts ρ => ∃ (got spare : List Str) (y : Int × Int × Int × Int), ts = got.map tS ∧ ρ = [.ow (sd y), .ow (pvi (m : Int)), .ow (.lst (spare.map tS)), .no] ∧ (got ++ spare).Nodup ∧ got.length + spare.length = 14) (L := m) (rngSl 0 m) [] [.ow (sd x), .ow (pvi (m : Int)), .ow (.lst (sp.map tS)), .no]
      ⟨[], sp, x, rfl, rfl, by simpa using hnd, by simpa using hl⟩ (by simp [rngSl]) (by
        rintro s hs ts ρ hlt ⟨got, spare, y, rfl, rfl, nd, hl2⟩
        obtain ⟨i, _, rfl⟩ := List.mem_map.mp hs
        have hsp0 : 0 < spare.length := by simp at hlt; omega
        obtain ⟨d, y2, ed, hd⟩ := sdraw (ρ := [.ow (sd y), .ow (pvi (m : Int)), .ow (.lst (spare.map tS)), sli (0 + (i : Int))]) (x := y) (a := fVal (fN gLen (aCons (fVar 2) aNil))) (av := .val (pvi (spare.length : Int))) (m := spare.length) rfl (by simp) rfl hsp0 (by omega)
        have hat : (spare.map tS)[d]? = some (tS spare[d]) := by rw [List.getElem?_map, List.getElem?_eq_getElem hd]; rfl
        refine ⟨_, _, tS spare[d], [.ow (sd y2), .ow (pvi (m : Int)), .ow (.lst ((spare.eraseIdx d).map tS)), sli (0 + (i : Int))], rfl, rfl, rfl, ?_, got ++ [spare[d]], spare.eraseIdx d, y2, ?_, ?_, ?_, ?_⟩
        · have h4 := muPopI_ok (ts := spare.map tS) hat (by simp; omega)
          rw [map_erase] at h4
          have h1 : (sCons (sCall fn__law_draw [true, false] (sCons (fLateN 0) (sCons (fVal (fN gLen (aCons (fVar 2) aNil))) sNil))) sNil) [.ow (sd y), .ow (pvi (m : Int)), .ow (.lst (spare.map tS)), sli (0 + (i : Int))] = .ok ([.val (pvi (d : Int))], [.ow (sd y2), .ow (pvi (m : Int)), .ow (.lst (spare.map tS)), sli (0 + (i : Int))]) := by
            rw [sCons_ap, ed]
            rfl
          exact sMethN_run rfl rfl h1 rfl rfl h4
        · simp
        · rfl
        · have h1 : ((spare[d] :: spare.eraseIdx d)).Perm spare := erase_perm _ _ hd
          have h2 : (got ++ [spare[d]] ++ spare.eraseIdx d).Perm (got ++ spare) := by
            rw [List.append_assoc]
            exact List.Perm.append_left got h1
          exact (h2.nodup_iff).mpr nd
        · rw [List.length_append, List.length_eraseIdx_of_lt hd]; simp; omega)
    have hus : us = got.map tS := by simpa using e3
    have hgl : got.length = m := by
      have q := e2
      rw [hus] at q
      simpa [rngSl] using q
    obtain ⟨nm, s1, s2⟩ := sorted_strs got
    have hm2 : -16777216 ≤ (m : Int) ∧ (m : Int) ≤ 16777216 := by omega
    refine rn_retE (t := .pv (.tup (nm.map .str))) (ρ1 := ρ1) ?_ ⟨nm, y, rfl, by rw [e4]; rfl, ?_, by rw [s2.length_eq, hgl]⟩
    · have hs1 : gSorted [.lst us] = some (.lst (nm.map fun x => .pv (.str x))) := by rw [hus]; exact s1
      have hmk : mkT (nm.map fun x => T.pv (.str x)) = .pv (.tup (nm.map .str)) := by
        have := mkT_pv (nm.map P.str)
        rw [List.map_map] at this
        exact this
      have hwp : wipeE [Sl.ow (sd x), Sl.ow (pvi (m : Int)), Sl.ow (.lst (sp.map tS)), Sl.no] [3] = [Sl.ow (sd x), Sl.ow (pvi (m : Int)), Sl.ow (.lst (sp.map tS)), Sl.no] := rfl
      simp [sLc, rng1, hm2, hwp, e1, hs1, gTupO, hmk]
    · exact (s2.nodup_iff).mpr ((List.nodup_append.mp e5).1))
  exact ⟨nm, y, by rw [fn__law_names, e, e1, e2], k⟩
theorem scall2 {g : Fn} {ρ ρ1 : TR.Env} {s s' : T} {t u : T} {a : TR.Env → TR.R TR.Env (AV × TR.Env)} {av : AV} {o : Sl} (hi : ∃ s0, ρ[0]? = some (.ow s0)) (ha : a ρ = .ok (av, ρ1)) (hx : ρ1[0]? = some (.ow s)) (hs : av.see (ρ1.set 0 .no) = some u) (hg : g [.ow s, argSl u] = .ok (t, [.ow s', o])) :
    sCall g [true, false] (sCons (fLateN 0) (sCons a sNil)) ρ = .ok (.val t, ρ1.set 0 (.ow s')) := by
  obtain ⟨s0, hi⟩ := hi
  have e1 : (sCons (fLateN 0) (sCons a sNil)) ρ = .ok ([.late 0, av], ρ1) := by
    simp only [sCons_ap, fLateN_ap, hi, R.bind_ok, ha, sNil_ap]
  have e2 : takeA [true, false] [.late 0, av] ρ1 = some ([.ow s, argSl u], ρ1.set 0 .no) := by
    unfold takeA
    rw [hx]
    dsimp only
    rw [takeA_f, takeA_nil, Option.bind_some]
    dsimp only
    rw [hs]; rfl
  unfold sCall
  rw [e1, R.bind_ok]
  dsimp only
  rw [e2]
  dsimp only
  rw [hg]
  dsimp only
  have e3 : giveB [true, false] [.late 0, av] [.ow s', o] (ρ1.set 0 .no) = ρ1.set 0 (.ow s') := by
    show (giveB [false] [av] [o] (ρ1.set 0 .no)).set 0 (.ow s') = _
    have : giveB [false] [av] [o] (ρ1.set 0 .no) = ρ1.set 0 .no := by cases av <;> rfl
    rw [this, List.set_set]
  rw [e3]
structure Web where
  nm : List Str
  ties : List (Str × Str × Int)
def enTie (t : Str × Str × Int) : P := .tup [.str t.1, .str t.2.1, .int t.2.2]
def enWeb (w : Web) : P := .tup [.tup (w.nm.map .str), .tup (w.ties.map enTie)]
structure GoodW (w : Web) : Prop where
  nd : w.nm.Nodup
  ne : w.nm ≠ []
  few : w.nm.length ≤ 14
  ends : ∀ t ∈ w.ties, t.1 ∈ w.nm ∧ t.2.1 ∈ w.nm
  ltie : w.ties.length ≤ 100
  conn : ∀ g : Str → Str, (∀ t ∈ w.ties, g t.1 = g t.2.1) → ∀ x ∈ w.nm, ∀ y ∈ w.nm, g x = g y
abbrev NMs (nm : List Str) : Sl := .ow (.pv (.tup (nm.map .str)))
abbrev PRs (ps : List (Str × Str)) : Sl := .ow (.lst (ps.map fun p => T.pv (enSS p)))
theorem conn_of {nm : List Str} {ps : List (Str × Str)} (h : ∀ k, 1 ≤ k → ∀ x, nm[k]? = some x → ∃ q y, q < k ∧ nm[q]? = some y ∧ (y, x) ∈ ps) (g : Str → Str) (hg : ∀ p ∈ ps, g p.1 = g p.2) : ∀ x ∈ nm, ∀ y ∈ nm, g x = g y := by
  have main : ∀ (n k : Nat) (x : Str), k ≤ n → nm[k]? = some x → ∀ z, nm[0]? = some z → g x = g z := by
    intro n
    induction n with
    | zero =>
      intro k x hk hx z hz
      have : k = 0 := by omega
      subst this
      rw [hx] at hz
      rw [Option.some.inj hz]
    | succ n ih =>
      intro k x hk hx z hz
      by_cases h0 : k = 0
      · subst h0
        rw [hx] at hz
        rw [Option.some.inj hz]
      · obtain ⟨q, y, hq, hy, hm⟩ := h k (by omega) x hx
        have e := hg _ hm
        rw [← e]
        exact ih q y (by omega) hy z hz
  intro x hx y hy
  obtain ⟨i, hi⟩ := List.getElem?_of_mem hx
  obtain ⟨j, hj⟩ := List.getElem?_of_mem hy
  cases nm with
  | nil => cases hx
  | cons z r => rw [main i i x (Nat.le_refl _) hi z rfl, main j j y (Nat.le_refl _) hj z rfl]
theorem gIxP_tS {nm : List Str} {q : Nat} {y : Str} (h : nm[q]? = some y) : gIxP (.pv (.tup (nm.map .str))) (.pv (.int (q : Int))) = some (tS y) := by
  rw [gIxP_t, atI_nat', List.getElem?_map, h]; rfl
theorem pick4 (d1 k d2 w : Nat) (h1 : d1 < k) (hk : 1 ≤ k) (h2 : d2 < k) (hw : w < 4) : ∃ q : Nat, q < k ∧ gIxP (.lst [pvi (d1 : Int), pvi ((k : Int) - 1), pvi 0, pvi (d2 : Int)]) (pvi (w : Int)) = some (pvi (q : Int)) := by
  have hw4 : w = 0 ∨ w = 1 ∨ w = 2 ∨ w = 3 := by omega
  rcases hw4 with e | e | e | e
  · subst e; exact ⟨d1, h1, rfl⟩
  · subst e; exact ⟨k - 1, by omega, by rw [show ((k - 1 : Nat) : Int) = (k : Int) - 1 by omega]; rfl⟩
  · subst e; exact ⟨0, by omega, rfl⟩
  · subst e; exact ⟨d2, h2, rfl⟩
theorem pair_step {ρ : TR.Env} {x : Int × Int × Int × Int} {nm : List Str} {ps : List (Str × Str)} {k w : Nat} {a1 a2 a7 a8 a9 a10 : Sl} {z : Str} (hk : 1 ≤ k) (hk2 : k < 100) (hw : w < 4) (hz : nm[k]? = some z) (hl : ps.length < 1000)
    (hρ : ρ = [.ow (sd x), a1, a2, NMs nm, sli (w : Int), PRs ps, sli (k : Int), a7, a8, a9, a10]) :
    ∃ (y : Int × Int × Int × Int) (q : Nat) (v : Str), q < k ∧ nm[q]? = some v ∧
      sMethN "list" 5 muAppend (sCons (sTup (sCons (s2 gIxP (fLateN 3) (s2 gIxP (sLst (sCons (sCall fn__law_draw [true, false] (sCons (fLateN 0) (sCons (fLateN 6) sNil))) (sCons (fVal (f2 gSub (fVar 6) (fC (.int 1)))) (sCons (fVal (fC (.int 0))) (sCons (sCall fn__law_draw [true, false] (sCons (fLateN 0) (sCons (fVal (fN gMin2 (aCons (fVar 6) (aCons (fC (.int 2)) aNil)))) sNil))) sNil))))) (fLateN 4))) (sCons (fVal (f2 gIxP (fVar 3) (fVar 6))) sNil))) sNil) ρ
      = .ok (.val (.pv .non), [.ow (sd y), a1, a2, NMs nm, sli (w : Int), PRs (ps ++ [(v, z)]), sli (k : Int), a7, a8, a9, a10]) := by
  subst hρ
  obtain ⟨d1, y1, e1, h1⟩ := sdraw (ρ := [.ow (sd x), a1, a2, NMs nm, sli (w : Int), PRs ps, sli (k : Int), a7, a8, a9, a10]) (x := x) (a := fLateN 6) (av := .late 6) (m := k) rfl rfl rfl (by omega) (by omega)
  have hmin : gMin2 [pvi (k : Int), pvi 2] = some (pvi ((min k 2 : Nat) : Int)) := by
    rw [gMin2_ii]
    have : (if (2 : Int) < (k : Int) then (2 : Int) else (k : Int)) = ((min k 2 : Nat) : Int) := by split <;> omega
    rw [this]
  obtain ⟨d2, y2, e2, h2⟩ := sdraw (ρ := [.ow (sd y1), a1, a2, NMs nm, sli (w : Int), PRs ps, sli (k : Int), a7, a8, a9, a10]) (x := y1) (a := fVal (fN gMin2 (aCons (fVar 6) (aCons (fC (.int 2)) aNil)))) (av := .val (pvi ((min k 2 : Nat) : Int))) (m := min k 2) rfl (fVal_of (fN_of (t := [pvi (k : Int), pvi 2]) rfl hmin)) rfl (by omega) (by omega)
  obtain ⟨q, hq, eq⟩ := pick4 d1 k d2 w h1 hk (by omega) hw
  have hql : q < nm.length := Nat.lt_trans hq (List.getElem?_eq_some_iff.mp hz).1
  have hv : nm[q]? = some nm[q] := List.getElem?_eq_getElem hql
  refine ⟨y2, q, nm[q], hq, hv, ?_⟩
  have ha : muAppend (.lst (ps.map fun p => T.pv (enSS p))) [.pv (enSS (nm[q], z))] = some (.lst ((ps ++ [(nm[q], z)]).map fun p => T.pv (enSS p)), .pv .non) := by
    rw [muAppend_ok (by simp; omega)]
    simp
  have el := sLst_of (ts := [pvi (d1 : Int), pvi ((k : Int) - 1), pvi 0, pvi (d2 : Int)]) (sCons_of e1 (sCons_of (f := fVal (f2 gSub (fVar 6) (fC (.int 1)))) (ρ1 := [.ow (sd y1), a1, a2, NMs nm, sli (w : Int), PRs ps, sli (k : Int), a7, a8, a9, a10]) (a := .val (pvi ((k : Int) - 1))) rfl (sCons_of (f := fVal (fC (.int 0))) (a := .val (pvi 0)) (ρ1 := [.ow (sd y1), a1, a2, NMs nm, sli (w : Int), PRs ps, sli (k : Int), a7, a8, a9, a10]) rfl (sCons_of e2 (sNil_ap _))))) rfl (by simp)
  have ei := s2_of (g := gIxP) el (h := fLateN 4) (b := .late 4) (ρ2 := [.ow (sd y2), a1, a2, NMs nm, sli (w : Int), PRs ps, sli (k : Int), a7, a8, a9, a10]) rfl rfl rfl eq
  have en := s2_of (g := gIxP) (f := fLateN 3) (a := .late 3) (ρ := [.ow (sd x), a1, a2, NMs nm, sli (w : Int), PRs ps, sli (k : Int), a7, a8, a9, a10]) (ρ1 := [.ow (sd x), a1, a2, NMs nm, sli (w : Int), PRs ps, sli (k : Int), a7, a8, a9, a10]) rfl ei rfl rfl (gIxP_tS hv)
  have ek := fVal_of (f2_of (g := gIxP) (f := fVar 3) (h := fVar 6) (ρ := [.ow (sd y2), a1, a2, NMs nm, sli (w : Int), PRs ps, sli (k : Int), a7, a8, a9, a10]) (t := .pv (.tup (nm.map .str))) rfl rfl (gIxP_tS hz))
  have et := sTup_of (sCons_of en (sCons_of ek (sNil_ap _))) (ts := [tS nm[q], tS z]) rfl (by simp)
  exact sMethN_run rfl rfl (sCons_of et (sNil_ap _)) rfl rfl ha
theorem notin_ok (nm : List Str) (ps : List (Str × Str)) (p : Str × Str) : ∃ b, gNotIn (.pv (enSS p)) (.lst (ps.map fun p => T.pv (enSS p))) = some (.pv (.bl b)) := by
  have dp : ∀ p : Str × Str, (enSS p).toD.depth ≤ 1 := fun p => depth_tup (n := 0) (by intro q hq; simp at hq; rcases hq with rfl | rfl <;> exact Nat.zero_le _)
  have h1 : okD (T.pv (enSS p)).toD = true := okD_P (Nat.le_trans (dp p) (by decide))
  have h2 : okDs (T.toDs (ps.map fun p => T.pv (enSS p))) = true := by
    have e : (ps.map fun p => T.pv (enSS p)) = (ps.map enSS).map .pv := by rw [List.map_map]; rfl
    rw [e, toDs_pv]
    unfold okDs
    rw [P.toDs_plain, P.toDs_map, decide_eq_true (depthAll_le fun d hd => by
      obtain ⟨q, hq, rfl⟩ := List.mem_map.mp hd
      obtain ⟨r, _, rfl⟩ := List.mem_map.mp hq
      exact Nat.le_trans (dp r) (by decide))]; rfl
  refine ⟨true ^^ ((T.toDs (ps.map fun p => T.pv (enSS p))).any fun y => PyData.eqv y (T.pv (enSS p)).toD), ?_⟩
  · show (if (okD (T.pv (enSS p)).toD && okDs (T.toDs (ps.map fun p => T.pv (enSS p)))) = true then some (T.pv (P.bl _)) else none) = _
    rw [h1, h2]; rfl
theorem web_ok (x : Int × Int × Int × Int) : ∃ (w : Web) (y : Int × Int × Int × Int), fn__law_web [.ow (sd x), .ow (pvi 12), .ow (pvi 24)] = .ok (.pv (enWeb w), [.ow (sd y), .no, .no]) ∧ GoodW w := by
  obtain ⟨t, ρ', e, w, y, e1, e2, k⟩ := fn_run (io := [true, false, false]) (n := 11) (b := b__law_web) (args := [.ow (sd x), .ow (pvi 12), .ow (pvi 24)]) (G := fun t ρ => ∃ (w : Web) (y : Int × Int × Int × Int), t = .pv (enWeb w) ∧ ρ = [.ow (sd y), .no, .no] ∧ GoodW w) rfl (by
    -- names
    obtain ⟨d, y1, ed, hd⟩ := sdraw (ρ := [.ow (sd x), .ow (pvi 12), .ow (pvi 24), .no, .no, .no, .no, .no, .no, .no, .no]) (x := x) (a := fLateN 1) (av := .late 1) (m := 12) rfl rfl rfl (by omega) (by omega)
    obtain ⟨nm, y2, en, nd, nl⟩ := names_ok y1 (1 + d) (by omega)
    have ec : s2 gAdd (fVal (fC (.int 1))) (sCall fn__law_draw [true, false] (sCons (fLateN 0) (sCons (fLateN 1) sNil))) [.ow (sd x), .ow (pvi 12), .ow (pvi 24), .no, .no, .no, .no, .no, .no, .no, .no] = .ok (.val (pvi ((1 + d : Nat) : Int)), [.ow (sd y1), .ow (pvi 12), .ow (pvi 24), .no, .no, .no, .no, .no, .no, .no, .no]) := by
      rw [show ((1 + d : Nat) : Int) = 1 + (d : Int) by omega]
      exact s2_of (f := fVal (fC (.int 1))) (a := .val (pvi 1)) (t := pvi 1) (u := pvi (d : Int)) rfl ed rfl rfl rfl
    refine rn_seq (rn_setE (scall2 ⟨_, rfl⟩ ec rfl rfl en) (by simp) ?_)
    -- way
    obtain ⟨wy, y3, ew, hw⟩ := sdraw (ρ := [.ow (sd y2), .ow (pvi 12), .ow (pvi 24), NMs nm, .no, .no, .no, .no, .no, .no, .no]) (x := y2) (a := fVal (fC (.int 4))) (av := .val (pvi 4)) (m := 4) rfl rfl rfl (by omega) (by omega)
    refine rn_seq (rn_setE (t := pvi (wy : Int)) ew (by simp) ?_)
    refine rn_seq (rn_set (t := .lst []) rfl (by simp) ?_)
    have hpos : 0 < nm.length := by omega
    -- the pairs
    refine rn_seq (rn_for (fun j ρ => ∃ (y : Int × Int × Int × Int) (ps : List (Str × Str)) (s6 : Sl), ρ = [.ow (sd y), .ow (pvi 12), .ow (pvi 24), NMs nm, sli (wy : Int), PRs ps, s6, .no, .no, .no, .no] ∧ ps.length = j ∧ (∀ p ∈ ps, p.1 ∈ nm ∧ p.2 ∈ nm) ∧ ∀ k, 1 ≤ k → k ≤ j → ∀ z, nm[k]? = some z → ∃ q v, q < k ∧ nm[q]? = some v ∧ (v, z) ∈ ps)
      (ss := rngSl 1 (nm.length - 1)) ?_ ⟨y3, [], .no, rfl, rfl, (by intro p hp; cases hp), by intro k h1 h2; omega⟩ ?_ ?_)
    · have h1 : -8388608 ≤ (1 : Int) ∧ (1 : Int) ≤ 8388608 ∧ -8388608 ≤ (nm.length : Int) ∧ (nm.length : Int) ≤ 8388608 := by omega
      have h2 : rng2 [pvi 1, pvi (nm.length : Int)] = some (rngSl 1 (nm.length - 1)) := by
        show (if -8388608 ≤ (1 : Int) ∧ (1 : Int) ≤ 8388608 ∧ -8388608 ≤ (nm.length : Int) ∧ (nm.length : Int) ≤ 8388608 then some (rngSl 1 ((nm.length : Int) - 1).toNat) else none) = _
        rw [if_pos h1, show ((nm.length : Int) - 1).toNat = nm.length - 1 by omega]
      have h3 : (aCons (fC (.int 1)) (aCons (fN gLen (aCons (fVar 3) aNil)) aNil)) [.ow (sd y3), .ow (pvi 12), .ow (pvi 24), NMs nm, sli (wy : Int), .ow (.lst []), .no, .no, .no, .no, .no] = .ok [pvi 1, pvi (nm.length : Int)] := by
        refine aCons_of rfl (aCons_of (fN_of (t := [.pv (.tup (nm.map .str))]) rfl ?_) rfl)
        rw [gLen_t, List.length_map]
      show iLst rng2 _ [.ow (sd y3), .ow (pvi 12), .ow (pvi 24), NMs nm, sli (wy : Int), .ow (.lst []), .no, .no, .no, .no, .no] = _
      rw [iLst_ap, h3, R.bind_ok, h2]; rfl
    · rintro j s ρ hs ⟨y, ps, s6, rfl, hl, hends, hcon⟩
      unfold rngSl at hs
      rw [List.getElem?_map] at hs
      cases hr : (List.range (nm.length - 1))[j]? with
      | none => rw [hr] at hs; cases hs
      | some i =>
        rw [hr] at hs
        cases hs
        have hi : j < nm.length - 1 ∧ i = j := by
          have := List.getElem?_eq_some_iff.mp hr
          obtain ⟨h1, h2⟩ := this
          simp at h1 h2
          omega
        obtain ⟨hj, rfl⟩ := hi
        refine ⟨_, rfl, ?_⟩
        have hz : nm[i + 1]? = some nm[i + 1] := List.getElem?_eq_getElem (by omega)
        obtain ⟨y4, q, v, hq, hv, ev⟩ := pair_step (x := y) (nm := nm) (ps := ps) (k := i + 1) (w := wy) (a1 := .ow (pvi 12)) (a2 := .ow (pvi 24)) (a7 := .no) (a8 := .no) (a9 := .no) (a10 := .no) (by omega) (by omega) hw hz (by omega) rfl
        have ek : (sli (1 + (i : Int))) = sli ((i + 1 : Nat) : Int) := by rw [show (1 + (i : Int)) = ((i + 1 : Nat) : Int) by omega]
        refine rn_expE (ρ1 := [.ow (sd y4), .ow (pvi 12), .ow (pvi 24), NMs nm, sli (wy : Int), PRs (ps ++ [(v, nm[i + 1])]), sli ((i + 1 : Nat) : Int), .no, .no, .no, .no]) (a := .val (.pv .non)) ?_ ⟨y4, ps ++ [(v, nm[i + 1])], _, rfl, by simp [hl], ?_, ?_⟩
        · rw [← ev]
          show sMethN _ _ _ _ [.ow (sd y), .ow (pvi 12), .ow (pvi 24), NMs nm, sli (wy : Int), PRs ps, sli (1 + (i : Int)), .no, .no, .no, .no] = _
          rw [ek]
        · intro p hp
          rcases List.mem_append.mp hp with hp | hp
          · exact hends p hp
          · simp at hp
            subst hp
            exact ⟨List.mem_of_getElem? hv, List.mem_of_getElem? hz⟩
        · intro k h1 h2 z hzz
          by_cases hk : k ≤ i
          · obtain ⟨q', v', a, b, c⟩ := hcon k h1 hk z hzz
            exact ⟨q', v', a, b, List.mem_append_left _ c⟩
          · have : k = i + 1 := by omega
            subst this
            rw [hz] at hzz
            cases hzz
            exact ⟨q, v, hq, hv, by simp⟩
    · rintro ρ ⟨y4, ps0, s6, rfl, hl0, hends0, hcon0⟩
      -- more ties
      obtain ⟨dt, y5, edt, hdt⟩ := sdraw (ρ := [.ow (sd y4), .ow (pvi 12), .ow (pvi 24), NMs nm, sli (wy : Int), PRs ps0, s6, .no, .no, .no, .no]) (x := y4) (a := fVal (f2 gAdd (fVar 2) (fC (.int 1)))) (av := .val (pvi 25)) (m := 25) rfl rfl rfl (by omega) (by omega)
      refine rn_seq (rn_forS (fun j ρ => ∃ (y : Int × Int × Int × Int) (ps : List (Str × Str)) (s7 s8 s9 : Sl), ρ = [.ow (sd y), .ow (pvi 12), .ow (pvi 24), NMs nm, sli (wy : Int), PRs ps, s6, s7, s8, s9, .no] ∧ ps.length ≤ 24 ∧ (∀ p ∈ ps, p.1 ∈ nm ∧ p.2 ∈ nm) ∧ ∀ p ∈ ps0, p ∈ ps)
        (ss := rngSl 0 dt) (ρ0 := [.ow (sd y5), .ow (pvi 12), .ow (pvi 24), NMs nm, sli (wy : Int), PRs ps0, s6, .no, .no, .no, .no]) ?_ ⟨y5, ps0, .no, .no, .no, rfl, ?_, hends0, fun p h => h⟩ ?_ ?_)
      · have h1 : -16777216 ≤ (dt : Int) ∧ (dt : Int) ≤ 16777216 := by omega
        have h2 : rng1 [pvi (dt : Int)] = some (rngSl 0 dt) := by
          show (if -16777216 ≤ (dt : Int) ∧ (dt : Int) ≤ 16777216 then some (rngSl 0 (dt : Int).toNat) else none) = _
          rw [if_pos h1, Int.toNat_natCast]
        rw [iLstE_ap, sCons_of edt (sNil_ap _), R.bind_ok]
        dsimp only
        rw [sees_cons, sees_nil, see_val, Option.bind_some, Option.map_some, Option.bind_some, h2]; rfl
      · rw [hl0]
        simp [rngSl]
        omega
      · rintro j s ρ hs ⟨y, ps, s7, s8, s9, rfl, hl, hends, hsub⟩
        have hg : ∀ v w : Sl, gN 7 s [.ow (sd y), .ow (pvi 12), .ow (pvi 24), NMs nm, sli (wy : Int), PRs ps, s6, s7, s8, s9, .no] = some [.ow (sd y), .ow (pvi 12), .ow (pvi 24), NMs nm, sli (wy : Int), PRs ps, s6, s, s8, s9, .no] := fun _ _ => rfl
        refine ⟨_, hg .no .no, ?_⟩
        have hlen : fN gLen (aCons (fVar 3) aNil) [.ow (sd y), .ow (pvi 12), .ow (pvi 24), NMs nm, sli (wy : Int), PRs ps, s6, s, s8, s9, .no] = .ok (pvi (nm.length : Int)) := fN_of (t := [.pv (.tup (nm.map .str))]) rfl (by rw [gLen_t, List.length_map])
        obtain ⟨o1, z1, eo1, ho1⟩ := sdraw (ρ := [.ow (sd y), .ow (pvi 12), .ow (pvi 24), NMs nm, sli (wy : Int), PRs ps, s6, s, s8, s9, .no]) (x := y) (a := fVal (fN gLen (aCons (fVar 3) aNil))) (av := .val (pvi (nm.length : Int))) (m := nm.length) rfl (fVal_of hlen) rfl hpos (by omega)
        refine rn_seq (rn_setE (t := pvi (o1 : Int)) eo1 (by simp) ?_)
        have hlen2 : fN gLen (aCons (fVar 3) aNil) [.ow (sd z1), .ow (pvi 12), .ow (pvi 24), NMs nm, sli (wy : Int), PRs ps, s6, s, sli (o1 : Int), s9, .no] = .ok (pvi (nm.length : Int)) := fN_of (t := [.pv (.tup (nm.map .str))]) rfl (by rw [gLen_t, List.length_map])
        obtain ⟨o2, z2, eo2, ho2⟩ := sdraw (ρ := [.ow (sd z1), .ow (pvi 12), .ow (pvi 24), NMs nm, sli (wy : Int), PRs ps, s6, s, sli (o1 : Int), s9, .no]) (x := z1) (a := fVal (fN gLen (aCons (fVar 3) aNil))) (av := .val (pvi (nm.length : Int))) (m := nm.length) rfl (fVal_of hlen2) rfl hpos (by omega)
        refine rn_seq (rn_setE (t := pvi (o2 : Int)) eo2 (by simp) ?_)
        have hv1 : nm[o1]? = some nm[o1] := List.getElem?_eq_getElem ho1
        have hv2 : nm[o2]? = some nm[o2] := List.getElem?_eq_getElem ho2
        obtain ⟨b, hb⟩ := notin_ok nm ps (nm[o1], nm[o2])
        have et : fTup (aCons (f2 gIxP (fVar 3) (fVar 8)) (aCons (f2 gIxP (fVar 3) (fVar 9)) aNil)) [.ow (sd z2), .ow (pvi 12), .ow (pvi 24), NMs nm, sli (wy : Int), PRs ps, s6, s, sli (o1 : Int), sli (o2 : Int), .no] = .ok (.pv (enSS (nm[o1], nm[o2]))) :=
          fTup_of (ts := [tS nm[o1], tS nm[o2]]) (aCons_of (f2_of (t := .pv (.tup (nm.map .str))) rfl rfl (gIxP_tS hv1)) (aCons_of (f2_of (t := .pv (.tup (nm.map .str))) rfl rfl (gIxP_tS hv2)) rfl)) (by simp)
        have c1 : fB (f2 gLt (fVar 8) (fVar 9)) [.ow (sd z2), .ow (pvi 12), .ow (pvi 24), NMs nm, sli (wy : Int), PRs ps, s6, s, sli (o1 : Int), sli (o2 : Int), .no] = .ok (decide ((o1 : Int) < (o2 : Int))) := fB_of (f2_of (t := pvi (o1 : Int)) (u := pvi (o2 : Int)) rfl rfl (gLt_ii _ _))
        have c2 : fB (f2 gNotIn (fTup (aCons (f2 gIxP (fVar 3) (fVar 8)) (aCons (f2 gIxP (fVar 3) (fVar 9)) aNil))) (fVar 5)) [.ow (sd z2), .ow (pvi 12), .ow (pvi 24), NMs nm, sli (wy : Int), PRs ps, s6, s, sli (o1 : Int), sli (o2 : Int), .no] = .ok b := fB_of (f2_of et (u := .lst (ps.map fun p => T.pv (enSS p))) rfl hb)
        have c3 : fB (f2 gLt (fN gLen (aCons (fVar 5) aNil)) (fVar 2)) [.ow (sd z2), .ow (pvi 12), .ow (pvi 24), NMs nm, sli (wy : Int), PRs ps, s6, s, sli (o1 : Int), sli (o2 : Int), .no] = .ok (decide ((ps.length : Int) < 24)) := fB_of (f2_of (t := pvi (ps.length : Int)) (u := pvi 24) (fN_of (t := [.lst (ps.map fun p => T.pv (enSS p))]) rfl (by rw [gLen_l, List.length_map])) rfl (gLt_ii _ _))
        refine rn_if (b := decide ((o1 : Int) < (o2 : Int)) && (b && decide ((ps.length : Int) < 24))) ?_ (fun hbb => ?_) fun hbb => ?_
        · show fAndT _ (fAndT _ _) [.ow (sd z2), .ow (pvi 12), .ow (pvi 24), NMs nm, sli (wy : Int), PRs ps, s6, s, sli (o1 : Int), sli (o2 : Int), .no] = _
          rw [fAndT_ap, c1, R.bind_ok, fAndT_ap, c2, R.bind_ok, c3]
          cases decide ((o1 : Int) < (o2 : Int)) <;> cases b <;> rfl
        · have hlt : ps.length < 24 := by
            simp only [Bool.and_eq_true, decide_eq_true_eq] at hbb
            omega
          have ha : muAppend (.lst (ps.map fun p => T.pv (enSS p))) [.pv (enSS (nm[o1], nm[o2]))] = some (.lst ((ps ++ [(nm[o1], nm[o2])]).map fun p => T.pv (enSS p)), .pv .non) := by
            rw [muAppend_ok (by simp; omega)]
            simp
          refine rn_expE (sMeth_run (ts := [.pv (enSS (nm[o1], nm[o2]))]) rfl rfl rfl rfl (aCons_of et rfl) ha rfl) ⟨z2, ps ++ [(nm[o1], nm[o2])], s, sli (o1 : Int), sli (o2 : Int), rfl, by simp; omega, ?_, fun p hp => List.mem_append_left _ (hsub p hp)⟩
          intro p hp
          rcases List.mem_append.mp hp with hp | hp
          · exact hends p hp
          · simp at hp
            subst hp
            exact ⟨List.mem_of_getElem? hv1, List.mem_of_getElem? hv2⟩
        · exact rn_nx ⟨z2, ps, s, sli (o1 : Int), sli (o2 : Int), rfl, hl, hends, hsub⟩
      · rintro ρ ⟨y6, ps, s7, s8, s9, rfl, hl, hends, hsub⟩
        -- weights
        obtain ⟨dw, y7, edw, hdw⟩ := sdraw (ρ := [.ow (sd y6), .ow (pvi 12), .ow (pvi 24), NMs nm, sli (wy : Int), PRs ps, s6, s7, s8, s9, .no]) (x := y6) (a := fVal (fC (.int 3))) (av := .val (pvi 3)) (m := 3) rfl rfl rfl (by omega) (by omega)
        obtain ⟨W, hW0, hW1, hW⟩ : ∃ W : Nat, 0 < W ∧ W < 1000 ∧ gIxP (.lst [pvi 1, pvi 9, pvi 999]) (pvi (dw : Int)) = some (pvi (W : Int)) := by
          have h3 : dw = 0 ∨ dw = 1 ∨ dw = 2 := by omega
          rcases h3 with e | e | e
          · subst e; exact ⟨1, by omega, by omega, rfl⟩
          · subst e; exact ⟨9, by omega, by omega, rfl⟩
          · subst e; exact ⟨999, by omega, by omega, rfl⟩
        have eW := s2_of (g := gIxP) (f := fVal (fLst (aCons (fC (.int 1)) (aCons (fC (.int 9)) (aCons (fC (.int 999)) aNil))))) (a := .val (.lst [pvi 1, pvi 9, pvi 999])) (ρ := [.ow (sd y6), .ow (pvi 12), .ow (pvi 24), NMs nm, sli (wy : Int), PRs ps, s6, s7, s8, s9, .no]) rfl edw rfl rfl hW
        refine rn_seq (rn_setE eW (by simp) ?_)
        -- the tuple of ties
        obtain ⟨qs, eqs, pqs⟩ := sorted_pairs ps
        obtain ⟨us, ρ1, eu, lu, tl, y8, hu1, hu2, hu3⟩ := lcE_at (g := gT (gsCons (gN 8) (gsCons (gN 9) gsNil))) (fc := fYes) (fe := sTup (sCons (fLateN 8) (sCons (fLateN 9) (sCons (s2 gAdd (fVal (fC (.int 1))) (sCall fn__law_draw [true, false] (sCons (fLateN 0) (sCons (fLateN 10) sNil)))) sNil)))) (vs := [8, 9])
          (fun us ρ => ∃ (tl : List (Str × Str × Int)) (y : Int × Int × Int × Int), us = tl.map (fun t => T.pv (enTie t)) ∧ ρ = [.ow (sd y), .ow (pvi 12), .ow (pvi 24), NMs nm, sli (wy : Int), PRs ps, s6, s7, .no, .no, sli (W : Int)] ∧ tl.map (fun t => (t.1, t.2.1)) = qs.take us.length)
          (qs.map fun p => Sl.ow (.pv (enSS p))) [] [.ow (sd y7), .ow (pvi 12), .ow (pvi 24), NMs nm, sli (wy : Int), PRs ps, s6, s7, .no, .no, sli (W : Int)] ⟨[], y7, rfl, rfl, rfl⟩ (by
            rintro j s us ρ hs hlu ⟨tl, y, rfl, rfl, htl⟩
            rw [List.getElem?_map] at hs
            cases hq : qs[j]? with
            | none => rw [hq] at hs; cases hs
            | some p =>
              rw [hq] at hs
              cases hs
              obtain ⟨dd, y9, edd, hdd⟩ := sdraw (ρ := [.ow (sd y), .ow (pvi 12), .ow (pvi 24), NMs nm, sli (wy : Int), PRs ps, s6, s7, slS p.1, slS p.2, sli (W : Int)]) (x := y) (a := fLateN 10) (av := .late 10) (m := W) rfl rfl rfl hW0 (by omega)
              have e1 := s2_of (g := gAdd) (f := fVal (fC (.int 1))) (a := .val (pvi 1)) (ρ := [.ow (sd y), .ow (pvi 12), .ow (pvi 24), NMs nm, sli (wy : Int), PRs ps, s6, s7, slS p.1, slS p.2, sli (W : Int)]) rfl edd rfl rfl (gAdd_ii 1 (dd : Int))
              have e2 := sTup_of (sCons_of (f := fLateN 8) (ρ := [.ow (sd y), .ow (pvi 12), .ow (pvi 24), NMs nm, sli (wy : Int), PRs ps, s6, s7, slS p.1, slS p.2, sli (W : Int)]) rfl (sCons_of (f := fLateN 9) rfl (sCons_of e1 (sNil_ap _)))) (ts := [tS p.1, tS p.2, pvi (1 + (dd : Int))]) rfl (by simp)
              refine ⟨_, [.ow (sd y), .ow (pvi 12), .ow (pvi 24), NMs nm, sli (wy : Int), PRs ps, s6, s7, slS p.1, slS p.2, sli (W : Int)], .pv (enTie (p.1, p.2, 1 + (dd : Int))), _, rfl, rfl, rfl, e2, tl ++ [(p.1, p.2, 1 + (dd : Int))], y9, by simp, rfl, ?_⟩
              have hj : tl.length = j := by simpa using hlu
              rw [List.map_append, htl, List.length_append, List.length_map, hj]
              show qs.take j ++ [p] = qs.take (j + 1)
              rw [List.take_add_one, hq]; rfl)
        have hus : us = tl.map (fun t => T.pv (enTie t)) := by simpa using hu1
        have hul : us.length = qs.length := by rw [lu, List.length_map]
        have hpairs : tl.map (fun t => (t.1, t.2.1)) = qs := by
          rw [hu3]
          show qs.take ([] ++ us).length = qs
          rw [List.nil_append, hul, List.take_length]
        have hlc : sLc [8, 9] (iQ (iSeqF (fN gSorted (aCons (fVar 5) aNil)))) (gT (gsCons (gN 8) (gsCons (gN 9) gsNil))) fYes (sTup (sCons (fLateN 8) (sCons (fLateN 9) (sCons (s2 gAdd (fVal (fC (.int 1))) (sCall fn__law_draw [true, false] (sCons (fLateN 0) (sCons (fLateN 10) sNil)))) sNil)))) [.ow (sd y7), .ow (pvi 12), .ow (pvi 24), NMs nm, sli (wy : Int), PRs ps, s6, s7, s8, s9, sli (W : Int)] = .ok (.val (.lst us), ρ1) := by
          have es : fN gSorted (aCons (fVar 5) aNil) [.ow (sd y7), .ow (pvi 12), .ow (pvi 24), NMs nm, sli (wy : Int), PRs ps, s6, s7, s8, s9, sli (W : Int)] = .ok (.lst (qs.map fun x => .pv (enSS x))) := fN_of (t := [.lst (ps.map fun p => T.pv (enSS p))]) rfl eqs
          have ei := iQ_of (iSeqF_of es (ss := qs.map fun p => Sl.ow (.pv (enSS p))) (by
            show some ((qs.map fun x => T.pv (enSS x)).map argSl) = _
            rw [List.map_map]; rfl))
          exact sLc_of ei eu
        have hmk : gTupO (.lst us) = some (.pv (.tup (tl.map enTie))) := by
          show some (mkT us) = _
          have : us = (tl.map enTie).map .pv := by rw [hus, List.map_map]; rfl
          rw [this, mkT_pv]
        have hfin := sTup_of (sCons_of (f := fLateN 3) (a := .late 3) (ρ := [.ow (sd y7), .ow (pvi 12), .ow (pvi 24), NMs nm, sli (wy : Int), PRs ps, s6, s7, s8, s9, sli (W : Int)]) rfl (sCons_of (s1c_of hlc hmk) (sNil_ap _))) (ts := [.pv (.tup (nm.map .str)), .pv (.tup (tl.map enTie))]) (by rw [hu2]; rfl) (by simp)
        refine rn_retE hfin ⟨⟨nm, tl⟩, y8, rfl, by rw [hu2]; rfl, nd, ?_, by rw [nl]; omega, ?_, ?_, ?_⟩
        · intro z
          have z' : nm = [] := z
          rw [z'] at hpos
          exact absurd hpos (by simp)
        · intro t ht
          have hm : (t.1, t.2.1) ∈ qs := by rw [← hpairs]; exact List.mem_map.mpr ⟨t, ht, rfl⟩
          exact hends _ (pqs.mem_iff.mp hm)
        · have : tl.length = qs.length := by rw [← hpairs, List.length_map]
          show tl.length ≤ 100
          rw [this, pqs.length_eq]; omega
        · intro g hg
          refine conn_of (ps := ps0) (fun k h1 z hz => hcon0 k h1 ?_ z hz) g fun p hp => ?_
          · have := (List.getElem?_eq_some_iff.mp hz).1
            simp [rngSl]
            omega
          · have hm : p ∈ qs := pqs.mem_iff.mpr (hsub p hp)
            rw [← hpairs] at hm
            obtain ⟨t, ht, e⟩ := List.mem_map.mp hm
            have := hg t ht
            rw [← e]
            exact this)
  exact ⟨w, y, by rw [fn__law_web, e, e1, e2], k⟩
end LW
namespace LW
open PySem PySem.Spec PyProof.Rows L2 TR
def en (w : Web) (i : Nat) : Str × Str := match w.ties[i]? with
  | some t => (t.1, t.2.1)
  | none => ("a", "a")
theorem en_at {w : Web} {i : Nat} {t : Str × Str × Int} (h : w.ties[i]? = some t) : en w i = (t.1, t.2.1) := by unfold en; rw [h]
theorem en_mem {w : Web} (W : GoodW w) {i : Nat} (h : i < w.ties.length) : (en w i).1 ∈ w.nm ∧ (en w i).2 ∈ w.nm := by
  rw [en_at (List.getElem?_eq_getElem h)]
  exact W.ends _ (List.getElem_mem h)
abbrev nsT (l : List Nat) : T := .lst (l.map fun i : Nat => pvi (i : Int))
abbrev dP (nm : List Str) (lab : Str → Str) : T := dF nm fun y => tS (lab y)
structure TreeW (w : Web) (tr : List Nat) : Prop where
  up : tr.Pairwise (· < ·)
  lt : ∀ i ∈ tr, i < w.ties.length
  len : tr.length + 1 = w.nm.length
  all : ∀ x ∈ w.nm, ∀ y ∈ w.nm, runE (fun x => x) (tr.map (en w)) x = runE (fun x => x) (tr.map (en w)) y
def trP (tr : List Nat) : P := .tup (tr.map fun i : Nat => P.int (i : Int))
theorem ix_names {w : Web} {f : TR.Env → TR.R Unit T} {ρ : TR.Env} (h : f ρ = .ok (.pv (enWeb w))) : f2 gIx f (fC (.int 0)) ρ = .ok (.pv (.tup (w.nm.map .str))) := f2_of h rfl rfl
theorem ix_ties {w : Web} {f : TR.Env → TR.R Unit T} {ρ : TR.Env} (h : f ρ = .ok (.pv (enWeb w))) : f2 gIx f (fC (.int 1)) ρ = .ok (.pv (.tup (w.ties.map enTie))) := f2_of h rfl rfl
theorem gIx_tie {w : Web} {i : Nat} {t : Str × Str × Int} (h : w.ties[i]? = some t) : gIx (.pv (.tup (w.ties.map enTie))) (pvi (i : Int)) = some (.pv (enTie t)) := by
  rw [gIx_t, atI_nat', List.getElem?_map, h]; rfl
theorem dict_ok {w : Web} (W : GoodW w) (g : Str → T) {c : Nat} {ρ : TR.Env} {fe : TR.Env → TR.R Unit T} {fi : TR.Env → TR.R Unit (List Sl)} (hi : fi ρ = .ok (w.nm.map slS)) (hc : c < ρ.length) (he : ∀ x ∈ w.nm, fe ((wipeE (viewE ρ) [c]).set c (slS x)) = .ok (mkT [tS x, g x])) :
    f1 gDictO (fLc [c] fi (gN c) fYes fe) ρ = .ok (dF w.nm g) := by
  have h := lc_run (g := gN c) (fc := fYes) (fe := fe) (ρ := wipeE (viewE ρ) [c]) slS (fun _ => true) (fun x => mkT [tS x, g x]) w.nm (fun x hx => ⟨(wipeE (viewE ρ) [c]).set c (slS x), if_pos (by simp [wipeE, viewE]; exact hc), rfl, fun _ => he x hx⟩)
  have e : w.nm.filter (fun _ => true) = w.nm := List.filter_eq_self.mpr fun _ _ => rfl
  rw [e] at h
  exact f1_of (fLc_of hi h) (gDict_names g W.nd)
theorem names_sl {w : Web} {f : TR.Env → TR.R Unit T} {ρ : TR.Env} (h : f ρ = .ok (.pv (.tup (w.nm.map .str)))) : iSeqF f ρ = .ok (w.nm.map slS) := iSeqF_of h (by
  show some ((w.nm.map P.str).map fun p => Sl.ow (.pv p)) = _
  rw [List.map_map]; rfl)
theorem rn_forE {N : TR.Env → Prop} {Q : T → TR.Env → Prop} {ρ : TR.Env} {fi : TR.Env → TR.R Unit (List Sl)} {tg : TgF} {b : FF} {ss : List Sl} (e : fi ρ = .ok ss) (h : Rn N Q (forGo tg b ss ρ)) : Rn N Q (tForF fi tg b ρ) := by
  unfold tForF
  rw [e, liftQ_ok]
  exact h
theorem tree_ok (w : Web) (W : GoodW w) (x : Int × Int × Int × Int) : ∃ (tr : List Nat) (y : Int × Int × Int × Int), fn__law_tree [.ow (sd x), .ow (.pv (enWeb w))] = .ok (.pv (trP tr), [.ow (sd y), .no]) ∧ TreeW w tr := by
  have hlen : w.nm.length < 16777216 := by have := W.few; omega
  have hlt := W.ltie
  obtain ⟨t, ρ', e, tr, y, e1, e2, k⟩ := fn_run (io := [true, false]) (n := 9) (b := b__law_tree) (args := [.ow (sd x), .ow (.pv (enWeb w))]) (G := fun t ρ => ∃ (tr : List Nat) (y : Int × Int × Int × Int), t = .pv (trP tr) ∧ ρ = [.ow (sd y), .no] ∧ TreeW w tr) rfl (by
    have hr : lstRg1 (fN gLen (aCons (f2 gIx (fVar 1) (fC (.int 1))) aNil)) [.ow (sd x), .ow (.pv (enWeb w)), .no, .no, .no, .no, .no, .no, .no] = .ok (nsT (List.range w.ties.length)) := by
      have h1 : fN gLen (aCons (f2 gIx (fVar 1) (fC (.int 1))) aNil) [.ow (sd x), .ow (.pv (enWeb w)), .no, .no, .no, .no, .no, .no, .no] = .ok (pvi (w.ties.length : Int)) := fN_of (aCons_of (ix_ties rfl) rfl) (by rw [gLen_t, List.length_map])
      have h2 : rgOkB 0 (w.ties.length : Int) = true := by
        unfold rgOkB
        simp only [Bool.and_eq_true, decide_eq_true_eq]
        omega
      rw [lstRg1_ap, h1, R.bind_ok]
      dsimp only
      rw [if_pos h2]
      unfold rgP nsT
      rw [List.map_map, show ((w.ties.length : Int) - 0).toNat = w.ties.length by omega]
      congr 2
      apply List.map_congr_left
      intro i _
      show T.pv (P.int (0 + (i : Int))) = _
      rw [Int.zero_add]
    refine rn_seq (rn_set hr (by simp) ?_)
    refine rn_seq (rn_set (dict_ok W (fun x => tS x) (c := 4) (ρ := [.ow (sd x), .ow (.pv (enWeb w)), .ow (nsT (List.range w.ties.length)), .no, .no, .no, .no, .no, .no]) (names_sl (ix_names rfl)) (by simp) (fun z _ => fTup_of (aCons_of rfl (aCons_of rfl rfl)) (by simp))) (by simp) ?_)
    refine rn_seq (rn_set (t := .lst []) rfl (by simp) ?_)
    refine rn_seq (rn_while (fun m ρ => ∃ (y : Int × Int × Int × Int) (left fnd : List Nat) (lab : Str → Str) (s4 s6 s7 s8 : Sl), ρ = [.ow (sd y), .ow (.pv (enWeb w)), .ow (nsT left), .ow (dP w.nm lab), s4, .ow (nsT fnd), s6, s7, s8] ∧ m = left.length ∧ left.length ≤ 100 ∧ (fnd ++ left).Nodup ∧ (∀ i ∈ fnd ++ left, i < w.ties.length) ∧
        lab = runE (fun x => x) (fnd.map (en w)) ∧ TR.cnt w.nm lab + fnd.length = w.nm.length ∧ ∀ i, i < w.ties.length → i ∉ left → lab (en w i).1 = lab (en w i).2) (m := w.ties.length) (by omega)
      ⟨x, List.range w.ties.length, [], fun x => x, .no, .no, .no, .no, rfl, by simp, by rw [List.length_range]; omega, by simpa using List.nodup_range, by simp, rfl, by rw [cnt_id]; rfl, fun i h1 h2 => absurd (List.mem_range.mpr h1) h2⟩ ?_)
    rintro m ρ ⟨y, left, fnd, lab, s4, s6, s7, s8, rfl, rfl, hll, nd, hin, hlab, hcnt, hproc⟩
    have hc : fB (f2 gNe (fVar 2) (fLst aNil)) [.ow (sd y), .ow (.pv (enWeb w)), .ow (nsT left), .ow (dP w.nm lab), s4, .ow (nsT fnd), s6, s7, s8] = .ok (!left.isEmpty) := by
      have h1 : gNe (nsT left) (.lst []) = some (.pv (.bl (!left.isEmpty))) := by
        have := gNe_nil (ps := left.map fun i : Nat => P.int (i : Int)) (by intro p hp; obtain ⟨i, _, rfl⟩ := List.mem_map.mp hp; exact Nat.zero_le _)
        rw [List.map_map] at this
        rw [show (left.map fun i : Nat => P.int (i : Int)).isEmpty = left.isEmpty by cases left <;> rfl] at this
        exact this
      exact fB_of (f2_of (t := nsT left) (u := .lst []) rfl rfl h1)
    by_cases hl0 : left = []
    · subst hl0
      refine .inl ⟨hc, ?_⟩
      -- the end
      obtain ⟨ys, es, ps, up⟩ := sorted_ints (fnd.map fun i : Nat => (i : Int))
      obtain ⟨tr, rfl, ptr⟩ := perm_map (f := fun i : Nat => (i : Int)) Int.toNat (fun a => Int.toNat_natCast a) ps
      have hs : f1 gTupO (fN gSorted (aCons (fVar 5) aNil)) [.ow (sd y), .ow (.pv (enWeb w)), .ow (nsT []), .ow (dP w.nm lab), s4, .ow (nsT fnd), s6, s7, s8] = .ok (.pv (trP tr)) := by
        have e1 : (fnd.map fun i : Nat => (i : Int)).map (fun x => T.pv (.int x)) = fnd.map fun i : Nat => pvi (i : Int) := by rw [List.map_map]; rfl
        rw [e1] at es
        refine f1_of (fN_of (t := [nsT fnd]) rfl es) ?_
        show some (mkT _) = _
        have : ((tr.map fun i : Nat => (i : Int)).map fun x => T.pv (.int x)) = (tr.map fun i : Nat => P.int (i : Int)).map .pv := by rw [List.map_map, List.map_map]; rfl
        rw [this, mkT_pv]; rfl
      have ndf : fnd.Nodup := by simpa using nd
      have hall : ∀ a ∈ w.nm, ∀ b ∈ w.nm, lab a = lab b := W.conn lab fun t ht => by
        obtain ⟨i, hi⟩ := List.getElem?_of_mem ht
        have := hproc i (List.getElem?_eq_some_iff.mp hi).1 (by simp)
        rw [en_at hi] at this
        exact this
      have hE : ∀ z ∈ fnd.map (en w), z.1 ∈ w.nm ∧ z.2 ∈ w.nm := fun z hz => by
        obtain ⟨i, hi, rfl⟩ := List.mem_map.mp hz
        exact en_mem W (hin i (by simpa using hi))
      have h1 := cnt_one W.nd (by rw [hlab]; exact run_idem (idem_id w.nm) hE) W.ne hall
      refine rn_ret hs ⟨tr, y, rfl, rfl, ?_, fun i hi => hin i (by simpa using ptr.mem_iff.mp hi), by rw [ptr.length_eq]; omega, fun a ha b hb => ?_⟩
      · have ndt : tr.Nodup := (ptr.nodup_iff).mpr ndf
        have u2 := List.pairwise_map.mp up
        exact (List.Pairwise.and u2 ndt).imp fun {a b} h => by have h2 := h.2; omega
      · refine run_le (E := fnd.map (en w)) (lab := fun x => x) (fun z hz => ?_) (fun u v q => by rw [show u = v from q]) a b ?_
        · obtain ⟨i, hi, rfl⟩ := List.mem_map.mp hz
          exact run_edge (List.mem_map.mpr ⟨i, ptr.mem_iff.mpr hi, rfl⟩)
        · have := hall a ha b hb
          rw [hlab] at this
          exact this
    · right
      have hlp : 0 < left.length := List.length_pos_iff.mpr hl0
      refine ⟨by rw [hc]; cases left with
        | nil => exact absurd rfl hl0
        | cons _ _ => rfl, ?_⟩
      have hln : fN gLen (aCons (fVar 2) aNil) [.ow (sd y), .ow (.pv (enWeb w)), .ow (nsT left), .ow (dP w.nm lab), s4, .ow (nsT fnd), s6, s7, s8] = .ok (pvi (left.length : Int)) := fN_of (t := [nsT left]) rfl (by rw [gLen_l, List.length_map])
      obtain ⟨d, y2, ed, hd⟩ := sdraw (ρ := [.ow (sd y), .ow (.pv (enWeb w)), .ow (nsT left), .ow (dP w.nm lab), s4, .ow (nsT fnd), s6, s7, s8]) (x := y) (a := fVal (fN gLen (aCons (fVar 2) aNil))) (av := .val (pvi (left.length : Int))) (m := left.length) rfl (fVal_of hln) rfl hlp (by omega)
      have hpop := muPopI_ok (ts := left.map fun i : Nat => pvi (i : Int)) (k := d) (t := pvi ((left[d] : Nat) : Int)) (by rw [List.getElem?_map, List.getElem?_eq_getElem hd]; rfl) (by rw [List.length_map]; omega)
      rw [map_erase] at hpop
      generalize hnum : left[d] = num at hpop
      have hnm : num ∈ left := by rw [← hnum]; exact List.getElem_mem hd
      have hnlt : num < w.ties.length := hin num (List.mem_append_right _ hnm)
      have hperm : (num :: left.eraseIdx d).Perm left := by rw [← hnum]; exact erase_perm _ _ hd
      refine rn_seq (rn_setE (sMethN_run rfl rfl (sCons_of ed (sNil_ap _)) rfl rfl hpop) (by simp) ?_)
      have ht : w.ties[num]? = some w.ties[num] := List.getElem?_eq_getElem hnlt
      have hen : en w num = (w.ties[num].1, w.ties[num].2.1) := en_at ht
      have hmem := en_mem W hnlt
      generalize hρ : ([.ow (sd y2), .ow (.pv (enWeb w)), .ow (nsT (left.eraseIdx d)), .ow (dP w.nm lab), s4, .ow (nsT fnd), sli (num : Int), s7, s8] : TR.Env) = ρ1
      have eT : f2 gIx (f2 gIx (fVar 1) (fC (.int 1))) (fVar 6) ρ1 = .ok (.pv (enTie w.ties[num])) := by
        subst hρ
        exact f2_of (ix_ties rfl) rfl (gIx_tie ht)
      have eA : f2 gIxP (fVar 3) (f2 gIx (f2 gIx (f2 gIx (fVar 1) (fC (.int 1))) (fVar 6)) (fC (.int 0))) ρ1 = .ok (tS (lab (en w num).1)) := by
        refine f2_of (t := dP w.nm lab) (u := tS (en w num).1) (by subst hρ; rfl) (f2_of eT rfl (by rw [hen]; rfl)) (gIxP_dF hmem.1 rfl)
      have eB : f2 gIxP (fVar 3) (f2 gIx (f2 gIx (f2 gIx (fVar 1) (fC (.int 1))) (fVar 6)) (fC (.int 1))) ρ1 = .ok (tS (lab (en w num).2)) := by
        refine f2_of (t := dP w.nm lab) (u := tS (en w num).2) (by subst hρ; rfl) (f2_of eT rfl (by rw [hen]; rfl)) (gIxP_dF hmem.2 rfl)
      subst hρ
      refine rn_seq (rn_par (aCons_of eA (aCons_of eB rfl)) (by simp) ?_)
      have hl2 : (left.eraseIdx d).length < left.length := by rw [List.length_eraseIdx_of_lt hd]; omega
      have hnotin : ∀ i, i ∉ left.eraseIdx d → i ≠ num → i ∉ left := fun i h1 h2 h3 => by
        rcases List.mem_cons.mp (hperm.mem_iff.mpr h3) with h | h
        · exact h2 h
        · exact h1 h
      have hE : ∀ z ∈ fnd.map (en w), z.1 ∈ w.nm ∧ z.2 ∈ w.nm := fun z hz => by
        obtain ⟨i, hi, rfl⟩ := List.mem_map.mp hz
        exact en_mem W (hin i (List.mem_append_left _ hi))
      have hidem : Idem w.nm lab := by rw [hlab]; exact run_idem (idem_id w.nm) hE
      have hfl : fnd.length ≤ w.nm.length := by omega
      have hfew := W.few
      refine rn_if (b := !(lab (en w num).1 == lab (en w num).2)) (fB_of (f2_of rfl rfl (gNe_ss _ _))) (fun hb => ?_) fun hb => ?_
      · have hne : lab (en w num).1 ≠ lab (en w num).2 := by simpa using hb
        refine rn_seq (rn_expE (sMeth_run (ts := [pvi (num : Int)]) rfl rfl rfl rfl (aCons_of (fPure_of rfl) rfl) (muAppend_ok (by rw [List.length_map]; omega)) rfl) ?_)
        refine rn_forE (names_sl (ix_names rfl)) (relabel_run (d := 3) (n := 4) (o := 8) (u := 7) W.nd hlen (lab := lab) (one := lab (en w num).1) (oth := lab (en w num).2) (by decide) (by decide) (by decide) (by decide) (by decide) rfl rfl rfl (by simp) fun s => ?_)
        have hp2 : (fnd ++ [num] ++ left.eraseIdx d).Perm (fnd ++ left) := by
          rw [List.append_assoc]
          exact List.Perm.append_left fnd hperm
        refine ⟨(left.eraseIdx d).length, hl2, y2, left.eraseIdx d, fnd ++ [num], join lab (en w num).1 (en w num).2, s, sli (num : Int), slS (lab (en w num).1), slS (lab (en w num).2), ?_, rfl, by omega, (hp2.nodup_iff).mpr nd, fun i hi => hin i (hp2.mem_iff.mp hi), ?_, ?_, fun i h1 h2 => ?_⟩
        · unfold nsT
          rw [List.map_append]; rfl
        · rw [List.map_append]
          show _ = runE _ (fnd.map (en w) ++ [en w num])
          rw [runE_snoc, ← hlab]
        · have := cnt_join W.nd hidem hmem.1 hmem.2 hne
          rw [List.length_append]
          show TR.cnt _ _ + (fnd.length + 1) = _
          omega
        · by_cases hi : i = num
          · subst hi; exact join_ab _ _ _
          · exact join_mono (hproc i h1 (hnotin i h2 hi))
      · have heq : lab (en w num).1 = lab (en w num).2 := by simpa using hb
        have hsub : ∀ i ∈ fnd ++ left.eraseIdx d, i ∈ fnd ++ left := fun i hi => by
          rcases List.mem_append.mp hi with h | h
          · exact List.mem_append_left _ h
          · exact List.mem_append_right _ (List.mem_of_mem_eraseIdx h)
        refine rn_nx ⟨(left.eraseIdx d).length, hl2, y2, left.eraseIdx d, fnd, lab, s4, sli (num : Int), slS (lab (en w num).1), slS (lab (en w num).2), rfl, rfl, by omega, nd.sublist (List.Sublist.append_left (List.eraseIdx_sublist _ _) _), fun i hi => hin i (hsub i hi), hlab, hcnt, fun i h1 h2 => ?_⟩
        by_cases hi : i = num
        · subst hi; exact heq
        · exact hproc i h1 (hnotin i h2 hi))
  exact ⟨tr, y, by rw [fn__law_tree, e, e1, e2], k⟩
end LW
namespace LW
open PySem PySem.Spec PyProof.Rows L2 TR
theorem rows_sl {tr : List Nat} {f : TR.Env → TR.R Unit T} {ρ : TR.Env} (h : f ρ = .ok (.pv (trP tr))) : iSeqF f ρ = .ok (tr.map fun i : Nat => sli (i : Int)) := iSeqF_of h (by
  show some ((tr.map fun i : Nat => P.int (i : Int)).map fun p => Sl.ow (.pv p)) = _
  rw [List.map_map]; rfl)
theorem is_tree_ok (w : Web) (W : GoodW w) (tr : List Nat) (R0 : TreeW w tr) : ∃ ρ', fn_is_tree [.ow (.pv (enWeb w)), .ow (.pv (trP tr))] = .ok (.pv (.bl true), ρ') := by
  have hlen : w.nm.length < 16777216 := by have := W.few; omega
  have hlt := W.ltie
  have hfew := W.few
  have hrl := R0.len
  obtain ⟨t, ρ', e, e1⟩ := fn_run (io := [false, false]) (n := 10) (b := b_is_tree) (args := [.ow (.pv (enWeb w)), .ow (.pv (trP tr))]) (G := fun t ρ => t = .pv (.bl true)) rfl (by
    refine rn_seq (rn_as (t := .pv (enWeb w)) rfl (ρ1 := [.ow (.pv (enWeb w)), .ow (.pv (trP tr)), NMs w.nm, .ow (.pv (.tup (w.ties.map enTie))), .no, .no, .no, .no, .no, .no]) rfl ?_)
    have hL : fN gLen (aCons (fVar 1) aNil) [.ow (.pv (enWeb w)), .ow (.pv (trP tr)), NMs w.nm, .ow (.pv (.tup (w.ties.map enTie))), .no, .no, .no, .no, .no, .no] = .ok (pvi (tr.length : Int)) := fN_of (t := [.pv (trP tr)]) rfl (by unfold trP; rw [gLen_t, List.length_map])
    have hN : fN gLen (aCons (fVar 2) aNil) [.ow (.pv (enWeb w)), .ow (.pv (trP tr)), NMs w.nm, .ow (.pv (.tup (w.ties.map enTie))), .no, .no, .no, .no, .no, .no] = .ok (pvi (w.nm.length : Int)) := fN_of (t := [.pv (.tup (w.nm.map .str))]) rfl (by rw [gLen_t, List.length_map])
    have c1 : fB (f2 gNe (fN gLen (aCons (fVar 1) aNil)) (f2 gSub (fN gLen (aCons (fVar 2) aNil)) (fC (.int 1)))) [.ow (.pv (enWeb w)), .ow (.pv (trP tr)), NMs w.nm, .ow (.pv (.tup (w.ties.map enTie))), .no, .no, .no, .no, .no, .no] = .ok false := by
      refine fB_of (f2_of hL (f2_of hN rfl (gSub_ii _ _)) ?_)
      rw [gNe_ii, show ((tr.length : Nat) : Int) = (w.nm.length : Int) - 1 by omega]
      simp
    have hrg : iLst rng2 (aCons (fC (.int 1)) (aCons (fN gLen (aCons (fVar 1) aNil)) aNil)) [.ow (.pv (enWeb w)), .ow (.pv (trP tr)), NMs w.nm, .ow (.pv (.tup (w.ties.map enTie))), .no, .no, .no, .no, .no, .no] = .ok ((List.range (tr.length - 1)).map fun i : Nat => sli (1 + (i : Int))) := by
      have h1 : -8388608 ≤ (1 : Int) ∧ (1 : Int) ≤ 8388608 ∧ -8388608 ≤ (tr.length : Int) ∧ (tr.length : Int) ≤ 8388608 := by omega
      have h2 : rng2 [pvi 1, pvi (tr.length : Int)] = some (rngSl 1 (tr.length - 1)) := by
        show (if -8388608 ≤ (1 : Int) ∧ (1 : Int) ≤ 8388608 ∧ -8388608 ≤ (tr.length : Int) ∧ (tr.length : Int) ≤ 8388608 then some (rngSl 1 ((tr.length : Int) - 1).toNat) else none) = _
        rw [if_pos h1, show ((tr.length : Int) - 1).toNat = tr.length - 1 by omega]
      rw [iLst_ap, aCons_of (t := pvi 1) rfl (aCons_of hL rfl), R.bind_ok, h2]; rfl
    have c2 : fB (f2 gNe (fLc [4] (iLst rng2 (aCons (fC (.int 1)) (aCons (fN gLen (aCons (fVar 1) aNil)) aNil))) (gN 4) (fB (f2 gLe (f2 gIx (fVar 1) (fVar 4)) (f2 gIx (fVar 1) (f2 gSub (fVar 4) (fC (.int 1)))))) (fPure (fVar 4))) (fLst aNil)) [.ow (.pv (enWeb w)), .ow (.pv (trP tr)), NMs w.nm, .ow (.pv (.tup (w.ties.map enTie))), .no, .no, .no, .no, .no, .no] = .ok false := by
      have hl := lc_run (g := gN 4) (fc := fB (f2 gLe (f2 gIx (fVar 1) (fVar 4)) (f2 gIx (fVar 1) (f2 gSub (fVar 4) (fC (.int 1)))))) (fe := fPure (fVar 4)) (ρ := [.ow (.pv (enWeb w)), .ow (.pv (trP tr)), NMs w.nm, .ow (.pv (.tup (w.ties.map enTie))), .no, .no, .no, .no, .no, .no]) (fun i : Nat => sli (1 + (i : Int))) (fun _ => false) (fun _ => pvi 0) (List.range (tr.length - 1)) (fun i hi => by
        have hi' : i + 1 < tr.length := by have := List.mem_range.mp hi; omega
        refine ⟨_, rfl, ?_, fun h => by cases h⟩
        have g1 : gIx (.pv (trP tr)) (pvi (1 + (i : Int))) = some (pvi ((tr[i + 1] : Nat) : Int)) := by
          unfold trP
          rw [gIx_t, show (1 + (i : Int)) = ((i + 1 : Nat) : Int) by omega, atI_nat', List.getElem?_map, List.getElem?_eq_getElem hi']; rfl
        have g2 : gIx (.pv (trP tr)) (pvi ((1 + (i : Int)) - 1)) = some (pvi ((tr[i] : Nat) : Int)) := by
          unfold trP
          rw [gIx_t, show (1 + (i : Int)) - 1 = ((i : Nat) : Int) by omega, atI_nat', List.getElem?_map, List.getElem?_eq_getElem (by omega)]; rfl
        have hup : tr[i] < tr[i + 1] := List.pairwise_iff_getElem.mp R0.up i (i + 1) (by omega) hi' (by omega)
        refine fB_of (f2_of (f2_of (t := .pv (trP tr)) rfl rfl g1) (f2_of (t := .pv (trP tr)) rfl (f2_of (t := pvi (1 + (i : Int))) rfl rfl (gSub_ii _ _)) g2) ?_)
        rw [gLe_ii, decide_eq_false (by omega)])
      have e0 : (List.range (tr.length - 1)).filter (fun _ => false) = [] := by simp
      rw [e0] at hl
      exact fB_of (f2_of (fLc_of hrg hl) (u := .lst []) rfl gNe_empty)
    refine rn_seq (rn_if (b := false) (by
      show fOrT _ _ [.ow (.pv (enWeb w)), .ow (.pv (trP tr)), NMs w.nm, .ow (.pv (.tup (w.ties.map enTie))), .no, .no, .no, .no, .no, .no] = _
      rw [fOrT_ap, c1, R.bind_ok, c2]; rfl) (fun h => by cases h) fun _ => rn_nx ?_)
    refine rn_seq (rn_set (t := dF [] tS) rfl (by simp) ?_)
    refine rn_seq (rn_for (fun j ρ => ∃ s6, ρ = [.ow (.pv (enWeb w)), .ow (.pv (trP tr)), NMs w.nm, .ow (.pv (.tup (w.ties.map enTie))), .no, .ow (dF (w.nm.take j) tS), s6, .no, .no, .no]) (names_sl rfl) ⟨.no, rfl⟩ ?_ ?_)
    · rintro j s ρ hs ⟨s6, rfl⟩
      rw [List.getElem?_map] at hs
      cases hx : w.nm[j]? with
      | none => rw [hx] at hs; cases hs
      | some z =>
        rw [hx] at hs
        cases hs
        have hzn : z ∉ w.nm.take j := fun hm => by
          obtain ⟨i, hi, e2⟩ := List.getElem_of_mem hm
          rw [List.getElem_take] at e2
          have hjl := (List.getElem?_eq_some_iff.mp hx).1
          have hi' : i < j := by rw [List.length_take] at hi; omega
          have := (List.getElem?_inj (i := i) (j := j) (by omega) W.nd).mp (by rw [hx, List.getElem?_eq_getElem (by omega), e2])
          omega
        refine ⟨_, rfl, rn_setP (tv := tS z) (ks := []) (p := .str z) (t := dF (w.nm.take j) tS) rfl rfl rfl rfl (setKid_dF_new (by rw [List.length_take]; omega) hzn rfl) ⟨slS z, ?_⟩⟩
        rw [List.take_add_one, hx]; rfl
    · rintro ρ ⟨s6, rfl⟩
      rw [List.length_map, List.take_length]
      refine rn_seq (rn_for (fun j ρ => ∃ s6 s7 s8 s9, ρ = [.ow (.pv (enWeb w)), .ow (.pv (trP tr)), NMs w.nm, .ow (.pv (.tup (w.ties.map enTie))), .no, .ow (dP w.nm (runE (fun x => x) ((tr.take j).map (en w)))), s6, s7, s8, s9]) (rows_sl rfl) ⟨s6, .no, .no, .no, rfl⟩ ?_ ?_)
      · rintro j s ρ hs ⟨s6, s7, s8, s9, rfl⟩
        rw [List.getElem?_map] at hs
        cases hx : tr[j]? with
        | none => rw [hx] at hs; cases hs
        | some num =>
          rw [hx] at hs
          cases hs
          have hjl := (List.getElem?_eq_some_iff.mp hx).1
          have hnlt := R0.lt num (List.mem_of_getElem? hx)
          have ht : w.ties[num]? = some w.ties[num] := List.getElem?_eq_getElem hnlt
          have hen : en w num = (w.ties[num].1, w.ties[num].2.1) := en_at ht
          have hmem := en_mem W hnlt
          have hsplit : tr.map (en w) = (tr.take j).map (en w) ++ en w num :: (tr.drop (j + 1)).map (en w) := by
            have e2 : tr = tr.take j ++ num :: tr.drop (j + 1) := by
              rw [(List.getElem?_eq_some_iff.mp hx).2.symm, List.getElem_cons_drop, List.take_append_drop]
            have := congrArg (List.map (en w)) e2
            rw [List.map_append, List.map_cons] at this
            exact this
          have hne := no_ring W.nd W.ne (E := tr.map (en w)) (fun z hz => by
            obtain ⟨i, hi, rfl⟩ := List.mem_map.mp hz
            exact en_mem W (R0.lt i hi)) (by rw [List.length_map]; exact R0.len) R0.all hsplit
          have htk : (tr.take (j + 1)).map (en w) = (tr.take j).map (en w) ++ [en w num] := by rw [List.take_add_one, hx, List.map_append]; rfl
          generalize hlab : runE (fun x => x) ((tr.take j).map (en w)) = lab at hne
          refine ⟨_, rfl, ?_⟩
          have c0 : fNotT (fB (fChain gLe gLt (fC (.int 0)) (fVar 7) (fN gLen (aCons (fVar 3) aNil)))) [.ow (.pv (enWeb w)), .ow (.pv (trP tr)), NMs w.nm, .ow (.pv (.tup (w.ties.map enTie))), .no, .ow (dP w.nm lab), s6, sli (num : Int), s8, s9] = .ok false := by
            refine fNotT_of (b := true) (fB_of ?_)
            have h3 : fN gLen (aCons (fVar 3) aNil) [.ow (.pv (enWeb w)), .ow (.pv (trP tr)), NMs w.nm, .ow (.pv (.tup (w.ties.map enTie))), .no, .ow (dP w.nm lab), s6, sli (num : Int), s8, s9] = .ok (pvi (w.ties.length : Int)) := fN_of (t := [.pv (.tup (w.ties.map enTie))]) rfl (by rw [gLen_t, List.length_map])
            have h4 : gLe (pvi 0) (pvi (num : Int)) = some (.pv (.bl true)) := by rw [gLe_ii, decide_eq_true (by omega)]
            have h5 : gLt (pvi (num : Int)) (pvi (w.ties.length : Int)) = some (.pv (.bl true)) := by rw [gLt_ii, decide_eq_true (by omega)]
            rw [fChain_ap, show (fC (.int 0)) [.ow (.pv (enWeb w)), .ow (.pv (trP tr)), NMs w.nm, .ow (.pv (.tup (w.ties.map enTie))), .no, .ow (dP w.nm lab), s6, sli (num : Int), s8, s9] = .ok (pvi 0) from rfl, R.bind_ok, show (fVar 7) [.ow (.pv (enWeb w)), .ow (.pv (trP tr)), NMs w.nm, .ow (.pv (.tup (w.ties.map enTie))), .no, .ow (dP w.nm lab), s6, sli (num : Int), s8, s9] = .ok (pvi (num : Int)) from rfl, R.bind_ok, h4]
            dsimp only
            rw [h3, R.bind_ok, h5]; rfl
          refine rn_seq (rn_if (b := false) c0 (fun h => by cases h) fun _ => rn_nx ?_)
          have eT : f2 gIx (fVar 3) (fVar 7) [.ow (.pv (enWeb w)), .ow (.pv (trP tr)), NMs w.nm, .ow (.pv (.tup (w.ties.map enTie))), .no, .ow (dP w.nm lab), s6, sli (num : Int), s8, s9] = .ok (.pv (enTie w.ties[num])) := f2_of (t := .pv (.tup (w.ties.map enTie))) rfl rfl (gIx_tie ht)
          have eA : f2 gIxP (fVar 5) (f2 gIx (f2 gIx (fVar 3) (fVar 7)) (fC (.int 0))) [.ow (.pv (enWeb w)), .ow (.pv (trP tr)), NMs w.nm, .ow (.pv (.tup (w.ties.map enTie))), .no, .ow (dP w.nm lab), s6, sli (num : Int), s8, s9] = .ok (tS (lab (en w num).1)) :=
            f2_of (t := dP w.nm lab) (u := tS (en w num).1) rfl (f2_of eT rfl (by rw [hen]; rfl)) (gIxP_dF hmem.1 rfl)
          have eB : f2 gIxP (fVar 5) (f2 gIx (f2 gIx (fVar 3) (fVar 7)) (fC (.int 1))) [.ow (.pv (enWeb w)), .ow (.pv (trP tr)), NMs w.nm, .ow (.pv (.tup (w.ties.map enTie))), .no, .ow (dP w.nm lab), s6, sli (num : Int), s8, s9] = .ok (tS (lab (en w num).2)) :=
            f2_of (t := dP w.nm lab) (u := tS (en w num).2) rfl (f2_of eT rfl (by rw [hen]; rfl)) (gIxP_dF hmem.2 rfl)
          refine rn_seq (rn_par (aCons_of eA (aCons_of eB rfl)) (by simp) ?_)
          refine rn_seq (rn_if (b := lab (en w num).1 == lab (en w num).2) (fB_of (f2_of rfl rfl (gEq_ss _ _))) (fun h => absurd (by simpa using h) hne) fun _ => rn_nx ?_)
          refine rn_forE (names_sl rfl) (relabel_run (d := 5) (n := 6) (o := 9) (u := 8) W.nd hlen (lab := lab) (one := lab (en w num).1) (oth := lab (en w num).2) (by decide) (by decide) (by decide) (by decide) (by decide) rfl rfl rfl (by simp) fun s => ?_)
          refine ⟨s, sli (num : Int), slS (lab (en w num).1), slS (lab (en w num).2), ?_⟩
          rw [htk, runE_snoc, hlab]; rfl
      · rintro ρ ⟨s6, s7, s8, s9, rfl⟩
        exact rn_ret (t := .pv (.bl true)) rfl rfl)
  exact ⟨ρ', by rw [fn_is_tree, e, e1]⟩
end LW
namespace LW
open PySem PySem.Spec PyProof.Rows L2 TR
def addA (g : Str → List Str) (a b : Str) : Str → List Str := fun y => if y = a then g a ++ [b] else g y
abbrev dL (nm : List Str) (g : Str → List Str) : T := dF nm fun y => .lst ((g y).map tS)
def adjs (g : Str → List Str) (E : List (Str × Str)) : Str → List Str := E.foldl (fun g e => addA (addA g e.1 e.2) e.2 e.1) g
theorem adjs_snoc (g : Str → List Str) (E : List (Str × Str)) (e : Str × Str) : adjs g (E ++ [e]) = addA (addA (adjs g E) e.1 e.2) e.2 e.1 := by unfold adjs; rw [List.foldl_append]; rfl
theorem addA_len {g : Str → List Str} {a b : Str} {n : Nat} (h : ∀ y, (g y).length ≤ n) (y : Str) : (addA g a b y).length ≤ n + 1 := by
  unfold addA
  split
  · rw [List.length_append]; have := h a; simp; omega
  · have := h y; omega
theorem adjs_len (E : List (Str × Str)) : ∀ (g : Str → List Str) (n : Nat), (∀ y, (g y).length ≤ n) → ∀ y, (adjs g E y).length ≤ n + 2 * E.length := by
  induction E with
  | nil => intro g n h y; exact h y
  | cons e E ih =>
    intro g n h y
    have := ih (addA (addA g e.1 e.2) e.2 e.1) (n + 2) (fun z => addA_len (addA_len h) z) y
    show (adjs (addA (addA g e.1 e.2) e.2 e.1) E y).length ≤ _
    rw [List.length_cons]
    omega
theorem put_ok {w : Web} (W : GoodW w) {s : Nat} {fp : TR.Env → TR.R Unit (List P)} {fas : TR.Env → TR.R Unit (List T)} {ρ : TR.Env} {g : Str → List Str} {a b : Str} (h1 : fp ρ = .ok [.str a]) (h0 : ρ[s]? = some (.ow (dL w.nm g))) (ha : a ∈ w.nm) (h3 : fas ρ = .ok [tS b]) (hl : (g a).length < 1000) :
    sMeth "list" s muAppend fp fas ρ = .ok (.val (.pv .non), ρ.set s (.ow (dL w.nm (addA g a b)))) := by
  have hlen : w.nm.length < 16777216 := by have := W.few; omega
  have hk := kidT_dF (nm := w.nm) (g := fun y => T.lst ((g y).map tS)) hlen ha
  refine sMeth_run (node := .lst ((g a).map tS)) (node' := .lst ((g a).map tS ++ [tS b])) h1 h0 ?_ rfl h3 (muAppend_ok (by rw [List.length_map]; omega)) ?_
  · show (kidT (dL w.nm g) (.str a)).bind (lookPath []) = _
    rw [hk]; rfl
  · show (kidT (dL w.nm g) (.str a)).bind (fun c => (updPath [] (fun _ => some (T.lst ((g a).map tS ++ [tS b]))) c).bind fun c' => setKid (dL w.nm g) (.str a) c') = _
    rw [hk, Option.bind_some]
    show setKid (dL w.nm g) (.str a) (T.lst ((g a).map tS ++ [tS b])) = _
    rw [setKid_dF W.nd hlen ha]
    congr 1
    refine dF_congr fun y _ => ?_
    unfold upF addA
    split
    · rw [List.map_append]; rfl
    · rfl
theorem tied_ok (w : Web) (W : GoodW w) (tr : List Nat) (R0 : TreeW w tr) : ∃ ρ', fn__law_tied [.ow (.pv (enWeb w)), .ow (.pv (trP tr))] = .ok (dL w.nm (adjs (fun _ => []) (tr.map (en w))), ρ') := by
  have hrl := R0.len
  have hfew := W.few
  obtain ⟨t, ρ', e, e1⟩ := fn_run (io := [false, false]) (n := 5) (b := b__law_tied) (args := [.ow (.pv (enWeb w)), .ow (.pv (trP tr))]) (G := fun t ρ => t = dL w.nm (adjs (fun _ => []) (tr.map (en w)))) rfl (by
    refine rn_seq (rn_set (dict_ok W (fun x => .lst []) (c := 3) (ρ := [.ow (.pv (enWeb w)), .ow (.pv (trP tr)), .no, .no, .no]) (names_sl (ix_names rfl)) (by simp) (fun z _ => fTup_of (aCons_of rfl (aCons_of rfl rfl)) (by simp))) (by simp) ?_)
    refine rn_seq (rn_for (fun j ρ => ∃ s3 s4, ρ = [.ow (.pv (enWeb w)), .ow (.pv (trP tr)), .ow (dL w.nm (adjs (fun _ => []) ((tr.take j).map (en w)))), s3, s4]) (rows_sl rfl) ⟨.no, .no, rfl⟩ ?_ ?_)
    · rintro j s ρ hs ⟨s3, s4, rfl⟩
      rw [List.getElem?_map] at hs
      cases hx : tr[j]? with
      | none => rw [hx] at hs; cases hs
      | some num =>
        rw [hx] at hs
        cases hs
        have hjl := (List.getElem?_eq_some_iff.mp hx).1
        have hnlt := R0.lt num (List.mem_of_getElem? hx)
        have ht : w.ties[num]? = some w.ties[num] := List.getElem?_eq_getElem hnlt
        have hen : en w num = (w.ties[num].1, w.ties[num].2.1) := en_at ht
        have hmem := en_mem W hnlt
        have htk : (tr.take (j + 1)).map (en w) = (tr.take j).map (en w) ++ [en w num] := by rw [List.take_add_one, hx, List.map_append]; rfl
        have hb := adjs_len ((tr.take j).map (en w)) (fun _ => []) 0 (fun _ => Nat.le_refl _)
        have hjle : ((tr.take j).map (en w)).length ≤ 14 := by rw [List.length_map, List.length_take]; omega
        generalize hg : adjs (fun _ => []) ((tr.take j).map (en w)) = g at hb
        have hb2 : ∀ y, (g y).length < 100 := fun y => by have := hb y; omega
        have hb3 : ∀ y, (addA g (en w num).1 (en w num).2 y).length < 200 := fun y => by have := addA_len (g := g) (a := (en w num).1) (b := (en w num).2) (n := 100) (fun y => by have := hb2 y; omega) y; omega
        refine ⟨_, rfl, ?_⟩
        have eT : ∀ g', f2 gIx (f2 gIx (fVar 0) (fC (.int 1))) (fVar 4) [.ow (.pv (enWeb w)), .ow (.pv (trP tr)), .ow (dL w.nm g'), s3, sli (num : Int)] = .ok (.pv (enTie w.ties[num])) := fun g' => f2_of (ix_ties rfl) rfl (gIx_tie ht)
        have e0 : ∀ g', f2 gIx (f2 gIx (f2 gIx (fVar 0) (fC (.int 1))) (fVar 4)) (fC (.int 0)) [.ow (.pv (enWeb w)), .ow (.pv (trP tr)), .ow (dL w.nm g'), s3, sli (num : Int)] = .ok (tS (en w num).1) := fun g' => f2_of (eT g') rfl (by rw [hen]; rfl)
        have e1 : ∀ g', f2 gIx (f2 gIx (f2 gIx (fVar 0) (fC (.int 1))) (fVar 4)) (fC (.int 1)) [.ow (.pv (enWeb w)), .ow (.pv (trP tr)), .ow (dL w.nm g'), s3, sli (num : Int)] = .ok (tS (en w num).2) := fun g' => f2_of (eT g') rfl (by rw [hen]; rfl)
        have e0P : ∀ g', f2 gIxP (f2 gIx (f2 gIx (fVar 0) (fC (.int 1))) (fVar 4)) (fC (.int 0)) [.ow (.pv (enWeb w)), .ow (.pv (trP tr)), .ow (dL w.nm g'), s3, sli (num : Int)] = .ok (tS (en w num).1) := fun g' => f2_of (eT g') rfl (by rw [hen]; rfl)
        have e1P : ∀ g', f2 gIxP (f2 gIx (f2 gIx (fVar 0) (fC (.int 1))) (fVar 4)) (fC (.int 1)) [.ow (.pv (enWeb w)), .ow (.pv (trP tr)), .ow (dL w.nm g'), s3, sli (num : Int)] = .ok (tS (en w num).2) := fun g' => f2_of (eT g') rfl (by rw [hen]; rfl)
        have m1 := put_ok W (s := 2) (fp := pSnoc pNil (f2 gIx (f2 gIx (f2 gIx (fVar 0) (fC (.int 1))) (fVar 4)) (fC (.int 0)))) (fas := aCons (f2 gIxP (f2 gIx (f2 gIx (fVar 0) (fC (.int 1))) (fVar 4)) (fC (.int 1))) aNil) (ρ := [.ow (.pv (enWeb w)), .ow (.pv (trP tr)), .ow (dL w.nm g), s3, sli (num : Int)]) (g := g) (a := (en w num).1) (b := (en w num).2) (by rw [pSnoc_ap, e0]; rfl) rfl hmem.1 (aCons_of (e1P g) rfl) (by have := hb2 (en w num).1; omega)
        have m2 := put_ok W (s := 2) (fp := pSnoc pNil (f2 gIx (f2 gIx (f2 gIx (fVar 0) (fC (.int 1))) (fVar 4)) (fC (.int 1)))) (fas := aCons (f2 gIxP (f2 gIx (f2 gIx (fVar 0) (fC (.int 1))) (fVar 4)) (fC (.int 0))) aNil) (ρ := [.ow (.pv (enWeb w)), .ow (.pv (trP tr)), .ow (dL w.nm (addA g (en w num).1 (en w num).2)), s3, sli (num : Int)]) (g := addA g (en w num).1 (en w num).2) (a := (en w num).2) (b := (en w num).1) (by rw [pSnoc_ap, e1]; rfl) rfl hmem.2 (aCons_of (e0P _) rfl) (by have := hb3 (en w num).2; omega)
        refine rn_seq (rn_expE m1 ?_)
        refine rn_expE m2 ⟨s3, sli (num : Int), ?_⟩
        rw [htk, adjs_snoc, hg]; rfl
    · rintro ρ ⟨s3, s4, rfl⟩
      rw [List.length_map, List.take_length]
      exact rn_retE (t := dL w.nm (adjs (fun _ => []) (tr.map (en w)))) rfl rfl)
  exact ⟨ρ', by rw [fn__law_tied, e, e1]⟩
theorem tied_in_ok (w : Web) (W : GoodW w) (tr : List Nat) (R0 : TreeW w tr) : ∃ ρ', fn_tied_in [.ow (.pv (enWeb w)), .ow (.pv (trP tr))] = .ok (dL w.nm (adjs (fun _ => []) (tr.map (en w))), ρ') := by
  have hrl := R0.len
  have hfew := W.few
  obtain ⟨t, ρ', e, e1⟩ := fn_run (io := [false, false]) (n := 10) (b := b_tied_in) (args := [.ow (.pv (enWeb w)), .ow (.pv (trP tr))]) (G := fun t ρ => t = dL w.nm (adjs (fun _ => []) (tr.map (en w)))) rfl (by
    refine rn_seq (rn_as (t := .pv (enWeb w)) rfl (ρ1 := [.ow (.pv (enWeb w)), .ow (.pv (trP tr)), NMs w.nm, .ow (.pv (.tup (w.ties.map enTie))), .no, .no, .no, .no, .no, .no]) rfl ?_)
    refine rn_seq (rn_set (dict_ok W (fun x => .lst []) (c := 5) (ρ := [.ow (.pv (enWeb w)), .ow (.pv (trP tr)), NMs w.nm, .ow (.pv (.tup (w.ties.map enTie))), .no, .no, .no, .no, .no, .no]) (names_sl rfl) (by simp) (fun z _ => fTup_of (aCons_of rfl (aCons_of rfl rfl)) (by simp))) (by simp) ?_)
    refine rn_seq (rn_for (fun j ρ => ∃ s5 s6 s7 s8 s9, ρ = [.ow (.pv (enWeb w)), .ow (.pv (trP tr)), NMs w.nm, .ow (.pv (.tup (w.ties.map enTie))), .ow (dL w.nm (adjs (fun _ => []) ((tr.take j).map (en w)))), s5, s6, s7, s8, s9]) (rows_sl rfl) ⟨.no, .no, .no, .no, .no, rfl⟩ ?_ ?_)
    · rintro j s ρ hs ⟨s5, s6, s7, s8, s9, rfl⟩
      rw [List.getElem?_map] at hs
      cases hx : tr[j]? with
      | none => rw [hx] at hs; cases hs
      | some num =>
        rw [hx] at hs
        cases hs
        have hjl := (List.getElem?_eq_some_iff.mp hx).1
        have hnlt := R0.lt num (List.mem_of_getElem? hx)
        have ht : w.ties[num]? = some w.ties[num] := List.getElem?_eq_getElem hnlt
        have hen : en w num = (w.ties[num].1, w.ties[num].2.1) := en_at ht
        have hmem := en_mem W hnlt
        have htk : (tr.take (j + 1)).map (en w) = (tr.take j).map (en w) ++ [en w num] := by rw [List.take_add_one, hx, List.map_append]; rfl
        have hb := adjs_len ((tr.take j).map (en w)) (fun _ => []) 0 (fun _ => Nat.le_refl _)
        have hjle : ((tr.take j).map (en w)).length ≤ 14 := by rw [List.length_map, List.length_take]; omega
        generalize hg : adjs (fun _ => []) ((tr.take j).map (en w)) = g at hb
        have hb2 : ∀ y, (g y).length < 100 := fun y => by have := hb y; omega
        have hb3 : ∀ y, (addA g (en w num).1 (en w num).2 y).length < 200 := fun y => by have := addA_len (g := g) (a := (en w num).1) (b := (en w num).2) (n := 100) (fun y => by have := hb2 y; omega) y; omega
        refine ⟨_, rfl, ?_⟩
        have eT : f2 gIxP (fVar 3) (fVar 6) [.ow (.pv (enWeb w)), .ow (.pv (trP tr)), NMs w.nm, .ow (.pv (.tup (w.ties.map enTie))), .ow (dL w.nm g), s5, sli (num : Int), s7, s8, s9] = .ok (.pv (enTie w.ties[num])) := f2_of (t := .pv (.tup (w.ties.map enTie))) rfl rfl (by unfold gIxP; rw [gIx_tie ht]; rfl)
        refine rn_seq (rn_as eT (ρ1 := [.ow (.pv (enWeb w)), .ow (.pv (trP tr)), NMs w.nm, .ow (.pv (.tup (w.ties.map enTie))), .ow (dL w.nm g), s5, sli (num : Int), slS (en w num).1, slS (en w num).2, sli w.ties[num].2.2]) (by rw [hen]; rfl) ?_)
        have m1 := put_ok W (s := 4) (fp := pSnoc pNil (fVar 7)) (fas := aCons (fPure (fVar 8)) aNil) (ρ := [.ow (.pv (enWeb w)), .ow (.pv (trP tr)), NMs w.nm, .ow (.pv (.tup (w.ties.map enTie))), .ow (dL w.nm g), s5, sli (num : Int), slS (en w num).1, slS (en w num).2, sli w.ties[num].2.2]) (g := g) (a := (en w num).1) (b := (en w num).2) rfl rfl hmem.1 rfl (by have := hb2 (en w num).1; omega)
        have m2 := put_ok W (s := 4) (fp := pSnoc pNil (fVar 8)) (fas := aCons (fPure (fVar 7)) aNil) (ρ := [.ow (.pv (enWeb w)), .ow (.pv (trP tr)), NMs w.nm, .ow (.pv (.tup (w.ties.map enTie))), .ow (dL w.nm (addA g (en w num).1 (en w num).2)), s5, sli (num : Int), slS (en w num).1, slS (en w num).2, sli w.ties[num].2.2]) (g := addA g (en w num).1 (en w num).2) (a := (en w num).2) (b := (en w num).1) rfl rfl hmem.2 rfl (by have := hb3 (en w num).2; omega)
        refine rn_seq (rn_expE m1 ?_)
        refine rn_expE m2 ⟨s5, sli (num : Int), slS (en w num).1, slS (en w num).2, sli w.ties[num].2.2, ?_⟩
        rw [htk, adjs_snoc, hg]; rfl
    · rintro ρ ⟨s5, s6, s7, s8, s9, rfl⟩
      rw [List.length_map, List.take_length]
      exact rn_retE (t := dL w.nm (adjs (fun _ => []) (tr.map (en w)))) rfl rfl)
  exact ⟨ρ', by rw [fn_tied_in, e, e1]⟩
def endsOf (w : Web) (tr : List Nat) : List Str := w.nm.filter fun x => decide (((adjs (fun _ => []) (tr.map (en w)) x).length : Int) = 1)
theorem lone {nm : List Str} {g : Str → List Str} {x : Str} {f1' f2' : TR.Env → TR.R Unit T} {ρ : TR.Env} (h1 : f1' ρ = .ok (dL nm g)) (h2 : f2' ρ = .ok (tS x)) (hx : x ∈ nm) : fB (f2 gEq (fN gLen (aCons (f2 gIx f1' f2') aNil)) (fC (.int 1))) ρ = .ok (decide (((g x).length : Int) = 1)) := by
  refine fB_of (f2_of (fN_of (aCons_of (f2_of h1 h2 (gIx_dF hx)) rfl) (gLen_l _)) rfl ?_)
  rw [gEq_ii, List.length_map]
theorem ends_in_ok (w : Web) (tr : List Nat) : ∃ ρ', fn_ends_in [.vw (dL w.nm (adjs (fun _ => []) (tr.map (en w)))), NMs w.nm] = .ok (.lst ((endsOf w tr).map tS), ρ') := by
  obtain ⟨t, ρ', e, e1⟩ := fn_run (io := [false, false]) (n := 3) (b := b_ends_in) (args := [.vw (dL w.nm (adjs (fun _ => []) (tr.map (en w)))), NMs w.nm]) (G := fun t ρ => t = .lst ((endsOf w tr).map tS)) rfl (by
    refine rn_ret (fLc_of (names_sl rfl) (lc_run (ρ := [.vw (dL w.nm (adjs (fun _ => []) (tr.map (en w)))), NMs w.nm, .no]) slS (fun x => decide (((adjs (fun _ => []) (tr.map (en w)) x).length : Int) = 1)) tS w.nm fun x hx => ⟨_, rfl, lone rfl rfl hx, fun _ => rfl⟩)) rfl)
  exact ⟨ρ', by rw [fn_ends_in, e, e1]⟩
theorem need_ok (w : Web) (W : GoodW w) (tr : List Nat) (R0 : TreeW w tr) : ∃ ρ', fn_need_tree [.ow (.pv (enWeb w)), .ow (.pv (trP tr))] = .ok (.pv .non, ρ') := by
  obtain ⟨r0, h0⟩ := is_tree_ok w W tr R0
  obtain ⟨t, ρ', e, e1⟩ := fn_run (io := [false, false]) (n := 2) (b := b_need_tree) (args := [.ow (.pv (enWeb w)), .ow (.pv (trP tr))]) (G := fun t ρ => t = .pv .non) rfl (by
    exact rn_if (b := false) (fNotT_of (b := true) (fB_of (fCall_of (ts := [.pv (enWeb w), .pv (trP tr)]) rfl h0))) (fun h => by cases h) fun _ => rn_nx rfl)
  exact ⟨ρ', by rw [fn_need_tree, e, e1]⟩
def endsP (w : Web) (tr : List Nat) : P := .tup ((endsOf w tr).map .str)
theorem tup_ends (l : List Str) : gTupO (.lst (l.map tS)) = some (.pv (.tup (l.map .str))) := by
  show some (mkT _) = _
  have : l.map tS = (l.map P.str).map .pv := by rw [List.map_map]; rfl
  rw [this, mkT_pv]
theorem ends_ok (w : Web) (W : GoodW w) (tr : List Nat) (R0 : TreeW w tr) : ∃ ρ', fn_ends_of [.ow (.pv (enWeb w)), .ow (.pv (trP tr))] = .ok (.pv (endsP w tr), ρ') := by
  obtain ⟨r0, h0⟩ := need_ok w W tr R0
  obtain ⟨r1, h1⟩ := tied_in_ok w W tr R0
  obtain ⟨r2, h2⟩ := ends_in_ok w tr
  obtain ⟨t, ρ', e, e1⟩ := fn_run (io := [false, false]) (n := 2) (b := b_ends_of) (args := [.ow (.pv (enWeb w)), .ow (.pv (trP tr))]) (G := fun t ρ => t = .pv (endsP w tr)) rfl (by
    refine rn_seq (rn_exp (fCall_of (ts := [.pv (enWeb w), .pv (trP tr)]) rfl h0) ?_)
    refine rn_ret (f1_of (fCall_of (aCons_of (fCall_of (ts := [.pv (enWeb w), .pv (trP tr)]) rfl h1) (aCons_of (ix_names rfl) rfl)) h2) (tup_ends _)) rfl)
  exact ⟨ρ', by rw [fn_ends_of, e, e1]⟩
end LW
namespace LW
open PySem PySem.Spec PyProof.Rows L2 TR
theorem cells_ok (ns : List Int) (hl : ns.length ≤ 63) : ∃ (cs : List Int) (ρ' : TR.Env), fn__law_cells [.vw (.fls (ns.map fun i => pvi i)), .ow (pvi 6)] = .ok (.lst (cs.map fun i => pvi i), ρ') := by
  obtain ⟨t, ρ', e, cs, e1⟩ := fn_run (io := [false, false]) (n := 2) (b := b__law_cells) (args := [.vw (.fls (ns.map fun i => pvi i)), .ow (pvi 6)]) (G := fun t ρ => ∃ cs : List Int, t = .lst (cs.map fun i => pvi i)) rfl (by
    have hp : (ns.map fun i => pvi i) = (ns.map P.int).map .pv := by rw [List.map_map]; rfl
    have hs : gSl (.fls (ns.map fun i => pvi i)) none (some 6) = some (.lst ((cutP (ns.map P.int) none (some 6)).map .pv)) := by
      show (pvs (ns.map fun i => pvi i)).map _ = _
      rw [hp, pvs_map]; rfl
    have hc : cutP (ns.map P.int) none (some 6) = (cutP ns none (some 6)).map P.int := by
      unfold cutP
      rw [List.length_map, List.map_take, List.map_drop]
    have hcl : (cutP ns none (some 6)).length ≤ 63 := by
      unfold cutP
      rw [List.length_take, List.length_drop]
      omega
    have h1 : fSl (fVar 0) pNone (pSome (fVar 1)) [.vw (.fls (ns.map fun i => pvi i)), .ow (pvi 6)] = .ok (.lst (((cutP ns none (some 6)).map P.int).map .pv)) := by
      rw [← hc]
      rw [fSl_ap, show (fVar 0) [.vw (.fls (ns.map fun i => pvi i)), .ow (pvi 6)] = .ok (.fls (ns.map fun i => pvi i)) from rfl, R.bind_ok, show pNone [.vw (.fls (ns.map fun i => pvi i)), .ow (pvi 6)] = .ok none from rfl, R.bind_ok, show (pSome (fVar 1)) [.vw (.fls (ns.map fun i => pvi i)), .ow (pvi 6)] = .ok (some 6) from rfl, R.bind_ok, hs]; rfl
    have h2 : fLst (aCons (fN gLen (aCons (fVar 0) aNil)) aNil) [.vw (.fls (ns.map fun i => pvi i)), .ow (pvi 6)] = .ok (.lst ([P.int (ns.length : Int)].map .pv)) := by
      rw [fLst_ap, aCons_of (fN_of (t := [.fls (ns.map fun i => pvi i)]) rfl (gLen_f _)) rfl, R.bind_ok, List.length_map]
      exact if_pos (by simp)
    have h3 : gAdd (.lst (((cutP ns none (some 6)).map P.int).map .pv)) (.lst ([P.int (ns.length : Int)].map .pv)) = some (.lst ((((cutP ns none (some 6)).map P.int) ++ [P.int (ns.length : Int)]).map .pv)) := by
      show ((pvs _).bind fun ps => (pvs _).bind fun qs => if ps.length + qs.length ≤ 16777216 then some (T.lst ((ps ++ qs).map .pv)) else none) = _
      rw [pvs_map, Option.bind_some, pvs_map, Option.bind_some, if_pos (by rw [List.length_map]; simp; omega)]
    refine rn_ret (f2_of h1 h2 h3) ⟨cutP ns none (some 6) ++ [(ns.length : Int)], ?_⟩
    rw [List.map_append, List.map_append, List.map_map]; rfl)
  exact ⟨cs, ρ', by rw [fn__law_cells, e, e1]⟩
theorem depth_ends (w : Web) (tr : List Nat) : (endsP w tr).toD.depth ≤ 50 := Nat.le_trans (depth_tup (n := 0) (by intro p hp; obtain ⟨x, _, rfl⟩ := List.mem_map.mp hp; exact Nat.zero_le _)) (by decide)
theorem scall_tree {ρ : TR.Env} {x : Int × Int × Int × Int} {w : Web} (W : GoodW w) (h0 : ρ[2]? = some (.ow (sd x))) (h1 : ρ[3]? = some (.ow (.pv (enWeb w)))) : ∃ (tr : List Nat) (y : Int × Int × Int × Int), TreeW w tr ∧ sCall fn__law_tree [true, false] (sCons (fLateN 2) (sCons (fLateN 3) sNil)) ρ = .ok (.val (.pv (trP tr)), ρ.set 2 (.ow (sd y))) := by
  obtain ⟨tr, y, e, k⟩ := tree_ok w W x
  refine ⟨tr, y, k, ?_⟩
  have e1 : (sCons (fLateN 2) (sCons (fLateN 3) sNil)) ρ = .ok ([.late 2, .late 3], ρ) := by
    simp only [sCons_ap, fLateN_ap, h0, h1, R.bind_ok, sNil_ap]
  have e2 : takeA [true, false] [.late 2, .late 3] ρ = some ([.ow (sd x), .ow (.pv (enWeb w))], ρ.set 2 .no) := by
    unfold takeA
    rw [h0]
    dsimp only
    rw [takeA_f, takeA_nil, Option.bind_some]
    dsimp only
    rw [see_late, List.getElem?_set_ne (by decide), h1]; rfl
  unfold sCall
  rw [e1, R.bind_ok]
  dsimp only
  rw [e2]
  dsimp only
  rw [e]
  dsimp only
  have e3 : giveB [true, false] [.late 2, .late 3] [.ow (sd y), .no] (ρ.set 2 .no) = ρ.set 2 (.ow (sd y)) := by
    show (ρ.set 2 .no).set 2 (.ow (sd y)) = _
    rw [List.set_set]
  rw [e3]
theorem scall_web {ρ : TR.Env} {x : Int × Int × Int × Int} (h0 : ρ[2]? = some (.ow (sd x))) : ∃ (w : Web) (y : Int × Int × Int × Int), GoodW w ∧ sCall fn__law_web [true, false, false] (sCons (fLateN 2) (sCons (fVal (fC (.int 12))) (sCons (fVal (fC (.int 24))) sNil))) ρ = .ok (.val (.pv (enWeb w)), ρ.set 2 (.ow (sd y))) := by
  obtain ⟨w, y, e, k⟩ := web_ok x
  refine ⟨w, y, k, ?_⟩
  have e1 : (sCons (fLateN 2) (sCons (fVal (fC (.int 12))) (sCons (fVal (fC (.int 24))) sNil))) ρ = .ok ([.late 2, .val (pvi 12), .val (pvi 24)], ρ) := by
    simp only [sCons_ap, fLateN_ap, h0, R.bind_ok, sNil_ap, fVal_ap, fC_ap]
  have e2 : takeA [true, false, false] [.late 2, .val (pvi 12), .val (pvi 24)] ρ = some ([.ow (sd x), .ow (pvi 12), .ow (pvi 24)], ρ.set 2 .no) := by
    unfold takeA
    rw [h0]
    rfl
  unfold sCall
  rw [e1, R.bind_ok]
  dsimp only
  rw [e2]
  dsimp only
  rw [e]
  dsimp only
  have e3 : giveB [true, false, false] [.late 2, .val (pvi 12), .val (pvi 24)] [.ow (sd y), .no, .no] (ρ.set 2 .no) = ρ.set 2 (.ow (sd y)) := by
    show (ρ.set 2 .no).set 2 (.ow (sd y)) = _
    rw [List.set_set]
  rw [e3]
theorem law_ok : LawOk fn_law := by
  intro ns hl
  obtain ⟨t, ρ', e, e1⟩ := fn_run (io := [false]) (n := 10) (b := b_law) (args := [.vw (.fls (ns.map fun i => .pv (.int i)))]) (G := fun t ρ => t = .pv (.bl true)) rfl (by
    obtain ⟨cs, rc, ec⟩ := cells_ok ns hl
    generalize hS : (T.fls (ns.map fun i => .pv (.int i))) = S at ec
    have hcells : iSeqF (fCall fn__law_cells (aCons (fVar 0) (aCons (fC (.int 6)) aNil))) [.vw S, .no, .no, .no, .no, .no, .no, .no, .no, .no] = .ok (cs.map sli) := by
      refine iSeqF_of (fCall_of (ts := [S, pvi 6]) rfl (by rw [← hS]; rw [← hS] at ec; exact ec)) ?_
      show some ((cs.map fun i => pvi i).map argSl) = _
      rw [List.map_map]; rfl
    refine rn_seq (rn_for (fun j ρ => ∃ s1 s2 s3 s4 s5 s6 s7 s8 s9, ρ = [.vw S, s1, s2, s3, s4, s5, s6, s7, s8, s9]) hcells ⟨.no, .no, .no, .no, .no, .no, .no, .no, .no, rfl⟩ ?_ ?_)
    · rintro j s ρ hs ⟨s1, s2, s3, s4, s5, s6, s7, s8, s9, rfl⟩
      rw [List.getElem?_map] at hs
      cases hx : cs[j]? with
      | none => rw [hx] at hs; cases hs
      | some c =>
        rw [hx] at hs
        cases hs
        refine ⟨_, rfl, ?_⟩
        obtain ⟨x, r1, ex⟩ := seed_ok c
        refine rn_seq (rn_set (fCall_of (ts := [pvi c]) rfl ex) (by simp) ?_)
        obtain ⟨w, y, W, ew⟩ := scall_web (ρ := [.vw S, sli c, .ow (sd x), s3, s4, s5, s6, s7, s8, s9]) (x := x) rfl
        refine rn_seq (rn_setE ew (by simp) ?_)
        refine rn_for (fun j ρ => ∃ y s4 s5 s6 s7 s8 s9, ρ = [.vw S, sli c, .ow (sd y), .ow (.pv (enWeb w)), s4, s5, s6, s7, s8, s9]) (ss := rngSl 0 2) rfl ⟨y, s4, s5, s6, s7, s8, s9, rfl⟩ ?_ ?_
        · rintro j s ρ _ ⟨y, s4, s5, s6, s7, s8, s9, rfl⟩
          refine ⟨[.vw S, sli c, .ow (sd y), .ow (.pv (enWeb w)), s, s5, s6, s7, s8, s9], rfl, ?_⟩
          obtain ⟨tr, y2, R0, et⟩ := scall_tree (ρ := [.vw S, sli c, .ow (sd y), .ow (.pv (enWeb w)), s, s5, s6, s7, s8, s9]) (x := y) W rfl rfl
          refine rn_seq (rn_setE et (by simp) ?_)
          obtain ⟨r2, ed⟩ := tied_ok w W tr R0
          refine rn_seq (rn_set (fCall_of (ts := [.pv (enWeb w), .pv (trP tr)]) rfl ed) (by simp) ?_)
          obtain ⟨r3, ee⟩ := ends_ok w W tr R0
          refine rn_seq (rn_set (t := .pv (endsP w tr)) (f1_of (fLc_of (names_sl (ix_names rfl)) (lc_run (ρ := [argSl S, sli c, .vw (sd y2), .ow (.pv (enWeb w)), vwS s, .ow (.pv (trP tr)), .vw (dL w.nm (adjs (fun _ => []) (tr.map (en w)))), vwS s7, .no, vwS s9]) slS (fun x => decide (((adjs (fun _ => []) (tr.map (en w)) x).length : Int) = 1)) tS w.nm fun x hx => ⟨_, rfl, lone rfl rfl hx, fun _ => rfl⟩)) (tup_ends _)) (by simp) ?_)
          refine rn_seq (rn_set (fCall_of (ts := [.pv (enWeb w), .pv (trP tr)]) rfl ee) (by simp) ?_)
          generalize hρ : ([.vw S, sli c, .ow (sd y2), .ow (.pv (enWeb w)), s, .ow (.pv (trP tr)), .ow (dL w.nm (adjs (fun _ => []) (tr.map (en w)))), .ow (.pv (endsP w tr)), s8, .ow (.pv (endsP w tr))] : TR.Env) = ρ2
          have c1 : fNotT (fB (fIsi "tuple" (fVar 9))) ρ2 = .ok false := by subst hρ; rfl
          have c2 : fB (f2 gNe (fVar 9) (fVar 7)) ρ2 = .ok false := fB_of (f2_of (t := .pv (endsP w tr)) (u := .pv (endsP w tr)) (by subst hρ; rfl) (by subst hρ; rfl) (gNe_same (depth_ends w tr)))
          have c3 : fB (f2 gNe (fCall fn_ends_of (aCons (fVar 3) (aCons (fVar 5) aNil))) (fVar 7)) ρ2 = .ok false := fB_of (f2_of (t := .pv (endsP w tr)) (u := .pv (endsP w tr)) (fCall_of (ts := [.pv (enWeb w), .pv (trP tr)]) (by subst hρ; rfl) ee) (by subst hρ; rfl) (gNe_same (depth_ends w tr)))
          have cc : fOrT (fNotT (fB (fIsi "tuple" (fVar 9)))) (fOrT (fB (f2 gNe (fVar 9) (fVar 7))) (fB (f2 gNe (fCall fn_ends_of (aCons (fVar 3) (aCons (fVar 5) aNil))) (fVar 7)))) ρ2 = .ok false := by
            rw [fOrT_ap, c1, R.bind_ok, if_neg (by decide), fOrT_ap, c2, R.bind_ok, if_neg (by decide), c3]
          subst hρ
          exact rn_if (b := false) cc (fun h => by cases h) fun _ => rn_nx ⟨y2, s, .ow (.pv (trP tr)), .ow (dL w.nm (adjs (fun _ => []) (tr.map (en w)))), .ow (.pv (endsP w tr)), s8, .ow (.pv (endsP w tr)), rfl⟩
        · rintro ρ ⟨y, s4, s5, s6, s7, s8, s9, rfl⟩
          exact ⟨_, _, _, _, _, _, _, _, _, rfl⟩
    · rintro ρ ⟨s1, s2, s3, s4, s5, s6, s7, s8, s9, rfl⟩
      exact rn_ret (t := .pv (.bl true)) rfl rfl)
  exact ⟨ρ', by rw [fn_law, e, e1]⟩
end LW
open PySem PySem.W PySem.Calls PyProof.Rows
theorem PySem.Challenge.cw_treerounds_k71_ends_of_trees_holds : PySem.Challenge.rw_treerounds_k71_ends_of_trees.Holds := by
  w_on; o_law
  refine HandSHeadRun.head_any (r := OpenLaw.row PySem.Challenge.rw_treerounds_k71_ends_of_trees) (q := view (OpenLaw.row PySem.Challenge.rw_treerounds_k71_ends_of_trees).prog [19]) (H := LW.hk) (ob := LW.ob) (M := 40000) (loose := LW.loose) (d := HandSHeadRun.topDef (OpenLaw.row PySem.Challenge.rw_treerounds_k71_ends_of_trees).prog 19) (kwd := []) LW.ob_eq
    (by kernel_rfl) (fun s => by kernel_rfl) LW.run (by kernel_rfl) (by kernel_rfl) (by kernel_rfl) (by rfl) (by first | assumption | decide +kernel) (by decide +kernel) ⟨rfl, rfl, rfl, rfl, rfl, by decide +kernel⟩ ?hw ?hc
  case hw => w_witness2
  case hc =>
    refine TR.walk_w (l := PySem.Challenge.rw_treerounds_k71_ends_of_trees) (n := 63) (k := 4) (x := "script") rfl (by decide) (by kernel_rfl) ⟨rfl, by decide, by decide⟩ ?F
    intro w mg fa h Y G hmg0
    obtain ⟨K, KX, c⟩ := Y
    have hmg : mg ("law" : PySem.Str) = some (.ref fa) := by
      have e : (HandSHeadRun.topDef (OpenLaw.row PySem.Challenge.rw_treerounds_k71_ends_of_trees).prog 19).name = ("law" : PySem.Str) := by kernel_rfl
      rw [← e]
      exact hmg0
    obtain ⟨fd, hb, hF⟩ := LW.facts (P := (PySem.Challenge.rw_treerounds_k71_ends_of_trees).prog) (w := w) KX G hmg c
    exact ⟨K, fd, TR.spF K mg LW.fn_law, KX, hb, fun H a ns hl ho hS => TR.law_sp LW.law_ok H a ns hl ho hS, hF⟩
