import PyProof.Rows.All
import Wide.All
import OpenK.AllK
import Wide.FinOn
import HandS.ForMost
import HandS.ForExc
import HandS.TupAny
import HandS.TupLe
import HandS.Wide
import HandS.Text
import HandS.Zip
import HandS.Conv
import HandS.TupLen
import HandS.Steps
import HandS.IsInst
import KE.DataEq
import KE.DataCmp
import KE.SortData
import KE.DataMinMax
import KE.DataFind
import HandS.More
import HandS.Style
import HandS.SetFor
import HandS.Deep
import HandS.Set
import HandS.Head0
import HandS.Head1
import HandS.Head2
import HandS.HeadEnd
import HandS.HeadHook1
import HandS.HeadHook2
import HandS.HeadNt
import HandS.Defaults
import PySem.Challenge.RW_treerounds_k48_even_webs
set_option Elab.async false
set_option linter.all false
set_option maxRecDepth 100000
set_option maxHeartbeats 0
namespace TR
open PySem PySem.Spec PyProof.Rows L2
theorem nr {α : Sort u} {a b : α} (h : a = b) : a = b := h
inductive P where
  | non | bl (b : Bool) | int (i : Int) | str (x : Str) | tup (ps : List P)
mutual
def P.dec : (p q : P) → Decidable (p = q)
  | .non, .non => Decidable.isTrue rfl
  | .bl a, .bl b => if h : a = b then Decidable.isTrue (by rw [h]) else Decidable.isFalse fun e => h (by injection e)
  | .int a, .int b => if h : a = b then Decidable.isTrue (by rw [h]) else Decidable.isFalse fun e => h (by injection e)
  | .str a, .str b => if h : a = b then Decidable.isTrue (by rw [h]) else Decidable.isFalse fun e => h (by injection e)
  | .tup a, .tup b => match P.decs a b with
    | Decidable.isTrue h => Decidable.isTrue (by rw [h])
    | Decidable.isFalse h => Decidable.isFalse fun e => h (by injection e)
  | .non, .bl _ => Decidable.isFalse fun e => nomatch e
  | .non, .int _ => Decidable.isFalse fun e => nomatch e
  | .non, .str _ => Decidable.isFalse fun e => nomatch e
  | .non, .tup _ => Decidable.isFalse fun e => nomatch e
  | .bl _, .non => Decidable.isFalse fun e => nomatch e
  | .bl _, .int _ => Decidable.isFalse fun e => nomatch e
  | .bl _, .str _ => Decidable.isFalse fun e => nomatch e
  | .bl _, .tup _ => Decidable.isFalse fun e => nomatch e
  | .int _, .non => Decidable.isFalse fun e => nomatch e
  | .int _, .bl _ => Decidable.isFalse fun e => nomatch e
  | .int _, .str _ => Decidable.isFalse fun e => nomatch e
  | .int _, .tup _ => Decidable.isFalse fun e => nomatch e
  | .str _, .non => Decidable.isFalse fun e => nomatch e
  | .str _, .bl _ => Decidable.isFalse fun e => nomatch e
  | .str _, .int _ => Decidable.isFalse fun e => nomatch e
  | .str _, .tup _ => Decidable.isFalse fun e => nomatch e
  | .tup _, .non => Decidable.isFalse fun e => nomatch e
  | .tup _, .bl _ => Decidable.isFalse fun e => nomatch e
  | .tup _, .int _ => Decidable.isFalse fun e => nomatch e
  | .tup _, .str _ => Decidable.isFalse fun e => nomatch e
def P.decs : (p q : List P) → Decidable (p = q)
  | [], [] => Decidable.isTrue rfl
  | [], _ :: _ => Decidable.isFalse fun e => nomatch e
  | _ :: _, [] => Decidable.isFalse fun e => nomatch e
  | a :: p, b :: q => match P.dec a b with
    | Decidable.isFalse h => Decidable.isFalse fun e => h (by injection e)
    | Decidable.isTrue h => match P.decs p q with
      | Decidable.isFalse h2 => Decidable.isFalse fun e => h2 (by injection e)
      | Decidable.isTrue h2 => Decidable.isTrue (by rw [h, h2])
end
instance : DecidableEq P := P.dec
inductive T where
  | pv (p : P) | tup (ts : List T) | lst (ts : List T) | fls (ts : List T) | dct (tk : Bool) (ks : List P) (ts : List T)
inductive Sl where
  | no | ow (t : T) | vw (t : T)
abbrev Env := List Sl
structure Exn where
  c : Str
  fs : List (Str × P)
inductive R (ε α : Type) where
  | ok (a : α) | exc (e : Exn) (r : ε) | bad
def R.bind {ε α β : Type} (x : R ε α) (f : α → R ε β) : R ε β := match x with
  | .ok a => f a
  | .exc e r => .exc e r
  | .bad => .bad
def R.of {ε α : Type} : Option α → R ε α
  | some a => .ok a
  | none => .bad
@[simp] theorem R.bind_ok {ε α β : Type} (a : α) (f : α → R ε β) : (R.ok a : R ε α).bind f = f a := nr rfl
@[simp] theorem R.bind_exc {ε α β : Type} (e : Exn) (r : ε) (f : α → R ε β) : (R.exc e r : R ε α).bind f = .exc e r := nr rfl
@[simp] theorem R.bind_bad {ε α β : Type} (f : α → R ε β) : (R.bad : R ε α).bind f = .bad := nr rfl
@[simp] theorem R.of_some {ε α : Type} (a : α) : (R.of (some a) : R ε α) = .ok a := nr rfl
@[simp] theorem R.of_none {ε α : Type} : (R.of (none : Option α) : R ε α) = .bad := nr rfl
abbrev Fp := Addr → Prop
abbrev Sub (A B : Fp) : Prop := ∀ a, A a → B a
abbrev Disj (A B : Fp) : Prop := ∀ a, A a → B a → False
abbrev Al (H : Hp) (A : Fp) : Prop := ∀ a, A a → H a ≠ none
abbrev Fresh (H : Hp) (A : Fp) : Prop := ∀ a, A a → H a = none
abbrev top : Fp := fun _ => True
abbrev emp : Fp := fun _ => False
abbrev un (A B : Fp) : Fp := fun a => A a ∨ B a
abbrev Ext (H H' : Hp) : Prop := ∀ b o, H b = some o → H' b = some o
theorem Ext.refl (H : Hp) : Ext H H := fun _ _ h => h
theorem Ext.trans {H H1 H2 : Hp} (a : Ext H H1) (b : Ext H1 H2) : Ext H H2 := fun x o h => b x o (a x o h)
theorem Ext.new {H : Hp} {p : Addr} {o : HO} (h : H p = none) : Ext H (upd H p o) := fun a u e => by
  rw [upd_ne (ne_of_none e h)]; exact e
theorem Ext.fresh {H H' : Hp} (e : Ext H H') {p : Addr} (h : H' p = none) : H p = none := by
  cases q : H p with
  | none => rfl
  | some o => rw [e p o q] at h; cases h
theorem Ext.al {H H' : Hp} {A : Fp} (e : Ext H H') (h : Al H A) : Al H' A := fun a ha q => h a ha (e.fresh q)
structure Step (H : Hp) (A : Fp) (H' : Hp) (A' : Fp) : Prop where
  keep : ∀ b o, H b = some o → (A b → ¬ Mut (some o)) → H' b = some o
  dom : ∀ b, H b ≠ none → H' b ≠ none
  sub : ∀ b, A' b → A b ∨ H b = none
theorem Ext.dom {H H' : Hp} (e : Ext H H') : ∀ b, H b ≠ none → H' b ≠ none := fun b h q => h (e.fresh q)
theorem Step.refl (H : Hp) (A : Fp) : Step H A H A := ⟨fun _ _ h _ => h, fun _ h => h, fun _ h => .inl h⟩
theorem Step.ext {H H' : Hp} {A B : Fp} (e : Ext H H') (f : Fresh H B) : Step H A H' (un A B) :=
  ⟨fun b o h _ => e b o h, e.dom, fun b h => h.elim .inl fun z => .inr (f b z)⟩
theorem Step.ext0 {H H' : Hp} {A : Fp} (e : Ext H H') : Step H A H' A := ⟨fun b o h _ => e b o h, e.dom, fun b h => .inl h⟩
theorem Step.trans {H H1 H2 : Hp} {A A1 A2 : Fp} (a : Step H A H1 A1) (b : Step H1 A1 H2 A2) : Step H A H2 A2 := by
  refine ⟨fun x o h n => ?_, fun x h => b.dom x (a.dom x h), fun x h => ?_⟩
  · refine b.keep x o (a.keep x o h n) fun h1 => ?_
    rcases a.sub x h1 with z | z
    · exact n z
    · rw [z] at h; cases h
  · rcases b.sub x h with z | z
    · exact a.sub x z
    · right
      cases q : H x with
      | none => rfl
      | some o => exact absurd z (a.dom x (by rw [q]; intro c; cases c))
theorem Step.al {H H' : Hp} {A A' B : Fp} (s : Step H A H' A') (h : Al H B) : Al H' B := fun a ha => s.dom a (h a ha)
theorem Step.mono {H H' : Hp} {A A' B : Fp} (s : Step H A H' A') (h : Sub B A') : Step H A H' B := ⟨s.keep, s.dom, fun b hb => s.sub b (h b hb)⟩
theorem Step.wide {H H' : Hp} {A A' C : Fp} (s : Step H A H' A') : Step H (un A C) H' (un A' C) :=
  ⟨fun b o h n => s.keep b o h fun z => n (.inl z), s.dom, fun b h => h.elim (fun z => (s.sub b z).imp .inl id) fun z => .inl (.inr z)⟩
theorem Step.disj {H H' : Hp} {A A' C : Fp} (s : Step H A H' A') (h : Disj C A) (al : Al H C) : Disj C A' := fun a hc ha => by
  rcases s.sub a ha with z | z
  · exact h a hc z
  · exact al a hc z
structure Kp (C Z : Fp) (H H' : Hp) : Prop where
  tk : ∀ b xs, H b = some (.tup xs) → H' b = some (.tup xs)
  fk : ∀ b o u, H b = some (.frz o u) → H' b = some (.frz o u)
  own : ∀ b o, C b → H b = some o → H' b = some o
  st : ∀ b o, Z b → H b = some o → H' b = some o
theorem Kp.refl {C Z : Fp} {H : Hp} : Kp C Z H H := ⟨fun _ _ h => h, fun _ _ _ h => h, fun _ _ _ h => h, fun _ _ _ h => h⟩
theorem Ext.kp {C Z : Fp} {H H' : Hp} (e : Ext H H') : Kp C Z H H' := ⟨fun b _ h => e b _ h, fun b _ _ h => e b _ h, fun b _ _ h => e b _ h, fun b _ _ h => e b _ h⟩
theorem Step.kp {C Z : Fp} {H H' : Hp} {A A' : Fp} (s : Step H A H' A') (hc : Disj C A) (hz : Disj Z A) : Kp C Z H H' :=
  ⟨fun b _ h => s.keep b _ h fun _ m => m, fun b _ _ h => s.keep b _ h fun _ m => m, fun b _ hb h => s.keep b _ h fun ha => (hc b hb ha).elim, fun b _ hb h => s.keep b _ h fun ha => (hz b hb ha).elim⟩
theorem Kp.mono {C Z C' Z' : Fp} {H H' : Hp} (k : Kp C Z H H') (h : Sub C' C) (h2 : Sub Z' Z) : Kp C' Z' H H' := ⟨k.tk, k.fk, fun b o hb => k.own b o (h b hb), fun b o hb => k.st b o (h2 b hb)⟩
def keyP : Key → P
  | .inl i => .int i
  | .inr x => .str x
mutual
def RepP (H : Hp) : P → V → Prop
  | .non, v => v = .non
  | .bl b, v => v = .bl b
  | .int i, v => v = .int i
  | .str x, v => v = .str x
  | .tup ps, v => ∃ a xs, v = .ref a ∧ H a = some (.tup xs) ∧ RepPs H ps xs
def RepPs (H : Hp) : List P → List V → Prop
  | [], xs => xs = []
  | p :: ps, xs => ∃ x r, xs = x :: r ∧ RepP H p x ∧ RepPs H ps r
end
def DctAt (tk : Bool) (rd : Addr → HO → Prop) (a : Addr) (ks : List P) (xs : List V) : Prop := ks.Nodup ∧ match tk with
  | false => ∃ kv : List (Key × V), rd a (.dK kv) ∧ ks = kv.map (fun e => keyP e.1) ∧ xs = kv.map (·.2)
  | true => ∃ kv : List (List Key × V), rd a (.dT kv) ∧ ks = kv.map (fun e => P.tup (e.1.map keyP)) ∧ xs = kv.map (·.2)
abbrev IsA (H : Hp) : Addr → HO → Prop := fun a o => H a = some o
mutual
def Rep (H : Hp) : T → V → Fp → Prop
  | .pv p, v, _ => RepP H p v
  | .tup ts, v, A => ∃ a xs, v = .ref a ∧ H a = some (.tup xs) ∧ Reps H ts xs A
  | .lst ts, v, A => ∃ a xs, v = .ref a ∧ H a = some (.lst xs) ∧ A a ∧ Reps H ts xs (fun b => A b ∧ b ≠ a)
  | .fls ts, v, A => ∃ a xs, v = .ref a ∧ (∃ o, H a = some (.frz o (.lst xs))) ∧ Reps H ts xs A
  | .dct tk ks ts, v, A => ∃ a xs, v = .ref a ∧ DctAt tk (IsA H) a ks xs ∧ A a ∧ Reps H ts xs (fun b => A b ∧ b ≠ a)
def Reps (H : Hp) : List T → List V → Fp → Prop
  | [], xs, _ => xs = []
  | t :: ts, xs, A => ∃ x r B C, xs = x :: r ∧ Rep H t x B ∧ Reps H ts r C ∧ Sub B A ∧ Sub C A ∧ Disj B C
end
def RdL (K : PySem.W.Frag) (Z : Fp) (H : Hp) (a : Addr) (xs : List V) : Prop := H a = some (.lst xs) ∧ Z a
def KL (K : PySem.W.Frag) (a : Addr) (xs : List V) : Prop := ∃ (o : Obj) (its : Array Value) (n : Nat), K.lookup a = some o ∧ o.cls = .type "list" ∧ o.dict = none ∧ o.data = .seq its n ∧ its.size ≤ sizeLine ∧ Vals xs its.toList
def FrL (K : PySem.W.Frag) (H : Hp) (a : Addr) (xs : List V) : Prop := (∃ o, H a = some (.frz o (.lst xs))) ∨ KL K a xs
mutual
def Vw (K : PySem.W.Frag) (Z : Fp) (H : Hp) : T → V → Prop
  | .pv p, v => RepP H p v
  | .tup ts, v => ∃ a xs, v = .ref a ∧ H a = some (.tup xs) ∧ Vws K Z H ts xs
  | .lst ts, v => ∃ a xs, v = .ref a ∧ RdL K Z H a xs ∧ Vws K Z H ts xs
  | .fls ts, v => ∃ a xs, v = .ref a ∧ FrL K H a xs ∧ Vws K Z H ts xs
  | .dct tk ks ts, v => ∃ a xs, v = .ref a ∧ DctAt tk (fun a o => (H a = some o ∧ Z a) ∨ ∃ ob, H a = some (.frz ob o)) a ks xs ∧ Vws K Z H ts xs
def Vws (K : PySem.W.Frag) (Z : Fp) (H : Hp) : List T → List V → Prop
  | [], xs => xs = []
  | t :: ts, xs => ∃ x r, xs = x :: r ∧ Vw K Z H t x ∧ Vws K Z H ts r
end
section
variable {K : PySem.W.Frag} {H H' : Hp}
mutual
theorem RepP.kp (tk : ∀ b xs, H b = some (.tup xs) → H' b = some (.tup xs)) : ∀ (p : P) (v : V), RepP H p v → RepP H' p v
  | .non, _, h => h
  | .bl _, _, h => h
  | .int _, _, h => h
  | .str _, _, h => h
  | .tup ps, _, h => by
    obtain ⟨a, xs, e, q, r⟩ := h
    exact ⟨a, xs, e, tk _ _ q, RepPs.kp tk ps xs r⟩
theorem RepPs.kp (tk : ∀ b xs, H b = some (.tup xs) → H' b = some (.tup xs)) : ∀ (ps : List P) (xs : List V), RepPs H ps xs → RepPs H' ps xs
  | [], _, h => h
  | p :: ps, _, h => by
    obtain ⟨x, r, e, h1, h2⟩ := h
    exact ⟨x, r, e, RepP.kp tk p x h1, RepPs.kp tk ps r h2⟩
end
theorem DctAt.imp {tk : Bool} {rd rd' : Addr → HO → Prop} {a : Addr} {ks : List P} {xs : List V} (h : ∀ o, rd a o → rd' a o) (d : DctAt tk rd a ks xs) : DctAt tk rd' a ks xs := by
  cases tk with
  | false =>
    obtain ⟨n, kv, h1, h2⟩ := d
    exact ⟨n, kv, h _ h1, h2⟩
  | true =>
    obtain ⟨n, kv, h1, h2⟩ := d
    exact ⟨n, kv, h _ h1, h2⟩
mutual
theorem Rep.mono {A B : Fp} (s : Sub A B) : ∀ (t : T) (v : V), Rep H t v A → Rep H t v B
  | .pv _, _, h => h
  | .tup ts, _, h => by
    obtain ⟨a, xs, e, q, r⟩ := h
    exact ⟨a, xs, e, q, Reps.mono s ts xs r⟩
  | .lst ts, _, h => by
    obtain ⟨a, xs, e, q, m, r⟩ := h
    exact ⟨a, xs, e, q, s a m, Reps.mono (fun b hb => ⟨s b hb.1, hb.2⟩) ts xs r⟩
  | .fls ts, _, h => by
    obtain ⟨a, xs, e, q, r⟩ := h
    exact ⟨a, xs, e, q, Reps.mono s ts xs r⟩
  | .dct tk ks ts, _, h => by
    obtain ⟨a, xs, e, q, m, r⟩ := h
    exact ⟨a, xs, e, q, s a m, Reps.mono (fun b hb => ⟨s b hb.1, hb.2⟩) ts xs r⟩
theorem Reps.mono {A B : Fp} (s : Sub A B) : ∀ (ts : List T) (xs : List V), Reps H ts xs A → Reps H ts xs B
  | [], _, h => h
  | _ :: _, _, h => by
    obtain ⟨x, r, C, D, e, h1, h2, s1, s2, d⟩ := h
    exact ⟨x, r, C, D, e, h1, h2, fun a ha => s a (s1 a ha), fun a ha => s a (s2 a ha), d⟩
end
mutual
theorem Rep.kp {A Z : Fp} (k : Kp A Z H H') : ∀ (t : T) (v : V), Rep H t v A → Rep H' t v A
  | .pv p, v, h => RepP.kp k.tk p v h
  | .tup ts, _, h => by
    obtain ⟨a, xs, e, q, r⟩ := h
    exact ⟨a, xs, e, k.tk _ _ q, Reps.kp k ts xs r⟩
  | .lst ts, _, h => by
    obtain ⟨a, xs, e, q, m, r⟩ := h
    exact ⟨a, xs, e, k.own _ _ m q, m, Reps.kp (k.mono (fun b hb => hb.1) fun _ h => h) ts xs r⟩
  | .fls ts, _, h => by
    obtain ⟨a, xs, e, ⟨o, q⟩, r⟩ := h
    exact ⟨a, xs, e, ⟨o, k.fk _ _ _ q⟩, Reps.kp k ts xs r⟩
  | .dct tk ks ts, _, h => by
    obtain ⟨a, xs, e, q, m, r⟩ := h
    exact ⟨a, xs, e, q.imp fun o h => k.own _ _ m h, m, Reps.kp (k.mono (fun b hb => hb.1) fun _ h => h) ts xs r⟩
theorem Reps.kp {A Z : Fp} (k : Kp A Z H H') : ∀ (ts : List T) (xs : List V), Reps H ts xs A → Reps H' ts xs A
  | [], _, h => h
  | t :: ts, _, h => by
    obtain ⟨x, r, C, D, e, h1, h2, s1, s2, d⟩ := h
    exact ⟨x, r, C, D, e, Rep.kp (k.mono s1 fun _ h => h) t x h1, Reps.kp (k.mono s2 fun _ h => h) ts r h2, s1, s2, d⟩
end
theorem RdL.kp {C Z : Fp} (k : Kp C Z H H') {a : Addr} {xs : List V} (h : RdL K Z H a xs) : RdL K Z H' a xs := ⟨k.st _ _ h.2 h.1, h.2⟩
theorem FrL.kp {C Z : Fp} (k : Kp C Z H H') {a : Addr} {xs : List V} (h : FrL K H a xs) : FrL K H' a xs := h.imp (fun ⟨o, q⟩ => ⟨o, k.fk _ _ _ q⟩) id
theorem RdL.mono {Z Z' : Fp} (s : Sub Z Z') {a : Addr} {xs : List V} (h : RdL K Z H a xs) : RdL K Z' H a xs := ⟨h.1, s _ h.2⟩
mutual
theorem Vw.kp {C Z : Fp} (k : Kp C Z H H') : ∀ (t : T) (v : V), Vw K Z H t v → Vw K Z H' t v
  | .pv p, v, h => RepP.kp k.tk p v h
  | .tup ts, _, h => by
    obtain ⟨a, xs, e, q, r⟩ := h
    exact ⟨a, xs, e, k.tk _ _ q, Vws.kp k ts xs r⟩
  | .lst ts, _, h => by
    obtain ⟨a, xs, e, q, r⟩ := h
    exact ⟨a, xs, e, q.kp k, Vws.kp k ts xs r⟩
  | .fls ts, _, h => by
    obtain ⟨a, xs, e, q, r⟩ := h
    exact ⟨a, xs, e, q.kp k, Vws.kp k ts xs r⟩
  | .dct tk ks ts, _, h => by
    obtain ⟨a, xs, e, q, r⟩ := h
    exact ⟨a, xs, e, q.imp fun o h => h.imp (fun z => ⟨k.st _ _ z.2 z.1, z.2⟩) fun ⟨ob, z⟩ => ⟨ob, k.fk _ _ _ z⟩, Vws.kp k ts xs r⟩
theorem Vws.kp {C Z : Fp} (k : Kp C Z H H') : ∀ (ts : List T) (xs : List V), Vws K Z H ts xs → Vws K Z H' ts xs
  | [], _, h => h
  | t :: ts, _, h => by
    obtain ⟨x, r, e, h1, h2⟩ := h
    exact ⟨x, r, e, Vw.kp k t x h1, Vws.kp k ts r h2⟩
end
mutual
theorem Vw.mono {Z Z' : Fp} (s : Sub Z Z') : ∀ (t : T) (v : V), Vw K Z H t v → Vw K Z' H t v
  | .pv p, v, h => h
  | .tup ts, _, h => by
    obtain ⟨a, xs, e, q, r⟩ := h
    exact ⟨a, xs, e, q, Vws.mono s ts xs r⟩
  | .lst ts, _, h => by
    obtain ⟨a, xs, e, q, r⟩ := h
    exact ⟨a, xs, e, q.mono s, Vws.mono s ts xs r⟩
  | .fls ts, _, h => by
    obtain ⟨a, xs, e, q, r⟩ := h
    exact ⟨a, xs, e, q, Vws.mono s ts xs r⟩
  | .dct tk ks ts, _, h => by
    obtain ⟨a, xs, e, q, r⟩ := h
    exact ⟨a, xs, e, q.imp fun o h => h.imp (fun z => ⟨z.1, s _ z.2⟩) id, Vws.mono s ts xs r⟩
theorem Vws.mono {Z Z' : Fp} (s : Sub Z Z') : ∀ (ts : List T) (xs : List V), Vws K Z H ts xs → Vws K Z' H ts xs
  | [], _, h => h
  | t :: ts, _, h => by
    obtain ⟨x, r, e, h1, h2⟩ := h
    exact ⟨x, r, e, Vw.mono s t x h1, Vws.mono s ts r h2⟩
end
mutual
theorem Rep.vw {A Z : Fp} (s : Sub A Z) : ∀ (t : T) (v : V), Rep H t v A → Vw K Z H t v
  | .pv p, v, h => h
  | .tup ts, _, h => by
    obtain ⟨a, xs, e, q, r⟩ := h
    exact ⟨a, xs, e, q, Reps.vw s ts xs r⟩
  | .lst ts, _, h => by
    obtain ⟨a, xs, e, q, m, r⟩ := h
    exact ⟨a, xs, e, ⟨q, s a m⟩, Reps.vw (fun b hb => s b hb.1) ts xs r⟩
  | .fls ts, _, h => by
    obtain ⟨a, xs, e, q, r⟩ := h
    exact ⟨a, xs, e, .inl q, Reps.vw s ts xs r⟩
  | .dct tk ks ts, _, h => by
    obtain ⟨a, xs, e, q, m, r⟩ := h
    exact ⟨a, xs, e, q.imp fun o h => .inl ⟨h, s a m⟩, Reps.vw (fun b hb => s b hb.1) ts xs r⟩
theorem Reps.vw {A Z : Fp} (s : Sub A Z) : ∀ (ts : List T) (xs : List V), Reps H ts xs A → Vws K Z H ts xs
  | [], _, h => h
  | t :: ts, _, h => by
    obtain ⟨x, r, B, C, e, h1, h2, s1, s2, d⟩ := h
    exact ⟨x, r, e, Rep.vw (fun a ha => s a (s1 a ha)) t x h1, Reps.vw (fun a ha => s a (s2 a ha)) ts r h2⟩
end
def SlRep (K : PySem.W.Frag) (Z : Fp) (H : Hp) (o : Option V) : Sl → Fp → Prop
  | .no, _ => True
  | .ow t, A => ∃ v, o = some v ∧ Rep H t v A
  | .vw t, _ => ∃ v, o = some v ∧ Vw K Z H t v
def EnvRep (K : PySem.W.Frag) (Z : Fp) (H : Hp) : List (Option V) → Env → Fp → Prop
  | [], [], _ => True
  | o :: σ, s :: ρ, A => ∃ B C, SlRep K Z H o s B ∧ EnvRep K Z H σ ρ C ∧ Sub B A ∧ Sub C A ∧ Disj B C
  | _, _, _ => False
theorem SlRep.kp {C Z : Fp} (k : Kp C Z H H') {o : Option V} {s : Sl} (h : SlRep K Z H o s C) : SlRep K Z H' o s C := by
  cases s with
  | no => trivial
  | ow t => obtain ⟨v, e, r⟩ := h; exact ⟨v, e, Rep.kp k t v r⟩
  | vw t => obtain ⟨v, e, r⟩ := h; exact ⟨v, e, Vw.kp k t v r⟩
theorem SlRep.mono {A B Z Z' : Fp} (s : Sub A B) (z : Sub Z Z') {o : Option V} {x : Sl} (h : SlRep K Z H o x A) : SlRep K Z' H o x B := by
  cases x with
  | no => trivial
  | ow t => obtain ⟨v, e, r⟩ := h; exact ⟨v, e, Rep.mono s t v r⟩
  | vw t => obtain ⟨v, e, r⟩ := h; exact ⟨v, e, Vw.mono z t v r⟩
theorem EnvRep.kp {Z : Fp} : ∀ {σ : List (Option V)} {ρ : Env} {A : Fp}, Kp A Z H H' → EnvRep K Z H σ ρ A → EnvRep K Z H' σ ρ A
  | [], [], _, _, _ => trivial
  | o :: σ, s :: ρ, A, k, h => by
    obtain ⟨B, C, h1, h2, s1, s2, d⟩ := h
    exact ⟨B, C, h1.kp (k.mono s1 fun _ h => h), EnvRep.kp (k.mono s2 fun _ h => h) h2, s1, s2, d⟩
  | [], _ :: _, _, _, h => h.elim
  | _ :: _, [], _, _, h => h.elim
theorem EnvRep.mono {Z Z' : Fp} (z : Sub Z Z') : ∀ {σ : List (Option V)} {ρ : Env} {A B : Fp}, Sub A B → EnvRep K Z H σ ρ A → EnvRep K Z' H σ ρ B
  | [], [], _, _, _, _ => trivial
  | o :: σ, s :: ρ, A, B', s', h => by
    obtain ⟨B, C, h1, h2, s1, s2, d⟩ := h
    exact ⟨B, C, h1.mono (fun _ h => h) z, h2.mono z (fun _ h => h), fun a ha => s' a (s1 a ha), fun a ha => s' a (s2 a ha), d⟩
  | [], _ :: _, _, _, _, h => h.elim
  | _ :: _, [], _, _, _, h => h.elim
theorem EnvRep.len {Z : Fp} : ∀ {σ : List (Option V)} {ρ : Env} {A : Fp}, EnvRep K Z H σ ρ A → σ.length = ρ.length
  | [], [], _, _ => rfl
  | o :: σ, s :: ρ, A, h => by
    obtain ⟨B, C, h1, h2, s1, s2, d⟩ := h
    simp [h2.len]
  | [], _ :: _, _, h => h.elim
  | _ :: _, [], _, h => h.elim
theorem EnvRep.at {Z : Fp} : ∀ {σ : List (Option V)} {ρ : Env} {A : Fp} {i : Nat} {s : Sl}, EnvRep K Z H σ ρ A → ρ[i]? = some s →
    ∃ o B C, σ[i]? = some o ∧ SlRep K Z H o s B ∧ Sub B A ∧ Sub C A ∧ Disj B C ∧
      ∀ (H' : Hp) (Z' : Fp), Kp C Z H H' → Sub Z Z' → ∀ (o' : Option V) (s' : Sl) (D : Fp), SlRep K Z' H' o' s' D → Disj D C → EnvRep K Z' H' (σ.set i o') (ρ.set i s') (un D C)
  | [], [], _, _, _, _, e => by simp at e
  | o :: σ, s :: ρ, A, 0, s0, h, e => by
    obtain ⟨B, C, h1, h2, s1, s2, d⟩ := h
    obtain rfl : s = s0 := by simpa using e
    refine ⟨o, B, C, rfl, h1, s1, s2, d, fun H' Z' k z o' s' D hD dD => ⟨D, C, hD, (EnvRep.kp k h2).mono z fun _ h => h, fun _ h => .inl h, fun _ h => .inr h, dD⟩⟩
  | o :: σ, s :: ρ, A, i + 1, s0, h, e => by
    obtain ⟨B, C, h1, h2, s1, s2, d⟩ := h
    obtain ⟨oi, Bi, Ci, e1, r1, sb, sc, di, put⟩ := EnvRep.at (i := i) h2 (by simpa using e)
    refine ⟨oi, Bi, un B Ci, by simpa using e1, r1, fun a ha => s2 a (sb a ha), fun a ha => ha.elim (s1 a) fun z => s2 a (sc a z), fun a h1 h2 => h2.elim (fun z => d a z (sb a h1)) (di a h1), ?_⟩
    intro H' Z' k z o' s' D hD dD
    refine ⟨B, un D Ci, (h1.kp (k.mono (fun _ h => .inl h) fun _ h => h)).mono (fun _ h => h) z, put H' Z' (k.mono (fun _ h => .inr h) fun _ h => h) z o' s' D hD fun a h1 h2 => dD a h1 (.inr h2), fun a ha => .inr (.inl ha), fun a ha => ha.elim .inl fun z => .inr (.inr z), ?_⟩
    intro a hb hdc
    rcases hdc with q | q
    · exact dD a q (.inl hb)
    · exact d a hb (sc a q)
  | [], _ :: _, _, _, _, h, _ => h.elim
  | _ :: _, [], _, _, _, h, _ => h.elim
end
structure Good (K : PySem.W.Frag) (Z : Fp) (H : Hp) (σ : L2.St) (ρ : Env) (A : Fp) : Prop where
  env : EnvRep K Z H σ ρ A
  dis : Disj Z A
  alZ : Al H Z
  alA : Al H A
section
variable {K : PySem.W.Frag} {Z A : Fp} {H H' : Hp} {σ : L2.St} {ρ : Env}
theorem Good.ext (g : Good K Z H σ ρ A) (e : Ext H H') : Good K Z H' σ ρ A := ⟨g.env.kp e.kp, g.dis, e.al g.alZ, e.al g.alA⟩
end
end TR
namespace TR
open PySem PySem.Spec PyProof.Rows L2
abbrev Stt := List (Option V)
def ExcRep (mg : Str → Option Value) (H : Hp) (e : Exn) (cls : Value) (d : Option Addr) : Prop :=
  mg e.c = some cls ∧ match e.fs with
    | [] => d = none
    | fs => ∃ dd vs, d = some dd ∧ H dd = some (.xd ((fs.map (·.1)).zip vs)) ∧ RepPs H (fs.map (·.2)) vs
inductive Md where | e | z | o
def ResM (K : PySem.W.Frag) (Z : Fp) (H : Hp) : Md → Hp → T → V → Prop
  | .e, H', t, v => Vw K top H' t v
  | .z, H', t, v => Vw K Z H' t v
  | .o, H', t, v => ∃ B, Rep H' t v B ∧ Fresh H B ∧ Al H' B
inductive AV where
  | late (i : Nat) | val (t : T)
def AvRep (σ : Stt) (H : Hp) : AV → V → Fp → Prop
  | .late i, v, _ => σ[i]? = some (some v)
  | .val t, v, B => Rep H t v B
def Sl.t? : Sl → Option T
  | .no => none
  | .ow t => some t
  | .vw t => some t
def AV.see (ρ : Env) : AV → Option T
  | .late i => (ρ[i]?).bind Sl.t?
  | .val t => some t
section
variable (K : PySem.W.Frag) (mg : Str → Option Value) (W : WX)
def FQ (m : Md) (f : Env → R Unit T) : TE := fun σ H Q => ∃ ρ Z A, Good K Z H σ ρ A ∧ match f ρ with
  | .ok t => ∀ v H', Ext H H' → ResM K Z H m H' t v → Q v H'
  | .exc e _ => ∀ cls d H', Ext H H' → ExcRep mg H' e cls d → W cls d σ H'
  | .bad => False
def FQT (f : Env → R Unit Bool) : TT := fun σ H Q => ∃ ρ Z A, Good K Z H σ ρ A ∧ match f ρ with
  | .ok b => ∀ H', Ext H H' → Q b H'
  | .exc e _ => ∀ cls d H', Ext H H' → ExcRep mg H' e cls d → W cls d σ H'
  | .bad => False
def FQA (f : Env → R Unit (List T)) : TA := fun σ H Q => ∃ ρ Z A, Good K Z H σ ρ A ∧ match f ρ with
  | .ok ts => ∀ vs H', Ext H H' → Vws K top H' ts vs → Q vs H'
  | .exc e _ => ∀ cls d H', Ext H H' → ExcRep mg H' e cls d → W cls d σ H'
  | .bad => False
def FOA (f : Env → R Unit (List T)) : TA := fun σ H Q => ∃ ρ Z A, Good K Z H σ ρ A ∧ match f ρ with
  | .ok ts => ∀ vs H' B, Ext H H' → Reps H' ts vs B → Fresh H B → Al H' B → Q vs H'
  | .exc e _ => ∀ cls d H', Ext H H' → ExcRep mg H' e cls d → W cls d σ H'
  | .bad => False
def FS (f : Env → R Env (AV × Env)) : TE := fun σ H Q => ∃ ρ Z A, Good K Z H σ ρ A ∧ match f ρ with
  | .ok (av, ρ') => ∀ v H' A' B, Good K Z H' σ ρ' A' → AvRep σ H' av v B → Disj B A' → Al H' B → Step H A H' (un A' B) → Q v H'
  | .exc e ρ' => ∀ cls d H' A', Good K Z H' σ ρ' A' → Step H A H' A' → ExcRep mg H' e cls d → W cls d σ H'
  | .bad => False
def FST (f : Env → R Env (Bool × Env)) : TT := fun σ H Q => ∃ ρ Z A, Good K Z H σ ρ A ∧ match f ρ with
  | .ok (b, ρ') => ∀ H' A', Good K Z H' σ ρ' A' → Step H A H' A' → Q b H'
  | .exc e ρ' => ∀ cls d H' A', Good K Z H' σ ρ' A' → Step H A H' A' → ExcRep mg H' e cls d → W cls d σ H'
  | .bad => False
inductive AvReps (σ : Stt) (H : Hp) : List AV → List V → Fp → Prop
  | nil {A : Fp} : AvReps σ H [] [] A
  | cons {a : AV} {v : V} {as : List AV} {vs : List V} {A B C : Fp} : AvRep σ H a v B → AvReps σ H as vs C → Sub B A → Sub C A → Disj B C → AvReps σ H (a :: as) (v :: vs) A
def FSA (f : Env → R Env (List AV × Env)) : TA := fun σ H Q => ∃ ρ Z A, Good K Z H σ ρ A ∧ match f ρ with
  | .ok (as, ρ') => ∀ vs H' A' B, Good K Z H' σ ρ' A' → AvReps σ H' as vs B → Disj B A' → Al H' B → Step H A H' (un A' B) → Q vs H'
  | .exc e ρ' => ∀ cls d H' A', Good K Z H' σ ρ' A' → Step H A H' A' → ExcRep mg H' e cls d → W cls d σ H'
  | .bad => False
inductive Fl where | nx | rt (t : T) | bk | ct
def Agree (kp : Nat → Bool) (σ σ' : Stt) : Prop := σ'.length = σ.length ∧ ∀ i, kp i = true → σ'[i]? = σ[i]?
def FT (kp : Nat → Bool) (f : Env → R Env (Fl × Env)) : TS := fun D σ H => ∃ ρ Z A, Good K Z H σ ρ A ∧ match f ρ with
  | .ok (.nx, ρ') => ∀ σ' H' Z' A', Good K Z' H' σ' ρ' A' → Step H A H' A' → Agree kp σ σ' → D.nx σ' H'
  | .ok (.bk, ρ') => ∀ σ' H' Z' A', Good K Z' H' σ' ρ' A' → Step H A H' A' → Agree kp σ σ' → D.bk σ' H'
  | .ok (.ct, ρ') => ∀ σ' H' Z' A', Good K Z' H' σ' ρ' A' → Step H A H' A' → Agree kp σ σ' → D.ct σ' H'
  | .ok (.rt t, ρ') => ∀ v σ' H' Z' A' B, Good K Z' H' σ' ρ' A' → Rep H' t v B → Disj B A' → Al H' B → Step H A H' (un A' B) → Agree kp σ σ' → D.rt v H'
  | .exc e ρ' => ∀ cls d σ' H' Z' A', Good K Z' H' σ' ρ' A' → Step H A H' A' → Agree kp σ σ' → ExcRep mg H' e cls d → W cls d σ' H'
  | .bad => False
end
section
variable (X : Cx) (W : WX)
def JQ (m : Md) (e : Expr) (f : Env → R Unit T) : Prop := PE X e (FQ X.K X.mg W m f)
def JQT (e : Expr) (f : Env → R Unit Bool) : Prop := PT X e (FQT X.K X.mg W f)
def JQA (es : List Expr) (f : Env → R Unit (List T)) : Prop := PA X es (FQA X.K X.mg W f)
def JOA (es : List Expr) (f : Env → R Unit (List T)) : Prop := PA X es (FOA X.K X.mg W f)
def JS (e : Expr) (f : Env → R Env (AV × Env)) : Prop := PE X e (FS X.K X.mg W f)
def JST (e : Expr) (f : Env → R Env (Bool × Env)) : Prop := PT X e (FST X.K X.mg W f)
def JSA (es : List Expr) (f : Env → R Env (List AV × Env)) : Prop := PA X es (FSA X.K X.mg W f)
def JT (kp : Nat → Bool) (st : Stmt) (f : Env → R Env (Fl × Env)) : Prop := PS X st (FT X.K X.mg W kp f)
def JTs (kp : Nat → Bool) (sts : List Stmt) (f : Env → R Env (Fl × Env)) : Prop := PSs X sts (FT X.K X.mg W kp f)
end
section
variable {X : Cx} {W : WX}
theorem peM {e : Expr} {t u : TE} (h : PE X e t) (m : ∀ σ H Q, u σ H Q → t σ H Q) : PE X e u := ⟨fun pins s σ H Q I q => h.run pins s σ H Q I (m σ H Q q)⟩
theorem ptM {e : Expr} {t u : TT} (h : PT X e t) (m : ∀ σ H Q, u σ H Q → t σ H Q) : PT X e u := ⟨fun pins s σ H Q I q => h.run pins s σ H Q I (m σ H Q q)⟩
theorem paM {e : List Expr} {t u : TA} (h : PA X e t) (m : ∀ σ H Q, u σ H Q → t σ H Q) : PA X e u := ⟨fun pos pins s σ H Q I q => h.run pos pins s σ H Q I (m σ H Q q)⟩
theorem psM {e : Stmt} {t u : TS} (h : PS X e t) (m : ∀ D σ H, u D σ H → t D σ H) : PS X e u := ⟨fun pins s σ H D I q => h.run pins s σ H D I (m D σ H q)⟩
theorem pssM {e : List Stmt} {t u : TS} (h : PSs X e t) (m : ∀ D σ H, u D σ H → t D σ H) : PSs X e u := ⟨fun pins s σ H D I q => h.run pins s σ H D I (m D σ H q)⟩
theorem ResM.o_e {K : PySem.W.Frag} {Z : Fp} {H H' : Hp} {t : T} {v : V} (h : ResM K Z H .o H' t v) : ResM K Z H .e H' t v := by
  obtain ⟨B, r, _, _⟩ := h
  exact Rep.vw (fun _ _ => trivial) t v r
theorem ResM.z_e {K : PySem.W.Frag} {Z : Fp} {H H' : Hp} {t : T} {v : V} (h : ResM K Z H .z H' t v) : ResM K Z H .e H' t v := Vw.mono (fun _ _ => trivial) t v h
theorem JQ.imp {m m' : Md} {e : Expr} {f : Env → R Unit T} (h : JQ X W m e f) (i : ∀ K Z H H' t v, ResM K Z H m H' t v → ResM K Z H m' H' t v) : JQ X W m' e f :=
  peM h fun σ H Q ⟨ρ, Z, A, G, q⟩ => ⟨ρ, Z, A, G, by
    revert q
    cases f ρ with
    | ok t => exact fun q v H' e r => q v H' e (i _ _ _ _ _ _ r)
    | exc e r => exact id
    | bad => exact id⟩
theorem q_oe {e : Expr} {f : Env → R Unit T} (h : JQ X W .o e f) : JQ X W .e e f := h.imp fun _ _ _ _ _ _ => ResM.o_e
theorem q_ze {e : Expr} {f : Env → R Unit T} (h : JQ X W .z e f) : JQ X W .e e f := h.imp fun _ _ _ _ _ _ => ResM.z_e
def fPure (f : Env → R Unit T) : Env → R Unit T := fun ρ => (f ρ).bind fun t => match t with
  | .pv p => .ok (.pv p)
  | _ => .bad
theorem q_pure {m : Md} {e : Expr} {f : Env → R Unit T} (h : JQ X W .e e f) : JQ X W m e (fPure f) :=
  peM h fun σ H Q ⟨ρ, Z, A, G, q⟩ => ⟨ρ, Z, A, G, by
    revert q
    unfold fPure
    cases f ρ with
    | ok t =>
      cases t with
      | pv p => exact fun q v H' e r => q v H' e (by
          have r' : RepP H' p v := r
          cases m with
          | e => exact r'
          | z => exact r'
          | o => exact ⟨emp, r', fun _ z => z.elim, fun _ z => z.elim⟩)
      | _ => exact fun q => q.elim
    | exc e r => exact id
    | bad => exact fun q => q.elim⟩
def fVal (f : Env → R Unit T) : Env → R Env (AV × Env) := fun ρ => match f ρ with
  | .ok t => .ok (.val t, ρ)
  | .exc e _ => .exc e ρ
  | .bad => .bad
theorem s_o {e : Expr} {f : Env → R Unit T} (h : JQ X W .o e f) : JS X W e (fVal f) :=
  peM h fun σ H Q ⟨ρ, Z, A, G, q⟩ => ⟨ρ, Z, A, G, by
    revert q
    unfold fVal
    cases f ρ with
    | ok t => exact fun q v H' e ⟨B, r, fr, al⟩ => q v H' A B (G.ext e) r (fun a hb ha => G.alA a ha (fr a hb)) al (Step.ext e fr)
    | exc e r => exact fun q cls d H' e x => q cls d H' A (G.ext e) (Step.ext0 e) x
    | bad => exact id⟩
def fLate (i : Nat) : Env → R Env (AV × Env) := fun ρ => .ok (.late i, ρ)
theorem slot_of {K : PySem.W.Frag} {Z A : Fp} {H : Hp} {σ : Stt} {ρ : Env} {i : Nat} {s : Sl} (g : EnvRep K Z H σ ρ A) (e : ρ[i]? = some s) : ∃ o B, σ[i]? = some o ∧ SlRep K Z H o s B ∧ Sub B A := by
  obtain ⟨o, B, C, h1, h2, h3, _⟩ := g.at e
  exact ⟨o, B, h1, h2, h3⟩
def fVar (i : Nat) : Env → R Unit T := fun ρ => match ρ[i]? with
  | some (.ow t) => .ok t
  | some (.vw t) => .ok t
  | _ => .bad
def fVarZ (i : Nat) : Env → R Unit T := fun ρ => match ρ[i]? with
  | some (.ow (.pv p)) => .ok (.pv p)
  | some (.vw t) => .ok t
  | _ => .bad
theorem q_var (i : Nat) {x : Str} {pos : Pos} (hN : X.N[i]? = some x := by rfl) (hv : Vis X.env.scope x := by first | exact Or.inl rfl | exact Or.inr (Or.inl rfl) | exact Or.inr (Or.inr rfl)) (hd : (x == ("__debug__" : Str)) = false := by decide)
    (hcd : (x == ("__classdict__" : Str)) = false := by decide) : JQ X W .e (.Name x pos) (fVar i) := by
  refine peM (pe_var (i := i) hN hv hd hcd) fun σ H Q ⟨ρ, Z, A, G, q⟩ => ?_
  unfold fVar at q
  cases e : ρ[i]? with
  | none => rw [e] at q; exact q.elim
  | some s =>
    rw [e] at q
    obtain ⟨o, B, h1, h2, h3⟩ := slot_of G.env e
    cases s with
    | no => exact q.elim
    | ow t =>
      obtain ⟨v, e1, r⟩ := h2
      exact ⟨v, by rw [h1, e1], q v H (Ext.refl H) (Rep.vw (fun _ _ => trivial) t v r)⟩
    | vw t =>
      obtain ⟨v, e1, r⟩ := h2
      exact ⟨v, by rw [h1, e1], q v H (Ext.refl H) (Vw.mono (fun _ _ => trivial) t v r)⟩
theorem q_varZ (i : Nat) {x : Str} {pos : Pos} (hN : X.N[i]? = some x := by rfl) (hv : Vis X.env.scope x := by first | exact Or.inl rfl | exact Or.inr (Or.inl rfl) | exact Or.inr (Or.inr rfl)) (hd : (x == ("__debug__" : Str)) = false := by decide)
    (hcd : (x == ("__classdict__" : Str)) = false := by decide) : JQ X W .z (.Name x pos) (fVarZ i) := by
  refine peM (pe_var (i := i) hN hv hd hcd) fun σ H Q ⟨ρ, Z, A, G, q⟩ => ?_
  unfold fVarZ at q
  cases e : ρ[i]? with
  | none => rw [e] at q; exact q.elim
  | some s =>
    rw [e] at q
    obtain ⟨o, B, h1, h2, h3⟩ := slot_of G.env e
    cases s with
    | no => exact q.elim
    | ow t =>
      cases t with
      | pv p =>
        obtain ⟨v, e1, r⟩ := h2
        exact ⟨v, by rw [h1, e1], q v H (Ext.refl H) r⟩
      | _ => exact q.elim
    | vw t =>
      obtain ⟨v, e1, r⟩ := h2
      exact ⟨v, by rw [h1, e1], q v H (Ext.refl H) r⟩
def fLateN (i : Nat) : Env → R Env (AV × Env) := fun ρ => match ρ[i]? with
  | some (.ow _) => .ok (.late i, ρ)
  | some (.vw _) => .ok (.late i, ρ)
  | _ => .bad
theorem s_late (i : Nat) {x : Str} {pos : Pos} (hN : X.N[i]? = some x := by rfl) (hv : Vis X.env.scope x := by first | exact Or.inl rfl | exact Or.inr (Or.inl rfl) | exact Or.inr (Or.inr rfl)) (hd : (x == ("__debug__" : Str)) = false := by decide)
    (hcd : (x == ("__classdict__" : Str)) = false := by decide) : JS X W (.Name x pos) (fLateN i) := by
  refine peM (pe_var (i := i) hN hv hd hcd) fun σ H Q ⟨ρ, Z, A, G, q⟩ => ?_
  unfold fLateN at q
  have st : Step H A H (un A emp) := ⟨(Step.refl H A).keep, (Step.refl H A).dom, fun b h => h.elim .inl fun z => z.elim⟩
  cases e : ρ[i]? with
  | none => rw [e] at q; exact q.elim
  | some s =>
    rw [e] at q
    obtain ⟨o, B, h1, h2, h3⟩ := slot_of G.env e
    cases s with
    | no => exact q.elim
    | ow t =>
      obtain ⟨v, e1, r⟩ := h2
      exact ⟨v, by rw [h1, e1], q v H A emp G (by show σ[i]? = _; rw [h1, e1]) (fun _ z => z.elim) (fun _ z => z.elim) st⟩
    | vw t =>
      obtain ⟨v, e1, r⟩ := h2
      exact ⟨v, by rw [h1, e1], q v H A emp G (by show σ[i]? = _; rw [h1, e1]) (fun _ z => z.elim) (fun _ z => z.elim) st⟩
theorem see_vw {K : PySem.W.Frag} {Z A B : Fp} {H : Hp} {σ : Stt} {ρ : Env} {a : AV} {v : V} {t : T} (g : Good K Z H σ ρ A) (r : AvRep σ H a v B) (e : a.see ρ = some t) : Vw K top H t v := by
  cases a with
  | val u =>
    have e' : u = t := Option.some.inj e
    subst e'
    exact Rep.vw (fun _ _ => trivial) _ v r
  | late i =>
    have r' : σ[i]? = some (some v) := r
    have e' : (ρ[i]?).bind Sl.t? = some t := e
    cases q : ρ[i]? with
    | none => rw [q] at e'; cases e'
    | some s =>
      rw [q] at e'
      obtain ⟨o, B, h1, h2, _⟩ := slot_of g.env q
      rw [h1] at r'
      have er : o = some v := Option.some.inj r'
      subst er
      cases s with
      | no => cases e'
      | ow u =>
        have e2 : u = t := Option.some.inj e'
        subst e2
        obtain ⟨w, e3, r3⟩ := h2
        cases e3
        exact Rep.vw (fun _ _ => trivial) _ v r3
      | vw u =>
        have e2 : u = t := Option.some.inj e'
        subst e2
        obtain ⟨w, e3, r3⟩ := h2
        cases e3
        exact Vw.mono (fun _ _ => trivial) _ v r3
end
end TR
namespace TR
open PySem PySem.Spec PyProof.Rows L2
abbrev NewR (H : Hp) (q : T) (Q : VK) : Prop := ∀ v' H' B, Ext H H' → Rep H' q v' B → Fresh H B → Al H' B → Q v' H'
theorem NewR.pure {H : Hp} {p : P} {Q : VK} {v : V} (n : NewR H (.pv p) Q) (r : RepP H p v) : Q v H := n v H emp (Ext.refl H) r (fun _ z => z.elim) (fun _ z => z.elim)
theorem NewR.lst {H : Hp} {ts : List T} {Q : VK} {p : Addr} {xs : List V} (n : NewR H (.lst ts) Q) (hp : H p = none) (r : Reps (upd H p (.lst xs)) ts xs emp) : Q (.ref p) (upd H p (.lst xs)) :=
  n _ _ (fun b => b = p) (Ext.new hp) ⟨p, xs, rfl, upd_same, rfl, Reps.mono (fun _ z => z.elim) _ _ r⟩ (fun b e => by rw [e]; exact hp) fun b e => by rw [e, upd_same]; intro z; cases z
theorem NewR.tup {H : Hp} {ps : List P} {Q : VK} {p : Addr} {xs : List V} (n : NewR H (.pv (.tup ps)) Q) (hp : H p = none) (r : RepPs (upd H p (.tup xs)) ps xs) : Q (.ref p) (upd H p (.tup xs)) :=
  n _ _ emp (Ext.new hp) ⟨p, xs, rfl, upd_same, r⟩ (fun _ z => z.elim) fun _ z => z.elim
def Ok1 (K : PySem.W.Frag) (r : V → Hp → VK → Prop) (g : T → Option T) : Prop := ∀ H t v q, Vw K top H t v → g t = some q → ∀ Q, NewR H q Q → r v H Q
def Ok2 (K : PySem.W.Frag) (r : R2) (g : T → T → Option T) : Prop := ∀ H t u v w q, Vw K top H t v → Vw K top H u w → g t u = some q → ∀ Q, NewR H q Q → r v w H Q
def OkN (K : PySem.W.Frag) (r : List V → Hp → VK → Prop) (g : List T → Option T) : Prop := ∀ H ts vs q, Vws K top H ts vs → g ts = some q → ∀ Q, NewR H q Q → r vs H Q
def f1 (g : T → Option T) (fa : Env → R Unit T) : Env → R Unit T := fun ρ => (fa ρ).bind fun t => R.of (g t)
def f2 (g : T → T → Option T) (fa fb : Env → R Unit T) : Env → R Unit T := fun ρ => (fa ρ).bind fun t => (fb ρ).bind fun u => R.of (g t u)
def fN (g : List T → Option T) (fa : Env → R Unit (List T)) : Env → R Unit T := fun ρ => (fa ρ).bind fun t => R.of (g t)
def s1 (g : T → Option T) (fa : Env → R Env (AV × Env)) : Env → R Env (AV × Env) := fun ρ => (fa ρ).bind fun (x, ρ1) => R.of ((x.see ρ1).bind fun t => (g t).map fun q => (AV.val q, ρ1))
def s2 (g : T → T → Option T) (fa fb : Env → R Env (AV × Env)) : Env → R Env (AV × Env) := fun ρ => (fa ρ).bind fun (x, ρ1) => (fb ρ1).bind fun (y, ρ2) =>
  R.of ((x.see ρ2).bind fun t => (y.see ρ2).bind fun u => (g t u).map fun q => (AV.val q, ρ2))
def sees (ρ : Env) : List AV → Option (List T)
  | [] => some []
  | a :: as => (a.see ρ).bind fun t => (sees ρ as).map fun ts => t :: ts
def sN (g : List T → Option T) (fa : Env → R Env (List AV × Env)) : Env → R Env (AV × Env) := fun ρ => (fa ρ).bind fun (xs, ρ1) => R.of ((sees ρ1 xs).bind fun ts => (g ts).map fun q => (AV.val q, ρ1))
section
variable {X : Cx} {W : WX} {K : PySem.W.Frag} {mg : Str → Option Value}
theorem AvRep.kp {σ : Stt} {H H' : Hp} {B Z : Fp} (k : Kp B Z H H') {a : AV} {v : V} (r : AvRep σ H a v B) : AvRep σ H' a v B := by
  cases a with
  | late i => exact r
  | val t => exact Rep.kp k t v r
theorem AvReps.kp {σ : Stt} {H H' : Hp} {Z : Fp} {as : List AV} {vs : List V} {B : Fp} (r : AvReps σ H as vs B) : Kp B Z H H' → AvReps σ H' as vs B := by
  induction r with
  | nil => exact fun _ => .nil
  | cons h1 h2 s1 s2 d ih => exact fun k => .cons (h1.kp (k.mono s1 fun _ h => h)) (ih (k.mono s2 fun _ h => h)) s1 s2 d
theorem Vws.len {Z : Fp} {H : Hp} : ∀ {ts : List T} {vs : List V}, Vws K Z H ts vs → ts.length = vs.length
  | [], vs, h => by have e : vs = [] := h; subst e; rfl
  | t :: ts, vs, h => by
    obtain ⟨x, r, e, _, h2⟩ := h
    subst e
    simp [Vws.len h2]
theorem fq2 {r : R2} {g : T → T → Option T} (hr : Ok2 K r g) {fa fb : Env → R Unit T} {σ : Stt} {H : Hp} {Q : VK} (h : FQ K mg W .o (f2 g fa fb) σ H Q) : tOp r (FQ K mg W .e fa) (FQ K mg W .e fb) σ H Q := by
  obtain ⟨ρ, Z, A, G, q⟩ := h
  refine ⟨ρ, Z, A, G, ?_⟩
  revert q
  unfold f2
  cases fa ρ with
  | ok t =>
    intro q v H1 e1 r1
    refine ⟨ρ, Z, A, G.ext e1, ?_⟩
    revert q
    rw [R.bind_ok]
    cases fb ρ with
    | ok u =>
      intro q w H2 e2 r2
      rw [R.bind_ok] at q
      cases hg : g t u with
      | none => rw [hg] at q; exact q.elim
      | some x =>
        rw [hg] at q
        exact hr H2 t u v w x (Vw.kp (e2.kp (C := top)) t v r1) r2 hg Q fun v' H' B e3 rep fr al => q v' H' (e1.trans (e2.trans e3)) ⟨B, rep, fun a ha => (e1.trans e2).fresh (fr a ha), al⟩
    | exc e x => exact fun q cls d H' e2 x => q cls d H' (e1.trans e2) x
    | bad => exact fun q => q.elim
  | exc e x => exact fun q => q
  | bad => exact fun q => q.elim
theorem fq1 {r : V → Hp → VK → Prop} {g : T → Option T} (hr : Ok1 K r g) {fa : Env → R Unit T} {σ : Stt} {H : Hp} {Q : VK} (h : FQ K mg W .o (f1 g fa) σ H Q) : tUn r (FQ K mg W .e fa) σ H Q := by
  obtain ⟨ρ, Z, A, G, q⟩ := h
  refine ⟨ρ, Z, A, G, ?_⟩
  revert q
  unfold f1
  cases fa ρ with
  | ok t =>
    intro q v H1 e1 r1
    rw [R.bind_ok] at q
    cases hg : g t with
    | none => rw [hg] at q; exact q.elim
    | some x =>
      rw [hg] at q
      exact hr H1 t v x r1 hg Q fun v' H' B e3 rep fr al => q v' H' (e1.trans e3) ⟨B, rep, fun a ha => e1.fresh (fr a ha), al⟩
  | exc e x => exact fun q => q
  | bad => exact fun q => q.elim
theorem fqN {r : List V → Hp → VK → Prop} {g : List T → Option T} (hr : OkN K r g) {fa : Env → R Unit (List T)} {σ : Stt} {H : Hp} {Q : VK} (h : FQ K mg W .o (fN g fa) σ H Q) : tCB r (FQA K mg W fa) σ H Q := by
  obtain ⟨ρ, Z, A, G, q⟩ := h
  refine ⟨ρ, Z, A, G, ?_⟩
  revert q
  unfold fN
  cases fa ρ with
  | ok t =>
    intro q v H1 e1 r1
    rw [R.bind_ok] at q
    cases hg : g t with
    | none => rw [hg] at q; exact q.elim
    | some x =>
      rw [hg] at q
      exact hr H1 t v x r1 hg Q fun v' H' B e3 rep fr al => q v' H' (e1.trans e3) ⟨B, rep, fun a ha => e1.fresh (fr a ha), al⟩
  | exc e x => exact fun q => q
  | bad => exact fun q => q.elim
theorem fs2 {r : R2} {g : T → T → Option T} (hr : Ok2 K r g) {fa fb : Env → R Env (AV × Env)} {σ : Stt} {H : Hp} {Q : VK} (h : FS K mg W (s2 g fa fb) σ H Q) : tOp r (FS K mg W fa) (FS K mg W fb) σ H Q := by
  obtain ⟨ρ, Z, A, G, q⟩ := h
  refine ⟨ρ, Z, A, G, ?_⟩
  revert q
  unfold s2
  cases fa ρ with
  | ok x =>
    obtain ⟨a, ρ1⟩ := x
    intro q v H1 A1 B1 G1 r1 d1 al1 st1
    have st1' : Step H A H1 A1 := st1.mono fun _ h => .inl h
    refine ⟨ρ1, Z, A1, G1, ?_⟩
    revert q
    simp only [R.bind_ok]
    cases fb ρ1 with
    | ok y =>
      obtain ⟨b, ρ2⟩ := y
      intro q w H2 A2 B2 G2 r2 d2 al2 st2
      have r1' : AvRep σ H2 a v B1 := r1.kp (st2.kp d1 G1.dis)
      simp only [R.bind_ok] at q
      cases h1 : a.see ρ2 with
      | none => rw [h1] at q; exact q.elim
      | some t =>
        cases h2 : b.see ρ2 with
        | none => rw [h1, h2] at q; exact q.elim
        | some u =>
          cases hg : g t u with
          | none => rw [h1, h2] at q; simp only [Option.bind_some, hg] at q; exact q.elim
          | some z =>
            rw [h1, h2] at q
            simp only [Option.bind_some, hg] at q
            have st : Step H A H2 A2 := st1'.trans (st2.mono fun _ h => .inl h)
            exact hr H2 t u v w z (see_vw G2 r1' h1) (see_vw G2 r2 h2) hg Q fun v' H' B e3 rep fr al =>
              q v' H' A2 B (G2.ext e3) rep (fun x hb ha => G2.alA x ha (fr x hb)) al (st.trans (Step.ext e3 fr))
    | exc e x => exact fun q cls d H' A' G' s' x => q cls d H' A' G' (st1'.trans s') x
    | bad => exact fun q => q.elim
  | exc e x => exact fun q => q
  | bad => exact fun q => q.elim
theorem fs1 {r : V → Hp → VK → Prop} {g : T → Option T} (hr : Ok1 K r g) {fa : Env → R Env (AV × Env)} {σ : Stt} {H : Hp} {Q : VK} (h : FS K mg W (s1 g fa) σ H Q) : tUn r (FS K mg W fa) σ H Q := by
  obtain ⟨ρ, Z, A, G, q⟩ := h
  refine ⟨ρ, Z, A, G, ?_⟩
  revert q
  unfold s1
  cases fa ρ with
  | ok x =>
    obtain ⟨a, ρ1⟩ := x
    intro q v H1 A1 B1 G1 r1 d1 al1 st1
    have st1' : Step H A H1 A1 := st1.mono fun _ h => .inl h
    simp only [R.bind_ok] at q
    cases h1 : a.see ρ1 with
    | none => rw [h1] at q; exact q.elim
    | some t =>
      cases hg : g t with
      | none => rw [h1] at q; simp only [Option.bind_some, hg] at q; exact q.elim
      | some z =>
        rw [h1] at q
        simp only [Option.bind_some, hg] at q
        exact hr H1 t v z (see_vw G1 r1 h1) hg Q fun v' H' B e3 rep fr al =>
          q v' H' A1 B (G1.ext e3) rep (fun x hb ha => G1.alA x ha (fr x hb)) al (st1'.trans (Step.ext e3 fr))
  | exc e x => exact fun q => q
  | bad => exact fun q => q.elim
theorem sees_vws {Z A : Fp} {H : Hp} {σ : Stt} {ρ : Env} (g : Good K Z H σ ρ A) : ∀ {as : List AV} {vs : List V} {ts : List T} {B : Fp}, AvReps σ H as vs B → sees ρ as = some ts → Vws K top H ts vs
  | [], _, ts, _, .nil, e => by
    have e' : [] = ts := Option.some.inj e
    subst e'
    rfl
  | a :: as, _, ts, _, .cons h1 h2 s1 s2 d, e => by
    unfold sees at e
    cases q : a.see ρ with
    | none => rw [q] at e; cases e
    | some t =>
      cases q2 : sees ρ as with
      | none => rw [q, q2] at e; cases e
      | some ts' =>
        rw [q, q2] at e
        have e' : t :: ts' = ts := Option.some.inj e
        subst e'
        exact ⟨_, _, rfl, see_vw g h1 q, sees_vws g h2 q2⟩
theorem fsN {r : List V → Hp → VK → Prop} {g : List T → Option T} (hr : OkN K r g) {fa : Env → R Env (List AV × Env)} {σ : Stt} {H : Hp} {Q : VK} (h : FS K mg W (sN g fa) σ H Q) : tCB r (FSA K mg W fa) σ H Q := by
  obtain ⟨ρ, Z, A, G, q⟩ := h
  refine ⟨ρ, Z, A, G, ?_⟩
  revert q
  unfold sN
  cases fa ρ with
  | ok x =>
    obtain ⟨as, ρ1⟩ := x
    intro q v H1 A1 B1 G1 r1 d1 al1 st1
    have st1' : Step H A H1 A1 := st1.mono fun _ h => .inl h
    simp only [R.bind_ok] at q
    cases h1 : sees ρ1 as with
    | none => rw [h1] at q; exact q.elim
    | some ts =>
      cases hg : g ts with
      | none => rw [h1] at q; simp only [Option.bind_some, hg] at q; exact q.elim
      | some z =>
        rw [h1] at q
        simp only [Option.bind_some, hg] at q
        exact hr H1 ts v z (sees_vws G1 r1 h1) hg Q fun v' H' B e3 rep fr al =>
          q v' H' A1 B (G1.ext e3) rep (fun x hb ha => G1.alA x ha (fr x hb)) al (st1'.trans (Step.ext e3 fr))
  | exc e x => exact fun q => q
  | bad => exact fun q => q.elim
def aNil : Env → R Unit (List T) := fun _ => .ok []
def aCons (fa : Env → R Unit T) (fr : Env → R Unit (List T)) : Env → R Unit (List T) := fun ρ => (fa ρ).bind fun t => (fr ρ).bind fun ts => .ok (t :: ts)
theorem qa_nil : JQA X W [] aNil := paM pa_nil fun σ H Q ⟨ρ, Z, A, G, q⟩ => q [] H (Ext.refl H) rfl
theorem oa_nil : JOA X W [] aNil := paM pa_nil fun σ H Q ⟨ρ, Z, A, G, q⟩ => q [] H emp (Ext.refl H) rfl (fun _ z => z.elim) (fun _ z => z.elim)
theorem qa_cons {e : Expr} {es : List Expr} {fa : Env → R Unit T} {fr : Env → R Unit (List T)} (ha : JQ X W .e e fa) (hr : JQA X W es fr) (hs : starEach (e :: es) X.env = (false, eval e X.env) :: starEach es X.env := by rfl) : JQA X W (e :: es) (aCons fa fr) := by
  refine paM (pa_cons ha hr hs) fun σ H Q ⟨ρ, Z, A, G, q⟩ => ?_
  refine ⟨ρ, Z, A, G, ?_⟩
  revert q
  unfold aCons
  cases fa ρ with
  | ok t =>
    intro q v H1 e1 r1
    refine ⟨ρ, Z, A, G.ext e1, ?_⟩
    revert q
    rw [R.bind_ok]
    cases fr ρ with
    | ok ts => exact fun q vs H2 e2 r2 => q (v :: vs) H2 (e1.trans e2) ⟨v, vs, rfl, Vw.kp (e2.kp (C := top)) t v r1, r2⟩
    | exc e x => exact fun q cls d H' e2 x => q cls d H' (e1.trans e2) x
    | bad => exact fun q => q.elim
  | exc e x => exact fun q => q
  | bad => exact fun q => q.elim
theorem oa_cons {e : Expr} {es : List Expr} {fa : Env → R Unit T} {fr : Env → R Unit (List T)} (ha : JQ X W .o e fa) (hr : JOA X W es fr) (hs : starEach (e :: es) X.env = (false, eval e X.env) :: starEach es X.env := by rfl) : JOA X W (e :: es) (aCons fa fr) := by
  refine paM (pa_cons ha hr hs) fun σ H Q ⟨ρ, Z, A, G, q⟩ => ?_
  refine ⟨ρ, Z, A, G, ?_⟩
  revert q
  unfold aCons
  cases fa ρ with
  | ok t =>
    intro q v H1 e1 r1
    obtain ⟨B1, rb, fr1, al1⟩ := r1
    refine ⟨ρ, Z, A, G.ext e1, ?_⟩
    revert q
    rw [R.bind_ok]
    cases fr ρ with
    | ok ts => exact fun q vs H2 B2 e2 r2 fr2 al2 => q (v :: vs) H2 (un B1 B2) (e1.trans e2) ⟨v, vs, B1, B2, rfl, Rep.kp (e2.kp (C := B1) (Z := top)) t v rb, r2, fun _ h => .inl h, fun _ h => .inr h, fun a h1 h2 => al1 a h1 (fr2 a h2)⟩ (fun a h => h.elim (fr1 a) fun z => e1.fresh (fr2 a z)) (fun a h => h.elim (fun z => e2.al al1 a z) (al2 a))
    | exc e x => exact fun q cls d H' e2 x => q cls d H' (e1.trans e2) x
    | bad => exact fun q => q.elim
  | exc e x => exact fun q => q
  | bad => exact fun q => q.elim
def sNil : Env → R Env (List AV × Env) := fun ρ => .ok ([], ρ)
def sCons (fa : Env → R Env (AV × Env)) (fr : Env → R Env (List AV × Env)) : Env → R Env (List AV × Env) := fun ρ => (fa ρ).bind fun (t, ρ1) => (fr ρ1).bind fun (ts, ρ2) => .ok (t :: ts, ρ2)
theorem sa_nil : JSA X W [] sNil := paM pa_nil fun σ H Q ⟨ρ, Z, A, G, q⟩ => q [] H A emp G .nil (fun _ z => z.elim) (fun _ z => z.elim) ((Step.refl H A).mono fun _ h => h.elim id fun z => z.elim)
theorem sa_cons {e : Expr} {es : List Expr} {fa : Env → R Env (AV × Env)} {fr : Env → R Env (List AV × Env)} (ha : JS X W e fa) (hr : JSA X W es fr) (hs : starEach (e :: es) X.env = (false, eval e X.env) :: starEach es X.env := by rfl) : JSA X W (e :: es) (sCons fa fr) := by
  refine paM (pa_cons ha hr hs) fun σ H Q ⟨ρ, Z, A, G, q⟩ => ?_
  refine ⟨ρ, Z, A, G, ?_⟩
  revert q
  unfold sCons
  cases fa ρ with
  | ok x =>
    obtain ⟨a, ρ1⟩ := x
    intro q v H1 A1 B1 G1 r1 d1 al1 st1
    have st1' : Step H A H1 A1 := st1.mono fun _ h => .inl h
    refine ⟨ρ1, Z, A1, G1, ?_⟩
    revert q
    simp only [R.bind_ok]
    cases fr ρ1 with
    | ok y =>
      obtain ⟨as, ρ2⟩ := y
      intro q vs H2 A2 B2 G2 r2 d2 al2 st2
      have dd : Disj B1 (un A2 B2) := st2.disj d1 al1
      refine q (v :: vs) H2 A2 (un B1 B2) G2 (.cons (r1.kp (st2.kp d1 G1.dis)) r2 (fun _ h => .inl h) (fun _ h => .inr h) fun x h1 h2 => dd x h1 (.inr h2)) (fun x h1 h2 => h1.elim (fun z => dd x z (.inl h2)) fun z => d2 x z h2) (fun x h => h.elim (fun z => st2.al al1 x z) (al2 x)) ?_
      have w : Step H1 (un A1 B1) H2 (un (un A2 B2) B1) := st2.wide
      exact (st1.trans w).mono fun x h => h.elim (fun z => .inl (.inl z)) fun z => z.elim .inr fun z => .inl (.inr z)
    | exc e x => exact fun q cls d H' A' G' s' x => q cls d H' A' G' (st1'.trans s') x
    | bad => exact fun q => q.elim
  | exc e x => exact fun q => q
  | bad => exact fun q => q.elim
def fC (p : P) : Env → R Unit T := fun _ => .ok (.pv p)
theorem fq_c {m : Md} {p : P} {v : V} (h : ∀ H, RepP H p v) {σ : Stt} {H : Hp} {Q : VK} (q : FQ K mg W m (fC p) σ H Q) : tC v σ H Q := by
  obtain ⟨ρ, Z, A, G, q⟩ := q
  refine q v H (Ext.refl H) ?_
  cases m with
  | e => exact h H
  | z => exact h H
  | o => exact ⟨emp, h H, fun _ z => z.elim, fun _ z => z.elim⟩
theorem q_int {m : Md} {i : Int} {j : Nat} {pos : Pos} : JQ X W m (.Constant (.int i) j pos) (fC (.int i)) := peM pe_int fun _ _ _ q => fq_c (p := .int i) (v := .int i) (fun _ => rfl) q
theorem q_bl {m : Md} {b : Bool} {j : Nat} {pos : Pos} : JQ X W m (.Constant (.bool b) j pos) (fC (.bl b)) := peM pe_bl fun _ _ _ q => fq_c (p := .bl b) (v := .bl b) (fun _ => rfl) q
theorem q_non {m : Md} {j : Nat} {pos : Pos} : JQ X W m (.Constant .none j pos) (fC .non) := peM pe_non fun _ _ _ q => fq_c (p := .non) (v := .non) (fun _ => rfl) q
theorem q_str {m : Md} {x : Str} {j : Nat} {pos : Pos} : JQ X W m (.Constant (.str x) j pos) (fC (.str x)) := peM pe_str fun _ _ _ q => fq_c (p := .str x) (v := .str x) (fun _ => rfl) q
variable {a b : Expr} {pos p : Pos} {op : Operator} {fa fb : Env → R Unit T} {sa sb : Env → R Env (AV × Env)} {g : T → T → Option T} {r : R2} {x : Str} {id : String}
theorem q_op (ho : OpR X (binaryOp op) r) (hr : Ok2 X.K r g) (ha : JQ X W .e a fa) (hb : JQ X W .e b fb) : JQ X W .o (.BinOp a op b pos) (f2 g fa fb) := peM (pe_op ho ha hb) fun _ _ _ q => fq2 hr q
theorem s_op (ho : OpR X (binaryOp op) r) (hr : Ok2 X.K r g) (ha : JS X W a sa) (hb : JS X W b sb) : JS X W (.BinOp a op b pos) (s2 g sa sb) := peM (pe_op ho ha hb) fun _ _ _ q => fs2 hr q
theorem q_cmp {c : CmpOp} (ho : OpR X (compareOp c) r) (hr : Ok2 X.K r g) (ha : JQ X W .e a fa) (hb : JQ X W .e b fb) (hm : behindInMarks c b = false) : JQ X W .o (.Compare a [c] [b] pos) (f2 g fa fb) := peM (pe_cmpR ho ha hb hm) fun _ _ _ q => fq2 hr q
theorem s_cmp {c : CmpOp} (ho : OpR X (compareOp c) r) (hr : Ok2 X.K r g) (ha : JS X W a sa) (hb : JS X W b sb) (hm : behindInMarks c b = false) : JS X W (.Compare a [c] [b] pos) (s2 g sa sb) := peM (pe_cmpR ho ha hb hm) fun _ _ _ q => fs2 hr q
theorem q_un {c : UnaryOp} {r1 : V → Hp → VK → Prop} {g1 : T → Option T} (ho : UnR X (unaryOp c) r1) (hr : Ok1 X.K r1 g1) (ha : JQ X W .e a fa) : JQ X W .o (.UnaryOp c a pos) (f1 g1 fa) := peM (pe_un ho ha) fun _ _ _ q => fq1 hr q
theorem s_un {c : UnaryOp} {r1 : V → Hp → VK → Prop} {g1 : T → Option T} (ho : UnR X (unaryOp c) r1) (hr : Ok1 X.K r1 g1) (ha : JS X W a sa) : JS X W (.UnaryOp c a pos) (s1 g1 sa) := peM (pe_un ho ha) fun _ _ _ q => fs1 hr q
variable {rn : List V → Hp → VK → Prop} {gn : List T → Option T} {e : Expr} {es : List Expr} {fas : Env → R Unit (List T)} {sas : Env → R Env (List AV × Env)}
theorem q_callB (hc : CallR X (.builtin id) rn) (hr : OkN X.K rn gn) (hg : Gl X x) (hm : X.mg x = none) (hv : bootBuiltins x = some (.builtin id)) (ha : JQA X W (e :: es) fas) (hn : x ≠ "__name__" := by decide) (hdb : (x == ("__debug__" : Str)) = false := by decide)
    (he : starEach (e :: es) X.env = (false, eval e X.env) :: starEach es X.env := by rfl) (hpl : (backTo pos (starEach es X.env)).any (·.1) = false := by rfl) : JQ X W .o (.Call (.Name x p) (e :: es) [] pos) (fN gn fas) :=
  peM (pe_callB hc hg hm hv ha hn hdb he hpl) fun _ _ _ q => fqN hr q
theorem s_callB (hc : CallR X (.builtin id) rn) (hr : OkN X.K rn gn) (hg : Gl X x) (hm : X.mg x = none) (hv : bootBuiltins x = some (.builtin id)) (ha : JSA X W (e :: es) sas) (hn : x ≠ "__name__" := by decide) (hdb : (x == ("__debug__" : Str)) = false := by decide)
    (he : starEach (e :: es) X.env = (false, eval e X.env) :: starEach es X.env := by rfl) (hpl : (backTo pos (starEach es X.env)).any (·.1) = false := by rfl) : JS X W (.Call (.Name x p) (e :: es) [] pos) (sN gn sas) :=
  peM (pe_callB hc hg hm hv ha hn hdb he hpl) fun _ _ _ q => fsN hr q
theorem q_callTy {Ty : String} (hc : CallR X (.type Ty) rn) (hr : OkN X.K rn gn) (hg : Gl X x) (hm : X.mg x = none) (hv : bootBuiltins x = some (.type Ty)) (ha : JQA X W (e :: es) fas) (hn : x ≠ "__name__" := by decide) (hdb : (x == ("__debug__" : Str)) = false := by decide)
    (he : starEach (e :: es) X.env = (false, eval e X.env) :: starEach es X.env := by rfl) (hpl : (backTo pos (starEach es X.env)).any (·.1) = false := by rfl) : JQ X W .o (.Call (.Name x p) (e :: es) [] pos) (fN gn fas) :=
  peM (pe_callTy hc hg hm hv ha hn hdb he hpl) fun _ _ _ q => fqN hr q
theorem s_callTy {Ty : String} (hc : CallR X (.type Ty) rn) (hr : OkN X.K rn gn) (hg : Gl X x) (hm : X.mg x = none) (hv : bootBuiltins x = some (.type Ty)) (ha : JSA X W (e :: es) sas) (hn : x ≠ "__name__" := by decide) (hdb : (x == ("__debug__" : Str)) = false := by decide)
    (he : starEach (e :: es) X.env = (false, eval e X.env) :: starEach es X.env := by rfl) (hpl : (backTo pos (starEach es X.env)).any (·.1) = false := by rfl) : JS X W (.Call (.Name x p) (e :: es) [] pos) (sN gn sas) :=
  peM (pe_callTy hc hg hm hv ha hn hdb he hpl) fun _ _ _ q => fsN hr q
end
end TR
namespace TR
open PySem PySem.Spec PyProof.Rows L2
abbrev FF := Env → R Env (Fl × Env)
section
variable (K : PySem.W.Frag) (mg : Str → Option Value) (W : WX)
def EndT (kp : Nat → Bool) (D : Ends) (σ : Stt) (H : Hp) (A : Fp) : R Env (Fl × Env) → Prop
  | .ok (.nx, ρ') => ∀ σ' H' Z' A', Good K Z' H' σ' ρ' A' → Step H A H' A' → Agree kp σ σ' → D.nx σ' H'
  | .ok (.bk, ρ') => ∀ σ' H' Z' A', Good K Z' H' σ' ρ' A' → Step H A H' A' → Agree kp σ σ' → D.bk σ' H'
  | .ok (.ct, ρ') => ∀ σ' H' Z' A', Good K Z' H' σ' ρ' A' → Step H A H' A' → Agree kp σ σ' → D.ct σ' H'
  | .ok (.rt t, ρ') => ∀ v σ' H' Z' A' B, Good K Z' H' σ' ρ' A' → Rep H' t v B → Disj B A' → Al H' B → Step H A H' (un A' B) → Agree kp σ σ' → D.rt v H'
  | .exc e ρ' => ∀ cls d σ' H' Z' A', Good K Z' H' σ' ρ' A' → Step H A H' A' → Agree kp σ σ' → ExcRep mg H' e cls d → W cls d σ' H'
  | .bad => False
end
section
variable {K : PySem.W.Frag} {mg : Str → Option Value} {W : WX} {kp : Nat → Bool} {D : Ends} {σ σ1 : Stt} {H H1 : Hp} {A A1 : Fp}
theorem Agree.refl : Agree kp σ σ := ⟨rfl, fun _ _ => rfl⟩
theorem Agree.trans {σ2 : Stt} (a : Agree kp σ σ1) (b : Agree kp σ1 σ2) : Agree kp σ σ2 := ⟨b.1.trans a.1, fun i h => (b.2 i h).trans (a.2 i h)⟩
theorem FT_iff {f : FF} : FT K mg W kp f D σ H ↔ ∃ ρ Z A, Good K Z H σ ρ A ∧ EndT K mg W kp D σ H A (f ρ) := by
  unfold FT EndT
  constructor
  · rintro ⟨ρ, Z, A, G, q⟩
    exact ⟨ρ, Z, A, G, q⟩
  · rintro ⟨ρ, Z, A, G, q⟩
    exact ⟨ρ, Z, A, G, q⟩
theorem EndT.after (st : Step H A H1 A1) (ag : Agree kp σ σ1) : ∀ {o : R Env (Fl × Env)}, EndT K mg W kp D σ H A o → EndT K mg W kp D σ1 H1 A1 o
  | .ok (.nx, _), q => fun σ' H' Z' A' G s a => q σ' H' Z' A' G (st.trans s) (ag.trans a)
  | .ok (.bk, _), q => fun σ' H' Z' A' G s a => q σ' H' Z' A' G (st.trans s) (ag.trans a)
  | .ok (.ct, _), q => fun σ' H' Z' A' G s a => q σ' H' Z' A' G (st.trans s) (ag.trans a)
  | .ok (.rt t, _), q => fun v σ' H' Z' A' B G r d al s a => q v σ' H' Z' A' B G r d al (st.trans s) (ag.trans a)
  | .exc e _, q => fun cls d σ' H' Z' A' G s a x => q cls d σ' H' Z' A' G (st.trans s) (ag.trans a) x
  | .bad, q => q
theorem EndT.next {D' : Ends} (hr : D'.rt = D.rt) (hb : D'.bk = D.bk) (hc : D'.ct = D.ct) {o : R Env (Fl × Env)} (h : EndT K mg W kp D σ H A o)
    (hn : ∀ ρ', o = .ok (.nx, ρ') → ∀ σ' H' Z' A', Good K Z' H' σ' ρ' A' → Step H A H' A' → Agree kp σ σ' → D'.nx σ' H') : EndT K mg W kp D' σ H A o := by
  match o, h with
  | .ok (.nx, ρ'), q => exact hn ρ' rfl
  | .ok (.bk, _), q => intro σ' H' Z' A' G s a; rw [hb]; exact q σ' H' Z' A' G s a
  | .ok (.ct, _), q => intro σ' H' Z' A' G s a; rw [hc]; exact q σ' H' Z' A' G s a
  | .ok (.rt t, _), q => intro v σ' H' Z' A' B G r d al s a; rw [hr]; exact q v σ' H' Z' A' B G r d al s a
  | .exc e _, q => exact q
  | .bad, q => exact q
end
def tNx : FF := fun ρ => .ok (.nx, ρ)
def tSq (f g : FF) : FF := fun ρ => match f ρ with
  | .ok (.nx, ρ1) => g ρ1
  | o => o
def liftQ {α : Type} (o : R Unit α) (ρ : Env) (f : α → R Env (Fl × Env)) : R Env (Fl × Env) := match o with
  | .ok a => f a
  | .exc e _ => .exc e ρ
  | .bad => .bad
@[simp] theorem liftQ_ok {α : Type} (a : α) (ρ : Env) (f : α → R Env (Fl × Env)) : liftQ (.ok a) ρ f = f a := nr rfl
@[simp] theorem liftQ_bad {α : Type} (ρ : Env) (f : α → R Env (Fl × Env)) : liftQ (.bad : R Unit α) ρ f = .bad := nr rfl
@[simp] theorem liftQ_exc {α : Type} (e : Exn) (r : Unit) (ρ : Env) (f : α → R Env (Fl × Env)) : liftQ (.exc e r : R Unit α) ρ f = .exc e ρ := nr rfl
def tIfQ (c : Env → R Unit Bool) (f g : FF) : FF := fun ρ => liftQ (c ρ) ρ fun b => if b = true then f ρ else g ρ
def tIfE (c : Env → R Env (Bool × Env)) (f g : FF) : FF := fun ρ => (c ρ).bind fun (b, ρ1) => if b = true then f ρ1 else g ρ1
def tSet (i : Nat) (f : Env → R Unit T) : FF := fun ρ => liftQ (f ρ) ρ fun t => if i < ρ.length then .ok (.nx, ρ.set i (.ow t)) else .bad
def tSetE (i : Nat) (f : Env → R Env (AV × Env)) : FF := fun ρ => (f ρ).bind fun (a, ρ1) => match a with
  | .val t => if i < ρ1.length then .ok (.nx, ρ1.set i (.ow t)) else .bad
  | .late j => match ((ρ1[j]?).bind Sl.t?) with
    | some (.pv p) => if i < ρ1.length then .ok (.nx, ρ1.set i (.ow (.pv p))) else .bad
    | _ => .bad
def tRetF (f : Env → R Unit T) : FF := fun ρ => liftQ (f ρ) ρ fun t => .ok (.rt t, ρ)
def tRetE (f : Env → R Env (AV × Env)) : FF := fun ρ => (f ρ).bind fun (a, ρ1) => match a with
  | .val t => .ok (.rt t, ρ1)
  | .late j => match ((ρ1[j]?).bind Sl.t?) with
    | some (.pv p) => .ok (.rt (.pv p), ρ1)
    | _ => .bad
def tExp (f : Env → R Unit T) : FF := fun ρ => liftQ (f ρ) ρ fun _ => .ok (.nx, ρ)
def tExpE (f : Env → R Env (AV × Env)) : FF := fun ρ => (f ρ).bind fun (_, ρ1) => .ok (.nx, ρ1)
def fMv (i : Nat) : Env → R Env (AV × Env) := fun ρ => match ρ[i]? with
  | some (.ow t) => .ok (.val t, ρ.set i .no)
  | some (.vw (.pv p)) => .ok (.val (.pv p), ρ)
  | _ => .bad
section
variable {X : Cx} {W : WX} {kp : Nat → Bool} {st : Stmt} {rest sts : List Stmt} {f g : FF} {e : Expr} {pos pos' : Pos}
theorem t_nil : JTs X W kp [] tNx := pssM pss_nil fun D σ H h => by
  obtain ⟨ρ, Z, A, G, q⟩ := FT_iff.mp h
  exact q σ H Z A G (Step.refl H A) Agree.refl
theorem t_one (h : JT X W kp st f) : JTs X W kp [st] f := pssM (pss_one h) fun _ _ _ q => q
theorem t_cons (h1 : JT X W kp st f) (h2 : JTs X W kp rest g) : JTs X W kp (st :: rest) (tSq f g) := pssM (pss_cons h1 h2) fun D σ H h => by
  obtain ⟨ρ, Z, A, G, q⟩ := FT_iff.mp h
  refine FT_iff.mpr ⟨ρ, Z, A, G, ?_⟩
  unfold tSq at q
  revert q
  match f ρ with
  | .ok (.nx, ρ1) => exact fun q σ' H' Z' A' G' s a => FT_iff.mpr ⟨ρ1, Z', A', G', EndT.after s a q⟩
  | .ok (.bk, _) => exact id
  | .ok (.ct, _) => exact id
  | .ok (.rt t, _) => exact id
  | .exc e _ => exact id
  | .bad => exact id
theorem t_pass : JT X W kp (.Pass pos) tNx := psM ps_pass fun D σ H h => by
  obtain ⟨ρ, Z, A, G, q⟩ := FT_iff.mp h
  exact q σ H Z A G (Step.refl H A) Agree.refl
theorem t_break : JT X W kp (.Break pos) (fun ρ => .ok (.bk, ρ)) := psM ps_break fun D σ H h => by
  obtain ⟨ρ, Z, A, G, q⟩ := FT_iff.mp h
  exact q σ H Z A G (Step.refl H A) Agree.refl
theorem t_continue : JT X W kp (.Continue pos) (fun ρ => .ok (.ct, ρ)) := psM ps_continue fun D σ H h => by
  obtain ⟨ρ, Z, A, G, q⟩ := FT_iff.mp h
  exact q σ H Z A G (Step.refl H A) Agree.refl
theorem t_never : JT X W kp st (fun _ => .bad) := psM ps_never fun D σ H h => by
  obtain ⟨ρ, Z, A, G, q⟩ := FT_iff.mp h
  exact q
theorem t_ifQ {c : Expr} {a b : List Stmt} {fc : Env → R Unit Bool} (hc : JQT X W c fc) (ha : JTs X W kp a f) (hb : JTs X W kp b g) : JT X W kp (.If c a b pos) (tIfQ fc f g) := psM (ps_if hc ha hb) fun D σ H h => by
  obtain ⟨ρ, Z, A, G, q⟩ := FT_iff.mp h
  refine ⟨ρ, Z, A, G, ?_⟩
  unfold tIfQ at q
  revert q
  cases fc ρ with
  | ok d =>
    intro q H1 e1
    rw [liftQ_ok] at q
    cases d with
    | true => exact FT_iff.mpr ⟨ρ, Z, A, G.ext e1, EndT.after (Step.ext0 e1) Agree.refl q⟩
    | false => exact FT_iff.mpr ⟨ρ, Z, A, G.ext e1, EndT.after (Step.ext0 e1) Agree.refl q⟩
  | exc e x => exact fun q cls d H' e2 x => q cls d σ H' Z A (G.ext e2) (Step.ext0 e2) Agree.refl x
  | bad => exact id
theorem t_ifE {c : Expr} {a b : List Stmt} {fc : Env → R Env (Bool × Env)} (hc : JST X W c fc) (ha : JTs X W kp a f) (hb : JTs X W kp b g) : JT X W kp (.If c a b pos) (tIfE fc f g) := psM (ps_if hc ha hb) fun D σ H h => by
  obtain ⟨ρ, Z, A, G, q⟩ := FT_iff.mp h
  refine ⟨ρ, Z, A, G, ?_⟩
  unfold tIfE at q
  revert q
  cases fc ρ with
  | ok d =>
    obtain ⟨d, ρ1⟩ := d
    intro q H1 A1 G1 s1
    simp only [R.bind_ok] at q
    cases d with
    | true => exact FT_iff.mpr ⟨ρ1, Z, A1, G1, EndT.after s1 Agree.refl q⟩
    | false => exact FT_iff.mpr ⟨ρ1, Z, A1, G1, EndT.after s1 Agree.refl q⟩
  | exc e x => exact fun q cls d H' A' G' s' x => q cls d σ H' Z A' G' s' Agree.refl x
  | bad => exact id
theorem set_same {α : Type} : ∀ {l : List α} {i : Nat} {a : α}, l[i]? = some a → l.set i a = l
  | [], _, _, h => by simp at h
  | x :: l, 0, a, h => by
    have e : x = a := by simpa using h
    subst e; rfl
  | x :: l, i + 1, a, h => by
    rw [List.set_cons_succ, set_same (by simpa using h)]
theorem Good.set {K : PySem.W.Frag} {Z A B : Fp} {H : Hp} {σ : Stt} {ρ : Env} {i : Nat} {t : T} {v : V} (G : Good K Z H σ ρ A) (hi : i < ρ.length) (r : Rep H t v B) (dB : Disj B A) (dZ : Disj B Z) (al : Al H B) :
    ∃ C, Good K Z H (σ.set i (some v)) (ρ.set i (.ow t)) C ∧ Sub C (un A B) := by
  obtain ⟨o, B0, C, h1, h2, h3, h4, h5, put⟩ := G.env.at (List.getElem?_eq_getElem hi)
  refine ⟨un B C, ⟨put H Z Kp.refl (fun _ h => h) (some v) (.ow t) B ⟨v, rfl, r⟩ fun a hb hc => dB a hb (h4 a hc), fun a hz hb => hb.elim (fun z => dZ a z hz) fun z => G.dis a hz (h4 a z), G.alZ, fun a ha => ha.elim (al a) fun z => G.alA a (h4 a z)⟩, fun a ha => ha.elim .inr fun z => .inl (h4 a z)⟩
theorem Agree.set {σ : Stt} {i : Nat} {o : Option V} (h : kp i = false) : Agree kp σ (σ.set i o) := ⟨by simp, fun j hj => by
  by_cases e : i = j
  · subst e; rw [h] at hj; cases hj
  · rw [List.getElem?_set_ne e]⟩
theorem fq_store {K : PySem.W.Frag} {mg : Str → Option Value} {D : Ends} {i : Nat} {f : Env → R Unit T} {σ : Stt} {H : Hp} (hk : kp i = false) (h : FT K mg W kp (tSet i f) D σ H) : FQ K mg W .o f σ H fun v H' => D.nx (σ.set i (some v)) H' := by
  obtain ⟨ρ, Z, A, G, q⟩ := FT_iff.mp h
  refine ⟨ρ, Z, A, G, ?_⟩
  unfold tSet at q
  revert q
  cases f ρ with
  | ok t =>
    intro q v H1 e1 r1
    obtain ⟨B, rb, fr, al⟩ := r1
    rw [liftQ_ok] at q
    by_cases hi : i < ρ.length
    · rw [if_pos hi] at q
      obtain ⟨C, G', s⟩ := (G.ext e1).set hi rb (fun a h1 h2 => G.alA a h2 (fr a h1)) (fun a h1 h2 => G.alZ a h2 (fr a h1)) al
      exact q _ H1 Z C G' ((Step.ext e1 fr).mono s) (Agree.set hk)
    · rw [if_neg hi] at q; exact q.elim
  | exc e x => exact fun q cls d H' e2 x => q cls d σ H' Z A (G.ext e2) (Step.ext0 e2) Agree.refl x
  | bad => exact id
theorem t_set (i : Nat) {x : Str} {f : Env → R Unit T} (hN : X.N.Nodup) (hi : X.N[i]? = some x) (hx : Loc X.env.scope x) (he : JQ X W .o e f) (hk : kp i = false := by rfl) (hs : swapsWith e (some (.Name x pos')) pos.line X.env = pure false := by rfl)
    (hf : X.fn x = true ∨ X.env.scope.names.lookup x = some .local := by first | exact .inl rfl | exact .inr rfl | assumption) : JT X W kp (.Assign [.Name x pos'] e pos) (tSet i f) := psM (ps_set (i := i) hN hi hx he hs hf) fun D σ H h => fq_store hk h
theorem late_pure {K : PySem.W.Frag} {Z A : Fp} {H : Hp} {σ : Stt} {ρ : Env} {j : Nat} {p : P} {v : V} (g : Good K Z H σ ρ A) (r : σ[j]? = some (some v)) (e : (ρ[j]?).bind Sl.t? = some (.pv p)) : RepP H p v :=
  see_vw (a := .late j) (B := emp) g r e
theorem fs_store {K : PySem.W.Frag} {mg : Str → Option Value} {D : Ends} {i : Nat} {f : Env → R Env (AV × Env)} {σ : Stt} {H : Hp} (hk : kp i = false) (h : FT K mg W kp (tSetE i f) D σ H) : FS K mg W f σ H fun v H' => D.nx (σ.set i (some v)) H' := by
  obtain ⟨ρ, Z, A, G, q⟩ := FT_iff.mp h
  refine ⟨ρ, Z, A, G, ?_⟩
  unfold tSetE at q
  revert q
  cases f ρ with
  | ok a =>
    obtain ⟨a, ρ1⟩ := a
    intro q v H1 A1 B G1 r d al s1
    simp only [R.bind_ok] at q
    cases a with
    | val t =>
      dsimp only at q
      by_cases hi : i < ρ1.length
      · rw [if_pos hi] at q
        have dz : Disj B Z := fun a h1 h2 => (s1.sub a (.inr h1)).elim (fun z => G.dis a h2 z) fun z => G.alZ a h2 z
        obtain ⟨C, G', s⟩ := G1.set hi r d dz al
        exact q _ H1 Z C G' (s1.mono s) (Agree.set hk)
      · rw [if_neg hi] at q; exact q.elim
    | late j =>
      dsimp only at q
      split at q
      · rename_i p e
        by_cases hi : i < ρ1.length
        · rw [if_pos hi] at q
          obtain ⟨C, G', s⟩ := G1.set (t := .pv p) (B := emp) hi (late_pure G1 r e) (fun _ z => z.elim) (fun _ z => z.elim) (fun _ z => z.elim)
          exact q _ H1 Z C G' (s1.mono fun a ha => (s a ha).elim .inl fun z => z.elim) (Agree.set hk)
        · rw [if_neg hi] at q; exact q.elim
      · exact q.elim
  | exc e x => exact fun q cls d H' A' G' s' x => q cls d σ H' Z A' G' s' Agree.refl x
  | bad => exact id
theorem t_setE (i : Nat) {x : Str} {f : Env → R Env (AV × Env)} (hN : X.N.Nodup) (hi : X.N[i]? = some x) (hx : Loc X.env.scope x) (he : JS X W e f) (hk : kp i = false := by rfl) (hs : swapsWith e (some (.Name x pos')) pos.line X.env = pure false := by rfl)
    (hf : X.fn x = true ∨ X.env.scope.names.lookup x = some .local := by first | exact .inl rfl | exact .inr rfl | assumption) : JT X W kp (.Assign [.Name x pos'] e pos) (tSetE i f) := psM (ps_set (i := i) hN hi hx he hs hf) fun D σ H h => fs_store hk h
theorem t_ret {f : Env → R Unit T} (he : JQ X W .o e f) : JT X W kp (.Return (some e) pos) (tRetF f) := psM (ps_ret he) fun D σ H h => by
  obtain ⟨ρ, Z, A, G, q⟩ := FT_iff.mp h
  refine ⟨ρ, Z, A, G, ?_⟩
  unfold tRetF at q
  revert q
  cases f ρ with
  | ok t => exact fun q v H1 e1 ⟨B, rb, fr, al⟩ => q v σ H1 Z A B (G.ext e1) rb (fun a h1 h2 => G.alA a h2 (fr a h1)) al (Step.ext e1 fr) Agree.refl
  | exc e x => exact fun q cls d H' e2 x => q cls d σ H' Z A (G.ext e2) (Step.ext0 e2) Agree.refl x
  | bad => exact id
theorem t_retE {f : Env → R Env (AV × Env)} (he : JS X W e f) : JT X W kp (.Return (some e) pos) (tRetE f) := psM (ps_ret he) fun D σ H h => by
  obtain ⟨ρ, Z, A, G, q⟩ := FT_iff.mp h
  refine ⟨ρ, Z, A, G, ?_⟩
  unfold tRetE at q
  revert q
  cases f ρ with
  | ok a =>
    obtain ⟨a, ρ1⟩ := a
    intro q v H1 A1 B G1 r d al s1
    simp only [R.bind_ok] at q
    cases a with
    | val t => exact q v σ H1 Z A1 B G1 r d al s1 Agree.refl
    | late j =>
      dsimp only at q
      split at q
      · rename_i p e
        exact q v σ H1 Z A1 emp G1 (late_pure G1 r e) (fun _ z => z.elim) (fun _ z => z.elim) (s1.mono fun a ha => ha.elim .inl fun z => z.elim) Agree.refl
      · exact q.elim
  | exc e x => exact fun q cls d H' A' G' s' x => q cls d σ H' Z A' G' s' Agree.refl x
  | bad => exact id
theorem t_retN : JT X W kp (.Return none pos) (fun ρ => .ok (.rt (.pv .non), ρ)) := psM ps_retN fun D σ H h => by
  obtain ⟨ρ, Z, A, G, q⟩ := FT_iff.mp h
  exact q .non σ H Z A emp G rfl (fun _ z => z.elim) (fun _ z => z.elim) ((Step.refl H A).mono fun a ha => ha.elim id fun z => z.elim) Agree.refl
theorem t_exp {f : Env → R Unit T} (he : JQ X W .e e f) (hs : swapsWith e none pos.line X.env = pure false := by rfl) : JT X W kp (.Expr e pos) (tExp f) := psM (ps_expr he hs) fun D σ H h => by
  obtain ⟨ρ, Z, A, G, q⟩ := FT_iff.mp h
  refine ⟨ρ, Z, A, G, ?_⟩
  unfold tExp at q
  revert q
  cases f ρ with
  | ok t => exact fun q v H1 e1 _ => q σ H1 Z A (G.ext e1) (Step.ext0 e1) Agree.refl
  | exc e x => exact fun q cls d H' e2 x => q cls d σ H' Z A (G.ext e2) (Step.ext0 e2) Agree.refl x
  | bad => exact id
theorem t_expE {f : Env → R Env (AV × Env)} (he : JS X W e f) (hs : swapsWith e none pos.line X.env = pure false := by rfl) : JT X W kp (.Expr e pos) (tExpE f) := psM (ps_expr he hs) fun D σ H h => by
  obtain ⟨ρ, Z, A, G, q⟩ := FT_iff.mp h
  refine ⟨ρ, Z, A, G, ?_⟩
  unfold tExpE at q
  revert q
  cases f ρ with
  | ok a =>
    obtain ⟨a, ρ1⟩ := a
    intro q v H1 A1 B G1 r d al s1
    exact q σ H1 Z A1 G1 (s1.mono fun _ h => .inl h) Agree.refl
  | exc e x => exact fun q cls d H' A' G' s' x => q cls d σ H' Z A' G' s' Agree.refl x
  | bad => exact id
theorem t_doc {x : Str} {j : Nat} : JT X W kp (.Expr (.Constant (.str x) j pos) pos') tNx := psM ps_doc fun D σ H h => by
  obtain ⟨ρ, Z, A, G, q⟩ := FT_iff.mp h
  exact q σ H Z A G (Step.refl H A) Agree.refl
theorem s_mv (i : Nat) {x : Str} {pos : Pos} (hN : X.N[i]? = some x := by rfl) (hv : Vis X.env.scope x := by first | exact Or.inl rfl | exact Or.inr (Or.inl rfl) | exact Or.inr (Or.inr rfl)) (hd : (x == ("__debug__" : Str)) = false := by decide)
    (hcd : (x == ("__classdict__" : Str)) = false := by decide) : JS X W (.Name x pos) (fMv i) := by
  refine peM (pe_var (i := i) hN hv hd hcd) fun σ H Q ⟨ρ, Z, A, G, q⟩ => ?_
  unfold fMv at q
  cases e : ρ[i]? with
  | none => rw [e] at q; exact q.elim
  | some s =>
    rw [e] at q
    obtain ⟨o, B, C, h1, h2, h3, h4, h5, put⟩ := G.env.at e
    cases s with
    | no => exact q.elim
    | ow t =>
      obtain ⟨v, e1, r⟩ := h2
      have G' := put H Z Kp.refl (fun _ h => h) o .no emp trivial (fun _ z => z.elim)
      rw [set_same h1] at G'
      refine ⟨v, by rw [h1, e1], q v H (un emp C) B ⟨G', fun a hz h => h.elim (fun z => z.elim) fun z => G.dis a hz (h4 a z), G.alZ, fun a h => h.elim (fun z => z.elim) fun z => G.alA a (h4 a z)⟩ r (fun a hb h => h.elim (fun z => z.elim) fun z => h5 a hb z) (fun a hb => G.alA a (h3 a hb)) ?_⟩
      exact (Step.refl H A).mono fun a h => h.elim (fun z => z.elim (fun y => y.elim) fun y => h4 a y) fun z => h3 a z
    | vw t =>
      cases t with
      | pv p =>
        obtain ⟨v, e1, r⟩ := h2
        exact ⟨v, by rw [h1, e1], q v H A emp G r (fun _ z => z.elim) (fun _ z => z.elim) ((Step.refl H A).mono fun a ha => ha.elim id fun z => z.elim)⟩
      | _ => exact q.elim
end
end TR
namespace TR
open PySem PySem.Spec PyProof.Rows L2
abbrev Fn := Env → R Env (T × Env)
def maskE : List Bool → Env → Env
  | b :: bs, s :: ρ => (if b = true then s else .no) :: maskE bs ρ
  | _, _ => []
def kpOf (io : List Bool) : Nat → Bool := fun i => io.getD i false
def fnOf (io : List Bool) (n : Nat) (b : FF) : Fn := fun ρ => if ρ.length = io.length then (match b (ρ ++ List.replicate (n - io.length) .no) with
  | .ok (.rt t, ρ') => .ok (t, maskE io ρ')
  | .ok (.nx, ρ') => .ok (.pv .non, maskE io ρ')
  | .exc e ρ' => .exc e (maskE io ρ')
  | _ => .bad) else .bad
def spF (K : PySem.W.Frag) (mg : Str → Option Value) (g : Fn) : Sp := fun vs H Q E => ∃ ρ Z A, Good K Z H (vs.map some) ρ A ∧ match g ρ with
  | .ok (t, ρ') => ∀ v H' Z' A' B, Good K Z' H' (vs.map some) ρ' A' → Rep H' t v B → Disj B A' → Al H' B → Step H A H' (un A' B) → Q v H'
  | .exc e ρ' => ∀ cls d H' Z' A', Good K Z' H' (vs.map some) ρ' A' → Step H A H' A' → ExcRep mg H' e cls d → E cls d H'
  | .bad => False
section
variable {K : PySem.W.Frag} {mg : Str → Option Value}
theorem maskE_len : ∀ (io : List Bool) (ρ : Env), io.length ≤ ρ.length → (maskE io ρ).length = io.length
  | [], _, _ => by simp [maskE]
  | b :: io, [], h => by simp at h
  | b :: io, s :: ρ, h => by simp [maskE, maskE_len io ρ (by simpa using h)]
theorem mask_env {Z : Fp} {H : Hp} : ∀ {io : List Bool} {vs : List V} {σ : Stt} {ρ : Env} {A : Fp}, EnvRep K Z H σ ρ A → io.length = vs.length → vs.length ≤ σ.length → (∀ i, io.getD i false = true → σ[i]? = (vs.map some)[i]?) → EnvRep K Z H (vs.map some) (maskE io ρ) A
  | [], [], σ, ρ, A, _, _, _, _ => by simp [maskE, EnvRep]
  | b :: io, v :: vs, o :: σ, s :: ρ, A, h, hl, hn, hk => by
    obtain ⟨B, C, h1, h2, s1, s2, d⟩ := h
    have ih : EnvRep K Z H (vs.map some) (maskE io ρ) C := mask_env h2 (by simpa using hl) (by simpa using hn) fun i hi => by
      have := hk (i + 1) (by simpa using hi)
      simpa using this
    refine ⟨B, C, ?_, ih, s1, s2, d⟩
    cases b with
    | false => simp [SlRep]
    | true =>
      have e := hk 0 (by simp)
      have e' : o = some v := by simpa using e
      subst e'
      simpa using h1
  | b :: io, [], _, _, _, _, hl, _, _ => by simp at hl
  | [], v :: vs, _, _, _, _, hl, _, _ => by simp at hl
  | b :: io, v :: vs, [], _, _, _, _, hn, _ => by simp at hn
  | b :: io, v :: vs, o :: σ, [], _, h, _, _, _ => h.elim
theorem env_app {Z : Fp} {H : Hp} : ∀ {σ : Stt} {ρ : Env} {A : Fp} (n : Nat), EnvRep K Z H σ ρ A → EnvRep K Z H (σ ++ List.replicate n none) (ρ ++ List.replicate n .no) A
  | [], [], A, 0, _ => trivial
  | [], [], A, n + 1, _ => by
    show EnvRep K Z H (List.replicate (n + 1) none) (List.replicate (n + 1) .no) A
    rw [List.replicate_succ, List.replicate_succ]
    exact ⟨emp, A, trivial, env_app (σ := []) (ρ := []) n trivial, fun _ z => z.elim, fun _ h => h, fun _ z => z.elim⟩
  | o :: σ, s :: ρ, A, n, h => by
    obtain ⟨B, C, h1, h2, s1, s2, d⟩ := h
    exact ⟨B, C, h1, env_app n h2, s1, s2, d⟩
  | [], _ :: _, _, _, h => h.elim
  | _ :: _, [], _, _, h => h.elim
variable {P : Program} {w : World} {base : Heap}
theorem fun_ok {x qual : Str} {st : Stmt} {f : Addr} {fd : FuncData} {N ps : List Str} {k : Nat} (io : List Bool) {b : FF} (F : Fun K x qual st f fd) (S : FnScope N ps (defScope st)) (hio : io.length = ps.length) (hN : ps.length ≤ N.length)
    (hb : ∀ (cdv : Value) (A : Around) (outer : List PySem.Env) (s : Shared) (H : Hp) (E : XK), Room k (A.deeper (envOfC qual (defScope st) s.heap.objs.size f cdv)) →
      JTs (cxOf (L2.CX P w) P w K mg base N qual (defScope st) f cdv A outer s H E) (fun cls d _ H => E cls d H) (kpOf io) (defBody st) b) :
    FnOk P w K mg base (L2.CX P w) (k + 1) f fd ps (spF K mg (fnOf io N.length b)) := by
  have hlen : ∀ vs H Q E, spF K mg (fnOf io N.length b) vs H Q E → vs.length = ps.length := by
    intro vs H Q E h
    obtain ⟨ρ, Z, A, G, q⟩ := h
    have e := G.env.len
    unfold fnOf at q
    by_cases hr : ρ.length = io.length
    · rw [← hio, ← hr, ← e]; simp
    · rw [if_neg hr] at q; exact q.elim
  refine F.okX S hlen fun cdv A outer s H vs Q E hr h => ⟨_, hb cdv A outer s H E hr, ?_⟩
  have hvl := hlen vs H Q E h
  obtain ⟨ρ, Z, A1, G, q⟩ := h
  have e := G.env.len
  unfold fnOf at q
  by_cases hr : ρ.length = io.length
  · rw [if_pos hr] at q
    have hst : L2.start N vs = vs.map some ++ List.replicate (N.length - io.length) none := by unfold L2.start; rw [hvl, hio]
    have G' : Good K Z H (L2.start N vs) (ρ ++ List.replicate (N.length - io.length) .no) A1 := ⟨by rw [hst]; exact env_app _ G.env, G.dis, G.alZ, G.alA⟩
    refine FT_iff.mpr ⟨_, Z, A1, G', ?_⟩
    have bk : ∀ {σ' : Stt} {H' : Hp} {Z' A' : Fp} {ρ' : Env}, Good K Z' H' σ' ρ' A' → Agree (kpOf io) (L2.start N vs) σ' → Good K Z' H' (vs.map some) (maskE io ρ') A' := fun {σ' H' Z' A' ρ'} g a =>
      ⟨mask_env g.env (by rw [hvl, hio]) (by rw [a.1, hst]; simp) fun i hi => by
        rw [a.2 i hi, hst]
        have hi2 : i < io.length := by
          rcases Nat.lt_or_ge i io.length with z | z
          · exact z
          · rw [List.getD_eq_getElem?_getD, List.getElem?_eq_none z] at hi; cases hi
        rw [List.getElem?_append_left (by simp; omega)], g.dis, g.alZ, g.alA⟩
    generalize b (ρ ++ List.replicate (N.length - io.length) .no) = o at q ⊢
    match o, q with
    | .ok (.rt t, ρ'), q => exact fun v σ' H' Z' A' B g r d al s a => q v H' Z' A' B (bk g a) r d al s
    | .ok (.nx, ρ'), q => exact fun σ' H' Z' A' g s a => q .non H' Z' A' emp (bk g a) rfl (fun _ z => z.elim) (fun _ z => z.elim) (s.mono fun a h => h.elim id fun z => z.elim)
    | .ok (.bk, _), q => exact q.elim
    | .ok (.ct, _), q => exact q.elim
    | .exc e ρ', q => exact fun cls d σ' H' Z' A' g s a x => q cls d H' Z' A' (bk g a) s x
    | .bad, q => exact q.elim
  · rw [if_neg hr] at q; exact q.elim
def argSl : T → Sl
  | .pv p => .ow (.pv p)
  | t => .vw t
def fCall (g : Fn) (fa : Env → R Unit (List T)) : Env → R Unit T := fun ρ => (fa ρ).bind fun ts => match g (ts.map argSl) with
  | .ok (t, _) => .ok t
  | .exc e _ => .exc e ()
  | .bad => .bad
mutual
theorem Vw.alloc {H : Hp} : ∀ (t : T) (v : V), Vw K top H t v → Vw K (fun b => H b ≠ none) H t v
  | .pv p, v, h => h
  | .tup ts, _, h => by
    obtain ⟨a, xs, e, q, r⟩ := h
    exact ⟨a, xs, e, q, Vws.alloc ts xs r⟩
  | .lst ts, _, h => by
    obtain ⟨a, xs, e, q, r⟩ := h
    exact ⟨a, xs, e, ⟨q.1, by show H a ≠ none; rw [q.1]; intro z; cases z⟩, Vws.alloc ts xs r⟩
  | .fls ts, _, h => by
    obtain ⟨a, xs, e, q, r⟩ := h
    exact ⟨a, xs, e, q, Vws.alloc ts xs r⟩
  | .dct tk ks ts, _, h => by
    obtain ⟨a, xs, e, q, r⟩ := h
    exact ⟨a, xs, e, q.imp fun o h => h.imp (fun z => ⟨z.1, by show H a ≠ none; rw [z.1]; intro z; cases z⟩) id, Vws.alloc ts xs r⟩
theorem Vws.alloc {H : Hp} : ∀ (ts : List T) (xs : List V), Vws K top H ts xs → Vws K (fun b => H b ≠ none) H ts xs
  | [], _, h => h
  | t :: ts, _, h => by
    obtain ⟨x, r, e, h1, h2⟩ := h
    exact ⟨x, r, e, Vw.alloc t x h1, Vws.alloc ts r h2⟩
end
theorem args_env {Z : Fp} {H : Hp} : ∀ {ts : List T} {vs : List V}, Vws K Z H ts vs → EnvRep K Z H (vs.map some) (ts.map argSl) emp
  | [], _, h => by
    have e : _ = [] := h
    subst e
    trivial
  | t :: ts, _, h => by
    obtain ⟨x, r, e, h1, h2⟩ := h
    subst e
    refine ⟨emp, emp, ?_, args_env h2, fun _ z => z, fun _ z => z, fun _ z => z.elim⟩
    cases t with
    | pv p => exact ⟨x, rfl, h1⟩
    | _ => exact ⟨x, rfl, h1⟩
end
section
variable {X : Cx} {W : WX} {k : Nat} {f : Addr} {fd : FuncData} {ps : List Str} {x : Str} {p pos : Pos} {e : Expr} {es : List Expr}
structure Cal (X : Cx) (k : Nat) (x : Str) (g : Fn) : Prop where
  ex : ∃ (f : Addr) (fd : FuncData) (ps : List Str), FnOk X.prog X.w X.K X.mg X.base (L2.CX X.prog X.w) k f fd ps (spF X.K X.mg g) ∧ X.mg x = some (.ref f) ∧ PySem.W.keepIn X.K (.ref f) = true ∧ Binds X.K fd ps []
theorem q_call {g : Fn} {fas : Env → R Unit (List T)} (tk : Takes X W) (c : Cal X k x g) (hr : Room k X.A) (hg : Gl X x) (ha : JQA X W (e :: es) fas) (hdb : (x == ("__debug__" : Str)) = false := by decide)
    (he : starEach (e :: es) X.env = (false, eval e X.env) :: starEach es X.env := by rfl) (hpl : (backTo pos (starEach es X.env)).any (·.1) = false := by rfl) : JQ X W .o (.Call (.Name x p) (e :: es) [] pos) (fCall g fas) := by
  obtain ⟨f, fd, ps, F, hm, hk, hb⟩ := c.ex
  refine peM (pe_callS F hr hg hm hk hb (fun σ => passAt tk σ) ha hdb he hpl) fun σ H Q ⟨ρ, Z, A, G, q⟩ => ⟨ρ, Z, A, G, ?_⟩
  revert q
  unfold fCall
  cases fas ρ with
  | ok ts =>
    intro q vs H1 e1 r1
    rw [R.bind_ok] at q
    refine ⟨ts.map argSl, fun b => H1 b ≠ none, emp, ⟨args_env (Vws.alloc ts vs r1), fun _ _ z => z, fun _ h => h, fun _ z => z.elim⟩, ?_⟩
    revert q
    have ext : ∀ {H' : Hp} {A' : Fp}, Step H1 emp H' A' → Ext H1 H' := fun s b o h => s.keep b o h fun z => z.elim
    match g (ts.map argSl) with
    | .ok (t, ρ') => exact fun q v H' Z' A' B g r d al s => q v H' (e1.trans (ext s)) ⟨B, r, fun a ha => e1.fresh ((s.sub a (.inr ha)).elim (fun z => z.elim) id), al⟩
    | .exc e ρ' => exact fun q cls d H' Z' A' g s x => q cls d H' (e1.trans (ext s)) x
    | .bad => exact fun q => q.elim
  | exc e x => exact fun q => q
  | bad => exact fun q => q.elim
end
end TR
namespace TR
open PySem PySem.Spec PyProof.Rows L2
abbrev TgF := Sl → Env → Option Env
def SlAt (K : PySem.W.Frag) (Z : Fp) (H : Hp) (s : Sl) (v : V) (B : Fp) : Prop := SlRep K Z H (some v) s B ∧ s ≠ .no
def FG (K : PySem.W.Frag) (kp : Nat → Bool) (tg : TgF) : TG := fun v σ H Q => ∃ ρ Z A s B, Good K Z H σ ρ A ∧ SlRep K Z H (some v) s B ∧ Disj B A ∧ Disj B Z ∧ Al H B ∧ match tg s ρ with
  | some ρ' => ∀ σ' A', Good K Z H σ' ρ' A' → Sub A' (un A B) → Agree kp σ σ' → Q σ' H
  | none => False
def JG (X : Cx) (kp : Nat → Bool) (e : Expr) (tg : TgF) : Prop := PG X e (FG X.K kp tg)
def SlReps (K : PySem.W.Frag) (Z : Fp) (H : Hp) : List Sl → List V → Fp → Prop
  | [], vs, _ => vs = []
  | s :: ss, vs, A => ∃ v r B C, vs = v :: r ∧ SlRep K Z H (some v) s B ∧ SlReps K Z H ss r C ∧ Sub B A ∧ Sub C A ∧ Disj B C
abbrev TgsF := List Sl → Env → Option Env
def FGs (K : PySem.W.Frag) (kp : Nat → Bool) (tg : TgsF) : TGs := fun vs σ H Q => ∃ ρ Z A ss B, Good K Z H σ ρ A ∧ SlReps K Z H ss vs B ∧ Disj B A ∧ Disj B Z ∧ Al H B ∧ match tg ss ρ with
  | some ρ' => ∀ σ' A', Good K Z H σ' ρ' A' → Sub A' (un A B) → Agree kp σ σ' → Q σ' H
  | none => False
def JGs (X : Cx) (kp : Nat → Bool) (es : List Expr) (tg : TgsF) : Prop := PGs X es (FGs X.K kp tg)
def gN (i : Nat) : TgF := fun s ρ => if i < ρ.length then some (ρ.set i s) else none
def gsNil : TgsF := fun ss ρ => match ss with
  | [] => some ρ
  | _ => none
def gsCons (g : TgF) (gs : TgsF) : TgsF := fun ss ρ => match ss with
  | s :: r => (g s ρ).bind fun ρ1 => gs r ρ1
  | [] => none
def parts : Sl → Option (List Sl)
  | .ow (.pv (.tup ps)) => some (ps.map fun p => .ow (.pv p))
  | .vw (.pv (.tup ps)) => some (ps.map fun p => .ow (.pv p))
  | .ow (.tup ts) => some (ts.map .ow)
  | .vw (.tup ts) => some (ts.map argSl)
  | _ => none
def partsL : Sl → Option (List Sl)
  | .ow (.lst ts) => some (ts.map .ow)
  | .vw (.lst ts) => some (ts.map argSl)
  | _ => none
def gT (gs : TgsF) : TgF := fun s ρ => (parts s).bind fun ss => gs ss ρ
def gL (gs : TgsF) : TgF := fun s ρ => (partsL s).bind fun ss => gs ss ρ
section
variable {X : Cx} {kp : Nat → Bool} {K : PySem.W.Frag}
theorem Good.setS {Z A B : Fp} {H : Hp} {σ : Stt} {ρ : Env} {i : Nat} {s : Sl} {o : Option V} (G : Good K Z H σ ρ A) (hi : i < ρ.length) (r : SlRep K Z H o s B) (dB : Disj B A) (dZ : Disj B Z) (al : Al H B) :
    ∃ C, Good K Z H (σ.set i o) (ρ.set i s) C ∧ Sub C (un A B) := by
  obtain ⟨o1, B0, C, h1, h2, h3, h4, h5, put⟩ := G.env.at (List.getElem?_eq_getElem hi)
  refine ⟨un B C, ⟨put H Z Kp.refl (fun _ h => h) o s B r fun a hb hc => dB a hb (h4 a hc), fun a hz hb => hb.elim (fun z => dZ a z hz) fun z => G.dis a hz (h4 a z), G.alZ, fun a ha => ha.elim (al a) fun z => G.alA a (h4 a z)⟩, fun a ha => ha.elim .inr fun z => .inl (h4 a z)⟩
theorem g_name (i : Nat) {x : Str} {pos : Pos} (hN : X.N.Nodup) (hi : X.N[i]? = some x) (hx : Loc X.env.scope x) (hk : kp i = false := by rfl) (hf : X.fn x = true ∨ X.env.scope.names.lookup x = some .local := by first | exact .inl rfl | exact .inr rfl | assumption) : JG X kp (.Name x pos) (gN i) := by
  refine ⟨fun pins s σ H v u Q I r h => (pg_name (i := i) hN hi hx hf).run pins s σ H v u Q I r ?_⟩
  obtain ⟨ρ, Z, A, sl, B, G, rs, d1, d2, al, q⟩ := h
  unfold gN at q
  by_cases hi : i < ρ.length
  · rw [if_pos hi] at q
    obtain ⟨C, G', s⟩ := G.setS hi rs d1 d2 al
    exact q _ C G' s (Agree.set hk)
  · rw [if_neg hi] at q; exact q.elim
theorem gs_nil : JGs X kp [] gsNil := by
  refine ⟨fun pins s σ H vs us Q I r h => pgs_nil.run pins s σ H vs us Q I r ?_⟩
  obtain ⟨ρ, Z, A, ss, B, G, rs, d1, d2, al, q⟩ := h
  unfold gsNil at q
  cases ss with
  | nil => exact ⟨rs, q σ A G (fun _ h => .inl h) Agree.refl⟩
  | cons a b => exact q.elim
theorem SlReps.imp {Z Z' : Fp} {H : Hp} : ∀ {ss : List Sl} {vs : List V} {A B : Fp}, SlReps K Z H ss vs A → Sub A B → Sub Z Z' → SlReps K Z' H ss vs B
  | [], _, _, _, h, _, _ => h
  | s :: ss, _, _, _, ⟨v, r, C, D, e, h1, h2, s1, s2, d⟩, sb, sz => ⟨v, r, C, D, e, h1.mono (fun _ h => h) sz, h2.imp (fun _ h => h) sz, fun a h => sb a (s1 a h), fun a h => sb a (s2 a h), d⟩
theorem gs_cons {e : Expr} {es : List Expr} {g : TgF} {gs : TgsF} (h1 : JG X kp e g) (h2 : JGs X kp es gs) (hs : (assignEach (e :: es) X.env).map (·.2) = assign e X.env :: (assignEach es X.env).map (·.2) := by rfl) : JGs X kp (e :: es) (gsCons g gs) := by
  refine ⟨fun pins s σ H vs us Q I r h => (pgs_cons h1 h2 hs).run pins s σ H vs us Q I r ?_⟩
  obtain ⟨ρ, Z, A, ss, B, G, rs, d1, d2, al, q⟩ := h
  cases ss with
  | nil => exact q.elim
  | cons s ss =>
    obtain ⟨v, r', C, D, e1, h1', h2', s1, s2, d⟩ := rs
    refine ⟨v, r', e1, ρ, Z, A, s, C, G, h1', fun a h => d1 a (s1 a h), fun a h => d2 a (s1 a h), fun a h => al a (s1 a h), ?_⟩
    unfold gsCons at q
    dsimp only at q
    cases hg : g s ρ with
    | none => rw [hg] at q; exact q.elim
    | some ρ1 =>
      rw [hg] at q
      intro σ1 A1 G1 sA ag
      refine ⟨ρ1, Z, A1, ss, D, G1, h2', fun a h1 h2 => (sA a h2).elim (fun z => d1 a (s2 a h1) z) fun z => d a z h1, fun a h => d2 a (s2 a h), fun a h => al a (s2 a h), ?_⟩
      dsimp only [Option.bind_some] at q
      cases hg2 : gs ss ρ1 with
      | none => rw [hg2] at q; exact q.elim
      | some ρ2 =>
        rw [hg2] at q
        exact fun σ' A' G' sA' ag' => q σ' A' G' (fun a h => (sA' a h).elim (fun z => (sA a z).elim .inl fun y => .inr (s1 a y)) fun z => .inr (s2 a z)) (ag.trans ag')
theorem reps_sl {Z : Fp} {H : Hp} : ∀ {ts : List T} {vs : List V} {A : Fp}, Reps H ts vs A → SlReps K Z H (ts.map .ow) vs A
  | [], _, _, h => h
  | t :: ts, _, _, ⟨v, r, B, C, e, h1, h2, s1, s2, d⟩ => ⟨v, r, B, C, e, ⟨v, rfl, h1⟩, reps_sl h2, s1, s2, d⟩
theorem vws_sl {Z : Fp} {H : Hp} : ∀ {ts : List T} {vs : List V} {A : Fp}, Vws K Z H ts vs → SlReps K Z H (ts.map argSl) vs A
  | [], _, _, h => h
  | t :: ts, _, _, ⟨v, r, e, h1, h2⟩ => ⟨v, r, emp, emp, e, by
      cases t with
      | pv p => exact ⟨v, rfl, h1⟩
      | _ => exact ⟨v, rfl, h1⟩, vws_sl h2, fun _ z => z.elim, fun _ z => z.elim, fun _ z => z.elim⟩
theorem pps_sl {Z : Fp} {H : Hp} : ∀ {ps : List P} {vs : List V} {A : Fp}, RepPs H ps vs → SlReps K Z H (ps.map fun p => .ow (.pv p)) vs A
  | [], _, _, h => h
  | t :: ts, _, _, ⟨v, r, e, h1, h2⟩ => ⟨v, r, emp, emp, e, ⟨v, rfl, h1⟩, pps_sl h2, fun _ z => z.elim, fun _ z => z.elim, fun _ z => z.elim⟩
theorem parts_ok {Z B : Fp} {H : Hp} {s : Sl} {v : V} {ss : List Sl} (r : SlRep K Z H (some v) s B) (e : parts s = some ss) : ∃ a xs, v = .ref a ∧ SqT K H a xs ∧ SlReps K Z H ss xs B := by
  cases s with
  | no => cases e
  | ow t =>
    obtain ⟨w, e1, r⟩ := r
    cases e1
    cases t with
    | pv p =>
      cases p with
      | tup ps =>
        cases e
        obtain ⟨a, xs, e, q, r⟩ := r
        exact ⟨a, xs, e, .of q, pps_sl r⟩
      | _ => cases e
    | tup ts =>
      cases e
      obtain ⟨a, xs, e, q, r⟩ := r
      exact ⟨a, xs, e, .of q, reps_sl r⟩
    | _ => cases e
  | vw t =>
    obtain ⟨w, e1, r⟩ := r
    cases e1
    cases t with
    | pv p =>
      cases p with
      | tup ps =>
        cases e
        obtain ⟨a, xs, e, q, r⟩ := r
        exact ⟨a, xs, e, .of q, pps_sl r⟩
      | _ => cases e
    | tup ts =>
      cases e
      obtain ⟨a, xs, e, q, r⟩ := r
      exact ⟨a, xs, e, .of q, vws_sl r⟩
    | _ => cases e
theorem SlReps.len {Z : Fp} {H : Hp} : ∀ {ss : List Sl} {vs : List V} {A : Fp}, SlReps K Z H ss vs A → vs.length = ss.length
  | [], _, _, h => by
    have e : _ = [] := h
    subst e; rfl
  | s :: ss, _, _, ⟨v, r, C, D, e, h1, h2, s1, s2, d⟩ => by subst e; simp [SlReps.len h2]
theorem RdL.sq {Z : Fp} {H : Hp} {a : Addr} {xs : List V} (h : RdL K Z H a xs) : SqL K H a xs := .inl (.inl h.1)
theorem FrL.sq {H : Hp} {a : Addr} {xs : List V} (h : FrL K H a xs) : SqL K H a xs := h.elim (fun z => .inl (.inr z)) .inr
theorem partsL_ok {Z B : Fp} {H : Hp} {s : Sl} {v : V} {ss : List Sl} (r : SlRep K Z H (some v) s B) (e : partsL s = some ss) : ∃ a xs, v = .ref a ∧ SqL K H a xs ∧ SlReps K Z H ss xs B := by
  cases s with
  | no => cases e
  | ow t =>
    obtain ⟨w, e1, r⟩ := r
    cases e1
    cases t with
    | lst ts =>
      cases e
      obtain ⟨a, xs, e, q, m, r⟩ := r
      exact ⟨a, xs, e, .of q, (reps_sl r).imp (fun b h => h.1) fun _ h => h⟩
    | _ => cases e
  | vw t =>
    obtain ⟨w, e1, r⟩ := r
    cases e1
    cases t with
    | lst ts =>
      cases e
      obtain ⟨a, xs, e, q, r⟩ := r
      exact ⟨a, xs, e, q.sq, vws_sl r⟩
    | _ => cases e
theorem FGs.len {n : Nat} {gs : TgsF} (hn : ∀ ss ρ, ss.length ≠ n → gs ss ρ = none) {ss : List Sl} {ρ ρ' : Env} (h : gs ss ρ = some ρ') : ss.length = n := by
  by_cases e : ss.length = n
  · exact e
  · rw [hn ss ρ e] at h; cases h
class Takesn (gs : TgsF) (n : Nat) : Prop where
  h : ∀ ss ρ, ss.length ≠ n → gs ss ρ = none
instance : Takesn gsNil 0 := ⟨fun ss ρ h => by
  cases ss with
  | nil => exact absurd rfl h
  | cons a b => rfl⟩
instance {g : TgF} {gs : TgsF} {n : Nat} [i : Takesn gs n] : Takesn (gsCons g gs) (n + 1) := ⟨fun ss ρ h => by
  cases ss with
  | nil => rfl
  | cons a b =>
    show (g a ρ).bind (fun ρ1 => gs b ρ1) = none
    cases g a ρ with
    | none => rfl
    | some ρ1 => exact i.h b ρ1 (by simpa using h)⟩
theorem g_tup {es : List Expr} {k : Nat} {gs : TgsF} {n : Nat} {pos : Pos} (hc : X.calm = true) (h : JGs X kp es gs) [t : Takesn gs n] (hn : (assignEach es X.env).length = n := by rfl) (hst : (assignEach es X.env).findIdx? (·.1) = none := by rfl) : JG X kp (.Tuple es k pos) (gT gs) := by
  refine ⟨fun pins s σ H v u Q I r h' => (pg_tup hc h hn hst).run pins s σ H v u Q I r ?_⟩
  obtain ⟨ρ, Z, A, sl, B, G, rs, d1, d2, al, q⟩ := h'
  unfold gT at q
  cases e : parts sl with
  | none => rw [e] at q; exact q.elim
  | some ss =>
    rw [e] at q
    obtain ⟨a, xs, e1, hq, r2⟩ := parts_ok rs e
    dsimp only [Option.bind_some] at q
    refine ⟨a, xs, e1, hq, ?_, ρ, Z, A, ss, B, G, r2, d1, d2, al, q⟩
    rw [r2.len]
    cases hg : gs ss ρ with
    | none => rw [hg] at q; exact q.elim
    | some ρ' => exact FGs.len t.h hg
theorem g_lst {es : List Expr} {k : Nat} {gs : TgsF} {n : Nat} {pos : Pos} (hc : X.calm = true) (h : JGs X kp es gs) [t : Takesn gs n] (hn : (assignEach es X.env).length = n := by rfl) (hst : (assignEach es X.env).findIdx? (·.1) = none := by rfl) : JG X kp (.Tuple es k pos) (gL gs) := by
  refine ⟨fun pins s σ H v u Q I r h' => (pg_lst hc h hn hst).run pins s σ H v u Q I r ?_⟩
  obtain ⟨ρ, Z, A, sl, B, G, rs, d1, d2, al, q⟩ := h'
  unfold gL at q
  cases e : partsL sl with
  | none => rw [e] at q; exact q.elim
  | some ss =>
    rw [e] at q
    obtain ⟨a, xs, e1, hq, r2⟩ := partsL_ok rs e
    dsimp only [Option.bind_some] at q
    refine ⟨a, xs, e1, hq, ?_, ρ, Z, A, ss, B, G, r2, d1, d2, al, q⟩
    rw [r2.len]
    cases hg : gs ss ρ with
    | none => rw [hg] at q; exact q.elim
    | some ρ' => exact FGs.len t.h hg
end
def tAs (g : TgF) (f : Env → R Unit T) : FF := fun ρ => liftQ (f ρ) ρ fun t => match g (.ow t) ρ with
  | some ρ' => .ok (.nx, ρ')
  | none => .bad
def tAsE (g : TgF) (f : Env → R Env (AV × Env)) : FF := fun ρ => (f ρ).bind fun (a, ρ1) => match a with
  | .val t => (match g (.ow t) ρ1 with
    | some ρ' => .ok (.nx, ρ')
    | none => .bad)
  | _ => .bad
section
variable {X : Cx} {W : WX} {kp : Nat → Bool} {e tg : Expr} {pos : Pos} {g : TgF}
theorem t_as {f : Env → R Unit T} (he : JQ X W .o e f) (hg : JG X kp tg g) (hs : swapsWithSole [tg] e pos.line X.env = pure false := by rfl) (hw : swappedStores [tg] e X.env = pure none := by rfl)
    (h1 : (assignEach [tg] X.env).map (·.2) = [assign tg X.env] := by rfl) : JT X W kp (.Assign [tg] e pos) (tAs g f) := psM (ps_asg he hg hs hw h1) fun D σ H h => by
  obtain ⟨ρ, Z, A, G, q⟩ := FT_iff.mp h
  refine ⟨ρ, Z, A, G, ?_⟩
  unfold tAs at q
  revert q
  cases f ρ with
  | ok t =>
    intro q v H1 e1 ⟨B, rb, fr, al⟩
    rw [liftQ_ok] at q
    refine ⟨ρ, Z, A, .ow t, B, G.ext e1, ⟨v, rfl, rb⟩, fun a h1 h2 => G.alA a h2 (fr a h1), fun a h1 h2 => G.alZ a h2 (fr a h1), al, ?_⟩
    cases hg : g (.ow t) ρ with
    | none => rw [hg] at q; exact q.elim
    | some ρ' =>
      rw [hg] at q
      exact fun σ' A' G' s ag => q σ' H1 Z A' G' ((Step.ext e1 fr).mono s) ag
  | exc e x => exact fun q cls d H' e2 x => q cls d σ H' Z A (G.ext e2) (Step.ext0 e2) Agree.refl x
  | bad => exact id
theorem t_asE {f : Env → R Env (AV × Env)} (he : JS X W e f) (hg : JG X kp tg g) (hs : swapsWithSole [tg] e pos.line X.env = pure false := by rfl) (hw : swappedStores [tg] e X.env = pure none := by rfl)
    (h1 : (assignEach [tg] X.env).map (·.2) = [assign tg X.env] := by rfl) : JT X W kp (.Assign [tg] e pos) (tAsE g f) := psM (ps_asg he hg hs hw h1) fun D σ H h => by
  obtain ⟨ρ, Z, A, G, q⟩ := FT_iff.mp h
  refine ⟨ρ, Z, A, G, ?_⟩
  unfold tAsE at q
  revert q
  cases f ρ with
  | ok t =>
    obtain ⟨a, ρ1⟩ := t
    intro q v H1 A1 B G1 r d al s1
    simp only [R.bind_ok] at q
    cases a with
    | late j => exact q.elim
    | val t =>
      dsimp only at q
      have dz : Disj B Z := fun a h1 h2 => (s1.sub a (.inr h1)).elim (fun z => G.dis a h2 z) fun z => G.alZ a h2 z
      refine ⟨ρ1, Z, A1, .ow t, B, G1, ⟨v, rfl, r⟩, d, dz, al, ?_⟩
      cases hg : g (.ow t) ρ1 with
      | none => rw [hg] at q; exact q.elim
      | some ρ' =>
        rw [hg] at q
        exact fun σ' A' G' s ag => q σ' H1 Z A' G' (s1.mono s) ag
  | exc e x => exact fun q cls d H' A' G' s' x => q cls d σ H' Z A' G' s' Agree.refl x
  | bad => exact id
def tPr (i j : Nat) (f : Env → R Unit (List T)) : FF := fun ρ => liftQ (f ρ) ρ fun ts => match ts with
  | [t, u] => if i < ρ.length ∧ j < ρ.length then .ok (.nx, (ρ.set i (.ow t)).set j (.ow u)) else .bad
  | _ => .bad
theorem t_par (i j : Nat) {x y : Str} {a b : Expr} {f : Env → R Unit (List T)} {px py pt : Pos} {kt k2 pt2} (hc : X.calm = true) (hN : X.N.Nodup) (hi : X.N[i]? = some x) (hj : X.N[j]? = some y) (hij : i ≠ j)
    (hx : X.env.scope.names.lookup x = some .local) (hy : X.env.scope.names.lookup y = some .local) (ha : JOA X W [a, b] f)
    (hw : swappedStores [.Tuple [.Name x px, .Name y py] kt pt] (.Tuple [a, b] k2 pt2) X.env = pure (some [x, y])) (hk : kp i = false := by rfl) (hk2 : kp j = false := by rfl)
    (hs : swapsWithSole [.Tuple [.Name x px, .Name y py] kt pt] (.Tuple [a, b] k2 pt2) pos.line X.env = pure false := by rfl) :
    JT X W kp (.Assign [.Tuple [.Name x px, .Name y py] kt pt] (.Tuple [a, b] k2 pt2) pos) (tPr i j f) := psM (ps_par hc hN hi hj hij hx hy ha hw hs) fun D σ H h => by
  obtain ⟨ρ, Z, A, G, q⟩ := FT_iff.mp h
  refine ⟨ρ, Z, A, G, ?_⟩
  unfold tPr at q
  revert q
  cases f ρ with
  | ok ts =>
    intro q vs H1 B e1 r fr al
    rw [liftQ_ok] at q
    match ts, q, r with
    | [t, u], q, ⟨v, r, B1, C1, e2, h1, ⟨w, r2, B2, C2, e3, h2, e4, s3, s4, d2⟩, s1, s2, d⟩ =>
      obtain rfl : r2 = [] := e4
      subst e2 e3
      refine ⟨v, w, rfl, ?_⟩
      dsimp only at q
      by_cases hl : i < ρ.length ∧ j < ρ.length
      · rw [if_pos hl] at q
        obtain ⟨C, G', s⟩ := (G.ext e1).setS (o := some v) (s := .ow t) (B := B1) hl.1 ⟨v, rfl, h1⟩ (fun a x y => G.alA a y (fr a (s1 a x))) (fun a x y => G.alZ a y (fr a (s1 a x))) (fun a x => al a (s1 a x))
        obtain ⟨C', G'', s'⟩ := G'.setS (o := some w) (i := j) (s := .ow u) (B := B2) (by simpa using hl.2) ⟨w, rfl, h2⟩ (fun a x y => (s a y).elim (fun z => G.alA a z (fr a (s2 a (s3 a x)))) fun z => d a z (s3 a x)) (fun a x y => G.alZ a y (fr a (s2 a (s3 a x)))) (fun a x => al a (s2 a (s3 a x)))
        refine q _ H1 Z C' G'' ((Step.ext e1 fr).mono fun a ha => (s' a ha).elim (fun z => (s a z).imp id (s1 a)) fun z => .inr (s2 a (s3 a z))) ((Agree.set hk).trans (Agree.set hk2))
      · rw [if_neg hl] at q; exact q.elim
    | [], q, _ => exact q.elim
    | [_], q, _ => exact q.elim
    | _ :: _ :: _ :: _, q, _ => exact q.elim
  | exc e x => exact fun q cls d H' e2 x => q cls d σ H' Z A (G.ext e2) (Step.ext0 e2) Agree.refl x
  | bad => exact id
end
end TR
namespace TR
open PySem PySem.Spec PyProof.Rows L2
def ItemsAt (K : PySem.W.Frag) (Z1 : Fp) (Rl : Hp → Prop) (J : It) (ss : List Sl) : Prop :=
  ∀ H', Rl H' → (∀ i s, ss[i]? = some s → J.go i H' ∧ ∀ x H'', J.yld i H' x H'' → Ext H' H'' ∧ ∃ B, SlRep K Z1 H'' (some x) s B ∧ Fresh H' B ∧ Al H'' B) ∧ J.stop ss.length H'
def Bnd (K : PySem.W.Frag) (H : Hp) : Prop := (∀ a xs, SqL K H a xs → xs.length ≤ sizeLine) ∧ ∀ a xs, SqT K H a xs → xs.length ≤ sizeLine
theorem Inv.bnd {X : Cx} {pins : List (Addr × Obj)} {σ : Stt} {H : Hp} {s : Shared} (I : Inv X pins σ H s) : Bnd X.K H :=
  ⟨fun a xs h => let ⟨_, _, _, z⟩ := I.list h; z, fun a xs h => let ⟨_, _, _, z⟩ := I.tuple h; z⟩
theorem piB {X : Cx} {tg it : Expr} {wi : TI} (h : PI X tg it wi) : PI X tg it (fun σ H R => wi σ H fun J H1 => Bnd X.K H1 → R J H1) := by
  refine ⟨fun pins s σ H R I q => ?_⟩
  refine thn (h.run pins s σ H _ I q) fun v s1 h1 => thn h1 fun itv s2 ⟨it, fp, tn, J, H', e, I2, T, t0, fo, r⟩ => ⟨it, fp, tn, J, H', e, I2, T, t0, fo, r (Inv.bnd I2)⟩
theorem peB {X : Cx} {e : Expr} {t : TE} (h : PE X e t) : PE X e (fun σ H Q => t σ H fun v H1 => Bnd X.K H1 → Q v H1) := by
  refine ⟨fun pins s σ H Q I q => ?_⟩
  exact thn (h.run pins s σ H _ I q) fun v s1 ⟨x, H1, I1, r, q⟩ => ⟨x, H1, I1, r, q (Inv.bnd I1)⟩
abbrev Stb (Z1 : Fp) (H1 : Hp) : Hp → Prop := fun H' => Kp emp Z1 H1 H'
def FI (K : PySem.W.Frag) (mg : Str → Option Value) (W : WX) (fi : Env → R Unit (List Sl)) : TI := fun σ H R => ∃ ρ Z A, Good K Z H σ ρ A ∧ match fi ρ with
  | .ok ss => ∀ J H1 Z1, Ext H H1 → Sub Z Z1 → Disj Z1 A → Al H1 Z1 → ItemsAt K Z1 (Stb Z1 H1) J ss → ss.length ≤ sizeLine → R J H1
  | .exc e _ => ∀ cls d H', Ext H H' → ExcRep mg H' e cls d → W cls d σ H'
  | .bad => False
def FIe (K : PySem.W.Frag) (mg : Str → Option Value) (W : WX) (fi : Env → R Unit (List Sl)) : TI := fun σ H R => ∃ ρ Z A, Good K Z H σ ρ A ∧ match fi ρ with
  | .ok ss => ∀ J H1, Ext H H1 → ItemsAt K (fun b => H1 b ≠ none) (Ext H1) J ss → ss.length ≤ sizeLine → R J H1
  | .exc e _ => ∀ cls d H', Ext H H' → ExcRep mg H' e cls d → W cls d σ H'
  | .bad => False
def JI (X : Cx) (W : WX) (tg it : Expr) (fi : Env → R Unit (List Sl)) : Prop := PI X tg it (FI X.K X.mg W fi)
def JIe (X : Cx) (W : WX) (tg it : Expr) (fi : Env → R Unit (List Sl)) : Prop := PI X tg it (FIe X.K X.mg W fi)
def seqSl : T → Option (List Sl)
  | .pv (.tup ps) => some (ps.map fun p => .ow (.pv p))
  | .tup ts => some (ts.map argSl)
  | .lst ts => some (ts.map argSl)
  | .fls ts => some (ts.map argSl)
  | .pv (.str x) => if x.cps.size ≤ sizeLine then some (x.cps.toList.map fun c => .ow (.pv (.str ⟨#[c]⟩))) else none
  | _ => none
def iSeqF (f : Env → R Unit T) : Env → R Unit (List Sl) := fun ρ => (f ρ).bind fun t => R.of (seqSl t)
section
variable {X : Cx} {W : WX} {K : PySem.W.Frag}
theorem slreps_get {Z : Fp} {H : Hp} : ∀ {ss : List Sl} {vs : List V} {A : Fp} {i : Nat} {s : Sl}, SlReps K Z H ss vs A → ss[i]? = some s → ∃ v B, vs[i]? = some v ∧ SlRep K Z H (some v) s B ∧ Sub B A
  | s :: ss, _, A, 0, s0, ⟨v, r, C, D, e, h1, h2, s1, s2, d⟩, e0 => by
    have e' : s = s0 := by simpa using e0
    subst e' e
    exact ⟨v, C, rfl, h1, s1⟩
  | s :: ss, _, A, i + 1, s0, ⟨v, r, C, D, e, h1, h2, s1, s2, d⟩, e0 => by
    subst e
    obtain ⟨w, B, e1, r1, sb⟩ := slreps_get (i := i) h2 (by simpa using e0)
    exact ⟨w, B, by simpa using e1, r1, fun a h => s2 a (sb a h)⟩
  | [], _, _, _, _, _, e0 => by simp at e0
theorem items_list {Z1 : Fp} {Rl : Hp → Prop} {a : Addr} {xs : List V} {ss : List Sl} (hq : ∀ H', Rl H' → SqL K H' a xs ∧ SlReps K Z1 H' ss xs emp) (inj : ∀ H' ys, SqL K H' a xs → SqL K H' a ys → ys = xs) : ItemsAt K Z1 Rl (Itl K a) ss := by
  intro H' r
  obtain ⟨h1, h2⟩ := hq H' r
  refine ⟨fun i s e => ?_, xs, h1, by rw [h2.len]; exact Nat.le_refl _⟩
  obtain ⟨v, B, e1, r1, sb⟩ := slreps_get h2 e
  refine ⟨⟨xs, v, h1, e1⟩, fun x H'' y => ?_⟩
  obtain ⟨rfl, y⟩ := y
  have ex : x = v := Option.some.inj ((y xs h1).symm.trans e1)
  subst ex
  exact ⟨Ext.refl _, emp, r1.mono sb fun _ h => h, fun _ z => z.elim, fun _ z => z.elim⟩
theorem items_list' {Z1 : Fp} {Rl : Hp → Prop} {a : Addr} {xs : List V} {ss : List Sl} (hq : ∀ H', Rl H' → SqL K H' a xs ∧ SlReps K Z1 H' ss xs emp) : ItemsAt K Z1 Rl (Itl K a) ss := by
  intro H' r
  obtain ⟨h1, h2⟩ := hq H' r
  refine ⟨fun i s e => ?_, xs, h1, by rw [h2.len]; exact Nat.le_refl _⟩
  obtain ⟨v, B, e1, r1, sb⟩ := slreps_get h2 e
  refine ⟨⟨xs, v, h1, e1⟩, fun x H'' y => ?_⟩
  obtain ⟨rfl, y⟩ := y
  have ex : x = v := Option.some.inj ((y xs h1).symm.trans e1)
  subst ex
  exact ⟨Ext.refl _, emp, r1.mono sb fun _ h => h, fun _ z => z.elim, fun _ z => z.elim⟩
theorem items_tup {Z1 : Fp} {Rl : Hp → Prop} {a : Addr} {xs : List V} {ss : List Sl} (hq : ∀ H', Rl H' → SqT K H' a xs ∧ SlReps K Z1 H' ss xs emp) : ItemsAt K Z1 Rl (Itt K a) ss := by
  intro H' r
  obtain ⟨h1, h2⟩ := hq H' r
  refine ⟨fun i s e => ?_, xs, h1, by rw [h2.len]; exact Nat.le_refl _⟩
  obtain ⟨v, B, e1, r1, sb⟩ := slreps_get h2 e
  refine ⟨⟨xs, v, h1, e1⟩, fun x H'' y => ?_⟩
  obtain ⟨rfl, y⟩ := y
  have ex : x = v := Option.some.inj ((y xs h1).symm.trans e1)
  subst ex
  exact ⟨Ext.refl _, emp, r1.mono sb fun _ h => h, fun _ z => z.elim, fun _ z => z.elim⟩
theorem items_str {Z1 : Fp} {Rl : Hp → Prop} {x : Str} : ItemsAt K Z1 Rl (Its x) (x.cps.toList.map fun c => .ow (.pv (.str ⟨#[c]⟩))) := by
  intro H' r
  refine ⟨fun i s e => ?_, by show x.cps.size ≤ _; simp⟩
  rw [List.getElem?_map] at e
  cases hc : x.cps.toList[i]? with
  | none => rw [hc] at e; cases e
  | some c =>
    rw [hc] at e
    cases e
    have hi : i < x.cps.size := by
      have := (List.getElem?_eq_some_iff.mp hc).1
      simpa using this
    refine ⟨hi, fun v H'' y => ?_⟩
    obtain ⟨rfl, c', e1, e2⟩ := y
    have : c' = c := by
      have e3 : x.cps.toList[i]? = some c' := by simpa using e1
      rw [e3] at hc; exact Option.some.inj hc
    subst this
    exact ⟨Ext.refl _, emp, ⟨v, rfl, e2⟩, fun _ z => z.elim, fun _ z => z.elim⟩
theorem seq_core {tg e : Expr} {te : TE} (h : PE X e te) {pins : List (Addr × Obj)} {s : Shared} {σ : Stt} {H : Hp} {Rq : It → Hp → Prop} (I : L2.Inv X pins σ H s)
    {t : T} {ss : List Sl} (ht : seqSl t = some ss) {Pv : VK} (hte : ∀ Q : VK, (∀ v H1, Pv v H1 → Q v H1) → te σ H Q)
    (hv : ∀ v H1, Pv v H1 → ∃ Z1 Rl, Vw X.K Z1 H1 t v ∧ Rl H1 ∧ (∀ H', Rl H' → Kp emp Z1 H1 H') ∧ ∀ J, ItemsAt X.K Z1 Rl J ss → ss.length ≤ sizeLine → Rq J H1) :
    wpAny (model X.prog X.w) X.A (eval e X.env) (fun v s1 => wpAny (model X.prog X.w) X.A (pyIter v) (PIE X pins σ tg Rq) X.xe s1) X.xe s := by
  have goT : ((∃ ps, t = .pv (.tup ps)) ∨ ∃ ts, t = .tup ts) →
      wpAny (model X.prog X.w) X.A (eval e X.env) (fun v s1 => wpAny (model X.prog X.w) X.A (pyIter v) (PIE X pins σ tg Rq) X.xe s1) X.xe s := by
    intro hx
    refine (piB (pi_tup (tg := tg) h)).run pins s σ H Rq I (hte _ fun v H1 pv => ?_)
    obtain ⟨Z1, Rl, hvw, r0, hk, fin⟩ := hv v H1 pv
    have hh : ∃ a xs, v = .ref a ∧ H1 a = some (.tup xs) ∧ ∀ H', Rl H' → SlReps X.K Z1 H' ss xs emp := by
      rcases hx with ⟨ps, rfl⟩ | ⟨ts, rfl⟩
      · cases ht
        obtain ⟨a, xs, ev, hq, hvs⟩ := hvw
        exact ⟨a, xs, ev, hq, fun H' k => pps_sl (RepPs.kp (hk H' k).tk _ _ hvs)⟩
      · cases ht
        obtain ⟨a, xs, ev, hq, hvs⟩ := hvw
        exact ⟨a, xs, ev, hq, fun H' k => vws_sl (Vws.kp (hk H' k) _ _ hvs)⟩
    obtain ⟨a, xs, ev, hq, hs⟩ := hh
    refine ⟨a, ev, ⟨xs, .of hq⟩, fun bnd => fin (Itt X.K a) (items_tup fun H' k => ⟨.of ((hk H' k).tk _ _ hq), hs H' k⟩) ?_⟩
    rw [← (hs H1 r0).len]
    exact bnd.2 a xs (.of hq)
  cases t with
  | lst ts =>
    cases ht
    refine (piB (pi_list (tg := tg) h)).run pins s σ H Rq I (hte _ fun v H1 pv => ?_)
    obtain ⟨Z1, Rl, hvw, r0, hk, fin⟩ := hv v H1 pv
    obtain ⟨a, xs, ev, hq, hvs⟩ := hvw
    refine ⟨a, ev, ⟨xs, hq.sq⟩, fun bnd => fin (Itl X.K a) (items_list' fun H' k => ⟨(hq.kp (hk H' k)).sq, vws_sl (Vws.kp (hk H' k) _ _ hvs)⟩) ?_⟩
    rw [List.length_map, Vws.len hvs]
    exact bnd.1 a xs hq.sq
  | fls ts =>
    cases ht
    refine (piB (pi_list (tg := tg) h)).run pins s σ H Rq I (hte _ fun v H1 pv => ?_)
    obtain ⟨Z1, Rl, hvw, r0, hk, fin⟩ := hv v H1 pv
    obtain ⟨a, xs, ev, hq, hvs⟩ := hvw
    refine ⟨a, ev, ⟨xs, hq.sq⟩, fun bnd => fin (Itl X.K a) (items_list' fun H' k => ⟨(hq.kp (hk H' k)).sq, vws_sl (Vws.kp (hk H' k) _ _ hvs)⟩) ?_⟩
    rw [List.length_map, Vws.len hvs]
    exact bnd.1 a xs hq.sq
  | dct tk ks ts => cases ht
  | tup ts => exact goT (.inr ⟨_, rfl⟩)
  | pv p =>
    cases p with
    | tup ps => exact goT (.inl ⟨_, rfl⟩)
    | str x =>
      have ht' : (if x.cps.size ≤ sizeLine then some (x.cps.toList.map fun c => Sl.ow (.pv (.str ⟨#[c]⟩))) else none) = some ss := ht
      by_cases z : x.cps.size ≤ sizeLine
      · rw [if_pos z] at ht'
        cases ht'
        refine (piB (pi_str (tg := tg) h)).run pins s σ H Rq I (hte _ fun v H1 pv => ?_)
        obtain ⟨Z1, Rl, hvw, r0, hk, fin⟩ := hv v H1 pv
        exact ⟨x, hvw, fun bnd => fin (Its x) items_str (by simpa using z)⟩
      · rw [if_neg z] at ht'; cases ht'
    | _ => cases ht
theorem iseq_cases {f : Env → R Unit T} {ρ : Env} {P1 : R Unit (List Sl) → Prop} (hb : ¬ P1 .bad) (h : P1 (iSeqF f ρ)) : (∃ t ss, f ρ = .ok t ∧ seqSl t = some ss ∧ P1 (.ok ss)) ∨ ∃ e, f ρ = .exc e () ∧ P1 (.exc e ()) := by
  unfold iSeqF at h
  cases hf : f ρ with
  | ok t =>
    rw [hf, R.bind_ok] at h
    cases ht : seqSl t with
    | none => rw [ht] at h; exact (hb h).elim
    | some ss => rw [ht] at h; exact .inl ⟨t, ss, rfl, ht, h⟩
  | exc e r => rw [hf] at h; exact .inr ⟨e, rfl, h⟩
  | bad => rw [hf] at h; exact (hb h).elim
theorem exc_run {m : Md} {tg e : Expr} {f : Env → R Unit T} (h : JQ X W m e f) {pins : List (Addr × Obj)} {s : Shared} {σ : Stt} {H : Hp} {Rq : It → Hp → Prop} (I : L2.Inv X pins σ H s) {ρ : Env} {Z A : Fp} (G : Good X.K Z H σ ρ A)
    {x : Exn} (hf : f ρ = .exc x ()) (q : ∀ cls d H', Ext H H' → ExcRep X.mg H' x cls d → W cls d σ H') :
    wpAny (model X.prog X.w) X.A (eval e X.env) (fun v s1 => wpAny (model X.prog X.w) X.A (pyIter v) (PIE X pins σ tg Rq) X.xe s1) X.xe s :=
  (pi_list (tg := tg) h).run pins s σ H Rq I ⟨ρ, Z, A, G, by rw [hf]; exact q⟩
theorem i_z {tg e : Expr} {f : Env → R Unit T} (h : JQ X W .z e f) : JI X W tg e (iSeqF f) := by
  refine ⟨fun pins s σ H Rq I q => ?_⟩
  obtain ⟨ρ, Z, A, G, q⟩ := q
  rcases iseq_cases (P1 := fun o => match o with
    | .ok ss => ∀ J H1 Z1, Ext H H1 → Sub Z Z1 → Disj Z1 A → Al H1 Z1 → ItemsAt X.K Z1 (Stb Z1 H1) J ss → ss.length ≤ sizeLine → Rq J H1
    | .exc e _ => ∀ cls d H', Ext H H' → ExcRep X.mg H' e cls d → W cls d σ H'
    | .bad => False) id q with ⟨t, ss, hf, ht, q⟩ | ⟨x, hf, q⟩
  · exact seq_core h I ht (Pv := fun v H1 => Ext H H1 ∧ ResM X.K Z H .z H1 t v) (fun Q hQ => ⟨ρ, Z, A, G, by rw [hf]; exact fun v H1 a b => hQ v H1 ⟨a, b⟩⟩) fun v H1 ⟨e1, r1⟩ => ⟨Z, Stb Z H1, r1, Kp.refl, fun H' k => k, fun J it hl => q J H1 Z e1 (fun _ h => h) G.dis (e1.al G.alZ) it hl⟩
  · exact exc_run h I G hf q
theorem i_o {tg e : Expr} {f : Env → R Unit T} (h : JQ X W .o e f) : JI X W tg e (iSeqF f) := by
  refine ⟨fun pins s σ H Rq I q => ?_⟩
  obtain ⟨ρ, Z, A, G, q⟩ := q
  rcases iseq_cases (P1 := fun o => match o with
    | .ok ss => ∀ J H1 Z1, Ext H H1 → Sub Z Z1 → Disj Z1 A → Al H1 Z1 → ItemsAt X.K Z1 (Stb Z1 H1) J ss → ss.length ≤ sizeLine → Rq J H1
    | .exc e _ => ∀ cls d H', Ext H H' → ExcRep X.mg H' e cls d → W cls d σ H'
    | .bad => False) id q with ⟨t, ss, hf, ht, q⟩ | ⟨x, hf, q⟩
  · refine seq_core h I ht (Pv := fun v H1 => Ext H H1 ∧ ResM X.K Z H .o H1 t v) (fun Q hQ => ⟨ρ, Z, A, G, by rw [hf]; exact fun v H1 a b => hQ v H1 ⟨a, b⟩⟩) fun v H1 ⟨e1, B, rb, fr, al⟩ => ⟨un Z B, Stb (un Z B) H1, Rep.vw (fun _ h => .inr h) t v rb, Kp.refl, fun H' k => k, fun J it hl => q J H1 (un Z B) e1 (fun _ h => .inl h) (fun a h1 h2 => h1.elim (fun z => G.dis a z h2) fun z => G.alA a h2 (fr a z)) (fun a h1 => h1.elim (e1.al G.alZ a) (al a)) it hl⟩
  · exact exc_run h I G hf q
theorem i_e {tg e : Expr} {f : Env → R Unit T} (h : JQ X W .e e f) : JIe X W tg e (iSeqF f) := by
  refine ⟨fun pins s σ H Rq I q => ?_⟩
  obtain ⟨ρ, Z, A, G, q⟩ := q
  rcases iseq_cases (P1 := fun o => match o with
    | .ok ss => ∀ J H1, Ext H H1 → ItemsAt X.K (fun b => H1 b ≠ none) (Ext H1) J ss → ss.length ≤ sizeLine → Rq J H1
    | .exc e _ => ∀ cls d H', Ext H H' → ExcRep X.mg H' e cls d → W cls d σ H'
    | .bad => False) id q with ⟨t, ss, hf, ht, q⟩ | ⟨x, hf, q⟩
  · exact seq_core h I ht (Pv := fun v H1 => Ext H H1 ∧ ResM X.K Z H .e H1 t v) (fun Q hQ => ⟨ρ, Z, A, G, by rw [hf]; exact fun v H1 a b => hQ v H1 ⟨a, b⟩⟩) fun v H1 ⟨e1, r1⟩ => ⟨fun b => H1 b ≠ none, Ext H1, Vw.alloc t v r1, Ext.refl H1, fun H' k => k.kp, fun J it hl => q J H1 e1 it hl⟩
  · exact exc_run h I G hf q
def rngSl (lo : Int) (n : Nat) : List Sl := (List.range n).map fun (i : Nat) => .ow (.pv (.int (lo + (i : Int))))
def rng1 : List T → Option (List Sl)
  | [.pv (.int j)] => if -16777216 ≤ j ∧ j ≤ 16777216 then some (rngSl 0 j.toNat) else none
  | _ => none
def rng2 : List T → Option (List Sl)
  | [.pv (.int i), .pv (.int j)] => if -8388608 ≤ i ∧ i ≤ 8388608 ∧ -8388608 ≤ j ∧ j ≤ 8388608 then some (rngSl i (j - i).toNat) else none
  | _ => none
def iLst (g : List T → Option (List Sl)) (f : Env → R Unit (List T)) : Env → R Unit (List Sl) := fun ρ => (f ρ).bind fun ts => R.of (g ts)
theorem items_rng {Z1 : Fp} {Rl : Hp → Prop} {lo : Int} {n : Nat} : ItemsAt K Z1 Rl (Itr lo n) (rngSl lo n) := by
  intro H' r
  refine ⟨fun i s e => ?_, by show n ≤ _; simp [rngSl]⟩
  unfold rngSl at e
  rw [List.getElem?_map] at e
  by_cases hi : i < n
  · rw [List.getElem?_range hi] at e
    cases e
    refine ⟨hi, fun x H'' y => ?_⟩
    obtain ⟨rfl, rfl⟩ := y
    exact ⟨Ext.refl _, emp, ⟨_, rfl, rfl⟩, fun _ z => z.elim, fun _ z => z.elim⟩
  · rw [List.getElem?_eq_none (by simpa using hi)] at e; cases e
theorem rng_len {lo : Int} {n : Nat} : (rngSl lo n).length = n := by simp [rngSl]
theorem rng1_ok {ts : List T} {ss : List Sl} (e : rng1 ts = some ss) {Z : Fp} {H : Hp} {vs : List V} (r : Vws K Z H ts vs) : ∃ j : Int, vs = [.int j] ∧ -(2 ^ 62) ≤ j ∧ j < 2 ^ 62 ∧ ss = rngSl 0 j.toNat ∧ ss.length ≤ sizeLine := by
  unfold rng1 at e
  split at e
  · rename_i j
    by_cases h : -16777216 ≤ j ∧ j ≤ 16777216
    · rw [if_pos h] at e
      cases e
      obtain ⟨x, r', e1, h1, h2⟩ := r
      obtain rfl : r' = [] := h2
      obtain rfl : x = .int j := h1
      refine ⟨j, e1, by omega, by omega, rfl, ?_⟩
      rw [rng_len, sizeLine_eq]; omega
    · rw [if_neg h] at e; cases e
  · cases e
theorem rng2_ok {ts : List T} {ss : List Sl} (e : rng2 ts = some ss) {Z : Fp} {H : Hp} {vs : List V} (r : Vws K Z H ts vs) : ∃ i j : Int, vs = [.int i, .int j] ∧ (-(2 ^ 62) ≤ i ∧ i < 2 ^ 62 ∧ -(2 ^ 62) ≤ j ∧ j < 2 ^ 62) ∧ ss = rngSl i (j - i).toNat ∧ ss.length ≤ sizeLine := by
  unfold rng2 at e
  split at e
  · rename_i i j
    by_cases h : -8388608 ≤ i ∧ i ≤ 8388608 ∧ -8388608 ≤ j ∧ j ≤ 8388608
    · rw [if_pos h] at e
      cases e
      obtain ⟨x, r', e1, h1, y, r'', e2, h2, h3⟩ := r
      obtain rfl : r'' = [] := h3
      obtain rfl : x = .int i := h1
      obtain rfl : y = .int j := h2
      subst e2
      refine ⟨i, j, e1, by omega, rfl, ?_⟩
      rw [rng_len, sizeLine_eq]; omega
    · rw [if_neg h] at e; cases e
  · cases e
def FIS (K : PySem.W.Frag) (mg : Str → Option Value) (W : WX) (fi : Env → R Env (List Sl × Env)) : TI := fun σ H Rq => ∃ ρ Z A, Good K Z H σ ρ A ∧ match fi ρ with
  | .ok (ss, ρ') => ∀ J H1 A1 Z1, Good K Z H1 σ ρ' A1 → Sub Z Z1 → Disj Z1 A1 → Al H1 Z1 → Step H A H1 A1 → ItemsAt K Z1 (Stb Z1 H1) J ss → ss.length ≤ sizeLine → Rq J H1
  | .exc e ρ' => ∀ cls d H' A', Good K Z H' σ ρ' A' → Step H A H' A' → ExcRep mg H' e cls d → W cls d σ H'
  | .bad => False
def JIS (X : Cx) (W : WX) (tg it : Expr) (fi : Env → R Env (List Sl × Env)) : Prop := PI X tg it (FIS X.K X.mg W fi)
def iQ (fi : Env → R Unit (List Sl)) : Env → R Env (List Sl × Env) := fun ρ => match fi ρ with
  | .ok ss => .ok (ss, ρ)
  | .exc e _ => .exc e ρ
  | .bad => .bad
theorem piM {tg it : Expr} {t u : TI} (h : PI X tg it t) (m : ∀ σ H Q, u σ H Q → t σ H Q) : PI X tg it u := ⟨fun pins s σ H Q I q => h.run pins s σ H Q I (m σ H Q q)⟩
theorem is_q {tg it : Expr} {fi : Env → R Unit (List Sl)} (h : JI X W tg it fi) : JIS X W tg it (iQ fi) := piM h fun σ H Q ⟨ρ, Z, A, G, q⟩ => ⟨ρ, Z, A, G, by
  revert q
  unfold iQ
  cases fi ρ with
  | ok ss => exact fun q J H1 Z1 e1 s1 d al it hl => q J H1 A Z1 (G.ext e1) s1 d al (Step.ext0 e1) it hl
  | exc e r => exact fun q cls d H' e1 x => q cls d H' A (G.ext e1) (Step.ext0 e1) x
  | bad => exact id⟩
theorem i_rng1 {tg a : Expr} {p pos : Pos} {f : Env → R Unit (List T)} (hg : Gl X "range") (hm : X.mg "range" = none) (ha : JQA X W [a] f) (hs : starEach [a] X.env = [(false, eval a X.env)] := by rfl) : JI X W tg (.Call (.Name "range" p) [a] [] pos) (iLst rng1 f) :=
  piM (pi_range1 hg hm ha hs) fun σ H Q ⟨ρ, Z, A, G, q⟩ => ⟨ρ, Z, A, G, by
    revert q
    unfold iLst
    cases f ρ with
    | ok ts =>
      intro q vs H1 e1 r
      rw [R.bind_ok] at q
      cases hg : rng1 ts with
      | none => rw [hg] at q; exact q.elim
      | some ss =>
        rw [hg] at q
        obtain ⟨j, ev, h1, h2, es, hl⟩ := rng1_ok hg r
        refine ⟨j, ev, h1, h2, ?_⟩
        refine q (Itr 0 j.toNat) H1 Z e1 (fun _ h => h) G.dis (e1.al G.alZ) ?_ hl
        rw [es]; exact items_rng
    | exc e r => exact id
    | bad => exact id⟩
theorem i_rng2 {tg a b : Expr} {p pos : Pos} {f : Env → R Unit (List T)} (hg : Gl X "range") (hm : X.mg "range" = none) (ha : JQA X W [a, b] f) (hs : starEach [a, b] X.env = [(false, eval a X.env), (false, eval b X.env)] := by rfl) (hs2 : starEach [b] X.env = [(false, eval b X.env)] := by rfl) :
    JI X W tg (.Call (.Name "range" p) [a, b] [] pos) (iLst rng2 f) :=
  piM (pi_range2 hg hm ha hs hs2) fun σ H Q ⟨ρ, Z, A, G, q⟩ => ⟨ρ, Z, A, G, by
    revert q
    unfold iLst
    cases f ρ with
    | ok ts =>
      intro q vs H1 e1 r
      rw [R.bind_ok] at q
      cases hg : rng2 ts with
      | none => rw [hg] at q; exact q.elim
      | some ss =>
        rw [hg] at q
        obtain ⟨i, j, ev, h1, es, hl⟩ := rng2_ok hg r
        refine ⟨i, j, ev, h1, ?_⟩
        refine q (Itr i (j - i).toNat) H1 Z e1 (fun _ h => h) G.dis (e1.al G.alZ) ?_ hl
        rw [es]; exact items_rng
    | exc e r => exact id
    | bad => exact id⟩
theorem ie_of {tg it : Expr} {fi : Env → R Unit (List Sl)} (h : JI X W tg it fi) : JIe X W tg it fi := piM h fun σ H Q ⟨ρ, Z, A, G, q⟩ => ⟨ρ, Z, A, G, by
  revert q
  cases fi ρ with
  | ok ss =>
    intro q J H1 Z1 e1 s1 d al it hl
    refine q J H1 e1 (fun H' e => ?_) hl
    obtain ⟨h1, h2⟩ := it H' e.kp
    exact ⟨fun i s e0 => ⟨(h1 i s e0).1, fun x H'' y => let ⟨e', B, r, fr, al'⟩ := (h1 i s e0).2 x H'' y; ⟨e', B, r.mono (fun _ h => h) al, fr, al'⟩⟩, h2⟩
  | exc e r => exact id
  | bad => exact id⟩
def iSeqE (f : Env → R Env (AV × Env)) : Env → R Env (List Sl × Env) := fun ρ => (f ρ).bind fun (a, ρ1) => match a with
  | .val t => R.of ((seqSl t).map fun ss => (ss, ρ1))
  | .late _ => .bad
theorem is_val {tg e : Expr} {f : Env → R Env (AV × Env)} (h : JS X W e f) : JIS X W tg e (iSeqE f) := by
  refine ⟨fun pins s σ H Rq I q => ?_⟩
  obtain ⟨ρ, Z, A, G, q⟩ := q
  unfold iSeqE at q
  revert q
  cases hf : f ρ with
  | ok a =>
    obtain ⟨a, ρ1⟩ := a
    intro q
    simp only [R.bind_ok] at q
    cases a with
    | late j => exact q.elim
    | val t =>
      dsimp only at q
      cases ht : seqSl t with
      | none => rw [ht] at q; exact q.elim
      | some ss =>
        rw [ht] at q
        refine seq_core h I ht (Pv := fun v H1 => ∃ A1 B, Good X.K Z H1 σ ρ1 A1 ∧ Rep H1 t v B ∧ Disj B A1 ∧ Al H1 B ∧ Step H A H1 (un A1 B)) (fun Q hQ => ⟨ρ, Z, A, G, by rw [hf]; exact fun v H1 A1 B a b c d e => hQ v H1 ⟨A1, B, a, b, c, d, e⟩⟩) fun v H1 ⟨A1, B, G1, r, d, al, st⟩ => ?_
        refine ⟨un Z B, Stb (un Z B) H1, Rep.vw (fun _ h => .inr h) t v r, Kp.refl, fun H' k => k, fun J it hl => q J H1 A1 (un Z B) G1 (fun _ h => .inl h) (fun a h1 h2 => h1.elim (fun z => G1.dis a z h2) fun z => d a z h2) (fun a h1 => h1.elim (G1.alZ a) (al a)) (st.mono fun _ h => .inl h) it hl⟩
  | exc x r =>
    intro q
    exact (pi_list (tg := tg) h).run pins s σ H Rq I ⟨ρ, Z, A, G, by rw [hf]; exact q⟩
  | bad => exact fun q => q.elim
def iLstE (g : List T → Option (List Sl)) (f : Env → R Env (List AV × Env)) : Env → R Env (List Sl × Env) := fun ρ => (f ρ).bind fun (as, ρ1) => R.of ((sees ρ1 as).bind fun ts => (g ts).map fun ss => (ss, ρ1))
theorem is_rng1 {tg a : Expr} {p pos : Pos} {f : Env → R Env (List AV × Env)} (hg : Gl X "range") (hm : X.mg "range" = none) (ha : JSA X W [a] f) (hs : starEach [a] X.env = [(false, eval a X.env)] := by rfl) : JIS X W tg (.Call (.Name "range" p) [a] [] pos) (iLstE rng1 f) :=
  piM (pi_range1 hg hm ha hs) fun σ H Q ⟨ρ, Z, A, G, q⟩ => ⟨ρ, Z, A, G, by
    revert q
    unfold iLstE
    cases f ρ with
    | ok ts =>
      obtain ⟨as, ρ1⟩ := ts
      intro q vs H1 A1 B1 G1 r d al st
      simp only [R.bind_ok] at q
      cases hs : sees ρ1 as with
      | none => rw [hs] at q; exact q.elim
      | some ts =>
        cases hg : rng1 ts with
        | none => rw [hs] at q; simp only [Option.bind_some, hg] at q; exact q.elim
        | some ss =>
          rw [hs] at q
          simp only [Option.bind_some, hg] at q
          obtain ⟨j, ev, h1, h2, es, hl⟩ := rng1_ok hg (sees_vws G1 r hs)
          refine ⟨j, ev, h1, h2, ?_⟩
          refine q (Itr 0 j.toNat) H1 A1 Z G1 (fun _ h => h) G1.dis G1.alZ (st.mono fun _ h => .inl h) ?_ hl
          rw [es]; exact items_rng
    | exc e r => exact id
    | bad => exact id⟩
theorem is_rng2 {tg a b : Expr} {p pos : Pos} {f : Env → R Env (List AV × Env)} (hg : Gl X "range") (hm : X.mg "range" = none) (ha : JSA X W [a, b] f) (hs : starEach [a, b] X.env = [(false, eval a X.env), (false, eval b X.env)] := by rfl) (hs2 : starEach [b] X.env = [(false, eval b X.env)] := by rfl) : JIS X W tg (.Call (.Name "range" p) [a, b] [] pos) (iLstE rng2 f) :=
  piM (pi_range2 hg hm ha hs hs2) fun σ H Q ⟨ρ, Z, A, G, q⟩ => ⟨ρ, Z, A, G, by
    revert q
    unfold iLstE
    cases f ρ with
    | ok ts =>
      obtain ⟨as, ρ1⟩ := ts
      intro q vs H1 A1 B1 G1 r d al st
      simp only [R.bind_ok] at q
      cases hs : sees ρ1 as with
      | none => rw [hs] at q; exact q.elim
      | some ts =>
        cases hg : rng2 ts with
        | none => rw [hs] at q; simp only [Option.bind_some, hg] at q; exact q.elim
        | some ss =>
          rw [hs] at q
          simp only [Option.bind_some, hg] at q
          obtain ⟨i, j, ev, h1, es, hl⟩ := rng2_ok hg (sees_vws G1 r hs)
          refine ⟨i, j, ev, h1, ?_⟩
          refine q (Itr i (j - i).toNat) H1 A1 Z G1 (fun _ h => h) G1.dis G1.alZ (st.mono fun _ h => .inl h) ?_ hl
          rw [es]; exact items_rng
    | exc e r => exact id
    | bad => exact id⟩
end
end TR
namespace TR
open PySem PySem.Spec PyProof.Rows L2
def forGo (tg : TgF) (b : FF) : List Sl → FF
  | [], ρ => .ok (.nx, ρ)
  | s :: ss, ρ => match tg s ρ with
    | none => .bad
    | some ρ1 => match b ρ1 with
      | .ok (.nx, ρ2) => forGo tg b ss ρ2
      | .ok (.ct, ρ2) => forGo tg b ss ρ2
      | .ok (.bk, ρ2) => .ok (.nx, ρ2)
      | o => o
def tForS (fi : Env → R Env (List Sl × Env)) (tg : TgF) (b : FF) : FF := fun ρ => (fi ρ).bind fun (ss, ρ1) => forGo tg b ss ρ1
def tForF (fi : Env → R Unit (List Sl)) (tg : TgF) (b : FF) : FF := fun ρ => liftQ (fi ρ) ρ fun ss => forGo tg b ss ρ
def whileGo (c : Env → R Unit Bool) (b : FF) : Nat → FF
  | 0, _ => .bad
  | n + 1, ρ => liftQ (c ρ) ρ fun d => if d = true then (match b ρ with
      | .ok (.nx, ρ2) => whileGo c b n ρ2
      | .ok (.ct, ρ2) => whileGo c b n ρ2
      | .ok (.bk, ρ2) => .ok (.nx, ρ2)
      | o => o) else .ok (.nx, ρ)
section
variable {X : Cx} {W : WX} {kp : Nat → Bool} {K : PySem.W.Frag} {mg : Str → Option Value}
theorem Kp.trans {C Z : Fp} {H H1 H2 : Hp} (a : Kp C Z H H1) (b : Kp C Z H1 H2) : Kp C Z H H2 :=
  ⟨fun x y h => b.tk x y (a.tk x y h), fun x o u h => b.fk x o u (a.fk x o u h), fun x o hx h => b.own x o hx (a.own x o hx h), fun x o hx h => b.st x o hx (a.st x o hx h)⟩
theorem Good.zun {Z Z1 A : Fp} {H : Hp} {σ : Stt} {ρ : Env} (g : Good K Z H σ ρ A) (d : Disj Z1 A) (al : Al H Z1) : Good K (un Z Z1) H σ ρ A :=
  ⟨g.env.mono (fun _ h => .inl h) fun _ h => h, fun a h1 h2 => h1.elim (fun z => g.dis a z h2) fun z => d a z h2, fun a h => h.elim (g.alZ a) (al a), g.alA⟩
theorem t_forS {tg it : Expr} {body : List Stmt} {pos : Pos} {fi : Env → R Env (List Sl × Env)} {g : TgF} {b : FF} (hp : PassesOwn (model X.prog X.w) X.A X.env X.xe) (hc : X.calm = true) (hi : JIS X W tg it fi) (hg : JG X kp tg g) (hb : JTs X W kp body b)
    (hs : ∀ x, foldedSetIterable it X.env x = pure x := by intro _; rfl) : JT X W kp (.For tg it body [] pos) (tForS fi g b) := psM (ps_for hp hc hi hg hb hs) fun D σ H h => by
  obtain ⟨ρ, Z, A, G, q⟩ := FT_iff.mp h
  refine ⟨ρ, Z, A, G, ?_⟩
  unfold tForS at q
  revert q
  cases fi ρ with
  | exc e x => exact fun q cls d H' A' G' s' x => q cls d σ H' Z A' G' s' Agree.refl x
  | bad => exact id
  | ok ss =>
    obtain ⟨ss, ρ1⟩ := ss
    intro q J H1 A1 Z1 G0 sZ dZ aZ st1 it hl
    have G1 : Good X.K Z1 H1 σ ρ1 A1 := ⟨G0.env.mono sZ fun _ h => h, dZ, aZ, G0.alA⟩
    simp only [R.bind_ok] at q
    have q1 : EndT X.K X.mg W kp D σ H1 A1 (forGo g b ss ρ1) := EndT.after st1 Agree.refl q
    refine ⟨fun i m σ' H' => m = ss.length - i ∧ i ≤ ss.length ∧ Stb Z1 H1 H' ∧ ∃ ρ' Z' A', Good X.K Z' H' σ' ρ' A' ∧ Disj Z1 A' ∧ Al H' Z1 ∧ EndT X.K X.mg W kp D σ' H' A' (forGo g b (ss.drop i) ρ'),
      ⟨ss.length, by simp, Nat.zero_le _, Kp.refl, ρ1, Z1, A1, G1, G1.dis, G1.alZ, q1⟩, ?_⟩
    rintro i m σ' H' ⟨rfl, hi, kz, ρ', Z', A', G', d', al', q'⟩
    obtain ⟨h1, h2⟩ := it H' kz
    by_cases hlt : i < ss.length
    · refine .inr ⟨(h1 i ss[i] (List.getElem?_eq_getElem hlt)).1, fun σ3 H3 => Stb Z1 H1 H3 ∧ ∃ ρ' Z' A', Good X.K Z' H3 σ3 ρ' A' ∧ Disj Z1 A' ∧ Al H3 Z1 ∧ EndT X.K X.mg W kp D σ3 H3 A' (forGo g b (ss.drop (i + 1)) ρ'),
        fun σ3 H3 ⟨k3, n3⟩ => ⟨ss.length - (i + 1), by omega, rfl, hlt, k3, n3⟩, fun x H'' y => ?_⟩
      obtain ⟨e2, B, rs, fr, al2⟩ := (h1 i ss[i] (List.getElem?_eq_getElem hlt)).2 x H'' y
      rw [List.drop_eq_getElem_cons hlt] at q'
      unfold forGo at q'
      have G2 : Good X.K (un Z' Z1) H'' σ' ρ' A' := (G'.ext e2).zun d' (e2.al al')
      refine ⟨ρ', un Z' Z1, A', ss[i], B, G2, rs.mono (fun _ h => h) fun _ h => .inr h, fun a z1 z2 => G'.alA a z2 (fr a z1), fun a z1 z2 => z2.elim (fun z => G'.alZ a z (fr a z1)) fun z => al' a z (fr a z1), al2, ?_⟩
      cases ht : g ss[i] ρ' with
      | none => rw [ht] at q'; exact q'.elim
      | some ρ2 =>
        rw [ht] at q'
        intro σ2 A2 G3 sA ag
        have st : Step H' A' H'' A2 := (Step.ext e2 fr).mono sA
        have q2 := EndT.after st ag q'
        have k2 : Stb Z1 H1 H'' := kz.trans e2.kp
        refine FT_iff.mpr ⟨ρ2, un Z' Z1, A2, G3, ?_⟩
        have nextN : ∀ ρ3, EndT X.K X.mg W kp D σ2 H'' A2 (forGo g b (ss.drop (i + 1)) ρ3) → ∀ σ3 H3 Z3 A3, Good X.K Z3 H3 σ3 ρ3 A3 → Step H'' A2 H3 A3 → Agree kp σ2 σ3 →
            Stb Z1 H1 H3 ∧ ∃ ρ' Z' A', Good X.K Z' H3 σ3 ρ' A' ∧ Disj Z1 A' ∧ Al H3 Z1 ∧ EndT X.K X.mg W kp D σ3 H3 A' (forGo g b (ss.drop (i + 1)) ρ') := fun ρ3 q3 σ3 H3 Z3 A3 g3 s3 a3 => by
          have dz : Disj Z1 A2 := fun a x1 x2 => G3.dis a (.inr x1) x2
          have alz : Al H'' Z1 := fun a x1 => G3.alZ a (.inr x1)
          exact ⟨k2.trans (s3.kp (fun _ z => z.elim) dz), ρ3, Z3, A3, g3, s3.disj dz alz, s3.al alz, EndT.after s3 a3 q3⟩
        dsimp only at q2
        revert q2
        match b ρ2 with
        | .ok (.nx, ρ3) => exact fun q3 => nextN ρ3 q3
        | .ok (.ct, ρ3) => exact fun q3 => nextN ρ3 q3
        | .ok (.bk, ρ3) => exact fun q3 => q3
        | .ok (.rt t, ρ3) => exact fun q3 => q3
        | .exc e ρ3 => exact fun q3 => q3
        | .bad => exact fun q3 => q3
    · have e : i = ss.length := by omega
      subst e
      rw [List.drop_length] at q'
      exact .inl ⟨h2, q' σ' H' Z' A' G' (Step.refl H' A') Agree.refl⟩
theorem t_for {tg it : Expr} {body : List Stmt} {pos : Pos} {fi : Env → R Unit (List Sl)} {g : TgF} {b : FF} (hp : PassesOwn (model X.prog X.w) X.A X.env X.xe) (hc : X.calm = true) (hi : JI X W tg it fi) (hg : JG X kp tg g) (hb : JTs X W kp body b)
    (hs : ∀ x, foldedSetIterable it X.env x = pure x := by intro _; rfl) : JT X W kp (.For tg it body [] pos) (tForF fi g b) := psM (t_forS hp hc (is_q hi) hg hb hs) fun D σ H h => by
  have e : tForF fi g b = tForS (iQ fi) g b := by
    funext ρ
    unfold tForF tForS iQ
    cases fi ρ with
    | ok ss => rfl
    | exc e r => rfl
    | bad => rfl
  rw [e] at h
  exact h
theorem t_while (n : Nat) {c : Expr} {body : List Stmt} {pos : Pos} {fc : Env → R Unit Bool} {b : FF} (hp : PassesOwn (model X.prog X.w) X.A X.env X.xe) (hc : JQT X W c fc) (hb : JTs X W kp body b) : JT X W kp (.While c body [] pos) (whileGo fc b n) := psM (ps_while hp hc hb) fun D σ H h => by
  obtain ⟨ρ, Z, A, G, q⟩ := FT_iff.mp h
  refine ⟨fun m σ' H' => ∃ ρ' Z' A', Good X.K Z' H' σ' ρ' A' ∧ EndT X.K X.mg W kp D σ' H' A' (whileGo fc b m ρ'), ⟨n, ρ, Z, A, G, q⟩, ?_⟩
  rintro m σ' H' ⟨ρ', Z', A', G', q'⟩
  refine ⟨ρ', Z', A', G', ?_⟩
  cases m with
  | zero => exact q'.elim
  | succ m =>
    unfold whileGo at q'
    revert q'
    cases fc ρ' with
    | exc e x => exact fun q cls d H1 e1 x => q cls d σ' H1 Z' A' (G'.ext e1) (Step.ext0 e1) Agree.refl x
    | bad => exact id
    | ok d =>
      intro q' H1 e1
      rw [liftQ_ok] at q'
      have G1 := G'.ext e1
      have q1 := EndT.after (Step.ext0 e1) (Agree.refl (σ := σ')) q'
      cases d with
      | false => exact q1 σ' H1 Z' A' G1 (Step.refl _ _) Agree.refl
      | true =>
        rw [if_pos rfl]
        refine ⟨fun σ3 H3 => ∃ ρ' Z' A', Good X.K Z' H3 σ3 ρ' A' ∧ EndT X.K X.mg W kp D σ3 H3 A' (whileGo fc b m ρ'), fun σ3 H3 n3 => ⟨m, Nat.lt_succ_self _, n3⟩, FT_iff.mpr ⟨ρ', Z', A', G1, ?_⟩⟩
        rw [if_pos rfl] at q1
        revert q1
        match b ρ' with
        | .ok (.nx, ρ3) => exact fun q3 σ3 H3 Z3 A3 g3 s3 a3 => ⟨ρ3, Z3, A3, g3, EndT.after s3 a3 q3⟩
        | .ok (.ct, ρ3) => exact fun q3 σ3 H3 Z3 A3 g3 s3 a3 => ⟨ρ3, Z3, A3, g3, EndT.after s3 a3 q3⟩
        | .ok (.bk, ρ3) => exact fun q3 => q3
        | .ok (.rt t, ρ3) => exact fun q3 => q3
        | .exc e ρ3 => exact fun q3 => q3
        | .bad => exact fun q3 => q3
def fz (i : Nat) (ρ : Env) : Env := match ρ[i]? with
  | some (.ow t) => ρ.set i (argSl t)
  | _ => ρ
theorem Good.fz {Z A : Fp} {H : Hp} {σ : Stt} {ρ : Env} (i : Nat) (g : Good K Z H σ ρ A) : ∃ Z' A', Good K Z' H σ (TR.fz i ρ) A' ∧ Sub A' A := by
  unfold TR.fz
  cases e : ρ[i]? with
  | none => exact ⟨Z, A, g, fun _ h => h⟩
  | some s =>
    cases s with
    | no => exact ⟨Z, A, g, fun _ h => h⟩
    | vw t => exact ⟨Z, A, g, fun _ h => h⟩
    | ow t =>
      obtain ⟨o, B, C, h1, h2, h3, h4, h5, put⟩ := g.env.at e
      obtain ⟨v, e1, r⟩ := h2
      have hs : SlRep K (un Z B) H o (argSl t) emp := by
        cases t with
        | pv p => exact ⟨v, e1, r⟩
        | _ => exact ⟨v, e1, Rep.vw (fun _ h => .inr h) _ v r⟩
      have g' := put H (un Z B) Kp.refl (fun _ h => .inl h) o (argSl t) emp hs fun _ z => z.elim
      rw [set_same h1] at g'
      refine ⟨un Z B, un emp C, ⟨g', fun a x1 x2 => ?_, fun a x1 => x1.elim (g.alZ a) fun z => g.alA a (h3 a z), fun a x1 => x1.elim (fun z => z.elim) fun z => g.alA a (h4 a z)⟩, fun a x1 => x1.elim (fun z => z.elim) fun z => h4 a z⟩
      rcases x2 with z | z
      · exact z
      · exact x1.elim (fun y => g.dis a y (h4 a z)) fun y => h5 a y z
theorem t_fz (i : Nat) {sts : List Stmt} {b : FF} (h : JTs X W kp sts b) : JTs X W kp sts (fun ρ => b (fz i ρ)) := pssM h fun D σ H h => by
  obtain ⟨ρ, Z, A, G, q⟩ := FT_iff.mp h
  obtain ⟨Z', A', G', s⟩ := G.fz i
  exact FT_iff.mpr ⟨fz i ρ, Z', A', G', EndT.after ((Step.refl H A).mono s) Agree.refl q⟩
end
end TR
namespace TR
open PySem PySem.Spec PyProof.Rows L2
abbrev snds (own : List (Str × Nat)) : List Nat := own.map (·.2)
abbrev wNo : WX := fun _ _ _ _ => False
def JQTs (X : Cx) (W : WX) (ifs : List Expr) (f : Env → R Unit Bool) : Prop := PTs X ifs (FQT X.K X.mg W f)
def fYes : Env → R Unit Bool := fun _ => .ok true
theorem ptsM {X : Cx} {e : List Expr} {t u : TT} (h : PTs X e t) (m : ∀ σ H Q, u σ H Q → t σ H Q) : PTs X e u := ⟨fun pins s σ H Q I q => h.run pins s σ H Q I (m σ H Q q)⟩
theorem qts_nil {X : Cx} {W : WX} : JQTs X W [] fYes := ptsM pts_nil fun σ H Q ⟨ρ, Z, A, G, q⟩ => q H (Ext.refl H)
theorem qts_one {X : Cx} {W : WX} {c : Expr} {f : Env → R Unit Bool} (h : JQT X W c f) : JQTs X W [c] f := pts_one h
def wipeE (ρ : Env) : List Nat → Env
  | [] => ρ
  | v :: vs => (wipeE ρ vs).set v .no
def vwS : Sl → Sl
  | .no => .no
  | .ow t => argSl t
  | .vw t => argSl t
def viewE (ρ : Env) : Env := ρ.map vwS
abbrev kpV (vs : List Nat) : Nat → Bool := fun i => !vs.contains i
def lcGo (g : TgF) (fc : Env → R Unit Bool) (fe : Env → R Unit T) (ρ : Env) : List Sl → R Unit (List T)
  | [] => .ok []
  | s :: ss => match g s ρ with
    | none => .bad
    | some ρ1 => match fc ρ1 with
      | .ok true => (match fe ρ1 with
        | .ok t => (lcGo g fc fe ρ ss).bind fun ts => .ok (t :: ts)
        | _ => .bad)
      | .ok false => lcGo g fc fe ρ ss
      | _ => .bad
def fLc (vs : List Nat) (fi : Env → R Unit (List Sl)) (g : TgF) (fc : Env → R Unit Bool) (fe : Env → R Unit T) : Env → R Unit T := fun ρ => (fi ρ).bind fun ss => (lcGo g fc fe (wipeE (viewE ρ) vs) ss).bind fun ts => .ok (.lst ts)
def lcGoE (g : TgF) (fc : Env → R Unit Bool) (fe : Env → R Env (AV × Env)) (vs : List Nat) : List Sl → Env → R Env (List T × Env)
  | [], ρ => .ok ([], ρ)
  | .ow (.pv p) :: ss, ρ => match g (.ow (.pv p)) ρ with
    | none => .bad
    | some ρ1 => match fc ρ1 with
      | .ok true => (match fe ρ1 with
        | .ok (.val t, ρ2) => (lcGoE g fc fe vs ss (wipeE ρ2 vs)).bind fun (ts, ρ3) => .ok (t :: ts, ρ3)
        | _ => .bad)
      | .ok false => lcGoE g fc fe vs ss (wipeE ρ1 vs)
      | _ => .bad
  | _ :: _, _ => .bad
def sLc (vs : List Nat) (fi : Env → R Env (List Sl × Env)) (g : TgF) (fc : Env → R Unit Bool) (fe : Env → R Env (AV × Env)) : Env → R Env (AV × Env) := fun ρ => (fi ρ).bind fun (ss, ρ1) => match lcGoE g fc fe vs ss (wipeE ρ1 vs) with
  | .ok (ts, ρ2) => .ok (.val (.lst ts), ρ2)
  | _ => .bad
section
variable {X : Cx} {W : WX} {K : PySem.W.Frag} {mg : Str → Option Value}
theorem env_set_no {Z : Fp} {H : Hp} : ∀ {σ : Stt} {ρ : Env} {A : Fp} (i : Nat) (o : Option V), EnvRep K Z H σ ρ A → EnvRep K Z H (σ.set i o) (ρ.set i .no) A
  | [], [], A, _, _, h => h
  | x :: σ, s :: ρ, A, 0, o, ⟨B, C, h1, h2, s1, s2, d⟩ => ⟨emp, C, trivial, h2, fun _ z => z.elim, s2, fun _ z => z.elim⟩
  | x :: σ, s :: ρ, A, i + 1, o, ⟨B, C, h1, h2, s1, s2, d⟩ => ⟨B, C, h1, env_set_no i o h2, s1, s2, d⟩
  | [], _ :: _, _, _, _, h => h.elim
  | _ :: _, [], _, _, _, h => h.elim
theorem env_wipe {Z : Fp} {H : Hp} {σ : Stt} {ρ : Env} {A : Fp} (h : EnvRep K Z H σ ρ A) : ∀ vs : List Nat, EnvRep K Z H (wipe σ vs) (wipeE ρ vs) A
  | [] => h
  | v :: vs => env_set_no v none (env_wipe h vs)
theorem env_unset {Z : Fp} {H : Hp} : ∀ {σ τ : Stt} {ρ : Env} {A : Fp} (i : Nat), EnvRep K Z H (σ.set i none) (ρ.set i .no) A → EnvRep K Z H σ (ρ.set i .no) A
  | [], _, [], A, _, h => h
  | x :: σ, _, s :: ρ, A, 0, ⟨B, C, h1, h2, s1, s2, d⟩ => ⟨emp, C, trivial, h2, fun _ z => z.elim, s2, fun _ z => z.elim⟩
  | x :: σ, τ, s :: ρ, A, i + 1, ⟨B, C, h1, h2, s1, s2, d⟩ => ⟨B, C, h1, env_unset (τ := τ) i h2, s1, s2, d⟩
  | [], _, _ :: _, _, _, h => False.elim (by cases ‹Nat› <;> exact h)
  | _ :: _, _, [], _, _, h => False.elim (by cases ‹Nat› <;> exact h)
theorem setno_comm (ρ : Env) (i j : Nat) : (ρ.set i .no).set j .no = (ρ.set j .no).set i .no := by
  by_cases e : i = j
  · subst e; rfl
  · exact List.set_comm _ _ e
theorem wipeE_set (ρ : Env) (i : Nat) : ∀ vs : List Nat, (wipeE ρ vs).set i .no = wipeE (ρ.set i .no) vs
  | [] => rfl
  | v :: vs => by
    unfold wipeE
    rw [setno_comm, wipeE_set ρ i vs]
theorem wipe_setn (σ : Stt) (i : Nat) : ∀ vs : List Nat, (wipe σ vs).set i none = wipe (σ.set i none) vs
  | [] => rfl
  | v :: vs => by
    unfold wipe
    rw [← wipe_setn σ i vs]
    by_cases e : i = v
    · subst e; rfl
    · rw [List.set_comm _ _ (Ne.symm e)]
theorem env_unwipe {Z : Fp} {H : Hp} : ∀ (vs : List Nat) {σ : Stt} {ρ : Env} {A : Fp}, EnvRep K Z H (wipe σ vs) (wipeE ρ vs) A → EnvRep K Z H σ (wipeE ρ vs) A
  | [], _, _, _, h => h
  | v :: vs, σ, ρ, A, h => by
    have h' : EnvRep K Z H ((wipe σ vs).set v none) ((wipeE ρ vs).set v .no) A := h
    have h2 := env_unset (τ := σ) v h'
    -- the v-th slot of the tree side is no: move it inside
    show EnvRep K Z H σ ((wipeE ρ vs).set v .no) A
    rw [wipeE_set] at h2 ⊢
    exact env_unwipe vs h2
theorem wipeE_idem (ρ : Env) : ∀ vs : List Nat, wipeE (wipeE ρ vs) vs = wipeE ρ vs
  | [] => rfl
  | v :: vs => by
    show (wipeE ((wipeE ρ vs).set v .no) vs).set v .no = (wipeE ρ vs).set v .no
    rw [← wipeE_set, List.set_set, wipeE_idem ρ vs]
theorem env_view {Z : Fp} {H : Hp} : ∀ {σ : Stt} {ρ : Env} {A : Fp}, EnvRep K Z H σ ρ A → EnvRep K (fun b => H b ≠ none) H σ (viewE ρ) emp
  | [], [], A, _ => trivial
  | x :: σ, s :: ρ, A, ⟨B, C, h1, h2, s1, s2, d⟩ => by
    refine ⟨emp, emp, ?_, env_view h2, fun _ z => z, fun _ z => z, fun _ z => z.elim⟩
    cases s with
    | no => trivial
    | ow t =>
      obtain ⟨v, e, r⟩ := h1
      have r' : Vw K (fun b => H b ≠ none) H t v := Vw.alloc t v (Rep.vw (fun _ _ => trivial) t v r)
      cases t with
      | pv p => exact ⟨v, e, r'⟩
      | _ => exact ⟨v, e, r'⟩
    | vw t =>
      obtain ⟨v, e, r⟩ := h1
      have r' : Vw K (fun b => H b ≠ none) H t v := Vw.alloc t v (Vw.mono (fun _ _ => trivial) t v r)
      cases t with
      | pv p => exact ⟨v, e, r'⟩
      | _ => exact ⟨v, e, r'⟩
  | [], _ :: _, _, h => h.elim
  | _ :: _, [], _, h => h.elim
theorem wipe_get (σ : Stt) (i : Nat) : ∀ (vs : List Nat), i ∈ vs → i < σ.length → (wipe σ vs)[i]? = some none
  | v :: vs, hi, hl => by
    unfold wipe
    by_cases e : v = i
    · subst e
      rw [List.getElem?_set_self (by rw [wipe_length]; exact hl)]
    · rw [List.getElem?_set_ne e]
      exact wipe_get σ i vs ((List.mem_cons.mp hi).resolve_left (Ne.symm e)) hl
theorem wipe_get' (σ : Stt) (i : Nat) : ∀ (vs : List Nat), i ∉ vs → (wipe σ vs)[i]? = σ[i]?
  | [], _ => rfl
  | v :: vs, hi => by
    unfold wipe
    rw [List.getElem?_set_ne (fun e => hi (by rw [e]; exact List.mem_cons_self)), wipe_get' σ i vs fun h => hi (List.mem_cons_of_mem _ h)]
theorem wipe_agree {σ σ2 : Stt} {vs : List Nat} (a : Agree (kpV vs) (wipe σ vs) σ2) : wipe σ2 vs = wipe σ vs := by
  apply List.ext_getElem?
  intro i
  have hl : σ2.length = σ.length := by rw [a.1, wipe_length]
  by_cases hi : i ∈ vs
  · by_cases hl2 : i < σ.length
    · rw [wipe_get σ i vs hi hl2, wipe_get σ2 i vs hi (by omega)]
    · rw [List.getElem?_eq_none (by rw [wipe_length]; omega), List.getElem?_eq_none (by rw [wipe_length]; omega)]
  · rw [wipe_get' σ i vs hi, wipe_get' σ2 i vs hi, a.2 i (by simpa using hi), wipe_get' σ i vs hi]
theorem reps_snoc {H : Hp} : ∀ {ts : List T} {vs : List V} {A B : Fp} {t : T} {v : V}, Reps H ts vs A → Rep H t v B → Disj A B → Reps H (ts ++ [t]) (vs ++ [v]) (un A B)
  | [], vs, A, B, t, v, h, r, d => by
    obtain rfl : vs = [] := h
    exact ⟨v, [], B, emp, rfl, r, rfl, fun _ z => .inr z, fun _ z => z.elim, fun _ _ z => z.elim⟩
  | t0 :: ts, _, A, B, t, v, ⟨x, r, C, D, e, h1, h2, s1, s2, d0⟩, rt, d => by
    subst e
    exact ⟨x, r ++ [v], C, un D B, rfl, h1, reps_snoc h2 rt (fun a z1 z2 => d a (s2 a z1) z2), fun a z => .inl (s1 a z), fun a z => z.elim (fun y => .inl (s2 a y)) .inr, fun a z1 z2 => z2.elim (d0 a z1) fun y => d a (s1 a z1) y⟩
theorem kp_upd {H : Hp} {D : Addr} {xs ys : List V} {C Z : Fp} (h : H D = some (.lst xs)) (hc : ¬ C D) (hz : ¬ Z D) : Kp C Z H (upd H D (.lst ys)) :=
  ⟨fun b zs e => by rw [upd_ne (fun z => by rw [z, h] at e; cases e)]; exact e, fun b o u e => by rw [upd_ne (fun z => by rw [z, h] at e; cases e)]; exact e,
   fun b o hb e => by rw [upd_ne (fun z => hc (by rw [← z]; exact hb))]; exact e, fun b o hb e => by rw [upd_ne (fun z => hz (by rw [← z]; exact hb))]; exact e⟩
theorem fq_lc {fi : Env → R Unit (List Sl)} {g : TgF} {fc : Env → R Unit Bool} {fe : Env → R Unit T} {vs : List Nat} {σ : Stt} {H : Hp} {Q : VK} (q : FQ K mg W .o (fLc vs fi g fc fe) σ H Q) :
    tLc (FIe K mg W fi) (FG K (kpV vs) g) (FQT K mg wNo fc) (FQ K mg wNo .o fe) vs σ H Q := by
  obtain ⟨ρ, Z, A, G, q⟩ := q
  refine ⟨ρ, Z, A, G, ?_⟩
  revert q
  unfold fLc
  cases fi ρ with
  | exc e x => exact id
  | bad => exact id
  | ok ss =>
    intro q J H1 e1 it hl D hD
    rw [R.bind_ok] at q
    cases hgo : lcGo g fc fe (wipeE (viewE ρ) vs) ss with
    | exc e x =>
      -- a comprehension lets nothing out
      exfalso
      have no : ∀ l, ∀ e' x', lcGo g fc fe (wipeE (viewE ρ) vs) l ≠ .exc e' x' := by
        intro l
        induction l with
        | nil => intro e' x' h; cases h
        | cons s l ih =>
          intro e' x' h
          unfold lcGo at h
          split at h
          · cases h
          · split at h
            · split at h
              · cases hl : lcGo g fc fe (wipeE (viewE ρ) vs) l with
                | ok ts => rw [hl] at h; cases h
                | exc e2 x2 => exact ih e2 x2 hl
                | bad => rw [hl] at h; cases h
              · cases h
            · exact ih e' x' h
            · cases h
      exact no ss e x hgo
    | bad => rw [hgo] at q; exact q.elim
    | ok ts =>
      rw [hgo, R.bind_ok] at q
      have G1 : EnvRep K (fun b => H1 b ≠ none) H1 (wipe σ vs) (wipeE (viewE ρ) vs) emp := env_wipe (env_view (G.ext e1).env) _
      have GH : ∀ H', Ext H1 H' → Good K (fun b => H1 b ≠ none) H' (wipe σ vs) (wipeE (viewE ρ) vs) emp := fun H' e => ⟨G1.kp e.kp, fun _ _ z => z, fun a h => e.dom a h, fun _ z => z.elim⟩
      refine ⟨fun i m H' => m = ss.length - i ∧ i ≤ ss.length ∧ Ext H1 H' ∧ ∃ acc accV rest B, H' D = some (.lst accV) ∧ Reps H' acc accV B ∧ ¬ B D ∧ Fresh H1 B ∧ Al H' B ∧ lcGo g fc fe (wipeE (viewE ρ) vs) (ss.drop i) = .ok rest ∧ acc ++ rest = ts ∧ accV.length ≤ i,
        ⟨ss.length, by simp, Nat.zero_le _, Ext.new hD, [], [], ts, emp, upd_same, rfl, fun z => z, fun _ z => z.elim, fun _ z => z.elim, by simpa using hgo, rfl, Nat.le_refl _⟩, ?_⟩
      rintro i m H' ⟨rfl, hi2, e2, acc, accV, rest, B, hDa, hr, nB, frB, alB, hgo2, happ, hlen⟩
      obtain ⟨h1, h2⟩ := it H' e2
      by_cases hlt : i < ss.length
      · refine .inr ⟨(h1 i ss[i] (List.getElem?_eq_getElem hlt)).1, fun H3 => Ext H1 H3 ∧ ∃ acc accV rest B, H3 D = some (.lst accV) ∧ Reps H3 acc accV B ∧ ¬ B D ∧ Fresh H1 B ∧ Al H3 B ∧ lcGo g fc fe (wipeE (viewE ρ) vs) (ss.drop (i + 1)) = .ok rest ∧ acc ++ rest = ts ∧ accV.length ≤ i + 1,
          fun H3 n3 => ⟨ss.length - (i + 1), by omega, rfl, hlt, n3⟩, fun x H'' y => ?_⟩
        obtain ⟨e3, Bs, rs, fr, al2⟩ := (h1 i ss[i] (List.getElem?_eq_getElem hlt)).2 x H'' y
        rw [List.drop_eq_getElem_cons hlt] at hgo2
        unfold lcGo at hgo2
        refine ⟨wipeE (viewE ρ) vs, fun b => H1 b ≠ none, emp, ss[i], Bs, GH H'' (e2.trans e3), rs, fun _ _ z => z, fun a z1 z2 => z2 (e2.fresh (fr a z1)), al2, ?_⟩
        cases hgs : g ss[i] (wipeE (viewE ρ) vs) with
        | none => rw [hgs] at hgo2; cases hgo2
        | some ρ1 =>
          rw [hgs] at hgo2
          dsimp only at hgo2
          intro σ2 A2 G2 sA ag
          refine ⟨wipe_agree ag, ρ1, _, A2, G2, ?_⟩
          cases hfc : fc ρ1 with
          | exc e x => rw [hfc] at hgo2; cases hgo2
          | bad => rw [hfc] at hgo2; cases hgo2
          | ok d =>
            rw [hfc] at hgo2
            intro H3 e4
            have e13 : Ext H1 H3 := (e2.trans e3).trans e4
            cases d with
            | false =>
              rw [if_neg Bool.false_ne_true]
              refine ⟨e13, acc, accV, rest, B, (e3.trans e4) _ _ hDa, Reps.kp ((e3.trans e4).kp (C := B) (Z := top)) _ _ hr, nB, frB, (e3.trans e4).al alB, hgo2, happ, Nat.le_succ_of_le hlen⟩
            | true =>
              rw [if_pos rfl]
              refine ⟨ρ1, _, A2, G2.ext e4, ?_⟩
              dsimp only at hgo2
              cases hfe : fe ρ1 with
              | exc e x => rw [hfe] at hgo2; cases hgo2
              | bad => rw [hfe] at hgo2; cases hgo2
              | ok t =>
                rw [hfe] at hgo2
                dsimp only at hgo2
                intro v H4 e5 ⟨Bt, rt, frt, alt⟩
                cases hrest : lcGo g fc fe (wipeE (viewE ρ) vs) (ss.drop (i + 1)) with
                | exc e x => rw [hrest] at hgo2; cases hgo2
                | bad => rw [hrest] at hgo2; cases hgo2
                | ok rest' =>
                  rw [hrest, R.bind_ok] at hgo2
                  have er : t :: rest' = rest := by injection hgo2
                  have e04 : Ext H' H4 := (e3.trans e4).trans e5
                  have hD4 : H4 D = some (.lst accV) := e04 _ _ hDa
                  have nBt : ¬ Bt D := fun z => by
                    have := frt D z
                    rw [(e3.trans e4) _ _ hDa] at this; cases this
                  have ext5 : Ext H1 (upd H4 D (.lst (accV ++ [v]))) := fun b o h => by
                    rw [upd_ne (fun z => by rw [z, hD] at h; cases h)]
                    exact (e13.trans e5) b o h
                  have k5 : Kp (un B Bt) top H4 (upd H4 D (.lst (accV ++ [v]))) → True := fun _ => trivial
                  have rep5 : Reps (upd H4 D (.lst (accV ++ [v]))) (acc ++ [t]) (accV ++ [v]) (un B Bt) := by
                    refine Reps.kp (kp_upd (Z := emp) hD4 (fun z => z.elim nB nBt) id) _ _ (reps_snoc (Reps.kp (e04.kp (C := B) (Z := top)) _ _ hr) rt fun a z1 z2 => ?_)
                    exact (e3.trans e4).al alB a z1 (frt a z2)
                  refine ⟨accV, hD4, Nat.lt_of_le_of_lt hlen (Nat.lt_of_lt_of_le hlt hl), ext5, acc ++ [t], accV ++ [v], rest', un B Bt, upd_same, rep5, fun z => z.elim nB nBt, fun a z => z.elim (frB a) fun y => e13.fresh (frt a y), fun a z => ?_, rfl, by rw [List.append_assoc, ← happ, ← er]; rfl, by simp; omega⟩
                  have na : a ≠ D := fun w => by subst w; exact z.elim nB nBt
                  rw [upd_ne na]
                  exact z.elim (e04.al alB a) (alt a)
      · have e : i = ss.length := by omega
        subst e
        rw [List.drop_length] at hgo2
        have er : [] = rest := by injection hgo2
        subst er
        rw [List.append_nil] at happ
        subst happ
        refine .inl ⟨h2, q _ H' (e1.trans e2) ⟨fun b => b = D ∨ B b, ⟨D, accV, rfl, hDa, .inl rfl, Reps.mono (fun a z => ⟨.inr z, fun w => nB (w ▸ z)⟩) _ _ hr⟩, fun a z => z.elim (fun w => by rw [w]; exact e1.fresh hD) fun w => e1.fresh (frB a w), fun a z => z.elim (fun w => by rw [w, hDa]; intro c; cases c) (alB a)⟩⟩
theorem q_lc {elt tg it : Expr} {ifs : List Expr} {scope : Scope} (own : List (Str × Nat)) {pos : Pos} {fi : Env → R Unit (List Sl)} {g : TgF} {fc : Env → R Unit Bool} {fe : Env → R Unit T} (hc : X.calm = true) (hN : X.N.Nodup) (hi : JIe X W tg it fi) (ok : BlkOk X.N X.env.scope scope own)
    (hg : ∀ (s : Shared) (H : Hp) (C : Addr) (cl : List (Str × Addr)) (fp : List Addr), JG (X.blk s H scope (compEnvC scope cl C X.env) fp) (kpV (snds own)) tg g)
    (ht : ∀ (s : Shared) (H : Hp) (C : Addr) (cl : List (Str × Addr)) (fp : List Addr), JQTs (X.blk s H scope (compEnvC scope cl C X.env) fp) wNo ifs fc)
    (he : ∀ (s : Shared) (H : Hp) (C : Addr) (cl : List (Str × Addr)) (fp : List Addr), JQ (X.blk s H scope (compEnvC scope cl C X.env) fp) wNo .o elt fe) (hs : ∀ x, foldedSetIterable it X.env x = pure x := by intro _; rfl) :
    JQ X W .o (.ListComp elt [⟨tg, it, ifs, 0⟩] scope pos) (fLc (snds own) fi g fc fe) :=
  peM (pe_lc (g := FG X.K (kpV (snds own)) g) (tt := FQT X.K X.mg wNo fc) (te := FQ X.K X.mg wNo .o fe) hc hN hi ok hg ht he hs) fun _ _ _ q => fq_lc q
theorem t_setLc (i : Nat) {kp : Nat → Bool} {elt tg it : Expr} {ifs : List Expr} {scope : Scope} (own : List (Str × Nat)) {pos spos py : Pos} {y : Str} {fi : Env → R Unit (List Sl)} {g : TgF} {fc : Env → R Unit Bool} {fe : Env → R Unit T} (hc : X.calm = true) (hN : X.N.Nodup) (hy : X.N[i]? = some y) (hyl : X.env.scope.names.lookup y = some .local)
    (hsw : swapsWith (.ListComp elt [⟨tg, it, ifs, 0⟩] scope pos) (some (.Name y py)) spos.line X.env = pure true) (hi : JIe X W tg it fi) (ok : BlkOk X.N X.env.scope scope own)
    (hg : ∀ (s : Shared) (H : Hp) (C : Addr) (cl : List (Str × Addr)) (fp : List Addr), JG (X.blk s H scope (compEnvC scope cl C X.env) fp) (kpV (snds own)) tg g)
    (ht : ∀ (s : Shared) (H : Hp) (C : Addr) (cl : List (Str × Addr)) (fp : List Addr), JQTs (X.blk s H scope (compEnvC scope cl C X.env) fp) wNo ifs fc)
    (he : ∀ (s : Shared) (H : Hp) (C : Addr) (cl : List (Str × Addr)) (fp : List Addr), JQ (X.blk s H scope (compEnvC scope cl C X.env) fp) wNo .o elt fe) (hk : kp i = false := by rfl) (hs : ∀ x, foldedSetIterable it X.env x = pure x := by intro _; rfl) :
    JT X W kp (.Assign [.Name y py] (.ListComp elt [⟨tg, it, ifs, 0⟩] scope pos) spos) (tSet i (fLc (snds own) fi g fc fe)) :=
  psM (ps_setLc (g := FG X.K (kpV (snds own)) g) (tt := FQT X.K X.mg wNo fc) (te := FQ X.K X.mg wNo .o fe) hc hN hy hyl hsw hi ok hg ht he hs) fun D σ H q => fq_lc (fq_store hk q)
theorem fs_lc {fi : Env → R Env (List Sl × Env)} {g : TgF} {fc : Env → R Unit Bool} {fe : Env → R Env (AV × Env)} {vs : List Nat} {σ : Stt} {H : Hp} {Q : VK} (q : FS K mg W (sLc vs fi g fc fe) σ H Q) :
    tLc (FIS K mg W fi) (FG K (kpV vs) g) (FQT K mg wNo fc) (FS K mg wNo fe) vs σ H Q := by
  obtain ⟨ρ, Z, A, G, q⟩ := q
  refine ⟨ρ, Z, A, G, ?_⟩
  revert q
  unfold sLc
  cases fi ρ with
  | exc e x => exact id
  | bad => exact id
  | ok ss =>
    obtain ⟨ss, ρ1⟩ := ss
    intro q J H1 A1 Z1 G1 sZ dZ aZ st1 it hl D hD
    simp only [R.bind_ok] at q
    cases hgo : lcGoE g fc fe vs ss (wipeE ρ1 vs) with
    | exc e x => rw [hgo] at q; exact q.elim
    | bad => rw [hgo] at q; exact q.elim
    | ok tr =>
      obtain ⟨ts, ρe⟩ := tr
      rw [hgo] at q
      have Gw : Good K Z H1 (wipe σ vs) (wipeE ρ1 vs) A1 := ⟨env_wipe G1.env vs, G1.dis, G1.alZ, G1.alA⟩
      have eD : Ext H1 (upd H1 D (.lst [])) := Ext.new hD
      refine ⟨fun i m H' => m = ss.length - i ∧ i ≤ ss.length ∧ Stb Z1 H1 H' ∧ ∃ acc accV rest B ρ' A', Good K Z H' (wipe σ vs) (wipeE ρ' vs) A' ∧ Disj Z1 A' ∧ Al H' Z1 ∧ H' D = some (.lst accV) ∧ Reps H' acc accV B ∧ ¬ B D ∧ ¬ A' D ∧ ¬ Z1 D ∧ Disj B A' ∧ Al H' B ∧ Step H A H' (un A' fun b => b = D ∨ B b) ∧ lcGoE g fc fe vs (ss.drop i) (wipeE ρ' vs) = .ok (rest, ρe) ∧ acc ++ rest = ts ∧ accV.length ≤ i,
        ⟨ss.length, by simp, Nat.zero_le _, eD.kp, [], [], ts, emp, ρ1, A1, Gw.ext eD, dZ, eD.al aZ, upd_same, rfl, fun z => z, fun z => G1.alA D z hD, fun z => aZ D z hD, fun _ z => z.elim, fun _ z => z.elim, ?_, by simpa using hgo, rfl, Nat.le_refl _⟩, ?_⟩
      · exact (st1.trans (Step.ext (B := fun b => b = D) eD fun a h => by rw [h]; exact hD)).mono fun a h => h.imp id fun z => z.elim id fun y => y.elim
      rintro i m H' ⟨rfl, hi2, k2, acc, accV, rest, B, ρ', A', G', dZA, alZ1, hDa, hr, nB, nA, nZ, dBA, alB, st', hgo2, happ, hlen⟩
      obtain ⟨h1, h2⟩ := it H' k2
      by_cases hlt : i < ss.length
      · refine .inr ⟨(h1 i ss[i] (List.getElem?_eq_getElem hlt)).1, fun H3 => Stb Z1 H1 H3 ∧ ∃ acc accV rest B ρ' A', Good K Z H3 (wipe σ vs) (wipeE ρ' vs) A' ∧ Disj Z1 A' ∧ Al H3 Z1 ∧ H3 D = some (.lst accV) ∧ Reps H3 acc accV B ∧ ¬ B D ∧ ¬ A' D ∧ ¬ Z1 D ∧ Disj B A' ∧ Al H3 B ∧ Step H A H3 (un A' fun b => b = D ∨ B b) ∧ lcGoE g fc fe vs (ss.drop (i + 1)) (wipeE ρ' vs) = .ok (rest, ρe) ∧ acc ++ rest = ts ∧ accV.length ≤ i + 1,
          fun H3 n3 => ⟨ss.length - (i + 1), by omega, rfl, hlt, n3⟩, fun x H'' y => ?_⟩
        obtain ⟨e3, Bs, rs, fr, al2⟩ := (h1 i ss[i] (List.getElem?_eq_getElem hlt)).2 x H'' y
        rw [List.drop_eq_getElem_cons hlt] at hgo2
        have hp : ∃ p, ss[i] = .ow (.pv p) := by
          generalize ss[i] = s0 at hgo2
          unfold lcGoE at hgo2
          split at hgo2
          · rename_i h; exact (List.cons_ne_nil _ _ h).elim
          · rename_i h; injection h with h1 h2; exact ⟨_, h1⟩
          · cases hgo2
        obtain ⟨p, hp⟩ := hp
        rw [hp] at hgo2 rs
        unfold lcGoE at hgo2
        have G2 := G'.ext e3
        have rs' : SlRep K Z H'' (some x) (.ow (.pv p)) emp := rs
        refine ⟨wipeE ρ' vs, Z, A', .ow (.pv p), emp, G2, rs', fun _ z => z.elim, fun _ z => z.elim, fun _ z => z.elim, ?_⟩
        cases hgs : g (.ow (.pv p)) (wipeE ρ' vs) with
        | none => rw [hgs] at hgo2; cases hgo2
        | some ρ1 =>
          rw [hgs] at hgo2
          dsimp only at hgo2
          intro σ2 A2 G3 sA ag
          have wag := wipe_agree ag
          refine ⟨wag, ρ1, Z, A2, G3, ?_⟩
          have hDne : H' D ≠ none := by rw [hDa]; intro c; cases c
          have nA2 : ¬ A2 D := fun z => (sA D z).elim nA fun w => w.elim
          have dBA2 : Disj B A2 := fun a z1 z2 => (sA a z2).elim (dBA a z1) fun w => w.elim
          have stp2 : Step H' (un A' fun b => b = D ∨ B b) H'' (un A2 fun b => b = D ∨ B b) := ⟨fun b o h _ => e3 b o h, e3.dom, fun b h => h.elim (fun z => (sA b z).imp .inl fun w => w.elim) fun z => .inl (.inr z)⟩
          have dZA2 : Disj Z1 A2 := fun a z1 z2 => (sA a z2).elim (dZA a z1) fun w => w.elim
          have st2 := st'.trans stp2
          cases hfc : fc ρ1 with
          | exc e x => rw [hfc] at hgo2; cases hgo2
          | bad => rw [hfc] at hgo2; cases hgo2
          | ok d =>
            rw [hfc] at hgo2
            intro H3 e4
            have G4 := G3.ext e4
            have e34 := e3.trans e4
            have st3 : Step H A H3 (un A2 fun b => b = D ∨ B b) := st2.trans (Step.ext0 e4)
            have Gw4 : Good K Z H3 (wipe σ vs) (wipeE ρ1 vs) A2 := ⟨by rw [← wag]; exact env_wipe G4.env vs, G4.dis, G4.alZ, G4.alA⟩
            cases d with
            | false =>
              rw [if_neg Bool.false_ne_true]
              exact ⟨k2.trans e34.kp, acc, accV, rest, B, ρ1, A2, Gw4, dZA2, e34.al alZ1, e34 _ _ hDa, Reps.kp (e34.kp (C := B) (Z := top)) _ _ hr, nB, nA2, nZ, dBA2, e34.al alB, st3, hgo2, happ, Nat.le_succ_of_le hlen⟩
            | true =>
              rw [if_pos rfl]
              refine ⟨ρ1, Z, A2, G4, ?_⟩
              dsimp only at hgo2
              cases hfe : fe ρ1 with
              | exc e x => rw [hfe] at hgo2; cases hgo2
              | bad => rw [hfe] at hgo2; cases hgo2
              | ok t =>
                obtain ⟨av, ρ2⟩ := t
                rw [hfe] at hgo2
                cases av with
                | late j => cases hgo2
                | val t =>
                  dsimp only at hgo2
                  intro v H4 A4 Bt G5 rt dt alt s5
                  have rt' : Rep H4 t v Bt := rt
                  cases hrest : lcGoE g fc fe vs (ss.drop (i + 1)) (wipeE ρ2 vs) with
                  | exc e x => rw [hrest] at hgo2; cases hgo2
                  | bad => rw [hrest] at hgo2; cases hgo2
                  | ok rr =>
                    obtain ⟨rest', ρe'⟩ := rr
                    rw [hrest] at hgo2
                    simp only [R.bind_ok, R.ok.injEq, Prod.mk.injEq] at hgo2
                    obtain ⟨er, ee⟩ := hgo2
                    subst ee
                    have hD3 : H3 D = some (.lst accV) := e34 _ _ hDa
                    have hD3n : H3 D ≠ none := by rw [hD3]; intro c; cases c
                    have hD4 : H4 D = some (.lst accV) := s5.keep D _ hD3 fun z => (nA2 z).elim
                    have alB3 : Al H3 B := e34.al alB
                    have nD : ¬ un A4 Bt D := fun z => (s5.sub D z).elim nA2 hD3n
                    have dB4 : Disj B (un A4 Bt) := s5.disj dBA2 alB3
                    have r4 : Reps H4 acc accV B := Reps.kp (s5.kp dBA2 G4.dis) _ _ (Reps.kp (e34.kp (C := B) (Z := top)) _ _ hr)
                    have k6 : Kp (un B Bt) Z1 H4 (upd H4 D (.lst (accV ++ [v]))) := kp_upd hD4 (fun z => z.elim nB fun y => nD (.inr y)) nZ
                    have rep5 : Reps (upd H4 D (.lst (accV ++ [v]))) (acc ++ [t]) (accV ++ [v]) (un B Bt) := Reps.kp k6 _ _ (reps_snoc r4 rt' fun a z1 z2 => dB4 a z1 (.inr z2))
                    have dom6 : ∀ b, H4 b ≠ none → (upd H4 D (.lst (accV ++ [v]))) b ≠ none := fun b h => by
                      by_cases e : b = D
                      · rw [e, upd_same]; intro c; cases c
                      · rw [upd_ne e]; exact h
                    have nZ0 : ¬ Z D := fun z => nZ (sZ D z)
                    have G6 : Good K Z (upd H4 D (.lst (accV ++ [v]))) (wipe σ vs) (wipeE ρ2 vs) A4 :=
                      ⟨(by rw [← wag]; exact env_wipe G5.env vs : EnvRep K Z H4 (wipe σ vs) (wipeE ρ2 vs) A4).kp (kp_upd hD4 (fun z => nD (.inl z)) nZ0), G5.dis, fun a h => dom6 a (G5.alZ a h), fun a h => dom6 a (G5.alA a h)⟩
                    refine ⟨accV, hD4, Nat.lt_of_le_of_lt hlen (Nat.lt_of_lt_of_le hlt hl), ((k2.trans e34.kp).trans (s5.kp (fun _ z => z.elim) dZA2)).trans (kp_upd hD4 (fun z => z) nZ), acc ++ [t], accV ++ [v], rest', un B Bt, ρ2, A4, G6, (fun a z1 z2 => s5.disj dZA2 (e34.al alZ1) a z1 (.inl z2)), (fun a z => dom6 a (s5.al (e34.al alZ1) a z)), upd_same, rep5, fun z => z.elim nB fun y => nD (.inr y), fun z => nD (.inl z), nZ,
                      fun a z1 z2 => z1.elim (fun y => dB4 a y (.inl z2)) fun y => dt a y z2, fun a z => dom6 a (z.elim (s5.al alB3 a) (alt a)), ?_, hrest, by rw [List.append_assoc, ← happ, ← er]; rfl, by simp; omega⟩
                    have w5 : Step H3 (un A2 fun b => b = D ∨ B b) H4 (un (un A4 Bt) fun b => b = D ∨ B b) := s5.wide
                    have u6 : Step H4 (un (un A4 Bt) fun b => b = D ∨ B b) (upd H4 D (.lst (accV ++ [v]))) (un A4 fun b => b = D ∨ un B Bt b) :=
                      ⟨fun b o h n => by
                        rw [upd_ne (fun z => by
                          subst z
                          rw [hD4] at h
                          cases h
                          exact n (.inr (.inl rfl)) trivial)]
                        exact h, dom6, fun b h => .inl (h.elim (fun z => .inl (.inl z)) fun z => z.elim (fun y => .inr (.inl y)) fun y => y.elim (fun w => .inr (.inr w)) fun w => .inl (.inr w))⟩
                    exact (st3.trans w5).trans u6
      · have e : i = ss.length := by omega
        subst e
        rw [List.drop_length] at hgo2
        have er : ([], wipeE ρ' vs) = (rest, ρe) := by injection hgo2
        cases er
        rw [List.append_nil] at happ
        subst happ
        have Gf : Good K Z H' σ (wipeE ρ' vs) A' := ⟨env_unwipe vs G'.env, G'.dis, G'.alZ, G'.alA⟩
        refine .inl ⟨h2, q (.ref D) H' A' (fun b => b = D ∨ B b) Gf ⟨D, accV, rfl, hDa, .inl rfl, Reps.mono (fun a z => ⟨.inr z, fun w => nB (w ▸ z)⟩) _ _ hr⟩ (fun a z1 z2 => z1.elim (fun w => nA (w ▸ z2)) fun w => dBA a w z2) (fun a z => z.elim (fun w => by rw [w, hDa]; intro c; cases c) (alB a)) st'⟩
theorem s_lc {elt tg it : Expr} {ifs : List Expr} {scope : Scope} (own : List (Str × Nat)) {pos : Pos} {fi : Env → R Env (List Sl × Env)} {g : TgF} {fc : Env → R Unit Bool} {fe : Env → R Env (AV × Env)} (hc : X.calm = true) (hN : X.N.Nodup) (hi : JIS X W tg it fi) (ok : BlkOk X.N X.env.scope scope own)
    (hg : ∀ (s : Shared) (H : Hp) (C : Addr) (cl : List (Str × Addr)) (fp : List Addr), JG (X.blk s H scope (compEnvC scope cl C X.env) fp) (kpV (snds own)) tg g)
    (ht : ∀ (s : Shared) (H : Hp) (C : Addr) (cl : List (Str × Addr)) (fp : List Addr), JQTs (X.blk s H scope (compEnvC scope cl C X.env) fp) wNo ifs fc)
    (he : ∀ (s : Shared) (H : Hp) (C : Addr) (cl : List (Str × Addr)) (fp : List Addr), JS (X.blk s H scope (compEnvC scope cl C X.env) fp) wNo elt fe) (hs : ∀ x, foldedSetIterable it X.env x = pure x := by intro _; rfl) :
    JS X W (.ListComp elt [⟨tg, it, ifs, 0⟩] scope pos) (sLc (snds own) fi g fc fe) :=
  peM (pe_lc (g := FG X.K (kpV (snds own)) g) (tt := FQT X.K X.mg wNo fc) (te := FS X.K X.mg wNo fe) hc hN hi ok hg ht he hs) fun _ _ _ q => fs_lc q
theorem t_setLcE (i : Nat) {kp : Nat → Bool} {elt tg it : Expr} {ifs : List Expr} {scope : Scope} (own : List (Str × Nat)) {pos spos py : Pos} {y : Str} {fi : Env → R Env (List Sl × Env)} {g : TgF} {fc : Env → R Unit Bool} {fe : Env → R Env (AV × Env)} (hc : X.calm = true) (hN : X.N.Nodup) (hy : X.N[i]? = some y) (hyl : X.env.scope.names.lookup y = some .local)
    (hsw : swapsWith (.ListComp elt [⟨tg, it, ifs, 0⟩] scope pos) (some (.Name y py)) spos.line X.env = pure true) (hi : JIS X W tg it fi) (ok : BlkOk X.N X.env.scope scope own)
    (hg : ∀ (s : Shared) (H : Hp) (C : Addr) (cl : List (Str × Addr)) (fp : List Addr), JG (X.blk s H scope (compEnvC scope cl C X.env) fp) (kpV (snds own)) tg g)
    (ht : ∀ (s : Shared) (H : Hp) (C : Addr) (cl : List (Str × Addr)) (fp : List Addr), JQTs (X.blk s H scope (compEnvC scope cl C X.env) fp) wNo ifs fc)
    (he : ∀ (s : Shared) (H : Hp) (C : Addr) (cl : List (Str × Addr)) (fp : List Addr), JS (X.blk s H scope (compEnvC scope cl C X.env) fp) wNo elt fe) (hk : kp i = false := by rfl) (hs : ∀ x, foldedSetIterable it X.env x = pure x := by intro _; rfl) :
    JT X W kp (.Assign [.Name y py] (.ListComp elt [⟨tg, it, ifs, 0⟩] scope pos) spos) (tSetE i (sLc (snds own) fi g fc fe)) :=
  psM (ps_setLc (g := FG X.K (kpV (snds own)) g) (tt := FQT X.K X.mg wNo fc) (te := FS X.K X.mg wNo fe) hc hN hy hyl hsw hi ok hg ht he hs) fun D σ H q => fs_lc (fs_store hk q)
end
end TR
namespace TR
open PySem PySem.Spec PyProof.Rows L2
def fB (f : Env → R Unit T) : Env → R Unit Bool := fun ρ => (f ρ).bind fun t => match t with
  | .pv (.bl b) => .ok b
  | _ => .bad
def sB (f : Env → R Env (AV × Env)) : Env → R Env (Bool × Env) := fun ρ => (f ρ).bind fun (a, ρ1) => match a.see ρ1 with
  | some (.pv (.bl b)) => .ok (b, ρ1)
  | _ => .bad
def fAndT (f g : Env → R Unit Bool) : Env → R Unit Bool := fun ρ => (f ρ).bind fun b => if b = true then g ρ else .ok false
def fOrT (f g : Env → R Unit Bool) : Env → R Unit Bool := fun ρ => (f ρ).bind fun b => if b = true then .ok true else g ρ
def fNotT (f : Env → R Unit Bool) : Env → R Unit Bool := fun ρ => (f ρ).bind fun b => .ok (!b)
def sAndT (f g : Env → R Env (Bool × Env)) : Env → R Env (Bool × Env) := fun ρ => (f ρ).bind fun (b, ρ1) => if b = true then g ρ1 else .ok (false, ρ1)
def sOrT (f g : Env → R Env (Bool × Env)) : Env → R Env (Bool × Env) := fun ρ => (f ρ).bind fun (b, ρ1) => if b = true then .ok (true, ρ1) else g ρ1
def sNotT (f : Env → R Env (Bool × Env)) : Env → R Env (Bool × Env) := fun ρ => (f ρ).bind fun (b, ρ1) => .ok (!b, ρ1)
def fQS (f : Env → R Unit Bool) : Env → R Env (Bool × Env) := fun ρ => match f ρ with
  | .ok b => .ok (b, ρ)
  | .exc e _ => .exc e ρ
  | .bad => .bad
def fOfB (f : Env → R Unit Bool) : Env → R Unit T := fun ρ => (f ρ).bind fun b => .ok (.pv (.bl b))
def fAndV (f : Env → R Unit T) (g : Env → R Unit T) : Env → R Unit T := fun ρ => (fB f ρ).bind fun b => if b = true then g ρ else .ok (.pv (.bl false))
def fOrV (f : Env → R Unit T) (g : Env → R Unit T) : Env → R Unit T := fun ρ => (fB f ρ).bind fun b => if b = true then .ok (.pv (.bl true)) else g ρ
def fNotV (f : Env → R Unit T) : Env → R Unit T := fun ρ => (fB f ρ).bind fun b => .ok (.pv (.bl (!b)))
def fIf (c : Env → R Unit Bool) (f g : Env → R Unit T) : Env → R Unit T := fun ρ => (c ρ).bind fun b => if b = true then f ρ else g ρ
def sIf (c : Env → R Env (Bool × Env)) (f g : Env → R Env (AV × Env)) : Env → R Env (AV × Env) := fun ρ => (c ρ).bind fun (b, ρ1) => if b = true then f ρ1 else g ρ1
def fChain (g g' : T → T → Option T) (fa fb fc : Env → R Unit T) : Env → R Unit T := fun ρ => (fa ρ).bind fun t => (fb ρ).bind fun u => match g t u with
  | some (.pv (.bl true)) => (fc ρ).bind fun w => R.of (g' u w)
  | some (.pv (.bl false)) => .ok (.pv (.bl false))
  | _ => .bad
section
variable {X : Cx} {W : WX} {K : PySem.W.Frag} {mg : Str → Option Value}
theorem fqt_fq {m : Md} {f : Env → R Unit T} {σ : Stt} {H : Hp} {Q : Bool → Hp → Prop} (h : FQT K mg W (fB f) σ H Q) : FQ K mg W m f σ H fun x H' => ∃ k, x = .bl k ∧ Q k H' := by
  obtain ⟨ρ, Z, A, G, q⟩ := h
  refine ⟨ρ, Z, A, G, ?_⟩
  revert q
  unfold fB
  cases f ρ with
  | ok t =>
    intro q v H1 e1 r1
    rw [R.bind_ok] at q
    cases t with
    | pv p =>
      cases p with
      | bl b =>
        have r' : v = .bl b := by
          cases m with
          | e => exact r1
          | z => exact r1
          | o => obtain ⟨B, r, _⟩ := r1; exact r
        exact ⟨b, r', q H1 e1⟩
      | _ => exact q.elim
    | _ => exact q.elim
  | exc e x => exact fun q => q
  | bad => exact fun q => q.elim
theorem fst_fs {f : Env → R Env (AV × Env)} {σ : Stt} {H : Hp} {Q : Bool → Hp → Prop} (h : FST K mg W (sB f) σ H Q) : FS K mg W f σ H fun x H' => ∃ k, x = .bl k ∧ Q k H' := by
  obtain ⟨ρ, Z, A, G, q⟩ := h
  refine ⟨ρ, Z, A, G, ?_⟩
  revert q
  unfold sB
  cases f ρ with
  | ok t =>
    obtain ⟨a, ρ1⟩ := t
    intro q v H1 A1 B G1 r d al st
    simp only [R.bind_ok] at q
    cases hs : a.see ρ1 with
    | none => rw [hs] at q; exact q.elim
    | some t =>
      rw [hs] at q
      cases t with
      | pv p =>
        cases p with
        | bl b => exact ⟨b, see_vw G1 r hs, q H1 A1 G1 (st.mono fun _ h => .inl h)⟩
        | _ => exact q.elim
      | _ => exact q.elim
  | exc e x => exact fun q => q
  | bad => exact fun q => q.elim
variable {a b c e : Expr} {pos : Pos} {fa fb fc : Env → R Unit T} {sa sb : Env → R Env (AV × Env)} {g g' : T → T → Option T} {r r' : R2}
theorem qt_cmp {o : CmpOp} (ho : OpR X (compareOp o) r) (hr : Ok2 X.K r g) (ha : JQ X W .e a fa) (hb : JQ X W .e b fb) (hm : behindInMarks o b = false) : JQT X W (.Compare a [o] [b] pos) (fB (f2 g fa fb)) := ptM (pt_cmpR ho ha hb hm) fun _ _ _ q => fq2 hr (fqt_fq q)
theorem st_cmp {o : CmpOp} (ho : OpR X (compareOp o) r) (hr : Ok2 X.K r g) (ha : JS X W a sa) (hb : JS X W b sb) (hm : behindInMarks o b = false) : JST X W (.Compare a [o] [b] pos) (sB (s2 g sa sb)) := ptM (pt_cmpR ho ha hb hm) fun _ _ _ q => fs2 hr (fst_fs q)
theorem qt_val {m : Md} (h : JQ X W m e fa) (he : ∀ whole, isTrue e X.env whole = (do let v ← whole; standAt e.pos; holding [v] (truthy v)) := by intro _; rfl) : JQT X W e (fB fa) := ptM (pt_val h he) fun _ _ _ q => fqt_fq q
theorem st_val (h : JS X W e sa) (he : ∀ whole, isTrue e X.env whole = (do let v ← whole; standAt e.pos; holding [v] (truthy v)) := by intro _; rfl) : JST X W e (sB sa) := ptM (pt_val h he) fun _ _ _ q => fst_fs q
theorem st_q {f : Env → R Unit Bool} (h : JQT X W e f) : JST X W e (fQS f) := ptM h fun σ H Q ⟨ρ, Z, A, G, q⟩ => ⟨ρ, Z, A, G, by
  revert q
  unfold fQS
  cases f ρ with
  | ok b => exact fun q H1 e1 => q H1 A (G.ext e1) (Step.ext0 e1)
  | exc e r => exact fun q cls d H' e1 x => q cls d H' A (G.ext e1) (Step.ext0 e1) x
  | bad => exact id⟩
theorem qt_not {f : Env → R Unit Bool} (h : JQT X W e f) : JQT X W (.UnaryOp .Not e pos) (fNotT f) := ptM (pt_not h) fun σ H Q ⟨ρ, Z, A, G, q⟩ => ⟨ρ, Z, A, G, by
  revert q
  unfold fNotT
  cases f ρ with
  | ok b => exact fun q => q
  | exc e r => exact id
  | bad => exact id⟩
theorem st_not {f : Env → R Env (Bool × Env)} (h : JST X W e f) : JST X W (.UnaryOp .Not e pos) (sNotT f) := ptM (pt_not h) fun σ H Q ⟨ρ, Z, A, G, q⟩ => ⟨ρ, Z, A, G, by
  revert q
  unfold sNotT
  cases f ρ with
  | ok b => exact fun q => q
  | exc e r => exact id
  | bad => exact id⟩
def JQW (X : Cx) (W : WX) (e : Expr) (f : Env → R Unit Bool) : Prop := PW X e (FQT X.K X.mg W f)
def JSW (X : Cx) (W : WX) (e : Expr) (f : Env → R Env (Bool × Env)) : Prop := PW X e (FST X.K X.mg W f)
theorem pwM {e : Expr} {t u : TT} (h : PW X e t) (m : ∀ σ H Q, u σ H Q → t σ H Q) : PW X e u := ⟨fun w pins s σ H Q I q => h.run w pins s σ H Q I (m σ H Q q)⟩
variable {ta tb : Env → R Unit Bool} {ua ub : Env → R Env (Bool × Env)} {rest : List Expr}
theorem qw_and1 (h : JQT X W a ta) : JQW X W (.BoolOp .And [a] pos) ta := pw_and1 h
theorem qw_or1 (h : JQT X W a ta) : JQW X W (.BoolOp .Or [a] pos) ta := pw_or1 h
theorem fqt_and {σ : Stt} {H : Hp} {Q : Bool → Hp → Prop} (h : FQT K mg W (fAndT ta tb) σ H Q) : tAnd (FQT K mg W ta) (FQT K mg W tb) σ H Q := by
  obtain ⟨ρ, Z, A, G, q⟩ := h
  refine ⟨ρ, Z, A, G, ?_⟩
  revert q
  unfold fAndT
  cases ta ρ with
  | exc e r => exact id
  | bad => exact id
  | ok b =>
    intro q H1 e1
    rw [R.bind_ok] at q
    cases b with
    | false => exact q H1 e1
    | true =>
      refine ⟨ρ, Z, A, G.ext e1, ?_⟩
      revert q
      rw [if_pos rfl]
      cases tb ρ with
      | ok d => exact fun q H2 e2 => q H2 (e1.trans e2)
      | exc e r => exact fun q cls d H' e2 x => q cls d H' (e1.trans e2) x
      | bad => exact id
theorem fqt_or {σ : Stt} {H : Hp} {Q : Bool → Hp → Prop} (h : FQT K mg W (fOrT ta tb) σ H Q) : tOr (FQT K mg W ta) (FQT K mg W tb) σ H Q := by
  obtain ⟨ρ, Z, A, G, q⟩ := h
  refine ⟨ρ, Z, A, G, ?_⟩
  revert q
  unfold fOrT
  cases ta ρ with
  | exc e r => exact id
  | bad => exact id
  | ok b =>
    intro q H1 e1
    rw [R.bind_ok] at q
    cases b with
    | true => exact q H1 e1
    | false =>
      refine ⟨ρ, Z, A, G.ext e1, ?_⟩
      revert q
      rw [if_neg Bool.false_ne_true]
      cases tb ρ with
      | ok d => exact fun q H2 e2 => q H2 (e1.trans e2)
      | exc e r => exact fun q cls d H' e2 x => q cls d H' (e1.trans e2) x
      | bad => exact id
theorem qw_and (ha : JQT X W a ta) (hb : JQW X W (.BoolOp .And (b :: rest) pos) tb) : JQW X W (.BoolOp .And (a :: b :: rest) pos) (fAndT ta tb) := pwM (pw_and ha hb) fun _ _ _ q => fqt_and q
theorem qw_or (ha : JQT X W a ta) (hb : JQW X W (.BoolOp .Or (b :: rest) pos) tb) : JQW X W (.BoolOp .Or (a :: b :: rest) pos) (fOrT ta tb) := pwM (pw_or ha hb) fun _ _ _ q => fqt_or q
theorem qt_w {f : Env → R Unit Bool} (h : JQW X W e f) : JQT X W e f := PW.pt h
theorem sw_and1 (h : JST X W a ua) : JSW X W (.BoolOp .And [a] pos) ua := pw_and1 h
theorem sw_or1 (h : JST X W a ua) : JSW X W (.BoolOp .Or [a] pos) ua := pw_or1 h
theorem sw_and (ha : JST X W a ua) (hb : JSW X W (.BoolOp .And (b :: rest) pos) ub) : JSW X W (.BoolOp .And (a :: b :: rest) pos) (sAndT ua ub) := pwM (pw_and ha hb) fun σ H Q ⟨ρ, Z, A, G, q⟩ => ⟨ρ, Z, A, G, by
  revert q
  unfold sAndT
  cases ua ρ with
  | exc e r => exact id
  | bad => exact id
  | ok b =>
    obtain ⟨b, ρ1⟩ := b
    intro q H1 A1 G1 s1
    simp only [R.bind_ok] at q
    cases b with
    | false => exact q H1 A1 G1 s1
    | true =>
      refine ⟨ρ1, Z, A1, G1, ?_⟩
      revert q
      rw [if_pos rfl]
      cases ub ρ1 with
      | ok d => exact fun q H2 A2 G2 s2 => q H2 A2 G2 (s1.trans s2)
      | exc e r => exact fun q cls d H' A' G' s' x => q cls d H' A' G' (s1.trans s') x
      | bad => exact id⟩
theorem sw_or (ha : JST X W a ua) (hb : JSW X W (.BoolOp .Or (b :: rest) pos) ub) : JSW X W (.BoolOp .Or (a :: b :: rest) pos) (sOrT ua ub) := pwM (pw_or ha hb) fun σ H Q ⟨ρ, Z, A, G, q⟩ => ⟨ρ, Z, A, G, by
  revert q
  unfold sOrT
  cases ua ρ with
  | exc e r => exact id
  | bad => exact id
  | ok b =>
    obtain ⟨b, ρ1⟩ := b
    intro q H1 A1 G1 s1
    simp only [R.bind_ok] at q
    cases b with
    | true => exact q H1 A1 G1 s1
    | false =>
      refine ⟨ρ1, Z, A1, G1, ?_⟩
      revert q
      rw [if_neg Bool.false_ne_true]
      cases ub ρ1 with
      | ok d => exact fun q H2 A2 G2 s2 => q H2 A2 G2 (s1.trans s2)
      | exc e r => exact fun q cls d H' A' G' s' x => q cls d H' A' G' (s1.trans s') x
      | bad => exact id⟩
theorem st_w {f : Env → R Env (Bool × Env)} (h : JSW X W e f) : JST X W e f := PW.pt h
theorem q_one {m : Md} {o : BoolOp} (h : JQ X W m a fa) : JQ X W m (.BoolOp o [a] pos) fa := pe_one h
theorem fq_lit {m : Md} {p : P} {v : V} {Z : Fp} {H H1 : Hp} (h : ∀ H, RepP H p v) : ResM K Z H m H1 (.pv p) v := by
  cases m with
  | e => exact h _
  | z => exact h _
  | o => exact ⟨emp, h _, fun _ z => z.elim, fun _ z => z.elim⟩
theorem q_and {m m' : Md} (ha : JQ X W m' a fa) (hb : JQ X W m (.BoolOp .And (b :: rest) pos) fb) : JQ X W m (.BoolOp .And (a :: b :: rest) pos) (fAndV fa fb) := peM (pe_and ha hb) fun σ H Q ⟨ρ, Z, A, G, q⟩ => by
  refine fqt_fq ⟨ρ, Z, A, G, ?_⟩
  revert q
  unfold fAndV
  cases fB fa ρ with
  | exc e r => exact id
  | bad => exact id
  | ok b =>
    intro q H1 e1
    rw [R.bind_ok] at q
    cases b with
    | false =>
      rw [if_neg Bool.false_ne_true] at q ⊢
      exact q _ H1 e1 (fq_lit fun _ => rfl)
    | true =>
      rw [if_pos rfl] at q ⊢
      refine ⟨ρ, Z, A, G.ext e1, ?_⟩
      revert q
      cases fb ρ with
      | ok d => exact fun q v H2 e2 r => q v H2 (e1.trans e2) (by
          cases m with
          | e => exact r
          | z => exact r
          | o => obtain ⟨B, r, fr, al⟩ := r; exact ⟨B, r, fun a h => e1.fresh (fr a h), al⟩)
      | exc e r => exact fun q cls d H' e2 x => q cls d H' (e1.trans e2) x
      | bad => exact id
theorem q_or {m m' : Md} (ha : JQ X W m' a fa) (hb : JQ X W m (.BoolOp .Or (b :: rest) pos) fb) : JQ X W m (.BoolOp .Or (a :: b :: rest) pos) (fOrV fa fb) := peM (pe_or ha hb) fun σ H Q ⟨ρ, Z, A, G, q⟩ => by
  refine fqt_fq ⟨ρ, Z, A, G, ?_⟩
  revert q
  unfold fOrV
  cases fB fa ρ with
  | exc e r => exact id
  | bad => exact id
  | ok b =>
    intro q H1 e1
    rw [R.bind_ok] at q
    cases b with
    | true =>
      rw [if_pos rfl] at q ⊢
      exact q _ H1 e1 (fq_lit fun _ => rfl)
    | false =>
      rw [if_neg Bool.false_ne_true] at q ⊢
      refine ⟨ρ, Z, A, G.ext e1, ?_⟩
      revert q
      cases fb ρ with
      | ok d => exact fun q v H2 e2 r => q v H2 (e1.trans e2) (by
          cases m with
          | e => exact r
          | z => exact r
          | o => obtain ⟨B, r, fr, al⟩ := r; exact ⟨B, r, fun a h => e1.fresh (fr a h), al⟩)
      | exc e r => exact fun q cls d H' e2 x => q cls d H' (e1.trans e2) x
      | bad => exact id
theorem q_not {m m' : Md} (ha : JQ X W m' a fa) : JQ X W m (.UnaryOp .Not a pos) (fNotV fa) := peM (pe_not ha) fun σ H Q ⟨ρ, Z, A, G, q⟩ => by
  refine fqt_fq ⟨ρ, Z, A, G, ?_⟩
  revert q
  unfold fNotV
  cases fB fa ρ with
  | exc e r => exact id
  | bad => exact id
  | ok b => exact fun q H1 e1 => q _ H1 e1 (fq_lit fun _ => rfl)
theorem q_if {m : Md} (hc : JQT X W c ta) (ha : JQ X W m a fa) (hb : JQ X W m b fb) : JQ X W m (.IfExp c a b pos) (fIf ta fa fb) := peM (pe_ifExp hc ha hb) fun σ H Q ⟨ρ, Z, A, G, q⟩ => by
  refine ⟨ρ, Z, A, G, ?_⟩
  revert q
  unfold fIf
  cases ta ρ with
  | exc e r => exact id
  | bad => exact id
  | ok d =>
    intro q H1 e1
    rw [R.bind_ok] at q
    have go : ∀ f : Env → R Unit T, (match f ρ with
        | .ok t => ∀ v H', Ext H H' → ResM X.K Z H m H' t v → Q v H'
        | .exc e _ => ∀ cls d H', Ext H H' → ExcRep X.mg H' e cls d → W cls d σ H'
        | .bad => False) → FQ X.K X.mg W m f σ H1 Q := fun f q => by
      refine ⟨ρ, Z, A, G.ext e1, ?_⟩
      revert q
      cases f ρ with
      | ok d => exact fun q v H2 e2 r => q v H2 (e1.trans e2) (by
          cases m with
          | e => exact r
          | z => exact r
          | o => obtain ⟨B, r, fr, al⟩ := r; exact ⟨B, r, fun a h => e1.fresh (fr a h), al⟩)
      | exc e r => exact fun q cls d H' e2 x => q cls d H' (e1.trans e2) x
      | bad => exact id
    cases d with
    | true => rw [if_pos rfl] at q ⊢; exact go fa q
    | false => rw [if_neg Bool.false_ne_true] at q ⊢; exact go fb q
theorem s_if (hc : JST X W c ua) (ha : JS X W a sa) (hb : JS X W b sb) : JS X W (.IfExp c a b pos) (sIf ua sa sb) := peM (pe_ifExp hc ha hb) fun σ H Q ⟨ρ, Z, A, G, q⟩ => by
  refine ⟨ρ, Z, A, G, ?_⟩
  revert q
  unfold sIf
  cases ua ρ with
  | exc e r => exact id
  | bad => exact id
  | ok d =>
    obtain ⟨d, ρ1⟩ := d
    intro q H1 A1 G1 s1
    simp only [R.bind_ok] at q
    have go : ∀ f : Env → R Env (AV × Env), (match f ρ1 with
        | .ok (av, ρ') => ∀ v H' A' B, Good X.K Z H' σ ρ' A' → AvRep σ H' av v B → Disj B A' → Al H' B → Step H A H' (un A' B) → Q v H'
        | .exc e ρ' => ∀ cls d H' A', Good X.K Z H' σ ρ' A' → Step H A H' A' → ExcRep X.mg H' e cls d → W cls d σ H'
        | .bad => False) → FS X.K X.mg W f σ H1 Q := fun f q => by
      refine ⟨ρ1, Z, A1, G1, ?_⟩
      revert q
      cases f ρ1 with
      | ok d => exact fun q v H2 A2 B G2 r d al st => q v H2 A2 B G2 r d al (s1.trans st)
      | exc e r => exact fun q cls d H' A' G' st x => q cls d H' A' G' (s1.trans st) x
      | bad => exact id
    cases d with
    | true => rw [if_pos rfl] at q ⊢; exact go sa q
    | false => rw [if_neg Bool.false_ne_true] at q ⊢; exact go sb q
theorem fq_chain (hr : Ok2 K r g) (hr' : Ok2 K r' g') {σ : Stt} {H : Hp} {Q : VK} (h : FQ K mg W .o (fChain g g' fa fb fc) σ H Q) : tChain r r' (FQ K mg W .e fa) (FQ K mg W .e fb) (FQ K mg W .e fc) σ H Q := by
  obtain ⟨ρ, Z, A, G, q⟩ := h
  refine ⟨ρ, Z, A, G, ?_⟩
  revert q
  unfold fChain
  cases fa ρ with
  | exc e x => exact fun q => q
  | bad => exact fun q => q.elim
  | ok t =>
    intro q v H1 e1 r1
    refine ⟨ρ, Z, A, G.ext e1, ?_⟩
    revert q
    rw [R.bind_ok]
    cases fb ρ with
    | exc e x => exact fun q cls d H' e2 x => q cls d H' (e1.trans e2) x
    | bad => exact fun q => q.elim
    | ok u =>
      intro q w H2 e2 r2
      rw [R.bind_ok] at q
      have rt : Vw K top H2 t v := Vw.kp (e2.kp (C := top)) t v r1
      cases hg : g t u with
      | none => rw [hg] at q; exact q.elim
      | some z =>
        rw [hg] at q
        cases z with
        | pv p =>
          cases p with
          | bl k =>
            refine hr H2 t u v w _ rt r2 hg _ fun v' H' B e3 rep fr al => ⟨k, rep, ?_⟩
            have e123 : Ext H H' := e1.trans (e2.trans e3)
            cases k with
            | false =>
              rw [if_neg Bool.false_ne_true]
              exact q _ H' e123 (fq_lit fun _ => rfl)
            | true =>
              rw [if_pos rfl]
              refine ⟨ρ, Z, A, G.ext e123, ?_⟩
              revert q
              dsimp only
              cases fc ρ with
              | exc e x => exact fun q cls d H' e2 x => q cls d H' (e123.trans e2) x
              | bad => exact fun q => q.elim
              | ok y =>
                intro q x H4 e4 r4
                rw [R.bind_ok] at q
                cases hg' : g' u y with
                | none => rw [hg'] at q; exact q.elim
                | some z =>
                  rw [hg'] at q
                  exact hr' H4 u y w x z (Vw.kp ((e3.trans e4).kp (C := top)) u w r2) r4 hg' Q fun v' H' B e5 rep fr al => q v' H' (e123.trans (e4.trans e5)) ⟨B, rep, fun a ha => (e123.trans e4).fresh (fr a ha), al⟩
          | _ => exact q.elim
        | _ => exact q.elim
theorem q_chain {o o' : CmpOp} (ho : OpR X (compareOp o) r) (ho' : OpR X (compareOp o') r') (hr : Ok2 X.K r g) (hr' : Ok2 X.K r' g') (ha : JQ X W .e a fa) (hb : JQ X W .e b fb) (hc : JQ X W .e c fc)
    (hm : lastMarks [o, o'] [b, c] = false := by with_unfolding_all rfl) : JQ X W .o (.Compare a [o, o'] [b, c] pos) (fChain g g' fa fb fc) := peM (pe_chain ho ho' ha hb hc hm) fun _ _ _ q => fq_chain hr hr' q
theorem qt_chain {o o' : CmpOp} (ho : OpR X (compareOp o) r) (ho' : OpR X (compareOp o') r') (hr : Ok2 X.K r g) (hr' : Ok2 X.K r' g') (ha : JQ X W .e a fa) (hb : JQ X W .e b fb) (hc : JQ X W .e c fc)
    (hm : lastMarks [o, o'] [b, c] = false := by with_unfolding_all rfl) : JQT X W (.Compare a [o, o'] [b, c] pos) (fB (fChain g g' fa fb fc)) := ptM (pt_chain ho ho' ha hb hc hm) fun _ _ _ q => fq_chain hr hr' (fqt_fq q)
end
end TR
namespace TR
open PySem PySem.Spec PyProof.Rows L2
def takeA : List Bool → List AV → Env → Option (Env × Env)
  | [], [], ρ => some ([], ρ)
  | true :: io, .late i :: as, ρ => match ρ[i]? with
    | some (.ow t) => (takeA io as (ρ.set i .no)).map fun (args, ρ') => (.ow t :: args, ρ')
    | _ => none
  | false :: io, a :: as, ρ => (takeA io as ρ).bind fun (args, ρ') => (a.see ρ').map fun t => (argSl t :: args, ρ')
  | _, _, _ => none
def giveB : List Bool → List AV → Env → Env → Env
  | true :: io, .late i :: as, s :: ss, ρ => match s with
    | .ow t => (giveB io as ss ρ).set i (.ow t)
    | _ => giveB io as ss ρ
  | _ :: io, _ :: as, _ :: ss, ρ => giveB io as ss ρ
  | _, _, _, ρ => ρ
def sCall (g : Fn) (io : List Bool) (fa : Env → R Env (List AV × Env)) : Env → R Env (AV × Env) := fun ρ => (fa ρ).bind fun (as, ρ1) => match takeA io as ρ1 with
  | none => .bad
  | some (args, ρ2) => match g args with
    | .ok (t, ss) => .ok (.val t, giveB io as ss ρ2)
    | .exc e ss => .exc e (giveB io as ss ρ2)
    | .bad => .bad
section
variable {X : Cx} {W : WX} {K : PySem.W.Frag} {mg : Str → Option Value}
theorem see_vw2 {Z A B : Fp} {H : Hp} {σ : Stt} {ρ : Env} {a : AV} {v : V} {t : T} (g : EnvRep K Z H σ ρ A) (r : AvRep σ H a v B) (e : a.see ρ = some t) : Vw K (fun x => Z x ∨ A x ∨ B x) H t v := by
  cases a with
  | val u =>
    have e' : u = t := Option.some.inj e
    subst e'
    exact Rep.vw (fun _ h => .inr (.inr h)) _ v r
  | late i =>
    have r' : σ[i]? = some (some v) := r
    have e' : (ρ[i]?).bind Sl.t? = some t := e
    cases q : ρ[i]? with
    | none => rw [q] at e'; cases e'
    | some s =>
      rw [q] at e'
      obtain ⟨o, B', h1, h2, sb⟩ := slot_of g q
      rw [h1] at r'
      have er : o = some v := Option.some.inj r'
      subst er
      cases s with
      | no => cases e'
      | ow u =>
        have e2 : u = t := Option.some.inj e'
        subst e2
        obtain ⟨w, e3, r3⟩ := h2
        cases e3
        exact Rep.vw (fun x h => .inr (.inl (sb x h))) _ v r3
      | vw u =>
        have e2 : u = t := Option.some.inj e'
        subst e2
        obtain ⟨w, e3, r3⟩ := h2
        cases e3
        exact Vw.mono (fun _ h => .inl h) _ v r3
theorem argSl_rep {Z : Fp} {H : Hp} {t : T} {v : V} (h : Vw K Z H t v) : SlRep K Z H (some v) (argSl t) emp := by
  cases t with
  | pv p => exact ⟨v, rfl, h⟩
  | _ => exact ⟨v, rfl, h⟩
theorem takeA_ok {Z : Fp} {H : Hp} {σ : Stt} : ∀ {io : List Bool} {as : List AV} {vs : List V} {ρ : Env} {A B : Fp} {args ρ' : Env}, EnvRep K Z H σ ρ A → AvReps σ H as vs B → takeA io as ρ = some (args, ρ') →
    ∃ Ai Ar, EnvRep K Z H σ ρ' Ar ∧ Sub Ai A ∧ Sub Ar A ∧ Disj Ai Ar ∧ EnvRep K (fun x => Z x ∨ Ar x ∨ B x) H (vs.map some) args Ai ∧ ρ'.length = ρ.length ∧
      ∀ (H' : Hp) (ss : Env) (Z2 Bi : Fp), Kp Ar Z H H' → EnvRep K Z2 H' (vs.map some) ss Bi → Disj Bi Ar → ∃ C, EnvRep K Z H' σ (giveB io as ss ρ') C ∧ Sub C (un Bi Ar)
  | [], [], vs, ρ, A, B, args, ρ', g, r, e => by
    cases r
    cases e
    exact ⟨emp, A, g, fun _ z => z.elim, fun _ h => h, fun _ z => z.elim, trivial, rfl, fun H' ss Z2 Bi k h d => ⟨A, g.kp k, fun _ h => .inr h⟩⟩
  | true :: io, .late i :: as, _, ρ, A, B, args, ρ', g, .cons r1 r2 s1 s2 d, e => by
    rename_i v vs B1 B2
    unfold takeA at e
    cases q : ρ[i]? with
    | none => rw [q] at e; cases e
    | some s =>
      rw [q] at e
      cases s with
      | no => cases e
      | vw t => cases e
      | ow t =>
        dsimp only at e
        obtain ⟨o, B0, C, h1, h2, h3, h4, h5, put⟩ := g.at q
        have rv : σ[i]? = some (some v) := r1
        obtain ⟨w, eo, rt⟩ := h2
        rw [h1, eo] at rv
        have ew : w = v := by injection rv with rv; injection rv
        subst ew
        have g1 : EnvRep K Z H σ (ρ.set i .no) C := by
          have := put H Z Kp.refl (fun _ h => h) o .no emp trivial (fun _ z => z.elim)
          rw [set_same h1] at this
          exact this.mono (fun _ h => h) fun a h => h.elim (fun z => z.elim) id
        cases q2 : takeA io as (ρ.set i .no) with
        | none => rw [q2] at e; cases e
        | some p =>
          obtain ⟨args2, ρ2⟩ := p
          rw [q2] at e
          obtain ⟨rfl, rfl⟩ : Sl.ow t :: args2 = args ∧ ρ2 = ρ' := by
            have e' := Option.some.inj e
            exact ⟨congrArg Prod.fst e', congrArg Prod.snd e'⟩
          obtain ⟨Ai, Ar, e1, e2, e3, e4, e5, e6, e7⟩ := takeA_ok g1 r2 q2
          refine ⟨un B0 Ai, Ar, e1, fun a h => h.elim (h3 a) fun z => h4 a (e2 a z), fun a h => h4 a (e3 a h), fun a x y => x.elim (fun z => h5 a z (e3 a y)) fun z => e4 a z y, ?_, by rw [e6]; simp, ?_⟩
          · exact ⟨B0, Ai, ⟨w, rfl, rt⟩, e5.mono (fun x h => h.imp id (fun z => z.imp id (s2 x))) fun _ h => h, fun _ h => .inl h, fun _ h => .inr h, fun a x y => h5 a x (e2 a y)⟩
          · intro H' ss Z2 Bi k hss hd
            cases ss with
            | nil => exact ⟨Ar, e1.kp k, fun _ h => .inr h⟩
            | cons s ss =>
              obtain ⟨D, E, x1, x2, x3, x4, x5⟩ := hss
              obtain ⟨C2, y1, y2⟩ := e7 H' ss Z2 E k x2 fun a z1 z2 => hd a (x4 a z1) z2
              unfold giveB
              have weak : ∃ C, EnvRep K Z H' σ (giveB io as ss ρ2) C ∧ Sub C (un Bi Ar) := ⟨C2, y1, fun a h => (y2 a h).imp (x4 a) id⟩
              cases s with
              | no => exact weak
              | vw u => exact weak
              | ow u =>
                dsimp only
                have hl : i < (giveB io as ss ρ2).length := by
                  rw [← y1.len]
                  exact (List.getElem?_eq_some_iff.mp h1).1
                obtain ⟨o3, B3, C3, z1, z2, z3, z4, z5, put3⟩ := y1.at (List.getElem?_eq_getElem hl)
                obtain ⟨w', ew', ru⟩ := x1
                cases ew'
                have z6 := put3 H' Z Kp.refl (fun _ h => h) (some w) (.ow u) D ⟨w, rfl, ru⟩ fun a m1 m2 => (y2 a (z4 a m2)).elim (fun n => x5 a m1 n) fun n => hd a (x3 a m1) n
                rw [set_same (by rw [h1, eo])] at z6
                exact ⟨un D C3, z6, fun a h => h.elim (fun z => .inl (x3 a z)) fun z => (y2 a (z4 a z)).imp (x4 a) id⟩
  | false :: io, a :: as, _, ρ, A, B, args, ρ', g, .cons r1 r2 s1 s2 d, e => by
    rename_i v vs B1 B2
    unfold takeA at e
    cases q2 : takeA io as ρ with
    | none => rw [q2] at e; cases e
    | some p =>
      obtain ⟨args2, ρ2⟩ := p
      rw [q2] at e
      dsimp only [Option.bind_some] at e
      cases q3 : a.see ρ2 with
      | none => rw [q3] at e; cases e
      | some t =>
        rw [q3] at e
        obtain ⟨rfl, rfl⟩ : argSl t :: args2 = args ∧ ρ2 = ρ' := by
          have e' := Option.some.inj e
          exact ⟨congrArg Prod.fst e', congrArg Prod.snd e'⟩
        obtain ⟨Ai, Ar, e1, e2, e3, e4, e5, e6, e7⟩ := takeA_ok g r2 q2
        refine ⟨Ai, Ar, e1, e2, e3, e4, ⟨emp, Ai, argSl_rep (Vw.mono (fun x h => h.imp id fun z => z.imp id (s1 x)) _ _ (see_vw2 e1 r1 q3)), e5.mono (fun x h => h.imp id (fun z => z.imp id (s2 x))) fun _ h => h, fun _ z => z.elim, fun _ h => h, fun _ z => z.elim⟩, e6, ?_⟩
        intro H' ss Z2 Bi k hss hd
        cases ss with
        | nil =>
          have eg : giveB (false :: io) (a :: as) [] ρ2 = ρ2 := by unfold giveB; rfl
          rw [eg]
          exact ⟨Ar, e1.kp k, fun _ h => .inr h⟩
        | cons s ss =>
          obtain ⟨D, E, x1, x2, x3, x4, x5⟩ := hss
          obtain ⟨C2, y1, y2⟩ := e7 H' ss Z2 E k x2 fun a z1 z2 => hd a (x4 a z1) z2
          have eg : giveB (false :: io) (a :: as) (s :: ss) ρ2 = giveB io as ss ρ2 := by
            conv => lhs; unfold giveB
          rw [eg]
          exact ⟨C2, y1, fun a h => (y2 a h).imp (x4 a) id⟩
  | true :: io, .val t :: as, _, _, _, _, _, _, _, _, e => by cases e
  | [], _ :: _, _, _, _, _, _, _, _, _, e => by cases e
  | true :: _, [], _, _, _, _, _, _, _, _, e => by cases e
  | false :: _, [], _, _, _, _, _, _, _, _, e => by cases e
variable {k : Nat} {x : Str} {p pos : Pos} {e : Expr} {es : List Expr}
theorem s_call {g : Fn} (io : List Bool) {fas : Env → R Env (List AV × Env)} (tk : Takes X W) (c : Cal X k x g) (hr : Room k X.A) (hg : Gl X x) (ha : JSA X W (e :: es) fas) (hdb : (x == ("__debug__" : Str)) = false := by decide)
    (he : starEach (e :: es) X.env = (false, eval e X.env) :: starEach es X.env := by rfl) (hpl : (backTo pos (starEach es X.env)).any (·.1) = false := by rfl) : JS X W (.Call (.Name x p) (e :: es) [] pos) (sCall g io fas) := by
  obtain ⟨f, fd, ps, F, hm, hk, hb⟩ := c.ex
  refine peM (pe_callS F hr hg hm hk hb (fun σ => passAt tk σ) ha hdb he hpl) fun σ H Q ⟨ρ, Z, A, G, q⟩ => ⟨ρ, Z, A, G, ?_⟩
  revert q
  unfold sCall
  cases fas ρ with
  | exc e x => exact fun q => q
  | bad => exact fun q => q.elim
  | ok ts =>
    obtain ⟨as, ρ1⟩ := ts
    intro q vs H1 A1 B1 G1 r d al st
    simp only [R.bind_ok] at q
    cases ht : takeA io as ρ1 with
    | none => rw [ht] at q; exact q.elim
    | some pr =>
      obtain ⟨args, ρ2⟩ := pr
      rw [ht] at q
      dsimp only at q
      obtain ⟨Ai, Ar, e1, e2, e3, e4, e5, e6, e7⟩ := takeA_ok G1.env r ht
      have G2 : Good X.K (fun x => Z x ∨ Ar x ∨ B1 x) H1 (vs.map some) args Ai := ⟨e5, fun a x y => x.elim (fun z => G1.dis a z (e2 a y)) fun z => z.elim (fun w => e4 a y w) fun w => d a w (e2 a y), fun a x => x.elim (G1.alZ a) fun z => z.elim (fun w => G1.alA a (e3 a w)) (al a), fun a x => G1.alA a (e2 a x)⟩
      refine ⟨args, _, Ai, G2, ?_⟩
      revert q
      have dz : Disj Z A1 := G1.dis
      -- the rest is kept
      have rest : ∀ {H' : Hp} {A' : Fp}, Step H1 Ai H' A' → Kp Ar Z H1 H' := fun s => s.kp (fun a x y => e4 a y x) fun a x y => dz a x (e2 a y)
      have full : ∀ {H' : Hp} {A' : Fp}, Step H1 Ai H' A' → Step H A H' (un A' Ar) := fun {H' A'} s => by
        have w : Step H1 (un Ai Ar) H' (un A' Ar) := s.wide
        have st1 : Step H A H1 (un Ai Ar) := st.mono fun a h => .inl (h.elim (e2 a) (e3 a))
        exact st1.trans w
      have give : ∀ {H' : Hp} {Z' A' B : Fp} {ss : Env}, Good X.K Z' H' (vs.map some) ss A' → Step H1 Ai H' (un A' B) → ∃ C, Good X.K Z H' σ (giveB io as ss ρ2) C ∧ Sub C (un A' Ar) := fun {H' Z' A' B ss} g s => by
        have dA : Disj A' Ar := fun a m1 m2 => (s.sub a (.inl m1)).elim (fun n => e4 a n m2) fun n => G1.alA a (e3 a m2) n
        obtain ⟨C, c1, c2⟩ := e7 H' ss Z' A' (rest s) g.env dA
        refine ⟨C, ⟨c1, fun a m1 m2 => ?_, fun a m => s.dom a (G1.alZ a m), fun a m => (c2 a m).elim (g.alA a) fun n => s.dom a (G1.alA a (e3 a n))⟩, c2⟩
        rcases c2 a m2 with n | n
        · exact (s.sub a (.inl n)).elim (fun y => dz a m1 (e2 a y)) fun y => G1.alZ a m1 y
        · exact dz a m1 (e3 a n)
      cases hg : g args with
      | bad => exact fun q => q.elim
      | exc e ss =>
        intro q cls dd H' Z' A' g' s' x
        obtain ⟨C, c1, c2⟩ := give (B := emp) g' (s'.mono fun a h => h.elim id fun z => z.elim)
        exact q cls dd H' C c1 ((full s').mono c2) x
      | ok tt =>
        obtain ⟨t, ss⟩ := tt
        intro q v H' Z' A' B g' rb db alb s'
        obtain ⟨C, c1, c2⟩ := give g' s'
        refine q v H' C B c1 rb (fun a m1 m2 => ?_) alb ((full s').mono fun a h => h.elim (fun z => (c2 a z).imp .inl id) fun z => .inl (.inr z))
        rcases c2 a m2 with n | n
        · exact db a m1 n
        · exact (s'.sub a (.inr m1)).elim (fun y => e4 a y n) fun y => G1.alA a (e3 a n) y
end
end TR
namespace TR
open PySem PySem.Spec PyProof.Rows L2
section
variable {X : Cx}
def rIxD : R2 := fun x y H Q => ∃ a v, x = .ref a ∧ DGet H a y (some v) ∧ Q v H
theorem ix_dict (hu : X.A.units + 1 < cLine) : IxR X rIxD := by
  intro value slice pins s σ H x y v u Q I rx ry h hs
  obtain ⟨a, w, rfl, g, q⟩ := h
  obtain rfl : v = Value.ref a := rx
  have hT := dict_typeIs I g
  unfold subscriptTail
  refine wpAny_bind ?_
  rw [getitemInPython_of_ne hT.not_modules]
  refine wpAny_bind (wpAny_specialOf hT PySem.F.slot_dict_getitem.lookup ?_)
  have fin : wpAny (model X.prog X.w) X.A (subscripted slice false (.ref a) u) (fun r s₃ => wpAny (model X.prog X.w) X.A (letTemporaryGo value (.ref a) r >>= fun _ => pure r) (EP X pins σ Q) X.xe s₃) X.xe s := by
    rw [hs]
    exact wpAny_operating (d_getItem hu I g ry fun w' s3 I3 rw' => wpAny_bind (wpAny_letTemporaryGo (wpAny_pure ⟨w, H, I3, rw', q⟩)))
  first
    | exact wpAny_pure (wpAny_bind fin)
    | exact wpAny_bind (wpAny_pure (wpAny_bind fin))
    | exact wpAny_bind fin
def rIxAll (K : PySem.W.Frag) : R2 := fun x y H Q => rIx K x y H Q ∨ rIxD x y H Q
theorem ix_all (hu : X.A.units + 1 < cLine) : IxR X (rIxAll X.K) := ix_seq.or (ix_dict hu)
def rSetD : V → V → V → Hp → (Hp → Prop) → Prop := fun o i v H Q => ∃ a H', o = .ref a ∧ DPut H a i v H' ∧ Q H'
theorem set_dict (hu : X.A.units + 1 < cLine) : PSet X rSetD := by
  intro pins s σ H o i v ov iv u Q I ro ri rv h
  obtain ⟨a, H', rfl, g, q⟩ := h
  obtain rfl : ov = Value.ref a := ro
  exact d_setItem hu I g ri rv fun s4 I4 => ⟨H', I4, q⟩
theorem PSet.or {t t' : TSet} (h : PSet X t) (h' : PSet X t') : PSet X (fun o i v H Q => t o i v H Q ∨ t' o i v H Q) := by
  intro pins s σ H o i v ov iv u Q I ro ri rv q
  rcases q with q | q
  · exact h pins s σ H o i v ov iv u Q I ro ri rv q
  · exact h' pins s σ H o i v ov iv u Q I ro ri rv q
def rSetAll : V → V → V → Hp → (Hp → Prop) → Prop := fun o i v H Q => rSetL o i v H Q ∨ rSetD o i v H Q
theorem set_all (hu : X.A.units + 1 < cLine) : PSet X rSetAll := PSet.or set_list (set_dict hu)
def rGetD : V → V → Hp → VK → Prop := rIxD
theorem get_dict (hu : X.A.units + 1 < cLine) : PGet X rIxD := by
  intro pins s σ H o i ov iv Q I ro ri h
  obtain ⟨a, v, rfl, g, q⟩ := h
  obtain rfl : ov = Value.ref a := ro
  exact d_getItem hu I g ri fun w' s' I' r => ⟨v, H, I', r, q⟩
theorem get_list : PGet X (rIxL X.K) := by
  intro pins s σ H o i ov iv Q I ro ri h
  obtain ⟨p, xs, k, z, rfl, rfl, hq, he, q⟩ := h
  cases ro
  obtain ⟨t, rfl⟩ := ri
  obtain ⟨its, r, pl, hz⟩ := I.list hq
  obtain ⟨j, h1, h2, h3, h4, h5⟩ := atI_get he
  obtain ⟨w, ew, rw'⟩ := r.get h2
  have hl := r.length
  have hn := line63
  have fin : EP X pins σ Q w s := ⟨z, H, I, rw', q⟩
  by_cases h0 : 0 ≤ k
  · have hj : k.toNat = j := by
      rw [seqIndex_of h0 h5] at h1
      exact Option.some.inj h1
    exact wpAny_getItem_list pl.isList h0 (by omega) (by rw [hj]; simpa using ew) fin
  · have hj : (k + (its.toArray.size : Int)).toNat = j := by
      rw [seqIndex_neg (by omega) h4] at h1
      rw [List.size_toArray, ← hl]
      exact Option.some.inj h1
    exact wpAny_getItem_list_neg pl.isList (by omega) (by rw [List.size_toArray] <;> omega) (by omega) (by rw [hj]; simpa using ew) fin
theorem PGet.or {t t' : V → V → Hp → VK → Prop} (h : PGet X t) (h' : PGet X t') : PGet X (fun o i H Q => t o i H Q ∨ t' o i H Q) := by
  intro pins s σ H o i ov iv Q I ro ri q
  rcases q with q | q
  · exact h pins s σ H o i ov iv Q I ro ri q
  · exact h' pins s σ H o i ov iv Q I ro ri q
def rGetAll (K : PySem.W.Frag) : V → V → Hp → VK → Prop := fun o i H Q => rIxL K o i H Q ∨ rIxD o i H Q
theorem get_all (hu : X.A.units + 1 < cLine) : PGet X (rGetAll X.K) := PGet.or get_list (get_dict hu)
end
end TR
namespace TR
open PySem PySem.Spec PyProof.Rows L2
def idxP : List P → P → Option Nat
  | [], _ => none
  | k :: ks, q => if k = q then some 0 else (idxP ks q).map (· + 1)
theorem idxP_some : ∀ {ks : List P} {q : P} {j : Nat}, idxP ks q = some j → ks[j]? = some q
  | [], _, _, h => by cases h
  | k :: ks, q, j, h => by
    unfold idxP at h
    by_cases e : k = q
    · rw [if_pos e] at h; cases h; simp [e]
    · rw [if_neg e] at h
      cases hi : idxP ks q with
      | none => rw [hi] at h; cases h
      | some m => rw [hi] at h; cases h; simpa using idxP_some hi
theorem idxP_lt {ks : List P} {q : P} {j : Nat} (h : idxP ks q = some j) : j < ks.length := (List.getElem?_eq_some_iff.mp (idxP_some h)).1
theorem idxP_none : ∀ {ks : List P} {q : P}, idxP ks q = none ↔ q ∉ ks
  | [], _ => by simp [idxP]
  | k :: ks, q => by
    unfold idxP
    by_cases e : k = q
    · rw [if_pos e]; simp [e]
    · rw [if_neg e, Option.map_eq_none_iff, idxP_none]
      simp [Ne.symm e]
theorem idxP_mem {ks : List P} {q : P} : (idxP ks q).isSome = true ↔ q ∈ ks := by
  cases h : idxP ks q with
  | none => simp [idxP_none.mp h]
  | some j => simp; exact List.mem_of_getElem? (idxP_some h)
def lookT (ks : List P) (ts : List T) (q : P) : Option T := (idxP ks q).bind fun j => ts[j]?
theorem keyP_inj {a b : Key} (h : keyP a = keyP b) : a = b := by
  cases a <;> cases b <;> simp [keyP] at h <;> rw [h]
theorem keyPs_inj : ∀ {a b : List Key}, a.map keyP = b.map keyP → a = b
  | [], [], _ => rfl
  | x :: a, y :: b, h => by
    have h1 := (List.cons.inj h).1
    have h2 := (List.cons.inj h).2
    rw [keyP_inj h1, keyPs_inj h2]
  | [], _ :: _, h => by cases h
  | _ :: _, [], h => by cases h
def keyOf : P → Option Key
  | .int i => some (.inl i)
  | .str x => some (.inr x)
  | _ => none
def keysOf : List P → Option (List Key)
  | [] => some []
  | p :: ps => (keyOf p).bind fun k => (keysOf ps).map fun ks => k :: ks
theorem keyOf_eq {p : P} {k : Key} (h : keyOf p = some k) : p = keyP k := by
  cases p <;> simp [keyOf] at h <;> subst h <;> rfl
theorem keysOf_eq : ∀ {ps : List P} {ks : List Key}, keysOf ps = some ks → ps = ks.map keyP
  | [], ks, h => by simp [keysOf] at h; subst h; rfl
  | p :: ps, ks, h => by
    unfold keysOf at h
    cases h1 : keyOf p with
    | none => rw [h1] at h; cases h
    | some k =>
      cases h2 : keysOf ps with
      | none => rw [h1, h2] at h; cases h
      | some ks' =>
        rw [h1, h2] at h
        cases h
        rw [keyOf_eq h1, keysOf_eq h2]; rfl
theorem keyOf_keyP (k : Key) : keyOf (keyP k) = some k := by cases k <;> rfl
def isKey (tk : Bool) (p : P) : Bool := match tk with
  | false => (keyOf p).isSome
  | true => match p with
    | .tup ps => (keysOf ps).isSome
    | _ => false
section
variable {H : Hp}
theorem repP_key {k : Key} {y : V} (h : RepP H (keyP k) y) : y = kV k := by
  cases k <;> exact h
theorem repPs_key : ∀ {ks : List Key} {ys : List V}, RepPs H (ks.map keyP) ys → ys = ks.map kV
  | [], _, h => h
  | k :: ks, _, ⟨x, r, e, h1, h2⟩ => by subst e; rw [repP_key h1, repPs_key h2]; rfl
theorem repP_keys {ks : List Key} {y : V} (h : RepP H (.tup (ks.map keyP)) y) : ∃ b, y = .ref b ∧ H b = some (.tup (ks.map kV)) := by
  obtain ⟨a, xs, e, q, r⟩ := h
  rw [repPs_key r] at q
  exact ⟨a, e, q⟩
theorem idx_valK {κ : Type} [DecidableEq κ] {f : κ → P} (hf : ∀ a b, f a = f b → a = b) (k : κ) : ∀ kv : List (κ × V), valV kv k = (idxP (kv.map fun e => f e.1) (f k)).bind fun j => (kv.map (·.2))[j]?
  | [] => rfl
  | e :: kv => by
    show valV (e :: kv) k = _
    rw [List.map_cons, List.map_cons]
    unfold idxP
    by_cases he : e.1 = k
    · rw [valV_pos he, if_pos (by rw [he])]; rfl
    · rw [valV_neg he, if_neg (fun z => he (hf _ _ z)), idx_valK hf k kv]
      cases idxP (kv.map fun e => f e.1) (f k) with
      | none => rfl
      | some j => simp
theorem putK_at {κ : Type} [DecidableEq κ] {f : κ → P} (hf : ∀ a b, f a = f b → a = b) (k : κ) (v : V) {kv : List (κ × V)} (nd : (kv.map fun e => f e.1).Nodup) {j : Nat} (h : idxP (kv.map fun e => f e.1) (f k) = some j) :
    (putK kv k v).map (fun e => f e.1) = kv.map (fun e => f e.1) ∧ (putK kv k v).map (·.2) = (kv.map (·.2)).set j v := by
  have hany : (kv.any fun e => decide (e.1 = k)) = true := by
    have := idxP_some h
    rw [List.getElem?_map] at this
    cases hk : kv[j]? with
    | none => rw [hk] at this; cases this
    | some e =>
      rw [hk] at this
      have e1 : f e.1 = f k := by simpa using this
      exact List.any_eq_true.mpr ⟨e, List.mem_of_getElem? hk, by simp [hf _ _ e1]⟩
  have hp : putK kv k v = kv.map fun e => if e.1 = k then (e.1, v) else e := by
    unfold putK
    rw [if_pos hany]
  rw [hp]
  constructor
  · rw [List.map_map]
    apply List.map_congr_left
    intro e he
    show f (if e.1 = k then (e.1, v) else e).1 = f e.1
    split <;> rfl
  · apply List.ext_getElem?
    intro i
    rw [List.getElem?_map, List.getElem?_map, List.getElem?_set]
    have hj : (kv.map fun e => f e.1)[j]? = some (f k) := idxP_some h
    have hjl : j < kv.length := by simpa using idxP_lt h
    by_cases e : j = i
    · subst e
      rw [if_pos rfl]
      rw [List.getElem?_map] at hj
      cases hk : kv[j]? with
      | none => rw [hk] at hj; cases hj
      | some e =>
        rw [hk] at hj
        have e1 : e.1 = k := hf _ _ (by simpa using hj)
        simp [e1, hjl]
    · rw [if_neg e, List.getElem?_map]
      cases hk : kv[i]? with
      | none => simp
      | some e2 =>
        have ne : e2.1 ≠ k := fun z => by
          have hi : (kv.map fun e => f e.1)[i]? = some (f k) := by rw [List.getElem?_map, hk, ← z]; rfl
          have hil : i < (kv.map fun e => f e.1).length := (List.getElem?_eq_some_iff.mp hi).1
          exact e ((List.getElem?_inj (by simpa using hjl) nd).mp (hj.trans hi.symm))
        simp [ne]
theorem putK_new' {κ : Type} [DecidableEq κ] {f : κ → P} (hf : ∀ a b, f a = f b → a = b) (k : κ) (v : V) {kv : List (κ × V)} (h : idxP (kv.map fun e => f e.1) (f k) = none) : putK kv k v = kv ++ [(k, v)] := by
  apply putK_new
  rw [idx_valK hf k kv, h]; rfl
theorem dget_ok {tk : Bool} {rd : Addr → HO → Prop} {a : Addr} {ks : List P} {xs : List V} {p : P} {y : V} (hrd : ∀ o, rd a o → Rd H a o) (d : DctAt tk rd a ks xs) (hk : isKey tk p = true) (r : RepP H p y) : DGet H a y ((idxP ks p).bind fun j => xs[j]?) := by
  obtain ⟨nd, d⟩ := d
  cases tk with
  | false =>
    obtain ⟨kv, h1, h2, h3⟩ := d
    have hk' : (keyOf p).isSome = true := hk
    cases hp : keyOf p with
    | none => rw [hp] at hk'; cases hk'
    | some k =>
      have ep := keyOf_eq hp
      subst ep
      rw [repP_key r, h2, h3, ← idx_valK (f := keyP) (fun _ _ => keyP_inj) k kv]
      exact .inl ⟨kv, k, hrd _ h1, rfl, rfl⟩
  | true =>
    obtain ⟨kv, h1, h2, h3⟩ := d
    cases p with
    | tup ps =>
      have hk' : (keysOf ps).isSome = true := hk
      cases hp : keysOf ps with
      | none => rw [hp] at hk'; cases hk'
      | some k =>
        have ep := keysOf_eq hp
        subst ep
        obtain ⟨b, e1, e2⟩ := repP_keys r
        rw [h2, h3, ← idx_valK (f := fun k => P.tup (k.map keyP)) (fun a b z => keyPs_inj (by injection z)) k kv]
        exact .inr ⟨kv, k, b, hrd _ h1, e1, e2, rfl⟩
    | _ => cases hk
theorem dput_ok {tk : Bool} {a : Addr} {ks : List P} {xs : List V} {p : P} {y v : V} (d : DctAt tk (IsA H) a ks xs) (hk : isKey tk p = true) (r : RepP H p y) (hl : ks.length < sizeLine) :
    ∃ o, DPut H a y v (upd H a o) ∧ (∃ o', H a = some o' ∧ Mut (some o')) ∧ ∀ H' : Hp, H' a = some o → match idxP ks p with
      | some j => DctAt tk (IsA H') a ks (xs.set j v)
      | none => DctAt tk (IsA H') a (ks ++ [p]) (xs ++ [v]) := by
  obtain ⟨nd, d⟩ := d
  cases tk with
  | false =>
    obtain ⟨kv, h1, h2, h3⟩ := d
    have hk' : (keyOf p).isSome = true := hk
    cases hp : keyOf p with
    | none => rw [hp] at hk'; cases hk'
    | some k =>
      have ep := keyOf_eq hp
      subst ep
      rw [repP_key r]
      refine ⟨.dK (putK kv k v), DPut.k h1 (by rw [h2] at hl; simpa using hl), ⟨_, h1, trivial⟩, fun H' e => ?_⟩
      rw [h2] at nd
      cases hi : idxP ks (keyP k) with
      | some j =>
        rw [h2] at hi
        obtain ⟨q1, q2⟩ := putK_at (f := keyP) (fun _ _ => keyP_inj) k v nd hi
        exact ⟨h2 ▸ nd, putK kv k v, e, by rw [q1, h2], by rw [q2, h3]⟩
      | none =>
        have hi2 := hi
        rw [h2] at hi
        have q := putK_new' (f := keyP) (fun _ _ => keyP_inj) k v hi
        refine ⟨List.nodup_append.mpr ⟨h2 ▸ nd, by simp, fun a ha b hb => by
          simp at hb; subst hb
          exact fun z => idxP_none.mp hi2 (z ▸ ha)⟩, putK kv k v, e, by rw [q, h2]; simp, by rw [q, h3]; simp⟩
  | true =>
    obtain ⟨kv, h1, h2, h3⟩ := d
    cases p with
    | tup ps =>
      have hk' : (keysOf ps).isSome = true := hk
      cases hp : keysOf ps with
      | none => rw [hp] at hk'; cases hk'
      | some k =>
        have ep := keysOf_eq hp
        subst ep
        obtain ⟨b, e1, e2⟩ := repP_keys r
        subst e1
        have hf : ∀ a b : List Key, P.tup (a.map keyP) = P.tup (b.map keyP) → a = b := fun a b z => keyPs_inj (by injection z)
        refine ⟨.dT (putK kv k v), DPut.t h1 e2 (by rw [h2] at hl; simpa using hl), ⟨_, h1, trivial⟩, fun H' e => ?_⟩
        rw [h2] at nd
        cases hi : idxP ks (.tup (k.map keyP)) with
        | some j =>
          rw [h2] at hi
          obtain ⟨q1, q2⟩ := putK_at (f := fun k : List Key => P.tup (k.map keyP)) hf k v nd hi
          exact ⟨h2 ▸ nd, putK kv k v, e, by rw [q1, h2], by rw [q2, h3]⟩
        | none =>
          have hi2 := hi
          rw [h2] at hi
          have q := putK_new' (f := fun k : List Key => P.tup (k.map keyP)) hf k v hi
          refine ⟨List.nodup_append.mpr ⟨h2 ▸ nd, by simp, fun a ha b hb => by
            simp at hb; subst hb
            exact fun z => idxP_none.mp hi2 (z ▸ ha)⟩, putK kv k v, e, by rw [q, h2]; simp, by rw [q, h3]; simp⟩
    | _ => cases hk
end
end TR
namespace TR
open PySem PySem.Spec PyProof.Rows L2
def kidT : T → P → Option T
  | .lst ts, .int i => atI ts i
  | .dct tk ks ts, k => if isKey tk k = true ∧ ks.length < 16777216 then lookT ks ts k else none
  | _, _ => none
def setKid : T → P → T → Option T
  | .lst ts, .int i, t => (ixN ts.length i).map fun j => .lst (ts.set j t)
  | .dct tk ks ts, k, t => if isKey tk k = true ∧ ks.length < 16777216 then (match idxP ks k with
      | some j => some (.dct tk ks (ts.set j t))
      | none => some (.dct tk (ks ++ [k]) (ts ++ [t]))) else none
  | _, _, _ => none
def lookPath : List P → T → Option T
  | [], t => some t
  | k :: ks, t => (kidT t k).bind (lookPath ks)
def updPath : List P → (T → Option T) → T → Option T
  | [], f, t => f t
  | k :: ks, f, t => (kidT t k).bind fun c => (updPath ks f c).bind fun c' => setKid t k c'
def KidV (H : Hp) (v y w : V) : Prop := (∃ p xs i, v = .ref p ∧ y = .int i ∧ H p = some (.lst xs) ∧ atI xs i = some w) ∨ ∃ a, v = .ref a ∧ DGet H a y (some w)
def WalkV (H : Hp) : V → List V → V → Prop
  | v, [], w => w = v
  | v, y :: ys, w => ∃ x, KidV H v y x ∧ WalkV H x ys w
section
variable {K : PySem.W.Frag} {H H' : Hp}
theorem KidV.ext (e : Ext H H') {v y w : V} (h : KidV H v y w) : KidV H' v y w := by
  rcases h with ⟨p, xs, i, h1, h2, h3, h4⟩ | ⟨a, h1, h2⟩
  · exact .inl ⟨p, xs, i, h1, h2, e _ _ h3, h4⟩
  · refine .inr ⟨a, h1, ?_⟩
    have rd : ∀ {o : HO}, Rd H a o → Rd H' a o := fun r => r.imp (e _ _) fun ⟨ob, z⟩ => ⟨ob, e _ _ z⟩
    rcases h2 with ⟨kvs, k, a1, a2, a3⟩ | ⟨kvs, k, b, a1, a2, a3, a4⟩
    · exact .inl ⟨kvs, k, rd a1, a2, a3⟩
    · exact .inr ⟨kvs, k, b, rd a1, a2, e _ _ a3, a4⟩
theorem WalkV.ext (e : Ext H H') : ∀ {ys : List V} {v w : V}, WalkV H v ys w → WalkV H' v ys w
  | [], _, _, h => h
  | y :: ys, _, _, ⟨x, h1, h2⟩ => ⟨x, h1.ext e, WalkV.ext e h2⟩
theorem WalkV.snoc : ∀ {ys : List V} {v w y x : V}, WalkV H v ys w → KidV H w y x → WalkV H v (ys ++ [y]) x
  | [], v, w, y, x, h, k => by
    have e : w = v := h
    subst e
    exact ⟨x, k, rfl⟩
  | _ :: ys, _, _, _, _, ⟨z, h1, h2⟩, k => ⟨z, h1, WalkV.snoc h2 k⟩
theorem DGet.det {a : Addr} {y w w' : V} (h : DGet H a y (some w)) (h' : DGet H a y (some w')) : w = w' := by
  have rdinj : ∀ {u u' : HO}, (∀ ob z, u ≠ .frz ob z) → (∀ ob z, u' ≠ .frz ob z) → Rd H a u → Rd H a u' → u = u' := fun n1 n2 r r' => by
    rcases r with r | ⟨o, r⟩ <;> rcases r' with r' | ⟨o', r'⟩
    · rw [r] at r'; exact Option.some.inj r'
    · rw [r] at r'; exact absurd (Option.some.inj r') (n1 _ _)
    · rw [r] at r'; exact absurd (Option.some.inj r').symm (n2 _ _)
    · rw [r] at r'; injection r' with r'; injection r'
  rcases h with ⟨kvs, k, a1, a2, a3⟩ | ⟨kvs, k, b, a1, a2, a3, a4⟩ <;> rcases h' with ⟨kvs', k', b1, b2, b3⟩ | ⟨kvs', k', b', b1, b2, b3, b4⟩
  · have e := rdinj (by intro _ _ z; cases z) (by intro _ _ z; cases z) a1 b1
    cases e
    rw [a2] at b2
    have ek := kV_inj b2
    subst ek
    rw [← a3] at b3
    exact (Option.some.inj b3).symm
  · cases rdinj (by intro _ _ z; cases z) (by intro _ _ z; cases z) a1 b1
  · cases rdinj (by intro _ _ z; cases z) (by intro _ _ z; cases z) a1 b1
  · have e := rdinj (by intro _ _ z; cases z) (by intro _ _ z; cases z) a1 b1
    cases e
    rw [a2] at b2
    have eb : b = b' := by injection b2
    subst eb
    rw [a3] at b3
    have e2 : k.map kV = k'.map kV := by injection b3 with b3; injection b3
    have ek := kVs_inj e2
    subst ek
    rw [← a4] at b4
    exact (Option.some.inj b4).symm
theorem Reps.at : ∀ {ts : List T} {xs : List V} {A : Fp} {j : Nat} {t : T}, Reps H ts xs A → ts[j]? = some t →
    ∃ x B C, xs[j]? = some x ∧ Rep H t x B ∧ Sub B A ∧ Sub C A ∧ Disj B C ∧ ∀ (H' : Hp) (t' : T) (x' : V) (D : Fp), Kp C emp H H' → Rep H' t' x' D → Disj D C → Reps H' (ts.set j t') (xs.set j x') (un D C)
  | t :: ts, _, A, 0, t0, ⟨x, r, B, C, e, h1, h2, s1, s2, d⟩, e0 => by
    have e' : t = t0 := by simpa using e0
    subst e' e
    exact ⟨x, B, C, rfl, h1, s1, s2, d, fun H' t' x' D k rt dd => ⟨x', r, D, C, rfl, rt, Reps.kp k _ _ h2, fun _ h => .inl h, fun _ h => .inr h, dd⟩⟩
  | t :: ts, _, A, j + 1, t0, ⟨x, r, B, C, e, h1, h2, s1, s2, d⟩, e0 => by
    subst e
    obtain ⟨y, B', C', e1, r1, sb, sc, dd, put⟩ := Reps.at (j := j) h2 (by simpa using e0)
    refine ⟨y, B', un B C', by simpa using e1, r1, fun a h => s2 a (sb a h), fun a h => h.elim (s1 a) fun z => s2 a (sc a z), fun a z1 z2 => z2.elim (fun w => d a w (sb a z1)) (dd a z1), fun H' t' x' D k rt d2 => ?_⟩
    exact ⟨x, r.set j x', B, un D C', by simp, Rep.kp (k.mono (fun _ h => .inl h) fun _ h => h) _ _ h1, put H' t' x' D (k.mono (fun _ h => .inr h) fun _ h => h) rt (fun a z1 z2 => d2 a z1 (.inr z2)), fun a h => .inr (.inl h), fun a h => h.elim .inl fun z => .inr (.inr z), fun a z1 z2 => z2.elim (fun w => d2 a w (.inl z1)) fun w => d a z1 (sc a w)⟩
  | [], _, _, _, _, _, e0 => by simp at e0
theorem set_get {α : Type} {l : List α} {i : Nat} {a : α} (h : l[i]? = some a) : l.set i a = l := set_same h
theorem dct_root {tk : Bool} {a : Addr} {ks : List P} {xs : List V} (d : DctAt tk (IsA H) a ks xs) : ∃ o, H a = some o ∧ Mut (some o) ∧ (∀ zs, o ≠ .lst zs) ∧ (∀ ob u, o ≠ .frz ob u) ∧ ∀ zs, o ≠ .tup zs := by
  obtain ⟨nd, d⟩ := d
  cases tk with
  | false =>
    obtain ⟨kv, h, _⟩ := d
    exact ⟨_, h, trivial, (by intro _ z; cases z), (by intro _ _ z; cases z), (by intro _ z; cases z)⟩
  | true =>
    obtain ⟨kv, h, _⟩ := d
    exact ⟨_, h, trivial, (by intro _ z; cases z), (by intro _ _ z; cases z), (by intro _ z; cases z)⟩
theorem kid_ok {t : T} {v : V} {A : Fp} {p : P} {y : V} {t' : T} (r : Rep H t v A) (rp : RepP H p y) (e : kidT t p = some t') : (∃ w, KidV H v y w) ∧ ∀ w, KidV H v y w →
    ∃ B C a, Rep H t' w B ∧ Sub B A ∧ Sub C A ∧ A a ∧ ¬ B a ∧ ¬ C a ∧ Disj B C ∧ (∃ o, H a = some o) ∧ ∀ (H' : Hp) (t'' : T) (D : Fp), H' a = H a → Kp C emp H H' → Rep H' t'' w D → Disj D C → ¬ D a → ∃ t2, setKid t p t'' = some t2 ∧ Rep H' t2 v (fun x => D x ∨ C x ∨ x = a) := by
  cases t with
  | pv q => cases e
  | tup ts => cases e
  | fls ts => cases e
  | lst ts =>
    cases p with
    | int i =>
      have ey : y = .int i := rp
      subst ey
      obtain ⟨a, xs, ev, ha, hA, hr⟩ := r
      subst ev
      have e' : atI ts i = some t' := e
      unfold atI at e'
      cases hj : ixN ts.length i with
      | none => rw [hj] at e'; cases e'
      | some j =>
        rw [hj] at e'
        have e2 : ts[j]? = some t' := e'
        obtain ⟨x, B, C, e1, r1, sb, sc, d, put⟩ := Reps.at hr e2
        have hl : ts.length = xs.length := (vws_len hr)
        have ex : atI xs i = some x := by
          unfold atI
          rw [← hl, hj]; exact e1
        refine ⟨⟨x, .inl ⟨a, xs, i, rfl, rfl, ha, ex⟩⟩, fun w kw => ?_⟩
        have ew : w = x := by
          rcases kw with ⟨p, zs, i', h1, h2, h3, h4⟩ | ⟨a', h1, h2⟩
          · cases h1; cases h2
            rw [ha] at h3; cases h3
            rw [ex] at h4; exact (Option.some.inj h4).symm
          · cases h1
            exfalso
            rcases h2 with ⟨kvs, k, a1, _⟩ | ⟨kvs, k, b, a1, _⟩ <;> rcases a1 with a1 | ⟨o, a1⟩ <;> · rw [ha] at a1; cases a1
        subst ew
        refine ⟨B, C, a, r1, fun b h => (sb b h).1, fun b h => (sc b h).1, hA, fun h => (sb a h).2 rfl, fun h => (sc a h).2 rfl, d, ⟨_, ha⟩, fun H' t'' D hroot k rt dd nD => ?_⟩
        refine ⟨.lst (ts.set j t''), by show (ixN ts.length i).map _ = _; rw [hj]; rfl, a, xs, rfl, by rw [hroot]; exact ha, .inr (.inr rfl), ?_⟩
        have q := put H' t'' w D k rt dd
        rw [set_get e1] at q
        exact Reps.mono (fun b h => h.elim (fun z => ⟨.inl z, fun e => nD (e ▸ z)⟩) fun z => ⟨.inr (.inl z), (sc b z).2⟩) _ _ q
    | _ => cases e
  | dct tk ks ts =>
    obtain ⟨a, xs, ev, hd, hA, hr⟩ := r
    subst ev
    have e' : (if isKey tk p = true ∧ ks.length < 16777216 then lookT ks ts p else none) = some t' := by
      cases p <;> exact e
    by_cases hk2 : isKey tk p = true ∧ ks.length < 16777216
    · have hk := hk2.1
      rw [if_pos hk2] at e'
      unfold lookT at e'
      cases hj : idxP ks p with
      | none => rw [hj] at e'; cases e'
      | some j =>
        rw [hj] at e'
        have e2 : ts[j]? = some t' := e'
        obtain ⟨x, B, C, e1, r1, sb, sc, d, put⟩ := Reps.at hr e2
        have g := dget_ok (H := H) (fun o h => Rd.of h) hd hk rp
        rw [hj] at g
        have g' : DGet H a y (some x) := by rw [← e1]; exact g
        refine ⟨⟨x, .inr ⟨a, rfl, g'⟩⟩, fun w kw => ?_⟩
        obtain ⟨o, ho, mo, n1, n2, n3⟩ := dct_root hd
        have ew : w = x := by
          rcases kw with ⟨p, zs, i', h1, h2, h3, h4⟩ | ⟨a', h1, h2⟩
          · cases h1
            rw [ho] at h3
            exact absurd (Option.some.inj h3) (n1 _)
          · cases h1
            exact DGet.det h2 g'
        subst ew
        refine ⟨B, C, a, r1, fun b h => (sb b h).1, fun b h => (sc b h).1, hA, fun h => (sb a h).2 rfl, fun h => (sc a h).2 rfl, d, ⟨o, ho⟩, fun H' t'' D hroot k rt dd nD => ?_⟩
        refine ⟨.dct tk ks (ts.set j t''), ?_, a, xs, rfl, hd.imp fun u h => ?_, .inr (.inr rfl), ?_⟩
        · have es : setKid (.dct tk ks ts) p t'' = (if isKey tk p = true ∧ ks.length < 16777216 then (match idxP ks p with
              | some j => some (.dct tk ks (ts.set j t''))
              | none => some (.dct tk (ks ++ [p]) (ts ++ [t'']))) else none) := by cases p <;> rfl
          rw [es, if_pos hk2, hj]
        · show H' a = some u
          rw [hroot]; exact h
        · have q := put H' t'' w D k rt dd
          rw [set_get e1] at q
          exact Reps.mono (fun b h => h.elim (fun z => ⟨.inl z, fun e => nD (e ▸ z)⟩) fun z => ⟨.inr (.inl z), (sc b z).2⟩) _ _ q
    · rw [if_neg hk2] at e'; cases e'
where
  vws_len {H : Hp} : ∀ {ts : List T} {xs : List V} {A : Fp}, Reps H ts xs A → ts.length = xs.length
  | [], xs, _, h => by have e : xs = [] := h; subst e; rfl
  | t :: ts, _, _, ⟨x, r, B, C, e, h1, h2, s1, s2, d⟩ => by subst e; simp [vws_len h2]
theorem place_ok : ∀ {ks : List P} {ys : List V} {t : T} {v : V} {A : Fp} {t' : T}, Rep H t v A → RepPs H ks ys → lookPath ks t = some t' → (∃ w, WalkV H v ys w) ∧ ∀ w, WalkV H v ys w →
    ∃ B C, Rep H t' w B ∧ Sub B A ∧ Sub C A ∧ Disj B C ∧ ∀ (H' : Hp) (f : T → Option T) (t'' : T) (D : Fp), Kp C emp H H' → f t' = some t'' → Rep H' t'' w D → Disj D C → ∃ t2, updPath ks f t = some t2 ∧ Rep H' t2 v (un D C)
  | [], _, t, v, A, t', r, rp, e => by
    have ey : _ = [] := rp
    subst ey
    have et : t = t' := by simpa [lookPath] using e
    subst et
    refine ⟨⟨v, rfl⟩, fun w h => ?_⟩
    have ew : w = v := h
    subst ew
    exact ⟨A, emp, r, fun _ h => h, fun _ z => z.elim, fun _ _ z => z.elim, fun H' f t'' D k hf rt d => ⟨t'', by unfold updPath; exact hf, Rep.mono (fun _ h => .inl h) _ _ rt⟩⟩
  | k :: ks, _, t, v, A, t', r, ⟨y, ys, ey, rp1, rp2⟩, e => by
    subst ey
    unfold lookPath at e
    cases hc : kidT t k with
    | none => rw [hc] at e; cases e
    | some c =>
      rw [hc] at e
      obtain ⟨⟨x0, hx0⟩, kid⟩ := kid_ok r rp1 hc
      refine ⟨?_, fun w ⟨x, hx, hw⟩ => ?_⟩
      · obtain ⟨B, C, a, r1, _⟩ := kid x0 hx0
        obtain ⟨⟨w, hw⟩, _⟩ := place_ok r1 rp2 e
        exact ⟨w, x0, hx0, hw⟩
      · obtain ⟨B1, C1, a, r1, sb1, sc1, hA, nB, nC, d1, ⟨o, ho⟩, put1⟩ := kid x hx
        obtain ⟨_, pl⟩ := place_ok r1 rp2 e
        obtain ⟨B, C2, r2, sb2, sc2, d2, put2⟩ := pl w hw
        refine ⟨B, fun z => C2 z ∨ C1 z ∨ z = a, r2, fun z h => sb1 z (sb2 z h), fun z h => h.elim (fun q => sb1 z (sc2 z q)) fun q => q.elim (sc1 z) fun q => q ▸ hA, fun z h1 h2 => h2.elim (d2 z h1) fun q => q.elim (d1 z (sb2 z h1)) fun q => nB (q ▸ sb2 z h1), fun H' f t'' D k' hf rt dd => ?_⟩
        obtain ⟨c2, e2, r3⟩ := put2 H' f t'' D (k'.mono (fun z h => .inl h) fun _ h => h) hf rt fun z h1 h2 => dd z h1 (.inl h2)
        have nDC : ¬ (un D C2) a := fun h => h.elim (fun z => dd a z (.inr (.inr rfl))) fun z => nB (sc2 a z)
        obtain ⟨t2, e3, r4⟩ := put1 H' c2 (un D C2) (by rw [ho]; exact k'.own a o (.inr (.inr rfl)) ho) (k'.mono (fun z h => .inr (.inl h)) fun _ h => h) r3 (fun z h1 h2 => h1.elim (fun q => dd z q (.inr (.inl h2))) fun q => d1 z (sc2 z q) h2) nDC
        exact ⟨t2, by unfold updPath; rw [hc]; simp only [Option.bind_some, e2]; exact e3, Rep.mono (fun z h => h.elim (fun q => q.elim .inl fun q => .inr (.inl q)) fun q => .inr (.inr q)) _ _ r4⟩
end
def FP (K : PySem.W.Frag) (mg : Str → Option Value) (W : WX) (i : Nat) (f : Env → R Unit (List P)) : TE := fun σ H Q => ∃ ρ Z A, Good K Z H σ ρ A ∧ match f ρ with
  | .ok ks => ∃ t t', ρ[i]? = some (.ow t) ∧ lookPath ks t = some t' ∧ ∀ w H' v0 ys, Ext H H' → σ[i]? = some (some v0) → RepPs H' ks ys → WalkV H' v0 ys w → Q w H'
  | .exc e _ => ∀ cls d H', Ext H H' → ExcRep mg H' e cls d → W cls d σ H'
  | .bad => False
def JP (X : Cx) (W : WX) (e : Expr) (i : Nat) (f : Env → R Unit (List P)) : Prop := PE X e (FP X.K X.mg W i f)
def pNil : Env → R Unit (List P) := fun _ => .ok []
def pSnoc (f : Env → R Unit (List P)) (g : Env → R Unit T) : Env → R Unit (List P) := fun ρ => (f ρ).bind fun ks => match g ρ with
  | .ok (.pv p) => .ok (ks ++ [p])
  | _ => .bad
section
variable {X : Cx} {W : WX} {K : PySem.W.Frag} {mg : Str → Option Value}
theorem p_name (i : Nat) {x : Str} {pos : Pos} (hN : X.N[i]? = some x := by rfl) (hv : Vis X.env.scope x := by first | exact Or.inl rfl | exact Or.inr (Or.inl rfl) | exact Or.inr (Or.inr rfl)) (hd : (x == ("__debug__" : Str)) = false := by decide)
    (hcd : (x == ("__classdict__" : Str)) = false := by decide) : JP X W (.Name x pos) i pNil := by
  refine peM (pe_var (i := i) hN hv hd hcd) fun σ H Q ⟨ρ, Z, A, G, q⟩ => ?_
  obtain ⟨t, t', h1, h2, q⟩ := q
  obtain ⟨o, B, e1, ⟨v, e2, r⟩, _⟩ := slot_of G.env h1
  exact ⟨v, by rw [e1, e2], q v H v [] (Ext.refl H) (by rw [e1, e2]) rfl rfl⟩
theorem lookPath_snoc : ∀ {ks : List P} {p : P} {t t' : T}, lookPath (ks ++ [p]) t = some t' → ∃ c, lookPath ks t = some c ∧ kidT c p = some t'
  | [], p, t, t', h => by
    have h' : (kidT t p).bind (lookPath []) = some t' := h
    cases hc : kidT t p with
    | none => rw [hc] at h'; cases h'
    | some c =>
      rw [hc] at h'
      have : c = t' := by simpa [lookPath] using h'
      subst this
      exact ⟨t, rfl, hc⟩
  | k :: ks, p, t, t', h => by
    have h' : (kidT t k).bind (lookPath (ks ++ [p])) = some t' := h
    cases hc : kidT t k with
    | none => rw [hc] at h'; cases h'
    | some c =>
      rw [hc] at h'
      obtain ⟨c', e1, e2⟩ := lookPath_snoc (ks := ks) h'
      exact ⟨c', by unfold lookPath; rw [hc]; exact e1, e2⟩
theorem repPs_snoc {H : Hp} : ∀ {ks : List P} {ys : List V} {p : P} {y : V}, RepPs H ks ys → RepP H p y → RepPs H (ks ++ [p]) (ys ++ [y])
  | [], ys, p, y, h, r => by
    have e : ys = [] := h
    subst e
    exact ⟨y, [], rfl, r, rfl⟩
  | k :: ks, _, p, y, ⟨x, r', e, h1, h2⟩, r => by
    subst e
    exact ⟨x, r' ++ [y], rfl, h1, repPs_snoc h2 r⟩
theorem p_ix {a b : Expr} {pos : Pos} {i : Nat} {f : Env → R Unit (List P)} {g : Env → R Unit T} (hu : X.A.units + 1 < cLine) (ha : JP X W a i f) (hb : JQ X W .e b g) (hs : PlainIx b := by intro _ _; rfl) : JP X W (.Subscript a b pos) i (pSnoc f g) := by
  refine peM (pe_ix (ix_all hu) ha hb hs) fun σ H Q ⟨ρ, Z, A, G, q⟩ => ⟨ρ, Z, A, G, ?_⟩
  revert q
  unfold pSnoc
  cases f ρ with
  | exc e x => exact id
  | bad => exact fun q => q.elim
  | ok ks =>
    rw [R.bind_ok]
    cases hg : g ρ with
    | bad => exact fun q => q.elim
    | exc e x => exact fun q => q.elim
    | ok t1 =>
      cases t1 with
      | pv p =>
        rintro ⟨t, t', h1, h2, q⟩
        obtain ⟨c, l1, l2⟩ := lookPath_snoc h2
        refine ⟨t, c, h1, l1, fun x H1 v0 ys e1 hv rp wk => ⟨ρ, Z, A, G.ext e1, ?_⟩⟩
        rw [hg]
        intro y H2 e2 ry
        have ry' : RepP H2 p y := ry
        have G2 := G.ext (e1.trans e2)
        obtain ⟨o, B, e3, ⟨v, e4, r⟩, _⟩ := slot_of G2.env h1
        have ev : v = v0 := by rw [e3, e4] at hv; injection hv with hv; injection hv
        subst ev
        have rp2 := RepPs.kp (e2.kp (C := emp) (Z := emp)).tk _ _ rp
        obtain ⟨B1, C1, r1, _⟩ := (place_ok r rp2 l1).2 x (wk.ext e2)
        obtain ⟨⟨w, kw⟩, _⟩ := kid_ok r1 ry' l2
        have fin : Q w H2 := q w H2 v (ys ++ [y]) (e1.trans e2) hv (repPs_snoc rp2 ry') (WalkV.snoc (wk.ext e2) kw)
        rcases kw with ⟨p', xs, i', a1, a2, a3, a4⟩ | ⟨a', a1, a2⟩
        · exact .inl (.inl ⟨p', xs, i', w, a1, a2, .of a3, a4, fin⟩)
        · exact .inr ⟨a', w, a1, a2, fin⟩
      | _ => exact fun q => q.elim
end
end TR
namespace TR
open PySem PySem.Spec PyProof.Rows L2
def MutAt (A : Fp) (H H' : Hp) : Prop := ∃ a o o', A a ∧ H a = some o' ∧ Mut (some o') ∧ H' = upd H a o
section
variable {K : PySem.W.Frag} {H H' : Hp} {A : Fp}
theorem MutAt.kp (m : MutAt A H H') {C Z : Fp} (hc : Disj C A) (hz : Disj Z A) : Kp C Z H H' := by
  obtain ⟨a, o, o', hA, e, mu, rfl⟩ := m
  have ne : ∀ b u, H b = some u → ¬ Mut (some u) → b ≠ a := fun b u h n z => by subst z; rw [e] at h; cases h; exact n mu
  exact ⟨fun b xs h => by rw [upd_ne (ne b _ h id)]; exact h, fun b o u h => by rw [upd_ne (ne b _ h id)]; exact h,
    fun b u hb h => by rw [upd_ne (fun z => hc b hb (by rw [z]; exact hA))]; exact h, fun b u hb h => by rw [upd_ne (fun z => hz b hb (by rw [z]; exact hA))]; exact h⟩
theorem MutAt.dom (m : MutAt A H H') : ∀ b, H b ≠ none → H' b ≠ none := by
  obtain ⟨a, o, o', hA, e, mu, rfl⟩ := m
  intro b h
  by_cases z : b = a
  · rw [z, upd_same]; intro c; cases c
  · rw [upd_ne z]; exact h
theorem MutAt.step (m : MutAt A H H') {A0 A' : Fp} (hA : Sub A A0) (s : Sub A' A0) : Step H A0 H' A' := by
  have dom := m.dom
  obtain ⟨a, o, o', hA', e, mu, rfl⟩ := m
  refine ⟨fun b u h n => ?_, dom, fun b h => .inl (s b h)⟩
  rw [upd_ne (fun z => by subst z; rw [e] at h; cases h; exact n (hA b hA') mu)]
  exact h
theorem MutAt.mono (m : MutAt A H H') {B : Fp} (s : Sub A B) : MutAt B H H' := by
  obtain ⟨a, o, o', hA, r⟩ := m
  exact ⟨a, o, o', s a hA, r⟩
theorem env_mut {Z : Fp} {σ : Stt} {ρ : Env} {i : Nat} {t node : T} {v0 w : V} {ks : List P} {ys : List V} (g : EnvRep K Z H σ ρ A) (e : ρ[i]? = some (.ow t)) (ev : σ[i]? = some (some v0)) (rp : RepPs H ks ys) (l : lookPath ks t = some node) (wk : WalkV H v0 ys w) :
    ∃ B C, Rep H node w B ∧ Sub B A ∧ Sub C A ∧ Disj B C ∧ ∀ (H' : Hp) (f : T → Option T) (node' : T) (D : Fp), Kp C Z H H' → f node = some node' → Rep H' node' w D → Disj D C → ∃ t2, updPath ks f t = some t2 ∧ EnvRep K Z H' σ (ρ.set i (.ow t2)) (un D C) := by
  obtain ⟨o, B0, C0, h1, ⟨v, eo, r⟩, h3, h4, h5, put⟩ := g.at e
  have evv : v = v0 := by rw [h1, eo] at ev; injection ev with ev; injection ev
  subst evv
  obtain ⟨B, C, r1, sb, sc, d, upd'⟩ := (place_ok r rp l).2 w wk
  refine ⟨B, un C C0, r1, fun a h => h3 a (sb a h), fun a h => h.elim (fun z => h3 a (sc a z)) (h4 a), fun a z1 z2 => z2.elim (d a z1) (h5 a (sb a z1)), fun H' f node' D k hf rt dd => ?_⟩
  obtain ⟨t2, e2, r2⟩ := upd' H' f node' D (k.mono (fun _ h => .inl h) fun _ z => z.elim) hf rt fun a z1 z2 => dd a z1 (.inl z2)
  have q := put H' Z (k.mono (fun _ h => .inr h) fun _ h => h) (fun _ h => h) o (.ow t2) (un D C) ⟨v, eo, r2⟩ fun a z1 z2 => z1.elim (fun z => dd a z (.inr z2)) fun z => h5 a (sc a z) z2
  rw [set_same h1] at q
  exact ⟨t2, e2, q.mono (fun _ h => h) fun a h => h.elim (fun z => z.elim .inl fun z => .inr (.inl z)) fun z => .inr (.inr z)⟩
theorem updPath_look : ∀ {ks : List P} {f : T → Option T} {t t2 : T}, updPath ks f t = some t2 → ∃ node node', lookPath ks t = some node ∧ f node = some node'
  | [], f, t, t2, h => ⟨t, t2, rfl, h⟩
  | k :: ks, f, t, t2, h => by
    unfold updPath at h
    cases hc : kidT t k with
    | none => rw [hc] at h; cases h
    | some c =>
      rw [hc] at h
      cases hu : updPath ks f c with
      | none => rw [Option.bind_some, hu] at h; cases h
      | some c' =>
        obtain ⟨n, n', h1, h2⟩ := updPath_look hu
        exact ⟨n, n', by unfold lookPath; rw [hc]; exact h1, h2⟩
theorem setKid_ok {t : T} {v : V} {p : P} {y : V} {t' t2 : T} {x : V} {D : Fp} {Q : Hp → Prop} (r : Rep H t v A) (rp : RepP H p y) (e : setKid t p t' = some t2) (rx : Rep H t' x D) (d : Disj D A)
    (h : ∀ H' A', Rep H' t2 v A' → Sub A' (un A D) → MutAt A H H' → Q H') : rSetAll v y x H Q := by
  cases t with
  | pv q => cases e
  | tup ts => cases e
  | fls ts => cases e
  | lst ts =>
    cases p with
    | int i =>
      have ey : y = .int i := rp
      subst ey
      obtain ⟨a, xs, ev, ha, hA, hr⟩ := r
      subst ev
      have e' : (ixN ts.length i).map (fun j => T.lst (ts.set j t')) = some t2 := e
      cases hj : ixN ts.length i with
      | none => rw [hj] at e'; cases e'
      | some j =>
        rw [hj] at e'
        cases e'
        have hjl : j < ts.length := (ixN_seq hj).2.1
        obtain ⟨x0, B, C, e1, r1, sb, sc, dd, put⟩ := Reps.at hr (List.getElem?_eq_getElem hjl)
        have hl : ts.length = xs.length := kid_ok.vws_len hr
        have m : MutAt A H (upd H a (.lst (xs.set j x))) := ⟨a, _, _, hA, ha, trivial, rfl⟩
        refine .inl ⟨a, xs, i, j, rfl, rfl, ha, by rw [← hl]; exact hj, h _ (fun b => b = a ∨ D b ∨ C b) ⟨a, xs.set j x, rfl, upd_same, .inl rfl, ?_⟩ (fun b z => z.elim (fun z => .inl (z ▸ hA)) fun z => z.elim .inr fun z => .inl (sc b z).1) m⟩
        have kC : Kp C emp H (upd H a (.lst (xs.set j x))) := by
          have m1 : MutAt (fun b => b = a) H (upd H a (.lst (xs.set j x))) := ⟨a, _, _, rfl, ha, trivial, rfl⟩
          exact m1.kp (fun b z1 z2 => (sc b z1).2 z2) fun _ z => z.elim
        exact Reps.mono (fun b z => ⟨z.elim (fun z => .inr (.inl z)) fun z => .inr (.inr z), fun w => z.elim (fun z => d a (w ▸ z) hA) fun z => (sc b z).2 w⟩) _ _ (put _ t' x D kC (Rep.kp (m.kp d (fun _ z => z.elim : Disj emp A)) _ _ rx) fun b z1 z2 => d b z1 (sc b z2).1)
    | _ => cases e
  | dct tk ks ts =>
    obtain ⟨a, xs, ev, hd, hA, hr⟩ := r
    subst ev
    have e' : (if isKey tk p = true ∧ ks.length < 16777216 then (match idxP ks p with
        | some j => some (T.dct tk ks (ts.set j t'))
        | none => some (T.dct tk (ks ++ [p]) (ts ++ [t']))) else none) = some t2 := by
      cases p <;> exact e
    by_cases hk2 : isKey tk p = true ∧ ks.length < 16777216
    · have hk := hk2.1
      rw [if_pos hk2] at e'
      have hlx : ts.length = xs.length := kid_ok.vws_len hr
      have hkl : ks.length = xs.length := by
        obtain ⟨_, hd'⟩ := hd
        cases tk with
        | false => obtain ⟨kv, _, h2, h3⟩ := hd'; rw [h2, h3]; simp
        | true => obtain ⟨kv, _, h2, h3⟩ := hd'; rw [h2, h3]; simp
      obtain ⟨o, dp, ⟨o', ho, mo⟩, after⟩ := dput_ok (v := x) hd hk rp (by rw [sizeLine_eq]; exact hk2.2)
      have m : MutAt A H (upd H a o) := ⟨a, o, o', hA, ho, mo, rfl⟩
      have m1 : MutAt (fun b => b = a) H (upd H a o) := ⟨a, o, o', rfl, ho, mo, rfl⟩
      have rx' : Rep (upd H a o) t' x D := Rep.kp (m.kp d (fun _ z => z.elim : Disj emp A)) _ _ rx
      have aft := after (upd H a o) upd_same
      refine .inr ⟨a, upd H a o, rfl, dp, ?_⟩
      cases hj : idxP ks p with
      | some j =>
        rw [hj] at e' aft
        cases e'
        have hjl : j < ts.length := by have := idxP_lt hj; omega
        obtain ⟨x0, B, C, e1, r1, sb, sc, dd, put⟩ := Reps.at hr (List.getElem?_eq_getElem hjl)
        have kC : Kp C emp H (upd H a o) := m1.kp (fun b z1 z2 => (sc b z1).2 z2) fun _ z => z.elim
        refine h _ (fun b => b = a ∨ D b ∨ C b) ⟨a, xs.set j x, rfl, aft, .inl rfl, ?_⟩ (fun b z => z.elim (fun z => .inl (z ▸ hA)) fun z => z.elim .inr fun z => .inl (sc b z).1) m
        exact Reps.mono (fun b z => ⟨z.elim (fun z => .inr (.inl z)) fun z => .inr (.inr z), fun w => z.elim (fun z => d a (w ▸ z) hA) fun z => (sc b z).2 w⟩) _ _ (put _ t' x D kC rx' fun b z1 z2 => d b z1 (sc b z2).1)
      | none =>
        rw [hj] at e' aft
        cases e'
        have k0 : Kp (fun b => A b ∧ b ≠ a) emp H (upd H a o) := m1.kp (fun b z1 z2 => z1.2 z2) fun _ z => z.elim
        refine h _ (un A D) ⟨a, xs ++ [x], rfl, aft, .inl hA, ?_⟩ (fun b z => z) m
        exact Reps.mono (fun b z => ⟨z.elim (fun z => .inl z.1) .inr, fun w => z.elim (fun z => z.2 w) fun z => d a (w ▸ z) hA⟩) _ _ (reps_snoc (Reps.kp k0 _ _ hr) rx' fun b z1 z2 => d b z2 z1.1)
    · rw [if_neg hk2] at e'; cases e'
end
def tSetP (i : Nat) (fp : Env → R Unit (List P)) (fk fe : Env → R Unit T) : FF := fun ρ => liftQ (fe ρ) ρ fun tv => liftQ (fp ρ) ρ fun ks => match fk ρ, ρ[i]? with
  | .ok (.pv p), some (.ow t) => (match updPath ks (fun node => setKid node p tv) t with
    | some t2 => .ok (.nx, ρ.set i (.ow t2))
    | none => .bad)
  | _, _ => .bad
def tSetPE (i : Nat) (fp : Env → R Unit (List P)) (fk : Env → R Unit T) (fe : Env → R Env (AV × Env)) : FF := fun ρ => (fe ρ).bind fun (a, ρ1) => match a with
  | .late _ => .bad
  | .val tv => liftQ (fp ρ1) ρ1 fun ks => match fk ρ1, ρ1[i]? with
    | .ok (.pv p), some (.ow t) => (match updPath ks (fun node => setKid node p tv) t with
      | some t2 => .ok (.nx, ρ1.set i (.ow t2))
      | none => .bad)
    | _, _ => .bad
def augK (g : T → T → Option T) (p : P) (tv : T) : T → Option T := fun node => (kidT node p).bind fun old => (g old tv).bind fun new => match new with
  | .pv n => setKid node p (.pv n)
  | _ => none
def tAugP (i : Nat) (g : T → T → Option T) (fp : Env → R Unit (List P)) (fk fe : Env → R Unit T) : FF := fun ρ => liftQ (fp ρ) ρ fun ks => match fk ρ, fe ρ, ρ[i]? with
  | .ok (.pv p), .ok tv, some (.ow t) => (match updPath ks (augK g p tv) t with
    | some t2 => .ok (.nx, ρ.set i (.ow t2))
    | none => .bad)
  | _, _, _ => .bad
section
variable {X : Cx} {W : WX} {kp : Nat → Bool} {K : PySem.W.Frag} {mg : Str → Option Value}
theorem store_core {Z A D : Fp} {H1 : Hp} {σ : Stt} {ρ : Env} {i : Nat} {t t2 tv : T} {ks : List P} {p : P} {fp : Env → R Unit (List P)} {fk : Env → R Unit T} {xv : V} {Q : Hp → Prop} (G : Good K Z H1 σ ρ A) (rx : Rep H1 tv xv D) (dD : Disj D A) (dZ : Disj D Z) (alD : Al H1 D)
    (hp : fp ρ = .ok ks) (hk : fk ρ = .ok (.pv p)) (hi : ρ[i]? = some (.ow t)) (hu : updPath ks (fun node => setKid node p tv) t = some t2)
    (q : ∀ H' A', Good K Z H' σ (ρ.set i (.ow t2)) A' → Step H1 (un A D) H' A' → Q H') :
    FP K mg W i fp σ H1 fun o H2 => FQ K mg W .e fk σ H2 fun y H3 => rSetAll o y xv H3 Q := by
  obtain ⟨node, node', l1, l2⟩ := updPath_look hu
  refine ⟨ρ, Z, A, G, ?_⟩
  rw [hp]
  refine ⟨t, node, hi, l1, fun w H2 v0 ys e2 hv rp wk => ⟨ρ, Z, A, G.ext e2, ?_⟩⟩
  rw [hk]
  intro y H3 e3 ry
  have ry' : RepP H3 p y := ry
  have G3 := G.ext (e2.trans e3)
  obtain ⟨B, C, r1, sb, sc, d, put⟩ := env_mut G3.env hi hv (RepPs.kp (e3.kp (C := emp) (Z := emp)).tk _ _ rp) l1 (wk.ext e3)
  have rx3 : Rep H3 tv xv D := Rep.kp ((e2.trans e3).kp (C := D) (Z := emp)) _ _ rx
  refine setKid_ok r1 ry' l2 rx3 (fun a z1 z2 => dD a z1 (sb a z2)) fun H' A' r' s' m => ?_
  have dC : Disj A' C := fun a z1 z2 => (s' a z1).elim (fun z => d a z z2) fun z => dD a z (sc a z2)
  obtain ⟨t2', e4, env⟩ := put H' (fun node => setKid node p tv) node' A' (m.kp (fun a z1 z2 => d a z2 z1) fun a z1 z2 => G3.dis a z1 (sb a z2)) l2 r' dC
  rw [hu] at e4
  cases e4
  have dom := m.dom
  have sub : Sub (un A' C) (un A D) := fun a z => z.elim (fun z => (s' a z).imp (sb a) id) fun z => .inl (sc a z)
  refine q H' (un A' C) ⟨env, fun a z1 z2 => (sub a z2).elim (G3.dis a z1) fun z => dZ a z z1, fun a z => dom a (G3.alZ a z), fun a z => dom a ((sub a z).elim (G3.alA a) fun z => (e2.trans e3).al alD a z)⟩ ?_
  exact (Step.ext0 (e2.trans e3)).trans ((m.mono sb).step (fun a z => .inl z) sub)
theorem t_setP {a b e : Expr} {pos pos' : Pos} {i : Nat} {fp : Env → R Unit (List P)} {fk fe : Env → R Unit T} (hu : X.A.units + 1 < cLine) (he : JQ X W .o e fe) (ha : JP X W a i fp) (hb : JQ X W .e b fk) (hk : kp i = false ∨ True := by exact .inr trivial)
    (hsub : ∀ v, assign (.Subscript a b pos') X.env v = (do
      let ov ← holding [v] (eval a X.env)
      let iv ← holding [v, ov] (eval b X.env)
      standAt pos'
      holding [v, ov, iv] (setItem ov iv v)
      release [v, ov, iv] []) := by intro _; rfl)
    (hs : swapsWithSole [.Subscript a b pos'] e pos.line X.env = pure false := by rfl) (hw : swappedStores [.Subscript a b pos'] e X.env = pure none := by rfl)
    (h1 : (assignEach [.Subscript a b pos'] X.env).map (·.2) = [assign (.Subscript a b pos') X.env] := by rfl) : JT X W kp (.Assign [.Subscript a b pos'] e pos) (tSetP i fp fk fe) := psM (ps_asg he (pg_sub ha hb (set_all hu) hsub) hs hw h1) fun D σ H h => by
  obtain ⟨ρ, Z, A, G, q⟩ := FT_iff.mp h
  refine ⟨ρ, Z, A, G, ?_⟩
  unfold tSetP at q
  revert q
  cases fe ρ with
  | exc e x => exact fun q cls d H' e2 x => q cls d σ H' Z A (G.ext e2) (Step.ext0 e2) Agree.refl x
  | bad => exact id
  | ok tv =>
    intro q x H1 e1 ⟨Dx, rx, fr, al⟩
    rw [liftQ_ok] at q
    cases hp : fp ρ with
    | exc e x' =>
      rw [hp] at q
      refine ⟨ρ, Z, A, G.ext e1, ?_⟩
      rw [hp]
      exact fun cls d H' e2 x => q cls d σ H' Z A (G.ext (e1.trans e2)) (Step.ext0 (e1.trans e2)) Agree.refl x
    | bad => rw [hp] at q; exact q.elim
    | ok ks =>
      rw [hp, liftQ_ok] at q
      split at q
      · rename_i p t hk hi
        split at q
        · rename_i t2 hu2
          refine store_core (G.ext e1) rx (fun a z1 z2 => G.alA a z2 (fr a z1)) (fun a z1 z2 => G.alZ a z2 (fr a z1)) al hp hk hi hu2 fun H' A' g' s' => ?_
          exact q σ H' Z A' g' ((Step.ext e1 fr).trans s') Agree.refl
        · exact q.elim
      · exact q.elim
theorem t_setPE {a b e : Expr} {pos pos' : Pos} {i : Nat} {fp : Env → R Unit (List P)} {fk : Env → R Unit T} {fe : Env → R Env (AV × Env)} (hu : X.A.units + 1 < cLine) (he : JS X W e fe) (ha : JP X W a i fp) (hb : JQ X W .e b fk)
    (hsub : ∀ v, assign (.Subscript a b pos') X.env v = (do
      let ov ← holding [v] (eval a X.env)
      let iv ← holding [v, ov] (eval b X.env)
      standAt pos'
      holding [v, ov, iv] (setItem ov iv v)
      release [v, ov, iv] []) := by intro _; rfl)
    (hs : swapsWithSole [.Subscript a b pos'] e pos.line X.env = pure false := by rfl) (hw : swappedStores [.Subscript a b pos'] e X.env = pure none := by rfl)
    (h1 : (assignEach [.Subscript a b pos'] X.env).map (·.2) = [assign (.Subscript a b pos') X.env] := by rfl) : JT X W kp (.Assign [.Subscript a b pos'] e pos) (tSetPE i fp fk fe) := psM (ps_asg he (pg_sub ha hb (set_all hu) hsub) hs hw h1) fun D σ H h => by
  obtain ⟨ρ, Z, A, G, q⟩ := FT_iff.mp h
  refine ⟨ρ, Z, A, G, ?_⟩
  unfold tSetPE at q
  revert q
  cases fe ρ with
  | exc e x => exact fun q cls d H' A' G' s' x => q cls d σ H' Z A' G' s' Agree.refl x
  | bad => exact id
  | ok av =>
    obtain ⟨av, ρ1⟩ := av
    intro q x H1 A1 Dx G1 rx dd al st
    simp only [R.bind_ok] at q
    cases av with
    | late j => exact q.elim
    | val tv =>
      dsimp only at q
      have dZ : Disj Dx Z := fun a h1 h2 => (st.sub a (.inr h1)).elim (fun z => G.dis a h2 z) fun z => G.alZ a h2 z
      cases hp : fp ρ1 with
      | exc e x' =>
        rw [hp] at q
        refine ⟨ρ1, Z, A1, G1, ?_⟩
        rw [hp]
        exact fun cls d H' e2 x => q cls d σ H' Z A1 (G1.ext e2) ((st.mono fun _ h => .inl h).trans (Step.ext0 e2)) Agree.refl x
      | bad => rw [hp] at q; exact q.elim
      | ok ks =>
        rw [hp, liftQ_ok] at q
        split at q
        · rename_i p t hk hi
          split at q
          · rename_i t2 hu2
            exact store_core G1 rx dd dZ al hp hk hi hu2 fun H' A' g' s' => q σ H' Z A' g' (st.trans s') Agree.refl
          · exact q.elim
        · exact q.elim
end
end TR
namespace TR
open PySem PySem.Spec PyProof.Rows L2
section
variable {X : Cx} {W : WX} {kp : Nat → Bool} {K : PySem.W.Frag} {mg : Str → Option Value}
theorem t_augP {a b e : Expr} {pos tpos : Pos} {op : Operator} {r : R2} {i : Nat} {g : T → T → Option T} {fp : Env → R Unit (List P)} {fk fe : Env → R Unit T} (hu : X.A.units + 1 < cLine) (ho : PIp X op r) (hr : Ok2 X.K r g) (ha : JP X W a i fp) (hb : JQ X W .e b fk) (he : JQ X W .e e fe)
    (hst : ∀ ov iv new, augStore b ov iv new = (do holding [new, ov, iv] (setItem ov iv new); release [new, ov, iv] []; pure .next) := by intros; rfl) : JT X W kp (.AugAssign (.Subscript a b tpos) op e pos) (tAugP i g fp fk fe) := psM (ps_augS ha hb (get_all hu) he ho (set_all hu) hst) fun D σ H h => by
  obtain ⟨ρ, Z, A, G, q⟩ := FT_iff.mp h
  refine ⟨ρ, Z, A, G, ?_⟩
  unfold tAugP at q
  cases hp : fp ρ with
  | exc e x =>
    rw [hp] at q
    exact fun cls d H' e2 x => q cls d σ H' Z A (G.ext e2) (Step.ext0 e2) Agree.refl x
  | bad => rw [hp] at q; exact q.elim
  | ok ks =>
    rw [hp, liftQ_ok] at q
    split at q
    · rename_i p tv t hk he2 hi
      split at q
      · rename_i t2 hu2
        obtain ⟨node, node', l1, l2⟩ := updPath_look hu2
        cases hkid : kidT node p with
        | none => unfold augK at l2; rw [hkid] at l2; cases l2
        | some old =>
          unfold augK at l2
          rw [hkid, Option.bind_some] at l2
          cases hg : g old tv with
          | none => rw [hg] at l2; cases l2
          | some new =>
            rw [hg, Option.bind_some] at l2
            cases new with
            | pv n =>
              refine ⟨t, node, hi, l1, fun w H1 v0 ys e1 hv rp wk => ⟨ρ, Z, A, G.ext e1, ?_⟩⟩
              rw [hk]
              intro y H2 e2 ry
              have ry' : RepP H2 p y := ry
              have G2 := G.ext (e1.trans e2)
              obtain ⟨B, C, r1, sb, sc, d, put⟩ := env_mut G2.env hi hv (RepPs.kp (e2.kp (C := emp) (Z := emp)).tk _ _ rp) l1 (wk.ext e2)
              obtain ⟨⟨x, hx⟩, kid⟩ := kid_ok r1 ry' hkid
              obtain ⟨Bx, Cx', ax, rx, _⟩ := kid x hx
              have fin : tOp r (fun σ H Q => Q x H) (FQ X.K X.mg W .e fe) σ H2 (fun z H4 => rSetAll w y z H4 fun H6 => D.nx σ H6) := by
                refine ⟨ρ, Z, A, G2, ?_⟩
                rw [he2]
                intro yv H3 e3 ryv
                have G3 := G2.ext e3
                refine hr H3 old tv x yv _ (Vw.kp (e3.kp (C := top)) _ _ (Rep.vw (fun _ _ => trivial) _ _ rx)) ryv hg _ fun z H4 Bz e4 rz fr al => ?_
                have rz' : RepP H4 n z := rz
                have G4 := G3.ext e4
                obtain ⟨B4, C4, r4, sb4, sc4, d4, put4⟩ := env_mut G4.env hi hv (RepPs.kp ((e2.trans (e3.trans e4)).kp (C := emp) (Z := emp)).tk _ _ rp) l1 (wk.ext (e2.trans (e3.trans e4)))
                refine setKid_ok (t' := .pv n) (D := emp) r4 (RepP.kp ((e3.trans e4).kp (C := emp) (Z := emp)).tk _ _ ry') l2 rz' (fun _ z => z.elim) fun H' A' r' s' m => ?_
                have sA : Sub A' B4 := fun a z => (s' a z).elim id fun z => z.elim
                obtain ⟨t2', e5, env⟩ := put4 H' (augK g p tv) node' A' (m.kp (fun a z1 z2 => d4 a z2 z1) fun a z1 z2 => G4.dis a z1 (sb4 a z2)) (by unfold augK; rw [hkid, Option.bind_some, hg, Option.bind_some]; exact l2) r' (fun a z1 z2 => d4 a (sA a z1) z2)
                rw [hu2] at e5
                cases e5
                have sub : Sub (un A' C4) A := fun a z => z.elim (fun z => sb4 a (sA a z)) (sc4 a)
                have dom := m.dom
                exact q σ H' Z (un A' C4) ⟨env, fun a z1 z2 => G.dis a z1 (sub a z2), fun a z => dom a (G4.alZ a z), fun a z => dom a (G4.alA a (sub a z))⟩ ((Step.ext0 (e1.trans (e2.trans (e3.trans e4)))).trans ((m.mono sb4).step (fun _ h => h) sub)) Agree.refl
              rcases hx with ⟨p', xs, i', a1, a2, a3, a4⟩ | ⟨a', a1, a2⟩
              · exact .inl ⟨p', xs, i', x, a1, a2, .of a3, a4, fin⟩
              · exact .inr ⟨a', x, a1, a2, fin⟩
            | _ => cases l2
      · exact q.elim
    · exact q.elim
def OkM (r : V → List V → Hp → VK → Prop) (mu : T → List T → Option (T × T)) : Prop :=
  ∀ H t v A args vs B t' q, Rep H t v A → Reps H args vs B → Disj B A → mu t args = some (t', q) → ∀ Q : VK, (∀ v' H' D E, Rep H' t' v D → Rep H' q v' E → Disj E D → Sub (un D E) (un A B) → MutAt A H H' → Q v' H') → r v vs H Q
def isTy : String → T → Bool
  | "list", .lst _ => true
  | "dict", .dct _ _ _ => true
  | _, _ => false
theorem isTy_cases {Ty : String} {t : T} (h : isTy Ty t = true) : (Ty = "list" ∧ ∃ ts, t = .lst ts) ∨ (Ty = "dict" ∧ ∃ tk ks ts, t = .dct tk ks ts) := by
  unfold isTy at h
  split at h
  · exact .inl ⟨rfl, _, rfl⟩
  · exact .inr ⟨rfl, _, _, _, rfl⟩
  · cases h
theorem tyV_of {H : Hp} {t : T} {v : V} {A : Fp} {Ty : String} (r : Rep H t v A) (h : isTy Ty t = true) : tyV K Ty v H := by
  rcases isTy_cases h with ⟨rfl, ts, rfl⟩ | ⟨rfl, tk, ks, ts, rfl⟩
  · obtain ⟨a, xs, e, q, _⟩ := r
    subst e
    exact .inl ⟨rfl, xs, .of q⟩
  · obtain ⟨a, xs, e, ⟨_, q⟩, _⟩ := r
    subst e
    cases tk with
    | false => obtain ⟨kv, q, _⟩ := q; exact .inr (.inr (.inl ⟨rfl, .inl ⟨kv, q⟩⟩))
    | true => obtain ⟨kv, q, _⟩ := q; exact .inr (.inr (.inl ⟨rfl, .inr ⟨kv, q⟩⟩))
def sMeth (Ty : String) (i : Nat) (mu : T → List T → Option (T × T)) (fp : Env → R Unit (List P)) (fas : Env → R Unit (List T)) : Env → R Env (AV × Env) := fun ρ => match fp ρ, ρ[i]? with
  | .ok ks, some (.ow t) => (match lookPath ks t with
    | none => .bad
    | some node => if isTy Ty node = true then (match fas ρ with
      | .bad => .bad
      | .exc e _ => .exc e ρ
      | .ok ts => match mu node ts with
        | none => .bad
        | some (node', q) => match updPath ks (fun _ => some node') t with
          | some t2 => .ok (.val q, ρ.set i (.ow t2))
          | none => .bad) else .bad)
  | _, _ => .bad
def valsOf : List AV → Option (List T)
  | [] => some []
  | .val t :: as => (valsOf as).map fun ts => t :: ts
  | .late _ :: _ => none
def sMethN (Ty : String) (i : Nat) (mu : T → List T → Option (T × T)) (fas : Env → R Env (List AV × Env)) : Env → R Env (AV × Env) := fun ρ => match ρ[i]? with
  | some (.ow t0) => if isTy Ty t0 = true then (fas ρ).bind (fun (as, ρ1) => match ρ1[i]?, valsOf as with
    | some (.ow t), some ts => (match mu t ts with
      | some (t2, q) => .ok (.val q, ρ1.set i (.ow t2))
      | none => .bad)
    | _, _ => .bad) else .bad
  | _ => .bad
theorem mut_core {r : V → List V → Hp → VK → Prop} {mu : T → List T → Option (T × T)} (hm : OkM r mu) {Z A : Fp} {H : Hp} {σ : Stt} {ρ : Env} {i : Nat} {t node node' q t2 : T} {v0 w : V} {ks : List P} {ys : List V} {ts : List T} {vs : List V} {B : Fp} {Q : VK}
    (G : Good K Z H σ ρ A) (rv : Reps H ts vs B) (dB : Disj B A) (dZ : Disj B Z) (al : Al H B) (e : ρ[i]? = some (.ow t)) (ev : σ[i]? = some (some v0)) (rp : RepPs H ks ys) (l : lookPath ks t = some node) (wk : WalkV H v0 ys w)
    (em : mu node ts = some (node', q)) (eu : updPath ks (fun _ => some node') t = some t2)
    (fin : ∀ v H' A' E, Good K Z H' σ (ρ.set i (.ow t2)) A' → Rep H' q v E → Disj E A' → Al H' E → Step H (un A B) H' (un A' E) → Q v H') : r w vs H Q := by
  obtain ⟨Bn, C, r1, sb, sc, d, put⟩ := env_mut G.env e ev rp l wk
  refine hm H node w Bn ts vs B node' q r1 rv (fun a z1 z2 => dB a z1 (sb a z2)) em Q fun v' H' D E rD rE dE sub m => ?_
  have subD : Sub D (un Bn B) := fun a z => sub a (.inl z)
  have subE : Sub E (un Bn B) := fun a z => sub a (.inr z)
  have dC : Disj D C := fun a z1 z2 => (subD a z1).elim (fun z => d a z z2) fun z => dB a z (sc a z2)
  have eC : Disj E C := fun a z1 z2 => (subE a z1).elim (fun z => d a z z2) fun z => dB a z (sc a z2)
  obtain ⟨t2', e5, env⟩ := put H' (fun _ => some node') node' D (m.kp (fun a z1 z2 => d a z2 z1) fun a z1 z2 => G.dis a z1 (sb a z2)) rfl rD dC
  rw [eu] at e5
  cases e5
  have dom := m.dom
  have alU : ∀ a, un A B a → H a ≠ none := fun a z => z.elim (G.alA a) (al a)
  have subF : Sub (un D C) (un A B) := fun a z => z.elim (fun z => (subD a z).imp (sb a) id) fun z => .inl (sc a z)
  have subE' : Sub E (un A B) := fun a z => (subE a z).imp (sb a) id
  refine fin v' H' (un D C) E ⟨env, fun a z1 z2 => (subF a z2).elim (G.dis a z1) fun z => dZ a z z1, fun a z => dom a (G.alZ a z), fun a z => dom a (alU a (subF a z))⟩ rE (fun a z1 z2 => z2.elim (dE a z1) (eC a z1)) (fun a z => dom a (alU a (subE' a z))) ?_
  exact (m.mono sb).step (fun a z => .inl z) fun a z => z.elim (subF a) (subE' a)
variable {o e : Expr} {es : List Expr} {name : Str} {apos cpos : Pos} {Ty mid : String} {r : V → List V → Hp → VK → Prop} {mu : T → List T → Option (T × T)}
theorem fs_meth (hm : OkM r mu) {i : Nat} {fp : Env → R Unit (List P)} {fas : Env → R Unit (List T)} {σ : Stt} {H : Hp} {Q : VK} (h : FS K mg W (sMeth Ty i mu fp fas) σ H Q) : tBM K Ty r (FP K mg W i fp) (FOA K mg W fas) σ H Q := by
  obtain ⟨ρ, Z, A, G, q⟩ := h
  refine ⟨ρ, Z, A, G, ?_⟩
  unfold sMeth at q
  cases hp : fp ρ with
  | bad => rw [hp] at q; exact False.elim q
  | exc e x => rw [hp] at q; exact False.elim q
  | ok ks =>
    rw [hp] at q
    cases hi : ρ[i]? with
    | none => rw [hi] at q; exact False.elim q
    | some s =>
      rw [hi] at q
      cases s with
      | no => exact False.elim q
      | vw t => exact False.elim q
      | ow t =>
        dsimp only at q
        cases l : lookPath ks t with
        | none => rw [l] at q; exact False.elim q
        | some node =>
          rw [l] at q
          dsimp only at q
          by_cases hty : isTy Ty node = true
          · rw [if_pos hty] at q
            refine ⟨t, node, rfl, l, fun w H1 v0 ys e1 hv rp wk => ?_⟩
            have G1 := G.ext e1
            obtain ⟨Bn, C, r1, sb, sc, d, put⟩ := env_mut G1.env hi hv rp l wk
            refine ⟨tyV_of r1 hty, ρ, Z, A, G1, ?_⟩
            cases hf : fas ρ with
            | bad => rw [hf] at q; exact False.elim q
            | exc e x => rw [hf] at q; exact fun cls dd H' e2 x => q cls dd H' A (G.ext (e1.trans e2)) (Step.ext0 (e1.trans e2)) x
            | ok ts =>
              rw [hf] at q
              intro vs H2 B e2 rv fr al
              dsimp only at q
              cases em : mu node ts with
              | none => rw [em] at q; exact False.elim q
              | some pr =>
                obtain ⟨node', qv⟩ := pr
                rw [em] at q
                dsimp only at q
                cases eu : updPath ks (fun _ => some node') t with
                | none => rw [eu] at q; exact False.elim q
                | some t2 =>
                  rw [eu] at q
                  refine mut_core hm (G1.ext e2) rv (fun a z1 z2 => G1.alA a z2 (fr a z1)) (fun a z1 z2 => G1.alZ a z2 (fr a z1)) al hi hv (RepPs.kp (e2.kp (C := emp) (Z := emp)).tk _ _ rp) l (wk.ext e2) em eu fun v H' A' E g rE dE alE st => ?_
                  exact q v H' A' E g rE dE alE ((Step.ext0 e1).trans ((Step.ext e2 fr).trans st))
          · rw [if_neg hty] at q; exact False.elim q
theorem valsOf_reps {σ : Stt} {H : Hp} : ∀ {as : List AV} {vs : List V} {B : Fp} {ts : List T}, AvReps σ H as vs B → valsOf as = some ts → Reps H ts vs B
  | [], _, _, ts, .nil, e => by
    have e' : [] = ts := Option.some.inj e
    subst e'; rfl
  | .val t :: as, _, _, ts, .cons h1 h2 s1 s2 d, e => by
    unfold valsOf at e
    cases q : valsOf as with
    | none => rw [q] at e; cases e
    | some ts' =>
      rw [q] at e
      have e' : t :: ts' = ts := Option.some.inj e
      subst e'
      exact ⟨_, _, _, _, rfl, h1, valsOf_reps h2 q, s1, s2, d⟩
  | .late _ :: _, _, _, _, _, e => by cases e
theorem fs_methN (hm : OkM r mu) {i : Nat} {fas : Env → R Env (List AV × Env)} {σ : Stt} {H : Hp} {Q : VK} (h : FS K mg W (sMethN Ty i mu fas) σ H Q) : tBM K Ty r (tVar i) (FSA K mg W fas) σ H Q := by
  obtain ⟨ρ, Z, A, G, q⟩ := h
  unfold sMethN at q
  cases hi0 : ρ[i]? with
  | none => rw [hi0] at q; exact False.elim q
  | some s =>
    rw [hi0] at q
    cases s with
    | no => exact False.elim q
    | vw t => exact False.elim q
    | ow t0 =>
      dsimp only at q
      by_cases hty : isTy Ty t0 = true
      · rw [if_pos hty] at q
        obtain ⟨o, B0, e1, ⟨v0, e2, r0⟩, _⟩ := slot_of G.env hi0
        have hv : σ[i]? = some (some v0) := by rw [e1, e2]
        refine ⟨v0, hv, tyV_of r0 hty, ρ, Z, A, G, ?_⟩
        revert q
        cases fas ρ with
        | exc e x => exact fun q => q
        | bad => exact fun q => False.elim q
        | ok asr =>
          obtain ⟨as, ρ1⟩ := asr
          intro q vs H1 A1 B G1 rv dB al st
          simp only [R.bind_ok] at q
          cases hi : ρ1[i]? with
          | none => rw [hi] at q; exact False.elim q
          | some s =>
            rw [hi] at q
            cases s with
            | no => exact False.elim q
            | vw t => exact False.elim q
            | ow t =>
              cases hts : valsOf as with
              | none => rw [hts] at q; exact False.elim q
              | some ts =>
                rw [hts] at q
                dsimp only at q
                cases em : mu t ts with
                | none => rw [em] at q; exact False.elim q
                | some pr =>
                  obtain ⟨t2, qv⟩ := pr
                  rw [em] at q
                  have dZ : Disj B Z := fun a h1 h2 => (st.sub a (.inr h1)).elim (fun z => G.dis a h2 z) fun z => G.alZ a h2 z
                  exact mut_core hm (ks := []) (ys := []) G1 (valsOf_reps rv hts) dB dZ al hi hv rfl rfl rfl em rfl fun v H' A' E g rE dE alE s' => q v H' A' E g rE dE alE (st.trans s')
      · rw [if_neg hty] at q; exact False.elim q
theorem s_meth {i : Nat} {fp : Env → R Unit (List P)} {fas : Env → R Unit (List T)} (pa : PlainAttrs Ty) (slot : Slot Ty name mid) (hty : typeOf (.builtin mid) = pure (.type "method_descriptor")) (hm : MtR X mid r) (om : OkM r mu) (ho : JP X W o i fp) (ha : JOA X W (e :: es) fas)
    (hbase : attributeBase o name X.env (eval o X.env) = eval o X.env := by rfl)
    (hfew : ((backTo cpos (starEach (e :: es) X.env)).all (fun x => !x.1) && (backToKw cpos (keywordEach [] X.env)).all (fun x => x.1.isSome)
      && decide ((e :: es).length + ([] : List Keyword).length + (if ([] : List Keyword).isEmpty then 0 else 1) < 30)) = true := by rfl)
    (hline : (apos.endLine == cpos.line) = true := by rfl) (hs : starEach (e :: es) X.env = (false, eval e X.env) :: starEach es X.env := by rfl) (hplain : (backTo cpos (starEach es X.env)).any (·.1) = false := by rfl) :
    JS X W (.Call (.Attribute o name apos) (e :: es) [] cpos) (sMeth Ty i mu fp fas) := peM (pe_bm pa slot hty hm ho ha hbase hfew hline hs hplain) fun _ _ _ q => fs_meth om q
theorem s_methN (i : Nat) {x : Str} {npos : Pos} {fas : Env → R Env (List AV × Env)} (pa : PlainAttrs Ty) (slot : Slot Ty name mid) (hty : typeOf (.builtin mid) = pure (.type "method_descriptor")) (hm : MtR X mid r) (om : OkM r mu) (ho : PE X (.Name x npos) (tVar i)) (ha : JSA X W (e :: es) fas)
    (hbase : attributeBase (.Name x npos) name X.env (eval (.Name x npos) X.env) = eval (.Name x npos) X.env := by rfl)
    (hfew : ((backTo cpos (starEach (e :: es) X.env)).all (fun x => !x.1) && (backToKw cpos (keywordEach [] X.env)).all (fun x => x.1.isSome)
      && decide ((e :: es).length + ([] : List Keyword).length + (if ([] : List Keyword).isEmpty then 0 else 1) < 30)) = true := by rfl)
    (hline : (apos.endLine == cpos.line) = true := by rfl) (hs : starEach (e :: es) X.env = (false, eval e X.env) :: starEach es X.env := by rfl) (hplain : (backTo cpos (starEach es X.env)).any (·.1) = false := by rfl) :
    JS X W (.Call (.Attribute (.Name x npos) name apos) (e :: es) [] cpos) (sMethN Ty i mu fas) := peM (pe_bm pa slot hty hm ho ha hbase hfew hline hs hplain) fun _ _ _ q => fs_methN om q
def aNilO : Env → R Unit (List T) := fun _ => .ok []
theorem s_meth0 {i : Nat} {fp : Env → R Unit (List P)} (pa : PlainAttrs Ty) (slot : Slot Ty name mid) (hty : typeOf (.builtin mid) = pure (.type "method_descriptor")) (hm : MtR X mid r) (om : OkM r mu) (ho : JP X W o i fp)
    (hbase : attributeBase o name X.env (eval o X.env) = eval o X.env := by rfl) (hline : (apos.endLine == cpos.line) = true := by rfl) :
    JS X W (.Call (.Attribute o name apos) [] [] cpos) (sMeth Ty i mu fp aNilO) := peM (pe_bm0 pa slot hty hm ho hbase hline) fun σ H Q q => by
  have q' : tBM X.K Ty r (FP X.K X.mg W i fp) (FOA X.K X.mg W aNilO) σ H Q := fs_meth om q
  obtain ⟨ρ, Z, A, G, q'⟩ := q'
  refine ⟨ρ, Z, A, G, ?_⟩
  revert q'
  cases fp ρ with
  | exc e x => exact id
  | bad => exact id
  | ok ks =>
    rintro ⟨t, t', h1, h2, q'⟩
    refine ⟨t, t', h1, h2, fun w H' v0 ys e1 hv rp wk => ?_⟩
    obtain ⟨ty, ρ2, Z2, A2, G2, q2⟩ := q' w H' v0 ys e1 hv rp wk
    exact ⟨ty, q2 [] H' emp (Ext.refl _) rfl (fun _ z => z.elim) (fun _ z => z.elim)⟩
end
end TR
namespace TR
open PySem PySem.Spec PyProof.Rows L2
mutual
def P.toD : P → PyData
  | .non => .none
  | .bl b => .bool b
  | .int i => .int i
  | .str x => .str x
  | .tup ps => .tuple (P.toDs ps)
def P.toDs : List P → List PyData
  | [] => []
  | p :: ps => p.toD :: P.toDs ps
end
mutual
def T.toD : T → PyData
  | .pv p => p.toD
  | .tup ts => .tuple (T.toDs ts)
  | .lst ts => .list (T.toDs ts)
  | .fls ts => .list (T.toDs ts)
  | .dct _ _ _ => .dict []
def T.toDs : List T → List PyData
  | [] => []
  | t :: ts => t.toD :: T.toDs ts
end
theorem P.toDs_map : ∀ ps : List P, P.toDs ps = ps.map P.toD
  | [] => rfl
  | p :: ps => by rw [P.toDs, P.toDs_map ps]; rfl
theorem T.toDs_map : ∀ ts : List T, T.toDs ts = ts.map T.toD
  | [] => rfl
  | t :: ts => by rw [T.toDs, T.toDs_map ts]; rfl
def okD (d : PyData) : Bool := d.plain && decide (d.depth ≤ 50)
def okDs (ds : List PyData) : Bool := PyData.plainAll ds && decide (PyData.depthAll ds ≤ 50)
theorem okD_plain {d : PyData} (h : okD d = true) : d.plain = true := by unfold okD at h; exact (Bool.and_eq_true_iff.mp h).1
theorem okD_depth {d : PyData} (h : okD d = true) : d.depth ≤ 50 := by unfold okD at h; exact of_decide_eq_true (Bool.and_eq_true_iff.mp h).2
theorem okDs_plain {d : List PyData} (h : okDs d = true) : PyData.plainAll d = true := by unfold okDs at h; exact (Bool.and_eq_true_iff.mp h).1
theorem okDs_depth {d : List PyData} (h : okDs d = true) : PyData.depthAll d ≤ 50 := by unfold okDs at h; exact of_decide_eq_true (Bool.and_eq_true_iff.mp h).2
section
variable {K : PySem.W.Frag} {H : Hp}
mutual
theorem repP_dp : ∀ (p : P) (v : V), RepP H p v → Dp K H v p.toD
  | .non, _, h => by have e := h; unfold RepP at e; subst e; exact .non
  | .bl b, _, h => by have e := h; unfold RepP at e; subst e; exact .bl b
  | .int b, _, h => by have e := h; unfold RepP at e; subst e; exact .int b
  | .str b, _, h => by have e := h; unfold RepP at e; subst e; exact .str b
  | .tup ps, _, h => by
    obtain ⟨a, xs, e, q, r⟩ := h
    subst e
    exact .tup (.inl (.inl q)) (repPs_dp ps xs r)
theorem repPs_dp : ∀ (ps : List P) (vs : List V), RepPs H ps vs → DpAll K H vs (P.toDs ps)
  | [], _, h => by have e := h; unfold RepPs at e; subst e; exact .nil
  | p :: ps, _, h => by
    obtain ⟨x, r, e, h1, h2⟩ := h
    subst e
    exact .cons (repP_dp p x h1) (repPs_dp ps r h2)
end
mutual
theorem vw_dp {Z : Fp} : ∀ (t : T) (v : V), t.toD.plain = true → Vw K Z H t v → Dp K H v t.toD
  | .pv p, v, _, h => repP_dp p v h
  | .tup ts, _, pl, h => by
    obtain ⟨a, xs, e, q, r⟩ := h
    subst e
    exact .tup (.inl (.inl q)) (vws_dp ts xs pl r)
  | .lst ts, _, pl, h => by
    obtain ⟨a, xs, e, q, r⟩ := h
    subst e
    exact .lst (.inl (.inl q.1)) (vws_dp ts xs pl r)
  | .fls ts, _, pl, h => by
    obtain ⟨a, xs, e, q, r⟩ := h
    subst e
    exact .lst q.sq (vws_dp ts xs pl r)
  | .dct _ _ _, _, pl, _ => by cases pl
theorem vws_dp {Z : Fp} : ∀ (ts : List T) (vs : List V), PyData.plainAll (T.toDs ts) = true → Vws K Z H ts vs → DpAll K H vs (T.toDs ts)
  | [], _, _, h => by have e := h; unfold Vws at e; subst e; exact .nil
  | p :: ps, _, pl, h => by
    obtain ⟨x, r, e, h1, h2⟩ := h
    subst e
    have pl' : (p.toD.plain && PyData.plainAll (T.toDs ps)) = true := pl
    exact .cons (vw_dp p x (Bool.and_eq_true_iff.mp pl').1 h1) (vws_dp ps r (Bool.and_eq_true_iff.mp pl').2 h2)
end
end
def itL : T → Option (List T)
  | .lst ts => some ts
  | .fls ts => some ts
  | _ => none
def itT : T → Option (List T)
  | .tup ts => some ts
  | .pv (.tup ps) => some (ps.map .pv)
  | _ => none
def pvs : List T → Option (List P)
  | [] => some []
  | .pv p :: ts => (pvs ts).map (p :: ·)
  | _ :: _ => none
theorem pvs_eq : ∀ {ts : List T} {ps : List P}, pvs ts = some ps → ts = ps.map .pv
  | [], ps, h => by cases h; rfl
  | t :: ts, ps, h => by
    cases t with
    | pv p =>
      unfold pvs at h
      cases h2 : pvs ts with
      | none => rw [h2] at h; cases h
      | some qs => rw [h2] at h; cases h; rw [pvs_eq h2]; rfl
    | _ => cases h
@[simp] theorem pvs_map : ∀ ps : List P, pvs (ps.map .pv) = some ps
  | [] => rfl
  | p :: ps => by show (pvs (ps.map .pv)).map _ = _; rw [pvs_map ps]; rfl
def mkT (ts : List T) : T := match pvs ts with
  | some ps => .pv (.tup ps)
  | none => .tup ts
section
variable {K : PySem.W.Frag} {Z : Fp} {H : Hp}
theorem pvs_vws : ∀ {ps : List P} {xs : List V}, RepPs H ps xs → Vws K Z H (ps.map .pv) xs
  | [], _, h => h
  | _ :: _, _, ⟨x, r, e, h1, h2⟩ => ⟨x, r, e, h1, pvs_vws h2⟩
theorem vws_pvs : ∀ {ps : List P} {xs : List V}, Vws K Z H (ps.map .pv) xs → RepPs H ps xs
  | [], _, h => h
  | _ :: _, _, ⟨x, r, e, h1, h2⟩ => ⟨x, r, e, h1, vws_pvs h2⟩
theorem reps_pvs : ∀ {ps : List P} {xs : List V} {A : Fp}, Reps H (ps.map .pv) xs A → RepPs H ps xs
  | [], _, _, h => h
  | _ :: _, _, _, ⟨x, r, _, _, e, h1, h2, _⟩ => ⟨x, r, e, h1, reps_pvs h2⟩
theorem pvs_reps {A : Fp} : ∀ {ps : List P} {xs : List V}, RepPs H ps xs → Reps H (ps.map .pv) xs A
  | [], _, h => h
  | _ :: _, _, ⟨x, r, e, h1, h2⟩ => ⟨x, r, emp, emp, e, h1, Reps.mono (fun _ z => z.elim) _ _ (pvs_reps (A := emp) h2), fun _ z => z.elim, fun _ z => z.elim, fun _ z => z.elim⟩
theorem vw_L {t : T} {v : V} {ts : List T} (r : Vw K Z H t v) (e : itL t = some ts) : ∃ a xs, v = .ref a ∧ SqL K H a xs ∧ Vws K Z H ts xs := by
  cases t with
  | lst us => cases e; obtain ⟨a, xs, e, q, r⟩ := r; exact ⟨a, xs, e, .inl (.inl q.1), r⟩
  | fls us => cases e; obtain ⟨a, xs, e, q, r⟩ := r; exact ⟨a, xs, e, q.sq, r⟩
  | _ => cases e
theorem vw_T {t : T} {v : V} {ts : List T} (r : Vw K Z H t v) (e : itT t = some ts) : ∃ a xs, v = .ref a ∧ H a = some (.tup xs) ∧ Vws K Z H ts xs := by
  cases t with
  | tup us => cases e; obtain ⟨a, xs, e, q, r⟩ := r; exact ⟨a, xs, e, q, r⟩
  | pv p =>
    cases p with
    | tup ps => cases e; obtain ⟨a, xs, e, q, r⟩ := r; exact ⟨a, xs, e, q, pvs_vws r⟩
    | _ => cases e
  | _ => cases e
theorem rep_mkT {ts : List T} {a : Addr} {xs : List V} {A : Fp} (h : H a = some (.tup xs)) (r : Reps H ts xs A) : Rep H (mkT ts) (.ref a) A := by
  unfold mkT
  cases e : pvs ts with
  | some ps =>
    have e2 := pvs_eq e
    subst e2
    exact ⟨a, xs, rfl, h, reps_pvs r⟩
  | none => exact ⟨a, xs, rfl, h, r⟩
theorem repPs_len : ∀ {ps : List P} {xs : List V}, RepPs H ps xs → xs.length = ps.length
  | [], _, h => by have e := h; unfold RepPs at e; subst e; rfl
  | _ :: _, _, ⟨x, r, e, h1, h2⟩ => by subst e; simp [repPs_len h2]
theorem repPs_at : ∀ {ps : List P} {xs : List V} {j : Nat} {p : P}, RepPs H ps xs → ps[j]? = some p → ∃ x, xs[j]? = some x ∧ RepP H p x
  | p :: ps, _, 0, q, ⟨x, r, e, h1, h2⟩, h => by cases h; subst e; exact ⟨x, rfl, h1⟩
  | p :: ps, _, j + 1, q, ⟨x, r, e, h1, h2⟩, h => by
    subst e
    obtain ⟨y, e1, e2⟩ := repPs_at (j := j) h2 (by simpa using h)
    exact ⟨y, by simpa using e1, e2⟩
  | [], _, _, _, _, h => by simp at h
theorem vws_at : ∀ {ts : List T} {xs : List V} {j : Nat} {t : T}, Vws K Z H ts xs → ts[j]? = some t → ∃ x, xs[j]? = some x ∧ Vw K Z H t x
  | p :: ps, _, 0, q, ⟨x, r, e, h1, h2⟩, h => by cases h; subst e; exact ⟨x, rfl, h1⟩
  | p :: ps, _, j + 1, q, ⟨x, r, e, h1, h2⟩, h => by
    subst e
    obtain ⟨y, e1, e2⟩ := vws_at (j := j) h2 (by simpa using h)
    exact ⟨y, by simpa using e1, e2⟩
  | [], _, _, _, _, h => by simp at h
theorem vws_drop : ∀ {ts : List T} {xs : List V} (j : Nat), Vws K Z H ts xs → Vws K Z H (ts.drop j) (xs.drop j)
  | _, _, 0, h => by simpa using h
  | [], _, j + 1, h => by have e := h; unfold Vws at e; subst e; simp; rfl
  | p :: ps, _, j + 1, ⟨x, r, e, h1, h2⟩ => by subst e; simpa using vws_drop j h2
theorem vws_take : ∀ {ts : List T} {xs : List V} (j : Nat), Vws K Z H ts xs → Vws K Z H (ts.take j) (xs.take j)
  | _, _, 0, h => by simp; rfl
  | [], _, j + 1, h => by have e := h; unfold Vws at e; subst e; simp; rfl
  | p :: ps, _, j + 1, ⟨x, r, e, h1, h2⟩ => by subst e; exact ⟨x, r.take j, by simp, h1, vws_take j h2⟩
theorem vws_append : ∀ {ts us : List T} {xs ys : List V}, Vws K Z H ts xs → Vws K Z H us ys → Vws K Z H (ts ++ us) (xs ++ ys)
  | [], _, _, _, h, h' => by have e := h; unfold Vws at e; subst e; exact h'
  | p :: ps, _, _, _, ⟨x, r, e, h1, h2⟩, h' => by subst e; exact ⟨x, r ++ _, rfl, h1, vws_append h2 h'⟩
end
def gEq (t u : T) : Option T := if (okD t.toD && okD u.toD) = true then some (.pv (.bl (PyData.eqv t.toD u.toD))) else none
def gNe (t u : T) : Option T := if (okD t.toD && okD u.toD) = true then some (.pv (.bl (!PyData.eqv t.toD u.toD))) else none
def rDp (K : PySem.W.Frag) (f : PyData → PyData → Bool) : R2 := fun x y H Q => ∃ d e, Dp K H x d ∧ Dp K H y e ∧ okD d = true ∧ okD e = true ∧ Q (.bl (f d e)) H
section
variable {X : Cx}
theorem o_eq (hu : X.A.units + 100 < cLine) : OpR X (compareOp .Eq) (rDp X.K PyData.eqv) := by
  intro pins s σ H x y v u Q I rx ry h
  obtain ⟨d, e, hd, he, sd, se, q⟩ := h
  obtain ⟨as, r1⟩ := Dp.reads I d x v hd rx
  obtain ⟨bs, r2⟩ := Dp.reads I e y u he ry
  have h1 := okD_depth sd
  exact SeqAt.eq_plain r1 r2 (okD_plain sd) (okD_plain se) (by have := Nat.min_le_left d.depth e.depth; omega) ⟨.bl _, H, I, rfl, q⟩
theorem o_ne (hu : X.A.units + 100 < cLine) : OpR X (compareOp .NotEq) (rDp X.K fun d e => !PyData.eqv d e) := by
  intro pins s σ H x y v u Q I rx ry h
  obtain ⟨d, e, hd, he, sd, se, q⟩ := h
  obtain ⟨as, r1⟩ := Dp.reads I d x v hd rx
  obtain ⟨bs, r2⟩ := Dp.reads I e y u he ry
  have h1 := okD_depth sd
  exact SeqAt.ne_plain r1 r2 (okD_plain sd) (okD_plain se) (by have := Nat.min_le_left d.depth e.depth; omega) ⟨.bl _, H, I, rfl, q⟩
end
section
variable {K : PySem.W.Frag}
theorem pure_ok {f : PyData → PyData → Bool} {g : T → T → Option T} (hg : ∀ t u q, g t u = some q → okD t.toD = true ∧ okD u.toD = true ∧ q = .pv (.bl (f t.toD u.toD))) : Ok2 K (rDp K f) g := by
  intro H t u v w q h1 h2 e Q n
  obtain ⟨a, b, rfl⟩ := hg t u q e
  exact ⟨_, _, vw_dp t v (okD_plain a) h1, vw_dp u w (okD_plain b) h2, a, b, n.pure (by rfl)⟩
theorem k_eq : Ok2 K (rDp K PyData.eqv) gEq := pure_ok fun t u q e => by
  unfold gEq at e
  split at e
  · rename_i h
    have h := Bool.and_eq_true_iff.mp h
    exact ⟨h.1, h.2, (Option.some.inj e).symm⟩
  · cases e
theorem k_ne : Ok2 K (rDp K fun d e => !PyData.eqv d e) gNe := pure_ok fun t u q e => by
  unfold gNe at e
  split at e
  · rename_i h
    have h := Bool.and_eq_true_iff.mp h
    exact ⟨h.1, h.2, (Option.some.inj e).symm⟩
  · cases e
end
def rLt (K : PySem.W.Frag) (f : PyData → PyData → Bool) : R2 := fun x y H Q => ∃ d e, Dp K H x d ∧ Dp K H y e ∧ okD d = true ∧ PySem.W.alike d e = true ∧ d ≠ .none ∧ Q (.bl (f d e)) H
def nonD : PyData → Bool
  | .none => true
  | _ => false
def gOrd (f : PyData → PyData → Bool) (t u : T) : Option T := if (okD t.toD && okD u.toD && PySem.W.alike t.toD u.toD && !nonD t.toD) = true then some (.pv (.bl (f t.toD u.toD))) else none
def gLt := gOrd PySem.W.dataLt
def gGt := gOrd fun d e => PySem.W.dataLt e d
def gLe := gOrd fun d e => !PySem.W.dataLt e d
def gGe := gOrd fun d e => !PySem.W.dataLt d e
section
variable {X : Cx} {K : PySem.W.Frag}
theorem o_lt (hu : X.A.units + 100 < cLine) : OpR X (compareOp .Lt) (rLt X.K PySem.W.dataLt) := by
  intro pins s σ H x y v u Q I rx ry h
  obtain ⟨d, e, hd, he, sd, al, nn, q⟩ := h
  obtain ⟨as, r1⟩ := Dp.reads I d x v hd rx
  obtain ⟨bs, r2⟩ := Dp.reads I e y u he ry
  have h1 := okD_depth sd
  exact PySem.W.lt_data r1 r2 al nn (by have := Nat.min_le_left d.depth e.depth; omega) ⟨.bl _, H, I, rfl, q⟩
theorem o_gt (hu : X.A.units + 100 < cLine) : OpR X (compareOp .Gt) (rLt X.K fun d e => PySem.W.dataLt e d) := by
  intro pins s σ H x y v u Q I rx ry h
  obtain ⟨d, e, hd, he, sd, al, nn, q⟩ := h
  obtain ⟨as, r1⟩ := Dp.reads I d x v hd rx
  obtain ⟨bs, r2⟩ := Dp.reads I e y u he ry
  have h1 := okD_depth sd
  exact PySem.W.gt_data r1 r2 al nn (by have := Nat.min_le_left d.depth e.depth; omega) ⟨.bl _, H, I, rfl, q⟩
theorem o_le (hu : X.A.units + 100 < cLine) : OpR X (compareOp .LtE) (rLt X.K fun d e => !PySem.W.dataLt e d) := by
  intro pins s σ H x y v u Q I rx ry h
  obtain ⟨d, e, hd, he, sd, al, nn, q⟩ := h
  obtain ⟨as, r1⟩ := Dp.reads I d x v hd rx
  obtain ⟨bs, r2⟩ := Dp.reads I e y u he ry
  have h1 := okD_depth sd
  exact PySem.W.le_data r1 r2 al nn (by have := Nat.min_le_left d.depth e.depth; omega) ⟨.bl _, H, I, rfl, q⟩
theorem o_ge (hu : X.A.units + 100 < cLine) : OpR X (compareOp .GtE) (rLt X.K fun d e => !PySem.W.dataLt d e) := by
  intro pins s σ H x y v u Q I rx ry h
  obtain ⟨d, e, hd, he, sd, al, nn, q⟩ := h
  obtain ⟨as, r1⟩ := Dp.reads I d x v hd rx
  obtain ⟨bs, r2⟩ := Dp.reads I e y u he ry
  have h1 := okD_depth sd
  exact PySem.W.ge_data r1 r2 al nn (by have := Nat.min_le_left d.depth e.depth; omega) ⟨.bl _, H, I, rfl, q⟩
theorem k_ord {f : PyData → PyData → Bool} : Ok2 K (rLt K f) (gOrd f) := by
  intro H t u v w q h1 h2 e Q n
  unfold gOrd at e
  split at e
  · rename_i h
    rw [Bool.and_eq_true_iff, Bool.and_eq_true_iff, Bool.and_eq_true_iff] at h
    obtain ⟨⟨⟨a, b⟩, c⟩, d⟩ := h
    cases e
    exact ⟨_, _, vw_dp t v (okD_plain a) h1, vw_dp u w (okD_plain b) h2, a, c, (fun z => by rw [z] at d; cases d), n.pure (by rfl)⟩
  · cases e
end
def gIn0 (b : Bool) (t u : T) : Option T := match itL u with
  | some us => if (okD t.toD && okDs (T.toDs us)) = true then some (.pv (.bl (b ^^ (T.toDs us).any fun y => PyData.eqv y t.toD))) else none
  | none => match itT u with
    | some us => if (okD t.toD && okDs (T.toDs us)) = true then some (.pv (.bl (b ^^ (T.toDs us).any fun y => PyData.eqv y t.toD))) else none
    | none => match u, t with
      | .dct tk ks ts, .pv p => if isKey tk p = true then some (.pv (.bl (b ^^ (idxP ks p).isSome))) else none
      | _, _ => none
def gIn := gIn0 false
def gNotIn := gIn0 true
def rIn0 (K : PySem.W.Frag) (b : Bool) : R2 := fun x y H Q => (∃ d ds a xs, y = .ref a ∧ (SqL K H a xs ∨ SqT K H a xs) ∧ DpAll K H xs ds ∧ Dp K H x d ∧ okD d = true ∧ okDs ds = true ∧ Q (.bl (b ^^ ds.any fun z => PyData.eqv z d)) H) ∨
  ∃ a o, y = .ref a ∧ DGet H a x o ∧ Q (.bl (b ^^ o.isSome)) H
theorem bxt (c : Bool) : (true ^^ c) = !c := by cases c <;> rfl
theorem bxf (c : Bool) : (false ^^ c) = c := by cases c <;> rfl
section
variable {X : Cx} {K : PySem.W.Frag}
theorem o_in (hu : X.A.units + 100 < cLine) : OpR X (compareOp .In) (rIn0 X.K false) := by
  intro pins s σ H x y v u Q I rx ry h
  rcases h with ⟨d, ds, a, xs, rfl, hs, ha, hd, sd, se, q⟩ | ⟨a, o, rfl, g, q⟩
  · rw [bxf] at q
    have h1 := okD_depth sd
    have hm : min (PyData.depthAll ds) d.depth ≤ 50 := Nat.le_trans (Nat.min_le_right _ _) h1
    obtain ⟨as, r1⟩ := Dp.reads I d x v hd rx
    rcases hs with hs | hs
    · obtain ⟨bs, r2⟩ := Dp.reads I (.list ds) (.ref a) u (.lst hs ha) ry
      exact SeqAt.in_list_data r2 r1 (okDs_plain se) (okD_plain sd) (by omega) ⟨.bl _, H, I, rfl, q⟩
    · obtain ⟨bs, r2⟩ := Dp.reads I (.tuple ds) (.ref a) u (.tup hs ha) ry
      exact SeqAt.in_tuple_data r2 r1 (okDs_plain se) (okD_plain sd) (by omega) ⟨.bl _, H, I, rfl, q⟩
  · rw [bxf] at q
    cases ry
    exact d_in (by omega) I g rx fun s' I' => ⟨.bl _, H, I', rfl, q⟩
theorem o_notIn (hu : X.A.units + 100 < cLine) : OpR X (compareOp .NotIn) (rIn0 X.K true) := by
  intro pins s σ H x y v u Q I rx ry h
  rcases h with ⟨d, ds, a, xs, rfl, hs, ha, hd, sd, se, q⟩ | ⟨a, o, rfl, g, q⟩
  · rw [bxt] at q
    have h1 := okD_depth sd
    have hm : min (PyData.depthAll ds) d.depth ≤ 50 := Nat.le_trans (Nat.min_le_right _ _) h1
    obtain ⟨as, r1⟩ := Dp.reads I d x v hd rx
    rcases hs with hs | hs
    · obtain ⟨bs, r2⟩ := Dp.reads I (.list ds) (.ref a) u (.lst hs ha) ry
      exact SeqAt.notIn_list_data r2 r1 (okDs_plain se) (okD_plain sd) (by omega) ⟨.bl _, H, I, rfl, q⟩
    · obtain ⟨bs, r2⟩ := Dp.reads I (.tuple ds) (.ref a) u (.tup hs ha) ry
      exact SeqAt.notIn_tuple_data r2 r1 (okDs_plain se) (okD_plain sd) (by omega) ⟨.bl _, H, I, rfl, q⟩
  · rw [bxt] at q
    cases ry
    exact d_notIn (by omega) I g rx fun s' I' => ⟨.bl _, H, I', rfl, q⟩
theorem k_in0 {b : Bool} : Ok2 K (rIn0 K b) (gIn0 b) := by
  intro H t u v w q h1 h2 e Q n
  unfold gIn0 at e
  cases hl : itL u with
  | some us =>
    rw [hl] at e
    dsimp only at e
    split at e
    · rename_i h
      obtain ⟨a, c⟩ := Bool.and_eq_true_iff.mp h
      cases e
      obtain ⟨p, xs, rfl, hr, hv⟩ := vw_L h2 hl
      exact .inl ⟨_, _, p, xs, rfl, .inl hr, vws_dp us xs (okDs_plain c) hv, vw_dp t v (okD_plain a) h1, a, c, n.pure (by rfl)⟩
    · cases e
  | none =>
    rw [hl] at e
    dsimp only at e
    cases ht : itT u with
    | some us =>
      rw [ht] at e
      dsimp only at e
      split at e
      · rename_i h
        obtain ⟨a, c⟩ := Bool.and_eq_true_iff.mp h
        cases e
        obtain ⟨p, xs, rfl, hr, hv⟩ := vw_T h2 ht
        exact .inl ⟨_, _, p, xs, rfl, .inr (.inl (.inl hr)), vws_dp us xs (okDs_plain c) hv, vw_dp t v (okD_plain a) h1, a, c, n.pure (by rfl)⟩
      · cases e
    | none =>
      rw [ht] at e
      dsimp only at e
      split at e
      · rename_i tk ks ts p
        split at e
        · rename_i hk
          cases e
          obtain ⟨a, xs, rfl, hd, hv⟩ := h2
          have g := dget_ok (H := H) (y := v) (p := p) (fun o r => r.elim (fun z => .inl z.1) fun ⟨ob, z⟩ => .inr ⟨ob, z⟩) hd hk h1
          refine .inr ⟨a, _, rfl, g, n.pure ?_⟩
          have hl2 : xs.length = ts.length := (Vws.len hv).symm
          have hlen : ks.length = xs.length := by
            obtain ⟨_, hd⟩ := hd
            cases tk with
            | false => obtain ⟨kv, _, e1, e2⟩ := hd; rw [e1, e2]; simp
            | true => obtain ⟨kv, _, e1, e2⟩ := hd; rw [e1, e2]; simp
          show _ = _
          congr 2
          cases hi : idxP ks p with
          | none => rfl
          | some j =>
            have := idxP_lt hi
            simp [show j < xs.length by omega]
        · cases e
      · cases e
end
end TR
namespace TR
open PySem PySem.Spec PyProof.Rows L2
def gI (f : Int → Int → Int) (c : Int → Int → Bool) (t u : T) : Option T := match t, u with
  | .pv (.int i), .pv (.int j) => if c i j = true then some (.pv (.int (f i j))) else none
  | _, _ => none
theorem k_I {K : PySem.W.Frag} {C : Int → Int → Prop} {f : Int → Int → Int} {c : Int → Int → Bool} (h : ∀ i j, c i j = true → C i j) : Ok2 K (rI C fun i j => .int (f i j)) (gI f c) := by
  intro H t u v w q h1 h2 e Q n
  unfold gI at e
  split at e
  · rename_i i j
    split at e
    · rename_i hc
      cases e
      exact ⟨i, j, h1, h2, h _ _ hc, n.pure (by rfl)⟩
    · cases e
  · cases e
theorem k_I0 {K : PySem.W.Frag} {f : Int → Int → Int} : Ok2 K (rI0 fun i j => .int (f i j)) (gI f fun _ _ => true) := by
  intro H t u v w q h1 h2 e Q n
  unfold gI at e
  split at e
  · rename_i i j
    cases e
    exact ⟨i, j, h1, h2, n.pure (by rfl)⟩
  · cases e
abbrev yes2 : Int → Int → Bool := fun _ _ => true
def gSub := gI (fun i j => i - j) yes2
def gBand := gI (fun i j => Builtin.bitAnd i j) yes2
def gBor := gI (fun i j => Builtin.bitOr i j) yes2
def gBxor := gI (fun i j => Builtin.bitXor i j) yes2
def cDiv (i j : Int) : Bool := decide (0 < j) && decide (j.natAbs.log2 < 9000)
def gDiv := gI (fun i j => i / j) cDiv
def gMod := gI (fun i j => i % j) fun _ j => decide (0 < j)
def cPow (i j : Int) : Bool := decide (0 ≤ j) && decide (j ≤ 1000000) && decide (i.natAbs < 2 ^ 64)
def gPow := gI (fun i j => i ^ j.toNat) cPow
def gShl := gI (fun i j => i * 2 ^ j.toNat) cPow
def gShr := gI (fun i j => i / 2 ^ j.toNat) fun _ j => decide (0 ≤ j)
def cMul (i j : Int) : Bool := decide (-(2 ^ 64) < i ∧ i < 2 ^ 64) || decide (-(2 ^ 64) < j ∧ j < 2 ^ 64) || decide (i.natAbs.log2 + j.natAbs.log2 < 1000000)
section
variable {X : Cx} {K : PySem.W.Frag}
theorem k_sub : Ok2 K (rI0 fun i j => .int (i - j)) gSub := k_I0
theorem k_band : Ok2 K (rI0 fun i j => .int (Builtin.bitAnd i j)) gBand := k_I0
theorem k_bor : Ok2 K (rI0 fun i j => .int (Builtin.bitOr i j)) gBor := k_I0
theorem k_bxor : Ok2 K (rI0 fun i j => .int (Builtin.bitXor i j)) gBxor := k_I0
theorem k_div : Ok2 K (rI CDivW fun i j => .int (i / j)) gDiv := k_I fun i j h => by
  unfold cDiv at h
  rw [Bool.and_eq_true_iff] at h
  exact ⟨of_decide_eq_true h.1, of_decide_eq_true h.2⟩
theorem k_mod : Ok2 K (rI (fun _ j => 0 < j) fun i j => .int (i % j)) gMod := k_I fun i j h => of_decide_eq_true h
theorem cPow_ok {i j : Int} (h : cPow i j = true) : CPow i j := by
  unfold cPow at h
  rw [Bool.and_eq_true_iff, Bool.and_eq_true_iff] at h
  exact ⟨of_decide_eq_true h.1.1, of_decide_eq_true h.1.2, of_decide_eq_true h.2⟩
theorem k_pow : Ok2 K (rI CPow fun i j => .int (i ^ j.toNat)) gPow := k_I fun i j h => cPow_ok h
theorem k_shl : Ok2 K (rI CPow fun i j => .int (i * 2 ^ j.toNat)) gShl := k_I fun i j h => cPow_ok h
theorem k_shr : Ok2 K (rI (fun _ j => 0 ≤ j) fun i j => .int (i / 2 ^ j.toNat)) gShr := k_I fun i j h => of_decide_eq_true h
def gMul (t u : T) : Option T := match t, u with
  | .pv (.int i), .pv (.int j) => if cMul i j = true then some (.pv (.int (i * j))) else none
  | .lst ts, .pv (.int k) => (pvs ts).bind fun ps => if -(2 ^ 63) ≤ k ∧ k < 2 ^ 63 ∧ ps.length * k.toNat ≤ 16777216 then some (.lst ((List.replicate k.toNat ps).flatten.map .pv)) else none
  | _, _ => none
def rMul (K : PySem.W.Frag) : R2 := fun x y H Q => (rI CMul (fun i j => .int (i * j)) x y H Q ∨ rI CMulW (fun i j => .int (i * j)) x y H Q) ∨ rRep x y H Q
theorem o_mul : OpR X (binaryOp .Mult) (rMul X.K) := (op_mul.or op_mulW).or op_rep
theorem repPs_append {H : Hp} : ∀ {ps qs : List P} {xs ys : List V}, RepPs H ps xs → RepPs H qs ys → RepPs H (ps ++ qs) (xs ++ ys)
  | [], _, _, _, h, h' => by have e := h; unfold RepPs at e; subst e; exact h'
  | p :: ps, _, _, _, ⟨x, r, e, h1, h2⟩, h' => by subst e; exact ⟨x, r ++ _, rfl, h1, repPs_append h2 h'⟩
theorem repPs_rep {H : Hp} {ps : List P} {xs : List V} (h : RepPs H ps xs) : ∀ n : Nat, RepPs H (List.replicate n ps).flatten (List.replicate n xs).flatten
  | 0 => rfl
  | n + 1 => by rw [List.replicate_succ, List.replicate_succ, List.flatten_cons, List.flatten_cons]; exact repPs_append h (repPs_rep h n)
theorem RepPs.ext {H H' : Hp} (e : Ext H H') {ps : List P} {xs : List V} (h : RepPs H ps xs) : RepPs H' ps xs := RepPs.kp (fun b _ q => e b _ q) _ _ h
theorem k_mul : Ok2 K (rMul K) gMul := by
  intro H t u v w q h1 h2 e Q n
  unfold gMul at e
  split at e
  · rename_i i j
    split at e
    · rename_i hc
      cases e
      unfold cMul at hc
      rw [Bool.or_eq_true, Bool.or_eq_true] at hc
      have fin : Q (.int (i * j)) H := n.pure (by rfl)
      rcases hc with (hc | hc) | hc
      · exact .inl (.inl ⟨i, j, h1, h2, .inl (of_decide_eq_true hc), fin⟩)
      · exact .inl (.inl ⟨i, j, h1, h2, .inr (of_decide_eq_true hc), fin⟩)
      · exact .inl (.inr ⟨i, j, h1, h2, (of_decide_eq_true hc : i.natAbs.log2 + j.natAbs.log2 < 1000000), fin⟩)
    · cases e
  · rename_i ts k
    cases hp : pvs ts with
    | none => rw [hp] at e; cases e
    | some ps =>
      rw [hp] at e
      have e : (if -(2 ^ 63) ≤ k ∧ k < 2 ^ 63 ∧ ps.length * k.toNat ≤ 16777216 then some (T.lst ((List.replicate k.toNat ps).flatten.map .pv)) else none) = some q := e
      split at e
      · rename_i hc
        cases e
        have hts := pvs_eq hp
        subst hts
        obtain ⟨a, xs, rfl, hq, hv⟩ := h1
        have hv' := vws_pvs hv
        have hl : xs.length = ps.length := repPs_len hv'
        refine .inr ⟨a, k, xs, rfl, h2, hq.1, hc.1, hc.2.1, by rw [hl, sizeLine_eq]; exact hc.2.2, fun p hp0 => n.lst hp0 ?_⟩
        exact pvs_reps ((repPs_rep hv' _).ext (Ext.new hp0))
      · cases e
  · cases e
def gAdd (t u : T) : Option T := match t, u with
  | .pv (.int i), .pv (.int j) => some (.pv (.int (i + j)))
  | .pv (.str x), .pv (.str y) => if x.length + y.length ≤ 16777216 then some (.pv (.str (x ++ y))) else none
  | .pv (.tup ps), .pv (.tup qs) => if ps.length + qs.length ≤ 16777216 then some (.pv (.tup (ps ++ qs))) else none
  | .lst ts, .lst us => (pvs ts).bind fun ps => (pvs us).bind fun qs => if ps.length + qs.length ≤ 16777216 then some (.lst ((ps ++ qs).map .pv)) else none
  | _, _ => none
def rAdd (K : PySem.W.Frag) : R2 := fun x y H Q => ((rI0 (fun i j => .int (i + j)) x y H Q ∨ ∃ i j, x = .str i ∧ y = .str j ∧ i.length + j.length ≤ sizeLine ∧ Q (.str (i ++ j)) H) ∨ rCatA K x y H Q) ∨ rCat x y H Q
theorem o_add : OpR X (binaryOp .Add) (rAdd X.K) := ((op_add.or op_add_str).or op_catA).or op_cat
theorem k_add : Ok2 K (rAdd K) gAdd := by
  intro H t u v w q h1 h2 e Q n
  unfold gAdd at e
  split at e
  · rename_i i j
    cases e
    exact .inl (.inl (.inl ⟨i, j, h1, h2, n.pure (by rfl)⟩))
  · rename_i i j
    split at e
    · rename_i hc
      cases e
      exact .inl (.inl (.inr ⟨i, j, h1, h2, by rw [sizeLine_eq]; exact hc, n.pure (by rfl)⟩))
    · cases e
  · rename_i ps qs
    split at e
    · rename_i hc
      cases e
      obtain ⟨a, xs, rfl, hq, hv⟩ := h1
      obtain ⟨b, ys, rfl, hq2, hv2⟩ := h2
      have l1 : xs.length = ps.length := repPs_len hv
      have l2 : ys.length = qs.length := repPs_len hv2
      refine .inl (.inr ⟨a, b, xs, ys, rfl, rfl, .inl (.inl hq), .inl (.inl hq2), by rw [l1, l2, sizeLine_eq]; exact hc, fun e0 => ?_, fun _ e0 => ?_, fun _ _ p hp0 => n.tup hp0 ((repPs_append hv hv2).ext (Ext.new hp0))⟩)
      · have : ps = [] := by cases ps with
          | nil => rfl
          | cons p ps => rw [e0] at l1; cases l1
        subst this
        exact n.pure ⟨b, ys, rfl, hq2, hv2⟩
      · have : qs = [] := by cases qs with
          | nil => rfl
          | cons p ps => rw [e0] at l2; cases l2
        subst this
        rw [List.append_nil] at n
        exact n.pure ⟨a, xs, rfl, hq, hv⟩
    · cases e
  · rename_i ts us
    cases hp : pvs ts with
    | none => rw [hp] at e; cases e
    | some ps =>
      cases hp2 : pvs us with
      | none => rw [hp, hp2] at e; cases e
      | some qs =>
        rw [hp, hp2] at e
        have e : (if ps.length + qs.length ≤ 16777216 then some (T.lst ((ps ++ qs).map .pv)) else none) = some q := e
        split at e
        · rename_i hc
          cases e
          have hts := pvs_eq hp
          subst hts
          have hts := pvs_eq hp2
          subst hts
          obtain ⟨a, xs, rfl, hq, hv⟩ := h1
          obtain ⟨b, ys, rfl, hq2, hv2⟩ := h2
          have hv' := vws_pvs hv
          have hv2' := vws_pvs hv2
          have l1 : xs.length = ps.length := repPs_len hv'
          have l2 : ys.length = qs.length := repPs_len hv2'
          exact .inr ⟨a, b, xs, ys, rfl, rfl, hq.1, hq2.1, by rw [l1, l2, sizeLine_eq]; exact hc, fun p hp0 => n.lst hp0 (pvs_reps ((repPs_append hv' hv2').ext (Ext.new hp0)))⟩
        · cases e
  · cases e
def gNeg : T → Option T
  | .pv (.int i) => some (.pv (.int (-i)))
  | _ => none
theorem k_neg : Ok1 K (rU fun i => .int (-i)) gNeg := by
  intro H t v q h1 e Q n
  unfold gNeg at e
  split at e
  · cases e; exact ⟨_, h1, n.pure (by rfl)⟩
  · cases e
def isNonT : T → Bool
  | .pv .non => true
  | _ => false
def gIsN (t u : T) : Option T := if isNonT u = true then some (.pv (.bl (isNonT t))) else none
def gNotN (t u : T) : Option T := if isNonT u = true then some (.pv (.bl (!isNonT t))) else none
theorem isNonT_vw {Z : Fp} {H : Hp} {t : T} {v : V} (h : Vw K Z H t v) : decide (v = .non) = isNonT t := by
  cases t with
  | pv p =>
    cases p with
    | tup ps => obtain ⟨a, xs, rfl, _⟩ := h; rfl
    | non => have e := h; unfold Vw RepP at e; subst e; rfl
    | bl b => have e := h; unfold Vw RepP at e; subst e; rfl
    | int b => have e := h; unfold Vw RepP at e; subst e; rfl
    | str b => have e := h; unfold Vw RepP at e; subst e; rfl
  | _ => obtain ⟨a, xs, rfl, _⟩ := h; rfl
theorem k_isN : Ok2 K (fun x y H Q => y = .non ∧ Q (.bl (decide (x = .non))) H) gIsN := by
  intro H t u v w q h1 h2 e Q n
  unfold gIsN at e
  split at e
  · rename_i hu
    cases e
    have h3 := isNonT_vw h2
    rw [hu] at h3
    exact ⟨of_decide_eq_true h3, by rw [isNonT_vw h1]; exact n.pure (by rfl)⟩
  · cases e
theorem k_notN : Ok2 K (fun x y H Q => y = .non ∧ Q (.bl (!decide (x = .non))) H) gNotN := by
  intro H t u v w q h1 h2 e Q n
  unfold gNotN at e
  split at e
  · rename_i hu
    cases e
    have h3 := isNonT_vw h2
    rw [hu] at h3
    exact ⟨of_decide_eq_true h3, by rw [isNonT_vw h1]; exact n.pure (by rfl)⟩
  · cases e
def gB (f : Bool → Bool → Bool) (t u : T) : Option T := match t, u with
  | .pv (.bl a), .pv (.bl b) => some (.pv (.bl (f a b)))
  | _, _ => none
theorem k_isB : Ok2 K (fun x y H Q => ∃ a b, x = .bl a ∧ y = .bl b ∧ Q (.bl (decide (a = b))) H) (gB fun a b => decide (a = b)) := by
  intro H t u v w q h1 h2 e Q n
  unfold gB at e
  split at e
  · cases e; exact ⟨_, _, h1, h2, n.pure (by rfl)⟩
  · cases e
theorem k_notB : Ok2 K (fun x y H Q => ∃ a b, x = .bl a ∧ y = .bl b ∧ Q (.bl (!decide (a = b))) H) (gB fun a b => !decide (a = b)) := by
  intro H t u v w q h1 h2 e Q n
  unfold gB at e
  split at e
  · cases e; exact ⟨_, _, h1, h2, n.pure (by rfl)⟩
  · cases e
end
def fTup (f : Env → R Unit (List T)) : Env → R Unit T := fun ρ => (f ρ).bind fun ts => if ts.length ≤ 1000 then .ok (mkT ts) else .bad
def fLst (f : Env → R Unit (List T)) : Env → R Unit T := fun ρ => (f ρ).bind fun ts => if ts.length ≤ 1000 then .ok (.lst ts) else .bad
def ownOf (ρ : Env) : List AV → Option (List T)
  | [] => some []
  | .val t :: as => (ownOf ρ as).map fun ts => t :: ts
  | .late i :: as => match (ρ[i]?).bind Sl.t? with
    | some (.pv p) => (ownOf ρ as).map fun ts => .pv p :: ts
    | _ => none
def sTup (f : Env → R Env (List AV × Env)) : Env → R Env (AV × Env) := fun ρ => (f ρ).bind fun (as, ρ1) => match ownOf ρ1 as with
  | some ts => if ts.length ≤ 1000 then .ok (.val (mkT ts), ρ1) else .bad
  | none => .bad
def sLst (f : Env → R Env (List AV × Env)) : Env → R Env (AV × Env) := fun ρ => (f ρ).bind fun (as, ρ1) => match ownOf ρ1 as with
  | some ts => if ts.length ≤ 1000 then .ok (.val (.lst ts), ρ1) else .bad
  | none => .bad
section
variable {X : Cx} {W : WX} {K : PySem.W.Frag} {mg : Str → Option Value} {es : List Expr} {pos : Pos}
theorem Reps.len {H : Hp} : ∀ {ts : List T} {xs : List V} {A : Fp}, Reps H ts xs A → xs.length = ts.length
  | [], _, _, h => by have e := h; unfold Reps at e; subst e; rfl
  | _ :: _, _, _, ⟨x, r, _, _, e, _, h2, _⟩ => by subst e; simp [Reps.len h2]
theorem Reps.ext {H H' : Hp} (e : Ext H H') {ts : List T} {xs : List V} {A : Fp} (h : Reps H ts xs A) : Reps H' ts xs A := Reps.kp (e.kp (C := A) (Z := emp)) _ _ h
theorem Rep.ext {H H' : Hp} (e : Ext H H') {t : T} {x : V} {A : Fp} (h : Rep H t x A) : Rep H' t x A := Rep.kp (e.kp (C := A) (Z := emp)) _ _ h
theorem q_tup {x1} {f : Env → R Unit (List T)} (h : JOA X W es f) : JQ X W .o (.Tuple es x1 pos) (fTup f) := peM (pe_tup h) fun σ H Q ⟨ρ, Z, A, G, q⟩ => by
  refine ⟨ρ, Z, A, G, ?_⟩
  revert q
  unfold fTup
  cases f ρ with
  | ok ts =>
    intro q vs H1 B e r fr al
    rw [R.bind_ok] at q
    by_cases hl : ts.length ≤ 1000
    · rw [if_pos hl] at q
      have l := Reps.len r
      refine ⟨by rw [l, sizeLine_eq]; omega, fun p hp => ?_⟩
      have e2 := Ext.new (o := .tup vs) hp
      exact q _ _ (e.trans e2) ⟨B, rep_mkT upd_same (r.ext e2), fr, e2.al al⟩
    · rw [if_neg hl] at q; exact q.elim
  | exc e r => exact id
  | bad => exact fun q => q.elim
theorem q_lst {f : Env → R Unit (List T)} (h : JOA X W es f) : JQ X W .o (.List es pos) (fLst f) := peM (pe_lst h) fun σ H Q ⟨ρ, Z, A, G, q⟩ => by
  refine ⟨ρ, Z, A, G, ?_⟩
  revert q
  unfold fLst
  cases f ρ with
  | ok ts =>
    intro q vs H1 B e r fr al
    rw [R.bind_ok] at q
    by_cases hl : ts.length ≤ 1000
    · rw [if_pos hl] at q
      have l := Reps.len r
      refine ⟨by rw [l, sizeLine_eq]; omega, fun p hp => ?_⟩
      have e2 := Ext.new (o := .lst vs) hp
      refine q _ _ (e.trans e2) ⟨un (fun b => b = p) B, ⟨p, vs, rfl, upd_same, .inl rfl, Reps.mono (fun b hb => ⟨.inr hb, fun z => al b hb (by rw [z]; exact hp)⟩) _ _ (r.ext e2)⟩, fun a ha => ha.elim (fun z => by rw [z]; exact e.fresh hp) (fr a), fun a ha => ha.elim (fun z => by rw [z, upd_same]; intro c; cases c) (e2.al al a)⟩
    · rw [if_neg hl] at q; exact q.elim
  | exc e r => exact id
  | bad => exact fun q => q.elim
theorem ownOf_reps {Z A : Fp} {H : Hp} {σ : Stt} {ρ : Env} (g : Good K Z H σ ρ A) : ∀ {as : List AV} {vs : List V} {B : Fp} {ts : List T}, AvReps σ H as vs B → ownOf ρ as = some ts → Reps H ts vs B
  | [], _, _, ts, .nil, e => by cases e; rfl
  | .val t :: as, _, _, ts, .cons h1 h2 s1 s2 d, e => by
    unfold ownOf at e
    cases q : ownOf ρ as with
    | none => rw [q] at e; cases e
    | some us => rw [q] at e; cases e; exact ⟨_, _, _, _, rfl, h1, ownOf_reps g h2 q, s1, s2, d⟩
  | .late i :: as, _, _, ts, .cons h1 h2 s1 s2 d, e => by
    unfold ownOf at e
    split at e
    · rename_i p hp
      cases q : ownOf ρ as with
      | none => rw [q] at e; cases e
      | some us => rw [q] at e; cases e; exact ⟨_, _, _, _, rfl, late_pure g h1 hp, ownOf_reps g h2 q, s1, s2, d⟩
    · cases e
theorem s_tup {x1} {f : Env → R Env (List AV × Env)} (h : JSA X W es f) : JS X W (.Tuple es x1 pos) (sTup f) := peM (pe_tup h) fun σ H Q ⟨ρ, Z, A, G, q⟩ => by
  refine ⟨ρ, Z, A, G, ?_⟩
  revert q
  unfold sTup
  cases f ρ with
  | ok x =>
    obtain ⟨as, ρ1⟩ := x
    intro q vs H1 A1 B G1 r d al st
    simp only [R.bind_ok] at q
    cases ho : ownOf ρ1 as with
    | none => rw [ho] at q; exact q.elim
    | some ts =>
      rw [ho] at q
      dsimp only at q
      by_cases hl : ts.length ≤ 1000
      · rw [if_pos hl] at q
        have r2 := ownOf_reps G1 r ho
        have l := Reps.len r2
        refine ⟨by rw [l, sizeLine_eq]; omega, fun p hp => ?_⟩
        have e2 := Ext.new (o := .tup vs) hp
        exact q _ _ A1 B (G1.ext e2) (rep_mkT upd_same (r2.ext e2)) d (e2.al al) (st.trans (Step.ext0 e2))
      · rw [if_neg hl] at q; exact q.elim
  | exc e r => exact id
  | bad => exact fun q => q.elim
theorem s_lst {f : Env → R Env (List AV × Env)} (h : JSA X W es f) : JS X W (.List es pos) (sLst f) := peM (pe_lst h) fun σ H Q ⟨ρ, Z, A, G, q⟩ => by
  refine ⟨ρ, Z, A, G, ?_⟩
  revert q
  unfold sLst
  cases f ρ with
  | ok x =>
    obtain ⟨as, ρ1⟩ := x
    intro q vs H1 A1 B G1 r d al st
    simp only [R.bind_ok] at q
    cases ho : ownOf ρ1 as with
    | none => rw [ho] at q; exact q.elim
    | some ts =>
      rw [ho] at q
      dsimp only at q
      by_cases hl : ts.length ≤ 1000
      · rw [if_pos hl] at q
        have r2 := ownOf_reps G1 r ho
        have l := Reps.len r2
        refine ⟨by rw [l, sizeLine_eq]; omega, fun p hp => ?_⟩
        have e2 := Ext.new (o := .lst vs) hp
        have st2 : Step H1 (un A1 B) (upd H1 p (.lst vs)) (un (un A1 B) (fun b => b = p)) := Step.ext e2 fun b hb => by rw [hb]; exact hp
        refine q _ _ A1 (un (fun b => b = p) B) (G1.ext e2) ⟨p, vs, rfl, upd_same, .inl rfl, Reps.mono (fun b hb => ⟨.inr hb, fun z => al b hb (by rw [z]; exact hp)⟩) _ _ (r2.ext e2)⟩ (fun b h1 h2 => h1.elim (fun z => G1.alA b h2 (by rw [z]; exact hp)) fun z => d b z h2) (fun a ha => ha.elim (fun z => by rw [z, upd_same]; intro c; cases c) (e2.al al a)) ((st.trans st2).mono fun b hb => ?_)
        rcases hb with hb | hb | hb
        · exact .inl (.inl hb)
        · exact .inr hb
        · exact .inl (.inr hb)
      · rw [if_neg hl] at q; exact q.elim
  | exc e r => exact id
  | bad => exact fun q => q.elim
theorem q_dnewK : JQ X W .o (.Dict [] [] pos) (fun _ => .ok (.dct false [] [])) := peM pe_dnewK fun σ H Q ⟨ρ, Z, A, G, q⟩ => fun p hp =>
  q _ _ (Ext.new hp) ⟨fun b => b = p, ⟨p, [], rfl, ⟨List.nodup_nil, [], upd_same, rfl, rfl⟩, rfl, rfl⟩, fun b hb => by rw [hb]; exact hp, fun b hb => by rw [hb, upd_same]; intro c; cases c⟩
theorem q_dnewT : JQ X W .o (.Dict [] [] pos) (fun _ => .ok (.dct true [] [])) := peM pe_dnewT fun σ H Q ⟨ρ, Z, A, G, q⟩ => fun p hp =>
  q _ _ (Ext.new hp) ⟨fun b => b = p, ⟨p, [], rfl, ⟨List.nodup_nil, [], upd_same, rfl, rfl⟩, rfl, rfl⟩, fun b hb => by rw [hb]; exact hp, fun b hb => by rw [hb, upd_same]; intro c; cases c⟩
end
end TR
namespace TR
open PySem PySem.Spec PyProof.Rows L2
def gIx : T → T → Option T
  | .lst ts, .pv (.int i) => atI ts i
  | .fls ts, .pv (.int i) => atI ts i
  | .tup ts, .pv (.int i) => atI ts i
  | .pv (.tup ps), .pv (.int i) => (atI ps i).map .pv
  | .pv (.str x), .pv (.int i) => if x.length ≤ 16777216 then (atI x.cps.toList i).map fun c => .pv (.str ⟨#[c]⟩) else none
  | .dct tk ks ts, .pv k => if isKey tk k = true then lookT ks ts k else none
  | _, _ => none
def pureO : Option T → Option T
  | some (.pv p) => some (.pv p)
  | _ => none
def gIxP (t u : T) : Option T := pureO (gIx t u)
def fIxE (fa fb : Env → R Unit T) : Env → R Unit T := fun ρ => (fa ρ).bind fun t => (fb ρ).bind fun u => R.of (gIx t u)
section
variable {X : Cx} {W : WX} {K : PySem.W.Frag} {Z : Fp} {H : Hp} {mg : Str → Option Value}
theorem atI_vws {ts : List T} {xs : List V} {i : Int} {q : T} (h : Vws K Z H ts xs) (e : atI ts i = some q) : ∃ x, atI xs i = some x ∧ Vw K Z H q x := by
  unfold atI at e ⊢
  rw [← Vws.len h]
  cases hi : ixN ts.length i with
  | none => rw [hi] at e; cases e
  | some j =>
    rw [hi] at e
    obtain ⟨x, e1, r⟩ := vws_at h e
    exact ⟨x, e1, r⟩
theorem atI_pvs {ps : List P} {i : Int} : atI (ps.map T.pv) i = (atI ps i).map .pv := by
  unfold atI
  rw [List.length_map]
  cases ixN ps.length i with
  | none => rfl
  | some j => simp
theorem ix_ok {t u q : T} {v w : V} {Z' : Fp} (h1 : Vw K Z H t v) (h2 : Vw K Z' H u w) (e : gIx t u = some q) : ∃ x, Vw K Z H q x ∧ ∀ Q : VK, Q x H → rIxAll K v w H Q := by
  unfold gIx at e
  split at e
  · rename_i ts i
    obtain ⟨a, xs, rfl, hq, hv⟩ := h1
    obtain ⟨x, e1, r⟩ := atI_vws hv e
    exact ⟨x, r, fun Q k => .inl (.inl ⟨a, xs, i, x, rfl, h2, .inl (.inl hq.1), e1, k⟩)⟩
  · rename_i ts i
    obtain ⟨a, xs, rfl, hq, hv⟩ := h1
    obtain ⟨x, e1, r⟩ := atI_vws hv e
    exact ⟨x, r, fun Q k => .inl (.inl ⟨a, xs, i, x, rfl, h2, hq.sq, e1, k⟩)⟩
  · rename_i ts i
    obtain ⟨a, xs, rfl, hq, hv⟩ := h1
    obtain ⟨x, e1, r⟩ := atI_vws hv e
    exact ⟨x, r, fun Q k => .inl (.inr (.inl ⟨a, xs, i, x, rfl, h2, .inl (.inl hq), e1, k⟩))⟩
  · rename_i ps i
    obtain ⟨a, xs, rfl, hq, hv⟩ := h1
    rw [← atI_pvs] at e
    obtain ⟨x, e1, r⟩ := atI_vws (pvs_vws hv) e
    exact ⟨x, r, fun Q k => .inl (.inr (.inl ⟨a, xs, i, x, rfl, h2, .inl (.inl hq), e1, k⟩))⟩
  · rename_i y i
    split at e
    · rename_i hl
      cases hc : atI y.cps.toList i with
      | none => rw [hc] at e; cases e
      | some c =>
        rw [hc] at e
        cases e
        exact ⟨.str ⟨#[c]⟩, rfl, fun Q k => .inl (.inr (.inr ⟨y, i, c, h1, h2, by rw [sizeLine_eq]; exact hl, hc, k⟩))⟩
    · cases e
  · rename_i tk ks ts k
    split at e
    · rename_i hk
      obtain ⟨a, xs, rfl, hd, hv⟩ := h1
      have g := dget_ok (H := H) (y := w) (p := k) (fun o r => r.elim (fun z => .inl z.1) fun ⟨ob, z⟩ => .inr ⟨ob, z⟩) hd hk h2
      unfold lookT at e
      cases hi : idxP ks k with
      | none => rw [hi] at e; cases e
      | some j =>
        rw [hi] at e g
        obtain ⟨x, e1, r⟩ := vws_at hv e
        have g' : DGet H a w (some x) := by
          have : ((some j : Option Nat).bind fun j => xs[j]?) = some x := e1
          rw [this] at g; exact g
        exact ⟨x, r, fun Q k => .inr ⟨a, x, rfl, g', k⟩⟩
    · cases e
  · cases e
theorem k_ixP : Ok2 K (rIxAll K) gIxP := by
  intro H t u v w q h1 h2 e Q n
  unfold gIxP pureO at e
  split at e
  · rename_i p hg
    cases e
    obtain ⟨x, r, k⟩ := ix_ok h1 h2 hg
    exact k Q (n.pure r)
  · cases e
variable {a b : Expr} {pos : Pos} {fa fb : Env → R Unit T} {sa sb : Env → R Env (AV × Env)}
theorem q_ixP (hu : X.A.units + 1 < cLine) (ha : JQ X W .e a fa) (hb : JQ X W .e b fb) (hs : PlainIx b := by intro _ _; rfl) : JQ X W .o (.Subscript a b pos) (f2 gIxP fa fb) := peM (pe_ix (ix_all hu) ha hb hs) fun _ _ _ q => fq2 k_ixP q
theorem s_ixP (hu : X.A.units + 1 < cLine) (ha : JS X W a sa) (hb : JS X W b sb) (hs : PlainIx b := by intro _ _; rfl) : JS X W (.Subscript a b pos) (s2 gIxP sa sb) := peM (pe_ix (ix_all hu) ha hb hs) fun _ _ _ q => fs2 k_ixP q
theorem ResM.ext_ez {m : Md} (hm : m ≠ .o) {H1 H2 : Hp} {t : T} {v : V} (e : Ext H1 H2) (h : ResM K Z H m H1 t v) : ResM K Z H m H2 t v := by
  cases m with
  | e => exact Vw.kp (e.kp (C := top)) t v h
  | z => exact Vw.kp (e.kp (C := top)) t v h
  | o => exact absurd rfl hm
theorem q_ixV {m : Md} (hu : X.A.units + 1 < cLine) (ha : JQ X W m a fa) (hb : JQ X W .e b fb) (hm : m ≠ .o) (hs : PlainIx b := by intro _ _; rfl) : JQ X W m (.Subscript a b pos) (f2 gIx fa fb) := peM (pe_ix (ix_all hu) ha hb hs) fun σ H Q ⟨ρ, Z, A, G, q⟩ => by
  refine ⟨ρ, Z, A, G, ?_⟩
  revert q
  unfold f2
  cases fa ρ with
  | ok t =>
    intro q v H1 e1 r1
    refine ⟨ρ, Z, A, G.ext e1, ?_⟩
    revert q
    rw [R.bind_ok]
    cases fb ρ with
    | ok u =>
      intro q w H2 e2 r2
      rw [R.bind_ok] at q
      cases hg : gIx t u with
      | none => rw [hg] at q; exact q.elim
      | some x =>
        rw [hg] at q
        have r1' := r1.ext_ez hm e2
        have e12 := e1.trans e2
        cases m with
        | e =>
          obtain ⟨y, r, k⟩ := ix_ok r1' r2 hg
          exact k Q (q y H2 e12 r)
        | z =>
          obtain ⟨y, r, k⟩ := ix_ok r1' r2 hg
          exact k Q (q y H2 e12 r)
        | o => exact absurd rfl hm
    | exc e x => exact fun q cls d H' e2 x => q cls d H' (e1.trans e2) x
    | bad => exact fun q => q.elim
  | exc e x => exact fun q => q
  | bad => exact fun q => q.elim
end
def cutP {α : Type} (xs : List α) (lo hi : Option Int) : List α := (xs.drop (HT.sIx xs.length 0 lo)).take (HT.sIx xs.length xs.length hi - HT.sIx xs.length 0 lo)
def gSl (t : T) (lo hi : Option Int) : Option T := match t with
  | .lst ts => (pvs ts).map fun ps => .lst ((cutP ps lo hi).map .pv)
  | .fls ts => (pvs ts).map fun ps => .lst ((cutP ps lo hi).map .pv)
  | .pv (.tup ps) => some (.pv (.tup (cutP ps lo hi)))
  | .pv (.str x) => if x.length ≤ 16777216 then some (.pv (.str (cutS x lo hi))) else none
  | _ => none
def pNone : Env → R Unit (Option Int) := fun _ => .ok none
def pSome (f : Env → R Unit T) : Env → R Unit (Option Int) := fun ρ => (f ρ).bind fun t => match t with
  | .pv (.int i) => .ok (some i)
  | _ => .bad
def fSl (f : Env → R Unit T) (l h : Env → R Unit (Option Int)) : Env → R Unit T := fun ρ => (f ρ).bind fun t => (l ρ).bind fun lo => (h ρ).bind fun hi => R.of (gSl t lo hi)
def FO (K : PySem.W.Frag) (mg : Str → Option Value) (W : WX) (f : Env → R Unit (Option Int)) : TO := fun σ H Q => ∃ ρ Z A, Good K Z H σ ρ A ∧ match f ρ with
  | .ok o => ∀ H', Ext H H' → Q o H'
  | .exc e _ => ∀ cls d H', Ext H H' → ExcRep mg H' e cls d → W cls d σ H'
  | .bad => False
def JO (X : Cx) (W : WX) (e : Option Expr) (f : Env → R Unit (Option Int)) : Prop := ∃ t, PO X e t ∧ ∀ σ H Q, FO X.K X.mg W f σ H Q → t σ H Q
def rSlAll (K : PySem.W.Frag) : V → Option Int → Option Int → Hp → VK → Prop := fun x lo hi H Q => (rSlL K x lo hi H Q ∨ rSlA K x lo hi H Q) ∨ rSlS x lo hi H Q
section
variable {X : Cx} {W : WX} {K : PySem.W.Frag} {mg : Str → Option Value}
theorem jo_none : JO X W none pNone := ⟨_, po_none, fun σ H Q ⟨ρ, Z, A, G, q⟩ => q H (Ext.refl H)⟩
theorem jo_some {e : Expr} {f : Env → R Unit T} (h : JQ X W .e e f) : JO X W (some e) (pSome f) := ⟨_, po_some h, fun σ H Q ⟨ρ, Z, A, G, q⟩ => by
  refine ⟨ρ, Z, A, G, ?_⟩
  revert q
  unfold pSome
  cases f ρ with
  | ok t =>
    intro q v H1 e r
    rw [R.bind_ok] at q
    cases t with
    | pv p =>
      cases p with
      | int i => exact ⟨_, r, q H1 e⟩
      | _ => exact q.elim
    | _ => exact q.elim
  | exc e x => exact fun q => q
  | bad => exact fun q => q.elim⟩
theorem sl_all : SlR X (rSlAll X.K) := (sl_list.or sl_tupA).or sl_str
theorem repPs_cut (K : PySem.W.Frag) {H : Hp} {ps : List P} {xs : List V} (h : RepPs H ps xs) (lo hi : Option Int) : RepPs H (cutP ps lo hi) (cutV xs lo hi) := by
  unfold cutP cutV
  rw [repPs_len h]
  have h2 : Vws K top H (ps.map .pv) xs := pvs_vws h
  have h3 := vws_take (HT.sIx ps.length ps.length hi - HT.sIx ps.length 0 lo) (vws_drop (HT.sIx ps.length 0 lo) h2)
  rw [← List.map_drop, ← List.map_take] at h3
  exact vws_pvs h3
theorem cut_whole {ps : List P} {lo hi : Option Int} (h : HT.sIx ps.length 0 lo = 0 ∧ HT.sIx ps.length ps.length hi = ps.length) : cutP ps lo hi = ps := by
  unfold cutP
  rw [h.1, h.2]
  simp
theorem k_sl {H : Hp} {t q : T} {v : V} {lo hi : Option Int} (h1 : Vw K top H t v) (e : gSl t lo hi = some q) {Q : VK} (n : NewR H q Q) : rSlAll K v lo hi H Q := by
  unfold gSl at e
  split at e
  · rename_i ts
    cases hp : pvs ts with
    | none => rw [hp] at e; cases e
    | some ps =>
      rw [hp] at e
      cases e
      have hts := pvs_eq hp
      subst hts
      obtain ⟨a, xs, rfl, hq, hv⟩ := h1
      exact .inl (.inl ⟨a, xs, rfl, .inl (.inl hq.1), fun p hp0 => n.lst hp0 (pvs_reps ((repPs_cut K (vws_pvs hv) lo hi).ext (Ext.new hp0)))⟩)
  · rename_i ts
    cases hp : pvs ts with
    | none => rw [hp] at e; cases e
    | some ps =>
      rw [hp] at e
      cases e
      have hts := pvs_eq hp
      subst hts
      obtain ⟨a, xs, rfl, hq, hv⟩ := h1
      exact .inl (.inl ⟨a, xs, rfl, hq.sq, fun p hp0 => n.lst hp0 (pvs_reps ((repPs_cut K (vws_pvs hv) lo hi).ext (Ext.new hp0)))⟩)
  · rename_i ps
    cases e
    obtain ⟨a, xs, rfl, hq, hv⟩ := h1
    have hl : xs.length = ps.length := repPs_len hv
    refine .inl (.inr ⟨a, xs, rfl, .inl (.inl hq), fun hw => ?_, fun hw p hp0 => n.tup hp0 ((repPs_cut K hv lo hi).ext (Ext.new hp0))⟩)
    rw [hl] at hw
    rw [cut_whole hw] at n
    exact n.pure ⟨a, xs, rfl, hq, hv⟩
  · rename_i x
    split at e
    · rename_i hl
      cases e
      exact .inr ⟨x, h1, by rw [sizeLine_eq]; exact hl, n.pure (by rfl)⟩
    · cases e
  · cases e
theorem q_sl {e : Expr} {lo hi : Option Expr} {pos p2 : Pos} {f : Env → R Unit T} {l h : Env → R Unit (Option Int)} (he : JQ X W .e e f) (hl : JO X W lo l) (hh : JO X W hi h) : JQ X W .o (.Subscript e (.Slice lo hi none p2) pos) (fSl f l h) := by
  obtain ⟨tl, pl, il⟩ := hl
  obtain ⟨th, ph, ih⟩ := hh
  refine peM (pe_slice sl_all he pl ph) fun σ H Q ⟨ρ, Z, A, G, q⟩ => ?_
  refine ⟨ρ, Z, A, G, ?_⟩
  revert q
  unfold fSl
  cases f ρ with
  | ok t =>
    intro q v H1 e1 r1
    refine il _ _ _ ⟨ρ, Z, A, G.ext e1, ?_⟩
    revert q
    rw [R.bind_ok]
    cases l ρ with
    | ok u =>
      intro q H2 e2
      refine ih _ _ _ ⟨ρ, Z, A, (G.ext e1).ext e2, ?_⟩
      revert q
      rw [R.bind_ok]
      cases h ρ with
      | ok w =>
        intro q H3 e3
        rw [R.bind_ok] at q
        cases hg : gSl t u w with
        | none => rw [hg] at q; exact q.elim
        | some x =>
          rw [hg] at q
          have e23 := e2.trans e3
          have e13 := e1.trans e23
          exact k_sl (Vw.kp (e23.kp (C := top)) t v r1) hg fun v' H' B e4 rep fr al => q v' H' (e13.trans e4) ⟨B, rep, fun a ha => e13.fresh (fr a ha), al⟩
      | exc e x => exact fun q cls d H' e3 x => q cls d H' (e1.trans (e2.trans e3)) x
      | bad => exact fun q => q.elim
    | exc e x => exact fun q cls d H' e2 x => q cls d H' (e1.trans e2) x
    | bad => exact fun q => q.elim
  | exc e x => exact fun q => q
  | bad => exact fun q => q.elim
end
end TR
namespace TR
open PySem PySem.Spec PyProof.Rows L2
def gLen : List T → Option T
  | [t] => match itL t with
    | some ts => some (.pv (.int ts.length))
    | none => match itT t with
      | some ts => some (.pv (.int ts.length))
      | none => match t with
        | .pv (.str x) => if x.length ≤ 16777216 then some (.pv (.int x.length)) else none
        | .dct false ks _ => some (.pv (.int ks.length))
        | _ => none
  | _ => none
def rLen (K : PySem.W.Frag) : List V → Hp → VK → Prop := fun xs H Q => (∃ x n, xs = [x] ∧ LenV K x H n ∧ Q (.int n) H) ∨ ∃ (a : Addr) (kvs : List (Key × V)), xs = [.ref a] ∧ Rd H a (.dK kvs) ∧ Q (.int kvs.length) H
section
variable {X : Cx} {W : WX} {K : PySem.W.Frag} {H : Hp} {mg : Str → Option Value}
theorem cr_len : CallR X (.builtin "len") (rLen X.K) := by
  refine call_len.or ?_
  intro pins s σ H xs us Q I r h
  obtain ⟨a, kvs, rfl, hs, q⟩ := h
  rw [Vals.ref1 r]
  exact d_len I hs fun t s' I' => ⟨.int _, H, I', ⟨_, rfl⟩, q⟩
theorem vws1 {Z : Fp} {t : T} {vs : List V} (h : Vws K Z H [t] vs) : ∃ v, vs = [v] ∧ Vw K Z H t v := by
  obtain ⟨x, r, e, h1, h2⟩ := h
  have e2 : r = [] := h2
  subst e2 e
  exact ⟨x, rfl, h1⟩
theorem vws2 {Z : Fp} {t u : T} {vs : List V} (h : Vws K Z H [t, u] vs) : ∃ v w, vs = [v, w] ∧ Vw K Z H t v ∧ Vw K Z H u w := by
  obtain ⟨x, r, e, h1, h2⟩ := h
  obtain ⟨y, rfl, h3⟩ := vws1 h2
  exact ⟨x, y, e, h1, h3⟩
theorem k_len : OkN K (rLen K) gLen := by
  intro H ts vs q h e Q n
  unfold gLen at e
  split at e
  · rename_i t
    obtain ⟨v, rfl, h1⟩ := vws1 h
    split at e
    · rename_i us hl
      cases e
      obtain ⟨a, xs, rfl, hr, hv⟩ := vw_L h1 hl
      exact .inl ⟨_, _, rfl, .inl ⟨xs, hr, rfl⟩, by rw [← Vws.len hv]; exact n.pure (by rfl)⟩
    · split at e
      · rename_i us hl
        cases e
        obtain ⟨a, xs, rfl, hr, hv⟩ := vw_T h1 hl
        exact .inl ⟨_, _, rfl, .inr ⟨xs, .inl (.inl hr), rfl⟩, by rw [← Vws.len hv]; exact n.pure (by rfl)⟩
      · split at e
        · rename_i x _ _
          split at e
          · rename_i hl
            cases e
            have e2 : v = .str x := h1
            subst e2
            exact .inl ⟨_, x.length, rfl, ⟨by rw [sizeLine_eq]; exact hl, rfl⟩, n.pure (by rfl)⟩
          · cases e
        · rename_i ks us _ _
          cases e
          obtain ⟨a, xs, rfl, ⟨_, kv, hd, e1, e2⟩, hv⟩ := h1
          refine .inr ⟨a, kv, rfl, hd.elim (fun z => .inl z.1) fun ⟨o, z⟩ => .inr ⟨o, z⟩, ?_⟩
          have : kv.length = ks.length := by rw [e1]; simp
          rw [this]
          exact n.pure (by rfl)
        · cases e
  · cases e
def gAbs : List T → Option T
  | [.pv (.int i)] => some (.pv (.int (if i < 0 then -i else i)))
  | _ => none
theorem k_abs : OkN K (fun xs H Q => ∃ i, xs = [.int i] ∧ Q (.int (if i < 0 then -i else i)) H) gAbs := by
  intro H ts vs q h e Q n
  unfold gAbs at e
  split at e
  · cases e
    obtain ⟨v, rfl, h1⟩ := vws1 h
    have e2 : v = .int _ := h1
    subst e2
    exact ⟨_, rfl, n.pure (by rfl)⟩
  · cases e
def gInt : List T → Option T
  | [.pv (.int i)] => some (.pv (.int i))
  | [.pv (.bl b)] => some (.pv (.int (if b then 1 else 0)))
  | [.pv (.str x)] => if x.length ≤ 640 then (PySem.intText? x).map fun n => .pv (.int n) else none
  | _ => none
theorem cr_int : CallR X (.type "int") (fun xs H Q => ((∃ i, xs = [.int i] ∧ Q (.int i) H) ∨ ∃ k, xs = [.bl k] ∧ Q (.int (if k then 1 else 0)) H) ∨ ∃ a n, xs = [.str a] ∧ PySem.intText? a = some n ∧ a.length ≤ 640 ∧ Q (.int n) H) := call_int1.or call_int_str
theorem k_int : OkN K (fun xs H Q => ((∃ i, xs = [.int i] ∧ Q (.int i) H) ∨ ∃ k, xs = [.bl k] ∧ Q (.int (if k then 1 else 0)) H) ∨ ∃ a n, xs = [.str a] ∧ PySem.intText? a = some n ∧ a.length ≤ 640 ∧ Q (.int n) H) gInt := by
  intro H ts vs q h e Q n
  unfold gInt at e
  split at e
  · cases e
    obtain ⟨v, rfl, h1⟩ := vws1 h
    have e2 : v = .int _ := h1
    subst e2
    exact .inl (.inl ⟨_, rfl, n.pure (by rfl)⟩)
  · cases e
    obtain ⟨v, rfl, h1⟩ := vws1 h
    have e2 : v = .bl _ := h1
    subst e2
    exact .inl (.inr ⟨_, rfl, n.pure (by rfl)⟩)
  · split at e
    · rename_i x hl
      cases hi : PySem.intText? x with
      | none => rw [hi] at e; cases e
      | some k =>
        rw [hi] at e
        cases e
        obtain ⟨v, rfl, h1⟩ := vws1 h
        have e2 : v = .str _ := h1
        subst e2
        exact .inr ⟨_, k, rfl, hi, hl, n.pure (by rfl)⟩
    · cases e
  · cases e
def gStr : List T → Option T
  | [.pv (.int i)] => if i.natAbs.log2 < 1920 then some (.pv (.str (toString i))) else none
  | _ => none
theorem k_str : OkN K (fun xs H Q => ∃ i, xs = [.int i] ∧ i.natAbs.log2 < 1920 ∧ Q (.str (toString i)) H) gStr := by
  intro H ts vs q h e Q n
  unfold gStr at e
  split at e
  · split at e
    · rename_i hl
      cases e
      obtain ⟨v, rfl, h1⟩ := vws1 h
      have e2 : v = .int _ := h1
      subst e2
      exact ⟨_, rfl, hl, n.pure (by rfl)⟩
    · cases e
  · cases e
def gMax2 : List T → Option T
  | [.pv (.int i), .pv (.int j)] => some (.pv (.int (if j > i then j else i)))
  | _ => none
theorem k_max2 : OkN K (fun xs H Q => ∃ i j, xs = [.int i, .int j] ∧ Q (.int (if j > i then j else i)) H) gMax2 := by
  intro H ts vs q h e Q n
  unfold gMax2 at e
  split at e
  · cases e
    obtain ⟨v, w, rfl, h1, h2⟩ := vws2 h
    have e2 : v = .int _ := h1
    have e3 : w = .int _ := h2
    subst e2 e3
    exact ⟨_, _, rfl, n.pure (by rfl)⟩
  · cases e
def gMin2 : List T → Option T
  | [.pv (.int i), .pv (.int j)] => some (.pv (.int (if j < i then j else i)))
  | _ => none
theorem k_min2 : OkN K (fun xs H Q => ∃ i j, xs = [.int i, .int j] ∧ Q (.int (if j < i then j else i)) H) gMin2 := by
  intro H ts vs q h e Q n
  unfold gMin2 at e
  split at e
  · cases e
    obtain ⟨v, w, rfl, h1, h2⟩ := vws2 h
    have e2 : v = .int _ := h1
    have e3 : w = .int _ := h2
    subst e2 e3
    exact ⟨_, _, rfl, n.pure (by rfl)⟩
  · cases e
def intsP : List P → Option (List Int)
  | [] => some []
  | .int i :: ps => (intsP ps).map (i :: ·)
  | _ :: _ => none
theorem intsP_eq : ∀ {ps : List P} {is : List Int}, intsP ps = some is → ps = is.map .int
  | [], is, h => by cases h; rfl
  | p :: ps, is, h => by
    cases p with
    | int i =>
      unfold intsP at h
      cases h2 : intsP ps with
      | none => rw [h2] at h; cases h
      | some js => rw [h2] at h; cases h; rw [intsP_eq h2]; rfl
    | _ => cases h
@[simp] theorem intsP_map : ∀ is : List Int, intsP (is.map .int) = some is
  | [] => rfl
  | i :: is => by show (intsP (is.map .int)).map _ = _; rw [intsP_map is]; rfl
def blsP : List P → Option (List Bool)
  | [] => some []
  | .bl i :: ps => (blsP ps).map (i :: ·)
  | _ :: _ => none
theorem blsP_eq : ∀ {ps : List P} {is : List Bool}, blsP ps = some is → ps = is.map .bl
  | [], is, h => by cases h; rfl
  | p :: ps, is, h => by
    cases p with
    | bl i =>
      unfold blsP at h
      cases h2 : blsP ps with
      | none => rw [h2] at h; cases h
      | some js => rw [h2] at h; cases h; rw [blsP_eq h2]; rfl
    | _ => cases h
@[simp] theorem blsP_map : ∀ is : List Bool, blsP (is.map .bl) = some is
  | [] => rfl
  | i :: is => by show (blsP (is.map .bl)).map _ = _; rw [blsP_map is]; rfl
theorem repPs_ints : ∀ {is : List Int} {xs : List V}, RepPs H (is.map .int) xs → xs = is.map V.int
  | [], _, h => h
  | i :: is, _, ⟨x, r, e, h1, h2⟩ => by
    have e1 : x = .int i := h1
    subst e e1
    rw [repPs_ints h2]; rfl
theorem repPs_bls : ∀ {is : List Bool} {xs : List V}, RepPs H (is.map .bl) xs → xs = is.map V.bl
  | [], _, h => h
  | i :: is, _, ⟨x, r, e, h1, h2⟩ => by
    have e1 : x = .bl i := h1
    subst e e1
    rw [repPs_bls h2]; rfl
def pItL (t : T) : Option (List P) := (itL t).bind pvs
theorem vw_pItL {Z : Fp} {t : T} {v : V} {ps : List P} (h : Vw K Z H t v) (e : pItL t = some ps) : ∃ a xs, v = .ref a ∧ SqL K H a xs ∧ RepPs H ps xs := by
  unfold pItL at e
  cases hl : itL t with
  | none => rw [hl] at e; cases e
  | some ts =>
    rw [hl] at e
    obtain ⟨a, xs, rfl, hr, hv⟩ := vw_L h hl
    have e' : pvs ts = some ps := e
    have e2 := pvs_eq e'
    subst e2
    exact ⟨a, xs, rfl, hr, vws_pvs hv⟩
def gSum : List T → Option T
  | [t] => ((pItL t).bind intsP).map fun is => .pv (.int is.sum)
  | _ => none
theorem k_sum : OkN K (rSum K) gSum := by
  intro H ts vs q h e Q n
  unfold gSum at e
  split at e
  · rename_i t
    obtain ⟨v, rfl, h1⟩ := vws1 h
    cases hp : pItL t with
    | none => rw [hp] at e; cases e
    | some ps =>
      cases hi : intsP ps with
      | none => rw [hp] at e; simp only [Option.bind_some, hi] at e; cases e
      | some is =>
        rw [hp] at e
        simp only [Option.bind_some, hi] at e
        cases e
        obtain ⟨a, xs, rfl, hr, hv⟩ := vw_pItL h1 hp
        rw [intsP_eq hi] at hv
        have e2 := repPs_ints hv
        subst e2
        exact ⟨a, is, rfl, hr, n.pure (by rfl)⟩
  · cases e
def gAll : List T → Option T
  | [t] => ((pItL t).bind blsP).map fun is => .pv (.bl (is.all id))
  | _ => none
def gLstV : List T → Option T
  | [t] => match pItL t with
    | some ps => some (.lst (ps.map .pv))
    | none => match t with
      | .pv (.tup ps) => some (.lst (ps.map .pv))
      | _ => none
  | _ => none
theorem k_lstV : OkN K (fun xs H Q => ∃ p ys, xs = [.ref p] ∧ (SqL K H p ys ∨ SqT K H p ys) ∧ ∀ l, H l = none → Q (.ref l) (upd H l (.lst ys))) gLstV := by
  intro H ts vs q h e Q n
  unfold gLstV at e
  split at e
  · rename_i t
    obtain ⟨v, rfl, h1⟩ := vws1 h
    split at e
    · rename_i ps hp
      cases e
      obtain ⟨a, xs, rfl, hr, hv⟩ := vw_pItL h1 hp
      exact ⟨a, xs, rfl, .inl hr, fun p hp0 => n.lst hp0 (pvs_reps (hv.ext (Ext.new hp0)))⟩
    · split at e
      · cases e
        obtain ⟨a, xs, rfl, hq, hv⟩ := h1
        exact ⟨a, xs, rfl, .inr (.inl (.inl hq)), fun p hp0 => n.lst hp0 (pvs_reps (hv.ext (Ext.new hp0)))⟩
      · cases e
  · cases e
def gTupV : List T → Option T
  | [t] => match pItL t with
    | some ps => some (.pv (.tup ps))
    | none => match t with
      | .pv (.tup ps) => some (.pv (.tup ps))
      | _ => none
  | _ => none
theorem k_tupV : OkN K (fun xs H Q => ∃ p ys, xs = [.ref p] ∧ ((SqL K H p ys ∧ ∀ l, H l = none → Q (.ref l) (upd H l (.tup ys))) ∨ (SqT K H p ys ∧ Q (.ref p) H))) gTupV := by
  intro H ts vs q h e Q n
  unfold gTupV at e
  split at e
  · rename_i t
    obtain ⟨v, rfl, h1⟩ := vws1 h
    split at e
    · rename_i ps hp
      cases e
      obtain ⟨a, xs, rfl, hr, hv⟩ := vw_pItL h1 hp
      exact ⟨a, xs, rfl, .inl ⟨hr, fun p hp0 => n.tup hp0 (hv.ext (Ext.new hp0))⟩⟩
    · split at e
      · cases e
        obtain ⟨a, xs, rfl, hq, hv⟩ := h1
        exact ⟨a, xs, rfl, .inr ⟨.inl (.inl hq), n.pure ⟨a, xs, rfl, hq, hv⟩⟩⟩
      · cases e
  · cases e
def rgP (a b : Int) : List P := (List.range (b - a).toNat).map fun (i : Nat) => P.int (a + i)
def rgOkB (a b : Int) : Bool := decide (-1000000 ≤ a) && decide (a ≤ 16000000) && decide (-1000000 ≤ b) && decide (b ≤ 16000000) && decide (b - a ≤ 16000000)
theorem rgOkB_ok {a b : Int} (h : rgOkB a b = true) : RgOk a b := by
  unfold rgOkB at h
  simp only [Bool.and_eq_true, decide_eq_true_eq] at h
  obtain ⟨⟨⟨⟨h1, h2⟩, h3⟩, h4⟩, h5⟩ := h
  refine ⟨?_, ?_, ?_, ?_, ?_⟩ <;> omega
theorem repPs_rg {a b : Int} : RepPs H (rgP a b) (rgV a b) := by
  unfold rgP rgV
  generalize (b - a).toNat = m
  have : ∀ l : List Nat, RepPs H (l.map fun (i : Nat) => P.int (a + i)) (l.map fun (i : Nat) => V.int (a + (i : Nat))) := by
    intro l
    induction l with
    | nil => rfl
    | cons i l ih => exact ⟨_, _, rfl, rfl, ih⟩
  exact this _
def lstRg1 (f : Env → R Unit T) : Env → R Unit T := fun ρ => (f ρ).bind fun t => match t with
  | .pv (.int n) => if rgOkB 0 n = true then .ok (.lst ((rgP 0 n).map .pv)) else .bad
  | _ => .bad
def lstRg2 (f g : Env → R Unit T) : Env → R Unit T := fun ρ => (f ρ).bind fun t => (g ρ).bind fun u => match t, u with
  | .pv (.int a), .pv (.int n) => if rgOkB a n = true then .ok (.lst ((rgP a n).map .pv)) else .bad
  | _, _ => .bad
def tupRg1 (f : Env → R Unit T) : Env → R Unit T := fun ρ => (f ρ).bind fun t => match t with
  | .pv (.int n) => if rgOkB 0 n = true then .ok (.pv (.tup (rgP 0 n))) else .bad
  | _ => .bad
def tupRg2 (f g : Env → R Unit T) : Env → R Unit T := fun ρ => (f ρ).bind fun t => (g ρ).bind fun u => match t, u with
  | .pv (.int a), .pv (.int n) => if rgOkB a n = true then .ok (.pv (.tup (rgP a n))) else .bad
  | _, _ => .bad
variable {a b : Expr} {p pos : Pos} {f g : Env → R Unit T}
theorem fq_rg1 {t : Env → R Unit T} {ok : Int → T} (ht : t = fun ρ => (f ρ).bind fun t => match t with
    | .pv (.int n) => if rgOkB 0 n = true then .ok (ok n) else .bad
    | _ => .bad) {σ : Stt} {Q : VK} (h : FQ K mg W .o t σ H Q) {S : Int → Int → Hp → Prop} (hS : ∀ n H1, Ext H H1 → RgOk 0 n → NewR H1 (ok n) Q → S 0 n H1) : tRg1 (FQ K mg W .e f) σ H S := by
  subst ht
  obtain ⟨ρ, Z, A, G, q⟩ := h
  refine ⟨ρ, Z, A, G, ?_⟩
  revert q
  dsimp only
  cases f ρ with
  | ok t =>
    intro q v H1 e r
    rw [R.bind_ok] at q
    cases t with
    | pv p =>
      cases p with
      | int i =>
        dsimp only at q
        by_cases hk : rgOkB 0 i = true
        · rw [if_pos hk] at q
          exact ⟨i, r, hS i H1 e (rgOkB_ok hk) fun v' H' B e3 rep fr al => q v' H' (e.trans e3) ⟨B, rep, fun a ha => e.fresh (fr a ha), al⟩⟩
        · rw [if_neg hk] at q; exact q.elim
      | _ => exact q.elim
    | _ => exact q.elim
  | exc e x => exact fun q => q
  | bad => exact fun q => q.elim
theorem fq_rg2 {t : Env → R Unit T} {ok : Int → Int → T} (ht : t = fun ρ => (f ρ).bind fun t => (g ρ).bind fun u => match t, u with
    | .pv (.int a), .pv (.int n) => if rgOkB a n = true then .ok (ok a n) else .bad
    | _, _ => .bad) {σ : Stt} {Q : VK} (h : FQ K mg W .o t σ H Q) {S : Int → Int → Hp → Prop} (hS : ∀ a n H1, Ext H H1 → RgOk a n → NewR H1 (ok a n) Q → S a n H1) : tRg2 (FQ K mg W .e f) (FQ K mg W .e g) σ H S := by
  subst ht
  obtain ⟨ρ, Z, A, G, q⟩ := h
  refine ⟨ρ, Z, A, G, ?_⟩
  revert q
  dsimp only
  cases f ρ with
  | ok t =>
    intro q v H1 e r
    refine ⟨ρ, Z, A, G.ext e, ?_⟩
    revert q
    rw [R.bind_ok]
    cases g ρ with
    | ok u =>
      intro q w H2 e2 r2
      rw [R.bind_ok] at q
      cases t with
      | pv p =>
        cases p with
        | int i =>
          cases u with
          | pv p2 =>
            cases p2 with
            | int j =>
              dsimp only at q
              by_cases hk : rgOkB i j = true
              · rw [if_pos hk] at q
                have e12 := e.trans e2
                exact ⟨i, j, r, r2, hS i j H2 e12 (rgOkB_ok hk) fun v' H' B e3 rep fr al => q v' H' (e12.trans e3) ⟨B, rep, fun a ha => e12.fresh (fr a ha), al⟩⟩
              · rw [if_neg hk] at q; exact q.elim
            | _ => exact q.elim
          | _ => exact q.elim
        | _ => exact q.elim
      | _ => exact q.elim
    | exc e3 x => exact fun q cls d H' e2 x => q cls d H' (e.trans e2) x
    | bad => exact fun q => q.elim
  | exc e x => exact fun q => q
  | bad => exact fun q => q.elim
theorem q_lstRg1 {p2 pos2 : Pos} (hc : X.calm = true) (hg : Gl X "list") (hm : X.mg "list" = none) (hg2 : Gl X "range") (hm2 : X.mg "range" = none) (ha : JQ X W .e a f) (na : starEach [a] X.env = (false, eval a X.env) :: starEach [] X.env := by rfl)
    (nb : starEach [Expr.Call (.Name "range" p2) [a] [] pos2] X.env = (false, eval (Expr.Call (.Name "range" p2) [a] [] pos2) X.env) :: starEach [] X.env := by rfl) : JQ X W .o (.Call (.Name "list" p) [.Call (.Name "range" p2) [a] [] pos2] [] pos) (lstRg1 f) :=
  peM (pe_listRg hc hg hm (prg_1 hg2 hm2 ha na) nb) fun σ H Q q => fq_rg1 (ok := fun n => .lst ((rgP 0 n).map .pv)) rfl q fun n H1 e ok nr => ⟨ok, fun p hp => nr.lst hp (pvs_reps repPs_rg)⟩
theorem q_lstRg2 {p2 pos2 : Pos} (hc : X.calm = true) (hg : Gl X "list") (hm : X.mg "list" = none) (hg2 : Gl X "range") (hm2 : X.mg "range" = none) (ha : JQ X W .e a f) (hb : JQ X W .e b g) (na : starEach [a, b] X.env = (false, eval a X.env) :: starEach [b] X.env := by rfl)
    (nb : starEach [b] X.env = (false, eval b X.env) :: starEach [] X.env := by rfl) (hp : (backTo pos2 (starEach [b] X.env)).any (·.1) = false := by rfl)
    (nc : starEach [Expr.Call (.Name "range" p2) [a, b] [] pos2] X.env = (false, eval (Expr.Call (.Name "range" p2) [a, b] [] pos2) X.env) :: starEach [] X.env := by rfl) : JQ X W .o (.Call (.Name "list" p) [.Call (.Name "range" p2) [a, b] [] pos2] [] pos) (lstRg2 f g) :=
  peM (pe_listRg hc hg hm (prg_2 hg2 hm2 ha hb na nb hp) nc) fun σ H Q q => fq_rg2 (ok := fun a n => .lst ((rgP a n).map .pv)) rfl q fun a n H1 e ok nr => ⟨ok, fun p hp => nr.lst hp (pvs_reps repPs_rg)⟩
theorem q_tupRg1 {p2 pos2 : Pos} (hc : X.calm = true) (hg : Gl X "tuple") (hm : X.mg "tuple" = none) (hg2 : Gl X "range") (hm2 : X.mg "range" = none) (ha : JQ X W .e a f) (na : starEach [a] X.env = (false, eval a X.env) :: starEach [] X.env := by rfl)
    (nb : starEach [Expr.Call (.Name "range" p2) [a] [] pos2] X.env = (false, eval (Expr.Call (.Name "range" p2) [a] [] pos2) X.env) :: starEach [] X.env := by rfl) : JQ X W .o (.Call (.Name "tuple" p) [.Call (.Name "range" p2) [a] [] pos2] [] pos) (tupRg1 f) :=
  peM (pe_tupRg hc hg hm (prg_1 hg2 hm2 ha na) nb) fun σ H Q q => fq_rg1 (ok := fun n => .pv (.tup (rgP 0 n))) rfl q fun n H1 e ok nr => ⟨ok, fun p hp => nr.tup hp repPs_rg⟩
theorem q_tupRg2 {p2 pos2 : Pos} (hc : X.calm = true) (hg : Gl X "tuple") (hm : X.mg "tuple" = none) (hg2 : Gl X "range") (hm2 : X.mg "range" = none) (ha : JQ X W .e a f) (hb : JQ X W .e b g) (na : starEach [a, b] X.env = (false, eval a X.env) :: starEach [b] X.env := by rfl)
    (nb : starEach [b] X.env = (false, eval b X.env) :: starEach [] X.env := by rfl) (hp : (backTo pos2 (starEach [b] X.env)).any (·.1) = false := by rfl)
    (nc : starEach [Expr.Call (.Name "range" p2) [a, b] [] pos2] X.env = (false, eval (Expr.Call (.Name "range" p2) [a, b] [] pos2) X.env) :: starEach [] X.env := by rfl) : JQ X W .o (.Call (.Name "tuple" p) [.Call (.Name "range" p2) [a, b] [] pos2] [] pos) (tupRg2 f g) :=
  peM (pe_tupRg hc hg hm (prg_2 hg2 hm2 ha hb na nb hp) nc) fun σ H Q q => fq_rg2 (ok := fun a n => .pv (.tup (rgP a n))) rfl q fun a n H1 e ok nr => ⟨ok, fun p hp => nr.tup hp repPs_rg⟩
end
end TR
namespace TR
open PySem PySem.Spec PyProof.Rows L2
def sortP (ps : List P) : List P := ps.mergeSort (PySem.W.dataLe false P.toD)
def alikeB (ds : List PyData) : Bool := ds.all fun d => ds.all fun e => PySem.W.alike d e
def tupNE : PyData → Bool
  | .tuple (_ :: _) => true
  | _ => false
def plainNT : PyData → Bool
  | .tuple _ => false
  | .none => false
  | _ => true
def sortB (ds : List PyData) : Bool := alikeB ds && (ds.all tupNE || ds.all plainNT) && ds.all fun d => decide (d.depth ≤ 50)
def gSorted : List T → Option T
  | [t] => (pItL t).bind fun ps => if sortB (ps.map P.toD) = true then some (.lst ((sortP ps).map .pv)) else none
  | _ => none
def rSortP (K : PySem.W.Frag) : List V → Hp → VK → Prop := fun vs H Q => ∃ (a : Addr) (xs : List V) (ps : List P), vs = [.ref a] ∧ SqL K H a xs ∧ RepPs H ps xs ∧ sortB (ps.map P.toD) = true ∧
  ∀ xs' p, RepPs H (sortP ps) xs' → H p = none → Q (.ref p) (upd H p (.lst xs'))
theorem alikeB_ok {ds : List PyData} (h : alikeB ds = true) : PySem.W.AllAlike ds := fun d hd e he => List.all_eq_true.mp (List.all_eq_true.mp h d hd) e he
theorem sortB_ok {ds : List PyData} (h : sortB ds = true) : PySem.W.AllAlike ds ∧ PySem.W.Sortable ds ∧ ∀ d ∈ ds, d.depth ≤ 50 := by
  unfold sortB at h
  rw [Bool.and_eq_true, Bool.and_eq_true, Bool.or_eq_true] at h
  obtain ⟨⟨h1, h2⟩, h3⟩ := h
  refine ⟨alikeB_ok h1, ?_, fun d hd => of_decide_eq_true (List.all_eq_true.mp h3 d hd)⟩
  rcases h2 with h2 | h2
  · refine .inl fun d hd => ?_
    have := List.all_eq_true.mp h2 d hd
    unfold tupNE at this
    split at this
    · exact ⟨_, _, rfl⟩
    · cases this
  · refine .inr fun d hd => ?_
    have := List.all_eq_true.mp h2 d hd
    unfold plainNT at this
    split at this
    · cases this
    · cases this
    · rename_i h4 h5
      exact ⟨h5, h4⟩
section
variable {X : Cx} {W : WX} {K : PySem.W.Frag} {H : Hp} {mg : Str → Option Value}
theorem each_of {s : Shared} {pins : List (Addr × Obj)} {σ : Stt} (I : L2.Inv X pins σ H s) : ∀ {ps : List P} {xs : List V} {us : List Value}, RepPs H ps xs → Vals xs us →
    PySem.W.EachIs (fun v p => ∃ x, RelV x v ∧ RepP H p x) us ps ∧ PySem.W.EachIs (fun v p => ∃ as, Reads s.heap v (P.toD p) as) us ps
  | [], _, _, h, r => by
    have e := h; unfold RepPs at e; subst e
    cases r
    exact ⟨.nil, .nil⟩
  | p :: ps, _, _, ⟨x, r0, e, h1, h2⟩, r => by
    subst e
    cases r with
    | cons r1 r2 =>
      obtain ⟨a, b⟩ := each_of I h2 r2
      exact ⟨.cons ⟨x, r1, h1⟩ a, .cons (Dp.reads I _ _ _ (repP_dp (K := X.K) p x h1) r1) b⟩
theorem each_back : ∀ {ps : List P} {us : List Value}, PySem.W.EachIs (fun v p => ∃ x, RelV x v ∧ RepP H p x) us ps → ∃ xs, Vals xs us ∧ RepPs H ps xs
  | _, _, .nil => ⟨[], .nil, rfl⟩
  | _, _, .cons ⟨x, r, h⟩ t => by
    obtain ⟨xs, v, q⟩ := each_back t
    exact ⟨x :: xs, .cons r v, x, xs, rfl, h, q⟩
theorem cr_sortedP (hu : X.A.units + 100 < cLine) : CallR X (.builtin "sorted") (rSortP X.K) := by
  intro pins s σ H vs us Q I r h
  obtain ⟨a, xs, ps, rfl, hs, hr, hb, q⟩ := h
  obtain ⟨its, rv, hl, hz⟩ := I.list hs
  rw [Vals.ref1 r]
  obtain ⟨ea, eb⟩ := each_of I hr rv
  obtain ⟨s1, s2, s3⟩ := sortB_ok hb
  have hlp : ps.length ≤ sizeLine := by rw [← repPs_len hr]; exact hz
  refine PySem.W.sorted_data hl.isList ea eb s1 s2 hlp (fun b hb2 => ?_) fun out ho he => ?_
  · have := s3 _ (List.mem_map.mpr ⟨b, hb2, rfl⟩)
    omega
  · obtain ⟨xs', rv', hr'⟩ := each_back he
    obtain ⟨ep, he'⟩ := PyProof.Rows.sortedAll_at s.heap its out.toArray
    have hlen : xs'.length ≤ sizeLine := by rw [rv'.length, ho]; exact hlp
    exact ⟨.ref _, upd H (s.heap.objs.size + 1) (.lst xs'), I.laid (t' := s.toks) (fun _ _ => PyProof.Rows.sortedAll_old) (Nat.le_succ _) ⟨hlen, out, ep, rv', he'⟩, rfl, q _ _ hr' (I.hok.fresh (Nat.le_succ _))⟩
theorem k_sorted : OkN K (rSortP K) gSorted := by
  intro H ts vs q h e Q n
  unfold gSorted at e
  split at e
  · rename_i t
    obtain ⟨v, rfl, h1⟩ := vws1 h
    cases hp : pItL t with
    | none => rw [hp] at e; cases e
    | some ps =>
      rw [hp] at e
      have e : (if sortB (ps.map P.toD) = true then some (T.lst ((sortP ps).map .pv)) else none) = some q := e
      split at e
      · rename_i hb
        cases e
        obtain ⟨a, xs, rfl, hr, hv⟩ := vw_pItL h1 hp
        exact ⟨a, xs, ps, rfl, hr, hv, hb, fun xs' p hr' hp0 => n.lst hp0 (pvs_reps (hr'.ext (Ext.new hp0)))⟩
      · cases e
  · cases e
mutual
theorem P.toD_inj : ∀ {p q : P}, p.toD = q.toD → p = q
  | .non, .non, _ => rfl
  | .bl a, .bl b, h => by simp only [P.toD] at h; injection h with h; rw [h]
  | .int a, .int b, h => by simp only [P.toD] at h; injection h with h; rw [h]
  | .str a, .str b, h => by simp only [P.toD] at h; injection h with h; rw [h]
  | .tup a, .tup b, h => by simp only [P.toD] at h; injection h with h; rw [P.toDs_inj h]
  | .non, .bl _, h => by simp only [P.toD] at h; cases h
  | .non, .int _, h => by simp only [P.toD] at h; cases h
  | .non, .str _, h => by simp only [P.toD] at h; cases h
  | .non, .tup _, h => by simp only [P.toD] at h; cases h
  | .bl _, .non, h => by simp only [P.toD] at h; cases h
  | .bl _, .int _, h => by simp only [P.toD] at h; cases h
  | .bl _, .str _, h => by simp only [P.toD] at h; cases h
  | .bl _, .tup _, h => by simp only [P.toD] at h; cases h
  | .int _, .non, h => by simp only [P.toD] at h; cases h
  | .int _, .bl _, h => by simp only [P.toD] at h; cases h
  | .int _, .str _, h => by simp only [P.toD] at h; cases h
  | .int _, .tup _, h => by simp only [P.toD] at h; cases h
  | .str _, .non, h => by simp only [P.toD] at h; cases h
  | .str _, .bl _, h => by simp only [P.toD] at h; cases h
  | .str _, .int _, h => by simp only [P.toD] at h; cases h
  | .str _, .tup _, h => by simp only [P.toD] at h; cases h
  | .tup _, .non, h => by simp only [P.toD] at h; cases h
  | .tup _, .bl _, h => by simp only [P.toD] at h; cases h
  | .tup _, .int _, h => by simp only [P.toD] at h; cases h
  | .tup _, .str _, h => by simp only [P.toD] at h; cases h
theorem P.toDs_inj : ∀ {p q : List P}, P.toDs p = P.toDs q → p = q
  | [], [], _ => rfl
  | [], _ :: _, h => by simp only [P.toDs] at h; cases h
  | _ :: _, [], h => by simp only [P.toDs] at h; cases h
  | p :: ps, q :: qs, h => by simp only [P.toDs] at h; injection h with h1 h2; rw [P.toD_inj h1, P.toDs_inj h2]
end
mutual
theorem P.toD_plain : ∀ p : P, p.toD.plain = true
  | .non => rfl
  | .bl _ => rfl
  | .int _ => rfl
  | .str _ => rfl
  | .tup ps => P.toDs_plain ps
theorem P.toDs_plain : ∀ ps : List P, PyData.plainAll (P.toDs ps) = true
  | [] => rfl
  | p :: ps => by show (p.toD.plain && PyData.plainAll (P.toDs ps)) = true; rw [P.toD_plain p, P.toDs_plain ps]; rfl
end
def minP (p : P) (ps : List P) : P := ps.foldl (fun a y => if PySem.W.dataLt y.toD a.toD = true then y else a) p
def maxP (p : P) (ps : List P) : P := ps.foldl (fun a y => if PySem.W.dataLt a.toD y.toD = true then y else a) p
theorem minP_toD : ∀ (ps : List P) (p : P), PySem.W.minD p.toD (ps.map P.toD) = (minP p ps).toD
  | [], _ => rfl
  | q :: ps, p => by
    show PySem.W.minD (if PySem.W.dataLt q.toD p.toD = true then q.toD else p.toD) (ps.map P.toD) = (minP (if PySem.W.dataLt q.toD p.toD = true then q else p) ps).toD
    rw [← minP_toD ps]
    split <;> rfl
theorem maxP_toD : ∀ (ps : List P) (p : P), PySem.W.maxD p.toD (ps.map P.toD) = (maxP p ps).toD
  | [], _ => rfl
  | q :: ps, p => by
    show PySem.W.maxD (if PySem.W.dataLt p.toD q.toD = true then q.toD else p.toD) (ps.map P.toD) = (maxP (if PySem.W.dataLt p.toD q.toD = true then q else p) ps).toD
    rw [← maxP_toD ps]
    split <;> rfl
def minB (ds : List PyData) : Bool := alikeB ds && ds.all (fun d => !nonD d) && decide (PyData.depthAll ds ≤ 50)
def gMinMax (f : P → List P → P) : List T → Option T
  | [t] => match pItL t with
    | some (p :: ps) => if minB (P.toDs (p :: ps)) = true then some (.pv (f p ps)) else none
    | _ => none
  | _ => none
def gMin := gMinMax minP
def gMax := gMinMax maxP
def rMinMax (K : PySem.W.Frag) (f : P → List P → P) : List V → Hp → VK → Prop := fun vs H Q => ∃ (a : Addr) (xs : List V) (p : P) (ps : List P), vs = [.ref a] ∧ SqL K H a xs ∧ RepPs H (p :: ps) xs ∧ minB (P.toDs (p :: ps)) = true ∧ ∀ x, RepP H (f p ps) x → Q x H
theorem item_of {s : Shared} {pins : List (Addr × Obj)} {σ : Stt} (I : L2.Inv X pins σ H s) {h' : Heap} (hk : ∀ b o, s.heap.get? b = some o → h'.get? b = some o) : ∀ {ps : List P} {xs : List V} {us : List Value} {i : Nat} {v : Value} {m : P} {bs : List Addr}, RepPs H ps xs → Vals xs us → us[i]? = some v → Reads h' v m.toD bs → ∃ x, RelV x v ∧ RepP H m x
  | [], _, _, _, _, _, _, h, r, hv, _ => by
    have e := h; unfold RepPs at e; subst e
    cases r
    simp at hv
  | p :: ps, _, _, i, v, m, bs, ⟨x, r0, e, h1, h2⟩, r, hv, rd => by
    subst e
    cases r with
    | cons r1 r2 =>
      cases i with
      | zero =>
        cases hv
        obtain ⟨as, ra⟩ := Dp.reads I _ _ _ (repP_dp (K := X.K) p x h1) r1
        have := SeqAt.plain_unique _ _ _ _ _ (P.toD_plain p) (PyProof.Rows.Reads.keeps hk ra) rd
        rw [← P.toD_inj this]
        exact ⟨x, r1, h1⟩
      | succ i => exact item_of I hk h2 r2 (by simpa using hv) rd
theorem minB_ok {ds : List PyData} (h : minB ds = true) : PySem.W.AlikeAll ds ∧ PyData.depthAll ds ≤ 50 := by
  unfold minB at h
  rw [Bool.and_eq_true, Bool.and_eq_true] at h
  refine ⟨⟨alikeB_ok h.1.1, fun x hx e => ?_⟩, of_decide_eq_true h.2⟩
  have := List.all_eq_true.mp h.1.2 x hx
  rw [e] at this
  cases this
theorem cr_minP (hc : X.calm = true) (hu : X.A.units + 100 < cLine) : CallR X (.builtin "min") (rMinMax X.K minP) := by
  intro pins s σ H vs us Q I r h
  obtain ⟨a, xs, p, ps, rfl, hs, hr, hb, q⟩ := h
  obtain ⟨its, rv, hl, hz⟩ := I.list hs
  rw [Vals.ref1 r]
  obtain ⟨al, dp⟩ := minB_ok hb
  obtain ⟨as, ra⟩ := Dp.readsAll I _ xs its (repPs_dp (K := X.K) (p :: ps) xs hr) rv
  refine PySem.W.min_list_data (I.ok.hd hc) hl.isList (show ReadsAll s.heap its.toArray.toList (p.toD :: P.toDs ps) as from ra) al (by have : PyData.depthAll (p.toD :: P.toDs ps) ≤ 50 := dp; omega) fun i v h' tk bs hi rd hk => ?_
  rw [P.toDs_map, minP_toD] at rd
  obtain ⟨x, rx, rp⟩ := item_of I hk hr rv (by simpa using hi) rd
  exact ⟨x, H, I.kept hk, rx, q x rp⟩
theorem cr_maxP (hc : X.calm = true) (hu : X.A.units + 100 < cLine) : CallR X (.builtin "max") (rMinMax X.K maxP) := by
  intro pins s σ H vs us Q I r h
  obtain ⟨a, xs, p, ps, rfl, hs, hr, hb, q⟩ := h
  obtain ⟨its, rv, hl, hz⟩ := I.list hs
  rw [Vals.ref1 r]
  obtain ⟨al, dp⟩ := minB_ok hb
  obtain ⟨as, ra⟩ := Dp.readsAll I _ xs its (repPs_dp (K := X.K) (p :: ps) xs hr) rv
  refine PySem.W.max_list_data (I.ok.hd hc) hl.isList (show ReadsAll s.heap its.toArray.toList (p.toD :: P.toDs ps) as from ra) al (by have : PyData.depthAll (p.toD :: P.toDs ps) ≤ 50 := dp; omega) fun i v h' tk bs hi rd hk => ?_
  rw [P.toDs_map, maxP_toD] at rd
  obtain ⟨x, rx, rp⟩ := item_of I hk hr rv (by simpa using hi) rd
  exact ⟨x, H, I.kept hk, rx, q x rp⟩
theorem k_minmax {f : P → List P → P} : OkN K (rMinMax K f) (gMinMax f) := by
  intro H ts vs q h e Q n
  unfold gMinMax at e
  split at e
  · rename_i t
    obtain ⟨v, rfl, h1⟩ := vws1 h
    split at e
    · rename_i p ps hp
      split at e
      · rename_i hb
        cases e
        obtain ⟨a, xs, rfl, hr, hv⟩ := vw_pItL h1 hp
        exact ⟨a, xs, p, ps, rfl, hr, hv, hb, fun x r => n.pure r⟩
      · cases e
    · cases e
  · cases e
theorem k_all : OkN K (rAll K) gAll := by
  intro H ts vs q h e Q n
  unfold gAll at e
  split at e
  · rename_i t
    obtain ⟨v, rfl, h1⟩ := vws1 h
    cases hp : pItL t with
    | none => rw [hp] at e; cases e
    | some ps =>
      cases hi : blsP ps with
      | none => rw [hp] at e; simp only [Option.bind_some, hi] at e; cases e
      | some is =>
        rw [hp] at e
        simp only [Option.bind_some, hi] at e
        cases e
        obtain ⟨a, xs, rfl, hr, hv⟩ := vw_pItL h1 hp
        rw [blsP_eq hi] at hv
        have e2 := repPs_bls hv
        subst e2
        exact ⟨a, is, rfl, hr, n.pure (by rfl)⟩
  · cases e
def OkC (K : PySem.W.Frag) (r : List V → Hp → VK → Prop) (g : T → Option T) : Prop := ∀ H t v A q, Rep H t v A → Al H A → g t = some q → ∀ Q : VK, (∀ v' H' B, Ext H H' → Rep H' q v' B → (∀ b, B b → A b ∨ H b = none) → Al H' B → Q v' H') → r [v] H Q
theorem fq_take {r : List V → Hp → VK → Prop} {g : T → Option T} (hr : OkC K r g) {fa : Env → R Unit T} {σ : Stt} {H : Hp} {Q : VK} (h : FQ K mg W .o (f1 g fa) σ H Q) : tCB r (tCons (FQ K mg W .o fa) tNil) σ H Q := by
  obtain ⟨ρ, Z, A, G, q⟩ := h
  refine ⟨ρ, Z, A, G, ?_⟩
  revert q
  unfold f1
  cases fa ρ with
  | ok t =>
    intro q v H1 e1 ⟨B, rb, fr, al⟩
    rw [R.bind_ok] at q
    cases hg : g t with
    | none => rw [hg] at q; exact q.elim
    | some x =>
      rw [hg] at q
      exact hr H1 t v B x rb al hg Q fun v' H' B' e3 rep sub al' => q v' H' (e1.trans e3) ⟨B', rep, fun a ha => (sub a ha).elim (fr a) fun z => e1.fresh z, al'⟩
  | exc e x => exact fun q => q
  | bad => exact fun q => q.elim
def s1c (g : T → Option T) (fa : Env → R Env (AV × Env)) : Env → R Env (AV × Env) := fun ρ => (fa ρ).bind fun (x, ρ1) => match ownOf ρ1 [x] with
  | some [t] => (match g t with
    | some q => .ok (.val q, ρ1)
    | none => .bad)
  | _ => .bad
theorem fs_take {r : List V → Hp → VK → Prop} {g : T → Option T} (hr : OkC K r g) {fa : Env → R Env (AV × Env)} {σ : Stt} {H : Hp} {Q : VK} (h : FS K mg W (s1c g fa) σ H Q) : tCB r (tCons (FS K mg W fa) tNil) σ H Q := by
  obtain ⟨ρ, Z, A, G, q⟩ := h
  refine ⟨ρ, Z, A, G, ?_⟩
  revert q
  unfold s1c
  cases fa ρ with
  | ok x =>
    obtain ⟨a, ρ1⟩ := x
    intro q v H1 A1 B1 G1 r1 d1 al1 st1
    simp only [R.bind_ok] at q
    cases ho : ownOf ρ1 [a] with
    | none => rw [ho] at q; exact q.elim
    | some ts =>
      have rr := ownOf_reps G1 (AvReps.cons r1 .nil (fun _ h => h) (fun b (h : emp b) => h.elim) fun _ _ (z : emp _) => z.elim) ho
      rw [ho] at q
      match ts, rr, q with
      | [], _, q => exact q.elim
      | [t], ⟨x, r0, B2, C2, e, h1, h2, s1, s2, d⟩, q =>
        have e2 : r0 = [] := h2
        subst e2
        cases e
        dsimp only at q
        cases hg : g t with
        | none => rw [hg] at q; exact q.elim
        | some y =>
          rw [hg] at q
          refine hr H1 t _ B1 y (Rep.mono s1 _ _ h1) al1 hg Q fun v' H' B' e3 rep sub al' => q v' H' A1 B' (G1.ext e3) rep (fun b hb ha => (sub b hb).elim (fun z => d1 b z ha) fun z => G1.alA b ha z) al' ?_
          refine (st1.trans (Step.ext (A := un A1 B1) (B := fun b => B' b ∧ H1 b = none) e3 fun b hb => hb.2)).mono fun b hb => ?_
          rcases hb with hb | hb
          · exact .inl (.inl hb)
          · rcases sub b hb with z | z
            · exact .inl (.inr z)
            · exact .inr ⟨hb, z⟩
      | _ :: _ :: _, _, q => exact q.elim
  | exc e x => exact fun q => q
  | bad => exact fun q => q.elim
variable {a : Expr} {p pos : Pos} {f : Env → R Unit T} {sf : Env → R Env (AV × Env)} {rn : List V → Hp → VK → Prop} {g : T → Option T} {x : Str} {id : String}
theorem q_callTyO {Ty : String} (hc : CallR X (.type Ty) rn) (hr : OkC X.K rn g) (hg : Gl X x) (hm : X.mg x = none) (hv : bootBuiltins x = some (.type Ty)) (ha : JQ X W .o a f) (hn : x ≠ "__name__" := by decide) (hdb : (x == ("__debug__" : Str)) = false := by decide)
    (he : starEach [a] X.env = (false, eval a X.env) :: starEach [] X.env := by rfl) (hpl : (backTo pos (starEach [] X.env)).any (·.1) = false := by rfl) : JQ X W .o (.Call (.Name x p) [a] [] pos) (f1 g f) :=
  peM (pe_callTy hc hg hm hv (pa_cons ha pa_nil he) hn hdb he hpl) fun _ _ _ q => fq_take hr q
theorem s_callTyO {Ty : String} (hc : CallR X (.type Ty) rn) (hr : OkC X.K rn g) (hg : Gl X x) (hm : X.mg x = none) (hv : bootBuiltins x = some (.type Ty)) (ha : JS X W a sf) (hn : x ≠ "__name__" := by decide) (hdb : (x == ("__debug__" : Str)) = false := by decide)
    (he : starEach [a] X.env = (false, eval a X.env) :: starEach [] X.env := by rfl) (hpl : (backTo pos (starEach [] X.env)).any (·.1) = false := by rfl) : JS X W (.Call (.Name x p) [a] [] pos) (s1c g sf) :=
  peM (pe_callTy hc hg hm hv (pa_cons ha pa_nil he) hn hdb he hpl) fun _ _ _ q => fs_take hr q
def gTupO : T → Option T
  | .lst ts => some (mkT ts)
  | .pv (.tup ps) => some (.pv (.tup ps))
  | .tup ts => some (.tup ts)
  | _ => none
theorem k_tupO : OkC K (fun xs H Q => ∃ p ys, xs = [.ref p] ∧ ((SqL K H p ys ∧ ∀ l, H l = none → Q (.ref l) (upd H l (.tup ys))) ∨ (SqT K H p ys ∧ Q (.ref p) H))) gTupO := by
  intro H t v A q r al e Q n
  unfold gTupO at e
  split at e
  · rename_i ts
    cases e
    obtain ⟨a, xs, rfl, hq, m, hv⟩ := r
    exact ⟨a, xs, rfl, .inl ⟨.inl (.inl hq), fun p hp0 => n _ _ A (Ext.new hp0) (rep_mkT upd_same (Reps.mono (fun b hb => hb.1) _ _ (hv.ext (Ext.new hp0)))) (fun b hb => .inl hb) ((Ext.new hp0).al al)⟩⟩
  · cases e
    obtain ⟨a, xs, rfl, hq, hv⟩ := r
    exact ⟨a, xs, rfl, .inr ⟨.inl (.inl hq), n _ _ A (Ext.refl H) ⟨a, xs, rfl, hq, hv⟩ (fun b hb => .inl hb) al⟩⟩
  · cases e
    obtain ⟨a, xs, rfl, hq, hv⟩ := r
    exact ⟨a, xs, rfl, .inr ⟨.inl (.inl hq), n _ _ A (Ext.refl H) ⟨a, xs, rfl, hq, hv⟩ (fun b hb => .inl hb) al⟩⟩
  · cases e
def gLstO : T → Option T
  | .lst ts => some (.lst ts)
  | .pv (.tup ps) => some (.lst (ps.map .pv))
  | .tup ts => some (.lst ts)
  | _ => none
theorem rep_lst_new {ts : List T} {p : Addr} {xs : List V} {A : Fp} (hp : H p = none) (al : Al H A) (r : Reps H ts xs A) : Rep (upd H p (.lst xs)) (.lst ts) (.ref p) (un (fun b => b = p) A) :=
  ⟨p, xs, rfl, upd_same, .inl rfl, Reps.mono (fun b hb => ⟨.inr hb, fun z => al b hb (by rw [z]; exact hp)⟩) _ _ (r.ext (Ext.new hp))⟩
theorem k_lstO : OkC K (fun xs H Q => ∃ p ys, xs = [.ref p] ∧ (SqL K H p ys ∨ SqT K H p ys) ∧ ∀ l, H l = none → Q (.ref l) (upd H l (.lst ys))) gLstO := by
  intro H t v A q r al e Q n
  have fin : ∀ {ts : List T} {xs : List V}, Reps H ts xs A → q = .lst ts → ∀ p, H p = none → Q (.ref p) (upd H p (.lst xs)) := fun hv e p hp0 => by
    subst e
    exact n _ _ _ (Ext.new hp0) (rep_lst_new hp0 al hv) (fun b hb => hb.elim (fun z => .inr (by rw [z]; exact hp0)) .inl) fun b hb => hb.elim (fun z => by rw [z, upd_same]; intro c; cases c) ((Ext.new hp0).al al b)
  unfold gLstO at e
  split at e
  · cases e
    obtain ⟨a, xs, rfl, hq, m, hv⟩ := r
    exact ⟨a, xs, rfl, .inl (.inl (.inl hq)), fin (Reps.mono (fun b hb => hb.1) _ _ hv) rfl⟩
  · cases e
    obtain ⟨a, xs, rfl, hq, hv⟩ := r
    exact ⟨a, xs, rfl, .inr (.inl (.inl hq)), fin (pvs_reps hv) rfl⟩
  · cases e
    obtain ⟨a, xs, rfl, hq, hv⟩ := r
    exact ⟨a, xs, rfl, .inr (.inl (.inl hq)), fin hv rfl⟩
  · cases e
def pairT : T → Option (P × T)
  | .pv (.tup [k, v]) => if (keyOf k).isSome = true then some (k, .pv v) else none
  | .tup [.pv k, v] => if (keyOf k).isSome = true then some (k, v) else none
  | _ => none
def pairsT : List T → Option (List P × List T)
  | [] => some ([], [])
  | t :: ts => (pairT t).bind fun kv => (pairsT ts).map fun r => (kv.1 :: r.1, kv.2 :: r.2)
def nodupB : List P → Bool
  | [] => true
  | p :: ps => !(idxP ps p).isSome && nodupB ps
theorem nodupB_iff : ∀ {ps : List P}, nodupB ps = true ↔ ps.Nodup
  | [] => by simp [nodupB]
  | p :: ps => by
    unfold nodupB
    rw [Bool.and_eq_true, List.nodup_cons, nodupB_iff]
    cases h : idxP ps p with
    | none => simp [idxP_none.mp h]
    | some j =>
      have := idxP_some h
      simp [List.mem_of_getElem? this]
def gDictO : T → Option T
  | .lst ts => (pairsT ts).bind fun r => if nodupB r.1 = true then some (.dct false r.1 r.2) else none
  | _ => none
theorem pair_ok {t : T} {v : V} {A : Fp} {k : P} {u : T} (r : Rep H t v A) (e : pairT t = some (k, u)) : ∃ p k' w, v = .ref p ∧ k = keyP k' ∧ H p = some (.tup [kV k', w]) ∧ Rep H u w A := by
  unfold pairT at e
  split at e
  · rename_i k0 v0
    split at e
    · rename_i hk
      cases e
      obtain ⟨a, xs, rfl, hq, x, r1, e1, h1, y, r2, e2, h2, e3⟩ := r
      subst e1 e2
      have e3' : r2 = [] := e3
      subst e3'
      obtain ⟨k', hk'⟩ := Option.isSome_iff_exists.mp hk
      have ek := keyOf_eq hk'
      subst ek
      rw [repP_key h1] at hq
      exact ⟨a, k', y, rfl, rfl, hq, h2⟩
    · cases e
  · rename_i k0 v0
    split at e
    · rename_i hk
      cases e
      obtain ⟨a, xs, rfl, hq, x, r1, B, C, e1, h1, h2, s1, s2, d⟩ := r
      obtain ⟨y, r2, B2, C2, e2, h3, h4, s3, s4, d2⟩ := h2
      subst e1 e2
      have e3' : r2 = [] := h4
      subst e3'
      obtain ⟨k', hk'⟩ := Option.isSome_iff_exists.mp hk
      have ek := keyOf_eq hk'
      subst ek
      have h1' : RepP H (keyP k') x := h1
      rw [repP_key h1'] at hq
      exact ⟨a, k', y, rfl, rfl, hq, Rep.mono (fun b hb => s2 b (s3 b hb)) _ _ h3⟩
    · cases e
  · cases e
theorem pairs_ok : ∀ {ts : List T} {xs : List V} {A : Fp} {ks : List P} {us : List T}, Reps H ts xs A → pairsT ts = some (ks, us) →
    ∃ (ps : List Addr) (kvs : List (Key × V)), xs = ps.map V.ref ∧ Paired (fun p kv => SqT K H p [kV kv.1, kv.2]) ps kvs ∧ ks = kvs.map (fun e => keyP e.1) ∧ Reps H us (kvs.map (·.2)) A
  | [], _, _, _, _, h, e => by
    have e1 := h; unfold Reps at e1; subst e1
    cases e
    exact ⟨[], [], rfl, .nil, rfl, rfl⟩
  | t :: ts, _, A, _, _, ⟨x, r, B, C, e0, h1, h2, s1, s2, d⟩, e => by
    subst e0
    unfold pairsT at e
    cases hp : pairT t with
    | none => rw [hp] at e; cases e
    | some kv =>
      obtain ⟨k, u⟩ := kv
      cases hp2 : pairsT ts with
      | none => rw [hp, hp2] at e; cases e
      | some rr =>
        obtain ⟨ks', us'⟩ := rr
        rw [hp, hp2] at e
        cases e
        obtain ⟨p, k', w, rfl, rfl, hq, hw⟩ := pair_ok h1 hp
        obtain ⟨ps, kvs, rfl, pr, rfl, rr⟩ := pairs_ok h2 hp2
        exact ⟨p :: ps, (k', w) :: kvs, rfl, .cons (.inl (.inl hq)) pr, rfl, w, _, B, C, rfl, hw, rr, s1, s2, d⟩
theorem merge_nodup : ∀ (more kvs : List (Key × V)), (kvs ++ more).map (fun e => keyP e.1) |>.Nodup → mergeK kvs more = kvs ++ more
  | [], kvs, _ => by simp [mergeK]
  | e :: more, kvs, h => by
    have hn : idxP (kvs.map fun e => keyP e.1) (keyP e.1) = none := idxP_none.mpr fun hm => by
      rw [List.map_append, List.map_cons] at h
      exact (List.nodup_append.mp h).2.2 _ hm _ List.mem_cons_self rfl
    have e1 : putK kvs e.1 e.2 = kvs ++ [e] := by rw [putK_new' (f := keyP) (fun _ _ => keyP_inj) e.1 e.2 hn]
    show mergeK (putK kvs e.1 e.2) more = _
    rw [e1, merge_nodup more (kvs ++ [e]) (by simpa using h)]
    simp
theorem k_dictO : OkC K (fun xs H Q => ∃ (a : Addr) (ps : List Addr) (kvs : List (Key × V)), xs = [.ref a] ∧ SqL K H a (ps.map V.ref) ∧ Paired (fun p kv => SqT K H p [kV kv.1, kv.2]) ps kvs ∧
    ∀ p, H p = none → Q (.ref p) (upd H p (.dK (mergeK [] kvs)))) gDictO := by
  intro H t v A q r al e Q n
  unfold gDictO at e
  split at e
  · rename_i ts
    cases hp : pairsT ts with
    | none => rw [hp] at e; cases e
    | some rr =>
      obtain ⟨ks, us⟩ := rr
      rw [hp] at e
      have e : (if nodupB ks = true then some (T.dct false ks us) else none) = some q := e
      split at e
      · rename_i hn
        cases e
        obtain ⟨a, xs, rfl, hq, m, hv⟩ := r
        obtain ⟨ps, kvs, rfl, pr, rfl, hus⟩ := pairs_ok (K := K) hv hp
        have nd := nodupB_iff.mp hn
        refine ⟨a, ps, kvs, rfl, .inl (.inl hq), pr, fun p hp0 => ?_⟩
        rw [merge_nodup kvs [] (by simpa using nd)]
        have e2 := Ext.new (o := .dK ([] ++ kvs)) hp0
        refine n _ _ (un (fun b => b = p) A) e2 ⟨p, _, rfl, ⟨nd, kvs, upd_same, rfl, rfl⟩, .inl rfl, Reps.mono (fun b hb => ⟨.inr hb.1, fun z => al b hb.1 (by rw [z]; exact hp0)⟩) _ _ (hus.ext e2)⟩ (fun b hb => hb.elim (fun z => .inr (by rw [z]; exact hp0)) .inl) fun b hb => hb.elim (fun z => by rw [z, upd_same]; intro c; cases c) (e2.al al b)
      · cases e
  · cases e
def gDictV : List T → Option T
  | [.dct false ks ts] => (pvs ts).map fun ps => .dct false ks (ps.map .pv)
  | _ => none
theorem k_dictV : OkN K (fun xs H Q => ∃ (a : Addr) (kvs : List (Key × V)), xs = [.ref a] ∧ Rd H a (.dK kvs) ∧ ∀ p, H p = none → Q (.ref p) (upd H p (.dK kvs))) gDictV := by
  intro H ts vs q h e Q n
  unfold gDictV at e
  split at e
  · rename_i ks us
    obtain ⟨v, rfl, h1⟩ := vws1 h
    cases hp : pvs us with
    | none => rw [hp] at e; cases e
    | some ps =>
      rw [hp] at e
      cases e
      have e2 := pvs_eq hp
      subst e2
      obtain ⟨a, xs, rfl, ⟨nd, kv, hd, e1, e2⟩, hv⟩ := h1
      refine ⟨a, kv, rfl, hd.elim (fun z => .inl z.1) fun ⟨o, z⟩ => .inr ⟨o, z⟩, fun p hp0 => ?_⟩
      have e3 := Ext.new (o := .dK kv) hp0
      exact n _ _ (fun b => b = p) e3 ⟨p, xs, rfl, ⟨nd, kv, upd_same, e1, e2⟩, rfl, pvs_reps ((vws_pvs hv).ext e3)⟩ (fun b hb => by rw [hb]; exact hp0) fun b hb => by rw [hb, upd_same]; intro c; cases c
  · cases e
end
end TR
namespace TR
open PySem PySem.Spec PyProof.Rows L2
section
variable {X : Cx} {W : WX} {K : PySem.W.Frag} {H : Hp} {mg : Str → Option Value} {kp : Nat → Bool}
def isiT (a n : String) : Option Bool := if (Value.type a == Value.type n) = true then some true else if PySem.W.kitMeta n = true then (fastBuiltinMro a).map (fun x => x.contains (.type n)) else none
theorem isiT_ok {a n : String} {b : Bool} (h : isiT a n = some b) : PySem.W.kitOne K (.type a) (.type n) = some b := h
def tyN : T → String
  | .pv .non => "NoneType"
  | .pv (.bl _) => "bool"
  | .pv (.int _) => "int"
  | .pv (.str _) => "str"
  | .pv (.tup _) => "tuple"
  | .tup _ => "tuple"
  | .lst _ => "list"
  | .fls _ => "list"
  | .dct _ _ _ => "dict"
def frozenT : T → Bool
  | .dct true _ _ => true
  | _ => false
theorem tyX_of {Z : Fp} {t : T} {v : V} (h : Vw K Z H t v) (hf : frozenT t = false) : TyX K H v (.type (tyN t)) := by
  cases t with
  | pv p =>
    cases p with
    | non => have e := h; unfold Vw RepP at e; subst e; exact .base .non
    | bl b => have e := h; unfold Vw RepP at e; subst e; exact .base (.bl b)
    | int b => have e := h; unfold Vw RepP at e; subst e; exact .base (.int b)
    | str b => have e := h; unfold Vw RepP at e; subst e; exact .base (.str b)
    | tup ps => obtain ⟨a, xs, rfl, q, _⟩ := h; exact .base (.tup q)
  | tup ts => obtain ⟨a, xs, rfl, q, _⟩ := h; exact .base (.tup q)
  | lst ts => obtain ⟨a, xs, rfl, q, _⟩ := h; exact .base (.lst q.1)
  | fls ts =>
    obtain ⟨a, xs, rfl, q, _⟩ := h
    rcases q with ⟨o, q⟩ | ⟨o, its, n, q1, q2, _⟩
    · exact .base (.frz q)
    · exact .kList q1 q2
  | dct tk ks ts =>
    cases tk with
    | true => cases hf
    | false =>
      obtain ⟨a, xs, rfl, ⟨_, kv, q, _⟩, _⟩ := h
      rcases q with q | ⟨o, q⟩
      · exact .base (.dK q.1)
      · exact .fDict q
def fIsi (n : String) (f : Env → R Unit T) : Env → R Unit T := fun ρ => (f ρ).bind fun t => if frozenT t = false then (match isiT (tyN t) n with
  | some b => .ok (.pv (.bl b))
  | none => .bad) else .bad
def sIsi (n : String) (f : Env → R Env (AV × Env)) : Env → R Env (AV × Env) := fun ρ => (f ρ).bind fun (a, ρ1) => match a.see ρ1 with
  | some t => if frozenT t = false then (match isiT (tyN t) n with
    | some b => .ok (.val (.pv (.bl b)), ρ1)
    | none => .bad) else .bad
  | none => .bad
theorem pe_tyname {n : String} {x : Str} {pos : Pos} (hg : Gl X x) (hm : X.mg x = none) (hv : bootBuiltins x = some (.type n)) (hn : x ≠ "__name__" := by decide) (hdb : (x == ("__debug__" : Str)) = false := by decide) : PE X (.Name x pos) (tC (.ty n)) :=
  ⟨fun pins s σ H Q I h => ld_blt I hg hm hv ⟨.ty n, H, I, rfl, h⟩ hn hdb⟩
theorem boot_isinstance' : bootBuiltins "isinstance" = some (.builtin "isinstance") := by decide +kernel
variable {e : Expr} {p pos p2 : Pos} {f : Env → R Unit T}
theorem q_isi {n : String} {x : Str} (hg : Gl X "isinstance") (hm : X.mg "isinstance" = none) (hg2 : Gl X x) (hm2 : X.mg x = none) (hv : bootBuiltins x = some (.type n)) (ha : JQ X W .e e f) (hn : x ≠ "__name__" := by decide) (hdb : (x == ("__debug__" : Str)) = false := by decide)
    (he : starEach [e, .Name x p2] X.env = (false, eval e X.env) :: starEach [.Name x p2] X.env := by rfl) (he2 : starEach [.Name x p2] X.env = (false, eval (.Name x p2) X.env) :: starEach [] X.env := by rfl)
    (hpl : (backTo pos (starEach [.Name x p2] X.env)).any (·.1) = false := by rfl) : JQ X W .o (.Call (.Name "isinstance" p) [e, .Name x p2] [] pos) (fIsi n f) :=
  peM (pe_callB call_isi hg hm boot_isinstance' (pa_cons ha (pa_cons (pe_tyname hg2 hm2 hv hn hdb) pa_nil he2) he) (by decide) (by decide) he hpl) fun σ H Q ⟨ρ, Z, A, G, q⟩ => by
    refine ⟨ρ, Z, A, G, ?_⟩
    revert q
    unfold fIsi
    cases f ρ with
    | ok t =>
      intro q v H1 e1 r1
      rw [R.bind_ok] at q
      by_cases hf : frozenT t = false
      · rw [if_pos hf] at q
        cases hb : isiT (tyN t) n with
        | none => rw [hb] at q; exact q.elim
        | some b =>
          rw [hb] at q
          exact ⟨v, .ty n, _, _, b, rfl, .ty n, tyX_of r1 hf, isiT_ok hb, q (.bl b) H1 e1 ⟨emp, rfl, fun _ z => z.elim, fun _ z => z.elim⟩⟩
      · rw [if_neg hf] at q; exact q.elim
    | exc e x => exact fun q => q
    | bad => exact fun q => q.elim
def tAugF (i : Nat) (g : T → T → Option T) (fe : Env → R Unit T) : FF := fun ρ => match ρ[i]? with
  | some (.ow (.pv old)) => liftQ (fe ρ) ρ fun t => match g (.pv old) t with
    | some (.pv new) => .ok (.nx, ρ.set i (.ow (.pv new)))
    | _ => .bad
  | some (.vw (.pv old)) => liftQ (fe ρ) ρ fun t => match g (.pv old) t with
    | some (.pv new) => .ok (.nx, ρ.set i (.ow (.pv new)))
    | _ => .bad
  | _ => .bad
theorem t_aug (i : Nat) {x : Str} {op : Operator} {r : R2} {g : T → T → Option T} {fe : Env → R Unit T} {pos' : Pos} (hN : X.N.Nodup) (hi : X.N[i]? = some x) (hx : Loc X.env.scope x) (ho : PIp X op r) (hr : Ok2 X.K r g) (he : JQ X W .e e fe) (hk : kp i = false := by rfl)
    (hf : X.fn x = true ∨ X.env.scope.names.lookup x = some .local := by first | exact .inl rfl | exact .inr rfl | assumption) : JT X W kp (.AugAssign (.Name x pos') op e pos) (tAugF i g fe) := psM (ps_aug hN hi hx he ho hf) fun D σ H h => by
  obtain ⟨ρ, Z, A, G, q⟩ := FT_iff.mp h
  have main : ∀ (v : V) (old : P), σ[i]? = some (some v) → i < ρ.length → RepP H old v → EndT X.K X.mg W kp D σ H A (liftQ (fe ρ) ρ fun t => match g (.pv old) t with
    | some (.pv new) => .ok (.nx, ρ.set i (.ow (.pv new)))
    | _ => .bad) → ∃ x, σ[i]? = some (some x) ∧ FQ X.K X.mg W .e fe σ H fun y H1 => r x y H1 fun z H2 => D.nx (σ.set i (some z)) H2 := by
    intro v old hv hl rv q
    refine ⟨v, hv, ρ, Z, A, G, ?_⟩
    revert q
    cases fe ρ with
    | ok t =>
      intro q w H1 e1 r1
      have q : EndT X.K X.mg W kp D σ H A (match g (.pv old) t with
        | some (.pv new) => .ok (.nx, ρ.set i (.ow (.pv new)))
        | _ => .bad) := q
      cases hg : g (.pv old) t with
      | none => rw [hg] at q; exact q.elim
      | some u =>
        rw [hg] at q
        cases u with
        | pv new =>
          refine hr H1 (.pv old) t v w (.pv new) (RepP.kp (fun b _ h => e1 b _ h) old v rv) r1 hg _ fun v' H' B e3 rep fr al => ?_
          have G' := G.ext (e1.trans e3)
          have rep0 : Rep H' (.pv new) v' emp := rep
          obtain ⟨C, G2, sc⟩ := Good.set G' hl rep0 (fun _ z => z.elim) (fun _ z => z.elim) (fun _ z => z.elim)
          exact q _ H' _ _ G2 ((Step.ext0 (e1.trans e3)).trans ((Step.refl H' A).mono fun b hb => (sc b hb).elim id fun z => z.elim)) (Agree.set hk)
        | _ => exact q.elim
    | exc e x => exact fun q cls d H' e2 x => q cls d σ H' Z A (G.ext e2) (Step.ext0 e2) Agree.refl x
    | bad => exact fun q => q.elim
  unfold tAugF at q
  cases hi2 : ρ[i]? with
  | none => rw [hi2] at q; exact q.elim
  | some s =>
    have hl : i < ρ.length := (List.getElem?_eq_some_iff.mp hi2).1
    obtain ⟨o, B, h1, h2, h3⟩ := slot_of G.env hi2
    rw [hi2] at q
    cases s with
    | no => exact q.elim
    | ow t =>
      cases t with
      | pv old =>
        obtain ⟨v, e1, rv⟩ := h2
        exact main v old (by rw [h1, e1]) hl rv q
      | _ => exact q.elim
    | vw t =>
      cases t with
      | pv old =>
        obtain ⟨v, e1, rv⟩ := h2
        exact main v old (by rw [h1, e1]) hl rv q
      | _ => exact q.elim
theorem Reps.append {H : Hp} : ∀ {ts us : List T} {xs ys : List V} {A B : Fp}, Reps H ts xs A → Reps H us ys B → Disj A B → Reps H (ts ++ us) (xs ++ ys) (un A B)
  | [], _, _, _, _, _, h, h', _ => by have e := h; unfold Reps at e; subst e; exact Reps.mono (fun _ z => .inr z) _ _ h'
  | t :: ts, _, _, _, _, _, ⟨x, r, C, D, e, h1, h2, s1, s2, d⟩, h', dd => by
    subst e
    exact ⟨x, r ++ _, C, un D _, rfl, h1, Reps.append h2 h' (fun a z1 z2 => dd a (s2 a z1) z2), fun a z => .inl (s1 a z), fun a z => z.imp (s2 a) id, fun a z1 z2 => z2.elim (d a z1) (dd a (s1 a z1))⟩
theorem Reps.erase {H : Hp} : ∀ {ts : List T} {xs : List V} {A : Fp} {j : Nat} {t : T}, Reps H ts xs A → ts[j]? = some t → ∃ x B C, xs[j]? = some x ∧ Rep H t x B ∧ Reps H (ts.eraseIdx j) (xs.eraseIdx j) C ∧ Sub B A ∧ Sub C A ∧ Disj B C
  | t :: ts, _, A, 0, t0, ⟨x, r, B, C, e, h1, h2, s1, s2, d⟩, e0 => by
    have e' : t = t0 := by simpa using e0
    subst e' e
    exact ⟨x, B, C, rfl, h1, by simpa using h2, s1, s2, d⟩
  | t :: ts, _, A, j + 1, t0, ⟨x, r, B, C, e, h1, h2, s1, s2, d⟩, e0 => by
    subst e
    obtain ⟨y, B', C', e1, r1, rr, sb, sc, dd⟩ := Reps.erase (j := j) h2 (by simpa using e0)
    refine ⟨y, B', un B C', by simpa using e1, r1, ?_, fun a z => s2 a (sb a z), fun a z => z.elim (s1 a) fun w => s2 a (sc a w), fun a z1 z2 => z2.elim (fun w => d a w (sb a z1)) (dd a z1)⟩
    rw [List.eraseIdx_cons_succ, List.eraseIdx_cons_succ]
    exact ⟨x, _, B, C', rfl, h1, rr, fun a z => .inl z, fun a z => .inr z, fun a z1 z2 => d a z1 (sc a z2)⟩
  | [], _, _, _, _, _, e0 => by simp at e0
theorem lst_put {H : Hp} {a : Addr} {xs ys : List V} (h : H a = some (.lst xs)) {A : Fp} (ha : A a) : MutAt A H (upd H a (.lst ys)) := ⟨a, _, _, ha, h, trivial, rfl⟩
theorem Reps.put {H : Hp} {a : Addr} {xs ys : List V} (h : H a = some (.lst xs)) {ts : List T} {zs : List V} {A : Fp} (r : Reps H ts zs A) (n : ¬ A a) : Reps (upd H a (.lst ys)) ts zs A :=
  Reps.kp ((lst_put (A := fun b => b = a) h rfl).kp (C := A) (Z := emp) (fun b z1 z2 => n (by rw [← z2]; exact z1)) fun _ z => z.elim) _ _ r
theorem Rep.put {H : Hp} {a : Addr} {xs ys : List V} (h : H a = some (.lst xs)) {t : T} {z : V} {A : Fp} (r : Rep H t z A) (n : ¬ A a) : Rep (upd H a (.lst ys)) t z A :=
  Rep.kp ((lst_put (A := fun b => b = a) h rfl).kp (C := A) (Z := emp) (fun b z1 z2 => n (by rw [← z2]; exact z1)) fun _ z => z.elim) _ _ r
def muAppend : T → List T → Option (T × T)
  | .lst ts, [u] => if ts.length < 16777216 then some (.lst (ts ++ [u]), .pv .non) else none
  | _, _ => none
theorem m_append : OkM rAppend muAppend := by
  intro H t v A args vs B t' q r ra d e Q n
  unfold muAppend at e
  split at e
  · rename_i ts u
    split at e
    · rename_i hl
      cases e
      obtain ⟨a, xs, rfl, hq, m, hv⟩ := r
      obtain ⟨y, r0, C, D, rfl, h1, h2, s1, s2, dd⟩ := ra
      have e2 : r0 = [] := h2
      subst e2
      have hlen := Reps.len hv
      refine ⟨a, xs, y, rfl, rfl, hq, by rw [hlen, sizeLine_eq]; exact hl, ?_⟩
      refine n _ _ (un A B) emp ⟨a, xs ++ [y], rfl, upd_same, .inl m, ?_⟩ rfl (fun _ z => z.elim) (fun b z => z.elim id fun y => y.elim) (lst_put hq m)
      have nC : ¬ C a := fun z => d a (s1 a z) m
      have r1 := Reps.put (ys := xs ++ [y]) hq hv (fun z => z.2 rfl)
      have r2 : Reps (upd H a (.lst (xs ++ [y]))) [u] [y] C := ⟨y, [], C, emp, rfl, Rep.put hq h1 nC, rfl, fun _ z => z, fun _ z => z.elim, fun _ _ z => z.elim⟩
      exact Reps.mono (fun b z => z.elim (fun z => ⟨.inl z.1, z.2⟩) fun z => ⟨.inr (s1 b z), fun e => nC (by rw [← e]; exact z)⟩) _ _ (Reps.append r1 r2 fun b z1 z2 => d b (s1 b z2) z1.1)
    · cases e
  · cases e
def muPopAt (ts : List T) (j : Nat) : Option (T × T) := (ts[j]?).map fun t => (.lst (ts.eraseIdx j), t)
theorem pop_core {H : Hp} {ts : List T} {a : Addr} {xs : List V} {A : Fp} {j : Nat} {t' q : T} (hq : H a = some (.lst xs)) (m : A a) (hv : Reps H ts xs (fun b => A b ∧ b ≠ a)) (e : muPopAt ts j = some (t', q)) {Q : VK}
    (n : ∀ v' H' D E, Rep H' t' (.ref a) D → Rep H' q v' E → Disj E D → Sub (un D E) A → MutAt A H H' → Q v' H') : ∃ y, xs[j]? = some y ∧ Q y (upd H a (.lst (xs.eraseIdx j))) := by
  unfold muPopAt at e
  cases ht : ts[j]? with
  | none => rw [ht] at e; cases e
  | some t =>
    rw [ht] at e
    cases e
    obtain ⟨x, B, C, e1, r1, rr, sb, sc, dd⟩ := Reps.erase hv ht
    refine ⟨x, e1, n x _ (un (fun b => b = a) C) B ⟨a, _, rfl, upd_same, .inl rfl, Reps.mono (fun b z => ⟨.inr z, (sc b z).2⟩) _ _ (Reps.put hq rr fun z => (sc a z).2 rfl)⟩ (Rep.put hq r1 fun z => (sb a z).2 rfl) (fun b z1 z2 => z2.elim (fun z => (sb b z1).2 z) (dd b z1)) (fun b z => z.elim (fun z => z.elim (fun z => by rw [z]; exact m) fun z => (sc b z).1) fun z => (sb b z).1) (lst_put hq m)⟩
def muPop : T → List T → Option (T × T)
  | .lst ts, [] => muPopAt ts (ts.length - 1)
  | _, _ => none
theorem m_pop : OkM rPop muPop := by
  intro H t v A args vs B t' q r ra d e Q n
  unfold muPop at e
  split at e
  · rename_i ts
    obtain ⟨a, xs, rfl, hq, m, hv⟩ := r
    have ev : vs = [] := ra
    subst ev
    have hl := Reps.len hv
    obtain ⟨y, e1, q1⟩ := pop_core (Q := Q) hq m hv e fun v' H' D E h1 h2 h3 h4 h5 => n v' H' D E h1 h2 h3 (fun b z => .inl (h4 b z)) h5
    rw [← hl] at e1 q1
    have hpos : 0 < xs.length := by
      rcases Nat.eq_zero_or_pos xs.length with z | z
      · have := List.length_eq_zero_iff.mp z
        subst this
        cases e1
      · exact z
    have hd : xs.dropLast = xs.eraseIdx (xs.length - 1) := by rw [List.dropLast_eq_take, List.eraseIdx_eq_take_drop_succ, List.drop_of_length_le (by omega), List.append_nil]
    exact ⟨a, xs, y, rfl, rfl, hq, e1, by rw [hd]; exact q1⟩
  · cases e
def muPopI : T → List T → Option (T × T)
  | .lst ts, [.pv (.int i)] => if -(2 ^ 62) ≤ i ∧ i < 2 ^ 62 then (ixN ts.length i).bind fun j => muPopAt ts j else none
  | _, _ => none
theorem m_popI : OkM rPopAt muPopI := by
  intro H t v A args vs B t' q r ra d e Q n
  unfold muPopI at e
  split at e
  · rename_i ts i
    obtain ⟨a, xs, rfl, hq, m, hv⟩ := r
    obtain ⟨y0, r0, C, D, rfl, h1, h2, s1, s2, dd⟩ := ra
    have e2 : r0 = [] := h2
    subst e2
    have hl := Reps.len hv
    by_cases hb : -(2 ^ 62) ≤ i ∧ i < 2 ^ 62
    · rw [if_pos hb] at e
      cases hi : ixN ts.length i with
      | none => rw [hi] at e; cases e
      | some j =>
        rw [hi] at e
        have e : muPopAt ts j = some (t', q) := e
        obtain ⟨y, e1, q1⟩ := pop_core (Q := Q) hq m hv e fun v' H' D E h1 h2 h3 h4 h5 => n v' H' D E h1 h2 h3 (fun b z => .inl (h4 b z)) h5
        rw [← hl] at hi
        obtain ⟨k1, k2, k3, k4⟩ := ixN_seq hi
        have hy : y0 = .int i := h1
        subst hy
        exact ⟨a, xs, i, j, y, rfl, rfl, hq, by omega, by omega, k1, e1, q1⟩
    · rw [if_neg hb] at e; cases e
  · cases e
end
end TR
namespace TR
open PySem PySem.Spec PyProof.Rows L2
def FPP (K : PySem.W.Frag) (mg : Str → Option Value) (W : WX) (f : Env → R Unit (List P × List T)) : Stt → Hp → (List (V × V) → Hp → Prop) → Prop := fun σ H Q => ∃ ρ Z A, Good K Z H σ ρ A ∧ match f ρ with
  | .ok (ks, ts) => ∀ (kvs : List (Key × V)) H' B, Ext H H' → ks = kvs.map (fun e => keyP e.1) → Reps H' ts (kvs.map (·.2)) B → Fresh H B → Al H' B → Q (kvs.map fun kv => (kV kv.1, kv.2)) H'
  | .exc e _ => ∀ cls d H', Ext H H' → ExcRep mg H' e cls d → W cls d σ H'
  | .bad => False
def JPP (X : Cx) (W : WX) (pos : Pos) (ks : List (Option Expr)) (vs : List Expr) (f : Env → R Unit (List P × List T)) : Prop := ∃ trs, PPs X pos ks vs trs ∧ ∀ σ H Q, FPP X.K X.mg W f σ H Q → tPairs trs σ H Q
def dpNil : Env → R Unit (List P × List T) := fun _ => .ok ([], [])
def dpCons (fk fv : Env → R Unit T) (fr : Env → R Unit (List P × List T)) : Env → R Unit (List P × List T) := fun ρ => (fk ρ).bind fun k => match k with
  | .pv p => if (keyOf p).isSome = true then (fv ρ).bind fun v => (fr ρ).bind fun r => .ok (p :: r.1, v :: r.2) else .bad
  | _ => .bad
def fDisp (f : Env → R Unit (List P × List T)) : Env → R Unit T := fun ρ => (f ρ).bind fun r => if nodupB r.1 = true ∧ r.1.length ≤ 15 then .ok (.dct false r.1 r.2) else .bad
section
variable {X : Cx} {W : WX} {pos : Pos}
theorem dp_nil : JPP X W pos [] [] dpNil := ⟨[], pps_nil, fun σ H Q ⟨ρ, Z, A, G, q⟩ => q [] H emp (Ext.refl H) rfl rfl (fun _ z => z.elim) fun _ z => z.elim⟩
theorem dp_cons {k v : Expr} {ks : List (Option Expr)} {vs : List Expr} {fk fv : Env → R Unit T} {fr : Env → R Unit (List P × List T)} (hk : JQ X W .e k fk) (hv : JQ X W .o v fv) (hr : JPP X W pos ks vs fr) : JPP X W pos (some k :: ks) (v :: vs) (dpCons fk fv fr) := by
  obtain ⟨trs, pp, im⟩ := hr
  refine ⟨_, pps_cons hk hv pp, fun σ H Q ⟨ρ, Z, A, G, q⟩ => ?_⟩
  refine ⟨ρ, Z, A, G, ?_⟩
  revert q
  unfold dpCons
  cases fk ρ with
  | ok k0 =>
    intro q x H1 e1 r1
    rw [R.bind_ok] at q
    cases k0 with
    | pv p =>
      dsimp only at q
      by_cases hp : (keyOf p).isSome = true
      · rw [if_pos hp] at q
        obtain ⟨k', hk'⟩ := Option.isSome_iff_exists.mp hp
        have ek := keyOf_eq hk'
        subst ek
        have ex : x = kV k' := repP_key r1
        subst ex
        refine ⟨ρ, Z, A, G.ext e1, ?_⟩
        revert q
        cases fv ρ with
        | ok t =>
          intro q y H2 e2 ⟨B1, rb, fr1, al1⟩
          rw [R.bind_ok] at q
          refine im _ _ _ ⟨ρ, Z, A, (G.ext e1).ext e2, ?_⟩
          revert q
          cases fr ρ with
          | ok r =>
            obtain ⟨kr, tr⟩ := r
            intro q kvs H3 B2 e3 hks rs fr2 al2
            rw [R.bind_ok] at q
            have e12 := e1.trans e2
            exact q ((k', y) :: kvs) H3 (un B1 B2) (e12.trans e3) (by rw [hks]; rfl) ⟨y, _, B1, B2, rfl, Rep.kp (e3.kp (C := B1) (Z := top)) t y rb, rs, fun _ h => .inl h, fun _ h => .inr h, fun a h1 h2 => al1 a h1 (fr2 a h2)⟩
              (fun a h => h.elim (fun z => e1.fresh (fr1 a z)) fun z => e12.fresh (fr2 a z)) fun a h => h.elim (fun z => e3.al al1 a z) (al2 a)
          | exc e x => exact fun q cls d H' e3 x => q cls d H' (e1.trans (e2.trans e3)) x
          | bad => exact fun q => q.elim
        | exc e x => exact fun q cls d H' e2 x => q cls d H' (e1.trans e2) x
        | bad => exact fun q => q.elim
      · rw [if_neg hp] at q; exact q.elim
    | _ => exact q.elim
  | exc e x => exact fun q => q
  | bad => exact fun q => q.elim
theorem q_disp {ks : List (Option Expr)} {vs : List Expr} {f : Env → R Unit (List P × List T)} (h : JPP X W pos ks vs f) (hall : ks.all (·.isSome) = true := by rfl) (hl : ks.length = vs.length := by rfl) (h0 : ks ≠ [] := by intro z; cases z) (h15 : ks.length ≤ 15 := by decide) : JQ X W .o (.Dict ks vs pos) (fDisp f) := by
  obtain ⟨trs, pp, im⟩ := h
  refine peM (pe_disp pp hall hl h0 h15) fun σ H Q ⟨ρ, Z, A, G, q⟩ => ?_
  intro p hp
  refine im _ _ _ ⟨ρ, Z, A, G.ext (Ext.new hp), ?_⟩
  revert q
  unfold fDisp
  cases f ρ with
  | ok r =>
    obtain ⟨kr, tr⟩ := r
    intro q kvs H2 B e2 hks rs fr al
    rw [R.bind_ok] at q
    dsimp only at q
    by_cases hc : nodupB kr = true ∧ kr.length ≤ 15
    · rw [if_pos hc] at q
      have hp2 : H2 p = some (.dK []) := e2 p _ upd_same
      refine ⟨hp2, kvs, rfl, by have := hc.2; rw [hks, List.length_map] at this; exact this, ?_⟩
      have nd := nodupB_iff.mp hc.1
      rw [hks] at nd
      rw [merge_nodup kvs [] (by simpa using nd)]
      have nB : ∀ b, B b → b ≠ p := fun b hb z => by
        have := fr b hb
        rw [z, upd_same] at this
        cases this
      have kp : Kp B emp H2 (upd H2 p (.dK ([] ++ kvs))) := by
        refine ⟨fun b xs hb => ?_, fun b o u hb => ?_, fun b o hB hb => ?_, fun b o hz _ => hz.elim⟩
        · rw [upd_ne (fun z => by rw [z, hp2] at hb; cases hb)]; exact hb
        · rw [upd_ne (fun z => by rw [z, hp2] at hb; cases hb)]; exact hb
        · rw [upd_ne (nB b hB)]; exact hb
      have ext : Ext H (upd H2 p (.dK ([] ++ kvs))) := fun b o hb => by
        have hbp : b ≠ p := ne_of_none hb hp
        rw [upd_ne hbp]
        exact e2 b o (by rw [upd_ne hbp]; exact hb)
      refine q _ _ ext ⟨un (fun b => b = p) B, ⟨p, kvs.map (·.2), rfl, ⟨by rw [hks]; exact nd, kvs, upd_same, hks, rfl⟩, .inl rfl, Reps.mono (fun b hb => ⟨.inr hb, nB b hb⟩) _ _ (Reps.kp kp _ _ rs)⟩, fun b hb => hb.elim (fun z => by rw [z]; exact hp) fun z => ?_, fun b hb => hb.elim (fun z => by rw [z, upd_same]; intro c; cases c) fun z => by rw [upd_ne (nB b z)]; exact al b z⟩
      have := fr b z
      rw [upd_ne (nB b z)] at this
      exact this
    · rw [if_neg hc] at q; exact q.elim
  | exc e x => exact fun q cls d H' e3 x => q cls d H' ((Ext.new hp).trans e3) x
  | bad => exact fun q => q.elim
end
end TR
namespace TR
open PySem PySem.Spec PyProof.Rows L2
def OkMV (K : PySem.W.Frag) (r : V → List V → Hp → VK → Prop) (mu : T → List T → Option (T × T)) : Prop :=
  ∀ H t v A args vs t' q, Rep H t v A → Vws K top H args vs → mu t args = some (t', q) → ∀ Q : VK, (∀ v' H' D E, Rep H' t' v D → Rep H' q v' E → Disj E D → Sub (un D E) A → MutAt A H H' → Q v' H') → r v vs H Q
section
variable {X : Cx} {W : WX} {K : PySem.W.Frag} {mg : Str → Option Value}
theorem mut_coreV {r : V → List V → Hp → VK → Prop} {mu : T → List T → Option (T × T)} (hm : OkMV K r mu) {Z A : Fp} {H : Hp} {σ : Stt} {ρ : Env} {i : Nat} {t node node' q t2 : T} {v0 w : V} {ks : List P} {ys : List V} {ts : List T} {vs : List V} {Q : VK}
    (G : Good K Z H σ ρ A) (rv : Vws K top H ts vs) (e : ρ[i]? = some (.ow t)) (ev : σ[i]? = some (some v0)) (rp : RepPs H ks ys) (l : lookPath ks t = some node) (wk : WalkV H v0 ys w)
    (em : mu node ts = some (node', q)) (eu : updPath ks (fun _ => some node') t = some t2)
    (fin : ∀ v H' A' E, Good K Z H' σ (ρ.set i (.ow t2)) A' → Rep H' q v E → Disj E A' → Al H' E → Step H A H' (un A' E) → Q v H') : r w vs H Q := by
  obtain ⟨Bn, C, r1, sb, sc, d, put⟩ := env_mut G.env e ev rp l wk
  refine hm H node w Bn ts vs node' q r1 rv em Q fun v' H' D E rD rE dE sub m => ?_
  have subD : Sub D Bn := fun a z => sub a (.inl z)
  have subE : Sub E Bn := fun a z => sub a (.inr z)
  have dC : Disj D C := fun a z1 z2 => d a (subD a z1) z2
  have eC : Disj E C := fun a z1 z2 => d a (subE a z1) z2
  obtain ⟨t2', e5, env⟩ := put H' (fun _ => some node') node' D (m.kp (fun a z1 z2 => d a z2 z1) fun a z1 z2 => G.dis a z1 (sb a z2)) rfl rD dC
  rw [eu] at e5
  cases e5
  have dom := m.dom
  have alU : ∀ a, A a → H a ≠ none := G.alA
  have subF : Sub (un D C) A := fun a z => z.elim (fun z => sb a (subD a z)) (sc a)
  have subE' : Sub E A := fun a z => sb a (subE a z)
  refine fin v' H' (un D C) E ⟨env, fun a z1 z2 => G.dis a z1 (subF a z2), fun a z => dom a (G.alZ a z), fun a z => dom a (alU a (subF a z))⟩ rE (fun a z1 z2 => z2.elim (dE a z1) (eC a z1)) (fun a z => dom a (alU a (subE' a z))) ?_
  exact (m.mono sb).step (fun a z => z) fun a z => z.elim (subF a) (subE' a)
variable {o e : Expr} {es : List Expr} {name : Str} {apos cpos : Pos} {Ty mid : String} {r : V → List V → Hp → VK → Prop} {mu : T → List T → Option (T × T)}
theorem fs_methV (hm : OkMV K r mu) {i : Nat} {fp : Env → R Unit (List P)} {fas : Env → R Unit (List T)} {σ : Stt} {H : Hp} {Q : VK} (h : FS K mg W (sMeth Ty i mu fp fas) σ H Q) : tBM K Ty r (FP K mg W i fp) (FQA K mg W fas) σ H Q := by
  obtain ⟨ρ, Z, A, G, q⟩ := h
  refine ⟨ρ, Z, A, G, ?_⟩
  unfold sMeth at q
  cases hp : fp ρ with
  | bad => rw [hp] at q; exact False.elim q
  | exc e x => rw [hp] at q; exact False.elim q
  | ok ks =>
    rw [hp] at q
    cases hi : ρ[i]? with
    | none => rw [hi] at q; exact False.elim q
    | some s =>
      rw [hi] at q
      cases s with
      | no => exact False.elim q
      | vw t => exact False.elim q
      | ow t =>
        dsimp only at q
        cases l : lookPath ks t with
        | none => rw [l] at q; exact False.elim q
        | some node =>
          rw [l] at q
          dsimp only at q
          by_cases hty : isTy Ty node = true
          · rw [if_pos hty] at q
            refine ⟨t, node, rfl, l, fun w H1 v0 ys e1 hv rp wk => ?_⟩
            have G1 := G.ext e1
            obtain ⟨Bn, C, r1, sb, sc, d, put⟩ := env_mut G1.env hi hv rp l wk
            refine ⟨tyV_of r1 hty, ρ, Z, A, G1, ?_⟩
            cases hf : fas ρ with
            | bad => rw [hf] at q; exact False.elim q
            | exc e x => rw [hf] at q; exact fun cls dd H' e2 x => q cls dd H' A (G.ext (e1.trans e2)) (Step.ext0 (e1.trans e2)) x
            | ok ts =>
              rw [hf] at q
              intro vs H2 e2 rv
              dsimp only at q
              cases em : mu node ts with
              | none => rw [em] at q; exact False.elim q
              | some pr =>
                obtain ⟨node', qv⟩ := pr
                rw [em] at q
                dsimp only at q
                cases eu : updPath ks (fun _ => some node') t with
                | none => rw [eu] at q; exact False.elim q
                | some t2 =>
                  rw [eu] at q
                  refine mut_coreV hm (G1.ext e2) rv hi hv (RepPs.kp (e2.kp (C := emp) (Z := emp)).tk _ _ rp) l (wk.ext e2) em eu fun v H' A' E g rE dE alE st => ?_
                  exact q v H' A' E g rE dE alE ((Step.ext0 (e1.trans e2)).trans st)
          · rw [if_neg hty] at q; exact False.elim q
theorem s_methV {i : Nat} {fp : Env → R Unit (List P)} {fas : Env → R Unit (List T)} (pa : PlainAttrs Ty) (slot : Slot Ty name mid) (hty : typeOf (.builtin mid) = pure (.type "method_descriptor")) (hm : MtR X mid r) (om : OkMV X.K r mu) (ho : JP X W o i fp) (ha : JQA X W (e :: es) fas)
    (hbase : attributeBase o name X.env (eval o X.env) = eval o X.env := by rfl)
    (hfew : ((backTo cpos (starEach (e :: es) X.env)).all (fun x => !x.1) && (backToKw cpos (keywordEach [] X.env)).all (fun x => x.1.isSome)
      && decide ((e :: es).length + ([] : List Keyword).length + (if ([] : List Keyword).isEmpty then 0 else 1) < 30)) = true := by rfl)
    (hline : (apos.endLine == cpos.line) = true := by rfl) (hs : starEach (e :: es) X.env = (false, eval e X.env) :: starEach es X.env := by rfl) (hplain : (backTo cpos (starEach es X.env)).any (·.1) = false := by rfl) :
    JS X W (.Call (.Attribute o name apos) (e :: es) [] cpos) (sMeth Ty i mu fp fas) := peM (pe_bm pa slot hty hm ho ha hbase hfew hline hs hplain) fun _ _ _ q => fs_methV om q
def muExtend : T → List T → Option (T × T)
  | .lst ts, [.lst us] => (pvs us).bind fun ps => if ts.length + ps.length ≤ 16777216 then some (.lst (ts ++ ps.map .pv), .pv .non) else none
  | _, _ => none
theorem m_extend : OkMV K rExtend muExtend := by
  intro H t v A args vs t' q r ra e Q n
  unfold muExtend at e
  split at e
  · rename_i ts us
    cases hp : pvs us with
    | none => rw [hp] at e; cases e
    | some ps =>
      rw [hp] at e
      have e : (if ts.length + ps.length ≤ 16777216 then some (T.lst (ts ++ ps.map .pv), T.pv .non) else none) = some (t', q) := e
      by_cases hl : ts.length + ps.length ≤ 16777216
      · rw [if_pos hl] at e
        cases e
        have e2 := pvs_eq hp
        subst e2
        obtain ⟨a, xs, rfl, hq, m, hv⟩ := r
        obtain ⟨y, rfl, h1⟩ := vws1 ra
        obtain ⟨b, ys, rfl, hb, hy⟩ := h1
        have l1 := Reps.len hv
        have hy' := vws_pvs hy
        have l2 := repPs_len hy'
        refine ⟨a, b, xs, ys, rfl, rfl, hq, hb.1, by rw [l1, l2, sizeLine_eq]; exact hl, ?_⟩
        have r1 := Reps.put (ys := xs ++ ys) hq hv (fun z => z.2 rfl)
        have r2 : Reps (upd H a (.lst (xs ++ ys))) (ps.map .pv) ys emp := Reps.put hq (pvs_reps hy') (fun z => z)
        refine n _ _ A emp ⟨a, xs ++ ys, rfl, upd_same, m, Reps.mono (fun b z => z.elim id fun z => z.elim) _ _ (Reps.append r1 r2 fun _ _ z => z)⟩ rfl (fun _ z => z.elim) (fun b z => z.elim id fun y => y.elim) (lst_put hq m)
      · rw [if_neg hl] at e; cases e
  · cases e
def rRemD (K : PySem.W.Frag) : V → List V → Hp → VK → Prop := fun x xs H Q => ∃ (l : Addr) (zs : List V) (y : V) (ds : List PyData) (d : PyData) (j : Nat), x = .ref l ∧ xs = [y] ∧ H l = some (.lst zs) ∧ DpAll K H zs ds ∧ Dp K H y d ∧ okDs ds = true ∧ okD d = true ∧ SeqAt.dataPlace ds d = some j ∧ Q .non (upd H l (.lst (zs.eraseIdx j)))
theorem mt_remD (hu : X.A.units + 100 < cLine) : MtR X "list.remove" (rRemD X.K) := by
  intro pins s σ H x xs v us Q I rx rxs h
  obtain ⟨l, zs, y, ds, d, j, rfl, rfl, hH, ha, hd, sd, se, hp, q⟩ := h
  cases rx
  obtain ⟨u, rfl, ru⟩ := rxs.one
  obtain ⟨z, its, n, r, hl, e⟩ := I.lstM hH
  obtain ⟨as, r1⟩ := Dp.readsAll I ds zs its ha r
  obtain ⟨bs, r2⟩ := Dp.reads I d y u hd ru
  have h1 := okD_depth se
  have hm : min (PyData.depthAll ds) d.depth ≤ 50 := Nat.le_trans (Nat.min_le_right _ _) h1
  refine SeqAt.remove_list_data (vs := its.toArray) ⟨_, e, rfl, n, rfl⟩ r1 r2 (okDs_plain sd) (okD_plain se) (by omega) hp (by rw [List.size_toArray]; omega) ?_
  refine ⟨.non, _, I.lset (its' := its.eraseIdx j) (t' := s.toks) hH e ?_ (r.eraseIdx j) ?_, rfl, q⟩
  · show its.toArray.eraseIdxIfInBounds j = (its.eraseIdx j).toArray
    rw [List.eraseIdxIfInBounds_toArray]
  · have := len_erase zs j
    omega
def muRemove : T → List T → Option (T × T)
  | .lst ts, [u] => if (okDs (T.toDs ts) && okD u.toD) = true then (SeqAt.dataPlace (T.toDs ts) u.toD).bind fun j => (muPopAt ts j).map fun r => (r.1, .pv .non) else none
  | _, _ => none
theorem m_remove : OkMV K (rRemD K) muRemove := by
  intro H t v A args vs t' q r ra e Q n
  unfold muRemove at e
  split at e
  · rename_i ts u
    split at e
    · rename_i hc
      obtain ⟨c1, c2⟩ := Bool.and_eq_true_iff.mp hc
      cases hp : SeqAt.dataPlace (T.toDs ts) u.toD with
      | none => rw [hp] at e; cases e
      | some j =>
        rw [hp] at e
        have e : (muPopAt ts j).map (fun r => (r.1, T.pv .non)) = some (t', q) := e
        cases hm : muPopAt ts j with
        | none => rw [hm] at e; cases e
        | some tr =>
          obtain ⟨t2, q2⟩ := tr
          rw [hm] at e
          cases e
          have rv := r
          obtain ⟨a, xs, rfl, hq, m, hv⟩ := r
          obtain ⟨y, rfl, h1⟩ := vws1 ra
          have dp : DpAll K H xs (T.toDs ts) := vws_dp ts xs (okDs_plain c1) (Reps.vw (Z := top) (fun _ _ => trivial) ts xs hv)
          obtain ⟨y2, e1, q1⟩ := pop_core (Q := fun _ H' => Q .non H') hq m hv hm fun v' H' D E h1 h2 h3 h4 h5 => n .non H' D emp h1 rfl (fun _ z => z.elim) (fun b z => z.elim (fun z => h4 b (.inl z)) fun z => z.elim) h5
          exact ⟨a, xs, y, _, _, j, rfl, rfl, hq, dp, vw_dp u y (okD_plain c2) h1, c1, c2, hp, q1⟩
    · cases e
  · cases e
def muInsert : T → List T → Option (T × T)
  | .lst ts, [.pv (.int i), .pv p] => if ts.length < 16777216 ∧ 0 ≤ i ∧ i < 16777216 then some (.lst (ts.take i.toNat ++ [.pv p] ++ ts.drop i.toNat), .pv .non) else none
  | _, _ => none
end
end TR
namespace TR
open PySem PySem.Spec PyProof.Rows L2
def okTy : String → T → Bool
  | "list", .lst _ => true
  | "list", .fls _ => true
  | "str", .pv (.str _) => true
  | _, _ => false
def OkMq (K : PySem.W.Frag) (r : V → List V → Hp → VK → Prop) (g : T → List T → Option T) : Prop := ∀ H t v args vs q, Vw K top H t v → Vws K top H args vs → g t args = some q → ∀ Q, NewR H q Q → r v vs H Q
def fMethQ (Ty : String) (g : T → List T → Option T) (fo : Env → R Unit T) (fas : Env → R Unit (List T)) : Env → R Unit T := fun ρ => (fo ρ).bind fun t => if okTy Ty t = true then (fas ρ).bind fun ts => R.of (g t ts) else .bad
section
variable {X : Cx} {W : WX} {K : PySem.W.Frag} {mg : Str → Option Value}
theorem okTy_tyV {H : Hp} {Z : Fp} {t : T} {v : V} {Ty : String} (h : Vw K Z H t v) (e : okTy Ty t = true) : tyV K Ty v H := by
  unfold okTy at e
  split at e
  · obtain ⟨a, xs, rfl, q, _⟩ := h; exact .inl ⟨rfl, xs, .inl (.inl q.1)⟩
  · obtain ⟨a, xs, rfl, q, _⟩ := h; exact .inl ⟨rfl, xs, q.sq⟩
  · have e2 : v = .str _ := h
    subst e2
    rfl
  · cases e
variable {o e : Expr} {es : List Expr} {name : Str} {apos cpos : Pos} {Ty mid : String} {r : V → List V → Hp → VK → Prop} {g : T → List T → Option T}
theorem fq_meth (hm : OkMq K r g) {fo : Env → R Unit T} {fas : Env → R Unit (List T)} {σ : Stt} {H : Hp} {Q : VK} (h : FQ K mg W .o (fMethQ Ty g fo fas) σ H Q) : tBM K Ty r (FQ K mg W .e fo) (FQA K mg W fas) σ H Q := by
  obtain ⟨ρ, Z, A, G, q⟩ := h
  refine ⟨ρ, Z, A, G, ?_⟩
  revert q
  unfold fMethQ
  cases fo ρ with
  | ok t =>
    intro q v H1 e1 r1
    rw [R.bind_ok] at q
    by_cases hty : okTy Ty t = true
    · rw [if_pos hty] at q
      refine ⟨okTy_tyV r1 hty, ρ, Z, A, G.ext e1, ?_⟩
      revert q
      cases fas ρ with
      | ok ts =>
        intro q vs H2 e2 r2
        rw [R.bind_ok] at q
        cases hg : g t ts with
        | none => rw [hg] at q; exact q.elim
        | some x =>
          rw [hg] at q
          exact hm H2 t v ts vs x (Vw.kp (e2.kp (C := top)) t v r1) r2 hg Q fun v' H' B e3 rep fr al => q v' H' (e1.trans (e2.trans e3)) ⟨B, rep, fun a ha => (e1.trans e2).fresh (fr a ha), al⟩
      | exc e x => exact fun q cls d H' e2 x => q cls d H' (e1.trans e2) x
      | bad => exact fun q => q.elim
    · rw [if_neg hty] at q; exact q.elim
  | exc e x => exact fun q => q
  | bad => exact fun q => q.elim
theorem q_meth {fo : Env → R Unit T} {fas : Env → R Unit (List T)} (pa : PlainAttrs Ty) (slot : Slot Ty name mid) (hty : typeOf (.builtin mid) = pure (.type "method_descriptor")) (hm : MtR X mid r) (om : OkMq X.K r g) (ho : JQ X W .e o fo) (ha : JQA X W (e :: es) fas)
    (hbase : attributeBase o name X.env (eval o X.env) = eval o X.env := by rfl)
    (hfew : ((backTo cpos (starEach (e :: es) X.env)).all (fun x => !x.1) && (backToKw cpos (keywordEach [] X.env)).all (fun x => x.1.isSome)
      && decide ((e :: es).length + ([] : List Keyword).length + (if ([] : List Keyword).isEmpty then 0 else 1) < 30)) = true := by rfl)
    (hline : (apos.endLine == cpos.line) = true := by rfl) (hs : starEach (e :: es) X.env = (false, eval e X.env) :: starEach es X.env := by rfl) (hplain : (backTo cpos (starEach es X.env)).any (·.1) = false := by rfl) :
    JQ X W .o (.Call (.Attribute o name apos) (e :: es) [] cpos) (fMethQ Ty g fo fas) := peM (pe_bm pa slot hty hm ho ha hbase hfew hline hs hplain) fun _ _ _ q => fq_meth om q
def strsP : List P → Option (List Str)
  | [] => some []
  | .str i :: ps => (strsP ps).map (i :: ·)
  | _ :: _ => none
theorem strsP_eq : ∀ {ps : List P} {is : List Str}, strsP ps = some is → ps = is.map .str
  | [], is, h => by cases h; rfl
  | p :: ps, is, h => by
    cases p with
    | str i =>
      unfold strsP at h
      cases h2 : strsP ps with
      | none => rw [h2] at h; cases h
      | some js => rw [h2] at h; cases h; rw [strsP_eq h2]; rfl
    | _ => cases h
@[simp] theorem strsP_map : ∀ is : List Str, strsP (is.map .str) = some is
  | [] => rfl
  | i :: is => by show (strsP (is.map .str)).map _ = _; rw [strsP_map is]; rfl
theorem repPs_strs {H : Hp} : ∀ {is : List Str} {xs : List V}, RepPs H (is.map .str) xs → xs = is.map V.str
  | [], _, h => h
  | i :: is, _, ⟨x, r, e, h1, h2⟩ => by
    have e1 : x = .str i := h1
    subst e e1
    rw [repPs_strs h2]; rfl
def pItS (t : T) : Option (List P) := match pItL t with
  | some ps => some ps
  | none => match t with
    | .pv (.tup ps) => some ps
    | _ => none
theorem vw_pItS {Z : Fp} {H : Hp} {t : T} {v : V} {ps : List P} (h : Vw K Z H t v) (e : pItS t = some ps) : ∃ a xs, v = .ref a ∧ (SqL K H a xs ∨ SqT K H a xs) ∧ RepPs H ps xs := by
  unfold pItS at e
  split at e
  · rename_i qs hq
    cases e
    obtain ⟨a, xs, rfl, hr, hv⟩ := vw_pItL h hq
    exact ⟨a, xs, rfl, .inl hr, hv⟩
  · split at e
    · cases e
      obtain ⟨a, xs, rfl, hq, hv⟩ := h
      exact ⟨a, xs, rfl, .inr (.inl (.inl hq)), hv⟩
    · cases e
def gJoin : T → List T → Option T
  | .pv (.str a), [t] => ((pItS t).bind strsP).bind fun ys => if (ys.map (·.length)).sum + ys.length * a.length ≤ 16777216 then some (.pv (.str (Txt.join a ys))) else none
  | _, _ => none
theorem k_join : OkMq K (fun x xs H Q => ∃ a p, ∃ ys : List Str, x = .str a ∧ xs = [.ref p] ∧ (SqL K H p (ys.map V.str) ∨ SqT K H p (ys.map V.str)) ∧
    (ys.map (·.length)).sum + ys.length * a.length ≤ 16777216 ∧ Q (.str (Txt.join a ys)) H) gJoin := by
  intro H t v args vs q h ha e Q n
  unfold gJoin at e
  split at e
  · rename_i a t
    cases hp : pItS t with
    | none => rw [hp] at e; cases e
    | some ps =>
      cases hs : strsP ps with
      | none => rw [hp] at e; simp only [Option.bind_some, hs] at e; cases e
      | some ys =>
        rw [hp] at e
        simp only [Option.bind_some, hs] at e
        split at e
        · rename_i hl
          cases e
          obtain ⟨w, rfl, h1⟩ := vws1 ha
          obtain ⟨b, xs, rfl, hr, hv⟩ := vw_pItS h1 hp
          have e2 := strsP_eq hs
          subst e2
          have e3 := repPs_strs hv
          subst e3
          exact ⟨a, b, ys, h, rfl, hr, hl, n.pure (by rfl)⟩
        · cases e
  · cases e
end
end TR
namespace TR
open PySem PySem.Spec PyProof.Rows L2
def sMethQ (Ty : String) (g : T → List T → Option T) (fo : Env → R Env (AV × Env)) (fas : Env → R Env (List AV × Env)) : Env → R Env (AV × Env) := fun ρ => (fo ρ).bind fun (a, ρ1) => match a.see ρ1 with
  | some t0 => if okTy Ty t0 = true then (fas ρ1).bind fun (as, ρ2) => R.of ((a.see ρ2).bind fun t => (sees ρ2 as).bind fun ts => (g t ts).map fun q => (AV.val q, ρ2)) else .bad
  | none => .bad
section
variable {X : Cx} {W : WX} {K : PySem.W.Frag} {mg : Str → Option Value}
variable {o e : Expr} {es : List Expr} {name : Str} {apos cpos : Pos} {Ty mid : String} {r : V → List V → Hp → VK → Prop} {g : T → List T → Option T}
theorem fs_methQ (hm : OkMq K r g) {fo : Env → R Env (AV × Env)} {fas : Env → R Env (List AV × Env)} {σ : Stt} {H : Hp} {Q : VK} (h : FS K mg W (sMethQ Ty g fo fas) σ H Q) : tBM K Ty r (FS K mg W fo) (FSA K mg W fas) σ H Q := by
  obtain ⟨ρ, Z, A, G, q⟩ := h
  refine ⟨ρ, Z, A, G, ?_⟩
  revert q
  unfold sMethQ
  cases fo ρ with
  | ok x =>
    obtain ⟨a, ρ1⟩ := x
    intro q v H1 A1 B1 G1 r1 d1 al1 st1
    have st1' : Step H A H1 A1 := st1.mono fun _ h => .inl h
    simp only [R.bind_ok] at q
    cases hs0 : a.see ρ1 with
    | none => rw [hs0] at q; exact q.elim
    | some t0 =>
      rw [hs0] at q
      dsimp only at q
      by_cases hty : okTy Ty t0 = true
      · rw [if_pos hty] at q
        refine ⟨okTy_tyV (see_vw G1 r1 hs0) hty, ρ1, Z, A1, G1, ?_⟩
        revert q
        cases fas ρ1 with
        | ok y =>
          obtain ⟨as, ρ2⟩ := y
          intro q vs H2 A2 B2 G2 r2 d2 al2 st2
          have r1' : AvRep σ H2 a v B1 := r1.kp (st2.kp d1 G1.dis)
          simp only [R.bind_ok] at q
          cases h1 : a.see ρ2 with
          | none => rw [h1] at q; exact q.elim
          | some t =>
            cases h2 : sees ρ2 as with
            | none => rw [h1, h2] at q; exact q.elim
            | some ts =>
              cases hg : g t ts with
              | none => rw [h1, h2] at q; simp only [Option.bind_some, hg] at q; exact q.elim
              | some z =>
                rw [h1, h2] at q
                simp only [Option.bind_some, hg] at q
                have st : Step H A H2 A2 := st1'.trans (st2.mono fun _ h => .inl h)
                exact hm H2 t v ts vs z (see_vw G2 r1' h1) (sees_vws G2 r2 h2) hg Q fun v' H' B e3 rep fr al =>
                  q v' H' A2 B (G2.ext e3) rep (fun x hb ha => G2.alA x ha (fr x hb)) al (st.trans (Step.ext e3 fr))
        | exc e x => exact fun q cls d H' A' G' s' x => q cls d H' A' G' (st1'.trans s') x
        | bad => exact fun q => q.elim
      · rw [if_neg hty] at q; exact q.elim
  | exc e x => exact fun q => q
  | bad => exact fun q => q.elim
theorem s_methQ {fo : Env → R Env (AV × Env)} {fas : Env → R Env (List AV × Env)} (pa : PlainAttrs Ty) (slot : Slot Ty name mid) (hty : typeOf (.builtin mid) = pure (.type "method_descriptor")) (hm : MtR X mid r) (om : OkMq X.K r g) (ho : JS X W o fo) (ha : JSA X W (e :: es) fas)
    (hbase : attributeBase o name X.env (eval o X.env) = eval o X.env := by rfl)
    (hfew : ((backTo cpos (starEach (e :: es) X.env)).all (fun x => !x.1) && (backToKw cpos (keywordEach [] X.env)).all (fun x => x.1.isSome)
      && decide ((e :: es).length + ([] : List Keyword).length + (if ([] : List Keyword).isEmpty then 0 else 1) < 30)) = true := by rfl)
    (hline : (apos.endLine == cpos.line) = true := by rfl) (hs : starEach (e :: es) X.env = (false, eval e X.env) :: starEach es X.env := by rfl) (hplain : (backTo cpos (starEach es X.env)).any (·.1) = false := by rfl) :
    JS X W (.Call (.Attribute o name apos) (e :: es) [] cpos) (sMethQ Ty g fo fas) := peM (pe_bm pa slot hty hm ho ha hbase hfew hline hs hplain) fun _ _ _ q => fs_methQ om q
theorem reps_ins {H : Hp} {p : P} {y : V} (hp : RepP H p y) : ∀ {ts : List T} {xs : List V} {A : Fp} (i : Nat), Reps H ts xs A → Reps H (ts.take i ++ [.pv p] ++ ts.drop i) (xs.take i ++ [y] ++ xs.drop i) A
  | ts, xs, A, 0, h => by
    rw [List.take_zero, List.take_zero, List.drop_zero, List.drop_zero]
    exact ⟨y, xs, emp, A, rfl, hp, h, fun _ z => z.elim, fun _ z => z, fun _ z => z.elim⟩
  | [], _, A, i + 1, h => by
    have e := h; unfold Reps at e; subst e
    exact ⟨y, [], emp, emp, rfl, hp, rfl, fun _ z => z.elim, fun _ z => z.elim, fun _ z => z.elim⟩
  | t :: ts, _, A, i + 1, ⟨x, r, B, C, e, h1, h2, s1, s2, d⟩ => by
    subst e
    exact ⟨x, _, B, C, rfl, h1, reps_ins hp i h2, s1, s2, d⟩
theorem m_insert : OkMV K (fun x vs H Q => ∃ (l : Addr) (xs : List V) (i : Int) (y : V), x = .ref l ∧ vs = [.int i, y] ∧ H l = some (.lst xs) ∧ xs.length < sizeLine ∧ 0 ≤ i ∧ i < 2 ^ 63 ∧
    Q .non (upd H l (.lst (xs.take i.toNat ++ [y] ++ xs.drop i.toNat)))) muInsert := by
  intro H t v A args vs t' q r ra e Q n
  unfold muInsert at e
  split at e
  · rename_i ts i p
    split at e
    · rename_i hc
      cases e
      obtain ⟨a, xs, rfl, hq, m, hv⟩ := r
      obtain ⟨y1, y2, rfl, h1, h2⟩ := vws2 ra
      have e1 : y1 = .int i := h1
      subst e1
      have l1 := Reps.len hv
      refine ⟨a, xs, i, y2, rfl, rfl, hq, by rw [l1, sizeLine_eq]; exact hc.1, hc.2.1, by omega, ?_⟩
      have rp : RepP H p y2 := h2
      have r1 := Reps.put (ys := xs.take i.toNat ++ [y2] ++ xs.drop i.toNat) hq (reps_ins rp i.toNat hv) (fun z => z.2 rfl)
      exact n _ _ A emp ⟨a, _, rfl, upd_same, m, r1⟩ rfl (fun _ z => z.elim) (fun b z => z.elim id fun y => y.elim) (lst_put hq m)
    · cases e
  · cases e
end
end TR
namespace TR
open PySem PySem.Spec PyProof.Rows L2
def gGet : T → T → T → Option T
  | .dct tk ks ts, .pv k, d => if isKey tk k = true then pureO (some ((lookT ks ts k).getD d)) else none
  | _, _, _ => none
def isDct : T → Bool
  | .dct _ _ _ => true
  | _ => false
def fGet2 (fo fk fd : Env → R Unit T) : Env → R Unit T := fun ρ => (fo ρ).bind fun t => if isDct t = false then .bad else (fk ρ).bind fun k => (fd ρ).bind fun d => R.of (gGet t k d)
def fGet1 (fo fk : Env → R Unit T) : Env → R Unit T := fun ρ => (fo ρ).bind fun t => if isDct t = false then .bad else (fk ρ).bind fun k => R.of (gGet t k (.pv .non))
section
variable {X : Cx} {W : WX} {K : PySem.W.Frag} {mg : Str → Option Value}
theorem get_ok {H : Hp} {t k d q : T} {v y z : V} (h1 : Vw K top H t v) (h2 : Vw K top H k y) (h3 : Vw K top H d z) (e : gGet t k d = some q) {Q : VK} (n : NewR H q Q) : ∃ a, v = .ref a ∧ ∃ o, DGet H a y o ∧ Q (o.getD z) H := by
  unfold gGet at e
  split at e
  · rename_i tk ks ts k
    split at e
    · rename_i hk
      obtain ⟨a, xs, rfl, hd, hv⟩ := h1
      have g := dget_ok (H := H) (y := y) (p := k) (fun o r => r.elim (fun z => .inl z.1) fun ⟨ob, z⟩ => .inr ⟨ob, z⟩) hd hk h2
      refine ⟨a, rfl, _, g, ?_⟩
      have hl2 : xs.length = ts.length := (Vws.len hv).symm
      have hlen : ks.length = xs.length := by
        obtain ⟨_, hd⟩ := hd
        cases tk with
        | false => obtain ⟨kv, _, e1, e2⟩ := hd; rw [e1, e2]; simp
        | true => obtain ⟨kv, _, e1, e2⟩ := hd; rw [e1, e2]; simp
      unfold lookT at e
      cases hi : idxP ks k with
      | none =>
        rw [hi] at e
        have e : pureO (some d) = some q := e
        cases d with
        | pv p => cases e; exact n.pure h3
        | _ => cases e
      | some j =>
        have hj := idxP_lt hi
        rw [hi] at e
        have ht : ts[j]? = some ts[j] := List.getElem?_eq_getElem (by omega)
        obtain ⟨x, e1, r⟩ := vws_at hv ht
        have e : pureO (some ((ts[j]?).getD d)) = some q := e
        rw [ht] at e
        have e : pureO (some ts[j]) = some q := e
        rw [Option.bind_some, e1]
        generalize ts[j] = u at r e
        cases u with
        | pv p => cases e; exact n.pure r
        | _ => cases e
    · cases e
  · cases e
theorem isD_of {H : Hp} {t : T} {v : V} (h : Vw K top H t v) (e : isDct t = true) : ∃ a, v = .ref a ∧ IsD H a := by
  cases t with
  | dct tk ks ts =>
    obtain ⟨a, xs, rfl, ⟨_, hd⟩, _⟩ := h
    refine ⟨a, rfl, ?_⟩
    cases tk with
    | false => obtain ⟨kv, q, _⟩ := hd; exact .inl ⟨kv, q.elim (fun z => .inl z.1) fun ⟨ob, z⟩ => .inr ⟨ob, z⟩⟩
    | true => obtain ⟨kv, q, _⟩ := hd; exact .inr ⟨kv, q.elim (fun z => .inl z.1) fun ⟨ob, z⟩ => .inr ⟨ob, z⟩⟩
  | _ => cases e
variable {o e f : Expr} {apos cpos : Pos}
theorem q_get2 {fo fk fd : Env → R Unit T} (hu : X.A.units + 1 < cLine) (ho : JQ X W .e o fo) (he : JQ X W .e e fk) (hf : JQ X W .e f fd) (m : M2 X o "get" apos e f cpos) : JQ X W .o (.Call (.Attribute o "get" apos) [e, f] [] cpos) (fGet2 fo fk fd) := peM (pe_dget2 hu ho he hf m) fun σ H Q ⟨ρ, Z, A, G, q⟩ => by
  refine ⟨ρ, Z, A, G, ?_⟩
  revert q
  unfold fGet2
  cases fo ρ with
  | ok t =>
    intro q v H1 e1 r1
    rw [R.bind_ok] at q
    cases hd : isDct t with
    | false => rw [hd, if_pos rfl] at q; exact q.elim
    | true =>
    rw [hd, if_neg (by decide)] at q
    obtain ⟨a0, ea, hD⟩ := isD_of r1 hd
    refine ⟨a0, ea, hD, ρ, Z, A, G.ext e1, ?_⟩
    revert q
    cases fk ρ with
    | ok k =>
      intro q y H2 e2 r2
      refine ⟨ρ, Z, A, (G.ext e1).ext e2, ?_⟩
      revert q
      rw [R.bind_ok]
      cases fd ρ with
      | ok d =>
        intro q z H3 e3 r3
        rw [R.bind_ok] at q
        cases hg : gGet t k d with
        | none => rw [hg] at q; exact q.elim
        | some x =>
          rw [hg] at q
          have e23 := e2.trans e3
          have e13 := e1.trans e23
          obtain ⟨a1, ea1, fin⟩ := get_ok (Q := Q) (Vw.kp (e23.kp (C := top)) t v r1) (Vw.kp (e3.kp (C := top)) k y r2) r3 hg fun v' H' B e4 rep fr al => q v' H' (e13.trans e4) ⟨B, rep, fun a ha => e13.fresh (fr a ha), al⟩
          rw [ea] at ea1
          cases ea1
          exact fin
      | exc e x => exact fun q cls d H' e3 x => q cls d H' (e1.trans (e2.trans e3)) x
      | bad => exact fun q => q.elim
    | exc e x => exact fun q cls d H' e2 x => q cls d H' (e1.trans e2) x
    | bad => exact fun q => q.elim
  | exc e x => exact fun q => q
  | bad => exact fun q => q.elim
theorem q_get1 {fo fk : Env → R Unit T} (hu : X.A.units + 1 < cLine) (ho : JQ X W .e o fo) (he : JQ X W .e e fk) (m : M1 X o "get" apos e cpos) : JQ X W .o (.Call (.Attribute o "get" apos) [e] [] cpos) (fGet1 fo fk) := peM (pe_dget1 hu ho he m) fun σ H Q ⟨ρ, Z, A, G, q⟩ => by
  refine ⟨ρ, Z, A, G, ?_⟩
  revert q
  unfold fGet1
  cases fo ρ with
  | ok t =>
    intro q v H1 e1 r1
    rw [R.bind_ok] at q
    cases hd : isDct t with
    | false => rw [hd, if_pos rfl] at q; exact q.elim
    | true =>
    rw [hd, if_neg (by decide)] at q
    obtain ⟨a0, ea, hD⟩ := isD_of r1 hd
    refine ⟨a0, ea, hD, ρ, Z, A, G.ext e1, ?_⟩
    revert q
    cases fk ρ with
    | ok k =>
      intro q y H2 e2 r2
      rw [R.bind_ok] at q
      cases hg : gGet t k (.pv .non) with
      | none => rw [hg] at q; exact q.elim
      | some x =>
        rw [hg] at q
        have e12 := e1.trans e2
        obtain ⟨a1, ea1, fin⟩ := get_ok (Q := Q) (z := .non) (Vw.kp (e2.kp (C := top)) t v r1) r2 (show Vw X.K top H2 (.pv .non) .non from rfl) hg fun v' H' B e4 rep fr al => q v' H' (e12.trans e4) ⟨B, rep, fun a ha => e12.fresh (fr a ha), al⟩
        rw [ea] at ea1
        cases ea1
        exact fin
    | exc e x => exact fun q cls d H' e2 x => q cls d H' (e1.trans e2) x
    | bad => exact fun q => q.elim
  | exc e x => exact fun q => q
  | bad => exact fun q => q.elim
end
end TR
namespace TR
open PySem PySem.Spec PyProof.Rows L2
def enSl (i : Nat) : T → Sl
  | .pv p => .ow (.pv (.tup [.int (i : Nat), p]))
  | t => .vw (.tup [.pv (.int (i : Nat)), t])
def enumFrom (i : Nat) : List T → List Sl
  | [] => []
  | t :: ts => enSl i t :: enumFrom (i + 1) ts
def iEnumF (f : Env → R Unit T) : Env → R Unit (List Sl) := fun ρ => (f ρ).bind fun t => R.of ((itL t).map (enumFrom 0))
theorem enumFrom_get : ∀ {ts : List T} {k j : Nat} {s : Sl}, (enumFrom k ts)[j]? = some s → ∃ t, ts[j]? = some t ∧ s = enSl (k + j) t
  | t :: ts, k, 0, s, h => by cases h; exact ⟨t, rfl, rfl⟩
  | t :: ts, k, j + 1, s, h => by
    obtain ⟨u, e1, e2⟩ := enumFrom_get (ts := ts) (k := k + 1) (j := j) (by simpa [enumFrom] using h)
    exact ⟨u, by simpa using e1, by rw [e2, show k + 1 + j = k + (j + 1) by omega]⟩
  | [], _, _, _, h => by simp [enumFrom] at h
theorem enumFrom_len : ∀ (ts : List T) (k : Nat), (enumFrom k ts).length = ts.length
  | [], _ => rfl
  | t :: ts, k => by simp [enumFrom, enumFrom_len ts (k + 1)]
section
variable {X : Cx} {W : WX} {K : PySem.W.Frag}
theorem i_enum {e : Expr} {p pos tpos : Pos} {elts : List Expr} {kk : Nat} {f : Env → R Unit T} (hg : Gl X "enumerate") (hm : X.mg "enumerate" = none) (ha : JQ X W .z e f) (hs : starEach [e] X.env = [(false, eval e X.env)] := by rfl) :
    JI X W (.Tuple elts kk tpos) (.Call (.Name "enumerate" p) [e] [] pos) (iEnumF f) := piM (piB (pi_enum hg hm (pa_cons ha pa_nil hs) hs)) fun σ H Rq ⟨ρ, Z, A, G, q⟩ => by
  refine ⟨ρ, Z, A, G, ?_⟩
  revert q
  unfold iEnumF
  cases f ρ with
  | ok t =>
    intro q v H1 e1 r1
    rw [R.bind_ok] at q
    cases hl : itL t with
    | none => rw [hl] at q; exact q.elim
    | some ts =>
      rw [hl] at q
      have r1' : Vw X.K Z H1 t v := r1
      obtain ⟨a, xs, ev, hq, hv⟩ := vw_L r1' hl
      refine ⟨a, xs, by rw [ev], hq, fun bnd => ?_⟩
      refine q (Ite X.K a) H1 Z e1 (fun _ h => h) G.dis (e1.al G.alZ) ?_ ?_
      · intro H' kp
        obtain ⟨a', xs', ev', hq', hv'⟩ := vw_L (Vw.kp kp t v r1') hl
        rw [ev] at ev'
        cases ev'
        refine ⟨fun i s hs' => ?_, xs', hq', by rw [enumFrom_len, Vws.len hv']; exact Nat.le_refl _⟩
        obtain ⟨u, hu, es⟩ := enumFrom_get hs'
        rw [Nat.zero_add] at es
        obtain ⟨x, hx, rx⟩ := vws_at hv' hu
        refine ⟨⟨xs', x, hq', hx⟩, fun w H'' y => ?_⟩
        obtain ⟨Tp, x2, rfl, hT, rfl, hall⟩ := y
        have ex : x2 = x := Option.some.inj ((hall xs' hq').symm.trans hx)
        subst ex
        have e2 := Ext.new (o := .tup [.int (i : Nat), x2]) hT
        refine ⟨e2, emp, ?_, fun _ z => z.elim, fun _ z => z.elim⟩
        have rx' : Vw X.K Z (upd H' Tp (.tup [.int (i : Nat), x2])) u x2 := Vw.kp (e2.kp (C := emp)) u x2 rx
        rw [es]
        cases u with
        | pv p => exact ⟨_, rfl, Tp, _, rfl, upd_same, _, _, rfl, rfl, _, _, rfl, rx', rfl⟩
        | tup us => exact ⟨_, rfl, Tp, _, rfl, upd_same, _, _, rfl, rfl, _, _, rfl, rx', rfl⟩
        | lst us => exact ⟨_, rfl, Tp, _, rfl, upd_same, _, _, rfl, rfl, _, _, rfl, rx', rfl⟩
        | fls us => exact ⟨_, rfl, Tp, _, rfl, upd_same, _, _, rfl, rfl, _, _, rfl, rx', rfl⟩
        | dct b ks us => exact ⟨_, rfl, Tp, _, rfl, upd_same, _, _, rfl, rfl, _, _, rfl, rx', rfl⟩
      · rw [enumFrom_len, Vws.len hv]
        exact bnd.1 a xs hq
  | exc e x => exact fun q => q
  | bad => exact fun q => q.elim
end
end TR
namespace TR
open PySem PySem.Spec PyProof.Rows L2
def FOS (K : PySem.W.Frag) (mg : Str → Option Value) (W : WX) (f : Env → R Env (Option Int × Env)) : TO := fun σ H Q => ∃ ρ Z A, Good K Z H σ ρ A ∧ match f ρ with
  | .ok (o, ρ') => ∀ H' A', Good K Z H' σ ρ' A' → Step H A H' A' → Q o H'
  | .exc e ρ' => ∀ cls d H' A', Good K Z H' σ ρ' A' → Step H A H' A' → ExcRep mg H' e cls d → W cls d σ H'
  | .bad => False
def JOS (X : Cx) (W : WX) (e : Option Expr) (f : Env → R Env (Option Int × Env)) : Prop := ∃ t, PO X e t ∧ ∀ σ H Q, FOS X.K X.mg W f σ H Q → t σ H Q
def sPNone : Env → R Env (Option Int × Env) := fun ρ => .ok (none, ρ)
def sPSome (f : Env → R Env (AV × Env)) : Env → R Env (Option Int × Env) := fun ρ => (f ρ).bind fun (x, ρ1) => match x.see ρ1 with
  | some (.pv (.int i)) => .ok (some i, ρ1)
  | _ => .bad
def sSl (f : Env → R Env (AV × Env)) (l h : Env → R Env (Option Int × Env)) : Env → R Env (AV × Env) := fun ρ => (f ρ).bind fun (x, ρ1) => (l ρ1).bind fun (lo, ρ2) => (h ρ2).bind fun (hi, ρ3) =>
  R.of ((x.see ρ3).bind fun t => (gSl t lo hi).map fun q => (AV.val q, ρ3))
section
variable {X : Cx} {W : WX} {K : PySem.W.Frag} {mg : Str → Option Value}
theorem jos_none : JOS X W none sPNone := ⟨_, po_none, fun σ H Q ⟨ρ, Z, A, G, q⟩ => q H A G (Step.refl H A)⟩
theorem jos_some {e : Expr} {f : Env → R Env (AV × Env)} (h : JS X W e f) : JOS X W (some e) (sPSome f) := ⟨_, po_some h, fun σ H Q ⟨ρ, Z, A, G, q⟩ => by
  refine ⟨ρ, Z, A, G, ?_⟩
  revert q
  unfold sPSome
  cases f ρ with
  | ok x =>
    obtain ⟨a, ρ1⟩ := x
    intro q v H1 A1 B1 G1 r1 d1 al1 st1
    simp only [R.bind_ok] at q
    have st1' : Step H A H1 A1 := st1.mono fun _ h => .inl h
    cases hs : a.see ρ1 with
    | none => rw [hs] at q; exact q.elim
    | some t =>
      rw [hs] at q
      have r := see_vw G1 r1 hs
      cases t with
      | pv p =>
        cases p with
        | int i => exact ⟨_, r, q H1 A1 G1 st1'⟩
        | _ => exact q.elim
      | _ => exact q.elim
  | exc e x => exact fun q => q
  | bad => exact fun q => q.elim⟩
theorem s_sl {e : Expr} {lo hi : Option Expr} {pos p2 : Pos} {f : Env → R Env (AV × Env)} {l h : Env → R Env (Option Int × Env)} (he : JS X W e f) (hl : JOS X W lo l) (hh : JOS X W hi h) : JS X W (.Subscript e (.Slice lo hi none p2) pos) (sSl f l h) := by
  obtain ⟨tl, pl, il⟩ := hl
  obtain ⟨th, ph, ih⟩ := hh
  refine peM (pe_slice sl_all he pl ph) fun σ H Q ⟨ρ, Z, A, G, q⟩ => ?_
  refine ⟨ρ, Z, A, G, ?_⟩
  revert q
  unfold sSl
  cases f ρ with
  | ok x =>
    obtain ⟨a, ρ1⟩ := x
    intro q v H1 A1 B1 G1 r1 d1 al1 st1
    have st1' : Step H A H1 A1 := st1.mono fun _ h => .inl h
    refine il _ _ _ ⟨ρ1, Z, A1, G1, ?_⟩
    revert q
    simp only [R.bind_ok]
    cases l ρ1 with
    | ok u =>
      obtain ⟨lo', ρ2⟩ := u
      intro q H2 A2 G2 st2
      refine ih _ _ _ ⟨ρ2, Z, A2, G2, ?_⟩
      revert q
      simp only [R.bind_ok]
      cases h ρ2 with
      | ok w =>
        obtain ⟨hi', ρ3⟩ := w
        intro q H3 A3 G3 st3
        simp only [R.bind_ok] at q
        have r2 : AvRep σ H2 a v B1 := r1.kp (st2.kp d1 G1.dis)
        have d2 : Disj B1 A2 := st2.disj d1 al1
        have r3 : AvRep σ H3 a v B1 := r2.kp (st3.kp d2 G2.dis)
        cases hs : a.see ρ3 with
        | none => rw [hs] at q; exact q.elim
        | some t =>
          cases hg : gSl t lo' hi' with
          | none => rw [hs] at q; simp only [Option.bind_some, hg] at q; exact q.elim
          | some z =>
            rw [hs] at q
            simp only [Option.bind_some, hg] at q
            have st : Step H A H3 A3 := (st1'.trans st2).trans st3
            exact k_sl (see_vw G3 r3 hs) hg fun v' H' B e4 rep fr al => q v' H' A3 B (G3.ext e4) rep (fun x hb ha => G3.alA x ha (fr x hb)) al (st.trans (Step.ext e4 fr))
      | exc e x => exact fun q cls d H' A' G' s' x => q cls d H' A' G' ((st1'.trans st2).trans s') x
      | bad => exact fun q => q.elim
    | exc e x => exact fun q cls d H' A' G' s' x => q cls d H' A' G' (st1'.trans s') x
    | bad => exact fun q => q.elim
  | exc e x => exact fun q => q
  | bad => exact fun q => q.elim
end
def gRevL : T → Option T
  | .lst ts => (pvs ts).map fun ps => .lst (ps.reverse.map .pv)
  | .fls ts => (pvs ts).map fun ps => .lst (ps.reverse.map .pv)
  | _ => none
theorem repPs_rev {H : Hp} {ps : List P} {xs : List V} (h : RepPs H ps xs) : RepPs H ps.reverse xs.reverse := by
  have app : ∀ (ps : List P) (xs : List V) (qs : List P) (ys : List V), RepPs H ps xs → RepPs H qs ys → RepPs H (ps ++ qs) (xs ++ ys) := by
    intro ps
    induction ps with
    | nil => intro xs qs ys h h2; have e : xs = [] := h; subst e; exact h2
    | cons p ps ih =>
      intro xs qs ys h h2
      obtain ⟨x, r, rfl, h1, h3⟩ := h
      exact ⟨x, r ++ ys, rfl, h1, ih r qs ys h3 h2⟩
  induction ps generalizing xs with
  | nil => have e : xs = [] := h; subst e; rfl
  | cons p ps ih =>
    obtain ⟨x, r, rfl, h1, h2⟩ := h
    rw [List.reverse_cons, List.reverse_cons]
    exact app _ _ _ _ (ih h2) ⟨x, [], rfl, h1, rfl⟩
section
variable {X : Cx} {W : WX} {K : PySem.W.Frag} {mg : Str → Option Value}
theorem q_revL {e : Expr} {k : Nat} {p1 p2 p3 pos : Pos} {f : Env → R Unit T} (he : JQ X W .e e f) : JQ X W .o (.Subscript e (.Slice none none (some (.UnaryOp .USub (.Constant (.int 1) k p1) p2)) p3) pos) (f1 gRevL f) := by
  refine peM (pe_revL he) fun σ H Q ⟨ρ, Z, A, G, q⟩ => ⟨ρ, Z, A, G, ?_⟩
  revert q
  unfold f1
  cases f ρ with
  | ok t =>
    intro q v H1 e1 r1
    rw [R.bind_ok] at q
    have go : ∀ ts, (∃ a xs, v = .ref a ∧ SqL X.K H1 a xs ∧ Vws X.K top H1 ts xs) → gRevL t = (pvs ts).map (fun ps => T.lst (ps.reverse.map .pv)) → ∃ a xs, v = .ref a ∧ SqL X.K H1 a xs ∧ ∀ p, H1 p = none → Q (.ref p) (upd H1 p (.lst xs.reverse)) := by
      intro ts ⟨a, xs, ev, hq, hv⟩ eg
      rw [eg] at q
      cases hp : pvs ts with
      | none => rw [hp] at q; exact q.elim
      | some ps =>
        rw [hp] at q
        have hts := pvs_eq hp
        subst hts
        refine ⟨a, xs, ev, hq, fun p hp0 => ?_⟩
        have n : NewR H1 (.lst (ps.reverse.map .pv)) Q := fun v' H' B e3 rep fr al => q v' H' (e1.trans e3) ⟨B, rep, fun a ha => e1.fresh (fr a ha), al⟩
        exact n.lst hp0 (pvs_reps ((repPs_rev (vws_pvs hv)).ext (Ext.new hp0)))
    cases t with
    | lst ts =>
      obtain ⟨a, xs, rfl, hq, hv⟩ := r1
      exact go ts ⟨a, xs, rfl, .inl (.inl hq.1), hv⟩ rfl
    | fls ts =>
      obtain ⟨a, xs, rfl, hq, hv⟩ := r1
      exact go ts ⟨a, xs, rfl, hq.sq, hv⟩ rfl
    | pv p => exact q.elim
    | tup ts => exact q.elim
    | dct tk ks ts => exact q.elim
  | exc e x => exact fun q => q
  | bad => exact fun q => q.elim
end
end TR
namespace HT
open PySem PySem.Spec PyProof.Rows
def revN (lo : Option Int) (n : Nat) : Nat := match lo with
  | none => n
  | some i => min (i.toNat + 1) n
theorem revN_le (lo : Option Int) (n : Nat) : revN lo n ≤ n := by
  unfold revN
  cases lo with
  | none => exact Nat.le_refl _
  | some i => exact Nat.min_le_right _ _
theorem adjust_rev (lo : Option Int) (n : Nat) (h : ∀ i, lo = some i → 0 ≤ i) : Builtin.Slice.sliceAdjust lo none (-1) (n : Int) = (((revN lo n : Nat) : Int) - 1, -1) := by
  unfold Builtin.Slice.sliceAdjust revN
  cases lo with
  | none => rfl
  | some i =>
    have := h i rfl
    show ((if i < 0 then max (i + (n : Int)) (-1) else min i ((n : Int) - 1)), (-1 : Int)) = (((min (i.toNat + 1) n : Nat) : Int) - 1, -1)
    rw [if_neg (by omega)]
    congr 1
    omega
theorem places_rev (k : Nat) : Builtin.Slice.slicePlaces ((k : Int) - 1) (-1) (-1) = k := by
  unfold Builtin.Slice.slicePlaces
  rw [if_neg (by decide)]
  by_cases h : k = 0
  · subst h; rfl
  · rw [if_pos (by omega), show (-(-1 : Int)) = 1 by decide, Int.ediv_one]
    omega
theorem pick_rev (xs : Array Value) (k : Nat) (h : k ≤ xs.size) : ((List.range k).filterMap fun (m : Nat) => xs[(((k : Int) - 1) + (m : Int) * (-1)).toNat]?).toArray = (xs.toList.take k).reverse.toArray := by
  congr 1
  have e : (List.range k).filterMap (fun (m : Nat) => xs[(((k : Int) - 1) + (m : Int) * (-1)).toNat]?) = (List.range k).reverse.filterMap (xs[·]?) := by
    rw [← PySem.W.krv_range, List.filterMap_map]
    have : ∀ l : List Nat, (∀ m ∈ l, m < k) → l.filterMap (fun (m : Nat) => xs[(((k : Int) - 1) + (m : Int) * (-1)).toNat]?) = l.filterMap ((xs[·]?) ∘ fun m => k - 1 - m) := by
      intro l
      induction l with
      | nil => intro _; rfl
      | cons m l ih =>
        intro hl
        have hm := hl m List.mem_cons_self
        have e1 : xs[(((k : Int) - 1) + (m : Int) * (-1)).toNat]? = ((xs[·]?) ∘ fun m => k - 1 - m) m := by
          show _ = xs[k - 1 - m]?
          congr 1
          omega
        rw [List.filterMap_cons, List.filterMap_cons, e1, ih fun j hj => hl j (List.mem_cons_of_mem _ hj)]
    exact this _ fun m hm => List.mem_range.mp hm
  rw [e, List.filterMap_reverse]
  congr 1
  have h := pick_run xs 0 k
  rw [show ((0 + ·) : Nat → Nat) = id from funext fun k => Nat.zero_add k, List.map_id, List.drop_zero] at h
  exact h
section
variable {prog : Program} {w : World} {A : Around} {E : Value → Shared → Prop} {s : Shared}
theorem sliceApplied_rev {sl : Addr} {vl vs : Value} {lo : Option Int} {n : Nat} {Q : Int × Int × Nat → Shared → Prop} (hs : s.heap.IsSliceOf sl vl .none vs) (pl : IsPart vl lo) (ps : IsPart vs (some (-1))) (h0 : ∀ i, lo = some i → 0 ≤ i)
    (h : Q (((revN lo n : Nat) : Int) - 1, -1, revN lo n) s) : wpAny (model prog w) A (Builtin.Slice.sliceApplied (.ref sl) (pure (n : Int))) Q E s := by
  obtain ⟨os, hos, hcs, hds⟩ := id hs
  unfold Builtin.Slice.sliceApplied Builtin.Slice.sliceFields
  refine wpAny_bind (wpAny_bind (wpAny_field hos hds (x := vl) rfl (wpAny_bind (wpAny_field hos hds (x := .none) rfl (wpAny_bind (wpAny_field hos hds (x := vs) rfl (wpAny_pure ?_)))))))
  refine wpAny_bind (slicePart_ ps ?_)
  show wpAny _ _ (if ((-1 : Int) == 0) = true then _ else _) _ _ s
  rw [if_neg (by decide)]
  refine wpAny_bind (slicePart_ pl (wpAny_bind (slicePart_ .none (wpAny_bind (wpAny_pure ?_)))))
  show wpAny _ _ (match Builtin.Slice.sliceAdjust lo none (-1) (n : Int) with | (lo, hi) => pure (lo, (-1 : Int), Builtin.Slice.slicePlaces lo hi (-1))) _ _ s
  rw [adjust_rev lo n h0]
  show wpAny _ _ (pure (((revN lo n : Nat) : Int) - 1, (-1 : Int), Builtin.Slice.slicePlaces (((revN lo n : Nat) : Int) - 1) (-1) (-1))) _ _ s
  rw [places_rev]
  exact wpAny_pure h
theorem getItem_tuple_rev {t sl : Addr} {items : Array Value} {vl vs : Value} {lo : Option Int} {Q : Value → Shared → Prop} (ht : IsTup s.heap t items) (hs : s.heap.IsSliceOf sl vl .none vs) (pl : IsPart vl lo) (ps : IsPart vs (some (-1))) (h0 : ∀ i, lo = some i → 0 ≤ i)
    (h : Q (.ref s.heap.objs.size) { s with heap := s.heap.push { cls := .type "tuple", data := .seq (items.toList.take (revN lo items.size)).reverse.toArray } })
    (hsz : items.size ≤ sizeLine) : wpAny (model prog w) A (getItem (.ref t) (.ref sl)) Q E s := by
  have htake : sizeOk (.seq (items.toList.take (revN lo items.size)).reverse.toArray) := by
    show ((items.toList.take (revN lo items.size)).reverse.toArray).size ≤ sizeLine
    rw [List.size_toArray, List.length_reverse, List.length_take]
    have := revN_le lo items.size
    omega
  obtain ⟨os, hos, hcs, hds⟩ := id hs
  have hTs : s.TypeIs (.ref sl) "slice" := ⟨os, hos, hcs⟩
  unfold getItem
  try with_reducible refine wpAny_holding ?_
  first | refine wpAny_bind (wpAny_pure ?_) | skip
  refine wpAny_bind (wpAny_sequenceKey ht.typeIs (by decide) ?_)
  refine wpAny_bind (wpAny_callSpecial?_slot (name := Str.ofString "__getitem__") ht.typeIs PyProof.Rows.slot_tuple_getitem
    (wpAny_call_entry PyProof.Rows.slot_tuple_getitem ht.typeIs entry_tuple_getitem ?_ (args_tuple_getitem _ _)))
  show wpAny _ _ (Builtin.Tuple.tupleItemsOf (.ref t) >>= _) _ _ s
  refine wpAny_bind (tupleItemsOf_ ht ?_)
  refine wpAny_bind (wpAny_typeOf hTs ?_)
  rw [if_pos (by decide)]
  refine wpAny_bind (sliceApplied_rev hs pl ps h0 ?_)
  have hno : ¬ (((((revN lo items.size : Nat) : Int) - 1) == 0 && (-1 : Int) == 1 && (revN lo items.size) == items.size) = true) := by
    intro q
    rw [Bool.and_eq_true, Bool.and_eq_true] at q
    exact absurd q.1.2 (by decide)
  show wpAny _ _ (if ((((revN lo items.size : Nat) : Int) - 1) == 0 && (-1 : Int) == 1 && (revN lo items.size) == items.size) = true then _ else _) _ _ s
  rw [if_neg hno, pick_rev _ _ (revN_le _ _)]
  first
    | exact wpAny_bind (m := Builtin.Tuple.tupleExact _) (wpAny_newObj_type (wpAny_pure ⟨_, rfl, wpAny_pure h⟩) htake)
    | exact wpAny_bind (m := Builtin.Tuple.tupleExact _) (wpAny_newObj_type (wpAny_bind (wpAny_pure (wpAny_pure ⟨_, rfl, wpAny_pure h⟩))) htake)
    | exact wpAny_bind (wpAny_bind (m := Builtin.Tuple.tupleExact _) (wpAny_newObj_type (wpAny_pure (wpAny_pure ⟨_, rfl, wpAny_pure h⟩)) htake))
    | exact wpAny_bind (wpAny_bind (m := Builtin.Tuple.tupleExact _) (wpAny_newObj_type (wpAny_pure ⟨_, rfl, wpAny_pure h⟩) htake))
end
end HT
namespace TR
open PySem PySem.Spec PyProof.Rows L2
section
variable {X : Cx} {W : WX} {K : PySem.W.Frag} {mg : Str → Option Value}
def tRevT (K : PySem.W.Frag) (lo : Option Int) (te : TE) : TE := fun σ H Q => te σ H fun x H1 => ∃ a xs, x = .ref a ∧ SqT K H1 a xs ∧ ∀ p, H1 p = none → Q (.ref p) (upd H1 p (.tup (xs.take (HT.revN lo xs.length)).reverse))
def loE : Option Int → Nat → Pos → Option Expr
  | none, _, _ => none
  | some i, k, p => some (.Constant (.int i) k p)
theorem pe_revT {e : Expr} {te : TE} {lo : Option Int} {k k0 : Nat} {p0 p1 p2 p3 pos : Pos} (h0 : ∀ i, lo = some i → 0 ≤ i) (he : PE X e te) : PE X (.Subscript e (.Slice (loE lo k0 p0) none (some (.UnaryOp .USub (.Constant (.int 1) k p1) p2)) p3) pos) (tRevT X.K lo te) := by
  refine ⟨fun pins s σ H Q I h => ?_⟩
  refine Subscript_ (thn (he.run pins s σ H _ I h) fun v s1 ⟨x, H1, I1, r1, q1⟩ => ?_)
  obtain ⟨a, xs, ex, hx, q⟩ := q1
  subst ex
  cases r1
  have hst : PO X (some (.UnaryOp .USub (.Constant (.int 1) k p1) p2)) (tPart (tUn (rU fun i => .int (-i)) (tC (.int 1)))) := po_some (pe_un un_neg pe_int)
  have hlo : ∃ t, PO X (loE lo k0 p0) t ∧ ∀ (Q : Option Int → Hp → Prop) H, Q lo H → t σ H Q := by
    cases lo with
    | none => exact ⟨_, po_none, fun Q H h => h⟩
    | some i => exact ⟨_, po_some pe_int, fun Q H h => ⟨i, rfl, h⟩⟩
  obtain ⟨tlo, plo, ilo⟩ := hlo
  refine wpAny_Slice (thn (plo.run pins s1 σ H1 (fun o H2 => o = lo ∧ H2 = H1) I1 (ilo _ _ ⟨rfl, rfl⟩)) fun vl s2 ⟨l, H2, I2, pl, el, e2⟩ => ?_)
  subst el e2
  refine thn (po_none.run pins s2 σ H2 (fun o H3 => o = none ∧ H3 = H2) I2 ⟨rfl, rfl⟩) fun vu s3 ⟨u, H3, I3, pu, eu, e3⟩ => ?_
  subst eu e3
  cases pu
  refine thn (hst.run pins s3 σ H3 (fun o H4 => o = some (-1) ∧ H4 = H3) I3 ⟨1, rfl, -1, rfl, rfl, rfl⟩) fun vs s4 ⟨o, H4, I4, ps, eo, e4⟩ => ?_
  subst eo e4
  have I5 : Inv X pins σ H4 { s4 with heap := s4.heap.push { cls := .type "slice", data := .fields #[vl, .none, vs] } } := I4.kept (t' := s4.toks) fun b ob q => Heap.get?_push_of_some _ q
  obtain ⟨its, r, ht, hz⟩ := I5.tuple hx
  have hlen : its.toArray.size = xs.length := by rw [List.size_toArray]; exact r.length.symm
  show wpAny (model X.prog X.w) X.A (subscriptTail e (.Slice (loE l k0 p0) none (some (.UnaryOp .USub (.Constant (.int 1) k p1) p2)) p3) (.ref a) (.ref s4.heap.objs.size)) (EP X pins σ Q) X.xe { s4 with heap := s4.heap.push { cls := .type "slice", data := .fields #[vl, .none, vs] } }
  refine tail_any (ops := [.ref a, .ref s4.heap.objs.size]) ht.typeIs (PyProof.Rows.slot_tuple_getitem.lookup) ?_ (by with_unfolding_all rfl)
  refine HT.getItem_tuple_rev ht (Heap.IsSliceOf.new _ vl .none vs) pl ps h0 ?_ (by rw [hlen]; exact hz)
  rw [hlen]
  refine ⟨.ref _, _, I5.laid (t' := s4.toks) (o := .tup (xs.take (HT.revN l xs.length)).reverse) (fun b ob q => Heap.get?_push_of_some _ q) (Nat.le_refl _) ?_, rfl, q _ (I5.hok.fresh (Nat.le_refl _))⟩
  refine ⟨by rw [List.length_reverse, List.length_take]; omega, _, (r.take (HT.revN l xs.length)).reverse, IsTup.new _ _⟩
def gRevT (lo : Option Int) : T → Option T
  | .pv (.tup ps) => some (.pv (.tup (ps.take (HT.revN lo ps.length)).reverse))
  | _ => none
theorem q_revT {lo : Option Int} {e : Expr} {k k0 : Nat} {p0 p1 p2 p3 pos : Pos} {f : Env → R Unit T} (h0 : ∀ i, lo = some i → 0 ≤ i) (he : JQ X W .e e f) : JQ X W .o (.Subscript e (.Slice (loE lo k0 p0) none (some (.UnaryOp .USub (.Constant (.int 1) k p1) p2)) p3) pos) (f1 (gRevT lo) f) := by
  refine peM (pe_revT h0 he) fun σ H Q ⟨ρ, Z, A, G, q⟩ => ⟨ρ, Z, A, G, ?_⟩
  revert q
  unfold f1
  cases f ρ with
  | ok t =>
    intro q v H1 e1 r1
    rw [R.bind_ok] at q
    cases t with
    | pv p =>
      cases p with
      | tup ps =>
        obtain ⟨a, xs, ev, hq, hv⟩ := r1
        refine ⟨a, xs, ev, .inl (.inl hq), fun p hp0 => ?_⟩
        have n : NewR H1 (.pv (.tup (ps.take (HT.revN lo ps.length)).reverse)) Q := fun v' H' B e3 rep fr al => q v' H' (e1.trans e3) ⟨B, rep, fun a ha => e1.fresh (fr a ha), al⟩
        have hl : xs.length = ps.length := repPs_len hv
        rw [hl]
        have h2 : Vws X.K top H1 (ps.map .pv) xs := pvs_vws hv
        have h3 := vws_take (HT.revN lo ps.length) h2
        rw [← List.map_take] at h3
        exact n.tup hp0 ((repPs_rev (vws_pvs h3)).ext (Ext.new hp0))
      | _ => exact q.elim
    | _ => exact q.elim
  | exc e x => exact fun q => q
  | bad => exact fun q => q.elim
theorem q_revT0 {e : Expr} {k : Nat} {p1 p2 p3 pos : Pos} {f : Env → R Unit T} (he : JQ X W .e e f) : JQ X W .o (.Subscript e (.Slice none none (some (.UnaryOp .USub (.Constant (.int 1) k p1) p2)) p3) pos) (f1 (gRevT none) f) := q_revT (lo := none) (k0 := 0) (p0 := pos) (fun i h => by cases h) he
theorem q_revTi {i : Nat} {e : Expr} {k k0 : Nat} {p0 p1 p2 p3 pos : Pos} {f : Env → R Unit T} (he : JQ X W .e e f) : JQ X W .o (.Subscript e (.Slice (some (.Constant (.int (i : Int)) k0 p0)) none (some (.UnaryOp .USub (.Constant (.int 1) k p1) p2)) p3) pos) (f1 (gRevT (some (i : Int))) f) := q_revT (lo := some (i : Int)) (fun j h => by cases h; omega) he
end
end TR
namespace TR
open PySem PySem.Spec PyProof.Rows L2
section
variable {X : Cx} {W : WX} {K : PySem.W.Frag} {H : Hp} {mg : Str → Option Value}
theorem repP_kV (k : Key) : RepP H (keyP k) (kV k) := by
  cases k with
  | inl i => rfl
  | inr x => rfl
theorem repPs_kV : ∀ ks : List Key, RepPs H (ks.map keyP) (ks.map kV)
  | [] => rfl
  | k :: ks => ⟨kV k, ks.map kV, rfl, repP_kV k, repPs_kV ks⟩
mutual
theorem reads_no {h : Heap} : ∀ (p : P) {v : Value} {as : List Addr}, Reads h v p.toD as → as = []
  | .non, _, _, r => by simp only [P.toD] at r; cases r; rfl
  | .bl _, _, _, r => by simp only [P.toD] at r; cases r; rfl
  | .int _, _, _, r => by simp only [P.toD] at r; cases r; rfl
  | .str _, _, _, r => by simp only [P.toD] at r; cases r; rfl
  | .tup ps, _, _, r => by
    simp only [P.toD] at r
    cases r with
    | tuple h1 h2 h3 h4 => exact readsAll_no ps h4
theorem readsAll_no {h : Heap} : ∀ (ps : List P) {vs : List Value} {as : List Addr}, ReadsAll h vs (P.toDs ps) as → as = []
  | [], _, _, r => by simp only [P.toDs] at r; cases r; rfl
  | p :: ps, _, _, r => by
    simp only [P.toDs] at r
    cases r with
    | cons h1 h2 => rw [reads_no p h1, readsAll_no ps h2]; rfl
end
theorem repPs_dT : ∀ {kvs : List (List Key × V)} {bs : List Addr}, IsKeys H kvs bs → RepPs H (kvs.map fun e => P.tup (e.1.map keyP)) (bs.map V.ref)
  | [], _, h => by cases h; rfl
  | e :: kvs, _, h => by
    cases h with
    | cons h1 h2 => exact ⟨_, _, rfl, ⟨_, _, rfl, h1, repPs_kV e.1⟩, repPs_dT h2⟩
theorem dct_src {pins : List (Addr × Obj)} {σ : Stt} {s : Shared} (I : L2.Inv X pins σ H s) {tk : Bool} {a : Addr} {ks : List P} {vs : List V} (d : DctAt tk (Rd H) a ks vs) :
    ∃ (n : Nat) (Pv : Nat → Value → Prop) (OK : Heap → Prop), PySem.W.KdlSrc X.prog X.w "dict" a a n Pv OK ∧ OK s.heap ∧ n ≤ sizeLine ∧ n = ks.length ∧ ∀ acc : Array Value, ItemsOf Pv acc n → ∃ xs, Vals xs acc.toList ∧ RepPs H ks xs := by
  cases tk with
  | false =>
    obtain ⟨_, kvs, hd, hk, _⟩ := d
    obtain ⟨z, lo, vs, rk, hd⟩ := (show ObjOk X.prog X.w H s.heap a (.dK kvs) from hd.ok I.hok)
    obtain ⟨ep, hat⟩ := hd.dictAt
    have hl : kvs.length = vs.length := Paired.length rk
    refine ⟨_, _, _, PySem.W.kdl_dict (knd := mixKind X.prog X.w) (kvs := vs) (ep := ep) lo, hat, by rw [← hl]; exact z, by rw [hk, List.length_map, hl], fun acc' hacc => ?_⟩
    refine ⟨kvs.map fun kv => kV kv.1, ?_, ?_⟩
    · have el : acc'.toList.length = acc'.size := by simp
      refine vals_of_at (by rw [List.length_map, el, hacc.1, hl]) fun j x w h1 h2 => ?_
      obtain ⟨k, y, hky, hi⟩ := hacc.2 j w (by rw [← Array.getElem?_toList]; exact h2)
      have e1 : (kvs.map (·.1))[j]? = some k := by
        rw [KV.keys rk, List.getElem?_map, hky] <;> rfl
      have e2 : (kvs.map fun kv => kV kv.1)[j]? = some (kV k) := by
        have e3 : (kvs.map fun kv => kV kv.1) = (kvs.map (·.1)).map kV := by rw [List.map_map] <;> rfl
        rw [e3, List.getElem?_map, e1] <;> rfl
      rw [e2] at h1
      cases h1
      exact keyIs_rel hi
    · subst hk
      have e3 : (kvs.map fun kv => kV kv.1) = (kvs.map (·.1)).map kV := by rw [List.map_map]; rfl
      have e4 : (kvs.map fun e => keyP e.1) = (kvs.map (·.1)).map keyP := by rw [List.map_map]; rfl
      rw [e3, e4]
      exact repPs_kV _
  | true =>
    obtain ⟨_, kvs, hd, hk, _⟩ := d
    obtain ⟨z, hs, ks', pr, o, es, ep, ho, hx, hdt, he, hn⟩ := (show ObjOk X.prog X.w H s.heap a (.dT kvs) from hd.ok I.hok)
    have l1 : es.size = ks'.length := size_of_entries he
    have l2 : kvs.length = ks'.length := Paired.length pr
    refine ⟨_, _, _, kdl_raw hs hx hdt, ho, by omega, by rw [hk, List.length_map]; omega, fun acc' it => ?_⟩
    have ea : acc'.toList = ks'.map fun x => Value.ref x.2.1 := by
      have hl : acc'.toList.length = ks'.length := by rw [Array.length_toList, it.1]; exact l1
      apply List.ext_getElem?
      intro j
      rw [List.getElem?_map]
      cases hj : acc'.toList[j]? with
      | none =>
        have h1 := List.getElem?_eq_none_iff.mp hj
        rw [List.getElem?_eq_none (by omega)]
        all_goals rfl
      | some v =>
        obtain ⟨en, hen, hv⟩ := it.2 j v (by rw [← Array.getElem?_toList]; exact hj)
        have qe := entry_at he j
        rw [hen] at qe
        cases hb : ks'[j]? with
        | none =>
          rw [hb] at qe
          exact nomatch (show some en = none from qe)
        | some b =>
          rw [hb] at qe
          have e2 : en = entryOfKey (tupleKind (mixKind X.prog X.w)) b := Option.some.inj qe
          rw [hv, e2]
          all_goals rfl
    have eb : acc'.toList = (ks'.map fun x => x.2.1).map Value.ref := by rw [ea, List.map_map]; all_goals rfl
    refine ⟨(ks'.map fun x => x.2.1).map V.ref, by rw [eb]; exact vals_refs _, ?_⟩
    rw [hk]
    exact repPs_dT (isKeys_of pr)
def rSortDct : List V → Hp → VK → Prop := fun vs H Q => ∃ (a : Addr) (tk : Bool) (ks : List P) (xs : List V), vs = [.ref a] ∧ DctAt tk (Rd H) a ks xs ∧ sortB (ks.map P.toD) = true ∧
  ∀ xs' p, RepPs H (sortP ks) xs' → H p = none → Q (.ref p) (upd H p (.lst xs'))
theorem cr_sortedDct (hcalm : X.calm = true) (hu : X.A.units + 100 < cLine) : CallR X (.builtin "sorted") rSortDct := by
  intro pins s σ H vs us Q I r h
  obtain ⟨a, tk, ks, xs0, rfl, hd, hb, q⟩ := h
  obtain ⟨s1, s2, s3⟩ := sortB_ok hb
  rw [Vals.ref1 r]
  obtain ⟨n, Pv, OK, src, hok, hn, hnk, get⟩ := dct_src I hd
  refine Calls.call_function_entry PyProof.Rows.kind_sorted PyProof.Rows.plain_sorted PyProof.Rows.entry_sorted (PyProof.Rows.args_sorted1 _) ?_
  unfold Builtin.«sorted»
  refine wpAny_bind (m := checkCount "sorted" 1 1 _) (wpAny_pure ?_)
  refine wpAny_bind (PySem.W.kdu_collect (A := X.A.in1) src (I.ok.hd hcalm) hok hn fun h' tok acc hk hacc => ?_)
  obtain ⟨xs, rv, hr⟩ := get acc hacc
  have I1 : Inv X pins σ H { s with heap := h', toks := tok } := I.kept hk
  have hal : acc.toList.length = ks.length := by rw [← rv.length, repPs_len hr]
  refine wpAny_bind (wpAny_newList ?_ (by rw [hal, ← hnk]; exact hn))
  have I2 : Inv X pins σ H { s with heap := h'.push (seqObj "list" acc.toList.toArray 0), toks := tok } := I1.kept (t' := tok) fun b ob q => Heap.get?_push_of_some _ q
  have hoL : (h'.push (seqObj "list" acc.toList.toArray 0)).get? h'.objs.size = some (seqObj "list" acc.toList.toArray 0) := Heap.get?_push_size _ rfl
  obtain ⟨ea, eb⟩ := each_of I2 hr rv
  have eb2 : PySem.W.EachIs (fun v p => ∃ as, Reads (h'.push (seqObj "list" acc.toList.toArray 0)) v (P.toD p) as ∧ h'.objs.size ∉ as) acc.toList ks := eb.mono fun v p ⟨as, r⟩ => ⟨as, r, by rw [reads_no p r]; simp⟩
  show wpAny _ _ _ _ _ { s with heap := h'.push (seqObj "list" acc.toList.toArray 0), toks := tok }
  refine wpAny_bind (wpAny_holding (PySem.W.list_sort_data (s := { s with heap := h'.push (seqObj "list" acc.toList.toArray 0), toks := tok }) (R := fun v p => ∃ x, RelV x v ∧ RepP H p x) (enc := P.toD) (bs := ks) hoL ea eb2 s1 s2 (by rw [← hnk]; exact hn) (fun b hb2 => ?_) fun out ho2 eo => ?_))
  · have := s3 _ (List.mem_map.mpr ⟨b, hb2, rfl⟩)
    show X.A.in1.units + 1 + b.toD.depth < cLine
    have : X.A.in1.units ≤ X.A.units + 1 := by simp
    omega
  · obtain ⟨c, hc⟩ := PyProof.Rows.sortedHeap_at (vs := acc.toList) (out := out.toArray) hoL
    obtain ⟨xs', rv', hr'⟩ := each_back eo
    have hlen : xs'.length ≤ sizeLine := by rw [rv'.length, ho2, ← hnk]; exact hn
    refine wpAny_pure ⟨_, rfl, .ref h'.objs.size, upd H h'.objs.size (.lst xs'), I1.laid (t' := tok) (fun b u e => ?_) (Nat.le_refl _)
      (show ObjOk X.prog X.w _ _ _ (.lst xs') from ⟨hlen, out, c, rv', hc⟩), rfl, q xs' _ hr' (I1.hok.fresh (Nat.le_refl _))⟩
    have hlt : b < h'.objs.size := Heap.lt_size e
    rw [PyProof.Rows.sortedHeap_old (Nat.ne_of_lt hlt) (by rw [size_push']; exact Nat.lt_succ_of_lt hlt)]
    exact Heap.get?_push_of_some _ e
def gSortedD : List T → Option T
  | [.dct _ ks _] => if sortB (ks.map P.toD) = true then some (.lst ((sortP ks).map .pv)) else none
  | _ => none
theorem dct_rd {Z : Fp} {tk : Bool} {a : Addr} {ks : List P} {xs : List V} (d : DctAt tk (fun a o => (H a = some o ∧ Z a) ∨ ∃ ob, H a = some (.frz ob o)) a ks xs) : DctAt tk (Rd H) a ks xs := d.imp fun o h => h.elim (fun z => .inl z.1) .inr
theorem k_sortedD : OkN K rSortDct gSortedD := by
  intro H ts vs q h e Q n
  unfold gSortedD at e
  split at e
  · rename_i tk ks us
    obtain ⟨v, rfl, h1⟩ := vws1 h
    split at e
    · rename_i hb
      cases e
      obtain ⟨a, xs, rfl, hd, _⟩ := h1
      exact ⟨a, tk, ks, xs, rfl, dct_rd hd, hb, fun xs' p hr' hp0 => n.lst hp0 (pvs_reps (hr'.ext (Ext.new hp0)))⟩
    · cases e
  · cases e
def rLstDct : List V → Hp → VK → Prop := fun vs H Q => ∃ (a : Addr) (tk : Bool) (ks : List P) (xs : List V), vs = [.ref a] ∧ DctAt tk (Rd H) a ks xs ∧ ∀ xs' p, RepPs H ks xs' → H p = none → Q (.ref p) (upd H p (.lst xs'))
theorem cr_lstDct (hcalm : X.calm = true) : CallR X (.type "list") rLstDct := by
  intro pins s σ H vs us Q I r h
  obtain ⟨a, tk, ks, xs0, rfl, hd, q⟩ := h
  rw [Vals.ref1 r]
  obtain ⟨n, Pv, OK, src, hok, hn, hnk, get⟩ := dct_src I hd
  refine PySem.W.kdl_call src (I.ok.hd hcalm) hok hn fun h' tok acc c hk hS hacc => ?_
  obtain ⟨xs, rv, hr⟩ := get acc hacc
  refine ⟨.ref s.heap.objs.size, upd H s.heap.objs.size (.lst xs), I.laid (t' := tok) hk (Nat.le_refl _) (show ObjOk X.prog X.w _ _ _ (.lst xs) from ⟨by rw [repPs_len hr, ← hnk]; exact hn, acc.toList, c, rv, ?_⟩), rfl, q _ _ hr (I.hok.fresh (Nat.le_refl _))⟩
  rw [Array.toArray_toList]; exact hS
def gLstD : List T → Option T
  | [.dct _ ks _] => some (.lst (ks.map .pv))
  | _ => none
theorem k_lstD : OkN K rLstDct gLstD := by
  intro H ts vs q h e Q n
  unfold gLstD at e
  split at e
  · rename_i tk ks us
    obtain ⟨v, rfl, h1⟩ := vws1 h
    cases e
    obtain ⟨a, xs, rfl, hd, _⟩ := h1
    exact ⟨a, tk, ks, xs, rfl, dct_rd hd, fun xs' p hr' hp0 => n.lst hp0 (pvs_reps (hr'.ext (Ext.new hp0)))⟩
  · cases e
end
end TR
namespace TR
open PySem PySem.Spec PyProof.Rows L2
def DctO : HO → Prop
  | .dK _ => True
  | .dT _ => True
  | _ => False
def AtD (H : Hp) (d : Addr) (u : HO) : Prop := H d = some u ∨ ∃ od, H d = some (.frz od u)
structure Chg (H H' : Hp) (d : Addr) (u : HO) : Prop where
  du : DctO u
  a : AtD H d u
  b : AtD H' d u
  off : ∀ b, b ≠ d → H' b = H b
section
variable {K : PySem.W.Frag} {H H' : Hp} {d : Addr} {u : HO}
theorem Chg.keep (c : Chg H H' d u) {b : Addr} {o : HO} (h : H b = some o) (n1 : ¬ DctO o) (n2 : ∀ od, o ≠ .frz od u) : H' b = some o := by
  by_cases e : b = d
  · subst e
    rcases c.a with q | ⟨od, q⟩
    · rw [q] at h; cases h; exact absurd c.du n1
    · rw [q] at h; cases h; exact absurd rfl (n2 od)
  · rw [c.off b e]; exact h
theorem DctAt.impD {tk : Bool} {rd rd' : Addr → HO → Prop} {a : Addr} {ks : List P} {xs : List V} (h : ∀ o, DctO o → rd a o → rd' a o) (d : DctAt tk rd a ks xs) : DctAt tk rd' a ks xs := by
  cases tk with
  | false =>
    obtain ⟨n, kv, h1, h2⟩ := d
    exact ⟨n, kv, h _ trivial h1, h2⟩
  | true =>
    obtain ⟨n, kv, h1, h2⟩ := d
    exact ⟨n, kv, h _ trivial h1, h2⟩
theorem Chg.tk (c : Chg H H' d u) : ∀ b xs, H b = some (.tup xs) → H' b = some (.tup xs) := fun b xs h => c.keep h (fun z => z) fun od z => nomatch z
mutual
theorem Rep.chg (c : Chg H H' d u) : ∀ (t : T) (v : V) {A : Fp}, ¬ A d → Rep H t v A → Rep H' t v A
  | .pv p, v, _, _, h => RepP.kp c.tk p v h
  | .tup ts, _, _, n, h => by
    obtain ⟨a, xs, e, q, r⟩ := h
    exact ⟨a, xs, e, c.tk _ _ q, Reps.chg c ts xs n r⟩
  | .lst ts, _, A, n, h => by
    obtain ⟨a, xs, e, q, m, r⟩ := h
    exact ⟨a, xs, e, c.keep q (fun z => z) (fun od z => nomatch z), m, Reps.chg c ts xs (fun z => n z.1) r⟩
  | .fls ts, _, _, n, h => by
    obtain ⟨a, xs, e, ⟨o, q⟩, r⟩ := h
    exact ⟨a, xs, e, ⟨o, c.keep q (fun z => z) (fun od z => by cases z; exact c.du)⟩, Reps.chg c ts xs n r⟩
  | .dct tk ks ts, _, A, n, h => by
    obtain ⟨a, xs, e, q, m, r⟩ := h
    have ne : a ≠ d := fun z => n (z ▸ m)
    exact ⟨a, xs, e, q.imp fun o h => (by show H' a = some o; rw [c.off a ne]; exact h), m, Reps.chg c ts xs (fun z => n z.1) r⟩
theorem Reps.chg (c : Chg H H' d u) : ∀ (ts : List T) (xs : List V) {A : Fp}, ¬ A d → Reps H ts xs A → Reps H' ts xs A
  | [], _, _, _, h => h
  | t :: ts, _, _, n, h => by
    obtain ⟨x, r, C, D, e, h1, h2, s1, s2, dd⟩ := h
    exact ⟨x, r, C, D, e, Rep.chg c t x (fun z => n (s1 _ z)) h1, Reps.chg c ts r (fun z => n (s2 _ z)) h2, s1, s2, dd⟩
end
mutual
theorem Vw.chg {Z : Fp} (c : Chg H H' d u) (hz : Z d) : ∀ (t : T) (v : V), Vw K Z H t v → Vw K Z H' t v
  | .pv p, v, h => RepP.kp c.tk p v h
  | .tup ts, _, h => by
    obtain ⟨a, xs, e, q, r⟩ := h
    exact ⟨a, xs, e, c.tk _ _ q, Vws.chg c hz ts xs r⟩
  | .lst ts, _, h => by
    obtain ⟨a, xs, e, q, r⟩ := h
    exact ⟨a, xs, e, ⟨c.keep q.1 (fun z => z) (fun od z => nomatch z), q.2⟩, Vws.chg c hz ts xs r⟩
  | .fls ts, _, h => by
    obtain ⟨a, xs, e, q, r⟩ := h
    exact ⟨a, xs, e, q.imp (fun ⟨o, q⟩ => ⟨o, c.keep q (fun z => z) (fun od z => by cases z; exact c.du)⟩) id, Vws.chg c hz ts xs r⟩
  | .dct tk ks ts, _, h => by
    obtain ⟨a, xs, e, q, r⟩ := h
    refine ⟨a, xs, e, q.impD fun o ho h => ?_, Vws.chg c hz ts xs r⟩
    by_cases ea : a = d
    · subst ea
      have eo : o = u := by
        rcases h with ⟨h, _⟩ | ⟨ob, h⟩
        · rcases c.a with q | ⟨od, q⟩
          · rw [q] at h; exact (Option.some.inj h).symm
          · rw [q] at h; cases h; exact ho.elim
        · rcases c.a with q | ⟨od, q⟩
          · rw [q] at h; cases h; exact c.du.elim
          · rw [q] at h; cases h; rfl
      subst eo
      exact c.b.imp (fun z => ⟨z, hz⟩) id
    · rw [c.off a ea]; exact h
theorem Vws.chg {Z : Fp} (c : Chg H H' d u) (hz : Z d) : ∀ (ts : List T) (xs : List V), Vws K Z H ts xs → Vws K Z H' ts xs
  | [], _, h => h
  | t :: ts, _, h => by
    obtain ⟨x, r, e, h1, h2⟩ := h
    exact ⟨x, r, e, Vw.chg c hz t x h1, Vws.chg c hz ts r h2⟩
end
theorem SlRep.chg {Z A : Fp} (c : Chg H H' d u) (hz : Z d) (ha : ¬ A d) {o : Option V} {s : Sl} (h : SlRep K Z H o s A) : SlRep K Z H' o s A := by
  cases s with
  | no => trivial
  | ow t => obtain ⟨v, e, r⟩ := h; exact ⟨v, e, Rep.chg c t v ha r⟩
  | vw t => obtain ⟨v, e, r⟩ := h; exact ⟨v, e, Vw.chg c hz t v r⟩
theorem EnvRep.chg {Z : Fp} (c : Chg H H' d u) (hz : Z d) : ∀ {σ : List (Option V)} {ρ : Env} {A : Fp}, ¬ A d → EnvRep K Z H σ ρ A → EnvRep K Z H' σ ρ A
  | [], [], _, _, h => h
  | o :: σ, s :: ρ, A, n, ⟨B, C, h1, h2, s1, s2, dd⟩ => ⟨B, C, SlRep.chg c hz (fun z => n (s1 _ z)) h1, EnvRep.chg c hz (fun z => n (s2 _ z)) h2, s1, s2, dd⟩
  | [], _ :: _, _, _, h => h.elim
  | _ :: _, [], _, _, h => h.elim
theorem Chg.al (c : Chg H H' d u) {Z : Fp} (h : Al H Z) : Al H' Z := fun b hb => by
  by_cases e : b = d
  · subst e
    rcases c.b with q | ⟨od, q⟩ <;> · rw [q]; intro z; cases z
  · rw [c.off b e]; exact h b hb
theorem Good.chg {Z A : Fp} {σ : Stt} {ρ : Env} (c : Chg H H' d u) (hz : Z d) (g : Good K Z H σ ρ A) : Good K Z H' σ ρ A :=
  ⟨EnvRep.chg c hz (fun z => g.dis d hz z) g.env, g.dis, c.al g.alZ, c.al g.alA⟩
end
def dctSl (ks : List P) : List Sl := ks.map fun p => .ow (.pv p)
def iKeyF (i : Nat) : Env → R Unit (List Sl) := fun ρ => match ρ[i]? with
  | some (.ow (.dct _ ks _)) => .ok (dctSl ks)
  | some (.vw (.dct _ ks _)) => .ok (dctSl ks)
  | _ => .bad
section
variable {X : Cx} {W : WX} {K : PySem.W.Frag} {mg : Str → Option Value}
def Lkd (i : Nat) (σ : Stt) (H : Hp) : Prop := ∃ d u od, σ[i]? = some (some (V.ref d)) ∧ DctO u ∧ H d = some (.frz od u)
def FKey (K : PySem.W.Frag) (mg : Str → Option Value) (W : WX) (i : Nat) : TI := fun σ H R => Lkd i σ H ∧ FIe K mg W (iKeyF i) σ H R
theorem key_slot {Z A : Fp} {H : Hp} {σ : Stt} {ρ : Env} {i : Nat} (G : Good K Z H σ ρ A) (h : iKeyF i ρ ≠ .bad) : ∃ tk ks ts a xs, iKeyF i ρ = .ok (dctSl ks) ∧ (ρ[i]? = some (.ow (.dct tk ks ts)) ∨ ρ[i]? = some (.vw (.dct tk ks ts))) ∧ σ[i]? = some (some (.ref a)) ∧ DctAt tk (fun a o => (H a = some o ∧ (Z a ∨ A a)) ∨ ∃ ob, H a = some (.frz ob o)) a ks xs := by
  unfold iKeyF at h ⊢
  cases e : ρ[i]? with
  | none => rw [e] at h; exact absurd rfl h
  | some s =>
    rw [e] at h
    obtain ⟨o, B, h1, h2, h3⟩ := slot_of G.env e
    cases s with
    | no => exact absurd rfl h
    | ow t =>
      cases t with
      | dct tk ks ts =>
        obtain ⟨v, eo, a, xs, ev, hd, hB, _⟩ := h2
        subst eo ev
        exact ⟨tk, ks, ts, a, xs, rfl, .inl rfl, h1, hd.imp fun o h => .inl ⟨h, .inr (h3 _ hB)⟩⟩
      | _ => exact absurd rfl h
    | vw t =>
      cases t with
      | dct tk ks ts =>
        obtain ⟨v, eo, a, xs, ev, hd, _⟩ := h2
        subst eo ev
        exact ⟨tk, ks, ts, a, xs, rfl, .inr rfl, h1, hd.imp fun o h => h.imp (fun z => ⟨z.1, .inl z.2⟩) id⟩
      | _ => exact absurd rfl h
theorem items_key {Z1 : Fp} {H : Hp} {d : Addr} {od : Obj} {kv : List (Key × V)} (h : H d = some (.frz od (.dK kv))) : ItemsAt K Z1 (Ext H) (Itk d od kv) (dctSl (kv.map fun e => keyP e.1)) := by
  intro H' e
  have h' := e d _ h
  refine ⟨fun j s hs => ?_, h', by unfold dctSl; rw [List.length_map, List.length_map]; exact Nat.le_refl _⟩
  unfold dctSl at hs
  rw [List.getElem?_map, List.getElem?_map] at hs
  cases hj : kv[j]? with
  | none => rw [hj] at hs; cases hs
  | some p =>
    rw [hj] at hs
    cases hs
    refine ⟨⟨h', (List.getElem?_eq_some_iff.mp hj).1⟩, fun x H'' y => ?_⟩
    obtain ⟨rfl, k, v, hk, rfl⟩ := y
    rw [hj] at hk
    cases hk
    exact ⟨Ext.refl _, emp, ⟨_, rfl, repP_kV k⟩, fun _ z => z.elim, fun _ z => z.elim⟩
theorem items_keyT {Z1 : Fp} {H : Hp} {d : Addr} {od : Obj} {kv : List (List Key × V)} (h : H d = some (.frz od (.dT kv))) : ItemsAt K Z1 (Ext H) (Itkt d od kv) (dctSl (kv.map fun e => P.tup (e.1.map keyP))) := by
  intro H' e
  have h' := e d _ h
  refine ⟨fun j s hs => ?_, h', by unfold dctSl; rw [List.length_map, List.length_map]; exact Nat.le_refl _⟩
  unfold dctSl at hs
  rw [List.getElem?_map, List.getElem?_map] at hs
  cases hj : kv[j]? with
  | none => rw [hj] at hs; cases hs
  | some p =>
    rw [hj] at hs
    cases hs
    refine ⟨⟨h', (List.getElem?_eq_some_iff.mp hj).1⟩, fun x H'' y => ?_⟩
    obtain ⟨rfl, k, v, q, hk, rfl, hq⟩ := y
    rw [hj] at hk
    cases hk
    exact ⟨Ext.refl _, emp, ⟨_, rfl, q, k.map kV, rfl, hq, repPs_kV k⟩, fun _ z => z.elim, fun _ z => z.elim⟩
theorem i_key (i : Nat) {tg : Expr} {x : Str} {pos : Pos} (hN : X.N[i]? = some x := by rfl) (hv : Vis X.env.scope x := by first | exact Or.inl rfl | exact Or.inr (Or.inl rfl) | exact Or.inr (Or.inr rfl)) (hd : (x == ("__debug__" : Str)) = false := by decide)
    (hcd : (x == ("__classdict__" : Str)) = false := by decide) : PI X tg (.Name x pos) (FKey X.K X.mg W i) := by
  refine ⟨fun pins s σ H R I ⟨⟨d, u, od, hs, hu, hl⟩, ρ, Z, A, G, q⟩ => ?_⟩
  have nb : iKeyF i ρ ≠ .bad := fun z => by rw [z] at q; exact q
  obtain ⟨tk, ks, ts, a, xs, ef, _, hs2, hda⟩ := key_slot G nb
  have ea : a = d := by rw [hs] at hs2; cases hs2; rfl
  subst ea
  rw [ef] at q
  have hn : (dctSl ks).length ≤ sizeLine := by
    obtain ⟨n, Pv, OK, src, hok, hn, hnk, get⟩ := dct_src I (hda.imp fun o h => (h.elim (fun z => .inl z.1) .inr : Rd H a o))
    unfold dctSl
    rw [List.length_map, ← hnk]
    exact hn
  refine (pi_keys (tg := tg) (pe_var (i := i) hN hv hd hcd)).run pins s σ H R I ⟨_, hs, a, od, rfl, ?_⟩
  cases tk with
  | false =>
    obtain ⟨_, kv, hk, ek, _⟩ := hda
    have e2 : u = .dK kv := by
      rcases hk with ⟨hk, _⟩ | ⟨ob, hk⟩
      · rw [hl] at hk; cases hk
      · rw [hl] at hk; cases hk; rfl
    subst e2
    rw [ek] at q hn
    exact .inl ⟨kv, hl, q _ H (Ext.refl H) (items_key hl) hn⟩
  | true =>
    obtain ⟨_, kv, hk, ek, _⟩ := hda
    have e2 : u = .dT kv := by
      rcases hk with ⟨hk, _⟩ | ⟨ob, hk⟩
      · rw [hl] at hk; cases hk
      · rw [hl] at hk; cases hk; rfl
    subst e2
    rw [ek] at q hn
    exact .inr ⟨kv, hl, q _ H (Ext.refl H) (items_keyT hl) hn⟩
theorem vwS_argSl (t : T) : vwS (argSl t) = argSl t := by
  cases t with
  | pv p => rfl
  | _ => rfl
theorem viewE_fz (i : Nat) (ρ : Env) : viewE (fz i ρ) = viewE ρ := by
  unfold fz
  cases e : ρ[i]? with
  | none => rfl
  | some s =>
    cases s with
    | ow t =>
      show (ρ.set i (argSl t)).map vwS = ρ.map vwS
      rw [List.map_set, vwS_argSl]
      apply List.ext_getElem?
      intro j
      by_cases h : i = j
      · subst h
        have hl : i < ρ.length := (List.getElem?_eq_some_iff.mp e).1
        rw [List.getElem?_set_self (by rw [List.length_map]; exact hl), List.getElem?_map, e]; rfl
      · rw [List.getElem?_set_ne h]
    | _ => rfl
theorem iKeyF_fz (i : Nat) (ρ : Env) : iKeyF i (fz i ρ) = iKeyF i ρ := by
  unfold iKeyF
  cases e : ρ[i]? with
  | none => unfold fz; rw [e]; dsimp only; rw [e]
  | some s =>
    cases s with
    | no => unfold fz; rw [e]; dsimp only; rw [e]
    | vw t => unfold fz; rw [e]; dsimp only; rw [e]
    | ow t =>
      have hl : i < ρ.length := (List.getElem?_eq_some_iff.mp e).1
      have : (fz i ρ)[i]? = some (argSl t) := by
        unfold fz
        rw [e]
        exact List.getElem?_set_self hl
      rw [this]
      cases t <;> rfl
theorem fLc_fz {vs : List Nat} {i : Nat} {g : TgF} {fc : Env → R Unit Bool} {fe : Env → R Unit T} {ρ : Env} : fLc vs (iKeyF i) g fc fe (fz i ρ) = fLc vs (iKeyF i) g fc fe ρ := by
  unfold fLc
  rw [iKeyF_fz, viewE_fz]
theorem fLc_noexc {vs : List Nat} {i : Nat} {g : TgF} {fc : Env → R Unit Bool} {fe : Env → R Unit T} {ρ : Env} (e : Exn) (x : Unit) : fLc vs (iKeyF i) g fc fe ρ ≠ .exc e x := by
  have no : ∀ l, ∀ e' x', lcGo g fc fe (wipeE (viewE ρ) vs) l ≠ .exc e' x' := by
    intro l
    induction l with
    | nil => intro e' x' h; cases h
    | cons s l ih =>
      intro e' x' h
      unfold lcGo at h
      split at h
      · cases h
      · split at h
        · split at h
          · cases hl : lcGo g fc fe (wipeE (viewE ρ) vs) l with
            | ok ts => rw [hl] at h; cases h
            | exc e2 x2 => exact ih e2 x2 hl
            | bad => rw [hl] at h; cases h
          · cases h
        · exact ih e' x' h
        · cases h
  have k : ∀ e x, iKeyF i ρ ≠ .exc e x := by
    intro e x
    unfold iKeyF
    split <;> · intro z; cases z
  intro h
  unfold fLc at h
  cases hi : iKeyF i ρ with
  | exc e2 x2 => exact k e2 x2 hi
  | bad => rw [hi] at h; cases h
  | ok ss =>
    rw [hi, R.bind_ok] at h
    cases hg : lcGo g fc fe (wipeE (viewE ρ) vs) ss with
    | exc e2 x2 => exact no _ _ _ hg
    | bad => rw [hg] at h; cases h
    | ok ts => rw [hg] at h; cases h
theorem lock_or {e : Expr} {t : TE} (h : PE X e t) : PE X e (fun σ H Q => t σ H Q ∨ tLockE t σ H Q) := ⟨fun pins s σ H Q I q => q.elim (fun q => h.run pins s σ H Q I q) fun q => (pe_lock h).run pins s σ H Q I q⟩
theorem q_lcD (i : Nat) {elt tg : Expr} {x : Str} {xpos : Pos} {ifs : List Expr} {scope : Scope} (own : List (Str × Nat)) {pos : Pos} {g : TgF} {fc : Env → R Unit Bool} {fe : Env → R Unit T} (hc : X.calm = true) (hN : X.N.Nodup) (hi : PI X tg (.Name x xpos) (FKey X.K X.mg W i)) (ok : BlkOk X.N X.env.scope scope own)
    (hg : ∀ (s : Shared) (H : Hp) (C : Addr) (cl : List (Str × Addr)) (fp : List Addr), JG (X.blk s H scope (compEnvC scope cl C X.env) fp) (kpV (snds own)) tg g)
    (ht : ∀ (s : Shared) (H : Hp) (C : Addr) (cl : List (Str × Addr)) (fp : List Addr), JQTs (X.blk s H scope (compEnvC scope cl C X.env) fp) wNo ifs fc)
    (he : ∀ (s : Shared) (H : Hp) (C : Addr) (cl : List (Str × Addr)) (fp : List Addr), JQ (X.blk s H scope (compEnvC scope cl C X.env) fp) wNo .o elt fe) (hs : ∀ v, foldedSetIterable (.Name x xpos) X.env v = pure v := by intro _; rfl) :
    JQ X W .o (.ListComp elt [⟨tg, .Name x xpos, ifs, 0⟩] scope pos) (fLc (snds own) (iKeyF i) g fc fe) := by
  refine peM (lock_or (pe_lc (g := FG X.K (kpV (snds own)) g) (tt := FQT X.K X.mg wNo fc) (te := FQ X.K X.mg wNo .o fe) hc hN hi ok hg ht he hs)) fun σ H Q q => ?_
  obtain ⟨ρ, Z, A, G, q⟩ := q
  have nb : iKeyF i ρ ≠ .bad := fun z => by unfold fLc at q; rw [z] at q; exact q
  obtain ⟨Z', A', G', sA⟩ := G.fz i
  have nb' : iKeyF i (fz i ρ) ≠ .bad := by rw [iKeyF_fz]; exact nb
  obtain ⟨tk, ks, ts, a, xs, ef, hsl, hs2, hda⟩ := key_slot G' nb'
  have hsv : (fz i ρ)[i]? = some (.vw (.dct tk ks ts)) := by
    rcases hsl with h | h
    · exfalso
      unfold fz at h
      cases e : ρ[i]? with
      | none => rw [e] at h; dsimp only at h; rw [e] at h; cases h
      | some s =>
        have hl : i < ρ.length := (List.getElem?_eq_some_iff.mp e).1
        cases s with
        | ow t =>
          rw [e] at h
          dsimp only at h
          rw [List.getElem?_set_self hl] at h
          cases t <;> cases h
        | no => rw [e] at h; dsimp only at h; rw [e] at h; cases h
        | vw t => rw [e] at h; dsimp only at h; rw [e] at h; cases h
    · exact h
  obtain ⟨o, B, h1, h2, h3⟩ := slot_of G'.env hsv
  obtain ⟨v, eo, a2, xs2, ev, hd2, _⟩ := h2
  subst eo ev
  have direct : ∀ u ob, DctO u → H a2 = some (.frz ob u) → tLc (FKey X.K X.mg W i) (FG X.K (kpV (snds own)) g) (FQT X.K X.mg wNo fc) (FQ X.K X.mg wNo .o fe) (snds own) σ H Q := fun u ob du h => ⟨⟨a2, u, ob, h1, du, h⟩, fq_lc ⟨ρ, Z, A, G, q⟩⟩
  have lock : ∀ u, DctO u → Mut (some u) → H a2 = some u → Z' a2 → tLockE (tLc (FKey X.K X.mg W i) (FG X.K (kpV (snds own)) g) (FQT X.K X.mg wNo fc) (FQ X.K X.mg wNo .o fe) (snds own)) σ H Q := by
    intro u du mu h hz
    refine ⟨a2, u, h, mu, fun od => ⟨⟨a2, u, od, h1, du, upd_same⟩, ?_⟩⟩
    have c : Chg H (upd H a2 (.frz od u)) a2 u := ⟨du, .inl h, .inr ⟨od, upd_same⟩, fun b ne => upd_ne ne⟩
    refine fq_lc (K := X.K) (mg := X.mg) (W := W) (fi := iKeyF i) (g := g) (fc := fc) (fe := fe) (vs := snds own) (σ := σ) (Q := fun v H' => H' a2 = some (.frz od u) ∧ Q v (upd H' a2 u)) ⟨fz i ρ, Z', A', G'.chg c hz, ?_⟩
    rw [fLc_fz]
    revert q
    cases hf : fLc (snds own) (iKeyF i) g fc fe ρ with
    | exc e x => exact absurd hf (fLc_noexc e x)
    | bad => exact fun q => q
    | ok t =>
      intro q v H1 e1 ⟨B1, rb, fr, al⟩
      have hd1 : H1 a2 = some (.frz od u) := e1 a2 _ upd_same
      have c2 : Chg H1 (upd H1 a2 u) a2 u := ⟨du, .inr ⟨od, hd1⟩, .inl upd_same, fun b ne => upd_ne ne⟩
      have nB : ¬ B1 a2 := fun z => by
        have := fr a2 z
        rw [upd_same] at this
        cases this
      refine ⟨hd1, q v (upd H1 a2 u) (fun b o hb => ?_) ⟨B1, Rep.chg c2 t v nB rb, fun b z => ?_, c2.al al⟩⟩
      · by_cases e : b = a2
        · subst e
          rw [upd_same, ← h, hb]
        · rw [upd_ne e]
          exact e1 b o (by rw [upd_ne e]; exact hb)
      · have q2 := fr b z
        rw [upd_ne (show b ≠ a2 from fun e => nB (by rw [← e]; exact z))] at q2
        exact q2
  cases tk with
  | false =>
    obtain ⟨_, kv, hk, _, _⟩ := hd2
    rcases hk with ⟨hk, hz⟩ | ⟨ob, hk⟩
    · exact .inr (lock (.dK kv) trivial trivial hk hz)
    · exact .inl (direct (.dK kv) ob trivial hk)
  | true =>
    obtain ⟨_, kv, hk, _, _⟩ := hd2
    rcases hk with ⟨hk, hz⟩ | ⟨ob, hk⟩
    · exact .inr (lock (.dT kv) trivial trivial hk hz)
    · exact .inl (direct (.dT kv) ob trivial hk)
end
end TR
namespace TR
open PySem PySem.Spec PyProof.Rows L2
section
variable {X : Cx} {W : WX} {K : PySem.W.Frag} {H : Hp} {mg : Str → Option Value}
theorem dct_raw {pins : List (Addr × Obj)} {σ : Stt} {s : Shared} (I : L2.Inv X pins σ H s) {tk : Bool} {a : Addr} {ks : List P} {vs : List V} (d : DctAt tk (Rd H) a ks vs) :
    ∃ (o : Obj) (es : Array DictEntry) (ep : Nat) (xs : List V), (a == sysModules) = false ∧ s.heap.get? a = some o ∧ o.ExactDict ∧ o.data = .dict es ep ∧ es.size = ks.length ∧ es.size ≤ sizeLine ∧ Vals xs (es.toList.map fun e => e.key) ∧ RepPs H ks xs := by
  cases tk with
  | false =>
    obtain ⟨_, kvs, hd, hk, _⟩ := d
    obtain ⟨z, lo, vs, rk, hd⟩ := (show ObjOk X.prog X.w H s.heap a (.dK kvs) from hd.ok I.hok)
    obtain ⟨es, ep, ⟨o, ho, hx, hdt⟩, hsz, hat⟩ := (show ∃ es ep, (∃ o, s.heap.get? a = some o ∧ o.ExactDict ∧ o.data = .dict es ep) ∧ es.size = vs.length ∧ ∀ i (hi : i < es.size) k v, vs[i]? = some (k, v) → (mixKind X.prog X.w).is k es[i].key = true ∧ es[i].val = v by
      obtain ⟨o, es, ep, ho, hc, hd, _, hp, _⟩ := hd
      exact ⟨es, ep, ⟨o, ho, hc, hd⟩, by rw [← hp.length]; simp, fun i hi k v hk => hp.get? (e := es[i]) (by simp [hi]) hk⟩)
    have hl : kvs.length = vs.length := Paired.length rk
    refine ⟨o, es, ep, kvs.map fun kv => kV kv.1, lo, ho, hx, hdt, by rw [hk, List.length_map, hsz, hl], by rw [hsz, ← hl]; exact z, ?_, ?_⟩
    · have el : es.toList.length = es.size := Array.length_toList
      refine vals_of_at (by rw [List.length_map, List.length_map, el, hsz, hl]) fun j x w h1 h2 => ?_
      rw [List.getElem?_map] at h2
      cases hj : es.toList[j]? with
      | none => rw [hj] at h2; cases h2
      | some en =>
        rw [hj] at h2
        cases h2
        have hjl : j < es.size := by
          have := (List.getElem?_eq_some_iff.mp hj).1
          rwa [Array.length_toList] at this
        obtain ⟨⟨k, y⟩, hky⟩ : ∃ p, vs[j]? = some p := ⟨_, List.getElem?_eq_getElem (by omega)⟩
        have q := (hat j hjl k y hky).1
        have e0 : es[j] = en := by
          have := (List.getElem?_eq_some_iff.mp hj).2
          simpa using this
        rw [e0] at q
        have e1 : (kvs.map (·.1))[j]? = some k := by
          rw [KV.keys rk, List.getElem?_map, hky] <;> rfl
        have e2 : (kvs.map fun kv => kV kv.1)[j]? = some (kV k) := by
          have e3 : (kvs.map fun kv => kV kv.1) = (kvs.map (·.1)).map kV := by rw [List.map_map] <;> rfl
          rw [e3, List.getElem?_map, e1] <;> rfl
        rw [e2] at h1
        cases h1
        exact keyIs_rel q
    · subst hk
      have e3 : (kvs.map fun kv => kV kv.1) = (kvs.map (·.1)).map kV := by rw [List.map_map]; rfl
      have e4 : (kvs.map fun e => keyP e.1) = (kvs.map (·.1)).map keyP := by rw [List.map_map]; rfl
      rw [e3, e4]
      exact repPs_kV _
  | true =>
    obtain ⟨_, kvs, hd, hk, _⟩ := d
    obtain ⟨z, hs, ks', pr, o, es, ep, ho, hx, hdt, he, hn⟩ := (show ObjOk X.prog X.w H s.heap a (.dT kvs) from hd.ok I.hok)
    have l1 : es.size = ks'.length := size_of_entries he
    have l2 : kvs.length = ks'.length := Paired.length pr
    refine ⟨o, es, ep, (ks'.map fun x => x.2.1).map V.ref, hs, ho, hx, hdt, by rw [hk, List.length_map]; omega, by omega, ?_, ?_⟩
    · have eb : (es.toList.map fun e => e.key) = (ks'.map fun x => x.2.1).map Value.ref := by
        rw [List.map_map]
        apply List.ext_getElem?
        intro j
        rw [List.getElem?_map, List.getElem?_map]
        have qe := entry_at he j
        rw [Array.getElem?_toList]
        cases hb : ks'[j]? with
        | none => rw [hb] at qe; rw [show es[j]? = none from qe.symm ▸ rfl]; rfl
        | some b =>
          rw [hb] at qe
          rw [qe]; rfl
      rw [eb]; exact vals_refs _
    · rw [hk]
      exact repPs_dT (isKeys_of pr)
def rMinD (f : P → List P → P) : List V → Hp → VK → Prop := fun vs H Q => ∃ (a : Addr) (tk : Bool) (xs : List V) (p : P) (ps : List P), vs = [.ref a] ∧ DctAt tk (Rd H) a (p :: ps) xs ∧ minB (P.toDs (p :: ps)) = true ∧ ∀ x, RepP H (f p ps) x → Q x H
theorem cr_minD (hc : X.calm = true) (hu : X.A.units + 100 < cLine) : CallR X (.builtin "min") (rMinD minP) := by
  intro pins s σ H vs us Q I r h
  obtain ⟨a, tk, xs0, p, ps, rfl, hd, hb, q⟩ := h
  rw [Vals.ref1 r]
  obtain ⟨o, es, ep, xs, lo, ho, hx, hdt, hn, hz, rv, hr⟩ := dct_raw I hd
  obtain ⟨al, dp⟩ := minB_ok hb
  obtain ⟨as, ra⟩ := Dp.readsAll I _ xs _ (repPs_dp (K := X.K) (p :: ps) xs hr) rv
  have hlt := Heap.lt_size ho
  refine call_min_walkH (iter_keys lo ho hx hdt ?_)
  have ra' : ReadsAll s.heap ((es.toList.map fun e => e.key).toArray).toList (p.toD :: P.toDs ps) as := ra
  have conv : ∀ i v, (∃ en : DictEntry, es[i]? = some en ∧ v = en.key) → ((es.toList.map fun e => e.key).toArray)[i]? = some v := fun i v h => by
    obtain ⟨en, h1, h2⟩ := h
    rw [List.getElem?_toArray, List.getElem?_map, Array.getElem?_toList, h1, h2]; rfl
  have hub : X.A.in1.units + PyData.depthAll (p.toD :: P.toDs ps) < cLine := by
    have h1 : PyData.depthAll (p.toD :: P.toDs ps) ≤ 50 := dp
    have h2 : X.A.in1.units ≤ X.A.units + 1 := by simp
    omega
  refine ⟨s.heap.objs.size, _, _, _, es.size, _, _, s.heap, _, rfl, (walks_raw (A := X.A.in1) (I.ok.hd hc) s.heap.objs.size a (Nat.ne_of_lt hlt) hdt).toS, ⟨⟨_, Heap.get?_push_size _ rfl, rfl, rfl⟩, Heap.get?_push_of_some _ ho⟩, fun b hb => ?_, by rw [hn]; exact Nat.succ_pos _, fun b ob e hb => ?_, fun b ob e => Heap.get?_push_of_some _ e,
    fun i j vi vj s' Q E hk hi hj hq => PySem.W.cmpIn_lt (A := X.A.in1) ra' al hub i j vi vj s' Q E hk (conv i vi hi) (conv j vj hj) hq, fun v s' hP m => ?_⟩
  · show b < (s.heap.push _).objs.size
    rw [Heap.size_push]
    rcases List.mem_cons.mp hb with rfl | hb
    · exact Nat.lt_succ_self _
    · rcases List.mem_cons.mp hb with rfl | hb
      · exact Nat.lt_succ_of_lt hlt
      · cases hb
  · exact absurd (Heap.lt_size e) ((List.mem_singleton.mp hb) ▸ Nat.lt_irrefl _)
  · obtain ⟨h', tok, rfl, hk⟩ := PySem.W.moved_old rfl rfl m
    have hv := conv _ v hP
    obtain ⟨bs, r, _, _, _⟩ := PySem.W.readsAll_atA ra' _ v hv
    have e1 : es.size - 1 = (P.toDs ps).length := by rw [hn, P.toDs_map, List.length_map]; rfl
    have e2 := (PySem.W.argBest_fold PySem.W.dataLt PyData.none p.toD (P.toDs ps) (P.toDs ps).length (Nat.le_refl _)).2
    rw [List.take_length] at e2
    rw [e1] at r hv
    have rd : Reads h' v (PySem.W.minD p.toD (P.toDs ps)) bs := PySem.W.reads_keeps hk (by unfold PySem.W.minD; rw [← e2]; exact r)
    rw [P.toDs_map, minP_toD] at rd
    obtain ⟨x, rx, rp⟩ := item_of I hk hr rv (by simpa using hv) rd
    exact ⟨x, H, I.kept hk, rx, q x rp⟩
def gMinD : List T → Option T
  | [.dct _ (p :: ps) _] => if minB (P.toDs (p :: ps)) = true then some (.pv (minP p ps)) else none
  | _ => none
theorem k_minD : OkN K (rMinD minP) gMinD := by
  intro H ts vs q h e Q n
  unfold gMinD at e
  split at e
  · rename_i tk p ps us
    obtain ⟨v, rfl, h1⟩ := vws1 h
    split at e
    · rename_i hb
      cases e
      obtain ⟨a, xs, rfl, hd, _⟩ := h1
      exact ⟨a, tk, xs, p, ps, rfl, dct_rd hd, hb, fun x r => n.pure r⟩
    · cases e
  · cases e
def rSortTup (K : PySem.W.Frag) : List V → Hp → VK → Prop := fun vs H Q => ∃ (a : Addr) (xs : List V) (ps : List P), vs = [.ref a] ∧ SqT K H a xs ∧ RepPs H ps xs ∧ sortB (ps.map P.toD) = true ∧
  ∀ xs' p, RepPs H (sortP ps) xs' → H p = none → Q (.ref p) (upd H p (.lst xs'))
theorem cr_sortedTup (hu : X.A.units + 100 < cLine) : CallR X (.builtin "sorted") (rSortTup X.K) := by
  intro pins s σ H vs us Q I r h
  obtain ⟨a, xs, ks, rfl, hs, hr, hb, q⟩ := h
  obtain ⟨s1, s2, s3⟩ := sortB_ok hb
  rw [Vals.ref1 r]
  obtain ⟨its, rv, ht, hz⟩ := I.tuple hs
  obtain ⟨o, ho, hc, nn, hd⟩ := ht
  have hln : its.length = xs.length := rv.length.symm
  have hkl : ks.length = xs.length := (repPs_len hr).symm
  refine Calls.call_function_entry PyProof.Rows.kind_sorted PyProof.Rows.plain_sorted PyProof.Rows.entry_sorted (PyProof.Rows.args_sorted1 _) ?_
  unfold Builtin.«sorted»
  refine wpAny_bind (m := checkCount "sorted" 1 1 _) (wpAny_pure ?_)
  refine wpAny_bind (wpAny_collect_seq (A := X.A.in1) a (.inr rfl) ho hc hd (fun h' hk => ?_) (by rw [List.size_toArray, hln]; exact hz))
  have I1 : Inv X pins σ H { s with heap := h' } := I.kept (t' := s.toks) hk
  refine wpAny_bind (wpAny_newList ?_ (by show its.length ≤ sizeLine; rw [hln]; exact hz))
  have I2 : Inv X pins σ H { s with heap := h'.push (seqObj "list" its.toArray.toList.toArray 0) } := I1.kept (t' := s.toks) fun b ob q => Heap.get?_push_of_some _ q
  have hoL : (h'.push (seqObj "list" its.toArray.toList.toArray 0)).get? h'.objs.size = some (seqObj "list" its.toArray.toList.toArray 0) := Heap.get?_push_size _ rfl
  obtain ⟨ea, eb⟩ := each_of I2 hr rv
  have eb2 : PySem.W.EachIs (fun v p => ∃ as, Reads (h'.push (seqObj "list" its.toArray.toList.toArray 0)) v (P.toD p) as ∧ h'.objs.size ∉ as) its ks := eb.mono fun v p ⟨as, r⟩ => ⟨as, r, by rw [reads_no p r]; simp⟩
  show wpAny _ _ _ _ _ { s with heap := h'.push (seqObj "list" its.toArray.toList.toArray 0) }
  refine wpAny_bind (wpAny_holding (PySem.W.list_sort_data (s := { s with heap := h'.push (seqObj "list" its.toArray.toList.toArray 0) }) (R := fun v p => ∃ x, RelV x v ∧ RepP H p x) (enc := P.toD) (bs := ks) hoL ea eb2 s1 s2 (by rw [hkl]; exact hz) (fun b hb2 => ?_) fun out ho2 eo => ?_))
  · have := s3 _ (List.mem_map.mpr ⟨b, hb2, rfl⟩)
    show X.A.in1.units + 1 + b.toD.depth < cLine
    have : X.A.in1.units ≤ X.A.units + 1 := by simp
    omega
  · obtain ⟨c, hc⟩ := PyProof.Rows.sortedHeap_at (vs := its.toArray.toList) (out := out.toArray) hoL
    obtain ⟨xs', rv', hr'⟩ := each_back eo
    have hlen : xs'.length ≤ sizeLine := by rw [rv'.length, ho2, hkl]; exact hz
    refine wpAny_pure ⟨_, rfl, .ref h'.objs.size, upd H h'.objs.size (.lst xs'), I1.laid (t' := s.toks) (fun b u e => ?_) (Nat.le_refl _)
      (show ObjOk X.prog X.w _ _ _ (.lst xs') from ⟨hlen, out, c, rv', hc⟩), rfl, q xs' _ hr' (I1.hok.fresh (Nat.le_refl _))⟩
    have hlt : b < h'.objs.size := Heap.lt_size e
    rw [PyProof.Rows.sortedHeap_old (Nat.ne_of_lt hlt) (by rw [size_push']; exact Nat.lt_succ_of_lt hlt)]
    exact Heap.get?_push_of_some _ e
def gSortedT : List T → Option T
  | [.pv (.tup ps)] => if sortB (ps.map P.toD) = true then some (.lst ((sortP ps).map .pv)) else none
  | _ => none
theorem k_sortedT : OkN K (rSortTup K) gSortedT := by
  intro H ts vs q h e Q n
  unfold gSortedT at e
  split at e
  · rename_i ps
    obtain ⟨v, rfl, h1⟩ := vws1 h
    split at e
    · rename_i hb
      cases e
      obtain ⟨a, xs, rfl, hq, hv⟩ := h1
      exact ⟨a, xs, ps, rfl, .inl (.inl hq), hv, hb, fun xs' p hr' hp0 => n.lst hp0 (pvs_reps (hr'.ext (Ext.new hp0)))⟩
    · cases e
  · cases e
end
end TR
namespace L2
open PySem PySem.Spec PyProof.Rows
structure Kd (P : Program) (w : World) (κ : Type) [DecidableEq κ] where
  knd : KeyKind P w κ
  val : κ → Tok → Value
  key : Value → κ
  is : ∀ k t, knd.is k (val k t) = true
  scan : ∀ k t, (val k t).scannable = true
  kmk : ∀ k t, key (val k t) = k
  vv : κ → V
  rel : ∀ k v, RelV (vv k) v → ∃ t, v = val k t
  lel : ∀ k t, RelV (vv k) (val k t)
  enc : κ → PyData
  rd : ∀ h k t, Reads h (val k t) (enc k) []
  al : ∀ a b, PySem.W.alike (enc a) (enc b) = true
  so : ∀ k, enc k ≠ .none ∧ ∀ xs, enc k ≠ .tuple xs
  dp : ∀ k, (enc k).depth = 0
def kdI (P : Program) (w : World) : Kd P w Int := ⟨intKind P w, Value.int, fun v => match v with | .int k _ => k | _ => 0, intKind_is P w, fun _ _ => rfl, fun _ _ => rfl, V.int, fun _ _ h => h, fun _ t => ⟨t, rfl⟩, PyData.int, fun _ _ _ => .int _ _, fun _ _ => rfl, fun _ => ⟨(by intro z; cases z), fun _ => (by intro z; cases z)⟩, fun _ => rfl⟩
def kdS (P : Program) (w : World) : Kd P w Str := ⟨PySem.strKind P w, Value.str, fun v => match v with | .str k _ => k | _ => Str.empty, strKind_is P w, fun _ _ => rfl, fun _ _ => rfl, V.str, fun _ _ h => h, fun _ t => ⟨t, rfl⟩, PyData.str, fun _ _ _ => .str _ _, fun _ _ => rfl, fun _ => ⟨(by intro z; cases z), fun _ => (by intro z; cases z)⟩, fun _ => rfl⟩
section
variable {P : Program} {w : World} {κ : Type} [DecidableEq κ] (D : Kd P w κ)
def GdE (e : Int × Value) : Prop := ∃ k t, e.2 = D.val k t ∧ e.1 = D.knd.hash k
def ekey (e : Int × Value) : κ := D.key e.2
def SetG (h : Heap) (a : Addr) (S : κ → Bool) (n : Nat) : Prop :=
  ∃ (o : Obj) (es : Array (Int × Value)) (ep : Nat) (t : SetTable), h.get? a = some o ∧ o.ExactSet ∧ o.data = .set es ep t ∧ ((∀ e ∈ es.toList, GdE D e) ∧ (es.toList.map (ekey D)).Nodup ∧ ∀ k, S k = true ↔ k ∈ es.toList.map (ekey D)) ∧
    (es.size < scanBound ∧ t.fits es.size = true ∧ es.size = n) ∧ Ris t.place.toList ∧ (w.params.followText "set-order" = true ∨ t.led = true)
variable {D} {h h' : Heap} {a : Addr} {S : κ → Bool} {n : Nat}
theorem SetG.at (R : SetG D h a S n) (k : ∀ o, h.get? a = some o → h'.get? a = some o) : SetG D h' a S n := by
  obtain ⟨o, es, ep, t, ho, r⟩ := R
  exact ⟨o, es, ep, t, k o ho, r⟩
theorem SetG.congr {S' : κ → Bool} (R : SetG D h a S n) (e : ∀ k, S' k = S k) : SetG D h a S' n := (funext e : S' = S) ▸ R
theorem gd_elems {l : List (Int × Value)} (g : ∀ e ∈ l, GdE D e) : ElemsOf D.knd l := fun e he => by
  obtain ⟨k, tk, e1, e2⟩ := g e he
  rw [e1]
  exact ⟨⟨k, D.is k tk, e2⟩, D.scan k tk⟩
theorem gd_is {e : Int × Value} (g : GdE D e) (k : κ) : D.knd.is k e.2 = true ↔ ekey D e = k := by
  obtain ⟨k0, tk, e1, _⟩ := g
  have : ekey D e = k0 := by unfold ekey; rw [e1, D.kmk]
  rw [this, e1]
  exact ⟨fun z => D.knd.inj _ _ _ (D.is k0 tk) z, fun z => z ▸ D.is k0 tk⟩
theorem gd_mem {l : List (Int × Value)} (g : ∀ e ∈ l, GdE D e) (k : κ) : k ∈ l.map (ekey D) ↔ ∃ e ∈ l, D.knd.is k e.2 = true := by
  rw [List.mem_map]
  exact ⟨fun ⟨e, he, q⟩ => ⟨e, he, (gd_is (g e he) k).mpr q⟩, fun ⟨e, he, q⟩ => ⟨e, he, (gd_is (g e he) k).mp q⟩⟩
theorem SetG.setOf (R : SetG D h a S n) : h.SetOf D.knd a S n := by
  obtain ⟨o, es, ep, t, ho, hx, hd, ⟨g, nd, hm⟩, ⟨hb, hf, hn⟩, _⟩ := R
  exact ⟨o, es, ep, t, ho, hx, hd, gd_elems g, fun k => (hm k).trans (gd_mem g k), hb, hf, hn⟩
end
section
variable {P : Program} {w : World} {κ : Type} [DecidableEq κ] {D : Kd P w κ} {A : Around} {E : Value → Shared → Prop} {s : Shared} {a : Addr} {S : κ → Bool} {n : Nat}
theorem setG_tail {g : Bool → Sem Unit} (hg : ∀ (b : Bool) (s1 : Shared) (Q' : Unit → Shared → Prop), Q' () s1 → wpAny (model P w) A (g b) Q' E s1) {o : Obj} {es : Array (Int × Value)} {ep : Nat} {t : SetTable}
    (ho : s.heap.get? a = some o) (hex : o.ExactSet) (hd : o.data = .set es ep t) {es1 : Array (Int × Value)} {t2 : SetTable} {S' : κ → Bool}
    (m1 : (∀ e ∈ es1.toList, GdE D e) ∧ (es1.toList.map (ekey D)).Nodup ∧ ∀ k, S' k = true ↔ k ∈ es1.toList.map (ekey D)) (hb1 : es1.size < scanBound) (hf2 : t2.fits es1.size = true) (hr : Ris t2.place.toList)
    (hl : w.params.followText "set-order" = true ∨ t2.led = true) {wasDummy : Bool} {R : Option Bool → Shared → Prop} (hR : ∀ h', Heap.SameBut a s.heap h' → SetG D h' a S' es1.size → R (some true) { s with heap := h' }) :
    wpAny (model P w) A (do
        storeSet a es1 t2
        if (!wasDummy && t2.tooFull) = true then do
            g (relayAll t2 es1 (SetTable.grown es1.size)).2.2
            storeSet a (relayAll t2 es1 (SetTable.grown es1.size)).1 (relayAll t2 es1 (SetTable.grown es1.size)).2.1
            pure (some true)
          else pure (some true)) R E s := by
  have ho1 := store_at (es' := es1) (t' := t2) ho hd
  have sb1 := Heap.SameBut.update s.heap a (Obj.putSet es1 t2)
  refine wpAny_bind (wpAny_storeSet_of ho hd ?_ (fits_of_scanBound hb1))
  split
  · obtain ⟨pm, hf3, hr3, hl3⟩ : _ ∧ _ ∧ _ ∧ _ := ⟨relayAll_perm t2 es1 (SetTable.grown es1.size), relayAll_fits t2 es1 (SetTable.grown es1.size), relayAll_ris t2 es1 (SetTable.grown es1.size), relayAll_led t2 es1 (SetTable.grown es1.size)⟩
    generalize relayAll t2 es1 (SetTable.grown es1.size) = Z at pm hf3 hr3 hl3 ⊢
    obtain ⟨es2, t3, gave⟩ := Z
    dsimp only at pm hf3 hr3 hl3 ⊢
    have hsz : es2.size = es1.size := by rw [← Array.length_toList, pm.length_eq, Array.length_toList]
    refine wpAny_bind (hg _ _ _ (wpAny_bind (wpAny_storeSet_of ho1 rfl ?_ (fits_of_scanBound (hsz ▸ hb1)))))
    have pk := pm.map (ekey D)
    exact wpAny_pure (hR _ (sb1.trans (Heap.SameBut.update _ a _)) ⟨_, es2, _, t3, store_at (es' := es2) (t' := t3) ho1 rfl, hex, rfl,
      ⟨fun e he => m1.1 e (pm.mem_iff.mp he), pk.nodup_iff.mpr m1.2.1, fun k => (m1.2.2 k).trans pk.mem_iff.symm⟩, ⟨hsz ▸ hb1, hf3, hsz⟩, hr3, hl.imp id fun z => by rw [hl3]; exact z⟩)
  · exact wpAny_pure (hR _ sb1 ⟨_, es1, _, t2, ho1, hex, rfl, m1, ⟨hb1, hf2, rfl⟩, hr, hl⟩)
theorem setG_add {k : κ} {tk : Tok} {Q : Bool → Shared → Prop} (R : SetG D s.heap a S n) (room : n + 1 < scanBound)
    (hQ : ∀ h', Heap.SameBut a s.heap h' → SetG D h' a (fun j => S j || decide (j = k)) (if S k = true then n else n + 1) → Q (!S k) { s with heap := h' }) : wpAny (model P w) A (setAddHashed a (D.val k tk) (D.knd.hash k)) Q E s := by
  obtain ⟨o, es, ep, t, ho, hex, hd, ⟨g, nd, hm⟩, ⟨hb, hf, hn⟩, hr, hl⟩ := R
  have hel : ElemsOf D.knd es.toList := gd_elems g
  unfold setAddHashed setAddHashedIn
  refine wpAny_holding (wpAny_bind (wpAny_setState_of ho hd hf ?_))
  dsimp only
  rw [byScan_of (D.scan k tk) hb hel]
  simp only [↓reduceIte]
  unfold setAddByScan
  refine wpAny_bind (wpAny_bind (wpAny_rule (wpAny_bind (wpAny_setScan_of (D.is k tk) ho hd hf hel ?_))))
  cases hfi : List.findIdx? (fun e => D.knd.is k e.2) es.toList with
  | some j =>
    dsimp only
    obtain ⟨hj, pj, _⟩ := List.findIdx?_eq_some_iff_getElem.mp hfi
    have hSk : S k = true := (hm k).mpr ((gd_mem g k).mpr ⟨_, List.getElem_mem hj, pj⟩)
    have q := hQ s.heap (Heap.SameBut.refl a s.heap) ⟨o, es, ep, t, ho, hex, hd, ⟨g, nd, fun i => by
      rw [Bool.or_eq_true, decide_eq_true_eq, ← hm i]
      exact ⟨fun z => z.elim id (fun e => e ▸ hSk), .inl⟩⟩, ⟨hb, hf, by rw [if_pos hSk]; exact hn⟩, hr, hl⟩
    rw [hSk] at q
    exact wpAny_pure (wpAny_pure q)
  | none =>
    dsimp only
    have hnk : k ∉ es.toList.map (ekey D) := fun z => by
      obtain ⟨e, he, q⟩ := (gd_mem g k).mp z
      exact absurd q (by rw [List.findIdx?_eq_none_iff.mp hfi e he]; exact Bool.false_ne_true)
    have hSk : S k = false := by
      cases q : S k with
      | false => rfl
      | true => exact absurd ((hm k).mp q) hnk
    obtain ⟨pm, hf1, hr1, hl1⟩ : _ ∧ _ ∧ _ ∧ _ := ⟨layNew_perm t es (D.knd.hash k) (D.val k tk), layNew_fits t es (D.knd.hash k) (D.val k tk), layNew_ris t es (D.knd.hash k) (D.val k tk) hr, layNew_led t es (D.knd.hash k) (D.val k tk)⟩
    generalize layNew t es (D.knd.hash k) (D.val k tk) = Z at pm hf1 hr1 hl1 ⊢
    obtain ⟨es1, t1, wasDummy, gave⟩ := Z
    dsimp only at pm hf1 hr1 hl1 ⊢
    rw [Array.toList_push] at pm
    have pc : es1.toList.Perm ((D.knd.hash k, D.val k tk) :: es.toList) := pm.trans (List.perm_append_singleton _ _)
    have pk : (es1.toList.map (ekey D)).Perm (k :: es.toList.map (ekey D)) := by
      have := pc.map (ekey D)
      rw [List.map_cons, show ekey D (D.knd.hash k, D.val k tk) = k from D.kmk k tk] at this
      exact this
    have m1 : (∀ e ∈ es1.toList, GdE D e) ∧ (es1.toList.map (ekey D)).Nodup ∧ ∀ i, (S i || decide (i = k)) = true ↔ i ∈ es1.toList.map (ekey D) := by
      refine ⟨fun e he => ?_, pk.nodup_iff.mpr (List.nodup_cons.mpr ⟨hnk, nd⟩), fun i => ?_⟩
      · rcases List.mem_cons.mp (pc.mem_iff.mp he) with z | z
        · rw [z]; exact ⟨k, tk, rfl, rfl⟩
        · exact g e z
      · rw [Bool.or_eq_true, decide_eq_true_eq, hm i, pk.mem_iff, List.mem_cons]
        exact Or.comm
    have hsz : es1.size = n + 1 := by rw [← Array.length_toList, pc.length_eq, List.length_cons, Array.length_toList, hn]
    have hled : w.params.followText "set-order" = true ∨ t1.led = true := hl.imp id fun z => by rw [hl1]; exact z
    have fin : ∀ h', Heap.SameBut a s.heap h' → SetG D h' a (fun j => S j || decide (j = k)) es1.size → Q true { s with heap := h' } := fun h' sb r => by
      have q := hQ h' sb
      rw [hSk] at q
      rw [hsz] at r
      exact q r
    refine wpAny_bind ?_
    have gw : ∀ (b : Bool) (s1 : Shared) (Q' : Unit → Shared → Prop), Q' () s1 → wpAny (model P w) A (match b with | true => rule "set.scan.the-table-gave-way" | false => pure ()) Q' E s1 := fun b s1 Q' q => by
      cases b
      · exact wpAny_pure q
      · exact wpAny_rule q
    refine gw _ _ _ ?_
    split
    · refine wpAny_bind ?_
      rw [hashByValue_scannable 8 (D.scan k tk)]
      refine wpAny_pure (setG_tail (fun b s1 Q' q => gw b s1 Q' q) ho hex hd m1 (hsz ▸ room) ?_ ?_ ?_ fun h' sb r => ?_)
      · first | (split <;> first | exact hf1 | exact SetTable.fits_plain_off hf1) | exact hf1
      · first | (split <;> exact hr1) | exact hr1
      · first | (split <;> exact hled) | exact hled
      · dsimp only; exact wpAny_pure (fin h' sb r)
    · refine wpAny_bind (wpAny_pure ?_)
      simp only [↓reduceIte]
      refine setG_tail (fun b s1 Q' q => gw b s1 Q' q) ho hex hd m1 (hsz ▸ room) hf1 hr1 hled fun h' sb r => ?_
      dsimp only
      exact wpAny_pure (fin h' sb r)
end
section
variable {P : Program} {w : World} {κ : Type} [DecidableEq κ] {D : Kd P w κ} {A : Around} {E : Value → Shared → Prop} {s : Shared}
theorem setG_new {h : Heap} {a : Addr} {ns : List κ} (ho : h.get? a = some { cls := .type "set", dict := none, data := .set #[] 0 (.fresh 0 0 (!w.params.followText "set-order")) }) : SetG D h a (fun j => decide (j ∈ ns.take 0)) 0 :=
  ⟨_, #[], 0, _, ho, ⟨rfl, rfl, rfl⟩, rfl, ⟨fun e he => (by simp at he), (by simp), fun k => (by simp)⟩, ⟨(by decide), rfl, rfl⟩, List.Pairwise.nil, by
    show _ ∨ (!w.params.followText "set-order") = true
    cases w.params.followText "set-order" <;> simp⟩
theorem setG_loop {I : Addr} {fp wr : List Addr} {G : Array GenState → Array GenState → Prop} {n : Nat} {Pv : Nat → Value → Prop} {St : Nat → Shared → Prop} {R : Result → Shared → Prop} (W : WalksS P w A.in1 I fp wr G n Pv St) (S : Addr) (hSf : S ∉ fp)
    (ns : List κ) (hn : n = ns.length) (hb : ns.length + 1 < scanBound) (hval : ∀ i v, Pv i v → ∃ k t, ns[i]? = some k ∧ v = D.val k t) : ∀ (k i : Nat) (s : Shared), n - i = k → i ≤ n → St i s →
      (∃ c, c ≤ i ∧ SetG D s.heap S (fun j => decide (j ∈ ns.take i)) c) → (∀ s' c, Moved (S :: wr) G s s' → c ≤ n → SetG D s'.heap S (fun j => decide (j ∈ ns)) c → R (.ok (.ret .none)) s') →
      codeAny (model P w) A (.builtin "set.update.loop" ⟨[.ref S, .ref I], []⟩) R s := by
  have hSw : S ∉ wr := fun h => hSf (W.sub _ h)
  have more : ∀ b ∈ wr, b ∈ S :: wr := fun b hb => List.mem_cons_of_mem _ hb
  intro k
  induction k with
  | zero =>
    intro i s hk hi hst ⟨c, hc, hS⟩ hR
    obtain rfl : i = n := by omega
    refine codeAny_builtin F.entry_set_update_loop ?_
    rw [Around.under_plainId F.plain_set_update_loop _]
    refine wpAny_bind (m := pyNext (.ref I)) (W.done s _ _ hst fun s' hm => ?_)
    rw [List.take_of_length_le (by omega)] at hS
    exact wpAny_pure (hR s' c (hm.mono more) hc (hS.at fun o e => hm.heap S o hSw e))
  | succ k ih =>
    intro i s hk hi hst ⟨c, hc, hS⟩ hR
    have hlt : i < n := by omega
    refine codeAny_builtin F.entry_set_update_loop ?_
    rw [Around.under_plainId F.plain_set_update_loop _]
    refine wpAny_bind (m := pyNext (.ref I)) (W.item i s _ _ hlt hst fun v s' hP hst' hm => ?_)
    obtain ⟨z, t, hz, rfl⟩ := hval i v hP
    have hS' : SetG D s'.heap S (fun j => decide (j ∈ ns.take i)) c := hS.at fun o e => hm.heap S o hSw e
    refine wpAny_bind (m := holding [D.val z t] (setAdd S (D.val z t))) (wpAny_holding ?_)
    unfold setAdd
    refine wpAny_holding (wpAny_bind (D.knd.pyHash (k := z) (D.is z t) ?_))
    refine setG_add (s := { s' with toks := s'.toks + 1 }) hS' (by omega) fun h' hsb hS2 => ?_
    have hS3 := hS2.congr (S' := fun j => decide (j ∈ ns.take (i + 1))) fun j => by
      rw [List.take_add_one, hz]
      simp [List.mem_append]
    refine wpAny_pure ⟨plainId_quiet F.plain_set_update_loop _, ih (i + 1) _ (by omega) hlt (W.frame _ s' _ _ hst' (Nat.le_succ _) fun b hb o e => ?_) ⟨_, ?_, hS3⟩ fun s'' c2 hm2 hc2 hS4 => hR s'' c2 ?_ hc2 hS4⟩
    · rw [hsb.2 b (fun q : b = S => hSf (q ▸ hb))]; exact e
    · split <;> omega
    · exact Moved.trans W.gtrans ((hm.mono more).then_heap (Nat.le_succ _) fun b o hb e => (hsb.2 b (fun q : b = S => hb (q ▸ List.mem_cons_self))).trans e) hm2
end
section
variable {P : Program} {w : World} {κ : Type} [DecidableEq κ] {D : Kd P w κ} {A : Around} {E : Value → Shared → Prop} {s : Shared}
abbrev emS (w : World) : Obj := { cls := .type "set", dict := none, data := .set #[] 0 (.fresh 0 0 (!w.params.followText "set-order")) }
theorem call_setG_list {l : Addr} {items : Array Value} (ns : List κ) {Q : Value → Shared → Prop} (hh : A.handled = none) (hl : s.heap.IsList l items) (hz : items.size = ns.length) (hit : ∀ (i : Nat) (v : Value), items[i]? = some v → ∃ k t, ns[i]? = some k ∧ v = D.val k t) (hb : ns.length + 1 < scanBound)
    (h : ∀ (h' : Heap) (tk c : Nat), SetG D h' s.heap.objs.size (fun j => decide (j ∈ ns)) c → c ≤ ns.length → (∀ b o, s.heap.get? b = some o → h'.get? b = some o) → Q (.ref s.heap.objs.size) { s with heap := h', toks := tk }) : wpAny (model P w) A (call (.type "set") [.ref l]) Q E s := by
  obtain ⟨c, tl, hmro⟩ := F.called_set.mro
  have hmade := F.called_set.made
  have hsub := F.called_set.sub
  refine wpAny_call (codeAny_of_tree (wpAny_pure ⟨Code.quiet_builtin _ (by decide +kernel), codeAny_builtin F.entry_type_call ?_⟩))
  rw [Around.under_plain (weight_type_call_type "set" [.ref l] []) rfl]
  have nt := F.called_set.notType
  have cc := F.called_set.canCreate
  have ct := F.typeCall_set_1 (.ref l)
  repeat (any_goals (first | assumption | wp_step))
  refine codeAny_mono (code_set_led1 (.ref l) (E := E) (Q₁ := fun obj s1 => obj = .ref s.heap.objs.size ∧ s1 = { s with heap := s.heap.push (emS w) }) ⟨rfl, rfl⟩) fun r s1 hr => ?_
  match r, hr with
  | .error e, hr => exact hr
  | .ok (.ret obj), ⟨e0, e1⟩ =>
    subst e0
    subst e1
    have hS : (s.heap.push (emS w)).get? s.heap.objs.size = some (emS w) := Heap.get?_push_size _ rfl
    have hT : Shared.TypeIs { s with heap := s.heap.push (emS w) } (.ref s.heap.objs.size) "set" := ⟨_, hS, rfl⟩
    have li := F.called_set.init.lookup
    have bi := F.called_set.init.bind (.ref s.heap.objs.size)
    repeat (any_goals (first | assumption | wp_step))
    refine codeAny_mono (codeAny_call_builtin (R := wants (fun r s2 => r = .none ∧ ∃ h' tk c, s2 = { s with heap := h', toks := tk } ∧ SetG D h' s.heap.objs.size (fun j => decide (j ∈ ns)) c ∧ c ≤ ns.length ∧ (∀ b o, s.heap.get? b = some o → h'.get? b = some o)) E)
      F.called_set.init.plain F.entry_set_init (check_set_init_1 hT ?_)) fun r2 s2 hr2 => ?_
    · obtain ⟨ol, hol, hcl, nl, hdl⟩ := hl
      obtain ⟨ocls, odict, odata, oslots⟩ := ol
      simp only at hcl hdl
      subst hcl; subst hdl
      have kept : (s.heap.push (emS w)).get? l = some { cls := .type "list", dict := odict, data := .seq items nl, slots := oslots } := Heap.get?_push_of_some _ hol
      have su1 := F.sub_list_set
      have su2 := F.sub_list_frozenset
      have nd : (Value.type "list" == Value.type "dict") = false := by decide
      have hl1 : (s.heap.push (emS w)).IsList l items := ⟨_, kept, rfl, nl, rfl⟩
      unfold Builtin.«set.__init__» noKeywords Builtin.Frozenset.updateFrom
      generalize hPI : pyIter = PI
      wp_walk
      subst hPI
      refine wpAny_pyIter_list hl1 (wpAny_bind (wpAny_runValue ?_))
      have below : l < s.heap.objs.size := Heap.lt_size hol
      have hh3 : A.in1.in1.in1.handled = none := by simp [hh]
      have sz1 : (s.heap.push (emS w)).objs.size = s.heap.objs.size + 1 := Heap.size_push ..
      have neI : l ≠ (s.heap.push (emS w)).objs.size := by rw [sz1]; exact Nat.ne_of_lt (Nat.lt_succ_of_lt below)
      have nf : s.heap.objs.size ∉ [(s.heap.push (emS w)).objs.size, l] := by
        rw [sz1]; simp only [List.mem_cons, List.not_mem_nil, or_false, not_or]
        exact ⟨Nat.ne_of_lt (Nat.lt_succ_self _), Nat.ne_of_gt below⟩
      refine setG_loop ((Walks.list hh3 _ l neI items).toS) s.heap.objs.size nf ns hz hb hit (items.size - 0) 0 _ (by omega) (Nat.zero_le _) ⟨⟨_, Heap.get?_push_size _ rfl, rfl, rfl⟩, (hl1.push _)⟩ ?hS0 ?hR
      case hS0 => exact ⟨0, Nat.le_refl 0, setG_new (Heap.get?_push_of_some _ hS)⟩
      case hR =>
        intro s' c' hm hc' hS'
        obtain ⟨h', g2, d', tk', os'⟩ := s'
        obtain rfl : g2 = s.gens := hm.gens
        obtain rfl : d' = s.drawn := hm.drawn
        obtain rfl : os' = s.os := hm.os
        rw [hz] at hc'
        refine wpAny_pure (wpAny_pure ⟨rfl, h', tk', c', rfl, hS', hc', fun b o e => ?_⟩)
        have hb0 := Heap.lt_size e
        exact hm.heap b o (by rw [sz1]; simp only [List.mem_cons, List.not_mem_nil, or_false, not_or]; exact ⟨Nat.ne_of_lt hb0, Nat.ne_of_lt (Nat.lt_succ_of_lt hb0)⟩) (Heap.get?_push_of_some _ (Heap.get?_push_of_some _ e))
    · match r2, hr2 with
      | .error e, hr2 => exact hr2
      | .ok (.ret r), ⟨e0, h', tk, c', e1, hS', hc', hk'⟩ =>
        subst e0
        subst e1
        repeat (any_goals (first | assumption | wp_step))
        exact h _ _ _ hS' hc' hk'
theorem call_setG_tuple {l : Addr} {items : Array Value} (ns : List κ) {Q : Value → Shared → Prop} (hh : A.handled = none) (hl : s.heap.IsTuple l items) (hz : items.size = ns.length) (hit : ∀ (i : Nat) (v : Value), items[i]? = some v → ∃ k t, ns[i]? = some k ∧ v = D.val k t) (hb : ns.length + 1 < scanBound)
    (h : ∀ (h' : Heap) (tk c : Nat), SetG D h' s.heap.objs.size (fun j => decide (j ∈ ns)) c → c ≤ ns.length → (∀ b o, s.heap.get? b = some o → h'.get? b = some o) → Q (.ref s.heap.objs.size) { s with heap := h', toks := tk }) : wpAny (model P w) A (call (.type "set") [.ref l]) Q E s := by
  obtain ⟨c, tl, hmro⟩ := F.called_set.mro
  have hmade := F.called_set.made
  have hsub := F.called_set.sub
  refine wpAny_call (codeAny_of_tree (wpAny_pure ⟨Code.quiet_builtin _ (by decide +kernel), codeAny_builtin F.entry_type_call ?_⟩))
  rw [Around.under_plain (weight_type_call_type "set" [.ref l] []) rfl]
  have nt := F.called_set.notType
  have cc := F.called_set.canCreate
  have ct := F.typeCall_set_1 (.ref l)
  repeat (any_goals (first | assumption | wp_step))
  refine codeAny_mono (code_set_led1 (.ref l) (E := E) (Q₁ := fun obj s1 => obj = .ref s.heap.objs.size ∧ s1 = { s with heap := s.heap.push (emS w) }) ⟨rfl, rfl⟩) fun r s1 hr => ?_
  match r, hr with
  | .error e, hr => exact hr
  | .ok (.ret obj), ⟨e0, e1⟩ =>
    subst e0
    subst e1
    have hS : (s.heap.push (emS w)).get? s.heap.objs.size = some (emS w) := Heap.get?_push_size _ rfl
    have hT : Shared.TypeIs { s with heap := s.heap.push (emS w) } (.ref s.heap.objs.size) "set" := ⟨_, hS, rfl⟩
    have li := F.called_set.init.lookup
    have bi := F.called_set.init.bind (.ref s.heap.objs.size)
    repeat (any_goals (first | assumption | wp_step))
    refine codeAny_mono (codeAny_call_builtin (R := wants (fun r s2 => r = .none ∧ ∃ h' tk c, s2 = { s with heap := h', toks := tk } ∧ SetG D h' s.heap.objs.size (fun j => decide (j ∈ ns)) c ∧ c ≤ ns.length ∧ (∀ b o, s.heap.get? b = some o → h'.get? b = some o)) E)
      F.called_set.init.plain F.entry_set_init (check_set_init_1 hT ?_)) fun r2 s2 hr2 => ?_
    · obtain ⟨ol, hol, hcl, nl, hdl⟩ := hl
      obtain ⟨ocls, odict, odata, oslots⟩ := ol
      simp only at hcl hdl
      subst hcl; subst hdl
      have kept : (s.heap.push (emS w)).get? l = some { cls := .type "tuple", dict := odict, data := .seq items nl, slots := oslots } := Heap.get?_push_of_some _ hol
      have su1 := F.sub_tuple_set
      have su2 := F.sub_tuple_frozenset
      have nd : (Value.type "tuple" == Value.type "dict") = false := by decide
      have hl1 : (s.heap.push (emS w)).IsTuple l items := ⟨_, kept, rfl, nl, rfl⟩
      unfold Builtin.«set.__init__» noKeywords Builtin.Frozenset.updateFrom
      generalize hPI : pyIter = PI
      wp_walk
      subst hPI
      refine wpAny_pyIter_tuple hl1 (wpAny_bind (wpAny_runValue ?_))
      have below : l < s.heap.objs.size := Heap.lt_size hol
      have hh3 : A.in1.in1.in1.handled = none := by simp [hh]
      have sz1 : (s.heap.push (emS w)).objs.size = s.heap.objs.size + 1 := Heap.size_push ..
      have neI : l ≠ (s.heap.push (emS w)).objs.size := by rw [sz1]; exact Nat.ne_of_lt (Nat.lt_succ_of_lt below)
      have nf : s.heap.objs.size ∉ [(s.heap.push (emS w)).objs.size, l] := by
        rw [sz1]; simp only [List.mem_cons, List.not_mem_nil, or_false, not_or]
        exact ⟨Nat.ne_of_lt (Nat.lt_succ_self _), Nat.ne_of_gt below⟩
      refine setG_loop ((Walks.tuple hh3 _ l neI items).toS) s.heap.objs.size nf ns hz hb hit (items.size - 0) 0 _ (by omega) (Nat.zero_le _) ⟨⟨_, Heap.get?_push_size _ rfl, rfl, rfl⟩, (hl1.push _)⟩ ?hS0 ?hR
      case hS0 => exact ⟨0, Nat.le_refl 0, setG_new (Heap.get?_push_of_some _ hS)⟩
      case hR =>
        intro s' c' hm hc' hS'
        obtain ⟨h', g2, d', tk', os'⟩ := s'
        obtain rfl : g2 = s.gens := hm.gens
        obtain rfl : d' = s.drawn := hm.drawn
        obtain rfl : os' = s.os := hm.os
        rw [hz] at hc'
        refine wpAny_pure (wpAny_pure ⟨rfl, h', tk', c', rfl, hS', hc', fun b o e => ?_⟩)
        have hb0 := Heap.lt_size e
        exact hm.heap b o (by rw [sz1]; simp only [List.mem_cons, List.not_mem_nil, or_false, not_or]; exact ⟨Nat.ne_of_lt hb0, Nat.ne_of_lt (Nat.lt_succ_of_lt hb0)⟩) (Heap.get?_push_of_some _ (Heap.get?_push_of_some _ e))
    · match r2, hr2 with
      | .error e, hr2 => exact hr2
      | .ok (.ret r), ⟨e0, h', tk, c', e1, hS', hc', hk'⟩ =>
        subst e0
        subst e1
        repeat (any_goals (first | assumption | wp_step))
        exact h _ _ _ hS' hc' hk'
end
end L2
namespace L2
open PySem PySem.Spec PyProof.Rows
section
variable {P : Program} {w : World} {κ : Type} [DecidableEq κ] {D : Kd P w κ} {A : Around} {E : Value → Shared → Prop} {s : Shared} {a : Addr} {S : κ → Bool} {n : Nat}
theorem each_keys : ∀ (vs : List Value), (∀ v ∈ vs, ∃ k t, v = D.val k t) → PySem.W.EachIs (fun v k => ∃ t, v = D.val k t) vs (vs.map D.key)
  | [], _ => .nil
  | v :: vs, h => by
    obtain ⟨k, t, rfl⟩ := h v List.mem_cons_self
    exact .cons ⟨t, by rw [D.kmk]⟩ (each_keys vs fun u hu => h u (List.mem_cons_of_mem _ hu))
theorem each_imp {α β : Type} {R R' : α → β → Prop} (h : ∀ a b, R a b → R' a b) : ∀ {xs : List α} {ys : List β}, PySem.W.EachIs R xs ys → PySem.W.EachIs R' xs ys
  | _, _, .nil => .nil
  | _, _, .cons a t => .cons (h _ _ a) (each_imp h t)
theorem each_vals : ∀ {us : List Value} {ks : List κ}, PySem.W.EachIs (fun v k => ∃ t, v = D.val k t) us ks → Vals (ks.map D.vv) us
  | _, _, .nil => .nil
  | _, _, .cons ⟨t, e⟩ r => by
    subst e
    exact .cons (D.lel _ t) (each_vals r)
theorem sorted_setG {Q : Value → Shared → Prop} (R : SetG D s.heap a S n) (hh : A.handled = none) (hu : A.units + 10 < cLine) (hn0 : n < 4096)
    (hQ : ∀ s' p (out : Array Value) (c : Nat) (ks : List κ), (∀ b o, s.heap.get? b = some o → s'.heap.get? b = some o) → s'.gens = s.gens → s'.os = s.os → s.heap.objs.size ≤ p → s'.heap.get? p = some (seqObj "list" out c) →
      ks.Nodup → (∀ k, k ∈ ks ↔ S k = true) → ks.length = n → Vals ((ks.mergeSort (PySem.W.dataLe false D.enc)).map D.vv) out.toList → Q (.ref p) s') : wpAny (model P w) A (call (.builtin "sorted") [.ref a]) Q E s := by
  obtain ⟨o, es, ep, t, ho, hex, hd, ⟨g, nd, hm⟩, ⟨hb, hf, hn⟩, hr, hl⟩ := R
  refine Calls.call_function_entry kind_sorted plain_sorted entry_sorted (args_sorted1 _) ?_
  unfold Builtin.«sorted»
  refine wpAny_bind (m := checkCount "sorted" 1 1 _) (wpAny_pure (wpAny_bind (collect_set (A := A.in1) hh ⟨o, ho, hex.1, hd⟩ hf hb hr hl fun s1 vs k1 hz g1 o1 pm => ?_)))
  have hvl : vs.length = n := by rw [pm.length_eq, List.length_map, Array.length_toList]; exact hn
  have hall : ∀ v ∈ vs, ∃ k t, v = D.val k t := fun v hv => by
    obtain ⟨e, he, q⟩ := List.mem_map.mp (pm.mem_iff.mp hv)
    obtain ⟨k, tk, h1, _⟩ := g e he
    exact ⟨k, tk, by rw [← q]; exact h1⟩
  have pk : (vs.map D.key).Perm (es.toList.map (ekey D)) := by
    have q := pm.map D.key
    rw [List.map_map] at q
    exact q
  have E1 := each_keys vs hall
  have hline : vs.length ≤ sizeLine := by rw [hvl, sizeLine_eq]; omega
  refine wpAny_bind (wpAny_newList ?_ hline)
  have hoL : (s1.heap.push (seqObj "list" vs.toArray 0)).get? s1.heap.objs.size = some (seqObj "list" vs.toArray 0) := Heap.get?_push_size _ rfl
  refine wpAny_bind (wpAny_holding (PySem.W.list_sort_data (s := { s1 with heap := s1.heap.push (seqObj "list" vs.toArray 0) }) (R := fun v k => ∃ t, v = D.val k t) (enc := D.enc) (bs := vs.map D.key) hoL E1
    (each_imp (fun v k ⟨t, e⟩ => ⟨[], by rw [e]; exact D.rd _ k t, by simp⟩) E1) ?_ ?_ ?_ ?_ fun out ho2 eo => ?_))
  · intro d hd2 d' hd3
    obtain ⟨b, _, rfl⟩ := List.mem_map.mp hd2
    obtain ⟨b', _, rfl⟩ := List.mem_map.mp hd3
    exact D.al b b'
  · refine .inr fun d hd2 => ?_
    obtain ⟨b, _, rfl⟩ := List.mem_map.mp hd2
    exact D.so b
  · rw [List.length_map]; exact hline
  · intro b _
    rw [D.dp]
    show A.in1.units + 1 + 0 < cLine
    have : A.in1.units ≤ A.units + 1 := by simp
    omega
  · obtain ⟨c, hc⟩ := sortedHeap_at (vs := vs) (out := out.toArray) hoL
    refine wpAny_pure ⟨_, rfl, hQ { s1 with heap := sortedHeap (s1.heap.push (seqObj "list" vs.toArray 0)) s1.heap.objs.size vs out.toArray } s1.heap.objs.size out.toArray c (vs.map D.key) (fun b u e => ?_) g1 o1 hz hc (pk.nodup_iff.mpr nd) (fun k => by rw [pk.mem_iff, ← hm k]) (by rw [List.length_map]; exact hvl) (each_vals (by simpa using eo))⟩
    have q := k1 b u e
    have hlt := Heap.lt_size q
    show (sortedHeap (s1.heap.push (seqObj "list" vs.toArray 0)) s1.heap.objs.size vs out.toArray).get? b = some u
    rw [sortedHeap_old (Nat.ne_of_lt hlt) (by rw [size_push']; exact Nat.lt_succ_of_lt hlt)]
    exact Heap.get?_push_of_some _ q
end
section
variable {X : Cx} {κ : Type} [DecidableEq κ] {D : Kd X.prog X.w κ}
def SeqOf (K : PySem.W.Frag) {P : Program} {w : World} (D : Kd P w κ) (H : Hp) (x : V) (ks : List κ) : Prop := ∃ l, x = .ref l ∧ (SqL K H l (ks.map D.vv) ∨ SqT K H l (ks.map D.vv)) ∧ ks.length + 1 < 4096
theorem vals_at : ∀ {ks : List κ} {us : List Value}, Vals (ks.map D.vv) us → us.length = ks.length ∧ ∀ (i : Nat) (v : Value), us[i]? = some v → ∃ k t, ks[i]? = some k ∧ v = D.val k t
  | [], _, .nil => ⟨rfl, fun i v h => by simp at h⟩
  | k :: ks, _, .cons r t => by
    obtain ⟨h1, h2⟩ := vals_at t
    refine ⟨by simp [h1], fun i v h => ?_⟩
    cases i with
    | zero =>
      obtain ⟨tk, e⟩ := D.rel k _ r
      exact ⟨k, tk, rfl, by rw [← e]; simpa using h.symm⟩
    | succ i => exact h2 i v (by simpa using h)
theorem set_made {pins : List (Addr × Obj)} {σ : St} {H : Hp} {s : Shared} {E : Value → Shared → Prop} {v : Value} {x : V} {ks : List κ} {Q : Value → Shared → Prop} (hcalm : X.calm = true) (I : Inv X pins σ H s) (rx : RelV x v) (hq : SeqOf X.K D H x ks)
    (h : ∀ h' tk c, SetG D h' s.heap.objs.size (fun j => decide (j ∈ ks)) c → c ≤ ks.length → (∀ b o, s.heap.get? b = some o → h'.get? b = some o) → Q (.ref s.heap.objs.size) { s with heap := h', toks := tk }) : wpAny (model X.prog X.w) X.A (call (.type "set") [v]) Q E s := by
  obtain ⟨l, rfl, hq, hb⟩ := hq
  obtain rfl : v = Value.ref l := rx
  rcases hq with hq | hq
  · obtain ⟨its, r, pl, hz⟩ := I.list hq
    obtain ⟨h1, h2⟩ := vals_at (D := D) r
    exact call_setG_list (D := D) ks (I.ok.hd hcalm) pl.isList (by rw [List.size_toArray, h1]) (fun i v e => h2 i v (by simpa using e)) hb h
  · obtain ⟨its, r, pl, hz⟩ := I.tuple hq
    obtain ⟨h1, h2⟩ := vals_at (D := D) r
    exact call_setG_tuple (D := D) ks (I.ok.hd hcalm) pl (by rw [List.size_toArray, h1]) (fun i v e => h2 i v (by simpa using e)) hb h
def tLenSetG (K : PySem.W.Frag) {P : Program} {w : World} (D : Kd P w κ) (ta : TE) : TE := fun σ H Q => ta σ H fun x H1 => ∃ ks, SeqOf K D H1 x ks ∧ ∀ l : List κ, l.Nodup → (∀ k, k ∈ l ↔ k ∈ ks) → Q (.int l.length) H1
def tSortSetG (K : PySem.W.Frag) {P : Program} {w : World} (D : Kd P w κ) (ta : TE) : TE := fun σ H Q => ta σ H fun x H1 => ∃ ks, SeqOf K D H1 x ks ∧ ∀ (l : List κ) (p : Addr), l.Nodup → (∀ k, k ∈ l ↔ k ∈ ks) → H1 p = none → Q (.ref p) (upd H1 p (.lst ((l.mergeSort (PySem.W.dataLe false D.enc)).map D.vv)))
theorem pe_lenSetG {a : Expr} {ta : TE} {p p2 q pos : Pos} (hc : X.calm = true) (hg : Gl X "len") (hm : X.mg "len" = none) (hg2 : Gl X "set") (hm2 : X.mg "set" = none) (ha : PE X a ta)
    (na : starEach [a] X.env = (false, eval a X.env) :: starEach [] X.env := by rfl) : PE X (.Call (.Name "len" p) [.Call (.Name "set" p2) [a] [] q] [] pos) (tLenSetG X.K D ta) := by
  refine ⟨fun pins s σ H Q I h => Call_ (ld_blt I hg hm boot_len ?_)⟩
  refine PyProof.Rows.callWith_builtin1 (PyProof.Rows.args_cons (Call_ (ld_blt I hg2 hm2 boot_set ?_)) rfl) rfl rfl
  refine PyProof.Rows.callWith_type1 (PyProof.Rows.args_cons (thn (ha.run pins s σ H _ I h) fun v s1 ⟨x, H1, I1, r1, ks, hq, q1⟩ => PyProof.Rows.args_nil ?_) na) na rfl
  refine set_made (D := D) hc I1 r1 hq fun h' tk c hS hc2 hk => PyProof.Rows.args_nil ?_
  obtain ⟨o, es, ep, t, ho, hex, hd, ⟨g, nd, hmem⟩, ⟨hb, hf, hn⟩, _⟩ := hS
  have I2 : Inv X pins σ H1 { s1 with heap := h', toks := tk } := I1.kept fun b o e => hk b o e
  refine call_len_set ho hex hd hf (by have : es.size < 4096 := hb; omega) ⟨.int ((es.toList.map (ekey D)).length : Nat), H1, I2.tok _, ⟨_, by rw [List.length_map, Array.length_toList]⟩, q1 _ nd fun k => ?_⟩
  rw [← hmem k, decide_eq_true_eq]
theorem pe_sortSetG {a : Expr} {ta : TE} {p p2 q pos : Pos} (hc : X.calm = true) (hu : X.A.units + 10 < cLine) (hg : Gl X "sorted") (hm : X.mg "sorted" = none) (hg2 : Gl X "set") (hm2 : X.mg "set" = none) (ha : PE X a ta)
    (na : starEach [a] X.env = (false, eval a X.env) :: starEach [] X.env := by rfl) : PE X (.Call (.Name "sorted" p) [.Call (.Name "set" p2) [a] [] q] [] pos) (tSortSetG X.K D ta) := by
  refine ⟨fun pins s σ H Q I h => Call_ (ld_blt I hg hm boot_sorted ?_)⟩
  refine PyProof.Rows.callWith_builtin1 (PyProof.Rows.args_cons (Call_ (ld_blt I hg2 hm2 boot_set ?_)) rfl) rfl rfl
  refine PyProof.Rows.callWith_type1 (PyProof.Rows.args_cons (thn (ha.run pins s σ H _ I h) fun v s1 ⟨x, H1, I1, r1, ks, hq, q1⟩ => PyProof.Rows.args_nil ?_) na) na rfl
  have hlk : ks.length + 1 < 4096 := by obtain ⟨_, _, _, z⟩ := hq; exact z
  refine set_made (D := D) hc I1 r1 hq fun h' tk c hS hc2 hk => PyProof.Rows.args_nil ?_
  have I2 : Inv X pins σ H1 { s1 with heap := h', toks := tk } := I1.kept fun b o e => hk b o e
  refine sorted_setG (s := { s1 with heap := h', toks := tk }) hS (I1.ok.hd hc) hu (by omega) fun s' p2 out cc ks2 k2 g2 o2 hp hat nd hmem hlen hv => ?_
  have hn : H1 p2 = none := I2.hok.fresh hp
  have hlen2 : ((ks2.mergeSort (PySem.W.dataLe false D.enc)).map D.vv).length ≤ sizeLine := by rw [List.length_map, List.length_mergeSort, hlen, sizeLine_eq]; omega
  have e : s' = { heap := s'.heap, gens := s'.gens, drawn := s'.drawn, toks := s'.toks, os := s1.os } := by
    cases s'
    cases o2
    rfl
  have J : Inv X pins σ (upd H1 p2 (.lst ((ks2.mergeSort (PySem.W.dataLe false D.enc)).map D.vv))) { ({ s1 with heap := h', toks := tk } : Shared) with heap := s'.heap, gens := s'.gens, drawn := s'.drawn, toks := s'.toks } :=
    I2.call (ch := []) (Un.laid k2 hp hn) (I2.hok.laid k2 hp ⟨hlen2, out.toList, cc, hv, hat⟩) (by rw [g2]; exact I2.bare) (fun _ z => nomatch z)
  rw [e]
  exact ⟨.ref p2, _, J, rfl, q1 ks2 p2 nd (fun k => by rw [hmem k, decide_eq_true_eq]) hn⟩
end
end L2
namespace TR
open PySem PySem.Spec PyProof.Rows L2
structure CalW (P : Program) (w : World) (K : PySem.W.Frag) (mg : Str → Option Value) (base : Heap) (k : Nat) (x : Str) (g : Fn) : Prop where
  ex : ∃ (f : Addr) (fd : FuncData) (ps : List Str), FnOk P w K mg base (L2.CX P w) k f fd ps (spF K mg g) ∧ mg x = some (.ref f) ∧ PySem.W.keepIn K (.ref f) = true ∧ Binds K fd ps []
theorem CalW.mono {P : Program} {w : World} {K : PySem.W.Frag} {mg : Str → Option Value} {base : Heap} {j k : Nat} {x : Str} {g : Fn} (c : CalW P w K mg base j x g) (h : j ≤ k) : CalW P w K mg base k x g := by
  obtain ⟨f, fd, ps, F, r⟩ := c.ex
  exact ⟨f, fd, ps, F.mono h, r⟩
theorem CalW.of {P : Program} {w : World} {K : PySem.W.Frag} {mg : Str → Option Value} {base : Heap} {k : Nat} {x : Str} {g : Fn} {f : Addr} {fd : FuncData} {ps : List Str} (F : FnOk P w K mg base (L2.CX P w) k f fd ps (spF K mg g)) (h1 : mg x = some (.ref f)) (h2 : PySem.W.keepIn K (.ref f) = true) (h3 : Binds K fd ps []) : CalW P w K mg base k x g := ⟨⟨f, fd, ps, F, h1, h2, h3⟩⟩
theorem cal {X : Cx} {k : Nat} {x : Str} {g : Fn} (c : CalW X.prog X.w X.K X.mg X.base k x g) : Cal X k x g := ⟨c.ex⟩
theorem tk_no {X : Cx} : Takes X (fun _ _ _ _ => False) := fun _ _ ⟨_, _, _, _, _, _, _, _, _, _, _, _, _, _, _, _, w⟩ => w.elim
theorem blk_in {X : Cx} {N : List Str} {sc scope : Scope} {own : List (Str × Nat)} (hN : X.N = N) (hs : X.env.scope = sc) (h : blkC N sc scope own = true) : BlkOk X.N X.env.scope scope own := by
  subst hN hs
  exact blkOk_by h
theorem room_hu {k : Nat} {A : Around} (r : Room k A) : A.units + 100 < cLine := by have := r.un; omega
theorem room_hu1 {k : Nat} {A : Around} (r : Room k A) : A.units + 1 < cLine := by have := r.un; omega
section
variable {X : Cx} {K : PySem.W.Frag}
theorem pvr (i : Nat) {x : Str} {pos : Pos} (hN : X.N[i]? = some x := by rfl) (hv : Vis X.env.scope x := by first | exact Or.inl rfl | exact Or.inr (Or.inl rfl) | exact Or.inr (Or.inr rfl)) (hd : (x == ("__debug__" : Str)) = false := by decide)
    (hcd : (x == ("__classdict__" : Str)) = false := by decide) : PE X (.Name x pos) (tVar i) := pe_var hN hv hd hcd
def gAdd0 := gI (fun i j => i + j) yes2
theorem k_add0 : Ok2 K (rI0 fun i j => .int (i + j)) gAdd0 := k_I0
def cMul0 (i j : Int) : Bool := decide (-(2 ^ 64) < i ∧ i < 2 ^ 64) || decide (-(2 ^ 64) < j ∧ j < 2 ^ 64)
def gMul0 := gI (fun i j => i * j) cMul0
theorem k_mul0 : Ok2 K (rI CMul fun i j => .int (i * j)) gMul0 := k_I fun i j h => by
  unfold cMul0 at h
  rw [Bool.or_eq_true] at h
  exact h.imp of_decide_eq_true of_decide_eq_true
theorem pip_add : PIp X .Add (rI0 fun i j => .int (i + j)) := iop_add
theorem pip_sub : PIp X .Sub (rI0 fun i j => .int (i - j)) := iop_sub
theorem pip_mul : PIp X .Mult (rI CMul fun i j => .int (i * j)) := iop_mul
theorem pip_or : PIp X .BitOr (rI0 fun i j => .int (Builtin.bitOr i j)) := iop_or
end
theorem boot_isinstance : bootBuiltins "isinstance" = some (.builtin "isinstance") := by decide +kernel
def LawOk (g : Fn) : Prop := ∀ ns : List Int, ns.length ≤ 63 → ∃ ρ, g [.vw (.fls (ns.map fun i => .pv (.int i)))] = .ok (.pv (.bl true), ρ)
theorem law_sp {K : PySem.W.Frag} {mg : Str → Option Value} {g : Fn} (h : LawOk g) (H : Hp) (a : Addr) (ns : List Int) (hl : ns.length ≤ 63) (ho : Only H) (hs : SqL K H a (ns.map V.int)) : spF K mg g [.ref a] H (fun v _ => v = .bl true) fun _ _ _ => False := by
  obtain ⟨ρ, e⟩ := h ns hl
  have hv : Vws K top H (ns.map fun i => T.pv (.int i)) (ns.map V.int) := by
    clear hs e hl
    induction ns with
    | nil => rfl
    | cons i ns ih => exact ⟨_, _, rfl, rfl, ih⟩
  have fr : FrL K H a (ns.map V.int) := by
    rcases hs with hs | hs
    · rcases hs with hs | hs
      · rcases ho a with z | ⟨o, xs, z⟩
        · rw [z] at hs; cases hs
        · rw [z] at hs; cases hs
      · exact .inl hs
    · exact .inr hs
  refine ⟨[.vw (.fls (ns.map fun i => .pv (.int i)))], fun b => H b ≠ none, emp, ⟨⟨emp, emp, ⟨_, rfl, a, _, rfl, fr, Vws.alloc _ _ hv⟩, trivial, fun _ z => z, fun _ z => z, fun _ z => z.elim⟩, fun _ _ z => z, fun _ z => z, fun _ z => z.elim⟩, ?_⟩
  rw [e]
  exact fun v H' Z' A' B _ r _ _ _ => r
theorem walk_w {l : PySem.W.OpenLaw} {n k : Nat} {q : Program} {loose : List Str} {XP : (Str → Option Value) → Heap → Prop} {YP : World → Heap → Prop} {d : DefRec} {x : Str} (e1 : l.most = some n) (e2 : n ≤ sizeLine) (e3 : d.params.defaults = []) (r : Room k callerA)
    (F : ∀ (w : World) (mg : Str → Option Value) (fa : Addr) (h : Heap), YP w h → h.Ns mainGlobals mg → mg d.name = some (.ref fa) → ∃ (K : PySem.W.Frag) (fd : FuncData) (sp : Sp), K.In h ∧ (∀ (s : Shared) (u : Value), BindsTo s fd ⟨[u], []⟩ [(x, u)]) ∧
      (∀ (H : Hp) (a : Addr) (ns : List Int), ns.length ≤ n → Only H → SqL K H a (ns.map V.int) → sp [.ref a] H (fun v _ => v = .bl true) fun _ _ _ => False) ∧ ∀ base : Heap, K.In base → base.Ns mainGlobals mg → FnOk l.prog w K mg base (L2.CX l.prog w) k fa fd [x] sp) :
    PySem.W.WalkO q loose XP YP l.row.toRowW d [] (fun f vs => PySem.call f vs) := Att.attach_call e1 e3 fun w _ s1 mg _ fa _ _ _ _ a _ ns G Y _ _ _ hm ho hi hlen hg => by
  obtain ⟨K, fd, sp, i1, i2, i3, i4⟩ := F w mg fa _ Y G.T.g hm
  exact law_call i1 G.T.g G.T.b G.T.builtins G.T.nolimit hg ho hi (Nat.le_trans hlen e2) r i4 i2 (fun H o1 o2 => i3 H a ns hlen o1 o2) fun _ _ _ ⟨_, _, _, _, _, _, _, _, _, _, _, _, z⟩ => z.elim
end TR
namespace TR
open PySem PySem.Spec PyProof.Rows L2
@[simp] theorem fC_ap  (p : P) (ρ : Env) : fC p ρ = (.ok (.pv p)) := nr rfl
@[simp] theorem fVar_ap  (i : Nat) (ρ : Env) : fVar i ρ = (match ρ[i]? with
  | some (.ow t) => .ok t
  | some (.vw t) => .ok t
  | _ => .bad) := nr rfl
@[simp] theorem fVarZ_ap  (i : Nat) (ρ : Env) : fVarZ i ρ = (match ρ[i]? with
  | some (.ow (.pv p)) => .ok (.pv p)
  | some (.vw t) => .ok t
  | _ => .bad) := nr rfl
@[simp] theorem fLateN_ap  (i : Nat) (ρ : Env) : fLateN i ρ = (match ρ[i]? with
  | some (.ow _) => .ok (.late i, ρ)
  | some (.vw _) => .ok (.late i, ρ)
  | _ => .bad) := nr rfl
@[simp] theorem fMv_ap  (i : Nat) (ρ : Env) : fMv i ρ = (match ρ[i]? with
  | some (.ow t) => .ok (.val t, ρ.set i .no)
  | some (.vw (.pv p)) => .ok (.val (.pv p), ρ)
  | _ => .bad) := nr rfl
@[simp] theorem fPure_ap  (f : Env → R Unit T) (ρ : Env) : fPure f ρ = ((f ρ).bind fun t => match t with
  | .pv p => .ok (.pv p)
  | _ => .bad) := nr rfl
@[simp] theorem fVal_ap  (f : Env → R Unit T) (ρ : Env) : fVal f ρ = (match f ρ with
  | .ok t => .ok (.val t, ρ)
  | .exc e _ => .exc e ρ
  | .bad => .bad) := nr rfl
@[simp] theorem f1_ap  (g : T → Option T) (fa : Env → R Unit T) (ρ : Env) : f1 g fa ρ = ((fa ρ).bind fun t => R.of (g t)) := nr rfl
@[simp] theorem f2_ap  (g : T → T → Option T) (fa fb : Env → R Unit T) (ρ : Env) : f2 g fa fb ρ = ((fa ρ).bind fun t => (fb ρ).bind fun u => R.of (g t u)) := nr rfl
@[simp] theorem fN_ap  (g : List T → Option T) (fa : Env → R Unit (List T)) (ρ : Env) : fN g fa ρ = ((fa ρ).bind fun t => R.of (g t)) := nr rfl
@[simp] theorem s1_ap  (g : T → Option T) (fa : Env → R Env (AV × Env)) (ρ : Env) : s1 g fa ρ = ((fa ρ).bind fun (x, ρ1) => R.of ((x.see ρ1).bind fun t => (g t).map fun q => (AV.val q, ρ1))) := nr rfl
@[simp] theorem s2_ap  (g : T → T → Option T) (fa fb : Env → R Env (AV × Env)) (ρ : Env) : s2 g fa fb ρ = ((fa ρ).bind fun (x, ρ1) => (fb ρ1).bind fun (y, ρ2) =>
  R.of ((x.see ρ2).bind fun t => (y.see ρ2).bind fun u => (g t u).map fun q => (AV.val q, ρ2))) := nr rfl
@[simp] theorem sN_ap  (g : List T → Option T) (fa : Env → R Env (List AV × Env)) (ρ : Env) : sN g fa ρ = ((fa ρ).bind fun (xs, ρ1) => R.of ((sees ρ1 xs).bind fun ts => (g ts).map fun q => (AV.val q, ρ1))) := nr rfl
@[simp] theorem aNil_ap  (ρ : Env) : aNil  ρ = (.ok []) := nr rfl
@[simp] theorem aNilO_ap  (ρ : Env) : aNilO  ρ = (.ok []) := nr rfl
@[simp] theorem aCons_ap  (fa : Env → R Unit T) (fr : Env → R Unit (List T)) (ρ : Env) : aCons fa fr ρ = ((fa ρ).bind fun t => (fr ρ).bind fun ts => .ok (t :: ts)) := nr rfl
@[simp] theorem sNil_ap  (ρ : Env) : sNil  ρ = (.ok ([], ρ)) := nr rfl
@[simp] theorem sCons_ap  (fa : Env → R Env (AV × Env)) (fr : Env → R Env (List AV × Env)) (ρ : Env) : sCons fa fr ρ = ((fa ρ).bind fun (t, ρ1) => (fr ρ1).bind fun (ts, ρ2) => .ok (t :: ts, ρ2)) := nr rfl
@[simp] theorem fTup_ap  (f : Env → R Unit (List T)) (ρ : Env) : fTup f ρ = ((f ρ).bind fun ts => if ts.length ≤ 1000 then .ok (mkT ts) else .bad) := nr rfl
@[simp] theorem fLst_ap  (f : Env → R Unit (List T)) (ρ : Env) : fLst f ρ = ((f ρ).bind fun ts => if ts.length ≤ 1000 then .ok (.lst ts) else .bad) := nr rfl
@[simp] theorem sTup_ap  (f : Env → R Env (List AV × Env)) (ρ : Env) : sTup f ρ = ((f ρ).bind fun (as, ρ1) => match ownOf ρ1 as with
  | some ts => if ts.length ≤ 1000 then .ok (.val (mkT ts), ρ1) else .bad
  | none => .bad) := nr rfl
@[simp] theorem sLst_ap  (f : Env → R Env (List AV × Env)) (ρ : Env) : sLst f ρ = ((f ρ).bind fun (as, ρ1) => match ownOf ρ1 as with
  | some ts => if ts.length ≤ 1000 then .ok (.val (.lst ts), ρ1) else .bad
  | none => .bad) := nr rfl
@[simp] theorem fB_ap  (f : Env → R Unit T) (ρ : Env) : fB f ρ = ((f ρ).bind fun t => match t with
  | .pv (.bl b) => .ok b
  | _ => .bad) := nr rfl
@[simp] theorem sB_ap  (f : Env → R Env (AV × Env)) (ρ : Env) : sB f ρ = ((f ρ).bind fun (a, ρ1) => match a.see ρ1 with
  | some (.pv (.bl b)) => .ok (b, ρ1)
  | _ => .bad) := nr rfl
@[simp] theorem fAndT_ap  (f g : Env → R Unit Bool) (ρ : Env) : fAndT f g ρ = ((f ρ).bind fun b => if b = true then g ρ else .ok false) := nr rfl
@[simp] theorem fOrT_ap  (f g : Env → R Unit Bool) (ρ : Env) : fOrT f g ρ = ((f ρ).bind fun b => if b = true then .ok true else g ρ) := nr rfl
@[simp] theorem fNotT_ap  (f : Env → R Unit Bool) (ρ : Env) : fNotT f ρ = ((f ρ).bind fun b => .ok (!b)) := nr rfl
@[simp] theorem sAndT_ap  (f g : Env → R Env (Bool × Env)) (ρ : Env) : sAndT f g ρ = ((f ρ).bind fun (b, ρ1) => if b = true then g ρ1 else .ok (false, ρ1)) := nr rfl
@[simp] theorem sOrT_ap  (f g : Env → R Env (Bool × Env)) (ρ : Env) : sOrT f g ρ = ((f ρ).bind fun (b, ρ1) => if b = true then .ok (true, ρ1) else g ρ1) := nr rfl
@[simp] theorem sNotT_ap  (f : Env → R Env (Bool × Env)) (ρ : Env) : sNotT f ρ = ((f ρ).bind fun (b, ρ1) => .ok (!b, ρ1)) := nr rfl
@[simp] theorem fQS_ap  (f : Env → R Unit Bool) (ρ : Env) : fQS f ρ = (match f ρ with
  | .ok b => .ok (b, ρ)
  | .exc e _ => .exc e ρ
  | .bad => .bad) := nr rfl
@[simp] theorem fAndV_ap  (f : Env → R Unit T) (g : Env → R Unit T) (ρ : Env) : fAndV f g ρ = ((fB f ρ).bind fun b => if b = true then g ρ else .ok (.pv (.bl false))) := nr rfl
@[simp] theorem fOrV_ap  (f : Env → R Unit T) (g : Env → R Unit T) (ρ : Env) : fOrV f g ρ = ((fB f ρ).bind fun b => if b = true then .ok (.pv (.bl true)) else g ρ) := nr rfl
@[simp] theorem fNotV_ap  (f : Env → R Unit T) (ρ : Env) : fNotV f ρ = ((fB f ρ).bind fun b => .ok (.pv (.bl (!b)))) := nr rfl
@[simp] theorem fIf_ap  (c : Env → R Unit Bool) (f g : Env → R Unit T) (ρ : Env) : fIf c f g ρ = ((c ρ).bind fun b => if b = true then f ρ else g ρ) := nr rfl
@[simp] theorem sIf_ap  (c : Env → R Env (Bool × Env)) (f g : Env → R Env (AV × Env)) (ρ : Env) : sIf c f g ρ = ((c ρ).bind fun (b, ρ1) => if b = true then f ρ1 else g ρ1) := nr rfl
@[simp] theorem fChain_ap  (g g' : T → T → Option T) (fa fb fc : Env → R Unit T) (ρ : Env) : fChain g g' fa fb fc ρ = ((fa ρ).bind fun t => (fb ρ).bind fun u => match g t u with
  | some (.pv (.bl true)) => (fc ρ).bind fun w => R.of (g' u w)
  | some (.pv (.bl false)) => .ok (.pv (.bl false))
  | _ => .bad) := nr rfl
@[simp] theorem pNone_ap  (ρ : Env) : pNone  ρ = (.ok none) := nr rfl
@[simp] theorem pSome_ap  (f : Env → R Unit T) (ρ : Env) : pSome f ρ = ((f ρ).bind fun t => match t with
  | .pv (.int i) => .ok (some i)
  | _ => .bad) := nr rfl
@[simp] theorem fSl_ap  (f : Env → R Unit T) (l h : Env → R Unit (Option Int)) (ρ : Env) : fSl f l h ρ = ((f ρ).bind fun t => (l ρ).bind fun lo => (h ρ).bind fun hi => R.of (gSl t lo hi)) := nr rfl
@[simp] theorem pNil_ap  (ρ : Env) : pNil  ρ = (.ok []) := nr rfl
@[simp] theorem pSnoc_ap  (f : Env → R Unit (List P)) (g : Env → R Unit T) (ρ : Env) : pSnoc f g ρ = ((f ρ).bind fun ks => match g ρ with
  | .ok (.pv p) => .ok (ks ++ [p])
  | _ => .bad) := nr rfl
@[simp] theorem iSeqF_ap  (f : Env → R Unit T) (ρ : Env) : iSeqF f ρ = ((f ρ).bind fun t => R.of (seqSl t)) := nr rfl
@[simp] theorem iLst_ap  (g : List T → Option (List Sl)) (f : Env → R Unit (List T)) (ρ : Env) : iLst g f ρ = ((f ρ).bind fun ts => R.of (g ts)) := nr rfl
@[simp] theorem iQ_ap  (fi : Env → R Unit (List Sl)) (ρ : Env) : iQ fi ρ = (match fi ρ with
  | .ok ss => .ok (ss, ρ)
  | .exc e _ => .exc e ρ
  | .bad => .bad) := nr rfl
@[simp] theorem iSeqE_ap  (f : Env → R Env (AV × Env)) (ρ : Env) : iSeqE f ρ = ((f ρ).bind fun (a, ρ1) => match a with
  | .val t => R.of ((seqSl t).map fun ss => (ss, ρ1))
  | .late _ => .bad) := nr rfl
@[simp] theorem iLstE_ap  (g : List T → Option (List Sl)) (f : Env → R Env (List AV × Env)) (ρ : Env) : iLstE g f ρ = ((f ρ).bind fun (as, ρ1) => R.of ((sees ρ1 as).bind fun ts => (g ts).map fun ss => (ss, ρ1))) := nr rfl
@[simp] theorem fYes_ap  (ρ : Env) : fYes  ρ = (.ok true) := nr rfl
@[simp] theorem fCall_ap  (g : Fn) (fa : Env → R Unit (List T)) (ρ : Env) : fCall g fa ρ = ((fa ρ).bind fun ts => match g (ts.map argSl) with
  | .ok (t, _) => .ok t
  | .exc e _ => .exc e ()
  | .bad => .bad) := nr rfl
@[simp] theorem sCall_ap  (g : Fn) (io : List Bool) (fa : Env → R Env (List AV × Env)) (ρ : Env) : sCall g io fa ρ = ((fa ρ).bind fun (as, ρ1) => match takeA io as ρ1 with
  | none => .bad
  | some (args, ρ2) => match g args with
    | .ok (t, ss) => .ok (.val t, giveB io as ss ρ2)
    | .exc e ss => .exc e (giveB io as ss ρ2)
    | .bad => .bad) := nr rfl
@[simp] theorem fIsi_ap  (n : String) (f : Env → R Unit T) (ρ : Env) : fIsi n f ρ = ((f ρ).bind fun t => if frozenT t = false then (match isiT (tyN t) n with
  | some b => .ok (.pv (.bl b))
  | none => .bad) else .bad) := nr rfl
@[simp] theorem s1c_ap  (g : T → Option T) (fa : Env → R Env (AV × Env)) (ρ : Env) : s1c g fa ρ = ((fa ρ).bind fun (x, ρ1) => match ownOf ρ1 [x] with
  | some [t] => (match g t with
    | some q => .ok (.val q, ρ1)
    | none => .bad)
  | _ => .bad) := nr rfl
@[simp] theorem lstRg1_ap  (f : Env → R Unit T) (ρ : Env) : lstRg1 f ρ = ((f ρ).bind fun t => match t with
  | .pv (.int n) => if rgOkB 0 n = true then .ok (.lst ((rgP 0 n).map .pv)) else .bad
  | _ => .bad) := nr rfl
@[simp] theorem lstRg2_ap  (f g : Env → R Unit T) (ρ : Env) : lstRg2 f g ρ = ((f ρ).bind fun t => (g ρ).bind fun u => match t, u with
  | .pv (.int a), .pv (.int n) => if rgOkB a n = true then .ok (.lst ((rgP a n).map .pv)) else .bad
  | _, _ => .bad) := nr rfl
@[simp] theorem tupRg1_ap  (f : Env → R Unit T) (ρ : Env) : tupRg1 f ρ = ((f ρ).bind fun t => match t with
  | .pv (.int n) => if rgOkB 0 n = true then .ok (.pv (.tup (rgP 0 n))) else .bad
  | _ => .bad) := nr rfl
@[simp] theorem tupRg2_ap  (f g : Env → R Unit T) (ρ : Env) : tupRg2 f g ρ = ((f ρ).bind fun t => (g ρ).bind fun u => match t, u with
  | .pv (.int a), .pv (.int n) => if rgOkB a n = true then .ok (.pv (.tup (rgP a n))) else .bad
  | _, _ => .bad) := nr rfl
abbrev pvi (i : Int) : T := .pv (.int i)
abbrev pvs' (x : Str) : T := .pv (.str x)
abbrev sli (i : Int) : Sl := .ow (.pv (.int i))
@[simp] theorem see_val (t : T) (ρ : Env) : (AV.val t).see ρ = some t := nr rfl
@[simp] theorem see_late (i : Nat) (ρ : Env) : (AV.late i).see ρ = (ρ[i]?).bind Sl.t? := nr rfl
@[simp] theorem t?_ow (t : T) : (Sl.ow t).t? = some t := nr rfl
@[simp] theorem t?_vw (t : T) : (Sl.vw t).t? = some t := nr rfl
@[simp] theorem sees_nil (ρ : Env) : sees ρ [] = some [] := nr rfl
@[simp] theorem sees_cons (ρ : Env) (a : AV) (as : List AV) : sees ρ (a :: as) = (a.see ρ).bind fun t => (sees ρ as).map fun ts => t :: ts := nr rfl
@[simp] theorem ownOf_nil (ρ : Env) : ownOf ρ [] = some [] := nr rfl
@[simp] theorem ownOf_val (ρ : Env) (t : T) (as : List AV) : ownOf ρ (.val t :: as) = (ownOf ρ as).map fun ts => t :: ts := nr rfl
@[simp] theorem gAdd_ii (i j : Int) : gAdd (.pv (.int i)) (.pv (.int j)) = some (.pv (.int (i + j))) := nr rfl
@[simp] theorem gAdd0_ii (i j : Int) : gAdd0 (.pv (.int i)) (.pv (.int j)) = some (.pv (.int (i + j))) := nr rfl
@[simp] theorem gSub_ii (i j : Int) : gSub (.pv (.int i)) (.pv (.int j)) = some (.pv (.int (i - j))) := nr rfl
@[simp] theorem gMul_ii (i j : Int) : gMul (.pv (.int i)) (.pv (.int j)) = if cMul i j = true then some (.pv (.int (i * j))) else none := nr rfl
@[simp] theorem gMod_ii (i j : Int) : gMod (.pv (.int i)) (.pv (.int j)) = if 0 < j then some (.pv (.int (i % j))) else none := by
  unfold gMod gI
  simp
@[simp] theorem gDiv_ii (i j : Int) : gDiv (.pv (.int i)) (.pv (.int j)) = if cDiv i j = true then some (.pv (.int (i / j))) else none := nr rfl
@[simp] theorem gPow_ii (i j : Int) : gPow (.pv (.int i)) (.pv (.int j)) = if cPow i j = true then some (.pv (.int (i ^ j.toNat))) else none := nr rfl
@[simp] theorem gNeg_i (i : Int) : gNeg (.pv (.int i)) = some (.pv (.int (-i))) := nr rfl
theorem cDiv_lit {i j : Int} (h0 : 0 < j) (h1 : j < 2 ^ 64) : cDiv i j = true := by
  unfold cDiv
  have hb : j.natAbs < 2 ^ 64 := by omega
  have : j.natAbs.log2 < 64 := (Nat.log2_lt (by omega)).mpr hb
  simp [h0]
  omega
theorem cMul_l {i j : Int} (h0 : -(2 ^ 64) < i) (h1 : i < 2 ^ 64) : cMul i j = true := by
  unfold cMul
  simp only [Bool.or_eq_true, decide_eq_true_eq]
  exact .inl (.inl ⟨h0, h1⟩)
theorem cMul_r {i j : Int} (h0 : -(2 ^ 64) < j) (h1 : j < 2 ^ 64) : cMul i j = true := by
  unfold cMul
  simp only [Bool.or_eq_true, decide_eq_true_eq]
  exact .inl (.inr ⟨h0, h1⟩)
theorem okD_int (i : Int) : okD (.int i) = true := rfl
@[simp] theorem gEq_ii (i j : Int) : gEq (.pv (.int i)) (.pv (.int j)) = some (.pv (.bl (decide (i = j)))) := nr rfl
@[simp] theorem gNe_ii (i j : Int) : gNe (.pv (.int i)) (.pv (.int j)) = some (.pv (.bl (!decide (i = j)))) := nr rfl
@[simp] theorem gEq_ss (x y : Str) : gEq (.pv (.str x)) (.pv (.str y)) = some (.pv (.bl (x == y))) := nr rfl
@[simp] theorem gNe_ss (x y : Str) : gNe (.pv (.str x)) (.pv (.str y)) = some (.pv (.bl (!(x == y)))) := nr rfl
@[simp] theorem gLt_ii (i j : Int) : gLt (.pv (.int i)) (.pv (.int j)) = some (.pv (.bl (decide (i < j)))) := by
  show some (T.pv (P.bl (PySem.W.dataLt (.int i) (.int j)))) = _
  rw [PySem.W.dataLt_int]
@[simp] theorem gGt_ii (i j : Int) : gGt (.pv (.int i)) (.pv (.int j)) = some (.pv (.bl (decide (j < i)))) := by
  show some (T.pv (P.bl (PySem.W.dataLt (.int j) (.int i)))) = _
  rw [PySem.W.dataLt_int]
@[simp] theorem gLe_ii (i j : Int) : gLe (.pv (.int i)) (.pv (.int j)) = some (.pv (.bl (decide (i ≤ j)))) := by
  show some (T.pv (P.bl (!PySem.W.dataLt (.int j) (.int i)))) = _
  rw [PySem.W.dataLt_int]
  congr 3
  rw [Bool.eq_iff_iff]; simp
@[simp] theorem gGe_ii (i j : Int) : gGe (.pv (.int i)) (.pv (.int j)) = some (.pv (.bl (decide (j ≤ i)))) := by
  show some (T.pv (P.bl (!PySem.W.dataLt (.int i) (.int j)))) = _
  rw [PySem.W.dataLt_int]
  congr 3
  rw [Bool.eq_iff_iff]; simp
@[simp] theorem gMax2_ii (i j : Int) : gMax2 [.pv (.int i), .pv (.int j)] = some (.pv (.int (if j > i then j else i))) := nr rfl
@[simp] theorem gMin2_ii (i j : Int) : gMin2 [.pv (.int i), .pv (.int j)] = some (.pv (.int (if j < i then j else i))) := nr rfl
@[simp] theorem gInt_b (b : Bool) : gInt [.pv (.bl b)] = some (.pv (.int (if b then 1 else 0))) := nr rfl
@[simp] theorem gInt_i (b : Int) : gInt [.pv (.int b)] = some (.pv (.int b)) := nr rfl
@[simp] theorem gLen_l (ts : List T) : gLen [.lst ts] = some (.pv (.int ts.length)) := nr rfl
@[simp] theorem gLen_f (ts : List T) : gLen [.fls ts] = some (.pv (.int ts.length)) := nr rfl
@[simp] theorem gLen_t (ps : List P) : gLen [.pv (.tup ps)] = some (.pv (.int ps.length)) := by
  show some (T.pv (P.int ((ps.map T.pv).length : Int))) = _
  rw [List.length_map]
@[simp] theorem gIx_l (ts : List T) (i : Int) : gIx (.lst ts) (.pv (.int i)) = atI ts i := nr rfl
@[simp] theorem gIx_t (ps : List P) (i : Int) : gIx (.pv (.tup ps)) (.pv (.int i)) = (atI ps i).map .pv := nr rfl
@[simp] theorem gIxP_t (ps : List P) (i : Int) : gIxP (.pv (.tup ps)) (.pv (.int i)) = (atI ps i).map .pv := by
  show pureO ((atI ps i).map .pv) = _
  cases atI ps i <;> rfl
theorem atI_nat' {α : Type} (xs : List α) (k : Nat) : atI xs (k : Int) = xs[k]? := by
  unfold atI ixN
  by_cases h : k < xs.length
  · simp [h]
  · simp [h]
@[simp] theorem atI_0 {α : Type} (x : α) (xs : List α) : atI (x :: xs) 0 = some x := atI_nat' (x :: xs) 0
@[simp] theorem atI_1 {α : Type} (x y : α) (xs : List α) : atI (x :: y :: xs) 1 = some y := atI_nat' (x :: y :: xs) 1
@[simp] theorem atI_2 {α : Type} (x y z : α) (xs : List α) : atI (x :: y :: z :: xs) 2 = some z := atI_nat' (x :: y :: z :: xs) 2
@[simp] theorem atI_3 {α : Type} (x y z w : α) (xs : List α) : atI (x :: y :: z :: w :: xs) 3 = some w := atI_nat' (x :: y :: z :: w :: xs) 3
theorem mkT_pv (ps : List P) : mkT (ps.map .pv) = .pv (.tup ps) := by unfold mkT; rw [pvs_map]
@[simp] theorem mkT_2 (p q : P) : mkT [.pv p, .pv q] = .pv (.tup [p, q]) := nr rfl
@[simp] theorem mkT_3 (p q r : P) : mkT [.pv p, .pv q, .pv r] = .pv (.tup [p, q, r]) := nr rfl
def Rn (N : Env → Prop) (Q : T → Env → Prop) : R Env (Fl × Env) → Prop
  | .ok (.nx, ρ) => N ρ
  | .ok (.rt t, ρ) => Q t ρ
  | _ => False
section
variable {N : Env → Prop} {Q : T → Env → Prop} {ρ : Env} {f g : FF}
theorem rn_imp {N' : Env → Prop} {Q' : T → Env → Prop} (n : ∀ ρ, N ρ → N' ρ) (q : ∀ t ρ, Q t ρ → Q' t ρ) : ∀ {o : R Env (Fl × Env)}, Rn N Q o → Rn N' Q' o
  | .ok (.nx, _), h => n _ h
  | .ok (.rt _, _), h => q _ _ h
  | .ok (.bk, _), h => h
  | .ok (.ct, _), h => h
  | .exc _ _, h => h
  | .bad, h => h
theorem rn_nx (h : N ρ) : Rn N Q (tNx ρ) := h
theorem rn_seq (h : Rn (fun ρ1 => Rn N Q (g ρ1)) Q (f ρ)) : Rn N Q (tSq f g ρ) := by
  unfold tSq
  generalize f ρ = o at h
  match o, h with
  | .ok (.nx, ρ1), h => exact h
  | .ok (.rt t, ρ1), h => exact h
theorem rn_if {c : Env → R Unit Bool} {b : Bool} (e : c ρ = .ok b) (h1 : b = true → Rn N Q (f ρ)) (h2 : b = false → Rn N Q (g ρ)) : Rn N Q (tIfQ c f g ρ) := by
  unfold tIfQ
  rw [e, liftQ_ok]
  cases b with
  | true => exact h1 rfl
  | false => exact h2 rfl
theorem rn_ifE {c : Env → R Env (Bool × Env)} {b : Bool} {ρ1 : Env} (e : c ρ = .ok (b, ρ1)) (h1 : b = true → Rn N Q (f ρ1)) (h2 : b = false → Rn N Q (g ρ1)) : Rn N Q (tIfE c f g ρ) := by
  unfold tIfE
  rw [e, R.bind_ok]
  cases b with
  | true => exact h1 rfl
  | false => exact h2 rfl
theorem rn_set {i : Nat} {fe : Env → R Unit T} {t : T} (e : fe ρ = .ok t) (hl : i < ρ.length) (h : N (ρ.set i (.ow t))) : Rn N Q (tSet i fe ρ) := by
  unfold tSet
  rw [e, liftQ_ok, if_pos hl]
  exact h
theorem rn_setE {i : Nat} {fe : Env → R Env (AV × Env)} {t : T} {ρ1 : Env} (e : fe ρ = .ok (.val t, ρ1)) (hl : i < ρ1.length) (h : N (ρ1.set i (.ow t))) : Rn N Q (tSetE i fe ρ) := by
  unfold tSetE
  rw [e, R.bind_ok]
  show Rn N Q (if i < ρ1.length then .ok (.nx, ρ1.set i (.ow t)) else .bad)
  rw [if_pos hl]
  exact h
theorem rn_setP {i : Nat} {fp : Env → R Unit (List P)} {fk fe : Env → R Unit T} {tv t t2 : T} {ks : List P} {p : P} (e1 : fe ρ = .ok tv) (e2 : fp ρ = .ok ks) (e3 : fk ρ = .ok (.pv p)) (e4 : ρ[i]? = some (.ow t)) (e5 : updPath ks (fun node => setKid node p tv) t = some t2) (h : N (ρ.set i (.ow t2))) : Rn N Q (tSetP i fp fk fe ρ) := by
  unfold tSetP
  rw [e1, liftQ_ok, e2, liftQ_ok, e3, e4]
  show Rn N Q (match updPath ks (fun node => setKid node p tv) t with
    | some t2 => .ok (.nx, ρ.set i (.ow t2))
    | none => .bad)
  rw [e5]
  exact h
theorem rn_ret {fe : Env → R Unit T} {t : T} (e : fe ρ = .ok t) (h : Q t ρ) : Rn N Q (tRetF fe ρ) := by
  unfold tRetF
  rw [e]
  exact h
theorem rn_retE {fe : Env → R Env (AV × Env)} {t : T} {ρ1 : Env} (e : fe ρ = .ok (.val t, ρ1)) (h : Q t ρ1) : Rn N Q (tRetE fe ρ) := by
  unfold tRetE
  rw [e]
  exact h
theorem rn_exp {fe : Env → R Unit T} {t : T} (e : fe ρ = .ok t) (h : N ρ) : Rn N Q (tExp fe ρ) := by
  unfold tExp
  rw [e]
  exact h
theorem rn_expE {fe : Env → R Env (AV × Env)} {a : AV} {ρ1 : Env} (e : fe ρ = .ok (a, ρ1)) (h : N ρ1) : Rn N Q (tExpE fe ρ) := by
  unfold tExpE
  rw [e]
  exact h
theorem rn_as {tg : TgF} {fe : Env → R Unit T} {t : T} {ρ1 : Env} (e : fe ρ = .ok t) (e2 : tg (.ow t) ρ = some ρ1) (h : N ρ1) : Rn N Q (tAs tg fe ρ) := by
  unfold tAs
  rw [e, liftQ_ok, e2]
  exact h
theorem rn_par {i j : Nat} {fe : Env → R Unit (List T)} {t u : T} (e : fe ρ = .ok [t, u]) (hl : i < ρ.length ∧ j < ρ.length) (h : N ((ρ.set i (.ow t)).set j (.ow u))) : Rn N Q (tPr i j fe ρ) := by
  unfold tPr
  rw [e, liftQ_ok]
  show Rn N Q (if i < ρ.length ∧ j < ρ.length then .ok (.nx, (ρ.set i (.ow t)).set j (.ow u)) else .bad)
  rw [if_pos hl]
  exact h
theorem forGo_run {tg : TgF} {b : FF} (I : Nat → Env → Prop) : ∀ (ss : List Sl) (i : Nat) (ρ : Env), I i ρ → (∀ j s ρ, ss[j]? = some s → I (i + j) ρ → ∃ ρ1, tg s ρ = some ρ1 ∧ Rn (fun ρ2 => I (i + j + 1) ρ2) Q (b ρ1)) → (∀ ρ, I (i + ss.length) ρ → N ρ) → Rn N Q (forGo tg b ss ρ)
  | [], i, ρ, h, _, fin => fin ρ h
  | s :: ss, i, ρ, h, st, fin => by
    obtain ⟨ρ1, e1, h1⟩ := st 0 s ρ rfl h
    show Rn N Q (match tg s ρ with
    | none => .bad
    | some ρ1 => match b ρ1 with
      | .ok (.nx, ρ2) => forGo tg b ss ρ2
      | .ok (.ct, ρ2) => forGo tg b ss ρ2
      | .ok (.bk, ρ2) => .ok (.nx, ρ2)
      | o => o)
    rw [e1]
    dsimp only
    generalize b ρ1 = o at h1
    match o, h1 with
    | .ok (.nx, ρ2), h1 =>
      refine forGo_run I ss (i + 1) ρ2 h1 (fun j s ρ e hI => ?_) (fun ρ hI => fin ρ ?_)
      · have := st (j + 1) s ρ (by simpa using e) (by rw [show i + (j + 1) = i + 1 + j by omega]; exact hI)
        rw [show i + (j + 1) + 1 = i + 1 + j + 1 by omega] at this
        exact this
      · rw [List.length_cons, show i + (ss.length + 1) = i + 1 + ss.length by omega]
        exact hI
    | .ok (.rt t, ρ2), h1 => exact h1
theorem rn_for {fi : Env → R Unit (List Sl)} {tg : TgF} {b : FF} (I : Nat → Env → Prop) {ss : List Sl} (e : fi ρ = .ok ss) (h0 : I 0 ρ) (st : ∀ j s ρ, ss[j]? = some s → I j ρ → ∃ ρ1, tg s ρ = some ρ1 ∧ Rn (fun ρ2 => I (j + 1) ρ2) Q (b ρ1)) (fin : ∀ ρ, I ss.length ρ → N ρ) : Rn N Q (tForF fi tg b ρ) := by
  unfold tForF
  rw [e, liftQ_ok]
  exact forGo_run I ss 0 ρ h0 (fun j s ρ e h => by rw [Nat.zero_add] at h ⊢; exact st j s ρ e h) fun ρ h => fin ρ (by rw [Nat.zero_add] at h; exact h)
theorem rn_forS {fi : Env → R Env (List Sl × Env)} {tg : TgF} {b : FF} (I : Nat → Env → Prop) {ss : List Sl} {ρ0 : Env} (e : fi ρ = .ok (ss, ρ0)) (h0 : I 0 ρ0) (st : ∀ j s ρ, ss[j]? = some s → I j ρ → ∃ ρ1, tg s ρ = some ρ1 ∧ Rn (fun ρ2 => I (j + 1) ρ2) Q (b ρ1)) (fin : ∀ ρ, I ss.length ρ → N ρ) : Rn N Q (tForS fi tg b ρ) := by
  unfold tForS
  rw [e, R.bind_ok]
  exact forGo_run I ss 0 ρ0 h0 (fun j s ρ e h => by rw [Nat.zero_add] at h ⊢; exact st j s ρ e h) fun ρ h => fin ρ (by rw [Nat.zero_add] at h; exact h)
theorem while_run {c : Env → R Unit Bool} {b : FF} (I : Nat → Env → Prop) (st : ∀ m ρ, I m ρ → (c ρ = .ok false ∧ N ρ) ∨ (c ρ = .ok true ∧ Rn (fun ρ2 => ∃ m', m' < m ∧ I m' ρ2) Q (b ρ))) : ∀ (n m : Nat) (ρ : Env), m < n → I m ρ → Rn N Q (whileGo c b n ρ)
  | 0, m, ρ, h, _ => absurd h (Nat.not_lt_zero _)
  | n + 1, m, ρ, h, hI => by
    unfold whileGo
    rcases st m ρ hI with ⟨e, q⟩ | ⟨e, q⟩
    · rw [e, liftQ_ok]
      exact q
    · rw [e, liftQ_ok, if_pos rfl]
      generalize b ρ = o at q
      match o, q with
      | .ok (.nx, ρ2), ⟨m', hm, q⟩ => exact while_run I st n m' ρ2 (by omega) q
      | .ok (.rt t, ρ2), q => exact q
theorem rn_while {c : Env → R Unit Bool} {b : FF} {n m : Nat} (I : Nat → Env → Prop) (hm : m < n) (h0 : I m ρ) (st : ∀ m ρ, I m ρ → (c ρ = .ok false ∧ N ρ) ∨ (c ρ = .ok true ∧ Rn (fun ρ2 => ∃ m', m' < m ∧ I m' ρ2) Q (b ρ))) : Rn N Q (whileGo c b n ρ) := while_run I st n m ρ hm h0
theorem fn_run {io : List Bool} {n : Nat} {b : FF} {args : Env} {G : T → Env → Prop} (hl : args.length = io.length) (h : Rn (fun ρ => G (.pv .non) (maskE io ρ)) (fun t ρ => G t (maskE io ρ)) (b (args ++ List.replicate (n - io.length) .no))) : ∃ t ρ', fnOf io n b args = .ok (t, ρ') ∧ G t ρ' := by
  unfold fnOf
  rw [if_pos hl]
  generalize b (args ++ List.replicate (n - io.length) .no) = o at h
  match o, h with
  | .ok (.nx, ρ2), h => exact ⟨_, _, rfl, h⟩
  | .ok (.rt t, ρ2), h => exact ⟨_, _, rfl, h⟩
theorem lc_run {α : Type} {g : TgF} {fc : Env → R Unit Bool} {fe : Env → R Unit T} {ρ : Env} (mk : α → Sl) (p : α → Bool) (h : α → T) : ∀ xs : List α, (∀ x ∈ xs, ∃ ρ1, g (mk x) ρ = some ρ1 ∧ fc ρ1 = .ok (p x) ∧ (p x = true → fe ρ1 = .ok (h x))) → lcGo g fc fe ρ (xs.map mk) = .ok ((xs.filter p).map h)
  | [], _ => rfl
  | x :: xs, H => by
    obtain ⟨ρ1, e1, e2, e3⟩ := H x List.mem_cons_self
    have ih := lc_run mk p h xs fun y hy => H y (List.mem_cons_of_mem _ hy)
    rw [List.map_cons]
    unfold lcGo
    rw [e1]
    dsimp only
    rw [e2]
    cases hp : p x with
    | true =>
      dsimp only
      rw [e3 hp]
      dsimp only
      rw [ih, R.bind_ok, List.filter_cons_of_pos hp, List.map_cons]
    | false =>
      dsimp only
      rw [ih, List.filter_cons_of_neg (by simp [hp])]
theorem lcE_run {g : TgF} {fc : Env → R Unit Bool} {fe : Env → R Env (AV × Env)} {vs : List Nat} (I : List T → Env → Prop) {L : Nat} : ∀ (ss : List Sl) (ts : List T) (ρ : Env), I ts ρ → ts.length + ss.length ≤ L → (∀ s ∈ ss, ∀ ts ρ, ts.length < L → I ts ρ → ∃ p ρ1 t ρ2, s = .ow (.pv p) ∧ g s ρ = some ρ1 ∧ fc ρ1 = .ok true ∧ fe ρ1 = .ok (.val t, ρ2) ∧ I (ts ++ [t]) (wipeE ρ2 vs)) →
    ∃ us ρ', lcGoE g fc fe vs ss ρ = .ok (us, ρ') ∧ us.length = ss.length ∧ I (ts ++ us) ρ'
  | [], ts, ρ, h, _, _ => ⟨[], ρ, rfl, rfl, by rw [List.append_nil]; exact h⟩
  | s :: ss, ts, ρ, h, hL, st => by
    obtain ⟨p, ρ1, t, ρ2, rfl, e1, e2, e3, h2⟩ := st s List.mem_cons_self ts ρ (by simp at hL; omega) h
    obtain ⟨us, ρ', e4, e5, h3⟩ := lcE_run I ss (ts ++ [t]) _ h2 (by simp at hL ⊢; omega) fun s hs => st s (List.mem_cons_of_mem _ hs)
    refine ⟨t :: us, ρ', ?_, by simp [e5], by simpa using h3⟩
    unfold lcGoE
    rw [e1]
    dsimp only
    rw [e2]
    dsimp only
    rw [e3]
    dsimp only
    rw [e4]
    rfl
theorem lcE_at {g : TgF} {fc : Env → R Unit Bool} {fe : Env → R Env (AV × Env)} {vs : List Nat} (I : List T → Env → Prop) : ∀ (ss : List Sl) (ts : List T) (ρ : Env), I ts ρ → (∀ j s us ρ, ss[j]? = some s → us.length = ts.length + j → I us ρ → ∃ p ρ1 t ρ2, s = .ow (.pv p) ∧ g s ρ = some ρ1 ∧ fc ρ1 = .ok true ∧ fe ρ1 = .ok (.val t, ρ2) ∧ I (us ++ [t]) (wipeE ρ2 vs)) →
    ∃ us ρ', lcGoE g fc fe vs ss ρ = .ok (us, ρ') ∧ us.length = ss.length ∧ I (ts ++ us) ρ'
  | [], ts, ρ, h, _ => ⟨[], ρ, rfl, rfl, by rw [List.append_nil]; exact h⟩
  | s :: ss, ts, ρ, h, st => by
    obtain ⟨p, ρ1, t, ρ2, rfl, e1, e2, e3, h2⟩ := st 0 s ts ρ rfl rfl h
    obtain ⟨us, ρ', e4, e5, h3⟩ := lcE_at I ss (ts ++ [t]) _ h2 fun j s us ρ hj hl => st (j + 1) s us ρ (by simpa using hj) (by simp at hl; omega)
    refine ⟨t :: us, ρ', ?_, by simp [e5], by simpa using h3⟩
    unfold lcGoE
    rw [e1]
    dsimp only
    rw [e2]
    dsimp only
    rw [e3]
    dsimp only
    rw [e4]
    rfl
theorem ixN_nat {n k : Nat} (h : k < n) : ixN n (k : Int) = some k := by
  unfold ixN
  rw [if_pos (by omega), if_pos (by omega)]
  simp
theorem fVal_of {f : Env → R Unit T} {ρ : Env} {t : T} (h : f ρ = .ok t) : fVal f ρ = .ok (.val t, ρ) := by rw [fVal_ap, h]
theorem f1_of {g : T → Option T} {f : Env → R Unit T} {ρ : Env} {t q : T} (h : f ρ = .ok t) (e : g t = some q) : f1 g f ρ = .ok q := by rw [f1_ap, h, R.bind_ok, e]; rfl
theorem f2_of {g : T → T → Option T} {f h : Env → R Unit T} {ρ : Env} {t u q : T} (h1 : f ρ = .ok t) (h2 : h ρ = .ok u) (e : g t u = some q) : f2 g f h ρ = .ok q := by rw [f2_ap, h1, R.bind_ok, h2, R.bind_ok, e]; rfl
theorem fN_of {g : List T → Option T} {f : Env → R Unit (List T)} {ρ : Env} {t : List T} {q : T} (h1 : f ρ = .ok t) (e : g t = some q) : fN g f ρ = .ok q := by rw [fN_ap, h1, R.bind_ok, e]; rfl
theorem aCons_of {f : Env → R Unit T} {h : Env → R Unit (List T)} {ρ : Env} {t : T} {ts : List T} (h1 : f ρ = .ok t) (h2 : h ρ = .ok ts) : aCons f h ρ = .ok (t :: ts) := by rw [aCons_ap, h1, R.bind_ok, h2]; rfl
theorem fPure_of {f : Env → R Unit T} {ρ : Env} {p : P} (h : f ρ = .ok (.pv p)) : fPure f ρ = .ok (.pv p) := by rw [fPure_ap, h]; rfl
theorem fB_of {f : Env → R Unit T} {ρ : Env} {b : Bool} (h : f ρ = .ok (.pv (.bl b))) : fB f ρ = .ok b := by rw [fB_ap, h]; rfl
theorem fNotT_of {f : Env → R Unit Bool} {ρ : Env} {b : Bool} (h : f ρ = .ok b) : fNotT f ρ = .ok (!b) := by rw [fNotT_ap, h]; rfl
theorem fTup_of {f : Env → R Unit (List T)} {ρ : Env} {ts : List T} (h : f ρ = .ok ts) (hl : ts.length ≤ 1000) : fTup f ρ = .ok (mkT ts) := by rw [fTup_ap, h, R.bind_ok, if_pos hl]
theorem fCall_of {g : Fn} {f : Env → R Unit (List T)} {ρ ρ' : Env} {ts : List T} {t : T} (h : f ρ = .ok ts) (e : g (ts.map argSl) = .ok (t, ρ')) : fCall g f ρ = .ok t := by rw [fCall_ap, h, R.bind_ok, e]
theorem s2_of {g : T → T → Option T} {f h : Env → R Env (AV × Env)} {ρ ρ1 ρ2 : Env} {a b : AV} {t u q : T} (h1 : f ρ = .ok (a, ρ1)) (h2 : h ρ1 = .ok (b, ρ2)) (h3 : a.see ρ2 = some t) (h4 : b.see ρ2 = some u) (e : g t u = some q) : s2 g f h ρ = .ok (.val q, ρ2) := by
  rw [s2_ap, h1, R.bind_ok]
  dsimp only
  rw [h2, R.bind_ok]
  dsimp only
  rw [h3, h4, Option.bind_some, Option.bind_some, e]; rfl
theorem sCons_of {f : Env → R Env (AV × Env)} {h : Env → R Env (List AV × Env)} {ρ ρ1 ρ2 : Env} {a : AV} {as : List AV} (h1 : f ρ = .ok (a, ρ1)) (h2 : h ρ1 = .ok (as, ρ2)) : sCons f h ρ = .ok (a :: as, ρ2) := by
  rw [sCons_ap, h1, R.bind_ok]
  dsimp only
  rw [h2]; rfl
theorem sTup_of {f : Env → R Env (List AV × Env)} {ρ ρ1 : Env} {as : List AV} {ts : List T} (h1 : f ρ = .ok (as, ρ1)) (h2 : ownOf ρ1 as = some ts) (hl : ts.length ≤ 1000) : sTup f ρ = .ok (.val (mkT ts), ρ1) := by
  rw [sTup_ap, h1, R.bind_ok]
  dsimp only
  rw [h2]
  dsimp only
  rw [if_pos hl]
theorem sLst_of {f : Env → R Env (List AV × Env)} {ρ ρ1 : Env} {as : List AV} {ts : List T} (h1 : f ρ = .ok (as, ρ1)) (h2 : ownOf ρ1 as = some ts) (hl : ts.length ≤ 1000) : sLst f ρ = .ok (.val (.lst ts), ρ1) := by
  rw [sLst_ap, h1, R.bind_ok]
  dsimp only
  rw [h2]
  dsimp only
  rw [if_pos hl]
theorem iQ_of {f : Env → R Unit (List Sl)} {ρ : Env} {ss : List Sl} (h : f ρ = .ok ss) : iQ f ρ = .ok (ss, ρ) := by rw [iQ_ap, h]
theorem iSeqF_of {f : Env → R Unit T} {ρ : Env} {t : T} {ss : List Sl} (h : f ρ = .ok t) (e : seqSl t = some ss) : iSeqF f ρ = .ok ss := by rw [iSeqF_ap, h, R.bind_ok, e]; rfl
theorem fLc_of {vs : List Nat} {fi : Env → R Unit (List Sl)} {g : TgF} {fc : Env → R Unit Bool} {fe : Env → R Unit T} {ρ : Env} {ss : List Sl} {ts : List T} (h : fi ρ = .ok ss) (e : lcGo g fc fe (wipeE (viewE ρ) vs) ss = .ok ts) : fLc vs fi g fc fe ρ = .ok (.lst ts) := by
  unfold fLc
  rw [h, R.bind_ok, e]; rfl
theorem sLc_of {vs : List Nat} {fi : Env → R Env (List Sl × Env)} {g : TgF} {fc : Env → R Unit Bool} {fe : Env → R Env (AV × Env)} {ρ ρ1 ρ2 : Env} {ss : List Sl} {ts : List T} (h : fi ρ = .ok (ss, ρ1)) (e : lcGoE g fc fe vs ss (wipeE ρ1 vs) = .ok (ts, ρ2)) : sLc vs fi g fc fe ρ = .ok (.val (.lst ts), ρ2) := by
  unfold sLc
  rw [h, R.bind_ok]
  dsimp only
  rw [e]
theorem s1c_of {g : T → Option T} {f : Env → R Env (AV × Env)} {ρ ρ1 : Env} {t q : T} (h1 : f ρ = .ok (.val t, ρ1)) (e : g t = some q) : s1c g f ρ = .ok (.val q, ρ1) := by
  rw [s1c_ap, h1, R.bind_ok]
  dsimp only
  rw [ownOf_val, ownOf_nil]
  show (match g t with
    | some q => R.ok (AV.val q, ρ1)
    | none => .bad) = _
  rw [e]
theorem sMethN_run {Ty : String} {i : Nat} {mu : T → List T → Option (T × T)} {fas : Env → R Env (List AV × Env)} {ρ ρ1 : Env} {t0 t t2 q : T} {as : List AV} {ts : List T} (h0 : ρ[i]? = some (.ow t0)) (hty : isTy Ty t0 = true) (h1 : fas ρ = .ok (as, ρ1)) (h2 : ρ1[i]? = some (.ow t)) (h3 : valsOf as = some ts) (h4 : mu t ts = some (t2, q)) :
    sMethN Ty i mu fas ρ = .ok (.val q, ρ1.set i (.ow t2)) := by
  unfold sMethN
  rw [h0]
  dsimp only
  rw [if_pos hty, h1, R.bind_ok]
  dsimp only
  rw [h2, h3]
  dsimp only
  rw [h4]
theorem sMeth_run {Ty : String} {i : Nat} {mu : T → List T → Option (T × T)} {fp : Env → R Unit (List P)} {fas : Env → R Unit (List T)} {ρ : Env} {t node node' q t2 : T} {ks : List P} {ts : List T} (h1 : fp ρ = .ok ks) (h0 : ρ[i]? = some (.ow t)) (h2 : lookPath ks t = some node) (hty : isTy Ty node = true) (h3 : fas ρ = .ok ts) (h4 : mu node ts = some (node', q)) (h5 : updPath ks (fun _ => some node') t = some t2) :
    sMeth Ty i mu fp fas ρ = .ok (.val q, ρ.set i (.ow t2)) := by
  unfold sMeth
  rw [h1, h0]
  dsimp only
  rw [h2]
  dsimp only
  rw [if_pos hty, h3]
  dsimp only
  rw [h4]
  dsimp only
  rw [h5]
@[simp] theorem isTy_l (ts : List T) : isTy "list" (.lst ts) = true := nr rfl
@[simp] theorem valsOf_nil : valsOf [] = some [] := nr rfl
@[simp] theorem valsOf_val (t : T) (as : List AV) : valsOf (.val t :: as) = (valsOf as).map fun ts => t :: ts := nr rfl
@[simp] theorem takeA_nil (ρ : Env) : takeA [] [] ρ = some ([], ρ) := nr rfl
@[simp] theorem takeA_f (io : List Bool) (a : AV) (as : List AV) (ρ : Env) : takeA (false :: io) (a :: as) ρ = (takeA io as ρ).bind fun (args, ρ') => (a.see ρ').map fun t => (argSl t :: args, ρ') := nr rfl
@[simp] theorem argSl_pv (p : P) : argSl (.pv p) = .ow (.pv p) := nr rfl
theorem muPopI_ok {ts : List T} {k : Nat} {t : T} (h : ts[k]? = some t) (hl : ts.length ≤ 16777216) : muPopI (.lst ts) [.pv (.int (k : Int))] = some (.lst (ts.eraseIdx k), t) := by
  have hk := (List.getElem?_eq_some_iff.mp h).1
  have hc : -(2 ^ 62) ≤ (k : Int) ∧ (k : Int) < 2 ^ 62 := ⟨by omega, by omega⟩
  unfold muPopI
  dsimp only
  rw [if_pos hc, ixN_nat hk]
  show (ts[k]?).map _ = _
  rw [h]; rfl
theorem muAppend_ok {ts : List T} {u : T} (hl : ts.length < 16777216) : muAppend (.lst ts) [u] = some (.lst (ts ++ [u]), .pv .non) := by
  simp only [muAppend, if_pos hl]
end
end TR
namespace TR
open PySem PySem.Spec PyProof.Rows L2
theorem map_erase {α β : Type} (f : α → β) : ∀ (l : List α) (d : Nat), (l.map f).eraseIdx d = (l.eraseIdx d).map f
  | [], _ => by simp
  | x :: l, 0 => by simp
  | x :: l, d + 1 => by simp [map_erase f l d]
theorem erase_perm {α : Type} : ∀ (l : List α) (d : Nat) (h : d < l.length), (l[d] :: l.eraseIdx d).Perm l
  | x :: l, 0, _ => by simp
  | x :: l, d + 1, h => by
    have ih := erase_perm l d (by simpa using h)
    simp only [List.getElem_cons_succ, List.eraseIdx_cons_succ]
    exact (List.Perm.swap x _ _).trans (ih.cons x)
def dF (nm : List Str) (g : Str → T) : T := .dct false (nm.map .str) (nm.map g)
def upF (g : Str → T) (x : Str) (t : T) : Str → T := fun y => if y = x then t else g y
theorem idx_str : ∀ (nm : List Str) (x : Str), x ∈ nm → ∃ j, idxP (nm.map .str) (.str x) = some j ∧ nm[j]? = some x
  | [], _, h => by cases h
  | y :: nm, x, h => by
    show ∃ j, (if P.str y = P.str x then some 0 else (idxP (nm.map .str) (.str x)).map (· + 1)) = some j ∧ (y :: nm)[j]? = some x
    by_cases e : y = x
    · subst e; exact ⟨0, by simp, rfl⟩
    · obtain ⟨j, e1, e2⟩ := idx_str nm x ((List.mem_cons.mp h).resolve_left fun z => e z.symm)
      refine ⟨j + 1, ?_, by simpa using e2⟩
      rw [if_neg (fun z => e (by injection z)), e1]; rfl
theorem dF_look {nm : List Str} {g : Str → T} {x : Str} (h : x ∈ nm) : lookT (nm.map .str) (nm.map g) (.str x) = some (g x) := by
  obtain ⟨j, e1, e2⟩ := idx_str nm x h
  unfold lookT
  rw [e1, Option.bind_some, List.getElem?_map, e2]; rfl
theorem gIx_dF {nm : List Str} {g : Str → T} {x : Str} (h : x ∈ nm) : gIx (dF nm g) (.pv (.str x)) = some (g x) := by
  show (if isKey false (.str x) = true then lookT (nm.map .str) (nm.map g) (.str x) else none) = _
  rw [if_pos (show isKey false (P.str x) = true from rfl), dF_look h]
theorem gIxP_dF {nm : List Str} {g : Str → T} {x : Str} {p : P} (h : x ∈ nm) (e : g x = .pv p) : gIxP (dF nm g) (.pv (.str x)) = some (.pv p) := by
  unfold gIxP
  rw [gIx_dF h, e]; rfl
theorem set_fun {nm : List Str} {g : Str → T} {x : Str} {t : T} : ∀ {j : Nat}, nm.Nodup → nm[j]? = some x → (nm.map g).set j t = nm.map (upF g x t) := by
  induction nm with
  | nil => intro j _ h; simp at h
  | cons y nm ih =>
    intro j nd h
    have nd' := List.nodup_cons.mp nd
    cases j with
    | zero =>
      have e : y = x := by simpa using h
      subst e
      rw [List.map_cons, List.set_cons_zero, List.map_cons]
      have e1 : upF g y t y = t := by unfold upF; rw [if_pos rfl]
      rw [e1]
      congr 1
      apply List.map_congr_left
      intro z hz
      unfold upF
      rw [if_neg (fun e : z = y => nd'.1 (e ▸ hz))]
    | succ j =>
      have h' : nm[j]? = some x := by simpa using h
      rw [List.map_cons, List.set_cons_succ, ih nd'.2 h', List.map_cons]
      congr 1
      unfold upF
      rw [if_neg (fun e : y = x => nd'.1 (e ▸ List.mem_of_getElem? h'))]
theorem setKid_dF {nm : List Str} {g : Str → T} {x : Str} {t : T} (nd : nm.Nodup) (hl : nm.length < 16777216) (h : x ∈ nm) : setKid (dF nm g) (.str x) t = some (dF nm (upF g x t)) := by
  obtain ⟨j, e1, e2⟩ := idx_str nm x h
  show (if isKey false (.str x) = true ∧ (nm.map P.str).length < 16777216 then (match idxP (nm.map .str) (.str x) with
      | some j => some (T.dct false (nm.map .str) ((nm.map g).set j t))
      | none => some (.dct false (nm.map .str ++ [.str x]) (nm.map g ++ [t]))) else none) = _
  rw [if_pos ⟨rfl, by simpa using hl⟩, e1]
  dsimp only
  rw [set_fun nd e2]; rfl
theorem setKid_dF_new {nm : List Str} {g : Str → T} {x : Str} {t : T} (hl : nm.length < 16777216) (h : x ∉ nm) (hg : g x = t) : setKid (dF nm g) (.str x) t = some (dF (nm ++ [x]) g) := by
  have e1 : idxP (nm.map .str) (.str x) = none := idxP_none.mpr fun hm => by
    obtain ⟨y, hy, e⟩ := List.mem_map.mp hm
    exact h ((show y = x by injection e) ▸ hy)
  show (if isKey false (.str x) = true ∧ (nm.map P.str).length < 16777216 then (match idxP (nm.map .str) (.str x) with
      | some j => some (T.dct false (nm.map .str) ((nm.map g).set j t))
      | none => some (.dct false (nm.map .str ++ [.str x]) (nm.map g ++ [t]))) else none) = _
  rw [if_pos ⟨rfl, by simpa using hl⟩, e1]
  dsimp only
  unfold dF
  rw [List.map_append, List.map_append, ← hg]; rfl
theorem kidT_dF {nm : List Str} {g : Str → T} {x : Str} (hl : nm.length < 16777216) (h : x ∈ nm) : kidT (dF nm g) (.str x) = some (g x) := by
  show (if isKey false (.str x) = true ∧ (nm.map P.str).length < 16777216 then lookT (nm.map .str) (nm.map g) (.str x) else none) = _
  rw [if_pos ⟨rfl, by simpa using hl⟩, dF_look h]
theorem nodup_strs {nm : List Str} (nd : nm.Nodup) : nodupB (nm.map .str) = true := nodupB_iff.mpr (by
  induction nm with
  | nil => exact List.nodup_nil
  | cons x nm ih =>
    have h := List.nodup_cons.mp nd
    rw [List.map_cons]
    refine List.nodup_cons.mpr ⟨fun hm => ?_, ih h.2⟩
    obtain ⟨y, hy, e⟩ := List.mem_map.mp hm
    exact h.1 ((show y = x by injection e) ▸ hy))
theorem gDict_names {nm : List Str} (g : Str → T) (nd : nm.Nodup) : gDictO (.lst (nm.map fun x => mkT [.pv (.str x), g x])) = some (dF nm g) := by
  have e : ∀ l : List Str, pairsT (l.map fun x => mkT [.pv (.str x), g x]) = some (l.map .str, l.map g) := by
    intro l
    induction l with
    | nil => rfl
    | cons x l ih =>
      have e1 : pairT (mkT [.pv (.str x), g x]) = some (.str x, g x) := by
        cases g x <;> rfl
      rw [List.map_cons]
      unfold pairsT
      rw [e1, ih]; rfl
  show ((pairsT (nm.map fun x => mkT [.pv (.str x), g x])).bind fun r => if nodupB r.1 = true then some (T.dct false r.1 r.2) else none) = _
  rw [e nm, Option.bind_some, if_pos (nodup_strs nd)]; rfl
theorem depthAll_le {ds : List PyData} {n : Nat} (h : ∀ d ∈ ds, d.depth ≤ n) : PyData.depthAll ds ≤ n := by
  induction ds with
  | nil => exact Nat.zero_le _
  | cons d ds ih =>
    show max d.depth (PyData.depthAll ds) ≤ n
    exact Nat.max_le.mpr ⟨h d List.mem_cons_self, ih fun e he => h e (List.mem_cons_of_mem _ he)⟩
theorem depth_tup {ps : List P} {n : Nat} (h : ∀ p ∈ ps, p.toD.depth ≤ n) : (P.tup ps).toD.depth ≤ n + 1 := by
  show PyData.depthAll (P.toDs ps) + 1 ≤ n + 1
  rw [P.toDs_map]
  exact Nat.succ_le_succ (depthAll_le fun d hd => by
    obtain ⟨p, hp, e⟩ := List.mem_map.mp hd
    rw [← e]; exact h p hp)
theorem okD_P {p : P} (h : p.toD.depth ≤ 50) : okD p.toD = true := by
  unfold okD
  rw [P.toD_plain, decide_eq_true h]; rfl
mutual
theorem eqv_refl : ∀ p : P, PyData.eqv p.toD p.toD = true
  | .non => rfl
  | .bl b => by show (b == b) = true; simp
  | .int b => by show (b == b) = true; simp
  | .str b => by show (b == b) = true; simp
  | .tup ps => eqvs_refl ps
theorem eqvs_refl : ∀ ps : List P, PyData.eqvAll (P.toDs ps) (P.toDs ps) = true
  | [] => rfl
  | p :: ps => by show (PyData.eqv p.toD p.toD && PyData.eqvAll (P.toDs ps) (P.toDs ps)) = true; rw [eqv_refl p, eqvs_refl ps]; rfl
end
theorem gNe_same {p : P} (h : p.toD.depth ≤ 50) : gNe (.pv p) (.pv p) = some (.pv (.bl false)) := by
  show (if (okD p.toD && okD p.toD) = true then some (T.pv (.bl (!PyData.eqv p.toD p.toD))) else none) = _
  rw [okD_P h, eqv_refl p]; rfl
theorem toDs_pv (ps : List P) : T.toDs (ps.map .pv) = P.toDs ps := by
  induction ps with
  | nil => rfl
  | cons p ps ih => show p.toD :: T.toDs (ps.map .pv) = p.toD :: P.toDs ps; rw [ih]
theorem gNe_nil {ps : List P} (h : ∀ p ∈ ps, p.toD.depth ≤ 49) : gNe (.lst (ps.map .pv)) (.lst []) = some (.pv (.bl (!ps.isEmpty))) := by
  have e : okD (T.lst (ps.map .pv)).toD = true := by
    unfold okD
    show (PyData.plainAll (T.toDs (ps.map .pv)) && decide (PyData.depthAll (T.toDs (ps.map .pv)) + 1 ≤ 50)) = true
    rw [toDs_pv, P.toDs_plain, P.toDs_map, decide_eq_true (Nat.succ_le_succ (depthAll_le fun d hd => by
      obtain ⟨p, hp, e⟩ := List.mem_map.mp hd
      rw [← e]; exact h p hp))]; rfl
  unfold gNe
  rw [e]
  show (if (true && true) = true then some (T.pv (.bl (!PyData.eqvAll (T.toDs (ps.map .pv)) []))) else none) = _
  cases ps <;> rfl
theorem gNe_empty : gNe (.lst []) (.lst []) = some (.pv (.bl false)) := rfl
theorem perm_map {α β : Type} {f : α → β} (g : β → α) (hg : ∀ a, g (f a) = a) {l : List β} {xs : List α} (h : l.Perm (xs.map f)) : ∃ ys : List α, l = ys.map f ∧ ys.Perm xs := by
  refine ⟨l.map g, ?_, ?_⟩
  · rw [List.map_map]
    conv => lhs; rw [← List.map_id l]
    apply List.map_congr_left
    intro b hb
    obtain ⟨a, _, e⟩ := List.mem_map.mp (h.mem_iff.mp hb)
    show b = f (g b)
    rw [← e, hg]
  · have := h.map g
    rw [List.map_map] at this
    have e : xs.map (g ∘ f) = xs := by
      conv => rhs; rw [← List.map_id xs]
      exact List.map_congr_left fun a _ => hg a
    rw [e] at this
    exact this
theorem sortP_perm (ps : List P) : (sortP ps).Perm ps := List.mergeSort_perm ps _
theorem gSorted_of {ps : List P} (h : sortB (ps.map P.toD) = true) : gSorted [.lst (ps.map .pv)] = some (.lst ((sortP ps).map .pv)) := by
  show ((pvs (ps.map .pv)).bind fun ps => if sortB (ps.map P.toD) = true then some (T.lst ((sortP ps).map .pv)) else none) = _
  rw [pvs_map, Option.bind_some, if_pos h]
theorem sortB_of {ps : List P} (h1 : ∀ p ∈ ps, ∀ q ∈ ps, PySem.W.alike p.toD q.toD = true) (h2 : (∀ p ∈ ps, tupNE p.toD = true) ∨ ∀ p ∈ ps, plainNT p.toD = true) (h3 : ∀ p ∈ ps, p.toD.depth ≤ 50) : sortB (ps.map P.toD) = true := by
  unfold sortB alikeB
  rw [Bool.and_eq_true, Bool.and_eq_true, Bool.or_eq_true]
  refine ⟨⟨List.all_eq_true.mpr fun d hd => List.all_eq_true.mpr fun e he => ?_, h2.imp (fun h => List.all_eq_true.mpr fun d hd => ?_) fun h => List.all_eq_true.mpr fun d hd => ?_⟩, List.all_eq_true.mpr fun d hd => decide_eq_true ?_⟩
  · obtain ⟨p, hp, e1⟩ := List.mem_map.mp hd
    obtain ⟨q, hq, e2⟩ := List.mem_map.mp he
    rw [← e1, ← e2]; exact h1 p hp q hq
  · obtain ⟨p, hp, e1⟩ := List.mem_map.mp hd
    rw [← e1]; exact h p hp
  · obtain ⟨p, hp, e1⟩ := List.mem_map.mp hd
    rw [← e1]; exact h p hp
  · obtain ⟨p, hp, e1⟩ := List.mem_map.mp hd
    rw [← e1]; exact h3 p hp
def unStr : P → Str
  | .str x => x
  | _ => "x"
def unInt : P → Int
  | .int x => x
  | _ => 0
theorem sorted_strs (xs : List Str) : ∃ ys : List Str, gSorted [.lst (xs.map fun x => T.pv (.str x))] = some (.lst (ys.map fun x => .pv (.str x))) ∧ ys.Perm xs := by
  have h : sortB ((xs.map P.str).map P.toD) = true := sortB_of (by
    intro p hp q hq
    obtain ⟨x, _, rfl⟩ := List.mem_map.mp hp
    obtain ⟨y, _, rfl⟩ := List.mem_map.mp hq
    rfl) (.inr fun p hp => by obtain ⟨x, _, rfl⟩ := List.mem_map.mp hp; rfl) fun p hp => by obtain ⟨x, _, rfl⟩ := List.mem_map.mp hp; exact Nat.zero_le _
  obtain ⟨ys, e1, e2⟩ := perm_map unStr (fun _ => rfl) (sortP_perm (xs.map P.str))
  refine ⟨ys, ?_, e2⟩
  have := gSorted_of h
  rw [e1, List.map_map, List.map_map] at this
  exact this
def enSS (x : Str × Str) : P := .tup [.str x.1, .str x.2]
def unSS : P → Str × Str
  | .tup [a, b] => (unStr a, unStr b)
  | _ => ("x", "x")
theorem sorted_pairs (xs : List (Str × Str)) : ∃ ys : List (Str × Str), gSorted [.lst (xs.map fun x => T.pv (enSS x))] = some (.lst (ys.map fun x => .pv (enSS x))) ∧ ys.Perm xs := by
  have h : sortB ((xs.map enSS).map P.toD) = true := sortB_of (by
    intro p hp q hq
    obtain ⟨x, _, rfl⟩ := List.mem_map.mp hp
    obtain ⟨y, _, rfl⟩ := List.mem_map.mp hq
    simp [enSS, P.toD, P.toDs, PySem.W.alike, PySem.W.alikeAll]) (.inl fun p hp => by obtain ⟨x, _, rfl⟩ := List.mem_map.mp hp; rfl) fun p hp => by
      obtain ⟨x, _, rfl⟩ := List.mem_map.mp hp
      exact Nat.le_trans (depth_tup (n := 0) (by intro p hp; simp at hp; rcases hp with rfl | rfl <;> exact Nat.zero_le _)) (by decide)
  obtain ⟨ys, e1, e2⟩ := perm_map unSS (fun _ => rfl) (sortP_perm (xs.map enSS))
  refine ⟨ys, ?_, e2⟩
  have := gSorted_of h
  rw [e1, List.map_map, List.map_map] at this
  exact this
theorem sorted_ints (xs : List Int) : ∃ ys : List Int, gSorted [.lst (xs.map fun x => T.pv (.int x))] = some (.lst (ys.map fun x => .pv (.int x))) ∧ ys.Perm xs ∧ ys.Pairwise (· ≤ ·) := by
  have h : sortB ((xs.map P.int).map P.toD) = true := sortB_of (by
    intro p hp q hq
    obtain ⟨x, _, rfl⟩ := List.mem_map.mp hp
    obtain ⟨y, _, rfl⟩ := List.mem_map.mp hq
    rfl) (.inr fun p hp => by obtain ⟨x, _, rfl⟩ := List.mem_map.mp hp; rfl) fun p hp => by obtain ⟨x, _, rfl⟩ := List.mem_map.mp hp; exact Nat.zero_le _
  obtain ⟨ys, e1, e2⟩ := perm_map unInt (fun _ => rfl) (sortP_perm (xs.map P.int))
  refine ⟨ys, ?_, e2, ?_⟩
  · have := gSorted_of h
    rw [e1, List.map_map, List.map_map] at this
    exact this
  · have hle : ∀ i j : Int, PySem.W.dataLe false P.toD (.int i) (.int j) = decide (i ≤ j) := fun i j => by
      show (!PySem.W.dataLt (.int j) (.int i)) = _
      rw [PySem.W.dataLt_int, PySem.W.not_lt_int]
    have tot : ∀ a b : Int, (decide (a ≤ b) || decide (b ≤ a)) = true := fun a b => by simp; omega
    have e3 : ys = xs.mergeSort (fun a b => decide (a ≤ b)) := by
      have hm : sortP (xs.map P.int) = (xs.mergeSort (fun a b => decide (a ≤ b))).map P.int := by
        unfold sortP
        rw [List.map_mergeSort]
        intro a _ b _
        exact (hle a b).symm
      rw [hm] at e1
      have := congrArg (List.map unInt) e1
      rw [List.map_map, List.map_map] at this
      have ei : ∀ l : List Int, l.map (unInt ∘ P.int) = l := fun l => by
        conv => rhs; rw [← List.map_id l]
        exact List.map_congr_left fun _ _ => rfl
      rw [ei, ei] at this
      exact this.symm
    rw [e3]
    exact (List.pairwise_mergeSort (le := fun a b : Int => decide (a ≤ b)) (fun a b c h1 h2 => by simp at *; omega) tot xs).imp fun h => by simpa using h
end TR
namespace TR
open PySem PySem.Spec PyProof.Rows L2
def join (lab : Str → Str) (a b : Str) : Str → Str := fun y => if lab y = lab b then lab a else lab y
def runE (lab : Str → Str) (E : List (Str × Str)) : Str → Str := E.foldl (fun l e => join l e.1 e.2) lab
theorem runE_snoc (lab : Str → Str) (E : List (Str × Str)) (e : Str × Str) : runE lab (E ++ [e]) = join (runE lab E) e.1 e.2 := by unfold runE; rw [List.foldl_append]; rfl
theorem join_mono {lab : Str → Str} {a b x y : Str} (h : lab x = lab y) : join lab a b x = join lab a b y := by unfold join; rw [h]
theorem join_ab (lab : Str → Str) (a b : Str) : join lab a b a = join lab a b b := by
  unfold join
  rw [if_pos (rfl : lab b = lab b)]
  split <;> rfl
theorem join_same {lab : Str → Str} {a b : Str} (h : lab a = lab b) : join lab a b = lab := by
  funext y
  unfold join
  split
  · rename_i e; rw [h, e]
  · rfl
theorem run_mono {x y : Str} : ∀ {E : List (Str × Str)} {lab : Str → Str}, lab x = lab y → runE lab E x = runE lab E y
  | [], _, h => h
  | e :: E, lab, h => run_mono (E := E) (lab := join lab e.1 e.2) (join_mono h)
theorem run_edge : ∀ {E : List (Str × Str)} {lab : Str → Str} {e : Str × Str}, e ∈ E → runE lab E e.1 = runE lab E e.2
  | e' :: E, lab, e, h => by
    rcases List.mem_cons.mp h with h | h
    · subst h
      exact run_mono (E := E) (lab := join lab e.1 e.2) (join_ab lab e.1 e.2)
    · exact run_edge (E := E) (lab := join lab e'.1 e'.2) h
theorem run_le {g : Str → Str} : ∀ {E : List (Str × Str)} {lab : Str → Str}, (∀ e ∈ E, g e.1 = g e.2) → (∀ x y, lab x = lab y → g x = g y) → ∀ x y, runE lab E x = runE lab E y → g x = g y
  | [], _, _, h, x, y, e => h x y e
  | e' :: E, lab, hg, h, x, y, e => by
    have he : g e'.1 = g e'.2 := hg e' List.mem_cons_self
    refine run_le (E := E) (lab := join lab e'.1 e'.2) (fun z hz => hg z (List.mem_cons_of_mem _ hz)) (fun u v q => ?_) x y e
    unfold join at q
    by_cases h1 : lab u = lab e'.2 <;> by_cases h2 : lab v = lab e'.2
    · rw [h u _ h1, h v _ h2]
    · rw [if_pos h1, if_neg h2] at q
      rw [h u _ h1, ← he, h _ v q]
    · rw [if_neg h1, if_pos h2] at q
      rw [h v _ h2, ← he, h u _ q]
    · rw [if_neg h1, if_neg h2] at q
      exact h u v q
def Idem (nm : List Str) (lab : Str → Str) : Prop := ∀ x ∈ nm, lab x ∈ nm ∧ lab (lab x) = lab x
def cnt (nm : List Str) (lab : Str → Str) : Nat := (nm.filter fun x => decide (lab x = x)).length
theorem idem_id (nm : List Str) : Idem nm (fun x => x) := fun x h => ⟨h, rfl⟩
theorem cnt_id (nm : List Str) : cnt nm (fun x => x) = nm.length := by unfold cnt; simp
theorem join_idem {nm : List Str} {lab : Str → Str} {a b : Str} (h : Idem nm lab) (ha : a ∈ nm) (hb : b ∈ nm) : Idem nm (join lab a b) := by
  intro x hx
  unfold join
  by_cases h1 : lab x = lab b
  · rw [if_pos h1]
    refine ⟨(h a ha).1, ?_⟩
    rw [(h a ha).2]
    split <;> rfl
  · rw [if_neg h1]
    refine ⟨(h x hx).1, ?_⟩
    rw [(h x hx).2, if_neg h1]
theorem filter_out {p : Str → Bool} {o : Str} : ∀ {nm : List Str}, nm.Nodup → o ∈ nm → p o = true → (nm.filter fun y => p y && !decide (y = o)).length + 1 = (nm.filter p).length
  | [], _, h, _ => by cases h
  | x :: nm, nd, h, hp => by
    have nd' := List.nodup_cons.mp nd
    by_cases e : x = o
    · subst e
      rw [List.filter_cons_of_neg (by simp), List.filter_cons_of_pos hp, List.length_cons]
      congr 2
      apply List.filter_congr
      intro y hy
      have : y ≠ x := fun z => nd'.1 (z ▸ hy)
      simp [this]
    · have ih := filter_out (nm := nm) nd'.2 ((List.mem_cons.mp h).resolve_left fun z => e z.symm) hp
      cases hx : p x with
      | true => rw [List.filter_cons_of_pos (by simp [hx, e]), List.filter_cons_of_pos hx, List.length_cons, List.length_cons, ih]
      | false => rw [List.filter_cons_of_neg (by simp [hx]), List.filter_cons_of_neg (by simp [hx]), ih]
theorem cnt_join {nm : List Str} {lab : Str → Str} {a b : Str} (nd : nm.Nodup) (h : Idem nm lab) (ha : a ∈ nm) (hb : b ∈ nm) (n : lab a ≠ lab b) : cnt nm (join lab a b) + 1 = cnt nm lab := by
  unfold cnt
  rw [← filter_out (p := fun x => decide (lab x = x)) (o := lab b) nd (h b hb).1 (by simp [(h b hb).2])]
  congr 2
  apply List.filter_congr
  intro y hy
  rw [Bool.eq_iff_iff]
  simp only [decide_eq_true_eq, Bool.and_eq_true, Bool.not_eq_true', decide_eq_false_iff_not]
  unfold join
  constructor
  · intro q
    by_cases h1 : lab y = lab b
    · rw [if_pos h1] at q
      rw [← q, (h a ha).2] at h1
      exact absurd h1 n
    · rw [if_neg h1] at q
      exact ⟨q, fun z => h1 (by rw [z, (h b hb).2])⟩
  · rintro ⟨q1, q2⟩
    rw [if_neg (fun z => q2 (by rw [← q1, z]))]
    exact q1
theorem cnt_join_le {nm : List Str} {lab : Str → Str} {a b : Str} (nd : nm.Nodup) (h : Idem nm lab) (ha : a ∈ nm) (hb : b ∈ nm) : cnt nm lab ≤ cnt nm (join lab a b) + 1 := by
  by_cases n : lab a = lab b
  · rw [join_same n]; omega
  · rw [cnt_join nd h ha hb n]; exact Nat.le_refl _
theorem run_idem {nm : List Str} : ∀ {E : List (Str × Str)} {lab : Str → Str}, Idem nm lab → (∀ e ∈ E, e.1 ∈ nm ∧ e.2 ∈ nm) → Idem nm (runE lab E)
  | [], _, h, _ => h
  | e :: E, lab, h, hE => run_idem (E := E) (join_idem h (hE e List.mem_cons_self).1 (hE e List.mem_cons_self).2) fun z hz => hE z (List.mem_cons_of_mem _ hz)
theorem run_cnt {nm : List Str} (nd : nm.Nodup) : ∀ {E : List (Str × Str)} {lab : Str → Str}, Idem nm lab → (∀ e ∈ E, e.1 ∈ nm ∧ e.2 ∈ nm) → cnt nm lab ≤ cnt nm (runE lab E) + E.length
  | [], _, _, _ => Nat.le_refl _
  | e :: E, lab, h, hE => by
    have h1 := cnt_join_le nd h (hE e List.mem_cons_self).1 (hE e List.mem_cons_self).2
    have h2 := run_cnt nd (E := E) (join_idem h (hE e List.mem_cons_self).1 (hE e List.mem_cons_self).2) fun z hz => hE z (List.mem_cons_of_mem _ hz)
    show cnt nm lab ≤ cnt nm (runE (join lab e.1 e.2) E) + (E.length + 1)
    omega
theorem cnt_one {nm : List Str} {lab : Str → Str} (nd : nm.Nodup) (h : Idem nm lab) (hne : nm ≠ []) (hc : ∀ x ∈ nm, ∀ y ∈ nm, lab x = lab y) : cnt nm lab = 1 := by
  obtain ⟨x0, r, rfl⟩ : ∃ x r, nm = x :: r := by
    cases nm with
    | nil => exact absurd rfl hne
    | cons x r => exact ⟨x, r, rfl⟩
  have hm := h x0 List.mem_cons_self
  have e := filter_out (p := fun x => decide (lab x = x)) (o := lab x0) nd hm.1 (by simp [hm.2])
  have z : ((x0 :: r).filter fun y => decide (lab y = y) && !decide (y = lab x0)) = [] := List.filter_eq_nil_iff.mpr fun y hy q => by
    simp only [Bool.and_eq_true, decide_eq_true_eq, Bool.not_eq_true', decide_eq_false_iff_not] at q
    exact q.2 (by rw [← q.1]; exact hc y hy x0 List.mem_cons_self)
  unfold cnt
  rw [← e, z]; rfl
theorem no_ring {nm : List Str} (nd : nm.Nodup) (hne : nm ≠ []) {E : List (Str × Str)} (hE : ∀ e ∈ E, e.1 ∈ nm ∧ e.2 ∈ nm) (hl : E.length + 1 = nm.length) (hc : ∀ x ∈ nm, ∀ y ∈ nm, runE (fun x => x) E x = runE (fun x => x) E y)
    {E1 E2 : List (Str × Str)} {e : Str × Str} (he : E = E1 ++ e :: E2) : runE (fun x => x) E1 e.1 ≠ runE (fun x => x) E1 e.2 := fun q => by
  subst he
  have h1 := cnt_one nd (run_idem (idem_id nm) hE) hne hc
  have m1 : ∀ z ∈ E1, z.1 ∈ nm ∧ z.2 ∈ nm := fun z hz => hE z (List.mem_append_left _ hz)
  have m2 : ∀ z ∈ E2, z.1 ∈ nm ∧ z.2 ∈ nm := fun z hz => hE z (List.mem_append_right _ (List.mem_cons_of_mem _ hz))
  have c1 := run_cnt nd (idem_id nm) m1
  have i1 := run_idem (idem_id nm) m1
  have c2 := run_cnt nd i1 m2
  have er : runE (fun x => x) (E1 ++ e :: E2) = runE (runE (fun x => x) E1) E2 := by
    show List.foldl _ _ _ = _
    rw [List.foldl_append]
    show runE (join (runE (fun x => x) E1) e.1 e.2) E2 = _
    rw [join_same q]
  rw [er] at h1
  rw [cnt_id] at c1
  rw [List.length_append, List.length_cons] at hl
  omega
abbrev slS (x : Str) : Sl := .ow (.pv (.str x))
abbrev tS (x : Str) : T := .pv (.str x)
theorem dF_congr {nm : List Str} {g g' : Str → T} (h : ∀ x ∈ nm, g x = g' x) : dF nm g = dF nm g' := by unfold dF; rw [List.map_congr_left h]
theorem gt_set {ρ : Env} {i j : Nat} {s : Sl} (h : i ≠ j) : (ρ.set i s)[j]? = ρ[j]? := List.getElem?_set_ne h
theorem set4 {l : Env} {n d : Nat} (h : n ≠ d) (a b c e : Sl) : (((l.set n a).set d b).set n c).set d e = (l.set n c).set d e := by
  have q : ((l.set n a).set d b).set n c = ((l.set n a).set n c).set d b := List.set_comm _ _ (Ne.symm h)
  rw [q, List.set_set, List.set_set]
theorem set3 {l : Env} {n d : Nat} (h : n ≠ d) (a b c : Sl) : ((l.set n a).set d b).set n c = (l.set n c).set d b := by
  have q : ((l.set n a).set d b).set n c = ((l.set n a).set n c).set d b := List.set_comm _ _ (Ne.symm h)
  rw [q, List.set_set]
theorem relabel_run {d n o u : Nat} {nm : List Str} (nd : nm.Nodup) (hlen : nm.length < 16777216) {lab : Str → Str} {one oth : Str} {N : Env → Prop} {Q : T → Env → Prop} (h1 : n ≠ d) (h2 : n ≠ o) (h3 : n ≠ u) (h4 : d ≠ o) (h5 : d ≠ u) {ρ : Env}
    (hd : ρ[d]? = some (.ow (dF nm fun y => tS (lab y)))) (ho : ρ[o]? = some (slS oth)) (hu : ρ[u]? = some (slS one)) (hn : n < ρ.length)
    (fin : ∀ s, N ((ρ.set n s).set d (.ow (dF nm fun y => tS (if lab y = oth then one else lab y))))) :
    Rn N Q (forGo (gN n) (tIfQ (fB (f2 gEq (f2 gIx (fVar d) (fVar n)) (fVar o))) (tSetP d pNil (fVar n) (fPure (fVar u))) tNx) (nm.map slS) ρ) := by
  have hdl : d < ρ.length := (List.getElem?_eq_some_iff.mp hd).1
  refine forGo_run (fun j ρ' => j ≤ nm.length ∧ ∃ s, ρ' = (ρ.set n s).set d (.ow (dF nm fun y => tS (if y ∈ nm.take j ∧ lab y = oth then one else lab y)))) _ 0 ρ ⟨Nat.zero_le _, ?_⟩ ?_ ?_
  · obtain ⟨s0, hs0⟩ : ∃ s0, ρ[n]? = some s0 := ⟨_, List.getElem?_eq_getElem hn⟩
    refine ⟨s0, ?_⟩
    rw [set_same hs0]
    have e : (dF nm fun y => tS (if y ∈ nm.take 0 ∧ lab y = oth then one else lab y)) = dF nm fun y => tS (lab y) := dF_congr fun y _ => by simp
    rw [e, set_same hd]
  · intro j s ρ' hs ⟨hj, s', e⟩
    rw [Nat.zero_add] at hj e
    rw [Nat.zero_add]
    rw [List.getElem?_map] at hs
    cases hx : nm[j]? with
    | none => rw [hx] at hs; cases hs
    | some x =>
      rw [hx] at hs
      cases hs
      have hxm : x ∈ nm := List.mem_of_getElem? hx
      have hjl : j < nm.length := (List.getElem?_eq_some_iff.mp hx).1
      have hxn : x ∉ nm.take j := fun hm => by
        obtain ⟨i, hi, e2⟩ := List.getElem_of_mem hm
        rw [List.getElem_take] at e2
        have hi' : i < j := by rw [List.length_take] at hi; omega
        have := (List.getElem?_inj (i := i) (j := j) (by omega) nd).mp (by rw [hx, List.getElem?_eq_getElem (by omega), e2])
        omega
      subst e
      have gd : ∀ s2, (((ρ.set n s').set d (.ow (dF nm fun y => tS (if y ∈ nm.take j ∧ lab y = oth then one else lab y)))).set n s2)[d]? = some (.ow (dF nm fun y => tS (if y ∈ nm.take j ∧ lab y = oth then one else lab y))) := fun s2 => by
        rw [gt_set h1, List.getElem?_set_self (by simpa using hdl)]
      refine ⟨_, if_pos (by simpa using hn), ?_⟩
      have e1 : (((ρ.set n s').set d (.ow (dF nm fun y => tS (if y ∈ nm.take j ∧ lab y = oth then one else lab y)))).set n (slS x))[n]? = some (slS x) := List.getElem?_set_self (by simpa using hn)
      have e2 : (((ρ.set n s').set d (.ow (dF nm fun y => tS (if y ∈ nm.take j ∧ lab y = oth then one else lab y)))).set n (slS x))[o]? = some (slS oth) := by rw [gt_set h2, gt_set h4, gt_set h2]; exact ho
      have e3 : (((ρ.set n s').set d (.ow (dF nm fun y => tS (if y ∈ nm.take j ∧ lab y = oth then one else lab y)))).set n (slS x))[u]? = some (slS one) := by rw [gt_set h3, gt_set h5, gt_set h3]; exact hu
      have glab : (if x ∈ nm.take j ∧ lab x = oth then one else lab x) = lab x := by simp [hxn]
      have take1 : ∀ y, (y ∈ nm.take (j + 1)) ↔ (y ∈ nm.take j ∨ y = x) := fun y => by
        rw [List.take_add_one, hx]; simp
      refine rn_if (b := lab x == oth) ?_ (fun hb => ?_) fun hb => ?_
      · simp only [fB_ap, f2_ap, fVar_ap, gd, e1, e2, R.bind_ok, gIx_dF hxm, R.of_some, glab, gEq_ss]
      · have hb' : lab x = oth := by simpa using hb
        refine rn_setP (tv := tS one) (ks := []) (p := .str x) (t2 := dF nm (upF (fun y => tS (if y ∈ nm.take j ∧ lab y = oth then one else lab y)) x (tS one))) ?_ rfl ?_ (gd _) ?_ ⟨by omega, slS x, ?_⟩
        · simp only [fPure_ap, fVar_ap, e3, R.bind_ok]
        · simp only [fVar_ap, e1]
        · exact setKid_dF nd hlen hxm
        · have ee : (dF nm (upF (fun y => tS (if y ∈ nm.take j ∧ lab y = oth then one else lab y)) x (tS one))) = dF nm fun y => tS (if y ∈ nm.take (j + 1) ∧ lab y = oth then one else lab y) := dF_congr fun y _ => by
            unfold upF
            by_cases h : y = x
            · subst h
              rw [if_pos rfl, if_pos ⟨(take1 y).mpr (.inr rfl), hb'⟩]
            · rw [if_neg h]
              simp [take1 y, h]
          rw [ee, set4 h1]
      · have hb' : ¬ lab x = oth := by simpa using hb
        refine rn_nx ⟨by omega, slS x, ?_⟩
        have ee : (dF nm fun y => tS (if y ∈ nm.take j ∧ lab y = oth then one else lab y)) = dF nm fun y => tS (if y ∈ nm.take (j + 1) ∧ lab y = oth then one else lab y) := dF_congr fun y _ => by
          by_cases h : y = x
          · subst h; simp [hb']
          · simp [take1 y, h]
        rw [ee, set3 h1]
  · intro ρ' ⟨_, s, e⟩
    rw [Nat.zero_add, List.length_map, List.take_length] at e
    have ee : (dF nm fun y => tS (if y ∈ nm ∧ lab y = oth then one else lab y)) = dF nm fun y => tS (if lab y = oth then one else lab y) := dF_congr fun y hy => by simp [hy]
    rw [ee] at e
    rw [e]
    exact fin s
end TR
namespace TR
open PySem PySem.Spec PyProof.Rows L2 PySem.W
abbrev cI : Int → P := .int
abbrev cB : Bool → P := .bl
abbrev cS : Str → P := .str
abbrev cU : Unit → P := fun _ => .non
section
variable {α β γ δ κ ν : Type}
def cO (c : α → P) : Option α → P
  | none => .non
  | some a => c a
def cT (c : α → P) (l : List α) : P := .tup (l.map c)
def c2 (c : α → P) (d : β → P) (x : α × β) : P := .tup [c x.1, d x.2]
def c3 (c : α → P) (d : β → P) (e : γ → P) (x : α × β × γ) : P := .tup [c x.1, d x.2.1, e x.2.2]
def c4 (c : α → P) (d : β → P) (e : γ → P) (f : δ → P) (x : α × β × γ × δ) : P := .tup [c x.1, d x.2.1, e x.2.2.1, f x.2.2.2]
abbrev tv (c : α → P) (a : α) : T := .pv (c a)
def tL (c : α → T) (l : List α) : T := .lst (l.map c)
def tF (c : α → T) (l : List α) : T := .fls (l.map c)
def tD (k : κ → P) (c : ν → T) (d : List (κ × ν)) : T := .dct false (d.map fun e => k e.1) (d.map fun e => c e.2)
def tE (k : κ → P) (c : ν → T) (d : List (κ × ν)) : T := .dct true (d.map fun e => k e.1) (d.map fun e => c e.2)
def t2 (c : α → T) (d : β → T) (x : α × β) : T := .tup [c x.1, d x.2]
def t3 (c : α → T) (d : β → T) (e : γ → T) (x : α × β × γ) : T := .tup [c x.1, d x.2.1, e x.2.2]
def l2 (c : α → T) (d : β → T) (x : α × β) : T := .lst [c x.1, d x.2]
def l3 (c : α → T) (d : β → T) (e : γ → T) (x : α × β × γ) : T := .lst [c x.1, d x.2.1, e x.2.2]
def l4 (c : α → T) (d : β → T) (e : γ → T) (f : δ → T) (x : α × β × γ × δ) : T := .lst [c x.1, d x.2.1, e x.2.2.1, f x.2.2.2]
class CP (c : α → P) where
  dep : Nat
  hd : ∀ a, (c a).toD.depth ≤ dep
  inj : ∀ a b, PyData.eqv (c a).toD (c b).toD = true ↔ a = b
class NN (c : α → P) : Prop where
  nn : ∀ a, nonD (c a).toD = false
instance : CP cI := ⟨0, fun _ => Nat.le_refl _, fun a b => by show (a == b) = true ↔ _; simp⟩
instance : CP cB := ⟨0, fun _ => Nat.le_refl _, fun a b => by show (a == b) = true ↔ _; simp⟩
instance : CP cS := ⟨0, fun _ => Nat.le_refl _, fun a b => by show (a == b) = true ↔ _; simp⟩
instance : CP cU := ⟨0, fun _ => Nat.le_refl _, fun a b => by simp [P.toD, PyData.eqv]⟩
instance : NN cI := ⟨fun _ => rfl⟩
instance : NN cB := ⟨fun _ => rfl⟩
instance : NN cS := ⟨fun _ => rfl⟩
instance (c : α → P) : NN (cT c) := ⟨fun _ => rfl⟩
instance (c : α → P) (d : β → P) : NN (c2 c d) := ⟨fun _ => rfl⟩
instance (c : α → P) (d : β → P) (e : γ → P) : NN (c3 c d e) := ⟨fun _ => rfl⟩
instance (c : α → P) (d : β → P) (e : γ → P) (f : δ → P) : NN (c4 c d e f) := ⟨fun _ => rfl⟩
theorem eqv_non {d : PyData} (h : nonD d = false) : PyData.eqv .none d = false ∧ PyData.eqv d .none = false := by
  cases d <;> first | exact ⟨rfl, rfl⟩ | cases h
instance (c : α → P) [CP c] [NN c] : CP (cO c) := ⟨CP.dep c, fun a => by
    cases a with
    | none => exact Nat.zero_le _
    | some a => exact CP.hd a, fun a b => by
    cases a with
    | none =>
      cases b with
      | none => simp [cO, P.toD, PyData.eqv]
      | some b => show PyData.eqv .none (c b).toD = true ↔ _; rw [(eqv_non (NN.nn b)).1]; simp
    | some a =>
      cases b with
      | none => show PyData.eqv (c a).toD .none = true ↔ _; rw [(eqv_non (NN.nn a)).2]; simp
      | some b => show PyData.eqv (c a).toD (c b).toD = true ↔ _; rw [CP.inj a b]; simp⟩
theorem depT {c : α → P} [CP c] (l : List α) : PyData.depthAll (P.toDs (l.map c)) ≤ CP.dep c := by
  rw [P.toDs_map]
  exact depthAll_le fun d hd => by
    obtain ⟨p, hp, e⟩ := List.mem_map.mp hd
    obtain ⟨a, _, rfl⟩ := List.mem_map.mp hp
    rw [← e]; exact CP.hd a
theorem injT {c : α → P} [CP c] : ∀ l m : List α, PyData.eqvAll (P.toDs (l.map c)) (P.toDs (m.map c)) = true ↔ l = m
  | [], [] => by simp [P.toDs, PyData.eqvAll]
  | [], b :: m => by simp [P.toDs, PyData.eqvAll]
  | a :: l, [] => by simp [P.toDs, PyData.eqvAll]
  | a :: l, b :: m => by
    show (PyData.eqv (c a).toD (c b).toD && PyData.eqvAll (P.toDs (l.map c)) (P.toDs (m.map c))) = true ↔ _
    rw [Bool.and_eq_true, CP.inj, injT l m]; simp
instance (c : α → P) [CP c] : CP (cT c) := ⟨CP.dep c + 1, fun l => Nat.succ_le_succ (depT l), injT⟩
theorem dep2 {n m : Nat} {x y : PyData} (h : x.depth ≤ n) (h' : y.depth ≤ m) : PyData.depthAll [x, y] ≤ max n m := by
  show max x.depth (max y.depth 0) ≤ _
  omega
instance (c : α → P) (d : β → P) [CP c] [CP d] : CP (c2 c d) := ⟨max (CP.dep c) (CP.dep d) + 1, fun x => Nat.succ_le_succ (dep2 (CP.hd x.1) (CP.hd x.2)), fun x y => by
    show (PyData.eqv (c x.1).toD (c y.1).toD && (PyData.eqv (d x.2).toD (d y.2).toD && true)) = true ↔ _
    rw [Bool.and_eq_true, Bool.and_eq_true, CP.inj, CP.inj, Prod.ext_iff]; simp⟩
instance (c : α → P) (d : β → P) (e : γ → P) [CP c] [CP d] [CP e] : CP (c3 c d e) := ⟨max (CP.dep c) (max (CP.dep d) (CP.dep e)) + 1, fun x => by
    have h1 := CP.hd (c := c) x.1
    have h2 := CP.hd (c := d) x.2.1
    have h3 := CP.hd (c := e) x.2.2
    show max (c x.1).toD.depth (max (d x.2.1).toD.depth (max (e x.2.2).toD.depth 0)) + 1 ≤ _
    omega, fun x y => by
    show (PyData.eqv (c x.1).toD (c y.1).toD && (PyData.eqv (d x.2.1).toD (d y.2.1).toD && (PyData.eqv (e x.2.2).toD (e y.2.2).toD && true))) = true ↔ _
    rw [Bool.and_eq_true, Bool.and_eq_true, Bool.and_eq_true, CP.inj, CP.inj, CP.inj, Prod.ext_iff, Prod.ext_iff]; simp⟩
instance (c : α → P) (d : β → P) (e : γ → P) (f : δ → P) [CP c] [CP d] [CP e] [CP f] : CP (c4 c d e f) := ⟨max (CP.dep c) (max (CP.dep d) (max (CP.dep e) (CP.dep f))) + 1, fun x => by
    have h1 := CP.hd (c := c) x.1
    have h2 := CP.hd (c := d) x.2.1
    have h3 := CP.hd (c := e) x.2.2.1
    have h4 := CP.hd (c := f) x.2.2.2
    show max (c x.1).toD.depth (max (d x.2.1).toD.depth (max (e x.2.2.1).toD.depth (max (f x.2.2.2).toD.depth 0))) + 1 ≤ _
    omega, fun x y => by
    show (PyData.eqv (c x.1).toD (c y.1).toD && (PyData.eqv (d x.2.1).toD (d y.2.1).toD && (PyData.eqv (e x.2.2.1).toD (e y.2.2.1).toD && (PyData.eqv (f x.2.2.2).toD (f y.2.2.2).toD && true)))) = true ↔ _
    rw [Bool.and_eq_true, Bool.and_eq_true, Bool.and_eq_true, Bool.and_eq_true, CP.inj, CP.inj, CP.inj, CP.inj, Prod.ext_iff, Prod.ext_iff, Prod.ext_iff]; simp⟩
class CT (c : α → T) where
  dep : Nat
  pl : ∀ a, (c a).toD.plain = true
  hd : ∀ a, (c a).toD.depth ≤ dep
  inj : ∀ a b, PyData.eqv (c a).toD (c b).toD = true ↔ a = b
instance (c : α → P) [CP c] : CT (tv c) := ⟨CP.dep c, fun a => P.toD_plain _, CP.hd (c := c), CP.inj (c := c)⟩
theorem plLs {c : α → T} [CT c] (l : List α) : PyData.plainAll (T.toDs (l.map c)) = true := by
  induction l with
  | nil => rfl
  | cons a l ih => show ((c a).toD.plain && PyData.plainAll (T.toDs (l.map c))) = true; rw [CT.pl, ih]; rfl
theorem depLs {c : α → T} [CT c] (l : List α) : PyData.depthAll (T.toDs (l.map c)) ≤ CT.dep c := by
  induction l with
  | nil => exact Nat.zero_le _
  | cons a l ih => show max (c a).toD.depth (PyData.depthAll (T.toDs (l.map c))) ≤ _; exact Nat.max_le.mpr ⟨CT.hd a, ih⟩
theorem injLs {c : α → T} [CT c] : ∀ l m : List α, PyData.eqvAll (T.toDs (l.map c)) (T.toDs (m.map c)) = true ↔ l = m
  | [], [] => by simp [T.toDs, PyData.eqvAll]
  | [], b :: m => by simp [T.toDs, PyData.eqvAll]
  | a :: l, [] => by simp [T.toDs, PyData.eqvAll]
  | a :: l, b :: m => by
    show (PyData.eqv (c a).toD (c b).toD && PyData.eqvAll (T.toDs (l.map c)) (T.toDs (m.map c))) = true ↔ _
    rw [Bool.and_eq_true, CT.inj, injLs l m]; simp
instance (c : α → T) [CT c] : CT (tL c) := ⟨CT.dep c + 1, plLs, fun l => Nat.succ_le_succ (depLs l), injLs⟩
instance (c : α → T) (d : β → T) [CT c] [CT d] : CT (t2 c d) := ⟨max (CT.dep c) (CT.dep d) + 1, fun x => by
    show ((c x.1).toD.plain && ((d x.2).toD.plain && true)) = true
    rw [CT.pl, CT.pl]; rfl, fun x => Nat.succ_le_succ (dep2 (CT.hd x.1) (CT.hd x.2)), fun x y => by
    show (PyData.eqv (c x.1).toD (c y.1).toD && (PyData.eqv (d x.2).toD (d y.2).toD && true)) = true ↔ _
    rw [Bool.and_eq_true, Bool.and_eq_true, CT.inj, CT.inj, Prod.ext_iff]; simp⟩
theorem okD_c (c : α → T) [CT c] (h : CT.dep c ≤ 50) (a : α) : okD (c a).toD = true := by
  unfold okD
  rw [CT.pl, decide_eq_true (Nat.le_trans (CT.hd a) h)]; rfl
def eqB [DecidableEq α] (a b : α) : Bool := decide (a = b)
def inB [DecidableEq α] (a : α) (l : List α) : Bool := decide (a ∈ l)
@[simp] theorem eqB_d [DecidableEq α] (a b : α) : eqB a b = decide (a = b) := nr rfl
@[simp] theorem inB_d [DecidableEq α] (a : α) (l : List α) : inB a l = decide (a ∈ l) := nr rfl
theorem gEq_c {c : α → T} [CT c] [DecidableEq α] {a b : α} (h : CT.dep c ≤ 50 := by decide) : gEq (c a) (c b) = some (tv cB (eqB a b)) := by
  unfold gEq
  rw [okD_c c h, okD_c c h]
  show some (T.pv (P.bl (PyData.eqv (c a).toD (c b).toD))) = _
  rw [show PyData.eqv (c a).toD (c b).toD = decide (a = b) from by rw [Bool.eq_iff_iff, CT.inj]; simp]
  rfl
theorem gNe_c {c : α → T} [CT c] [DecidableEq α] {a b : α} (h : CT.dep c ≤ 50 := by decide) : gNe (c a) (c b) = some (tv cB (!eqB a b)) := by
  unfold gNe
  rw [okD_c c h, okD_c c h]
  show some (T.pv (P.bl (!PyData.eqv (c a).toD (c b).toD))) = _
  rw [show PyData.eqv (c a).toD (c b).toD = decide (a = b) from by rw [Bool.eq_iff_iff, CT.inj]; simp]
  rfl
theorem any_c {c : α → T} [CT c] [DecidableEq α] {a : α} (l : List α) : (T.toDs (l.map c)).any (fun y => PyData.eqv y (c a).toD) = decide (a ∈ l) := by
  induction l with
  | nil => rfl
  | cons b l ih =>
    show (PyData.eqv (c b).toD (c a).toD || (T.toDs (l.map c)).any _) = _
    rw [ih, Bool.eq_iff_iff, Bool.or_eq_true, CT.inj, decide_eq_true_eq, decide_eq_true_eq, List.mem_cons]
    exact ⟨fun h => h.imp Eq.symm id, fun h => h.imp Eq.symm id⟩
theorem okDs_c {c : α → T} [CT c] (h : CT.dep c ≤ 50) (l : List α) : okDs (T.toDs (l.map c)) = true := by
  unfold okDs
  rw [plLs, decide_eq_true (Nat.le_trans (depLs l) h)]; rfl
theorem gIn_l {c : α → T} [CT c] [DecidableEq α] {a : α} {l : List α} (h : CT.dep c ≤ 50 := by decide) : gIn (c a) (tL c l) = some (tv cB (inB a l)) := by
  show (if (okD (c a).toD && okDs (T.toDs (l.map c))) = true then some (T.pv (P.bl (false ^^ (T.toDs (l.map c)).any fun y => PyData.eqv y (c a).toD))) else none) = _
  rw [okD_c c h, okDs_c h, any_c, Bool.true_and, if_pos rfl, Bool.false_xor]
  rfl
theorem gNotIn_l {c : α → T} [CT c] [DecidableEq α] {a : α} {l : List α} (h : CT.dep c ≤ 50 := by decide) : gNotIn (c a) (tL c l) = some (tv cB (!inB a l)) := by
  show (if (okD (c a).toD && okDs (T.toDs (l.map c))) = true then some (T.pv (P.bl (true ^^ (T.toDs (l.map c)).any fun y => PyData.eqv y (c a).toD))) else none) = _
  rw [okD_c c h, okDs_c h, any_c, Bool.true_and, if_pos rfl, Bool.true_xor]
  rfl
theorem gIn_f {c : α → T} [CT c] [DecidableEq α] {a : α} {l : List α} (h : CT.dep c ≤ 50 := by decide) : gIn (c a) (tF c l) = some (tv cB (inB a l)) := by
  show (if (okD (c a).toD && okDs (T.toDs (l.map c))) = true then some (T.pv (P.bl (false ^^ (T.toDs (l.map c)).any fun y => PyData.eqv y (c a).toD))) else none) = _
  rw [okD_c c h, okDs_c h, any_c, Bool.true_and, if_pos rfl, Bool.false_xor]
  rfl
theorem itT_cT {c : α → P} {l : List α} : itT (tv (cT c) l) = some (l.map (tv c)) := by
  show some ((l.map c).map T.pv) = _
  rw [List.map_map]; rfl
theorem gIn0_t {b : Bool} {c : α → P} [CP c] [DecidableEq α] {a : α} {l : List α} (h : CP.dep c ≤ 50) : gIn0 b (tv c a) (tv (cT c) l) = some (tv cB (b ^^ decide (a ∈ l))) := by
  have e : gIn0 b (tv c a) (tv (cT c) l) = if (okD (tv c a).toD && okDs (T.toDs ((l.map c).map T.pv))) = true then some (T.pv (P.bl (b ^^ (T.toDs ((l.map c).map T.pv)).any fun y => PyData.eqv y (tv c a).toD))) else none := rfl
  have e2 : (l.map c).map T.pv = l.map (tv c) := by rw [List.map_map]; rfl
  rw [e, e2, okD_c (tv c) h, okDs_c (c := tv c) h, any_c, Bool.true_and, if_pos rfl]
theorem gIn_t {c : α → P} [CP c] [DecidableEq α] {a : α} {l : List α} (h : CP.dep c ≤ 50 := by decide) : gIn (tv c a) (tv (cT c) l) = some (tv cB (inB a l)) := by
  show gIn0 false _ _ = _
  rw [gIn0_t h, Bool.false_xor]
  rfl
theorem gNotIn_t {c : α → P} [CP c] [DecidableEq α] {a : α} {l : List α} (h : CP.dep c ≤ 50 := by decide) : gNotIn (tv c a) (tv (cT c) l) = some (tv cB (!inB a l)) := by
  show gIn0 true _ _ = _
  rw [gIn0_t h, Bool.true_xor]
  rfl
theorem gIn_2 {c : α → P} [CP c] [DecidableEq α] {a : α} {x : α × α} (h : CP.dep c ≤ 50 := by decide) : gIn (tv c a) (tv (c2 c c) x) = some (tv cB (inB a [x.1, x.2])) := gIn_t (l := [x.1, x.2]) h
theorem gNotIn_2 {c : α → P} [CP c] [DecidableEq α] {a : α} {x : α × α} (h : CP.dep c ≤ 50 := by decide) : gNotIn (tv c a) (tv (c2 c c) x) = some (tv cB (!inB a [x.1, x.2])) := gNotIn_t (l := [x.1, x.2]) h
theorem gIsN_o {c : α → P} [NN c] {x : Option α} : gIsN (tv (cO c) x) (.pv .non) = some (tv cB x.isNone) := by
  cases x with
  | none => rfl
  | some a =>
    show some (T.pv (P.bl (isNonT (.pv (c a))))) = _
    have h := NN.nn (c := c) a
    cases e : c a with
    | non => rw [e] at h; cases h
    | _ => rfl
theorem gNotN_o {c : α → P} [NN c] {x : Option α} : gNotN (tv (cO c) x) (.pv .non) = some (tv cB x.isSome) := by
  cases x with
  | none => rfl
  | some a =>
    show some (T.pv (P.bl (!isNonT (.pv (c a))))) = _
    have h := NN.nn (c := c) a
    cases e : c a with
    | non => rw [e] at h; cases h
    | _ => rfl
class PO (α : Type) where
  lt : α → α → Bool
instance : PO Int := ⟨fun a b => decide (a < b)⟩
instance : PO Str := ⟨fun a b => decide (a.cps.toList < b.cps.toList)⟩
instance [DecidableEq α] [PO α] [PO β] : PO (α × β) := ⟨fun x y => if x.1 = y.1 then PO.lt x.2 y.2 else PO.lt x.1 y.1⟩
def ltL [DecidableEq α] [PO α] : List α → List α → Bool
  | [], [] => false
  | [], _ :: _ => true
  | _ :: _, [] => false
  | a :: l, b :: m => if a = b then ltL l m else PO.lt a b
instance [DecidableEq α] [PO α] : PO (List α) := ⟨ltL⟩
class POK (α : Type) [PO α] : Prop where
  irr : ∀ a : α, PO.lt a a = false
  tr : ∀ a b c : α, PO.lt a b = true → PO.lt b c = true → PO.lt a c = true
  tot : ∀ a b : α, PO.lt a b = false → PO.lt b a = false → a = b
instance : POK Int := ⟨fun a => by simp [PO.lt], fun a b c => by simp only [PO.lt, decide_eq_true_eq]; omega, fun a b => by simp only [PO.lt, decide_eq_false_iff_not]; omega⟩
instance : POK Str := ⟨fun a => by simp [PO.lt], fun a b c => by simp only [PO.lt, decide_eq_true_eq]; exact List.lt_trans, fun a b h1 h2 => by
  simp only [PO.lt, decide_eq_false_iff_not] at h1 h2
  exact str_of_cps (List.le_antisymm (by simpa using h2) (by simpa using h1))⟩
instance [DecidableEq α] [PO α] [PO β] [POK α] [POK β] : POK (α × β) := ⟨fun a => by simp [PO.lt]; exact POK.irr a.2, fun a b c h1 h2 => by
    simp only [PO.lt] at h1 h2 ⊢
    split at h1 <;> split at h2
    · rename_i e1 e2
      rw [if_pos (e1.trans e2)]; exact POK.tr _ _ _ h1 h2
    · rename_i e1 e2
      rw [if_neg (fun z => e2 (e1.symm.trans z)), e1]; exact h2
    · rename_i e1 e2
      rw [if_neg (fun z => e1 (z.trans e2.symm)), ← e2]; exact h1
    · rename_i e1 e2
      split
      · rename_i e3
        rw [e3] at h1
        have := POK.tr _ _ _ h1 h2
        rw [POK.irr] at this; cases this
      · exact POK.tr _ _ _ h1 h2, fun a b h1 h2 => by
    simp only [PO.lt] at h1 h2
    split at h1
    · rename_i e
      rw [if_pos e.symm] at h2
      exact Prod.ext e (POK.tot _ _ h1 h2)
    · rename_i e
      rw [if_neg (fun z => e z.symm)] at h2
      exact absurd (POK.tot _ _ h1 h2) e⟩
theorem ltL_irr [DecidableEq α] [PO α] : ∀ a : List α, ltL a a = false
  | [] => rfl
  | a :: l => by simp [ltL, ltL_irr l]
theorem ltL_tr [DecidableEq α] [PO α] [POK α] : ∀ a b c : List α, ltL a b = true → ltL b c = true → ltL a c = true
  | [], [], _, h, _ => by cases h
  | [], _ :: _, [], _, h => by cases h
  | [], _ :: _, _ :: _, _, _ => rfl
  | _ :: _, [], _, h, _ => by cases h
  | _ :: _, _ :: _, [], _, h => by cases h
  | a :: l, b :: m, c :: n, h1, h2 => by
    simp only [ltL] at h1 h2 ⊢
    split at h1 <;> split at h2
    · rename_i e1 e2
      rw [if_pos (e1.trans e2)]; exact ltL_tr _ _ _ h1 h2
    · rename_i e1 e2
      rw [if_neg (fun z => e2 (e1.symm.trans z)), e1]; exact h2
    · rename_i e1 e2
      rw [if_neg (fun z => e1 (z.trans e2.symm)), ← e2]; exact h1
    · rename_i e1 e2
      split
      · rename_i e3
        rw [e3] at h1
        have := POK.tr _ _ _ h1 h2
        rw [POK.irr] at this; cases this
      · exact POK.tr _ _ _ h1 h2
theorem ltL_tot [DecidableEq α] [PO α] [POK α] : ∀ a b : List α, ltL a b = false → ltL b a = false → a = b
  | [], [], _, _ => rfl
  | [], _ :: _, h, _ => by cases h
  | _ :: _, [], _, h => by cases h
  | a :: l, b :: m, h1, h2 => by
    simp only [ltL] at h1 h2
    split at h1
    · rename_i e
      rw [if_pos e.symm] at h2
      rw [e, ltL_tot l m h1 h2]
    · rename_i e
      rw [if_neg (fun z => e z.symm)] at h2
      exact absurd (POK.tot _ _ h1 h2) e
instance [DecidableEq α] [PO α] [POK α] : POK (List α) := ⟨ltL_irr, ltL_tr, ltL_tot⟩
class CL (c : α → P) [PO α] : Prop where
  al : ∀ a b, alike (c a).toD (c b).toD = true
  lt : ∀ a b, dataLt (c a).toD (c b).toD = PO.lt a b
instance : CL cI := ⟨fun _ _ => rfl, fun a b => dataLt_int a b⟩
instance : CL cS := ⟨fun _ _ => rfl, fun a b => dataLt_str a b⟩
theorem rl_nil : PyProof.Rows.lexLt itemOrd (keyToksAll []) (keyToksAll []) = false := lex_irrefl _
theorem rl_nc (y : PyData) (ys : List PyData) : PyProof.Rows.lexLt itemOrd (keyToksAll []) (keyToksAll (y :: ys)) = true := by
  simp only [keyToksAll]
  rw [lex_diff (O := itemOrd) (by simp)]; rfl
theorem rl_cn (y : PyData) (ys : List PyData) : PyProof.Rows.lexLt itemOrd (keyToksAll (y :: ys)) (keyToksAll []) = false := by
  simp only [keyToksAll]
  rw [lex_diff (O := itemOrd) (by simp)]; rfl
theorem rl_cons {c : α → P} [DecidableEq α] [PO α] [CP c] [CL c] (a b : α) (xs ys : List PyData) : PyProof.Rows.lexLt itemOrd (keyToksAll ((c a).toD :: xs)) (keyToksAll ((c b).toD :: ys)) = if a = b then PyProof.Rows.lexLt itemOrd (keyToksAll xs) (keyToksAll ys) else PO.lt a b := by
  rw [dataLt_cons (CL.al a b), CL.lt]
  by_cases h : a = b
  · rw [if_pos h, if_pos ((CP.inj a b).mpr h)]
  · rw [if_neg h, if_neg (fun z => h ((CP.inj a b).mp z))]
instance (c : α → P) (d : β → P) [DecidableEq α] [DecidableEq β] [PO α] [PO β] [POK β] [CP c] [CP d] [CL c] [CL d] : CL (c2 c d) := ⟨fun a b => by
    show (alike (c a.1).toD (c b.1).toD && (alike (d a.2).toD (d b.2).toD && true)) = true
    rw [CL.al, CL.al]; rfl, fun a b => by
    show dataLt (.tuple [(c a.1).toD, (d a.2).toD]) (.tuple [(c b.1).toD, (d b.2).toD]) = _
    rw [dataLt_tuple, rl_cons, rl_cons, rl_nil]
    show _ = if a.1 = b.1 then PO.lt a.2 b.2 else PO.lt a.1 b.1
    congr 1
    split
    · rename_i e; rw [e, POK.irr]
    · rfl⟩
instance (c : α → P) (d : β → P) (e : γ → P) [DecidableEq α] [DecidableEq β] [DecidableEq γ] [PO α] [PO β] [PO γ] [POK γ] [CP c] [CP d] [CP e] [CL c] [CL d] [CL e] : CL (c3 c d e) := ⟨fun a b => by
    show (alike (c a.1).toD (c b.1).toD && (alike (d a.2.1).toD (d b.2.1).toD && (alike (e a.2.2).toD (e b.2.2).toD && true))) = true
    rw [CL.al, CL.al, CL.al]; rfl, fun a b => by
    show dataLt (.tuple [(c a.1).toD, (d a.2.1).toD, (e a.2.2).toD]) (.tuple [(c b.1).toD, (d b.2.1).toD, (e b.2.2).toD]) = _
    rw [dataLt_tuple, rl_cons, rl_cons, rl_cons, rl_nil]
    show _ = if a.1 = b.1 then (if a.2.1 = b.2.1 then PO.lt a.2.2 b.2.2 else PO.lt a.2.1 b.2.1) else PO.lt a.1 b.1
    congr 1
    congr 1
    split
    · rename_i e; rw [e, POK.irr]
    · rfl⟩
theorem ltL_c {c : α → P} [DecidableEq α] [PO α] [CP c] [CL c] : ∀ a b : List α, PyProof.Rows.lexLt itemOrd (keyToksAll (P.toDs (a.map c))) (keyToksAll (P.toDs (b.map c))) = ltL a b
  | [], [] => rl_nil
  | [], _ :: _ => rl_nc _ _
  | _ :: _, [] => rl_cn _ _
  | a :: l, b :: m => by
    show PyProof.Rows.lexLt itemOrd (keyToksAll ((c a).toD :: P.toDs (l.map c))) (keyToksAll ((c b).toD :: P.toDs (m.map c))) = _
    rw [rl_cons, ltL_c l m]; rfl
theorem alL {c : α → P} [PO α] [CL c] : ∀ a b : List α, alikeAll (P.toDs (a.map c)) (P.toDs (b.map c)) = true
  | [], [] => rfl
  | [], _ :: _ => rfl
  | _ :: _, [] => rfl
  | a :: l, b :: m => by
    show (alike (c a).toD (c b).toD && alikeAll (P.toDs (l.map c)) (P.toDs (m.map c))) = true
    rw [CL.al, alL l m]; rfl
instance (c : α → P) [DecidableEq α] [PO α] [CP c] [CL c] : CL (cT c) := ⟨alL, fun a b => by
    show dataLt (.tuple (P.toDs (a.map c))) (.tuple (P.toDs (b.map c))) = _
    rw [dataLt_tuple, ltL_c]; rfl⟩
theorem gOrd_c {f : PyData → PyData → Bool} {c : α → P} [PO α] [CP c] [CL c] [NN c] {a b : α} (h : CP.dep c ≤ 50) : gOrd f (tv c a) (tv c b) = some (tv cB (f (c a).toD (c b).toD)) := by
  unfold gOrd
  rw [okD_c (tv c) h, okD_c (tv c) h]
  show (if (true && true && alike (c a).toD (c b).toD && !nonD (c a).toD) = true then _ else _) = _
  rw [CL.al, NN.nn]; rfl
theorem gLt_c {c : α → P} [PO α] [CP c] [CL c] [NN c] {a b : α} (h : CP.dep c ≤ 50 := by decide) : gLt (tv c a) (tv c b) = some (tv cB (PO.lt a b)) := by
  unfold gLt; rw [gOrd_c h, CL.lt]
theorem gGt_c {c : α → P} [PO α] [CP c] [CL c] [NN c] {a b : α} (h : CP.dep c ≤ 50 := by decide) : gGt (tv c a) (tv c b) = some (tv cB (PO.lt b a)) := by
  unfold gGt; rw [gOrd_c h, CL.lt]
theorem gLe_c {c : α → P} [PO α] [CP c] [CL c] [NN c] {a b : α} (h : CP.dep c ≤ 50 := by decide) : gLe (tv c a) (tv c b) = some (tv cB (!PO.lt b a)) := by
  unfold gLe; rw [gOrd_c h, CL.lt]
theorem gGe_c {c : α → P} [PO α] [CP c] [CL c] [NN c] {a b : α} (h : CP.dep c ≤ 50 := by decide) : gGe (tv c a) (tv c b) = some (tv cB (!PO.lt a b)) := by
  unfold gGe; rw [gOrd_c h, CL.lt]
class CK (c : α → P) : Prop where
  k : (∀ a, tupNE (c a).toD = true) ∨ ∀ a, plainNT (c a).toD = true
instance : CK cI := ⟨.inr fun _ => rfl⟩
instance : CK cS := ⟨.inr fun _ => rfl⟩
instance (c : α → P) (d : β → P) : CK (c2 c d) := ⟨.inl fun _ => rfl⟩
instance (c : α → P) (d : β → P) (e : γ → P) : CK (c3 c d e) := ⟨.inl fun _ => rfl⟩
def sortL [PO α] (l : List α) : List α := l.mergeSort fun a b => !PO.lt b a
theorem pItL_tv {c : α → P} {l : List α} : pItL (tL (tv c) l) = some (l.map c) := by
  show pvs (l.map (tv c)) = _
  have : l.map (tv c) = (l.map c).map T.pv := by rw [List.map_map]; rfl
  rw [this, pvs_map]
theorem pItF_tv {c : α → P} {l : List α} : pItL (tF (tv c) l) = some (l.map c) := pItL_tv (c := c) (l := l)
theorem tL_tv {c : α → P} {l : List α} : tL (tv c) l = .lst ((l.map c).map .pv) := by
  show T.lst _ = _
  rw [List.map_map]; rfl
theorem sortP_c {c : α → P} [PO α] [CL c] {l : List α} : sortP (l.map c) = (sortL l).map c := by
  unfold sortP sortL
  rw [List.map_mergeSort]
  intro a _ b _
  show (!PO.lt b a) = !dataLt (c b).toD (c a).toD
  rw [CL.lt]
theorem sortB_c {c : α → P} [PO α] [CP c] [CL c] {l : List α} (hk : (∀ a ∈ l, tupNE (c a).toD = true) ∨ ∀ a ∈ l, plainNT (c a).toD = true) (h : CP.dep c ≤ 50) : sortB ((l.map c).map P.toD) = true := sortB_of (fun p hp q hq => by
    obtain ⟨a, _, rfl⟩ := List.mem_map.mp hp
    obtain ⟨b, _, rfl⟩ := List.mem_map.mp hq
    exact CL.al a b) (hk.imp (fun k p hp => by obtain ⟨a, ha, rfl⟩ := List.mem_map.mp hp; exact k a ha) fun k p hp => by obtain ⟨a, ha, rfl⟩ := List.mem_map.mp hp; exact k a ha) fun p hp => by obtain ⟨a, _, rfl⟩ := List.mem_map.mp hp; exact Nat.le_trans (CP.hd a) h
theorem gSorted_g {c : α → P} [PO α] [CP c] [CL c] {l : List α} {t : T} (ht : pItL t = some (l.map c)) (hk : (∀ a ∈ l, tupNE (c a).toD = true) ∨ ∀ a ∈ l, plainNT (c a).toD = true) (h : CP.dep c ≤ 50) : gSorted [t] = some (tL (tv c) (sortL l)) := by
  show ((pItL t).bind fun ps => if sortB (ps.map P.toD) = true then some (T.lst ((sortP ps).map .pv)) else none) = _
  rw [ht, Option.bind_some, if_pos (sortB_c hk h), sortP_c, tL_tv]
theorem gSorted_c {c : α → P} [PO α] [CP c] [CL c] [CK c] {l : List α} (h : CP.dep c ≤ 50 := by decide) : gSorted [tL (tv c) l] = some (tL (tv c) (sortL l)) := gSorted_g pItL_tv ((CK.k (c := c)).imp (fun k a _ => k a) fun k a _ => k a) h
def sortTG [DecidableEq α] [PO α] (l : List (List α)) : Option (List (List α)) := if l.all (fun x => !x.isEmpty) = true then some (sortL l) else none
theorem gSorted_T {c : α → P} [DecidableEq α] [PO α] [CP c] [CL c] {l v : List (List α)} (hv : sortTG l = some v) (h : CP.dep (cT c) ≤ 50 := by decide) : gSorted [tL (tv (cT c)) l] = some (tL (tv (cT c)) v) := by
  unfold sortTG at hv
  split at hv
  · rename_i e
    cases hv
    exact gSorted_g pItL_tv (.inl fun a ha => by
      have := List.all_eq_true.mp e a ha
      cases a with
      | nil => cases this
      | cons x l => rfl) h
  · cases hv
def minL [PO α] : List α → Option α
  | [] => none
  | x :: xs => some (xs.foldl (fun a y => if PO.lt y a = true then y else a) x)
def maxL [PO α] : List α → Option α
  | [] => none
  | x :: xs => some (xs.foldl (fun a y => if PO.lt a y = true then y else a) x)
theorem minP_c {c : α → P} [PO α] [CL c] : ∀ (l : List α) (a : α), minP (c a) (l.map c) = c (l.foldl (fun a y => if PO.lt y a = true then y else a) a)
  | [], a => rfl
  | b :: l, a => by
    have ih := minP_c (c := c) l (if PO.lt b a = true then b else a)
    unfold minP at ih ⊢
    rw [List.map_cons, List.foldl_cons, List.foldl_cons, ← ih, CL.lt]
    congr 1
    split <;> rfl
theorem maxP_c {c : α → P} [PO α] [CL c] : ∀ (l : List α) (a : α), maxP (c a) (l.map c) = c (l.foldl (fun a y => if PO.lt a y = true then y else a) a)
  | [], a => rfl
  | b :: l, a => by
    have ih := maxP_c (c := c) l (if PO.lt a b = true then b else a)
    unfold maxP at ih ⊢
    rw [List.map_cons, List.foldl_cons, List.foldl_cons, ← ih, CL.lt]
    congr 1
    split <;> rfl
theorem minB_c {c : α → P} [PO α] [CP c] [CL c] [NN c] {l : List α} (h : CP.dep c ≤ 50) : minB (P.toDs (l.map c)) = true := by
  unfold minB alikeB
  rw [P.toDs_map, List.map_map]
  rw [Bool.and_eq_true, Bool.and_eq_true]
  refine ⟨⟨List.all_eq_true.mpr fun d hd => List.all_eq_true.mpr fun e he => ?_, List.all_eq_true.mpr fun d hd => ?_⟩, decide_eq_true ?_⟩
  · obtain ⟨a, _, rfl⟩ := List.mem_map.mp hd
    obtain ⟨b, _, rfl⟩ := List.mem_map.mp he
    exact CL.al a b
  · obtain ⟨a, _, rfl⟩ := List.mem_map.mp hd
    show (!nonD (c a).toD) = true
    rw [NN.nn]; rfl
  · exact depthAll_le fun d hd => by
      obtain ⟨a, _, rfl⟩ := List.mem_map.mp hd
      exact Nat.le_trans (CP.hd a) h
theorem gMinMax_g {f : P → List P → P} {c : α → P} [PO α] [CP c] [CL c] [NN c] {l : List α} {a : α} {t : T} (ht : pItL t = some ((a :: l).map c)) (h : CP.dep c ≤ 50) : gMinMax f [t] = some (.pv (f (c a) (l.map c))) := by
  show (match pItL t with
    | some (p :: ps) => if minB (P.toDs (p :: ps)) = true then some (T.pv (f p ps)) else none
    | _ => none) = _
  rw [ht, List.map_cons]
  dsimp only
  rw [← List.map_cons, if_pos (minB_c h)]
theorem gMin_c {c : α → P} [PO α] [CP c] [CL c] [NN c] {l : List α} {v : α} (hv : minL l = some v) (h : CP.dep c ≤ 50 := by decide) : gMin [tL (tv c) l] = some (tv c v) := by
  cases l with
  | nil => cases hv
  | cons a l =>
    cases hv
    show gMinMax minP _ = _
    rw [gMinMax_g (pItL_tv (c := c)) h, minP_c]
theorem gMax_c {c : α → P} [PO α] [CP c] [CL c] [NN c] {l : List α} {v : α} (hv : maxL l = some v) (h : CP.dep c ≤ 50 := by decide) : gMax [tL (tv c) l] = some (tv c v) := by
  cases l with
  | nil => cases hv
  | cons a l =>
    cases hv
    show gMinMax maxP _ = _
    rw [gMinMax_g (pItL_tv (c := c)) h, maxP_c]
end
end TR
namespace TR
open PySem PySem.Spec PyProof.Rows L2
section
variable {α β γ δ σ ρρ κ ν : Type}
def bnd (a : α) (f : α → Option β) : Option β := f a
def bind2 (o : Option (α × β)) (f : α → β → Option γ) : Option γ := o.bind fun p => f p.1 p.2
def bind3 (o : Option (α × β × γ)) (f : α → β → γ → Option δ) : Option δ := o.bind fun p => f p.1 p.2.1 p.2.2
@[simp] theorem bind2_some (a : α) (b : β) (f : α → β → Option γ) : bind2 (some (a, b)) f = f a b := nr rfl
@[simp] theorem bind3_some (a : α) (b : β) (c : γ) (f : α → β → γ → Option δ) : bind3 (some (a, b, c)) f = f a b c := nr rfl
theorem obd {o : Option α} {f : α → Option β} {b : β} (h : o.bind f = some b) : ∃ a, o = some a ∧ f a = some b := by
  cases o with
  | none => cases h
  | some a => exact ⟨a, rfl, h⟩
theorem obb {a : α} {f : α → Option β} {b : β} (h : bnd a f = some b) : ∃ x, x = a ∧ f x = some b := ⟨a, rfl, h⟩
theorem obb0 {a : α} {f : α → Option β} {b : Option β} (h : bnd a f = b) : f a = b := h
theorem obd2 {o : Option (α × β)} {f : α → β → Option γ} {c : γ} (h : bind2 o f = some c) : ∃ a b, o = some (a, b) ∧ f a b = some c := by
  cases o with
  | none => cases h
  | some p => exact ⟨p.1, p.2, rfl, h⟩
theorem obd3 {o : Option (α × β × γ)} {f : α → β → γ → Option δ} {c : δ} (h : bind3 o f = some c) : ∃ a b d, o = some (a, b, d) ∧ f a b d = some c := by
  cases o with
  | none => cases h
  | some p => exact ⟨p.1, p.2.1, p.2.2, rfl, h⟩
def bind4 {α4 : Type} (o : Option (α × β × γ × α4)) (f : α → β → γ → α4 → Option δ) : Option δ := o.bind fun p => f p.1 p.2.1 p.2.2.1 p.2.2.2
def bind5 {α4 α5 : Type} (o : Option (α × β × γ × α4 × α5)) (f : α → β → γ → α4 → α5 → Option δ) : Option δ := o.bind fun p => f p.1 p.2.1 p.2.2.1 p.2.2.2.1 p.2.2.2.2
@[simp] theorem bind4_some {α4 : Type} (a : α) (b : β) (c : γ) (d : α4) (f : α → β → γ → α4 → Option δ) : bind4 (some (a, b, c, d)) f = f a b c d := nr rfl
@[simp] theorem bind5_some {α4 α5 : Type} (a : α) (b : β) (c : γ) (d : α4) (e : α5) (f : α → β → γ → α4 → α5 → Option δ) : bind5 (some (a, b, c, d, e)) f = f a b c d e := nr rfl
theorem obd4 {α4 : Type} {o : Option (α × β × γ × α4)} {f : α → β → γ → α4 → Option δ} {z : δ} (h : bind4 o f = some z) : ∃ a b c d, o = some (a, b, c, d) ∧ f a b c d = some z := by
  cases o with
  | none => cases h
  | some p => exact ⟨_, _, _, _, rfl, h⟩
theorem obd5 {α4 α5 : Type} {o : Option (α × β × γ × α4 × α5)} {f : α → β → γ → α4 → α5 → Option δ} {z : δ} (h : bind5 o f = some z) : ∃ a b c d e, o = some (a, b, c, d, e) ∧ f a b c d e = some z := by
  cases o with
  | none => cases h
  | some p => exact ⟨_, _, _, _, _, rfl, h⟩
theorem xd {G : Prop} {o : Option α} {f : α → Option β} {b : β} (h : o.bind f = some b) (k : ∀ a, o = some a → f a = some b → G) : G := (obd h).elim fun a e => k a e.1 e.2
theorem xb {G : Prop} {a : α} {f : α → Option β} {b : β} (h : bnd a f = some b) (k : ∀ x, x = a → f x = some b → G) : G := k a rfl h
theorem xd2 {G : Prop} {o : Option (α × β)} {f : α → β → Option γ} {c : γ} (h : bind2 o f = some c) (k : ∀ a b, o = some (a, b) → f a b = some c → G) : G := (obd2 h).elim fun a e => e.elim fun b e => k a b e.1 e.2
theorem xd3 {G : Prop} {o : Option (α × β × γ)} {f : α → β → γ → Option δ} {c : δ} (h : bind3 o f = some c) (k : ∀ a b d, o = some (a, b, d) → f a b d = some c → G) : G := (obd3 h).elim fun a e => e.elim fun b e => e.elim fun d e => k a b d e.1 e.2
theorem xd4 {G : Prop} {α4 : Type} {o : Option (α × β × γ × α4)} {f : α → β → γ → α4 → Option δ} {z : δ} (h : bind4 o f = some z) (k : ∀ a b c d, o = some (a, b, c, d) → f a b c d = some z → G) : G := (obd4 h).elim fun a e => e.elim fun b e => e.elim fun c e => e.elim fun d e => k a b c d e.1 e.2
theorem xd5 {G : Prop} {α4 α5 : Type} {o : Option (α × β × γ × α4 × α5)} {f : α → β → γ → α4 → α5 → Option δ} {z : δ} (h : bind5 o f = some z) (k : ∀ a b c d e, o = some (a, b, c, d, e) → f a b c d e = some z → G) : G := (obd5 h).elim fun a e => e.elim fun b e => e.elim fun c e => e.elim fun d e => e.elim fun x e => k a b c d x e.1 e.2
@[elab_as_elim] theorem pe2 {C : α × β → Prop} (s : α × β) (k : ∀ a b, C (a, b)) : C s := k s.1 s.2
@[elab_as_elim] theorem pe3 {C : α × β × γ → Prop} (s : α × β × γ) (k : ∀ a b c, C (a, b, c)) : C s := k s.1 s.2.1 s.2.2
@[elab_as_elim] theorem pe4 {C : α × β × γ × δ → Prop} (s : α × β × γ × δ) (k : ∀ a b c d, C (a, b, c, d)) : C s := k s.1 s.2.1 s.2.2.1 s.2.2.2
@[elab_as_elim] theorem pe5 {α5 : Type} {C : α × β × γ × δ × α5 → Prop} (s : α × β × γ × δ × α5) (k : ∀ a b c d e, C (a, b, c, d, e)) : C s := k s.1 s.2.1 s.2.2.1 s.2.2.2.1 s.2.2.2.2
theorem iteB {c : Bool} {x y : Option α} {z : α} (h : (if c = true then x else y) = some z) : (c = true ∧ x = some z) ∨ (c = false ∧ y = some z) := by
  cases c with
  | true => exact .inl ⟨rfl, by simpa using h⟩
  | false => exact .inr ⟨rfl, by simpa using h⟩
theorem iteT {c : Bool} {x y : Option α} {z : α} (h : (if c = true then x else y) = some z) (e : c = true) : x = some z := by rw [if_pos e] at h; exact h
theorem iteF {c : Bool} {x y : Option α} {z : α} (h : (if c = true then x else y) = some z) (e : c = false) : y = some z := by rw [if_neg (by rw [e]; exact Bool.false_ne_true)] at h; exact h
inductive Ctl (σ ρρ : Type) where | nx (s : σ) | rt (r : ρρ)
def forL : List α → σ → (σ → α → Option σ) → Option σ
  | [], s, _ => some s
  | x :: xs, s, f => (f s x).bind fun s => forL xs s f
def forC : List α → σ → (σ → α → Option (Ctl σ ρρ)) → Option (Ctl σ ρρ)
  | [], s, _ => some (.nx s)
  | x :: xs, s, f => (f s x).bind fun o => match o with
    | .nx s => forC xs s f
    | .rt r => some (.rt r)
def whileL : Nat → σ → (σ → Option Bool) → (σ → Option σ) → Option σ
  | 0, _, _, _ => none
  | n + 1, s, c, b => (c s).bind fun t => if t = true then (b s).bind fun s => whileL n s c b else some s
def whileC : Nat → σ → (σ → Option Bool) → (σ → Option (Ctl σ ρρ)) → Option (Ctl σ ρρ)
  | 0, _, _, _ => none
  | n + 1, s, c, b => (c s).bind fun t => if t = true then ((b s).bind fun o => match o with
    | .nx s => whileC n s c b
    | .rt r => some (.rt r)) else some (.nx s)
def bindC (o : Option (Ctl σ ρρ)) (fr : ρρ → Option γ) (fn : σ → Option γ) : Option γ := o.bind fun c => match c with
  | .nx s => fn s
  | .rt r => fr r
@[simp] theorem bindC_nx (s : σ) (fr : ρρ → Option γ) (fn : σ → Option γ) : bindC (some (.nx s)) fr fn = fn s := nr rfl
@[simp] theorem bindC_rt (r : ρρ) (fr : ρρ → Option γ) (fn : σ → Option γ) : bindC (some (.rt r)) fr fn = fr r := nr rfl
theorem obdC {o : Option (Ctl σ ρρ)} {fr : ρρ → Option γ} {fn : σ → Option γ} {z : γ} (h : bindC o fr fn = some z) : (∃ r, o = some (.rt r) ∧ fr r = some z) ∨ ∃ s, o = some (.nx s) ∧ fn s = some z := by
  cases o with
  | none => cases h
  | some c =>
    cases c with
    | nx s => exact .inr ⟨s, rfl, h⟩
    | rt r => exact .inl ⟨r, rfl, h⟩
theorem obdK {o : Option (Ctl σ ρρ)} {fr : ρρ → Option γ} {fn : σ → Option γ} {z : γ} (h : bindC o fr fn = some z) : ∃ c, o = some c ∧ (∀ r, c = .rt r → fr r = some z) ∧ ∀ s, c = .nx s → fn s = some z := by
  rcases obdC h with ⟨r, e, h⟩ | ⟨s, e, h⟩
  · exact ⟨_, e, fun r' e' => (by cases e'; exact h), fun s' e' => (by cases e')⟩
  · exact ⟨_, e, fun r' e' => (by cases e'), fun s' e' => (by cases e'; exact h)⟩
theorem xK {G : Prop} {o : Option (Ctl σ ρρ)} {fr : ρρ → Option γ} {fn : σ → Option γ} {z : γ} (h : bindC o fr fn = some z) (k : ∀ c, o = some c → (∀ r, c = .rt r → fr r = some z) → (∀ s, c = .nx s → fn s = some z) → G) : G := (obdK h).elim fun c e => k c e.1 e.2.1 e.2.2
def compM : List α → (α → Option Bool) → (α → Option β) → Option (List β)
  | [], _, _ => some []
  | x :: xs, p, f => (p x).bind fun b => if b = true then ((f x).bind fun y => (compM xs p f).bind fun ys => some (y :: ys)) else compM xs p f
def compS : List α → σ → (σ → α → Option (β × σ)) → Option (List β × σ)
  | [], s, _ => some ([], s)
  | x :: xs, s, f => (f s x).bind fun r => (compS xs r.2 f).bind fun q => some (r.1 :: q.1, q.2)
def yesM : α → Option Bool := fun _ => some true
def mulG (a b : Int) : Option Int := if cMul a b = true then some (a * b) else none
def mul0G (a b : Int) : Option Int := if cMul0 a b = true then some (a * b) else none
def divG (a b : Int) : Option Int := if cDiv a b = true then some (a / b) else none
def modG (a b : Int) : Option Int := if 0 < b then some (a % b) else none
def powG (a b : Int) : Option Int := if cPow a b = true then some (a ^ b.toNat) else none
def shlG (a b : Int) : Option Int := if cPow a b = true then some (a * 2 ^ b.toNat) else none
def shrG (a b : Int) : Option Int := if 0 ≤ b then some (a / 2 ^ b.toNat) else none
abbrev big : Nat := 16777216
def catG (l m : List α) : Option (List α) := if l.length + m.length ≤ big then some (l ++ m) else none
def catS (x y : Str) : Option Str := if x.length + y.length ≤ big then some (x ++ y) else none
def repG (l : List α) (k : Int) : Option (List α) := if -(2 ^ 63) ≤ k ∧ k < 2 ^ 63 ∧ l.length * k.toNat ≤ big then some (List.replicate k.toNat l).flatten else none
def appG (l : List α) (x : α) : Option (List α) := if l.length < big then some (l ++ [x]) else none
def extG (l m : List α) : Option (List α) := if l.length + m.length ≤ big then some (l ++ m) else none
def popE (l : List α) : Option (List α × α) := (l[l.length - 1]?).map fun t => (l.eraseIdx (l.length - 1), t)
def popI (l : List α) (i : Int) : Option (List α × α) := if -(2 ^ 62) ≤ i ∧ i < 2 ^ 62 then (ixN l.length i).bind fun j => (l[j]?).map fun t => (l.eraseIdx j, t) else none
def insG (l : List α) (i : Int) (x : α) : Option (List α) := if l.length < big ∧ 0 ≤ i ∧ i < big then some (l.take i.toNat ++ [x] ++ l.drop i.toNat) else none
def setI (l : List α) (i : Int) (x : α) : Option (List α) := (ixN l.length i).map fun j => l.set j x
def rngL (a b : Int) : List Int := (List.range (b - a).toNat).map fun (i : Nat) => a + (i : Int)
def rng1G (b : Int) : Option (List Int) := if -16777216 ≤ b ∧ b ≤ 16777216 then some (rngL 0 b) else none
def rng2G (a b : Int) : Option (List Int) := if -8388608 ≤ a ∧ a ≤ 8388608 ∧ -8388608 ≤ b ∧ b ≤ 8388608 then some (rngL a b) else none
def rngLG (a b : Int) : Option (List Int) := if rgOkB a b = true then some (rngL a b) else none
def b2n (b : Bool) : Int := if b then 1 else 0
def absI (i : Int) : Int := if i < 0 then -i else i
def max2 (i j : Int) : Int := if j > i then j else i
def min2 (i j : Int) : Int := if j < i then j else i
def lenI (l : List α) : Int := (l.length : Int)
def dget [DecidableEq κ] : List (κ × ν) → κ → Option ν
  | [], _ => none
  | e :: d, k => if e.1 = k then some e.2 else dget d k
def dset [DecidableEq κ] : List (κ × ν) → κ → ν → List (κ × ν)
  | [], k, v => [(k, v)]
  | e :: d, k, v => if e.1 = k then (e.1, v) :: d else e :: dset d k v
def dhas [DecidableEq κ] (d : List (κ × ν)) (k : κ) : Bool := (dget d k).isSome
def dput [DecidableEq κ] (d : List (κ × ν)) (k : κ) (v : ν) : Option (List (κ × ν)) := if d.length < big then some (dset d k v) else none
def dgetG [DecidableEq κ] (d : List (κ × ν)) (k : κ) : Option ν := if d.length < big then dget d k else none
def dnew [DecidableEq κ] (l : List (κ × ν)) : Option (List (κ × ν)) := if (l.map (·.1)).Nodup then some l else none
end
section
variable {α σ ρρ : Type} {N : Env → Prop} {Q : T → Env → Prop} {ρ : Env} {f g : FF}
theorem rn_mid {I : Env → Prop} {o : R Env (Fl × Env)} (h : Rn I Q o) (n : ∀ ρ, I ρ → N ρ) : Rn N Q o := rn_imp n (fun _ _ h => h) h
theorem lt_of_get {ρ : Env} {i : Nat} {s : Sl} (h : ρ[i]? = some s) : i < ρ.length := (List.getElem?_eq_some_iff.mp h).1
theorem rn_setX {i : Nat} {fe : Env → R Unit T} {t : T} {s : Sl} (ρ' : Env) (e : fe ρ = .ok t) (hl : ρ[i]? = some s) (hs : ρ.set i (.ow t) = ρ') (h : N ρ') : Rn N Q (tSet i fe ρ) := rn_set e (lt_of_get hl) (by rw [hs]; exact h)
theorem rn_setEX {i : Nat} {fe : Env → R Env (AV × Env)} {t : T} {ρ1 : Env} {s : Sl} (ρ' : Env) (e : fe ρ = .ok (.val t, ρ1)) (hl : ρ1[i]? = some s) (hs : ρ1.set i (.ow t) = ρ') (h : N ρ') : Rn N Q (tSetE i fe ρ) := rn_setE e (lt_of_get hl) (by rw [hs]; exact h)
theorem rn_asX {tg : TgF} {fe : Env → R Unit T} {t : T} (ρ1 : Env) (e : fe ρ = .ok t) (e2 : tg (.ow t) ρ = some ρ1) (h : N ρ1) : Rn N Q (tAs tg fe ρ) := rn_as e e2 h
theorem rn_asEX {tg : TgF} {fe : Env → R Env (AV × Env)} {t : T} {ρ1 : Env} (ρ2 : Env) (e : fe ρ = .ok (.val t, ρ1)) (e2 : tg (.ow t) ρ1 = some ρ2) (h : N ρ2) : Rn N Q (tAsE tg fe ρ) := by
  unfold tAsE
  rw [e, R.bind_ok]
  show Rn N Q (match tg (.ow t) ρ1 with
    | some ρ' => .ok (.nx, ρ')
    | none => .bad)
  rw [e2]
  exact h
theorem rn_parX {i j : Nat} {fe : Env → R Unit (List T)} {t u : T} {s s' : Sl} (ρ' : Env) (e : fe ρ = .ok [t, u]) (h1 : ρ[i]? = some s) (h2 : ρ[j]? = some s') (hs : (ρ.set i (.ow t)).set j (.ow u) = ρ') (h : N ρ') : Rn N Q (tPr i j fe ρ) := rn_par e ⟨lt_of_get h1, lt_of_get h2⟩ (by rw [hs]; exact h)
theorem rn_augX {i : Nat} {g : T → T → Option T} {fe : Env → R Unit T} {p q : P} {t : T} (ρ' : Env) (h0 : ρ[i]? = some (.ow (.pv p))) (e : fe ρ = .ok t) (hg : g (.pv p) t = some (.pv q)) (hs : ρ.set i (.ow (.pv q)) = ρ') (h : N ρ') : Rn N Q (tAugF i g fe ρ) := by
  unfold tAugF
  rw [h0]
  dsimp only
  rw [e, liftQ_ok, hg]
  show N (ρ.set i (.ow (.pv q)))
  rw [hs]; exact h
theorem rn_setPX {i : Nat} {fp : Env → R Unit (List P)} {fk fe : Env → R Unit T} {tv t t2 : T} {ks : List P} {p : P} (ρ' : Env) (e1 : fe ρ = .ok tv) (e2 : fp ρ = .ok ks) (e3 : fk ρ = .ok (.pv p)) (e4 : ρ[i]? = some (.ow t)) (e5 : updPath ks (fun node => setKid node p tv) t = some t2) (hs : ρ.set i (.ow t2) = ρ') (h : N ρ') : Rn N Q (tSetP i fp fk fe ρ) := rn_setP e1 e2 e3 e4 e5 (by rw [hs]; exact h)
theorem rn_setPEX {i : Nat} {fp : Env → R Unit (List P)} {fk : Env → R Unit T} {fe : Env → R Env (AV × Env)} {tv t t2 : T} {ks : List P} {p : P} {ρ1 : Env} (ρ' : Env) (e1 : fe ρ = .ok (.val tv, ρ1)) (e2 : fp ρ1 = .ok ks) (e3 : fk ρ1 = .ok (.pv p)) (e4 : ρ1[i]? = some (.ow t)) (e5 : updPath ks (fun node => setKid node p tv) t = some t2) (hs : ρ1.set i (.ow t2) = ρ') (h : N ρ') : Rn N Q (tSetPE i fp fk fe ρ) := by
  unfold tSetPE
  rw [e1, R.bind_ok]
  dsimp only
  rw [e2, liftQ_ok, e3, e4]
  show Rn N Q (match updPath ks (fun node => setKid node p tv) t with
    | some t2 => .ok (.nx, ρ1.set i (.ow t2))
    | none => .bad)
  rw [e5]
  show N (ρ1.set i (.ow t2))
  rw [hs]; exact h
theorem rn_augPX {i : Nat} {g : T → T → Option T} {fp : Env → R Unit (List P)} {fk fe : Env → R Unit T} {tv t t2 : T} {ks : List P} {p : P} (ρ' : Env) (e2 : fp ρ = .ok ks) (e3 : fk ρ = .ok (.pv p)) (e1 : fe ρ = .ok tv) (e4 : ρ[i]? = some (.ow t)) (e5 : updPath ks (augK g p tv) t = some t2) (hs : ρ.set i (.ow t2) = ρ') (h : N ρ') : Rn N Q (tAugP i g fp fk fe ρ) := by
  unfold tAugP
  rw [e2, liftQ_ok, e3, e1, e4]
  show Rn N Q (match updPath ks (augK g p tv) t with
    | some t2 => .ok (.nx, ρ.set i (.ow t2))
    | none => .bad)
  rw [e5]
  show N (ρ.set i (.ow t2))
  rw [hs]; exact h
theorem rn_expEX {fe : Env → R Env (AV × Env)} {a : AV} (ρ1 : Env) (e : fe ρ = .ok (a, ρ1)) (h : N ρ1) : Rn N Q (tExpE fe ρ) := rn_expE e h
theorem rn_retL {fe : Env → R Env (AV × Env)} {j : Nat} {p : P} {ρ1 : Env} (e : fe ρ = .ok (.late j, ρ1)) (h2 : (ρ1[j]?).bind Sl.t? = some (.pv p)) (h : Q (.pv p) ρ1) : Rn N Q (tRetE fe ρ) := by
  unfold tRetE
  rw [e, R.bind_ok]
  dsimp only
  rw [h2]
  exact h
theorem rn_retN (h : Q (.pv .non) ρ) : Rn N Q ((fun ρ => R.ok (Fl.rt (.pv .non), ρ) : FF) ρ) := h
theorem forGo_L {tg : TgF} {b : FF} {mk : α → Sl} {body : σ → α → Option σ} (I : σ → Env → Prop) (st : ∀ s x s' ρ, I s ρ → body s x = some s' → ∃ ρ1, tg (mk x) ρ = some ρ1 ∧ Rn (I s') Q (b ρ1)) : ∀ (xs : List α) (s s' : σ) (ρ : Env), I s ρ → forL xs s body = some s' → (∀ ρ, I s' ρ → N ρ) → Rn N Q (forGo tg b (xs.map mk) ρ)
  | [], s, s', ρ, h, e, fin => by
    cases e
    exact fin ρ h
  | x :: xs, s, s', ρ, h, e, fin => by
    obtain ⟨s1, e1, e2⟩ := obd e
    obtain ⟨ρ1, e3, h1⟩ := st s x s1 ρ h e1
    show Rn N Q (match tg (mk x) ρ with
    | none => .bad
    | some ρ1 => match b ρ1 with
      | .ok (.nx, ρ2) => forGo tg b (xs.map mk) ρ2
      | .ok (.ct, ρ2) => forGo tg b (xs.map mk) ρ2
      | .ok (.bk, ρ2) => .ok (.nx, ρ2)
      | o => o)
    rw [e3]
    dsimp only
    generalize b ρ1 = o at h1
    match o, h1 with
    | .ok (.nx, ρ2), h1 => exact forGo_L I st xs s1 s' ρ2 h1 e2 fin
    | .ok (.rt t, ρ2), h1 => exact h1
theorem rn_forL {fi : Env → R Unit (List Sl)} {tg : TgF} {b : FF} {xs : List α} {mk : α → Sl} {body : σ → α → Option σ} {s0 s1 : σ} (I : σ → Env → Prop) (hi : fi ρ = .ok (xs.map mk)) (hm : forL xs s0 body = some s1) (h0 : I s0 ρ) (st : ∀ s x s' ρ, I s ρ → body s x = some s' → ∃ ρ1, tg (mk x) ρ = some ρ1 ∧ Rn (I s') Q (b ρ1)) (fin : ∀ ρ, I s1 ρ → N ρ) : Rn N Q (tForF fi tg b ρ) := by
  unfold tForF
  rw [hi, liftQ_ok]
  exact forGo_L I st xs s0 s1 ρ h0 hm fin
theorem rn_forLS {fi : Env → R Env (List Sl × Env)} {tg : TgF} {b : FF} {xs : List α} {mk : α → Sl} {body : σ → α → Option σ} {s0 s1 : σ} {ρ0 : Env} (I : σ → Env → Prop) (hi : fi ρ = .ok (xs.map mk, ρ0)) (hm : forL xs s0 body = some s1) (h0 : I s0 ρ0) (st : ∀ s x s' ρ, I s ρ → body s x = some s' → ∃ ρ1, tg (mk x) ρ = some ρ1 ∧ Rn (I s') Q (b ρ1)) (fin : ∀ ρ, I s1 ρ → N ρ) : Rn N Q (tForS fi tg b ρ) := by
  unfold tForS
  rw [hi, R.bind_ok]
  exact forGo_L I st xs s0 s1 ρ0 h0 hm fin
def CtlN (I : σ → Env → Prop) : Ctl σ ρρ → Env → Prop
  | .nx s, ρ => I s ρ
  | .rt _, _ => False
theorem forGo_C {tg : TgF} {b : FF} {mk : α → Sl} {body : σ → α → Option (Ctl σ ρρ)} (I : σ → Env → Prop) (Qr : ρρ → T → Env → Prop) (st : ∀ s x o ρ, I s ρ → body s x = some o → ∃ ρ1, tg (mk x) ρ = some ρ1 ∧ Rn (fun ρ => ∃ s', o = .nx s' ∧ I s' ρ) (fun t ρ => ∃ r, o = .rt r ∧ Qr r t ρ) (b ρ1)) : ∀ (xs : List α) (s : σ) (o : Ctl σ ρρ) (ρ : Env), I s ρ → forC xs s body = some o → (∀ s ρ, o = .nx s → I s ρ → N ρ) → (∀ r t ρ, o = .rt r → Qr r t ρ → Q t ρ) → Rn N Q (forGo tg b (xs.map mk) ρ)
  | [], s, o, ρ, h, e, fin, _ => by
    cases e
    exact fin s ρ rfl h
  | x :: xs, s, o, ρ, h, e, fin, finr => by
    obtain ⟨o1, e1, e2⟩ := obd e
    obtain ⟨ρ1, e3, h1⟩ := st s x o1 ρ h e1
    show Rn N Q (match tg (mk x) ρ with
    | none => .bad
    | some ρ1 => match b ρ1 with
      | .ok (.nx, ρ2) => forGo tg b (xs.map mk) ρ2
      | .ok (.ct, ρ2) => forGo tg b (xs.map mk) ρ2
      | .ok (.bk, ρ2) => .ok (.nx, ρ2)
      | o => o)
    rw [e3]
    dsimp only
    generalize b ρ1 = oo at h1
    match oo, h1 with
    | .ok (.nx, ρ2), ⟨s', e4, h5⟩ =>
      subst e4
      exact forGo_C I Qr st xs s' o ρ2 h5 e2 fin finr
    | .ok (.rt t, ρ2), ⟨r, e4, h5⟩ =>
      subst e4
      cases e2
      exact finr r t ρ2 rfl h5
theorem rn_forC {fi : Env → R Unit (List Sl)} {tg : TgF} {b : FF} {xs : List α} {mk : α → Sl} {body : σ → α → Option (Ctl σ ρρ)} {s0 : σ} {o : Ctl σ ρρ} (I : σ → Env → Prop) (Qr : ρρ → T → Env → Prop) (hi : fi ρ = .ok (xs.map mk)) (hm : forC xs s0 body = some o) (h0 : I s0 ρ) (st : ∀ s x o ρ, I s ρ → body s x = some o → ∃ ρ1, tg (mk x) ρ = some ρ1 ∧ Rn (fun ρ => ∃ s', o = .nx s' ∧ I s' ρ) (fun t ρ => ∃ r, o = .rt r ∧ Qr r t ρ) (b ρ1)) (fin : ∀ s ρ, o = .nx s → I s ρ → N ρ) (finr : ∀ r t ρ, o = .rt r → Qr r t ρ → Q t ρ) : Rn N Q (tForF fi tg b ρ) := by
  unfold tForF
  rw [hi, liftQ_ok]
  exact forGo_C I Qr st xs s0 o ρ h0 hm fin finr
theorem rn_forCS {fi : Env → R Env (List Sl × Env)} {tg : TgF} {b : FF} {xs : List α} {mk : α → Sl} {body : σ → α → Option (Ctl σ ρρ)} {s0 : σ} {o : Ctl σ ρρ} {ρ0 : Env} (I : σ → Env → Prop) (Qr : ρρ → T → Env → Prop) (hi : fi ρ = .ok (xs.map mk, ρ0)) (hm : forC xs s0 body = some o) (h0 : I s0 ρ0) (st : ∀ s x o ρ, I s ρ → body s x = some o → ∃ ρ1, tg (mk x) ρ = some ρ1 ∧ Rn (fun ρ => ∃ s', o = .nx s' ∧ I s' ρ) (fun t ρ => ∃ r, o = .rt r ∧ Qr r t ρ) (b ρ1)) (fin : ∀ s ρ, o = .nx s → I s ρ → N ρ) (finr : ∀ r t ρ, o = .rt r → Qr r t ρ → Q t ρ) : Rn N Q (tForS fi tg b ρ) := by
  unfold tForS
  rw [hi, R.bind_ok]
  exact forGo_C I Qr st xs s0 o ρ0 h0 hm fin finr
theorem rn_whileL {c : Env → R Unit Bool} {b : FF} {cm : σ → Option Bool} {body : σ → Option σ} (I : σ → Env → Prop) (hc : ∀ s t ρ, I s ρ → cm s = some t → c ρ = .ok t) (st : ∀ s s' ρ, I s ρ → cm s = some true → body s = some s' → Rn (I s') Q (b ρ)) : ∀ (n : Nat) (s s' : σ) (ρ : Env), whileL n s cm body = some s' → I s ρ → (∀ ρ, I s' ρ → N ρ) → Rn N Q (whileGo c b n ρ)
  | 0, s, s', ρ, e, _, _ => by cases e
  | n + 1, s, s', ρ, e, h, fin => by
    obtain ⟨t, e1, e2⟩ := obd e
    unfold whileGo
    rw [hc s t ρ h e1, liftQ_ok]
    rcases iteB e2 with ⟨rfl, e2⟩ | ⟨rfl, e2⟩
    · obtain ⟨s1, e3, e4⟩ := obd e2
      have h1 := st s s1 ρ h e1 e3
      rw [if_pos rfl]
      generalize b ρ = o at h1
      match o, h1 with
      | .ok (.nx, ρ2), h1 => exact rn_whileL I hc st n s1 s' ρ2 e4 h1 fin
      | .ok (.rt t, ρ2), h1 => exact h1
    · cases e2
      exact fin ρ h
theorem rn_whileC {c : Env → R Unit Bool} {b : FF} {cm : σ → Option Bool} {body : σ → Option (Ctl σ ρρ)} (I : σ → Env → Prop) (Qr : ρρ → T → Env → Prop) (hc : ∀ s t ρ, I s ρ → cm s = some t → c ρ = .ok t) (st : ∀ s o ρ, I s ρ → cm s = some true → body s = some o → Rn (fun ρ => ∃ s', o = .nx s' ∧ I s' ρ) (fun t ρ => ∃ r, o = .rt r ∧ Qr r t ρ) (b ρ)) : ∀ (n : Nat) (s : σ) (o : Ctl σ ρρ) (ρ : Env), whileC n s cm body = some o → I s ρ → (∀ s ρ, o = .nx s → I s ρ → N ρ) → (∀ r t ρ, o = .rt r → Qr r t ρ → Q t ρ) → Rn N Q (whileGo c b n ρ)
  | 0, s, o, ρ, e, _, _, _ => by cases e
  | n + 1, s, o, ρ, e, h, fin, finr => by
    obtain ⟨t, e1, e2⟩ := obd e
    unfold whileGo
    rw [hc s t ρ h e1, liftQ_ok]
    rcases iteB e2 with ⟨rfl, e2⟩ | ⟨rfl, e2⟩
    · obtain ⟨o1, e3, e4⟩ := obd e2
      have h1 := st s o1 ρ h e1 e3
      rw [if_pos rfl]
      generalize b ρ = oo at h1
      match oo, h1 with
      | .ok (.nx, ρ2), ⟨s1, e5, h5⟩ =>
        subst e5
        exact rn_whileC I Qr hc st n s1 o ρ2 e4 h5 fin finr
      | .ok (.rt t, ρ2), ⟨r, e5, h5⟩ =>
        subst e5
        cases e4
        exact finr r t ρ2 rfl h5
    · cases e2
      exact fin s ρ rfl h
theorem rn_ctl {fo : R Env (Fl × Env)} {oc : Ctl σ ρρ} (I : σ → Env → Prop) (Qr : ρρ → T → Env → Prop) (h : Rn (fun ρ => ∃ s', oc = .nx s' ∧ I s' ρ) (fun t ρ => ∃ r, oc = .rt r ∧ Qr r t ρ) fo) (fin : ∀ s ρ, oc = .nx s → I s ρ → N ρ) (finr : ∀ r t ρ, oc = .rt r → Qr r t ρ → Q t ρ) : Rn N Q fo := rn_imp (fun ρ ⟨s, e, h⟩ => fin s ρ e h) (fun t ρ ⟨r, e, h⟩ => finr r t ρ e h) h
theorem fn_tie {io : List Bool} {n : Nat} {b : FF} {args outs : Env} {t : T} (ρ0 : Env) (hl : args.length = io.length) (hρ : args ++ List.replicate (n - io.length) .no = ρ0) (h : Rn (fun ρ => T.pv .non = t ∧ maskE io ρ = outs) (fun u ρ => u = t ∧ maskE io ρ = outs) (b ρ0)) : fnOf io n b args = .ok (t, outs) := by
  obtain ⟨u, ρ', e, rfl, rfl⟩ := fn_run (G := fun u ρ => u = t ∧ ρ = outs) hl (by rw [hρ]; exact h)
  exact e
end
structure Run (N : Env → Prop) (Q : T → Env → Prop) (o : R Env (Fl × Env)) : Prop where
  h : Rn N Q o
section
variable {α σ ρρ : Type} {N : Env → Prop} {Q : T → Env → Prop} {ρ : Env} {f g : FF}
theorem ru_imp {N' : Env → Prop} {Q' : T → Env → Prop} {o : R Env (Fl × Env)} (n : ∀ ρ, N ρ → N' ρ) (q : ∀ t ρ, Q t ρ → Q' t ρ) (h : Run N Q o) : Run N' Q' o := ⟨rn_imp n q h.h⟩
theorem ru_nx (h : N ρ) : Run N Q (tNx ρ) := ⟨rn_nx h⟩
theorem ru_seq (h : Run (fun ρ1 => Run N Q (g ρ1)) Q (f ρ)) : Run N Q (tSq f g ρ) := ⟨rn_seq (rn_imp (fun _ h => h.h) (fun _ _ h => h) h.h)⟩
theorem ru_if {c : Env → R Unit Bool} {b : Bool} (e : c ρ = .ok b) (h1 : b = true → Run N Q (f ρ)) (h2 : b = false → Run N Q (g ρ)) : Run N Q (tIfQ c f g ρ) := ⟨rn_if e (fun h => (h1 h).h) fun h => (h2 h).h⟩
theorem ru_ifE {c : Env → R Env (Bool × Env)} {b : Bool} {ρ1 : Env} (e : c ρ = .ok (b, ρ1)) (h1 : b = true → Run N Q (f ρ1)) (h2 : b = false → Run N Q (g ρ1)) : Run N Q (tIfE c f g ρ) := ⟨rn_ifE e (fun h => (h1 h).h) fun h => (h2 h).h⟩
theorem ru_setX {i : Nat} {fe : Env → R Unit T} {t : T} {s : Sl} (ρ' : Env) (e : fe ρ = .ok t) (hl : ρ[i]? = some s) (hs : ρ.set i (.ow t) = ρ') (h : N ρ') : Run N Q (tSet i fe ρ) := ⟨rn_setX ρ' e hl hs h⟩
theorem ru_setEX {i : Nat} {fe : Env → R Env (AV × Env)} {t : T} {ρ1 : Env} {s : Sl} (ρ' : Env) (e : fe ρ = .ok (.val t, ρ1)) (hl : ρ1[i]? = some s) (hs : ρ1.set i (.ow t) = ρ') (h : N ρ') : Run N Q (tSetE i fe ρ) := ⟨rn_setEX ρ' e hl hs h⟩
theorem ru_asX {tg : TgF} {fe : Env → R Unit T} {t : T} (ρ1 : Env) (e : fe ρ = .ok t) (e2 : tg (.ow t) ρ = some ρ1) (h : N ρ1) : Run N Q (tAs tg fe ρ) := ⟨rn_asX ρ1 e e2 h⟩
theorem ru_asEX {tg : TgF} {fe : Env → R Env (AV × Env)} {t : T} {ρ1 : Env} (ρ2 : Env) (e : fe ρ = .ok (.val t, ρ1)) (e2 : tg (.ow t) ρ1 = some ρ2) (h : N ρ2) : Run N Q (tAsE tg fe ρ) := ⟨rn_asEX ρ2 e e2 h⟩
theorem ru_parX {i j : Nat} {fe : Env → R Unit (List T)} {t u : T} {s s' : Sl} (ρ' : Env) (e : fe ρ = .ok [t, u]) (h1 : ρ[i]? = some s) (h2 : ρ[j]? = some s') (hs : (ρ.set i (.ow t)).set j (.ow u) = ρ') (h : N ρ') : Run N Q (tPr i j fe ρ) := ⟨rn_parX ρ' e h1 h2 hs h⟩
theorem ru_augX {i : Nat} {g : T → T → Option T} {fe : Env → R Unit T} {p q : P} {t : T} (ρ' : Env) (h0 : ρ[i]? = some (.ow (.pv p))) (e : fe ρ = .ok t) (hg : g (.pv p) t = some (.pv q)) (hs : ρ.set i (.ow (.pv q)) = ρ') (h : N ρ') : Run N Q (tAugF i g fe ρ) := ⟨rn_augX ρ' h0 e hg hs h⟩
theorem ru_setPX {i : Nat} {fp : Env → R Unit (List P)} {fk fe : Env → R Unit T} {tv t t2 : T} {ks : List P} {p : P} (ρ' : Env) (e1 : fe ρ = .ok tv) (e2 : fp ρ = .ok ks) (e3 : fk ρ = .ok (.pv p)) (e4 : ρ[i]? = some (.ow t)) (e5 : updPath ks (fun node => setKid node p tv) t = some t2) (hs : ρ.set i (.ow t2) = ρ') (h : N ρ') : Run N Q (tSetP i fp fk fe ρ) := ⟨rn_setPX ρ' e1 e2 e3 e4 e5 hs h⟩
theorem ru_setPEX {i : Nat} {fp : Env → R Unit (List P)} {fk : Env → R Unit T} {fe : Env → R Env (AV × Env)} {tv t t2 : T} {ks : List P} {p : P} {ρ1 : Env} (ρ' : Env) (e1 : fe ρ = .ok (.val tv, ρ1)) (e2 : fp ρ1 = .ok ks) (e3 : fk ρ1 = .ok (.pv p)) (e4 : ρ1[i]? = some (.ow t)) (e5 : updPath ks (fun node => setKid node p tv) t = some t2) (hs : ρ1.set i (.ow t2) = ρ') (h : N ρ') : Run N Q (tSetPE i fp fk fe ρ) := ⟨rn_setPEX ρ' e1 e2 e3 e4 e5 hs h⟩
theorem ru_augPX {i : Nat} {g : T → T → Option T} {fp : Env → R Unit (List P)} {fk fe : Env → R Unit T} {tv t t2 : T} {ks : List P} {p : P} (ρ' : Env) (e2 : fp ρ = .ok ks) (e3 : fk ρ = .ok (.pv p)) (e1 : fe ρ = .ok tv) (e4 : ρ[i]? = some (.ow t)) (e5 : updPath ks (augK g p tv) t = some t2) (hs : ρ.set i (.ow t2) = ρ') (h : N ρ') : Run N Q (tAugP i g fp fk fe ρ) := ⟨rn_augPX ρ' e2 e3 e1 e4 e5 hs h⟩
theorem ru_expEX {fe : Env → R Env (AV × Env)} {a : AV} (ρ1 : Env) (e : fe ρ = .ok (a, ρ1)) (h : N ρ1) : Run N Q (tExpE fe ρ) := ⟨rn_expEX ρ1 e h⟩
theorem ru_exp {fe : Env → R Unit T} {t : T} (e : fe ρ = .ok t) (h : N ρ) : Run N Q (tExp fe ρ) := ⟨rn_exp e h⟩
theorem ru_ret {fe : Env → R Unit T} {t : T} (e : fe ρ = .ok t) (h : Q t ρ) : Run N Q (tRetF fe ρ) := ⟨rn_ret e h⟩
theorem ru_retE {fe : Env → R Env (AV × Env)} {t : T} {ρ1 : Env} (e : fe ρ = .ok (.val t, ρ1)) (h : Q t ρ1) : Run N Q (tRetE fe ρ) := ⟨rn_retE e h⟩
theorem ru_retN (h : Q (.pv .non) ρ) : Run N Q ((fun ρ => R.ok (Fl.rt (.pv .non), ρ) : FF) ρ) := ⟨rn_retN h⟩
theorem ru_mid {I : Env → Prop} {o : R Env (Fl × Env)} (h : Run I Q o) (n : ∀ ρ, I ρ → N ρ) : Run N Q o := ⟨rn_mid h.h n⟩
theorem ru_forL {fi : Env → R Unit (List Sl)} {tg : TgF} {b : FF} {xs : List α} {mk : α → Sl} {body : σ → α → Option σ} {s0 s1 : σ} (I : σ → Env → Prop) (hi : fi ρ = .ok (xs.map mk)) (hm : forL xs s0 body = some s1) (h0 : I s0 ρ) (st : ∀ s x s' ρ, I s ρ → body s x = some s' → ∃ ρ1, tg (mk x) ρ = some ρ1 ∧ Run (I s') Q (b ρ1)) (fin : ∀ ρ, I s1 ρ → N ρ) : Run N Q (tForF fi tg b ρ) := ⟨rn_forL I hi hm h0 (fun s x s' ρ a e => (st s x s' ρ a e).elim fun ρ1 h => ⟨ρ1, h.1, h.2.h⟩) fin⟩
theorem ru_forLS {fi : Env → R Env (List Sl × Env)} {tg : TgF} {b : FF} {xs : List α} {mk : α → Sl} {body : σ → α → Option σ} {s0 s1 : σ} {ρ0 : Env} (I : σ → Env → Prop) (hi : fi ρ = .ok (xs.map mk, ρ0)) (hm : forL xs s0 body = some s1) (h0 : I s0 ρ0) (st : ∀ s x s' ρ, I s ρ → body s x = some s' → ∃ ρ1, tg (mk x) ρ = some ρ1 ∧ Run (I s') Q (b ρ1)) (fin : ∀ ρ, I s1 ρ → N ρ) : Run N Q (tForS fi tg b ρ) := ⟨rn_forLS I hi hm h0 (fun s x s' ρ a e => (st s x s' ρ a e).elim fun ρ1 h => ⟨ρ1, h.1, h.2.h⟩) fin⟩
theorem ru_forC {fi : Env → R Unit (List Sl)} {tg : TgF} {b : FF} {xs : List α} {mk : α → Sl} {body : σ → α → Option (Ctl σ ρρ)} {s0 : σ} {o : Ctl σ ρρ} (I : σ → Env → Prop) (Qr : ρρ → T → Env → Prop) (hi : fi ρ = .ok (xs.map mk)) (hm : forC xs s0 body = some o) (h0 : I s0 ρ) (st : ∀ s x o ρ, I s ρ → body s x = some o → ∃ ρ1, tg (mk x) ρ = some ρ1 ∧ Run (fun ρ => ∃ s', o = .nx s' ∧ I s' ρ) (fun t ρ => ∃ r, o = .rt r ∧ Qr r t ρ) (b ρ1)) (fin : ∀ s ρ, o = .nx s → I s ρ → N ρ) (finr : ∀ r t ρ, o = .rt r → Qr r t ρ → Q t ρ) : Run N Q (tForF fi tg b ρ) := ⟨rn_forC I Qr hi hm h0 (fun s x o ρ a e => (st s x o ρ a e).elim fun ρ1 h => ⟨ρ1, h.1, h.2.h⟩) fin finr⟩
theorem ru_forCS {fi : Env → R Env (List Sl × Env)} {tg : TgF} {b : FF} {xs : List α} {mk : α → Sl} {body : σ → α → Option (Ctl σ ρρ)} {s0 : σ} {o : Ctl σ ρρ} {ρ0 : Env} (I : σ → Env → Prop) (Qr : ρρ → T → Env → Prop) (hi : fi ρ = .ok (xs.map mk, ρ0)) (hm : forC xs s0 body = some o) (h0 : I s0 ρ0) (st : ∀ s x o ρ, I s ρ → body s x = some o → ∃ ρ1, tg (mk x) ρ = some ρ1 ∧ Run (fun ρ => ∃ s', o = .nx s' ∧ I s' ρ) (fun t ρ => ∃ r, o = .rt r ∧ Qr r t ρ) (b ρ1)) (fin : ∀ s ρ, o = .nx s → I s ρ → N ρ) (finr : ∀ r t ρ, o = .rt r → Qr r t ρ → Q t ρ) : Run N Q (tForS fi tg b ρ) := ⟨rn_forCS I Qr hi hm h0 (fun s x o ρ a e => (st s x o ρ a e).elim fun ρ1 h => ⟨ρ1, h.1, h.2.h⟩) fin finr⟩
theorem ru_whileL {c : Env → R Unit Bool} {b : FF} {cm : σ → Option Bool} {body : σ → Option σ} (I : σ → Env → Prop) (hc : ∀ s t ρ, I s ρ → cm s = some t → c ρ = .ok t) (st : ∀ s s' ρ, I s ρ → cm s = some true → body s = some s' → Run (I s') Q (b ρ)) (n : Nat) (s s' : σ) (ρ : Env) (e : whileL n s cm body = some s') (h0 : I s ρ) (fin : ∀ ρ, I s' ρ → N ρ) : Run N Q (whileGo c b n ρ) := ⟨rn_whileL I hc (fun s s' ρ a b c => (st s s' ρ a b c).h) n s s' ρ e h0 fin⟩
theorem ru_whileC {c : Env → R Unit Bool} {b : FF} {cm : σ → Option Bool} {body : σ → Option (Ctl σ ρρ)} (I : σ → Env → Prop) (Qr : ρρ → T → Env → Prop) (hc : ∀ s t ρ, I s ρ → cm s = some t → c ρ = .ok t) (st : ∀ s o ρ, I s ρ → cm s = some true → body s = some o → Run (fun ρ => ∃ s', o = .nx s' ∧ I s' ρ) (fun t ρ => ∃ r, o = .rt r ∧ Qr r t ρ) (b ρ)) (n : Nat) (s : σ) (o : Ctl σ ρρ) (ρ : Env) (e : whileC n s cm body = some o) (h0 : I s ρ) (fin : ∀ s ρ, o = .nx s → I s ρ → N ρ) (finr : ∀ r t ρ, o = .rt r → Qr r t ρ → Q t ρ) : Run N Q (whileGo c b n ρ) := ⟨rn_whileC I Qr hc (fun s o ρ a b c => (st s o ρ a b c).h) n s o ρ e h0 fin finr⟩
theorem ru_ctl {fo : R Env (Fl × Env)} {oc : Ctl σ ρρ} (I : σ → Env → Prop) (Qr : ρρ → T → Env → Prop) (h : Run (fun ρ => ∃ s', oc = .nx s' ∧ I s' ρ) (fun t ρ => ∃ r, oc = .rt r ∧ Qr r t ρ) fo) (fin : ∀ s ρ, oc = .nx s → I s ρ → N ρ) (finr : ∀ r t ρ, oc = .rt r → Qr r t ρ → Q t ρ) : Run N Q fo := ⟨rn_ctl I Qr h.h fin finr⟩
theorem ru_fn {io : List Bool} {n : Nat} {b : FF} {args outs : Env} {t : T} (ρ0 : Env) (hl : args.length = io.length) (hρ : args ++ List.replicate (n - io.length) .no = ρ0) (h : Run (fun ρ => T.pv .non = t ∧ maskE io ρ = outs) (fun u ρ => u = t ∧ maskE io ρ = outs) (b ρ0)) : fnOf io n b args = .ok (t, outs) := fn_tie ρ0 hl hρ h.h
theorem ru_fz {i : Nat} {b : FF} (ρ' : Env) (hs : fz i ρ = ρ') (h : Run N Q (b ρ')) : Run N Q (b (fz i ρ)) := by rw [hs]; exact h
end
section
variable {α β γ δ κ ν σ : Type} {ρ : Env}
theorem eqc {ε : Type} {c : α → ε} {f : Env → R Unit ε} {x a : α} (h : x = a) (e : f ρ = .ok (c a)) : f ρ = .ok (c x) := h ▸ e
theorem eqcS {c : α → T} {f : Env → R Env (AV × Env)} {x a : α} {ρ1 : Env} (h : x = a) (e : f ρ = .ok (.val (c a), ρ1)) : f ρ = .ok (.val (c x), ρ1) := h ▸ e
theorem eO {i : Nat} {t : T} (h : ρ[i]? = some (.ow t)) : fVar i ρ = .ok t := by unfold fVar; rw [h]
theorem eV {i : Nat} {t : T} (h : ρ[i]? = some (.vw t)) : fVar i ρ = .ok t := by unfold fVar; rw [h]
theorem eZo {i : Nat} {p : P} (h : ρ[i]? = some (.ow (.pv p))) : fVarZ i ρ = .ok (.pv p) := by unfold fVarZ; rw [h]
theorem eZv {i : Nat} {t : T} (h : ρ[i]? = some (.vw t)) : fVarZ i ρ = .ok t := by unfold fVarZ; rw [h]
theorem eUnw {c : α → P} {f : Env → R Unit T} {x : Option α} {v : α} (e : f ρ = .ok (tv (cO c) x)) (h : x = some v) : f ρ = .ok (tv c v) := by subst h; exact e
theorem eSome {c : α → P} {f : Env → R Unit T} {v : α} (e : f ρ = .ok (tv c v)) : f ρ = .ok (tv (cO c) (some v)) := e
theorem eIf {c : Env → R Unit Bool} {f g : Env → R Unit T} {b : Bool} {t : T} (hc : c ρ = .ok b) (h1 : b = true → f ρ = .ok t) (h2 : b = false → g ρ = .ok t) : fIf c f g ρ = .ok t := by
  unfold fIf
  rw [hc, R.bind_ok]
  cases b with
  | true => exact h1 rfl
  | false => exact h2 rfl
theorem eIfP {cd : α → T} {c : Env → R Unit Bool} {f g : Env → R Unit T} {b : Bool} {x y : α} (hc : c ρ = .ok b) (h1 : f ρ = .ok (cd x)) (h2 : g ρ = .ok (cd y)) : fIf c f g ρ = .ok (cd (if b = true then x else y)) := eIf hc (fun e => by rw [h1, if_pos e]) fun e => by rw [h2, e]; rfl
theorem eAndT {f g : Env → R Unit Bool} {a b : Bool} (h1 : f ρ = .ok a) (h2 : g ρ = .ok b) : fAndT f g ρ = .ok (a && b) := by
  unfold fAndT
  rw [h1, R.bind_ok]
  cases a with
  | true => exact h2
  | false => rfl
theorem eAndTM {f g : Env → R Unit Bool} {a v : Bool} {m : Option Bool} (h1 : f ρ = .ok a) (h2 : ∀ b, a = true → m = some b → g ρ = .ok b) (hv : (if a = true then m else some false) = some v) : fAndT f g ρ = .ok v := by
  unfold fAndT
  rw [h1, R.bind_ok]
  cases a with
  | true => exact h2 v rfl hv
  | false => exact congrArg R.ok (Option.some.inj hv)
theorem eOrT {f g : Env → R Unit Bool} {a b : Bool} (h1 : f ρ = .ok a) (h2 : g ρ = .ok b) : fOrT f g ρ = .ok (a || b) := by
  unfold fOrT
  rw [h1, R.bind_ok]
  cases a with
  | true => rfl
  | false => exact h2
theorem eOrTM {f g : Env → R Unit Bool} {a v : Bool} {m : Option Bool} (h1 : f ρ = .ok a) (h2 : ∀ b, a = false → m = some b → g ρ = .ok b) (hv : (if a = true then some true else m) = some v) : fOrT f g ρ = .ok v := by
  unfold fOrT
  rw [h1, R.bind_ok]
  cases a with
  | true => exact congrArg R.ok (Option.some.inj hv)
  | false => exact h2 v rfl hv
theorem eBv {f : Env → R Unit T} {b : Bool} (h : fB f ρ = .ok b) : f ρ = .ok (tv cB b) := by
  unfold fB at h
  cases e : f ρ with
  | bad => rw [e] at h; cases h
  | exc x r => rw [e] at h; cases h
  | ok t =>
    rw [e, R.bind_ok] at h
    match t, h with
    | .pv (.bl c), h => cases h; rfl
theorem eAndV {f g : Env → R Unit T} {a b : Bool} (h1 : f ρ = .ok (tv cB a)) (h2 : g ρ = .ok (tv cB b)) : fAndV f g ρ = .ok (tv cB (a && b)) := by
  unfold fAndV
  rw [fB_of h1, R.bind_ok]
  cases a with
  | true => exact h2
  | false => rfl
theorem eAndVM {f g : Env → R Unit T} {a v : Bool} {m : Option Bool} (h1 : f ρ = .ok (tv cB a)) (h2 : ∀ b, a = true → m = some b → g ρ = .ok (tv cB b)) (hv : (if a = true then m else some false) = some v) : fAndV f g ρ = .ok (tv cB v) := by
  unfold fAndV
  rw [fB_of h1, R.bind_ok]
  cases a with
  | true => exact h2 v rfl hv
  | false => cases hv; rfl
theorem eOrV {f g : Env → R Unit T} {a b : Bool} (h1 : f ρ = .ok (tv cB a)) (h2 : g ρ = .ok (tv cB b)) : fOrV f g ρ = .ok (tv cB (a || b)) := by
  unfold fOrV
  rw [fB_of h1, R.bind_ok]
  cases a with
  | true => rfl
  | false => exact h2
theorem eOrVM {f g : Env → R Unit T} {a v : Bool} {m : Option Bool} (h1 : f ρ = .ok (tv cB a)) (h2 : ∀ b, a = false → m = some b → g ρ = .ok (tv cB b)) (hv : (if a = true then some true else m) = some v) : fOrV f g ρ = .ok (tv cB v) := by
  unfold fOrV
  rw [fB_of h1, R.bind_ok]
  cases a with
  | true => cases hv; rfl
  | false => exact h2 v rfl hv
theorem eNotV {f : Env → R Unit T} {b : Bool} (h : f ρ = .ok (tv cB b)) : fNotV f ρ = .ok (tv cB (!b)) := by
  unfold fNotV
  rw [fB_of h]; rfl
theorem eChain {g g' : T → T → Option T} {fa fb fc : Env → R Unit T} {t u w : T} {a b : Bool} (h1 : fa ρ = .ok t) (h2 : fb ρ = .ok u) (h3 : fc ρ = .ok w) (e1 : g t u = some (tv cB a)) (e2 : g' u w = some (tv cB b)) : fChain g g' fa fb fc ρ = .ok (tv cB (a && b)) := by
  unfold fChain
  rw [h1, R.bind_ok, h2, R.bind_ok, e1]
  cases a with
  | true =>
    dsimp only
    rw [h3, R.bind_ok, e2]; rfl
  | false => rfl
theorem eChainM {g g' : T → T → Option T} {fa fb fc : Env → R Unit T} {t u : T} {a v : Bool} {m : Option Bool} (h1 : fa ρ = .ok t) (h2 : fb ρ = .ok u) (e1 : g t u = some (tv cB a)) (h3 : ∀ b, a = true → m = some b → ∃ w, fc ρ = .ok w ∧ g' u w = some (tv cB b)) (hv : (if a = true then m else some false) = some v) : fChain g g' fa fb fc ρ = .ok (tv cB v) := by
  unfold fChain
  rw [h1, R.bind_ok, h2, R.bind_ok, e1]
  cases a with
  | true =>
    obtain ⟨w, h4, h5⟩ := h3 v rfl hv
    dsimp only
    rw [h4, R.bind_ok, h5]; rfl
  | false => cases hv; rfl
theorem ifSplit {c : Env → R Unit Bool} {b : Bool} {f g : FF} {N : Env → Prop} {Q : T → Env → Prop} (e : c ρ = .ok b) (h1 : b = true → Rn N Q (f ρ)) (h2 : b = false → Rn N Q (g ρ)) : Rn N Q (tIfQ c f g ρ) := rn_if e h1 h2
theorem eI (i : Int) : fC (.int i) ρ = .ok (tv cI i) := rfl
theorem eS (x : Str) : fC (.str x) ρ = .ok (tv cS x) := rfl
theorem eB (x : Bool) : fC (.bl x) ρ = .ok (tv cB x) := rfl
theorem eU : fC .non ρ = .ok (tv cU ()) := rfl
theorem eNo {c : α → P} : fC .non ρ = .ok (tv (cO c) none) := rfl
theorem eTup {f : Env → R Unit (List T)} {ts : List T} {q : T} (h : f ρ = .ok ts) (hl : ts.length ≤ 1000) (hm : mkT ts = q) : fTup f ρ = .ok q := by rw [fTup_of h hl, hm]
theorem eLst {f : Env → R Unit (List T)} {ts : List T} {q : T} (h : f ρ = .ok ts) (hl : ts.length ≤ 1000) (hm : T.lst ts = q) : fLst f ρ = .ok q := by rw [fLst_ap, h, R.bind_ok, if_pos hl, hm]
theorem eTupS {f : Env → R Env (List AV × Env)} {ρ1 : Env} {as : List AV} {ts : List T} {q : T} (h1 : f ρ = .ok (as, ρ1)) (h2 : ownOf ρ1 as = some ts) (hl : ts.length ≤ 1000) (hm : mkT ts = q) : sTup f ρ = .ok (.val q, ρ1) := by rw [sTup_of h1 h2 hl, hm]
theorem eLstS {f : Env → R Env (List AV × Env)} {ρ1 : Env} {as : List AV} {ts : List T} {q : T} (h1 : f ρ = .ok (as, ρ1)) (h2 : ownOf ρ1 as = some ts) (hl : ts.length ≤ 1000) (hm : T.lst ts = q) : sLst f ρ = .ok (.val q, ρ1) := by rw [sLst_of h1 h2 hl, hm]
theorem eSB {f : Env → R Env (AV × Env)} {ρ1 : Env} {a : AV} {b : Bool} (h : f ρ = .ok (a, ρ1)) (h2 : a.see ρ1 = some (tv cB b)) : sB f ρ = .ok (b, ρ1) := by
  unfold sB
  rw [h, R.bind_ok]
  dsimp only
  rw [h2]
theorem eQS {f : Env → R Unit Bool} {b : Bool} (h : f ρ = .ok b) : fQS f ρ = .ok (b, ρ) := by unfold fQS; rw [h]
theorem eNotS {f : Env → R Env (Bool × Env)} {b : Bool} {ρ1 : Env} (h : f ρ = .ok (b, ρ1)) : sNotT f ρ = .ok (!b, ρ1) := by unfold sNotT; rw [h]; rfl
theorem eSN {g : List T → Option T} {f : Env → R Env (List AV × Env)} {ρ1 : Env} {as : List AV} {ts : List T} {q : T} (h1 : f ρ = .ok (as, ρ1)) (h2 : sees ρ1 as = some ts) (e : g ts = some q) : sN g f ρ = .ok (.val q, ρ1) := by
  unfold sN
  rw [h1, R.bind_ok]
  dsimp only
  rw [h2, Option.bind_some, e]; rfl
theorem eS1 {g : T → Option T} {f : Env → R Env (AV × Env)} {ρ1 : Env} {a : AV} {t q : T} (h1 : f ρ = .ok (a, ρ1)) (h2 : a.see ρ1 = some t) (e : g t = some q) : s1 g f ρ = .ok (.val q, ρ1) := by
  unfold s1
  rw [h1, R.bind_ok]
  dsimp only
  rw [h2, Option.bind_some, e]; rfl
theorem eMethQS {Ty : String} {g : T → List T → Option T} {fo : Env → R Env (AV × Env)} {fas : Env → R Env (List AV × Env)} {ρ1 ρ2 : Env} {a : AV} {as : List AV} {t0 t q : T} {ts : List T} (h1 : fo ρ = .ok (a, ρ1)) (h2 : a.see ρ1 = some t0) (hty : okTy Ty t0 = true) (h3 : fas ρ1 = .ok (as, ρ2)) (h4 : a.see ρ2 = some t) (h5 : sees ρ2 as = some ts) (e : g t ts = some q) : sMethQ Ty g fo fas ρ = .ok (.val q, ρ2) := by
  unfold sMethQ
  rw [h1, R.bind_ok]
  dsimp only
  rw [h2]
  dsimp only
  rw [if_pos hty, h3, R.bind_ok]
  dsimp only
  rw [h4, Option.bind_some, h5, Option.bind_some, e]; rfl
theorem eMethQ {Ty : String} {g : T → List T → Option T} {fo : Env → R Unit T} {fas : Env → R Unit (List T)} {t q : T} {ts : List T} (h1 : fo ρ = .ok t) (hty : okTy Ty t = true) (h3 : fas ρ = .ok ts) (e : g t ts = some q) : fMethQ Ty g fo fas ρ = .ok q := by
  unfold fMethQ
  rw [h1, R.bind_ok, if_pos hty, h3, R.bind_ok, e]; rfl
theorem eIfS {c : Env → R Env (Bool × Env)} {f g : Env → R Env (AV × Env)} {b : Bool} {ρ1 : Env} {o : R Env (AV × Env)} (hc : c ρ = .ok (b, ρ1)) (h1 : b = true → f ρ1 = o) (h2 : b = false → g ρ1 = o) : sIf c f g ρ = o := by
  unfold sIf
  rw [hc, R.bind_ok]
  cases b with
  | true => exact h1 rfl
  | false => exact h2 rfl
theorem eDp {fk fv : Env → R Unit T} {fr : Env → R Unit (List P × List T)} {p : P} {v : T} {r : List P × List T} (h1 : fk ρ = .ok (.pv p)) (hk : (keyOf p).isSome = true) (h2 : fv ρ = .ok v) (h3 : fr ρ = .ok r) : dpCons fk fv fr ρ = .ok (p :: r.1, v :: r.2) := by
  unfold dpCons
  rw [h1, R.bind_ok]
  dsimp only
  rw [if_pos hk, h2, R.bind_ok, h3]; rfl
theorem eDisp {f : Env → R Unit (List P × List T)} {r : List P × List T} {q : T} (h : f ρ = .ok r) (hn : nodupB r.1 = true) (hl : r.1.length ≤ 15) (hq : T.dct false r.1 r.2 = q := by rfl) : fDisp f ρ = .ok q := by
  unfold fDisp
  rw [h, R.bind_ok, if_pos ⟨hn, hl⟩, hq]
theorem gMul_g {a b v : Int} (h : mulG a b = some v) : gMul (tv cI a) (tv cI b) = some (tv cI v) := by
  unfold mulG at h
  rw [gMul_ii]
  split at h
  · rename_i e; rw [if_pos e]; cases h; rfl
  · cases h
theorem gMul0_g {a b v : Int} (h : mul0G a b = some v) : gMul0 (tv cI a) (tv cI b) = some (tv cI v) := by
  unfold mul0G at h
  show (if cMul0 a b = true then some (T.pv (.int (a * b))) else none) = _
  split at h
  · rename_i e; rw [if_pos e]; cases h; rfl
  · cases h
theorem gMul_r {a b : Int} (h : -(2 ^ 64) < b ∧ b < 2 ^ 64 := by decide) : gMul (tv cI a) (tv cI b) = some (tv cI (a * b)) := by rw [gMul_ii, if_pos (cMul_r h.1 h.2)]
theorem gMul_l {a b : Int} (h : -(2 ^ 64) < a ∧ a < 2 ^ 64 := by decide) : gMul (tv cI a) (tv cI b) = some (tv cI (a * b)) := by rw [gMul_ii, if_pos (cMul_l h.1 h.2)]
theorem gDiv_g {a b v : Int} (h : divG a b = some v) : gDiv (tv cI a) (tv cI b) = some (tv cI v) := by
  unfold divG at h
  rw [gDiv_ii]
  split at h
  · rename_i e; rw [if_pos e]; cases h; rfl
  · cases h
theorem gDiv_r {a b : Int} (h : 0 < b ∧ b < 2 ^ 64 := by decide) : gDiv (tv cI a) (tv cI b) = some (tv cI (a / b)) := by rw [gDiv_ii, if_pos (cDiv_lit h.1 h.2)]
theorem gMod_g {a b v : Int} (h : modG a b = some v) : gMod (tv cI a) (tv cI b) = some (tv cI v) := by
  unfold modG at h
  rw [gMod_ii]
  split at h
  · rename_i e; rw [if_pos e]; cases h; rfl
  · cases h
theorem gMod_r {a b : Int} (h : 0 < b := by decide) : gMod (tv cI a) (tv cI b) = some (tv cI (a % b)) := by rw [gMod_ii, if_pos h]
theorem gPow_g {a b v : Int} (h : powG a b = some v) : gPow (tv cI a) (tv cI b) = some (tv cI v) := by
  unfold powG at h
  rw [gPow_ii]
  split at h
  · rename_i e; rw [if_pos e]; cases h; rfl
  · cases h
theorem gPow_c {a b : Int} (h : cPow a b = true := by decide +kernel) : gPow (tv cI a) (tv cI b) = some (tv cI (a ^ b.toNat)) := by rw [gPow_ii, if_pos h]
theorem gShl_g {a b v : Int} (h : shlG a b = some v) : gShl (tv cI a) (tv cI b) = some (tv cI v) := by
  unfold shlG at h
  show (if cPow a b = true then some (T.pv (.int (a * 2 ^ b.toNat))) else none) = _
  split at h
  · rename_i e; rw [if_pos e]; cases h; rfl
  · cases h
theorem gShr_g {a b v : Int} (h : shrG a b = some v) : gShr (tv cI a) (tv cI b) = some (tv cI v) := by
  unfold shrG at h
  show (if decide (0 ≤ b) = true then some (T.pv (.int (a / 2 ^ b.toNat))) else none) = _
  split at h
  · rename_i e; rw [if_pos (decide_eq_true e)]; cases h; rfl
  · cases h
theorem gLen_tL {c : α → T} {l : List α} : gLen [tL c l] = some (tv cI (lenI l)) := by
  show some (T.pv (P.int ((l.map c).length : Int))) = _
  rw [List.length_map]; rfl
theorem gLen_tF {c : α → T} {l : List α} : gLen [tF c l] = some (tv cI (lenI l)) := by
  show some (T.pv (P.int ((l.map c).length : Int))) = _
  rw [List.length_map]; rfl
theorem gLen_cT {c : α → P} {l : List α} : gLen [tv (cT c) l] = some (tv cI (lenI l)) := by
  show some (T.pv (P.int (((l.map c).map T.pv).length : Int))) = _
  rw [List.length_map, List.length_map]; rfl
theorem gLen_tD {k : κ → P} {c : ν → T} {d : List (κ × ν)} : gLen [tD k c d] = some (tv cI (lenI d)) := by
  show some (T.pv (P.int ((d.map fun e => k e.1).length : Int))) = _
  rw [List.length_map]; rfl
theorem atI_map {f : α → β} {l : List α} {i : Int} : atI (l.map f) i = (atI l i).map f := by
  unfold atI
  rw [List.length_map]
  cases ixN l.length i with
  | none => rfl
  | some j => exact List.getElem?_map
theorem gIx_tL {c : α → T} {l : List α} {i : Int} {v : α} (h : atI l i = some v) : gIx (tL c l) (tv cI i) = some (c v) := by
  show atI (l.map c) i = _
  rw [atI_map, h]; rfl
theorem gIx_tF {c : α → T} {l : List α} {i : Int} {v : α} (h : atI l i = some v) : gIx (tF c l) (tv cI i) = some (c v) := by
  show atI (l.map c) i = _
  rw [atI_map, h]; rfl
theorem gIx_cT {c : α → P} {l : List α} {i : Int} {v : α} (h : atI l i = some v) : gIx (tv (cT c) l) (tv cI i) = some (tv c v) := by
  show (atI (l.map c) i).map T.pv = _
  rw [atI_map, h]; rfl
theorem gIxP_of {t u : T} {p : P} (h : gIx t u = some (.pv p)) : gIxP t u = some (.pv p) := by unfold gIxP; rw [h]; rfl
theorem cutP_map {f : α → β} {l : List α} {lo hi : Option Int} : cutP (l.map f) lo hi = (cutP l lo hi).map f := by
  unfold cutP
  rw [List.length_map, ← List.map_drop, ← List.map_take]
theorem gSl_tL {c : α → P} {l : List α} {lo hi : Option Int} : gSl (tL (tv c) l) lo hi = some (tL (tv c) (cutP l lo hi)) := by
  rw [tL_tv]
  show (pvs ((l.map c).map .pv)).map _ = _
  rw [pvs_map, Option.map_some, tL_tv, cutP_map]
theorem gSl_tF {c : α → P} {l : List α} {lo hi : Option Int} : gSl (tF (tv c) l) lo hi = some (tL (tv c) (cutP l lo hi)) := gSl_tL (c := c)
theorem gSl_cT {c : α → P} {l : List α} {lo hi : Option Int} : gSl (tv (cT c) l) lo hi = some (tv (cT c) (cutP l lo hi)) := by
  show some (T.pv (.tup (cutP (l.map c) lo hi))) = _
  rw [cutP_map]; rfl
theorem eSl {f : Env → R Unit T} {l h : Env → R Unit (Option Int)} {t q : T} {lo hi : Option Int} (e : f ρ = .ok t) (e1 : l ρ = .ok lo) (e2 : h ρ = .ok hi) (g : gSl t lo hi = some q) : fSl f l h ρ = .ok q := by
  unfold fSl
  rw [e, R.bind_ok, e1, R.bind_ok, e2, R.bind_ok, g]; rfl
theorem ePs {f : Env → R Unit T} {i : Int} (e : f ρ = .ok (tv cI i)) : pSome f ρ = .ok (some i) := by
  unfold pSome
  rw [e]; rfl
theorem ePn : pNone ρ = .ok none := rfl
theorem gAdd_tL {c : α → P} {l m v : List α} (h : catG l m = some v) : gAdd (tL (tv c) l) (tL (tv c) m) = some (tL (tv c) v) := by
  unfold catG at h
  split at h
  · rename_i e
    cases h
    rw [tL_tv, tL_tv, tL_tv]
    show ((pvs ((l.map c).map .pv)).bind fun ps => (pvs ((m.map c).map .pv)).bind fun qs => if ps.length + qs.length ≤ 16777216 then some (T.lst ((ps ++ qs).map .pv)) else none) = _
    rw [pvs_map, pvs_map, Option.bind_some, Option.bind_some, List.length_map, List.length_map, if_pos e, ← List.map_append]
  · cases h
theorem gAdd_cT {c : α → P} {l m v : List α} (h : catG l m = some v) : gAdd (tv (cT c) l) (tv (cT c) m) = some (tv (cT c) v) := by
  unfold catG at h
  split at h
  · rename_i e
    cases h
    show (if (l.map c).length + (m.map c).length ≤ 16777216 then some (T.pv (.tup (l.map c ++ m.map c))) else none) = _
    rw [List.length_map, List.length_map, if_pos e, ← List.map_append]; rfl
  · cases h
theorem gAdd_S {x y v : Str} (h : catS x y = some v) : gAdd (tv cS x) (tv cS y) = some (tv cS v) := by
  unfold catS at h
  split at h
  · rename_i e
    cases h
    show (if x.length + y.length ≤ 16777216 then some (T.pv (.str (x ++ y))) else none) = _
    rw [if_pos e]
  · cases h
theorem rep_map {f : α → β} {l : List α} {k : Nat} : (List.replicate k (l.map f)).flatten = ((List.replicate k l).flatten).map f := by
  rw [List.map_flatten, List.map_replicate]
theorem gMul_tL {c : α → P} {l v : List α} {k : Int} (h : repG l k = some v) : gMul (tL (tv c) l) (tv cI k) = some (tL (tv c) v) := by
  unfold repG at h
  split at h
  · rename_i e
    cases h
    rw [tL_tv, tL_tv]
    show ((pvs ((l.map c).map .pv)).bind fun ps => if -(2 ^ 63) ≤ k ∧ k < 2 ^ 63 ∧ ps.length * k.toNat ≤ 16777216 then some (T.lst ((List.replicate k.toNat ps).flatten.map .pv)) else none) = _
    rw [pvs_map, Option.bind_some, List.length_map, if_pos e, rep_map]
  · cases h
theorem gSum_tL {l : List Int} : gSum [tL (tv cI) l] = some (tv cI l.sum) := by
  show ((pItL (tL (tv cI) l)).bind intsP).map _ = _
  rw [pItL_tv, Option.bind_some, intsP_map]; rfl
theorem gSum_tF {l : List Int} : gSum [tF (tv cI) l] = some (tv cI l.sum) := gSum_tL
theorem gAll_tL {l : List Bool} : gAll [tL (tv cB) l] = some (tv cB (l.all id)) := by
  show ((pItL (tL (tv cB) l)).bind blsP).map _ = _
  rw [pItL_tv, Option.bind_some, blsP_map]; rfl
theorem gTupV_tL {c : α → P} {l : List α} : gTupV [tL (tv c) l] = some (tv (cT c) l) := by
  show (match pItL (tL (tv c) l) with
    | some ps => some (T.pv (.tup ps))
    | none => _) = _
  rw [pItL_tv]; rfl
theorem gTupV_tF {c : α → P} {l : List α} : gTupV [tF (tv c) l] = some (tv (cT c) l) := gTupV_tL (c := c)
theorem gTupV_cT {c : α → P} {l : List α} : gTupV [tv (cT c) l] = some (tv (cT c) l) := rfl
theorem gLstV_tL {c : α → P} {l : List α} : gLstV [tL (tv c) l] = some (tL (tv c) l) := by
  show (match pItL (tL (tv c) l) with
    | some ps => some (T.lst (ps.map .pv))
    | none => _) = _
  rw [pItL_tv, tL_tv]
theorem gLstV_tF {c : α → P} {l : List α} : gLstV [tF (tv c) l] = some (tL (tv c) l) := gLstV_tL (c := c)
theorem gLstV_cT {c : α → P} {l : List α} : gLstV [tv (cT c) l] = some (tL (tv c) l) := by
  rw [tL_tv]; rfl
theorem gLstV_2 {c : α → P} {x : α × α} : gLstV [tv (c2 c c) x] = some (tL (tv c) [x.1, x.2]) := rfl
theorem gTupO_tL {c : α → P} {l : List α} : gTupO (tL (tv c) l) = some (tv (cT c) l) := by
  rw [tL_tv]
  show some (mkT _) = _
  rw [mkT_pv]; rfl
theorem gTupO_cT {c : α → P} {l : List α} : gTupO (tv (cT c) l) = some (tv (cT c) l) := rfl
theorem gLstO_tL {c : α → T} {l : List α} : gLstO (tL c l) = some (tL c l) := rfl
theorem gLstO_cT {c : α → P} {l : List α} : gLstO (tv (cT c) l) = some (tL (tv c) l) := by
  rw [tL_tv]; rfl
theorem rgP_c (a b : Int) : rgP a b = (rngL a b).map cI := by
  unfold rgP rngL
  rw [List.map_map]; rfl
theorem eLstRg1 {f : Env → R Unit T} {n : Int} {v : List Int} (h : rngLG 0 n = some v) (e : f ρ = .ok (tv cI n)) : lstRg1 f ρ = .ok (tL (tv cI) v) := by
  unfold rngLG at h
  split at h
  · rename_i g
    cases h
    unfold lstRg1
    rw [e, R.bind_ok]
    dsimp only
    rw [if_pos g, rgP_c, tL_tv]
  · cases h
theorem eLstRg2 {f f' : Env → R Unit T} {a n : Int} {v : List Int} (h : rngLG a n = some v) (e : f ρ = .ok (tv cI a)) (e' : f' ρ = .ok (tv cI n)) : lstRg2 f f' ρ = .ok (tL (tv cI) v) := by
  unfold rngLG at h
  split at h
  · rename_i g
    cases h
    unfold lstRg2
    rw [e, R.bind_ok, e', R.bind_ok]
    dsimp only
    rw [if_pos g, rgP_c, tL_tv]
  · cases h
theorem eTupRg1 {f : Env → R Unit T} {n : Int} {v : List Int} (h : rngLG 0 n = some v) (e : f ρ = .ok (tv cI n)) : tupRg1 f ρ = .ok (tv (cT cI) v) := by
  unfold rngLG at h
  split at h
  · rename_i g
    cases h
    unfold tupRg1
    rw [e, R.bind_ok]
    dsimp only
    rw [if_pos g, rgP_c]; rfl
  · cases h
theorem eTupRg2 {f f' : Env → R Unit T} {a n : Int} {v : List Int} (h : rngLG a n = some v) (e : f ρ = .ok (tv cI a)) (e' : f' ρ = .ok (tv cI n)) : tupRg2 f f' ρ = .ok (tv (cT cI) v) := by
  unfold rngLG at h
  split at h
  · rename_i g
    cases h
    unfold tupRg2
    rw [e, R.bind_ok, e', R.bind_ok]
    dsimp only
    rw [if_pos g, rgP_c]; rfl
  · cases h
theorem seq_tL {c : α → T} {mk : α → Sl} {l : List α} (hm : ∀ x, argSl (c x) = mk x) : seqSl (tL c l) = some (l.map mk) := by
  show some ((l.map c).map argSl) = _
  rw [List.map_map, show argSl ∘ c = mk from funext hm]
theorem seq_tF {c : α → T} {mk : α → Sl} {l : List α} (hm : ∀ x, argSl (c x) = mk x) : seqSl (tF c l) = some (l.map mk) := seq_tL (c := c) hm
theorem seq_cT {c : α → P} {l : List α} : seqSl (tv (cT c) l) = some (l.map fun x => .ow (tv c x)) := by
  show some ((l.map c).map fun p => Sl.ow (.pv p)) = _
  rw [List.map_map]; rfl
theorem seq_2 {c : α → P} {x : α × α} : seqSl (tv (c2 c c) x) = some ([x.1, x.2].map fun x => .ow (tv c x)) := rfl
theorem eSeq {f : Env → R Unit T} {t : T} {mk : α → Sl} {xs : List α} (h : f ρ = .ok t) (e : seqSl t = some (xs.map mk)) : iSeqF f ρ = .ok (xs.map mk) := iSeqF_of h e
theorem rngSl_c (a b : Int) : rngSl a (b - a).toNat = (rngL a b).map fun i => .ow (tv cI i) := by
  unfold rngSl rngL
  rw [List.map_map]; rfl
theorem eRng1 {f : Env → R Unit (List T)} {n : Int} {v : List Int} (h : rng1G n = some v) (e : f ρ = .ok [tv cI n]) : iLst rng1 f ρ = .ok (v.map fun i => .ow (tv cI i)) := by
  unfold rng1G at h
  split at h
  · rename_i g
    cases h
    unfold iLst
    rw [e, R.bind_ok]
    show R.of (if -16777216 ≤ n ∧ n ≤ 16777216 then some (rngSl 0 n.toNat) else none) = _
    rw [if_pos g]
    have := rngSl_c 0 n
    rw [Int.sub_zero] at this
    rw [this]; rfl
  · cases h
theorem eRng2 {f : Env → R Unit (List T)} {a n : Int} {v : List Int} (h : rng2G a n = some v) (e : f ρ = .ok [tv cI a, tv cI n]) : iLst rng2 f ρ = .ok (v.map fun i => .ow (tv cI i)) := by
  unfold rng2G at h
  split at h
  · rename_i g
    cases h
    unfold iLst
    rw [e, R.bind_ok]
    show R.of (if -8388608 ≤ a ∧ a ≤ 8388608 ∧ -8388608 ≤ n ∧ n ≤ 8388608 then some (rngSl a (n - a).toNat) else none) = _
    rw [if_pos g, rngSl_c]; rfl
  · cases h
theorem eRng1E {f : Env → R Env (List AV × Env)} {as : List AV} {ρ1 : Env} {n : Int} {v : List Int} (h : rng1G n = some v) (e : f ρ = .ok (as, ρ1)) (es : sees ρ1 as = some [tv cI n]) : iLstE rng1 f ρ = .ok (v.map fun i => .ow (tv cI i), ρ1) := by
  unfold rng1G at h
  split at h
  · rename_i g
    cases h
    unfold iLstE
    rw [e, R.bind_ok]
    dsimp only
    rw [es, Option.bind_some]
    show R.of ((if -16777216 ≤ n ∧ n ≤ 16777216 then some (rngSl 0 n.toNat) else none).map _) = _
    rw [if_pos g]
    have := rngSl_c 0 n
    rw [Int.sub_zero] at this
    rw [this]; rfl
  · cases h
theorem eRng2E {f : Env → R Env (List AV × Env)} {as : List AV} {ρ1 : Env} {a n : Int} {v : List Int} (h : rng2G a n = some v) (e : f ρ = .ok (as, ρ1)) (es : sees ρ1 as = some [tv cI a, tv cI n]) : iLstE rng2 f ρ = .ok (v.map fun i => .ow (tv cI i), ρ1) := by
  unfold rng2G at h
  split at h
  · rename_i g
    cases h
    unfold iLstE
    rw [e, R.bind_ok]
    dsimp only
    rw [es, Option.bind_some]
    show R.of ((if -8388608 ≤ a ∧ a ≤ 8388608 ∧ -8388608 ≤ n ∧ n ≤ 8388608 then some (rngSl a (n - a).toNat) else none).map _) = _
    rw [if_pos g, rngSl_c]; rfl
  · cases h
theorem eSeqE {f : Env → R Env (AV × Env)} {t : T} {mk : α → Sl} {xs : List α} {ρ1 : Env} (h : f ρ = .ok (.val t, ρ1)) (e : seqSl t = some (xs.map mk)) : iSeqE f ρ = .ok (xs.map mk, ρ1) := by
  unfold iSeqE
  rw [h, R.bind_ok]
  dsimp only
  rw [e]; rfl
def enumL (i : Nat) : List α → List (Int × α)
  | [] => []
  | x :: l => ((i : Int), x) :: enumL (i + 1) l
theorem enum_c {c : α → T} {mk : Int × α → Sl} (hm : ∀ (i : Nat) x, enSl i (c x) = mk ((i : Int), x)) : ∀ (l : List α) (i : Nat), enumFrom i (l.map c) = (enumL i l).map mk
  | [], _ => rfl
  | x :: l, i => by
    show enSl i (c x) :: enumFrom (i + 1) (l.map c) = mk ((i : Int), x) :: (enumL (i + 1) l).map mk
    rw [hm, enum_c hm l (i + 1)]
theorem eEnum {f : Env → R Unit T} {c : α → T} {mk : Int × α → Sl} {l : List α} (h : f ρ = .ok (tL c l)) (hm : ∀ (i : Nat) x, enSl i (c x) = mk ((i : Int), x)) : iEnumF f ρ = .ok ((enumL 0 l).map mk) := by
  unfold iEnumF
  rw [h, R.bind_ok]
  show R.ok (enumFrom 0 (l.map c)) = _
  rw [enum_c hm]
theorem eLc {vs : List Nat} {fi : Env → R Unit (List Sl)} {g : TgF} {fc : Env → R Unit Bool} {fe : Env → R Unit T} {mk : α → Sl} {p : α → Option Bool} {f : α → Option β} (ρ1 : Env) (c : β → T) {xs : List α} {ys : List β} (hi : fi ρ = .ok (xs.map mk)) (hρ : wipeE (viewE ρ) vs = ρ1) (hm : compM xs p f = some ys) (st : ∀ x, ∃ ρ2, g (mk x) ρ1 = some ρ2 ∧ (∀ b, p x = some b → fc ρ2 = .ok b) ∧ ∀ y, p x = some true → f x = some y → fe ρ2 = .ok (c y)) : fLc vs fi g fc fe ρ = .ok (tL c ys) := by
  refine fLc_of hi ?_
  rw [hρ]
  clear hi hρ
  induction xs generalizing ys with
  | nil => cases hm; rfl
  | cons x xs ih =>
    obtain ⟨b, e1, e2⟩ := obd hm
    obtain ⟨ρ2, g1, g2, g3⟩ := st x
    rw [List.map_cons]
    unfold lcGo
    rw [g1]
    dsimp only
    rw [g2 b e1]
    cases b with
    | true =>
      rw [if_pos rfl] at e2
      obtain ⟨y, e3, e4⟩ := obd e2
      obtain ⟨zs, e5, e6⟩ := obd e4
      cases e6
      dsimp only
      rw [g3 y e1 e3]
      dsimp only
      rw [ih e5, R.bind_ok]; rfl
    | false => exact ih e2
theorem compM_map {l : List α} {f : α → β} : compM l yesM (fun x => some (f x)) = some (l.map f) := by
  induction l with
  | nil => rfl
  | cons x l ih =>
    show (some true).bind _ = _
    rw [Option.bind_some, if_pos rfl, Option.bind_some, ih]; rfl
theorem compM_fm {l : List α} {p : α → Bool} {f : α → β} : compM l (fun x => some (p x)) (fun x => some (f x)) = some ((l.filter p).map f) := by
  induction l with
  | nil => rfl
  | cons x l ih =>
    show (some (p x)).bind _ = _
    rw [Option.bind_some]
    cases e : p x with
    | true => rw [if_pos rfl, Option.bind_some, ih, List.filter_cons_of_pos e]; rfl
    | false => rw [if_neg Bool.false_ne_true, ih, List.filter_cons_of_neg (by rw [e]; exact Bool.false_ne_true)]
theorem eLcM {vs : List Nat} {fi : Env → R Unit (List Sl)} {g : TgF} {fe : Env → R Unit T} {mk : α → Sl} {f : α → β} (ρ1 : Env) (c : β → T) {xs : List α} (hi : fi ρ = .ok (xs.map mk)) (hρ : wipeE (viewE ρ) vs = ρ1) (st : ∀ x, ∃ ρ2, g (mk x) ρ1 = some ρ2 ∧ fe ρ2 = .ok (c (f x))) : fLc vs fi g fYes fe ρ = .ok (tL c (xs.map f)) :=
  eLc ρ1 c hi hρ compM_map fun x => by
    obtain ⟨ρ2, e1, e2⟩ := st x
    exact ⟨ρ2, e1, fun b e => by cases e; rfl, fun y _ e => by cases e; exact e2⟩
theorem eLcF {vs : List Nat} {fi : Env → R Unit (List Sl)} {g : TgF} {fc : Env → R Unit Bool} {fe : Env → R Unit T} {mk : α → Sl} {p : α → Bool} {f : α → β} (ρ1 : Env) (c : β → T) {xs : List α} (hi : fi ρ = .ok (xs.map mk)) (hρ : wipeE (viewE ρ) vs = ρ1) (st : ∀ x, ∃ ρ2, g (mk x) ρ1 = some ρ2 ∧ fc ρ2 = .ok (p x) ∧ fe ρ2 = .ok (c (f x))) : fLc vs fi g fc fe ρ = .ok (tL c ((xs.filter p).map f)) :=
  eLc ρ1 c hi hρ compM_fm fun x => by
    obtain ⟨ρ2, e1, e2, e3⟩ := st x
    exact ⟨ρ2, e1, fun b e => by cases e; exact e2, fun y _ e => by cases e; exact e3⟩
theorem eLcS {vs : List Nat} {fi : Env → R Env (List Sl × Env)} {g : TgF} {fe : Env → R Env (AV × Env)} {mk : α → Sl} {f : σ → α → Option (β × σ)} (I : σ → Env) (c : β → T) {xs : List α} {ys : List β} {s0 s1 : σ} {ρ0 : Env} (hi : fi ρ = .ok (xs.map mk, ρ0)) (hp : ∀ x, ∃ p, mk x = .ow (.pv p)) (h0 : wipeE ρ0 vs = I s0) (hm : compS xs s0 f = some (ys, s1)) (st : ∀ s x y s', f s x = some (y, s') → ∃ ρ1 ρ2, g (mk x) (I s) = some ρ1 ∧ fe ρ1 = .ok (.val (c y), ρ2) ∧ wipeE ρ2 vs = I s') : sLc vs fi g fYes fe ρ = .ok (.val (tL c ys), I s1) := by
  refine sLc_of hi ?_
  rw [h0]
  clear hi h0
  induction xs generalizing s0 ys with
  | nil => cases hm; rfl
  | cons x xs ih =>
    obtain ⟨⟨y, s2⟩, e1, e2⟩ := obd hm
    obtain ⟨⟨zs, s3⟩, e3, e4⟩ := obd e2
    cases e4
    obtain ⟨ρ1, ρ2, g1, g2, g3⟩ := st _ _ _ _ e1
    obtain ⟨p, hp1⟩ := hp x
    rw [List.map_cons, hp1]
    rw [hp1] at g1
    unfold lcGoE
    rw [g1]
    show (match fe ρ1 with
      | .ok (.val t, ρ2) => (lcGoE g fYes fe vs (xs.map mk) (wipeE ρ2 vs)).bind fun (ts, ρ3) => R.ok (t :: ts, ρ3)
      | _ => .bad) = _
    rw [g2]
    dsimp only
    rw [g3, ih e3, R.bind_ok]; rfl
theorem eCall {g : Fn} {f : Env → R Unit (List T)} {ts : List T} {t : T} {args ρ' : Env} (h : f ρ = .ok ts) (ha : ts.map argSl = args) (e : g args = .ok (t, ρ')) : fCall g f ρ = .ok t := fCall_of h (by rw [ha]; exact e)
theorem eCallS {g : Fn} {io : List Bool} {fa : Env → R Env (List AV × Env)} {as : List AV} {args ss ρ1 ρ2 : Env} {t : T} (ρ3 : Env) (h : fa ρ = .ok (as, ρ1)) (e2 : takeA io as ρ1 = some (args, ρ2)) (e3 : g args = .ok (t, ss)) (e4 : giveB io as ss ρ2 = ρ3) : sCall g io fa ρ = .ok (.val t, ρ3) := by
  unfold sCall
  rw [h, R.bind_ok]
  dsimp only
  rw [e2]
  dsimp only
  rw [e3]
  dsimp only
  rw [e4]
theorem eLate {i : Nat} {t : T} (h : ρ[i]? = some (.ow t)) : fLateN i ρ = .ok (.late i, ρ) := by unfold fLateN; rw [h]
theorem eLateV {i : Nat} {t : T} (h : ρ[i]? = some (.vw t)) : fLateN i ρ = .ok (.late i, ρ) := by unfold fLateN; rw [h]
theorem eMv {i : Nat} {t : T} (ρ1 : Env) (h : ρ[i]? = some (.ow t)) (hs : ρ.set i .no = ρ1) : fMv i ρ = .ok (.val t, ρ1) := by unfold fMv; rw [h]; dsimp only; rw [hs]
theorem eMethS {Ty : String} {i : Nat} {mu : T → List T → Option (T × T)} {fp : Env → R Unit (List P)} {fas : Env → R Unit (List T)} {t node node' q t2 : T} {ks : List P} {ts : List T} (ρ1 : Env) (h1 : fp ρ = .ok ks) (h0 : ρ[i]? = some (.ow t)) (h2 : lookPath ks t = some node) (hty : isTy Ty node = true) (h3 : fas ρ = .ok ts) (h4 : mu node ts = some (node', q)) (h5 : updPath ks (fun _ => some node') t = some t2) (hs : ρ.set i (.ow t2) = ρ1) : sMeth Ty i mu fp fas ρ = .ok (.val q, ρ1) := by
  rw [sMeth_run h1 h0 h2 hty h3 h4 h5, hs]
theorem eMethN {Ty : String} {i : Nat} {mu : T → List T → Option (T × T)} {fas : Env → R Env (List AV × Env)} {ρ1 : Env} {t0 t t2 q : T} {as : List AV} {ts : List T} (ρ2 : Env) (h0 : ρ[i]? = some (.ow t0)) (hty : isTy Ty t0 = true) (h1 : fas ρ = .ok (as, ρ1)) (h2 : ρ1[i]? = some (.ow t)) (h3 : valsOf as = some ts) (h4 : mu t ts = some (t2, q)) (hs : ρ1.set i (.ow t2) = ρ2) : sMethN Ty i mu fas ρ = .ok (.val q, ρ2) := by
  rw [sMethN_run h0 hty h1 h2 h3 h4, hs]
theorem muAppend_c {c : α → T} {l v : List α} {x : α} (h : appG l x = some v) : muAppend (tL c l) [c x] = some (tL c v, .pv .non) := by
  unfold appG at h
  split at h
  · rename_i e
    cases h
    show (if (l.map c).length < 16777216 then some (T.lst (l.map c ++ [c x]), T.pv .non) else none) = _
    rw [List.length_map, if_pos e]
    unfold tL
    rw [List.map_append]; rfl
  · cases h
theorem muExtend_c {c : α → P} {l m v : List α} (h : extG l m = some v) : muExtend (tL (tv c) l) [tL (tv c) m] = some (tL (tv c) v, .pv .non) := by
  unfold extG at h
  split at h
  · rename_i e
    cases h
    rw [tL_tv, tL_tv, tL_tv]
    show ((pvs ((m.map c).map .pv)).bind fun ps => if ((l.map c).map T.pv).length + ps.length ≤ 16777216 then some (T.lst ((l.map c).map T.pv ++ ps.map .pv), T.pv .non) else none) = _
    rw [pvs_map, Option.bind_some, List.length_map, List.length_map, List.length_map, if_pos e, List.map_append, List.map_append]
  · cases h
theorem popAt_c {c : α → T} {l l' : List α} {j : Nat} {x : α} (h : ((l[j]?).map fun t => (l.eraseIdx j, t)) = some (l', x)) : muPopAt (l.map c) j = some (tL c l', c x) := by
  unfold muPopAt
  rw [List.getElem?_map]
  cases e : l[j]? with
  | none => rw [e] at h; cases h
  | some y =>
    rw [e] at h
    cases h
    show some (T.lst ((l.map c).eraseIdx j), c x) = _
    rw [map_erase]; rfl
theorem muPop_c {c : α → T} {l l' : List α} {x : α} (h : popE l = some (l', x)) : muPop (tL c l) [] = some (tL c l', c x) := by
  show muPopAt (l.map c) ((l.map c).length - 1) = _
  rw [List.length_map]
  exact popAt_c h
theorem muPopI_c {c : α → T} {l l' : List α} {i : Int} {x : α} (h : popI l i = some (l', x)) : muPopI (tL c l) [tv cI i] = some (tL c l', c x) := by
  unfold popI at h
  split at h
  · rename_i e
    obtain ⟨j, e1, e2⟩ := obd h
    show (if -(2 ^ 62) ≤ i ∧ i < 2 ^ 62 then (ixN (l.map c).length i).bind fun j => muPopAt (l.map c) j else none) = _
    rw [if_pos e, List.length_map, e1]
    exact popAt_c e2
  · cases h
theorem muInsert_c {c : α → P} {l v : List α} {i : Int} {x : α} (h : insG l i x = some v) : muInsert (tL (tv c) l) [tv cI i, tv c x] = some (tL (tv c) v, .pv .non) := by
  unfold insG at h
  split at h
  · rename_i e
    cases h
    show (if (l.map (tv c)).length < 16777216 ∧ 0 ≤ i ∧ i < 16777216 then some (T.lst ((l.map (tv c)).take i.toNat ++ [tv c x] ++ (l.map (tv c)).drop i.toNat), T.pv .non) else none) = _
    rw [List.length_map, if_pos (show l.length < 16777216 ∧ 0 ≤ i ∧ i < 16777216 from e)]
    unfold tL
    rw [List.map_append, List.map_append, List.map_take, List.map_drop]; rfl
  · cases h
theorem dataPlace_c {c : α → T} [CT c] [DecidableEq α] {x : α} : ∀ l : List α, x ∈ l → ∃ j, SeqAt.dataPlace (T.toDs (l.map c)) (c x).toD = some j ∧ l[j]? = some x ∧ l.eraseIdx j = l.erase x
  | [], h => by cases h
  | y :: l, h => by
    have e0 : SeqAt.dataPlace (T.toDs ((y :: l).map c)) (c x).toD = if PyData.eqv (c y).toD (c x).toD = true then some 0 else (SeqAt.dataPlace (T.toDs (l.map c)) (c x).toD).map (· + 1) := by
      show List.findIdx? _ ((c y).toD :: T.toDs (l.map c)) = _
      rw [List.findIdx?_cons]
      cases PyData.eqv (c y).toD (c x).toD <;> rfl
    rw [e0]
    by_cases e : y = x
    · subst e
      exact ⟨0, by rw [if_pos ((CT.inj y y).mpr rfl)], rfl, by simp⟩
    · obtain ⟨j, e1, e2, e3⟩ := dataPlace_c (c := c) l ((List.mem_cons.mp h).resolve_left fun z => e z.symm)
      refine ⟨j + 1, by rw [if_neg (fun z => e ((CT.inj y x).mp z)), e1]; rfl, by simpa using e2, ?_⟩
      rw [List.eraseIdx_cons_succ, e3, List.erase_cons_tail (by simpa using e)]
def remG [DecidableEq α] (l : List α) (x : α) : Option (List α) := if x ∈ l then some (l.erase x) else none
theorem muRemove_c {c : α → T} [CT c] [DecidableEq α] {l v : List α} {x : α} (h : remG l x = some v) (hd : CT.dep c ≤ 50 := by decide) : muRemove (tL c l) [c x] = some (tL c v, .pv .non) := by
  unfold remG at h
  split at h
  · rename_i e
    cases h
    obtain ⟨j, e1, e2, e3⟩ := dataPlace_c (c := c) l e
    show (if (okDs (T.toDs (l.map c)) && okD (c x).toD) = true then (SeqAt.dataPlace (T.toDs (l.map c)) (c x).toD).bind fun j => (muPopAt (l.map c) j).map fun r => (r.1, T.pv .non) else none) = _
    rw [okDs_c hd, okD_c c hd, Bool.true_and, if_pos rfl, e1, Option.bind_some, popAt_c (c := c) (l := l) (l' := l.eraseIdx j) (x := x) (by rw [e2]; rfl), e3]; rfl
  · cases h
theorem cp_inj {c : α → P} [CP c] {a b : α} (h : c a = c b) : a = b := (CP.inj (c := c) a b).mp (by rw [h]; exact eqv_refl _)
class KK (tk : Bool) (k : κ → P) : Prop where
  ok : ∀ a, isKey tk (k a) = true
instance : KK false cI := ⟨fun _ => rfl⟩
instance : KK false cS := ⟨fun _ => rfl⟩
instance : KK true (c2 cS cS) := ⟨fun _ => rfl⟩
instance : KK true (c2 cI cI) := ⟨fun _ => rfl⟩
theorem keysOf_I (l : List Int) : (keysOf (l.map cI)).isSome = true := by
  induction l with
  | nil => rfl
  | cons a l ih =>
    show ((some (.inl a : Key)).bind fun k => (keysOf (l.map cI)).map fun ks => k :: ks).isSome = true
    rw [Option.bind_some]
    cases e : keysOf (l.map cI) with
    | none => rw [e] at ih; cases ih
    | some ks => rfl
instance : KK true (cT cI) := ⟨keysOf_I⟩
theorem idxP_c {k : κ → P} [CP k] [DecidableEq κ] {c : ν → T} (q : κ) : ∀ d : List (κ × ν), ((idxP (d.map fun e => k e.1) (k q)).bind fun j => (d.map fun e => c e.2)[j]?) = (dget d q).map c
  | [] => rfl
  | e :: d => by
    show ((if k e.1 = k q then some 0 else (idxP (d.map fun e => k e.1) (k q)).map (· + 1)).bind fun j => (c e.2 :: d.map fun e => c e.2)[j]?) = ((if e.1 = q then some e.2 else dget d q)).map c
    by_cases h : e.1 = q
    · rw [if_pos (congrArg k h), if_pos h]; rfl
    · rw [if_neg (fun z => h (cp_inj (c := k) z)), if_neg h, ← idxP_c (k := k) (c := c) q d]
      cases idxP (d.map fun e => k e.1) (k q) <;> rfl
theorem lookT_c {k : κ → P} [CP k] [DecidableEq κ] {c : ν → T} (q : κ) (d : List (κ × ν)) : lookT (d.map fun e => k e.1) (d.map fun e => c e.2) (k q) = (dget d q).map c := idxP_c q d
theorem gIx_tD {k : κ → P} [CP k] [DecidableEq κ] [KK false k] {c : ν → T} {d : List (κ × ν)} {q : κ} {v : ν} (h : dget d q = some v) : gIx (tD k c d) (tv k q) = some (c v) := by
  show (if isKey false (k q) = true then lookT _ _ _ else none) = _
  rw [if_pos (KK.ok q), lookT_c, h]; rfl
theorem gIx_tE {k : κ → P} [CP k] [DecidableEq κ] [KK true k] {c : ν → T} {d : List (κ × ν)} {q : κ} {v : ν} (h : dget d q = some v) : gIx (tE k c d) (tv k q) = some (c v) := by
  show (if isKey true (k q) = true then lookT _ _ _ else none) = _
  rw [if_pos (KK.ok q), lookT_c, h]; rfl
theorem idx_has {k : κ → P} [CP k] [DecidableEq κ] (q : κ) : ∀ d : List (κ × ν), (idxP (d.map fun e => k e.1) (k q)).isSome = dhas d q
  | [] => rfl
  | e :: d => by
    show (if k e.1 = k q then some 0 else (idxP (d.map fun e => k e.1) (k q)).map (· + 1)).isSome = (if e.1 = q then some e.2 else dget d q).isSome
    by_cases h : e.1 = q
    · rw [if_pos (congrArg k h), if_pos h]; rfl
    · rw [if_neg (fun z => h (cp_inj (c := k) z)), if_neg h, Option.isSome_map, idx_has q d]; rfl
theorem gIn_tD {k : κ → P} [CP k] [DecidableEq κ] [KK false k] {c : ν → T} {d : List (κ × ν)} {q : κ} : gIn (tv k q) (tD k c d) = some (tv cB (dhas d q)) := by
  show (if isKey false (k q) = true then some (T.pv (P.bl (false ^^ (idxP _ _).isSome))) else none) = _
  rw [if_pos (KK.ok q), idx_has, Bool.false_xor]
theorem gNotIn_tD {k : κ → P} [CP k] [DecidableEq κ] [KK false k] {c : ν → T} {d : List (κ × ν)} {q : κ} : gNotIn (tv k q) (tD k c d) = some (tv cB (!dhas d q)) := by
  show (if isKey false (k q) = true then some (T.pv (P.bl (true ^^ (idxP _ _).isSome))) else none) = _
  rw [if_pos (KK.ok q), idx_has, Bool.true_xor]
theorem gIn_tE {k : κ → P} [CP k] [DecidableEq κ] [KK true k] {c : ν → T} {d : List (κ × ν)} {q : κ} : gIn (tv k q) (tE k c d) = some (tv cB (dhas d q)) := by
  show (if isKey true (k q) = true then some (T.pv (P.bl (false ^^ (idxP _ _).isSome))) else none) = _
  rw [if_pos (KK.ok q), idx_has, Bool.false_xor]
theorem gNotIn_tE {k : κ → P} [CP k] [DecidableEq κ] [KK true k] {c : ν → T} {d : List (κ × ν)} {q : κ} : gNotIn (tv k q) (tE k c d) = some (tv cB (!dhas d q)) := by
  show (if isKey true (k q) = true then some (T.pv (P.bl (true ^^ (idxP _ _).isSome))) else none) = _
  rw [if_pos (KK.ok q), idx_has, Bool.true_xor]
theorem dset_c {k : κ → P} [CP k] [DecidableEq κ] {c : ν → T} (q : κ) (v : ν) : ∀ d : List (κ × ν), (match idxP (d.map fun e => k e.1) (k q) with
      | some j => ((d.map fun e => k e.1), (d.map fun e => c e.2).set j (c v))
      | none => ((d.map fun e => k e.1) ++ [k q], (d.map fun e => c e.2) ++ [c v])) = ((dset d q v).map (fun e => k e.1), (dset d q v).map fun e => c e.2)
  | [] => rfl
  | e :: d => by
    have ih := dset_c (k := k) (c := c) q v d
    have e1 : idxP ((e :: d).map fun e => k e.1) (k q) = if k e.1 = k q then some 0 else (idxP (d.map fun e => k e.1) (k q)).map (· + 1) := rfl
    have e2 : dset (e :: d) q v = if e.1 = q then (e.1, v) :: d else e :: dset d q v := rfl
    rw [e1, e2]
    by_cases h : e.1 = q
    · rw [if_pos (congrArg k h), if_pos h]; rfl
    · rw [if_neg (fun z => h (cp_inj (c := k) z)), if_neg h]
      cases e3 : idxP (d.map fun e => k e.1) (k q) with
      | none =>
        rw [e3] at ih
        have ih := Prod.mk.inj ih
        show (k e.1 :: _ ++ [k q], c e.2 :: _ ++ [c v]) = (k e.1 :: _, c e.2 :: _)
        rw [List.cons_append, List.cons_append, ih.1, ih.2]
      | some j =>
        rw [e3] at ih
        have ih := Prod.mk.inj ih
        show (k e.1 :: _, (c e.2 :: _).set (j + 1) (c v)) = (k e.1 :: _, c e.2 :: _)
        rw [List.set_cons_succ, ← ih.1, ih.2]
theorem setKid_g {tk : Bool} {k : κ → P} [CP k] [DecidableEq κ] [KK tk k] {c : ν → T} {d d' : List (κ × ν)} {q : κ} {v : ν} (h : dput d q v = some d') : setKid (.dct tk (d.map fun e => k e.1) (d.map fun e => c e.2)) (k q) (c v) = some (.dct tk (d'.map fun e => k e.1) (d'.map fun e => c e.2)) := by
  unfold dput at h
  split at h
  · rename_i e
    cases h
    have h2 := dset_c (k := k) (c := c) q v d
    show (if isKey tk (k q) = true ∧ (d.map fun e => k e.1).length < 16777216 then (match idxP (d.map fun e => k e.1) (k q) with
      | some j => some (T.dct tk (d.map fun e => k e.1) ((d.map fun e => c e.2).set j (c v)))
      | none => some (.dct tk ((d.map fun e => k e.1) ++ [k q]) ((d.map fun e => c e.2) ++ [c v]))) else none) = _
    rw [if_pos ⟨KK.ok q, by rw [List.length_map]; exact e⟩]
    cases e3 : idxP (d.map fun e => k e.1) (k q) with
    | none =>
      rw [e3] at h2
      have h2 := Prod.mk.inj h2
      dsimp only
      rw [← h2.1, ← h2.2]
    | some j =>
      rw [e3] at h2
      have h2 := Prod.mk.inj h2
      dsimp only
      rw [← h2.1, ← h2.2]
  · cases h
theorem setKid_tD {k : κ → P} [CP k] [DecidableEq κ] [KK false k] {c : ν → T} {d d' : List (κ × ν)} {q : κ} {v : ν} (h : dput d q v = some d') : setKid (tD k c d) (k q) (c v) = some (tD k c d') := setKid_g (k := k) h
theorem setKid_tE {k : κ → P} [CP k] [DecidableEq κ] [KK true k] {c : ν → T} {d d' : List (κ × ν)} {q : κ} {v : ν} (h : dput d q v = some d') : setKid (tE k c d) (k q) (c v) = some (tE k c d') := setKid_g (k := k) h
theorem setKid_tL {c : α → T} {l l' : List α} {i : Int} {v : α} (h : setI l i v = some l') : setKid (tL c l) (cI i) (c v) = some (tL c l') := by
  unfold setI at h
  cases e : ixN l.length i with
  | none => rw [e] at h; cases h
  | some j =>
    rw [e] at h
    cases h
    show (ixN (l.map c).length i).map (fun j => T.lst ((l.map c).set j (c v))) = _
    rw [List.length_map, e]
    show some (T.lst ((l.map c).set j (c v))) = some (T.lst ((l.set j v).map c))
    rw [List.map_set]
theorem kidT_g {tk : Bool} {k : κ → P} [CP k] [DecidableEq κ] [KK tk k] {c : ν → T} {d : List (κ × ν)} {q : κ} {v : ν} (h : dgetG d q = some v) : kidT (.dct tk (d.map fun e => k e.1) (d.map fun e => c e.2)) (k q) = some (c v) := by
  unfold dgetG at h
  split at h
  · rename_i e
    show (if isKey tk (k q) = true ∧ (d.map fun e => k e.1).length < 16777216 then lookT _ _ _ else none) = _
    rw [if_pos ⟨KK.ok q, by rw [List.length_map]; exact e⟩, lookT_c, h]; rfl
  · cases h
theorem kidT_tD {k : κ → P} [CP k] [DecidableEq κ] [KK false k] {c : ν → T} {d : List (κ × ν)} {q : κ} {v : ν} (h : dgetG d q = some v) : kidT (tD k c d) (k q) = some (c v) := kidT_g (k := k) h
theorem kidT_tE {k : κ → P} [CP k] [DecidableEq κ] [KK true k] {c : ν → T} {d : List (κ × ν)} {q : κ} {v : ν} (h : dgetG d q = some v) : kidT (tE k c d) (k q) = some (c v) := kidT_g (k := k) h
theorem kidT_tL {c : α → T} {l : List α} {i : Int} {v : α} (h : atI l i = some v) : kidT (tL c l) (cI i) = some (c v) := by
  show atI (l.map c) i = _
  rw [atI_map, h]; rfl
theorem upd0 {f : T → Option T} {t t2 : T} (h : f t = some t2) : updPath [] f t = some t2 := h
theorem upd1 {k : P} {ks : List P} {f : T → Option T} {t c c' t2 : T} (h1 : kidT t k = some c) (h2 : updPath ks f c = some c') (h3 : setKid t k c' = some t2) : updPath (k :: ks) f t = some t2 := by
  show (kidT t k).bind _ = _
  rw [h1, Option.bind_some, h2, Option.bind_some, h3]
theorem look1 {k : P} {ks : List P} {t c t2 : T} (h1 : kidT t k = some c) (h2 : lookPath ks c = some t2) : lookPath (k :: ks) t = some t2 := by
  show (kidT t k).bind _ = _
  rw [h1, Option.bind_some, h2]
theorem augK_c {g : T → T → Option T} {p n : P} {tv' node old t2 : T} (h1 : kidT node p = some old) (h2 : g old tv' = some (.pv n)) (h3 : setKid node p (.pv n) = some t2) : augK g p tv' node = some t2 := by
  unfold augK
  rw [h1, Option.bind_some, h2, Option.bind_some]
  exact h3
theorem pSnoc_of {f : Env → R Unit (List P)} {g : Env → R Unit T} {ks : List P} {p : P} (h1 : f ρ = .ok ks) (h2 : g ρ = .ok (.pv p)) : pSnoc f g ρ = .ok (ks ++ [p]) := by
  unfold pSnoc
  rw [h1, R.bind_ok, h2]
theorem pairs_c {k : κ → P} {c : ν → T} {cd : κ × ν → T} (hc : ∀ x, pairT (cd x) = some (k x.1, c x.2)) : ∀ l : List (κ × ν), pairsT (l.map cd) = some (l.map (fun e => k e.1), l.map fun e => c e.2)
  | [] => rfl
  | x :: l => by
    show ((pairT (cd x)).bind fun kv => (pairsT (l.map cd)).map fun r => (kv.1 :: r.1, kv.2 :: r.2)) = _
    rw [hc, Option.bind_some, pairs_c hc l]; rfl
theorem nodupB_c {k : κ → P} [CP k] {l : List κ} (h : l.Nodup) : nodupB (l.map k) = true := nodupB_iff.mpr (by
  induction l with
  | nil => exact List.nodup_nil
  | cons x l ih =>
    have h := List.nodup_cons.mp h
    rw [List.map_cons]
    refine List.nodup_cons.mpr ⟨fun hm => ?_, ih h.2⟩
    obtain ⟨y, hy, e⟩ := List.mem_map.mp hm
    exact h.1 ((cp_inj e) ▸ hy))
theorem gDictO_c {k : κ → P} [CP k] [DecidableEq κ] {c : ν → T} {cd : κ × ν → T} {l v : List (κ × ν)} (h : dnew l = some v) (hc : ∀ x, pairT (cd x) = some (k x.1, c x.2)) : gDictO (tL cd l) = some (tD k c v) := by
  unfold dnew at h
  split at h
  · rename_i e
    cases h
    show ((pairsT (l.map cd)).bind fun r => if nodupB r.1 = true then some (T.dct false r.1 r.2) else none) = _
    rw [pairs_c hc, Option.bind_some]
    have : nodupB (l.map fun e => k e.1) = true := by
      have := nodupB_c (k := k) e
      rw [List.map_map] at this
      exact this
    rw [if_pos this]; rfl
  · cases h
def dgetD [DecidableEq κ] (d : List (κ × ν)) (q : κ) (v : ν) : ν := (dget d q).getD v
theorem gGet_tD {k : κ → P} [CP k] [DecidableEq κ] [KK false k] {c : ν → P} {d : List (κ × ν)} {q : κ} {v : ν} : gGet (tD k (tv c) d) (tv k q) (tv c v) = some (tv c (dgetD d q v)) := by
  show (if isKey false (k q) = true then pureO (some ((lookT _ _ _).getD (tv c v))) else none) = _
  rw [if_pos (KK.ok q), lookT_c (c := tv c)]
  unfold dgetD
  cases dget d q <;> rfl
theorem gGet_tE {k : κ → P} [CP k] [DecidableEq κ] [KK true k] {c : ν → P} {d : List (κ × ν)} {q : κ} {v : ν} : gGet (tE k (tv c) d) (tv k q) (tv c v) = some (tv c (dgetD d q v)) := by
  show (if isKey true (k q) = true then pureO (some ((lookT _ _ _).getD (tv c v))) else none) = _
  rw [if_pos (KK.ok q), lookT_c (c := tv c)]
  unfold dgetD
  cases dget d q <;> rfl
theorem gGet1_tD {k : κ → P} [CP k] [DecidableEq κ] [KK false k] {c : ν → P} {d : List (κ × ν)} {q : κ} : gGet (tD k (tv c) d) (tv k q) (.pv .non) = some (tv (cO c) (dget d q)) := by
  show (if isKey false (k q) = true then pureO (some ((lookT _ _ _).getD (.pv .non))) else none) = _
  rw [if_pos (KK.ok q), lookT_c (c := tv c)]
  cases dget d q <;> rfl
theorem eGet2 {fo fk fd : Env → R Unit T} {t u w q : T} (h1 : fo ρ = .ok t) (hd : isDct t = true) (h2 : fk ρ = .ok u) (h3 : fd ρ = .ok w) (e : gGet t u w = some q) : fGet2 fo fk fd ρ = .ok q := by
  unfold fGet2
  rw [h1, R.bind_ok, if_neg (by rw [hd]; exact Bool.false_ne_true.symm), h2, R.bind_ok, h3, R.bind_ok, e]; rfl
theorem eGet1 {fo fk : Env → R Unit T} {t u q : T} (h1 : fo ρ = .ok t) (hd : isDct t = true) (h2 : fk ρ = .ok u) (e : gGet t u (.pv .non) = some q) : fGet1 fo fk ρ = .ok q := by
  unfold fGet1
  rw [h1, R.bind_ok, if_neg (by rw [hd]; exact Bool.false_ne_true.symm), h2, R.bind_ok, e]; rfl
theorem eIsi {n : String} {f : Env → R Unit T} {t : T} {b : Bool} (h : f ρ = .ok t) (hf : frozenT t = false) (hi : isiT (tyN t) n = some b) : fIsi n f ρ = .ok (tv cB b) := by
  unfold fIsi
  rw [h, R.bind_ok, if_pos hf, hi]
def joinG (a : Str) (l : List Str) : Option Str := if (l.map (fun x : Str => x.length)).sum + l.length * a.length ≤ big then some (Txt.join a l) else none
theorem gJoin_tL {a v : Str} {l : List Str} (h : joinG a l = some v) : gJoin (tv cS a) [tL (tv cS) l] = some (tv cS v) := by
  unfold joinG at h
  split at h
  · rename_i e
    cases h
    show (((match pItL (tL (tv cS) l) with
      | some ps => some ps
      | none => _).bind strsP).bind fun ys => if (ys.map (fun x : Str => x.length)).sum + ys.length * a.length ≤ 16777216 then some (T.pv (.str (Txt.join a ys))) else none) = _
    rw [pItL_tv]
    show ((strsP (l.map cS)).bind _) = _
    rw [strsP_map, Option.bind_some, if_pos e]
  · cases h
end
end TR
namespace TR
open PySem PySem.Spec PyProof.Rows L2 PySem.W
section
variable {α : Type}
def ddL [DecidableEq α] : List α → List α
  | [] => []
  | x :: xs => if x ∈ xs then ddL xs else x :: ddL xs
@[simp] theorem mem_ddL [DecidableEq α] {a : α} : ∀ {l : List α}, a ∈ ddL l ↔ a ∈ l
  | [] => Iff.rfl
  | x :: xs => by
    unfold ddL
    split
    · rename_i h
      rw [mem_ddL, List.mem_cons]
      exact ⟨.inr, fun z => z.elim (fun e => e ▸ h) id⟩
    · rw [List.mem_cons, List.mem_cons, mem_ddL]
theorem nodup_ddL [DecidableEq α] : ∀ {l : List α}, (ddL l).Nodup
  | [] => List.nodup_nil
  | x :: xs => by
    unfold ddL
    split
    · exact nodup_ddL
    · rename_i h
      exact List.nodup_cons.mpr ⟨fun z => h (mem_ddL.mp z), nodup_ddL⟩
theorem perm_of_nodup {l m : List α} (h1 : l.Nodup) (h2 : m.Nodup) (h : ∀ a, a ∈ l ↔ a ∈ m) : l.Perm m := (List.perm_ext_iff_of_nodup h1 h2).mpr h
theorem sortL_perm [PO α] (l : List α) : (sortL l).Perm l := List.mergeSort_perm l _
theorem sortL_sorted [PO α] [POK α] (l : List α) : (sortL l).Pairwise fun a b => PO.lt b a = false := by
  have h := List.pairwise_mergeSort (le := fun a b : α => !PO.lt b a) (fun a b c h1 h2 => by
    simp only [Bool.not_eq_true'] at h1 h2 ⊢
    cases e : PO.lt c a with
    | false => rfl
    | true =>
      exfalso
      cases e2 : PO.lt a b with
      | true => have := POK.tr _ _ _ e e2; rw [h2] at this; cases this
      | false =>
        have := POK.tot _ _ e2 h1
        subst this
        rw [h2] at e; cases e) (fun a b => by
    cases e : PO.lt b a with
    | false => rfl
    | true =>
      cases e2 : PO.lt a b with
      | false => rfl
      | true => have := POK.tr _ _ _ e e2; rw [POK.irr] at this; cases this) l
  exact h.imp fun h => by simpa using h
theorem sorted_uniq [PO α] [POK α] : ∀ {l m : List α}, l.Perm m → l.Pairwise (fun a b => PO.lt b a = false) → m.Pairwise (fun a b => PO.lt b a = false) → l = m
  | [], m, h, _, _ => (List.nil_perm.mp h).symm
  | a :: l, [], h, _, _ => by have := h.length_eq; simp at this
  | a :: l, b :: m, h, h1, h2 => by
    have h1' := List.pairwise_cons.mp h1
    have h2' := List.pairwise_cons.mp h2
    have e : a = b := by
      rcases List.mem_cons.mp (h.mem_iff.mp List.mem_cons_self) with e | e
      · exact e
      · rcases List.mem_cons.mp (h.mem_iff.mpr List.mem_cons_self) with e2 | e2
        · exact e2.symm
        · exact POK.tot _ _ (h2'.1 a e) (h1'.1 b e2)
    subst e
    rw [sorted_uniq (List.Perm.cons_inv h) h1'.2 h2'.2]
theorem sortL_eq [PO α] [POK α] {l m : List α} (h : l.Perm m) : sortL l = sortL m := sorted_uniq (((sortL_perm l).trans h).trans (sortL_perm m).symm) (sortL_sorted l) (sortL_sorted m)
theorem sortL_of_sorted [PO α] [POK α] {l : List α} (h : l.Pairwise fun a b => PO.lt b a = false) : sortL l = l := sorted_uniq (sortL_perm l) (sortL_sorted l) h
end
def gSetG (fi : List Int → T) (fs : List Str → T) : T → Option T := fun t => (pItS t).bind fun ps => if ps.length + 1 < 4096 then (match intsP ps with
  | some is => some (fi (ddL is))
  | none => match strsP ps with
    | some xs => some (fs (ddL xs))
    | none => none) else none
def gLenSet := gSetG (fun l => .pv (.int l.length)) fun l => .pv (.int l.length)
def gSortSet := gSetG (fun l => .lst ((sortP (l.map .int)).map .pv)) fun l => .lst ((sortP (l.map .str)).map .pv)
theorem seq_of_S {K : PySem.W.Frag} {H : Hp} {t : T} {ps : List P} {v : V} (e : pItS t = some ps) (r : Vw K top H t v) : ∃ a xs, v = .ref a ∧ (SqL K H a xs ∨ SqT K H a xs) ∧ RepPs H ps xs := by
  unfold pItS at e
  split at e
  · rename_i ps' h
    cases e
    unfold pItL at h
    cases ht : itL t with
    | none => rw [ht] at h; cases h
    | some ts =>
      rw [ht] at h
      have hts := pvs_eq h
      subst hts
      cases t with
      | lst ts =>
        cases ht
        obtain ⟨a, xs, rfl, hq, hv⟩ := r
        exact ⟨a, xs, rfl, .inl (.inl (.inl hq.1)), vws_pvs hv⟩
      | fls ts =>
        cases ht
        obtain ⟨a, xs, rfl, hq, hv⟩ := r
        exact ⟨a, xs, rfl, .inl hq.sq, vws_pvs hv⟩
      | _ => cases ht
  · split at e
    · rename_i ps'
      cases e
      obtain ⟨a, xs, rfl, hq, hv⟩ := r
      exact ⟨a, xs, rfl, .inr (.inl (.inl hq)), hv⟩
    · cases e
theorem rep_ints {H : Hp} : ∀ {is : List Int} {xs : List V}, RepPs H (is.map .int) xs → xs = is.map V.int
  | [], _, h => h
  | i :: is, _, h => by
    obtain ⟨x, r, rfl, h1, h2⟩ := h
    rw [rep_ints h2, show x = V.int i from h1]; rfl
theorem rep_strs {H : Hp} : ∀ {is : List Str} {xs : List V}, RepPs H (is.map .str) xs → xs = is.map V.str
  | [], _, h => h
  | i :: is, _, h => by
    obtain ⟨x, r, rfl, h1, h2⟩ := h
    rw [rep_strs h2, show x = V.str i from h1]; rfl
theorem repPs_intsI {H : Hp} : ∀ (is : List Int), RepPs H (is.map .int) (is.map V.int)
  | [] => rfl
  | i :: is => ⟨_, _, rfl, rfl, repPs_intsI is⟩
theorem repPs_strsI {H : Hp} : ∀ (is : List Str), RepPs H (is.map .str) (is.map V.str)
  | [] => rfl
  | i :: is => ⟨_, _, rfl, rfl, repPs_strsI is⟩
theorem merge_int (l : List Int) : l.mergeSort (PySem.W.dataLe false PyData.int) = sortL l := by
  unfold sortL
  congr 1
  funext a b
  exact congrArg (!·) (CL.lt (c := cI) b a)
theorem merge_str (l : List Str) : l.mergeSort (PySem.W.dataLe false PyData.str) = sortL l := by
  unfold sortL
  congr 1
  funext a b
  exact congrArg (!·) (CL.lt (c := cS) b a)
section
variable {X : Cx} {W : WX} {mg : Str → Option Value}
theorem q_lenSet {a : Expr} {p p2 q pos : Pos} {f : Env → R Unit T} (hc : X.calm = true) (hg : Gl X "len") (hm : X.mg "len" = none) (hg2 : Gl X "set") (hm2 : X.mg "set" = none) (ha : JQ X W .e a f)
    (na : starEach [a] X.env = (false, eval a X.env) :: starEach [] X.env := by rfl) : JQ X W .o (.Call (.Name "len" p) [.Call (.Name "set" p2) [a] [] q] [] pos) (f1 gLenSet f) := by
  refine ⟨fun pins s σ H Q I h => ?_⟩
  obtain ⟨ρ, Z, A, G, h⟩ := h
  have goI := (pe_lenSetG (D := kdI X.prog X.w) hc hg hm hg2 hm2 ha (p := p) (p2 := p2) (q := q) (pos := pos) na).run pins s σ H Q I
  have goS := (pe_lenSetG (D := kdS X.prog X.w) hc hg hm hg2 hm2 ha (p := p) (p2 := p2) (q := q) (pos := pos) na).run pins s σ H Q I
  unfold f1 at h
  cases e : f ρ with
  | bad => rw [e] at h; exact h.elim
  | exc x r => rw [e] at h; exact goI ⟨ρ, Z, A, G, by rw [e]; exact h⟩
  | ok t =>
    rw [e, R.bind_ok] at h
    unfold gLenSet gSetG at h
    cases hs : pItS t with
    | none => rw [hs] at h; exact h.elim
    | some ps =>
      rw [hs, Option.bind_some] at h
      by_cases hl : ps.length + 1 < 4096
      · rw [if_pos hl] at h
        cases hi : intsP ps with
        | some is =>
          rw [hi] at h
          have := intsP_eq hi
          subst this
          refine goI ⟨ρ, Z, A, G, ?_⟩
          rw [e]
          intro v H1 e1 r1
          obtain ⟨b, xs, ev, hq, hr⟩ := seq_of_S hs r1
          rw [rep_ints hr] at hq
          refine ⟨is, ⟨b, ev, hq, by simpa using hl⟩, fun l nd hm => h _ _ e1 ⟨emp, ?_, fun _ z => z.elim, fun _ z => z.elim⟩⟩
          show V.int _ = V.int _
          rw [(perm_of_nodup nd nodup_ddL fun k => by rw [hm k, mem_ddL]).length_eq]
        | none =>
          rw [hi] at h
          cases hx : strsP ps with
          | none => rw [hx] at h; exact h.elim
          | some ys =>
            rw [hx] at h
            have := strsP_eq hx
            subst this
            refine goS ⟨ρ, Z, A, G, ?_⟩
            rw [e]
            intro v H1 e1 r1
            obtain ⟨b, xs, ev, hq, hr⟩ := seq_of_S hs r1
            rw [rep_strs hr] at hq
            refine ⟨ys, ⟨b, ev, hq, by simpa using hl⟩, fun l nd hm => h _ _ e1 ⟨emp, ?_, fun _ z => z.elim, fun _ z => z.elim⟩⟩
            show V.int _ = V.int _
            rw [(perm_of_nodup nd nodup_ddL fun k => by rw [hm k, mem_ddL]).length_eq]
      · rw [if_neg hl] at h; exact h.elim
theorem q_sortSet {a : Expr} {p p2 q pos : Pos} {f : Env → R Unit T} (hc : X.calm = true) (hu : X.A.units + 10 < cLine) (hg : Gl X "sorted") (hm : X.mg "sorted" = none) (hg2 : Gl X "set") (hm2 : X.mg "set" = none) (ha : JQ X W .e a f)
    (na : starEach [a] X.env = (false, eval a X.env) :: starEach [] X.env := by rfl) : JQ X W .o (.Call (.Name "sorted" p) [.Call (.Name "set" p2) [a] [] q] [] pos) (f1 gSortSet f) := by
  refine ⟨fun pins s σ H Q I h => ?_⟩
  obtain ⟨ρ, Z, A, G, h⟩ := h
  have goI := (pe_sortSetG (D := kdI X.prog X.w) hc hu hg hm hg2 hm2 ha (p := p) (p2 := p2) (q := q) (pos := pos) na).run pins s σ H Q I
  have goS := (pe_sortSetG (D := kdS X.prog X.w) hc hu hg hm hg2 hm2 ha (p := p) (p2 := p2) (q := q) (pos := pos) na).run pins s σ H Q I
  unfold f1 at h
  cases e : f ρ with
  | bad => rw [e] at h; exact h.elim
  | exc x r => rw [e] at h; exact goI ⟨ρ, Z, A, G, by rw [e]; exact h⟩
  | ok t =>
    rw [e, R.bind_ok] at h
    unfold gSortSet gSetG at h
    cases hs : pItS t with
    | none => rw [hs] at h; exact h.elim
    | some ps =>
      rw [hs, Option.bind_some] at h
      by_cases hl : ps.length + 1 < 4096
      · rw [if_pos hl] at h
        cases hi : intsP ps with
        | some is =>
          rw [hi] at h
          have := intsP_eq hi
          subst this
          refine goI ⟨ρ, Z, A, G, ?_⟩
          rw [e]
          intro v H1 e1 r1
          obtain ⟨b, xs, ev, hq, hr⟩ := seq_of_S hs r1
          rw [rep_ints hr] at hq
          refine ⟨is, ⟨b, ev, hq, by simpa using hl⟩, fun l pp nd hm hp => ?_⟩
          have n : NewR H1 (.lst ((sortP ((ddL is).map .int)).map .pv)) Q := fun v' H' B e3 rep fr al => h v' H' (e1.trans e3) ⟨B, rep, fun a ha => e1.fresh (fr a ha), al⟩
          show Q (.ref pp) (upd H1 pp (.lst ((l.mergeSort (PySem.W.dataLe false PyData.int)).map V.int)))
          rw [merge_int, sortL_eq (perm_of_nodup nd nodup_ddL fun k => by rw [hm k, mem_ddL])]
          refine n.lst hp (pvs_reps ?_)
          rw [sortP_c (c := cI)]
          exact repPs_intsI _
        | none =>
          rw [hi] at h
          cases hx : strsP ps with
          | none => rw [hx] at h; exact h.elim
          | some ys =>
            rw [hx] at h
            have := strsP_eq hx
            subst this
            refine goS ⟨ρ, Z, A, G, ?_⟩
            rw [e]
            intro v H1 e1 r1
            obtain ⟨b, xs, ev, hq, hr⟩ := seq_of_S hs r1
            rw [rep_strs hr] at hq
            refine ⟨ys, ⟨b, ev, hq, by simpa using hl⟩, fun l pp nd hm hp => ?_⟩
            have n : NewR H1 (.lst ((sortP ((ddL ys).map .str)).map .pv)) Q := fun v' H' B e3 rep fr al => h v' H' (e1.trans e3) ⟨B, rep, fun a ha => e1.fresh (fr a ha), al⟩
            show Q (.ref pp) (upd H1 pp (.lst ((l.mergeSort (PySem.W.dataLe false PyData.str)).map V.str)))
            rw [merge_str, sortL_eq (perm_of_nodup nd nodup_ddL fun k => by rw [hm k, mem_ddL])]
            refine n.lst hp (pvs_reps ?_)
            rw [sortP_c (c := cS)]
            exact repPs_strsI _
      · rw [if_neg hl] at h; exact h.elim
end
section
variable {α σ : Type} {ρ : Env}
def lenSetG [DecidableEq α] (l : List α) : Option Int := if l.length + 1 < 4096 then some ((ddL l).length : Int) else none
def sortSetG [DecidableEq α] [PO α] (l : List α) : Option (List α) := if l.length + 1 < 4096 then some (sortL (ddL l)) else none
class CSet (c : α → P) [DecidableEq α] [PO α] : Prop where
  len : ∀ (l : List α), l.length + 1 < 4096 → ∀ t, pItS t = some (l.map c) → gLenSet t = some (tv cI ((ddL l).length : Int))
  srt : ∀ (l : List α), l.length + 1 < 4096 → ∀ t, pItS t = some (l.map c) → gSortSet t = some (tL (tv c) (sortL (ddL l)))
instance : CSet cI := ⟨fun l h t e => by
    unfold gLenSet gSetG
    rw [e, Option.bind_some, if_pos (by simpa using h), intsP_map], fun l h t e => by
    unfold gSortSet gSetG
    rw [e, Option.bind_some, if_pos (by simpa using h), intsP_map, tL_tv]
    dsimp only
    rw [sortP_c (c := cI)]⟩
theorem ints_strs : ∀ (l : List Str), l ≠ [] → intsP (l.map cS) = none
  | [], h => absurd rfl h
  | _ :: _, _ => rfl
instance : CSet cS := ⟨fun l h t e => by
    unfold gLenSet gSetG
    rw [e, Option.bind_some, if_pos (by simpa using h)]
    cases l with
    | nil => rfl
    | cons x l => rw [ints_strs _ (by simp)]; dsimp only; rw [strsP_map], fun l h t e => by
    unfold gSortSet gSetG
    rw [e, Option.bind_some, if_pos (by simpa using h), tL_tv]
    cases l with
    | nil => simp [ddL, sortP, sortL, intsP]
    | cons x l => rw [ints_strs _ (by simp)]; dsimp only; rw [strsP_map]; dsimp only; rw [sortP_c (c := cS)]⟩
theorem pItS_tL {c : α → P} {l : List α} : pItS (tL (tv c) l) = some (l.map c) := by unfold pItS; rw [pItL_tv]
theorem pItS_cT {c : α → P} {l : List α} : pItS (tv (cT c) l) = some (l.map c) := rfl
theorem gLenSet_L {c : α → P} [DecidableEq α] [PO α] [CSet c] {l : List α} {v : Int} (h : lenSetG l = some v) : gLenSet (tL (tv c) l) = some (tv cI v) := by
  unfold lenSetG at h
  split at h
  · rename_i e; cases h; exact CSet.len l e _ pItS_tL
  · cases h
theorem gLenSet_T {c : α → P} [DecidableEq α] [PO α] [CSet c] {l : List α} {v : Int} (h : lenSetG l = some v) : gLenSet (tv (cT c) l) = some (tv cI v) := by
  unfold lenSetG at h
  split at h
  · rename_i e; cases h; exact CSet.len l e _ pItS_cT
  · cases h
theorem gSortSet_L {c : α → P} [DecidableEq α] [PO α] [CSet c] {l v : List α} (h : sortSetG l = some v) : gSortSet (tL (tv c) l) = some (tL (tv c) v) := by
  unfold sortSetG at h
  split at h
  · rename_i e; cases h; exact CSet.srt l e _ pItS_tL
  · cases h
theorem gSortSet_T {c : α → P} [DecidableEq α] [PO α] [CSet c] {l v : List α} (h : sortSetG l = some v) : gSortSet (tv (cT c) l) = some (tL (tv c) v) := by
  unfold sortSetG at h
  split at h
  · rename_i e; cases h; exact CSet.srt l e _ pItS_cT
  · cases h
theorem ePsS {f : Env → R Env (AV × Env)} {a : AV} {ρ1 : Env} {i : Int} (e : f ρ = .ok (a, ρ1)) (h : a.see ρ1 = some (tv cI i)) : sPSome f ρ = .ok (some i, ρ1) := by
  unfold sPSome
  rw [e, R.bind_ok]
  dsimp only
  rw [h]
theorem ePnS : sPNone ρ = .ok (none, ρ) := rfl
theorem eSlS {f : Env → R Env (AV × Env)} {l h : Env → R Env (Option Int × Env)} {a : AV} {ρ1 ρ2 ρ3 : Env} {t q : T} {lo hi : Option Int} (e : f ρ = .ok (a, ρ1)) (e1 : l ρ1 = .ok (lo, ρ2)) (e2 : h ρ2 = .ok (hi, ρ3)) (hs : a.see ρ3 = some t) (g : gSl t lo hi = some q) : sSl f l h ρ = .ok (.val q, ρ3) := by
  unfold sSl
  rw [e, R.bind_ok]
  dsimp only
  rw [e1, R.bind_ok]
  dsimp only
  rw [e2, R.bind_ok]
  dsimp only
  rw [hs, Option.bind_some, g]; rfl
theorem gRevL_tL {c : α → P} {l : List α} : gRevL (tL (tv c) l) = some (tL (tv c) l.reverse) := by
  rw [tL_tv, tL_tv]
  show (pvs ((l.map c).map .pv)).map _ = _
  rw [pvs_map, Option.map_some, List.map_reverse, List.map_reverse, List.map_reverse]
end
theorem gSortedD_l {κ : Type} {k : κ → P} {l : List κ} {tk : Bool} {ts : List T} : gSortedD [.dct tk (l.map k) ts] = gSorted [tL (tv k) l] := by
  show _ = (pItL (tL (tv k) l)).bind _
  rw [pItL_tv]; rfl
theorem keys_map {κ ν : Type} {k : κ → P} (d : List (κ × ν)) : (d.map fun e => k e.1) = (d.map fun e => e.1).map k := by rw [List.map_map]; rfl
theorem gSortedD_tD {κ ν : Type} {k : κ → P} [PO κ] [CP k] [CL k] [CK k] {c : ν → T} {d : List (κ × ν)} (h : CP.dep k ≤ 50 := by decide) : gSortedD [tD k c d] = some (tL (tv k) (sortL (d.map fun e => e.1))) := by
  unfold tD
  rw [keys_map, gSortedD_l, gSorted_c h]
theorem gSortedD_tE {κ ν : Type} {k : κ → P} [PO κ] [CP k] [CL k] [CK k] {c : ν → T} {d : List (κ × ν)} (h : CP.dep k ≤ 50 := by decide) : gSortedD [tE k c d] = some (tL (tv k) (sortL (d.map fun e => e.1))) := by
  unfold tE
  rw [keys_map, gSortedD_l, gSorted_c h]
theorem gSortedD_T {κ ν : Type} {k : κ → P} [DecidableEq κ] [PO κ] [CP k] [CL k] {c : ν → T} {d : List (List κ × ν)} {v : List (List κ)} (hv : sortTG (d.map fun e => e.1) = some v) (h : CP.dep (cT k) ≤ 50 := by decide) : gSortedD [tE (cT k) c d] = some (tL (tv (cT k)) v) := by
  unfold tE
  rw [keys_map, gSortedD_l, gSorted_T hv h]
theorem eKey_tDow {κ ν : Type} {k : κ → P} {c : ν → T} {d : List (κ × ν)} {i : Nat} {ρ : Env} (h : ρ[i]? = some (Sl.ow (tD k c d))) : iKeyF i ρ = .ok ((d.map fun e => e.1).map fun x => .ow (tv k x)) := by
  unfold iKeyF
  rw [h]
  show R.ok (dctSl (d.map fun e => k e.1)) = _
  rw [keys_map]
  unfold dctSl
  rw [List.map_map]; rfl
theorem eKey_tDvw {κ ν : Type} {k : κ → P} {c : ν → T} {d : List (κ × ν)} {i : Nat} {ρ : Env} (h : ρ[i]? = some (Sl.vw (tD k c d))) : iKeyF i ρ = .ok ((d.map fun e => e.1).map fun x => .ow (tv k x)) := by
  unfold iKeyF
  rw [h]
  show R.ok (dctSl (d.map fun e => k e.1)) = _
  rw [keys_map]
  unfold dctSl
  rw [List.map_map]; rfl
theorem eKey_tEow {κ ν : Type} {k : κ → P} {c : ν → T} {d : List (κ × ν)} {i : Nat} {ρ : Env} (h : ρ[i]? = some (Sl.ow (tE k c d))) : iKeyF i ρ = .ok ((d.map fun e => e.1).map fun x => .ow (tv k x)) := by
  unfold iKeyF
  rw [h]
  show R.ok (dctSl (d.map fun e => k e.1)) = _
  rw [keys_map]
  unfold dctSl
  rw [List.map_map]; rfl
theorem eKey_tEvw {κ ν : Type} {k : κ → P} {c : ν → T} {d : List (κ × ν)} {i : Nat} {ρ : Env} (h : ρ[i]? = some (Sl.vw (tE k c d))) : iKeyF i ρ = .ok ((d.map fun e => e.1).map fun x => .ow (tv k x)) := by
  unfold iKeyF
  rw [h]
  show R.ok (dctSl (d.map fun e => k e.1)) = _
  rw [keys_map]
  unfold dctSl
  rw [List.map_map]; rfl
theorem gSortedT_l {κ : Type} {k : κ → P} {l : List κ} : gSortedT [tv (cT k) l] = gSorted [tL (tv k) l] := by
  show _ = (pItL (tL (tv k) l)).bind _
  rw [pItL_tv]; rfl
theorem gSortedT_c {κ : Type} {k : κ → P} [PO κ] [CP k] [CL k] [CK k] {l : List κ} (h : CP.dep k ≤ 50 := by decide) : gSortedT [tv (cT k) l] = some (tL (tv k) (sortL l)) := by rw [gSortedT_l, gSorted_c h]
theorem gSortedT_T {κ : Type} {k : κ → P} [DecidableEq κ] [PO κ] [CP k] [CL k] {l v : List (List κ)} (hv : sortTG l = some v) (h : CP.dep (cT k) ≤ 50 := by decide) : gSortedT [tv (cT (cT k)) l] = some (tL (tv (cT k)) v) := by rw [gSortedT_l, gSorted_T hv h]
theorem gSortedT_2 {κ : Type} {k : κ → P} [PO κ] [CP k] [CL k] [CK k] {p : κ × κ} (h : CP.dep k ≤ 50 := by decide) : gSortedT [tv (c2 k k) p] = some (tL (tv k) (sortL [p.1, p.2])) := gSortedT_c (k := k) (l := [p.1, p.2]) h
theorem gMinD_l {κ : Type} {k : κ → P} {l : List κ} {tk : Bool} {ts : List T} : gMinD [.dct tk (l.map k) ts] = gMin [tL (tv k) l] := by
  show _ = (match pItL (tL (tv k) l) with
    | some (p :: ps) => if minB (P.toDs (p :: ps)) = true then some (T.pv (minP p ps)) else none
    | _ => none)
  rw [pItL_tv]
  cases l <;> rfl
theorem gMinD_tD {κ ν : Type} {k : κ → P} [PO κ] [CP k] [CL k] [NN k] {c : ν → T} {d : List (κ × ν)} {v : κ} (hv : minL (d.map fun e => e.1) = some v) (h : CP.dep k ≤ 50 := by decide) : gMinD [tD k c d] = some (tv k v) := by
  unfold tD
  rw [keys_map, gMinD_l, gMin_c hv h]
theorem gMinD_tE {κ ν : Type} {k : κ → P} [PO κ] [CP k] [CL k] [NN k] {c : ν → T} {d : List (κ × ν)} {v : κ} (hv : minL (d.map fun e => e.1) = some v) (h : CP.dep k ≤ 50 := by decide) : gMinD [tE k c d] = some (tv k v) := by
  unfold tE
  rw [keys_map, gMinD_l, gMin_c hv h]
theorem gLstD_tD {κ ν : Type} {k : κ → P} {c : ν → T} {d : List (κ × ν)} : gLstD [tD k c d] = some (tL (tv k) (d.map fun e => e.1)) := by
  unfold tD
  rw [keys_map]
  show some (T.lst (((d.map fun e => e.1).map k).map T.pv)) = _
  rw [tL_tv]
theorem gLstD_tE {κ ν : Type} {k : κ → P} {c : ν → T} {d : List (κ × ν)} : gLstD [tE k c d] = some (tL (tv k) (d.map fun e => e.1)) := by
  unfold tE
  rw [keys_map]
  show some (T.lst (((d.map fun e => e.1).map k).map T.pv)) = _
  rw [tL_tv]
theorem gRevT_T {α : Type} {c : α → P} {l : List α} : gRevT none (tv (cT c) l) = some (tv (cT c) l.reverse) := by
  show some (T.pv (.tup (((l.map c).take (l.map c).length).reverse))) = some (T.pv (.tup (l.reverse.map c)))
  rw [List.take_length, List.map_reverse]
theorem gRevT_2 {α β : Type} {a : α → P} {b : β → P} {p : α × β} : gRevT none (tv (c2 a b) p) = some (tv (c2 b a) (p.2, p.1)) := rfl
theorem gRevT_2i {α β : Type} {a : α → P} {b : β → P} {p : α × β} : gRevT (some ((1 : Nat) : Int)) (tv (c2 a b) p) = some (tv (c2 b a) (p.2, p.1)) := rfl
theorem gRevT_3i {α β γ : Type} {a : α → P} {b : β → P} {c : γ → P} {p : α × β × γ} : gRevT (some ((1 : Nat) : Int)) (tv (c3 a b c) p) = some (tv (c2 b a) (p.2.1, p.1)) := rfl
def atS (x : Str) (i : Int) : Option Str := if x.length ≤ big then (atI x.cps.toList i).map fun c => ⟨#[c]⟩ else none
def lenS (x : Str) : Option Int := if x.length ≤ big then some (x.length : Int) else none
def cutSG (x : Str) (lo hi : Option Int) : Option Str := if x.length ≤ big then some (cutS x lo hi) else none
def intG (x : Str) : Option Int := if x.length ≤ 640 then PySem.intText? x else none
def strG (i : Int) : Option Str := if i.natAbs.log2 < 1920 then some (toString i) else none
theorem gIx_S {x v : Str} {i : Int} (h : atS x i = some v) : gIx (tv cS x) (tv cI i) = some (tv cS v) := by
  unfold atS at h
  split at h
  · rename_i e
    show (if x.length ≤ 16777216 then (atI x.cps.toList i).map fun c => T.pv (.str ⟨#[c]⟩) else none) = _
    rw [if_pos (show x.length ≤ 16777216 from e)]
    cases e2 : atI x.cps.toList i with
    | none => rw [e2] at h; cases h
    | some c => rw [e2] at h; cases h; rfl
  · cases h
theorem gLen_S {x : Str} {v : Int} (h : lenS x = some v) : gLen [tv cS x] = some (tv cI v) := by
  unfold lenS at h
  split at h
  · rename_i e
    cases h
    show (if x.length ≤ 16777216 then some (T.pv (.int x.length)) else none) = _
    rw [if_pos (show x.length ≤ 16777216 from e)]
  · cases h
theorem gSl_S {x v : Str} {lo hi : Option Int} (h : cutSG x lo hi = some v) : gSl (tv cS x) lo hi = some (tv cS v) := by
  unfold cutSG at h
  split at h
  · rename_i e
    cases h
    show (if x.length ≤ 16777216 then some (T.pv (.str (cutS x lo hi))) else none) = _
    rw [if_pos (show x.length ≤ 16777216 from e)]
  · cases h
theorem gInt_S {x : Str} {v : Int} (h : intG x = some v) : gInt [tv cS x] = some (tv cI v) := by
  unfold intG at h
  split at h
  · rename_i e
    show (if x.length ≤ 640 then (PySem.intText? x).map fun n => T.pv (.int n) else none) = _
    rw [if_pos e, h]; rfl
  · cases h
theorem gStr_g {i : Int} {v : Str} (h : strG i = some v) : gStr [tv cI i] = some (tv cS v) := by
  unfold strG at h
  split at h
  · rename_i e
    cases h
    show (if i.natAbs.log2 < 1920 then some (T.pv (.str (toString i))) else none) = _
    rw [if_pos e]
  · cases h
section
variable {ρ : Env}
theorem eOrS {f g : Env → R Env (Bool × Env)} {a : Bool} {ρ1 : Env} {o : R Env (Bool × Env)} (h1 : f ρ = .ok (a, ρ1)) (ht : a = true → R.ok (true, ρ1) = o) (hf : a = false → g ρ1 = o) : sOrT f g ρ = o := by
  unfold sOrT
  rw [h1, R.bind_ok]
  cases a with
  | true => exact ht rfl
  | false => exact hf rfl
theorem eAndS {f g : Env → R Env (Bool × Env)} {a : Bool} {ρ1 : Env} {o : R Env (Bool × Env)} (h1 : f ρ = .ok (a, ρ1)) (ht : a = true → g ρ1 = o) (hf : a = false → R.ok (false, ρ1) = o) : sAndT f g ρ = o := by
  unfold sAndT
  rw [h1, R.bind_ok]
  cases a with
  | true => exact ht rfl
  | false => exact hf rfl
end
end TR
namespace TR
open PySem PySem.Spec PyProof.Rows L2
section
variable {α β γ δ σ ρρ κ ν : Type}
def Ok (o : Option α) (Q : α → Prop) : Prop := ∃ a, o = some a ∧ Q a
theorem ok_some {a : α} {Q : α → Prop} (h : Q a) : Ok (some a) Q := ⟨a, rfl, h⟩
theorem ok_eq {o : Option α} {a : α} {Q : α → Prop} (e : o = some a) (h : Q a) : Ok o Q := ⟨a, e, h⟩
theorem Ok.mono {o : Option α} {P Q : α → Prop} (h : Ok o P) (i : ∀ a, P a → Q a) : Ok o Q := by
  obtain ⟨a, e, p⟩ := h
  exact ⟨a, e, i a p⟩
theorem ok_bind {o : Option α} {f : α → Option β} {Q : β → Prop} (h : Ok o fun a => Ok (f a) Q) : Ok (o.bind f) Q := by
  obtain ⟨a, e, h⟩ := h
  rw [e]; exact h
theorem ok_bnd {a : α} {f : α → Option β} {Q : β → Prop} (h : Ok (f a) Q) : Ok (bnd a f) Q := h
theorem ok_bind2 {o : Option (α × β)} {f : α → β → Option γ} {Q : γ → Prop} (h : Ok o fun p => Ok (f p.1 p.2) Q) : Ok (bind2 o f) Q := ok_bind h
theorem ok_bind3 {o : Option (α × β × γ)} {f : α → β → γ → Option δ} {Q : δ → Prop} (h : Ok o fun p => Ok (f p.1 p.2.1 p.2.2) Q) : Ok (bind3 o f) Q := ok_bind h
theorem ok_bind4 {α4 : Type} {o : Option (α × β × γ × α4)} {f : α → β → γ → α4 → Option δ} {Q : δ → Prop} (h : Ok o fun p => Ok (f p.1 p.2.1 p.2.2.1 p.2.2.2) Q) : Ok (bind4 o f) Q := ok_bind h
theorem ok_ite {c : Bool} {x y : Option α} {Q : α → Prop} (h1 : c = true → Ok x Q) (h2 : c = false → Ok y Q) : Ok (if c = true then x else y) Q := by
  cases c with
  | true => exact h1 rfl
  | false => exact h2 rfl
theorem ok_bindC {o : Option (Ctl σ ρρ)} {fr : ρρ → Option γ} {fn : σ → Option γ} {Q : γ → Prop} (h : Ok o fun c => (∀ s, c = .nx s → Ok (fn s) Q) ∧ ∀ r, c = .rt r → Ok (fr r) Q) : Ok (bindC o fr fn) Q := by
  obtain ⟨c, e, h1, h2⟩ := h
  rw [e]
  cases c with
  | nx s => exact h1 s rfl
  | rt r => exact h2 r rfl
theorem ok_forL {f : σ → α → Option σ} {Q : σ → Prop} (I : List α → σ → Prop) : ∀ (xs : List α) (s : σ) (pre : List α), I pre s → (∀ p x r s, pre ++ xs = p ++ x :: r → I p s → Ok (f s x) (I (p ++ [x]))) → (∀ s, I (pre ++ xs) s → Q s) → Ok (forL xs s f) Q
  | [], s, pre, h, _, fin => ok_some (fin s (by rw [List.append_nil]; exact h))
  | x :: xs, s, pre, h, st, fin => by
    refine ok_bind ((st pre x xs s rfl h).mono fun s1 h1 => ok_forL I xs s1 (pre ++ [x]) h1 (fun p y r s e hI => st p y r s (by rw [← e]; simp) hI) fun s hI => fin s (by simpa using hI))
theorem ok_forC {f : σ → α → Option (Ctl σ ρρ)} {Q : Ctl σ ρρ → Prop} (I : List α → σ → Prop) : ∀ (xs : List α) (s : σ) (pre : List α), I pre s → (∀ p x r s, pre ++ xs = p ++ x :: r → I p s → Ok (f s x) fun c => match c with
      | .nx s => I (p ++ [x]) s
      | .rt r => Q (.rt r)) → (∀ s, I (pre ++ xs) s → Q (.nx s)) → Ok (forC xs s f) Q
  | [], s, pre, h, _, fin => ok_some (fin s (by rw [List.append_nil]; exact h))
  | x :: xs, s, pre, h, st, fin => by
    refine ok_bind ((st pre x xs s rfl h).mono fun c h1 => ?_)
    cases c with
    | nx s1 => exact ok_forC I xs s1 (pre ++ [x]) h1 (fun p y r s e hI => st p y r s (by rw [← e]; simp) hI) fun s hI => fin s (by simpa using hI)
    | rt r => exact ok_some h1
theorem ok_whileL {c : σ → Option Bool} {b : σ → Option σ} {Q : σ → Prop} (I : Nat → σ → Prop) (st : ∀ m s, I m s → Ok (c s) fun t => (t = true → Ok (b s) fun s' => ∃ m', m' < m ∧ I m' s') ∧ (t = false → Q s)) : ∀ (n m : Nat) (s : σ), m < n → I m s → Ok (whileL n s c b) Q
  | 0, m, s, h, _ => absurd h (Nat.not_lt_zero _)
  | n + 1, m, s, h, hI => by
    refine ok_bind ((st m s hI).mono fun t ht => ok_ite (fun e => ok_bind ((ht.1 e).mono fun s' ⟨m', h1, h2⟩ => ok_whileL I st n m' s' (by omega) h2)) fun e => ok_some (ht.2 e))
theorem ok_compS {f : σ → α → Option (β × σ)} {Q : List β × σ → Prop} (I : List α → List β → σ → Prop) : ∀ (xs : List α) (s : σ) (pre : List α) (ys : List β), I pre ys s → (∀ p x r ys s, pre ++ xs = p ++ x :: r → I p ys s → Ok (f s x) fun q => I (p ++ [x]) (ys ++ [q.1]) q.2) → (∀ zs s, I (pre ++ xs) (ys ++ zs) s → Q (zs, s)) → Ok (compS xs s f) Q
  | [], s, pre, ys, h, _, fin => ok_some (fin [] s (by simpa using h))
  | x :: xs, s, pre, ys, h, st, fin => by
    refine ok_bind ((st pre x xs ys s rfl h).mono fun q h1 => ok_bind (ok_compS I xs q.2 (pre ++ [x]) (ys ++ [q.1]) h1 (fun p y r ys s e hI => st p y r ys s (by rw [← e]; simp) hI) fun zs s hI => ok_some (fin (q.1 :: zs) s (by simpa using hI))))
theorem compM_ok {p : α → Option Bool} {f : α → Option β} {q : α → Bool} {g : α → β} : ∀ (l : List α), (∀ x ∈ l, p x = some (q x)) → (∀ x ∈ l, q x = true → f x = some (g x)) → compM l p f = some ((l.filter q).map g)
  | [], _, _ => rfl
  | x :: l, h1, h2 => by
    unfold compM
    rw [h1 x List.mem_cons_self, Option.bind_some, compM_ok l (fun y hy => h1 y (List.mem_cons_of_mem _ hy)) fun y hy => h2 y (List.mem_cons_of_mem _ hy)]
    cases e : q x with
    | true => rw [if_pos rfl, h2 x List.mem_cons_self e, List.filter_cons_of_pos e]; rfl
    | false => rw [if_neg Bool.false_ne_true, List.filter_cons_of_neg (by rw [e]; exact Bool.false_ne_true)]
theorem compM_all {f : α → Option β} {g : α → β} (l : List α) (h : ∀ x ∈ l, f x = some (g x)) : compM l yesM f = some (l.map g) := by
  have := compM_ok (q := fun _ => true) l (fun _ _ => rfl) fun x hx _ => h x hx
  rw [List.filter_eq_self.mpr (fun _ _ => rfl)] at this
  exact this
theorem forL_eq {f : σ → α → Option σ} {g : σ → α → σ} : ∀ (xs : List α) (s : σ), (∀ s, ∀ x ∈ xs, f s x = some (g s x)) → forL xs s f = some (xs.foldl g s)
  | [], s, _ => rfl
  | x :: xs, s, h => by
    show (f s x).bind _ = _
    rw [h s x List.mem_cons_self, Option.bind_some, forL_eq xs _ fun s y hy => h s y (List.mem_cons_of_mem _ hy)]; rfl
theorem mulG_ok {a b : Int} (h : -(2 ^ 64) < a ∧ a < 2 ^ 64 ∨ -(2 ^ 64) < b ∧ b < 2 ^ 64) : mulG a b = some (a * b) := by
  unfold mulG
  rw [if_pos (h.elim (fun h => cMul_l h.1 h.2) fun h => cMul_r h.1 h.2)]
theorem divG_ok {a b : Int} (h0 : 0 < b) (h1 : b < 2 ^ 64) : divG a b = some (a / b) := by unfold divG; rw [if_pos (cDiv_lit h0 h1)]
theorem modG_ok {a b : Int} (h0 : 0 < b) : modG a b = some (a % b) := by unfold modG; rw [if_pos h0]
theorem catG_ok {l m : List α} (h : l.length + m.length ≤ 16777216) : catG l m = some (l ++ m) := by unfold catG; rw [if_pos h]
theorem extG_ok {l m : List α} (h : l.length + m.length ≤ 16777216) : extG l m = some (l ++ m) := by unfold extG; rw [if_pos h]
theorem appG_ok {l : List α} {x : α} (h : l.length < 16777216) : appG l x = some (l ++ [x]) := by unfold appG; rw [if_pos h]
theorem insG_ok {l : List α} {i : Int} {x : α} (h : l.length < 16777216) (h0 : 0 ≤ i) (h1 : i < 16777216) : insG l i x = some (l.take i.toNat ++ [x] ++ l.drop i.toNat) := by unfold insG; rw [if_pos ⟨h, h0, h1⟩]
theorem rng1G_ok {b : Int} (h0 : -16777216 ≤ b) (h1 : b ≤ 16777216) : rng1G b = some (rngL 0 b) := by unfold rng1G; rw [if_pos ⟨h0, h1⟩]
theorem rng2G_ok {a b : Int} (h0 : -8388608 ≤ a) (h1 : a ≤ 8388608) (h2 : -8388608 ≤ b) (h3 : b ≤ 8388608) : rng2G a b = some (rngL a b) := by unfold rng2G; rw [if_pos ⟨h0, h1, h2, h3⟩]
theorem rngLG_ok {a b : Int} (h0 : -1000000 ≤ a) (h1 : a ≤ 1000000) (h2 : -1000000 ≤ b) (h3 : b ≤ 1000000) : rngLG a b = some (rngL a b) := by
  unfold rngLG rgOkB
  rw [if_pos]
  simp only [Bool.and_eq_true, decide_eq_true_eq]
  omega
theorem mem_rngL {a b x : Int} : x ∈ rngL a b ↔ a ≤ x ∧ x < b := by
  unfold rngL
  rw [List.mem_map]
  constructor
  · rintro ⟨i, hi, rfl⟩
    have := List.mem_range.mp hi
    omega
  · intro h
    exact ⟨(x - a).toNat, List.mem_range.mpr (by omega), by omega⟩
theorem len_rngL {a b : Int} : (rngL a b).length = (b - a).toNat := by unfold rngL; rw [List.length_map, List.length_range]
theorem getE_rngL {a b : Int} {i : Nat} {x : Int} (h : (rngL a b)[i]? = some x) : x = a + i := by
  unfold rngL at h
  rw [List.getElem?_map] at h
  cases e : (List.range (b - a).toNat)[i]? with
  | none => rw [e] at h; cases h
  | some j =>
    rw [e] at h
    have h2 := (List.getElem?_eq_some_iff.mp e).2
    simp at h2
    have h3 : a + (j : Int) = x := by simpa using h
    omega
theorem nodup_rngL {a b : Int} : (rngL a b).Nodup := by
  unfold rngL
  exact List.Pairwise.map _ (fun i j h => by intro e; apply h; omega) List.nodup_range
theorem atI_ok {l : List α} {i : Int} {x : α} (h : l[i.toNat]? = some x) (h0 : 0 ≤ i) : atI l i = some x := by
  have e : i = ((i.toNat : Nat) : Int) := by omega
  rw [e, atI_nat', h]
theorem atI_lt {l : List α} {i : Int} (h0 : 0 ≤ i) (h1 : i < l.length) : ∃ x, atI l i = some x ∧ l[i.toNat]? = some x ∧ x ∈ l := by
  have h : i.toNat < l.length := by omega
  exact ⟨l[i.toNat], atI_ok (List.getElem?_eq_getElem h) h0, List.getElem?_eq_getElem h, List.getElem_mem h⟩
theorem atI_nat {l : List α} {k : Nat} {x : α} (h : l[k]? = some x) : atI l (k : Int) = some x := by rw [atI_nat', h]
theorem ixN_ok {n : Nat} {i : Int} (h0 : 0 ≤ i) (h1 : i < n) : ixN n i = some i.toNat := by
  have e : i = ((i.toNat : Nat) : Int) := by omega
  have h2 := ixN_nat (n := n) (k := i.toNat) (by omega)
  rw [← e] at h2
  exact h2
theorem setI_ok {l : List α} {i : Int} {x : α} (h0 : 0 ≤ i) (h1 : i < l.length) : setI l i x = some (l.set i.toNat x) := by unfold setI; rw [ixN_ok h0 h1]; rfl
theorem popI_ok {l : List α} {i : Int} (h0 : 0 ≤ i) (h1 : i < l.length) (h2 : l.length ≤ 16777216) : ∃ x, popI l i = some (l.eraseIdx i.toNat, x) ∧ l[i.toNat]? = some x ∧ (x :: l.eraseIdx i.toNat).Perm l := by
  have h : i.toNat < l.length := by omega
  refine ⟨l[i.toNat], ?_, List.getElem?_eq_getElem h, erase_perm l i.toNat h⟩
  unfold popI
  rw [if_pos (by omega), ixN_ok h0 h1, Option.bind_some, List.getElem?_eq_getElem h]; rfl
theorem popE_ok {l : List α} {x : α} : popE (l ++ [x]) = some (l, x) := by
  unfold popE
  rw [List.length_append, List.length_singleton, Nat.add_sub_cancel, List.getElem?_append_right (Nat.le_refl _), Nat.sub_self]
  show some ((l ++ [x]).eraseIdx l.length, x) = _
  rw [List.eraseIdx_append_of_length_le (Nat.le_refl _), Nat.sub_self]; simp
theorem sIx_pos {n d : Nat} {i : Int} (h : 0 ≤ i) : HT.sIx n d (some i) = min i.toNat n := by
  show (if i < 0 then (i + (n : Int)).toNat else min i.toNat n) = _
  rw [if_neg (by omega)]
theorem cutP_to {l : List α} {i : Int} (h : 0 ≤ i) : cutP l none (some i) = l.take i.toNat := by
  unfold cutP
  rw [sIx_pos h]
  show (l.drop 0).take (min i.toNat l.length - 0) = _
  rw [List.drop_zero, Nat.sub_zero]
  by_cases q : i.toNat ≤ l.length
  · rw [Nat.min_eq_left q]
  · rw [Nat.min_eq_right (by omega), List.take_length, List.take_of_length_le (by omega)]
theorem cutP_from {l : List α} {i : Int} (h : 0 ≤ i) : cutP l (some i) none = l.drop i.toNat := by
  unfold cutP
  rw [sIx_pos h]
  show (l.drop (min i.toNat l.length)).take (l.length - min i.toNat l.length) = _
  rw [List.take_of_length_le (by rw [List.length_drop]; omega)]
  by_cases q : i.toNat ≤ l.length
  · rw [Nat.min_eq_left q]
  · rw [Nat.min_eq_right (by omega), List.drop_length, List.drop_of_length_le (by omega)]
theorem cutP_len {l : List α} {lo hi : Option Int} : (cutP l lo hi).length ≤ l.length := by
  unfold cutP
  rw [List.length_take, List.length_drop]
  omega
theorem cutP_sub {l : List α} {lo hi : Option Int} : (cutP l lo hi).Sublist l := (List.take_sublist _ _).trans (List.drop_sublist _ _)
variable [DecidableEq κ]
def mkD (nm : List κ) (f : κ → ν) : List (κ × ν) := nm.map fun x => (x, f x)
def upd1F (f : κ → ν) (x : κ) (v : ν) : κ → ν := fun y => if y = x then v else f y
theorem mkD_congr {nm : List κ} {f g : κ → ν} (h : ∀ x ∈ nm, f x = g x) : mkD nm f = mkD nm g := List.map_congr_left fun x hx => by rw [h x hx]
theorem dget_mk {f : κ → ν} {x : κ} : ∀ {nm : List κ}, x ∈ nm → dget (mkD nm f) x = some (f x)
  | [], h => by cases h
  | y :: nm, h => by
    show (if y = x then some (f y) else dget (mkD nm f) x) = _
    by_cases e : y = x
    · rw [if_pos e, e]
    · rw [if_neg e, dget_mk ((List.mem_cons.mp h).resolve_left fun z => e z.symm)]
theorem dget_none {f : κ → ν} {x : κ} : ∀ {nm : List κ}, x ∉ nm → dget (mkD nm f) x = none
  | [], _ => rfl
  | y :: nm, h => by
    show (if y = x then some (f y) else dget (mkD nm f) x) = _
    have ne : ¬ y = x := fun e => h (by rw [e]; exact List.mem_cons_self)
    rw [if_neg ne, dget_none fun z => h (List.mem_cons_of_mem _ z)]
theorem dhas_mk {f : κ → ν} {x : κ} {nm : List κ} : dhas (mkD nm f) x = decide (x ∈ nm) := by
  unfold dhas
  by_cases h : x ∈ nm
  · rw [dget_mk h, decide_eq_true h]; rfl
  · rw [dget_none h, decide_eq_false h]; rfl
theorem dset_mk {f : κ → ν} {x : κ} {v : ν} : ∀ {nm : List κ}, nm.Nodup → x ∈ nm → dset (mkD nm f) x v = mkD nm (upd1F f x v)
  | [], _, h => by cases h
  | y :: nm, nd, h => by
    have nd := List.nodup_cons.mp nd
    show (if y = x then (y, v) :: mkD nm f else (y, f y) :: dset (mkD nm f) x v) = (y, upd1F f x v y) :: mkD nm (upd1F f x v)
    by_cases e : y = x
    · subst e
      rw [if_pos rfl, show upd1F f y v y = v from if_pos rfl]
      congr 1
      exact mkD_congr fun z hz => (if_neg (fun q : z = y => nd.1 (q ▸ hz))).symm
    · rw [if_neg e, dset_mk nd.2 ((List.mem_cons.mp h).resolve_left fun z => e z.symm), show upd1F f x v y = f y from if_neg e]
theorem dset_new {f : κ → ν} {x : κ} : ∀ {nm : List κ}, x ∉ nm → dset (mkD nm f) x (f x) = mkD (nm ++ [x]) f
  | [], _ => rfl
  | y :: nm, h => by
    have ne : ¬ y = x := fun e => h (by rw [e]; exact List.mem_cons_self)
    have ih := dset_new (f := f) (fun z => h (List.mem_cons_of_mem y z))
    show (if y = x then (y, f x) :: mkD nm f else (y, f y) :: dset (mkD nm f) x (f x)) = _
    rw [if_neg ne, ih]; rfl
theorem len_mkD {nm : List κ} {f : κ → ν} : (mkD nm f).length = nm.length := List.length_map _
theorem dput_mk {f : κ → ν} {x : κ} {v : ν} {nm : List κ} (nd : nm.Nodup) (hl : nm.length < 16777216) (h : x ∈ nm) : dput (mkD nm f) x v = some (mkD nm (upd1F f x v)) := by
  unfold dput
  rw [if_pos (by rw [len_mkD]; exact hl), dset_mk nd h]
theorem dput_new {f : κ → ν} {x : κ} {v : ν} {nm : List κ} (hl : nm.length < 16777216) (h : x ∉ nm) (hv : f x = v) : dput (mkD nm f) x v = some (mkD (nm ++ [x]) f) := by
  unfold dput
  rw [if_pos (by rw [len_mkD]; exact hl), ← hv, dset_new h]
theorem dgetG_mk {f : κ → ν} {x : κ} {nm : List κ} (hl : nm.length < 16777216) (h : x ∈ nm) : dgetG (mkD nm f) x = some (f x) := by
  unfold dgetG
  rw [if_pos (by rw [len_mkD]; exact hl), dget_mk h]
theorem dnew_mk {f : κ → ν} {nm : List κ} (nd : nm.Nodup) : dnew (nm.map fun x => (x, f x)) = some (mkD nm f) := by
  unfold dnew
  rw [if_pos]; rfl
  rw [List.map_map]
  exact (by simpa using nd : (nm.map fun x => x).Nodup)
theorem fill_mk {f : κ → ν} {body : List (κ × ν) → κ → Option (List (κ × ν))} (hb : ∀ d x, body d x = dput d x (f x)) : ∀ (xs pre : List κ), (pre ++ xs).Nodup → (pre ++ xs).length < 16777216 → forL xs (mkD pre f) body = some (mkD (pre ++ xs) f)
  | [], pre, _, _ => by rw [List.append_nil]; rfl
  | x :: xs, pre, nd, hl => by
    have h := (List.nodup_append.mp nd).2.2
    show (body (mkD pre f) x).bind _ = _
    rw [hb, dput_new (by rw [List.length_append] at hl; omega) (fun z => h x z x List.mem_cons_self rfl) rfl, Option.bind_some, fill_mk hb xs (pre ++ [x]) (by simpa using nd) (by simpa using hl)]
    simp
theorem relabel_mk {f : κ → ν} [DecidableEq ν] {one other : ν} {nm : List κ} {body : List (κ × ν) → κ → Option (List (κ × ν))} (nd : nm.Nodup) (hl : nm.length < 16777216) (hb : ∀ d x, body d x = (dget d x).bind fun v => if eqB v other = true then (dput d x one).bind fun l => some l else some d) :
    forL nm (mkD nm f) body = some (mkD nm fun y => if f y = other then one else f y) := by
  have main : ∀ (xs pre : List κ), pre ++ xs = nm → forL xs (mkD nm fun y => if y ∈ pre ∧ f y = other then one else f y) body = some (mkD nm fun y => if f y = other then one else f y) := by
    intro xs
    induction xs with
    | nil =>
      intro pre e
      rw [List.append_nil] at e
      subst e
      show some _ = some _
      congr 1
      exact mkD_congr fun y hy => by simp [hy]
    | cons x xs ih =>
      intro pre e
      have hx : x ∈ nm := by rw [← e]; simp
      have hxp : x ∉ pre := fun z => by
        rw [← e] at nd
        exact (List.nodup_append.mp nd).2.2 x z x List.mem_cons_self rfl
      show (body _ x).bind _ = _
      rw [hb, dget_mk hx, Option.bind_some]
      have e1 : (if x ∈ pre ∧ f x = other then one else f x) = f x := if_neg fun z => hxp z.1
      rw [e1]
      have step : (if eqB (f x) other = true then (dput (mkD nm fun y => if y ∈ pre ∧ f y = other then one else f y) x one).bind fun l => some l else some (mkD nm fun y => if y ∈ pre ∧ f y = other then one else f y)) = some (mkD nm fun y => if y ∈ pre ++ [x] ∧ f y = other then one else f y) := by
        by_cases q : f x = other
        · rw [if_pos (by simp [q]), dput_mk nd hl hx]
          show some _ = some _
          congr 1
          exact mkD_congr fun y _ => by
            unfold upd1F
            by_cases q2 : y = x
            · subst q2; simp [q]
            · simp [q2]
        · rw [if_neg (by simp [q])]
          congr 1
          exact mkD_congr fun y _ => by
            by_cases q2 : y = x
            · subst q2; simp [q]
            · simp [q2]
      rw [step, Option.bind_some]
      exact ih (pre ++ [x]) (by simpa using e)
  have := main nm [] rfl
  simpa using this
end
end TR
namespace LW
open PySem PySem.Spec PyProof.Rows L2 TR
abbrev top (i : Nat) : Stmt := PySem.Challenge.pw_treerounds_k48_even_webs.main.body.getD i (.Pass ⟨0, 0, 0, 0⟩)
abbrev s__law_cells : Stmt := top 7
abbrev N__law_cells : List Str := ["script", "many"]
theorem sc__law_cells : FnScope N__law_cells ["script", "many"] (defScope s__law_cells) := ⟨rfl, rfl, rfl, by decide +kernel, rfl, by decide +kernel, by decide +kernel⟩
abbrev s__law_seed : Stmt := top 5
abbrev N__law_seed : List Str := ["cell", "number"]
theorem sc__law_seed : FnScope N__law_seed ["cell"] (defScope s__law_seed) := ⟨rfl, rfl, rfl, by decide +kernel, rfl, by decide +kernel, by decide +kernel⟩
abbrev s__law_draw : Stmt := top 6
abbrev N__law_draw : List Str := ["seed", "most", "found", "number"]
theorem sc__law_draw : FnScope N__law_draw ["seed", "most"] (defScope s__law_draw) := ⟨rfl, rfl, rfl, by decide +kernel, rfl, by decide +kernel, by decide +kernel⟩
abbrev s__law_names : Stmt := top 8
abbrev N__law_names : List Str := ["seed", "many", "spare", "letters", "found", "k", "word", "j"]
theorem sc__law_names : FnScope N__law_names ["seed", "many"] (defScope s__law_names) := ⟨rfl, rfl, rfl, by decide +kernel, rfl, by decide +kernel, by decide +kernel⟩
abbrev s__law_walk : Stmt := top 9
abbrev N__law_walk : List Str := ["seed", "names", "most", "here", "first", "found", "k", "others", "name", "there"]
theorem sc__law_walk : FnScope N__law_walk ["seed", "names", "most"] (defScope s__law_walk) := ⟨rfl, rfl, rfl, by decide +kernel, rfl, by decide +kernel, by decide +kernel⟩
abbrev s__law_web : Stmt := top 10
abbrev N__law_web : List Str := ["seed", "many", "most", "names", "way", "some", "arrows", "half", "k", "one", "others", "name", "at"]
theorem sc__law_web : FnScope N__law_web ["seed", "many", "most"] (defScope s__law_web) := ⟨rfl, rfl, rfl, by decide +kernel, rfl, by decide +kernel, by decide +kernel⟩
abbrev s_used_web : Stmt := top 1
abbrev N_used_web : List Str := ["web", "names", "name", "arrow"]
theorem sc_used_web : FnScope N_used_web ["web"] (defScope s_used_web) := ⟨rfl, rfl, rfl, by decide +kernel, rfl, by decide +kernel, by decide +kernel⟩
abbrev s_reached_from : Stmt := top 2
abbrev N_reached_from : List Str := ["web", "name", "found", "line", "here", "arrow", "more", "other"]
theorem sc_reached_from : FnScope N_reached_from ["web", "name"] (defScope s_reached_from) := ⟨rfl, rfl, rfl, by decide +kernel, rfl, by decide +kernel, by decide +kernel⟩
abbrev s_is_even : Stmt := top 3
abbrev N_is_even : List Str := ["web", "names", "arrows", "name", "arrow"]
theorem sc_is_even : FnScope N_is_even ["web"] (defScope s_is_even) := ⟨rfl, rfl, rfl, by decide +kernel, rfl, by decide +kernel, by decide +kernel⟩
abbrev s__law_used : Stmt := top 11
abbrev N__law_used : List Str := ["web", "name", "arrow"]
theorem sc__law_used : FnScope N__law_used ["web"] (defScope s__law_used) := ⟨rfl, rfl, rfl, by decide +kernel, rfl, by decide +kernel, by decide +kernel⟩
abbrev s__law_is_even : Stmt := top 12
abbrev N__law_is_even : List Str := ["web", "group", "name", "one", "other", "both", "starts", "arrow", "ends"]
theorem sc__law_is_even : FnScope N__law_is_even ["web"] (defScope s__law_is_even) := ⟨rfl, rfl, rfl, by decide +kernel, rfl, by decide +kernel, by decide +kernel⟩
abbrev s_law : Stmt := top 13
abbrev N_law : List Str := ["script", "cell", "seed", "web", "some", "at", "arrow", "one", "due", "found", "two"]
theorem sc_law : FnScope N_law ["script"] (defScope s_law) := ⟨rfl, rfl, rfl, by decide +kernel, rfl, by decide +kernel, by decide +kernel⟩
structure Mg (mg : Str → Option Value) : Prop where
  bool_ : mg "bool" = none
  dict_ : mg "dict" = none
  int_ : mg "int" = none
  isinstance_ : mg "isinstance" = none
  len_ : mg "len" = none
  list_ : mg "list" = none
  max_ : mg "max" = none
  min_ : mg "min" = none
  range_ : mg "range" = none
  sorted_ : mg "sorted" = none
  tuple_ : mg "tuple" = none
def b__law_cells : FF := (tRetF (f2 gAdd (fSl (fVar 0) pNone (pSome (fVar 1))) (fLst (aCons (fN gLen (aCons (fVar 0) aNil)) aNil))))
def fn__law_cells : Fn := fnOf [false, false] 2 b__law_cells
def b__law_seed : FF := (tSq (tSet 1 (fN gMax2 (aCons (fVar 0) (aCons (f2 gSub (fC (.int 0)) (fVar 0)) aNil))))
    (tRetF (fLst (aCons (fPure (fVar 1)) (aCons (fN gInt (aCons (f2 gGe (fVar 1) (f2 gPow (fC (.int 10)) (fC (.int 18)))) aNil)) (aCons (fC (.int 0)) (aCons (f2 gMod (fVar 0) (fC (.int 1999999873))) aNil)))))))
def fn__law_seed : Fn := fnOf [false] 2 b__law_seed
def b__law_draw : FF := (tSq (tSetP 0 pNil (fC (.int 2)) (f2 gAdd (f2 gIx (fVar 0) (fC (.int 2))) (fC (.int 1))))
    (tSq (tIfQ (fAndT (fB (f2 gEq (f2 gIx (fVar 0) (fC (.int 1))) (fC (.int 1)))) (fB (f2 gGt (f2 gIx (fVar 0) (fC (.int 0))) (fC (.int 0))))) (tSq (tSet 2 (f2 gMod (f2 gIx (fVar 0) (fC (.int 0))) (fVar 1)))
    (tSq (tSetP 0 pNil (fC (.int 0)) (f2 gDiv (f2 gIx (fVar 0) (fC (.int 0))) (fVar 1)))
    (tRetE (fMv 2)))) tNx)
    (tSq (tSet 3 (f2 gMod (f2 gMul (f2 gAdd (f2 gAdd (f2 gIx (fVar 0) (fC (.int 3))) (f2 gMul (fC (.int 7549)) (f2 gIx (fVar 0) (fC (.int 2))))) (fC (.int 53))) (fC (.int 48271))) (fC (.int 2147483647))))
    (tSq (tSet 3 (f2 gMod (f2 gMul (f2 gMod (f2 gMul (fVar 3) (fVar 3)) (fC (.int 2147483629))) (fC (.int 40692))) (fC (.int 2147483399))))
    (tRetF (f2 gMod (f2 gDiv (fVar 3) (fC (.int 7))) (fVar 1)))))))
def fn__law_draw : Fn := fnOf [true, false] 4 b__law_draw
def b__law_names : FF := (tSq (tSet 2 (fLst (aCons (fC (.str "a")) (aCons (fC (.str "ba")) (aCons (fC (.str "ab")) (aCons (fC (.str "aa")) (aCons (fC (.str "tie")) (aCons (fC (.str "nodes")) (aCons (fC (.str "node")) (aCons (fC (.str "tree")) (aCons (fC (.str "bab")) (aCons (fC (.str "abc")) (aCons (fC (.str "longname")) (aCons (fC (.str "longnamf")) (aCons (fC (.str "zz")) (aCons (fC (.str "z")) aNil))))))))))))))))
    (tSq (tSet 3 (fC (.str "abcdefghijklmnopqrstuvwxyz")))
    (tSq (tSetE 4 (sLc [5] (iQ (iLst rng1 (aCons (fVar 1) aNil))) (gN 5) fYes (sMethN "list" 2 muPopI (sCons (sCall fn__law_draw [true, false] (sCons (fLateN 0) (sCons (fVal (fN gLen (aCons (fVar 2) aNil))) sNil))) sNil))))
    (tSq (tForS (iLstE rng1 (sCons (s2 gMul (fLateN 1) (sN gInt (sCons (s2 gEq (sCall fn__law_draw [true, false] (sCons (fLateN 0) (sCons (fVal (fC (.int 3))) sNil))) (fVal (fC (.int 0)))) sNil))) sNil)) (gN 5)
    (tSq (tSetE 6 (sMethQ "str" gJoin (fVal (fC (.str ""))) (sCons (sLc [7] (iLstE rng1 (sCons (s2 gAdd (fVal (fC (.int 1))) (sCall fn__law_draw [true, false] (sCons (fLateN 0) (sCons (fVal (fC (.int 8))) sNil)))) sNil)) (gN 7) fYes (s2 gIxP (fLateN 3) (sCall fn__law_draw [true, false] (sCons (fLateN 0) (sCons (fVal (fC (.int 26))) sNil))))) sNil)))
    (tIfQ (fB (f2 gNotIn (fVar 6) (fVar 4))) (tSetP 4 pNil (fVar 5) (fPure (fVar 6))) tNx)))
    (tRetF (f1 gTupO (fN gSorted (aCons (fVar 4) aNil))))))))
def fn__law_names : Fn := fnOf [true, false] 8 b__law_names
def b__law_walk : FF := (tSq (tSetE 3 (s2 gIxP (fLateN 1) (sCall fn__law_draw [true, false] (sCons (fLateN 0) (sCons (fVal (fN gLen (aCons (fVar 1) aNil))) sNil)))))
    (tSq (tSet 4 (fPure (fVar 3)))
    (tSq (tSet 5 (fLst aNil))
    (tSq (tForS (iLstE rng1 (sCons (s2 gMul (sCall fn__law_draw [true, false] (sCons (fLateN 0) (sCons (fLateN 2) sNil))) (fVal (fN gInt (aCons (f2 gGt (fN gLen (aCons (fVar 1) aNil)) (fC (.int 1))) aNil)))) sNil)) (gN 6)
    (tSq (tSet 7 (fLc [8] (iSeqF (fVar 1)) (gN 8) (fB (f2 gNe (fVar 8) (fVar 3))) (fPure (fVar 8))))
    (tSq (tSetE 9 (s2 gIxP (fLateN 7) (sCall fn__law_draw [true, false] (sCons (fLateN 0) (sCons (fVal (fN gLen (aCons (fVar 7) aNil))) sNil)))))
    (tSq (tExpE (sMeth "list" 5 muAppend pNil (aCons (fTup (aCons (fPure (fVar 3)) (aCons (fPure (fVar 9)) aNil))) aNil)))
    (tSet 3 (fPure (fVar 9)))))))
    (tSq (tIfQ (fB (f2 gNe (fVar 3) (fVar 4))) (tExpE (sMeth "list" 5 muAppend pNil (aCons (fTup (aCons (fPure (fVar 3)) (aCons (fPure (fVar 4)) aNil))) aNil))) tNx)
    (tRetE (fMv 5)))))))
def fn__law_walk : Fn := fnOf [true, false, false] 10 b__law_walk
def b__law_web : FF := (tSq (tSetE 3 (sCall fn__law_names [true, false] (sCons (fLateN 0) (sCons (s2 gAdd (fVal (fC (.int 1))) (sCall fn__law_draw [true, false] (sCons (fLateN 0) (sCons (fLateN 1) sNil)))) sNil))))
    (tSq (tSetE 4 (sCall fn__law_draw [true, false] (sCons (fLateN 0) (sCons (fVal (fC (.int 5))) sNil))))
    (tSq (tIfQ (fB (f2 gLt (fVar 4) (fC (.int 3)))) (tSq (tSetE 5 (sSl (fLateN 3) (sPSome (s2 gMul (sCall fn__law_draw [true, false] (sCons (fLateN 0) (sCons (fVal (fC (.int 2))) sNil))) (fVal (fN gInt (aCons (f2 gGt (fN gLen (aCons (fVar 3) aNil)) (fC (.int 2))) aNil))))) sPNone))
    (tSetE 6 (sCall fn__law_walk [true, false, false] (sCons (fLateN 0) (sCons (fLateN 5) (sCons (fLateN 2) sNil)))))) (tSq (tSet 7 (f2 gDiv (fN gLen (aCons (fVar 3) aNil)) (fC (.int 2))))
    (tSetE 6 (s2 gAdd (sCall fn__law_walk [true, false, false] (sCons (fLateN 0) (sCons (fVal (fSl (fVar 3) pNone (pSome (fN gMax2 (aCons (fC (.int 1)) (aCons (fVar 7) aNil)))))) (sCons (fVal (f2 gDiv (fVar 2) (fC (.int 2)))) sNil)))) (sCall fn__law_walk [true, false, false] (sCons (fLateN 0) (sCons (fVal (fSl (fVar 3) (pSome (fVar 7)) pNone)) (sCons (fVal (f2 gDiv (fVar 2) (fC (.int 2)))) sNil))))))))
    (tSq (tIfQ (fB (f2 gEq (fVar 4) (fC (.int 4)))) (tSq (tSet 6 (fLst aNil))
    (tForS (iLstE rng1 (sCons (s2 gMul (sCall fn__law_draw [true, false] (sCons (fLateN 0) (sCons (fVal (f2 gAdd (fVar 2) (fC (.int 1)))) sNil))) (fVal (fN gInt (aCons (f2 gGt (fN gLen (aCons (fVar 3) aNil)) (fC (.int 1))) aNil)))) sNil)) (gN 8)
    (tSq (tSetE 9 (s2 gIxP (fLateN 3) (sCall fn__law_draw [true, false] (sCons (fLateN 0) (sCons (fVal (fN gLen (aCons (fVar 3) aNil))) sNil)))))
    (tSq (tSet 10 (fLc [11] (iSeqF (fVar 3)) (gN 11) (fB (f2 gNe (fVar 11) (fVar 9))) (fPure (fVar 11))))
    (tExpE (sMethN "list" 6 muAppend (sCons (sTup (sCons (fLateN 9) (sCons (s2 gIxP (fLateN 10) (sCall fn__law_draw [true, false] (sCons (fLateN 0) (sCons (fVal (fN gLen (aCons (fVar 10) aNil))) sNil)))) sNil))) sNil))))))) tNx)
    (tSq (tIfQ (fAndT (fB (f2 gEq (fVar 4) (fC (.int 2)))) (fB (f2 gNe (fVar 6) (fLst aNil)))) (tSq (tSetE 12 (sCall fn__law_draw [true, false] (sCons (fLateN 0) (sCons (fVal (fN gLen (aCons (fVar 6) aNil))) sNil))))
    (tSetP 6 pNil (fVar 12) (f1 (gRevT none) (f2 gIx (fVar 6) (fVar 12))))) tNx)
    (tRetF (fTup (aCons (fPure (fVar 3)) (aCons (f1 gTupO (fN gSorted (aCons (fVar 6) aNil))) aNil)))))))))
def fn__law_web : Fn := fnOf [true, false, false] 13 b__law_web
def b_used_web : FF := (tSq (tSet 1 (fLc [2] (iSeqF (f2 gIx (fVar 0) (fC (.int 0)))) (gN 2) (fB (f2 gNe (fLc [3] (iSeqF (f2 gIx (fVar 0) (fC (.int 1)))) (gN 3) (fB (f2 gIn (fVar 2) (fVar 3))) (fPure (fVar 3))) (fLst aNil))) (fPure (fVar 2))))
    (tRetF (fTup (aCons (fN gTupV (aCons (fVar 1) aNil)) (aCons (f2 gIxP (fVar 0) (fC (.int 1))) aNil)))))
def fn_used_web : Fn := fnOf [false] 4 b_used_web
def b_reached_from : FF := (tSq (tSet 2 (fLst (aCons (fPure (fVar 1)) aNil)))
    (tSq (tSet 3 (fLst (aCons (fPure (fVar 1)) aNil)))
    (tSq (whileGo (fB (f2 gNe (fVar 3) (fLst aNil)))
    (tSq (tSetE 4 (sMeth "list" 3 muPop pNil aNilO))
    (tForF (iSeqF (f2 gIx (fVarZ 0) (fC (.int 1)))) (gN 5)
    (tIfQ (fB (f2 gIn (fVar 4) (fVar 5))) (tSq (tSet 6 (fLc [7] (iSeqF (fVar 5)) (gN 7) (fB (f2 gNotIn (fVar 7) (fVar 2))) (fPure (fVar 7))))
    (tSq (tExpE (sMeth "list" 2 muExtend pNil (aCons (fVar 6) aNil)))
    (tExpE (sMeth "list" 3 muExtend pNil (aCons (fVar 6) aNil))))) tNx))) 1000)
    (tRetE (fMv 2)))))
def fn_reached_from : Fn := fnOf [false, false] 8 b_reached_from
def b_is_even : FF := (tSq (tAs (gT (gsCons (gN 1) (gsCons (gN 2) gsNil))) (fCall fn_used_web (aCons (fVar 0) aNil)))
    (tSq (tForF (iSeqF (fVarZ 1)) (gN 3)
    (tIfQ (fB (f2 gNe (fN gLen (aCons (fLc [4] (iSeqF (fVar 2)) (gN 4) (fB (f2 gEq (f2 gIx (fVar 4) (fC (.int 0))) (fVar 3))) (fC (.int 1))) aNil)) (fN gLen (aCons (fLc [4] (iSeqF (fVar 2)) (gN 4) (fB (f2 gEq (f2 gIx (fVar 4) (fC (.int 1))) (fVar 3))) (fC (.int 1))) aNil)))) (tRetF (fC (.bl false))) tNx))
    (tRetF (fOrV (f2 gEq (fN gLen (aCons (fVar 1) aNil)) (fC (.int 0))) (f2 gEq (fN gLen (aCons (fCall fn_reached_from (aCons (fVar 0) (aCons (f2 gIx (fVar 1) (fC (.int 0))) aNil))) aNil)) (fN gLen (aCons (fVar 1) aNil)))))))
def fn_is_even : Fn := fnOf [false] 5 b_is_even
def b__law_used : FF := (tRetF (f1 gTupO (fLc [1] (iSeqF (f2 gIx (fVar 0) (fC (.int 0)))) (gN 1) (fB (f2 gNe (fLc [2] (iSeqF (f2 gIx (fVar 0) (fC (.int 1)))) (gN 2) (fB (f2 gIn (fVar 1) (fVar 2))) (fPure (fVar 2))) (fLst aNil))) (fPure (fVar 1)))))
def fn__law_used : Fn := fnOf [false] 3 b__law_used
def b__law_is_even : FF := (tSq (tSet 1 (f1 gDictO (fLc [2] (iSeqF (fCall fn__law_used (aCons (fVar 0) aNil))) (gN 2) fYes (fTup (aCons (fPure (fVar 2)) (aCons (fPure (fVar 2)) aNil))))))
    (tSq (tForF (iSeqF (f2 gIx (fVarZ 0) (fC (.int 1)))) (gT (gsCons (gN 3) (gsCons (gN 4) gsNil)))
    (tSq (tSet 5 (fLst (aCons (f2 gIxP (fVar 1) (fVar 3)) (aCons (f2 gIxP (fVar 1) (fVar 4)) aNil))))
    (tForF (iSeqF (fN gLstD (aCons (fVar 1) aNil))) (gN 2)
    (tIfQ (fB (f2 gIn (f2 gIx (fVar 1) (fVar 2)) (fVar 5))) (tSetP 1 pNil (fVar 2) (fN gMin (aCons (fVar 5) aNil))) tNx))))
    (tSq (tSet 6 (fN gSorted (aCons (fLc [7] (iSeqF (f2 gIx (fVar 0) (fC (.int 1)))) (gN 7) fYes (f2 gIxP (fVar 7) (fC (.int 0)))) aNil)))
    (tSq (tSet 8 (fN gSorted (aCons (fLc [7] (iSeqF (f2 gIx (fVar 0) (fC (.int 1)))) (gN 7) fYes (f2 gIxP (fVar 7) (fC (.int 1)))) aNil)))
    (tRetF (fAndV (f2 gEq (fVar 6) (fVar 8)) (f2 gEq (fLc [2] (iKeyF 1) (gN 2) (fB (f2 gNe (f2 gIx (fVar 1) (fVar 2)) (f2 gIx (fVar 1) (fN gMinD (aCons (fVar 1) aNil))))) (fPure (fVar 2))) (fLst aNil))))))))
def fn__law_is_even : Fn := fnOf [false] 9 b__law_is_even
def b_law : FF := (tSq (tForF (iSeqF (fCall fn__law_cells (aCons (fVar 0) (aCons (fC (.int 8)) aNil)))) (gN 1)
    (tSq (tSet 2 (fCall fn__law_seed (aCons (fVar 1) aNil)))
    (tSq (tSetE 3 (sCall fn__law_web [true, false, false] (sCons (fLateN 2) (sCons (fVal (fC (.int 12))) (sCons (fVal (fC (.int 23))) sNil)))))
    (tSq (tSet 4 (fLst (aCons (fPure (fVar 3)) aNil)))
    (tSq (tIfQ (fB (f2 gNe (f2 gIx (fVar 3) (fC (.int 1))) (fTup aNil))) (tSq (tSetE 5 (sCall fn__law_draw [true, false] (sCons (fLateN 2) (sCons (fVal (fN gLen (aCons (f2 gIx (fVar 3) (fC (.int 1))) aNil))) sNil))))
    (tSq (tExpE (sMeth "list" 4 muAppend pNil (aCons (fTup (aCons (f2 gIxP (fVar 3) (fC (.int 0))) (aCons (f2 gAdd (fSl (f2 gIx (fVar 3) (fC (.int 1))) pNone (pSome (fVar 5))) (fSl (f2 gIx (fVar 3) (fC (.int 1))) (pSome (f2 gAdd (fVar 5) (fC (.int 1)))) pNone)) aNil))) aNil)))
    (tSq (tExpE (sMeth "list" 4 muAppend pNil (aCons (fTup (aCons (f2 gIxP (fVar 3) (fC (.int 0))) (aCons (f1 gTupO (fN gSortedT (aCons (f2 gAdd (f2 gIx (fVar 3) (fC (.int 1))) (fTup (aCons (f1 (gRevT none) (f2 gIx (f2 gIx (fVar 3) (fC (.int 1))) (fVar 5))) aNil))) aNil))) aNil))) aNil)))
    (tExpE (sMeth "list" 4 muAppend pNil (aCons (fTup (aCons (f2 gIxP (fVar 3) (fC (.int 0))) (aCons (f1 gTupO (fN gSorted (aCons (fLc [6] (iSeqF (f2 gIx (fVar 3) (fC (.int 1)))) (gN 6) fYes (f1 (gRevT none) (fVar 6))) aNil))) aNil))) aNil)))))) tNx)
    (fun ρ => (tForF (iSeqF (fVarZ 4)) (gN 7)
    (tSq (tSet 8 (fOrV (f2 gEq (fN gLen (aCons (f2 gIx (fVar 7) (fC (.int 1))) aNil)) (fC (.int 0))) (fCall fn__law_is_even (aCons (fVar 7) aNil))))
    (tSq (tSet 9 (fCall fn_is_even (aCons (fVar 7) aNil)))
    (tIfQ (fOrT (fNotT (fB (fIsi "bool" (fVar 9)))) (fOrT (fB (f2 gNe (fVar 9) (fVar 8))) (fB (f2 gNe (fCall fn_is_even (aCons (fVar 7) aNil)) (fVar 8))))) (tRetF (fC (.bl false))) tNx)))) (fz 4 ρ)))))))
    (tSq (tSet 10 (fTup (aCons (fTup (aCons (fC (.str "a")) (aCons (fC (.str "b")) (aCons (fC (.str "c")) (aCons (fC (.str "d")) aNil))))) (aCons (fTup (aCons (fTup (aCons (fC (.str "a")) (aCons (fC (.str "b")) aNil))) (aCons (fTup (aCons (fC (.str "b")) (aCons (fC (.str "a")) aNil))) (aCons (fTup (aCons (fC (.str "c")) (aCons (fC (.str "d")) aNil))) (aCons (fTup (aCons (fC (.str "d")) (aCons (fC (.str "c")) aNil))) aNil))))) aNil))))
    (tRetF (fAndV (f2 (gB fun a b => decide (a = b)) (fCall fn_is_even (aCons (fTup (aCons (fTup (aCons (fC (.str "a")) aNil)) (aCons (fTup aNil) aNil))) aNil)) (fC (.bl true))) (f2 (gB fun a b => decide (a = b)) (fCall fn_is_even (aCons (fVar 10) aNil)) (fC (.bl false)))))))
def fn_law : Fn := fnOf [false] 11 b_law
theorem ok__law_cells {P : Program} {w : World} {K : PySem.W.Frag} {mg : Str → Option Value} {base : Heap} {k : Nat} {f : Addr} {fd : FuncData} (M : Mg mg)  (F : Fun K "_law_cells" "_law_cells" s__law_cells f fd) : FnOk P w K mg base (L2.CX P w) (k + 1) f fd ["script", "many"] (spF K mg fn__law_cells) :=
  fun_ok [false, false] F sc__law_cells rfl (by decide) fun cdv A outer s H E hr => by
    have SC := sc__law_cells
    have hu := room_hu hr
    have hu1 := room_hu1 hr
    have tk := takes_of (E := E) (X := cxOf (L2.CX P w) P w K mg base N__law_cells "_law_cells" (defScope s__law_cells) f cdv A outer s H E) rfl rfl rfl rfl
    have hp := passes_of (X := cxOf (L2.CX P w) P w K mg base N__law_cells "_law_cells" (defScope s__law_cells) f cdv A outer s H E) rfl
    exact (t_one (t_ret (q_op o_add k_add (q_oe (q_sl (q_var 0) jo_none (jo_some (q_var 1)))) (q_oe (q_lst (oa_cons (q_callB cr_len k_len (by rfl) M.len_ boot_len (qa_cons (q_var 0) qa_nil)) oa_nil))))))
theorem ok__law_seed {P : Program} {w : World} {K : PySem.W.Frag} {mg : Str → Option Value} {base : Heap} {k : Nat} {f : Addr} {fd : FuncData} (M : Mg mg)  (F : Fun K "_law_seed" "_law_seed" s__law_seed f fd) : FnOk P w K mg base (L2.CX P w) (k + 1) f fd ["cell"] (spF K mg fn__law_seed) :=
  fun_ok [false] F sc__law_seed rfl (by decide) fun cdv A outer s H E hr => by
    have SC := sc__law_seed
    have hu := room_hu hr
    have hu1 := room_hu1 hr
    have tk := takes_of (E := E) (X := cxOf (L2.CX P w) P w K mg base N__law_seed "_law_seed" (defScope s__law_seed) f cdv A outer s H E) rfl rfl rfl rfl
    have hp := passes_of (X := cxOf (L2.CX P w) P w K mg base N__law_seed "_law_seed" (defScope s__law_seed) f cdv A outer s H E) rfl
    exact (t_cons (t_set 1 SC.nd rfl (by first | exact Or.inl rfl | exact Or.inr rfl) (q_callB (call_max2 rfl) k_max2 (by rfl) M.max_ boot_max (qa_cons (q_var 0) (qa_cons (q_oe (q_op op_sub k_sub q_int (q_var 0))) qa_nil))))
    (t_one (t_ret (q_lst (oa_cons (q_pure (q_var 1)) (oa_cons (q_callTy cr_int k_int (by rfl) M.int_ boot_int (qa_cons (q_oe (q_cmp (o_ge hu) k_ord (q_var 1) (q_oe (q_op op_pow k_pow q_int q_int)) (by first | rfl | exact L2.nomark _))) qa_nil)) (oa_cons q_int (oa_cons (q_op op_mod k_mod (q_var 0) q_int) oa_nil))))))))
theorem ok__law_draw {P : Program} {w : World} {K : PySem.W.Frag} {mg : Str → Option Value} {base : Heap} {k : Nat} {f : Addr} {fd : FuncData} (M : Mg mg)  (F : Fun K "_law_draw" "_law_draw" s__law_draw f fd) : FnOk P w K mg base (L2.CX P w) (k + 1) f fd ["seed", "most"] (spF K mg fn__law_draw) :=
  fun_ok [true, false] F sc__law_draw rfl (by decide) fun cdv A outer s H E hr => by
    have SC := sc__law_draw
    have hu := room_hu hr
    have hu1 := room_hu1 hr
    have tk := takes_of (E := E) (X := cxOf (L2.CX P w) P w K mg base N__law_draw "_law_draw" (defScope s__law_draw) f cdv A outer s H E) rfl rfl rfl rfl
    have hp := passes_of (X := cxOf (L2.CX P w) P w K mg base N__law_draw "_law_draw" (defScope s__law_draw) f cdv A outer s H E) rfl
    exact (t_cons (t_setP hu1 (q_op o_add k_add (q_ixV hu1 (q_var 0) q_int (fun c => nomatch c)) q_int) (p_name 0) q_int)
    (t_cons (t_ifQ (qt_w (qw_and (qt_cmp (o_eq hu) k_eq (q_ixV hu1 (q_var 0) q_int (fun c => nomatch c)) q_int (by first | rfl | exact L2.nomark _)) (qw_and1 (qt_cmp (o_gt hu) k_ord (q_ixV hu1 (q_var 0) q_int (fun c => nomatch c)) q_int (by first | rfl | exact L2.nomark _))))) (t_cons (t_set 2 SC.nd rfl (by first | exact Or.inl rfl | exact Or.inr rfl) (q_op op_mod k_mod (q_ixV hu1 (q_var 0) q_int (fun c => nomatch c)) (q_var 1)))
    (t_cons (t_setP hu1 (q_op op_fdivW k_div (q_ixV hu1 (q_var 0) q_int (fun c => nomatch c)) (q_var 1)) (p_name 0) q_int)
    (t_one (t_retE (s_mv 2))))) t_nil)
    (t_cons (t_set 3 SC.nd rfl (by first | exact Or.inl rfl | exact Or.inr rfl) (q_op op_mod k_mod (q_oe (q_op o_mul k_mul (q_oe (q_op o_add k_add (q_oe (q_op o_add k_add (q_ixV hu1 (q_var 0) q_int (fun c => nomatch c)) (q_oe (q_op o_mul k_mul q_int (q_ixV hu1 (q_var 0) q_int (fun c => nomatch c)))))) q_int)) q_int)) q_int))
    (t_cons (t_set 3 SC.nd rfl (by first | exact Or.inl rfl | exact Or.inr rfl) (q_op op_mod k_mod (q_oe (q_op o_mul k_mul (q_oe (q_op op_mod k_mod (q_oe (q_op o_mul k_mul (q_var 3) (q_var 3))) q_int)) q_int)) q_int))
    (t_one (t_ret (q_op op_mod k_mod (q_oe (q_op op_fdivW k_div (q_var 3) q_int)) (q_var 1))))))))
theorem ok__law_names {P : Program} {w : World} {K : PySem.W.Frag} {mg : Str → Option Value} {base : Heap} {k : Nat} {f : Addr} {fd : FuncData} (M : Mg mg) (c__law_draw : CalW P w K mg base k "_law_draw" fn__law_draw) (F : Fun K "_law_names" "_law_names" s__law_names f fd) : FnOk P w K mg base (L2.CX P w) (k + 1) f fd ["seed", "many"] (spF K mg fn__law_names) :=
  fun_ok [true, false] F sc__law_names rfl (by decide) fun cdv A outer s H E hr => by
    have SC := sc__law_names
    have hu := room_hu hr
    have hu1 := room_hu1 hr
    have tk := takes_of (E := E) (X := cxOf (L2.CX P w) P w K mg base N__law_names "_law_names" (defScope s__law_names) f cdv A outer s H E) rfl rfl rfl rfl
    have hp := passes_of (X := cxOf (L2.CX P w) P w K mg base N__law_names "_law_names" (defScope s__law_names) f cdv A outer s H E) rfl
    exact (t_cons (t_set 2 SC.nd rfl (by first | exact Or.inl rfl | exact Or.inr rfl) (q_lst (oa_cons q_str (oa_cons q_str (oa_cons q_str (oa_cons q_str (oa_cons q_str (oa_cons q_str (oa_cons q_str (oa_cons q_str (oa_cons q_str (oa_cons q_str (oa_cons q_str (oa_cons q_str (oa_cons q_str (oa_cons q_str oa_nil))))))))))))))))
    (t_cons (t_set 3 SC.nd rfl (by first | exact Or.inl rfl | exact Or.inr rfl) q_str)
    (t_cons (t_setLcE 4 [("k", 5)] rfl SC.nd rfl rfl (by rfl) (is_q (i_rng1 (by rfl) M.range_ (qa_cons (q_var 1) qa_nil))) (blk_in (N := N__law_names) (sc := defScope s__law_names) rfl rfl (by first | decide +kernel | rfl)) (fun _ _ _ _ _ => (g_name 5 SC.nd rfl (by first | exact Or.inl rfl | exact Or.inr rfl))) (fun _ _ _ _ _ => qts_nil) (fun _ _ _ _ _ => (s_methN 2 PySem.F.plainAttrs_list PySem.F.slot_list_pop PySem.F.type_list_pop mt_popAt m_popI (pvr 2) (sa_cons (s_call [true, false] tk_no (cal c__law_draw) hr (by rfl) (sa_cons (s_late 0) (sa_cons (s_o (q_callB cr_len k_len (by rfl) M.len_ boot_len (qa_cons (q_var 2) qa_nil))) sa_nil))) sa_nil))))
    (t_cons (t_forS hp rfl (is_rng1 (by rfl) M.range_ (sa_cons (s_op o_mul k_mul (s_late 1) (s_callTy cr_int k_int (by rfl) M.int_ boot_int (sa_cons (s_cmp (o_eq hu) k_eq (s_call [true, false] tk (cal c__law_draw) hr (by rfl) (sa_cons (s_late 0) (sa_cons (s_o q_int) sa_nil))) (s_o q_int) (by first | rfl | exact L2.nomark _)) sa_nil))) sa_nil)) (g_name 5 SC.nd rfl (by first | exact Or.inl rfl | exact Or.inr rfl))
    (t_cons (t_setE 6 SC.nd rfl (by first | exact Or.inl rfl | exact Or.inr rfl) (s_methQ PySem.F.plainAttrs_str PySem.F.slot_str_join PySem.F.type_str_join mt_join k_join (s_o q_str) (sa_cons (s_lc [("j", 7)] rfl SC.nd (is_rng1 (by rfl) M.range_ (sa_cons (s_op o_add k_add (s_o q_int) (s_call [true, false] tk (cal c__law_draw) hr (by rfl) (sa_cons (s_late 0) (sa_cons (s_o q_int) sa_nil)))) sa_nil)) (blk_in (N := N__law_names) (sc := defScope s__law_names) rfl rfl (by first | decide +kernel | rfl)) (fun _ _ _ _ _ => (g_name 7 SC.nd rfl (by first | exact Or.inl rfl | exact Or.inr rfl))) (fun _ _ _ _ _ => qts_nil) (fun _ _ _ _ _ => (s_ixP hu1 (s_late 3) (s_call [true, false] tk_no (cal c__law_draw) hr (by rfl) (sa_cons (s_late 0) (sa_cons (s_o q_int) sa_nil)))))) sa_nil)))
    (t_one (t_ifQ (qt_cmp (o_notIn hu) k_in0 (q_var 6) (q_var 4) (by first | rfl | exact L2.nomark _)) (t_one (t_setP hu1 (q_pure (q_var 6)) (p_name 4) (q_var 5))) t_nil))))
    (t_one (t_ret (q_callTyO call_tuple_of k_tupO (by rfl) M.tuple_ boot_tuple (q_callB (cr_sortedP hu) k_sorted (by rfl) M.sorted_ boot_sorted (qa_cons (q_var 4) qa_nil)))))))))
theorem ok__law_walk {P : Program} {w : World} {K : PySem.W.Frag} {mg : Str → Option Value} {base : Heap} {k : Nat} {f : Addr} {fd : FuncData} (M : Mg mg) (c__law_draw : CalW P w K mg base k "_law_draw" fn__law_draw) (F : Fun K "_law_walk" "_law_walk" s__law_walk f fd) : FnOk P w K mg base (L2.CX P w) (k + 1) f fd ["seed", "names", "most"] (spF K mg fn__law_walk) :=
  fun_ok [true, false, false] F sc__law_walk rfl (by decide) fun cdv A outer s H E hr => by
    have SC := sc__law_walk
    have hu := room_hu hr
    have hu1 := room_hu1 hr
    have tk := takes_of (E := E) (X := cxOf (L2.CX P w) P w K mg base N__law_walk "_law_walk" (defScope s__law_walk) f cdv A outer s H E) rfl rfl rfl rfl
    have hp := passes_of (X := cxOf (L2.CX P w) P w K mg base N__law_walk "_law_walk" (defScope s__law_walk) f cdv A outer s H E) rfl
    exact (t_cons (t_setE 3 SC.nd rfl (by first | exact Or.inl rfl | exact Or.inr rfl) (s_ixP hu1 (s_late 1) (s_call [true, false] tk (cal c__law_draw) hr (by rfl) (sa_cons (s_late 0) (sa_cons (s_o (q_callB cr_len k_len (by rfl) M.len_ boot_len (qa_cons (q_var 1) qa_nil))) sa_nil)))))
    (t_cons (t_set 4 SC.nd rfl (by first | exact Or.inl rfl | exact Or.inr rfl) (q_pure (q_var 3)))
    (t_cons (t_set 5 SC.nd rfl (by first | exact Or.inl rfl | exact Or.inr rfl) (q_lst oa_nil))
    (t_cons (t_forS hp rfl (is_rng1 (by rfl) M.range_ (sa_cons (s_op o_mul k_mul (s_call [true, false] tk (cal c__law_draw) hr (by rfl) (sa_cons (s_late 0) (sa_cons (s_late 2) sa_nil))) (s_o (q_callTy cr_int k_int (by rfl) M.int_ boot_int (qa_cons (q_oe (q_cmp (o_gt hu) k_ord (q_oe (q_callB cr_len k_len (by rfl) M.len_ boot_len (qa_cons (q_var 1) qa_nil))) q_int (by first | rfl | exact L2.nomark _))) qa_nil)))) sa_nil)) (g_name 6 SC.nd rfl (by first | exact Or.inl rfl | exact Or.inr rfl))
    (t_cons (t_setLc 7 [("name", 8)] rfl SC.nd rfl rfl (by rfl) (i_e (q_var 1)) (blk_in (N := N__law_walk) (sc := defScope s__law_walk) rfl rfl (by first | decide +kernel | rfl)) (fun _ _ _ _ _ => (g_name 8 SC.nd rfl (by first | exact Or.inl rfl | exact Or.inr rfl))) (fun _ _ _ _ _ => (qts_one (qt_cmp (o_ne hu) k_ne (q_var 8) (q_var 3) (by first | rfl | exact L2.nomark _)))) (fun _ _ _ _ _ => (q_pure (q_var 8))))
    (t_cons (t_setE 9 SC.nd rfl (by first | exact Or.inl rfl | exact Or.inr rfl) (s_ixP hu1 (s_late 7) (s_call [true, false] tk (cal c__law_draw) hr (by rfl) (sa_cons (s_late 0) (sa_cons (s_o (q_callB cr_len k_len (by rfl) M.len_ boot_len (qa_cons (q_var 7) qa_nil))) sa_nil)))))
    (t_cons (t_expE (s_meth PySem.F.plainAttrs_list PySem.F.slot_list_append PySem.F.type_list_append mt_append m_append (p_name 5) (oa_cons (q_tup (oa_cons (q_pure (q_var 3)) (oa_cons (q_pure (q_var 9)) oa_nil))) oa_nil)))
    (t_one (t_set 3 SC.nd rfl (by first | exact Or.inl rfl | exact Or.inr rfl) (q_pure (q_var 9))))))))
    (t_cons (t_ifQ (qt_cmp (o_ne hu) k_ne (q_var 3) (q_var 4) (by first | rfl | exact L2.nomark _)) (t_one (t_expE (s_meth PySem.F.plainAttrs_list PySem.F.slot_list_append PySem.F.type_list_append mt_append m_append (p_name 5) (oa_cons (q_tup (oa_cons (q_pure (q_var 3)) (oa_cons (q_pure (q_var 4)) oa_nil))) oa_nil)))) t_nil)
    (t_one (t_retE (s_mv 5))))))))
theorem ok__law_web {P : Program} {w : World} {K : PySem.W.Frag} {mg : Str → Option Value} {base : Heap} {k : Nat} {f : Addr} {fd : FuncData} (M : Mg mg) (c__law_draw : CalW P w K mg base k "_law_draw" fn__law_draw) (c__law_names : CalW P w K mg base k "_law_names" fn__law_names) (c__law_walk : CalW P w K mg base k "_law_walk" fn__law_walk) (F : Fun K "_law_web" "_law_web" s__law_web f fd) : FnOk P w K mg base (L2.CX P w) (k + 1) f fd ["seed", "many", "most"] (spF K mg fn__law_web) :=
  fun_ok [true, false, false] F sc__law_web rfl (by decide) fun cdv A outer s H E hr => by
    have SC := sc__law_web
    have hu := room_hu hr
    have hu1 := room_hu1 hr
    have tk := takes_of (E := E) (X := cxOf (L2.CX P w) P w K mg base N__law_web "_law_web" (defScope s__law_web) f cdv A outer s H E) rfl rfl rfl rfl
    have hp := passes_of (X := cxOf (L2.CX P w) P w K mg base N__law_web "_law_web" (defScope s__law_web) f cdv A outer s H E) rfl
    exact (t_cons (t_setE 3 SC.nd rfl (by first | exact Or.inl rfl | exact Or.inr rfl) (s_call [true, false] tk (cal c__law_names) hr (by rfl) (sa_cons (s_late 0) (sa_cons (s_op o_add k_add (s_o q_int) (s_call [true, false] tk (cal c__law_draw) hr (by rfl) (sa_cons (s_late 0) (sa_cons (s_late 1) sa_nil)))) sa_nil))))
    (t_cons (t_setE 4 SC.nd rfl (by first | exact Or.inl rfl | exact Or.inr rfl) (s_call [true, false] tk (cal c__law_draw) hr (by rfl) (sa_cons (s_late 0) (sa_cons (s_o q_int) sa_nil))))
    (t_cons (t_ifQ (qt_cmp (o_lt hu) k_ord (q_var 4) q_int (by first | rfl | exact L2.nomark _)) (t_cons (t_setE 5 SC.nd rfl (by first | exact Or.inl rfl | exact Or.inr rfl) (s_sl (s_late 3) (jos_some (s_op o_mul k_mul (s_call [true, false] tk (cal c__law_draw) hr (by rfl) (sa_cons (s_late 0) (sa_cons (s_o q_int) sa_nil))) (s_o (q_callTy cr_int k_int (by rfl) M.int_ boot_int (qa_cons (q_oe (q_cmp (o_gt hu) k_ord (q_oe (q_callB cr_len k_len (by rfl) M.len_ boot_len (qa_cons (q_var 3) qa_nil))) q_int (by first | rfl | exact L2.nomark _))) qa_nil))))) jos_none))
    (t_one (t_setE 6 SC.nd rfl (by first | exact Or.inl rfl | exact Or.inr rfl) (s_call [true, false, false] tk (cal c__law_walk) hr (by rfl) (sa_cons (s_late 0) (sa_cons (s_late 5) (sa_cons (s_late 2) sa_nil))))))) (t_cons (t_set 7 SC.nd rfl (by first | exact Or.inl rfl | exact Or.inr rfl) (q_op op_fdivW k_div (q_oe (q_callB cr_len k_len (by rfl) M.len_ boot_len (qa_cons (q_var 3) qa_nil))) q_int))
    (t_one (t_setE 6 SC.nd rfl (by first | exact Or.inl rfl | exact Or.inr rfl) (s_op o_add k_add (s_call [true, false, false] tk (cal c__law_walk) hr (by rfl) (sa_cons (s_late 0) (sa_cons (s_o (q_sl (q_var 3) jo_none (jo_some (q_oe (q_callB (call_max2 rfl) k_max2 (by rfl) M.max_ boot_max (qa_cons q_int (qa_cons (q_var 7) qa_nil))))))) (sa_cons (s_o (q_op op_fdivW k_div (q_var 2) q_int)) sa_nil)))) (s_call [true, false, false] tk (cal c__law_walk) hr (by rfl) (sa_cons (s_late 0) (sa_cons (s_o (q_sl (q_var 3) (jo_some (q_var 7)) jo_none)) (sa_cons (s_o (q_op op_fdivW k_div (q_var 2) q_int)) sa_nil)))))))))
    (t_cons (t_ifQ (qt_cmp (o_eq hu) k_eq (q_var 4) q_int (by first | rfl | exact L2.nomark _)) (t_cons (t_set 6 SC.nd rfl (by first | exact Or.inl rfl | exact Or.inr rfl) (q_lst oa_nil))
    (t_one (t_forS hp rfl (is_rng1 (by rfl) M.range_ (sa_cons (s_op o_mul k_mul (s_call [true, false] tk (cal c__law_draw) hr (by rfl) (sa_cons (s_late 0) (sa_cons (s_o (q_op o_add k_add (q_var 2) q_int)) sa_nil))) (s_o (q_callTy cr_int k_int (by rfl) M.int_ boot_int (qa_cons (q_oe (q_cmp (o_gt hu) k_ord (q_oe (q_callB cr_len k_len (by rfl) M.len_ boot_len (qa_cons (q_var 3) qa_nil))) q_int (by first | rfl | exact L2.nomark _))) qa_nil)))) sa_nil)) (g_name 8 SC.nd rfl (by first | exact Or.inl rfl | exact Or.inr rfl))
    (t_cons (t_setE 9 SC.nd rfl (by first | exact Or.inl rfl | exact Or.inr rfl) (s_ixP hu1 (s_late 3) (s_call [true, false] tk (cal c__law_draw) hr (by rfl) (sa_cons (s_late 0) (sa_cons (s_o (q_callB cr_len k_len (by rfl) M.len_ boot_len (qa_cons (q_var 3) qa_nil))) sa_nil)))))
    (t_cons (t_setLc 10 [("name", 11)] rfl SC.nd rfl rfl (by rfl) (i_e (q_var 3)) (blk_in (N := N__law_web) (sc := defScope s__law_web) rfl rfl (by first | decide +kernel | rfl)) (fun _ _ _ _ _ => (g_name 11 SC.nd rfl (by first | exact Or.inl rfl | exact Or.inr rfl))) (fun _ _ _ _ _ => (qts_one (qt_cmp (o_ne hu) k_ne (q_var 11) (q_var 9) (by first | rfl | exact L2.nomark _)))) (fun _ _ _ _ _ => (q_pure (q_var 11))))
    (t_one (t_expE (s_methN 6 PySem.F.plainAttrs_list PySem.F.slot_list_append PySem.F.type_list_append mt_append m_append (pvr 6) (sa_cons (s_tup (sa_cons (s_late 9) (sa_cons (s_ixP hu1 (s_late 10) (s_call [true, false] tk (cal c__law_draw) hr (by rfl) (sa_cons (s_late 0) (sa_cons (s_o (q_callB cr_len k_len (by rfl) M.len_ boot_len (qa_cons (q_var 10) qa_nil))) sa_nil)))) sa_nil))) sa_nil))))))))) t_nil)
    (t_cons (t_ifQ (qt_w (qw_and (qt_cmp (o_eq hu) k_eq (q_var 4) q_int (by first | rfl | exact L2.nomark _)) (qw_and1 (qt_cmp (o_ne hu) k_ne (q_var 6) (q_oe (q_lst oa_nil)) (by first | rfl | exact L2.nomark _))))) (t_cons (t_setE 12 SC.nd rfl (by first | exact Or.inl rfl | exact Or.inr rfl) (s_call [true, false] tk (cal c__law_draw) hr (by rfl) (sa_cons (s_late 0) (sa_cons (s_o (q_callB cr_len k_len (by rfl) M.len_ boot_len (qa_cons (q_var 6) qa_nil))) sa_nil))))
    (t_one (t_setP hu1 (q_revT0 (q_ixV hu1 (q_var 6) (q_var 12) (fun c => nomatch c))) (p_name 6) (q_var 12)))) t_nil)
    (t_one (t_ret (q_tup (oa_cons (q_pure (q_var 3)) (oa_cons (q_callTyO call_tuple_of k_tupO (by rfl) M.tuple_ boot_tuple (q_callB (cr_sortedP hu) k_sorted (by rfl) M.sorted_ boot_sorted (qa_cons (q_var 6) qa_nil))) oa_nil))))))))))
theorem ok_used_web {P : Program} {w : World} {K : PySem.W.Frag} {mg : Str → Option Value} {base : Heap} {k : Nat} {f : Addr} {fd : FuncData} (M : Mg mg)  (F : Fun K "used_web" "used_web" s_used_web f fd) : FnOk P w K mg base (L2.CX P w) (k + 1) f fd ["web"] (spF K mg fn_used_web) :=
  fun_ok [false] F sc_used_web rfl (by decide) fun cdv A outer s H E hr => by
    have SC := sc_used_web
    have hu := room_hu hr
    have hu1 := room_hu1 hr
    have tk := takes_of (E := E) (X := cxOf (L2.CX P w) P w K mg base N_used_web "used_web" (defScope s_used_web) f cdv A outer s H E) rfl rfl rfl rfl
    have hp := passes_of (X := cxOf (L2.CX P w) P w K mg base N_used_web "used_web" (defScope s_used_web) f cdv A outer s H E) rfl
    exact (t_cons (t_setLc 1 [("name", 2)] rfl SC.nd rfl rfl (by rfl) (i_e (q_ixV hu1 (q_var 0) q_int (fun c => nomatch c))) (blk_in (N := N_used_web) (sc := defScope s_used_web) rfl rfl (by first | decide +kernel | rfl)) (fun _ _ _ _ _ => (g_name 2 SC.nd rfl (by first | exact Or.inl rfl | exact Or.inr rfl))) (fun _ _ _ _ _ => (qts_one (qt_cmp (o_ne hu) k_ne (q_oe (q_lc [("arrow", 3)] rfl SC.nd (i_e (q_ixV hu1 (q_var 0) q_int (fun c => nomatch c))) (blk_in (N := N_used_web) (sc := _) rfl rfl (by first | decide +kernel | rfl)) (fun _ _ _ _ _ => (g_name 3 SC.nd rfl (by first | exact Or.inl rfl | exact Or.inr rfl))) (fun _ _ _ _ _ => (qts_one (qt_cmp (o_in hu) k_in0 (q_var 2) (q_var 3) (by first | rfl | exact L2.nomark _)))) (fun _ _ _ _ _ => (q_pure (q_var 3))))) (q_oe (q_lst oa_nil)) (by first | rfl | exact L2.nomark _)))) (fun _ _ _ _ _ => (q_pure (q_var 2))))
    (t_one (t_ret (q_tup (oa_cons (q_callTy call_tuple_of k_tupV (by rfl) M.tuple_ boot_tuple (qa_cons (q_var 1) qa_nil)) (oa_cons (q_ixP hu1 (q_var 0) q_int) oa_nil))))))
theorem ok_reached_from {P : Program} {w : World} {K : PySem.W.Frag} {mg : Str → Option Value} {base : Heap} {k : Nat} {f : Addr} {fd : FuncData} (M : Mg mg)  (F : Fun K "reached_from" "reached_from" s_reached_from f fd) : FnOk P w K mg base (L2.CX P w) (k + 1) f fd ["web", "name"] (spF K mg fn_reached_from) :=
  fun_ok [false, false] F sc_reached_from rfl (by decide) fun cdv A outer s H E hr => by
    have SC := sc_reached_from
    have hu := room_hu hr
    have hu1 := room_hu1 hr
    have tk := takes_of (E := E) (X := cxOf (L2.CX P w) P w K mg base N_reached_from "reached_from" (defScope s_reached_from) f cdv A outer s H E) rfl rfl rfl rfl
    have hp := passes_of (X := cxOf (L2.CX P w) P w K mg base N_reached_from "reached_from" (defScope s_reached_from) f cdv A outer s H E) rfl
    exact (t_cons (t_set 2 SC.nd rfl (by first | exact Or.inl rfl | exact Or.inr rfl) (q_lst (oa_cons (q_pure (q_var 1)) oa_nil)))
    (t_cons (t_set 3 SC.nd rfl (by first | exact Or.inl rfl | exact Or.inr rfl) (q_lst (oa_cons (q_pure (q_var 1)) oa_nil)))
    (t_cons (t_while 1000 hp (qt_cmp (o_ne hu) k_ne (q_var 3) (q_oe (q_lst oa_nil)) (by first | rfl | exact L2.nomark _))
    (t_cons (t_setE 4 SC.nd rfl (by first | exact Or.inl rfl | exact Or.inr rfl) (s_meth0 PySem.F.plainAttrs_list PySem.F.slot_list_pop PySem.F.type_list_pop mt_pop m_pop (p_name 3)))
    (t_one (t_for hp rfl (i_z (q_ixV hu1 (q_varZ 0) q_int (fun c => nomatch c))) (g_name 5 SC.nd rfl (by first | exact Or.inl rfl | exact Or.inr rfl))
    (t_one (t_ifQ (qt_cmp (o_in hu) k_in0 (q_var 4) (q_var 5) (by first | rfl | exact L2.nomark _)) (t_cons (t_setLc 6 [("other", 7)] rfl SC.nd rfl rfl (by rfl) (i_e (q_var 5)) (blk_in (N := N_reached_from) (sc := defScope s_reached_from) rfl rfl (by first | decide +kernel | rfl)) (fun _ _ _ _ _ => (g_name 7 SC.nd rfl (by first | exact Or.inl rfl | exact Or.inr rfl))) (fun _ _ _ _ _ => (qts_one (qt_cmp (o_notIn hu) k_in0 (q_var 7) (q_var 2) (by first | rfl | exact L2.nomark _)))) (fun _ _ _ _ _ => (q_pure (q_var 7))))
    (t_cons (t_expE (s_methV PySem.F.plainAttrs_list PySem.F.slot_list_extend PySem.F.type_list_extend mt_extend m_extend (p_name 2) (qa_cons (q_var 6) qa_nil)))
    (t_one (t_expE (s_methV PySem.F.plainAttrs_list PySem.F.slot_list_extend PySem.F.type_list_extend mt_extend m_extend (p_name 3) (qa_cons (q_var 6) qa_nil)))))) t_nil))))))
    (t_one (t_retE (s_mv 2))))))
theorem ok_is_even {P : Program} {w : World} {K : PySem.W.Frag} {mg : Str → Option Value} {base : Heap} {k : Nat} {f : Addr} {fd : FuncData} (M : Mg mg) (c_used_web : CalW P w K mg base k "used_web" fn_used_web) (c_reached_from : CalW P w K mg base k "reached_from" fn_reached_from) (F : Fun K "is_even" "is_even" s_is_even f fd) : FnOk P w K mg base (L2.CX P w) (k + 1) f fd ["web"] (spF K mg fn_is_even) :=
  fun_ok [false] F sc_is_even rfl (by decide) fun cdv A outer s H E hr => by
    have SC := sc_is_even
    have hu := room_hu hr
    have hu1 := room_hu1 hr
    have tk := takes_of (E := E) (X := cxOf (L2.CX P w) P w K mg base N_is_even "is_even" (defScope s_is_even) f cdv A outer s H E) rfl rfl rfl rfl
    have hp := passes_of (X := cxOf (L2.CX P w) P w K mg base N_is_even "is_even" (defScope s_is_even) f cdv A outer s H E) rfl
    exact (t_cons (t_as (q_call tk (cal c_used_web) hr (by rfl) (qa_cons (q_var 0) qa_nil)) (g_tup (n := 2) rfl (gs_cons (g_name 1 SC.nd rfl (by first | exact Or.inl rfl | exact Or.inr rfl)) (gs_cons (g_name 2 SC.nd rfl (by first | exact Or.inl rfl | exact Or.inr rfl)) gs_nil))))
    (t_cons (t_for hp rfl (i_z (q_varZ 1)) (g_name 3 SC.nd rfl (by first | exact Or.inl rfl | exact Or.inr rfl))
    (t_one (t_ifQ (qt_cmp (o_ne hu) k_ne (q_oe (q_callB cr_len k_len (by rfl) M.len_ boot_len (qa_cons (q_oe (q_lc [("arrow", 4)] rfl SC.nd (i_e (q_var 2)) (blk_in (N := N_is_even) (sc := defScope s_is_even) rfl rfl (by first | decide +kernel | rfl)) (fun _ _ _ _ _ => (g_name 4 SC.nd rfl (by first | exact Or.inl rfl | exact Or.inr rfl))) (fun _ _ _ _ _ => (qts_one (qt_cmp (o_eq hu) k_eq (q_ixV hu1 (q_var 4) q_int (fun c => nomatch c)) (q_var 3) (by first | rfl | exact L2.nomark _)))) (fun _ _ _ _ _ => q_int))) qa_nil))) (q_oe (q_callB cr_len k_len (by rfl) M.len_ boot_len (qa_cons (q_oe (q_lc [("arrow", 4)] rfl SC.nd (i_e (q_var 2)) (blk_in (N := N_is_even) (sc := defScope s_is_even) rfl rfl (by first | decide +kernel | rfl)) (fun _ _ _ _ _ => (g_name 4 SC.nd rfl (by first | exact Or.inl rfl | exact Or.inr rfl))) (fun _ _ _ _ _ => (qts_one (qt_cmp (o_eq hu) k_eq (q_ixV hu1 (q_var 4) q_int (fun c => nomatch c)) (q_var 3) (by first | rfl | exact L2.nomark _)))) (fun _ _ _ _ _ => q_int))) qa_nil))) (by first | rfl | exact L2.nomark _)) (t_one (t_ret q_bl)) t_nil)))
    (t_one (t_ret (q_or (q_oe (q_cmp (o_eq hu) k_eq (q_oe (q_callB cr_len k_len (by rfl) M.len_ boot_len (qa_cons (q_var 1) qa_nil))) q_int (by first | rfl | exact L2.nomark _))) (q_one (q_cmp (o_eq hu) k_eq (q_oe (q_callB cr_len k_len (by rfl) M.len_ boot_len (qa_cons (q_oe (q_call tk (cal c_reached_from) hr (by rfl) (qa_cons (q_var 0) (qa_cons (q_ixV hu1 (q_var 1) q_int (fun c => nomatch c)) qa_nil)))) qa_nil))) (q_oe (q_callB cr_len k_len (by rfl) M.len_ boot_len (qa_cons (q_var 1) qa_nil))) (by first | rfl | exact L2.nomark _))))))))
theorem ok__law_used {P : Program} {w : World} {K : PySem.W.Frag} {mg : Str → Option Value} {base : Heap} {k : Nat} {f : Addr} {fd : FuncData} (M : Mg mg)  (F : Fun K "_law_used" "_law_used" s__law_used f fd) : FnOk P w K mg base (L2.CX P w) (k + 1) f fd ["web"] (spF K mg fn__law_used) :=
  fun_ok [false] F sc__law_used rfl (by decide) fun cdv A outer s H E hr => by
    have SC := sc__law_used
    have hu := room_hu hr
    have hu1 := room_hu1 hr
    have tk := takes_of (E := E) (X := cxOf (L2.CX P w) P w K mg base N__law_used "_law_used" (defScope s__law_used) f cdv A outer s H E) rfl rfl rfl rfl
    have hp := passes_of (X := cxOf (L2.CX P w) P w K mg base N__law_used "_law_used" (defScope s__law_used) f cdv A outer s H E) rfl
    exact (t_one (t_ret (q_callTyO call_tuple_of k_tupO (by rfl) M.tuple_ boot_tuple (q_lc [("name", 1)] rfl SC.nd (i_e (q_ixV hu1 (q_var 0) q_int (fun c => nomatch c))) (blk_in (N := N__law_used) (sc := defScope s__law_used) rfl rfl (by first | decide +kernel | rfl)) (fun _ _ _ _ _ => (g_name 1 SC.nd rfl (by first | exact Or.inl rfl | exact Or.inr rfl))) (fun _ _ _ _ _ => (qts_one (qt_cmp (o_ne hu) k_ne (q_oe (q_lc [("arrow", 2)] rfl SC.nd (i_e (q_ixV hu1 (q_var 0) q_int (fun c => nomatch c))) (blk_in (N := N__law_used) (sc := _) rfl rfl (by first | decide +kernel | rfl)) (fun _ _ _ _ _ => (g_name 2 SC.nd rfl (by first | exact Or.inl rfl | exact Or.inr rfl))) (fun _ _ _ _ _ => (qts_one (qt_cmp (o_in hu) k_in0 (q_var 1) (q_var 2) (by first | rfl | exact L2.nomark _)))) (fun _ _ _ _ _ => (q_pure (q_var 2))))) (q_oe (q_lst oa_nil)) (by first | rfl | exact L2.nomark _)))) (fun _ _ _ _ _ => (q_pure (q_var 1)))))))
theorem ok__law_is_even {P : Program} {w : World} {K : PySem.W.Frag} {mg : Str → Option Value} {base : Heap} {k : Nat} {f : Addr} {fd : FuncData} (M : Mg mg) (c__law_used : CalW P w K mg base k "_law_used" fn__law_used) (F : Fun K "_law_is_even" "_law_is_even" s__law_is_even f fd) : FnOk P w K mg base (L2.CX P w) (k + 1) f fd ["web"] (spF K mg fn__law_is_even) :=
  fun_ok [false] F sc__law_is_even rfl (by decide) fun cdv A outer s H E hr => by
    have SC := sc__law_is_even
    have hu := room_hu hr
    have hu1 := room_hu1 hr
    have tk := takes_of (E := E) (X := cxOf (L2.CX P w) P w K mg base N__law_is_even "_law_is_even" (defScope s__law_is_even) f cdv A outer s H E) rfl rfl rfl rfl
    have hp := passes_of (X := cxOf (L2.CX P w) P w K mg base N__law_is_even "_law_is_even" (defScope s__law_is_even) f cdv A outer s H E) rfl
    exact (t_cons (t_set 1 SC.nd rfl (by first | exact Or.inl rfl | exact Or.inr rfl) (q_callTyO (call_dictP rfl) k_dictO (by rfl) M.dict_ boot_dict (q_lc [("name", 2)] rfl SC.nd (i_e (q_oe (q_call tk (cal c__law_used) hr (by rfl) (qa_cons (q_var 0) qa_nil)))) (blk_in (N := N__law_is_even) (sc := defScope s__law_is_even) rfl rfl (by first | decide +kernel | rfl)) (fun _ _ _ _ _ => (g_name 2 SC.nd rfl (by first | exact Or.inl rfl | exact Or.inr rfl))) (fun _ _ _ _ _ => qts_nil) (fun _ _ _ _ _ => (q_tup (oa_cons (q_pure (q_var 2)) (oa_cons (q_pure (q_var 2)) oa_nil)))))))
    (t_cons (t_for hp rfl (i_z (q_ixV hu1 (q_varZ 0) q_int (fun c => nomatch c))) (g_tup (n := 2) rfl (gs_cons (g_name 3 SC.nd rfl (by first | exact Or.inl rfl | exact Or.inr rfl)) (gs_cons (g_name 4 SC.nd rfl (by first | exact Or.inl rfl | exact Or.inr rfl)) gs_nil)))
    (t_cons (t_set 5 SC.nd rfl (by first | exact Or.inl rfl | exact Or.inr rfl) (q_lst (oa_cons (q_ixP hu1 (q_var 1) (q_var 3)) (oa_cons (q_ixP hu1 (q_var 1) (q_var 4)) oa_nil))))
    (t_one (t_for hp rfl (i_o (q_callTy (cr_lstDct rfl) k_lstD (by rfl) M.list_ boot_list (qa_cons (q_var 1) qa_nil))) (g_name 2 SC.nd rfl (by first | exact Or.inl rfl | exact Or.inr rfl))
    (t_one (t_ifQ (qt_cmp (o_in hu) k_in0 (q_ixV hu1 (q_var 1) (q_var 2) (fun c => nomatch c)) (q_var 5) (by first | rfl | exact L2.nomark _)) (t_one (t_setP hu1 (q_callB (cr_minP rfl hu) k_minmax (by rfl) M.min_ boot_min (qa_cons (q_var 5) qa_nil)) (p_name 1) (q_var 2))) t_nil))))))
    (t_cons (t_set 6 SC.nd rfl (by first | exact Or.inl rfl | exact Or.inr rfl) (q_callB (cr_sortedP hu) k_sorted (by rfl) M.sorted_ boot_sorted (qa_cons (q_oe (q_lc [("arrow", 7)] rfl SC.nd (i_e (q_ixV hu1 (q_var 0) q_int (fun c => nomatch c))) (blk_in (N := N__law_is_even) (sc := defScope s__law_is_even) rfl rfl (by first | decide +kernel | rfl)) (fun _ _ _ _ _ => (g_name 7 SC.nd rfl (by first | exact Or.inl rfl | exact Or.inr rfl))) (fun _ _ _ _ _ => qts_nil) (fun _ _ _ _ _ => (q_ixP hu1 (q_var 7) q_int)))) qa_nil)))
    (t_cons (t_set 8 SC.nd rfl (by first | exact Or.inl rfl | exact Or.inr rfl) (q_callB (cr_sortedP hu) k_sorted (by rfl) M.sorted_ boot_sorted (qa_cons (q_oe (q_lc [("arrow", 7)] rfl SC.nd (i_e (q_ixV hu1 (q_var 0) q_int (fun c => nomatch c))) (blk_in (N := N__law_is_even) (sc := defScope s__law_is_even) rfl rfl (by first | decide +kernel | rfl)) (fun _ _ _ _ _ => (g_name 7 SC.nd rfl (by first | exact Or.inl rfl | exact Or.inr rfl))) (fun _ _ _ _ _ => qts_nil) (fun _ _ _ _ _ => (q_ixP hu1 (q_var 7) q_int)))) qa_nil)))
    (t_one (t_ret (q_and (q_oe (q_cmp (o_eq hu) k_eq (q_var 6) (q_var 8) (by first | rfl | exact L2.nomark _))) (q_one (q_cmp (o_eq hu) k_eq (q_oe (q_lcD 1 [("name", 2)] rfl SC.nd (i_key 1) (blk_in (N := N__law_is_even) (sc := defScope s__law_is_even) rfl rfl (by first | decide +kernel | rfl)) (fun _ _ _ _ _ => (g_name 2 SC.nd rfl (by first | exact Or.inl rfl | exact Or.inr rfl))) (fun _ _ _ _ _ => (qts_one (qt_cmp (o_ne hu) k_ne (q_ixV hu1 (q_var 1) (q_var 2) (fun c => nomatch c)) (q_ixV hu1 (q_var 1) (q_oe (q_callB (cr_minD rfl hu) k_minD (by rfl) M.min_ boot_min (qa_cons (q_var 1) qa_nil))) (fun c => nomatch c)) (by first | rfl | exact L2.nomark _)))) (fun _ _ _ _ _ => (q_pure (q_var 2))))) (q_oe (q_lst oa_nil)) (by first | rfl | exact L2.nomark _))))))))))
theorem ok_law {P : Program} {w : World} {K : PySem.W.Frag} {mg : Str → Option Value} {base : Heap} {k : Nat} {f : Addr} {fd : FuncData} (M : Mg mg) (c__law_cells : CalW P w K mg base k "_law_cells" fn__law_cells) (c__law_seed : CalW P w K mg base k "_law_seed" fn__law_seed) (c__law_draw : CalW P w K mg base k "_law_draw" fn__law_draw) (c__law_web : CalW P w K mg base k "_law_web" fn__law_web) (c_is_even : CalW P w K mg base k "is_even" fn_is_even) (c__law_is_even : CalW P w K mg base k "_law_is_even" fn__law_is_even) (F : Fun K "law" "law" s_law f fd) : FnOk P w K mg base (L2.CX P w) (k + 1) f fd ["script"] (spF K mg fn_law) :=
  fun_ok [false] F sc_law rfl (by decide) fun cdv A outer s H E hr => by
    have SC := sc_law
    have hu := room_hu hr
    have hu1 := room_hu1 hr
    have tk := takes_of (E := E) (X := cxOf (L2.CX P w) P w K mg base N_law "law" (defScope s_law) f cdv A outer s H E) rfl rfl rfl rfl
    have hp := passes_of (X := cxOf (L2.CX P w) P w K mg base N_law "law" (defScope s_law) f cdv A outer s H E) rfl
    exact (t_cons (t_for hp rfl (i_o (q_call tk (cal c__law_cells) hr (by rfl) (qa_cons (q_var 0) (qa_cons q_int qa_nil)))) (g_name 1 SC.nd rfl (by first | exact Or.inl rfl | exact Or.inr rfl))
    (t_cons (t_set 2 SC.nd rfl (by first | exact Or.inl rfl | exact Or.inr rfl) (q_call tk (cal c__law_seed) hr (by rfl) (qa_cons (q_var 1) qa_nil)))
    (t_cons (t_setE 3 SC.nd rfl (by first | exact Or.inl rfl | exact Or.inr rfl) (s_call [true, false, false] tk (cal c__law_web) hr (by rfl) (sa_cons (s_late 2) (sa_cons (s_o q_int) (sa_cons (s_o q_int) sa_nil)))))
    (t_cons (t_set 4 SC.nd rfl (by first | exact Or.inl rfl | exact Or.inr rfl) (q_lst (oa_cons (q_pure (q_var 3)) oa_nil)))
    (t_cons (t_ifQ (qt_cmp (o_ne hu) k_ne (q_ixV hu1 (q_var 3) q_int (fun c => nomatch c)) (q_oe (q_tup oa_nil)) (by first | rfl | exact L2.nomark _)) (t_cons (t_setE 5 SC.nd rfl (by first | exact Or.inl rfl | exact Or.inr rfl) (s_call [true, false] tk (cal c__law_draw) hr (by rfl) (sa_cons (s_late 2) (sa_cons (s_o (q_callB cr_len k_len (by rfl) M.len_ boot_len (qa_cons (q_ixV hu1 (q_var 3) q_int (fun c => nomatch c)) qa_nil))) sa_nil))))
    (t_cons (t_expE (s_meth PySem.F.plainAttrs_list PySem.F.slot_list_append PySem.F.type_list_append mt_append m_append (p_name 4) (oa_cons (q_tup (oa_cons (q_ixP hu1 (q_var 3) q_int) (oa_cons (q_op o_add k_add (q_oe (q_sl (q_ixV hu1 (q_var 3) q_int (fun c => nomatch c)) jo_none (jo_some (q_var 5)))) (q_oe (q_sl (q_ixV hu1 (q_var 3) q_int (fun c => nomatch c)) (jo_some (q_oe (q_op o_add k_add (q_var 5) q_int))) jo_none))) oa_nil))) oa_nil)))
    (t_cons (t_expE (s_meth PySem.F.plainAttrs_list PySem.F.slot_list_append PySem.F.type_list_append mt_append m_append (p_name 4) (oa_cons (q_tup (oa_cons (q_ixP hu1 (q_var 3) q_int) (oa_cons (q_callTyO call_tuple_of k_tupO (by rfl) M.tuple_ boot_tuple (q_callB (cr_sortedTup hu) k_sortedT (by rfl) M.sorted_ boot_sorted (qa_cons (q_oe (q_op o_add k_add (q_ixV hu1 (q_var 3) q_int (fun c => nomatch c)) (q_oe (q_tup (oa_cons (q_revT0 (q_ixV hu1 (q_ixV hu1 (q_var 3) q_int (fun c => nomatch c)) (q_var 5) (fun c => nomatch c))) oa_nil))))) qa_nil))) oa_nil))) oa_nil)))
    (t_one (t_expE (s_meth PySem.F.plainAttrs_list PySem.F.slot_list_append PySem.F.type_list_append mt_append m_append (p_name 4) (oa_cons (q_tup (oa_cons (q_ixP hu1 (q_var 3) q_int) (oa_cons (q_callTyO call_tuple_of k_tupO (by rfl) M.tuple_ boot_tuple (q_callB (cr_sortedP hu) k_sorted (by rfl) M.sorted_ boot_sorted (qa_cons (q_oe (q_lc [("arrow", 6)] rfl SC.nd (i_e (q_ixV hu1 (q_var 3) q_int (fun c => nomatch c))) (blk_in (N := N_law) (sc := defScope s_law) rfl rfl (by first | decide +kernel | rfl)) (fun _ _ _ _ _ => (g_name 6 SC.nd rfl (by first | exact Or.inl rfl | exact Or.inr rfl))) (fun _ _ _ _ _ => qts_nil) (fun _ _ _ _ _ => (q_revT0 (q_var 6))))) qa_nil))) oa_nil))) oa_nil))))))) t_nil)
    (t_fz 4 (t_one (t_for hp rfl (i_z (q_varZ 4)) (g_name 7 SC.nd rfl (by first | exact Or.inl rfl | exact Or.inr rfl))
    (t_cons (t_set 8 SC.nd rfl (by first | exact Or.inl rfl | exact Or.inr rfl) (q_or (q_oe (q_cmp (o_eq hu) k_eq (q_oe (q_callB cr_len k_len (by rfl) M.len_ boot_len (qa_cons (q_ixV hu1 (q_var 7) q_int (fun c => nomatch c)) qa_nil))) q_int (by first | rfl | exact L2.nomark _))) (q_one (q_call tk (cal c__law_is_even) hr (by rfl) (qa_cons (q_var 7) qa_nil)))))
    (t_cons (t_set 9 SC.nd rfl (by first | exact Or.inl rfl | exact Or.inr rfl) (q_call tk (cal c_is_even) hr (by rfl) (qa_cons (q_var 7) qa_nil)))
    (t_one (t_ifQ (qt_w (qw_or (qt_not (qt_val (q_oe (q_isi (n := "bool") (by rfl) M.isinstance_ (by rfl) M.bool_ (by first | rfl | decide +kernel) (q_var 9))))) (qw_or (qt_cmp (o_ne hu) k_ne (q_var 9) (q_var 8) (by first | rfl | exact L2.nomark _)) (qw_or1 (qt_cmp (o_ne hu) k_ne (q_oe (q_call tk (cal c_is_even) hr (by rfl) (qa_cons (q_var 7) qa_nil))) (q_var 8) (by first | rfl | exact L2.nomark _)))))) (t_one (t_ret q_bl)) t_nil))))))))))))
    (t_cons (t_set 10 SC.nd rfl (by first | exact Or.inl rfl | exact Or.inr rfl) (q_tup (oa_cons (q_tup (oa_cons q_str (oa_cons q_str (oa_cons q_str (oa_cons q_str oa_nil))))) (oa_cons (q_tup (oa_cons (q_tup (oa_cons q_str (oa_cons q_str oa_nil))) (oa_cons (q_tup (oa_cons q_str (oa_cons q_str oa_nil))) (oa_cons (q_tup (oa_cons q_str (oa_cons q_str oa_nil))) (oa_cons (q_tup (oa_cons q_str (oa_cons q_str oa_nil))) oa_nil))))) oa_nil))))
    (t_one (t_ret (q_and (q_oe (q_cmp op_is_bl k_isB (q_oe (q_call tk (cal c_is_even) hr (by rfl) (qa_cons (q_oe (q_tup (oa_cons (q_tup (oa_cons q_str oa_nil)) (oa_cons (q_tup oa_nil) oa_nil)))) qa_nil))) q_bl (by first | rfl | exact L2.nomark _))) (q_one (q_cmp op_is_bl k_isB (q_oe (q_call tk (cal c_is_even) hr (by rfl) (qa_cons (q_var 10) qa_nil))) q_bl (by first | rfl | exact L2.nomark _))))))))
def d__law_cells : He.DefD := ⟨("_law_cells", none), "_law_cells", "_law_cells", defArgs s__law_cells, defBody s__law_cells, defScope s__law_cells, [], []⟩
def d__law_seed : He.DefD := ⟨("_law_seed", none), "_law_seed", "_law_seed", defArgs s__law_seed, defBody s__law_seed, defScope s__law_seed, [], []⟩
def d__law_draw : He.DefD := ⟨("_law_draw", none), "_law_draw", "_law_draw", defArgs s__law_draw, defBody s__law_draw, defScope s__law_draw, [], []⟩
def d__law_names : He.DefD := ⟨("_law_names", none), "_law_names", "_law_names", defArgs s__law_names, defBody s__law_names, defScope s__law_names, [], []⟩
def d__law_walk : He.DefD := ⟨("_law_walk", none), "_law_walk", "_law_walk", defArgs s__law_walk, defBody s__law_walk, defScope s__law_walk, [], []⟩
def d__law_web : He.DefD := ⟨("_law_web", none), "_law_web", "_law_web", defArgs s__law_web, defBody s__law_web, defScope s__law_web, [], []⟩
def d_used_web : He.DefD := ⟨("used_web", none), "used_web", "used_web", defArgs s_used_web, defBody s_used_web, defScope s_used_web, [], []⟩
def d_reached_from : He.DefD := ⟨("reached_from", none), "reached_from", "reached_from", defArgs s_reached_from, defBody s_reached_from, defScope s_reached_from, [], []⟩
def d_is_even : He.DefD := ⟨("is_even", none), "is_even", "is_even", defArgs s_is_even, defBody s_is_even, defScope s_is_even, [], []⟩
def d__law_used : He.DefD := ⟨("_law_used", none), "_law_used", "_law_used", defArgs s__law_used, defBody s__law_used, defScope s__law_used, [], []⟩
def d__law_is_even : He.DefD := ⟨("_law_is_even", none), "_law_is_even", "_law_is_even", defArgs s__law_is_even, defBody s__law_is_even, defScope s__law_is_even, [], []⟩
def d_law : He.DefD := ⟨("law", none), "law", "law", defArgs s_law, defBody s_law, defScope s_law, [], []⟩
def fn : List He.DefD := [d__law_cells, d__law_seed, d__law_draw, d__law_names, d__law_walk, d__law_web, d_used_web, d_reached_from, d_is_even, d__law_used, d__law_is_even, d_law]
def fa : List He.Fa := [.glo "_law_cells", .glo "_law_seed", .glo "_law_draw", .glo "_law_names", .glo "_law_walk", .glo "_law_web", .glo "used_web", .glo "reached_from", .glo "is_even", .glo "_law_used", .glo "_law_is_even", .glo "law", .free "bool", .free "dict", .free "int", .free "isinstance", .free "len", .free "list", .free "max", .free "min", .free "range", .free "sorted", .free "tuple"]
def loose0 : List PySem.Str := ["__name__", "used_web", "reached_from", "is_even", "_law_seed", "_law_draw", "_law_cells", "_law_names", "_law_walk", "_law_web", "_law_used", "_law_is_even"]
def loose : List PySem.Str := loose0
abbrev Rw : PySem.W.OpenRow := PySem.W.OpenLaw.row PySem.Challenge.rw_treerounds_k48_even_webs
abbrev hk : PySem.W.Hook := He.hookD 4 fa fn
def ob (s : PySem.W.SharedT) : He.AlD := He.obsDG 4 fa fn (HandSHeadRun.getT s)
theorem ob_eq (s : PySem.W.SharedT) : ob s = hk.obs s.abs := He.obsDG_eq (HandSHeadRun.getT_eq s)
theorem run (w : World) : HandSHeadRun.RunEq Rw (PySem.W.view Rw.prog [13]) hk ob 40000 loose w := by
  intro os
  kernel_rfl
theorem facts {P : Program} {w : World} {K : PySem.W.Frag} {h : Heap} {mg : Str → Option Value} {f : Addr} (X : K.In h) (G : h.Ns mainGlobals mg) (hfa : mg ("law" : Str) = some (.ref f)) (c : He.SaysD fa fn K) :
    ∃ fd : FuncData, (∀ (s : Shared) (v : Value), BindsTo s fd ⟨[v], []⟩ [("script", v)]) ∧ ∀ base : Heap, K.In base → base.Ns mainGlobals mg → FnOk P w K mg base (L2.CX P w) 4 f fd ["script"] (spF K mg fn_law) := by
  have M : Mg mg := ⟨He.free_ok X G (c.fact 12 (f := .free "bool") rfl), He.free_ok X G (c.fact 13 (f := .free "dict") rfl), He.free_ok X G (c.fact 14 (f := .free "int") rfl), He.free_ok X G (c.fact 15 (f := .free "isinstance") rfl), He.free_ok X G (c.fact 16 (f := .free "len") rfl), He.free_ok X G (c.fact 17 (f := .free "list") rfl), He.free_ok X G (c.fact 18 (f := .free "max") rfl), He.free_ok X G (c.fact 19 (f := .free "min") rfl), He.free_ok X G (c.fact 20 (f := .free "range") rfl), He.free_ok X G (c.fact 21 (f := .free "sorted") rfl), He.free_ok X G (c.fact 22 (f := .free "tuple") rfl)⟩
  obtain ⟨fd__law_cells, F__law_cells⟩ := c.def_ 0 (d := d__law_cells) rfl
  obtain ⟨fd__law_seed, F__law_seed⟩ := c.def_ 1 (d := d__law_seed) rfl
  obtain ⟨fd__law_draw, F__law_draw⟩ := c.def_ 2 (d := d__law_draw) rfl
  obtain ⟨fd__law_names, F__law_names⟩ := c.def_ 3 (d := d__law_names) rfl
  obtain ⟨fd__law_walk, F__law_walk⟩ := c.def_ 4 (d := d__law_walk) rfl
  obtain ⟨fd__law_web, F__law_web⟩ := c.def_ 5 (d := d__law_web) rfl
  obtain ⟨fd_used_web, F_used_web⟩ := c.def_ 6 (d := d_used_web) rfl
  obtain ⟨fd_reached_from, F_reached_from⟩ := c.def_ 7 (d := d_reached_from) rfl
  obtain ⟨fd_is_even, F_is_even⟩ := c.def_ 8 (d := d_is_even) rfl
  obtain ⟨fd__law_used, F__law_used⟩ := c.def_ 9 (d := d__law_used) rfl
  obtain ⟨fd__law_is_even, F__law_is_even⟩ := c.def_ 10 (d := d__law_is_even) rfl
  obtain ⟨fd_law, F_law⟩ := c.def_ 11 (d := d_law) rfl
  have e := hfa.symm.trans (He.glo_ok X G (c.fact 11 (f := .glo "law") rfl))
  cases e
  have b := FunD.bindsA (ps := ["script"]) F_law fun _ _ _ _ _ _ us hl => match us, hl with | [_], _ => rfl
  refine ⟨fd_law, fun s v => b s [v] rfl, fun base _ _ => ?_⟩
  have c__law_cells : CalW P w K mg base 1 "_law_cells" fn__law_cells := ⟨_, _, _, ok__law_cells (k := 0) M  (He5.fun_of F__law_cells), He.glo_ok X G (c.fact 0 (f := .glo "_law_cells") rfl), F__law_cells.kp, FunD.bindsN F__law_cells fun _ _ _ _ _ _ us hl => match us, hl with | [_, _], _ => rfl⟩
  have c__law_seed : CalW P w K mg base 1 "_law_seed" fn__law_seed := ⟨_, _, _, ok__law_seed (k := 0) M  (He5.fun_of F__law_seed), He.glo_ok X G (c.fact 1 (f := .glo "_law_seed") rfl), F__law_seed.kp, FunD.bindsN F__law_seed fun _ _ _ _ _ _ us hl => match us, hl with | [_], _ => rfl⟩
  have c__law_draw : CalW P w K mg base 1 "_law_draw" fn__law_draw := ⟨_, _, _, ok__law_draw (k := 0) M  (He5.fun_of F__law_draw), He.glo_ok X G (c.fact 2 (f := .glo "_law_draw") rfl), F__law_draw.kp, FunD.bindsN F__law_draw fun _ _ _ _ _ _ us hl => match us, hl with | [_, _], _ => rfl⟩
  have c__law_names : CalW P w K mg base 2 "_law_names" fn__law_names := ⟨_, _, _, ok__law_names (k := 1) M (c__law_draw.mono (by decide)) (He5.fun_of F__law_names), He.glo_ok X G (c.fact 3 (f := .glo "_law_names") rfl), F__law_names.kp, FunD.bindsN F__law_names fun _ _ _ _ _ _ us hl => match us, hl with | [_, _], _ => rfl⟩
  have c__law_walk : CalW P w K mg base 2 "_law_walk" fn__law_walk := ⟨_, _, _, ok__law_walk (k := 1) M (c__law_draw.mono (by decide)) (He5.fun_of F__law_walk), He.glo_ok X G (c.fact 4 (f := .glo "_law_walk") rfl), F__law_walk.kp, FunD.bindsN F__law_walk fun _ _ _ _ _ _ us hl => match us, hl with | [_, _, _], _ => rfl⟩
  have c__law_web : CalW P w K mg base 3 "_law_web" fn__law_web := ⟨_, _, _, ok__law_web (k := 2) M (c__law_draw.mono (by decide)) (c__law_names.mono (by decide)) (c__law_walk.mono (by decide)) (He5.fun_of F__law_web), He.glo_ok X G (c.fact 5 (f := .glo "_law_web") rfl), F__law_web.kp, FunD.bindsN F__law_web fun _ _ _ _ _ _ us hl => match us, hl with | [_, _, _], _ => rfl⟩
  have c_used_web : CalW P w K mg base 1 "used_web" fn_used_web := ⟨_, _, _, ok_used_web (k := 0) M  (He5.fun_of F_used_web), He.glo_ok X G (c.fact 6 (f := .glo "used_web") rfl), F_used_web.kp, FunD.bindsN F_used_web fun _ _ _ _ _ _ us hl => match us, hl with | [_], _ => rfl⟩
  have c_reached_from : CalW P w K mg base 1 "reached_from" fn_reached_from := ⟨_, _, _, ok_reached_from (k := 0) M  (He5.fun_of F_reached_from), He.glo_ok X G (c.fact 7 (f := .glo "reached_from") rfl), F_reached_from.kp, FunD.bindsN F_reached_from fun _ _ _ _ _ _ us hl => match us, hl with | [_, _], _ => rfl⟩
  have c_is_even : CalW P w K mg base 2 "is_even" fn_is_even := ⟨_, _, _, ok_is_even (k := 1) M (c_used_web.mono (by decide)) (c_reached_from.mono (by decide)) (He5.fun_of F_is_even), He.glo_ok X G (c.fact 8 (f := .glo "is_even") rfl), F_is_even.kp, FunD.bindsN F_is_even fun _ _ _ _ _ _ us hl => match us, hl with | [_], _ => rfl⟩
  have c__law_used : CalW P w K mg base 1 "_law_used" fn__law_used := ⟨_, _, _, ok__law_used (k := 0) M  (He5.fun_of F__law_used), He.glo_ok X G (c.fact 9 (f := .glo "_law_used") rfl), F__law_used.kp, FunD.bindsN F__law_used fun _ _ _ _ _ _ us hl => match us, hl with | [_], _ => rfl⟩
  have c__law_is_even : CalW P w K mg base 2 "_law_is_even" fn__law_is_even := ⟨_, _, _, ok__law_is_even (k := 1) M (c__law_used.mono (by decide)) (He5.fun_of F__law_is_even), He.glo_ok X G (c.fact 10 (f := .glo "_law_is_even") rfl), F__law_is_even.kp, FunD.bindsN F__law_is_even fun _ _ _ _ _ _ us hl => match us, hl with | [_], _ => rfl⟩
  exact ok_law (k := 3) M (c__law_cells.mono (by decide)) (c__law_seed.mono (by decide)) (c__law_draw.mono (by decide)) (c__law_web.mono (by decide)) (c_is_even.mono (by decide)) (c__law_is_even.mono (by decide)) (He5.fun_of F_law)
end LW
namespace LW
open PySem PySem.Spec PyProof.Rows L2 TR
def m__law_cells (script : (List Int)) (many : Int) : Option (List Int) :=
  (catG (cutP script (none : Option Int) (some many)) [(lenI script)]).bind fun v =>
  some v
def m__law_seed (cell : Int) : Option (Int × Int × Int × Int) :=
  bnd (max2 cell ((0 : Int) - cell)) fun number =>
  some (number, (b2n (decide ((10 ^ 18 : Int) ≤ number))), (0 : Int), (cell % (1999999873 : Int)))
def m__law_draw (seed : (Int × Int × Int × Int)) (most : Int) : Option (Int × (Int × Int × Int × Int)) :=
  bnd (seed.1, seed.2.1, (seed.2.2.1 + (1 : Int)), seed.2.2.2) fun l =>
  if ((eqB l.2.1 (1 : Int)) && (decide ((0 : Int) < l.1))) = true then
    (modG l.1 most).bind fun found =>
    (divG l.1 most).bind fun v_1 =>
    bnd (v_1, l.2.1, l.2.2.1, l.2.2.2) fun l_1 =>
    some (found, l_1)
  else
    bnd ((((l.2.2.2 + ((7549 : Int) * l.2.2.1)) + (53 : Int)) * (48271 : Int)) % (2147483647 : Int)) fun number =>
    (mulG number number).bind fun v_2 =>
    bnd (((v_2 % (2147483629 : Int)) * (40692 : Int)) % (2147483399 : Int)) fun number_1 =>
    (modG (number_1 / (7 : Int)) most).bind fun v_3 =>
    some (v_3, l)
def m__law_names_L1 (letters : Str) (seed_5 : (Int × Int × Int × Int)) (found_1 : (List Str)) (k_1 : Int) : Option ((Int × Int × Int × Int) × (List Str)) :=
  bind2 (m__law_draw seed_5 (8 : Int)) fun v_7 seed_6 =>
  (rng1G ((1 : Int) + v_7)).bind fun v_8 =>
  bind2 (compS v_8 seed_6 (fun seed_7 j =>
  bind2 (m__law_draw seed_7 (26 : Int)) fun v_9 seed_8 =>
  (atS letters v_9).bind fun v_10 =>
  some (v_10, seed_8))) fun v_11 seed_9 =>
  (joinG ("" : Str) v_11).bind fun v_12 =>
  bnd v_12 fun word =>
  if (!inB word found_1) = true then
    (setI found_1 k_1 word).bind fun l_1 =>
    some (seed_9, l_1)
  else
    some (seed_9, found_1)
def m__law_names (seed : (Int × Int × Int × Int)) (many : Int) : Option ((List Str) × (Int × Int × Int × Int)) :=
  bnd [("a" : Str), ("ba" : Str), ("ab" : Str), ("aa" : Str), ("tie" : Str), ("nodes" : Str), ("node" : Str), ("tree" : Str), ("bab" : Str), ("abc" : Str), ("longname" : Str), ("longnamf" : Str), ("zz" : Str), ("z" : Str)] fun spare =>
  bnd ("abcdefghijklmnopqrstuvwxyz" : Str) fun letters =>
  (rng1G many).bind fun v =>
  bind3 (compS v (seed, spare) (fun s k =>
  bnd s.1 fun seed_1 =>
  bnd s.2 fun spare_1 =>
  bind2 (m__law_draw seed_1 (lenI spare_1)) fun v_1 seed_2 =>
  bind2 (popI spare_1 v_1) fun l v_2 =>
  some (v_2, (seed_2, l)))) fun v_3 seed_3 spare_2 =>
  bnd v_3 fun found =>
  bind2 (m__law_draw seed_3 (3 : Int)) fun v_4 seed_4 =>
  (mulG many (b2n (eqB v_4 (0 : Int)))).bind fun v_5 =>
  (rng1G v_5).bind fun v_6 =>
  bind2 (forL v_6 (seed_4, found) (fun s k_1 => m__law_names_L1 letters s.1 s.2 k_1)) fun seed_10 found_2 =>
  some ((sortL found_2), seed_10)
def m__law_walk_L1 (names : (List Str)) (seed_3 : (Int × Int × Int × Int)) (here_1 : Str) (found_1 : (List (Str × Str))) (k : Int) : Option ((Int × Int × Int × Int) × Str × (List (Str × Str))) :=
  bnd ((names.filter fun name => (!eqB name here_1)).map fun name => name) fun others =>
  bind2 (m__law_draw seed_3 (lenI others)) fun v_5 seed_4 =>
  (atI others v_5).bind fun v_6 =>
  bnd v_6 fun there =>
  (appG found_1 (here_1, there)).bind fun l =>
  bnd there fun here_2 =>
  some (seed_4, here_2, l)
def m__law_walk (seed : (Int × Int × Int × Int)) (names : (List Str)) (most : Int) : Option ((List (Str × Str)) × (Int × Int × Int × Int)) :=
  bind2 (m__law_draw seed (lenI names)) fun v seed_1 =>
  (atI names v).bind fun v_1 =>
  bnd v_1 fun here =>
  bnd here fun first =>
  bnd ([] : (List (Str × Str))) fun found =>
  bind2 (m__law_draw seed_1 most) fun v_2 seed_2 =>
  (mulG v_2 (b2n (decide ((1 : Int) < (lenI names))))).bind fun v_3 =>
  (rng1G v_3).bind fun v_4 =>
  bind3 (forL v_4 (seed_2, here, found) (fun s k => m__law_walk_L1 names s.1 s.2.1 s.2.2 k)) fun seed_5 here_3 found_2 =>
  (if (!eqB here_3 first) = true then
    (appG found_2 (here_3, first)).bind fun l_1 =>
    some l_1
  else
    some found_2 : Option (List (Str × Str))).bind fun found_3 =>
  some (found_3, seed_5)
def m__law_web_L1 (names : (List Str)) (seed_11 : (Int × Int × Int × Int)) (arrows_5 : (List (Str × Str))) (k : Int) : Option ((Int × Int × Int × Int) × (List (Str × Str))) :=
  bind2 (m__law_draw seed_11 (lenI names)) fun v_12 seed_12 =>
  (atI names v_12).bind fun v_13 =>
  bnd v_13 fun one =>
  bnd ((names.filter fun name => (!eqB name one)).map fun name => name) fun others =>
  bind2 (m__law_draw seed_12 (lenI others)) fun v_14 seed_13 =>
  (atI others v_14).bind fun v_15 =>
  (appG arrows_5 (one, v_15)).bind fun l =>
  some (seed_13, l)
def m__law_web (seed : (Int × Int × Int × Int)) (many : Int) (most : Int) : Option (((List Str) × (List (Str × Str))) × (Int × Int × Int × Int)) :=
  bind2 (m__law_draw seed many) fun v seed_1 =>
  bind2 (m__law_names seed_1 ((1 : Int) + v)) fun v_1 seed_2 =>
  bnd v_1 fun names =>
  bind2 (m__law_draw seed_2 (5 : Int)) fun v_2 seed_3 =>
  bnd v_2 fun way =>
  bind2 (if (decide (way < (3 : Int))) = true then
    bind2 (m__law_draw seed_3 (2 : Int)) fun v_3 seed_5 =>
    (mulG v_3 (b2n (decide ((2 : Int) < (lenI names))))).bind fun v_4 =>
    bnd (cutP names (some v_4) (none : Option Int)) fun some0 =>
    bind2 (m__law_walk seed_5 some0 most) fun v_5 seed_6 =>
    bnd v_5 fun arrows_1 =>
    some (seed_6, arrows_1)
  else
    bnd ((lenI names) / (2 : Int)) fun half =>
    bind2 (m__law_walk seed_3 (cutP names (none : Option Int) (some (max2 (1 : Int) half))) (most / (2 : Int))) fun v_6 seed_7 =>
    bind2 (m__law_walk seed_7 (cutP names (some half) (none : Option Int)) (most / (2 : Int))) fun v_7 seed_8 =>
    (catG v_6 v_7).bind fun v_8 =>
    bnd v_8 fun arrows_2 =>
    some (seed_8, arrows_2)) fun seed_4 arrows =>
  bind2 (if (eqB way (4 : Int)) = true then
    bnd ([] : (List (Str × Str))) fun arrows_4 =>
    bind2 (m__law_draw seed_4 (most + (1 : Int))) fun v_9 seed_10 =>
    (mulG v_9 (b2n (decide ((1 : Int) < (lenI names))))).bind fun v_10 =>
    (rng1G v_10).bind fun v_11 =>
    bind2 (forL v_11 (seed_10, arrows_4) (fun s k => m__law_web_L1 names s.1 s.2 k)) fun seed_14 arrows_6 =>
    some (seed_14, arrows_6)
  else
    some (seed_4, arrows)) fun seed_9 arrows_3 =>
  bind2 (if ((eqB way (2 : Int)) && (!eqB arrows_3 ([] : (List (Str × Str))))) = true then
    bind2 (m__law_draw seed_9 (lenI arrows_3)) fun v_16 seed_16 =>
    bnd v_16 fun at0 =>
    (atI arrows_3 at0).bind fun v_17 =>
    (setI arrows_3 at0 (v_17.2, v_17.1)).bind fun l_1 =>
    some (seed_16, l_1)
  else
    some (seed_9, arrows_3)) fun seed_15 arrows_7 =>
  some ((names, (sortL arrows_7)), seed_15)
def m__law_used (web : ((List Str) × (List (Str × Str)))) : Option (List Str) :=
  some ((web.1.filter fun name => (!eqB ((web.2.filter fun arrow => (inB name [arrow.1, arrow.2])).map fun arrow => arrow) ([] : (List (Str × Str))))).map fun name => name)
def m__law_is_even_L2 (both : (List Str)) (group_2 : (List (Str × Str))) (name_1 : Str) : Option ((List (Str × Str))) :=
  (dget group_2 name_1).bind fun v_4 =>
  if (inB v_4 both) = true then
    (minL both).bind fun v_5 =>
    (dput group_2 name_1 v_5).bind fun l =>
    some l
  else
    some group_2
def m__law_is_even_L1 (group_1 : (List (Str × Str))) (it0 : (Str × Str)) : Option ((List (Str × Str))) :=
  bnd it0.1 fun one =>
  bnd it0.2 fun other =>
  (dget group_1 one).bind fun v_2 =>
  (dget group_1 other).bind fun v_3 =>
  bnd [v_2, v_3] fun both =>
  (forL (group_1.map fun e => e.1) group_1 (fun s name_1 => m__law_is_even_L2 both s name_1)).bind fun group_3 =>
  some group_3
def m__law_is_even (web : ((List Str) × (List (Str × Str)))) : Option Bool :=
  (m__law_used web).bind fun v =>
  (dnew (v.map fun name => (name, name))).bind fun group =>
  (forL web.2 group (fun s it0 => m__law_is_even_L1 s it0)).bind fun group_4 =>
  bnd (sortL (web.2.map fun arrow => arrow.1)) fun starts =>
  bnd (sortL (web.2.map fun arrow_1 => arrow_1.2)) fun ends =>
  (if (eqB starts ends) = true then ((compM (group_4.map fun e => e.1) (fun name_2 => (dget group_4 name_2).bind fun v_6 =>
  (minL (group_4.map fun e => e.1)).bind fun v_7 =>
  (dget group_4 v_7).bind fun v_8 =>
  some (!eqB v_6 v_8)) (fun name_2 => some name_2)).bind fun v_9 =>
  some (eqB v_9 ([] : (List Str)))) else some false).bind fun v_10 =>
  some v_10
def m_used_web (web : ((List Str) × (List (Str × Str)))) : Option ((List Str) × (List (Str × Str))) :=
  bnd ((web.1.filter fun name => (!eqB ((web.2.filter fun arrow => (inB name [arrow.1, arrow.2])).map fun arrow => arrow) ([] : (List (Str × Str))))).map fun name => name) fun names =>
  some (names, web.2)
def m_reached_from_L2 (here : Str) (found_2 : (List Str)) (line_2 : (List Str)) (arrow : (Str × Str)) : Option ((List Str) × (List Str)) :=
  if (inB here [arrow.1, arrow.2]) = true then
    bnd (([arrow.1, arrow.2].filter fun other => (!inB other found_2)).map fun other => other) fun more =>
    (extG found_2 more).bind fun l_1 =>
    (extG line_2 more).bind fun l_2 =>
    some (l_1, l_2)
  else
    some (found_2, line_2)
def m_reached_from_L1 (web : ((List Str) × (List (Str × Str)))) (found_1 : (List Str)) (line_1 : (List Str)) : Option ((List Str) × (List Str)) :=
  bind2 (popE line_1) fun l v =>
  bnd v fun here =>
  bind2 (forL web.2 (found_1, l) (fun s arrow => m_reached_from_L2 here s.1 s.2 arrow)) fun found_3 line_3 =>
  some (found_3, line_3)
def m_reached_from_L1c (web : ((List Str) × (List (Str × Str)))) (found_1 : (List Str)) (line_1 : (List Str)) : Option Bool :=
  some (!eqB line_1 ([] : (List Str)))
def m_reached_from (web : ((List Str) × (List (Str × Str)))) (name : Str) : Option (List Str) :=
  bnd [name] fun found =>
  bnd [name] fun line =>
  bind2 (whileL 1000 (found, line) (fun s => m_reached_from_L1c web s.1 s.2) (fun s => m_reached_from_L1 web s.1 s.2)) fun found_4 line_4 =>
  some found_4
def m_is_even_L1 (arrows : (List (Str × Str))) (name : Str) : Option (Ctl Unit Bool) :=
  if (!eqB (lenI ((arrows.filter fun arrow => (eqB arrow.1 name)).map fun arrow => (1 : Int))) (lenI ((arrows.filter fun arrow_1 => (eqB arrow_1.2 name)).map fun arrow_1 => (1 : Int)))) = true then
    some (.rt false)
  else
    some (.nx ())
def m_is_even (web : ((List Str) × (List (Str × Str)))) : Option Bool :=
  (m_used_web web).bind fun v =>
  bnd v.1 fun names =>
  bnd v.2 fun arrows =>
  bindC (forC (σ := Unit) (ρρ := Bool) names () (fun s name => m_is_even_L1 arrows name)) (fun r => some r) fun s =>
  (if (eqB (lenI names) (0 : Int)) = true then some true else ((atI names (0 : Int)).bind fun v_1 =>
  (m_reached_from web v_1).bind fun v_2 =>
  some (eqB (lenI v_2) (lenI names)))).bind fun v_3 =>
  some v_3
def m_law_L2 (one : ((List Str) × (List (Str × Str)))) : Option (Ctl Unit Bool) :=
  (if (eqB (lenI one.2) (0 : Int)) = true then some true else ((m__law_is_even one).bind fun v_7 =>
  some v_7)).bind fun due =>
  (m_is_even one).bind fun found =>
  (if (!true) = true then some true else ((if (!eqB found due) = true then some true else ((m_is_even one).bind fun v_10 =>
  some (!eqB v_10 due))).bind fun v_11 =>
  some v_11)).bind fun v_12 =>
  if v_12 = true then
    some (.rt false)
  else
    some (.nx ())
def m_law_L1 (cell : Int) : Option (Ctl Unit Bool) :=
  (m__law_seed cell).bind fun seed =>
  bind2 (m__law_web seed (12 : Int) (23 : Int)) fun v_2 seed_1 =>
  bnd v_2 fun web =>
  bnd [web] fun some0 =>
  bind2 (if (!eqB web.2 ([] : (List (Str × Str)))) = true then
    bind2 (m__law_draw seed_1 (lenI web.2)) fun v_3 seed_3 =>
    bnd v_3 fun at0 =>
    (catG (cutP web.2 (none : Option Int) (some at0)) (cutP web.2 (some (at0 + (1 : Int))) (none : Option Int))).bind fun v_4 =>
    (appG some0 (web.1, v_4)).bind fun l =>
    (atI web.2 at0).bind fun v_5 =>
    (catG web.2 [(v_5.2, v_5.1)]).bind fun v_6 =>
    (appG l (web.1, (sortL v_6))).bind fun l_1 =>
    (appG l_1 (web.1, (sortL (web.2.map fun arrow => (arrow.2, arrow.1))))).bind fun l_2 =>
    some (seed_3, l_2)
  else
    some (seed_1, some0)) fun seed_2 some0_1 =>
  bindC (forC (σ := Unit) (ρρ := Bool) some0_1 () (fun s one => m_law_L2 one)) (fun r => some (.rt r)) fun s =>
  some (.nx ())
def m_law (script : (List Int)) : Option Bool :=
  (m__law_cells script (8 : Int)).bind fun v =>
  bindC (forC (σ := Unit) (ρρ := Bool) v () (fun s cell => m_law_L1 cell)) (fun r => some r) fun s =>
  bnd ([("a" : Str), ("b" : Str), ("c" : Str), ("d" : Str)], [(("a" : Str), ("b" : Str)), (("b" : Str), ("a" : Str)), (("c" : Str), ("d" : Str)), (("d" : Str), ("c" : Str))]) fun two =>
  (m_is_even ([("a" : Str)], ([] : (List (Str × Str))))).bind fun v_13 =>
  (if (decide (v_13 = true)) = true then ((m_is_even two).bind fun v_14 =>
  some (decide (v_14 = false))) else some false).bind fun v_15 =>
  some v_15
end LW
namespace LW
open PySem PySem.Spec PyProof.Rows L2 TR
theorem tie__law_cells (script : (List Int)) (many : Int) (res : (List Int)) (h : m__law_cells script many = some res) : fn__law_cells [.vw ((tF (tv cI)) script), .ow ((tv cI) many)] = .ok ((tL (tv cI)) res, [.no, .no]) := by
  refine ru_fn (b := b__law_cells) (n := 2) [.vw ((tF (tv cI)) script), .ow ((tv cI) many)] rfl rfl ?_
  unfold m__law_cells at h
  unfold b__law_cells
  refine xd h fun v h_v h => ?_
  refine ru_ret (t := (tL (tv cI)) v) (f2_of (eSl (eV (i := 0) rfl) ePn (ePs (eO (i := 1) rfl)) (gSl_tF (c := cI))) (eLst (q := (tL (tv cI)) [(lenI script)]) (aCons_of (fN_of (aCons_of (eV (i := 0) rfl) rfl) (gLen_tF (c := (tv cI)))) rfl) (Nat.le_of_ble_eq_true rfl) rfl) (gAdd_tL (c := cI) h_v)) ?_
  cases h
  exact ⟨rfl, rfl⟩
theorem tie__law_seed (cell : Int) (res : (Int × Int × Int × Int)) (h : m__law_seed cell = some res) : fn__law_seed [.ow ((tv cI) cell)] = .ok ((l4 (tv cI) (tv cI) (tv cI) (tv cI)) res, [.no]) := by
  refine ru_fn (b := b__law_seed) (n := 2) [.ow ((tv cI) cell), .no] rfl rfl ?_
  unfold m__law_seed at h
  unfold b__law_seed
  refine xb h fun number h_number h => ?_
  refine ru_seq (ru_setX (t := (tv cI) number) [.ow ((tv cI) cell), .ow ((tv cI) number)] (eqc (c := (tv cI)) h_number (fN_of (aCons_of (eO (i := 0) rfl) (aCons_of (f2_of (eI 0) (eO (i := 0) rfl) (gSub_ii _ _)) rfl)) rfl)) rfl rfl ?_)
  refine ru_ret (t := (l4 (tv cI) (tv cI) (tv cI) (tv cI)) (number, (b2n (decide ((10 ^ 18 : Int) ≤ number))), (0 : Int), (cell % (1999999873 : Int)))) (eLst (q := (l4 (tv cI) (tv cI) (tv cI) (tv cI)) (number, (b2n (decide ((10 ^ 18 : Int) ≤ number))), (0 : Int), (cell % (1999999873 : Int)))) (aCons_of (fPure_of (eO (i := 1) rfl)) (aCons_of (fN_of (aCons_of (f2_of (eO (i := 1) rfl) (f2_of (eI 10) (eI 18) (gPow_c)) (gGe_ii _ _)) rfl) rfl) (aCons_of (eI 0) (aCons_of (f2_of (eO (i := 0) rfl) (eI 1999999873) (gMod_r)) rfl)))) (Nat.le_of_ble_eq_true rfl) rfl) ?_
  cases h
  exact ⟨rfl, rfl⟩
theorem tie__law_draw (seed : (Int × Int × Int × Int)) (most : Int) (res : Int) (seed_o : (Int × Int × Int × Int)) (h : m__law_draw seed most = some (res, seed_o)) : fn__law_draw [.ow ((l4 (tv cI) (tv cI) (tv cI) (tv cI)) seed), .ow ((tv cI) most)] = .ok ((tv cI) res, [.ow ((l4 (tv cI) (tv cI) (tv cI) (tv cI)) seed_o), .no]) := by
  refine ru_fn (b := b__law_draw) (n := 4) [.ow ((l4 (tv cI) (tv cI) (tv cI) (tv cI)) seed), .ow ((tv cI) most), .no, .no] rfl rfl ?_
  unfold m__law_draw at h
  unfold b__law_draw
  refine xb h fun l h_l h => ?_
  refine ru_seq (ru_setPX (tv := (tv cI) (seed.2.2.1 + (1 : Int))) [.ow ((l4 (tv cI) (tv cI) (tv cI) (tv cI)) l), .ow ((tv cI) most), .no, .no] (f2_of (f2_of (eO (i := 0) rfl) (eI 2) (show gIx ((l4 (tv cI) (tv cI) (tv cI) (tv cI)) seed) (tv cI (2 : Int)) = some ((tv cI) seed.2.2.1) from rfl)) (eI 1) (gAdd_ii _ _)) rfl (eI 2) rfl (upd0 (show setKid ((l4 (tv cI) (tv cI) (tv cI) (tv cI)) seed) (cI (2 : Int)) ((tv cI) (seed.2.2.1 + (1 : Int))) = some ((l4 (tv cI) (tv cI) (tv cI) (tv cI)) l) from by rw [h_l]; rfl)) rfl ?_)
  refine ru_seq (ru_if (b := ((eqB l.2.1 (1 : Int)) && (decide ((0 : Int) < l.1)))) (eAndT (fB_of (f2_of (f2_of (eO (i := 0) rfl) (eI 1) (show gIx ((l4 (tv cI) (tv cI) (tv cI) (tv cI)) l) (tv cI (1 : Int)) = some ((tv cI) l.2.1) from rfl)) (eI 1) (gEq_c (c := (tv cI))))) (fB_of (f2_of (f2_of (eO (i := 0) rfl) (eI 0) (show gIx ((l4 (tv cI) (tv cI) (tv cI) (tv cI)) l) (tv cI (0 : Int)) = some ((tv cI) l.1) from rfl)) (eI 0) (gGt_ii _ _)))) (fun hc => ?_) (fun hc => ?_))
  · have h := iteT h hc
    refine xd h fun found h_v h => ?_
    refine ru_seq (ru_setX (t := (tv cI) found) [.ow ((l4 (tv cI) (tv cI) (tv cI) (tv cI)) l), .ow ((tv cI) most), .ow ((tv cI) found), .no] (f2_of (f2_of (eO (i := 0) rfl) (eI 0) (show gIx ((l4 (tv cI) (tv cI) (tv cI) (tv cI)) l) (tv cI (0 : Int)) = some ((tv cI) l.1) from rfl)) (eO (i := 1) rfl) (gMod_g h_v)) rfl rfl ?_)
    refine xd h fun v_1 h_v_1 h => ?_
    refine xb h fun l_1 h_l_1 h => ?_
    refine ru_seq (ru_setPX (tv := (tv cI) v_1) [.ow ((l4 (tv cI) (tv cI) (tv cI) (tv cI)) l_1), .ow ((tv cI) most), .ow ((tv cI) found), .no] (f2_of (f2_of (eO (i := 0) rfl) (eI 0) (show gIx ((l4 (tv cI) (tv cI) (tv cI) (tv cI)) l) (tv cI (0 : Int)) = some ((tv cI) l.1) from rfl)) (eO (i := 1) rfl) (gDiv_g h_v_1)) rfl (eI 0) rfl (upd0 (show setKid ((l4 (tv cI) (tv cI) (tv cI) (tv cI)) l) (cI (0 : Int)) ((tv cI) v_1) = some ((l4 (tv cI) (tv cI) (tv cI) (tv cI)) l_1) from by rw [h_l_1]; rfl)) rfl ?_)
    refine ru_retE (t := (tv cI) found) (eMv [.ow ((l4 (tv cI) (tv cI) (tv cI) (tv cI)) l_1), .ow ((tv cI) most), .no, .no] rfl rfl) ?_
    cases h
    exact ⟨rfl, rfl⟩
  · have h := iteF h hc
    refine ru_nx ?_
    refine xb h fun number h_number h => ?_
    refine ru_seq (ru_setX (t := (tv cI) number) [.ow ((l4 (tv cI) (tv cI) (tv cI) (tv cI)) l), .ow ((tv cI) most), .no, .ow ((tv cI) number)] (eqc (c := (tv cI)) h_number (f2_of (f2_of (f2_of (f2_of (f2_of (eO (i := 0) rfl) (eI 3) (show gIx ((l4 (tv cI) (tv cI) (tv cI) (tv cI)) l) (tv cI (3 : Int)) = some ((tv cI) l.2.2.2) from rfl)) (f2_of (eI 7549) (f2_of (eO (i := 0) rfl) (eI 2) (show gIx ((l4 (tv cI) (tv cI) (tv cI) (tv cI)) l) (tv cI (2 : Int)) = some ((tv cI) l.2.2.1) from rfl)) (gMul_l)) (gAdd_ii _ _)) (eI 53) (gAdd_ii _ _)) (eI 48271) (gMul_r)) (eI 2147483647) (gMod_r))) rfl rfl ?_)
    refine xd h fun v_2 h_v_2 h => ?_
    refine xb h fun number_1 h_number_1 h => ?_
    refine ru_seq (ru_setX (t := (tv cI) number_1) [.ow ((l4 (tv cI) (tv cI) (tv cI) (tv cI)) l), .ow ((tv cI) most), .no, .ow ((tv cI) number_1)] (eqc (c := (tv cI)) h_number_1 (f2_of (f2_of (f2_of (f2_of (eO (i := 3) rfl) (eO (i := 3) rfl) (gMul_g h_v_2)) (eI 2147483629) (gMod_r)) (eI 40692) (gMul_r)) (eI 2147483399) (gMod_r))) rfl rfl ?_)
    refine xd h fun v_3 h_v_3 h => ?_
    refine ru_ret (t := (tv cI) v_3) (f2_of (f2_of (eO (i := 3) rfl) (eI 7) (gDiv_r)) (eO (i := 1) rfl) (gMod_g h_v_3)) ?_
    cases h
    exact ⟨rfl, rfl⟩
theorem tie__law_names (seed : (Int × Int × Int × Int)) (many : Int) (res : (List Str)) (seed_o : (Int × Int × Int × Int)) (h : m__law_names seed many = some (res, seed_o)) : fn__law_names [.ow ((l4 (tv cI) (tv cI) (tv cI) (tv cI)) seed), .ow ((tv cI) many)] = .ok ((tv (cT cS)) res, [.ow ((l4 (tv cI) (tv cI) (tv cI) (tv cI)) seed_o), .no]) := by
  refine ru_fn (b := b__law_names) (n := 8) [.ow ((l4 (tv cI) (tv cI) (tv cI) (tv cI)) seed), .ow ((tv cI) many), .no, .no, .no, .no, .no, .no] rfl rfl ?_
  unfold m__law_names at h
  unfold b__law_names
  refine xb h fun spare h_spare h => ?_
  refine ru_seq (ru_setX (t := (tL (tv cS)) spare) [.ow ((l4 (tv cI) (tv cI) (tv cI) (tv cI)) seed), .ow ((tv cI) many), .ow ((tL (tv cS)) spare), .no, .no, .no, .no, .no] (eqc (c := (tL (tv cS))) h_spare (eLst (q := (tL (tv cS)) [("a" : Str), ("ba" : Str), ("ab" : Str), ("aa" : Str), ("tie" : Str), ("nodes" : Str), ("node" : Str), ("tree" : Str), ("bab" : Str), ("abc" : Str), ("longname" : Str), ("longnamf" : Str), ("zz" : Str), ("z" : Str)]) (aCons_of (eS "a") (aCons_of (eS "ba") (aCons_of (eS "ab") (aCons_of (eS "aa") (aCons_of (eS "tie") (aCons_of (eS "nodes") (aCons_of (eS "node") (aCons_of (eS "tree") (aCons_of (eS "bab") (aCons_of (eS "abc") (aCons_of (eS "longname") (aCons_of (eS "longnamf") (aCons_of (eS "zz") (aCons_of (eS "z") rfl)))))))))))))) (Nat.le_of_ble_eq_true rfl) rfl)) rfl rfl ?_)
  refine xb h fun letters h_letters h => ?_
  refine ru_seq (ru_setX (t := (tv cS) letters) [.ow ((l4 (tv cI) (tv cI) (tv cI) (tv cI)) seed), .ow ((tv cI) many), .ow ((tL (tv cS)) spare), .ow ((tv cS) letters), .no, .no, .no, .no] (eqc (c := (tv cS)) h_letters (eS "abcdefghijklmnopqrstuvwxyz")) rfl rfl ?_)
  refine xd h fun v h_v h => ?_
  refine xd3 h fun v_3 seed_3 spare_2 h_v_3 h => ?_
  refine xb h fun found h_found h => ?_
  refine ru_seq (ru_setEX (t := (tL (tv cS)) found) [.ow ((l4 (tv cI) (tv cI) (tv cI) (tv cI)) seed_3), .ow ((tv cI) many), .ow ((tL (tv cS)) spare_2), .ow ((tv cS) letters), .ow ((tL (tv cS)) found), .no, .no, .no] (eqcS (c := (tL (tv cS))) h_found (eLcS (mk := (fun x : Int => .ow ((tv cI) x))) (fun (s : (Int × Int × Int × Int) × (List Str)) => [.ow ((l4 (tv cI) (tv cI) (tv cI) (tv cI)) s.1), .ow ((tv cI) many), .ow ((tL (tv cS)) s.2), .ow ((tv cS) letters), .no, .no, .no, .no]) (tv cS) (iQ_of (eRng1 h_v (aCons_of (eO (i := 1) rfl) rfl))) (fun _ => ⟨_, rfl⟩) rfl h_v_3 (fun s k y s2 h => by revert h; refine pe2 s fun seed_1 spare_1 => ?_; intro h; replace h := obb0 h; replace h := obb0 h; refine xd2 h fun v_1 seed_2 h_v_1 h => ?_; refine xd2 h fun l v_2 h_l h => ?_; have h1 := (Prod.mk.inj (Option.some.inj h)).1; have h2 := (Prod.mk.inj (Option.some.inj h)).2; subst h1; subst h2; exact ⟨[.ow ((l4 (tv cI) (tv cI) (tv cI) (tv cI)) seed_1), .ow ((tv cI) many), .ow ((tL (tv cS)) spare_1), .ow ((tv cS) letters), .no, .ow ((tv cI) k), .no, .no], [.ow ((l4 (tv cI) (tv cI) (tv cI) (tv cI)) seed_2), .ow ((tv cI) many), .ow ((tL (tv cS)) l), .ow ((tv cS) letters), .no, .ow ((tv cI) k), .no, .no], rfl, (eMethN [.ow ((l4 (tv cI) (tv cI) (tv cI) (tv cI)) seed_2), .ow ((tv cI) many), .ow ((tL (tv cS)) l), .ow ((tv cS) letters), .no, .ow ((tv cI) k), .no, .no] rfl rfl (sCons_of (eCallS (args := [.ow ((l4 (tv cI) (tv cI) (tv cI) (tv cI)) seed_1), .ow ((tv cI) (lenI spare_1))]) [.ow ((l4 (tv cI) (tv cI) (tv cI) (tv cI)) seed_2), .ow ((tv cI) many), .ow ((tL (tv cS)) spare_1), .ow ((tv cS) letters), .no, .ow ((tv cI) k), .no, .no] (sCons_of (eLate (i := 0) rfl) (sCons_of (fVal_of (fN_of (aCons_of (eO (i := 2) rfl) rfl) (gLen_tL (c := (tv cS))))) (sNil_ap _))) rfl (tie__law_draw _ _ _ _ h_v_1) rfl) (sNil_ap _)) rfl rfl (muPopI_c (c := (tv cS)) h_l) rfl), rfl⟩))) rfl rfl ?_)
  refine xd2 h fun v_4 seed_4 h_v_4 h => ?_
  refine xd h fun v_5 h_v_5 h => ?_
  refine xd h fun v_6 h_v_6 h => ?_
  refine xd2 h fun seed_10 found_2 hl_1 h => ?_
  refine ru_seq (ru_forLS (mk := (fun x : Int => .ow ((tv cI) x))) (I := fun (s : ((Int × Int × Int × Int) × (List Str))) ρ => ∃ z1 z2 z3 : Sl, ρ = [.ow ((l4 (tv cI) (tv cI) (tv cI) (tv cI)) s.1), .ow ((tv cI) many), .ow ((tL (tv cS)) spare_2), .ow ((tv cS) letters), .ow ((tL (tv cS)) s.2), z1, z2, z3]) (eRng1E h_v_6 (sCons_of (s2_of (eLate (i := 1) rfl) (eSN (sCons_of (s2_of (eCallS (args := [.ow ((l4 (tv cI) (tv cI) (tv cI) (tv cI)) seed_3), .ow ((tv cI) (3 : Int))]) [.ow ((l4 (tv cI) (tv cI) (tv cI) (tv cI)) seed_4), .ow ((tv cI) many), .ow ((tL (tv cS)) spare_2), .ow ((tv cS) letters), .ow ((tL (tv cS)) found), .no, .no, .no] (sCons_of (eLate (i := 0) rfl) (sCons_of (fVal_of (eI 3)) (sNil_ap _))) rfl (tie__law_draw _ _ _ _ h_v_4) rfl) (fVal_of (eI 0)) rfl rfl (gEq_c (c := (tv cI)))) (sNil_ap _)) rfl rfl) rfl rfl (gMul_g h_v_5)) (sNil_ap _)) rfl) hl_1 ⟨_, _, _, rfl⟩ ?_ ?_)
  · intro s k_1 s1 ρ hI h
    revert h hI
    refine pe2 s fun seed_5 found_1 => ?_
    intro hI h
    have hz : ∃ z1 z2 z3 : Sl, ρ = [.ow ((l4 (tv cI) (tv cI) (tv cI) (tv cI)) seed_5), .ow ((tv cI) many), .ow ((tL (tv cS)) spare_2), .ow ((tv cS) letters), .ow ((tL (tv cS)) found_1), z1, z2, z3] := hI
    refine hz.elim fun z1 hz => ?_
    refine hz.elim fun z2 hz => ?_
    refine hz.elim fun z3 hz => ?_
    subst hz
    have h : m__law_names_L1 letters seed_5 found_1 k_1 = some s1 := h
    unfold m__law_names_L1 at h
    refine ⟨[.ow ((l4 (tv cI) (tv cI) (tv cI) (tv cI)) seed_5), .ow ((tv cI) many), .ow ((tL (tv cS)) spare_2), .ow ((tv cS) letters), .ow ((tL (tv cS)) found_1), .ow ((tv cI) k_1), z2, z3], rfl, ?_⟩
    refine xd2 h fun v_7 seed_6 h_v_7 h => ?_
    refine xd h fun v_8 h_v_8 h => ?_
    refine xd2 h fun v_11 seed_9 h_v_11 h => ?_
    refine xd h fun v_12 h_v_12 h => ?_
    refine xb h fun word h_word h => ?_
    refine ru_seq (ru_setEX (t := (tv cS) word) [.ow ((l4 (tv cI) (tv cI) (tv cI) (tv cI)) seed_9), .ow ((tv cI) many), .ow ((tL (tv cS)) spare_2), .ow ((tv cS) letters), .ow ((tL (tv cS)) found_1), .ow ((tv cI) k_1), .ow ((tv cS) word), .no] (eqcS (c := (tv cS)) h_word (eMethQS (fVal_of (eS "")) rfl rfl (sCons_of (eLcS (mk := (fun x : Int => .ow ((tv cI) x))) (fun (s : (Int × Int × Int × Int)) => [.ow ((l4 (tv cI) (tv cI) (tv cI) (tv cI)) s), .ow ((tv cI) many), .ow ((tL (tv cS)) spare_2), .ow ((tv cS) letters), .ow ((tL (tv cS)) found_1), .ow ((tv cI) k_1), z2, .no]) (tv cS) (eRng1E h_v_8 (sCons_of (s2_of (fVal_of (eI 1)) (eCallS (args := [.ow ((l4 (tv cI) (tv cI) (tv cI) (tv cI)) seed_5), .ow ((tv cI) (8 : Int))]) [.ow ((l4 (tv cI) (tv cI) (tv cI) (tv cI)) seed_6), .ow ((tv cI) many), .ow ((tL (tv cS)) spare_2), .ow ((tv cS) letters), .ow ((tL (tv cS)) found_1), .ow ((tv cI) k_1), z2, z3] (sCons_of (eLate (i := 0) rfl) (sCons_of (fVal_of (eI 8)) (sNil_ap _))) rfl (tie__law_draw _ _ _ _ h_v_7) rfl) rfl rfl (gAdd_ii _ _)) (sNil_ap _)) rfl) (fun _ => ⟨_, rfl⟩) rfl h_v_11 (fun seed_7 j y s2 h => by refine xd2 h fun v_9 seed_8 h_v_9 h => ?_; refine xd h fun v_10 h_v_10 h => ?_; have h1 := (Prod.mk.inj (Option.some.inj h)).1; have h2 := (Prod.mk.inj (Option.some.inj h)).2; subst h1; subst h2; exact ⟨[.ow ((l4 (tv cI) (tv cI) (tv cI) (tv cI)) seed_7), .ow ((tv cI) many), .ow ((tL (tv cS)) spare_2), .ow ((tv cS) letters), .ow ((tL (tv cS)) found_1), .ow ((tv cI) k_1), z2, .ow ((tv cI) j)], [.ow ((l4 (tv cI) (tv cI) (tv cI) (tv cI)) seed_8), .ow ((tv cI) many), .ow ((tL (tv cS)) spare_2), .ow ((tv cS) letters), .ow ((tL (tv cS)) found_1), .ow ((tv cI) k_1), z2, .ow ((tv cI) j)], rfl, (s2_of (eLate (i := 3) rfl) (eCallS (args := [.ow ((l4 (tv cI) (tv cI) (tv cI) (tv cI)) seed_7), .ow ((tv cI) (26 : Int))]) [.ow ((l4 (tv cI) (tv cI) (tv cI) (tv cI)) seed_8), .ow ((tv cI) many), .ow ((tL (tv cS)) spare_2), .ow ((tv cS) letters), .ow ((tL (tv cS)) found_1), .ow ((tv cI) k_1), z2, .ow ((tv cI) j)] (sCons_of (eLate (i := 0) rfl) (sCons_of (fVal_of (eI 26)) (sNil_ap _))) rfl (tie__law_draw _ _ _ _ h_v_9) rfl) rfl rfl (gIxP_of (gIx_S h_v_10))), rfl⟩)) (sNil_ap _)) rfl rfl (gJoin_tL h_v_12))) rfl rfl ?_)
    refine ru_if (b := (!inB word found_1)) (fB_of (f2_of (eO (i := 6) rfl) (eO (i := 4) rfl) (gNotIn_l (c := (tv cS))))) (fun hc => ?_) (fun hc => ?_)
    · have h := iteT h hc
      refine xd h fun l_1 h_l_1 h => ?_
      refine ru_setPX (tv := (tv cS) word) [.ow ((l4 (tv cI) (tv cI) (tv cI) (tv cI)) seed_9), .ow ((tv cI) many), .ow ((tL (tv cS)) spare_2), .ow ((tv cS) letters), .ow ((tL (tv cS)) l_1), .ow ((tv cI) k_1), .ow ((tv cS) word), .no] (fPure_of (eO (i := 6) rfl)) rfl (eO (i := 5) rfl) rfl (upd0 (setKid_tL (c := (tv cS)) h_l_1)) rfl ?_
      cases h
      exact ⟨_, _, _, rfl⟩
    · have h := iteF h hc
      refine ru_nx ?_
      cases h
      exact ⟨_, _, _, rfl⟩
  · intro ρ
    intro hz
    refine hz.elim fun z4 hz => ?_
    refine hz.elim fun z5 hz => ?_
    refine hz.elim fun z6 hz => ?_
    subst hz
    refine ru_ret (t := (tv (cT cS)) (sortL found_2)) (f1_of (fN_of (aCons_of (eO (i := 4) rfl) rfl) (gSorted_c (c := cS))) (gTupO_tL (c := cS))) ?_
    cases h
    exact ⟨rfl, rfl⟩
theorem tie__law_walk (seed : (Int × Int × Int × Int)) (names : (List Str)) (most : Int) (res : (List (Str × Str))) (seed_o : (Int × Int × Int × Int)) (h : m__law_walk seed names most = some (res, seed_o)) : fn__law_walk [.ow ((l4 (tv cI) (tv cI) (tv cI) (tv cI)) seed), .ow ((tv (cT cS)) names), .ow ((tv cI) most)] = .ok ((tL (tv (c2 cS cS))) res, [.ow ((l4 (tv cI) (tv cI) (tv cI) (tv cI)) seed_o), .no, .no]) := by
  refine ru_fn (b := b__law_walk) (n := 10) [.ow ((l4 (tv cI) (tv cI) (tv cI) (tv cI)) seed), .ow ((tv (cT cS)) names), .ow ((tv cI) most), .no, .no, .no, .no, .no, .no, .no] rfl rfl ?_
  unfold m__law_walk at h
  unfold b__law_walk
  refine xd2 h fun v seed_1 h_v h => ?_
  refine xd h fun v_1 h_v_1 h => ?_
  refine xb h fun here h_here h => ?_
  refine ru_seq (ru_setEX (t := (tv cS) here) [.ow ((l4 (tv cI) (tv cI) (tv cI) (tv cI)) seed_1), .ow ((tv (cT cS)) names), .ow ((tv cI) most), .ow ((tv cS) here), .no, .no, .no, .no, .no, .no] (eqcS (c := (tv cS)) h_here (s2_of (eLate (i := 1) rfl) (eCallS (args := [.ow ((l4 (tv cI) (tv cI) (tv cI) (tv cI)) seed), .ow ((tv cI) (lenI names))]) [.ow ((l4 (tv cI) (tv cI) (tv cI) (tv cI)) seed_1), .ow ((tv (cT cS)) names), .ow ((tv cI) most), .no, .no, .no, .no, .no, .no, .no] (sCons_of (eLate (i := 0) rfl) (sCons_of (fVal_of (fN_of (aCons_of (eO (i := 1) rfl) rfl) (gLen_cT (c := cS)))) (sNil_ap _))) rfl (tie__law_draw _ _ _ _ h_v) rfl) rfl rfl (gIxP_of (gIx_cT (c := cS) h_v_1)))) rfl rfl ?_)
  refine xb h fun first h_first h => ?_
  refine ru_seq (ru_setX (t := (tv cS) first) [.ow ((l4 (tv cI) (tv cI) (tv cI) (tv cI)) seed_1), .ow ((tv (cT cS)) names), .ow ((tv cI) most), .ow ((tv cS) here), .ow ((tv cS) first), .no, .no, .no, .no, .no] (eqc (c := (tv cS)) h_first (fPure_of (eO (i := 3) rfl))) rfl rfl ?_)
  refine xb h fun found h_found h => ?_
  refine ru_seq (ru_setX (t := (tL (tv (c2 cS cS))) found) [.ow ((l4 (tv cI) (tv cI) (tv cI) (tv cI)) seed_1), .ow ((tv (cT cS)) names), .ow ((tv cI) most), .ow ((tv cS) here), .ow ((tv cS) first), .ow ((tL (tv (c2 cS cS))) found), .no, .no, .no, .no] (eqc (c := (tL (tv (c2 cS cS)))) h_found (eLst (q := (tL (tv (c2 cS cS))) ([] : (List (Str × Str)))) rfl (Nat.le_of_ble_eq_true rfl) rfl)) rfl rfl ?_)
  refine xd2 h fun v_2 seed_2 h_v_2 h => ?_
  refine xd h fun v_3 h_v_3 h => ?_
  refine xd h fun v_4 h_v_4 h => ?_
  refine xd3 h fun seed_5 here_3 found_2 hl_1 h => ?_
  refine ru_seq (ru_forLS (mk := (fun x : Int => .ow ((tv cI) x))) (I := fun (s : ((Int × Int × Int × Int) × Str × (List (Str × Str)))) ρ => ∃ z1 z2 z3 : Sl, ρ = [.ow ((l4 (tv cI) (tv cI) (tv cI) (tv cI)) s.1), .ow ((tv (cT cS)) names), .ow ((tv cI) most), .ow ((tv cS) s.2.1), .ow ((tv cS) first), .ow ((tL (tv (c2 cS cS))) s.2.2), z1, z2, .no, z3]) (eRng1E h_v_4 (sCons_of (s2_of (eCallS (args := [.ow ((l4 (tv cI) (tv cI) (tv cI) (tv cI)) seed_1), .ow ((tv cI) most)]) [.ow ((l4 (tv cI) (tv cI) (tv cI) (tv cI)) seed_2), .ow ((tv (cT cS)) names), .ow ((tv cI) most), .ow ((tv cS) here), .ow ((tv cS) first), .ow ((tL (tv (c2 cS cS))) found), .no, .no, .no, .no] (sCons_of (eLate (i := 0) rfl) (sCons_of (eLate (i := 2) rfl) (sNil_ap _))) rfl (tie__law_draw _ _ _ _ h_v_2) rfl) (fVal_of (fN_of (aCons_of (f2_of (fN_of (aCons_of (eO (i := 1) rfl) rfl) (gLen_cT (c := cS))) (eI 1) (gGt_ii _ _)) rfl) rfl)) rfl rfl (gMul_g h_v_3)) (sNil_ap _)) rfl) hl_1 ⟨_, _, _, rfl⟩ ?_ ?_)
  · intro s k s1 ρ hI h
    revert h hI
    refine pe3 s fun seed_3 here_1 found_1 => ?_
    intro hI h
    have hz : ∃ z1 z2 z3 : Sl, ρ = [.ow ((l4 (tv cI) (tv cI) (tv cI) (tv cI)) seed_3), .ow ((tv (cT cS)) names), .ow ((tv cI) most), .ow ((tv cS) here_1), .ow ((tv cS) first), .ow ((tL (tv (c2 cS cS))) found_1), z1, z2, .no, z3] := hI
    refine hz.elim fun z1 hz => ?_
    refine hz.elim fun z2 hz => ?_
    refine hz.elim fun z3 hz => ?_
    subst hz
    have h : m__law_walk_L1 names seed_3 here_1 found_1 k = some s1 := h
    unfold m__law_walk_L1 at h
    refine ⟨[.ow ((l4 (tv cI) (tv cI) (tv cI) (tv cI)) seed_3), .ow ((tv (cT cS)) names), .ow ((tv cI) most), .ow ((tv cS) here_1), .ow ((tv cS) first), .ow ((tL (tv (c2 cS cS))) found_1), .ow ((tv cI) k), z2, .no, z3], rfl, ?_⟩
    refine xb h fun others h_others h => ?_
    refine ru_seq (ru_setX (t := (tL (tv cS)) others) [.ow ((l4 (tv cI) (tv cI) (tv cI) (tv cI)) seed_3), .ow ((tv (cT cS)) names), .ow ((tv cI) most), .ow ((tv cS) here_1), .ow ((tv cS) first), .ow ((tL (tv (c2 cS cS))) found_1), .ow ((tv cI) k), .ow ((tL (tv cS)) others), .no, z3] (eqc (c := (tL (tv cS))) h_others (eLcF (mk := (fun x : Str => .ow ((tv cS) x))) [.vw ((l4 (tv cI) (tv cI) (tv cI) (tv cI)) seed_3), .ow ((tv (cT cS)) names), .ow ((tv cI) most), .ow ((tv cS) here_1), .ow ((tv cS) first), .vw ((tL (tv (c2 cS cS))) found_1), .ow ((tv cI) k), (vwS z2), .no, (vwS z3)] (tv cS) (eSeq (eO (i := 1) rfl) (seq_cT (c := cS))) rfl (fun name => ⟨[.vw ((l4 (tv cI) (tv cI) (tv cI) (tv cI)) seed_3), .ow ((tv (cT cS)) names), .ow ((tv cI) most), .ow ((tv cS) here_1), .ow ((tv cS) first), .vw ((tL (tv (c2 cS cS))) found_1), .ow ((tv cI) k), (vwS z2), .ow ((tv cS) name), (vwS z3)], rfl, (fB_of (f2_of (eO (i := 8) rfl) (eO (i := 3) rfl) (gNe_c (c := (tv cS))))), (fPure_of (eO (i := 8) rfl))⟩))) rfl rfl ?_)
    refine xd2 h fun v_5 seed_4 h_v_5 h => ?_
    refine xd h fun v_6 h_v_6 h => ?_
    refine xb h fun there h_there h => ?_
    refine ru_seq (ru_setEX (t := (tv cS) there) [.ow ((l4 (tv cI) (tv cI) (tv cI) (tv cI)) seed_4), .ow ((tv (cT cS)) names), .ow ((tv cI) most), .ow ((tv cS) here_1), .ow ((tv cS) first), .ow ((tL (tv (c2 cS cS))) found_1), .ow ((tv cI) k), .ow ((tL (tv cS)) others), .no, .ow ((tv cS) there)] (eqcS (c := (tv cS)) h_there (s2_of (eLate (i := 7) rfl) (eCallS (args := [.ow ((l4 (tv cI) (tv cI) (tv cI) (tv cI)) seed_3), .ow ((tv cI) (lenI others))]) [.ow ((l4 (tv cI) (tv cI) (tv cI) (tv cI)) seed_4), .ow ((tv (cT cS)) names), .ow ((tv cI) most), .ow ((tv cS) here_1), .ow ((tv cS) first), .ow ((tL (tv (c2 cS cS))) found_1), .ow ((tv cI) k), .ow ((tL (tv cS)) others), .no, z3] (sCons_of (eLate (i := 0) rfl) (sCons_of (fVal_of (fN_of (aCons_of (eO (i := 7) rfl) rfl) (gLen_tL (c := (tv cS))))) (sNil_ap _))) rfl (tie__law_draw _ _ _ _ h_v_5) rfl) rfl rfl (gIxP_of (gIx_tL (c := (tv cS)) h_v_6)))) rfl rfl ?_)
    refine xd h fun l h_l h => ?_
    refine ru_seq (ru_expEX _ (eMethS [.ow ((l4 (tv cI) (tv cI) (tv cI) (tv cI)) seed_4), .ow ((tv (cT cS)) names), .ow ((tv cI) most), .ow ((tv cS) here_1), .ow ((tv cS) first), .ow ((tL (tv (c2 cS cS))) l), .ow ((tv cI) k), .ow ((tL (tv cS)) others), .no, .ow ((tv cS) there)] rfl rfl rfl rfl (aCons_of (eTup (q := (tv (c2 cS cS)) (here_1, there)) (aCons_of (fPure_of (eO (i := 3) rfl)) (aCons_of (fPure_of (eO (i := 9) rfl)) rfl)) (Nat.le_of_ble_eq_true rfl) rfl) rfl) (muAppend_c (c := (tv (c2 cS cS))) h_l) (upd0 rfl) rfl) ?_)
    refine xb h fun here_2 h_here_2 h => ?_
    refine ru_setX (t := (tv cS) here_2) [.ow ((l4 (tv cI) (tv cI) (tv cI) (tv cI)) seed_4), .ow ((tv (cT cS)) names), .ow ((tv cI) most), .ow ((tv cS) here_2), .ow ((tv cS) first), .ow ((tL (tv (c2 cS cS))) l), .ow ((tv cI) k), .ow ((tL (tv cS)) others), .no, .ow ((tv cS) there)] (eqc (c := (tv cS)) h_here_2 (fPure_of (eO (i := 9) rfl))) rfl rfl ?_
    cases h
    exact ⟨_, _, _, rfl⟩
  · intro ρ
    intro hz
    refine hz.elim fun z4 hz => ?_
    refine hz.elim fun z5 hz => ?_
    refine hz.elim fun z6 hz => ?_
    subst hz
    refine xd h fun found_3 hj_found_3 h => ?_
    refine ru_seq (ru_mid (I := fun ρ => ρ = [.ow ((l4 (tv cI) (tv cI) (tv cI) (tv cI)) seed_5), .ow ((tv (cT cS)) names), .ow ((tv cI) most), .ow ((tv cS) here_3), .ow ((tv cS) first), .ow ((tL (tv (c2 cS cS))) found_3), z4, z5, .no, z6]) ?_ ?_)
    · have h := hj_found_3
      refine ru_if (b := (!eqB here_3 first)) (fB_of (f2_of (eO (i := 3) rfl) (eO (i := 4) rfl) (gNe_c (c := (tv cS))))) (fun hc => ?_) (fun hc => ?_)
      · have h := iteT h hc
        refine xd h fun l_1 h_l_1 h => ?_
        refine ru_expEX _ (eMethS [.ow ((l4 (tv cI) (tv cI) (tv cI) (tv cI)) seed_5), .ow ((tv (cT cS)) names), .ow ((tv cI) most), .ow ((tv cS) here_3), .ow ((tv cS) first), .ow ((tL (tv (c2 cS cS))) l_1), z4, z5, .no, z6] rfl rfl rfl rfl (aCons_of (eTup (q := (tv (c2 cS cS)) (here_3, first)) (aCons_of (fPure_of (eO (i := 3) rfl)) (aCons_of (fPure_of (eO (i := 4) rfl)) rfl)) (Nat.le_of_ble_eq_true rfl) rfl) rfl) (muAppend_c (c := (tv (c2 cS cS))) h_l_1) (upd0 rfl) rfl) ?_
        cases h
        exact rfl
      · have h := iteF h hc
        refine ru_nx ?_
        cases h
        exact rfl
    · intro ρ
      intro hz
      subst hz
      refine ru_retE (t := (tL (tv (c2 cS cS))) found_3) (eMv [.ow ((l4 (tv cI) (tv cI) (tv cI) (tv cI)) seed_5), .ow ((tv (cT cS)) names), .ow ((tv cI) most), .ow ((tv cS) here_3), .ow ((tv cS) first), .no, z4, z5, .no, z6] rfl rfl) ?_
      cases h
      exact ⟨rfl, rfl⟩
theorem tie__law_web (seed : (Int × Int × Int × Int)) (many : Int) (most : Int) (res : ((List Str) × (List (Str × Str)))) (seed_o : (Int × Int × Int × Int)) (h : m__law_web seed many most = some (res, seed_o)) : fn__law_web [.ow ((l4 (tv cI) (tv cI) (tv cI) (tv cI)) seed), .ow ((tv cI) many), .ow ((tv cI) most)] = .ok ((tv (c2 (cT cS) (cT (c2 cS cS)))) res, [.ow ((l4 (tv cI) (tv cI) (tv cI) (tv cI)) seed_o), .no, .no]) := by
  refine ru_fn (b := b__law_web) (n := 13) [.ow ((l4 (tv cI) (tv cI) (tv cI) (tv cI)) seed), .ow ((tv cI) many), .ow ((tv cI) most), .no, .no, .no, .no, .no, .no, .no, .no, .no, .no] rfl rfl ?_
  unfold m__law_web at h
  unfold b__law_web
  refine xd2 h fun v seed_1 h_v h => ?_
  refine xd2 h fun v_1 seed_2 h_v_1 h => ?_
  refine xb h fun names h_names h => ?_
  refine ru_seq (ru_setEX (t := (tv (cT cS)) names) [.ow ((l4 (tv cI) (tv cI) (tv cI) (tv cI)) seed_2), .ow ((tv cI) many), .ow ((tv cI) most), .ow ((tv (cT cS)) names), .no, .no, .no, .no, .no, .no, .no, .no, .no] (eqcS (c := (tv (cT cS))) h_names (eCallS (args := [.ow ((l4 (tv cI) (tv cI) (tv cI) (tv cI)) seed_1), .ow ((tv cI) ((1 : Int) + v))]) [.ow ((l4 (tv cI) (tv cI) (tv cI) (tv cI)) seed_2), .ow ((tv cI) many), .ow ((tv cI) most), .no, .no, .no, .no, .no, .no, .no, .no, .no, .no] (sCons_of (eLate (i := 0) rfl) (sCons_of (s2_of (fVal_of (eI 1)) (eCallS (args := [.ow ((l4 (tv cI) (tv cI) (tv cI) (tv cI)) seed), .ow ((tv cI) many)]) [.ow ((l4 (tv cI) (tv cI) (tv cI) (tv cI)) seed_1), .ow ((tv cI) many), .ow ((tv cI) most), .no, .no, .no, .no, .no, .no, .no, .no, .no, .no] (sCons_of (eLate (i := 0) rfl) (sCons_of (eLate (i := 1) rfl) (sNil_ap _))) rfl (tie__law_draw _ _ _ _ h_v) rfl) rfl rfl (gAdd_ii _ _)) (sNil_ap _))) rfl (tie__law_names _ _ _ _ h_v_1) rfl)) rfl rfl ?_)
  refine xd2 h fun v_2 seed_3 h_v_2 h => ?_
  refine xb h fun way h_way h => ?_
  refine ru_seq (ru_setEX (t := (tv cI) way) [.ow ((l4 (tv cI) (tv cI) (tv cI) (tv cI)) seed_3), .ow ((tv cI) many), .ow ((tv cI) most), .ow ((tv (cT cS)) names), .ow ((tv cI) way), .no, .no, .no, .no, .no, .no, .no, .no] (eqcS (c := (tv cI)) h_way (eCallS (args := [.ow ((l4 (tv cI) (tv cI) (tv cI) (tv cI)) seed_2), .ow ((tv cI) (5 : Int))]) [.ow ((l4 (tv cI) (tv cI) (tv cI) (tv cI)) seed_3), .ow ((tv cI) many), .ow ((tv cI) most), .ow ((tv (cT cS)) names), .no, .no, .no, .no, .no, .no, .no, .no, .no] (sCons_of (eLate (i := 0) rfl) (sCons_of (fVal_of (eI 5)) (sNil_ap _))) rfl (tie__law_draw _ _ _ _ h_v_2) rfl)) rfl rfl ?_)
  refine xd2 h fun seed_4 arrows hj_seed_4 h => ?_
  refine ru_seq (ru_mid (I := fun ρ => ∃ z1 z2 : Sl, ρ = [.ow ((l4 (tv cI) (tv cI) (tv cI) (tv cI)) seed_4), .ow ((tv cI) many), .ow ((tv cI) most), .ow ((tv (cT cS)) names), .ow ((tv cI) way), z1, .ow ((tL (tv (c2 cS cS))) arrows), z2, .no, .no, .no, .no, .no]) ?_ ?_)
  · have h := hj_seed_4
    refine ru_if (b := (decide (way < (3 : Int)))) (fB_of (f2_of (eO (i := 4) rfl) (eI 3) (gLt_ii _ _))) (fun hc => ?_) (fun hc => ?_)
    · have h := iteT h hc
      refine xd2 h fun v_3 seed_5 h_v_3 h => ?_
      refine xd h fun v_4 h_v_4 h => ?_
      refine xb h fun some0 h_some0 h => ?_
      refine ru_seq (ru_setEX (t := (tv (cT cS)) some0) [.ow ((l4 (tv cI) (tv cI) (tv cI) (tv cI)) seed_5), .ow ((tv cI) many), .ow ((tv cI) most), .ow ((tv (cT cS)) names), .ow ((tv cI) way), .ow ((tv (cT cS)) some0), .no, .no, .no, .no, .no, .no, .no] (eqcS (c := (tv (cT cS))) h_some0 (eSlS (eLate (i := 3) rfl) (ePsS (s2_of (eCallS (args := [.ow ((l4 (tv cI) (tv cI) (tv cI) (tv cI)) seed_3), .ow ((tv cI) (2 : Int))]) [.ow ((l4 (tv cI) (tv cI) (tv cI) (tv cI)) seed_5), .ow ((tv cI) many), .ow ((tv cI) most), .ow ((tv (cT cS)) names), .ow ((tv cI) way), .no, .no, .no, .no, .no, .no, .no, .no] (sCons_of (eLate (i := 0) rfl) (sCons_of (fVal_of (eI 2)) (sNil_ap _))) rfl (tie__law_draw _ _ _ _ h_v_3) rfl) (fVal_of (fN_of (aCons_of (f2_of (fN_of (aCons_of (eO (i := 3) rfl) rfl) (gLen_cT (c := cS))) (eI 2) (gGt_ii _ _)) rfl) rfl)) rfl rfl (gMul_g h_v_4)) rfl) ePnS rfl (gSl_cT (c := cS)))) rfl rfl ?_)
      refine xd2 h fun v_5 seed_6 h_v_5 h => ?_
      refine xb h fun arrows_1 h_arrows_1 h => ?_
      refine ru_setEX (t := (tL (tv (c2 cS cS))) arrows_1) [.ow ((l4 (tv cI) (tv cI) (tv cI) (tv cI)) seed_6), .ow ((tv cI) many), .ow ((tv cI) most), .ow ((tv (cT cS)) names), .ow ((tv cI) way), .ow ((tv (cT cS)) some0), .ow ((tL (tv (c2 cS cS))) arrows_1), .no, .no, .no, .no, .no, .no] (eqcS (c := (tL (tv (c2 cS cS)))) h_arrows_1 (eCallS (args := [.ow ((l4 (tv cI) (tv cI) (tv cI) (tv cI)) seed_5), .ow ((tv (cT cS)) some0), .ow ((tv cI) most)]) [.ow ((l4 (tv cI) (tv cI) (tv cI) (tv cI)) seed_6), .ow ((tv cI) many), .ow ((tv cI) most), .ow ((tv (cT cS)) names), .ow ((tv cI) way), .ow ((tv (cT cS)) some0), .no, .no, .no, .no, .no, .no, .no] (sCons_of (eLate (i := 0) rfl) (sCons_of (eLate (i := 5) rfl) (sCons_of (eLate (i := 2) rfl) (sNil_ap _)))) rfl (tie__law_walk _ _ _ _ _ h_v_5) rfl)) rfl rfl ?_
      cases h
      exact ⟨_, _, rfl⟩
    · have h := iteF h hc
      refine xb h fun half h_half h => ?_
      refine ru_seq (ru_setX (t := (tv cI) half) [.ow ((l4 (tv cI) (tv cI) (tv cI) (tv cI)) seed_3), .ow ((tv cI) many), .ow ((tv cI) most), .ow ((tv (cT cS)) names), .ow ((tv cI) way), .no, .no, .ow ((tv cI) half), .no, .no, .no, .no, .no] (eqc (c := (tv cI)) h_half (f2_of (fN_of (aCons_of (eO (i := 3) rfl) rfl) (gLen_cT (c := cS))) (eI 2) (gDiv_r))) rfl rfl ?_)
      refine xd2 h fun v_6 seed_7 h_v_6 h => ?_
      refine xd2 h fun v_7 seed_8 h_v_7 h => ?_
      refine xd h fun v_8 h_v_8 h => ?_
      refine xb h fun arrows_2 h_arrows_2 h => ?_
      refine ru_setEX (t := (tL (tv (c2 cS cS))) arrows_2) [.ow ((l4 (tv cI) (tv cI) (tv cI) (tv cI)) seed_8), .ow ((tv cI) many), .ow ((tv cI) most), .ow ((tv (cT cS)) names), .ow ((tv cI) way), .no, .ow ((tL (tv (c2 cS cS))) arrows_2), .ow ((tv cI) half), .no, .no, .no, .no, .no] (eqcS (c := (tL (tv (c2 cS cS)))) h_arrows_2 (s2_of (eCallS (args := [.ow ((l4 (tv cI) (tv cI) (tv cI) (tv cI)) seed_3), .ow ((tv (cT cS)) (cutP names (none : Option Int) (some (max2 (1 : Int) half)))), .ow ((tv cI) (most / (2 : Int)))]) [.ow ((l4 (tv cI) (tv cI) (tv cI) (tv cI)) seed_7), .ow ((tv cI) many), .ow ((tv cI) most), .ow ((tv (cT cS)) names), .ow ((tv cI) way), .no, .no, .ow ((tv cI) half), .no, .no, .no, .no, .no] (sCons_of (eLate (i := 0) rfl) (sCons_of (fVal_of (eSl (eO (i := 3) rfl) ePn (ePs (fN_of (aCons_of (eI 1) (aCons_of (eO (i := 7) rfl) rfl)) rfl)) (gSl_cT (c := cS)))) (sCons_of (fVal_of (f2_of (eO (i := 2) rfl) (eI 2) (gDiv_r))) (sNil_ap _)))) rfl (tie__law_walk _ _ _ _ _ h_v_6) rfl) (eCallS (args := [.ow ((l4 (tv cI) (tv cI) (tv cI) (tv cI)) seed_7), .ow ((tv (cT cS)) (cutP names (some half) (none : Option Int))), .ow ((tv cI) (most / (2 : Int)))]) [.ow ((l4 (tv cI) (tv cI) (tv cI) (tv cI)) seed_8), .ow ((tv cI) many), .ow ((tv cI) most), .ow ((tv (cT cS)) names), .ow ((tv cI) way), .no, .no, .ow ((tv cI) half), .no, .no, .no, .no, .no] (sCons_of (eLate (i := 0) rfl) (sCons_of (fVal_of (eSl (eO (i := 3) rfl) (ePs (eO (i := 7) rfl)) ePn (gSl_cT (c := cS)))) (sCons_of (fVal_of (f2_of (eO (i := 2) rfl) (eI 2) (gDiv_r))) (sNil_ap _)))) rfl (tie__law_walk _ _ _ _ _ h_v_7) rfl) rfl rfl (gAdd_tL (c := (c2 cS cS)) h_v_8))) rfl rfl ?_
      cases h
      exact ⟨_, _, rfl⟩
  · intro ρ
    intro hz
    refine hz.elim fun z1 hz => ?_
    refine hz.elim fun z2 hz => ?_
    subst hz
    refine xd2 h fun seed_9 arrows_3 hj_seed_9 h => ?_
    refine ru_seq (ru_mid (I := fun ρ => ∃ z3 z4 z5 : Sl, ρ = [.ow ((l4 (tv cI) (tv cI) (tv cI) (tv cI)) seed_9), .ow ((tv cI) many), .ow ((tv cI) most), .ow ((tv (cT cS)) names), .ow ((tv cI) way), z1, .ow ((tL (tv (c2 cS cS))) arrows_3), z2, z3, z4, z5, .no, .no]) ?_ ?_)
    · have h := hj_seed_9
      refine ru_if (b := (eqB way (4 : Int))) (fB_of (f2_of (eO (i := 4) rfl) (eI 4) (gEq_c (c := (tv cI))))) (fun hc => ?_) (fun hc => ?_)
      · have h := iteT h hc
        refine xb h fun arrows_4 h_arrows_4 h => ?_
        refine ru_seq (ru_setX (t := (tL (tv (c2 cS cS))) arrows_4) [.ow ((l4 (tv cI) (tv cI) (tv cI) (tv cI)) seed_4), .ow ((tv cI) many), .ow ((tv cI) most), .ow ((tv (cT cS)) names), .ow ((tv cI) way), z1, .ow ((tL (tv (c2 cS cS))) arrows_4), z2, .no, .no, .no, .no, .no] (eqc (c := (tL (tv (c2 cS cS)))) h_arrows_4 (eLst (q := (tL (tv (c2 cS cS))) ([] : (List (Str × Str)))) rfl (Nat.le_of_ble_eq_true rfl) rfl)) rfl rfl ?_)
        refine xd2 h fun v_9 seed_10 h_v_9 h => ?_
        refine xd h fun v_10 h_v_10 h => ?_
        refine xd h fun v_11 h_v_11 h => ?_
        refine xd2 h fun seed_14 arrows_6 hl_1 h => ?_
        refine (ru_forLS (mk := (fun x : Int => .ow ((tv cI) x))) (I := fun (s : ((Int × Int × Int × Int) × (List (Str × Str)))) ρ => ∃ z6 z7 z8 : Sl, ρ = [.ow ((l4 (tv cI) (tv cI) (tv cI) (tv cI)) s.1), .ow ((tv cI) many), .ow ((tv cI) most), .ow ((tv (cT cS)) names), .ow ((tv cI) way), z1, .ow ((tL (tv (c2 cS cS))) s.2), z2, z6, z7, z8, .no, .no]) (eRng1E h_v_11 (sCons_of (s2_of (eCallS (args := [.ow ((l4 (tv cI) (tv cI) (tv cI) (tv cI)) seed_4), .ow ((tv cI) (most + (1 : Int)))]) [.ow ((l4 (tv cI) (tv cI) (tv cI) (tv cI)) seed_10), .ow ((tv cI) many), .ow ((tv cI) most), .ow ((tv (cT cS)) names), .ow ((tv cI) way), z1, .ow ((tL (tv (c2 cS cS))) arrows_4), z2, .no, .no, .no, .no, .no] (sCons_of (eLate (i := 0) rfl) (sCons_of (fVal_of (f2_of (eO (i := 2) rfl) (eI 1) (gAdd_ii _ _))) (sNil_ap _))) rfl (tie__law_draw _ _ _ _ h_v_9) rfl) (fVal_of (fN_of (aCons_of (f2_of (fN_of (aCons_of (eO (i := 3) rfl) rfl) (gLen_cT (c := cS))) (eI 1) (gGt_ii _ _)) rfl) rfl)) rfl rfl (gMul_g h_v_10)) (sNil_ap _)) rfl) hl_1 ⟨_, _, _, rfl⟩ ?_ ?_)
        · intro s k s1 ρ hI h
          revert h hI
          refine pe2 s fun seed_11 arrows_5 => ?_
          intro hI h
          have hz : ∃ z6 z7 z8 : Sl, ρ = [.ow ((l4 (tv cI) (tv cI) (tv cI) (tv cI)) seed_11), .ow ((tv cI) many), .ow ((tv cI) most), .ow ((tv (cT cS)) names), .ow ((tv cI) way), z1, .ow ((tL (tv (c2 cS cS))) arrows_5), z2, z6, z7, z8, .no, .no] := hI
          refine hz.elim fun z6 hz => ?_
          refine hz.elim fun z7 hz => ?_
          refine hz.elim fun z8 hz => ?_
          subst hz
          have h : m__law_web_L1 names seed_11 arrows_5 k = some s1 := h
          unfold m__law_web_L1 at h
          refine ⟨[.ow ((l4 (tv cI) (tv cI) (tv cI) (tv cI)) seed_11), .ow ((tv cI) many), .ow ((tv cI) most), .ow ((tv (cT cS)) names), .ow ((tv cI) way), z1, .ow ((tL (tv (c2 cS cS))) arrows_5), z2, .ow ((tv cI) k), z7, z8, .no, .no], rfl, ?_⟩
          refine xd2 h fun v_12 seed_12 h_v_12 h => ?_
          refine xd h fun v_13 h_v_13 h => ?_
          refine xb h fun one h_one h => ?_
          refine ru_seq (ru_setEX (t := (tv cS) one) [.ow ((l4 (tv cI) (tv cI) (tv cI) (tv cI)) seed_12), .ow ((tv cI) many), .ow ((tv cI) most), .ow ((tv (cT cS)) names), .ow ((tv cI) way), z1, .ow ((tL (tv (c2 cS cS))) arrows_5), z2, .ow ((tv cI) k), .ow ((tv cS) one), z8, .no, .no] (eqcS (c := (tv cS)) h_one (s2_of (eLate (i := 3) rfl) (eCallS (args := [.ow ((l4 (tv cI) (tv cI) (tv cI) (tv cI)) seed_11), .ow ((tv cI) (lenI names))]) [.ow ((l4 (tv cI) (tv cI) (tv cI) (tv cI)) seed_12), .ow ((tv cI) many), .ow ((tv cI) most), .ow ((tv (cT cS)) names), .ow ((tv cI) way), z1, .ow ((tL (tv (c2 cS cS))) arrows_5), z2, .ow ((tv cI) k), z7, z8, .no, .no] (sCons_of (eLate (i := 0) rfl) (sCons_of (fVal_of (fN_of (aCons_of (eO (i := 3) rfl) rfl) (gLen_cT (c := cS)))) (sNil_ap _))) rfl (tie__law_draw _ _ _ _ h_v_12) rfl) rfl rfl (gIxP_of (gIx_cT (c := cS) h_v_13)))) rfl rfl ?_)
          refine xb h fun others h_others h => ?_
          refine ru_seq (ru_setX (t := (tL (tv cS)) others) [.ow ((l4 (tv cI) (tv cI) (tv cI) (tv cI)) seed_12), .ow ((tv cI) many), .ow ((tv cI) most), .ow ((tv (cT cS)) names), .ow ((tv cI) way), z1, .ow ((tL (tv (c2 cS cS))) arrows_5), z2, .ow ((tv cI) k), .ow ((tv cS) one), .ow ((tL (tv cS)) others), .no, .no] (eqc (c := (tL (tv cS))) h_others (eLcF (mk := (fun x : Str => .ow ((tv cS) x))) [.vw ((l4 (tv cI) (tv cI) (tv cI) (tv cI)) seed_12), .ow ((tv cI) many), .ow ((tv cI) most), .ow ((tv (cT cS)) names), .ow ((tv cI) way), (vwS z1), .vw ((tL (tv (c2 cS cS))) arrows_5), (vwS z2), .ow ((tv cI) k), .ow ((tv cS) one), (vwS z8), .no, .no] (tv cS) (eSeq (eO (i := 3) rfl) (seq_cT (c := cS))) rfl (fun name => ⟨[.vw ((l4 (tv cI) (tv cI) (tv cI) (tv cI)) seed_12), .ow ((tv cI) many), .ow ((tv cI) most), .ow ((tv (cT cS)) names), .ow ((tv cI) way), (vwS z1), .vw ((tL (tv (c2 cS cS))) arrows_5), (vwS z2), .ow ((tv cI) k), .ow ((tv cS) one), (vwS z8), .ow ((tv cS) name), .no], rfl, (fB_of (f2_of (eO (i := 11) rfl) (eO (i := 9) rfl) (gNe_c (c := (tv cS))))), (fPure_of (eO (i := 11) rfl))⟩))) rfl rfl ?_)
          refine xd2 h fun v_14 seed_13 h_v_14 h => ?_
          refine xd h fun v_15 h_v_15 h => ?_
          refine xd h fun l h_l h => ?_
          refine ru_expEX _ (eMethN [.ow ((l4 (tv cI) (tv cI) (tv cI) (tv cI)) seed_13), .ow ((tv cI) many), .ow ((tv cI) most), .ow ((tv (cT cS)) names), .ow ((tv cI) way), z1, .ow ((tL (tv (c2 cS cS))) l), z2, .ow ((tv cI) k), .ow ((tv cS) one), .ow ((tL (tv cS)) others), .no, .no] rfl rfl (sCons_of (eTupS (q := (tv (c2 cS cS)) (one, v_15)) (sCons_of (eLate (i := 9) rfl) (sCons_of (s2_of (eLate (i := 10) rfl) (eCallS (args := [.ow ((l4 (tv cI) (tv cI) (tv cI) (tv cI)) seed_12), .ow ((tv cI) (lenI others))]) [.ow ((l4 (tv cI) (tv cI) (tv cI) (tv cI)) seed_13), .ow ((tv cI) many), .ow ((tv cI) most), .ow ((tv (cT cS)) names), .ow ((tv cI) way), z1, .ow ((tL (tv (c2 cS cS))) arrows_5), z2, .ow ((tv cI) k), .ow ((tv cS) one), .ow ((tL (tv cS)) others), .no, .no] (sCons_of (eLate (i := 0) rfl) (sCons_of (fVal_of (fN_of (aCons_of (eO (i := 10) rfl) rfl) (gLen_tL (c := (tv cS))))) (sNil_ap _))) rfl (tie__law_draw _ _ _ _ h_v_14) rfl) rfl rfl (gIxP_of (gIx_tL (c := (tv cS)) h_v_15))) (sNil_ap _))) rfl (Nat.le_of_ble_eq_true rfl) rfl) (sNil_ap _)) rfl rfl (muAppend_c (c := (tv (c2 cS cS))) h_l) rfl) ?_
          cases h
          exact ⟨_, _, _, rfl⟩
        · intro ρ
          intro hz
          refine hz.elim fun z9 hz => ?_
          refine hz.elim fun z10 hz => ?_
          refine hz.elim fun z11 hz => ?_
          subst hz
          cases h
          exact ⟨_, _, _, rfl⟩
      · have h := iteF h hc
        refine ru_nx ?_
        cases h
        exact ⟨_, _, _, rfl⟩
    · intro ρ
      intro hz
      refine hz.elim fun z3 hz => ?_
      refine hz.elim fun z4 hz => ?_
      refine hz.elim fun z5 hz => ?_
      subst hz
      refine xd2 h fun seed_15 arrows_7 hj_seed_15 h => ?_
      refine ru_seq (ru_mid (I := fun ρ => ∃ z12 : Sl, ρ = [.ow ((l4 (tv cI) (tv cI) (tv cI) (tv cI)) seed_15), .ow ((tv cI) many), .ow ((tv cI) most), .ow ((tv (cT cS)) names), .ow ((tv cI) way), z1, .ow ((tL (tv (c2 cS cS))) arrows_7), z2, z3, z4, z5, .no, z12]) ?_ ?_)
      · have h := hj_seed_15
        refine ru_if (b := ((eqB way (2 : Int)) && (!eqB arrows_3 ([] : (List (Str × Str)))))) (eAndT (fB_of (f2_of (eO (i := 4) rfl) (eI 2) (gEq_c (c := (tv cI))))) (fB_of (f2_of (eO (i := 6) rfl) (eLst (q := (tL (tv (c2 cS cS))) ([] : (List (Str × Str)))) rfl (Nat.le_of_ble_eq_true rfl) rfl) (gNe_c (c := (tL (tv (c2 cS cS)))))))) (fun hc => ?_) (fun hc => ?_)
        · have h := iteT h hc
          refine xd2 h fun v_16 seed_16 h_v_16 h => ?_
          refine xb h fun at0 h_at0 h => ?_
          refine ru_seq (ru_setEX (t := (tv cI) at0) [.ow ((l4 (tv cI) (tv cI) (tv cI) (tv cI)) seed_16), .ow ((tv cI) many), .ow ((tv cI) most), .ow ((tv (cT cS)) names), .ow ((tv cI) way), z1, .ow ((tL (tv (c2 cS cS))) arrows_3), z2, z3, z4, z5, .no, .ow ((tv cI) at0)] (eqcS (c := (tv cI)) h_at0 (eCallS (args := [.ow ((l4 (tv cI) (tv cI) (tv cI) (tv cI)) seed_9), .ow ((tv cI) (lenI arrows_3))]) [.ow ((l4 (tv cI) (tv cI) (tv cI) (tv cI)) seed_16), .ow ((tv cI) many), .ow ((tv cI) most), .ow ((tv (cT cS)) names), .ow ((tv cI) way), z1, .ow ((tL (tv (c2 cS cS))) arrows_3), z2, z3, z4, z5, .no, .no] (sCons_of (eLate (i := 0) rfl) (sCons_of (fVal_of (fN_of (aCons_of (eO (i := 6) rfl) rfl) (gLen_tL (c := (tv (c2 cS cS)))))) (sNil_ap _))) rfl (tie__law_draw _ _ _ _ h_v_16) rfl)) rfl rfl ?_)
          refine xd h fun v_17 h_v_17 h => ?_
          refine xd h fun l_1 h_l_1 h => ?_
          refine ru_setPX (tv := (tv (c2 cS cS)) (v_17.2, v_17.1)) [.ow ((l4 (tv cI) (tv cI) (tv cI) (tv cI)) seed_16), .ow ((tv cI) many), .ow ((tv cI) most), .ow ((tv (cT cS)) names), .ow ((tv cI) way), z1, .ow ((tL (tv (c2 cS cS))) l_1), z2, z3, z4, z5, .no, .ow ((tv cI) at0)] (f1_of (f2_of (eO (i := 6) rfl) (eO (i := 12) rfl) (gIx_tL (c := (tv (c2 cS cS))) h_v_17)) (gRevT_2 (a := cS) (b := cS))) rfl (eO (i := 12) rfl) rfl (upd0 (setKid_tL (c := (tv (c2 cS cS))) h_l_1)) rfl ?_
          cases h
          exact ⟨_, rfl⟩
        · have h := iteF h hc
          refine ru_nx ?_
          cases h
          exact ⟨_, rfl⟩
      · intro ρ
        intro hz
        refine hz.elim fun z12 hz => ?_
        subst hz
        refine ru_ret (t := (tv (c2 (cT cS) (cT (c2 cS cS)))) (names, (sortL arrows_7))) (eTup (q := (tv (c2 (cT cS) (cT (c2 cS cS)))) (names, (sortL arrows_7))) (aCons_of (fPure_of (eO (i := 3) rfl)) (aCons_of (f1_of (fN_of (aCons_of (eO (i := 6) rfl) rfl) (gSorted_c (c := (c2 cS cS)))) (gTupO_tL (c := (c2 cS cS)))) rfl)) (Nat.le_of_ble_eq_true rfl) rfl) ?_
        cases h
        exact ⟨rfl, rfl⟩
theorem tie__law_used (web : ((List Str) × (List (Str × Str)))) (res : (List Str)) (h : m__law_used web = some res) : fn__law_used [.ow ((tv (c2 (cT cS) (cT (c2 cS cS)))) web)] = .ok ((tv (cT cS)) res, [.no]) := by
  refine ru_fn (b := b__law_used) (n := 3) [.ow ((tv (c2 (cT cS) (cT (c2 cS cS)))) web), .no, .no] rfl rfl ?_
  unfold m__law_used at h
  unfold b__law_used
  refine ru_ret (t := (tv (cT cS)) ((web.1.filter fun name => (!eqB ((web.2.filter fun arrow => (inB name [arrow.1, arrow.2])).map fun arrow => arrow) ([] : (List (Str × Str))))).map fun name => name)) (f1_of (eLcF (mk := (fun x : Str => .ow ((tv cS) x))) [.ow ((tv (c2 (cT cS) (cT (c2 cS cS)))) web), .no, .no] (tv cS) (eSeq (f2_of (eO (i := 0) rfl) (eI 0) (show gIx ((tv (c2 (cT cS) (cT (c2 cS cS)))) web) (tv cI (0 : Int)) = some ((tv (cT cS)) web.1) from rfl)) (seq_cT (c := cS))) rfl (fun name => ⟨[.ow ((tv (c2 (cT cS) (cT (c2 cS cS)))) web), .ow ((tv cS) name), .no], rfl, (fB_of (f2_of (eLcF (mk := (fun x : (Str × Str) => .ow ((tv (c2 cS cS)) x))) [.ow ((tv (c2 (cT cS) (cT (c2 cS cS)))) web), .ow ((tv cS) name), .no] (tv (c2 cS cS)) (eSeq (f2_of (eO (i := 0) rfl) (eI 1) (show gIx ((tv (c2 (cT cS) (cT (c2 cS cS)))) web) (tv cI (1 : Int)) = some ((tv (cT (c2 cS cS))) web.2) from rfl)) (seq_cT (c := (c2 cS cS)))) rfl (fun arrow => ⟨[.ow ((tv (c2 (cT cS) (cT (c2 cS cS)))) web), .ow ((tv cS) name), .ow ((tv (c2 cS cS)) arrow)], rfl, (fB_of (f2_of (eO (i := 1) rfl) (eO (i := 2) rfl) (gIn_2 (c := cS)))), (fPure_of (eO (i := 2) rfl))⟩)) (eLst (q := (tL (tv (c2 cS cS))) ([] : (List (Str × Str)))) rfl (Nat.le_of_ble_eq_true rfl) rfl) (gNe_c (c := (tL (tv (c2 cS cS))))))), (fPure_of (eO (i := 1) rfl))⟩)) (gTupO_tL (c := cS))) ?_
  cases h
  exact ⟨rfl, rfl⟩
theorem tie__law_is_even (web : ((List Str) × (List (Str × Str)))) (res : Bool) (h : m__law_is_even web = some res) : fn__law_is_even [.ow ((tv (c2 (cT cS) (cT (c2 cS cS)))) web)] = .ok ((tv cB) res, [.no]) := by
  refine ru_fn (b := b__law_is_even) (n := 9) [.ow ((tv (c2 (cT cS) (cT (c2 cS cS)))) web), .no, .no, .no, .no, .no, .no, .no, .no] rfl rfl ?_
  unfold m__law_is_even at h
  unfold b__law_is_even
  refine xd h fun v h_v h => ?_
  refine xd h fun group h_v_1 h => ?_
  refine ru_seq (ru_setX (t := (tD cS (tv cS)) group) [.ow ((tv (c2 (cT cS) (cT (c2 cS cS)))) web), .ow ((tD cS (tv cS)) group), .no, .no, .no, .no, .no, .no, .no] (f1_of (eLcM (mk := (fun x : Str => .ow ((tv cS) x))) [.ow ((tv (c2 (cT cS) (cT (c2 cS cS)))) web), .no, .no, .no, .no, .no, .no, .no, .no] (tv (c2 cS cS)) (eSeq (eCall (args := [.ow ((tv (c2 (cT cS) (cT (c2 cS cS)))) web)]) (aCons_of (eO (i := 0) rfl) rfl) rfl (tie__law_used _ _ h_v)) (seq_cT (c := cS))) rfl (fun name => ⟨[.ow ((tv (c2 (cT cS) (cT (c2 cS cS)))) web), .no, .ow ((tv cS) name), .no, .no, .no, .no, .no, .no], rfl, (eTup (q := (tv (c2 cS cS)) (name, name)) (aCons_of (fPure_of (eO (i := 2) rfl)) (aCons_of (fPure_of (eO (i := 2) rfl)) rfl)) (Nat.le_of_ble_eq_true rfl) rfl)⟩)) (gDictO_c (k := cS) (c := (tv cS)) h_v_1 (fun _ => rfl))) rfl rfl ?_)
  refine xd h fun group_4 hl_1 h => ?_
  refine ru_seq (ru_forL (mk := (fun x : (Str × Str) => .ow ((tv (c2 cS cS)) x))) (I := fun (s : ((List (Str × Str)))) ρ => ∃ z1 z2 z3 z4 : Sl, ρ = [.ow ((tv (c2 (cT cS) (cT (c2 cS cS)))) web), .ow ((tD cS (tv cS)) s), z1, z2, z3, z4, .no, .no, .no]) (eSeq (f2_of (eZo (i := 0) rfl) (eI 1) (show gIx ((tv (c2 (cT cS) (cT (c2 cS cS)))) web) (tv cI (1 : Int)) = some ((tv (cT (c2 cS cS))) web.2) from rfl)) (seq_cT (c := (c2 cS cS)))) hl_1 ⟨_, _, _, _, rfl⟩ ?_ ?_)
  · intro group_1 it0 s1 ρ hI h
    have hz : ∃ z1 z2 z3 z4 : Sl, ρ = [.ow ((tv (c2 (cT cS) (cT (c2 cS cS)))) web), .ow ((tD cS (tv cS)) group_1), z1, z2, z3, z4, .no, .no, .no] := hI
    refine hz.elim fun z1 hz => ?_
    refine hz.elim fun z2 hz => ?_
    refine hz.elim fun z3 hz => ?_
    refine hz.elim fun z4 hz => ?_
    subst hz
    have h : m__law_is_even_L1 group_1 it0 = some s1 := h
    unfold m__law_is_even_L1 at h
    refine xb h fun one h_one h => ?_
    refine xb h fun other h_other h => ?_
    refine ⟨[.ow ((tv (c2 (cT cS) (cT (c2 cS cS)))) web), .ow ((tD cS (tv cS)) group_1), z1, .ow ((tv cS) one), .ow ((tv cS) other), z4, .no, .no, .no], (by rw [h_one, h_other]; rfl), ?_⟩
    refine xd h fun v_2 h_v_2 h => ?_
    refine xd h fun v_3 h_v_3 h => ?_
    refine xb h fun both h_both h => ?_
    refine ru_seq (ru_setX (t := (tL (tv cS)) both) [.ow ((tv (c2 (cT cS) (cT (c2 cS cS)))) web), .ow ((tD cS (tv cS)) group_1), z1, .ow ((tv cS) one), .ow ((tv cS) other), .ow ((tL (tv cS)) both), .no, .no, .no] (eqc (c := (tL (tv cS))) h_both (eLst (q := (tL (tv cS)) [v_2, v_3]) (aCons_of (f2_of (eO (i := 1) rfl) (eO (i := 3) rfl) (gIxP_of (gIx_tD (k := cS) (c := (tv cS)) h_v_2))) (aCons_of (f2_of (eO (i := 1) rfl) (eO (i := 4) rfl) (gIxP_of (gIx_tD (k := cS) (c := (tv cS)) h_v_3))) rfl)) (Nat.le_of_ble_eq_true rfl) rfl)) rfl rfl ?_)
    refine xd h fun group_3 hl_2 h => ?_
    refine (ru_forL (mk := (fun x : Str => .ow ((tv cS) x))) (I := fun (s : ((List (Str × Str)))) ρ => ∃ z5 : Sl, ρ = [.ow ((tv (c2 (cT cS) (cT (c2 cS cS)))) web), .ow ((tD cS (tv cS)) s), z5, .ow ((tv cS) one), .ow ((tv cS) other), .ow ((tL (tv cS)) both), .no, .no, .no]) (eSeq (fN_of (aCons_of (eO (i := 1) rfl) rfl) (gLstD_tD (k := cS) (c := (tv cS)))) (seq_tL (c := (tv cS)) (mk := (fun x : Str => .ow ((tv cS) x))) (fun _ => rfl))) hl_2 ⟨_, rfl⟩ ?_ ?_)
    · intro group_2 name_1 s1 ρ hI h
      have hz : ∃ z5 : Sl, ρ = [.ow ((tv (c2 (cT cS) (cT (c2 cS cS)))) web), .ow ((tD cS (tv cS)) group_2), z5, .ow ((tv cS) one), .ow ((tv cS) other), .ow ((tL (tv cS)) both), .no, .no, .no] := hI
      refine hz.elim fun z5 hz => ?_
      subst hz
      have h : m__law_is_even_L2 both group_2 name_1 = some s1 := h
      unfold m__law_is_even_L2 at h
      refine ⟨[.ow ((tv (c2 (cT cS) (cT (c2 cS cS)))) web), .ow ((tD cS (tv cS)) group_2), .ow ((tv cS) name_1), .ow ((tv cS) one), .ow ((tv cS) other), .ow ((tL (tv cS)) both), .no, .no, .no], rfl, ?_⟩
      refine xd h fun v_4 h_v_4 h => ?_
      refine ru_if (b := (inB v_4 both)) (fB_of (f2_of (f2_of (eO (i := 1) rfl) (eO (i := 2) rfl) (gIx_tD (k := cS) (c := (tv cS)) h_v_4)) (eO (i := 5) rfl) (gIn_l (c := (tv cS))))) (fun hc => ?_) (fun hc => ?_)
      · have h := iteT h hc
        refine xd h fun v_5 h_v_5 h => ?_
        refine xd h fun l h_l h => ?_
        refine ru_setPX (tv := (tv cS) v_5) [.ow ((tv (c2 (cT cS) (cT (c2 cS cS)))) web), .ow ((tD cS (tv cS)) l), .ow ((tv cS) name_1), .ow ((tv cS) one), .ow ((tv cS) other), .ow ((tL (tv cS)) both), .no, .no, .no] (fN_of (aCons_of (eO (i := 5) rfl) rfl) (gMin_c (c := cS) h_v_5)) rfl (eO (i := 2) rfl) rfl (upd0 (setKid_tD (k := cS) (c := (tv cS)) h_l)) rfl ?_
        cases h
        exact ⟨_, rfl⟩
      · have h := iteF h hc
        refine ru_nx ?_
        cases h
        exact ⟨_, rfl⟩
    · intro ρ
      intro hz
      refine hz.elim fun z6 hz => ?_
      subst hz
      cases h
      exact ⟨_, _, _, _, rfl⟩
  · intro ρ
    intro hz
    refine hz.elim fun z7 hz => ?_
    refine hz.elim fun z8 hz => ?_
    refine hz.elim fun z9 hz => ?_
    refine hz.elim fun z10 hz => ?_
    subst hz
    refine xb h fun starts h_starts h => ?_
    refine ru_seq (ru_setX (t := (tL (tv cS)) starts) [.ow ((tv (c2 (cT cS) (cT (c2 cS cS)))) web), .ow ((tD cS (tv cS)) group_4), z7, z8, z9, z10, .ow ((tL (tv cS)) starts), .no, .no] (eqc (c := (tL (tv cS))) h_starts (fN_of (aCons_of (eLcM (mk := (fun x : (Str × Str) => .ow ((tv (c2 cS cS)) x))) [.ow ((tv (c2 (cT cS) (cT (c2 cS cS)))) web), .vw ((tD cS (tv cS)) group_4), (vwS z7), (vwS z8), (vwS z9), (vwS z10), .no, .no, .no] (tv cS) (eSeq (f2_of (eO (i := 0) rfl) (eI 1) (show gIx ((tv (c2 (cT cS) (cT (c2 cS cS)))) web) (tv cI (1 : Int)) = some ((tv (cT (c2 cS cS))) web.2) from rfl)) (seq_cT (c := (c2 cS cS)))) rfl (fun arrow => ⟨[.ow ((tv (c2 (cT cS) (cT (c2 cS cS)))) web), .vw ((tD cS (tv cS)) group_4), (vwS z7), (vwS z8), (vwS z9), (vwS z10), .no, .ow ((tv (c2 cS cS)) arrow), .no], rfl, (f2_of (eO (i := 7) rfl) (eI 0) (gIxP_of (show gIx ((tv (c2 cS cS)) arrow) (tv cI (0 : Int)) = some ((tv cS) arrow.1) from rfl)))⟩)) rfl) (gSorted_c (c := cS)))) rfl rfl ?_)
    refine xb h fun ends h_ends h => ?_
    refine ru_seq (ru_setX (t := (tL (tv cS)) ends) [.ow ((tv (c2 (cT cS) (cT (c2 cS cS)))) web), .ow ((tD cS (tv cS)) group_4), z7, z8, z9, z10, .ow ((tL (tv cS)) starts), .no, .ow ((tL (tv cS)) ends)] (eqc (c := (tL (tv cS))) h_ends (fN_of (aCons_of (eLcM (mk := (fun x : (Str × Str) => .ow ((tv (c2 cS cS)) x))) [.ow ((tv (c2 (cT cS) (cT (c2 cS cS)))) web), .vw ((tD cS (tv cS)) group_4), (vwS z7), (vwS z8), (vwS z9), (vwS z10), .vw ((tL (tv cS)) starts), .no, .no] (tv cS) (eSeq (f2_of (eO (i := 0) rfl) (eI 1) (show gIx ((tv (c2 (cT cS) (cT (c2 cS cS)))) web) (tv cI (1 : Int)) = some ((tv (cT (c2 cS cS))) web.2) from rfl)) (seq_cT (c := (c2 cS cS)))) rfl (fun arrow_1 => ⟨[.ow ((tv (c2 (cT cS) (cT (c2 cS cS)))) web), .vw ((tD cS (tv cS)) group_4), (vwS z7), (vwS z8), (vwS z9), (vwS z10), .vw ((tL (tv cS)) starts), .ow ((tv (c2 cS cS)) arrow_1), .no], rfl, (f2_of (eO (i := 7) rfl) (eI 1) (gIxP_of (show gIx ((tv (c2 cS cS)) arrow_1) (tv cI (1 : Int)) = some ((tv cS) arrow_1.2) from rfl)))⟩)) rfl) (gSorted_c (c := cS)))) rfl rfl ?_)
    refine xd h fun v_10 h_v_10 h => ?_
    refine ru_ret (t := (tv cB) v_10) (eAndVM (f2_of (eO (i := 6) rfl) (eO (i := 8) rfl) (gEq_c (c := (tL (tv cS))))) (fun b hc h => by refine xd h fun v_9 h_v_9 h => ?_; replace h := Option.some.inj h; subst h; exact (f2_of (eLc (mk := (fun x : Str => .ow ((tv cS) x))) [.ow ((tv (c2 (cT cS) (cT (c2 cS cS)))) web), .vw ((tD cS (tv cS)) group_4), .no, (vwS z8), (vwS z9), (vwS z10), .vw ((tL (tv cS)) starts), .no, .vw ((tL (tv cS)) ends)] (tv cS) (eKey_tDow (k := cS) (c := (tv cS)) (show _ = some (Sl.ow ((tD cS (tv cS)) group_4)) from rfl)) rfl h_v_9 (fun name_2 => ⟨[.ow ((tv (c2 (cT cS) (cT (c2 cS cS)))) web), .vw ((tD cS (tv cS)) group_4), .ow ((tv cS) name_2), (vwS z8), (vwS z9), (vwS z10), .vw ((tL (tv cS)) starts), .no, .vw ((tL (tv cS)) ends)], rfl, (fun b h => by refine xd h fun v_6 h_v_6 h => ?_; refine xd h fun v_7 h_v_7 h => ?_; refine xd h fun v_8 h_v_8 h => ?_; replace h := Option.some.inj h; subst h; exact (fB_of (f2_of (f2_of (eV (i := 1) rfl) (eO (i := 2) rfl) (gIx_tD (k := cS) (c := (tv cS)) h_v_6)) (f2_of (eV (i := 1) rfl) (fN_of (aCons_of (eV (i := 1) rfl) rfl) (gMinD_tD (k := cS) (c := (tv cS)) h_v_7)) (gIx_tD (k := cS) (c := (tv cS)) h_v_8)) (gNe_c (c := (tv cS)))))), (fun y _ h => by replace h := Option.some.inj h; subst h; exact (fPure_of (eO (i := 2) rfl)))⟩)) (eLst (q := (tL (tv cS)) ([] : (List Str))) rfl (Nat.le_of_ble_eq_true rfl) rfl) (gEq_c (c := (tL (tv cS)))))) h_v_10) ?_
    cases h
    exact ⟨rfl, rfl⟩
theorem tie_used_web (web : ((List Str) × (List (Str × Str)))) (res : ((List Str) × (List (Str × Str)))) (h : m_used_web web = some res) : fn_used_web [.ow ((tv (c2 (cT cS) (cT (c2 cS cS)))) web)] = .ok ((tv (c2 (cT cS) (cT (c2 cS cS)))) res, [.no]) := by
  refine ru_fn (b := b_used_web) (n := 4) [.ow ((tv (c2 (cT cS) (cT (c2 cS cS)))) web), .no, .no, .no] rfl rfl ?_
  unfold m_used_web at h
  unfold b_used_web
  refine xb h fun names h_names h => ?_
  refine ru_seq (ru_setX (t := (tL (tv cS)) names) [.ow ((tv (c2 (cT cS) (cT (c2 cS cS)))) web), .ow ((tL (tv cS)) names), .no, .no] (eqc (c := (tL (tv cS))) h_names (eLcF (mk := (fun x : Str => .ow ((tv cS) x))) [.ow ((tv (c2 (cT cS) (cT (c2 cS cS)))) web), .no, .no, .no] (tv cS) (eSeq (f2_of (eO (i := 0) rfl) (eI 0) (show gIx ((tv (c2 (cT cS) (cT (c2 cS cS)))) web) (tv cI (0 : Int)) = some ((tv (cT cS)) web.1) from rfl)) (seq_cT (c := cS))) rfl (fun name => ⟨[.ow ((tv (c2 (cT cS) (cT (c2 cS cS)))) web), .no, .ow ((tv cS) name), .no], rfl, (fB_of (f2_of (eLcF (mk := (fun x : (Str × Str) => .ow ((tv (c2 cS cS)) x))) [.ow ((tv (c2 (cT cS) (cT (c2 cS cS)))) web), .no, .ow ((tv cS) name), .no] (tv (c2 cS cS)) (eSeq (f2_of (eO (i := 0) rfl) (eI 1) (show gIx ((tv (c2 (cT cS) (cT (c2 cS cS)))) web) (tv cI (1 : Int)) = some ((tv (cT (c2 cS cS))) web.2) from rfl)) (seq_cT (c := (c2 cS cS)))) rfl (fun arrow => ⟨[.ow ((tv (c2 (cT cS) (cT (c2 cS cS)))) web), .no, .ow ((tv cS) name), .ow ((tv (c2 cS cS)) arrow)], rfl, (fB_of (f2_of (eO (i := 2) rfl) (eO (i := 3) rfl) (gIn_2 (c := cS)))), (fPure_of (eO (i := 3) rfl))⟩)) (eLst (q := (tL (tv (c2 cS cS))) ([] : (List (Str × Str)))) rfl (Nat.le_of_ble_eq_true rfl) rfl) (gNe_c (c := (tL (tv (c2 cS cS))))))), (fPure_of (eO (i := 2) rfl))⟩))) rfl rfl ?_)
  refine ru_ret (t := (tv (c2 (cT cS) (cT (c2 cS cS)))) (names, web.2)) (eTup (q := (tv (c2 (cT cS) (cT (c2 cS cS)))) (names, web.2)) (aCons_of (fN_of (aCons_of (eO (i := 1) rfl) rfl) (gTupV_tL (c := cS))) (aCons_of (f2_of (eO (i := 0) rfl) (eI 1) (gIxP_of (show gIx ((tv (c2 (cT cS) (cT (c2 cS cS)))) web) (tv cI (1 : Int)) = some ((tv (cT (c2 cS cS))) web.2) from rfl))) rfl)) (Nat.le_of_ble_eq_true rfl) rfl) ?_
  cases h
  exact ⟨rfl, rfl⟩
theorem tie_reached_from (web : ((List Str) × (List (Str × Str)))) (name : Str) (res : (List Str)) (h : m_reached_from web name = some res) : fn_reached_from [.ow ((tv (c2 (cT cS) (cT (c2 cS cS)))) web), .ow ((tv cS) name)] = .ok ((tL (tv cS)) res, [.no, .no]) := by
  refine ru_fn (b := b_reached_from) (n := 8) [.ow ((tv (c2 (cT cS) (cT (c2 cS cS)))) web), .ow ((tv cS) name), .no, .no, .no, .no, .no, .no] rfl rfl ?_
  unfold m_reached_from at h
  unfold b_reached_from
  refine xb h fun found h_found h => ?_
  refine ru_seq (ru_setX (t := (tL (tv cS)) found) [.ow ((tv (c2 (cT cS) (cT (c2 cS cS)))) web), .ow ((tv cS) name), .ow ((tL (tv cS)) found), .no, .no, .no, .no, .no] (eqc (c := (tL (tv cS))) h_found (eLst (q := (tL (tv cS)) [name]) (aCons_of (fPure_of (eO (i := 1) rfl)) rfl) (Nat.le_of_ble_eq_true rfl) rfl)) rfl rfl ?_)
  refine xb h fun line h_line h => ?_
  refine ru_seq (ru_setX (t := (tL (tv cS)) line) [.ow ((tv (c2 (cT cS) (cT (c2 cS cS)))) web), .ow ((tv cS) name), .ow ((tL (tv cS)) found), .ow ((tL (tv cS)) line), .no, .no, .no, .no] (eqc (c := (tL (tv cS))) h_line (eLst (q := (tL (tv cS)) [name]) (aCons_of (fPure_of (eO (i := 1) rfl)) rfl) (Nat.le_of_ble_eq_true rfl) rfl)) rfl rfl ?_)
  refine xd2 h fun found_4 line_4 hl_1 h => ?_
  refine ru_seq (ru_whileL (I := fun (s : ((List Str) × (List Str))) ρ => ∃ z1 z2 z3 : Sl, ρ = [.ow ((tv (c2 (cT cS) (cT (c2 cS cS)))) web), .ow ((tv cS) name), .ow ((tL (tv cS)) s.1), .ow ((tL (tv cS)) s.2), z1, z2, z3, .no]) ?_ ?_ _ _ _ _ hl_1 ⟨_, _, _, rfl⟩ ?_)
  · intro s t ρ hI h
    revert h hI
    refine pe2 s fun found_1 line_1 => ?_
    intro hI h
    have hz : ∃ z1 z2 z3 : Sl, ρ = [.ow ((tv (c2 (cT cS) (cT (c2 cS cS)))) web), .ow ((tv cS) name), .ow ((tL (tv cS)) found_1), .ow ((tL (tv cS)) line_1), z1, z2, z3, .no] := hI
    refine hz.elim fun z1 hz => ?_
    refine hz.elim fun z2 hz => ?_
    refine hz.elim fun z3 hz => ?_
    subst hz
    have h : m_reached_from_L1c web found_1 line_1 = some t := h
    unfold m_reached_from_L1c at h
    replace h := Option.some.inj h; subst h
    exact (fB_of (f2_of (eO (i := 3) rfl) (eLst (q := (tL (tv cS)) ([] : (List Str))) rfl (Nat.le_of_ble_eq_true rfl) rfl) (gNe_c (c := (tL (tv cS))))))
  · intro s s1 ρ hI hct h
    revert h hI
    refine pe2 s fun found_1 line_1 => ?_
    intro hI h
    have hz : ∃ z1 z2 z3 : Sl, ρ = [.ow ((tv (c2 (cT cS) (cT (c2 cS cS)))) web), .ow ((tv cS) name), .ow ((tL (tv cS)) found_1), .ow ((tL (tv cS)) line_1), z1, z2, z3, .no] := hI
    refine hz.elim fun z1 hz => ?_
    refine hz.elim fun z2 hz => ?_
    refine hz.elim fun z3 hz => ?_
    subst hz
    have h : m_reached_from_L1 web found_1 line_1 = some s1 := h
    unfold m_reached_from_L1 at h
    refine xd2 h fun l v h_l h => ?_
    refine xb h fun here h_here h => ?_
    refine ru_seq (ru_setEX (t := (tv cS) here) [.ow ((tv (c2 (cT cS) (cT (c2 cS cS)))) web), .ow ((tv cS) name), .ow ((tL (tv cS)) found_1), .ow ((tL (tv cS)) l), .ow ((tv cS) here), z2, z3, .no] (eqcS (c := (tv cS)) h_here (eMethS [.ow ((tv (c2 (cT cS) (cT (c2 cS cS)))) web), .ow ((tv cS) name), .ow ((tL (tv cS)) found_1), .ow ((tL (tv cS)) l), z1, z2, z3, .no] rfl rfl rfl rfl rfl (muPop_c (c := (tv cS)) h_l) (upd0 rfl) rfl)) rfl rfl ?_)
    refine xd2 h fun found_3 line_3 hl_2 h => ?_
    refine (ru_forL (mk := (fun x : (Str × Str) => .ow ((tv (c2 cS cS)) x))) (I := fun (s : ((List Str) × (List Str))) ρ => ∃ z4 z5 : Sl, ρ = [.ow ((tv (c2 (cT cS) (cT (c2 cS cS)))) web), .ow ((tv cS) name), .ow ((tL (tv cS)) s.1), .ow ((tL (tv cS)) s.2), .ow ((tv cS) here), z4, z5, .no]) (eSeq (f2_of (eZo (i := 0) rfl) (eI 1) (show gIx ((tv (c2 (cT cS) (cT (c2 cS cS)))) web) (tv cI (1 : Int)) = some ((tv (cT (c2 cS cS))) web.2) from rfl)) (seq_cT (c := (c2 cS cS)))) hl_2 ⟨_, _, rfl⟩ ?_ ?_)
    · intro s arrow s1 ρ hI h
      revert h hI
      refine pe2 s fun found_2 line_2 => ?_
      intro hI h
      have hz : ∃ z4 z5 : Sl, ρ = [.ow ((tv (c2 (cT cS) (cT (c2 cS cS)))) web), .ow ((tv cS) name), .ow ((tL (tv cS)) found_2), .ow ((tL (tv cS)) line_2), .ow ((tv cS) here), z4, z5, .no] := hI
      refine hz.elim fun z4 hz => ?_
      refine hz.elim fun z5 hz => ?_
      subst hz
      have h : m_reached_from_L2 here found_2 line_2 arrow = some s1 := h
      unfold m_reached_from_L2 at h
      refine ⟨[.ow ((tv (c2 (cT cS) (cT (c2 cS cS)))) web), .ow ((tv cS) name), .ow ((tL (tv cS)) found_2), .ow ((tL (tv cS)) line_2), .ow ((tv cS) here), .ow ((tv (c2 cS cS)) arrow), z5, .no], rfl, ?_⟩
      refine ru_if (b := (inB here [arrow.1, arrow.2])) (fB_of (f2_of (eO (i := 4) rfl) (eO (i := 5) rfl) (gIn_2 (c := cS)))) (fun hc => ?_) (fun hc => ?_)
      · have h := iteT h hc
        refine xb h fun more h_more h => ?_
        refine ru_seq (ru_setX (t := (tL (tv cS)) more) [.ow ((tv (c2 (cT cS) (cT (c2 cS cS)))) web), .ow ((tv cS) name), .ow ((tL (tv cS)) found_2), .ow ((tL (tv cS)) line_2), .ow ((tv cS) here), .ow ((tv (c2 cS cS)) arrow), .ow ((tL (tv cS)) more), .no] (eqc (c := (tL (tv cS))) h_more (eLcF (mk := (fun x : Str => .ow ((tv cS) x))) [.ow ((tv (c2 (cT cS) (cT (c2 cS cS)))) web), .ow ((tv cS) name), .vw ((tL (tv cS)) found_2), .vw ((tL (tv cS)) line_2), .ow ((tv cS) here), .ow ((tv (c2 cS cS)) arrow), (vwS z5), .no] (tv cS) (eSeq (eO (i := 5) rfl) (seq_2 (c := cS))) rfl (fun other => ⟨[.ow ((tv (c2 (cT cS) (cT (c2 cS cS)))) web), .ow ((tv cS) name), .vw ((tL (tv cS)) found_2), .vw ((tL (tv cS)) line_2), .ow ((tv cS) here), .ow ((tv (c2 cS cS)) arrow), (vwS z5), .ow ((tv cS) other)], rfl, (fB_of (f2_of (eO (i := 7) rfl) (eV (i := 2) rfl) (gNotIn_l (c := (tv cS))))), (fPure_of (eO (i := 7) rfl))⟩))) rfl rfl ?_)
        refine xd h fun l_1 h_l_1 h => ?_
        refine ru_seq (ru_expEX _ (eMethS [.ow ((tv (c2 (cT cS) (cT (c2 cS cS)))) web), .ow ((tv cS) name), .ow ((tL (tv cS)) l_1), .ow ((tL (tv cS)) line_2), .ow ((tv cS) here), .ow ((tv (c2 cS cS)) arrow), .ow ((tL (tv cS)) more), .no] rfl rfl rfl rfl (aCons_of (eO (i := 6) rfl) rfl) (muExtend_c (c := cS) h_l_1) (upd0 rfl) rfl) ?_)
        refine xd h fun l_2 h_l_2 h => ?_
        refine ru_expEX _ (eMethS [.ow ((tv (c2 (cT cS) (cT (c2 cS cS)))) web), .ow ((tv cS) name), .ow ((tL (tv cS)) l_1), .ow ((tL (tv cS)) l_2), .ow ((tv cS) here), .ow ((tv (c2 cS cS)) arrow), .ow ((tL (tv cS)) more), .no] rfl rfl rfl rfl (aCons_of (eO (i := 6) rfl) rfl) (muExtend_c (c := cS) h_l_2) (upd0 rfl) rfl) ?_
        cases h
        exact ⟨_, _, rfl⟩
      · have h := iteF h hc
        refine ru_nx ?_
        cases h
        exact ⟨_, _, rfl⟩
    · intro ρ
      intro hz
      refine hz.elim fun z6 hz => ?_
      refine hz.elim fun z7 hz => ?_
      subst hz
      cases h
      exact ⟨_, _, _, rfl⟩
  · intro ρ
    intro hz
    refine hz.elim fun z8 hz => ?_
    refine hz.elim fun z9 hz => ?_
    refine hz.elim fun z10 hz => ?_
    subst hz
    refine ru_retE (t := (tL (tv cS)) found_4) (eMv [.ow ((tv (c2 (cT cS) (cT (c2 cS cS)))) web), .ow ((tv cS) name), .no, .ow ((tL (tv cS)) line_4), z8, z9, z10, .no] rfl rfl) ?_
    cases h
    exact ⟨rfl, rfl⟩
theorem tie_is_even (web : ((List Str) × (List (Str × Str)))) (res : Bool) (h : m_is_even web = some res) : fn_is_even [.ow ((tv (c2 (cT cS) (cT (c2 cS cS)))) web)] = .ok ((tv cB) res, [.no]) := by
  refine ru_fn (b := b_is_even) (n := 5) [.ow ((tv (c2 (cT cS) (cT (c2 cS cS)))) web), .no, .no, .no, .no] rfl rfl ?_
  unfold m_is_even at h
  unfold b_is_even
  refine xd h fun v h_v h => ?_
  refine xb h fun names h_names h => ?_
  refine xb h fun arrows h_arrows h => ?_
  refine ru_seq (ru_asX (t := (tv (c2 (cT cS) (cT (c2 cS cS)))) v) [.ow ((tv (c2 (cT cS) (cT (c2 cS cS)))) web), .ow ((tv (cT cS)) names), .ow ((tv (cT (c2 cS cS))) arrows), .no, .no] (eCall (args := [.ow ((tv (c2 (cT cS) (cT (c2 cS cS)))) web)]) (aCons_of (eO (i := 0) rfl) rfl) rfl (tie_used_web _ _ h_v)) (by rw [h_names, h_arrows]; rfl) ?_)
  refine xK h fun oc hoc hR hN => ?_
  refine ru_seq (ru_forC (mk := (fun x : Str => .ow ((tv cS) x))) (I := fun (s : Unit) ρ => ∃ z1 : Sl, ρ = [.ow ((tv (c2 (cT cS) (cT (c2 cS cS)))) web), .ow ((tv (cT cS)) names), .ow ((tv (cT (c2 cS cS))) arrows), z1, .no]) (Qr := (fun (r : Bool) t ρ => t = (tv cB) r ∧ maskE [false] ρ = [.no])) (eSeq (eZo (i := 1) rfl) (seq_cT (c := cS))) hoc ⟨_, rfl⟩ ?_ ?_ ?_)
  · intro s name s1 ρ hI h
    have hz : ∃ z1 : Sl, ρ = [.ow ((tv (c2 (cT cS) (cT (c2 cS cS)))) web), .ow ((tv (cT cS)) names), .ow ((tv (cT (c2 cS cS))) arrows), z1, .no] := hI
    refine hz.elim fun z1 hz => ?_
    subst hz
    have h : m_is_even_L1 arrows name = some s1 := h
    unfold m_is_even_L1 at h
    refine ⟨[.ow ((tv (c2 (cT cS) (cT (c2 cS cS)))) web), .ow ((tv (cT cS)) names), .ow ((tv (cT (c2 cS cS))) arrows), .ow ((tv cS) name), .no], rfl, ?_⟩
    refine ru_if (b := (!eqB (lenI ((arrows.filter fun arrow => (eqB arrow.1 name)).map fun arrow => (1 : Int))) (lenI ((arrows.filter fun arrow_1 => (eqB arrow_1.2 name)).map fun arrow_1 => (1 : Int))))) (fB_of (f2_of (fN_of (aCons_of (eLcF (mk := (fun x : (Str × Str) => .ow ((tv (c2 cS cS)) x))) [.ow ((tv (c2 (cT cS) (cT (c2 cS cS)))) web), .ow ((tv (cT cS)) names), .ow ((tv (cT (c2 cS cS))) arrows), .ow ((tv cS) name), .no] (tv cI) (eSeq (eO (i := 2) rfl) (seq_cT (c := (c2 cS cS)))) rfl (fun arrow => ⟨[.ow ((tv (c2 (cT cS) (cT (c2 cS cS)))) web), .ow ((tv (cT cS)) names), .ow ((tv (cT (c2 cS cS))) arrows), .ow ((tv cS) name), .ow ((tv (c2 cS cS)) arrow)], rfl, (fB_of (f2_of (f2_of (eO (i := 4) rfl) (eI 0) (show gIx ((tv (c2 cS cS)) arrow) (tv cI (0 : Int)) = some ((tv cS) arrow.1) from rfl)) (eO (i := 3) rfl) (gEq_c (c := (tv cS))))), (eI 1)⟩)) rfl) (gLen_tL (c := (tv cI)))) (fN_of (aCons_of (eLcF (mk := (fun x : (Str × Str) => .ow ((tv (c2 cS cS)) x))) [.ow ((tv (c2 (cT cS) (cT (c2 cS cS)))) web), .ow ((tv (cT cS)) names), .ow ((tv (cT (c2 cS cS))) arrows), .ow ((tv cS) name), .no] (tv cI) (eSeq (eO (i := 2) rfl) (seq_cT (c := (c2 cS cS)))) rfl (fun arrow_1 => ⟨[.ow ((tv (c2 (cT cS) (cT (c2 cS cS)))) web), .ow ((tv (cT cS)) names), .ow ((tv (cT (c2 cS cS))) arrows), .ow ((tv cS) name), .ow ((tv (c2 cS cS)) arrow_1)], rfl, (fB_of (f2_of (f2_of (eO (i := 4) rfl) (eI 1) (show gIx ((tv (c2 cS cS)) arrow_1) (tv cI (1 : Int)) = some ((tv cS) arrow_1.2) from rfl)) (eO (i := 3) rfl) (gEq_c (c := (tv cS))))), (eI 1)⟩)) rfl) (gLen_tL (c := (tv cI)))) (gNe_c (c := (tv cI))))) (fun hc => ?_) (fun hc => ?_)
    · have h := iteT h hc
      refine ru_ret (t := (tv cB) false) (eB false) ?_
      cases h
      exact ⟨_, rfl, rfl, rfl⟩
    · have h := iteF h hc
      refine ru_nx ?_
      cases h
      exact ⟨_, rfl, ⟨_, rfl⟩⟩
  · intro s ρ hs
    intro hz
    refine hz.elim fun z2 hz => ?_
    subst hz
    have h := hN s hs
    refine xd h fun v_3 h_v_3 h => ?_
    refine ru_ret (t := (tv cB) v_3) (eOrVM (f2_of (fN_of (aCons_of (eO (i := 1) rfl) rfl) (gLen_cT (c := cS))) (eI 0) (gEq_c (c := (tv cI)))) (fun b hc h => by refine xd h fun v_1 h_v_1 h => ?_; refine xd h fun v_2 h_v_2 h => ?_; replace h := Option.some.inj h; subst h; exact (f2_of (fN_of (aCons_of (eCall (args := [.ow ((tv (c2 (cT cS) (cT (c2 cS cS)))) web), .ow ((tv cS) v_1)]) (aCons_of (eO (i := 0) rfl) (aCons_of (f2_of (eO (i := 1) rfl) (eI 0) (gIx_cT (c := cS) h_v_1)) rfl)) rfl (tie_reached_from _ _ _ h_v_2)) rfl) (gLen_tL (c := (tv cS)))) (fN_of (aCons_of (eO (i := 1) rfl) rfl) (gLen_cT (c := cS))) (gEq_c (c := (tv cI))))) h_v_3) ?_
    cases h
    exact ⟨rfl, rfl⟩
  · intro r t ρ hr hq
    have h := hR r hr
    cases h
    exact hq
theorem tie_law (script : (List Int)) (res : Bool) (h : m_law script = some res) : fn_law [.vw ((tF (tv cI)) script)] = .ok ((tv cB) res, [.no]) := by
  refine ru_fn (b := b_law) (n := 11) [.vw ((tF (tv cI)) script), .no, .no, .no, .no, .no, .no, .no, .no, .no, .no] rfl rfl ?_
  unfold m_law at h
  unfold b_law
  refine xd h fun v h_v h => ?_
  refine xK h fun oc hoc hR hN => ?_
  refine ru_seq (ru_forC (mk := (fun x : Int => .ow ((tv cI) x))) (I := fun (s : Unit) ρ => ∃ z1 z2 z3 z4 z5 z6 z7 z8 : Sl, ρ = [.vw ((tF (tv cI)) script), z1, z2, z3, z4, z5, .no, z6, z7, z8, .no]) (Qr := (fun (r : Bool) t ρ => t = (tv cB) r ∧ maskE [false] ρ = [.no])) (eSeq (eCall (args := [.vw ((tF (tv cI)) script), .ow ((tv cI) (8 : Int))]) (aCons_of (eV (i := 0) rfl) (aCons_of (eI 8) rfl)) rfl (tie__law_cells _ _ _ h_v)) (seq_tL (c := (tv cI)) (mk := (fun x : Int => .ow ((tv cI) x))) (fun _ => rfl))) hoc ⟨_, _, _, _, _, _, _, _, rfl⟩ ?_ ?_ ?_)
  · intro s cell s1 ρ hI h
    have hz : ∃ z1 z2 z3 z4 z5 z6 z7 z8 : Sl, ρ = [.vw ((tF (tv cI)) script), z1, z2, z3, z4, z5, .no, z6, z7, z8, .no] := hI
    refine hz.elim fun z1 hz => ?_
    refine hz.elim fun z2 hz => ?_
    refine hz.elim fun z3 hz => ?_
    refine hz.elim fun z4 hz => ?_
    refine hz.elim fun z5 hz => ?_
    refine hz.elim fun z6 hz => ?_
    refine hz.elim fun z7 hz => ?_
    refine hz.elim fun z8 hz => ?_
    subst hz
    have h : m_law_L1 cell = some s1 := h
    unfold m_law_L1 at h
    refine ⟨[.vw ((tF (tv cI)) script), .ow ((tv cI) cell), z2, z3, z4, z5, .no, z6, z7, z8, .no], rfl, ?_⟩
    refine xd h fun seed h_v_1 h => ?_
    refine ru_seq (ru_setX (t := (l4 (tv cI) (tv cI) (tv cI) (tv cI)) seed) [.vw ((tF (tv cI)) script), .ow ((tv cI) cell), .ow ((l4 (tv cI) (tv cI) (tv cI) (tv cI)) seed), z3, z4, z5, .no, z6, z7, z8, .no] (eCall (args := [.ow ((tv cI) cell)]) (aCons_of (eO (i := 1) rfl) rfl) rfl (tie__law_seed _ _ h_v_1)) rfl rfl ?_)
    refine xd2 h fun v_2 seed_1 h_v_2 h => ?_
    refine xb h fun web h_web h => ?_
    refine ru_seq (ru_setEX (t := (tv (c2 (cT cS) (cT (c2 cS cS)))) web) [.vw ((tF (tv cI)) script), .ow ((tv cI) cell), .ow ((l4 (tv cI) (tv cI) (tv cI) (tv cI)) seed_1), .ow ((tv (c2 (cT cS) (cT (c2 cS cS)))) web), z4, z5, .no, z6, z7, z8, .no] (eqcS (c := (tv (c2 (cT cS) (cT (c2 cS cS))))) h_web (eCallS (args := [.ow ((l4 (tv cI) (tv cI) (tv cI) (tv cI)) seed), .ow ((tv cI) (12 : Int)), .ow ((tv cI) (23 : Int))]) [.vw ((tF (tv cI)) script), .ow ((tv cI) cell), .ow ((l4 (tv cI) (tv cI) (tv cI) (tv cI)) seed_1), z3, z4, z5, .no, z6, z7, z8, .no] (sCons_of (eLate (i := 2) rfl) (sCons_of (fVal_of (eI 12)) (sCons_of (fVal_of (eI 23)) (sNil_ap _)))) rfl (tie__law_web _ _ _ _ _ h_v_2) rfl)) rfl rfl ?_)
    refine xb h fun some0 h_some0 h => ?_
    refine ru_seq (ru_setX (t := (tL (tv (c2 (cT cS) (cT (c2 cS cS))))) some0) [.vw ((tF (tv cI)) script), .ow ((tv cI) cell), .ow ((l4 (tv cI) (tv cI) (tv cI) (tv cI)) seed_1), .ow ((tv (c2 (cT cS) (cT (c2 cS cS)))) web), .ow ((tL (tv (c2 (cT cS) (cT (c2 cS cS))))) some0), z5, .no, z6, z7, z8, .no] (eqc (c := (tL (tv (c2 (cT cS) (cT (c2 cS cS)))))) h_some0 (eLst (q := (tL (tv (c2 (cT cS) (cT (c2 cS cS))))) [web]) (aCons_of (fPure_of (eO (i := 3) rfl)) rfl) (Nat.le_of_ble_eq_true rfl) rfl)) rfl rfl ?_)
    refine xd2 h fun seed_2 some0_1 hj_seed_2 h => ?_
    refine ru_seq (ru_mid (I := fun ρ => ∃ z9 : Sl, ρ = [.vw ((tF (tv cI)) script), .ow ((tv cI) cell), .ow ((l4 (tv cI) (tv cI) (tv cI) (tv cI)) seed_2), .ow ((tv (c2 (cT cS) (cT (c2 cS cS)))) web), .ow ((tL (tv (c2 (cT cS) (cT (c2 cS cS))))) some0_1), z9, .no, z6, z7, z8, .no]) ?_ ?_)
    · have h := hj_seed_2
      refine ru_if (b := (!eqB web.2 ([] : (List (Str × Str))))) (fB_of (f2_of (f2_of (eO (i := 3) rfl) (eI 1) (show gIx ((tv (c2 (cT cS) (cT (c2 cS cS)))) web) (tv cI (1 : Int)) = some ((tv (cT (c2 cS cS))) web.2) from rfl)) (eTup (q := (tv (cT (c2 cS cS))) ([] : (List (Str × Str)))) rfl (Nat.le_of_ble_eq_true rfl) rfl) (gNe_c (c := (tv (cT (c2 cS cS))))))) (fun hc => ?_) (fun hc => ?_)
      · have h := iteT h hc
        refine xd2 h fun v_3 seed_3 h_v_3 h => ?_
        refine xb h fun at0 h_at0 h => ?_
        refine ru_seq (ru_setEX (t := (tv cI) at0) [.vw ((tF (tv cI)) script), .ow ((tv cI) cell), .ow ((l4 (tv cI) (tv cI) (tv cI) (tv cI)) seed_3), .ow ((tv (c2 (cT cS) (cT (c2 cS cS)))) web), .ow ((tL (tv (c2 (cT cS) (cT (c2 cS cS))))) some0), .ow ((tv cI) at0), .no, z6, z7, z8, .no] (eqcS (c := (tv cI)) h_at0 (eCallS (args := [.ow ((l4 (tv cI) (tv cI) (tv cI) (tv cI)) seed_1), .ow ((tv cI) (lenI web.2))]) [.vw ((tF (tv cI)) script), .ow ((tv cI) cell), .ow ((l4 (tv cI) (tv cI) (tv cI) (tv cI)) seed_3), .ow ((tv (c2 (cT cS) (cT (c2 cS cS)))) web), .ow ((tL (tv (c2 (cT cS) (cT (c2 cS cS))))) some0), z5, .no, z6, z7, z8, .no] (sCons_of (eLate (i := 2) rfl) (sCons_of (fVal_of (fN_of (aCons_of (f2_of (eO (i := 3) rfl) (eI 1) (show gIx ((tv (c2 (cT cS) (cT (c2 cS cS)))) web) (tv cI (1 : Int)) = some ((tv (cT (c2 cS cS))) web.2) from rfl)) rfl) (gLen_cT (c := (c2 cS cS))))) (sNil_ap _))) rfl (tie__law_draw _ _ _ _ h_v_3) rfl)) rfl rfl ?_)
        refine xd h fun v_4 h_v_4 h => ?_
        refine xd h fun l h_l h => ?_
        refine ru_seq (ru_expEX _ (eMethS [.vw ((tF (tv cI)) script), .ow ((tv cI) cell), .ow ((l4 (tv cI) (tv cI) (tv cI) (tv cI)) seed_3), .ow ((tv (c2 (cT cS) (cT (c2 cS cS)))) web), .ow ((tL (tv (c2 (cT cS) (cT (c2 cS cS))))) l), .ow ((tv cI) at0), .no, z6, z7, z8, .no] rfl rfl rfl rfl (aCons_of (eTup (q := (tv (c2 (cT cS) (cT (c2 cS cS)))) (web.1, v_4)) (aCons_of (f2_of (eO (i := 3) rfl) (eI 0) (gIxP_of (show gIx ((tv (c2 (cT cS) (cT (c2 cS cS)))) web) (tv cI (0 : Int)) = some ((tv (cT cS)) web.1) from rfl))) (aCons_of (f2_of (eSl (f2_of (eO (i := 3) rfl) (eI 1) (show gIx ((tv (c2 (cT cS) (cT (c2 cS cS)))) web) (tv cI (1 : Int)) = some ((tv (cT (c2 cS cS))) web.2) from rfl)) ePn (ePs (eO (i := 5) rfl)) (gSl_cT (c := (c2 cS cS)))) (eSl (f2_of (eO (i := 3) rfl) (eI 1) (show gIx ((tv (c2 (cT cS) (cT (c2 cS cS)))) web) (tv cI (1 : Int)) = some ((tv (cT (c2 cS cS))) web.2) from rfl)) (ePs (f2_of (eO (i := 5) rfl) (eI 1) (gAdd_ii _ _))) ePn (gSl_cT (c := (c2 cS cS)))) (gAdd_cT (c := (c2 cS cS)) h_v_4)) rfl)) (Nat.le_of_ble_eq_true rfl) rfl) rfl) (muAppend_c (c := (tv (c2 (cT cS) (cT (c2 cS cS))))) h_l) (upd0 rfl) rfl) ?_)
        refine xd h fun v_5 h_v_5 h => ?_
        refine xd h fun v_6 h_v_6 h => ?_
        refine xd h fun l_1 h_l_1 h => ?_
        refine ru_seq (ru_expEX _ (eMethS [.vw ((tF (tv cI)) script), .ow ((tv cI) cell), .ow ((l4 (tv cI) (tv cI) (tv cI) (tv cI)) seed_3), .ow ((tv (c2 (cT cS) (cT (c2 cS cS)))) web), .ow ((tL (tv (c2 (cT cS) (cT (c2 cS cS))))) l_1), .ow ((tv cI) at0), .no, z6, z7, z8, .no] rfl rfl rfl rfl (aCons_of (eTup (q := (tv (c2 (cT cS) (cT (c2 cS cS)))) (web.1, (sortL v_6))) (aCons_of (f2_of (eO (i := 3) rfl) (eI 0) (gIxP_of (show gIx ((tv (c2 (cT cS) (cT (c2 cS cS)))) web) (tv cI (0 : Int)) = some ((tv (cT cS)) web.1) from rfl))) (aCons_of (f1_of (fN_of (aCons_of (f2_of (f2_of (eO (i := 3) rfl) (eI 1) (show gIx ((tv (c2 (cT cS) (cT (c2 cS cS)))) web) (tv cI (1 : Int)) = some ((tv (cT (c2 cS cS))) web.2) from rfl)) (eTup (q := (tv (cT (c2 cS cS))) [(v_5.2, v_5.1)]) (aCons_of (f1_of (f2_of (f2_of (eO (i := 3) rfl) (eI 1) (show gIx ((tv (c2 (cT cS) (cT (c2 cS cS)))) web) (tv cI (1 : Int)) = some ((tv (cT (c2 cS cS))) web.2) from rfl)) (eO (i := 5) rfl) (gIx_cT (c := (c2 cS cS)) h_v_5)) (gRevT_2 (a := cS) (b := cS))) rfl) (Nat.le_of_ble_eq_true rfl) rfl) (gAdd_cT (c := (c2 cS cS)) h_v_6)) rfl) (gSortedT_c (k := (c2 cS cS)))) (gTupO_tL (c := (c2 cS cS)))) rfl)) (Nat.le_of_ble_eq_true rfl) rfl) rfl) (muAppend_c (c := (tv (c2 (cT cS) (cT (c2 cS cS))))) h_l_1) (upd0 rfl) rfl) ?_)
        refine xd h fun l_2 h_l_2 h => ?_
        refine ru_expEX _ (eMethS [.vw ((tF (tv cI)) script), .ow ((tv cI) cell), .ow ((l4 (tv cI) (tv cI) (tv cI) (tv cI)) seed_3), .ow ((tv (c2 (cT cS) (cT (c2 cS cS)))) web), .ow ((tL (tv (c2 (cT cS) (cT (c2 cS cS))))) l_2), .ow ((tv cI) at0), .no, z6, z7, z8, .no] rfl rfl rfl rfl (aCons_of (eTup (q := (tv (c2 (cT cS) (cT (c2 cS cS)))) (web.1, (sortL (web.2.map fun arrow => (arrow.2, arrow.1))))) (aCons_of (f2_of (eO (i := 3) rfl) (eI 0) (gIxP_of (show gIx ((tv (c2 (cT cS) (cT (c2 cS cS)))) web) (tv cI (0 : Int)) = some ((tv (cT cS)) web.1) from rfl))) (aCons_of (f1_of (fN_of (aCons_of (eLcM (mk := (fun x : (Str × Str) => .ow ((tv (c2 cS cS)) x))) [.vw ((tF (tv cI)) script), .ow ((tv cI) cell), .vw ((l4 (tv cI) (tv cI) (tv cI) (tv cI)) seed_3), .ow ((tv (c2 (cT cS) (cT (c2 cS cS)))) web), .vw ((tL (tv (c2 (cT cS) (cT (c2 cS cS))))) l_1), .ow ((tv cI) at0), .no, (vwS z6), (vwS z7), (vwS z8), .no] (tv (c2 cS cS)) (eSeq (f2_of (eO (i := 3) rfl) (eI 1) (show gIx ((tv (c2 (cT cS) (cT (c2 cS cS)))) web) (tv cI (1 : Int)) = some ((tv (cT (c2 cS cS))) web.2) from rfl)) (seq_cT (c := (c2 cS cS)))) rfl (fun arrow => ⟨[.vw ((tF (tv cI)) script), .ow ((tv cI) cell), .vw ((l4 (tv cI) (tv cI) (tv cI) (tv cI)) seed_3), .ow ((tv (c2 (cT cS) (cT (c2 cS cS)))) web), .vw ((tL (tv (c2 (cT cS) (cT (c2 cS cS))))) l_1), .ow ((tv cI) at0), .ow ((tv (c2 cS cS)) arrow), (vwS z6), (vwS z7), (vwS z8), .no], rfl, (f1_of (eO (i := 6) rfl) (gRevT_2 (a := cS) (b := cS)))⟩)) rfl) (gSorted_c (c := (c2 cS cS)))) (gTupO_tL (c := (c2 cS cS)))) rfl)) (Nat.le_of_ble_eq_true rfl) rfl) rfl) (muAppend_c (c := (tv (c2 (cT cS) (cT (c2 cS cS))))) h_l_2) (upd0 rfl) rfl) ?_
        cases h
        exact ⟨_, rfl⟩
      · have h := iteF h hc
        refine ru_nx ?_
        cases h
        exact ⟨_, rfl⟩
    · intro ρ
      intro hz
      refine hz.elim fun z9 hz => ?_
      subst hz
      refine ru_fz [.vw ((tF (tv cI)) script), .ow ((tv cI) cell), .ow ((l4 (tv cI) (tv cI) (tv cI) (tv cI)) seed_2), .ow ((tv (c2 (cT cS) (cT (c2 cS cS)))) web), .vw ((tL (tv (c2 (cT cS) (cT (c2 cS cS))))) some0_1), z9, .no, z6, z7, z8, .no] rfl ?_
      refine xK h fun oc hoc hR hN => ?_
      refine (ru_forC (mk := (fun x : ((List Str) × (List (Str × Str))) => .ow ((tv (c2 (cT cS) (cT (c2 cS cS)))) x))) (I := fun (s : Unit) ρ => ∃ z10 z11 z12 : Sl, ρ = [.vw ((tF (tv cI)) script), .ow ((tv cI) cell), .ow ((l4 (tv cI) (tv cI) (tv cI) (tv cI)) seed_2), .ow ((tv (c2 (cT cS) (cT (c2 cS cS)))) web), .vw ((tL (tv (c2 (cT cS) (cT (c2 cS cS))))) some0_1), z9, .no, z10, z11, z12, .no]) (Qr := (fun (r : Bool) t ρ => t = (tv cB) r ∧ maskE [false] ρ = [.no])) (eSeq (eZv (i := 4) rfl) (seq_tL (c := (tv (c2 (cT cS) (cT (c2 cS cS))))) (mk := (fun x : ((List Str) × (List (Str × Str))) => .ow ((tv (c2 (cT cS) (cT (c2 cS cS)))) x))) (fun _ => rfl))) hoc ⟨_, _, _, rfl⟩ ?_ ?_ ?_)
      · intro s one s1 ρ hI h
        have hz : ∃ z10 z11 z12 : Sl, ρ = [.vw ((tF (tv cI)) script), .ow ((tv cI) cell), .ow ((l4 (tv cI) (tv cI) (tv cI) (tv cI)) seed_2), .ow ((tv (c2 (cT cS) (cT (c2 cS cS)))) web), .vw ((tL (tv (c2 (cT cS) (cT (c2 cS cS))))) some0_1), z9, .no, z10, z11, z12, .no] := hI
        refine hz.elim fun z10 hz => ?_
        refine hz.elim fun z11 hz => ?_
        refine hz.elim fun z12 hz => ?_
        subst hz
        have h : m_law_L2 one = some s1 := h
        unfold m_law_L2 at h
        refine ⟨[.vw ((tF (tv cI)) script), .ow ((tv cI) cell), .ow ((l4 (tv cI) (tv cI) (tv cI) (tv cI)) seed_2), .ow ((tv (c2 (cT cS) (cT (c2 cS cS)))) web), .vw ((tL (tv (c2 (cT cS) (cT (c2 cS cS))))) some0_1), z9, .no, .ow ((tv (c2 (cT cS) (cT (c2 cS cS)))) one), z11, z12, .no], rfl, ?_⟩
        refine xd h fun due h_v_8 h => ?_
        refine ru_seq (ru_setX (t := (tv cB) due) [.vw ((tF (tv cI)) script), .ow ((tv cI) cell), .ow ((l4 (tv cI) (tv cI) (tv cI) (tv cI)) seed_2), .ow ((tv (c2 (cT cS) (cT (c2 cS cS)))) web), .vw ((tL (tv (c2 (cT cS) (cT (c2 cS cS))))) some0_1), z9, .no, .ow ((tv (c2 (cT cS) (cT (c2 cS cS)))) one), .ow ((tv cB) due), z12, .no] (eOrVM (f2_of (fN_of (aCons_of (f2_of (eO (i := 7) rfl) (eI 1) (show gIx ((tv (c2 (cT cS) (cT (c2 cS cS)))) one) (tv cI (1 : Int)) = some ((tv (cT (c2 cS cS))) one.2) from rfl)) rfl) (gLen_cT (c := (c2 cS cS)))) (eI 0) (gEq_c (c := (tv cI)))) (fun b hc h => by refine xd h fun v_7 h_v_7 h => ?_; replace h := Option.some.inj h; subst h; exact (eCall (args := [.ow ((tv (c2 (cT cS) (cT (c2 cS cS)))) one)]) (aCons_of (eO (i := 7) rfl) rfl) rfl (tie__law_is_even _ _ h_v_7))) h_v_8) rfl rfl ?_)
        refine xd h fun found h_v_9 h => ?_
        refine ru_seq (ru_setX (t := (tv cB) found) [.vw ((tF (tv cI)) script), .ow ((tv cI) cell), .ow ((l4 (tv cI) (tv cI) (tv cI) (tv cI)) seed_2), .ow ((tv (c2 (cT cS) (cT (c2 cS cS)))) web), .vw ((tL (tv (c2 (cT cS) (cT (c2 cS cS))))) some0_1), z9, .no, .ow ((tv (c2 (cT cS) (cT (c2 cS cS)))) one), .ow ((tv cB) due), .ow ((tv cB) found), .no] (eCall (args := [.ow ((tv (c2 (cT cS) (cT (c2 cS cS)))) one)]) (aCons_of (eO (i := 7) rfl) rfl) rfl (tie_is_even _ _ h_v_9)) rfl rfl ?_)
        refine xd h fun v_12 h_v_12 h => ?_
        refine ru_if (b := v_12) (eOrTM (fNotT_of (fB_of (eIsi (eO (i := 9) rfl) rfl (show isiT "bool" "bool" = some true from by decide +kernel)))) (fun b hc h => by refine xd h fun v_11 h_v_11 h => ?_; replace h := Option.some.inj h; subst h; exact (eOrTM (fB_of (f2_of (eO (i := 9) rfl) (eO (i := 8) rfl) (gNe_c (c := (tv cB))))) (fun b hc h => by refine xd h fun v_10 h_v_10 h => ?_; replace h := Option.some.inj h; subst h; exact (fB_of (f2_of (eCall (args := [.ow ((tv (c2 (cT cS) (cT (c2 cS cS)))) one)]) (aCons_of (eO (i := 7) rfl) rfl) rfl (tie_is_even _ _ h_v_10)) (eO (i := 8) rfl) (gNe_c (c := (tv cB)))))) h_v_11)) h_v_12) (fun hc => ?_) (fun hc => ?_)
        · have h := iteT h hc
          refine ru_ret (t := (tv cB) false) (eB false) ?_
          cases h
          exact ⟨_, rfl, rfl, rfl⟩
        · have h := iteF h hc
          refine ru_nx ?_
          cases h
          exact ⟨_, rfl, ⟨_, _, _, rfl⟩⟩
      · intro s ρ hs
        intro hz
        refine hz.elim fun z13 hz => ?_
        refine hz.elim fun z14 hz => ?_
        refine hz.elim fun z15 hz => ?_
        subst hz
        have h := hN s hs
        cases h
        exact ⟨_, rfl, ⟨_, _, _, _, _, _, _, _, rfl⟩⟩
      · intro r t ρ hr hq
        have h := hR r hr
        cases h
        exact ⟨_, rfl, hq⟩
  · intro s ρ hs
    intro hz
    refine hz.elim fun z16 hz => ?_
    refine hz.elim fun z17 hz => ?_
    refine hz.elim fun z18 hz => ?_
    refine hz.elim fun z19 hz => ?_
    refine hz.elim fun z20 hz => ?_
    refine hz.elim fun z21 hz => ?_
    refine hz.elim fun z22 hz => ?_
    refine hz.elim fun z23 hz => ?_
    subst hz
    have h := hN s hs
    refine xb h fun two h_two h => ?_
    refine ru_seq (ru_setX (t := (tv (c2 (cT cS) (cT (c2 cS cS)))) two) [.vw ((tF (tv cI)) script), z16, z17, z18, z19, z20, .no, z21, z22, z23, .ow ((tv (c2 (cT cS) (cT (c2 cS cS)))) two)] (eqc (c := (tv (c2 (cT cS) (cT (c2 cS cS))))) h_two (eTup (q := (tv (c2 (cT cS) (cT (c2 cS cS)))) ([("a" : Str), ("b" : Str), ("c" : Str), ("d" : Str)], [(("a" : Str), ("b" : Str)), (("b" : Str), ("a" : Str)), (("c" : Str), ("d" : Str)), (("d" : Str), ("c" : Str))])) (aCons_of (eTup (q := (tv (cT cS)) [("a" : Str), ("b" : Str), ("c" : Str), ("d" : Str)]) (aCons_of (eS "a") (aCons_of (eS "b") (aCons_of (eS "c") (aCons_of (eS "d") rfl)))) (Nat.le_of_ble_eq_true rfl) rfl) (aCons_of (eTup (q := (tv (cT (c2 cS cS))) [(("a" : Str), ("b" : Str)), (("b" : Str), ("a" : Str)), (("c" : Str), ("d" : Str)), (("d" : Str), ("c" : Str))]) (aCons_of (eTup (q := (tv (c2 cS cS)) (("a" : Str), ("b" : Str))) (aCons_of (eS "a") (aCons_of (eS "b") rfl)) (Nat.le_of_ble_eq_true rfl) rfl) (aCons_of (eTup (q := (tv (c2 cS cS)) (("b" : Str), ("a" : Str))) (aCons_of (eS "b") (aCons_of (eS "a") rfl)) (Nat.le_of_ble_eq_true rfl) rfl) (aCons_of (eTup (q := (tv (c2 cS cS)) (("c" : Str), ("d" : Str))) (aCons_of (eS "c") (aCons_of (eS "d") rfl)) (Nat.le_of_ble_eq_true rfl) rfl) (aCons_of (eTup (q := (tv (c2 cS cS)) (("d" : Str), ("c" : Str))) (aCons_of (eS "d") (aCons_of (eS "c") rfl)) (Nat.le_of_ble_eq_true rfl) rfl) rfl)))) (Nat.le_of_ble_eq_true rfl) rfl) rfl)) (Nat.le_of_ble_eq_true rfl) rfl)) rfl rfl ?_)
    refine xd h fun v_13 h_v_13 h => ?_
    refine xd h fun v_15 h_v_15 h => ?_
    refine ru_ret (t := (tv cB) v_15) (eAndVM (f2_of (eCall (args := [.ow ((tv (c2 (cT cS) (cT (c2 cS cS)))) ([("a" : Str)], ([] : (List (Str × Str)))))]) (aCons_of (eTup (q := (tv (c2 (cT cS) (cT (c2 cS cS)))) ([("a" : Str)], ([] : (List (Str × Str))))) (aCons_of (eTup (q := (tv (cT cS)) [("a" : Str)]) (aCons_of (eS "a") rfl) (Nat.le_of_ble_eq_true rfl) rfl) (aCons_of (eTup (q := (tv (cT (c2 cS cS))) ([] : (List (Str × Str)))) rfl (Nat.le_of_ble_eq_true rfl) rfl) rfl)) (Nat.le_of_ble_eq_true rfl) rfl) rfl) rfl (tie_is_even _ _ h_v_13)) (eB true) rfl) (fun b hc h => by refine xd h fun v_14 h_v_14 h => ?_; replace h := Option.some.inj h; subst h; exact (f2_of (eCall (args := [.ow ((tv (c2 (cT cS) (cT (c2 cS cS)))) two)]) (aCons_of (eO (i := 10) rfl) rfl) rfl (tie_is_even _ _ h_v_14)) (eB false) rfl)) h_v_15) ?_
    cases h
    exact ⟨rfl, rfl⟩
  · intro r t ρ hr hq
    have h := hR r hr
    cases h
    exact hq
end LW
namespace LW
open PySem PySem.Spec PyProof.Rows L2 TR
theorem draw_ok {s : Int × Int × Int × Int} {m : Int} (h0 : 0 < m) (h1 : m < 2 ^ 62) : Ok (m__law_draw s m) fun r => 0 ≤ r.1 ∧ r.1 < m := by
  unfold m__law_draw
  refine ok_bnd (ok_ite (fun _ => ?_) fun _ => ?_)
  · exact ok_bind (ok_eq (modG_ok h0) (ok_bind (ok_eq (divG_ok h0 (by omega)) (ok_bnd (ok_some ⟨Int.emod_nonneg _ (by omega), Int.emod_lt_of_pos _ h0⟩)))))
  · have q : ∀ x : Int, -(2 ^ 64) < x % 2147483647 ∧ x % 2147483647 < 2 ^ 64 := fun x => by omega
    exact ok_bnd (ok_bind (ok_eq (mulG_ok (.inl (q _))) (ok_bnd (ok_bind (ok_eq (modG_ok h0) (ok_some ⟨Int.emod_nonneg _ (by omega), Int.emod_lt_of_pos _ h0⟩))))))
theorem cells_ok {ns : List Int} {k : Int} (h : ns.length ≤ 63) : ∃ v, m__law_cells ns k = some v := by
  unfold m__law_cells
  have : (cutP ns (none : Option Int) (some k)).length ≤ ns.length := cutP_len
  rw [catG_ok (by simp; omega), Option.bind_some]
  exact ⟨_, rfl⟩
theorem seed_ok (c : Int) : ∃ s, m__law_seed c = some s := ⟨_, rfl⟩
theorem pop_ok {α : Type} {l : List α} {i : Int} (h0 : 0 ≤ i) (h1 : i < l.length) (h2 : l.length ≤ 1000) : Ok (popI l i) fun r => (r.2 :: r.1).Perm l := by
  obtain ⟨x, e, _, p⟩ := popI_ok h0 h1 (by omega)
  exact ok_eq e p
end LW
namespace LW
open PySem PySem.Spec PyProof.Rows L2 TR
theorem az_at {t : Int} (h0 : 0 ≤ t) (h1 : t < 26) : ∃ c : Nat, atS ("abcdefghijklmnopqrstuvwxyz" : Str) t = some ⟨#[c]⟩ ∧ (c : Int) = 97 + t := by
  have h : t = 0 ∨ t = 1 ∨ t = 2 ∨ t = 3 ∨ t = 4 ∨ t = 5 ∨ t = 6 ∨ t = 7 ∨ t = 8 ∨ t = 9 ∨ t = 10 ∨ t = 11 ∨ t = 12 ∨ t = 13 ∨ t = 14 ∨ t = 15 ∨ t = 16 ∨ t = 17 ∨ t = 18 ∨ t = 19 ∨ t = 20 ∨ t = 21 ∨ t = 22 ∨ t = 23 ∨ t = 24 ∨ t = 25 := by omega
  rcases h with rfl|rfl|rfl|rfl|rfl|rfl|rfl|rfl|rfl|rfl|rfl|rfl|rfl|rfl|rfl|rfl|rfl|rfl|rfl|rfl|rfl|rfl|rfl|rfl|rfl|rfl
  all_goals exact ⟨_, (by decide +kernel), rfl⟩
def cl (x : Str) : List Nat := x.cps.toList
theorem cl_inj {x y : Str} (h : cl x = cl y) : x = y := PySem.W.str_of_cps h
theorem cl_app (x y : Str) : cl (x ++ y) = cl x ++ cl y := by
  show (x.cps ++ y.cps).toList = _
  rw [Array.toList_append]; rfl
theorem cl_len (x : Str) : x.length = (cl x).length := by
  show x.cps.size = x.cps.toList.length
  rw [Array.length_toList]
def IsW (x : Str) : Prop := 0 < (cl x).length ∧ (cl x).length ≤ 8 ∧ ∀ c ∈ cl x, 97 ≤ c ∧ c ≤ 122
def Low (l : List Nat) : Prop := ∀ c ∈ l, 97 ≤ c ∧ c ≤ 122
theorem catS_ok {x y : Str} (h : (cl x).length + (cl y).length ≤ 16777216) : catS x y = some (x ++ y) := by
  unfold catS
  rw [if_pos (by rw [cl_len, cl_len]; exact h)]
theorem az_ok {t : Int} (h0 : 0 ≤ t) (h1 : t < 26) : Ok (atS ("abcdefghijklmnopqrstuvwxyz" : Str) t) fun x => ∃ c : Nat, cl x = [c] ∧ (c : Int) = 97 + t ∧ 97 ≤ c ∧ c ≤ 122 := by
  obtain ⟨c, e, h⟩ := az_at h0 h1
  exact ok_eq e ⟨c, rfl, h, by omega, by omega⟩
theorem glue_low : ∀ (l : List Str) (acc : Array Nat), (∀ x ∈ l, ∃ c : Nat, cl x = [c] ∧ 97 ≤ c ∧ c ≤ 122) → Low acc.toList → ((l.foldl (fun acc p => acc ++ ("" : Str).cps ++ p.cps) acc).toList.length = acc.toList.length + l.length ∧ Low (l.foldl (fun acc p => acc ++ ("" : Str).cps ++ p.cps) acc).toList)
  | [], acc, _, h => ⟨rfl, h⟩
  | x :: l, acc, h, ha => by
    obtain ⟨c, hc, h1, h2⟩ := h x List.mem_cons_self
    have e : (acc ++ ("" : Str).cps ++ x.cps).toList = acc.toList ++ [c] := by
      rw [Array.toList_append, Array.toList_append, show x.cps.toList = [c] from hc, show (("" : Str).cps).toList = [] from rfl, List.append_nil]
    have ih := glue_low l (acc ++ ("" : Str).cps ++ x.cps) (fun y hy => h y (List.mem_cons_of_mem _ hy)) (by
      rw [e]
      intro y hy
      rcases List.mem_append.mp hy with hy | hy
      · exact ha y hy
      · rw [List.mem_singleton.mp hy]; exact ⟨h1, h2⟩)
    refine ⟨?_, ih.2⟩
    rw [List.foldl_cons, ih.1, e, List.length_append, List.length_cons]
    simp; omega
theorem join_low (l : List Str) (h : ∀ x ∈ l, ∃ c : Nat, cl x = [c] ∧ 97 ≤ c ∧ c ≤ 122) (hl : l.length ≤ 8) : ∃ w, joinG ("" : Str) l = some w ∧ (cl w).length = l.length ∧ Low (cl w) := by
  have hs : (l.map fun x : Str => x.length).sum = l.length := by
    have : l.map (fun x : Str => x.length) = l.map fun _ => 1 := List.map_congr_left fun x hx => by
      obtain ⟨c, hc, _⟩ := h x hx
      rw [cl_len, hc]; rfl
    rw [this]; clear this h hl
    induction l with
    | nil => rfl
    | cons a l ih => rw [List.map_cons, List.sum_cons, ih, List.length_cons]; omega
  refine ⟨Txt.join "" l, ?_, ?_⟩
  · unfold joinG
    rw [if_pos]
    rw [hs, show ("" : Str).length = 0 from rfl]; show l.length + l.length * 0 ≤ 16777216; omega
  · cases l with
    | nil => exact ⟨rfl, fun c hc => by cases hc⟩
    | cons x l =>
      obtain ⟨c, hc, h1, h2⟩ := h x List.mem_cons_self
      have g := glue_low l x.cps (fun y hy => h y (List.mem_cons_of_mem _ hy)) (by
        rw [show x.cps.toList = [c] from hc]; intro y hy; rw [List.mem_singleton.mp hy]; exact ⟨h1, h2⟩)
      refine ⟨g.1.trans ?_, g.2⟩
      rw [show x.cps.toList = [c] from hc]; simp; omega
end LW
namespace LW
open PySem PySem.Spec PyProof.Rows L2 TR
theorem nodup_set {α : Type} : ∀ {l : List α} {i : Nat} {x : α}, l.Nodup → x ∉ l → (l.set i x).Nodup
  | [], _, _, h, _ => h
  | y :: l, 0, x, h, n => List.nodup_cons.mpr ⟨fun z => n (List.mem_cons_of_mem _ z), (List.nodup_cons.mp h).2⟩
  | y :: l, i + 1, x, h, n => by
    have h := List.nodup_cons.mp h
    refine List.nodup_cons.mpr ⟨fun z => ?_, nodup_set h.2 fun z => n (List.mem_cons_of_mem _ z)⟩
    rcases List.mem_or_eq_of_mem_set z with z | z
    · exact h.1 z
    · exact n (by rw [z]; exact List.mem_cons_self)
theorem names_ok {s : Int × Int × Int × Int} {m : Int} (h0 : 0 ≤ m) (h1 : m ≤ 14) : Ok (m__law_names s m) fun r => r.1.Nodup ∧ (r.1.length : Int) = m := by
  unfold m__law_names
  generalize hsp : ([("a" : Str), ("ba" : Str), ("ab" : Str), ("aa" : Str), ("tie" : Str), ("nodes" : Str), ("node" : Str), ("tree" : Str), ("bab" : Str), ("abc" : Str), ("longname" : Str), ("longnamf" : Str), ("zz" : Str), ("z" : Str)] : List Str) = sp
  have hnd : sp.Nodup := by rw [← hsp]; decide +kernel
  have hl : sp.length = 14 := by rw [← hsp]; rfl
  refine ok_bnd (ok_bnd (ok_bind (ok_eq (rng1G_ok (by omega) (by omega)) (ok_bind3 (ok_compS (fun pre (ys : List Str) (s : (Int × Int × Int × Int) × List Str) => (ys ++ s.2).Perm sp ∧ ys.length = pre.length) _ _ [] [] ⟨by simp, rfl⟩ ?_ ?_)))))
  · rintro p k r ys ⟨d2, lf⟩ e ⟨g2, g3⟩
    dsimp only at g2
    have hp : p.length < 14 := by
      have := congrArg List.length e
      rw [List.nil_append, len_rngL, List.length_append, List.length_cons] at this
      omega
    have hlf : 0 < lf.length ∧ lf.length ≤ 14 := by
      have := g2.length_eq
      rw [List.length_append] at this
      omega
    refine ok_bnd (ok_bnd (ok_bind2 ((draw_ok (m := lenI lf) (by unfold lenI; omega) (by unfold lenI; omega)).mono fun ⟨v, d3⟩ ⟨a, b⟩ => ok_bind2 ((pop_ok a b (by omega)).mono fun ⟨l, x⟩ hp2 => ok_some ⟨?_, by simp [g3]⟩))))
    show (ys ++ [x] ++ l).Perm sp
    rw [List.append_assoc]
    exact (List.Perm.append_left ys hp2).trans g2
  · rintro zs ⟨d2, lf⟩ ⟨g2, g3⟩
    dsimp only at g2 ⊢
    rw [List.nil_append] at g2 g3
    have hzn : zs.Nodup := (List.nodup_append.mp (g2.nodup_iff.mpr hnd)).1
    have hzl : (zs.length : Int) = m := by
      rw [show zs.length = _ from g3, List.nil_append, len_rngL]
      omega
    refine ok_bnd (ok_bind2 ((draw_ok (by omega) (by omega)).mono fun ⟨v4, d3⟩ _ => ok_bind (ok_eq (mulG_ok (.inl ⟨by omega, by omega⟩)) ?_)))
    dsimp only
    have hv5 : 0 ≤ m * b2n (eqB v4 (0 : Int)) ∧ m * b2n (eqB v4 (0 : Int)) ≤ m := by
      unfold b2n
      split
      · rw [Int.mul_one]; omega
      · rw [Int.mul_zero]; omega
    generalize m * b2n (eqB v4 (0 : Int)) = v5 at hv5 ⊢
    refine ok_bind (ok_eq (rng1G_ok (by omega) (by omega)) (ok_bind2 (ok_forL (fun _ (s : (Int × Int × Int × Int) × List Str) => s.2.Nodup ∧ (s.2.length : Int) = m) _ _ [] ⟨hzn, hzl⟩ ?_ ?_)))
    · rintro p k r ⟨d4, fo⟩ e ⟨f1, f2⟩
      dsimp only at f1 f2
      have hk := mem_rngL.mp (show k ∈ rngL 0 v5 by rw [List.nil_append] at e; rw [e]; simp)
      unfold m__law_names_L1
      refine ok_bind2 ((draw_ok (by omega) (by omega)).mono fun ⟨v7, d5⟩ ⟨a7, b7⟩ => ok_bind (ok_eq (rng1G_ok (by omega) (by omega)) ?_))
      refine ok_bind2 (ok_compS (fun pre (ys : List Str) (s : Int × Int × Int × Int) => ys.length = pre.length ∧ ∀ x ∈ ys, ∃ c : Nat, cl x = [c] ∧ 97 ≤ c ∧ c ≤ 122) _ _ [] [] ⟨rfl, fun x h => (by cases h)⟩ ?_ ?_)
      · rintro p k r ys d6 e ⟨g2, g3⟩
        refine ok_bind2 ((draw_ok (by omega) (by omega)).mono fun ⟨v9, d7⟩ ⟨a9, b9⟩ => ok_bind ((az_ok a9 b9).mono fun x ⟨c, h1, _, h2⟩ => ok_some ⟨by simp [g2], fun y hy => ?_⟩))
        rcases List.mem_append.mp hy with hy | hy
        · exact g3 y hy
        · rw [List.mem_singleton.mp hy]; exact ⟨c, h1, h2⟩
      · rintro zs d6 ⟨g2, g3⟩
        have hz : zs.length ≤ 8 := by
          rw [List.nil_append, List.nil_append] at g2
          rw [g2, len_rngL]; dsimp only; omega
        obtain ⟨aw, e1, e2, e3⟩ := join_low zs (by simpa using g3) hz
        refine ok_bind (ok_eq e1 (ok_bnd (ok_ite (fun hc => ok_bind (ok_eq (setI_ok hk.1 (show k < (fo.length : Int) by omega)) (ok_some ?_))) fun _ => ok_some ⟨f1, f2⟩)))
        have hn : aw ∉ fo := by simpa using hc
        refine ⟨?_, by dsimp only; rw [List.length_set]; exact f2⟩
        exact nodup_set f1 hn
    · rintro ⟨d4, fo⟩ ⟨f1, f2⟩
      exact ok_some ⟨(sortL_perm fo).nodup_iff.mpr f1, by dsimp only; rw [(sortL_perm fo).length_eq]; exact f2⟩
end LW
namespace LW
open PySem PySem.Spec PyProof.Rows L2 TR
structure EW (w : List Str × List (Str × Str)) : Prop where
  nd : w.1.Nodup
  n1 : 0 < w.1.length
  n2 : w.1.length ≤ 100
  t2 : w.2.length ≤ 100
  ends : ∀ e ∈ w.2, e.1 ∈ w.1 ∧ e.2 ∈ w.1
theorem others_ne {nm : List Str} {x : Str} (nd : nm.Nodup) (h : 1 < nm.length) : 0 < ((nm.filter fun name => (!eqB name x)).map fun name => name).length := by
  rw [List.map_id']
  refine List.length_pos_iff.mpr fun z => ?_
  have h1 := List.filter_eq_nil_iff.mp z
  have a0 := h1 nm[0] (List.getElem_mem (by omega))
  have a1 := h1 nm[1] (List.getElem_mem (by omega))
  have e0 : nm[0] = x := by simpa using a0
  have e1 : nm[1] = x := by simpa using a1
  have := List.pairwise_iff_getElem.mp nd 0 1 (by omega) (by omega) (by omega)
  exact this (e0.trans e1.symm)
theorem others_mem {nm : List Str} {x y : Str} (h : y ∈ ((nm.filter fun name => (!eqB name x)).map fun name => name)) : y ∈ nm := by
  rw [List.map_id'] at h
  exact (List.mem_filter.mp h).1
theorem others_len {nm : List Str} {x : Str} : ((nm.filter fun name => (!eqB name x)).map fun name => name).length ≤ nm.length := by
  rw [List.map_id']
  exact List.length_filter_le _ _
theorem walk_ok {s : Int × Int × Int × Int} {nm : List Str} {most : Int} (nd : nm.Nodup) (h1 : 0 < nm.length) (h2 : nm.length ≤ 100) (h3 : 0 < most) (h4 : most ≤ 40) : Ok (m__law_walk s nm most) fun r => (∀ e ∈ r.1, e.1 ∈ nm ∧ e.2 ∈ nm) ∧ (r.1.length : Int) ≤ most := by
  unfold m__law_walk
  refine ok_bind2 ((draw_ok (m := lenI nm) (by unfold lenI; omega) (by unfold lenI; omega)).mono fun ⟨v, s1⟩ ⟨a, b⟩ => ?_)
  obtain ⟨x, ex, _, hx⟩ := atI_lt (l := nm) a b
  refine ok_bind (ok_eq ex (ok_bnd (ok_bnd (ok_bnd (ok_bind2 ((draw_ok (m := most) h3 (by omega)).mono fun ⟨v2, s2⟩ ⟨a2, b2⟩ => ?_))))))
  dsimp only at a2 b2 ⊢
  have em : mulG v2 (b2n (decide ((1 : Int) < lenI nm))) = some (v2 * b2n (decide ((1 : Int) < lenI nm))) := mulG_ok (.inl ⟨by omega, by omega⟩)
  refine ok_bind (ok_eq em ?_)
  have hv3 : 0 ≤ v2 * b2n (decide ((1 : Int) < lenI nm)) ∧ v2 * b2n (decide ((1 : Int) < lenI nm)) < most ∧ (nm.length ≤ 1 → v2 * b2n (decide ((1 : Int) < lenI nm)) = 0) := by
    unfold b2n lenI
    by_cases q : (1 : Int) < (nm.length : Int)
    · rw [if_pos (decide_eq_true q), Int.mul_one]
      exact ⟨a2, b2, fun z => by omega⟩
    · rw [if_neg (by rw [decide_eq_false q]; exact Bool.false_ne_true), Int.mul_zero]
      exact ⟨by omega, h3, fun _ => rfl⟩
  generalize v2 * b2n (decide ((1 : Int) < lenI nm)) = v3 at hv3 ⊢
  refine ok_bind (ok_eq (rng1G_ok (by omega) (by omega)) (ok_bind3 (ok_forL (fun pre (s : (Int × Int × Int × Int) × Str × List (Str × Str)) => s.2.1 ∈ nm ∧ (∀ e ∈ s.2.2, e.1 ∈ nm ∧ e.2 ∈ nm) ∧ s.2.2.length = pre.length) _ _ [] ⟨hx, fun e h => (by cases h), rfl⟩ ?_ ?_)))
  · rintro p k r ⟨s3, he, fo⟩ e ⟨g1, g2, g3⟩
    dsimp only at g1 g2 g3
    have hpl : p.length < v3.toNat := by
      have := congrArg List.length e
      rw [List.nil_append, len_rngL, List.length_append, List.length_cons] at this
      omega
    have hn : 1 < nm.length := by
      by_cases q : nm.length ≤ 1
      · have := hv3.2.2 q; omega
      · omega
    have ho := others_ne (x := he) nd hn
    have ho2 := others_len (nm := nm) (x := he)
    unfold m__law_walk_L1
    dsimp only
    refine ok_bnd (ok_bind2 ((draw_ok (m := lenI ((nm.filter fun name => (!eqB name he)).map fun name => name)) (by unfold lenI; omega) (by unfold lenI; omega)).mono fun ⟨v5, s4⟩ ⟨a5, b5⟩ => ?_))
    obtain ⟨y, ey, _, hy⟩ := atI_lt (l := ((nm.filter fun name => (!eqB name he)).map fun name => name)) a5 b5
    refine ok_bind (ok_eq ey (ok_bnd (ok_bind (ok_eq (appG_ok (show fo.length < 16777216 by omega)) (ok_bnd (ok_some ⟨others_mem hy, fun z hz => ?_, by simp [g3]⟩))))))
    rcases List.mem_append.mp hz with h | h
    · exact g2 z h
    · rw [List.mem_singleton.mp h]; exact ⟨g1, others_mem hy⟩
  · rintro ⟨s3, he, fo⟩ ⟨g1, g2, g3⟩
    dsimp only at g1 g2 g3 ⊢
    rw [List.nil_append, len_rngL] at g3
    refine ok_bind (ok_ite (fun _ => ok_bind (ok_eq (appG_ok (by omega)) (ok_some (ok_some ⟨fun z hz => ?_, ?_⟩)))) fun _ => ok_some (ok_some ⟨g2, by dsimp only; omega⟩))
    · rcases List.mem_append.mp hz with h | h
      · exact g2 z h
      · rw [List.mem_singleton.mp h]; exact ⟨g1, hx⟩
    · dsimp only
      rw [List.length_append, List.length_singleton]
      omega
end LW
namespace LW
open PySem PySem.Spec PyProof.Rows L2 TR
theorem web_ok {s : Int × Int × Int × Int} : Ok (m__law_web s (12 : Int) (23 : Int)) fun r => EW r.1 ∧ r.1.2.length ≤ 50 := by
  unfold m__law_web
  refine ok_bind2 ((draw_ok (by omega) (by omega)).mono fun ⟨v, s1⟩ ⟨a, b⟩ => ok_bind2 ((names_ok (by omega) (by omega)).mono fun ⟨nm, s2⟩ ⟨nd, hl⟩ => ok_bnd (ok_bind2 ((draw_ok (by omega) (by omega)).mono fun ⟨v2, s3⟩ ⟨a2, b2⟩ => ok_bnd ?_))))
  dsimp only at a b nd hl a2 b2 ⊢
  have hll : 0 < nm.length ∧ nm.length ≤ 12 := by omega
  have hA : Ok (if (decide (v2 < (3 : Int))) = true then
    bind2 (m__law_draw s3 (2 : Int)) fun v_3 seed_5 =>
    (mulG v_3 (b2n (decide ((2 : Int) < (lenI nm))))).bind fun v_4 =>
    bnd (cutP nm (some v_4) (none : Option Int)) fun some0 =>
    bind2 (m__law_walk seed_5 some0 (23 : Int)) fun v_5 seed_6 =>
    bnd v_5 fun arrows_1 =>
    some (seed_6, arrows_1)
  else
    bnd ((lenI nm) / (2 : Int)) fun half =>
    bind2 (m__law_walk s3 (cutP nm (none : Option Int) (some (max2 (1 : Int) half))) ((23 : Int) / (2 : Int))) fun v_6 seed_7 =>
    bind2 (m__law_walk seed_7 (cutP nm (some half) (none : Option Int)) ((23 : Int) / (2 : Int))) fun v_7 seed_8 =>
    (catG v_6 v_7).bind fun v_8 =>
    bnd v_8 fun arrows_2 =>
    some (seed_8, arrows_2)) fun r => (∀ e ∈ r.2, e.1 ∈ nm ∧ e.2 ∈ nm) ∧ r.2.length ≤ 40 := by
    refine ok_ite (fun _ => ?_) fun _ => ?_
    · refine ok_bind2 ((draw_ok (by omega) (by omega)).mono fun ⟨v3, s5⟩ ⟨a3, b3⟩ => ?_)
      dsimp only at a3 b3 ⊢
      have em : mulG v3 (b2n (decide ((2 : Int) < lenI nm))) = some (v3 * b2n (decide ((2 : Int) < lenI nm))) := mulG_ok (.inl ⟨by omega, by omega⟩)
      have hv : 0 ≤ v3 * b2n (decide ((2 : Int) < lenI nm)) ∧ v3 * b2n (decide ((2 : Int) < lenI nm)) < nm.length := by
        unfold b2n lenI
        by_cases q : (2 : Int) < (nm.length : Int)
        · rw [if_pos (decide_eq_true q), Int.mul_one]; omega
        · rw [if_neg (by rw [decide_eq_false q]; exact Bool.false_ne_true), Int.mul_zero]; omega
      refine ok_bind (ok_eq em (ok_bnd ?_))
      rw [cutP_from hv.1]
      generalize v3 * b2n (decide ((2 : Int) < lenI nm)) = v4 at hv ⊢
      have hdl : (nm.drop v4.toNat).length = nm.length - v4.toNat := List.length_drop
      refine ok_bind2 ((walk_ok (nm := nm.drop v4.toNat) (nd.sublist (List.drop_sublist _ _)) (by omega) (by omega) (by omega) (by omega)).mono fun ⟨v5, s6⟩ ⟨h1, h2⟩ => ok_bnd (ok_some ⟨fun e he => ?_, by dsimp only at h2 ⊢; omega⟩))
      exact ⟨List.mem_of_mem_drop (h1 e he).1, List.mem_of_mem_drop (h1 e he).2⟩
    · refine ok_bnd ?_
      have hh : 0 ≤ lenI nm / 2 ∧ lenI nm / 2 < nm.length := by unfold lenI; omega
      generalize lenI nm / 2 = half at hh ⊢
      have hm : 1 ≤ max2 (1 : Int) half := by unfold max2; split <;> omega
      rw [cutP_to (by omega), cutP_from hh.1, show (23 : Int) / 2 = 11 from rfl]
      have hdl : (nm.drop half.toNat).length = nm.length - half.toNat := List.length_drop
      have htl : (nm.take (max2 (1 : Int) half).toNat).length = min (max2 (1 : Int) half).toNat nm.length := List.length_take
      refine ok_bind2 ((walk_ok (nm := nm.take (max2 (1 : Int) half).toNat) (nd.sublist (List.take_sublist _ _)) (by omega) (by omega) (by omega) (by omega)).mono fun ⟨v6, s7⟩ ⟨h1, h2⟩ => ok_bind2 ((walk_ok (nm := nm.drop half.toNat) (nd.sublist (List.drop_sublist _ _)) (by omega) (by omega) (by omega) (by omega)).mono fun ⟨v7, s8⟩ ⟨h3, h4⟩ => ?_))
      dsimp only at h1 h2 h3 h4 ⊢
      refine ok_bind (ok_eq (catG_ok (by omega)) (ok_bnd (ok_some ⟨fun e he => ?_, by dsimp only; rw [List.length_append]; omega⟩)))
      rcases List.mem_append.mp he with h | h
      · exact ⟨List.mem_of_mem_take (h1 e h).1, List.mem_of_mem_take (h1 e h).2⟩
      · exact ⟨List.mem_of_mem_drop (h3 e h).1, List.mem_of_mem_drop (h3 e h).2⟩
  refine ok_bind2 (hA.mono fun ⟨s4, ar⟩ ⟨w1, w2⟩ => ?_)
  dsimp only at w1 w2 ⊢
  have hB : Ok (if (eqB v2 (4 : Int)) = true then
    bnd ([] : (List (Str × Str))) fun arrows_4 =>
    bind2 (m__law_draw s4 ((23 : Int) + (1 : Int))) fun v_9 seed_10 =>
    (mulG v_9 (b2n (decide ((1 : Int) < (lenI nm))))).bind fun v_10 =>
    (rng1G v_10).bind fun v_11 =>
    bind2 (forL v_11 (seed_10, arrows_4) (fun s k => m__law_web_L1 nm s.1 s.2 k)) fun seed_14 arrows_6 =>
    some (seed_14, arrows_6)
  else
    some (s4, ar)) fun r => (∀ e ∈ r.2, e.1 ∈ nm ∧ e.2 ∈ nm) ∧ r.2.length ≤ 40 := by
    refine ok_ite (fun _ => ok_bnd (ok_bind2 ((draw_ok (by omega) (by omega)).mono fun ⟨v9, s10⟩ ⟨a9, b9⟩ => ?_))) fun _ => ok_some ⟨w1, w2⟩
    dsimp only at a9 b9 ⊢
    have em : mulG v9 (b2n (decide ((1 : Int) < lenI nm))) = some (v9 * b2n (decide ((1 : Int) < lenI nm))) := mulG_ok (.inl ⟨by omega, by omega⟩)
    have hv : 0 ≤ v9 * b2n (decide ((1 : Int) < lenI nm)) ∧ v9 * b2n (decide ((1 : Int) < lenI nm)) < 24 ∧ (nm.length ≤ 1 → v9 * b2n (decide ((1 : Int) < lenI nm)) = 0) := by
      unfold b2n lenI
      by_cases q : (1 : Int) < (nm.length : Int)
      · rw [if_pos (decide_eq_true q), Int.mul_one]
        exact ⟨a9, by omega, fun z => by omega⟩
      · rw [if_neg (by rw [decide_eq_false q]; exact Bool.false_ne_true), Int.mul_zero]
        exact ⟨by omega, by omega, fun _ => rfl⟩
    refine ok_bind (ok_eq em ?_)
    generalize v9 * b2n (decide ((1 : Int) < lenI nm)) = v10 at hv ⊢
    refine ok_bind (ok_eq (rng1G_ok (by omega) (by omega)) (ok_bind2 (ok_forL (fun pre (s : (Int × Int × Int × Int) × List (Str × Str)) => (∀ e ∈ s.2, e.1 ∈ nm ∧ e.2 ∈ nm) ∧ s.2.length = pre.length) _ _ [] ⟨fun e h => (by cases h), rfl⟩ ?_ ?_)))
    · rintro p k r ⟨s3, fo⟩ e ⟨g2, g3⟩
      dsimp only at g2 g3
      have hpl : p.length < v10.toNat := by
        have := congrArg List.length e
        rw [List.nil_append, len_rngL, List.length_append, List.length_cons] at this
        omega
      have hn : 1 < nm.length := by
        by_cases q : nm.length ≤ 1
        · have := hv.2.2 q; omega
        · omega
      unfold m__law_web_L1
      dsimp only
      refine ok_bind2 ((draw_ok (m := lenI nm) (by unfold lenI; omega) (by unfold lenI; omega)).mono fun ⟨v12, s12⟩ ⟨a12, b12⟩ => ?_)
      obtain ⟨x, ex, _, hx⟩ := atI_lt (l := nm) a12 b12
      have ho := others_ne (x := x) nd hn
      have ho2 := others_len (nm := nm) (x := x)
      refine ok_bind (ok_eq ex (ok_bnd (ok_bnd (ok_bind2 ((draw_ok (m := lenI ((nm.filter fun name => (!eqB name x)).map fun name => name)) (by unfold lenI; omega) (by unfold lenI; omega)).mono fun ⟨v14, s13⟩ ⟨a14, b14⟩ => ?_)))))
      obtain ⟨y, ey, _, hy⟩ := atI_lt (l := ((nm.filter fun name => (!eqB name x)).map fun name => name)) a14 b14
      refine ok_bind (ok_eq ey (ok_bind (ok_eq (appG_ok (show fo.length < 16777216 by omega)) (ok_some ⟨fun z hz => ?_, by simp [g3]⟩))))
      rcases List.mem_append.mp hz with h | h
      · exact g2 z h
      · rw [List.mem_singleton.mp h]; exact ⟨hx, others_mem hy⟩
    · rintro ⟨s3, fo⟩ ⟨g2, g3⟩
      dsimp only at g2 g3
      rw [List.nil_append, len_rngL] at g3
      exact ok_some ⟨g2, by dsimp only; omega⟩
  refine ok_bind2 (hB.mono fun ⟨s9, ar3⟩ ⟨w3, w4⟩ => ?_)
  dsimp only at w3 w4 ⊢
  refine ok_bind2 (Ok.mono (P := fun r : (Int × Int × Int × Int) × List (Str × Str) => (∀ e ∈ r.2, e.1 ∈ nm ∧ e.2 ∈ nm) ∧ r.2.length ≤ 40) (ok_ite (fun hc => ?_) fun _ => ok_some ⟨w3, w4⟩) fun ⟨s15, ar7⟩ ⟨w5, w6⟩ => ok_some ?_)
  · have hne : ar3 ≠ [] := by
      intro z
      rw [z] at hc
      simp at hc
    have hpos := List.length_pos_iff.mpr hne
    refine ok_bind2 ((draw_ok (m := lenI ar3) (by unfold lenI; omega) (by unfold lenI; omega)).mono fun ⟨v16, s16⟩ ⟨a16, b16⟩ => ok_bnd ?_)
    obtain ⟨z, ez, _, hz⟩ := atI_lt (l := ar3) a16 b16
    refine ok_bind (ok_eq ez (ok_bind (ok_eq (setI_ok a16 b16) (ok_some ⟨fun e he => ?_, by dsimp only; rw [List.length_set]; exact w4⟩))))
    rcases List.mem_or_eq_of_mem_set he with h | h
    · exact w3 e h
    · rw [h]; exact ⟨(w3 z hz).2, (w3 z hz).1⟩
  · dsimp only at w5 w6
    refine ⟨⟨nd, hll.1, by dsimp only; omega, by dsimp only; rw [(sortL_perm _).length_eq]; omega, fun e he => w5 e ((sortL_perm _).mem_iff.mp he)⟩, by dsimp only; rw [(sortL_perm _).length_eq]; omega⟩
end LW
namespace LW
open PySem PySem.Spec PyProof.Rows L2 TR
abbrev EWeb := List Str × List (Str × Str)
structure RI (nm : List Str) (E : List (Str × Str)) (v : Str) (f l : List Str) : Prop where
  nd : f.Nodup
  sub : ∀ x ∈ f, x ∈ nm
  hv : v ∈ f
  con : ∀ x ∈ f, runE (fun x => x) E x = runE (fun x => x) E v
  ln : ∀ x ∈ l, x ∈ f
  cl : ∀ e ∈ E, (e.1 ∈ f → e.1 ∉ l → e.2 ∈ f) ∧ (e.2 ∈ f → e.2 ∉ l → e.1 ∈ f)
def new1 (here : Str) (f : List Str) (e : Str × Str) : List Str := if inB here [e.1, e.2] = true then (([e.1, e.2].filter fun other => (!inB other f)).map fun other => other) else []
theorem reach_step {here : Str} {f l : List Str} {e : Str × Str} (h1 : f.length ≤ 1000) (h2 : l.length ≤ 1000) : m_reached_from_L2 here f l e = some (f ++ new1 here f e, l ++ new1 here f e) := by
  unfold m_reached_from_L2 new1
  by_cases q : inB here [e.1, e.2] = true
  · rw [if_pos q, if_pos q]
    have hl : (([e.1, e.2].filter fun other => (!inB other f)).map fun other => other).length ≤ 2 := by
      rw [List.map_id']
      exact List.length_filter_le _ _
    show (extG f _).bind _ = _
    rw [extG_ok (by omega), Option.bind_some, extG_ok (by omega), Option.bind_some]
  · rw [if_neg q, if_neg q, List.append_nil, List.append_nil]
def newR (here : Str) : List (Str × Str) → List Str → List Str
  | [], f => f
  | e :: E, f => newR here E (f ++ new1 here f e)
theorem new1_mem {here : Str} {f : List Str} {e : Str × Str} {x : Str} (h : x ∈ new1 here f e) : x ∉ f ∧ ((x = e.1 ∨ x = e.2) ∧ (here = e.1 ∨ here = e.2)) := by
  unfold new1 at h
  split at h
  · rename_i q
    rw [List.map_id'] at h
    obtain ⟨a, b⟩ := List.mem_filter.mp h
    exact ⟨by simpa using b, by simpa using a, by simpa using q⟩
  · cases h
theorem new1_len {here : Str} {f : List Str} {e : Str × Str} (hh : here ∈ f) : new1 here f e = [] ∨ ∃ x, new1 here f e = [x] := by
  unfold new1
  split
  · rename_i q
    rw [List.map_id']
    have q : here = e.1 ∨ here = e.2 := by simpa using q
    by_cases a : e.1 ∈ f <;> by_cases b : e.2 ∈ f
    · left; simp [a, b]
    · right; exact ⟨e.2, by simp [a, b]⟩
    · right; exact ⟨e.1, by simp [a, b]⟩
    · exfalso
      rcases q with q | q
      · exact a (q ▸ hh)
      · exact b (q ▸ hh)
  · exact .inl rfl
theorem new1_all {here : Str} {f : List Str} {e : Str × Str} (q : here = e.1 ∨ here = e.2) : e.1 ∈ f ++ new1 here f e ∧ e.2 ∈ f ++ new1 here f e := by
  unfold new1
  rw [if_pos (by simpa using q), List.map_id']
  constructor
  · by_cases a : e.1 ∈ f
    · exact List.mem_append_left _ a
    · exact List.mem_append_right _ (List.mem_filter.mpr ⟨by simp, by simp [a]⟩)
  · by_cases a : e.2 ∈ f
    · exact List.mem_append_left _ a
    · exact List.mem_append_right _ (List.mem_filter.mpr ⟨by simp, by simp [a]⟩)
theorem reach_in {W : EWeb} {v here : Str} {f l : List Str} (w : EW W) (h : RI W.1 W.2 v f (l ++ [here])) (hl : l.length ≤ 500) : Ok (forL W.2 (f, l) (fun s arrow => m_reached_from_L2 here s.1 s.2 arrow)) fun s => ∃ R, s = (f ++ R, l ++ R) ∧ RI W.1 W.2 v (f ++ R) (l ++ R) := by
  have n2 := w.n2
  have hh : here ∈ f := h.ln here (by simp)
  refine ok_forL (fun pre (s : List Str × List Str) => ∃ R, s = (f ++ R, l ++ R) ∧ (f ++ R).Nodup ∧ (∀ x ∈ R, x ∈ W.1 ∧ runE (fun x => x) W.2 x = runE (fun x => x) W.2 v) ∧ ∀ e ∈ pre, (here = e.1 ∨ here = e.2) → e.1 ∈ f ++ R ∧ e.2 ∈ f ++ R) _ _ [] ⟨[], by simp, by simpa using h.nd, fun x hx => (by cases hx), fun e he => (by cases he)⟩ ?_ ?_
  · rintro p e r s hpe ⟨R, rfl, i1, i2, i3⟩
    have he : e ∈ W.2 := by rw [List.nil_append] at hpe; rw [hpe]; simp
    have hsub : ∀ x ∈ f ++ R, x ∈ W.1 := fun x hx => (List.mem_append.mp hx).elim (h.sub x) fun hx => (i2 x hx).1
    have hlen : (f ++ R).length ≤ W.1.length := List.Nodup.length_le_of_subset i1 hsub
    rw [List.length_append] at hlen
    have hst := reach_step (here := here) (f := f ++ R) (l := l ++ R) (e := e) (by rw [List.length_append]; omega) (by rw [List.length_append]; omega)
    refine ok_eq hst ⟨R ++ new1 here (f ++ R) e, by simp [List.append_assoc], ?_, ?_, ?_⟩
    · rw [← List.append_assoc]
      rcases new1_len (e := e) (List.mem_append_left R hh) with q | ⟨x, q⟩
      · rw [q, List.append_nil]; exact i1
      · rw [q]
        have hx := (new1_mem (here := here) (f := f ++ R) (e := e) (x := x) (by rw [q]; simp)).1
        exact List.nodup_append.mpr ⟨i1, by simp, fun a ha b hb => by rw [List.mem_singleton.mp hb]; exact fun z => hx (z ▸ ha)⟩
    · intro x hx
      rcases List.mem_append.mp hx with hx | hx
      · exact i2 x hx
      · obtain ⟨_, q1, q2⟩ := new1_mem hx
        have hr := run_edge (lab := fun x => x) he
        have hc := h.con here hh
        have en := w.ends e he
        rcases q1 with q1 | q1 <;> rcases q2 with q2 | q2
        · rw [q1]; exact ⟨en.1, by rw [← q2]; exact hc⟩
        · rw [q1]; exact ⟨en.1, by rw [hr, ← q2]; exact hc⟩
        · rw [q1]; exact ⟨en.2, by rw [← hr, ← q2]; exact hc⟩
        · rw [q1]; exact ⟨en.2, by rw [← q2]; exact hc⟩
    · intro e2 he2 q
      rw [← List.append_assoc]
      rcases List.mem_append.mp he2 with he2 | he2
      · have := i3 e2 he2 q
        exact ⟨List.mem_append_left _ this.1, List.mem_append_left _ this.2⟩
      · rw [List.mem_singleton.mp he2] at q ⊢
        exact new1_all q
  · rintro s ⟨R, rfl, i1, i2, i3⟩
    rw [List.nil_append] at i3
    refine ⟨R, rfl, i1, fun x hx => (List.mem_append.mp hx).elim (h.sub x) fun hx => (i2 x hx).1, List.mem_append_left _ h.hv, fun x hx => (List.mem_append.mp hx).elim (h.con x) fun hx => (i2 x hx).2, fun x hx => ?_, fun e he => ⟨fun a b => ?_, fun a b => ?_⟩⟩
    · rcases List.mem_append.mp hx with hx | hx
      · exact List.mem_append_left _ (h.ln x (List.mem_append_left _ hx))
      · exact List.mem_append_right _ hx
    · by_cases q : here = e.1
      · exact (i3 e he (.inl q)).2
      · have a2 : e.1 ∈ f := (List.mem_append.mp a).elim id fun z => absurd (List.mem_append_right l z) b
        refine List.mem_append_left _ ((h.cl e he).1 a2 fun z => ?_)
        rcases List.mem_append.mp z with z | z
        · exact b (List.mem_append_left _ z)
        · exact q (List.mem_singleton.mp z).symm
    · by_cases q : here = e.2
      · exact (i3 e he (.inr q)).1
      · have a2 : e.2 ∈ f := (List.mem_append.mp a).elim id fun z => absurd (List.mem_append_right l z) b
        refine List.mem_append_left _ ((h.cl e he).2 a2 fun z => ?_)
        rcases List.mem_append.mp z with z | z
        · exact b (List.mem_append_left _ z)
        · exact q (List.mem_singleton.mp z).symm
end LW
namespace LW
open PySem PySem.Spec PyProof.Rows L2 TR
theorem reach_ok {W : EWeb} {v : Str} (w : EW W) (hv : v ∈ W.1) : Ok (m_reached_from W v) fun f => RI W.1 W.2 v f [] := by
  have n1 := w.n1
  have n2 := w.n2
  unfold m_reached_from
  refine ok_bnd (ok_bnd (ok_bind2 (ok_whileL (Q := fun s => RI W.1 W.2 v s.1 []) (fun (k : Nat) (s : List Str × List Str) => RI W.1 W.2 v s.1 s.2 ∧ k = 2 * (W.1.length - s.1.length) + s.2.length ∧ k ≤ 300) ?_ 1000 (2 * (W.1.length - 1) + 1) ([v], [v]) (by omega) ⟨?_, rfl, by omega⟩ |>.mono fun s h => ok_some h)))
  · rintro k ⟨f, l⟩ ⟨h, hk, hk3⟩
    dsimp only at h hk hk3
    have hle : f.length ≤ W.1.length := List.Nodup.length_le_of_subset h.nd h.sub
    refine ok_some ⟨fun hc => ?_, fun hc => ?_⟩
    · have hne : l ≠ [] := by simpa using hc
      obtain ⟨l', here, rfl⟩ : ∃ l' x, l = l' ++ [x] := ⟨l.dropLast, l.getLast hne, (List.dropLast_concat_getLast hne).symm⟩
      rw [List.length_append, List.length_singleton] at hk
      unfold m_reached_from_L1
      refine ok_bind2 (ok_eq popE_ok (ok_bnd (ok_bind2 ((reach_in w h (by omega)).mono fun s ⟨R, e, hR⟩ => ok_some ?_))))
      subst e
      have hle2 : (f ++ R).length ≤ W.1.length := List.Nodup.length_le_of_subset hR.nd hR.sub
      refine ⟨2 * (W.1.length - (f ++ R).length) + (l' ++ R).length, ?_, hR, rfl, ?_⟩ <;>
      · rw [List.length_append] at hle2 ⊢
        rw [List.length_append]
        omega
    · have : l = [] := by simpa using hc
      rw [this] at h
      exact h
  · exact ⟨by simp, fun x hx => by rw [List.mem_singleton.mp hx]; exact hv, by simp, fun x hx => by rw [List.mem_singleton.mp hx], fun x hx => hx, fun e he => ⟨fun a b => absurd a b, fun a b => absurd a b⟩⟩
theorem reach_mem {nm : List Str} {E : List (Str × Str)} {v : Str} {f : List Str} (h : RI nm E v f []) (x : Str) : x ∈ f ↔ (x ∈ nm ∧ runE (fun x => x) E x = runE (fun x => x) E v) := by
  constructor
  · exact fun hx => ⟨h.sub x hx, h.con x hx⟩
  · rintro ⟨hx, q⟩
    have := run_le (g := fun z => if z ∈ f then ("a" : Str) else "b") (E := E) (lab := fun x => x) (fun e he => by
      have c := h.cl e he
      have : e.1 ∈ f ↔ e.2 ∈ f := ⟨fun a => c.1 a (by simp), fun a => c.2 a (by simp)⟩
      simp only [this]) (fun x y h => by rw [show x = y from h]) x v q
    rw [if_pos h.hv] at this
    exact Classical.byContradiction fun z => by
      rw [if_neg z] at this
      exact absurd this (by decide)
end LW
namespace LW
open PySem PySem.Spec PyProof.Rows L2 TR
theorem remap_mk {κ ν : Type} [DecidableEq κ] {f : κ → ν} {p : ν → Bool} {one : ν} {nm : List κ} {body : List (κ × ν) → κ → Option (List (κ × ν))} (nd : nm.Nodup) (hl : nm.length < 16777216) (hb : ∀ d x, body d x = (dget d x).bind fun v => if p v = true then (dput d x one).bind fun l => some l else some d) :
    forL nm (mkD nm f) body = some (mkD nm fun y => if p (f y) = true then one else f y) := by
  have main : ∀ (xs pre : List κ), pre ++ xs = nm → forL xs (mkD nm fun y => if y ∈ pre ∧ p (f y) = true then one else f y) body = some (mkD nm fun y => if p (f y) = true then one else f y) := by
    intro xs
    induction xs with
    | nil =>
      intro pre e
      rw [List.append_nil] at e
      subst e
      show some _ = some _
      congr 1
      exact mkD_congr fun y hy => by simp [hy]
    | cons x xs ih =>
      intro pre e
      have hx : x ∈ nm := by rw [← e]; simp
      have hxp : x ∉ pre := fun z => by
        rw [← e] at nd
        exact (List.nodup_append.mp nd).2.2 x z x List.mem_cons_self rfl
      show (body _ x).bind _ = _
      rw [hb, dget_mk hx, Option.bind_some]
      have e1 : (if x ∈ pre ∧ p (f x) = true then one else f x) = f x := if_neg fun z => hxp z.1
      rw [e1]
      have step : (if p (f x) = true then (dput (mkD nm fun y => if y ∈ pre ∧ p (f y) = true then one else f y) x one).bind fun l => some l else some (mkD nm fun y => if y ∈ pre ∧ p (f y) = true then one else f y)) = some (mkD nm fun y => if y ∈ pre ++ [x] ∧ p (f y) = true then one else f y) := by
        by_cases q : p (f x) = true
        · rw [if_pos (by simp [q]), dput_mk nd hl hx]
          show some _ = some _
          congr 1
          exact mkD_congr fun y _ => by
            unfold upd1F
            by_cases q2 : y = x
            · subst q2; simp [q]
            · simp [q2]
        · rw [if_neg (by simp [q])]
          congr 1
          exact mkD_congr fun y _ => by
            by_cases q2 : y = x
            · subst q2; simp [q]
            · simp [q2]
      rw [step, Option.bind_some]
      exact ih (pre ++ [x]) (by simpa using e)
  have := main nm [] rfl
  simpa using this
end LW
namespace LW
open PySem PySem.Spec PyProof.Rows L2 TR
def Conn (nm : List Str) (E : List (Str × Str)) : Prop := ∀ x ∈ nm, ∀ y ∈ nm, runE (fun x => x) E x = runE (fun x => x) E y
def Ends (nm : List Str) (E : List (Str × Str)) : Prop := ∀ e ∈ E, e.1 ∈ nm ∧ e.2 ∈ nm
def acy (lab : Str → Str) : List (Str × Str) → Bool
  | [] => true
  | e :: E => if lab e.1 = lab e.2 then false else acy (join lab e.1 e.2) E
theorem acy_of : ∀ {E : List (Str × Str)} {lab : Str → Str}, (∀ E1 e E2, E = E1 ++ e :: E2 → runE lab E1 e.1 ≠ runE lab E1 e.2) → acy lab E = true
  | [], _, _ => rfl
  | e :: E, lab, h => by
    have h0 : ¬ lab e.1 = lab e.2 := h [] e E rfl
    unfold acy
    rw [if_neg h0]
    exact acy_of fun E1 e1 E2 q => h (e :: E1) e1 E2 (by rw [q]; rfl)
theorem acy_cnt {nm : List Str} (nd : nm.Nodup) : ∀ {E : List (Str × Str)} {lab : Str → Str}, Idem nm lab → Ends nm E → acy lab E = true → cnt nm (runE lab E) + E.length = cnt nm lab
  | [], _, _, _, _ => rfl
  | e :: E, lab, hi, hE, h => by
    unfold acy at h
    by_cases q : lab e.1 = lab e.2
    · rw [if_pos q] at h; cases h
    · rw [if_neg q] at h
      have he := hE e List.mem_cons_self
      have ih := acy_cnt nd (join_idem hi he.1 he.2) (fun z hz => hE z (List.mem_cons_of_mem _ hz)) h
      have c := cnt_join nd hi he.1 he.2 q
      show cnt nm (runE (join lab e.1 e.2) E) + (E.length + 1) = _
      omega
theorem one_cnt {nm : List Str} {lab : Str → Str} (hi : Idem nm lab) (h : cnt nm lab = 1) : ∀ x ∈ nm, ∀ y ∈ nm, lab x = lab y := by
  obtain ⟨r, hr⟩ := List.length_eq_one_iff.mp (show (nm.filter fun x => decide (lab x = x)).length = 1 from h)
  have : ∀ x ∈ nm, lab x = r := fun x hx => by
    have hm : lab x ∈ nm.filter fun x => decide (lab x = x) := List.mem_filter.mpr ⟨(hi x hx).1, by simpa using (hi x hx).2⟩
    rw [hr] at hm
    exact List.mem_singleton.mp hm
  intro x hx y hy
  rw [this x hx, this y hy]
theorem acy_conn {nm : List Str} {E : List (Str × Str)} (nd : nm.Nodup) (hne : nm ≠ []) (hE : Ends nm E) (hl : E.length + 1 = nm.length) : acy (fun x => x) E = true ↔ Conn nm E := by
  constructor
  · intro h
    have := acy_cnt nd (idem_id nm) hE h
    rw [cnt_id] at this
    exact one_cnt (run_idem (idem_id nm) hE) (by omega)
  · intro h
    exact acy_of fun E1 e E2 q => no_ring nd hne hE hl h q
def hst (th : List Str) (e : Str × Str) : List Str := if decide (e.1 ∈ th) = decide (e.2 ∈ th) then th else th ++ [if e.1 ∈ th then e.2 else e.1]
def hrd (E : List (Str × Str)) (th : List Str) : List Str := E.foldl hst th
def HP (nm : List Str) (E : List (Str × Str)) (v : Str) (th : List Str) : Prop := th.Nodup ∧ (∀ x ∈ th, x ∈ nm) ∧ v ∈ th ∧ ∀ x ∈ th, runE (fun x => x) E x = runE (fun x => x) E v
theorem hst_ok {nm : List Str} {E : List (Str × Str)} {v : Str} {th : List Str} {e : Str × Str} (hE : Ends nm E) (he : e ∈ E) (h : HP nm E v th) : HP nm E v (hst th e) := by
  unfold hst
  split
  · exact h
  · rename_i q
    have hr := run_edge (lab := fun x => x) he
    have hne := hE e he
    obtain ⟨h1, h2, h3, h4⟩ := h
    have key : ∀ w, w ∉ th → w ∈ nm → runE (fun x => x) E w = runE (fun x => x) E v → HP nm E v (th ++ [w]) := fun w a b c =>
      ⟨List.nodup_append.mpr ⟨h1, by simp, fun x hx y hy => by rw [List.mem_singleton.mp hy]; exact fun z => a (z ▸ hx)⟩, fun x hx => (List.mem_append.mp hx).elim (h2 x) fun hx => by rw [List.mem_singleton.mp hx]; exact b,
        List.mem_append_left _ h3, fun x hx => (List.mem_append.mp hx).elim (h4 x) fun hx => by rw [List.mem_singleton.mp hx]; exact c⟩
    by_cases q1 : e.1 ∈ th
    · rw [if_pos q1]
      have q2 : e.2 ∉ th := fun z => q (by simp [q1, z])
      exact key _ q2 hne.2 (by rw [← hr]; exact h4 _ q1)
    · rw [if_neg q1]
      have q2 : e.2 ∈ th := Classical.byContradiction fun z => q (by simp [q1, z])
      exact key _ q1 hne.1 (by rw [hr]; exact h4 _ q2)
theorem hrd_ok {nm : List Str} {E : List (Str × Str)} {v : Str} (hE : Ends nm E) : ∀ {F : List (Str × Str)} {th : List Str}, (∀ e ∈ F, e ∈ E) → HP nm E v th → HP nm E v (hrd F th)
  | [], _, _, h => h
  | e :: F, th, hF, h => hrd_ok hE (F := F) (th := hst th e) (fun x hx => hF x (List.mem_cons_of_mem _ hx)) (hst_ok hE (hF e List.mem_cons_self) h)
theorem hst_len (th : List Str) (e : Str × Str) : th.length ≤ (hst th e).length ∧ ((hst th e).length = th.length → hst th e = th ∧ (e.1 ∈ th ↔ e.2 ∈ th)) := by
  unfold hst
  split
  · rename_i q
    exact ⟨Nat.le_refl _, fun _ => ⟨rfl, by simpa using q⟩⟩
  · rw [List.length_append, List.length_singleton]
    exact ⟨by omega, fun h => by omega⟩
theorem hrd_len : ∀ (F : List (Str × Str)) (th : List Str), th.length ≤ (hrd F th).length ∧ ((hrd F th).length = th.length → hrd F th = th ∧ ∀ e ∈ F, (e.1 ∈ th ↔ e.2 ∈ th))
  | [], th => ⟨Nat.le_refl _, fun _ => ⟨rfl, fun e h => by cases h⟩⟩
  | e :: F, th => by
    have a := hst_len th e
    have b := hrd_len F (hst th e)
    show th.length ≤ (hrd F (hst th e)).length ∧ ((hrd F (hst th e)).length = th.length → hrd F (hst th e) = th ∧ _)
    refine ⟨by omega, fun q => ?_⟩
    have a2 := a.2 (by omega)
    have b2 := b.2 (by omega)
    rw [a2.1] at b2 ⊢
    exact ⟨b2.1, fun x hx => (List.mem_cons.mp hx).elim (fun z => by rw [z]; exact a2.2) (b2.2 x)⟩
def hrds (E : List (Str × Str)) : Nat → List Str → List Str
  | 0, th => th
  | n + 1, th => hrds E n (hrd E th)
theorem hrds_ok {nm : List Str} {E : List (Str × Str)} {v : Str} (hE : Ends nm E) : ∀ (n : Nat) {th : List Str}, HP nm E v th → HP nm E v (hrds E n th)
  | 0, _, h => h
  | n + 1, _, h => hrds_ok hE n (hrd_ok hE (fun _ z => z) h)
theorem hrds_fix {E : List (Str × Str)} {th : List Str} (h : hrd E th = th) : ∀ n, hrds E n th = th
  | 0 => rfl
  | n + 1 => by
    show hrds E n (hrd E th) = th
    rw [h, hrds_fix h n]
theorem hrds_grow {E : List (Str × Str)} : ∀ (n : Nat) (th : List Str), (∀ e ∈ E, (e.1 ∈ hrds E n th ↔ e.2 ∈ hrds E n th)) ∨ th.length + n ≤ (hrds E n th).length
  | 0, th => .inr (Nat.le_refl _)
  | n + 1, th => by
    have a := hrd_len E th
    show (∀ e ∈ E, (e.1 ∈ hrds E n (hrd E th) ↔ e.2 ∈ hrds E n (hrd E th))) ∨ th.length + (n + 1) ≤ (hrds E n (hrd E th)).length
    by_cases q : (hrd E th).length = th.length
    · have a2 := a.2 q
      rw [a2.1, hrds_fix a2.1 n]
      exact .inl a2.2
    · rcases hrds_grow (E := E) n (hrd E th) with h | h
      · exact .inl h
      · exact .inr (by omega)
theorem hangs_iff {nm : List Str} {E : List (Str × Str)} {v : Str} (nd : nm.Nodup) (hv : v ∈ nm) (hE : Ends nm E) : (hrds E nm.length [v]).length = nm.length ↔ Conn nm E := by
  have hp : HP nm E v (hrds E nm.length [v]) := hrds_ok hE _ ⟨by simp, fun x hx => by rw [List.mem_singleton.mp hx]; exact hv, by simp, fun x hx => by rw [List.mem_singleton.mp hx]⟩
  have hg := hrds_grow (E := E) nm.length [v]
  generalize hrds E nm.length [v] = th at hp hg ⊢
  obtain ⟨h1, h2, h3, h4⟩ := hp
  have hle : th.length ≤ nm.length := List.Nodup.length_le_of_subset h1 h2
  have hc : ∀ e ∈ E, (e.1 ∈ th ↔ e.2 ∈ th) := hg.elim (fun h => h) fun h => by simp only [List.length_singleton] at h; omega
  constructor
  · intro q
    have hsub : ∀ x ∈ nm, x ∈ th := fun x hx => Classical.byContradiction fun z => by
      have : (x :: th).length ≤ nm.length := List.Nodup.length_le_of_subset (List.nodup_cons.mpr ⟨z, h1⟩) (fun y hy => (List.mem_cons.mp hy).elim (fun e => by rw [e]; exact hx) (h2 y))
      rw [List.length_cons] at this
      omega
    intro x hx y hy
    rw [h4 x (hsub x hx), h4 y (hsub y hy)]
  · intro q
    have hsub : ∀ x ∈ nm, x ∈ th := fun x hx => by
      have := run_le (g := fun z => if z ∈ th then ("a" : Str) else "b") (E := E) (lab := fun x => x) (fun e he => by simp only [hc e he]) (fun x y h => by rw [show x = y from h]) x v (q x hx v hv)
      rw [if_pos h3] at this
      exact Classical.byContradiction fun z => by
        rw [if_neg z] at this
        exact absurd this (by decide)
    have : nm.length ≤ th.length := List.Nodup.length_le_of_subset nd hsub
    omega
end LW
namespace LW
open PySem PySem.Spec PyProof.Rows L2 TR
def mnS (a b : Str) : Str := if PO.lt b a = true then b else a
theorem mnS_or (a b : Str) : mnS a b = a ∨ mnS a b = b := by
  unfold mnS
  split
  · exact .inr rfl
  · exact .inl rfl
def jn (lab : Str → Str) (e : Str × Str) : Str → Str := fun y => if inB (lab y) [lab e.1, lab e.2] = true then mnS (lab e.1) (lab e.2) else lab y
def runJ (lab : Str → Str) (E : List (Str × Str)) : Str → Str := E.foldl jn lab
theorem keys_mkD {nm : List Str} {f : Str → Str} : (mkD nm f).map (fun e => e.1) = nm := by
  unfold mkD
  rw [List.map_map]
  exact (List.map_congr_left fun x _ => rfl).trans (List.map_id' nm)
theorem group_step {nm : List Str} {lab : Str → Str} {e : Str × Str} (nd : nm.Nodup) (hl : nm.length < 16777216) (h1 : e.1 ∈ nm) (h2 : e.2 ∈ nm) : m__law_is_even_L1 (mkD nm lab) e = some (mkD nm (jn lab e)) := by
  unfold m__law_is_even_L1
  show (dget (mkD nm lab) e.1).bind _ = _
  rw [dget_mk h1, Option.bind_some, dget_mk h2, Option.bind_some]
  show (forL ((mkD nm lab).map fun e => e.1) (mkD nm lab) _).bind _ = _
  rw [keys_mkD, remap_mk (p := fun v => inB v [lab e.1, lab e.2]) (one := mnS (lab e.1) (lab e.2)) (body := fun s name_1 => m__law_is_even_L2 [lab e.1, lab e.2] s name_1) nd hl (fun d x => rfl), Option.bind_some]
  rfl
theorem group_loop {nm : List Str} (nd : nm.Nodup) (hl : nm.length < 16777216) : ∀ (E : List (Str × Str)) (lab : Str → Str), Ends nm E → forL E (mkD nm lab) (fun s it0 => m__law_is_even_L1 s it0) = some (mkD nm (runJ lab E))
  | [], _, _ => rfl
  | e :: E, lab, h => by
    have he := h e List.mem_cons_self
    show (m__law_is_even_L1 (mkD nm lab) e).bind _ = _
    rw [group_step nd hl he.1 he.2, Option.bind_some, group_loop nd hl E _ fun x hx => h x (List.mem_cons_of_mem _ hx)]
    rfl
theorem jn_mono {lab : Str → Str} {e : Str × Str} {x y : Str} (h : lab x = lab y) : jn lab e x = jn lab e y := by unfold jn; rw [h]
theorem jn_edge (lab : Str → Str) (e : Str × Str) : jn lab e e.1 = jn lab e e.2 := by
  unfold jn
  rw [if_pos (by simp), if_pos (by simp)]
theorem runJ_mono {x y : Str} : ∀ {E : List (Str × Str)} {lab : Str → Str}, lab x = lab y → runJ lab E x = runJ lab E y
  | [], _, h => h
  | e :: E, lab, h => runJ_mono (E := E) (lab := jn lab e) (jn_mono h)
theorem runJ_edge : ∀ {E : List (Str × Str)} {lab : Str → Str} {e : Str × Str}, e ∈ E → runJ lab E e.1 = runJ lab E e.2
  | e' :: E, lab, e, h => by
    rcases List.mem_cons.mp h with h | h
    · subst h
      exact runJ_mono (E := E) (lab := jn lab e) (jn_edge lab e)
    · exact runJ_edge (E := E) (lab := jn lab e') h
theorem runJ_le {g : Str → Str} : ∀ {E : List (Str × Str)} {lab : Str → Str}, (∀ e ∈ E, g e.1 = g e.2) → (∀ x y, lab x = lab y → g x = g y) → ∀ x y, runJ lab E x = runJ lab E y → g x = g y
  | [], _, _, h, x, y, e => h x y e
  | e' :: E, lab, hg, h, x, y, e => by
    have he : g e'.1 = g e'.2 := hg e' List.mem_cons_self
    refine runJ_le (E := E) (lab := jn lab e') (fun z hz => hg z (List.mem_cons_of_mem _ hz)) (fun u v q => ?_) x y e
    have inn : ∀ w, inB (lab w) [lab e'.1, lab e'.2] = true → g w = g e'.1 := fun w hw => by
      have : lab w = lab e'.1 ∨ lab w = lab e'.2 := by simpa using hw
      rcases this with z | z
      · exact h w _ z
      · rw [h w _ z, he]
    have mm : ∀ w, ¬ inB (lab w) [lab e'.1, lab e'.2] = true → mnS (lab e'.1) (lab e'.2) ≠ lab w := fun w hw z => by
      apply hw
      rcases mnS_or (lab e'.1) (lab e'.2) with q | q
      · rw [← z, q]; simp
      · rw [← z, q]; simp
    unfold jn at q
    by_cases c1 : inB (lab u) [lab e'.1, lab e'.2] = true <;> by_cases c2 : inB (lab v) [lab e'.1, lab e'.2] = true
    · rw [inn u c1, inn v c2]
    · rw [if_pos c1, if_neg c2] at q
      exact absurd q (mm v c2)
    · rw [if_neg c1, if_pos c2] at q
      exact absurd q.symm (mm u c1)
    · rw [if_neg c1, if_neg c2] at q
      exact h u v q
end LW
namespace LW
open PySem PySem.Spec PyProof.Rows L2 TR
def used (w : EWeb) : List Str := w.1.filter fun name => (!eqB ((w.2.filter fun arrow => (inB name [arrow.1, arrow.2])).map fun arrow => arrow) ([] : (List (Str × Str))))
theorem used_mem {w : EWeb} {x : Str} : x ∈ used w ↔ x ∈ w.1 ∧ ∃ e ∈ w.2, x = e.1 ∨ x = e.2 := by
  unfold used
  rw [List.mem_filter]
  refine and_congr_right fun _ => ?_
  rw [List.map_id']
  constructor
  · intro h
    have h : (w.2.filter fun arrow => (inB x [arrow.1, arrow.2])) ≠ [] := by simpa using h
    obtain ⟨e, he⟩ := List.exists_mem_of_ne_nil _ h
    have := List.mem_filter.mp he
    exact ⟨e, this.1, by simpa using this.2⟩
  · rintro ⟨e, he, q⟩
    have : e ∈ (w.2.filter fun arrow => (inB x [arrow.1, arrow.2])) := List.mem_filter.mpr ⟨he, by simpa using q⟩
    have h : (w.2.filter fun arrow => (inB x [arrow.1, arrow.2])) ≠ [] := List.ne_nil_of_mem this
    simp only [eqB_d, Bool.not_eq_true', decide_eq_false_iff_not]
    exact h
theorem used_ends {w : EWeb} (W : EW w) : Ends (used w) w.2 := fun e he => ⟨used_mem.mpr ⟨(W.ends e he).1, e, he, .inl rfl⟩, used_mem.mpr ⟨(W.ends e he).2, e, he, .inr rfl⟩⟩
theorem used_nd {w : EWeb} (W : EW w) : (used w).Nodup := W.nd.sublist List.filter_sublist
def outs (E : List (Str × Str)) (x : Str) : Nat := (E.filter fun e => eqB e.1 x).length
def ins (E : List (Str × Str)) (x : Str) : Nat := (E.filter fun e => eqB e.2 x).length
def Bal (w : EWeb) : Prop := ∀ x ∈ used w, outs w.2 x = ins w.2 x
instance (w : EWeb) : Decidable (Bal w) := inferInstanceAs (Decidable (∀ x ∈ used w, outs w.2 x = ins w.2 x))
theorem bal_step {E : List (Str × Str)} {x : Str} : m_is_even_L1 E x = if outs E x = ins E x then some (.nx ()) else some (.rt false) := by
  unfold m_is_even_L1
  have e : (eqB (lenI ((E.filter fun arrow => (eqB arrow.1 x)).map fun arrow => (1 : Int))) (lenI ((E.filter fun arrow_1 => (eqB arrow_1.2 x)).map fun arrow_1 => (1 : Int)))) = decide (outs E x = ins E x) := by
    rw [eqB_d]
    unfold lenI outs ins
    rw [List.length_map, List.length_map]
    congr 1
    exact propext ⟨fun h => by omega, fun h => by omega⟩
  rw [e]
  by_cases q : outs E x = ins E x
  · rw [decide_eq_true q, if_neg (by decide), if_pos q]
  · rw [decide_eq_false q, if_pos (by decide), if_neg q]
theorem bal_loop {E : List (Str × Str)} : ∀ (l : List Str), forC (σ := Unit) (ρρ := Bool) l () (fun s name => m_is_even_L1 E name) = if (∀ x ∈ l, outs E x = ins E x) then some (.nx ()) else some (.rt false)
  | [] => by rw [if_pos (fun x h => by cases h)]; rfl
  | x :: l => by
    have ih := bal_loop (E := E) l
    show (m_is_even_L1 E x).bind _ = _
    rw [bal_step]
    by_cases q : outs E x = ins E x
    · rw [if_pos q, Option.bind_some]
      refine ih.trans ?_
      by_cases q2 : ∀ y ∈ l, outs E y = ins E y
      · rw [if_pos q2, if_pos (fun y hy => (List.mem_cons.mp hy).elim (fun z => by rw [z]; exact q) (q2 y))]
      · rw [if_neg q2, if_neg fun z => q2 fun y hy => z y (List.mem_cons_of_mem _ hy)]
    · rw [if_neg q, if_neg fun z => q (z x List.mem_cons_self)]
      rfl
end LW
namespace LW
open PySem PySem.Spec PyProof.Rows L2 TR
theorem used_con {w : EWeb} (W : EW w) {x v : Str} (hv : v ∈ used w) (h : runE (fun x => x) w.2 x = runE (fun x => x) w.2 v) : x ∈ used w := by
  have := run_le (g := fun z => if z ∈ used w then ("a" : Str) else "b") (E := w.2) (lab := fun x => x) (fun e he => by
    have := used_ends W e he
    simp only [this.1, this.2]) (fun x y h => by rw [show x = y from h]) x v h
  rw [if_pos hv] at this
  exact Classical.byContradiction fun z => by
    rw [if_neg z] at this
    exact absurd this (by decide)
theorem is_even_eq {w : EWeb} (W : EW w) : ∃ b, m_is_even w = some b ∧ (b = true ↔ Bal w ∧ Conn (used w) w.2) := by
  unfold m_is_even m_used_web
  have hu : (w.1.filter fun name => (!eqB ((w.2.filter fun arrow => (inB name [arrow.1, arrow.2])).map fun arrow => arrow) ([] : (List (Str × Str))))).map (fun name => name) = used w := List.map_id' _
  rw [hu]
  show ∃ b, bindC (forC (used w) () (fun s name => m_is_even_L1 w.2 name)) (fun r => some r) _ = some b ∧ _
  have hb := bal_loop (E := w.2) (used w)
  by_cases q : Bal w
  · rw [show (forC (σ := Unit) (ρρ := Bool) (used w) () (fun s name => m_is_even_L1 w.2 name)) = some (.nx ()) from hb.trans (if_pos q)]
    show ∃ b, (Option.bind _ _) = some b ∧ _
    by_cases qe : used w = []
    · rw [if_pos (by rw [qe]; rfl)]
      refine ⟨true, rfl, ⟨fun _ => ⟨q, fun x hx => by rw [qe] at hx; cases hx⟩, fun _ => rfl⟩⟩
    · have hp := List.length_pos_iff.mpr qe
      rw [if_neg (by simp only [eqB_d, decide_eq_true_eq]; unfold lenI; omega)]
      obtain ⟨v, ev, _, hv⟩ := atI_lt (l := used w) (i := 0) (by omega) (by omega)
      obtain ⟨f, ef, hf⟩ := reach_ok W (used_mem.mp hv).1
      rw [ev]
      show ∃ b, ((m_reached_from w v).bind fun v_2 => some (eqB (lenI v_2) (lenI (used w)))).bind (fun v_3 => some v_3) = some b ∧ _
      rw [ef]
      refine ⟨_, rfl, ?_⟩
      have hm := reach_mem hf
      have hsub : ∀ x ∈ f, x ∈ used w := fun x hx => used_con W hv ((hm x).mp hx).2
      have hle : f.length ≤ (used w).length := List.Nodup.length_le_of_subset hf.nd hsub
      rw [eqB_d, decide_eq_true_eq]
      unfold lenI
      constructor
      · intro hl
        refine ⟨q, fun x hx y hy => ?_⟩
        have all : ∀ z ∈ used w, z ∈ f := fun z hz => Classical.byContradiction fun n => by
          have : (z :: f).length ≤ (used w).length := List.Nodup.length_le_of_subset (List.nodup_cons.mpr ⟨n, hf.nd⟩) (fun y hy => (List.mem_cons.mp hy).elim (fun e => by rw [e]; exact hz) (hsub y))
          rw [List.length_cons] at this
          omega
        rw [((hm x).mp (all x hx)).2, ((hm y).mp (all y hy)).2]
      · rintro ⟨_, hc⟩
        have : (used w).length ≤ f.length := List.Nodup.length_le_of_subset (used_nd W) fun x hx => (hm x).mpr ⟨(used_mem.mp hx).1, hc x hx v hv⟩
        omega
  · rw [show (forC (σ := Unit) (ρρ := Bool) (used w) () (fun s name => m_is_even_L1 w.2 name)) = some (.rt false) from hb.trans (if_neg q)]
    exact ⟨false, rfl, ⟨fun h => by (cases h), fun h => absurd h.1 q⟩⟩
end LW
namespace LW
open PySem PySem.Spec PyProof.Rows L2 TR
theorem minL_ok {l : List Str} (h : l ≠ []) : ∃ m, minL l = some m ∧ m ∈ l := by
  have key : ∀ (l : List Str) (a : Str), (l.foldl (fun a y => if PO.lt y a = true then y else a) a) ∈ a :: l := by
    intro l
    induction l with
    | nil => intro a; simp
    | cons x l ih =>
      intro a
      rw [List.foldl_cons]
      have := ih (if PO.lt x a = true then x else a)
      rcases List.mem_cons.mp this with h | h
      · rw [h]
        split
        · simp
        · simp
      · exact List.mem_cons_of_mem _ (List.mem_cons_of_mem _ h)
  cases l with
  | nil => exact absurd rfl h
  | cons a l => exact ⟨_, rfl, key l a⟩
theorem count_outs (E : List (Str × Str)) (x : Str) : (E.map fun e => e.1).count x = outs E x := by
  unfold outs
  induction E with
  | nil => rfl
  | cons e E ih =>
    rw [List.map_cons, List.count_cons, ih, List.filter_cons]
    by_cases q : e.1 = x
    · simp [q]
    · simp [q]
theorem count_ins (E : List (Str × Str)) (x : Str) : (E.map fun e => e.2).count x = ins E x := by
  unfold ins
  induction E with
  | nil => rfl
  | cons e E ih =>
    rw [List.map_cons, List.count_cons, ih, List.filter_cons]
    by_cases q : e.2 = x
    · simp [q]
    · simp [q]
theorem bal_sort {w : EWeb} (W : EW w) : sortL (w.2.map fun e => e.1) = sortL (w.2.map fun e => e.2) ↔ Bal w := by
  constructor
  · intro h x _
    have p : (w.2.map fun e => e.1).Perm (w.2.map fun e => e.2) := ((sortL_perm _).symm.trans (h ▸ List.Perm.refl _)).trans (sortL_perm _)
    rw [← count_outs, ← count_ins]
    exact p.count_eq x
  · intro h
    refine sortL_eq (List.perm_iff_count.mpr fun x => ?_)
    by_cases q : x ∈ used w
    · rw [count_outs, count_ins]
      exact h x q
    · rw [List.count_eq_zero_of_not_mem fun z => ?_, List.count_eq_zero_of_not_mem fun z => ?_]
      · obtain ⟨e, he, rfl⟩ := List.mem_map.mp z
        exact q (used_ends W e he).2
      · obtain ⟨e, he, rfl⟩ := List.mem_map.mp z
        exact q (used_ends W e he).1
end LW
namespace LW
open PySem PySem.Spec PyProof.Rows L2 TR
theorem law_even_eq {w : EWeb} (W : EW w) (hne : w.2 ≠ []) : ∃ b, m__law_is_even w = some b ∧ (b = true ↔ Bal w ∧ Conn (used w) w.2) := by
  have hu : m__law_used w = some (used w) := by
    unfold m__law_used
    exact congrArg some (List.map_id' _)
  have nd := used_nd W
  have hE := used_ends W
  have hl : (used w).length ≤ 100 := Nat.le_trans (List.Sublist.length_le List.filter_sublist) W.n2
  have hue : used w ≠ [] := by
    intro z
    obtain ⟨e, he⟩ := List.exists_mem_of_ne_nil _ hne
    have := (hE e he).1
    rw [z] at this
    cases this
  obtain ⟨m, em, hm⟩ := minL_ok hue
  unfold m__law_is_even
  rw [hu, Option.bind_some, dnew_mk (f := fun x : Str => x) nd, Option.bind_some, group_loop nd (by omega) w.2 (fun x => x) hE, Option.bind_some]
  show ∃ b, Option.bind _ _ = some b ∧ _
  have hs := bal_sort W
  by_cases q : Bal w
  · rw [if_pos (by rw [eqB_d]; exact decide_eq_true (hs.mpr q)), keys_mkD]
    have hc := compM_ok (p := fun name_2 => (dget (mkD (used w) (runJ (fun x => x) w.2)) name_2).bind fun v_6 => (minL (used w)).bind fun v_7 => (dget (mkD (used w) (runJ (fun x => x) w.2)) v_7).bind fun v_8 => some (!eqB v_6 v_8)) (f := fun name_2 : Str => some name_2)
      (q := fun x => !eqB (runJ (fun x => x) w.2 x) (runJ (fun x => x) w.2 m)) (g := fun x => x) (used w) (fun x hx => by rw [dget_mk hx, Option.bind_some, em, Option.bind_some, dget_mk hm]; rfl) (fun _ _ _ => rfl)
    rw [hc]
    refine ⟨_, rfl, ?_⟩
    rw [List.map_id', eqB_d, decide_eq_true_eq, List.filter_eq_nil_iff]
    constructor
    · intro h
      have all : ∀ x ∈ used w, runJ (fun x => x) w.2 x = runJ (fun x => x) w.2 m := fun x hx => by simpa using h x hx
      refine ⟨q, fun x hx y hy => ?_⟩
      exact runJ_le (g := runE (fun x => x) w.2) (E := w.2) (lab := fun x => x) (fun e he => run_edge he) (fun a b z => by rw [show a = b from z]) x y ((all x hx).trans (all y hy).symm)
    · rintro ⟨_, hcn⟩ x hx
      have := run_le (g := runJ (fun x => x) w.2) (E := w.2) (lab := fun x => x) (fun e he => runJ_edge he) (fun a b z => by rw [show a = b from z]) x m (hcn x hx m hm)
      simp [this]
  · rw [if_neg (by rw [eqB_d, decide_eq_false fun z => q (hs.mp z)]; decide)]
    exact ⟨false, rfl, ⟨fun h => by (cases h), fun h => absurd h.1 q⟩⟩
end LW
namespace LW
open PySem PySem.Spec PyProof.Rows L2 TR
theorem one_ok {w : EWeb} (W : EW w) : m_law_L2 w = some (.nx ()) := by
  obtain ⟨b, e1, h1⟩ := is_even_eq W
  have due : (if (eqB (lenI w.2) (0 : Int)) = true then some true else ((m__law_is_even w).bind fun v_7 => some v_7)) = some b := by
    by_cases q : w.2 = []
    · rw [if_pos (by rw [q]; rfl)]
      have hu : used w = [] := by
        refine List.eq_nil_iff_forall_not_mem.mpr fun x hx => ?_
        obtain ⟨_, e, he, _⟩ := used_mem.mp hx
        rw [q] at he
        cases he
      have : b = true := h1.mpr ⟨fun x hx => by (rw [hu] at hx; cases hx), fun x hx => by (rw [hu] at hx; cases hx)⟩
      rw [this]
    · have hp := List.length_pos_iff.mpr q
      rw [if_neg (by simp only [eqB_d, decide_eq_true_eq]; unfold lenI; omega)]
      obtain ⟨b2, e2, h2⟩ := law_even_eq W q
      rw [e2, Option.bind_some]
      congr 1
      rw [Bool.eq_iff_iff, h1, h2]
  unfold m_law_L2
  rw [due, Option.bind_some, e1, Option.bind_some, if_neg (by decide)]
  rw [if_neg (by simp)]
  show ((((some b).bind fun v_10 => some (!eqB v_10 b)).bind fun v_11 => some v_11).bind _) = _
  simp
theorem ew_of {w : EWeb} (W : EW w) {l : List (Str × Str)} (h : ∀ e ∈ l, e.1 ∈ w.1 ∧ e.2 ∈ w.1) (hl : l.length ≤ 100) : EW (w.1, l) := ⟨W.nd, W.n1, W.n2, hl, h⟩
theorem all_ok : ∀ (l : List EWeb), (∀ w ∈ l, EW w) → forC (σ := Unit) (ρρ := Bool) l () (fun s one => m_law_L2 one) = some (.nx ())
  | [], _ => rfl
  | w :: l, h => by
    have ih := all_ok l fun x hx => h x (List.mem_cons_of_mem _ hx)
    show (m_law_L2 w).bind _ = _
    rw [one_ok (h w List.mem_cons_self), Option.bind_some]
    exact ih
theorem cell_ok (c : Int) : m_law_L1 c = some (.nx ()) := by
  have main : Ok (m_law_L1 c) fun r => r = .nx () := by
    unfold m_law_L1
    obtain ⟨s, es⟩ := seed_ok c
    refine ok_bind (ok_eq es (ok_bind2 (web_ok.mono fun ⟨w, s1⟩ ⟨W, hw⟩ => ok_bnd (ok_bnd ?_))))
    dsimp only at W hw ⊢
    refine ok_bind2 (Ok.mono (P := fun r : (Int × Int × Int × Int) × List EWeb => ∀ x ∈ r.2, EW x) (ok_ite (fun hc => ?_) fun _ => ok_some fun x hx => by rw [List.mem_singleton.mp hx]; exact W) fun ⟨s2, l⟩ hl => ?_)
    · have hne : w.2 ≠ [] := by simpa using hc
      have hp := List.length_pos_iff.mpr hne
      refine ok_bind2 ((draw_ok (m := lenI w.2) (by unfold lenI; omega) (by unfold lenI; omega)).mono fun ⟨v3, s3⟩ ⟨a, b⟩ => ok_bnd ?_)
      dsimp only at a b ⊢
      obtain ⟨z, ez, _, hz⟩ := atI_lt (l := w.2) a b
      have c1 : (cutP w.2 (none : Option Int) (some v3)).length ≤ w.2.length := cutP_len
      have c2 : (cutP w.2 (some (v3 + (1 : Int))) (none : Option Int)).length ≤ w.2.length := cutP_len
      refine ok_bind (ok_eq (catG_ok (by omega)) (ok_bind (ok_eq (appG_ok (by simp)) (ok_bind (ok_eq ez (ok_bind (ok_eq (catG_ok (by simp; omega)) (ok_bind (ok_eq (appG_ok (by simp)) (ok_bind (ok_eq (appG_ok (by simp)) (ok_some ?_))))))))))))
      intro x hx
      simp only [List.mem_append, List.mem_singleton] at hx
      rcases hx with ((h | h) | h) | h
      · rw [h]; exact W
      · rw [h]
        refine ew_of W (fun e he => ?_) (by rw [List.length_append]; omega)
        rcases List.mem_append.mp he with q | q
        · exact W.ends e (cutP_sub.subset q)
        · exact W.ends e (cutP_sub.subset q)
      · rw [h]
        refine ew_of W (fun e he => ?_) (by rw [(sortL_perm _).length_eq, List.length_append]; simp; omega)
        rcases List.mem_append.mp ((sortL_perm _).mem_iff.mp he) with q | q
        · exact W.ends e q
        · rw [List.mem_singleton.mp q]; exact ⟨(W.ends z hz).2, (W.ends z hz).1⟩
      · rw [h]
        refine ew_of W (fun e he => ?_) (by rw [(sortL_perm _).length_eq, List.length_map]; omega)
        obtain ⟨e2, h2, rfl⟩ := List.mem_map.mp ((sortL_perm _).mem_iff.mp he)
        exact ⟨(W.ends e2 h2).2, (W.ends e2 h2).1⟩
    · dsimp only at hl ⊢
      rw [all_ok l hl]
      exact ok_some rfl
  obtain ⟨r, e, h⟩ := main
  rw [e, h]
end LW
namespace LW
open PySem PySem.Spec PyProof.Rows L2 TR
theorem cells_all : ∀ (l : List Int), forC (σ := Unit) (ρρ := Bool) l () (fun s cell => m_law_L1 cell) = some (.nx ())
  | [] => rfl
  | c :: l => by
    have ih := cells_all l
    show (m_law_L1 c).bind _ = _
    rw [cell_ok c, Option.bind_some]
    exact ih
theorem last1 : m_is_even ([("a" : Str)], ([] : List (Str × Str))) = some true := by decide +kernel
theorem last2 : m_is_even ([("a" : Str), ("b" : Str), ("c" : Str), ("d" : Str)], [(("a" : Str), ("b" : Str)), (("b" : Str), ("a" : Str)), (("c" : Str), ("d" : Str)), (("d" : Str), ("c" : Str))]) = some false := by decide +kernel
theorem m_law_ok (ns : List Int) (h : ns.length ≤ 63) : m_law ns = some true := by
  obtain ⟨v, e⟩ := cells_ok (k := 8) h
  unfold m_law
  rw [e, Option.bind_some, cells_all v]
  show (m_is_even ([("a" : Str)], ([] : List (Str × Str)))).bind _ = _
  rw [last1, Option.bind_some]
end LW
namespace LW
open PySem PySem.Spec PyProof.Rows L2 TR
theorem law_ok : LawOk fn_law := fun ns h => ⟨_, tie_law ns true (m_law_ok ns h)⟩
end LW
open PySem PySem.W PySem.Calls PyProof.Rows
theorem PySem.Challenge.cw_treerounds_k48_even_webs_holds : PySem.Challenge.rw_treerounds_k48_even_webs.Holds := by
  w_on; o_law
  refine HandSHeadRun.head_any (r := OpenLaw.row PySem.Challenge.rw_treerounds_k48_even_webs) (q := view (OpenLaw.row PySem.Challenge.rw_treerounds_k48_even_webs).prog [13]) (H := LW.hk) (ob := LW.ob) (M := 40000) (loose := LW.loose) (d := HandSHeadRun.topDef (OpenLaw.row PySem.Challenge.rw_treerounds_k48_even_webs).prog 13) (kwd := []) LW.ob_eq
    (by kernel_rfl) (fun s => by kernel_rfl) LW.run (by kernel_rfl) (by kernel_rfl) (by kernel_rfl) (by rfl) (by first | assumption | decide +kernel) (by decide +kernel) ⟨rfl, rfl, rfl, rfl, rfl, by decide +kernel⟩ ?hw ?hc
  case hw => w_witness2
  case hc =>
    refine TR.walk_w (l := PySem.Challenge.rw_treerounds_k48_even_webs) (n := 63) (k := 4) (x := "script") rfl (by decide) (by kernel_rfl) ⟨rfl, by decide, by decide⟩ ?F
    intro w mg fa h Y G hmg0
    obtain ⟨K, KX, c⟩ := Y
    have hmg : mg ("law" : PySem.Str) = some (.ref fa) := by
      have e : (HandSHeadRun.topDef (OpenLaw.row PySem.Challenge.rw_treerounds_k48_even_webs).prog 13).name = ("law" : PySem.Str) := by kernel_rfl
      rw [← e]
      exact hmg0
    obtain ⟨fd, hb, hF⟩ := LW.facts (P := (PySem.Challenge.rw_treerounds_k48_even_webs).prog) (w := w) KX G hmg c
    exact ⟨K, fd, TR.spF K mg LW.fn_law, KX, hb, fun H a ns hl ho hS => TR.law_sp LW.law_ok H a ns hl ho hS, hF⟩
