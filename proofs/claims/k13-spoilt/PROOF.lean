import PyProof.Rows.All
import Wide.All
import OpenK.AllK
import Wide.FinOn
import HandS.ForMost
import HandS.ForExc
import HandS.TupAny
import HandS.Deep
import HandS.IsInst
import HandS.Style
import HandS.Zip
import HandS.Conv
import KE.KDictKeyed
import HandS.Lambda
import HandS.ExcCtx
import HandS.HotCalls
import HandS.ExcIs
import PyProof.ZipIter
import PyProof.Draws
import HandS.TupMul
import PyProof.Rows.StrMul
import KE.KExcIs
import HandS.Text
import HandS.Defaults
import HandS.HeadHook1
import HandS.HeadHook2
import HandS.HeadHook3
import HandS.HeadHook4
import HandS.Words
import HandS.Head0
import HandS.Head1
import HandS.Head2
import HandS.HeadEnd
import HandS.HeadWalk
import KE.GoesMore
import HandS.CallLocal
import KE.KDictDisplayH
import HandS.ExcInit
import HandS.ExcField
import PySem.Challenge.RW_latestops_k13_texts_spoilt
set_option Elab.async false
set_option linter.all false
set_option maxRecDepth 100000
set_option maxHeartbeats 2000000
namespace Mi
open PySem PySem.Spec PyProof.Rows L2

/-- what a slot holds: data, a shared object (by its number in the store), a def of the text (by its name), the law's script -/
inductive Val where
  | pv (p : PyData) | loc (l : Nat) | fn (x : Str) | ro (xs : List PyData)
/-- a shared object; tab: the table of code objects at P (in which each lambda bears the name q) is known -/
inductive Ob where
  | lst (xs : List PyData) | dct (kvs : List (PyData × PyData)) | dead | tab (P : Addr) (q : Str)
abbrev Sto := List Ob
abbrev En := List (Option Val)
inductive Res (α : Type) where
  | ok (a : α) (S : Sto) | err (c : Str) (f : Option (Str × PyData)) (S : Sto) | bad
def Res.bind {α β : Type} (r : Res α) (k : α → Sto → Res β) : Res β := match r with
  | .ok a S => k a S
  | .err c f S => .err c f S
  | .bad => .bad
@[simp] theorem Res.bind_ok {α β : Type} (a : α) (S : Sto) (k : α → Sto → Res β) : (Res.ok a S).bind k = k a S := rfl
@[simp] theorem Res.bind_err {α β : Type} (c f S) (k : α → Sto → Res β) : (Res.err c f S).bind k = .err c f S := rfl
@[simp] theorem Res.bind_bad {α β : Type} (k : α → Sto → Res β) : (Res.bad : Res α).bind k = .bad := rfl
abbrev DE := En → Sto → Res Val
/-- the data that a value is now -/
def Val.get : Val → Sto → Option PyData
  | .pv p, _ => some p
  | .loc l, S => match S[l]? with
    | some (.lst xs) => some (.list xs)
    | some (.dct kvs) => some (.dict kvs)
    | _ => none
  | .fn _, _ => none
  | .ro _, _ => none
/-- .. also the script -/
def Val.getR : Val → Sto → Option PyData
  | .ro xs, _ => some (.list xs)
  | x, S => x.get S
@[simp] theorem Val.getR_pv (p : PyData) (S : Sto) : (Val.pv p).getR S = some p := rfl
@[simp] theorem Val.getR_ro (xs : List PyData) (S : Sto) : (Val.ro xs).getR S = some (.list xs) := rfl
@[simp] theorem Val.get_pv (p : PyData) (S : Sto) : (Val.pv p).get S = some p := rfl

/-- a dict's key -/
def keyOf : PyData → Option NestedKey
  | .none => some .none
  | .bool b => some (.num (if b then 1 else 0))
  | .int i => some (.num i)
  | .str x => some (.text x)
  | .tuple xs => (keysOf xs).map .tup
  | .list _ => none
  | .dict _ => none
where keysOf : List PyData → Option (List NestedKey)
  | [] => some []
  | x :: xs => (keyOf x).bind fun k => (keysOf xs).map fun ks => k :: ks

/-- where the shared objects stand; addresses that data keep away from; the tables of code objects -/
structure Mp where
  st : List (Option Addr)
  av : List Addr
  tb : List (Addr × Str) := []
def Mp.has (m : Mp) (a : Addr) : Prop := some a ∈ m.st ∨ a ∈ m.av
/-- a dict's entries, as they stand at its one object -/
structure DX where
  ep : Nat
  l : List (NestedKey × Addr × Value)
def DictO (P : Program) (w : World) (a : Addr) (xs : DX) : HO :=
  .ext fun h => ∃ o es, h.get? a = some o ∧ o.ExactDict ∧ o.data = .dict es xs.ep ∧ es.toList = xs.l.map (entryOfKey (nestedKind P w))

section
variable (P : Program) (w : World) (K : PySem.W.Frag) (m : Mp) (H : Hp)
mutual
/-- the value v is the data p, its lists and dicts apart from the shared objects -/
def Rep : PyData → V → Prop
  | .none, v => v = .non
  | .bool b, v => v = .bl b
  | .int i, v => v = .int i
  | .str x, v => v = .str x
  | .tuple xs, v => ∃ a us, v = .ref a ∧ SqT K H a us ∧ Reps xs us
  | .list xs, v => ∃ a us, v = .ref a ∧ H a = some (.lst us) ∧ ¬ m.has a ∧ Reps xs us
  | .dict kvs, v => ∃ a xs, v = .ref a ∧ ¬ m.has a ∧ H a = some (DictO P w a xs) ∧ (a == sysModules) = false ∧ xs.l.length ≤ sizeLine ∧ (xs.l.map (·.1)).Nodup ∧ RepK kvs xs.l
def Reps : List PyData → List V → Prop
  | [], us => us = []
  | x :: xs, us => ∃ u r, us = u :: r ∧ Rep x u ∧ Reps xs r
def RepK : List (PyData × PyData) → List (NestedKey × Addr × Value) → Prop
  | [], xs => xs = []
  | (k, v) :: kvs, xs => ∃ nk ka u uv r, xs = (nk, ka, u) :: r ∧ keyOf k = some nk ∧ nk.depth ≤ 8 ∧ Rep k (.ref ka) ∧ RelV uv u ∧ Rep v uv ∧ RepK kvs r
end
/-- a shared object at its address -/
def RepO (a : Addr) : Ob → Prop
  | .lst xs => ∃ us, H a = some (.lst us) ∧ Reps P w K m H xs us
  | .dct kvs => ∃ xs, H a = some (DictO P w a xs) ∧ (a == sysModules) = false ∧ xs.l.length ≤ sizeLine ∧ (xs.l.map (·.1)).Nodup ∧ RepK P w K m H kvs xs.l
  | .dead => False
  | .tab _ _ => False
/-- what stands nowhere -/
def Gst : Ob → Prop
  | .dead => True
  | .tab P q => (P, q) ∈ m.tb ∧ ∀ p ∈ m.tb, p.1 = P → p.2 = q
  | _ => False
structure RepS (S : Sto) : Prop where
  len : m.st.length = S.length
  av : ∀ a, a ∈ m.av → some a ∉ m.st ∧ ∃ o, H a = some o ∧ ∀ ps, o ≠ .tbl ps
  tabs : LamX.Tabs m.tb H
  nd : ∀ (i j : Nat) (a : Addr), m.st[i]? = some (some a) → m.st[j]? = some (some a) → i = j
  ob : ∀ (l : Nat) (o : Ob), S[l]? = some o → (Gst m o ∧ m.st[l]? = some none) ∨ ∃ a, m.st[l]? = some (some a) ∧ RepO P w K m H a o
/-- a slot's or an argument's value -/
def RepV (mg : Str → Option Value) : Val → V → Prop
  | .pv p, v => Rep P w K m H p v
  | .loc l, v => l < m.st.length ∧ ∀ a : Addr, m.st[l]? = some (some a) → v = .ref a
  | .fn x, v => ∃ f, mg x = some (.ref f) ∧ v = .ref f
  | .ro xs, v => ∃ a us, v = .ref a ∧ (Rd H a (.lst us) ∧ ¬ m.has a ∨ ∀ H, SqL K H a us) ∧ Reps P w K m H xs us
def RepVs (mg : Str → Option Value) : List Val → List V → Prop
  | [], us => us = []
  | x :: xs, us => ∃ u r, us = u :: r ∧ RepV P w K m H mg x u ∧ RepVs mg xs r
structure RepE (mg : Str → Option Value) (ρ : En) (σ : L2.St) : Prop where
  len : ρ.length = σ.length
  at_ : ∀ (i : Nat) (x : Val), ρ[i]? = some (some x) → ∃ v, σ[i]? = some (some v) ∧ RepV P w K m H mg x v
end

/-- nothing stands at a, or a table -/
def Nd (H : Hp) (a : Addr) : Prop := ∀ o, H a = some o → ∃ ps, o = .tbl ps
theorem Nd.of {H : Hp} {a : Addr} (h : H a = none) : Nd H a := fun o e => by rw [h] at e; cases e
/-- how the abstract heap may go on: all but the shared objects and the tables stay -/
structure Ext (m : Mp) (H : Hp) (m' : Mp) (H' : Hp) : Prop where
  keep : ∀ a o, H a = some o → some a ∉ m.st → (∀ ps, o ≠ .tbl ps) → H' a = some o
  fresh : ∀ a, some a ∈ m'.st → some a ∈ m.st ∨ Nd H a
  frA : ∀ a, a ∈ m'.av → m.has a ∨ Nd H a
  avs : ∀ a, a ∈ m.av → a ∈ m'.av
  tbs : m'.tb = m.tb
  len : m.st.length ≤ m'.st.length
  pre : ∀ (l : Nat) (a : Addr), l < m.st.length → m'.st[l]? = some (some a) → m.st[l]? = some (some a)
theorem Ext.refl (m : Mp) (H : Hp) : Ext m H m H := ⟨fun _ _ h _ _ => h, fun _ h => .inl h, fun _ h => .inl (.inr h), fun _ h => h, rfl, Nat.le_refl _, fun _ _ _ h => h⟩
theorem Ext.gone {m m' : Mp} {H H' : Hp} (a : Ext m H m' H') {x : Addr} (h : Nd H' x) : some x ∈ m.st ∨ Nd H x := by
  by_cases hm : some x ∈ m.st
  · exact .inl hm
  · refine .inr fun o e => ?_
    by_cases t : ∃ ps, o = .tbl ps
    · exact t
    · exact h o (a.keep x o e hm fun ps z => t ⟨ps, z⟩)
theorem Ext.trans {m m1 m2 : Mp} {H H1 H2 : Hp} (a : Ext m H m1 H1) (b : Ext m1 H1 m2 H2) : Ext m H m2 H2 where
  keep := fun x o e n t => by
    have e1 := a.keep x o e n t
    refine b.keep x o e1 (fun h => ?_) t
    rcases a.fresh x h with h | h
    · exact n h
    · obtain ⟨ps, z⟩ := h o e; exact t ps z
  fresh := fun x h => by
    rcases b.fresh x h with h | h
    · exact a.fresh x h
    · exact a.gone h
  frA := fun x h => by
    rcases b.frA x h with (h | h) | h
    · rcases a.fresh x h with h | h
      · exact .inl (.inl h)
      · exact .inr h
    · exact a.frA x h
    · rcases a.gone h with h | h
      · exact .inl (.inl h)
      · exact .inr h
  avs := fun x h => b.avs x (a.avs x h)
  tbs := b.tbs.trans a.tbs
  len := Nat.le_trans a.len b.len
  pre := fun l x hl h => a.pre l x hl (b.pre l x (Nat.lt_of_lt_of_le hl a.len) h)
/-- everything that stood stands, m as it was -/
theorem Ext.same {m : Mp} {H H' : Hp} (h : ∀ a o, H a = some o → H' a = some o) : Ext m H m H' := ⟨fun a o e _ _ => h a o e, fun _ h => .inl h, fun _ h => .inl (.inr h), fun _ h => h, rfl, Nat.le_refl _, fun _ _ _ h => h⟩
theorem Ext.upd {m : Mp} {H : Hp} {p : Addr} {o : HO} (h : H p = none) : Ext m H m (upd H p o) := .same fun a u e => by rw [upd_ne (ne_of_none e h)]; exact e

section
variable {P : Program} {w : World} {K : PySem.W.Frag} {m m' : Mp} {H H' : Hp} {mg : Str → Option Value}
theorem SqT.go {a : Addr} {us : List V} (h : SqT K H a us) (k : ∀ o, H a = some o → (∀ ps, o ≠ .tbl ps) → (∀ xs, o ≠ .lst xs) → (∀ φ, o ≠ .ext φ) → H' a = some o) : SqT K H' a us := by
  rcases h with (h | ⟨o, h⟩) | h
  · exact .inl (.inl (k _ h (fun _ z => by cases z) (fun _ z => by cases z) fun _ z => by cases z))
  · exact .inl (.inr ⟨o, k _ h (fun _ z => by cases z) (fun _ z => by cases z) fun _ z => by cases z⟩)
  · exact .inr h
theorem SqL.go {a : Addr} {us : List V} (h : SqL K H a us) (k : ∀ o, H a = some o → (∀ ps, o ≠ .tbl ps) → H' a = some o) : SqL K H' a us := by
  rcases h with (h | ⟨o, h⟩) | h
  · exact .inl (.inl (k _ h fun _ z => by cases z))
  · exact .inl (.inr ⟨o, k _ h fun _ z => by cases z⟩)
  · exact .inr h
/-- what stands at the shared objects' addresses -/
def MOk (m : Mp) (H : Hp) : Prop := ∀ a, some a ∈ m.st → (∃ us, H a = some (.lst us)) ∨ ∃ φ, H a = some (.ext φ)
theorem RepS.at_ {S : Sto} (r : RepS P w K m H S) {l : Nat} {a : Addr} {o : Ob} (h1 : m.st[l]? = some (some a)) (h2 : S[l]? = some o) : RepO P w K m H a o := by
  rcases r.ob l o h2 with ⟨_, q⟩ | ⟨b, q, z⟩
  · rw [h1] at q; cases q
  · rw [h1] at q; cases q; exact z
theorem RepS.mok {S : Sto} (r : RepS P w K m H S) : MOk m H := fun a h => by
  obtain ⟨l, hl⟩ := List.mem_iff_getElem?.mp h
  have h1 : l < S.length := by rw [← r.len]; exact (List.getElem?_eq_some_iff.mp hl).1
  have q := r.at_ hl (List.getElem?_eq_getElem h1)
  revert q
  cases S[l] with
  | lst xs => rintro ⟨us, e, _⟩; exact .inl ⟨us, e⟩
  | dct kvs => rintro ⟨xs, e, _⟩; exact .inr ⟨_, e⟩
  | dead => exact fun z => z.elim
  | tab _ _ => exact fun z => z.elim
/-- how a reading of data may go on -/
structure Go (P : Program) (w : World) (K : PySem.W.Frag) (m : Mp) (H : Hp) (m' : Mp) (H' : Hp) : Prop where
  tup : ∀ a us, SqT K H a us → SqT K H' a us
  lst : ∀ a us, H a = some (.lst us) → ¬ m.has a → H' a = some (.lst us) ∧ ¬ m'.has a
  dct : ∀ a xs, H a = some (DictO P w a xs) → ¬ m.has a → H' a = some (DictO P w a xs) ∧ ¬ m'.has a
section
variable (g : Go P w K m H m' H')
include g
mutual
theorem Rep.go : ∀ (p : PyData) (v : V), Rep P w K m H p v → Rep P w K m' H' p v
  | .none, _, h => h
  | .bool _, _, h => h
  | .int _, _, h => h
  | .str _, _, h => h
  | .tuple xs, v, ⟨a, us, e, q, r⟩ => ⟨a, us, e, g.tup a us q, Reps.go xs us r⟩
  | .list xs, v, ⟨a, us, e, q, n, r⟩ => ⟨a, us, e, (g.lst a us q n).1, (g.lst a us q n).2, Reps.go xs us r⟩
  | .dict kvs, v, ⟨a, xs, e, n, q, y, z, d, r⟩ => ⟨a, xs, e, (g.dct a xs q n).2, (g.dct a xs q n).1, y, z, d, RepK.go kvs xs.l r⟩
theorem Reps.go : ∀ (ps : List PyData) (us : List V), Reps P w K m H ps us → Reps P w K m' H' ps us
  | [], _, h => h
  | p :: ps, _, ⟨u, r, e, h1, h2⟩ => ⟨u, r, e, Rep.go p u h1, Reps.go ps r h2⟩
theorem RepK.go : ∀ (kvs : List (PyData × PyData)) (xs : List (NestedKey × Addr × Value)), RepK P w K m H kvs xs → RepK P w K m' H' kvs xs
  | [], _, h => h
  | (k, v) :: kvs, _, ⟨nk, ka, u, uv, r, e, e1, e2, h1, e3, h2, h3⟩ => ⟨nk, ka, u, uv, r, e, e1, e2, Rep.go k _ h1, e3, Rep.go v uv h2, RepK.go kvs r h3⟩
end
end
theorem Go.of (mo : MOk m H) (x : Ext m H m' H') : Go P w K m H m' H' where
  tup := fun a us h => SqT.go h fun o e t l y => x.keep a o e (fun z => by
    rcases mo a z with ⟨us, q⟩ | ⟨φ, q⟩
    · rw [q] at e; cases e; exact l _ rfl
    · rw [q] at e; cases e; exact y _ rfl) t
  lst := fun a us h n => ⟨x.keep a _ h (fun z => n (.inl z)) (fun _ z => by cases z), fun z => by
    rcases z with z | z
    · rcases x.fresh a z with z | z
      · exact n (.inl z)
      · obtain ⟨_, y⟩ := z _ h; (first | cases y | (unfold DictO at y; cases y))
    · rcases x.frA a z with z | z
      · exact n z
      · obtain ⟨_, y⟩ := z _ h; (first | cases y | (unfold DictO at y; cases y))⟩
  dct := fun a xs h n => ⟨x.keep a _ h (fun z => n (.inl z)) fun _ z => (by unfold DictO at z; cases z), fun z => by
    rcases z with z | z
    · rcases x.fresh a z with z | z
      · exact n (.inl z)
      · obtain ⟨_, y⟩ := z _ h; (first | cases y | (unfold DictO at y; cases y))
    · rcases x.frA a z with z | z
      · exact n z
      · obtain ⟨_, y⟩ := z _ h; (first | cases y | (unfold DictO at y; cases y))⟩
theorem Go.less (h : ∀ a, m'.has a → m.has a) : Go P w K m H m' H := ⟨fun _ _ q => q, fun _ _ q n => ⟨q, fun z => n (h _ z)⟩, fun _ _ q n => ⟨q, fun z => n (h _ z)⟩⟩
theorem RepV.ext {x : Val} {v : V} (h : RepV P w K m H mg x v) (mo : MOk m H) (e : Ext m H m' H') : RepV P w K m' H' mg x v := by
  cases x with
  | pv p => exact Rep.go (Go.of mo e) p v h
  | loc l => exact ⟨Nat.lt_of_lt_of_le h.1 e.len, fun a q => h.2 a (e.pre l a h.1 q)⟩
  | fn x => exact h
  | ro xs =>
    obtain ⟨a, us, e1, q, r⟩ := h
    refine ⟨a, us, e1, ?_, Reps.go (Go.of mo e) xs us r⟩
    rcases q with ⟨q, n⟩ | q
    · have n' : some a ∉ m.st := fun z => n (.inl z)
      refine .inl ⟨?_, fun z => ?_⟩
      · rcases q with q | ⟨o, q⟩
        · exact .inl (e.keep a _ q n' fun _ z => by cases z)
        · exact .inr ⟨o, e.keep a _ q n' fun _ z => by cases z⟩
      · rcases z with z | z
        · rcases e.fresh a z with z | z
          · exact n' z
          · rcases q with q | ⟨o, q⟩ <;> (obtain ⟨_, y⟩ := z _ q; cases y)
        · rcases e.frA a z with z | z
          · exact n z
          · rcases q with q | ⟨o, q⟩ <;> (obtain ⟨_, y⟩ := z _ q; cases y)
    · exact .inr q
theorem RepVs.ext (mo : MOk m H) (e : Ext m H m' H') : ∀ (xs : List Val) (us : List V), RepVs P w K m H mg xs us → RepVs P w K m' H' mg xs us
  | [], _, h => h
  | x :: xs, _, ⟨u, r, q, h1, h2⟩ => ⟨u, r, q, RepV.ext h1 mo e, RepVs.ext mo e xs r h2⟩
theorem RepE.ext {ρ : En} {σ : L2.St} (h : RepE P w K m H mg ρ σ) (mo : MOk m H) (e : Ext m H m' H') : RepE P w K m' H' mg ρ σ :=
  ⟨h.len, fun i x q => by
    obtain ⟨v, e1, r⟩ := h.at_ i x q
    exact ⟨v, e1, RepV.ext r mo e⟩⟩
/-- the store stays where every tracked thing stays (and new things come) -/
theorem RepS.same {S : Sto} (r : RepS P w K m H S) (k : ∀ a o, H a = some o → H' a = some o) : RepS P w K m H' S where
  len := r.len
  av := fun a h => ⟨(r.av a h).1, let ⟨o, e, n⟩ := (r.av a h).2; ⟨o, k a o e, n⟩⟩
  tabs := r.tabs.ext k
  nd := r.nd
  ob := fun l o h2 => by
    have g : Go P w K m H m H' := Go.of r.mok (Ext.same k)
    rcases r.ob l o h2 with q | ⟨a, h1, q⟩
    · exact .inl q
    refine .inr ⟨a, h1, ?_⟩
    cases o with
    | lst xs => obtain ⟨us, e, q⟩ := q; exact ⟨us, k _ _ e, Reps.go g xs us q⟩
    | dct kvs => obtain ⟨xs, e, y, z, d, q⟩ := q; exact ⟨xs, k _ _ e, y, z, d, RepK.go g kvs xs.l q⟩
    | dead => exact q
    | tab _ _ => exact q
theorem RepS.upd {S : Sto} {p : Addr} {o : HO} (r : RepS P w K m H S) (h : H p = none) : RepS P w K m (upd H p o) S := r.same fun a u e => by rw [upd_ne (ne_of_none e h)]; exact e
theorem RepS.notin {S : Sto} {p : Addr} (r : RepS P w K m H S) (h : H p = none) : ¬ m.has p := fun z => by
  rcases z with z | z
  · rcases r.mok p z with ⟨_, q⟩ | ⟨_, q⟩ <;> rw [h] at q <;> cases q
  · obtain ⟨o, e, _⟩ := (r.av p z).2
    rw [h] at e; cases e
end

/-- the context's fixed parts -/
structure Gx where
  P : Program
  w : World
  K : PySem.W.Frag
  mg : Str → Option Value
abbrev Gx.of (X : Cx) : Gx := ⟨X.prog, X.w, X.K, X.mg⟩
section
variable (G : Gx)
/-- an exception: of the class that the text calls c, with the one field f -/
def RepX (m : Mp) (H : Hp) (c : Str) (f : Option (Str × PyData)) (cls : Value) (d : Option Addr) : Prop :=
  ∃ C, G.mg c = some (.ref C) ∧ cls = .ref C ∧ match f with
    | none => d = none
    | some (n, p) => ∃ dx v, d = some dx ∧ H dx = some (.xd [(n, v)]) ∧ Rep G.P G.w G.K m H p v
def PostE (W : WX) (σ : L2.St) (m : Mp) (H : Hp) (r : Res Val) (Q : VK) : Prop := match r with
  | .ok p S => ∀ m' H' v, Ext m H m' H' → RepS G.P G.w G.K m' H' S → RepV G.P G.w G.K m' H' G.mg p v → Q v H'
  | .err c f S => ∀ m' H' cls d, Ext m H m' H' → RepS G.P G.w G.K m' H' S → RepX G m' H' c f cls d → W cls d σ H'
  | .bad => False
/-- the state's reading -/
structure Rd0 (m : Mp) (ρ : En) (S : Sto) (σ : L2.St) (H : Hp) : Prop where
  e : RepE G.P G.w G.K m H G.mg ρ σ
  s : RepS G.P G.w G.K m H S
/-- an expression's reading: D is what it makes of the slots and the store -/
def tev (W : WX) (D : DE) : TE := fun σ H Q => ∃ m ρ S, Rd0 G m ρ S σ H ∧ PostE G W σ m H (D ρ S) Q
variable {G}
theorem Rd0.ext {m m' : Mp} {ρ : En} {S S' : Sto} {σ : L2.St} {H H' : Hp} (r : Rd0 G m ρ S σ H) (e : Ext m H m' H') (s : RepS G.P G.w G.K m' H' S') : Rd0 G m' ρ S' σ H' := ⟨r.e.ext r.s.mok e, s⟩
theorem PostE.ext {W : WX} {σ : L2.St} {m m' : Mp} {H H' : Hp} {r : Res Val} {Q : VK} (h : PostE G W σ m H r Q) (e : Ext m H m' H') : PostE G W σ m' H' r Q := by
  cases r with
  | ok p S => exact fun m2 H2 v e2 s r => h m2 H2 v (e.trans e2) s r
  | err c f S => exact fun m2 H2 cls d e2 s r => h m2 H2 cls d (e.trans e2) s r
  | bad => exact h
/-- first a part, then what is made of its value -/
theorem PostE.bind {W : WX} {σ : L2.St} {m : Mp} {H : Hp} {r : Res Val} {k : Val → Sto → Res Val} {Q : VK} (h : PostE G W σ m H (r.bind k) Q) :
    PostE G W σ m H r fun v H1 => ∃ m1 S1 p, Ext m H m1 H1 ∧ RepS G.P G.w G.K m1 H1 S1 ∧ RepV G.P G.w G.K m1 H1 G.mg p v ∧ PostE G W σ m1 H1 (k p S1) Q := by
  cases r with
  | ok p S => exact fun m1 H1 v e s rp => ⟨m1, S, p, e, s, rp, PostE.ext h e⟩
  | err c f S => exact h
  | bad => exact h
end
end Mi
set_option maxHeartbeats 2000000
namespace Mi
open PySem PySem.Spec PyProof.Rows L2

section
variable {P : Program} {w : World} {K : PySem.W.Frag} {m m' : Mp} {H H' : Hp} {mg : Str → Option Value}
/-- a value read now: a list or dict may be a shared object -/
def RepT (P : Program) (w : World) (K : PySem.W.Frag) (m : Mp) (H : Hp) : PyData → V → Prop
  | .list xs, v => ∃ a us, v = .ref a ∧ H a = some (.lst us) ∧ Reps P w K m H xs us
  | .dict kvs, v => ∃ a xs, v = .ref a ∧ H a = some (DictO P w a xs) ∧ (a == sysModules) = false ∧ xs.l.length ≤ sizeLine ∧ (xs.l.map (·.1)).Nodup ∧ RepK P w K m H kvs xs.l
  | p, v => Rep P w K m H p v
theorem RepT.of : ∀ {p : PyData} {v : V}, Rep P w K m H p v → RepT P w K m H p v
  | .none, _, h => h
  | .bool _, _, h => h
  | .int _, _, h => h
  | .str _, _, h => h
  | .tuple _, _, h => h
  | .list _, _, ⟨a, us, e, q, _, r⟩ => ⟨a, us, e, q, r⟩
  | .dict _, _, ⟨a, xs, e, _, q⟩ => ⟨a, xs, e, q⟩
theorem peek {S : Sto} {x : Val} {v : V} {p : PyData} (h : RepV P w K m H mg x v) (r : RepS P w K m H S) (e : x.get S = some p) : RepT P w K m H p v := by
  cases x with
  | pv q => simp only [Val.get, Option.some.injEq] at e; subst e; exact .of h
  | fn x => simp [Val.get] at e
  | ro x => simp [Val.get] at e
  | loc l =>
    obtain ⟨hl, ha⟩ := h
    have h1 : l < S.length := by rw [← r.len]; exact hl
    simp only [Val.get, List.getElem?_eq_getElem h1] at e
    rcases r.ob l S[l] (List.getElem?_eq_getElem h1) with ⟨z, _⟩ | ⟨a, ea, q⟩
    · revert z e
      cases S[l] with
      | lst xs => exact fun _ z => z.elim
      | dct xs => exact fun _ z => z.elim
      | dead => exact fun z _ => by cases z
      | tab _ _ => exact fun z _ => by cases z
    · have ev := ha a ea
      subst ev
      revert q e
      cases S[l] with
      | lst xs =>
        intro e q
        simp only [Option.some.injEq] at e; subst e
        obtain ⟨us, h, q⟩ := q
        exact ⟨a, us, rfl, h, q⟩
      | dct kvs =>
        intro e q
        simp only [Option.some.injEq] at e; subst e
        obtain ⟨xs, h, q⟩ := q
        exact ⟨a, xs, rfl, h, q⟩
      | dead => intro e; cases e
      | tab _ _ => intro e; cases e
theorem Reps.length : ∀ {ps : List PyData} {us : List V}, Reps P w K m H ps us → ps.length = us.length
  | [], _, h => by cases h; rfl
  | p :: ps, _, ⟨u, r, e, _, h⟩ => by subst e; simp [Reps.length h]
theorem Reps.get : ∀ {ps : List PyData} {us : List V} (i : Nat) {p : PyData}, Reps P w K m H ps us → ps[i]? = some p → ∃ u, us[i]? = some u ∧ Rep P w K m H p u
  | [], _, _, _, _, e => by simp at e
  | p :: ps, _, 0, _, ⟨u, r, e, h1, h2⟩, q => by simp at q; subst q; subst e; exact ⟨u, rfl, h1⟩
  | p :: ps, _, i + 1, _, ⟨u, r, e, h1, h2⟩, q => by
    subst e
    obtain ⟨z, e1, r1⟩ := Reps.get i h2 (by simpa using q)
    exact ⟨z, by simpa using e1, r1⟩
theorem Reps.append : ∀ {ps qs : List PyData} {us vs : List V}, Reps P w K m H ps us → Reps P w K m H qs vs → Reps P w K m H (ps ++ qs) (us ++ vs)
  | [], _, _, _, h, h' => by cases h; exact h'
  | p :: ps, _, _, _, ⟨u, r, e, h1, h2⟩, h' => by subst e; exact ⟨u, _, rfl, h1, Reps.append h2 h'⟩
theorem Reps.drop : ∀ {ps : List PyData} {us : List V} (n : Nat), Reps P w K m H ps us → Reps P w K m H (ps.drop n) (us.drop n)
  | _, _, 0, h => by simpa using h
  | [], _, n + 1, h => by cases h; simp; rfl
  | p :: ps, _, n + 1, ⟨u, r, e, h1, h2⟩ => by subst e; simpa using Reps.drop n h2
theorem Reps.take : ∀ {ps : List PyData} {us : List V} (n : Nat), Reps P w K m H ps us → Reps P w K m H (ps.take n) (us.take n)
  | _, _, 0, h => by simp; rfl
  | [], _, n + 1, h => by cases h; simp; rfl
  | p :: ps, _, n + 1, ⟨u, r, e, h1, h2⟩ => by subst e; simp only [List.take_succ_cons]; exact ⟨u, _, rfl, h1, Reps.take n h2⟩
mutual
theorem Rep.dp : ∀ (p : PyData) (v : V), p.canLay0 = true → Rep P w K m H p v → Dp K H v p
  | .none, v, _, h => by cases h; exact .non
  | .bool b, v, _, h => by cases h; exact .bl b
  | .int i, v, _, h => by cases h; exact .int i
  | .str x, v, _, h => by cases h; exact .str x
  | .tuple xs, v, c, ⟨a, us, e, q, r⟩ => by subst e; exact .tup q (Reps.dp xs us (by simpa [PyData.canLay0] using c) r)
  | .list xs, v, c, ⟨a, us, e, q, _, r⟩ => by subst e; exact .lst (SqL.of q) (Reps.dp xs us (by simpa [PyData.canLay0] using c) r)
  | .dict _, v, c, _ => by simp [PyData.canLay0] at c
theorem Reps.dp : ∀ (ps : List PyData) (us : List V), PyData.canLayAll0 ps = true → Reps P w K m H ps us → DpAll K H us ps
  | [], _, _, h => by cases h; exact .nil
  | p :: ps, _, c, ⟨u, r, e, h1, h2⟩ => by
    subst e
    simp only [PyData.canLayAll0, Bool.and_eq_true] at c
    exact .cons (Rep.dp p u c.1 h1) (Reps.dp ps r c.2 h2)
end
theorem RepT.dp {p : PyData} {v : V} (c : p.canLay0 = true) (h : RepT P w K m H p v) : Dp K H v p := by
  cases p with
  | list xs => obtain ⟨a, us, e, q, r⟩ := h; subst e; exact .lst (SqL.of q) (Reps.dp xs us (by simpa [PyData.canLay0] using c) r)
  | dict kvs => simp [PyData.canLay0] at c
  | none => exact Rep.dp (P := P) (w := w) (m := m) .none v c h
  | bool b => exact Rep.dp (P := P) (w := w) (m := m) (.bool b) v c h
  | int b => exact Rep.dp (P := P) (w := w) (m := m) (.int b) v c h
  | str b => exact Rep.dp (P := P) (w := w) (m := m) (.str b) v c h
  | tuple b => exact Rep.dp (P := P) (w := w) (m := m) (.tuple b) v c h
end

def shp (p : PyData) : Bool := SeqAt.shaped p
abbrev szOk (n : Nat) : Bool := decide (n ≤ 16777216)
def opAdd : PyData → PyData → Option PyData
  | .int i, .int j => some (.int (i + j))
  | .str x, .str y => if szOk (x.length + y.length) then some (.str (x ++ y)) else none
  | .tuple xs, .tuple ys => if szOk (xs.length + ys.length) then some (.tuple (xs ++ ys)) else none
  | .list xs, .list ys => if szOk (xs.length + ys.length) then some (.list (xs ++ ys)) else none
  | _, _ => none
def opSub : PyData → PyData → Option PyData
  | .int i, .int j => some (.int (i - j))
  | _, _ => none
/- bounds by natAbs: Nat.ble on an unknown stops at once, Int.sub of a large number does not -/
def opMul : PyData → PyData → Option PyData
  | .int i, .int j => if decide (i.natAbs < 2 ^ 64) || decide (j.natAbs < 2 ^ 64) then some (.int (i * j)) else none
  | .list xs, .int k => if decide (k.natAbs < 2 ^ 63) && szOk (xs.length * k.toNat) then some (.list (List.replicate k.toNat xs).flatten) else none
  | .tuple xs, .int k => if decide (k.natAbs ≤ 1000) && decide (xs.length ≤ 1000) then some (.tuple (List.replicate k.toNat xs).flatten) else none
  | .str x, .int k => if decide (k.natAbs ≤ 1000) && decide (x.length ≤ 1000) then some (.str (PySem.Txt.mul x k)) else none
  | _, _ => none
def opDiv : PyData → PyData → Option PyData
  | .int i, .int j => if decide (0 < j) && decide (j < 1073741824) then some (.int (i / j)) else none
  | _, _ => none
def opMod : PyData → PyData → Option PyData
  | .int i, .int j => if 0 < j then some (.int (i % j)) else none
  | _, _ => none
def opPow : PyData → PyData → Option PyData
  | .int i, .int j => if decide (0 ≤ j) && decide (j ≤ 1000000) && decide (i.natAbs < 2 ^ 64) then some (.int (i ^ j.toNat)) else none
  | _, _ => none
def opEq (p q : PyData) : Option PyData := if shp p && shp q then some (.bool (PyData.eqv p q)) else none
def opNe (p q : PyData) : Option PyData := if shp p && shp q then some (.bool (!PyData.eqv p q)) else none
def opLt : PyData → PyData → Option PyData
  | .int i, .int j => some (.bool (decide (i < j)))
  | _, _ => none
def opLe : PyData → PyData → Option PyData
  | .int i, .int j => some (.bool (decide (i ≤ j)))
  | _, _ => none
def opGt : PyData → PyData → Option PyData
  | .int i, .int j => some (.bool (decide (j < i)))
  | _, _ => none
def opGe : PyData → PyData → Option PyData
  | .int i, .int j => some (.bool (decide (j ≤ i)))
  | _, _ => none
/-- a dict's key: a tuple, eight deep at most -/
def dkey : PyData → Option NestedKey
  | .tuple xs => match keyOf (.tuple xs) with
    | some k => if k.depth ≤ 8 then some k else none
    | none => none
  | _ => none
def dfind (kvs : List (PyData × PyData)) (k : NestedKey) : Option PyData := (kvs.find? fun kv => decide (keyOf kv.1 = some k)).map (·.2)
def inOf (p : PyData) : PyData → Option Bool
  | .list ys => if shp p && shp (.list ys) then some (ys.any fun z => PyData.eqv z p) else none
  | .tuple ys => if shp p && shp (.tuple ys) then some (ys.any fun z => PyData.eqv z p) else none
  | .dict kvs => (dkey p).map fun k => (dfind kvs k).isSome
  | _ => none
def opIn (p q : PyData) : Option PyData := (inOf p q).map .bool
def opNotIn (p q : PyData) : Option PyData := (inOf p q).map fun b => .bool !b
def opIs : PyData → PyData → Option PyData
  | p, .none => some (.bool (match p with | .none => true | _ => false))
  | .bool a, .bool b => some (.bool (decide (a = b)))
  | _, _ => none
def opIsNot : PyData → PyData → Option PyData
  | p, .none => some (.bool (match p with | .none => false | _ => true))
  | .bool a, .bool b => some (.bool (!decide (a = b)))
  | _, _ => none

section
variable {X : Cx}
/-- what a rule for an operation asks -/
def rOf (X : Cx) (op : PyData → PyData → Option PyData) : R2 := fun u v H Q => ∃ m S p q z, RepS X.prog X.w X.K m H S ∧ RepT X.prog X.w X.K m H p u ∧ RepT X.prog X.w X.K m H q v ∧ op p q = some z ∧
  ∀ m' H' w, Ext m H m' H' → RepS X.prog X.w X.K m' H' S → Rep X.prog X.w X.K m' H' z w → Q w H'
abbrev Op2 (X : Cx) (f : Value → Value → Sem Value) (op : PyData → PyData → Option PyData) : Prop := OpR X f (rOf X op)
theorem sz_of {n : Nat} (h : szOk n = true) : n ≤ sizeLine := by rw [sizeLine_eq]; exact of_decide_eq_true h

theorem oAdd : Op2 X (binaryOp .Add) opAdd := by
  intro pins s σ H x y v u Q I rx ry ⟨m, S, p, q, z, rs, rp, rq, e, k⟩
  unfold opAdd at e
  split at e
  · cases e; cases rp; cases rq
    exact op_add pins s σ H _ _ v u Q I rx ry ⟨_, _, rfl, rfl, k m H _ (Ext.refl _ _) rs rfl⟩
  · split at e
    · rename_i hz
      cases e; cases rp; cases rq
      exact op_add_str pins s σ H _ _ v u Q I rx ry ⟨_, _, rfl, rfl, sz_of hz, k m H _ (Ext.refl _ _) rs rfl⟩
    · cases e
  · split at e
    · rename_i xs ys hz
      cases e
      obtain ⟨a, us, rfl, ha, ra⟩ := rp
      obtain ⟨b, ws, rfl, hb, rb⟩ := rq
      have la := Reps.length ra
      have lb := Reps.length rb
      have h0 := Reps.append ra rb
      refine op_catA pins s σ H _ _ v u Q I rx ry ⟨a, b, us, ws, rfl, rfl, ha, hb, by rw [← la, ← lb]; exact sz_of hz, fun n => ?_, fun n1 n2 => ?_, fun n1 n2 p hp => ?_⟩
      · subst n; exact k m H _ (Ext.refl _ _) rs ⟨b, ws, rfl, hb, by simpa using h0⟩
      · subst n2; exact k m H _ (Ext.refl _ _) rs ⟨a, us, rfl, ha, by simpa using h0⟩
      · exact k m _ _ (Ext.upd hp) (rs.upd hp) ⟨p, us ++ ws, rfl, SqT.of upd_same, Reps.go (Go.of rs.mok (Ext.upd hp)) _ _ h0⟩
    · cases e
  · split at e
    · rename_i xs ys hz
      cases e
      obtain ⟨a, us, rfl, ha, ra⟩ := rp
      obtain ⟨b, ws, rfl, hb, rb⟩ := rq
      have la := Reps.length ra
      have lb := Reps.length rb
      have h0 := Reps.append ra rb
      exact op_cat pins s σ H _ _ v u Q I rx ry ⟨a, b, us, ws, rfl, rfl, ha, hb, by rw [← la, ← lb]; exact sz_of hz, fun p hp =>
        k m _ _ (Ext.upd hp) (rs.upd hp) ⟨p, us ++ ws, rfl, upd_same, rs.notin hp, Reps.go (Go.of rs.mok (Ext.upd hp)) _ _ h0⟩⟩
    · cases e
  · cases e
theorem oSub : Op2 X (binaryOp .Sub) opSub := by
  intro pins s σ H x y v u Q I rx ry ⟨m, S, p, q, z, rs, rp, rq, e, k⟩
  unfold opSub at e
  split at e
  · cases e; cases rp; cases rq
    exact op_sub pins s σ H _ _ v u Q I rx ry ⟨_, _, rfl, rfl, k m H _ (Ext.refl _ _) rs rfl⟩
  · cases e
theorem oDiv : Op2 X (binaryOp .FloorDiv) opDiv := by
  intro pins s σ H x y v u Q I rx ry ⟨m, S, p, q, z, rs, rp, rq, e, k⟩
  unfold opDiv at e
  split at e
  · split at e
    · rename_i hz
      simp only [Bool.and_eq_true, decide_eq_true_eq] at hz
      cases e; cases rp; cases rq
      exact op_fdiv pins s σ H _ _ v u Q I rx ry ⟨_, _, rfl, rfl, hz, k m H _ (Ext.refl _ _) rs rfl⟩
    · cases e
  · cases e
theorem oMod : Op2 X (binaryOp .Mod) opMod := by
  intro pins s σ H x y v u Q I rx ry ⟨m, S, p, q, z, rs, rp, rq, e, k⟩
  unfold opMod at e
  split at e
  · split at e
    · rename_i hz
      cases e; cases rp; cases rq
      exact op_mod pins s σ H _ _ v u Q I rx ry ⟨_, _, rfl, rfl, hz, k m H _ (Ext.refl _ _) rs rfl⟩
    · cases e
  · cases e
theorem oPow : Op2 X (binaryOp .Pow) opPow := by
  intro pins s σ H x y v u Q I rx ry ⟨m, S, p, q, z, rs, rp, rq, e, k⟩
  unfold opPow at e
  split at e
  · split at e
    · rename_i hz
      simp only [Bool.and_eq_true, decide_eq_true_eq] at hz
      cases e; cases rp; cases rq
      exact op_pow pins s σ H _ _ v u Q I rx ry ⟨_, _, rfl, rfl, ⟨hz.1.1, hz.1.2, hz.2⟩, k m H _ (Ext.refl _ _) rs rfl⟩
    · cases e
  · cases e
theorem oLt : Op2 X (compareOp .Lt) opLt := by
  intro pins s σ H x y v u Q I rx ry ⟨m, S, p, q, z, rs, rp, rq, e, k⟩
  unfold opLt at e
  split at e
  · cases e; cases rp; cases rq
    exact op_lt pins s σ H _ _ v u Q I rx ry ⟨_, _, rfl, rfl, k m H _ (Ext.refl _ _) rs rfl⟩
  · cases e
theorem oLe : Op2 X (compareOp .LtE) opLe := by
  intro pins s σ H x y v u Q I rx ry ⟨m, S, p, q, z, rs, rp, rq, e, k⟩
  unfold opLe at e
  split at e
  · cases e; cases rp; cases rq
    exact op_le pins s σ H _ _ v u Q I rx ry ⟨_, _, rfl, rfl, k m H _ (Ext.refl _ _) rs rfl⟩
  · cases e
theorem oGt : Op2 X (compareOp .Gt) opGt := by
  intro pins s σ H x y v u Q I rx ry ⟨m, S, p, q, z, rs, rp, rq, e, k⟩
  unfold opGt at e
  split at e
  · cases e; cases rp; cases rq
    exact op_gt pins s σ H _ _ v u Q I rx ry ⟨_, _, rfl, rfl, k m H _ (Ext.refl _ _) rs rfl⟩
  · cases e
theorem oGe : Op2 X (compareOp .GtE) opGe := by
  intro pins s σ H x y v u Q I rx ry ⟨m, S, p, q, z, rs, rp, rq, e, k⟩
  unfold opGe at e
  split at e
  · cases e; cases rp; cases rq
    exact op_ge pins s σ H _ _ v u Q I rx ry ⟨_, _, rfl, rfl, k m H _ (Ext.refl _ _) rs rfl⟩
  · cases e
theorem lay_of {p : PyData} (h : shp p = true) : p.canLay0 = true := SeqAt.canLay_of_shaped h
theorem oEq (hu : X.A.units + 64 < cLine) : Op2 X (compareOp .Eq) opEq := by
  intro pins s σ H x y v u Q I rx ry ⟨m, S, p, q, z, rs, rp, rq, e, k⟩
  unfold opEq at e
  split at e
  · rename_i hz
    rw [Bool.and_eq_true] at hz
    cases e
    exact op_eqD hu pins s σ H _ _ v u Q I rx ry ⟨_, _, rp.dp (lay_of hz.1), rq.dp (lay_of hz.2), hz.1, hz.2, k m H _ (Ext.refl _ _) rs rfl⟩
  · cases e
theorem oNe (hu : X.A.units + 64 < cLine) : Op2 X (compareOp .NotEq) opNe := by
  intro pins s σ H x y v u Q I rx ry ⟨m, S, p, q, z, rs, rp, rq, e, k⟩
  unfold opNe at e
  split at e
  · rename_i hz
    rw [Bool.and_eq_true] at hz
    cases e
    exact op_neD hu pins s σ H _ _ v u Q I rx ry ⟨_, _, rp.dp (lay_of hz.1), rq.dp (lay_of hz.2), hz.1, hz.2, k m H _ (Ext.refl _ _) rs rfl⟩
  · cases e
theorem oIs : Op2 X (compareOp .Is) opIs := by
  intro pins s σ H x y v u Q I rx ry ⟨m, S, p, q, z, rs, rp, rq, e, k⟩
  unfold opIs at e
  split at e
  · cases rq
    have e' := Option.some.inj e
    subst e'
    refine op_isN pins s σ H _ _ v u Q I rx ry ⟨rfl, k m H _ (Ext.refl _ _) rs ?_⟩
    cases p with
    | none => cases rp; rfl
    | bool b => cases rp; rfl
    | int b => cases rp; rfl
    | str b => cases rp; rfl
    | tuple b => obtain ⟨a, us, rfl, _⟩ := rp; rfl
    | list b => obtain ⟨a, us, rfl, _⟩ := rp; rfl
    | dict b => obtain ⟨a, us, rfl, _⟩ := rp; rfl
  · cases e; cases rp; cases rq
    exact op_isBl pins s σ H _ _ v u Q I rx ry ⟨_, _, rfl, rfl, k m H _ (Ext.refl _ _) rs rfl⟩
  · cases e
theorem oIsNot : Op2 X (compareOp .IsNot) opIsNot := by
  intro pins s σ H x y v u Q I rx ry ⟨m, S, p, q, z, rs, rp, rq, e, k⟩
  unfold opIsNot at e
  split at e
  · cases rq
    have e' := Option.some.inj e
    subst e'
    refine op_notN pins s σ H _ _ v u Q I rx ry ⟨rfl, k m H _ (Ext.refl _ _) rs ?_⟩
    cases p with
    | none => cases rp; rfl
    | bool b => cases rp; rfl
    | int b => cases rp; rfl
    | str b => cases rp; rfl
    | tuple b => obtain ⟨a, us, rfl, _⟩ := rp; rfl
    | list b => obtain ⟨a, us, rfl, _⟩ := rp; rfl
    | dict b => obtain ⟨a, us, rfl, _⟩ := rp; rfl
  · cases e; cases rp; cases rq
    exact op_notBl pins s σ H _ _ v u Q I rx ry ⟨_, _, rfl, rfl, k m H _ (Ext.refl _ _) rs rfl⟩
  · cases e
end
end Mi
set_option maxHeartbeats 4000000
namespace Mi
open PySem PySem.Spec PyProof.Rows L2
/-- t * n where the same tuple comes back -/
theorem tuple_mul_same (l : Addr) (items : Array Value) (n : Nat) (dd : Option Addr) (sl : Array (Option Value)) (x : Int) (u : Tok) (c0 : (decide (x < -(2 ^ 63)) || decide (x ≥ 2 ^ 63)) = false) (c1 : (items.isEmpty || x == 1) = true) :
    Meets (Builtin.«tuple.__mul__» ⟨[.ref l, .int x u], []⟩) (fun _ R s => s.heap.get? l = some { cls := .type "tuple", dict := dd, data := .seq items n, slots := sl } ∧ R (.ok (.ret (Value.ref l))) s) :=
  .of_wp fun prog w A R s h => by
    obtain ⟨hp, g, d, tk, os⟩ := s
    obtain ⟨hl, h⟩ := h
    have f1 := AutoSeq1.idx_int
    wp_walk using wpAny_loadPart' hl
    repeat (first
      | (refine wpAny_ite_false (decide_eq_false (by rw [c0]; exact Bool.false_ne_true)) ?_; wp_walk using wpAny_loadPart' hl)
      | (refine wpAny_ite_true (decide_eq_true c1) ?_; wp_walk using wpAny_loadPart' hl))
    exact ⟨_, rfl, h⟩
theorem tuple_mul_none (l : Addr) (items : Array Value) (n : Nat) (dd : Option Addr) (sl : Array (Option Value)) (x : Int) (u : Tok) (c0 : (decide (x < -(2 ^ 63)) || decide (x ≥ 2 ^ 63)) = false) (c1 : (items.isEmpty || x == 1) = false) (c2 : (decide (x ≤ 0) || items.isEmpty) = true) :
    Meets (Builtin.«tuple.__mul__» ⟨[.ref l, .int x u], []⟩) (fun _ R s => s.heap.get? l = some { cls := .type "tuple", dict := dd, data := .seq items n, slots := sl } ∧
      R (.ok (.ret (Value.ref s.heap.objs.size))) { s with heap := s.heap.push { cls := Value.type "tuple", data := Data.seq #[] }, toks := s.toks }) :=
  .of_wp fun prog w A R s h => by
    obtain ⟨hp, g, d, tk, os⟩ := s
    obtain ⟨hl, h⟩ := h
    have f1 := AutoSeq1.idx_int
    wp_walk using wpAny_loadPart' hl
    repeat (first
      | (refine wpAny_ite_false (decide_eq_false (by rw [c0]; exact Bool.false_ne_true)) ?_; wp_walk using wpAny_loadPart' hl)
      | (refine wpAny_ite_false (decide_eq_false (by rw [c1]; exact Bool.false_ne_true)) ?_; wp_walk using wpAny_loadPart' hl)
      | (refine wpAny_ite_true (decide_eq_true c2) ?_; wp_walk using wpAny_loadPart' hl))
    exact ⟨_, rfl, h⟩
section
variable {X : Cx}
def rRepA (K : PySem.W.Frag) : R2 := fun x y H Q => ∃ l k xs, x = .ref l ∧ y = .int k ∧ SqT K H l xs ∧ -(2 ^ 63) ≤ k ∧ k ≤ 1000 ∧ xs.length ≤ 1000 ∧ (xs = [] ∨ k = 1 → Q (.ref l) H) ∧ (¬ (xs = [] ∨ k = 1) → ∀ p, H p = none → Q (.ref p) (upd H p (.tup (List.replicate k.toNat xs).flatten)))
theorem op_repA : OpR X (binaryOp .Mult) (rRepA X.K) := by
  intro pins s σ H x y v u Q I rx ry h
  obtain ⟨l, k, xs, rfl, rfl, hT, h1, h2, hz, q1, q2⟩ := h
  by_cases hg : xs ≠ [] ∧ 2 ≤ k
  · exact op_repT pins s σ H _ _ v u Q I rx ry ⟨l, k, xs, rfl, rfl, hT, hg.1, hg.2, h2, hz, q2 (fun z => z.elim hg.1 fun e => by omega)⟩
  cases rx
  obtain ⟨t, rfl⟩ := ry
  obtain ⟨its, r, ⟨⟨cls, dd, data, sl⟩, ho, hc, n, hd⟩, hs⟩ := I.tuple hT
  simp only at hc hd
  subst hc hd
  have hle : its.length = xs.length := r.length.symm
  have hsz0 : its.toArray.size = xs.length := by rw [List.size_toArray, hle]
  have hem : its.toArray.isEmpty = decide (xs = []) := by
    cases its with
    | nil => have : xs = [] := List.eq_nil_of_length_eq_zero (by simpa using hle.symm); simp [this]
    | cons a b =>
      have : xs ≠ [] := fun e => by rw [e] at hle; simp at hle
      simp [this]
  have c0 : (decide (k < -(2 ^ 63)) || decide (k ≥ 2 ^ 63)) = false := by
    rw [decide_eq_false (by omega), decide_eq_false (by omega)] <;> rfl
  by_cases hc1 : xs = [] ∨ k = 1
  · have c1 : (its.toArray.isEmpty || k == 1) = true := by
      rw [hem]
      rcases hc1 with e | e <;> simp [e]
    refine wpAny_binaryOp_repeat_ref (T := "tuple") (U := "int") (by decide) ⟨_, ho, rfl⟩ (fun s' => typeIs_int s' k t) noFill_tuple_mul F.fills_int_mul F.slot_int_rmul repeat_tuple F.slot_int_index.lookup
      (call_meets F.slot_int_rmul (typeIs_int s k t) F.entry_int_rmul (F.args_int_rmul_2 _ _) (int_rmul_tuple k t l its.toArray n dd sl)
        ⟨ho, rfl, ⟨_, ho, rfl⟩, call_meets F.slot_tuple_mul ⟨_, ho, rfl⟩ F.entry_tuple_mul (F.args_tuple_mul_2 _ _) (tuple_mul_same l its.toArray n dd sl k t c0 c1) ⟨ho, ?_⟩⟩)
    exact ⟨.ref l, H, I, rfl, q1 hc1⟩
  · have c1 : (its.toArray.isEmpty || k == 1) = false := by
      rw [hem]
      simp only [not_or] at hc1
      simp [hc1.1, hc1.2]
    have hk : k ≤ 0 := by
      simp only [not_or] at hc1
      by_cases h3 : 2 ≤ k
      · exact absurd ⟨hc1.1, h3⟩ hg
      · omega
    have c2 : (decide (k ≤ 0) || its.toArray.isEmpty) = true := by rw [decide_eq_true hk] <;> rfl
    refine wpAny_binaryOp_repeat_ref (T := "tuple") (U := "int") (by decide) ⟨_, ho, rfl⟩ (fun s' => typeIs_int s' k t) noFill_tuple_mul F.fills_int_mul F.slot_int_rmul repeat_tuple F.slot_int_index.lookup
      (call_meets F.slot_int_rmul (typeIs_int s k t) F.entry_int_rmul (F.args_int_rmul_2 _ _) (int_rmul_tuple k t l its.toArray n dd sl)
        ⟨ho, rfl, ⟨_, ho, rfl⟩, call_meets F.slot_tuple_mul ⟨_, ho, rfl⟩ F.entry_tuple_mul (F.args_tuple_mul_2 _ _) (tuple_mul_none l its.toArray n dd sl k t c0 c1 c2) ⟨ho, ?_⟩⟩)
    have e0 : k.toNat = 0 := by omega
    have q := q2 hc1
    rw [e0] at q
    refine ⟨.ref s.heap.objs.size, _, I.laid (t' := s.toks) (o := .tup []) (fun b ob q => Heap.get?_push_of_some _ q) (Nat.le_refl _) ?_, rfl, q _ (I.hok.fresh (Nat.le_refl _))⟩
    exact ⟨Nat.zero_le _, [], .nil, IsTup.new _ _⟩
theorem Reps.rep {P : Program} {w : World} {K : PySem.W.Frag} {m : Mp} {H : Hp} {ps : List PyData} {us : List V} (h : Reps P w K m H ps us) : ∀ n : Nat, Reps P w K m H (List.replicate n ps).flatten (List.replicate n us).flatten
  | 0 => rfl
  | n + 1 => by rw [List.replicate_succ, List.replicate_succ, List.flatten_cons, List.flatten_cons]; exact Reps.append h (Reps.rep h n)
theorem oMul : Op2 X (binaryOp .Mult) opMul := by
  intro pins s σ H x y v u Q I rx ry ⟨m, S, p, q, z, rs, rp, rq, e, k⟩
  unfold opMul at e
  split at e
  · split at e
    · rename_i hz
      simp only [Bool.or_eq_true, decide_eq_true_eq] at hz
      cases e; cases rp; cases rq
      exact op_mul pins s σ H _ _ v u Q I rx ry ⟨_, _, rfl, rfl, hz.imp (fun z => ⟨by omega, by omega⟩) (fun z => ⟨by omega, by omega⟩), k m H _ (Ext.refl _ _) rs rfl⟩
    · cases e
  · split at e
    · rename_i xs j hz
      simp only [Bool.and_eq_true, decide_eq_true_eq] at hz
      cases e; cases rq
      obtain ⟨a, us, rfl, ha, ra⟩ := rp
      have la := Reps.length ra
      refine op_rep pins s σ H _ _ v u Q I rx ry ⟨a, j, us, rfl, rfl, ha, by have := hz.1; omega, by have := hz.1; omega, by rw [← la, sizeLine_eq]; exact hz.2, fun p hp => ?_⟩
      exact k m _ _ (Ext.upd hp) (rs.upd hp) ⟨p, _, rfl, upd_same, rs.notin hp, Reps.go (Go.of rs.mok (Ext.upd hp)) _ _ (Reps.rep ra _)⟩
    · cases e
  · split at e
    · rename_i xs j hz
      simp only [Bool.and_eq_true, decide_eq_true_eq] at hz
      cases e; cases rq
      obtain ⟨a, us, rfl, ha, ra⟩ := rp
      have la := Reps.length ra
      refine op_repA pins s σ H _ _ v u Q I rx ry ⟨a, j, us, rfl, rfl, ha, by omega, by omega, by rw [← la]; exact hz.2, fun hc => ?_, fun hc p hp => ?_⟩
      · have e0 : (List.replicate j.toNat xs).flatten = xs := by
          rcases hc with e | e
          · have : xs = [] := by cases xs with | nil => rfl | cons a b => rw [e] at la; simp at la
            simp [this]
          · subst e; simp
        rw [e0] at k
        exact k m H _ (Ext.refl _ _) rs ⟨a, us, rfl, ha, ra⟩
      · exact k m _ _ (Ext.upd hp) (rs.upd hp) ⟨p, _, rfl, SqT.of upd_same, Reps.go (Go.of rs.mok (Ext.upd hp)) _ _ (Reps.rep ra _)⟩
    · cases e
  · split at e
    · rename_i x j hz
      simp only [Bool.and_eq_true, decide_eq_true_eq] at hz
      cases e; cases rp; cases rq
      obtain ⟨t, rfl⟩ := rx
      obtain ⟨t', rfl⟩ := ry
      exact SB.mul (mulOk_of 1000 1000 (by omega) (by omega) (by omega) (by decide) (by decide)) fun t'' k' => ⟨.str (PySem.Txt.mul x j), H, I.tok _, ⟨t'', rfl⟩, k m H _ (Ext.refl _ _) rs rfl⟩
    · cases e
  · cases e
theorem shp_tup {ys : List PyData} (h : shp (.tuple ys) = true) : PyData.canLayAll0 ys = true := by simpa [PyData.canLay0] using lay_of h
theorem shp_lst {ys : List PyData} (h : shp (.list ys) = true) : PyData.canLayAll0 ys = true := by simpa [PyData.canLay0] using lay_of h
section
variable {s : Shared} {pins : List (Addr × Obj)} {σ : L2.St} {m : Mp} {H : Hp} (I : Inv X pins σ H s)
include I
mutual
theorem nested_of : ∀ (p : PyData) (v : V) (u : Value) (k : NestedKey), keyOf p = some k → Rep X.prog X.w X.K m H p v → RelV v u → NestedIs s.heap k u
  | .none, v, u, k, e, h, r => by cases h; cases r; simp only [keyOf, Option.some.injEq] at e; subst e; exact .none
  | .bool b, v, u, k, e, h, r => by cases h; cases r; simp only [keyOf, Option.some.injEq] at e; subst e; exact .bool rfl
  | .int i, v, u, k, e, h, r => by cases h; obtain ⟨t, rfl⟩ := r; simp only [keyOf, Option.some.injEq] at e; subst e; exact .int i t
  | .str x, v, u, k, e, h, r => by cases h; obtain ⟨t, rfl⟩ := r; simp only [keyOf, Option.some.injEq] at e; subst e; exact .text x t
  | .tuple xs, v, u, k, e, ⟨a, us, ev, q, r0⟩, r => by
    subst ev
    obtain rfl : u = Value.ref a := r
    simp only [keyOf, Option.map_eq_some_iff] at e
    obtain ⟨ks, e, rfl⟩ := e
    obtain ⟨its, rv, ⟨o, ho, hc, n, hd⟩, _⟩ := I.tuple q
    exact .tup ho hc hd (nested_all xs us its ks e r0 rv)
  | .list xs, v, u, k, e, h, r => by simp [keyOf] at e
  | .dict xs, v, u, k, e, h, r => by simp [keyOf] at e
theorem nested_all : ∀ (ps : List PyData) (us : List V) (its : List Value) (ks : List NestedKey), keyOf.keysOf ps = some ks → Reps X.prog X.w X.K m H ps us → Vals us its → NestedAll s.heap ks its
  | [], us, its, ks, e, h, r => by cases h; cases r; simp only [keyOf.keysOf, Option.some.injEq] at e; subst e; exact .nil
  | p :: ps, us, its, ks, e, ⟨u, us', eu, h1, h2⟩, r => by
    subst eu
    simp only [keyOf.keysOf, Option.bind_eq_some_iff, Option.map_eq_some_iff] at e
    obtain ⟨k, e1, ks', e2, rfl⟩ := e
    cases r with
    | cons r1 r2 => exact .cons (nested_of p u _ k e1 h1 r1) (nested_all ps us' _ ks' e2 h2 r2)
end
theorem keys_of : ∀ {kvs : List (PyData × PyData)} {xs : List (NestedKey × Addr × Value)}, RepK X.prog X.w X.K m H kvs xs → ∀ x ∈ xs, (nestedKind X.prog X.w).is s.heap x.1 x.2.1
  | [], _, r, x, hx => by cases r; cases hx
  | (k, v) :: kvs, _, ⟨nk, ka, u, uv, r, e, e1, e2, h1, e3, h2, h3⟩, x, hx => by
    subst e
    rcases List.mem_cons.mp hx with rfl | hx
    · exact ⟨nested_of I k _ _ nk e1 h1 rfl, e2⟩
    · exact keys_of h3 x hx
theorem dict_of {kvs : List (PyData × PyData)} {xs : DX} {a : Addr} (e : H a = some (DictO X.prog X.w a xs)) (nd : (xs.l.map (·.1)).Nodup) (r : RepK X.prog X.w X.K m H kvs xs.l) :
    s.heap.DictOfH (nestedKind X.prog X.w) a xs.l := by
  obtain ⟨⟨o, es, h1, h2, h3, h4⟩, _⟩ := (show ObjOk X.prog X.w H s.heap a (DictO X.prog X.w a xs) from I.hok a _ e)
  exact ⟨o, es, xs.ep, h1, h2, h3, h4, keys_of I r, nd⟩
end
theorem dfind_at {P : Program} {w : World} {K : PySem.W.Frag} {m : Mp} {H : Hp} (k : NestedKey) : ∀ {kvs : List (PyData × PyData)} {xs : List (NestedKey × Addr × Value)}, RepK P w K m H kvs xs →
    (dfind kvs k = none ∧ valueAt (pairsH xs) k = none) ∨ ∃ p u v, dfind kvs k = some p ∧ valueAt (pairsH xs) k = some u ∧ RelV v u ∧ Rep P w K m H p v
  | [], _, h => by cases h; exact .inl ⟨rfl, rfl⟩
  | (kp, p) :: kvs, _, ⟨nk, ka, u, uv, r, e, e1, e2, h1, e3, h2, h3⟩ => by
    subst e
    by_cases hk : nk = k
    · subst hk
      refine .inr ⟨p, u, uv, ?_, ?_, e3, h2⟩
      · simp [dfind, e1]
      · simp [pairsH, valueAt]
    · have hd : dfind ((kp, p) :: kvs) k = dfind kvs k := by simp [dfind, e1, hk]
      have hv : valueAt (pairsH ((nk, ka, u) :: r)) k = valueAt (pairsH r) k := by simp [pairsH, valueAt, hk]
      rw [hd, hv]
      exact dfind_at k h3
theorem dkey_of {p : PyData} {k : NestedKey} (h : dkey p = some k) : (∃ xs, p = .tuple xs) ∧ keyOf p = some k ∧ k.depth ≤ 8 := by
  cases p with
  | tuple xs =>
    simp only [dkey] at h
    split at h
    · rename_i k' hk
      split at h
      · cases h; exact ⟨⟨_, rfl⟩, hk, by assumption⟩
      · cases h
    · cases h
  | none => cases h
  | bool b => cases h
  | int b => cases h
  | str b => cases h
  | list b => cases h
  | dict b => cases h
theorem oInOf (hu : X.A.units + 65 < cLine) (neg : Bool) : Op2 X (compareOp (if neg then .NotIn else .In)) (fun p q => (inOf p q).map fun b => .bool (if neg then !b else b)) := by
  intro pins s σ H x y v u Q I rx ry ⟨m, S, p, q, z, rs, rp, rq, e, k⟩
  simp only [Option.map_eq_some_iff] at e
  obtain ⟨b, e, rfl⟩ := e
  unfold inOf at e
  split at e
  · split at e
    · rename_i ys hz
      rw [Bool.and_eq_true] at hz
      cases e
      cases neg with
      | false => exact op_inD hu pins s σ H _ _ v u Q I rx ry ⟨_, _, rp.dp (lay_of hz.1), rq.dp (lay_of hz.2), hz.1, hz.2, k m H _ (Ext.refl _ _) rs rfl⟩
      | true => exact op_notInD hu pins s σ H _ _ v u Q I rx ry ⟨_, _, rp.dp (lay_of hz.1), rq.dp (lay_of hz.2), hz.1, hz.2, k m H _ (Ext.refl _ _) rs rfl⟩
    · cases e
  · split at e
    · rename_i ys hz
      rw [Bool.and_eq_true] at hz
      cases e
      obtain ⟨as, r1⟩ := Dp.reads I p x v (rp.dp (lay_of hz.1)) rx
      obtain ⟨bs, r2⟩ := Dp.reads I (.tuple ys) y u (rq.dp (lay_of hz.2)) ry
      have room : X.A.units + 1 + min (PyData.depthAll ys) p.depth < cLine := by
        have h1 := SeqAt.depth_of_shaped hz.1
        have h2 := Nat.min_le_right (PyData.depthAll ys) p.depth
        omega
      cases neg with
      | false => exact SeqAt.in_tuple_reads r2 r1 (shp_tup hz.2) (lay_of hz.1) room ⟨.bl _, H, I, rfl, k m H _ (Ext.refl _ _) rs rfl⟩
      | true => exact SeqAt.notIn_tuple_reads r2 r1 (shp_tup hz.2) (lay_of hz.1) room ⟨.bl _, H, I, rfl, k m H _ (Ext.refl _ _) rs rfl⟩
    · cases e
  · rename_i kvs
    simp only [Option.map_eq_some_iff] at e
    obtain ⟨nk, e, rfl⟩ := e
    obtain ⟨⟨ps, rfl⟩, e1, e2⟩ := dkey_of e
    obtain ⟨ka, us, rfl, hT, hr⟩ := rp
    obtain ⟨a, xs, rfl, hd, hy, hl, nd, rk⟩ := rq
    obtain rfl : v = Value.ref ka := rx
    obtain rfl : u = Value.ref a := ry
    have hm : s.heap.DictKeyed (nestedKind X.prog X.w) a (pairsH xs.l) := ⟨xs.l, dict_of I hd nd rk, rfl⟩
    have hk : (nestedKind X.prog X.w).is s.heap nk ka := ⟨nested_of I (.tuple ps) (.ref ka) _ nk e1 ⟨ka, us, rfl, hT, hr⟩ rfl, e2⟩
    have ev : (valueAt (pairsH xs.l) nk).isSome = (dfind kvs nk).isSome := by
      rcases dfind_at nk rk with ⟨h1, h2⟩ | ⟨p, u, v, h1, h2, _⟩ <;> rw [h1, h2] <;> rfl
    have room : (nestedKind X.prog X.w).room X.A.in1 := by show X.A.units + 1 + 8 < cLine; omega
    cases neg with
    | false => exact in_keyed room hk hy hm ⟨.bl _, H, I.tok _, rfl, by rw [ev]; exact k m H _ (Ext.refl _ _) rs rfl⟩
    | true => exact notIn_keyed room hk hy hm ⟨.bl _, H, I.tok _, rfl, by rw [ev]; exact k m H _ (Ext.refl _ _) rs rfl⟩
  · cases e
theorem oIn (hu : X.A.units + 65 < cLine) : Op2 X (compareOp .In) opIn := oInOf hu false
theorem oNotIn (hu : X.A.units + 65 < cLine) : Op2 X (compareOp .NotIn) opNotIn := oInOf hu true
end
end Mi
set_option maxHeartbeats 4000000
namespace Mi
open PySem PySem.Spec PyProof.Rows L2
abbrev DA := En → Sto → Res (List Val)
abbrev DT := En → Sto → Res Bool

section
variable (G : Gx)
def PostA (W : WX) (σ : L2.St) (m : Mp) (H : Hp) (r : Res (List Val)) (Q : List V → Hp → Prop) : Prop := match r with
  | .ok xs S => ∀ m' H' vs, Ext m H m' H' → RepS G.P G.w G.K m' H' S → RepVs G.P G.w G.K m' H' G.mg xs vs → Q vs H'
  | .err c f S => ∀ m' H' cls d, Ext m H m' H' → RepS G.P G.w G.K m' H' S → RepX G m' H' c f cls d → W cls d σ H'
  | .bad => False
def PostT (W : WX) (σ : L2.St) (m : Mp) (H : Hp) (r : Res Bool) (Q : Bool → Hp → Prop) : Prop := match r with
  | .ok b S => ∀ m' H', Ext m H m' H' → RepS G.P G.w G.K m' H' S → Q b H'
  | .err c f S => ∀ m' H' cls d, Ext m H m' H' → RepS G.P G.w G.K m' H' S → RepX G m' H' c f cls d → W cls d σ H'
  | .bad => False
def tevA (W : WX) (D : DA) : TA := fun σ H Q => ∃ m ρ S, Rd0 G m ρ S σ H ∧ PostA G W σ m H (D ρ S) Q
def tevT (W : WX) (D : DT) : TT := fun σ H Q => ∃ m ρ S, Rd0 G m ρ S σ H ∧ PostT G W σ m H (D ρ S) Q
variable {G}
theorem PostA.ext {W : WX} {σ : L2.St} {m m' : Mp} {H H' : Hp} {r : Res (List Val)} {Q : List V → Hp → Prop} (h : PostA G W σ m H r Q) (e : Ext m H m' H') : PostA G W σ m' H' r Q := by
  cases r with
  | ok p S => exact fun m2 H2 v e2 s r => h m2 H2 v (e.trans e2) s r
  | err c f S => exact fun m2 H2 cls d e2 s r => h m2 H2 cls d (e.trans e2) s r
  | bad => exact h
theorem PostT.ext {W : WX} {σ : L2.St} {m m' : Mp} {H H' : Hp} {r : Res Bool} {Q : Bool → Hp → Prop} (h : PostT G W σ m H r Q) (e : Ext m H m' H') : PostT G W σ m' H' r Q := by
  cases r with
  | ok p S => exact fun m2 H2 e2 s => h m2 H2 (e.trans e2) s
  | err c f S => exact fun m2 H2 cls d e2 s r => h m2 H2 cls d (e.trans e2) s r
  | bad => exact h
/-- a value first, then anything -/
theorem bindE_A {W : WX} {σ : L2.St} {m : Mp} {H : Hp} {r : Res Val} {k : Val → Sto → Res (List Val)} {Q : List V → Hp → Prop} (h : PostA G W σ m H (r.bind k) Q) :
    PostE G W σ m H r fun v H1 => ∃ m1 S1 p, Ext m H m1 H1 ∧ RepS G.P G.w G.K m1 H1 S1 ∧ RepV G.P G.w G.K m1 H1 G.mg p v ∧ PostA G W σ m1 H1 (k p S1) Q := by
  cases r with
  | ok p S => exact fun m1 H1 v e s rp => ⟨m1, S, p, e, s, rp, PostA.ext h e⟩
  | err c f S => exact h
  | bad => exact h
theorem bindE_T {W : WX} {σ : L2.St} {m : Mp} {H : Hp} {r : Res Val} {k : Val → Sto → Res Bool} {Q : Bool → Hp → Prop} (h : PostT G W σ m H (r.bind k) Q) :
    PostE G W σ m H r fun v H1 => ∃ m1 S1 p, Ext m H m1 H1 ∧ RepS G.P G.w G.K m1 H1 S1 ∧ RepV G.P G.w G.K m1 H1 G.mg p v ∧ PostT G W σ m1 H1 (k p S1) Q := by
  cases r with
  | ok p S => exact fun m1 H1 v e s rp => ⟨m1, S, p, e, s, rp, PostT.ext h e⟩
  | err c f S => exact h
  | bad => exact h
theorem bindA_A {W : WX} {σ : L2.St} {m : Mp} {H : Hp} {r : Res (List Val)} {k : List Val → Sto → Res (List Val)} {Q : List V → Hp → Prop} (h : PostA G W σ m H (r.bind k) Q) :
    PostA G W σ m H r fun v H1 => ∃ m1 S1 p, Ext m H m1 H1 ∧ RepS G.P G.w G.K m1 H1 S1 ∧ RepVs G.P G.w G.K m1 H1 G.mg p v ∧ PostA G W σ m1 H1 (k p S1) Q := by
  cases r with
  | ok p S => exact fun m1 H1 v e s rp => ⟨m1, S, p, e, s, rp, PostA.ext h e⟩
  | err c f S => exact h
  | bad => exact h
theorem bindA_E {W : WX} {σ : L2.St} {m : Mp} {H : Hp} {r : Res (List Val)} {k : List Val → Sto → Res Val} {Q : VK} (h : PostE G W σ m H (r.bind k) Q) :
    PostA G W σ m H r fun v H1 => ∃ m1 S1 p, Ext m H m1 H1 ∧ RepS G.P G.w G.K m1 H1 S1 ∧ RepVs G.P G.w G.K m1 H1 G.mg p v ∧ PostE G W σ m1 H1 (k p S1) Q := by
  cases r with
  | ok p S => exact fun m1 H1 v e s rp => ⟨m1, S, p, e, s, rp, PostE.ext h e⟩
  | err c f S => exact h
  | bad => exact h
theorem bindT_E {W : WX} {σ : L2.St} {m : Mp} {H : Hp} {r : Res Bool} {k : Bool → Sto → Res Val} {Q : VK} (h : PostE G W σ m H (r.bind k) Q) :
    PostT G W σ m H r fun b H1 => ∃ m1 S1, Ext m H m1 H1 ∧ RepS G.P G.w G.K m1 H1 S1 ∧ PostE G W σ m1 H1 (k b S1) Q := by
  cases r with
  | ok p S => exact fun m1 H1 e s => ⟨m1, S, e, s, PostE.ext h e⟩
  | err c f S => exact h
  | bad => exact h
theorem bindT_T {W : WX} {σ : L2.St} {m : Mp} {H : Hp} {r : Res Bool} {k : Bool → Sto → Res Bool} {Q : Bool → Hp → Prop} (h : PostT G W σ m H (r.bind k) Q) :
    PostT G W σ m H r fun b H1 => ∃ m1 S1, Ext m H m1 H1 ∧ RepS G.P G.w G.K m1 H1 S1 ∧ PostT G W σ m1 H1 (k b S1) Q := by
  cases r with
  | ok p S => exact fun m1 H1 e s => ⟨m1, S, e, s, PostT.ext h e⟩
  | err c f S => exact h
  | bad => exact h
theorem post_ok {W : WX} {σ : L2.St} {m : Mp} {H : Hp} {x : Val} {S : Sto} {Q : VK} {v : V} (h : PostE G W σ m H (.ok x S) Q) (s : RepS G.P G.w G.K m H S) (r : RepV G.P G.w G.K m H G.mg x v) : Q v H := h m H v (Ext.refl _ _) s r
end
theorem PE.imp {X : Cx} {e : Expr} {t t' : TE} (h : PE X e t) (f : ∀ σ H Q, t' σ H Q → t σ H Q) : PE X e t' := ⟨fun pins s σ H Q I q => h.run pins s σ H Q I (f σ H Q q)⟩
theorem PT.imp {X : Cx} {e : Expr} {t t' : TT} (h : PT X e t) (f : ∀ σ H Q, t' σ H Q → t σ H Q) : PT X e t' := ⟨fun pins s σ H Q I q => h.run pins s σ H Q I (f σ H Q q)⟩
theorem PW.imp {X : Cx} {e : Expr} {t t' : TT} (h : PW X e t) (f : ∀ σ H Q, t' σ H Q → t σ H Q) : PW X e t' := ⟨fun wh pins s σ H Q I q => h.run wh pins s σ H Q I (f σ H Q q)⟩
theorem PA.imp {X : Cx} {e : List Expr} {t t' : TA} (h : PA X e t) (f : ∀ σ H Q, t' σ H Q → t σ H Q) : PA X e t' := ⟨fun pos pins s σ H Q I q => h.run pos pins s σ H Q I (f σ H Q q)⟩

def dC (p : PyData) : DE := fun _ S => .ok (.pv p) S
def dNm (i : Nat) : DE := fun ρ S => match ρ[i]? with
  | some (some x) => .ok x S
  | _ => .bad
def dFn (x : Str) : DE := fun _ S => .ok (.fn x) S
/-- the object of a slot, from now on data -/
def dFz (i : Nat) : DE := fun ρ S => match ρ[i]? with
  | some (some (.loc l)) => match S[l]? with
    | some (.lst xs) => .ok (.pv (.list xs)) (S.set l .dead)
    | some (.dct kvs) => .ok (.pv (.dict kvs)) (S.set l .dead)
    | _ => .bad
  | some (some (.pv p)) => .ok (.pv p) S
  | _ => .bad
def lift2 (op : PyData → PyData → Option PyData) (x y : Val) (S : Sto) : Res Val := match x.get S with
  | some p => match y.get S with
    | some q => match op p q with
      | some z => .ok (.pv z) S
      | none => .bad
    | none => .bad
  | none => .bad
def d2 (op : PyData → PyData → Option PyData) (A B : DE) : DE := fun ρ S => (A ρ S).bind fun x S1 => (B ρ S1).bind fun y S2 => lift2 op x y S2
def pvs : List Val → Option (List PyData)
  | [] => some []
  | .pv p :: xs => (pvs xs).map fun ps => p :: ps
  | _ :: _ => none
def dNil : DA := fun _ S => .ok [] S
def dCons (A : DE) (B : DA) : DA := fun ρ S => (A ρ S).bind fun x S1 => (B ρ S1).bind fun xs S2 => .ok (x :: xs) S2
def dTup (A : DA) : DE := fun ρ S => (A ρ S).bind fun xs S1 => match pvs xs with
  | some ps => if szOk ps.length then .ok (.pv (.tuple ps)) S1 else .bad
  | none => .bad
def dLst (A : DA) : DE := fun ρ S => (A ρ S).bind fun xs S1 => match pvs xs with
  | some ps => if szOk ps.length then .ok (.pv (.list ps)) S1 else .bad
  | none => .bad
/-- a list display that is a shared object -/
def dNew (A : DA) : DE := fun ρ S => (A ρ S).bind fun xs S1 => match pvs xs with
  | some ps => if szOk ps.length then .ok (.loc S1.length) (S1 ++ [.lst ps]) else .bad
  | none => .bad
def blOf (x : Val) (S : Sto) : Res Bool := match x with
  | .pv (.bool b) => .ok b S
  | _ => .bad
def dTst (A : DE) : DT := fun ρ S => (A ρ S).bind blOf
def dNotT (A : DT) : DT := fun ρ S => (A ρ S).bind fun b S1 => .ok (!b) S1
def dAndT (A B : DT) : DT := fun ρ S => (A ρ S).bind fun b S1 => if b = true then B ρ S1 else .ok false S1
def dOrT (A B : DT) : DT := fun ρ S => (A ρ S).bind fun b S1 => if b = true then .ok true S1 else B ρ S1
def dIf (C : DT) (A B : DE) : DE := fun ρ S => (C ρ S).bind fun b S1 => if b = true then A ρ S1 else B ρ S1
def dNot (A : DE) : DE := fun ρ S => (A ρ S).bind fun x S1 => (blOf x S1).bind fun b S2 => .ok (.pv (.bool !b)) S2
def dAnd (A B : DE) : DE := fun ρ S => (A ρ S).bind fun x S1 => (blOf x S1).bind fun b S2 => if b = true then B ρ S2 else .ok (.pv (.bool false)) S2
def dOr (A B : DE) : DE := fun ρ S => (A ρ S).bind fun x S1 => (blOf x S1).bind fun b S2 => if b = true then .ok (.pv (.bool true)) S2 else B ρ S2
def dCh (f g : PyData → PyData → Option PyData) (A B C : DE) : DE := fun ρ S => (A ρ S).bind fun x S1 => (B ρ S1).bind fun y S2 => (lift2 f x y S2).bind fun z S3 => (blOf z S3).bind fun b S4 =>
  if b = true then (C ρ S4).bind fun c S5 => lift2 g y c S5 else .ok (.pv (.bool false)) S4

section
variable {X : Cx} {W : WX} {pos : Pos} {A B C : DE} {a b c : Expr}
abbrev PEv (X : Cx) (W : WX) (e : Expr) (D : DE) : Prop := PE X e (tev (Gx.of X) W D)
abbrev PTv (X : Cx) (W : WX) (e : Expr) (D : DT) : Prop := PT X e (tevT (Gx.of X) W D)
abbrev PWv (X : Cx) (W : WX) (e : Expr) (D : DT) : Prop := PW X e (tevT (Gx.of X) W D)
abbrev PAv (X : Cx) (W : WX) (e : List Expr) (D : DA) : Prop := PA X e (tevA (Gx.of X) W D)
theorem r_int {i j} : PEv X W (.Constant (.int i) j pos) (dC (.int i)) := PE.imp pe_int fun σ H Q ⟨m, ρ, S, R, h⟩ => post_ok h R.s rfl
theorem r_bl {b j} : PEv X W (.Constant (.bool b) j pos) (dC (.bool b)) := PE.imp pe_bl fun σ H Q ⟨m, ρ, S, R, h⟩ => post_ok h R.s rfl
theorem r_non {j} : PEv X W (.Constant .none j pos) (dC .none) := PE.imp pe_non fun σ H Q ⟨m, ρ, S, R, h⟩ => post_ok h R.s rfl
theorem r_str {x j} : PEv X W (.Constant (.str x) j pos) (dC (.str x)) := PE.imp pe_str fun σ H Q ⟨m, ρ, S, R, h⟩ => post_ok h R.s rfl
theorem r_nm (i : Nat) {x : Str} (hN : X.N[i]? = some x := by rfl) (hv : Vis X.env.scope x := by first | exact Or.inl rfl | exact Or.inr (Or.inl rfl) | exact Or.inr (Or.inr rfl)) (hd : (x == ("__debug__" : Str)) = false := by decide)
    (hcd : (x == ("__classdict__" : Str)) = false := by decide) : PEv X W (.Name x pos) (dNm i) := PE.imp (pe_var (i := i) hN hv hd hcd) fun σ H Q ⟨m, ρ, S, R, h⟩ => by
  unfold dNm at h
  cases e : ρ[i]? with
  | none => rw [e] at h; exact h.elim
  | some o =>
    cases o with
    | none => rw [e] at h; exact h.elim
    | some x =>
      rw [e] at h
      obtain ⟨v, e1, r⟩ := R.e.at_ i x e
      exact ⟨v, e1, post_ok h R.s r⟩
theorem r_fn {x : Str} {f : Addr} (hg : Gl X x) (hm : X.mg x = some (.ref f)) (hd : (x == ("__debug__" : Str)) = false := by decide) : PEv X W (.Name x pos) (dFn x) :=
  PE.imp (pe_glob (v := .ref f) hg hm rfl hd) fun σ H Q ⟨m, ρ, S, R, h⟩ => post_ok h R.s ⟨f, hm, rfl⟩
theorem r_gint {x : Str} {i : Int} {t : Tok} (hg : Gl X x) (hm : X.mg x = some (.int i t)) (hd : (x == ("__debug__" : Str)) = false := by decide) : PEv X W (.Name x pos) (dC (.int i)) :=
  PE.imp (pe_glob (v := .int i) hg hm ⟨t, rfl⟩ hd) fun σ H Q ⟨m, ρ, S, R, h⟩ => post_ok h R.s rfl
/-- the semantic heart of two-place operations -/
theorem lift2_rOf {op : PyData → PyData → Option PyData} {x y : Val} {S : Sto} {m : Mp} {H : Hp} {u v : V} {Q : VK} {σ : L2.St} (rs : RepS X.prog X.w X.K m H S) (rx : RepV X.prog X.w X.K m H X.mg x u) (ry : RepV X.prog X.w X.K m H X.mg y v)
    (h : PostE (Gx.of X) W σ m H (lift2 op x y S) Q) : rOf X op u v H Q := by
  unfold lift2 at h
  split at h
  · rename_i p hp
    split at h
    · rename_i q hq
      split at h
      · rename_i z hz
        exact ⟨m, S, p, q, z, rs, peek rx rs hp, peek ry rs hq, hz, fun m' H' w e s r => h m' H' w e s r⟩
      · exact h.elim
    · exact h.elim
  · exact h.elim
theorem d2_top {op : PyData → PyData → Option PyData} {σ : L2.St} {H : Hp} {Q : VK} (h : tev (Gx.of X) W (d2 op A B) σ H Q) : tOp (rOf X op) (tev (Gx.of X) W A) (tev (Gx.of X) W B) σ H Q := by
  obtain ⟨m, ρ, S, R, h⟩ := h
  have h1 := PostE.bind (G := Gx.of X) h
  refine ⟨m, ρ, S, R, ?_⟩
  revert h1
  cases A ρ S with
  | ok x S1 =>
    intro h1 m1 H1 u e s r
    obtain ⟨m1', S1', p, e', s', r', h2⟩ := h1 m1 H1 u e s r
    have h2' := PostE.bind (G := Gx.of X) h2
    refine ⟨m1', ρ, S1', R.ext e' s', ?_⟩
    revert h2'
    cases B ρ S1' with
    | ok y S2 =>
      intro h2' m2 H2 v e2 s2 r2
      obtain ⟨m2', S2', q, e3, s3, r3, h3⟩ := h2' m2 H2 v e2 s2 r2
      exact lift2_rOf s3 (RepV.ext r' s'.mok e3) r3 h3
    | err c f S => exact fun z => z
    | bad => exact fun z => z
  | err c f S => exact fun z => z
  | bad => exact fun z => z
theorem r_bin {op : Operator} {f : PyData → PyData → Option PyData} (ho : Op2 X (binaryOp op) f) (ha : PEv X W a A) (hb : PEv X W b B) : PEv X W (.BinOp a op b pos) (d2 f A B) := PE.imp (pe_op ho ha hb) fun σ H Q h => d2_top h
theorem r_cmp {op : CmpOp} {f : PyData → PyData → Option PyData} (ho : Op2 X (compareOp op) f) (ha : PEv X W a A) (hb : PEv X W b B) (hm : behindInMarks op b = false) : PEv X W (.Compare a [op] [b] pos) (d2 f A B) :=
  PE.imp (pe_cmpR ho ha hb hm) fun σ H Q h => d2_top h
end
end Mi
set_option maxHeartbeats 4000000
namespace Mi
open PySem PySem.Spec PyProof.Rows L2
section
variable {G : Gx} {P : Program} {w : World} {K : PySem.W.Frag} {m m' : Mp} {H H' : Hp} {mg : Str → Option Value}
theorem pvs_reps : ∀ {xs : List Val} {us : List V} {ps : List PyData}, pvs xs = some ps → RepVs P w K m H mg xs us → Reps P w K m H ps us
  | [], _, _, e, h => by cases e; cases h; rfl
  | .pv p :: xs, _, _, e, ⟨u, r, eu, h1, h2⟩ => by
    simp only [pvs, Option.map_eq_some_iff] at e
    obtain ⟨ps, e, rfl⟩ := e
    exact ⟨u, r, eu, h1, pvs_reps e h2⟩
  | .loc _ :: _, _, _, e, _ => by cases e
  | .fn _ :: _, _, _, e, _ => by cases e
  | .ro _ :: _, _, _, e, _ => by cases e
/-- one shared object more -/
abbrev Mp.push (m : Mp) (p : Addr) : Mp := { m with st := m.st ++ [some p] }
theorem Ext.new1 {p : Addr} {ho : HO} (hp : H p = none) (mo : MOk m H) : Ext m H (m.push p) (L2.upd H p ho) :=
  ⟨fun a o e _ _ => by rw [upd_ne (ne_of_none e hp)]; exact e, fun a h => by
      rcases List.mem_append.mp h with h | h
      · exact .inl h
      · simp at h; subst h; exact .inr (.of hp), fun a h => .inl (.inr h), fun a h => h, rfl, by simp, fun l a hl h => by rwa [List.getElem?_append_left hl] at h⟩
theorem RepS.new {S : Sto} {p : Addr} {o : Ob} {ho : HO} (r : RepS P w K m H S) (hp : H p = none) (q : RepO P w K (m.push p) (L2.upd H p ho) p o) :
    RepS P w K (m.push p) (L2.upd H p ho) (S ++ [o]) := by
  have ex : Ext m H (m.push p) (L2.upd H p ho) := Ext.new1 hp r.mok
  have np := r.notin hp
  have g := Go.of (P := P) (w := w) (K := K) r.mok ex
  have np' : some p ∉ m.st := fun z => np (.inl z)
  refine ⟨by simp [r.len], fun a ha => ⟨fun z => ?_, ?_⟩, r.tabs.ext fun a o e => by rw [upd_ne (ne_of_none e hp)]; exact e, fun i j a hi hj => ?_, fun l o' e => ?_⟩
  · rcases List.mem_append.mp z with z | z
    · exact (r.av a ha).1 z
    · simp at z; subst z; exact np (.inr ha)
  · obtain ⟨o, e, n⟩ := (r.av a ha).2
    exact ⟨o, by rw [upd_ne (ne_of_none e hp)]; exact e, n⟩
  · have hin : ∀ (i : Nat) (a : Addr), (m.st ++ [some p])[i]? = some (some a) → (i < m.st.length ∧ m.st[i]? = some (some a)) ∨ (i = m.st.length ∧ a = p) := fun i a h => by
      by_cases hi : i < m.st.length
      · rw [List.getElem?_append_left hi] at h; exact .inl ⟨hi, h⟩
      · rw [List.getElem?_append_right (by omega)] at h
        have : i - m.st.length = 0 := by
          by_cases z : i - m.st.length = 0
          · exact z
          · rw [List.getElem?_eq_none (by simp; omega)] at h; cases h
        rw [this] at h; simp at h
        exact .inr ⟨by omega, h.symm⟩
    rcases hin i a hi with ⟨h1, h2⟩ | ⟨h1, h2⟩ <;> rcases hin j a hj with ⟨h3, h4⟩ | ⟨h3, h4⟩
    · exact r.nd i j a h2 h4
    · subst h4; exact absurd (List.mem_of_getElem? h2) np'
    · subst h2; exact absurd (List.mem_of_getElem? h4) np'
    · omega
  · by_cases hl' : l < S.length
    · rw [List.getElem?_append_left hl'] at e
      have hml : l < m.st.length := by rw [r.len]; exact hl'
      rw [show (m.push p).st[l]? = m.st[l]? from List.getElem?_append_left hml]
      rcases r.ob l o' e with q' | ⟨a, ea, q'⟩
      · exact .inl q'
      · refine .inr ⟨a, ea, ?_⟩
        have nap : a ≠ p := fun z => np' (z ▸ List.mem_of_getElem? ea)
        cases o' with
        | lst xs => obtain ⟨us, e1, q'⟩ := q'; exact ⟨us, by rw [upd_ne nap]; exact e1, Reps.go g xs us q'⟩
        | dct kvs => obtain ⟨xs, e1, y, z, d, q'⟩ := q'; exact ⟨xs, by rw [upd_ne nap]; exact e1, y, z, d, RepK.go g kvs xs.l q'⟩
        | dead => exact q'
        | tab _ _ => exact q'
    · have e0 : l = S.length := by
        have : l < (S ++ [o]).length := (List.getElem?_eq_some_iff.mp e).1
        simp at this; omega
      subst e0
      rw [List.getElem?_append_right (Nat.le_refl _)] at e
      simp at e
      subst e
      exact .inr ⟨p, by rw [← r.len]; simp, q⟩
theorem RepVs.length : ∀ {xs : List Val} {us : List V}, RepVs P w K m H mg xs us → xs.length = us.length
  | [], _, h => by cases h; rfl
  | x :: xs, _, ⟨u, r, e, _, h⟩ => by subst e; simp [RepVs.length h]
theorem RepV.pvT {p : PyData} {v : V} (h : RepV P w K m H mg (.pv p) v) : Rep P w K m H p v := h
end
section
variable {X : Cx} {W : WX} {pos : Pos} {A B C : DE} {a b c : Expr} {es : List Expr} {As : DA} {T T' : DT}
theorem r_nil : PAv X W [] dNil := PA.imp pa_nil fun σ H Q ⟨m, ρ, S, R, h⟩ => h m H [] (Ext.refl _ _) R.s rfl
theorem r_cons (ha : PEv X W a A) (hr : PAv X W es As) (hs : starEach (a :: es) X.env = (false, eval a X.env) :: starEach es X.env := by rfl) : PAv X W (a :: es) (dCons A As) := PA.imp (pa_cons ha hr hs) fun σ H Q ⟨m, ρ, S, R, h⟩ => by
  have h1 := bindE_A (G := Gx.of X) h
  refine ⟨m, ρ, S, R, ?_⟩
  revert h1
  cases A ρ S with
  | err c f S => exact fun z => z
  | bad => exact fun z => z
  | ok x S1 =>
    intro h1 m1 H1 u e s r
    obtain ⟨m1', S1', p, e', s', r', h2⟩ := h1 m1 H1 u e s r
    have h2' := bindA_A (G := Gx.of X) h2
    refine ⟨m1', ρ, S1', R.ext e' s', ?_⟩
    revert h2'
    cases As ρ S1' with
    | err c f S => exact fun z => z
    | bad => exact fun z => z
    | ok y S2 =>
      intro h2' m2 H2 v e2 s2 r2
      obtain ⟨m2', S2', q, e3, s3, r3, h3⟩ := h2' m2 H2 v e2 s2 r2
      exact h3 m2' H2 _ (Ext.refl _ _) s3 ⟨u, v, rfl, RepV.ext r' s'.mok e3, r3⟩
/-- what is made of a list of values -/
theorem tevA_top {k : List Val → Sto → Res Val} {As : DA} {σ : L2.St} {H : Hp} {Q : VK} (h : tev (Gx.of X) W (fun ρ S => (As ρ S).bind k) σ H Q) :
    tevA (Gx.of X) W As σ H fun us H1 => ∃ m1 S1 xs, RepS X.prog X.w X.K m1 H1 S1 ∧ RepVs X.prog X.w X.K m1 H1 X.mg xs us ∧ PostE (Gx.of X) W σ m1 H1 (k xs S1) Q := by
  obtain ⟨m, ρ, S, R, h⟩ := h
  have h1 := bindA_E (G := Gx.of X) h
  refine ⟨m, ρ, S, R, ?_⟩
  revert h1
  cases As ρ S with
  | err c f S => exact fun z => z
  | bad => exact fun z => z
  | ok x S1 =>
    intro h1 m1 H1 u e s r
    obtain ⟨m1', S1', p, e', s', r', h2⟩ := h1 m1 H1 u e s r
    exact ⟨m1', S1', p, s', r', h2⟩
/-- what is made of a value -/
theorem tev_top {k : Val → Sto → Res Val} {A : DE} {σ : L2.St} {H : Hp} {Q : VK} (h : tev (Gx.of X) W (fun ρ S => (A ρ S).bind k) σ H Q) :
    tev (Gx.of X) W A σ H fun u H1 => ∃ m1 S1 x, RepS X.prog X.w X.K m1 H1 S1 ∧ RepV X.prog X.w X.K m1 H1 X.mg x u ∧ PostE (Gx.of X) W σ m1 H1 (k x S1) Q := by
  obtain ⟨m, ρ, S, R, h⟩ := h
  have h1 := PostE.bind (G := Gx.of X) h
  refine ⟨m, ρ, S, R, ?_⟩
  revert h1
  cases A ρ S with
  | err c f S => exact fun z => z
  | bad => exact fun z => z
  | ok x S1 =>
    intro h1 m1 H1 u e s r
    obtain ⟨m1', S1', p, e', s', r', h2⟩ := h1 m1 H1 u e s r
    exact ⟨m1', S1', p, s', r', h2⟩
theorem r_tup {x1} (h : PAv X W es As) : PEv X W (.Tuple es x1 pos) (dTup As) := PE.imp (pe_tup h) fun σ H Q h => by
  have h1 := tevA_top h
  obtain ⟨m, ρ, S, R, h1⟩ := h1
  refine ⟨m, ρ, S, R, ?_⟩
  revert h1
  cases As ρ S with
  | err c f S => exact fun z => z
  | bad => exact fun z => z
  | ok x S1 =>
    intro h1 m1 H1 us e s r
    obtain ⟨m2, S2, xs, s2, r2, h2⟩ := h1 m1 H1 us e s r
    split at h2
    · rename_i ps hp
      split at h2
      · rename_i hz
        have q := pvs_reps hp r2
        exact ⟨by rw [← Reps.length q]; exact sz_of hz, fun p np => h2 m2 _ _ (Ext.upd np) (s2.upd np) ⟨p, us, rfl, SqT.of upd_same, Reps.go (Go.of s2.mok (Ext.upd np)) _ _ q⟩⟩
      · exact h2.elim
    · exact h2.elim
theorem r_lst (h : PAv X W es As) : PEv X W (.List es pos) (dLst As) := PE.imp (pe_lst h) fun σ H Q h => by
  have h1 := tevA_top h
  obtain ⟨m, ρ, S, R, h1⟩ := h1
  refine ⟨m, ρ, S, R, ?_⟩
  revert h1
  cases As ρ S with
  | err c f S => exact fun z => z
  | bad => exact fun z => z
  | ok x S1 =>
    intro h1 m1 H1 us e s r
    obtain ⟨m2, S2, xs, s2, r2, h2⟩ := h1 m1 H1 us e s r
    split at h2
    · rename_i ps hp
      split at h2
      · rename_i hz
        have q := pvs_reps hp r2
        exact ⟨by rw [← Reps.length q]; exact sz_of hz, fun p np => h2 m2 _ _ (Ext.upd np) (s2.upd np) ⟨p, us, rfl, upd_same, s2.notin np, Reps.go (Go.of s2.mok (Ext.upd np)) _ _ q⟩⟩
      · exact h2.elim
    · exact h2.elim
/-- a list display that will be changed -/
theorem r_new (h : PAv X W es As) : PEv X W (.List es pos) (dNew As) := PE.imp (pe_lst h) fun σ H Q h => by
  have h1 := tevA_top h
  obtain ⟨m, ρ, S, R, h1⟩ := h1
  refine ⟨m, ρ, S, R, ?_⟩
  revert h1
  cases As ρ S with
  | err c f S => exact fun z => z
  | bad => exact fun z => z
  | ok x S1 =>
    intro h1 m1 H1 us e s r
    obtain ⟨m2, S2, xs, s2, r2, h2⟩ := h1 m1 H1 us e s r
    split at h2
    · rename_i ps hp
      split at h2
      · rename_i hz
        have q := pvs_reps hp r2
        refine ⟨by rw [← Reps.length q]; exact sz_of hz, fun p np => ?_⟩
        have ex : Ext m2 H1 (m2.push p) (upd H1 p (.lst us)) := (Ext.new1 np s2.mok)
        have n := s2.new (o := .lst ps) np ⟨us, upd_same, Reps.go (Go.of s2.mok ex) _ _ q⟩
        exact h2 _ _ _ ex n ⟨by show _ < (m2.st ++ [some p]).length; rw [List.length_append, s2.len]; simp, fun a ha => by have ha : (m2.st ++ [some p])[S2.length]? = some (some a) := ha; rw [← s2.len] at ha; simp at ha; rw [ha]⟩
      · exact h2.elim
    · exact h2.elim
end
end Mi
set_option maxHeartbeats 4000000
namespace Mi
open PySem PySem.Spec PyProof.Rows L2
section
variable {X : Cx} {W : WX} {pos : Pos} {A B C : DE} {a b c : Expr} {es rest : List Expr} {As : DA} {T T' : DT}
/-- what is made of a value, as a test -/
theorem tevV_topT {k : Val → Sto → Res Bool} {A : DE} {σ : L2.St} {H : Hp} {Q : Bool → Hp → Prop} (h : tevT (Gx.of X) W (fun ρ S => (A ρ S).bind k) σ H Q) :
    tev (Gx.of X) W A σ H fun u H1 => ∃ m1 S1 x, RepS X.prog X.w X.K m1 H1 S1 ∧ RepV X.prog X.w X.K m1 H1 X.mg x u ∧ PostT (Gx.of X) W σ m1 H1 (k x S1) Q := by
  obtain ⟨m, ρ, S, R, h⟩ := h
  have h1 := bindE_T (G := Gx.of X) h
  refine ⟨m, ρ, S, R, ?_⟩
  revert h1
  cases A ρ S with
  | err c f S => exact fun z => z
  | bad => exact fun z => z
  | ok x S1 =>
    intro h1 m1 H1 u e s r
    obtain ⟨m1', S1', p, e', s', r', h2⟩ := h1 m1 H1 u e s r
    exact ⟨m1', S1', p, s', r', h2⟩
theorem tev_get {A : DE} {σ : L2.St} {H : Hp} {Q Q' : VK} (h : tev (Gx.of X) W A σ H Q) (f : ∀ v H', Q v H' → Q' v H') : tev (Gx.of X) W A σ H Q' := by
  obtain ⟨m, ρ, S, R, h⟩ := h
  refine ⟨m, ρ, S, R, ?_⟩
  revert h
  cases A ρ S with
  | err c f S => exact fun z => z
  | bad => exact fun z => z
  | ok x S1 => exact fun h m1 H1 u e s r => f _ _ (h m1 H1 u e s r)
theorem blOf_T {x : Val} {S : Sto} {σ : L2.St} {m : Mp} {H : Hp} {Q : Bool → Hp → Prop} {v : V} (s : RepS X.prog X.w X.K m H S) (r : RepV X.prog X.w X.K m H X.mg x v) (h : PostT (Gx.of X) W σ m H (blOf x S) Q) : ∃ b, v = .bl b ∧ Q b H := by
  unfold blOf at h
  split at h
  · exact ⟨_, r, h m H (Ext.refl _ _) s⟩
  · exact h.elim
theorem blOf_E {x : Val} {S : Sto} {k : Bool → Sto → Res Val} {σ : L2.St} {m : Mp} {H : Hp} {Q : VK} {v : V} (r : RepV X.prog X.w X.K m H X.mg x v) (h : PostE (Gx.of X) W σ m H ((blOf x S).bind k) Q) : ∃ b, v = .bl b ∧ x = .pv (.bool b) ∧ PostE (Gx.of X) W σ m H (k b S) Q := by
  unfold blOf at h
  split at h
  · exact ⟨_, r, rfl, h⟩
  · exact h.elim
/-- a value as a test -/
theorem q_val (h : PEv X W a A) (he : ∀ whole, isTrue a X.env whole = (do let v ← whole; standAt a.pos; holding [v] (truthy v)) := by intro _; rfl) : PTv X W a (dTst A) := PT.imp (pt_val h he) fun σ H Q q => tev_get (tevV_topT q) fun v H' ⟨m1, S1, x, s1, r1, h1⟩ => blOf_T s1 r1 h1
theorem q_not (h : PTv X W a T) : PTv X W (.UnaryOp .Not a pos) (dNotT T) := PT.imp (pt_not h) fun σ H Q ⟨m, ρ, S, R, h⟩ => by
  have h1 := bindT_T (G := Gx.of X) h
  refine ⟨m, ρ, S, R, ?_⟩
  revert h1
  cases T ρ S with
  | err c f S => exact fun z => z
  | bad => exact fun z => z
  | ok x S1 =>
    intro h1 m1 H1 e s
    obtain ⟨m1', S1', e', s', h2⟩ := h1 m1 H1 e s
    exact h2 m1' H1 (Ext.refl _ _) s'
theorem w_and1 (h : PTv X W a T) : PWv X W (.BoolOp .And [a] pos) T := pw_and1 h
theorem w_or1 (h : PTv X W a T) : PWv X W (.BoolOp .Or [a] pos) T := pw_or1 h
theorem dT_top {k : Bool → Sto → Res Bool} {σ : L2.St} {H : Hp} {Q : Bool → Hp → Prop} (h : tevT (Gx.of X) W (fun ρ S => (T ρ S).bind k) σ H Q) :
    tevT (Gx.of X) W T σ H fun b H1 => ∃ m1 S1 ρ, Rd0 (Gx.of X) m1 ρ S1 σ H1 ∧ PostT (Gx.of X) W σ m1 H1 (k b S1) Q := by
  obtain ⟨m, ρ, S, R, h⟩ := h
  have h1 := bindT_T (G := Gx.of X) h
  refine ⟨m, ρ, S, R, ?_⟩
  revert h1
  cases T ρ S with
  | err c f S => exact fun z => z
  | bad => exact fun z => z
  | ok x S1 =>
    intro h1 m1 H1 e s
    obtain ⟨m1', S1', e', s', h2⟩ := h1 m1 H1 e s
    exact ⟨m1', S1', ρ, R.ext e' s', h2⟩
theorem w_and (ha : PTv X W a T) (hb : PWv X W (.BoolOp .And (b :: rest) pos) T') : PWv X W (.BoolOp .And (a :: b :: rest) pos) (dAndT T T') := PW.imp (pw_and ha hb) fun σ H Q ⟨m, ρ, S, R, h⟩ => by
  have h1 := bindT_T (G := Gx.of X) h
  refine ⟨m, ρ, S, R, ?_⟩
  revert h1
  cases T ρ S with
  | err c f S => exact fun z => z
  | bad => exact fun z => z
  | ok x S1 =>
    intro h1 m1 H1 e s
    obtain ⟨m1', S1', e', s', h2⟩ := h1 m1 H1 e s
    cases x with
    | true => exact ⟨m1', ρ, S1', R.ext e' s', h2⟩
    | false => exact h2 m1' H1 (Ext.refl _ _) s'
theorem w_or (ha : PTv X W a T) (hb : PWv X W (.BoolOp .Or (b :: rest) pos) T') : PWv X W (.BoolOp .Or (a :: b :: rest) pos) (dOrT T T') := PW.imp (pw_or ha hb) fun σ H Q ⟨m, ρ, S, R, h⟩ => by
  have h1 := bindT_T (G := Gx.of X) h
  refine ⟨m, ρ, S, R, ?_⟩
  revert h1
  cases T ρ S with
  | err c f S => exact fun z => z
  | bad => exact fun z => z
  | ok x S1 =>
    intro h1 m1 H1 e s
    obtain ⟨m1', S1', e', s', h2⟩ := h1 m1 H1 e s
    cases x with
    | false => exact ⟨m1', ρ, S1', R.ext e' s', h2⟩
    | true => exact h2 m1' H1 (Ext.refl _ _) s'
theorem q_bool (h : PWv X W a T) : PTv X W a T := PW.pt h
theorem r_not (ha : PEv X W a A) : PEv X W (.UnaryOp .Not a pos) (dNot A) := PE.imp (pe_not ha) fun σ H Q q => tev_get (tev_top q) fun v H' ⟨m1, S1, x, s1, r1, h1⟩ => by
  obtain ⟨b, e, _, h2⟩ := blOf_E r1 h1
  exact ⟨b, e, post_ok h2 s1 rfl⟩
theorem r_one {op} (h : PEv X W a A) : PEv X W (.BoolOp op [a] pos) A := pe_one h
theorem r_and (ha : PEv X W a A) (hb : PEv X W (.BoolOp .And (b :: rest) pos) B) : PEv X W (.BoolOp .And (a :: b :: rest) pos) (dAnd A B) := PE.imp (pe_and ha hb) fun σ H Q ⟨m, ρ, S, R, h⟩ => by
  have h1 := PostE.bind (G := Gx.of X) h
  refine ⟨m, ρ, S, R, ?_⟩
  revert h1
  cases A ρ S with
  | err c f S => exact fun z => z
  | bad => exact fun z => z
  | ok x S1 =>
    intro h1 m1 H1 u e s r
    obtain ⟨m1', S1', p, e', s', r', h2⟩ := h1 m1 H1 u e s r
    obtain ⟨b, eb, _, h2⟩ := blOf_E r' h2
    refine ⟨b, eb, ?_⟩
    cases b with
    | true => exact ⟨m1', ρ, S1', R.ext e' s', h2⟩
    | false => exact post_ok h2 s' rfl
theorem r_or (ha : PEv X W a A) (hb : PEv X W (.BoolOp .Or (b :: rest) pos) B) : PEv X W (.BoolOp .Or (a :: b :: rest) pos) (dOr A B) := PE.imp (pe_or ha hb) fun σ H Q ⟨m, ρ, S, R, h⟩ => by
  have h1 := PostE.bind (G := Gx.of X) h
  refine ⟨m, ρ, S, R, ?_⟩
  revert h1
  cases A ρ S with
  | err c f S => exact fun z => z
  | bad => exact fun z => z
  | ok x S1 =>
    intro h1 m1 H1 u e s r
    obtain ⟨m1', S1', p, e', s', r', h2⟩ := h1 m1 H1 u e s r
    obtain ⟨b, eb, _, h2⟩ := blOf_E r' h2
    refine ⟨b, eb, ?_⟩
    cases b with
    | false => exact ⟨m1', ρ, S1', R.ext e' s', h2⟩
    | true => exact post_ok h2 s' rfl
theorem r_if (hc : PTv X W c T) (ha : PEv X W a A) (hb : PEv X W b B) : PEv X W (.IfExp c a b pos) (dIf T A B) := PE.imp (pe_ifExp hc ha hb) fun σ H Q ⟨m, ρ, S, R, h⟩ => by
  have h1 := bindT_E (G := Gx.of X) h
  refine ⟨m, ρ, S, R, ?_⟩
  revert h1
  cases T ρ S with
  | err c f S => exact fun z => z
  | bad => exact fun z => z
  | ok x S1 =>
    intro h1 m1 H1 e s
    obtain ⟨m1', S1', e', s', h2⟩ := h1 m1 H1 e s
    cases x with
    | true => exact ⟨m1', ρ, S1', R.ext e' s', h2⟩
    | false => exact ⟨m1', ρ, S1', R.ext e' s', h2⟩
theorem ch_top {f g : PyData → PyData → Option PyData} {σ : L2.St} {H : Hp} {Q : VK} (h : tev (Gx.of X) W (dCh f g A B C) σ H Q) : tChain (rOf X f) (rOf X g) (tev (Gx.of X) W A) (tev (Gx.of X) W B) (tev (Gx.of X) W C) σ H Q := by
  obtain ⟨m, ρ, S, R, h⟩ := h
  have h1 := PostE.bind (G := Gx.of X) h
  refine ⟨m, ρ, S, R, ?_⟩
  revert h1
  cases A ρ S with
  | err c f S => exact fun z => z
  | bad => exact fun z => z
  | ok x S1 =>
    intro h1 m1 H1 u e s r
    obtain ⟨m1', S1', p, e', s', r', h2⟩ := h1 m1 H1 u e s r
    have h2' := PostE.bind (G := Gx.of X) h2
    refine ⟨m1', ρ, S1', R.ext e' s', ?_⟩
    revert h2'
    cases B ρ S1' with
    | err c f S => exact fun z => z
    | bad => exact fun z => z
    | ok y S2 =>
      intro h2' m2 H2 v e2 s2 r2
      obtain ⟨m2', S2', q, e3, s3, r3, h3⟩ := h2' m2 H2 v e2 s2 r2
      have h3' := PostE.bind (G := Gx.of X) h3
      have R2 : Rd0 (Gx.of X) m2' ρ S2' σ H2 := (R.ext e' s').ext e3 s3
      refine lift2_rOf (W := W) (σ := σ) s3 (RepV.ext r' s'.mok e3) r3 ?_
      revert h3'
      cases lift2 f p q S2' with
      | err c f S => exact fun z => z
      | bad => exact fun z => z
      | ok z S3 =>
        intro h3' m3 H3 k e4 s4 r4
        obtain ⟨m3', S3', z', e5, s5, r5, h4⟩ := h3' m3 H3 k e4 s4 r4
        obtain ⟨b', eb, _, h4⟩ := blOf_E r5 h4
        refine ⟨b', eb, ?_⟩
        cases b' with
        | false => exact post_ok h4 s5 rfl
        | true =>
          have h5 := PostE.bind (G := Gx.of X) h4
          refine ⟨m3', ρ, S3', R2.ext e5 s5, ?_⟩
          revert h5
          cases C ρ S3' with
          | err c f S => exact fun z => z
          | bad => exact fun z => z
          | ok cv S4 =>
            intro h5 m4 H4 cu e6 s6 r6
            obtain ⟨m4', S4', c', e7, s7, r7, h6⟩ := h5 m4 H4 cu e6 s6 r6
            exact lift2_rOf s7 (RepV.ext (RepV.ext r3 s3.mok e5) s5.mok e7) r7 h6
/-- a < b <= c -/
theorem r_chain {op op' : CmpOp} {f g : PyData → PyData → Option PyData} (ho : Op2 X (compareOp op) f) (ho' : Op2 X (compareOp op') g) (ha : PEv X W a A) (hb : PEv X W b B) (hc : PEv X W c C) (hm : lastMarks [op, op'] [b, c] = false := by with_unfolding_all rfl) :
    PEv X W (.Compare a [op, op'] [b, c] pos) (dCh f g A B C) := PE.imp (pe_chain ho ho' ha hb hc hm) fun σ H Q h => ch_top h
/-- comparisons as tests -/
theorem q_cmp {op : CmpOp} {f : PyData → PyData → Option PyData} (ho : Op2 X (compareOp op) f) (ha : PEv X W a A) (hb : PEv X W b B) (hm : behindInMarks op b = false := by rfl) : PTv X W (.Compare a [op] [b] pos) (dTst (d2 f A B)) :=
  PT.imp (pt_cmpR ho ha hb hm) fun σ H Q q => d2_top (tev_get (tevV_topT q) fun v H' ⟨m1, S1, x, s1, r1, h1⟩ => blOf_T s1 r1 h1)
theorem q_chain {op op' : CmpOp} {f g : PyData → PyData → Option PyData} (ho : Op2 X (compareOp op) f) (ho' : Op2 X (compareOp op') g) (ha : PEv X W a A) (hb : PEv X W b B) (hc : PEv X W c C) (hm : lastMarks [op, op'] [b, c] = false := by with_unfolding_all rfl) :
    PTv X W (.Compare a [op, op'] [b, c] pos) (dTst (dCh f g A B C)) := PT.imp (pt_chain ho ho' ha hb hc hm) fun σ H Q q => ch_top (tev_get (tevV_topT q) fun v H' ⟨m1, S1, x, s1, r1, h1⟩ => blOf_T s1 r1 h1)
def ixOf : PyData → PyData → Option PyData
  | .list xs, .int i => atI xs i
  | .tuple xs, .int i => atI xs i
  | .str z, .int i => if szOk z.length then (atI z.cps.toList i).map fun c => .str ⟨#[c]⟩ else none
  | .dict kvs, k => (dkey k).bind fun n => dfind kvs n
  | _, _ => none
def liftIx (x y : Val) (S : Sto) : Res Val := match x.getR S with
  | some p => match y.get S with
    | some q => match ixOf p q with
      | some z => .ok (.pv z) S
      | none => .bad
    | none => .bad
  | none => .bad
def dIx (A B : DE) : DE := fun ρ S => (A ρ S).bind fun x S1 => (B ρ S1).bind fun y S2 => liftIx x y S2
theorem reps_at {P : Program} {w : World} {K : PySem.W.Frag} {m : Mp} {H : Hp} {ps : List PyData} {us : List V} {i : Int} {p : PyData} (h : Reps P w K m H ps us) (e : atI ps i = some p) : ∃ u, atI us i = some u ∧ Rep P w K m H p u := by
  unfold atI at e ⊢
  rw [← Reps.length h]
  cases q : ixN ps.length i with
  | none => rw [q] at e; cases e
  | some j => rw [q] at e; exact Reps.get j h e
theorem ix_all (hu : X.A.units + 65 < cLine) {σ0 : L2.St} : IxR X (fun u v H Q => ∃ m S x y, RepS X.prog X.w X.K m H S ∧ RepV X.prog X.w X.K m H X.mg x u ∧ RepV X.prog X.w X.K m H X.mg y v ∧ PostE (Gx.of X) W σ0 m H (liftIx x y S) Q) := by
  intro value slice pins s σ H u v uu vv Q I ru rv ⟨m, S, x, y, rs, rx, ry, h⟩ hs
  unfold liftIx at h
  split at h
  · rename_i p hp
    split at h
    · rename_i q hq
      split at h
      · rename_i z hz
        have fin : ∀ w, Rep X.prog X.w X.K m H z w → Q w H := fun w r => post_ok h rs r
        have rq := peek ry rs hq
        have lst : ∀ (xs : List PyData) (i : Int) (a : Addr) (us : List V), u = .ref a → SqL X.K H a us → Reps X.prog X.w X.K m H xs us → q = .int i → atI xs i = some z → wpAny (model X.prog X.w) X.A (subscriptTail value slice uu vv) (EP X pins σ Q) X.xe s := by
          intro xs i a us eu hl hr eq e
          subst eu eq
          obtain ⟨w, e1, r1⟩ := reps_at hr e
          obtain rfl : v = .int i := rq
          exact ix_list value slice pins s σ H _ _ uu vv Q I ru rv ⟨a, us, i, w, rfl, rfl, hl, e1, fin w r1⟩ hs
        have main : RepT X.prog X.w X.K m H p u → wpAny (model X.prog X.w) X.A (subscriptTail value slice uu vv) (EP X pins σ Q) X.xe s := by
          intro rp
          unfold ixOf at hz
          split at hz
          · obtain ⟨a, us, e, hl, hr⟩ := rp
            exact lst _ _ a us e (SqL.of hl) hr rfl hz
          · obtain ⟨a, us, e, hl, hr⟩ := rp
            subst e
            obtain ⟨w, e1, r1⟩ := reps_at hr hz
            cases rq
            exact ix_tup value slice pins s σ H _ _ uu vv Q I ru rv ⟨a, us, _, w, rfl, rfl, hl, e1, fin w r1⟩ hs
          · split at hz
            · rename_i hz'
              simp only [Option.map_eq_some_iff] at hz
              obtain ⟨c, e1, rfl⟩ := hz
              cases rp; cases rq
              exact ix_str value slice pins s σ H _ _ uu vv Q I ru rv ⟨_, _, c, rfl, rfl, sz_of hz', e1, fin _ rfl⟩ hs
            · cases hz
          · simp only [Option.bind_eq_some_iff] at hz
            obtain ⟨nk, e, hz⟩ := hz
            obtain ⟨⟨ps, rfl⟩, e1, e2⟩ := dkey_of e
            obtain ⟨ka, us, rfl, hT, hr⟩ := rq
            obtain ⟨a, xs, rfl, hd, hy, hl, nd, rk⟩ := rp
            obtain rfl : vv = Value.ref ka := rv
            obtain rfl : uu = Value.ref a := ru
            have hm : s.heap.DictKeyed (nestedKind X.prog X.w) a (pairsH xs.l) := ⟨xs.l, dict_of I hd nd rk, rfl⟩
            have hk : (nestedKind X.prog X.w).is s.heap nk ka := ⟨nested_of I (.tuple ps) (.ref ka) _ nk e1 ⟨ka, us, rfl, hT, hr⟩ rfl, e2⟩
            have room : (nestedKind X.prog X.w).room X.A.in1 := by show X.A.units + 1 + 8 < cLine; omega
            rcases dfind_at nk rk with ⟨h1, h2⟩ | ⟨p, u, v, h1, h2, h3, h4⟩
            · rw [h1] at hz; cases hz
            · rw [h1] at hz; cases hz
              exact tail_any hm.typeIs PySem.F.slot_dict_getitem.lookup (getItem_keyed room hk hm h2 ⟨v, H, I.tok _, h3, fin v h4⟩) hs
          · cases hz
        cases x with
        | ro xs =>
          obtain rfl : p = .list xs := (Option.some.inj hp).symm
          cases q with
          | int i =>
            obtain ⟨a, us, e, hl, hr⟩ := rx
            exact lst xs i a us e (by rcases hl with ⟨hl, _⟩ | hl; exact .inl hl; exact hl H) hr rfl hz
          | _ => cases hz
        | fn f => cases hp
        | pv p' => exact main (peek rx rs hp)
        | loc l => exact main (peek rx rs hp)
      · exact h.elim
    · exact h.elim
  · exact h.elim
theorem d2v_top {k : Val → Val → Sto → Res Val} {σ : L2.St} {H : Hp} {Q : VK} (h : tev (Gx.of X) W (fun ρ S => (A ρ S).bind fun x S1 => (B ρ S1).bind fun y S2 => k x y S2) σ H Q) :
    tev (Gx.of X) W A σ H fun u H1 => tev (Gx.of X) W B σ H1 fun v H2 => ∃ m S x y, RepS X.prog X.w X.K m H2 S ∧ RepV X.prog X.w X.K m H2 X.mg x u ∧ RepV X.prog X.w X.K m H2 X.mg y v ∧ PostE (Gx.of X) W σ m H2 (k x y S) Q := by
  obtain ⟨m, ρ, S, R, h⟩ := h
  have h1 := PostE.bind (G := Gx.of X) h
  refine ⟨m, ρ, S, R, ?_⟩
  revert h1
  cases A ρ S with
  | ok x S1 =>
    intro h1 m1 H1 u e s r
    obtain ⟨m1', S1', p, e', s', r', h2⟩ := h1 m1 H1 u e s r
    have h2' := PostE.bind (G := Gx.of X) h2
    refine ⟨m1', ρ, S1', R.ext e' s', ?_⟩
    revert h2'
    cases B ρ S1' with
    | ok y S2 =>
      intro h2' m2 H2 v e2 s2 r2
      obtain ⟨m2', S2', q, e3, s3, r3, h3⟩ := h2' m2 H2 v e2 s2 r2
      exact ⟨m2', S2', p, q, s3, RepV.ext r' s'.mok e3, r3, h3⟩
    | err c f S => exact fun z => z
    | bad => exact fun z => z
  | err c f S => exact fun z => z
  | bad => exact fun z => z
theorem r_ix (hu : X.A.units + 65 < cLine) (ha : PEv X W a A) (hb : PEv X W b B) (hs : PlainIx b := by exact fun _ _ => rfl) : PEv X W (.Subscript a b pos) (dIx A B) :=
  ⟨fun pins s σ H Q I h => (pe_ix (ix_all (W := W) (σ0 := σ) hu) ha hb hs).run pins s σ H Q I (d2v_top h)⟩
abbrev DO := En → Sto → Res (Option Int)
def intOf (x : Val) (S : Sto) : Res (Option Int) := match x with
  | .pv (.int i) => .ok (some i) S
  | _ => .bad
def dNo : DO := fun _ S => .ok none S
def dPt (A : DE) : DO := fun ρ S => (A ρ S).bind intOf
def cutP (xs : List PyData) (lo hi : Option Int) : List PyData := (xs.drop (HT.sIx xs.length 0 lo)).take (HT.sIx xs.length xs.length hi - HT.sIx xs.length 0 lo)
def slOf (lo hi : Option Int) : PyData → Option PyData
  | .list xs => some (.list (cutP xs lo hi))
  | .tuple xs => some (.tuple (cutP xs lo hi))
  | .str z => if szOk z.length then some (.str (cutS z lo hi)) else none
  | _ => none
def liftSl (x : Val) (lo hi : Option Int) (S : Sto) : Res Val := match x.get S with
  | some p => match slOf lo hi p with
    | some z => .ok (.pv z) S
    | none => .bad
  | none => .bad
def dSl (A : DE) (L U : DO) : DE := fun ρ S => (A ρ S).bind fun x S1 => (L ρ S1).bind fun lo S2 => (U ρ S2).bind fun hi S3 => liftSl x lo hi S3
def PostO (G : Gx) (W : WX) (σ : L2.St) (m : Mp) (H : Hp) (r : Res (Option Int)) (Q : Option Int → Hp → Prop) : Prop := match r with
  | .ok b S => ∀ m' H', Ext m H m' H' → RepS G.P G.w G.K m' H' S → Q b H'
  | .err c f S => ∀ m' H' cls d, Ext m H m' H' → RepS G.P G.w G.K m' H' S → RepX G m' H' c f cls d → W cls d σ H'
  | .bad => False
def tevO (G : Gx) (W : WX) (D : DO) : TO := fun σ H Q => ∃ m ρ S, Rd0 G m ρ S σ H ∧ PostO G W σ m H (D ρ S) Q
abbrev POv (X : Cx) (W : WX) (e : Option Expr) (D : DO) : Prop := PO X e (tevO (Gx.of X) W D)
theorem o_none : POv X W none dNo := ⟨fun pins s σ H Q I ⟨m, ρ, S, R, h⟩ => po_none.run pins s σ H Q I (h m H (Ext.refl _ _) R.s)⟩
theorem o_some (ha : PEv X W a A) : POv X W (some a) (dPt A) := ⟨fun pins s σ H Q I ⟨m, ρ, S, R, h⟩ => (po_some ha).run pins s σ H Q I (by
  refine ⟨m, ρ, S, R, ?_⟩
  have h : PostO (Gx.of X) W σ m H ((A ρ S).bind intOf) Q := h
  revert h
  cases A ρ S with
  | err c f S => exact fun z => z
  | bad => exact fun z => z
  | ok x S1 =>
    intro h m1 H1 u e s r
    simp only [Res.bind_ok, intOf] at h
    split at h
    · exact ⟨_, r, h m1 H1 e s⟩
    · exact h.elim)⟩
theorem cut_reps {P : Program} {w : World} {K : PySem.W.Frag} {m : Mp} {H : Hp} {ps : List PyData} {us : List V} {lo hi : Option Int} (h : Reps P w K m H ps us) : Reps P w K m H (cutP ps lo hi) (cutV us lo hi) := by
  unfold cutP cutV
  rw [Reps.length h]
  exact Reps.take _ (Reps.drop _ h)
theorem sl_all {σ0 : L2.St} : SlR X (fun u lo hi H Q => ∃ m S x, RepS X.prog X.w X.K m H S ∧ RepV X.prog X.w X.K m H X.mg x u ∧ PostE (Gx.of X) W σ0 m H (liftSl x lo hi S) Q) := by
  intro pins s σ H u v vl vu lo hi sl Q I ru hsl pl pu ⟨m, S, x, rs, rx, h⟩
  unfold liftSl at h
  split at h
  · rename_i p hp
    split at h
    · rename_i z hz
      have rp := peek rx rs hp
      unfold slOf at hz
      split at hz
      · cases hz
        obtain ⟨a, us, e, hl, hr⟩ := rp
        exact sl_list pins s σ H u v vl vu lo hi sl Q I ru hsl pl pu ⟨a, us, e, SqL.of hl, fun p np => h m _ _ (Ext.upd np) (rs.upd np) ⟨p, _, rfl, upd_same, rs.notin np, Reps.go (Go.of rs.mok (Ext.upd np)) _ _ (cut_reps hr)⟩⟩
      · cases hz
        obtain ⟨a, us, e, hl, hr⟩ := rp
        refine sl_tupA pins s σ H u v vl vu lo hi sl Q I ru hsl pl pu ⟨a, us, e, hl, fun hw => ?_, fun hw p np => h m _ _ (Ext.upd np) (rs.upd np) ⟨p, _, rfl, SqT.of upd_same, Reps.go (Go.of rs.mok (Ext.upd np)) _ _ (cut_reps hr)⟩⟩
        have hc := cut_reps (lo := lo) (hi := hi) hr
        have e2 : cutV us lo hi = us := by
          unfold cutV
          rw [hw.1, hw.2]
          simp
        rw [e2] at hc
        exact h m H _ (Ext.refl _ _) rs ⟨a, us, rfl, hl, hc⟩
      · split at hz
        · rename_i hz'
          cases hz; cases rp
          exact sl_str pins s σ H _ v vl vu lo hi sl Q I ru hsl pl pu ⟨_, rfl, sz_of hz', h m H _ (Ext.refl _ _) rs rfl⟩
        · cases hz
      · cases hz
    · exact h.elim
  · exact h.elim
theorem r_sl {lo hi : Option Expr} {L U : DO} {p2} (ha : PEv X W a A) (hl : POv X W lo L) (hh : POv X W hi U) : PEv X W (.Subscript a (.Slice lo hi none p2) pos) (dSl A L U) :=
  ⟨fun pins s σ H Q I h => (pe_slice (sl_all (W := W) (σ0 := σ)) ha hl hh).run pins s σ H Q I (by
    obtain ⟨m, ρ, S, R, h⟩ := h
    have h1 := PostE.bind (G := Gx.of X) h
    refine ⟨m, ρ, S, R, ?_⟩
    revert h1
    cases A ρ S with
    | err c f S => exact fun z => z
    | bad => exact fun z => z
    | ok x S1 =>
      intro h1 m1 H1 u e s r
      obtain ⟨m1', S1', p, e', s', r', h2⟩ := h1 m1 H1 u e s r
      refine ⟨m1', ρ, S1', R.ext e' s', ?_⟩
      revert h2
      cases L ρ S1' with
      | err c f S => exact fun z => z
      | bad => exact fun z => z
      | ok lo S2 =>
        intro h2 m2 H2 e2 s2
        have R2 := (R.ext e' s').ext e2 s2
        refine ⟨m2, ρ, S2, R2, ?_⟩
        have h2 : PostE (Gx.of X) W σ m1' H1 ((U ρ S2).bind fun hi S3 => liftSl p lo hi S3) Q := h2
        revert h2
        cases U ρ S2 with
        | err c f S => exact fun h2 m' H' cls d e s => h2 m' H' cls d (e2.trans e) s
        | bad => exact fun z => z
        | ok hi S3 =>
          intro h2 m3 H3 e3 s3
          exact ⟨m3, S3, p, s3, RepV.ext (RepV.ext r' s'.mok e2) s2.mok e3, PostE.ext (G := Gx.of X) (r := liftSl p lo hi S3) h2 (e2.trans e3)⟩)⟩
end
end Mi
set_option maxHeartbeats 4000000
namespace Mi
open PySem PySem.Spec PyProof.Rows L2
abbrev Fn := List Val → Sto → Res Val
/-- a statement's end -/
inductive SR where
  | next (ρ : En) (S : Sto) | ret (v : Val) (S : Sto) | brk (ρ : En) (S : Sto) | cnt (ρ : En) (S : Sto) | err (c : Str) (f : Option (Str × PyData)) (ρ : En) (S : Sto) | bad
abbrev DS := En → Sto → SR
def Res.s {α : Type} (r : Res α) (ρ : En) (k : α → Sto → SR) : SR := match r with
  | .ok a S => k a S
  | .err c f S => .err c f ρ S
  | .bad => .bad
@[simp] theorem Res.s_ok {α : Type} (a : α) (S : Sto) (ρ : En) (k : α → Sto → SR) : (Res.ok a S).s ρ k = k a S := rfl
@[simp] theorem Res.s_err {α : Type} (c f S) (ρ : En) (k : α → Sto → SR) : (Res.err c f S).s ρ k = .err c f ρ S := rfl
@[simp] theorem Res.s_bad {α : Type} (ρ : En) (k : α → Sto → SR) : (Res.bad : Res α).s ρ k = .bad := rfl
def SR.next? (r : SR) (k : En → Sto → SR) : SR := match r with
  | .next ρ S => k ρ S
  | r => r
@[simp] theorem SR.next?_next (ρ S) (k : En → Sto → SR) : (SR.next ρ S).next? k = k ρ S := rfl
@[simp] theorem SR.next?_ret (v S) (k : En → Sto → SR) : (SR.ret v S).next? k = .ret v S := rfl
@[simp] theorem SR.next?_err (c f ρ S) (k : En → Sto → SR) : (SR.err c f ρ S).next? k = .err c f ρ S := rfl
@[simp] theorem SR.next?_bad (k : En → Sto → SR) : SR.bad.next? k = .bad := rfl
@[simp] theorem SR.next?_brk (ρ S) (k : En → Sto → SR) : (SR.brk ρ S).next? k = .brk ρ S := rfl
@[simp] theorem SR.next?_cnt (ρ S) (k : En → Sto → SR) : (SR.cnt ρ S).next? k = .cnt ρ S := rfl

section
variable (G : Gx)
def PostS (W : WX) (m : Mp) (H : Hp) (r : SR) (D : Ends) : Prop := match r with
  | .next ρ S => ∀ m' H' σ, Ext m H m' H' → Rd0 G m' ρ S σ H' → D.nx σ H'
  | .ret v S => ∀ m' H' u, Ext m H m' H' → RepS G.P G.w G.K m' H' S → RepV G.P G.w G.K m' H' G.mg v u → D.rt u H'
  | .brk ρ S => ∀ m' H' σ, Ext m H m' H' → Rd0 G m' ρ S σ H' → D.bk σ H'
  | .cnt ρ S => ∀ m' H' σ, Ext m H m' H' → Rd0 G m' ρ S σ H' → D.ct σ H'
  | .err c f ρ S => ∀ m' H' σ cls d, Ext m H m' H' → Rd0 G m' ρ S σ H' → RepX G m' H' c f cls d → W cls d σ H'
  | .bad => False
def tevS (W : WX) (B : DS) : TS := fun D σ H => ∃ m ρ S, Rd0 G m ρ S σ H ∧ PostS G W m H (B ρ S) D
def PostF (E : XK) (m : Mp) (H : Hp) (r : Res Val) (Q : VK) : Prop := match r with
  | .ok p S => ∀ m' H' v, Ext m H m' H' → RepS G.P G.w G.K m' H' S → RepV G.P G.w G.K m' H' G.mg p v → Q v H'
  | .err c f S => ∀ m' H' cls d, Ext m H m' H' → RepS G.P G.w G.K m' H' S → RepX G m' H' c f cls d → E cls d H'
  | .bad => False
/-- what a def promises: it makes what F makes -/
def spF (n : Nat) (F : Fn) : Sp := fun vs H Q E => vs.length = n ∧ ∃ m S xs, RepVs G.P G.w G.K m H G.mg xs vs ∧ RepS G.P G.w G.K m H S ∧ PostF G E m H (F xs S) Q
end
section
variable {G : Gx}
theorem PostS.ext {W : WX} {m m' : Mp} {H H' : Hp} {r : SR} {D : Ends} (h : PostS G W m H r D) (e : Ext m H m' H') : PostS G W m' H' r D := by
  cases r with
  | next ρ S => exact fun m2 H2 v e2 s => h m2 H2 v (e.trans e2) s
  | ret ρ S => exact fun m2 H2 v e2 s => h m2 H2 v (e.trans e2) s
  | brk ρ S => exact fun m2 H2 v e2 s => h m2 H2 v (e.trans e2) s
  | cnt ρ S => exact fun m2 H2 v e2 s => h m2 H2 v (e.trans e2) s
  | err c f ρ S => exact fun m2 H2 v cls d e2 s r => h m2 H2 v cls d (e.trans e2) s r
  | bad => exact h
theorem bindE_S {W : WX} {σ : L2.St} {ρ : En} {S : Sto} {m : Mp} {H : Hp} {r : Res Val} {k : Val → Sto → SR} {D : Ends} (R : Rd0 G m ρ S σ H) (h : PostS G W m H (r.s ρ k) D) :
    PostE G W σ m H r fun v H1 => ∃ m1 S1 p, Ext m H m1 H1 ∧ RepS G.P G.w G.K m1 H1 S1 ∧ RepV G.P G.w G.K m1 H1 G.mg p v ∧ PostS G W m1 H1 (k p S1) D := by
  cases r with
  | ok p S => exact fun m1 H1 v e s rp => ⟨m1, S, p, e, s, rp, PostS.ext h e⟩
  | err c f S => exact fun m' H' cls d e s r => h m' H' σ cls d e (R.ext e s) r
  | bad => exact h
theorem bindT_S {W : WX} {σ : L2.St} {ρ : En} {S : Sto} {m : Mp} {H : Hp} {r : Res Bool} {k : Bool → Sto → SR} {D : Ends} (R : Rd0 G m ρ S σ H) (h : PostS G W m H (r.s ρ k) D) :
    PostT G W σ m H r fun b H1 => ∃ m1 S1, Ext m H m1 H1 ∧ RepS G.P G.w G.K m1 H1 S1 ∧ PostS G W m1 H1 (k b S1) D := by
  cases r with
  | ok p S => exact fun m1 H1 e s => ⟨m1, S, e, s, PostS.ext h e⟩
  | err c f S => exact fun m' H' cls d e s r => h m' H' σ cls d e (R.ext e s) r
  | bad => exact h
theorem Rd0.set {m : Mp} {ρ : En} {S : Sto} {σ : L2.St} {H : Hp} {x : Val} {v : V} (R : Rd0 G m ρ S σ H) (i : Nat) (r : RepV G.P G.w G.K m H G.mg x v) : Rd0 G m (ρ.set i (some x)) S (σ.set i (some v)) H :=
  ⟨⟨by simp [R.e.len], fun j y e => by
    by_cases hj : i = j
    · subst hj
      rw [List.getElem?_set] at e ⊢
      simp only [ite_true] at e ⊢
      split at e
      · rename_i hl
        rw [if_pos (by rw [← R.e.len]; exact hl)]
        cases e
        exact ⟨v, rfl, r⟩
      · cases e
    · rw [List.getElem?_set_ne hj] at e ⊢
      exact R.e.at_ j y e⟩, R.s⟩
end

def dPass : DS := fun ρ S => .next ρ S
def dSeq (A B : DS) : DS := fun ρ S => (A ρ S).next? B
def dSet (i : Nat) (A : DE) : DS := fun ρ S => (A ρ S).s ρ fun x S1 => .next (ρ.set i (some x)) S1
def dRet (A : DE) : DS := fun ρ S => (A ρ S).s ρ fun x S1 => .ret x S1
def dDo (A : DE) : DS := fun ρ S => (A ρ S).s ρ fun _ S1 => .next ρ S1
def dIfS (T : DT) (A B : DS) : DS := fun ρ S => (T ρ S).s ρ fun b S1 => if b = true then A ρ S1 else B ρ S1
/-- targets -/
abbrev DG := Val → En → Option En
def gN (i : Nat) : DG := fun x ρ => some (ρ.set i (some x))
def gT (gs : List DG) : DG := fun x ρ => match x with
  | .pv (.tuple ps) => go gs ps ρ
  | _ => none
where go : List DG → List PyData → En → Option En
  | [], [], ρ => some ρ
  | g :: gs, p :: ps, ρ => (g (.pv p) ρ).bind fun ρ1 => go gs ps ρ1
  | _, _, _ => none
def dAs (g : DG) (A : DE) : DS := fun ρ S => (A ρ S).s ρ fun x S1 => match g x ρ with
  | some ρ1 => .next ρ1 S1
  | none => .bad
/-- two names at once -/
def dPar (i j : Nat) (As : DA) : DS := fun ρ S => (As ρ S).s ρ fun xs S1 => match xs with
  | [x, y] => .next ((ρ.set i (some x)).set j (some y)) S1
  | _ => .bad
/-- the def's end: its own objects go, but one that it hands back -/
def leave (n : Nat) (v : Val) (S : Sto) : Res Val := match v with
  | .loc l => if l < n then .ok v (S.take n) else if l = n then .ok v (S.take (n + 1)) else .bad
  | _ => .ok v (S.take n)
def dEnd (n : Nat) (r : SR) : Res Val := match r with
  | .next _ S1 => leave n (.pv .none) S1
  | .ret v S1 => leave n v S1
  | .err c f _ S1 => .err c f (S1.take n)
  | _ => .bad
/-- a def of k parameters, n slots -/
def dFun (k n : Nat) (B : DS) : Fn := fun xs S => if xs.length = k then dEnd S.length (B (xs.map some ++ List.replicate (n - k) none) S) else .bad
/-- it takes k -/
def Ar (k : Nat) (F : Fn) : Prop := ∀ xs S, xs.length ≠ k → F xs S = .bad
theorem ar_dFun (k n : Nat) (B : DS) : Ar k (dFun k n B) := fun xs S h => by unfold dFun; rw [if_neg h]
def dCall (F : Fn) (As : DA) : DE := fun ρ S => (As ρ S).bind F

section
variable {X : Cx} {W : WX} {pos : Pos} {A B C : DE} {a b c : Expr} {es rest : List Expr} {As : DA} {T T' : DT} {Bs Cs : DS} {st : Stmt} {sts sts' : List Stmt}
abbrev PSv (X : Cx) (W : WX) (s : Stmt) (B : DS) : Prop := PS X s (tevS (Gx.of X) W B)
abbrev PSsv (X : Cx) (W : WX) (s : List Stmt) (B : DS) : Prop := PSs X s (tevS (Gx.of X) W B)
theorem PS.imp {t t' : TS} (h : PS X st t) (f : ∀ D σ H, t' D σ H → t D σ H) : PS X st t' := ⟨fun pins s σ H D I q => h.run pins s σ H D I (f D σ H q)⟩
theorem PSs.imp {t t' : TS} (h : PSs X sts t) (f : ∀ D σ H, t' D σ H → t D σ H) : PSs X sts t' := ⟨fun pins s σ H D I q => h.run pins s σ H D I (f D σ H q)⟩
/-- a call of a def of the text -/
theorem r_call {x : Str} {f : Addr} {fd : FuncData} {ps : List Str} {k n : Nat} {F : Fn} {p : Pos} (Fk : FnOk X.prog X.w X.K X.mg X.base (L2N.CX X.prog X.w) k f fd ps (spF (Gx.of X) n F)) (tk : L2N.Takes X W) (hr : Room k X.A) (hm : X.mg x = some (.ref f))
    (hk : PySem.W.keepIn X.K (.ref f) = true) (hb : Binds X.K fd ps []) (hF : Ar n F) (ha : PAv X W (a :: es) As) (hg : Gl X x := by rfl) (hdb : (x == ("__debug__" : Str)) = false := by decide) (he : starEach (a :: es) X.env = (false, eval a X.env) :: starEach es X.env := by rfl)
    (hpl : (backTo pos (starEach es X.env)).any (·.1) = false := by rfl) : PEv X W (.Call (.Name x p) (a :: es) [] pos) (dCall F As) :=
  PE.imp (pe_callS (E := WE W) Fk hr hg hm hk hb (fun σ => L2N.passAt tk σ) ha hdb he hpl) fun σ H Q h => by
    have h := tevA_top h
    obtain ⟨m, ρ, S, R, h⟩ := h
    refine ⟨m, ρ, S, R, ?_⟩
    revert h
    cases As ρ S with
    | err c f S => exact fun z => z
    | bad => exact fun z => z
    | ok xs S1 =>
      intro h m1 H1 us e s r
      obtain ⟨m2, S2, ys, s2, r2, h2⟩ := h m1 H1 us e s r
      have hlen : us.length = n := by
        by_cases z : ys.length = n
        · rw [← z]; exact (RepVs.length r2).symm
        · rw [hF ys S2 z] at h2; exact h2.elim
      refine ⟨hlen, m2, S2, ys, r2, s2, ?_⟩
      revert h2
      cases F ys S2 with
      | ok v S => exact fun z => z
      | err c f S => exact fun z => z
      | bad => exact fun z => z
theorem s_nil : PSsv X W [] dPass := PSs.imp pss_nil fun D σ H ⟨m, ρ, S, R, h⟩ => h m H σ (Ext.refl _ _) R
theorem s_pass : PSv X W (.Pass pos) dPass := PS.imp ps_pass fun D σ H ⟨m, ρ, S, R, h⟩ => h m H σ (Ext.refl _ _) R
theorem s_one (h : PSv X W st Bs) : PSsv X W [st] Bs := pss_one h
theorem s_cons (h1 : PSv X W st Bs) (h2 : PSsv X W sts Cs) : PSsv X W (st :: sts) (dSeq Bs Cs) := PSs.imp (pss_cons h1 h2) fun D σ H ⟨m, ρ, S, R, h⟩ => by
  refine ⟨m, ρ, S, R, ?_⟩
  unfold dSeq at h
  revert h
  cases Bs ρ S with
  | next ρ1 S1 => exact fun h m1 H1 σ1 e R1 => ⟨m1, ρ1, S1, R1, PostS.ext (G := Gx.of X) h e⟩
  | ret v S1 => exact fun z => z
  | brk ρ1 S1 => exact fun z => z
  | cnt ρ1 S1 => exact fun z => z
  | err c f ρ1 S1 => exact fun z => z
  | bad => exact fun z => z
/-- what a statement makes of a value -/
theorem tevS_top {k : En → Val → Sto → SR} {D : Ends} {σ : L2.St} {H : Hp} (h : tevS (Gx.of X) W (fun ρ S => (A ρ S).s ρ (k ρ)) D σ H) :
    tev (Gx.of X) W A σ H fun u H1 => ∃ m1 S1 x ρ, Rd0 (Gx.of X) m1 ρ S1 σ H1 ∧ RepV X.prog X.w X.K m1 H1 X.mg x u ∧ PostS (Gx.of X) W m1 H1 (k ρ x S1) D := by
  obtain ⟨m, ρ, S, R, h⟩ := h
  have h1 := bindE_S (G := Gx.of X) R h
  refine ⟨m, ρ, S, R, ?_⟩
  revert h1
  cases A ρ S with
  | err c f S => exact fun z => z
  | bad => exact fun z => z
  | ok x S1 =>
    intro h1 m1 H1 u e s r
    obtain ⟨m1', S1', p, e', s', r', h2⟩ := h1 m1 H1 u e s r
    exact ⟨m1', S1', p, ρ, R.ext e' s', r', h2⟩
theorem s_set {i : Nat} {x : Str} {pos' : Pos} (hN : X.N.Nodup) (he : PEv X W a A) (hi : X.N[i]? = some x := by rfl) (hx : Loc X.env.scope x := by first | exact .inl rfl | exact .inr rfl) (hs : swapsWith a (some (.Name x pos')) pos.line X.env = pure false := by rfl)
    (hf : X.fn x = true ∨ X.env.scope.names.lookup x = some .local := by first | exact .inl rfl | exact .inr rfl | assumption) : PSv X W (.Assign [.Name x pos'] a pos) (dSet i A) :=
  PS.imp (ps_set hN hi hx he hs hf) fun D σ H h => tev_get (tevS_top h) fun v H' ⟨m1, S1, x, ρ, R, r, h⟩ => h m1 H' _ (Ext.refl _ _) (R.set i r)
theorem s_ret (he : PEv X W a A) : PSv X W (.Return (some a) pos) (dRet A) := PS.imp (ps_ret he) fun D σ H h => tev_get (tevS_top (k := fun _ x S => .ret x S) h) fun v H' ⟨m1, S1, x, ρ, R, r, h⟩ => h m1 H' _ (Ext.refl _ _) R.s r
theorem s_do (he : PEv X W a A) (hs : swapsWith a none pos.line X.env = pure false := by rfl) : PSv X W (.Expr a pos) (dDo A) := PS.imp (ps_expr he hs) fun D σ H h => tev_get (tevS_top (k := fun ρ _ S => .next ρ S) h) fun v H' ⟨m1, S1, x, ρ, R, r, h⟩ => h m1 H' _ (Ext.refl _ _) R
theorem s_doc {x j pos'} : PSv X W (.Expr (.Constant (.str x) j pos) pos') dPass := PS.imp ps_doc fun D σ H ⟨m, ρ, S, R, h⟩ => h m H σ (Ext.refl _ _) R
theorem s_if (hc : PTv X W a T) (ha : PSsv X W sts Bs) (hb : PSsv X W sts' Cs) : PSv X W (.If a sts sts' pos) (dIfS T Bs Cs) := PS.imp (ps_if hc ha hb) fun D σ H ⟨m, ρ, S, R, h⟩ => by
  have h1 := bindT_S (G := Gx.of X) R h
  refine ⟨m, ρ, S, R, ?_⟩
  revert h1
  cases T ρ S with
  | err c f S => exact fun z => z
  | bad => exact fun z => z
  | ok x S1 =>
    intro h1 m1 H1 e s
    obtain ⟨m1', S1', e', s', h2⟩ := h1 m1 H1 e s
    cases x with
    | true => exact ⟨m1', ρ, S1', R.ext e' s', h2⟩
    | false => exact ⟨m1', ρ, S1', R.ext e' s', h2⟩
theorem wipe_setIn {σ : L2.St} {i : Nat} {x : Option V} : ∀ {vs : List Nat}, i ∈ vs → wipe (σ.set i x) vs = wipe σ vs
  | [], h => by cases h
  | v :: vs, h => by
    show (wipe (σ.set i x) vs).set v none = (wipe σ vs).set v none
    by_cases hi : i ∈ vs
    · rw [wipe_setIn hi]
    · have e : v = i := by rcases List.mem_cons.mp h with h | h; exact h.symm; exact absurd h hi
      subst e
      have comm : ∀ (ws : List Nat) (τ : L2.St), v ∉ ws → wipe (τ.set v x) ws = (wipe τ ws).set v x := by
        intro ws
        induction ws with
        | nil => intro τ _; rfl
        | cons w ws ih =>
          intro τ hw
          have h1 : w ≠ v := fun e => hw (by rw [e]; exact List.mem_cons_self)
          show (wipe (τ.set v x) ws).set w none = ((wipe τ ws).set w none).set v x
          rw [ih τ fun z => hw (List.mem_cons_of_mem _ z), List.set_comm _ _ h1.symm]
      rw [comm vs σ hi, List.set_set]
def tevG (G : Gx) (vs : List Nat) (g : DG) : TG := fun v σ H Q => ∃ m ρ S x ρ', Rd0 G m ρ S σ H ∧ RepV G.P G.w G.K m H G.mg x v ∧ g x ρ = some ρ' ∧ ∀ σ', Rd0 G m ρ' S σ' H → wipe σ' vs = wipe σ vs → Q σ' H
def tevGs (G : Gx) (ws : List Nat) (gs : List DG) : TGs := fun vs σ H Q => ∃ m ρ S ps ρ', Rd0 G m ρ S σ H ∧ Reps G.P G.w G.K m H ps vs ∧ gT.go gs ps ρ = some ρ' ∧ ∀ σ', Rd0 G m ρ' S σ' H → wipe σ' ws = wipe σ ws → Q σ' H
variable {ws : List Nat}
abbrev PGv (X : Cx) (ws : List Nat) (e : Expr) (g : DG) : Prop := PG X e (tevG (Gx.of X) ws g)
abbrev PGsv (X : Cx) (ws : List Nat) (e : List Expr) (gs : List DG) : Prop := PGs X e (tevGs (Gx.of X) ws gs)
theorem PG.imp {e : Expr} {t t' : TG} (h : PG X e t) (f : ∀ v σ H Q, t' v σ H Q → t v σ H Q) : PG X e t' := ⟨fun pins s σ H v u Q I r q => h.run pins s σ H v u Q I r (f v σ H Q q)⟩
theorem PGs.imp {e : List Expr} {t t' : TGs} (h : PGs X e t) (f : ∀ v σ H Q, t' v σ H Q → t v σ H Q) : PGs X e t' := ⟨fun pins s σ H v u Q I r q => h.run pins s σ H v u Q I r (f v σ H Q q)⟩
theorem g_name {i : Nat} {x : Str} (hN : X.N.Nodup) (hw : i ∈ ws := by decide) (hi : X.N[i]? = some x := by rfl) (hx : Loc X.env.scope x := by first | exact .inl rfl | exact .inr rfl) (hf : X.fn x = true ∨ X.env.scope.names.lookup x = some .local := by first | exact .inl rfl | exact .inr rfl | assumption) : PGv X ws (.Name x pos) (gN i) :=
  PG.imp (pg_name hN hi hx hf) fun v σ H Q ⟨m, ρ, S, x, ρ', R, r, e, q⟩ => by cases e; exact q _ (R.set i r) (wipe_setIn hw)
theorem gs_nil : PGsv X ws [] [] := PGs.imp pgs_nil fun v σ H Q ⟨m, ρ, S, ps, ρ', R, r, e, q⟩ => by
  cases ps with
  | nil => cases e; exact ⟨r, q _ R rfl⟩
  | cons p ps => cases e
theorem gs_cons {g : DG} {gs : List DG} (h1 : PGv X ws a g) (h2 : PGsv X ws es gs) (hs : (assignEach (a :: es) X.env).map (·.2) = assign a X.env :: (assignEach es X.env).map (·.2) := by rfl) : PGsv X ws (a :: es) (g :: gs) :=
  PGs.imp (pgs_cons h1 h2 hs) fun v σ H Q ⟨m, ρ, S, ps, ρ', R, r, e, q⟩ => by
    cases ps with
    | nil => cases e
    | cons p ps =>
      obtain ⟨u, us, rfl, r1, r2⟩ := r
      simp only [gT.go, Option.bind_eq_some_iff] at e
      obtain ⟨ρ1, e1, e2⟩ := e
      exact ⟨u, us, rfl, m, ρ, S, .pv p, ρ1, R, r1, e1, fun σ1 R1 w1 => ⟨m, ρ1, S, ps, ρ', R1, r2, e2, fun σ2 R2 w2 => q σ2 R2 (w2.trans w1)⟩⟩
theorem go_len : ∀ {gs : List DG} {ps : List PyData} {ρ ρ' : En}, gT.go gs ps ρ = some ρ' → gs.length = ps.length
  | [], [], _, _, _ => rfl
  | [], p :: ps, _, _, e => by cases e
  | g :: gs, [], _, _, e => by cases e
  | g :: gs, p :: ps, ρ, ρ', e => by
    simp only [gT.go, Option.bind_eq_some_iff] at e
    obtain ⟨ρ1, _, e2⟩ := e
    simp [go_len e2]
theorem g_tup {k : Nat} {gs : List DG} {n : Nat} (hc : X.calm = true) (h : PGsv X ws es gs) (hn : (assignEach es X.env).length = n := by rfl) (hst : (assignEach es X.env).findIdx? (·.1) = none := by rfl) (hgs : gs.length = n := by rfl) : PGv X ws (.Tuple es k pos) (gT gs) :=
  PG.imp (pg_tup hc h hn hst) fun v σ H Q ⟨m, ρ, S, x, ρ', R, r, e, q⟩ => by
    cases x with
    | pv p =>
      cases p with
      | tuple ps =>
        obtain ⟨a, us, rfl, hT, hr⟩ := r
        have e : gT.go gs ps ρ = some ρ' := e
        have hl : gs.length = ps.length := go_len e
        exact ⟨a, us, rfl, hT, by rw [← Reps.length hr, ← hl, hgs], m, ρ, S, ps, ρ', R, hr, e, q⟩
      | _ => cases e
    | _ => cases e
theorem s_as {tg : Expr} {g : DG} (he : PEv X W a A) (hg : PGv X ws tg g) (hs : swapsWithSole [tg] a pos.line X.env = pure false := by rfl) (hw : swappedStores [tg] a X.env = pure none := by rfl)
    (h1 : (assignEach [tg] X.env).map (·.2) = [assign tg X.env] := by rfl) : PSv X W (.Assign [tg] a pos) (dAs g A) := PS.imp (ps_asg he hg hs hw h1) fun D σ H h => tev_get (tevS_top (k := fun ρ x S => match g x ρ with | some ρ1 => .next ρ1 S | none => .bad) h) fun v H' ⟨m1, S1, x, ρ, R, r, h⟩ => by
  split at h
  · rename_i ρ1 e
    exact ⟨m1, ρ, S1, x, ρ1, R, r, e, fun σ' R' _ => h m1 H' σ' (Ext.refl _ _) R'⟩
  · exact h.elim
theorem bindA_S {G : Gx} {W : WX} {σ : L2.St} {ρ : En} {S : Sto} {m : Mp} {H : Hp} {r : Res (List Val)} {k : List Val → Sto → SR} {D : Ends} (R : Rd0 G m ρ S σ H) (h : PostS G W m H (r.s ρ k) D) :
    PostA G W σ m H r fun v H1 => ∃ m1 S1 p, Ext m H m1 H1 ∧ RepS G.P G.w G.K m1 H1 S1 ∧ RepVs G.P G.w G.K m1 H1 G.mg p v ∧ PostS G W m1 H1 (k p S1) D := by
  cases r with
  | ok p S => exact fun m1 H1 v e s rp => ⟨m1, S, p, e, s, rp, PostS.ext h e⟩
  | err c f S => exact fun m' H' cls d e s r => h m' H' σ cls d e (R.ext e s) r
  | bad => exact h
theorem tevSA_top {k : En → List Val → Sto → SR} {D : Ends} {σ : L2.St} {H : Hp} (h : tevS (Gx.of X) W (fun ρ S => (As ρ S).s ρ (k ρ)) D σ H) :
    tevA (Gx.of X) W As σ H fun us H1 => ∃ m1 S1 xs ρ, Rd0 (Gx.of X) m1 ρ S1 σ H1 ∧ RepVs X.prog X.w X.K m1 H1 X.mg xs us ∧ PostS (Gx.of X) W m1 H1 (k ρ xs S1) D := by
  obtain ⟨m, ρ, S, R, h⟩ := h
  have h1 := bindA_S (G := Gx.of X) R h
  refine ⟨m, ρ, S, R, ?_⟩
  revert h1
  cases As ρ S with
  | err c f S => exact fun z => z
  | bad => exact fun z => z
  | ok x S1 =>
    intro h1 m1 H1 u e s r
    obtain ⟨m1', S1', p, e', s', r', h2⟩ := h1 m1 H1 u e s r
    exact ⟨m1', S1', p, ρ, R.ext e' s', r', h2⟩
theorem tevA_get {σ : L2.St} {H : Hp} {Q Q' : List V → Hp → Prop} (h : tevA (Gx.of X) W As σ H Q) (f : ∀ v H', Q v H' → Q' v H') : tevA (Gx.of X) W As σ H Q' := by
  obtain ⟨m, ρ, S, R, h⟩ := h
  refine ⟨m, ρ, S, R, ?_⟩
  revert h
  cases As ρ S with
  | err c f S => exact fun z => z
  | bad => exact fun z => z
  | ok x S1 => exact fun h m1 H1 u e s r => f _ _ (h m1 H1 u e s r)
theorem s_par {i j : Nat} {x y : Str} {px py pt : Pos} {kt k2 pt2} (hc : X.calm = true) (hN : X.N.Nodup) (hij : i ≠ j) (ha : PAv X W [a, b] As)
    (hw : swappedStores [.Tuple [.Name x px, .Name y py] kt pt] (.Tuple [a, b] k2 pt2) X.env = pure (some [x, y]) := by rfl) (hi : X.N[i]? = some x := by rfl) (hj : X.N[j]? = some y := by rfl)
    (hx : X.env.scope.names.lookup x = some .local := by rfl) (hy : X.env.scope.names.lookup y = some .local := by rfl)
    (hs : swapsWithSole [.Tuple [.Name x px, .Name y py] kt pt] (.Tuple [a, b] k2 pt2) pos.line X.env = pure false := by rfl) : PSv X W (.Assign [.Tuple [.Name x px, .Name y py] kt pt] (.Tuple [a, b] k2 pt2) pos) (dPar i j As) :=
  PS.imp (ps_par (pos := pos) hc hN hi hj hij hx hy ha hw hs) fun D σ H h => tevA_get (tevSA_top (k := fun ρ xs S1 => match xs with | [x, y] => .next ((ρ.set i (some x)).set j (some y)) S1 | _ => .bad) h) fun us H1 ⟨m1, S1, xs, ρ, R, r, h⟩ => by
    split at h
    · obtain ⟨u, us, rfl, r1, u2, us2, rfl, r2, r3⟩ := r
      cases r3
      exact ⟨u, u2, rfl, h m1 H1 _ (Ext.refl _ _) ((R.set i r1).set j r2)⟩
    · exact h.elim
end
end Mi
set_option maxHeartbeats 4000000
namespace Mi
open PySem PySem.Spec PyProof.Rows L2
section
variable {P : Program} {w : World} {K : PySem.W.Frag} {m m' : Mp} {H H' : Hp} {mg : Str → Option Value}
theorem take_get {α : Type} {l : List α} {n i : Nat} {x : α} (h : (l.take n)[i]? = some x) : l[i]? = some x := by
  rw [List.getElem?_take] at h
  split at h
  · exact h
  · cases h
/-- the first n shared objects -/
abbrev Mp.take (m : Mp) (n : Nat) : Mp := { m with st := m.st.take n }
theorem RepS.take {S : Sto} (r : RepS P w K m H S) (n : Nat) : RepS P w K (m.take n) H (S.take n) where
  av := fun a h => ⟨fun z => (r.av a h).1 (List.mem_of_mem_take z), (r.av a h).2⟩
  tabs := r.tabs
  len := by simp [r.len]
  nd := fun i j a hi hj => r.nd i j a (take_get hi) (take_get hj)
  ob := fun l o e => by
    have hl : l < n := by
      have := (List.getElem?_eq_some_iff.mp e).1
      simp at this; omega
    have g : Go P w K m H (m.take n) H := Go.less fun a h => h.imp List.mem_of_mem_take id
    rw [show (m.take n).st[l]? = m.st[l]? from List.getElem?_take_of_lt hl]
    rcases r.ob l o (take_get e) with q | ⟨a, ea, q⟩
    · exact .inl q
    · refine .inr ⟨a, ea, ?_⟩
      cases o with
      | lst xs => obtain ⟨us, e1, q⟩ := q; exact ⟨us, e1, Reps.go g xs us q⟩
      | dct kvs => obtain ⟨xs, e1, y, z, d, q⟩ := q; exact ⟨xs, e1, y, z, d, RepK.go g kvs xs.l q⟩
      | dead => exact q
      | tab _ _ => exact q
theorem Ext.take (e : Ext m H m' H') {n : Nat} (hn : m.st.length ≤ n) : Ext m H (m'.take n) H' :=
  ⟨e.keep, fun a h => e.fresh a (List.mem_of_mem_take h), e.frA, e.avs, e.tbs, by have := e.len; simp; omega, fun l a hl h => e.pre l a hl (take_get h)⟩
theorem RepV.take {x : Val} {v : V} (h : RepV P w K m H mg x v) {n : Nat} (hn : ∀ l, x = .loc l → l < n) : RepV P w K (m.take n) H mg x v := by
  have g : Go P w K m H (m.take n) H := Go.less fun a h => h.imp List.mem_of_mem_take id
  cases x with
  | pv p => exact Rep.go g p v h
  | loc l => exact ⟨by have := hn l rfl; have := h.1; simp; omega, fun a ha => h.2 a (take_get ha)⟩
  | fn x => exact h
  | ro xs =>
    obtain ⟨a, us, e1, q, r⟩ := h
    refine ⟨a, us, e1, ?_, Reps.go g xs us r⟩
    rcases q with ⟨q, n⟩ | q
    · exact .inl ⟨q, fun z => n (z.imp List.mem_of_mem_take id)⟩
    · exact .inr q
end
section
variable {G : Gx}
theorem leave_ok {E : XK} {m m' : Mp} {H H' : Hp} {v : Val} {S S1 : Sto} {u : V} {Q : VK} (h : PostF G E m H (leave S.length v S1) Q) (hS : m.st.length = S.length) (e : Ext m H m' H') (s : RepS G.P G.w G.K m' H' S1) (r : RepV G.P G.w G.K m' H' G.mg v u) : Q u H' := by
  have gen : ∀ n, S.length ≤ n → (∀ l, v = .loc l → l < n) → PostF G E m H (.ok v (S1.take n)) Q → Q u H' := fun n hn hl h =>
    h _ H' u (e.take (n := n) (by omega)) (s.take n) (r.take hl)
  cases v with
  | loc l =>
    unfold leave at h
    simp only at h
    split at h
    · exact gen _ (Nat.le_refl _) (fun l' z => by cases z; assumption) h
    · split at h
      · rename_i z
        exact gen (S.length + 1) (Nat.le_succ _) (fun l' z' => by cases z'; omega) h
      · exact h.elim
  | pv p => exact gen _ (Nat.le_refl _) (fun l z => by cases z) h
  | fn p => exact gen _ (Nat.le_refl _) (fun l z => by cases z) h
  | ro p => exact gen _ (Nat.le_refl _) (fun l z => by cases z) h
theorem repE_start {P : Program} {w : World} {K : PySem.W.Frag} {mg : Str → Option Value} {m : Mp} {H : Hp} {N : List Str} {xs : List Val} {vs : List V} {k : Nat} (hk : xs.length = k) (h : RepVs P w K m H mg xs vs) :
    RepE P w K m H mg (xs.map some ++ List.replicate (N.length - k) none) (L2.start N vs) := by
  have hl := RepVs.length h
  refine ⟨by unfold L2.start; simp [← hl, hk], fun i x e => ?_⟩
  by_cases hi : i < xs.length
  · rw [List.getElem?_append_left (by simpa using hi)] at e
    unfold L2.start
    rw [List.getElem?_append_left (by simpa [← hl] using hi)]
    rw [List.getElem?_map] at e ⊢
    have at_ : ∀ {xs : List Val} {vs : List V} (i : Nat) {x : Val}, RepVs P w K m H mg xs vs → xs[i]? = some x → ∃ v, vs[i]? = some v ∧ RepV P w K m H mg x v := by
      intro xs
      induction xs with
      | nil => intro vs i x h e; simp at e
      | cons y ys ih =>
        rintro vs i x ⟨u, r, rfl, h1, h2⟩ e
        cases i with
        | zero => simp at e; subst e; exact ⟨u, rfl, h1⟩
        | succ i => simp at e; obtain ⟨v, e1, r1⟩ := ih i h2 e; exact ⟨v, by simpa using e1, r1⟩
    cases e2 : xs[i]? with
    | none => rw [e2] at e; cases e
    | some y =>
      rw [e2] at e; cases e
      obtain ⟨v, e1, r1⟩ := at_ i h e2
      exact ⟨v, by rw [e1]; rfl, r1⟩
  · rw [List.getElem?_append_right (by simpa using Nat.le_of_not_lt hi), List.getElem?_replicate] at e
    split at e <;> cases e
/-- THE RULE for a def: its body's derivation gives its promise -/
theorem fnok {P : Program} {w : World} {K : PySem.W.Frag} {mg : Str → Option Value} {base : Heap} {x qual : Str} {st : Stmt} {f : Addr} {fd : FuncData} {N ps : List Str} {k : Nat} {B : DS} (F : Fun K x qual st f fd) (S : FnScope N ps (defScope st))
    (hbody : ∀ (A : Around) (outer : List Env) (s : Shared) (H : Hp) (E : XK), Room k (A.deeper (envOfC qual (defScope st) s.heap.objs.size f fd.code)) → L2N.Takes (cxOf (L2N.CX P w) P w K mg base N qual (defScope st) f fd.code A outer s H E) (fun cls d _ H => E cls d H) →
      PSs (cxOf (L2N.CX P w) P w K mg base N qual (defScope st) f fd.code A outer s H E) (defBody st) (tevS ⟨P, w, K, mg⟩ (fun cls d _ H => E cls d H) B)) :
    FnOk P w K mg base (L2N.CX P w) (k + 1) f fd ps (spF ⟨P, w, K, mg⟩ ps.length (dFun ps.length N.length B)) := by
  obtain ⟨oc, od, kV, doc, pm, an, cdv, ct, osl, rfl, lk, hcd⟩ := F.ex
  refine fn_of lk hcd S (fun vs H Q E h => h.1) fun A outer s H vs Q E hr ⟨hl, m, S0, xs, rv, rs, h⟩ => ?_
  have tk : L2N.Takes (cxOf (L2N.CX P w) P w K mg base N qual (defScope st) f cdv A outer s H E) (fun cls d _ H => E cls d H) := L2N.takes_of rfl rfl rfl rfl
  refine ⟨_, hbody A outer s H E hr tk, ?_⟩
  have hx : xs.length = ps.length := by rw [RepVs.length rv]; exact hl
  unfold dFun at h
  rw [if_pos hx] at h
  refine ⟨m, _, S0, ⟨repE_start hx rv, rs⟩, ?_⟩
  revert h
  cases B (xs.map some ++ List.replicate (N.length - ps.length) none) S0 with
  | next ρ S1 => exact fun h m' H' σ e R => leave_ok (G := ⟨P, w, K, mg⟩) (u := .non) (v := .pv .none) (S1 := S1) h rs.len e R.s rfl
  | ret v S1 => exact fun h m' H' u e s r => leave_ok (G := ⟨P, w, K, mg⟩) (v := v) (S1 := S1) h rs.len e s r
  | brk ρ S1 => exact fun h => h.elim
  | cnt ρ S1 => exact fun h => h.elim
  | err c f ρ S1 => exact fun h m' H' σ cls d e R r => h _ H' cls d (e.take (n := S0.length) (by rw [rs.len]; exact Nat.le_refl _)) (R.s.take _) (by
      obtain ⟨C, h1, h2, h3⟩ := r
      refine ⟨C, h1, h2, ?_⟩
      cases f with
      | none => exact h3
      | some np => obtain ⟨dx, v, a, b, c⟩ := h3; exact ⟨dx, v, a, b, Rep.go (Go.less (m := m') (m' := Mp.take m' S0.length) fun a (h : some a ∈ List.take S0.length m'.st ∨ a ∈ m'.av) => h.imp List.mem_of_mem_take id) _ _ c⟩)
  | bad => exact fun h => h.elim
end
end Mi
set_option maxHeartbeats 4000000
namespace Mi
open PySem PySem.Spec PyProof.Rows L2
abbrev DI := En → Sto → Res (List Val)
/-- what a for walks: the items, whatever the shared objects do -/
def JOk (G : Gx) (J : It) (m1 : Mp) (H1 : Hp) (items : List Val) : Prop := ∀ i m H, Ext m1 H1 m H → MOk m H → (i < items.length → J.go i H) ∧ (items.length ≤ i → J.stop i H) ∧
  ∀ x H', i < items.length → J.yld i H x H' → (∀ a o, H a = some o → H' a = some o) ∧ ∃ it, items[i]? = some it ∧ RepV G.P G.w G.K m H' G.mg it x
def PostI (G : Gx) (W : WX) (σ : L2.St) (m : Mp) (H : Hp) (r : Res (List Val)) (R : It → Hp → Prop) : Prop := match r with
  | .ok xs S => ∀ m' H' J, Ext m H m' H' → RepS G.P G.w G.K m' H' S → JOk G J m' H' xs → R J H'
  | .err c f S => ∀ m' H' cls d, Ext m H m' H' → RepS G.P G.w G.K m' H' S → RepX G m' H' c f cls d → W cls d σ H'
  | .bad => False
def tevI (G : Gx) (W : WX) (D : DI) : TI := fun σ H R => ∃ m ρ S, Rd0 G m ρ S σ H ∧ PostI G W σ m H (D ρ S) R
abbrev PIv (X : Cx) (W : WX) (tg e : Expr) (D : DI) : Prop := PI X tg e (tevI (Gx.of X) W D)
/-- a for's turns -/
def loopF (g : DG) (B : DS) : List Val → En → Sto → SR
  | [], ρ, S => .next ρ S
  | x :: xs, ρ, S => match g x ρ with
    | none => .bad
    | some ρ1 => match B ρ1 S with
      | .next ρ2 S2 => loopF g B xs ρ2 S2
      | .cnt ρ2 S2 => loopF g B xs ρ2 S2
      | .brk ρ2 S2 => .next ρ2 S2
      | r => r
def dFor (I : DI) (g : DG) (B : DS) : DS := fun ρ S => (I ρ S).s ρ fun xs S1 => loopF g B xs ρ S1
/-- a while's turns, n of them at most -/
def loopW (T : DT) (B : DS) : Nat → En → Sto → SR
  | 0, _, _ => .bad
  | n + 1, ρ, S => (T ρ S).s ρ fun b S1 => if b = true then (match B ρ S1 with
      | .next ρ2 S2 => loopW T B n ρ2 S2
      | .cnt ρ2 S2 => loopW T B n ρ2 S2
      | .brk ρ2 S2 => .next ρ2 S2
      | r => r) else .next ρ S1
def dWhile (n : Nat) (T : DT) (B : DS) : DS := fun ρ S => loopW T B n ρ S
def itemsOf : Val → Option (List Val)
  | .pv (.list xs) => some (xs.map .pv)
  | .pv (.tuple xs) => some (xs.map .pv)
  | .pv (.dict kvs) => some (kvs.map fun kv => .pv kv.1)
  | .ro xs => some (xs.map .pv)
  | _ => none
def dItems (A : DE) : DI := fun ρ S => (A ρ S).bind fun x S1 => match itemsOf x with
  | some xs => .ok xs S1
  | none => .bad
def rngRaw (lo hi : Int) (S : Sto) : Res (List Val) := if decide (-(2 ^ 62) ≤ lo) && decide (lo < 2 ^ 62) && decide (-(2 ^ 62) ≤ hi) && decide (hi < 2 ^ 62) then .ok ((List.range (hi - lo).toNat).map fun i => Val.pv (.int (lo + (i : Nat)))) S else .bad
theorem rng_ex : ∃ f : Int → Int → Sto → Res (List Val), f = rngRaw := ⟨rngRaw, rfl⟩
/-- a range's items: sealed, so that no check unfolds its bounds -/
noncomputable def rngOf : Int → Int → Sto → Res (List Val) := Classical.choose rng_ex
theorem rngOf_eq (lo hi : Int) (S : Sto) : rngOf lo hi S = rngRaw lo hi S := congrFun (congrFun (congrFun (Classical.choose_spec rng_ex) lo) hi) S
noncomputable def dRng1 (A : DE) : DI := fun ρ S => (A ρ S).bind fun x S1 => match x with
  | .pv (.int j) => rngOf 0 j S1
  | _ => .bad
noncomputable def dRng2 (A B : DE) : DI := fun ρ S => (A ρ S).bind fun x S1 => (B ρ S1).bind fun y S2 => match x, y with
  | .pv (.int i), .pv (.int j) => rngOf i j S2
  | _, _ => .bad
section
variable {X : Cx} {W : WX} {pos : Pos} {A B C : DE} {a b c tg : Expr} {es rest : List Expr} {As : DA} {T T' : DT} {Bs Cs : DS} {st : Stmt} {sts sts' : List Stmt} {g : DG} {Is : DI}
theorem PI.imp {t t' : TI} (h : PI X tg a t) (f : ∀ σ H Q, t' σ H Q → t σ H Q) : PI X tg a t' := ⟨fun pins s σ H Q I q => h.run pins s σ H Q I (f σ H Q q)⟩
theorem PostI.ext {G : Gx} {σ : L2.St} {m m' : Mp} {H H' : Hp} {r : Res (List Val)} {R : It → Hp → Prop} (h : PostI G W σ m H r R) (e : Ext m H m' H') : PostI G W σ m' H' r R := by
  cases r with
  | ok p S => exact fun m2 H2 v e2 s => h m2 H2 v (e.trans e2) s
  | err c f S => exact fun m2 H2 cls d e2 s r => h m2 H2 cls d (e.trans e2) s r
  | bad => exact h
/-- a value, then what is walked -/
theorem tevI_top {k : Val → Sto → Res (List Val)} {σ : L2.St} {H : Hp} {R : It → Hp → Prop} (h : tevI (Gx.of X) W (fun ρ S => (A ρ S).bind k) σ H R) :
    tev (Gx.of X) W A σ H fun u H1 => ∃ m1 S1 x, RepS X.prog X.w X.K m1 H1 S1 ∧ RepV X.prog X.w X.K m1 H1 X.mg x u ∧ PostI (Gx.of X) W σ m1 H1 (k x S1) R := by
  obtain ⟨m, ρ, S, R0, h⟩ := h
  refine ⟨m, ρ, S, R0, ?_⟩
  have h : PostI (Gx.of X) W σ m H ((A ρ S).bind k) R := h
  revert h
  cases A ρ S with
  | err c f S => exact fun z => z
  | bad => exact fun z => z
  | ok x S1 => exact fun h m1 H1 u e s r => ⟨m1, S1, x, s, r, PostI.ext (G := Gx.of X) h e⟩
theorem jok_list {m1 : Mp} {H1 : Hp} {a : Addr} {us : List V} {ps : List PyData} (hl : H1 a = some (.lst us)) (na : ¬ m1.has a) (mo : MOk m1 H1) (r : Reps X.prog X.w X.K m1 H1 ps us) : JOk (Gx.of X) (Itl X.K a) m1 H1 (ps.map .pv) := by
  intro i m H e mo'
  have hl' : H a = some (.lst us) := e.keep a _ hl (fun z => na (.inl z)) fun _ z => by cases z
  have r' := Reps.go (Go.of (P := X.prog) (w := X.w) (K := X.K) mo e) _ _ r
  have hlen := Reps.length r'
  refine ⟨fun hi => ?_, fun hi => ⟨us, SqL.of hl', by rw [← hlen]; simpa using hi⟩, fun x H' hi ⟨e1, e2⟩ => ?_⟩
  · have hi' : i < us.length := by rw [← hlen]; simpa using hi
    exact ⟨us, us[i], SqL.of hl', List.getElem?_eq_getElem hi'⟩
  · subst e1
    refine ⟨fun _ _ h => h, ?_⟩
    have hi' : i < ps.length := by simpa using hi
    obtain ⟨u, e3, r3⟩ := Reps.get i r' (List.getElem?_eq_getElem hi')
    have e4 := e2 us (SqL.of hl')
    rw [e3] at e4; cases e4
    exact ⟨.pv ps[i], by simp [hi'], r3⟩
theorem jok_tup {m1 : Mp} {H1 : Hp} {a : Addr} {us : List V} {ps : List PyData} (hl : SqT X.K H1 a us) (mo : MOk m1 H1) (r : Reps X.prog X.w X.K m1 H1 ps us) : JOk (Gx.of X) (Itt X.K a) m1 H1 (ps.map .pv) := by
  intro i m H e mo'
  have gg := Go.of (P := X.prog) (w := X.w) (K := X.K) mo e
  have hl' : SqT X.K H a us := gg.tup a us hl
  have r' := Reps.go gg _ _ r
  have hlen := Reps.length r'
  refine ⟨fun hi => ?_, fun hi => ⟨us, hl', by rw [← hlen]; simpa using hi⟩, fun x H' hi ⟨e1, e2⟩ => ?_⟩
  · have hi' : i < us.length := by rw [← hlen]; simpa using hi
    exact ⟨us, us[i], hl', List.getElem?_eq_getElem hi'⟩
  · subst e1
    refine ⟨fun _ _ h => h, ?_⟩
    have hi' : i < ps.length := by simpa using hi
    obtain ⟨u, e3, r3⟩ := Reps.get i r' (List.getElem?_eq_getElem hi')
    have e4 := e2 us hl'
    rw [e3] at e4; cases e4
    exact ⟨.pv ps[i], by simp [hi'], r3⟩
theorem jok_rng {m1 : Mp} {H1 : Hp} {lo : Int} {n : Nat} : JOk (Gx.of X) (Itr lo n) m1 H1 ((List.range n).map fun i => Val.pv (.int (lo + (i : Nat)))) := by
  intro i m H e mo'
  refine ⟨fun hi => by show i < n; simpa using hi, fun hi => by show n ≤ i; simpa using hi, fun x H' hi ⟨e1, e2⟩ => ?_⟩
  subst e1 e2
  exact ⟨fun _ _ h => h, .pv (.int (lo + (i : Nat))), by simp at hi ⊢; exact ⟨i, by simp [hi]⟩, rfl⟩
/-- the keys of a dict, in their order -/
def ItD (P : Program) (w : World) (d : Addr) (xs : DX) : It :=
  ⟨fun i H => H d = some (DictO P w d xs) ∧ i < xs.l.length, fun i H x H' => H' = H ∧ ∃ nk q u, xs.l[i]? = some (nk, q, u) ∧ x = .ref q, fun i H => H d = some (DictO P w d xs) ∧ xs.l.length ≤ i⟩
theorem turn_dict {P : Program} {w : World} {K : PySem.W.Frag} {d : Addr} (it : Addr) (xs : DX) : Turn P w K tg (ItD P w d xs) [it] it (fun i h => h.IsKeyIter it d i xs.l.length xs.ep) where
  mem := by simp
  obj := fun i h st b hb => by
    have e : b = it := by simpa using hb
    subst e
    obtain ⟨oi, e, c, dd⟩ := st
    exact ⟨oi, e, fun v z => by rw [dd] at z; cases z⟩
  keep := fun i h h' st k => st.at fun oi e => k it (by simp) oi e
  item := by
    intro X hP hw hK hc i pins s σ H E I hf st hg
    subst hP hw hK
    obtain ⟨hd, hi⟩ := hg
    obtain ⟨f0, f1, f2, f3, f4, f5⟩ := hf it (by simp)
    obtain ⟨⟨o, es, hgd, hx, hdt, he⟩, _⟩ := (show ObjOk X.prog X.w H s.heap d (DictO X.prog X.w d xs) from I.hok d _ hd)
    have hsz : es.size = xs.l.length := size_of_entries he
    obtain ⟨⟨nk, q, u⟩, hkv⟩ : ∃ p, xs.l[i]? = some p := ⟨xs.l[i], List.getElem?_eq_getElem hi⟩
    have hen := entry_at he i
    rw [hkv] at hen
    refine next_key_item st hgd hdt hsz hen fun h' st' sb => ?_
    have I1 : Inv X pins σ H { s with heap := h' } := I.turned (t' := s.toks) (fun b ob hb e => (sb.2 b hb).trans e) f0 f1 f3 f4 f5
    obtain ⟨oi, e, c, dd⟩ := id st'
    exact ⟨_, rfl, go_of (s := { s with heap := h' }) e c dd (by decide) ⟨.ref q, H, I1, rfl, ⟨rfl, nk, q, u, hkv, rfl⟩, st', fun b hb => (hf b hb).1⟩⟩
  done := by
    intro X hP hw hK hc i pins s σ H E I hf st hg
    subst hP hw hK
    obtain ⟨hd, hi⟩ := hg
    obtain ⟨f0, f1, f2, f3, f4, f5⟩ := hf it (by simp)
    obtain ⟨⟨o, es, hgd, hx, hdt, he⟩, _⟩ := (show ObjOk X.prog X.w H s.heap d (DictO X.prog X.w d xs) from I.hok d _ hd)
    have hsz : es.size = xs.l.length := size_of_entries he
    exact next_key_end (I.ok.hd hc) st hgd hdt hsz hi fun h' eb => ⟨rfl, I.turned (t' := s.toks) (fun b ob hb e => eb b ob hb e) f0 f1 f3 f4 f5⟩
  self := fun A i s Q E st h => by
    refine wpAny_pyIter_slot st.typeIs F.slot_dict_keyiterator_iter (wpAny_call_entry F.slot_dict_keyiterator_iter st.typeIs F.entry_dict_keyiterator_iter ?_ (F.args_dict_keyiterator_iter_1 _))
    show wpAny _ _ (ret (.ref it)) _ _ s
    exact wpAny_pure ⟨_, rfl, "dict_keyiterator", _, st.typeIs, F.slot_dict_keyiterator_next.lookup, h⟩
theorem repK_get {P : Program} {w : World} {K : PySem.W.Frag} {m : Mp} {H : Hp} : ∀ {kvs : List (PyData × PyData)} {xs : List (NestedKey × Addr × Value)} (i : Nat) {kv : PyData × PyData}, RepK P w K m H kvs xs → kvs[i]? = some kv → ∃ nk q u, xs[i]? = some (nk, q, u) ∧ Rep P w K m H kv.1 (.ref q)
  | [], _, i, _, _, e => by simp at e
  | (k, v) :: kvs, _, 0, _, ⟨nk, ka, u, uv, r, e, e1, e2, h1, e3, h2, h3⟩, q => by subst e; simp at q; subst q; exact ⟨nk, ka, u, rfl, h1⟩
  | (k, v) :: kvs, _, i + 1, _, ⟨nk, ka, u, uv, r, e, e1, e2, h1, e3, h2, h3⟩, q => by
    subst e
    obtain ⟨a, b, c, e5, e6⟩ := repK_get i h3 (by simpa using q)
    exact ⟨a, b, c, by simpa using e5, e6⟩
theorem repK_len {P : Program} {w : World} {K : PySem.W.Frag} {m : Mp} {H : Hp} : ∀ {kvs : List (PyData × PyData)} {xs : List (NestedKey × Addr × Value)}, RepK P w K m H kvs xs → kvs.length = xs.length
  | [], _, h => by cases h; rfl
  | (k, v) :: kvs, _, ⟨nk, ka, u, uv, r, e, e1, e2, h1, e3, h2, h3⟩ => by subst e; simp [repK_len h3]
theorem jok_dict {m1 : Mp} {H1 : Hp} {a : Addr} {xs : DX} {kvs : List (PyData × PyData)} (hl : H1 a = some (DictO X.prog X.w a xs)) (na : ¬ m1.has a) (mo : MOk m1 H1) (r : RepK X.prog X.w X.K m1 H1 kvs xs.l) : JOk (Gx.of X) (ItD X.prog X.w a xs) m1 H1 (kvs.map fun kv => .pv kv.1) := by
  intro i m H e mo'
  have gg := Go.of (P := X.prog) (w := X.w) (K := X.K) mo e
  have hl' := (gg.dct a xs hl na).1
  have r' := RepK.go gg _ _ r
  have hlen := repK_len r'
  refine ⟨fun hi => ⟨hl', by rw [← hlen]; simpa using hi⟩, fun hi => ⟨hl', by rw [← hlen]; simpa using hi⟩, fun x H' hi ⟨e1, nk, q, u, e2, e3⟩ => ?_⟩
  subst e1 e3
  refine ⟨fun _ _ h => h, ?_⟩
  have hi' : i < kvs.length := by simpa using hi
  obtain ⟨nk', q', u', e4, r4⟩ := repK_get i r' (List.getElem?_eq_getElem hi')
  rw [e2] at e4; cases e4
  exact ⟨.pv kvs[i].1, by simp [hi'], r4⟩
/-- a list or a tuple walked -/
theorem i_seq (ha : PEv X W a A) : PIv X W tg a (dItems A) := by
  refine ⟨fun pins s σ H R I h => ?_⟩
  refine thn (ha.run pins s σ H _ I (tevI_top h)) fun v s1 ⟨x, H1, I1, r1, m1, S1, y, rs, ry, q⟩ => ?_
  split at q
  · rename_i xs e
    have lst : ∀ {a : Addr} {us : List V}, x = .ref a → SqL X.K H1 a us → JOk (Gx.of X) (Itl X.K a) m1 H1 xs → wpAny (model X.prog X.w) X.A (pyIter v) (PIE X pins σ tg R) X.xe s1 := by
      intro a us ex hq jo
      subst ex
      cases r1
      obtain ⟨its, rv, p, hz⟩ := I1.list hq
      refine wpAny_pyIter_list p.isList ?_
      refine ⟨s1.heap.objs.size, [s1.heap.objs.size], _, _, H1, rfl, I1.kept (t' := s1.toks) fun b o e => Heap.get?_push_of_some _ e, turn_list a _, ⟨_, Heap.get?_push_size _ rfl, rfl, rfl⟩, fun b hb => ?_, q m1 H1 _ (Ext.refl _ _) rs jo⟩
      have e : b = s1.heap.objs.size := by simpa using hb
      subst e
      exact I1.fpOk (Nat.le_refl _) (I1.hok.fresh (Nat.le_refl _))
    cases y with
    | pv p =>
      cases p with
      | list ps =>
        cases e
        obtain ⟨a, us, ex, hl, na, hr⟩ := ry
        exact lst ex (SqL.of hl) (jok_list hl na rs.mok hr)
      | tuple ps =>
        cases e
        obtain ⟨a, us, ex, hl, hr⟩ := ry
        subst ex
        cases r1
        obtain ⟨its, rv, p, hz⟩ := I1.tuple hl
        refine wpAny_pyIter_tuple (show s1.heap.IsTuple a its.toArray from p) ?_
        refine ⟨s1.heap.objs.size, [s1.heap.objs.size], _, _, H1, rfl, I1.kept (t' := s1.toks) fun b o e => Heap.get?_push_of_some _ e, turn_tuple a _, ⟨_, Heap.get?_push_size _ rfl, rfl, rfl⟩, fun b hb => ?_, q m1 H1 _ (Ext.refl _ _) rs (jok_tup hl rs.mok hr)⟩
        have e : b = s1.heap.objs.size := by simpa using hb
        subst e
        exact I1.fpOk (Nat.le_refl _) (I1.hok.fresh (Nat.le_refl _))
      | dict kvs =>
        cases e
        obtain ⟨a, ds, ex, na, hl, hy, hz, hn, hr⟩ := ry
        subst ex
        obtain rfl : v = Value.ref a := r1
        obtain ⟨⟨o, es, hgd, hx, hdt, he⟩, _⟩ := (show ObjOk X.prog X.w H1 s1.heap a (DictO X.prog X.w a ds) from I1.hok a _ hl)
        have hsz : es.size = ds.l.length := size_of_entries he
        refine iter_keys hy hgd hx hdt (pi_one (tk := s1.toks) I1 _ (turn_dict _ ds) ⟨_, Heap.get?_push_size _ rfl, rfl, ?_⟩ (q m1 H1 _ (Ext.refl _ _) rs (jok_dict hl na rs.mok hr)))
        rw [hsz] <;> rfl
      | _ => cases e
    | ro ps =>
      cases e
      obtain ⟨a, us, ex, hl, hr⟩ := ry
      refine lst ex (by rcases hl with ⟨hl, _⟩ | hl; exact .inl hl; exact hl H1) ?_
      intro i m H e mo'
      have hl' : SqL X.K H a us := by
        rcases hl with ⟨hl, n⟩ | hl
        · rcases hl with hl | ⟨o, hl⟩
          · exact SqL.of (e.keep a _ hl (fun z => n (.inl z)) fun _ z => by cases z)
          · exact .inl (.inr ⟨o, e.keep a _ hl (fun z => n (.inl z)) fun _ z => by cases z⟩)
        · exact hl H
      have r' := Reps.go (Go.of (P := X.prog) (w := X.w) (K := X.K) rs.mok e) _ _ hr
      have hlen := Reps.length r'
      refine ⟨fun hi => ?_, fun hi => ⟨us, hl', by rw [← hlen]; simpa using hi⟩, fun x H' hi ⟨e1, e2⟩ => ?_⟩
      · have hi' : i < us.length := by rw [← hlen]; simpa using hi
        exact ⟨us, us[i], hl', List.getElem?_eq_getElem hi'⟩
      · subst e1
        refine ⟨fun _ _ h => h, ?_⟩
        have hi' : i < ps.length := by simpa using hi
        obtain ⟨u, e3, r3⟩ := Reps.get i r' (List.getElem?_eq_getElem hi')
        have e4 := e2 us hl'
        rw [e3] at e4; cases e4
        exact ⟨.pv ps[i], by simp [hi'], r3⟩
    | _ => cases e
  · exact q.elim
theorem i_rng1 {p : Pos} (hm : X.mg "range" = none) (ha : PEv X W a A) (hg : Gl X "range" := by rfl) (hs : starEach [a] X.env = [(false, eval a X.env)] := by rfl) : PIv X W tg (.Call (.Name "range" p) [a] [] pos) (dRng1 A) :=
  PI.imp (pi_range1 hg hm (pa_cons ha pa_nil hs) hs) fun σ H R h => tev_get (tevI_top h) fun u H1 ⟨m1, S1, x, s, r, q⟩ => by
    split at q
    · rename_i j
      rw [rngOf_eq] at q
      unfold rngRaw at q
      split at q
      · rename_i hz
        simp only [Bool.and_eq_true, decide_eq_true_eq] at hz
        cases r
        exact ⟨j, rfl, hz.1.2, hz.2, by simpa using q m1 H1 _ (Ext.refl _ _) s jok_rng⟩
      · exact q.elim
    · exact q.elim
/-- THE RULE for a for -/
theorem s_for (hp : PassesOwn (model X.prog X.w) X.A X.env X.xe) (hc : X.calm = true) (hi : PIv X W tg a Is) {ws : List Nat} (hg : PGv X ws tg g) (hb : PSsv X W sts Bs) (hs : ∀ x, foldedSetIterable a X.env x = pure x := by intro _; rfl) : PSv X W (.For tg a sts [] pos) (dFor Is g Bs) := PS.imp (ps_for hp hc hi hg hb hs) fun D σ H ⟨m, ρ, S, R, h⟩ => by
  refine ⟨m, ρ, S, R, ?_⟩
  unfold dFor at h
  revert h
  cases Is ρ S with
  | err c f S1 => exact fun h m' H' cls d e s r => h m' H' σ cls d e (R.ext e s) r
  | bad => exact fun z => z
  | ok xs S1 =>
    intro h m1 H1 J e1 s1 jo
    refine ⟨fun i n σ H => n = xs.length - i ∧ i ≤ xs.length ∧ ∃ m ρ S, Ext m1 H1 m H ∧ Rd0 (Gx.of X) m ρ S σ H ∧ PostS (Gx.of X) W m H (loopF g Bs (xs.drop i) ρ S) D, ⟨xs.length, by simp, Nat.zero_le _, m1, ρ, S1, Ext.refl _ _, R.ext e1 s1, by simpa using PostS.ext (G := Gx.of X) h e1⟩, ?_⟩
    rintro i n σ2 H2 ⟨rfl, hi, m2, ρ2, S2, e2, R2, h2⟩
    obtain ⟨j1, j2, j3⟩ := jo i m2 H2 e2 R2.s.mok
    by_cases hlt : i < xs.length
    · refine .inr ⟨j1 hlt, fun σ H => ∃ m ρ S, Ext m1 H1 m H ∧ Rd0 (Gx.of X) m ρ S σ H ∧ PostS (Gx.of X) W m H (loopF g Bs (xs.drop (i + 1)) ρ S) D, fun σ' H' z => ⟨xs.length - (i + 1), by omega, rfl, hlt, z⟩, fun x H' hy => ?_⟩
      obtain ⟨k, it, ei, ri⟩ := j3 x H' hlt hy
      have ex3 : Ext m2 H2 m2 H' := Ext.same k
      have R3 : Rd0 (Gx.of X) m2 ρ2 S2 σ2 H' := R2.ext ex3 (R2.s.same k)
      have hd : xs.drop i = it :: xs.drop (i + 1) := by
        obtain ⟨_, hx⟩ := List.getElem?_eq_some_iff.mp ei
        rw [← hx]; exact List.drop_eq_getElem_cons hlt
      rw [hd] at h2
      unfold loopF at h2
      split at h2
      · exact h2.elim
      · rename_i ρ3 eg
        refine ⟨m2, ρ2, S2, it, ρ3, R3, ri, eg, fun σ4 R4 _ => ⟨m2, ρ3, S2, R4, ?_⟩⟩
        have e3 := e2.trans ex3
        revert h2
        cases Bs ρ3 S2 with
        | next ρ5 S5 => exact fun h2 m' H'' σ' e R' => ⟨m', ρ5, S5, e3.trans e, R', PostS.ext (G := Gx.of X) h2 (ex3.trans e)⟩
        | cnt ρ5 S5 => exact fun h2 m' H'' σ' e R' => ⟨m', ρ5, S5, e3.trans e, R', PostS.ext (G := Gx.of X) h2 (ex3.trans e)⟩
        | brk ρ5 S5 => exact fun h2 m' H'' σ' e R' => h2 m' H'' σ' (ex3.trans e) R'
        | ret v S5 => exact fun h2 m' H'' u e s r => h2 m' H'' u (ex3.trans e) s r
        | err c f ρ5 S5 => exact fun h2 m' H'' σ' cls d e R' r => h2 m' H'' σ' cls d (ex3.trans e) R' r
        | bad => exact fun z => z
    · have e0 : i = xs.length := by omega
      refine .inl ⟨j2 (by omega), ?_⟩
      rw [e0, List.drop_length] at h2
      exact h2 m2 H2 σ2 (Ext.refl _ _) R2
/-- THE RULE for a while -/
theorem s_while (n : Nat) (hp : PassesOwn (model X.prog X.w) X.A X.env X.xe) (hc : PTv X W a T) (hb : PSsv X W sts Bs) : PSv X W (.While a sts [] pos) (dWhile n T Bs) := PS.imp (ps_while hp hc hb) fun D σ H ⟨m, ρ, S, R, h⟩ => by
  refine ⟨fun k σ H => ∃ m ρ S, Rd0 (Gx.of X) m ρ S σ H ∧ PostS (Gx.of X) W m H (loopW T Bs k ρ S) D, ⟨n, m, ρ, S, R, h⟩, ?_⟩
  rintro k σ2 H2 ⟨m2, ρ2, S2, R2, h2⟩
  cases k with
  | zero => exact h2.elim
  | succ k =>
    unfold loopW at h2
    have h3 := bindT_S (G := Gx.of X) R2 h2
    refine ⟨m2, ρ2, S2, R2, ?_⟩
    revert h3
    cases T ρ2 S2 with
    | err c f S => exact fun z => z
    | bad => exact fun z => z
    | ok x S1 =>
      intro h3 m3 H3 e3 s3
      obtain ⟨m4, S4, e4, s4, h4⟩ := h3 m3 H3 e3 s3
      have R4 := R2.ext e4 s4
      cases x with
      | false => exact h4 m4 H3 σ2 (Ext.refl _ _) R4
      | true =>
        simp only [ite_true] at h4 ⊢
        refine ⟨fun σ H => ∃ m ρ S, Rd0 (Gx.of X) m ρ S σ H ∧ PostS (Gx.of X) W m H (loopW T Bs k ρ S) D, fun σ' H' z => ⟨k, Nat.lt_succ_self _, z⟩, m4, ρ2, S4, R4, ?_⟩
        revert h4
        cases Bs ρ2 S4 with
        | next ρ5 S5 => exact fun h2 m' H'' σ' e R' => ⟨m', ρ5, S5, R', PostS.ext (G := Gx.of X) h2 e⟩
        | cnt ρ5 S5 => exact fun h2 m' H'' σ' e R' => ⟨m', ρ5, S5, R', PostS.ext (G := Gx.of X) h2 e⟩
        | brk ρ5 S5 => exact fun h2 m' H'' σ' e R' => h2 m' H'' σ' e R'
        | ret v S5 => exact fun h2 m' H'' u e s r => h2 m' H'' u e s r
        | err c f ρ5 S5 => exact fun h2 m' H'' σ' cls d e R' r => h2 m' H'' σ' cls d e R' r
        | bad => exact fun z => z
end
end Mi
set_option maxHeartbeats 4000000
namespace Mi
open PySem PySem.Spec PyProof.Rows L2
def wipeE (ρ : En) : List Nat → En
  | [] => ρ
  | v :: vs => (wipeE ρ vs).set v none
def W0 : WX := fun _ _ _ _ => False
/-- a comprehension's turns -/
def loopC (g : DG) (T : DT) (E : DE) (ρ : En) : List Val → List PyData → Sto → Res Val
  | [], acc, S => .ok (.pv (.list acc)) S
  | x :: xs, acc, S => match g x ρ with
    | none => .bad
    | some ρ1 => match T ρ1 S with
      | .ok true S1 => match E ρ1 S1 with
        | .ok (.pv p) S2 => if szOk (acc.length + 1) then loopC g T E ρ xs (acc ++ [p]) S2 else .bad
        | _ => .bad
      | .ok false S1 => loopC g T E ρ xs acc S1
      | _ => .bad
def dLc (I : DI) (vs : List Nat) (g : DG) (T : DT) (E : DE) : DE := fun ρ S => (I ρ S).bind fun xs S1 => loopC g T E (wipeE ρ vs) xs [] S1
def dYes : DT := fun _ S => .ok true S
section
variable {G : Gx}
theorem Rd0.wipe {m : Mp} {ρ : En} {S : Sto} {σ : L2.St} {H : Hp} (R : Rd0 G m ρ S σ H) : ∀ vs : List Nat, Rd0 G m (wipeE ρ vs) S (L2.wipe σ vs) H
  | [] => R
  | v :: vs => by
    have R' := Rd0.wipe R vs
    refine ⟨⟨by show ((wipeE ρ vs).set v none).length = ((L2.wipe σ vs).set v none).length; simp [R'.e.len], fun i x e => ?_⟩, R'.s⟩
    have e : ((wipeE ρ vs).set v none)[i]? = some (some x) := e
    show ∃ u, ((L2.wipe σ vs).set v none)[i]? = some (some u) ∧ _
    by_cases hi : v = i
    · subst hi
      rw [List.getElem?_set] at e
      simp only [ite_true] at e
      split at e <;> cases e
    · rw [List.getElem?_set_ne hi] at e ⊢
      exact R'.e.at_ i x e
theorem wipe_idem (σ : L2.St) (vs : List Nat) : L2.wipe (L2.wipe σ vs) vs = L2.wipe σ vs := by
  have key : ∀ (ws vs : List Nat) (σ : L2.St), (∀ v ∈ ws, v ∈ vs) → L2.wipe (L2.wipe σ ws) vs = L2.wipe σ vs := by
    intro ws
    induction ws with
    | nil => intro vs σ _; rfl
    | cons w ws ih =>
      intro vs σ h
      show L2.wipe ((L2.wipe σ ws).set w none) vs = _
      rw [wipe_setIn (h w List.mem_cons_self)]
      exact ih vs σ fun v hv => h v (List.mem_cons_of_mem _ hv)
  exact key vs vs σ fun _ h => h
end
section
variable {P : Program} {w : World} {K : PySem.W.Frag} {m m' : Mp} {H H' : Hp} {mg : Str → Option Value}
/-- a list that data keep away from is changed -/
theorem Go.updAv {D : Addr} {us : List V} {o : HO} (hD : D ∈ m.av) (e : H D = some (.lst us)) : Go P w K m H m (L2.upd H D o) where
  tup := fun a vs h => SqT.go h fun o' e' _ l _ => by
    rw [upd_ne fun z => by rw [z, e] at e'; cases e'; exact l _ rfl]; exact e'
  lst := fun a vs h n => ⟨by rw [upd_ne (fun z : a = D => n (.inr (by rw [z]; exact hD)))]; exact h, n⟩
  dct := fun a vs h n => ⟨by rw [upd_ne (fun z : a = D => n (.inr (by rw [z]; exact hD)))]; exact h, n⟩
theorem tabs_upd {T : List (Addr × Str)} {D : Addr} {u o : HO} (t : LamX.Tabs T H) (e : H D = some u) (h1 : ∀ ps, u ≠ .tbl ps) (h2 : ∀ c q, u ≠ LamX.CodeO c q) : LamX.Tabs T (L2.upd H D o) := fun p hp => by
  obtain ⟨ps, a1, a2, a3⟩ := t p hp
  refine ⟨ps, by rw [upd_ne fun z => h1 ps (by rw [← z, a1] at e; exact (Option.some.inj e).symm)]; exact a1, a2, fun pos cv hc => ?_⟩
  obtain ⟨c, e1, e2⟩ := a3 pos cv hc
  exact ⟨c, e1, by rw [upd_ne fun z => h2 c p.2 (by rw [← z, e2] at e; exact (Option.some.inj e).symm)]; exact e2⟩
theorem RepS.updAv {S : Sto} {D : Addr} {us : List V} {o : HO} (r : RepS P w K m H S) (hD : D ∈ m.av) (e : H D = some (.lst us)) (ho : ∀ ps, o ≠ .tbl ps := by intro _ z; cases z) : RepS P w K m (L2.upd H D o) S where
  len := r.len
  av := fun a h => ⟨(r.av a h).1, by
    by_cases z : a = D
    · subst z; exact ⟨_, upd_same, ho⟩
    · rw [upd_ne z]; exact (r.av a h).2⟩
  tabs := tabs_upd r.tabs e (fun _ z => by cases z) (fun _ _ z => by unfold LamX.CodeO at z; cases z)
  nd := r.nd
  ob := fun l o' h2 => by
    have g : Go P w K m H m (L2.upd H D o) := Go.updAv hD e
    rcases r.ob l o' h2 with q | ⟨a, h1, q⟩
    · exact .inl q
    refine .inr ⟨a, h1, ?_⟩
    have na : a ≠ D := fun z => (r.av D hD).1 (z ▸ List.mem_of_getElem? h1)
    cases o' with
    | lst xs => obtain ⟨us, e, q⟩ := q; exact ⟨us, by rw [upd_ne na]; exact e, Reps.go g xs us q⟩
    | dct kvs => obtain ⟨xs, e, y, z, d, q⟩ := q; exact ⟨xs, by rw [upd_ne na]; exact e, y, z, d, RepK.go g kvs xs.l q⟩
    | dead => exact q
    | tab _ _ => exact q
theorem RepS.less {S : Sto} (r : RepS P w K m H S) (hs : m'.st = m.st) (ht : m'.tb = m.tb) (h : ∀ a, a ∈ m'.av → a ∈ m.av) : RepS P w K m' H S where
  len := by rw [hs]; exact r.len
  av := fun a ha => by rw [hs]; exact r.av a (h a ha)
  tabs := by rw [ht]; exact r.tabs
  nd := by rw [hs]; exact r.nd
  ob := fun l o' h2 => by
    have g : Go P w K m H m' H := Go.less fun a z => z.elim (fun z => .inl (hs ▸ z)) fun z => .inr (h a z)
    rcases r.ob l o' h2 with q | ⟨a, h1, q⟩
    · refine .inl ⟨?_, by rw [hs]; exact q.2⟩
      cases o' with
      | lst xs => exact q.1
      | dct kvs => exact q.1
      | dead => exact q.1
      | tab P q' => exact ⟨by rw [ht]; exact q.1.1, by rw [ht]; exact q.1.2⟩
    refine .inr ⟨a, by rw [hs]; exact h1, ?_⟩
    cases o' with
    | lst xs => obtain ⟨us, e, q⟩ := q; exact ⟨us, e, Reps.go g xs us q⟩
    | dct kvs => obtain ⟨xs, e, y, z, d, q⟩ := q; exact ⟨xs, e, y, z, d, RepK.go g kvs xs.l q⟩
    | dead => exact q
    | tab _ _ => exact q
/-- .. keep away from D too -/
abbrev Mp.avoid (m : Mp) (D : Addr) : Mp := { m with av := D :: m.av }
/-- .. D is free again -/
abbrev Mp.drop (m : Mp) (D : Addr) : Mp := { m with av := m.av.filter fun a => decide (a ≠ D) }
theorem Mp.drop_not {D : Addr} (r : some D ∉ m.st) : ¬ (m.drop D).has D := fun z => z.elim r fun z => by
  have := (List.mem_filter.mp z).2
  simp at this
end
section
variable {X : Cx} {W : WX} {pos : Pos} {A B C E : DE} {a b c tg iter elt : Expr} {es rest ifs : List Expr} {As : DA} {T T' : DT} {g : DG} {Is : DI} {scope : Scope} {own : List (Str × Nat)}
abbrev PTsv (X : Cx) (W : WX) (e : List Expr) (D : DT) : Prop := PTs X e (tevT (Gx.of X) W D)
theorem ts_nil : PTsv X W [] dYes := ⟨fun pins s σ H Q I ⟨m, ρ, S, R, h⟩ => pts_nil.run pins s σ H Q I (h m H (Ext.refl _ _) R.s)⟩
theorem ts_one (h : PTv X W a T) : PTsv X W [a] T := pts_one h
/-- the comprehension's reading -/
theorem lc_read {σ : L2.St} {H : Hp} {Q : VK} {vs : List Nat} (h : tev (Gx.of X) W (dLc Is vs g T E) σ H Q) : tLc (tevI (Gx.of X) W Is) (tevG (Gx.of X) vs g) (tevT (Gx.of X) W0 T) (tev (Gx.of X) W0 E) vs σ H Q := by
  obtain ⟨m, ρ, S, R, h⟩ := h
  refine ⟨m, ρ, S, R, ?_⟩
  unfold dLc at h
  revert h
  cases Is ρ S with
  | err c f S1 => exact fun z => z
  | bad => exact fun z => z
  | ok xs S1 =>
    intro h m1 H1 J e1 s1 jo D hD
    have h : PostE (Gx.of X) W σ m1 H1 (loopC g T E (wipeE ρ vs) xs [] S1) Q := PostE.ext (G := Gx.of X) h e1
    have R1 := (R.ext e1 s1).wipe vs
    refine ⟨fun i n H => n = xs.length - i ∧ i ≤ xs.length ∧ ∃ (m : Mp) (S : Sto) (acc : List PyData) (us : List V), D ∈ m.av ∧ Ext m1 H1 m H ∧ RepS X.prog X.w X.K m H S ∧ H D = some (.lst us) ∧ Reps X.prog X.w X.K m H acc us ∧
      PostE (Gx.of X) W σ m1 H1 (loopC g T E (wipeE ρ vs) (xs.drop i) acc S) Q, ⟨xs.length, by simp, Nat.zero_le _, m1.avoid D, S1, [], [], List.mem_cons_self, ?_, ?_, upd_same, rfl, by simpa using h⟩, ?_⟩
    · have e := Ext.upd (m := m1) (o := .lst []) hD
      exact ⟨e.keep, e.fresh, fun a ha => by
        rcases List.mem_cons.mp ha with z | z
        · subst z; exact .inr (.of hD)
        · exact .inl (.inr z), fun a ha => List.mem_cons_of_mem _ ha, rfl, e.len, e.pre⟩
    · have s2 : RepS X.prog X.w X.K m1 (upd H1 D (.lst [])) S1 := s1.upd hD
      have nD := s1.notin hD
      have gg : Go X.prog X.w X.K m1 H1 (m1.avoid D) (upd H1 D (.lst [])) := ⟨fun a us q => SqT.go q fun o e _ _ _ => by rw [upd_ne (ne_of_none e hD)]; exact e,
        fun a us q n => ⟨by rw [upd_ne (ne_of_none q hD)]; exact q, fun z => z.elim (fun z => n (.inl z)) fun z => (List.mem_cons.mp z).elim (fun z => by rw [z, hD] at q; cases q) fun z => n (.inr z)⟩,
        fun a us q n => ⟨by rw [upd_ne (ne_of_none q hD)]; exact q, fun z => z.elim (fun z => n (.inl z)) fun z => (List.mem_cons.mp z).elim (fun z => by rw [z, hD] at q; cases q) fun z => n (.inr z)⟩⟩
      refine ⟨s2.len, fun a ha => ?_, s2.tabs, s2.nd, fun l o' h2 => ?_⟩
      · rcases List.mem_cons.mp ha with z | z
        · subst z; exact ⟨fun z => nD (.inl z), _, upd_same, fun _ z => by cases z⟩
        · exact s2.av a z
      · rcases s1.ob l o' h2 with q | ⟨a, h1, q⟩
        · exact .inl q
        refine .inr ⟨a, h1, ?_⟩
        have na : a ≠ D := fun z => nD (.inl (z ▸ List.mem_of_getElem? h1))
        cases o' with
        | lst xs => obtain ⟨us, e, q⟩ := q; exact ⟨us, by rw [upd_ne na]; exact e, Reps.go gg xs us q⟩
        | dct kvs => obtain ⟨xs, e, y, z, d, q⟩ := q; exact ⟨xs, by rw [upd_ne na]; exact e, y, z, d, RepK.go gg kvs xs.l q⟩
        | dead => exact q
        | tab _ _ => exact q
    · rintro i n H2 ⟨rfl, hi, m2, S2, acc, us, hav, e2, s2, hl, ra, h2⟩
      obtain ⟨j1, j2, j3⟩ := jo i m2 H2 e2 s2.mok
      by_cases hlt : i < xs.length
      · refine .inr ⟨j1 hlt, fun H => ∃ (m : Mp) (S : Sto) (acc : List PyData) (us : List V), D ∈ m.av ∧ Ext m1 H1 m H ∧ RepS X.prog X.w X.K m H S ∧ H D = some (.lst us) ∧ Reps X.prog X.w X.K m H acc us ∧
          PostE (Gx.of X) W σ m1 H1 (loopC g T E (wipeE ρ vs) (xs.drop (i + 1)) acc S) Q, fun H' z => ⟨xs.length - (i + 1), by omega, rfl, hlt, z⟩, fun x H' hy => ?_⟩
        obtain ⟨k, it, ei, ri⟩ := j3 x H' hlt hy
        have ex3 : Ext m2 H2 m2 H' := Ext.same k
        have R3 : Rd0 (Gx.of X) m2 (wipeE ρ vs) S2 (wipe σ vs) H' := (R1.ext e2 s2).ext ex3 (s2.same k)
        have hd : xs.drop i = it :: xs.drop (i + 1) := by
          obtain ⟨_, hx⟩ := List.getElem?_eq_some_iff.mp ei
          rw [← hx]; exact List.drop_eq_getElem_cons hlt
        rw [hd] at h2
        unfold loopC at h2
        split at h2
        · exact h2.elim
        · rename_i ρ3 eg
          refine ⟨m2, _, S2, it, ρ3, R3, ri, eg, fun σ4 R4 hw => ⟨hw.trans (wipe_idem σ vs), m2, ρ3, S2, R4, ?_⟩⟩
          revert h2
          cases T ρ3 S2 with
          | err c f S5 => exact fun z => z.elim
          | bad => exact fun z => z.elim
          | ok bb S5 =>
            intro h2 m5 H5 e5 s5
            have R5 := R4.ext e5 s5
            have hav5 := e5.avs D hav
            have hl5 : H5 D = some (.lst us) := e5.keep D _ (k _ _ hl) (s2.av D hav).1 fun _ z => by cases z
            have ra5 : Reps X.prog X.w X.K m5 H5 acc us := Reps.go (Go.of (s2.same k).mok e5) _ _ (Reps.go (Go.of s2.mok ex3) _ _ ra)
            have e15 : Ext m1 H1 m5 H5 := (e2.trans ex3).trans e5
            cases bb with
            | false => exact ⟨m5, S5, acc, us, hav5, e15, s5, hl5, ra5, h2⟩
            | true =>
              simp only [ite_true]
              refine ⟨m5, ρ3, S5, R5, ?_⟩
              revert h2
              dsimp only
              cases E ρ3 S5 with
              | err c f S6 => exact fun z => z.elim
              | bad => exact fun z => z.elim
              | ok y S6 =>
                cases y with
                | pv p =>
                  intro h2 m6 H6 v e6 s6 r6
                  dsimp only at h2
                  split at h2
                  · rename_i hz
                    have hav6 := e6.avs D hav5
                    have hl6 : H6 D = some (.lst us) := e6.keep D _ hl5 (s5.av D hav5).1 fun _ z => by cases z
                    have ra6 : Reps X.prog X.w X.K m6 H6 acc us := Reps.go (Go.of s5.mok e6) _ _ ra5
                    have e16 := e15.trans e6
                    have gg : Go X.prog X.w X.K m6 H6 m6 (upd H6 D (.lst (us ++ [v]))) := Go.updAv hav6 hl6
                    refine ⟨us, hl6, by rw [← Reps.length ra6]; have := of_decide_eq_true hz; rw [sizeLine_eq]; omega, m6, S6, acc ++ [p], us ++ [v], hav6, ?_, s6.updAv hav6 hl6, upd_same, Reps.append (Reps.go gg _ _ ra6) ⟨v, [], rfl, Rep.go gg _ _ r6, rfl⟩, h2⟩
                    exact ⟨fun a o q n t => by rw [upd_ne (ne_of_none q hD)]; exact e16.keep a o q n t, e16.fresh, e16.frA, e16.avs, e16.tbs, e16.len, e16.pre⟩
                  · exact h2.elim
                | _ => exact fun z => z.elim
      · have e0 : i = xs.length := by omega
        refine .inl ⟨j2 (by omega), ?_⟩
        rw [e0, List.drop_length] at h2
        have nst := (s2.av D hav).1
        refine h2 (m2.drop D) H2 (.ref D) ⟨e2.keep, e2.fresh, fun a ha => e2.frA a ((List.mem_filter.mp ha).1), fun a ha => List.mem_filter.mpr ⟨e2.avs a ha, decide_eq_true fun z => ?_⟩, e2.tbs, e2.len, e2.pre⟩ (s2.less rfl rfl fun a ha => (List.mem_filter.mp ha).1) ⟨D, us, rfl, hl, Mp.drop_not nst, Reps.go (Go.less (m := m2) (m' := m2.drop D) fun a (z : some a ∈ m2.st ∨ a ∈ m2.av.filter _) => z.imp id fun z => (List.mem_filter.mp z).1) _ _ ra⟩
        obtain ⟨o, eo, _⟩ := (s1.av a ha).2
        rw [z, hD] at eo; cases eo
/-- THE RULE for a list comprehension of one clause -/
theorem r_lc (hc : X.calm = true) (hN : X.N.Nodup) (hi : PIv X W tg iter Is) (ok : BlkOk X.N X.env.scope scope own)
    (hg : ∀ (s : Shared) (H : Hp) (C : Addr) (cl : List (Str × Addr)) (fp : List Addr), PGv (X.blk s H scope (compEnvC scope cl C X.env) fp) (own.map (·.2)) tg g) (ht : ∀ (s : Shared) (H : Hp) (C : Addr) (cl : List (Str × Addr)) (fp : List Addr), PTsv (X.blk s H scope (compEnvC scope cl C X.env) fp) W0 ifs T)
    (he : ∀ (s : Shared) (H : Hp) (C : Addr) (cl : List (Str × Addr)) (fp : List Addr), PEv (X.blk s H scope (compEnvC scope cl C X.env) fp) W0 elt E) (hs : ∀ x, foldedSetIterable iter X.env x = pure x := by intro _; rfl) :
    PEv X W (.ListComp elt [⟨tg, iter, ifs, 0⟩] scope pos) (dLc Is (own.map (·.2)) g T E) := PE.imp (pe_lc hc hN hi ok hg ht he hs) fun σ H Q h => lc_read h
end
end Mi
set_option maxHeartbeats 4000000
namespace Mi
open PySem PySem.Spec PyProof.Rows L2
/-- a built-in's rule, by what it makes of values -/
def rB (X : Cx) (W : WX) (σ0 : L2.St) (bf : Fn) : List V → Hp → VK → Prop := fun us H Q => ∃ m S xs, RepS X.prog X.w X.K m H S ∧ RepVs X.prog X.w X.K m H X.mg xs us ∧ PostE (Gx.of X) W σ0 m H (bf xs S) Q
abbrev Bf (X : Cx) (f : Value) (bf : Fn) : Prop := ∀ (W : WX) (σ0 : L2.St), CallR X f (rB X W σ0 bf)
section
variable {X : Cx} {W : WX} {pos : Pos} {A B C E : DE} {a b c tg iter elt : Expr} {es rest ifs : List Expr} {As : DA} {bf : Fn}
theorem RepVs.one {P : Program} {w : World} {K : PySem.W.Frag} {m : Mp} {H : Hp} {mg : Str → Option Value} {x : Val} {us : List V} (h : RepVs P w K m H mg [x] us) : ∃ u, us = [u] ∧ RepV P w K m H mg x u := by
  obtain ⟨u, r, e, h1, h2⟩ := h
  cases h2
  exact ⟨u, e, h1⟩
theorem RepVs.two {P : Program} {w : World} {K : PySem.W.Frag} {m : Mp} {H : Hp} {mg : Str → Option Value} {x y : Val} {us : List V} (h : RepVs P w K m H mg [x, y] us) : ∃ u v, us = [u, v] ∧ RepV P w K m H mg x u ∧ RepV P w K m H mg y v := by
  obtain ⟨u, r, e, h1, h2⟩ := h
  obtain ⟨v, rfl, h3⟩ := RepVs.one h2
  exact ⟨u, v, e, h1, h3⟩
theorem r_bi {x : Str} {p : Pos} {id : String} (hc : Bf X (.builtin id) bf) (hm : X.mg x = none) (hv : bootBuiltins x = some (.builtin id)) (ha : PAv X W (a :: es) As) (hg : Gl X x := by rfl) (hn : x ≠ "__name__" := by decide) (hdb : (x == ("__debug__" : Str)) = false := by decide)
    (he : starEach (a :: es) X.env = (false, eval a X.env) :: starEach es X.env := by rfl) (hpl : (backTo pos (starEach es X.env)).any (·.1) = false := by rfl) : PEv X W (.Call (.Name x p) (a :: es) [] pos) (dCall bf As) :=
  ⟨fun pins s σ H Q I h => (pe_callB (hc W σ) hg hm hv ha hn hdb he hpl).run pins s σ H Q I (tevA_get (tevA_top h) fun us H1 ⟨m1, S1, xs, s1, r1, h1⟩ => ⟨m1, S1, xs, s1, r1, h1⟩)⟩
theorem r_ty {x : Str} {p : Pos} {id : String} (hc : Bf X (.type id) bf) (hm : X.mg x = none) (hv : bootBuiltins x = some (.type id)) (ha : PAv X W (a :: es) As) (hg : Gl X x := by rfl) (hn : x ≠ "__name__" := by decide) (hdb : (x == ("__debug__" : Str)) = false := by decide)
    (he : starEach (a :: es) X.env = (false, eval a X.env) :: starEach es X.env := by rfl) (hpl : (backTo pos (starEach es X.env)).any (·.1) = false := by rfl) : PEv X W (.Call (.Name x p) (a :: es) [] pos) (dCall bf As) :=
  ⟨fun pins s σ H Q I h => (pe_callTy (hc W σ) hg hm hv ha hn hdb he hpl).run pins s σ H Q I (tevA_get (tevA_top h) fun us H1 ⟨m1, S1, xs, s1, r1, h1⟩ => ⟨m1, S1, xs, s1, r1, h1⟩)⟩
def b1 (f : PyData → Option PyData) : Fn := fun xs S => match xs with
  | [x] => match x.getR S with
    | some p => match f p with
      | some z => .ok (.pv z) S
      | none => .bad
    | none => .bad
  | _ => .bad
def fLen : PyData → Option PyData
  | .list xs => some (.int xs.length)
  | .tuple xs => some (.int xs.length)
  | .str z => if szOk z.length then some (.int z.length) else none
  | .dict kvs => some (.int kvs.length)
  | _ => none
def fInt : PyData → Option PyData
  | .int i => some (.int i)
  | .bool b => some (.int (if b then 1 else 0))
  | .str z => if z.length ≤ 640 then (PySem.intText? z).map .int else none
  | _ => none
def fBool : PyData → Option PyData
  | .int i => some (.bool (i != 0))
  | .bool b => some (.bool b)
  | _ => none
def fStr : PyData → Option PyData
  | .int i => if i.natAbs.log2 < 1920 then some (.str (toString i)) else none
  | _ => none
def fAbs : PyData → Option PyData
  | .int i => some (.int (if i < 0 then -i else i))
  | _ => none
def fTuple : PyData → Option PyData
  | .list xs => some (.tuple xs)
  | .tuple xs => some (.tuple xs)
  | _ => none
def fList : PyData → Option PyData
  | .list xs => some (.list xs)
  | .tuple xs => some (.list xs)
  | _ => none
def intsOf : List PyData → Option (List Int)
  | [] => some []
  | .int i :: xs => (intsOf xs).map fun r => i :: r
  | _ :: _ => none
def fSum : PyData → Option PyData
  | .list xs => (intsOf xs).map fun r => .int r.sum
  | _ => none
/-- a value read now, the script too -/
theorem peekR {m : Mp} {H : Hp} {S : Sto} {x : Val} {v : V} {p : PyData} (h : RepV X.prog X.w X.K m H X.mg x v) (r : RepS X.prog X.w X.K m H S) (e : x.getR S = some p) : RepT X.prog X.w X.K m H p v ∨ ∃ ps a us, p = .list ps ∧ v = .ref a ∧ SqL X.K H a us ∧ Reps X.prog X.w X.K m H ps us := by
  cases x with
  | ro xs =>
    obtain ⟨a, us, ev, q, r⟩ := h
    simp only [Val.getR_ro, Option.some.injEq] at e
    subst e
    exact .inr ⟨xs, a, us, rfl, ev, by rcases q with ⟨q, _⟩ | q; exact .inl q; exact q H, r⟩
  | pv p' => exact .inl (peek h r e)
  | loc l => exact .inl (peek h r e)
  | fn f => exact .inl (peek h r e)
/-- .. a list, whichever -/
theorem listR {m : Mp} {H : Hp} {S : Sto} {x : Val} {v : V} {ps : List PyData} (h : RepV X.prog X.w X.K m H X.mg x v) (r : RepS X.prog X.w X.K m H S) (e : x.getR S = some (.list ps)) : ∃ a us, v = .ref a ∧ SqL X.K H a us ∧ Reps X.prog X.w X.K m H ps us := by
  rcases peekR h r e with ⟨a, us, ev, q, r⟩ | ⟨ps', a, us, ep, ev, q, r⟩
  · exact ⟨a, us, ev, SqL.of q, r⟩
  · cases ep; exact ⟨a, us, ev, q, r⟩
theorem notL {m : Mp} {H : Hp} {S : Sto} {x : Val} {v : V} {p : PyData} (h : RepV X.prog X.w X.K m H X.mg x v) (r : RepS X.prog X.w X.K m H S) (e : x.getR S = some p) (n : ∀ ps, p ≠ .list ps) : RepT X.prog X.w X.K m H p v := by
  rcases peekR h r e with q | ⟨ps', a, us, ep, _⟩
  · exact q
  · exact absurd ep (n ps')
/-- unfolds a call of one argument -/
theorem b1_top {f : PyData → Option PyData} {σ0 : L2.St} {us : List V} {H : Hp} {Q : VK} (h : rB X W σ0 (b1 f) us H Q) : ∃ m S x u p z, us = [u] ∧ RepS X.prog X.w X.K m H S ∧ RepV X.prog X.w X.K m H X.mg x u ∧ x.getR S = some p ∧ f p = some z ∧
    ∀ m' H' w, Ext m H m' H' → RepS X.prog X.w X.K m' H' S → Rep X.prog X.w X.K m' H' z w → Q w H' := by
  obtain ⟨m, S, xs, rs, rv, h⟩ := h
  unfold b1 at h
  split at h
  · obtain ⟨u, rfl, r⟩ := RepVs.one rv
    split at h
    · rename_i p hp
      split at h
      · rename_i z hz
        exact ⟨m, S, _, u, p, z, rfl, rs, r, hp, hz, fun m' H' w e s r => h m' H' w e s r⟩
      · exact h.elim
    · exact h.elim
  · exact h.elim
theorem B_len : Bf X (.builtin "len") (b1 fLen) := by
  intro W σ0 pins s σ H us vs Q I rv h
  obtain ⟨m, S, x, u, p, z, rfl, rs, rx, hp, hz, k⟩ := b1_top h
  unfold fLen at hz
  split at hz
  · cases hz
    obtain ⟨a, us, rfl, hl, hr⟩ := listR rx rs hp
    exact call_len_seq pins s σ H _ vs Q I rv ⟨a, us, rfl, .inl hl, by rw [← Reps.length hr]; exact k m H _ (Ext.refl _ _) rs rfl⟩
  · cases hz
    obtain ⟨a, us, rfl, hl, hr⟩ := notL rx rs hp (fun _ z => by cases z)
    exact call_len_seq pins s σ H _ vs Q I rv ⟨a, us, rfl, .inr hl, by rw [← Reps.length hr]; exact k m H _ (Ext.refl _ _) rs rfl⟩
  · split at hz
    · rename_i hz'
      cases hz
      cases notL rx rs hp (fun _ z => by cases z)
      exact call_len_str pins s σ H _ vs Q I rv ⟨_, rfl, sz_of hz', k m H _ (Ext.refl _ _) rs rfl⟩
    · cases hz
  · rename_i kvs
    cases hz
    obtain ⟨a, xs, rfl, hd, hy, hl, nd, rk⟩ := notL rx rs hp (fun _ z => by cases z)
    cases rv with
    | cons r1 r2 =>
      cases r2
      obtain rfl := (show _ = Value.ref a from r1)
      have hm : s.heap.DictKeyed (nestedKind X.prog X.w) a (pairsH xs.l) := ⟨xs.l, dict_of I hd nd rk, rfl⟩
      have hlen : (pairsH xs.l).length = kvs.length := by
        have : ∀ {kvs : List (PyData × PyData)} {xs : List (NestedKey × Addr × Value)}, RepK X.prog X.w X.K m H kvs xs → (pairsH xs).length = kvs.length := by
          intro kvs
          induction kvs with
          | nil => intro xs h; cases h; rfl
          | cons kv kvs ih => obtain ⟨k, v⟩ := kv; rintro xs ⟨nk, ka, u, uv, r, rfl, _, _, _, _, _, h⟩; simpa [pairsH] using ih h
        exact this rk
      have hsz : (pairsH xs.l).length ≤ 16777216 := by
        have h2 : (pairsH xs.l).length = xs.l.length := by simp [pairsH]
        rw [sizeLine_eq] at hl; omega
      refine PyProof.Rows.call_len_slot (n := (pairsH xs.l).length) hm.typeIs F.slot_dict_len (fun Q' hq => len_keyed hy hm hq) (by omega) (by omega) ?_
      rw [hlen]
      exact ⟨.int kvs.length, H, I.tok _, ⟨_, rfl⟩, k m H _ (Ext.refl _ _) rs rfl⟩
  · cases hz
theorem B_int : Bf X (.type "int") (b1 fInt) := by
  intro W σ0 pins s σ H us vs Q I rv h
  obtain ⟨m, S, x, u, p, z, rfl, rs, rx, hp, hz, k⟩ := b1_top h
  unfold fInt at hz
  split at hz
  · cases hz
    cases notL rx rs hp (fun _ z => by cases z)
    exact call_int1 pins s σ H _ vs Q I rv (.inl ⟨_, rfl, k m H _ (Ext.refl _ _) rs rfl⟩)
  · cases hz
    cases notL rx rs hp (fun _ z => by cases z)
    exact call_int1 pins s σ H _ vs Q I rv (.inr ⟨_, rfl, k m H _ (Ext.refl _ _) rs rfl⟩)
  · split at hz
    · rename_i hz'
      simp only [Option.map_eq_some_iff] at hz
      obtain ⟨n, e, rfl⟩ := hz
      cases notL rx rs hp (fun _ z => by cases z)
      exact call_int_str pins s σ H _ vs Q I rv ⟨_, n, rfl, e, hz', k m H _ (Ext.refl _ _) rs rfl⟩
    · cases hz
  · cases hz
theorem B_bool : Bf X (.type "bool") (b1 fBool) := by
  intro W σ0 pins s σ H us vs Q I rv h
  obtain ⟨m, S, x, u, p, z, rfl, rs, rx, hp, hz, k⟩ := b1_top h
  unfold fBool at hz
  split at hz
  · cases hz
    cases notL rx rs hp (fun _ z => by cases z)
    exact call_bool1 pins s σ H _ vs Q I rv (.inl ⟨_, rfl, k m H _ (Ext.refl _ _) rs rfl⟩)
  · cases hz
    cases notL rx rs hp (fun _ z => by cases z)
    exact call_bool1 pins s σ H _ vs Q I rv (.inr ⟨_, rfl, k m H _ (Ext.refl _ _) rs rfl⟩)
  · cases hz
theorem B_str : Bf X (.type "str") (b1 fStr) := by
  intro W σ0 pins s σ H us vs Q I rv h
  obtain ⟨m, S, x, u, p, z, rfl, rs, rx, hp, hz, k⟩ := b1_top h
  unfold fStr at hz
  split at hz
  · split at hz
    · rename_i hz'
      cases hz
      cases notL rx rs hp (fun _ z => by cases z)
      exact call_str_int pins s σ H _ vs Q I rv ⟨_, rfl, hz', k m H _ (Ext.refl _ _) rs rfl⟩
    · cases hz
  · cases hz
theorem B_abs : Bf X (.builtin "abs") (b1 fAbs) := by
  intro W σ0 pins s σ H us vs Q I rv h
  obtain ⟨m, S, x, u, p, z, rfl, rs, rx, hp, hz, k⟩ := b1_top h
  unfold fAbs at hz
  split at hz
  · cases hz
    cases notL rx rs hp (fun _ z => by cases z)
    exact call_abs pins s σ H _ vs Q I rv ⟨_, rfl, k m H _ (Ext.refl _ _) rs rfl⟩
  · cases hz
theorem B_tuple : Bf X (.type "tuple") (b1 fTuple) := by
  intro W σ0 pins s σ H us vs Q I rv h
  obtain ⟨m, S, x, u, p, z, rfl, rs, rx, hp, hz, k⟩ := b1_top h
  unfold fTuple at hz
  split at hz
  · cases hz
    obtain ⟨a, us, rfl, hl, hr⟩ := listR rx rs hp
    exact call_tuple_of pins s σ H _ vs Q I rv ⟨a, us, rfl, .inl ⟨hl, fun p np => k m _ _ (Ext.upd np) (rs.upd np) ⟨p, us, rfl, SqT.of upd_same, Reps.go (Go.of rs.mok (Ext.upd np)) _ _ hr⟩⟩⟩
  · cases hz
    obtain ⟨a, us, rfl, hl, hr⟩ := notL rx rs hp (fun _ z => by cases z)
    exact call_tuple_of pins s σ H _ vs Q I rv ⟨a, us, rfl, .inr ⟨hl, k m H _ (Ext.refl _ _) rs ⟨a, us, rfl, hl, hr⟩⟩⟩
  · cases hz
theorem B_list : Bf X (.type "list") (b1 fList) := by
  intro W σ0 pins s σ H us vs Q I rv h
  obtain ⟨m, S, x, u, p, z, rfl, rs, rx, hp, hz, k⟩ := b1_top h
  unfold fList at hz
  split at hz
  · cases hz
    obtain ⟨a, us, rfl, hl, hr⟩ := listR rx rs hp
    exact call_list_of pins s σ H _ vs Q I rv ⟨a, us, rfl, .inl hl, fun p np => k m _ _ (Ext.upd np) (rs.upd np) ⟨p, us, rfl, upd_same, rs.notin np, Reps.go (Go.of rs.mok (Ext.upd np)) _ _ hr⟩⟩
  · cases hz
    obtain ⟨a, us, rfl, hl, hr⟩ := notL rx rs hp (fun _ z => by cases z)
    exact call_list_of pins s σ H _ vs Q I rv ⟨a, us, rfl, .inr hl, fun p np => k m _ _ (Ext.upd np) (rs.upd np) ⟨p, us, rfl, upd_same, rs.notin np, Reps.go (Go.of rs.mok (Ext.upd np)) _ _ hr⟩⟩
  · cases hz
theorem ints_of {m : Mp} {H : Hp} : ∀ {ps : List PyData} {ns : List Int} {us : List V}, intsOf ps = some ns → Reps X.prog X.w X.K m H ps us → us = ns.map V.int
  | [], _, _, e, h => by cases e; cases h; rfl
  | .int i :: ps, _, _, e, ⟨u, r, eu, h1, h2⟩ => by
    simp only [intsOf, Option.map_eq_some_iff] at e
    obtain ⟨ns, e, rfl⟩ := e
    cases h1
    rw [eu, ints_of e h2]; rfl
  | .none :: _, _, _, e, _ => by cases e
  | .bool _ :: _, _, _, e, _ => by cases e
  | .str _ :: _, _, _, e, _ => by cases e
  | .list _ :: _, _, _, e, _ => by cases e
  | .tuple _ :: _, _, _, e, _ => by cases e
  | .dict _ :: _, _, _, e, _ => by cases e
theorem B_sum (hc : X.calm = true) : Bf X (.builtin "sum") (b1 fSum) := by
  intro W σ0 pins s σ H us vs Q I rv h
  obtain ⟨m, S, x, u, p, z, rfl, rs, rx, hp, hz, k⟩ := b1_top h
  unfold fSum at hz
  split at hz
  · simp only [Option.map_eq_some_iff] at hz
    obtain ⟨ns, e, rfl⟩ := hz
    obtain ⟨a, us, rfl, hl, hr⟩ := listR rx rs hp
    have eu := ints_of (X := X) e hr
    subst eu
    exact cr_sum hc pins s σ H _ vs Q I rv ⟨a, ns, rfl, hl, k m H _ (Ext.refl _ _) rs rfl⟩
  · cases hz
def b2 (f : Int → Int → Int) : Fn := fun xs S => match xs with
  | [.pv (.int i), .pv (.int j)] => .ok (.pv (.int (f i j))) S
  | _ => .bad
theorem B_max2 (hc : X.calm = true) : Bf X (.builtin "max") (b2 fun i j => if j > i then j else i) := by
  intro W σ0 pins s σ H us vs Q I rv ⟨m, S, xs, rs, rx, h⟩
  unfold b2 at h
  split at h
  · obtain ⟨u, v, rfl, r1, r2⟩ := RepVs.two rx
    cases r1; cases r2
    exact call_max2 hc pins s σ H _ vs Q I rv ⟨_, _, rfl, post_ok h rs rfl⟩
  · exact h.elim
theorem B_min2 (hc : X.calm = true) : Bf X (.builtin "min") (b2 fun i j => if j < i then j else i) := by
  intro W σ0 pins s σ H us vs Q I rv ⟨m, S, xs, rs, rx, h⟩
  unfold b2 at h
  split at h
  · obtain ⟨u, v, rfl, r1, r2⟩ := RepVs.two rx
    cases r1; cases r2
    exact call_min2 hc pins s σ H _ vs Q I rv ⟨_, _, rfl, post_ok h rs rfl⟩
  · exact h.elim
def tyName : PyData → Option String
  | .none => some "NoneType"
  | .bool _ => some "bool"
  | .int _ => some "int"
  | .str _ => some "str"
  | .list _ => some "list"
  | .tuple _ => some "tuple"
  | .dict _ => none
/-- is a value of the type n of the type T: the built-in types that are asked for -/
def isTy (n T : String) : Bool := decide (n = T) || (decide (n = "bool") && decide (T = "int"))
def dIsi (T : String) (A : DE) : DE := fun ρ S => (A ρ S).bind fun x S1 => match x with
  | .pv p => match tyName p with
    | some n => .ok (.pv (.bool (isTy n T))) S1
    | none => .bad
  | _ => .bad
theorem ty_of {m : Mp} {H : Hp} {p : PyData} {v : V} {n : String} (h : Rep X.prog X.w X.K m H p v) (e : tyName p = some n) : TyX X.K H v (.type n) := by
  cases p with
  | none => cases e; cases h; exact .base .non
  | bool b => cases e; cases h; exact .base (.bl b)
  | int b => cases e; cases h; exact .base (.int b)
  | str b => cases e; cases h; exact .base (.str b)
  | list b => cases e; obtain ⟨a, us, rfl, q, _⟩ := h; exact .base (.lst q)
  | tuple b =>
    cases e
    obtain ⟨a, us, rfl, q, _⟩ := h
    rcases q with (q | ⟨o, q⟩) | ⟨o, its, n, q, c, _⟩
    · exact .base (.tup q)
    · exact .fTuple q
    · exact .kTuple q c
  | dict b => cases e
theorem r_isi {T : String} {x : Str} {p q : Pos} (hT : ∀ n, n ∈ ["NoneType", "bool", "int", "str", "list", "tuple"] → kitB n T = some (isTy n T)) (hb : bootBuiltins x = some (.type T)) (hm : X.mg "isinstance" = none) (hm2 : X.mg x = none) (ha : PEv X W a A)
    (hg : Gl X "isinstance" := by rfl) (hg2 : Gl X x := by rfl) (hn : x ≠ "__name__" := by decide) (hd : (x == ("__debug__" : Str)) = false := by decide) (h1 : starEach [a, .Name x q] X.env = (false, eval a X.env) :: starEach [.Name x q] X.env := by rfl) (h2 : starEach [.Name x q] X.env = (false, eval (.Name x q) X.env) :: starEach [] X.env := by rfl)
    (hpl : (backTo pos (starEach [.Name x q] X.env)).any (·.1) = false := by rfl) : PEv X W (.Call (.Name "isinstance" p) [a, .Name x q] [] pos) (dIsi T A) :=
  PE.imp (pe_callB call_isi hg hm PyProof.Rows.boot_isinstance (pa_cons ha (pa_cons (pe_bltn (v := .ty T) hg2 hm2 hb rfl hn hd) pa_nil h2) h1) (by decide) (by decide) h1 hpl) fun σ H Q h => tev_get (tev_top h) fun u H1 ⟨m1, S1, y, s1, r1, h1⟩ => by
    split at h1
    · rename_i pd
      split at h1
      · rename_i n hn'
        refine ⟨u, .ty T, .type n, .type T, isTy n T, rfl, .ty T, ty_of r1 hn', kit_ty (hT n ?_), post_ok h1 s1 rfl⟩
        cases pd <;> simp only [tyName, Option.some.injEq, reduceCtorEq] at hn' <;> subst hn' <;> simp
      · exact h1.elim
    · exact h1.elim
theorem kit_int : ∀ n, n ∈ ["NoneType", "bool", "int", "str", "list", "tuple"] → kitB n "int" = some (isTy n "int") := by decide +kernel
theorem kit_bool : ∀ n, n ∈ ["NoneType", "bool", "int", "str", "list", "tuple"] → kitB n "bool" = some (isTy n "bool") := by decide +kernel
theorem kit_tuple : ∀ n, n ∈ ["NoneType", "bool", "int", "str", "list", "tuple"] → kitB n "tuple" = some (isTy n "tuple") := by decide +kernel
theorem kit_str : ∀ n, n ∈ ["NoneType", "bool", "int", "str", "list", "tuple"] → kitB n "str" = some (isTy n "str") := by decide +kernel
end
end Mi
set_option maxHeartbeats 4000000
namespace Mi
open PySem PySem.Spec PyProof.Rows L2
section
variable {P : Program} {w : World} {K : PySem.W.Frag} {m m' : Mp} {H H' : Hp} {mg : Str → Option Value}
/-- a shared object is changed: data stand -/
theorem Go.updSt {D : Addr} {o : HO} (hD : some D ∈ m.st) (mo : MOk m H) : Go P w K m H m (L2.upd H D o) where
  tup := fun a vs h => SqT.go h fun o' e' _ l x => by
    rw [upd_ne fun z => by
      rcases mo D hD with ⟨us, e⟩ | ⟨φ, e⟩ <;> rw [z, e] at e' <;> cases e'
      · exact l _ rfl
      · exact x _ rfl]; exact e'
  lst := fun a vs h n => ⟨by rw [upd_ne (fun z : a = D => n (.inl (by rw [z]; exact hD)))]; exact h, n⟩
  dct := fun a vs h n => ⟨by rw [upd_ne (fun z : a = D => n (.inl (by rw [z]; exact hD)))]; exact h, n⟩
theorem Ext.updSt {D : Addr} {o : HO} (hD : some D ∈ m.st) (mo : MOk m H) : Ext m H m (L2.upd H D o) :=
  ⟨fun a o' e n _ => by rw [upd_ne (fun z : a = D => n (by rw [z]; exact hD))]; exact e, fun _ h => .inl h, fun _ h => .inl (.inr h), fun _ h => h, rfl, Nat.le_refl _, fun _ _ _ h => h⟩
/-- no dict is a code object -/
theorem dictO_ne (P : Program) (w : World) (a : Addr) (xs : DX) (c : Addr) (q : Str) : DictO P w a xs ≠ LamX.CodeO c q := fun z => by
  unfold DictO LamX.CodeO at z
  have z := HO.ext.inj z
  let ob : Obj := { cls := .type "dict", data := .dict (xs.l.map (entryOfKey (nestedKind P w))).toArray xs.ep }
  let hh : Heap := { objs := (List.replicate (max a c + 1) ob).toArray }
  have g : ∀ b, b ≤ max a c → hh.get? b = some ob := fun b hb => by
    have e : hh.objs[b]? = some ob := by
      show ((List.replicate (max a c + 1) ob).toArray)[b]? = some ob
      rw [List.getElem?_toArray, List.getElem?_replicate, if_pos (Nat.lt_succ_of_le hb)]
    unfold Heap.get?
    rw [e]
  have h1 : (∃ o es, hh.get? a = some o ∧ o.ExactDict ∧ o.data = .dict es xs.ep ∧ es.toList = xs.l.map (entryOfKey (nestedKind P w))) :=
    ⟨ob, _, g a (Nat.le_max_left _ _), ⟨rfl, rfl, rfl⟩, rfl, by simp [ob]⟩
  have h2 := (congrFun z hh).mp h1
  obtain ⟨oc, vs, t, e1, e2, _⟩ := h2
  rw [g c (Nat.le_max_right _ _)] at e1
  cases e1
  cases e2
theorem RepS.put {S : Sto} {l : Nat} {D : Addr} {o : HO} {ob : Ob} (r : RepS P w K m H S) (hl : m.st[l]? = some (some D)) {ob0 : Ob} (h0 : S[l]? = some ob0) (q : RepO P w K m (L2.upd H D o) D ob) : RepS P w K m (L2.upd H D o) (S.set l ob) where
  len := by simp [r.len]
  av := fun a h => ⟨(r.av a h).1, by
    have na : a ≠ D := fun z => (r.av a h).1 (z ▸ List.mem_of_getElem? hl)
    rw [upd_ne na]; exact (r.av a h).2⟩
  tabs := by
    have q0 := r.at_ hl h0
    cases ob0 with
    | lst xs => obtain ⟨us, e, _⟩ := q0; exact tabs_upd r.tabs e (fun _ z => by cases z) (fun _ _ z => by unfold LamX.CodeO at z; cases z)
    | dct kvs => obtain ⟨xs, e, _⟩ := q0; exact tabs_upd r.tabs e (fun _ z => by unfold DictO at z; cases z) (fun c q => dictO_ne _ _ _ _ c q)
    | dead => exact q0.elim
    | tab _ _ => exact q0.elim
  nd := r.nd
  ob := fun j o' h2 => by
    have g : Go P w K m H m (L2.upd H D o) := Go.updSt (List.mem_of_getElem? hl) r.mok
    by_cases hj : l = j
    · subst hj
      rw [List.getElem?_set] at h2
      simp only [ite_true] at h2
      split at h2
      · cases h2; exact .inr ⟨D, hl, q⟩
      · cases h2
    · rw [List.getElem?_set_ne hj] at h2
      rcases r.ob j o' h2 with q | ⟨a, h1, q⟩
      · exact .inl q
      refine .inr ⟨a, h1, ?_⟩
      have na : a ≠ D := fun z => hj (r.nd l j D hl (z ▸ h1))
      cases o' with
      | lst xs => obtain ⟨us, e, q⟩ := q; exact ⟨us, by rw [upd_ne na]; exact e, Reps.go g xs us q⟩
      | dct kvs => obtain ⟨xs, e, y, z, d, q⟩ := q; exact ⟨xs, by rw [upd_ne na]; exact e, y, z, d, RepK.go g kvs xs.l q⟩
      | dead => exact q
      | tab _ _ => exact q
/-- the object that a slot's number names -/
theorem loc_at {S : Sto} {l : Nat} {v : V} {o : Ob} (r : RepS P w K m H S) (h : RepV P w K m H mg (.loc l) v) (e : S[l]? = some o) (n : ¬ Gst m o) : ∃ a, m.st[l]? = some (some a) ∧ v = .ref a ∧ RepO P w K m H a o := by
  rcases r.ob l o e with ⟨z, _⟩ | ⟨a, ea, q⟩
  · exact absurd z n
  · exact ⟨a, ea, h.2 a ea, q⟩
end
def fApp : Fn := fun xs S => match xs with
  | [.loc l, .pv p] => match S[l]? with
    | some (.lst ys) => if szOk (ys.length + 1) then .ok (.pv .none) (S.set l (.lst (ys ++ [p]))) else .bad
    | _ => .bad
  | _ => .bad
def fPop : Val → Sto → Res Val := fun x S => match x with
  | .loc l => match S[l]? with
    | some (.lst ys) => match ys[ys.length - 1]? with
      | some p => .ok (.pv p) (S.set l (.lst ys.dropLast))
      | none => .bad
    | _ => .bad
  | _ => .bad
def lstAt (x : Val) (S : Sto) : Bool := match x with
  | .loc l => match S[l]? with
    | some (.lst _) => true
    | _ => false
  | _ => false
def dApp (A B : DE) : DE := fun ρ S => (A ρ S).bind fun x S1 => if lstAt x S1 then (B ρ S1).bind fun y S2 => fApp [x, y] S2 else .bad
def dPop (A : DE) : DE := fun ρ S => (A ρ S).bind fPop
def dctPut (kvs : List (PyData × PyData)) (k : NestedKey) (kp v : PyData) : List (PyData × PyData) :=
  if kvs.any (fun kv => decide (keyOf kv.1 = some k)) then kvs.map fun kv => if keyOf kv.1 = some k then (kv.1, v) else kv else kvs ++ [(kp, v)]
/-- o[i] = v -/
def fSet (o i v : Val) (S : Sto) : Option Sto := match o, v with
  | .loc l, .pv p => match S[l]? with
    | some (.lst ys) => match i with
      | .pv (.int k) => match ixN ys.length k with
        | some j => some (S.set l (.lst (ys.set j p)))
        | none => none
      | _ => none
    | some (.dct kvs) => match i with
      | .pv kp => match dkey kp with
        | some k => if szOk (kvs.length + 1) then some (S.set l (.dct (dctPut kvs k kp p))) else none
        | none => none
      | _ => none
    | _ => none
  | _, _ => none
def dSub (O I A : DE) : DS := fun ρ S => (A ρ S).s ρ fun x S1 => (O ρ S1).s ρ fun o S2 => (I ρ S2).s ρ fun i S3 => match fSet o i x S3 with
  | some S4 => .next ρ S4
  | none => .bad
def dRaise (c : Str) : DS := fun ρ S => .err c none ρ S
section
variable {X : Cx} {W : WX} {pos : Pos} {A B C E : DE} {a b c tg iter elt : Expr} {es rest ifs : List Expr} {As : DA}
theorem reps_last {P : Program} {w : World} {K : PySem.W.Frag} {m : Mp} {H : Hp} {ps : List PyData} {us : List V} (h : Reps P w K m H ps us) : Reps P w K m H ps.dropLast us.dropLast := by
  rw [List.dropLast_eq_take, List.dropLast_eq_take, Reps.length h]
  exact Reps.take _ h
theorem reps_set {P : Program} {w : World} {K : PySem.W.Frag} {m : Mp} {H : Hp} : ∀ {ps : List PyData} {us : List V} (j : Nat) {p : PyData} {u : V}, Reps P w K m H ps us → Rep P w K m H p u → Reps P w K m H (ps.set j p) (us.set j u)
  | [], _, _, _, _, h, _ => by cases h; simp; rfl
  | q :: ps, _, 0, _, _, ⟨v, r, e, h1, h2⟩, hp => by subst e; exact ⟨_, _, rfl, hp, h2⟩
  | q :: ps, _, j + 1, _, _, ⟨v, r, e, h1, h2⟩, hp => by subst e; exact ⟨_, _, rfl, h1, reps_set j h2 hp⟩
/-- x.append(e) -/
theorem r_app {apos cpos : Pos} (ha : PEv X W a A) (hb : PEv X W b B) (hbase : attributeBase a "append" X.env (eval a X.env) = eval a X.env := by rfl)
    (hfew : ((backTo cpos (starEach [b] X.env)).all (fun x => !x.1) && (backToKw cpos (keywordEach [] X.env)).all (fun x => x.1.isSome) && decide (([b] : List Expr).length + ([] : List Keyword).length + (if ([] : List Keyword).isEmpty then 0 else 1) < 30)) = true := by rfl)
    (hline : (apos.endLine == cpos.line) = true := by rfl) (hs : starEach [b] X.env = (false, eval b X.env) :: starEach [] X.env := by rfl) (hplain : (backTo cpos (starEach [] X.env)).any (·.1) = false := by rfl) :
    PEv X W (.Call (.Attribute a "append" apos) [b] [] cpos) (dApp A B) :=
  PE.imp (pe_bm PySem.F.plainAttrs_list PySem.F.slot_list_append PySem.F.type_list_append mt_append ha (pa_cons hb pa_nil hs) hbase hfew hline hs hplain) fun σ H Q h => by
    obtain ⟨m, ρ, S, R, h⟩ := h
    have h1 := PostE.bind (G := Gx.of X) h
    refine ⟨m, ρ, S, R, ?_⟩
    revert h1
    cases A ρ S with
    | err c f S => exact fun z => z
    | bad => exact fun z => z
    | ok x S1 =>
      intro h1 m1 H1 u e s r
      obtain ⟨m1', S1', p, e', s', r', h2⟩ := h1 m1 H1 u e s r
      split at h2
      · rename_i hx
        have h2' := PostE.bind (G := Gx.of X) h2
        refine ⟨?_, m1', ρ, S1', R.ext e' s', ?_⟩
        · unfold lstAt at hx
          split at hx
          · split at hx
            · rename_i ys hy
              obtain ⟨a, ea, rfl, us, q, _⟩ := loc_at s' r' hy (fun z => by cases z)
              exact .inl ⟨rfl, us, SqL.of q⟩
            · cases hx
          · cases hx
        · revert h2'
          cases B ρ S1' with
          | err c f S2 => exact fun z => z
          | bad => exact fun z => z
          | ok y S2 =>
            intro h2' m2 H2 v e2 s2 r2
            obtain ⟨m3, S3, q, e3, s3, r3, h3⟩ := h2' m2 H2 v e2 s2 r2
            have rx := RepV.ext r' s'.mok e3
            unfold fApp at h3
            split at h3
            · rename_i l pd heq
              simp only [List.cons.injEq, and_true] at heq
              obtain ⟨rfl, rfl⟩ := heq
              split at h3
              · rename_i ys hy
                split at h3
                · rename_i hz
                  obtain ⟨a, ea, rfl, us, hl, hr⟩ := loc_at s3 rx hy (fun z => by cases z)
                  refine ⟨a, us, v, rfl, rfl, hl, by rw [← Reps.length hr]; have := of_decide_eq_true hz; rw [sizeLine_eq]; omega, ?_⟩
                  have hD := List.mem_of_getElem? ea
                  have g : Go X.prog X.w X.K m3 H2 m3 (upd H2 a (.lst (us ++ [v]))) := Go.updSt hD s3.mok
                  exact h3 m3 _ _ (Ext.updSt hD s3.mok) (s3.put ea hy ⟨_, upd_same, Reps.append (Reps.go g _ _ hr) ⟨v, [], rfl, Rep.go g _ _ r3, rfl⟩⟩) rfl
                · exact h3.elim
              · exact h3.elim
            · exact h3.elim
      · exact h2.elim
theorem dPop_rd {m : Mp} {H : Hp} {S : Sto} {x : Val} {u : V} {σ : L2.St} {Q : VK} (s : RepS X.prog X.w X.K m H S) (r : RepV X.prog X.w X.K m H X.mg x u) (h : PostE (Gx.of X) W σ m H (fPop x S) Q) : tyV X.K "list" u H ∧ rPop u [] H Q := by
  unfold fPop at h
  split at h
  · split at h
    · rename_i ys hy
      split at h
      · rename_i p hp
        obtain ⟨a, ea, rfl, us, hl, hr⟩ := loc_at s r hy (fun z => by cases z)
        obtain ⟨v, ev, rv⟩ := Reps.get _ hr hp
        have hD := List.mem_of_getElem? ea
        have g : Go X.prog X.w X.K m H m (upd H a (.lst us.dropLast)) := Go.updSt hD s.mok
        refine ⟨.inl ⟨rfl, us, SqL.of hl⟩, a, us, v, rfl, rfl, hl, by rw [← Reps.length hr]; exact ev, ?_⟩
        exact h m _ _ (Ext.updSt hD s.mok) (s.put ea hy ⟨_, upd_same, reps_last (Reps.go g _ _ hr)⟩) (Rep.go g _ _ rv)
      · exact h.elim
    · exact h.elim
  · exact h.elim
/-- x.pop() -/
theorem r_pop {apos cpos : Pos} (ha : PEv X W a A) (hbase : attributeBase a "pop" X.env (eval a X.env) = eval a X.env := by rfl) (hline : (apos.endLine == cpos.line) = true := by rfl) : PEv X W (.Call (.Attribute a "pop" apos) [] [] cpos) (dPop A) :=
  PE.imp (pe_bm0 PySem.F.plainAttrs_list PySem.F.slot_list_pop PySem.F.type_list_pop mt_pop ha hbase hline) fun σ H Q h => tev_get (tev_top h) fun v H' ⟨m1, S1, x, s1, r1, h1⟩ => dPop_rd s1 r1 h1
/-- stores at a place, lists and dicts -/
def rSetM (X : Cx) : TSet := fun o i v H Q => ∃ m S ov iv vv S', RepS X.prog X.w X.K m H S ∧ RepV X.prog X.w X.K m H X.mg ov o ∧ RepV X.prog X.w X.K m H X.mg iv i ∧ RepV X.prog X.w X.K m H X.mg vv v ∧ fSet ov iv vv S = some S' ∧
  ∀ H', Ext m H m H' → RepS X.prog X.w X.K m H' S' → Q H'
theorem dict_put {P : Program} {w : World} {K : PySem.W.Frag} {m : Mp} {H : Hp} {k : NestedKey} {kp v : PyData} {ka : Addr} {u : Value} {uv : V} (h1 : keyOf kp = some k) (h2 : k.depth ≤ 8) (hk : Rep P w K m H kp (.ref ka)) (hu : RelV uv u) (hv : Rep P w K m H v uv) :
    ∀ {kvs : List (PyData × PyData)} {xs : List (NestedKey × Addr × Value)}, RepK P w K m H kvs xs → RepK P w K m H (dctPut kvs k kp v) (storedH xs k ka u) := by
  have any_ : ∀ {kvs : List (PyData × PyData)} {xs : List (NestedKey × Addr × Value)}, RepK P w K m H kvs xs → (kvs.any fun kv => decide (keyOf kv.1 = some k)) = (atKey xs k).isSome := by
    intro kvs
    induction kvs with
    | nil => intro xs h; cases h; rfl
    | cons kv kvs ih =>
      obtain ⟨kq, p⟩ := kv
      rintro xs ⟨nk, ka', u', uv', r, rfl, e1, e2, a1, a2, a3, a4⟩
      have := ih a4
      by_cases hn : nk = k
      · subst hn; simp [e1, atKey]
      · simp only [List.any_cons, e1, Option.some.injEq, hn, decide_false, Bool.false_or, this]
        simp [atKey, hn]
  have map_ : ∀ {kvs : List (PyData × PyData)} {xs : List (NestedKey × Addr × Value)}, RepK P w K m H kvs xs → RepK P w K m H (kvs.map fun kv => if keyOf kv.1 = some k then (kv.1, v) else kv) (xs.map (putAt k u)) := by
    intro kvs
    induction kvs with
    | nil => intro xs h; cases h; rfl
    | cons kv kvs ih =>
      obtain ⟨kq, p⟩ := kv
      rintro xs ⟨nk, ka', u', uv', r, rfl, e1, e2, a1, a2, a3, a4⟩
      by_cases hn : nk = k
      · subst hn
        simp only [List.map_cons, e1, ite_true]
        refine ⟨nk, ka', u, uv, _, ?_, e1, e2, a1, hu, hv, ih a4⟩
        simp [putAt]
      · simp only [List.map_cons, e1, Option.some.injEq, hn, ite_false]
        refine ⟨nk, ka', u', uv', _, ?_, e1, e2, a1, a2, a3, ih a4⟩
        simp [putAt, hn]
  intro kvs xs h
  unfold dctPut storedH
  rw [any_ h]
  split
  · exact map_ h
  · have app : ∀ {kvs : List (PyData × PyData)} {xs : List (NestedKey × Addr × Value)}, RepK P w K m H kvs xs → RepK P w K m H (kvs ++ [(kp, v)]) (xs ++ [(k, ka, u)]) := by
      intro kvs
      induction kvs with
      | nil => intro xs h; cases h; exact ⟨k, ka, u, uv, [], rfl, h1, h2, hk, hu, hv, rfl⟩
      | cons kv kvs ih =>
        obtain ⟨kq, p⟩ := kv
        rintro xs ⟨nk, ka', u', uv', r, rfl, e1, e2, a1, a2, a3, a4⟩
        exact ⟨nk, ka', u', uv', _, rfl, e1, e2, a1, a2, a3, ih a4⟩
    exact app h
theorem set_all (hu : X.A.units + 65 < cLine) : PSet X (rSetM X) := by
  intro pins s σ H o i v ov iv vv Q I ro ri rv ⟨m, S, xo, xi, xv, S', rs, r1, r2, r3, e, k⟩
  unfold fSet at e
  split at e
  · rename_i l p
    split at e
    · rename_i ys hy
      split at e
      · rename_i n
        split at e
        · rename_i j hj
          cases e
          obtain ⟨a, ea, rfl, us, hl, hr⟩ := loc_at rs r1 hy (fun z => by cases z)
          cases r2
          have hD := List.mem_of_getElem? ea
          have g : Go X.prog X.w X.K m H m (upd H a (.lst (us.set j v))) := Go.updSt hD rs.mok
          exact set_list pins s σ H _ _ v ov iv vv Q I ro ri rv ⟨a, us, n, j, rfl, rfl, hl, by rw [← Reps.length hr]; exact hj, k _ (Ext.updSt hD rs.mok) (rs.put ea hy ⟨_, upd_same, reps_set j (Reps.go g _ _ hr) (Rep.go g _ _ r3)⟩)⟩
        · cases e
      · cases e
    · rename_i kvs hy
      split at e
      · rename_i kp
        split at e
        · rename_i nk hk
          split at e
          · rename_i hz
            cases e
            obtain ⟨a, ea, rfl, xs, hd, hys, hsz, nd, rk⟩ := loc_at rs r1 hy (fun z => by cases z)
            obtain ⟨⟨ps, rfl⟩, e1, e2⟩ := dkey_of hk
            obtain ⟨ka, us, rfl, hT, hr⟩ := (show Rep X.prog X.w X.K m H (.tuple ps) i from r2)
            obtain rfl : iv = Value.ref ka := ri
            obtain rfl : ov = Value.ref a := ro
            have hm := dict_of I hd nd rk
            have hkey : (nestedKind X.prog X.w).is s.heap nk ka := ⟨nested_of I (.tuple ps) (.ref ka) _ nk e1 ⟨ka, us, rfl, hT, hr⟩ rfl, e2⟩
            have room : (nestedKind X.prog X.w).room X.A.in1 := by show X.A.units + 1 + 8 < cLine; omega
            have hlen : xs.l.length = kvs.length := by
              have : ∀ {kvs : List (PyData × PyData)} {xs : List (NestedKey × Addr × Value)}, RepK X.prog X.w X.K m H kvs xs → xs.length = kvs.length := by
                intro kvs
                induction kvs with
                | nil => intro xs h; cases h; rfl
                | cons kv kvs ih => obtain ⟨k, v⟩ := kv; rintro xs ⟨nk, ka, u, uv, r, rfl, _, _, _, _, _, h⟩; simpa using ih h
              exact this rk
            refine wpAny_setItem_heap (hsz := hsz) room hkey hm fun h' hm' hs => ?_
            obtain ⟨o', es, ep, g1, g2, g3, g4, g5, g6⟩ := hm'
            have hD := List.mem_of_getElem? ea
            have g : Go X.prog X.w X.K m H m (upd H a (DictO X.prog X.w a ⟨ep, storedH xs.l nk ka vv⟩)) := Go.updSt hD rs.mok
            have I' := I.write (x := a) (e := a) (o := DictO X.prog X.w a ⟨ep, storedH xs.l nk ka vv⟩) (t' := s.toks + (nestedKind X.prog X.w).draws nk) (h' := h') (by rw [hd]; exact True.intro) (.inl rfl) (fun b u hb q => (hs.2 b hb).trans q) ⟨_, g1⟩
              ⟨⟨o', es, g1, g2, g3, g4⟩, ⟨_, g1⟩, fun h1 h2 ⟨o', es, g1, g2, g3, g4⟩ st => ⟨o', es, st _ g1, g2, g3, g4⟩⟩
            refine ⟨_, I', k _ (Ext.updSt hD rs.mok) (rs.put ea hy ⟨_, upd_same, hys, ?_, g6, RepK.go g _ _ (dict_put e1 e2 ⟨ka, us, rfl, hT, hr⟩ rv r3 rk)⟩)⟩
            have hz := of_decide_eq_true hz
            rw [sizeLine_eq]
            unfold storedH
            split
            · rw [List.length_map]; omega
            · simp; omega
          · cases e
        · cases e
      · cases e
    · cases e
  · cases e
/-- o[i] = e -/
theorem s_sub {oe ie : Expr} {O Ix : DE} {p2 : Pos} (hu : X.A.units + 65 < cLine) (he : PEv X W a A) (ho : PEv X W oe O) (hi : PEv X W ie Ix) (hs : swapsWithSole [.Subscript oe ie p2] a pos.line X.env = pure false := by rfl) (hw : swappedStores [.Subscript oe ie p2] a X.env = pure none := by rfl)
    (h1 : (assignEach [.Subscript oe ie p2] X.env).map (·.2) = [assign (.Subscript oe ie p2) X.env] := by rfl)
    (hasg : ∀ v, assign (.Subscript oe ie p2) X.env v = (do
      let ov ← holding [v] (eval oe X.env)
      let iv ← holding [v, ov] (eval ie X.env)
      standAt p2
      holding [v, ov, iv] (setItem ov iv v)
      release [v, ov, iv] []) := by intro _; rfl) : PSv X W (.Assign [.Subscript oe ie p2] a pos) (dSub O Ix A) :=
  PS.imp (ps_asg he (pg_sub ho hi (set_all hu) hasg) hs hw h1) fun D σ H ⟨m, ρ, S, R, h⟩ => by
    have h1 := bindE_S (G := Gx.of X) R h
    refine ⟨m, ρ, S, R, ?_⟩
    revert h1
    cases A ρ S with
    | err c f S => exact fun z => z
    | bad => exact fun z => z
    | ok x S1 =>
      intro h1 m1 H1 u e s r
      obtain ⟨m2, S2, p, e2, s2, r2, h2⟩ := h1 m1 H1 u e s r
      have R2 := R.ext e2 s2
      have h3 := bindE_S (G := Gx.of X) R2 h2
      refine ⟨m2, ρ, S2, R2, ?_⟩
      revert h3
      cases O ρ S2 with
      | err c f S => exact fun z => z
      | bad => exact fun z => z
      | ok ov S3 =>
        intro h3 m3 H3 uo e3 s3 r3
        obtain ⟨m4, S4, po, e4, s4, r4, h4⟩ := h3 m3 H3 uo e3 s3 r3
        have R4 := R2.ext e4 s4
        have h5 := bindE_S (G := Gx.of X) R4 h4
        refine ⟨m4, ρ, S4, R4, ?_⟩
        revert h5
        cases Ix ρ S4 with
        | err c f S => exact fun z => z
        | bad => exact fun z => z
        | ok iv S5 =>
          intro h5 m5 H5 ui e5 s5 r5
          obtain ⟨m6, S6, pi, e6, s6, r6, h6⟩ := h5 m5 H5 ui e5 s5 r5
          have R6 := R4.ext e6 s6
          split at h6
          · rename_i S7 hf
            exact ⟨m6, S6, po, pi, p, S7, s6, RepV.ext r4 s4.mok e6, r6, RepV.ext (RepV.ext r2 s2.mok e4) s4.mok e6, hf, fun H' e7 s7 => h6 m6 H' σ e7 (R6.ext e7 s7)⟩
          · exact h6.elim
/-- raise X('..') -/
theorem s_raise {x mt : Str} {j : Nat} {p p2 p3 : Pos} {C : Addr} (hc : X.calm = true) (tk : L2N.Takes X W) (q : PySem.W.excIn X.K C [.type "ValueError", .type "Exception", .type "BaseException", .type "object"] "ValueError.__new__" = true) (gC : X.mg x = some (.ref C)) (kC : PySem.W.keepIn X.K (.ref C) = true)
    (r : Raises X (.ref C)) (hg : Gl X x := by rfl) (hdb : (x == ("__debug__" : Str)) = false := by decide) : PSv X W (.Raise (some (.Call (.Name x p) [.Constant (.str mt) j p2] [] p3)) none pos) (dRaise x) :=
  PS.imp (L2N.ps_raise hc tk (L2N.pmk_own PySem.F.excBase_ValueError q gC kC r hg hdb)) fun D σ H ⟨m, ρ, S, R, h⟩ => h m H σ _ _ (Ext.refl _ _) R ⟨C, gC, rfl, rfl⟩
end
end Mi
set_option maxHeartbeats 4000000
namespace Mi
open PySem PySem.Spec PyProof.Rows L2 HotX
section
variable {prog : Program} {w : World} {A : Around} {E : Value → Shared → Prop} {s : Shared}
/-- a list's iterator ends there -/
theorem list_endH {it l x1 : Addr} {i : Nat} {items : Array Value} {Q : Value → Shared → Prop} (hot : HotAt A x1 s.heap) (hi1 : it ≠ x1)
    (hit : s.heap.IsListIter it l i) (hl : s.heap.IsList l items) (hx : items[i]? = none)
    (hE : ∀ h' e, Heap.ExtBut it s.heap h' → (∃ o, h'.get? e = some o ∧ o.cls = .type "StopIteration") → E (.ref e) { s with heap := h' }) :
    wpAny (model prog w) A (Builtin.SmallTypes.nextOf (.ref it)) Q E s := by
  obtain ⟨o, ho, hc, hd⟩ := id hit
  obtain ⟨ol, hol, _, nl, hdl⟩ := hl
  obtain ⟨hh, o1, vs1, h1, d1, c1⟩ := hot
  unfold Builtin.SmallTypes.nextOf
  refine wpAny_bind (wpAny_callSpecial?_slot (name := Str.ofString "__next__") hit.typeIs slot_listiter_next
    (wpAny_call_entry slot_listiter_next hit.typeIs entry_listiter_next ?_ (args_listiter_next _)))
  show wpAny _ _ (field (.ref it) 0 >>= _) _ _ s
  refine wpAny_bind (wpAny_field ho hd (x := .ref l) rfl ?_)
  show wpAny _ _ (if (Value.ref l == Value.none) = true then _ else _) _ _ s
  rw [if_neg (show ¬ ((Value.ref l == Value.none) = true) from Bool.false_ne_true)]
  show wpAny _ _ (field (.ref it) 1 >>= _) _ _ s
  refine wpAny_bind (wpAny_field ho hd (x := .int i 0) rfl ?_)
  show wpAny _ _ (seqItems? (.ref l) >>= _) _ _ s
  refine wpAny_bind (wpAny_seqItems hol hdl ?_)
  simp only [Int.toNat_natCast, hx]
  refine wpAny_bind (wpAny_rule (wpAny_bind (wpAny_setField ho hd (by simp) ?_)))
  have h1' : (s.heap.update it (Obj.mapFields (·.setIfInBounds 0 Value.none))).get? x1 = some o1 := by rw [Heap.get?_update_other _ _ hi1]; exact h1
  show wpAny _ _ (newExc (.type "StopIteration") [] >>= _) _ _ _
  refine wpAny_bind ?_
  simp only [newExc, newTuple]
  refine wpAny_bind (wpAny_newObj_type ?_ (by size_fits))
  refine wpAny_bind (m := firstArgMember _ _) (wpAny_of_eq (a := Value.none) (by first | rfl | (simp only [firstArgMember]; rfl)) ?_)
  refine wpAny_newObj_type ?_ (by size_fits)
  refine raiseNew_hot ⟨hh, o1, vs1, Heap.get?_push_of_some _ (Heap.get?_push_of_some _ h1'), d1, c1⟩ (Nat.ne_of_lt (Heap.lt_size (Heap.get?_push_of_some _ h1'))) (Heap.get?_push_size _ rfl) rfl (by first | (simp; done) | (simp; omega) | (simp only [Array.size_append]; simp; omega)) ?_
  refine hE _ _ (fun b u nb e => ?_) ⟨_, Heap.get?_update_self _ (Heap.get?_push_size _ rfl) rfl, rfl⟩
  have e2 := Heap.get?_push_of_some { cls := .type "tuple", data := .seq #[] } (show (s.heap.update it (Obj.mapFields (·.setIfInBounds 0 Value.none))).get? b = some u by rw [Heap.get?_update_other _ _ (Ne.symm nb)]; exact e)
  rw [Heap.get?_update_other _ _ (Nat.ne_of_gt (Heap.lt_size e2))]
  exact Heap.get?_push_of_some _ e2
theorem zip_endH {x1 z TI TO i1 i2 l1 l2 : Addr} {k1 k2 : Nat} {xs ys : Array Value} {a b : Value} {Q : Fin → Shared → Prop} (hot : HotAt A x1 s.heap) (n1 : z ≠ x1) (n2 : i1 ≠ x1) (D : ZipApart z TI TO i1 i2 l1 l2)
    (hz : IsZip s.heap z TI TO .none) (hTI : IsPair s.heap TI (.ref i1) (.ref i2)) (h1 : s.heap.IsListIter i1 l1 k1) (hl1 : s.heap.IsList l1 xs) (hx : xs[k1]? = none)
    (hE : ∀ h' e, (∀ c o, c ≠ z → c ≠ TO → c ≠ i1 → c ≠ i2 → s.heap.get? c = some o → h'.get? c = some o) → (∃ o, h'.get? e = some o ∧ o.cls = .type "StopIteration") → E (.ref e) { s with heap := h' }) :
    wpAny (model prog w) A (Builtin.«zip.__next__» ⟨[.ref z], []⟩) Q E s := by
  obtain ⟨hh, o1, vs1, g1, d1, c1⟩ := hot
  show wpAny _ _ (field (.ref z) 2 >>= _) _ _ _
  refine wpAny_bind (wpAny_field hz rfl (x := .bool false) rfl ?_)
  show wpAny _ _ (field (.ref z) 3 >>= _) _ _ _
  refine wpAny_bind (wpAny_field hz rfl (x := .ref TI) rfl ?_)
  refine wpAny_bind (wpAny_seqItems hTI rfl ?_)
  show wpAny _ _ (Builtin.SmallTypes.ownedTupleIsFree (.ref z) >>= _) _ _ _
  refine wpAny_bind ?_
  unfold Builtin.SmallTypes.ownedTupleIsFree
  refine wpAny_bind (wpAny_field hz rfl (x := .none) rfl (wpAny_pure ?_))
  simp only [if_true]
  refine wpAny_bind (wpAny_rule ?_)
  refine wpAny_bind (wpAny_field hz rfl (x := .ref TO) rfl ?_)
  refine wpAny_bind (wpAny_setField_rec hz (by simp) fun h₁ hz₁ hs₁ => ?_)
  replace hz₁ : IsZip h₁ z TI TO .ellipsis := hz₁
  refine wpAny_bind ?_
  simp only [List.zipIdx_cons, List.zipIdx_nil, List.forIn_cons, List.forIn_nil]
  refine wpAny_bind (wpAny_bind (wpAny_onRaise ?_))
  show wpAny _ _ (Builtin.SmallTypes.nextOf (.ref i1) >>= _) _ _ _
  have g1' : h₁.get? x1 = some o1 := hs₁.extBut _ _ n1.symm g1
  refine wpAny_bind (list_endH (x1 := x1) ⟨hh, o1, vs1, g1', d1, c1⟩ n2 (h1.extBut hs₁.extBut D.i1z) (hl1.extBut hs₁.extBut D.l1z) hx fun h₂ e hs₂ he => ?_)
  obtain ⟨oe, hoe, hce⟩ := he
  have hz₂ : IsZip h₂ z TI TO .ellipsis := hs₂ _ _ D.i1z.symm hz₁
  have hez : e ≠ z := fun x => by subst x; rw [hz₂] at hoe; cases hoe; simp at hce
  exact wpAny_setField_rec hz₂ (by simp) fun h₃ _ hs₃ => hE h₃ e (fun c o c1 _ c3 _ x => hs₃.extBut _ _ c1 (hs₂ _ _ c3 (hs₁.extBut _ _ c1 x))) ⟨oe, hs₃.extBut _ _ hez hoe, hce⟩
theorem pyNext_zip_endH {x1 z TI TO i1 i2 l1 l2 : Addr} {k1 k2 : Nat} {xs ys : Array Value} {Q : Option Value → Shared → Prop} (hot : HotAt A x1 s.heap) (n1 : z ≠ x1) (n2 : i1 ≠ x1) (D : ZipApart z TI TO i1 i2 l1 l2)
    (hz : IsZip s.heap z TI TO .none) (hTI : IsPair s.heap TI (.ref i1) (.ref i2)) (h1 : s.heap.IsListIter i1 l1 k1) (hl1 : s.heap.IsList l1 xs) (hx : xs[k1]? = none)
    (hQ : ∀ h', (∀ c o, c ≠ z → c ≠ TO → c ≠ i1 → c ≠ i2 → s.heap.get? c = some o → h'.get? c = some o) → Q none { s with heap := h' }) : wpAny (model prog w) A (pyNext (.ref z)) Q E s := by
  have hT : s.TypeIs (.ref z) "zip" := ⟨_, hz, rfl⟩
  unfold pyNext
  refine wpAny_bind (wpAny_attempt (wpAny_callSpecial?_slot (name := Str.ofString "__next__") hT F.slot_zip_next
    (wpAny_call_entry F.slot_zip_next hT F.entry_zip_next (zip_endH (l2 := l2) (a := .none) (b := .none) (k2 := k2) (ys := ys) hot n1 n2 D hz hTI h1 hl1 hx fun h' e hk he => ?_) (F.args_zip_next_1 _))))
  obtain ⟨o, ho, hc⟩ := he
  refine wpAny_bind (wpAny_isInstance (T := "StopIteration") (b := true) ⟨o, ho, hc⟩ isSubtype_stop ?_)
  exact wpAny_pure (hQ _ hk)
end
end Mi
set_option maxHeartbeats 4000000
namespace Mi
open PySem PySem.Spec PyProof.Rows L2 HotX L2H
theorem turn_zipH {P : Program} {w : World} {K : PySem.W.Frag} {elts : List Expr} {kk : Nat} {tpos : Pos} {a b z TI TO i1 i2 : Addr} (D : ZipApart z TI TO i1 i2 a b) :
    TurnH P w K (.Tuple elts kk tpos) { go := (Itz K a b).go, yld := (Itz K a b).yld, stop := fun i H => ∃ xs, SqL K H a xs ∧ xs.length ≤ i } [z, TI, TO, i1, i2] z (fun i h => IsZip h z TI TO .none ∧ IsPair h TI (.ref i1) (.ref i2) ∧ (∃ x y, IsPair h TO x y) ∧ h.IsListIter i1 a i ∧ h.IsListIter i2 b i) where
  mem := by simp
  obj := (turn_zip (P := P) (w := w) (K := K) (elts := elts) (kk := kk) (tpos := tpos) D).obj
  keep := (turn_zip (P := P) (w := w) (K := K) (elts := elts) (kk := kk) (tpos := tpos) D).keep
  item := by
    intro X hP hw hK hc i pins s σ H E I hf st hg
    subst hP hw hK
    obtain ⟨hz, hTI, ⟨x0, y0, hTO⟩, h1, h2⟩ := st
    obtain ⟨xs, ys, x, y, hqx, hqy, hx, hy⟩ := hg
    obtain ⟨its, rv, p, _⟩ := I.list hqx
    obtain ⟨its2, rv2, p2, _⟩ := I.list hqy
    obtain ⟨u, hu, ru⟩ := rv.get hx
    obtain ⟨u2, hu2, ru2⟩ := rv2.get hy
    have hzl : z < s.heap.objs.size := Heap.lt_size hz
    have five : ∀ {φ : Addr → Prop}, φ z → φ TI → φ TO → φ i1 → φ i2 → ∀ c ∈ [z, TI, TO, i1, i2], φ c := fun a b c d e x hx => by
      simp only [List.mem_cons, List.not_mem_nil, or_false] at hx
      rcases hx with q | q | q | q | q <;> (rw [q]; assumption)
    refine wpAny_pyNext_zip_item D hz hTI hTO h1 h2 p.isList p2.isList (x := u) (y := u2) (by simpa using hu) (by simpa using hu2) fun h' z' TO' h1' h2' hT hsz hk => ?_
    refine ⟨_, rfl, wpAny_letOwnedTupleGo_zip (s := { s with heap := h' }) z' fun h'' z'' sb => ?_⟩
    have hT2 : h''.get? s.heap.objs.size = some { cls := .type "tuple", data := .seq #[u, u2] } := (sb.2 _ (Nat.ne_of_gt hzl)).trans hT
    have I1 : Inv X pins σ (upd H s.heap.objs.size (.tup [x, y])) { s with heap := h'' } :=
      I.turnedNew (t' := s.toks) (ch := [z, TI, TO, i1, i2]) (fun c o hb q => (sb.2 c (fun q' => hb (by simp [q']))).trans (hk c o (fun q' => hb (by simp [q'])) (fun q' => hb (by simp [q'])) (fun q' => hb (by simp [q'])) (fun q' => hb (by simp [q'])) q)) hf (Nat.le_refl _)
        ⟨by show 2 ≤ sizeLine; decide, [u, u2], .cons ru (.cons ru2 .nil), ⟨_, hT2, rfl, _, rfl⟩⟩
    refine ⟨.ref s.heap.objs.size, _, I1, rfl, ⟨_, x, y, rfl, I.hok.fresh (Nat.le_refl _), rfl, fun l hl => by rw [I.list_inj hl hqx]; exact hx, fun l hl => by rw [I.list_inj hl hqy]; exact hy⟩,
      ⟨z'', (sb.2 _ D.TIz).trans (hk _ _ D.TIz D.TITO D.TIi1 D.TIi2 hTI), ⟨u, u2, (sb.2 _ D.TOz).trans TO'⟩, h1'.at fun o q => (sb.2 _ D.i1z).trans q, h2'.at fun o q => (sb.2 _ D.i2z).trans q⟩, fun c hcm => ?_⟩
    have hlt : c < s.heap.objs.size := five (φ := fun c => c < s.heap.objs.size) hzl (Heap.lt_size hTI) (Heap.lt_size hTO) (let ⟨_, e1, _⟩ := h1; Heap.lt_size e1) (let ⟨_, e2, _⟩ := h2; Heap.lt_size e2) c hcm
    rw [upd_ne (Nat.ne_of_lt hlt)]
    exact (hf c hcm).1
  done := by
    intro X hP hw hK hc i pins s σ H E I hf st hg
    subst hP hw hK
    obtain ⟨hz, hTI, ⟨x0, y0, hTO⟩, h1, h2⟩ := st
    obtain ⟨xs, hqx, hend⟩ := hg
    obtain ⟨its, rv, p, _⟩ := I.list hqx
    have l1 := rv.length
    obtain ⟨p1, hot1, hp1⟩ := hc
    have hot : HotAt X.A p1.1 s.heap := by
      obtain ⟨hh, v1, e1, c1⟩ := hot1
      exact ⟨hh, p1.2, v1, (I.pin p1 (List.mem_append_left _ hp1)).1, e1, c1⟩
    have ne : ∀ c ∈ [z, TI, TO, i1, i2], c ≠ p1.1 := fun c hc q => (hf c hc).2.2.2.2.2 p1 (List.mem_append_left _ hp1) q.symm
    exact pyNext_zip_endH (k2 := i) (ys := #[]) hot (ne z (by simp)) (ne i1 (by simp)) D hz hTI h1 p.isList (by simp; omega) fun h' hk => ⟨rfl, I.turnedL (t' := s.toks) (ch := [z, TI, TO, i1, i2]) (fun c o hb q =>
      hk c o (fun q' => hb (by simp [q'])) (fun q' => hb (by simp [q'])) (fun q' => hb (by simp [q'])) (fun q' => hb (by simp [q'])) q) hf⟩
  self := fun A i s Q E st h => wpAny_pyIter_zip st.1 h
def ItzH (K : PySem.W.Frag) (a b : Addr) : It := { go := (Itz K a b).go, yld := (Itz K a b).yld, stop := fun i H => ∃ xs, SqL K H a xs ∧ xs.length ≤ i }
def iZipH (K : PySem.W.Frag) (ta : TA) : TI := fun σ H R => ta σ H fun vs H1 => ∃ a b xs ys, vs = [.ref a, .ref b] ∧ SqL K H1 a xs ∧ SqL K H1 b ys ∧ R (ItzH K a b) H1
theorem pi_zipH {X : Cx} {e e2 : Expr} {ta : TA} {p pos tpos : Pos} {elts : List Expr} {kk : Nat} (hg : Gl X "zip") (hm : X.mg "zip" = none) (ha : PA X [e, e2] ta)
    (hs : starEach [e, e2] X.env = (false, eval e X.env) :: starEach [e2] X.env := by rfl) (hpl : (backTo pos (starEach [e2] X.env)).any (·.1) = false := by rfl) :
    PIH X (.Tuple elts kk tpos) (.Call (.Name "zip" p) [e, e2] [] pos) (iZipH X.K ta) := by
  refine ⟨fun pins s σ H R I h => ?_⟩
  refine Call_ (ld_blt I hg hm PyProof.Rows.boot_zip (PyProof.Rows.callWith_type1 (thn (ha.run pos pins s σ H _ I h) fun us s1 ⟨vs, H1, I1, r1, q1⟩ => ?_) hs hpl))
  obtain ⟨a, b, xs, ys, ex, hqx, hqy, q⟩ := q1
  subst ex
  obtain ⟨its, rv, p1, _⟩ := I1.list hqx
  obtain ⟨its2, rv2, p2, _⟩ := I1.list hqy
  cases r1 with
  | cons r rr =>
    cases rr with
    | cons r' rr =>
      cases rr
      cases r
      cases r'
      refine call_zip_2 p1.isList p2.isList fun h' hz hTI hTO h1 h2 hsz hk => wpAny_pyIter_zip hz ?_
      refine ⟨s1.heap.objs.size + 4, [s1.heap.objs.size + 4, s1.heap.objs.size + 2, s1.heap.objs.size + 3, s1.heap.objs.size, s1.heap.objs.size + 1], _, _, H1, rfl, I1.kept (t' := s1.toks) hk, turn_zipH (PySem.W.ktu_apart s1.heap.objs.size a b p1.lt p2.lt), ⟨hz, hTI, ⟨_, _, hTO⟩, h1, h2⟩, fun c hcm => ?_, q⟩
      have hle : s1.heap.objs.size ≤ c := by
        have e' : c = s1.heap.objs.size + 4 ∨ c = s1.heap.objs.size + 2 ∨ c = s1.heap.objs.size + 3 ∨ c = s1.heap.objs.size ∨ c = s1.heap.objs.size + 1 := by simpa using hcm
        rcases e' with z | z | z | z | z
        · rw [z]; exact Nat.le_add_right _ _
        · rw [z]; exact Nat.le_add_right _ _
        · rw [z]; exact Nat.le_add_right _ _
        · rw [z]; exact Nat.le_refl _
        · rw [z]; exact Nat.le_add_right _ _
      exact I1.fpOk hle (I1.hok.fresh hle)
section
variable {X : Cx} {pins : List (Addr × Obj)} {σ : L2.St} {H : Hp} {s : Shared}
/-- the block's context, what is pinned kept -/
abbrev blkH (X : Cx) (s : Shared) (H : Hp) (scope : Scope) (cenv : Env) (fp : List Addr) : Cx := { X.blk s H scope cenv fp with pn := X.pn }
theorem inv_blkH {scope : Scope} {cenv : Env} {fp : List Addr} {s' : Shared} {σ' : L2.St} (I0 : Inv X pins σ H s) (I : Inv (X.blk s H scope cenv fp) [] σ' H s') (k : ∀ b o, s.heap.get? b = some o → s'.heap.get? b = some o) (hl : cenv.locals = s.heap.objs.size) : Inv (blkH X s H scope cenv fp) [] σ' H s' := by
  have ok := I.ok
  refine ⟨⟨ok.mod, ok.kind, ok.glob, ok.blt, ok.above, ok.inj, ok.has, ok.cab, ok.hd, ok.frames, ok.stk, ok.exf, ok.bs, ok.bsz, ok.noex, ok.exfs, ok.funs, ok.frf⟩, I.os, I.bare, I.base, I.loc, I.cell, I.free, I.freeC, fun p hp => ?_, I.hok, I.len⟩
  have hp : p ∈ X.pn := by rw [List.append_nil] at hp; exact hp
  obtain ⟨p1, p2, p3, p4, p5⟩ := I0.pin p (List.mem_append_left _ hp)
  exact ⟨k _ _ p1, p2, fun z => by have z' : p.1 = cenv.locals := z; rw [hl] at z'; exact absurd (Heap.lt_size p1) (by rw [z']; exact Nat.lt_irrefl _), fun z => (List.mem_cons.mp (I0.stkSub p.1 z)).elim p3 p4, p5⟩
/-- a comprehension's block as pe_lc has it, the exception's object pinned -/
theorem pe_lcH {elt tg iter : Expr} {ifs : List Expr} {scope : Scope} {own : List (Str × Nat)} {pos : Pos} {wi : TI} {g : TG} {tt : TT} {te : TE} (hc : HotC X) (hN : X.N.Nodup) (hi : PIH X tg iter wi) (ok : BlkOk X.N X.env.scope scope own)
    (hg : ∀ (s : Shared) (H : Hp) (C : Addr) (cl : List (Str × Addr)) (fp : List Addr), PG (blkH X s H scope (compEnvC scope cl C X.env) fp) tg g) (ht : ∀ (s : Shared) (H : Hp) (C : Addr) (cl : List (Str × Addr)) (fp : List Addr), PTs (blkH X s H scope (compEnvC scope cl C X.env) fp) ifs tt)
    (he : ∀ (s : Shared) (H : Hp) (C : Addr) (cl : List (Str × Addr)) (fp : List Addr), PE (blkH X s H scope (compEnvC scope cl C X.env) fp) elt te) (hs : ∀ x, foldedSetIterable iter X.env x = pure x := by intro _; rfl) :
    PE X (.ListComp elt [⟨tg, iter, ifs, 0⟩] scope pos) (tLc wi g tt te (own.map (·.2))) := by
  refine ⟨fun pins s σ H Q I h => ?_⟩
  rw [eval_ListComp]
  have hfree : ∀ y ∈ scope.names, y.2 = .free → ∃ c, X.env.cells.lookup y.1 = some c := fun y hy e => (ok.free y hy e).elim (fun k => I.ok.has _ (.inl k)) fun k => I.ok.has _ (.inr k)
  refine wpAny_comprehension_free (use := none) rfl hs (closure_ok hfree) ok.kind (fun y hy e => by rw [ok.uniq y hy, e])
    (thn (hi.run pins s σ H _ I h) fun xv s1 hx => thn hx fun itv s2 h2 => ?_)
  obtain ⟨it, fp, tn, J, H2, rfl, I2, T, st2, f2, q⟩ := h2
  refine wpAny_newObj_type (newEnv_comp ?_) (by show 0 ≤ sizeLine; decide)
  generalize hD : s2.heap.objs.size = D
  have hDn : H2 D = none := I2.hok.fresh (Nat.le_of_eq hD)
  obtain ⟨W, ⟨m0, w0⟩, turn⟩ := q D hDn
  generalize hs3 : ({ s2 with heap := s2.heap.push { cls := .type "list", data := .seq ([] : List Value).toArray } } : Shared) = s3
  have h3 : s3.heap = s2.heap.push { cls := .type "list", data := .seq ([] : List Value).toArray } := by rw [← hs3]
  have I3 : Inv X pins σ (upd H2 D (.lst [])) s3 := by
    rw [← hs3]
    refine I2.laid (t' := s2.toks) (fun b o e => Heap.get?_push_of_some _ e) (Nat.le_of_eq hD) ⟨Nat.zero_le _, [], 0, .nil, ?_⟩
    rw [← hD]
    exact Heap.get?_push_size _ rfl
  have f3 : ∀ b ∈ fp, FpOk X pins (upd H2 D (.lst [])) b ∧ b < s3.heap.objs.size := fun b hb => by
    obtain ⟨o, e, _⟩ := T.obj _ _ st2 b hb
    have hlt := Heap.lt_size e
    refine ⟨⟨?_, (f2 b hb).2⟩, by rw [h3, Heap.size_push]; exact Nat.lt_succ_of_lt hlt⟩
    rw [upd_ne (by rw [← hD]; exact Nat.ne_of_lt hlt)]
    exact (f2 b hb).1
  have st3 : tn 0 s3.heap := T.keep _ _ _ st2 fun b _ o e => by rw [h3]; exact Heap.get?_push_of_some _ e
  have I4' := block_start I3 ok hN f3
  generalize hcl : cellsFrom (s3.heap.objs.size + 1) scope.names (cloFrom X.env.cells scope.names []) = cl at I4'
  have kp : ∀ b o, s3.heap.get? b = some o → (pushCells (s3.heap.push { cls := .type "dict", data := .dict #[] }) scope.names).get? b = some o := fun b o e => pushCells_keeps _ _ _ _ (Heap.get?_push_of_some _ e)
  have I4 := inv_blkH I3 I4' kp rfl
  have pg := hg s3 (upd H2 D (.lst [])) s3.heap.objs.size cl fp
  have pt := ht s3 (upd H2 D (.lst [])) s3.heap.objs.size cl fp
  have pe := he s3 (upd H2 D (.lst [])) s3.heap.objs.size cl fp
  have hcB : ∀ ce, HotC (blkH X s3 (upd H2 D (.lst [])) scope ce fp) := fun _ => hc
  have nfp : ∀ b ∈ fp, (upd H2 D (.lst [])) b = none := fun b hb => (f3 b hb).1.1
  show codeAny _ _ (.compStart (.ListComp elt [⟨tg, iter, ifs, 0⟩] scope pos) 0 (.ref it) (.ref D) (compEnvC scope cl s3.heap.objs.size X.env)) (compPost (model X.prog X.w) X.A X.xe none (EP X pins σ Q) (.ref D) s3.heap.objs.size) { s3 with heap := pushCells (s3.heap.push { cls := .type "dict", data := .dict #[] }) scope.names }
  generalize hce : compEnvC scope cl s3.heap.objs.size X.env = ce at I4 pg pt pe hcB ⊢
  have cL : ce.locals = s3.heap.objs.size := by subst hce; rfl
  generalize hH3 : upd H2 D (.lst []) = H3 at I3 I4 pg pt pe w0 nfp f3 hcB
  generalize hs4 : ({ s3 with heap := pushCells (s3.heap.push { cls := .type "dict", data := .dict #[] }) scope.names } : Shared) = s4 at I4 ⊢
  have st4 : tn 0 s4.heap := T.keep _ _ _ st3 fun b _ o e => by rw [← hs4]; exact kp b o e
  have stat : ∀ {σ' : L2.St} {H' : Hp} {s' : Shared}, Inv (blkH X s3 H3 scope ce fp) [] σ' H' s' → (∀ b ∈ fp, H' b = none) → ∀ b ∈ fp, FpOk (blkH X s3 H3 scope ce fp) [] H' b := fun {σ' H' s'} I' hn b hb =>
    ⟨hn b hb, (I'.ok.exf b hb).1, I'.ok.exfs b hb, .inl hb, fun x c e => (I'.ok.exf b hb).2 x c e, fun p hp => (f3 b hb).1.2.2.2.2.2 p (List.mem_append_left _ (by rw [List.append_nil] at hp; exact hp))⟩
  have loop : codeAny (model X.prog X.w) X.A (.compLoop (.ListComp elt [⟨tg, iter, ifs, 0⟩] scope pos) 0 (.ref it) (.ref D) ce) (compPost (model X.prog X.w) X.A X.xe none (EP X pins σ Q) (.ref D) s3.heap.objs.size) s4 := by
    refine compLoop_any (fun n s' => ∃ i H', Inv (blkH X s3 H3 scope ce fp) [] (wipe σ (own.map (·.2))) H' s' ∧ tn i s'.heap ∧ (∀ b ∈ fp, H' b = none) ∧ W i n H') ?_ m0 ⟨0, H3, I4, st4, nfp, w0⟩
    rintro n s5 ⟨i, H5, I5, st5, n5, w5⟩
    rcases turn i n H5 w5 with ⟨stop, qq⟩ | ⟨go, Nx, hNx, step⟩
    · have td := T.done (blkH X s3 H3 scope ce fp) rfl rfl rfl (hcB ce) i [] s5 _ H5 (fun _ _ => False) I5 (stat I5 n5) st5 stop
      refine thnF td fun r s6 ⟨hr, I6⟩ => ?_
      subst hr
      have I7 : Inv X pins σ H5 s6 := I3.call' (ch := fp) I6.os I6.base I6.hok I6.bare fun b hb => ⟨(f3 b hb).1.2.2.2.1, (f3 b hb).1.2.1, (f3 b hb).1.2.2.2.2.1, (f3 b hb).1.2.2.2.2.2⟩
      have nC : H5 s3.heap.objs.size = none := by
        have z : H5 ce.locals = none := I6.free
        rw [cL] at z
        exact z
      obtain ⟨m, hn, _⟩ := I6.loc
      have hn : s6.heap.Ns ce.locals m := hn
      rw [cL] at hn
      obtain ⟨f0, f1, f2, f3', f4, f5⟩ := I3.fpOk (Nat.le_refl _) nC
      exact ⟨m, hn, fun h'' sb => ⟨.ref D, H5, I7.turned (t' := s6.toks) (fun b o hb e => (sb.2 b hb).trans e) f0 f1 f3' f4 f5, rfl, qq⟩⟩
    · have ti := T.item (blkH X s3 H3 scope ce fp) rfl rfl rfl (hcB ce) i [] s5 _ H5 (fun _ _ => False) I5 (stat I5 n5) st5 go
      refine thnF ti fun r s6 ⟨u, hr, h6⟩ => ?_
      subst hr
      refine thnF h6 fun _ s7 ⟨x, H7, I7, r7, y7, st7, n7⟩ => ?_
      have I7' := I7.pinned (stat I7 n7) (T.obj _ _ st7)
      refine thnF (pg.run _ s7 _ H7 x u _ I7' r7 (step x H7 y7)) fun _ s8 ⟨σ8, H8, I8, hw8, q8⟩ => ?_
      refine thnF (pt.run _ s8 σ8 H8 _ I8 q8) fun b s9 ⟨H9, I9, q9⟩ => ?_
      have fin : ∀ {s' : Shared} {H' : Hp}, Inv (blkH X s3 H3 scope ce fp) ([] ++ pinsAt fp s7.heap) σ8 H' s' → Nx H' → ∃ m, m < n ∧ ∃ i H', Inv (blkH X s3 H3 scope ce fp) [] (wipe σ (own.map (·.2))) H' s' ∧ tn i s'.heap ∧ (∀ b ∈ fp, H' b = none) ∧ W i m H' := fun {s' H'} I' nx => by
        obtain ⟨m', hm, w'⟩ := hNx H' nx
        have pin' : ∀ b ∈ fp, ∀ o, s7.heap.get? b = some o → s'.heap.get? b = some o ∧ H' b = none := fun b hb o e =>
          let z := I'.pin (b, o) (List.mem_append_right _ (List.mem_append_right _ (mem_pinsAt hb e)))
          ⟨z.1, z.2.1⟩
        have hl : (wipe σ (own.map (·.2))).length = σ8.length := by rw [← hw8, wipe_length]
        refine ⟨m', hm, i + 1, H', (I'.unpinned (pins := [])).weak hl (fun j v e => ?_), T.keep _ _ _ st7 fun b hb o e => (pin' b hb o e).1, fun b hb => ?_, w'⟩
        · rw [← hw8] at e
          exact (wipe_some e).1
        · obtain ⟨o, e, _⟩ := T.obj _ _ st7 b hb
          exact (pin' b hb o e).2
      cases b with
      | false =>
        simp only [Bool.false_eq_true, if_false] at q9 ⊢
        exact fin I9 q9
      | true =>
        simp only [if_true] at q9 ⊢
        refine thnF (pe.run _ s9 σ8 H9 _ I9 q9) fun z s10 ⟨yv, H10, I10, r10, acc, hD10, hz10, nx⟩ => ?_
        exact app_ok (X := blkH X s3 H3 scope ce fp) I10 hD10 hz10 r10 fun s11 I11 => fin I11 nx
  exact codeAny_compStart_list loop (T.self X.A 0 _ _ _ st4 loop)
end
end Mi
set_option maxHeartbeats 4000000
namespace Mi
open PySem PySem.Spec PyProof.Rows L2 HotX L2H
section
variable {prog : Program} {w : World} {A : Around} {E : Value → Shared → Prop} {s : Shared}
theorem next_tuple_endH {it t x1 : Addr} {i : Nat} {items : Array Value} {Q : Option Value → Shared → Prop} (hot : HotAt A x1 s.heap) (hi1 : it ≠ x1)
    (hit : IsTupIter s.heap it t i) (ht : IsTup s.heap t items) (hx : items[i]? = none)
    (hQ : ∀ h', Heap.ExtBut it s.heap h' → Q none { s with heap := h' }) : wpAny (model prog w) A (pyNext (.ref it)) Q E s := by
  obtain ⟨o, ho, hc, hd⟩ := id hit
  obtain ⟨ol, hol, _, nl, hdl⟩ := ht
  obtain ⟨hh, o1, vs1, h1, d1, c1⟩ := hot
  unfold pyNext
  refine wpAny_bind (wpAny_attempt (wpAny_callSpecial?_slot (name := Str.ofString "__next__") hit.typeIs slot_tupleiter_next
    (wpAny_call_entry slot_tupleiter_next hit.typeIs entry_tupleiter_next ?_ (args_tupleiter_next _))))
  show wpAny _ _ (field (.ref it) 0 >>= _) _ _ s
  refine wpAny_bind (wpAny_field ho hd (x := .ref t) rfl ?_)
  show wpAny _ _ (if (Value.ref t == Value.none) = true then _ else _) _ _ s
  rw [if_neg (show ¬ ((Value.ref t == Value.none) = true) from Bool.false_ne_true)]
  show wpAny _ _ (field (.ref it) 1 >>= _) _ _ s
  refine wpAny_bind (wpAny_field ho hd (x := .int i 0) rfl ?_)
  show wpAny _ _ (seqItems? (.ref t) >>= _) _ _ s
  refine wpAny_bind (wpAny_seqItems hol hdl ?_)
  simp only [Int.toNat_natCast, hx]
  refine wpAny_bind (wpAny_rule (wpAny_bind (wpAny_setField ho hd (by simp) ?_)))
  have h1' : (s.heap.update it (Obj.mapFields (·.setIfInBounds 0 Value.none))).get? x1 = some o1 := by rw [Heap.get?_update_other _ _ hi1]; exact h1
  show wpAny _ _ (newExc (.type "StopIteration") [] >>= _) _ _ _
  refine wpAny_bind ?_
  simp only [newExc, newTuple]
  refine wpAny_bind (wpAny_newObj_type ?_ (by size_fits))
  refine wpAny_bind (m := firstArgMember _ _) (wpAny_of_eq (a := Value.none) (by first | rfl | (simp only [firstArgMember]; rfl)) ?_)
  refine wpAny_newObj_type ?_ (by size_fits)
  refine raiseNew_hot ⟨hh, o1, vs1, Heap.get?_push_of_some _ (Heap.get?_push_of_some _ h1'), d1, c1⟩ (Nat.ne_of_lt (Heap.lt_size (Heap.get?_push_of_some _ h1'))) (Heap.get?_push_size _ rfl) rfl (by first | (simp; done) | (simp; omega) | (simp only [Array.size_append]; simp; omega)) ?_
  refine wpAny_bind (wpAny_isInstance (T := "StopIteration") (b := true) ⟨_, Heap.get?_update_self _ (Heap.get?_push_size _ rfl) rfl, rfl⟩ isSubtype_stop ?_)
  refine wpAny_pure (hQ _ fun b u nb e => ?_)
  have e2 := Heap.get?_push_of_some { cls := .type "tuple", data := .seq #[] } (show (s.heap.update it (Obj.mapFields (·.setIfInBounds 0 Value.none))).get? b = some u by rw [Heap.get?_update_other _ _ (Ne.symm nb)]; exact e)
  rw [Heap.get?_update_other _ _ (Nat.ne_of_gt (Heap.lt_size e2))]
  exact Heap.get?_push_of_some _ e2
theorem assign_tupleH {env : Env} {elts : List Expr} {k : Nat} {pos : Pos} {t x1 : Addr} {items : Array Value} {Q : Unit → Shared → Prop} (hot : HotAt A x1 s.heap) (ht : IsTup s.heap t items)
    (hn : (assignEach elts env).length = items.size) (hstar : (assignEach elts env).findIdx? (·.1) = none)
    (h : ∀ h', Heap.ExtBut s.heap.objs.size s.heap h' → wpAny (model prog w) A (assignInOrder ((assignEach elts env).map (·.2)) items.toList) Q E { s with heap := h' }) :
    wpAny (model prog w) A (assign (.Tuple elts k pos) env (.ref t)) Q E s := by
  rw [assign_Tuple]
  refine wpAny_bind (wpAny_standAt ?_)
  have hlt : t ≠ s.heap.objs.size := by obtain ⟨o, ho, _⟩ := ht; exact Nat.ne_of_lt (Heap.lt_size ho)
  obtain ⟨hh, o1, vs1, h1, d1, c1⟩ := hot
  have hx1 : x1 ≠ s.heap.objs.size := Nat.ne_of_lt (Heap.lt_size h1)
  unfold unpack
  rw [hn, hstar]
  refine wpAny_bind (wpAny_holding ?_)
  unfold unpackItems
  refine wpAny_bind ?_
  unfold notIterableAtAll
  refine wpAny_bind (wpAny_specialOf ht.typeIs slot_tuple_iter.lookup ?_)
  refine wpAny_pure ?_
  simp only [Bool.false_eq_true, if_false]
  refine wpAny_bind (wpAny_holding (iter_tuple ht ?_))
  refine wpAny_bind (wpAny_holding (draw_tuple hlt items.size 0 _ _ ⟨_, Heap.get?_push_size _ rfl, rfl, rfl⟩ (ht.push _) (by omega) fun h₁ hit₁ hs₁ => ?_))
  have hall : List.take items.size (List.drop 0 items.toList) = items.toList := by
    rw [List.drop_zero]; exact List.take_of_length_le (by simp)
  rw [hall]
  rw [if_neg (by simp)]
  have ht₁ : IsTup h₁ t items := (ht.push _).extBut hs₁.extBut hlt
  refine wpAny_bind (wpAny_holding (next_tuple_endH (x1 := x1) ⟨hh, o1, vs1, hs₁.extBut _ _ hx1 (Heap.get?_push_of_some _ h1), d1, c1⟩ hx1.symm hit₁ ht₁ (by simp) fun h₂ he₂ => ?_))
  simp only [Option.isSome_none, Bool.false_eq_true, if_false]
  exact wpAny_pure (h h₂ fun b o hb e => he₂ b o hb (hs₁.extBut b o hb (Heap.get?_push_of_some _ e)))
end
theorem hot_at2 {X : Cx} {pins : List (Addr × Obj)} {σ : L2.St} {H : Hp} {s : Shared} (c : HotC X) (I : Inv X pins σ H s) : ∃ x1, HotAt X.A x1 s.heap := by
  obtain ⟨p, ⟨hh, v1, e1, c1⟩, hp⟩ := c
  exact ⟨p.1, hh, p.2, v1, (I.pin p (List.mem_append_left _ hp)).1, e1, c1⟩
theorem pg_tupH {X : Cx} {pos : Pos} {es : List Expr} {k : Nat} {t : TGs} {n : Nat} (hc : HotC X) (h : PGs X es t)
    (hn : (assignEach es X.env).length = n := by rfl) (hst : (assignEach es X.env).findIdx? (·.1) = none := by rfl) : PG X (.Tuple es k pos) (gTup X.K n t) := by
  refine ⟨fun pins s σ H v u Q I r hw => ?_⟩
  obtain ⟨a, xs, e1, hq, hl, hw⟩ := hw
  subst e1
  cases r
  obtain ⟨its, rv, ht, hz⟩ := I.tuple hq
  obtain ⟨x1, hot⟩ := hot_at2 hc I
  refine assign_tupleH hot ht (by simp [hn, ← hl, rv.length]) hst fun h' hx => ?_
  have I1 : Inv X pins σ H { s with heap := h' } := I.kept (t' := s.toks) fun b o e => hx b o (Nat.ne_of_lt (Heap.lt_size e)) e
  exact h.run pins _ σ H xs _ Q I1 (by simpa using rv) hw
/-- what an own exception class must say, so that isinstance asks its instances rightly -/
structure ExcD (K : PySem.W.Frag) (D : Addr) : Prop where
  hcl : (PySem.W.clsIn K D).isSome = true
  hg : PySem.W.findIn K (.ref D) "__getattribute__" = some (some (.builtin "BaseException.__getattribute__"))
  hk : PySem.W.findIn K (.ref D) "__getattr__" = some none
  hs : PySem.W.subIn K (.ref D) (.type "BaseException") = some true
  ha : PySem.W.findIn K (.ref D) "__class__" = some (some (.builtin "object.__class__"))
  hn : PySem.W.specialIn K (.builtin "object.__class__") "__get__" = some (some (.builtin "getset_descriptor.__get__"))
  ht : PySem.W.takesIn K (.builtin "object.__class__") = some true
  hm : PySem.W.mroIn K D (.type "object") = some true
/-- the exception's own dict, where it has one -/
def DOk (d : Option Addr) (H : Hp) : Prop := d = none ∨ ∃ dx fs, d = some dx ∧ H dx = some (.xd fs)
/-- the exception that is handled is pinned: of the class D -/
structure ExAt (X : Cx) (a D : Addr) (d : Option Addr) (oe : Obj) : Prop where
  pin : (a, oe) ∈ X.pn
  zn : L2N.Zn (.ref D) d oe
  fld : ∃ vs, oe.data = .fields vs
  hnd : X.A.handled = some (.ref a)
theorem ExAt.hot {X : Cx} {a D : Addr} {d : Option Addr} {oe : Obj} (x : ExAt X a D d oe) : HotC X := by
  obtain ⟨vs, e⟩ := x.fld
  exact ⟨(a, oe), ⟨x.hnd, vs, e, x.zn.2.2 vs e⟩, x.pin⟩
/-- isinstance(e, c), e the exception that is handled -/
def rIsX (K : PySem.W.Frag) (D a : Addr) (d : Option Addr) : List V → Hp → VK → Prop := fun xs H Q => ∃ (c : V) (cv : Value) (b : Bool), xs = [.ref a, c] ∧ DOk d H ∧ (∀ u, RelV c u → u = cv) ∧ PySem.W.kitOne K (.ref D) cv = some b ∧ Q (.bl b) H
theorem call_isX {X : Cx} {a D : Addr} {d : Option Addr} {oe : Obj} (C : ExcD X.K D) (x : ExAt X a D d oe) : CallR X (.builtin "isinstance") (rIsX X.K D a d) := by
  intro pins s σ H xs us Q I r h
  obtain ⟨c, cv, b, rfl, hd, hcv, e, q⟩ := h
  cases r with
  | cons rx rr =>
    cases rr with
    | cons rt rr =>
      cases rr
      cases rx
      have ec := hcv _ rt
      subst ec
      obtain ⟨hget, _⟩ := I.pin (a, oe) (List.mem_append.mpr (.inl x.pin))
      obtain ⟨vs, hv⟩ := x.fld
      obtain ⟨h1, h2, _⟩ := x.zn
      have J : ∃ od, PySem.W.InstAt s.heap a oe D od := by
        obtain ⟨oc, odi, oda, osl⟩ := oe
        dsimp only at h1 h2 hv
        subst h1 h2 hv
        rcases hd with rfl | ⟨dx, fs, rfl, hx⟩
        · exact ⟨none, hget, rfl, rfl, trivial⟩
        · obtain ⟨_, ⟨o, _, _, eo, _⟩, _⟩ := I.hok dx _ hx
          exact ⟨some o, hget, rfl, rfl, eo⟩
      obtain ⟨od, J⟩ := J
      exact PySem.W.kia_one (PySem.W.kitx_exc (od := od) C.hcl C.hg C.hk C.hs C.ha C.hn C.ht C.hm) I.kIn J e (fun z => nomatch z) fun tk => ⟨.bl b, H, I.kept (t' := tk) fun _ _ z => z, rfl, q⟩
end Mi
set_option maxHeartbeats 4000000
namespace Mi
open PySem PySem.Spec PyProof.Rows L2 HotX L2H
/-- all that stood stands -/
def Kp (H H' : Hp) : Prop := ∀ b o, H b = some o → H' b = some o
theorem Kp.refl (H : Hp) : Kp H H := fun _ _ h => h
theorem Kp.trans {H H1 H2 : Hp} (a : Kp H H1) (b : Kp H1 H2) : Kp H H2 := fun x o h => b x o (a x o h)
theorem Kp.upd {H : Hp} {p : Addr} {o : HO} (h : H p = none) : Kp H (L2.upd H p o) := fun a u e => by rw [upd_ne (ne_of_none e h)]; exact e
theorem Kp.updA {H H' : Hp} {p : Addr} {o : HO} (k : Kp H H') (h : H p = none) : Kp H (L2.upd H' p o) := fun a u e => by rw [upd_ne (ne_of_none e h)]; exact k a u e
def pick : List Str → List Bool → List Str
  | w :: ws, b :: bs => if b = true then w :: pick ws bs else pick ws bs
  | _, _ => []
theorem pick_take : ∀ (ws : List Str) (bs : List Bool) (i : Nat) (w : Str) (b : Bool), ws[i]? = some w → bs[i]? = some b → pick (ws.take (i + 1)) (bs.take (i + 1)) = pick (ws.take i) (bs.take i) ++ (if b = true then [w] else [])
  | [], _, _, _, _, h, _ => by simp at h
  | _ :: _, [], _, _, _, _, h => by simp at h
  | w0 :: ws, b0 :: bs, 0, w, b, h1, h2 => by
    simp at h1 h2; subst h1 h2
    cases b0 <;> simp [pick]
  | w0 :: ws, b0 :: bs, i + 1, w, b, h1, h2 => by
    simp only [List.getElem?_cons_succ] at h1 h2
    have ih := pick_take ws bs i w b h1 h2
    simp only [List.take_succ_cons, pick]
    cases b0 <;> simp [ih]
theorem pick_len : ∀ (ws : List Str) (bs : List Bool), (pick ws bs).length ≤ ws.length
  | [], _ => by simp [pick]
  | _ :: _, [] => by simp [pick]
  | w :: ws, b :: bs => by
    have ih := pick_len ws bs
    simp only [pick]
    split <;> simp <;> omega
/-- a list of answers of isinstance -/
def tBs (a : Addr) (d : Option Addr) (bs : List Bool) : TA := fun σ H Q => σ[0]? = some (some (V.ref a)) ∧ DOk d H ∧ Q (bs.map V.bl) H
section
variable {X : Cx} {a D : Addr} {d : Option Addr} {oe : Obj}
theorem hn_nil : PA X [] (tBs a d []) := ⟨fun pos pins s σ H Q I h => pa_nil.run pos pins s σ H Q I h.2.2⟩
theorem hn_cons {ex : Expr} {es : List Expr} {b : Bool} {bs : List Bool} (h1 : PE X ex (fun σ H Q => σ[0]? = some (some (V.ref a)) ∧ DOk d H ∧ Q (.bl b) H)) (h2 : PA X es (tBs a d bs)) (hs : starEach (ex :: es) X.env = (false, eval ex X.env) :: starEach es X.env := by rfl) : PA X (ex :: es) (tBs a d (b :: bs)) :=
  PA.imp (pa_cons h1 h2 hs) fun σ H Q ⟨h, hd, q⟩ => ⟨h, hd, h, hd, q⟩
/-- isinstance(e, C), C a class of the text -/
theorem hn_own {e x : Str} {p p1 p2 pos : Pos} {b : Bool} {C : Addr} (hC : ExcD X.K D) (xa : ExAt X a D d oe) (hi : X.mg "isinstance" = none) (hm : X.mg x = some (.ref C)) (hk : PySem.W.kitOne X.K (.ref D) (.ref C) = some b) (hN : X.N[0]? = some e := by rfl)
    (hv : Vis X.env.scope e := by first | exact Or.inl rfl | exact Or.inr (Or.inl rfl) | exact Or.inr (Or.inr rfl)) (hg : Gl X "isinstance" := by rfl) (hg2 : Gl X x := by rfl) (hd : (x == ("__debug__" : Str)) = false := by decide) (hd1 : (e == ("__debug__" : Str)) = false := by decide) (hcd : (e == ("__classdict__" : Str)) = false := by decide) :
    PE X (.Call (.Name "isinstance" p) [.Name e p1, .Name x p2] [] pos) (fun σ H Q => σ[0]? = some (some (V.ref a)) ∧ DOk d H ∧ Q (.bl b) H) :=
  PE.imp (pe_callB (call_isX hC xa) hg hi PyProof.Rows.boot_isinstance (pa_cons (pe_var (i := 0) hN hv hd1 hcd) (pa_cons (pe_glob (v := .ref C) hg2 hm rfl hd) pa_nil)) (by decide) (by decide)) fun σ H Q ⟨h, hd, q⟩ =>
    ⟨_, h, .ref C, .ref C, b, rfl, hd, fun u r => r, hk, q⟩
/-- .. a built-in class -/
theorem hn_bi {e x : Str} {T : String} {p p1 p2 pos : Pos} {b : Bool} (hC : ExcD X.K D) (xa : ExAt X a D d oe) (hi : X.mg "isinstance" = none) (hm : X.mg x = none) (hb : bootBuiltins x = some (.type T)) (hk : PySem.W.kitOne X.K (.ref D) (.type T) = some b) (hN : X.N[0]? = some e := by rfl)
    (hv : Vis X.env.scope e := by first | exact Or.inl rfl | exact Or.inr (Or.inl rfl) | exact Or.inr (Or.inr rfl)) (hg : Gl X "isinstance" := by rfl) (hg2 : Gl X x := by rfl) (hn : x ≠ "__name__" := by decide) (hd : (x == ("__debug__" : Str)) = false := by decide) (hd1 : (e == ("__debug__" : Str)) = false := by decide) (hcd : (e == ("__classdict__" : Str)) = false := by decide) :
    PE X (.Call (.Name "isinstance" p) [.Name e p1, .Name x p2] [] pos) (fun σ H Q => σ[0]? = some (some (V.ref a)) ∧ DOk d H ∧ Q (.bl b) H) :=
  PE.imp (pe_callB (call_isX hC xa) hg hi PyProof.Rows.boot_isinstance (pa_cons (pe_var (i := 0) hN hv hd1 hcd) (pa_cons (pe_bltn (v := .ty T) hg2 hm hb rfl hn hd) pa_nil)) (by decide) (by decide)) fun σ H Q ⟨h, hd, q⟩ =>
    ⟨_, h, .ty T, .type T, b, rfl, hd, fun u r => r, hk, q⟩
/-- [word for word, good in zip(labels.split(' '), some) if good] -/
theorem hn_lc {lab word good sm : Str} {sep : Str} {scope : Scope} {own : List (Str × Nat)} {j k : Nat} {q1 q2 q3 q4 q5 q6 q7 q8 q9 q10 q11 q12 pos : Pos} {bs : List Bool} {L : Str} (hot : HotC X) (hN : X.N.Nodup) (hz : X.mg "zip" = none)
    (hsep : (sep.length == 0) = false) (hL : L.length + 2 ≤ sizeLine) (hlen : (Txt.split L sep).length = bs.length) (hsz : bs.length ≤ sizeLine)
    (ok : BlkOk X.N X.env.scope scope own) (hown : own.map (·.2) = [3, 4]) (h1 : X.N[1]? = some sm := by rfl) (h2 : X.N[2]? = some lab := by rfl) (h3 : X.N[3]? = some word := by rfl) (h4 : X.N[4]? = some good := by rfl)
    (v1 : Vis X.env.scope sm := by exact Or.inl rfl) (v2 : Vis X.env.scope lab := by exact Or.inl rfl) (l3 : (relS scope X.env.scope).names.lookup word = some .local := by rfl) (l4 : (relS scope X.env.scope).names.lookup good = some .local := by rfl)
    (hg : Gl X "zip" := by rfl) (d1 : (sm == ("__debug__" : Str)) = false := by decide) (c1 : (sm == ("__classdict__" : Str)) = false := by decide) (d2 : (lab == ("__debug__" : Str)) = false := by decide) (c2 : (lab == ("__classdict__" : Str)) = false := by decide)
    (d3 : (word == ("__debug__" : Str)) = false := by decide) (c3 : (word == ("__classdict__" : Str)) = false := by decide) (d4 : (good == ("__debug__" : Str)) = false := by decide) (c4 : (good == ("__classdict__" : Str)) = false := by decide) (hline : (q4.endLine == q6.line) = true := by rfl) :
    PE X (.ListComp (.Name word q1) [⟨.Tuple [.Name word q2, .Name good q3] k q11, .Call (.Name "zip" q8) [.Call (.Attribute (.Name lab q5) "split" q4) [.Constant (.str sep) j q7] [] q6, .Name sm q9] [] q10, [.Name good q12], 0⟩] scope pos)
      (fun σ H Q => ∃ p, 4 < σ.length ∧ σ[2]? = some (some (V.str L)) ∧ σ[1]? = some (some (V.ref p)) ∧ H p = some (.lst (bs.map V.bl)) ∧ ∀ H' q, Kp H H' → H' q = some (.lst ((pick (Txt.split L sep) bs).map V.str)) → Q (.ref q) H') := by
  refine PE.imp (pe_lcH (g := gTup X.K 2 (gCons (gName 3) (gCons (gName 4) gNil))) hot hN (pi_zipH hg hz (pa_cons (pe_split (pe_var (i := 2) h2 v2 d2 c2) pe_str rfl rfl hline) (pa_cons (pe_var (i := 1) h1 v1 d1 c1) pa_nil))) ok
    (fun s H C cl fp => pg_tupH (X := blkH X s H scope (compEnvC scope cl C X.env) fp) (n := 2) (show HotC X from hot) (pgs_cons (pg_name (i := 3) hN h3 (.inl l3) (.inr l3)) (pgs_cons (pg_name (i := 4) hN h4 (.inl l4) (.inr l4)) pgs_nil)))
    (fun s H C cl fp => pts_one (pt_val (pe_var (X := blkH X s H scope (compEnvC scope cl C X.env) fp) (i := 4) h4 (.inl l4) d4 c4))) (fun s H C cl fp => pe_var (X := blkH X s H scope (compEnvC scope cl C X.env) fp) (i := 3) h3 (.inl l3) d3 c3)) fun σ H Q ⟨p, hl5, e2, e1, hp, hq⟩ => ?_
  rw [hown]
  refine ⟨.str L, e2, ⟨L, rfl⟩, L, sep, rfl, rfl, hsep, hL, fun q nq => ⟨.ref p, e1, q, p, (Txt.split L sep).map V.str, bs.map V.bl, rfl, .inl (.inl upd_same), .inl (.inl (Kp.upd nq p _ hp)), fun Da nD => ?_⟩⟩
  have hqD : q ≠ Da := fun z => by rw [← z, upd_same] at nD; cases nD
  have nDa : H Da = none := by
    rw [upd_ne (Ne.symm hqD)] at nD; exact nD
  have hpD : p ≠ Da := ne_of_none hp nDa
  refine ⟨fun i m H' => m = bs.length - i ∧ i ≤ bs.length ∧ Kp H H' ∧ H' q = some (.lst ((Txt.split L sep).map V.str)) ∧ H' p = some (.lst (bs.map V.bl)) ∧ H' Da = some (.lst ((pick ((Txt.split L sep).take i) (bs.take i)).map V.str)),
    ⟨bs.length, rfl, Nat.zero_le _, Kp.updA (Kp.upd nq) nDa, by rw [upd_ne hqD, upd_same], by rw [upd_ne hpD]; exact Kp.upd nq p _ hp, by rw [upd_same]; simp [pick]⟩, ?_⟩
  rintro i m H' ⟨rfl, hi, kp, w1, w2, w3⟩
  by_cases hlt : i < bs.length
  · refine .inr ⟨⟨_, _, _, _, .inl (.inl w1), .inl (.inl w2), by rw [List.getElem?_map, List.getElem?_eq_getElem (show i < (Txt.split L sep).length by omega)]; rfl, by rw [List.getElem?_map, List.getElem?_eq_getElem hlt]; rfl⟩,
      fun H2 => i + 1 ≤ bs.length ∧ Kp H H2 ∧ H2 q = some (.lst ((Txt.split L sep).map V.str)) ∧ H2 p = some (.lst (bs.map V.bl)) ∧ H2 Da = some (.lst ((pick ((Txt.split L sep).take (i + 1)) (bs.take (i + 1))).map V.str)),
      fun H2 ⟨a1, a2, a3, a4, a5⟩ => ⟨bs.length - (i + 1), by omega, rfl, a1, a2, a3, a4, a5⟩, fun v H2 y => ?_⟩
    obtain ⟨T, x, y, rfl, nT, rfl, f1, f2⟩ := y
    have ex := f1 _ (.inl (.inl w1))
    have ey := f2 _ (.inl (.inl w2))
    rw [List.getElem?_map, List.getElem?_eq_getElem (show i < (Txt.split L sep).length by omega)] at ex
    rw [List.getElem?_map, List.getElem?_eq_getElem hlt] at ey
    simp only [Option.map_some, Option.some.injEq] at ex ey
    subst ex ey
    have hTq : q ≠ T := ne_of_none w1 nT
    have hTp : p ≠ T := ne_of_none w2 nT
    have hTD : Da ≠ T := ne_of_none w3 nT
    have kT : Kp H (L2.upd H' T (.tup [.str (Txt.split L sep)[i], .bl bs[i]])) := kp.trans (Kp.upd nT)
    have pt := pick_take (Txt.split L sep) bs i _ _ (List.getElem?_eq_getElem (show i < (Txt.split L sep).length by omega)) (List.getElem?_eq_getElem hlt)
    refine ⟨T, _, rfl, .inl (.inl upd_same), rfl, _, _, rfl, _, _, rfl, rfl, ?_, _, ?_, bs[i], rfl, ?_⟩
    · simp [wipe, List.set_comm, List.set_set]
    · simp only [wipe]
      rw [List.getElem?_set_self (by simpa using hl5)]
    · cases hb : bs[i] with
      | false =>
        rw [if_neg Bool.false_ne_true]
        rw [hb] at pt kT
        refine ⟨hlt, kT, by rw [upd_ne hTq]; exact w1, by rw [upd_ne hTp]; exact w2, ?_⟩
        rw [upd_ne hTD, w3, pt]
        simp
      | true =>
        rw [if_pos rfl]
        rw [hb] at pt kT
        have z := pick_len ((Txt.split L sep).take i) (bs.take i)
        simp at z
        refine ⟨_, by simp only [wipe]; rw [List.getElem?_set_ne (by decide), List.getElem?_set_self (by simp; omega)], _, by rw [upd_ne hTD]; exact w3, by simp; omega, hlt, kT.updA nDa, by rw [upd_ne hqD, upd_ne hTq]; exact w1, by rw [upd_ne hpD, upd_ne hTp]; exact w2, ?_⟩
        rw [upd_same, pt]
        simp
  · have e : i = bs.length := by omega
    subst e
    refine .inl ⟨⟨_, .inl (.inl w1), by simp [hlen]⟩, hq H' Da kp ?_⟩
    rw [w3, List.take_length, ← hlen, List.take_length]
/-- the def's body: ∃ H', all that stood stands, and the words are returned -/
theorem names_pss {es : List Expr} {bs : List Bool} {lab sm : Str} {sep : Str} {lc : Expr} {j j2 : Nat} {q1 q2 q3 q4 q5 q6 q7 q8 q9 q10 : Pos} {L : Str} (hN : X.N.Nodup) (hes : PA X es (tBs a d bs)) (hsz : bs.length ≤ sizeLine)
    (hlc : PE X lc (fun σ H Q => ∃ p, 4 < σ.length ∧ σ[2]? = some (some (V.str L)) ∧ σ[1]? = some (some (V.ref p)) ∧ H p = some (.lst (bs.map V.bl)) ∧ ∀ H' q, Kp H H' → H' q = some (.lst ((pick (Txt.split L sep) bs).map V.str)) → Q (.ref q) H'))
    (hj : ((pick (Txt.split L sep) bs).map (·.length)).sum + (pick (Txt.split L sep) bs).length * sep.length ≤ 16777216)
    (h1 : X.N[1]? = some sm := by rfl) (h2 : X.N[2]? = some lab := by rfl) (l1 : X.env.scope.names.lookup sm = some .local := by rfl) (l2 : X.env.scope.names.lookup lab = some .local := by rfl)
    (hslc : starEach [lc] X.env = [(false, eval lc X.env)] := by rfl) (hline : (q6.endLine == q8.line) = true := by rfl) (hw1 : swapsWithSole [.Name sm q1] (.List es q2) q3.line X.env = pure false := by rfl) (hw2 : swapsWithSole [.Name lab q4] (.Constant (.str L) j q5) q9.line X.env = pure false := by rfl) :
    PSs X [.Assign [.Name sm q1] (.List es q2) q3, .Assign [.Name lab q4] (.Constant (.str L) j q5) q9, .Return (some (.Call (.Attribute (.Constant (.str sep) j2 q7) "join" q6) [lc] [] q8)) q10]
      (fun D σ H => σ[0]? = some (some (V.ref a)) ∧ 4 < σ.length ∧ DOk d H ∧ ∀ H', Kp H H' → D.rt (.str (Txt.join sep (pick (Txt.split L sep) bs))) H') := by
  refine PSs.imp (pss_cons (ps_asg (pe_lst hes) (pg_name (i := 1) hN h1 (.inl l1) (.inr l1)) hw1) (pss_cons (ps_asg pe_str (pg_name (i := 2) hN h2 (.inl l2) (.inr l2)) hw2) (pss_one (ps_ret (pe_join pe_str hlc hslc rfl hline))))) fun Dn σ H ⟨e0, hl, hd, q⟩ => ?_
  refine ⟨e0, hd, by simpa using hsz, fun p np => ?_⟩
  refine ⟨⟨sep, rfl⟩, p, by simpa using hl, ?_, ?_, upd_same, fun H' q' kp hq' => ⟨sep, q', _, rfl, rfl, .inl (.inl (.inl hq')), hj, q H' ((Kp.upd np).trans kp)⟩⟩
  · rw [List.getElem?_set_self (by simp; omega)]
  · rw [List.getElem?_set_ne (by decide), List.getElem?_set_self (by omega)]
end
section
variable {X : Cx} {a D : Addr} {d : Option Addr} {oe : Obj} {pins : List (Addr × Obj)} {σ : L2.St} {H : Hp} {s : Shared} {Q : VK}
/-- .. called where the exception is handled -/
theorem run_names {x qual : Str} {st : Stmt} {f : Addr} {fd : FuncData} {N : List Str} {e : Str} {z : Str} {k : Nat} (F : Fun X.K x qual st f fd) (S : FnScope N [e] (defScope st)) (hN5 : 4 < N.length) (hr : RoomH (k + 1) X.A) (xa : ExAt X a D d oe) (hb : Binds X.K fd [e] [])
    (hbody : ∀ (A : Around) (outer : List Env) (s : Shared) (H : Hp) (E : XK), A.handled = some (.ref a) → PSs (cxH C8.CX0 X.prog X.w X.K X.mg X.base N qual (defScope st) f fd.code A outer s H E (a, oe)) (defBody st)
      (fun D σ H => σ[0]? = some (some (V.ref a)) ∧ 4 < σ.length ∧ DOk d H ∧ ∀ H', Kp H H' → D.rt (.str z) H'))
    (I : Inv X pins σ H s) (hd : DOk d H) (hq : ∀ H', Kp H H' → Q (.str z) H') : wpAny (model X.prog X.w) X.A (call (.ref f) [.ref a]) (EP X pins σ Q) X.xe s := by
  obtain ⟨oc, od, kV, doc, pm, an, cdv, ct, osl, rfl, lk, hcd⟩ := F.ex
  have b := hb s [.ref a] I.kIn rfl
  rw [List.append_nil] at b
  have P1 := I.pin (a, oe) (List.mem_append_left _ xa.pin)
  have hpin : PinOk X.stack H s (a, oe) := ⟨P1.1, P1.2.1, fun hm => (List.mem_cons.mp (I.stkSub a hm)).elim P1.2.2.1 P1.2.2.2.1, P1.2.2.2.2⟩
  have e0 := I.env0
  have rc : codeAny (model X.prog X.w) X.A (.call (.ref f) ⟨[.ref a], []⟩) (CR C8.CX0 X.stack X.prog X.w H s Q C8.E0) s := by
    have KX : X.K.In s.heap := e0.mod.kin.keeps fun b o e => (e0.bs b o e).1
    have lim : s.heap.NoLimit := e0.mod.nolimit.keeps fun b o e => (e0.bs b o e).1
    have hkind : ∀ y ∈ [e].zip [Value.ref a], (defScope st).names.lookup y.1 = some .local ∨ ((defScope st).names.lookup y.1 = some .cell ∧ ((cellsFrom (s.heap.objs.size + 1) (defScope st).names []).lookup y.1).isSome = true) := fun ⟨n, v⟩ hy => by
      rcases S.par n (List.of_mem_zip hy).1 with q | q
      · exact .inl q
      · exact .inr ⟨q, PySem.W.cellsFrom_some _ _ _ (.inl q)⟩
    refine codeAny_call_function hr.depth (KX _ _ lk) rfl S.co S.gen rfl (PySem.W.codeRec_of KX hcd) (b _ _ _ _ ?_)
    refine wpAny_newFunctionEnv_cells S.kind hkind fun env he s1 x => ?_
    subst he
    refine ⟨lim.keeps x.toInCall.keep, codeAny_func ?_⟩
    have I1 := inv_startH (CX := C8.CX0) (E := C8.E0) S hpin e0 (vs := [V.ref a]) rfl (.cons rfl .nil) x
    refine wpAny_mono ((hbody X.A X.stack s H C8.E0 xa.hnd).run [] s1 (L2.start N [V.ref a]) H { nx := fun _ H' => Q .non H', rt := Q } I1 ⟨rfl, by unfold L2.start; simp; omega, hd, hq⟩) (fun fl s' hs => ?_) fun e s' hs => hs
    cases fl with
    | ret u =>
      obtain ⟨v, σ', H', J, rv, q⟩ := hs
      exact ⟨v, H', J.os, J.bare, J.base, J.hok, rv, q⟩
    | next =>
      obtain ⟨σ', H', J, q⟩ := hs
      exact ⟨.non, H', J.os, J.bare, J.base, J.hok, rfl, q⟩
    | brk =>
      obtain ⟨_, _, _, q⟩ := hs
      exact False.elim q
    | cont =>
      obtain ⟨_, _, _, q⟩ := hs
      exact False.elim q
  refine wpAny_call (codeAny_mono rc fun r s' hq => ?_)
  cases r with
  | error e => exact (show False from hq).elim
  | ok fl =>
    cases fl with
    | ret u => exact I.after hq
    | next => exact False.elim hq
    | brk => exact False.elim hq
    | cont => exact False.elim hq
end
end Mi
set_option maxHeartbeats 4000000
namespace Mi
open PySem PySem.Spec PyProof.Rows L2 HotX L2H LamX
/-- the lambda's body as lamCx has it, exceptions with a context of None -/
abbrev lamN (X : Cx) (A : Around) (outer : List Env) (s : Shared) (H : Hp) (E : XK) (scope : Scope) (f c' : Addr) : Cx :=
  { lamCx X A outer s H E scope f c' with xe := fun e s' => wpAny (model X.prog X.w) (A.deeper (lamEnv X scope s.heap.objs.size f c')) (leaving (lamEnv X scope s.heap.objs.size f c') e) (fun _ s'' => L2N.CX X.prog X.w outer H s E e s'') (fun e' s'' => L2N.CX X.prog X.w outer H s E e' s'') s' }
section
variable {X : Cx} {pins : List (Addr × Obj)} {σ : L2.St} {H : Hp} {s : Shared}
theorem act_N {CXg : CXT} {Eg : XK} {Ng : List Str} {qg : Str} {sg : Scope} {g f c' : Addr} {cdg pm ctv : Value} {params : Arguments} {body : Expr} {scope : Scope} {k i : Nat} {a : Str} {pn : List (Addr × Obj)} {xe : Value → Shared → Prop} {W : WX} {t : XK → TE} {p1 p2 : Pos}
    (I : Inv X pins σ H s) (L : LamS X.env.scope scope) (hf : s.heap.get? f = some (PySem.W.kla_obj "<lambda>" (X.env.qual ++ "<lambda>") params body scope (cloFrom X.env.cells scope.names []) pm c' ctv)) (hfn : H f = none) (hfr : f ∉ frs X.stack)
    (hbind : bindArgs (PySem.W.kla_fn "<lambda>" (X.env.qual ++ "<lambda>") params body scope (cloFrom X.env.cells scope.names []) pm (.ref c') ctv) ⟨[], []⟩ = pure [])
    (tk : L2N.Takes ((cxOf CXg X.prog X.w X.K X.mg X.base Ng qg sg g cdg X.A X.stack s H Eg).tr pn xe) W) (hr : Room (k + 1) (X.A.deeper (envOfC qg sg s.heap.objs.size g cdg)))
    (hbody : ∀ (A : Around) (outer : List Env) (s : Shared) (H : Hp) (E : XK), Room k (A.deeper (lamEnv X scope s.heap.objs.size f c')) → PE (lamN X A outer s H E scope f c') body (t E))
    (hN : Ng[i]? = some a) (hv : Vis sg a) (hd : (a == ("__debug__" : Str)) = false := by decide) (hcd : (a == ("__classdict__" : Str)) = false := by decide) :
    PE ((cxOf CXg X.prog X.w X.K X.mg X.base Ng qg sg g cdg X.A X.stack s H Eg).tr pn xe) (.Call (.Name a p1) [] [] p2)
      (fun σZ HZ Q => σZ[i]? = some (some (.ref f)) ∧ HZ c' = some (CodeO c' (X.env.qual ++ "<lambda>")) ∧ t (fun cls d H' => W cls d σZ H') σ HZ Q) := by
  refine ⟨fun pinsZ sZ σZ HZ Q IZ h => ?_⟩
  obtain ⟨hs, hc, ht⟩ := h
  refine wpAny_Call_Name_kw (thn ((pe_var (pos := p1) (i := i) hN hv hd hcd).run pinsZ sZ σZ HZ (fun v H1 => v = .ref f ∧ H1 = HZ) IZ ⟨.ref f, hs, rfl, rfl⟩) fun u s1 ⟨v, H1, I1, r1, ev, eH⟩ => ?_)
  subst ev eH
  obtain rfl : u = Value.ref f := r1
  have of1 : s1.heap.get? f = some (PySem.W.kla_obj "<lambda>" (X.env.qual ++ "<lambda>") params body scope (cloFrom X.env.cells scope.names []) pm c' ctv) := I1.base.keep f _ hf hfn hfr (fun z => nomatch (show f ∈ ([] : List Addr) from z))
  refine PySem.W.callWith_F0 ⟨_, _, _, _, of1⟩ ?_
  have un : Un (frs X.stack) [] H H1 s.heap s1.heap := I1.base
  obtain ⟨⟨oc, vs, tt, hoc, hdc, hvc⟩, _, _⟩ := I1.hok c' _ hc
  have rc : codeAny (model X.prog X.w) (X.A.deeper (envOfC qg sg s.heap.objs.size g cdg)) (.call (.ref f) ⟨[], []⟩) (CR (L2N.CX X.prog X.w) (envOfC qg sg s.heap.objs.size g cdg :: X.stack) X.prog X.w H1 s1 Q (fun cls d H' => W cls d σZ H')) s1 := by
    refine PySem.W.kla_callFunE hr.depth of1 rfl L.co L.gen rfl ⟨c', oc, vs, tt, rfl, hoc, hdc, hvc⟩ ?_
    rw [hbind]
    refine wpAny_pure (wpAny_newFunctionEnv (fun y hy => (L.own y hy).2) (fun y hy => absurd hy (by simp)) (fun h₁ hns hsb => ⟨I1.nolimit.fresh _ hsb, ?_⟩) L.kind)
    show codeAny _ _ (.expr body (lamEnv X scope s1.heap.objs.size f c')) _ _
    have kp : ∀ b o, s1.heap.get? b = some o → h₁.get? b = some o := fun b o e => hsb.extBut b o (Nat.ne_of_lt (Heap.lt_size e)) (Heap.get?_push_of_some _ e)
    have J := lam_start2 (f := f) (c' := c') (E := fun cls d H' => W cls d σZ H') (tk := s1.toks + ([] : List (Str × Value)).length) I L I1.env0 hr.hd un hns kp
    have J' : Inv (lamN X (X.A.deeper (envOfC qg sg s.heap.objs.size g cdg)) (envOfC qg sg s.heap.objs.size g cdg :: X.stack) s1 H1 (fun cls d H' => W cls d σZ H') scope f c') [] σ H1 { s1 with heap := h₁, toks := s1.toks + ([] : List (Str × Value)).length } :=
      ⟨⟨J.ok.mod, J.ok.kind, J.ok.glob, J.ok.blt, J.ok.above, J.ok.inj, J.ok.has, J.ok.cab, J.ok.hd, J.ok.frames, J.ok.stk, J.ok.exf, J.ok.bs, J.ok.bsz, J.ok.noex, J.ok.exfs, J.ok.funs, J.ok.frf⟩, J.os, J.bare, J.base, J.loc, J.cell, J.free, J.freeC, J.pin, J.hok, J.len⟩
    refine PySem.W.kla_codeExpr (wpAny_mono ((hbody _ _ s1 H1 _ (hr.deeper _)).run [] _ _ H1 Q J' ht) (fun v s' hq => ?_) fun e s' hq => hq)
    obtain ⟨w', H', J', rv, q⟩ := hq
    exact ⟨w', H', J'.os, J'.bare, J'.base, J'.hok, rv, q⟩
  refine wpAny_call (codeAny_mono rc fun r s' hq => ?_)
  cases r with
  | error e => exact L2N.passAt tk σZ pinsZ H1 s1 e s' I1 hq
  | ok fl =>
    cases fl with
    | ret u => exact I1.after hq
    | next => exact False.elim hq
    | brk => exact False.elim hq
    | cont => exact False.elim hq
end
/-- the words of an error's classes -/
def nmTab : List (Str × Str) := [("InvalidStage", "stage value"), ("InvalidChain", "chain value"), ("InvalidCourse", "course value"), ("InvalidBeat", "beat value"), ("InvalidPattern", "pattern value"), ("InvalidNumber", "number value"),
  ("InvalidSeen", "seen value"), ("Unlike", "unlike value"), ("NothingToUndo", "undo value"), ("InvalidText", "text value"), ("TooMany", "many value"), ("Wrong", "wrong value"), ("StopError", "value")]
def nmOf (c : Str) : Str := (nmTab.lookup c).getD ""
def isTab (P : Addr) (q : Str) : Ob → Bool
  | .tab P' q' => decide (P' = P) && decide (q' = q)
  | _ => false
/-- _law_error(lambda: A); cs: the classes that A may raise -/
def dErr (cs : List Str) (P : Addr) (q : Str) (A : DE) : DE := fun ρ S => if S.any (isTab P q) then match A ρ S with
  | .ok _ S1 => .ok (.pv (.str "")) S1
  | .err c _ S1 => if c ∈ cs then .ok (.pv (.str (nmOf c))) S1 else .bad
  | .bad => .bad
  else .bad
/-- the defs _law_error and _law_names, and the classes -/
structure ErrD (P : Program) (w : World) (K : PySem.W.Frag) (mg : Str → Option Value) (base : Heap) (cs : List Str) where
  (g f SE : Addr) (fdg fdn : FuncData) (stg stn : Stmt) (Ng Nn : List Str) (a en e' : Str) (p1 p2 p3 p4 p5 p6 p7 p8 p9 p10 p11 p12 : Pos) (j : Nat)
  Fg : Fun K "_law_error" "_law_error" stg g fdg
  Sg : FnScope Ng [a] (defScope stg)
  bg : Binds K fdg [a] []
  mG : mg "_law_error" = some (.ref g)
  bodyG : defBody stg = [.Try [.Expr (.Call (.Name a p1) [] [] p2) p3] [.ExceptHandler (some (.Name "StopError" p4)) (some en) [.Return (some (.Call (.Name "_law_names" p5) [.Name en p6] [] p7)) p8] p9] [] [] p10, .Return (some (.Constant (.str "") j p11)) p12]
  va : Vis (defScope stg) a
  N0 : Ng[0]? = some a
  N1 : Ng[1]? = some en
  le : (defScope stg).names.lookup en = some .local
  gS : (defScope stg).names.lookup ("StopError" : Str) = some NameKind.globalImplicit
  gN : (defScope stg).names.lookup ("_law_names" : Str) = some NameKind.globalImplicit
  da : (a == ("__debug__" : Str)) = false
  ca : (a == ("__classdict__" : Str)) = false
  de : (en == ("__debug__" : Str)) = false
  ce : (en == ("__classdict__" : Str)) = false
  mS : mg "StopError" = some (.ref SE)
  Fn : Fun K "_law_names" "_law_names" stn f fdn
  Sn : FnScope Nn [e'] (defScope stn)
  N5 : 4 < Nn.length
  bn : Binds K fdn [e'] []
  mN : mg "_law_names" = some (.ref f)
  cls : ∀ c ∈ cs, ∃ C, mg c = some (.ref C) ∧ PySem.W.exmOne K (.ref C) (.ref SE) = some true ∧ ∀ (a : Addr) (d : Option Addr) (oe : Obj), L2N.Zn (.ref C) d oe → (∃ vs, oe.data = .fields vs) → ∀ (A : Around) (outer : List Env) (s : Shared) (H : Hp) (E : XK), A.handled = some (.ref a) →
    PSs (cxH C8.CX0 P w K mg base Nn "_law_names" (defScope stn) f fdn.code A outer s H E (a, oe)) (defBody stn) (fun D σ H => σ[0]? = some (some (V.ref a)) ∧ 4 < σ.length ∧ DOk d H ∧ ∀ H', Kp H H' → D.rt (.str (nmOf c)) H')
theorem RepS.nt {P : Program} {w : World} {K : PySem.W.Frag} {m : Mp} {H H1 : Hp} {S : Sto} (r : RepS P w K m H S) (e : ExtN H H1) (t : Tabs m.tb H1) : RepS P w K m H1 S := by
  have x : Ext m H m H1 := ⟨fun a o h _ n => e a o h n, fun _ h => .inl h, fun _ h => .inl (.inr h), fun _ h => h, rfl, Nat.le_refl _, fun _ _ _ h => h⟩
  have g : Go P w K m H m H1 := Go.of r.mok x
  refine ⟨r.len, fun a h => ⟨(r.av a h).1, let ⟨o, e1, n⟩ := (r.av a h).2; ⟨o, e a o e1 n, n⟩⟩, t, r.nd, fun l o h2 => ?_⟩
  rcases r.ob l o h2 with q | ⟨a, h1, q⟩
  · exact .inl q
  refine .inr ⟨a, h1, ?_⟩
  cases o with
  | lst xs => obtain ⟨us, e1, q⟩ := q; exact ⟨us, e a _ e1 (fun _ z => by cases z), Reps.go g xs us q⟩
  | dct kvs => obtain ⟨xs, e1, y, z, d, q⟩ := q; exact ⟨xs, e a _ e1 (fun _ z => by unfold DictO at z; cases z), y, z, d, RepK.go g kvs xs.l q⟩
  | dead => exact q
  | tab _ _ => exact q
theorem Ext.nt {m : Mp} {H H1 : Hp} (e : ExtN H H1) : Ext m H m H1 := ⟨fun a o h _ n => e a o h n, fun _ h => .inl h, fun _ h => .inl (.inr h), fun _ h => h, rfl, Nat.le_refl _, fun _ _ _ h => h⟩
theorem tab_of {P : Program} {w : World} {K : PySem.W.Frag} {m : Mp} {H : Hp} {S : Sto} {T : Addr} {q : Str} (r : RepS P w K m H S) (h : S.any (isTab T q) = true) : (T, q) ∈ m.tb ∧ ∀ p ∈ m.tb, p.1 = T → p.2 = q := by
  obtain ⟨o, ho, e⟩ := List.any_eq_true.mp h
  obtain ⟨l, hl⟩ := List.mem_iff_getElem?.mp ho
  cases o with
  | tab P' q' =>
    simp only [isTab, Bool.and_eq_true, decide_eq_true_eq] at e
    obtain ⟨rfl, rfl⟩ := e
    rcases r.ob l _ hl with ⟨q, _⟩ | ⟨_, _, q⟩
    · exact q
    · exact q.elim
  | _ => cases e
theorem takesN0 {X : Cx} : L2N.Takes X (fun _ _ _ _ => False) := fun _ _ x => by
  obtain ⟨_, _, _, _, _, _, _, _, _, _, _, _, _, _, _, _, z⟩ := x
  exact z.elim
section
variable {X : Cx} {W : WX} {cs : List Str}
/-- the suite: return _law_names(e) -/
theorem names_call (LE : ErrD X.prog X.w X.K X.mg X.base cs) {k : Nat} (hN : X.N = LE.Ng) (hsc : X.env.scope = defScope LE.stg) (hr : Room (k + 1) X.A) {a : Addr} {oe : Obj} {cls : Value} {d : Option Addr} {pn : List (Addr × Obj)} (hz : L2N.Zn cls d oe) (hf : ∃ vs, oe.data = .fields vs) {p5 p6 p7 p8 : Pos} :
    PSs (X.suite a ((a, oe) :: pn)) [.Return (some (.Call (.Name "_law_names" p5) [.Name LE.en p6] [] p7)) p8]
      (fun D σ H => ∃ c C, c ∈ cs ∧ X.mg c = some (.ref C) ∧ cls = .ref C ∧ σ[1]? = some (some (.ref a)) ∧ DOk d H ∧ ∀ H', Kp H H' → D.rt (.str (nmOf c)) H') := by
  refine PSs.imp (pss_one (ps_ret (te := fun σ H Q => ∃ c C, c ∈ cs ∧ X.mg c = some (.ref C) ∧ cls = .ref C ∧ σ[1]? = some (some (.ref a)) ∧ DOk d H ∧ ∀ H', Kp H H' → Q (.str (nmOf c)) H') ⟨fun pins s σ H Q I ⟨c, C, hc, hm, ec, es, hd, hq⟩ => ?_⟩)) fun D σ H h => h
  have gN : Gl (X.suite a ((a, oe) :: pn)) "_law_names" := by show X.env.scope.names.lookup _ = _; rw [hsc]; exact LE.gN
  have ha : PA (X.suite a ((a, oe) :: pn)) [.Name LE.en p6] (tCons (tVar 1) tNil) := pa_cons (pe_var (i := 1) (by rw [hN]; exact LE.N1) (.inl (by rw [hsc]; exact LE.le)) LE.de LE.ce) pa_nil
  refine wpAny_Call_Name_kw (ld_glob I gN LE.mN ?_ (by decide))
  refine PySem.W.callWith_K (h₀ := X.base) I.ok.mod.kin LE.Fn.kp (thn (ha.run p7 pins s σ H (fun vs H1 => vs = [V.ref a] ∧ H1 = H) I ⟨_, es, rfl, rfl⟩) fun us s1 ⟨vs, H1, I1, r, ev, eH⟩ => ⟨I1.kIn, ?_⟩) (by rfl) (by rfl)
  subst ev eH
  obtain ⟨u, rfl, ru⟩ := vals1 r
  obtain rfl : u = Value.ref a := ru
  obtain ⟨C', hm', _, hb⟩ := LE.cls c hc
  have e2 : C' = C := by rw [hm] at hm'; cases hm'; rfl
  subst e2 ec
  exact run_names (X := X.suite a ((a, oe) :: pn)) (k := k) LE.Fn LE.Sn LE.N5 ⟨hr.dp, hr.un⟩ ⟨List.mem_cons_self, hz, hf, rfl⟩ LE.bn (fun A outer s H E hh => hb a d oe hz hf A outer s H E hh) I1 hd hq
end
end Mi
set_option maxHeartbeats 4000000
namespace Mi
open PySem PySem.Spec PyProof.Rows L2 HotX L2H LamX
section
variable {X : Cx} {W : WX} {cs : List Str}
theorem r_err {c P : Addr} {q : Str} {A : DE} {k : Nat} {params : Arguments} {body : Expr} {scope : Scope} {p lpos pos : Pos} (LE : ErrD X.prog X.w X.K X.mg X.base cs) (TB : TabB X.base X.mg c P) (hcode : X.env.code = .ref c) (hq : q = X.env.qual ++ "<lambda>") (hr : Room (k + 2) X.A)
    (L : LamS X.env.scope scope) (hbind : ∀ (q : Str) (cl : List (Str × Addr)) (pm cv ctv : Value), bindArgs (PySem.W.kla_fn "<lambda>" q params body scope cl pm cv ctv) ⟨[], []⟩ = pure [])
    (hbody : ∀ (A' : Around) (outer : List Env) (s : Shared) (H : Hp) (E : XK) (f c' : Addr), Room k (A'.deeper (lamEnv X scope s.heap.objs.size f c')) → L2N.Takes (lamN X A' outer s H E scope f c') (fun cls d _ H => E cls d H) → PEv (lamN X A' outer s H E scope f c') (fun cls d _ H => E cls d H) body A)
    (hdef : defaultsOf params X.env = ([], []) := by rfl) (hg : Gl X "_law_error" := by rfl) : PEv X W (.Call (.Name "_law_error" p) [.Lambda params body scope lpos] [] pos) (dErr cs P q A) := by
  refine ⟨fun pins s σ H Q I ⟨m, ρ, S, R, h⟩ => ?_⟩
  unfold dErr at h
  split at h
  case isFalse => exact h.elim
  rename_i hS
  obtain ⟨hmT, hu⟩ := tab_of R.s hS
  subst hq
  refine wpAny_Call_Name_kw (ld_glob I hg LE.mG ?_ (by decide))
  refine PySem.W.callWith_K (h₀ := X.base) I.ok.mod.kin LE.Fg.kp ?_ (by rfl) (by rfl)
  show wpAny _ _ (spliced ((false, eval (.Lambda params body scope lpos) X.env) :: backTo pos (starEach [] X.env))) _ _ s
  refine Calls.spliced_cons (lam_make2 I TB hcode hmT hu R.s.tabs hdef (L.has I.ok) fun f c' pm' ctv H1 s' I1 eN T1 hf hfn hfr hco => ?_)
  refine Calls.spliced_nil ⟨I1.kIn, ?_⟩
  obtain ⟨oc, od, kV, doc, pm, an, cdv, ct, osl, efd, lk, hcd⟩ := LE.Fg.ex
  have R1 : Rd0 (Gx.of X) m ρ S σ H1 := R.ext (Ext.nt eN) (R.s.nt eN T1)
  have hlen : 1 < LE.Ng.length := (List.getElem?_eq_some_iff.mp LE.N1).1
  have b := LE.bg s' [.ref f] I1.kIn rfl
  rw [List.append_nil] at b
  have rc : codeAny (model X.prog X.w) X.A (.call (.ref LE.g) ⟨[.ref f], []⟩) (CR C8.CX0 X.stack X.prog X.w H1 s' Q C8.E0) s' := by
    rw [efd] at b lk
    refine run_ofS (N := LE.Ng) (ps := [LE.a]) (us := [.ref f]) (vs := [.ref f]) lk hcd LE.Sg hr I1.env0 b (.cons rfl .nil) rfl fun hr' => ?_
    rw [LE.bodyG]
    have hN : (L2.start LE.Ng [V.ref f])[0]? = some (some (V.ref f)) := rfl
    refine ⟨_, pss_cons (L2N.ps_try_as (X := cxOf C8.CX0 X.prog X.w X.K X.mg X.base LE.Ng "_law_error" (defScope LE.stg) LE.g cdv X.A X.stack s' H1 C8.E0) (x := "StopError") (n := LE.en) (c := .ref LE.SE) (i := 1) (Wout := fun _ _ _ _ => False)
      (tb := fun Wt D σZ HZ => σZ[0]? = some (some (.ref f)) ∧ HZ c' = some (CodeO c' (X.env.qual ++ "<lambda>")) ∧ tev (Gx.of X) (fun cls d _ H' => Wt cls d σZ H') A σ HZ (fun _ H2 => D.nx σZ H2))
      (ts := fun a cls d D σ H => ∃ c C, c ∈ cs ∧ X.mg c = some (.ref C) ∧ cls = .ref C ∧ σ[1]? = some (some (.ref a)) ∧ DOk d H ∧ ∀ H', Kp H H' → D.rt (.str (nmOf c)) H')
      rfl rfl LE.Sg.nd LE.N1 LE.le ⟨LE.gS, by decide, .inl LE.mS⟩ takesN0 (fun Wt pn xe tk _ => ?_) (fun a oe cls d pn hz hf => names_call (X := cxOf C8.CX0 X.prog X.w X.K X.mg X.base LE.Ng "_law_error" (defScope LE.stg) LE.g cdv X.A X.stack s' H1 C8.E0) (k := k) LE rfl rfl hr' hz hf))
      (pss_one (ps_ret pe_str)), hN, hco, m, ρ, S, R1, ?_⟩
    · exact pss_one (ps_expr (act_N (t := fun E σ H Q => tev (Gx.of X) (fun cls d _ H => E cls d H) A σ H Q) I1 L hf hfn hfr (hbind _ _ _ _ _) tk hr' (fun A' outer s H E hr2 => hbody A' outer s H E f c' hr2 (L2N.takes_of rfl rfl rfl rfl)) LE.N0 LE.va LE.da LE.ca))
    · revert h
      cases A ρ S with
      | bad => exact fun z => z
      | ok v S1 => exact fun h m' H' v e r _ => h m' H' (.str "") ((Ext.nt eN).trans e) r rfl
      | err c f S1 =>
        intro h m' H' cls d e r rx
        simp only at h
        split at h
        case isFalse => exact h.elim
        rename_i hc
        obtain ⟨C, hm, rfl, hd⟩ := rx
        obtain ⟨C', hm', hx, _⟩ := LE.cls c hc
        have e2 : C' = C := by rw [show X.mg c = some (.ref C) from hm] at hm'; cases hm'; rfl
        subst e2
        refine ⟨true, hx, fun _ a na => ⟨c, C', hc, hm, rfl, ?_, ?_, fun H2 kp => h m' H2 _ ((Ext.nt eN).trans (e.trans (Ext.same kp))) (r.same kp) rfl⟩, fun z => by cases z⟩
        · rw [List.getElem?_set_self (by unfold L2.start; simp; omega)]
        · cases f with
          | none => exact .inl hd
          | some np => obtain ⟨dx, v, h1, h2, _⟩ := hd; exact .inr ⟨dx, _, h1, h2⟩
  refine wpAny_call (codeAny_mono rc fun r s2 hq => ?_)
  cases r with
  | error e => exact (show False from hq).elim
  | ok fl =>
    cases fl with
    | ret u => exact I1.after hq
    | next => exact False.elim hq
    | brk => exact False.elim hq
    | cont => exact False.elim hq
end
end Mi
set_option maxHeartbeats 4000000
namespace Mi
open PySem PySem.Spec PyProof.Rows L2 HotX L2H LamX
/-- what the head tells: facts fa, defs fn -/
structure Tx (fa : List He.Fa) (fn : List He.DefD) (K : PySem.W.Frag) (mg : Str → Option Value) : Prop where
  gl : ∀ x, He.Fa.glo x ∈ fa → mg x = some (.ref (He.ga K x))
  fr : ∀ x, He.Fa.free x ∈ fa → mg x = none
  it : ∀ x i, He.Fa.int x i ∈ fa → ∃ t, mg x = some (.int i t)
  ft : ∀ f, f ∈ fa → f.ok K = true
  df : ∀ d, d ∈ fn → ∃ fd, FunD K d.name d.qual d.params d.body d.scope (d.dvs K) (d.kws K) (He.fAd K d.at_) fd
theorem Tx.of {fa : List He.Fa} {fn : List He.DefD} {K : PySem.W.Frag} {mg : Str → Option Value} {h : Heap} (KX : K.In h) (G : h.Ns mainGlobals mg) (c : He.SaysD fa fn K) : Tx fa fn K mg :=
  ⟨fun x hx => He.glo_ok KX G (c.facts hx), fun x hx => He.free_ok KX G (c.facts hx), fun x i hx => He.int_ok KX G (c.facts hx), fun f hf => c.facts hf, fun d hd => c.defs hd⟩
/-- a def of the top, as the head wants it -/
abbrev dOf (x : Str) (st : Stmt) : He.DefD := ⟨(x, none), x, x, defArgs st, defBody st, defScope st, [], []⟩
theorem funD_fun {K : PySem.W.Frag} {x qual : Str} {st : Stmt} {f : Addr} {fd : FuncData} (F : FunD K x qual (defArgs st) (defBody st) (defScope st) [] [] f fd) : Fun K x qual st f fd := by
  obtain ⟨⟨oc, od, dV, kV, doc, pm, an, cdv, ct, osl, e, lk, hcd, hd, _⟩, kp⟩ := F
  have hV : dV = .none := hd.elim (fun z => z.2) fun z => absurd rfl z.1
  subst hV
  exact ⟨⟨oc, od, kV, doc, pm, an, cdv, ct, osl, e, lk, hcd⟩, kp⟩
/-- the def x keeps the promise F, at the level k -/
structure DefOk (P : Program) (w : World) (K : PySem.W.Frag) (mg : Str → Option Value) (base : Heap) (k : Nat) (x : Str) (n : Nat) (F : Fn) : Prop where
  ex : ∃ f fd ps, FnOk P w K mg base (L2N.CX P w) k f fd ps (spF ⟨P, w, K, mg⟩ n F) ∧ mg x = some (.ref f) ∧ PySem.W.keepIn K (.ref f) = true ∧ Binds K fd ps []
theorem def_ok {fa : List He.Fa} {fn : List He.DefD} {P : Program} {w : World} {K : PySem.W.Frag} {mg : Str → Option Value} {base : Heap} {x : Str} {st : Stmt} {N ps : List Str} {k : Nat} {B : DS} (T : Tx fa fn K mg) (hd : dOf x st ∈ fn) (hx : He.Fa.glo x ∈ fa) (S : FnScope N ps (defScope st))
    (hb : ∀ (kV doc pm : Value) (an : Option Addr) (cdv ct : Value) (us : List Value), us.length = ps.length → bindArgs (PySem.W.fnOf x x (defArgs st) (defBody st) (defScope st) .none kV doc pm an cdv ct) ⟨us, []⟩ = pure (ps.zip us))
    (hbody : ∀ (fd : FuncData) (A : Around) (outer : List Env) (s : Shared) (H : Hp) (E : XK), FunD K x x (defArgs st) (defBody st) (defScope st) [] [] (He.ga K x) fd → Room k (A.deeper (envOfC x (defScope st) s.heap.objs.size (He.ga K x) fd.code)) → L2N.Takes (cxOf (L2N.CX P w) P w K mg base N x (defScope st) (He.ga K x) fd.code A outer s H E) (fun cls d _ H => E cls d H) →
      PSs (cxOf (L2N.CX P w) P w K mg base N x (defScope st) (He.ga K x) fd.code A outer s H E) (defBody st) (tevS ⟨P, w, K, mg⟩ (fun cls d _ H => E cls d H) B)) :
    DefOk P w K mg base (k + 1) x ps.length (dFun ps.length N.length B) := by
  obtain ⟨fd, F⟩ := T.df _ hd
  have F : FunD K x x (defArgs st) (defBody st) (defScope st) [] [] (He.ga K x) fd := F
  exact ⟨_, fd, ps, fnok (funD_fun F) S (fun A outer s H E hr tk => hbody fd A outer s H E F hr tk), T.gl x hx, F.kp, F.bindsN hb⟩
section
variable {X : Cx} {W : WX} {pos : Pos} {A B C : DE} {a b c tg : Expr} {es rest : List Expr} {As : DA} {T T' : DT}
theorem r_callD {x : Str} {k n : Nat} {F : Fn} {p : Pos} (Fk : DefOk X.prog X.w X.K X.mg X.base k x n F) (tk : L2N.Takes X W) (hr : Room k X.A) (hF : Ar n F) (ha : PAv X W (a :: es) As) (hg : Gl X x := by rfl) (hdb : (x == ("__debug__" : Str)) = false := by decide) (he : starEach (a :: es) X.env = (false, eval a X.env) :: starEach es X.env := by rfl)
    (hpl : (backTo pos (starEach es X.env)).any (·.1) = false := by rfl) : PEv X W (.Call (.Name x p) (a :: es) [] pos) (dCall F As) := by
  obtain ⟨f, fd, ps, hf, hm, hk, hb⟩ := Fk.ex
  exact r_call hf tk hr hm hk hb hF ha hg hdb he hpl
def dNeg (A : DE) : DE := fun ρ S => (A ρ S).bind fun x S1 => match x with
  | .pv (.int i) => .ok (.pv (.int (-i))) S1
  | _ => .bad
theorem r_neg (ha : PEv X W a A) : PEv X W (.UnaryOp .USub a pos) (dNeg A) := PE.imp (pe_un un_neg ha) fun σ H Q q => tev_get (tev_top q) fun v H' ⟨m1, S1, x, s1, r1, h1⟩ => by
  split at h1
  · exact ⟨_, r1, post_ok h1 s1 rfl⟩
  · exact h1.elim
/-- two values -/
theorem tev2 {k : Val → Val → Sto → Res (List Val)} {σ : L2.St} {H : Hp} {R : It → Hp → Prop} (h : tevI (Gx.of X) W (fun ρ S => (A ρ S).bind fun x S1 => (B ρ S1).bind fun y S2 => k x y S2) σ H R) :
    tev (Gx.of X) W A σ H fun u H1 => tev (Gx.of X) W B σ H1 fun v H2 => ∃ m S x y, RepS X.prog X.w X.K m H2 S ∧ RepV X.prog X.w X.K m H2 X.mg x u ∧ RepV X.prog X.w X.K m H2 X.mg y v ∧ PostI (Gx.of X) W σ m H2 (k x y S) R := by
  obtain ⟨m, ρ, S, R0, h⟩ := h
  refine ⟨m, ρ, S, R0, ?_⟩
  have h : PostI (Gx.of X) W σ m H ((A ρ S).bind _) R := h
  revert h
  cases A ρ S with
  | err c f S => exact fun z => z
  | bad => exact fun z => z
  | ok x S1 =>
    intro h m1 H1 u e s r
    refine ⟨m1, ρ, S1, R0.ext e s, ?_⟩
    have h : PostI (Gx.of X) W σ m1 H1 ((B ρ S1).bind _) R := PostI.ext (G := Gx.of X) h e
    revert h
    cases B ρ S1 with
    | err c f S => exact fun z => z
    | bad => exact fun z => z
    | ok y S2 => exact fun h m2 H2 v e2 s2 r2 => ⟨m2, S2, x, y, s2, RepV.ext r s.mok e2, r2, PostI.ext (G := Gx.of X) h e2⟩
theorem i_rng2 {p : Pos} (hm : X.mg "range" = none) (ha : PEv X W a A) (hb : PEv X W b B) (hg : Gl X "range" := by rfl) (hs : starEach [a, b] X.env = [(false, eval a X.env), (false, eval b X.env)] := by rfl) (hs2 : starEach [b] X.env = [(false, eval b X.env)] := by rfl) :
    PIv X W tg (.Call (.Name "range" p) [a, b] [] pos) (dRng2 A B) :=
  PI.imp (pi_range2 hg hm (pa_cons ha (pa_cons hb pa_nil hs2) (by rw [hs, hs2])) hs hs2) fun σ H R h => tev_get (tev2 h) fun u H1 q => tev_get q fun v H2 ⟨m, S, x, y, s, rx, ry, q2⟩ => by
    split at q2
    · rename_i i j
      rw [rngOf_eq] at q2
      unfold rngRaw at q2
      split at q2
      · rename_i hz
        simp only [Bool.and_eq_true, decide_eq_true_eq] at hz
        cases rx; cases ry
        exact ⟨i, j, rfl, ⟨hz.1.1.1, hz.1.1.2, hz.1.2, hz.2⟩, q2 m H2 _ (Ext.refl _ _) s jok_rng⟩
      · exact q2.elim
    · exact q2.elim
def dPar3 (i j l : Nat) (As : DA) : DS := fun ρ S => (As ρ S).s ρ fun xs S1 => match xs with
  | [x, y, z] => .next (((ρ.set i (some x)).set j (some y)).set l (some z)) S1
  | _ => .bad
theorem s_par3 {i j l : Nat} {x y z : Str} {px py pz pt : Pos} {kt k2 pt2} (hc : X.calm = true) (hN : X.N.Nodup) (hij : i ≠ j) (hil : i ≠ l) (hjl : j ≠ l) (ha : PAv X W [a, b, c] As)
    (hw : swappedStores [.Tuple [.Name x px, .Name y py, .Name z pz] kt pt] (.Tuple [a, b, c] k2 pt2) X.env = pure (some [x, y, z]) := by rfl) (hi : X.N[i]? = some x := by rfl) (hj : X.N[j]? = some y := by rfl) (hl : X.N[l]? = some z := by rfl)
    (hx : X.env.scope.names.lookup x = some .local := by rfl) (hy : X.env.scope.names.lookup y = some .local := by rfl) (hz : X.env.scope.names.lookup z = some .local := by rfl)
    (hs : swapsWithSole [.Tuple [.Name x px, .Name y py, .Name z pz] kt pt] (.Tuple [a, b, c] k2 pt2) pos.line X.env = pure false := by rfl) : PSv X W (.Assign [.Tuple [.Name x px, .Name y py, .Name z pz] kt pt] (.Tuple [a, b, c] k2 pt2) pos) (dPar3 i j l As) :=
  PS.imp (ps_par3 (pos := pos) hc hN hi hj hl hij hil hjl hx hy hz ha hw hs) fun D σ H h => tevA_get (tevSA_top (k := fun ρ xs S1 => match xs with | [x, y, z] => .next (((ρ.set i (some x)).set j (some y)).set l (some z)) S1 | _ => .bad) h) fun us H1 ⟨m1, S1, xs, ρ, R, r, h⟩ => by
    split at h
    · obtain ⟨u, us, rfl, r1, u2, us2, rfl, r2, u3, us3, rfl, r3, r4⟩ := r
      cases r4
      exact ⟨u, u2, u3, rfl, h m1 H1 _ (Ext.refl _ _) (((R.set i r1).set j r2).set l r3)⟩
    · exact h.elim
end
end Mi
set_option maxHeartbeats 4000000
namespace Mi
open PySem PySem.Spec PyProof.Rows L2 HotX L2H LamX
theorem M {α : Type} {l : List α} {x : α} (i : Nat) (h : l[i]? = some x := by rfl) : x ∈ l := List.mem_of_getElem? h
theorem hu64 {k : Nat} {A : Around} (r : Room k A) : A.units + 64 < cLine := by have := r.un; omega
theorem hu65 {k : Nat} {A : Around} (r : Room k A) : A.units + 65 < cLine := by have := r.un; omega
abbrev b2max : Fn := b2 fun i j => if j > i then j else i
abbrev b2min : Fn := b2 fun i j => if j < i then j else i
abbrev tCd (K : PySem.W.Frag) (x : Str) : Addr := (He.cT K (x, none)).1
abbrev tP (K : PySem.W.Frag) (x : Str) : Addr := (He.cT K (x, none)).2
/-- a comprehension's scope, by a Bool -/
def blkB (N : List Str) (sc scope : Scope) (own : List (Str × Nat)) : Bool :=
  decide (scope.kind = .function) && scope.names.all (fun y => decide (scope.names.lookup y.1 = some y.2)) && own.all (fun p => decide (N[p.2]? = some p.1)) && scope.names.all (fun y => !decide (y.2 = .free) || decide (sc.names.lookup y.1 = some .cell) || decide (sc.names.lookup y.1 = some .free)) &&
    scope.names.all fun y => !(decide (y.2 = .local) || decide (y.2 = .cell)) || decide (y.1 ∈ own.map (·.1)) || decide (y.1 ∉ N)
theorem blk_by {N : List Str} {sc scope : Scope} {own : List (Str × Nat)} (h : blkB N sc scope own = true) : BlkOk N sc scope own := by
  unfold blkB at h
  simp only [Bool.and_eq_true, Bool.or_eq_true, Bool.not_eq_true', decide_eq_true_eq, decide_eq_false_iff_not, List.all_eq_true] at h
  obtain ⟨⟨⟨⟨h1, h2⟩, h3⟩, h4⟩, h5⟩ := h
  refine ⟨h1, h2, h3, fun y hy e => ?_, fun y hy e => ?_⟩
  · rcases h4 y hy with (z | z) | z
    · exact absurd e z
    · exact .inl z
    · exact .inr z
  · rcases h5 y hy with (z | z) | z
    · exact absurd e (by simpa [Bool.or_eq_false_iff] using z)
    · exact .inl z
    · exact .inr z
theorem def_bad {fa : List He.Fa} {fn : List He.DefD} {P : Program} {w : World} {K : PySem.W.Frag} {mg : Str → Option Value} {base : Heap} {x : Str} {st : Stmt} {ps : List Str} {k n : Nat} (T : Tx fa fn K mg) (hd : dOf x st ∈ fn) (hx : He.Fa.glo x ∈ fa)
    (hb : ∀ (kV doc pm : Value) (an : Option Addr) (cdv ct : Value) (us : List Value), us.length = ps.length → bindArgs (PySem.W.fnOf x x (defArgs st) (defBody st) (defScope st) .none kV doc pm an cdv ct) ⟨us, []⟩ = pure (ps.zip us)) : DefOk P w K mg base k x n fun _ _ => .bad := by
  obtain ⟨fd, F⟩ := T.df _ hd
  have F : FunD K x x (defArgs st) (defBody st) (defScope st) [] [] (He.ga K x) fd := F
  exact ⟨_, fd, ps, ⟨fun vs H Q E ⟨_, m, S, xs, _, _, h⟩ => h.elim, fun A outer s H args us vs Q E _ _ _ _ ⟨_, m, S, xs, _, _, h⟩ => h.elim⟩, T.gl x hx, F.kp, F.bindsN hb⟩
section
variable {X : Cx} {W : WX} {pos : Pos} {A B C : DE} {a b c tg : Expr} {es rest : List Expr} {As : DA} {T T' : DT}
theorem r_gintE {x : Str} {i : Int} (hg : Gl X x) (hm : ∃ t, X.mg x = some (.int i t)) (hd : (x == ("__debug__" : Str)) = false := by decide) : PEv X W (.Name x pos) (dC (.int i)) := by
  obtain ⟨t, h⟩ := hm
  exact r_gint hg h hd
theorem s_raiseE {x mt : Str} {j : Nat} {p p2 p3 : Pos} (hc : X.calm = true) (tk : L2N.Takes X W) (f : (He.Fa.exc x).ok X.K = true) (gC : X.mg x = some (.ref (He.ga X.K x))) (hg : Gl X x := by rfl) (hdb : (x == ("__debug__" : Str)) = false := by decide) :
    PSv X W (.Raise (some (.Call (.Name x p) [.Constant (.str mt) j p2] [] p3)) none pos) (dRaise x) := by
  obtain ⟨h1, h2, h3, h4⟩ := He.exc_ok f
  exact s_raise hc tk h1 gC h2 (raises_own h3 h4) hg hdb
/-- the object of a slot, from now on data -/
theorem r_fz (i : Nat) {x : Str} (hN : X.N[i]? = some x := by rfl) (hv : Vis X.env.scope x := by first | exact Or.inl rfl | exact Or.inr (Or.inl rfl) | exact Or.inr (Or.inr rfl)) (hd : (x == ("__debug__" : Str)) = false := by decide)
    (hcd : (x == ("__classdict__" : Str)) = false := by decide) : PEv X W (.Name x pos) (dFz i) := PE.imp (pe_var (i := i) hN hv hd hcd) fun σ H Q ⟨m, ρ, S, R, h⟩ => by
  unfold dFz at h
  have key : ∀ {l : Nat} {o : Ob} {p : PyData}, ρ[i]? = some (some (.loc l)) → S[l]? = some o → (¬ Gst m o) → (∀ (a : Addr), m.st[l]? = some (some a) → RepO X.prog X.w X.K m H a o → Rep X.prog X.w X.K { m with st := m.st.set l none } H p (.ref a)) →
      PostE (Gx.of X) W σ m H (.ok (.pv p) (S.set l .dead)) Q → ∃ v, σ[i]? = some (some v) ∧ Q v H := by
    intro l o p e eo ng hr hq
    obtain ⟨v, e1, r⟩ := R.e.at_ i _ e
    obtain ⟨a, ea, rfl, q⟩ := loc_at R.s r eo ng
    have hlt : l < m.st.length := r.1
    have get : ∀ {j : Nat} {b : Addr}, (m.st.set l none)[j]? = some (some b) → m.st[j]? = some (some b) := fun {j b} z => by
      by_cases hj : l = j
      · subst hj; rw [List.getElem?_set_self hlt] at z; cases z
      · rwa [List.getElem?_set_ne hj] at z
    have mem : ∀ {b : Addr}, some b ∈ m.st.set l none → some b ∈ m.st := fun {b} z => by
      obtain ⟨j, hj⟩ := List.mem_iff_getElem?.mp z
      exact List.mem_of_getElem? (get hj)
    have g : Go X.prog X.w X.K m H { m with st := m.st.set l none } H := Go.less fun b (z : some b ∈ m.st.set l none ∨ b ∈ m.av) => z.imp mem id
    refine ⟨_, e1, hq { m with st := m.st.set l none } H _ ⟨fun _ _ h _ _ => h, fun b z => .inl (mem z), fun _ h => .inl (.inr h), fun _ h => h, rfl, by simp, fun j b _ z => get z⟩ ?_ (hr a ea q)⟩
    refine ⟨by simp [R.s.len], fun b hb => ⟨fun z => (R.s.av b hb).1 (mem z), (R.s.av b hb).2⟩, R.s.tabs, fun j k b hj hk => R.s.nd j k b (get hj) (get hk), fun j o' ej => ?_⟩
    by_cases hj : l = j
    · subst hj
      rw [List.getElem?_set_self (by rw [← R.s.len]; exact hlt)] at ej
      cases ej
      exact .inl ⟨trivial, by rw [List.getElem?_set_self hlt]⟩
    · rw [List.getElem?_set_ne hj] at ej
      rcases R.s.ob j o' ej with ⟨z1, z2⟩ | ⟨b, eb, z⟩
      · refine .inl ⟨?_, by rw [List.getElem?_set_ne hj]; exact z2⟩
        cases o' <;> exact z1
      · refine .inr ⟨b, by rw [List.getElem?_set_ne hj]; exact eb, ?_⟩
        cases o' with
        | lst xs => obtain ⟨us, e1, z⟩ := z; exact ⟨us, e1, Reps.go g xs us z⟩
        | dct kvs => obtain ⟨xs, e1, y, zz, d, z⟩ := z; exact ⟨xs, e1, y, zz, d, RepK.go g kvs xs.l z⟩
        | dead => exact z
        | tab _ _ => exact z
  have less : ∀ (l : Nat) (a : Addr), m.st[l]? = some (some a) → l < m.st.length → ¬ Mp.has { m with st := m.st.set l none } a := fun l a ea hlt z => by
    rcases z with z | z
    · obtain ⟨j, hj⟩ := List.mem_iff_getElem?.mp z
      have hj : (m.st.set l none)[j]? = some (some a) := hj
      by_cases e : l = j
      · subst e; rw [List.getElem?_set_self hlt] at hj; cases hj
      · rw [List.getElem?_set_ne e] at hj; exact e (R.s.nd l j a ea hj)
    · exact (R.s.av a z).1 (List.mem_of_getElem? ea)
  have gg : ∀ l, Go X.prog X.w X.K m H { m with st := m.st.set l none } H := fun l => Go.less fun b (z : some b ∈ m.st.set l none ∨ b ∈ m.av) => z.imp (fun z => by
    obtain ⟨j, hj⟩ := List.mem_iff_getElem?.mp z
    by_cases e : l = j
    · subst e
      rw [List.getElem?_set] at hj
      simp at hj
    · rw [List.getElem?_set_ne e] at hj; exact List.mem_of_getElem? hj) id
  split at h
  · rename_i l e
    split at h
    · rename_i xs es
      refine key e es (fun z => z) (fun a ea ⟨us, hl, hr⟩ => ?_) h
      exact ⟨a, us, rfl, hl, less l a ea (List.getElem?_eq_some_iff.mp ea).1, Reps.go (gg l) _ _ hr⟩
    · rename_i kvs es
      refine key e es (fun z => z) (fun a ea ⟨xs, h1, h2, h3, h4, h5⟩ => ?_) h
      exact ⟨a, xs, rfl, less l a ea (List.getElem?_eq_some_iff.mp ea).1, h1, h2, h3, h4, RepK.go (gg l) _ _ h5⟩
    · exact h.elim
  · rename_i p e
    obtain ⟨v, e1, r⟩ := R.e.at_ i _ e
    exact ⟨v, e1, post_ok h R.s r⟩
  · exact h.elim
end
end Mi
set_option maxHeartbeats 4000000
namespace Mi
open PySem PySem.Spec PyProof.Rows L2
section
variable {prog : Program} {w : World} {A : Around} {E : Value → Shared → Prop} {s : Shared}
theorem slicePart_minus {t : Tok} {Q : Option Int → Shared → Prop} (h : Q (some (-1)) s) : wpAny (model prog w) A (Builtin.Slice.slicePartIndex (.int (-1) t)) Q E s := HT.slicePart_ (.int (-1) t) h
theorem pick_rev (xs : Array Value) : ((List.range xs.size).filterMap fun (m : Nat) => xs[(((xs.size : Int) - 1) + (m : Int) * (-1)).toNat]?).toArray = xs.toList.reverse.toArray := by
  have key : ∀ n (f g : Nat → Option Value), (∀ m, m < n → f m = g m) → (List.range n).filterMap f = (List.range n).filterMap g := by
    intro n
    induction n with
    | zero => intro f g _; rfl
    | succ n ih =>
      intro f g h
      rw [List.range_succ, List.filterMap_append, List.filterMap_append, ih f g fun m hm => h m (Nat.lt_succ_of_lt hm)]
      simp only [List.filterMap_cons, List.filterMap_nil, h n (Nat.lt_succ_self n)]
  have e : (List.range xs.size).filterMap (fun (m : Nat) => xs[(((xs.size : Int) - 1) + (m : Int) * (-1)).toNat]?) = (List.range xs.size).filterMap fun k => xs[xs.size - 1 - k]? :=
    key _ _ _ fun m hm => by
      have e2 : (((xs.size : Int) - 1) + (m : Int) * (-1)).toNat = xs.size - 1 - m := by omega
      rw [e2]
  rw [e]
  have h := PySem.W.krv_all xs
  have h2 := congrArg List.reverse h
  rw [← List.filterMap_reverse, ← PySem.W.krv_range, List.filterMap_map] at h2
  have e3 : ((fun x => xs[x]?) ∘ fun k => xs.size - 1 - k) = fun k => xs[xs.size - 1 - k]? := rfl
  rw [e3] at h2
  rw [h2]
theorem getItem_tuple_rev {t sl : Addr} {items : Array Value} {vl vu vs : Value} {Q : Value → Shared → Prop} (ht : IsTup s.heap t items) (hs : s.heap.IsSliceOf sl vl vu vs) (pl : IsPart vl none) (pu : IsPart vu none) (ps : IsPart vs (some (-1)))
    (h : Q (.ref s.heap.objs.size) { s with heap := s.heap.push { cls := .type "tuple", data := .seq items.toList.reverse.toArray } })
    (hsz : items.size ≤ sizeLine) : wpAny (model prog w) A (getItem (.ref t) (.ref sl)) Q E s := by
  have htake : sizeOk (.seq items.toList.reverse.toArray) := by
    show items.toList.reverse.toArray.size ≤ sizeLine
    simpa using hsz
  obtain ⟨os, hos, hcs, hds⟩ := id hs
  have hTs : s.TypeIs (.ref sl) "slice" := ⟨os, hos, hcs⟩
  unfold getItem
  try with_reducible refine wpAny_holding ?_
  first | refine wpAny_bind (wpAny_pure ?_) | skip
  refine wpAny_bind (wpAny_sequenceKey ht.typeIs (by decide) ?_)
  refine wpAny_bind (wpAny_callSpecial?_slot (name := Str.ofString "__getitem__") ht.typeIs PyProof.Rows.slot_tuple_getitem
    (wpAny_call_entry PyProof.Rows.slot_tuple_getitem ht.typeIs entry_tuple_getitem ?_ (args_tuple_getitem _ _)))
  show wpAny _ _ (Builtin.Tuple.tupleItemsOf (.ref t) >>= _) _ _ s
  refine wpAny_bind (PyProof.Rows.tupleItemsOf_ ht ?_)
  refine wpAny_bind (wpAny_typeOf hTs ?_)
  rw [if_pos (by decide)]
  have app : ∀ {Q : Int × Int × Nat → Shared → Prop}, Q (((items.size : Int) - 1), -1, items.size) s → wpAny (model prog w) A.in1 (Builtin.Slice.sliceApplied (.ref sl) (pure (items.size : Int))) Q E s := by
    intro Q q
    unfold Builtin.Slice.sliceApplied Builtin.Slice.sliceFields
    refine wpAny_bind (wpAny_bind (wpAny_field hos hds (x := vl) rfl (wpAny_bind (wpAny_field hos hds (x := vu) rfl (wpAny_bind (wpAny_field hos hds (x := vs) rfl (wpAny_pure ?_)))))))
    refine wpAny_bind (HT.slicePart_ ps ?_)
    show wpAny _ _ (if ((-1 : Int) == 0) = true then _ else _) _ _ s
    rw [if_neg (by decide)]
    refine wpAny_bind (HT.slicePart_ pl (wpAny_bind (HT.slicePart_ pu (wpAny_bind (wpAny_pure ?_)))))
    show wpAny _ _ (match Builtin.Slice.sliceAdjust none none (-1) (items.size : Int) with | (lo, hi) => pure (lo, (-1 : Int), Builtin.Slice.slicePlaces lo hi (-1))) _ _ s
    have e1 : Builtin.Slice.sliceAdjust none none (-1) (items.size : Int) = ((items.size : Int) - 1, -1) := by
      unfold Builtin.Slice.sliceAdjust
      first | rfl | simp
    have e2 : Builtin.Slice.slicePlaces ((items.size : Int) - 1) (-1) (-1) = items.size := by
      unfold Builtin.Slice.slicePlaces
      have h1 : ¬ ((-1 : Int) > 0) := by omega
      have h3 : ((items.size : Int) - 1 - -1 - 1) / (- -1) = (items.size : Int) - 1 := by
        rw [show (- -1 : Int) = 1 by decide, Int.ediv_one]; omega
      simp only [h1, if_false, h3]
      split <;> omega
    rw [e1]
    show wpAny _ _ (pure ((items.size : Int) - 1, (-1 : Int), Builtin.Slice.slicePlaces ((items.size : Int) - 1) (-1) (-1))) _ _ s
    rw [e2]
    exact wpAny_pure q
  refine wpAny_bind (app ?_)
  have hno : ¬ ((((items.size : Int) - 1) == 0 && (-1 : Int) == 1 && items.size == items.size) = true) := by
    intro q
    rw [Bool.and_eq_true, Bool.and_eq_true] at q
    exact absurd q.1.2 (by decide)
  show wpAny _ _ (if (((items.size : Int) - 1) == 0 && (-1 : Int) == 1 && items.size == items.size) = true then _ else _) _ _ s
  rw [if_neg hno, pick_rev]
  first
    | exact wpAny_bind (m := Builtin.Tuple.tupleExact _) (wpAny_newObj_type (wpAny_pure ⟨_, rfl, wpAny_pure h⟩) htake)
    | exact wpAny_bind (m := Builtin.Tuple.tupleExact _) (wpAny_newObj_type (wpAny_bind (wpAny_pure (wpAny_pure ⟨_, rfl, wpAny_pure h⟩))) htake)
    | exact wpAny_bind (wpAny_bind (m := Builtin.Tuple.tupleExact _) (wpAny_newObj_type (wpAny_pure (wpAny_pure ⟨_, rfl, wpAny_pure h⟩)) htake))
    | exact wpAny_bind (wpAny_bind (m := Builtin.Tuple.tupleExact _) (wpAny_newObj_type (wpAny_pure ⟨_, rfl, wpAny_pure h⟩) htake))
end
/-- the name of a lambda in the def x -/
abbrev lamQ (x : Str) : Str := (x ++ ".<locals>.") ++ "<lambda>"
def dRev (A : DE) : DE := fun ρ S => (A ρ S).bind fun x S1 => match x.get S1 with
  | some (.tuple ps) => .ok (.pv (.tuple ps.reverse)) S1
  | some (.list ps) => .ok (.pv (.list ps.reverse)) S1
  | _ => .bad
section
variable {X : Cx} {W : WX} {pos : Pos} {A : DE}
def tRevA (K : PySem.W.Frag) (te : TE) : TE := fun σ H Q => te σ H fun x H1 => ∃ a xs, x = .ref a ∧ ((SqL K H1 a xs ∧ ∀ p, H1 p = none → Q (.ref p) (upd H1 p (.lst xs.reverse))) ∨ (SqT K H1 a xs ∧ ∀ p, H1 p = none → Q (.ref p) (upd H1 p (.tup xs.reverse))))
theorem pe_revA {e : Expr} {te : TE} {k : Nat} {p1 p2 p3 pos : Pos} (he : PE X e te) : PE X (.Subscript e (.Slice none none (some (.UnaryOp .USub (.Constant (.int 1) k p1) p2)) p3) pos) (tRevA X.K te) := by
  refine ⟨fun pins s σ H Q I h => ?_⟩
  refine Subscript_ (thn (he.run pins s σ H _ I h) fun v s1 ⟨x, H1, I1, r1, a, xs, ex, q⟩ => ?_)
  subst ex
  cases r1
  have hst : PO X (some (.UnaryOp .USub (.Constant (.int 1) k p1) p2)) (tPart (tUn (rU fun i => .int (-i)) (tC (.int 1)))) := po_some (pe_un un_neg pe_int)
  refine wpAny_Slice (thn (po_none.run pins s1 σ H1 (fun o H2 => o = none ∧ H2 = H1) I1 ⟨rfl, rfl⟩) fun vl s2 ⟨l, H2, I2, pl, el, e2⟩ => ?_)
  subst el e2
  refine thn (po_none.run pins s2 σ H2 (fun o H3 => o = none ∧ H3 = H2) I2 ⟨rfl, rfl⟩) fun vu s3 ⟨u, H3, I3, pu, eu, e3⟩ => ?_
  subst eu e3
  refine thn (hst.run pins s3 σ H3 (fun o H4 => o = some (-1) ∧ H4 = H3) I3 ⟨1, rfl, -1, rfl, rfl, rfl⟩) fun vs s4 ⟨o, H4, I4, ps, eo, e4⟩ => ?_
  subst eo e4
  have I5 : Inv X pins σ H4 { s4 with heap := s4.heap.push { cls := .type "slice", data := .fields #[vl, vu, vs] } } := I4.kept (t' := s4.toks) fun b ob q => Heap.get?_push_of_some _ q
  show wpAny (model X.prog X.w) X.A (subscriptTail e (.Slice none none (some (.UnaryOp .USub (.Constant (.int 1) k p1) p2)) p3) (.ref a) (.ref s4.heap.objs.size)) (EP X pins σ Q) X.xe { s4 with heap := s4.heap.push { cls := .type "slice", data := .fields #[vl, vu, vs] } }
  rcases q with ⟨hx, q⟩ | ⟨hx, q⟩
  · obtain ⟨its, r, ht, hz⟩ := I5.list hx
    have hlen := r.length
    refine tail_any (ops := [.ref a, .ref s4.heap.objs.size]) ht.isList.typeIs (PySem.slot_list_getitem.lookup) ?_ (by with_unfolding_all rfl)
    refine wpAny_getItem_list_slice ht.isList (Heap.IsSliceOf.new _ vl vu vs) pl pu ps (by decide) ?_ (by rw [List.size_toArray]; omega)
    rw [PySem.W.krv_pick]
    refine ⟨.ref _, _, I5.laid (t' := s4.toks) (o := .lst xs.reverse) (fun b ob q => Heap.get?_push_of_some _ q) (Nat.le_refl _) ?_, rfl, q _ (I5.hok.fresh (Nat.le_refl _))⟩
    exact ⟨by rw [List.length_reverse]; exact hz, _, 0, r.reverse, Heap.get?_push_size _ rfl⟩
  · obtain ⟨its, r, ht, hz⟩ := I5.tuple hx
    have hlen := r.length
    refine tail_any (ops := [.ref a, .ref s4.heap.objs.size]) ht.typeIs (PyProof.Rows.slot_tuple_getitem.lookup) ?_ (by with_unfolding_all rfl)
    refine getItem_tuple_rev ht (Heap.IsSliceOf.new _ vl vu vs) pl pu ps ?_ (by rw [List.size_toArray]; omega)
    refine ⟨.ref _, _, I5.laid (t' := s4.toks) (o := .tup xs.reverse) (fun b ob q => Heap.get?_push_of_some _ q) (Nat.le_refl _) ?_, rfl, q _ (I5.hok.fresh (Nat.le_refl _))⟩
    exact ⟨by rw [List.length_reverse]; exact hz, _, r.reverse, IsTup.new _ _⟩
theorem reps_rev {P : Program} {w : World} {K : PySem.W.Frag} {m : Mp} {H : Hp} : ∀ {ps : List PyData} {us : List V}, Reps P w K m H ps us → Reps P w K m H ps.reverse us.reverse
  | [], _, h => by cases h; rfl
  | p :: ps, _, ⟨u, r, e, h1, h2⟩ => by
    subst e
    rw [List.reverse_cons, List.reverse_cons]
    exact Reps.append (reps_rev h2) ⟨u, [], rfl, h1, rfl⟩
theorem r_rev {a : Expr} {k : Nat} {p1 p2 p3 : Pos} (ha : PEv X W a A) : PEv X W (.Subscript a (.Slice none none (some (.UnaryOp .USub (.Constant (.int 1) k p1) p2)) p3) pos) (dRev A) :=
  PE.imp (pe_revA ha) fun σ H Q q => tev_get (tev_top q) fun v H' ⟨m1, S1, x, s1, r1, h1⟩ => by
    split at h1
    · rename_i ps hp
      obtain ⟨a, us, rfl, hl, hr⟩ := peek r1 s1 hp
      exact ⟨a, us, rfl, .inr ⟨hl, fun p np => h1 m1 _ _ (Ext.upd np) (s1.upd np) ⟨p, _, rfl, SqT.of upd_same, reps_rev (Reps.go (Go.of s1.mok (Ext.upd np)) _ _ hr)⟩⟩⟩
    · rename_i ps hp
      obtain ⟨a, us, rfl, hl, hr⟩ := peek r1 s1 hp
      exact ⟨a, us, rfl, .inl ⟨SqL.of hl, fun p np => h1 m1 _ _ (Ext.upd np) (s1.upd np) ⟨p, _, rfl, upd_same, s1.notin np, reps_rev (Reps.go (Go.of s1.mok (Ext.upd np)) _ _ hr)⟩⟩⟩
    · exact h1.elim
/-- name = [..], the name a local -/
theorem s_setLc {i : Nat} {y : Str} {py : Pos} {elt tg iter : Expr} {ifs : List Expr} {scope : Scope} {own : List (Str × Nat)} {lpos : Pos} {Is : DI} {g : DG} {T : DT} {E : DE} (hc : X.calm = true) (hN : X.N.Nodup) (hi : PIv X W tg iter Is) (ok : BlkOk X.N X.env.scope scope own)
    (hg : ∀ (s : Shared) (H : Hp) (C : Addr) (cl : List (Str × Addr)) (fp : List Addr), PGv (X.blk s H scope (compEnvC scope cl C X.env) fp) (own.map (·.2)) tg g) (ht : ∀ (s : Shared) (H : Hp) (C : Addr) (cl : List (Str × Addr)) (fp : List Addr), PTsv (X.blk s H scope (compEnvC scope cl C X.env) fp) W0 ifs T)
    (he : ∀ (s : Shared) (H : Hp) (C : Addr) (cl : List (Str × Addr)) (fp : List Addr), PEv (X.blk s H scope (compEnvC scope cl C X.env) fp) W0 elt E) (hs : ∀ x, foldedSetIterable iter X.env x = pure x := by intro _; rfl)
    (hy : X.N[i]? = some y := by rfl) (hyl : X.env.scope.names.lookup y = some .local := by rfl) (hk : X.env.scope.kind = .function := by rfl) (hl : (py.line == lpos.line) = true := by rfl) (ha : (scope.names.any fun (n, k) => n == y && (k == .local || k == .cell)) = false := by decide +kernel) :
    PSv X W (.Assign [.Name y py] (.ListComp elt [⟨tg, iter, ifs, 0⟩] scope lpos) pos) (dSet i (dLc Is (own.map (·.2)) g T E)) :=
  PS.imp (ps_setLc hc hN hy hyl (sw_true hk hyl hl ha) hi ok hg ht he hs) fun D σ H h => lc_read (tev_get (tevS_top h) fun v H' ⟨m1, S1, x, ρ, R, r, h⟩ => h m1 H' _ (Ext.refl _ _) (R.set i r))
end
end Mi
set_option maxHeartbeats 4000000
namespace Mi
open PySem
/-- it ends well with Q, or raises as E allows -/
def Res.sat {α : Type} (r : Res α) (E : Str → Sto → Prop) (Q : α → Sto → Prop) : Prop := match r with
  | .ok a S => Q a S
  | .err c _ S => E c S
  | .bad => False
structure Ws where
  n : En → Sto → Prop
  r : Val → Sto → Prop
  b : En → Sto → Prop := fun _ _ => False
  c : En → Sto → Prop := fun _ _ => False
def SR.sat (r : SR) (E : Str → Sto → Prop) (D : Ws) : Prop := match r with
  | .next ρ S => D.n ρ S
  | .ret v S => D.r v S
  | .brk ρ S => D.b ρ S
  | .cnt ρ S => D.c ρ S
  | .err c _ _ S => E c S
  | .bad => False
section
variable {α β : Type} {E : Str → Sto → Prop} {D : Ws} {ρ : En} {S : Sto}
@[simp] theorem sat_ok {a : α} {Q : α → Sto → Prop} : (Res.ok a S).sat E Q = Q a S := rfl
@[simp] theorem sat_err {c f} {Q : α → Sto → Prop} : (Res.err c f S : Res α).sat E Q = E c S := rfl
@[simp] theorem sat_bind {r : Res α} {k : α → Sto → Res β} {Q : β → Sto → Prop} : (r.bind k).sat E Q = r.sat E fun a S => (k a S).sat E Q := by cases r <;> rfl
@[simp] theorem sat_s {r : Res α} {k : α → Sto → SR} : (r.s ρ k).sat E D = r.sat E fun a S => (k a S).sat E D := by cases r <;> rfl
@[simp] theorem sat_next : (SR.next ρ S).sat E D = D.n ρ S := rfl
@[simp] theorem sat_ret {v} : (SR.ret v S).sat E D = D.r v S := rfl
@[simp] theorem sat_brk : (SR.brk ρ S).sat E D = D.b ρ S := rfl
@[simp] theorem sat_cnt : (SR.cnt ρ S).sat E D = D.c ρ S := rfl
@[simp] theorem sat_serr {c f} : (SR.err c f ρ S).sat E D = E c S := rfl
@[simp] theorem sat_nx {r : SR} {k : En → Sto → SR} : (r.next? k).sat E D = r.sat E { D with n := fun ρ S => (k ρ S).sat E D } := by cases r <;> rfl
theorem Res.sat.imp {r : Res α} {Q Q' : α → Sto → Prop} {E' : Str → Sto → Prop} (h : r.sat E Q) (f : ∀ a S, Q a S → Q' a S) (g : ∀ c S, E c S → E' c S) : r.sat E' Q' := by
  cases r with
  | ok a S => exact f _ _ h
  | err c x S => exact g _ _ h
  | bad => exact h
theorem sat_if {c : Prop} [Decidable c] {a b : Res α} {Q : α → Sto → Prop} : (if c then a else b).sat E Q = if c then a.sat E Q else b.sat E Q := by split <;> rfl
theorem sat_ifS {c : Prop} [Decidable c] {a b : SR} : (if c then a else b).sat E D = if c then a.sat E D else b.sat E D := by split <;> rfl
end
def isiF (T : String) (x : Val) (S : Sto) : Res Val := match x with
  | .pv p => (match tyName p with | some n => .ok (.pv (.bool (isTy n T))) S | none => .bad)
  | _ => .bad
section
variable {ρ : En} {S : Sto} {A B C : DE} {T T' : DT} {As : DA} {Bs Cs : DS}
@[simp] theorem ap_C (p : PyData) : dC p ρ S = .ok (.pv p) S := rfl
@[simp] theorem ap_Nm (i : Nat) : dNm i ρ S = match ρ[i]? with | some (some x) => .ok x S | _ => .bad := rfl
@[simp] theorem ap_Fn (x : Str) : dFn x ρ S = .ok (.fn x) S := rfl
@[simp] theorem ap_d2 (op) : d2 op A B ρ S = (A ρ S).bind fun x S1 => (B ρ S1).bind fun y S2 => lift2 op x y S2 := rfl
@[simp] theorem ap_Nil : dNil ρ S = .ok [] S := rfl
@[simp] theorem ap_Cons : dCons A As ρ S = (A ρ S).bind fun x S1 => (As ρ S1).bind fun xs S2 => .ok (x :: xs) S2 := rfl
@[simp] theorem ap_Tup : dTup As ρ S = (As ρ S).bind fun xs S1 => match pvs xs with | some ps => if szOk ps.length then .ok (.pv (.tuple ps)) S1 else .bad | none => .bad := rfl
@[simp] theorem ap_Lst : dLst As ρ S = (As ρ S).bind fun xs S1 => match pvs xs with | some ps => if szOk ps.length then .ok (.pv (.list ps)) S1 else .bad | none => .bad := rfl
@[simp] theorem ap_New : dNew As ρ S = (As ρ S).bind fun xs S1 => match pvs xs with | some ps => if szOk ps.length then .ok (.loc S1.length) (S1 ++ [.lst ps]) else .bad | none => .bad := rfl
@[simp] theorem ap_Tst : dTst A ρ S = (A ρ S).bind blOf := rfl
@[simp] theorem ap_NotT : dNotT T ρ S = (T ρ S).bind fun b S1 => .ok (!b) S1 := rfl
@[simp] theorem ap_AndT : dAndT T T' ρ S = (T ρ S).bind fun b S1 => if b = true then T' ρ S1 else .ok false S1 := rfl
@[simp] theorem ap_OrT : dOrT T T' ρ S = (T ρ S).bind fun b S1 => if b = true then .ok true S1 else T' ρ S1 := rfl
@[simp] theorem ap_If : dIf T A B ρ S = (T ρ S).bind fun b S1 => if b = true then A ρ S1 else B ρ S1 := rfl
@[simp] theorem ap_Not : dNot A ρ S = (A ρ S).bind fun x S1 => (blOf x S1).bind fun b S2 => .ok (.pv (.bool !b)) S2 := rfl
@[simp] theorem ap_And : dAnd A B ρ S = (A ρ S).bind fun x S1 => (blOf x S1).bind fun b S2 => if b = true then B ρ S2 else .ok (.pv (.bool false)) S2 := rfl
@[simp] theorem ap_Or : dOr A B ρ S = (A ρ S).bind fun x S1 => (blOf x S1).bind fun b S2 => if b = true then .ok (.pv (.bool true)) S2 else B ρ S2 := rfl
@[simp] theorem ap_Ch (f g) : dCh f g A B C ρ S = (A ρ S).bind fun x S1 => (B ρ S1).bind fun y S2 => (lift2 f x y S2).bind fun z S3 => (blOf z S3).bind fun b S4 => if b = true then (C ρ S4).bind fun c S5 => lift2 g y c S5 else .ok (.pv (.bool false)) S4 := rfl
@[simp] theorem ap_Ix : dIx A B ρ S = (A ρ S).bind fun x S1 => (B ρ S1).bind fun y S2 => liftIx x y S2 := rfl
@[simp] theorem ap_Sl (L U : DO) : dSl A L U ρ S = (A ρ S).bind fun x S1 => (L ρ S1).bind fun lo S2 => (U ρ S2).bind fun hi S3 => liftSl x lo hi S3 := rfl
@[simp] theorem ap_No : dNo ρ S = .ok none S := rfl
@[simp] theorem ap_Pt : dPt A ρ S = (A ρ S).bind intOf := rfl
@[simp] theorem ap_Rev : dRev A ρ S = (A ρ S).bind fun x S1 => match x.get S1 with | some (.tuple ps) => .ok (.pv (.tuple ps.reverse)) S1 | some (.list ps) => .ok (.pv (.list ps.reverse)) S1 | _ => .bad := rfl
@[simp] theorem ap_Neg : dNeg A ρ S = (A ρ S).bind fun x S1 => match x with | .pv (.int i) => .ok (.pv (.int (-i))) S1 | _ => .bad := rfl
@[simp] theorem ap_Call (F : Fn) : dCall F As ρ S = (As ρ S).bind F := rfl
@[simp] theorem ap_Isi (T : String) : dIsi T A ρ S = (A ρ S).bind (isiF T) := rfl
@[simp] theorem ap_App : dApp A B ρ S = (A ρ S).bind fun x S1 => if lstAt x S1 then (B ρ S1).bind fun y S2 => fApp [x, y] S2 else .bad := rfl
@[simp] theorem ap_Pass : dPass ρ S = .next ρ S := rfl
@[simp] theorem ap_Seq : dSeq Bs Cs ρ S = (Bs ρ S).next? Cs := rfl
@[simp] theorem ap_Set (i : Nat) : dSet i A ρ S = (A ρ S).s ρ fun x S1 => .next (ρ.set i (some x)) S1 := rfl
@[simp] theorem ap_Ret : dRet A ρ S = (A ρ S).s ρ fun x S1 => .ret x S1 := rfl
@[simp] theorem ap_Do : dDo A ρ S = (A ρ S).s ρ fun _ S1 => .next ρ S1 := rfl
@[simp] theorem ap_IfS : dIfS T Bs Cs ρ S = (T ρ S).s ρ fun b S1 => if b = true then Bs ρ S1 else Cs ρ S1 := rfl
@[simp] theorem ap_gN (i : Nat) (x : Val) : gN i x ρ = some (ρ.set i (some x)) := rfl
@[simp] theorem ap_As (g : DG) : dAs g A ρ S = (A ρ S).s ρ fun x S1 => match g x ρ with | some ρ1 => .next ρ1 S1 | none => .bad := rfl
@[simp] theorem ap_Par (i j : Nat) : dPar i j As ρ S = (As ρ S).s ρ fun xs S1 => match xs with | [x, y] => .next ((ρ.set i (some x)).set j (some y)) S1 | _ => .bad := rfl
@[simp] theorem ap_Par3 (i j l : Nat) : dPar3 i j l As ρ S = (As ρ S).s ρ fun xs S1 => match xs with | [x, y, z] => .next (((ρ.set i (some x)).set j (some y)).set l (some z)) S1 | _ => .bad := rfl
@[simp] theorem ap_Sub (O I : DE) : dSub O I A ρ S = (A ρ S).s ρ fun x S1 => (O ρ S1).s ρ fun o S2 => (I ρ S2).s ρ fun i S3 => match fSet o i x S3 with | some S4 => .next ρ S4 | none => .bad := rfl
@[simp] theorem ap_Raise (c : Str) : dRaise c ρ S = .err c none ρ S := rfl
@[simp] theorem ap_Fz (i : Nat) : dFz i ρ S = match ρ[i]? with
  | some (some (.loc l)) => (match S[l]? with
    | some (.lst xs) => .ok (.pv (.list xs)) (S.set l .dead)
    | some (.dct kvs) => .ok (.pv (.dict kvs)) (S.set l .dead)
    | _ => .bad)
  | some (some (.pv p)) => .ok (.pv p) S
  | _ => .bad := rfl
@[simp] theorem bl_pv (b : Bool) : blOf (.pv (.bool b)) S = .ok b S := rfl
@[simp] theorem io_pv (i : Int) : intOf (.pv (.int i)) S = .ok (some i) S := rfl
@[simp] theorem pvs_nil : pvs [] = some [] := rfl
@[simp] theorem pvs_cons (p : PyData) (xs : List Val) : pvs (.pv p :: xs) = (pvs xs).map fun ps => p :: ps := rfl
theorem l2_pv (op p q) : lift2 op (.pv p) (.pv q) S = match op p q with | some z => .ok (.pv z) S | none => .bad := rfl
theorem l2_eq {E : Str → Sto → Prop} {Q : Val → Sto → Prop} {op p q z} (h : op p q = some z) (hq : Q (.pv z) S) : (lift2 op (.pv p) (.pv q) S).sat E Q := by rw [l2_pv, h]; exact hq
theorem ix_pv (p q) : liftIx (.pv p) (.pv q) S = match ixOf p q with | some z => .ok (.pv z) S | none => .bad := rfl
theorem sl_pv (p lo hi) : liftSl (.pv p) lo hi S = match slOf lo hi p with | some z => .ok (.pv z) S | none => .bad := rfl
theorem b1_pv (f p) : b1 f [.pv p] S = match f p with | some z => .ok (.pv z) S | none => .bad := rfl
theorem gT_ap (gs : List DG) (ps : List PyData) : gT gs (.pv (.tuple ps)) ρ = gT.go gs ps ρ := rfl
theorem go_nil : gT.go [] [] ρ = some ρ := rfl
theorem go_cons (g : DG) (gs : List DG) (p : PyData) (ps : List PyData) : gT.go (g :: gs) (p :: ps) ρ = (g (.pv p) ρ).bind fun ρ1 => gT.go gs ps ρ1 := rfl
end
/-- a def -/
theorem sat_fun {k n : Nat} {B : DS} {xs : List Val} {S : Sto} {E : Str → Sto → Prop} {Q : Val → Sto → Prop} (hl : xs.length = k)
    (h : (B (xs.map some ++ List.replicate (n - k) none) S).sat (fun c S1 => E c (S1.take S.length)) { n := fun ρ S1 => (leave S.length (.pv .none) S1).sat E Q, r := fun v S1 => (leave S.length v S1).sat E Q }) : (dFun k n B xs S).sat E Q := by
  unfold dFun
  rw [if_pos hl]
  revert h
  cases B (xs.map some ++ List.replicate (n - k) none) S <;> exact fun h => h
@[simp] theorem leave_pv (n : Nat) (p : PyData) (S : Sto) : leave n (.pv p) S = .ok (.pv p) (S.take n) := rfl
/-- a for -/
theorem sat_for {I : Nat → En → Sto → Prop} {g : DG} {B : DS} {E : Str → Sto → Prop} {D : Ws} {xs : List Val} (hs : ∀ i x ρ S, xs[i]? = some x → I i ρ S → ∃ ρ1, g x ρ = some ρ1 ∧ (B ρ1 S).sat E { n := I (i + 1), c := I (i + 1), b := D.n, r := D.r })
    (hd : ∀ ρ S, I xs.length ρ S → D.n ρ S) : ∀ (j : Nat) (ρ : En) (S : Sto), j ≤ xs.length → I j ρ S → (loopF g B (xs.drop j) ρ S).sat E D := by
  have key : ∀ (n j : Nat) (ρ : En) (S : Sto), xs.length - j = n → j ≤ xs.length → I j ρ S → (loopF g B (xs.drop j) ρ S).sat E D := by
    intro n
    induction n with
    | zero =>
      intro j ρ S e hj h
      have : j = xs.length := by omega
      subst this
      rw [List.drop_length]
      exact hd _ _ h
    | succ n ih =>
      intro j ρ S e hj h
      have hlt : j < xs.length := by omega
      rw [List.drop_eq_getElem_cons hlt]
      obtain ⟨ρ1, hg, hb⟩ := hs j _ ρ S (List.getElem?_eq_getElem hlt) h
      unfold loopF
      rw [hg]
      revert hb
      simp only []
      cases B ρ1 S with
      | next ρ2 S2 => exact fun hb => ih (j + 1) ρ2 S2 (by omega) (by omega) hb
      | cnt ρ2 S2 => exact fun hb => ih (j + 1) ρ2 S2 (by omega) (by omega) hb
      | brk ρ2 S2 => exact fun hb => hb
      | ret v S2 => exact fun hb => hb
      | err c f ρ2 S2 => exact fun hb => hb
      | bad => exact fun hb => hb
  exact fun j ρ S => key _ j ρ S rfl
@[simp] theorem ap_For {I : DI} {g : DG} {B : DS} {ρ : En} {S : Sto} : dFor I g B ρ S = (I ρ S).s ρ fun xs S1 => loopF g B xs ρ S1 := rfl
@[simp] theorem ap_Items {A : DE} {ρ : En} {S : Sto} : dItems A ρ S = (A ρ S).bind fun x S1 => match itemsOf x with | some xs => .ok xs S1 | none => .bad := rfl
@[simp] theorem ap_Rng1 {A : DE} {ρ : En} {S : Sto} : dRng1 A ρ S = (A ρ S).bind fun x S1 => match x with | .pv (.int j) => rngOf 0 j S1 | _ => .bad := by
  unfold dRng1
  cases A ρ S <;> rfl
@[simp] theorem ap_Lc {I : DI} {vs : List Nat} {g : DG} {T : DT} {A : DE} {ρ : En} {S : Sto} : dLc I vs g T A ρ S = (I ρ S).bind fun xs S1 => loopC g T A (wipeE ρ vs) xs [] S1 := rfl
@[simp] theorem ap_Yes {ρ : En} {S : Sto} : dYes ρ S = .ok true S := rfl
/-- a comprehension -/
theorem sat_lc {I : Nat → List PyData → Sto → Prop} {g : DG} {T : DT} {A : DE} {E : Str → Sto → Prop} {Q : Val → Sto → Prop} {xs : List Val} {ρ : En}
    (hs : ∀ i x acc S, xs[i]? = some x → I i acc S → ∃ ρ1, g x ρ = some ρ1 ∧ (T ρ1 S).sat (fun _ _ => False) fun b S1 => if b = true then (A ρ1 S1).sat (fun _ _ => False) fun v S2 => ∃ p, v = .pv p ∧ acc.length < 16777216 ∧ I (i + 1) (acc ++ [p]) S2 else I (i + 1) acc S1)
    (hd : ∀ acc S, I xs.length acc S → Q (.pv (.list acc)) S) : ∀ (j : Nat) (acc : List PyData) (S : Sto), j ≤ xs.length → I j acc S → (loopC g T A ρ (xs.drop j) acc S).sat E Q := by
  have key : ∀ (n j : Nat) (acc : List PyData) (S : Sto), xs.length - j = n → j ≤ xs.length → I j acc S → (loopC g T A ρ (xs.drop j) acc S).sat E Q := by
    intro n
    induction n with
    | zero =>
      intro j acc S e hj h
      have : j = xs.length := by omega
      subst this
      rw [List.drop_length]
      exact hd _ _ h
    | succ n ih =>
      intro j acc S e hj h
      have hlt : j < xs.length := by omega
      rw [List.drop_eq_getElem_cons hlt]
      obtain ⟨ρ1, hg, hb⟩ := hs j _ acc S (List.getElem?_eq_getElem hlt) h
      unfold loopC
      rw [hg]
      revert hb
      simp only []
      cases T ρ1 S with
      | err c f S => exact fun z => z.elim
      | bad => exact fun z => z.elim
      | ok b S1 =>
        cases b with
        | false => exact fun hb => ih (j + 1) acc S1 (by omega) (by omega) hb
        | true =>
          simp only [sat_ok, ite_true]
          cases A ρ1 S1 with
          | err c f S => exact fun z => z.elim
          | bad => exact fun z => z.elim
          | ok v S2 =>
            rintro ⟨p, rfl, hz, hi⟩
            have hz' : szOk (acc.length + 1) = true := decide_eq_true hz
            simp only [hz', ite_true]
            exact ih (j + 1) _ S2 (by omega) (by omega) hi
  exact fun j acc S => key _ j acc S rfl
end Mi
set_option maxHeartbeats 4000000
namespace Mi
open PySem PySem.Spec PyProof.Rows L2 L2H LamX
def excdB (K : PySem.W.Frag) (D : Addr) : Bool :=
  (PySem.W.clsIn K D).isSome && (He.eqO (PySem.W.findIn K (.ref D) "__getattribute__") (some (some (.builtin "BaseException.__getattribute__"))) && (He.eqO (PySem.W.findIn K (.ref D) "__getattr__") (some none) && (decide (PySem.W.subIn K (.ref D) (.type "BaseException") = some true) &&
    (He.eqO (PySem.W.findIn K (.ref D) "__class__") (some (some (.builtin "object.__class__"))) && (He.eqO (PySem.W.specialIn K (.builtin "object.__class__") "__get__") (some (some (.builtin "getset_descriptor.__get__"))) && (decide (PySem.W.takesIn K (.builtin "object.__class__") = some true) &&
      decide (PySem.W.mroIn K D (.type "object") = some true)))))))
theorem excd_of {K : PySem.W.Frag} {D : Addr} (h : excdB K D = true) : ExcD K D := by
  unfold excdB at h
  obtain ⟨h1, h⟩ := He.ba h
  obtain ⟨h2, h⟩ := He.ba h
  obtain ⟨h3, h⟩ := He.ba h
  obtain ⟨h4, h⟩ := He.ba h
  obtain ⟨h5, h⟩ := He.ba h
  obtain ⟨h6, h⟩ := He.ba h
  obtain ⟨h7, h8⟩ := He.ba h
  exact ⟨h1, He.eqO_ok h2, He.eqO_ok h3, of_decide_eq_true h4, He.eqO_ok h5, He.eqO_ok h6, of_decide_eq_true h7, of_decide_eq_true h8⟩
/-- the twelve classes, in the order of _law_names -/
def clNames : List Str := [("InvalidStage" : Str), ("InvalidChain" : Str), ("InvalidCourse" : Str), ("InvalidBeat" : Str), ("InvalidPattern" : Str), ("InvalidNumber" : Str), ("InvalidSeen" : Str), ("Unlike" : Str), ("NothingToUndo" : Str), ("InvalidText" : Str), ("TooMany" : Str), ("Wrong" : Str)]
/-- the facts of one class -/
def oneB (K : PySem.W.Frag) (c : Str) : Bool := excdB K (He.ga K c) && (decide (PySem.W.exmOne K (.ref (He.ga K c)) (.ref (He.ga K "StopError")) = some true) && (decide (PySem.W.kitOne K (.ref (He.ga K c)) (.type "ValueError") = some true) &&
  clNames.all fun x => decide (PySem.W.kitOne K (.ref (He.ga K c)) (.ref (He.ga K x)) = some (decide (c = x)))))
def exB (cs : List Str) (K : PySem.W.Frag) : Bool := cs.all (oneB K)
theorem one_of {K : PySem.W.Frag} {c : Str} (h : oneB K c = true) : ExcD K (He.ga K c) ∧ PySem.W.exmOne K (.ref (He.ga K c)) (.ref (He.ga K "StopError")) = some true ∧ PySem.W.kitOne K (.ref (He.ga K c)) (.type "ValueError") = some true ∧ ∀ x ∈ clNames, PySem.W.kitOne K (.ref (He.ga K c)) (.ref (He.ga K x)) = some (decide (c = x)) := by
  unfold oneB at h
  obtain ⟨h1, h⟩ := He.ba h
  obtain ⟨h2, h⟩ := He.ba h
  obtain ⟨h3, h4⟩ := He.ba h
  exact ⟨excd_of h1, of_decide_eq_true h2, of_decide_eq_true h3, fun x hx => of_decide_eq_true (List.all_eq_true.mp h4 x hx)⟩
end Mi
set_option maxHeartbeats 4000000
namespace Mi
open PySem PySem.Spec PyProof.Rows L2 L2H LamX
theorem code_of {K : PySem.W.Frag} {x qual : Str} {a : Arguments} {b : List Stmt} {s : Scope} {fd : FuncData} (F : FunD K x qual a b s [] [] (He.ga K x) fd) : fd.code = .ref (tCd K x) := by
  obtain ⟨oc, od, dV, kV, doc, pm, an, cdv, ct, osl, e, lk, hcd, _, _⟩ := F.ex
  obtain ⟨c, ec⟩ := He.codeIn_ref hcd
  have e1 : fd.code = .ref c := by rw [e, ← ec] <;> rfl
  have e2 := He.codeOf_eq (K := K) (p := (x, none)) lk e1
  show fd.code = .ref (He.codeOf K (x, none))
  rw [e2, e1]
/-- the tables of the defs tf, at the start -/
def tabS (K : PySem.W.Frag) (tf : List Str) : Sto := tf.map fun x => .tab (tP K x) (lamQ x)
def tabM (K : PySem.W.Frag) (tf : List Str) : Mp := { st := tf.map fun _ => none, av := [], tb := tf.map fun x => (tP K x, lamQ x) }
def tfB (tf : List Str) (K : PySem.W.Frag) : Bool := tf.all fun x => tf.all fun y => !decide (tP K x = tP K y) || decide (x = y)
theorem repS0 {P : Program} {w : World} {K : PySem.W.Frag} {tf : List Str} {H : Hp} (hH : ∀ x ∈ tf, H (tP K x) = some (.tbl #[])) (hb : tfB tf K = true) : RepS P w K (tabM K tf) H (tabS K tf) where
  len := by simp [tabM, tabS]
  av := fun a h => by simp [tabM] at h
  tabs := fun p hp => by
    obtain ⟨x, hx, rfl⟩ := List.mem_map.mp hp
    exact ⟨#[], hH x hx, by first | exact trivial | simp [TriplesOk], fun pos cv hc => by first | (cases hc; done) | (simp [codeAmong] at hc)⟩
  nd := fun i j a hi => by
    simp only [tabM, List.getElem?_map, Option.map_eq_some_iff] at hi
    obtain ⟨_, _, z⟩ := hi
    cases z
  ob := fun l o e => by
    simp only [tabS, List.getElem?_map, Option.map_eq_some_iff] at e
    obtain ⟨x, hx, rfl⟩ := e
    refine .inl ⟨⟨List.mem_map.mpr ⟨x, List.mem_of_getElem? hx, rfl⟩, fun p hp hq => ?_⟩, ?_⟩
    · obtain ⟨y, hy, rfl⟩ := List.mem_map.mp hp
      have h1 := List.all_eq_true.mp (List.all_eq_true.mp hb y hy) x (List.mem_of_getElem? hx)
      simp only [Bool.or_eq_true, Bool.not_eq_true', decide_eq_false_iff_not, decide_eq_true_eq] at h1
      rcases h1 with z | z
      · exact absurd hq z
      · rw [z]
    · simp [tabM, hx]
theorem tabS_any {K : PySem.W.Frag} {tf : List Str} {x : Str} (h : x ∈ tf) : (tabS K tf).any (isTab (tP K x) (lamQ x)) = true := List.any_eq_true.mpr ⟨.tab (tP K x) (lamQ x), List.mem_map.mpr ⟨x, h, rfl⟩, by simp [isTab]⟩
theorem reps_ints {P : Program} {w : World} {K : PySem.W.Frag} {m : Mp} {H : Hp} : ∀ ns : List Int, Reps P w K m H (ns.map .int) (ns.map V.int)
  | [] => rfl
  | n :: ns => ⟨_, _, rfl, rfl, reps_ints ns⟩
/-- a law's end -/
theorem law_at {l : PySem.W.OpenLaw} {w : World} {K : PySem.W.Frag} {mg : Str → Option Value} {f : Addr} {h : Heap} {fa : List He.Fa} {fn : List He.DefD} {tf : List Str} {ex : PySem.W.Frag → Bool} {k : Nat} {F : Fn} {fd : FuncData} (KX : K.In h)
    (c : He.SaysX fa fn [] (tf.map fun x => (x, none)) ex w h K) (htf : tfB tf K = true) (hmg : mg "law" = some (.ref f)) (hgl : mg "law" = some (.ref (He.ga K "law"))) (hb : ∀ (s : Shared) (u : Value), BindsTo s fd ⟨[u], []⟩ [("script", u)])
    (ok : ∀ base, K.In base → base.Ns mainGlobals mg → (∀ x ∈ tf, TabB base mg (tCd K x) (tP K x)) → FnOk l.prog w K mg base (L2N.CX l.prog w) k (He.ga K "law") fd ["script"] (spF ⟨l.prog, w, K, mg⟩ 1 F))
    (law : ∀ (ns : List Int) (S : Sto), ns.length ≤ 63 → (∀ z ∈ ns, Builtin.Int.intBits z ≤ 1048576) → (∀ x ∈ tf, S.any (isTab (tP K x) (lamQ x)) = true) → (F [.ro (ns.map .int)] S).sat (fun _ _ => False) fun v _ => v = .pv (.bool true)) :
    LawAtS l w K (L2N.CX l.prog w) k 63 "script" mg f h := by
  rw [hgl] at hmg
  cases hmg
  have mem : ∀ {p : Addr × Addr}, p ∈ tf.map (fun x => (tCd K x, tP K x)) → ∃ x ∈ tf, p = (tCd K x, tP K x) := fun hp => by
    obtain ⟨x, hx, rfl⟩ := List.mem_map.mp hp
    exact ⟨x, hx, rfl⟩
  have mtf : ∀ {x : Str}, x ∈ tf → ((x, none) : He.Defn) ∈ tf.map (fun x => ((x, none) : He.Defn)) := fun hx => List.mem_map.mpr ⟨_, hx, rfl⟩
  refine ⟨fd, tf.map fun x => (tCd K x, tP K x), spF ⟨l.prog, w, K, mg⟩ 1 F, fun p hp => ?_, fun p hp => ?_, fun p hp => ?_, hb, fun H a ns hl hbits hH hS => ?_, fun base KB G hT => ?_⟩
  · obtain ⟨x, hx, rfl⟩ := mem hp
    exact c.empty _ (mtf hx)
  · obtain ⟨x, hx, rfl⟩ := mem hp
    exact c.out _ (mtf hx)
  · obtain ⟨x, hx, rfl⟩ := mem hp
    exact PySem.W.codeHd_of_K KX (c.hd _ (mtf hx))
  · have hH' : ∀ x ∈ tf, H (tP K x) = some (.tbl #[]) := fun x hx => hH _ (List.mem_map.mpr ⟨x, hx, rfl⟩)
    refine ⟨rfl, tabM K tf, tabS K tf, [.ro (ns.map .int)], ⟨_, _, rfl, ⟨a, ns.map V.int, rfl, ?_, reps_ints ns⟩, rfl⟩, repS0 hH' htf, ?_⟩
    · rcases hS with z | z
      · refine .inl ⟨z, fun y => ?_⟩
        rcases y with y | y
        · simp [tabM] at y
        · simp [tabM] at y
      · exact .inr fun H => .inr z
    · have q := law ns (tabS K tf) hl hbits fun x hx => tabS_any hx
      revert q
      cases F [.ro (ns.map .int)] (tabS K tf) with
      | ok v S =>
        intro q m' H' u e s r
        have q : v = .pv (.bool true) := q
        subst q
        exact r
      | err c f S => exact fun q => q.elim
      | bad => exact fun q => q.elim
  · exact ok base KB G fun x hx => hT _ (List.mem_map.mpr ⟨x, hx, rfl⟩)
/-- a law's def, by its body -/
theorem law_ok {P : Program} {w : World} {K : PySem.W.Frag} {mg : Str → Option Value} {base : Heap} {x : Str} {st : Stmt} {N ps : List Str} {k : Nat} {B : DS} {fd : FuncData} (F : FunD K x x (defArgs st) (defBody st) (defScope st) [] [] (He.ga K x) fd) (S : FnScope N ps (defScope st))
    (hbody : ∀ (A : Around) (outer : List Env) (s : Shared) (H : Hp) (E : XK), Room k (A.deeper (envOfC x (defScope st) s.heap.objs.size (He.ga K x) fd.code)) → L2N.Takes (cxOf (L2N.CX P w) P w K mg base N x (defScope st) (He.ga K x) fd.code A outer s H E) (fun cls d _ H => E cls d H) →
      PSs (cxOf (L2N.CX P w) P w K mg base N x (defScope st) (He.ga K x) fd.code A outer s H E) (defBody st) (tevS ⟨P, w, K, mg⟩ (fun cls d _ H => E cls d H) B)) :
    FnOk P w K mg base (L2N.CX P w) (k + 1) (He.ga K x) fd ps (spF ⟨P, w, K, mg⟩ ps.length (dFun ps.length N.length B)) := fnok (funD_fun F) S fun A outer s H E hr tk => hbody A outer s H E hr tk
end Mi
set_option maxHeartbeats 4000000
namespace Mi
open PySem PySem.Spec PyProof.Rows L2
section
open AutoSeq1 (wpAny_loadPart')
theorem meets_enumerate_newT (l : Addr) (items : Array Value) (n : Nat) (dct : Option Addr) (sl : Array (Option Value)) :
    Meets (Builtin.«enumerate.__new__» ⟨[.type "enumerate", .ref l], []⟩) (fun _ R s => s.heap.get? l = some { cls := .type "tuple", dict := dct, data := .seq items n, slots := sl } ∧
      R (.ok (.ret (.ref (s.heap.push { cls := .type "tuple_iterator", data := .fields #[.ref l, .int 0 0] }).objs.size)))
        { s with heap := (s.heap.push { cls := .type "tuple_iterator", data := .fields #[.ref l, .int 0 0] }).push { cls := .type "enumerate", data := .fields #[.none, .bool false, .ref s.heap.objs.size, rawInt 0, .none, .none] } }) :=
  .of_wp fun prog w A R s h => by
    obtain ⟨hp, g, d, tk, os⟩ := s; obtain ⟨hl, h⟩ := h
    have hsub := sub_enumerate
    have hL : Heap.IsTuple (Shared.heap ⟨hp, g, d, tk, os⟩) l items := ⟨_, hl, rfl, n, rfl⟩
    wp_walk using wpAny_loadPart' hl
    refine wpAny_stack_any fun st => wpAny_pure ?_
    split
    · rename_i c _ _ _ _ _
      cases (c == Value.type "enumerate")
      · wp_walk using wpAny_loadPart' hl, wpAny_pyIter_tuple hL
        exact ⟨_, rfl, h⟩
      · wp_walk using wpAny_loadPart' hl, wpAny_pyIter_tuple hL
        exact ⟨_, rfl, h⟩
    · wp_walk using wpAny_loadPart' hl, wpAny_pyIter_tuple hL
      exact ⟨_, rfl, h⟩
end
section
variable {prog : Program} {w : World} {A : Around} {E : Value → Shared → Prop} {s : Shared}
theorem call_enumerate_tup {l : Addr} {items : Array Value} {Q : Value → Shared → Prop} (hL : s.heap.IsTuple l items)
    (h : ∀ h', IsEnum h' (s.heap.objs.size + 1) s.heap.objs.size 0 .none → h'.IsTupleIter s.heap.objs.size l 0 → h'.objs.size = s.heap.objs.size + 2 →
      (∀ b o, s.heap.get? b = some o → h'.get? b = some o) → Q (.ref (s.heap.objs.size + 1)) { s with heap := h' }) :
    wpAny (model prog w) A (call (.type "enumerate") [.ref l]) Q E s := by
  obtain ⟨⟨c, dct, dt, sl⟩, hl, hc, n, hd⟩ := hL
  replace hc : c = .type "tuple" := hc
  replace hd : dt = .seq items n := hd
  subst hc hd
  refine callType_new F.called_enumerate (by decide) (F.typeCall_enumerate_1 _) (F.newCall_enumerate_1 _) (fun obj => F.args_object_init_2 obj _) F.entry_enumerate_new
    (meets_enumerate_newT l items n dct sl) ⟨hl, ?_⟩
  have hz : (s.heap.push { cls := .type "tuple_iterator", data := .fields #[.ref l, .int 0 0] }).objs.size = s.heap.objs.size + 1 := Heap.size_push ..
  show _ ∧ _
  rw [hz]
  have he : IsEnum ((s.heap.push { cls := .type "tuple_iterator", data := .fields #[.ref l, .int 0 0] }).push
      { cls := .type "enumerate", data := .fields #[.none, .bool false, .ref s.heap.objs.size, rawInt 0, .none, .none] }) (s.heap.objs.size + 1) s.heap.objs.size 0 .none := by
    have := Heap.get?_push_size (s.heap.push { cls := .type "tuple_iterator", data := .fields #[.ref l, .int 0 0] })
      (o := { cls := .type "enumerate", data := .fields #[.none, .bool false, .ref s.heap.objs.size, rawInt 0, .none, .none] }) rfl
    rw [hz] at this; exact this
  refine ⟨⟨_, he, rfl⟩, h _ he ⟨_, Heap.get?_push_of_some _ (Heap.get?_push_size _ rfl), rfl, rfl⟩ (by rw [Heap.size_push, hz]) fun b o x => Heap.get?_push_of_some _ (Heap.get?_push_of_some _ x)⟩
end
/-- the tuple at a, each item in a new pair -/
def IteT (K : PySem.W.Frag) (a : Addr) : It :=
  ⟨fun i H => ∃ (xs : List V) (x : V), SqT K H a xs ∧ xs[i]? = some x, fun i H v H' => ∃ T x, v = .ref T ∧ H T = none ∧ H' = upd H T (.tup [.int (i : Nat), x]) ∧ ∀ xs, SqT K H a xs → xs[i]? = some x, fun i H => ∃ xs : List V, SqT K H a xs ∧ xs.length ≤ i⟩
theorem turn_enumT {P : Program} {w : World} {K : PySem.W.Frag} {elts : List Expr} {kk : Nat} {tpos : Pos} (a e it : Addr) (hea : a ≠ e) (hia : a ≠ it) :
    Turn P w K (.Tuple elts kk tpos) (IteT K a) [e, it] e (fun i h => (∃ old, IsEnum h e it ((i : Nat) : Int) old) ∧ h.IsTupleIter it a i ∧ e ≠ it) where
  mem := by simp
  obj := fun i h st b hb => by
    obtain ⟨⟨old, he⟩, ⟨o, ho, hc, hd⟩, _⟩ := st
    have e' : b = e ∨ b = it := by simpa using hb
    rcases e' with z | z
    · rw [z]; exact ⟨_, he, fun v q => nomatch q⟩
    · rw [z]; exact ⟨o, ho, fun v q => by rw [hd] at q; cases q⟩
  keep := fun i h h' st k => let ⟨⟨old, he⟩, hi, hne⟩ := st; ⟨⟨old, k e (by simp) _ he⟩, hi.at fun o q => k it (by simp) o q, hne⟩
  item := by
    intro X hP hw hK hc i pins s σ H E I hf st hg
    subst hP hw hK
    obtain ⟨⟨old, he⟩, hit, hne⟩ := st
    obtain ⟨xs, x, hq, hx⟩ := hg
    obtain ⟨its, rv, p, hz⟩ := I.tuple hq
    obtain ⟨u, hu, ru⟩ := rv.get hx
    have hel : e < s.heap.objs.size := Heap.lt_size he
    have hil : it < s.heap.objs.size := by obtain ⟨_, q, _⟩ := hit; exact Heap.lt_size q
    have D : Draws X.prog X.w X.A.in1 it [it, a] its.toArray.size (fun i v => its.toArray[i]? = some v) (fun i h => h.IsTupleIter it a i ∧ h.IsTuple a its.toArray) := Draws.tuple (show X.A.in1.handled = none from I.ok.hd hc) it a hia its.toArray
    have hlt : i < its.toArray.size := by
      have := (List.getElem?_eq_some_iff.mp hu).1
      simpa using this
    refine wpAny_pyNext_enum_itemD D he ⟨hit, p⟩ hlt hne (by simp [hne, Ne.symm hea]) fun u' h' tk hu' ho hit' hT hsz hk => ?_
    have hu' : its.toArray[i]? = some u' := hu'
    have eu : u' = u := by
      have : its[i]? = some u' := by simpa using hu'
      rw [hu] at this; cases this; rfl
    subst eu
    refine ⟨_, rfl, wpAny_letOwnedTupleGo_enum (s := { s with heap := h', toks := tk + 1 }) ho fun h'' he' sb => ?_⟩
    have hT2 : h''.get? s.heap.objs.size = some { cls := .type "tuple", data := .seq #[.int i tk, u'] } := (sb.2 _ (Nat.ne_of_gt hel)).trans hT
    have new : ObjOk X.prog X.w (upd H s.heap.objs.size (.tup [.int (i : Nat), x])) h'' s.heap.objs.size (.tup [.int (i : Nat), x]) :=
      ⟨by show 2 ≤ sizeLine; decide, [.int i tk, u'], .cons ⟨_, rfl⟩ (.cons ru .nil), ⟨_, hT2, rfl, _, rfl⟩⟩
    have I1 : Inv X pins σ (upd H s.heap.objs.size (.tup [.int (i : Nat), x])) { s with heap := h'', toks := tk + 1 } :=
      I.turnedNew (ch := [e, it]) (fun b ob hb q => (sb.2 b (fun z => hb (by simp [z]))).trans (hk b ob (fun z => hb (by simp [z])) (fun z => hb (by simp [z])) q)) hf (Nat.le_refl _) new
    refine ⟨.ref s.heap.objs.size, _, I1, rfl, ⟨_, x, rfl, I.hok.fresh (Nat.le_refl _), rfl, fun ys hy => by rw [I.tuple_inj hy hq]; exact hx⟩, ⟨⟨u', ?_⟩, hit'.1.at fun o q => (sb.2 it (Ne.symm hne)).trans q, hne⟩, fun b hb => ?_⟩
    · have e1 : ((i + 1 : Nat) : Int) = (i : Int) + 1 := by omega
      rw [e1]; exact he'
    · have hb' : b < s.heap.objs.size := by
        have e' : b = e ∨ b = it := by simpa using hb
        rcases e' with z | z
        · rw [z]; exact hel
        · rw [z]; exact hil
      rw [upd_ne (Nat.ne_of_lt hb')]
      exact (hf b hb).1
  done := by
    intro X hP hw hK hc i pins s σ H E I hf st hg
    subst hP hw hK
    obtain ⟨⟨old, he⟩, hit, hne⟩ := st
    obtain ⟨xs, hq, hx⟩ := hg
    obtain ⟨its, rv, p, hz⟩ := I.tuple hq
    obtain ⟨f0, f1, f2, f3, f4, f5⟩ := hf it (by simp)
    have hl := rv.length
    have D : Draws X.prog X.w X.A.in1 it [it, a] i (fun _ _ => True) (fun j h => j = i ∧ h.IsTupleIter it a i ∧ h.IsTuple a its.toArray) :=
      { live := fun j h st => let ⟨o, ho, _⟩ := st.2.1; ⟨o, ho⟩
        frame := fun j h h' st hk => ⟨st.1, st.2.1.at fun o e => hk it (by simp) o e, st.2.2.at fun o e => hk a (by simp) o e⟩
        item := fun j s Q E hj st hQ => absurd st.1 (Nat.ne_of_lt hj)
        done := fun s Q E st hE => wpAny_nextOf_tuple_end (show X.A.in1.handled = none from I.ok.hd hc) st.2.1 st.2.2 (by simp; omega) hE }
    exact wpAny_pyNext_enum_endD D he ⟨rfl, hit, p⟩ fun h' eb => ⟨rfl, I.turned (t' := s.toks) (fun b o hb q => eb b o hb q) f0 f1 f3 f4 f5⟩
  self := fun A i s Q E st h => let ⟨⟨_, he⟩, _⟩ := st; wpAny_pyIter_enum he h

end Mi
set_option maxHeartbeats 4000000
namespace Mi
open PySem PySem.Spec PyProof.Rows L2
def iEnumA (K : PySem.W.Frag) (ta : TA) : TI := fun σ H R => ta σ H fun vs H1 => ∃ a xs, vs = [.ref a] ∧ ((SqL K H1 a xs ∧ R (Ite K a) H1) ∨ (SqT K H1 a xs ∧ R (IteT K a) H1))
theorem pi_enumA {X : Cx} {e : Expr} {ta : TA} {p pos tpos : Pos} {elts : List Expr} {kk : Nat} (hg : Gl X "enumerate") (hm : X.mg "enumerate" = none) (ha : PA X [e] ta) (hs : starEach [e] X.env = [(false, eval e X.env)] := by rfl) :
    PI X (.Tuple elts kk tpos) (.Call (.Name "enumerate" p) [e] [] pos) (iEnumA X.K ta) := by
  refine ⟨fun pins s σ H R I h => ?_⟩
  refine Call_ (ld_blt I hg hm boot_enumerate (PyProof.Rows.callWith_type1 (thn (ha.run pos pins s σ H _ I h) fun us s1 ⟨vs, H1, I1, r1, q1⟩ => ?_) hs rfl))
  obtain ⟨a, xs, ex, q1⟩ := q1
  subst ex
  have fresh : ∀ b, b ∈ [s1.heap.objs.size + 1, s1.heap.objs.size] → FpOk X pins H1 b := fun b hb => by
    have e' : b = s1.heap.objs.size + 1 ∨ b = s1.heap.objs.size := by simpa using hb
    have hle : s1.heap.objs.size ≤ b := by
      rcases e' with z | z
      · rw [z]; exact Nat.le_add_right _ _
      · rw [z]; exact Nat.le_refl _
    exact I1.fpOk hle (I1.hok.fresh hle)
  cases r1 with
  | cons r rr =>
    cases rr
    cases r
    rcases q1 with ⟨hq, q⟩ | ⟨hq, q⟩
    · obtain ⟨its, rv, p', hz⟩ := I1.list hq
      refine call_enumerate_list p'.isList fun h' he hit hsz hk => wpAny_pyIter_enum he ?_
      have I2 : Inv X pins σ H1 { s1 with heap := h' } := I1.kept (t' := s1.toks) hk
      exact ⟨s1.heap.objs.size + 1, [s1.heap.objs.size + 1, s1.heap.objs.size], _, _, H1, rfl, I2, turn_enum a (s1.heap.objs.size + 1) s1.heap.objs.size, ⟨⟨.none, he⟩, hit, Nat.succ_ne_self _⟩, fresh, q⟩
    · obtain ⟨its, rv, p', hz⟩ := I1.tuple hq
      have p' : s1.heap.IsTuple a its.toArray := p'
      have la : a < s1.heap.objs.size := by obtain ⟨_, q, _⟩ := id p'; exact Heap.lt_size q
      refine call_enumerate_tup p' fun h' he hit hsz hk => wpAny_pyIter_enum he ?_
      have I2 : Inv X pins σ H1 { s1 with heap := h' } := I1.kept (t' := s1.toks) hk
      exact ⟨s1.heap.objs.size + 1, [s1.heap.objs.size + 1, s1.heap.objs.size], _, _, H1, rfl, I2, turn_enumT a (s1.heap.objs.size + 1) s1.heap.objs.size (Nat.ne_of_lt (Nat.lt_succ_of_lt la)) (Nat.ne_of_lt la), ⟨⟨.none, he⟩, hit, Nat.succ_ne_self _⟩, fresh, q⟩
/-- a list's or a tuple's items -/
def psOf : Val → Option (List PyData)
  | .pv (.list xs) => some xs
  | .pv (.tuple xs) => some xs
  | _ => none
def enumP (i : Nat) (p : PyData) : Val := .pv (.tuple [.int (i : Nat), p])
def dEnum (A : DE) : DI := fun ρ S => (A ρ S).bind fun x S1 => match psOf x with
  | some xs => .ok (xs.mapIdx enumP) S1
  | none => .bad
def dZip (A B : DE) : DI := fun ρ S => (A ρ S).bind fun x S1 => (B ρ S1).bind fun y S2 => match x, y with
  | .pv (.list xs), .pv (.list ys) => .ok ((xs.zip ys).map fun p => Val.pv (.tuple [p.1, p.2])) S2
  | .pv (.tuple xs), .pv (.tuple ys) => .ok ((xs.zip ys).map fun p => Val.pv (.tuple [p.1, p.2])) S2
  | _, _ => .bad
section
variable {X : Cx} {W : WX} {pos tpos : Pos} {kk : Nat} {A B : DE} {a b : Expr} {elts : List Expr}
theorem rep_new {m : Mp} {H : Hp} {T : Addr} {p q : PyData} {u v : V} (mo : MOk m H) (n : H T = none) (hp : Rep X.prog X.w X.K m H p u) (hq : Rep X.prog X.w X.K m H q v) : Rep X.prog X.w X.K m (upd H T (.tup [u, v])) (.tuple [p, q]) (.ref T) := by
  have g := Go.of (P := X.prog) (w := X.w) (K := X.K) mo (Ext.upd (m := m) (o := .tup [u, v]) n)
  exact ⟨T, [u, v], rfl, SqT.of upd_same, u, _, rfl, Rep.go g _ _ hp, v, _, rfl, Rep.go g _ _ hq, rfl⟩
theorem i_enum {p : Pos} (hm : X.mg "enumerate" = none) (ha : PEv X W a A) (hg : Gl X "enumerate" := by rfl) (hs : starEach [a] X.env = [(false, eval a X.env)] := by rfl) : PIv X W (.Tuple elts kk tpos) (.Call (.Name "enumerate" p) [a] [] pos) (dEnum A) :=
  PI.imp (pi_enumA hg hm (pa_cons ha pa_nil hs) hs) fun σ H R h => tev_get (tevI_top h) fun u H1 ⟨m1, S1, x, s, r, q⟩ => by
    split at q
    · rename_i xs hx
      unfold psOf at hx
      split at hx
      · cases hx
        obtain ⟨a, us, rfl, hl, na, hr⟩ := r
        refine ⟨a, us, rfl, .inl ⟨SqL.of hl, q m1 H1 _ (Ext.refl _ _) s ?_⟩⟩
        intro i m H e mo'
        have hl' : H a = some (.lst us) := e.keep a _ hl (fun z => na (.inl z)) fun _ z => by cases z
        have r' := Reps.go (Go.of (P := X.prog) (w := X.w) (K := X.K) s.mok e) _ _ hr
        have hlen := Reps.length r'
        refine ⟨fun hi => ?_, fun hi => ⟨us, SqL.of hl', by rw [← hlen]; simpa using hi⟩, fun x H' hi ⟨T, y, e1, e2, e3, e4⟩ => ?_⟩
        · have hi' : i < us.length := by rw [← hlen]; simpa using hi
          exact ⟨us, us[i], SqL.of hl', List.getElem?_eq_getElem hi'⟩
        · subst e1 e3
          have hi' : i < xs.length := by simpa using hi
          obtain ⟨u, e5, r5⟩ := Reps.get i r' (List.getElem?_eq_getElem hi')
          have e6 := e4 us (SqL.of hl')
          rw [e5] at e6; cases e6
          exact ⟨fun b o z => by rw [upd_ne (ne_of_none z e2)]; exact z, .pv (.tuple [.int (i : Nat), xs[i]]), by rw [List.getElem?_mapIdx, List.getElem?_eq_getElem hi']; rfl, rep_new mo' e2 (p := .int (i : Nat)) rfl r5⟩
      · cases hx
        obtain ⟨a, us, rfl, hl, hr⟩ := r
        refine ⟨a, us, rfl, .inr ⟨hl, q m1 H1 _ (Ext.refl _ _) s ?_⟩⟩
        intro i m H e mo'
        have gg := Go.of (P := X.prog) (w := X.w) (K := X.K) s.mok e
        have hl' : SqT X.K H a us := gg.tup a us hl
        have r' := Reps.go gg _ _ hr
        have hlen := Reps.length r'
        refine ⟨fun hi => ?_, fun hi => ⟨us, hl', by rw [← hlen]; simpa using hi⟩, fun x H' hi ⟨T, y, e1, e2, e3, e4⟩ => ?_⟩
        · have hi' : i < us.length := by rw [← hlen]; simpa using hi
          exact ⟨us, us[i], hl', List.getElem?_eq_getElem hi'⟩
        · subst e1 e3
          have hi' : i < xs.length := by simpa using hi
          obtain ⟨u, e5, r5⟩ := Reps.get i r' (List.getElem?_eq_getElem hi')
          have e6 := e4 us hl'
          rw [e5] at e6; cases e6
          exact ⟨fun b o z => by rw [upd_ne (ne_of_none z e2)]; exact z, .pv (.tuple [.int (i : Nat), xs[i]]), by rw [List.getElem?_mapIdx, List.getElem?_eq_getElem hi']; rfl, rep_new mo' e2 (p := .int (i : Nat)) rfl r5⟩
      · cases hx
    · exact q.elim
theorem i_zip {p : Pos} (hm : X.mg "zip" = none) (ha : PEv X W a A) (hb : PEv X W b B) (hg : Gl X "zip" := by rfl) (hs : starEach [a, b] X.env = (false, eval a X.env) :: starEach [b] X.env := by rfl) (hpl : (backTo pos (starEach [b] X.env)).any (·.1) = false := by rfl)
    (hs2 : starEach [b] X.env = [(false, eval b X.env)] := by rfl) : PIv X W (.Tuple elts kk tpos) (.Call (.Name "zip" p) [a, b] [] pos) (dZip A B) :=
  PI.imp (RZ.pi_zipA hg hm (pa_cons ha (pa_cons hb pa_nil hs2) (by rw [hs])) hs hpl) fun σ H R h => tev_get (tev2 h) fun u H1 q => tev_get q fun v H2 ⟨m, S, x, y, s, rx, ry, q2⟩ => by
    split at q2
    · rename_i xs ys
      obtain ⟨a, us, rfl, hl, na, hr⟩ := rx
      obtain ⟨b, vs, rfl, hl2, na2, hr2⟩ := ry
      refine ⟨a, b, us, vs, rfl, .inl ⟨SqL.of hl, SqL.of hl2, q2 m H2 _ (Ext.refl _ _) s ?_⟩⟩
      intro i m' H' e mo'
      have hl' : H' a = some (.lst us) := e.keep a _ hl (fun z => na (.inl z)) fun _ z => by cases z
      have hl2' : H' b = some (.lst vs) := e.keep b _ hl2 (fun z => na2 (.inl z)) fun _ z => by cases z
      have gg := Go.of (P := X.prog) (w := X.w) (K := X.K) s.mok e
      have r' := Reps.go gg _ _ hr
      have r2' := Reps.go gg _ _ hr2
      have hlen := Reps.length r'
      have hlen2 := Reps.length r2'
      refine ⟨fun hi => ?_, fun hi => ⟨us, vs, SqL.of hl', SqL.of hl2', ?_⟩, fun x H' hi ⟨T, y, z, e1, e2, e3, e4, e5⟩ => ?_⟩
      · have hi' : i < xs.length ∧ i < ys.length := by simpa [Nat.lt_min] using hi
        exact ⟨us, vs, us[i]'(by omega), vs[i]'(by omega), SqL.of hl', SqL.of hl2', List.getElem?_eq_getElem _, List.getElem?_eq_getElem _⟩
      · have : min xs.length ys.length ≤ i := by simpa using hi
        omega
      · subst e1 e3
        have hi' : i < xs.length ∧ i < ys.length := by simpa [Nat.lt_min] using hi
        obtain ⟨u, f1, f2⟩ := Reps.get i r' (List.getElem?_eq_getElem hi'.1)
        obtain ⟨v, g1, g2⟩ := Reps.get i r2' (List.getElem?_eq_getElem hi'.2)
        have e6 := e4 us (SqL.of hl')
        have e7 := e5 vs (SqL.of hl2')
        rw [f1] at e6; cases e6
        rw [g1] at e7; cases e7
        exact ⟨fun b o z => by rw [upd_ne (ne_of_none z e2)]; exact z, .pv (.tuple [xs[i], ys[i]]), by rw [List.getElem?_map, List.getElem?_eq_getElem (by simp; omega), List.getElem_zip]; rfl, rep_new mo' e2 f2 g2⟩
    · rename_i xs ys
      obtain ⟨a, us, rfl, hl, hr⟩ := rx
      obtain ⟨b, vs, rfl, hl2, hr2⟩ := ry
      refine ⟨a, b, us, vs, rfl, .inr ⟨hl, hl2, q2 m H2 _ (Ext.refl _ _) s ?_⟩⟩
      intro i m' H' e mo'
      have gg := Go.of (P := X.prog) (w := X.w) (K := X.K) s.mok e
      have hl' : SqT X.K H' a us := gg.tup a us hl
      have hl2' : SqT X.K H' b vs := gg.tup b vs hl2
      have r' := Reps.go gg _ _ hr
      have r2' := Reps.go gg _ _ hr2
      have hlen := Reps.length r'
      have hlen2 := Reps.length r2'
      refine ⟨fun hi => ?_, fun hi => ⟨us, vs, hl', hl2', ?_⟩, fun x H' hi ⟨T, y, z, e1, e2, e3, e4, e5⟩ => ?_⟩
      · have hi' : i < xs.length ∧ i < ys.length := by simpa [Nat.lt_min] using hi
        exact ⟨us, vs, us[i]'(by omega), vs[i]'(by omega), hl', hl2', List.getElem?_eq_getElem _, List.getElem?_eq_getElem _⟩
      · have : min xs.length ys.length ≤ i := by simpa using hi
        omega
      · subst e1 e3
        have hi' : i < xs.length ∧ i < ys.length := by simpa [Nat.lt_min] using hi
        obtain ⟨u, f1, f2⟩ := Reps.get i r' (List.getElem?_eq_getElem hi'.1)
        obtain ⟨v, g1, g2⟩ := Reps.get i r2' (List.getElem?_eq_getElem hi'.2)
        have e6 := e4 us hl'
        have e7 := e5 vs hl2'
        rw [f1] at e6; cases e6
        rw [g1] at e7; cases e7
        exact ⟨fun b o z => by rw [upd_ne (ne_of_none z e2)]; exact z, .pv (.tuple [xs[i], ys[i]]), by rw [List.getElem?_map, List.getElem?_eq_getElem (by simp; omega), List.getElem_zip]; rfl, rep_new mo' e2 f2 g2⟩
    · exact q2.elim
end
end Mi
set_option maxHeartbeats 4000000
namespace Mi
open PySem PySem.Spec PyProof.Rows L2
/-- a tuple display of any values, walked -/
def dDisp (As : DA) : DI := fun ρ S => (As ρ S).bind fun xs S1 => if szOk xs.length then .ok xs S1 else .bad
/-- the def that a slot holds, called -/
def dCallV (i : Nat) (tbl : List (Str × Fn)) (As : DA) : DE := fun ρ S => match ρ[i]? with
  | some (some (.fn x)) => match tbl.lookup x with
    | some F => (As ρ S).bind F
    | none => .bad
  | _ => .bad
/-- the defs of a table keep their promises -/
def TbOk (P : Program) (w : World) (K : PySem.W.Frag) (mg : Str → Option Value) (base : Heap) (km : Nat) (tbl : List (Str × Fn)) : Prop := ∀ x F, tbl.lookup x = some F → ∃ k n, DefOk P w K mg base k x n F ∧ Ar n F ∧ k ≤ km
section
variable {P : Program} {w : World} {K : PySem.W.Frag} {mg : Str → Option Value} {base : Heap} {km : Nat}
theorem tb_nil : TbOk P w K mg base km [] := fun x F h => by cases h
theorem tb_cons {k n : Nat} {x : Str} {F : Fn} {tbl : List (Str × Fn)} (D : DefOk P w K mg base k x n F) (ar : Ar n F) (hk : k ≤ km) (t : TbOk P w K mg base km tbl) : TbOk P w K mg base km ((x, F) :: tbl) := fun y G h => by
  rw [List.lookup_cons] at h
  split at h
  · rename_i e
    obtain rfl := beq_iff_eq.mp e
    cases h
    exact ⟨k, n, D, ar, hk⟩
  · exact t y G h
end
section
variable {X : Cx} {W : WX} {pos : Pos} {A B : DE} {a b tg : Expr} {es : List Expr} {As : DA}
theorem RepVs.get {P : Program} {w : World} {K : PySem.W.Frag} {m : Mp} {H : Hp} {mg : Str → Option Value} : ∀ {xs : List Val} {us : List V} (i : Nat) {x : Val}, RepVs P w K m H mg xs us → xs[i]? = some x → ∃ u, us[i]? = some u ∧ RepV P w K m H mg x u
  | [], _, _, _, _, e => by simp at e
  | y :: ys, _, 0, _, ⟨u, r, e, h1, h2⟩, q => by simp at q; subst q; subst e; exact ⟨u, rfl, h1⟩
  | y :: ys, _, i + 1, _, ⟨u, r, e, h1, h2⟩, q => by
    subst e
    obtain ⟨z, e1, r1⟩ := RepVs.get i h2 (by simpa using q)
    exact ⟨z, by simpa using e1, r1⟩
theorem i_disp {k : Nat} (h : PAv X W es As) : PIv X W tg (.Tuple es k pos) (dDisp As) := by
  refine ⟨fun pins s σ H R I h0 => ?_⟩
  refine thn ((pe_tup (x1 := k) (pos := pos) h).run pins s σ H (fun v H1 => ∃ p us m1 S1 xs, v = .ref p ∧ H1 p = some (.tup us) ∧ us.length ≤ sizeLine ∧ RepS X.prog X.w X.K m1 H1 S1 ∧ RepVs X.prog X.w X.K m1 H1 X.mg xs us ∧ PostI (Gx.of X) W σ m1 H1 (.ok xs S1) R) I ?_) fun v s1 ⟨x, H1, I1, r1, p, us, m1, S1, xs, ex, hp, hsz, rs, rv, q⟩ => ?_
  · obtain ⟨m, ρ, S, R0, h0⟩ := h0
    refine ⟨m, ρ, S, R0, ?_⟩
    unfold dDisp at h0
    revert h0
    cases As ρ S with
    | err c f S => exact fun z => z
    | bad => exact fun z => z
    | ok xs S1 =>
      intro h0 m1 H1 us e s r
      simp only [Res.bind_ok] at h0
      split at h0
      · rename_i hz
        have hl : us.length ≤ sizeLine := by rw [← RepVs.length r]; exact sz_of hz
        refine ⟨hl, fun p np => ⟨p, us, m1, S1, xs, rfl, upd_same, hl, s.upd np, RepVs.ext s.mok (Ext.upd np) _ _ r, PostI.ext (G := Gx.of X) h0 (e.trans (Ext.upd np))⟩⟩
      · exact h0.elim
  · subst ex
    cases r1
    have hl : SqT X.K H1 p us := SqT.of hp
    obtain ⟨its, rv', p', hz⟩ := I1.tuple hl
    refine wpAny_pyIter_tuple (show s1.heap.IsTuple p its.toArray from p') ?_
    refine ⟨s1.heap.objs.size, [s1.heap.objs.size], _, _, H1, rfl, I1.kept (t' := s1.toks) fun b o e => Heap.get?_push_of_some _ e, turn_tuple p _, ⟨_, Heap.get?_push_size _ rfl, rfl, rfl⟩, fun b hb => ?_, q m1 H1 _ (Ext.refl _ _) rs ?_⟩
    · have e : b = s1.heap.objs.size := by simpa using hb
      subst e
      exact I1.fpOk (Nat.le_refl _) (I1.hok.fresh (Nat.le_refl _))
    · intro i m H e mo'
      have gg := Go.of (P := X.prog) (w := X.w) (K := X.K) rs.mok e
      have hl' : SqT X.K H p us := gg.tup p us hl
      have r' := RepVs.ext rs.mok e _ _ rv
      have hlen := RepVs.length r'
      refine ⟨fun hi => ?_, fun hi => ⟨us, hl', by rw [← hlen]; exact hi⟩, fun x H' hi ⟨e1, e2⟩ => ?_⟩
      · have hi' : i < us.length := by rw [← hlen]; exact hi
        exact ⟨us, us[i], hl', List.getElem?_eq_getElem hi'⟩
      · subst e1
        refine ⟨fun _ _ h => h, ?_⟩
        obtain ⟨u, e3, r3⟩ := RepVs.get i r' (List.getElem?_eq_getElem hi)
        have e4 := e2 us hl'
        rw [e3] at e4; cases e4
        exact ⟨xs[i], List.getElem?_eq_getElem hi, r3⟩
/-- call(e, ..): a local name holds the def -/
theorem r_callV {x : Str} {i km : Nat} {tbl : List (Str × Fn)} {p : Pos} (Fk : TbOk X.prog X.w X.K X.mg X.base km tbl) (tk : L2N.Takes X W) (hr : Room km X.A) (ha : PAv X W (a :: es) As) (hN : X.N[i]? = some x := by rfl) (hv : Vis X.env.scope x := by first | exact Or.inl rfl | exact Or.inr (Or.inl rfl) | exact Or.inr (Or.inr rfl))
    (hd : (x == ("__debug__" : Str)) = false := by decide) (hcd : (x == ("__classdict__" : Str)) = false := by decide) (he : starEach (a :: es) X.env = (false, eval a X.env) :: starEach es X.env := by rfl)
    (hpl : (backTo pos (starEach es X.env)).any (·.1) = false := by rfl) : PEv X W (.Call (.Name x p) (a :: es) [] pos) (dCallV i tbl As) := by
  refine ⟨fun pins s σ H Q I ⟨m, ρ, S, R, h⟩ => ?_⟩
  unfold dCallV at h
  split at h
  case h_2 => exact h.elim
  rename_i y ey
  split at h
  case h_2 => exact h.elim
  rename_i F eF
  obtain ⟨k, n, D, hF, hk⟩ := Fk y F eF
  obtain ⟨f, fd, ps, hf, hm, hkeep, hb⟩ := D.ex
  obtain ⟨v, e1, f', hm', ev⟩ := R.e.at_ i _ ey
  rw [show X.mg y = some (.ref f') from hm'] at hm
  cases hm
  subst ev
  refine wpAny_Call_Name_kw (thn ((pe_var (pos := p) hN hv hd hcd).run pins s σ H (fun v H1 => v = .ref f ∧ H1 = H) I ⟨.ref f, e1, rfl, rfl⟩) fun u s1 ⟨v, H1, I1, r1, q1⟩ => ?_)
  obtain ⟨rfl, rfl⟩ := q1
  obtain rfl : u = Value.ref f := r1
  have ht : tevA (Gx.of X) W As σ H1 fun vs H1 => spF (Gx.of X) n F vs H1 Q (WE W σ) := by
    have h := tevA_top (k := F) ⟨m, ρ, S, R, h⟩
    obtain ⟨m, ρ, S, R, h⟩ := h
    refine ⟨m, ρ, S, R, ?_⟩
    revert h
    cases As ρ S with
    | err c f S => exact fun z => z
    | bad => exact fun z => z
    | ok xs S1 =>
      intro h m1 H1 us e s r
      obtain ⟨m2, S2, ys, s2, r2, h2⟩ := h m1 H1 us e s r
      have hlen : us.length = n := by
        by_cases z : ys.length = n
        · rw [← z]; exact (RepVs.length r2).symm
        · rw [hF ys S2 z] at h2; exact h2.elim
      refine ⟨hlen, m2, S2, ys, r2, s2, ?_⟩
      revert h2
      cases F ys S2 with
      | ok v S => exact fun z => z
      | err c f S => exact fun z => z
      | bad => exact fun z => z
  refine PySem.W.callWith_K (h₀ := X.base) I1.ok.mod.kin hkeep (thn (ha.run pos pins s1 σ _ _ I1 ht) fun us s2 ⟨vs, H2, I2, r, q⟩ => ⟨I2.kIn, ?_⟩) he hpl
  exact run_fnS hf (hr.mono hk) hb (L2N.passAt tk σ) I2 r q
end
end Mi
set_option maxHeartbeats 4000000
namespace Mi
open PySem PySem.Spec PyProof.Rows L2
def setA (ρ : En) : List Nat → List Val → En
  | i :: is, x :: xs => setA (ρ.set i (some x)) is xs
  | _, _ => ρ
def setV (σ : L2.St) : List Nat → List V → L2.St
  | i :: is, x :: xs => setV (σ.set i (some x)) is xs
  | _, _ => σ
/-- x, y, .. = e1, e2, .. by way of a tuple -/
def dParL (is : List Nat) (As : DA) : DS := fun ρ S => (As ρ S).s ρ fun xs S1 => if xs.length = is.length ∧ szOk xs.length = true then .next (setA ρ is xs) S1 else .bad
def rdV (is : List Nat) : TGs := fun vs σ H Q => vs.length = is.length ∧ Q (setV σ is vs) H
section
variable {X : Cx} {W : WX} {pos : Pos} {a : Expr} {es ts : List Expr} {As : DA}
theorem gv_nil : PGs X [] (rdV []) := PGs.imp pgs_nil fun vs σ H Q ⟨h, q⟩ => by
  have : vs = [] := List.eq_nil_of_length_eq_zero h
  subst this
  exact ⟨rfl, q⟩
theorem gv_cons {i : Nat} {is : List Nat} {x : Str} (hN : X.N.Nodup) (h2 : PGs X es (rdV is)) (hi : X.N[i]? = some x := by rfl) (hx : Loc X.env.scope x := by first | exact .inl rfl | exact .inr rfl)
    (hf : X.fn x = true ∨ X.env.scope.names.lookup x = some .local := by first | exact .inl rfl | exact .inr rfl | assumption)
    (hs : (assignEach (.Name x pos :: es) X.env).map (·.2) = assign (.Name x pos) X.env :: (assignEach es X.env).map (·.2) := by rfl) : PGs X (.Name x pos :: es) (rdV (i :: is)) :=
  PGs.imp (pgs_cons (pg_name hN hi hx hf) h2 hs) fun vs σ H Q ⟨h, q⟩ => by
    cases vs with
    | nil => simp at h
    | cons v vs => exact ⟨v, vs, rfl, by simpa using h, q⟩
theorem Rd0.setA {G : Gx} : ∀ {is : List Nat} {xs : List Val} {us : List V} {m : Mp} {ρ : En} {S : Sto} {σ : L2.St} {H : Hp}, Rd0 G m ρ S σ H → RepVs G.P G.w G.K m H G.mg xs us → Rd0 G m (Mi.setA ρ is xs) S (setV σ is us) H
  | [], _, _, _, _, _, _, _, R, _ => by simpa [Mi.setA, setV] using R
  | _ :: _, [], _, _, _, _, _, _, R, h => by cases h; exact R
  | i :: is, x :: xs, _, m, ρ, S, σ, H, R, ⟨u, r, e, h1, h2⟩ => by
    subst e
    exact Rd0.setA (m := m) (ρ := ρ.set i (some x)) (S := S) (σ := σ.set i (some u)) (H := H) (R.set i h1) h2
theorem s_parA {is : List Nat} {kt k2 n : Nat} {pt pt2 : Pos} (hc : X.calm = true) (ha : PAv X W es As) (hg : PGs X ts (rdV is)) (hn : (assignEach ts X.env).length = n := by rfl) (hst : (assignEach ts X.env).findIdx? (·.1) = none := by rfl) (hl : is.length = n := by rfl)
    (hs : swapsWithSole [.Tuple ts kt pt] (.Tuple es k2 pt2) pos.line X.env = pure false := by rfl) (hw : swappedStores [.Tuple ts kt pt] (.Tuple es k2 pt2) X.env = pure none := by rfl)
    (h1 : (assignEach [.Tuple ts kt pt] X.env).map (·.2) = [assign (.Tuple ts kt pt) X.env] := by rfl) : PSv X W (.Assign [.Tuple ts kt pt] (.Tuple es k2 pt2) pos) (dParL is As) :=
  PS.imp (ps_asg (pe_tup ha) (pg_tup hc hg hn hst) hs hw h1) fun D σ H h => by
    have h := tevSA_top (k := fun ρ xs S1 => if xs.length = is.length ∧ szOk xs.length = true then .next (setA ρ is xs) S1 else .bad) h
    exact tevA_get h fun us H1 ⟨m1, S1, xs, ρ, R, r, h⟩ => by
      split at h
      · rename_i hz
        have hlen := RepVs.length r
        refine ⟨by rw [← hlen]; exact sz_of hz.2, fun p np => ⟨p, us, rfl, SqT.of upd_same, by rw [← hlen, hz.1, hl], by rw [← hlen]; exact hz.1, ?_⟩⟩
        have ex : Ext m1 H1 m1 (upd H1 p (.tup us)) := Ext.upd np
        have R' : Rd0 (Gx.of X) m1 ρ S1 σ (upd H1 p (.tup us)) := R.ext ex (R.s.upd np)
        exact h m1 _ _ ex (R'.setA (RepVs.ext R.s.mok ex _ _ r))
      · exact h.elim
/-- f() -/
theorem r_call0 {x : Str} {k : Nat} {F : Fn} {p : Pos} (Fk : DefOk X.prog X.w X.K X.mg X.base k x 0 F) (tk : L2N.Takes X W) (hr : Room k X.A) (hg : Gl X x := by rfl) (hdb : (x == ("__debug__" : Str)) = false := by decide) : PEv X W (.Call (.Name x p) [] [] pos) (dCall F dNil) := by
  obtain ⟨f, fd, ps, hf, hm, hk, hb⟩ := Fk.ex
  refine ⟨fun pins s σ H Q I ⟨m, ρ, S, R, h⟩ => ?_⟩
  refine wpAny_Call_Name_kw (ld_glob I hg hm ?_ hdb)
  refine PySem.W.callWith_K0 I.kIn hk ?_
  exact run_fnS (us := []) hf hr hb (L2N.passAt tk σ) I .nil ⟨rfl, m, S, [], rfl, R.s, by
    revert h
    show PostE _ _ _ _ _ (F [] S) _ → _
    cases F [] S with
    | ok v S => exact fun z => z
    | err c f S => exact fun z => z
    | bad => exact fun z => z⟩
end
end Mi
set_option maxHeartbeats 2000000
namespace Mi
open PySem PySem.Spec PyProof.Rows L2
variable {X : Cx} {W : WX}
def bNewL : Fn := fun xs S => match xs with
  | [x] => match x.getR S with
    | some (.list ps) => .ok (.loc S.length) (S ++ [.lst ps])
    | some (.tuple ps) => .ok (.loc S.length) (S ++ [.lst ps])
    | _ => .bad
  | _ => .bad
theorem B_listN : Bf X (.type "list") bNewL := by
  intro W σ0 pins s σ H us vs Q I rv h
  obtain ⟨m, S, xs, rs, rx, h⟩ := h
  unfold bNewL at h
  split at h
  · obtain ⟨u, rfl, r⟩ := RepVs.one rx
    have fin : ∀ (ps : List PyData) (us : List V) (p : Addr), H p = none → Reps X.prog X.w X.K m H ps us → (∀ m' H' w, Ext m H m' H' → RepS X.prog X.w X.K m' H' (S ++ [.lst ps]) → RepV X.prog X.w X.K m' H' X.mg (.loc S.length) w → Q w H') → Q (.ref p) (upd H p (.lst us)) := fun ps us p np q h => by
      have ex : Ext m H (m.push p) (upd H p (.lst us)) := Ext.new1 np rs.mok
      have n := rs.new (o := .lst ps) np ⟨us, upd_same, Reps.go (Go.of rs.mok ex) _ _ q⟩
      exact h _ _ _ ex n ⟨by show _ < (m.st ++ [some p]).length; rw [List.length_append, rs.len]; simp, fun a ha => by have ha : (m.st ++ [some p])[S.length]? = some (some a) := ha; rw [← rs.len] at ha; simp at ha; rw [ha]⟩
    split at h
    · rename_i ps hp
      obtain ⟨a, us, rfl, hl, hr⟩ := listR r rs hp
      exact call_list_of pins s σ H _ vs Q I rv ⟨a, us, rfl, .inl hl, fun p np => fin _ _ p np hr h⟩
    · rename_i ps hp
      obtain ⟨a, us, rfl, hl, hr⟩ := notL r rs hp (fun _ z => by cases z)
      exact call_list_of pins s σ H _ vs Q I rv ⟨a, us, rfl, .inr hl, fun p np => fin _ _ p np hr h⟩
    · exact h.elim
  · exact h.elim
/-- list(range(j)) -/
def dLstRg (A : DE) : DE := fun ρ S => (A ρ S).bind fun x S1 => match x with
  | .pv (.int j) => if decide (0 ≤ j) && decide (j ≤ 1000) then .ok (.pv (.list ((List.range j.toNat).map fun i => .int (i : Nat)))) S1 else .bad
  | _ => .bad
theorem r_lstRg {A : DE} {a : Expr} {p p' pos pos' : Pos} (hc : X.calm = true) (hm1 : X.mg "list" = none) (hm2 : X.mg "range" = none) (ha : PEv X W a A) (hg1 : Gl X "list" := by rfl) (hg2 : Gl X "range" := by rfl)
    (na : starEach [a] X.env = (false, eval a X.env) :: starEach [] X.env := by rfl) (nb : starEach [.Call (.Name "range" p') [a] [] pos'] X.env = (false, eval (.Call (.Name "range" p') [a] [] pos') X.env) :: starEach [] X.env := by rfl) :
    PEv X W (.Call (.Name "list" p) [.Call (.Name "range" p') [a] [] pos'] [] pos) (dLstRg A) :=
  PE.imp (pe_listRg hc hg1 hm1 (prg_1 hg2 hm2 ha na) nb) fun σ H Q q => tev_get (tev_top q) fun v H' ⟨m1, S1, x, s1, r1, h1⟩ => by
    split at h1
    · rename_i j
      split at h1
      · rename_i hz
        simp only [Bool.and_eq_true, decide_eq_true_eq] at hz
        cases r1
        refine ⟨j, rfl, RgOk.of_le (by omega) (by omega) (by omega) (by omega), fun p np => h1 m1 _ _ (Ext.upd np) (s1.upd np) ?_⟩
        refine ⟨p, _, rfl, upd_same, s1.notin np, ?_⟩
        have e1 : rgV 0 j = ((List.range j.toNat).map fun i => ((i : Nat) : Int)).map V.int := by
          unfold rgV
          rw [List.map_map, Int.sub_zero]
          exact List.map_congr_left fun i _ => by simp
        have e2 : ((List.range j.toNat).map fun i => PyData.int ((i : Nat) : Int)) = ((List.range j.toNat).map fun i => ((i : Nat) : Int)).map PyData.int := by rw [List.map_map]; rfl
        rw [e1, e2]
        exact reps_ints _
      · exact h1.elim
    · exact h1.elim
end Mi
set_option maxHeartbeats 2000000
namespace Mi
open PySem PySem.Spec PyProof.Rows L2
section
variable {X : Cx} {pos : Pos}
def postD (X : Cx) (p : Addr) (Q : VK) : List (V × V) → Hp → Prop := fun ps H2 => ∃ x y, ps = [(x, y)] ∧ H2 p = some (.dK []) ∧
  ∃ m ps nk ka, x = .ref ka ∧ Rep X.prog X.w X.K m H2 (.tuple ps) x ∧ keyOf (.tuple ps) = some nk ∧ nk.depth ≤ 8 ∧ ∀ ep vv, RelV y vv → (p == sysModules) = false → Q (.ref p) (L2.upd H2 p (DictO X.prog X.w p ⟨ep, [(nk, ka, vv)]⟩))
/-- the new dict stands empty while key and value are made -/
def tDisp1 (X : Cx) (tk tv : TE) : TE := fun σ H Q => ∀ p, H p = none → tPairs [(tk, tv)] σ (L2.upd H p (.dK [])) (postD X p Q)
theorem pe_disp1 (hu : X.A.units + 65 < cLine) {k v : Expr} {tk tv : TE} (hk : PE X k tk) (hv : PE X v tv) : PE X (.Dict [some k] [v] pos) (tDisp1 X tk tv) := by
  refine ⟨fun pins s σ H Q I q => ?_⟩
  have hn := I.hok.fresh (Nat.le_refl s.heap.objs.size)
  have I1 := I.laid (a := s.heap.objs.size) (o := .dK []) (h' := s.heap.push { cls := .type "dict", data := .dict #[] }) (t' := s.toks) (fun _ _ q => Heap.get?_push_of_some _ q) (Nat.le_refl _) (dk_empty s.heap I.big)
  have room : (nestedKind X.prog X.w).room X.A := by show X.A.units + 8 < cLine; omega
  have P : PPs X pos [some k] [v] [(tk, tv)] := pps_cons hk hv pps_nil
  rw [arm_eval_Dict, zip_pairTrees [some k] [v] X.env pos rfl rfl, dictDisplay_pairs _ (by simp [pairTrees]) (by simp [pairTrees])]
  refine wpAny_bind (wpAny_standAt (wpAny_bind (wpAny_subDictH (knd := nestedKind X.prog X.w) (Q := fun d s' => wpAny (model X.prog X.w) X.A (pure (Value.ref d)) (EP X pins σ Q) X.xe s') room (by simp [pairTrees]) ?_)))
  refine thn (P.run pins _ σ _ _ I1 (q _ hn)) fun ws s2 ⟨ps, H2, I2, rel, x, y, ep, e, m, ps', nk, ka, ex, hr, e1, e2, q2⟩ => ?_
  subst ep
  cases rel with
  | @cons a1 b1 as bs h1 h2 =>
    cases h2
    obtain ⟨u, vv⟩ := b1
    obtain ⟨r1, r2⟩ := h1
    subst ex
    obtain rfl : u = Value.ref ka := r1
    obtain ⟨z, hd, vs0, r0, dd⟩ := dk_of I2.hok e
    cases r0
    have hkey : (nestedKind X.prog X.w).is s2.heap nk ka := ⟨nested_of I2 (.tuple ps') (.ref ka) _ nk e1 hr rfl, e2⟩
    have d0 : s2.heap.DictOfH (nestedKind X.prog X.w) s.heap.objs.size [] := by
      obtain ⟨o, es, ep, g1, g2, g3, _, g4, _⟩ := dd
      refine ⟨o, es, ep, g1, g2, g3, ?_, fun x hx => by simp at hx, List.nodup_nil⟩
      cases he : es.toList with
      | nil => rfl
      | cons c r => rw [he] at g4; cases g4
    refine ⟨[(nk, ka, vv)], ⟨rfl, rfl, hkey, trivial⟩, d0, fun h' tk hm' hs' => wpAny_pure ?_⟩
    obtain ⟨o', es, ep, g1, g2, g3, g4, g5, g6⟩ := hm'
    have g4' : es.toList = [(nk, ka, vv)].map (entryOfKey (nestedKind X.prog X.w)) := g4
    have I' := I2.write (x := s.heap.objs.size) (e := s.heap.objs.size) (o := DictO X.prog X.w s.heap.objs.size ⟨ep, [(nk, ka, vv)]⟩) (t' := tk) (h' := h') (by rw [e]; exact True.intro) (.inl rfl) (fun b u hb q => (hs'.2 b hb).trans q) ⟨_, g1⟩
      ⟨⟨o', es, g1, g2, g3, g4'⟩, ⟨_, g1⟩, fun h1 h2 ⟨o', es, g1, g2, g3, g4⟩ st => ⟨o', es, st _ g1, g2, g3, g4⟩⟩
    exact ⟨.ref s.heap.objs.size, _, I', rfl, q2 ep vv r2 hd⟩
end
section
variable {P : Program} {w : World} {K : PySem.W.Frag} {m : Mp} {H : Hp} {p : Addr} {ho : HO}
theorem go_dk (e : H p = some (.dK [])) : Go P w K m H (m.push p) (L2.upd H p ho) where
  tup := fun a us h => by
    rcases h with (h | ⟨o, h⟩) | h
    · exact .inl (.inl (by rw [upd_ne fun z => by rw [z, e] at h; cases h]; exact h))
    · exact .inl (.inr ⟨o, by rw [upd_ne fun z => by rw [z, e] at h; cases h]; exact h⟩)
    · exact .inr h
  lst := fun a us h n => by
    have na : a ≠ p := fun z => by rw [z, e] at h; cases h
    refine ⟨by rw [upd_ne na]; exact h, fun z => ?_⟩
    rcases z with z | z
    · rcases List.mem_append.mp z with z | z
      · exact n (.inl z)
      · simp at z; exact na z
    · exact n (.inr z)
  dct := fun a xs h n => by
    have na : a ≠ p := fun z => by rw [z, e] at h; unfold DictO at h; cases h
    refine ⟨by rw [upd_ne na]; exact h, fun z => ?_⟩
    rcases z with z | z
    · rcases List.mem_append.mp z with z | z
      · exact n (.inl z)
      · simp at z; exact na z
    · exact n (.inr z)
theorem RepS.newK {S : Sto} {o : Ob} (r : RepS P w K m H S) (e : H p = some (.dK [])) (np : ¬ m.has p) (q : RepO P w K (m.push p) (L2.upd H p ho) p o) :
    RepS P w K (m.push p) (L2.upd H p ho) (S ++ [o]) := by
  have g := go_dk (P := P) (w := w) (K := K) (m := m) (ho := ho) e
  have np' : some p ∉ m.st := fun z => np (.inl z)
  refine ⟨by simp [r.len], fun a ha => ⟨fun z => ?_, ?_⟩, tabs_upd r.tabs e (fun _ z => by cases z) (fun c q z => by unfold LamX.CodeO at z; cases z), fun i j a hi hj => ?_, fun l o' e' => ?_⟩
  · rcases List.mem_append.mp z with z | z
    · exact (r.av a ha).1 z
    · simp at z; subst z; exact np (.inr ha)
  · obtain ⟨o, e1, n⟩ := (r.av a ha).2
    exact ⟨o, by rw [upd_ne fun z => np (.inr (by rw [← z]; exact ha))]; exact e1, n⟩
  · have hin : ∀ (i : Nat) (a : Addr), (m.st ++ [some p])[i]? = some (some a) → (i < m.st.length ∧ m.st[i]? = some (some a)) ∨ (i = m.st.length ∧ a = p) := fun i a h => by
      by_cases hi : i < m.st.length
      · rw [List.getElem?_append_left hi] at h; exact .inl ⟨hi, h⟩
      · rw [List.getElem?_append_right (by omega)] at h
        have : i - m.st.length = 0 := by
          by_cases z : i - m.st.length = 0
          · exact z
          · rw [List.getElem?_eq_none (by simp; omega)] at h; cases h
        rw [this] at h; simp at h
        exact .inr ⟨by omega, h.symm⟩
    rcases hin i a hi with ⟨h1, h2⟩ | ⟨h1, h2⟩ <;> rcases hin j a hj with ⟨h3, h4⟩ | ⟨h3, h4⟩
    · exact r.nd i j a h2 h4
    · subst h4; exact absurd (List.mem_of_getElem? h2) np'
    · subst h2; exact absurd (List.mem_of_getElem? h4) np'
    · omega
  · by_cases hl' : l < S.length
    · rw [List.getElem?_append_left hl'] at e'
      have hml : l < m.st.length := by rw [r.len]; exact hl'
      rw [show (m.push p).st[l]? = m.st[l]? from List.getElem?_append_left hml]
      rcases r.ob l o' e' with q' | ⟨a, ea, q'⟩
      · exact .inl q'
      · refine .inr ⟨a, ea, ?_⟩
        have nap : a ≠ p := fun z => np' (z ▸ List.mem_of_getElem? ea)
        cases o' with
        | lst xs => obtain ⟨us, e1, q'⟩ := q'; exact ⟨us, by rw [upd_ne nap]; exact e1, Reps.go g xs us q'⟩
        | dct kvs => obtain ⟨xs, e1, y, z, d, q'⟩ := q'; exact ⟨xs, by rw [upd_ne nap]; exact e1, y, z, d, RepK.go g kvs xs.l q'⟩
        | dead => exact q'
        | tab _ _ => exact q'
    · have e0 : l = S.length := by
        have : l < (S ++ [o]).length := (List.getElem?_eq_some_iff.mp e').1
        simp at this; omega
      subst e0
      rw [List.getElem?_append_right (Nat.le_refl _)] at e'
      simp at e'
      subst e'
      exact .inr ⟨p, by rw [← r.len]; simp, q⟩
theorem Ext.push {m2 : Mp} {H2 : Hp} {o0 : HO} (np : H p = none) (x : Ext m (L2.upd H p o0) m2 H2) : Ext m H (m2.push p) (L2.upd H2 p ho) := by
  have E : Ext m H m2 H2 := (Ext.upd np).trans x
  exact ⟨fun a o e n t => by
    have na : a ≠ p := fun z => by rw [z, np] at e; cases e
    rw [upd_ne na]; exact E.keep a o e n t, fun a h => by
      rcases List.mem_append.mp h with h | h
      · exact E.fresh a h
      · simp at h; subst h; exact .inr (.of np), fun a h => E.frA a h, fun a h => E.avs a h, E.tbs, Nat.le_trans E.len (by simp), fun l a hl h => by
        rw [List.getElem?_append_left (Nat.lt_of_lt_of_le hl E.len)] at h
        exact E.pre l a hl h⟩
end
/-- {key: value} -/
def dDct1 (A B : DE) : DE := fun ρ S => (A ρ S).bind fun x S1 => (B ρ S1).bind fun y S2 => match x with
  | .pv kp => match y with
    | .pv v => match dkey kp with
      | some _ => .ok (.loc S2.length) (S2 ++ [.dct [(kp, v)]])
      | none => .bad
    | _ => .bad
  | _ => .bad
theorem r_dct1 {X : Cx} {W : WX} {pos : Pos} {A B : DE} {a b : Expr} (hu : X.A.units + 65 < cLine) (ha : PEv X W a A) (hb : PEv X W b B) : PEv X W (.Dict [some a] [b] pos) (dDct1 A B) :=
  PE.imp (pe_disp1 hu ha hb) fun σ H Q ⟨m, ρ, S, R, h⟩ => by
    intro p np
    have ex : Ext m H m (L2.upd H p (.dK [])) := Ext.upd np
    show tev (Gx.of X) W A σ (L2.upd H p (.dK [])) fun x H1 => tev (Gx.of X) W B σ H1 fun y H2 => postD X p Q [(x, y)] H2
    have R1 := R.ext ex (R.s.upd np)
    refine ⟨m, ρ, S, R1, ?_⟩
    unfold dDct1 at h
    cases hA : A ρ S with
    | err c f S1 => rw [hA] at h; exact PostE.ext (G := Gx.of X) h ex
    | bad => rw [hA] at h; exact h.elim
    | ok x S1 =>
      rw [hA] at h
      intro m1 H1 u e1 s1 r1
      refine ⟨m1, ρ, S1, R1.ext e1 s1, ?_⟩
      rw [Res.bind_ok] at h
      cases hB : B ρ S1 with
      | err c f S2 => rw [hB] at h; exact PostE.ext (G := Gx.of X) h (ex.trans e1)
      | bad => rw [hB] at h; exact h.elim
      | ok y S2 =>
        rw [hB, Res.bind_ok] at h
        intro m2 H2 v e2 s2 r2
        have r1' := RepV.ext r1 s1.mok e2
        have E2 := e1.trans e2
        split at h
        · split at h
          · split at h
            · rename_i kp vp nk hk
              obtain ⟨⟨ps, rfl⟩, k1, k2⟩ := dkey_of hk
              have hr : Rep X.prog X.w X.K m2 H2 (.tuple ps) u := r1'
              obtain ⟨ka, us, rfl, hT, hrs⟩ := id hr
              have hp : H2 p = some (.dK []) := E2.keep p _ upd_same (fun z => R.s.notin np (.inl z)) (fun _ z => by cases z)
              have nh : ¬ m2.has p := fun z => by
                rcases z with z | z
                · rcases E2.fresh p z with z | z
                  · exact R.s.notin np (.inl z)
                  · obtain ⟨_, y⟩ := z _ upd_same; cases y
                · rcases E2.frA p z with z | z
                  · exact R.s.notin np z
                  · obtain ⟨_, y⟩ := z _ upd_same; cases y
              refine ⟨_, _, rfl, hp, m2, ps, nk, ka, rfl, hr, k1, k2, fun ep vv hv hs => ?_⟩
              have g := go_dk (P := X.prog) (w := X.w) (K := X.K) (m := m2) (ho := DictO X.prog X.w p ⟨ep, [(nk, ka, vv)]⟩) hp
              refine h (m2.push p) _ _ (Ext.push np E2) (s2.newK hp nh ⟨⟨ep, [(nk, ka, vv)]⟩, upd_same, hs, by simp [sizeLine_eq], by simp, nk, ka, vv, v, [], rfl, k1, k2, Rep.go g _ _ hr, hv, Rep.go g _ _ r2, rfl⟩) ⟨by show _ < (m2.st ++ [some p]).length; rw [List.length_append, s2.len]; simp, fun a ha => by have ha : (m2.st ++ [some p])[S2.length]? = some (some a) := ha; rw [← s2.len] at ha; simp at ha; rw [ha]⟩
            · exact h.elim
          · exact h.elim
        · exact h.elim
end Mi
namespace Mi
open PySem PySem.Spec PyProof.Rows L2
/-- a statement of which nothing is claimed (it is never reached) -/
def dBadS : DS := fun _ _ => .bad
theorem s_bad {X : Cx} {W : WX} {st : Stmt} : PSv X W st dBadS := ⟨fun _ _ _ _ _ _ ⟨_, _, _, _, h⟩ => h.elim⟩
theorem ap_BadS {ρ : En} {S : Sto} : dBadS ρ S = .bad := rfl
end Mi
set_option maxHeartbeats 2000000
namespace Mi
open PySem PySem.Spec PyProof.Rows L2
/-- a text's method with one argument -/
def dM1 (f : Str → PyData → Option PyData) (A B : DE) : DE := fun ρ S => (A ρ S).bind fun x S1 => match x with
  | .pv (.str a) => (B ρ S1).bind fun y S2 => match y with
    | .pv p => match f a p with
      | some z => .ok (.pv z) S2
      | none => .bad
    | _ => .bad
  | _ => .bad
section
variable {X : Cx} {W : WX} {A B : DE} {a b : Expr}
theorem r_m1 {ex : Expr} {f : Str → PyData → Option PyData} {r : V → List V → Hp → VK → Prop} (rule : PE X ex (tM1 r (tev (Gx.of X) W A) (tev (Gx.of X) W B)))
    (hr : ∀ (m : Mp) (H : Hp) (S : Sto) (a : Str) (p z : PyData) (v : V) (Q : VK), RepS X.prog X.w X.K m H S → Rep X.prog X.w X.K m H p v → f a p = some z → (∀ m' H' w, Ext m H m' H' → RepS X.prog X.w X.K m' H' S → Rep X.prog X.w X.K m' H' z w → Q w H') → r (.str a) [v] H Q) :
    PEv X W ex (dM1 f A B) := PE.imp rule fun σ H Q ⟨m, ρ, S, R, h⟩ => by
  refine ⟨m, ρ, S, R, ?_⟩
  unfold dM1 at h
  cases hA : A ρ S with
  | err c g S1 => rw [hA] at h; exact h
  | bad => rw [hA] at h; exact h.elim
  | ok x S1 =>
    rw [hA, Res.bind_ok] at h
    intro m1 H1 u e1 s1 r1
    split at h
    · rename_i a
      obtain rfl : u = .str a := r1
      refine ⟨⟨a, rfl⟩, m1, ρ, S1, R.ext e1 s1, ?_⟩
      cases hB : B ρ S1 with
      | err c g S2 => rw [hB] at h; exact PostE.ext (G := Gx.of X) h e1
      | bad => rw [hB] at h; exact h.elim
      | ok y S2 =>
        rw [hB, Res.bind_ok] at h
        intro m2 H2 v e2 s2 r2
        split at h
        · rename_i p
          split at h
          · rename_i z hz
            exact hr m2 H2 S2 a p z v Q s2 r2 hz fun m' H' w e s r => h m' H' w ((e1.trans e2).trans e) s r
          · exact h.elim
        · exact h.elim
    · exact h.elim
def strsOf : List PyData → Option (List Str)
  | [] => some []
  | .str x :: r => (strsOf r).map fun ys => x :: ys
  | _ :: _ => none
theorem strsOf_map : ∀ l : List Str, strsOf (l.map .str) = some l
  | [] => rfl
  | x :: l => by simp [strsOf, strsOf_map l]
theorem reps_strs {P : Program} {w : World} {K : PySem.W.Frag} {m : Mp} {H : Hp} : ∀ l : List Str, Reps P w K m H (l.map .str) (l.map V.str)
  | [] => rfl
  | i :: r => ⟨_, _, rfl, rfl, reps_strs r⟩
theorem strs_reps {P : Program} {w : World} {K : PySem.W.Frag} {m : Mp} {H : Hp} : ∀ {ps : List PyData} {ys : List Str} {us : List V}, strsOf ps = some ys → Reps P w K m H ps us → us = ys.map V.str
  | [], ys, us, e, h => by cases e; exact h
  | p :: ps, ys, us, e, ⟨u, r, eu, h1, h2⟩ => by
    cases p with
    | str x =>
      simp only [strsOf, Option.map_eq_some_iff] at e
      obtain ⟨ys', e', rfl⟩ := e
      obtain rfl : u = .str x := h1
      rw [eu, strs_reps e' h2]; rfl
    | _ => simp [strsOf] at e
def joinS (a : Str) (ps : List PyData) : Option PyData := match strsOf ps with
  | some ys => if szOk ((ys.map (·.length)).sum + ys.length * a.length) then some (.str (Txt.join a ys)) else none
  | none => none
def fJoin (a : Str) : PyData → Option PyData
  | .list ps => joinS a ps
  | .tuple ps => joinS a ps
  | _ => none
def fSplit (a : Str) : PyData → Option PyData
  | .str b => if !(b.length == 0) && decide (a.length ≤ 100000) then some (.list ((Txt.split a b).map .str)) else none
  | _ => none
theorem r_join {apos pos : Pos} (ho : PEv X W a A) (he : PEv X W b B) (hs : starEach [b] X.env = [(false, eval b X.env)] := by rfl) (hbase : attributeBase a "join" X.env (eval a X.env) = eval a X.env := by rfl) (hline : (apos.endLine == pos.line) = true := by rfl) :
    PEv X W (.Call (.Attribute a "join" apos) [b] [] pos) (dM1 fJoin A B) :=
  r_m1 (pe_join ho he hs hbase hline) fun m H S t p z v Q s r e k => by
    unfold fJoin at e
    split at e
    · unfold joinS at e
      split at e
      · rename_i ys hy
        split at e
        · rename_i hz
          cases e
          obtain ⟨l, us, rfl, hl, hn, hr⟩ := r
          have hu := strs_reps hy hr
          subst hu
          exact ⟨t, l, ys, rfl, rfl, .inl (SqL.of hl), of_decide_eq_true hz, k m H _ (Ext.refl _ _) s rfl⟩
        · cases e
      · cases e
    · unfold joinS at e
      split at e
      · rename_i ys hy
        split at e
        · rename_i hz
          cases e
          obtain ⟨l, us, rfl, hl, hr⟩ := r
          have hu := strs_reps hy hr
          subst hu
          exact ⟨t, l, ys, rfl, rfl, .inr hl, of_decide_eq_true hz, k m H _ (Ext.refl _ _) s rfl⟩
        · cases e
      · cases e
    · cases e
theorem r_split {apos pos : Pos} (ho : PEv X W a A) (he : PEv X W b B) (hs : starEach [b] X.env = [(false, eval b X.env)] := by rfl) (hbase : attributeBase a "split" X.env (eval a X.env) = eval a X.env := by rfl) (hline : (apos.endLine == pos.line) = true := by rfl) :
    PEv X W (.Call (.Attribute a "split" apos) [b] [] pos) (dM1 fSplit A B) :=
  r_m1 (pe_split ho he hs hbase hline) fun m H S t p z v Q s r e k => by
    unfold fSplit at e
    split at e
    · rename_i y
      split at e
      · rename_i hz
        cases e
        simp only [Bool.and_eq_true, Bool.not_eq_true', decide_eq_true_eq] at hz
        obtain rfl : v = .str y := r
        refine ⟨t, y, rfl, rfl, hz.1, by rw [sizeLine_eq]; omega, fun p np => k m _ _ (Ext.upd np) (s.upd np) ⟨p, _, rfl, upd_same, s.notin np, reps_strs _⟩⟩
      · cases e
    · cases e
/-- a name of the module that stands for a tuple of texts -/
def gtB (K : PySem.W.Frag) (x : Str) (l : List Str) : Bool := He.tupB K x (l.map .str)
theorem r_gtup {x : Str} {l : List Str} {pos : Pos} (hg : Gl X x) (hm : X.mg x = some (.ref (He.ga X.K x))) (hT : gtB X.K x l = true) (hd : (x == ("__debug__" : Str)) = false := by decide) : PEv X W (.Name x pos) (dC (.tuple (l.map .str))) :=
  PE.imp (pe_glob (v := .ref (He.ga X.K x)) hg hm rfl hd) fun σ H Q ⟨m, ρ, S, R, h⟩ => post_ok h R.s ⟨He.ga X.K x, l.map V.str, rfl, by
    have e := He.tupB_ok hT H
    rw [List.map_map] at e
    exact e, reps_strs l⟩
end
end Mi
set_option maxHeartbeats 4000000
namespace Mi
open PySem PySem.Spec PyProof.Rows L2
/-- .. of a class of the text whose __init__ is ValueError's -/
def sinB (K : PySem.W.Frag) (S : Addr) : Bool := decide (PySem.W.specialIn K (.ref S) "__getattribute__" = some (some (.builtin "type.__getattribute__"))) && (PySem.W.readsIn K S (.type "type") && (match PySem.W.findCls K (.ref S) (.type "type") "__init__" with
  | some (.val (.builtin n)) => decide (n = "ValueError.__init__")
  | _ => false))
section
variable {X : Cx} {o e : Expr} {es : List Expr} {to te : TE} {ta : TA} {f : Str} {p p' p1 p2 pos : Pos}
theorem pe_sinit {x : Str} {S : Addr} {pl : Sem Bool} (hg : Gl X x) (hm : X.mg x = some (.ref S)) (hS : sinB X.K S = true) (ha : PA X (e :: es) ta) (hdb : (x == ("__debug__" : Str)) = false := by decide)
    (hc : eval (.Call (.Attribute (.Name x p1) "__init__" p2) (e :: es) [] pos) X.env = (do
      let ov ← eval (.Name x p1) X.env
      standAt p2.atName
      let (f, first) ← holding [ov] (getMethod ov "__init__" pl)
      callWith pos f first (backTo pos (starEach (e :: es) X.env)) (backToKw pos (keywordEach [] X.env))) := by rfl)
    (he : starEach (e :: es) X.env = (false, eval e X.env) :: starEach es X.env := by rfl) (hpl : (backTo pos (starEach es X.env)).any (·.1) = false := by rfl) :
    PE X (.Call (.Attribute (.Name x p1) "__init__" p2) (e :: es) [] pos) (tVeI X.K ta) := by
  simp only [sinB, Bool.and_eq_true, decide_eq_true_eq] at hS
  obtain ⟨h1, h2, h3⟩ := hS
  have hf : PySem.W.findCls X.K (.ref S) (.type "type") "__init__" = some (.val (.builtin "ValueError.__init__")) := by
    split at h3
    · rename_i n en
      rw [en, of_decide_eq_true h3]
    · cases h3
  refine ⟨fun pins s σ H Q I h => ?_⟩
  refine PySem.W.methodCall_KW (ld_glob I hg hm ?_ hdb) hc
  refine PySem.W.method_cls I.kIn h1 (PySem.W.cls_value I.kIn h2 hf (by decide +kernel) ?_)
  show wpAny _ _ (callWith pos (Value.builtin "ValueError.__init__") [] (backTo pos (starEach (e :: es) X.env)) []) _ _ _
  refine PyProof.Rows.callWith_method1 (thn (ha.run pos pins _ σ H _ (I.tok _) h) fun us s1 ⟨vs, H1, I1, r1, a, C, ws, ev, hl, T, ea, q⟩ => ?_) he hpl
  subst ev
  cases r1 with
  | @cons _ u0 _ ur ra rw' =>
    obtain rfl : u0 = Value.ref a := ra
    have hlen : ur.length ≤ sizeLine := by
      rw [← Paired.length rw', sizeLine_eq]
      omega
    exact oinit_ok T I1 ea hlen fun s' J => ⟨.non, H1, J, rfl, q⟩
theorem mk_endN {pins : List (Addr × Obj)} {σ : L2.St} {H1 H2 : Hp} {Q : XK} {hp hp2 h2 : Heap} {g1 g2 : Array GenState} {d1 d2 : Drawn} {t1 t2 : Nat} {os1 os2 : OsState} {a C d : Addr} {fs : List (Str × V)} (T : Raises X (.ref C)) (I1 : Inv X pins σ H1 ⟨hp, g1, d1, t1, os1⟩)
    (ha : hp.objs.size ≤ a) (k : ∀ b o, hp.get? b = some o → hp2.get? b = some o) (un : Un (frs X.stack) [] (upd H1 a (exo a C none)) H2 hp2 h2) (hok : HOk X.prog X.w H2 h2) (ho : os2 = os1) (hb : AllBare g2)
    (ea : H2 a = some (exo a C (some d))) (ed : H2 d = some (exd d fs)) (hd1 : H1 d = none) (q : Q (.ref C) (some d) (upd (del H2 a) d (.xd fs))) : L2N.MkP X pins σ Q (.ref a) ⟨h2, g2, d2, t2, os2⟩ := by
  obtain ⟨t0, G, J, kG, ge, hoe, na⟩ := mk_end0 (d2 := d2) (t2 := t2) I1 ha k un hok ho hb ea ed hd1
  exact ⟨a, _, _, ⟨G, g2, d2, t2, os2⟩, _, .ref C, some d, rfl, J, kG, ge, hoe, ⟨rfl, rfl, fun vs e => by cases e; rfl⟩, rfl, rfl, na, rfl, hb, T, q⟩
theorem pmk_oexN {x : Str} {C fI : Addr} {k : Nat} {fd : FuncData} {ps : List Str} {sp : Sp} {ds : List Value} {dvs : List V} (T : OexC X.K C) (iC : PySem.W.findIn X.K (.ref C) "__init__" = some (some (.ref fI))) (tI : PySem.W.typeIn X.K (.ref fI) = some (.type "function"))
    (F1 : FnOk X.prog X.w X.K X.mg X.base (L2N.CX X.prog X.w) k fI fd ps sp) (hr : Room (k + 1) X.A) (hb : Binds X.K fd ps ds) (hd : Vals dvs ds) (hg : Gl X x) (hm : X.mg x = some (.ref C)) (ha : PA X (e :: es) ta)
    (hdb : (x == ("__debug__" : Str)) = false := by decide) (he : starEach (e :: es) X.env = (false, eval e X.env) :: starEach es X.env := by rfl) (hpl : (backTo pos (starEach es X.env)).any (·.1) = false := by rfl) :
    L2N.PMk X (.Call (.Name x p) (e :: es) [] pos) (tMkO C sp dvs ta) := by
  intro pins s σ H Q I h
  obtain ⟨nm, q, N, bs, bm, sn, sub, ab, col, dd, k0, k1, k2, k3, k5, hC, hbm⟩ := T.cls
  refine wpAny_Call_Name_kw (ld_glob I hg hm ?_ hdb)
  refine PySem.W.callWith_K (h₀ := X.base) I.ok.mod.kin T.kC (thn (ha.run pos pins s σ H _ I h) fun us s1 ⟨vs, H1, I1, r1, hz, q1⟩ => ⟨I1.kIn, ?_⟩) he hpl
  show wpAny _ _ (call (.ref C) us) _ _ _
  obtain ⟨hp, g, dr, tk, os⟩ := s1
  have hsz : hp.objs.size ≤ hp.objs.size + 1 := Nat.le_succ _
  have hn : H1 (hp.objs.size + 1) = none := I1.hok.fresh hsz
  have hq := q1 (hp.objs.size + 1) hn
  have kk : ∀ b o, hp.get? b = some o → ((hp.push (PySem.W.kdv_tup us)).push (PySem.HandSPX.excO C hp.objs.size)).get? b = some o := fun b o e => Heap.get?_push_of_some _ (Heap.get?_push_of_some _ e)
  have hget : ((hp.push (PySem.W.kdv_tup us)).push (PySem.HandSPX.excO C hp.objs.size)).get? (hp.objs.size + 1) = some (PySem.HandSPX.excO C hp.objs.size) := by heap_get
  have I2 : Inv X pins σ (upd H1 (hp.objs.size + 1) (exo (hp.objs.size + 1) C none)) ⟨(hp.push (PySem.W.kdv_tup us)).push (PySem.HandSPX.excO C hp.objs.size), g, dr, tk, os⟩ :=
    I1.laid (t' := tk) (a := hp.objs.size + 1) (o := exo (hp.objs.size + 1) C none) (h' := (hp.push (PySem.W.kdv_tup us)).push (PySem.HandSPX.excO C hp.objs.size)) kk hsz (exo_ok hget)
  have r2 : Vals (V.ref (hp.objs.size + 1) :: (vs ++ dvs)) (Value.ref (hp.objs.size + 1) :: (us ++ ds)) := .cons rfl (r1.append hd)
  have hl : (Value.ref (hp.objs.size + 1) :: us ++ ds).length = ps.length := by
    have e := r2.length
    rw [F1.len _ _ _ _ hq] at e
    exact e.symm
  have hus : us.length ≤ sizeLine := by
    rw [← Paired.length r1, sizeLine_eq]
    omega
  refine wpAny_call (PySem.HandSPX.call_own F.excBase_ValueError (fun Y => PySem.HandSPX.refsVE_contains Y bm hbm) (I1.kIn _ _ hC) (PySem.W.looks_findIn I1.kIn iC) (fun self => PySem.W.bind_fn I1.kIn self tI) hus
    (codeAny_mono (F1.run _ X.stack _ _ ⟨Value.ref (hp.objs.size + 1) :: us, []⟩ (Value.ref (hp.objs.size + 1) :: (us ++ ds)) _ _ (fun _ _ _ => False) (hr.make C us []) (I2.env0.make C us []) (hb _ (Value.ref (hp.objs.size + 1) :: us) I2.kIn hl) r2 hq) fun r s' hq' => ?_))
  cases r with
  | error er =>
    obtain ⟨_, _, _, _, _, _, _, _, _, _, _, _, z⟩ := hq'
    exact z.elim
  | ok fl =>
    cases fl with
    | ret u =>
      obtain ⟨v, H2, os2, bare2, un2, hok2, rv, ev, d, fs, ea, ed, hd1, q2⟩ := hq'
      subst ev
      obtain ⟨h2, g2, d2, t2, os'⟩ := s'
      exact ⟨rv, mk_endN (raises_own T.exC T.tyC) I1 hsz kk un2 hok2 os2 bare2 ea ed hd1 q2⟩
    | next => exact False.elim hq'
    | brk => exact False.elim hq'
    | cont => exact False.elim hq'
end
/-- what the run of the head tells of the class at C (its __init__ keeps the field f) -/
def oexB (K : PySem.W.Frag) (C : Addr) (f : Str) : Bool := (match K.lookup C with
  | some ⟨.type "type", _, .cls cd, sl⟩ => (match cd.mro, sl.toList with
    | .ref C' :: bm, [_, _, _, _, some (.builtin n), _] => decide (C' = C) && (decide (n = "ValueError.__new__") && (!cd.hasDel && (cd.hasDict && PySem.HandSPX.refsVE bm)))
    | _, _ => false)
  | _ => false) && (decide (PySem.W.findIn K (.ref C) "__setattr__" = some (some (.builtin "object.__setattr__"))) && (decide (PySem.W.subIn K (.ref C) (.type "BaseException") = some true) && (decide (PySem.W.typeIn K (.ref C) = some (.type "type")) && (PySem.W.keepIn K (.ref C) &&
  (decide (PySem.W.findIn K (.ref C) "__init__" = some (some (.ref (He.ma K C "__init__")))) && (decide (PySem.W.typeIn K (.ref (He.ma K C "__init__")) = some (.type "function")) && decide (PySem.W.findIn K (.ref C) f = some none)))))))
theorem oex_of {K : PySem.W.Frag} {C : Addr} {f : Str} (h : oexB K C f = true) : OexC K C ∧ PySem.W.findIn K (.ref C) "__init__" = some (some (.ref (He.ma K C "__init__"))) ∧ PySem.W.typeIn K (.ref (He.ma K C "__init__")) = some (.type "function") ∧ PySem.W.findIn K (.ref C) f = some none := by
  unfold oexB at h
  obtain ⟨h0, h⟩ := He.ba h
  simp only [Bool.and_eq_true, decide_eq_true_eq] at h
  obtain ⟨h1, h2, h3, h4, h5, h6, h7⟩ := h
  refine ⟨⟨?_, h1, h2, h3, h4⟩, h5, h6, h7⟩
  split at h0
  · rename_i dd cd sl ho
    split at h0
    · rename_i C' bm k0 k1 k2 k3 n k5 hm hs
      simp only [Bool.and_eq_true, decide_eq_true_eq, Bool.not_eq_true'] at h0
      obtain ⟨rfl, rfl, hdel, hdict, ht⟩ := h0
      obtain ⟨nm, bs, mro, ns, qn, hd, sn, sub, ab, col, del⟩ := cd
      dsimp only at hm hdel hdict
      subst hm hdel hdict
      have hsl : sl = #[k0, k1, k2, k3, some (.builtin "ValueError.__new__"), k5] := by
        obtain ⟨l⟩ := sl
        simp only at hs
        rw [hs]
      subst hsl
      exact ⟨nm, qn, ns, bs, bm, sn, sub, ab, col, dd, k0, k1, k2, k3, k5, ho, ht⟩
    · cases h0
  · cases h0
/-- __init__ keeps its argument in the field f -/
def spI (K : PySem.W.Frag) (f : Str) : Sp := fun vs H Q _ => ∃ (a C : Addr) (v : V), vs = [.ref a, v] ∧ OexC K C ∧ PySem.W.findIn K (.ref C) f = some none ∧ H a = some (exo a C none) ∧
  ∀ dx, H dx = none → dx ≠ a → Q .non (L2.upd (L2.upd H dx (exd dx [(f, v)])) a (exo a C (some dx)))
/-- the class x may be raised with an argument, kept in the field f -/
structure OeOk (P : Program) (w : World) (K : PySem.W.Frag) (mg : Str → Option Value) (base : Heap) (k : Nat) (x f : Str) : Prop where
  gC : mg x = some (.ref (He.ga K x))
  b : oexB K (He.ga K x) f = true
  ex : ∃ fd ps, FnOk P w K mg base (L2N.CX P w) k (He.ma K (He.ga K x) "__init__") fd ps (spI K f) ∧ Binds K fd ps []
def mSt (st : Stmt) (j : Nat) : Stmt := match st with
  | .ClassDef _ _ _ body _ _ _ _ _ _ _ => body.getD j (.Pass ⟨0, 0, 0, 0⟩)
  | s => s
abbrev mOf (c m : Str) (st : Stmt) : He.DefD := ⟨(c, some m), m, (c ++ ".") ++ m, defArgs st, defBody st, defScope st, [], []⟩
/-- the body of such an __init__, read -/
abbrev tIni (K : PySem.W.Frag) (f msg : Str) : TS := tSeq (tDrop (tVeI K (tCons (tVar 0) (tCons (tC (.str msg)) tNil)))) (tOst K f (tVar 0) (tVar 1))
theorem oe_ok {fa : List He.Fa} {fn : List He.DefD} {P : Program} {w : World} {K : PySem.W.Frag} {mg : Str → Option Value} {base : Heap} {x f msg : Str} {st : Stmt} {N ps : List Str} (T : Tx fa fn K mg) (hd : mOf x "__init__" st ∈ fn) (hx : He.Fa.glo x ∈ fa) (hb : oexB K (He.ga K x) f = true)
    (S : FnScope N ps (defScope st)) (hps : ps.length = 2) (hN : N.length = 2)
    (hder : ∀ (cd : Value) (A : Around) (outer : List Env) (s : Shared) (H : Hp) (E : XK), PSs (cxOf (L2N.CX P w) P w K mg base N ((x ++ ".") ++ "__init__") (defScope st) (He.ma K (He.ga K x) "__init__") cd A outer s H E) (defBody st) (tIni K f msg))
    (hbd : ∀ (kV doc pm : Value) (an : Option Addr) (cdv ct : Value) (us : List Value), us.length = ps.length → bindArgs (PySem.W.fnOf "__init__" ((x ++ ".") ++ "__init__") (defArgs st) (defBody st) (defScope st) .none kV doc pm an cdv ct) ⟨us, []⟩ = pure (ps.zip us)) :
    OeOk P w K mg base 1 x f := by
  obtain ⟨fd, F⟩ := T.df _ hd
  have F : FunD K "__init__" ((x ++ ".") ++ "__init__") (defArgs st) (defBody st) (defScope st) [] [] (He.ma K (He.ga K x) "__init__") fd := F
  refine ⟨T.gl x hx, hb, fd, ps, ?_, F.bindsN hbd⟩
  obtain ⟨oc, od, dV, kV, doc, pm, an, cdv, ct, osl, e, lk, hcd, hdv, _⟩ := F.ex
  have hV : dV = .none := hdv.elim (fun z => z.2) fun z => absurd rfl z.1
  subst hV e
  refine fn_of (k := 0) lk hcd S (fun vs H Q E ⟨a, C, v, ev, _⟩ => by rw [ev, hps]; rfl) fun A outer s H vs Q E hr ⟨a, C, v, ev, hC, hf, ha, hq⟩ => ?_
  subst ev
  refine ⟨_, hder cdv A outer s H E, ?_⟩
  have s0 : (L2.start N [V.ref a, v])[0]? = some (some (V.ref a)) := by simp [L2.start]
  have s1 : (L2.start N [V.ref a, v])[1]? = some (some v) := by simp [L2.start]
  exact ⟨.ref a, s0, a, C, [.str msg], rfl, by simp, hC, ha, v, s1, .ref a, s0, a, C, rfl, hC, hf, .inl ⟨ha, fun dx n ne => hq dx n ne⟩⟩
/-- raise x(e), the argument kept in the field f -/
def dRaiseO (x f : Str) (A : DE) : DS := fun ρ S => (A ρ S).s ρ fun v S1 => match v with
  | .pv p => .err x (some (f, p)) ρ S1
  | _ => .bad
@[simp] theorem ap_RaiseO (x f : Str) (A : DE) (ρ : En) (S : Sto) : dRaiseO x f A ρ S = (A ρ S).s ρ fun v S1 => match v with | .pv p => .err x (some (f, p)) ρ S1 | _ => .bad := rfl
section
variable {X : Cx} {W : WX} {pos : Pos} {A : DE} {a : Expr}
theorem s_raiseO {x f : Str} {k : Nat} {p p3 : Pos} (hc : X.calm = true) (tk : L2N.Takes X W) (O : OeOk X.prog X.w X.K X.mg X.base k x f) (hr : Room (k + 1) X.A) (ha : PEv X W a A) (hg : Gl X x := by rfl) (hdb : (x == ("__debug__" : Str)) = false := by decide)
    (hs : starEach [a] X.env = (false, eval a X.env) :: starEach [] X.env := by rfl) (hpl : (backTo p3 (starEach [] X.env)).any (·.1) = false := by rfl) : PSv X W (.Raise (some (.Call (.Name x p) [a] [] p3)) none pos) (dRaiseO x f A) := by
  obtain ⟨hC, iC, tI, hf⟩ := oex_of O.b
  obtain ⟨fd, ps, F1, hb⟩ := O.ex
  refine PS.imp (L2N.ps_raise hc tk (pmk_oexN hC iC tI F1 hr hb .nil hg O.gC (pa_cons ha pa_nil hs) hdb hs hpl)) fun D σ H ⟨m, ρ, S, R, h⟩ => ?_
  show tev (Gx.of X) W A σ H fun v H1 => [v].length ≤ 1000 ∧ ∀ a, H1 a = none → spI X.K f (.ref a :: ([v] ++ [])) (L2.upd H1 a (exo a (He.ga X.K x) none)) _ _
  refine ⟨m, ρ, S, R, ?_⟩
  unfold dRaiseO at h
  cases hA : A ρ S with
  | err c g S1 => rw [hA] at h; exact fun m' H' cls d e s r => h m' H' σ cls d e (R.ext e s) r
  | bad => rw [hA] at h; exact h.elim
  | ok v S1 =>
    rw [hA, Res.s_ok] at h
    cases v with
    | pv q =>
      intro m1 H1 u e1 s1 r1
      refine ⟨by simp, fun b nb => ⟨b, He.ga X.K x, u, rfl, hC, hf, upd_same, fun dx nd ne => ?_⟩⟩
      have nd1 : H1 dx = none := by rw [upd_ne ne] at nd; exact nd
      refine ⟨rfl, dx, [(f, u)], upd_same, by rw [upd_ne ne, upd_same], nd1, ?_⟩
      have eH : L2.upd (del (L2.upd (L2.upd (L2.upd H1 b (exo b (He.ga X.K x) none)) dx (exd dx [(f, u)])) b (exo b (He.ga X.K x) (some dx))) b) dx (.xd [(f, u)]) = L2.upd H1 dx (.xd [(f, u)]) := by
        funext c
        by_cases hcd : c = dx
        · rw [hcd, upd_same, upd_same]
        · rw [upd_ne hcd, upd_ne hcd]
          by_cases hcb : c = b
          · rw [hcb, del_same, nb]
          · rw [del_ne hcb, upd_ne hcb, upd_ne hcd, upd_ne hcb]
      rw [eH]
      have ex : Ext m1 H1 m1 (L2.upd H1 dx (.xd [(f, u)])) := Ext.upd nd1
      exact h m1 _ σ _ _ (e1.trans ex) ((R.ext e1 s1).ext ex (s1.upd nd1)) ⟨He.ga X.K x, O.gC, rfl, dx, u, rfl, upd_same, RepV.ext (x := .pv q) r1 s1.mok ex⟩
    | _ => exact h.elim
end
end Mi
set_option maxHeartbeats 4000000
namespace Mi
open PySem PySem.Spec PyProof.Rows L2
theorem says_of {as : List Addr} {fa : List He.Fa} {fn : List He.DefD} {ts : List He.Tab} {tf : List He.Defn} {ex : PySem.W.Frag → Bool} {w : World} {h : Heap}
    (e : ((He.obsT fa fn ts (He.frT h.get? as), ex (He.frT h.get? as) && He.tabsB h.get? tf (He.frT h.get? as)) : He.AlX) = He.valX fn ts w) : He.SaysX fa fn ts tf ex w h (He.frT h.get? as) := by
  obtain ⟨e1, e2⟩ := Prod.mk.inj e
  obtain ⟨h1, h2⟩ := He.ba e2
  have key : ∀ p ∈ tf, PySem.W.codeHdIn (He.frT h.get? as) (He.cT (He.frT h.get? as) p).1 (He.cT (He.frT h.get? as) p).2 = true ∧ ∃ o, h.get? (He.cT (He.frT h.get? as) p).2 = some o ∧ He.emptyTab o = true := fun p hp => by
    obtain ⟨h3, h4⟩ := He.ba (List.all_eq_true.mp h2 p hp)
    refine ⟨h3, ?_⟩
    split at h4
    · rename_i o q
      exact ⟨o, q, h4⟩
    · cases h4
  refine ⟨e1, h1, fun p hp => (key p hp).1, fun p hp => ?_, fun p hp => ?_⟩
  · obtain ⟨_, o, q, z⟩ := key p hp
    exact He.frT_none q z
  · obtain ⟨_, o, q, z⟩ := key p hp
    rw [q, He.emptyTab_eq z]
def obsY (n : Nat) (fa : List He.Fa) (fn : List He.DefD) (ts : List He.Tab) (tf : List He.Defn) (ex : PySem.W.Frag → Bool) (g : Addr → Option Obj) : He.AlX :=
  (He.obsT fa fn ts (He.frT g (He.asD g n ++ [cStatics])), ex (He.frT g (He.asD g n ++ [cStatics])) && He.tabsB g tf (He.frT g (He.asD g n ++ [cStatics])))
def hookY (n : Nat) (fa : List He.Fa) (fn : List He.DefD) (ts : List He.Tab) (tf : List He.Defn) (ex : PySem.W.Frag → Bool) : PySem.W.Hook where
  α := He.AlX
  obs := fun s => obsY n fa fn ts tf ex s.heap.get?
  val := fun w => He.valX fn ts w
  says := fun w h => ∃ K : PySem.W.Frag, K.In h ∧ He.SaysX fa fn ts tf ex w h K
  of := fun _ _ e => ⟨_, He.frT_in, says_of e⟩
  keeps := fun _ _ _ ⟨K, hK, c⟩ k => ⟨K, PySem.W.Frag.In.keeps hK k, ⟨c.t, c.more, c.hd, c.out, fun p hp => k _ _ (c.empty p hp)⟩⟩
theorem obsY_eq {n : Nat} {fa : List He.Fa} {fn : List He.DefD} {ts : List He.Tab} {tf : List He.Defn} {ex : PySem.W.Frag → Bool} {g : Addr → Option Obj} {s : Shared} (h : ∀ a, g a = s.heap.get? a) : obsY n fa fn ts tf ex g = (hookY n fa fn ts tf ex).obs s := by
  have e : g = s.heap.get? := funext h
  rw [e] <;> rfl
/-- try: suite, except c as e: return e.f (e is slot i); of other errors nothing is told -/
def dTryF (c f : Str) (i : Nat) (Bs : DS) : DS := fun ρ S => match Bs ρ S with
  | .err c' g ρ1 S1 => match g with
    | some (f', p) => if c' = c ∧ f' = f ∧ i < ρ1.length then .ret (.pv p) S1 else .bad
    | none => .bad
  | r => r
/-- what the head's run tells of a class whose field f is read off its errors -/
def xfdB (K : PySem.W.Frag) (c f : Str) : Bool := xfB K (He.ga K c) && (decide (PySem.W.findIn K (.ref (He.ga K c)) f = some none) && decide (PySem.W.exmOne K (.ref (He.ga K c)) (.ref (He.ga K c)) = some true))
section
variable {X : Cx} {W : WX} {pos : Pos} {A B : DE} {a b : Expr} {Bs : DS}
theorem s_tryF {c f n : Str} {i : Nat} {body : List Stmt} {np p1 p2 p3 p4 : Pos} (tk : L2N.Takes X W) (hN : X.N.Nodup) (hi : X.N[i]? = some n) (gC : X.mg c = some (.ref (He.ga X.K c))) (hx : xfdB X.K c f = true)
    (hb : ∀ (W : WX) (pn : List (Addr × Obj)) (xe : Value → Shared → Prop), L2N.Takes (X.tr pn xe) W → PSsv (X.tr pn xe) W body Bs)
    (hs : X.stack = X.env :: X.outer := by rfl) (hf : X.env.frame = some X.env.locals := by rfl) (hln : X.env.kindOf n = some .local := by rfl) (hg : Gl X c := by rfl) (hdb : (c == ("__debug__" : Str)) = false := by decide) (hdn : (n == ("__debug__" : Str)) = false := by decide) (hcn : (n == ("__classdict__" : Str)) = false := by decide)
    (hab : ∀ (a : Addr) (pn : List (Addr × Obj)), attributeBase (.Name n p1) f (X.suite a pn).env (eval (.Name n p1) (X.suite a pn).env) = eval (.Name n p1) (X.suite a pn).env := by intros; rfl) :
    PSv X W (.Try body [.ExceptHandler (some (.Name c np)) (some n) [.Return (some (.Attribute (.Name n p1) f p2)) p3] p4] [] [] pos) (dTryF c f i Bs) := by
  simp only [xfdB, Bool.and_eq_true, decide_eq_true_eq] at hx
  obtain ⟨h1, h2, h3⟩ := hx
  have T := xfB_ok h1
  refine PS.imp (L2N.ps_try_as (i := i) (c := .ref (He.ga X.K c)) (tb := fun W => tevS (Gx.of X) W Bs) (ts := fun a cls d => tRet (tXf a cls d (He.ga X.K c) f (tVar i))) (Wout := W) hs hf hN hi hln ⟨hg, hdb, .inl gC⟩ tk (fun W' pn xe tk' _ => hb W' pn xe tk') (fun a oe cls d pn hz hfd => pss_one (ps_ret (pe_xf T h2 hz.zc hfd (pe_var (i := i) hi (.inl hln) hdn hcn) (hab a ((a, oe) :: pn)))))) fun D σ H ⟨m, ρ, S, R, h⟩ => ?_
  refine ⟨m, ρ, S, R, ?_⟩
  unfold dTryF at h
  revert h
  cases Bs ρ S with
  | next ρ1 S1 => exact fun h => h
  | ret v S1 => exact fun h => h
  | brk ρ1 S1 => exact fun h => h
  | cnt ρ1 S1 => exact fun h => h
  | bad => exact fun h => h
  | err c' g ρ1 S1 =>
    cases g with
    | none => exact fun h => h.elim
    | some fp =>
      obtain ⟨f', p⟩ := fp
      simp only
      split
      · rename_i hc
        obtain ⟨rfl, rfl, hl⟩ := hc
        intro h m' H' σ' cls d e R' rx
        obtain ⟨C, hC, rfl, dx, v, rfl, hd, rv⟩ := rx
        have hC : X.mg c' = some (.ref C) := hC
        rw [gC] at hC
        cases hC
        have hlen : i < σ'.length := by rw [← R'.e.len]; exact hl
        exact ⟨true, h3, fun _ a na => ⟨.ref a, by rw [List.getElem?_set_self hlen], rfl, rfl, dx, _, v, rfl, hd, by simp [List.lookup], h m' H' v e R'.s rv⟩, fun z => by cases z⟩
      · exact fun h => h.elim
/-- text.upper() -/
def dUpper (A : DE) : DE := fun ρ S => (A ρ S).bind fun x S1 => match x with
  | .pv (.str a) => if decide (a.length ≤ 1000000) then .ok (.pv (.str (Txt.upper a))) S1 else .bad
  | _ => .bad
@[simp] theorem ap_Upper (A : DE) (ρ : En) (S : Sto) : dUpper A ρ S = (A ρ S).bind fun x S1 => match x with
  | .pv (.str a) => if decide (a.length ≤ 1000000) then .ok (.pv (.str (Txt.upper a))) S1 else .bad
  | _ => .bad := rfl
theorem r_upper {apos cpos : Pos} (ha : PEv X W a A) (hbase : attributeBase a "upper" X.env (eval a X.env) = eval a X.env := by rfl) (hline : (apos.endLine == cpos.line) = true := by rfl) :
    PEv X W (.Call (.Attribute a "upper" apos) [] [] cpos) (dUpper A) :=
  PE.imp (pe_upper ha hbase hline) fun σ H Q ⟨m, ρ, S, R, h⟩ => by
    refine ⟨m, ρ, S, R, ?_⟩
    unfold dUpper at h
    cases hA : A ρ S with
    | err c g S1 => rw [hA] at h; exact h
    | bad => rw [hA] at h; exact h.elim
    | ok x S1 =>
      rw [hA, Res.bind_ok] at h
      intro m1 H1 u e1 s1 r1
      split at h
      · rename_i x
        split at h
        · rename_i hz
          obtain rfl : u = .str x := r1
          have hz := of_decide_eq_true hz
          exact ⟨⟨x, rfl⟩, x, rfl, rfl, by omega, h m1 H1 _ e1 s1 rfl⟩
        · exact h.elim
      · exact h.elim
/-- xs.index(x), there -/
def fIdx (ds : List PyData) (d : PyData) : Option Nat := if shp (.list ds) && shp d then ds.findIdx? fun z => PyData.eqv z d else none
def dIdx (A B : DE) : DE := fun ρ S => (A ρ S).bind fun x S1 => match x with
  | .pv (.list ds) => (B ρ S1).bind fun y S2 => match y with
    | .pv d => match fIdx ds d with
      | some j => .ok (.pv (.int (j : Nat))) S2
      | none => .bad
    | _ => .bad
  | _ => .bad
@[simp] theorem ap_Idx (A B : DE) (ρ : En) (S : Sto) : dIdx A B ρ S = (A ρ S).bind fun x S1 => match x with
  | .pv (.list ds) => (B ρ S1).bind fun y S2 => match y with
    | .pv d => match fIdx ds d with
      | some j => .ok (.pv (.int (j : Nat))) S2
      | none => .bad
    | _ => .bad
  | _ => .bad := rfl
theorem r_idx (hu : X.A.units + 65 < cLine) {apos cpos : Pos} (ha : PEv X W a A) (hb : PEv X W b B) (hbase : attributeBase a "index" X.env (eval a X.env) = eval a X.env := by rfl)
    (hfew : ((backTo cpos (starEach [b] X.env)).all (fun x => !x.1) && (backToKw cpos (keywordEach [] X.env)).all (fun x => x.1.isSome) && decide (([b] : List Expr).length + ([] : List Keyword).length + (if ([] : List Keyword).isEmpty then 0 else 1) < 30)) = true := by rfl)
    (hline : (apos.endLine == cpos.line) = true := by rfl) (hs : starEach [b] X.env = (false, eval b X.env) :: starEach [] X.env := by rfl) (hplain : (backTo cpos (starEach [] X.env)).any (·.1) = false := by rfl) :
    PEv X W (.Call (.Attribute a "index" apos) [b] [] cpos) (dIdx A B) :=
  PE.imp (pe_bm PySem.F.plainAttrs_list PySem.F.slot_list_index PySem.F.type_list_index (mt_indexD hu) ha (pa_cons hb pa_nil hs) hbase hfew hline hs hplain) fun σ H Q ⟨m, ρ, S, R, h⟩ => by
    refine ⟨m, ρ, S, R, ?_⟩
    unfold dIdx at h
    cases hA : A ρ S with
    | err c g S1 => rw [hA] at h; exact h
    | bad => rw [hA] at h; exact h.elim
    | ok x S1 =>
      rw [hA, Res.bind_ok] at h
      intro m1 H1 u e1 s1 r1
      split at h
      · rename_i ds
        obtain ⟨p, us, rfl, hl, na, hr⟩ := id (show Rep X.prog X.w X.K m1 H1 (.list ds) u from r1)
        refine ⟨.inl ⟨rfl, us, SqL.of hl⟩, m1, ρ, S1, R.ext e1 s1, ?_⟩
        cases hB : B ρ S1 with
        | err c g S2 => rw [hB] at h; exact PostE.ext (G := Gx.of X) h e1
        | bad => rw [hB] at h; exact h.elim
        | ok y S2 =>
          rw [hB, Res.bind_ok] at h
          intro m2 H2 v e2 s2 r2
          split at h
          · rename_i d
            split at h
            · rename_i j hj
              unfold fIdx at hj
              split at hj
              · rename_i hz
                rw [Bool.and_eq_true] at hz
                obtain ⟨hjl, hj1, hj2⟩ := List.findIdx?_eq_some_iff_getElem.mp hj
                have r1' : Rep X.prog X.w X.K m2 H2 (.list ds) (.ref p) := RepV.ext (x := .pv (.list ds)) r1 s1.mok e2
                exact ⟨p, v, d, ds, j, ds[j], rfl, rfl, Rep.dp _ _ (lay_of hz.1) r1', Rep.dp _ _ (lay_of hz.2) r2, hz.1, hz.2, List.getElem?_eq_getElem hjl, hj1, fun k z hk hz' => by
                  have hkl : k < ds.length := (List.getElem?_eq_some_iff.mp hz').1
                  have := hj2 k hk
                  rw [List.getElem?_eq_getElem hkl] at hz'
                  cases hz'
                  simpa using this, h m2 H2 _ (e1.trans e2) s2 rfl⟩
              · cases hj
            · exact h.elim
          · exact h.elim
      · exact h.elim
end
end Mi
set_option maxHeartbeats 4000000
namespace Law
open PySem PySem.Spec PyProof.Rows L2 L2H LamX Mi
def cs : List Str := []
noncomputable def F_law_is_whole : Fn := dFun 3 3 ((dRet (dAnd (dIsi "int" (dNm 0)) (dAnd (dNot (dIsi "bool" (dNm 0))) (dCh opLe opLe (dNm 1) (dNm 0) (dNm 2))))))
theorem ar_law_is_whole : Ar 3 (F_law_is_whole) := ar_dFun _ _ _
noncomputable def F_law_is_row : Fn := dFun 2 3 ((dSeq (dIfS (dOrT (dNotT (dTst (dIsi "tuple" (dNm 0)))) (dOrT (dTst (d2 opNe (dCall (b1 fLen) (dCons (dNm 0) dNil)) (dC (.int 3)))) (dOrT (dNotT (dTst (dCall F_law_is_whole (dCons (dIx (dNm 0) (dC (.int 0))) (dCons (dC (.int 0)) (dCons (dC (.int 6)) dNil)))))) (dNotT (dTst (dIsi "bool" (dIx (dNm 0) (dC (.int 1)))))))))
  (dRet (dC (.bool false)))
  dPass)
  (dSeq (dIfS (dOrT (dNotT (dTst (dIsi "tuple" (dIx (dNm 0) (dC (.int 2)))))) (dTst (d2 opNe (dCall (b1 fLen) (dCons (dIx (dNm 0) (dC (.int 2))) dNil)) (dC (.int 4)))))
  (dRet (dC (.bool false)))
  dPass)
  (dSeq (dFor (dItems (dIx (dNm 0) (dC (.int 2)))) (gN 2)
  (dSeq (dIfS (dOrT (dNotT (dTst (dIsi "tuple" (dNm 2)))) (dOrT (dTst (d2 opNe (dCall (b1 fLen) (dCons (dNm 2) dNil)) (dC (.int 2)))) (dNotT (dTst (dCall F_law_is_whole (dCons (dIx (dNm 2) (dC (.int 0))) (dCons (dC (.int 0)) (dCons (d2 opSub (dNm 1) (dC (.int 1))) dNil))))))))
  (dRet (dC (.bool false)))
  dPass)
  (dIfS (dNotT (dTst (dIsi "bool" (dIx (dNm 2) (dC (.int 1))))))
  (dRet (dC (.bool false)))
  dPass)))
  (dRet (dC (.bool true)))))))
theorem ar_law_is_row : Ar 2 (F_law_is_row) := ar_dFun _ _ _
noncomputable def F_law_is_stage : Fn := dFun 1 2 ((dSeq (dIfS (dOrT (dNotT (dTst (dIsi "tuple" (dNm 0)))) (dOrT (dTst (d2 opNe (dCall (b1 fLen) (dCons (dNm 0) dNil)) (dC (.int 2)))) (dNotT (dTst (dCall F_law_is_whole (dCons (dIx (dNm 0) (dC (.int 0))) (dCons (dC (.int 0)) (dCons (dC (.int 2)) dNil))))))))
  (dRet (dC (.bool false)))
  dPass)
  (dSeq (dIfS (dOrT (dNotT (dTst (dIsi "tuple" (dIx (dNm 0) (dC (.int 1)))))) (dNotT (dTst (dCh opLe opLe (dC (.int 1)) (dCall (b1 fLen) (dCons (dIx (dNm 0) (dC (.int 1))) dNil)) (dC (.int 6))))))
  (dRet (dC (.bool false)))
  dPass)
  (dSeq (dFor (dItems (dIx (dNm 0) (dC (.int 1)))) (gN 1)
  (dIfS (dNotT (dTst (dCall F_law_is_row (dCons (dNm 1) (dCons (dCall (b1 fLen) (dCons (dIx (dNm 0) (dC (.int 1))) dNil)) dNil)))))
  (dRet (dC (.bool false)))
  dPass))
  (dRet (d2 opEq (dIx (dIx (dIx (dNm 0) (dC (.int 1))) (dC (.int 0))) (dC (.int 0))) (dC (.int 0))))))))
theorem ar_law_is_stage : Ar 1 (F_law_is_stage) := ar_dFun _ _ _
noncomputable def F_law_line_of : Fn := dFun 1 5 ((dSeq (dIfS (dTst (d2 opIn (dNm 0) (dLst (dCons (dC (.str "late 0")) (dCons (dC (.str "late 1")) (dCons (dC (.str "late 2")) dNil))))))
  (dRet (dCall (b1 fInt) (dCons (dIx (dNm 0) (dNeg (dC (.int 1)))) dNil)))
  dPass)
  (dSeq (dSet 1 (dM1 fSplit (dNm 0) (dC (.str " "))))
  (dSeq (dIfS (dOrT (dTst (d2 opNe (dCall (b1 fLen) (dCons (dNm 1) dNil)) (dC (.int 6)))) (dOrT (dTst (d2 opNotIn (dIx (dNm 1) (dC (.int 0))) (dLst (dCons (dC (.str "0")) (dCons (dC (.str "1")) (dCons (dC (.str "2")) (dCons (dC (.str "3")) (dCons (dC (.str "4")) (dCons (dC (.str "5")) (dCons (dC (.str "6")) dNil)))))))))) (dTst (d2 opNotIn (dIx (dNm 1) (dC (.int 1))) (dLst (dCons (dC (.str "yes")) (dCons (dC (.str "no")) dNil)))))))
  (dRet (dC .none))
  dPass)
  (dSeq (dSet 2 (dTup dNil))
  (dSeq (dFor (dItems (dSl (dNm 1) (dPt (dC (.int 2))) dNo)) (gN 3)
  (dSeq (dSet 4 (dIf (dTst (d2 opEq (dSl (dNm 3) (dPt (dNeg (dC (.int 1)))) dNo) (dC (.str "!")))) (dSl (dNm 3) dNo (dPt (dNeg (dC (.int 1))))) (dNm 3)))
  (dSeq (dIfS (dTst (d2 opNotIn (dNm 4) (dLst (dCons (dC (.str "0")) (dCons (dC (.str "1")) (dCons (dC (.str "2")) (dCons (dC (.str "3")) (dCons (dC (.str "4")) (dCons (dC (.str "5")) dNil)))))))))
  (dRet (dC .none))
  dPass)
  (dSet 2 (d2 opAdd (dNm 2) (dTup (dCons (dTup (dCons (dCall (b1 fInt) (dCons (dNm 4) dNil)) (dCons (d2 opNe (dNm 4) (dNm 3)) dNil))) dNil)))))))
  (dRet (dTup (dCons (dCall (b1 fInt) (dCons (dIx (dNm 1) (dC (.int 0))) dNil)) (dCons (d2 opEq (dIx (dNm 1) (dC (.int 1))) (dC (.str "yes"))) (dCons (dNm 2) dNil)))))))))))
theorem ar_law_line_of : Ar 1 (F_law_line_of) := ar_dFun _ _ _
noncomputable def F_law_due : Fn := dFun 1 4 ((dSeq (dIfS (dNotT (dTst (dIsi "str" (dNm 0))))
  (dRet (dC (.int 0)))
  dPass)
  (dSeq (dSet 1 (dLc (dItems (dM1 fSplit (dNm 0) (dC (.str "\n")))) [3] (gN 3) dYes (dCall F_law_line_of (dCons (dNm 3) dNil))))
  (dSeq (dIfS (dTst (d2 opIn (dC .none) (dNm 1)))
  (dRet (d2 opAdd (dIdx (dNm 1) (dC .none)) (dC (.int 1))))
  dPass)
  (dSeq (dSet 2 (dTup (dCons (dIx (dNm 1) (dC (.int 0))) (dCons (dCall (b1 fTuple) (dCons (dSl (dNm 1) (dPt (dC (.int 1))) dNo) dNil)) dNil))))
  (dRet (dIf (dTst (dCall F_law_is_stage (dCons (dNm 2) dNil))) (dNm 2) (d2 opAdd (dCall (b1 fLen) (dCons (dNm 1) dNil)) (dC (.int 1))))))))))
theorem ar_law_due : Ar 1 (F_law_due) := ar_dFun _ _ _
noncomputable def F_law_lines : Fn := dFun 1 8 ((dSeq (dSet 1 (dNew (dCons (d2 opAdd (dC (.str "late ")) (dCall (b1 fStr) (dCons (dIx (dNm 0) (dC (.int 0))) dNil))) dNil)))
  (dSeq (dFor (dItems (dIx (dNm 0) (dC (.int 1)))) (gT [(gN 2), (gN 3), (gN 4)])
  (dSeq (dSet 5 (d2 opAdd (dCall (b1 fStr) (dCons (dNm 2) dNil)) (dIf (dTst (dNm 3)) (dC (.str " yes")) (dC (.str " no")))))
  (dSeq (dFor (dItems (dNm 4)) (gT [(gN 6), (gN 7)])
  (dSet 5 (d2 opAdd (d2 opAdd (d2 opAdd (dNm 5) (dC (.str " "))) (dCall (b1 fStr) (dCons (dNm 6) dNil))) (dIf (dTst (dNm 7)) (dC (.str "!")) (dC (.str ""))))))
  (dDo (dApp (dNm 1) (dNm 5))))))
  (dRet (dFz 1)))))
theorem ar_law_lines : Ar 1 (F_law_lines) := ar_dFun _ _ _
noncomputable def F_law_under : Fn := dFun 2 4 ((dSeq (dIfS (dTst (d2 opGt (dIx (dNm 0) (dC (.int 0))) (dC (.int 0))))
  (dSeq (dSet 2 (d2 opMod (dCall (b1 fInt) (dCons (dIx (dNm 0) (dC (.int 0))) dNil)) (dNm 1)))
  (dSeq (dSub (dNm 0) (dC (.int 0)) (d2 opDiv (dIx (dNm 0) (dC (.int 0))) (dNm 1)))
  (dRet (dNm 2))))
  dPass)
  (dSeq (dSub (dNm 0) (dC (.int 1)) (d2 opMod (dCall (b1 fInt) (dCons (d2 opAdd (d2 opMul (dIx (dNm 0) (dC (.int 1))) (dC (.int 39373))) (dC (.int 101))) dNil)) (dC (.int 2147483629))))
  (dSeq (dSet 3 (d2 opMod (dCall (b1 fInt) (dCons (d2 opMul (dIx (dNm 0) (dC (.int 1))) (d2 opAdd (d2 opDiv (dIx (dNm 0) (dC (.int 1))) (dC (.int 5))) (dC (.int 9)))) dNil)) (dC (.int 2147483587))))
  (dRet (d2 opMod (dCall (b1 fInt) (dCons (d2 opDiv (dNm 3) (dC (.int 32))) dNil)) (dNm 1)))))))
theorem ar_law_under : Ar 2 (F_law_under) := ar_dFun _ _ _
noncomputable def F_law_some : Fn := dFun 2 2 ((dRet (dIx (dNm 1) (dCall F_law_under (dCons (dNm 0) (dCons (dCall (b1 fLen) (dCons (dNm 1) dNil)) dNil))))))
theorem ar_law_some : Ar 2 (F_law_some) := ar_dFun _ _ _
noncomputable def F_law_odd : Nat → Fn
  | 0 => fun _ _ => .bad
  | n + 1 => dFun 2 5 ((dSeq (dSet 2 (dLst (dCons (dC .none) (dCons (dC (.bool true)) (dCons (dC (.bool false)) (dCons (dC (.int 0)) (dCons (dC (.int 1)) (dCons (dC (.int 2)) (dCons (dC (.int 7)) (dCons (dNeg (dC (.int 1))) (dCons (d2 opPow (dC (.int 10)) (dC (.int 31))) (dCons (dC (.str "")) (dCons (dC (.str "late 0")) (dCons (dTup dNil) (dCons (dLst dNil) (dCons (dTup (dCons (dC (.bool true)) (dCons (dC (.bool false)) dNil))) (dCons (dTup (dCons (dC (.int 0)) (dCons (dC (.bool false)) dNil))) (dCons (dTup (dCons (dC (.int 0)) (dCons (dTup dNil) dNil))) dNil))))))))))))))))))
  (dSeq (dSet 2 (d2 opAdd (dNm 2) (dLst (dCons (dTup (dCons (dTup (dCons (dC (.bool false)) (dCons (dC (.bool false)) dNil))) dNil)) (dCons (dTup (dCons (dC (.int 0)) (dCons (dC (.bool true)) (dCons (d2 opMul (dTup (dCons (dTup (dCons (dC (.int 0)) (dCons (dC (.bool false)) dNil))) dNil)) (dC (.int 4))) dNil)))) (dCons (dTup (dCons (dC (.int 0)) (dCons (dTup (dCons (dTup (dCons (dC (.int 0)) (dCons (dC (.bool true)) (dCons (d2 opMul (dTup (dCons (dTup (dCons (dC (.int 0)) (dCons (dC (.bool false)) dNil))) dNil)) (dC (.int 4))) dNil)))) dNil)) dNil))) dNil))))))
  (dSeq (dIfS (dOrT (dTst (d2 opEq (dNm 1) (dC (.int 0)))) (dTst (d2 opLt (dCall F_law_under (dCons (dNm 0) (dCons (dC (.int 9)) dNil))) (dC (.int 6)))))
  (dRet (dCall F_law_some (dCons (dNm 0) (dCons (dNm 2) dNil))))
  dPass)
  (dSeq (dSet 3 (dLc (dRng1 (dCall F_law_under (dCons (dNm 0) (dCons (dC (.int 4)) dNil)))) [4] (gN 4) dYes (dCall (F_law_odd n) (dCons (dNm 0) (dCons (d2 opSub (dNm 1) (dC (.int 1))) dNil)))))
  (dRet (dIf (dTst (d2 opEq (dCall F_law_under (dCons (dNm 0) (dCons (dC (.int 3)) dNil))) (dC (.int 0)))) (dNm 3) (dCall (b1 fTuple) (dCons (dNm 3) dNil)))))))))
theorem ar_law_odd : ∀ n, Ar 2 (F_law_odd n)
  | 0 => fun _ _ _ => rfl
  | _ + 1 => ar_dFun _ _ _
noncomputable def F_p_is_whole : Fn := dFun 3 3 ((dRet (dAnd (dIsi "int" (dNm 0)) (dAnd (dNot (dIsi "bool" (dNm 0))) (dCh opLe opLe (dNm 1) (dNm 0) (dNm 2))))))
theorem ar_p_is_whole : Ar 3 (F_p_is_whole) := ar_dFun _ _ _
noncomputable def F_p_is_move : Fn := dFun 2 2 ((dSeq (dIfS (dOrT (dNotT (dTst (dIsi "tuple" (dNm 0)))) (dOrT (dTst (d2 opNe (dCall (b1 fLen) (dCons (dNm 0) dNil)) (dC (.int 2)))) (dNotT (dTst (dCall F_p_is_whole (dCons (dIx (dNm 0) (dC (.int 0))) (dCons (dC (.int 0)) (dCons (d2 opSub (dNm 1) (dC (.int 1))) dNil))))))))
  (dRet (dC (.bool false)))
  dPass)
  (dRet (dIsi "bool" (dIx (dNm 0) (dC (.int 1)))))))
theorem ar_p_is_move : Ar 2 (F_p_is_move) := ar_dFun _ _ _
noncomputable def F_p_is_row : Fn := dFun 2 3 ((dSeq (dIfS (dOrT (dNotT (dTst (dIsi "tuple" (dNm 0)))) (dOrT (dTst (d2 opNe (dCall (b1 fLen) (dCons (dNm 0) dNil)) (dC (.int 3)))) (dNotT (dTst (dCall F_p_is_whole (dCons (dIx (dNm 0) (dC (.int 0))) (dCons (dC (.int 0)) (dCons (dC (.int 6)) dNil))))))))
  (dRet (dC (.bool false)))
  dPass)
  (dSeq (dIfS (dOrT (dNotT (dTst (dIsi "bool" (dIx (dNm 0) (dC (.int 1)))))) (dOrT (dNotT (dTst (dIsi "tuple" (dIx (dNm 0) (dC (.int 2)))))) (dTst (d2 opNe (dCall (b1 fLen) (dCons (dIx (dNm 0) (dC (.int 2))) dNil)) (dC (.int 4))))))
  (dRet (dC (.bool false)))
  dPass)
  (dRet (d2 opEq (dLc (dItems (dIx (dNm 0) (dC (.int 2)))) [2] (gN 2) (dNotT (dTst (dCall F_p_is_move (dCons (dNm 2) (dCons (dNm 1) dNil))))) (dNm 2)) (dLst dNil))))))
theorem ar_p_is_row : Ar 2 (F_p_is_row) := ar_dFun _ _ _
noncomputable def F_p_has_stage : Fn := dFun 1 2 ((dSeq (dIfS (dOrT (dNotT (dTst (dIsi "tuple" (dNm 0)))) (dOrT (dTst (d2 opNe (dCall (b1 fLen) (dCons (dNm 0) dNil)) (dC (.int 2)))) (dNotT (dTst (dCall F_p_is_whole (dCons (dIx (dNm 0) (dC (.int 0))) (dCons (dC (.int 0)) (dCons (dC (.int 2)) dNil))))))))
  (dRet (dC (.bool false)))
  dPass)
  (dSeq (dIfS (dOrT (dNotT (dTst (dIsi "tuple" (dIx (dNm 0) (dC (.int 1)))))) (dNotT (dTst (dCh opLe opLe (dC (.int 1)) (dCall (b1 fLen) (dCons (dIx (dNm 0) (dC (.int 1))) dNil)) (dC (.int 6))))))
  (dRet (dC (.bool false)))
  dPass)
  (dSeq (dIfS (dTst (d2 opNe (dLc (dItems (dIx (dNm 0) (dC (.int 1)))) [1] (gN 1) (dNotT (dTst (dCall F_p_is_row (dCons (dNm 1) (dCons (dCall (b1 fLen) (dCons (dIx (dNm 0) (dC (.int 1))) dNil)) dNil))))) (dNm 1)) (dLst dNil)))
  (dRet (dC (.bool false)))
  dPass)
  (dRet (d2 opEq (dIx (dIx (dIx (dNm 0) (dC (.int 1))) (dC (.int 0))) (dC (.int 0))) (dC (.int 0))))))))
theorem ar_p_has_stage : Ar 1 (F_p_has_stage) := ar_dFun _ _ _
noncomputable def F_p_late_of : Fn := dFun 1 1 ((dRet (dIf (dTst (d2 opIn (dNm 0) (dTup (dCons (dC (.str "late 0")) (dCons (dC (.str "late 1")) (dCons (dC (.str "late 2")) dNil)))))) (dCall (b1 fInt) (dCons (dIx (dNm 0) (dNeg (dC (.int 1)))) dNil)) (dC .none))))
theorem ar_p_late_of : Ar 1 (F_p_late_of) := ar_dFun _ _ _
noncomputable def F_p_move_of : Fn := dFun 1 2 ((dSeq (dSet 1 (dIf (dTst (d2 opEq (dSl (dNm 0) (dPt (dNeg (dC (.int 1)))) dNo) (dC (.str "!")))) (dSl (dNm 0) dNo (dPt (dNeg (dC (.int 1))))) (dNm 0)))
  (dRet (dIf (dTst (d2 opIn (dNm 1) (dSl (dC (.tuple ((["0", "1", "2", "3", "4", "5", "6"] : List Str).map .str))) dNo (dPt (dC (.int 6)))))) (dTup (dCons (dCall (b1 fInt) (dCons (dNm 1) dNil)) (dCons (d2 opNe (dNm 0) (dNm 1)) dNil))) (dC .none)))))
theorem ar_p_move_of : Ar 1 (F_p_move_of) := ar_dFun _ _ _
noncomputable def F_p_row_of : Fn := dFun 1 4 ((dSeq (dSet 1 (dM1 fSplit (dNm 0) (dC (.str " "))))
  (dSeq (dIfS (dOrT (dTst (d2 opNe (dCall (b1 fLen) (dCons (dNm 1) dNil)) (dC (.int 6)))) (dOrT (dTst (d2 opNotIn (dIx (dNm 1) (dC (.int 0))) (dC (.tuple ((["0", "1", "2", "3", "4", "5", "6"] : List Str).map .str))))) (dTst (d2 opNotIn (dIx (dNm 1) (dC (.int 1))) (dTup (dCons (dC (.str "yes")) (dCons (dC (.str "no")) dNil)))))))
  (dRet (dC .none))
  dPass)
  (dSeq (dSet 2 (dTup (dCons (dCall (b1 fInt) (dCons (dIx (dNm 1) (dC (.int 0))) dNil)) (dCons (d2 opEq (dIx (dNm 1) (dC (.int 1))) (dC (.str "yes"))) (dCons (dCall (b1 fTuple) (dCons (dLc (dItems (dSl (dNm 1) (dPt (dC (.int 2))) dNo)) [3] (gN 3) dYes (dCall F_p_move_of (dCons (dNm 3) dNil))) dNil)) dNil)))))
  (dRet (dIf (dTst (dCall F_p_is_row (dCons (dNm 2) (dCons (dC (.int 6)) dNil)))) (dNm 2) (dC .none)))))))
theorem ar_p_row_of : Ar 1 (F_p_row_of) := ar_dFun _ _ _
noncomputable def F_p_read_stage : Fn := dFun 1 5 ((dSeq (dIfS (dNotT (dTst (dIsi "str" (dNm 0))))
  (dRaiseO "InvalidText" "line" (dC (.int 0)))
  dPass)
  (dSeq (dSet 1 (dM1 fSplit (dNm 0) (dC (.str "\n"))))
  (dSeq (dFor (dEnum (dNm 1)) (gT [(gN 2), (gN 3)])
  (dIfS (dAndT (dTst (d2 opIs (dCall F_p_late_of (dCons (dNm 3) dNil)) (dC .none))) (dTst (d2 opIs (dCall F_p_row_of (dCons (dNm 3) dNil)) (dC .none))))
  (dRaiseO "InvalidText" "line" (d2 opAdd (dNm 2) (dC (.int 1))))
  dPass))
  (dSeq (dSet 4 (dTup (dCons (dCall F_p_late_of (dCons (dIx (dNm 1) (dC (.int 0))) dNil)) (dCons (dCall (b1 fTuple) (dCons (dLc (dItems (dSl (dNm 1) (dPt (dC (.int 1))) dNo)) [3] (gN 3) dYes (dCall F_p_row_of (dCons (dNm 3) dNil))) dNil)) dNil))))
  (dSeq (dIfS (dNotT (dTst (dCall F_p_has_stage (dCons (dNm 4) dNil))))
  (dRaiseO "InvalidText" "line" (d2 opAdd (dCall (b1 fLen) (dCons (dNm 1) dNil)) (dC (.int 1))))
  dPass)
  (dRet (dNm 4))))))))
theorem ar_p_read_stage : Ar 1 (F_p_read_stage) := ar_dFun _ _ _
noncomputable def F_law_read_so : Fn := dFun 1 2 ((dTryF "InvalidText" "line" 1
  (dRet (dCall F_p_read_stage (dCons (dNm 0) dNil)))))
theorem ar_law_read_so : Ar 1 (F_law_read_so) := ar_dFun _ _ _
noncomputable def F_law_spoilt : Fn := dFun 2 8 ((dSeq (dPar 2 3 (dCons (dCall F_law_under (dCons (dNm 0) (dCons (d2 opAdd (dCall (b1 fLen) (dCons (dNm 1) dNil)) (dC (.int 1))) dNil))) (dCons (dCall F_law_under (dCons (dNm 0) (dCons (dC (.int 6)) dNil))) dNil)))
  (dSeq (dIfS (dTst (d2 opLt (dNm 3) (dC (.int 2))))
  (dSeq (dSet 4 (dLst (dCons (dC (.str "")) (dCons (dC (.str " ")) (dCons (dC (.str "0")) (dCons (dC (.str "1")) (dCons (dC (.str "!")) (dCons (dC (.str "yes")) (dCons (dC (.str "\n")) (dCons (dC (.str "\n0 no 0 0 0 0")) (dCons (dC (.str "6")) (dCons (dC (.str "late 1")) (dCons (dC (.str "-")) (dCons (dC (.str "no ")) dNil))))))))))))))
  (dRet (d2 opAdd (d2 opAdd (dSl (dNm 1) dNo (dPt (dNm 2))) (dCall F_law_some (dCons (dNm 0) (dCons (dNm 4) dNil)))) (dSl (dNm 1) (dPt (d2 opAdd (dNm 2) (dNm 3))) dNo))))
  dPass)
  (dSeq (dSet 5 (dM1 fSplit (dNm 1) (dC (.str "\n"))))
  (dSeq (dSet 6 (dCall F_law_under (dCons (dNm 0) (dCons (dCall (b1 fLen) (dCons (dNm 5) dNil)) dNil))))
  (dSeq (dIfS (dTst (d2 opEq (dNm 3) (dC (.int 2))))
  (dRet (dM1 fJoin (dC (.str "\n")) (d2 opAdd (dSl (dNm 5) dNo (dPt (dNm 6))) (dSl (dNm 5) (dPt (d2 opAdd (dNm 6) (dC (.int 1)))) dNo))))
  dPass)
  (dSeq (dIfS (dTst (d2 opEq (dNm 3) (dC (.int 3))))
  (dRet (dM1 fJoin (dC (.str "\n")) (d2 opAdd (dSl (dNm 5) dNo (dPt (d2 opAdd (dNm 6) (dC (.int 1))))) (dSl (dNm 5) (dPt (dNm 6)) dNo))))
  dPass)
  (dSeq (dIfS (dTst (d2 opEq (dNm 3) (dC (.int 4))))
  (dRet (dM1 fJoin (dC (.str "\n")) (d2 opAdd (dSl (dNm 5) (dPt (dNm 6)) dNo) (dSl (dNm 5) dNo (dPt (dNm 6))))))
  dPass)
  (dSeq (dSet 7 (dLst (dCons (dC (.str "late 0")) (dCons (dC (.str "late 3")) (dCons (dC (.str "late 01")) (dCons (dC (.str "0 yes 0 0 0")) (dCons (dC (.str "0 yes 0 0 0 6")) (dCons (dC (.str "7 yes 0 0 0 0")) (dCons (dC (.str "1 no 5! 0 0 0")) (dCons (dC (.str "0 Yes 0 0 0 0")) dNil))))))))))
  (dRet (dM1 fJoin (dC (.str "\n")) (d2 opAdd (d2 opAdd (dSl (dNm 5) dNo (dPt (dNm 6))) (dLst (dCons (dCall F_law_some (dCons (dNm 0) (dCons (dNm 7) dNil))) dNil))) (dSl (dNm 5) (dPt (d2 opAdd (dNm 6) (dC (.int 1)))) dNo)))))))))))))
theorem ar_law_spoilt : Ar 2 (F_law_spoilt) := ar_dFun _ _ _
noncomputable def F_law_any_row : Fn := dFun 2 4 ((dSeq (dSet 2 (dLc (dRng1 (dC (.int 4))) [3] (gN 3) dYes (dTup (dCons (dCall F_law_under (dCons (dNm 0) (dCons (dNm 1) dNil))) (dCons (d2 opEq (dCall F_law_under (dCons (dNm 0) (dCons (dC (.int 3)) dNil))) (dC (.int 0))) dNil)))))
  (dRet (dTup (dCons (dCall F_law_under (dCons (dNm 0) (dCons (dC (.int 3)) dNil))) (dCons (d2 opEq (dCall F_law_under (dCons (dNm 0) (dCons (dC (.int 2)) dNil))) (dC (.int 0))) (dCons (dCall (b1 fTuple) (dCons (dNm 2) dNil)) dNil)))))))
theorem ar_law_any_row : Ar 2 (F_law_any_row) := ar_dFun _ _ _
noncomputable def F_law_otherwise : Fn := dFun 2 11 ((dSeq (dAs (gT [(gN 2), (gN 3)]) (dNm 1))
  (dSeq (dPar 4 5 (dCons (dCall F_law_under (dCons (dNm 0) (dCons (dCall (b1 fLen) (dCons (dNm 3) dNil)) dNil))) (dCons (dCall F_law_under (dCons (dNm 0) (dCons (dC (.int 4)) dNil))) dNil)))
  (dSeq (dAs (gT [(gN 6), (gN 7), (gN 8)]) (dIx (dNm 3) (dNm 4)))
  (dSeq (dIfS (dTst (d2 opEq (dCall F_law_under (dCons (dNm 0) (dCons (dC (.int 2)) dNil))) (dC (.int 0))))
  (dSet 9 (dTup (dCons (dNm 6) (dCons (dNot (dNm 7)) (dCons (dNm 8) dNil)))))
  (dSeq (dSet 10 (dTup (dCons (dCall F_law_under (dCons (dNm 0) (dCons (dCall (b1 fLen) (dCons (dNm 3) dNil)) dNil))) (dCons (d2 opEq (dCall F_law_under (dCons (dNm 0) (dCons (dC (.int 2)) dNil))) (dC (.int 0))) dNil))))
  (dSet 9 (dTup (dCons (dNm 6) (dCons (dNm 7) (dCons (d2 opAdd (d2 opAdd (dSl (dNm 8) dNo (dPt (dNm 5))) (dTup (dCons (dNm 10) dNil))) (dSl (dNm 8) (dPt (d2 opAdd (dNm 5) (dC (.int 1)))) dNo)) dNil)))))))
  (dRet (dTup (dCons (dNm 2) (dCons (d2 opAdd (d2 opAdd (dSl (dNm 3) dNo (dPt (dNm 4))) (dTup (dCons (dNm 9) dNil))) (dSl (dNm 3) (dPt (d2 opAdd (dNm 4) (dC (.int 1)))) dNo)) dNil)))))))))
theorem ar_law_otherwise : Ar 2 (F_law_otherwise) := ar_dFun _ _ _
noncomputable def F_law_queue : Fn := dFun 3 6 ((dSeq (dSet 3 (dNew dNil))
  (dSeq (dFor (dRng1 (d2 opAdd (dNm 0) (dC (.int 1)))) (gN 4)
  (dSeq (dSet 5 (dLst (dCons (dTup (dCons (dNm 4) (dCons (dC (.bool false)) dNil))) (dCons (dTup (dCons (dCall b2max (dCons (dC (.int 0)) (dCons (d2 opSub (dNm 4) (dC (.int 1))) dNil))) (dCons (d2 opGt (dNm 4) (dC (.int 0))) dNil))) dNil))))
  (dSeq (dSet 5 (d2 opAdd (dNm 5) (dLst (dCons (dTup (dCons (dCall b2min (dCons (dNm 0) (dCons (d2 opAdd (dNm 4) (dC (.int 1))) dNil))) (dCons (dC (.bool false)) dNil))) (dCons (dTup (dCons (dCall b2max (dCons (dC (.int 1)) (dCons (dNm 4) dNil))) (dCons (d2 opGt (dNm 4) (dC (.int 0))) dNil))) dNil)))))
  (dDo (dApp (dNm 3) (dTup (dCons (dNm 4) (dCons (d2 opLe (dNm 4) (d2 opSub (dNm 0) (dNm 1))) (dCons (dCall (b1 fTuple) (dCons (dNm 5) dNil)) dNil)))))))))
  (dRet (dTup (dCons (dNm 2) (dCons (dCall (b1 fTuple) (dCons (dNm 3) dNil)) dNil)))))))
theorem ar_law_queue : Ar 3 (F_law_queue) := ar_dFun _ _ _
noncomputable def F_law_stage : Fn := dFun 1 6 ((dSeq (dSet 1 (dCall F_law_some (dCons (dNm 0) (dCons (dLst (dCons (dC (.int 0)) (dCons (dC (.int 0)) (dCons (dC (.int 1)) (dCons (dC (.int 1)) (dCons (dC (.int 2)) dNil)))))) dNil))))
  (dSeq (dIfS (dTst (d2 opGt (dCall F_law_under (dCons (dNm 0) (dCons (dC (.int 4)) dNil))) (dC (.int 0))))
  (dSeq (dSet 2 (dCall F_law_queue (dCons (d2 opAdd (dC (.int 1)) (dCall F_law_under (dCons (dNm 0) (dCons (dC (.int 3)) dNil)))) (dCons (dCall F_law_under (dCons (dNm 0) (dCons (dC (.int 4)) dNil))) (dCons (dNm 1) dNil)))))
  (dRet (dIf (dTst (d2 opEq (dCall F_law_under (dCons (dNm 0) (dCons (dC (.int 2)) dNil))) (dC (.int 0)))) (dNm 2) (dCall F_law_otherwise (dCons (dNm 0) (dCons (dNm 2) dNil))))))
  dPass)
  (dSeq (dSet 3 (d2 opAdd (dC (.int 1)) (dCall F_law_under (dCons (dNm 0) (dCons (dC (.int 4)) dNil)))))
  (dSeq (dSet 4 (dLc (dRng1 (dNm 3)) [5] (gN 5) dYes (dCall F_law_any_row (dCons (dNm 0) (dCons (dNm 3) dNil)))))
  (dRet (dTup (dCons (dNm 1) (dCons (d2 opAdd (dTup (dCons (d2 opAdd (dTup (dCons (dC (.int 0)) dNil)) (dSl (dIx (dNm 4) (dC (.int 0))) (dPt (dC (.int 1))) dNo)) dNil)) (dCall (b1 fTuple) (dCons (dSl (dNm 4) (dPt (dC (.int 1))) dNo) dNil))) dNil)))))))))
theorem ar_law_stage : Ar 1 (F_law_stage) := ar_dFun _ _ _
noncomputable def F_law_vat : Fn := dFun 2 3 ((dSeq (dSet 2 (d2 opAdd (d2 opMul (dC (.int 7919)) (dNm 1)) (dC (.int 43))))
  (dSeq (dIfS (dTst (d2 opLt (dNm 1) (dCall (b1 fLen) (dCons (dNm 0) dNil))))
  (dSet 2 (dCall (b1 fAbs) (dCons (dCall (b1 fInt) (dCons (dIx (dNm 0) (dNm 1)) dNil)) dNil)))
  dPass)
  (dRet (dNew (dCons (dIf (dTst (d2 opGe (dNm 2) (d2 opPow (dC (.int 10)) (dC (.int 18))))) (dNm 2) (dC (.int 0))) (dCons (d2 opAdd (d2 opMod (dCall (b1 fInt) (dCons (d2 opAdd (d2 opAdd (d2 opMul (dNm 2) (dC (.int 131071))) (d2 opMul (dC (.int 8191)) (dNm 1))) (dC (.int 5))) dNil)) (dC (.int 2147483629))) (dC (.int 1))) dNil)))))))
theorem ar_law_vat : Ar 2 (F_law_vat) := ar_dFun _ _ _
noncomputable def B_p_law_0 : DS := (dSeq (dSet 3 (dCall F_law_spoilt (dCons (dNm 2) (dCons (dNm 3) dNil))))
  (dSeq (dSet 6 (dCall F_law_read_so (dCons (dNm 3) dNil)))
  (dIfS (dOrT (dTst (d2 opNe (dNm 6) (dCall F_law_due (dCons (dNm 3) dNil)))) (dTst (dIsi "bool" (dNm 6))))
  (dRet (dC (.bool false)))
  dPass)))
noncomputable def B_p_law_1 : DS := (dSeq (dSet 2 (dCall F_law_vat (dCons (dNm 0) (dCons (dNm 1) dNil))))
  (dSeq (dSet 3 (dM1 fJoin (dC (.str "\n")) (dCall F_law_lines (dCons (dCall F_law_stage (dCons (dNm 2) dNil)) dNil))))
  (dSeq (dFor (dItems (dLst (dCons (d2 opAdd (dNm 3) (dC (.str "\n"))) (dCons (d2 opAdd (dC (.str " ")) (dNm 3)) (dCons (dCall (F_law_odd 30) (dCons (dNm 2) (dCons (dC (.int 2)) dNil))) (dCons (dLst (dCons (dNm 3) dNil)) (dCons (dUpper (dNm 3)) (dCons (d2 opAdd (dNm 3) (dC (.str " "))) dNil)))))))) (gN 4)
  (dIfS (dTst (d2 opNe (dCall F_law_read_so (dCons (dNm 4) dNil)) (dCall F_law_due (dCons (dNm 4) dNil))))
  (dRet (dC (.bool false)))
  dPass))
  (dFor (dRng1 (dC (.int 7))) (gN 5)
  B_p_law_0))))
noncomputable def F_p_law : Fn := dFun 1 10 ((dSeq (dFor (dRng1 (dCall b2max (dCons (dC (.int 6)) (dCons (dCall b2min (dCons (dC (.int 14)) (dCons (dCall (b1 fLen) (dCons (dNm 0) dNil)) dNil))) dNil)))) (gN 1)
  B_p_law_1)
  (dSeq (dSet 7 (dC (.str "\n0 no 0 0 0 0")))
  (dSeq (dSet 8 (dLst (dCons (dTup (dCons (dC (.str "")) (dCons (dC (.int 1)) dNil))) (dCons (dTup (dCons (dC .none) (dCons (dC (.int 0)) dNil))) (dCons (dTup (dCons (dC (.str "late 0\n")) (dCons (dC (.int 2)) dNil))) (dCons (dTup (dCons (dC (.str "late 0")) (dCons (dC (.int 2)) dNil))) (dCons (dTup (dCons (d2 opAdd (dC (.str "late 0")) (d2 opMul (dNm 7) (dC (.int 7)))) (dCons (dC (.int 9)) dNil))) (dCons (dTup (dCons (d2 opAdd (d2 opAdd (dC (.str "late 0")) (dNm 7)) (dC (.str "\nlate 0"))) (dCons (dC (.int 4)) dNil))) dNil))))))))
  (dSeq (dSet 8 (d2 opAdd (dNm 8) (dLst (dCons (dTup (dCons (dSl (dNm 7) (dPt (dC (.int 1))) dNo) (dCons (dC (.int 2)) dNil))) (dCons (dTup (dCons (dC (.str "late 0\n0 no 0 0 0 1")) (dCons (dC (.int 3)) dNil))) (dCons (dTup (dCons (dC (.str "late 0\n1 no 0 0 0 0")) (dCons (dC (.int 3)) dNil))) (dCons (dTup (dCons (dC (.str "late 0\n0 no 0 0 0 6")) (dCons (dC (.int 2)) dNil))) dNil)))))))
  (dSeq (dSet 8 (d2 opAdd (dNm 8) (dLst (dCons (dTup (dCons (dC (.str "late 0\n0 no 0 0 0 0!!")) (dCons (dC (.int 2)) dNil))) (dCons (dTup (dCons (dC (.str "late 0\n0 no 0 0 0 !")) (dCons (dC (.int 2)) dNil))) (dCons (dTup (dCons (dC (.str "late 0\n0 no 00 0 0 0")) (dCons (dC (.int 2)) dNil))) dNil))))))
  (dRet (d2 opEq (dLc (dItems (dNm 8)) [9] (gN 9) (dTst (d2 opNe (dCall F_law_read_so (dCons (dIx (dNm 9) (dC (.int 0))) dNil)) (dIx (dNm 9) (dC (.int 1))))) (dNm 9)) (dLst dNil)))))))))
theorem ar_p_law : Ar 1 (F_p_law) := ar_dFun _ _ _
end Law
set_option maxHeartbeats 4000000
namespace Law
open PySem PySem.Spec PyProof.Rows L2 L2H LamX Mi
/-- the draws' list at l -/
def Vat (l : Nat) (S : Sto) : Prop := ∃ a b : Int, S[l]? = some (.lst [.int a, .int b]) ∧ 0 ≤ a ∧ 0 ≤ b ∧ b < 2 ^ 64
/-- drawn: all else stays -/
structure Nx (l : Nat) (S S' : Sto) : Prop where
  len : S'.length = S.length
  vat : Vat l S'
  oth : ∀ j, j ≠ l → S'[j]? = S[j]?
theorem Nx.trans {l : Nat} {S S1 S2 : Sto} (a : Nx l S S1) (b : Nx l S1 S2) : Nx l S S2 := ⟨b.len.trans a.len, b.vat, fun j h => (b.oth j h).trans (a.oth j h)⟩
theorem Nx.refl {l : Nat} {S : Sto} (h : Vat l S) : Nx l S S := ⟨rfl, h, fun _ _ => rfl⟩
theorem Nx.take {l : Nat} {S S' : Sto} (a : Nx l S S') : S'.take S.length = S' := by rw [← a.len, List.take_length]
theorem Vat.lt {l : Nat} {S : Sto} (h : Vat l S) : l < S.length := by
  obtain ⟨a, b, e, _⟩ := h
  exact (List.getElem?_eq_some_iff.mp e).1
theorem Vat.set {l : Nat} {S : Sto} (h : Vat l S) {a b : Int} (ha : 0 ≤ a) (hb : 0 ≤ b) (hb2 : b < 2 ^ 64) : Nx l S (S.set l (.lst [.int a, .int b])) :=
  ⟨by simp, ⟨a, b, by rw [List.getElem?_set_self h.lt], ha, hb, hb2⟩, fun j hj => by rw [List.getElem?_set_ne (Ne.symm hj)]⟩
theorem sat_under {l : Nat} {m : Int} {S : Sto} {E : Str → Sto → Prop} {Q : Val → Sto → Prop} (v : Vat l S) (h0 : 0 < m) (h1 : m < 1073741824) (h : ∀ r S', 0 ≤ r → r < m → Nx l S S' → Q (.pv (.int r)) S') : (F_law_under [.loc l, .pv (.int m)] S).sat E Q := by
  obtain ⟨a, b, e, ha, hb, hb2⟩ := id v
  have hlt := v.lt
  unfold F_law_under
  refine sat_fun rfl ?_
  have g : Val.getR (.loc l) S = some (.list [.int a, .int b]) := by simp [Val.getR, Val.get, e]
  have i0 : liftIx (.loc l) (.pv (.int 0)) S = .ok (.pv (.int a)) S := by simp [liftIx, g, Val.get, ixOf, L2.atI, L2.ixN]
  have i1 : liftIx (.loc l) (.pv (.int 1)) S = .ok (.pv (.int b)) S := by simp [liftIx, g, Val.get, ixOf, L2.atI, L2.ixN]
  by_cases hp : 0 < a
  · have hm : 0 ≤ a % m := Int.emod_nonneg _ (by omega)
    have hm2 : a % m < m := Int.emod_lt_of_pos _ h0
    have hd : 0 ≤ a / m := Int.ediv_nonneg ha (by omega)
    have fs : fSet (.loc l) (.pv (.int 0)) (.pv (.int (a / m))) S = some (S.set l (.lst [.int (a / m), .int b])) := by simp [fSet, e, L2.ixN]
    simp [i0, l2_pv, opGt, hp, b1_pv, fInt, opMod, h0, opDiv, h1, fs]
    have nx := v.set (a := a / m) (b := b) hd hb hb2
    rw [nx.take]
    exact h _ _ hm hm2 nx
  · have ha0 : a = 0 := by omega
    subst ha0
    have key : ∀ b2 : Int, 0 ≤ b2 → b2 < 2147483629 → Val.getR (.loc l) (S.set l (.lst [.int 0, .int b2])) = some (.list [.int 0, .int b2]) := fun b2 _ _ => by simp [Val.getR, Val.get, List.getElem?_set_self hlt]
    have hb3 : 0 ≤ (b * 39373 + 101) % 2147483629 := Int.emod_nonneg _ (by decide)
    have hb4 : (b * 39373 + 101) % 2147483629 < 2147483629 := Int.emod_lt_of_pos _ (by decide)
    have fs : fSet (.loc l) (.pv (.int 1)) (.pv (.int ((b * 39373 + 101) % 2147483629))) S = some (S.set l (.lst [.int 0, .int ((b * 39373 + 101) % 2147483629)])) := by simp [fSet, e, L2.ixN]
    have j1 : liftIx (.loc l) (.pv (.int 1)) (S.set l (.lst [.int 0, .int ((b * 39373 + 101) % 2147483629)])) = .ok (.pv (.int ((b * 39373 + 101) % 2147483629))) (S.set l (.lst [.int 0, .int ((b * 39373 + 101) % 2147483629)])) := by
      simp [liftIx, key _ hb3 hb4, Val.get, ixOf, L2.atI, L2.ixN]
    generalize hb5 : (b * 39373 + 101) % 2147483629 = c at *
    have mul1 : opMul (.int b) (.int 39373) = some (.int (b * 39373)) := by simp [opMul]
    have cl : -(2 : Int) ^ 64 < c ∧ c < 2 ^ 64 := by constructor <;> omega
    have mul2 : ∀ d : Int, opMul (.int c) (.int d) = some (.int (c * d)) := fun d => by
      have h1 : decide (c.natAbs < 2 ^ 64) = true := decide_eq_true (by omega)
      unfold opMul
      simp only [h1, Bool.true_or, ite_true]
    simp [i0, i1, l2_pv, opGt, mul1, opAdd, b1_pv, fInt, opMod, hb5, fs, j1, opDiv, mul2, h0]
    have nx := v.set (a := 0) (b := c) (by omega) hb3 (by omega)
    rw [nx.take]
    exact h _ _ (Int.emod_nonneg _ (by omega)) (Int.emod_lt_of_pos _ h0) nx
/-- one of a list or a tuple -/
theorem sat_some {l : Nat} {ps : List PyData} {S : Sto} {E : Str → Sto → Prop} {Q : Val → Sto → Prop} {x : PyData} (hx : x = .list ps ∨ x = .tuple ps) (v : Vat l S) (h0 : ps ≠ []) (h1 : ps.length < 1000000) (h : ∀ (p : PyData) S', p ∈ ps → Nx l S S' → Q (.pv p) S') : (F_law_some [.loc l, .pv x]  S).sat E Q := by
  unfold F_law_some
  refine sat_fun rfl ?_
  have hl : 0 < ps.length := List.length_pos_iff.mpr h0
  have ln : b1 fLen [.pv x] S = .ok (.pv (.int ps.length)) S := by rcases hx with rfl | rfl <;> simp [b1_pv, fLen]
  simp [ln]
  refine sat_under v (by omega) (by omega) fun r S' r0 r1 nx => ?_
  have hr : r.toNat < ps.length := by omega
  have ix : liftIx (.pv x) (.pv (.int r)) S' = .ok (.pv ps[r.toNat]) S' := by
    have e : L2.atI ps r = some ps[r.toNat] := by
      have h4 : r < (ps.length : Int) := by omega
      simp [L2.atI, L2.ixN, r0, h4, hr]
    rcases hx with rfl | rfl <;> simp [ix_pv, ixOf, e]
  simp [ix]
  rw [nx.take]
  exact h _ _ (List.getElem_mem hr) nx
theorem at_nat {ps : List PyData} {r : Int} (r0 : 0 ≤ r) (h : r < ps.length) : L2.atI ps r = some (ps[r.toNat]'(by omega)) := by
  have hr : r.toNat < ps.length := by omega
  simp [L2.atI, L2.ixN, r0, h, hr]
/-- a new draws' list -/
theorem Vat.new {S : Sto} {a b : Int} (ha : 0 ≤ a) (hb : 0 ≤ b) (h2 : b < 2 ^ 64) : Vat S.length (S ++ [.lst [.int a, .int b]]) := ⟨a, b, by simp, ha, hb, h2⟩
theorem sat_vat {ns : List Int} {k : Int} {S : Sto} {E : Str → Sto → Prop} {Q : Val → Sto → Prop} (hk : 0 ≤ k) (h : ∀ a b : Int, 0 ≤ a → 0 ≤ b → b < 2 ^ 64 → Q (.loc S.length) (S ++ [.lst [.int a, .int b]])) : (F_law_vat [.ro (ns.map .int), .pv (.int k)] S).sat E Q := by
  have p18 : opPow (.int 10) (.int 18) = some (.int 1000000000000000000) := by simp [opPow]
  have b0 : ∀ cell : Int, 0 ≤ (cell * 131071 + 8191 * k + 5) % 2147483629 + 1 := fun cell => by
    have := Int.emod_nonneg (cell * 131071 + 8191 * k + 5) (show (2147483629 : Int) ≠ 0 by decide)
    omega
  have b1' : ∀ cell : Int, (cell * 131071 + 8191 * k + 5) % 2147483629 + 1 < 2 ^ 64 := fun cell => by
    have := Int.emod_lt_of_pos (cell * 131071 + 8191 * k + 5) (show (0 : Int) < 2147483629 by decide)
    omega
  have lv : ∀ a b : Int, leave S.length (.loc S.length) (S ++ [.lst [.int a, .int b]]) = .ok (.loc S.length) (S ++ [.lst [.int a, .int b]]) := fun a b => by
    have e : (S ++ [Ob.lst [.int a, .int b]]).take (S.length + 1) = S ++ [Ob.lst [.int a, .int b]] := List.take_of_length_le (by simp)
    simp [leave, e]
  have m0 : opMul (.int 7919) (.int k) = some (.int (7919 * k)) := by simp [opMul]
  have m1 : ∀ cell : Int, opMul (.int cell) (.int 131071) = some (.int (cell * 131071)) := fun cell => by simp [opMul]
  have m2 : opMul (.int 8191) (.int k) = some (.int (8191 * k)) := by simp [opMul]
  unfold F_law_vat
  refine sat_fun rfl ?_
  have ln : b1 fLen [.ro (ns.map .int)] S = .ok (.pv (.int ns.length)) S := by simp [b1, fLen]
  by_cases hl : k < ns.length
  · have ix : liftIx (.ro (ns.map .int)) (.pv (.int k)) S = .ok (.pv (.int (ns[k.toNat]'(by omega)))) S := by
      have e := at_nat (ps := ns.map .int) hk (by simpa using hl)
      simp [liftIx, ixOf, e]
    simp only [List.map_cons, List.map_nil, List.replicate, List.cons_append, List.nil_append]
    simp [l2_pv, m0, opAdd, ln, opLt, hl, ix, b1_pv, fInt, fAbs, p18]
    obtain ⟨cell, hcell, hc⟩ : ∃ cell, cell = (if ns[k.toNat] < 0 then -ns[k.toNat] else ns[k.toNat]) ∧ 0 ≤ cell := ⟨_, rfl, by split <;> omega⟩
    rw [← hcell]
    by_cases hg : 1000000000000000000 ≤ cell
    · simp [l2_pv, opGe, hg, opAdd, b1_pv, fInt, opMod, m1, m2, lv]
      exact h _ _ hc (b0 _) (b1' _)
    · simp [l2_pv, opGe, hg, opAdd, b1_pv, fInt, opMod, m1, m2, lv]
      exact h _ _ (by decide) (b0 _) (b1' _)
  · simp only [List.map_cons, List.map_nil, List.replicate, List.cons_append, List.nil_append]
    simp [l2_pv, m0, opAdd, ln, opLt, hl, p18]
    obtain ⟨cell, hcell, hc⟩ : ∃ cell, cell = 7919 * k + 43 ∧ 0 ≤ cell := ⟨_, rfl, by omega⟩
    rw [← hcell]
    by_cases hg : 1000000000000000000 ≤ cell
    · simp [l2_pv, opGe, hg, opAdd, b1_pv, fInt, opMod, m1, m2, lv]
      exact h _ _ hc (b0 _) (b1' _)
    · simp [l2_pv, opGe, hg, opAdd, b1_pv, fInt, opMod, m1, m2, lv]
      exact h _ _ (by decide) (b0 _) (b1' _)

def cl (v : PyData) : Prop := v.canLay0 = true
theorem cl_all : ∀ {xs : List PyData}, PyData.canLayAll0 xs = true → ∀ x ∈ xs, cl x
  | [], _ => by simp
  | a :: r, h => by
    simp only [PyData.canLayAll0, Bool.and_eq_true] at h
    intro x hx
    rcases List.mem_cons.mp hx with e | e
    · rw [e]; exact h.1
    · exact cl_all h.2 x e
theorem cl_tup {xs : List PyData} (h : cl (.tuple xs)) : ∀ x ∈ xs, cl x := cl_all (by simpa [cl, PyData.canLay0] using h)
theorem tup_cl {xs : List PyData} (h : ∀ x ∈ xs, cl x) : PyData.canLayAll0 xs = true := by
  induction xs with
  | nil => rfl
  | cons a r ih =>
    simp only [PyData.canLayAll0, Bool.and_eq_true]
    exact ⟨h a List.mem_cons_self, ih fun x hx => h x (List.mem_cons_of_mem _ hx)⟩
theorem dp_tup {xs : List PyData} {x : PyData} (h : x ∈ xs) : x.depth ≤ PyData.depthAll xs := by
  induction xs with
  | nil => cases h
  | cons a r ih =>
    simp only [PyData.depthAll]
    rcases List.mem_cons.mp h with e | e
    · rw [e]; exact Nat.le_max_left _ _
    · exact Nat.le_trans (ih e) (Nat.le_max_right _ _)
theorem tup_dp {xs : List PyData} {n : Nat} (h : ∀ x ∈ xs, x.depth ≤ n) : PyData.depthAll xs ≤ n := by
  induction xs with
  | nil => exact Nat.zero_le _
  | cons a r ih =>
    simp only [PyData.depthAll]
    exact Nat.max_le.mpr ⟨h a List.mem_cons_self, ih fun x hx => h x (List.mem_cons_of_mem _ hx)⟩
@[simp] theorem dEnd_ret (n : Nat) (v : Val) (S : Sto) : dEnd n (.ret v S) = leave n v S := rfl
@[simp] theorem shp_int (i : Int) : shp (.int i) = true := rfl
@[simp] theorem shp_bool (i : Bool) : shp (.bool i) = true := rfl
@[simp] theorem eqv_int (i j : Int) : PyData.eqv (.int i) (.int j) = (i == j) := by simp [PyData.eqv]
@[simp] theorem eqv_bool (i j : Bool) : PyData.eqv (.bool i) (.bool j) = (i == j) := by simp [PyData.eqv]
@[simp] theorem opEq_int (i j : Int) : opEq (.int i) (.int j) = some (.bool (i == j)) := by simp [opEq]
@[simp] theorem opNe_int (i j : Int) : opNe (.int i) (.int j) = some (.bool (!(i == j))) := by simp [opNe]
def isB : PyData → Bool
  | .bool _ => true
  | _ => false
@[simp] theorem isB_none  : isB (.none) = false := rfl
@[simp] theorem isB_bool (b : Bool) : isB (.bool b) = true := rfl
@[simp] theorem isB_int (b : Int) : isB (.int b) = false := rfl
@[simp] theorem isB_str (b : Str) : isB (.str b) = false := rfl
@[simp] theorem isB_list (b : List PyData) : isB (.list b) = false := rfl
@[simp] theorem isB_tuple (b : List PyData) : isB (.tuple b) = false := rfl
@[simp] theorem isB_dict (b : List (PyData × PyData)) : isB (.dict b) = false := rfl
def isT : PyData → Bool
  | .tuple _ => true
  | _ => false
@[simp] theorem isT_none  : isT (.none) = false := rfl
@[simp] theorem isT_bool (b : Bool) : isT (.bool b) = false := rfl
@[simp] theorem isT_int (b : Int) : isT (.int b) = false := rfl
@[simp] theorem isT_str (b : Str) : isT (.str b) = false := rfl
@[simp] theorem isT_list (b : List PyData) : isT (.list b) = false := rfl
@[simp] theorem isT_tuple (b : List PyData) : isT (.tuple b) = true := rfl
@[simp] theorem isT_dict (b : List (PyData × PyData)) : isT (.dict b) = false := rfl
/-- isinstance(v, int) -/
def isI : PyData → Bool
  | .bool _ => true
  | .int _ => true
  | _ => false
@[simp] theorem isI_none  : isI (.none) = false := rfl
@[simp] theorem isI_bool (b : Bool) : isI (.bool b) = true := rfl
@[simp] theorem isI_int (b : Int) : isI (.int b) = true := rfl
@[simp] theorem isI_str (b : Str) : isI (.str b) = false := rfl
@[simp] theorem isI_list (b : List PyData) : isI (.list b) = false := rfl
@[simp] theorem isI_tuple (b : List PyData) : isI (.tuple b) = false := rfl
@[simp] theorem isI_dict (b : List (PyData × PyData)) : isI (.dict b) = false := rfl
theorem isi_b {v : PyData} {S : Sto} (hv : cl v) : isiF "bool" (.pv v) S = .ok (.pv (.bool (isB v))) S := by
  cases v with
  | dict i => simp [cl, PyData.canLay0] at hv
  | _ => simp [isiF, tyName, isTy]
theorem isi_t {v : PyData} {S : Sto} (hv : cl v) : isiF "tuple" (.pv v) S = .ok (.pv (.bool (isT v))) S := by
  cases v with
  | dict i => simp [cl, PyData.canLay0] at hv
  | _ => simp [isiF, tyName, isTy]
theorem isi_i {v : PyData} {S : Sto} (hv : cl v) : isiF "int" (.pv v) S = .ok (.pv (.bool (isI v))) S := by
  cases v with
  | dict i => simp [cl, PyData.canLay0] at hv
  | _ => simp [isiF, tyName, isTy]
def pIsW : PyData → Int → Int → Bool
  | .int i, l, h => decide (l ≤ i) && decide (i ≤ h)
  | _, _, _ => false
theorem e_whole {v : PyData} {l h : Int} {S : Sto} (hv : cl v) : F_p_is_whole [.pv v, .pv (.int l), .pv (.int h)] S = .ok (.pv (.bool (pIsW v l h))) S := by
  unfold F_p_is_whole dFun
  cases v with
  | int i => by_cases h1 : l ≤ i <;> simp [isi_i hv, isi_b hv, l2_pv, opLe, pIsW, h1]
  | _ => simp [isi_i hv, isi_b hv, pIsW]
theorem e_lwhole {v : PyData} {l h : Int} {S : Sto} (hv : cl v) : F_law_is_whole [.pv v, .pv (.int l), .pv (.int h)] S = .ok (.pv (.bool (pIsW v l h))) S := e_whole hv
def pMove : PyData → Int → Bool
  | .tuple [a, b], n => pIsW a 0 (n - 1) && isB b
  | _, _ => false
theorem e_move {v : PyData} {n : Int} {S : Sto} (hv : cl v) : F_p_is_move [.pv v, .pv (.int n)] S = .ok (.pv (.bool (pMove v n))) S := by
  unfold F_p_is_move dFun
  cases v with
  | tuple xs =>
    match xs, hv with
    | [], hv => simp [isi_t hv, b1_pv, fLen, l2_pv, pMove]
    | [a], hv => simp [isi_t hv, b1_pv, fLen, l2_pv, pMove]
    | [a, b], hv =>
      have ha := cl_tup hv a (by simp)
      have hb := cl_tup hv b (by simp)
      cases hw : pIsW a 0 (n - 1) <;> simp [isi_t hv, b1_pv, fLen, l2_pv, pMove, ix_pv, ixOf, L2.atI, L2.ixN, opSub, e_whole ha, hw, isi_b hb]
    | a :: b :: c :: r, hv =>
      have h : ((r.length : Int) + 1 + 1 + 1 == 2) = false := by simp; omega
      simp [isi_t hv, b1_pv, fLen, l2_pv, pMove, h]
  | _ => simp [isi_t hv, pMove]
/-- a filter -/
theorem lc_filter {i : Nat} {T : DT} {ρ : En} {S : Sto} {f : PyData → Bool} (hi : i < ρ.length) : ∀ (xs : List PyData) (acc : List PyData), (∀ x ∈ xs, T (ρ.set i (some (.pv x))) S = .ok (f x) S) → acc.length + xs.length ≤ 16777216 →
    loopC (gN i) T (dNm i) ρ (xs.map .pv) acc S = .ok (.pv (.list (acc ++ xs.filter f))) S
  | [], acc, _, _ => by simp [loopC]
  | x :: xs, acc, h, hz => by
    have ih := fun acc h2 => lc_filter hi xs acc (fun y hy => h y (List.mem_cons_of_mem _ hy)) h2
    have hx := h x List.mem_cons_self
    have sz : szOk (acc.length + 1) = true := decide_eq_true (by simp at hz; omega)
    simp only [List.map_cons, loopC, ap_gN, hx]
    cases hf : f x with
    | false => simp only [List.filter_cons, hf]; exact ih acc (by simp at hz ⊢; omega)
    | true =>
      have nm : dNm i (ρ.set i (some (.pv x))) S = .ok (.pv x) S := by simp [List.getElem?_set_self hi]
      simp only [nm, sz, ite_true]
      rw [ih (acc ++ [x]) (by simp at hz ⊢; omega)]
      simp [List.filter_cons, hf]
theorem eqv_nil (xs : List PyData) : PyData.eqv (.list xs) (.list []) = xs.isEmpty := by cases xs <;> simp [PyData.eqv, PyData.eqvAll]
theorem shp_of {v : PyData} (h : cl v) (d : v.depth ≤ 64) : shp v = true := by simp only [shp, SeqAt.shaped, Bool.and_eq_true, decide_eq_true_eq]; exact ⟨h, d⟩
theorem shp_filter {xs : List PyData} (f : PyData → Bool) (h : ∀ x ∈ xs, cl x) (d : PyData.depthAll xs ≤ 63) : shp (.list (xs.filter f)) = true :=
  shp_of (tup_cl (xs := xs.filter f) fun x hx => h x (List.mem_filter.mp hx).1) (by
    show PyData.depthAll (xs.filter f) + 1 ≤ 64
    have := tup_dp (xs := xs.filter f) (n := 63) fun x hx => Nat.le_trans (dp_tup (List.mem_filter.mp hx).1) d
    omega)
theorem shp_nil : shp (.list []) = true := rfl
theorem filt_all (xs : List PyData) (f : PyData → Bool) : (xs.filter fun x => !f x).isEmpty = xs.all f := by
  induction xs with
  | nil => rfl
  | cons a r ih => cases h : f a <;> simp [h, ih]
/-- [x for x in v if not f(x)] == [] -/
def pRow : PyData → Int → Bool
  | .tuple [a, b, .tuple ms], n => pIsW a 0 6 && isB b && (ms.length == 4) && ms.all fun m => pMove m n
  | _, _ => false
theorem e_row {v : PyData} {n : Int} {S : Sto} (hv : cl v) (hd : v.depth ≤ 60) : F_p_is_row [.pv v, .pv (.int n)] S = .ok (.pv (.bool (pRow v n))) S := by
  unfold F_p_is_row dFun
  cases v with
  | tuple xs =>
    match xs, hv with
    | [], hv => simp [isi_t hv, b1_pv, fLen, l2_pv, pRow]
    | [a], hv => simp [isi_t hv, b1_pv, fLen, l2_pv, pRow]
    | [a, b], hv => simp [isi_t hv, b1_pv, fLen, l2_pv, pRow]
    | a :: b :: c :: d :: r, hv =>
      have h : ((r.length : Int) + 1 + 1 + 1 + 1 == 3) = false := by simp; omega
      simp [isi_t hv, b1_pv, fLen, l2_pv, pRow, h]
    | [a, b, c], hv =>
      have ha := cl_tup hv a (by simp)
      have hb := cl_tup hv b (by simp)
      have hc := cl_tup hv c (by simp)
      cases hw : pIsW a 0 6 with
      | false => cases c <;> simp [isi_t hv, b1_pv, fLen, l2_pv, pRow, ix_pv, ixOf, L2.atI, L2.ixN, e_whole ha, hw]
      | true =>
        cases hbb : isB b with
        | false => cases c <;> simp [isi_t hv, b1_pv, fLen, l2_pv, pRow, ix_pv, ixOf, L2.atI, L2.ixN, e_whole ha, hw, isi_b hb, hbb]
        | true =>
          cases c with
          | tuple ms =>
            by_cases h4 : ms.length = 4
            · have hms := cl_tup hc
              have hdm : PyData.depthAll ms ≤ 59 := by
                have := dp_tup (xs := [a, b, .tuple ms]) (x := .tuple ms) (by simp)
                simp only [PyData.depth] at hd this
                omega
              have lf := lc_filter (i := 2) (ρ := [some (.pv (.tuple [a, b, .tuple ms])), some (.pv (.int n)), none]) (S := S) (T := dNotT (dTst (dCall F_p_is_move (dCons (dNm 2) (dCons (dNm 1) dNil))))) (f := fun m => !pMove m n) (by simp) ms []
                (fun x hx => by simp [e_move (hms x hx)]) (by simp; omega)
              have s1 := shp_filter (fun m => !pMove m n) hms (by omega)
              simp [isi_t hv, isi_t hc, b1_pv, fLen, l2_pv, pRow, ix_pv, ixOf, L2.atI, L2.ixN, e_whole ha, hw, isi_b hb, hbb, h4, itemsOf, wipeE, lf, opEq, s1, shp_nil, eqv_nil, filt_all]
            · have h : ((ms.length : Int) == 4) = false := by simp; omega
              simp [isi_t hv, isi_t hc, b1_pv, fLen, l2_pv, pRow, ix_pv, ixOf, L2.atI, L2.ixN, e_whole ha, hw, isi_b hb, hbb, h, h4]
          | _ => simp [isi_t hv, isi_t hc, b1_pv, fLen, l2_pv, pRow, ix_pv, ixOf, L2.atI, L2.ixN, e_whole ha, hw, isi_b hb, hbb]
  | _ => simp [isi_t hv, pRow]
/-- a for that hands False back at the first that is not so -/
theorem loop_all {i : Nat} {B : DS} {ρ0 : En} {S : Sto} {f : PyData → Bool} : ∀ (xs : List PyData) (ρ : En), (ρ = ρ0 ∨ ∃ x, ρ = ρ0.set i (some x)) → (∀ x ∈ xs, B (ρ0.set i (some (.pv x))) S = if f x = true then .next (ρ0.set i (some (.pv x))) S else .ret (.pv (.bool false)) S) →
    ∃ ρ', (ρ' = ρ0 ∨ ∃ x, ρ' = ρ0.set i (some x)) ∧ loopF (gN i) B (xs.map .pv) ρ S = if xs.all f = true then .next ρ' S else .ret (.pv (.bool false)) S
  | [], ρ, h, _ => ⟨ρ, h, by simp [loopF]⟩
  | x :: xs, ρ, h, hb => by
    have e : ρ.set i (some (.pv x)) = ρ0.set i (some (.pv x)) := by
      rcases h with rfl | ⟨y, rfl⟩
      · rfl
      · rw [List.set_set]
    have hx := hb x List.mem_cons_self
    simp only [List.map_cons, loopF, ap_gN, e, hx]
    cases hf : f x with
    | false => exact ⟨ρ0, .inl rfl, by simp [hf]⟩
    | true =>
      obtain ⟨ρ', h1, h2⟩ := loop_all xs (ρ0.set i (some (.pv x))) (.inr ⟨_, rfl⟩) fun y hy => hb y (List.mem_cons_of_mem _ hy)
      exact ⟨ρ', h1, by simp [hf, h2]⟩
theorem e_lmove {v : PyData} {n : Int} {S : Sto} {r : Option Val} (hv : cl v) :
    (dSeq (dIfS (dOrT (dNotT (dTst (dIsi "tuple" (dNm 2)))) (dOrT (dTst (d2 opNe (dCall (b1 fLen) (dCons (dNm 2) dNil)) (dC (.int 2)))) (dNotT (dTst (dCall F_law_is_whole (dCons (dIx (dNm 2) (dC (.int 0))) (dCons (dC (.int 0)) (dCons (d2 opSub (dNm 1) (dC (.int 1))) dNil)))))))) (dRet (dC (.bool false))) dPass)
      (dIfS (dNotT (dTst (dIsi "bool" (dIx (dNm 2) (dC (.int 1)))))) (dRet (dC (.bool false))) dPass)) [r, some (.pv (.int n)), some (.pv v)] S = if pMove v n = true then .next [r, some (.pv (.int n)), some (.pv v)] S else .ret (.pv (.bool false)) S := by
  cases v with
  | tuple xs =>
    match xs, hv with
    | [], hv => simp [isi_t hv, b1_pv, fLen, l2_pv, pMove]
    | [a], hv => simp [isi_t hv, b1_pv, fLen, l2_pv, pMove]
    | [a, b], hv =>
      have ha := cl_tup hv a (by simp)
      have hb := cl_tup hv b (by simp)
      cases hw : pIsW a 0 (n - 1) <;> cases hbb : isB b <;> simp [isi_t hv, b1_pv, fLen, l2_pv, pMove, ix_pv, ixOf, L2.atI, L2.ixN, opSub, e_lwhole ha, hw, isi_b hb, hbb]
    | a :: b :: c :: r, hv =>
      have h : ((r.length : Int) + 1 + 1 + 1 == 2) = false := by simp; omega
      simp [isi_t hv, b1_pv, fLen, l2_pv, pMove, h]
  | _ => simp [isi_t hv, pMove]
theorem e_lrow {v : PyData} {n : Int} {S : Sto} (hv : cl v) : F_law_is_row [.pv v, .pv (.int n)] S = .ok (.pv (.bool (pRow v n))) S := by
  unfold F_law_is_row dFun
  cases v with
  | tuple xs =>
    match xs, hv with
    | [], hv => simp [isi_t hv, b1_pv, fLen, l2_pv, pRow]
    | [a], hv => simp [isi_t hv, b1_pv, fLen, l2_pv, pRow]
    | [a, b], hv => simp [isi_t hv, b1_pv, fLen, l2_pv, pRow]
    | a :: b :: c :: d :: r, hv =>
      have h : ((r.length : Int) + 1 + 1 + 1 + 1 == 3) = false := by simp; omega
      simp [isi_t hv, b1_pv, fLen, l2_pv, pRow, h]
    | [a, b, c], hv =>
      have ha := cl_tup hv a (by simp)
      have hb := cl_tup hv b (by simp)
      have hc := cl_tup hv c (by simp)
      cases hw : pIsW a 0 6 with
      | false => cases c <;> simp [isi_t hv, b1_pv, fLen, l2_pv, pRow, ix_pv, ixOf, L2.atI, L2.ixN, e_lwhole ha, hw]
      | true =>
        cases hbb : isB b with
        | false => cases c <;> simp [isi_t hv, b1_pv, fLen, l2_pv, pRow, ix_pv, ixOf, L2.atI, L2.ixN, e_lwhole ha, hw, isi_b hb, hbb]
        | true =>
          cases c with
          | tuple ms =>
            by_cases h4 : ms.length = 4
            · have hms := cl_tup hc
              obtain ⟨ρ', hρ, lf⟩ := loop_all (i := 2) (S := S) (f := fun m => pMove m n) (ρ0 := [some (.pv (.tuple [a, b, .tuple ms])), some (.pv (.int n)), none]) ms _ (.inl rfl) fun x hx => e_lmove (r := some (.pv (.tuple [a, b, .tuple ms]))) (n := n) (S := S) (hms x hx)
              simp [isi_t hv, isi_t hc, b1_pv, fLen, l2_pv, pRow, ix_pv, ixOf, L2.atI, L2.ixN, e_lwhole ha, hw, isi_b hb, hbb, h4, itemsOf]
              rw [lf]
              cases hm : ms.all fun m => pMove m n <;> simp [hm]
            · have h : ((ms.length : Int) == 4) = false := by simp; omega
              simp [isi_t hv, isi_t hc, b1_pv, fLen, l2_pv, pRow, ix_pv, ixOf, L2.atI, L2.ixN, e_lwhole ha, hw, isi_b hb, hbb, h, h4]
          | _ => simp [isi_t hv, isi_t hc, b1_pv, fLen, l2_pv, pRow, ix_pv, ixOf, L2.atI, L2.ixN, e_lwhole ha, hw, isi_b hb, hbb]
  | _ => simp [isi_t hv, pRow]
/-- the first row's first number -/
def p00 (rs : List PyData) : Option PyData := match rs with
  | .tuple (x :: _) :: _ => some x
  | _ => none
def pStage : PyData → Bool
  | .tuple [a, .tuple rs] => pIsW a 0 2 && decide (1 ≤ rs.length) && decide (rs.length ≤ 6) && (rs.all fun r => pRow r rs.length) && (match p00 rs with
    | some (.int i) => i == 0
    | _ => false)
  | _ => false
theorem row_head {r : PyData} {n : Int} (h : pRow r n = true) : ∃ i b ms, r = .tuple [.int i, b, .tuple ms] ∧ 0 ≤ i ∧ i ≤ 6 := by
  unfold pRow at h
  split at h
  · rename_i a b ms n'
    simp only [Bool.and_eq_true] at h
    have h1 := h.1.1.1
    unfold pIsW at h1
    split at h1
    · rename_i i l h'
      simp only [Bool.and_eq_true, decide_eq_true_eq] at h1
      exact ⟨_, _, _, rfl, h1.1, h1.2⟩
    · cases h1
  · cases h
theorem e_stage {v : PyData} {S : Sto} (hv : cl v) (hd : v.depth ≤ 60) : F_p_has_stage [.pv v] S = .ok (.pv (.bool (pStage v))) S := by
  unfold F_p_has_stage dFun
  cases v with
  | tuple xs =>
    match xs, hv with
    | [], hv => simp [isi_t hv, b1_pv, fLen, l2_pv, pStage]
    | [a], hv => simp [isi_t hv, b1_pv, fLen, l2_pv, pStage]
    | a :: b :: c :: r, hv =>
      have h : ((r.length : Int) + 1 + 1 + 1 == 2) = false := by simp; omega
      simp [isi_t hv, b1_pv, fLen, l2_pv, pStage, h]
    | [a, b], hv =>
      have ha := cl_tup hv a (by simp)
      have hb := cl_tup hv b (by simp)
      cases hw : pIsW a 0 2 with
      | false => cases b <;> simp [isi_t hv, b1_pv, fLen, l2_pv, pStage, ix_pv, ixOf, L2.atI, L2.ixN, e_whole ha, hw]
      | true =>
        cases b with
        | tuple rs =>
          have hrs := cl_tup hb
          have hdr : PyData.depthAll rs ≤ 59 := by
            have := dp_tup (xs := [a, .tuple rs]) (x := .tuple rs) (by simp)
            simp only [PyData.depth] at hd this
            omega
          by_cases h1 : 1 ≤ rs.length
          · by_cases h6 : rs.length ≤ 6
            · have lf := lc_filter (i := 1) (ρ := [some (.pv (.tuple [a, .tuple rs])), none]) (S := S) (T := dNotT (dTst (dCall F_p_is_row (dCons (dNm 1) (dCons (dCall (b1 fLen) (dCons (dIx (dNm 0) (dC (.int 1))) dNil)) dNil))))) (f := fun m => !pRow m rs.length) (by simp) rs []
                (fun x hx => by simp [ix_pv, ixOf, L2.atI, L2.ixN, b1_pv, fLen, e_row (hrs x hx) (Nat.le_trans (dp_tup hx) (by omega))]) (by simp; omega)
              have s1 := shp_filter (fun m => !pRow m rs.length) hrs (by omega)
              have h1' : (1 : Int) ≤ rs.length := by omega
              have h6' : (rs.length : Int) ≤ 6 := by omega
              cases hm : rs.all fun m => pRow m rs.length with
              | false => simp [isi_t hv, isi_t hb, b1_pv, fLen, l2_pv, pStage, ix_pv, ixOf, L2.atI, L2.ixN, e_whole ha, hw, opLe, h1, h6, h1', h6', itemsOf, wipeE, lf, opNe, s1, shp_nil, eqv_nil, filt_all, hm]
              | true =>
                have hne : rs ≠ [] := by intro e; rw [e] at h1; simp at h1
                obtain ⟨r0, rr, ers⟩ := List.exists_cons_of_ne_nil hne
                obtain ⟨i, b, ms, er, _, _⟩ := row_head (List.all_eq_true.mp hm r0 (by rw [ers]; exact List.mem_cons_self))
                have at0 : ixOf (.tuple rs) (.int 0) = some (.tuple [.int i, b, .tuple ms]) := by rw [ers, er]; simp [ixOf, L2.atI, L2.ixN]
                have p0 : p00 rs = some (.int i) := by rw [ers, er]; rfl
                have i0 : ixOf (.tuple [.int i, b, .tuple ms]) (.int 0) = some (.int i) := by simp [ixOf, L2.atI, L2.ixN]
                have x0 : ixOf (.tuple [a, .tuple rs]) (.int 0) = some a := by simp [ixOf, L2.atI, L2.ixN]
                have x1 : ixOf (.tuple [a, .tuple rs]) (.int 1) = some (.tuple rs) := by simp [ixOf, L2.atI, L2.ixN]
                simp [isi_t hv, isi_t hb, b1_pv, fLen, l2_pv, pStage, ix_pv, x0, x1, e_whole ha, hw, opLe, h1, h6, h1', h6', itemsOf, wipeE, lf, opNe, s1, shp_nil, eqv_nil, filt_all, hm, at0, i0, p0]
            · have h6' : ¬ (rs.length : Int) ≤ 6 := by omega
              have h1' : (1 : Int) ≤ rs.length := by omega
              simp [isi_t hv, isi_t hb, b1_pv, fLen, l2_pv, pStage, ix_pv, ixOf, L2.atI, L2.ixN, e_whole ha, hw, opLe, h1, h6, h1', h6']
          · have h1' : ¬ (1 : Int) ≤ rs.length := by omega
            simp [isi_t hv, isi_t hb, b1_pv, fLen, l2_pv, pStage, ix_pv, ixOf, L2.atI, L2.ixN, e_whole ha, hw, opLe, h1, h1']
        | _ => simp [isi_t hv, isi_t hb, b1_pv, fLen, l2_pv, pStage, ix_pv, ixOf, L2.atI, L2.ixN, e_whole ha, hw]
  | _ => simp [isi_t hv, pStage]
theorem e_lstage {v : PyData} {S : Sto} (hv : cl v) : F_law_is_stage [.pv v] S = .ok (.pv (.bool (pStage v))) S := by
  unfold F_law_is_stage dFun
  cases v with
  | tuple xs =>
    match xs, hv with
    | [], hv => simp [isi_t hv, b1_pv, fLen, l2_pv, pStage]
    | [a], hv => simp [isi_t hv, b1_pv, fLen, l2_pv, pStage]
    | a :: b :: c :: r, hv =>
      have h : ((r.length : Int) + 1 + 1 + 1 == 2) = false := by simp; omega
      simp [isi_t hv, b1_pv, fLen, l2_pv, pStage, h]
    | [a, b], hv =>
      have ha := cl_tup hv a (by simp)
      have hb := cl_tup hv b (by simp)
      cases hw : pIsW a 0 2 with
      | false => cases b <;> simp [isi_t hv, b1_pv, fLen, l2_pv, pStage, ix_pv, ixOf, L2.atI, L2.ixN, e_lwhole ha, hw]
      | true =>
        cases b with
        | tuple rs =>
          have hrs := cl_tup hb
          by_cases h1 : 1 ≤ rs.length
          · by_cases h6 : rs.length ≤ 6
            · have x0 : ixOf (.tuple [a, .tuple rs]) (.int 0) = some a := by simp [ixOf, L2.atI, L2.ixN]
              have x1 : ixOf (.tuple [a, .tuple rs]) (.int 1) = some (.tuple rs) := by simp [ixOf, L2.atI, L2.ixN]
              obtain ⟨ρ', hρ, lf⟩ := loop_all (i := 1) (S := S) (f := fun m => pRow m rs.length) (ρ0 := [some (.pv (.tuple [a, .tuple rs])), none])
                (B := dIfS (dNotT (dTst (dCall F_law_is_row (dCons (dNm 1) (dCons (dCall (b1 fLen) (dCons (dIx (dNm 0) (dC (.int 1))) dNil)) dNil))))) (dRet (dC (.bool false))) dPass) rs _ (.inl rfl) fun x hx => by
                  cases hr : pRow x rs.length <;> simp [ix_pv, x1, b1_pv, fLen, e_lrow (hrs x hx), hr]
              have h1' : (1 : Int) ≤ rs.length := by omega
              have h6' : (rs.length : Int) ≤ 6 := by omega
              cases hm : rs.all fun m => pRow m rs.length with
              | false => simp [isi_t hv, isi_t hb, b1_pv, fLen, l2_pv, pStage, ix_pv, x0, x1, e_lwhole ha, hw, opLe, h1, h6, h1', h6', itemsOf, lf, hm]
              | true =>
                have hne : rs ≠ [] := by intro e; rw [e] at h1; simp at h1
                obtain ⟨r0, rr, ers⟩ := List.exists_cons_of_ne_nil hne
                obtain ⟨i, b, ms, er, _, _⟩ := row_head (List.all_eq_true.mp hm r0 (by rw [ers]; exact List.mem_cons_self))
                have at0 : ixOf (.tuple rs) (.int 0) = some (.tuple [.int i, b, .tuple ms]) := by rw [ers, er]; simp [ixOf, L2.atI, L2.ixN]
                have p0 : p00 rs = some (.int i) := by rw [ers, er]; rfl
                have i0 : ixOf (.tuple [.int i, b, .tuple ms]) (.int 0) = some (.int i) := by simp [ixOf, L2.atI, L2.ixN]
                rw [hm] at lf
                rcases hρ with rfl | ⟨y, rfl⟩ <;> simp [isi_t hv, isi_t hb, b1_pv, fLen, l2_pv, pStage, ix_pv, x0, x1, e_lwhole ha, hw, opLe, h1, h6, h1', h6', itemsOf, lf, hm, at0, i0, p0]
            · have h6' : ¬ (rs.length : Int) ≤ 6 := by omega
              have h1' : (1 : Int) ≤ rs.length := by omega
              simp [isi_t hv, isi_t hb, b1_pv, fLen, l2_pv, pStage, ix_pv, ixOf, L2.atI, L2.ixN, e_lwhole ha, hw, opLe, h1, h6, h1', h6']
          · have h1' : ¬ (1 : Int) ≤ rs.length := by omega
            simp [isi_t hv, isi_t hb, b1_pv, fLen, l2_pv, pStage, ix_pv, ixOf, L2.atI, L2.ixN, e_lwhole ha, hw, opLe, h1, h1']
        | _ => simp [isi_t hv, isi_t hb, b1_pv, fLen, l2_pv, pStage, ix_pv, ixOf, L2.atI, L2.ixN, e_lwhole ha, hw]
  | _ => simp [isi_t hv, pStage]
theorem rng_ok {j : Int} {S : Sto} (h0 : 0 ≤ j) (h1 : j < 1000000) : rngOf 0 j S = .ok ((List.range j.toNat).map fun i => Val.pv (.int (i : Nat))) S := by
  have c : (decide (-(2 ^ 62) ≤ (0 : Int)) && decide ((0 : Int) < 2 ^ 62) && decide (-(2 ^ 62) ≤ j) && decide (j < 2 ^ 62)) = true := by
    simp only [Bool.and_eq_true, decide_eq_true_eq]
    refine ⟨⟨⟨by decide, by decide⟩, ?_⟩, ?_⟩ <;> omega
  rw [rngOf_eq]
  unfold rngRaw
  rw [if_pos c]
  simp
theorem lc_map {i : Nat} {A : DE} {ρ : En} {S : Sto} {α : Type} {f g : α → PyData} : ∀ (xs : List α) (acc : List PyData), (∀ x ∈ xs, A (ρ.set i (some (.pv (f x)))) S = .ok (.pv (g x)) S) → acc.length + xs.length ≤ 16777216 →
    loopC (gN i) dYes A ρ (xs.map fun x => .pv (f x)) acc S = .ok (.pv (.list (acc ++ xs.map g))) S
  | [], acc, _, _ => by simp [loopC]
  | x :: xs, acc, h, hz => by
    have hx := h x List.mem_cons_self
    have sz : szOk (acc.length + 1) = true := decide_eq_true (by simp at hz; omega)
    simp only [List.map_cons, loopC, ap_gN, ap_Yes, hx, sz, ite_true]
    rw [lc_map xs (acc ++ [g x]) (fun y hy => h y (List.mem_cons_of_mem _ hy)) (by simp at hz ⊢; omega)]
    simp
def qGive (p h g f : Int) : PyData := .tuple [.int (if f = 1 ∧ 0 < h then (if h + g - 1 < p then h + g - 1 else p) else (if h + g < p then h + g else p)), .bool (decide (f = 1 ∧ 0 < h))]
def qRow (p s h : Int) : PyData := .tuple [.int h, .bool (decide (h + s ≤ p)), .tuple [qGive p h 0 0, qGive p h 0 1, qGive p h 1 0, qGive p h 1 1]]
theorem b2m {f : Int → Int → Int} {i j : Int} {S : Sto} : b2 f [.pv (.int i), .pv (.int j)] S = .ok (.pv (.int (f i j))) S := rfl
def qStage (p s l : Int) : PyData := .tuple [.int l, .tuple ((List.range (p + 1).toNat).map fun h => qRow p s (h : Nat))]
theorem qrow_law {p s h : Int} (h0 : 0 ≤ h) (h1 : h ≤ p) (hp : 1 ≤ p) : PyData.tuple [.int h, .bool (decide (h ≤ p - s)), .tuple [.tuple [.int h, .bool false], .tuple [.int (if h - 1 > 0 then h - 1 else 0), .bool (decide (0 < h))], .tuple [.int (if h + 1 < p then h + 1 else p), .bool false], .tuple [.int (if h > 1 then h else 1), .bool (decide (0 < h))]]] = qRow p s h := by
  unfold qRow qGive
  have e1 : decide (h ≤ p - s) = decide (h + s ≤ p) := by
    by_cases c : h ≤ p - s
    · rw [decide_eq_true c, decide_eq_true (by omega)]
    · rw [decide_eq_false c, decide_eq_false (by omega)]
  rw [e1]
  by_cases hp0 : 0 < h
  · simp [hp0]
    refine ⟨?_, ?_, ?_⟩ <;> (first | omega | (intros; omega) | (split <;> omega) | (split <;> split <;> omega))
  · have : h = 0 := by omega
    subst this
    simp <;> (first | omega | (intros; omega) | (split <;> omega))
theorem sat_lqueue {p s l : Int} {S : Sto} {E : Str → Sto → Prop} {Q : Val → Sto → Prop} (hp : 1 ≤ p ∧ p ≤ 100) (h : Q (.pv (qStage p s l)) S) : (F_law_queue [.pv (.int p), .pv (.int s), .pv (.int l)] S).sat E Q := by
  unfold F_law_queue
  refine sat_fun rfl ?_
  have rg : ∀ S', rngOf 0 (p + 1) S' = .ok ((List.range (p + 1).toNat).map fun i => Val.pv (.int (i : Nat))) S' := fun S' => rng_ok (by omega) (by omega)
  simp [l2_pv, opAdd, rg]
  have key := sat_for (E := fun c S1 => E c (S1.take S.length)) (I := fun i ρ S' => ∃ a b, ρ = [some (.pv (.int p)), some (.pv (.int s)), some (.pv (.int l)), some (.loc S.length), a, b] ∧ S' = S ++ [.lst ((List.range i).map fun h => qRow p s (h : Nat))])
    (g := gN 4) (B := dSeq (dSet 5 (dLst (dCons (dTup (dCons (dNm 4) (dCons (dC (.bool false)) dNil))) (dCons (dTup (dCons (dCall b2max (dCons (dC (.int 0)) (dCons (d2 opSub (dNm 4) (dC (.int 1))) dNil))) (dCons (d2 opGt (dNm 4) (dC (.int 0))) dNil))) dNil))))
  (dSeq (dSet 5 (d2 opAdd (dNm 5) (dLst (dCons (dTup (dCons (dCall b2min (dCons (dNm 0) (dCons (d2 opAdd (dNm 4) (dC (.int 1))) dNil))) (dCons (dC (.bool false)) dNil))) (dCons (dTup (dCons (dCall b2max (dCons (dC (.int 1)) (dCons (dNm 4) dNil))) (dCons (d2 opGt (dNm 4) (dC (.int 0))) dNil))) dNil)))))
  (dDo (dApp (dNm 3) (dTup (dCons (dNm 4) (dCons (d2 opLe (dNm 4) (d2 opSub (dNm 0) (dNm 1))) (dCons (dCall (b1 fTuple) (dCons (dNm 5) dNil)) dNil))))))))
    (D := { n := fun ρ S1 => ((dRet (dTup (dCons (dNm 2) (dCons (dCall (b1 fTuple) (dCons (dNm 3) dNil)) dNil)))) ρ S1).sat (fun c S1 => E c (S1.take S.length)) { n := fun ρ S1 => (leave S.length (.pv .none) S1).sat E Q, r := fun v S1 => (leave S.length v S1).sat E Q }, r := fun v S1 => (leave S.length v S1).sat E Q })
    (xs := (List.range (p + 1).toNat).map fun i => Val.pv (.int (i : Nat))) (fun i x ρ S' hx ⟨a, b, er, es⟩ => ?_) (fun ρ S' ⟨a, b, er, es⟩ => ?_) 0 [some (.pv (.int p)), some (.pv (.int s)), some (.pv (.int l)), some (.loc S.length), none, none] (S ++ [.lst []]) (Nat.zero_le _) ⟨none, none, rfl, rfl⟩
  · simpa using key
  · have hi : i < (p + 1).toNat := by
      have := (List.getElem?_eq_some_iff.mp hx).1
      simpa using this
    have ex : x = .pv (.int (i : Nat)) := by
      rw [List.getElem?_map, List.getElem?_range hi] at hx
      simpa using hx.symm
    subst ex er es
    have hl : (S ++ [Ob.lst ((List.range i).map fun h => qRow p s (h : Nat))])[S.length]? = some (.lst ((List.range i).map fun h => qRow p s (h : Nat))) := by simp
    have la : lstAt (.loc S.length) (S ++ [Ob.lst ((List.range i).map fun h => qRow p s (h : Nat))]) = true := by simp [lstAt]
    have st : ∀ o, (S ++ [Ob.lst ((List.range i).map fun h => qRow p s (h : Nat))]).set S.length o = S ++ [o] := fun o => by simp
    have zz : i ≤ 16777215 := by omega
    have e := qrow_law (p := p) (s := s) (h := (i : Nat)) (by omega) (by omega) hp.1
    refine ⟨_, rfl, ?_⟩
    simp [l2_pv, opSub, opAdd, opGt, opLe, b2max, b2min, b2m, b1_pv, fTuple, la, fApp, zz]
    rw [List.range_succ, List.map_append, List.map_cons, List.map_nil, ← e]
    simp
  · subst er es
    have gr : Val.getR (.loc S.length) (S ++ [Ob.lst ((List.range (p + 1).toNat).map fun h => qRow p s (h : Nat))]) = some (.list ((List.range (p + 1).toNat).map fun h => qRow p s (h : Nat))) := by simp [Val.getR, Val.get]
    simp [b1, gr, fTuple]
    exact h

mutual
/-- good in size: n more than at the start -/
def vb (n : Nat) : PyData → Bool
  | .none => true
  | .bool _ => true
  | .int i => decide (i.natAbs ≤ 10 ^ 31 + n)
  | .str z => (PyData.str z).canLay0 && decide (z.length ≤ 100)
  | .list xs => decide (xs.length ≤ 20 + n) && vbs n xs
  | .tuple xs => decide (xs.length ≤ 20 + n) && vbs n xs
  | .dict _ => false
def vbs (n : Nat) : List PyData → Bool
  | [] => true
  | x :: xs => vb n x && vbs n xs
end
theorem vbs_iff {n : Nat} : ∀ {xs : List PyData}, vbs n xs = true ↔ ∀ x ∈ xs, vb n x = true
  | [] => by simp [vbs]
  | x :: xs => by simp [vbs, vbs_iff (xs := xs)]
theorem vb_tup {n : Nat} {xs : List PyData} : vb n (.tuple xs) = true ↔ xs.length ≤ 20 + n ∧ ∀ x ∈ xs, vb n x = true := by simp [vb, vbs_iff]
theorem vb_lst {n : Nat} {xs : List PyData} : vb n (.list xs) = true ↔ xs.length ≤ 20 + n ∧ ∀ x ∈ xs, vb n x = true := by simp [vb, vbs_iff]
mutual
theorem vb_cl {n : Nat} : ∀ {v : PyData}, vb n v = true → v.canLay0 = true
  | .none, _ => rfl
  | .bool _, _ => rfl
  | .int _, _ => rfl
  | .str _, h => by simp only [vb, Bool.and_eq_true, decide_eq_true_eq] at h ⊢; first | exact h.1 | exact h
  | .list xs, h => by simp only [vb, Bool.and_eq_true] at h; exact vbs_cl h.2
  | .tuple xs, h => by simp only [vb, Bool.and_eq_true] at h; exact vbs_cl h.2
  | .dict _, h => by simp [vb] at h
theorem vbs_cl {n : Nat} : ∀ {xs : List PyData}, vbs n xs = true → PyData.canLayAll0 xs = true
  | [], _ => rfl
  | x :: xs, h => by
    simp only [vbs, Bool.and_eq_true] at h
    simp only [PyData.canLayAll0, Bool.and_eq_true]
    exact ⟨vb_cl h.1, vbs_cl h.2⟩
end
mutual
theorem vb_up {n m : Nat} (hm : n ≤ m) : ∀ {v : PyData}, vb n v = true → vb m v = true
  | .none, _ => rfl
  | .bool _, _ => rfl
  | .int i, h => by simp only [vb, decide_eq_true_eq] at h ⊢; omega
  | .str _, h => by simp only [vb, Bool.and_eq_true, decide_eq_true_eq] at h ⊢; first | exact h.1 | exact h
  | .list xs, h => by simp only [vb, Bool.and_eq_true, decide_eq_true_eq] at h ⊢; exact ⟨by omega, vbs_up hm h.2⟩
  | .tuple xs, h => by simp only [vb, Bool.and_eq_true, decide_eq_true_eq] at h ⊢; exact ⟨by omega, vbs_up hm h.2⟩
  | .dict _, h => by simp [vb] at h
theorem vbs_up {n m : Nat} (hm : n ≤ m) : ∀ {xs : List PyData}, vbs n xs = true → vbs m xs = true
  | [], _ => rfl
  | x :: xs, h => by
    simp only [vbs, Bool.and_eq_true] at h ⊢
    exact ⟨vb_up hm h.1, vbs_up hm h.2⟩
end
/-- good: in size n, in depth d -/
def Gd (n d : Nat) (v : PyData) : Prop := vb n v = true ∧ v.depth ≤ d
theorem Gd.cl {n d : Nat} {v : PyData} (h : Gd n d v) : cl v := vb_cl h.1
theorem Gd.up {n d n' d' : Nat} {v : PyData} (h : Gd n d v) (h1 : n ≤ n') (h2 : d ≤ d') : Gd n' d' v := ⟨vb_up h1 h.1, Nat.le_trans h.2 h2⟩
theorem gd_tup {n d : Nat} {xs : List PyData} (hl : xs.length ≤ 20 + n) (h : ∀ x ∈ xs, Gd n d x) : Gd n (d + 1) (.tuple xs) := ⟨vb_tup.mpr ⟨hl, fun x hx => (h x hx).1⟩, Nat.succ_le_succ (tup_dp fun x hx => (h x hx).2)⟩
theorem gd_lst {n d : Nat} {xs : List PyData} (hl : xs.length ≤ 20 + n) (h : ∀ x ∈ xs, Gd n d x) : Gd n (d + 1) (.list xs) := ⟨vb_lst.mpr ⟨hl, fun x hx => (h x hx).1⟩, Nat.succ_le_succ (tup_dp fun x hx => (h x hx).2)⟩
theorem gd_mem {n d : Nat} {xs : List PyData} (h : Gd n d (.tuple xs)) : xs.length ≤ 20 + n ∧ ∀ x ∈ xs, Gd n (d - 1) x :=
  ⟨(vb_tup.mp h.1).1, fun x hx => ⟨(vb_tup.mp h.1).2 x hx, by
    have h1 := dp_tup hx
    have h2 : PyData.depthAll xs + 1 ≤ d := h.2
    omega⟩⟩
def mv0 : PyData := .tuple [.int 0, .bool false]
def rw0 : PyData := .tuple [.int 0, .bool true, .tuple [mv0, mv0, mv0, mv0]]
def odds : List PyData := [.none, .bool true, .bool false, .int 0, .int 1, .int 2, .int 7, .int (-1), .int (10 ^ 31), .str "", .str "late 0", .tuple [], .list [], .tuple [.bool true, .bool false], .tuple [.int 0, .bool false], .tuple [.int 0, .tuple []],
  .tuple [.tuple [.bool false, .bool false]], rw0, .tuple [.int 0, .tuple [rw0]]]
theorem odds_gd : ∀ v ∈ odds, Gd 0 5 v := by
  have h : (odds.all fun v => vb 0 v && decide (v.depth ≤ 5)) = true := by decide +kernel
  intro v hv
  have h2 := List.all_eq_true.mp h v hv
  simp only [Bool.and_eq_true, decide_eq_true_eq] at h2
  exact h2
theorem sat_odd {E : Str → Sto → Prop} : ∀ (m : Nat) (d : Nat) {l : Nat} {S : Sto} {Q : Val → Sto → Prop}, Vat l S → d < m → (∀ v S', Gd 0 (5 + d) v → Nx l S S' → Q (.pv v) S') → (F_law_odd m [.loc l, .pv (.int d)] S).sat E Q := by
  intro m
  induction m generalizing E with
  | zero => intro d l S Q _ h; omega
  | succ m ih =>
    intro d l S Q v hd h
    unfold F_law_odd
    refine sat_fun rfl ?_
    have p31 : opPow (.int 10) (.int 31) = some (.int (10 ^ 31)) := by simp [opPow]
    have ml : opMul (.tuple [mv0]) (.int 4) = some (.tuple [mv0, mv0, mv0, mv0]) := by simp [opMul] <;> rfl
    have od : ∀ S', (dSet 2 (dLst (dCons (dC .none) (dCons (dC (.bool true)) (dCons (dC (.bool false)) (dCons (dC (.int 0)) (dCons (dC (.int 1)) (dCons (dC (.int 2)) (dCons (dC (.int 7)) (dCons (dNeg (dC (.int 1))) (dCons (d2 opPow (dC (.int 10)) (dC (.int 31))) (dCons (dC (.str "")) (dCons (dC (.str "late 0")) (dCons (dTup dNil) (dCons (dLst dNil) (dCons (dTup (dCons (dC (.bool true)) (dCons (dC (.bool false)) dNil))) (dCons (dTup (dCons (dC (.int 0)) (dCons (dC (.bool false)) dNil))) (dCons (dTup (dCons (dC (.int 0)) (dCons (dTup dNil) dNil))) dNil)))))))))))))))))) [some (.loc l), some (.pv (.int d)), none, none, none] S' = .next [some (.loc l), some (.pv (.int d)), some (.pv (.list (odds.take 16))), none, none] S' := fun S' => by
      simp [l2_pv, p31] <;> rfl
    have od2 : ∀ S', (dSet 2 (d2 opAdd (dNm 2) (dLst (dCons (dTup (dCons (dTup (dCons (dC (.bool false)) (dCons (dC (.bool false)) dNil))) dNil)) (dCons (dTup (dCons (dC (.int 0)) (dCons (dC (.bool true)) (dCons (d2 opMul (dTup (dCons (dTup (dCons (dC (.int 0)) (dCons (dC (.bool false)) dNil))) dNil)) (dC (.int 4))) dNil)))) (dCons (dTup (dCons (dC (.int 0)) (dCons (dTup (dCons (dTup (dCons (dC (.int 0)) (dCons (dC (.bool true)) (dCons (d2 opMul (dTup (dCons (dTup (dCons (dC (.int 0)) (dCons (dC (.bool false)) dNil))) dNil)) (dC (.int 4))) dNil)))) dNil)) dNil))) dNil)))))) [some (.loc l), some (.pv (.int d)), some (.pv (.list (odds.take 16))), none, none] S' = .next [some (.loc l), some (.pv (.int d)), some (.pv (.list odds)), none, none] S' := fun S' => by
      have ml' : opMul (.tuple [.tuple [.int 0, .bool false]]) (.int 4) = some (.tuple [mv0, mv0, mv0, mv0]) := ml
      simp [l2_pv, ml', opAdd, odds] <;> rfl
    simp only [List.map_cons, List.map_nil, List.replicate, List.cons_append, List.nil_append, ap_Seq, sat_nx, od, od2, sat_next, Nat.reduceSub]
    have pick : ∀ S1, Nx l S S1 → (F_law_some [.loc l, .pv (.list odds)] S1).sat (fun c S1 => E c (S1.take S.length)) fun v S1 => (leave S.length v S1).sat E Q := fun S1 nx => by
      refine sat_some (.inl rfl) nx.vat (by simp [odds]) (by simp [odds]) fun p S2 hp nx2 => ?_
      have nn := nx.trans nx2
      simp [nn.take]
      exact h p S2 ((odds_gd p hp).up (Nat.le_refl _) (by omega)) nn
    by_cases h0 : d = 0
    · subst h0
      simp [l2_pv]
      exact pick S (Nx.refl v)
    · have h0' : ((d : Int) == 0) = false := by simp; omega
      simp [l2_pv, h0']
      refine sat_under v (by omega) (by omega) fun r S1 r0 r1 nx1 => ?_
      by_cases h6 : r < 6
      · simp [l2_pv, opLt, h6]
        exact pick S1 nx1
      · simp [l2_pv, opLt, h6]
        refine sat_under nx1.vat (by omega) (by omega) fun r2 S2 r20 r21 nx2 => ?_
        simp [rng_ok (S := S2) (j := r2) r20 (by omega)]
        have key := sat_lc (E := fun c S1 => E c (S1.take S.length)) (I := fun i acc S' => Nx l S S' ∧ acc.length = i ∧ ∀ x ∈ acc, Gd 0 (5 + (d - 1)) x) (g := gN 4) (T := dYes) (A := dCall (F_law_odd m) (dCons (dNm 0) (dCons (d2 opSub (dNm 1) (dC (.int 1))) dNil)))
          (ρ := wipeE [some (.loc l), some (.pv (.int d)), some (.pv (.list odds)), none, none] [4]) (xs := (List.range r2.toNat).map fun i => Val.pv (.int (i : Nat)))
          (Q := fun a S1 => ((dRet (dIf (dTst (d2 opEq (dCall F_law_under (dCons (dNm 0) (dCons (dC (.int 3)) dNil))) (dC (.int 0)))) (dNm 3) (dCall (b1 fTuple) (dCons (dNm 3) dNil)))) [some (.loc l), some (.pv (.int d)), some (.pv (.list odds)), some a, none] S1).sat (fun c S1 => E c (S1.take S.length)) { n := fun ρ S1 => (leave S.length (.pv .none) S1).sat E Q, r := fun v S1 => (leave S.length v S1).sat E Q })
          (fun i x acc S' hx ⟨nx, hl, ha⟩ => ?_) (fun acc S' ⟨nx, hl, ha⟩ => ?_) 0 [] S2 (Nat.zero_le _) ⟨nx1.trans nx2, rfl, by simp⟩
        · simpa using key
        · have hi : i < r2.toNat := by
            have := (List.getElem?_eq_some_iff.mp hx).1
            simpa using this
          refine ⟨_, rfl, ?_⟩
          have e : ((d : Int) - 1) = ((d - 1 : Nat) : Int) := by omega
          simp [l2_pv, opSub, wipeE, e]
          refine ih (d - 1) nx.vat (by omega) fun w S3 hw nx3 => ⟨w, rfl, by omega, nx.trans nx3, by simp [hl], fun y hy => ?_⟩
          rcases hy with z | z
          · exact ha y z
          · subst z; exact hw
        · have hl3 : acc.length ≤ 20 := by
            have : acc.length = r2.toNat := by simpa using hl
            omega
          simp
          refine sat_under nx.vat (by omega) (by omega) fun r3 S3 r30 r31 nx3 => ?_
          have nn := nx.trans nx3
          have e : 5 + (d - 1) + 1 = 5 + d := by omega
          by_cases h3 : r3 = 0
          · simp [l2_pv, h3, nn.take]
            exact h _ _ (e ▸ gd_lst hl3 ha) nn
          · simp [l2_pv, h3, b1_pv, fTuple, nn.take]
            exact h _ _ (e ▸ gd_tup hl3 ha) nn

theorem opAdd_int (i j : Int) : opAdd (.int i) (.int j) = some (.int (i + j)) := rfl
theorem cut_lo {xs : List PyData} {r : Nat} (h : r ≤ xs.length) : slOf none (some (r : Int)) (.tuple xs) = some (.tuple (xs.take r)) := by
  simp only [slOf, cutP, HT.sIx_nat, HT.sIx_none, List.drop_zero, Nat.sub_zero, Nat.min_eq_left h]
theorem cut_hi {xs : List PyData} {r : Nat} (h : r ≤ xs.length) : slOf (some (r : Int)) none (.tuple xs) = some (.tuple (xs.drop r)) := by
  simp only [slOf, cutP, HT.sIx_nat, HT.sIx_none, Nat.min_eq_left h]
  rw [List.take_of_length_le (by simp)]
theorem sat_seq {A B : DS} {ρ : En} {S : Sto} {E : Str → Sto → Prop} {D : Ws} (h : (A ρ S).sat E { D with n := fun ρ S => (B ρ S).sat E D }) : (dSeq A B ρ S).sat E D := by
  rw [ap_Seq, sat_nx]; exact h
theorem sat_ifs {T : DT} {A B : DS} {ρ : En} {S : Sto} {E : Str → Sto → Prop} {D : Ws} {R : Bool → Sto → Prop} (h : (T ρ S).sat E R) (h1 : ∀ S1, R true S1 → (A ρ S1).sat E D) (h2 : ∀ S1, R false S1 → (B ρ S1).sat E D) : (dIfS T A B ρ S).sat E D := by
  rw [ap_IfS, sat_s]
  refine h.imp (fun b S1 hb => ?_) fun _ _ z => z
  cases b with
  | true => exact h1 S1 hb
  | false => exact h2 S1 hb
theorem add_tup {xs ys : List PyData} (h : xs.length + ys.length ≤ 1000) : opAdd (.tuple xs) (.tuple ys) = some (.tuple (xs ++ ys)) := by
  have z : xs.length + ys.length ≤ 16777216 := by omega
  simp [opAdd, z]
theorem str_gd {i : Int} (h : i.natAbs ≤ 10 ^ 31 + 100) : fStr (.int i) = some (.str (toString i)) ∧ (PyData.str (toString i : String)).canLay0 = true := by
  constructor
  · have h2 : i.natAbs.log2 < 1920 := by
      by_cases z : i.natAbs = 0
      · rw [z]; decide
      · exact (Nat.log2_lt z).mpr (Nat.lt_of_le_of_lt h (by decide))
    simp [fStr, h2]
  · show PyData.strOk (Str.ofString (toString i)) = true
    rw [Str.ofString_eq_toList]
    simp only [PyData.strOk, List.all_toArray, List.all_map, List.all_eq_true, Function.comp_apply, decide_eq_true_eq]
    intro c _
    exact (by
      have := c.valid
      rcases this with z | ⟨_, z⟩
      · have : c.toNat < 0xd800 := z
        omega
      · exact z)
end Law
set_option maxHeartbeats 4000000
namespace Law
open PySem PySem.Spec PyProof.Rows L2 L2H LamX Mi
theorem sat_eq {α : Type} {r : Res α} {v : α} {S : Sto} (h : r.sat (fun _ _ => False) (fun a S' => a = v ∧ S' = S)) : r = .ok v S := by
  cases r with
  | ok a S' => obtain ⟨rfl, rfl⟩ := h; rfl
  | err c f S' => exact h.elim
  | bad => exact h.elim
theorem sat_of {α : Type} {r : Res α} {v : α} {S : Sto} {E : Str → Sto → Prop} {Q : α → Sto → Prop} (h : r = .ok v S) (q : Q v S) : r.sat E Q := by rw [h]; exact q
/-- a comprehension without draws -/
theorem lc_gen {α : Type} {g : DG} {T : DT} {A : DE} {ρ : En} {S : Sto} {val : α → Val} {keep : α → Bool} {out : α → PyData} : ∀ (items : List α) (acc : List PyData), (∀ a ∈ items, ∃ ρ1, g (val a) ρ = some ρ1 ∧ T ρ1 S = .ok (keep a) S ∧ (keep a = true → A ρ1 S = .ok (.pv (out a)) S)) → acc.length + items.length ≤ 16777216 →
    loopC g T A ρ (items.map val) acc S = .ok (.pv (.list (acc ++ (items.filter keep).map out))) S
  | [], acc, _, _ => by simp [loopC]
  | a :: r, acc, h, hz => by
    obtain ⟨ρ1, h1, h2, h3⟩ := h a List.mem_cons_self
    have ih := fun acc hz => lc_gen (S := S) r acc (fun b hb => h b (List.mem_cons_of_mem _ hb)) hz
    simp only [List.map_cons, loopC, h1, h2]
    cases hk : keep a with
    | false => simp only [List.filter_cons, hk]; exact ih acc (by simp at hz ⊢; omega)
    | true =>
      have sz : szOk (acc.length + 1) = true := decide_eq_true (by simp at hz; omega)
      simp only [h3 hk, sz, ite_true]
      rw [ih _ (by simp at hz ⊢; omega)]
      simp [List.filter_cons, hk]
/-- a comprehension of a plain name -/
theorem lc_gen' {α : Type} {g : DG} {T : DT} {A : DE} {ρ : En} {S : Sto} {val : α → Val} {keep : α → Bool} {out : α → PyData} (items : List α) {xs : List Val} (hx : xs = items.map val) (h : ∀ a ∈ items, ∃ ρ1, g (val a) ρ = some ρ1 ∧ T ρ1 S = .ok (keep a) S ∧ (keep a = true → A ρ1 S = .ok (.pv (out a)) S)) (hz : items.length ≤ 16777216) :
    loopC g T A ρ xs [] S = .ok (.pv (.list ((items.filter keep).map out))) S := by
  rw [hx]
  simpa using lc_gen items [] h (by simpa using hz)
theorem ix_tup (xs : List PyData) (n : Nat) : ixOf (.tuple xs) (.int (n : Nat)) = xs[n]? := by
  simp only [ixOf, L2.atI, L2.ixN]
  by_cases h : n < xs.length
  · simp [h]
  · simp [h]
theorem ix_lst (xs : List PyData) (n : Nat) : ixOf (.list xs) (.int (n : Nat)) = xs[n]? := by
  simp only [ixOf, L2.atI, L2.ixN]
  by_cases h : n < xs.length
  · simp [h]
  · simp [h]
theorem ix_tup0 (xs : List PyData) : ixOf (.tuple xs) (.int 0) = xs[0]? := ix_tup xs 0
theorem ix_tup1 (xs : List PyData) : ixOf (.tuple xs) (.int 1) = xs[1]? := ix_tup xs 1
theorem ix_tup2 (xs : List PyData) : ixOf (.tuple xs) (.int 2) = xs[2]? := ix_tup xs 2
theorem ix_tup3 (xs : List PyData) : ixOf (.tuple xs) (.int 3) = xs[3]? := ix_tup xs 3
theorem ix_lst0 (xs : List PyData) : ixOf (.list xs) (.int 0) = xs[0]? := ix_lst xs 0
theorem ix_lst1 (xs : List PyData) : ixOf (.list xs) (.int 1) = xs[1]? := ix_lst xs 1
theorem ix_lstL (xs : List PyData) : ixOf (.list xs) (.int (-1)) = xs.getLast? := by
  simp only [ixOf, L2.atI, L2.ixN]
  rw [List.getLast?_eq_getElem?]
  cases xs with
  | nil => simp
  | cons a r =>
    have h : (0 : Int) ≤ -1 + ((r.length : Int) + 1) := by omega
    have h2 : (-1 + ((r.length : Int) + 1)).toNat = r.length := by omega
    have h3 : -1 + ((r.length : Int) + 1) < (r.length : Int) + 1 := by omega
    simp
    first
      | (simp [h, h2, h3]; done)
      | (split <;> first | (simp_all; done) | omega)
theorem ix_tupL (xs : List PyData) : ixOf (.tuple xs) (.int (-1)) = xs.getLast? := ix_lstL xs
theorem mulL (xs : List PyData) (n : Nat) (h : n ≤ 1000) (h2 : xs.length ≤ 1000) : opMul (.list xs) (.int (n : Nat)) = some (.list (List.replicate n xs).flatten) := by
  have a1 : decide ((n : Int).natAbs < 2 ^ 63) = true := decide_eq_true (by omega)
  have a3 : szOk (xs.length * ((n : Int)).toNat) = true := decide_eq_true (by
    have e : ((n : Int)).toNat = n := rfl
    rw [e]
    exact Nat.le_trans (Nat.mul_le_mul h2 h) (by decide))
  simp only [opMul, a1, a3, Bool.and_self, ite_true]
  rfl
theorem mulT (xs : List PyData) (n : Nat) (h : n ≤ 1000) (h2 : xs.length ≤ 1000) : opMul (.tuple xs) (.int (n : Nat)) = some (.tuple (List.replicate n xs).flatten) := by
  have a1 : decide ((n : Int).natAbs ≤ 1000) = true := decide_eq_true (by omega)
  have a3 : decide (xs.length ≤ 1000) = true := decide_eq_true h2
  simp only [opMul, a1, a3, Bool.and_self, ite_true]
  rfl
theorem flat1 {α : Type} (a : α) : ∀ n : Nat, (List.replicate n [a]).flatten = List.replicate n a
  | 0 => rfl
  | n + 1 => by rw [List.replicate_succ, List.flatten_cons, flat1 a n]; rfl
theorem addT {xs ys : List PyData} (h : xs.length + ys.length ≤ 16777216) : opAdd (.tuple xs) (.tuple ys) = some (.tuple (xs ++ ys)) := by simp [opAdd, h]
theorem addL {xs ys : List PyData} (h : xs.length + ys.length ≤ 16777216) : opAdd (.list xs) (.list ys) = some (.list (xs ++ ys)) := by simp [opAdd, h]
theorem enum_zip (xs : List PyData) : xs.mapIdx enumP = xs.zipIdx.map fun p => enumP p.2 p.1 := by
  rw [List.mapIdx_eq_zipIdx_map]
/-- shared objects of one's own, behind S -/
def Pre (S S' : Sto) : Prop := S.length ≤ S'.length ∧ ∀ j, j < S.length → S'[j]? = S[j]?
theorem Pre.refl (S : Sto) : Pre S S := ⟨Nat.le_refl _, fun _ _ => rfl⟩
theorem Pre.trans {S S1 S2 : Sto} (a : Pre S S1) (b : Pre S1 S2) : Pre S S2 := ⟨Nat.le_trans a.1 b.1, fun j h => (b.2 j (Nat.lt_of_lt_of_le h a.1)).trans (a.2 j h)⟩
theorem Pre.app {S S' : Sto} (h : Pre S S') (xs : Sto) : Pre S (S' ++ xs) := ⟨by rw [List.length_append]; have := h.1; omega, fun j hj => by rw [List.getElem?_append_left (Nat.lt_of_lt_of_le hj h.1)]; exact h.2 j hj⟩
theorem Pre.set {S S' : Sto} (h : Pre S S') {j : Nat} (hj : S.length ≤ j) (o : Ob) : Pre S (S'.set j o) := ⟨by simpa using h.1, fun k hk => by rw [List.getElem?_set_ne (by omega)]; exact h.2 k hk⟩
theorem Pre.take {S S' : Sto} (h : Pre S S') : S'.take S.length = S := by
  refine List.ext_getElem? fun j => ?_
  by_cases hj : j < S.length
  · rw [List.getElem?_take_of_lt hj]; exact h.2 j hj
  · rw [List.getElem?_eq_none (by simp; omega), List.getElem?_eq_none (by omega)]
/-- two shared objects are changed -/
structure In2 (a b : Nat) (A B : List PyData) (S S' : Sto) : Prop where
  len : S'.length = S.length
  fa : S'[a]? = some (.lst A)
  fb : S'[b]? = some (.lst B)
  oth : ∀ j, j ≠ a → j ≠ b → S'[j]? = S[j]?
theorem In2.setA {a b : Nat} {A B A' : List PyData} {S S' : Sto} (h : In2 a b A B S S') (hab : a ≠ b) : In2 a b A' B S (S'.set a (.lst A')) :=
  ⟨by simp [h.len], by rw [List.getElem?_set_self (List.getElem?_eq_some_iff.mp h.fa).1], by rw [List.getElem?_set_ne hab]; exact h.fb, fun j h1 h2 => by rw [List.getElem?_set_ne (Ne.symm h1)]; exact h.oth j h1 h2⟩
theorem In2.setB {a b : Nat} {A B B' : List PyData} {S S' : Sto} (h : In2 a b A B S S') (hab : a ≠ b) : In2 a b A B' S (S'.set b (.lst B')) :=
  ⟨by simp [h.len], by rw [List.getElem?_set_ne (Ne.symm hab)]; exact h.fa, by rw [List.getElem?_set_self (List.getElem?_eq_some_iff.mp h.fb).1], fun j h1 h2 => by rw [List.getElem?_set_ne (Ne.symm h2)]; exact h.oth j h1 h2⟩
@[simp] theorem ap_ParL (is : List Nat) (As : DA) (ρ : En) (S : Sto) : dParL is As ρ S = (As ρ S).s ρ fun xs S1 => if xs.length = is.length ∧ szOk xs.length = true then .next (setA ρ is xs) S1 else .bad := rfl
@[simp] theorem ap_Enum (A : DE) (ρ : En) (S : Sto) : dEnum A ρ S = (A ρ S).bind fun x S1 => match psOf x with | some xs => .ok (xs.mapIdx enumP) S1 | none => .bad := rfl
@[simp] theorem ap_Zip (A B : DE) (ρ : En) (S : Sto) : dZip A B ρ S = (A ρ S).bind fun x S1 => (B ρ S1).bind fun y S2 => match x, y with
  | .pv (.list xs), .pv (.list ys) => .ok ((xs.zip ys).map fun p => Val.pv (.tuple [p.1, p.2])) S2
  | .pv (.tuple xs), .pv (.tuple ys) => .ok ((xs.zip ys).map fun p => Val.pv (.tuple [p.1, p.2])) S2
  | _, _ => .bad := rfl
@[simp] theorem ap_Rng2 (A B : DE) (ρ : En) (S : Sto) : dRng2 A B ρ S = (A ρ S).bind fun x S1 => (B ρ S1).bind fun y S2 => match x, y with
  | .pv (.int i), .pv (.int j) => rngOf i j S2
  | _, _ => .bad := by
  unfold dRng2
  cases A ρ S <;> rfl
theorem ps_t (xs : List PyData) : psOf (.pv (.tuple xs)) = some xs := rfl
theorem ps_l (xs : List PyData) : psOf (.pv (.list xs)) = some xs := rfl
/-- a for, all at once, with an invariant of turns -/
theorem for_inv {I : Nat → En → Sto → Prop} {g : DG} {B : DS} {E : Str → Sto → Prop} {D : Ws} {xs : List Val} {ρ : En} {S : Sto} (h0 : I 0 ρ S) (hs : ∀ i x ρ S, xs[i]? = some x → I i ρ S → ∃ ρ1, g x ρ = some ρ1 ∧ (B ρ1 S).sat E { n := I (i + 1), c := I (i + 1), b := D.n, r := D.r })
    (hd : ∀ ρ S, I xs.length ρ S → D.n ρ S) : (loopF g B xs ρ S).sat E D := by
  have := sat_for hs hd 0 ρ S (Nat.zero_le _) h0
  simpa using this
theorem app_pv {l : Nat} {p : PyData} {xs : List PyData} {S : Sto} (h : S[l]? = some (.lst xs)) (hz : xs.length < 16777216) : fApp [.loc l, .pv p] S = .ok (.pv .none) (S.set l (.lst (xs ++ [p]))) := by
  have : szOk (xs.length + 1) = true := decide_eq_true hz
  simp [fApp, h, this]
theorem lst_at {l : Nat} {xs : List PyData} {S : Sto} (h : S[l]? = some (.lst xs)) : lstAt (.loc l) S = true := by simp [lstAt, h]
theorem get_loc {l : Nat} {xs : List PyData} {S : Sto} (h : S[l]? = some (.lst xs)) : Val.get (.loc l) S = some (.list xs) := by simp [Val.get, h]
theorem getR_loc {l : Nat} {xs : List PyData} {S : Sto} (h : S[l]? = some (.lst xs)) : Val.getR (.loc l) S = some (.list xs) := by simp [Val.getR, Val.get, h]
theorem sat_then {A B : DS} {ρ : En} {S : Sto} {E : Str → Sto → Prop} {D : Ws} (R : En → Sto → Prop) (h : (A ρ S).sat E { D with n := R }) (h2 : ∀ ρ S, R ρ S → (B ρ S).sat E D) : (dSeq A B ρ S).sat E D := by
  rw [ap_Seq, sat_nx]
  revert h
  cases A ρ S with
  | next ρ1 S1 => exact fun h => h2 ρ1 S1 h
  | _ => exact fun h => h
theorem fil_true {α : Type} (l : List α) : (l.filter fun _ => true) = l := List.filter_eq_self.mpr (by simp)
theorem loop_nil {g : DG} {B : DS} {ρ : En} {S : Sto} {E : Str → Sto → Prop} {D : Ws} : (loopF g B [] ρ S).sat E D = D.n ρ S := rfl
theorem loop_step {g : DG} {B : DS} {x : Val} {xs : List Val} {ρ ρ1 : En} {S : Sto} {E : Str → Sto → Prop} {D : Ws} (R : En → Sto → Prop) (hg : g x ρ = some ρ1) (hb : (B ρ1 S).sat E { n := R, c := R, b := D.n, r := D.r }) (hn : ∀ ρ2 S2, R ρ2 S2 → (loopF g B xs ρ2 S2).sat E D) : (loopF g B (x :: xs) ρ S).sat E D := by
  simp only [loopF, hg]
  revert hb
  cases B ρ1 S with
  | next ρ2 S2 => exact fun h => hn _ _ h
  | cnt ρ2 S2 => exact fun h => hn _ _ h
  | brk ρ2 S2 => exact fun h => h
  | ret v S2 => exact fun h => h
  | err c f ρ2 S2 => exact fun h => h
  | bad => exact fun h => h
theorem loop_next {g : DG} {B : DS} {x : Val} {xs : List Val} {ρ ρ1 ρ2 : En} {S S2 : Sto} {E : Str → Sto → Prop} {D : Ws} (hg : g x ρ = some ρ1) (hb : B ρ1 S = .next ρ2 S2) (h : (loopF g B xs ρ2 S2).sat E D) : (loopF g B (x :: xs) ρ S).sat E D := by
  simp only [loopF, hg, hb]
  exact h
theorem sat_eqf {k n : Nat} {B : DS} {xs : List Val} {S : Sto} {v : Val} (hl : xs.length = k)
    (h : (B (xs.map some ++ List.replicate (n - k) none) S).sat (fun _ _ => False) { n := fun _ S1 => v = .pv .none ∧ S1.take S.length = S, r := fun x S1 => leave S.length x S1 = .ok v S }) : dFun k n B xs S = .ok v S := by
  unfold dFun
  rw [if_pos hl]
  revert h
  cases B (xs.map some ++ List.replicate (n - k) none) S with
  | next ρ S1 => rintro ⟨rfl, h⟩; simp [dEnd, leave, h]
  | ret x S1 => exact fun h => h
  | brk ρ2 S2 => exact fun h => h.elim
  | cnt ρ2 S2 => exact fun h => h.elim
  | err c f ρ2 S2 => exact fun h => h.elim
  | bad => exact fun h => h.elim

end Law
set_option maxHeartbeats 4000000
namespace Law
open PySem PySem.Spec PyProof.Rows L2 L2H LamX Mi
structure Row where
  held : Int
  says : Bool
  mv : List (Nat × Bool)
instance : Inhabited Row := ⟨⟨0, false, []⟩⟩
structure Stg where
  late : Nat
  rows : List Row
instance : Inhabited Stg := ⟨⟨0, []⟩⟩
abbrev St := Nat × List Bool
def eMv (m : Nat × Bool) : PyData := .tuple [.int (m.1 : Nat), .bool m.2]
def eRow (r : Row) : PyData := .tuple [.int r.held, .bool r.says, .tuple (r.mv.map eMv)]
def eStg (s : Stg) : PyData := .tuple [.int (s.late : Nat), .tuple (s.rows.map eRow)]
def eWs (ws : List Bool) : PyData := .tuple (ws.map .bool)
def eSt (t : St) : PyData := .tuple [.int (t.1 : Nat), eWs t.2]
def eBt (b : Bool × Bool) : PyData := .tuple [.bool b.1, .bool b.2]
structure WfR (n : Nat) (r : Row) : Prop where
  h0 : 0 ≤ r.held
  h6 : r.held ≤ 6
  m4 : r.mv.length = 4
  mv : ∀ m ∈ r.mv, m.1 < n
structure Wf (s : Stg) : Prop where
  late : s.late ≤ 2
  r1 : 1 ≤ s.rows.length
  r6 : s.rows.length ≤ 6
  rows : ∀ r ∈ s.rows, WfR s.rows.length r
  hd : (s.rows.headD default).held = 0
structure WfT (s : Stg) (t : St) : Prop where
  st : t.1 < s.rows.length
  ws : t.2.length = s.late
def Stg.row (s : Stg) (n : Nat) : Row := s.rows.getD n default
def gf (g f : Bool) : Nat := (if g then 2 else 0) + (if f then 1 else 0)
def Row.to (r : Row) (g f : Bool) : Nat × Bool := r.mv.getD (gf g f) default
def wordsOf (s : Stg) (t : St) : List Bool := t.2 ++ [(s.row t.1).says]
def reach (s : Stg) (t : St) : Bool := (wordsOf s t).headD false
def stepS (s : Stg) (t : St) (g f : Bool) : St × Bool := ((((s.row t.1).to g f).1, (wordsOf s t).tail), ((s.row t.1).to g f).2)
def b2i (b : Bool) : Int := if b then 1 else 0
/-- how a move goes wrong: from a to b -/
def faultS (s : Stg) (a b : Nat) (g f v : Bool) : Option Str :=
  if v && !f then some "pushed" else
  if (s.row b).held = (s.row a).held + b2i g - b2i v then none else if (s.row b).held < (s.row a).held + b2i g - b2i v then some "lost" else some "made"
def wrongS (s : Stg) (t : St) (g f : Bool) : Option Str := faultS s t.1 (stepS s t g f).1.1 g f (stepS s t g f).2
def beatsS (s : Stg) (t : St) : List (Bool × Bool) := if reach s t then [(false, false), (false, true), (true, false), (true, true)] else [(false, false), (false, true)]
def first (s : Stg) : St := (0, List.replicate s.late false)
def eOpt (o : Option Str) : PyData := match o with
  | some x => .str x
  | none => .none
theorem getRow {s : Stg} {n : Nat} (h : n < s.rows.length) : s.rows[n]? = some (s.row n) := by
  unfold Stg.row
  rw [List.getD_eq_getElem?_getD, List.getElem?_eq_getElem h]; rfl
theorem row_mem {s : Stg} {n : Nat} (h : n < s.rows.length) : s.row n ∈ s.rows := List.mem_of_getElem? (getRow h)
theorem Wf.row {s : Stg} (w : Wf s) {n : Nat} (h : n < s.rows.length) : WfR s.rows.length (s.row n) := w.rows _ (row_mem h)
theorem gf_lt (g f : Bool) : gf g f < 4 := by cases g <;> cases f <;> decide
theorem getMv {n : Nat} {r : Row} (w : WfR n r) (g f : Bool) : r.mv[gf g f]? = some (r.to g f) := by
  unfold Row.to
  rw [List.getD_eq_getElem?_getD, List.getElem?_eq_getElem (by rw [w.m4]; exact gf_lt g f)]; rfl
theorem to_lt {n : Nat} {r : Row} (w : WfR n r) (g f : Bool) : (r.to g f).1 < n := w.mv _ (List.mem_of_getElem? (getMv w g f))
theorem wfT_first {s : Stg} (w : Wf s) : WfT s (first s) := ⟨by have := w.r1; show 0 < _; omega, by simp [first]⟩
theorem words_len {s : Stg} {t : St} (h : WfT s t) : (wordsOf s t).length = s.late + 1 := by simp [wordsOf, h.ws]
theorem wfT_step {s : Stg} {t : St} (w : Wf s) (h : WfT s t) (g f : Bool) : WfT s (stepS s t g f).1 := ⟨to_lt (w.row h.st) g f, by simp [stepS, words_len h]⟩
theorem ix_stg {s : Stg} {S : Sto} : liftIx (.pv (eStg s)) (.pv (.int 1)) S = .ok (.pv (.tuple (s.rows.map eRow))) S := by rw [ix_pv]; simp [eStg, ix_tup1]
theorem ix_stg0 {s : Stg} {S : Sto} : liftIx (.pv (eStg s)) (.pv (.int 0)) S = .ok (.pv (.int (s.late : Nat))) S := by rw [ix_pv]; simp [eStg, ix_tup0]
theorem ix_row {s : Stg} {n : Nat} {S : Sto} (h : n < s.rows.length) : liftIx (.pv (.tuple (s.rows.map eRow))) (.pv (.int (n : Nat))) S = .ok (.pv (eRow (s.row n))) S := by
  rw [ix_pv, ix_tup, List.getElem?_map, getRow h]; rfl
theorem ix_row0 {r : Row} {S : Sto} : liftIx (.pv (eRow r)) (.pv (.int 0)) S = .ok (.pv (.int r.held)) S := by rw [ix_pv]; simp [eRow, ix_tup0]
theorem ix_row1 {r : Row} {S : Sto} : liftIx (.pv (eRow r)) (.pv (.int 1)) S = .ok (.pv (.bool r.says)) S := by rw [ix_pv]; simp [eRow, ix_tup1]
theorem ix_row2 {r : Row} {S : Sto} : liftIx (.pv (eRow r)) (.pv (.int 2)) S = .ok (.pv (.tuple (r.mv.map eMv))) S := by rw [ix_pv]; simp [eRow, ix_tup2]
theorem ix_mv {n : Nat} {r : Row} {S : Sto} (w : WfR n r) (g f : Bool) : liftIx (.pv (.tuple (r.mv.map eMv))) (.pv (.int (gf g f : Nat))) S = .ok (.pv (eMv (r.to g f))) S := by
  rw [ix_pv, ix_tup, List.getElem?_map, getMv w]; rfl
theorem ix_st0 {t : St} {S : Sto} : liftIx (.pv (eSt t)) (.pv (.int 0)) S = .ok (.pv (.int (t.1 : Nat))) S := by rw [ix_pv]; simp [eSt, ix_tup0]
theorem ix_st1 {t : St} {S : Sto} : liftIx (.pv (eSt t)) (.pv (.int 1)) S = .ok (.pv (eWs t.2)) S := by rw [ix_pv]; simp [eSt, ix_tup1]
theorem two_gf (g f : Bool) (S : Sto) : ((b1 fInt [.pv (.bool g)] S).bind fun x S1 => (lift2 opMul (.pv (.int 2)) x S1).bind fun y S2 => (b1 fInt [.pv (.bool f)] S2).bind fun z S3 => lift2 opAdd y z S3) = .ok (.pv (.int (gf g f : Nat))) S := by
  cases g <;> cases f <;> simp [b1_pv, fInt, l2_pv, opMul, opAdd, gf]
theorem int_eq {i j : Int} : (i == j) = decide (i = j) := by
  by_cases h : i = j <;> simp [h]
end Law
set_option maxHeartbeats 4000000
namespace Law
open PySem PySem.Spec PyProof.Rows L2 L2H LamX Mi
structure Inf where
  a : Nat
  b : Nat
  g : Bool
  f : Bool
  v : Bool
def WfC (cs : List Stg) : Prop := ∀ s ∈ cs, Wf s
def WfTs : List Stg → List St → Prop
  | [], [] => True
  | s :: ss, t :: ts => WfT s t ∧ WfTs ss ts
  | _, _ => False
def headFree : List Stg → List St → Bool → Bool
  | s :: _, t :: _, _ => reach s t
  | _, _, f => f
def goC : List Stg → List St → Bool → Bool → List (St × Inf)
  | s :: ss, t :: ts, g, f => ((stepS s t g (headFree ss ts f)).1, ⟨t.1, (stepS s t g (headFree ss ts f)).1.1, g, headFree ss ts f, (stepS s t g (headFree ss ts f)).2⟩) :: goC ss ts (stepS s t g (headFree ss ts f)).2 f
  | _, _, _, _ => []
def afterC (cs : List Stg) (ts : List St) (g f : Bool) : List St := (goC cs ts g f).map (·.1)
def infC (cs : List Stg) (ts : List St) (g f : Bool) : List Inf := (goC cs ts g f).map (·.2)
def lastV (g : Bool) : List Inf → Bool
  | [] => g
  | i :: is => lastV i.v is
def giveC (cs : List Stg) (ts : List St) (g f : Bool) : Bool := lastV g (infC cs ts g f)
def faultC : Nat → List Stg → List Inf → Option (Nat × Str)
  | k, s :: ss, i :: is => match faultS s i.a i.b i.g i.f i.v with
    | some w => some (k, w)
    | none => faultC (k + 1) ss is
  | _, _, _ => none
def wrongC (cs : List Stg) (ts : List St) (g f : Bool) : Option (Nat × Str) := faultC 0 cs (infC cs ts g f)
def freesC : List Stg → List St → Bool → List Bool
  | _ :: ss, _ :: ts, f => headFree ss ts f :: freesC ss ts f
  | _, _, _ => []
def firstC (cs : List Stg) : List St := cs.map first
def heldC : List Stg → List St → Int
  | s :: ss, t :: ts => (s.row t.1).held + heldC ss ts
  | _, _ => 0
def eCh (cs : List Stg) : PyData := .tuple (cs.map eStg)
def eTs (ts : List St) : PyData := .tuple (ts.map eSt)
def eWr : Option (Nat × Str) → PyData
  | none => .none
  | some (k, w) => .tuple [.int (k : Nat), .str w]
theorem WfTs.len : ∀ {cs : List Stg} {ts : List St}, WfTs cs ts → cs.length = ts.length
  | [], [], _ => rfl
  | _ :: _, _ :: _, h => by simp [WfTs.len h.2]
  | [], _ :: _, h => h.elim
  | _ :: _, [], h => h.elim
theorem wfTs_first : ∀ {cs : List Stg}, WfC cs → WfTs cs (firstC cs)
  | [], _ => trivial
  | s :: ss, h => ⟨wfT_first (h s List.mem_cons_self), wfTs_first fun x hx => h x (List.mem_cons_of_mem _ hx)⟩
theorem WfC.tl {s : Stg} {ss : List Stg} (h : WfC (s :: ss)) : WfC ss := fun x hx => h x (List.mem_cons_of_mem _ hx)
theorem WfC.hd {s : Stg} {ss : List Stg} (h : WfC (s :: ss)) : Wf s := h s List.mem_cons_self
theorem wfTs_after : ∀ {cs : List Stg} {ts : List St} {g f : Bool}, WfC cs → WfTs cs ts → WfTs cs (afterC cs ts g f)
  | [], [], _, _, _, _ => trivial
  | s :: ss, t :: ts, g, f, w, h => ⟨wfT_step w.hd h.1 _ _, wfTs_after w.tl h.2⟩
  | [], _ :: _, _, _, _, h => h.elim
  | _ :: _, [], _, _, _, h => h.elim
theorem goC_len : ∀ {cs : List Stg} {ts : List St} {g f : Bool}, WfTs cs ts → (goC cs ts g f).length = cs.length
  | [], [], _, _, _ => rfl
  | s :: ss, t :: ts, g, f, h => by simp [goC, goC_len h.2]
  | [], _ :: _, _, _, h => h.elim
  | _ :: _, [], _, _, h => h.elim
theorem WfTs.get : ∀ {cs : List Stg} {ts : List St} (i : Nat), WfTs cs ts → i < cs.length → ∃ s t, cs[i]? = some s ∧ ts[i]? = some t ∧ WfT s t ∧ s ∈ cs
  | s :: ss, t :: ts, 0, h, _ => ⟨s, t, rfl, rfl, h.1, List.mem_cons_self⟩
  | s :: ss, t :: ts, i + 1, h, hi => by
    obtain ⟨s', t', e1, e2, w, m⟩ := WfTs.get i h.2 (by simpa using hi)
    exact ⟨s', t', by simpa using e1, by simpa using e2, w, List.mem_cons_of_mem _ m⟩
  | [], [], _, _, hi => by simp at hi
  | [], _ :: _, _, h, _ => h.elim
  | _ :: _, [], _, h, _ => h.elim
theorem ix_ch {cs : List Stg} {i : Nat} {s : Stg} {S : Sto} (h : cs[i]? = some s) : liftIx (.pv (eCh cs)) (.pv (.int (i : Nat))) S = .ok (.pv (eStg s)) S := by
  rw [ix_pv]; simp [eCh, ix_tup, h]
theorem ix_ts {ts : List St} {i : Nat} {t : St} {S : Sto} (h : ts[i]? = some t) : liftIx (.pv (eTs ts)) (.pv (.int (i : Nat))) S = .ok (.pv (eSt t)) S := by
  rw [ix_pv]; simp [eTs, ix_tup, h]
theorem len_ch {cs : List Stg} {S : Sto} : b1 fLen [.pv (eCh cs)] S = .ok (.pv (.int (cs.length : Nat))) S := by simp [b1_pv, fLen, eCh]
theorem frees_ix : ∀ {cs : List Stg} {ts : List St} {f : Bool}, WfTs cs ts → cs ≠ [] → ((List.range (cs.length - 1)).map fun i => reach (cs.getD (i + 1) default) (ts.getD (i + 1) default)) ++ [f] = freesC cs ts f
  | [], _, _, _, h => absurd rfl h
  | [s], [t], f, _, _ => rfl
  | [s], _ :: _ :: _, f, h, _ => h.2.elim
  | s :: s2 :: ss, t :: t2 :: ts, f, h, _ => by
    have ih := frees_ix (f := f) h.2 (by simp)
    simp only [freesC, headFree] at ih ⊢
    rw [← ih]
    simp only [List.length_cons, Nat.add_sub_cancel, List.range_succ_eq_map, List.map_cons, List.map_map, List.cons_append]
    rfl
  | _ :: _, [], _, h, _ => h.elim
  | _ :: _ :: _, [_], _, h, _ => h.2.elim
theorem rng_ok2 {S : Sto} {i j : Int} (hi : 0 ≤ i) (hi2 : i < 1000000) (hj : 0 ≤ j) (h2 : j < 1000000) : rngOf i j S = .ok ((List.range (j - i).toNat).map fun k => Val.pv (.int (i + (k : Nat)))) S := by
  have a1 : decide (-(2 : Int) ^ 62 ≤ i) = true := decide_eq_true (by omega)
  have a2 : decide (i < (2 : Int) ^ 62) = true := decide_eq_true (by omega)
  have a3 : decide (-(2 : Int) ^ 62 ≤ j) = true := decide_eq_true (by omega)
  have a4 : decide (j < (2 : Int) ^ 62) = true := decide_eq_true (by omega)
  rw [rngOf_eq]
  unfold rngRaw
  simp only [a1, a2, a3, a4, Bool.and_self, ite_true]
end Law
set_option maxHeartbeats 4000000
namespace Law
open PySem PySem.Spec PyProof.Rows L2 L2H LamX Mi
abbrev Bt := Bool × Bool
def eBs (bs : List Bt) : PyData := .tuple (bs.map eBt)
def pBt : PyData → Option Bt
  | .tuple [.bool a, .bool b] => some (a, b)
  | _ => none
theorem pBt_some {v : PyData} {b : Bt} (h : pBt v = some b) : v = eBt b := by
  unfold pBt at h
  split at h
  · cases h; rfl
  · cases h
theorem pBt_e (b : Bt) : pBt (eBt b) = some b := rfl
theorem go_bt {g1 g2 : Nat} {b : Bt} {ρ : En} : gT [(gN g1), (gN g2)] (.pv (eBt b)) ρ = some ((ρ.set g1 (some (.pv (.bool b.1)))).set g2 (some (.pv (.bool b.2)))) := by
  unfold eBt
  rw [gT_ap, go_cons, ap_gN, Option.bind_some, go_cons, ap_gN, Option.bind_some, go_nil]
/-- the first stage's word has reached the one ahead -/
def reachC (cs : List Stg) (ts : List St) : Bool := headFree cs ts false
def hcP (cs : List Stg) : List St → List PyData → Bool
  | _, [] => true
  | ts, p :: r => match pBt p with
    | none => false
    | some b => (!b.1 || reachC cs ts) && hcP cs (afterC cs ts b.1 b.2) r
def pCrs (cs : List Stg) (ts : List St) : PyData → Bool
  | .tuple ps => decide (ps.length ≤ 60) && hcP cs ts ps
  | _ => false
theorem in_beats {s : Stg} {t : St} (b : Bt) : opNotIn (eBt b) (.list ((beatsS s t).map eBt)) = some (.bool (!(!b.1 || reach s t))) := by
  unfold beatsS
  obtain ⟨g, f⟩ := b
  cases reach s t <;> cases g <;> cases f <;> rfl
theorem ix_ch0 {s : Stg} {ss : List Stg} {S : Sto} : liftIx (.pv (eCh (s :: ss))) (.pv (.int 0)) S = .ok (.pv (eStg s)) S := ix_ch (i := 0) rfl
theorem ix_ts0 {t : St} {ts : List St} {S : Sto} : liftIx (.pv (eTs (t :: ts))) (.pv (.int 0)) S = .ok (.pv (eSt t)) S := ix_ts (i := 0) rfl
theorem sum_ints (l : List Int) : fSum (.list (l.map .int)) = some (.int l.sum) := by
  have : ∀ l : List Int, intsOf (l.map .int) = some l := by
    intro l
    induction l with
    | nil => rfl
    | cons a r ih => simp [intsOf, ih]
  simp [fSum, this]
theorem held_zip : ∀ {cs : List Stg} {ts : List St}, (((cs.zip ts).map fun p => (p.1.row p.2.1).held).sum) = heldC cs ts
  | [], _ => by simp [heldC]
  | _ :: _, [] => by simp [heldC]
  | s :: ss, t :: ts => by simp [heldC, held_zip (cs := ss) (ts := ts)]
end Law
set_option maxHeartbeats 4000000
namespace Law
open PySem PySem.Spec PyProof.Rows L2 L2H LamX Mi
/-- a move, a row, a stage of plain data -/
def MvOk (many : Nat) (v : PyData) : Prop := ∃ (a : Int) (b : Bool), v = .tuple [.int a, .bool b] ∧ 0 ≤ a ∧ a < many
def RwOk (many : Nat) (v : PyData) : Prop := ∃ (h : Int) (b : Bool) (ms : List PyData), v = .tuple [.int h, .bool b, .tuple ms] ∧ 0 ≤ h ∧ h ≤ 6 ∧ ms.length = 4 ∧ ∀ m ∈ ms, MvOk many m
def held (v : PyData) : Option PyData := match v with
  | .tuple (x :: _) => some x
  | _ => none
def StOk (v : PyData) : Prop := ∃ (late : Int) (rs : List PyData), v = .tuple [.int late, .tuple rs] ∧ 0 ≤ late ∧ late ≤ 2 ∧ 1 ≤ rs.length ∧ rs.length ≤ 6 ∧ (∀ r ∈ rs, RwOk rs.length r) ∧ (rs.head?.bind held) = some (.int 0)
theorem gd_int {n d : Nat} {i : Int} (h : i.natAbs ≤ 1000) : Gd n d (.int i) := ⟨by simp only [vb, decide_eq_true_eq]; omega, Nat.zero_le _⟩
theorem gd_bool {n d : Nat} {b : Bool} : Gd n d (.bool b) := ⟨rfl, Nat.zero_le _⟩
theorem MvOk.gd {many : Nat} {v : PyData} (h : MvOk many v) (hm : many ≤ 6) : Gd 0 1 v := by
  obtain ⟨a, b, rfl, h0, h1⟩ := h
  refine gd_tup (by simp) fun x hx => ?_
  simp at hx
  rcases hx with rfl | rfl
  · exact gd_int (by omega)
  · exact gd_bool
theorem RwOk.gd {many : Nat} {v : PyData} (h : RwOk many v) (hm : many ≤ 6) : Gd 0 3 v := by
  obtain ⟨hh, b, ms, rfl, h0, h1, h4, hms⟩ := h
  refine gd_tup (by simp) fun x hx => ?_
  simp at hx
  rcases hx with rfl | rfl | rfl
  · exact gd_int (by omega)
  · exact gd_bool
  · exact gd_tup (by omega) fun m hm' => (hms m hm').gd hm
theorem StOk.gd {v : PyData} (h : StOk v) : Gd 0 5 v := by
  obtain ⟨late, rs, rfl, h0, h1, h2, h3, hr, _⟩ := h
  refine gd_tup (by simp) fun x hx => ?_
  simp at hx
  rcases hx with rfl | rfl
  · exact gd_int (by omega)
  · exact gd_tup (by omega) fun r hr' => (hr r hr').gd h3
theorem qrow_ok {p s h : Int} (h0 : 0 ≤ h) (h1 : h ≤ p) (hp : 1 ≤ p) (h5 : p ≤ 5) : RwOk (p + 1).toNat (qRow p s h) := by
  refine ⟨h, _, _, rfl, h0, by omega, rfl, fun m hm => ?_⟩
  simp at hm
  have g : ∀ g f : Int, (g = 0 ∨ g = 1) → MvOk (p + 1).toNat (qGive p h g f) := fun g f hg => by
    refine ⟨_, _, rfl, ?_, ?_⟩
    · rcases hg with rfl | rfl <;> (split <;> split <;> omega)
    · rcases hg with rfl | rfl <;> (split <;> split <;> omega)
  rcases hm with rfl | rfl | rfl | rfl
  · exact g 0 0 (.inl rfl)
  · exact g 0 1 (.inl rfl)
  · exact g 1 0 (.inr rfl)
  · exact g 1 1 (.inr rfl)
theorem qstage_ok {p s l : Int} (hp : 1 ≤ p) (h5 : p ≤ 5) (h0 : 0 ≤ l) (h2 : l ≤ 2) : StOk (qStage p s l) := by
  have e : (p + 1).toNat = (p + 1).toNat - 1 + 1 := by omega
  refine ⟨l, _, rfl, h0, h2, by simp; omega, by simp; omega, fun r hr => ?_, ?_⟩
  · simp only [List.mem_map, List.mem_range] at hr
    obtain ⟨i, hi, rfl⟩ := hr
    simp only [List.length_map, List.length_range]
    exact qrow_ok (by omega) (by omega) hp h5
  · rw [e, List.range_succ_eq_map]
    simp [held, qRow]
theorem sat_any_row {l many : Nat} {S : Sto} {E : Str → Sto → Prop} {Q : Val → Sto → Prop} (v : Vat l S) (h1 : 1 ≤ many) (h6 : many ≤ 6) (h : ∀ p S', RwOk many p → Nx l S S' → Q (.pv p) S') : (F_law_any_row [.loc l, .pv (.int many)] S).sat E Q := by
  unfold F_law_any_row
  refine sat_fun rfl ?_
  simp [rng_ok (S := S) (j := 4) (by decide) (by decide)]
  have key := sat_lc (E := fun c S1 => E c (S1.take S.length)) (I := fun i acc S' => Nx l S S' ∧ acc.length = i ∧ ∀ x ∈ acc, MvOk many x) (g := gN 3) (T := dYes) (A := dTup (dCons (dCall F_law_under (dCons (dNm 0) (dCons (dNm 1) dNil))) (dCons (d2 opEq (dCall F_law_under (dCons (dNm 0) (dCons (dC (.int 3)) dNil))) (dC (.int 0))) dNil)))
    (ρ := wipeE [some (.loc l), some (.pv (.int many)), none, none] [3]) (xs := (List.range (4 : Int).toNat).map fun i => Val.pv (.int (i : Nat)))
    (Q := fun a S1 => ((dRet (dTup (dCons (dCall F_law_under (dCons (dNm 0) (dCons (dC (.int 3)) dNil))) (dCons (d2 opEq (dCall F_law_under (dCons (dNm 0) (dCons (dC (.int 2)) dNil))) (dC (.int 0))) (dCons (dCall (b1 fTuple) (dCons (dNm 2) dNil)) dNil))))) [some (.loc l), some (.pv (.int many)), some a, none] S1).sat (fun c S1 => E c (S1.take S.length)) { n := fun ρ S1 => (leave S.length (.pv .none) S1).sat E Q, r := fun v S1 => (leave S.length v S1).sat E Q })
    (fun i x acc S' hx ⟨nx, hl, ha⟩ => ?_) (fun acc S' ⟨nx, hl, ha⟩ => ?_) 0 [] S (Nat.zero_le _) ⟨Nx.refl v, rfl, by simp⟩
  · simpa using key
  · have hi : i < 4 := by
      have := (List.getElem?_eq_some_iff.mp hx).1
      simpa using this
    refine ⟨_, rfl, ?_⟩
    simp [wipeE]
    refine sat_under nx.vat (by omega) (by omega) fun a S1 a0 a1 nx1 => ?_
    simp
    refine sat_under nx1.vat (by omega) (by omega) fun b S2 b0 b1 nx2 => ?_
    simp [l2_pv]
    refine ⟨by omega, (nx.trans nx1).trans nx2, by omega, fun y hy => ?_⟩
    rcases hy with z | z
    · exact ha y z
    · subst z; exact ⟨_, _, rfl, a0, a1⟩
  · simp
    refine sat_under nx.vat (by omega) (by omega) fun a S1 a0 a1 nx1 => ?_
    simp
    refine sat_under nx1.vat (by omega) (by omega) fun b S2 b0 b1' nx2 => ?_
    have nn := (nx.trans nx1).trans nx2
    simp [l2_pv, b1_pv, fTuple, nn.take]
    exact h _ _ ⟨_, _, _, rfl, a0, by omega, by simpa using hl, ha⟩ nn
/-- the same late -/
def lateP (st p : PyData) : Prop := ∃ (l : PyData) (rs rs' : List PyData), st = .tuple [l, .tuple rs] ∧ p = .tuple [l, .tuple rs']
theorem sat_otherwise2 {l : Nat} {st : PyData} {S : Sto} {E : Str → Sto → Prop} {Q : Val → Sto → Prop} (v : Vat l S) (hs : StOk st) (h : ∀ p S', StOk p → lateP st p → Nx l S S' → Q (.pv p) S') : (F_law_otherwise [.loc l, .pv st] S).sat E Q := by
  obtain ⟨late, rs, rfl, h0, h2, hl1, hl6, hr, hh⟩ := hs
  unfold F_law_otherwise
  refine sat_fun rfl ?_
  have ln : ∀ S', b1 fLen [.pv (.tuple rs)] S' = .ok (.pv (.int rs.length)) S' := fun S' => by simp [b1_pv, fLen]
  simp [gT_ap, go_cons, go_nil, ln]
  refine sat_under v (by omega) (by omega) fun t S1 t0 t1 nx1 => ?_
  try simp
  refine sat_under nx1.vat (by omega) (by omega) fun k S2 k0 k1 nx2 => ?_
  have nn2 := nx1.trans nx2
  obtain ⟨tn, rfl⟩ : ∃ k : Nat, t = (k : Int) := ⟨t.toNat, by omega⟩
  obtain ⟨kn, rfl⟩ : ∃ j : Nat, k = (j : Int) := ⟨k.toNat, by omega⟩
  have htn : tn < rs.length := by omega
  obtain ⟨hd, b, ms, er, g0, g6, g4, gm⟩ := hr _ (List.getElem_mem htn)
  have ixt : ∀ S', liftIx (.pv (.tuple rs)) (.pv (.int (tn : Nat))) S' = .ok (.pv (.tuple [.int hd, .bool b, .tuple ms])) S' := fun S' => by
    have e := at_nat (ps := rs) (r := (tn : Nat)) (by omega) (by omega)
    simp [ix_pv, ixOf, e, er]
  -- the end: a new row at its place
  have fin : ∀ (row : PyData) S3, Nx l S S3 → RwOk rs.length row → held row = some (.int hd) → (leave S.length (.pv (.tuple [.int late, .tuple (rs.take tn ++ row :: rs.drop (tn + 1))])) S3).sat E Q := fun row S3 nx hw hh' => by
    simp [nx.take]
    have el : (rs.take tn ++ row :: rs.drop (tn + 1)).length = rs.length := by simp; omega
    refine h _ _ ⟨late, _, rfl, h0, h2, by omega, by omega, fun r hr' => ?_, ?_⟩ ⟨_, _, _, rfl, rfl⟩ nx
    · rw [el]
      rcases List.mem_append.mp hr' with z | z
      · exact hr r (List.mem_of_mem_take z)
      · rcases List.mem_cons.mp z with z | z
        · rw [z]; exact hw
        · exact hr r (List.mem_of_mem_drop z)
    · cases tn with
      | zero =>
        have e0 : rs.head? = some (.tuple [.int hd, .bool b, .tuple ms]) := by rw [List.head?_eq_getElem?, List.getElem?_eq_getElem htn, er]
        rw [e0] at hh
        simp [held] at hh
        simp [hh', hh]
      | succ j =>
        cases rs with
        | nil => simp at htn
        | cons r0 rr => simpa using hh
  have c1 := cut_lo (xs := rs) (r := tn) (by omega)
  have c4 := cut_hi (xs := rs) (r := tn + 1) (by omega)
  have e1 : ((tn : Int) + 1) = ((tn + 1 : Nat) : Int) := by omega
  rw [← e1] at c4
  have d1 := cut_lo (xs := ms) (r := kn) (by omega)
  have d4 := cut_hi (xs := ms) (r := kn + 1) (by omega)
  have e2 : ((kn : Int) + 1) = ((kn + 1 : Nat) : Int) := by omega
  rw [← e2] at d4
  have ad : ∀ row : PyData, opAdd (.tuple (rs.take tn)) (.tuple [row]) = some (.tuple (rs.take tn ++ [row])) := fun row => add_tup (by simp; omega)
  have ad2 : ∀ row : PyData, opAdd (.tuple (rs.take tn ++ [row])) (.tuple (rs.drop (tn + 1))) = some (.tuple (rs.take tn ++ row :: rs.drop (tn + 1))) := fun row => by
    have := add_tup (xs := rs.take tn ++ [row]) (ys := rs.drop (tn + 1)) (by simp; omega)
    simpa only [List.append_assoc, List.cons_append, List.nil_append] using this
  simp [ixt, gT_ap, go_cons, go_nil]
  refine sat_under nx2.vat (by omega) (by omega) fun f S3 f0 f1 nx3 => ?_
  have nn3 := nn2.trans nx3
  by_cases hf : f = 0
  · subst hf
    simp [l2_pv, sl_pv, c1, c4, opAdd_int, ad, ad2]
    exact fin _ S3 nn3 ⟨hd, !b, ms, rfl, g0, g6, g4, gm⟩ rfl
  · have q0 : (f == 0) = false := by simpa using hf
    simp [l2_pv, q0, ln]
    refine sat_under nx3.vat (by omega) (by omega) fun a S4 a0 a1 nx4 => ?_
    simp
    refine sat_under nx4.vat (by omega) (by omega) fun c S5 c0 c1' nx5 => ?_
    have nn5 := (nn3.trans nx4).trans nx5
    have am : ∀ mv : PyData, opAdd (.tuple (ms.take kn)) (.tuple [mv]) = some (.tuple (ms.take kn ++ [mv])) := fun row => add_tup (by simp; omega)
    have am2 : ∀ mv : PyData, opAdd (.tuple (ms.take kn ++ [mv])) (.tuple (ms.drop (kn + 1))) = some (.tuple (ms.take kn ++ mv :: ms.drop (kn + 1))) := fun mv => by
      have := add_tup (xs := ms.take kn ++ [mv]) (ys := ms.drop (kn + 1)) (by simp; omega)
      simpa only [List.append_assoc, List.cons_append, List.nil_append] using this
    simp [l2_pv, sl_pv, c1, c4, d1, d4, opAdd_int, ad, ad2, am, am2]
    refine fin _ S5 nn5 ⟨hd, b, _, rfl, g0, g6, by simp; omega, fun m hm => ?_⟩ rfl
    rcases List.mem_append.mp hm with z | z
    · exact gm m (List.mem_of_mem_take z)
    · rcases List.mem_cons.mp z with z | z
      · rw [z]; exact ⟨_, _, rfl, a0, a1⟩
      · exact gm m (List.mem_of_mem_drop z)
theorem sat_otherwise {l : Nat} {st : PyData} {S : Sto} {E : Str → Sto → Prop} {Q : Val → Sto → Prop} (v : Vat l S) (hs : StOk st) (h : ∀ p S', StOk p → Nx l S S' → Q (.pv p) S') : (F_law_otherwise [.loc l, .pv st] S).sat E Q := sat_otherwise2 v hs fun p S' a _ c => h p S' a c

/-- step by step: R holds between -/
theorem sat_stage3 {l many : Nat} {late : Int} {S S3 : Sto} {E : Str → Sto → Prop} {Q : Val → Sto → Prop} (ret : ∀ p S2, StOk p → Nx l S S2 → (leave S.length (.pv p) S2).sat E Q) (hl0 : 0 ≤ late) (hl2 : late ≤ 2) (hm1 : 1 ≤ many) (hm4 : many ≤ 4) (nn3 : Nx l S S3) :
    ((dSeq (dSet 4 (dLc (dRng1 (dNm 3)) [5] (gN 5) dYes (dCall F_law_any_row (dCons (dNm 0) (dCons (dNm 3) dNil)))))
      (dRet (dTup (dCons (dNm 1) (dCons (d2 opAdd (dTup (dCons (d2 opAdd (dTup (dCons (dC (.int 0)) dNil)) (dSl (dIx (dNm 4) (dC (.int 0))) (dPt (dC (.int 1))) dNo)) dNil)) (dCall (b1 fTuple) (dCons (dSl (dNm 4) (dPt (dC (.int 1))) dNo) dNil))) dNil))))) [some (.loc l), some (.pv (.int late)), none, some (.pv (.int (many : Nat))), none, none] S3).sat
      (fun c S1 => E c (S1.take S.length)) { n := fun ρ S1 => (leave S.length (.pv .none) S1).sat E Q, r := fun v S1 => (leave S.length v S1).sat E Q } := by
  refine sat_then (fun ρ S4 => ∃ acc : List PyData, ρ = [some (.loc l), some (.pv (.int late)), none, some (.pv (.int (many : Nat))), some (.pv (.list acc)), none] ∧ acc.length = many ∧ (∀ x ∈ acc, RwOk many x) ∧ Nx l S S4) ?_ ?_
  · have rg := rng_ok (S := S3) (j := (many : Nat)) (by omega) (by omega)
    have key := sat_lc (E := fun c S1 => E c (S1.take S.length)) (I := fun i acc S' => Nx l S S' ∧ acc.length = i ∧ ∀ x ∈ acc, RwOk (many) x) (g := gN 5) (T := dYes) (A := dCall F_law_any_row (dCons (dNm 0) (dCons (dNm 3) dNil)))
      (ρ := wipeE [some (.loc l), some (.pv (.int late)), none, some (.pv (.int (many : Nat))), none, none] [5]) (xs := (List.range ((many : Nat) : Int).toNat).map fun i => Val.pv (.int (i : Nat)))
      (Q := fun (a : Val) S1 => ∃ acc : List PyData, a = .pv (.list acc) ∧ acc.length = many ∧ (∀ x ∈ acc, RwOk (many) x) ∧ Nx l S S1)
      (fun i x acc S' hx ⟨nx, hl, ha⟩ => ?_) (fun acc S' ⟨nx, hl, ha⟩ => ⟨acc, rfl, by simpa using hl, ha, nx⟩) 0 [] S3 (Nat.zero_le _) ⟨nn3, rfl, by simp⟩
    · rw [List.drop_zero] at key
      have e3 : dNm 3 [some (.loc l), some (.pv (.int late)), none, some (.pv (.int (many : Nat))), none, none] S3 = .ok (.pv (.int (many : Nat))) S3 := rfl
      rw [ap_Set, sat_s, ap_Lc, sat_bind, ap_Rng1, sat_bind, e3, sat_ok]
      simp only []
      rw [rg, sat_ok]
      refine Res.sat.imp key (fun a S4 hh => ?_) fun _ _ z => z
      obtain ⟨acc, rfl, h1, h2, h3⟩ := hh
      exact ⟨acc, rfl, h1, h2, h3⟩
    · have hi : i < many := by
        have := (List.getElem?_eq_some_iff.mp hx).1
        simpa using this
      refine ⟨_, rfl, ?_⟩
      show (F_law_any_row [.loc l, .pv (.int (many : Nat))] S').sat _ _
      refine sat_any_row nx.vat (by omega) (by omega) fun p S5 hp nx5 => ?_
      refine ⟨p, rfl, by omega, nx.trans nx5, by simp [hl], fun y hy => ?_⟩
      simp at hy
      rcases hy with z | z
      · exact ha y z
      · subst z; exact hp
  rintro ρ S4 ⟨acc, rfl, hl', ha, nx⟩
  cases acc with
  | nil => simp at hl'; omega
  | cons r0 rr =>
    obtain ⟨hd, b, ms, er, g0, g6, g4, gm⟩ := ha r0 (by simp)
    have ix0 : ∀ S', liftIx (.pv (.list (r0 :: rr))) (.pv (.int 0)) S' = .ok (.pv r0) S' := fun S' => by simp [ix_pv, ixOf, L2.atI, L2.ixN]
    have s1 : slOf (some 1) none r0 = some (.tuple [.bool b, .tuple ms]) := by
      have := cut_hi (xs := [.int hd, .bool b, .tuple ms]) (r := 1) (by simp)
      rw [er]; simpa using this
    have s2 : slOf (some 1) none (.list (r0 :: rr)) = some (.list rr) := by
      have e := HT.sIx_nat (rr.length + 1) 0 1
      have e : HT.sIx (rr.length + 1) 0 (some 1) = 1 := by rw [show (some (1 : Int)) = some ((1 : Nat) : Int) from rfl, e]; omega
      simp [slOf, cutP, HT.sIx_none, e]
    have a1' : opAdd (.tuple [.int 0]) (.tuple [.bool b, .tuple ms]) = some (.tuple [.int 0, .bool b, .tuple ms]) := add_tup (by simp)
    have a2' : opAdd (.tuple [.tuple [.int 0, .bool b, .tuple ms]]) (.tuple rr) = some (.tuple (.tuple [.int 0, .bool b, .tuple ms] :: rr)) := add_tup (by simp at hl' ⊢; omega)
    simp [ix0, sl_pv, s1, s2, b1_pv, fTuple, l2_pv, a1', a2']
    have el : (PyData.tuple [.int 0, .bool b, .tuple ms] :: rr).length = many := by simpa using hl'
    have ok : StOk (.tuple [.int late, .tuple (.tuple [.int 0, .bool b, .tuple ms] :: rr)]) := by
      refine ⟨late, _, rfl, hl0, hl2, by simp, by rw [el]; omega, fun r hr' => ?_, by simp [held]⟩
      rw [el]
      rcases List.mem_cons.mp hr' with z | z
      · rw [z]; exact ⟨0, b, ms, rfl, by decide, by decide, g4, gm⟩
      · exact ha r (List.mem_cons_of_mem _ z)
    have := ret _ _ ok nx
    simpa using this
theorem sat_stage {l : Nat} {S : Sto} {E : Str → Sto → Prop} {Q : Val → Sto → Prop} (v : Vat l S) (h : ∀ p S', StOk p → Nx l S S' → Q (.pv p) S') : (F_law_stage [.loc l] S).sat E Q := by
  unfold F_law_stage
  refine sat_fun rfl ?_
  have ret : ∀ p S2, StOk p → Nx l S S2 → (leave S.length (.pv p) S2).sat E Q := fun p S2 hp nx => by
    simp only [leave_pv, sat_ok, nx.take]
    exact h p S2 hp nx
  show (dSeq _ _ [some (.loc l), none, none, none, none, none] S).sat _ _
  refine sat_then (fun ρ S1 => ∃ late : Int, ρ = [some (.loc l), some (.pv (.int late)), none, none, none, none] ∧ 0 ≤ late ∧ late ≤ 2 ∧ Nx l S S1) ?_ ?_
  · have hd : ∀ lt ∈ [PyData.int 0, .int 0, .int 1, .int 1, .int 2], ∃ i : Int, lt = .int i ∧ 0 ≤ i ∧ i ≤ 2 := by
      intro lt hlt
      simp at hlt
      rcases hlt with rfl | rfl | rfl <;> exact ⟨_, rfl, by decide, by decide⟩
    simp
    refine sat_some (ps := [.int 0, .int 0, .int 1, .int 1, .int 2]) (.inl rfl) v (by simp) (by simp) fun lt S1 hlt nx1 => ?_
    obtain ⟨i, rfl, h0, h2⟩ := hd lt hlt
    exact ⟨i, rfl, h0, h2, nx1⟩
  rintro ρ S1 ⟨late, rfl, hl0, hl2, nx1⟩
  refine sat_then (fun ρ S2 => ρ = [some (.loc l), some (.pv (.int late)), none, none, none, none] ∧ Nx l S S2) ?_ ?_
  · refine sat_ifs (R := fun _ S2 => Nx l S S2) ?_ (fun S2 nn2 => ?_) fun S2 nn2 => ⟨rfl, nn2⟩
    · simp
      refine sat_under nx1.vat (by omega) (by omega) fun r S2 r0 r1 nx2 => ?_
      simp [l2_pv, opGt]
      exact nx1.trans nx2
    · refine sat_then (fun ρ S3 => ∃ p, ρ = [some (.loc l), some (.pv (.int late)), some (.pv p), none, none, none] ∧ StOk p ∧ Nx l S S3) ?_ ?_
      · simp
        refine sat_under nn2.vat (by omega) (by omega) fun a S3 a0 a1 nx3 => ?_
        simp [l2_pv, opAdd_int]
        refine sat_under nx3.vat (by omega) (by omega) fun b S4 b0 b1' nx4 => ?_
        try simp
        exact sat_lqueue (by omega) ⟨_, rfl, qstage_ok (by omega) (by omega) hl0 hl2, (nn2.trans nx3).trans nx4⟩
      · rintro ρ S4 ⟨p, rfl, ok, nn4⟩
        simp
        refine sat_under nn4.vat (by omega) (by omega) fun c S5 c0 c1 nx5 => ?_
        have nn5 := nn4.trans nx5
        by_cases hc : c = 0
        · simp [l2_pv, hc]
          exact ret _ _ ok nn5
        · simp [l2_pv, hc]
          exact sat_otherwise nx5.vat ok fun p S6 hp nx6 => ret _ _ hp (nn5.trans nx6)
  rintro ρ S2 ⟨rfl, nn2⟩
  refine sat_then (fun ρ S3 => ∃ many : Nat, 1 ≤ many ∧ many ≤ 4 ∧ ρ = [some (.loc l), some (.pv (.int late)), none, some (.pv (.int (many : Nat))), none, none] ∧ Nx l S S3) ?_ ?_
  · simp
    refine sat_under nn2.vat (by omega) (by omega) fun a S3 a0 a1 nx3 => ?_
    obtain ⟨an, rfl⟩ : ∃ k : Nat, a = (k : Int) := ⟨a.toNat, by omega⟩
    simp [l2_pv, opAdd_int]
    exact ⟨1 + an, by omega, by omega, by simp, nn2.trans nx3⟩
  rintro ρ S3 ⟨many, hm1, hm4, rfl, nn3⟩
  exact sat_stage3 ret hl0 hl2 hm1 hm4 nn3

end Law
set_option maxHeartbeats 4000000
namespace Law
open PySem PySem.Spec PyProof.Rows L2 L2H LamX Mi
def pChain : PyData → Bool
  | .tuple ps => decide (1 ≤ ps.length) && decide (ps.length ≤ 4) && ps.all pStage
  | _ => false
theorem hcP_parse {cs : List Stg} : ∀ {ps : List PyData} {ts : List St}, hcP cs ts ps = true → ∃ bs : List Bt, ps = bs.map eBt
  | [], _, _ => ⟨[], rfl⟩
  | p :: ps, ts, h => by
    simp only [hcP] at h
    cases hb : pBt p with
    | none => rw [hb] at h; cases h
    | some b =>
      rw [hb] at h
      simp only [Bool.and_eq_true] at h
      obtain ⟨bs, rfl⟩ := hcP_parse h.2
      exact ⟨b :: bs, by rw [pBt_some hb]; rfl⟩
theorem pCrs_parse {cs : List Stg} {ts : List St} {v : PyData} (h : pCrs cs ts v = true) : ∃ bs : List Bt, v = eBs bs ∧ bs.length ≤ 60 ∧ hcP cs ts (bs.map eBt) = true := by
  cases v with
  | tuple ps =>
    simp only [pCrs, Bool.and_eq_true, decide_eq_true_eq] at h
    obtain ⟨bs, rfl⟩ := hcP_parse h.2
    exact ⟨bs, rfl, by simpa using h.1, h.2⟩
  | _ => simp [pCrs] at h
/-- a stage, as data -/
theorem wf_stage {s : Stg} (w : Wf s) : pStage (eStg s) = true := by
  have hw : pIsW (.int (s.late : Nat)) 0 2 = true := by simp [pIsW]; have := w.late; omega
  have ha : ((s.rows.map eRow).all fun r => pRow r (s.rows.map eRow).length) = true := by
    refine List.all_eq_true.mpr fun r hr => ?_
    obtain ⟨r, hr', rfl⟩ := List.mem_map.mp hr
    have wr := w.rows r hr'
    have hm : ((r.mv.map eMv).all fun m => pMove m (s.rows.map eRow).length) = true := by
      refine List.all_eq_true.mpr fun m hm => ?_
      obtain ⟨m, hm', rfl⟩ := List.mem_map.mp hm
      have := wr.mv m hm'
      have e : (m.1 : Int) ≤ (s.rows.length : Int) - 1 := by omega
      simp [pMove, eMv, pIsW, e]
    simp only [pRow, eRow, pIsW, isB_bool, wr.h0, wr.h6, decide_true, Bool.and_self, List.length_map, wr.m4, beq_self_eq_true, hm]
    simpa using hm
  have h0 : p00 (s.rows.map eRow) = some (.int 0) := by
    have h1 := w.r1
    have hd := w.hd
    cases hs : s.rows with
    | nil => rw [hs] at h1; simp at h1
    | cons r rr =>
      rw [hs] at hd
      simp only [List.headD_cons] at hd
      simp [p00, eRow, hd]
  have l1 : decide (1 ≤ (s.rows.map eRow).length) = true := decide_eq_true (by simpa using w.r1)
  have l6 : decide ((s.rows.map eRow).length ≤ 6) = true := decide_eq_true (by simpa using w.r6)
  simp only [pStage, eStg, hw, ha, h0, l1, l6, Bool.true_and, beq_self_eq_true]
theorem gd_stg {s : Stg} (w : Wf s) : Gd 0 5 (eStg s) := by
  refine gd_tup (by simp) fun x hx => ?_
  simp at hx
  rcases hx with rfl | rfl
  · exact gd_int (by have := w.late; omega)
  · refine gd_tup (by simp; have := w.r6; omega) fun r hr => ?_
    obtain ⟨r, hr', rfl⟩ := List.mem_map.mp hr
    have wr := w.rows r hr'
    refine gd_tup (by simp) fun x hx => ?_
    simp at hx
    rcases hx with rfl | rfl | rfl
    · exact gd_int (by have := wr.h0; have := wr.h6; omega)
    · exact gd_bool
    · refine gd_tup (by simp; have := wr.m4; omega) fun m hm => ?_
      obtain ⟨m, hm', rfl⟩ := List.mem_map.mp hm
      have := wr.mv m hm'
      have := w.r6
      refine gd_tup (by simp) fun x hx => ?_
      simp at hx
      rcases hx with rfl | rfl
      · exact gd_int (by omega)
      · exact gd_bool
theorem wf_chain {cs : List Stg} (w : WfC cs) (h0 : cs ≠ []) (h4 : cs.length ≤ 4) : pChain (eCh cs) = true := by
  have hpos : 1 ≤ cs.length := by cases cs with | nil => exact absurd rfl h0 | cons a b => simp
  have ha : (cs.map eStg).all pStage = true := List.all_eq_true.mpr fun x hx => by
    obtain ⟨s, hs, rfl⟩ := List.mem_map.mp hx
    exact wf_stage (w s hs)
  have l1 : decide (1 ≤ (cs.map eStg).length) = true := decide_eq_true (by simpa using hpos)
  have l4 : decide ((cs.map eStg).length ≤ 4) = true := decide_eq_true (by simpa using h4)
  simp only [pChain, eCh, ha, l1, l4, Bool.and_self]
theorem gd_ch {cs : List Stg} (w : WfC cs) (h4 : cs.length ≤ 4) : Gd 0 6 (eCh cs) := gd_tup (by simp; omega) fun x hx => by
  obtain ⟨s, hs, rfl⟩ := List.mem_map.mp hx
  exact gd_stg (w s hs)
theorem gd_bs {bs : List Bt} {n : Nat} (h : bs.length ≤ 20 + n) : Gd n 2 (eBs bs) := gd_tup (by simpa using h) fun x hx => by
  obtain ⟨b, _, rfl⟩ := List.mem_map.mp hx
  refine gd_tup (by simp; omega) fun x hx => ?_
  simp at hx
  rcases hx with rfl | rfl <;> exact gd_bool
def lastT (cs : List Stg) : List St → List Bt → List St
  | ts, [] => ts
  | ts, b :: r => lastT cs (afterC cs ts b.1 b.2) r
def saysC (cs : List Stg) (ts : List St) : Bool := ((cs.headD default).row (ts.headD default).1).says
def runL (cs : List Stg) : List St → List Bt → List PyData
  | _, [] => []
  | ts, b :: r => .tuple [.bool (saysC cs ts), .bool (giveC cs ts b.1 b.2), .int (heldC cs (afterC cs ts b.1 b.2))] :: runL cs (afterC cs ts b.1 b.2) r
def wrongL (cs : List Stg) : Nat → List St → List Bt → Option (Nat × Nat × Str)
  | _, _, [] => none
  | n, ts, b :: r => match wrongC cs ts b.1 b.2 with
    | some w => some (n, w)
    | none => wrongL cs (n + 1) (afterC cs ts b.1 b.2) r
def eW3 : Option (Nat × Nat × Str) → PyData
  | none => .none
  | some (n, k, w) => .tuple [.int (n : Nat), .int (k : Nat), .str w]
theorem wfTs_last {cs : List Stg} (w : WfC cs) : ∀ {bs : List Bt} {ts : List St}, WfTs cs ts → WfTs cs (lastT cs ts bs)
  | [], _, h => h
  | _ :: bs, _, h => wfTs_last w (bs := bs) (wfTs_after w h)
end Law
set_option maxHeartbeats 4000000
namespace Law
open PySem PySem.Spec PyProof.Rows L2 L2H LamX Mi
def eSaid (said : List (List Bool)) : PyData := .list (said.map fun ws => .list (ws.map .bool))
def eNow (ts : List St) : PyData := .list (ts.map fun t => .int (t.1 : Nat))
def eInf (i : Inf) : PyData := .tuple [.int (i.a : Nat), .int (i.b : Nat), .bool i.g, .bool i.f, .bool i.v]
abbrev Gone := List Bool × List Inf × Int
def eGone (x : Gone) : PyData := .tuple [.list (x.1.map .bool), .list (x.2.1.map eInf), .int x.2.2]
def sayAll : List Stg → List St → List Bool
  | s :: ss, t :: ts => (s.row t.1).says :: sayAll ss ts
  | _, _ => []
def goneL (cs : List Stg) : List St → List Bt → List Gone
  | _, [] => []
  | ts, b :: r => (sayAll cs ts, infC cs ts b.1 b.2, heldC cs (afterC cs ts b.1 b.2)) :: goneL cs (afterC cs ts b.1 b.2) r
theorem sayAll_len : ∀ {cs : List Stg} {ts : List St}, WfTs cs ts → (sayAll cs ts).length = cs.length
  | [], [], _ => rfl
  | s :: ss, t :: ts, h => by simp [sayAll, sayAll_len h.2]
  | [], _ :: _, h => h.elim
  | _ :: _, [], h => h.elim
/-- the word of a stage that reaches the one ahead, by what all have said -/
def lword (L : Nat) (said : List (List Bool)) (at_ n : Nat) : Bool := if L ≤ n then (said.getD (n - L) []).getD at_ false else false
/-- the last words, by what was said -/
def wordsH (L : Nat) (h : List Bool) : List Bool := (List.replicate L false ++ h).drop h.length
theorem wordsH_len (L : Nat) (h : List Bool) : (wordsH L h).length = L := by simp [wordsH]
theorem wordsH_step (L : Nat) (h : List Bool) (w : Bool) : (wordsH L h ++ [w]).tail = wordsH L (h ++ [w]) := by
  unfold wordsH
  have e : (List.replicate L false ++ (h ++ [w])) = (List.replicate L false ++ h) ++ [w] := by simp
  have e2 : ((List.replicate L false ++ h) ++ [w]).drop h.length = (List.replicate L false ++ h).drop h.length ++ [w] := List.drop_append_of_le_length (by simp)
  rw [e, List.length_append, List.length_singleton, ← List.drop_drop, e2, List.drop_one]
theorem wordsH_head (L : Nat) (h : List Bool) (w : Bool) : (wordsH L h ++ [w]).headD false = if L ≤ h.length then (h ++ [w]).getD (h.length - L) false else false := by
  have e2 : (wordsH L h ++ [w]) = ((List.replicate L false ++ h) ++ [w]).drop h.length := (List.drop_append_of_le_length (by simp)).symm
  rw [e2]
  have e3 : ∀ l : List Bool, l.headD false = l.getD 0 false := fun l => by cases l <;> rfl
  rw [e3, List.getD_eq_getElem?_getD, List.getElem?_drop]
  simp only [Nat.add_zero, List.append_assoc]
  by_cases hl : L ≤ h.length
  · rw [if_pos hl, List.getElem?_append_right (by simpa using hl), List.length_replicate, List.getD_eq_getElem?_getD]
  · rw [if_neg hl, List.getElem?_append_left (by simp; omega), List.getElem?_replicate, if_pos (by omega)]
    rfl
/-- the words of a state are those that were said -/
def Hist (cs : List Stg) (ts : List St) (said : List (List Bool)) : Prop := ∀ (i : Nat) (s : Stg) (t : St), cs[i]? = some s → ts[i]? = some t → t.2 = wordsH s.late (said.map fun ws => ws.getD i false)
theorem hist_first {cs : List Stg} : Hist cs (firstC cs) [] := fun i s t h1 h2 => by
  simp only [firstC, List.getElem?_map, h1, Option.map_some, Option.some.injEq] at h2
  subst h2
  simp [first, wordsH]
theorem goC_ix : ∀ {cs : List Stg} {ts : List St} {g f : Bool} (i : Nat) {s : Stg} {t u : St}, cs[i]? = some s → ts[i]? = some t → (afterC cs ts g f)[i]? = some u → u.2 = (wordsOf s t).tail
  | s :: ss, t :: ts, g, f, 0, _, _, _, h1, h2, h3 => by
    simp at h1 h2
    subst h1 h2
    simp [afterC, goC] at h3
    subst h3
    rfl
  | s :: ss, t :: ts, g, f, i + 1, _, _, _, h1, h2, h3 => goC_ix (cs := ss) (ts := ts) i (by simpa using h1) (by simpa using h2) (by simpa [afterC, goC] using h3)
  | [], _, _, _, _, _, _, _, h1, _, _ => by simp at h1
  | _ :: _, [], _, _, _, _, _, _, _, h2, _ => by simp at h2
theorem sayAll_ix : ∀ {cs : List Stg} {ts : List St} (i : Nat) {s : Stg} {t : St}, cs[i]? = some s → ts[i]? = some t → (sayAll cs ts).getD i false = (s.row t.1).says
  | s :: ss, t :: ts, 0, _, _, h1, h2 => by
    simp at h1 h2
    subst h1 h2
    rfl
  | s :: ss, t :: ts, i + 1, _, _, h1, h2 => by
    have := sayAll_ix (cs := ss) (ts := ts) i (by simpa using h1) (by simpa using h2)
    simpa [sayAll] using this
  | [], _, _, _, _, h1, _ => by simp at h1
  | _ :: _, [], _, _, _, _, h2 => by simp at h2
theorem hist_step {cs : List Stg} {ts : List St} {said : List (List Bool)} {g f : Bool} (wt : WfTs cs ts) (w : WfC cs) (h : Hist cs ts said) : Hist cs (afterC cs ts g f) (said ++ [sayAll cs ts]) := fun i s u h1 h2 => by
  obtain ⟨s', t, e1, e2, _⟩ := wt.get i (List.getElem?_eq_some_iff.mp h1).1
  rw [h1] at e1; cases e1
  rw [goC_ix i h1 e2 h2]
  unfold wordsOf
  rw [h i s t h1 e2, ← sayAll_ix i h1 e2, wordsH_step]
  simp
theorem reach_hist {cs : List Stg} {ts : List St} {said : List (List Bool)} (h : Hist cs ts said) {i : Nat} {s : Stg} {t : St} (h1 : cs[i]? = some s) (h2 : ts[i]? = some t) : reach s t = lword s.late (said ++ [sayAll cs ts]) i said.length := by
  unfold reach wordsOf
  rw [h i s t h1 h2, ← sayAll_ix i h1 h2, wordsH_head]
  unfold lword
  simp only [List.length_map]
  split
  · rename_i hl
    have e : (said.map (fun ws => ws.getD i false) ++ [(sayAll cs ts).getD i false]) = (said ++ [sayAll cs ts]).map fun ws => ws.getD i false := by simp
    rw [e, List.getD_eq_getElem?_getD, List.getElem?_map, List.getD_eq_getElem?_getD (l := said ++ [sayAll cs ts])]
    cases hq : (said ++ [sayAll cs ts])[said.length - s.late]? with
    | none => rfl
    | some x => rfl
  · rfl
theorem ix_now {ts : List St} {i : Nat} {t : St} {S : Sto} (h : ts[i]? = some t) : liftIx (.pv (eNow ts)) (.pv (.int (i : Nat))) S = .ok (.pv (.int (t.1 : Nat))) S := by
  rw [ix_pv, eNow, ix_lst, List.getElem?_map, h]; rfl
theorem zipIdx_map {α : Type} {cs : List Stg} {ts : List St} {F : Stg → St → α} : ∀ {ss : List Stg} {us pre : List St} , WfTs ss us → ts = pre ++ us → (ss.zipIdx pre.length).map (fun p => F p.1 (ts.getD p.2 default)) = (ss.zip us).map fun p => F p.1 p.2
  | [], [], _, _, _ => rfl
  | s :: ss, u :: us, pre, h, e => by
    have ih := zipIdx_map (F := F) (cs := cs) (ts := ts) (ss := ss) (us := us) (pre := pre ++ [u]) h.2 (by rw [e]; simp)
    have e1 : (pre ++ [u]).length = pre.length + 1 := by simp
    rw [e1] at ih
    simp only [List.zipIdx_cons, List.map_cons, List.zip_cons_cons, ih]
    have : ts.getD pre.length default = u := by rw [e, List.getD_eq_getElem?_getD, List.getElem?_append_right (Nat.le_refl _)]; simp
    rw [this]
  | [], _ :: _, _, h, _ => h.elim
  | _ :: _, [], _, h, _ => h.elim
theorem sayAll_zip : ∀ {cs : List Stg} {ts : List St}, (cs.zip ts).map (fun p => (p.1.row p.2.1).says) = sayAll cs ts
  | [], _ => by simp [sayAll]
  | _ :: _, [] => by simp [sayAll]
  | s :: ss, t :: ts => by simp [sayAll, sayAll_zip (cs := ss) (ts := ts)]
/-- [f(stage[1][now[at]]) for at, stage in enumerate(chain)] -/
theorem lc_rows {A : DE} {ρ : En} {S : Sto} {cs : List Stg} {ts : List St} {out : Row → PyData} {c : Val} (wt : WfTs cs ts) (h4 : cs.length ≤ 10) (hc : c = .pv (eCh cs))
    (h : ∀ (i : Nat) (s : Stg) (t : St), cs[i]? = some s → ts[i]? = some t → WfT s t → A ((ρ.set 10 (some (.pv (.int (i : Nat))))).set 11 (some (.pv (eStg s)))) S = .ok (.pv (out (s.row t.1))) S) :
    loopC (gT [(gN 10), (gN 11)]) dYes A ρ ((cs.map eStg).mapIdx enumP) [] S = .ok (.pv (.list ((cs.zip ts).map fun p => out (p.1.row p.2.1)))) S := by
  have hx : (cs.map eStg).mapIdx enumP = cs.zipIdx.map fun p => enumP p.2 (eStg p.1) := by
    rw [enum_zip, List.zipIdx_map, List.map_map]; rfl
  rw [lc_gen' (keep := fun _ => true) (out := fun p : Stg × Nat => out (p.1.row (ts.getD p.2 default).1)) cs.zipIdx hx (fun p hp => by
    obtain ⟨s, i⟩ := p
    have hi : cs[i]? = some s := by
      have := List.mem_zipIdx hp
      simp at this
      rw [List.getElem?_eq_some_iff]
      exact ⟨this.1, this.2.symm⟩
    obtain ⟨s', t, e1, e2, wt', _⟩ := wt.get i (List.getElem?_eq_some_iff.mp hi).1
    rw [hi] at e1; cases e1
    refine ⟨_, by unfold enumP; rw [gT_ap, go_cons, ap_gN, Option.bind_some, go_cons, ap_gN, Option.bind_some, go_nil], rfl, fun _ => ?_⟩
    have g : ts.getD i default = t := by rw [List.getD_eq_getElem?_getD, e2]; rfl
    simp only [g]
    exact h i s t hi e2 wt') (by simp; omega)]
  rw [fil_true]
  have z := zipIdx_map (F := fun s t => out (s.row t.1)) (cs := cs) (ts := ts) (ss := cs) (us := ts) (pre := []) wt rfl
  simp only [List.length_nil] at z
  rw [z]

end Law
set_option maxHeartbeats 4000000
namespace Law
open PySem PySem.Spec PyProof.Rows L2 L2H LamX Mi
theorem held_list : ∀ {cs : List Stg} {ts : List St}, ((cs.zip ts).map fun p => (p.1.row p.2.1).held).sum = heldC cs ts := held_zip
theorem rep_now : ∀ l : List Stg, (List.replicate l.length (PyData.int 0)) = (firstC l).map fun t => .int (t.1 : Nat)
  | [] => rfl
  | a :: r => by simp only [List.length_cons, List.replicate_succ, firstC, List.map_cons]; rw [rep_now r]; rfl
theorem mul_now {cs : List Stg} (h4 : cs.length ≤ 4) : opMul (.list [.int 0]) (.int (cs.length : Nat)) = some (eNow (firstC cs)) := by
  have h := mulL [.int 0] cs.length (by omega) (by simp)
  rw [flat1, rep_now] at h
  exact h
end Law
set_option maxHeartbeats 4000000
namespace Law
open PySem PySem.Spec PyProof.Rows L2 L2H LamX Mi
def InfOk (s : Stg) (i : Inf) : Prop := i.a < s.rows.length ∧ i.b < s.rows.length
def InfsOk : List Stg → List Inf → Prop
  | [], [] => True
  | s :: ss, i :: is => InfOk s i ∧ InfsOk ss is
  | _, _ => False
theorem infs_ok : ∀ {cs : List Stg} {ts : List St} {g f : Bool}, WfC cs → WfTs cs ts → InfsOk cs (infC cs ts g f)
  | [], [], _, _, _, _ => trivial
  | s :: ss, t :: ts, g, f, w, h => ⟨⟨h.1.st, (wfT_step w.hd h.1 _ _).st⟩, infs_ok w.tl h.2⟩
  | [], _ :: _, _, _, _, h => h.elim
  | _ :: _, [], _, _, _, h => h.elim
theorem getD_app {α : Type} {l r : List α} {k : Nat} {d : α} (h : k < l.length) : (l ++ r).getD k d = l.getD k d := by simp [List.getD_eq_getElem?_getD, List.getElem?_append_left h]
def saidL (cs : List Stg) (ts : List St) (bs : List Bt) : List (List Bool) := (goneL cs ts bs).map (·.1)
theorem saidL_len {cs : List Stg} : ∀ {bs : List Bt} {ts : List St}, (saidL cs ts bs).length = bs.length
  | [], _ => rfl
  | b :: bs, ts => by simp only [saidL, goneL, List.map_cons, List.length_cons]; rw [← saidL_len (bs := bs) (ts := afterC cs ts b.1 b.2)]; rfl
theorem saidL_mem {cs : List Stg} (w : WfC cs) : ∀ {bs : List Bt} {ts : List St}, WfTs cs ts → ∀ ws ∈ saidL cs ts bs, ws.length = cs.length
  | [], _, _, ws, h => by simp [saidL, goneL] at h
  | b :: bs, ts, ht, ws, h => by
    simp only [saidL, goneL, List.map_cons, List.mem_cons] at h
    rcases h with rfl | h
    · exact sayAll_len ht
    · exact saidL_mem w (bs := bs) (wfTs_after w ht) ws h
theorem saidL_app {cs : List Stg} : ∀ {as : List Bt} {ts : List St} {bs : List Bt}, saidL cs ts (as ++ bs) = saidL cs ts as ++ saidL cs (lastT cs ts as) bs
  | [], _, _ => rfl
  | a :: as, ts, bs => by simp only [saidL, goneL, List.cons_append, List.map_cons, lastT]; rw [← saidL, ← saidL, saidL_app]; rfl
theorem hist_last {cs : List Stg} (w : WfC cs) : ∀ {bs : List Bt} {ts : List St} {said : List (List Bool)}, WfTs cs ts → Hist cs ts said → Hist cs (lastT cs ts bs) (said ++ saidL cs ts bs)
  | [], _, _, _, h => by simpa [saidL, goneL, lastT] using h
  | b :: bs, ts, said, ht, h => by
    have ih := hist_last w (bs := bs) (wfTs_after (g := b.1) (f := b.2) w ht) (hist_step (g := b.1) (f := b.2) ht w h)
    have e : said ++ saidL cs ts (b :: bs) = said ++ [sayAll cs ts] ++ saidL cs (afterC cs ts b.1 b.2) bs := by simp [saidL, goneL]
    rw [e]
    exact ih
/-- the first stage's word, by what was said -/
theorem reachC_said {cs : List Stg} {bs : List Bt} {s : Stg} {ss : List Stg} {n : Nat} (w : WfC cs) (hc : cs = s :: ss) (hn : n < bs.length) : lword s.late (saidL cs (firstC cs) bs) 0 n = reachC cs (lastT cs (firstC cs) (bs.take n)) := by
  have ht := wfTs_last w (bs := bs.take n) (wfTs_first w)
  have hh := hist_last w (bs := bs.take n) (wfTs_first w) hist_first
  simp only [List.nil_append] at hh
  have c0 : cs[0]? = some s := by rw [hc]; rfl
  obtain ⟨s', t, e1, e2, _⟩ := ht.get 0 (by rw [hc]; simp)
  rw [c0] at e1; cases e1
  have r := reach_hist hh c0 e2
  rw [saidL_len, List.length_take, Nat.min_eq_left (by omega)] at r
  have e : reachC cs (lastT cs (firstC cs) (bs.take n)) = reach s t := by
    rw [hc] at e2 ⊢
    revert e2
    cases lastT (s :: ss) (firstC (s :: ss)) (bs.take n) with
    | nil => intro z; simp at z
    | cons a b => intro z; simp at z; subst z; rfl
  rw [e, r]
  -- both lists agree up to n
  have sp : saidL cs (firstC cs) bs = saidL cs (firstC cs) (bs.take n) ++ saidL cs (lastT cs (firstC cs) (bs.take n)) (bs.drop n) := by rw [← saidL_app, List.take_append_drop]
  have hd : ∃ r, saidL cs (lastT cs (firstC cs) (bs.take n)) (bs.drop n) = sayAll cs (lastT cs (firstC cs) (bs.take n)) :: r := by
    cases hb : bs.drop n with
    | nil => have := congrArg List.length hb; simp at this; omega
    | cons b r => exact ⟨_, rfl⟩
  obtain ⟨r', hd⟩ := hd
  rw [sp, hd]
  unfold lword
  split
  · have hl : (saidL cs (firstC cs) (bs.take n)).length = n := by rw [saidL_len, List.length_take]; omega
    have e1 : (saidL cs (firstC cs) (bs.take n) ++ sayAll cs (lastT cs (firstC cs) (bs.take n)) :: r') = (saidL cs (firstC cs) (bs.take n) ++ [sayAll cs (lastT cs (firstC cs) (bs.take n))]) ++ r' := by simp
    rw [e1, getD_app (by simp [hl]; omega)]
  · rfl
theorem lc_said {cs : List Stg} {bs : List Bt} {i : Nat} {ρ : En} {S : Sto} (hi : i < ρ.length) (hb : bs.length ≤ 1000) : loopC (gN i) dYes (dIx (dNm i) (dC (.int 0))) ρ (((goneL cs (firstC cs) bs).map eGone).map .pv) [] S = .ok (.pv (eSaid (saidL cs (firstC cs) bs))) S := by
  have hl : (goneL cs (firstC cs) bs).length = bs.length := by have := saidL_len (cs := cs) (bs := bs) (ts := firstC cs); simpa [saidL] using this
  rw [lc_gen' (keep := fun _ => true) (out := fun x : Gone => .list (x.1.map .bool)) (val := fun x => .pv (eGone x)) (goneL cs (firstC cs) bs) (by rw [List.map_map]; rfl) (fun x hx => ⟨_, rfl, rfl, fun _ => by simp [List.getElem?_set_self hi, ix_pv, eGone, ix_tup0]⟩) (by omega), fil_true]
  simp [eSaid, saidL]
end Law
set_option maxHeartbeats 4000000
namespace Law
open PySem PySem.Spec PyProof.Rows L2 L2H LamX Mi
theorem hcP_map {cs : List Stg} : ∀ {bs : List Bt} {ts : List St}, hcP cs ts (bs.map eBt) = true ↔ ∀ i (h : i < bs.length), bs[i].1 = true → reachC cs (lastT cs ts (bs.take i)) = true
  | [], ts => by simp [hcP]
  | b :: bs, ts => by
    have ih := hcP_map (cs := cs) (bs := bs) (ts := afterC cs ts b.1 b.2)
    simp only [List.map_cons, hcP, pBt_e, Bool.and_eq_true, ih]
    constructor
    · rintro ⟨h1, h2⟩ i hi hg
      cases i with
      | zero =>
        simp only [List.getElem_cons_zero] at hg
        simp only [hg, Bool.not_true, Bool.false_or] at h1
        exact h1
      | succ i => exact h2 i (by simpa using hi) (by simpa using hg)
    · intro h
      refine ⟨?_, fun i hi hg => h (i + 1) (by simpa using hi) (by simpa using hg)⟩
      have := h 0 (by simp)
      simp only [List.getElem_cons_zero, List.take_zero, lastT] at this
      cases hb : b.1 with
      | false => rfl
      | true => simpa using this hb
theorem parse_all : ∀ {ps : List PyData}, (ps.all fun p => (pBt p).isSome) = true → ∃ bs : List Bt, ps = bs.map eBt
  | [], _ => ⟨[], rfl⟩
  | p :: ps, h => by
    simp only [List.all_cons, Bool.and_eq_true] at h
    obtain ⟨bs, rfl⟩ := parse_all h.2
    obtain ⟨b, hb⟩ := Option.isSome_iff_exists.mp h.1
    exact ⟨b :: bs, by rw [pBt_some hb]; rfl⟩
theorem hcP_all {cs : List Stg} : ∀ {ps : List PyData} {ts : List St}, hcP cs ts ps = true → (ps.all fun p => (pBt p).isSome) = true
  | [], _, _ => rfl
  | p :: ps, ts, h => by
    simp only [hcP] at h
    cases hb : pBt p with
    | none => rw [hb] at h; cases h
    | some b =>
      rw [hb] at h
      simp only [Bool.and_eq_true] at h
      simp [hb, hcP_all h.2]
theorem e_bt_test {v : PyData} {r0 r1 r3 r4 r5 r6 : Option Val} {S : Sto} (hv : cl v) :
    (dSeq (dIfS (dOrT (dNotT (dTst (dIsi "tuple" (dNm 2)))) (dTst (d2 opNe (dCall (b1 fLen) (dCons (dNm 2) dNil)) (dC (.int 2)))))
  (dRet (dC (.bool false)))
  dPass)
  (dIfS (dOrT (dNotT (dTst (dIsi "bool" (dIx (dNm 2) (dC (.int 0)))))) (dNotT (dTst (dIsi "bool" (dIx (dNm 2) (dC (.int 1)))))))
  (dRet (dC (.bool false)))
  dPass)) [r0, r1, some (.pv v), r3, r4, r5, r6] S = if (pBt v).isSome = true then .next [r0, r1, some (.pv v), r3, r4, r5, r6] S else .ret (.pv (.bool false)) S := by
  cases v with
  | tuple xs =>
    match xs, hv with
    | [], hv => simp [isi_t hv, b1_pv, fLen, l2_pv, pBt]
    | [a], hv => simp [isi_t hv, b1_pv, fLen, l2_pv, pBt]
    | [a, b], hv =>
      have ha := cl_tup hv a (by simp)
      have hb := cl_tup hv b (by simp)
      cases a <;> cases b <;> simp [isi_t hv, b1_pv, fLen, l2_pv, pBt, ix_pv, ixOf, L2.atI, L2.ixN, isi_b ha, isi_b hb]
    | a :: b :: c :: r, hv =>
      have h : ((r.length : Int) + 1 + 1 + 1 == 2) = false := by simp; omega
      simp [isi_t hv, b1_pv, fLen, l2_pv, pBt, h]
  | _ => simp [isi_t hv, pBt]
theorem filt_nil {α : Type} (p : α → Bool) : ∀ l : List α, (l.filter p).isEmpty = l.all fun a => !p a
  | [] => rfl
  | a :: l => by
    simp only [List.filter_cons, List.all_cons]
    cases p a <;> simp [filt_nil p l]
theorem eq_nil_lst (l : List PyData) (hs : shp (.list l) = true) : opEq (.list l) (.list []) = some (.bool l.isEmpty) := by
  have e : PyData.eqv (.list l) (.list []) = l.isEmpty := by cases l <;> simp [PyData.eqv, PyData.eqvAll]
  have s0 : shp (.list []) = true := rfl
  simp [opEq, hs, s0, e]
theorem shp_ints (l : List Nat) : shp (.list (l.map fun i => .int (i : Nat))) = true := shp_of (by
    show PyData.canLayAll0 _ = true
    exact tup_cl fun x hx => by obtain ⟨i, _, rfl⟩ := List.mem_map.mp hx; rfl) (by
    refine Nat.succ_le_succ (tup_dp (n := 63) fun x hx => ?_)
    obtain ⟨i, _, rfl⟩ := List.mem_map.mp hx
    exact Nat.zero_le _)
theorem lastT_app {cs : List Stg} : ∀ {as : List Bt} {ts : List St} {bs : List Bt}, lastT cs ts (as ++ bs) = lastT cs (lastT cs ts as) bs
  | [], _, _ => rfl
  | a :: as, ts, bs => lastT_app (as := as)
theorem hcP_app {cs : List Stg} {as : List Bt} {b : Bt} {ts : List St} (h : hcP cs ts (as.map eBt) = true) (h2 : b.1 = true → reachC cs (lastT cs ts as) = true) : hcP cs ts ((as ++ [b]).map eBt) = true := by
  rw [hcP_map] at h ⊢
  intro i hi hg
  by_cases hl : i < as.length
  · rw [List.getElem_append_left hl] at hg
    rw [List.take_append_of_le_length (by omega)]
    exact h i hl hg
  · have e : i = as.length := by simp at hi; omega
    subst e
    rw [List.getElem_append_right (Nat.le_refl _)] at hg
    rw [List.take_left' rfl]
    exact h2 (by simpa using hg)
theorem stOk_typed {v : PyData} (h : StOk v) : ∃ s, v = eStg s ∧ Wf s := by
  obtain ⟨late, rs, rfl, h0, h2, h1, h6, hr, hh⟩ := h
  have hm : ∀ n (ms : List PyData), (∀ m ∈ ms, MvOk n m) → ∃ mv : List (Nat × Bool), ms = mv.map eMv ∧ ∀ m ∈ mv, m.1 < n := by
    intro n ms
    induction ms with
    | nil => intro _; exact ⟨[], rfl, by simp⟩
    | cons m ms ih =>
      intro h
      obtain ⟨a, b, rfl, a0, a1⟩ := h m List.mem_cons_self
      obtain ⟨mv, rfl, hmv⟩ := ih fun x hx => h x (List.mem_cons_of_mem _ hx)
      refine ⟨(a.toNat, b) :: mv, ?_, fun x hx => ?_⟩
      · have e : ((a.toNat : Nat) : Int) = a := by omega
        simp [eMv, e]
      · rcases List.mem_cons.mp hx with rfl | hx
        · show a.toNat < n; omega
        · exact hmv x hx
  have hrow : ∀ n (rs : List PyData), (∀ r ∈ rs, RwOk n r) → ∃ rows : List Row, rs = rows.map eRow ∧ ∀ r ∈ rows, WfR n r := by
    intro n rs
    induction rs with
    | nil => intro _; exact ⟨[], rfl, by simp⟩
    | cons r rs ih =>
      intro h
      obtain ⟨hd, b, ms, rfl, g0, g6, g4, gm⟩ := h r List.mem_cons_self
      obtain ⟨rows, rfl, hrows⟩ := ih fun x hx => h x (List.mem_cons_of_mem _ hx)
      obtain ⟨mv, rfl, hmv⟩ := hm n ms gm
      refine ⟨⟨hd, b, mv⟩ :: rows, rfl, fun x hx => ?_⟩
      rcases List.mem_cons.mp hx with rfl | hx
      · exact ⟨g0, g6, by simpa using g4, hmv⟩
      · exact hrows x hx
  obtain ⟨rows, rfl, hrows⟩ := hrow rs.length rs hr
  have el : (rows.map eRow).length = rows.length := by simp
  rw [el] at hrows h1 h6
  refine ⟨⟨late.toNat, rows⟩, ?_, ⟨by show late.toNat ≤ 2; omega, h1, h6, hrows, ?_⟩⟩
  · have e : ((late.toNat : Nat) : Int) = late := by omega
    simp [eStg, e]
  · cases rows with
    | nil => simp at h1
    | cons r rr => simpa [held, eRow] using hh
end Law
set_option maxHeartbeats 4000000
namespace Law
open PySem PySem.Spec PyProof.Rows L2 L2H LamX Mi
/-- can be compared: d deep -/
def Sh (d : Nat) (v : PyData) : Prop := cl v ∧ v.depth ≤ d
theorem Sh.shp {d : Nat} {v : PyData} (h : Sh d v) (hd : d ≤ 60) : shp v = true := shp_of h.1 (by have := h.2; omega)
theorem eqv_rf {v : PyData} (h : cl v) : PyData.eqv v v = true := PySem.SeqAt.eqv_refl v h
theorem Sh.up {d d' : Nat} {v : PyData} (h : Sh d v) (hd : d ≤ d') : Sh d' v := ⟨h.1, Nat.le_trans h.2 hd⟩
theorem sh_t {d : Nat} {xs : List PyData} (h : ∀ x ∈ xs, Sh d x) : Sh (d + 1) (.tuple xs) := ⟨tup_cl fun x hx => (h x hx).1, Nat.succ_le_succ (tup_dp fun x hx => (h x hx).2)⟩
theorem sh_l {d : Nat} {xs : List PyData} (h : ∀ x ∈ xs, Sh d x) : Sh (d + 1) (.list xs) := ⟨tup_cl fun x hx => (h x hx).1, Nat.succ_le_succ (tup_dp fun x hx => (h x hx).2)⟩
theorem sh_b {d : Nat} {b : Bool} : Sh d (.bool b) := ⟨rfl, Nat.zero_le _⟩
theorem sh_i {d : Nat} {i : Int} : Sh d (.int i) := ⟨rfl, Nat.zero_le _⟩
theorem sh_n {d : Nat} : Sh d .none := ⟨rfl, Nat.zero_le _⟩
theorem sh_s {d : Nat} {x : Str} (h : PyData.strOk x = true) : Sh d (.str x) := ⟨h, Nat.zero_le _⟩
theorem Gd.sh {n d : Nat} {v : PyData} (h : Gd n d v) : Sh d v := ⟨h.cl, h.2⟩
theorem sh_st {t : St} : Sh 2 (eSt t) := sh_t fun x hx => by
  simp at hx
  rcases hx with rfl | rfl
  · exact sh_i
  · exact sh_t (d := 0) fun x hx => by obtain ⟨b, _, rfl⟩ := List.mem_map.mp hx; exact sh_b
theorem sh_ts {ts : List St} : Sh 3 (eTs ts) := sh_t fun x hx => by obtain ⟨t, _, rfl⟩ := List.mem_map.mp hx; exact sh_st
theorem sh_bt {b : Bt} : Sh 1 (eBt b) := sh_t (d := 0) fun x hx => by
  simp at hx
  rcases hx with rfl | rfl <;> exact sh_b
theorem sh_bs {bs : List Bt} : Sh 2 (eBs bs) := sh_t fun x hx => by obtain ⟨t, _, rfl⟩ := List.mem_map.mp hx; exact sh_bt
theorem ne_of {p q : PyData} {d : Nat} (hp : Sh d p) (hq : Sh d q) (hd : d ≤ 60) : opNe p q = some (.bool (!PyData.eqv p q)) := by simp [opNe, hp.shp hd, hq.shp hd]
theorem eq_of {p q : PyData} {d : Nat} (hp : Sh d p) (hq : Sh d q) (hd : d ≤ 60) : opEq p q = some (.bool (PyData.eqv p q)) := by simp [opEq, hp.shp hd, hq.shp hd]
theorem ne_self {p : PyData} {d : Nat} (hp : Sh d p) (hd : d ≤ 60) : opNe p p = some (.bool false) := by rw [ne_of hp hp hd, eqv_rf hp.1]; rfl
theorem eq_self {p : PyData} {d : Nat} (hp : Sh d p) (hd : d ≤ 60) : opEq p p = some (.bool true) := by rw [eq_of hp hp hd, eqv_rf hp.1]
def qMv (p h : Nat) (g f : Bool) : Nat × Bool := (min p (h + (if g then 1 else 0) - (if f && decide (0 < h) then 1 else 0)), f && decide (0 < h))
def qRw (p s h : Nat) : Row := ⟨(h : Nat), decide (h + s ≤ p), [qMv p h false false, qMv p h false true, qMv p h true false, qMv p h true true]⟩
def qS (p s l : Nat) : Stg := ⟨l, (List.range (p + 1)).map (qRw p s)⟩
theorem qS_row (p s h : Nat) : eRow (qRw p s h) = qRow p s h := by
  simp only [eRow, qRw, qRow, PyData.tuple.injEq, List.cons.injEq, true_and, and_true, List.map_cons, List.map_nil, PyData.bool.injEq]
  have b : decide (h + s ≤ p) = decide ((h : Int) + s ≤ p) := by
    by_cases c : h + s ≤ p
    · rw [decide_eq_true c, decide_eq_true (by omega)]
    · rw [decide_eq_false c, decide_eq_false (by omega)]
  have m : ∀ g f : Bool, eMv (qMv p h g f) = qGive p h (if g then 1 else 0) (if f then 1 else 0) := fun g f => by
    unfold eMv qMv qGive
    by_cases h0 : 0 < h
    · have h0' : (0 : Int) < h := by omega
      cases g <;> cases f <;> simp [h0, h0'] <;> (try split) <;> omega
    · have e0 : h = 0 := by omega
      subst e0
      cases g <;> cases f <;> simp <;> (try split) <;> omega
  refine ⟨b, ?_⟩
  have m1 := m false false
  have m2 := m false true
  have m3 := m true false
  have m4 := m true true
  simp only [Bool.false_eq_true, ite_false, ite_true] at m1 m2 m3 m4
  exact ⟨m1, m2, m3, m4⟩
theorem qS_e (p s l : Nat) : eStg (qS p s l) = qStage p s l := by
  unfold eStg qS qStage
  have e : ((p : Int) + 1).toNat = p + 1 := by omega
  rw [e]
  simp only [List.map_map]
  have ef : (eRow ∘ qRw p s) = fun h : Nat => qRow p s h := by
   funext h
   exact qS_row p s h
  rw [ef]
theorem wf_qS {p s l : Nat} (hp : p ≤ 5) (hl : l ≤ 2) : Wf (qS p s l) := by
  refine ⟨hl, by simp [qS], by simp [qS]; omega, fun r hr => ?_, ?_⟩
  · obtain ⟨h, hh, rfl⟩ := List.mem_map.mp hr
    have hh := List.mem_range.mp hh
    have el : (qS p s l).rows.length = p + 1 := by simp [qS]
    rw [el]
    refine ⟨by simp [qRw], by simp [qRw]; omega, rfl, fun m hm => ?_⟩
    have : ∀ g f, (qMv p h g f).1 < p + 1 := fun g f => by
      unfold qMv
      exact Nat.lt_succ_of_le (Nat.min_le_left _ _)
    simp [qRw] at hm
    rcases hm with rfl | rfl | rfl | rfl <;> exact this _ _
  · simp [qS, List.range_succ_eq_map, qRw]
theorem e_lq {p s l : Nat} {S : Sto} (hp : 1 ≤ p ∧ p ≤ 100) : F_law_queue [.pv (.int (p : Nat)), .pv (.int (s : Nat)), .pv (.int (l : Nat))] S = .ok (.pv (eStg (qS p s l))) S :=
  sat_eq (sat_lqueue ⟨by omega, by omega⟩ ⟨by rw [qS_e], rfl⟩)
theorem goneL_app {cs : List Stg} : ∀ {as : List Bt} {ts : List St} {bs : List Bt}, goneL cs ts (as ++ bs) = goneL cs ts as ++ goneL cs (lastT cs ts as) bs
  | [], _, _ => rfl
  | a :: as, ts, bs => by simp only [goneL, List.cons_append, lastT]; rw [goneL_app]
theorem inf_b : ∀ {cs : List Stg} {ts : List St} {g f : Bool}, (infC cs ts g f).map (fun i => i.b) = (afterC cs ts g f).map (fun t => t.1)
  | [], _, _, _ => by simp [infC, afterC, goC]
  | _ :: _, [], _, _ => by simp [infC, afterC, goC]
  | s :: ss, t :: ts, g, f => by
    have := inf_b (cs := ss) (ts := ts) (g := (stepS s t g (headFree ss ts f)).2) (f := f)
    simp only [infC, afterC, goC, List.map_cons] at this ⊢
    rw [this]
end Law
set_option maxHeartbeats 4000000
namespace Law
open PySem PySem.Spec PyProof.Rows L2 L2H LamX Mi
theorem e_err {P : Addr} {q : Str} {A : DE} {ρ : En} {S : Sto} {c : Str} (ht : S.any (isTab P q) = true) (ha : A ρ S = .err c none S) (hc : c ∈ cs) : dErr cs P q A ρ S = .ok (.pv (.str (nmOf c))) S := by
  unfold dErr
  rw [if_pos ht, ha]
  simp only []
  rw [if_pos hc]
theorem tab_get {S : Sto} {P : Addr} {q : Str} : S.any (isTab P q) = true ↔ ∃ j : Nat, S[j]? = some (Ob.tab P q) := by
  constructor
  · intro h
    obtain ⟨o, ho, e⟩ := List.any_eq_true.mp h
    obtain ⟨j, hj⟩ := List.mem_iff_getElem?.mp ho
    cases o with
    | tab P' q' =>
      simp only [isTab, Bool.and_eq_true, decide_eq_true_eq] at e
      obtain ⟨rfl, rfl⟩ := e
      exact ⟨j, hj⟩
    | _ => cases e
  · rintro ⟨j, hj⟩
    exact List.any_eq_true.mpr ⟨_, List.mem_of_getElem? hj, by simp [isTab]⟩
theorem Nx.tab {l : Nat} {S S' : Sto} {P : Addr} {q : Str} (n : Nx l S S') (v : Vat l S) (h : S.any (isTab P q) = true) : S'.any (isTab P q) = true := by
  obtain ⟨j, hj⟩ := tab_get.mp h
  refine tab_get.mpr ⟨j, ?_⟩
  rw [n.oth j ?_]
  · exact hj
  · intro e
    subst e
    obtain ⟨a, b, e2, _⟩ := v
    rw [hj] at e2
    cases e2
/-- all tables are there -/
def Tabs (K : PySem.W.Frag) (tf : List Str) (S : Sto) : Prop := ∀ x ∈ tf, S.any (isTab (tP K x) (lamQ x)) = true
theorem Tabs.nx {K : PySem.W.Frag} {tf : List Str} {l : Nat} {S S' : Sto} (h : Tabs K tf S) (v : Vat l S) (n : Nx l S S') : Tabs K tf S' := fun x hx => n.tab v (h x hx)
theorem Tabs.app {K : PySem.W.Frag} {tf : List Str} {S : Sto} (h : Tabs K tf S) (xs : Sto) : Tabs K tf (S ++ xs) := fun x hx => by rw [List.any_append, h x hx]; rfl
/-- a test that is False: on -/
theorem sat_no {T : DT} {A B : DS} {ρ : En} {S : Sto} {E : Str → Sto → Prop} {D : Ws} (h : T ρ S = .ok false S) (h2 : (B ρ S).sat E D) : (dIfS T A B ρ S).sat E D := by
  rw [ap_IfS, h, Res.s_ok, if_neg (by decide)]; exact h2
theorem sat_yes {T : DT} {A B : DS} {ρ : En} {S : Sto} {E : Str → Sto → Prop} {D : Ws} (h : T ρ S = .ok true S) (h2 : (A ρ S).sat E D) : (dIfS T A B ρ S).sat E D := by
  rw [ap_IfS, h, Res.s_ok, if_pos rfl]; exact h2
theorem pStage_tup {v : PyData} (h : pStage v = true) : ∃ a rs, v = .tuple [a, .tuple rs] := by
  unfold pStage at h
  split at h
  · exact ⟨_, _, rfl⟩
  · cases h

end Law
set_option maxHeartbeats 4000000
namespace Law
open PySem PySem.Spec PyProof.Rows L2 L2H LamX Mi
theorem wc1 {s : Stg} (w : Wf s) : WfC [s] := fun x hx => by simp at hx; subst hx; exact w
def run1 (s : Stg) : St → List Bt → List PyData
  | _, [] => []
  | t, b :: r => .tuple [.bool (s.row t.1).says, .bool (stepS s t b.1 b.2).2, .int ((stepS s t b.1 b.2).1.1 : Nat)] :: run1 s (stepS s t b.1 b.2).1 r
def wrong1 (s : Stg) : Nat → St → List Bt → Option (Nat × Str)
  | _, _, [] => none
  | n, t, b :: r => match wrongS s t b.1 b.2 with
    | some w => some (n, w)
    | none => wrong1 s (n + 1) (stepS s t b.1 b.2).1 r
def eW2 : Option (Nat × Str) → PyData
  | none => .none
  | some (n, w) => .tuple [.int (n : Nat), .str w]
end Law
set_option maxHeartbeats 4000000
namespace Law
open PySem PySem.Spec PyProof.Rows L2 L2H LamX Mi
def dg (n : Nat) : Str := (["0", "1", "2", "3", "4", "5", "6"] : List Str).getD n "0"
def mw (m : Nat × Bool) : Str := if m.2 then dg m.1 ++ "!" else dg m.1
def yn (b : Bool) : Str := if b then "yes" else "no"
theorem e_dg {n : Nat} {S : Sto} (h : n < 7) : b1 fStr [.pv (.int (n : Nat))] S = .ok (.pv (.str (dg n))) S := by
  match n, h with
  | 0, _ => rfl
  | 1, _ => rfl
  | 2, _ => rfl
  | 3, _ => rfl
  | 4, _ => rfl
  | 5, _ => rfl
  | 6, _ => rfl
def sixes : List (Nat × Bool) := (List.range 6).flatMap fun n => [(n, false), (n, true)]
theorem mem_sixes {m : Nat × Bool} (h : m.1 < 6) : m ∈ sixes := by
  obtain ⟨n, g⟩ := m
  exact List.mem_flatMap.mpr ⟨n, List.mem_range.mpr h, by cases g <;> simp⟩
theorem mw_add : ∀ m ∈ sixes, dg m.1 ++ (if m.2 then ("!" : Str) else "") = mw m := by decide +kernel
theorem mw_ok : ∀ m ∈ sixes, PyData.strOk (mw m) = true ∧ PyData.strOk (dg m.1) = true ∧ (mw m).length ≤ 2 ∧ (dg m.1).length ≤ 1 := by decide +kernel
theorem mw_last : ∀ m ∈ sixes, cutS (mw m) (some (-1)) none = if m.2 then ("!" : Str) else dg m.1 := by decide +kernel
theorem mw_bare : ∀ m ∈ sixes, cutS (mw m) none (some (-1)) = if m.2 then dg m.1 else ("" : Str) := by decide +kernel
theorem mw_eq : ∀ m ∈ sixes, ((if m.2 then ("!" : Str) else dg m.1) == ("!" : Str)) = m.2 ∧ (!(mw m == dg m.1)) = m.2 := by decide +kernel
theorem dg_in : ∀ m ∈ sixes, ((["0", "1", "2", "3", "4", "5"] : List Str).any fun z => z == dg m.1) = true := by decide +kernel
theorem dg_int : ∀ m ∈ sixes, PySem.intText? (dg m.1) = some ((m.1 : Nat) : Int) := by decide +kernel

end Law
set_option maxHeartbeats 4000000
namespace Law
open PySem PySem.Spec PyProof.Rows L2 L2H LamX Mi
theorem sz_le {n m : Nat} (h : n ≤ m) (hm : m ≤ 1000) : szOk n = true := decide_eq_true (by omega)
theorem ex_len (g : Bool) : (if g then ("!" : Str) else "").length ≤ 1 := by cases g <;> decide +kernel
theorem ad_word {m : Nat × Bool} (h : m.1 < 6) : opAdd (.str (dg m.1)) (.str (if m.2 then "!" else "")) = some (.str (mw m)) := by
  have hm := mem_sixes h
  obtain ⟨_, _, _, o4⟩ := mw_ok m hm
  have z : szOk ((dg m.1).length + (if m.2 then ("!" : Str) else "").length) = true := sz_le (m := 2) (by have := ex_len m.2; omega) (by decide)
  show (if szOk ((dg m.1).length + (if m.2 then ("!" : Str) else "").length) = true then some (PyData.str (dg m.1 ++ (if m.2 then ("!" : Str) else ""))) else none) = _
  rw [if_pos z, mw_add m hm]
def six : List PyData := (["0", "1", "2", "3", "4", "5"] : List Str).map .str
theorem fig6 : slOf none (some 6) (.tuple ((["0", "1", "2", "3", "4", "5", "6"] : List Str).map .str)) = some (.tuple six) := rfl
theorem fig6' : slOf none (some 6) (.tuple [.str "0", .str "1", .str "2", .str "3", .str "4", .str "5", .str "6"]) = some (.tuple six) := rfl
theorem six_ok : shp (.tuple six) = true := (sh_t (d := 0) (xs := six) fun x hx => by
  obtain ⟨y, hy, rfl⟩ := List.mem_map.mp hx
  have : ∀ y ∈ (["0", "1", "2", "3", "4", "5"] : List Str), PyData.strOk y = true := by decide +kernel
  exact sh_s (this y hy)).shp (by decide)
theorem e_move_of {m : Nat × Bool} {S : Sto} (h : m.1 < 6) : F_p_move_of [.pv (.str (mw m))] S = .ok (.pv (eMv m)) S := by
  have hm := mem_sixes h
  obtain ⟨o1, o2, o3, o4⟩ := mw_ok m hm
  have zl : szOk (mw m).length = true := sz_le o3 (by decide)
  have c1 : slOf (some (-1)) none (.str (mw m)) = some (.str (if m.2 then "!" else dg m.1)) := by
    show (if szOk (mw m).length = true then some (PyData.str (cutS (mw m) (some (-1)) none)) else none) = _
    rw [if_pos zl, mw_last m hm]
  have c2 : slOf none (some (-1)) (.str (mw m)) = some (.str (if m.2 then dg m.1 else "")) := by
    show (if szOk (mw m).length = true then some (PyData.str (cutS (mw m) none (some (-1)))) else none) = _
    rw [if_pos zl, mw_bare m hm]
  obtain ⟨q1, q2⟩ := mw_eq m hm
  have s2 : Sh 0 (.str ("!" : Str)) := sh_s (by decide +kernel)
  have s1 : Sh 0 (.str (if m.2 then "!" else dg m.1)) := by
    cases m.2
    · exact sh_s o2
    · exact s2
  have e1 : opEq (.str (if m.2 then "!" else dg m.1)) (.str "!") = some (.bool m.2) := by
    rw [eq_of s1 s2 (by decide)]
    show some (PyData.bool ((if m.2 then ("!" : Str) else dg m.1) == ("!" : Str))) = _
    rw [q1]
  have ng : ∀ ρ S, dNeg (dC (.int 1)) ρ S = .ok (.pv (.int (-1))) S := fun ρ S => rfl
  have bare : (if m.2 then dg m.1 else mw m) = dg m.1 := by
    cases hg : m.2 <;> simp [mw, hg]
  have ein : opIn (.str (dg m.1)) (.tuple six) = some (.bool true) := by
    have e : (six.any fun z => PyData.eqv z (.str (dg m.1))) = true := by
      unfold six
      rw [List.any_map]
      exact dg_in m hm
    have sp : shp (.str (dg m.1)) = true := (sh_s (d := 0) o2).shp (by decide)
    simp [opIn, inOf, sp, six_ok, e]
  have fi : b1 fInt [.pv (.str (dg m.1))] S = .ok (.pv (.int (m.1 : Nat))) S := by
    have : (dg m.1).length ≤ 640 := by omega
    simp [b1_pv, fInt, this, dg_int m hm]
  have ne : opNe (.str (mw m)) (.str (dg m.1)) = some (.bool m.2) := by
    rw [ne_of (sh_s (d := 0) o1) (sh_s (d := 0) o2) (by decide)]
    show some (PyData.bool (!(mw m == dg m.1))) = _
    rw [q2]
  unfold F_p_move_of
  refine sat_eqf rfl ?_
  simp only [List.map_cons, List.map_nil, List.replicate, List.cons_append, List.nil_append, Nat.reduceSub]
  refine sat_then (fun ρ S' => S' = S ∧ ρ = [some (.pv (.str (mw m))), some (.pv (.str (dg m.1)))]) ?_ ?_
  · rw [ap_Set, sat_s]
    simp only [ap_If, ap_Tst, ap_d2, ap_Sl, ap_Pt, ap_No, ng, ap_C, ap_Nm, List.getElem?_cons_zero, List.getElem?_cons_succ, Res.bind_ok, intOf, sl_pv, c1, l2_pv, e1, bl_pv]
    cases hg : m.2 with
    | true =>
      rw [hg] at c2 bare
      simp only [ite_true] at c2 bare
      simp only [ite_true, c2, sat_ok, sat_next, List.set_cons_succ, List.set_cons_zero]
      first | trivial | exact ⟨rfl, rfl⟩
    | false =>
      rw [hg] at bare
      simp only [Bool.false_eq_true, ite_false] at bare
      simp only [Bool.false_eq_true, ite_false, sat_ok, sat_next, List.set_cons_succ, List.set_cons_zero]
      exact ⟨by first | trivial | rfl, by rw [bare]⟩
  rintro ρ S1 ⟨rfl, rfl⟩
  rw [ap_Ret, sat_s]
  simp only [ap_If, ap_Tst, ap_d2, ap_Sl, ap_Pt, ap_No, ap_C, ap_Nm, ap_Tup, ap_Call, ap_Cons, ap_Nil, List.getElem?_cons_zero, List.getElem?_cons_succ, Res.bind_ok, intOf, sl_pv, fig6, fig6', l2_pv, ein, bl_pv, ite_true, fi, ne, pvs_cons, pvs_nil, Option.map_some, List.length_cons, List.length_nil, show szOk (0 + 1 + 1) = true from rfl, sat_ok, sat_ret, leave_pv]
  simp [eMv]

end Law
set_option maxHeartbeats 4000000
namespace Law
open PySem PySem.Spec PyProof.Rows L2 L2H LamX Mi
theorem sum_le {c : Nat} : ∀ {l : List Str}, (∀ x ∈ l, x.length ≤ c) → (l.map (·.length)).sum ≤ l.length * c
  | [], _ => by simp
  | x :: l, h => by
    have ih := sum_le (c := c) (l := l) fun y hy => h y (List.mem_cons_of_mem _ hy)
    have h1 := h x List.mem_cons_self
    simp only [List.map_cons, List.sum_cons, List.length_cons, Nat.add_mul]
    omega
theorem join_ok {a : Str} {l : List Str} (ha : a.length ≤ 1) (hl : l.length ≤ 10) (h : ∀ x ∈ l, x.length ≤ 90) : fJoin a (.list (l.map .str)) = some (.str (Txt.join a l)) := by
  have s1 := sum_le h
  have s2 : l.length * a.length ≤ l.length * 1 := Nat.mul_le_mul_left _ ha
  have z : szOk ((l.map (·.length)).sum + l.length * a.length) = true := decide_eq_true (by omega)
  show joinS a (l.map .str) = _
  unfold joinS
  rw [strsOf_map]
  simp only [z, ite_true]
def wds (r : Row) : List Str := dg r.held.toNat :: yn r.says :: r.mv.map mw
def line (r : Row) : Str := Txt.join " " (wds r)
theorem dg_ok : ∀ n ∈ List.range 7, (dg n).length ≤ 1 ∧ 32 ∉ TL.tl (dg n) ∧ 10 ∉ TL.tl (dg n) ∧ PyData.strOk (dg n) = true := by decide +kernel
theorem yn_ok : ∀ b : Bool, (yn b).length ≤ 3 ∧ 32 ∉ TL.tl (yn b) ∧ 10 ∉ TL.tl (yn b) ∧ PyData.strOk (yn b) = true := by decide +kernel
theorem mw_ok2 : ∀ m ∈ sixes, 32 ∉ TL.tl (mw m) ∧ 10 ∉ TL.tl (mw m) := by decide +kernel
theorem WfR.k {n : Nat} {r : Row} (w : WfR n r) : r.held = ((r.held.toNat : Nat) : Int) ∧ r.held.toNat < 7 := by
  have := w.h0
  have := w.h6
  omega
theorem wds_ok {n : Nat} {r : Row} (w : WfR n r) (hn : n ≤ 6) : (wds r).length = 6 ∧ ∀ x ∈ wds r, x.length ≤ 3 ∧ 32 ∉ TL.tl x ∧ 10 ∉ TL.tl x := by
  refine ⟨by simp [wds, w.m4], fun x hx => ?_⟩
  unfold wds at hx
  rcases List.mem_cons.mp hx with rfl | hx
  · obtain ⟨a, b, c, _⟩ := dg_ok r.held.toNat (List.mem_range.mpr w.k.2)
    exact ⟨by omega, b, c⟩
  · rcases List.mem_cons.mp hx with rfl | hx
    · obtain ⟨a, b, c, _⟩ := yn_ok r.says
      exact ⟨a, b, c⟩
    · obtain ⟨m, hm, rfl⟩ := List.mem_map.mp hx
      have h6 := mem_sixes (m := m) (by have := w.mv m hm; omega)
      obtain ⟨_, _, a, _⟩ := mw_ok m h6
      obtain ⟨b, c⟩ := mw_ok2 m h6
      exact ⟨by omega, b, c⟩
theorem line_len {n : Nat} {r : Row} (w : WfR n r) (hn : n ≤ 6) : (line r).length ≤ 24 := by
  obtain ⟨h1, h2⟩ := wds_ok w hn
  have e := StrLaws.join_length_le " " (wds r)
  have s := sum_le (c := 3) (l := wds r) fun x hx => (h2 x hx).1
  have h3 : (" " : Str).length = 1 := by decide +kernel
  unfold line
  rw [TL.join_eq]
  rw [h1, h3] at e
  rw [h1] at s
  omega
theorem split_line {n : Nat} {r : Row} (w : WfR n r) (hn : n ≤ 6) : Txt.split (line r) " " = wds r := by
  obtain ⟨h1, h2⟩ := wds_ok w hn
  exact TL.split_join (s := 32) (S := []) (by decide +kernel) (by decide +kernel) (by unfold wds; simp) fun p hp => (h2 p hp).2.1

end Law
set_option maxHeartbeats 4000000
namespace Law
open PySem PySem.Spec PyProof.Rows L2 L2H LamX Mi
theorem cut_hiL {xs : List PyData} {r : Nat} (h : r ≤ xs.length) : slOf (some (r : Int)) none (.list xs) = some (.list (xs.drop r)) := by
  simp only [slOf, cutP, HT.sIx_nat, HT.sIx_none, Nat.min_eq_left h]
  rw [List.take_of_length_le (by simp)]
def seven : List PyData := [.str "0", .str "1", .str "2", .str "3", .str "4", .str "5", .str "6"]
theorem seven_ok : shp (.tuple seven) = true := (sh_t (d := 0) (xs := seven) fun x hx => by
  have : ∀ y ∈ (["0", "1", "2", "3", "4", "5", "6"] : List Str), PyData.strOk y = true := by decide +kernel
  have hx : x ∈ (["0", "1", "2", "3", "4", "5", "6"] : List Str).map PyData.str := hx
  obtain ⟨y, hy, rfl⟩ := List.mem_map.mp hx
  exact sh_s (this y hy)).shp (by decide)
theorem dg_in7 : ∀ n ∈ List.range 7, ((["0", "1", "2", "3", "4", "5", "6"] : List Str).any fun z => z == dg n) = true ∧ PySem.intText? (dg n) = some ((n : Nat) : Int) := by decide +kernel
theorem dg_notin {n : Nat} (h : n < 7) : opNotIn (.str (dg n)) (.tuple seven) = some (.bool false) := by
  have hm := List.mem_range.mpr h
  have e : (seven.any fun z => PyData.eqv z (.str (dg n))) = true := by
    show (((["0", "1", "2", "3", "4", "5", "6"] : List Str).map PyData.str).any fun z => PyData.eqv z (.str (dg n))) = true
    rw [List.any_map]
    exact (dg_in7 n hm).1
  have sp : shp (.str (dg n)) = true := (sh_s (d := 0) (dg_ok n hm).2.2.2).shp (by decide)
  simp [opNotIn, inOf, sp, seven_ok, e]
theorem dg_fint {n : Nat} {S : Sto} (h : n < 7) : b1 fInt [.pv (.str (dg n))] S = .ok (.pv (.int (n : Nat))) S := by
  have hm := List.mem_range.mpr h
  have : (dg n).length ≤ 640 := by have := (dg_ok n hm).1; omega
  simp [b1_pv, fInt, this, (dg_in7 n hm).2]
theorem yn_eq : ∀ b : Bool, (yn b == ("yes" : Str)) = b ∧ ((["yes", "no"] : List Str).any fun z => z == yn b) = true := by decide +kernel
theorem sh_yes : Sh 0 (.str ("yes" : Str)) := sh_s (by decide +kernel)
theorem yn_opeq (b : Bool) : opEq (.str (yn b)) (.str "yes") = some (.bool b) := by
  rw [eq_of (sh_s (d := 0) (yn_ok b).2.2.2) sh_yes (by decide)]
  show some (PyData.bool (yn b == ("yes" : Str))) = _
  rw [(yn_eq b).1]
theorem yn_notin (b : Bool) : opNotIn (.str (yn b)) (.tuple [.str "yes", .str "no"]) = some (.bool false) := by
  have e : ((["yes", "no"] : List Str).map PyData.str).any (fun z => PyData.eqv z (.str (yn b))) = true := by
    rw [List.any_map]
    exact (yn_eq b).2
  have e' : ([PyData.str ("yes" : Str), .str ("no" : Str)]).any (fun z => PyData.eqv z (.str (yn b))) = true := e
  have sp : shp (.str (yn b)) = true := (sh_s (d := 0) (yn_ok b).2.2.2).shp (by decide)
  have st : shp (.tuple [.str ("yes" : Str), .str ("no" : Str)]) = true := (sh_t (d := 0) (xs := [.str ("yes" : Str), .str ("no" : Str)]) fun x hx => by
    simp only [List.mem_cons, List.not_mem_nil, or_false] at hx
    rcases hx with rfl | rfl
    · exact sh_yes
    · exact sh_s (by decide +kernel)).shp (by decide)
  simp only [opNotIn, inOf, sp, st, Bool.and_self, ite_true, e', Option.map_some, Bool.not_true]
theorem gd_row {n : Nat} {r : Row} (w : WfR n r) (hn : n ≤ 6) : Gd 0 4 (eRow r) := by
  refine gd_tup (by simp) fun x hx => ?_
  simp at hx
  rcases hx with rfl | rfl | rfl
  · exact (gd_int (by have := w.h0; have := w.h6; omega))
  · exact gd_bool
  · refine gd_tup (d := 2) (by simp [w.m4]) fun x hx => ?_
    obtain ⟨m, hm, rfl⟩ := List.mem_map.mp hx
    refine gd_tup (by simp) fun x hx => ?_
    simp at hx
    rcases hx with rfl | rfl
    · exact gd_int (by have := w.mv m hm; omega)
    · exact gd_bool
theorem prow6 {n : Nat} {r : Row} (w : WfR n r) (hn : n ≤ 6) : pRow (eRow r) 6 = true := by
  have h0 := w.h0
  have h6 := w.h6
  have ha : ((r.mv.map eMv).all fun m => pMove m 6) = true := List.all_eq_true.mpr fun x hx => by
    obtain ⟨m, hm, rfl⟩ := List.mem_map.mp hx
    have := w.mv m hm
    simp [eMv, pMove, pIsW]
    omega
  simp only [pRow, eRow, ha, Bool.and_true]
  simp [pIsW, h0, h6, w.m4]
theorem e_row_of {n : Nat} {r : Row} {S : Sto} (w : WfR n r) (hn : n ≤ 6) : F_p_row_of [.pv (.str (line r))] S = .ok (.pv (eRow r)) S := by
  obtain ⟨h1, h2⟩ := wds_ok w hn
  obtain ⟨k1, k2⟩ := w.k
  have hl := line_len w hn
  have fs : fSplit (line r) (.str " ") = some (.list ((wds r).map .str)) := by
    have e1 : ((" " : Str).length == 0) = false := by decide +kernel
    have e2 : decide ((line r).length ≤ 100000) = true := decide_eq_true (by omega)
    simp only [fSplit, e1, e2, Bool.not_false, Bool.and_self, ite_true, split_line w hn]
  have wl : (wds r).map PyData.str = .str (dg r.held.toNat) :: .str (yn r.says) :: r.mv.map fun m => .str (mw m) := by simp [wds]
  unfold F_p_row_of
  refine sat_eqf rfl ?_
  simp only [List.map_cons, List.map_nil, List.replicate, List.cons_append, List.nil_append, Nat.reduceSub]
  refine sat_then (fun ρ S' => S' = S ∧ ρ = [some (.pv (.str (line r))), some (.pv (.list ((wds r).map .str))), none, none]) ?_ ?_
  · rw [ap_Set, sat_s]
    simp only [dM1, ap_Nm, ap_C, List.getElem?_cons_zero, Res.bind_ok, fs, sat_ok, sat_next, List.set_cons_succ, List.set_cons_zero]
    first | trivial | exact ⟨rfl, rfl⟩
  rintro ρ S1 ⟨rfl, rfl⟩
  have ln : b1 fLen [.pv (.list ((wds r).map .str))] S1 = .ok (.pv (.int 6)) S1 := by simp [b1_pv, fLen, h1]
  have i0 : liftIx (.pv (.list ((wds r).map .str))) (.pv (.int 0)) S1 = .ok (.pv (.str (dg r.held.toNat))) S1 := by rw [ix_pv, ix_lst0, wl]; rfl
  have i1 : liftIx (.pv (.list ((wds r).map .str))) (.pv (.int 1)) S1 = .ok (.pv (.str (yn r.says))) S1 := by rw [ix_pv, ix_lst1, wl]; rfl
  have n6 : opNe (.int 6) (.int 6) = some (.bool false) := rfl
  have d7 := dg_notin k2
  unfold seven at d7
  refine sat_then (fun ρ S' => S' = S1 ∧ ρ = [some (.pv (.str (line r))), some (.pv (.list ((wds r).map .str))), none, none]) ?_ ?_
  · refine sat_no ?_ ⟨rfl, rfl⟩
    simp only [ap_OrT, ap_Tst, ap_d2, ap_Ix, ap_Tup, ap_Call, ap_Cons, ap_C, ap_Nm, ap_Nil, List.getElem?_cons_zero, List.getElem?_cons_succ, Res.bind_ok, ln, l2_pv, n6, bl_pv, Bool.false_eq_true, ite_false, i0, i1, d7, List.map_cons, List.map_nil, pvs_cons, pvs_nil, Option.map_some, List.length_cons, List.length_nil, show szOk (0 + 1 + 1) = true from rfl, ite_true, yn_notin]
  rintro ρ S2 ⟨rfl, rfl⟩
  have sl : slOf (some 2) none (.list ((wds r).map .str)) = some (.list (r.mv.map fun m => .str (mw m))) := by
    have := cut_hiL (xs := (wds r).map .str) (r := 2) (by simp [h1])
    rw [wl] at this ⊢
    exact this
  have lc := lc_gen' (g := gN 3) (T := dYes) (A := dCall F_p_move_of (dCons (dNm 3) dNil)) (ρ := wipeE [some (.pv (.str (line r))), some (.pv (.list ((wds r).map .str))), none, none] [3]) (S := S2)
    (val := fun m : Nat × Bool => Val.pv (.str (mw m))) (keep := fun _ => true) (out := eMv) r.mv (xs := (r.mv.map fun m => PyData.str (mw m)).map .pv) (by simp) (fun m hm => ⟨_, rfl, rfl, fun _ => by
      simp [wipeE, e_move_of (m := m) (by have := w.mv m hm; omega)]⟩) (by rw [w.m4]; decide)
  rw [fil_true] at lc
  have ft : b1 fTuple [.pv (.list (r.mv.map eMv))] S2 = .ok (.pv (.tuple (r.mv.map eMv))) S2 := rfl
  have fi := dg_fint (n := r.held.toNat) (S := S2) k2
  rw [← k1] at fi
  refine sat_then (fun ρ S' => S' = S2 ∧ ρ = [some (.pv (.str (line r))), some (.pv (.list ((wds r).map .str))), some (.pv (eRow r)), none]) ?_ ?_
  · rw [ap_Set, sat_s]
    simp only [ap_Tup, ap_Cons, ap_Call, ap_Ix, ap_d2, ap_Lc, ap_Items, ap_Sl, ap_Pt, ap_No, ap_C, ap_Nm, ap_Nil, List.getElem?_cons_zero, List.getElem?_cons_succ, Res.bind_ok, i0, i1, fi, l2_pv, yn_opeq, intOf, sl_pv, sl, itemsOf, lc, ft, pvs_cons, pvs_nil, Option.map_some, List.length_cons, List.length_nil, show szOk (0 + 1 + 1 + 1) = true from rfl, ite_true, sat_ok, sat_next, List.set_cons_succ, List.set_cons_zero]
    first | trivial | exact ⟨rfl, rfl⟩
  rintro ρ S3 ⟨rfl, rfl⟩
  have gr := gd_row w hn
  have er := e_row (n := 6) (S := S3) gr.cl (Nat.le_trans gr.2 (by decide))
  rw [prow6 w hn] at er
  rw [ap_Ret, sat_s]
  simp only [ap_If, ap_Tst, ap_Call, ap_Cons, ap_C, ap_Nm, ap_Nil, List.getElem?_cons_zero, List.getElem?_cons_succ, Res.bind_ok, er, bl_pv, ite_true, sat_ok, sat_ret, leave_pv]
  simp

end Law
set_option maxHeartbeats 4000000
namespace Law
open PySem PySem.Spec PyProof.Rows L2 L2H LamX Mi
def lateS (d : Nat) : Str := "late " ++ dg d
def lines (s : Stg) : List Str := lateS s.late :: s.rows.map line
def text (s : Stg) : Str := Txt.join "\n" (lines s)
theorem late_ok : ∀ d ∈ List.range 3, (lateS d).length ≤ 6 ∧ 10 ∉ TL.tl (lateS d) ∧ cutS (lateS d) none none = lateS d ∧ PyData.strOk (lateS d) = true := by decide +kernel
theorem late3_ok : shp (.tuple [.str ("late 0" : Str), .str ("late 1" : Str), .str ("late 2" : Str)]) = true := (sh_t (d := 0) (xs := [.str ("late 0" : Str), .str ("late 1" : Str), .str ("late 2" : Str)]) fun x hx => by
    simp only [List.mem_cons, List.not_mem_nil, or_false] at hx
    rcases hx with rfl | rfl | rfl <;> exact sh_s (by decide +kernel)).shp (by decide)
theorem late_in : ∀ d ∈ List.range 3, ((["late 0", "late 1", "late 2"] : List Str).any fun z => z == lateS d) = true ∧ ((atI (lateS d).cps.toList (-1)).map fun c => (⟨#[c]⟩ : Str)) = some (dg d) := by decide +kernel
theorem e_late {d : Nat} {S : Sto} (h : d < 3) : F_p_late_of [.pv (.str (lateS d))] S = .ok (.pv (.int (d : Nat))) S := by
  have hm := List.mem_range.mpr h
  obtain ⟨l1, _, _, l4⟩ := late_ok d hm
  obtain ⟨q1, q2⟩ := late_in d hm
  have sp : shp (.str (lateS d)) = true := (sh_s (d := 0) l4).shp (by decide)
  have e : ([PyData.str ("late 0" : Str), .str ("late 1" : Str), .str ("late 2" : Str)]).any (fun z => PyData.eqv z (.str (lateS d))) = true := by
    show (((["late 0", "late 1", "late 2"] : List Str).map PyData.str).any fun z => PyData.eqv z (.str (lateS d))) = true
    rw [List.any_map]
    exact q1
  have oi : opIn (.str (lateS d)) (.tuple [.str "late 0", .str "late 1", .str "late 2"]) = some (.bool true) := by
    simp only [opIn, inOf, sp, late3_ok, Bool.and_self, ite_true, e, Option.map_some]
  have ix : ixOf (.str (lateS d)) (.int (-1)) = some (.str (dg d)) := by
    have z : szOk (lateS d).length = true := sz_le l1 (by decide)
    show (if szOk (lateS d).length = true then (atI (lateS d).cps.toList (-1)).map fun c => PyData.str ⟨#[c]⟩ else none) = _
    rw [if_pos z]
    cases hq : atI (lateS d).cps.toList (-1) with
    | none => rw [hq] at q2; simp at q2
    | some c => rw [hq] at q2; simp at q2; rw [← q2]; rfl
  have ng : ∀ ρ S, dNeg (dC (.int 1)) ρ S = .ok (.pv (.int (-1))) S := fun ρ S => rfl
  have li : liftIx (.pv (.str (lateS d))) (.pv (.int (-1))) S = .ok (.pv (.str (dg d))) S := by rw [ix_pv, ix]
  unfold F_p_late_of dFun
  simp [l2_pv, oi, ng, li, dg_fint (n := d) (S := S) (by omega)]
theorem ad_late {d : Nat} (h : d < 3) : opAdd (.str "late ") (.str (dg d)) = some (.str (lateS d)) := by
  have a := (dg_ok d (List.mem_range.mpr (by omega))).1
  have l5 : ("late " : Str).length = 5 := by decide +kernel
  have z : szOk (("late " : Str).length + (dg d).length) = true := sz_le (m := 6) (by omega) (by decide)
  show (if szOk (("late " : Str).length + (dg d).length) = true then some (PyData.str (("late " : Str) ++ dg d)) else none) = _
  rw [if_pos z]; rfl
theorem mem_joinL {x : Nat} {S : List Nat} : ∀ {l : List (List Nat)}, x ∈ TL.joinL S l → x ∈ S ∨ ∃ p ∈ l, x ∈ p
  | [], h => by simp [TL.joinL] at h
  | [p], h => .inr ⟨p, by simp, h⟩
  | p :: q :: r, h => by
    have h : x ∈ p ++ (S ++ TL.joinL S (q :: r)) := h
    rcases List.mem_append.mp h with h | h
    · exact .inr ⟨p, by simp, h⟩
    · rcases List.mem_append.mp h with h | h
      · exact .inl h
      · rcases mem_joinL h with h | ⟨z, hz, h⟩
        · exact .inl h
        · exact .inr ⟨z, List.mem_cons_of_mem _ hz, h⟩
theorem line_nl {n : Nat} {r : Row} (w : WfR n r) (hn : n ≤ 6) : 10 ∉ TL.tl (line r) := by
  obtain ⟨h1, h2⟩ := wds_ok w hn
  intro h
  unfold line at h
  rw [TL.join_eq, TL.tl_join] at h
  rcases mem_joinL h with h | ⟨p, hp, h⟩
  · exact absurd h (by decide +kernel)
  · obtain ⟨x, hx, rfl⟩ := List.mem_map.mp hp
    exact (h2 x hx).2.2 h
theorem lines_ok {s : Stg} (w : Wf s) : (lines s).length ≤ 7 ∧ ∀ x ∈ lines s, x.length ≤ 24 ∧ 10 ∉ TL.tl x := by
  refine ⟨by simp [lines]; exact w.r6, fun x hx => ?_⟩
  rcases List.mem_cons.mp hx with rfl | hx
  · obtain ⟨a, b, _, _⟩ := late_ok s.late (List.mem_range.mpr (by have := w.late; omega))
    exact ⟨by omega, b⟩
  · obtain ⟨r, hr, rfl⟩ := List.mem_map.mp hx
    exact ⟨line_len (w.rows r hr) w.r6, line_nl (w.rows r hr) w.r6⟩
theorem join_text {s : Stg} (w : Wf s) : fJoin "\n" (.list ((lines s).map .str)) = some (.str (text s)) := by
  obtain ⟨h1, h2⟩ := lines_ok w
  exact join_ok (by decide +kernel) (by omega) fun x hx => by have := (h2 x hx).1; omega
theorem text_len {s : Stg} (w : Wf s) : (text s).length ≤ 200 := by
  obtain ⟨h1, h2⟩ := lines_ok w
  have e := StrLaws.join_length_le "\n" (lines s)
  have t := sum_le (c := 24) (l := lines s) fun x hx => (h2 x hx).1
  have h3 : ("\n" : Str).length = 1 := by decide +kernel
  unfold text
  rw [TL.join_eq]
  rw [h3] at e
  omega
theorem split_text {s : Stg} (w : Wf s) : Txt.split (text s) "\n" = lines s := by
  obtain ⟨h1, h2⟩ := lines_ok w
  exact TL.split_join (s := 10) (S := []) (by decide +kernel) (by decide +kernel) (by unfold lines; simp) fun p hp => (h2 p hp).2
theorem hd_line {n : Nat} {r : Row} (w : WfR n r) : (TL.tl (line r)).head? = some (48 + r.held.toNat) := by
  have k := w.k.2
  have e : ∀ n ∈ List.range 7, TL.tl (dg n) = [48 + n] := by decide +kernel
  have e1 := e r.held.toNat (List.mem_range.mpr k)
  unfold line wds
  rw [TL.join_eq, TL.tl_join]
  show (TL.tl (dg r.held.toNat) ++ _).head? = _
  rw [e1]; rfl
theorem ne_line {n : Nat} {r : Row} (w : WfR n r) (x : Str) (hx : (TL.tl x).head? = some 108) : (x == line r) = false := by
  have k := w.k.2
  refine beq_eq_false_iff_ne.mpr fun e => ?_
  rw [e, hd_line w] at hx
  simp at hx
  omega
theorem x_late {n : Nat} {r : Row} {S : Sto} (w : WfR n r) (hn : n ≤ 6) (ok : PyData.strOk (line r) = true) : F_p_late_of [.pv (.str (line r))] S = .ok (.pv .none) S := by
  have sp : shp (.str (line r)) = true := (sh_s (d := 0) ok).shp (by decide)
  have e : ([PyData.str ("late 0" : Str), .str ("late 1" : Str), .str ("late 2" : Str)]).any (fun z => PyData.eqv z (.str (line r))) = false := by
    show (("late 0" : Str) == line r || (("late 1" : Str) == line r || (("late 2" : Str) == line r || false))) = false
    rw [ne_line w _ (by decide +kernel), ne_line w _ (by decide +kernel), ne_line w _ (by decide +kernel)]; rfl
  have st : shp (.tuple [.str ("late 0" : Str), .str ("late 1" : Str), .str ("late 2" : Str)]) = true := (sh_t (d := 0) (xs := [.str ("late 0" : Str), .str ("late 1" : Str), .str ("late 2" : Str)]) fun x hx => by
    simp only [List.mem_cons, List.not_mem_nil, or_false] at hx
    rcases hx with rfl | rfl | rfl <;> exact sh_s (by decide +kernel)).shp (by decide)
  have oi : opIn (.str (line r)) (.tuple [.str "late 0", .str "late 1", .str "late 2"]) = some (.bool false) := by
    simp only [opIn, inOf, sp, st, Bool.and_self, ite_true, e, Option.map_some]
  unfold F_p_late_of dFun
  simp [l2_pv, oi]

end Law
set_option maxHeartbeats 4000000
namespace Law
open PySem PySem.Spec PyProof.Rows L2 L2H LamX Mi
theorem so_of {x : Str} (h : ∀ c ∈ TL.tl x, c < 0x110000) : PyData.strOk x = true := by
  unfold PyData.strOk
  rw [← Array.all_toList]
  exact List.all_eq_true.mpr fun c hc => decide_eq_true (h c hc)
theorem so_mem {x : Str} (h : PyData.strOk x = true) : ∀ c ∈ TL.tl x, c < 0x110000 := by
  unfold PyData.strOk at h
  rw [← Array.all_toList] at h
  exact fun c hc => of_decide_eq_true (List.all_eq_true.mp h c hc)
theorem so_join {a : Str} {l : List Str} (ha : PyData.strOk a = true) (hl : ∀ x ∈ l, PyData.strOk x = true) : PyData.strOk (Txt.join a l) = true := by
  refine so_of fun c hc => ?_
  rw [TL.join_eq, TL.tl_join] at hc
  rcases mem_joinL hc with h | ⟨p, hp, h⟩
  · exact so_mem ha c h
  · obtain ⟨x, hx, rfl⟩ := List.mem_map.mp hp
    exact so_mem (hl x hx) c h
theorem so_line {n : Nat} {r : Row} (w : WfR n r) (hn : n ≤ 6) : PyData.strOk (line r) = true := by
  refine so_join (by decide +kernel) fun x hx => ?_
  unfold wds at hx
  rcases List.mem_cons.mp hx with rfl | hx
  · exact (dg_ok r.held.toNat (List.mem_range.mpr w.k.2)).2.2.2
  · rcases List.mem_cons.mp hx with rfl | hx
    · exact (yn_ok r.says).2.2.2
    · obtain ⟨m, hm, rfl⟩ := List.mem_map.mp hx
      exact (mw_ok m (mem_sixes (by have := w.mv m hm; omega))).1
theorem so_text {s : Stg} (w : Wf s) : PyData.strOk (text s) = true := by
  refine so_join (by decide +kernel) fun x hx => ?_
  rcases List.mem_cons.mp hx with rfl | hx
  · exact (late_ok s.late (List.mem_range.mpr (by have := w.late; omega))).2.2.2
  · obtain ⟨r, hr, rfl⟩ := List.mem_map.mp hx
    exact so_line (w.rows r hr) w.r6
theorem e_read {s : Stg} {S : Sto} (w : Wf s) : F_p_read_stage [.pv (.str (text s))] S = .ok (.pv (eStg s)) S := by
  have h6 := w.r6
  have hd := w.late
  have hl := text_len w
  have fs : fSplit (text s) (.str "\n") = some (.list ((lines s).map .str)) := by
    have e1 : (("\n" : Str).length == 0) = false := by decide +kernel
    have e2 : decide ((text s).length ≤ 100000) = true := decide_eq_true (by omega)
    simp only [fSplit, e1, e2, Bool.not_false, Bool.and_self, ite_true, split_text w]
  have is : ∀ S, isiF "str" (.pv (.str (text s))) S = .ok (.pv (.bool true)) S := fun S => by simp [isiF, tyName, isTy]
  have wl : (lines s).map PyData.str = .str (lateS s.late) :: s.rows.map fun r => .str (line r) := by simp [lines]
  unfold F_p_read_stage
  refine sat_eqf rfl ?_
  simp only [List.map_cons, List.map_nil, List.replicate, List.cons_append, List.nil_append, Nat.reduceSub]
  refine sat_then (fun ρ S' => S' = S ∧ ρ = [some (.pv (.str (text s))), none, none, none, none]) ?_ ?_
  · refine sat_no ?_ ⟨rfl, rfl⟩
    simp only [ap_NotT, ap_Tst, ap_Isi, ap_Nm, List.getElem?_cons_zero, Res.bind_ok, is, bl_pv, Bool.not_true]
  rintro ρ S0 ⟨rfl, rfl⟩
  refine sat_then (fun ρ S' => S' = S0 ∧ ρ = [some (.pv (.str (text s))), some (.pv (.list ((lines s).map .str))), none, none, none]) ?_ ?_
  · rw [ap_Set, sat_s]
    simp only [dM1, ap_Nm, ap_C, List.getElem?_cons_zero, Res.bind_ok, fs, sat_ok, sat_next, List.set_cons_succ, List.set_cons_zero]
    first | trivial | exact ⟨rfl, rfl⟩
  rintro ρ S1 ⟨rfl, rfl⟩
  refine sat_then (fun ρ S' => S' = S1 ∧ ∃ y2 y3, ρ = [some (.pv (.str (text s))), some (.pv (.list ((lines s).map .str))), y2, y3, none]) ?_ ?_
  · rw [ap_For, sat_s, ap_Enum, sat_bind]
    have ps : psOf (.pv (.list ((lines s).map .str))) = some ((lines s).map .str) := rfl
    simp only [ap_Nm, List.getElem?_cons_zero, List.getElem?_cons_succ, sat_ok, ps]
    rw [enum_zip]
    refine for_inv (I := fun i ρ S' => S' = S1 ∧ ∃ y2 y3, ρ = [some (.pv (.str (text s))), some (.pv (.list ((lines s).map .str))), y2, y3, none]) ⟨rfl, _, _, rfl⟩ (fun i x ρ S' hx ⟨e1, y2, y3, e2⟩ => ?_) (fun ρ S' hh => hh)
    subst e1 e2
    rw [List.getElem?_map] at hx
    obtain ⟨⟨p, j⟩, hp, rfl⟩ := Option.map_eq_some_iff.mp hx
    have hp' := List.mem_of_getElem? hp
    have hpm : p ∈ (lines s).map PyData.str := (List.mem_zipIdx hp').2.2 ▸ List.getElem_mem _
    obtain ⟨z, hz, rfl⟩ := List.mem_map.mp hpm
    refine ⟨[some (.pv (.str (text s))), some (.pv (.list ((lines s).map .str))), some (.pv (.int (j : Nat))), some (.pv (.str z)), none], by rw [enumP, gT_ap, go_cons, ap_gN, Option.bind_some, go_cons, ap_gN, Option.bind_some, go_nil]; rfl, ?_⟩
    refine sat_no ?_ ⟨rfl, _, _, rfl⟩
    rcases List.mem_cons.mp hz with rfl | hz
    · have e := e_late (d := s.late) (S := S') (by omega)
      have q : opIs (.int ((s.late : Nat) : Int)) .none = some (.bool false) := rfl
      simp only [ap_AndT, ap_Tst, ap_d2, ap_Call, ap_Cons, ap_C, ap_Nm, ap_Nil, List.getElem?_cons_zero, List.getElem?_cons_succ, Res.bind_ok, e, l2_pv, q, bl_pv, Bool.false_eq_true, ite_false]
    · obtain ⟨r, hr, rfl⟩ := List.mem_map.mp hz
      have e1 := x_late (S := S') (w.rows r hr) h6 (so_line (w.rows r hr) h6)
      have e2 := e_row_of (S := S') (w.rows r hr) h6
      have q1 : opIs .none .none = some (.bool true) := rfl
      have q2 : opIs (eRow r) .none = some (.bool false) := rfl
      simp only [ap_AndT, ap_Tst, ap_d2, ap_Call, ap_Cons, ap_C, ap_Nm, ap_Nil, List.getElem?_cons_zero, List.getElem?_cons_succ, Res.bind_ok, e1, e2, l2_pv, q1, q2, bl_pv, ite_true]
  rintro ρ S2 ⟨rfl, y2, y3, rfl⟩
  have i0 : liftIx (.pv (.list ((lines s).map .str))) (.pv (.int 0)) S2 = .ok (.pv (.str (lateS s.late))) S2 := by rw [ix_pv, ix_lst0, wl]; rfl
  have sl : slOf (some 1) none (.list ((lines s).map .str)) = some (.list (s.rows.map fun r => .str (line r))) := by
    have := cut_hiL (xs := (lines s).map .str) (r := 1) (by simp [lines])
    rw [wl] at this ⊢
    exact this
  have el := e_late (d := s.late) (S := S2) (by omega)
  have lc := lc_gen' (g := gN 3) (T := dYes) (A := dCall F_p_row_of (dCons (dNm 3) dNil)) (ρ := wipeE [some (.pv (.str (text s))), some (.pv (.list ((lines s).map .str))), y2, y3, none] [3]) (S := S2)
    (val := fun r : Row => Val.pv (.str (line r))) (keep := fun _ => true) (out := eRow) s.rows (xs := (s.rows.map fun r => PyData.str (line r)).map .pv) (by simp) (fun r hr => ⟨_, rfl, rfl, fun _ => by
      simp [wipeE, e_row_of (w.rows r hr) h6]⟩) (by omega)
  rw [fil_true] at lc
  have ft : b1 fTuple [.pv (.list (s.rows.map eRow))] S2 = .ok (.pv (.tuple (s.rows.map eRow))) S2 := rfl
  refine sat_then (fun ρ S' => S' = S2 ∧ ρ = [some (.pv (.str (text s))), some (.pv (.list ((lines s).map .str))), y2, y3, some (.pv (eStg s))]) ?_ ?_
  · rw [ap_Set, sat_s]
    simp only [ap_Tup, ap_Cons, ap_Call, ap_Ix, ap_Lc, ap_Items, ap_Sl, ap_Pt, ap_No, ap_C, ap_Nm, ap_Nil, List.getElem?_cons_zero, List.getElem?_cons_succ, Res.bind_ok, i0, el, intOf, sl_pv, sl, itemsOf, lc, ft, pvs_cons, pvs_nil, Option.map_some, List.length_cons, List.length_nil, show szOk (0 + 1 + 1) = true from rfl, ite_true, sat_ok, sat_next, List.set_cons_succ, List.set_cons_zero]
    first | trivial | exact ⟨rfl, rfl⟩
  rintro ρ S3 ⟨rfl, rfl⟩
  have gs := gd_stg w
  have eh := e_stage (S := S3) gs.cl (Nat.le_trans gs.2 (by decide))
  rw [wf_stage w] at eh
  refine sat_then (fun ρ S' => S' = S3 ∧ ρ = [some (.pv (.str (text s))), some (.pv (.list ((lines s).map .str))), y2, y3, some (.pv (eStg s))]) ?_ ?_
  · refine sat_no ?_ ⟨rfl, rfl⟩
    simp only [ap_NotT, ap_Tst, ap_Call, ap_Cons, ap_Nm, ap_Nil, List.getElem?_cons_zero, List.getElem?_cons_succ, Res.bind_ok, eh, bl_pv, Bool.not_true]
  rintro ρ S4 ⟨rfl, rfl⟩
  rw [ap_Ret, sat_s]
  simp

end Law
set_option maxHeartbeats 4000000
namespace Law
open PySem PySem.Spec PyProof.Rows L2 L2H LamX Mi
theorem joinL_snoc {S x : List Nat} : ∀ {l : List (List Nat)}, l ≠ [] → TL.joinL S (l ++ [x]) = TL.joinL S l ++ (S ++ x)
  | [], h => absurd rfl h
  | [p], _ => rfl
  | p :: q :: r, _ => by
    have ih := joinL_snoc (S := S) (x := x) (l := q :: r) (by simp)
    show p ++ (S ++ TL.joinL S ((q :: r) ++ [x])) = p ++ (S ++ TL.joinL S (q :: r)) ++ (S ++ x)
    rw [ih]
    simp
theorem join_snoc {a x : Str} {l : List Str} (h : l ≠ []) : Txt.join a (l ++ [x]) = Txt.join a l ++ a ++ x := by
  refine TL.ext_tl ?_
  rw [TL.join_eq, TL.join_eq, TL.tl_append, TL.tl_append, TL.tl_join, TL.tl_join, List.map_append, List.map_cons, List.map_nil, joinL_snoc (by simpa using h), List.append_assoc]
theorem str_assoc (a b c : Str) : a ++ b ++ c = a ++ (b ++ c) := TL.ext_tl (by simp only [TL.tl_append, List.append_assoc])
theorem ad_str {a b : Str} (h : a.length + b.length ≤ 1000) : opAdd (.str a) (.str b) = some (.str (a ++ b)) := by
  have z : szOk (a.length + b.length) = true := sz_le h (by decide)
  show (if szOk (a.length + b.length) = true then some (PyData.str (a ++ b)) else none) = _
  rw [if_pos z]
theorem jlen {l : List Str} (h : ∀ x ∈ l, x.length ≤ 3) (hl : l.length ≤ 6) : (Txt.join " " l).length ≤ 24 := by
  have e := StrLaws.join_length_le " " l
  have s := sum_le h
  have h3 : (" " : Str).length = 1 := by decide +kernel
  rw [TL.join_eq]
  rw [h3] at e
  omega
theorem start_ok : ∀ n ∈ List.range 7, ∀ b : Bool, dg n ++ (if b then (" yes" : Str) else " no") = Txt.join " " [dg n, yn b] ∧ (dg n).length + (if b then (" yes" : Str) else " no").length ≤ 5 := by decide +kernel
theorem e_law_lines {s : Stg} {S : Sto} (w : Wf s) : F_law_lines [.pv (eStg s)] S = .ok (.pv (.list ((lines s).map .str))) S := by
  have h6 := w.r6
  have hd := w.late
  have ed := e_dg (n := s.late) (S := S) (by omega)
  have al := ad_late (d := s.late) (by omega)
  unfold F_law_lines
  refine sat_eqf rfl ?_
  simp only [List.map_cons, List.map_nil, List.replicate, List.cons_append, List.nil_append, Nat.reduceSub]
  refine sat_then (fun ρ S' => S' = S ++ [.lst [.str (lateS s.late)]] ∧ ρ = [some (.pv (eStg s)), some (.loc S.length), none, none, none, none, none, none]) ?_ ?_
  · rw [ap_Set, sat_s]
    simp only [ap_New, ap_Cons, ap_d2, ap_Call, ap_Ix, ap_C, ap_Nm, ap_Nil, List.getElem?_cons_zero, Res.bind_ok, ix_stg0, ed, l2_pv, al, pvs_cons, pvs_nil, Option.map_some, List.length_cons, List.length_nil, show szOk (0 + 1) = true from rfl, ite_true, sat_ok, sat_next, List.set_cons_succ, List.set_cons_zero]
    first | trivial | exact ⟨rfl, rfl⟩
  rintro ρ S1 ⟨rfl, rfl⟩
  refine sat_then (fun ρ S' => S' = S ++ [.lst ((lines s).map .str)] ∧ ∃ y2 y3 y4 y5 y6 y7, ρ = [some (.pv (eStg s)), some (.loc S.length), y2, y3, y4, y5, y6, y7]) ?_ ?_
  · rw [ap_For, sat_s, ap_Items, sat_bind]
    simp only [ap_Ix, ap_Nm, ap_C, List.getElem?_cons_zero, Res.bind_ok, ix_stg, sat_ok, itemsOf]
    refine for_inv (I := fun i ρ S' => S' = S ++ [.lst ((lateS s.late :: (s.rows.take i).map line).map .str)] ∧ ∃ y2 y3 y4 y5 y6 y7, ρ = [some (.pv (eStg s)), some (.loc S.length), y2, y3, y4, y5, y6, y7]) ⟨rfl, _, _, _, _, _, _, rfl⟩ (fun i x ρ S' hx ⟨e1, y2, y3, y4, y5, y6, y7, e2⟩ => ?_) (fun ρ S' ⟨e1, y⟩ => ⟨by
      rw [e1, List.length_map, List.length_map, List.take_length]; rfl, y⟩)
    subst e1 e2
    obtain ⟨r, hr, rfl⟩ : ∃ r, s.rows[i]? = some r ∧ x = .pv (eRow r) := by
      rw [List.getElem?_map, List.getElem?_map] at hx
      cases hq : s.rows[i]? with
      | none => rw [hq] at hx; simp at hx
      | some b => rw [hq] at hx; simp at hx; exact ⟨b, rfl, hx.symm⟩
    have hi : i < s.rows.length := (List.getElem?_eq_some_iff.mp hr).1
    have wr := w.rows r (List.mem_of_getElem? hr)
    obtain ⟨k1, k2⟩ := wr.k
    obtain ⟨n1, n2⟩ := wds_ok wr h6
    have tk : s.rows.take (i + 1) = s.rows.take i ++ [r] := by rw [List.take_succ, hr]; rfl
    generalize hS : S ++ [Ob.lst ((lateS s.late :: (s.rows.take i).map line).map .str)] = S2
    have edr := e_dg (n := r.held.toNat) (S := S2) k2
    rw [← k1] at edr
    obtain ⟨st1, st2⟩ := start_ok r.held.toNat (List.mem_range.mpr k2) r.says
    refine ⟨[some (.pv (eStg s)), some (.loc S.length), some (.pv (.int r.held)), some (.pv (.bool r.says)), some (.pv (.tuple (r.mv.map eMv))), y5, y6, y7], by rw [eRow, gT_ap, go_cons, ap_gN, Option.bind_some, go_cons, ap_gN, Option.bind_some, go_cons, ap_gN, Option.bind_some, go_nil]; rfl, ?_⟩
    refine sat_then (fun ρ S' => S' = S2 ∧ ρ = [some (.pv (eStg s)), some (.loc S.length), some (.pv (.int r.held)), some (.pv (.bool r.says)), some (.pv (.tuple (r.mv.map eMv))), some (.pv (.str (Txt.join " " [dg r.held.toNat, yn r.says]))), y6, y7]) ?_ ?_
    · have ad := ad_str (a := dg r.held.toNat) (b := if r.says then (" yes" : Str) else " no") (by omega)
      rw [st1] at ad
      rw [ap_Set, sat_s]
      cases hs : r.says with
      | true =>
        rw [hs] at ad
        simp only [ite_true] at ad
        simp only [ap_d2, ap_If, ap_Tst, ap_Call, ap_Cons, ap_C, ap_Nm, ap_Nil, List.getElem?_cons_zero, List.getElem?_cons_succ, Res.bind_ok, edr, bl_pv, ite_true, l2_pv, ad, sat_ok, sat_next, List.set_cons_succ, List.set_cons_zero]
        first | trivial | exact ⟨rfl, rfl⟩
      | false =>
        rw [hs] at ad
        simp only [Bool.false_eq_true, ite_false] at ad
        simp only [ap_d2, ap_If, ap_Tst, ap_Call, ap_Cons, ap_C, ap_Nm, ap_Nil, List.getElem?_cons_zero, List.getElem?_cons_succ, Res.bind_ok, edr, bl_pv, Bool.false_eq_true, ite_false, l2_pv, ad, sat_ok, sat_next, List.set_cons_succ, List.set_cons_zero]
        first | trivial | exact ⟨rfl, rfl⟩
    rintro ρ S3 ⟨rfl, rfl⟩
    refine sat_then (fun ρ S' => S' = S3 ∧ ∃ y6 y7, ρ = [some (.pv (eStg s)), some (.loc S.length), some (.pv (.int r.held)), some (.pv (.bool r.says)), some (.pv (.tuple (r.mv.map eMv))), some (.pv (.str (line r))), y6, y7]) ?_ ?_
    · rw [ap_For, sat_s, ap_Items, sat_bind]
      simp only [ap_Nm, List.getElem?_cons_zero, List.getElem?_cons_succ, sat_ok, itemsOf]
      refine for_inv (I := fun j ρ S' => S' = S3 ∧ ∃ y6 y7, ρ = [some (.pv (eStg s)), some (.loc S.length), some (.pv (.int r.held)), some (.pv (.bool r.says)), some (.pv (.tuple (r.mv.map eMv))), some (.pv (.str (Txt.join " " (dg r.held.toNat :: yn r.says :: (r.mv.take j).map mw)))), y6, y7]) ⟨rfl, _, _, rfl⟩ (fun j x ρ S' hx ⟨e1, z6, z7, e2⟩ => ?_) (fun ρ S' ⟨e1, z6, z7, e2⟩ => ⟨e1, z6, z7, by
        rw [e2, List.length_map, List.length_map, List.take_length]; rfl⟩)
      subst e1 e2
      obtain ⟨m, hm, rfl⟩ : ∃ m, r.mv[j]? = some m ∧ x = .pv (eMv m) := by
        rw [List.getElem?_map, List.getElem?_map] at hx
        cases hq : r.mv[j]? with
        | none => rw [hq] at hx; simp at hx
        | some b => rw [hq] at hx; simp at hx; exact ⟨b, rfl, hx.symm⟩
      have hm6 : m.1 < 6 := by have := wr.mv m (List.mem_of_getElem? hm); omega
      have tm : r.mv.take (j + 1) = r.mv.take j ++ [m] := by rw [List.take_succ, hm]; rfl
      have sub : ∀ x ∈ dg r.held.toNat :: yn r.says :: (r.mv.take j).map mw, x ∈ wds r := fun x hx => by
        unfold wds
        rcases List.mem_cons.mp hx with h | hx
        · rw [h]; simp
        · rcases List.mem_cons.mp hx with h | hx
          · rw [h]; simp
          · obtain ⟨q, hq, rfl⟩ := List.mem_map.mp hx
            exact List.mem_cons_of_mem _ (List.mem_cons_of_mem _ (List.mem_map.mpr ⟨q, List.mem_of_mem_take hq, rfl⟩))
      have jl := jlen (l := dg r.held.toNat :: yn r.says :: (r.mv.take j).map mw) (fun x hx => (n2 x (sub x hx)).1) (by simp [wr.m4]; omega)
      have snoc : Txt.join " " (dg r.held.toNat :: yn r.says :: (r.mv.take (j + 1)).map mw) = Txt.join " " (dg r.held.toNat :: yn r.says :: (r.mv.take j).map mw) ++ " " ++ mw m := by
        rw [tm, List.map_append, List.map_cons, List.map_nil]
        exact join_snoc (l := dg r.held.toNat :: yn r.says :: (r.mv.take j).map mw) (by simp)
      generalize hA : Txt.join " " (dg r.held.toNat :: yn r.says :: (r.mv.take j).map mw) = A at jl snoc
      have sp1 : (" " : Str).length = 1 := by decide +kernel
      obtain ⟨_, _, _, dl⟩ := mw_ok m (mem_sixes hm6)
      have xl := ex_len m.2
      have a1 := ad_str (a := A) (b := " ") (by omega)
      have l1 : (A ++ (" " : Str)).length = A.length + 1 := by rw [Str.length_append, sp1]
      have a2 := ad_str (a := A ++ " ") (b := dg m.1) (by omega)
      have l2' : (A ++ (" " : Str) ++ dg m.1).length = A.length + 1 + (dg m.1).length := by rw [Str.length_append, l1]
      have a3 := ad_str (a := A ++ " " ++ dg m.1) (b := if m.2 then ("!" : Str) else "") (by omega)
      rw [str_assoc (A ++ " ") (dg m.1), mw_add m (mem_sixes hm6), ← snoc] at a3
      have edm := e_dg (n := m.1) (S := S') (by omega)
      refine ⟨[some (.pv (eStg s)), some (.loc S.length), some (.pv (.int r.held)), some (.pv (.bool r.says)), some (.pv (.tuple (r.mv.map eMv))), some (.pv (.str A)), some (.pv (.int (m.1 : Nat))), some (.pv (.bool m.2))], by rw [eMv, gT_ap, go_cons, ap_gN, Option.bind_some, go_cons, ap_gN, Option.bind_some, go_nil]; rfl, ?_⟩
      rw [ap_Set, sat_s]
      cases hg : m.2 with
      | true =>
        rw [hg] at a3
        simp only [ite_true] at a3
        simp only [ap_d2, ap_If, ap_Tst, ap_Call, ap_Cons, ap_C, ap_Nm, ap_Nil, List.getElem?_cons_zero, List.getElem?_cons_succ, Res.bind_ok, edm, bl_pv, ite_true, l2_pv, a1, a2, a3, sat_ok, sat_next, List.set_cons_succ, List.set_cons_zero]
        exact ⟨by first | trivial | rfl, _, _, rfl⟩
      | false =>
        rw [hg] at a3
        simp only [Bool.false_eq_true, ite_false] at a3
        simp only [ap_d2, ap_If, ap_Tst, ap_Call, ap_Cons, ap_C, ap_Nm, ap_Nil, List.getElem?_cons_zero, List.getElem?_cons_succ, Res.bind_ok, edm, bl_pv, Bool.false_eq_true, ite_false, l2_pv, a1, a2, a3, sat_ok, sat_next, List.set_cons_succ, List.set_cons_zero]
        exact ⟨by first | trivial | rfl, _, _, rfl⟩
    rintro ρ S4 ⟨rfl, z6, z7, rfl⟩
    subst hS
    have gl : (S ++ [Ob.lst ((lateS s.late :: (s.rows.take i).map line).map .str)])[S.length]? = some (.lst ((lateS s.late :: (s.rows.take i).map line).map .str)) := by simp
    have ap := app_pv (p := .str (line r)) gl (by simp; omega)
    have la := lst_at gl
    have st : (S ++ [Ob.lst ((lateS s.late :: (s.rows.take i).map line).map .str)]).set S.length (.lst ((lateS s.late :: (s.rows.take i).map line).map .str ++ [.str (line r)])) = S ++ [.lst ((lateS s.late :: (s.rows.take (i + 1)).map line).map .str)] := by rw [tk]; simp
    rw [st] at ap
    simp only [ap_Do, sat_s, ap_App, ap_Nm, List.getElem?_cons_zero, List.getElem?_cons_succ, Res.bind_ok, la, ite_true, ap, sat_ok, sat_next]
    exact ⟨by first | trivial | rfl, _, _, _, _, _, _, rfl⟩
  rintro ρ S1 ⟨rfl, y2, y3, y4, y5, y6, y7, rfl⟩
  have gl : (S ++ [Ob.lst ((lines s).map .str)])[S.length]? = some (.lst ((lines s).map .str)) := by simp
  rw [ap_Ret, sat_s]
  simp only [ap_Fz, List.getElem?_cons_zero, List.getElem?_cons_succ, gl, sat_ok, sat_ret, leave_pv]
  simp

end Law
set_option maxHeartbeats 4000000
namespace Law
open PySem PySem.Spec PyProof.Rows L2 L2H LamX Mi
theorem so_cut {z : Str} {a b : Option Int} (h : PyData.strOk z = true) : PyData.strOk (cutS z a b) = true := by
  refine so_of fun c hc => ?_
  exact so_mem h c (List.mem_of_mem_drop (List.mem_of_mem_take hc))
theorem in_any {l : List Str} {x : Str} (hl : (l.all fun y => PyData.strOk y) = true) (hx : PyData.strOk x = true) :
    shp (.str x) = true ∧ shp (.tuple (l.map .str)) = true ∧ shp (.list (l.map .str)) = true ∧ ((l.map PyData.str).any fun z => PyData.eqv z (.str x)) = l.any fun z => z == x := by
  have hs : ∀ y ∈ l.map PyData.str, Sh 0 y := fun y hy => by
    obtain ⟨z, hz, rfl⟩ := List.mem_map.mp hy
    exact sh_s (List.all_eq_true.mp hl z hz)
  refine ⟨(sh_s (d := 0) hx).shp (by decide), (sh_t hs).shp (by decide), (sh_l hs).shp (by decide), ?_⟩
  rw [List.any_map]; rfl
theorem in_tupS {l : List Str} {x : Str} (hl : (l.all fun y => PyData.strOk y) = true) (hx : PyData.strOk x = true) : opIn (.str x) (.tuple (l.map .str)) = some (.bool (l.any fun z => z == x)) := by
  obtain ⟨h1, h2, h3, h4⟩ := in_any hl hx
  simp only [opIn, inOf, h1, h2, Bool.and_self, ite_true, h4, Option.map_some]
theorem in_lstS {l : List Str} {x : Str} (hl : (l.all fun y => PyData.strOk y) = true) (hx : PyData.strOk x = true) : opIn (.str x) (.list (l.map .str)) = some (.bool (l.any fun z => z == x)) := by
  obtain ⟨h1, h2, h3, h4⟩ := in_any hl hx
  simp only [opIn, inOf, h1, h3, Bool.and_self, ite_true, h4, Option.map_some]
theorem notin_tupS {l : List Str} {x : Str} (hl : (l.all fun y => PyData.strOk y) = true) (hx : PyData.strOk x = true) : opNotIn (.str x) (.tuple (l.map .str)) = some (.bool (!l.any fun z => z == x)) := by
  obtain ⟨h1, h2, h3, h4⟩ := in_any hl hx
  simp only [opNotIn, inOf, h1, h2, Bool.and_self, ite_true, h4, Option.map_some]
theorem notin_lstS {l : List Str} {x : Str} (hl : (l.all fun y => PyData.strOk y) = true) (hx : PyData.strOk x = true) : opNotIn (.str x) (.list (l.map .str)) = some (.bool (!l.any fun z => z == x)) := by
  obtain ⟨h1, h2, h3, h4⟩ := in_any hl hx
  simp only [opNotIn, inOf, h1, h3, Bool.and_self, ite_true, h4, Option.map_some]
def fg7 : List Str := ["0", "1", "2", "3", "4", "5", "6"]
def fg6 : List Str := ["0", "1", "2", "3", "4", "5"]
def fgY : List Str := ["yes", "no"]
def fgL : List Str := ["late 0", "late 1", "late 2"]
theorem fg_ok : (fg7.all fun y => PyData.strOk y) = true ∧ (fg6.all fun y => PyData.strOk y) = true ∧ (fgY.all fun y => PyData.strOk y) = true ∧ (fgL.all fun y => PyData.strOk y) = true := by decide +kernel
def figOf (x : Str) : Option Nat := (List.range 7).find? fun n => dg n == x
theorem figOf_some {x : Str} {n : Nat} (h : figOf x = some n) : n < 7 ∧ x = dg n := by
  unfold figOf at h
  have h1 := List.find?_some h
  have h2 := List.mem_of_find?_eq_some h
  exact ⟨List.mem_range.mp h2, (beq_iff_eq.mp h1).symm⟩
theorem figOf_none {x : Str} (h : figOf x = none) (n : Nat) (hn : n < 7) : (dg n == x) = false := by
  have := List.find?_eq_none.mp h n (List.mem_range.mpr hn)
  simpa using this
theorem fg7_dg : ∀ n ∈ List.range 7, (fg7.any fun z => z == dg n) = true ∧ (fg6.any fun z => z == dg n) = decide (n < 6) := by decide +kernel
theorem any7 (x : Str) : (fg7.any fun z => z == x) = (figOf x).isSome := by
  cases h : figOf x with
  | some n =>
    obtain ⟨h1, rfl⟩ := figOf_some h
    exact (fg7_dg n (List.mem_range.mpr h1)).1
  | none =>
    show (dg 0 == x || (dg 1 == x || (dg 2 == x || (dg 3 == x || (dg 4 == x || (dg 5 == x || (dg 6 == x || false))))))) = false
    rw [figOf_none h 0 (by decide), figOf_none h 1 (by decide), figOf_none h 2 (by decide), figOf_none h 3 (by decide), figOf_none h 4 (by decide), figOf_none h 5 (by decide), figOf_none h 6 (by decide)]; rfl
def lt6 : Option Nat → Bool
  | some n => decide (n < 6)
  | none => false
theorem any6 (x : Str) : (fg6.any fun z => z == x) = lt6 (figOf x) := by
  cases h : figOf x with
  | some n =>
    obtain ⟨h1, rfl⟩ := figOf_some h
    exact (fg7_dg n (List.mem_range.mpr h1)).2
  | none =>
    show (dg 0 == x || (dg 1 == x || (dg 2 == x || (dg 3 == x || (dg 4 == x || (dg 5 == x || false)))))) = false
    rw [figOf_none h 0 (by decide), figOf_none h 1 (by decide), figOf_none h 2 (by decide), figOf_none h 3 (by decide), figOf_none h 4 (by decide), figOf_none h 5 (by decide)]; rfl
def ynOf (x : Str) : Option Bool := if x == "yes" then some true else if x == "no" then some false else none
theorem anyY (x : Str) : (fgY.any fun z => z == x) = (ynOf x).isSome := by
  show (("yes" : Str) == x || (("no" : Str) == x || false)) = _
  unfold ynOf
  rw [show (("yes" : Str) == x) = (x == ("yes" : Str)) from BEq.comm, show (("no" : Str) == x) = (x == ("no" : Str)) from BEq.comm]
  cases (x == ("yes" : Str)) <;> cases (x == ("no" : Str)) <;> rfl
theorem ynOf_yes {x : Str} {b : Bool} (h : ynOf x = some b) : (x == ("yes" : Str)) = b := by
  unfold ynOf at h
  cases e : (x == ("yes" : Str)) with
  | true => simp [e] at h; exact h.symm
  | false => simp [e] at h; exact h.2.symm
def bareS (w : Str) : Str := if (cutS w (some (-1)) none == ("!" : Str)) = true then cutS w none (some (-1)) else w
theorem so_bare {w : Str} (h : PyData.strOk w = true) : PyData.strOk (bareS w) = true := by
  unfold bareS; split
  · exact so_cut h
  · exact h
def mvOf (w : Str) : Option (Nat × Bool) := match figOf (bareS w) with
  | some n => if n < 6 then some (n, !(w == bareS w)) else none
  | none => none
def eMvO : Option (Nat × Bool) → PyData
  | some m => eMv m
  | none => .none
theorem mvOf_lt {w : Str} {m : Nat × Bool} (h : mvOf w = some m) : m.1 < 6 := by
  unfold mvOf at h
  split at h
  · split at h
    · cases h; assumption
    · cases h
  · cases h
theorem ex_so : PyData.strOk ("!" : Str) = true := by decide +kernel
/-- the bare word, as both say it -/
theorem e_bare {k : Nat} {w : Str} {ρ : En} {S : Sto} (hk : ρ[k]? = some (some (.pv (.str w)))) (hw : PyData.strOk w = true) (hz : w.length ≤ 100000) :
    dIf (dTst (d2 opEq (dSl (dNm k) (dPt (dNeg (dC (.int 1)))) dNo) (dC (.str "!")))) (dSl (dNm k) dNo (dPt (dNeg (dC (.int 1))))) (dNm k) ρ S = .ok (.pv (.str (bareS w))) S := by
  have z : szOk w.length = true := decide_eq_true (by omega)
  have s1 : slOf (some (-1)) none (.str w) = some (.str (cutS w (some (-1)) none)) := by simp only [slOf]; rw [if_pos z]
  have s2 : slOf none (some (-1)) (.str w) = some (.str (cutS w none (some (-1)))) := by simp only [slOf]; rw [if_pos z]
  have ng : ∀ ρ S, dNeg (dC (.int 1)) ρ S = .ok (.pv (.int (-1))) S := fun ρ S => rfl
  have q : opEq (.str (cutS w (some (-1)) none)) (.str "!") = some (.bool (cutS w (some (-1)) none == ("!" : Str))) := eq_of (sh_s (d := 0) (so_cut hw)) (sh_s ex_so) (by decide)
  have nm : ∀ S, dNm k ρ S = .ok (.pv (.str w)) S := fun S => by simp [hk]
  unfold bareS
  simp only [ap_If, ap_Tst, ap_d2, ap_Sl, ap_Pt, ap_No, ap_C, nm, Res.bind_ok, ng, intOf, sl_pv, s1, l2_pv, q, bl_pv]
  cases e : (cutS w (some (-1)) none == ("!" : Str)) with
  | true => simp only [ite_true, ap_Sl, ap_Pt, ap_No, nm, Res.bind_ok, ng, intOf, sl_pv, s2]
  | false => simp only [Bool.false_eq_true, ite_false, nm]
theorem e_move_any {w : Str} {S : Sto} (hw : PyData.strOk w = true) (hz : w.length ≤ 100000) : F_p_move_of [.pv (.str w)] S = .ok (.pv (eMvO (mvOf w))) S := by
  have hb := so_bare hw
  have oi : opIn (.str (bareS w)) (.tuple six) = some (.bool (fg6.any fun z => z == bareS w)) := in_tupS fg_ok.2.1 hb
  rw [any6] at oi
  have ne : opNe (.str w) (.str (bareS w)) = some (.bool (!(w == bareS w))) := ne_of (sh_s (d := 0) hw) (sh_s hb) (by decide)
  unfold F_p_move_of
  refine sat_eqf rfl ?_
  simp only [List.map_cons, List.map_nil, List.replicate, List.cons_append, List.nil_append, Nat.reduceSub]
  refine sat_then (fun ρ S' => S' = S ∧ ρ = [some (.pv (.str w)), some (.pv (.str (bareS w)))]) ?_ ?_
  · rw [ap_Set, sat_s, e_bare (w := w) rfl hw hz, sat_ok, sat_next]; exact ⟨rfl, rfl⟩
  rintro ρ S1 ⟨rfl, rfl⟩
  rw [ap_Ret, sat_s]
  simp only [ap_If, ap_Tst, ap_d2, ap_Sl, ap_Pt, ap_No, ap_C, ap_Nm, List.getElem?_cons_zero, List.getElem?_cons_succ, Res.bind_ok, intOf, sl_pv, fig6', List.map_cons, List.map_nil, l2_pv, oi, bl_pv]
  unfold mvOf
  cases hf : figOf (bareS w) with
  | none => simp only [lt6, Bool.false_eq_true, ite_false, ap_C, sat_ok, sat_ret, leave_pv]; simp [eMvO]
  | some n =>
    obtain ⟨h7, hd⟩ := figOf_some hf
    by_cases h6 : n < 6
    · have fi := dg_fint (n := n) (S := S1) h7
      rw [← hd] at fi
      have hl : lt6 (some n) = true := decide_eq_true h6
      rw [hl, if_pos rfl]
      simp only [h6, ite_true, ap_Tup, ap_Cons, ap_Call, ap_d2, ap_Nm, ap_Nil, List.getElem?_cons_zero, List.getElem?_cons_succ, Res.bind_ok, fi, l2_pv, ne, pvs_cons, pvs_nil, Option.map_some, List.length_cons, List.length_nil, show szOk (0 + 1 + 1) = true from rfl, sat_ok, sat_ret, leave_pv]
      simp [eMvO, eMv]
    · have hl : lt6 (some n) = false := decide_eq_false h6
      rw [hl, if_neg (by decide)]
      simp only [h6, ite_false, ap_C, sat_ok, sat_ret, leave_pv]; simp [eMvO]

end Law
set_option maxHeartbeats 4000000
namespace Law
open PySem PySem.Spec PyProof.Rows L2 L2H LamX Mi
def mvsOf (ws : List Str) : Option (List (Nat × Bool)) := if (ws.all fun w => (mvOf w).isSome) = true then some (ws.filterMap mvOf) else none
theorem mvs_map {ws : List Str} (h : (ws.all fun w => (mvOf w).isSome) = true) : (ws.filterMap mvOf).map eMv = ws.map fun w => eMvO (mvOf w) := by
  induction ws with
  | nil => rfl
  | cons w ws ih =>
    simp only [List.all_cons, Bool.and_eq_true] at h
    obtain ⟨m, hm⟩ := Option.isSome_iff_exists.mp h.1
    simp [List.filterMap_cons, hm, ih h.2, eMvO]
theorem mvs_len {ws : List Str} (h : (ws.all fun w => (mvOf w).isSome) = true) : (ws.filterMap mvOf).length = ws.length := by
  have := congrArg List.length (mvs_map h)
  simpa using this
def rowOf (x : Str) : Option Row := if (Txt.split x " ").length = 6 then
    (match figOf ((Txt.split x " ").getD 0 ""), ynOf ((Txt.split x " ").getD 1 ""), mvsOf ((Txt.split x " ").drop 2) with
    | some n, some b, some ms => some ⟨(n : Nat), b, ms⟩
    | _, _, _ => none) else none
def eRowO : Option Row → PyData
  | some r => eRow r
  | none => .none
theorem mem_sjoin {y : Str} {c : Nat} : ∀ {l : List Str} {p : Str}, p ∈ l → c ∈ TL.tl p → c ∈ TL.tl (Str.join y l)
  | [], p, hp, _ => by cases hp
  | [a], p, hp, hc => by
    have : p = a := by simpa using hp
    subst this
    exact hc
  | a :: b :: r, p, hp, hc => by
    show c ∈ TL.tl (a ++ y ++ Str.join y (b :: r))
    rw [TL.tl_append, TL.tl_append]
    rcases List.mem_cons.mp hp with e | hp
    · subst e; exact List.mem_append_left _ (List.mem_append_left _ hc)
    · exact List.mem_append_right _ (mem_sjoin hp hc)
theorem so_split {x y : Str} (h : PyData.strOk x = true) : ∀ p ∈ Txt.split x y, PyData.strOk p = true := by
  intro p hp
  have e := PySem.StrLaws.join_split x y
  refine so_of fun c hc => so_mem h c ?_
  have := mem_sjoin (y := y) hp hc
  rw [e] at this
  exact this
theorem le_sum : ∀ {l : List Str} {p : Str}, p ∈ l → p.length ≤ (l.map (·.length)).sum
  | [], _, h => by cases h
  | a :: l, p, h => by
    rw [List.map_cons, List.sum_cons]
    rcases List.mem_cons.mp h with rfl | h
    · omega
    · have := le_sum h; omega
theorem len_split {x y : Str} (hy : 1 ≤ y.length) : (Txt.split x y).length ≤ x.length + 1 ∧ ∀ p ∈ Txt.split x y, p.length ≤ x.length + 1 := by
  have h := split_weight x y hy
  refine ⟨by omega, fun p hp => ?_⟩
  have : p.length ≤ ((Txt.split x y).map (·.length)).sum := le_sum hp
  omega
theorem sep_ok : 1 ≤ (" " : Str).length ∧ 1 ≤ ("\n" : Str).length ∧ ((" " : Str).length == 0) = false ∧ (("\n" : Str).length == 0) = false := by decide +kernel
/-- a line of k13: short, of signs that can be -/
def Ln (x : Str) : Prop := PyData.strOk x = true ∧ x.length ≤ 90000
theorem Ln.split {x y : Str} (h : Ln x) (hy : 1 ≤ y.length) : (Txt.split x y).length ≤ 90001 ∧ ∀ p ∈ Txt.split x y, PyData.strOk p = true ∧ p.length ≤ 90001 := by
  obtain ⟨h1, h2⟩ := len_split (x := x) hy
  exact ⟨by have := h.2; omega, fun p hp => ⟨so_split h.1 p hp, by have := h2 p hp; have := h.2; omega⟩⟩
theorem getD_ok {ws : List Str} (h : ∀ p ∈ ws, PyData.strOk p = true ∧ p.length ≤ 90001) (i : Nat) (hi : i < ws.length) : PyData.strOk (ws.getD i "") = true ∧ ws[i]? = some (ws.getD i "") := by
  rw [List.getD_eq_getElem?_getD, List.getElem?_eq_getElem hi]
  exact ⟨(h _ (List.getElem_mem _)).1, rfl⟩
theorem row_shape {ws : List Str} {n : Nat} {b : Bool} (hn : n < 7) (h6 : ws.length = 6) :
    pRow (.tuple [.int (n : Nat), .bool b, .tuple ((ws.drop 2).map fun w => eMvO (mvOf w))]) 6 = ((ws.drop 2).all fun w => (mvOf w).isSome) := by
  have ha : (((ws.drop 2).map fun w => eMvO (mvOf w)).all fun m => pMove m 6) = ((ws.drop 2).all fun w => (mvOf w).isSome) := by
    rw [List.all_map]
    congr 1
    funext w
    show pMove (eMvO (mvOf w)) 6 = _
    cases hm : mvOf w with
    | none => rfl
    | some m =>
      have := mvOf_lt hm
      simp [eMvO, eMv, pMove, pIsW]
      omega
  have h1 : pIsW (.int (n : Nat)) 0 6 = true := by simp [pIsW]; omega
  have h2 : (((ws.drop 2).map fun w => eMvO (mvOf w)).length == 4) = true := by simp [h6]
  simp only [pRow, h1, h2, ha, isB_bool, Bool.true_and]
theorem sh_mvO {o : Option (Nat × Bool)} : Sh 1 (eMvO o) := by
  cases o with
  | none => exact sh_n
  | some m =>
    refine sh_t (d := 0) fun x hx => ?_
    simp at hx
    rcases hx with rfl | rfl
    · exact sh_i
    · exact sh_b
theorem sh_rw {n : Int} {b : Bool} {ms : List PyData} (h : ∀ m ∈ ms, Sh 1 m) : Sh 3 (.tuple [.int n, .bool b, .tuple ms]) := sh_t fun x hx => by
  simp at hx
  rcases hx with rfl | rfl | rfl
  · exact sh_i
  · exact sh_b
  · exact sh_t h
theorem ix_str {ws : List Str} {i : Nat} {z : Str} {S : Sto} (h : ws[i]? = some z) : liftIx (.pv (.list (ws.map .str))) (.pv (.int (i : Nat))) S = .ok (.pv (.str z)) S := by
  have hi := (List.getElem?_eq_some_iff.mp h).1
  have : ixOf (.list (ws.map .str)) (.int (i : Nat)) = some (.str z) := by
    simp only [ixOf, L2.atI, L2.ixN]
    simp [hi]
    have := (List.getElem?_eq_some_iff.mp h).2
    simpa using this
  rw [ix_pv, this]
theorem fs_any {x : Str} (h : Ln x) : fSplit x (.str " ") = some (.list ((Txt.split x " ").map .str)) ∧ fSplit x (.str "\n") = some (.list ((Txt.split x "\n").map .str)) := by
  have e2 : decide (x.length ≤ 100000) = true := decide_eq_true (by have := h.2; omega)
  constructor <;> simp only [fSplit, sep_ok.2.2.1, sep_ok.2.2.2, e2, Bool.not_false, Bool.and_self, ite_true]
theorem e_row_any {x : Str} {S : Sto} (h : Ln x) : F_p_row_of [.pv (.str x)] S = .ok (.pv (eRowO (rowOf x))) S := by
  obtain ⟨hn, hp⟩ := h.split (y := " ") sep_ok.1
  have fs := (fs_any h).1
  unfold F_p_row_of
  refine sat_eqf rfl ?_
  simp only [List.map_cons, List.map_nil, List.replicate, List.cons_append, List.nil_append, Nat.reduceSub]
  refine sat_then (fun ρ S' => S' = S ∧ ρ = [some (.pv (.str x)), some (.pv (.list ((Txt.split x " ").map .str))), none, none]) ?_ ?_
  · rw [ap_Set, sat_s]
    simp only [dM1, ap_Nm, ap_C, List.getElem?_cons_zero, Res.bind_ok, fs, sat_ok, sat_next, List.set_cons_succ, List.set_cons_zero]
    first | trivial | exact ⟨rfl, rfl⟩
  rintro ρ S1 ⟨rfl, rfl⟩
  unfold rowOf
  generalize hws : Txt.split x " " = ws at hn hp ⊢
  have ln : b1 fLen [.pv (.list (ws.map .str))] S1 = .ok (.pv (.int (ws.length : Nat))) S1 := by simp [b1_pv, fLen]
  have n6 : opNe (.int (ws.length : Nat)) (.int 6) = some (.bool (!decide (ws.length = 6))) := by
    rw [opNe_int]
    by_cases h6 : ws.length = 6
    · simp [h6]
    · have : ((ws.length : Int) == 6) = false := by simp; omega
      simp [h6, this]
  by_cases h6 : ¬ ws.length = 6
  · rw [if_neg h6]
    have n6' := n6
    rw [decide_eq_false h6] at n6'
    refine sat_then (fun ρ S' => False) ?_ (fun _ _ h => h.elim)
    refine sat_yes (by simp only [ap_OrT, ap_Tst, ap_d2, ap_Call, ap_Cons, ap_C, ap_Nm, ap_Nil, List.getElem?_cons_zero, List.getElem?_cons_succ, Res.bind_ok, ln, l2_pv, n6', bl_pv, Bool.not_false, ite_true]) ?_
    rw [ap_Ret, sat_s, ap_C, sat_ok, sat_ret]
    show leave S1.length (.pv .none) S1 = _
    rw [leave_pv]
    simp [eRowO]
  replace h6 : ws.length = 6 := Decidable.not_not.mp h6
  rw [if_pos h6]
  rw [decide_eq_true h6] at n6
  obtain ⟨o0, g0⟩ := getD_ok hp 0 (by omega)
  obtain ⟨o1, g1⟩ := getD_ok hp 1 (by omega)
  have i0 := ix_str (S := S1) g0
  have i1 := ix_str (S := S1) g1
  have d7 : opNotIn (.str (ws.getD 0 "")) (.tuple [.str "0", .str "1", .str "2", .str "3", .str "4", .str "5", .str "6"]) = some (.bool (!fg7.any fun z => z == ws.getD 0 "")) := notin_tupS fg_ok.1 o0
  have dY : opNotIn (.str (ws.getD 1 "")) (.tuple [.str "yes", .str "no"]) = some (.bool (!fgY.any fun z => z == ws.getD 1 "")) := notin_tupS fg_ok.2.2.1 o1
  rw [any7] at d7
  rw [anyY] at dY
  have T : ((dOrT (dTst (d2 opNe (dCall (b1 fLen) (dCons (dNm 1) dNil)) (dC (.int 6)))) (dOrT (dTst (d2 opNotIn (dIx (dNm 1) (dC (.int 0))) (dC (.tuple ((["0", "1", "2", "3", "4", "5", "6"] : List Str).map .str))))) (dTst (d2 opNotIn (dIx (dNm 1) (dC (.int 1))) (dTup (dCons (dC (.str "yes")) (dCons (dC (.str "no")) dNil))))))))
      [some (.pv (.str x)), some (.pv (.list (ws.map .str))), none, none] S1 = .ok (!(figOf (ws.getD 0 "")).isSome || !(ynOf (ws.getD 1 "")).isSome) S1 := by
    simp only [ap_OrT, ap_Tst, ap_d2, ap_Ix, ap_Tup, ap_Call, ap_Cons, ap_C, ap_Nm, ap_Nil, List.getElem?_cons_zero, List.getElem?_cons_succ, Res.bind_ok, ln, l2_pv, n6, bl_pv, Bool.not_true, Bool.false_eq_true, ite_false, show ((0 : Int)) = ((0 : Nat) : Int) from rfl, show ((1 : Int)) = ((1 : Nat) : Int) from rfl, i0, i1, List.map_cons, List.map_nil, d7, pvs_cons, pvs_nil, Option.map_some, List.length_cons, List.length_nil, show szOk (0 + 1 + 1) = true from rfl, ite_true, dY]
    cases (figOf (ws.getD 0 "")).isSome <;> simp
  have no : ∀ {D : Ws}, (figOf (ws.getD 0 "") = none ∨ ynOf (ws.getD 1 "") = none) → D.r (.pv .none) S1 → ∀ B, (dSeq (dIfS (dOrT (dTst (d2 opNe (dCall (b1 fLen) (dCons (dNm 1) dNil)) (dC (.int 6)))) (dOrT (dTst (d2 opNotIn (dIx (dNm 1) (dC (.int 0))) (dC (.tuple ((["0", "1", "2", "3", "4", "5", "6"] : List Str).map .str))))) (dTst (d2 opNotIn (dIx (dNm 1) (dC (.int 1))) (dTup (dCons (dC (.str "yes")) (dCons (dC (.str "no")) dNil)))))))
      (dRet (dC .none)) dPass) B [some (.pv (.str x)), some (.pv (.list (ws.map .str))), none, none] S1).sat (fun _ _ => False) D := fun {D} hh hr B => by
    refine sat_then (fun ρ S' => False) ?_ (fun _ _ h => h.elim)
    refine sat_yes (by rw [T]; rcases hh with e | e <;> simp only [e, Option.isSome_none, Bool.not_false, Bool.true_or, Bool.or_true]) ?_
    rw [ap_Ret, sat_s, ap_C, sat_ok, sat_ret]
    exact hr
  cases hf : figOf (ws.getD 0 "") with
  | none => exact no (.inl hf) (by show leave S1.length (.pv .none) S1 = _; rw [leave_pv]; simp [eRowO]) _
  | some n =>
    cases hy : ynOf (ws.getD 1 "") with
    | none => exact no (.inr hy) (by show leave S1.length (.pv .none) S1 = _; rw [leave_pv]; simp [eRowO]) _
    | some b =>
      obtain ⟨h7, hd⟩ := figOf_some hf
      refine sat_then (fun ρ S' => S' = S1 ∧ ρ = [some (.pv (.str x)), some (.pv (.list (ws.map .str))), none, none]) ?_ ?_
      · refine sat_no (T.trans (by rw [hf, hy]; rfl)) ⟨rfl, rfl⟩
      rintro ρ S2 ⟨rfl, rfl⟩
      have sl : slOf (some 2) none (.list (ws.map .str)) = some (.list ((ws.drop 2).map .str)) := by
        have := cut_hiL (xs := ws.map PyData.str) (r := 2) (by simp [h6])
        rw [List.map_drop]
        exact this
      have lc := lc_gen' (g := gN 3) (T := dYes) (A := dCall F_p_move_of (dCons (dNm 3) dNil)) (ρ := wipeE [some (.pv (.str x)), some (.pv (.list (ws.map .str))), none, none] [3]) (S := S2)
        (val := fun w : Str => Val.pv (.str w)) (keep := fun _ => true) (out := fun w => eMvO (mvOf w)) (ws.drop 2) (xs := ((ws.drop 2).map PyData.str).map .pv) (by rw [List.map_map]; rfl) (fun w hw => ⟨_, rfl, rfl, fun _ => by
          have hw' := hp w (List.mem_of_mem_drop hw)
          simp [wipeE, e_move_any (w := w) hw'.1 (by omega)]⟩) (by simp [h6])
      rw [fil_true] at lc
      have ft : b1 fTuple [.pv (.list ((ws.drop 2).map fun w => eMvO (mvOf w)))] S2 = .ok (.pv (.tuple ((ws.drop 2).map fun w => eMvO (mvOf w)))) S2 := rfl
      have fi := dg_fint (n := n) (S := S2) h7
      rw [← hd] at fi
      have qy : opEq (.str (ws.getD 1 "")) (.str "yes") = some (.bool b) := by
        rw [eq_of (sh_s (d := 0) o1) sh_yes (by decide)]
        show some (PyData.bool (ws.getD 1 "" == ("yes" : Str))) = _
        rw [ynOf_yes hy]
      refine sat_then (fun ρ S' => S' = S2 ∧ ρ = [some (.pv (.str x)), some (.pv (.list (ws.map .str))), some (.pv (.tuple [.int (n : Nat), .bool b, .tuple ((ws.drop 2).map fun w => eMvO (mvOf w))])), none]) ?_ ?_
      · rw [ap_Set, sat_s]
        simp only [ap_Tup, ap_Cons, ap_Call, ap_Ix, ap_d2, ap_Lc, ap_Items, ap_Sl, ap_Pt, ap_No, ap_C, ap_Nm, ap_Nil, List.getElem?_cons_zero, List.getElem?_cons_succ, Res.bind_ok, show ((0 : Int)) = ((0 : Nat) : Int) from rfl, show ((1 : Int)) = ((1 : Nat) : Int) from rfl, i0, i1, fi, l2_pv, qy, intOf, sl_pv, sl, itemsOf, lc, ft, pvs_cons, pvs_nil, Option.map_some, List.length_cons, List.length_nil, show szOk (0 + 1 + 1 + 1) = true from rfl, ite_true, sat_ok, sat_next, List.set_cons_succ, List.set_cons_zero]
        first | trivial | exact ⟨rfl, rfl⟩
      rintro ρ S3 ⟨rfl, rfl⟩
      have sr : Sh 3 (.tuple [.int (n : Nat), .bool b, .tuple ((ws.drop 2).map fun w => eMvO (mvOf w))]) := sh_rw fun m hm => by
        obtain ⟨w, _, rfl⟩ := List.mem_map.mp hm
        exact sh_mvO
      have er := e_row (n := 6) (S := S3) sr.1 (Nat.le_trans sr.2 (by decide))
      rw [row_shape h7 h6] at er
      rw [ap_Ret, sat_s]
      simp only [ap_If, ap_Tst, ap_Call, ap_Cons, ap_C, ap_Nm, ap_Nil, List.getElem?_cons_zero, List.getElem?_cons_succ, Res.bind_ok, er, bl_pv]
      unfold mvsOf
      cases hall : ((ws.drop 2).all fun w => (mvOf w).isSome) with
      | true =>
        have hm := mvs_map hall
        simp only [ite_true, ap_Nm, List.getElem?_cons_zero, List.getElem?_cons_succ, sat_ok, sat_ret, leave_pv]
        simp [eRowO, eRow, hm]
      | false =>
        simp only [Bool.false_eq_true, ite_false, ap_C, sat_ok, sat_ret, leave_pv]
        simp [eRowO]

end Law
set_option maxHeartbeats 4000000
namespace Law
open PySem PySem.Spec PyProof.Rows L2 L2H LamX Mi
theorem split_ne (x y : Str) : Txt.split x y ≠ [] := by
  unfold Txt.split
  split
  · simp
  · split
    · simp
    · rw [PySem.StrLaws.partsBetween_eq]
      obtain ⟨p, q, e⟩ := PySem.StrLaws.partsFrom_ne x y.length 0 (Builtin.Str.occurrences x y 0 x.length (x.length + 1))
      rw [e]; simp
def lateOf (x : Str) : Option Nat := (List.range 3).find? fun d => lateS d == x
def eLateO : Option Nat → PyData
  | some d => .int (d : Nat)
  | none => .none
theorem lateOf_some {x : Str} {d : Nat} (h : lateOf x = some d) : d < 3 ∧ x = lateS d := by
  unfold lateOf at h
  have h1 := List.find?_some h
  have h2 := List.mem_of_find?_eq_some h
  exact ⟨List.mem_range.mp h2, (beq_iff_eq.mp h1).symm⟩
theorem lateOf_none {x : Str} (h : lateOf x = none) (d : Nat) (hd : d < 3) : (lateS d == x) = false := by
  have := List.find?_eq_none.mp h d (List.mem_range.mpr hd)
  simpa using this
theorem anyL (x : Str) : (fgL.any fun z => z == x) = (lateOf x).isSome := by
  cases h : lateOf x with
  | some d =>
    obtain ⟨h1, rfl⟩ := lateOf_some h
    exact (late_in d (List.mem_range.mpr h1)).1
  | none =>
    have e : ∀ d ∈ List.range 3, fgL.getD d "" = lateS d := by decide +kernel
    have e0 := e 0 (by decide); have e1 := e 1 (by decide); have e2 := e 2 (by decide)
    show (fgL.getD 0 "" == x || (fgL.getD 1 "" == x || (fgL.getD 2 "" == x || false))) = false
    rw [e0, e1, e2, lateOf_none h 0 (by decide), lateOf_none h 1 (by decide), lateOf_none h 2 (by decide)]; rfl
theorem e_late_any {x : Str} {S : Sto} (hx : PyData.strOk x = true) : F_p_late_of [.pv (.str x)] S = .ok (.pv (eLateO (lateOf x))) S := by
  cases h : lateOf x with
  | some d =>
    obtain ⟨h1, rfl⟩ := lateOf_some h
    exact e_late h1
  | none =>
    have oi : opIn (.str x) (.tuple [.str "late 0", .str "late 1", .str "late 2"]) = some (.bool (fgL.any fun z => z == x)) := in_tupS fg_ok.2.2.2 hx
    rw [anyL, h] at oi
    unfold F_p_late_of dFun
    simp [l2_pv, oi, eLateO]
theorem ix_late {d : Nat} {S : Sto} (h : d < 3) : liftIx (.pv (.str (lateS d))) (.pv (.int (-1))) S = .ok (.pv (.str (dg d))) S := by
  have hm := List.mem_range.mpr h
  obtain ⟨l1, _, _, l4⟩ := late_ok d hm
  obtain ⟨q1, q2⟩ := late_in d hm
  have ix : ixOf (.str (lateS d)) (.int (-1)) = some (.str (dg d)) := by
    have z : szOk (lateS d).length = true := sz_le l1 (by decide)
    show (if szOk (lateS d).length = true then (atI (lateS d).cps.toList (-1)).map fun c => PyData.str ⟨#[c]⟩ else none) = _
    rw [if_pos z]
    cases hq : atI (lateS d).cps.toList (-1) with
    | none => rw [hq] at q2; simp at q2
    | some c => rw [hq] at q2; simp at q2; rw [← q2]; rfl
  rw [ix_pv, ix]
def lineD (x : Str) : PyData := match lateOf x with
  | some d => .int (d : Nat)
  | none => eRowO (rowOf x)
theorem ng1 : ∀ ρ S, dNeg (dC (.int 1)) ρ S = .ok (.pv (.int (-1))) S := fun ρ S => rfl
theorem e_line_any {x : Str} {S : Sto} (h : Ln x) : F_law_line_of [.pv (.str x)] S = .ok (.pv (lineD x)) S := by
  obtain ⟨hn, hp⟩ := h.split (y := " ") sep_ok.1
  have fs := (fs_any h).1
  have oi : opIn (.str x) (.list [.str "late 0", .str "late 1", .str "late 2"]) = some (.bool (fgL.any fun z => z == x)) := in_lstS fg_ok.2.2.2 h.1
  rw [anyL] at oi
  unfold F_law_line_of lineD
  refine sat_eqf rfl ?_
  simp only [List.map_cons, List.map_nil, List.replicate, List.cons_append, List.nil_append, Nat.reduceSub]
  cases hl : lateOf x with
  | some d =>
    obtain ⟨h1, rfl⟩ := lateOf_some hl
    rw [hl] at oi
    refine sat_then (fun ρ S' => False) ?_ (fun _ _ h => h.elim)
    refine sat_yes (by simp only [ap_Tst, ap_d2, ap_Lst, ap_Cons, ap_C, ap_Nm, ap_Nil, List.getElem?_cons_zero, Res.bind_ok, pvs_cons, pvs_nil, Option.map_some, List.length_cons, List.length_nil, show szOk (0 + 1 + 1 + 1) = true from rfl, ite_true, l2_pv, oi, bl_pv, Option.isSome_some]) ?_
    rw [ap_Ret, sat_s]
    simp only [ap_Call, ap_Cons, ap_Ix, ap_Nm, ap_Nil, ng1, List.getElem?_cons_zero, Res.bind_ok, ix_late h1, dg_fint (n := d) (S := S) (by omega), sat_ok, sat_ret]
    show leave S.length (.pv (.int (d : Nat))) S = _
    rw [leave_pv]; simp
  | none =>
  rw [hl] at oi
  refine sat_then (fun ρ S' => S' = S ∧ ρ = [some (.pv (.str x)), none, none, none, none]) ?_ ?_
  · refine sat_no (by simp only [ap_Tst, ap_d2, ap_Lst, ap_Cons, ap_C, ap_Nm, ap_Nil, List.getElem?_cons_zero, Res.bind_ok, pvs_cons, pvs_nil, Option.map_some, List.length_cons, List.length_nil, show szOk (0 + 1 + 1 + 1) = true from rfl, ite_true, l2_pv, oi, bl_pv, Option.isSome_none]) ⟨rfl, rfl⟩
  rintro ρ S0 ⟨rfl, rfl⟩
  refine sat_then (fun ρ S' => S' = S0 ∧ ρ = [some (.pv (.str x)), some (.pv (.list ((Txt.split x " ").map .str))), none, none, none]) ?_ ?_
  · rw [ap_Set, sat_s]
    simp only [dM1, ap_Nm, ap_C, List.getElem?_cons_zero, Res.bind_ok, fs, sat_ok, sat_next, List.set_cons_succ, List.set_cons_zero]
    first | trivial | exact ⟨rfl, rfl⟩
  rintro ρ S1 ⟨rfl, rfl⟩
  unfold rowOf
  generalize hws : Txt.split x " " = ws at hn hp ⊢
  have ln : b1 fLen [.pv (.list (ws.map .str))] S1 = .ok (.pv (.int (ws.length : Nat))) S1 := by simp [b1_pv, fLen]
  have n6 : opNe (.int (ws.length : Nat)) (.int 6) = some (.bool (!decide (ws.length = 6))) := by
    rw [opNe_int]
    by_cases h6 : ws.length = 6
    · simp [h6]
    · have : ((ws.length : Int) == 6) = false := by simp; omega
      simp [h6, this]
  by_cases h6 : ¬ ws.length = 6
  · rw [if_neg h6]
    have n6' := n6
    rw [decide_eq_false h6] at n6'
    refine sat_then (fun ρ S' => False) ?_ (fun _ _ h => h.elim)
    refine sat_yes (by simp only [ap_OrT, ap_Tst, ap_d2, ap_Call, ap_Cons, ap_C, ap_Nm, ap_Nil, List.getElem?_cons_zero, List.getElem?_cons_succ, Res.bind_ok, ln, l2_pv, n6', bl_pv, Bool.not_false, ite_true]) ?_
    rw [ap_Ret, sat_s, ap_C, sat_ok, sat_ret]
    show leave S1.length (.pv .none) S1 = _
    rw [leave_pv]
    simp [eRowO]
  replace h6 : ws.length = 6 := Decidable.not_not.mp h6
  rw [if_pos h6]
  rw [decide_eq_true h6] at n6
  obtain ⟨o0, g0⟩ := getD_ok hp 0 (by omega)
  obtain ⟨o1, g1⟩ := getD_ok hp 1 (by omega)
  have i0 := ix_str (S := S1) g0
  have i1 := ix_str (S := S1) g1
  have d7 : opNotIn (.str (ws.getD 0 "")) (.list [.str "0", .str "1", .str "2", .str "3", .str "4", .str "5", .str "6"]) = some (.bool (!fg7.any fun z => z == ws.getD 0 "")) := notin_lstS fg_ok.1 o0
  have dY : opNotIn (.str (ws.getD 1 "")) (.list [.str "yes", .str "no"]) = some (.bool (!fgY.any fun z => z == ws.getD 1 "")) := notin_lstS fg_ok.2.2.1 o1
  rw [any7] at d7
  rw [anyY] at dY
  have T : ((dOrT (dTst (d2 opNe (dCall (b1 fLen) (dCons (dNm 1) dNil)) (dC (.int 6)))) (dOrT (dTst (d2 opNotIn (dIx (dNm 1) (dC (.int 0))) (dLst (dCons (dC (.str "0")) (dCons (dC (.str "1")) (dCons (dC (.str "2")) (dCons (dC (.str "3")) (dCons (dC (.str "4")) (dCons (dC (.str "5")) (dCons (dC (.str "6")) dNil)))))))))) (dTst (d2 opNotIn (dIx (dNm 1) (dC (.int 1))) (dLst (dCons (dC (.str "yes")) (dCons (dC (.str "no")) dNil))))))))
      [some (.pv (.str x)), some (.pv (.list (ws.map .str))), none, none, none] S1 = .ok (!(figOf (ws.getD 0 "")).isSome || !(ynOf (ws.getD 1 "")).isSome) S1 := by
    simp only [ap_OrT, ap_Tst, ap_d2, ap_Ix, ap_Lst, ap_Call, ap_Cons, ap_C, ap_Nm, ap_Nil, List.getElem?_cons_zero, List.getElem?_cons_succ, Res.bind_ok, ln, l2_pv, n6, bl_pv, Bool.not_true, Bool.false_eq_true, ite_false, show ((0 : Int)) = ((0 : Nat) : Int) from rfl, show ((1 : Int)) = ((1 : Nat) : Int) from rfl, i0, i1, List.map_cons, List.map_nil, d7, pvs_cons, pvs_nil, Option.map_some, List.length_cons, List.length_nil, show szOk (0 + 1 + 1) = true from rfl, show szOk (0 + 1 + 1 + 1 + 1 + 1 + 1 + 1) = true from rfl, ite_true, dY]
    cases (figOf (ws.getD 0 "")).isSome <;> simp
  have no : ∀ {v : PyData} (C : DS), (figOf (ws.getD 0 "") = none ∨ ynOf (ws.getD 1 "") = none) → v = .none →
      (dIfS (dOrT (dTst (d2 opNe (dCall (b1 fLen) (dCons (dNm 1) dNil)) (dC (.int 6)))) (dOrT (dTst (d2 opNotIn (dIx (dNm 1) (dC (.int 0))) (dLst (dCons (dC (.str "0")) (dCons (dC (.str "1")) (dCons (dC (.str "2")) (dCons (dC (.str "3")) (dCons (dC (.str "4")) (dCons (dC (.str "5")) (dCons (dC (.str "6")) dNil)))))))))) (dTst (d2 opNotIn (dIx (dNm 1) (dC (.int 1))) (dLst (dCons (dC (.str "yes")) (dCons (dC (.str "no")) dNil)))))))
      (dRet (dC .none)) dPass [some (.pv (.str x)), some (.pv (.list (ws.map .str))), none, none, none] S1).sat (fun _ _ => False)
      { n := fun _ _ => False, r := fun x S1_1 => leave S1.length x S1_1 = .ok (.pv v) S1 } := fun {v} C hh hv => by
    refine sat_yes (by rw [T]; rcases hh with e | e <;> simp only [e, Option.isSome_none, Bool.not_false, Bool.true_or, Bool.or_true]) ?_
    rw [ap_Ret, sat_s, ap_C, sat_ok, sat_ret, hv]
    show leave S1.length (.pv .none) S1 = _
    rw [leave_pv]; simp
  cases hf : figOf (ws.getD 0 "") with
  | none =>
    refine sat_then (fun ρ S' => False) ?_ (fun _ _ h => h.elim)
    exact no dPass (.inl hf) (by simp [eRowO])
  | some n =>
  cases hy : ynOf (ws.getD 1 "") with
  | none =>
    refine sat_then (fun ρ S' => False) ?_ (fun _ _ h => h.elim)
    exact no dPass (.inr hy) (by simp [eRowO])
  | some b =>
  obtain ⟨h7, hd⟩ := figOf_some hf
  refine sat_then (fun ρ S' => S' = S1 ∧ ρ = [some (.pv (.str x)), some (.pv (.list (ws.map .str))), none, none, none]) ?_ ?_
  · refine sat_no (T.trans (by rw [hf, hy]; rfl)) ⟨rfl, rfl⟩
  rintro ρ S2 ⟨rfl, rfl⟩
  have sl : slOf (some 2) none (.list (ws.map .str)) = some (.list ((ws.drop 2).map .str)) := by
    have := cut_hiL (xs := ws.map PyData.str) (r := 2) (by simp [h6])
    rw [List.map_drop]
    exact this
  refine sat_then (fun ρ S' => S' = S2 ∧ ρ = [some (.pv (.str x)), some (.pv (.list (ws.map .str))), some (.pv (.tuple [])), none, none]) ?_ ?_
  · rw [ap_Set, sat_s]
    simp only [ap_Tup, ap_Nil, Res.bind_ok, pvs_nil, Option.map_some, List.length_nil, show szOk 0 = true from rfl, ite_true, sat_ok, sat_next, List.set_cons_succ, List.set_cons_zero]
    first | trivial | exact ⟨rfl, rfl⟩
  rintro ρ S3 ⟨rfl, rfl⟩
  have hu4 : (ws.drop 2).length = 4 := by simp [h6]
  have hpu : ∀ p ∈ ws.drop 2, PyData.strOk p = true ∧ p.length ≤ 90001 := fun p hh => hp p (List.mem_of_mem_drop hh)
  unfold mvsOf
  generalize hus : ws.drop 2 = us at sl hu4 hpu ⊢
  refine sat_then (fun ρ S' => S' = S3 ∧ (us.all fun w => (mvOf w).isSome) = true ∧ ∃ y3 y4, ρ = [some (.pv (.str x)), some (.pv (.list (ws.map .str))), some (.pv (.tuple ((us.filterMap mvOf).map eMv))), y3, y4]) ?_ ?_
  · rw [ap_For, sat_s, ap_Items, sat_bind]
    simp only [ap_Sl, ap_Pt, ap_No, ap_C, ap_Nm, List.getElem?_cons_zero, List.getElem?_cons_succ, Res.bind_ok, intOf, sl_pv, sl, itemsOf, sat_ok]
    refine for_inv (I := fun i ρ S' => S' = S3 ∧ ((us.take i).all fun w => (mvOf w).isSome) = true ∧ ∃ y3 y4, ρ = [some (.pv (.str x)), some (.pv (.list (ws.map .str))), some (.pv (.tuple (((us.take i).filterMap mvOf).map eMv))), y3, y4])
      ⟨rfl, rfl, none, none, rfl⟩ (fun i v ρ S' hx ⟨e1, e2, y3, y4, e3⟩ => ?_) (fun ρ S' ⟨h1, h2, h3⟩ => ?_)
    · subst e1 e3
      rw [List.map_map, List.getElem?_map] at hx
      obtain ⟨w, hw, rfl⟩ := Option.map_eq_some_iff.mp hx
      have hwm := hpu w (List.mem_of_getElem? hw)
      have hb := so_bare hwm.1
      refine ⟨[some (.pv (.str x)), some (.pv (.list (ws.map .str))), some (.pv (.tuple (((us.take i).filterMap mvOf).map eMv))), some (.pv (.str w)), y4], rfl, ?_⟩
      refine sat_then (fun ρ S'' => S'' = S' ∧ ρ = [some (.pv (.str x)), some (.pv (.list (ws.map .str))), some (.pv (.tuple (((us.take i).filterMap mvOf).map eMv))), some (.pv (.str w)), some (.pv (.str (bareS w)))]) ?_ ?_
      · rw [ap_Set, sat_s, e_bare (w := w) rfl hwm.1 (by omega), sat_ok, sat_next]; exact ⟨rfl, rfl⟩
      rintro ρ S4 ⟨rfl, rfl⟩
      have d6 : opNotIn (.str (bareS w)) (.list [.str "0", .str "1", .str "2", .str "3", .str "4", .str "5"]) = some (.bool (!fg6.any fun z => z == bareS w)) := notin_lstS fg_ok.2.1 hb
      rw [any6] at d6
      have ne : opNe (.str (bareS w)) (.str w) = some (.bool (!(bareS w == w))) := ne_of (sh_s (d := 0) hb) (sh_s hwm.1) (by decide)
      have tk : us.take (i + 1) = us.take i ++ [w] := by rw [List.take_succ, hw]; rfl
      have tz : ((us.take i).filterMap mvOf).length ≤ 4 := Nat.le_trans (List.length_filterMap_le _ _) (by simp; omega)
      cases hm : mvOf w with
      | none =>
        have hbad : (us.all fun w => (mvOf w).isSome) = false := by
          rw [List.all_eq_false]
          exact ⟨w, List.mem_of_getElem? hw, by simp [hm]⟩
        have hq : lt6 (figOf (bareS w)) = false := by
          unfold mvOf at hm
          cases hg : figOf (bareS w) with
          | none => rfl
          | some n =>
            rw [hg] at hm
            by_cases h6 : n < 6
            · simp [h6] at hm
            · simp [lt6, h6]
        rw [hq] at d6
        refine sat_then (fun ρ S' => False) ?_ (fun _ _ h => h.elim)
        refine sat_yes (by simp only [ap_Tst, ap_d2, ap_Lst, ap_Cons, ap_C, ap_Nm, ap_Nil, List.getElem?_cons_zero, List.getElem?_cons_succ, Res.bind_ok, pvs_cons, pvs_nil, Option.map_some, List.length_cons, List.length_nil, show szOk (0 + 1 + 1 + 1 + 1 + 1 + 1) = true from rfl, ite_true, l2_pv, d6, bl_pv, Bool.not_false]) ?_
        rw [ap_Ret, sat_s, ap_C, sat_ok, sat_ret]
        show leave S4.length (.pv .none) S4 = _
        rw [leave_pv]
        simp only [hbad, Bool.false_eq_true, ite_false]
        simp [eRowO]
      | some m =>
        have hq : ∃ n, figOf (bareS w) = some n ∧ n < 6 ∧ m = (n, !(w == bareS w)) := by
          unfold mvOf at hm
          cases hg : figOf (bareS w) with
          | none => rw [hg] at hm; cases hm
          | some n =>
            rw [hg] at hm
            by_cases h6 : n < 6
            · simp only [h6, ite_true, Option.some.injEq] at hm
              exact ⟨n, rfl, h6, hm.symm⟩
            · simp [h6] at hm
        obtain ⟨k, hk, k6, rfl⟩ := hq
        obtain ⟨_, hkd⟩ := figOf_some hk
        have fi := dg_fint (n := k) (S := S4) (by omega)
        rw [← hkd] at fi
        rw [hk] at d6
        simp only [lt6, k6, decide_true, Bool.not_true] at d6
        refine sat_then (fun ρ S'' => S'' = S4 ∧ ρ = [some (.pv (.str x)), some (.pv (.list (ws.map .str))), some (.pv (.tuple (((us.take i).filterMap mvOf).map eMv))), some (.pv (.str w)), some (.pv (.str (bareS w)))]) ?_ ?_
        · refine sat_no (by simp only [ap_Tst, ap_d2, ap_Lst, ap_Cons, ap_C, ap_Nm, ap_Nil, List.getElem?_cons_zero, List.getElem?_cons_succ, Res.bind_ok, pvs_cons, pvs_nil, Option.map_some, List.length_cons, List.length_nil, show szOk (0 + 1 + 1 + 1 + 1 + 1 + 1) = true from rfl, ite_true, l2_pv, d6, bl_pv]) ⟨rfl, rfl⟩
        rintro ρ S5 ⟨rfl, rfl⟩
        have hc : (bareS w == w) = (w == bareS w) := BEq.comm
        have ad : opAdd (.tuple (((us.take i).filterMap mvOf).map eMv)) (.tuple [.tuple [.int (k : Nat), .bool (!(bareS w == w))]]) = some (.tuple (((us.take (i + 1)).filterMap mvOf).map eMv)) := by
          have z : szOk ((((us.take i).filterMap mvOf).map eMv).length + [PyData.tuple [.int (k : Nat), .bool (!(bareS w == w))]].length) = true := decide_eq_true (by simp only [List.length_map, List.length_cons, List.length_nil]; omega)
          show (if szOk ((((us.take i).filterMap mvOf).map eMv).length + [PyData.tuple [.int (k : Nat), .bool (!(bareS w == w))]].length) = true then some (PyData.tuple (((us.take i).filterMap mvOf).map eMv ++ [PyData.tuple [.int (k : Nat), .bool (!(bareS w == w))]])) else none) = _
          rw [if_pos z, tk, List.filterMap_append, List.map_append, hc]
          simp [List.filterMap_cons, hm, eMv]
        rw [ap_Set, sat_s]
        simp only [ap_d2, ap_Tup, ap_Cons, ap_Call, ap_Nm, ap_Nil, List.getElem?_cons_zero, List.getElem?_cons_succ, Res.bind_ok, fi, l2_pv, ne, pvs_cons, pvs_nil, Option.map_some, List.length_cons, List.length_nil, show szOk (0 + 1) = true from rfl, show szOk (0 + 1 + 1) = true from rfl, ite_true, ad, sat_ok, sat_next, List.set_cons_succ, List.set_cons_zero]
        refine ⟨trivial, ?_, _, _, rfl⟩
        rw [tk, List.all_append, e2]
        simp [hm]
    · have el : (us.map PyData.str |>.map Val.pv).length = us.length := by simp
      rw [el, List.take_length] at h2 h3
      exact ⟨h1, h2, h3⟩
  rintro ρ S4 ⟨rfl, hall, y3, y4, rfl⟩
  have i0 := ix_str (S := S4) g0
  have i1 := ix_str (S := S4) g1
  have fi := dg_fint (n := n) (S := S4) h7
  rw [← hd] at fi
  have qy : opEq (.str (ws.getD 1 "")) (.str "yes") = some (.bool b) := by
    rw [eq_of (sh_s (d := 0) o1) sh_yes (by decide)]
    show some (PyData.bool (ws.getD 1 "" == ("yes" : Str))) = _
    rw [ynOf_yes hy]
  rw [ap_Ret, sat_s]
  simp only [ap_Tup, ap_Cons, ap_Call, ap_Ix, ap_d2, ap_C, ap_Nm, ap_Nil, List.getElem?_cons_zero, List.getElem?_cons_succ, Res.bind_ok, show ((0 : Int)) = ((0 : Nat) : Int) from rfl, show ((1 : Int)) = ((1 : Nat) : Int) from rfl, i0, i1, fi, l2_pv, qy, pvs_cons, pvs_nil, Option.map_some, List.length_cons, List.length_nil, show szOk (0 + 1 + 1 + 1) = true from rfl, ite_true, hall, sat_ok, sat_ret, leave_pv]
  simp [eRowO, eRow]

end Law
set_option maxHeartbeats 4000000
namespace Law
open PySem PySem.Spec PyProof.Rows L2 L2H LamX Mi
def badL (x : Str) : Bool := (lateOf x).isNone && (rowOf x).isNone
def stD (ls : List Str) : PyData := .tuple [eLateO (lateOf (ls.getD 0 "")), .tuple ((ls.drop 1).map fun l => eRowO (rowOf l))]
def stL (ls : List Str) : PyData := .tuple [lineD (ls.getD 0 ""), .tuple ((ls.drop 1).map lineD)]
def resL (ls : List Str) : PyData := match ls.findIdx? badL with
  | some i => .int ((i + 1 : Nat) : Int)
  | none => if pStage (stD ls) = true then stD ls else .int ((ls.length + 1 : Nat) : Int)
theorem late_norow : ∀ d ∈ List.range 3, (Txt.split (lateS d) " ").length = 2 := by decide +kernel
theorem rowOf_late {x : Str} {d : Nat} (h : lateOf x = some d) : rowOf x = none := by
  obtain ⟨h1, rfl⟩ := lateOf_some h
  have := late_norow d (List.mem_range.mpr h1)
  unfold rowOf
  rw [if_neg (by omega)]
theorem lineD_row {x : Str} (h : lateOf x = none) : lineD x = eRowO (rowOf x) := by unfold lineD; rw [h]
theorem isW_line (x : Str) : pIsW (lineD x) 0 2 = pIsW (eLateO (lateOf x)) 0 2 := by
  unfold lineD
  cases h : lateOf x with
  | some d => rfl
  | none => cases rowOf x <;> rfl
theorem pRow_lines {ls : List Str} {n : Int} (h : ∃ l ∈ ls, lateOf l ≠ none) : ((ls.map lineD).all fun r => pRow r n) = false ∧ ((ls.map fun l => eRowO (rowOf l)).all fun r => pRow r n) = false := by
  obtain ⟨l, hl, hn⟩ := h
  obtain ⟨d, hd⟩ := Option.ne_none_iff_exists'.mp hn
  constructor
  · rw [List.all_eq_false]
    exact ⟨lineD l, List.mem_map.mpr ⟨l, hl, rfl⟩, by unfold lineD; rw [hd]; simp [pRow]⟩
  · rw [List.all_eq_false]
    exact ⟨eRowO (rowOf l), List.mem_map.mpr ⟨l, hl, rfl⟩, by rw [rowOf_late hd]; simp [eRowO, pRow]⟩
theorem pst_eq (ls : List Str) : pStage (stL ls) = pStage (stD ls) ∧ (pStage (stD ls) = true → stL ls = stD ls) := by
  by_cases h : ∃ l ∈ ls.drop 1, lateOf l ≠ none
  · obtain ⟨h1, h2⟩ := pRow_lines (n := ((ls.drop 1).length : Nat)) h
    have e1 : pStage (stL ls) = false := by
      simp only [pStage, stL, List.length_map, h1, Bool.and_false, Bool.false_and]
    have e2 : pStage (stD ls) = false := by
      simp only [pStage, stD, List.length_map, h2, Bool.and_false, Bool.false_and]
    rw [e1, e2]
    exact ⟨rfl, fun h => by cases h⟩
  · have e : (ls.drop 1).map lineD = (ls.drop 1).map fun l => eRowO (rowOf l) := List.map_congr_left fun l hl => lineD_row (Decidable.byContradiction fun hn => h ⟨l, hl, hn⟩)
    have e1 : pStage (stL ls) = pStage (stD ls) := by simp only [pStage, stL, stD, e, isW_line]
    refine ⟨e1, fun hp => ?_⟩
    unfold stL stD
    rw [e]
    have hw : pIsW (eLateO (lateOf (ls.getD 0 ""))) 0 2 = true := by
      simp only [pStage, stD, Bool.and_eq_true] at hp
      exact hp.1.1.1.1
    cases hl : lateOf (ls.getD 0 "") with
    | some d => unfold lineD; rw [hl]; rfl
    | none => rw [hl] at hw; cases hw
theorem sh_late {o : Option Nat} : Sh 3 (eLateO o) := by
  cases o with
  | none => exact sh_n
  | some d => exact sh_i
theorem sh_rowO {o : Option Row} : Sh 3 (eRowO o) := by
  cases o with
  | none => exact sh_n
  | some r =>
    refine sh_rw fun m hm => ?_
    obtain ⟨w, _, rfl⟩ := List.mem_map.mp hm
    exact sh_mvO (o := some w)
theorem sh_line {x : Str} : Sh 3 (lineD x) := by
  unfold lineD
  cases lateOf x with
  | none => exact sh_rowO
  | some d => exact sh_i
theorem sh_stD (ls : List Str) : Sh 5 (stD ls) := sh_t fun x hx => by
  simp only [List.mem_cons, List.not_mem_nil, or_false] at hx
  rcases hx with rfl | rfl
  · exact sh_late.up (by decide)
  · refine sh_t (d := 3) fun y hy => ?_
    obtain ⟨l, _, rfl⟩ := List.mem_map.mp hy
    exact sh_rowO
theorem sh_stL (ls : List Str) : Sh 5 (stL ls) := sh_t fun x hx => by
  simp only [List.mem_cons, List.not_mem_nil, or_false] at hx
  rcases hx with rfl | rfl
  · exact sh_line.up (by decide)
  · refine sh_t (d := 3) fun y hy => ?_
    obtain ⟨l, _, rfl⟩ := List.mem_map.mp hy
    exact sh_line
theorem sh_res (ls : List Str) : Sh 5 (resL ls) ∧ isB (resL ls) = false := by
  unfold resL
  split
  · exact ⟨sh_i, rfl⟩
  · split
    · exact ⟨sh_stD ls, rfl⟩
    · exact ⟨sh_i, rfl⟩
theorem shp_k {v : PyData} {d : Nat} (h : Sh d v) (hd : d ≤ 60) : v.depth ≤ 60 := Nat.le_trans h.2 hd
/-- the errors' loop of read_stage -/
noncomputable abbrev rdB : DS := dIfS (dAndT (dTst (d2 opIs (dCall F_p_late_of (dCons (dNm 3) dNil)) (dC .none))) (dTst (d2 opIs (dCall F_p_row_of (dCons (dNm 3) dNil)) (dC .none))))
  (dRaiseO "InvalidText" "line" (d2 opAdd (dNm 2) (dC (.int 1)))) dPass
theorem rd_body {x0 x1 : Option Val} {z : Str} {j : Nat} {S : Sto} (h : PyData.strOk z = true ∧ z.length ≤ 90000) :
    rdB [x0, x1, some (.pv (.int (j : Nat))), some (.pv (.str z)), none] S = if badL z = true then .err "InvalidText" (some ("line", .int ((j + 1 : Nat) : Int))) [x0, x1, some (.pv (.int (j : Nat))), some (.pv (.str z)), none] S else .next [x0, x1, some (.pv (.int (j : Nat))), some (.pv (.str z)), none] S := by
  have e1 := e_late_any (S := S) h.1
  have e2 := e_row_any (S := S) (x := z) h
  have q1 : opIs (eLateO (lateOf z)) .none = some (.bool (lateOf z).isNone) := by cases lateOf z <;> rfl
  have q2 : opIs (eRowO (rowOf z)) .none = some (.bool (rowOf z).isNone) := by cases rowOf z <;> rfl
  unfold badL
  simp only [ap_IfS, ap_AndT, ap_Tst, ap_d2, ap_Call, ap_Cons, ap_C, ap_Nm, ap_Nil, List.getElem?_cons_zero, List.getElem?_cons_succ, Res.bind_ok, e1, e2, l2_pv, q1, q2, bl_pv]
  cases (lateOf z).isNone <;> cases (rowOf z).isNone <;> simp [l2_pv, opAdd]
theorem rd_loop {x0 x1 : Option Val} {S : Sto} : ∀ (zs : List (Str × Nat)) (y2 y3 : Option Val), (∀ z ∈ zs, PyData.strOk z.1 = true ∧ z.1.length ≤ 90000) →
    (∀ z, (zs.find? fun z => badL z.1) = some z → ∃ ρ : En, ρ.length = 5 ∧ loopF (gT [gN 2, gN 3]) rdB (zs.map fun z => enumP z.2 (.str z.1)) [x0, x1, y2, y3, none] S = .err "InvalidText" (some ("line", .int ((z.2 + 1 : Nat) : Int))) ρ S) ∧
    ((zs.find? fun z => badL z.1) = none → ∃ u2 u3, loopF (gT [gN 2, gN 3]) rdB (zs.map fun z => enumP z.2 (.str z.1)) [x0, x1, y2, y3, none] S = .next [x0, x1, u2, u3, none] S)
  | [], y2, y3, _ => ⟨fun z h => by simp at h, fun _ => ⟨y2, y3, rfl⟩⟩
  | (z, j) :: zs, y2, y3, h => by
    have hz := h (z, j) List.mem_cons_self
    have ih := rd_loop (x0 := x0) (x1 := x1) (S := S) zs (some (.pv (.int (j : Nat)))) (some (.pv (.str z))) fun y hy => h y (List.mem_cons_of_mem _ hy)
    have g : gT [gN 2, gN 3] (enumP j (.str z)) [x0, x1, y2, y3, none] = some [x0, x1, some (.pv (.int (j : Nat))), some (.pv (.str z)), none] := by
      rw [enumP, gT_ap, go_cons, ap_gN, Option.bind_some, go_cons, ap_gN, Option.bind_some, go_nil]; rfl
    have b := rd_body (x0 := x0) (x1 := x1) (j := j) (S := S) hz
    cases hb : badL z with
    | true =>
      rw [hb, if_pos rfl] at b
      simp only [List.find?_cons, hb, List.map_cons, loopF, g, b]
      refine ⟨fun z' h => ?_, fun h => by cases h⟩
      cases h
      exact ⟨_, rfl, rfl⟩
    | false =>
      rw [hb, if_neg (by decide)] at b
      simp only [List.find?_cons, hb, List.map_cons, loopF, g, b]
      exact ih
theorem find_zip {ls : List Str} : ∀ {k : Nat}, (ls.zipIdx k).find? (fun z => badL z.1) = (match ls.findIdx? badL with | some i => some (ls.getD i "", i + k) | none => none) := by
  induction ls with
  | nil => intro k; rfl
  | cons a r ih =>
    intro k
    rw [List.zipIdx_cons, List.find?_cons, List.findIdx?_cons]
    cases hb : badL a with
    | true => simp
    | false =>
      simp only [Bool.false_eq_true, ite_false, ih (k := k + 1)]
      cases r.findIdx? badL with
      | none => rfl
      | some i => simp; omega
theorem nx_next {ρ : En} {S : Sto} {k : En → Sto → SR} : (SR.next ρ S).next? k = k ρ S := rfl
theorem e_read_so {x : Str} {S : Sto} (h : PyData.strOk x = true ∧ x.length ≤ 89000) : F_law_read_so [.pv (.str x)] S = .ok (.pv (resL (Txt.split x "\n"))) S := by
  have hL : Ln x := ⟨h.1, by have := h.2; omega⟩
  obtain ⟨hn, hp⟩ := len_split (x := x) (y := "\n") sep_ok.2.1
  have hs := so_split (y := "\n") h.1
  have hne := split_ne x "\n"
  have fs := (fs_any hL).2
  have is : isiF "str" (.pv (.str x)) S = .ok (.pv (.bool true)) S := by simp [isiF, tyName, isTy]
  generalize hls : Txt.split x "\n" = ls at *
  have hz : ∀ z ∈ ls, PyData.strOk z = true ∧ z.length ≤ 90000 := fun z hz => ⟨hs z hz, by have := hp z hz; have := h.2; omega⟩
  have h1 : dIfS (dNotT (dTst (dIsi "str" (dNm 0)))) (dRaiseO "InvalidText" "line" (dC (.int 0))) dPass [some (.pv (.str x)), none, none, none, none] S = .next [some (.pv (.str x)), none, none, none, none] S := by
    simp only [ap_IfS, ap_NotT, ap_Tst, ap_Isi, ap_Nm, List.getElem?_cons_zero, Res.bind_ok, is, bl_pv, Bool.not_true, Res.s_ok, Bool.false_eq_true, ite_false]
    rfl
  have h2 : dSet 1 (dM1 fSplit (dNm 0) (dC (.str "\n"))) [some (.pv (.str x)), none, none, none, none] S = .next [some (.pv (.str x)), some (.pv (.list (ls.map .str))), none, none, none] S := by
    simp only [ap_Set, dM1, ap_Nm, ap_C, List.getElem?_cons_zero, Res.bind_ok, fs, Res.s_ok, List.set_cons_succ, List.set_cons_zero]
  have ps : psOf (.pv (.list (ls.map .str))) = some (ls.map .str) := rfl
  have h3 : dFor (dEnum (dNm 1)) (gT [(gN 2), (gN 3)]) rdB [some (.pv (.str x)), some (.pv (.list (ls.map .str))), none, none, none] S = loopF (gT [(gN 2), (gN 3)]) rdB (ls.zipIdx.map fun z => enumP z.2 (.str z.1)) [some (.pv (.str x)), some (.pv (.list (ls.map .str))), none, none, none] S := by
    rw [ap_For, ap_Enum]
    simp only [ap_Nm, List.getElem?_cons_zero, List.getElem?_cons_succ, Res.bind_ok, ps, Res.s_ok]
    rw [enum_zip, List.zipIdx_map, List.map_map]
    rfl
  have lp := rd_loop (x0 := some (.pv (.str x))) (x1 := some (.pv (.list (ls.map .str)))) (S := S) ls.zipIdx none none fun z hz' => hz z.1 (by
    obtain ⟨a, j⟩ := z
    have := (List.mem_zipIdx hz').2.2
    exact this ▸ List.getElem_mem _)
  rw [find_zip] at lp
  have fin : ∀ {r : Res Val}, F_p_read_stage [.pv (.str x)] S = r → F_law_read_so [.pv (.str x)] S = dEnd S.length (dTryF "InvalidText" "line" 1 (fun _ _ => (match r with | .ok v S1 => .ret v S1 | .err c f S1 => .err c f [some (.pv (.str x)), none] S1 | .bad => .bad)) [some (.pv (.str x)), none] S) := fun {r} e => by
    unfold F_law_read_so dFun dTryF
    simp only [List.length_cons, List.length_nil, ite_true, List.map_cons, List.map_nil, List.replicate, List.cons_append, List.nil_append, Nat.reduceSub, ap_Ret, ap_Call, ap_Cons, ap_Nm, ap_Nil, List.getElem?_cons_zero, Res.bind_ok, e]
    cases r <;> rfl
  have body : F_p_read_stage [.pv (.str x)] S = dEnd S.length ((loopF (gT [(gN 2), (gN 3)]) rdB (ls.zipIdx.map fun z => enumP z.2 (.str z.1)) [some (.pv (.str x)), some (.pv (.list (ls.map .str))), none, none, none] S).next? (dSeq (dSet 4 (dTup (dCons (dCall F_p_late_of (dCons (dIx (dNm 1) (dC (.int 0))) dNil)) (dCons (dCall (b1 fTuple) (dCons (dLc (dItems (dSl (dNm 1) (dPt (dC (.int 1))) dNo)) [3] (gN 3) dYes (dCall F_p_row_of (dCons (dNm 3) dNil))) dNil)) dNil))))
      (dSeq (dIfS (dNotT (dTst (dCall F_p_has_stage (dCons (dNm 4) dNil)))) (dRaiseO "InvalidText" "line" (d2 opAdd (dCall (b1 fLen) (dCons (dNm 1) dNil)) (dC (.int 1)))) dPass) (dRet (dNm 4))))) := by
    unfold F_p_read_stage dFun
    rw [if_pos (show [Val.pv (PyData.str x)].length = 1 from rfl)]
    show dEnd S.length (dSeq _ _ [some (.pv (.str x)), none, none, none, none] S) = _
    rw [ap_Seq, h1, nx_next, ap_Seq, h2, nx_next, ap_Seq, h3]
  unfold resL
  cases hf : ls.findIdx? badL with
  | some i =>
    rw [hf] at lp
    obtain ⟨ρ, hρ, lp⟩ := lp.1 _ rfl
    rw [lp] at body
    have body : F_p_read_stage [.pv (.str x)] S = .err "InvalidText" (some ("line", .int ((i + 0 + 1 : Nat) : Int))) (S.take S.length) := body
    rw [fin body]
    simp [dTryF, dEnd]
  | none =>
    rw [hf] at lp
    obtain ⟨y2, y3, lp⟩ := lp.2 rfl
    rw [lp] at body
    obtain ⟨a, r, rfl⟩ := List.exists_cons_of_ne_nil hne
    have ha := hz a List.mem_cons_self
    have i0 : liftIx (.pv (.list ((a :: r).map .str))) (.pv (.int 0)) S = .ok (.pv (.str a)) S := by rw [ix_pv, ix_lst0]; rfl
    have sl : slOf (some 1) none (.list ((a :: r).map .str)) = some (.list (r.map .str)) := cut_hiL (xs := (a :: r).map PyData.str) (r := 1) (by simp)
    have lc := lc_gen' (g := gN 3) (T := dYes) (A := dCall F_p_row_of (dCons (dNm 3) dNil)) (ρ := wipeE [some (.pv (.str x)), some (.pv (.list ((a :: r).map .str))), y2, y3, none] [3]) (S := S)
      (val := fun w : Str => Val.pv (.str w)) (keep := fun _ => true) (out := fun w => eRowO (rowOf w)) r (xs := (r.map PyData.str).map .pv) (by rw [List.map_map]; rfl) (fun w hw => ⟨_, rfl, rfl, fun _ => by
        have hw' := hz w (List.mem_cons_of_mem _ hw)
        simp [wipeE, e_row_any (x := w) hw']⟩) (by have := h.2; simp only [List.length_cons] at hn; omega)
    rw [fil_true] at lc
    have ft : b1 fTuple [.pv (.list (r.map fun w => eRowO (rowOf w)))] S = .ok (.pv (.tuple (r.map fun w => eRowO (rowOf w)))) S := rfl
    have h4 : dSet 4 (dTup (dCons (dCall F_p_late_of (dCons (dIx (dNm 1) (dC (.int 0))) dNil)) (dCons (dCall (b1 fTuple) (dCons (dLc (dItems (dSl (dNm 1) (dPt (dC (.int 1))) dNo)) [3] (gN 3) dYes (dCall F_p_row_of (dCons (dNm 3) dNil))) dNil)) dNil)))
        [some (.pv (.str x)), some (.pv (.list ((a :: r).map .str))), y2, y3, none] S = .next [some (.pv (.str x)), some (.pv (.list ((a :: r).map .str))), y2, y3, some (.pv (stD (a :: r)))] S := by
      have e1 := e_late_any (S := S) ha.1
      simp only [ap_Set, ap_Tup, ap_Cons, ap_Call, ap_Ix, ap_Lc, ap_Items, ap_Sl, ap_Pt, ap_No, ap_C, ap_Nm, ap_Nil, List.getElem?_cons_zero, List.getElem?_cons_succ, Res.bind_ok, i0, e1, intOf, sl_pv, sl, itemsOf, lc, ft, pvs_cons, pvs_nil, Option.map_some, List.length_cons, List.length_nil, show szOk (0 + 1 + 1) = true from rfl, ite_true, Res.s_ok, List.set_cons_succ, List.set_cons_zero]
      rfl
    have sd := sh_stD (a :: r)
    have eh := e_stage (S := S) sd.1 (shp_k sd (by decide))
    have ln : b1 fLen [.pv (.list ((a :: r).map .str))] S = .ok (.pv (.int ((a :: r).length : Nat))) S := by simp [b1_pv, fLen]
    have body2 : F_p_read_stage [.pv (.str x)] S = dEnd S.length (dSeq (dIfS (dNotT (dTst (dCall F_p_has_stage (dCons (dNm 4) dNil)))) (dRaiseO "InvalidText" "line" (d2 opAdd (dCall (b1 fLen) (dCons (dNm 1) dNil)) (dC (.int 1)))) dPass) (dRet (dNm 4)) [some (.pv (.str x)), some (.pv (.list ((a :: r).map .str))), y2, y3, some (.pv (stD (a :: r)))] S) := by
      rw [body]
      rw [nx_next, ap_Seq, h4, nx_next]
    cases hst : pStage (stD (a :: r)) with
    | true =>
      rw [hst] at eh
      have : F_p_read_stage [.pv (.str x)] S = .ok (.pv (stD (a :: r))) (S.take S.length) := by
        rw [body2]
        simp only [ap_Seq, ap_IfS, ap_NotT, ap_Tst, ap_Call, ap_Cons, ap_Nm, ap_Nil, List.getElem?_cons_zero, List.getElem?_cons_succ, Res.bind_ok, eh, bl_pv, Bool.not_true, Res.s_ok, Bool.false_eq_true, ite_false]
        rfl
      rw [fin this]
      simp [dTryF, dEnd]
    | false =>
      rw [hst] at eh
      have : F_p_read_stage [.pv (.str x)] S = .err "InvalidText" (some ("line", .int (((a :: r).length + 1 : Nat) : Int))) (S.take S.length) := by
        rw [body2]
        simp only [ap_Seq, ap_IfS, ap_NotT, ap_Tst, ap_RaiseO, ap_d2, ap_C, ap_Call, ap_Cons, ap_Nm, ap_Nil, List.getElem?_cons_zero, List.getElem?_cons_succ, Res.bind_ok, eh, bl_pv, Bool.not_false, Res.s_ok, ite_true, ln, l2_pv]
        rfl
      rw [fin this]
      simp [dTryF, dEnd]

end Law
set_option maxHeartbeats 4000000
namespace Law
open PySem PySem.Spec PyProof.Rows L2 L2H LamX Mi
def isS : PyData → Bool
  | .str _ => true
  | _ => false
theorem isi_s {v : PyData} {S : Sto} (hv : cl v) : isiF "str" (.pv v) S = .ok (.pv (.bool (isS v))) S := by
  cases v with
  | dict kvs => simp [cl, PyData.canLay0] at hv
  | _ => simp [isiF, tyName, isTy, isS]
theorem eqv_none {x : Str} : PyData.eqv (lineD x) .none = badL x := by
  unfold lineD badL
  cases lateOf x with
  | some d => rfl
  | none => cases rowOf x <;> rfl
theorem find_rows (ls : List Str) : ((ls.map lineD).findIdx? fun z => PyData.eqv z .none) = ls.findIdx? badL := by
  rw [List.findIdx?_map]
  congr 1
  funext x
  exact eqv_none
theorem any_rows (ls : List Str) : ((ls.map lineD).any fun z => PyData.eqv z .none) = (ls.findIdx? badL).isSome := by
  rw [List.any_map, List.findIdx?_isSome]
  congr 1
  funext x
  exact eqv_none
theorem e_due {x : Str} {S : Sto} (h : PyData.strOk x = true ∧ x.length ≤ 89000) : F_law_due [.pv (.str x)] S = .ok (.pv (resL (Txt.split x "\n"))) S := by
  have hL : Ln x := ⟨h.1, by have := h.2; omega⟩
  obtain ⟨hn, hp⟩ := len_split (x := x) (y := "\n") sep_ok.2.1
  have hs := so_split (y := "\n") h.1
  have hne := split_ne x "\n"
  have fs := (fs_any hL).2
  have is : ∀ S, isiF "str" (.pv (.str x)) S = .ok (.pv (.bool true)) S := fun S => by simp [isiF, tyName, isTy]
  generalize hls : Txt.split x "\n" = ls at *
  have hz : ∀ z ∈ ls, PyData.strOk z = true ∧ z.length ≤ 90000 := fun z hz => ⟨hs z hz, by have := hp z hz; have := h.2; omega⟩
  have hlen : ls.length ≤ 90001 := by have := h.2; omega
  have sl1 : ∀ z ∈ ls.map lineD, Sh 3 z := fun z hz => by
    obtain ⟨l, _, rfl⟩ := List.mem_map.mp hz
    exact sh_line
  have shl : shp (.list (ls.map lineD)) = true := (sh_l sl1).shp (by decide)
  have shn : shp .none = true := (sh_n (d := 0)).shp (by decide)
  unfold F_law_due
  refine sat_eqf rfl ?_
  simp only [List.map_cons, List.map_nil, List.replicate, List.cons_append, List.nil_append, Nat.reduceSub]
  refine sat_then (fun ρ S' => S' = S ∧ ρ = [some (.pv (.str x)), none, none, none]) ?_ ?_
  · refine sat_no ?_ ⟨rfl, rfl⟩
    simp only [ap_NotT, ap_Tst, ap_Isi, ap_Nm, List.getElem?_cons_zero, Res.bind_ok, is, bl_pv, Bool.not_true]
  rintro ρ S0 ⟨rfl, rfl⟩
  have lc := lc_gen' (g := gN 3) (T := dYes) (A := dCall F_law_line_of (dCons (dNm 3) dNil)) (ρ := wipeE [some (.pv (.str x)), none, none, none] [3]) (S := S0)
    (val := fun w : Str => Val.pv (.str w)) (keep := fun _ => true) (out := lineD) ls (xs := (ls.map PyData.str).map .pv) (by rw [List.map_map]; rfl) (fun w hw => ⟨_, rfl, rfl, fun _ => by
      have hw' := hz w hw
      simp [wipeE, e_line_any (x := w) hw']⟩) (by omega)
  rw [fil_true] at lc
  refine sat_then (fun ρ S' => S' = S0 ∧ ρ = [some (.pv (.str x)), some (.pv (.list (ls.map lineD))), none, none]) ?_ ?_
  · rw [ap_Set, sat_s]
    simp only [ap_Lc, ap_Items, dM1, ap_Nm, ap_C, List.getElem?_cons_zero, Res.bind_ok, fs, itemsOf, lc, sat_ok, sat_next, List.set_cons_succ, List.set_cons_zero]
    first | trivial | exact ⟨rfl, rfl⟩
  rintro ρ S1 ⟨rfl, rfl⟩
  have oi : opIn .none (.list (ls.map lineD)) = some (.bool (ls.findIdx? badL).isSome) := by
    simp only [opIn, inOf, shl, shn, Bool.and_self, ite_true, any_rows, Option.map_some]
  unfold resL
  cases hf : ls.findIdx? badL with
  | some i =>
    rw [hf] at oi
    have fi : fIdx (ls.map lineD) .none = some i := by
      unfold fIdx
      rw [shl, shn, find_rows, hf]; rfl
    refine sat_then (fun ρ S' => False) ?_ (fun _ _ h => h.elim)
    refine sat_yes (by simp only [ap_Tst, ap_d2, ap_C, ap_Nm, List.getElem?_cons_zero, List.getElem?_cons_succ, Res.bind_ok, l2_pv, oi, bl_pv, Option.isSome_some]) ?_
    rw [ap_Ret, sat_s]
    have ad : opAdd (.int (i : Nat)) (.int 1) = some (.int ((i + 1 : Nat) : Int)) := by simp [opAdd]
    simp only [ap_d2, ap_Idx, ap_C, ap_Nm, List.getElem?_cons_zero, List.getElem?_cons_succ, Res.bind_ok, fi, l2_pv, ad, sat_ok, sat_ret]
    show leave S1.length (.pv (.int ((i + 1 : Nat) : Int))) S1 = _
    rw [leave_pv]; simp
  | none =>
    rw [hf] at oi
    obtain ⟨a, r, rfl⟩ := List.exists_cons_of_ne_nil hne
    refine sat_then (fun ρ S' => S' = S1 ∧ ρ = [some (.pv (.str x)), some (.pv (.list ((a :: r).map lineD))), none, none]) ?_ ?_
    · refine sat_no (by simp only [ap_Tst, ap_d2, ap_C, ap_Nm, List.getElem?_cons_zero, List.getElem?_cons_succ, Res.bind_ok, l2_pv, oi, bl_pv, Option.isSome_none]) ⟨rfl, rfl⟩
    rintro ρ S2 ⟨rfl, rfl⟩
    have i0 : liftIx (.pv (.list ((a :: r).map lineD))) (.pv (.int 0)) S2 = .ok (.pv (lineD a)) S2 := by rw [ix_pv, ix_lst0]; rfl
    have sl : slOf (some 1) none (.list ((a :: r).map lineD)) = some (.list (r.map lineD)) := cut_hiL (xs := (a :: r).map lineD) (r := 1) (by simp)
    have ft : b1 fTuple [.pv (.list (r.map lineD))] S2 = .ok (.pv (.tuple (r.map lineD))) S2 := rfl
    refine sat_then (fun ρ S' => S' = S2 ∧ ρ = [some (.pv (.str x)), some (.pv (.list ((a :: r).map lineD))), some (.pv (stL (a :: r))), none]) ?_ ?_
    · rw [ap_Set, sat_s]
      simp only [ap_Tup, ap_Cons, ap_Call, ap_Ix, ap_Sl, ap_Pt, ap_No, ap_C, ap_Nm, ap_Nil, List.getElem?_cons_zero, List.getElem?_cons_succ, Res.bind_ok, i0, intOf, sl_pv, sl, ft, pvs_cons, pvs_nil, Option.map_some, List.length_cons, List.length_nil, show szOk (0 + 1 + 1) = true from rfl, ite_true, sat_ok, sat_next, List.set_cons_succ, List.set_cons_zero]
      exact ⟨trivial, rfl⟩
    rintro ρ S3 ⟨rfl, rfl⟩
    have sd := sh_stL (a :: r)
    have eh := e_lstage (S := S3) sd.1
    obtain ⟨pe, pt⟩ := pst_eq (a :: r)
    rw [pe] at eh
    have ln : b1 fLen [.pv (.list ((a :: r).map lineD))] S3 = .ok (.pv (.int ((a :: r).length : Nat))) S3 := by simp [b1_pv, fLen]
    have ad : opAdd (.int ((a :: r).length : Nat)) (.int 1) = some (.int (((a :: r).length + 1 : Nat) : Int)) := by simp [opAdd]
    rw [ap_Ret, sat_s]
    simp only [ap_If, ap_Tst, ap_d2, ap_C, ap_Call, ap_Cons, ap_Nm, ap_Nil, List.getElem?_cons_zero, List.getElem?_cons_succ, Res.bind_ok, eh, bl_pv]
    cases hst : pStage (stD (a :: r)) with
    | true =>
      rw [← pt hst]
      simp only [ite_true, ap_Nm, List.getElem?_cons_zero, List.getElem?_cons_succ, sat_ok, sat_ret]
      show leave S3.length (.pv (stL (a :: r))) S3 = _
      rw [leave_pv]; simp
    | false =>
      simp only [Bool.false_eq_true, ite_false, ap_d2, ap_C, ap_Call, ap_Cons, ap_Nm, ap_Nil, List.getElem?_cons_zero, List.getElem?_cons_succ, Res.bind_ok, ln, l2_pv, ad, sat_ok, sat_ret]
      show leave S3.length (.pv (.int (((a :: r).length + 1 : Nat) : Int))) S3 = _
      rw [leave_pv]; simp
theorem e_other {v : PyData} {S : Sto} (hv : cl v) (h : isS v = false) : F_law_read_so [.pv v] S = .ok (.pv (.int 0)) S ∧ F_law_due [.pv v] S = .ok (.pv (.int 0)) S := by
  have is := fun S => isi_s (S := S) hv
  rw [h] at is
  constructor
  · have e : F_p_read_stage [.pv v] S = .err "InvalidText" (some ("line", .int 0)) (S.take S.length) := by
      unfold F_p_read_stage dFun
      rw [if_pos (show [Val.pv v].length = 1 from rfl)]
      simp only [List.map_cons, List.map_nil, List.replicate, List.cons_append, List.nil_append, Nat.reduceSub, ap_Seq, ap_IfS, ap_NotT, ap_Tst, ap_Isi, ap_Nm, List.getElem?_cons_zero, Res.bind_ok, is, bl_pv, Bool.not_false, Res.s_ok, ite_true, ap_RaiseO, ap_C]
      rfl
    unfold F_law_read_so dFun dTryF
    simp only [List.length_cons, List.length_nil, ite_true, List.map_cons, List.map_nil, List.replicate, List.cons_append, List.nil_append, Nat.reduceSub, ap_Ret, ap_Call, ap_Cons, ap_Nm, ap_Nil, List.getElem?_cons_zero, Res.bind_ok, e]
    simp [dEnd]
  · unfold F_law_due dFun
    rw [if_pos (show [Val.pv v].length = 1 from rfl)]
    simp only [List.map_cons, List.map_nil, List.replicate, List.cons_append, List.nil_append, Nat.reduceSub, ap_Seq, ap_IfS, ap_NotT, ap_Tst, ap_Isi, ap_Nm, List.getElem?_cons_zero, Res.bind_ok, is, bl_pv, Bool.not_false, Res.s_ok, ite_true, ap_Ret, ap_C]
    show dEnd S.length (.ret (.pv (.int 0)) S) = _
    simp
/-- what both say of a value -/
def resV : PyData → PyData
  | .str x => resL (Txt.split x "\n")
  | _ => .int 0
theorem e_both {v : PyData} {S : Sto} (hv : cl v) (h : ∀ x, v = .str x → x.length ≤ 89000) : F_law_read_so [.pv v] S = .ok (.pv (resV v)) S ∧ F_law_due [.pv v] S = .ok (.pv (resV v)) S ∧ opNe (resV v) (resV v) = some (.bool false) ∧ isiF "bool" (.pv (resV v)) S = .ok (.pv (.bool false)) S := by
  have hr : Sh 5 (resV v) ∧ isB (resV v) = false := by
    unfold resV
    split
    · exact sh_res _
    · exact ⟨sh_i, rfl⟩
  refine ⟨?_, ?_, ne_self hr.1 (by decide), by rw [isi_b hr.1.1, hr.2]⟩
  · cases hs : isS v with
    | false =>
      rw [(e_other hv hs).1]
      cases v with
      | str x => cases hs
      | _ => rfl
    | true =>
      cases v with
      | str x => exact e_read_so ⟨hv, h x rfl⟩
      | _ => cases hs
  · cases hs : isS v with
    | false =>
      rw [(e_other hv hs).2]
      cases v with
      | str x => cases hs
      | _ => rfl
    | true =>
      cases v with
      | str x => exact e_due ⟨hv, h x rfl⟩
      | _ => cases hs

end Law
set_option maxHeartbeats 4000000
namespace Law
open PySem PySem.Spec PyProof.Rows L2 L2H LamX Mi
/-- a weight of lines -/
def wt (l : List Str) : Nat := (l.map (·.length)).sum + l.length
theorem wt_nil : wt [] = 0 := rfl
theorem wt_cons (a : Str) (l : List Str) : wt (a :: l) = a.length + 1 + wt l := by simp only [wt, List.map_cons, List.sum_cons, List.length_cons]; omega
theorem wt_append (a b : List Str) : wt (a ++ b) = wt a + wt b := by
  induction a with
  | nil => simp [wt_nil]
  | cons x r ih => rw [List.cons_append, wt_cons, wt_cons, ih]; omega
theorem wt_part (l : List Str) (i : Nat) : wt (l.take i) + wt (l.drop i) = wt l := by rw [← wt_append, List.take_append_drop]
theorem wt_split {x : Str} : wt (Txt.split x "\n") ≤ x.length + 1 := split_weight x "\n" sep_ok.2.1
theorem wt_len (l : List Str) : l.length ≤ wt l := by unfold wt; omega
theorem nl_len : ("\n" : Str).length = 1 := by decide +kernel
theorem join_any {l : List Str} (h : wt l ≤ 1000000) : fJoin "\n" (.list (l.map .str)) = some (.str (Txt.join "\n" l)) := by
  have z : szOk ((l.map (·.length)).sum + l.length * ("\n" : Str).length) = true := decide_eq_true (by rw [nl_len]; unfold wt at h; omega)
  show joinS "\n" (l.map .str) = _
  unfold joinS
  rw [strsOf_map]
  simp only [z, ite_true]
theorem len_join (l : List Str) : (Txt.join "\n" l).length ≤ wt l := by
  rw [TL.join_eq]
  have := PySem.StrLaws.join_length_le "\n" l
  rw [nl_len] at this
  unfold wt
  omega
theorem cut_loL {xs : List PyData} {r : Nat} (h : r ≤ xs.length) : slOf none (some (r : Int)) (.list xs) = some (.list (xs.take r)) := by
  simp only [slOf, cutP, HT.sIx_nat, HT.sIx_none, Nat.min_eq_left h]
  simp
theorem len_cut {z : Str} {a b : Option Int} : (cutS z a b).length ≤ z.length := by
  have : (cutS z a b).length = ((z.cps.toList.drop (HT.sIx z.length 0 a)).take (HT.sIx z.length z.length b - HT.sIx z.length 0 a)).length := by simp [cutS, Str.length]
  rw [this, List.length_take, List.length_drop]
  have : z.cps.toList.length = z.length := by simp [Str.length]
  omega
theorem so_app {a b : Str} (ha : PyData.strOk a = true) (hb : PyData.strOk b = true) : PyData.strOk (a ++ b) = true := so_of fun c hc => by
  rw [TL.tl_append] at hc
  rcases List.mem_append.mp hc with h | h
  · exact so_mem ha c h
  · exact so_mem hb c h
theorem ad_any {a b : Str} (h : a.length + b.length ≤ 1000000) : opAdd (.str a) (.str b) = some (.str (a ++ b)) := by
  have z : szOk (a.length + b.length) = true := decide_eq_true (by omega)
  show (if szOk (a.length + b.length) = true then some (PyData.str (a ++ b)) else none) = _
  rw [if_pos z]
theorem ad_lst {a b : List Str} (h : a.length + b.length ≤ 1000000) : opAdd (.list (a.map .str)) (.list (b.map .str)) = some (.list ((a ++ b).map .str)) := by
  have z : szOk ((a.map PyData.str).length + (b.map PyData.str).length) = true := decide_eq_true (by simp only [List.length_map]; omega)
  show (if szOk ((a.map PyData.str).length + (b.map PyData.str).length) = true then some (PyData.list (a.map .str ++ b.map .str)) else none) = _
  rw [if_pos z, List.map_append]
def marks : List Str := "" :: " " :: "0" :: "1" :: "!" :: "yes" :: "\n" :: "\n0 no 0 0 0 0" :: "6" :: "late 1" :: "-" :: "no " :: []
def somes : List Str := "late 0" :: "late 3" :: "late 01" :: "0 yes 0 0 0" :: "0 yes 0 0 0 6" :: "7 yes 0 0 0 0" :: "1 no 5! 0 0 0" :: "0 Yes 0 0 0 0" :: []
theorem marks_ok : (marks.all fun y => PyData.strOk y && decide (y.length ≤ 20)) = true ∧ (somes.all fun y => PyData.strOk y && decide (y.length ≤ 20)) = true := by decide +kernel
theorem mem_ok {l : List Str} (h : (l.all fun y => PyData.strOk y && decide (y.length ≤ 20)) = true) {p : PyData} (hp : p ∈ l.map PyData.str) : ∃ y, p = .str y ∧ PyData.strOk y = true ∧ y.length ≤ 20 := by
  obtain ⟨y, hy, rfl⟩ := List.mem_map.mp hp
  have := List.all_eq_true.mp h y hy
  simp only [Bool.and_eq_true, decide_eq_true_eq] at this
  exact ⟨y, rfl, this⟩
theorem so_nl : PyData.strOk ("\n" : Str) = true := by decide +kernel
theorem sat_spoilt {l : Nat} {x : Str} {S : Sto} {E : Str → Sto → Prop} {Q : Val → Sto → Prop} (v : Vat l S) (hx : PyData.strOk x = true) (hz : x.length ≤ 40000)
    (h : ∀ y S', PyData.strOk y = true → y.length ≤ 2 * x.length + 40 → Nx l S S' → Q (.pv (.str y)) S') : (F_law_spoilt [.loc l, .pv (.str x)] S).sat E Q := by
  have hL : Ln x := ⟨hx, by omega⟩
  have fs := (fs_any hL).2
  have hs := so_split (y := "\n") hx
  have hw := wt_split (x := x)
  have hne := split_ne x "\n"
  unfold F_law_spoilt
  refine sat_fun rfl ?_
  show (dSeq _ _ [some (.loc l), some (.pv (.str x)), none, none, none, none, none, none] S).sat _ _
  refine sat_then (fun ρ S' => ∃ a b : Nat, a ≤ x.length ∧ b < 6 ∧ ρ = [some (.loc l), some (.pv (.str x)), some (.pv (.int (a : Nat))), some (.pv (.int (b : Nat))), none, none, none, none] ∧ Nx l S S') ?_ ?_
  · rw [ap_Par, sat_s]
    have ln : b1 fLen [.pv (.str x)] S = .ok (.pv (.int (x.length : Nat))) S := by
      have z : x.length ≤ 16777216 := by omega
      simp [b1_pv, fLen, z]
    have ad : opAdd (.int (x.length : Nat)) (.int 1) = some (.int ((x.length : Int) + 1)) := rfl
    simp only [ap_Cons, sat_bind, ap_Call, ap_d2, ap_C, ap_Nm, ap_Nil, List.getElem?_cons_zero, List.getElem?_cons_succ, Res.bind_ok, ln, l2_pv, ad, sat_ok]
    refine sat_under v (by omega) (by omega) fun t S1 t0 t1 nx1 => ?_
    refine sat_under nx1.vat (by omega) (by omega) fun k S2 k0 k1 nx2 => ?_
    refine ⟨t.toNat, k.toNat, by omega, by omega, ?_, nx1.trans nx2⟩
    rw [show ((t.toNat : Nat) : Int) = t by omega, show ((k.toNat : Nat) : Int) = k by omega]
    rfl
  rintro ρ S1 ⟨a, b, ha, hb, rfl, n1⟩
  have fin : ∀ (y : Str) {S' : Sto}, Nx l S S' → PyData.strOk y = true → y.length ≤ 2 * x.length + 40 → (leave S.length (.pv (.str y)) S').sat E Q := fun y S' nx h1 h2 => by
    rw [leave_pv, sat_ok, nx.take]
    exact h y S' h1 h2 nx
  have lt : opLt (.int (b : Nat)) (.int 2) = some (.bool (decide ((b : Int) < 2))) := rfl
  by_cases h2 : b < 2
  · refine sat_then (fun ρ S' => False) ?_ (fun _ _ h => h.elim)
    refine sat_yes (by simp only [ap_Tst, ap_d2, ap_C, ap_Nm, List.getElem?_cons_zero, List.getElem?_cons_succ, Res.bind_ok, l2_pv, lt, bl_pv, decide_eq_true (show (b : Int) < 2 by omega)]) ?_
    refine sat_then (fun ρ S' => S' = S1 ∧ ρ = [some (.loc l), some (.pv (.str x)), some (.pv (.int (a : Nat))), some (.pv (.int (b : Nat))), some (.pv (.list (marks.map .str))), none, none, none]) ?_ ?_
    · rw [ap_Set, sat_s]
      simp only [ap_Lst, ap_Cons, ap_C, ap_Nil, Res.bind_ok, pvs_cons, pvs_nil, Option.map_some, List.length_cons, List.length_nil, show szOk (0 + 1 + 1 + 1 + 1 + 1 + 1 + 1 + 1 + 1 + 1 + 1 + 1) = true from rfl, ite_true, sat_ok, sat_next, List.set_cons_succ, List.set_cons_zero]
      exact ⟨trivial, rfl⟩
    rintro ρ S2 ⟨rfl, rfl⟩
    have z : szOk x.length = true := decide_eq_true (by omega)
    have s1 : slOf none (some (a : Nat)) (.str x) = some (.str (cutS x none (some (a : Nat)))) := by simp only [slOf]; rw [if_pos z]
    have s2 : slOf (some ((a : Int) + (b : Int))) none (.str x) = some (.str (cutS x (some ((a : Int) + (b : Int))) none)) := by simp only [slOf]; rw [if_pos z]
    have ad : opAdd (.int (a : Nat)) (.int (b : Nat)) = some (.int ((a : Int) + (b : Int))) := rfl
    rw [ap_Ret, sat_s]
    simp only [ap_d2, sat_bind, ap_Sl, ap_Pt, ap_No, ap_Nm, ap_C, ap_Call, ap_Cons, ap_Nil, List.getElem?_cons_zero, List.getElem?_cons_succ, Res.bind_ok, intOf, sl_pv, s1, sat_ok]
    refine sat_some (.inl rfl) n1.vat (by simp [marks]) (by simp [marks]) fun p S3 hp nx2 => ?_
    obtain ⟨y, rfl, y1, y2⟩ := mem_ok marks_ok.1 hp
    have l1 := len_cut (z := x) (a := none) (b := some (a : Nat))
    have l2 := len_cut (z := x) (a := some ((a : Int) + (b : Int))) (b := none)
    have l3 : (cutS x none (some (a : Nat)) ++ y).length = (cutS x none (some (a : Nat))).length + y.length := Str.length_append _ _
    have l4 : (cutS x none (some (a : Nat)) ++ y ++ cutS x (some ((a : Int) + (b : Int))) none).length = (cutS x none (some (a : Nat)) ++ y).length + (cutS x (some ((a : Int) + (b : Int))) none).length := Str.length_append _ _
    have a1 := ad_any (a := cutS x none (some (a : Nat))) (b := y) (by omega)
    have a2 := ad_any (a := cutS x none (some (a : Nat)) ++ y) (b := cutS x (some ((a : Int) + (b : Int))) none) (by omega)
    simp only [l2_pv, ad, a1, a2, s2, Res.bind_ok, intOf, sl_pv, sat_ok, sat_ret]
    exact fin (cutS x none (some (a : Nat)) ++ y ++ cutS x (some ((a : Int) + (b : Int))) none) (n1.trans nx2) (so_app (so_app (so_cut hx) y1) (so_cut hx)) (by omega)
  refine sat_then (fun ρ S' => S' = S1 ∧ ρ = [some (.loc l), some (.pv (.str x)), some (.pv (.int (a : Nat))), some (.pv (.int (b : Nat))), none, none, none, none]) ?_ ?_
  · exact sat_no (by simp only [ap_Tst, ap_d2, ap_C, ap_Nm, List.getElem?_cons_zero, List.getElem?_cons_succ, Res.bind_ok, l2_pv, lt, bl_pv, decide_eq_false (show ¬ (b : Int) < 2 by omega)]) ⟨rfl, rfl⟩
  rintro ρ S2 ⟨rfl, rfl⟩
  generalize hls : Txt.split x "\n" = ls at *
  refine sat_then (fun ρ S' => S' = S2 ∧ ρ = [some (.loc l), some (.pv (.str x)), some (.pv (.int (a : Nat))), some (.pv (.int (b : Nat))), none, some (.pv (.list (ls.map .str))), none, none]) ?_ ?_
  · rw [ap_Set, sat_s]
    simp only [dM1, ap_Nm, ap_C, List.getElem?_cons_zero, List.getElem?_cons_succ, Res.bind_ok, fs, sat_ok, sat_next, List.set_cons_succ, List.set_cons_zero]
    first | trivial | exact ⟨rfl, rfl⟩
  rintro ρ S3 ⟨rfl, rfl⟩
  have hlen := wt_len ls
  have hpos : 0 < ls.length := List.length_pos_iff.mpr hne
  refine sat_then (fun ρ S' => ∃ c : Nat, c < ls.length ∧ ρ = [some (.loc l), some (.pv (.str x)), some (.pv (.int (a : Nat))), some (.pv (.int (b : Nat))), none, some (.pv (.list (ls.map .str))), some (.pv (.int (c : Nat))), none] ∧ Nx l S S') ?_ ?_
  · rw [ap_Set, sat_s]
    have ln : b1 fLen [.pv (.list (ls.map .str))] S3 = .ok (.pv (.int (ls.length : Nat))) S3 := by simp [b1_pv, fLen]
    simp only [ap_Cons, ap_Call, ap_Nm, ap_Nil, List.getElem?_cons_zero, List.getElem?_cons_succ, Res.bind_ok, ln]
    refine sat_under n1.vat (by omega) (by omega) fun t S4 t0 t1 nx => ?_
    refine ⟨t.toNat, by omega, ?_, n1.trans nx⟩
    rw [show ((t.toNat : Nat) : Int) = t by omega]
    rfl
  rintro ρ S4 ⟨c, hc, rfl, n4⟩
  have e1 : ((c : Int) + 1) = ((c + 1 : Nat) : Int) := by omega
  have ad1 : opAdd (.int (c : Nat)) (.int 1) = some (.int ((c + 1 : Nat) : Int)) := by rw [← e1]; rfl
  have c1 : slOf none (some (c : Nat)) (.list (ls.map .str)) = some (.list ((ls.take c).map .str)) := by rw [cut_loL (by simp; omega), List.map_take]
  have c2 : slOf (some (c : Nat)) none (.list (ls.map .str)) = some (.list ((ls.drop c).map .str)) := by rw [cut_hiL (by simp; omega), List.map_drop]
  have c3 : slOf none (some ((c + 1 : Nat) : Int)) (.list (ls.map .str)) = some (.list ((ls.take (c + 1)).map .str)) := by rw [cut_loL (by simp; omega), List.map_take]
  have c4 : slOf (some ((c + 1 : Nat) : Int)) none (.list (ls.map .str)) = some (.list ((ls.drop (c + 1)).map .str)) := by rw [cut_hiL (by simp; omega), List.map_drop]
  have w1 := wt_part ls c
  have w2 := wt_part ls (c + 1)
  have q1 := wt_len (ls.take c)
  have q2 := wt_len (ls.drop c)
  have q3 := wt_len (ls.take (c + 1))
  have q4 := wt_len (ls.drop (c + 1))
  have st : ∀ {i : Nat}, ∀ p ∈ ls.take i, PyData.strOk p = true := fun p hp => hs p (List.mem_of_mem_take hp)
  have sd : ∀ {i : Nat}, ∀ p ∈ ls.drop i, PyData.strOk p = true := fun p hp => hs p (List.mem_of_mem_drop hp)
  have both : ∀ {A B : List Str}, (∀ p ∈ A, PyData.strOk p = true) → (∀ p ∈ B, PyData.strOk p = true) → PyData.strOk (Txt.join "\n" (A ++ B)) = true := fun hA hB => so_join so_nl fun p hp => by
    rcases List.mem_append.mp hp with h | h
    · exact hA p h
    · exact hB p h
  have tq : ∀ (k : Int), opEq (.int (b : Nat)) (.int k) = some (.bool (decide ((b : Int) = k))) := fun k => by
    rw [opEq_int]
    by_cases h : (b : Int) = k
    · rw [decide_eq_true h, beq_iff_eq.mpr h]
    · rw [decide_eq_false h, beq_eq_false_iff_ne.mpr h]
  have tt : ∀ {k : Int}, (b : Int) = k → (dTst (d2 opEq (dNm 3) (dC (.int k)))) [some (.loc l), some (.pv (.str x)), some (.pv (.int (a : Nat))), some (.pv (.int (b : Nat))), none, some (.pv (.list (ls.map .str))), some (.pv (.int (c : Nat))), none] S4 = .ok true S4 := fun {k} h => by
    simp only [ap_Tst, ap_d2, ap_C, ap_Nm, List.getElem?_cons_zero, List.getElem?_cons_succ, Res.bind_ok, l2_pv, tq, bl_pv, decide_eq_true h]
  have tf : ∀ {k : Int}, ¬ (b : Int) = k → (dTst (d2 opEq (dNm 3) (dC (.int k)))) [some (.loc l), some (.pv (.str x)), some (.pv (.int (a : Nat))), some (.pv (.int (b : Nat))), none, some (.pv (.list (ls.map .str))), some (.pv (.int (c : Nat))), none] S4 = .ok false S4 := fun {k} h => by
    simp only [ap_Tst, ap_d2, ap_C, ap_Nm, List.getElem?_cons_zero, List.getElem?_cons_succ, Res.bind_ok, l2_pv, tq, bl_pv, decide_eq_false h]
  by_cases b2 : b = 2
  · refine sat_then (fun ρ S' => False) ?_ (fun _ _ h => h.elim)
    refine sat_yes (tt (by omega)) ?_
    have al := ad_lst (a := ls.take c) (b := ls.drop (c + 1)) (by omega)
    have lj := len_join (ls.take c ++ ls.drop (c + 1))
    have wj := wt_append (ls.take c) (ls.drop (c + 1))
    have jn := join_any (l := ls.take c ++ ls.drop (c + 1)) (by omega)
    rw [ap_Ret, sat_s]
    simp only [dM1, ap_d2, ap_Sl, ap_Pt, ap_No, ap_Nm, ap_C, List.getElem?_cons_zero, List.getElem?_cons_succ, Res.bind_ok, intOf, sl_pv, l2_pv, ad1, c1, c4, al, jn, sat_ok, sat_ret]
    exact fin (Txt.join "\n" (ls.take c ++ ls.drop (c + 1))) n4 (both st sd) (by omega)
  refine sat_then (fun ρ S' => S' = S4 ∧ ρ = [some (.loc l), some (.pv (.str x)), some (.pv (.int (a : Nat))), some (.pv (.int (b : Nat))), none, some (.pv (.list (ls.map .str))), some (.pv (.int (c : Nat))), none]) (sat_no (tf (by omega)) ⟨rfl, rfl⟩) ?_
  rintro ρ S5 ⟨rfl, rfl⟩
  by_cases b3 : b = 3
  · refine sat_then (fun ρ S' => False) ?_ (fun _ _ h => h.elim)
    refine sat_yes (tt (by omega)) ?_
    have al := ad_lst (a := ls.take (c + 1)) (b := ls.drop c) (by omega)
    have lj := len_join (ls.take (c + 1) ++ ls.drop c)
    have wj := wt_append (ls.take (c + 1)) (ls.drop c)
    have jn := join_any (l := ls.take (c + 1) ++ ls.drop c) (by omega)
    rw [ap_Ret, sat_s]
    simp only [dM1, ap_d2, ap_Sl, ap_Pt, ap_No, ap_Nm, ap_C, List.getElem?_cons_zero, List.getElem?_cons_succ, Res.bind_ok, intOf, sl_pv, l2_pv, ad1, c3, c2, al, jn, sat_ok, sat_ret]
    exact fin (Txt.join "\n" (ls.take (c + 1) ++ ls.drop c)) n4 (both st sd) (by omega)
  refine sat_then (fun ρ S' => S' = S5 ∧ ρ = [some (.loc l), some (.pv (.str x)), some (.pv (.int (a : Nat))), some (.pv (.int (b : Nat))), none, some (.pv (.list (ls.map .str))), some (.pv (.int (c : Nat))), none]) (sat_no (tf (by omega)) ⟨rfl, rfl⟩) ?_
  rintro ρ S6 ⟨rfl, rfl⟩
  by_cases b4 : b = 4
  · refine sat_then (fun ρ S' => False) ?_ (fun _ _ h => h.elim)
    refine sat_yes (tt (by omega)) ?_
    have al := ad_lst (a := ls.drop c) (b := ls.take c) (by omega)
    have lj := len_join (ls.drop c ++ ls.take c)
    have wj := wt_append (ls.drop c) (ls.take c)
    have jn := join_any (l := ls.drop c ++ ls.take c) (by omega)
    rw [ap_Ret, sat_s]
    simp only [dM1, ap_d2, ap_Sl, ap_Pt, ap_No, ap_Nm, ap_C, List.getElem?_cons_zero, List.getElem?_cons_succ, Res.bind_ok, intOf, sl_pv, l2_pv, c2, c1, al, jn, sat_ok, sat_ret]
    exact fin (Txt.join "\n" (ls.drop c ++ ls.take c)) n4 (both sd st) (by omega)
  refine sat_then (fun ρ S' => S' = S6 ∧ ρ = [some (.loc l), some (.pv (.str x)), some (.pv (.int (a : Nat))), some (.pv (.int (b : Nat))), none, some (.pv (.list (ls.map .str))), some (.pv (.int (c : Nat))), none]) (sat_no (tf (by omega)) ⟨rfl, rfl⟩) ?_
  rintro ρ S7 ⟨rfl, rfl⟩
  refine sat_then (fun ρ S' => S' = S7 ∧ ρ = [some (.loc l), some (.pv (.str x)), some (.pv (.int (a : Nat))), some (.pv (.int (b : Nat))), none, some (.pv (.list (ls.map .str))), some (.pv (.int (c : Nat))), some (.pv (.list (somes.map .str)))]) ?_ ?_
  · rw [ap_Set, sat_s]
    simp only [ap_Lst, ap_Cons, ap_C, ap_Nil, Res.bind_ok, pvs_cons, pvs_nil, Option.map_some, List.length_cons, List.length_nil, show szOk (0 + 1 + 1 + 1 + 1 + 1 + 1 + 1 + 1) = true from rfl, ite_true, sat_ok, sat_next, List.set_cons_succ, List.set_cons_zero]
    exact ⟨trivial, rfl⟩
  rintro ρ S8 ⟨rfl, rfl⟩
  rw [ap_Ret, sat_s]
  simp only [dM1, ap_d2, sat_bind, ap_Sl, ap_Pt, ap_No, ap_Nm, ap_C, ap_Lst, ap_Call, ap_Cons, ap_Nil, List.getElem?_cons_zero, List.getElem?_cons_succ, Res.bind_ok, intOf, sl_pv, c1, sat_ok]
  refine sat_some (.inl rfl) n4.vat (by simp [somes]) (by simp [somes]) fun p S9 hp nx9 => ?_
  obtain ⟨y, rfl, y1, y2⟩ := mem_ok marks_ok.2 hp
  have wy : wt [y] = y.length + 1 := by rw [wt_cons, wt_nil]
  have wj1 := wt_append (ls.take c) [y]
  have wj2 := wt_append (ls.take c ++ [y]) (ls.drop (c + 1))
  have al1 := ad_lst (a := ls.take c) (b := [y]) (by simp only [List.length_cons, List.length_nil]; omega)
  have al2 := ad_lst (a := ls.take c ++ [y]) (b := ls.drop (c + 1)) (by simp only [List.length_append, List.length_cons, List.length_nil]; omega)
  have lj := len_join (ls.take c ++ [y] ++ ls.drop (c + 1))
  have jn := join_any (l := ls.take c ++ [y] ++ ls.drop (c + 1)) (by omega)
  simp only [List.map_cons, List.map_nil] at al1
  simp only [pvs_cons, pvs_nil, Option.map_some, List.length_cons, List.length_nil, show szOk (0 + 1) = true from rfl, ite_true, l2_pv, ad1, al1, al2, c4, jn, Res.bind_ok, intOf, sl_pv, sat_ok, sat_ret]
  refine fin (Txt.join "\n" (ls.take c ++ [y] ++ ls.drop (c + 1))) (n4.trans nx9) (both (fun p hp => ?_) sd) (by omega)
  rcases List.mem_append.mp hp with h | h
  · exact st p h
  · have : p = y := by simpa using h
    rw [this]; exact y1

end Law
set_option maxHeartbeats 4000000
namespace Law
open PySem PySem.Spec PyProof.Rows L2 L2H LamX Mi
theorem join_all {P : Nat → Prop} {a : Str} {l : List Str} (ha : ∀ c ∈ TL.tl a, P c) (hl : ∀ x ∈ l, ∀ c ∈ TL.tl x, P c) : ∀ c ∈ TL.tl (Txt.join a l), P c := by
  intro c hc
  rw [TL.join_eq, TL.tl_join] at hc
  rcases mem_joinL hc with h | ⟨p, hp, h⟩
  · exact ha c h
  · obtain ⟨x, hx, rfl⟩ := List.mem_map.mp hp
    exact hl x hx c h
def asc (x : Str) : Bool := (TL.tl x).all fun c => decide (c < 128)
theorem asc_mem {x : Str} (h : asc x = true) : ∀ c ∈ TL.tl x, c < 128 := fun c hc => of_decide_eq_true (List.all_eq_true.mp h c hc)
theorem asc_dg : ∀ n ∈ List.range 7, asc (dg n) = true := by decide +kernel
theorem asc_yn : ∀ b : Bool, asc (yn b) = true := by decide +kernel
theorem asc_mw : ∀ m ∈ sixes, asc (mw m) = true := by decide +kernel
theorem asc_late : ∀ d ∈ List.range 3, asc (lateS d) = true := by decide +kernel
theorem asc_sep : asc "\n" = true ∧ asc " " = true := by decide +kernel
theorem asc_text {s : Stg} (w : Wf s) : ∀ c ∈ TL.tl (text s), c < 128 := by
  refine join_all (asc_mem asc_sep.1) fun x hx => ?_
  rcases List.mem_cons.mp hx with rfl | hx
  · exact asc_mem (asc_late s.late (List.mem_range.mpr (by have := w.late; omega)))
  · obtain ⟨r, hr, rfl⟩ := List.mem_map.mp hx
    have w' := w.rows r hr
    refine join_all (asc_mem asc_sep.2) fun y hy => ?_
    unfold wds at hy
    rcases List.mem_cons.mp hy with rfl | hy
    · exact asc_mem (asc_dg r.held.toNat (List.mem_range.mpr w'.k.2))
    · rcases List.mem_cons.mp hy with rfl | hy
      · exact asc_mem (asc_yn r.says)
      · obtain ⟨m, hm, rfl⟩ := List.mem_map.mp hy
        have h6 := w.r6
        exact asc_mem (asc_mw m (mem_sixes (by have := w'.mv m hm; omega)))
theorem up_ok : ((List.range 128).all fun c => (Unicode.upperOf c).all fun z => decide (z < 0x110000)) = true := by decide +kernel
theorem so_upper {x : Str} (h : ∀ c ∈ TL.tl x, c < 128) : PyData.strOk (Txt.upper x) = true := by
  refine so_of fun c hc => ?_
  have hc : c ∈ (Txt.upper x).cps := Array.mem_toList_iff.mp hc
  unfold Txt.upper placed at hc
  obtain ⟨xs, hxs, hc⟩ := Array.mem_flatten.mp hc
  obtain ⟨i, hi, rfl⟩ := Array.mem_mapIdx.mp hxs
  have h1 := h x.cps[i] (Array.mem_toList_iff.mpr (Array.getElem_mem hi))
  have h2 := List.all_eq_true.mp up_ok x.cps[i] (List.mem_range.mpr h1)
  exact of_decide_eq_true (List.all_eq_true.mp h2 c (by simpa using hc))
/-- what both can read -/
def Rd (v : PyData) : Prop := cl v ∧ ∀ x, v = .str x → x.length ≤ 89000
theorem rd_str {x : Str} (h : PyData.strOk x = true) (hl : x.length ≤ 89000) : Rd (.str x) := ⟨h, fun y e => by cases e; exact hl⟩
theorem Rd.both {v : PyData} {S : Sto} (h : Rd v) : F_law_read_so [.pv v] S = .ok (.pv (resV v)) S ∧ F_law_due [.pv v] S = .ok (.pv (resV v)) S ∧ opNe (resV v) (resV v) = some (.bool false) ∧ isiF "bool" (.pv (resV v)) S = .ok (.pv (.bool false)) S := e_both h.1 h.2
theorem rd_odd {v : PyData} (h : Gd 0 (5 + 2) v) : Rd v := ⟨h.cl, fun x e => by
  subst e
  have h1 := h.1
  simp only [vb, Bool.and_eq_true, decide_eq_true_eq] at h1
  omega⟩
theorem sat_B0 {l : Nat} {x : Str} {y0 y1 y4 y5 y6 y7 y8 y9 : Option Val} {S : Sto} {E : Str → Sto → Prop} {D : Ws} (v : Vat l S) (hx : PyData.strOk x = true) (hz : x.length ≤ 40000)
    (h : ∀ y z S', PyData.strOk y = true → y.length ≤ 2 * x.length + 40 → Nx l S S' → D.n [y0, y1, some (.loc l), some (.pv (.str y)), y4, y5, z, y7, y8, y9] S') :
    (B_p_law_0 [y0, y1, some (.loc l), some (.pv (.str x)), y4, y5, y6, y7, y8, y9] S).sat E D := by
  unfold B_p_law_0
  refine sat_then (fun ρ S' => ∃ y, PyData.strOk y = true ∧ y.length ≤ 2 * x.length + 40 ∧ Nx l S S' ∧ ρ = [y0, y1, some (.loc l), some (.pv (.str y)), y4, y5, y6, y7, y8, y9]) ?_ ?_
  · rw [ap_Set, sat_s, ap_Call, sat_bind]
    show (F_law_spoilt [.loc l, .pv (.str x)] S).sat _ _
    exact sat_spoilt v hx hz fun y S' h1 h2 nx => ⟨y, h1, h2, nx, rfl⟩
  rintro ρ S1 ⟨y, h1, h2, nx, rfl⟩
  obtain ⟨r1, r2, r3, r4⟩ := (rd_str h1 (by omega)).both (S := S1)
  refine sat_then (fun ρ S' => S' = S1 ∧ ρ = [y0, y1, some (.loc l), some (.pv (.str y)), y4, y5, some (.pv (resV (.str y))), y7, y8, y9]) ?_ ?_
  · rw [ap_Set, sat_s]
    simp only [ap_Call, ap_Cons, ap_Nm, ap_Nil, List.getElem?_cons_zero, List.getElem?_cons_succ, Res.bind_ok, r1, sat_ok, sat_next, List.set_cons_succ, List.set_cons_zero]
    first | trivial | exact ⟨rfl, rfl⟩
  rintro ρ S2 ⟨rfl, rfl⟩
  refine sat_no ?_ (h y _ S2 h1 h2 nx)
  simp only [ap_OrT, ap_Tst, ap_d2, ap_Isi, ap_Call, ap_Cons, ap_Nm, ap_Nil, List.getElem?_cons_zero, List.getElem?_cons_succ, Res.bind_ok, r2, r4, l2_pv, r3, bl_pv, Bool.false_eq_true, ite_false]
theorem sat_B1 {ns : List Int} {k : Nat} {y2 y3 y4 y5 y6 y7 y8 y9 : Option Val} {S : Sto} {E : Str → Sto → Prop} {D : Ws}
    (h : ∀ z2 z3 z4 z5 z6 S', D.n [some (.ro (ns.map .int)), some (.pv (.int (k : Nat))), z2, z3, z4, z5, z6, y7, y8, y9] S') :
    (B_p_law_1 [some (.ro (ns.map .int)), some (.pv (.int (k : Nat))), y2, y3, y4, y5, y6, y7, y8, y9] S).sat E D := by
  unfold B_p_law_1
  refine sat_then (fun ρ S' => ∃ l, ρ = [some (.ro (ns.map .int)), some (.pv (.int (k : Nat))), some (.loc l), y3, y4, y5, y6, y7, y8, y9] ∧ Vat l S') ?_ ?_
  · rw [ap_Set, sat_s, ap_Call, sat_bind]
    show (F_law_vat [.ro (ns.map .int), .pv (.int (k : Nat))] S).sat _ _
    exact sat_vat (by omega) fun a b ha hb h2 => ⟨_, rfl, Vat.new ha hb h2⟩
  rintro ρ S1 ⟨l, rfl, v1⟩
  refine sat_then (fun ρ S' => ∃ s, ρ = [some (.ro (ns.map .int)), some (.pv (.int (k : Nat))), some (.loc l), some (.pv (.str (text s))), y4, y5, y6, y7, y8, y9] ∧ Wf s ∧ Vat l S') ?_ ?_
  · rw [ap_Set, sat_s]
    simp only [dM1, sat_bind, ap_C, sat_ok, ap_Call, ap_Cons, ap_Nm, ap_Nil, List.getElem?_cons_zero, List.getElem?_cons_succ, Res.bind_ok]
    refine sat_stage v1 fun p S' hp nx => ?_
    obtain ⟨s, rfl, w⟩ := stOk_typed hp
    have el := e_law_lines (S := S') w
    have jt := join_text w
    simp only [el, sat_ok, jt, sat_next]
    exact ⟨s, rfl, w, nx.vat⟩
  rintro ρ S2 ⟨s, rfl, w, v2⟩
  have tl := text_len w
  have ts := so_text w
  have lu : (Txt.upper (text s)).length ≤ 3 * (text s).length := len_upper _
  have su := so_upper (asc_text w)
  have s1 := sep_ok
  have sl : (" " : Str).length = 1 ∧ PyData.strOk (" " : Str) = true := by decide +kernel
  have a1 : opAdd (.str (text s)) (.str "\n") = some (.str (text s ++ "\n")) := ad_any (by rw [nl_len]; omega)
  have a2 : opAdd (.str " ") (.str (text s)) = some (.str (" " ++ text s)) := ad_any (by rw [sl.1]; omega)
  have a3 : opAdd (.str (text s)) (.str " ") = some (.str (text s ++ " ")) := ad_any (by rw [sl.1]; omega)
  have l1 : (text s ++ "\n").length = (text s).length + ("\n" : Str).length := Str.length_append _ _
  have l2 : (" " ++ text s).length = (" " : Str).length + (text s).length := Str.length_append _ _
  have l3 : (text s ++ " ").length = (text s).length + (" " : Str).length := Str.length_append _ _
  have hu : decide ((text s).length ≤ 1000000) = true := decide_eq_true (by omega)
  refine sat_then (fun ρ S' => Vat l S' ∧ ∃ z4, ρ = [some (.ro (ns.map .int)), some (.pv (.int (k : Nat))), some (.loc l), some (.pv (.str (text s))), z4, y5, y6, y7, y8, y9]) ?_ ?_
  · rw [ap_For, sat_s, ap_Items, sat_bind]
    simp only [ap_Lst, sat_bind, ap_Cons, ap_d2, ap_C, ap_Call, ap_Upper, ap_Nm, ap_Nil, List.getElem?_cons_zero, List.getElem?_cons_succ, Res.bind_ok, l2_pv, a1, a2, a3, hu, ite_true, sat_ok]
    refine sat_odd 30 2 v2 (by omega) fun p S3 gp nx => ?_
    simp only [pvs_cons, pvs_nil, Option.map_some, List.length_cons, List.length_nil, show szOk (0 + 1) = true from rfl, show szOk (0 + 1 + 1 + 1 + 1 + 1 + 1) = true from rfl, ite_true, Res.bind_ok, l2_pv, a3, hu, sat_ok, itemsOf]
    have hr : ∀ q ∈ [PyData.str (text s ++ "\n"), .str (" " ++ text s), p, .list [.str (text s)], .str (Txt.upper (text s)), .str (text s ++ " ")], Rd q := fun q hq => by
      simp only [List.mem_cons, List.not_mem_nil, or_false] at hq
      rcases hq with rfl | rfl | rfl | rfl | rfl | rfl
      · exact rd_str (so_app ts so_nl) (by rw [l1, nl_len]; omega)
      · exact rd_str (so_app sl.2 ts) (by rw [l2, sl.1]; omega)
      · exact rd_odd gp
      · refine ⟨?_, fun x e => by cases e⟩
        exact (sh_l (d := 0) (xs := [.str (text s)]) fun z hz => by
          have : z = .str (text s) := by simpa using hz
          rw [this]; exact sh_s ts).1
      · exact rd_str su (by omega)
      · exact rd_str (so_app ts sl.2) (by rw [l3, sl.1]; omega)
    refine for_inv (I := fun i ρ S' => S' = S3 ∧ ∃ z4, ρ = [some (.ro (ns.map .int)), some (.pv (.int (k : Nat))), some (.loc l), some (.pv (.str (text s))), z4, y5, y6, y7, y8, y9]) ⟨rfl, _, rfl⟩ (fun i q ρ S' hq ⟨e1, z4, e2⟩ => ?_) (fun ρ S' ⟨e1, hh⟩ => ⟨e1 ▸ nx.vat, hh⟩)
    subst e1 e2
    rw [List.getElem?_map] at hq
    obtain ⟨q, hq', rfl⟩ := Option.map_eq_some_iff.mp hq
    obtain ⟨r1, r2, r3, r4⟩ := (hr q (List.mem_of_getElem? hq')).both (S := S')
    refine ⟨[some (.ro (ns.map .int)), some (.pv (.int (k : Nat))), some (.loc l), some (.pv (.str (text s))), some (.pv q), y5, y6, y7, y8, y9], rfl, ?_⟩
    refine sat_no ?_ ⟨rfl, _, rfl⟩
    simp only [ap_Tst, ap_d2, ap_Call, ap_Cons, ap_Nm, ap_Nil, List.getElem?_cons_zero, List.getElem?_cons_succ, Res.bind_ok, r1, r2, l2_pv, r3, bl_pv]
  rintro ρ S3 ⟨v3, z4, rfl⟩
  have rg := rng_ok (j := 7) (S := S3) (by omega) (by omega)
  rw [ap_For, sat_s, ap_Rng1, sat_bind]
  simp only [ap_C, sat_ok]
  rw [rg, sat_ok]
  refine for_inv (I := fun i ρ S' => Vat l S' ∧ i ≤ 7 ∧ ∃ x z5 z6, PyData.strOk x = true ∧ x.length + 40 ≤ 240 * 2 ^ i ∧ ρ = [some (.ro (ns.map .int)), some (.pv (.int (k : Nat))), some (.loc l), some (.pv (.str x)), z4, z5, z6, y7, y8, y9])
    ⟨v3, by omega, text s, y5, y6, ts, by omega, rfl⟩ (fun i q ρ S' hq ⟨vv, hi, x, z5, z6, hx, hz, er⟩ => ?_) (fun ρ S' ⟨_, _, x, z5, z6, _, _, er⟩ => er ▸ h _ _ _ _ _ _)
  have hi7 : i < 7 := by
    have := (List.getElem?_eq_some_iff.mp hq).1
    simpa using this
  have h2 : 2 ^ i ≤ 2 ^ 6 := Nat.pow_le_pow_right (by decide) (by omega)
  have h3 : 2 ^ (i + 1) = 2 * 2 ^ i := by rw [Nat.pow_succ]; omega
  subst er
  refine ⟨[some (.ro (ns.map .int)), some (.pv (.int (k : Nat))), some (.loc l), some (.pv (.str x)), z4, some q, z6, y7, y8, y9], rfl, ?_⟩
  refine sat_B0 vv hx (by omega) fun y z S2 g1 g2 nx => ⟨nx.vat, by omega, y, _, _, g1, by rw [h3]; omega, rfl⟩
def rowS : Str := "\n0 no 0 0 0 0"
def ends1 : List (PyData × Int) := [(.str "", 1), (.none, 0), (.str "late 0\n", 2), (.str "late 0", 2), (.str ("late 0" ++ Txt.mul rowS 7), 9), (.str ("late 0" ++ rowS ++ "\nlate 0"), 4)]
def ends2 : List (PyData × Int) := [(.str (cutS rowS (some 1) none), 2), (.str "late 0\n0 no 0 0 0 1", 3), (.str "late 0\n1 no 0 0 0 0", 3), (.str "late 0\n0 no 0 0 0 6", 2)]
def ends3 : List (PyData × Int) := [(.str "late 0\n0 no 0 0 0 0!!", 2), (.str "late 0\n0 no 0 0 0 !", 2), (.str "late 0\n0 no 00 0 0 0", 2)]
def eE (e : PyData × Int) : PyData := .tuple [e.1, .int e.2]
def okE (e : PyData × Int) : Bool := (match e.1 with
  | .str x => PyData.strOk x && decide (x.length ≤ 1000)
  | .none => true
  | _ => false) && (match resV e.1 with
  | .int i => decide (i = e.2)
  | _ => false)
theorem ends_ok : ((ends1 ++ ends2 ++ ends3).all okE) = true := by decide +kernel
theorem rd_end {e : PyData × Int} (h : okE e = true) : Rd e.1 ∧ resV e.1 = .int e.2 := by
  obtain ⟨p, i⟩ := e
  unfold okE at h
  simp only [Bool.and_eq_true] at h
  obtain ⟨h1, h2⟩ := h
  constructor
  · cases p with
    | str x =>
      simp only [Bool.and_eq_true, decide_eq_true_eq] at h1
      exact rd_str h1.1 (by omega)
    | none => exact ⟨rfl, fun x e => by cases e⟩
    | _ => cases h1
  · simp only at h2 ⊢
    split at h2
    · rename_i j hj
      rw [hj, of_decide_eq_true h2]
    · cases h2
theorem sat_law {ns : List Int} {S : Sto} {E : Str → Sto → Prop} {Q : Val → Sto → Prop} (hl : ns.length ≤ 63) (h : ∀ S', Q (.pv (.bool true)) S') : (F_p_law [.ro (ns.map .int)] S).sat E Q := by
  unfold F_p_law
  refine sat_fun rfl ?_
  show (dSeq _ _ [some (.ro (ns.map .int)), none, none, none, none, none, none, none, none, none] S).sat _ _
  refine sat_then (fun ρ S' => ∃ y1 y2 y3 y4 y5 y6, ρ = [some (.ro (ns.map .int)), y1, y2, y3, y4, y5, y6, none, none, none]) ?_ ?_
  · have rg := rng_ok (j := ((max 6 (min 14 ns.length) : Nat) : Int)) (S := S) (by omega) (by omega)
    have e1 : b1 fLen [.ro (ns.map .int)] S = .ok (.pv (.int ns.length)) S := by simp [b1, fLen]
    have e2 : (if (if (ns.length : Int) < 14 then (ns.length : Int) else 14) > 6 then (if (ns.length : Int) < 14 then (ns.length : Int) else 14) else 6) = ((max 6 (min 14 ns.length) : Nat) : Int) := by split <;> split <;> omega
    rw [ap_For, sat_s, ap_Rng1, sat_bind]
    simp only [ap_Call, ap_Cons, ap_C, ap_Nm, ap_Nil, Res.bind_ok, List.getElem?_cons_zero, e1, b2min, b2max, b2m, sat_ok]
    rw [e2, rg, sat_ok]
    refine for_inv (I := fun _ ρ S' => ∃ y1 y2 y3 y4 y5 y6, ρ = [some (.ro (ns.map .int)), y1, y2, y3, y4, y5, y6, none, none, none])
      ⟨none, none, none, none, none, none, rfl⟩ (fun i x ρ S' hx ⟨y1, y2, y3, y4, y5, y6, er⟩ => ?_) (fun ρ S' hh => hh)
    obtain ⟨i, rfl⟩ : ∃ i : Nat, x = .pv (.int (i : Nat)) := by
      rw [List.getElem?_map] at hx
      obtain ⟨j, _, rfl⟩ := Option.map_eq_some_iff.mp hx
      exact ⟨j, rfl⟩
    subst er
    refine ⟨[some (.ro (ns.map .int)), some (.pv (.int (i : Nat))), y2, y3, y4, y5, y6, none, none, none], rfl, ?_⟩
    exact sat_B1 fun z2 z3 z4 z5 z6 S2 => ⟨_, _, _, _, _, _, rfl⟩
  rintro ρ S1 ⟨y1, y2, y3, y4, y5, y6, rfl⟩
  refine sat_then (fun ρ S' => S' = S1 ∧ ρ = [some (.ro (ns.map .int)), y1, y2, y3, y4, y5, y6, some (.pv (.str rowS)), none, none]) ?_ ?_
  · rw [ap_Set, sat_s, ap_C, sat_ok, sat_next]; exact ⟨rfl, rfl⟩
  rintro ρ S2 ⟨rfl, rfl⟩
  have rl : rowS.length = 13 ∧ ("late 0" : Str).length = 6 ∧ ("\nlate 0" : Str).length = 7 ∧ (Txt.mul rowS 7).length = 91 ∧ ("late 0" ++ rowS).length = 19 := by decide +kernel
  have m7 : opMul (.str rowS) (.int 7) = some (.str (Txt.mul rowS 7)) := by
    show (if (decide ((7 : Int).natAbs ≤ 1000) && decide (rowS.length ≤ 1000)) = true then some (PyData.str (Txt.mul rowS 7)) else none) = _
    rw [if_pos (by rw [rl.1]; rfl)]
  have a1 : opAdd (.str "late 0") (.str (Txt.mul rowS 7)) = some (.str ("late 0" ++ Txt.mul rowS 7)) := ad_any (by omega)
  have a2 : opAdd (.str "late 0") (.str rowS) = some (.str ("late 0" ++ rowS)) := ad_any (by omega)
  have a3 : opAdd (.str ("late 0" ++ rowS)) (.str "\nlate 0") = some (.str ("late 0" ++ rowS ++ "\nlate 0")) := ad_any (by omega)
  have sc : slOf (some 1) none (.str rowS) = some (.str (cutS rowS (some 1) none)) := by
    have z : szOk rowS.length = true := decide_eq_true (by omega)
    simp only [slOf]; rw [if_pos z]
  refine sat_then (fun ρ S' => S' = S2 ∧ ρ = [some (.ro (ns.map .int)), y1, y2, y3, y4, y5, y6, some (.pv (.str rowS)), some (.pv (.list (ends1.map eE))), none]) ?_ ?_
  · rw [ap_Set, sat_s]
    simp only [ap_Lst, ap_Tup, ap_Cons, ap_d2, ap_C, ap_Nm, ap_Nil, List.getElem?_cons_zero, List.getElem?_cons_succ, Res.bind_ok, l2_pv, m7, a1, a2, a3, pvs_cons, pvs_nil, Option.map_some, List.length_cons, List.length_nil, show szOk (0 + 1 + 1) = true from rfl, show szOk (0 + 1 + 1 + 1 + 1 + 1 + 1) = true from rfl, ite_true, sat_ok, sat_next, List.set_cons_succ, List.set_cons_zero]
    exact ⟨trivial, rfl⟩
  rintro ρ S3 ⟨rfl, rfl⟩
  have c1 : opAdd (.list (ends1.map eE)) (.list (ends2.map eE)) = some (.list ((ends1 ++ ends2).map eE)) := by rw [List.map_append]; rfl
  have c2 : opAdd (.list ((ends1 ++ ends2).map eE)) (.list (ends3.map eE)) = some (.list ((ends1 ++ ends2 ++ ends3).map eE)) := by rw [List.map_append (l₁ := ends1 ++ ends2)]; rfl
  refine sat_then (fun ρ S' => S' = S3 ∧ ρ = [some (.ro (ns.map .int)), y1, y2, y3, y4, y5, y6, some (.pv (.str rowS)), some (.pv (.list ((ends1 ++ ends2).map eE))), none]) ?_ ?_
  · rw [ap_Set, sat_s]
    have b : dLst (dCons (dTup (dCons (dSl (dNm 7) (dPt (dC (.int 1))) dNo) (dCons (dC (.int 2)) dNil))) (dCons (dTup (dCons (dC (.str "late 0\n0 no 0 0 0 1")) (dCons (dC (.int 3)) dNil))) (dCons (dTup (dCons (dC (.str "late 0\n1 no 0 0 0 0")) (dCons (dC (.int 3)) dNil))) (dCons (dTup (dCons (dC (.str "late 0\n0 no 0 0 0 6")) (dCons (dC (.int 2)) dNil))) dNil))))
        [some (.ro (ns.map .int)), y1, y2, y3, y4, y5, y6, some (.pv (.str rowS)), some (.pv (.list (ends1.map eE))), none] S3 = .ok (.pv (.list (ends2.map eE))) S3 := by
      simp only [ap_Lst, ap_Tup, ap_Cons, ap_d2, ap_Sl, ap_Pt, ap_No, ap_C, ap_Nm, ap_Nil, List.getElem?_cons_zero, List.getElem?_cons_succ, Res.bind_ok, intOf, sl_pv, sc, pvs_cons, pvs_nil, Option.map_some, List.length_cons, List.length_nil, show szOk (0 + 1 + 1) = true from rfl, show szOk (0 + 1 + 1 + 1 + 1) = true from rfl, ite_true]
      rfl
    simp only [ap_d2, b, ap_Nm, List.getElem?_cons_zero, List.getElem?_cons_succ, Res.bind_ok, l2_pv, c1, sat_ok, sat_next, List.set_cons_succ, List.set_cons_zero]
    first | trivial | exact ⟨rfl, rfl⟩
  rintro ρ S4 ⟨rfl, rfl⟩
  refine sat_then (fun ρ S' => S' = S4 ∧ ρ = [some (.ro (ns.map .int)), y1, y2, y3, y4, y5, y6, some (.pv (.str rowS)), some (.pv (.list ((ends1 ++ ends2 ++ ends3).map eE))), none]) ?_ ?_
  · rw [ap_Set, sat_s]
    have b : dLst (dCons (dTup (dCons (dC (.str "late 0\n0 no 0 0 0 0!!")) (dCons (dC (.int 2)) dNil))) (dCons (dTup (dCons (dC (.str "late 0\n0 no 0 0 0 !")) (dCons (dC (.int 2)) dNil))) (dCons (dTup (dCons (dC (.str "late 0\n0 no 00 0 0 0")) (dCons (dC (.int 2)) dNil))) dNil)))
        [some (.ro (ns.map .int)), y1, y2, y3, y4, y5, y6, some (.pv (.str rowS)), some (.pv (.list ((ends1 ++ ends2).map eE))), none] S4 = .ok (.pv (.list (ends3.map eE))) S4 := by
      simp only [ap_Lst, ap_Tup, ap_Cons, ap_C, ap_Nil, Res.bind_ok, pvs_cons, pvs_nil, Option.map_some, List.length_cons, List.length_nil, show szOk (0 + 1 + 1) = true from rfl, show szOk (0 + 1 + 1 + 1) = true from rfl, ite_true]
      rfl
    simp only [ap_d2, b, ap_Nm, List.getElem?_cons_zero, List.getElem?_cons_succ, Res.bind_ok, l2_pv, c2, sat_ok, sat_next, List.set_cons_succ, List.set_cons_zero]
    first | trivial | exact ⟨rfl, rfl⟩
  rintro ρ S5 ⟨rfl, rfl⟩
  have eok := List.all_eq_true.mp ends_ok
  have elen : (ends1 ++ ends2 ++ ends3).length = 13 := rfl
  generalize hen : ends1 ++ ends2 ++ ends3 = en at eok elen ⊢
  have lc := lc_gen' (g := gN 9) (T := dTst (d2 opNe (dCall F_law_read_so (dCons (dIx (dNm 9) (dC (.int 0))) dNil)) (dIx (dNm 9) (dC (.int 1))))) (A := dNm 9) (ρ := wipeE [some (.ro (ns.map .int)), y1, y2, y3, y4, y5, y6, some (.pv (.str rowS)), some (.pv (.list (en.map eE))), none] [9]) (S := S5)
    (val := fun e : PyData × Int => Val.pv (eE e)) (keep := fun _ => false) (out := eE) en (xs := (en.map eE).map .pv) (by rw [List.map_map]; rfl) (fun e he => ⟨_, rfl, by
      obtain ⟨g1, g2⟩ := rd_end (eok e he)
      obtain ⟨r1, _, r3, _⟩ := g1.both (S := S5)
      have i0 : liftIx (.pv (eE e)) (.pv (.int 0)) S5 = .ok (.pv e.1) S5 := by rw [ix_pv]; rfl
      have i1 : liftIx (.pv (eE e)) (.pv (.int 1)) S5 = .ok (.pv (.int e.2)) S5 := by rw [ix_pv]; rfl
      rw [g2] at r1 r3
      simp only [wipeE, ap_Tst, ap_d2, ap_Ix, ap_C, ap_Call, ap_Cons, ap_Nm, ap_Nil, List.set_cons_succ, List.set_cons_zero, List.getElem?_cons_zero, List.getElem?_cons_succ, Res.bind_ok, i0, i1, r1, l2_pv, r3, bl_pv], fun h => by cases h⟩) (by omega)
  have fe : (en.filter fun _ => false) = [] := by simp
  rw [fe] at lc
  have q0 : opEq (.list []) (.list []) = some (.bool true) := rfl
  rw [ap_Ret, sat_s]
  simp only [ap_d2, ap_Lc, ap_Items, ap_Lst, ap_Nm, ap_Nil, List.getElem?_cons_zero, List.getElem?_cons_succ, Res.bind_ok, itemsOf, lc, List.map_nil, pvs_nil, Option.map_some, List.length_nil, show szOk 0 = true from rfl, ite_true, l2_pv, q0, sat_ok, sat_ret]
  show (leave S.length (.pv (.bool true)) S5).sat E Q
  rw [leave_pv, sat_ok]
  exact h _

end Law
set_option maxHeartbeats 4000000
namespace Law
open PySem PySem.Spec PyProof.Rows L2 L2H LamX Mi
def topS (i : Nat) : Stmt := PySem.Challenge.pw_latestops_k13_texts_spoilt.main.body.getD i (.Pass ⟨0, 0, 0, 0⟩)
def fa : List He.Fa := [.free "isinstance", .free "int", .free "bool", .free "tuple", .free "len", .free "str", .free "range", .int "MOST_HELD" 6, .int "MOST_ROWS" 6, .glo "FIGURES", .free "enumerate", .glo "InvalidText", .free "max", .free "min", .free "abs", .glo "_law_is_whole", .glo "_law_is_row", .glo "_law_is_stage", .glo "_law_line_of", .glo "_law_due", .glo "_law_lines", .glo "_law_under", .glo "_law_some", .glo "_law_odd", .glo "is_whole", .glo "is_move", .glo "is_row", .glo "has_stage", .glo "late_of", .glo "move_of", .glo "row_of", .glo "read_stage", .glo "_law_read_so", .glo "_law_spoilt", .glo "_law_any_row", .glo "_law_otherwise", .glo "_law_queue", .glo "_law_stage", .glo "_law_vat", .glo "law", .glo "StopError"]
def fn : List He.DefD := [dOf "_law_is_whole" (topS 20), dOf "_law_is_row" (topS 22), dOf "_law_is_stage" (topS 21), dOf "_law_line_of" (topS 31), dOf "_law_due" (topS 32), dOf "_law_lines" (topS 28), dOf "_law_under" (topS 18), dOf "_law_some" (topS 19), dOf "_law_odd" (topS 27), dOf "is_whole" (topS 6), dOf "is_move" (topS 7), dOf "is_row" (topS 8), dOf "has_stage" (topS 9), dOf "late_of" (topS 14), dOf "move_of" (topS 12), dOf "row_of" (topS 13), dOf "read_stage" (topS 15), dOf "_law_read_so" (topS 29), dOf "_law_spoilt" (topS 30), dOf "_law_any_row" (topS 25), dOf "_law_otherwise" (topS 26), dOf "_law_queue" (topS 23), dOf "_law_stage" (topS 24), dOf "_law_vat" (topS 17), dOf "law" (topS 33), mOf "InvalidText" "__init__" (mSt (topS 2) 0)]
def tf : List Str := []
def tuL : List (Str × List Str) := [("FIGURES", ["0", "1", "2", "3", "4", "5", "6"])]
section
variable {P : Program} {w : World} {K : PySem.W.Frag} {mg : Str → Option Value} {base : Heap}
abbrev sti_InvalidText : Stmt := mSt (topS 2) 0
theorem sci_InvalidText : FnScope ["self", "line"] ["self", "line"] (defScope sti_InvalidText) := ⟨rfl, rfl, rfl, by decide +kernel, rfl, by decide +kernel, by decide +kernel⟩
theorem oe_InvalidText (T : Tx fa fn K mg) (h1 : oexB K (He.ga K "InvalidText") "line" = true) (h2 : sinB K (He.ga K "StopError") = true) : OeOk P w K mg base 1 "InvalidText" "line" := oe_ok (st := sti_InvalidText) (msg := "not the text of a stage") T (M 25) (M 11) h1 sci_InvalidText rfl rfl (fun cd A outer s H E => pss_cons (ps_expr (pe_sinit (by rfl) (T.gl "StopError" (M 40)) h2 (pa_cons (pe_var (i := 0) rfl (.inl rfl)) (pa_cons pe_str pa_nil)))) (pss_one (ps_ost (pe_var (i := 0) rfl (.inl rfl)) (pe_var (i := 1) rfl (.inl rfl))))) (fun _ _ _ _ _ _ us hl => match us, hl with | [_, _], _ => rfl)
abbrev st_law_is_whole : Stmt := topS 20
abbrev N_law_is_whole : List Str := ["value", "low", "high"]
theorem sc_law_is_whole : FnScope N_law_is_whole ["value", "low", "high"] (defScope st_law_is_whole) := ⟨rfl, rfl, rfl, by decide +kernel, rfl, by decide +kernel, by decide +kernel⟩
theorem ok_law_is_whole (T : Tx fa fn K mg)  : DefOk P w K mg base 1 "_law_is_whole" 3 (F_law_is_whole) := def_ok (k := 0) T (M 0) (M 15) sc_law_is_whole (fun _ _ _ _ _ _ us hl => match us, hl with | [_, _, _], _ => rfl) fun fd A outer s H E F hr tk =>
  have S := sc_law_is_whole
  (s_one (s_ret (r_and (r_isi kit_int (by rfl) (T.fr "isinstance" (M 0)) (T.fr "int" (M 1)) (r_nm 0)) (r_and (r_not (r_isi kit_bool (by rfl) (T.fr "isinstance" (M 0)) (T.fr "bool" (M 2)) (r_nm 0))) (r_one (r_chain oLe oLe (r_nm 1) (r_nm 0) (r_nm 2)))))))
abbrev st_law_is_row : Stmt := topS 22
abbrev N_law_is_row : List Str := ["row", "many", "move"]
theorem sc_law_is_row : FnScope N_law_is_row ["row", "many"] (defScope st_law_is_row) := ⟨rfl, rfl, rfl, by decide +kernel, rfl, by decide +kernel, by decide +kernel⟩
theorem ok_law_is_row (T : Tx fa fn K mg) (D_law_is_whole : DefOk P w K mg base 1 "_law_is_whole" 3 F_law_is_whole) : DefOk P w K mg base 2 "_law_is_row" 2 (F_law_is_row) := def_ok (k := 1) T (M 1) (M 16) sc_law_is_row (fun _ _ _ _ _ _ us hl => match us, hl with | [_, _], _ => rfl) fun fd A outer s H E F hr tk =>
  have S := sc_law_is_row
  (s_cons (s_if (q_bool (w_or (q_not (q_val (r_isi kit_tuple (by rfl) (T.fr "isinstance" (M 0)) (T.fr "tuple" (M 3)) (r_nm 0)))) (w_or (q_cmp (oNe (hu64 hr)) (r_bi B_len (T.fr "len" (M 4)) (by rfl) (r_cons (r_nm 0) r_nil)) r_int) (w_or (q_not (q_val (r_callD D_law_is_whole tk (hr.mono (by omega)) (ar_law_is_whole) (r_cons (r_ix (hu65 hr) (r_nm 0) r_int) (r_cons r_int (r_cons r_int r_nil)))))) (w_or1 (q_not (q_val (r_isi kit_bool (by rfl) (T.fr "isinstance" (M 0)) (T.fr "bool" (M 2)) (r_ix (hu65 hr) (r_nm 0) r_int)))))))))
  (s_one (s_ret r_bl))
  s_nil)
  (s_cons (s_if (q_bool (w_or (q_not (q_val (r_isi kit_tuple (by rfl) (T.fr "isinstance" (M 0)) (T.fr "tuple" (M 3)) (r_ix (hu65 hr) (r_nm 0) r_int)))) (w_or1 (q_cmp (oNe (hu64 hr)) (r_bi B_len (T.fr "len" (M 4)) (by rfl) (r_cons (r_ix (hu65 hr) (r_nm 0) r_int) r_nil)) r_int))))
  (s_one (s_ret r_bl))
  s_nil)
  (s_cons (s_for (passes_of rfl) rfl (i_seq (r_ix (hu65 hr) (r_nm 0) r_int)) (ws := [2]) (g_name S.nd)
  (s_cons (s_if (q_bool (w_or (q_not (q_val (r_isi kit_tuple (by rfl) (T.fr "isinstance" (M 0)) (T.fr "tuple" (M 3)) (r_nm 2)))) (w_or (q_cmp (oNe (hu64 hr)) (r_bi B_len (T.fr "len" (M 4)) (by rfl) (r_cons (r_nm 2) r_nil)) r_int) (w_or1 (q_not (q_val (r_callD D_law_is_whole tk (hr.mono (by omega)) (ar_law_is_whole) (r_cons (r_ix (hu65 hr) (r_nm 2) r_int) (r_cons r_int (r_cons (r_bin oSub (r_nm 1) r_int) r_nil))))))))))
  (s_one (s_ret r_bl))
  s_nil)
  (s_one (s_if (q_not (q_val (r_isi kit_bool (by rfl) (T.fr "isinstance" (M 0)) (T.fr "bool" (M 2)) (r_ix (hu65 hr) (r_nm 2) r_int))))
  (s_one (s_ret r_bl))
  s_nil))))
  (s_one (s_ret r_bl)))))
abbrev st_law_is_stage : Stmt := topS 21
abbrev N_law_is_stage : List Str := ["value", "row"]
theorem sc_law_is_stage : FnScope N_law_is_stage ["value"] (defScope st_law_is_stage) := ⟨rfl, rfl, rfl, by decide +kernel, rfl, by decide +kernel, by decide +kernel⟩
theorem ok_law_is_stage (T : Tx fa fn K mg) (D_law_is_whole : DefOk P w K mg base 1 "_law_is_whole" 3 F_law_is_whole) (D_law_is_row : DefOk P w K mg base 2 "_law_is_row" 2 F_law_is_row) : DefOk P w K mg base 3 "_law_is_stage" 1 (F_law_is_stage) := def_ok (k := 2) T (M 2) (M 17) sc_law_is_stage (fun _ _ _ _ _ _ us hl => match us, hl with | [_], _ => rfl) fun fd A outer s H E F hr tk =>
  have S := sc_law_is_stage
  (s_cons (s_if (q_bool (w_or (q_not (q_val (r_isi kit_tuple (by rfl) (T.fr "isinstance" (M 0)) (T.fr "tuple" (M 3)) (r_nm 0)))) (w_or (q_cmp (oNe (hu64 hr)) (r_bi B_len (T.fr "len" (M 4)) (by rfl) (r_cons (r_nm 0) r_nil)) r_int) (w_or1 (q_not (q_val (r_callD D_law_is_whole tk (hr.mono (by omega)) (ar_law_is_whole) (r_cons (r_ix (hu65 hr) (r_nm 0) r_int) (r_cons r_int (r_cons r_int r_nil))))))))))
  (s_one (s_ret r_bl))
  s_nil)
  (s_cons (s_if (q_bool (w_or (q_not (q_val (r_isi kit_tuple (by rfl) (T.fr "isinstance" (M 0)) (T.fr "tuple" (M 3)) (r_ix (hu65 hr) (r_nm 0) r_int)))) (w_or1 (q_not (q_chain oLe oLe r_int (r_bi B_len (T.fr "len" (M 4)) (by rfl) (r_cons (r_ix (hu65 hr) (r_nm 0) r_int) r_nil)) r_int)))))
  (s_one (s_ret r_bl))
  s_nil)
  (s_cons (s_for (passes_of rfl) rfl (i_seq (r_ix (hu65 hr) (r_nm 0) r_int)) (ws := [1]) (g_name S.nd)
  (s_one (s_if (q_not (q_val (r_callD D_law_is_row tk (hr.mono (by omega)) (ar_law_is_row) (r_cons (r_nm 1) (r_cons (r_bi B_len (T.fr "len" (M 4)) (by rfl) (r_cons (r_ix (hu65 hr) (r_nm 0) r_int) r_nil)) r_nil)))))
  (s_one (s_ret r_bl))
  s_nil)))
  (s_one (s_ret (r_cmp (oEq (hu64 hr)) (r_ix (hu65 hr) (r_ix (hu65 hr) (r_ix (hu65 hr) (r_nm 0) r_int) r_int) r_int) r_int rfl))))))
abbrev st_law_line_of : Stmt := topS 31
abbrev N_law_line_of : List Str := ["line", "words", "moves", "word", "bare"]
theorem sc_law_line_of : FnScope N_law_line_of ["line"] (defScope st_law_line_of) := ⟨rfl, rfl, rfl, by decide +kernel, rfl, by decide +kernel, by decide +kernel⟩
theorem ok_law_line_of (T : Tx fa fn K mg)  : DefOk P w K mg base 1 "_law_line_of" 1 (F_law_line_of) := def_ok (k := 0) T (M 3) (M 18) sc_law_line_of (fun _ _ _ _ _ _ us hl => match us, hl with | [_], _ => rfl) fun fd A outer s H E F hr tk =>
  have S := sc_law_line_of
  (s_cons (s_if (q_cmp (oIn (hu65 hr)) (r_nm 0) (r_lst (r_cons r_str (r_cons r_str (r_cons r_str r_nil)))))
  (s_one (s_ret (r_ty B_int (T.fr "int" (M 1)) (by rfl) (r_cons (r_ix (hu65 hr) (r_nm 0) (r_neg r_int)) r_nil))))
  s_nil)
  (s_cons (s_set S.nd (r_split (r_nm 0) r_str))
  (s_cons (s_if (q_bool (w_or (q_cmp (oNe (hu64 hr)) (r_bi B_len (T.fr "len" (M 4)) (by rfl) (r_cons (r_nm 1) r_nil)) r_int) (w_or (q_cmp (oNotIn (hu65 hr)) (r_ix (hu65 hr) (r_nm 1) r_int) (r_lst (r_cons r_str (r_cons r_str (r_cons r_str (r_cons r_str (r_cons r_str (r_cons r_str (r_cons r_str r_nil))))))))) (w_or1 (q_cmp (oNotIn (hu65 hr)) (r_ix (hu65 hr) (r_nm 1) r_int) (r_lst (r_cons r_str (r_cons r_str r_nil))))))))
  (s_one (s_ret r_non))
  s_nil)
  (s_cons (s_set S.nd (r_tup r_nil))
  (s_cons (s_for (passes_of rfl) rfl (i_seq (r_sl (r_nm 1) (o_some r_int) o_none)) (ws := [3]) (g_name S.nd)
  (s_cons (s_set S.nd (r_if (q_cmp (oEq (hu64 hr)) (r_sl (r_nm 3) (o_some (r_neg r_int)) o_none) r_str) (r_sl (r_nm 3) o_none (o_some (r_neg r_int))) (r_nm 3)))
  (s_cons (s_if (q_cmp (oNotIn (hu65 hr)) (r_nm 4) (r_lst (r_cons r_str (r_cons r_str (r_cons r_str (r_cons r_str (r_cons r_str (r_cons r_str r_nil))))))))
  (s_one (s_ret r_non))
  s_nil)
  (s_one (s_set S.nd (r_bin oAdd (r_nm 2) (r_tup (r_cons (r_tup (r_cons (r_ty B_int (T.fr "int" (M 1)) (by rfl) (r_cons (r_nm 4) r_nil)) (r_cons (r_cmp (oNe (hu64 hr)) (r_nm 4) (r_nm 3) rfl) r_nil))) r_nil))))))))
  (s_one (s_ret (r_tup (r_cons (r_ty B_int (T.fr "int" (M 1)) (by rfl) (r_cons (r_ix (hu65 hr) (r_nm 1) r_int) r_nil)) (r_cons (r_cmp (oEq (hu64 hr)) (r_ix (hu65 hr) (r_nm 1) r_int) r_str rfl) (r_cons (r_nm 2) r_nil)))))))))))
abbrev st_law_due : Stmt := topS 32
abbrev N_law_due : List Str := ["value", "rows", "stage", "line"]
theorem sc_law_due : FnScope N_law_due ["value"] (defScope st_law_due) := ⟨rfl, rfl, rfl, by decide +kernel, rfl, by decide +kernel, by decide +kernel⟩
theorem ok_law_due (T : Tx fa fn K mg) (D_law_line_of : DefOk P w K mg base 1 "_law_line_of" 1 F_law_line_of) (D_law_is_stage : DefOk P w K mg base 3 "_law_is_stage" 1 F_law_is_stage) : DefOk P w K mg base 4 "_law_due" 1 (F_law_due) := def_ok (k := 3) T (M 4) (M 19) sc_law_due (fun _ _ _ _ _ _ us hl => match us, hl with | [_], _ => rfl) fun fd A outer s H E F hr tk =>
  have S := sc_law_due
  (s_cons (s_if (q_not (q_val (r_isi kit_str (by rfl) (T.fr "isinstance" (M 0)) (T.fr "str" (M 5)) (r_nm 0))))
  (s_one (s_ret r_int))
  s_nil)
  (s_cons (s_setLc (own := [("line", 3)]) rfl S.nd (i_seq (r_split (r_nm 0) r_str)) (blk_by (N := N_law_due) (sc := defScope st_law_due) (by decide +kernel)) (fun _ _ _ _ _ => (g_name S.nd)) (fun _ _ _ _ _ => ts_nil) (fun _ _ _ _ _ => (r_callD D_law_line_of takesN0 (hr.mono (by omega)) (ar_law_line_of) (r_cons (r_nm 3) r_nil))))
  (s_cons (s_if (q_cmp (oIn (hu65 hr)) r_non (r_nm 1))
  (s_one (s_ret (r_bin oAdd (r_idx (hu65 hr) (r_nm 1) r_non) r_int)))
  s_nil)
  (s_cons (s_set S.nd (r_tup (r_cons (r_ix (hu65 hr) (r_nm 1) r_int) (r_cons (r_ty B_tuple (T.fr "tuple" (M 3)) (by rfl) (r_cons (r_sl (r_nm 1) (o_some r_int) o_none) r_nil)) r_nil))))
  (s_one (s_ret (r_if (q_val (r_callD D_law_is_stage tk (hr.mono (by omega)) (ar_law_is_stage) (r_cons (r_nm 2) r_nil))) (r_nm 2) (r_bin oAdd (r_bi B_len (T.fr "len" (M 4)) (by rfl) (r_cons (r_nm 1) r_nil)) r_int))))))))
abbrev st_law_lines : Stmt := topS 28
abbrev N_law_lines : List Str := ["stage", "found", "held", "says", "moves", "line", "there", "gives"]
theorem sc_law_lines : FnScope N_law_lines ["stage"] (defScope st_law_lines) := ⟨rfl, rfl, rfl, by decide +kernel, rfl, by decide +kernel, by decide +kernel⟩
theorem ok_law_lines (T : Tx fa fn K mg)  : DefOk P w K mg base 1 "_law_lines" 1 (F_law_lines) := def_ok (k := 0) T (M 5) (M 20) sc_law_lines (fun _ _ _ _ _ _ us hl => match us, hl with | [_], _ => rfl) fun fd A outer s H E F hr tk =>
  have S := sc_law_lines
  (s_cons (s_set S.nd (r_new (r_cons (r_bin oAdd r_str (r_ty B_str (T.fr "str" (M 5)) (by rfl) (r_cons (r_ix (hu65 hr) (r_nm 0) r_int) r_nil))) r_nil)))
  (s_cons (s_for (passes_of rfl) rfl (i_seq (r_ix (hu65 hr) (r_nm 0) r_int)) (ws := [2, 3, 4]) (g_tup rfl (gs_cons (g_name S.nd) (gs_cons (g_name S.nd) (gs_cons (g_name S.nd) gs_nil))))
  (s_cons (s_set S.nd (r_bin oAdd (r_ty B_str (T.fr "str" (M 5)) (by rfl) (r_cons (r_nm 2) r_nil)) (r_if (q_val (r_nm 3)) r_str r_str)))
  (s_cons (s_for (passes_of rfl) rfl (i_seq (r_nm 4)) (ws := [6, 7]) (g_tup rfl (gs_cons (g_name S.nd) (gs_cons (g_name S.nd) gs_nil)))
  (s_one (s_set S.nd (r_bin oAdd (r_bin oAdd (r_bin oAdd (r_nm 5) r_str) (r_ty B_str (T.fr "str" (M 5)) (by rfl) (r_cons (r_nm 6) r_nil))) (r_if (q_val (r_nm 7)) r_str r_str)))))
  (s_one (s_do (r_app (r_nm 1) (r_nm 5)))))))
  (s_one (s_ret (r_fz 1)))))
abbrev st_law_under : Stmt := topS 18
abbrev N_law_under : List Str := ["vat", "many", "found", "wide"]
theorem sc_law_under : FnScope N_law_under ["vat", "many"] (defScope st_law_under) := ⟨rfl, rfl, rfl, by decide +kernel, rfl, by decide +kernel, by decide +kernel⟩
theorem ok_law_under (T : Tx fa fn K mg)  : DefOk P w K mg base 1 "_law_under" 2 (F_law_under) := def_ok (k := 0) T (M 6) (M 21) sc_law_under (fun _ _ _ _ _ _ us hl => match us, hl with | [_, _], _ => rfl) fun fd A outer s H E F hr tk =>
  have S := sc_law_under
  (s_cons (s_if (q_cmp oGt (r_ix (hu65 hr) (r_nm 0) r_int) r_int)
  (s_cons (s_set S.nd (r_bin oMod (r_ty B_int (T.fr "int" (M 1)) (by rfl) (r_cons (r_ix (hu65 hr) (r_nm 0) r_int) r_nil)) (r_nm 1)))
  (s_cons (s_sub (hu65 hr) (r_bin oDiv (r_ix (hu65 hr) (r_nm 0) r_int) (r_nm 1)) (r_nm 0) r_int)
  (s_one (s_ret (r_nm 2)))))
  s_nil)
  (s_cons (s_sub (hu65 hr) (r_bin oMod (r_ty B_int (T.fr "int" (M 1)) (by rfl) (r_cons (r_bin oAdd (r_bin oMul (r_ix (hu65 hr) (r_nm 0) r_int) r_int) r_int) r_nil)) r_int) (r_nm 0) r_int)
  (s_cons (s_set S.nd (r_bin oMod (r_ty B_int (T.fr "int" (M 1)) (by rfl) (r_cons (r_bin oMul (r_ix (hu65 hr) (r_nm 0) r_int) (r_bin oAdd (r_bin oDiv (r_ix (hu65 hr) (r_nm 0) r_int) r_int) r_int)) r_nil)) r_int))
  (s_one (s_ret (r_bin oMod (r_ty B_int (T.fr "int" (M 1)) (by rfl) (r_cons (r_bin oDiv (r_nm 3) r_int) r_nil)) (r_nm 1)))))))
abbrev st_law_some : Stmt := topS 19
abbrev N_law_some : List Str := ["vat", "things"]
theorem sc_law_some : FnScope N_law_some ["vat", "things"] (defScope st_law_some) := ⟨rfl, rfl, rfl, by decide +kernel, rfl, by decide +kernel, by decide +kernel⟩
theorem ok_law_some (T : Tx fa fn K mg) (D_law_under : DefOk P w K mg base 1 "_law_under" 2 F_law_under) : DefOk P w K mg base 2 "_law_some" 2 (F_law_some) := def_ok (k := 1) T (M 7) (M 22) sc_law_some (fun _ _ _ _ _ _ us hl => match us, hl with | [_, _], _ => rfl) fun fd A outer s H E F hr tk =>
  have S := sc_law_some
  (s_one (s_ret (r_ix (hu65 hr) (r_nm 1) (r_callD D_law_under tk (hr.mono (by omega)) (ar_law_under) (r_cons (r_nm 0) (r_cons (r_bi B_len (T.fr "len" (M 4)) (by rfl) (r_cons (r_nm 1) r_nil)) r_nil))))))
abbrev st_law_odd : Stmt := topS 27
abbrev N_law_odd : List Str := ["vat", "depth", "some", "row", "part"]
theorem sc_law_odd : FnScope N_law_odd ["vat", "depth"] (defScope st_law_odd) := ⟨rfl, rfl, rfl, by decide +kernel, rfl, by decide +kernel, by decide +kernel⟩
theorem ok_law_odd (T : Tx fa fn K mg) (D_law_under : DefOk P w K mg base 1 "_law_under" 2 F_law_under) (D_law_some : DefOk P w K mg base 2 "_law_some" 2 F_law_some) : ∀ n, DefOk P w K mg base (3 + n) "_law_odd" 2 (F_law_odd n)
  | 0 => def_bad (ps := ["vat", "depth"]) T (M 8) (M 23) (fun _ _ _ _ _ _ us hl => match us, hl with | [_, _], _ => rfl)
  | n + 1 => have IH := ok_law_odd T D_law_under D_law_some n
  def_ok (k := 3 + n) T (M 8) (M 23) sc_law_odd (fun _ _ _ _ _ _ us hl => match us, hl with | [_, _], _ => rfl) fun fd A outer s H E F hr tk =>
  have S := sc_law_odd
  (s_cons (s_set S.nd (r_lst (r_cons r_non (r_cons r_bl (r_cons r_bl (r_cons r_int (r_cons r_int (r_cons r_int (r_cons r_int (r_cons (r_neg r_int) (r_cons (r_bin oPow r_int r_int) (r_cons r_str (r_cons r_str (r_cons (r_tup r_nil) (r_cons (r_lst r_nil) (r_cons (r_tup (r_cons r_bl (r_cons r_bl r_nil))) (r_cons (r_tup (r_cons r_int (r_cons r_bl r_nil))) (r_cons (r_tup (r_cons r_int (r_cons (r_tup r_nil) r_nil))) r_nil))))))))))))))))))
  (s_cons (s_set S.nd (r_bin oAdd (r_nm 2) (r_lst (r_cons (r_tup (r_cons (r_tup (r_cons r_bl (r_cons r_bl r_nil))) r_nil)) (r_cons (r_tup (r_cons r_int (r_cons r_bl (r_cons (r_bin oMul (r_tup (r_cons (r_tup (r_cons r_int (r_cons r_bl r_nil))) r_nil)) r_int) r_nil)))) (r_cons (r_tup (r_cons r_int (r_cons (r_tup (r_cons (r_tup (r_cons r_int (r_cons r_bl (r_cons (r_bin oMul (r_tup (r_cons (r_tup (r_cons r_int (r_cons r_bl r_nil))) r_nil)) r_int) r_nil)))) r_nil)) r_nil))) r_nil))))))
  (s_cons (s_if (q_bool (w_or (q_cmp (oEq (hu64 hr)) (r_nm 1) r_int) (w_or1 (q_cmp oLt (r_callD D_law_under tk (hr.mono (by omega)) (ar_law_under) (r_cons (r_nm 0) (r_cons r_int r_nil))) r_int))))
  (s_one (s_ret (r_callD D_law_some tk (hr.mono (by omega)) (ar_law_some) (r_cons (r_nm 0) (r_cons (r_nm 2) r_nil)))))
  s_nil)
  (s_cons (s_setLc (own := [("part", 4)]) rfl S.nd (i_rng1 (T.fr "range" (M 6)) (r_callD D_law_under tk (hr.mono (by omega)) (ar_law_under) (r_cons (r_nm 0) (r_cons r_int r_nil)))) (blk_by (N := N_law_odd) (sc := defScope st_law_odd) (by decide +kernel)) (fun _ _ _ _ _ => (g_name S.nd)) (fun _ _ _ _ _ => ts_nil) (fun _ _ _ _ _ => (r_callD IH takesN0 (hr.mono (by omega)) (ar_law_odd n) (r_cons (r_nm 0) (r_cons (r_bin oSub (r_nm 1) r_int) r_nil)))))
  (s_one (s_ret (r_if (q_cmp (oEq (hu64 hr)) (r_callD D_law_under tk (hr.mono (by omega)) (ar_law_under) (r_cons (r_nm 0) (r_cons r_int r_nil))) r_int) (r_nm 3) (r_ty B_tuple (T.fr "tuple" (M 3)) (by rfl) (r_cons (r_nm 3) r_nil)))))))))
abbrev st_p_is_whole : Stmt := topS 6
abbrev N_p_is_whole : List Str := ["value", "low", "high"]
theorem sc_p_is_whole : FnScope N_p_is_whole ["value", "low", "high"] (defScope st_p_is_whole) := ⟨rfl, rfl, rfl, by decide +kernel, rfl, by decide +kernel, by decide +kernel⟩
theorem ok_p_is_whole (T : Tx fa fn K mg)  : DefOk P w K mg base 1 "is_whole" 3 (F_p_is_whole) := def_ok (k := 0) T (M 9) (M 24) sc_p_is_whole (fun _ _ _ _ _ _ us hl => match us, hl with | [_, _, _], _ => rfl) fun fd A outer s H E F hr tk =>
  have S := sc_p_is_whole
  (s_one (s_ret (r_and (r_isi kit_int (by rfl) (T.fr "isinstance" (M 0)) (T.fr "int" (M 1)) (r_nm 0)) (r_and (r_not (r_isi kit_bool (by rfl) (T.fr "isinstance" (M 0)) (T.fr "bool" (M 2)) (r_nm 0))) (r_one (r_chain oLe oLe (r_nm 1) (r_nm 0) (r_nm 2)))))))
abbrev st_p_is_move : Stmt := topS 7
abbrev N_p_is_move : List Str := ["value", "standings"]
theorem sc_p_is_move : FnScope N_p_is_move ["value", "standings"] (defScope st_p_is_move) := ⟨rfl, rfl, rfl, by decide +kernel, rfl, by decide +kernel, by decide +kernel⟩
theorem ok_p_is_move (T : Tx fa fn K mg) (D_p_is_whole : DefOk P w K mg base 1 "is_whole" 3 F_p_is_whole) : DefOk P w K mg base 2 "is_move" 2 (F_p_is_move) := def_ok (k := 1) T (M 10) (M 25) sc_p_is_move (fun _ _ _ _ _ _ us hl => match us, hl with | [_, _], _ => rfl) fun fd A outer s H E F hr tk =>
  have S := sc_p_is_move
  (s_cons (s_if (q_bool (w_or (q_not (q_val (r_isi kit_tuple (by rfl) (T.fr "isinstance" (M 0)) (T.fr "tuple" (M 3)) (r_nm 0)))) (w_or (q_cmp (oNe (hu64 hr)) (r_bi B_len (T.fr "len" (M 4)) (by rfl) (r_cons (r_nm 0) r_nil)) r_int) (w_or1 (q_not (q_val (r_callD D_p_is_whole tk (hr.mono (by omega)) (ar_p_is_whole) (r_cons (r_ix (hu65 hr) (r_nm 0) r_int) (r_cons r_int (r_cons (r_bin oSub (r_nm 1) r_int) r_nil))))))))))
  (s_one (s_ret r_bl))
  s_nil)
  (s_one (s_ret (r_isi kit_bool (by rfl) (T.fr "isinstance" (M 0)) (T.fr "bool" (M 2)) (r_ix (hu65 hr) (r_nm 0) r_int)))))
abbrev st_p_is_row : Stmt := topS 8
abbrev N_p_is_row : List Str := ["value", "standings", "move"]
theorem sc_p_is_row : FnScope N_p_is_row ["value", "standings"] (defScope st_p_is_row) := ⟨rfl, rfl, rfl, by decide +kernel, rfl, by decide +kernel, by decide +kernel⟩
theorem ok_p_is_row (T : Tx fa fn K mg) (D_p_is_whole : DefOk P w K mg base 1 "is_whole" 3 F_p_is_whole) (D_p_is_move : DefOk P w K mg base 2 "is_move" 2 F_p_is_move) : DefOk P w K mg base 3 "is_row" 2 (F_p_is_row) := def_ok (k := 2) T (M 11) (M 26) sc_p_is_row (fun _ _ _ _ _ _ us hl => match us, hl with | [_, _], _ => rfl) fun fd A outer s H E F hr tk =>
  have S := sc_p_is_row
  (s_cons (s_if (q_bool (w_or (q_not (q_val (r_isi kit_tuple (by rfl) (T.fr "isinstance" (M 0)) (T.fr "tuple" (M 3)) (r_nm 0)))) (w_or (q_cmp (oNe (hu64 hr)) (r_bi B_len (T.fr "len" (M 4)) (by rfl) (r_cons (r_nm 0) r_nil)) r_int) (w_or1 (q_not (q_val (r_callD D_p_is_whole tk (hr.mono (by omega)) (ar_p_is_whole) (r_cons (r_ix (hu65 hr) (r_nm 0) r_int) (r_cons r_int (r_cons (r_gintE rfl (T.it "MOST_HELD" 6 (M 7))) r_nil))))))))))
  (s_one (s_ret r_bl))
  s_nil)
  (s_cons (s_if (q_bool (w_or (q_not (q_val (r_isi kit_bool (by rfl) (T.fr "isinstance" (M 0)) (T.fr "bool" (M 2)) (r_ix (hu65 hr) (r_nm 0) r_int)))) (w_or (q_not (q_val (r_isi kit_tuple (by rfl) (T.fr "isinstance" (M 0)) (T.fr "tuple" (M 3)) (r_ix (hu65 hr) (r_nm 0) r_int)))) (w_or1 (q_cmp (oNe (hu64 hr)) (r_bi B_len (T.fr "len" (M 4)) (by rfl) (r_cons (r_ix (hu65 hr) (r_nm 0) r_int) r_nil)) r_int)))))
  (s_one (s_ret r_bl))
  s_nil)
  (s_one (s_ret (r_cmp (oEq (hu64 hr)) (r_lc (own := [("move", 2)]) rfl S.nd (i_seq (r_ix (hu65 hr) (r_nm 0) r_int)) (blk_by (N := N_p_is_row) (sc := defScope st_p_is_row) (by decide +kernel)) (fun _ _ _ _ _ => (g_name S.nd)) (fun _ _ _ _ _ => (ts_one (q_not (q_val (r_callD D_p_is_move takesN0 (hr.mono (by omega)) (ar_p_is_move) (r_cons (r_nm 2) (r_cons (r_nm 1) r_nil))))))) (fun _ _ _ _ _ => (r_nm 2))) (r_lst r_nil) rfl)))))
abbrev st_p_has_stage : Stmt := topS 9
abbrev N_p_has_stage : List Str := ["value", "row"]
theorem sc_p_has_stage : FnScope N_p_has_stage ["value"] (defScope st_p_has_stage) := ⟨rfl, rfl, rfl, by decide +kernel, rfl, by decide +kernel, by decide +kernel⟩
theorem ok_p_has_stage (T : Tx fa fn K mg) (D_p_is_whole : DefOk P w K mg base 1 "is_whole" 3 F_p_is_whole) (D_p_is_row : DefOk P w K mg base 3 "is_row" 2 F_p_is_row) : DefOk P w K mg base 4 "has_stage" 1 (F_p_has_stage) := def_ok (k := 3) T (M 12) (M 27) sc_p_has_stage (fun _ _ _ _ _ _ us hl => match us, hl with | [_], _ => rfl) fun fd A outer s H E F hr tk =>
  have S := sc_p_has_stage
  (s_cons (s_if (q_bool (w_or (q_not (q_val (r_isi kit_tuple (by rfl) (T.fr "isinstance" (M 0)) (T.fr "tuple" (M 3)) (r_nm 0)))) (w_or (q_cmp (oNe (hu64 hr)) (r_bi B_len (T.fr "len" (M 4)) (by rfl) (r_cons (r_nm 0) r_nil)) r_int) (w_or1 (q_not (q_val (r_callD D_p_is_whole tk (hr.mono (by omega)) (ar_p_is_whole) (r_cons (r_ix (hu65 hr) (r_nm 0) r_int) (r_cons r_int (r_cons r_int r_nil))))))))))
  (s_one (s_ret r_bl))
  s_nil)
  (s_cons (s_if (q_bool (w_or (q_not (q_val (r_isi kit_tuple (by rfl) (T.fr "isinstance" (M 0)) (T.fr "tuple" (M 3)) (r_ix (hu65 hr) (r_nm 0) r_int)))) (w_or1 (q_not (q_chain oLe oLe r_int (r_bi B_len (T.fr "len" (M 4)) (by rfl) (r_cons (r_ix (hu65 hr) (r_nm 0) r_int) r_nil)) (r_gintE rfl (T.it "MOST_ROWS" 6 (M 8))))))))
  (s_one (s_ret r_bl))
  s_nil)
  (s_cons (s_if (q_cmp (oNe (hu64 hr)) (r_lc (own := [("row", 1)]) rfl S.nd (i_seq (r_ix (hu65 hr) (r_nm 0) r_int)) (blk_by (N := N_p_has_stage) (sc := defScope st_p_has_stage) (by decide +kernel)) (fun _ _ _ _ _ => (g_name S.nd)) (fun _ _ _ _ _ => (ts_one (q_not (q_val (r_callD D_p_is_row takesN0 (hr.mono (by omega)) (ar_p_is_row) (r_cons (r_nm 1) (r_cons (r_bi B_len (T.fr "len" (M 4)) (by rfl) (r_cons (r_ix (hu65 hr) (r_nm 0) r_int) r_nil)) r_nil))))))) (fun _ _ _ _ _ => (r_nm 1))) (r_lst r_nil))
  (s_one (s_ret r_bl))
  s_nil)
  (s_one (s_ret (r_cmp (oEq (hu64 hr)) (r_ix (hu65 hr) (r_ix (hu65 hr) (r_ix (hu65 hr) (r_nm 0) r_int) r_int) r_int) r_int rfl))))))
abbrev st_p_late_of : Stmt := topS 14
abbrev N_p_late_of : List Str := ["line"]
theorem sc_p_late_of : FnScope N_p_late_of ["line"] (defScope st_p_late_of) := ⟨rfl, rfl, rfl, by decide +kernel, rfl, by decide +kernel, by decide +kernel⟩
theorem ok_p_late_of (T : Tx fa fn K mg)  : DefOk P w K mg base 1 "late_of" 1 (F_p_late_of) := def_ok (k := 0) T (M 13) (M 28) sc_p_late_of (fun _ _ _ _ _ _ us hl => match us, hl with | [_], _ => rfl) fun fd A outer s H E F hr tk =>
  have S := sc_p_late_of
  (s_one (s_ret (r_if (q_cmp (oIn (hu65 hr)) (r_nm 0) (r_tup (r_cons r_str (r_cons r_str (r_cons r_str r_nil))))) (r_ty B_int (T.fr "int" (M 1)) (by rfl) (r_cons (r_ix (hu65 hr) (r_nm 0) (r_neg r_int)) r_nil)) r_non)))
abbrev st_p_move_of : Stmt := topS 12
abbrev N_p_move_of : List Str := ["word", "bare"]
theorem sc_p_move_of : FnScope N_p_move_of ["word"] (defScope st_p_move_of) := ⟨rfl, rfl, rfl, by decide +kernel, rfl, by decide +kernel, by decide +kernel⟩
theorem ok_p_move_of (T : Tx fa fn K mg)  (TU : ∀ x l, (x, l) ∈ tuL → gtB K x l = true) : DefOk P w K mg base 1 "move_of" 1 (F_p_move_of) := def_ok (k := 0) T (M 14) (M 29) sc_p_move_of (fun _ _ _ _ _ _ us hl => match us, hl with | [_], _ => rfl) fun fd A outer s H E F hr tk =>
  have S := sc_p_move_of
  (s_cons (s_set S.nd (r_if (q_cmp (oEq (hu64 hr)) (r_sl (r_nm 0) (o_some (r_neg r_int)) o_none) r_str) (r_sl (r_nm 0) o_none (o_some (r_neg r_int))) (r_nm 0)))
  (s_one (s_ret (r_if (q_cmp (oIn (hu65 hr)) (r_nm 1) (r_sl (r_gtup rfl (T.gl "FIGURES" (M 9)) (TU _ _ (by simp [tuL]))) o_none (o_some r_int))) (r_tup (r_cons (r_ty B_int (T.fr "int" (M 1)) (by rfl) (r_cons (r_nm 1) r_nil)) (r_cons (r_cmp (oNe (hu64 hr)) (r_nm 0) (r_nm 1) rfl) r_nil))) r_non))))
abbrev st_p_row_of : Stmt := topS 13
abbrev N_p_row_of : List Str := ["line", "words", "row", "word"]
theorem sc_p_row_of : FnScope N_p_row_of ["line"] (defScope st_p_row_of) := ⟨rfl, rfl, rfl, by decide +kernel, rfl, by decide +kernel, by decide +kernel⟩
theorem ok_p_row_of (T : Tx fa fn K mg) (D_p_move_of : DefOk P w K mg base 1 "move_of" 1 F_p_move_of) (D_p_is_row : DefOk P w K mg base 3 "is_row" 2 F_p_is_row) (TU : ∀ x l, (x, l) ∈ tuL → gtB K x l = true) : DefOk P w K mg base 4 "row_of" 1 (F_p_row_of) := def_ok (k := 3) T (M 15) (M 30) sc_p_row_of (fun _ _ _ _ _ _ us hl => match us, hl with | [_], _ => rfl) fun fd A outer s H E F hr tk =>
  have S := sc_p_row_of
  (s_cons (s_set S.nd (r_split (r_nm 0) r_str))
  (s_cons (s_if (q_bool (w_or (q_cmp (oNe (hu64 hr)) (r_bi B_len (T.fr "len" (M 4)) (by rfl) (r_cons (r_nm 1) r_nil)) r_int) (w_or (q_cmp (oNotIn (hu65 hr)) (r_ix (hu65 hr) (r_nm 1) r_int) (r_gtup rfl (T.gl "FIGURES" (M 9)) (TU _ _ (by simp [tuL])))) (w_or1 (q_cmp (oNotIn (hu65 hr)) (r_ix (hu65 hr) (r_nm 1) r_int) (r_tup (r_cons r_str (r_cons r_str r_nil))))))))
  (s_one (s_ret r_non))
  s_nil)
  (s_cons (s_set S.nd (r_tup (r_cons (r_ty B_int (T.fr "int" (M 1)) (by rfl) (r_cons (r_ix (hu65 hr) (r_nm 1) r_int) r_nil)) (r_cons (r_cmp (oEq (hu64 hr)) (r_ix (hu65 hr) (r_nm 1) r_int) r_str rfl) (r_cons (r_ty B_tuple (T.fr "tuple" (M 3)) (by rfl) (r_cons (r_lc (own := [("word", 3)]) rfl S.nd (i_seq (r_sl (r_nm 1) (o_some r_int) o_none)) (blk_by (N := N_p_row_of) (sc := defScope st_p_row_of) (by decide +kernel)) (fun _ _ _ _ _ => (g_name S.nd)) (fun _ _ _ _ _ => ts_nil) (fun _ _ _ _ _ => (r_callD D_p_move_of takesN0 (hr.mono (by omega)) (ar_p_move_of) (r_cons (r_nm 3) r_nil)))) r_nil)) r_nil)))))
  (s_one (s_ret (r_if (q_val (r_callD D_p_is_row tk (hr.mono (by omega)) (ar_p_is_row) (r_cons (r_nm 2) (r_cons r_int r_nil)))) (r_nm 2) r_non))))))
abbrev st_p_read_stage : Stmt := topS 15
abbrev N_p_read_stage : List Str := ["value", "lines", "number", "line", "stage"]
theorem sc_p_read_stage : FnScope N_p_read_stage ["value"] (defScope st_p_read_stage) := ⟨rfl, rfl, rfl, by decide +kernel, rfl, by decide +kernel, by decide +kernel⟩
theorem ok_p_read_stage (T : Tx fa fn K mg) (D_p_late_of : DefOk P w K mg base 1 "late_of" 1 F_p_late_of) (D_p_row_of : DefOk P w K mg base 4 "row_of" 1 F_p_row_of) (D_p_has_stage : DefOk P w K mg base 4 "has_stage" 1 F_p_has_stage) (OE_InvalidText : OeOk P w K mg base 1 "InvalidText" "line") : DefOk P w K mg base 5 "read_stage" 1 (F_p_read_stage) := def_ok (k := 4) T (M 16) (M 31) sc_p_read_stage (fun _ _ _ _ _ _ us hl => match us, hl with | [_], _ => rfl) fun fd A outer s H E F hr tk =>
  have S := sc_p_read_stage
  (s_cons (s_if (q_not (q_val (r_isi kit_str (by rfl) (T.fr "isinstance" (M 0)) (T.fr "str" (M 5)) (r_nm 0))))
  (s_one (s_raiseO rfl tk OE_InvalidText (hr.mono (by omega)) r_int))
  s_nil)
  (s_cons (s_set S.nd (r_split (r_nm 0) r_str))
  (s_cons (s_for (passes_of rfl) rfl (i_enum (T.fr "enumerate" (M 10)) (r_nm 1)) (ws := [2, 3]) (g_tup rfl (gs_cons (g_name S.nd) (gs_cons (g_name S.nd) gs_nil)))
  (s_one (s_if (q_bool (w_and (q_cmp oIs (r_callD D_p_late_of tk (hr.mono (by omega)) (ar_p_late_of) (r_cons (r_nm 3) r_nil)) r_non) (w_and1 (q_cmp oIs (r_callD D_p_row_of tk (hr.mono (by omega)) (ar_p_row_of) (r_cons (r_nm 3) r_nil)) r_non))))
  (s_one (s_raiseO rfl tk OE_InvalidText (hr.mono (by omega)) (r_bin oAdd (r_nm 2) r_int)))
  s_nil)))
  (s_cons (s_set S.nd (r_tup (r_cons (r_callD D_p_late_of tk (hr.mono (by omega)) (ar_p_late_of) (r_cons (r_ix (hu65 hr) (r_nm 1) r_int) r_nil)) (r_cons (r_ty B_tuple (T.fr "tuple" (M 3)) (by rfl) (r_cons (r_lc (own := [("line", 3)]) rfl S.nd (i_seq (r_sl (r_nm 1) (o_some r_int) o_none)) (blk_by (N := N_p_read_stage) (sc := defScope st_p_read_stage) (by decide +kernel)) (fun _ _ _ _ _ => (g_name S.nd)) (fun _ _ _ _ _ => ts_nil) (fun _ _ _ _ _ => (r_callD D_p_row_of takesN0 (hr.mono (by omega)) (ar_p_row_of) (r_cons (r_nm 3) r_nil)))) r_nil)) r_nil))))
  (s_cons (s_if (q_not (q_val (r_callD D_p_has_stage tk (hr.mono (by omega)) (ar_p_has_stage) (r_cons (r_nm 4) r_nil))))
  (s_one (s_raiseO rfl tk OE_InvalidText (hr.mono (by omega)) (r_bin oAdd (r_bi B_len (T.fr "len" (M 4)) (by rfl) (r_cons (r_nm 1) r_nil)) r_int)))
  s_nil)
  (s_one (s_ret (r_nm 4))))))))
abbrev st_law_read_so : Stmt := topS 29
abbrev N_law_read_so : List Str := ["value", "e"]
theorem sc_law_read_so : FnScope N_law_read_so ["value"] (defScope st_law_read_so) := ⟨rfl, rfl, rfl, by decide +kernel, rfl, by decide +kernel, by decide +kernel⟩
theorem ok_law_read_so (T : Tx fa fn K mg) (D_p_read_stage : DefOk P w K mg base 5 "read_stage" 1 F_p_read_stage) (XF_InvalidText : xfdB K "InvalidText" "line" = true) : DefOk P w K mg base 6 "_law_read_so" 1 (F_law_read_so) := def_ok (k := 5) T (M 17) (M 32) sc_law_read_so (fun _ _ _ _ _ _ us hl => match us, hl with | [_], _ => rfl) fun fd A outer s H E F hr tk =>
  have S := sc_law_read_so
  (s_one (s_tryF (i := 1) tk S.nd rfl (T.gl "InvalidText" (M 11)) XF_InvalidText (fun W pn xe tk => (s_one (s_ret (r_callD D_p_read_stage tk (hr.mono (by omega)) (ar_p_read_stage) (r_cons (r_nm 0) r_nil)))))))
abbrev st_law_spoilt : Stmt := topS 30
abbrev N_law_spoilt : List Str := ["vat", "text", "spot", "way", "marks", "lines", "here", "some"]
theorem sc_law_spoilt : FnScope N_law_spoilt ["vat", "text"] (defScope st_law_spoilt) := ⟨rfl, rfl, rfl, by decide +kernel, rfl, by decide +kernel, by decide +kernel⟩
theorem ok_law_spoilt (T : Tx fa fn K mg) (D_law_under : DefOk P w K mg base 1 "_law_under" 2 F_law_under) (D_law_some : DefOk P w K mg base 2 "_law_some" 2 F_law_some) : DefOk P w K mg base 3 "_law_spoilt" 2 (F_law_spoilt) := def_ok (k := 2) T (M 18) (M 33) sc_law_spoilt (fun _ _ _ _ _ _ us hl => match us, hl with | [_, _], _ => rfl) fun fd A outer s H E F hr tk =>
  have S := sc_law_spoilt
  (s_cons (s_par rfl S.nd (by decide) (r_cons (r_callD D_law_under tk (hr.mono (by omega)) (ar_law_under) (r_cons (r_nm 0) (r_cons (r_bin oAdd (r_bi B_len (T.fr "len" (M 4)) (by rfl) (r_cons (r_nm 1) r_nil)) r_int) r_nil))) (r_cons (r_callD D_law_under tk (hr.mono (by omega)) (ar_law_under) (r_cons (r_nm 0) (r_cons r_int r_nil))) r_nil)))
  (s_cons (s_if (q_cmp oLt (r_nm 3) r_int)
  (s_cons (s_set S.nd (r_lst (r_cons r_str (r_cons r_str (r_cons r_str (r_cons r_str (r_cons r_str (r_cons r_str (r_cons r_str (r_cons r_str (r_cons r_str (r_cons r_str (r_cons r_str (r_cons r_str r_nil))))))))))))))
  (s_one (s_ret (r_bin oAdd (r_bin oAdd (r_sl (r_nm 1) o_none (o_some (r_nm 2))) (r_callD D_law_some tk (hr.mono (by omega)) (ar_law_some) (r_cons (r_nm 0) (r_cons (r_nm 4) r_nil)))) (r_sl (r_nm 1) (o_some (r_bin oAdd (r_nm 2) (r_nm 3))) o_none)))))
  s_nil)
  (s_cons (s_set S.nd (r_split (r_nm 1) r_str))
  (s_cons (s_set S.nd (r_callD D_law_under tk (hr.mono (by omega)) (ar_law_under) (r_cons (r_nm 0) (r_cons (r_bi B_len (T.fr "len" (M 4)) (by rfl) (r_cons (r_nm 5) r_nil)) r_nil))))
  (s_cons (s_if (q_cmp (oEq (hu64 hr)) (r_nm 3) r_int)
  (s_one (s_ret (r_join r_str (r_bin oAdd (r_sl (r_nm 5) o_none (o_some (r_nm 6))) (r_sl (r_nm 5) (o_some (r_bin oAdd (r_nm 6) r_int)) o_none)))))
  s_nil)
  (s_cons (s_if (q_cmp (oEq (hu64 hr)) (r_nm 3) r_int)
  (s_one (s_ret (r_join r_str (r_bin oAdd (r_sl (r_nm 5) o_none (o_some (r_bin oAdd (r_nm 6) r_int))) (r_sl (r_nm 5) (o_some (r_nm 6)) o_none)))))
  s_nil)
  (s_cons (s_if (q_cmp (oEq (hu64 hr)) (r_nm 3) r_int)
  (s_one (s_ret (r_join r_str (r_bin oAdd (r_sl (r_nm 5) (o_some (r_nm 6)) o_none) (r_sl (r_nm 5) o_none (o_some (r_nm 6)))))))
  s_nil)
  (s_cons (s_set S.nd (r_lst (r_cons r_str (r_cons r_str (r_cons r_str (r_cons r_str (r_cons r_str (r_cons r_str (r_cons r_str (r_cons r_str r_nil))))))))))
  (s_one (s_ret (r_join r_str (r_bin oAdd (r_bin oAdd (r_sl (r_nm 5) o_none (o_some (r_nm 6))) (r_lst (r_cons (r_callD D_law_some tk (hr.mono (by omega)) (ar_law_some) (r_cons (r_nm 0) (r_cons (r_nm 7) r_nil))) r_nil))) (r_sl (r_nm 5) (o_some (r_bin oAdd (r_nm 6) r_int)) o_none)))))))))))))
abbrev st_law_any_row : Stmt := topS 25
abbrev N_law_any_row : List Str := ["vat", "many", "moves", "kind"]
theorem sc_law_any_row : FnScope N_law_any_row ["vat", "many"] (defScope st_law_any_row) := ⟨rfl, rfl, rfl, by decide +kernel, rfl, by decide +kernel, by decide +kernel⟩
theorem ok_law_any_row (T : Tx fa fn K mg) (D_law_under : DefOk P w K mg base 1 "_law_under" 2 F_law_under) : DefOk P w K mg base 2 "_law_any_row" 2 (F_law_any_row) := def_ok (k := 1) T (M 19) (M 34) sc_law_any_row (fun _ _ _ _ _ _ us hl => match us, hl with | [_, _], _ => rfl) fun fd A outer s H E F hr tk =>
  have S := sc_law_any_row
  (s_cons (s_setLc (own := [("kind", 3)]) rfl S.nd (i_rng1 (T.fr "range" (M 6)) r_int) (blk_by (N := N_law_any_row) (sc := defScope st_law_any_row) (by decide +kernel)) (fun _ _ _ _ _ => (g_name S.nd)) (fun _ _ _ _ _ => ts_nil) (fun _ _ _ _ _ => (r_tup (r_cons (r_callD D_law_under takesN0 (hr.mono (by omega)) (ar_law_under) (r_cons (r_nm 0) (r_cons (r_nm 1) r_nil))) (r_cons (r_cmp (oEq (hu64 hr)) (r_callD D_law_under takesN0 (hr.mono (by omega)) (ar_law_under) (r_cons (r_nm 0) (r_cons r_int r_nil))) r_int rfl) r_nil)))))
  (s_one (s_ret (r_tup (r_cons (r_callD D_law_under tk (hr.mono (by omega)) (ar_law_under) (r_cons (r_nm 0) (r_cons r_int r_nil))) (r_cons (r_cmp (oEq (hu64 hr)) (r_callD D_law_under tk (hr.mono (by omega)) (ar_law_under) (r_cons (r_nm 0) (r_cons r_int r_nil))) r_int rfl) (r_cons (r_ty B_tuple (T.fr "tuple" (M 3)) (by rfl) (r_cons (r_nm 2) r_nil)) r_nil)))))))
abbrev st_law_otherwise : Stmt := topS 26
abbrev N_law_otherwise : List Str := ["vat", "stage", "late", "rows", "at", "kind", "held", "says", "moves", "row", "move"]
theorem sc_law_otherwise : FnScope N_law_otherwise ["vat", "stage"] (defScope st_law_otherwise) := ⟨rfl, rfl, rfl, by decide +kernel, rfl, by decide +kernel, by decide +kernel⟩
theorem ok_law_otherwise (T : Tx fa fn K mg) (D_law_under : DefOk P w K mg base 1 "_law_under" 2 F_law_under) : DefOk P w K mg base 2 "_law_otherwise" 2 (F_law_otherwise) := def_ok (k := 1) T (M 20) (M 35) sc_law_otherwise (fun _ _ _ _ _ _ us hl => match us, hl with | [_, _], _ => rfl) fun fd A outer s H E F hr tk =>
  have S := sc_law_otherwise
  (s_cons (s_as (ws := [2, 3]) (r_nm 1) (g_tup rfl (gs_cons (g_name S.nd) (gs_cons (g_name S.nd) gs_nil))))
  (s_cons (s_par rfl S.nd (by decide) (r_cons (r_callD D_law_under tk (hr.mono (by omega)) (ar_law_under) (r_cons (r_nm 0) (r_cons (r_bi B_len (T.fr "len" (M 4)) (by rfl) (r_cons (r_nm 3) r_nil)) r_nil))) (r_cons (r_callD D_law_under tk (hr.mono (by omega)) (ar_law_under) (r_cons (r_nm 0) (r_cons r_int r_nil))) r_nil)))
  (s_cons (s_as (ws := [6, 7, 8]) (r_ix (hu65 hr) (r_nm 3) (r_nm 4)) (g_tup rfl (gs_cons (g_name S.nd) (gs_cons (g_name S.nd) (gs_cons (g_name S.nd) gs_nil)))))
  (s_cons (s_if (q_cmp (oEq (hu64 hr)) (r_callD D_law_under tk (hr.mono (by omega)) (ar_law_under) (r_cons (r_nm 0) (r_cons r_int r_nil))) r_int)
  (s_one (s_set S.nd (r_tup (r_cons (r_nm 6) (r_cons (r_not (r_nm 7)) (r_cons (r_nm 8) r_nil))))))
  (s_cons (s_set S.nd (r_tup (r_cons (r_callD D_law_under tk (hr.mono (by omega)) (ar_law_under) (r_cons (r_nm 0) (r_cons (r_bi B_len (T.fr "len" (M 4)) (by rfl) (r_cons (r_nm 3) r_nil)) r_nil))) (r_cons (r_cmp (oEq (hu64 hr)) (r_callD D_law_under tk (hr.mono (by omega)) (ar_law_under) (r_cons (r_nm 0) (r_cons r_int r_nil))) r_int rfl) r_nil))))
  (s_one (s_set S.nd (r_tup (r_cons (r_nm 6) (r_cons (r_nm 7) (r_cons (r_bin oAdd (r_bin oAdd (r_sl (r_nm 8) o_none (o_some (r_nm 5))) (r_tup (r_cons (r_nm 10) r_nil))) (r_sl (r_nm 8) (o_some (r_bin oAdd (r_nm 5) r_int)) o_none)) r_nil))))))))
  (s_one (s_ret (r_tup (r_cons (r_nm 2) (r_cons (r_bin oAdd (r_bin oAdd (r_sl (r_nm 3) o_none (o_some (r_nm 4))) (r_tup (r_cons (r_nm 9) r_nil))) (r_sl (r_nm 3) (o_some (r_bin oAdd (r_nm 4) r_int)) o_none)) r_nil)))))))))
abbrev st_law_queue : Stmt := topS 23
abbrev N_law_queue : List Str := ["places", "spare", "late", "rows", "held", "moves"]
theorem sc_law_queue : FnScope N_law_queue ["places", "spare", "late"] (defScope st_law_queue) := ⟨rfl, rfl, rfl, by decide +kernel, rfl, by decide +kernel, by decide +kernel⟩
theorem ok_law_queue (T : Tx fa fn K mg)  : DefOk P w K mg base 1 "_law_queue" 3 (F_law_queue) := def_ok (k := 0) T (M 21) (M 36) sc_law_queue (fun _ _ _ _ _ _ us hl => match us, hl with | [_, _, _], _ => rfl) fun fd A outer s H E F hr tk =>
  have S := sc_law_queue
  (s_cons (s_set S.nd (r_new r_nil))
  (s_cons (s_for (passes_of rfl) rfl (i_rng1 (T.fr "range" (M 6)) (r_bin oAdd (r_nm 0) r_int)) (ws := [4]) (g_name S.nd)
  (s_cons (s_set S.nd (r_lst (r_cons (r_tup (r_cons (r_nm 4) (r_cons r_bl r_nil))) (r_cons (r_tup (r_cons (r_bi (B_max2 rfl) (T.fr "max" (M 12)) (by rfl) (r_cons r_int (r_cons (r_bin oSub (r_nm 4) r_int) r_nil))) (r_cons (r_cmp oGt (r_nm 4) r_int rfl) r_nil))) r_nil))))
  (s_cons (s_set S.nd (r_bin oAdd (r_nm 5) (r_lst (r_cons (r_tup (r_cons (r_bi (B_min2 rfl) (T.fr "min" (M 13)) (by rfl) (r_cons (r_nm 0) (r_cons (r_bin oAdd (r_nm 4) r_int) r_nil))) (r_cons r_bl r_nil))) (r_cons (r_tup (r_cons (r_bi (B_max2 rfl) (T.fr "max" (M 12)) (by rfl) (r_cons r_int (r_cons (r_nm 4) r_nil))) (r_cons (r_cmp oGt (r_nm 4) r_int rfl) r_nil))) r_nil)))))
  (s_one (s_do (r_app (r_nm 3) (r_tup (r_cons (r_nm 4) (r_cons (r_cmp oLe (r_nm 4) (r_bin oSub (r_nm 0) (r_nm 1)) rfl) (r_cons (r_ty B_tuple (T.fr "tuple" (M 3)) (by rfl) (r_cons (r_nm 5) r_nil)) r_nil))))))))))
  (s_one (s_ret (r_tup (r_cons (r_nm 2) (r_cons (r_ty B_tuple (T.fr "tuple" (M 3)) (by rfl) (r_cons (r_nm 3) r_nil)) r_nil)))))))
abbrev st_law_stage : Stmt := topS 24
abbrev N_law_stage : List Str := ["vat", "late", "stage", "many", "rows", "standing"]
theorem sc_law_stage : FnScope N_law_stage ["vat"] (defScope st_law_stage) := ⟨rfl, rfl, rfl, by decide +kernel, rfl, by decide +kernel, by decide +kernel⟩
theorem ok_law_stage (T : Tx fa fn K mg) (D_law_some : DefOk P w K mg base 2 "_law_some" 2 F_law_some) (D_law_under : DefOk P w K mg base 1 "_law_under" 2 F_law_under) (D_law_queue : DefOk P w K mg base 1 "_law_queue" 3 F_law_queue) (D_law_otherwise : DefOk P w K mg base 2 "_law_otherwise" 2 F_law_otherwise) (D_law_any_row : DefOk P w K mg base 2 "_law_any_row" 2 F_law_any_row) : DefOk P w K mg base 3 "_law_stage" 1 (F_law_stage) := def_ok (k := 2) T (M 22) (M 37) sc_law_stage (fun _ _ _ _ _ _ us hl => match us, hl with | [_], _ => rfl) fun fd A outer s H E F hr tk =>
  have S := sc_law_stage
  (s_cons (s_set S.nd (r_callD D_law_some tk (hr.mono (by omega)) (ar_law_some) (r_cons (r_nm 0) (r_cons (r_lst (r_cons r_int (r_cons r_int (r_cons r_int (r_cons r_int (r_cons r_int r_nil)))))) r_nil))))
  (s_cons (s_if (q_cmp oGt (r_callD D_law_under tk (hr.mono (by omega)) (ar_law_under) (r_cons (r_nm 0) (r_cons r_int r_nil))) r_int)
  (s_cons (s_set S.nd (r_callD D_law_queue tk (hr.mono (by omega)) (ar_law_queue) (r_cons (r_bin oAdd r_int (r_callD D_law_under tk (hr.mono (by omega)) (ar_law_under) (r_cons (r_nm 0) (r_cons r_int r_nil)))) (r_cons (r_callD D_law_under tk (hr.mono (by omega)) (ar_law_under) (r_cons (r_nm 0) (r_cons r_int r_nil))) (r_cons (r_nm 1) r_nil)))))
  (s_one (s_ret (r_if (q_cmp (oEq (hu64 hr)) (r_callD D_law_under tk (hr.mono (by omega)) (ar_law_under) (r_cons (r_nm 0) (r_cons r_int r_nil))) r_int) (r_nm 2) (r_callD D_law_otherwise tk (hr.mono (by omega)) (ar_law_otherwise) (r_cons (r_nm 0) (r_cons (r_nm 2) r_nil)))))))
  s_nil)
  (s_cons (s_set S.nd (r_bin oAdd r_int (r_callD D_law_under tk (hr.mono (by omega)) (ar_law_under) (r_cons (r_nm 0) (r_cons r_int r_nil)))))
  (s_cons (s_setLc (own := [("standing", 5)]) rfl S.nd (i_rng1 (T.fr "range" (M 6)) (r_nm 3)) (blk_by (N := N_law_stage) (sc := defScope st_law_stage) (by decide +kernel)) (fun _ _ _ _ _ => (g_name S.nd)) (fun _ _ _ _ _ => ts_nil) (fun _ _ _ _ _ => (r_callD D_law_any_row takesN0 (hr.mono (by omega)) (ar_law_any_row) (r_cons (r_nm 0) (r_cons (r_nm 3) r_nil)))))
  (s_one (s_ret (r_tup (r_cons (r_nm 1) (r_cons (r_bin oAdd (r_tup (r_cons (r_bin oAdd (r_tup (r_cons r_int r_nil)) (r_sl (r_ix (hu65 hr) (r_nm 4) r_int) (o_some r_int) o_none)) r_nil)) (r_ty B_tuple (T.fr "tuple" (M 3)) (by rfl) (r_cons (r_sl (r_nm 4) (o_some r_int) o_none) r_nil))) r_nil)))))))))
abbrev st_law_vat : Stmt := topS 17
abbrev N_law_vat : List Str := ["script", "k", "cell"]
theorem sc_law_vat : FnScope N_law_vat ["script", "k"] (defScope st_law_vat) := ⟨rfl, rfl, rfl, by decide +kernel, rfl, by decide +kernel, by decide +kernel⟩
theorem ok_law_vat (T : Tx fa fn K mg)  : DefOk P w K mg base 1 "_law_vat" 2 (F_law_vat) := def_ok (k := 0) T (M 23) (M 38) sc_law_vat (fun _ _ _ _ _ _ us hl => match us, hl with | [_, _], _ => rfl) fun fd A outer s H E F hr tk =>
  have S := sc_law_vat
  (s_cons (s_set S.nd (r_bin oAdd (r_bin oMul r_int (r_nm 1)) r_int))
  (s_cons (s_if (q_cmp oLt (r_nm 1) (r_bi B_len (T.fr "len" (M 4)) (by rfl) (r_cons (r_nm 0) r_nil)))
  (s_one (s_set S.nd (r_bi B_abs (T.fr "abs" (M 14)) (by rfl) (r_cons (r_ty B_int (T.fr "int" (M 1)) (by rfl) (r_cons (r_ix (hu65 hr) (r_nm 0) (r_nm 1)) r_nil)) r_nil))))
  s_nil)
  (s_one (s_ret (r_new (r_cons (r_if (q_cmp oGe (r_nm 2) (r_bin oPow r_int r_int)) (r_nm 2) r_int) (r_cons (r_bin oAdd (r_bin oMod (r_ty B_int (T.fr "int" (M 1)) (by rfl) (r_cons (r_bin oAdd (r_bin oAdd (r_bin oMul (r_nm 2) r_int) (r_bin oMul r_int (r_nm 1))) r_int) r_nil)) r_int) r_int) r_nil)))))))
abbrev st_p_law : Stmt := topS 33
abbrev N_p_law : List Str := ["script", "k", "vat", "text", "value", "change", "found", "row", "rows", "one"]
theorem sc_p_law : FnScope N_p_law ["script"] (defScope st_p_law) := ⟨rfl, rfl, rfl, by decide +kernel, rfl, by decide +kernel, by decide +kernel⟩
theorem ok_p_law (T : Tx fa fn K mg) (D_law_vat : DefOk P w K mg base 1 "_law_vat" 2 F_law_vat) (D_law_stage : DefOk P w K mg base 3 "_law_stage" 1 F_law_stage) (D_law_lines : DefOk P w K mg base 1 "_law_lines" 1 F_law_lines) (D_law_odd : DefOk P w K mg base 33 "_law_odd" 2 (F_law_odd 30)) (D_law_read_so : DefOk P w K mg base 6 "_law_read_so" 1 F_law_read_so) (D_law_due : DefOk P w K mg base 4 "_law_due" 1 F_law_due) (D_law_spoilt : DefOk P w K mg base 3 "_law_spoilt" 2 F_law_spoilt) {fd : FuncData} (F : FunD K "law" "law" (defArgs st_p_law) (defBody st_p_law) (defScope st_p_law) [] [] (He.ga K "law") fd) : FnOk P w K mg base (L2N.CX P w) 34 (He.ga K "law") fd ["script"] (spF ⟨P, w, K, mg⟩ 1 (F_p_law)) := law_ok (k := 33) F sc_p_law fun A outer s H E hr tk =>
  have S := sc_p_law
  (s_cons (s_for (passes_of rfl) rfl (i_rng1 (T.fr "range" (M 6)) (r_bi (B_max2 rfl) (T.fr "max" (M 12)) (by rfl) (r_cons r_int (r_cons (r_bi (B_min2 rfl) (T.fr "min" (M 13)) (by rfl) (r_cons r_int (r_cons (r_bi B_len (T.fr "len" (M 4)) (by rfl) (r_cons (r_nm 0) r_nil)) r_nil))) r_nil)))) (ws := [1]) (g_name S.nd)
  (s_cons (s_set S.nd (r_callD D_law_vat tk (hr.mono (by omega)) (ar_law_vat) (r_cons (r_nm 0) (r_cons (r_nm 1) r_nil))))
  (s_cons (s_set S.nd (r_join r_str (r_callD D_law_lines tk (hr.mono (by omega)) (ar_law_lines) (r_cons (r_callD D_law_stage tk (hr.mono (by omega)) (ar_law_stage) (r_cons (r_nm 2) r_nil)) r_nil))))
  (s_cons (s_for (passes_of rfl) rfl (i_seq (r_lst (r_cons (r_bin oAdd (r_nm 3) r_str) (r_cons (r_bin oAdd r_str (r_nm 3)) (r_cons (r_callD D_law_odd tk (hr.mono (by omega)) (ar_law_odd 30) (r_cons (r_nm 2) (r_cons r_int r_nil))) (r_cons (r_lst (r_cons (r_nm 3) r_nil)) (r_cons (r_upper (r_nm 3)) (r_cons (r_bin oAdd (r_nm 3) r_str) r_nil)))))))) (ws := [4]) (g_name S.nd)
  (s_one (s_if (q_cmp (oNe (hu64 hr)) (r_callD D_law_read_so tk (hr.mono (by omega)) (ar_law_read_so) (r_cons (r_nm 4) r_nil)) (r_callD D_law_due tk (hr.mono (by omega)) (ar_law_due) (r_cons (r_nm 4) r_nil)))
  (s_one (s_ret r_bl))
  s_nil)))
  (s_one (s_for (passes_of rfl) rfl (i_rng1 (T.fr "range" (M 6)) r_int) (ws := [5]) (g_name S.nd)
  (s_cons (s_set S.nd (r_callD D_law_spoilt tk (hr.mono (by omega)) (ar_law_spoilt) (r_cons (r_nm 2) (r_cons (r_nm 3) r_nil))))
  (s_cons (s_set S.nd (r_callD D_law_read_so tk (hr.mono (by omega)) (ar_law_read_so) (r_cons (r_nm 3) r_nil)))
  (s_one (s_if (q_bool (w_or (q_cmp (oNe (hu64 hr)) (r_nm 6) (r_callD D_law_due tk (hr.mono (by omega)) (ar_law_due) (r_cons (r_nm 3) r_nil))) (w_or1 (q_val (r_isi kit_bool (by rfl) (T.fr "isinstance" (M 0)) (T.fr "bool" (M 2)) (r_nm 6))))))
  (s_one (s_ret r_bl))
  s_nil))))))))))
  (s_cons (s_set S.nd r_str)
  (s_cons (s_set S.nd (r_lst (r_cons (r_tup (r_cons r_str (r_cons r_int r_nil))) (r_cons (r_tup (r_cons r_non (r_cons r_int r_nil))) (r_cons (r_tup (r_cons r_str (r_cons r_int r_nil))) (r_cons (r_tup (r_cons r_str (r_cons r_int r_nil))) (r_cons (r_tup (r_cons (r_bin oAdd r_str (r_bin oMul (r_nm 7) r_int)) (r_cons r_int r_nil))) (r_cons (r_tup (r_cons (r_bin oAdd (r_bin oAdd r_str (r_nm 7)) r_str) (r_cons r_int r_nil))) r_nil))))))))
  (s_cons (s_set S.nd (r_bin oAdd (r_nm 8) (r_lst (r_cons (r_tup (r_cons (r_sl (r_nm 7) (o_some r_int) o_none) (r_cons r_int r_nil))) (r_cons (r_tup (r_cons r_str (r_cons r_int r_nil))) (r_cons (r_tup (r_cons r_str (r_cons r_int r_nil))) (r_cons (r_tup (r_cons r_str (r_cons r_int r_nil))) r_nil)))))))
  (s_cons (s_set S.nd (r_bin oAdd (r_nm 8) (r_lst (r_cons (r_tup (r_cons r_str (r_cons r_int r_nil))) (r_cons (r_tup (r_cons r_str (r_cons r_int r_nil))) (r_cons (r_tup (r_cons r_str (r_cons r_int r_nil))) r_nil))))))
  (s_one (s_ret (r_cmp (oEq (hu64 hr)) (r_lc (own := [("one", 9)]) rfl S.nd (i_seq (r_nm 8)) (blk_by (N := N_p_law) (sc := defScope st_p_law) (by decide +kernel)) (fun _ _ _ _ _ => (g_name S.nd)) (fun _ _ _ _ _ => (ts_one (q_cmp (oNe (hu64 hr)) (r_callD D_law_read_so takesN0 (hr.mono (by omega)) (ar_law_read_so) (r_cons (r_ix (hu65 hr) (r_nm 9) r_int) r_nil)) (r_ix (hu65 hr) (r_nm 9) r_int)))) (fun _ _ _ _ _ => (r_nm 9))) (r_lst r_nil) rfl))))))))
theorem all_ok (T : Tx fa fn K mg) (TU : ∀ x l, (x, l) ∈ tuL → gtB K x l = true) (OE_InvalidText : OeOk P w K mg base 1 "InvalidText" "line") (XF_InvalidText : xfdB K "InvalidText" "line" = true) {fd : FuncData} (F : FunD K "law" "law" (defArgs st_p_law) (defBody st_p_law) (defScope st_p_law) [] [] (He.ga K "law") fd) : FnOk P w K mg base (L2N.CX P w) 34 (He.ga K "law") fd ["script"] (spF ⟨P, w, K, mg⟩ 1 (F_p_law)) := by
  have D_law_is_whole : DefOk P w K mg base 1 "_law_is_whole" 3 F_law_is_whole := ok_law_is_whole T 
  have D_law_is_row : DefOk P w K mg base 2 "_law_is_row" 2 F_law_is_row := ok_law_is_row T D_law_is_whole
  have D_law_is_stage : DefOk P w K mg base 3 "_law_is_stage" 1 F_law_is_stage := ok_law_is_stage T D_law_is_whole D_law_is_row
  have D_law_line_of : DefOk P w K mg base 1 "_law_line_of" 1 F_law_line_of := ok_law_line_of T 
  have D_law_due : DefOk P w K mg base 4 "_law_due" 1 F_law_due := ok_law_due T D_law_line_of D_law_is_stage
  have D_law_lines : DefOk P w K mg base 1 "_law_lines" 1 F_law_lines := ok_law_lines T 
  have D_law_under : DefOk P w K mg base 1 "_law_under" 2 F_law_under := ok_law_under T 
  have D_law_some : DefOk P w K mg base 2 "_law_some" 2 F_law_some := ok_law_some T D_law_under
  have D_law_odd : DefOk P w K mg base 33 "_law_odd" 2 (F_law_odd 30) := ok_law_odd T D_law_under D_law_some 30
  have D_p_is_whole : DefOk P w K mg base 1 "is_whole" 3 F_p_is_whole := ok_p_is_whole T 
  have D_p_is_move : DefOk P w K mg base 2 "is_move" 2 F_p_is_move := ok_p_is_move T D_p_is_whole
  have D_p_is_row : DefOk P w K mg base 3 "is_row" 2 F_p_is_row := ok_p_is_row T D_p_is_whole D_p_is_move
  have D_p_has_stage : DefOk P w K mg base 4 "has_stage" 1 F_p_has_stage := ok_p_has_stage T D_p_is_whole D_p_is_row
  have D_p_late_of : DefOk P w K mg base 1 "late_of" 1 F_p_late_of := ok_p_late_of T 
  have D_p_move_of : DefOk P w K mg base 1 "move_of" 1 F_p_move_of := ok_p_move_of T  TU
  have D_p_row_of : DefOk P w K mg base 4 "row_of" 1 F_p_row_of := ok_p_row_of T D_p_move_of D_p_is_row TU
  have D_p_read_stage : DefOk P w K mg base 5 "read_stage" 1 F_p_read_stage := ok_p_read_stage T D_p_late_of D_p_row_of D_p_has_stage OE_InvalidText
  have D_law_read_so : DefOk P w K mg base 6 "_law_read_so" 1 F_law_read_so := ok_law_read_so T D_p_read_stage XF_InvalidText
  have D_law_spoilt : DefOk P w K mg base 3 "_law_spoilt" 2 F_law_spoilt := ok_law_spoilt T D_law_under D_law_some
  have D_law_any_row : DefOk P w K mg base 2 "_law_any_row" 2 F_law_any_row := ok_law_any_row T D_law_under
  have D_law_otherwise : DefOk P w K mg base 2 "_law_otherwise" 2 F_law_otherwise := ok_law_otherwise T D_law_under
  have D_law_queue : DefOk P w K mg base 1 "_law_queue" 3 F_law_queue := ok_law_queue T 
  have D_law_stage : DefOk P w K mg base 3 "_law_stage" 1 F_law_stage := ok_law_stage T D_law_some D_law_under D_law_queue D_law_otherwise D_law_any_row
  have D_law_vat : DefOk P w K mg base 1 "_law_vat" 2 F_law_vat := ok_law_vat T 
  exact ok_p_law T D_law_vat D_law_stage D_law_lines D_law_odd D_law_read_so D_law_due D_law_spoilt F
end
end Law
set_option maxHeartbeats 0
namespace Law
open PySem PySem.Spec PyProof.Rows L2 L2H LamX Mi
abbrev RR : PySem.W.OpenRow := PySem.W.OpenLaw.row PySem.Challenge.rw_latestops_k13_texts_spoilt
def exA (K : PySem.W.Frag) : Bool := (tfB tf K && ((tuL.all fun p => gtB K p.1 p.2) && (sinB K (He.ga K "StopError") && (oexB K (He.ga K "InvalidText") "line" && xfdB K "InvalidText" "line"))))
def hk : PySem.W.Hook := hookY 4 fa fn [] (tf.map fun x => (x, none)) exA
def ob (s : PySem.W.SharedT) : He.AlX := obsY 4 fa fn [] (tf.map fun x => (x, none)) exA (HandSHeadRun.getT s)
def loose : List Str := ([("__name__" : Str), ("StopError" : Str), ("InvalidText" : Str), ("MOST_ROWS" : Str), ("MOST_HELD" : Str), ("is_whole" : Str), ("is_move" : Str), ("is_row" : Str), ("has_stage" : Str), ("FIGURES" : Str), ("move_of" : Str), ("row_of" : Str), ("late_of" : Str), ("read_stage" : Str), ("_law_vat" : Str), ("_law_under" : Str), ("_law_some" : Str), ("_law_is_whole" : Str), ("_law_is_stage" : Str), ("_law_is_row" : Str), ("_law_queue" : Str), ("_law_stage" : Str), ("_law_any_row" : Str), ("_law_otherwise" : Str), ("_law_odd" : Str), ("_law_lines" : Str), ("_law_read_so" : Str), ("_law_spoilt" : Str), ("_law_line_of" : Str), ("_law_due" : Str)] : List Str)
theorem run (w : World) : HandSHeadRun.RunEq RR (PySem.W.view RR.prog [33]) hk ob 6000 loose w := by
  intro os
  kernel_rfl
theorem ob_eq (s : PySem.W.SharedT) : ob s = hk.obs s.abs := obsY_eq (HandSHeadRun.getT_eq s)
end Law
set_option maxHeartbeats 0
namespace Law
open PySem PySem.Spec PyProof.Rows L2 L2H LamX Mi
theorem plain_law {K : PySem.W.Frag} {ns : List Int} {S : Sto} (hl : ns.length ≤ 63) (hb : ∀ z ∈ ns, Builtin.Int.intBits z ≤ 1048576) (ht : ∀ x ∈ tf, S.any (isTab (tP K x) (lamQ x)) = true) : (F_p_law [.ro (ns.map .int)] S).sat (fun _ _ => False) fun v _ => v = .pv (.bool true) :=
  sat_law hl fun _ => rfl
end Law
set_option maxHeartbeats 0
namespace Law
open PySem PySem.Spec PyProof.Rows L2 L2H LamX Mi
theorem the_end {w : World} {K : PySem.W.Frag} {h : Heap} {mg : Str → Option Value} {f : Addr} (KX : K.In h) (G : h.Ns mainGlobals mg) (c : He.SaysX fa fn [] (tf.map fun x => (x, none)) exA w h K) (hmg : mg "law" = some (.ref f)) :
    LawAtS PySem.Challenge.rw_latestops_k13_texts_spoilt w K (L2N.CX (PySem.Challenge.rw_latestops_k13_texts_spoilt).prog w) 34 63 "script" mg f h := by
  obtain ⟨h2, hx0⟩ := He.ba (show (tfB tf K && ((tuL.all fun p => gtB K p.1 p.2) && (sinB K (He.ga K "StopError") && (oexB K (He.ga K "InvalidText") "line" && xfdB K "InvalidText" "line")))) = true from c.more)
  obtain ⟨h3, hx1⟩ := He.ba (show ((tuL.all fun p => gtB K p.1 p.2) && (sinB K (He.ga K "StopError") && (oexB K (He.ga K "InvalidText") "line" && xfdB K "InvalidText" "line"))) = true from hx0)
  obtain ⟨h4, hx2⟩ := He.ba (show (sinB K (He.ga K "StopError") && (oexB K (He.ga K "InvalidText") "line" && xfdB K "InvalidText" "line")) = true from hx1)
  obtain ⟨ho_InvalidText, hx3⟩ := He.ba (show (oexB K (He.ga K "InvalidText") "line" && xfdB K "InvalidText" "line") = true from hx2)
  have XF_InvalidText : xfdB K "InvalidText" "line" = true := hx3
  have TU : ∀ x l, (x, l) ∈ tuL → gtB K x l = true := fun x l h => List.all_eq_true.mp h3 (x, l) h
  have T : Tx fa fn K mg := Tx.of KX G c.t.d
  obtain ⟨fd, F⟩ := T.df (dOf "law" (topS 33)) (M 24)
  exact law_at KX c h2 hmg (T.gl _ (M 39)) (fun s u => FunD.bindsA (ps := ["script"]) F (fun _ _ _ _ _ _ us hl => match us, hl with | [_], _ => rfl) s [u] rfl)
    (fun base KB GB hT => all_ok T TU (oe_InvalidText T ho_InvalidText h4) XF_InvalidText F) (fun ns S hl hb ht => plain_law hl hb ht)
end Law
open PySem PySem.W PySem.Calls PyProof.Rows
set_option maxRecDepth 100000 in
set_option maxHeartbeats 0 in
theorem PySem.Challenge.cw_latestops_k13_texts_spoilt_holds : PySem.Challenge.rw_latestops_k13_texts_spoilt.Holds := by
  w_on; o_law
  refine HandSHeadRun.head_any (r := OpenLaw.row PySem.Challenge.rw_latestops_k13_texts_spoilt) (q := view (OpenLaw.row PySem.Challenge.rw_latestops_k13_texts_spoilt).prog [33]) (H := Law.hk) (ob := Law.ob) (M := 6000) (loose := Law.loose) (d := HandSHeadRun.topDef (OpenLaw.row PySem.Challenge.rw_latestops_k13_texts_spoilt).prog 33) (kwd := []) Law.ob_eq
    (by kernel_rfl) (fun s => by kernel_rfl) Law.run (by kernel_rfl) (by kernel_rfl) (by kernel_rfl) (by rfl) (by first | assumption | decide +kernel) (by decide +kernel) ⟨rfl, rfl, rfl, rfl, rfl, by decide +kernel⟩ ?hw ?hc
  case hw => w_witness2
  case hc =>
    refine LamX.walk_ofTsE (l := PySem.Challenge.rw_latestops_k13_texts_spoilt) (n := 63) (k := 34) (x := "script") (CX := fun w => L2N.CX (PySem.Challenge.rw_latestops_k13_texts_spoilt).prog w) rfl (by decide) (by kernel_rfl) ⟨rfl, by decide, by decide⟩ ?F (fun w H s e s' ⟨_, _, _, _, _, _, _, _, _, _, _, _, z⟩ => z)
    intro w mg fa h Y G hmg0
    obtain ⟨K, KX, c⟩ := Y
    have hmg : mg ("law" : PySem.Str) = some (.ref fa) := by
      have e : (HandSHeadRun.topDef (OpenLaw.row PySem.Challenge.rw_latestops_k13_texts_spoilt).prog 33).name = ("law" : PySem.Str) := by kernel_rfl
      rw [← e]
      exact hmg0
    exact ⟨K, KX, Law.the_end KX G c hmg⟩
